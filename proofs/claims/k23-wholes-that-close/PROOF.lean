import PyProof.Rows.All
import Wide.All
import OpenK.AllK
import Wide.FinOn
import HandS.ForMost
import HandS.IsInst
import HandS.TupAny
import HandS.SortInts
import HandS.Zip
import HandS.Flow
import HandS.Wide
import HandS.Small
import HandS.Style
import HandS.TupMul
import HandS.Deep
import HandS.TupLe
import HandS.Conv
import HandS.More
import KE.DataMinMax
import HandS.Flt
import HandS.SetFor
import HandS.Strs
import HandS.SortKw
import HandS.SetBool
import KE.KDictZip
import KE.KDictLaws
import HandS.HeadHook3
import PyProof.ReprBulk
import PyProof.FitsInt
import PySem.Challenge.RW_somesay_k23_wholes_that_close
set_option Elab.async false
set_option linter.all false
set_option maxRecDepth 100000
set_option maxHeartbeats 4000000
section
namespace Mi
open PySem L2

inductive D where
  | non | bl (b : Bool) | int (i : Int) | str (x : Str) | tup (ds : List D) | lst (ds : List D) | scr (ds : List D) | ref (l : Nat) | dct (ks : List Key) (ds : List D)

inductive Cell where
  | lst (ds : List D) | dct (ks : List Key) (ds : List D)
abbrev Sto := List Cell


inductive Sl where
  | no | val (d : D) | own (ds : List D)

inductive Rt where
  | val (d : D) | own (ds : List D) | bor (ds : List D) | ownd (ks : List Key) (ds : List D)

inductive BOp where
  | add | sub | mul | fdiv | mod | pow | shl
inductive COp where
  | eq | ne | lt | le | gt | ge | is | isnot | isin | notin

inductive P1 where
  | lrng | rev | repr | sset | lset | lsetb | mint | gget (j : Nat) | gin (neg : Bool) (j : Nat)
inductive P2 where
  | rpop | mxd | split | join | gg2 (j : Nat) | count | index | lrng2 | dzip | upd
inductive P3 where
  | mx3 | get
inductive Ty where
  | int | bool | str | tuple | list
  deriving DecidableEq
inductive BI where
  | abs | all | any | divmod | int | len | list | max | min | sum | tuple | sorted | str | isi (ts : List Ty) | isi1 (t : Ty)

mutual
inductive ME where
  | var (i : Nat) | bor (i : Nat) | con (d : D) | glb (j : Nat)
  | bin (o : BOp) (a b : ME) | neg (a : ME) | not (a : ME)
  | and (a b : ME) | or (a b : ME)
  | cmp (o : COp) (a b : ME) | chn (o p : COp) (a b c : ME)
  | ite (c a b : ME)
  | tup (es : MEs) | lst (es : MEs)
  | idx (a i : ME) | slc (a : ME) (lo hi : MO)
  | call (f : Nat) (es : MEs)
  | callp (f : Nat) (es : MEs)
  | bi (b : BI) (es : MEs)
  | comp (own : List Nat) (t : MT) (it : MI) (c : MO) (e : ME)
  | new (e : ME)
  | dct (ks : List Key) (es : MEs)
  | dgt (d k : ME) | din (neg : Bool) (k d : ME)
  | o1 (p : P1) (a : ME) | o2 (p : P2) (a b : ME) | o3 (p : P3) (a b c : ME)
inductive MEs where
  | nil | cons (e : ME) (es : MEs)
inductive MO where
  | no | yes (e : ME)
inductive MI where
  | rng1 (a : ME) | rng2 (a b : ME) | seq (e : ME) | enm (e : ME) | zip (a b : ME)
inductive MT where
  | nm (i : Nat) | sub (o i : ME) | tp (ts : MTs)
inductive MTs where
  | nil | cons (t : MT) (ts : MTs)
end
mutual
inductive MS where
  | asg (t : MT) (e : ME)
  | own (i : Nat) (e : ME)
  | par (i j : Nat) (oj : Bool) (a b : ME)
  | par3 (i j l : Nat) (a b c : ME)
  | aug (i : Nat) (o : BOp) (e : ME)
  | app (i : Nat) (e : ME)
  | ext (i : Nat) (e : ME)
  | rev (i : Nat)
  | sown (i : Nat) (a e : ME)
  | pops (t : MT) (i : Nat)
  | ite (c : ME) (a b : MSs)
  | forr (t : MT) (it : MI) (b : MSs)
  | whl (n : Nat) (c : ME) (b : MSs)
  | ret (e : ME)
  | reto (i : Nat)
  | expr (e : ME)
  | frz (i : Nat)
inductive MSs where
  | nil | cons (s : MS) (r : MSs)
end


def D.bl? : D → Option Bool
  | .bl b => some b
  | _ => none
def D.int? : D → Option Int
  | .int i => some i
  | _ => none
def Rt.d : Rt → Option D
  | .val d => some d
  | .own ds => some (.lst ds)
  | .bor _ => none
  | .ownd ks ds => some (.dct ks ds)
def cellL (S : Sto) (l : Nat) : Option (List D) := match S[l]? with
  | some (.lst ds) => some ds
  | _ => none
def cellD (S : Sto) (l : Nat) : Option (List Key × List D) := match S[l]? with
  | some (.dct ks ds) => some (ks, ds)
  | _ => none

def lview (S : Sto) : Rt → Option (List D)
  | .val (.lst ds) => some ds
  | .val (.scr ds) => some ds
  | .val (.ref l) => cellL S l
  | .own ds => some ds
  | .bor ds => some ds
  | _ => none

def tview (S : Sto) : Rt → Option (List D)
  | .val (.scr _) => none
  | r => lview S r

def sview (S : Sto) : Rt → Option (List D)
  | .val (.tup ds) => some ds
  | r => lview S r
mutual
def toPy : D → Option PyData
  | .non => some .none
  | .bl b => some (.bool b)
  | .int i => some (.int i)
  | .str x => some (.str x)
  | .tup ds => (toPys ds).map .tuple
  | .lst ds => (toPys ds).map .list
  | .scr ds => (toPys ds).map .list
  | .ref _ => none
  | .dct _ _ => none
def toPys : List D → Option (List PyData)
  | [] => some []
  | d :: ds => (toPy d).bind fun x => (toPys ds).map fun r => x :: r
end
def pyR : Rt → Option PyData
  | .val d => toPy d
  | .own ds => (toPys ds).map .list
  | .bor ds => (toPys ds).map .list
  | .ownd _ _ => none

def pyS (S : Sto) : Rt → Option PyData
  | .val (.ref l) => (cellL S l).bind fun ds => (toPys ds).map .list
  | r => pyR r
def ints? : List D → Option (List Int)
  | [] => some []
  | .int i :: r => (ints? r).map fun is => i :: is
  | _ => none
def bls? : List D → Option (List Bool)
  | [] => some []
  | .bl i :: r => (bls? r).map fun is => i :: is
  | _ => none
def MulOk (i j : Int) : Prop := ((-(2 ^ 64) < i ∧ i < 2 ^ 64) ∨ (-(2 ^ 64) < j ∧ j < 2 ^ 64)) ∨ CMulW i j
instance (i j : Int) : Decidable (MulOk i j) := by unfold MulOk CMulW; infer_instance
def DivOk (j : Int) : Prop := (0 < j ∧ j < 1073741824) ∨ CDivW 0 j
instance (j : Int) : Decidable (DivOk j) := by unfold DivOk CDivW; infer_instance
def binI : BOp → Int → Int → Option Int
  | .add, i, j => some (i + j)
  | .sub, i, j => some (i - j)
  | .mul, i, j => if MulOk i j then some (i * j) else none
  | .fdiv, i, j => if DivOk j then some (i / j) else none
  | .mod, i, j => if 0 < j then some (i % j) else none
  | .pow, i, j => if 0 ≤ j ∧ j ≤ 1000000 ∧ i.natAbs < 2 ^ 64 then some (i ^ j.toNat) else none
  | .shl, i, j => if 0 ≤ j ∧ j ≤ 1000000 ∧ i.natAbs < 2 ^ 64 then some (i * 2 ^ j.toNat) else none
def Rt.int? : Rt → Option Int
  | .val (.int i) => some i
  | _ => none
def Rt.bl? : Rt → Option Bool
  | .val (.bl i) => some i
  | _ => none
def Rt.str? : Rt → Option Str
  | .val (.str i) => some i
  | _ => none
def Rt.tup? : Rt → Option (List D)
  | .val (.tup i) => some i
  | _ => none
def Rt.ref? : Rt → Option Nat
  | .val (.ref i) => some i
  | _ => none
def Rt.val? : Rt → Option D
  | .val i => some i
  | _ => none
def catop0 (S : Sto) (x y : Rt) : Option Rt :=
  match x.tup?, y.tup? with
  | some xs, some ys => if xs.length + ys.length ≤ sizeLine then some (.val (.tup (xs ++ ys))) else none
  | _, _ => (tview S x).bind fun xs => (tview S y).bind fun ys => if xs.length + ys.length ≤ sizeLine then some (.own (xs ++ ys)) else none
def catop (S : Sto) (x y : Rt) : Option Rt :=
  match x.str?, y.str? with
  | some a, some b => if a.length + b.length ≤ sizeLine then some (.val (.str (a ++ b))) else none
  | _, _ => catop0 S x y
def repop0 (S : Sto) (x : Rt) (k : Int) : Option Rt := (tview S x).bind fun xs => if -(2 ^ 63) ≤ k ∧ k < 2 ^ 63 ∧ xs.length * k.toNat ≤ sizeLine then some (.own (List.replicate k.toNat xs).flatten) else none
def repop (S : Sto) (x : Rt) (k : Int) : Option Rt := match x.tup? with
  | some xs => if xs ≠ [] ∧ 2 ≤ k ∧ k ≤ 1000 ∧ xs.length ≤ 1000 then some (.val (.tup (List.replicate k.toNat xs).flatten)) else none
  | none => repop0 S x k

def binop (S : Sto) (o : BOp) (x y : Rt) : Option Rt :=
  match x.int?, y.int? with
  | some i, some j => (binI o i j).map fun k => .val (.int k)
  | none, some k => match o with
    | .mul => repop S x k
    | _ => none
  | some _, none => none
  | none, none => match o with
    | .add => catop S x y
    | _ => none

def flatD : D → Bool
  | .non => true
  | .bl _ => true
  | .int _ => true
  | .str _ => true
  | _ => false
def vOf : D → V
  | .non => .non
  | .bl b => .bl b
  | .int i => .int i
  | .str x => .str x
  | _ => .non
def inD (x : D) (xs : List D) : Option Bool := if flatD x = true ∧ xs.all flatD = true then some (inV (vOf x) (xs.map vOf)) else none
def cmpI : COp → Int → Int → Bool
  | .lt, i, j => decide (i < j)
  | .le, i, j => decide (i ≤ j)
  | .gt, i, j => decide (j < i)
  | _, i, j => decide (j ≤ i)
def eqop0 (S : Sto) (x y : Rt) : Option Bool := (pyS S x).bind fun a => (pyS S y).bind fun b => if SeqAt.shaped a = true ∧ SeqAt.shaped b = true then some (PyData.eqv a b) else none
def eqop (S : Sto) (x y : Rt) : Option Bool := match x.str?, y.str? with
  | some a, some b => some (decide (a = b))
  | _, _ => eqop0 S x y
def isN : D → Bool
  | .non => true
  | _ => false
def isop (x y : Rt) : Option Bool := match x.bl?, y.bl? with
  | some a, some b => some (decide (a = b))
  | _, _ => x.val?.bind fun a => y.val?.bind fun b => if isN b = true then some (isN a) else none

def inop (S : Sto) (x y : Rt) : Option Bool := match x.val?.bind fun d => (sview S y).bind fun ds => inD d ds with
  | some b => some b
  | none => (pyS S x).bind fun d => (pyS S y).bind fun q => match q with
    | .list ds => if SeqAt.shaped d = true ∧ SeqAt.shaped (.list ds) = true then some (ds.any fun z => PyData.eqv z d) else none
    | .tuple ds => if SeqAt.shaped d = true ∧ SeqAt.shaped (.tuple ds) = true then some (ds.any fun z => PyData.eqv z d) else none
    | _ => none
def isLt : COp → Bool
  | .lt => true
  | _ => false

def ordop (o : COp) (x y : Rt) : Option Bool := match x.int?, y.int? with
  | some i, some j => some (cmpI o i j)
  | _, _ => if isLt o = true then (x.tup?.bind ints?).bind fun is => (y.tup?.bind ints?).map fun js => HT.lexLt is js else none
def cmpop (S : Sto) (o : COp) (x y : Rt) : Option Bool :=
  match o with
  | .eq => eqop S x y
  | .ne => (eqop S x y).map fun b => !b
  | .is => isop x y
  | .isnot => (isop x y).map fun b => !b
  | .isin => inop S x y
  | .notin => (inop S x y).map fun b => !b
  | o => ordop o x y
def index (S : Sto) (x : Rt) (i : Rt) : Option D := i.int?.bind fun k => (sview S x).bind fun ds => atI ds k
def cutD (xs : List D) (lo hi : Option Int) : List D := (xs.drop (HT.sIx xs.length 0 lo)).take (HT.sIx xs.length xs.length hi - HT.sIx xs.length 0 lo)
def slice (S : Sto) (x : Rt) (lo hi : Option Int) : Option Rt :=
  match x.tup? with
  | some ds => some (.val (.tup (cutD ds lo hi)))
  | none => (lview S x).map fun ds => .own (cutD ds lo hi)
def maxI : Int → List Int → Int
  | m, [] => m
  | m, x :: r => maxI (if x > m then x else m) r
def minI : Int → List Int → Int
  | m, [] => m
  | m, x :: r => minI (if x < m then x else m) r
def insI (x : Int) : List Int → List Int
  | [] => [x]
  | y :: r => if x ≤ y then x :: y :: r else y :: insI x r
def sortI : List Int → List Int
  | [] => []
  | x :: r => insI x (sortI r)
def tyD : D → Ty → Bool
  | .bl _, t => t = .bool || t = .int
  | .int _, t => t = .int
  | .str _, t => t = .str
  | .tup _, t => t = .tuple
  | .lst _, t => t = .list
  | .scr _, t => t = .list
  | .ref _, t => t = .list
  | .dct _ _, _ => false
  | .non, _ => false
def D.key? : D → Option Key
  | .int i => some (.inl i)
  | .str x => some (.inr x)
  | _ => none

def Rt.exV : Rt → Option (List D)
  | .own ds => some ds
  | .val (.tup ds) => some ds
  | _ => none
def Rt.key? : Rt → Option Key
  | .val d => d.key?
  | _ => none
def valD : List Key → List D → Key → Option D
  | k :: ks, d :: ds, q => if k = q then some d else valD ks ds q
  | _, _, _ => none
def Rt.dctV? : Rt → Option (List Key × List D)
  | .val (.dct ks ds) => some (ks, ds)
  | .ownd ks ds => some (ks, ds)
  | _ => none
def Rt.dct? (S : Sto) : Rt → Option (List Key × List D)
  | .val (.dct ks ds) => some (ks, ds)
  | .ownd ks ds => some (ks, ds)
  | .val (.ref l) => cellD S l
  | _ => none
def D.dct? : D → Option (List Key × List D)
  | .dct ks ds => some (ks, ds)
  | _ => none
def tyR : Rt → Ty → Bool
  | .val d, t => tyD d t
  | .own _, t => t = .list
  | .bor _, t => t = .list
  | .ownd _ _, _ => false
def rngL (lo : Int) : Nat → List D
  | 0 => []
  | n + 1 => .int lo :: rngL (lo + 1) n
def D.isRef : D → Bool
  | .ref _ => true
  | _ => false

def refD (S : Sto) : Rt → Bool
  | .val (.ref l) => (cellD S l).isSome
  | _ => false
def bi1 (S : Sto) (b : BI) (r : Rt) : Option Rt :=
  match b with
  | .abs => r.int?.map fun i => .val (.int (if i < 0 then -i else i))
  | .int => match r.int?, r.bl? with
    | some i, _ => some (.val (.int i))
    | none, some k => some (.val (.int (if k then 1 else 0)))
    | none, none => none
  | .len => match r.str? with
    | some x => if x.length ≤ sizeLine then some (.val (.int x.length)) else none
    | none => (sview S r).map fun ds => .val (.int ds.length)
  | .all => (lview S r).bind fun ds => (bls? ds).map fun bs => .val (.bl (bs.all id))
  | .any => (lview S r).bind fun ds => (bls? ds).map fun bs => .val (.bl (bs.any id))
  | .sum => (sview S r).bind fun ds => (ints? ds).map fun is => .val (.int is.sum)
  | .max => (sview S r).bind fun ds => (ints? ds).bind fun is => match is with
    | [] => none
    | i :: is => some (.val (.int (maxI i is)))
  | .min => (sview S r).bind fun ds => (ints? ds).bind fun is => match is with
    | [] => none
    | i :: is => some (.val (.int (minI i is)))
  | .sorted => (lview S r).bind fun ds => (ints? ds).map fun is => .own ((sortI is).map .int)
  | .str => match r.str? with
    | some x => some (.val (.str x))
    | none => (pyR r).bind fun p => if p.showable = true ∧ p.hasDict = false ∧ p.depth ≤ 64 ∧ p.shown.length ≤ sizeLine then some (.val (.str p.shown)) else none
  | .list => (sview S r).map fun ds => .own ds
  | .tuple => match r.tup? with
    | some ds => some (.val (.tup ds))
    | none => (lview S r).map fun ds => .val (.tup ds)
  | .isi1 t => if refD S r = true then none else some (.val (.bl (tyR r t)))
  | .isi ts => if refD S r = true then none else some (.val (.bl (ts.any fun t => tyR r t)))
  | _ => none
def bi2 (b : BI) (i j : Int) : Option Rt :=
  match b with
  | .max => some (.val (.int (if j > i then j else i)))
  | .min => some (.val (.int (if j < i then j else i)))
  | .divmod => if 0 < j ∧ j < 1073741824 then some (.val (.tup [.int (i / j), .int (i % j)])) else none
  | _ => none
def biop (S : Sto) (b : BI) (xs : List Rt) : Option Rt :=
  match xs with
  | [r] => bi1 S b r
  | [r, t] => r.int?.bind fun i => t.int?.bind fun j => bi2 b i j
  | _ => none
def enmL (lo : Nat) : List D → List D
  | [] => []
  | d :: ds => .tup [.int lo, d] :: enmL (lo + 1) ds
def zipL : List D → List D → List D
  | a :: as, b :: bs => .tup [a, b] :: zipL as bs
  | _, _ => []
def inRng (i : Int) : Prop := -(2 ^ 62) ≤ i ∧ i < 2 ^ 62
instance (i : Int) : Decidable (inRng i) := by unfold inRng; infer_instance


def still (b : Bool) : Rt → Option (List D)
  | .val (.tup ds) => some ds
  | .val (.lst ds) => some ds
  | .val (.scr ds) => some ds
  | .own ds => some ds
  | .bor ds => if b then some ds else none
  | _ => none

def strs? : List D → Option (List Str)
  | [] => some []
  | .str i :: r => (strs? r).map fun is => i :: is
  | _ => none

def uniq : List Int → List Int
  | [] => []
  | x :: r => if x ∈ r then uniq r else x :: uniq r

def tints? : List D → Option (List (List Int))
  | [] => some []
  | .tup xs :: r => (ints? xs).bind fun is => (tints? r).map fun tss => is :: tss
  | _ => none

def minT (t : List Int) : List (List Int) → List Int
  | [] => t
  | y :: ys => minT (if HT.lexLt y t = true then y else t) ys

def ubl (bs : List Bool) : Nat := (if true ∈ bs then 1 else 0) + (if false ∈ bs then 1 else 0)
def P1.run (G : List D) (S : Sto) : P1 → Rt → Option (Rt × Sto)
  | .lrng, r => r.int?.bind fun j => if 0 ≤ j ∧ j ≤ 100000 then some (.own (rngL 0 j.toNat), S) else none
  | .rev, r => match r.tup? with
    | some ds => some (.val (.tup ds.reverse), S)
    | none => (lview S r).map fun ds => (.own ds.reverse, S)
  | .sset, r => (sview S r).bind fun ds => (ints? ds).bind fun is => if is.length ≤ 1000 ∧ (uniq is).length < 64 then some (.own ((sortI (uniq is)).map .int), S) else none
  | .lset, r => (sview S r).bind fun ds => (ints? ds).bind fun is => if is.length ≤ 1000 ∧ (uniq is).length < 64 then some (.val (.int (uniq is).length), S) else none
  | .lsetb, r => (lview S r).bind fun ds => (bls? ds).bind fun is => if is.length ≤ 1000 then some (.val (.int (ubl is)), S) else none
  | .mint, r => (lview S r).bind fun ds => (tints? ds).bind fun tss => match tss with
    | [] => none
    | t :: ts => some (.val (.tup ((minT t ts).map .int)), S)
  | .repr, r => match r.str? with
    | some _ => none
    | none => (pyR r).bind fun p => if p.showable = true ∧ p.hasDict = false ∧ p.depth ≤ 64 ∧ p.shown.length ≤ sizeLine then some (.val (.str p.shown), S) else none
  | .gget j, r => (G[j]?).bind fun d => d.dct?.bind fun t => r.str?.bind fun k => (valD t.1 t.2 (.inr k)).map fun x => (.val x, S)
  | .gin n j, r => (G[j]?).bind fun d => d.dct?.bind fun t => r.str?.map fun k => (.val (.bl (xor n (valD t.1 t.2 (.inr k)).isSome)), S)

def setD : List Key → List D → Key → D → List D
  | k :: ks, d :: ds, q, v => (if k = q then v else d) :: setD ks ds q v
  | _, _, _, _ => []
def putD (ks : List Key) (ds : List D) (q : Key) (v : D) : List Key × List D := if (ks.any fun k => decide (k = q)) = true then (ks, setD ks ds q v) else (ks ++ [q], ds ++ [v])

def keysD : List D → Option (List Key)
  | [] => some []
  | d :: ds => d.key?.bind fun k => (keysD ds).map fun ks => k :: ks

def mergeD (t : List Key × List D) : List Key → List D → List Key × List D
  | k :: ks, d :: ds => mergeD (putD t.1 t.2 k d) ks ds
  | _, _ => t

def P2.pre (S : Sto) : P2 → Rt → Bool
  | .rpop, .val (.ref l) => (cellL S l).isSome
  | .rpop, _ => false
  | .count, r => (lview S r).isSome
  | .index, r => (lview S r).isSome
  | .upd, .val (.ref l) => (cellD S l).isSome
  | .upd, _ => false
  | _, _ => true
def P2.run (G : List D) (S : Sto) : P2 → Rt → Rt → Option (Rt × Sto)
  | .rpop, r, i => r.ref?.bind fun l => i.int?.bind fun k => (cellL S l).bind fun ds => if -(2 ^ 63) ≤ k ∧ k < 2 ^ 63 then (seqIndex? k ds.length).bind fun j => (ds[j]?).map fun d => (.val d, S.set l (.lst (ds.eraseIdx j))) else none
  | .mxd, r, d => (lview S r).bind fun ds => (ints? ds).bind fun is => d.int?.map fun j => (.val (.int (match is with
    | [] => j
    | i :: is => maxI i is)), S)
  | .split, r, d => r.str?.bind fun a => d.str?.bind fun b => if (b.length == 0) = false ∧ a.length + 2 ≤ sizeLine then some (.own ((Txt.split a b).map .str), S) else none
  | .join, r, d => r.str?.bind fun a => (sview S d).bind fun ds => (strs? ds).bind fun ys => if (ys.map fun y => y.length + a.length).sum ≤ 16777216 then some (.val (.str (Txt.join a ys)), S) else none
  | .gg2 j, r, e => (G[j]?).bind fun d => d.dct?.bind fun t => r.str?.bind fun k => e.val?.map fun e => (.val ((valD t.1 t.2 (.inr k)).getD e), S)
  | .count, r, d => (lview S r).bind fun ds => d.val?.bind fun x => if flatD x = true ∧ ds.all flatD = true then some (.val (.int ((ds.map vOf).countP fun z => eqV z (vOf x))), S) else none
  | .index, r, d => (lview S r).bind fun ds => d.val?.bind fun x => if flatD x = true ∧ ds.all flatD = true then ((ds.map vOf).findIdx? fun z => eqV z (vOf x)).map fun (j : Nat) => (.val (.int j), S) else none
  | .lrng2, a, b => a.int?.bind fun i => b.int?.bind fun j => if 0 ≤ i ∧ i ≤ j ∧ j ≤ 100000 then some (.own (rngL i (j - i).toNat), S) else none
  | .dzip, a, b => (sview S a).bind fun as => (keysD as).bind fun ks => (sview S b).bind fun bs => if ks.Nodup ∧ ks.length = bs.length ∧ ks.length ≤ 1000 then some (.ownd ks bs, S) else none
  | .upd, a, b => a.ref?.bind fun l => (cellD S l).bind fun t => b.dctV?.bind fun u => if t.1.length + u.1.length ≤ 1000000 then some (.val .non, S.set l (.dct (mergeD t u.1 u.2).1 (mergeD t u.1 u.2).2)) else none
def P3.run (S : Sto) : P3 → Rt → Rt → Rt → Option (Rt × Sto)
  | .mx3, a, b, c => a.int?.bind fun i => b.int?.bind fun j => c.int?.map fun k => (.val (.int (maxI i [j, k])), S)
  | .get, d, k, f => d.dctV?.bind fun t => k.key?.bind fun q => f.val?.map fun e => (.val ((valD t.1 t.2 q).getD e), S)

def Rt.lend : Rt → Option D
  | .val d => some d
  | .own ds => some (.lst ds)
  | .bor ds => some (.lst ds)
  | .ownd _ _ => none
def lends : List Rt → Option (List D)
  | [] => some []
  | r :: rs => r.lend.bind fun d => (lends rs).map fun ds => d :: ds
mutual

def noRef : D → Bool
  | .non => true
  | .bl _ => true
  | .int _ => true
  | .str _ => true
  | .tup ds => noRefs ds
  | .lst ds => noRefs ds
  | .scr ds => noRefs ds
  | .ref _ => false
  | .dct _ ds => noRefs ds
def noRefs : List D → Bool
  | [] => true
  | d :: ds => noRef d && noRefs ds
end

abbrev Fns := Nat → List D → Sto → Option (Rt × Sto)
abbrev Env := List Sl
def wipeR (ρ : Env) : List Nat → Env
  | [] => ρ
  | v :: vs => (wipeR ρ vs).set v .no

def cmpL (f : D → Sto → Option (Option D × Sto)) : List D → Sto → Option (List D × Sto)
  | [], S => some ([], S)
  | d :: ds, S => (f d S).bind fun p => (cmpL f ds p.2).map fun q => (match p.1 with | some x => x :: q.1 | none => q.1, q.2)
def setRef (S : Sto) (l : Nat) (i : Int) (v : D) : Option Sto :=
  (cellL S l).bind fun ds => (ixN ds.length i).map fun j => S.set l (.lst (ds.set j v))
def setDct (S : Sto) (l : Nat) (q : Key) (v : D) : Option Sto :=
  (cellD S l).bind fun t => if t.1.length < sizeLine then some (S.set l (.dct (putD t.1 t.2 q v).1 (putD t.1 t.2 q v).2)) else none

def setAt (S : Sto) (l : Nat) (i : Rt) (v : D) : Option Sto := match cellD S l with
  | some _ => i.key?.bind fun q => setDct S l q v
  | none => i.int?.bind fun k => setRef S l k v
mutual
def evR (Φ : Fns) (G : List D) (ρ : Env) : ME → Sto → Option (Rt × Sto)
  | .var i, S => match ρ[i]? with
    | some (.val d) => some (.val d, S)
    | _ => none
  | .bor i, S => match ρ[i]? with
    | some (.own ds) => some (.bor ds, S)
    | _ => none
  | .con d, S => some (.val d, S)
  | .glb j, S => (G[j]?).bind fun d => if d.dct?.isSome = true then none else some (.val d, S)
  | .bin o a b, S => (evR Φ G ρ a S).bind fun p => (evR Φ G ρ b p.2).bind fun q => (binop q.2 o p.1 q.1).map fun r => (r, q.2)
  | .neg a, S => (evR Φ G ρ a S).bind fun p => match p.1 with
    | .val (.int i) => some (.val (.int (-i)), p.2)
    | _ => none
  | .not a, S => (evR Φ G ρ a S).bind fun p => match p.1 with
    | .val (.bl b) => some (.val (.bl (!b)), p.2)
    | _ => none
  | .and a b, S => (evR Φ G ρ a S).bind fun p => match p.1 with
    | .val (.bl true) => evR Φ G ρ b p.2
    | .val (.bl false) => some (.val (.bl false), p.2)
    | _ => none
  | .or a b, S => (evR Φ G ρ a S).bind fun p => match p.1 with
    | .val (.bl true) => some (.val (.bl true), p.2)
    | .val (.bl false) => evR Φ G ρ b p.2
    | _ => none
  | .cmp o a b, S => (evR Φ G ρ a S).bind fun p => (evR Φ G ρ b p.2).bind fun q => (cmpop q.2 o p.1 q.1).map fun r => (.val (.bl r), q.2)
  | .chn o o' a b c, S => (evR Φ G ρ a S).bind fun p => (evR Φ G ρ b p.2).bind fun q => (cmpop q.2 o p.1 q.1).bind fun r =>
      match r with
      | false => some (.val (.bl false), q.2)
      | true => (evR Φ G ρ c q.2).bind fun t => (cmpop t.2 o' q.1 t.1).map fun r => (.val (.bl r), t.2)
  | .ite c a b, S => (evR Φ G ρ c S).bind fun p => match p.1 with
    | .val (.bl true) => evR Φ G ρ a p.2
    | .val (.bl false) => evR Φ G ρ b p.2
    | _ => none
  | .tup es, S => (evs Φ G ρ es S).bind fun p => if p.1.length ≤ sizeLine then some (.val (.tup p.1), p.2) else none
  | .lst es, S => (evs Φ G ρ es S).bind fun p => if p.1.length ≤ sizeLine then some (.own p.1, p.2) else none
  | .idx a i, S => (evR Φ G ρ a S).bind fun p => (evR Φ G ρ i p.2).bind fun q => (index q.2 p.1 q.1).map fun r => (.val r, q.2)
  | .slc a lo hi, S => (evR Φ G ρ a S).bind fun p => (evO Φ G ρ lo p.2).bind fun q => (evO Φ G ρ hi q.2).bind fun t => (slice t.2 p.1 q.1 t.1).map fun r => (r, t.2)
  | .call f es, S => (evs Φ G ρ es S).bind fun p => Φ f p.1 p.2
  | .callp f es, S => (evRs Φ G ρ es S).bind fun p => (lends p.1).bind fun ds => if noRefs ds = true then (Φ f ds []).bind fun q => q.1.val?.bind fun d => if flatD d = true then some (.val d, p.2) else none else none
  | .bi b es, S => (evRs Φ G ρ es S).bind fun p => (biop p.2 b p.1).map fun r => (r, p.2)
  | .comp own t it c e, S => (evI Φ G ρ true it S).bind fun p =>
      (cmpL (fun d S => (sto Φ G t d (wipeR ρ own) S).bind fun q => (evC Φ G q.1 c q.2).bind fun r =>
        if r.1 then (evR Φ G q.1 e r.2).bind fun z => (z.1.d).map fun y => (some y, z.2) else some (none, r.2)) p.1 p.2).bind fun q =>
        if q.1.length ≤ sizeLine then some (.own q.1, q.2) else none
  | .new e, S => (evR Φ G ρ e S).bind fun p => match p.1 with
    | .own ds => some (.val (.ref p.2.length), p.2 ++ [.lst ds])
    | .ownd ks ds => some (.val (.ref p.2.length), p.2 ++ [.dct ks ds])
    | _ => none
  | .dct ks es, S => (evs Φ G ρ es S).bind fun p => if p.1.length = ks.length ∧ ks.Nodup ∧ ks.length ≤ 15 then some (.ownd ks p.1, p.2) else none
  | .dgt d k, S => (evR Φ G ρ d S).bind fun p => (evR Φ G ρ k p.2).bind fun q => (p.1.dct? q.2).bind fun t => q.1.key?.bind fun k => (valD t.1 t.2 k).map fun r => (.val r, q.2)
  | .din n k d, S => (evR Φ G ρ k S).bind fun p => (evR Φ G ρ d p.2).bind fun q => p.1.key?.bind fun k => (q.1.dct? q.2).map fun t => (.val (.bl (xor n (valD t.1 t.2 k).isSome)), q.2)
  | .o1 p a, S => (evR Φ G ρ a S).bind fun x => p.run G x.2 x.1
  | .o2 p a b, S => (evR Φ G ρ a S).bind fun x => if p.pre x.2 x.1 = true then (evR Φ G ρ b x.2).bind fun y => p.run G y.2 x.1 y.1 else none
  | .o3 p a b c, S => (evR Φ G ρ a S).bind fun x => (evR Φ G ρ b x.2).bind fun y => (evR Φ G ρ c y.2).bind fun z => p.run z.2 x.1 y.1 z.1

def evs (Φ : Fns) (G : List D) (ρ : Env) : MEs → Sto → Option (List D × Sto)
  | .nil, S => some ([], S)
  | .cons e es, S => (evR Φ G ρ e S).bind fun p => (p.1.d).bind fun d => (evs Φ G ρ es p.2).map fun q => (d :: q.1, q.2)
def evRs (Φ : Fns) (G : List D) (ρ : Env) : MEs → Sto → Option (List Rt × Sto)
  | .nil, S => some ([], S)
  | .cons e es, S => (evR Φ G ρ e S).bind fun p => (evRs Φ G ρ es p.2).map fun q => (p.1 :: q.1, q.2)
def evO (Φ : Fns) (G : List D) (ρ : Env) : MO → Sto → Option (Option Int × Sto)
  | .no, S => some (none, S)
  | .yes e, S => (evR Φ G ρ e S).bind fun p => match p.1 with
    | .val (.int i) => some (some i, p.2)
    | _ => none
def evC (Φ : Fns) (G : List D) (ρ : Env) : MO → Sto → Option (Bool × Sto)
  | .no, S => some (true, S)
  | .yes e, S => (evR Φ G ρ e S).bind fun p => match p.1 with
    | .val (.bl i) => some (i, p.2)
    | _ => none
def evI (Φ : Fns) (G : List D) (ρ : Env) (z : Bool) : MI → Sto → Option (List D × Sto)
  | .rng1 a, S => (evR Φ G ρ a S).bind fun p => p.1.int?.bind fun j => if inRng j then some (rngL 0 j.toNat, p.2) else none
  | .rng2 a b, S => (evR Φ G ρ a S).bind fun p => (evR Φ G ρ b p.2).bind fun q => p.1.int?.bind fun i => q.1.int?.bind fun j => if inRng i ∧ inRng j then some (rngL i (j - i).toNat, q.2) else none
  | .seq e, S => (evR Φ G ρ e S).bind fun p => (still z p.1).bind fun ds => some (ds, p.2)
  | .enm e, S => (evR Φ G ρ e S).bind fun p => (still z p.1).bind fun ds => some (enmL 0 ds, p.2)
  | .zip a b, S => (evR Φ G ρ a S).bind fun p => (evR Φ G ρ b p.2).bind fun q => (still z p.1).bind fun xs => (still z q.1).bind fun ys => some (zipL xs ys, q.2)

def sto (Φ : Fns) (G : List D) : MT → D → Env → Sto → Option (Env × Sto)
  | .nm i, d, ρ, S => if i < ρ.length then some (ρ.set i (.val d), S) else none
  | .sub o i, d, ρ, S => (evR Φ G ρ o S).bind fun p => (evR Φ G ρ i p.2).bind fun q => p.1.ref?.bind fun l => (setAt q.2 l q.1 d).map fun S' => (ρ, S')
  | .tp ts, d, ρ, S => match d with
    | .tup ds => stos Φ G ts ds ρ S
    | _ => none
def stos (Φ : Fns) (G : List D) : MTs → List D → Env → Sto → Option (Env × Sto)
  | .nil, ds, ρ, S => match ds with
    | [] => some (ρ, S)
    | _ => none
  | .cons t ts, ds, ρ, S => match ds with
    | [] => none
    | d :: ds => (sto Φ G t d ρ S).bind fun p => stos Φ G ts ds p.1 p.2
end
inductive SR where
  | nx (ρ : Env) (S : Sto) | rt (r : Rt) (S : Sto) | er
def SR.then (r : SR) (k : Env → Sto → SR) : SR := match r with
  | .nx ρ S => k ρ S
  | .rt r S => .rt r S
  | .er => .er
def forL (st : D → Env → Sto → Option (Env × Sto)) (body : Env → Sto → SR) : List D → Env → Sto → SR
  | [], ρ, S => .nx ρ S
  | d :: ds, ρ, S => match st d ρ S with
    | some (ρ1, S1) => (body ρ1 S1).then fun ρ2 S2 => forL st body ds ρ2 S2
    | none => .er
def whlL (c : Env → Sto → Option (Bool × Sto)) (body : Env → Sto → SR) : Nat → Env → Sto → SR
  | 0, _, _ => .er
  | n + 1, ρ, S => match c ρ S with
    | some (true, S1) => (body ρ S1).then fun ρ2 S2 => whlL c body n ρ2 S2
    | some (false, S1) => .nx ρ S1
    | none => .er
def bindE (r : Option (Rt × Sto)) (k : Rt → Sto → SR) : SR := match r with
  | some (r, S) => k r S
  | none => .er
def bindD (r : Option (Rt × Sto)) (k : D → Sto → SR) : SR := match r with
  | some (r, S) => match r.d with
    | some d => k d S
    | none => .er
  | none => .er
def slOf (o : Bool) (r : Rt) : Option Sl := match o, r with
  | true, .own ds => some (.own ds)
  | false, r => r.d.map .val
  | _, _ => none
def nxO (r : Option (Env × Sto)) : SR := match r with
  | some (ρ, S) => .nx ρ S
  | none => .er
mutual
def ex (Φ : Fns) (G : List D) : MS → Env → Sto → SR
  | .asg t e, ρ, S => bindD (evR Φ G ρ e S) fun d S => nxO (sto Φ G t d ρ S)
  | .own i e, ρ, S => bindE (evR Φ G ρ e S) fun r S => match r with
    | .own ds => if i < ρ.length then .nx (ρ.set i (.own ds)) S else .er
    | _ => .er
  | .par i j oj a b, ρ, S => bindD (evR Φ G ρ a S) fun x S => bindE (evR Φ G ρ b S) fun r S => match slOf oj r with
    | some y => if i < ρ.length ∧ j < ρ.length ∧ i ≠ j then .nx ((ρ.set i (.val x)).set j y) S else .er
    | none => .er
  | .par3 i j l a b c, ρ, S => bindD (evR Φ G ρ a S) fun x S => bindD (evR Φ G ρ b S) fun y S => bindD (evR Φ G ρ c S) fun z S =>
    if i < ρ.length ∧ j < ρ.length ∧ l < ρ.length ∧ i ≠ j ∧ i ≠ l ∧ j ≠ l then .nx (((ρ.set i (.val x)).set j (.val y)).set l (.val z)) S else .er
  | .aug i o e, ρ, S => match ρ[i]? with
    | some (.val (.int k)) => bindD (evR Φ G ρ e S) fun d S => match o, d with
      | .add, .int j => .nx (ρ.set i (.val (.int (k + j)))) S
      | .sub, .int j => .nx (ρ.set i (.val (.int (k - j)))) S
      | _, _ => .er
    | _ => .er
  | .app i e, ρ, S => match ρ[i]? with
    | some (.own ds) => bindD (evR Φ G ρ e S) fun d S => if ds.length < sizeLine then .nx (ρ.set i (.own (ds ++ [d]))) S else .er
    | _ => .er
  | .ext i e, ρ, S => match ρ[i]? with
    | some (.own ds) => bindE (evR Φ G ρ e S) fun r S => match r.exV with
      | some ys => if ds.length + ys.length ≤ sizeLine then .nx (ρ.set i (.own (ds ++ ys))) S else .er
      | none => .er
    | _ => .er
  | .rev i, ρ, S => match ρ[i]? with
    | some (.own ds) => .nx (ρ.set i (.own ds.reverse)) S
    | _ => .er
  | .sown i a e, ρ, S => bindD (evR Φ G ρ e S) fun d S => match ρ[i]? with
    | some (.own ds) => bindE (evR Φ G ρ a S) fun r S => match r with
      | .val (.int k) => match ixN ds.length k with
        | some j => .nx (ρ.set i (.own (ds.set j d))) S
        | none => .er
      | _ => .er
    | _ => .er
  | .pops t i, ρ, S => match ρ[i]? with
    | some (.own ds) => match ds.getLast? with
      | some d => nxO (sto Φ G t d (ρ.set i (.own ds.dropLast)) S)
      | none => .er
    | _ => .er
  | .ite c a b, ρ, S => bindE (evR Φ G ρ c S) fun r S => match r with
    | .val (.bl true) => exs Φ G a ρ S
    | .val (.bl false) => exs Φ G b ρ S
    | _ => .er
  | .forr t it b, ρ, S => match evI Φ G ρ false it S with
    | some (ds, S) => forL (fun d ρ S => sto Φ G t d ρ S) (fun ρ S => exs Φ G b ρ S) ds ρ S
    | none => .er
  | .whl n c b, ρ, S => whlL (fun ρ S => (evR Φ G ρ c S).bind fun p => match p.1 with
      | .val (.bl k) => some (k, p.2)
      | _ => none) (fun ρ S => exs Φ G b ρ S) n ρ S
  | .ret e, ρ, S => bindE (evR Φ G ρ e S) fun r S => match r with
    | .bor _ => .er
    | .ownd _ _ => .er
    | r => .rt r S
  | .reto i, ρ, S => match ρ[i]? with
    | some (.own ds) => .rt (.own ds) S
    | _ => .er
  | .expr e, ρ, S => bindE (evR Φ G ρ e S) fun _ S => .nx ρ S
  | .frz i, ρ, S => match ρ[i]? with
    | some (.own ds) => .nx (ρ.set i (.val (.lst ds))) S
    | some (.val _) => .nx ρ S
    | _ => .er
def exs (Φ : Fns) (G : List D) : MSs → Env → Sto → SR
  | .nil, ρ, S => .nx ρ S
  | .cons s r, ρ, S => (ex Φ G s ρ S).then fun ρ S => exs Φ G r ρ S
end

structure FD where
  np : Nat
  nn : Nat
  body : MSs
def runF (P : Nat → Option FD) (G : List D) : Nat → Fns
  | 0, _, _, _ => none
  | k + 1, f, ds, S => match P f with
    | some fd => if ds.length = fd.np then match exs (runF P G k) G fd.body (ds.map .val ++ List.replicate (fd.nn - ds.length) .no) S with
        | .rt r S' => some (r, S')
        | .nx _ S' => some (.val .non, S')
        | .er => none
      else none
    | none => none
end Mi
end
section
namespace Mi
open PySem L2

structure Wd where
  ms : List Addr
  fz : List Addr
  H : Hp
section
variable (K : PySem.W.Frag)

def KL (a : Addr) (vs : List V) : Prop := ∃ (o : Obj) (its : Array Value) (n : Nat), K.lookup a = some o ∧ o.cls = .type "list" ∧ o.dict = none ∧ o.data = .seq its n ∧ its.size ≤ sizeLine ∧ Vals vs its.toList
mutual
def Rep (W : Wd) : D → V → Prop
  | .non, v => v = .non
  | .bl b, v => v = .bl b
  | .int i, v => v = .int i
  | .str x, v => v = .str x
  | .tup ds, v => ∃ a vs, v = .ref a ∧ SqT K W.H a vs ∧ RepL W ds vs
  | .lst ds, v => ∃ a vs, v = .ref a ∧ a ∈ W.fz ∧ W.H a = some (.lst vs) ∧ RepL W ds vs
  | .scr ds, v => ∃ a vs, v = .ref a ∧ ((a ∈ W.fz ∧ Rd W.H a (.lst vs)) ∨ KL K a vs) ∧ RepL W ds vs
  | .ref l, v => ∃ a, v = .ref a ∧ W.ms[l]? = some a
  | .dct ks ds, v => ∃ a vs, v = .ref a ∧ a ∈ W.fz ∧ W.H a = some (.dK (ks.zip vs)) ∧ ks.length = ds.length ∧ RepL W ds vs
def RepL (W : Wd) : List D → List V → Prop
  | [], vs => vs = []
  | d :: ds, vs => ∃ v r, vs = v :: r ∧ Rep W d v ∧ RepL W ds r
end

def CellOk (W : Wd) (a : Addr) : Cell → Prop
  | .lst ds => ∃ vs, W.H a = some (.lst vs) ∧ RepL K W ds vs
  | .dct ks ds => ∃ vs, W.H a = some (.dK (ks.zip vs)) ∧ ks.length = ds.length ∧ RepL K W ds vs
structure Rel (W : Wd) (S : Sto) : Prop where
  len : W.ms.length = S.length
  nd : W.ms.Nodup
  cell : ∀ (l : Nat) (c : Cell), S[l]? = some c → ∃ a, W.ms[l]? = some a ∧ CellOk K W a c
  apart : ∀ a, a ∈ W.fz → a ∉ W.ms
  dom : ∀ a, a ∈ W.ms ∨ a ∈ W.fz → W.H a ≠ none
end
structure Ext (W W' : Wd) : Prop where
  ms : ∃ t, W'.ms = W.ms ++ t
  fz : ∀ a, a ∈ W.fz → a ∈ W'.fz
  keep : ∀ a o, W.H a = some o → a ∉ W.ms → W'.H a = some o
  dom : ∀ a, W.H a ≠ none → W'.H a ≠ none
  nms : ∀ a, a ∈ W'.ms → a ∈ W.ms ∨ W.H a = none
  nfz : ∀ a, a ∈ W'.fz → a ∈ W.fz ∨ W.H a = none
theorem Ext.refl (W : Wd) : Ext W W := ⟨⟨[], by simp⟩, fun _ h => h, fun _ _ h _ => h, fun _ h => h, fun _ h => .inl h, fun _ h => .inl h⟩
theorem Ext.free {W W' : Wd} (e : Ext W W') {a : Addr} (h : W'.H a = none) : W.H a = none := by
  cases q : W.H a with
  | none => rfl
  | some o => exact absurd h (e.dom a (by rw [q]; simp))
theorem Ext.trans {W W1 W2 : Wd} (a : Ext W W1) (b : Ext W1 W2) : Ext W W2 := by
  refine ⟨?_, fun x h => b.fz x (a.fz x h), fun x o h n => b.keep x o (a.keep x o h n) fun z => ?_, fun x h => b.dom x (a.dom x h), fun x h => ?_, fun x h => ?_⟩
  · obtain ⟨t, e⟩ := a.ms
    obtain ⟨u, e'⟩ := b.ms
    exact ⟨t ++ u, by rw [e', e, List.append_assoc]⟩
  · rcases a.nms x z with q | q
    · exact n q
    · rw [h] at q; cases q
  · rcases b.nms x h with q | q
    · exact a.nms x q
    · exact .inr (a.free q)
  · rcases b.nfz x h with q | q
    · exact a.nfz x q
    · exact .inr (a.free q)
theorem Ext.msIn {W W' : Wd} (e : Ext W W') {a : Addr} (h : a ∈ W.ms) : a ∈ W'.ms := by
  obtain ⟨t, q⟩ := e.ms
  rw [q]; exact List.mem_append_left _ h
theorem Ext.msAt {W W' : Wd} (e : Ext W W') {l : Nat} {a : Addr} (h : W.ms[l]? = some a) : W'.ms[l]? = some a := by
  obtain ⟨t, q⟩ := e.ms
  rw [q, List.getElem?_append_left (List.getElem?_eq_some_iff.mp h).1]; exact h

theorem Ext.rd {W W' : Wd} (e : Ext W W') {a : Addr} {u : HO} (h : Rd W.H a u) (n : a ∉ W.ms) : Rd W'.H a u := by
  rcases h with h | ⟨o, h⟩
  · exact .inl (e.keep a _ h n)
  · exact .inr ⟨o, e.keep a _ h n⟩
section
variable {K : PySem.W.Frag} {W W' : Wd} {S : Sto}
theorem Rel.cells (r : Rel K W S) (l : Nat) (ds : List D) (h : S[l]? = some (Cell.lst ds)) : ∃ a vs, W.ms[l]? = some a ∧ W.H a = some (.lst vs) ∧ RepL K W ds vs := by
  obtain ⟨a, e1, vs, e2, e3⟩ := r.cell l _ h
  exact ⟨a, vs, e1, e2, e3⟩
theorem Rel.celld (r : Rel K W S) (l : Nat) (ks : List Key) (ds : List D) (h : S[l]? = some (Cell.dct ks ds)) : ∃ a vs, W.ms[l]? = some a ∧ W.H a = some (.dK (ks.zip vs)) ∧ ks.length = ds.length ∧ RepL K W ds vs := by
  obtain ⟨a, e1, vs, e2, e3, e4⟩ := r.cell l _ h
  exact ⟨a, vs, e1, e2, e3, e4⟩
theorem CellOk.imp {a : Addr} {c : Cell} (h : CellOk K W a c) (f : ∀ o, W.H a = some o → W'.H a = some o) (g : ∀ ds vs, RepL K W ds vs → RepL K W' ds vs) : CellOk K W' a c := by
  cases c with
  | lst ds =>
    obtain ⟨vs, e2, e3⟩ := h
    exact ⟨vs, f _ e2, g _ _ e3⟩
  | dct ks ds =>
    obtain ⟨vs, e2, el, e3⟩ := h
    exact ⟨vs, f _ e2, el, g _ _ e3⟩
theorem CellOk.some {a : Addr} {c : Cell} (h : CellOk K W a c) : ∃ o, W.H a = some o ∧ (∀ vs, o ≠ .tup vs) ∧ ∀ q vs, o ≠ .frz q (.tup vs) := by
  cases c with
  | lst ds =>
    obtain ⟨vs, e2, e3⟩ := h
    exact ⟨_, e2, fun _ z => (nomatch z), fun _ _ z => nomatch z⟩
  | dct ks ds =>
    obtain ⟨vs, e2, el, e3⟩ := h
    exact ⟨_, e2, fun _ z => (nomatch z), fun _ _ z => nomatch z⟩

theorem Rel.notTup (r : Rel K W S) {a : Addr} {vs : List V} (h : Rd W.H a (.tup vs)) : a ∉ W.ms := fun z => by
  obtain ⟨l, hl⟩ := List.getElem?_of_mem z
  have hlt : l < S.length := by rw [← r.len]; exact (List.getElem?_eq_some_iff.mp hl).1
  cases hc : S[l]? with
  | none => rw [List.getElem?_eq_none_iff] at hc; omega
  | some c =>
    obtain ⟨b, e1, ok⟩ := r.cell l c hc
    rw [hl] at e1; cases e1
    obtain ⟨o, e2, n1, n2⟩ := ok.some
    rcases h with h | ⟨q, h⟩
    · rw [h] at e2; exact n1 _ (Option.some.inj e2).symm
    · rw [h] at e2; exact n2 _ _ (Option.some.inj e2).symm
theorem Rel.sqT (r : Rel K W S) (e : Ext W W') {a : Addr} {vs : List V} (h : SqT K W.H a vs) : SqT K W'.H a vs := by
  rcases h with h | h
  · exact .inl (e.rd h (r.notTup h))
  · exact .inr h
mutual
theorem Rep.ext (r : Rel K W S) (e : Ext W W') : ∀ (d : D) (v : V), Rep K W d v → Rep K W' d v
  | .non, v, h => by unfold Rep at h ⊢; exact h
  | .bl _, v, h => by unfold Rep at h ⊢; exact h
  | .int _, v, h => by unfold Rep at h ⊢; exact h
  | .str _, v, h => by unfold Rep at h ⊢; exact h
  | .tup ds, v, h => by
    unfold Rep at h ⊢
    obtain ⟨a, vs, e1, e2, e3⟩ := h
    exact ⟨a, vs, e1, r.sqT e e2, RepL.ext r e ds vs e3⟩
  | .lst ds, v, h => by
    unfold Rep at h ⊢
    obtain ⟨a, vs, e1, e2, e3, e4⟩ := h
    exact ⟨a, vs, e1, e.fz a e2, e.keep a _ e3 (r.apart a e2), RepL.ext r e ds vs e4⟩
  | .scr ds, v, h => by
    unfold Rep at h ⊢
    obtain ⟨a, vs, e1, e2, e4⟩ := h
    exact ⟨a, vs, e1, e2.imp (fun z => ⟨e.fz a z.1, e.rd z.2 (r.apart a z.1)⟩) id, RepL.ext r e ds vs e4⟩
  | .ref l, v, h => by
    unfold Rep at h ⊢
    obtain ⟨a, e1, e2⟩ := h
    exact ⟨a, e1, e.msAt e2⟩
  | .dct ks ds, v, h => by
    unfold Rep at h ⊢
    obtain ⟨a, vs, e1, e2, e3, e0, e4⟩ := h
    exact ⟨a, vs, e1, e.fz a e2, e.keep a _ e3 (r.apart a e2), e0, RepL.ext r e ds vs e4⟩
theorem RepL.ext (r : Rel K W S) (e : Ext W W') : ∀ (ds : List D) (vs : List V), RepL K W ds vs → RepL K W' ds vs
  | [], vs, h => by unfold RepL at h ⊢; exact h
  | d :: ds, vs, h => by
    unfold RepL at h ⊢
    obtain ⟨v, q, e1, e2, e3⟩ := h
    exact ⟨v, q, e1, Rep.ext r e d v e2, RepL.ext r e ds q e3⟩
end
theorem RepL.nil : RepL K W [] [] := by unfold RepL; rfl
theorem RepL.cons {d : D} {ds : List D} {v : V} {vs : List V} (h : Rep K W d v) (t : RepL K W ds vs) : RepL K W (d :: ds) (v :: vs) := by
  unfold RepL; exact ⟨v, vs, rfl, h, t⟩
theorem RepL.nil_inv {vs : List V} (h : RepL K W [] vs) : vs = [] := by unfold RepL at h; exact h
theorem RepL.cons_inv {d : D} {ds : List D} {vs : List V} (h : RepL K W (d :: ds) vs) : ∃ v r, vs = v :: r ∧ Rep K W d v ∧ RepL K W ds r := by unfold RepL at h; exact h
theorem RepL.length : ∀ {ds : List D} {vs : List V}, RepL K W ds vs → vs.length = ds.length
  | [], vs, h => by rw [h.nil_inv]; rfl
  | d :: ds, vs, h => by
    obtain ⟨v, r, rfl, _, t⟩ := h.cons_inv
    simp [t.length]
theorem RepL.get : ∀ {ds : List D} {vs : List V} {i : Nat} {d : D}, RepL K W ds vs → ds[i]? = some d → ∃ v, vs[i]? = some v ∧ Rep K W d v
  | [], vs, i, d, h, e => by simp at e
  | d' :: ds, vs, 0, d, h, e => by
    obtain ⟨v, r, rfl, q, t⟩ := h.cons_inv
    simp at e; subst e; exact ⟨v, rfl, q⟩
  | d' :: ds, vs, i + 1, d, h, e => by
    obtain ⟨v, r, rfl, q, t⟩ := h.cons_inv
    simp at e
    simpa using t.get e
theorem RepL.append : ∀ {ds es : List D} {vs ws : List V}, RepL K W ds vs → RepL K W es ws → RepL K W (ds ++ es) (vs ++ ws)
  | [], _, _, _, h, t => by rw [h.nil_inv]; exact t
  | d :: ds, _, _, _, h, t => by
    obtain ⟨v, r, rfl, q, t'⟩ := h.cons_inv
    exact .cons q (t'.append t)
theorem RepL.drop : ∀ (n : Nat) {ds : List D} {vs : List V}, RepL K W ds vs → RepL K W (ds.drop n) (vs.drop n)
  | 0, _, _, h => h
  | n + 1, [], _, h => by rw [h.nil_inv]; exact .nil
  | n + 1, d :: ds, _, h => by
    obtain ⟨v, r, rfl, q, t'⟩ := h.cons_inv
    exact t'.drop n
theorem RepL.take : ∀ (n : Nat) {ds : List D} {vs : List V}, RepL K W ds vs → RepL K W (ds.take n) (vs.take n)
  | 0, _, _, _ => .nil
  | n + 1, [], _, h => by rw [h.nil_inv]; exact .nil
  | n + 1, d :: ds, _, h => by
    obtain ⟨v, r, rfl, q, t'⟩ := h.cons_inv
    exact .cons q (t'.take n)
theorem RepL.set {d : D} {v : V} (q : Rep K W d v) : ∀ (n : Nat) {ds : List D} {vs : List V}, RepL K W ds vs → RepL K W (ds.set n d) (vs.set n v)
  | _, [], _, h => by rw [h.nil_inv]; exact .nil
  | 0, e :: ds, _, h => by
    obtain ⟨w, r, rfl, _, t'⟩ := h.cons_inv
    exact .cons q t'
  | n + 1, e :: ds, _, h => by
    obtain ⟨w, r, rfl, q', t'⟩ := h.cons_inv
    exact .cons q' (t'.set q n)
theorem RepL.reverse : ∀ {ds : List D} {vs : List V}, RepL K W ds vs → RepL K W ds.reverse vs.reverse
  | [], _, h => by rw [h.nil_inv]; exact .nil
  | d :: ds, _, h => by
    obtain ⟨v, r, rfl, q, t'⟩ := h.cons_inv
    rw [List.reverse_cons, List.reverse_cons]
    exact t'.reverse.append (.cons q .nil)
theorem RepL.rep {ds : List D} {vs : List V} (h : RepL K W ds vs) : ∀ n : Nat, RepL K W (List.replicate n ds).flatten (List.replicate n vs).flatten
  | 0 => .nil
  | n + 1 => by
    rw [List.replicate_succ, List.replicate_succ, List.flatten_cons, List.flatten_cons]
    exact h.append (h.rep n)
theorem RepL.dropLast {ds : List D} {vs : List V} (h : RepL K W ds vs) : RepL K W ds.dropLast vs.dropLast := by
  rw [List.dropLast_eq_take, List.dropLast_eq_take, h.length]
  exact h.take _
theorem RepL.cut {ds : List D} {vs : List V} (h : RepL K W ds vs) (lo hi : Option Int) : RepL K W (cutD ds lo hi) (cutV vs lo hi) := by
  unfold cutD cutV
  rw [h.length]
  exact (h.drop _).take _
theorem RepL.atI {ds : List D} {vs : List V} {i : Int} {d : D} (h : RepL K W ds vs) (e : atI ds i = some d) : ∃ v, L2.atI vs i = some v ∧ Rep K W d v := by
  unfold L2.atI at e ⊢
  rw [h.length]
  cases q : ixN ds.length i with
  | none => rw [q] at e; cases e
  | some j =>
    rw [q] at e
    exact h.get e
theorem RepL.ints : ∀ {ds : List D} {is : List Int} {vs : List V}, RepL K W ds vs → ints? ds = some is → vs = is.map V.int
  | [], is, _, h, e => by rw [h.nil_inv]; cases e; rfl
  | .int i :: ds, is, _, h, e => by
    obtain ⟨v, r, rfl, q, t⟩ := h.cons_inv
    unfold ints? at e
    cases q2 : ints? ds with
    | none => rw [q2] at e; cases e
    | some js =>
      rw [q2] at e; cases e
      unfold Rep at q; subst q
      rw [t.ints q2]; rfl
  | .non :: _, _, _, _, e => by cases e
  | .bl _ :: _, _, _, _, e => by cases e
  | .str _ :: _, _, _, _, e => by cases e
  | .tup _ :: _, _, _, _, e => by cases e
  | .lst _ :: _, _, _, _, e => by cases e
  | .scr _ :: _, _, _, _, e => by cases e
  | .ref _ :: _, _, _, _, e => by cases e
  | .dct _ _ :: _, _, _, _, e => by cases e
theorem RepL.ofInts : ∀ (is : List Int), RepL K W (is.map .int) (is.map V.int)
  | [] => .nil
  | i :: is => .cons (by unfold Rep; rfl) (RepL.ofInts is)
theorem RepL.bls : ∀ {ds : List D} {is : List Bool} {vs : List V}, RepL K W ds vs → bls? ds = some is → vs = is.map V.bl
  | [], is, _, h, e => by rw [h.nil_inv]; cases e; rfl
  | .bl i :: ds, is, _, h, e => by
    obtain ⟨v, r, rfl, q, t⟩ := h.cons_inv
    unfold bls? at e
    cases q2 : bls? ds with
    | none => rw [q2] at e; cases e
    | some js =>
      rw [q2] at e; cases e
      unfold Rep at q; subst q
      rw [t.bls q2]; rfl
  | .non :: _, _, _, _, e => by cases e
  | .int _ :: _, _, _, _, e => by cases e
  | .str _ :: _, _, _, _, e => by cases e
  | .tup _ :: _, _, _, _, e => by cases e
  | .lst _ :: _, _, _, _, e => by cases e
  | .scr _ :: _, _, _, _, e => by cases e
  | .ref _ :: _, _, _, _, e => by cases e
  | .dct _ _ :: _, _, _, _, e => by cases e
theorem RepL.strs : ∀ {ds : List D} {is : List Str} {vs : List V}, RepL K W ds vs → strs? ds = some is → vs = is.map V.str
  | [], is, _, h, e => by rw [h.nil_inv]; cases e; rfl
  | .str i :: ds, is, _, h, e => by
    obtain ⟨v, r, rfl, q, t⟩ := h.cons_inv
    unfold strs? at e
    cases q2 : strs? ds with
    | none => rw [q2] at e; cases e
    | some js =>
      rw [q2] at e; cases e
      unfold Rep at q; subst q
      rw [t.strs q2]; rfl
  | .non :: _, _, _, _, e => by cases e
  | .bl _ :: _, _, _, _, e => by cases e
  | .int _ :: _, _, _, _, e => by cases e
  | .tup _ :: _, _, _, _, e => by cases e
  | .lst _ :: _, _, _, _, e => by cases e
  | .scr _ :: _, _, _, _, e => by cases e
  | .ref _ :: _, _, _, _, e => by cases e
  | .dct _ _ :: _, _, _, _, e => by cases e
theorem RepL.ofStrs : ∀ (is : List Str), RepL K W (is.map .str) (is.map V.str)
  | [] => .nil
  | i :: is => .cons (by unfold Rep; rfl) (RepL.ofStrs is)
theorem Rep.flat {d : D} {v : V} (h : Rep K W d v) (f : flatD d = true) : v = vOf d ∧ flatV v = true := by
  cases d with
  | non => unfold Rep at h; subst h; exact ⟨rfl, rfl⟩
  | bl b => unfold Rep at h; subst h; exact ⟨rfl, rfl⟩
  | int b => unfold Rep at h; subst h; exact ⟨rfl, rfl⟩
  | str b => unfold Rep at h; subst h; exact ⟨rfl, rfl⟩
  | tup _ => cases f
  | lst _ => cases f
  | scr _ => cases f
  | ref _ => cases f
  | dct _ _ => cases f
theorem RepL.flat : ∀ {ds : List D} {vs : List V}, RepL K W ds vs → ds.all flatD = true → vs = ds.map vOf ∧ vs.all flatV = true
  | [], _, h, _ => by rw [h.nil_inv]; exact ⟨rfl, rfl⟩
  | d :: ds, _, h, f => by
    obtain ⟨v, r, rfl, q, t⟩ := h.cons_inv
    rw [List.all_cons, Bool.and_eq_true] at f
    obtain ⟨e1, e2⟩ := q.flat f.1
    obtain ⟨e3, e4⟩ := t.flat f.2
    refine ⟨by rw [e1, e3]; rfl, by rw [List.all_cons, e2, e4]; rfl⟩
end


section
variable (K : PySem.W.Frag)

def RepR (W W' : Wd) (v : V) : Rt → Prop
  | .val d => Rep K W' d v
  | .own ds => ∃ p vs, v = .ref p ∧ W'.H p = some (.lst vs) ∧ p ∉ W'.ms ∧ p ∉ W'.fz ∧ W.H p = none ∧ RepL K W' ds vs
  | .bor ds => ∃ p vs, v = .ref p ∧ W'.H p = some (.lst vs) ∧ p ∉ W'.ms ∧ RepL K W' ds vs
  | .ownd ks ds => ∃ p vs, v = .ref p ∧ W'.H p = some (.dK (ks.zip vs)) ∧ ks.length = ds.length ∧ p ∉ W'.ms ∧ p ∉ W'.fz ∧ W.H p = none ∧ RepL K W' ds vs
def SlotR (W : Wd) (σ : St) (ρ : Env) : Prop :=
  σ.length = ρ.length ∧ (∀ (i : Nat) (d : D), ρ[i]? = some (.val d) → ∃ v, σ[i]? = some (some v) ∧ Rep K W d v) ∧
  (∀ (i : Nat) (ds : List D), ρ[i]? = some (.own ds) → ∃ p vs, σ[i]? = some (some (.ref p)) ∧ W.H p = some (.lst vs) ∧ p ∉ W.ms ∧ p ∉ W.fz ∧ RepL K W ds vs) ∧
  ∀ (i j : Nat) (ds es : List D) (p : Addr), ρ[i]? = some (.own ds) → ρ[j]? = some (.own es) → σ[i]? = some (some (.ref p)) → σ[j]? = some (some (.ref p)) → i = j
end
section
variable {K : PySem.W.Frag} {W W' W2 : Wd} {S S' : Sto}
theorem SlotR.ext (r : Rel K W S) (e : Ext W W') {σ : St} {ρ : Env} (h : SlotR K W σ ρ) : SlotR K W' σ ρ := by
  refine ⟨h.1, fun i d q => ?_, fun i ds q => ?_, h.2.2.2⟩
  · obtain ⟨v, e1, e2⟩ := h.2.1 i d q
    exact ⟨v, e1, Rep.ext r e d v e2⟩
  · obtain ⟨p, vs, e1, e2, e3, e4, e5⟩ := h.2.2.1 i ds q
    refine ⟨p, vs, e1, e.keep p _ e2 e3, fun z => ?_, fun z => ?_, RepL.ext r e ds vs e5⟩
    · rcases e.nms p z with q | q
      · exact e3 q
      · rw [e2] at q; cases q
    · rcases e.nfz p z with q | q
      · exact e4 q
      · rw [e2] at q; cases q

theorem RepR.ext (r : Rel K W' S) (e : Ext W' W2) {v : V} {x : Rt} (h : RepR K W W' v x) : RepR K W W2 v x := by
  cases x with
  | val d => exact Rep.ext r e d v h
  | own ds =>
    obtain ⟨p, vs, e1, e2, e3, e4, e0, e5⟩ := h
    refine ⟨p, vs, e1, e.keep p _ e2 e3, fun z => ?_, fun z => ?_, e0, RepL.ext r e ds vs e5⟩
    · rcases e.nms p z with q | q
      · exact e3 q
      · rw [e2] at q; cases q
    · rcases e.nfz p z with q | q
      · exact e4 q
      · rw [e2] at q; cases q
  | bor ds =>
    obtain ⟨p, vs, e1, e2, e3, e5⟩ := h
    refine ⟨p, vs, e1, e.keep p _ e2 e3, fun z => ?_, RepL.ext r e ds vs e5⟩
    rcases e.nms p z with q | q
    · exact e3 q
    · rw [e2] at q; cases q
  | ownd ks ds =>
    obtain ⟨p, vs, e1, e2, el, e3, e4, e0, e5⟩ := h
    refine ⟨p, vs, e1, e.keep p _ e2 e3, el, fun z => ?_, fun z => ?_, e0, RepL.ext r e ds vs e5⟩
    · rcases e.nms p z with q | q
      · exact e3 q
      · rw [e2] at q; cases q
    · rcases e.nfz p z with q | q
      · exact e4 q
      · rw [e2] at q; cases q

theorem RepR.back (e : Ext W W') {v : V} {x : Rt} (h : RepR K W' W2 v x) : RepR K W W2 v x := by
  cases x with
  | val d => exact h
  | own ds =>
    obtain ⟨p, vs, e1, e2, e3, e4, e0, e5⟩ := h
    exact ⟨p, vs, e1, e2, e3, e4, e.free e0, e5⟩
  | bor ds => exact h
  | ownd ks ds =>
    obtain ⟨p, vs, e1, e2, el, e3, e4, e0, e5⟩ := h
    exact ⟨p, vs, e1, e2, el, e3, e4, e.free e0, e5⟩

mutual
theorem Rep.more {p : Addr} : ∀ (d : D) (v : V), Rep K W d v → Rep K ⟨W.ms, p :: W.fz, W.H⟩ d v
  | .non, v, h => by unfold Rep at h ⊢; exact h
  | .bl _, v, h => by unfold Rep at h ⊢; exact h
  | .int _, v, h => by unfold Rep at h ⊢; exact h
  | .str _, v, h => by unfold Rep at h ⊢; exact h
  | .tup ds, v, h => by
    unfold Rep at h ⊢
    obtain ⟨a, vs, e1, e2, e3⟩ := h
    exact ⟨a, vs, e1, e2, RepL.more ds vs e3⟩
  | .lst ds, v, h => by
    unfold Rep at h ⊢
    obtain ⟨a, vs, e1, e2, e3, e4⟩ := h
    exact ⟨a, vs, e1, List.mem_cons_of_mem _ e2, e3, RepL.more ds vs e4⟩
  | .scr ds, v, h => by
    unfold Rep at h ⊢
    obtain ⟨a, vs, e1, e2, e4⟩ := h
    exact ⟨a, vs, e1, e2.imp (fun z => ⟨List.mem_cons_of_mem _ z.1, z.2⟩) id, RepL.more ds vs e4⟩
  | .ref l, v, h => by
    unfold Rep at h ⊢
    exact h
  | .dct ks ds, v, h => by
    unfold Rep at h ⊢
    obtain ⟨a, vs, e1, e2, e3, e0, e4⟩ := h
    exact ⟨a, vs, e1, List.mem_cons_of_mem _ e2, e3, e0, RepL.more ds vs e4⟩
theorem RepL.more {p : Addr} : ∀ (ds : List D) (vs : List V), RepL K W ds vs → RepL K ⟨W.ms, p :: W.fz, W.H⟩ ds vs
  | [], vs, h => by unfold RepL at h ⊢; exact h
  | d :: ds, vs, h => by
    unfold RepL at h ⊢
    obtain ⟨v, q, e1, e2, e3⟩ := h
    exact ⟨v, q, e1, Rep.more d v e2, RepL.more ds q e3⟩
end
theorem Rel.more {p : Addr} (r : Rel K W S) (h1 : p ∉ W.ms) (h2 : W.H p ≠ none) : Rel K ⟨W.ms, p :: W.fz, W.H⟩ S := by
  refine ⟨r.len, r.nd, fun l c e => ?_, fun a ha => ?_, fun a ha => ?_⟩
  · obtain ⟨a, e1, ok⟩ := r.cell l c e
    exact ⟨a, e1, ok.imp (fun _ z => z) RepL.more⟩
  · rcases List.mem_cons.mp ha with rfl | ha
    · exact h1
    · exact r.apart a ha
  · rcases ha with ha | ha
    · exact r.dom a (.inl ha)
    · rcases List.mem_cons.mp ha with rfl | ha
      · exact h2
      · exact r.dom a (.inr ha)
theorem Ext.more {p : Addr} (e : Ext W W') (h : W.H p = none) : Ext W ⟨W'.ms, p :: W'.fz, W'.H⟩ :=
  ⟨e.ms, fun a ha => List.mem_cons_of_mem _ (e.fz a ha), e.keep, e.dom, e.nms, fun a ha => by
    rcases List.mem_cons.mp ha with rfl | ha
    · exact .inr h
    · exact e.nfz a ha⟩

theorem RepR.shut (r : Rel K W' S) (e : Ext W W') {v : V} {x : Rt} {d : D} (h : RepR K W W' v x) (hd : x.d = some d) :
    ∃ W2, W2.H = W'.H ∧ Ext W W2 ∧ Rel K W2 S ∧ Rep K W2 d v := by
  cases x with
  | val d' => cases hd; exact ⟨W', rfl, e, r, h⟩
  | bor _ => cases hd
  | ownd ks ds =>
    cases hd
    obtain ⟨p, vs, e1, e2, el, e3, e4, e0, e5⟩ := h
    refine ⟨⟨W'.ms, p :: W'.fz, W'.H⟩, rfl, e.more e0, r.more e3 (by rw [e2]; simp), ?_⟩
    unfold Rep
    exact ⟨p, vs, e1, List.mem_cons_self, e2, el, RepL.more ds vs e5⟩
  | own ds =>
    cases hd
    obtain ⟨p, vs, e1, e2, e3, e4, e0, e5⟩ := h
    refine ⟨⟨W'.ms, p :: W'.fz, W'.H⟩, rfl, e.more e0, r.more e3 (by rw [e2]; simp), ?_⟩
    unfold Rep
    exact ⟨p, vs, e1, List.mem_cons_self, e2, RepL.more ds vs e5⟩

theorem Ext.laid {p : Addr} {o : HO} (h : W.H p = none) : Ext W ⟨W.ms, W.fz, upd W.H p o⟩ :=
  ⟨⟨[], by simp⟩, fun _ z => z, fun a u e _ => by show upd W.H p o a = _; rw [upd_ne (ne_of_none e h)]; exact e, fun a z => by
    show upd W.H p o a ≠ none
    by_cases q : a = p
    · subst q; rw [upd_same]; simp
    · rw [upd_ne q]; exact z, fun _ z => .inl z, fun _ z => .inl z⟩
theorem Rel.laid {p : Addr} {o : HO} (r : Rel K W S) (h : W.H p = none) : Rel K ⟨W.ms, W.fz, upd W.H p o⟩ S := by
  have e : Ext W ⟨W.ms, W.fz, upd W.H p o⟩ := Ext.laid h
  refine ⟨r.len, r.nd, fun l c q => ?_, r.apart, fun a ha => e.dom a (r.dom a ha)⟩
  obtain ⟨a, e1, ok⟩ := r.cell l c q
  refine ⟨a, e1, ok.imp (fun o' e2 => ?_) (RepL.ext r e)⟩
  show upd W.H p o a = _
  rw [upd_ne (ne_of_none e2 h)]; exact e2
theorem Rel.pms (r : Rel K W S) {p : Addr} (h : W.H p = none) : p ∉ W.ms ∧ p ∉ W.fz := ⟨fun z => r.dom p (.inl z) h, fun z => r.dom p (.inr z) h⟩

theorem RepR.laid {p : Addr} {ds : List D} {vs : List V} (r : Rel K W S) (h : W.H p = none) (q : RepL K W ds vs) :
    RepR K W ⟨W.ms, W.fz, upd W.H p (.lst vs)⟩ (.ref p) (.own ds) :=
  ⟨p, vs, rfl, upd_same, (r.pms h).1, (r.pms h).2, h, RepL.ext r (Ext.laid h) ds vs q⟩
theorem Rep.laidT {p : Addr} {ds : List D} {vs : List V} (r : Rel K W S) (h : W.H p = none) (q : RepL K W ds vs) :
    Rep K ⟨W.ms, W.fz, upd W.H p (.tup vs)⟩ (.tup ds) (.ref p) := by
  unfold Rep
  exact ⟨p, vs, rfl, .inl (.inl upd_same), RepL.ext r (Ext.laid h) ds vs q⟩

theorem cellL_some {l : Nat} {ds : List D} (h : cellL S l = some ds) : S[l]? = some (Cell.lst ds) := by
  unfold cellL at h
  split at h
  · cases h; assumption
  · cases h
theorem cellD_some {l : Nat} {ks : List Key} {ds : List D} (h : cellD S l = some (ks, ds)) : S[l]? = some (Cell.dct ks ds) := by
  unfold cellD at h
  split at h
  · cases h; assumption
  · cases h
theorem RepR.dv {v : V} {x : Rt} {ks : List Key} {ds : List D} (r : Rel K W' S) (h : RepR K W W' v x) (e : x.dct? S = some (ks, ds)) : ∃ a vs, v = .ref a ∧ W'.H a = some (.dK (ks.zip vs)) ∧ ks.length = ds.length ∧ RepL K W' ds vs := by
  cases x with
  | own _ => cases e
  | bor _ => cases e
  | ownd ks' ds' =>
    cases e
    obtain ⟨p, vs, e1, e2, el, e3, e4, e0, e5⟩ := h
    exact ⟨p, vs, e1, e2, el, e5⟩
  | val d =>
    cases d with
    | dct ks' ds' =>
      cases e
      have h : Rep K W' (.dct ks ds) v := h
      unfold Rep at h
      obtain ⟨a, vs, e1, _, e3, el, e4⟩ := h
      exact ⟨a, vs, e1, e3, el, e4⟩
    | ref l =>
      have h : Rep K W' (.ref l) v := h
      unfold Rep at h
      obtain ⟨a, e1, e2⟩ := h
      obtain ⟨b, vs, q1, q2, q3, q4⟩ := r.celld l _ _ (cellD_some e)
      rw [e2] at q1; cases q1
      exact ⟨a, vs, e1, q2, q3, q4⟩
    | scr _ => cases e
    | non => cases e
    | bl _ => cases e
    | int _ => cases e
    | str _ => cases e
    | tup _ => cases e
    | lst _ => cases e
theorem RepR.lv {v : V} {x : Rt} {ds : List D} (r : Rel K W' S) (h : RepR K W W' v x) (e : lview S x = some ds) : ∃ a vs, v = .ref a ∧ SqL K W'.H a vs ∧ RepL K W' ds vs := by
  cases x with
  | own ds' =>
    cases e
    obtain ⟨p, vs, e1, e2, _, _, _, e5⟩ := h
    exact ⟨p, vs, e1, .inl (.inl e2), e5⟩
  | bor ds' =>
    cases e
    obtain ⟨p, vs, e1, e2, _, e5⟩ := h
    exact ⟨p, vs, e1, .inl (.inl e2), e5⟩
  | ownd _ _ => cases e
  | val d =>
    cases d with
    | lst ds' =>
      cases e
      have h : Rep K W' (.lst ds) v := h
      unfold Rep at h
      obtain ⟨a, vs, e1, _, e3, e4⟩ := h
      exact ⟨a, vs, e1, .inl (.inl e3), e4⟩
    | scr ds' =>
      cases e
      have h : Rep K W' (.scr ds) v := h
      unfold Rep at h
      obtain ⟨a, vs, e1, e3, e4⟩ := h
      exact ⟨a, vs, e1, e3.imp (fun z => z.2) id, e4⟩
    | ref l =>
      have h : Rep K W' (.ref l) v := h
      unfold Rep at h
      obtain ⟨a, e1, e2⟩ := h
      obtain ⟨b, vs, q1, q2, q3⟩ := r.cells l _ (cellL_some e)
      rw [e2] at q1; cases q1
      exact ⟨a, vs, e1, .inl (.inl q2), q3⟩
    | non => cases e
    | bl _ => cases e
    | int _ => cases e
    | str _ => cases e
    | tup _ => cases e
    | dct _ _ => cases e
theorem RepR.tv {v : V} {x : Rt} {ds : List D} (r : Rel K W' S) (h : RepR K W W' v x) (e : tview S x = some ds) : ∃ a vs, v = .ref a ∧ W'.H a = some (.lst vs) ∧ RepL K W' ds vs := by
  cases x with
  | own ds' =>
    cases e
    obtain ⟨p, vs, e1, e2, _, _, _, e5⟩ := h
    exact ⟨p, vs, e1, e2, e5⟩
  | bor ds' =>
    cases e
    obtain ⟨p, vs, e1, e2, _, e5⟩ := h
    exact ⟨p, vs, e1, e2, e5⟩
  | ownd _ _ => cases e
  | val d =>
    cases d with
    | lst ds' =>
      cases e
      have h : Rep K W' (.lst ds) v := h
      unfold Rep at h
      obtain ⟨a, vs, e1, _, e3, e4⟩ := h
      exact ⟨a, vs, e1, e3, e4⟩
    | ref l =>
      have h : Rep K W' (.ref l) v := h
      unfold Rep at h
      obtain ⟨a, e1, e2⟩ := h
      obtain ⟨b, vs, q1, q2, q3⟩ := r.cells l _ (cellL_some e)
      rw [e2] at q1; cases q1
      exact ⟨a, vs, e1, q2, q3⟩
    | scr _ => cases e
    | non => cases e
    | bl _ => cases e
    | int _ => cases e
    | str _ => cases e
    | tup _ => cases e
    | dct _ _ => cases e
theorem RepR.sv {v : V} {x : Rt} {ds : List D} (r : Rel K W' S) (h : RepR K W W' v x) (e : sview S x = some ds) : ∃ a vs, v = .ref a ∧ (SqL K W'.H a vs ∨ SqT K W'.H a vs) ∧ RepL K W' ds vs := by
  by_cases ht : ∃ ds', x = .val (.tup ds')
  · obtain ⟨ds', rfl⟩ := ht
    cases e
    have h : Rep K W' (.tup ds) v := h
    unfold Rep at h
    obtain ⟨a, vs, e1, e3, e4⟩ := h
    exact ⟨a, vs, e1, .inr e3, e4⟩
  · have e : lview S x = some ds := by
      unfold sview at e
      split at e
      · exact absurd ⟨_, rfl⟩ ht
      · exact e
    obtain ⟨a, vs, e1, e2, e3⟩ := h.lv r e
    exact ⟨a, vs, e1, .inl e2, e3⟩

mutual
theorem Rep.dp : ∀ (d : D) (v : V) (q : PyData), Rep K W d v → toPy d = some q → Dp K W.H v q
  | .non, v, q, h, e => by unfold Rep at h; cases e; subst h; exact .non
  | .bl b, v, q, h, e => by unfold Rep at h; cases e; subst h; exact .bl b
  | .int i, v, q, h, e => by unfold Rep at h; cases e; subst h; exact .int i
  | .str x, v, q, h, e => by unfold Rep at h; cases e; subst h; exact .str x
  | .tup ds, v, q, h, e => by
    unfold Rep at h
    obtain ⟨a, vs, e1, e2, e3⟩ := h
    unfold toPy at e
    cases hq : toPys ds with
    | none => rw [hq] at e; cases e
    | some qs =>
      rw [hq] at e; cases e
      rw [e1]
      exact .tup e2 (RepL.dp ds vs qs e3 hq)
  | .lst ds, v, q, h, e => by
    unfold Rep at h
    obtain ⟨a, vs, e1, _, e2, e3⟩ := h
    unfold toPy at e
    cases hq : toPys ds with
    | none => rw [hq] at e; cases e
    | some qs =>
      rw [hq] at e; cases e
      rw [e1]
      exact .lst (.inl (.inl e2)) (RepL.dp ds vs qs e3 hq)
  | .scr ds, v, q, h, e => by
    unfold Rep at h
    obtain ⟨a, vs, e1, e2, e3⟩ := h
    unfold toPy at e
    cases hq : toPys ds with
    | none => rw [hq] at e; cases e
    | some qs =>
      rw [hq] at e; cases e
      rw [e1]
      exact .lst (e2.imp (fun z => z.2) id) (RepL.dp ds vs qs e3 hq)
  | .ref _, v, q, h, e => by cases e
  | .dct _ _, v, q, h, e => by cases e
theorem RepL.dp : ∀ (ds : List D) (vs : List V) (qs : List PyData), RepL K W ds vs → toPys ds = some qs → DpAll K W.H vs qs
  | [], vs, q, h, e => by rw [h.nil_inv]; cases e; exact .nil
  | d :: ds, vs, q, h, e => by
    obtain ⟨v, r, rfl, h1, h2⟩ := h.cons_inv
    unfold toPys at e
    cases hq : toPy d with
    | none => rw [hq] at e; cases e
    | some q1 =>
      cases hr : toPys ds with
      | none => rw [hq, hr] at e; cases e
      | some q2 =>
        rw [hq, hr] at e; cases e
        exact .cons (Rep.dp d v q1 h1 hq) (RepL.dp ds r q2 h2 hr)
end
theorem RepR.dp {v : V} {x : Rt} {q : PyData} (h : RepR K W W' v x) (e : pyR x = some q) : Dp K W'.H v q := by
  cases x with
  | val d => exact Rep.dp d v q h e
  | own ds =>
    obtain ⟨p, vs, e1, e2, _, _, _, e5⟩ := h
    change (toPys ds).map PyData.list = some q at e
    cases hq : toPys ds with
    | none => rw [hq] at e; cases e
    | some qs =>
      rw [hq] at e; cases e
      rw [e1]
      exact .lst (.inl (.inl e2)) (RepL.dp ds vs qs e5 hq)
  | ownd _ _ => cases e
  | bor ds =>
    obtain ⟨p, vs, e1, e2, _, e5⟩ := h
    change (toPys ds).map PyData.list = some q at e
    cases hq : toPys ds with
    | none => rw [hq] at e; cases e
    | some qs =>
      rw [hq] at e; cases e
      rw [e1]
      exact .lst (.inl (.inl e2)) (RepL.dp ds vs qs e5 hq)
theorem RepR.dpS {v : V} {x : Rt} {q : PyData} (r : Rel K W' S) (h : RepR K W W' v x) (e : pyS S x = some q) : Dp K W'.H v q := by
  by_cases hx : ∃ l, x = .val (.ref l)
  · obtain ⟨l, rfl⟩ := hx
    change ((cellL S l).bind fun ds => (toPys ds).map .list) = some q at e
    cases hc : cellL S l with
    | none => rw [hc] at e; cases e
    | some ds =>
      rw [hc] at e
      change (toPys ds).map .list = some q at e
      cases hq : toPys ds with
      | none => rw [hq] at e; cases e
      | some qs =>
        rw [hq] at e; cases e
        have h : Rep K W' (.ref l) v := h
        unfold Rep at h
        obtain ⟨a, e1, e2⟩ := h
        obtain ⟨b, vs, q1, q2, q3⟩ := r.cells l _ (cellL_some hc)
        rw [e2] at q1; cases q1
        rw [e1]
        exact .lst (.inl (.inl q2)) (RepL.dp ds vs qs q3 hq)
  · have e : pyR x = some q := by
      unfold pyS at e
      split at e
      · exact absurd ⟨_, rfl⟩ hx
      · exact e
    exact h.dp e
end
end Mi
end
section
namespace Mi
open PySem PySem.Spec L2

theorem PE.imp {X : Cx} {e : Expr} {t t' : TE} (h : PE X e t) (i : ∀ σ H Q, t' σ H Q → t σ H Q) : PE X e t' := ⟨fun pins s σ H Q I q => h.run pins s σ H Q I (i σ H Q q)⟩
theorem PT.imp {X : Cx} {e : Expr} {t t' : TT} (h : PT X e t) (i : ∀ σ H Q, t' σ H Q → t σ H Q) : PT X e t' := ⟨fun pins s σ H Q I q => h.run pins s σ H Q I (i σ H Q q)⟩
theorem PA.imp {X : Cx} {e : List Expr} {t t' : TA} (h : PA X e t) (i : ∀ σ H Q, t' σ H Q → t σ H Q) : PA X e t' := ⟨fun pos pins s σ H Q I q => h.run pos pins s σ H Q I (i σ H Q q)⟩
theorem PS.imp {X : Cx} {e : Stmt} {t t' : TS} (h : PS X e t) (i : ∀ D σ H, t' D σ H → t D σ H) : PS X e t' := ⟨fun pins s σ H D I q => h.run pins s σ H D I (i D σ H q)⟩
theorem PSs.imp {X : Cx} {e : List Stmt} {t t' : TS} (h : PSs X e t) (i : ∀ D σ H, t' D σ H → t D σ H) : PSs X e t' := ⟨fun pins s σ H D I q => h.run pins s σ H D I (i D σ H q)⟩


def rD (K : PySem.W.Frag) (F : Sto → Rt → Rt → Option Rt) : R2 := fun x y H Q => ∃ (W0 W1 W : Wd) (S : Sto) (a b r : Rt), W.H = H ∧ Rel K W S ∧ RepR K W0 W x a ∧ RepR K W1 W y b ∧ F S a b = some r ∧
  ∀ W' v, Ext W W' → Rel K W' S → RepR K W W' v r → Q v W'.H
section
variable {X : Cx}
theorem binI_sound {o : BOp} {op : Operator} {i j k : Int} (ho : op = match o with | .add => .Add | .sub => .Sub | .mul => .Mult | .fdiv => .FloorDiv | .mod => .Mod | .pow => .Pow | .shl => .LShift) (h : binI o i j = some k)
    {pins : List (Addr × Obj)} {s : Shared} {σ : St} {H : Hp} {v u : Value} {Q : VK} (I : Inv X pins σ H s) (rx : RelV (.int i) v) (ry : RelV (.int j) u) (q : Q (.int k) H) :
    wpAny (model X.prog X.w) X.A (binaryOp op v u) (EP X pins σ Q) X.xe s := by
  subst ho
  cases o with
  | add => cases h; exact op_add _ _ _ _ _ _ _ _ _ I rx ry ⟨i, j, rfl, rfl, q⟩
  | sub => cases h; exact op_sub _ _ _ _ _ _ _ _ _ I rx ry ⟨i, j, rfl, rfl, q⟩
  | mul =>
    change (if MulOk i j then some (i * j) else none) = some k at h
    split at h
    · cases h; rename_i hc
      rcases hc with hc | hc
      · exact op_mul _ _ _ _ _ _ _ _ _ I rx ry ⟨i, j, rfl, rfl, hc, q⟩
      · exact op_mulW _ _ _ _ _ _ _ _ _ I rx ry ⟨i, j, rfl, rfl, hc, q⟩
    · cases h
  | fdiv =>
    change (if DivOk j then some (i / j) else none) = some k at h
    split at h
    · cases h; rename_i hc
      rcases hc with hc | hc
      · exact op_fdiv _ _ _ _ _ _ _ _ _ I rx ry ⟨i, j, rfl, rfl, hc, q⟩
      · exact op_fdivW _ _ _ _ _ _ _ _ _ I rx ry ⟨i, j, rfl, rfl, hc, q⟩
    · cases h
  | shl =>
    change (if 0 ≤ j ∧ j ≤ 1000000 ∧ i.natAbs < 2 ^ 64 then some (i * 2 ^ j.toNat) else none) = some k at h
    split at h
    · cases h; rename_i hc; exact op_shl _ _ _ _ _ _ _ _ _ I rx ry ⟨i, j, rfl, rfl, hc, q⟩
    · cases h
  | mod =>
    change (if 0 < j then some (i % j) else none) = some k at h
    split at h
    · cases h; rename_i hc; exact op_mod _ _ _ _ _ _ _ _ _ I rx ry ⟨i, j, rfl, rfl, hc, q⟩
    · cases h
  | pow =>
    change (if 0 ≤ j ∧ j ≤ 1000000 ∧ i.natAbs < 2 ^ 64 then some (i ^ j.toNat) else none) = some k at h
    split at h
    · cases h; rename_i hc; exact op_pow _ _ _ _ _ _ _ _ _ I rx ry ⟨i, j, rfl, rfl, hc, q⟩
    · cases h
theorem int?_some {r : Rt} {i : Int} (h : r.int? = some i) : r = .val (.int i) := by
  unfold Rt.int? at h; split at h
  · cases h; rfl
  · cases h
theorem bl?_some {r : Rt} {i : Bool} (h : r.bl? = some i) : r = .val (.bl i) := by
  unfold Rt.bl? at h; split at h
  · cases h; rfl
  · cases h
theorem str?_some {r : Rt} {i : Str} (h : r.str? = some i) : r = .val (.str i) := by
  unfold Rt.str? at h; split at h
  · cases h; rfl
  · cases h
theorem tup?_some {r : Rt} {i : List D} (h : r.tup? = some i) : r = .val (.tup i) := by
  unfold Rt.tup? at h; split at h
  · cases h; rfl
  · cases h
theorem ref?_some {r : Rt} {i : Nat} (h : r.ref? = some i) : r = .val (.ref i) := by
  unfold Rt.ref? at h; split at h
  · cases h; rfl
  · cases h
theorem val?_some {r : Rt} {i : D} (h : r.val? = some i) : r = .val i := by
  unfold Rt.val? at h; split at h
  · cases h; rfl
  · cases h
def opOf : BOp → Operator
  | .add => .Add | .sub => .Sub | .mul => .Mult | .fdiv => .FloorDiv | .mod => .Mod | .pow => .Pow | .shl => .LShift
theorem repr_int {K : PySem.W.Frag} {W W' : Wd} {v : V} {i : Int} (h : RepR K W W' v (.val (.int i))) : v = .int i := by
  have h : Rep K W' (.int i) v := h
  unfold Rep at h; exact h
theorem repr_bl {K : PySem.W.Frag} {W W' : Wd} {v : V} {i : Bool} (h : RepR K W W' v (.val (.bl i))) : v = .bl i := by
  have h : Rep K W' (.bl i) v := h
  unfold Rep at h; exact h
theorem repr_str {K : PySem.W.Frag} {W W' : Wd} {v : V} {i : Str} (h : RepR K W W' v (.val (.str i))) : v = .str i := by
  have h : Rep K W' (.str i) v := h
  unfold Rep at h; exact h
theorem int_repr {K : PySem.W.Frag} {W W' : Wd} {i : Int} : RepR K W W' (.int i) (.val (.int i)) := by show Rep K W' (.int i) (.int i); unfold Rep; rfl
theorem bl_repr {K : PySem.W.Frag} {W W' : Wd} {i : Bool} : RepR K W W' (.bl i) (.val (.bl i)) := by show Rep K W' (.bl i) (.bl i); unfold Rep; rfl
theorem str_repr {K : PySem.W.Frag} {W W' : Wd} {i : Str} : RepR K W W' (.str i) (.val (.str i)) := by show Rep K W' (.str i) (.str i); unfold Rep; rfl
theorem non_repr {K : PySem.W.Frag} {W W' : Wd} : RepR K W W' .non (.val .non) := by show Rep K W' .non .non; unfold Rep; rfl
theorem op_bin (o : BOp) : OpR X (binaryOp (opOf o)) (rD X.K fun S => binop S o) := by
  intro pins s σ H x y v u Q I rx ry h
  obtain ⟨W0, W1, W, S, a, b, r, rfl, rel, ra, rb, hr, q⟩ := h
  have cat : ∀ xs ys, o = .add → tview S a = some xs → tview S b = some ys → xs.length + ys.length ≤ sizeLine → r = .own (xs ++ ys) → wpAny (model X.prog X.w) X.A (binaryOp (opOf o) v u) (EP X pins σ Q) X.xe s := by
    intro xs ys ho h1 h2 hz e
    subst ho e
    obtain ⟨p1, vs1, rfl, d1, l1⟩ := ra.tv rel h1
    obtain ⟨p2, vs2, rfl, d2, l2⟩ := rb.tv rel h2
    refine op_cat _ _ _ _ _ _ _ _ _ I rx ry ⟨p1, p2, vs1, vs2, rfl, rfl, d1, d2, by rw [l1.length, l2.length]; exact hz, fun p hp => ?_⟩
    exact q ⟨W.ms, W.fz, _⟩ _ (Ext.laid hp) (rel.laid hp) (RepR.laid rel hp (l1.append l2))
  have rep : ∀ xs k, o = .mul → tview S a = some xs → b = .val (.int k) → -(2 ^ 63) ≤ k ∧ k < 2 ^ 63 ∧ xs.length * k.toNat ≤ sizeLine → r = .own (List.replicate k.toNat xs).flatten → wpAny (model X.prog X.w) X.A (binaryOp (opOf o) v u) (EP X pins σ Q) X.xe s := by
    intro xs k ho h1 h2 hz e
    subst ho h2 e
    obtain ⟨p1, vs1, rfl, d1, l1⟩ := ra.tv rel h1
    have e2 := repr_int rb
    subst e2
    refine op_rep _ _ _ _ _ _ _ _ _ I rx ry ⟨p1, k, vs1, rfl, rfl, d1, hz.1, hz.2.1, by rw [l1.length]; exact hz.2.2, fun p hp => ?_⟩
    exact q ⟨W.ms, W.fz, _⟩ _ (Ext.laid hp) (rel.laid hp) (RepR.laid rel hp (l1.rep _))
  change binop S o a b = some r at hr
  unfold binop at hr
  cases hi : a.int? with
  | some i =>
    cases hj : b.int? with
    | none => rw [hi, hj] at hr; cases hr
    | some j =>
      rw [hi, hj] at hr
      change (binI o i j).map (fun k => Rt.val (.int k)) = some r at hr
      cases hk : binI o i j with
      | none => rw [hk] at hr; cases hr
      | some k =>
        rw [hk] at hr; cases hr
        have e1 := repr_int (int?_some hi ▸ ra)
        have e2 := repr_int (int?_some hj ▸ rb)
        subst e1 e2
        exact binI_sound (o := o) (op := opOf o) (by cases o <;> rfl) hk I rx ry (q W _ (Ext.refl W) rel int_repr)
  | none =>
    cases hj : b.int? with
    | some k =>
      rw [hi, hj] at hr
      cases o with
      | mul =>
        change repop S a k = some r at hr
        unfold repop at hr
        cases hxt : a.tup? with
        | some xs =>
          rw [hxt] at hr
          change (if xs ≠ [] ∧ 2 ≤ k ∧ k ≤ 1000 ∧ xs.length ≤ 1000 then some (Rt.val (.tup (List.replicate k.toNat xs).flatten)) else none) = some r at hr
          split at hr
          · rename_i hc
            cases hr
            have h1 : Rep X.K W (.tup xs) x := by rw [tup?_some hxt] at ra; exact ra
            unfold Rep at h1
            obtain ⟨p1, vs1, rfl, d1, l1⟩ := h1
            have e2 := repr_int (int?_some hj ▸ rb)
            subst e2
            refine op_repT _ _ _ _ _ _ _ _ _ I rx ry ⟨p1, k, vs1, rfl, rfl, d1, fun z => hc.1 ?_, hc.2.1, hc.2.2.1, by rw [l1.length]; exact hc.2.2.2, fun p hp => ?_⟩
            · have hl := l1.length
              rw [z] at hl
              exact List.eq_nil_of_length_eq_zero hl.symm
            · exact q ⟨W.ms, W.fz, _⟩ _ (Ext.laid hp) (rel.laid hp) (Rep.laidT rel hp (l1.rep _))
          · cases hr
        | none =>
          rw [hxt] at hr
          change repop0 S a k = some r at hr
          unfold repop0 at hr
          cases hx : tview S a with
          | none => rw [hx] at hr; cases hr
          | some xs =>
            rw [hx, Option.bind_some] at hr
            split at hr
            · cases hr; rename_i hc; exact rep xs k rfl hx (int?_some hj) hc rfl
            · cases hr
      | _ => cases hr
    | none =>
      rw [hi, hj] at hr
      cases o with
      | add =>
        change catop S a b = some r at hr
        unfold catop at hr
        split at hr
        · rename_i i j g1 g2
          split at hr
          · rename_i hc
            cases hr
            have f1 := repr_str (str?_some g1 ▸ ra)
            have f2 := repr_str (str?_some g2 ▸ rb)
            subst f1 f2
            exact op_add_str _ _ _ _ _ _ _ _ _ I rx ry ⟨i, j, rfl, rfl, hc, q W _ (Ext.refl W) rel str_repr⟩
          · cases hr
        unfold catop0 at hr
        have other : (tview S a).bind (fun xs => (tview S b).bind fun ys => if xs.length + ys.length ≤ sizeLine then some (Rt.own (xs ++ ys)) else none) = some r → wpAny (model X.prog X.w) X.A (binaryOp (opOf .add) v u) (EP X pins σ Q) X.xe s := fun hr => by
          cases hx : tview S a with
          | none => rw [hx] at hr; cases hr
          | some xs =>
            cases hy : tview S b with
            | none => rw [hx, hy] at hr; cases hr
            | some ys =>
              rw [hx, hy, Option.bind_some, Option.bind_some] at hr
              split at hr
              · cases hr; rename_i hc; exact cat xs ys rfl hx hy hc rfl
              · cases hr
        cases hxs : a.tup? with
        | none => rw [hxs] at hr; exact other hr
        | some xs =>
          cases hys : b.tup? with
          | none => rw [hxs, hys] at hr; exact other hr
          | some ys =>
            rw [hxs, hys] at hr
            change (if xs.length + ys.length ≤ sizeLine then some (Rt.val (.tup (xs ++ ys))) else none) = some r at hr
            split at hr
            · cases hr
              rename_i hc
              have h1 : Rep X.K W (.tup xs) x := by rw [tup?_some hxs] at ra; exact ra
              have h2 : Rep X.K W (.tup ys) y := by rw [tup?_some hys] at rb; exact rb
              have h1' := h1
              have h2' := h2
              unfold Rep at h1 h2
              obtain ⟨p1, vs1, rfl, d1, l1⟩ := h1
              obtain ⟨p2, vs2, rfl, d2, l2⟩ := h2
              refine op_catA _ _ _ _ _ _ _ _ _ I rx ry ⟨p1, p2, vs1, vs2, rfl, rfl, d1, d2, by rw [l1.length, l2.length]; exact hc, fun z => ?_, fun z1 z => ?_, fun z1 z p hp => ?_⟩
              · have hl := l1.length
                rw [z] at hl
                have e : xs = [] := List.eq_nil_of_length_eq_zero hl.symm
                refine q W _ (Ext.refl W) rel ?_
                rw [e, List.nil_append]
                exact h2'
              · have hl := l2.length
                rw [z] at hl
                have e : ys = [] := List.eq_nil_of_length_eq_zero hl.symm
                refine q W _ (Ext.refl W) rel ?_
                rw [e, List.append_nil]
                exact h1'
              · exact q ⟨W.ms, W.fz, _⟩ _ (Ext.laid hp) (rel.laid hp) (Rep.laidT rel hp (l1.append l2))
            · cases hr
      | _ => cases hr

def cOf : COp → CmpOp
  | .eq => .Eq | .ne => .NotEq | .lt => .Lt | .le => .LtE | .gt => .Gt | .ge => .GtE | .is => .Is | .isnot => .IsNot | .isin => .In | .notin => .NotIn
theorem isN_iff {K : PySem.W.Frag} {W : Wd} {d : D} {v : V} (h : Rep K W d v) : decide (v = .non) = isN d := by
  cases d <;> unfold Rep at h <;> first | (subst h; rfl) | (obtain ⟨a, _, rfl, _⟩ := h; rfl) | (obtain ⟨a, rfl, _⟩ := h; rfl)
theorem eqop_cases {S : Sto} {a b : Rt} {k : Bool} (h : eqop S a b = some k) : (∃ i j, a.str? = some i ∧ b.str? = some j ∧ decide (i = j) = k) ∨ eqop0 S a b = some k := by
  unfold eqop at h
  split at h
  · rename_i i j h1 h2
    exact .inl ⟨i, j, h1, h2, Option.some.inj h⟩
  · exact .inr h
theorem op_cmp (hu : X.A.units + 65 < cLine) (o : COp) : OpR X (compareOp (cOf o)) (rD X.K fun S x y => (cmpop S o x y).map fun b => .val (.bl b)) := by
  intro pins s σ H x y v u Q I rx ry h
  obtain ⟨W0, W1, W, S, a, b, r, rfl, rel, ra, rb, hr, q⟩ := h
  change (cmpop S o a b).map (fun b => Rt.val (.bl b)) = some r at hr
  cases hc : cmpop S o a b with
  | none => rw [hc] at hr; cases hr
  | some k =>
    rw [hc] at hr; cases hr
    have fin : Q (.bl k) W.H := q W _ (Ext.refl W) rel bl_repr
    have num : ∀ o', (∃ i j, a.int? = some i ∧ b.int? = some j ∧ cmpI o' i j = k) → ∃ i j, x = .int i ∧ y = .int j ∧ cmpI o' i j = k := fun _ ⟨i, j, h1, h2, h3⟩ => ⟨i, j, repr_int (int?_some h1 ▸ ra), repr_int (int?_some h2 ▸ rb), h3⟩
    have numOf : ∀ o', ordop o' a b = some k → (∃ i j, a.int? = some i ∧ b.int? = some j ∧ cmpI o' i j = k) ∨ (isLt o' = true ∧ ∃ ds es is js, a.tup? = some ds ∧ b.tup? = some es ∧ ints? ds = some is ∧ ints? es = some js ∧ HT.lexLt is js = k) := fun o' h => by
      unfold ordop at h
      split at h
      · rename_i i j h1 h2
        exact .inl ⟨i, j, h1, h2, Option.some.inj h⟩
      · split at h
        · rename_i hl
          obtain ⟨is, g1, h⟩ := Option.bind_eq_some_iff.mp h
          obtain ⟨js, g2, h⟩ := Option.map_eq_some_iff.mp h
          obtain ⟨ds, d1, d2⟩ := Option.bind_eq_some_iff.mp g1
          obtain ⟨es, d3, d4⟩ := Option.bind_eq_some_iff.mp g2
          exact .inr ⟨hl, ds, es, is, js, d1, d3, d2, d4, h⟩
        · cases h
    have eqs : ∀ k, eqop0 S a b = some k → ∃ d e, Dp X.K W.H x d ∧ Dp X.K W.H y e ∧ SeqAt.shaped d = true ∧ SeqAt.shaped e = true ∧ PyData.eqv d e = k := fun k h => by
      unfold eqop0 at h
      cases h1 : pyS S a with
      | none => rw [h1] at h; cases h
      | some d =>
        cases h2 : pyS S b with
        | none => rw [h1, h2] at h; cases h
        | some e =>
          rw [h1, h2, Option.bind_some, Option.bind_some] at h
          split at h
          · rename_i hs; exact ⟨d, e, ra.dpS rel h1, rb.dpS rel h2, hs.1, hs.2, Option.some.inj h⟩
          · cases h
    have iss : ∀ k, isop a b = some k → (∃ i j, x = .bl i ∧ y = .bl j ∧ decide (i = j) = k) ∨ (y = .non ∧ decide (x = .non) = k) := fun k h => by
      unfold isop at h
      split at h
      · rename_i i j g1 g2
        exact .inl ⟨i, j, repr_bl (bl?_some g1 ▸ ra), repr_bl (bl?_some g2 ▸ rb), Option.some.inj h⟩
      refine .inr ?_
      cases h1 : a.val? with
      | none => rw [h1] at h; cases h
      | some d =>
        cases h2 : b.val? with
        | none => rw [h1, h2] at h; cases h
        | some e =>
          rw [h1, h2, Option.bind_some, Option.bind_some] at h
          have r1 : Rep X.K W d x := by rw [val?_some h1] at ra; exact ra
          have r2 : Rep X.K W e y := by rw [val?_some h2] at rb; exact rb
          split at h
          · rename_i hs
            refine ⟨of_decide_eq_true ((isN_iff r2).trans hs), ?_⟩
            rw [isN_iff r1]; exact Option.some.inj h
          · cases h
    have ins : ∀ k, inop S a b = some k → (∃ p xs, y = .ref p ∧ (SqL X.K W.H p xs ∨ SqT X.K W.H p xs) ∧ flatV x = true ∧ xs.all flatV = true ∧ inV x xs = k) ∨
        (∃ d ds, Dp X.K W.H x d ∧ (Dp X.K W.H y (.list ds) ∧ SeqAt.shaped (.list ds) = true ∨ Dp X.K W.H y (.tuple ds) ∧ SeqAt.shaped (.tuple ds) = true) ∧ SeqAt.shaped d = true ∧ (ds.any fun z => PyData.eqv z d) = k) := fun k h => by
      unfold inop at h
      split at h
      · rename_i kk hk
        refine .inl ?_
        rw [Option.some.inj h] at hk
        cases h1 : a.val? with
        | none => rw [h1] at hk; cases hk
        | some d =>
          cases h2 : sview S b with
          | none => rw [h1, h2] at hk; cases hk
          | some ds =>
            rw [h1, h2, Option.bind_some, Option.bind_some] at hk
            have r1 : Rep X.K W d x := by rw [val?_some h1] at ra; exact ra
            obtain ⟨p, vs, e1, e2, e3⟩ := rb.sv rel h2
            unfold inD at hk
            split at hk
            · rename_i hs
              obtain ⟨f1, f2⟩ := r1.flat hs.1
              obtain ⟨g1, g2⟩ := e3.flat hs.2
              refine ⟨p, vs, e1, e2, f2, g2, ?_⟩
              rw [f1, g1]; exact Option.some.inj hk
            · cases hk
      · refine .inr ?_
        obtain ⟨d, h1, h⟩ := Option.bind_eq_some_iff.mp h
        obtain ⟨e, h2, h⟩ := Option.bind_eq_some_iff.mp h
        split at h
        · split at h
          · rename_i hs
            exact ⟨d, _, ra.dpS rel h1, .inl ⟨rb.dpS rel h2, hs.2⟩, hs.1, Option.some.inj h⟩
          · cases h
        · split at h
          · rename_i hs
            exact ⟨d, _, ra.dpS rel h1, .inr ⟨rb.dpS rel h2, hs.2⟩, hs.1, Option.some.inj h⟩
          · cases h
        · cases h
    have neg : ∀ (z : Option Bool), z.map (fun b => !b) = some k → z = some (!k) := fun z h => by
      cases z with
      | none => cases h
      | some b => cases h; simp
    cases o with
    | lt =>
      rcases numOf .lt hc with hn | ⟨_, ds, es, is, js, d1, d2, d3, d4, e⟩
      · obtain ⟨i, j, rfl, rfl, e⟩ := num _ hn
        subst e
        exact op_lt _ _ _ _ _ _ _ _ _ I rx ry ⟨i, j, rfl, rfl, fin⟩
      · subst e
        have h1 : Rep X.K W (.tup ds) x := by rw [tup?_some d1] at ra; exact ra
        have h2 : Rep X.K W (.tup es) y := by rw [tup?_some d2] at rb; exact rb
        unfold Rep at h1 h2
        obtain ⟨p1, vs1, rfl, f1, l1⟩ := h1
        obtain ⟨p2, vs2, rfl, f2, l2⟩ := h2
        rw [l1.ints d3] at f1
        rw [l2.ints d4] at f2
        exact op_ltT (by omega) _ _ _ _ _ _ _ _ _ I rx ry ⟨p1, p2, is, js, rfl, rfl, f1, f2, fin⟩
    | le =>
      rcases numOf .le hc with hn | ⟨hz, _⟩
      · obtain ⟨i, j, rfl, rfl, e⟩ := num _ hn
        subst e
        exact op_le _ _ _ _ _ _ _ _ _ I rx ry ⟨i, j, rfl, rfl, fin⟩
      · cases hz
    | gt =>
      rcases numOf .gt hc with hn | ⟨hz, _⟩
      · obtain ⟨i, j, rfl, rfl, e⟩ := num _ hn
        subst e
        exact op_gt _ _ _ _ _ _ _ _ _ I rx ry ⟨i, j, rfl, rfl, fin⟩
      · cases hz
    | ge =>
      rcases numOf .ge hc with hn | ⟨hz, _⟩
      · obtain ⟨i, j, rfl, rfl, e⟩ := num _ hn
        subst e
        exact op_ge _ _ _ _ _ _ _ _ _ I rx ry ⟨i, j, rfl, rfl, fin⟩
      · cases hz
    | eq =>
      rcases eqop_cases hc with ⟨i, j, g1, g2, g3⟩ | hc
      · have f1 := repr_str (str?_some g1 ▸ ra)
        have f2 := repr_str (str?_some g2 ▸ rb)
        subst f1 f2 g3
        refine op_eq _ _ _ _ _ _ _ _ _ I rx ry ⟨rfl, ?_⟩
        rw [show decide (V.str i = V.str j) = decide (i = j) by simp]
        exact fin
      obtain ⟨d, e, h1, h2, h3, h4, h5⟩ := eqs k hc
      exact op_eqD (by omega) _ _ _ _ _ _ _ _ _ I rx ry ⟨d, e, h1, h2, h3, h4, by rw [h5]; exact fin⟩
    | ne =>
      rcases eqop_cases (neg _ hc) with ⟨i, j, g1, g2, g3⟩ | hc'
      · have f1 := repr_str (str?_some g1 ▸ ra)
        have f2 := repr_str (str?_some g2 ▸ rb)
        subst f1 f2
        refine op_ne _ _ _ _ _ _ _ _ _ I rx ry ⟨rfl, ?_⟩
        rw [show (decide (V.str i = V.str j)) = decide (i = j) by simp, g3, Bool.not_not]
        exact fin
      obtain ⟨d, e, h1, h2, h3, h4, h5⟩ := eqs _ hc'
      exact op_neD (by omega) _ _ _ _ _ _ _ _ _ I rx ry ⟨d, e, h1, h2, h3, h4, by rw [h5, Bool.not_not]; exact fin⟩
    | is =>
      rcases iss k hc with ⟨i, j, rfl, rfl, e⟩ | ⟨h1, h2⟩
      · exact op_isBl _ _ _ _ _ _ _ _ _ I rx ry ⟨i, j, rfl, rfl, by rw [e]; exact fin⟩
      exact op_isN _ _ _ _ _ _ _ _ _ I rx ry ⟨h1, by rw [h2]; exact fin⟩
    | isnot =>
      rcases iss _ (neg _ hc) with ⟨i, j, rfl, rfl, e⟩ | ⟨h1, h2⟩
      · exact op_notBl _ _ _ _ _ _ _ _ _ I rx ry ⟨i, j, rfl, rfl, by rw [e, Bool.not_not]; exact fin⟩
      exact op_notN _ _ _ _ _ _ _ _ _ I rx ry ⟨h1, by rw [h2, Bool.not_not]; exact fin⟩
    | isin =>
      rcases ins k hc with ⟨p, xs, h1, h2, h3, h4, h5⟩ | ⟨d, ds, h1, h2, h3, h4⟩
      · exact op_in_seq _ _ _ _ _ _ _ _ _ I rx ry ⟨p, xs, h1, h2, h3, h4, by rw [if_neg (by decide), h5]; exact fin⟩
      · rcases h2 with ⟨h2, h5⟩ | ⟨h2, h5⟩
        · exact op_inD hu _ _ _ _ _ _ _ _ _ I rx ry ⟨d, ds, h1, h2, h3, h5, by rw [h4]; exact fin⟩
        · obtain ⟨as, r1⟩ := Dp.reads I d x v h1 rx
          obtain ⟨bs, r2⟩ := Dp.reads I (.tuple ds) y u h2 ry
          exact SeqAt.in_tuple_reads r2 r1 (SeqAt.canLay_of_shaped h5) (SeqAt.canLay_of_shaped h3) (PyProof.Rows.room_in_shaped h3 hu) ⟨.bl _, W.H, I, rfl, by rw [h4]; exact fin⟩
    | notin =>
      rcases ins _ (neg _ hc) with ⟨p, xs, h1, h2, h3, h4, h5⟩ | ⟨d, ds, h1, h2, h3, h4⟩
      · exact op_notIn_seq _ _ _ _ _ _ _ _ _ I rx ry ⟨p, xs, h1, h2, h3, h4, by rw [if_pos rfl, h5, Bool.not_not]; exact fin⟩
      · rcases h2 with ⟨h2, h5⟩ | ⟨h2, h5⟩
        · exact op_notInD hu _ _ _ _ _ _ _ _ _ I rx ry ⟨d, ds, h1, h2, h3, h5, by rw [h4, Bool.not_not]; exact fin⟩
        · obtain ⟨as, r1⟩ := Dp.reads I d x v h1 rx
          obtain ⟨bs, r2⟩ := Dp.reads I (.tuple ds) y u h2 ry
          exact SeqAt.notIn_tuple_reads r2 r1 (SeqAt.canLay_of_shaped h5) (SeqAt.canLay_of_shaped h3) (PyProof.Rows.room_in_shaped h3 hu) ⟨.bl _, W.H, I, rfl, by rw [h4, Bool.not_not]; exact fin⟩

theorem ix_D : IxR X (rD X.K fun S x y => (index S x y).map fun d => .val d) := by
  intro value sl pins s σ H x y v u Q I rx ry h hsub
  obtain ⟨W0, W1, W, S, a, b, r, rfl, rel, ra, rb, hr, q⟩ := h
  change (index S a b).map (fun d => Rt.val d) = some r at hr
  unfold index at hr
  cases h1 : b.int? with
  | none => rw [h1] at hr; cases hr
  | some k =>
    cases h2 : sview S a with
    | none => rw [h1, h2] at hr; cases hr
    | some ds =>
      rw [h1, h2, Option.bind_some, Option.bind_some] at hr
      cases h3 : L2.atI ds k with
      | none => rw [h3] at hr; cases hr
      | some d =>
        rw [h3] at hr; cases hr
        have e2 := repr_int (int?_some h1 ▸ rb)
        obtain ⟨p, vs, e1, hs, l⟩ := ra.sv rel h2
        obtain ⟨w, e3, rp⟩ := l.atI h3
        have fin : Q w W.H := q W w (Ext.refl W) rel rp
        rcases hs with hs | hs
        · exact ix_seq value sl _ _ _ _ _ _ _ _ _ I rx ry (.inl ⟨p, vs, k, w, e1, e2, hs, e3, fin⟩) hsub
        · exact ix_seq value sl _ _ _ _ _ _ _ _ _ I rx ry (.inr (.inl ⟨p, vs, k, w, e1, e2, hs, e3, fin⟩)) hsub
theorem cut_whole {xs : List V} {lo hi : Option Int} (h : HT.sIx xs.length 0 lo = 0 ∧ HT.sIx xs.length xs.length hi = xs.length) : cutV xs lo hi = xs := by
  unfold cutV
  rw [h.1, h.2]; simp
theorem cutD_whole {xs : List D} {lo hi : Option Int} (h : HT.sIx xs.length 0 lo = 0 ∧ HT.sIx xs.length xs.length hi = xs.length) : cutD xs lo hi = xs := by
  unfold cutD
  rw [h.1, h.2]; simp
def rSl (K : PySem.W.Frag) : V → Option Int → Option Int → Hp → VK → Prop := fun x lo hi H Q => ∃ (W0 W : Wd) (S : Sto) (a r : Rt), W.H = H ∧ Rel K W S ∧ RepR K W0 W x a ∧ slice S a lo hi = some r ∧
  ∀ W' v, Ext W W' → Rel K W' S → RepR K W W' v r → Q v W'.H
theorem sl_D : SlR X (rSl X.K) := by
  intro pins s σ H x v vl vu lo hi sl Q I rx hs pl pu h
  obtain ⟨W0, W, S, a, r, rfl, rel, ra, hr, q⟩ := h
  unfold slice at hr
  cases ht : a.tup? with
  | some ds =>
    rw [ht] at hr; cases hr
    have h1 : Rep X.K W (.tup ds) x := by rw [tup?_some ht] at ra; exact ra
    have h1' := h1
    unfold Rep at h1
    obtain ⟨p, vs, rfl, d1, l1⟩ := h1
    refine sl_tupA pins s σ W.H _ v vl vu lo hi sl Q I rx hs pl pu ⟨p, vs, rfl, d1, fun hw => ?_, fun hw p hp => ?_⟩
    · refine q W _ (Ext.refl W) rel ?_
      rw [l1.length] at hw
      rw [cutD_whole hw]; exact h1'
    · exact q ⟨W.ms, W.fz, _⟩ _ (Ext.laid hp) (rel.laid hp) (Rep.laidT rel hp (l1.cut lo hi))
  | none =>
    rw [ht] at hr
    change (lview S a).map (fun ds => Rt.own (cutD ds lo hi)) = some r at hr
    cases hl : lview S a with
    | none => rw [hl] at hr; cases hr
    | some ds =>
      rw [hl] at hr; cases hr
      obtain ⟨p, vs, rfl, d1, l1⟩ := ra.lv rel hl
      refine sl_list pins s σ W.H _ v vl vu lo hi sl Q I rx hs pl pu ⟨p, vs, rfl, d1, fun p hp => ?_⟩
      exact q ⟨W.ms, W.fz, _⟩ _ (Ext.laid hp) (rel.laid hp) (RepR.laid rel hp (l1.cut lo hi))
end
end Mi
end
section
namespace Mi
open PySem PySem.Spec L2

theorem maxI_spec : ∀ (xs : List Int) (m : Int), maxI m xs ∈ m :: xs ∧ ∀ y ∈ m :: xs, y ≤ maxI m xs
  | [], m => by simp [maxI]
  | x :: r, m => by
    unfold maxI
    obtain ⟨h1, h2⟩ := maxI_spec r (if x > m then x else m)
    refine ⟨?_, fun y hy => ?_⟩
    · rcases List.mem_cons.mp h1 with h | h
      · rw [h]; split <;> simp
      · exact List.mem_cons_of_mem _ (List.mem_cons_of_mem _ h)
    · have h3 := h2 _ List.mem_cons_self
      have hx : x ≤ (if x > m then x else m) := by split <;> omega
      have hm : m ≤ (if x > m then x else m) := by split <;> omega
      rcases List.mem_cons.mp hy with rfl | hy
      · exact Int.le_trans hm h3
      · rcases List.mem_cons.mp hy with rfl | hy
        · exact Int.le_trans hx h3
        · exact h2 y (List.mem_cons_of_mem _ hy)
theorem minI_spec : ∀ (xs : List Int) (m : Int), minI m xs ∈ m :: xs ∧ ∀ y ∈ m :: xs, minI m xs ≤ y
  | [], m => by simp [minI]
  | x :: r, m => by
    unfold minI
    obtain ⟨h1, h2⟩ := minI_spec r (if x < m then x else m)
    refine ⟨?_, fun y hy => ?_⟩
    · rcases List.mem_cons.mp h1 with h | h
      · rw [h]; split <;> simp
      · exact List.mem_cons_of_mem _ (List.mem_cons_of_mem _ h)
    · have h3 := h2 _ List.mem_cons_self
      have hx : (if x < m then x else m) ≤ x := by split <;> omega
      have hm : (if x < m then x else m) ≤ m := by split <;> omega
      rcases List.mem_cons.mp hy with rfl | hy
      · exact Int.le_trans h3 hm
      · rcases List.mem_cons.mp hy with rfl | hy
        · exact Int.le_trans h3 hx
        · exact h2 y (List.mem_cons_of_mem _ hy)
theorem insI_perm (x : Int) : ∀ xs, (insI x xs).Perm (x :: xs)
  | [] => .refl _
  | y :: r => by
    unfold insI
    split
    · exact .refl _
    · exact ((insI_perm x r).cons y).trans (.swap x y r)
theorem insI_mem {x z : Int} {xs : List Int} (h : z ∈ insI x xs) : z = x ∨ z ∈ xs := by
  have := (insI_perm x xs).mem_iff.mp h
  simpa using this
theorem insI_sorted (x : Int) : ∀ xs : List Int, xs.Pairwise (· ≤ ·) → (insI x xs).Pairwise (· ≤ ·)
  | [], _ => by simp [insI]
  | y :: r, h => by
    unfold insI
    obtain ⟨h1, h2⟩ := List.pairwise_cons.mp h
    split
    · rename_i hxy
      refine List.pairwise_cons.mpr ⟨fun z hz => ?_, h⟩
      rcases List.mem_cons.mp hz with rfl | hz
      · exact hxy
      · exact Int.le_trans hxy (h1 z hz)
    · rename_i hxy
      refine List.pairwise_cons.mpr ⟨fun z hz => ?_, insI_sorted x r h2⟩
      rcases insI_mem hz with rfl | hz
      · omega
      · exact h1 z hz
theorem sortI_perm : ∀ xs, (sortI xs).Perm xs
  | [] => .refl _
  | x :: r => by
    unfold sortI
    exact (insI_perm x _).trans ((sortI_perm r).cons x)
theorem sortI_sorted : ∀ xs, (sortI xs).Pairwise (· ≤ ·)
  | [] => .nil
  | x :: r => insI_sorted x _ (sortI_sorted r)
theorem sorted_one : ∀ {xs ys : List Int}, xs.Perm ys → xs.Pairwise (· ≤ ·) → ys.Pairwise (· ≤ ·) → xs = ys
  | [], ys, p, _, _ => by rw [List.nil_perm.mp p]
  | x :: xs, [], p, _, _ => by have := List.perm_nil.mp p; cases this
  | x :: xs, y :: ys, p, h1, h2 => by
    obtain ⟨a1, a2⟩ := List.pairwise_cons.mp h1
    obtain ⟨b1, b2⟩ := List.pairwise_cons.mp h2
    have e : x = y := by
      have m1 : x ∈ y :: ys := p.mem_iff.mp List.mem_cons_self
      have m2 : y ∈ x :: xs := p.mem_iff.mpr List.mem_cons_self
      rcases List.mem_cons.mp m1 with h | h
      · exact h
      · rcases List.mem_cons.mp m2 with g | g
        · exact g.symm
        · have := b1 x h
          have := a1 y g
          omega
    subst e
    rw [sorted_one ((List.perm_cons x).mp p) a2 b2]
section
variable (K : PySem.W.Frag)

def RepRs (W W' : Wd) : List V → List Rt → Prop
  | vs, [] => vs = []
  | vs, r :: rs => ∃ v us, vs = v :: us ∧ RepR K W W' v r ∧ RepRs W W' us rs
def rBi (b : BI) : List V → Hp → VK → Prop := fun xs H Q => ∃ (W0 W : Wd) (S : Sto) (rs : List Rt) (r : Rt), W.H = H ∧ Rel K W S ∧ RepRs K W0 W xs rs ∧ biop S b rs = some r ∧
  ∀ W' v, Ext W W' → Rel K W' S → RepR K W W' v r → Q v W'.H
end
section
variable {X : Cx}
theorem RepRs.one {K : PySem.W.Frag} {W W' : Wd} {vs : List V} {r : Rt} (h : RepRs K W W' vs [r]) : ∃ v, vs = [v] ∧ RepR K W W' v r := by
  obtain ⟨v, us, rfl, h1, h2⟩ := h
  cases (show us = [] from h2)
  exact ⟨v, rfl, h1⟩
theorem RepRs.two {K : PySem.W.Frag} {W W' : Wd} {vs : List V} {r t : Rt} (h : RepRs K W W' vs [r, t]) : ∃ v w, vs = [v, w] ∧ RepR K W W' v r ∧ RepR K W W' w t := by
  obtain ⟨v, us, rfl, h1, h2⟩ := h
  obtain ⟨w, rfl, h3⟩ := RepRs.one h2
  exact ⟨v, w, rfl, h1, h3⟩

theorem bi_cases {K : PySem.W.Frag} {b : BI} {S : Sto} {W0 W : Wd} {xs : List V} {rs : List Rt} {r : Rt} (h : RepRs K W0 W xs rs) (e : biop S b rs = some r) :
    (∃ v a, xs = [v] ∧ RepR K W0 W v a ∧ bi1 S b a = some r) ∨ ∃ i j, xs = [.int i, .int j] ∧ bi2 b i j = some r := by
  match rs, h, e with
  | [], h, e => cases e
  | [a], h, e =>
    obtain ⟨v, rfl, h1⟩ := h.one
    exact .inl ⟨v, a, rfl, h1, e⟩
  | [a, c], h, e =>
    obtain ⟨v, w, rfl, h1, h2⟩ := h.two
    change (a.int?.bind fun i => c.int?.bind fun j => bi2 b i j) = some r at e
    cases e1 : a.int? with
    | none => rw [e1] at e; cases e
    | some i =>
      cases e2 : c.int? with
      | none => rw [e1, e2] at e; cases e
      | some j =>
        rw [e1, e2] at e
        have f1 := repr_int (int?_some e1 ▸ h1)
        have f2 := repr_int (int?_some e2 ▸ h2)
        subst f1 f2
        exact .inr ⟨i, j, rfl, e⟩
  | _ :: _ :: _ :: _, h, e => cases e
theorem bi_abs : CallR X (.builtin "abs") (rBi X.K .abs) := by
  intro pins s σ H xs us Q I rv h
  obtain ⟨W0, W, S, rs, r, rfl, rel, hr, e, q⟩ := h
  rcases bi_cases hr e with ⟨v, a, rfl, h1, e⟩ | ⟨i, j, rfl, e⟩
  · change a.int?.map _ = _ at e
    cases e1 : a.int? with
    | none => rw [e1] at e; cases e
    | some i =>
      rw [e1] at e; cases e
      have f1 := repr_int (int?_some e1 ▸ h1)
      subst f1
      exact call_abs _ _ _ _ _ _ _ I rv ⟨i, rfl, q W _ (Ext.refl W) rel int_repr⟩
  · cases e
theorem bi_int : CallR X (.type "int") (rBi X.K .int) := by
  intro pins s σ H xs us Q I rv h
  obtain ⟨W0, W, S, rs, r, rfl, rel, hr, e, q⟩ := h
  rcases bi_cases hr e with ⟨v, a, rfl, h1, e⟩ | ⟨i, j, rfl, e⟩
  · change (match a.int?, a.bl? with
      | some i, _ => some (Rt.val (.int i))
      | none, some k => some (.val (.int (if k then 1 else 0)))
      | none, none => none) = _ at e
    cases e1 : a.int? with
    | some i =>
      rw [e1] at e; cases e
      have f1 := repr_int (int?_some e1 ▸ h1)
      subst f1
      exact call_int1 _ _ _ _ _ _ _ I rv (.inl ⟨i, rfl, q W _ (Ext.refl W) rel int_repr⟩)
    | none =>
      cases e2 : a.bl? with
      | none => rw [e1, e2] at e; cases e
      | some k =>
        rw [e1, e2] at e; cases e
        have f1 := repr_bl (bl?_some e2 ▸ h1)
        subst f1
        exact call_int1 _ _ _ _ _ _ _ I rv (.inr ⟨k, rfl, q W _ (Ext.refl W) rel int_repr⟩)
  · cases e
theorem bi_len : CallR X (.builtin "len") (rBi X.K .len) := by
  intro pins s σ H xs us Q I rv h
  obtain ⟨W0, W, S, rs, r, rfl, rel, hr, e, q⟩ := h
  rcases bi_cases hr e with ⟨v, a, rfl, h1, e⟩ | ⟨i, j, rfl, e⟩
  · change (match a.str? with
      | some x => if x.length ≤ sizeLine then some (Rt.val (.int x.length)) else none
      | none => (sview S a).map fun (ds : List D) => .val (.int ds.length)) = _ at e
    cases e1 : a.str? with
    | some x =>
      rw [e1] at e
      change (if x.length ≤ sizeLine then some (Rt.val (.int x.length)) else none) = _ at e
      split at e
      · cases e
        rename_i hz
        have f1 := repr_str (str?_some e1 ▸ h1)
        subst f1
        exact call_len_str _ _ _ _ _ _ _ I rv ⟨x, rfl, hz, q W _ (Ext.refl W) rel int_repr⟩
      · cases e
    | none =>
      rw [e1] at e
      change (sview S a).map (fun (ds : List D) => Rt.val (.int ds.length)) = _ at e
      cases e2 : sview S a with
      | none => rw [e2] at e; cases e
      | some ds =>
        rw [e2] at e; cases e
        obtain ⟨p, vs, rfl, hs, l⟩ := h1.sv rel e2
        refine call_len_seq _ _ _ _ _ _ _ I rv ⟨p, vs, rfl, hs, ?_⟩
        rw [l.length]
        exact q W _ (Ext.refl W) rel int_repr
  · cases e
theorem lv_some {α : Type} {S : Sto} {a : Rt} {f : List D → Option α} {r : α} (e : (lview S a).bind f = some r) : ∃ ds, lview S a = some ds ∧ f ds = some r := by
  cases h : lview S a with
  | none => rw [h] at e; cases e
  | some ds => rw [h] at e; exact ⟨ds, rfl, e⟩
theorem map_some {α β : Type} {o : Option α} {f : α → β} {r : β} (e : o.map f = some r) : ∃ x, o = some x ∧ f x = r := by
  cases o with
  | none => cases e
  | some x => exact ⟨x, rfl, Option.some.inj e⟩
theorem bind_some {α β : Type} {o : Option α} {f : α → Option β} {r : β} (e : o.bind f = some r) : ∃ x, o = some x ∧ f x = some r := by
  cases o with
  | none => cases e
  | some x => exact ⟨x, rfl, e⟩
theorem bi_all (hc : X.calm = true) : CallR X (.builtin "all") (rBi X.K .all) := by
  intro pins s σ H xs us Q I rv h
  obtain ⟨W0, W, S, rs, r, rfl, rel, hr, e, q⟩ := h
  rcases bi_cases hr e with ⟨v, a, rfl, h1, e⟩ | ⟨i, j, rfl, e⟩
  · obtain ⟨ds, e1, e⟩ := lv_some e
    obtain ⟨bs, e2, rfl⟩ := map_some e
    obtain ⟨p, vs, rfl, hs, l⟩ := h1.lv rel e1
    have f := l.bls e2
    subst f
    exact cr_all hc _ _ _ _ _ _ _ I rv ⟨p, bs, rfl, hs, q W _ (Ext.refl W) rel bl_repr⟩
  · cases e
theorem bi_any (hc : X.calm = true) : CallR X (.builtin "any") (rBi X.K .any) := by
  intro pins s σ H xs us Q I rv h
  obtain ⟨W0, W, S, rs, r, rfl, rel, hr, e, q⟩ := h
  rcases bi_cases hr e with ⟨v, a, rfl, h1, e⟩ | ⟨i, j, rfl, e⟩
  · obtain ⟨ds, e1, e⟩ := lv_some e
    obtain ⟨bs, e2, rfl⟩ := map_some e
    obtain ⟨p, vs, rfl, hs, l⟩ := h1.lv rel e1
    have f := l.bls e2
    subst f
    exact cr_any hc _ _ _ _ _ _ _ I rv ⟨p, bs, rfl, hs, q W _ (Ext.refl W) rel bl_repr⟩
  · cases e
theorem sv_some {S : Sto} {a r : Rt} {f : List D → Option Rt} (e : (sview S a).bind f = some r) : ∃ ds, sview S a = some ds ∧ f ds = some r := Mi.bind_some e
theorem ints_reads {h : Heap} : ∀ {ns : List Int} {its : List Value}, Vals (ns.map V.int) its → ∃ as, ReadsAll h its (ns.map PyData.int) as
  | [], _, r => by cases r; exact ⟨_, .nil⟩
  | n :: ns, _, r => by
    cases r with
    | cons p q =>
      obtain ⟨t, rfl⟩ := p
      obtain ⟨as, h⟩ := ints_reads (h := h) q
      exact ⟨_, .cons (.int n t) h⟩
theorem alike_ints (ns : List Int) : PySem.W.AlikeAll (ns.map PyData.int) := by
  refine ⟨fun x hx y hy => ?_, fun x hx => ?_⟩
  · obtain ⟨i, _, rfl⟩ := List.mem_map.mp hx
    obtain ⟨j, _, rfl⟩ := List.mem_map.mp hy
    rfl
  · obtain ⟨i, _, rfl⟩ := List.mem_map.mp hx
    simp
theorem depth_ints : ∀ ns : List Int, PyData.depthAll (ns.map PyData.int) = 0
  | [] => rfl
  | n :: ns => by
    show max 0 (PyData.depthAll (ns.map PyData.int)) = 0
    rw [depth_ints ns]; rfl
theorem preSum_getD (val : Nat → Int) : ∀ (ns : List Int) (n : Nat), n ≤ ns.length → (∀ i, val i = ns.getD i 0) → preSum val n = (ns.take n).sum := by
  intro ns n hn hv
  induction n with
  | zero => rfl
  | succ n ih =>
    show preSum val n + val n = _
    rw [ih (by omega), List.take_succ, List.sum_append, hv]
    congr 1
    rw [List.getD_eq_getElem?_getD]
    cases h : ns[n]? with
    | none => rw [List.getElem?_eq_none_iff] at h; omega
    | some x => simp
theorem sum_tup {prog : Program} {w : World} {A : Around} {E : Value → Shared → Prop} {s : Shared} {l : Addr} {its : List Value} {ns : List Int} {Q : Value → Shared → Prop} (hh : A.handled = none) (hl : s.heap.IsTuple l its.toArray) (hi : Vals (ns.map V.int) its)
    (h : ∀ h' tk t', (∀ b o, s.heap.get? b = some o → h'.get? b = some o) → Q (.int ns.sum t') { s with heap := h', toks := tk }) : wpAny (model prog w) A (call (.builtin "sum") [.ref l]) Q E s := by
  have hlen : ns.length = its.length := by have := hi.length; rwa [List.length_map] at this
  refine PySem.call_sum_walkAnyS (PySem.W.iter_tupleW (A := A.in1) hh hl fun s₂ e W st hfp hw hk => ?_)
  refine ⟨_, _, _, _, _, _, _, fun i => ns.getD i 0, rfl, W, st, hfp, fun i v hv => ?_, fun s' t' m => ?_⟩
  · have hv : its[i]? = some v := by simpa using hv
    have hlt : i < ns.length := by rw [hlen]; exact (List.getElem?_eq_some_iff.mp hv).1
    obtain ⟨u, hu, ru⟩ := hi.get (i := i) (x := .int ns[i]) (by rw [List.getElem?_map, List.getElem?_eq_getElem hlt]; rfl)
    rw [hv] at hu; cases hu
    obtain ⟨t, rfl⟩ := ru
    exact ⟨t, by show Value.int ns[i] t = Value.int (ns.getD i 0) t; rw [List.getD_eq_getElem?_getD, List.getElem?_eq_getElem hlt]; rfl⟩
  · obtain ⟨h', tk, rfl, hk'⟩ := PySem.W.moved_old e rfl m
    rw [preSum_getD _ ns _ (by rw [hlen]; simp) fun _ => rfl, List.take_of_length_le (by rw [hlen]; simp)]
    exact h h' tk t' hk'
theorem maxI_fold : ∀ (ns : List Int) (n : Int), ns.foldl max n = maxI n ns
  | [], _ => rfl
  | m :: ns, n => by
    rw [List.foldl_cons, maxI, maxI_fold ns]
    congr 1
    by_cases h : m > n
    · rw [if_pos h]; omega
    · rw [if_neg h]; omega
theorem minI_fold : ∀ (ns : List Int) (n : Int), ns.foldl min n = minI n ns
  | [], _ => rfl
  | m :: ns, n => by
    rw [List.foldl_cons, minI, minI_fold ns]
    congr 1
    by_cases h : m < n
    · rw [if_pos h]; omega
    · rw [if_neg h]; omega
theorem reads_int {h : Heap} {v : Value} {n : Int} {bs : List Addr} (r : Reads h v (.int n) bs) : ∃ t, v = .int n t := by
  cases r; exact ⟨_, rfl⟩
theorem bi_sum (hc : X.calm = true) : CallR X (.builtin "sum") (rBi X.K .sum) := by
  intro pins s σ H xs us Q I rv h
  obtain ⟨W0, W, S, rs, r, rfl, rel, hr, e, q⟩ := h
  rcases bi_cases hr e with ⟨v, a, rfl, h1, e⟩ | ⟨i, j, rfl, e⟩
  · obtain ⟨ds, e1, e⟩ := sv_some e
    obtain ⟨bs, e2, rfl⟩ := map_some e
    obtain ⟨p, vs, rfl, hs, l⟩ := h1.sv rel e1
    have f := l.ints e2
    subst f
    rcases hs with hs | hs
    · exact cr_sum hc _ _ _ _ _ _ _ I rv ⟨p, bs, rfl, hs, q W _ (Ext.refl W) rel int_repr⟩
    · obtain ⟨its, rs, hl, _⟩ := I.tuple hs
      rw [Vals.ref1 rv]
      exact sum_tup (I.ok.hd hc) hl rs fun h' tk t' hk => ⟨.int _, W.H, I.kept hk, ⟨_, rfl⟩, q W _ (Ext.refl W) rel int_repr⟩
  · cases e
theorem bi_max (hc : X.calm = true) (hu : X.A.units + 2 < cLine) : CallR X (.builtin "max") (rBi X.K .max) := by
  intro pins s σ H xs us Q I rv h
  obtain ⟨W0, W, S, rs, r, rfl, rel, hr, e, q⟩ := h
  rcases bi_cases hr e with ⟨v, a, rfl, h1, e⟩ | ⟨i, j, rfl, e⟩
  · obtain ⟨ds, e1, e⟩ := sv_some e
    obtain ⟨bs, e2, e⟩ := bind_some e
    obtain ⟨p, vs, rfl, hs, l⟩ := h1.sv rel e1
    have f := l.ints e2
    subst f
    cases bs with
    | nil => cases e
    | cons i is =>
      cases e
      have fin : ∀ v (h' : Heap) bs', Reads h' v (PySem.W.maxD (.int i) (is.map .int)) bs' → ∃ t, v = .int (maxI i is) t := fun v h' bs' r => by
        rw [PySem.W.maxD_ints, maxI_fold] at r
        exact reads_int r
      rcases hs with hs | hs
      · obtain ⟨its, rs, hl, _⟩ := I.list hs
        rw [Vals.ref1 rv]
        obtain ⟨as, rd⟩ := ints_reads (h := s.heap) rs
        refine PySem.W.max_list_data (I.ok.hd hc) hl.isList (by simpa using rd) (alike_ints (i :: is)) (by have := depth_ints (i :: is); rw [List.map_cons] at this; rw [this]; omega) fun k v h' tk bs' _ r hk => ?_
        obtain ⟨t, rfl⟩ := fin v h' bs' r
        exact ⟨.int _, W.H, I.kept hk, ⟨_, rfl⟩, q W _ (Ext.refl W) rel int_repr⟩
      · obtain ⟨its, rs, hl, _⟩ := I.tuple hs
        rw [Vals.ref1 rv]
        obtain ⟨as, rd⟩ := ints_reads (h := s.heap) rs
        refine PySem.W.max_tuple_data (I.ok.hd hc) hl (by simpa using rd) (alike_ints (i :: is)) (by have := depth_ints (i :: is); rw [List.map_cons] at this; rw [this]; omega) fun k v h' tk bs' _ r hk => ?_
        obtain ⟨t, rfl⟩ := fin v h' bs' r
        exact ⟨.int _, W.H, I.kept hk, ⟨_, rfl⟩, q W _ (Ext.refl W) rel int_repr⟩
  · cases e
    exact call_max2 hc _ _ _ _ _ _ _ I rv ⟨i, j, rfl, q W _ (Ext.refl W) rel int_repr⟩
theorem bi_min (hc : X.calm = true) (hu : X.A.units + 2 < cLine) : CallR X (.builtin "min") (rBi X.K .min) := by
  intro pins s σ H xs us Q I rv h
  obtain ⟨W0, W, S, rs, r, rfl, rel, hr, e, q⟩ := h
  rcases bi_cases hr e with ⟨v, a, rfl, h1, e⟩ | ⟨i, j, rfl, e⟩
  · obtain ⟨ds, e1, e⟩ := sv_some e
    obtain ⟨bs, e2, e⟩ := bind_some e
    obtain ⟨p, vs, rfl, hs, l⟩ := h1.sv rel e1
    have f := l.ints e2
    subst f
    cases bs with
    | nil => cases e
    | cons i is =>
      cases e
      have fin : ∀ v (h' : Heap) bs', Reads h' v (PySem.W.minD (.int i) (is.map .int)) bs' → ∃ t, v = .int (minI i is) t := fun v h' bs' r => by
        rw [PySem.W.minD_ints, minI_fold] at r
        exact reads_int r
      rcases hs with hs | hs
      · obtain ⟨its, rs, hl, _⟩ := I.list hs
        rw [Vals.ref1 rv]
        obtain ⟨as, rd⟩ := ints_reads (h := s.heap) rs
        refine PySem.W.min_list_data (I.ok.hd hc) hl.isList (by simpa using rd) (alike_ints (i :: is)) (by have := depth_ints (i :: is); rw [List.map_cons] at this; rw [this]; omega) fun k v h' tk bs' _ r hk => ?_
        obtain ⟨t, rfl⟩ := fin v h' bs' r
        exact ⟨.int _, W.H, I.kept hk, ⟨_, rfl⟩, q W _ (Ext.refl W) rel int_repr⟩
      · obtain ⟨its, rs, hl, _⟩ := I.tuple hs
        rw [Vals.ref1 rv]
        obtain ⟨as, rd⟩ := ints_reads (h := s.heap) rs
        refine PySem.W.min_tuple_data (I.ok.hd hc) hl (by simpa using rd) (alike_ints (i :: is)) (by have := depth_ints (i :: is); rw [List.map_cons] at this; rw [this]; omega) fun k v h' tk bs' _ r hk => ?_
        obtain ⟨t, rfl⟩ := fin v h' bs' r
        exact ⟨.int _, W.H, I.kept hk, ⟨_, rfl⟩, q W _ (Ext.refl W) rel int_repr⟩
  · cases e
    exact call_min2 hc _ _ _ _ _ _ _ I rv ⟨i, j, rfl, q W _ (Ext.refl W) rel int_repr⟩
theorem bi_sorted : CallR X (.builtin "sorted") (rBi X.K .sorted) := by
  intro pins s σ H xs us Q I rv h
  obtain ⟨W0, W, S, rs, r, rfl, rel, hr, e, q⟩ := h
  rcases bi_cases hr e with ⟨v, a, rfl, h1, e⟩ | ⟨i, j, rfl, e⟩
  · obtain ⟨ds, e1, e⟩ := lv_some e
    obtain ⟨bs, e2, rfl⟩ := map_some e
    obtain ⟨p, vs, rfl, hs, l⟩ := h1.lv rel e1
    have f := l.ints e2
    subst f
    refine cr_sortedI _ _ _ _ _ _ _ I rv ⟨p, _, rfl, hs, fun ns' p' pm so hp => ?_⟩
    have : ns' = sortI bs := sorted_one (pm.trans (sortI_perm bs).symm) so (sortI_sorted bs)
    subst this
    exact q ⟨W.ms, W.fz, _⟩ _ (Ext.laid hp) (rel.laid hp) (RepR.laid rel hp (RepL.ofInts _))
  · cases e
theorem bi_list : CallR X (.type "list") (rBi X.K .list) := by
  intro pins s σ H xs us Q I rv h
  obtain ⟨W0, W, S, rs, r, rfl, rel, hr, e, q⟩ := h
  rcases bi_cases hr e with ⟨v, a, rfl, h1, e⟩ | ⟨i, j, rfl, e⟩
  · obtain ⟨ds, e1, rfl⟩ := map_some e
    obtain ⟨p, vs, rfl, hs, l⟩ := h1.sv rel e1
    refine call_list_of _ _ _ _ _ _ _ I rv ⟨p, _, rfl, hs, fun p' hp => ?_⟩
    exact q ⟨W.ms, W.fz, _⟩ _ (Ext.laid hp) (rel.laid hp) (RepR.laid rel hp l)
  · cases e
theorem bi_tuple : CallR X (.type "tuple") (rBi X.K .tuple) := by
  intro pins s σ H xs us Q I rv h
  obtain ⟨W0, W, S, rs, r, rfl, rel, hr, e, q⟩ := h
  rcases bi_cases hr e with ⟨v, a, rfl, h1, e⟩ | ⟨i, j, rfl, e⟩
  · change (match a.tup? with
      | some ds => some (Rt.val (.tup ds))
      | none => (lview S a).map fun ds => .val (.tup ds)) = _ at e
    cases e1 : a.tup? with
    | some ds =>
      rw [e1] at e; cases e
      have h2 : Rep X.K W (.tup ds) v := by rw [tup?_some e1] at h1; exact h1
      have h2' := h2
      unfold Rep at h2
      obtain ⟨p, vs, rfl, d1, l1⟩ := h2
      exact call_tuple_of _ _ _ _ _ _ _ I rv ⟨p, _, rfl, .inr ⟨d1, q W _ (Ext.refl W) rel h2'⟩⟩
    | none =>
      rw [e1] at e
      change (lview S a).map (fun ds => Rt.val (.tup ds)) = _ at e
      obtain ⟨ds, e1, rfl⟩ := map_some e
      obtain ⟨p, vs, rfl, hs, l⟩ := h1.lv rel e1
      exact call_tuple_of _ _ _ _ _ _ _ I rv ⟨p, _, rfl,   .inl ⟨hs, fun p' hp => q ⟨W.ms, W.fz, _⟩ _ (Ext.laid hp) (rel.laid hp) (Rep.laidT rel hp l)⟩⟩
  · cases e
theorem bi_divmod : CallR X (.builtin "divmod") (rBi X.K .divmod) := by
  intro pins s σ H xs us Q I rv h
  obtain ⟨W0, W, S, rs, r, rfl, rel, hr, e, q⟩ := h
  rcases bi_cases hr e with ⟨v, a, rfl, h1, e⟩ | ⟨i, j, rfl, e⟩
  · cases e
  · change (if 0 < j ∧ j < 1073741824 then some (Rt.val (.tup [.int (i / j), .int (i % j)])) else none) = _ at e
    split at e
    · cases e
      rename_i hc
      refine call_divmod _ _ _ _ _ _ _ I rv ⟨i, j, rfl, hc, fun p hp => ?_⟩
      exact q ⟨W.ms, W.fz, _⟩ _ (Ext.laid hp) (rel.laid hp) (Rep.laidT rel hp (RepL.ofInts [i / j, i % j]))
    · cases e

theorem call_strR {prog : Program} {w : World} {A : Around} {E : Value → Shared → Prop} {s : Shared} {a : Addr} {d : PyData} {as : List Addr} {Q : Value → Shared → Prop} (r : Reads s.heap (.ref a) d as) (hs : d.showable = true) (hd : d.hasDict = false) (hz : d.shown.length ≤ sizeLine) (hg : A.guards = some []) (hu : A.units + (d.depth + 4) < cLine)
    (q : ∀ h' u tk, (∀ b o, s.heap.get? b = some o → h'.get? b = some o) → Q (.str d.shown u) { s with heap := h', toks := tk }) : wpAny (model prog w) A (call (.type "str") [.ref a]) Q E s := by
  refine callType_new F.called_str (by decide) (F.typeCall_str_1 _) (F.newCall_str_1 _) (fun obj => F.args_object_init_2 obj _) F.entry_str_new
    (meets_str_new (S := fun A R s => A.guards = some [] ∧ A.units + (d.depth + 3) < cLine ∧ Reads s.heap (.ref a) d as ∧ ∀ h' u tk, (∀ b o, s.heap.get? b = some o → h'.get? b = some o) → R (.ok (.ret (.str d.shown u))) { s with heap := h', toks := tk }) fun prog w A R s ⟨g1, g2, g3, g4⟩ => ?_) ⟨hg, ?_, r, fun h' u tk k => ⟨typeIs_str _ _ _, q h' u tk k⟩⟩
  · exact strOf_of_reads g3 hs (fun z => by rw [hd] at z; cases z) g1 (by show A.units + 1 + (d.depth + 1) < cLine; omega) (fun _ _ z => z) g4 hz
  · show A.units + 1 + (d.depth + 3) < cLine
    omega
theorem bi_str (hg : X.A.guards = some []) (hu : X.A.units + 70 < cLine) : CallR X (.type "str") (rBi X.K .str) := by
  intro pins s σ H xs us Q I rv h
  obtain ⟨W0, W, S, rs, r, rfl, rel, hr, e, q⟩ := h
  rcases bi_cases hr e with ⟨v, a, rfl, h1, e⟩ | ⟨i, j, rfl, e⟩
  · change (match a.str? with
      | some x => some (Rt.val (.str x))
      | none => (pyR a).bind fun p => if p.showable = true ∧ p.hasDict = false ∧ p.depth ≤ 64 ∧ p.shown.length ≤ sizeLine then some (.val (.str p.shown)) else none) = _ at e
    cases rv with
    | @cons _ u _ _ r0 rr =>
      cases rr
      cases e1 : a.str? with
      | some x =>
        rw [e1] at e; cases e
        have f1 := repr_str (str?_some e1 ▸ h1)
        subst f1
        obtain ⟨t, rfl⟩ := r0
        exact P.str_of_str ⟨.str x, W.H, I, ⟨t, rfl⟩, q W _ (Ext.refl W) rel str_repr⟩
      | none =>
        rw [e1] at e
        dsimp only at e
        obtain ⟨p, hp, e⟩ := Mi.bind_some e
        split at e
        · rename_i hc
          cases e
          have dp := h1.dp hp
          obtain ⟨as, rd⟩ := Dp.reads I p v u dp r0
          have fin : ∀ x, q W x (Ext.refl W) rel = q W x (Ext.refl W) rel := fun _ => rfl
          have out : Q (.str p.shown) W.H := q W _ (Ext.refl W) rel str_repr
          cases rd with
          | none => exact P.str_of_none ⟨.str _, W.H, I.tok _, ⟨_, rfl⟩, out⟩
          | bool b => exact P.str_of_bool ⟨.str _, W.H, I.tok _, ⟨_, rfl⟩, out⟩
          | int i t => exact P.str_of_int (by simpa [PyData.showable] using hc.1) ⟨.str _, W.H, I.tok _, ⟨_, rfl⟩, out⟩
          | str x t =>
            exfalso
            cases a with
            | own ds => cases h2 : toPys ds <;> (rw [show pyR (.own ds) = (toPys ds).map PyData.list from rfl, h2] at hp; cases hp)
            | bor ds => cases h2 : toPys ds <;> (rw [show pyR (.bor ds) = (toPys ds).map PyData.list from rfl, h2] at hp; cases hp)
            | ownd _ _ => cases hp
            | val d =>
              cases d with
              | str y => cases e1
              | non => cases hp
              | bl _ => cases hp
              | int _ => cases hp
              | ref _ => cases hp
              | dct _ _ => cases hp
              | tup ds => cases h2 : toPys ds <;> (rw [show pyR (.val (.tup ds)) = toPy (.tup ds) from rfl] at hp; unfold toPy at hp; rw [h2] at hp; cases hp)
              | lst ds => cases h2 : toPys ds <;> (rw [show pyR (.val (.lst ds)) = toPy (.lst ds) from rfl] at hp; unfold toPy at hp; rw [h2] at hp; cases hp)
              | scr ds => cases h2 : toPys ds <;> (rw [show pyR (.val (.scr ds)) = toPy (.scr ds) from rfl] at hp; unfold toPy at hp; rw [h2] at hp; cases hp)
          | list g1 g2 g3 g4 => exact call_strR (.list g1 g2 g3 g4) hc.1 hc.2.1 hc.2.2.2 hg (by have := hc.2.2.1; omega) fun h' t tk k => ⟨.str _, W.H, I.kept (t' := tk) k, ⟨_, rfl⟩, out⟩
          | tuple g1 g2 g3 g4 => exact call_strR (.tuple g1 g2 g3 g4) hc.1 hc.2.1 hc.2.2.2 hg (by have := hc.2.2.1; omega) fun h' t tk k => ⟨.str _, W.H, I.kept (t' := tk) k, ⟨_, rfl⟩, out⟩
          | dict g1 g2 g3 g4 g5 => exact absurd hc.2.1 (by unfold PyData.hasDict; decide)
        · cases e
  · cases e

def tyN : Ty → String
  | .int => "int" | .bool => "bool" | .str => "str" | .tuple => "tuple" | .list => "list"
theorem Rd.tyL {K : PySem.W.Frag} {H : Hp} {a : Addr} {vs : List V} (h : Rd H a (.lst vs)) : TyX K H (.ref a) (.type "list") := by
  rcases h with h | ⟨o, h⟩
  · exact .base (.lst h)
  · exact .base (.frz h)
theorem SqT.tyT {K : PySem.W.Frag} {H : Hp} {a : Addr} {vs : List V} (h : SqT K H a vs) : TyX K H (.ref a) (.type "tuple") := by
  rcases h with (h | ⟨o, h⟩) | ⟨o, its, n, h, hc, _⟩
  · exact .base (.tup h)
  · exact .fTuple h
  · exact .kTuple h hc

theorem ty_of {K : PySem.W.Frag} {W0 W : Wd} {S : Sto} {v : V} {a : Rt} (rel : Rel K W S) (h : RepR K W0 W v a) (hd : refD S a = false) : ∃ T : String, TyX K W.H v (.type T) ∧ ∀ t, kitB T (tyN t) = some (tyR a t) := by
  have lst : ∀ {p : Addr} {vs : List V}, Rd W.H p (.lst vs) → TyX K W.H (.ref p) (.type "list") := fun h => Rd.tyL h
  have kl : ∀ t, kitB "list" (tyN t) = some (decide (t = .list)) := by intro t; cases t <;> decide +kernel
  have kb : ∀ t, kitB "bool" (tyN t) = some (decide (t = .bool) || decide (t = .int)) := by intro t; cases t <;> decide +kernel
  have ki : ∀ t, kitB "int" (tyN t) = some (decide (t = .int)) := by intro t; cases t <;> decide +kernel
  have ks : ∀ t, kitB "str" (tyN t) = some (decide (t = .str)) := by intro t; cases t <;> decide +kernel
  have kt : ∀ t, kitB "tuple" (tyN t) = some (decide (t = .tuple)) := by intro t; cases t <;> decide +kernel
  have kd : ∀ t, kitB "dict" (tyN t) = some false := by intro t; cases t <;> decide +kernel
  cases a with
  | own ds =>
    obtain ⟨p, vs, rfl, e2, _⟩ := h
    exact ⟨"list", lst (.inl e2), kl⟩
  | bor ds =>
    obtain ⟨p, vs, rfl, e2, _⟩ := h
    exact ⟨"list", lst (.inl e2), kl⟩
  | ownd ks ds =>
    obtain ⟨p, vs, rfl, e2, _⟩ := h
    exact ⟨"dict", .base (.dK e2), kd⟩
  | val d =>
    have h : Rep K W d v := h
    cases d with
    | non => unfold Rep at h; subst h; exact ⟨"NoneType", .base .non, by intro t; cases t <;> decide +kernel⟩
    | bl b => unfold Rep at h; subst h; exact ⟨"bool", .base (.bl b), kb⟩
    | int b => unfold Rep at h; subst h; exact ⟨"int", .base (.int b), ki⟩
    | str b => unfold Rep at h; subst h; exact ⟨"str", .base (.str b), ks⟩
    | tup ds =>
      unfold Rep at h
      obtain ⟨p, vs, rfl, e, _⟩ := h
      exact ⟨"tuple", SqT.tyT e, kt⟩
    | lst ds =>
      unfold Rep at h
      obtain ⟨p, vs, rfl, _, e, _⟩ := h
      exact ⟨"list", lst (.inl e), kl⟩
    | scr ds =>
      unfold Rep at h
      obtain ⟨p, vs, rfl, e, _⟩ := h
      rcases e with ⟨_, e⟩ | ⟨o, _, _, e, c, _⟩
      · exact ⟨"list", lst e, kl⟩
      · exact ⟨"list", .kList e c, kl⟩
    | ref l =>
      unfold Rep at h
      obtain ⟨p, rfl, e⟩ := h
      have hlt : l < S.length := by rw [← rel.len]; exact (List.getElem?_eq_some_iff.mp e).1
      cases hc : S[l]? with
      | none => rw [List.getElem?_eq_none_iff] at hc; omega
      | some c =>
        cases c with
        | lst ds =>
          obtain ⟨b, ws, e1, e2, _⟩ := rel.cells l ds hc
          rw [e] at e1; cases e1
          exact ⟨"list", lst (.inl e2), kl⟩
        | dct ks ds =>
          have hd : (cellD S l).isSome = false := hd
          unfold cellD at hd
          rw [hc] at hd
          cases hd
    | dct ks ds =>
      unfold Rep at h
      obtain ⟨p, vs, rfl, _, e, _⟩ := h
      exact ⟨"dict", .base (.dK e), kd⟩
def rIs1 (K : PySem.W.Frag) (t : Ty) : List V → Hp → VK → Prop := fun xs H Q => ∃ (W0 W : Wd) (S : Sto) (v : V) (a : Rt), W.H = H ∧ Rel K W S ∧ xs = [v, .ty (tyN t)] ∧ RepR K W0 W v a ∧ refD S a = false ∧ Q (.bl (tyR a t)) W.H
theorem bi_isi1 (t : Ty) : CallR X (.builtin "isinstance") (rIs1 X.K t) := by
  intro pins s σ H xs us Q I rv h
  obtain ⟨W0, W, S, v, a, rfl, rel, rfl, h1, hd, q⟩ := h
  obtain ⟨T, ty, k⟩ := ty_of rel h1 hd
  exact call_isi _ _ _ _ _ _ _ I rv ⟨v, .ty (tyN t), .type T, .type (tyN t), tyR a t, rfl, .ty _, ty, kit_ty (k t), q⟩
theorem kitAny_D {K : PySem.W.Frag} {T : String} {a : Rt} (k : ∀ t, kitB T (tyN t) = some (tyR a t)) : ∀ ts : List Ty, PySem.W.kitAny K (.type T) (ts.map fun t => Value.type (tyN t)) = some (ts.any fun t => tyR a t)
  | [] => rfl
  | t :: ts => by
    rw [List.map_cons, List.any_cons]
    refine kitAny_cons (kit_ty (k t)) (fun h => ?_) fun h => ?_
    · rw [h, Bool.false_or]; exact kitAny_D k ts
    · rw [h, Bool.true_or]
def rIsN (K : PySem.W.Frag) (ts : List Ty) : List V → Hp → VK → Prop := fun xs H Q => ∃ (W0 W : Wd) (S : Sto) (v : V) (tp : Addr) (a : Rt), W.H = H ∧ Rel K W S ∧ xs = [v, .ref tp] ∧ W.H tp = some (.tup (ts.map fun t => .ty (tyN t))) ∧ RepR K W0 W v a ∧ refD S a = false ∧ Q (.bl (ts.any fun t => tyR a t)) W.H
theorem clsv_all : ∀ ts : List Ty, Paired ClsV (ts.map fun t => V.ty (tyN t)) (ts.map fun t => Value.type (tyN t))
  | [] => .nil
  | t :: ts => .cons (.ty _) (clsv_all ts)
theorem bi_isi (ts : List Ty) : CallR X (.builtin "isinstance") (rIsN X.K ts) := by
  intro pins s σ H xs us Q I rv h
  obtain ⟨W0, W, S, v, tp, a, rfl, rel, rfl, ht, h1, hd, q⟩ := h
  obtain ⟨T, ty, k⟩ := ty_of rel h1 hd
  exact call_isiT _ _ _ _ _ _ _ I rv ⟨v, tp, _, .type T, _, _, rfl, ht, clsv_all ts, ty, kitAny_D k ts, q⟩
end
end Mi
end
section
namespace Mi
open PySem PySem.Spec L2
section
variable (K : PySem.W.Frag) (Φ : Fns) (G : List D)

def At (W : Wd) (S : Sto) (ρ : Env) (σ : St) (H : Hp) : Prop := W.H = H ∧ Rel K W S ∧ SlotR K W σ ρ
def tR (m : ME) : TE := fun σ H Q => ∃ W S ρ, At K W S ρ σ H ∧ ∃ r S', evR Φ G ρ m S = some (r, S') ∧ ∀ W' v, Ext W W' → Rel K W' S' → RepR K W W' v r → Q v W'.H
def tBl (m : ME) : TT := fun σ H Q => ∃ W S ρ, At K W S ρ σ H ∧ ∃ b S', evR Φ G ρ m S = some (.val (.bl b), S') ∧ ∀ W', Ext W W' → Rel K W' S' → Q b W'.H
def tRs (ms : MEs) : TA := fun σ H Q => ∃ W S ρ, At K W S ρ σ H ∧ ∃ rs S', evRs Φ G ρ ms S = some (rs, S') ∧ ∀ W' vs, Ext W W' → Rel K W' S' → RepRs K W W' vs rs → Q vs W'.H
def tDs (ms : MEs) : TA := fun σ H Q => ∃ W S ρ, At K W S ρ σ H ∧ ∃ ds S', evs Φ G ρ ms S = some (ds, S') ∧ ∀ W' vs, Ext W W' → Rel K W' S' → RepL K W' ds vs → Q vs W'.H
def tOp' (m : MO) : TO := fun σ H Q => ∃ W S ρ, At K W S ρ σ H ∧ ∃ o S', evO Φ G ρ m S = some (o, S') ∧ ∀ W', Ext W W' → Rel K W' S' → Q o W'.H
end
section
variable {K : PySem.W.Frag} {Φ : Fns} {G : List D} {W W' : Wd} {S S' : Sto} {ρ : Env} {σ : St} {H : Hp}
theorem At.rel (a : At K W S ρ σ H) : Rel K W S := a.2.1
theorem At.sl (a : At K W S ρ σ H) : SlotR K W σ ρ := a.2.2
theorem At.ext (a : At K W S ρ σ H) (e : Ext W W') (r : Rel K W' S') : At K W' S' ρ σ W'.H := ⟨rfl, r, a.sl.ext a.rel e⟩
theorem RepRs.ext {S : Sto} {W0 W W' : Wd} (r : Rel K W S) (e : Ext W W') : ∀ {vs : List V} {rs : List Rt}, RepRs K W0 W vs rs → RepRs K W0 W' vs rs
  | vs, [], h => h
  | vs, x :: rs, ⟨v, us, e1, h1, h2⟩ => ⟨v, us, e1, h1.ext r e, RepRs.ext r e h2⟩
theorem RepRs.back {W0 W1 W' : Wd} (e : Ext W0 W1) : ∀ {vs : List V} {rs : List Rt}, RepRs K W1 W' vs rs → RepRs K W0 W' vs rs
  | vs, [], h => h
  | vs, x :: rs, ⟨v, us, e1, h1, h2⟩ => ⟨v, us, e1, h1.back e, RepRs.back e h2⟩
theorem bind2 {α β γ : Type} {o : Option (α × Sto)} {f : α × Sto → Option γ} {r : γ} (e : o.bind f = some r) : ∃ x S, o = some (x, S) ∧ f (x, S) = some r := by
  obtain ⟨⟨x, S⟩, h1, h2⟩ := Mi.bind_some e
  exact ⟨x, S, h1, h2⟩
end
section
variable {X : Cx} {Φ : Fns} {G : List D} {e e1 e2 : Expr} {pos : Pos}
abbrev DE (X : Cx) (Φ : Fns) (G : List D) (e : Expr) (m : ME) : Prop := PE X e (tR X.K Φ G m)
abbrev DT (X : Cx) (Φ : Fns) (G : List D) (e : Expr) (m : ME) : Prop := PT X e (tBl X.K Φ G m)
theorem de_var {i : Nat} {x : Str} (hN : X.N[i]? = some x) (hv : Vis X.env.scope x) (hd : (x == ("__debug__" : Str)) = false) (hcd : (x == ("__classdict__" : Str)) = false) : DE X Φ G (.Name x pos) (.var i) := by
  refine PE.imp (pe_var hN hv hd hcd) fun σ H Q h => ?_
  obtain ⟨W, S, ρ, a, r, S', ev, q⟩ := h
  unfold evR at ev
  split at ev
  · rename_i d hρ
    cases ev
    obtain ⟨v, h1, h2⟩ := a.sl.2.1 i d hρ
    refine ⟨v, h1, ?_⟩
    have := q W v (Ext.refl W) a.rel h2
    rw [a.1] at this; exact this
  · cases ev
theorem de_bor {i : Nat} {x : Str} (hN : X.N[i]? = some x) (hv : Vis X.env.scope x) (hd : (x == ("__debug__" : Str)) = false) (hcd : (x == ("__classdict__" : Str)) = false) : DE X Φ G (.Name x pos) (.bor i) := by
  refine PE.imp (pe_var hN hv hd hcd) fun σ H Q h => ?_
  obtain ⟨W, S, ρ, a, r, S', ev, q⟩ := h
  unfold evR at ev
  split at ev
  · rename_i d hρ
    cases ev
    obtain ⟨p, vs, h1, h2, h3, h4, h5⟩ := a.sl.2.2.1 i d hρ
    refine ⟨_, h1, ?_⟩
    have := q W _ (Ext.refl W) a.rel ⟨p, vs, rfl, h2, h3, h5⟩
    rw [a.1] at this; exact this
  · cases ev
theorem de_con {c : Const} {j : Nat} {d : D} {v : V} (h : PE X (.Constant c j pos) (tC v)) (hr : ∀ W, Rep X.K W d v) : DE X Φ G (.Constant c j pos) (.con d) := by
  refine PE.imp h fun σ H Q h => ?_
  obtain ⟨W, S, ρ, a, r, S', ev, q⟩ := h
  unfold evR at ev
  cases ev
  have := q W v (Ext.refl W) a.rel (hr W)
  rw [a.1] at this; exact this
theorem de_glb {x : Str} {j : Nat} {d : D} {v : V} (h : PE X (.Name x pos) (tC v)) (hg : G[j]? = some d) (hr : d.dct? = none → ∀ W, Rep X.K W d v) : DE X Φ G (.Name x pos) (.glb j) := by
  refine PE.imp h fun σ H Q h => ?_
  obtain ⟨W, S, ρ, a, r, S', ev, q⟩ := h
  unfold evR at ev
  rw [hg, Option.bind_some] at ev
  split at ev
  · cases ev
  · rename_i hd
    cases ev
    have := q W v (Ext.refl W) a.rel (hr (by simpa using hd) W)
    rw [a.1] at this; exact this

theorem two_op {m1 m2 : ME} {F : Sto → Rt → Rt → Option Rt} {op : R2} {σ : St} {H : Hp} {Q : VK} (hop : op = rD X.K F) (m : ME) (hm : ∀ ρ S, evR Φ G ρ m S = (evR Φ G ρ m1 S).bind fun p => (evR Φ G ρ m2 p.2).bind fun q => (F q.2 p.1 q.1).map fun r => (r, q.2))
    (h : tR X.K Φ G m σ H Q) : tOp op (tR X.K Φ G m1) (tR X.K Φ G m2) σ H Q := by
  subst hop
  obtain ⟨W, S, ρ, a, r, S', ev, q⟩ := h
  rw [hm] at ev
  obtain ⟨⟨x, S1⟩, ev1, ev⟩ := Mi.bind_some ev
  obtain ⟨⟨y, S2⟩, ev2, ev⟩ := Mi.bind_some ev
  obtain ⟨z, hz, ev⟩ := map_some ev
  cases ev
  refine ⟨W, S, ρ, a, x, S1, ev1, fun W1 v1 e1 r1 p1 => ?_⟩
  refine ⟨W1, S1, ρ, a.ext e1 r1, y, S2, ev2, fun W2 v2 e2 r2 p2 => ?_⟩
  refine ⟨W, W1, W2, _, x, y, _, rfl, r2, p1.ext r1 e2, p2, hz, fun W3 v e3 r3 p3 => ?_⟩
  exact q W3 v ((e1.trans e2).trans e3) r3 (p3.back (e1.trans e2))
theorem de_bin {o : BOp} {m1 m2 : ME} (h1 : DE X Φ G e1 m1) (h2 : DE X Φ G e2 m2) : DE X Φ G (.BinOp e1 (opOf o) e2 pos) (.bin o m1 m2) :=
  PE.imp (pe_op (op_bin o) h1 h2) fun σ H Q h => two_op rfl (.bin o m1 m2) (fun ρ S => by rw [evR]) h
theorem de_cmp {o : COp} {m1 m2 : ME} (hu : X.A.units + 65 < cLine) (hm : behindInMarks (cOf o) e2 = false) (h1 : DE X Φ G e1 m1) (h2 : DE X Φ G e2 m2) : DE X Φ G (.Compare e1 [cOf o] [e2] pos) (.cmp o m1 m2) :=
  PE.imp (pe_cmpR (op_cmp hu o) h1 h2 hm) fun σ H Q h => two_op rfl (.cmp o m1 m2) (fun ρ S => by
    rw [evR]; congr; funext p; congr; funext q; cases cmpop q.2 o p.1 q.1 <;> rfl) h
theorem de_idx {m1 m2 : ME} (hs : PlainIx e2) (h1 : DE X Φ G e1 m1) (h2 : DE X Φ G e2 m2) : DE X Φ G (.Subscript e1 e2 pos) (.idx m1 m2) :=
  PE.imp (pe_ix ix_D h1 h2 hs) fun σ H Q h => two_op rfl (.idx m1 m2) (fun ρ S => by
    rw [evR]; congr; funext p; congr; funext q; cases index q.2 p.1 q.1 <;> rfl) h

theorem dt_val {m : ME} (h : DE X Φ G e m) (he : ∀ whole, isTrue e X.env whole = (do let v ← whole; standAt e.pos; holding [v] (truthy v))) : DT X Φ G e m := by
  refine PT.imp (pt_val h he) fun σ H Q h => ?_
  obtain ⟨W, S, ρ, a, b, S', ev, q⟩ := h
  exact ⟨W, S, ρ, a, _, S', ev, fun W' v e r p => ⟨b, repr_bl p, q W' e r⟩⟩
theorem dt_cmp {o : COp} {m1 m2 : ME} (hu : X.A.units + 65 < cLine) (hm : behindInMarks (cOf o) e2 = false) (h1 : DE X Φ G e1 m1) (h2 : DE X Φ G e2 m2) : DT X Φ G (.Compare e1 [cOf o] [e2] pos) (.cmp o m1 m2) := by
  refine PT.imp (pt_cmpR (op_cmp hu o) h1 h2 hm) fun σ H Q h => ?_
  obtain ⟨W, S, ρ, a, b, S', ev, q⟩ := h
  have : tR X.K Φ G (.cmp o m1 m2) σ H (fun x H' => ∃ k, x = .bl k ∧ Q k H') := ⟨W, S, ρ, a, _, S', ev, fun W' v e r p => ⟨b, repr_bl p, q W' e r⟩⟩
  exact two_op rfl (.cmp o m1 m2) (fun ρ S => by
    rw [evR]; congr; funext p; congr; funext q; cases cmpop q.2 o p.1 q.1 <;> rfl) this
theorem de_neg {m : ME} (h : DE X Φ G e m) : DE X Φ G (.UnaryOp .USub e pos) (.neg m) := by
  refine PE.imp (pe_un un_neg h) fun σ H Q h => ?_
  obtain ⟨W, S, ρ, a, r, S', ev, q⟩ := h
  rw [evR] at ev
  obtain ⟨⟨x, S1⟩, ev1, ev⟩ := Mi.bind_some ev
  refine ⟨W, S, ρ, a, x, S1, ev1, fun W1 v1 e1 r1 p1 => ?_⟩
  dsimp only at ev
  split at ev
  · cases ev
    exact ⟨_, repr_int p1, q W1 _ e1 r1 int_repr⟩
  · cases ev
theorem de_not {m : ME} (h : DE X Φ G e m) : DE X Φ G (.UnaryOp .Not e pos) (.not m) := by
  refine PE.imp (pe_not h) fun σ H Q h => ?_
  obtain ⟨W, S, ρ, a, r, S', ev, q⟩ := h
  rw [evR] at ev
  obtain ⟨⟨x, S1⟩, ev1, ev⟩ := Mi.bind_some ev
  refine ⟨W, S, ρ, a, x, S1, ev1, fun W1 v1 e1 r1 p1 => ?_⟩
  dsimp only at ev
  split at ev
  · cases ev
    exact ⟨_, repr_bl p1, q W1 _ e1 r1 bl_repr⟩
  · cases ev
theorem not_inv {m : ME} {ρ : Env} {S S' : Sto} {b : Bool} (ev : evR Φ G ρ (.not m) S = some (.val (.bl b), S')) : evR Φ G ρ m S = some (.val (.bl !b), S') := by
  rw [evR] at ev
  obtain ⟨⟨x, S1⟩, ev1, ev⟩ := Mi.bind_some ev
  dsimp only at ev
  split at ev
  · cases ev
    rw [ev1, Bool.not_not]
  · cases ev
theorem dt_not {m : ME} (h : DT X Φ G e m) : DT X Φ G (.UnaryOp .Not e pos) (.not m) := by
  refine PT.imp (pt_not h) fun σ H Q h => ?_
  obtain ⟨W, S, ρ, a, b, S', ev, q⟩ := h
  exact ⟨W, S, ρ, a, _, S', not_inv ev, fun W' e r => by show Q (!(!b)) W'.H; rw [Bool.not_not]; exact q W' e r⟩

theorem de_and {m1 m2 : ME} {rest : List Expr} (h1 : DE X Φ G e1 m1) (h2 : DE X Φ G (.BoolOp .And (e2 :: rest) pos) m2) : DE X Φ G (.BoolOp .And (e1 :: e2 :: rest) pos) (.and m1 m2) := by
  refine PE.imp (pe_and h1 h2) fun σ H Q h => ?_
  obtain ⟨W, S, ρ, a, r, S', ev, q⟩ := h
  rw [evR] at ev
  obtain ⟨⟨x, S1⟩, ev1, ev⟩ := Mi.bind_some ev
  refine ⟨W, S, ρ, a, x, S1, ev1, fun W1 v1 e1 r1 p1 => ?_⟩
  dsimp only at ev
  split at ev
  · refine ⟨true, repr_bl p1, ?_⟩
    refine iteT ?_
    exact ⟨W1, S1, ρ, a.ext e1 r1, r, S', ev, fun W2 v e2 r2 p2 => q W2 v (e1.trans e2) r2 (p2.back e1)⟩
  · cases ev
    refine ⟨false, repr_bl p1, ?_⟩
    refine iteF ?_
    exact q W1 _ e1 r1 bl_repr
  · cases ev
theorem de_or {m1 m2 : ME} {rest : List Expr} (h1 : DE X Φ G e1 m1) (h2 : DE X Φ G (.BoolOp .Or (e2 :: rest) pos) m2) : DE X Φ G (.BoolOp .Or (e1 :: e2 :: rest) pos) (.or m1 m2) := by
  refine PE.imp (pe_or h1 h2) fun σ H Q h => ?_
  obtain ⟨W, S, ρ, a, r, S', ev, q⟩ := h
  rw [evR] at ev
  obtain ⟨⟨x, S1⟩, ev1, ev⟩ := Mi.bind_some ev
  refine ⟨W, S, ρ, a, x, S1, ev1, fun W1 v1 e1 r1 p1 => ?_⟩
  dsimp only at ev
  split at ev
  · cases ev
    refine ⟨true, repr_bl p1, ?_⟩
    refine iteT ?_
    exact q W1 _ e1 r1 bl_repr
  · refine ⟨false, repr_bl p1, ?_⟩
    refine iteF ?_
    exact ⟨W1, S1, ρ, a.ext e1 r1, r, S', ev, fun W2 v e2 r2 p2 => q W2 v (e1.trans e2) r2 (p2.back e1)⟩
  · cases ev
abbrev DW (X : Cx) (Φ : Fns) (G : List D) (e : Expr) (m : ME) : Prop := PW X e (tBl X.K Φ G m)
theorem PW.imp {X : Cx} {e : Expr} {t t' : TT} (h : PW X e t) (i : ∀ σ H Q, t' σ H Q → t σ H Q) : PW X e t' := ⟨fun wh pins s σ H Q I q => h.run wh pins s σ H Q I (i σ H Q q)⟩
theorem dw_and {m1 m2 : ME} {rest : List Expr} (h1 : DT X Φ G e1 m1) (h2 : DW X Φ G (.BoolOp .And (e2 :: rest) pos) m2) : DW X Φ G (.BoolOp .And (e1 :: e2 :: rest) pos) (.and m1 m2) := by
  refine PW.imp (pw_and h1 h2) fun σ H Q h => ?_
  obtain ⟨W, S, ρ, a, b, S', ev, q⟩ := h
  rw [evR] at ev
  obtain ⟨⟨x, S1⟩, ev1, ev⟩ := Mi.bind_some ev
  dsimp only at ev
  split at ev
  · refine ⟨W, S, ρ, a, true, S1, ev1, fun W1 e1 r1 => ?_⟩
    refine iteT ?_
    exact ⟨W1, S1, ρ, a.ext e1 r1, b, S', ev, fun W2 e2 r2 => q W2 (e1.trans e2) r2⟩
  · cases ev
    refine ⟨W, S, ρ, a, false, _, ev1, fun W1 e1 r1 => ?_⟩
    refine iteF ?_
    exact q W1 e1 r1
  · cases ev
theorem dw_or {m1 m2 : ME} {rest : List Expr} (h1 : DT X Φ G e1 m1) (h2 : DW X Φ G (.BoolOp .Or (e2 :: rest) pos) m2) : DW X Φ G (.BoolOp .Or (e1 :: e2 :: rest) pos) (.or m1 m2) := by
  refine PW.imp (pw_or h1 h2) fun σ H Q h => ?_
  obtain ⟨W, S, ρ, a, b, S', ev, q⟩ := h
  rw [evR] at ev
  obtain ⟨⟨x, S1⟩, ev1, ev⟩ := Mi.bind_some ev
  dsimp only at ev
  split at ev
  · cases ev
    refine ⟨W, S, ρ, a, true, _, ev1, fun W1 e1 r1 => ?_⟩
    refine iteT ?_
    exact q W1 e1 r1
  · refine ⟨W, S, ρ, a, false, S1, ev1, fun W1 e1 r1 => ?_⟩
    refine iteF ?_
    exact ⟨W1, S1, ρ, a.ext e1 r1, b, S', ev, fun W2 e2 r2 => q W2 (e1.trans e2) r2⟩
  · cases ev
theorem de_ite {c : Expr} {mc m1 m2 : ME} (hc : DT X Φ G c mc) (h1 : DE X Φ G e1 m1) (h2 : DE X Φ G e2 m2) : DE X Φ G (.IfExp c e1 e2 pos) (.ite mc m1 m2) := by
  refine PE.imp (pe_ifExp hc h1 h2) fun σ H Q h => ?_
  obtain ⟨W, S, ρ, a, r, S', ev, q⟩ := h
  rw [evR] at ev
  obtain ⟨⟨x, S1⟩, ev1, ev⟩ := Mi.bind_some ev
  dsimp only at ev
  split at ev
  · refine ⟨W, S, ρ, a, true, S1, ev1, fun W1 e1 r1 => ?_⟩
    refine iteT ?_
    exact ⟨W1, S1, ρ, a.ext e1 r1, r, S', ev, fun W2 v e2 r2 p2 => q W2 v (e1.trans e2) r2 (p2.back e1)⟩
  · refine ⟨W, S, ρ, a, false, S1, ev1, fun W1 e1 r1 => ?_⟩
    refine iteF ?_
    exact ⟨W1, S1, ρ, a.ext e1 r1, r, S', ev, fun W2 v e2 r2 p2 => q W2 v (e1.trans e2) r2 (p2.back e1)⟩
  · cases ev

abbrev DAs (X : Cx) (Φ : Fns) (G : List D) (es : List Expr) (ms : MEs) : Prop := PA X es (tDs X.K Φ G ms)
abbrev DRs (X : Cx) (Φ : Fns) (G : List D) (es : List Expr) (ms : MEs) : Prop := PA X es (tRs X.K Φ G ms)
theorem da_nil : DAs X Φ G [] .nil := by
  refine PA.imp pa_nil fun σ H Q h => ?_
  obtain ⟨W, S, ρ, a, ds, S', ev, q⟩ := h
  rw [evs] at ev
  cases ev
  have := q W [] (Ext.refl W) a.rel .nil
  rw [a.1] at this; exact this
theorem da_cons {es : List Expr} {m : ME} {ms : MEs} (hs : starEach (e :: es) X.env = (false, eval e X.env) :: starEach es X.env) (h1 : DE X Φ G e m) (h2 : DAs X Φ G es ms) : DAs X Φ G (e :: es) (.cons m ms) := by
  refine PA.imp (pa_cons h1 h2 hs) fun σ H Q h => ?_
  obtain ⟨W, S, ρ, a, ds, S', ev, q⟩ := h
  rw [evs] at ev
  obtain ⟨⟨x, S1⟩, ev1, ev⟩ := Mi.bind_some ev
  obtain ⟨d, hd, ev⟩ := Mi.bind_some ev
  obtain ⟨⟨ds', S2⟩, ev2, ev⟩ := map_some ev
  cases ev
  refine ⟨W, S, ρ, a, x, S1, ev1, fun W1 v1 e1 r1 p1 => ?_⟩
  obtain ⟨W1', eH, e1', r1', p1'⟩ := p1.shut r1 e1 hd
  have := a.ext e1' r1'
  rw [eH] at this
  refine ⟨W1', S1, ρ, this, ds', S2, ev2, fun W2 vs e2 r2 p2 => ?_⟩
  exact q W2 _ (e1'.trans e2) r2 (.cons (Rep.ext r1' e2 d v1 p1') p2)
theorem dr_nil : DRs X Φ G [] .nil := by
  refine PA.imp pa_nil fun σ H Q h => ?_
  obtain ⟨W, S, ρ, a, ds, S', ev, q⟩ := h
  rw [evRs] at ev
  cases ev
  have := q W [] (Ext.refl W) a.rel rfl
  rw [a.1] at this; exact this
theorem dr_cons {es : List Expr} {m : ME} {ms : MEs} (hs : starEach (e :: es) X.env = (false, eval e X.env) :: starEach es X.env) (h1 : DE X Φ G e m) (h2 : DRs X Φ G es ms) : DRs X Φ G (e :: es) (.cons m ms) := by
  refine PA.imp (pa_cons h1 h2 hs) fun σ H Q h => ?_
  obtain ⟨W, S, ρ, a, ds, S', ev, q⟩ := h
  rw [evRs] at ev
  obtain ⟨⟨x, S1⟩, ev1, ev⟩ := Mi.bind_some ev
  obtain ⟨⟨ds', S2⟩, ev2, ev⟩ := map_some ev
  cases ev
  refine ⟨W, S, ρ, a, x, S1, ev1, fun W1 v1 e1 r1 p1 => ?_⟩
  refine ⟨W1, S1, ρ, a.ext e1 r1, ds', S2, ev2, fun W2 vs e2 r2 p2 => ?_⟩
  exact q W2 _ (e1.trans e2) r2 ⟨_, _, rfl, p1.ext r1 e2, p2.back e1⟩
theorem de_tup {es : List Expr} {ms : MEs} {k : Nat} (h : DAs X Φ G es ms) : DE X Φ G (.Tuple es k pos) (.tup ms) := by
  refine PE.imp (pe_tup h) fun σ H Q h => ?_
  obtain ⟨W, S, ρ, a, r, S', ev, q⟩ := h
  rw [evR] at ev
  obtain ⟨⟨ds, S1⟩, ev1, ev⟩ := Mi.bind_some ev
  dsimp only at ev
  split at ev
  · rename_i hz
    cases ev
    refine ⟨W, S, ρ, a, ds, _, ev1, fun W1 vs e1 r1 p1 => ⟨by rw [p1.length]; exact hz, fun p hp => ?_⟩⟩
    exact q ⟨W1.ms, W1.fz, _⟩ _ (e1.trans (Ext.laid hp)) (r1.laid hp) (Rep.laidT r1 hp p1)
  · cases ev
theorem de_lst {es : List Expr} {ms : MEs} (h : DAs X Φ G es ms) : DE X Φ G (.List es pos) (.lst ms) := by
  refine PE.imp (pe_lst h) fun σ H Q h => ?_
  obtain ⟨W, S, ρ, a, r, S', ev, q⟩ := h
  rw [evR] at ev
  obtain ⟨⟨ds, S1⟩, ev1, ev⟩ := Mi.bind_some ev
  dsimp only at ev
  split at ev
  · rename_i hz
    cases ev
    refine ⟨W, S, ρ, a, ds, _, ev1, fun W1 vs e1 r1 p1 => ⟨by rw [p1.length]; exact hz, fun p hp => ?_⟩⟩
    exact q ⟨W1.ms, W1.fz, _⟩ _ (e1.trans (Ext.laid hp)) (r1.laid hp) ((RepR.laid r1 hp p1).back e1)
  · cases ev

abbrev DO (X : Cx) (Φ : Fns) (G : List D) (e : Option Expr) (m : MO) : Prop := PO X e (tOp' X.K Φ G m)
theorem PO.imp {X : Cx} {e : Option Expr} {t t' : TO} (h : PO X e t) (i : ∀ σ H Q, t' σ H Q → t σ H Q) : PO X e t' := ⟨fun pins s σ H Q I q => h.run pins s σ H Q I (i σ H Q q)⟩
theorem do_no : DO X Φ G none .no := by
  refine PO.imp po_none fun σ H Q h => ?_
  obtain ⟨W, S, ρ, a, o, S', ev, q⟩ := h
  rw [evO] at ev
  cases ev
  have := q W (Ext.refl W) a.rel
  rw [a.1] at this; exact this
theorem do_yes {m : ME} (h : DE X Φ G e m) : DO X Φ G (some e) (.yes m) := by
  refine PO.imp (po_some h) fun σ H Q h => ?_
  obtain ⟨W, S, ρ, a, o, S', ev, q⟩ := h
  rw [evO] at ev
  obtain ⟨⟨x, S1⟩, ev1, ev⟩ := Mi.bind_some ev
  refine ⟨W, S, ρ, a, x, S1, ev1, fun W1 v1 e1 r1 p1 => ?_⟩
  dsimp only at ev
  split at ev
  · cases ev
    exact ⟨_, repr_int p1, q W1 e1 r1⟩
  · cases ev
theorem de_slc {m : ME} {lo hi : Option Expr} {ml mh : MO} {p2 : Pos} (h : DE X Φ G e m) (hl : DO X Φ G lo ml) (hh : DO X Φ G hi mh) : DE X Φ G (.Subscript e (.Slice lo hi none p2) pos) (.slc m ml mh) := by
  refine PE.imp (pe_slice sl_D h hl hh) fun σ H Q h => ?_
  obtain ⟨W, S, ρ, a, r, S', ev, q⟩ := h
  rw [evR] at ev
  obtain ⟨⟨x, S1⟩, ev1, ev⟩ := Mi.bind_some ev
  obtain ⟨⟨y, S2⟩, ev2, ev⟩ := Mi.bind_some ev
  obtain ⟨⟨z, S3⟩, ev3, ev⟩ := Mi.bind_some ev
  obtain ⟨t, ht, ev⟩ := map_some ev
  cases ev
  refine ⟨W, S, ρ, a, x, S1, ev1, fun W1 v1 e1 r1 p1 => ?_⟩
  have a1 := a.ext e1 r1
  refine ⟨W1, S1, ρ, a1, y, S2, ev2, fun W2 e2 r2 => ?_⟩
  refine ⟨W2, S2, ρ, a1.ext e2 r2, z, S3, ev3, fun W3 e3 r3 => ?_⟩
  refine ⟨W, W3, S3, x, _, rfl, r3, (p1.ext r1 e2).ext r2 e3, ht, fun W4 v e4 r4 p4 => ?_⟩
  have e13 := (e1.trans e2).trans e3
  exact q W4 v (e13.trans e4) r4 (p4.back e13)

theorem Rel.add {K : PySem.W.Frag} {W : Wd} {S : Sto} {p : Addr} {c : Cell} (r : Rel K W S) (h1 : p ∉ W.ms) (h2 : p ∉ W.fz) (h3 : CellOk K W p c) :
    (∀ ds vs, RepL K W ds vs → RepL K ⟨W.ms ++ [p], W.fz, W.H⟩ ds vs) → Rel K ⟨W.ms ++ [p], W.fz, W.H⟩ (S ++ [c]) := fun g => by
  refine ⟨by simp [r.len], ?_, fun l c' e => ?_, fun a ha hm => ?_, fun a ha => ?_⟩
  · show (W.ms ++ [p]).Nodup
    rw [List.nodup_append]
    exact ⟨r.nd, by simp, fun a ha b hb => by simp at hb; subst hb; exact fun z => h1 (z ▸ ha)⟩
  · by_cases hl : l < S.length
    · rw [List.getElem?_append_left hl] at e
      obtain ⟨a, e1, ok⟩ := r.cell l c' e
      refine ⟨a, ?_, ok.imp (fun _ z => z) g⟩
      show (W.ms ++ [p])[l]? = _
      rw [List.getElem?_append_left (by rw [r.len]; exact hl)]; exact e1
    · rw [List.getElem?_append_right (by omega)] at e
      have hl' : l - S.length = 0 := by
        cases q : l - S.length with
        | zero => rfl
        | succ n => rw [q] at e; simp at e
      rw [hl'] at e
      have e := Option.some.inj e
      cases e
      refine ⟨p, ?_, h3.imp (fun _ z => z) g⟩
      show (W.ms ++ [p])[l]? = _
      rw [List.getElem?_append_right (by rw [r.len]; omega), r.len, hl']; rfl
  · rcases List.mem_append.mp hm with hm | hm
    · exact r.apart a ha hm
    · simp at hm; subst hm; exact h2 ha
  · rcases ha with ha | ha
    · rcases List.mem_append.mp ha with ha | ha
      · exact r.dom a (.inl ha)
      · simp at ha; subst ha; show W.H a ≠ none; obtain ⟨o, e, _⟩ := h3.some; rw [e]; simp
    · exact r.dom a (.inr ha)
mutual
theorem Rep.add {K : PySem.W.Frag} {W : Wd} {p : Addr} : ∀ (d : D) (v : V), Rep K W d v → Rep K ⟨W.ms ++ [p], W.fz, W.H⟩ d v
  | .non, v, h => by unfold Rep at h ⊢; exact h
  | .bl _, v, h => by unfold Rep at h ⊢; exact h
  | .int _, v, h => by unfold Rep at h ⊢; exact h
  | .str _, v, h => by unfold Rep at h ⊢; exact h
  | .tup ds, v, h => by
    unfold Rep at h ⊢
    obtain ⟨a, vs, e1, e2, e3⟩ := h
    exact ⟨a, vs, e1, e2, RepL.add ds vs e3⟩
  | .lst ds, v, h => by
    unfold Rep at h ⊢
    obtain ⟨a, vs, e1, e2, e3, e4⟩ := h
    exact ⟨a, vs, e1, e2, e3, RepL.add ds vs e4⟩
  | .scr ds, v, h => by
    unfold Rep at h ⊢
    obtain ⟨a, vs, e1, e2, e4⟩ := h
    exact ⟨a, vs, e1, e2, RepL.add ds vs e4⟩
  | .ref l, v, h => by
    unfold Rep at h ⊢
    obtain ⟨a, e1, e2⟩ := h
    refine ⟨a, e1, ?_⟩
    show (W.ms ++ [p])[l]? = _
    rw [List.getElem?_append_left (List.getElem?_eq_some_iff.mp e2).1]; exact e2
  | .dct ks ds, v, h => by
    unfold Rep at h ⊢
    obtain ⟨a, vs, e1, e2, e3, e0, e4⟩ := h
    exact ⟨a, vs, e1, e2, e3, e0, RepL.add ds vs e4⟩
theorem RepL.add {K : PySem.W.Frag} {W : Wd} {p : Addr} : ∀ (ds : List D) (vs : List V), RepL K W ds vs → RepL K ⟨W.ms ++ [p], W.fz, W.H⟩ ds vs
  | [], vs, h => by unfold RepL at h ⊢; exact h
  | d :: ds, vs, h => by
    unfold RepL at h ⊢
    obtain ⟨v, q, e1, e2, e3⟩ := h
    exact ⟨v, q, e1, Rep.add d v e2, RepL.add ds q e3⟩
end
theorem Ext.add {W W' : Wd} {p : Addr} (e : Ext W W') (h : W.H p = none) : Ext W ⟨W'.ms ++ [p], W'.fz, W'.H⟩ := by
  refine ⟨?_, e.fz, e.keep, e.dom, fun a ha => ?_, e.nfz⟩
  · obtain ⟨t, q⟩ := e.ms
    exact ⟨t ++ [p], by show W'.ms ++ [p] = _; rw [q, List.append_assoc]⟩
  · rcases List.mem_append.mp ha with ha | ha
    · exact e.nms a ha
    · simp at ha; subst ha; exact .inr h
theorem de_new {m : ME} (h : DE X Φ G e m) : DE X Φ G e (.new m) := by
  refine PE.imp h fun σ H Q h => ?_
  obtain ⟨W, S, ρ, a, r, S', ev, q⟩ := h
  rw [evR] at ev
  obtain ⟨⟨x, S1⟩, ev1, ev⟩ := Mi.bind_some ev
  have key : ∀ {W1 : Wd} {p : Addr} {c : Cell}, Ext W W1 → Rel X.K W1 S1 → p ∉ W1.ms → p ∉ W1.fz → W.H p = none → CellOk X.K W1 p c → (∀ W' v, Ext W W' → Rel X.K W' (S1 ++ [c]) → RepR X.K W W' v (.val (.ref S1.length)) → Q v W'.H) → Q (.ref p) W1.H := fun {W1 p c} e1 r1 h3 h4 h0 ok q => by
    refine q ⟨W1.ms ++ [p], W1.fz, W1.H⟩ _ (e1.add h0) (r1.add h3 h4 ok fun _ _ => RepL.add _ _) ?_
    show Rep X.K _ (.ref S1.length) (.ref p)
    unfold Rep
    refine ⟨p, rfl, ?_⟩
    show (W1.ms ++ [p])[S1.length]? = _
    rw [List.getElem?_append_right (by rw [r1.len]; exact Nat.le_refl _), r1.len, Nat.sub_self]; rfl
  dsimp only at ev
  split at ev
  · cases ev
    refine ⟨W, S, ρ, a, _, S1, ev1, fun W1 v1 e1 r1 p1 => ?_⟩
    obtain ⟨p, vs, rfl, h2, h3, h4, h0, h5⟩ := p1
    exact key (c := .lst _) e1 r1 h3 h4 h0 ⟨vs, h2, h5⟩ q
  · cases ev
    refine ⟨W, S, ρ, a, _, S1, ev1, fun W1 v1 e1 r1 p1 => ?_⟩
    obtain ⟨p, vs, rfl, h2, el, h3, h4, h0, h5⟩ := p1
    exact key (c := .dct _ _) e1 r1 h3 h4 h0 ⟨vs, h2, el, h5⟩ q
  · cases ev
end
end Mi
end
section
namespace Mi
open PySem PySem.Spec L2

inductive Kd where
  | l | t
def Kd.It : Kd → Heap → Addr → Addr → Nat → Prop
  | .l, h, a, p, i => h.IsListIter a p i
  | .t, h, a, p, i => h.IsTupleIter a p i
def Kd.Sq : Kd → Heap → Addr → Array Value → Prop
  | .l, h, p, xs => h.IsList p xs
  | .t, h, p, xs => h.IsTuple p xs
def Kd.nm : Kd → String
  | .l => "list_iterator"
  | .t => "tuple_iterator"
theorem Kd.It.eb : ∀ {k : Kd} {h h' : Heap} {a b p : Addr} {i : Nat}, k.It h a p i → Heap.ExtBut b h h' → a ≠ b → k.It h' a p i
  | .l, _, _, _, _, _, _, x, e, n => Heap.IsListIter.extBut x e n
  | .t, _, _, _, _, _, _, x, e, n => Heap.IsTupleIter.extBut x e n
theorem Kd.Sq.eb : ∀ {k : Kd} {h h' : Heap} {a b : Addr} {xs : Array Value}, k.Sq h a xs → Heap.ExtBut b h h' → a ≠ b → k.Sq h' a xs
  | .l, _, _, _, _, _, x, e, n => Heap.IsList.extBut x e n
  | .t, _, _, _, _, _, x, e, n => Heap.IsTuple.extBut x e n
theorem Kd.Sq.more : ∀ {k : Kd} {h : Heap} {a : Addr} {xs : Array Value}, k.Sq h a xs → ∀ o, k.Sq (h.push o) a xs
  | .l, _, _, _, x, o => Heap.IsList.push x o
  | .t, _, _, _, x, o => Heap.IsTuple.push x o
theorem Kd.It.mv : ∀ {k : Kd} {h h' : Heap} {a p : Addr} {i : Nat}, k.It h a p i → (∀ o, h.get? a = some o → h'.get? a = some o) → k.It h' a p i
  | .l, _, _, _, _, _, ⟨o, q, r⟩, e => ⟨o, e o q, r⟩
  | .t, _, _, _, _, _, ⟨o, q, r⟩, e => ⟨o, e o q, r⟩
theorem Kd.It.obj : ∀ {k : Kd} {h : Heap} {a p : Addr} {i : Nat}, k.It h a p i → ∃ o, h.get? a = some o ∧ o.data = .fields #[.ref p, .int i 0]
  | .l, _, _, _, _, ⟨o, q, _, r⟩ => ⟨o, q, r⟩
  | .t, _, _, _, _, ⟨o, q, _, r⟩ => ⟨o, q, r⟩
theorem Kd.It.lt {k : Kd} {h : Heap} {a p : Addr} {i : Nat} (x : k.It h a p i) : a < h.objs.size := let ⟨_, q, _⟩ := x.obj; Heap.lt_size q
theorem Kd.Sq.lt : ∀ {k : Kd} {h : Heap} {a : Addr} {xs : Array Value}, k.Sq h a xs → a < h.objs.size
  | .l, _, _, _, ⟨_, q, _⟩ => Heap.lt_size q
  | .t, _, _, _, ⟨_, q, _⟩ => Heap.lt_size q
theorem Kd.new : ∀ (k : Kd) (h : Heap) (p : Addr), k.It (h.push { cls := .type k.nm, data := .fields #[.ref p, .int 0 0] }) h.objs.size p 0
  | .l, _, _ => ⟨_, Heap.get?_push_size _ rfl, rfl, rfl⟩
  | .t, _, _ => ⟨_, Heap.get?_push_size _ rfl, rfl, rfl⟩
section
variable {prog : Program} {w : World} {A : Around} {E : Value → Shared → Prop} {s : Shared}
theorem Kd.next : ∀ {k : Kd} {a p : Addr} {i : Nat} {xs : Array Value} {x : Value} {Q : Value → Shared → Prop}, k.It s.heap a p i → k.Sq s.heap p xs → xs[i]? = some x →
    (∀ h', k.It h' a p (i + 1) → Heap.SameBut a s.heap h' → Q x { s with heap := h' }) → wpAny (model prog w) A (Builtin.SmallTypes.nextOf (.ref a)) Q E s
  | .l, _, _, _, _, _, _, h1, h2, hx, q => wpAny_nextOf_list_item h1 h2 hx q
  | .t, _, _, _, _, _, _, h1, h2, hx, q => RZ.nextOf_tuple_item h1 h2 hx q
theorem Kd.stop : ∀ {k : Kd} {a p : Addr} {i : Nat} {xs : Array Value} {Q : Value → Shared → Prop}, A.handled = none → k.It s.heap a p i → k.Sq s.heap p xs → xs[i]? = none →
    (∀ h' e, Heap.ExtBut a s.heap h' → (∃ o, h'.get? e = some o ∧ o.cls = .type "StopIteration") → E (.ref e) { s with heap := h' }) → wpAny (model prog w) A (Builtin.SmallTypes.nextOf (.ref a)) Q E s
  | .l, _, _, _, _, _, hh, h1, h2, hx, q => wpAny_nextOf_list_end hh h1 h2 hx q
  | .t, _, _, _, _, _, hh, h1, h2, hx, q => RZ.nextOf_tuple_end hh h1 h2 hx q
theorem Kd.iter : ∀ {k : Kd} {p : Addr} {xs : Array Value} {Q : Value → Shared → Prop}, k.Sq s.heap p xs → Q (.ref s.heap.objs.size) { s with heap := s.heap.push { cls := .type k.nm, data := .fields #[.ref p, .int 0 0] } } → wpAny (model prog w) A (pyIter (.ref p)) Q E s
  | .l, _, _, _, h, q => wpAny_pyIter_list h q
  | .t, _, _, _, h, q => wpAny_pyIter_tuple h q

def ZKeep (z o a b : Addr) (h h' : Heap) : Prop := ∀ c ob, c ≠ z → c ≠ o → c ≠ a → c ≠ b → h.get? c = some ob → h'.get? c = some ob
theorem z_item {k m : Kd} {z I O a b p q : Addr} {i j : Nat} {xs ys : Array Value} {x y u v : Value} {Q : Value → Shared → Prop} (D : ZipApart z I O a b p q)
    (hz : IsZip s.heap z I O .none) (hI : IsPair s.heap I (.ref a) (.ref b)) (hO : IsPair s.heap O u v)
    (ha : k.It s.heap a p i) (hb : m.It s.heap b q j) (hp : k.Sq s.heap p xs) (hq : m.Sq s.heap q ys) (hx : xs[i]? = some x) (hy : ys[j]? = some y)
    (fin : ∀ h', IsZip h' z I O (rawInt s.heap.objs.size) → IsPair h' O x y → k.It h' a p (i + 1) → m.It h' b q (j + 1) → IsPair h' s.heap.objs.size x y → ZKeep z O a b s.heap h' → Q (.ref s.heap.objs.size) { s with heap := h' }) :
    wpAny (model prog w) A (Builtin.«zip.__next__» ⟨[.ref z], []⟩) (fun f s' => ∃ r, f = .done (.ret r) ∧ Q r s') E s := by
  show wpAny _ _ (field (.ref z) 2 >>= _) _ _ _
  refine wpAny_bind (wpAny_field hz rfl (x := .bool false) rfl (?_ : wpAny _ _ (field (.ref z) 3 >>= _) _ _ _))
  refine wpAny_bind (wpAny_field hz rfl (x := .ref I) rfl (wpAny_bind (wpAny_seqItems hI rfl (?_ : wpAny _ _ (Builtin.SmallTypes.ownedTupleIsFree (.ref z) >>= _) _ _ _))))
  refine wpAny_bind ?_
  unfold Builtin.SmallTypes.ownedTupleIsFree
  refine wpAny_bind (wpAny_field hz rfl (x := .none) rfl (wpAny_pure ?_))
  simp only [if_true]
  refine wpAny_bind (wpAny_rule (wpAny_bind (wpAny_field hz rfl (x := .ref O) rfl (wpAny_bind (wpAny_setField_rec hz (by simp) fun g1 z1 s1 => wpAny_bind ?_)))))
  have z1 : IsZip g1 z I O .ellipsis := z1
  simp only [List.zipIdx_cons, List.zipIdx_nil, List.forIn_cons, List.forIn_nil]
  refine wpAny_bind (wpAny_bind (wpAny_onRaise (?_ : wpAny _ _ (Builtin.SmallTypes.nextOf (.ref a) >>= _) _ _ _)))
  refine wpAny_bind (Kd.next (ha.eb s1.extBut D.i1z) (hp.eb s1.extBut D.l1z) hx fun g2 a2 s2 => wpAny_pure ?_)
  have o2 : IsPair g2 O u v := s2.extBut _ _ D.TOi1 (s1.extBut _ _ D.TOz hO)
  refine wpAny_bind (wpAny_seqItems o2 rfl (wpAny_bind (wpAny_updateSeq_pair o2 fun g3 o3 s3 => wpAny_bind (wpAny_letGo (wpAny_pure ?_)))))
  have o3 : IsPair g3 O x v := o3
  refine wpAny_bind (wpAny_bind (wpAny_onRaise (?_ : wpAny _ _ (Builtin.SmallTypes.nextOf (.ref b) >>= _) _ _ _)))
  refine wpAny_bind (Kd.next (((hb.eb s1.extBut D.i2z).eb s2.extBut D.i12.symm).eb s3.extBut D.TOi2.symm) (((hq.eb s1.extBut D.l2z).eb s2.extBut D.l2i1).eb s3.extBut D.l2TO) hy fun g4 b4 s4 => wpAny_pure ?_)
  have o4 : IsPair g4 O x v := s4.extBut _ _ D.TOi2 o3
  refine wpAny_bind (wpAny_seqItems o4 rfl (wpAny_bind (wpAny_updateSeq_pair o4 fun g5 o5 s5 => wpAny_bind (wpAny_letGo (wpAny_pure (wpAny_pure ?_))))))
  have o5 : IsPair g5 O x y := o5
  have sz : g5.objs.size = s.heap.objs.size := by rw [s5.1, s4.1, s3.1, s2.1, s1.1]
  have z5 : IsZip g5 z I O .ellipsis := s5.extBut _ _ D.TOz.symm (s4.extBut _ _ D.i2z.symm (s3.extBut _ _ D.TOz.symm (s2.extBut _ _ D.i1z.symm z1)))
  have k5 : ZKeep z O a b s.heap g5 := fun c ob c1 c2 c3 c4 e => s5.extBut _ _ c2 (s4.extBut _ _ c4 (s3.extBut _ _ c2 (s2.extBut _ _ c3 (s1.extBut _ _ c1 e))))
  have a5 : k.It g5 a p (i + 1) := ((a2.eb s3.extBut D.TOi1.symm).eb s4.extBut D.i12).eb s5.extBut D.TOi1.symm
  have b5 : m.It g5 b q (j + 1) := b4.eb s5.extBut D.TOi2.symm
  have zl : g5.objs.size ≠ z := Nat.ne_of_gt (Heap.lt_size z5)
  refine wpAny_bind (wpAny_seqItems o5 rfl (wpAny_bind (wpAny_newTuple (?_ : wpAny _ _ (Builtin.SmallTypes.ownedTupleHandOut (.ref z) (.ref g5.objs.size) >>= _) _ _ _))))
  refine wpAny_bind ?_
  unfold Builtin.SmallTypes.ownedTupleHandOut
  have z6 : IsZip (g5.push { cls := .type "tuple", data := .seq #[x, y] }) z I O .ellipsis := Heap.get?_push_of_some _ z5
  refine wpAny_bind (wpAny_setField_rec z6 (by simp) fun g7 z7 s7 => ?_)
  have z7 : IsZip g7 z I O (rawInt g5.objs.size) := z7
  refine wpAny_setField_rec z7 (by simp) fun g8 z8 s8 => wpAny_pure ⟨_, rfl, ?_⟩
  have z8 : IsZip g8 z I O (rawInt g5.objs.size) := z8
  have up : ∀ c ob, c ≠ z → g5.get? c = some ob → g8.get? c = some ob := fun c ob c1 e => s8.extBut _ _ c1 (s7.extBut _ _ c1 (Heap.get?_push_of_some _ e))
  have t8 : IsPair g8 g5.objs.size x y := s8.extBut _ _ zl (s7.extBut _ _ zl (Heap.get?_push_size _ rfl))
  rw [sz] at z8 t8
  show Q (.ref g5.objs.size) _
  rw [sz]
  exact fin g8 z8 (up _ _ D.TOz o5) (a5.mv fun ob e => up _ ob D.i1z e) (b5.mv fun ob e => up _ ob D.i2z e) t8 fun c ob c1 c2 c3 c4 e => up c ob c1 (k5 c ob c1 c2 c3 c4 e)
theorem z_end {k m : Kd} {z I O a b p q : Addr} {i j : Nat} {xs ys : Array Value} {u v : Value} {Q : Fin → Shared → Prop} (hh : A.handled = none) (D : ZipApart z I O a b p q)
    (hz : IsZip s.heap z I O .none) (hI : IsPair s.heap I (.ref a) (.ref b)) (hO : IsPair s.heap O u v)
    (ha : k.It s.heap a p i) (hb : m.It s.heap b q j) (hp : k.Sq s.heap p xs) (hq : m.Sq s.heap q ys) (he : xs[i]? = none ∨ ys[j]? = none)
    (fin : ∀ h' e, ZKeep z O a b s.heap h' → (∃ o, h'.get? e = some o ∧ o.cls = .type "StopIteration") → E (.ref e) { s with heap := h' }) :
    wpAny (model prog w) A (Builtin.«zip.__next__» ⟨[.ref z], []⟩) Q E s := by
  show wpAny _ _ (field (.ref z) 2 >>= _) _ _ _
  refine wpAny_bind (wpAny_field hz rfl (x := .bool false) rfl (?_ : wpAny _ _ (field (.ref z) 3 >>= _) _ _ _))
  refine wpAny_bind (wpAny_field hz rfl (x := .ref I) rfl (wpAny_bind (wpAny_seqItems hI rfl (?_ : wpAny _ _ (Builtin.SmallTypes.ownedTupleIsFree (.ref z) >>= _) _ _ _))))
  refine wpAny_bind ?_
  unfold Builtin.SmallTypes.ownedTupleIsFree
  refine wpAny_bind (wpAny_field hz rfl (x := .none) rfl (wpAny_pure ?_))
  simp only [if_true]
  refine wpAny_bind (wpAny_rule (wpAny_bind (wpAny_field hz rfl (x := .ref O) rfl (wpAny_bind (wpAny_setField_rec hz (by simp) fun g1 z1 s1 => wpAny_bind ?_)))))
  have z1 : IsZip g1 z I O .ellipsis := z1
  simp only [List.zipIdx_cons, List.zipIdx_nil, List.forIn_cons, List.forIn_nil]
  refine wpAny_bind (wpAny_bind (wpAny_onRaise (?_ : wpAny _ _ (Builtin.SmallTypes.nextOf (.ref a) >>= _) _ _ _)))
  cases hx : xs[i]? with
  | none =>
    refine wpAny_bind (Kd.stop hh (ha.eb s1.extBut D.i1z) (hp.eb s1.extBut D.l1z) hx fun g2 e s2 ⟨oe, ho, hc⟩ => ?_)
    have z2 : IsZip g2 z I O .ellipsis := s2 _ _ D.i1z.symm z1
    have ez : e ≠ z := fun x => by subst x; rw [z2] at ho; cases ho; simp at hc
    refine wpAny_setField_rec z2 (by simp) fun g3 _ s3 => fin g3 e (fun c o c1 _ c3 _ x => s3.extBut _ _ c1 (s2 _ _ c3 (s1.extBut _ _ c1 x))) ⟨oe, s3.extBut _ _ ez ho, hc⟩
  | some x =>
    have hy : ys[j]? = none := he.elim (fun z => by rw [hx] at z; cases z) id
    refine wpAny_bind (Kd.next (ha.eb s1.extBut D.i1z) (hp.eb s1.extBut D.l1z) hx fun g2 a2 s2 => wpAny_pure ?_)
    have o2 : IsPair g2 O u v := s2.extBut _ _ D.TOi1 (s1.extBut _ _ D.TOz hO)
    refine wpAny_bind (wpAny_seqItems o2 rfl (wpAny_bind (wpAny_updateSeq_pair o2 fun g3 o3 s3 => wpAny_bind (wpAny_letGo (wpAny_pure ?_)))))
    refine wpAny_bind (wpAny_bind (wpAny_onRaise (?_ : wpAny _ _ (Builtin.SmallTypes.nextOf (.ref b) >>= _) _ _ _)))
    refine wpAny_bind (Kd.stop hh (((hb.eb s1.extBut D.i2z).eb s2.extBut D.i12.symm).eb s3.extBut D.TOi2.symm) (((hq.eb s1.extBut D.l2z).eb s2.extBut D.l2i1).eb s3.extBut D.l2TO) hy fun g4 e s4 ⟨oe, ho, hc⟩ => ?_)
    have z4 : IsZip g4 z I O .ellipsis := s4 _ _ D.i2z.symm (s3.extBut _ _ D.TOz.symm (s2.extBut _ _ D.i1z.symm z1))
    have ez : e ≠ z := fun x => by subst x; rw [z4] at ho; cases ho; simp at hc
    refine wpAny_setField_rec z4 (by simp) fun g5 _ s5 => fin g5 e (fun c o c1 c2 c3 c4 x => s5.extBut _ _ c1 (s4 _ _ c4 (s3.extBut _ _ c2 (s2.extBut _ _ c3 (s1.extBut _ _ c1 x))))) ⟨oe, s5.extBut _ _ ez ho, hc⟩
theorem zn_item {k m : Kd} {z I O a b p q : Addr} {i j : Nat} {xs ys : Array Value} {x y u v : Value} {Q : Option Value → Shared → Prop} (D : ZipApart z I O a b p q)
    (hz : IsZip s.heap z I O .none) (hI : IsPair s.heap I (.ref a) (.ref b)) (hO : IsPair s.heap O u v)
    (ha : k.It s.heap a p i) (hb : m.It s.heap b q j) (hp : k.Sq s.heap p xs) (hq : m.Sq s.heap q ys) (hx : xs[i]? = some x) (hy : ys[j]? = some y)
    (fin : ∀ h', IsZip h' z I O (rawInt s.heap.objs.size) → IsPair h' O x y → k.It h' a p (i + 1) → m.It h' b q (j + 1) → IsPair h' s.heap.objs.size x y → ZKeep z O a b s.heap h' → Q (some (.ref s.heap.objs.size)) { s with heap := h' }) :
    wpAny (model prog w) A (pyNext (.ref z)) Q E s := by
  have ty : s.TypeIs (.ref z) "zip" := ⟨_, hz, rfl⟩
  unfold pyNext
  exact wpAny_bind (wpAny_attempt (wpAny_callSpecial?_slot (name := Str.ofString "__next__") ty F.slot_zip_next (wpAny_call_entry F.slot_zip_next ty F.entry_zip_next (z_item D hz hI hO ha hb hp hq hx hy fun h' c1 c2 c3 c4 c5 c6 => wpAny_pure (fin h' c1 c2 c3 c4 c5 c6)) (F.args_zip_next_1 _))))
theorem zn_end {k m : Kd} {z I O a b p q : Addr} {i j : Nat} {xs ys : Array Value} {u v : Value} {Q : Option Value → Shared → Prop} (hh : A.handled = none) (D : ZipApart z I O a b p q)
    (hz : IsZip s.heap z I O .none) (hI : IsPair s.heap I (.ref a) (.ref b)) (hO : IsPair s.heap O u v)
    (ha : k.It s.heap a p i) (hb : m.It s.heap b q j) (hp : k.Sq s.heap p xs) (hq : m.Sq s.heap q ys) (he : xs[i]? = none ∨ ys[j]? = none)
    (fin : ∀ h', ZKeep z O a b s.heap h' → Q none { s with heap := h' }) : wpAny (model prog w) A (pyNext (.ref z)) Q E s := by
  have ty : s.TypeIs (.ref z) "zip" := ⟨_, hz, rfl⟩
  unfold pyNext
  refine wpAny_bind (wpAny_attempt (wpAny_callSpecial?_slot (name := Str.ofString "__next__") ty F.slot_zip_next (wpAny_call_entry F.slot_zip_next ty F.entry_zip_next (z_end hh D hz hI hO ha hb hp hq he fun h' e kp ⟨o, ho, hc⟩ => ?_) (F.args_zip_next_1 _))))
  exact wpAny_bind (wpAny_isInstance (T := "StopIteration") (b := true) ⟨o, ho, hc⟩ isSubtype_stop (wpAny_pure (fin _ kp)))
end
abbrev zH1 (k : Kd) (h : Heap) (p : Addr) : Heap := h.push { cls := .type k.nm, data := .fields #[.ref p, .int 0 0] }
abbrev zH3 (k m : Kd) (h : Heap) (p q : Addr) : Heap := (zH1 m (zH1 k h p) q).push { cls := .type "tuple", data := .seq #[.ref h.objs.size, .ref (zH1 k h p).objs.size] }
abbrev zH4 (k m : Kd) (h : Heap) (p q : Addr) : Heap := (zH3 k m h p q).push { cls := .type "tuple", data := .seq #[.none, .none] }
abbrev zH5 (k m : Kd) (h : Heap) (p q : Addr) : Heap := (zH4 k m h p q).push { cls := .type "zip", data := .fields #[.none, .bool false, .bool false, .ref (zH1 m (zH1 k h p) q).objs.size, .ref (zH3 k m h p q).objs.size] }
theorem z_new (k m : Kd) (p q : Addr) (xs ys : Array Value) : Meets (Builtin.«zip.__new__» ⟨[.type "zip", .ref p, .ref q], []⟩) (fun _ R s => k.Sq s.heap p xs ∧ m.Sq s.heap q ys ∧
      R (.ok (.ret (.ref (zH4 k m s.heap p q).objs.size))) { s with heap := zH5 k m s.heap p q }) :=
  .of_wp fun prog w A R s h => by
    obtain ⟨hp, g, d, tk, os⟩ := s
    obtain ⟨h1, h2, h⟩ := h
    have hsub := sub_zip
    have q1 : Kd.Sq k (Shared.heap ⟨hp, g, d, tk, os⟩) p xs := h1
    have q2 : Kd.Sq m (Shared.heap ⟨hp.push { cls := .type k.nm, data := .fields #[.ref p, .int 0 0] }, g, d, tk, os⟩) q ys := h2.more _
    wp_walk using Kd.iter q1, Kd.iter q2
    exact ⟨_, rfl, h⟩
section
variable {prog : Program} {w : World} {A : Around} {E : Value → Shared → Prop} {s : Shared}
theorem z_call {k m : Kd} {p q : Addr} {xs ys : Array Value} {Q : Value → Shared → Prop} (hp : k.Sq s.heap p xs) (hq : m.Sq s.heap q ys)
    (fin : ∀ h', IsZip h' (s.heap.objs.size + 4) (s.heap.objs.size + 2) (s.heap.objs.size + 3) .none → IsPair h' (s.heap.objs.size + 2) (.ref s.heap.objs.size) (.ref (s.heap.objs.size + 1)) →
      IsPair h' (s.heap.objs.size + 3) .none .none → k.It h' s.heap.objs.size p 0 → m.It h' (s.heap.objs.size + 1) q 0 → (∀ c o, s.heap.get? c = some o → h'.get? c = some o) → Q (.ref (s.heap.objs.size + 4)) { s with heap := h' }) :
    wpAny (model prog w) A (call (.type "zip") [.ref p, .ref q]) Q E s := by
  refine callType_new F.called_zip (by decide) (F.typeCall_zip_2 _ _) (F.newCall_zip_2 _ _) (fun obj => F.args_object_init_3 obj _ _) F.entry_zip_new (z_new k m p q xs ys) ⟨hp, hq, ?_⟩
  have n1 : (zH1 k s.heap p).objs.size = s.heap.objs.size + 1 := Heap.size_push ..
  have n2 : (zH1 m (zH1 k s.heap p) q).objs.size = s.heap.objs.size + 2 := by rw [Heap.size_push, n1]
  have n3 : (zH3 k m s.heap p q).objs.size = s.heap.objs.size + 3 := by rw [Heap.size_push, n2]
  have n4 : (zH4 k m s.heap p q).objs.size = s.heap.objs.size + 4 := by rw [Heap.size_push, n3]
  have g5 : (zH5 k m s.heap p q).get? (zH4 k m s.heap p q).objs.size = some _ := Heap.get?_push_size _ rfl
  have up4 : ∀ c o, (zH4 k m s.heap p q).get? c = some o → (zH5 k m s.heap p q).get? c = some o := fun c o => Heap.get?_push_of_some _
  have up3 : ∀ c o, (zH3 k m s.heap p q).get? c = some o → (zH5 k m s.heap p q).get? c = some o := fun c o e => up4 c o (Heap.get?_push_of_some _ e)
  have up2 : ∀ c o, (zH1 m (zH1 k s.heap p) q).get? c = some o → (zH5 k m s.heap p q).get? c = some o := fun c o e => up3 c o (Heap.get?_push_of_some _ e)
  have up1 : ∀ c o, (zH1 k s.heap p).get? c = some o → (zH5 k m s.heap p q).get? c = some o := fun c o e => up2 c o (Heap.get?_push_of_some _ e)
  have g4 : (zH5 k m s.heap p q).get? (zH3 k m s.heap p q).objs.size = some _ := up4 _ _ (Heap.get?_push_size _ rfl)
  have g3 : (zH5 k m s.heap p q).get? (zH1 m (zH1 k s.heap p) q).objs.size = some _ := up3 _ _ (Heap.get?_push_size _ rfl)
  have i2 := (Kd.new m (zH1 k s.heap p) q).mv (h' := zH5 k m s.heap p q) fun o e => up2 _ o e
  have i1 := (Kd.new k s.heap p).mv (h' := zH5 k m s.heap p q) fun o e => up1 _ o e
  show _ ∧ _
  rw [n2, n3, n4] at g5
  rw [n1, n2] at g3
  rw [n3] at g4
  rw [n1] at i2
  rw [n4]
  exact ⟨⟨_, g5, rfl⟩, fin _ g5 g3 g4 i1 i2 fun c o x => up1 c o (Heap.get?_push_of_some _ x)⟩
end
end Mi
end
section
namespace Mi
open PySem PySem.Spec L2 PyProof.Rows
def Kd.Hq : Kd → PySem.W.Frag → Hp → Addr → List V → Prop
  | .l, K, H, a, xs => SqL K H a xs
  | .t, K, H, a, xs => SqT K H a xs
theorem Kd.Hq.sq {X : Cx} {pins : List (Addr × Obj)} {σ : L2.St} {H : Hp} {s : Shared} (I : Inv X pins σ H s) : ∀ {k : Kd} {a : Addr} {xs : List V}, k.Hq X.K H a xs → ∃ us : List Value, Vals xs us ∧ k.Sq s.heap a us.toArray
  | .l, _, _, h => let ⟨us, r, p, _⟩ := I.list h; ⟨us, r, p.isList⟩
  | .t, _, _, h => let ⟨us, r, p, _⟩ := I.tuple h; ⟨us, r, p⟩
theorem Kd.Hq.inj {X : Cx} {pins : List (Addr × Obj)} {σ : L2.St} {H : Hp} {s : Shared} (I : Inv X pins σ H s) : ∀ {k : Kd} {a : Addr} {xs ys : List V}, k.Hq X.K H a xs → k.Hq X.K H a ys → xs = ys
  | .l, _, _, _, h, h' => I.list_inj h h'
  | .t, _, _, _, h, h' => I.tuple_inj h h'

def ItzK (k m : Kd) (K : PySem.W.Frag) (p q : Addr) : It :=
  ⟨fun i H => ∃ (xs ys : List V) (x y : V), k.Hq K H p xs ∧ m.Hq K H q ys ∧ xs[i]? = some x ∧ ys[i]? = some y,
    fun i H v H' => ∃ T x y, v = .ref T ∧ H T = none ∧ H' = upd H T (.tup [x, y]) ∧ (∀ xs, k.Hq K H p xs → xs[i]? = some x) ∧ ∀ ys, m.Hq K H q ys → ys[i]? = some y,
    fun i H => ∃ xs ys : List V, k.Hq K H p xs ∧ m.Hq K H q ys ∧ (xs.length ≤ i ∨ ys.length ≤ i)⟩
theorem in5 {c z I O a b : Addr} (h : c ∈ [z, I, O, a, b]) : c = z ∨ c = I ∨ c = O ∨ c = a ∨ c = b := by simpa using h
theorem ni5 {c z I O a b : Addr} (h : c ∉ [z, I, O, a, b]) : c ≠ z ∧ c ≠ I ∧ c ≠ O ∧ c ≠ a ∧ c ≠ b := by simpa using h
theorem turn_zK {P : Program} {w : World} {K : PySem.W.Frag} {elts : List Expr} {kk : Nat} {tpos : Pos} {k m : Kd} {p q z I O a b : Addr} (D : ZipApart z I O a b p q) :
    Turn P w K (.Tuple elts kk tpos) (ItzK k m K p q) [z, I, O, a, b] z (fun i h => IsZip h z I O .none ∧ IsPair h I (.ref a) (.ref b) ∧ (∃ x y, IsPair h O x y) ∧ k.It h a p i ∧ m.It h b q i) where
  mem := by simp
  obj := fun i h st c hc => by
    obtain ⟨hz, hI, ⟨x, y, hO⟩, ha, hb⟩ := st
    obtain ⟨o1, f1, d1⟩ := ha.obj
    obtain ⟨o2, f2, d2⟩ := hb.obj
    rcases in5 hc with rfl | rfl | rfl | rfl | rfl
    · exact ⟨_, hz, fun v q => nomatch q⟩
    · exact ⟨_, hI, fun v q => nomatch q⟩
    · exact ⟨_, hO, fun v q => nomatch q⟩
    · exact ⟨o1, f1, fun v q => by rw [d1] at q; cases q⟩
    · exact ⟨o2, f2, fun v q => by rw [d2] at q; cases q⟩
  keep := fun i h h' ⟨hz, hI, ⟨x, y, hO⟩, ha, hb⟩ kp => ⟨kp z (by simp) _ hz, kp I (by simp) _ hI, ⟨x, y, kp O (by simp) _ hO⟩, ha.mv fun o q => kp a (by simp) o q, hb.mv fun o q => kp b (by simp) o q⟩
  item := by
    intro X hP hw hK hc i pins s σ H E J hf st hg
    subst hP hw hK
    obtain ⟨hz, hI, ⟨u0, v0, hO⟩, ha, hb⟩ := st
    obtain ⟨xs, ys, x, y, qx, qy, hx, hy⟩ := hg
    obtain ⟨us, rv, sx⟩ := qx.sq J
    obtain ⟨vs, rw', sy⟩ := qy.sq J
    obtain ⟨u, hu, ru⟩ := rv.get hx
    obtain ⟨u2, hu2, ru2⟩ := rw'.get hy
    have zl : z < s.heap.objs.size := Heap.lt_size hz
    refine zn_item D hz hI hO ha hb sx sy (x := u) (y := u2) (by simpa using hu) (by simpa using hu2) fun h' z' O' a' b' hT kp => ⟨_, rfl, wpAny_letOwnedTupleGo_zip (s := { s with heap := h' }) z' fun h'' z'' sb => ?_⟩
    have hT2 : h''.get? s.heap.objs.size = some { cls := .type "tuple", data := .seq #[u, u2] } := (sb.2 _ (Nat.ne_of_gt zl)).trans hT
    have nw : ObjOk X.prog X.w (upd H s.heap.objs.size (.tup [x, y])) h'' s.heap.objs.size (.tup [x, y]) := ⟨by show 2 ≤ sizeLine; decide, [u, u2], .cons ru (.cons ru2 .nil), ⟨_, hT2, rfl, _, rfl⟩⟩
    have J1 : Inv X pins σ (upd H s.heap.objs.size (.tup [x, y])) { s with heap := h'' } := J.turnedNew (t' := s.toks) (ch := [z, I, O, a, b]) (fun c o hn q => by
      obtain ⟨n1, _, n3, n4, n5⟩ := ni5 hn
      exact (sb.2 c n1).trans (kp c o n1 n3 n4 n5 q)) hf (Nat.le_refl _) nw
    refine ⟨.ref s.heap.objs.size, _, J1, rfl, ⟨_, x, y, rfl, J.hok.fresh (Nat.le_refl _), rfl, fun l hl => by rw [Kd.Hq.inj J hl qx]; exact hx, fun l hl => by rw [Kd.Hq.inj J hl qy]; exact hy⟩, ⟨z'', (sb.2 _ D.TIz).trans (kp _ _ D.TIz D.TITO D.TIi1 D.TIi2 hI), ⟨u, u2, (sb.2 _ D.TOz).trans O'⟩, a'.mv fun o q => (sb.2 _ D.i1z).trans q, b'.mv fun o q => (sb.2 _ D.i2z).trans q⟩, fun c hm => ?_⟩
    have lt : c < s.heap.objs.size := by
      rcases in5 hm with rfl | rfl | rfl | rfl | rfl
      · exact zl
      · exact Heap.lt_size hI
      · exact Heap.lt_size hO
      · exact ha.lt
      · exact hb.lt
    rw [upd_ne (Nat.ne_of_lt lt)]
    exact (hf c hm).1
  done := by
    intro X hP hw hK hc i pins s σ H E J hf st hg
    subst hP hw hK
    obtain ⟨hz, hI, ⟨u0, v0, hO⟩, ha, hb⟩ := st
    obtain ⟨xs, ys, qx, qy, en⟩ := hg
    obtain ⟨us, rv, sx⟩ := qx.sq J
    obtain ⟨vs, rw', sy⟩ := qy.sq J
    have l1 := rv.length
    have l2 := rw'.length
    refine zn_end (J.ok.hd hc) D hz hI hO ha hb sx sy (en.imp (fun q => by simp; omega) fun q => by simp; omega) fun h' kp => ⟨rfl, J.turnedL (t' := s.toks) (ch := [z, I, O, a, b]) (fun c o hn q => ?_) hf⟩
    obtain ⟨n1, _, n3, n4, n5⟩ := ni5 hn
    exact kp c o n1 n3 n4 n5 q
  self := fun A i s Q E st h => wpAny_pyIter_zip st.1 h
def iZipK (K : PySem.W.Frag) (ta : TA) : TI := fun σ H R => ta σ H fun vs H1 => ∃ p q xs ys k m, vs = [.ref p, .ref q] ∧ Kd.Hq k K H1 p xs ∧ Kd.Hq m K H1 q ys ∧ R (ItzK k m K p q) H1
theorem pi_zipK {X : Cx} {e e2 : Expr} {ta : TA} {p pos tpos : Pos} {elts : List Expr} {kk : Nat} (hg : Gl X "zip") (hm : X.mg "zip" = none) (ha : PA X [e, e2] ta)
    (hs : starEach [e, e2] X.env = (false, eval e X.env) :: starEach [e2] X.env) (hpl : (backTo pos (starEach [e2] X.env)).any (·.1) = false) : PI X (.Tuple elts kk tpos) (.Call (.Name "zip" p) [e, e2] [] pos) (iZipK X.K ta) := by
  refine ⟨fun pins s σ H R I h => ?_⟩
  refine Call_ (ld_blt I hg hm PyProof.Rows.boot_zip (PyProof.Rows.callWith_type1 (thn (ha.run pos pins s σ H _ I h) fun us s1 ⟨vs, H1, I1, r1, a, b, xs, ys, k, m, ex, hx, hy, q⟩ => ?_) hs hpl))
  subst ex
  cases r1 with
  | cons r rr =>
    cases rr with
    | cons r' rr =>
      cases rr; cases r; cases r'
      obtain ⟨us, rv, sx⟩ := hx.sq I1
      obtain ⟨vs, rw', sy⟩ := hy.sq I1
      refine z_call sx sy fun h' hz hI hO h1 h2 hk => wpAny_pyIter_zip hz ⟨s1.heap.objs.size + 4, [s1.heap.objs.size + 4, s1.heap.objs.size + 2, s1.heap.objs.size + 3, s1.heap.objs.size, s1.heap.objs.size + 1], _, _, H1, rfl, I1.kept (t' := s1.toks) hk, turn_zK (PySem.W.ktu_apart s1.heap.objs.size a b sx.lt sy.lt), ⟨hz, hI, ⟨_, _, hO⟩, h1, h2⟩, fun c hc => ?_, q⟩
      have le : s1.heap.objs.size ≤ c := by
        rcases in5 hc with e | e | e | e | e <;> rw [e] <;> first | exact Nat.le_add_right _ _ | exact Nat.le_refl _
      exact I1.fpOk le (I1.hok.fresh le)

section
variable {prog : Program} {w : World} {A : Around} {E : Value → Shared → Prop} {s : Shared}
theorem en_item {k : Kd} {e a p : Addr} {i : Nat} {xs : Array Value} {x old : Value} {Q : Value → Shared → Prop} (he : IsEnum s.heap e a i old) (ha : k.It s.heap a p i) (hp : k.Sq s.heap p xs) (hx : xs[i]? = some x) (ne : e ≠ a)
    (fin : ∀ h', IsEnumOut h' e a ((i : Int) + 1) x s.heap.objs.size → k.It h' a p (i + 1) → h'.get? s.heap.objs.size = some { cls := .type "tuple", data := .seq #[.int i s.toks, x] } →
      (∀ b o, b ≠ e → b ≠ a → s.heap.get? b = some o → h'.get? b = some o) → Q (.ref s.heap.objs.size) { s with heap := h', toks := s.toks + 1 }) :
    wpAny (model prog w) A (Builtin.«enumerate.__next__» ⟨[.ref e], []⟩) (fun f s' => ∃ v, f = .done (.ret v) ∧ Q v s') E s := by
  obtain ⟨hp0, g, d, tk, os⟩ := s
  show wpAny _ _ (field (.ref e) 2 >>= _) _ _ _
  refine wpAny_bind (wpAny_field he rfl (x := .ref a) rfl (wpAny_bind (Kd.next ha hp hx fun g1 a1 s1 => ?_)))
  have s1 : Heap.SameBut a hp0 g1 := s1
  have e1 : IsEnum g1 e a i old := (s1.2 e ne).trans he
  show wpAny _ _ (field (.ref e) 3 >>= _) _ _ ⟨g1, g, d, tk, os⟩
  refine wpAny_bind (wpAny_field e1 rfl (x := rawInt i) rfl (?_ : wpAny _ _ (field (.ref e) 4 >>= _) _ _ ⟨g1, g, d, tk, os⟩))
  refine wpAny_bind (wpAny_field e1 rfl (x := .none) rfl (?_ : wpAny _ _ (mkInt i >>= _) _ _ ⟨g1, g, d, tk, os⟩))
  refine wpAny_bind (wpAny_mkInt (?_ : wpAny _ _ (setField (.ref e) 3 (rawInt ((i : Int) + 1)) >>= _) _ _ ⟨g1, g, d, tk + 1, os⟩))
  refine wpAny_bind (wpAny_setField_rec e1 (by simp) fun g2 e2 s2 => (?_ : wpAny _ _ (setField (.ref e) 4 .none >>= _) _ _ ⟨g2, g, d, tk + 1, os⟩))
  have s2 : Heap.SameBut e g1 g2 := s2
  have e2 : IsEnum g2 e a ((i : Int) + 1) old := e2
  refine wpAny_bind (wpAny_setField_rec e2 (by simp) fun g3 e3 s3 => (?_ : wpAny _ _ (newTuple [.int i tk, x] >>= _) _ _ ⟨g3, g, d, tk + 1, os⟩))
  have s3 : Heap.SameBut e g2 g3 := s3
  have e3 : IsEnum g3 e a ((i : Int) + 1) old := e3
  have sz : g3.objs.size = hp0.objs.size := by rw [s3.1, s2.1, s1.1]
  have el : hp0.objs.size ≠ e := Nat.ne_of_gt (Heap.lt_size he)
  have a3 : k.It g3 a p (i + 1) := (a1.eb s2.extBut ne.symm).eb s3.extBut ne.symm
  have k3 : ∀ b o, b ≠ e → b ≠ a → hp0.get? b = some o → g3.get? b = some o := fun b o n1 n2 q => s3.extBut b o n1 (s2.extBut b o n1 (s1.extBut b o n2 q))
  refine wpAny_bind (wpAny_newTuple ?_)
  have e4 : IsEnum (g3.push { cls := .type "tuple", data := .seq #[.int i tk, x] }) e a ((i : Int) + 1) old := Heap.get?_push_of_some _ e3
  have t4 : (g3.push { cls := .type "tuple", data := .seq #[.int i tk, x] }).get? hp0.objs.size = some { cls := .type "tuple", data := .seq #[.int i tk, x] } := by rw [← sz]; exact Heap.get?_push_size _ rfl
  have a4 : k.It (g3.push { cls := .type "tuple", data := .seq #[.int i tk, x] }) a p (i + 1) := a3.mv fun o q => Heap.get?_push_of_some _ q
  have k4 : ∀ b o, b ≠ e → b ≠ a → hp0.get? b = some o → (g3.push { cls := .type "tuple", data := .seq #[.int i tk, x] }).get? b = some o := fun b o n1 n2 q => Heap.get?_push_of_some _ (k3 b o n1 n2 q)
  rw [sz]
  generalize g3.push { cls := .type "tuple", data := .seq #[.int i tk, x] } = g4 at e4 t4 a4 k4
  show wpAny _ _ (Builtin.SmallTypes.ownedTupleIsFree (.ref e) >>= _) _ _ ⟨g4, g, d, tk + 1, os⟩
  refine wpAny_bind ?_
  unfold Builtin.SmallTypes.ownedTupleIsFree
  refine wpAny_bind (wpAny_field e4 rfl (x := .none) rfl (wpAny_pure ?_))
  simp only [if_true]
  refine wpAny_bind (wpAny_rule (wpAny_bind (wpAny_field e4 rfl (x := old) rfl (wpAny_bind (wpAny_setField_rec e4 (by simp) fun g5 e5 s5 => (?_ : wpAny _ _ (Builtin.SmallTypes.ownedTupleHandOut (.ref e) (.ref hp0.objs.size) >>= _) _ _ ⟨g5, g, d, tk + 1, os⟩))))))
  have s5 : Heap.SameBut e g4 g5 := s5
  have e5 : IsEnum g5 e a ((i : Int) + 1) x := e5
  refine wpAny_bind ?_
  unfold Builtin.SmallTypes.ownedTupleHandOut
  refine wpAny_bind (wpAny_setField_rec e5 (by simp) fun g6 e6 s6 => ?_)
  have s6 : Heap.SameBut e g5 g6 := s6
  have e6 : IsEnumOut g6 e a ((i : Int) + 1) x hp0.objs.size := e6
  refine wpAny_setField_rec e6 (by simp) fun g7 e7 s7 => wpAny_bind (wpAny_letGo (wpAny_pure ⟨_, rfl, ?_⟩))
  have s7 : Heap.SameBut e g6 g7 := s7
  have up : ∀ b o, b ≠ e → g4.get? b = some o → g7.get? b = some o := fun b o n q => s7.extBut b o n (s6.extBut b o n (s5.extBut b o n q))
  exact fin g7 e7 (a4.mv fun o q => up _ o ne.symm q) (up _ _ el t4) fun b o n1 n2 q => up b o n1 (k4 b o n1 n2 q)
theorem enn_item {k : Kd} {e a p : Addr} {i : Nat} {xs : Array Value} {x old : Value} {Q : Option Value → Shared → Prop} (he : IsEnum s.heap e a i old) (ha : k.It s.heap a p i) (hp : k.Sq s.heap p xs) (hx : xs[i]? = some x) (ne : e ≠ a)
    (fin : ∀ h', IsEnumOut h' e a ((i : Int) + 1) x s.heap.objs.size → k.It h' a p (i + 1) → h'.get? s.heap.objs.size = some { cls := .type "tuple", data := .seq #[.int i s.toks, x] } →
      (∀ b o, b ≠ e → b ≠ a → s.heap.get? b = some o → h'.get? b = some o) → Q (some (.ref s.heap.objs.size)) { s with heap := h', toks := s.toks + 1 }) : wpAny (model prog w) A (pyNext (.ref e)) Q E s := by
  have ty : s.TypeIs (.ref e) "enumerate" := ⟨_, he, rfl⟩
  unfold pyNext
  exact wpAny_bind (wpAny_attempt (wpAny_callSpecial?_slot (name := Str.ofString "__next__") ty F.slot_enumerate_next (wpAny_call_entry F.slot_enumerate_next ty F.entry_enumerate_next (en_item he ha hp hx ne fun h' c1 c2 c3 c4 => wpAny_pure (fin h' c1 c2 c3 c4)) (F.args_enumerate_next_1 _))))
theorem enn_end {k : Kd} {e a p : Addr} {i : Nat} {xs : Array Value} {old : Value} {Q : Option Value → Shared → Prop} (hh : A.handled = none) (he : IsEnum s.heap e a i old) (ha : k.It s.heap a p i) (hp : k.Sq s.heap p xs) (hx : xs[i]? = none)
    (fin : ∀ h', Heap.ExtBut a s.heap h' → Q none { s with heap := h' }) : wpAny (model prog w) A (pyNext (.ref e)) Q E s := by
  have ty : s.TypeIs (.ref e) "enumerate" := ⟨_, he, rfl⟩
  unfold pyNext
  refine wpAny_bind (wpAny_attempt (wpAny_callSpecial?_slot (name := Str.ofString "__next__") ty F.slot_enumerate_next (wpAny_call_entry F.slot_enumerate_next ty F.entry_enumerate_next (?_ : wpAny _ _ (field (.ref e) 2 >>= _) _ _ _) (F.args_enumerate_next_1 _))))
  refine wpAny_bind (wpAny_field he rfl (x := .ref a) rfl (wpAny_bind (Kd.stop hh ha hp hx fun h' x eb ⟨o, ho, hc⟩ => ?_)))
  exact wpAny_bind (wpAny_isInstance (T := "StopIteration") (b := true) ⟨o, ho, hc⟩ isSubtype_stop (wpAny_pure (fin _ eb)))
end
theorem en_newT (p : Addr) (xs : Array Value) (n : Nat) (dct : Option Addr) (sl : Array (Option Value)) : Meets (Builtin.«enumerate.__new__» ⟨[.type "enumerate", .ref p], []⟩) (fun _ R s => s.heap.get? p = some { cls := .type "tuple", dict := dct, data := .seq xs n, slots := sl } ∧
      R (.ok (.ret (.ref (zH1 .t s.heap p).objs.size))) { s with heap := (zH1 .t s.heap p).push { cls := .type "enumerate", data := .fields #[.none, .bool false, .ref s.heap.objs.size, rawInt 0, .none, .none] } }) :=
  .of_wp fun prog w A R s h => by
    obtain ⟨hp, g, d, tk, os⟩ := s
    obtain ⟨hl, h⟩ := h
    have hsub := sub_enumerate
    have hL : Heap.IsTuple (Shared.heap ⟨hp, g, d, tk, os⟩) p xs := ⟨_, hl, rfl, n, rfl⟩
    wp_walk using AutoSeq1.wpAny_loadPart' hl
    refine wpAny_stack_any fun st => wpAny_pure ?_
    split
    · rename_i c _ _ _ _ _
      cases (c == Value.type "enumerate")
      · wp_walk using AutoSeq1.wpAny_loadPart' hl, wpAny_pyIter_tuple hL
        exact ⟨_, rfl, h⟩
      · wp_walk using AutoSeq1.wpAny_loadPart' hl, wpAny_pyIter_tuple hL
        exact ⟨_, rfl, h⟩
    · wp_walk using AutoSeq1.wpAny_loadPart' hl, wpAny_pyIter_tuple hL
      exact ⟨_, rfl, h⟩
section
variable {prog : Program} {w : World} {A : Around} {E : Value → Shared → Prop} {s : Shared}
theorem en_callT {p : Addr} {xs : Array Value} {Q : Value → Shared → Prop} (hT : s.heap.IsTuple p xs)
    (fin : ∀ h', IsEnum h' (s.heap.objs.size + 1) s.heap.objs.size 0 .none → h'.IsTupleIter s.heap.objs.size p 0 → (∀ b o, s.heap.get? b = some o → h'.get? b = some o) → Q (.ref (s.heap.objs.size + 1)) { s with heap := h' }) :
    wpAny (model prog w) A (call (.type "enumerate") [.ref p]) Q E s := by
  obtain ⟨⟨c, dct, dt, sl⟩, hl, hc, n, hd⟩ := hT
  have hc : c = .type "tuple" := hc
  have hd : dt = .seq xs n := hd
  subst hc hd
  refine callType_new F.called_enumerate (by decide) (F.typeCall_enumerate_1 _) (F.newCall_enumerate_1 _) (fun obj => F.args_object_init_2 obj _) F.entry_enumerate_new (en_newT p xs n dct sl) ⟨hl, ?_⟩
  have hz : (zH1 .t s.heap p).objs.size = s.heap.objs.size + 1 := Heap.size_push ..
  show _ ∧ _
  rw [hz]
  have he : IsEnum ((zH1 .t s.heap p).push { cls := .type "enumerate", data := .fields #[.none, .bool false, .ref s.heap.objs.size, rawInt 0, .none, .none] }) (s.heap.objs.size + 1) s.heap.objs.size 0 .none := by
    have e := Heap.get?_push_size (zH1 .t s.heap p) (o := { cls := .type "enumerate", data := .fields #[.none, .bool false, .ref s.heap.objs.size, rawInt 0, .none, .none] }) rfl
    rw [hz] at e; exact e
  exact ⟨⟨_, he, rfl⟩, fin _ he ⟨_, Heap.get?_push_of_some _ (Heap.get?_push_size _ rfl), rfl, rfl⟩ fun b o x => Heap.get?_push_of_some _ (Heap.get?_push_of_some _ x)⟩
theorem en_call : ∀ {k : Kd} {p : Addr} {xs : Array Value} {Q : Value → Shared → Prop}, k.Sq s.heap p xs →
    (∀ h', IsEnum h' (s.heap.objs.size + 1) s.heap.objs.size 0 .none → k.It h' s.heap.objs.size p 0 → (∀ b o, s.heap.get? b = some o → h'.get? b = some o) → Q (.ref (s.heap.objs.size + 1)) { s with heap := h' }) →
    wpAny (model prog w) A (call (.type "enumerate") [.ref p]) Q E s
  | .l, _, _, _, h, fin => call_enumerate_list h fun h' c1 c2 _ c4 => fin h' c1 c2 c4
  | .t, _, _, _, h, fin => en_callT h fin
end
def IteK (k : Kd) (K : PySem.W.Frag) (p : Addr) : It :=
  ⟨fun i H => ∃ (xs : List V) (x : V), k.Hq K H p xs ∧ xs[i]? = some x, fun i H v H' => ∃ T x, v = .ref T ∧ H T = none ∧ H' = upd H T (.tup [.int (i : Nat), x]) ∧ ∀ xs, k.Hq K H p xs → xs[i]? = some x,
    fun i H => ∃ xs : List V, k.Hq K H p xs ∧ xs.length ≤ i⟩
theorem in2 {c a b : Addr} (h : c ∈ [a, b]) : c = a ∨ c = b := by simpa using h
theorem ni2 {c a b : Addr} (h : c ∉ [a, b]) : c ≠ a ∧ c ≠ b := by simpa using h
theorem turn_eK {P : Program} {w : World} {K : PySem.W.Frag} {elts : List Expr} {kk : Nat} {tpos : Pos} {k : Kd} (p e a : Addr) :
    Turn P w K (.Tuple elts kk tpos) (IteK k K p) [e, a] e (fun i h => (∃ old, IsEnum h e a ((i : Nat) : Int) old) ∧ k.It h a p i ∧ e ≠ a) where
  mem := by simp
  obj := fun i h ⟨⟨old, he⟩, ha, _⟩ c hc => by
    obtain ⟨o, ho, hd⟩ := ha.obj
    rcases in2 hc with rfl | rfl
    · exact ⟨_, he, fun v q => nomatch q⟩
    · exact ⟨o, ho, fun v q => by rw [hd] at q; cases q⟩
  keep := fun i h h' ⟨⟨old, he⟩, ha, ne⟩ kp => ⟨⟨old, kp e (by simp) _ he⟩, ha.mv fun o q => kp a (by simp) o q, ne⟩
  item := by
    intro X hP hw hK hc i pins s σ H E J hf st hg
    subst hP hw hK
    obtain ⟨⟨old, he⟩, ha, ne⟩ := st
    obtain ⟨xs, x, hq, hx⟩ := hg
    obtain ⟨us, rv, sx⟩ := hq.sq J
    obtain ⟨u, hu, ru⟩ := rv.get hx
    have el : e < s.heap.objs.size := Heap.lt_size he
    refine enn_item he ha sx (x := u) (by simpa using hu) ne fun h' ho a' hT kp => ⟨_, rfl, wpAny_letOwnedTupleGo_enum (s := { s with heap := h', toks := s.toks + 1 }) ho fun h'' he' sb => ?_⟩
    have hT2 : h''.get? s.heap.objs.size = some { cls := .type "tuple", data := .seq #[.int i s.toks, u] } := (sb.2 _ (Nat.ne_of_gt el)).trans hT
    have nw : ObjOk X.prog X.w (upd H s.heap.objs.size (.tup [.int (i : Nat), x])) h'' s.heap.objs.size (.tup [.int (i : Nat), x]) := ⟨by show 2 ≤ sizeLine; decide, [.int i s.toks, u], .cons ⟨_, rfl⟩ (.cons ru .nil), ⟨_, hT2, rfl, _, rfl⟩⟩
    have J1 : Inv X pins σ (upd H s.heap.objs.size (.tup [.int (i : Nat), x])) { s with heap := h'', toks := s.toks + 1 } := J.turnedNew (ch := [e, a]) (fun b ob hn q => (sb.2 b (ni2 hn).1).trans (kp b ob (ni2 hn).1 (ni2 hn).2 q)) hf (Nat.le_refl _) nw
    refine ⟨.ref s.heap.objs.size, _, J1, rfl, ⟨_, x, rfl, J.hok.fresh (Nat.le_refl _), rfl, fun ys hy => by rw [Kd.Hq.inj J hy hq]; exact hx⟩, ⟨⟨u, by rw [show ((i + 1 : Nat) : Int) = (i : Int) + 1 by omega]; exact he'⟩, a'.mv fun o q => (sb.2 a ne.symm).trans q, ne⟩, fun b hb => ?_⟩
    have lt : b < s.heap.objs.size := by
      rcases in2 hb with rfl | rfl
      · exact el
      · exact ha.lt
    rw [upd_ne (Nat.ne_of_lt lt)]
    exact (hf b hb).1
  done := by
    intro X hP hw hK hc i pins s σ H E J hf st hg
    subst hP hw hK
    obtain ⟨⟨old, he⟩, ha, ne⟩ := st
    obtain ⟨xs, hq, hx⟩ := hg
    obtain ⟨us, rv, sx⟩ := hq.sq J
    obtain ⟨f0, f1, f2, f3, f4, f5⟩ := hf a (by simp)
    have l1 := rv.length
    exact enn_end (J.ok.hd hc) he ha sx (by simp; omega) fun h' eb => ⟨rfl, J.turned (t' := s.toks) (fun b o hb q => eb b o hb q) f0 f1 f3 f4 f5⟩
  self := fun A i s Q E ⟨⟨_, he⟩, _⟩ h => wpAny_pyIter_enum he h
def iEnumK (K : PySem.W.Frag) (ta : TA) : TI := fun σ H R => ta σ H fun vs H1 => ∃ p xs k, vs = [.ref p] ∧ Kd.Hq k K H1 p xs ∧ R (IteK k K p) H1
theorem pi_enumK {X : Cx} {e : Expr} {ta : TA} {p pos tpos : Pos} {elts : List Expr} {kk : Nat} (hg : Gl X "enumerate") (hm : X.mg "enumerate" = none) (ha : PA X [e] ta) (hs : starEach [e] X.env = [(false, eval e X.env)]) :
    PI X (.Tuple elts kk tpos) (.Call (.Name "enumerate" p) [e] [] pos) (iEnumK X.K ta) := by
  refine ⟨fun pins s σ H R I h => ?_⟩
  refine Call_ (ld_blt I hg hm boot_enumerate (PyProof.Rows.callWith_type1 (thn (ha.run pos pins s σ H _ I h) fun us s1 ⟨vs, H1, I1, r1, a, xs, k, ex, hx, q⟩ => ?_) hs rfl))
  subst ex
  cases r1 with
  | cons r rr =>
    cases rr; cases r
    obtain ⟨us, rv, sx⟩ := hx.sq I1
    refine en_call sx fun h' he hit hk => wpAny_pyIter_enum he ⟨s1.heap.objs.size + 1, [s1.heap.objs.size + 1, s1.heap.objs.size], _, _, H1, rfl, I1.kept (t' := s1.toks) hk, turn_eK a (s1.heap.objs.size + 1) s1.heap.objs.size, ⟨⟨.none, he⟩, hit, Nat.succ_ne_self _⟩, fun b hb => ?_, q⟩
    have le : s1.heap.objs.size ≤ b := by
      rcases in2 hb with e | e <;> rw [e] <;> first | exact Nat.le_add_right _ _ | exact Nat.le_refl _
    exact I1.fpOk le (I1.hok.fresh le)
end Mi
end
section
namespace Mi
open PySem PySem.Spec L2 PyProof.Rows
structure FnG (P : Program) (w : World) (K : PySem.W.Frag) (mg : Str → Option Value) (base : Heap) (k : Nat) (f : Addr) (fd : FuncData) (ps : List Str) (sp : Sp) : Prop where
  len : ∀ vs H Q E, sp vs H Q E → vs.length = ps.length
  run : ∀ (A : Around) (outer : List PySem.Env) (s : Shared) (H : Hp) (args : Args) (us : List Value) (vs : List V) (Q : VK) (E : XK), A.guards = some [] → Room k A → Env0 P w K mg base A outer s H → BindsTo s fd args (ps.zip us) → Vals vs us → sp vs H Q E → codeAny (model P w) A (.call (.ref f) args) (CR CX0 outer P w H s Q E) s
section
variable {P : Program} {w : World} {K : PySem.W.Frag} {mg : Str → Option Value} {base : Heap}
theorem FnG.imp {k : Nat} {f : Addr} {fd : FuncData} {ps : List Str} {sp sp' : Sp} (F : FnG P w K mg base k f fd ps sp) (h : ∀ vs H Q E, sp' vs H Q E → sp vs H Q E) : FnG P w K mg base k f fd ps sp' :=
  ⟨fun vs H Q E q => F.len vs H Q E (h _ _ _ _ q), fun A o s H as us vs Q E hA hr e b r z => F.run A o s H as us vs Q E hA hr e b r (h _ _ _ _ z)⟩
theorem fnG_of {x qual : Str} {st : Stmt} {f : Addr} {fd : FuncData} {N ps : List Str} {k : Nat} {sp : Sp} (F : Fun K x qual st f fd) (S : FnScope N ps (defScope st)) (len : ∀ vs H Q E, sp vs H Q E → vs.length = ps.length)
    (body : ∀ (cdv : Value) (A : Around) (outer : List PySem.Env) (s : Shared) (H : Hp) (vs : List V) (Q : VK) (E : XK), A.guards = some [] → Room k (A.deeper (envOfC qual (defScope st) s.heap.objs.size f cdv)) → sp vs H Q E →
      ∃ t, PSs (cxOf CX0 P w K mg base N qual (defScope st) f cdv A outer s H E).nox (defBody st) t ∧ t { nx := fun _ H' => Q .non H', rt := Q } (start N vs) H) : FnG P w K mg base (k + 1) f fd ps sp := by
  obtain ⟨oc, od, kV, doc, pm, an, cdv, ct, osl, rfl, lk, hcd⟩ := F.ex
  refine ⟨len, fun A outer s H args us vs Q E hA hr e0 bnd rel hs => ?_⟩
  have up : ∀ b o, base.get? b = some o → s.heap.get? b = some o := fun b o e => (e0.bs b o e).1
  have KX : K.In s.heap := e0.mod.kin.keeps up
  have lim : s.heap.NoLimit := e0.mod.nolimit.keeps up
  have kinds : ∀ y, y ∈ ps.zip us → (defScope st).names.lookup y.1 = some .local ∨ ((defScope st).names.lookup y.1 = some .cell ∧ ((cellsFrom (s.heap.objs.size + 1) (defScope st).names []).lookup y.1).isSome = true) := fun y hy =>
    (S.par y.1 (List.of_mem_zip hy).1).imp id fun q => ⟨q, PySem.W.cellsFrom_some _ _ _ (.inl q)⟩
  refine codeAny_call_function hr.depth (KX _ _ lk) rfl S.co S.gen rfl (PySem.W.codeRec_of KX hcd) (bnd _ _ _ _ (wpAny_newFunctionEnv_cells S.kind kinds fun env he s1 nw => ?_))
  subst he
  obtain ⟨t, ht, hq⟩ := body cdv A outer s H vs Q E hA (hr.deeper _) hs
  have J : Inv (cxOf CX0 P w K mg base N qual (defScope st) f cdv A outer s H E) [] (start N vs) H s1 := inv_start S hr.hd e0 (len _ _ _ _ hs) rel nw
  refine ⟨lim.keeps nw.toInCall.keep, codeAny_func (wpAny_mono (ht.nox.run [] s1 (start N vs) H _ J hq) (fun fl s' z => ?_) fun e s' z => z)⟩
  cases fl with
  | ret u =>
    obtain ⟨v, σ', H', J', rv, q⟩ := z
    exact ⟨v, H', J'.os, J'.bare, J'.base, J'.hok, rv, q⟩
  | next =>
    obtain ⟨σ', H', J', q⟩ := z
    exact ⟨.non, H', J'.os, J'.bare, J'.base, J'.hok, rfl, q⟩
  | brk => exact False.elim (let ⟨_, _, _, q⟩ := z; q)
  | cont => exact False.elim (let ⟨_, _, _, q⟩ := z; q)
end
section
variable {X : Cx} {k : Nat} {f : Addr} {fd : FuncData} {ps : List Str} {sp : Sp}
theorem pe_callG {x : Str} {e : Expr} {es : List Expr} {t : TA} {p pos : Pos} (F : FnG X.prog X.w X.K X.mg X.base k f fd ps sp) (hA : X.A.guards = some []) (hr : Room k X.A) (hg : Gl X x) (hm : X.mg x = some (.ref f)) (hk : PySem.W.keepIn X.K (.ref f) = true) (hb : Binds X.K fd ps [])
    (ha : PA X (e :: es) t) (hdb : (x == ("__debug__" : Str)) = false) (he : starEach (e :: es) X.env = (false, eval e X.env) :: starEach es X.env) (hpl : (backTo pos (starEach es X.env)).any (·.1) = false) :
    PE X (.Call (.Name x p) (e :: es) [] pos) (tCall sp [] E0 t) := by
  refine ⟨fun pins s σ H Q I h => wpAny_Call_Name_kw (ld_glob I hg hm ?_ hdb)⟩
  refine PySem.W.callWith_K (h₀ := X.base) I.ok.mod.kin hk (thn (ha.run pos pins s σ H _ I h) fun us s1 ⟨vs, H1, J, r, q⟩ => ⟨J.kIn, ?_⟩) he hpl
  have q : sp vs H1 Q E0 := by
    have z : sp (vs ++ []) H1 Q E0 := q
    rwa [List.append_nil] at z
  have hl : us.length = ps.length := by rw [← r.length]; exact F.len _ _ _ _ q
  have bnd : BindsTo s1 fd ⟨us, []⟩ (ps.zip us) := by
    have z := hb s1 us J.kIn (by rw [List.append_nil]; exact hl)
    rwa [List.append_nil] at z
  refine wpAny_call (codeAny_mono (F.run X.A X.stack s1 H1 ⟨us, []⟩ us vs Q E0 hA hr J.env0 bnd r q) fun r s' hq => ?_)
  cases r with
  | error e => exact False.elim hq
  | ok fl =>
    cases fl with
    | ret u => exact J.after hq
    | next => exact False.elim hq
    | brk => exact False.elim hq
    | cont => exact False.elim hq
end

theorem callG {P : Program} {w : World} {K : PySem.W.Frag} {mg mb : Str → Option Value} {k : Nat} {fa a : Addr} {fd : FuncData} {x : Str} {sp : Sp} {s : Shared} {vs : List Value} {ns : List Int}
    (KX : K.In s.heap) (n1 : s.heap.Ns mainGlobals mg) (n2 : s.heap.Ns builtinsNs mb) (hbb : ∀ x : Str, x ≠ "__name__" → mb x = bootBuiltins x) (lim : s.heap.NoLimit) (gens : s.gens = #[])
    (ha : s.heap.get? a = some { cls := .type "list", data := .seq vs.toArray }) (hi : IntsAre vs ns) (hl : ns.length ≤ sizeLine) (hr : Room k callerA)
    (F : ∀ base : Heap, K.In base → base.Ns mainGlobals mg → FnG P w K mg base k fa fd [x] sp) (hb : ∀ (s : Shared) (u : Value), BindsTo s fd ⟨[u], []⟩ [(x, u)])
    (hsp : ∀ H : Hp, Only H → SqL K H a (ns.map V.int) → sp [.ref a] H (fun v _ => v = .bl true) fun _ _ _ => False) :
    codeAny (model P w) callerA (.call (.ref fa) ⟨[.ref a], []⟩) (fun r s' => r = .ok (.ret (.bool true)) ∧ OldK s.heap s'.heap ∧ s'.os = s.os ∧ AllBare s'.gens) s := by
  have rv := vals_ints hi
  have main : ∀ H : Hp, Only H → SqL K H a (ns.map V.int) → HOk P w H s.heap → (∀ b, H b ≠ none → b = a ∧ K.lookup a = none) → codeAny (model P w) callerA (.call (.ref fa) ⟨[.ref a], []⟩) (fun r s' => r = .ok (.ret (.bool true)) ∧ OldK s.heap s'.heap ∧ s'.os = s.os ∧ AllBare s'.gens) s := by
    intro H hO hS hok hA
    have one : ∀ {b : Addr} {o : Obj}, s.heap.get? b = some o → b ≠ a → (hidT s.heap H).get? b = some o := fun {b o} e n => hidT_get e (Classical.byContradiction fun z => n (hA b z).1)
    have ns' : ∀ {b : Addr} {m : Str → Option Value}, s.heap.Ns b m → (hidT s.heap H).Ns b m := fun {b m} ⟨o, es, ep, e, d, r⟩ => ⟨o, es, ep, one e (fun z => by
      subst z
      rw [ha] at e
      cases e
      have d : Data.seq vs.toArray _ = Data.dict es ep := d
      cases d), d, r⟩
    have KX' : K.In (hidT s.heap H) := fun b o e => by
      by_cases hb : H b = none
      · exact hidT_get (KX b o e) hb
      · obtain ⟨rfl, z⟩ := hA b hb
        rw [z] at e; cases e
    have e0 : Env0 P w K mg (hidT s.heap H) callerA [] s H := ⟨rfl, ⟨KX', ns' n1, ⟨mb, ns' n2, hbb⟩, let ⟨mc, z1, z2⟩ := lim; ⟨mc, ns' z1, z2⟩⟩, fun b o e => of_hidT e, Nat.le_of_eq (hidT_size _ _), trivial, fun b z => (nomatch z), hok, .of_eq gens⟩
    refine codeAny_mono ((F _ KX' (ns' n1)).run callerA [] s H ⟨[.ref a], []⟩ [.ref a] [.ref a] _ _ rfl hr e0 (hb s (.ref a)) (.cons rfl .nil) (hsp H hO hS)) fun r s' z => ?_
    cases r with
    | error e => exact z.elim
    | ok fl =>
      cases fl with
      | next => exact z.elim
      | brk => exact z.elim
      | cont => exact z.elim
      | ret u =>
        obtain ⟨v, H', os, bare, un, hok', rel, q⟩ := z
        have q : v = .bl true := q
        subst q
        have rel : u = Value.bool true := rel
        subst rel
        refine ⟨rfl, OldK.of_keep fun b o e => ?_, os, bare⟩
        rcases hO b with y | ⟨ob, xs, y⟩
        · exact un.keep b o e y (fun z => absurd (show b ∈ ([] : List Addr) from z) (by simp)) (by simp)
        · obtain ⟨e1, _⟩ := hok b _ y
          obtain ⟨e2, _⟩ := hok' b _ (un.frzs b ob _ y)
          rw [e] at e1
          cases e1
          exact e2
  cases hk : K.lookup a with
  | some o =>
    have e := KX a o hk
    rw [ha] at e
    cases e
    exact main (fun _ => none) (fun _ => .inl rfl) (.inr ⟨_, vs.toArray, _, hk, rfl, rfl, rfl, by rw [List.size_toArray, hi.length]; exact hl, by simpa using rv⟩) (fun b u z => (nomatch (show (none : Option HO) = some u from z))) fun b z => absurd rfl z
  | none =>
    refine main (fun b => if b = a then some (.frz { cls := .type "list", data := .seq vs.toArray } (.lst (ns.map V.int))) else none) (fun b => ?_) (.inl (.inr ⟨_, if_pos rfl⟩)) (fun b u z => ?_) fun b z => ?_
    · by_cases e : b = a
      · exact .inr ⟨_, _, if_pos e⟩
      · exact .inl (if_neg e)
    · by_cases e : b = a
      · have y := (if_pos e).symm.trans z
        cases y
        subst e
        exact ⟨ha, by rw [List.length_map]; exact hl, vs, _, rv, ha⟩
      · have y := (if_neg e).symm.trans z
        cases y
    · by_cases e : b = a
      · exact ⟨e, hk⟩
      · exact absurd (if_neg e) z
theorem walkG {l : PySem.W.OpenLaw} {n k : Nat} {q : Program} {loose : List Str} {XP : (Str → Option Value) → Heap → Prop} {YP : World → Heap → Prop} {d : DefRec} {K : Params → PySem.W.Frag} {sp : World → Sp} {x : Str}
    (hn : l.most = some n) (hn2 : n ≤ sizeLine) (hdf : d.params.defaults = []) (hr : Room k callerA) (hY : ∀ (w : World) (h : Heap), YP w h → (K w.params).In h)
    (F : ∀ (w : World) (mg : Str → Option Value) (fa : Addr) (h : Heap), (K w.params).In h → h.Ns mainGlobals mg → mg d.name = some (.ref fa) → ∃ fd : FuncData, (∀ (s : Shared) (u : Value), BindsTo s fd ⟨[u], []⟩ [(x, u)]) ∧ ∀ base : Heap, (K w.params).In base → base.Ns mainGlobals mg → FnG l.prog w (K w.params) mg base k fa fd [x] (sp w))
    (hsp : ∀ (w : World) (H : Hp) (a : Addr) (ns : List Int), ns.length ≤ n → Only H → SqL (K w.params) H a (ns.map V.int) → sp w [.ref a] H (fun v _ => v = .bl true) fun _ _ _ => False) :
    PySem.W.WalkO q loose XP YP l.row.toRowW d [] (fun f vs => PySem.call f vs) := by
  refine Att.attach_call hn hdf fun w s₀ s₁ mg mb fa o pm cd doc a vs ns T Y _ _ _ hmg hobj hints hlen hg => ?_
  obtain ⟨fd, hb, hF⟩ := F w mg fa _ (hY w _ Y) T.T.g hmg
  exact callG (hY w _ Y) T.T.g T.T.b T.T.builtins T.T.nolimit hg hobj hints (Nat.le_trans hlen hn2) hr hF hb fun H hO hS => hsp w H a ns hlen hO hS
end Mi
end
section
namespace Mi
open PySem PySem.Spec L2
section
variable {K : PySem.W.Frag} {W : Wd} {S : Sto} {p : Addr} {o : HO} {kv0 : List (Key × V)}
mutual
theorem Rep.chg (h1 : W.H p = some (.dK kv0)) (h2 : p ∉ W.fz) : ∀ (d : D) (v : V), Rep K W d v → Rep K ⟨W.ms, W.fz, upd W.H p o⟩ d v
  | .non, v, h => by unfold Rep at h ⊢; exact h
  | .bl _, v, h => by unfold Rep at h ⊢; exact h
  | .int _, v, h => by unfold Rep at h ⊢; exact h
  | .str _, v, h => by unfold Rep at h ⊢; exact h
  | .tup ds, v, h => by
    unfold Rep at h ⊢
    obtain ⟨a, vs, e1, e2, e3⟩ := h
    refine ⟨a, vs, e1, ?_, RepL.chg h1 h2 ds vs e3⟩
    rcases e2 with (e2 | ⟨ob, e2⟩) | e2
    · refine .inl (.inl ?_)
      show upd W.H p o a = _
      rw [upd_ne (fun z => by subst z; rw [h1] at e2; cases e2)]; exact e2
    · refine .inl (.inr ⟨ob, ?_⟩)
      show upd W.H p o a = _
      rw [upd_ne (fun z => by subst z; rw [h1] at e2; cases e2)]; exact e2
    · exact .inr e2
  | .lst ds, v, h => by
    unfold Rep at h ⊢
    obtain ⟨a, vs, e1, e2, e3, e4⟩ := h
    refine ⟨a, vs, e1, e2, ?_, RepL.chg h1 h2 ds vs e4⟩
    show upd W.H p o a = _
    rw [upd_ne (fun z => by subst z; exact h2 e2)]; exact e3
  | .scr ds, v, h => by
    unfold Rep at h ⊢
    obtain ⟨a, vs, e1, e2, e4⟩ := h
    refine ⟨a, vs, e1, e2.imp (fun z => ⟨z.1, ?_⟩) id, RepL.chg h1 h2 ds vs e4⟩
    have ne : a ≠ p := fun y => by subst y; exact h2 z.1
    rcases z.2 with y | ⟨ob, y⟩
    · refine .inl ?_
      show upd W.H p o a = _
      rw [upd_ne ne]; exact y
    · refine .inr ⟨ob, ?_⟩
      show upd W.H p o a = _
      rw [upd_ne ne]; exact y
  | .ref l, v, h => by unfold Rep at h ⊢; exact h
  | .dct ks ds, v, h => by
    unfold Rep at h ⊢
    obtain ⟨a, vs, e1, e2, e3, e0, e4⟩ := h
    refine ⟨a, vs, e1, e2, ?_, e0, RepL.chg h1 h2 ds vs e4⟩
    show upd W.H p o a = _
    rw [upd_ne (fun z => by subst z; exact h2 e2)]; exact e3
theorem RepL.chg (h1 : W.H p = some (.dK kv0)) (h2 : p ∉ W.fz) : ∀ (ds : List D) (vs : List V), RepL K W ds vs → RepL K ⟨W.ms, W.fz, upd W.H p o⟩ ds vs
  | [], vs, h => by unfold RepL at h ⊢; exact h
  | d :: ds, vs, h => by
    unfold RepL at h ⊢
    obtain ⟨v, q, e1, e2, e3⟩ := h
    exact ⟨v, q, e1, Rep.chg h1 h2 d v e2, RepL.chg h1 h2 ds q e3⟩
end
theorem Rel.chg (r : Rel K W S) (h1 : W.H p = some (.dK kv0)) (h2 : p ∉ W.fz) (h3 : p ∉ W.ms) : Rel K ⟨W.ms, W.fz, upd W.H p o⟩ S := by
  have dm : ∀ a, W.H a ≠ none → upd W.H p o a ≠ none := fun a z => by
    by_cases q : a = p
    · subst q; rw [upd_same]; simp
    · rw [upd_ne q]; exact z
  refine ⟨r.len, r.nd, fun l c q => ?_, fun a ha => ?_, fun a ha => ?_⟩
  · obtain ⟨a, e1, ok⟩ := r.cell l c q
    refine ⟨a, e1, ok.imp (fun o' e2 => ?_) (RepL.chg h1 h2)⟩
    show upd W.H p o a = _
    rw [upd_ne (fun z => by subst z; exact h3 (List.mem_of_getElem? e1))]; exact e2
  · exact r.apart a ha
  · exact dm a (r.dom a ha)
end

inductive KeyE (X : Cx) : List (Option Expr) → List Key → Prop
  | nil : KeyE X [] []
  | cons {e : Expr} {k : Key} {es : List (Option Expr)} {ks : List Key} : PE X e (tC (kV k)) → KeyE X es ks → KeyE X (some e :: es) (k :: ks)
inductive ValE (X : Cx) (Φ : Fns) (G : List D) : List Expr → MEs → Prop
  | nil : ValE X Φ G [] .nil
  | cons {e : Expr} {m : ME} {es : List Expr} {ms : MEs} : DE X Φ G e m → ValE X Φ G es ms → ValE X Φ G (e :: es) (.cons m ms)
theorem KeyE.len {X : Cx} {kes : List (Option Expr)} {ks : List Key} (h : KeyE X kes ks) : kes.length = ks.length ∧ kes.all (·.isSome) = true := by
  induction h with
  | nil => exact ⟨rfl, rfl⟩
  | cons _ _ ih => exact ⟨by rw [List.length_cons, List.length_cons, ih.1], by rw [List.all_cons, ih.2]; rfl⟩
theorem pairs_ok {X : Cx} {Φ : Fns} {G : List D} {pos : Pos} : ∀ {kes : List (Option Expr)} {ks : List Key} {es : List Expr} {ms : MEs}, KeyE X kes ks → ValE X Φ G es ms → kes.length = es.length →
    ∃ trs, PPs X pos kes es trs ∧ ∀ σ H Q, (∃ W S ρ, At X.K W S ρ σ H ∧ ∃ ds S', evs Φ G ρ ms S = some (ds, S') ∧ ∀ W' vs, Ext W W' → Rel X.K W' S' → RepL X.K W' ds vs → Q ((ks.zip vs).map fun kv => (kV kv.1, kv.2)) W'.H) → tPairs trs σ H Q
  | [], ks, [], ms, hk, hv, _ => by
    cases hk; cases hv
    refine ⟨[], pps_nil, fun σ H Q ⟨W, S, ρ, a, ds, S', ev, q⟩ => ?_⟩
    rw [evs] at ev
    cases ev
    have := q W [] (Ext.refl W) a.rel .nil
    rw [a.1] at this
    exact this
  | [], ks, e :: es, ms, hk, hv, hl => by cases hl
  | _ :: _, ks, [], ms, hk, hv, hl => by cases hl
  | ke :: kes, ks, e :: es, ms, hk, hv, hl => by
    cases hk with
    | cons pk hk =>
      cases hv with
      | cons de hv =>
        obtain ⟨trs, pp, rd⟩ := pairs_ok (pos := pos) hk hv (by simpa using hl)
        refine ⟨_, pps_cons pk de pp, fun σ H Q ⟨W, S, ρ, a, ds, S', ev, q⟩ => ?_⟩
        rw [evs] at ev
        obtain ⟨⟨x, S1⟩, ev1, ev⟩ := Mi.bind_some ev
        obtain ⟨d, hd, ev⟩ := Mi.bind_some ev
        obtain ⟨⟨ds', S2⟩, ev2, ev⟩ := map_some ev
        cases ev
        unfold tPairs tC
        refine ⟨W, S, ρ, a, x, S1, ev1, fun W1 v1 e1 r1 p1 => rd _ _ _ ?_⟩
        obtain ⟨W1', eH, e1', r1', p1'⟩ := p1.shut r1 e1 hd
        have a' := a.ext e1' r1'
        rw [eH] at a'
        exact ⟨W1', S1, ρ, a', ds', S2, ev2, fun W2 vs e2 r2 p2 => q W2 _ (e1'.trans e2) r2 (.cons (Rep.ext r1' e2 d v1 p1') p2)⟩
theorem putK_fresh {ks : List (Key × V)} {k : Key} {v : V} (h : k ∉ ks.map (·.1)) : putK ks k v = ks ++ [(k, v)] := by
  refine putK_new v ?_
  induction ks with
  | nil => rfl
  | cons p r ih =>
    rw [List.map_cons, List.mem_cons, not_or] at h
    rw [valV_neg (fun z => h.1 z.symm)]
    exact ih h.2
theorem mergeK_fresh : ∀ (more acc : List (Key × V)), (acc.map (·.1) ++ more.map (·.1)).Nodup → mergeK acc more = acc ++ more
  | [], acc, _ => by unfold mergeK; simp
  | p :: r, acc, h => by
    have e : mergeK acc (p :: r) = mergeK (putK acc p.1 p.2) r := rfl
    rw [List.map_cons] at h
    have hp : p.1 ∉ acc.map (·.1) := fun z => (List.nodup_append.mp h).2.2 _ z _ List.mem_cons_self rfl
    rw [e, putK_fresh hp, mergeK_fresh r (acc ++ [(p.1, p.2)]) (by rw [List.map_append, List.append_assoc]; exact h), List.append_assoc]
    rfl
theorem zip_keys : ∀ {ks : List Key} {vs : List V}, ks.length = vs.length → (ks.zip vs).map (·.1) = ks
  | [], [], _ => rfl
  | k :: ks, v :: vs, h => by
    rw [List.zip_cons_cons, List.map_cons, zip_keys (by simpa using h)]
  | [], _ :: _, h => by cases h
  | _ :: _, [], h => by cases h
section
variable {X : Cx} {Φ : Fns} {G : List D} {pos : Pos}
theorem de_dct {kes : List (Option Expr)} {es : List Expr} {ks : List Key} {ms : MEs} (hk : KeyE X kes ks) (hv : ValE X Φ G es ms) (hl : kes.length = es.length) (h0 : kes ≠ []) (h15 : kes.length ≤ 15) : DE X Φ G (.Dict kes es pos) (.dct ks ms) := by
  obtain ⟨trs, pp, rd⟩ := pairs_ok (pos := pos) hk hv hl
  refine PE.imp (pe_disp pp hk.len.2 hl h0 h15) fun σ H Q h => ?_
  obtain ⟨W, S, ρ, a, r, S', ev, q⟩ := h
  rw [evR] at ev
  obtain ⟨⟨ds, S1⟩, ev1, ev⟩ := Mi.bind_some ev
  dsimp only at ev
  split at ev
  · rename_i hc
    cases ev
    intro p hp
    obtain ⟨eH, rel, sl⟩ := a
    subst eH
    have e0 : Ext W ⟨W.ms, W.fz, upd W.H p (.dK [])⟩ := Ext.laid hp
    have r0 := rel.laid (o := .dK []) hp
    have a0 : At X.K ⟨W.ms, W.fz, upd W.H p (.dK [])⟩ S ρ σ (upd W.H p (.dK [])) := At.ext ⟨rfl, rel, sl⟩ e0 r0
    refine rd σ _ _ ⟨⟨W.ms, W.fz, upd W.H p (.dK [])⟩, S, ρ, a0, ds, _, ev1, fun W1 vs e1 r1 p1 => ?_⟩
    have hlen : ks.length = vs.length := by rw [p1.length]; exact hc.1.symm
    have hpm : p ∉ W.ms := (rel.pms hp).1
    have hpf : p ∉ W.fz := (rel.pms hp).2
    have h1 : W1.H p = some (.dK []) := e1.keep p _ upd_same hpm
    have h2 : p ∉ W1.fz := fun z => (e1.nfz p z).elim hpf fun y => by
      have y : upd W.H p (HO.dK []) p = none := y
      rw [upd_same] at y; cases y
    have h3 : p ∉ W1.ms := fun z => (e1.nms p z).elim hpm fun y => by
      have y : upd W.H p (HO.dK []) p = none := y
      rw [upd_same] at y; cases y
    refine ⟨h1, ks.zip vs, rfl, by rw [List.length_zip]; omega, ?_⟩
    have hm : mergeK [] (ks.zip vs) = ks.zip vs := by
      rw [mergeK_fresh _ _ (by rw [List.map_nil, List.nil_append, zip_keys hlen]; exact hc.2.1)]; rfl
    rw [hm]
    refine q ⟨W1.ms, W1.fz, upd W1.H p (.dK (ks.zip vs))⟩ _ ?_ (r1.chg h1 h2 h3) ?_
    · have e01 := e0.trans e1
      refine ⟨e01.ms, e01.fz, fun x u hx n => ?_, fun x hx => ?_, e01.nms, e01.nfz⟩
      · show upd W1.H p _ x = _
        rw [upd_ne (ne_of_none hx hp)]
        exact e01.keep x u hx n
      · show upd W1.H p _ x ≠ none
        by_cases z : x = p
        · subst z; rw [upd_same]; simp
        · rw [upd_ne z]; exact e01.dom x hx
    · exact ⟨p, vs, rfl, upd_same, hc.1.symm, h3, h2, hp, RepL.chg h1 h2 ds vs p1⟩
  · cases ev
theorem valV_zip {K : PySem.W.Frag} {W : Wd} (k : Key) : ∀ {ks : List Key} {ds : List D} {vs : List V}, RepL K W ds vs → (∀ d, valD ks ds k = some d → ∃ v, valV (ks.zip vs) k = some v ∧ Rep K W d v) ∧ (valD ks ds k = none → ks.length = ds.length → valV (ks.zip vs) k = none)
  | [], ds, vs, h => ⟨fun d e => (by unfold valD at e; cases e), fun _ _ => by rw [List.zip_nil_left]; rfl⟩
  | q :: ks, [], vs, h => ⟨fun d e => (by unfold valD at e; cases e), fun _ z => by cases z⟩
  | q :: ks, d :: ds, vs, h => by
    obtain ⟨v, r, rfl, h1, h2⟩ := h.cons_inv
    have ih := valV_zip k (ks := ks) h2
    rw [List.zip_cons_cons]
    by_cases e : q = k
    · refine ⟨fun d' z => ?_, fun z => ?_⟩
      · unfold valD at z
        rw [if_pos e] at z
        cases z
        exact ⟨v, valV_pos e, h1⟩
      · unfold valD at z
        rw [if_pos e] at z
        cases z
    · refine ⟨fun d' z => ?_, fun z l => ?_⟩
      · unfold valD at z
        rw [if_neg e] at z
        rw [valV_neg e]
        exact ih.1 d' z
      · unfold valD at z
        rw [if_neg e] at z
        rw [valV_neg e]
        exact ih.2 z (by simpa using l)
theorem key_repr {K : PySem.W.Frag} {W W' : Wd} {v : V} {x : Rt} {k : Key} (h : RepR K W W' v x) (e : x.key? = some k) : v = kV k := by
  cases x with
  | own _ => cases e
  | bor _ => cases e
  | ownd _ _ => cases e
  | val d =>
    have h : Rep K W' d v := h
    cases d with
    | int i => cases e; unfold Rep at h; exact h
    | str x => cases e; unfold Rep at h; exact h
    | non => cases e
    | bl _ => cases e
    | tup _ => cases e
    | lst _ => cases e
    | scr _ => cases e
    | ref _ => cases e
    | dct _ _ => cases e
theorem tR_mono {K : PySem.W.Frag} {m : ME} {σ : St} {H : Hp} {Q Q' : VK} (h : tR K Φ G m σ H Q) (i : ∀ v H, Q v H → Q' v H) : tR K Φ G m σ H Q' := by
  obtain ⟨W, S, ρ, a, r, S', ev, q⟩ := h
  exact ⟨W, S, ρ, a, r, S', ev, fun W' v e r p => i _ _ (q W' v e r p)⟩
variable {e1 e2 e3 : Expr} {apos cpos : Pos}
theorem de_dgt {m1 m2 : ME} (hu : X.A.units + 1 < cLine) (hs : NoSl e2) (h1 : DE X Φ G e1 m1) (h2 : DE X Φ G e2 m2) : DE X Φ G (.Subscript e1 e2 pos) (.dgt m1 m2) := by
  refine PE.imp (pe_dget hu h1 h2 hs) fun σ H Q h => ?_
  obtain ⟨W, S, ρ, a, r, S', ev, q⟩ := h
  rw [evR] at ev
  obtain ⟨⟨x, S1⟩, ev1, ev⟩ := Mi.bind_some ev
  obtain ⟨⟨y, S2⟩, ev2, ev⟩ := Mi.bind_some ev
  obtain ⟨t, ht, ev⟩ := Mi.bind_some ev
  obtain ⟨k, hk, ev⟩ := Mi.bind_some ev
  obtain ⟨d, hd, ev⟩ := map_some ev
  cases ev
  refine ⟨W, S, ρ, a, x, S1, ev1, fun W1 v1 f1 r1 p1 => ⟨W1, S1, ρ, a.ext f1 r1, y, _, ev2, fun W2 v2 f2 r2 p2 => ?_⟩⟩
  obtain ⟨p, vs, rfl, g1, _, g2⟩ := (p1.ext r1 f2).dv r2 ht
  have g3 := key_repr p2 hk
  subst g3
  obtain ⟨v, g4, g5⟩ := (valV_zip k (ks := t.1) g2).1 d hd
  refine ⟨p, v, rfl, ?_, q W2 _ (f1.trans f2) r2 g5⟩
  rw [← g4]
  exact DGet.k g1
theorem de_din {m1 m2 : ME} {n : Bool} (hu : X.A.units + 1 < cLine) (h1 : DE X Φ G e1 m1) (h2 : DE X Φ G e2 m2) (hm : behindInMarks (if n then .NotIn else .In) e2 = false) : DE X Φ G (.Compare e1 [if n then .NotIn else .In] [e2] pos) (.din n m1 m2) := by
  have core : ∀ σ H Q, tR X.K Φ G (.din n m1 m2) σ H Q → tR X.K Φ G m1 σ H fun y H1 => tR X.K Φ G m2 σ H1 fun x H2 => ∃ a o, x = .ref a ∧ DGet H2 a y o ∧ Q (.bl (xor n o.isSome)) H2 := fun σ H Q h => by
    obtain ⟨W, S, ρ, a, r, S', ev, q⟩ := h
    rw [evR] at ev
    obtain ⟨⟨x, S1⟩, ev1, ev⟩ := Mi.bind_some ev
    obtain ⟨⟨y, S2⟩, ev2, ev⟩ := Mi.bind_some ev
    obtain ⟨k, hk, ev⟩ := Mi.bind_some ev
    obtain ⟨t, ht, ev⟩ := map_some ev
    cases ev
    refine ⟨W, S, ρ, a, x, S1, ev1, fun W1 v1 f1 r1 p1 => ⟨W1, S1, ρ, a.ext f1 r1, y, _, ev2, fun W2 v2 f2 r2 p2 => ?_⟩⟩
    obtain ⟨p, vs, rfl, g1, g0, g2⟩ := p2.dv r2 ht
    have g3 := key_repr p1 hk
    subst g3
    refine ⟨p, valV (t.1.zip vs) k, rfl, DGet.k g1, ?_⟩
    have g4 := valV_zip k (ks := t.1) g2
    have g5 : (valV (t.1.zip vs) k).isSome = (valD t.1 t.2 k).isSome := by
      cases hd : valD t.1 t.2 k with
      | none => rw [g4.2 hd g0]; rfl
      | some d => obtain ⟨v, z, _⟩ := g4.1 d hd; rw [z]; rfl
    rw [g5]
    exact q W2 _ (f1.trans f2) r2 bl_repr
  cases n with
  | false =>
    refine PE.imp (pe_cmp (pc_din hu h1 h2) hm) fun σ H Q h => ?_
    have := core σ H Q h
    simp only [Bool.false_xor] at this
    exact this
  | true =>
    refine PE.imp (pe_cmp (pc_dnotin hu h1 h2) hm) fun σ H Q h => ?_
    have := core σ H Q h
    simp only [Bool.true_xor] at this
    exact this
theorem dt_din {m1 m2 : ME} {n : Bool} (hu : X.A.units + 1 < cLine) (h1 : DE X Φ G e1 m1) (h2 : DE X Φ G e2 m2) (hm : behindInMarks (if n then .NotIn else .In) e2 = false) : DT X Φ G (.Compare e1 [if n then .NotIn else .In] [e2] pos) (.din n m1 m2) := by
  have core : ∀ σ H (Q : Bool → Hp → Prop), tBl X.K Φ G (.din n m1 m2) σ H Q → tR X.K Φ G m1 σ H fun y H1 => tR X.K Φ G m2 σ H1 fun x H2 => ∃ a o, x = .ref a ∧ DGet H2 a y o ∧ Q (xor n o.isSome) H2 := fun σ H Q h => by
    obtain ⟨W, S, ρ, a, b, S', ev, q⟩ := h
    rw [evR] at ev
    obtain ⟨⟨x, S1⟩, ev1, ev⟩ := Mi.bind_some ev
    obtain ⟨⟨y, S2⟩, ev2, ev⟩ := Mi.bind_some ev
    obtain ⟨k, hk, ev⟩ := Mi.bind_some ev
    obtain ⟨t, ht, ev⟩ := map_some ev
    cases ev
    refine ⟨W, S, ρ, a, x, S1, ev1, fun W1 v1 f1 r1 p1 => ⟨W1, S1, ρ, a.ext f1 r1, y, _, ev2, fun W2 v2 f2 r2 p2 => ?_⟩⟩
    obtain ⟨p, vs, rfl, g1, g0, g2⟩ := p2.dv r2 ht
    have g3 := key_repr p1 hk
    subst g3
    refine ⟨p, valV (t.1.zip vs) k, rfl, DGet.k g1, ?_⟩
    have g4 := valV_zip k (ks := t.1) g2
    have g5 : (valV (t.1.zip vs) k).isSome = (valD t.1 t.2 k).isSome := by
      cases hd : valD t.1 t.2 k with
      | none => rw [g4.2 hd g0]; rfl
      | some d => obtain ⟨v, z, _⟩ := g4.1 d hd; rw [z]; rfl
    rw [g5]
    exact q W2 (f1.trans f2) r2
  cases n with
  | false =>
    refine PT.imp (pt_cmp (pc_din hu h1 h2) hm) fun σ H Q h => ?_
    have z := core σ H Q h
    simp only [Bool.false_xor] at z
    exact tR_mono z fun y H1 w => tR_mono w fun x H2 ⟨a, o, g1, g2, g3⟩ => ⟨a, o, g1, g2, _, rfl, g3⟩
  | true =>
    refine PT.imp (pt_cmp (pc_dnotin hu h1 h2) hm) fun σ H Q h => ?_
    have z := core σ H Q h
    simp only [Bool.true_xor] at z
    exact tR_mono z fun y H1 w => tR_mono w fun x H2 ⟨a, o, g1, g2, g3⟩ => ⟨a, o, g1, g2, _, rfl, g3⟩
theorem RepR.dvV {K : PySem.W.Frag} {W W' : Wd} {v : V} {x : Rt} {ks : List Key} {ds : List D} (h : RepR K W W' v x) (e : x.dctV? = some (ks, ds)) : ∃ a vs, v = .ref a ∧ W'.H a = some (.dK (ks.zip vs)) ∧ ks.length = ds.length ∧ RepL K W' ds vs := by
  cases x with
  | own _ => cases e
  | bor _ => cases e
  | ownd ks' ds' =>
    cases e
    obtain ⟨p, vs, e1, e2, el, e3, e4, e0, e5⟩ := h
    exact ⟨p, vs, e1, e2, el, e5⟩
  | val d =>
    cases d with
    | dct ks' ds' =>
      cases e
      have h : Rep K W' (.dct ks ds) v := h
      unfold Rep at h
      obtain ⟨a, vs, e1, _, e3, el, e4⟩ := h
      exact ⟨a, vs, e1, e3, el, e4⟩
    | _ => cases e
theorem de_dg2 {m1 m2 m3 : ME} (hu : X.A.units + 1 < cLine) (h1 : DE X Φ G e1 m1) (h2 : DE X Φ G e2 m2) (h3 : DE X Φ G e3 m3) (m : M2 X e1 "get" apos e2 e3 cpos) : DE X Φ G (.Call (.Attribute e1 "get" apos) [e2, e3] [] cpos) (.o3 .get m1 m2 m3) := by
  refine PE.imp (pe_dget2 hu h1 h2 h3 m) fun σ H Q h => ?_
  obtain ⟨W, S, ρ, a, r, S', ev, q⟩ := h
  rw [evR] at ev
  obtain ⟨⟨x, S1⟩, ev1, ev⟩ := Mi.bind_some ev
  obtain ⟨⟨y, S2⟩, ev2, ev⟩ := Mi.bind_some ev
  obtain ⟨⟨z, S3⟩, ev3, ev⟩ := Mi.bind_some ev
  change (x.dctV?.bind fun t => y.key?.bind fun q => z.val?.map fun e => (Rt.val ((valD t.1 t.2 q).getD e), S3)) = _ at ev
  obtain ⟨t, ht, ev⟩ := Mi.bind_some ev
  obtain ⟨k, hk, ev⟩ := Mi.bind_some ev
  obtain ⟨f, hf, ev⟩ := map_some ev
  cases ev
  refine ⟨W, S, ρ, a, x, S1, ev1, fun W1 v1 f1 r1 p1 => ?_⟩
  obtain ⟨p, vs, rfl, g1, g0, g2⟩ := p1.dvV ht
  refine ⟨p, rfl, .inl ⟨_, .inl g1⟩, W1, S1, ρ, a.ext f1 r1, y, _, ev2, fun W2 v2 f2 r2 p2 => ⟨W2, S2, ρ, (a.ext f1 r1).ext f2 r2, z, _, ev3, fun W3 v3 f3 r3 p3 => ?_⟩⟩
  obtain ⟨p', vs', e', g1', g0', g2'⟩ := ((p1.ext r1 f2).ext r2 f3).dvV ht
  cases e'
  have g3 := key_repr p2 hk
  subst g3
  refine ⟨_, DGet.k g1', ?_⟩
  have g4 := valV_zip k (ks := t.1) g2'
  refine q W3 _ ((f1.trans f2).trans f3) r3 ?_
  show Rep X.K W3 _ _
  cases hd : valD t.1 t.2 k with
  | none =>
    rw [g4.2 hd g0']
    rw [val?_some (r := z) hf] at p3
    exact p3
  | some d =>
    obtain ⟨v, z, w⟩ := g4.1 d hd
    rw [z]
    exact w
end
end Mi
end
section
namespace Mi
open PySem PySem.Spec L2

structure Step (O : Addr → Prop) (W W' : Wd) : Prop where
  ms : ∃ t, W'.ms = W.ms ++ t
  fz : ∀ a, a ∈ W.fz → a ∈ W'.fz
  keep : ∀ a o, W.H a = some o → a ∉ W.ms → ¬ O a → W'.H a = some o
  dom : ∀ a, W.H a ≠ none → W'.H a ≠ none
  nms : ∀ a, a ∈ W'.ms → a ∈ W.ms ∨ W.H a = none
  nfz : ∀ a, a ∈ W'.fz → a ∈ W.fz ∨ W.H a = none ∨ O a
theorem Ext.step {O : Addr → Prop} {W W' : Wd} (e : Ext W W') : Step O W W' := ⟨e.ms, e.fz, fun a o h n _ => e.keep a o h n, e.dom, e.nms, fun a h => (e.nfz a h).elim .inl fun z => .inr (.inl z)⟩
theorem Step.ext {O : Addr → Prop} {W W' : Wd} (h : ∀ a, ¬ O a) (e : Step O W W') : Ext W W' := ⟨e.ms, e.fz, fun a o q n => e.keep a o q n (h a), e.dom, e.nms, fun a z => by
  rcases e.nfz a z with q | q | q
  · exact .inl q
  · exact .inr q
  · exact (h a q).elim⟩
theorem Step.free {O : Addr → Prop} {W W' : Wd} (e : Step O W W') {a : Addr} (h : W'.H a = none) : W.H a = none := by
  cases q : W.H a with
  | none => rfl
  | some o => exact absurd h (e.dom a (by rw [q]; simp))
theorem Step.refl (O : Addr → Prop) (W : Wd) : Step O W W := (Ext.refl W).step
theorem Step.trans {O O1 : Addr → Prop} {W W1 W2 : Wd} (a : Step O W W1) (b : Step O1 W1 W2) (h : ∀ p, O1 p → O p ∨ W.H p = none) : Step O W W2 := by
  refine ⟨?_, fun x h => b.fz x (a.fz x h), fun x o q n no => b.keep x o (a.keep x o q n no) (fun z => ?_) fun z => ?_, fun x h => b.dom x (a.dom x h), fun x h => ?_, fun x hx => ?_⟩
  · obtain ⟨t, e⟩ := a.ms
    obtain ⟨u, e'⟩ := b.ms
    exact ⟨t ++ u, by rw [e', e, List.append_assoc]⟩
  · rcases a.nms x z with r | r
    · exact n r
    · rw [q] at r; cases r
  · rcases h x z with r | r
    · exact no r
    · rw [q] at r; cases r
  · rcases b.nms x h with q | q
    · exact a.nms x q
    · exact .inr (a.free q)
  · rcases b.nfz x hx with q | q | q
    · exact a.nfz x q
    · exact .inr (.inl (a.free q))
    · rcases h x q with r | r
      · exact .inr (.inr r)
      · exact .inr (.inl r)

def OOk (O : Addr → Prop) (W : Wd) : Prop := ∀ a, O a → a ∉ W.fz ∧ ∃ vs, W.H a = some (.lst vs)
section
variable {K : PySem.W.Frag} {O : Addr → Prop} {W W' : Wd} {S : Sto}
theorem Step.msAt (e : Step O W W') {l : Nat} {a : Addr} (h : W.ms[l]? = some a) : W'.ms[l]? = some a := by
  obtain ⟨t, q⟩ := e.ms
  rw [q, List.getElem?_append_left (List.getElem?_eq_some_iff.mp h).1]; exact h
theorem Step.rd (e : Step O W W') {a : Addr} {u : HO} (h : Rd W.H a u) (n : a ∉ W.ms) (no : ¬ O a) : Rd W'.H a u := by
  rcases h with h | ⟨o, h⟩
  · exact .inl (e.keep a _ h n no)
  · exact .inr ⟨o, e.keep a _ h n no⟩
theorem Step.sqT (r : Rel K W S) (ok : OOk O W) (e : Step O W W') {a : Addr} {vs : List V} (h : SqT K W.H a vs) : SqT K W'.H a vs := by
  rcases h with h | h
  · refine .inl (e.rd h (r.notTup h) fun z => ?_)
    obtain ⟨_, ws, q⟩ := ok a z
    rcases h with h | ⟨o, h⟩
    · rw [h] at q; cases q
    · rw [h] at q; cases q
  · exact .inr h
mutual
theorem Rep.step (r : Rel K W S) (ok : OOk O W) (e : Step O W W') : ∀ (d : D) (v : V), Rep K W d v → Rep K W' d v
  | .non, v, h => by unfold Rep at h ⊢; exact h
  | .bl _, v, h => by unfold Rep at h ⊢; exact h
  | .int _, v, h => by unfold Rep at h ⊢; exact h
  | .str _, v, h => by unfold Rep at h ⊢; exact h
  | .tup ds, v, h => by
    unfold Rep at h ⊢
    obtain ⟨a, vs, e1, e2, e3⟩ := h
    exact ⟨a, vs, e1, Step.sqT r ok e e2, RepL.step r ok e ds vs e3⟩
  | .lst ds, v, h => by
    unfold Rep at h ⊢
    obtain ⟨a, vs, e1, e2, e3, e4⟩ := h
    exact ⟨a, vs, e1, e.fz a e2, e.keep a _ e3 (r.apart a e2) (fun z => (ok a z).1 e2), RepL.step r ok e ds vs e4⟩
  | .scr ds, v, h => by
    unfold Rep at h ⊢
    obtain ⟨a, vs, e1, e2, e4⟩ := h
    exact ⟨a, vs, e1, e2.imp (fun z => ⟨e.fz a z.1, e.rd z.2 (r.apart a z.1) fun y => (ok a y).1 z.1⟩) id, RepL.step r ok e ds vs e4⟩
  | .ref l, v, h => by
    unfold Rep at h ⊢
    obtain ⟨a, e1, e2⟩ := h
    exact ⟨a, e1, e.msAt e2⟩
  | .dct ks ds, v, h => by
    unfold Rep at h ⊢
    obtain ⟨a, vs, e1, e2, e3, e0, e4⟩ := h
    exact ⟨a, vs, e1, e.fz a e2, e.keep a _ e3 (r.apart a e2) (fun z => (ok a z).1 e2), e0, RepL.step r ok e ds vs e4⟩
theorem RepL.step (r : Rel K W S) (ok : OOk O W) (e : Step O W W') : ∀ (ds : List D) (vs : List V), RepL K W ds vs → RepL K W' ds vs
  | [], vs, h => by unfold RepL at h ⊢; exact h
  | d :: ds, vs, h => by
    unfold RepL at h ⊢
    obtain ⟨v, q, e1, e2, e3⟩ := h
    exact ⟨v, q, e1, Rep.step r ok e d v e2, RepL.step r ok e ds q e3⟩
end
end
section
variable (K : PySem.W.Frag) (Φ : Fns) (G : List D)

def ItOk (O : Addr → Prop) (W1 : Wd) (J : It) (ds : List D) : Prop := ∀ W2 S2, Step O W1 W2 → Rel K W2 S2 →
  (∀ (i : Nat) (d : D), ds[i]? = some d → J.go i W2.H ∧ ∀ x H', J.yld i W2.H x H' → ∃ W3, W3.H = H' ∧ Ext W2 W3 ∧ Rel K W3 S2 ∧ Rep K W3 d x) ∧ J.stop ds.length W2.H
def ownA (σ : St) (ρ : Env) : Addr → Prop := fun p => ∃ (i : Nat) (ds : List D), ρ[i]? = some (.own ds) ∧ σ[i]? = some (some (.ref p))

def OO (z : Bool) (σ : St) (ρ : Env) : Addr → Prop := fun p => z = false ∧ ownA σ ρ p
theorem OO_false {σ : St} {ρ : Env} : OO false σ ρ = ownA σ ρ := funext fun p => propext ⟨fun h => h.2, fun h => ⟨rfl, h⟩⟩
def tI (z : Bool) (m : MI) : TI := fun σ H R => ∃ W S ρ, At K W S ρ σ H ∧ ∃ ds S', evI Φ G ρ z m S = some (ds, S') ∧ ∀ W' J, Ext W W' → Rel K W' S' → ItOk K (OO z σ ρ) W' J ds → R J W'.H
end
theorem At.own {K : PySem.W.Frag} {W : Wd} {S : Sto} {ρ : Env} {σ : St} {H : Hp} (a : At K W S ρ σ H) : OOk (ownA σ ρ) W := fun p ⟨i, ds, h1, h2⟩ => by
  obtain ⟨q, vs, e1, e2, _, e4, _⟩ := a.sl.2.2.1 i ds h1
  rw [h2] at e1; cases e1
  exact ⟨e4, vs, e2⟩
section
variable {X : Cx} {Φ : Fns} {G : List D} {e e1 e2 tg : Expr} {pos p : Pos}
theorem PI.imp {X : Cx} {tg e : Expr} {t t' : TI} (h : PI X tg e t) (i : ∀ σ H Q, t' σ H Q → t σ H Q) : PI X tg e t' := ⟨fun pins s σ H Q I q => h.run pins s σ H Q I (i σ H Q q)⟩
abbrev DI (X : Cx) (Φ : Fns) (G : List D) (z : Bool) (tg e : Expr) (m : MI) : Prop := PI X tg e (tI X.K Φ G z m)
theorem rngL_get : ∀ (n : Nat) (lo : Int) (i : Nat), (rngL lo n)[i]? = if i < n then some (.int (lo + i)) else none
  | 0, lo, i => by simp [rngL]
  | n + 1, lo, 0 => by simp [rngL]
  | n + 1, lo, i + 1 => by
    show (rngL (lo + 1) n)[i]? = _
    rw [rngL_get n (lo + 1) i]
    by_cases h : i < n
    · rw [if_pos h, if_pos (by omega)]; congr 2; omega
    · rw [if_neg h, if_neg (by omega)]
theorem rngL_len : ∀ (n : Nat) (lo : Int), (rngL lo n).length = n
  | 0, _ => rfl
  | n + 1, lo => by show (rngL (lo + 1) n).length + 1 = _; rw [rngL_len n]
theorem it_rng {K : PySem.W.Frag} {O : Addr → Prop} {W : Wd} (lo : Int) (n : Nat) : ItOk K O W (Itr lo n) (rngL lo n) := fun W2 S2 st r2 => by
  refine ⟨fun i d hd => ?_, ?_⟩
  · rw [rngL_get] at hd
    split at hd
    · rename_i hi
      cases hd
      refine ⟨hi, fun x H' ⟨h1, h2⟩ => ⟨W2, h1.symm, Ext.refl W2, r2, ?_⟩⟩
      subst h2; unfold Rep; rfl
    · cases hd
  · rw [rngL_len]; exact Nat.le_refl n
theorem di_rng1 {z : Bool} {m : ME} (hg : Gl X "range") (hm : X.mg "range" = none) (hs : starEach [e] X.env = [(false, eval e X.env)]) (h : DE X Φ G e m) : DI X Φ G z tg (.Call (.Name "range" p) [e] [] pos) (.rng1 m) := by
  refine PI.imp (pi_range1 hg hm (pa_cons h pa_nil hs) hs) fun σ H R h => ?_
  obtain ⟨W, S, ρ, a, ds, S', ev, q⟩ := h
  rw [evI] at ev
  obtain ⟨⟨x, S1⟩, ev1, ev⟩ := Mi.bind_some ev
  obtain ⟨j, hj, ev⟩ := Mi.bind_some ev
  refine ⟨W, S, ρ, a, x, S1, ev1, fun W1 v1 e1 r1 p1 => ?_⟩
  split at ev
  · rename_i hr
    cases ev
    have f1 := repr_int (show RepR X.K W W1 v1 (.val (.int j)) from (int?_some (r := x) hj) ▸ p1)
    subst f1
    exact ⟨j, rfl, hr.1, hr.2, q W1 _ e1 r1 (it_rng 0 _)⟩
  · cases ev
theorem di_rng2 {z : Bool} {m1 m2 : ME} (hg : Gl X "range") (hm : X.mg "range" = none) (hs : starEach [e1, e2] X.env = [(false, eval e1 X.env), (false, eval e2 X.env)]) (hs2 : starEach [e2] X.env = [(false, eval e2 X.env)]) (h1 : DE X Φ G e1 m1) (h2 : DE X Φ G e2 m2) : DI X Φ G z tg (.Call (.Name "range" p) [e1, e2] [] pos) (.rng2 m1 m2) := by
  refine PI.imp (pi_range2 hg hm (pa_cons h1 (pa_cons h2 pa_nil hs2) (by rw [hs, hs2])) hs hs2) fun σ H R h => ?_
  obtain ⟨W, S, ρ, a, ds, S', ev, q⟩ := h
  rw [evI] at ev
  obtain ⟨⟨x, S1⟩, ev1, ev⟩ := Mi.bind_some ev
  obtain ⟨⟨y, S2⟩, ev2, ev⟩ := Mi.bind_some ev
  refine ⟨W, S, ρ, a, x, S1, ev1, fun W1 v1 e1 r1 p1 => ?_⟩
  refine ⟨W1, S1, ρ, a.ext e1 r1, y, S2, ev2, fun W2 v2 e2 r2 p2 => ?_⟩
  obtain ⟨i, hi, ev⟩ := Mi.bind_some ev
  obtain ⟨j, hj, ev⟩ := Mi.bind_some ev
  split at ev
  · rename_i hr
    cases ev
    have f1 := repr_int (show RepR X.K W W1 v1 (.val (.int i)) from (int?_some (r := x) hi) ▸ p1)
    have f2 := repr_int (show RepR X.K W1 W2 v2 (.val (.int j)) from (int?_some (r := y) hj) ▸ p2)
    subst f1 f2
    exact ⟨i, j, rfl, ⟨hr.1.1, hr.1.2, hr.2.1, hr.2.2⟩, q W2 _ (e1.trans e2) r2 (it_rng i _)⟩
  · cases ev

theorem still_of {K : PySem.W.Frag} {W W' : Wd} {S S' : Sto} {ρ : Env} {σ : St} {H : Hp} {v : V} {x : Rt} {ds : List D} (a : At K W S ρ σ H) (e : Ext W W') (r : Rel K W' S') (h : RepR K W W' v x) {z : Bool} (hv : still z x = some ds) :
    ∃ p vs, v = .ref p ∧ RepL K W' ds vs ∧ ((SqL K W'.H p vs ∧ ∀ W2, Step (OO z σ ρ) W' W2 → SqL K W2.H p vs) ∨ (SqT K W'.H p vs ∧ ∀ W2, Step (OO z σ ρ) W' W2 → SqT K W2.H p vs)) := by
  have ok' : OOk (OO z σ ρ) W' := fun p h => (a.ext e r).own p h.2
  cases x with
  | bor ds' =>
    cases z with
    | false => cases hv
    | true =>
      cases hv
      obtain ⟨p, vs, e1, e2, e3, e5⟩ := h
      exact ⟨p, vs, e1, e5, .inl ⟨.inl (.inl e2), fun W2 st => .inl (.inl (st.keep p _ e2 e3 fun y => nomatch y.1))⟩⟩
  | ownd _ _ => cases hv
  | own ds' =>
    cases hv
    obtain ⟨p, vs, e1, e2, e3, e4, e0, e5⟩ := h
    refine ⟨p, vs, e1, e5, .inl ⟨.inl (.inl e2), fun W2 st => .inl (.inl (st.keep p _ e2 e3 fun z => ?_))⟩⟩
    obtain ⟨_, ws, q⟩ := a.own p z.2
    rw [e0] at q; cases q
  | val d =>
    have h : Rep K W' d v := h
    cases d with
    | lst ds' =>
      cases hv
      unfold Rep at h
      obtain ⟨p, vs, e1, e2, e3, e4⟩ := h
      exact ⟨p, vs, e1, e4, .inl ⟨.inl (.inl e3), fun W2 st => .inl (.inl (st.keep p _ e3 (r.apart p e2) fun z => (ok' p z).1 e2))⟩⟩
    | scr ds' =>
      cases hv
      unfold Rep at h
      obtain ⟨p, vs, e1, e3, e4⟩ := h
      exact ⟨p, vs, e1, e4, .inl ⟨e3.imp (fun z => z.2) id, fun W2 st => e3.imp (fun z => st.rd z.2 (r.apart p z.1) fun y => (ok' p y).1 z.1) id⟩⟩
    | tup ds' =>
      cases hv
      unfold Rep at h
      obtain ⟨p, vs, e1, e3, e4⟩ := h
      exact ⟨p, vs, e1, e4, .inr ⟨e3, fun W2 st => Step.sqT r ok' st e3⟩⟩
    | ref l => cases hv
    | dct _ _ => cases hv
    | non => cases hv
    | bl _ => cases hv
    | int _ => cases hv
    | str _ => cases hv
theorem RepL.none_of {K : PySem.W.Frag} {W : Wd} {ds : List D} {vs : List V} (h : RepL K W ds vs) : vs.length = ds.length := h.length

theorem pi_seq {te : TE} (h : PE X e te) : PI X tg e (fun σ H R => te σ H fun x H1 => (∃ a, x = .ref a ∧ (∃ xs, SqL X.K H1 a xs) ∧ R (Itl X.K a) H1) ∨ ∃ a, x = .ref a ∧ (∃ xs, SqT X.K H1 a xs) ∧ R (Itt X.K a) H1) := by
  refine ⟨fun pins s σ H R I hq => ?_⟩
  refine thn (h.run pins s σ H _ I hq) fun v s1 ⟨x, H1, I1, r1, q1⟩ => ?_
  have new : ∀ b, b ∈ [s1.heap.objs.size] → FpOk X pins H1 b := fun b hb => by
    rw [List.mem_singleton] at hb
    subst hb
    exact I1.fpOk (Nat.le_refl _) (I1.hok.fresh (Nat.le_refl _))
  rcases q1 with ⟨a, rfl, ⟨xs, hx⟩, q⟩ | ⟨a, rfl, ⟨xs, hx⟩, q⟩
  · cases r1
    obtain ⟨us, _, pl, _⟩ := I1.list hx
    refine wpAny_pyIter_list pl.isList ⟨s1.heap.objs.size, [s1.heap.objs.size], _, _, H1, rfl, ?_, turn_list a _, ?_, new, q⟩
    · exact I1.kept (t' := s1.toks) fun b o z => Heap.get?_push_of_some _ z
    · exact ⟨_, Heap.get?_push_size _ rfl, rfl, rfl⟩
  · cases r1
    obtain ⟨us, _, pl, _⟩ := I1.tuple hx
    refine wpAny_pyIter_tuple (show s1.heap.IsTuple a us.toArray from pl) ⟨s1.heap.objs.size, [s1.heap.objs.size], _, _, H1, rfl, ?_, turn_tuple a _, ?_, new, q⟩
    · exact I1.kept (t' := s1.toks) fun b o z => Heap.get?_push_of_some _ z
    · exact ⟨_, Heap.get?_push_size _ rfl, rfl, rfl⟩
theorem it_list {K : PySem.W.Frag} {O : Addr → Prop} {W : Wd} {S : Sto} {p : Addr} {ds : List D} {vs : List V} (r : Rel K W S) (ok : OOk O W) (l : RepL K W ds vs) (hs : ∀ W2, Step O W W2 → SqL K W2.H p vs) : ItOk K O W (Itl K p) ds := fun W2 S2 st r2 => by
  have q := hs W2 st
  refine ⟨fun i d hd => ?_, vs, q, by rw [l.length]; exact Nat.le_refl _⟩
  obtain ⟨w, hw, rp⟩ := l.get hd
  refine ⟨⟨vs, w, q, hw⟩, fun x H' ⟨h1, h2⟩ => ⟨W2, h1.symm, Ext.refl W2, r2, ?_⟩⟩
  have e := h2 vs q
  rw [hw] at e; cases e
  exact Rep.step r ok st d w rp
theorem it_tup {K : PySem.W.Frag} {O : Addr → Prop} {W : Wd} {S : Sto} {p : Addr} {ds : List D} {vs : List V} (r : Rel K W S) (ok : OOk O W) (l : RepL K W ds vs) (hs : ∀ W2, Step O W W2 → SqT K W2.H p vs) : ItOk K O W (Itt K p) ds := fun W2 S2 st r2 => by
  have q := hs W2 st
  refine ⟨fun i d hd => ?_, vs, q, by rw [l.length]; exact Nat.le_refl _⟩
  obtain ⟨w, hw, rp⟩ := l.get hd
  refine ⟨⟨vs, w, q, hw⟩, fun x H' ⟨h1, h2⟩ => ⟨W2, h1.symm, Ext.refl W2, r2, ?_⟩⟩
  have e := h2 vs q
  rw [hw] at e; cases e
  exact Rep.step r ok st d w rp
theorem enmL_get : ∀ (ds : List D) (lo i : Nat), (enmL lo ds)[i]? = (ds[i]?).map fun d => .tup [.int ((lo + i : Nat) : Int), d]
  | [], lo, i => by simp [enmL]
  | d :: ds, lo, 0 => by simp [enmL]
  | d :: ds, lo, i + 1 => by
    show (enmL (lo + 1) ds)[i]? = _
    rw [enmL_get ds (lo + 1) i, List.getElem?_cons_succ, Nat.add_right_comm, Nat.add_assoc]
theorem enmL_len : ∀ (ds : List D) (lo : Nat), (enmL lo ds).length = ds.length
  | [], _ => rfl
  | d :: ds, lo => by show (enmL (lo + 1) ds).length + 1 = _; rw [enmL_len ds]; rfl
theorem stillK {K : PySem.W.Frag} {W W' : Wd} {S S' : Sto} {ρ : Env} {σ : St} {H : Hp} {v : V} {x : Rt} {ds : List D} (a : At K W S ρ σ H) (e : Ext W W') (r : Rel K W' S') (h : RepR K W W' v x) {z : Bool} (hv : still z x = some ds) :
    ∃ p vs k, v = .ref p ∧ RepL K W' ds vs ∧ Kd.Hq k K W'.H p vs ∧ ∀ W2, Step (OO z σ ρ) W' W2 → Kd.Hq k K W2.H p vs := by
  obtain ⟨p, vs, e1, l, q | q⟩ := still_of a e r h hv
  · exact ⟨p, vs, .l, e1, l, q.1, q.2⟩
  · exact ⟨p, vs, .t, e1, l, q.1, q.2⟩
theorem it_enm {K : PySem.W.Frag} {O : Addr → Prop} {W : Wd} {S : Sto} {p : Addr} {ds : List D} {vs : List V} {k : Kd} (r : Rel K W S) (ok : OOk O W) (l : RepL K W ds vs) (hs : ∀ W2, Step O W W2 → k.Hq K W2.H p vs) : ItOk K O W (IteK k K p) (enmL 0 ds) := fun W2 S2 st r2 => by
  have q := hs W2 st
  refine ⟨fun i d hd => ?_, vs, q, by rw [l.length, enmL_len]; exact Nat.le_refl _⟩
  rw [enmL_get] at hd
  obtain ⟨d', hd', rfl⟩ := map_some hd
  obtain ⟨w, hw, rp⟩ := l.get hd'
  refine ⟨⟨vs, w, q, hw⟩, fun x H' ⟨T, y, h1, hT, h3, h2⟩ => ?_⟩
  have e := h2 vs q
  rw [hw] at e; cases e
  have rp2 := Rep.step r ok st d' w rp
  refine ⟨⟨W2.ms, W2.fz, upd W2.H T (.tup [.int (i : Nat), w])⟩, h3.symm, Ext.laid hT, r2.laid hT, ?_⟩
  rw [h1]
  refine Rep.laidT r2 hT (.cons ?_ (.cons rp2 .nil))
  unfold Rep; rw [Nat.zero_add]
theorem zipL_get : ∀ (xs ys : List D) (i : Nat) (d : D), (zipL xs ys)[i]? = some d → ∃ x y, xs[i]? = some x ∧ ys[i]? = some y ∧ d = .tup [x, y]
  | [], ys, i, d, h => by simp [zipL] at h
  | x :: xs, [], i, d, h => by simp [zipL] at h
  | x :: xs, y :: ys, 0, d, h => by simp [zipL] at h; exact ⟨x, y, rfl, rfl, h.symm⟩
  | x :: xs, y :: ys, i + 1, d, h => zipL_get xs ys i d (by simpa [zipL] using h)
theorem zipL_len : ∀ (xs ys : List D), xs.length ≤ (zipL xs ys).length ∨ ys.length ≤ (zipL xs ys).length
  | [], ys => .inl (Nat.zero_le _)
  | x :: xs, [] => .inr (Nat.zero_le _)
  | x :: xs, y :: ys => (zipL_len xs ys).imp (fun h => by simpa [zipL] using h) fun h => by simpa [zipL] using h
theorem it_zip {K : PySem.W.Frag} {O : Addr → Prop} {W : Wd} {S : Sto} {p q : Addr} {xs ys : List D} {vs ws : List V} {k m : Kd} (r : Rel K W S) (ok : OOk O W) (l : RepL K W xs vs) (hs : ∀ W2, Step O W W2 → k.Hq K W2.H p vs) (l' : RepL K W ys ws) (hs' : ∀ W2, Step O W W2 → m.Hq K W2.H q ws) : ItOk K O W (ItzK k m K p q) (zipL xs ys) := fun W2 S2 st r2 => by
  have h1 := hs W2 st
  have h2 := hs' W2 st
  refine ⟨fun i d hd => ?_, vs, ws, h1, h2, by rw [l.length, l'.length]; exact zipL_len xs ys⟩
  obtain ⟨x, y, hx, hy, rfl⟩ := zipL_get xs ys i d hd
  obtain ⟨v, hv, rx⟩ := l.get hx
  obtain ⟨w, hw, ry⟩ := l'.get hy
  refine ⟨⟨vs, ws, v, w, h1, h2, hv, hw⟩, fun z H' ⟨T, x', y', f1, hT, f3, f4, f5⟩ => ?_⟩
  have e1 := f4 vs h1
  have e2 := f5 ws h2
  rw [hv] at e1; cases e1
  rw [hw] at e2; cases e2
  refine ⟨⟨W2.ms, W2.fz, upd W2.H T (.tup [v, w])⟩, f3.symm, Ext.laid hT, r2.laid hT, ?_⟩
  rw [f1]
  exact Rep.laidT r2 hT (.cons (Rep.step r ok st x v rx) (.cons (Rep.step r ok st y w ry) .nil))
theorem di_enm {z : Bool} {m : ME} {elts : List Expr} {kk : Nat} {tpos : Pos} (hg : Gl X "enumerate") (hm : X.mg "enumerate" = none) (hs : starEach [e] X.env = [(false, eval e X.env)]) (h : DE X Φ G e m) : DI X Φ G z (.Tuple elts kk tpos) (.Call (.Name "enumerate" p) [e] [] pos) (.enm m) := by
  refine PI.imp (pi_enumK hg hm (pa_cons h pa_nil hs) hs) fun σ H R h => ?_
  obtain ⟨W, S, ρ, a, ds, S', ev, q⟩ := h
  rw [evI] at ev
  obtain ⟨⟨x, S1⟩, ev1, ev⟩ := Mi.bind_some ev
  obtain ⟨ds', hv, ev⟩ := Mi.bind_some ev
  cases ev
  refine ⟨W, S, ρ, a, x, _, ev1, fun W1 v1 e1 r1 p1 => ?_⟩
  obtain ⟨p, vs, k, rfl, l, h0, hs⟩ := stillK a e1 r1 p1 hv
  exact ⟨p, vs, k, rfl, h0, q W1 _ e1 r1 (it_enm r1 (fun p h => (a.ext e1 r1).own p h.2) l hs)⟩
theorem di_zip {z : Bool} {m1 m2 : ME} {elts : List Expr} {kk : Nat} {tpos : Pos} (hg : Gl X "zip") (hm : X.mg "zip" = none) (hs : starEach [e1, e2] X.env = (false, eval e1 X.env) :: starEach [e2] X.env) (hs2 : starEach [e2] X.env = [(false, eval e2 X.env)]) (hpl : (backTo pos (starEach [e2] X.env)).any (·.1) = false) (h1 : DE X Φ G e1 m1) (h2 : DE X Φ G e2 m2) :
    DI X Φ G z (.Tuple elts kk tpos) (.Call (.Name "zip" p) [e1, e2] [] pos) (.zip m1 m2) := by
  refine PI.imp (pi_zipK hg hm (pa_cons h1 (pa_cons h2 pa_nil hs2) hs) hs hpl) fun σ H R h => ?_
  obtain ⟨W, S, ρ, a, ds, S', ev, q⟩ := h
  rw [evI] at ev
  obtain ⟨⟨x, S1⟩, ev1, ev⟩ := Mi.bind_some ev
  obtain ⟨⟨y, S2⟩, ev2, ev⟩ := Mi.bind_some ev
  obtain ⟨xs, hx, ev⟩ := Mi.bind_some ev
  obtain ⟨ys, hy, ev⟩ := Mi.bind_some ev
  cases ev
  refine ⟨W, S, ρ, a, x, _, ev1, fun W1 v1 e1 r1 p1 => ⟨W1, S1, ρ, a.ext e1 r1, y, _, ev2, fun W2 v2 e2 r2 p2 => ?_⟩⟩
  obtain ⟨p, vs, k, rfl, l, h0, hs⟩ := stillK a (e1.trans e2) r2 (p1.ext r1 e2) hx
  obtain ⟨q', ws, m, rfl, l', h0', hs'⟩ := stillK (a.ext e1 r1) e2 r2 p2 hy
  exact ⟨p, q', vs, ws, k, m, rfl, h0, h0', q W2 _ (e1.trans e2) r2 (it_zip r2 (fun p h => (a.ext (e1.trans e2) r2).own p h.2) l hs l' hs')⟩
theorem di_seq {z : Bool} {m : ME} (h : DE X Φ G e m) : DI X Φ G z tg e (.seq m) := by
  refine PI.imp (pi_seq h) fun σ H R h => ?_
  obtain ⟨W, S, ρ, a, ds, S', ev, q⟩ := h
  rw [evI] at ev
  obtain ⟨⟨x, S1⟩, ev1, ev⟩ := Mi.bind_some ev
  obtain ⟨ds', hv, ev⟩ := Mi.bind_some ev
  cases ev
  refine ⟨W, S, ρ, a, x, _, ev1, fun W1 v1 e1 r1 p1 => ?_⟩
  obtain ⟨p, vs, rfl, l, hs⟩ := still_of a e1 r1 p1 hv
  rcases hs with ⟨h0, hs⟩ | ⟨h0, hs⟩
  · exact .inl ⟨p, rfl, ⟨vs, h0⟩, q W1 _ e1 r1 (it_list r1 (fun p h => (a.ext e1 r1).own p h.2) l hs)⟩
  · exact .inr ⟨p, rfl, ⟨vs, h0⟩, q W1 _ e1 r1 (it_tup r1 (fun p h => (a.ext e1 r1).own p h.2) l hs)⟩


def spF (K : PySem.W.Frag) (Φ : Fns) (f : Nat) : Sp := fun vs H Q _ => ∃ W S ds, W.H = H ∧ Rel K W S ∧ RepL K W ds vs ∧ ∃ r S', Φ f ds S = some (r, S') ∧ ∀ W' v, Ext W W' → Rel K W' S' → RepR K W W' v r → Q v W'.H
theorem de_call {f : Nat} {fa : Addr} {fd : FuncData} {k : Nat} {ps : List Str} {x : Str} {es : List Expr} {ms : MEs} (F : FnG X.prog X.w X.K X.mg X.base k fa fd ps (spF X.K Φ f)) (hA : X.A.guards = some []) (hr : Room k X.A) (hg : Gl X x) (hm : X.mg x = some (.ref fa)) (hk : PySem.W.keepIn X.K (.ref fa) = true) (hb : Binds X.K fd ps [])
    (hdb : (x == ("__debug__" : Str)) = false) (he : starEach (e :: es) X.env = (false, eval e X.env) :: starEach es X.env) (hpl : (backTo pos (starEach es X.env)).any (·.1) = false) (h : DAs X Φ G (e :: es) ms) : DE X Φ G (.Call (.Name x p) (e :: es) [] pos) (.call f ms) := by
  refine PE.imp (pe_callG F hA hr hg hm hk hb h hdb he hpl) fun σ H Q h => ?_
  obtain ⟨W, S, ρ, a, r, S', ev, q⟩ := h
  rw [evR] at ev
  obtain ⟨⟨ds, S1⟩, ev1, ev⟩ := Mi.bind_some ev
  refine ⟨W, S, ρ, a, ds, S1, ev1, fun W1 vs e1 r1 p1 => ?_⟩
  show spF X.K Φ f (vs ++ []) W1.H Q E0
  rw [List.append_nil]
  exact ⟨W1, S1, ds, rfl, r1, p1, r, S', ev, fun W2 v e2 r2 p2 => q W2 v (e1.trans e2) r2 (p2.back e1)⟩
mutual
theorem Rep.bare {K : PySem.W.Frag} {W : Wd} : ∀ (d : D) (v : V), Rep K W d v → noRef d = true → Rep K ⟨[], W.fz, W.H⟩ d v
  | .non, v, h, n => by unfold Rep at h ⊢; exact h
  | .bl b, v, h, n => by unfold Rep at h ⊢; exact h
  | .int i, v, h, n => by unfold Rep at h ⊢; exact h
  | .str x, v, h, n => by unfold Rep at h ⊢; exact h
  | .tup ds, v, h, n => by
    unfold Rep at h ⊢
    obtain ⟨a, vs, e, h1, h2⟩ := h
    exact ⟨a, vs, e, h1, RepL.bare ds vs h2 (by unfold noRef at n; exact n)⟩
  | .lst ds, v, h, n => by
    unfold Rep at h ⊢
    obtain ⟨a, vs, e, h1, h2, h3⟩ := h
    exact ⟨a, vs, e, h1, h2, RepL.bare ds vs h3 (by unfold noRef at n; exact n)⟩
  | .scr ds, v, h, n => by
    unfold Rep at h ⊢
    obtain ⟨a, vs, e, h1, h2⟩ := h
    exact ⟨a, vs, e, h1, RepL.bare ds vs h2 (by unfold noRef at n; exact n)⟩
  | .ref l, v, h, n => by unfold noRef at n; cases n
  | .dct ks ds, v, h, n => by
    unfold Rep at h ⊢
    obtain ⟨a, vs, e, h1, h2, h3, h4⟩ := h
    exact ⟨a, vs, e, h1, h2, h3, RepL.bare ds vs h4 (by unfold noRef at n; exact n)⟩
theorem RepL.bare {K : PySem.W.Frag} {W : Wd} : ∀ (ds : List D) (vs : List V), RepL K W ds vs → noRefs ds = true → RepL K ⟨[], W.fz, W.H⟩ ds vs
  | [], vs, h, n => by unfold RepL at h ⊢; exact h
  | d :: ds, vs, h, n => by
    unfold noRefs at n
    rw [Bool.and_eq_true] at n
    unfold RepL at h ⊢
    obtain ⟨v, r, e, h1, h2⟩ := h
    exact ⟨v, r, e, Rep.bare d v h1 n.1, RepL.bare ds r h2 n.2⟩
end
theorem RepL.mores {K : PySem.W.Frag} {W : Wd} {ds : List D} {vs : List V} (h : RepL K W ds vs) : ∀ ps : List Addr, RepL K ⟨W.ms, ps ++ W.fz, W.H⟩ ds vs
  | [] => h
  | p :: ps => RepL.more (W := ⟨W.ms, ps ++ W.fz, W.H⟩) ds vs (RepL.mores h ps)
theorem Rep.mores {K : PySem.W.Frag} {W : Wd} {d : D} {v : V} (h : Rep K W d v) : ∀ ps : List Addr, Rep K ⟨W.ms, ps ++ W.fz, W.H⟩ d v
  | [] => h
  | p :: ps => Rep.more (W := ⟨W.ms, ps ++ W.fz, W.H⟩) d v (Rep.mores h ps)
theorem RepRs.lent {K : PySem.W.Frag} {W0 W : Wd} : ∀ {vs : List V} {rs : List Rt} {ds : List D}, RepRs K W0 W vs rs → lends rs = some ds → ∃ ps : List Addr, (∀ p, p ∈ ps → W.H p ≠ none) ∧ RepL K ⟨W.ms, ps ++ W.fz, W.H⟩ ds vs
  | vs, [], ds, h, e => by
    cases e
    unfold RepRs at h
    subst h
    exact ⟨[], fun _ z => (nomatch z), .nil⟩
  | vs, r :: rs, ds, h, e => by
    unfold RepRs at h
    obtain ⟨v, us, rfl, h1, h2⟩ := h
    unfold lends at e
    obtain ⟨d, hd, e⟩ := Mi.bind_some e
    obtain ⟨es, he, e⟩ := map_some e
    subst e
    obtain ⟨ps, hp, hl⟩ := RepRs.lent h2 he
    cases r with
    | val d' => cases hd; exact ⟨ps, hp, .cons (Rep.mores h1 ps) hl⟩
    | ownd _ _ => cases hd
    | own xs =>
      cases hd
      obtain ⟨p, ws, rfl, e2, e3, e4, e0, e5⟩ := h1
      refine ⟨p :: ps, fun q hq => ?_, .cons ?_ (RepL.more (W := ⟨W.ms, ps ++ W.fz, W.H⟩) _ _ hl)⟩
      · rcases List.mem_cons.mp hq with rfl | hq
        · rw [e2]; simp
        · exact hp q hq
      · unfold Rep
        exact ⟨p, ws, rfl, List.mem_cons_self, e2, RepL.mores e5 (p :: ps)⟩
    | bor xs =>
      cases hd
      obtain ⟨p, ws, rfl, e2, e3, e5⟩ := h1
      refine ⟨p :: ps, fun q hq => ?_, .cons ?_ (RepL.more (W := ⟨W.ms, ps ++ W.fz, W.H⟩) _ _ hl)⟩
      · rcases List.mem_cons.mp hq with rfl | hq
        · rw [e2]; simp
        · exact hp q hq
      · unfold Rep
        exact ⟨p, ws, rfl, List.mem_cons_self, e2, RepL.mores e5 (p :: ps)⟩

theorem de_callp {f : Nat} {fa : Addr} {fd : FuncData} {k : Nat} {ps : List Str} {x : Str} {es : List Expr} {ms : MEs} (F : FnG X.prog X.w X.K X.mg X.base k fa fd ps (spF X.K Φ f)) (hA : X.A.guards = some []) (hr : Room k X.A) (hg : Gl X x) (hm : X.mg x = some (.ref fa)) (hk : PySem.W.keepIn X.K (.ref fa) = true) (hb : Binds X.K fd ps [])
    (hdb : (x == ("__debug__" : Str)) = false) (he : starEach (e :: es) X.env = (false, eval e X.env) :: starEach es X.env) (hpl : (backTo pos (starEach es X.env)).any (·.1) = false) (h : DRs X Φ G (e :: es) ms) : DE X Φ G (.Call (.Name x p) (e :: es) [] pos) (.callp f ms) := by
  refine PE.imp (pe_callG F hA hr hg hm hk hb h hdb he hpl) fun σ H Q h => ?_
  obtain ⟨W, S, ρ, a, r, S', ev, q⟩ := h
  rw [evR] at ev
  obtain ⟨⟨rs, S1⟩, ev1, ev⟩ := Mi.bind_some ev
  obtain ⟨ds, hds, ev⟩ := Mi.bind_some ev
  split at ev
  · rename_i hn
    obtain ⟨⟨z, S2⟩, ev2, ev⟩ := Mi.bind_some ev
    obtain ⟨d, hd, ev⟩ := Mi.bind_some ev
    split at ev
    · rename_i hf
      cases ev
      have hz : z = .val d := by
        cases z with
        | val d' => cases hd; rfl
        | own _ => cases hd
        | bor _ => cases hd
        | ownd _ _ => cases hd
      subst hz
      refine ⟨W, S, ρ, a, rs, _, ev1, fun W1 vs e1 r1 p1 => ?_⟩
      show spF X.K Φ f (vs ++ []) W1.H Q E0
      rw [List.append_nil]
      obtain ⟨ps, hp, rl⟩ := RepRs.lent p1 hds
      refine ⟨⟨[], ps ++ W1.fz, W1.H⟩, [], ds, rfl, ⟨rfl, List.nodup_nil, (fun l c h => by cases h), fun a _ => List.not_mem_nil, fun a h => ?_⟩, RepL.bare ds vs rl hn, _, S2, ev2, fun W2 v e2 r2 p2 => ?_⟩
      · rcases h with h | h
        · cases h
        · rcases List.mem_append.mp h with h | h
          · exact hp a h
          · exact r1.dom a (.inr h)
      have p2 : Rep X.K W2 d v := p2
      have kp : ∀ a o, W1.H a = some o → W2.H a = some o := fun a o h => e2.keep a o h List.not_mem_nil
      have e3 : Ext W1 ⟨W1.ms, W1.fz, W2.H⟩ := ⟨⟨[], by simp⟩, fun _ h => h, fun a o h _ => kp a o h, e2.dom, fun _ h => .inl h, fun _ h => .inl h⟩
      have r3 : Rel X.K ⟨W1.ms, W1.fz, W2.H⟩ S1 := ⟨r1.len, r1.nd, fun l c h => by
        obtain ⟨a, h1, h2⟩ := r1.cell l c h
        exact ⟨a, h1, h2.imp (fun o h => kp a o h) (RepL.ext r1 e3)⟩, r1.apart, fun a h => e2.dom a (r1.dom a h)⟩
      refine q ⟨W1.ms, W1.fz, W2.H⟩ v (e1.trans e3) r3 ?_
      show Rep X.K _ d v
      cases d with
      | non => unfold Rep at p2 ⊢; exact p2
      | bl _ => unfold Rep at p2 ⊢; exact p2
      | int _ => unfold Rep at p2 ⊢; exact p2
      | str _ => unfold Rep at p2 ⊢; exact p2
      | tup _ => cases hf
      | lst _ => cases hf
      | scr _ => cases hf
      | ref _ => cases hf
      | dct _ _ => cases hf
    · cases ev
  · cases ev
theorem de_bi {b : BI} {id x : Str} {nm : String} {es : List Expr} {ms : MEs} (hc : CallR X (.builtin nm) (rBi X.K b)) (hg : Gl X x) (hm : X.mg x = none) (hv : bootBuiltins x = some (.builtin nm)) (hn : x ≠ "__name__") (hdb : (x == ("__debug__" : Str)) = false)
    (he : starEach (e :: es) X.env = (false, eval e X.env) :: starEach es X.env) (hpl : (backTo pos (starEach es X.env)).any (·.1) = false) (h : DRs X Φ G (e :: es) ms) : DE X Φ G (.Call (.Name x p) (e :: es) [] pos) (.bi b ms) := by
  refine PE.imp (pe_callB hc hg hm hv h hn hdb he hpl) fun σ H Q h => ?_
  obtain ⟨W, S, ρ, a, r, S', ev, q⟩ := h
  rw [evR] at ev
  obtain ⟨⟨rs, S1⟩, ev1, ev⟩ := Mi.bind_some ev
  obtain ⟨z, hz, ev⟩ := map_some ev
  cases ev
  refine ⟨W, S, ρ, a, rs, _, ev1, fun W1 vs e1 r1 p1 => ?_⟩
  exact ⟨W, W1, _, rs, _, rfl, r1, p1, hz, fun W2 v e2 r2 p2 => q W2 v (e1.trans e2) r2 (p2.back e1)⟩
theorem de_biT {b : BI} {id x : Str} {nm : String} {es : List Expr} {ms : MEs} (hc : CallR X (.type nm) (rBi X.K b)) (hg : Gl X x) (hm : X.mg x = none) (hv : bootBuiltins x = some (.type nm)) (hn : x ≠ "__name__") (hdb : (x == ("__debug__" : Str)) = false)
    (he : starEach (e :: es) X.env = (false, eval e X.env) :: starEach es X.env) (hpl : (backTo pos (starEach es X.env)).any (·.1) = false) (h : DRs X Φ G (e :: es) ms) : DE X Φ G (.Call (.Name x p) (e :: es) [] pos) (.bi b ms) := by
  refine PE.imp (pe_callTy hc hg hm hv h hn hdb he hpl) fun σ H Q h => ?_
  obtain ⟨W, S, ρ, a, r, S', ev, q⟩ := h
  rw [evR] at ev
  obtain ⟨⟨rs, S1⟩, ev1, ev⟩ := Mi.bind_some ev
  obtain ⟨z, hz, ev⟩ := map_some ev
  cases ev
  refine ⟨W, S, ρ, a, rs, _, ev1, fun W1 vs e1 r1 p1 => ?_⟩
  exact ⟨W, W1, _, rs, _, rfl, r1, p1, hz, fun W2 v e2 r2 p2 => q W2 v (e1.trans e2) r2 (p2.back e1)⟩

theorem de_isi1 {t : Ty} {m : ME} (hg : Gl X "isinstance") (hm : X.mg "isinstance" = none) (he : starEach [e, e2] X.env = (false, eval e X.env) :: starEach [e2] X.env) (he2 : starEach [e2] X.env = (false, eval e2 X.env) :: starEach [] X.env) (hpl : (backTo pos (starEach [e2] X.env)).any (·.1) = false)
    (h : DE X Φ G e m) (h2 : PE X e2 (tC (.ty (tyN t)))) : DE X Φ G (.Call (.Name "isinstance" p) [e, e2] [] pos) (.bi (.isi1 t) (.cons m .nil)) := by
  refine PE.imp (pe_callB (bi_isi1 t) hg hm (by decide +kernel) (pa_cons h (pa_cons h2 pa_nil he2) he) (by decide) (by decide) he hpl) fun σ H Q h => ?_
  obtain ⟨W, S, ρ, a, r, S', ev, q⟩ := h
  rw [evR] at ev
  obtain ⟨⟨rs, S1⟩, ev1, ev⟩ := Mi.bind_some ev
  obtain ⟨z, hz, ev⟩ := map_some ev
  cases ev
  rw [evRs] at ev1
  obtain ⟨⟨x, S1⟩, ev3, ev2⟩ := Mi.bind_some ev1
  rw [evRs] at ev2
  cases ev2
  change (if refD _ x = true then none else some (Rt.val (.bl (tyR x t)))) = some _ at hz
  split at hz
  · cases hz
  rename_i hd
  cases hz
  refine ⟨W, S, ρ, a, x, _, ev3, fun W1 v e1 r1 p1 => ?_⟩
  exact ⟨W, W1, _, v, x, rfl, r1, rfl, p1, by simpa using hd, q W1 _ e1 r1 bl_repr⟩

theorem de_isi {ts : List Ty} {m : ME} (hg : Gl X "isinstance") (hm : X.mg "isinstance" = none) (he : starEach [e, e2] X.env = (false, eval e X.env) :: starEach [e2] X.env) (he2 : starEach [e2] X.env = (false, eval e2 X.env) :: starEach [] X.env) (hpl : (backTo pos (starEach [e2] X.env)).any (·.1) = false)
    (h : DE X Φ G e m) (h2 : PE X e2 (fun _ H Q => ∀ p, H p = none → Q (.ref p) (upd H p (.tup (ts.map fun t => .ty (tyN t)))))) : DE X Φ G (.Call (.Name "isinstance" p) [e, e2] [] pos) (.bi (.isi ts) (.cons m .nil)) := by
  refine PE.imp (pe_callB (bi_isi ts) hg hm (by decide +kernel) (pa_cons h (pa_cons h2 pa_nil he2) he) (by decide) (by decide) he hpl) fun σ H Q h => ?_
  obtain ⟨W, S, ρ, a, r, S', ev, q⟩ := h
  rw [evR] at ev
  obtain ⟨⟨rs, S1⟩, ev1, ev⟩ := Mi.bind_some ev
  obtain ⟨z, hz, ev⟩ := map_some ev
  cases ev
  rw [evRs] at ev1
  obtain ⟨⟨x, S1⟩, ev3, ev2⟩ := Mi.bind_some ev1
  rw [evRs] at ev2
  cases ev2
  change (if refD _ x = true then none else some (Rt.val (.bl (ts.any fun t => tyR x t)))) = some _ at hz
  split at hz
  · cases hz
  rename_i hd
  cases hz
  refine ⟨W, S, ρ, a, x, _, ev3, fun W1 v e1 r1 p1 p hp => ?_⟩
  have e2 : Ext W1 ⟨W1.ms, W1.fz, upd W1.H p (.tup (ts.map fun t => .ty (tyN t)))⟩ := Ext.laid hp
  exact ⟨W, ⟨W1.ms, W1.fz, _⟩, _, v, p, x, rfl, r1.laid hp, rfl, upd_same, p1.ext r1 e2, by simpa using hd, q ⟨W1.ms, W1.fz, _⟩ _ (e1.trans e2) (r1.laid hp) bl_repr⟩
end
end Mi
end
section
namespace Mi
open PySem PySem.Spec L2
mutual
def slotsT : MT → List Nat
  | .nm i => [i]
  | .sub _ _ => []
  | .tp ts => slotsTs ts
def slotsTs : MTs → List Nat
  | .nil => []
  | .cons t ts => slotsT t ++ slotsTs ts
end

def Apart (σ σ' : St) (is : List Nat) : Prop := σ'.length = σ.length ∧ ∀ j, j ∉ is → σ'[j]? = σ[j]?
theorem Apart.refl (σ : St) (is : List Nat) : Apart σ σ is := ⟨rfl, fun _ _ => rfl⟩
theorem Apart.trans {σ σ1 σ2 : St} {is js : List Nat} (a : Apart σ σ1 is) (b : Apart σ1 σ2 js) : Apart σ σ2 (is ++ js) :=
  ⟨b.1.trans a.1, fun j h => (b.2 j fun z => h (List.mem_append_right _ z)).trans (a.2 j fun z => h (List.mem_append_left _ z))⟩
section
variable (K : PySem.W.Frag) (Φ : Fns) (G : List D)

def Stored (W : Wd) (σ : St) (ρ : Env) (is : List Nat) (S' : Sto) (ρ' : Env) (Q : St → Hp → Prop) : Prop :=
  ∀ W' σ', Ext W W' → At K W' S' ρ' σ' W'.H → (∀ p, ownA σ' ρ' p → ownA σ ρ p) → Apart σ σ' is → Q σ' W'.H
def gT (t : MT) : TG := fun x σ H Q => ∃ W S ρ d, At K W S ρ σ H ∧ Rep K W d x ∧ ∃ ρ' S', sto Φ G t d ρ S = some (ρ', S') ∧ Stored K W σ ρ (slotsT t) S' ρ' Q
def gTs (ts : MTs) : TGs := fun xs σ H Q => ∃ W S ρ ds, At K W S ρ σ H ∧ RepL K W ds xs ∧ ∃ ρ' S', stos Φ G ts ds ρ S = some (ρ', S') ∧ Stored K W σ ρ (slotsTs ts) S' ρ' Q
end
section
variable {K : PySem.W.Frag} {W W' : Wd} {S S' : Sto} {ρ : Env} {σ : St} {H : Hp}
theorem SlotR.set {i : Nat} {d : D} {v : V} (h : SlotR K W σ ρ) (hi : i < ρ.length) (r : Rep K W d v) : SlotR K W (σ.set i (some v)) (ρ.set i (.val d)) := by
  have hiσ : i < σ.length := by rw [h.1]; exact hi
  have back : ∀ {j : Nat} {ds : List D}, (ρ.set i (.val d))[j]? = some (.own ds) → j ≠ i ∧ ρ[j]? = some (.own ds) := fun {j ds} e => by
    by_cases q : j = i
    · subst q; rw [List.getElem?_set_self hi] at e; cases e
    · rw [List.getElem?_set_ne (Ne.symm q)] at e; exact ⟨q, e⟩
  refine ⟨by rw [List.length_set, List.length_set]; exact h.1, fun j d' e => ?_, fun j ds e => ?_, fun j k ds es p e1 e2 e3 e4 => ?_⟩
  · by_cases q : j = i
    · subst q
      rw [List.getElem?_set_self hi] at e
      cases e
      exact ⟨v, List.getElem?_set_self hiσ, r⟩
    · rw [List.getElem?_set_ne (Ne.symm q)] at e
      obtain ⟨w, h1, h2⟩ := h.2.1 j d' e
      exact ⟨w, by rw [List.getElem?_set_ne (Ne.symm q)]; exact h1, h2⟩
  · obtain ⟨q, e⟩ := back e
    obtain ⟨p, vs, h1, h2⟩ := h.2.2.1 j ds e
    exact ⟨p, vs, by rw [List.getElem?_set_ne (Ne.symm q)]; exact h1, h2⟩
  · obtain ⟨q1, f1⟩ := back e1
    obtain ⟨q2, f2⟩ := back e2
    rw [List.getElem?_set_ne (Ne.symm q1)] at e3
    rw [List.getElem?_set_ne (Ne.symm q2)] at e4
    exact h.2.2.2 j k ds es p f1 f2 e3 e4
theorem own_set {i : Nat} {d : D} {v : V} {p : Addr} (hi : i < ρ.length) (h : ownA (σ.set i (some v)) (ρ.set i (.val d)) p) : ownA σ ρ p := by
  obtain ⟨j, ds, h1, h2⟩ := h
  by_cases q : j = i
  · subst q; rw [List.getElem?_set_self hi] at h1; cases h1
  · rw [List.getElem?_set_ne (Ne.symm q)] at h1 h2
    exact ⟨j, ds, h1, h2⟩

theorem Ext.put {l : Nat} {p : Addr} {o : HO} (r : Rel K W S) (h : W.ms[l]? = some p) : Ext W ⟨W.ms, W.fz, upd W.H p o⟩ := by
  have hp : p ∈ W.ms := List.mem_of_getElem? h
  refine ⟨⟨[], by simp⟩, fun _ z => z, fun a u e n => ?_, fun a z => ?_, fun _ z => .inl z, fun _ z => .inl z⟩
  · show upd W.H p o a = _
    rw [upd_ne (fun z => n (by rw [z]; exact hp))]; exact e
  · show upd W.H p o a ≠ none
    by_cases q : a = p
    · subst q; rw [upd_same]; simp
    · rw [upd_ne q]; exact z
theorem Rel.putC {l : Nat} {p : Addr} {o : HO} {c : Cell} (r : Rel K W S) (h : W.ms[l]? = some p) (hc : CellOk K ⟨W.ms, W.fz, upd W.H p o⟩ p c) : Rel K ⟨W.ms, W.fz, upd W.H p o⟩ (S.set l c) := by
  have e : Ext W ⟨W.ms, W.fz, upd W.H p o⟩ := Ext.put r h
  have hlt : l < S.length := by rw [← r.len]; exact (List.getElem?_eq_some_iff.mp h).1
  refine ⟨by rw [List.length_set]; exact r.len, r.nd, fun k c' q => ?_, r.apart, fun a ha => e.dom a (r.dom a ha)⟩
  by_cases hk : k = l
  · subst hk
    rw [List.getElem?_set_self hlt] at q
    cases q
    exact ⟨p, h, hc⟩
  · rw [List.getElem?_set_ne (Ne.symm hk)] at q
    obtain ⟨a, h1, ok⟩ := r.cell k c' q
    refine ⟨a, h1, ok.imp (fun o' h2 => ?_) (RepL.ext r e)⟩
    show upd W.H p o a = _
    rw [upd_ne ?_]
    · exact h2
    · intro z
      subst z
      obtain ⟨b1, c1⟩ := List.getElem?_eq_some_iff.mp h
      obtain ⟨b2, c2⟩ := List.getElem?_eq_some_iff.mp h1
      exact hk ((List.getElem_inj r.nd).mp (c2.trans c1.symm))
theorem Rel.put {l : Nat} {p : Addr} {ds : List D} {vs : List V} (r : Rel K W S) (h : W.ms[l]? = some p) (hl : RepL K W ds vs) : Rel K ⟨W.ms, W.fz, upd W.H p (.lst vs)⟩ (S.set l (.lst ds)) :=
  r.putC h ⟨vs, upd_same, RepL.ext r (Ext.put r h) ds vs hl⟩
theorem any_zip {q : Key} : ∀ {ks : List Key} {vs : List V}, ks.length = vs.length → ((ks.zip vs).any fun kv => decide (kv.1 = q)) = ks.any fun k => decide (k = q)
  | [], [], _ => rfl
  | [], _ :: _, e => by cases e
  | _ :: _, [], e => by cases e
  | k :: ks, v :: vs, h => by
    rw [List.zip_cons_cons, List.any_cons, any_zip (by simpa using h), List.any_cons]
theorem set_zip {q : Key} {d : D} {v : V} (hv : Rep K W d v) : ∀ {ks : List Key} {ds : List D} {vs : List V}, ks.length = ds.length → RepL K W ds vs → ∃ ws, (ks.zip vs).map (fun kv => if kv.1 = q then (kv.1, v) else kv) = ks.zip ws ∧ ks.length = (setD ks ds q d).length ∧ RepL K W (setD ks ds q d) ws
  | [], [], vs, _, h => by
    rw [h.nil_inv]
    exact ⟨[], rfl, rfl, .nil⟩
  | [], _ :: _, _, e, _ => by cases e
  | _ :: _, [], _, e, _ => by cases e
  | k :: ks, e :: ds, _, hl, h => by
    obtain ⟨w, r, rfl, h1, h2⟩ := h.cons_inv
    obtain ⟨ws, e1, e2, e3⟩ := set_zip hv (q := q) (show ks.length = ds.length by simpa using hl) h2
    rw [List.zip_cons_cons, List.map_cons, e1]
    by_cases hk : k = q
    · refine ⟨v :: ws, by rw [if_pos hk]; rfl, by rw [setD, List.length_cons, List.length_cons, ← e2], ?_⟩
      rw [setD, if_pos hk]; exact .cons hv e3
    · refine ⟨w :: ws, by rw [if_neg hk]; rfl, by rw [setD, List.length_cons, List.length_cons, ← e2], ?_⟩
      rw [setD, if_neg hk]; exact .cons h1 e3
theorem putK_zip {q : Key} {d : D} {v : V} (hv : Rep K W d v) {ks : List Key} {ds : List D} {vs : List V} (hl : ks.length = ds.length) (h : RepL K W ds vs) : ∃ ws, L2.putK (ks.zip vs) q v = (putD ks ds q d).1.zip ws ∧ (putD ks ds q d).1.length = (putD ks ds q d).2.length ∧ RepL K W (putD ks ds q d).2 ws := by
  have hlv : ks.length = vs.length := by rw [h.length]; exact hl
  unfold L2.putK putD
  rw [any_zip hlv]
  by_cases hq : (ks.any fun k => decide (k = q)) = true
  · rw [if_pos hq, if_pos hq]
    exact set_zip hv hl h
  · rw [if_neg hq, if_neg hq]
    refine ⟨vs ++ [v], ?_, by simp [hl], h.append (.cons hv .nil)⟩
    show ks.zip vs ++ [(q, v)] = (ks ++ [q]).zip (vs ++ [v])
    rw [List.zip_append hlv]; rfl
end
section
variable {X : Cx} {Φ : Fns} {G : List D} {e e1 e2 tg : Expr} {pos p : Pos}
theorem PG.imp {X : Cx} {tg : Expr} {t t' : TG} (h : PG X tg t) (i : ∀ x σ H Q, t' x σ H Q → t x σ H Q) : PG X tg t' := ⟨fun pins s σ H x u Q I r q => h.run pins s σ H x u Q I r (i x σ H Q q)⟩
theorem PGs.imp {X : Cx} {tg : List Expr} {t t' : TGs} (h : PGs X tg t) (i : ∀ x σ H Q, t' x σ H Q → t x σ H Q) : PGs X tg t' := ⟨fun pins s σ H x u Q I r q => h.run pins s σ H x u Q I r (i x σ H Q q)⟩
abbrev DG (X : Cx) (Φ : Fns) (G : List D) (e : Expr) (m : MT) : Prop := PG X e (gT X.K Φ G m)
abbrev DGs (X : Cx) (Φ : Fns) (G : List D) (e : List Expr) (m : MTs) : Prop := PGs X e (gTs X.K Φ G m)
theorem dg_nm {i : Nat} {x : Str} (hN : X.N.Nodup) (hi : X.N[i]? = some x) (hx : Loc X.env.scope x) (hf : X.fn x = true ∨ X.env.scope.names.lookup x = some .local) : DG X Φ G (.Name x pos) (.nm i) := by
  refine PG.imp (pg_name hN hi hx hf) fun v σ H Q h => ?_
  obtain ⟨W, S, ρ, d, a, r, ρ', S', ev, q⟩ := h
  rw [sto] at ev
  split at ev
  · rename_i hi
    cases ev
    have := q W (σ.set i (some v)) (Ext.refl W) ⟨rfl, a.rel, a.sl.set hi r⟩ (fun p => own_set hi) ⟨by rw [List.length_set], fun j hj => by
      rw [List.getElem?_set_ne]; intro z; exact hj (by rw [z]; exact List.mem_singleton.mpr rfl)⟩
    rw [a.1] at this; exact this
  · cases ev
theorem dg_nil : DGs X Φ G [] .nil := by
  refine PGs.imp pgs_nil fun vs σ H Q h => ?_
  obtain ⟨W, S, ρ, ds, a, r, ρ', S', ev, q⟩ := h
  cases ds with
  | cons _ _ => cases (show (none : Option (Env × Sto)) = some (ρ', S') from ev)
  | nil =>
    have ev : some (ρ, S) = some (ρ', S') := ev
    cases ev
    refine ⟨r.nil_inv, ?_⟩
    have := q W σ (Ext.refl W) ⟨rfl, a.rel, a.sl⟩ (fun _ z => z) (Apart.refl σ _)
    rw [a.1] at this; exact this
theorem dg_cons {es : List Expr} {t : MT} {ts : MTs} (h1 : DG X Φ G e t) (h2 : DGs X Φ G es ts) (hc : ∀ (t : TG) (u : TGs), PG X e t → PGs X es u → PGs X (e :: es) (gCons t u)) : DGs X Φ G (e :: es) (.cons t ts) := by
  refine PGs.imp (hc _ _ h1 h2) fun vs σ H Q h => ?_
  obtain ⟨W, S, ρ, ds, a, r, ρ', S', ev, q⟩ := h
  cases ds with
  | nil => cases (show (none : Option (Env × Sto)) = some (ρ', S') from ev)
  | cons d ds =>
    have ev : ((sto Φ G t d ρ S).bind fun p => stos Φ G ts ds p.1 p.2) = some (ρ', S') := ev
    obtain ⟨⟨ρ1, S1⟩, ev1, ev⟩ := Mi.bind_some ev
    obtain ⟨v, us, rfl, r1, r2⟩ := r.cons_inv
    refine ⟨v, us, rfl, W, S, ρ, d, a, r1, ρ1, S1, ev1, fun W1 σ1 e1 a1 o1 p1 => ?_⟩
    refine ⟨W1, S1, ρ1, ds, a1, RepL.ext a.rel e1 _ _ r2, ρ', S', ev, fun W2 σ2 e2 a2 o2 p2 => ?_⟩
    exact q W2 σ2 (e1.trans e2) a2 (fun p z => o1 p (o2 p z)) (p1.trans p2)
theorem dg_tup {es : List Expr} {k : Nat} {ts : MTs} (hc : ∀ t : TGs, PGs X es t → PG X (.Tuple es k pos) (gTup X.K es.length t)) (hl : ∀ ds ρ S ρ' S', stos Φ G ts ds ρ S = some (ρ', S') → ds.length = es.length) (h : DGs X Φ G es ts) : DG X Φ G (.Tuple es k pos) (.tp ts) := by
  refine PG.imp (hc _ h) fun v σ H Q h => ?_
  obtain ⟨W, S, ρ, d, a, r, ρ', S', ev, q⟩ := h
  cases d with
  | tup ds =>
    have ev : stos Φ G ts ds ρ S = some (ρ', S') := ev
    unfold Rep at r
    obtain ⟨p, vs, rfl, hs, l⟩ := r
    have hs' := hs
    rw [a.1] at hs'
    exact ⟨p, vs, rfl, hs', by rw [l.length]; exact hl _ _ _ _ _ ev, W, S, ρ, ds, a, l, ρ', S', ev, q⟩
  | _ => cases (show (none : Option (Env × Sto)) = some (ρ', S') from ev)
def rSetB : TSet := fun o i v H Q => rSetL o i v H Q ∨ rSetD o i v H Q
theorem set_both (hu : X.A.units + 1 < cLine) : PSet X rSetB := by
  intro pins s σ H o i v ov iv u Q I ro ri rv h
  rcases h with h | h
  · exact set_list pins s σ H o i v ov iv u Q I ro ri rv h
  · exact set_dict hu pins s σ H o i v ov iv u Q I ro ri rv h
theorem dg_sub {o i : Expr} {mo mi : ME} (hu : X.A.units + 1 < cLine) (hc : ∀ (to ti : TE) (t : TSet), PE X o to → PE X i ti → PSet X t → PG X (.Subscript o i pos) (gSub to ti t)) (ho : DE X Φ G o mo) (hi : DE X Φ G i mi) : DG X Φ G (.Subscript o i pos) (.sub mo mi) := by
  refine PG.imp (hc _ _ _ ho hi (set_both hu)) fun v σ H Q h => ?_
  obtain ⟨W, S, ρ, d, a, r, ρ', S', ev, q⟩ := h
  rw [sto] at ev
  obtain ⟨⟨x, S1⟩, ev1, ev⟩ := Mi.bind_some ev
  obtain ⟨⟨y, S2⟩, ev2, ev⟩ := Mi.bind_some ev
  refine ⟨W, S, ρ, a, x, S1, ev1, fun W1 v1 e1 r1 p1 => ?_⟩
  have a1 := a.ext e1 r1
  refine ⟨W1, S1, ρ, a1, y, S2, ev2, fun W2 v2 e2 r2 p2 => ?_⟩
  obtain ⟨l, hl, ev⟩ := Mi.bind_some ev
  obtain ⟨S3, hs, ev⟩ := map_some ev
  cases ev
  have hx : x = .val (.ref l) := ref?_some hl
  subst hx
  have p1' : Rep X.K W2 (.ref l) v1 := p1.ext r1 e2
  unfold Rep at p1'
  obtain ⟨ad, rfl, hms⟩ := p1'
  have rv : Rep X.K W2 d v := Rep.ext r1 e2 _ _ (Rep.ext a.rel e1 _ _ r)
  unfold setAt at hs
  split at hs
  · obtain ⟨k, hk, hs⟩ := Mi.bind_some hs
    unfold setDct at hs
    obtain ⟨⟨ks, ds⟩, hcell, hs⟩ := Mi.bind_some hs
    dsimp only at hs
    split at hs
    · rename_i hsz
      cases hs
      obtain ⟨b, vs, h1, h2, h0, h3⟩ := r2.celld l ks ds (cellD_some hcell)
      rw [hms] at h1; cases h1
      have g3 := key_repr p2 hk
      subst g3
      obtain ⟨ws, f1, f2, f3⟩ := putK_zip rv (q := k) h0 h3
      refine .inr ⟨ad, upd W2.H ad (.dK (L2.putK (ks.zip vs) k v)), rfl, DPut.k h2 (by rw [List.length_zip, h3.length, ← h0]; simpa using hsz), ?_⟩
      have e3 : Ext W2 ⟨W2.ms, W2.fz, upd W2.H ad (.dK (L2.putK (ks.zip vs) k v))⟩ := Ext.put r2 hms
      have r3 : Rel X.K ⟨W2.ms, W2.fz, upd W2.H ad (.dK (L2.putK (ks.zip vs) k v))⟩ (S2.set l (.dct (putD ks ds k d).1 (putD ks ds k d).2)) := r2.putC hms ⟨ws, by rw [← f1]; exact upd_same, f2, RepL.ext r2 e3 _ _ f3⟩
      exact q ⟨W2.ms, W2.fz, _⟩ σ ((e1.trans e2).trans e3) ((a1.ext e2 r2).ext e3 r3) (fun _ z => z) (Apart.refl σ _)
    · cases hs
  · obtain ⟨k, hk, hs⟩ := Mi.bind_some hs
    have hy : y = .val (.int k) := int?_some hk
    subst hy
    unfold setRef at hs
    obtain ⟨ds, hcell, hs⟩ := Mi.bind_some hs
    obtain ⟨j, hj, hs⟩ := map_some hs
    subst hs
    obtain ⟨b, vs, h1, h2, h3⟩ := r2.cells l ds (cellL_some hcell)
    rw [hms] at h1; cases h1
    refine .inl ⟨ad, vs, k, j, rfl, repr_int p2, h2, by rw [h3.length]; exact hj, ?_⟩
    have e3 : Ext W2 ⟨W2.ms, W2.fz, upd W2.H ad (.lst (vs.set j v))⟩ := Ext.put r2 hms
    have r3 := r2.put hms (h3.set rv j)
    exact q ⟨W2.ms, W2.fz, _⟩ σ ((e1.trans e2).trans e3) ((a1.ext e2 r2).ext e3 r3) (fun _ z => z) (Apart.refl σ _)

theorem Step.put {W : Wd} {p : Addr} {o : HO} : Step (fun a => a = p) W ⟨W.ms, W.fz, upd W.H p o⟩ := by
  refine ⟨⟨[], by simp⟩, fun _ z => z, fun a u e _ n => ?_, fun a z => ?_, fun _ z => .inl z, fun _ z => .inl z⟩
  · show upd W.H p o a = _
    rw [upd_ne n]; exact e
  · show upd W.H p o a ≠ none
    by_cases q : a = p
    · subst q; rw [upd_same]; simp
    · rw [upd_ne q]; exact z
theorem Rel.putO {K : PySem.W.Frag} {W : Wd} {S : Sto} {p : Addr} {vs : List V} {o : HO} (r : Rel K W S) (h1 : p ∉ W.ms) (h2 : p ∉ W.fz) (h3 : W.H p = some (.lst vs)) : Rel K ⟨W.ms, W.fz, upd W.H p o⟩ S := by
  have ok : OOk (fun a => a = p) W := fun a e => by subst e; exact ⟨h2, vs, h3⟩
  have st : Step (fun a => a = p) W ⟨W.ms, W.fz, upd W.H p o⟩ := Step.put
  refine ⟨r.len, r.nd, fun l c q => ?_, r.apart, fun a ha => st.dom a (r.dom a ha)⟩
  obtain ⟨a, e1, okc⟩ := r.cell l c q
  refine ⟨a, e1, okc.imp (fun o' e2 => ?_) (RepL.step r ok st)⟩
  show upd W.H p o a = _
  rw [upd_ne]
  · exact e2
  · intro z; subst z; exact h1 (List.mem_of_getElem? e1)
theorem Ext.at {W W' : Wd} {p : Addr} {o : HO} (e : Ext W W') (h : W.H p = none) : Ext W ⟨W'.ms, W'.fz, upd W'.H p o⟩ := by
  refine ⟨e.ms, e.fz, fun a u q n => ?_, fun a z => ?_, e.nms, e.nfz⟩
  · show upd W'.H p o a = _
    rw [upd_ne (ne_of_none q h)]; exact e.keep a u q n
  · show upd W'.H p o a ≠ none
    by_cases q : a = p
    · subst q; rw [upd_same]; simp
    · rw [upd_ne q]; exact e.dom a z

theorem wipe_get : ∀ {σ : St} {vs : List Nat} {j : Nat}, (wipe σ vs)[j]? = if j ∈ vs ∧ j < σ.length then some none else σ[j]?
  | σ, [], j => by simp [wipe]
  | σ, v :: vs, j => by
    unfold wipe
    by_cases q : v = j
    · subst q
      by_cases hv : v < σ.length
      · rw [List.getElem?_set_self (by rw [wipe_length]; exact hv), if_pos ⟨List.mem_cons_self, hv⟩]
      · rw [if_neg (fun z => hv z.2), List.getElem?_eq_none (by rw [List.length_set, wipe_length]; omega), List.getElem?_eq_none (by omega)]
    · rw [List.getElem?_set_ne q, wipe_get]
      have : (j ∈ v :: vs ∧ j < σ.length) ↔ (j ∈ vs ∧ j < σ.length) := by
        rw [List.mem_cons]; constructor
        · rintro ⟨h | h, h2⟩
          · exact absurd h.symm q
          · exact ⟨h, h2⟩
        · rintro ⟨h, h2⟩; exact ⟨.inr h, h2⟩
      by_cases c : j ∈ vs ∧ j < σ.length
      · rw [if_pos c, if_pos (this.mpr c)]
      · rw [if_neg c, if_neg (fun z => c (this.mp z))]
theorem wipe_eq {σ σ' : St} {vs is : List Nat} (h : Apart (wipe σ vs) σ' is) (hs : ∀ i ∈ is, i ∈ vs) : wipe σ' vs = wipe σ vs := by
  apply List.ext_getElem?
  intro j
  have hl : σ'.length = σ.length := h.1.trans (wipe_length σ vs)
  rw [wipe_get, wipe_get, hl]
  by_cases c : j ∈ vs ∧ j < σ.length
  · rw [if_pos c, if_pos c]
  · rw [if_neg c, if_neg c]
    by_cases m : j ∈ vs
    · have : ¬ j < σ.length := fun z => c ⟨m, z⟩
      rw [List.getElem?_eq_none (by omega), List.getElem?_eq_none (by omega)]
    · rw [h.2 j fun z => m (hs j z), wipe_get, if_neg c]
theorem wipeR_get : ∀ {ρ : Env} {vs : List Nat} {j : Nat} {x : Sl}, (wipeR ρ vs)[j]? = some x → x = .no ∨ (ρ[j]? = some x ∧ (j ∉ vs ∨ ρ.length ≤ j))
  | ρ, [], j, x, h => .inr ⟨h, .inl (by simp)⟩
  | ρ, v :: vs, j, x, h => by
    unfold wipeR at h
    by_cases q : v = j
    · subst q
      by_cases hv : v < (wipeR ρ vs).length
      · rw [List.getElem?_set_self hv] at h; cases h; exact .inl rfl
      · rw [List.getElem?_eq_none (by rw [List.length_set]; omega)] at h; cases h
    · rw [List.getElem?_set_ne q] at h
      rcases wipeR_get h with h | ⟨h, h2⟩
      · exact .inl h
      · refine .inr ⟨h, ?_⟩
        rcases h2 with h2 | h2
        · exact .inl fun z => (List.mem_cons.mp z).elim (fun e => q e.symm) h2
        · exact .inr h2
theorem wipeR_len : ∀ {ρ : Env} {vs : List Nat}, (wipeR ρ vs).length = ρ.length
  | ρ, [] => rfl
  | ρ, v :: vs => by unfold wipeR; rw [List.length_set, wipeR_len]
theorem SlotR.wipe {K : PySem.W.Frag} {W : Wd} {σ : St} {ρ : Env} {vs : List Nat} (h : SlotR K W σ ρ) : SlotR K W (wipe σ vs) (wipeR ρ vs) := by
  have back : ∀ {j : Nat} {x : Sl}, (wipeR ρ vs)[j]? = some x → x ≠ .no → ρ[j]? = some x ∧ (L2.wipe σ vs)[j]? = σ[j]? := fun {j x} e n => by
    rcases wipeR_get e with z | ⟨z, m⟩
    · exact absurd z n
    · refine ⟨z, ?_⟩
      rw [wipe_get, if_neg]
      rintro ⟨m1, m2⟩
      rcases m with m | m
      · exact m m1
      · rw [h.1] at m2; omega
  refine ⟨by rw [wipe_length, wipeR_len]; exact h.1, fun j d e => ?_, fun j ds e => ?_, fun j k ds es p e1 e2 e3 e4 => ?_⟩
  · obtain ⟨f, g⟩ := back e (by simp)
    rw [g]; exact h.2.1 j d f
  · obtain ⟨f, g⟩ := back e (by simp)
    rw [g]; exact h.2.2.1 j ds f
  · obtain ⟨f1, g1⟩ := back e1 (by simp)
    obtain ⟨f2, g2⟩ := back e2 (by simp)
    rw [g1] at e3; rw [g2] at e4
    exact h.2.2.2 j k ds es p f1 f2 e3 e4

def tC' (K : PySem.W.Frag) (Φ : Fns) (G : List D) (m : MO) : TT := fun σ H Q => ∃ W S ρ, At K W S ρ σ H ∧ ∃ b S', evC Φ G ρ m S = some (b, S') ∧ ∀ W', Ext W W' → Rel K W' S' → Q b W'.H
abbrev DC (X : Cx) (Φ : Fns) (G : List D) (e : List Expr) (m : MO) : Prop := PTs X e (tC' X.K Φ G m)
theorem PTs.imp {X : Cx} {e : List Expr} {t t' : TT} (h : PTs X e t) (i : ∀ σ H Q, t' σ H Q → t σ H Q) : PTs X e t' := ⟨fun pins s σ H Q I q => h.run pins s σ H Q I (i σ H Q q)⟩
theorem dc_no : DC X Φ G [] .no := by
  refine PTs.imp pts_nil fun σ H Q h => ?_
  obtain ⟨W, S, ρ, a, b, S', ev, q⟩ := h
  rw [evC] at ev
  cases ev
  have := q W (Ext.refl W) a.rel
  rw [a.1] at this; exact this
theorem dc_yes {m : ME} (h : DT X Φ G e m) : DC X Φ G [e] (.yes m) := by
  refine PTs.imp (pts_one h) fun σ H Q h => ?_
  obtain ⟨W, S, ρ, a, b, S', ev, q⟩ := h
  rw [evC] at ev
  obtain ⟨⟨x, S1⟩, ev1, ev⟩ := Mi.bind_some ev
  dsimp only at ev
  split at ev
  · cases ev
    exact ⟨W, S, ρ, a, _, _, ev1, q⟩
  · cases ev

theorem lc_imp {K : PySem.W.Frag} {own : List Nat} {t : MT} {it : MI} {c : MO} {m : ME} (ho : ∀ i ∈ slotsT t, i ∈ own) {σ : St} {H : Hp} {Q : VK} (h : tR K Φ G (.comp own t it c m) σ H Q) :
    tLc (tI K Φ G true it) (gT K Φ G t) (tC' K Φ G c) (tR K Φ G m) own σ H Q := by
  obtain ⟨W, S, ρ, a, r, S', ev, q⟩ := h
  rw [evR] at ev
  obtain ⟨⟨ds, S1⟩, ev1, ev⟩ := Mi.bind_some ev
  obtain ⟨⟨xs, S2⟩, ev2, ev⟩ := Mi.bind_some ev
  dsimp only at ev ev2
  split at ev
  · rename_i hz
    cases ev
    refine ⟨W, S, ρ, a, ds, S1, ev1, fun W1 J e1 r1 ok => ?_⟩
    intro D hD

    refine ⟨fun i mm H => mm = ds.length - i ∧ ∃ W2 S2 acc vs todo, W2.H = H ∧ Ext W1 W2 ∧ Rel K W2 S2 ∧ i ≤ ds.length ∧ W2.H D = some (.lst vs) ∧ D ∉ W2.ms ∧ D ∉ W2.fz ∧ RepL K W2 acc vs ∧ cmpL (fun d S => (sto Φ G t d (wipeR ρ own) S).bind fun q => (evC Φ G q.1 c q.2).bind fun r =>
        if r.1 then (evR Φ G q.1 m r.2).bind fun z => (z.1.d).map fun y => (some y, z.2) else some (none, r.2)) (ds.drop i) S2 = some (todo, S') ∧ acc ++ todo = xs, ⟨ds.length, by simp, ⟨W1.ms, W1.fz, upd W1.H D (.lst [])⟩, S1, [], [], xs, rfl, Ext.laid hD, r1.laid hD, Nat.zero_le _, upd_same, (r1.pms hD).1, (r1.pms hD).2, .nil, ev2, rfl⟩, ?_⟩
    rintro i mm H2 ⟨rfl, W2, S2', acc, vs, todo, rfl, e2, r2, hi, hDv, nm, nf, racc, ev, eq⟩
    obtain ⟨turn, stop⟩ := ok W2 S2' e2.step r2
    by_cases hlt : i < ds.length
    · right
      have hd : ds[i]? = some ds[i] := List.getElem?_eq_getElem hlt
      obtain ⟨go, yl⟩ := turn i _ hd
      rw [List.drop_eq_getElem_cons hlt, cmpL] at ev
      obtain ⟨⟨y, S3⟩, ev3, ev⟩ := Mi.bind_some ev
      obtain ⟨⟨ys, S4⟩, ev4, ev⟩ := map_some ev
      obtain ⟨⟨ρ3, S5⟩, ev5, ev3⟩ := Mi.bind_some ev3
      obtain ⟨⟨b, S6⟩, ev6, ev3⟩ := Mi.bind_some ev3
      refine ⟨go, _, fun H' z => ⟨ds.length - (i + 1), by omega, rfl, z⟩, fun x H' hy => ?_⟩
      obtain ⟨W3, rfl, e3, r3, rp⟩ := yl x H' hy
      have e13 := e2.trans e3
      have a3 : At K W3 S2' (wipeR ρ own) (wipe σ own) W3.H := ⟨rfl, r3, ((a.ext e1 r1).ext e13 r3).sl.wipe⟩
      refine ⟨W3, S2', _, _, a3, rp, ρ3, S5, ev5, fun W4 σ4 e4 a4 o4 p4 => ⟨wipe_eq p4 ho, ?_⟩⟩
      refine ⟨W4, S5, ρ3, a4, b, S6, ev6, fun W5 e5 r5 => ?_⟩
      have e25 := (e3.trans e4).trans e5
      have keepD : ∀ {W' : Wd}, Ext W2 W' → W'.H D = some (.lst vs) ∧ D ∉ W'.ms ∧ D ∉ W'.fz := fun {W'} z => by
        refine ⟨z.keep D _ hDv nm, fun k => ?_, fun k => ?_⟩
        · rcases z.nms D k with u | u
          · exact nm u
          · rw [hDv] at u; cases u
        · rcases z.nfz D k with u | u
          · exact nf u
          · rw [hDv] at u; cases u
      cases b with
      | false =>
        dsimp only at ev3
        rw [if_neg (by decide)] at ev3
        cases ev3
        refine iteF ?_
        obtain ⟨k1, k2, k3⟩ := keepD e25
        refine ⟨W5, _, acc, vs, ys, rfl, e2.trans e25, r5, hlt, k1, k2, k3, RepL.ext r2 e25 _ _ racc, ?_, ?_⟩
        · cases ev; exact ev4
        · cases ev; exact eq
      | true =>
        dsimp only at ev3
        rw [if_pos rfl] at ev3
        obtain ⟨⟨z, S7⟩, ev7, ev3⟩ := Mi.bind_some ev3
        obtain ⟨dd, hdd, ev3⟩ := map_some ev3
        cases ev3
        refine iteT ?_
        refine ⟨W5, S6, ρ3, a4.ext e5 r5, z, S7, ev7, fun W6 v e6 r6 p6 => ?_⟩
        obtain ⟨W7, eH, e7, r7, p7⟩ := p6.shut r6 e6 hdd
        have e27 := e25.trans e7
        obtain ⟨k1, k2, k3⟩ := keepD e27
        rw [← eH]
        have hal : (acc ++ (dd :: ys)).length ≤ sizeLine := by
          cases ev; dsimp only at eq; rw [eq]; exact hz
        refine ⟨vs, k1, ?_, ?_⟩
        · rw [racc.length]
          rw [List.length_append, List.length_cons] at hal
          omega
        · have ok : OOk (fun a => a = D) W7 := fun a e => by subst e; exact ⟨k3, vs, k1⟩
          have st : Step (fun a => a = D) W7 ⟨W7.ms, W7.fz, upd W7.H D (.lst (vs ++ [v]))⟩ := Step.put
          have racc7 : RepL K W7 acc vs := RepL.ext r2 e27 _ _ racc
          refine ⟨⟨W7.ms, W7.fz, upd W7.H D (.lst (vs ++ [v]))⟩, S7, acc ++ [dd], vs ++ [v], ys, rfl, (e2.trans e27).at hD, r7.putO k2 k3 k1, hlt, upd_same, k2, k3, RepL.step r7 ok st _ _ (racc7.append (.cons p7 .nil)), ?_, ?_⟩
          · cases ev; exact ev4
          · cases ev
            dsimp only at eq
            rw [List.append_assoc]; exact eq
    · left
      have hi' : i = ds.length := by omega
      subst hi'
      refine ⟨stop, ?_⟩
      rw [List.drop_length, cmpL] at ev
      cases ev
      rw [List.append_nil] at eq
      subst eq
      exact q W2 _ (e1.trans e2) r2 ⟨D, vs, rfl, hDv, nm, nf, e1.free hD, racc⟩
  · cases ev
end
end Mi
end
section
namespace Mi
open PySem PySem.Spec L2 PyProof.Rows
theorem ext_tup (l : Addr) (xs : Array Value) (n : Nat) (b : Addr) (ys : Array Value) (n2 : Nat) (dct : Option Addr) (sl : Array (Option Value)) (h0 : ¬(!xs.isEmpty && Builtin.List.listTooLong (xs.size + ys.size)) = true) (h1 : xs.size ≤ sizeLine) (h2 : xs.size + ys.size ≤ sizeLine + 1) :
    Meets (Builtin.«list.extend» ⟨[.ref l, .ref b], []⟩) (fun _ R s => s.heap.get? l = some { cls := .type "list", dict := none, data := .seq xs n, slots := #[] } ∧ s.heap.get? b = some { cls := .type "tuple", dict := dct, data := .seq ys n2, slots := sl } ∧
      R (.ok (.ret Value.none)) { s with heap := s.heap.update l (Obj.mapSeq fun x => x ++ ys), toks := s.toks }) :=
  .of_wp fun prog w A R s h => by
    obtain ⟨hp, g, d, tk, os⟩ := s
    obtain ⟨hl, hb, h⟩ := h
    have f1 := AutoSeq1.idx_int
    have f2 := AutoSeq1.sub_tuple_tuple
    have f3 := AutoSeq1.sub_list_list
    have f4 := AutoSeq1.sub_tuple_list
    have f5 := AutoSeq1.sub_list_tuple
    have hz : (xs ++ ys).size ≤ sizeLine + 1 := by rw [Array.size_append]; exact h2
    wp_walk using (wpAny_updateSeq hl rfl (hz := h1) (_hz' := hz)), AutoSeq1.wpAny_loadPart' hl, AutoSeq1.wpAny_loadPart' hb
    exact ⟨_, rfl, h⟩
def rExtT (K : PySem.W.Frag) : V → List V → Hp → VK → Prop := fun x vs H Q => ∃ l b xs zs, x = .ref l ∧ vs = [.ref b] ∧ H l = some (.lst xs) ∧ (H b = some (.lst zs) ∨ SqT K H b zs) ∧ xs.length + zs.length ≤ sizeLine ∧ Q .non (upd H l (.lst (xs ++ zs)))
theorem mt_extT {X : Cx} : MtM X "list.extend" (rExtT X.K) := by
  intro pins s σ H x vs v us Q I rx rv h
  obtain ⟨l, b, xs, zs, rfl, rfl, hH, hB, hz, q⟩ := h
  rcases hB with hB | hB
  · exact mt_extend pins s σ H _ _ v us Q I rx rv ⟨l, b, xs, zs, rfl, rfl, hH, hB, hz, q⟩
  cases rx
  obtain ⟨u, rfl, ru⟩ := rv.one
  cases ru
  obtain ⟨z, its, n, r, hl, e⟩ := I.lstM hH
  obtain ⟨its2, r2, ⟨⟨ocls, odct, odat, osl⟩, ho, hc, n2, hd⟩, z2⟩ := I.tuple hB
  simp only at hc hd
  subst hc hd
  have hl2 : zs.length = its2.length := r2.length
  have hsz : its.toArray.size + its2.toArray.size ≤ sizeLine := by rw [List.size_toArray, List.size_toArray]; omega
  have hlong : ¬ (!its.toArray.isEmpty && Builtin.List.listTooLong (its.toArray.size + its2.toArray.size)) = true := by
    rw [notLongL hsz, Bool.and_false]
    exact Bool.false_ne_true
  refine call_meets F.slot_list_extend ⟨_, e, rfl⟩ F.entry_list_extend (F.args_list_extend_2 _ _) (ext_tup l its.toArray n b its2.toArray n2 odct osl hlong (by rw [List.size_toArray]; omega) (by omega)) ⟨e, ho, ?_⟩
  refine ⟨.non, _, I.lset (its' := its ++ its2) hH e (by simp) (r.append r2) ?_, rfl, q⟩
  rw [List.length_append]
  omega
end Mi
end
section
namespace Mi
open PySem PySem.Spec L2
section
variable (K : PySem.W.Frag) (Φ : Fns) (G : List D)
def RepO (O : Addr → Prop) (W W' : Wd) (v : V) : Rt → Prop
  | .val d => Rep K W' d v
  | .own ds => ∃ p vs, v = .ref p ∧ W'.H p = some (.lst vs) ∧ p ∉ W'.ms ∧ p ∉ W'.fz ∧ (W.H p = none ∨ O p) ∧ RepL K W' ds vs
  | .bor _ => False
  | .ownd _ _ => False

def Out (W : Wd) (σ : St) (ρ : Env) (res : SR) (D : Ends) : Prop := match res with
  | .nx ρ' S' => ∀ W' σ', Step (ownA σ ρ) W W' → At K W' S' ρ' σ' W'.H → (∀ p, ownA σ' ρ' p → ownA σ ρ p ∨ W.H p = none) → D.nx σ' W'.H
  | .rt r S' => ∀ W' v, Step (ownA σ ρ) W W' → Rel K W' S' → RepO K (ownA σ ρ) W W' v r → D.rt v W'.H
  | .er => False
def tS (m : MS) : TS := fun D σ H => ∃ W S ρ, At K W S ρ σ H ∧ Out K W σ ρ (ex Φ G m ρ S) D
def tSs (ms : MSs) : TS := fun D σ H => ∃ W S ρ, At K W S ρ σ H ∧ Out K W σ ρ (exs Φ G ms ρ S) D
end
section
variable {K : PySem.W.Frag} {Φ : Fns} {G : List D} {W W1 : Wd} {S : Sto} {σ σ1 : St} {ρ ρ1 : Env} {D D' : Ends} {res : SR}
theorem RepO.back {O O1 : Addr → Prop} {W W1 W' : Wd} {v : V} {r : Rt} (st : Step O W W1) (h : ∀ p, O1 p → O p ∨ W.H p = none) (q : RepO K O1 W1 W' v r) : RepO K O W W' v r := by
  cases r with
  | val d => exact q
  | bor _ => exact q
  | ownd _ _ => exact q
  | own ds =>
    obtain ⟨p, vs, e1, e2, e3, e4, e5, e6⟩ := q
    refine ⟨p, vs, e1, e2, e3, e4, ?_, e6⟩
    rcases e5 with z | z
    · exact .inl (st.free z)
    · rcases h p z with z | z
      · exact .inr z
      · exact .inl z
theorem Out.fwd (h : Out K W σ ρ res D) (st : Step (ownA σ ρ) W W1) (o : ∀ p, ownA σ1 ρ1 p → ownA σ ρ p ∨ W.H p = none) : Out K W1 σ1 ρ1 res D := by
  cases res with
  | nx ρ' S' =>
    intro W' σ' st' a' o'
    refine h W' σ' (st.trans st' o) a' fun p z => ?_
    rcases o' p z with y | y
    · exact o p y
    · exact .inr (st.free y)
  | rt r S' =>
    intro W' v st' a' q
    exact h W' v (st.trans st' o) a' (q.back st o)
  | er => exact h
theorem Out.ends (h : Out K W σ ρ res D) (hn : ∀ σ' H', D.nx σ' H' → D'.nx σ' H') (hr : ∀ v H', D.rt v H' → D'.rt v H') : Out K W σ ρ res D' := by
  cases res with
  | nx ρ' S' => exact fun W' σ' st a o => hn _ _ (h W' σ' st a o)
  | rt r S' => exact fun W' v st a o => hr _ _ (h W' v st a o)
  | er => exact h

theorem Out.exp (h : Out K W σ ρ res D) (e : Ext W W1) : Out K W1 σ ρ res D := h.fwd e.step fun p z => .inl z
theorem bindE_some {r : Option (Rt × Sto)} {k : Rt → Sto → SR} (h : Out K W σ ρ (bindE r k) D) : ∃ x S', r = some (x, S') ∧ Out K W σ ρ (k x S') D := by
  cases r with
  | none => exact h.elim
  | some p => exact ⟨p.1, p.2, rfl, h⟩
theorem bindD_some {r : Option (Rt × Sto)} {k : Mi.D → Sto → SR} (h : Out K W σ ρ (bindD r k) D) : ∃ x d S', r = some (x, S') ∧ x.d = some d ∧ Out K W σ ρ (k d S') D := by
  cases r with
  | none => exact h.elim
  | some p =>
    obtain ⟨x, S'⟩ := p
    cases hd : x.d with
    | none =>
      unfold bindD at h
      dsimp only at h
      rw [hd] at h
      exact h.elim
    | some d =>
      unfold bindD at h
      dsimp only at h
      rw [hd] at h
      exact ⟨x, d, S', rfl, hd, h⟩
theorem nxO_some {r : Option (Env × Sto)} (h : Out K W σ ρ (nxO r) D) : ∃ ρ' S', r = some (ρ', S') ∧ Out K W σ ρ (.nx ρ' S') D := by
  cases r with
  | none => exact h.elim
  | some p => exact ⟨p.1, p.2, rfl, h⟩
theorem SlotR.setO {i : Nat} {ds : List Mi.D} {vs : List V} {p : Addr} (h : SlotR K W σ ρ) (hi : i < ρ.length) (h1 : W.H p = some (.lst vs)) (h2 : p ∉ W.ms) (h3 : p ∉ W.fz) (r : RepL K W ds vs) (hn : ∀ j ds', j ≠ i → ρ[j]? = some (.own ds') → σ[j]? ≠ some (some (.ref p))) : SlotR K W (σ.set i (some (.ref p))) (ρ.set i (.own ds)) := by
  have hiσ : i < σ.length := by rw [h.1]; exact hi
  refine ⟨by rw [List.length_set, List.length_set]; exact h.1, fun j d' e => ?_, fun j ds' e => ?_, fun j k xs ys q e1 e2 e3 e4 => ?_⟩
  · by_cases q : j = i
    · subst q; rw [List.getElem?_set_self hi] at e; cases e
    · rw [List.getElem?_set_ne (Ne.symm q)] at e
      obtain ⟨w, h1, h2⟩ := h.2.1 j d' e
      exact ⟨w, by rw [List.getElem?_set_ne (Ne.symm q)]; exact h1, h2⟩
  · by_cases q : j = i
    · subst q
      rw [List.getElem?_set_self hi] at e
      cases e
      exact ⟨p, vs, List.getElem?_set_self hiσ, h1, h2, h3, r⟩
    · rw [List.getElem?_set_ne (Ne.symm q)] at e
      obtain ⟨p', vs', h1, h2⟩ := h.2.2.1 j ds' e
      exact ⟨p', vs', by rw [List.getElem?_set_ne (Ne.symm q)]; exact h1, h2⟩
  · by_cases q1 : j = i
    · by_cases q2 : k = i
      · rw [q1, q2]
      · subst q1
        rw [List.getElem?_set_self hiσ] at e3
        cases e3
        rw [List.getElem?_set_ne (Ne.symm q2)] at e2 e4
        exact absurd e4 (hn k ys q2 e2)
    · by_cases q2 : k = i
      · subst q2
        rw [List.getElem?_set_self hiσ] at e4
        cases e4
        rw [List.getElem?_set_ne (Ne.symm q1)] at e1 e3
        exact absurd e3 (hn j xs q1 e1)
      · rw [List.getElem?_set_ne (Ne.symm q1)] at e1 e3
        rw [List.getElem?_set_ne (Ne.symm q2)] at e2 e4
        exact h.2.2.2 j k xs ys q e1 e2 e3 e4
theorem own_setO {i : Nat} {ds : List Mi.D} {p q : Addr} (hi : i < ρ.length) (hσ : i < σ.length) (h : ownA (σ.set i (some (.ref p))) (ρ.set i (.own ds)) q) : ownA σ ρ q ∨ q = p := by
  obtain ⟨j, ds, h1, h2⟩ := h
  by_cases z : j = i
  · subst z
    rw [List.getElem?_set_self hσ] at h2
    cases h2; exact .inr rfl
  · rw [List.getElem?_set_ne (Ne.symm z)] at h1 h2
    exact .inl ⟨j, ds, h1, h2⟩

theorem At.putO {i : Nat} {ds es : List Mi.D} {vs : List V} {p : Addr} {H : Hp} (a : At K W S ρ σ H) (hρ : ρ[i]? = some (.own ds)) (hσ : σ[i]? = some (some (.ref p))) (r : RepL K W es vs) :
    At K ⟨W.ms, W.fz, upd W.H p (.lst vs)⟩ S (ρ.set i (.own es)) σ (upd W.H p (.lst vs)) ∧ Step (ownA σ ρ) W ⟨W.ms, W.fz, upd W.H p (.lst vs)⟩ ∧ ∀ q, ownA σ (ρ.set i (.own es)) q → ownA σ ρ q := by
  obtain ⟨p', ws, f1, f2, f3, f4, f5⟩ := a.sl.2.2.1 i ds hρ
  rw [hσ] at f1; cases f1
  have hi : i < ρ.length := (List.getElem?_eq_some_iff.mp hρ).1
  have ok : OOk (fun a => a = p) W := fun a e => by subst e; exact ⟨f4, ws, f2⟩
  have st : Step (fun a => a = p) W ⟨W.ms, W.fz, upd W.H p (.lst vs)⟩ := Step.put
  have rel := a.rel.putO (o := .lst vs) f3 f4 f2
  refine ⟨⟨rfl, rel, ?_, fun j d e => ?_, fun j xs e => ?_, fun j k xs ys q e1 e2 e3 e4 => ?_⟩, ?_, fun q ⟨j, xs, h1, h2⟩ => ?_⟩
  · rw [List.length_set]; exact a.sl.1
  · by_cases q : j = i
    · subst q; rw [List.getElem?_set_self hi] at e; cases e
    · rw [List.getElem?_set_ne (Ne.symm q)] at e
      obtain ⟨v, g1, g2⟩ := a.sl.2.1 j d e
      exact ⟨v, g1, Rep.step a.rel ok st _ _ g2⟩
  · by_cases q : j = i
    · subst q
      rw [List.getElem?_set_self hi] at e
      cases e
      exact ⟨p, vs, hσ, upd_same, f3, f4, RepL.step a.rel ok st _ _ r⟩
    · rw [List.getElem?_set_ne (Ne.symm q)] at e
      obtain ⟨p', us, g1, g2, g3, g4, g5⟩ := a.sl.2.2.1 j xs e
      refine ⟨p', us, g1, ?_, g3, g4, RepL.step a.rel ok st _ _ g5⟩
      show upd W.H p (.lst vs) p' = _
      rw [upd_ne]
      · exact g2
      · intro z; subst z
        exact q (a.sl.2.2.2 j i xs ds p' e hρ g1 hσ)
  · have back : ∀ {j : Nat} {xs : List Mi.D}, (ρ.set i (.own es))[j]? = some (.own xs) → ∃ zs, ρ[j]? = some (.own zs) := fun {j xs} e => by
      by_cases q : j = i
      · subst q; exact ⟨ds, hρ⟩
      · rw [List.getElem?_set_ne (Ne.symm q)] at e; exact ⟨xs, e⟩
    obtain ⟨_, g1⟩ := back e1
    obtain ⟨_, g2⟩ := back e2
    exact a.sl.2.2.2 j k _ _ q g1 g2 e3 e4
  · refine ⟨st.ms, st.fz, fun b o e n no => st.keep b o e n fun z => no ?_, st.dom, st.nms, fun b e => (st.nfz b e).elim .inl fun z => z.elim (fun y => .inr (.inl y)) fun y => .inr (.inr ?_)⟩
    · subst z; exact ⟨i, ds, hρ, hσ⟩
    · subst y; exact ⟨i, ds, hρ, hσ⟩
  · by_cases z : j = i
    · subst z; exact ⟨j, ds, hρ, h2⟩
    · rw [List.getElem?_set_ne (Ne.symm z)] at h1; exact ⟨j, xs, h1, h2⟩
end
section
variable {X : Cx} {Φ : Fns} {G : List D} {e e1 e2 tg : Expr} {pos p : Pos}
abbrev DS (X : Cx) (Φ : Fns) (G : List D) (s : Stmt) (m : MS) : Prop := PS X s (tS X.K Φ G m)
abbrev DSs (X : Cx) (Φ : Fns) (G : List D) (s : List Stmt) (m : MSs) : Prop := PSs X s (tSs X.K Φ G m)
theorem dss_nil : DSs X Φ G [] .nil := by
  refine PSs.imp pss_nil fun D σ H h => ?_
  obtain ⟨W, S, ρ, a, q⟩ := h
  rw [exs] at q
  have := q W σ (Step.refl _ W) ⟨rfl, a.rel, a.sl⟩ fun p z => .inl z
  rw [a.1] at this; exact this
theorem dss_cons {s : Stmt} {r : List Stmt} {m : MS} {ms : MSs} (h1 : DS X Φ G s m) (h2 : DSs X Φ G r ms) : DSs X Φ G (s :: r) (.cons m ms) := by
  refine PSs.imp (pss_cons h1 h2) fun D σ H h => ?_
  obtain ⟨W, S, ρ, a, q⟩ := h
  rw [exs] at q
  refine ⟨W, S, ρ, a, ?_⟩
  cases hr : ex Φ G m ρ S with
  | nx ρ' S' =>
    rw [hr] at q
    intro W' σ' st a' o
    exact ⟨W', S', ρ', a', Out.fwd q st o⟩
  | rt r S' => rw [hr] at q; exact q
  | er => rw [hr] at q; exact q

theorem dss_frz {s : List Stmt} {i : Nat} {ms : MSs} (h : DSs X Φ G s ms) : DSs X Φ G s (.cons (.frz i) ms) := by
  refine PSs.imp h fun D σ H h => ?_
  obtain ⟨W, S, ρ, a, q⟩ := h
  rw [exs, ex] at q
  cases hρ : ρ[i]? with
  | none => rw [hρ] at q; exact q.elim
  | some sl =>
    rw [hρ] at q
    cases sl with
    | no => exact q.elim
    | val _ => exact ⟨W, S, ρ, a, q⟩
    | own ds =>
      have q : Out X.K W σ ρ (exs Φ G ms (ρ.set i (.val (.lst ds))) S) D := q
      obtain ⟨p, vs, f1, f2, f3, f4, f5⟩ := a.sl.2.2.1 i ds hρ
      have hi : i < ρ.length := (List.getElem?_eq_some_iff.mp hρ).1
      have hiσ : i < σ.length := (List.getElem?_eq_some_iff.mp f1).1
      have rel : Rel X.K ⟨W.ms, p :: W.fz, W.H⟩ S := a.rel.more f3 (by rw [f2]; simp)
      have hset : σ.set i (some (.ref p)) = σ := by
        apply List.ext_getElem?
        intro j
        by_cases z : j = i
        · subst z; rw [List.getElem?_set_self hiσ, f1]
        · rw [List.getElem?_set_ne (Ne.symm z)]
      have noP : ∀ j xs, ρ[j]? = some (.own xs) → j ≠ i → σ[j]? ≠ some (some (.ref p)) := fun j xs e n z => n (a.sl.2.2.2 j i xs ds p e hρ z f1)
      have sl : SlotR X.K ⟨W.ms, p :: W.fz, W.H⟩ σ (ρ.set i (.val (.lst ds))) := by
        refine ⟨by rw [List.length_set]; exact a.sl.1, fun j d e => ?_, fun j xs e => ?_, fun j k xs ys q e1 e2 e3 e4 => ?_⟩
        · by_cases z : j = i
          · subst z
            rw [List.getElem?_set_self hi] at e
            cases e
            refine ⟨_, f1, ?_⟩
            unfold Rep
            exact ⟨p, vs, rfl, List.mem_cons_self, f2, RepL.more _ _ f5⟩
          · rw [List.getElem?_set_ne (Ne.symm z)] at e
            obtain ⟨v, g1, g2⟩ := a.sl.2.1 j d e
            exact ⟨v, g1, Rep.more _ _ g2⟩
        · by_cases z : j = i
          · subst z; rw [List.getElem?_set_self hi] at e; cases e
          · rw [List.getElem?_set_ne (Ne.symm z)] at e
            obtain ⟨p', us, g1, g2, g3, g4, g5⟩ := a.sl.2.2.1 j xs e
            refine ⟨p', us, g1, g2, g3, fun y => ?_, RepL.more _ _ g5⟩
            rcases List.mem_cons.mp y with y | y
            · subst y; exact noP j xs e z g1
            · exact g4 y
        · by_cases z : j = i
          · subst z; rw [List.getElem?_set_self hi] at e1; cases e1
          · by_cases z2 : k = i
            · subst z2; rw [List.getElem?_set_self hi] at e2; cases e2
            · rw [List.getElem?_set_ne (Ne.symm z)] at e1
              rw [List.getElem?_set_ne (Ne.symm z2)] at e2
              exact a.sl.2.2.2 j k xs ys q e1 e2 e3 e4
      have st : Step (ownA σ ρ) W ⟨W.ms, p :: W.fz, W.H⟩ := ⟨⟨[], by simp⟩, fun a h => List.mem_cons_of_mem _ h, fun a o h _ _ => h, fun a h => h, fun a h => .inl h, fun a h => by
        rcases List.mem_cons.mp h with z | z
        · subst z; exact .inr (.inr ⟨i, ds, hρ, f1⟩)
        · exact .inl z⟩
      refine ⟨⟨W.ms, p :: W.fz, W.H⟩, S, _, ⟨a.1, rel, sl⟩, Out.fwd q st fun p' z => .inl ?_⟩
      obtain ⟨j, xs, h1, h2⟩ := z
      by_cases z : j = i
      · subst z; rw [List.getElem?_set_self hi] at h1; cases h1
      · rw [List.getElem?_set_ne (Ne.symm z)] at h1; exact ⟨j, xs, h1, h2⟩

theorem asg_imp {K : PySem.W.Frag} {t : MT} {m : ME} {D : Ends} {σ : St} {H : Hp} (h : tS K Φ G (.asg t m) D σ H) : tAsg (tR K Φ G m) (gT K Φ G t) D σ H := by
  obtain ⟨W, S, ρ, a, q⟩ := h
  rw [ex] at q
  obtain ⟨x, d, S1, ev, hd, q⟩ := bindD_some q
  obtain ⟨ρ', S', ev2, q⟩ := nxO_some q
  refine ⟨W, S, ρ, a, x, S1, ev, fun W1 v e1 r1 p1 => ?_⟩
  obtain ⟨W2, eH, e2, r2, p2⟩ := p1.shut r1 e1 hd
  have a2 := a.ext e2 r2
  rw [eH] at a2
  refine ⟨W2, S1, ρ, d, a2, p2, ρ', S', ev2, fun W3 σ3 e3 a3 o3 p3 => ?_⟩
  exact q W3 σ3 (e2.trans e3).step a3 fun p z => .inl (o3 p z)
theorem ds_asg {t : MT} {m : ME} (hp : ∀ (te : TE) (g : TG), PE X e te → PG X tg g → PS X (.Assign [tg] e pos) (tAsg te g)) (he : DE X Φ G e m) (hg : DG X Φ G tg t) : DS X Φ G (.Assign [tg] e pos) (.asg t m) :=
  PS.imp (hp _ _ he hg) fun D σ H h => asg_imp h

theorem own_imp {K : PySem.W.Frag} {i : Nat} {m : ME} {D : Ends} {σ : St} {H : Hp} (h : tS K Φ G (.own i m) D σ H) : tAsg (tR K Φ G m) (gName i) D σ H := by
  obtain ⟨W, S, ρ, a, q⟩ := h
  rw [ex] at q
  obtain ⟨x, S1, ev, q⟩ := bindE_some q
  cases x with
  | val _ => exact q.elim
  | bor _ => exact q.elim
  | ownd _ _ => exact q.elim
  | own ds =>
    dsimp only at q
    split at q
    · rename_i hi
      refine ⟨W, S, ρ, a, _, S1, ev, fun W1 v e1 r1 p1 => ?_⟩
      obtain ⟨p, vs, rfl, h2, h3, h4, h0, h5⟩ := p1
      have hσ : i < σ.length := by rw [a.sl.1]; exact hi
      have a1 := a.ext e1 r1
      refine q W1 (σ.set i (some (.ref p))) e1.step ⟨rfl, r1, a1.sl.setO hi h2 h3 h4 h5 fun j ds' n e z => ?_⟩ fun p' z => ?_
      · obtain ⟨p', us, g1, g2, _⟩ := a.sl.2.2.1 j ds' e
        rw [z] at g1; cases g1
        rw [h0] at g2; cases g2
      · rcases own_setO hi hσ z with y | y
        · exact .inl y
        · subst y; exact .inr h0
    · exact q.elim
theorem ds_own {i : Nat} {m : ME} (hp : ∀ (te : TE), PE X e te → PS X (.Assign [tg] e pos) (tAsg te (gName i))) (he : DE X Φ G e m) : DS X Φ G (.Assign [tg] e pos) (.own i m) :=
  PS.imp (hp _ he) fun D σ H h => own_imp h
theorem ds_ret {m : ME} (he : DE X Φ G e m) : DS X Φ G (.Return (some e) pos) (.ret m) := by
  refine PS.imp (ps_ret he) fun D σ H h => ?_
  obtain ⟨W, S, ρ, a, q⟩ := h
  rw [ex] at q
  obtain ⟨x, S1, ev, q⟩ := bindE_some q
  refine ⟨W, S, ρ, a, x, S1, ev, fun W1 v e1 r1 p1 => ?_⟩
  cases x with
  | bor _ => exact q.elim
  | ownd _ _ => exact q.elim
  | val d => exact q W1 v e1.step r1 p1
  | own ds =>
    obtain ⟨p, vs, f1, f2, f3, f4, f5, f6⟩ := p1
    exact q W1 v e1.step r1 ⟨p, vs, f1, f2, f3, f4, .inl f5, f6⟩
theorem ds_reto {i : Nat} {x : Str} (hN : X.N[i]? = some x) (hv : Vis X.env.scope x) (hd : (x == ("__debug__" : Str)) = false) (hcd : (x == ("__classdict__" : Str)) = false) : DS X Φ G (.Return (some (.Name x p)) pos) (.reto i) := by
  refine PS.imp (ps_ret (pe_var hN hv hd hcd)) fun D σ H h => ?_
  obtain ⟨W, S, ρ, a, q⟩ := h
  rw [ex] at q
  cases hρ : ρ[i]? with
  | none => rw [hρ] at q; exact q.elim
  | some sl =>
    rw [hρ] at q
    cases sl with
    | no => exact q.elim
    | val _ => exact q.elim
    | own ds =>
      obtain ⟨p, vs, f1, f2, f3, f4, f5⟩ := a.sl.2.2.1 i ds hρ
      refine ⟨_, f1, ?_⟩
      have := q W (.ref p) (Step.refl _ W) a.rel ⟨p, vs, rfl, f2, f3, f4, .inr ⟨i, ds, hρ, f1⟩, f5⟩
      rw [a.1] at this; exact this
theorem ds_expr {m : ME} (hs : swapsWith e none pos.line X.env = pure false) (he : DE X Φ G e m) : DS X Φ G (.Expr e pos) (.expr m) := by
  refine PS.imp (ps_expr he hs) fun D σ H h => ?_
  obtain ⟨W, S, ρ, a, q⟩ := h
  rw [ex] at q
  obtain ⟨x, S1, ev, q⟩ := bindE_some q
  refine ⟨W, S, ρ, a, x, S1, ev, fun W1 v e1 r1 p1 => ?_⟩
  exact q W1 σ e1.step (a.ext e1 r1) fun p z => .inl z
theorem ds_ite {c : Expr} {xs ys : List Stmt} {m : ME} {ma mb : MSs} (hc : DT X Φ G c m) (ha : DSs X Φ G xs ma) (hb : DSs X Φ G ys mb) : DS X Φ G (.If c xs ys pos) (.ite m ma mb) := by
  refine PS.imp (ps_if hc ha hb) fun D σ H h => ?_
  obtain ⟨W, S, ρ, a, q⟩ := h
  rw [ex] at q
  obtain ⟨x, S1, ev, q⟩ := bindE_some q
  split at q
  · refine ⟨W, S, ρ, a, true, S1, ev, fun W1 e1 r1 => iteT ?_⟩
    exact ⟨W1, S1, ρ, a.ext e1 r1, q.exp e1⟩
  · refine ⟨W, S, ρ, a, false, S1, ev, fun W1 e1 r1 => iteF ?_⟩
    exact ⟨W1, S1, ρ, a.ext e1 r1, q.exp e1⟩
  · exact q.elim

theorem then_out {K : PySem.W.Frag} {W : Wd} {σ : St} {ρ : Env} {r : SR} {k : Env → Sto → SR} {D : Ends} {N : St → Hp → Prop} {bk ct : St → Hp → Prop} (h : Out K W σ ρ (r.then k) D)
    (hn : ∀ ρ' S', r = .nx ρ' S' → ∀ W' σ', Step (ownA σ ρ) W W' → At K W' S' ρ' σ' W'.H → (∀ p, ownA σ' ρ' p → ownA σ ρ p ∨ W.H p = none) → Out K W' σ' ρ' (k ρ' S') D → N σ' W'.H) : Out K W σ ρ r { D with nx := N, bk := bk, ct := ct } := by
  cases r with
  | nx ρ' S' => exact fun W' σ' st a o => hn ρ' S' rfl W' σ' st a o (Out.fwd h st o)
  | rt r S' => exact h
  | er => exact h
theorem ds_for {iter : Expr} {body : List Stmt} {t : MT} {it : MI} {mb : MSs} (hp : PassesOwn (model X.prog X.w) X.A X.env X.xe) (hc : X.calm = true) (hs : ∀ x, foldedSetIterable iter X.env x = pure x) (hi : DI X Φ G false tg iter it) (hg : DG X Φ G tg t) (hb : DSs X Φ G body mb) : DS X Φ G (.For tg iter body [] pos) (.forr t it mb) := by
  refine PS.imp (ps_for hp hc hi hg hb hs) fun D σ H h => ?_
  obtain ⟨W, S, ρ, a, q⟩ := h
  rw [ex] at q
  cases hev : evI Φ G ρ false it S with
  | none => rw [hev] at q; exact q.elim
  | some pr =>
    obtain ⟨ds, S1⟩ := pr
    rw [hev] at q
    have q : Out X.K W σ ρ (forL (fun d ρ S => sto Φ G t d ρ S) (fun ρ S => exs Φ G mb ρ S) ds ρ S1) D := q
    refine ⟨W, S, ρ, a, ds, S1, hev, fun W1 J e1 r1 ok => ?_⟩
    refine ⟨fun i mm σ2 H2 => mm = ds.length - i ∧ i ≤ ds.length ∧ ∃ W2 S2 ρ2, At X.K W2 S2 ρ2 σ2 H2 ∧ Step (ownA σ ρ) W1 W2 ∧ (∀ p, ownA σ2 ρ2 p → ownA σ ρ p ∨ W1.H p = none) ∧ Out X.K W2 σ2 ρ2 (forL (fun d ρ S => sto Φ G t d ρ S) (fun ρ S => exs Φ G mb ρ S) (ds.drop i) ρ2 S2) D,
      ⟨ds.length, by simp, Nat.zero_le _, W1, S1, ρ, a.ext e1 r1, Step.refl _ W1, fun p z => .inl z, q.exp e1⟩, ?_⟩
    rintro i mm σ2 H2 ⟨rfl, hle, W2, S2, ρ2, a2, st2, o2, q2⟩
    have hH : W2.H = H2 := a2.1
    subst hH
    obtain ⟨turn, stop⟩ := ok W2 S2 (by rw [OO_false]; exact st2) a2.rel
    by_cases hlt : i < ds.length
    · right
      have hd : ds[i]? = some ds[i] := List.getElem?_eq_getElem hlt
      obtain ⟨go, yl⟩ := turn i _ hd
      rw [List.drop_eq_getElem_cons hlt, forL] at q2
      refine ⟨go, _, fun σ' H' z => ⟨ds.length - (i + 1), by omega, rfl, hlt, z⟩, fun x H' hy => ?_⟩
      obtain ⟨W3, rfl, e3, r3, rp⟩ := yl x H' hy
      cases hst : sto Φ G t ds[i] ρ2 S2 with
      | none => rw [hst] at q2; exact q2.elim
      | some pr =>
        obtain ⟨ρ3, S3⟩ := pr
        rw [hst] at q2
        refine ⟨W3, S2, ρ2, ds[i], a2.ext e3 r3, rp, ρ3, S3, hst, fun W4 σ4 e4 a4 o4 p4 => ?_⟩
        have st24 : Step (ownA σ2 ρ2) W2 W4 := (e3.trans e4).step
        have o24 : ∀ p, ownA σ4 ρ3 p → ownA σ2 ρ2 p ∨ W2.H p = none := fun p z => .inl (o4 p z)
        have q4 := Out.fwd q2 st24 o24
        refine ⟨W4, S3, ρ3, a4, then_out q4 fun ρ5 S5 hr W5 σ5 st5 a5 o5 q5 => ?_⟩
        have o25 : ∀ p, ownA σ5 ρ5 p → ownA σ2 ρ2 p ∨ W2.H p = none := fun p z => by
          rcases o5 p z with y | y
          · exact o24 p y
          · exact .inr (st24.free y)
        refine ⟨W5, S5, ρ5, a5, st2.trans (st24.trans st5 o24) o2, fun p z => ?_, q5⟩
        rcases o25 p z with y | y
        · exact o2 p y
        · exact .inr (st2.free y)
    · left
      have hi' : i = ds.length := by omega
      subst hi'
      refine ⟨stop, ?_⟩
      rw [List.drop_length, forL] at q2
      exact q2 W2 σ2 (Step.refl _ W2) ⟨rfl, a2.rel, a2.sl⟩ fun p z => .inl z
theorem ds_whl {c : Expr} {body : List Stmt} {n : Nat} {m : ME} {mb : MSs} (hp : PassesOwn (model X.prog X.w) X.A X.env X.xe) (hc : DT X Φ G c m) (hb : DSs X Φ G body mb) : DS X Φ G (.While c body [] pos) (.whl n m mb) := by
  refine PS.imp (ps_while hp hc hb) fun D σ H h => ?_
  obtain ⟨W, S, ρ, a, q⟩ := h
  rw [ex] at q
  refine ⟨fun mm σ2 H2 => ∃ W2 S2 ρ2, At X.K W2 S2 ρ2 σ2 H2 ∧ Out X.K W2 σ2 ρ2 (whlL (fun ρ S => (evR Φ G ρ m S).bind fun p => match p.1 with
      | .val (.bl k) => some (k, p.2)
      | _ => none) (fun ρ S => exs Φ G mb ρ S) mm ρ2 S2) D, ⟨n, W, S, ρ, a, q⟩, ?_⟩
  rintro mm σ2 H2 ⟨W2, S2, ρ2, a2, q2⟩
  cases mm with
  | zero => rw [whlL] at q2; exact q2.elim
  | succ mm =>
    rw [whlL] at q2
    cases hev : evR Φ G ρ2 m S2 with
    | none => rw [hev] at q2; exact q2.elim
    | some pr =>
      obtain ⟨x, S3⟩ := pr
      rw [hev, Option.bind_some] at q2
      dsimp only at q2
      cases x with
      | own _ => exact q2.elim
      | bor _ => exact q2.elim
      | ownd _ _ => exact q2.elim
      | val d =>
        cases d with
        | bl b =>
          refine ⟨W2, S2, ρ2, a2, b, S3, hev, fun W3 e3 r3 => ?_⟩
          have a3 := a2.ext e3 r3
          cases b with
          | true =>
            refine iteT ⟨_, fun σ' H' z => ⟨mm, Nat.lt_succ_self _, z⟩, W3, S3, ρ2, a3, then_out (Out.exp q2 e3) fun ρ5 S5 hr W5 σ5 st5 a5 o5 q5 => ?_⟩
            exact ⟨W5, S5, ρ5, a5, q5⟩
          | false =>
            refine iteF ?_
            exact q2 W3 σ2 e3.step a3 fun p z => .inl z
        | _ => exact q2.elim

theorem ds_app {i : Nat} {x : Str} {m : ME} {apos cpos : Pos} {t : TE} (hp : ∀ te, PE X e te → PE X (.Call (.Attribute (.Name x p) "append" apos) [e] [] cpos) (tBM X.K "list" rAppend (tVar i) (tCons te tNil))) (hs : swapsWith (.Call (.Attribute (.Name x p) "append" apos) [e] [] cpos) none pos.line X.env = pure false) (he : DE X Φ G e m) :
    DS X Φ G (.Expr (.Call (.Attribute (.Name x p) "append" apos) [e] [] cpos) pos) (.app i m) := by
  refine PS.imp (ps_expr (hp _ he) hs) fun D σ H h => ?_
  obtain ⟨W, S, ρ, a, q⟩ := h
  rw [ex] at q
  cases hρ : ρ[i]? with
  | none => rw [hρ] at q; exact q.elim
  | some sl =>
    rw [hρ] at q
    cases sl with
    | no => exact q.elim
    | val _ => exact q.elim
    | own ds =>
      dsimp only at q
      obtain ⟨y, d, S1, ev, hd, q⟩ := bindD_some q
      split at q
      · rename_i hz
        obtain ⟨p, vs, f1, f2, f3, f4, f5⟩ := a.sl.2.2.1 i ds hρ
        have hH : H p = some (.lst vs) := by rw [← a.1]; exact f2
        refine ⟨.ref p, f1, .inl ⟨rfl, vs, .inl (.inl hH)⟩, W, S, ρ, a, y, S1, ev, fun W1 v e1 r1 p1 => ?_⟩
        obtain ⟨W2, eH, e2, r2, p2⟩ := p1.shut r1 e1 hd
        have a2 := a.ext e2 r2
        obtain ⟨p', vs', g1, g2, g3, g4, g5⟩ := a2.sl.2.2.1 i ds hρ
        rw [f1] at g1; cases g1
        have : W2.H p = some (.lst vs) := e2.keep p _ f2 f3
        rw [g2] at this; cases this
        show rAppend (.ref p) [v] W1.H (fun _ H1 => D.nx σ H1)
        rw [← eH]
        refine ⟨p, vs, v, rfl, rfl, g2, by rw [g5.length]; exact hz, ?_⟩
        obtain ⟨b1, b2, b3⟩ := a2.putO hρ f1 (g5.append (.cons p2 .nil))
        exact q ⟨W2.ms, W2.fz, _⟩ σ (e2.step.trans b2 fun p z => .inl z) b1 fun p' z => .inl (b3 p' z)
      · exact q.elim
theorem ds_ext {i : Nat} {x : Str} {m : ME} {apos cpos : Pos} (hp : ∀ te, PE X e te → PE X (.Call (.Attribute (.Name x p) "extend" apos) [e] [] cpos) (tBM X.K "list" (rExtT X.K) (tVar i) (tCons te tNil))) (hs : swapsWith (.Call (.Attribute (.Name x p) "extend" apos) [e] [] cpos) none pos.line X.env = pure false) (he : DE X Φ G e m) :
    DS X Φ G (.Expr (.Call (.Attribute (.Name x p) "extend" apos) [e] [] cpos) pos) (.ext i m) := by
  refine PS.imp (ps_expr (hp _ he) hs) fun D σ H h => ?_
  obtain ⟨W, S, ρ, a, q⟩ := h
  rw [ex] at q
  cases hρ : ρ[i]? with
  | none => rw [hρ] at q; exact q.elim
  | some sl =>
    rw [hρ] at q
    cases sl with
    | no => exact q.elim
    | val _ => exact q.elim
    | own ds =>
      dsimp only at q
      obtain ⟨y, S1, ev, q⟩ := bindE_some q
      cases hy : y.exV with
      | none => rw [hy] at q; exact q.elim
      | some ys =>
        rw [hy] at q
        dsimp only at q
        split at q
        · rename_i hz
          obtain ⟨p, vs, f1, f2, f3, f4, f5⟩ := a.sl.2.2.1 i ds hρ
          have hH : H p = some (.lst vs) := by rw [← a.1]; exact f2
          refine ⟨.ref p, f1, .inl ⟨rfl, vs, .inl (.inl hH)⟩, W, S, ρ, a, _, S1, ev, fun W1 v e1 r1 p1 => ?_⟩
          obtain ⟨p2, ws, rfl, k2, k5⟩ : ∃ p2 ws, v = .ref p2 ∧ (W1.H p2 = some (.lst ws) ∨ SqT X.K W1.H p2 ws) ∧ RepL X.K W1 ys ws := by
            cases y with
            | own zs =>
              cases hy
              obtain ⟨p2, ws, rfl, k2, k3, k4, k0, k5⟩ := p1
              exact ⟨p2, ws, rfl, .inl k2, k5⟩
            | val d =>
              cases d with
              | tup zs =>
                cases hy
                have h : Rep X.K W1 (.tup ys) v := p1
                unfold Rep at h
                obtain ⟨p2, ws, rfl, k2, k5⟩ := h
                exact ⟨p2, ws, rfl, .inr k2, k5⟩
              | _ => cases hy
            | _ => cases hy
          have a1 := a.ext e1 r1
          obtain ⟨p', vs', g1, g2, g3, g4, g5⟩ := a1.sl.2.2.1 i ds hρ
          rw [f1] at g1; cases g1
          have : W1.H p = some (.lst vs) := e1.keep p _ f2 f3
          rw [g2] at this; cases this
          refine ⟨p, p2, vs, ws, rfl, rfl, g2, k2, by rw [g5.length, k5.length]; exact hz, ?_⟩
          obtain ⟨b1, b2, b3⟩ := a1.putO hρ f1 (g5.append k5)
          exact q ⟨W1.ms, W1.fz, _⟩ σ (e1.step.trans b2 fun p z => .inl z) b1 fun p' z => .inl (b3 p' z)
        · exact q.elim
theorem ds_rev {i : Nat} {x : Str} {apos cpos : Pos} (hp : PE X (.Call (.Attribute (.Name x p) "reverse" apos) [] [] cpos) (tBM0 X.K "list" rReverse (tVar i))) (hs : swapsWith (.Call (.Attribute (.Name x p) "reverse" apos) [] [] cpos) none pos.line X.env = pure false) :
    DS X Φ G (.Expr (.Call (.Attribute (.Name x p) "reverse" apos) [] [] cpos) pos) (.rev i) := by
  refine PS.imp (ps_expr hp hs) fun D σ H h => ?_
  obtain ⟨W, S, ρ, a, q⟩ := h
  rw [ex] at q
  cases hρ : ρ[i]? with
  | none => rw [hρ] at q; exact q.elim
  | some sl =>
    rw [hρ] at q
    cases sl with
    | no => exact q.elim
    | val _ => exact q.elim
    | own ds =>
      obtain ⟨p, vs, f1, f2, f3, f4, f5⟩ := a.sl.2.2.1 i ds hρ
      have hH : H p = some (.lst vs) := by rw [← a.1]; exact f2
      refine ⟨.ref p, f1, .inl ⟨rfl, vs, .inl (.inl hH)⟩, p, vs, rfl, rfl, hH, ?_⟩
      obtain ⟨b1, b2, b3⟩ := a.putO hρ f1 f5.reverse
      have := q ⟨W.ms, W.fz, _⟩ σ b2 b1 fun p' z => .inl (b3 p' z)
      rw [← a.1]; exact this
theorem ds_aug {i : Nat} {x : Str} {m : ME} {o : BOp} (ho : o = .add ∨ o = .sub) (hp : ∀ te ti, PE X e te → PIp X (opOf o) ti → PS X (.AugAssign (.Name x p) (opOf o) e pos) (tAug i te ti)) (he : DE X Φ G e m) : DS X Φ G (.AugAssign (.Name x p) (opOf o) e pos) (.aug i o m) := by
  have fin : ∀ (f : Int → Int → Int) (hip : PIp X (opOf o) (ipI f)), (∀ ρ S (k j : Int) (S1 : Sto), ρ[i]? = some (Sl.val (.int k)) → evR Φ G ρ m S = some (.val (.int j), S1) → ex Φ G (.aug i o m) ρ S = .nx (ρ.set i (.val (.int (f k j)))) S1) → (∀ ρ S W σ D, Out X.K W σ ρ (ex Φ G (.aug i o m) ρ S) D → ∃ k j S1, ρ[i]? = some (Sl.val (.int k)) ∧ evR Φ G ρ m S = some (.val (.int j), S1)) → DS X Φ G (.AugAssign (.Name x p) (opOf o) e pos) (.aug i o m) := fun f hip h1 h2 => by
    refine PS.imp (hp _ _ he hip) fun D σ H h => ?_
    obtain ⟨W, S, ρ, a, q⟩ := h
    obtain ⟨k, j, S1, hρ, ev⟩ := h2 ρ S W σ D q
    rw [h1 ρ S k j S1 hρ ev] at q
    have hi : i < ρ.length := (List.getElem?_eq_some_iff.mp hρ).1
    obtain ⟨v, g1, g2⟩ := a.sl.2.1 i _ hρ
    unfold Rep at g2; subst g2
    refine ⟨_, g1, W, S, ρ, a, _, S1, ev, fun W1 v e1 r1 p1 => ⟨k, j, rfl, repr_int p1, ?_⟩⟩
    have a1 := a.ext e1 r1
    exact q W1 _ e1.step ⟨rfl, r1, a1.sl.set hi (by unfold Rep; rfl)⟩ fun p z => .inl (own_set hi z)
  have inv : (o = .add ∨ o = .sub) → ∀ ρ S W σ D, Out X.K W σ ρ (ex Φ G (.aug i o m) ρ S) D → ∃ k j S1, ρ[i]? = some (Sl.val (.int k)) ∧ evR Φ G ρ m S = some (.val (.int j), S1) := fun ho ρ S W σ D q => by
    rw [ex] at q
    split at q
    · rename_i k hk
      obtain ⟨y, d, S1, ev, hd, q⟩ := bindD_some q
      cases d with
      | int j =>
        cases y with
        | val d' => cases hd; exact ⟨k, j, S1, hk, ev⟩
        | own _ => cases hd
        | bor _ => cases hd
        | ownd _ _ => cases hd
      | _ => rcases ho with rfl | rfl <;> exact q.elim
    · exact q.elim
  rcases ho with rfl | rfl
  · refine fin (fun i j => i + j) ip_add (fun ρ S k j S1 h1 h2 => ?_) (inv (.inl rfl))
    rw [ex, h1]
    dsimp only
    rw [h2]
    rfl
  · refine fin (fun i j => i - j) ip_sub (fun ρ S k j S1 h1 h2 => ?_) (inv (.inr rfl))
    rw [ex, h1]
    dsimp only
    rw [h2]
    rfl
theorem ds_sown {i : Nat} {o ix : Expr} {m mi : ME} (hp : ∀ te ti, PE X e te → PE X ix ti → PS X (.Assign [tg] e pos) (tAsg te (gSub (tVar i) ti rSetL))) (he : DE X Φ G e m) (hi : DE X Φ G ix mi) : DS X Φ G (.Assign [tg] e pos) (.sown i mi m) := by
  refine PS.imp (hp _ _ he hi) fun D σ H h => ?_
  obtain ⟨W, S, ρ, a, q⟩ := h
  rw [ex] at q
  obtain ⟨y, d, S1, ev1, hd, q⟩ := bindD_some q
  cases hρ : ρ[i]? with
  | none => rw [hρ] at q; exact q.elim
  | some sl =>
    rw [hρ] at q
    cases sl with
    | no => exact q.elim
    | val _ => exact q.elim
    | own ds =>
      dsimp only at q
      obtain ⟨z, S2, ev2, q⟩ := bindE_some q
      split at q
      · rename_i k
        split at q
        · rename_i j hj
          refine ⟨W, S, ρ, a, y, S1, ev1, fun W1 v e1 r1 p1 => ?_⟩
          obtain ⟨W2, eH, e2, r2, p2⟩ := p1.shut r1 e1 hd
          have a2 := a.ext e2 r2
          obtain ⟨p, vs, f1, f2, f3, f4, f5⟩ := a2.sl.2.2.1 i ds hρ
          refine ⟨.ref p, f1, ?_⟩
          have a2' := a2
          rw [eH] at a2'
          refine ⟨W2, S1, ρ, a2', _, S2, ev2, fun W3 v3 e3 r3 p3 => ?_⟩
          have a3 := a2.ext e3 r3
          obtain ⟨p', vs', g1, g2, g3, g4, g5⟩ := a3.sl.2.2.1 i ds hρ
          rw [f1] at g1; cases g1
          refine ⟨p, vs', k, j, rfl, repr_int p3, g2, by rw [g5.length]; exact hj, ?_⟩
          obtain ⟨b1, b2, b3⟩ := a3.putO hρ f1 (g5.set (Rep.ext r2 e3 _ _ p2) j)
          exact q ⟨W3.ms, W3.fz, _⟩ σ ((e2.trans e3).step.trans b2 fun p z => .inl z) b1 fun p' z => .inl (b3 p' z)
        · exact q.elim
      · exact q.elim
theorem ds_pops {i : Nat} {t : MT} {x : Str} {apos cpos : Pos} (hp : ∀ g, PG X tg g → PS X (.Assign [tg] (.Call (.Attribute (.Name x p) "pop" apos) [] [] cpos) pos) (tAsg (tBM0 X.K "list" rPop (tVar i)) g)) (hg : DG X Φ G tg t) :
    DS X Φ G (.Assign [tg] (.Call (.Attribute (.Name x p) "pop" apos) [] [] cpos) pos) (.pops t i) := by
  refine PS.imp (hp _ hg) fun D σ H h => ?_
  obtain ⟨W, S, ρ, a, q⟩ := h
  rw [ex] at q
  cases hρ : ρ[i]? with
  | none => rw [hρ] at q; exact q.elim
  | some sl =>
    rw [hρ] at q
    cases sl with
    | no => exact q.elim
    | val _ => exact q.elim
    | own ds =>
      dsimp only at q
      cases hl : ds.getLast? with
      | none => rw [hl] at q; exact q.elim
      | some d =>
        rw [hl] at q
        dsimp only at q
        obtain ⟨ρ', S', ev, q⟩ := nxO_some q
        obtain ⟨p, vs, f1, f2, f3, f4, f5⟩ := a.sl.2.2.1 i ds hρ
        have hH : H p = some (.lst vs) := by rw [← a.1]; exact f2
        rw [List.getLast?_eq_getElem?] at hl
        obtain ⟨w, hw, rw'⟩ := f5.get hl
        rw [← f5.length] at hw
        refine ⟨.ref p, f1, .inl ⟨rfl, vs, .inl (.inl hH)⟩, p, vs, w, rfl, rfl, hH, hw, ?_⟩
        obtain ⟨b1, b2, b3⟩ := a.putO hρ f1 f5.dropLast
        have ok : OOk (fun a => a = p) W := fun a e => by subst e; exact ⟨f4, vs, f2⟩
        have rp : Rep X.K ⟨W.ms, W.fz, upd W.H p (.lst vs.dropLast)⟩ d w := Rep.step a.rel ok Step.put _ _ rw'
        rw [← a.1]
        refine ⟨⟨W.ms, W.fz, _⟩, S, _, d, b1, rp, ρ', S', ev, fun W3 σ3 e3 a3 o3 p3 => ?_⟩
        exact q W3 σ3 (b2.trans e3.step fun p' z => .inl (b3 p' z)) a3 fun p' z => .inl (b3 p' (o3 p' z))
end
end Mi
end
section
namespace Mi
open PySem PySem.Spec L2
def okBase : Expr → Bool
  | .Call (.Name _ _) [] [] _ => false
  | _ => true
theorem base_of {o : Expr} {nm : Str} {env : PySem.Env} {w : Sem Value} (h : okBase o = true) : attributeBase o nm env w = w := by
  cases o with
  | Call f as ks p =>
    cases f with
    | Name x q =>
      cases as with
      | nil =>
        cases ks with
        | nil => cases h
        | cons _ _ => rfl
      | cons _ _ => rfl
    | _ => rfl
  | _ => rfl
theorem rng_repL {K : PySem.W.Frag} {W : Wd} : ∀ (n : Nat) (lo : Int), RepL K W (rngL lo n) ((List.range n).map fun i => V.int (lo + (i : Nat)))
  | 0, _ => .nil
  | n + 1, lo => by
    rw [rngL, List.range_succ_eq_map, List.map_cons, List.map_map]
    refine .cons (by unfold Rep; simp) ?_
    have := rng_repL (K := K) (W := W) n (lo + 1)
    have e : ((fun i : Nat => V.int (lo + (i : Nat))) ∘ Nat.succ) = fun i : Nat => V.int (lo + 1 + (i : Nat)) := by
      funext i
      simp only [Function.comp]
      congr 1
      omega
    rw [e]; exact this
section
variable {X : Cx} {Φ : Fns} {G : List D} {e e1 e2 e3 : Expr} {pos apos cpos p p2 : Pos}

theorem one_op {P : P1} {m1 : ME} {σ : St} {H : Hp} {Q : VK} (h : tR X.K Φ G (.o1 P m1) σ H Q) : tR X.K Φ G m1 σ H fun x H1 => ∃ W0 W S r S' a, W.H = H1 ∧ Rel X.K W S ∧ RepR X.K W0 W x a ∧ P.run G S a = some (r, S') ∧
    ∀ W' v, Ext W W' → Rel X.K W' S' → RepR X.K W W' v r → Q v W'.H := by
  obtain ⟨W, S, ρ, a, r, S', ev, q⟩ := h
  rw [evR] at ev
  obtain ⟨⟨x, S1⟩, ev1, ev⟩ := Mi.bind_some ev
  refine ⟨W, S, ρ, a, x, S1, ev1, fun W1 v1 f1 r1 p1 => ⟨W, W1, S1, r, S', x, rfl, r1, p1, ev, fun W2 v f2 r2 p2 => q W2 v (f1.trans f2) r2 (p2.back f1)⟩⟩
theorem two_op2 {P : P2} {m1 m2 : ME} {σ : St} {H : Hp} {Q : VK} (h : tR X.K Φ G (.o2 P m1 m2) σ H Q) : tR X.K Φ G m1 σ H fun x H1 => (∃ W0 W S a, W.H = H1 ∧ Rel X.K W S ∧ RepR X.K W0 W x a ∧ P.pre S a = true ∧ ∃ b S2 ρ, evR Φ G ρ m2 S = some (b, S2) ∧ ∃ r S', P.run G S2 a b = some (r, S')) ∧ tR X.K Φ G m2 σ H1 fun y H2 => ∃ W0 W1 W S r S' a b, W.H = H2 ∧ Rel X.K W S ∧ RepR X.K W0 W x a ∧ RepR X.K W1 W y b ∧ P.run G S a b = some (r, S') ∧
    ∀ W' v, Ext W W' → Rel X.K W' S' → RepR X.K W W' v r → Q v W'.H := by
  obtain ⟨W, S, ρ, a, r, S', ev, q⟩ := h
  rw [evR] at ev
  obtain ⟨⟨x, S1⟩, ev1, ev⟩ := Mi.bind_some ev
  split at ev
  · rename_i hp
    obtain ⟨⟨y, S2⟩, ev2, ev⟩ := Mi.bind_some ev
    refine ⟨W, S, ρ, a, x, S1, ev1, fun W1 v1 f1 r1 p1 => ⟨⟨W, W1, S1, x, rfl, r1, p1, hp, y, S2, ρ, ev2, r, S', ev⟩, W1, S1, ρ, a.ext f1 r1, y, S2, ev2, fun W2 v2 f2 r2 p2 =>
      ⟨W, W1, W2, S2, r, S', x, y, rfl, r2, p1.ext r1 f2, p2, ev, fun W3 v f3 r3 p3 => q W3 v ((f1.trans f2).trans f3) r3 (p3.back (f1.trans f2))⟩⟩⟩
  · cases ev
theorem three_op {P : P3} {m1 m2 m3 : ME} {σ : St} {H : Hp} {Q : VK} (h : tR X.K Φ G (.o3 P m1 m2 m3) σ H Q) : tR X.K Φ G m1 σ H fun x H1 => tR X.K Φ G m2 σ H1 fun y H2 => tR X.K Φ G m3 σ H2 fun z H3 => ∃ W0 W1 W2 W S r S' a b c, W.H = H3 ∧ Rel X.K W S ∧ RepR X.K W0 W x a ∧ RepR X.K W1 W y b ∧ RepR X.K W2 W z c ∧ P.run S a b c = some (r, S') ∧
    ∀ W' v, Ext W W' → Rel X.K W' S' → RepR X.K W W' v r → Q v W'.H := by
  obtain ⟨W, S, ρ, a, r, S', ev, q⟩ := h
  rw [evR] at ev
  obtain ⟨⟨x, S1⟩, ev1, ev⟩ := Mi.bind_some ev
  obtain ⟨⟨y, S2⟩, ev2, ev⟩ := Mi.bind_some ev
  obtain ⟨⟨z, S3⟩, ev3, ev⟩ := Mi.bind_some ev
  refine ⟨W, S, ρ, a, x, S1, ev1, fun W1 v1 f1 r1 p1 => ⟨W1, S1, ρ, a.ext f1 r1, y, S2, ev2, fun W2 v2 f2 r2 p2 => ⟨W2, S2, ρ, (a.ext f1 r1).ext f2 r2, z, S3, ev3, fun W3 v3 f3 r3 p3 =>
    ⟨W, W1, W2, W3, S3, r, S', x, y, z, rfl, r3, (p1.ext r1 f2).ext r2 f3, p2.ext r2 f3, p3, ev, fun W4 v f4 r4 p4 => q W4 v (((f1.trans f2).trans f3).trans f4) r4 (p4.back ((f1.trans f2).trans f3))⟩⟩⟩⟩
theorem de_lrng {m : ME} (hc : X.calm = true) (hg : Gl X "list") (hm : X.mg "list" = none) (hg2 : Gl X "range") (hm2 : X.mg "range" = none) (hs : starEach [e] X.env = (false, eval e X.env) :: starEach [] X.env) (h : DE X Φ G e m) :
    DE X Φ G (.Call (.Name "list" p) [.Call (.Name "range" p2) [e] [] apos] [] pos) (.o1 .lrng m) := by
  refine PE.imp (pe_listRg hc hg hm (prg_1 hg2 hm2 h hs)) fun σ H Q h => ?_
  unfold tLstRg tRg1
  refine tR_mono (one_op h) fun x H1 ⟨W0, W, S, r, S', a, eH, rel, ra, hr, q⟩ => ?_
  subst eH
  change (a.int?.bind fun j => if 0 ≤ j ∧ j ≤ 100000 then some (Rt.own (rngL 0 j.toNat), S) else none) = _ at hr
  obtain ⟨j, hj, hr⟩ := Mi.bind_some hr
  split at hr
  · rename_i hb
    cases hr
    have f1 := repr_int (int?_some hj ▸ ra)
    refine ⟨j, f1, RgOk.of_le (by decide) (by omega) (by decide) hb.1, fun q1 hq => ?_⟩
    refine q ⟨W.ms, W.fz, _⟩ _ (Ext.laid hq) (rel.laid hq) (RepR.laid rel hq ?_)
    have := rng_repL (K := X.K) (W := W) j.toNat 0
    unfold rgV
    rw [Int.sub_zero]; exact this
  · cases hr
theorem RepL.eraseIdx {K : PySem.W.Frag} {W : Wd} : ∀ (n : Nat) {ds : List D} {vs : List V}, RepL K W ds vs → RepL K W (ds.eraseIdx n) (vs.eraseIdx n)
  | _, [], _, h => by rw [h.nil_inv]; exact .nil
  | 0, d :: ds, _, h => by
    obtain ⟨v, r, rfl, q, t'⟩ := h.cons_inv
    exact t'
  | n + 1, d :: ds, _, h => by
    obtain ⟨v, r, rfl, q, t'⟩ := h.cons_inv
    exact .cons q (RepL.eraseIdx n t')
theorem few_one {cpos : Pos} (hs : starEach [e2] X.env = (false, eval e2 X.env) :: starEach [] X.env) : ((backTo cpos (starEach [e2] X.env)).all (fun x => !x.1) && (backToKw cpos (keywordEach [] X.env)).all (fun x => x.1.isSome)
      && decide (([e2] : List Expr).length + ([] : List Keyword).length + (if ([] : List Keyword).isEmpty then 0 else 1) < 30)) = true := by
  rw [hs]; rfl
theorem cell_ty {K : PySem.W.Frag} {W0 W : Wd} {S : Sto} {v : V} {l : Nat} {ds : List D} (rel : Rel K W S) (h : RepR K W0 W v (.val (.ref l))) (hc : S[l]? = some (.lst ds)) : ∃ p vs, v = .ref p ∧ W.ms[l]? = some p ∧ W.H p = some (.lst vs) ∧ RepL K W ds vs := by
  have h : Rep K W (.ref l) v := h
  unfold Rep at h
  obtain ⟨a, e1, e2⟩ := h
  obtain ⟨b, vs, q1, q2, q3⟩ := rel.cells l _ hc
  rw [e2] at q1; cases q1
  exact ⟨a, vs, e1, e2, q2, q3⟩
theorem split_repr {K : PySem.W.Frag} {W : Wd} {S : Sto} {ys : List Str} {q1 : Addr} (rel : Rel K W S) (hq : W.H q1 = none) : RepR K W ⟨W.ms, W.fz, upd W.H q1 (.lst (ys.map V.str))⟩ (.ref q1) (.own (ys.map .str)) := RepR.laid rel hq (RepL.ofStrs ys)
theorem de_split {m1 m2 : ME} (hs : starEach [e2] X.env = [(false, eval e2 X.env)]) (hb : okBase e1 = true) (hl : (apos.endLine == pos.line) = true) (h1 : DE X Φ G e1 m1) (h2 : DE X Φ G e2 m2) : DE X Φ G (.Call (.Attribute e1 "split" apos) [e2] [] pos) (.o2 .split m1 m2) := by
  refine PE.imp (pe_split h1 h2 hs (base_of hb) hl) fun σ H Q h => ?_
  refine tR_mono (two_op2 h) fun x H1 ⟨⟨W0, W, S, a, eH, rel, ra, hpre, b, S2, ρ, ev2, r, S', hr⟩, h⟩ => ?_
  subst eH
  have hx : ∃ z, x = .str z := by
    change (a.str?.bind _) = _ at hr
    obtain ⟨z, hz, _⟩ := Mi.bind_some hr
    exact ⟨z, repr_str (str?_some hz ▸ ra)⟩
  refine ⟨hx, ?_⟩
  refine tR_mono h fun y H2 ⟨W0, W1, W, S, r, S', a, b, eH, rel, ra, rb, hr, q⟩ => ?_
  subst eH
  change (a.str?.bind fun a => b.str?.bind fun b => if (b.length == 0) = false ∧ a.length + 2 ≤ sizeLine then some (Rt.own ((Txt.split a b).map .str), S) else none) = _ at hr
  obtain ⟨z, hz, hr⟩ := Mi.bind_some hr
  obtain ⟨z2, hz2, hr⟩ := Mi.bind_some hr
  split at hr
  · rename_i hc
    cases hr
    have f2 : y = .str z2 := repr_str (str?_some hz2 ▸ rb)
    refine ⟨z, z2, repr_str (str?_some hz ▸ ra), by rw [f2], hc.1, hc.2, fun q1 hq => ?_⟩
    exact q ⟨W.ms, W.fz, _⟩ _ (Ext.laid hq) (rel.laid hq) (split_repr rel hq)
  · cases hr
theorem de_join {m1 m2 : ME} (hs : starEach [e2] X.env = [(false, eval e2 X.env)]) (hb : okBase e1 = true) (hl : (apos.endLine == pos.line) = true) (h1 : DE X Φ G e1 m1) (h2 : DE X Φ G e2 m2) : DE X Φ G (.Call (.Attribute e1 "join" apos) [e2] [] pos) (.o2 .join m1 m2) := by
  refine PE.imp (pe_join h1 h2 hs (base_of hb) hl) fun σ H Q h => ?_
  refine tR_mono (two_op2 h) fun x H1 ⟨⟨W0, W, S, a, eH, rel, ra, hpre, b, S2, ρ, ev2, r, S', hr⟩, h⟩ => ?_
  subst eH
  have hx : ∃ z, x = .str z := by
    change (a.str?.bind _) = _ at hr
    obtain ⟨z, hz, _⟩ := Mi.bind_some hr
    exact ⟨z, repr_str (str?_some hz ▸ ra)⟩
  refine ⟨hx, ?_⟩
  refine tR_mono h fun y H2 ⟨W0, W1, W, S, r, S', a, b, eH, rel, ra, rb, hr, q⟩ => ?_
  subst eH
  change (a.str?.bind fun a => (sview S b).bind fun ds => (strs? ds).bind fun ys => if (ys.map fun y => y.length + a.length).sum ≤ 16777216 then some (Rt.val (.str (Txt.join a ys)), S) else none) = _ at hr
  obtain ⟨z, hz, hr⟩ := Mi.bind_some hr
  obtain ⟨ds, hd, hr⟩ := Mi.bind_some hr
  obtain ⟨ys, hy, hr⟩ := Mi.bind_some hr
  split at hr
  · rename_i hc
    cases hr
    obtain ⟨p, vs, rfl, hsq, l⟩ := rb.sv rel hd
    have f := l.strs hy
    subst f
    refine ⟨z, p, ys, repr_str (str?_some hz ▸ ra), rfl, hsq, ?_, q W _ (Ext.refl W) rel str_repr⟩
    have : ∀ ys : List Str, (ys.map (·.length)).sum + ys.length * z.length = (ys.map fun y => y.length + z.length).sum := fun ys => by
      induction ys with
      | nil => simp
      | cons y ys ih =>
        simp only [List.map_cons, List.sum_cons, List.length_cons]
        rw [← ih, Nat.succ_mul]; omega
    rw [this]; exact hc
  · cases hr
theorem seq_ext {K : PySem.W.Frag} {W : Wd} {ds : List D} {vs : List V} {j : Nat} {d : D} (h : RepL K W ds vs) (e : ds[j]? = some d) : ∃ v, vs[j]? = some v ∧ Rep K W d v := h.get e
theorem Ext.putM {W : Wd} {l : Nat} {p : Addr} {o : HO} (h : W.ms[l]? = some p) : Ext W ⟨W.ms, W.fz, upd W.H p o⟩ := by
  have hp : p ∈ W.ms := List.mem_of_getElem? h
  refine ⟨⟨[], by simp⟩, fun _ z => z, fun a u e n => ?_, fun a z => ?_, fun _ z => .inl z, fun _ z => .inl z⟩
  · show upd W.H p o a = _
    rw [upd_ne (fun z => n (by rw [z]; exact hp))]; exact e
  · show upd W.H p o a ≠ none
    by_cases q : a = p
    · subst q; rw [upd_same]; simp
    · rw [upd_ne q]; exact z
theorem Rel.putM {K : PySem.W.Frag} {W : Wd} {S : Sto} {l : Nat} {p : Addr} {o : HO} {c : Cell} (r : Rel K W S) (h : W.ms[l]? = some p) (hc : CellOk K ⟨W.ms, W.fz, upd W.H p o⟩ p c) : Rel K ⟨W.ms, W.fz, upd W.H p o⟩ (S.set l c) := by
  have e : Ext W ⟨W.ms, W.fz, upd W.H p o⟩ := Ext.putM h
  have hlt : l < S.length := by rw [← r.len]; exact (List.getElem?_eq_some_iff.mp h).1
  refine ⟨by rw [List.length_set]; exact r.len, r.nd, fun k c' q => ?_, r.apart, fun a ha => e.dom a (r.dom a ha)⟩
  by_cases hk : k = l
  · subst hk
    rw [List.getElem?_set_self hlt] at q
    cases q
    exact ⟨p, h, hc⟩
  · rw [List.getElem?_set_ne (Ne.symm hk)] at q
    obtain ⟨a, h1, ok⟩ := r.cell k c' q
    refine ⟨a, h1, ok.imp (fun o' h2 => ?_) (RepL.ext r e)⟩
    show upd W.H p o a = _
    rw [upd_ne ?_]
    · exact h2
    · intro z
      subst z
      obtain ⟨b1, c1⟩ := List.getElem?_eq_some_iff.mp h
      obtain ⟨b2, c2⟩ := List.getElem?_eq_some_iff.mp h1
      exact hk ((List.getElem_inj r.nd).mp (c2.trans c1.symm))
theorem de_rpop {m1 m2 : ME} (hs : starEach [e2] X.env = [(false, eval e2 X.env)]) (hb : okBase e1 = true) (hl : (apos.endLine == pos.line) = true) (h1 : DE X Φ G e1 m1) (h2 : DE X Φ G e2 m2) : DE X Φ G (.Call (.Attribute e1 "pop" apos) [e2] [] pos) (.o2 .rpop m1 m2) := by
  refine PE.imp (pe_bm PySem.F.plainAttrs_list PySem.F.slot_list_pop PySem.F.type_list_pop mt_popAt h1 (pa_cons h2 pa_nil hs) (base_of hb) (few_one hs) hl hs rfl) fun σ H Q h => ?_
  show tR X.K Φ G m1 σ H _
  refine tR_mono (two_op2 h) fun x H1 ⟨⟨W0, W, S, a, eH, rel, ra, hpre, b, S2, ρ, ev2, r, S', hr⟩, h⟩ => ?_
  subst eH
  have hx : tyV X.K "list" x W.H := by
    cases a with
    | val d =>
      cases d with
      | ref l =>
        change (cellL S l).isSome = true at hpre
        cases hc : cellL S l with
        | none => rw [hc] at hpre; cases hpre
        | some ds =>
          obtain ⟨p, vs, rfl, _, h2, _⟩ := cell_ty rel ra (cellL_some hc)
          exact .inl ⟨rfl, vs, .inl (.inl h2)⟩
      | _ => cases hpre
    | _ => cases hpre
  refine ⟨hx, ?_⟩
  show tR X.K Φ G m2 σ W.H _
  refine tR_mono h fun y H2 ⟨W0, W1, W, S, r, S', a, b, eH, rel, ra, rb, hr, q⟩ => ?_
  subst eH
  change (a.ref?.bind fun l => b.int?.bind fun k => (cellL S l).bind fun ds => if -(2 ^ 63) ≤ k ∧ k < 2 ^ 63 then (seqIndex? k ds.length).bind fun j => (ds[j]?).map fun d => (Rt.val d, S.set l (.lst (ds.eraseIdx j))) else none) = _ at hr
  obtain ⟨l, hl, hr⟩ := Mi.bind_some hr
  obtain ⟨k, hk, hr⟩ := Mi.bind_some hr
  obtain ⟨ds, hd, hr⟩ := Mi.bind_some hr
  split at hr
  · rename_i hb
    obtain ⟨j, hj, hr⟩ := Mi.bind_some hr
    obtain ⟨d, hdj, hr⟩ := map_some hr
    cases hr
    obtain ⟨p, vs, rfl, hms, h2, h3⟩ := cell_ty rel (ref?_some hl ▸ ra) (cellL_some hd)
    have f2 := repr_int (int?_some hk ▸ rb)
    subst f2
    obtain ⟨v, hv, rv⟩ := h3.get hdj
    refine ⟨p, vs, k, j, v, rfl, rfl, h2, hb.1, hb.2, by rw [h3.length]; exact hj, hv, ?_⟩
    have e3 : Ext W ⟨W.ms, W.fz, upd W.H p (.lst (vs.eraseIdx j))⟩ := Ext.putM hms
    exact q ⟨W.ms, W.fz, _⟩ _ e3 (rel.putM hms ⟨_, upd_same, RepL.ext rel e3 _ _ (RepL.eraseIdx j h3)⟩) (Rep.ext rel e3 _ _ rv)
  · cases hr
theorem de_mx3 {m1 m2 m3 : ME} (hc : X.calm = true) (hg : Gl X "max") (hm : X.mg "max" = none) (hs1 : starEach [e1, e2, e3] X.env = (false, eval e1 X.env) :: starEach [e2, e3] X.env) (hs2 : starEach [e2, e3] X.env = (false, eval e2 X.env) :: starEach [e3] X.env) (hs3 : starEach [e3] X.env = (false, eval e3 X.env) :: starEach [] X.env) (hpl : (backTo pos (starEach [e2, e3] X.env)).any (·.1) = false)
    (h1 : DE X Φ G e1 m1) (h2 : DE X Φ G e2 m2) (h3 : DE X Φ G e3 m3) : DE X Φ G (.Call (.Name "max" p) [e1, e2, e3] [] pos) (.o3 .mx3 m1 m2 m3) := by
  refine PE.imp (pe_callB (call_max3Nu hc) hg hm (by decide +kernel) (pa_cons h1 (pa_cons h2 (pa_cons h3 pa_nil hs3) hs2) hs1) (by decide) (by decide) hs1 hpl) fun σ H Q h => ?_
  unfold tCB tCons tNil
  refine tR_mono (three_op h) fun x H1 h => ?_
  refine tR_mono h fun y H2 h => ?_
  refine tR_mono h fun z H3 ⟨W0, W1, W2, W, S, r, S', a, b, c, eH, rel, ra, rb, rc, hr, q⟩ => ?_
  subst eH
  change (a.int?.bind fun i => b.int?.bind fun j => c.int?.map fun k => (Rt.val (.int (maxI i [j, k])), S)) = _ at hr
  obtain ⟨i, hi, hr⟩ := Mi.bind_some hr
  obtain ⟨j, hj, hr⟩ := Mi.bind_some hr
  obtain ⟨k, hk, hr⟩ := map_some hr
  cases hr
  have f1 := repr_int (int?_some hi ▸ ra)
  have f2 := repr_int (int?_some hj ▸ rb)
  have f3 := repr_int (int?_some hk ▸ rc)
  subst f1 f2 f3
  refine ⟨.int i, .int j, .int k, .int (maxI i [j, k]), rfl, ?_, q W _ (Ext.refl W) rel int_repr⟩
  have key : ∀ x y : Int, nuMax2 (.int x) (.int y) = some (.int (if y > x then y else x)) := fun x y => by
    have e : nuLt (.int x) (.int y) = some (decide (x < y)) := rfl
    unfold nuMax2
    by_cases h : x < y <;> simp [e, h]
  unfold nuMax3
  rw [key, Option.bind_some, key]
  rfl
end
end Mi
end
section
namespace Mi
open PySem PySem.Spec L2 PyProof.Rows
section
variable {P : Program} {w : World} {A : Around} {E : Value → Shared → Prop} {s : Shared}

abbrev freshSet (w : World) : Obj := { cls := .type "set", dict := none, data := .set #[] 0 (.fresh 0 0 (!w.params.followText "set-order")) }
theorem set_of_list {l : Addr} {its : Array Value} {ns : List Int} {Q : Value → Shared → Prop} (hh : A.handled = none) (hl : s.heap.IsList l its) (hi : IntsAre its.toList ns) (hb : ns.length + 1 < scanBound)
    (h : ∀ (h' : Heap) (tk c : Nat), SetR w h' s.heap.objs.size (fun j => decide (j ∈ ns)) c → c ≤ ns.length → (∀ b o, s.heap.get? b = some o → h'.get? b = some o) → Q (.ref s.heap.objs.size) { s with heap := h', toks := tk }) :
    wpAny (model P w) A (call (.type "set") [.ref l]) Q E s := by
  have len : its.size = ns.length := by simpa using IntsAre.length hi
  have at_ : ∀ (i : Nat) (v : Value), its[i]? = some v → ∃ k t, ns[i]? = some k ∧ v = .int k t := fun i v e => by
    have lt : i < ns.length := len ▸ (Array.getElem?_eq_some_iff.mp e).1
    obtain ⟨t, z⟩ := IntsAre.int_at hi i v ((Array.getElem?_toList ..).trans e)
    exact ⟨ns[i], t, List.getElem?_eq_getElem lt, by rw [z, List.getD_eq_getElem?_getD, List.getElem?_eq_getElem lt]; rfl⟩
  have got : (s.heap.push (freshSet w)).get? s.heap.objs.size = some (freshSet w) := Heap.get?_push_size _ rfl
  have ty : Shared.TypeIs { s with heap := s.heap.push (freshSet w) } (.ref s.heap.objs.size) "set" := ⟨_, got, rfl⟩

  have init : ∀ (A' : Around), A'.handled = none → codeAny (model P w) A' (.call (.builtin "set.__init__") ⟨[.ref s.heap.objs.size, .ref l], []⟩)
      (wants (fun r s₂ => r = .none ∧ Q (.ref s.heap.objs.size) s₂) E) { s with heap := s.heap.push (freshSet w) } := fun A' ha => by
    refine codeAny_call_builtin F.called_set.init.plain F.entry_set_init (check_set_init_1 ty ?_)
    obtain ⟨⟨ocls, odict, odata, oslots⟩, hol, hcl, nl, hdl⟩ := id hl
    simp only at hcl hdl
    subst hcl hdl
    have hol' := Heap.get?_push_of_some (freshSet w) hol
    have l1 : (s.heap.push (freshSet w)).IsList l its := ⟨_, hol', rfl, nl, rfl⟩
    have s1 := F.sub_list_set
    have s2 := F.sub_list_frozenset
    have s3 : (Value.type "list" == Value.type "dict") = false := by decide
    unfold Builtin.«set.__init__» noKeywords Builtin.Frozenset.updateFrom
    generalize hPI : pyIter = PI
    wp_walk
    subst hPI
    refine wpAny_pyIter_list l1 (wpAny_bind (wpAny_runValue ?_))
    have lt := Heap.lt_size hol
    have sz : (s.heap.push (freshSet w)).objs.size = s.heap.objs.size + 1 := Heap.size_push ..
    have ne : l ≠ (s.heap.push (freshSet w)).objs.size := fun z => Nat.lt_irrefl _ (Nat.lt_of_lt_of_eq (Nat.lt_succ_of_lt lt) (sz.symm.trans z.symm))
    have out : s.heap.objs.size ∉ [(s.heap.push (freshSet w)).objs.size, l] := fun z => by
      rcases List.mem_cons.mp z with z | z
      · exact Nat.lt_irrefl _ (Nat.lt_of_lt_of_eq (Nat.lt_succ_self _) (sz.symm.trans z.symm))
      · exact Nat.lt_irrefl _ (Nat.lt_of_lt_of_eq lt (List.mem_singleton.mp z))
    refine set_update_ints (Walks.list (by simp [ha]) _ l ne its).toS s.heap.objs.size out ns len hb at_ its.size 0 _ rfl (Nat.zero_le _) ⟨⟨_, Heap.get?_push_size _ rfl, rfl, rfl⟩, l1.push _⟩ ⟨0, Nat.le_refl 0, setR_new_at (Heap.get?_push_of_some _ got)⟩ fun s' c mv hc hS => ?_
    obtain ⟨h', g2, d2, tk2, os2⟩ := s'
    obtain rfl : g2 = s.gens := mv.gens
    obtain rfl : d2 = s.drawn := mv.drawn
    obtain rfl : os2 = s.os := mv.os
    show wpAny _ _ _ _ _ _
    refine wpAny_pure (show wpAny _ _ (ret Value.none) _ _ _ from wpAny_pure ⟨rfl, h h' tk2 c hS (len ▸ hc) fun b o e => ?_⟩)
    have lb := Heap.lt_size e
    refine mv.heap b o (fun z => ?_) (Heap.get?_push_of_some _ (Heap.get?_push_of_some _ e))
    rcases List.mem_cons.mp z with z | z
    · exact Nat.lt_irrefl _ (Nat.lt_of_lt_of_eq lb z.symm)
    · exact Nat.lt_irrefl _ (Nat.lt_of_lt_of_eq (Nat.lt_succ_of_lt lb) (sz.symm.trans (List.mem_singleton.mp z).symm))
  obtain ⟨c, tl, hmro⟩ := F.called_set.mro
  have hmade := F.called_set.made
  have hsub := F.called_set.sub
  have h1 := F.called_set.notType
  have h2 := F.called_set.canCreate
  have hct := F.typeCall_set_1 (.ref l)
  refine wpAny_call (codeAny_of_tree (show wpAny _ _ (callAny (.type "set") _) _ _ _ from ?_))
  refine wpAny_pure ⟨Code.quiet_builtin _ (by decide +kernel), codeAny_builtin F.entry_type_call ?_⟩
  rw [Around.under_plain (weight_type_call_type "set" [.ref l] []) rfl]
  repeat (any_goals (first | assumption | wp_step))
  refine codeAny_mono (code_set_led1 (.ref l) (E := E) (Q₁ := fun obj s₁ => obj = .ref s.heap.objs.size ∧ s₁ = { s with heap := s.heap.push (freshSet w) }) ⟨rfl, rfl⟩) fun r s₁ hr => ?_
  rcases r with e | fl
  · exact hr
  cases fl with
  | ret obj =>
    obtain ⟨rfl, rfl⟩ := hr
    have hli := F.called_set.init.lookup
    have hbi := F.called_set.init.bind (.ref s.heap.objs.size)
    repeat (any_goals (first | assumption | wp_step))
    refine codeAny_mono (init _ (by simp [hh])) fun r₂ s₂ hr₂ => ?_
    rcases r₂ with e | fl₂
    · exact hr₂
    cases fl₂ with
    | ret r =>
      obtain ⟨rfl, hq⟩ := hr₂
      repeat (any_goals (first | assumption | wp_step))
    | _ => exact hr₂.elim
  | _ => exact hr.elim
end

theorem uniq_mem (x : Int) : ∀ l : List Int, x ∈ uniq l ↔ x ∈ l
  | [] => Iff.rfl
  | y :: l => by
    unfold uniq
    split
    · rename_i h
      rw [uniq_mem x l, List.mem_cons]
      exact ⟨.inr, fun z => z.elim (fun e => by rw [e]; exact h) id⟩
    · rw [List.mem_cons, uniq_mem x l, List.mem_cons]
theorem uniq_nodup : ∀ l : List Int, (uniq l).Nodup
  | [] => .nil
  | y :: l => by
    unfold uniq
    split
    · exact uniq_nodup l
    · rename_i h
      exact List.nodup_cons.mpr ⟨fun z => h ((uniq_mem y l).mp z), uniq_nodup l⟩
theorem len_of_mem {a b : List Int} (ha : a.Nodup) (hb : b.Nodup) (h : ∀ x, x ∈ a ↔ x ∈ b) : a.Perm b := by
  rw [List.perm_iff_count]
  intro x
  rw [ha.count, hb.count]
  simp only [h x]
theorem lt_nodup {a : List Int} (h : a.Pairwise (· < ·)) : a.Nodup := h.imp fun z => Int.ne_of_lt z
theorem lt_le {a : List Int} (h : a.Pairwise (· < ·)) : a.Pairwise (· ≤ ·) := h.imp fun z => Int.le_of_lt z
theorem setR_size {w : World} {h : Heap} {a : Addr} {ns : List Int} {c : Nat} (R : SetR w h a (fun j => decide (j ∈ ns)) c) : c = (uniq ns).length := by
  obtain ⟨o, es, ep, t, ho, hex, hd, g, nd, hm, hb, hf, hn, hr, hl⟩ := R
  have : (es.toList.map keyOf).Perm (uniq ns) := len_of_mem nd (uniq_nodup ns) fun x => by
    rw [uniq_mem, ← hm x]; exact decide_eq_true_iff
  rw [← this.length_eq, List.length_map, Array.length_toList, hn]
section
variable {X : Cx} {Φ : Fns} {G : List D} {e e1 e2 : Expr} {pos apos cpos p p2 q0 : Pos}

theorem set_then {te : TE} {Qx : Value → Shared → Prop} {pins : List (Addr × Obj)} {s : Shared} {σ : L2.St} {H : Hp} (hc : X.calm = true) (hg : Gl X "set") (hm : X.mg "set" = none) (hs : starEach [e] X.env = (false, eval e X.env) :: starEach [] X.env) (he : PE X e te) (I : Inv X pins σ H s)
    (h : te σ H fun x H1 => ∃ (l : Addr) (ns : List Int), x = .ref l ∧ (SqL X.K H1 l (ns.map V.int) ∨ SqT X.K H1 l (ns.map V.int)) ∧ ns.length + 1 < scanBound ∧ ∀ (s1 : Shared) (a : Addr), Inv X pins σ H1 s1 → SetR X.w s1.heap a (fun j => decide (j ∈ ns)) (uniq ns).length → Qx (.ref a) s1) :
    wpAny (model X.prog X.w) X.A (eval (.Call (.Name "set" p2) [e] [] q0) X.env) Qx X.xe s := by
  refine Call_ (ld_blt I hg hm boot_set ?_)
  refine PyProof.Rows.callWith_type1 (PyProof.Rows.args_cons (thn (he.run pins s σ H _ I h) fun v s1 ⟨x, H1, I1, r1, q1⟩ => PyProof.Rows.args_nil ?_) hs) hs rfl
  obtain ⟨l, ns, rfl, hq, hb, q⟩ := q1
  cases r1
  have fin : ∀ (h' : Heap) (tk c : Nat), SetR X.w h' s1.heap.objs.size (fun j => decide (j ∈ ns)) c → c ≤ ns.length → (∀ b o, s1.heap.get? b = some o → h'.get? b = some o) → Qx (.ref s1.heap.objs.size) { s1 with heap := h', toks := tk } := fun h' tk c R _ k => by
    have := setR_size R
    subst this
    exact q _ _ (I1.kept k) R
  rcases hq with hq | hq
  · obtain ⟨its, r, pl, hz⟩ := I1.list hq
    exact set_of_list (I1.ok.hd hc) pl.isList (by simpa using intsAre_of r) hb fin
  · obtain ⟨its, r, pl, hz⟩ := I1.tuple hq
    exact call_set_tupI ns (I1.ok.hd hc) pl (by simpa using intsAre_of r) hb fin
theorem de_lset {m : ME} (hc : X.calm = true) (hg : Gl X "len") (hm : X.mg "len" = none) (hg2 : Gl X "set") (hm2 : X.mg "set" = none) (hs : starEach [e] X.env = (false, eval e X.env) :: starEach [] X.env) (h : DE X Φ G e m) :
    DE X Φ G (.Call (.Name "len" p) [.Call (.Name "set" p2) [e] [] q0] [] pos) (.o1 .lset m) := by
  refine ⟨fun pins s σ H Q I hw => ?_⟩
  refine Call_ (ld_blt I hg hm boot_len (PyProof.Rows.callWith_builtin1 (PyProof.Rows.args_cons ?_ rfl) rfl rfl))
  have hw := one_op hw
  refine set_then hc hg2 hm2 hs h I (tR_mono hw fun x H1 ⟨W0, W, S, r, S', a, eH, rel, ra, hr, q⟩ => ?_)
  subst eH
  change ((sview S a).bind fun ds => (ints? ds).bind fun is => if is.length ≤ 1000 ∧ (uniq is).length < 64 then some (Rt.val (.int (uniq is).length), S) else none) = _ at hr
  obtain ⟨ds, hd, hr⟩ := Mi.bind_some hr
  obtain ⟨is, hi, hr⟩ := Mi.bind_some hr
  split at hr
  · rename_i hb
    cases hr
    obtain ⟨l, vs, rfl, hsq, lr⟩ := ra.sv rel hd
    have f := lr.ints hi
    subst f
    refine ⟨l, is, rfl, hsq, by unfold scanBound; omega, fun s1 a I1 R => PyProof.Rows.args_nil ?_⟩
    obtain ⟨o, es, ep, t, ho, hex, hd, g, nd, hm, hb2, hf, hn, hr, hl⟩ := R
    exact call_len_set ho hex hd hf (by omega) ⟨.int (uniq is).length, W.H, I1.tok _, ⟨_, by rw [hn]⟩, q W _ (Ext.refl W) rel int_repr⟩
  · cases hr
theorem de_sset {m : ME} (hc : X.calm = true) (hg : Gl X "sorted") (hm : X.mg "sorted" = none) (hg2 : Gl X "set") (hm2 : X.mg "set" = none) (hs : starEach [e] X.env = (false, eval e X.env) :: starEach [] X.env) (h : DE X Φ G e m) :
    DE X Φ G (.Call (.Name "sorted" p) [.Call (.Name "set" p2) [e] [] q0] [] pos) (.o1 .sset m) := by
  refine ⟨fun pins s σ H Q I hw => ?_⟩
  refine Call_ (ld_blt I hg hm boot_sorted (PyProof.Rows.callWith_builtin1 (PyProof.Rows.args_cons ?_ rfl) rfl rfl))
  have hw := one_op hw
  refine set_then hc hg2 hm2 hs h I (tR_mono hw fun x H1 ⟨W0, W, S, r, S', a, eH, rel, ra, hr, q⟩ => ?_)
  subst eH
  change ((sview S a).bind fun ds => (ints? ds).bind fun is => if is.length ≤ 1000 ∧ (uniq is).length < 64 then some (Rt.own ((sortI (uniq is)).map .int), S) else none) = _ at hr
  obtain ⟨ds, hd, hr⟩ := Mi.bind_some hr
  obtain ⟨is, hi, hr⟩ := Mi.bind_some hr
  split at hr
  · rename_i hb
    cases hr
    obtain ⟨l, vs, rfl, hsq, lr⟩ := ra.sv rel hd
    have f := lr.ints hi
    subst f
    refine ⟨l, is, rfl, hsq, by unfold scanBound; omega, fun s1 a I1 R => PyProof.Rows.args_nil ?_⟩
    refine sorted_set R (I1.ok.hd hc) hb.2 fun s' p' out c ns k g o hp ho hi2 hs2 hm2 hl2 => ?_
    have en : ns = sortI (uniq is) := sorted_one ((len_of_mem (lt_nodup hs2) (uniq_nodup is) fun x => by
      rw [hm2 x, uniq_mem]; exact decide_eq_true_iff).trans (sortI_perm _).symm) (lt_le hs2) (sortI_sorted _)
    subst en
    have hlen : ((sortI (uniq is)).map V.int).length ≤ sizeLine := by rw [List.length_map, hl2, sizeLine_eq]; omega
    have hn : W.H p' = none := I1.hok.fresh hp
    have J : Inv X pins σ (upd W.H p' (.lst ((sortI (uniq is)).map V.int))) { s1 with heap := s'.heap, gens := s'.gens, drawn := s'.drawn, toks := s'.toks } :=
      I1.call (ch := []) (Un.laid k hp hn) (I1.hok.laid k hp ⟨hlen, out.toList, c, vals_of_ints hi2, ho⟩) (by rw [g]; exact I1.bare) (fun _ z => nomatch z)
    have e' : s' = { s1 with heap := s'.heap, gens := s'.gens, drawn := s'.drawn, toks := s'.toks } := by
      obtain ⟨b1, b2, b3, b4, b5⟩ := s'
      obtain rfl : b5 = s1.os := o
      rfl
    rw [e']
    exact ⟨.ref p', _, J, rfl, q ⟨W.ms, W.fz, _⟩ _ (Ext.laid hn) (rel.laid hn) (RepR.laid rel hn (RepL.ofInts _))⟩
  · cases hr
theorem filter_map {α β : Type} {f : α → Option β} {g : α → β} : ∀ {l : List α}, (∀ x, x ∈ l → f x = some (g x)) → l.filterMap f = l.map g
  | [], _ => rfl
  | x :: l, h => by
    rw [List.filterMap_cons, h x List.mem_cons_self, List.map_cons, filter_map fun y hy => h y (List.mem_cons_of_mem _ hy)]
theorem turned_pick (xs : Array Value) : ((List.range xs.size).filterMap fun (m : Nat) => xs[(((xs.size : Int) - 1) + (m : Int) * (-1)).toNat]?).toArray = xs.toList.reverse.toArray := by
  congr 1
  refine List.ext_getElem? fun i => ?_
  have e : (List.range xs.size).filterMap (fun (m : Nat) => xs[(((xs.size : Int) - 1) + (m : Int) * (-1)).toNat]?) = (List.range xs.size).map fun m => xs.toList.reverse[m]?.getD Value.none := by
    refine filter_map fun m hm => ?_
    have hm := List.mem_range.mp hm
    have h1 : (((xs.size : Int) - 1) + (m : Int) * (-1)).toNat = xs.size - 1 - m := by omega
    have hl : xs.size - 1 - m < xs.size := by omega
    rw [h1, List.getElem?_reverse (by simpa using hm), Array.length_toList, Array.getElem?_toList, Array.getElem?_eq_getElem hl]
    rfl
  rw [e, List.getElem?_map]
  by_cases hi : i < xs.size
  · have hi' : i < xs.toList.reverse.length := by simpa using hi
    rw [List.getElem?_range hi, Option.map_some, List.getElem?_eq_getElem hi']
    rfl
  · rw [List.getElem?_eq_none (by simpa using hi), List.getElem?_eq_none (by simpa using hi)]
    rfl
theorem tup_turned {A : Around} {E : Value → Shared → Prop} {s : Shared} {prog : Program} {w : World} {t sl : Addr} {its : Array Value} {vl vu vs : Value} {Q : Value → Shared → Prop} (ht : IsTup s.heap t its) (hs : s.heap.IsSliceOf sl vl vu vs) (pl : IsPart vl none) (pu : IsPart vu none) (ps : IsPart vs (some (-1)))
    (h : Q (.ref s.heap.objs.size) { s with heap := s.heap.push { cls := .type "tuple", data := .seq its.toList.reverse.toArray } }) (hsz : its.size ≤ sizeLine) : wpAny (model prog w) A (getItem (.ref t) (.ref sl)) Q E s := by
  obtain ⟨os, hos, hcs, hds⟩ := id hs
  have tys : s.TypeIs (.ref sl) "slice" := ⟨os, hos, hcs⟩
  have fits : sizeOk (.seq its.toList.reverse.toArray) := by
    show its.toList.reverse.toArray.size ≤ sizeLine
    rw [List.size_toArray, List.length_reverse, Array.length_toList]; exact hsz
  unfold getItem
  try with_reducible refine wpAny_holding ?_
  first | refine wpAny_bind (wpAny_pure ?_) | skip
  refine wpAny_bind (wpAny_sequenceKey ht.typeIs (by decide) (wpAny_bind (wpAny_callSpecial?_slot (name := Str.ofString "__getitem__") ht.typeIs PyProof.Rows.slot_tuple_getitem (wpAny_call_entry PyProof.Rows.slot_tuple_getitem ht.typeIs PyProof.Rows.entry_tuple_getitem ?_ (PyProof.Rows.args_tuple_getitem _ _)))))
  refine wpAny_bind (m := Builtin.Tuple.tupleItemsOf (.ref t)) (PyProof.Rows.tupleItemsOf_ ht (wpAny_bind (wpAny_typeOf tys ?_)))
  rw [if_pos (by decide)]
  have app : ∀ {Q' : Int × Int × Nat → Shared → Prop}, Q' ((its.size : Int) - 1, -1, its.size) s → wpAny (model prog w) A.in1 (Builtin.Slice.sliceApplied (.ref sl) (pure (its.size : Int))) Q' E s := fun {Q'} hq => by
    unfold Builtin.Slice.sliceApplied Builtin.Slice.sliceFields
    refine wpAny_bind (wpAny_bind (wpAny_field hos hds (x := vl) rfl (wpAny_bind (wpAny_field hos hds (x := vu) rfl (wpAny_bind (wpAny_field hos hds (x := vs) rfl (wpAny_pure (wpAny_bind (HT.slicePart_ ps ?_))))))))) 
    show wpAny _ _ (if ((-1 : Int) == 0) = true then _ else _) _ _ s
    rw [if_neg (by decide)]
    refine wpAny_bind (HT.slicePart_ pl (wpAny_bind (HT.slicePart_ pu (wpAny_bind (wpAny_pure ?_)))))
    have e1 : Builtin.Slice.sliceAdjust none none (-1) (its.size : Int) = ((its.size : Int) - 1, -1) := rfl
    have e2 : Builtin.Slice.slicePlaces ((its.size : Int) - 1) (-1) (-1) = its.size := by
      unfold Builtin.Slice.slicePlaces
      have h1 : ¬ (-1 : Int) > 0 := by omega
      have h2 : (- -1 : Int) = 1 := rfl
      simp only [h1, if_false, h2, Int.ediv_one]
      split <;> omega
    show wpAny _ _ (match Builtin.Slice.sliceAdjust none none (-1) (its.size : Int) with | (lo, hi) => pure (lo, (-1 : Int), Builtin.Slice.slicePlaces lo hi (-1))) _ _ s
    rw [e1]
    show wpAny _ _ (pure ((its.size : Int) - 1, (-1 : Int), Builtin.Slice.slicePlaces ((its.size : Int) - 1) (-1) (-1))) _ _ s
    rw [e2]
    exact wpAny_pure hq
  refine wpAny_bind (app ?_)
  show wpAny _ _ (if (((its.size : Int) - 1 == 0) && (-1 : Int) == 1 && its.size == its.size) = true then _ else _) _ _ s
  rw [if_neg (by rw [show ((-1 : Int) == 1) = false from rfl, Bool.and_false, Bool.false_and]; decide), turned_pick]
  first
    | exact wpAny_bind (m := Builtin.Tuple.tupleExact _) (wpAny_newObj_type (wpAny_pure ⟨_, rfl, wpAny_pure h⟩) fits)
    | exact wpAny_bind (wpAny_bind (m := Builtin.Tuple.tupleExact _) (wpAny_newObj_type (wpAny_pure ⟨_, rfl, wpAny_pure h⟩) fits))

def tTurn (K : PySem.W.Frag) (te : TE) : TE := fun σ H Q => te σ H fun x H1 => ∃ a xs, x = .ref a ∧ ((SqL K H1 a xs ∧ ∀ p, H1 p = none → Q (.ref p) (upd H1 p (.lst xs.reverse))) ∨ (SqT K H1 a xs ∧ ∀ p, H1 p = none → Q (.ref p) (upd H1 p (.tup xs.reverse))))
theorem pe_turn {te : TE} {k : Nat} {q1 q2 q3 : Pos} (he : PE X e te) : PE X (.Subscript e (.Slice none none (some (.UnaryOp .USub (.Constant (.int 1) k q1) q2)) q3) pos) (tTurn X.K te) := by
  refine ⟨fun pins s σ H Q I h => Subscript_ (thn (he.run pins s σ H _ I h) fun v s1 ⟨x, H1, I1, r1, a, xs, ex, hx⟩ => ?_)⟩
  subst ex
  cases r1
  have hst : PO X (some (.UnaryOp .USub (.Constant (.int 1) k q1) q2)) (tPart (tUn (rU fun i => .int (-i)) (tC (.int 1)))) := po_some (pe_un un_neg pe_int)
  refine wpAny_Slice (thn (po_none.run pins s1 σ H1 (fun o H2 => o = none ∧ H2 = H1) I1 ⟨rfl, rfl⟩) fun vl s2 ⟨l, H2, I2, pl, el, e2⟩ => ?_)
  subst el e2
  refine thn (po_none.run pins s2 σ H2 (fun o H3 => o = none ∧ H3 = H2) I2 ⟨rfl, rfl⟩) fun vu s3 ⟨u, H3, I3, pu, eu, e3⟩ => ?_
  subst eu e3
  refine thn (hst.run pins s3 σ H3 (fun o H4 => o = some (-1) ∧ H4 = H3) I3 ⟨1, rfl, -1, rfl, rfl, rfl⟩) fun vs s4 ⟨o, H4, I4, ps, eo, e4⟩ => ?_
  subst eo e4
  obtain ⟨s5, e5⟩ : ∃ s5, s5 = ({ s4 with heap := s4.heap.push { cls := .type "slice", data := .fields #[vl, vu, vs] } } : Shared) := ⟨_, rfl⟩
  have I5 : Inv X pins σ H4 s5 := e5 ▸ I4.kept (t' := s4.toks) fun b ob q => Heap.get?_push_of_some _ q
  have sl5 : s5.heap.IsSliceOf s4.heap.objs.size vl vu vs := e5 ▸ Heap.IsSliceOf.new _ vl vu vs
  show wpAny (model X.prog X.w) X.A (subscriptTail e (.Slice none none (some (.UnaryOp .USub (.Constant (.int 1) k q1) q2)) q3) (.ref a) (.ref s4.heap.objs.size)) (EP X pins σ Q) X.xe { s4 with heap := s4.heap.push { cls := .type "slice", data := .fields #[vl, vu, vs] } }
  rw [← e5]
  rcases hx with ⟨hx, q⟩ | ⟨hx, q⟩
  · obtain ⟨its, r, ht, hz⟩ := I5.list hx
    refine tail_any (ops := [.ref a, .ref s4.heap.objs.size]) ht.isList.typeIs (PySem.slot_list_getitem.lookup) (wpAny_getItem_list_slice ht.isList sl5 pl pu ps (by decide) ?_ (by rw [List.size_toArray]; exact Nat.le_trans (Nat.le_of_eq r.length.symm) hz)) (by with_unfolding_all rfl)
    rw [PySem.W.krv_pick]
    exact ⟨.ref _, _, I5.laid (t' := s5.toks) (o := .lst xs.reverse) (fun b ob q => Heap.get?_push_of_some _ q) (Nat.le_refl _) ⟨by rw [List.length_reverse]; exact hz, _, 0, r.reverse, Heap.get?_push_size _ rfl⟩, rfl, q _ (I5.hok.fresh (Nat.le_refl _))⟩
  · obtain ⟨its, r, ht, hz⟩ := I5.tuple hx
    refine tail_any (ops := [.ref a, .ref s4.heap.objs.size]) ht.typeIs (PyProof.Rows.slot_tuple_getitem.lookup) (tup_turned ht sl5 pl pu ps ?_ (by rw [List.size_toArray]; exact Nat.le_trans (Nat.le_of_eq r.length.symm) hz)) (by with_unfolding_all rfl)
    exact ⟨.ref _, _, I5.laid (t' := s5.toks) (o := .tup xs.reverse) (fun b ob q => Heap.get?_push_of_some _ q) (Nat.le_refl _) ⟨by rw [List.length_reverse]; exact hz, _, r.reverse, IsTup.new _ _⟩, rfl, q _ (I5.hok.fresh (Nat.le_refl _))⟩
theorem de_rev {m : ME} {k : Nat} {q1 q2 q3 : Pos} (h : DE X Φ G e m) : DE X Φ G (.Subscript e (.Slice none none (some (.UnaryOp .USub (.Constant (.int 1) k q1) q2)) q3) pos) (.o1 .rev m) := by
  refine PE.imp (pe_turn h) fun σ H Q h => ?_
  refine tR_mono (one_op h) fun x H1 ⟨W0, W, S, r, S', a, eH, rel, ra, hr, q⟩ => ?_
  subst eH
  change (match a.tup? with | some (ds : List D) => some (Rt.val (.tup ds.reverse), S) | none => (lview S a).map fun (ds : List D) => (Rt.own ds.reverse, S)) = _ at hr
  cases ht : a.tup? with
  | some ds =>
    rw [ht] at hr
    cases hr
    have h1 : Rep X.K W (.tup ds) x := by rw [tup?_some ht] at ra; exact ra
    unfold Rep at h1
    obtain ⟨p, vs, rfl, hs, l⟩ := h1
    exact ⟨p, vs, rfl, .inr ⟨hs, fun q1 hq => q ⟨W.ms, W.fz, _⟩ _ (Ext.laid hq) (rel.laid hq) (Rep.laidT rel hq l.reverse)⟩⟩
  | none =>
    rw [ht] at hr
    obtain ⟨ds, hd, hr⟩ := map_some hr
    cases hr
    obtain ⟨p, vs, rfl, hs, l⟩ := ra.lv rel hd
    exact ⟨p, vs, rfl, .inl ⟨hs, fun q1 hq => q ⟨W.ms, W.fz, _⟩ _ (Ext.laid hq) (rel.laid hq) (RepR.laid rel hq l.reverse)⟩⟩
end
end Mi
end
section
namespace Mi
open PySem PySem.Spec L2
section
variable {X : Cx} {Φ : Fns} {G : List D} {e e1 e2 : Expr} {pos apos cpos p p2 q0 : Pos}

theorem de_lrng2 {m1 m2 : ME} (hc : X.calm = true) (hg : Gl X "list") (hm : X.mg "list" = none) (hg2 : Gl X "range") (hm2 : X.mg "range" = none) (hs1 : starEach [e1, e2] X.env = (false, eval e1 X.env) :: starEach [e2] X.env) (hs2 : starEach [e2] X.env = (false, eval e2 X.env) :: starEach [] X.env) (h1 : DE X Φ G e1 m1) (h2 : DE X Φ G e2 m2) :
    DE X Φ G (.Call (.Name "list" p) [.Call (.Name "range" p2) [e1, e2] [] apos] [] pos) (.o2 .lrng2 m1 m2) := by
  refine PE.imp (pe_listRg hc hg hm (prg_2 hg2 hm2 h1 h2 hs1 hs2 (by rw [hs2]; rfl))) fun σ H Q h => ?_
  unfold tLstRg tRg2
  refine tR_mono (two_op2 h) fun x H1 ⟨_, h⟩ => ?_
  refine tR_mono h fun y H2 ⟨W0, W1, W, S, r, S', a, b, eH, rel, ra, rb, hr, q⟩ => ?_
  subst eH
  change (a.int?.bind fun i => b.int?.bind fun j => if 0 ≤ i ∧ i ≤ j ∧ j ≤ 100000 then some (Rt.own (rngL i (j - i).toNat), S) else none) = _ at hr
  obtain ⟨i, hi, hr⟩ := Mi.bind_some hr
  obtain ⟨j, hj, hr⟩ := Mi.bind_some hr
  split at hr
  · rename_i hb
    cases hr
    have f1 := repr_int (int?_some hi ▸ ra)
    have f2 := repr_int (int?_some hj ▸ rb)
    refine ⟨i, j, f1, f2, RgOk.of_le (by omega) (by omega) (by omega) (by omega), fun q1 hq => ?_⟩
    refine q ⟨W.ms, W.fz, _⟩ _ (Ext.laid hq) (rel.laid hq) (RepR.laid rel hq ?_)
    have := rng_repL (K := X.K) (W := W) (j - i).toNat i
    unfold rgV
    exact this
  · cases hr

theorem flat_rep {K : PySem.W.Frag} {W : Wd} {d : D} {v : V} (h : Rep K W d v) (f : flatD d = true) : v = vOf d ∧ flatV v = true := by
  cases d with
  | non => unfold Rep at h; subst h; exact ⟨rfl, rfl⟩
  | bl b => unfold Rep at h; subst h; exact ⟨rfl, rfl⟩
  | int i => unfold Rep at h; subst h; exact ⟨rfl, rfl⟩
  | str i => unfold Rep at h; subst h; exact ⟨rfl, rfl⟩
  | _ => cases f
theorem flat_repL {K : PySem.W.Frag} {W : Wd} : ∀ {ds : List D} {vs : List V}, RepL K W ds vs → ds.all flatD = true → vs = ds.map vOf ∧ vs.all flatV = true
  | [], vs, h, _ => by rw [h.nil_inv]; exact ⟨rfl, rfl⟩
  | d :: ds, vs, h, f => by
    obtain ⟨v, r, rfl, q, t⟩ := h.cons_inv
    rw [List.all_cons, Bool.and_eq_true] at f
    obtain ⟨e1, f1⟩ := flat_rep q f.1
    obtain ⟨e2, f2⟩ := flat_repL t f.2
    exact ⟨by rw [e1, e2]; rfl, by rw [List.all_cons, f1, f2]; rfl⟩
def rCntF (K : PySem.W.Frag) : V → List V → Hp → VK → Prop := fun x xs H Q => ∃ (a : Addr) (ys : List V) (y : V), x = V.ref a ∧ xs = [y] ∧ SqL K H a ys ∧ flatV y = true ∧ ys.all flatV = true ∧ Q (.int ((ys.countP fun z => eqV z y : Nat) : Int)) H
theorem countP_eqU {y : V} : ∀ {ys : List V} {us : List Value}, Vals ys us → ys.all flatV = true → us.countP (eqU y) = ys.countP fun z => eqV z y
  | _, _, .nil, _ => rfl
  | z :: ys, u :: us, .cons r t, f => by
    rw [List.all_cons, Bool.and_eq_true] at f
    rw [List.countP_cons, List.countP_cons, countP_eqU t f.2, eqU_of r f.1]
theorem mt_countF : MtR X "list.count" (rCntF X.K) := by
  intro pins s σ H x xs v us Q I rx rxs h
  obtain ⟨a, ys, y, rfl, rfl, hs, fy, fys, q⟩ := h
  cases rx
  obtain ⟨uy, rfl, ry⟩ := rxs.one
  obtain ⟨its, rv, ⟨⟨cls, dd, data, sl⟩, n, ho, hc, hdn, hd⟩, hlen⟩ := I.list hs
  simp only at hc hd
  subst hc hd
  refine call_meets PySem.F.slot_list_count ⟨_, ho, rfl⟩ PySem.F.entry_list_count (PySem.F.args_list_count_2 _ _) (SeqAt.list_countAt a its.toArray n dd sl uy (eqU y)) ⟨ho, fun u hu => mem_eqAt ry fy rv fys u (by simpa using hu), ?_⟩
  refine ⟨.int ((ys.countP fun z => eqV z y : Nat) : Int), H, I.tok _, ⟨s.toks, ?_⟩, q⟩
  rw [← countP_eqU rv fys]
theorem lv_ty {K : PySem.W.Frag} {W0 W : Wd} {S : Sto} {v : V} {r : Rt} {ds : List D} (rel : Rel K W S) (h : RepR K W0 W v r) (e : lview S r = some ds) : tyV K "list" v W.H := by
  obtain ⟨p, vs, rfl, hs, l⟩ := h.lv rel e
  exact .inl ⟨rfl, vs, hs⟩
theorem de_count {m1 m2 : ME} (hs : starEach [e2] X.env = [(false, eval e2 X.env)]) (hb : okBase e1 = true) (hl : (apos.endLine == pos.line) = true) (h1 : DE X Φ G e1 m1) (h2 : DE X Φ G e2 m2) : DE X Φ G (.Call (.Attribute e1 "count" apos) [e2] [] pos) (.o2 .count m1 m2) := by
  refine PE.imp (pe_bm PySem.F.plainAttrs_list PySem.F.slot_list_count PySem.F.type_list_count mt_countF h1 (pa_cons h2 pa_nil hs) (base_of hb) (few_one hs) hl hs rfl) fun σ H Q h => ?_
  show tR X.K Φ G m1 σ H _
  refine tR_mono (two_op2 h) fun x H1 ⟨⟨W0, W, S, a, eH, rel, ra, hpre, b, S2, ρ, ev2, r, S', hr⟩, h⟩ => ?_
  subst eH
  change (lview S a).isSome = true at hpre
  obtain ⟨ds0, hd0⟩ := Option.isSome_iff_exists.mp hpre
  refine ⟨lv_ty rel ra hd0, ?_⟩
  show tR X.K Φ G m2 σ W.H _
  refine tR_mono h fun y H2 ⟨W0, W1, W, S, r, S', a, b, eH, rel, ra, rb, hr, q⟩ => ?_
  subst eH
  change ((lview S a).bind fun ds => b.val?.bind fun x => if flatD x = true ∧ ds.all flatD = true then some (Rt.val (.int ((ds.map vOf).countP fun z => eqV z (vOf x))), S) else none) = _ at hr
  obtain ⟨ds, hd, hr⟩ := Mi.bind_some hr
  obtain ⟨d, hv, hr⟩ := Mi.bind_some hr
  split at hr
  · rename_i hc
    cases hr
    obtain ⟨p, vs, rfl, hs, l⟩ := ra.lv rel hd
    have rb' : Rep X.K W d y := by rw [val?_some (r := b) hv] at rb; exact rb
    obtain ⟨e1, f1⟩ := flat_rep rb' hc.1
    obtain ⟨e2, f2⟩ := flat_repL l hc.2
    refine ⟨p, vs, y, rfl, rfl, hs, f1, f2, ?_⟩
    rw [e1, e2]
    exact q W _ (Ext.refl W) rel int_repr
  · cases hr
theorem find_first {α : Type} {f : α → Bool} : ∀ {l : List α} {j : Nat}, l.findIdx? f = some j → ∃ z, l[j]? = some z ∧ f z = true ∧ ∀ m z', m < j → l[m]? = some z' → f z' = false
  | [], j, h => by cases h
  | x :: l, j, h => by
    rw [List.findIdx?_cons] at h
    split at h
    · rename_i hx
      cases h
      exact ⟨x, rfl, hx, fun m z' hm _ => by omega⟩
    · rename_i hx
      obtain ⟨i, hi, rfl⟩ := map_some h
      obtain ⟨z, h1, h2, h3⟩ := find_first hi
      refine ⟨z, h1, h2, fun m z' hm hz => ?_⟩
      cases m with
      | zero => cases hz; simpa using hx
      | succ m => exact h3 m z' (by omega) hz
theorem de_index {m1 m2 : ME} (hs : starEach [e2] X.env = [(false, eval e2 X.env)]) (hb : okBase e1 = true) (hl : (apos.endLine == pos.line) = true) (h1 : DE X Φ G e1 m1) (h2 : DE X Φ G e2 m2) : DE X Φ G (.Call (.Attribute e1 "index" apos) [e2] [] pos) (.o2 .index m1 m2) := by
  refine PE.imp (pe_bm PySem.F.plainAttrs_list PySem.F.slot_list_index PySem.F.type_list_index mt_index h1 (pa_cons h2 pa_nil hs) (base_of hb) (few_one hs) hl hs rfl) fun σ H Q h => ?_
  show tR X.K Φ G m1 σ H _
  refine tR_mono (two_op2 h) fun x H1 ⟨⟨W0, W, S, a, eH, rel, ra, hpre, b, S2, ρ, ev2, r, S', hr⟩, h⟩ => ?_
  subst eH
  change (lview S a).isSome = true at hpre
  obtain ⟨ds0, hd0⟩ := Option.isSome_iff_exists.mp hpre
  refine ⟨lv_ty rel ra hd0, ?_⟩
  show tR X.K Φ G m2 σ W.H _
  refine tR_mono h fun y H2 ⟨W0, W1, W, S, r, S', a, b, eH, rel, ra, rb, hr, q⟩ => ?_
  subst eH
  change ((lview S a).bind fun ds => b.val?.bind fun x => if flatD x = true ∧ ds.all flatD = true then ((ds.map vOf).findIdx? fun z => eqV z (vOf x)).map fun (j : Nat) => (Rt.val (.int j), S) else none) = _ at hr
  obtain ⟨ds, hd, hr⟩ := Mi.bind_some hr
  obtain ⟨d, hv, hr⟩ := Mi.bind_some hr
  split at hr
  · rename_i hc
    obtain ⟨j, hj, hr⟩ := map_some hr
    cases hr
    obtain ⟨p, vs, rfl, hs, l⟩ := ra.lv rel hd
    have rb' : Rep X.K W d y := by rw [val?_some (r := b) hv] at rb; exact rb
    obtain ⟨e1, f1⟩ := flat_rep rb' hc.1
    obtain ⟨e2, f2⟩ := flat_repL l hc.2
    rw [← e1, ← e2] at hj
    obtain ⟨z, z1, z2, z3⟩ := find_first hj
    exact ⟨p, vs, y, j, z, rfl, rfl, hs, f1, f2, z1, z2, z3, q W _ (Ext.refl W) rel int_repr⟩
  · cases hr

def rMxd (K : PySem.W.Frag) : List V → List V → Hp → VK → Prop := fun vs zs H Q => ∃ (a : Addr) (ns : List Int) (d : Int), vs = [V.ref a] ∧ zs = [V.int d] ∧ SqL K H a (ns.map V.int) ∧ Q (.int (match ns with | [] => d | i :: is => maxI i is)) H
theorem cr_mxd (hc : X.calm = true) (hu : X.A.units + 2 < cLine) : CallRK X (.builtin "max") [Str.ofString "default"] (rMxd X.K) := by
  intro pins s σ H vs zs us ws Q I r rz h
  obtain ⟨a, ns, d, rfl, rfl, hs, q⟩ := h
  obtain rfl := Vals.ref1 r
  obtain ⟨w1, rfl, t, rfl⟩ := rz.one
  obtain ⟨its, rs, hl, _⟩ := I.list hs
  obtain ⟨as, rd⟩ := ints_reads (h := s.heap) rs
  refine PySem.W.max_list_default (I.ok.hd hc) hl.isList (by simpa using rd) (alike_ints ns) (by have := depth_ints ns; omega) (fun e h' tk k => ?_) fun y ys i v h' tk bs e hv r k => ?_
  · cases ns with
    | nil => exact ⟨.int d, H, I.kept k, ⟨_, rfl⟩, q⟩
    | cons _ _ => cases e
  · cases ns with
    | nil => cases e
    | cons j is =>
      cases e
      rw [PySem.W.maxD_ints, maxI_fold] at r
      obtain ⟨t, rfl⟩ := reads_int r
      exact ⟨.int _, H, I.kept k, ⟨_, rfl⟩, q⟩
theorem de_mxd {m1 m2 : ME} {kp : Pos} (hc : X.calm = true) (hu : X.A.units + 2 < cLine) (hg : Gl X "max") (hm : X.mg "max" = none) (hs : starEach [e1] X.env = (false, eval e1 X.env) :: starEach [] X.env) (h1 : DE X Φ G e1 m1) (h2 : DE X Φ G e2 m2) : DE X Φ G (.Call (.Name "max" p) [e1] [⟨some "default", e2, kp⟩] pos) (.o2 .mxd m1 m2) := by
  refine PE.imp (pe_callBK (cr_mxd hc hu) hg hm (by decide +kernel) (pa_cons h1 pa_nil hs) (pk_cons h2 pk_nil) (by decide) (by decide) (by rw [hs]; rfl) (by rw [hs]; rfl) rfl rfl rfl) fun σ H Q h => ?_
  show tR X.K Φ G m1 σ H _
  refine tR_mono (two_op2 h) fun x H1 ⟨_, h⟩ => ?_
  show tR X.K Φ G m2 σ H1 _
  refine tR_mono h fun y H2 ⟨W0, W1, W, S, r, S', a, b, eH, rel, ra, rb, hr, q⟩ => ?_
  subst eH
  change ((lview S a).bind fun ds => (ints? ds).bind fun is => b.int?.map fun j => (Rt.val (.int (match is with
    | [] => j
    | i :: is => maxI i is)), S)) = _ at hr
  obtain ⟨ds, hd, hr⟩ := Mi.bind_some hr
  obtain ⟨is, hi, hr⟩ := Mi.bind_some hr
  obtain ⟨j, hj, hr⟩ := map_some hr
  cases hr
  obtain ⟨p, vs, rfl, hs, l⟩ := ra.lv rel hd
  have f := l.ints hi
  subst f
  have f2 := repr_int (int?_some hj ▸ rb)
  subst f2
  refine ⟨p, is, j, rfl, rfl, hs, ?_⟩
  cases is with
  | nil => exact q W _ (Ext.refl W) rel int_repr
  | cons i is => exact q W _ (Ext.refl W) rel int_repr
end
end Mi
end
section
namespace Mi
open PySem PySem.Spec L2
def GDict (K : PySem.W.Frag) (w : World) (a : Addr) (ks : List Key) (ds : List D) : Prop := ∃ es n, KDict K w a es n ∧ ∀ z : Str, (∀ d, valD ks ds (.inr z) = some d → ∃ u v, PySem.W.nsIn K a z = some (some u) ∧ RelV v u ∧ ∀ W, Rep K W d v) ∧
  (valD ks ds (.inr z) = none → PySem.W.nsIn K a z = some none)

def GOk (K : PySem.W.Frag) (w : World) (d : D) (u : Value) : Prop := (d.dct? = none ∧ ∃ v, RelV v u ∧ ∀ W, Rep K W d v) ∨ ∃ a ks ds, d = .dct ks ds ∧ u = .ref a ∧ GDict K w a ks ds
section
variable {X : Cx} {Φ : Fns} {G : List D} {e e1 e2 e3 : Expr} {pos apos cpos p : Pos}
theorem de_gget {j : Nat} {x : Str} {a : Addr} {ks : List Key} {ds : List D} {m : ME} (hs : PlainIx e) (hn : PE X (.Name x p) (tC (.ref a))) (hg : G[j]? = some (.dct ks ds)) (D : GDict X.K X.w a ks ds) (h : DE X Φ G e m) : DE X Φ G (.Subscript (.Name x p) e pos) (.o1 (.gget j) m) := by
  obtain ⟨es, n, kd, nd⟩ := D
  refine PE.imp (pe_ix ix_kdict hn h hs) fun σ H Q h => ?_
  unfold tOp tC
  refine tR_mono (one_op h) fun y H1 ⟨W0, W, S, r, S', b, eH, rel, rb, hr, q⟩ => ?_
  subst eH
  change ((G[j]?).bind fun d => d.dct?.bind fun t => b.str?.bind fun k => (valD t.1 t.2 (.inr k)).map fun x => (Rt.val x, S)) = _ at hr
  rw [hg] at hr
  change (b.str?.bind fun k => (valD ks ds (.inr k)).map fun x => (Rt.val x, S)) = _ at hr
  obtain ⟨z, hz, hr⟩ := Mi.bind_some hr
  obtain ⟨d, hd, hr⟩ := map_some hr
  cases hr
  have f := repr_str (str?_some hz ▸ rb)
  subst f
  obtain ⟨u, v, e1, e2, e3⟩ := (nd z).1 d hd
  exact ⟨a, z, v, rfl, rfl, ⟨es, n, u, kd.at_, kd.lit, e1, e2⟩, q W v (Ext.refl W) rel (e3 W)⟩
theorem de_gin {j : Nat} {x : Str} {a : Addr} {ks : List Key} {ds : List D} {m : ME} {n : Bool} (hm : behindInMarks (if n then .NotIn else .In) (.Name x p) = false) (hn : PE X (.Name x p) (tC (.ref a))) (hg : G[j]? = some (.dct ks ds)) (D : GDict X.K X.w a ks ds) (h : DE X Φ G e m) :
    DE X Φ G (.Compare e [if n then .NotIn else .In] [.Name x p] pos) (.o1 (.gin n j) m) ∧ DT X Φ G (.Compare e [if n then .NotIn else .In] [.Name x p] pos) (.o1 (.gin n j) m) := by
  obtain ⟨es, nn, kd, nd⟩ := D
  have core : ∀ (σ : St) (H : Hp) (Q : VK), tR X.K Φ G (.o1 (.gin n j) m) σ H Q → tR X.K Φ G m σ H fun y H1 => ∃ (z : Str) (r : Option Value), y = .str z ∧ PySem.W.nsIn X.K a z = some r ∧ Q (.bl (xor n r.isSome)) H1 := fun σ H Q h => by
    refine tR_mono (one_op h) fun y H1 ⟨W0, W, S, r, S', b, eH, rel, rb, hr, q⟩ => ?_
    subst eH
    change ((G[j]?).bind fun d => d.dct?.bind fun t => b.str?.map fun k => (Rt.val (.bl (xor n (valD t.1 t.2 (.inr k)).isSome)), S)) = _ at hr
    rw [hg] at hr
    change (b.str?.map fun k => (Rt.val (.bl (xor n (valD ks ds (.inr k)).isSome)), S)) = _ at hr
    obtain ⟨z, hz, hr⟩ := map_some hr
    cases hr
    have f := repr_str (str?_some hz ▸ rb)
    subst f
    cases hd : valD ks ds (.inr z) with
    | none =>
      refine ⟨z, none, rfl, (nd z).2 hd, ?_⟩
      have := q W _ (Ext.refl W) rel bl_repr
      rw [hd] at this; exact this
    | some d =>
      obtain ⟨u, v, e1, e2, e3⟩ := (nd z).1 d hd
      refine ⟨z, some u, rfl, e1, ?_⟩
      have := q W _ (Ext.refl W) rel bl_repr
      rw [hd] at this; exact this
  have coreT : ∀ (σ : St) (H : Hp) (Q : Bool → Hp → Prop), tBl X.K Φ G (.o1 (.gin n j) m) σ H Q → tR X.K Φ G (.o1 (.gin n j) m) σ H fun x H' => ∃ k, x = .bl k ∧ Q k H' := fun σ H Q ⟨W, S, ρ, a, b, S', ev, q⟩ => ⟨W, S, ρ, a, _, S', ev, fun W' v e r p => ⟨b, repr_bl p, q W' e r⟩⟩
  cases n with
  | false =>
    refine ⟨PE.imp (pe_cmpR (op_in_kd kd) h hn hm) fun σ H Q h => ?_, PT.imp (pt_cmpR (op_in_kd kd) h hn hm) fun σ H Q h => ?_⟩
    · unfold tOp tC
      refine tR_mono (core σ H Q h) fun y H1 ⟨z, r, e1, e2, q⟩ => ⟨z, r, e1, rfl, e2, ?_⟩
      rw [Bool.false_xor] at q; exact q
    · have := core σ H _ (coreT σ H Q h)
      unfold tTest tOp tC
      refine tR_mono this fun y H1 ⟨z, r, e1, e2, q⟩ => ⟨z, r, e1, rfl, e2, ?_⟩
      rw [Bool.false_xor] at q; exact q
  | true =>
    refine ⟨PE.imp (pe_cmpR (op_notIn_kd kd) h hn hm) fun σ H Q h => ?_, PT.imp (pt_cmpR (op_notIn_kd kd) h hn hm) fun σ H Q h => ?_⟩
    · unfold tOp tC
      refine tR_mono (core σ H Q h) fun y H1 ⟨z, r, e1, e2, q⟩ => ⟨z, r, e1, rfl, e2, ?_⟩
      rw [Bool.true_xor] at q; exact q
    · have := core σ H _ (coreT σ H Q h)
      unfold tTest tOp tC
      refine tR_mono this fun y H1 ⟨z, r, e1, e2, q⟩ => ⟨z, r, e1, rfl, e2, ?_⟩
      rw [Bool.true_xor] at q; exact q

theorem de_gg2 {j : Nat} {x : Str} {a : Addr} {ks : List Key} {ds : List D} {m1 m2 : ME} (hn : PE X (.Name x p) (tC (.ref a))) (hg : G[j]? = some (.dct ks ds)) (D : GDict X.K X.w a ks ds) (h1 : DE X Φ G e1 m1) (h2 : DE X Φ G e2 m2) (m : M2 X (.Name x p) "get" apos e1 e2 cpos) :
    DE X Φ G (.Call (.Attribute (.Name x p) "get" apos) [e1, e2] [] cpos) (.o2 (.gg2 j) m1 m2) := by
  obtain ⟨es, n, kd, nd⟩ := D
  refine ⟨fun pins s σ H Q I h => ?_⟩
  refine wpAny_Call_method m.base m.few m.line PySem.F.plainAttrs_dict PySem.F.slot_dict_get PySem.F.type_dict_get (thn (hn.run pins s σ H (fun x H' => x = .ref a ∧ H' = H) I ⟨rfl, rfl⟩) fun u s1 ⟨x, H1, I1, rx, q1⟩ => ?_)
  obtain ⟨rfl, rfl⟩ := q1
  obtain rfl : u = Value.ref a := rx
  have hm := PySem.W.mapOf_K (prog := X.prog) (w := X.w) I1.kIn kd.at_ kd.lit
  refine ⟨hm.typeIs, fun b e => ?_, ?_⟩
  · cases e
    have := I1.kIn a _ kd.at_
    exact ⟨_, this, rfl⟩
  rw [m.trees]
  refine Calls.callWith_builtin rfl (Calls.evalArgs_plain (Calls.spliced_cons (thn (h1.run pins s1 σ H1 _ I1 (two_op2 h)) fun iv s2 ⟨y, H2, I2, ry, _, q2⟩ =>
    Calls.spliced_cons (thn (h2.run pins s2 σ H2 _ I2 q2) fun fv s3 ⟨z, H3, I3, rz, W0, W1, W, S, r, S', b, c, eH, rel, rb, rc, hr, q⟩ => Calls.spliced_nil ?_))))
  subst eH
  change ((G[j]?).bind fun d => d.dct?.bind fun t => b.str?.bind fun k => c.val?.map fun e => (Rt.val ((valD t.1 t.2 (.inr k)).getD e), S)) = _ at hr
  rw [hg] at hr
  change (b.str?.bind fun k => c.val?.map fun e => (Rt.val ((valD ks ds (.inr k)).getD e), S)) = _ at hr
  obtain ⟨k, hk, hr⟩ := Mi.bind_some hr
  obtain ⟨d, hd, hr⟩ := map_some hr
  cases hr
  have f := repr_str (str?_some hk ▸ rb)
  subst f
  obtain ⟨t, rfl⟩ := ry
  have hm3 := PySem.W.mapOf_K (prog := X.prog) (w := X.w) I3.kIn kd.at_ kd.lit
  have rc' : Rep X.K W d z := by rw [val?_some (r := c) hd] at rc; exact rc
  refine call_meetsIn PySem.F.slot_dict_get hm3.typeIs PySem.F.entry_dict_get (PySem.F.args_dict_get_3 _ _ _) (meets_dict_get_default (strKind X.prog X.w) a (strKind_is X.prog X.w k t) kd.low fv) ⟨_, hm3, ?_⟩
  cases hv : valD ks ds (.inr k) with
  | none =>
    rw [PySem.W.find_K kd.at_ ((nd k).2 hv)]
    refine ⟨z, W.H, I3.tok _, rz, ?_⟩
    have := q W z (Ext.refl W) rel (by rw [hv]; exact rc')
    exact this
  | some d' =>
    obtain ⟨u, v, e1, e2, e3⟩ := (nd k).1 d' hv
    rw [PySem.W.find_K kd.at_ e1]
    refine ⟨v, W.H, I3.tok _, e2, ?_⟩
    have := q W v (Ext.refl W) rel (by rw [hv]; exact e3 W)
    exact this
end
end Mi
end
section
namespace Mi
open PySem PySem.Spec L2
section
variable {X : Cx} {Φ : Fns} {G : List D} {e1 e2 e3 : Expr} {st : Stmt}
theorem ds_par {i j : Nat} {oj : Bool} {m1 m2 : ME} (hp : ∀ ta, PA X [e1, e2] ta → PS X st (tPar i j ta)) (hs1 : starEach [e1, e2] X.env = (false, eval e1 X.env) :: starEach [e2] X.env) (hs2 : starEach [e2] X.env = (false, eval e2 X.env) :: starEach [] X.env)
    (h1 : DE X Φ G e1 m1) (h2 : DE X Φ G e2 m2) : DS X Φ G st (.par i j oj m1 m2) := by
  refine PS.imp (hp _ (pa_cons h1 (pa_cons h2 pa_nil hs2) hs1)) fun D σ H h => ?_
  obtain ⟨W, S, ρ, a, q⟩ := h
  rw [ex] at q
  obtain ⟨x, d, S1, ev1, hd, q⟩ := bindD_some q
  obtain ⟨r, S2, ev2, q⟩ := bindE_some q
  unfold tPar tCons tNil
  refine ⟨W, S, ρ, a, x, S1, ev1, fun W1 v1 f1 r1 p1 => ?_⟩
  obtain ⟨W1', eH, f1', r1', p1'⟩ := p1.shut r1 f1 hd
  rw [← eH]
  have a1 := a.ext f1' r1'
  refine ⟨W1', S1, ρ, a1, r, S2, ev2, fun W2 v2 f2 r2 p2 => ⟨v1, v2, rfl, ?_⟩⟩
  have f12 := f1'.trans f2
  have px := Rep.ext r1' f2 _ _ p1'
  cases oj with
  | false =>
    change Out X.K W σ ρ (match r.d.map Sl.val with
      | some y => if i < ρ.length ∧ j < ρ.length ∧ i ≠ j then SR.nx ((ρ.set i (.val d)).set j y) S2 else .er
      | none => .er) D at q
    cases hr : r.d with
    | none => rw [hr] at q; exact q.elim
    | some y =>
      rw [hr] at q
      dsimp only [Option.map_some] at q
      split at q
      · rename_i hij
        obtain ⟨W2', eH2, f2', r2', p2'⟩ := p2.shut r2 f2 hr
        rw [← eH2]
        have f13 := f1'.trans f2'
        have a2 := a.ext f13 r2'
        have s1 := a2.sl.set (d := d) (v := v1) hij.1 (Rep.ext r1' f2' _ _ p1')
        have s2 := s1.set (i := j) (d := y) (v := v2) (by rw [List.length_set]; exact hij.2.1) p2'
        exact q W2' _ f13.step ⟨rfl, r2', s2⟩ fun p z => .inl (own_set hij.1 (own_set (by rw [List.length_set]; exact hij.2.1) z))
      · exact q.elim
  | true =>
    cases r with
    | val _ => exact q.elim
    | bor _ => exact q.elim
    | ownd _ _ => exact q.elim
    | own ds =>
      change Out X.K W σ ρ (if i < ρ.length ∧ j < ρ.length ∧ i ≠ j then SR.nx ((ρ.set i (.val d)).set j (.own ds)) S2 else .er) D at q
      split at q
      · rename_i hij
        obtain ⟨p, vs, rfl, g2, g3, g4, g0, g5⟩ := p2
        have a2 := a.ext f12 r2
        have s1 := a2.sl.set (d := d) (v := v1) hij.1 px
        have hj : j < (ρ.set i (.val d)).length := by rw [List.length_set]; exact hij.2.1
        have hσ : j < (σ.set i (some v1)).length := by rw [List.length_set, a.sl.1]; exact hij.2.1
        have g0' : W.H p = none := f1'.free g0
        refine q W2 _ f12.step ⟨rfl, r2, s1.setO hj g2 g3 g4 g5 fun k ds' n e z => ?_⟩ fun p' z => ?_
        · have hki : k ≠ i := fun y => by
            subst y
            rw [List.getElem?_set_self hij.1] at e
            cases e
          rw [List.getElem?_set_ne (Ne.symm hki)] at e z
          obtain ⟨p', us, y1, y2, _⟩ := a.sl.2.2.1 k ds' e
          rw [z] at y1; cases y1
          rw [g0'] at y2; cases y2
        · rcases own_setO hj hσ z with y | y
          · exact .inl (own_set hij.1 y)
          · subst y; exact .inr g0'
      · exact q.elim

theorem ds_parT {i j : Nat} {oj : Bool} {m1 m2 : ME} (hp : ∀ ta, PA X [e1, e2] ta → PS X st (tAsg (tTup ta) (gTup X.K 2 (gCons (gName i) (gCons (gName j) gNil))))) (hs1 : starEach [e1, e2] X.env = (false, eval e1 X.env) :: starEach [e2] X.env) (hs2 : starEach [e2] X.env = (false, eval e2 X.env) :: starEach [] X.env)
    (h1 : DE X Φ G e1 m1) (h2 : DE X Φ G e2 m2) : DS X Φ G st (.par i j oj m1 m2) := by
  refine PS.imp (hp _ (pa_cons h1 (pa_cons h2 pa_nil hs2) hs1)) fun D σ H h => ?_
  obtain ⟨W, S, ρ, a, q⟩ := h
  rw [ex] at q
  obtain ⟨x, d, S1, ev1, hd, q⟩ := bindD_some q
  obtain ⟨r, S2, ev2, q⟩ := bindE_some q
  unfold tAsg tTup tCons tNil
  refine ⟨W, S, ρ, a, x, S1, ev1, fun W1 v1 f1 r1 p1 => ?_⟩
  obtain ⟨W1', eH, f1', r1', p1'⟩ := p1.shut r1 f1 hd
  rw [← eH]
  have a1 := a.ext f1' r1'
  refine ⟨W1', S1, ρ, a1, r, S2, ev2, fun W20 v2 f20 r20 p20 => ⟨(show 2 ≤ sizeLine by decide), fun pt hpt => ⟨pt, [v1, v2], rfl, .inl (.inl upd_same), rfl, v1, [v2], rfl, v2, [], rfl, rfl, ?_⟩⟩⟩
  obtain ⟨W2, eW2⟩ : ∃ W2 : Wd, W2 = ⟨W20.ms, W20.fz, upd W20.H pt (.tup [v1, v2])⟩ := ⟨_, rfl⟩
  have eH20 : upd W20.H pt (.tup [v1, v2]) = W2.H := by rw [eW2]
  have f02 : Ext W20 W2 := eW2 ▸ Ext.laid hpt
  have r2 : Rel X.K W2 S2 := eW2 ▸ r20.laid hpt
  have f2 := f20.trans f02
  have p2 := p20.ext r20 f02
  rw [eH20]
  have f12 := f1'.trans f2
  have px := Rep.ext r1' f2 _ _ p1'
  cases oj with
  | false =>
    change Out X.K W σ ρ (match r.d.map Sl.val with
      | some y => if i < ρ.length ∧ j < ρ.length ∧ i ≠ j then SR.nx ((ρ.set i (.val d)).set j y) S2 else .er
      | none => .er) D at q
    cases hr : r.d with
    | none => rw [hr] at q; exact q.elim
    | some y =>
      rw [hr] at q
      dsimp only [Option.map_some] at q
      split at q
      · rename_i hij
        obtain ⟨W2', eH2, f2', r2', p2'⟩ := p2.shut r2 f2 hr
        rw [← eH2]
        have f13 := f1'.trans f2'
        have a2 := a.ext f13 r2'
        have s1 := a2.sl.set (d := d) (v := v1) hij.1 (Rep.ext r1' f2' _ _ p1')
        have s2 := s1.set (i := j) (d := y) (v := v2) (by rw [List.length_set]; exact hij.2.1) p2'
        exact q W2' _ f13.step ⟨rfl, r2', s2⟩ fun p z => .inl (own_set hij.1 (own_set (by rw [List.length_set]; exact hij.2.1) z))
      · exact q.elim
  | true =>
    cases r with
    | val _ => exact q.elim
    | bor _ => exact q.elim
    | ownd _ _ => exact q.elim
    | own ds =>
      change Out X.K W σ ρ (if i < ρ.length ∧ j < ρ.length ∧ i ≠ j then SR.nx ((ρ.set i (.val d)).set j (.own ds)) S2 else .er) D at q
      split at q
      · rename_i hij
        obtain ⟨p, vs, rfl, g2, g3, g4, g0, g5⟩ := p2
        have a2 := a.ext f12 r2
        have s1 := a2.sl.set (d := d) (v := v1) hij.1 px
        have hj : j < (ρ.set i (.val d)).length := by rw [List.length_set]; exact hij.2.1
        have hσ : j < (σ.set i (some v1)).length := by rw [List.length_set, a.sl.1]; exact hij.2.1
        have g0' : W.H p = none := f1'.free g0
        refine q W2 _ f12.step ⟨rfl, r2, s1.setO hj g2 g3 g4 g5 fun k ds' n e z => ?_⟩ fun p' z => ?_
        · have hki : k ≠ i := fun y => by
            subst y
            rw [List.getElem?_set_self hij.1] at e
            cases e
          rw [List.getElem?_set_ne (Ne.symm hki)] at e z
          obtain ⟨p', us, y1, y2, _⟩ := a.sl.2.2.1 k ds' e
          rw [z] at y1; cases y1
          rw [g0'] at y2; cases y2
        · rcases own_setO hj hσ z with y | y
          · exact .inl (own_set hij.1 y)
          · subst y; exact .inr g0'
      · exact q.elim
theorem ds_par3 {i j l : Nat} {m1 m2 m3 : ME} (hp : ∀ ta, PA X [e1, e2, e3] ta → PS X st (tPar3 i j l ta)) (hs1 : starEach [e1, e2, e3] X.env = (false, eval e1 X.env) :: starEach [e2, e3] X.env) (hs2 : starEach [e2, e3] X.env = (false, eval e2 X.env) :: starEach [e3] X.env) (hs3 : starEach [e3] X.env = (false, eval e3 X.env) :: starEach [] X.env)
    (h1 : DE X Φ G e1 m1) (h2 : DE X Φ G e2 m2) (h3 : DE X Φ G e3 m3) : DS X Φ G st (.par3 i j l m1 m2 m3) := by
  refine PS.imp (hp _ (pa_cons h1 (pa_cons h2 (pa_cons h3 pa_nil hs3) hs2) hs1)) fun D σ H h => ?_
  obtain ⟨W, S, ρ, a, q⟩ := h
  rw [ex] at q
  obtain ⟨x, d, S1, ev1, hd, q⟩ := bindD_some q
  obtain ⟨x2, d2, S2, ev2, hd2, q⟩ := bindD_some q
  obtain ⟨x3, d3, S3, ev3, hd3, q⟩ := bindD_some q
  split at q
  · rename_i hij
    unfold tPar3 tCons tNil
    refine ⟨W, S, ρ, a, x, S1, ev1, fun W1 v1 f1 r1 p1 => ?_⟩
    obtain ⟨W1', eH, f1', r1', p1'⟩ := p1.shut r1 f1 hd
    rw [← eH]
    have a1 := a.ext f1' r1'
    refine ⟨W1', S1, ρ, a1, x2, S2, ev2, fun W2 v2 f2 r2 p2 => ?_⟩
    obtain ⟨W2', eH2, f2', r2', p2'⟩ := p2.shut r2 f2 hd2
    rw [← eH2]
    have a2 := a1.ext f2' r2'
    refine ⟨W2', S2, ρ, a2, x3, S3, ev3, fun W3 v3 f3 r3 p3 => ?_⟩
    obtain ⟨W3', eH3, f3', r3', p3'⟩ := p3.shut r3 f3 hd3
    refine ⟨v1, v2, v3, rfl, ?_⟩
    rw [← eH3]
    have f13 := (f1'.trans f2').trans f3'
    have a3 := a.ext f13 r3'
    have s1 := a3.sl.set (d := d) (v := v1) hij.1 (Rep.ext r2' f3' _ _ (Rep.ext r1' f2' _ _ p1'))
    have hj : j < (ρ.set i (.val d)).length := by rw [List.length_set]; exact hij.2.1
    have s2 := s1.set (i := j) (d := d2) (v := v2) hj (Rep.ext r2' f3' _ _ p2')
    have hl : l < ((ρ.set i (.val d)).set j (.val d2)).length := by rw [List.length_set, List.length_set]; exact hij.2.2.1
    have s3 := s2.set (i := l) (d := d3) (v := v3) hl p3'
    exact q W3' _ f13.step ⟨rfl, r3', s3⟩ fun p z => .inl (own_set hij.1 (own_set hj (own_set hl z)))
  · exact q.elim
end
end Mi
end
section
namespace Mi
open PySem PySem.Spec L2

structure Tab where
  bn : List Str
  fnm : List (Nat × Str)
  gl : List (Nat × Str)
def isVis (sc : Scope) (x : Str) : Bool := match sc.names.lookup x with
  | some .local => true | some .cell => true | some .free => true | _ => false
def isLoc (sc : Scope) (x : Str) : Bool := match sc.names.lookup x with
  | some .local => true | _ => false
def isCel (sc : Scope) (x : Str) : Bool := match sc.names.lookup x with
  | some .cell => true | _ => false
def isGl (sc : Scope) (x : Str) : Bool := match sc.names.lookup x with
  | some .globalImplicit => true | _ => false
def okNm (x : Str) : Bool := !(x == ("__debug__" : Str)) && !(x == ("__classdict__" : Str))
def notStar : Expr → Bool
  | .Starred _ _ => false | _ => true
def notSlc : Expr → Bool
  | .Slice _ _ _ _ => false | _ => true
def notIf : Expr → Bool
  | .IfExp _ _ _ _ => false | _ => true
def notSet : Expr → Bool
  | .Set _ _ _ => false | _ => true
def notComp : Expr → Bool
  | .ListComp _ _ _ _ => false | .SetComp _ _ _ _ => false | .DictComp _ _ _ _ _ => false | _ => true
def notTupE : Expr → Bool
  | .Tuple _ _ _ => false | _ => true
def conOk : Const → D → Bool
  | .int i, .int j => i == j
  | .str x, .str y => x == y
  | .bool a, .bl b => a == b
  | .none, .non => true
  | _, _ => false
def biNm : BI → Option (Str × Bool)
  | .abs => some ("abs", false) | .all => some ("all", false) | .any => some ("any", false) | .divmod => some ("divmod", false) | .int => some ("int", true) | .len => some ("len", false)
  | .list => some ("list", true) | .max => some ("max", false) | .min => some ("min", false) | .sum => some ("sum", false) | .tuple => some ("tuple", true) | .str => some ("str", true) | .sorted => some ("sorted", false)
  | _ => none
def relSc (scope sc : Scope) : Scope := { scope with names := scope.names.map fun (n, k) => if (k == .free && sc.kind == .function && sc.names.lookup n == some .cell) then (n, .cell) else (n, k) }
def tyNames (bn : List Str) (sc : Scope) : List Expr → List Ty → Bool
  | [], [] => true
  | .Name x _ :: es, t :: ts => (x == Str.ofString (tyN t)) && bn.contains x && isGl sc x && tyNames bn sc es ts
  | _, _ => false
def keysOk : List (Option Expr) → List Key → Bool
  | [], [] => true
  | some (.Constant (.int i) _ _) :: es, .inl j :: ks => i == j && keysOk es ks
  | some (.Constant (.str x) _ _) :: es, .inr y :: ks => x == y && keysOk es ks
  | _, _ => false
def inOp (n : Bool) : CmpOp := if n then .NotIn else .In

def chk1 (T : Tab) (sc : Scope) : P1 → Expr → Option Expr
  | .lrng, .Call (.Name x _) [.Call (.Name y _) [e] [] _] [] _ => if decide (x = "list") && decide (y = "range") && T.bn.contains x && T.bn.contains y && isGl sc x && isGl sc y && notStar e then some e else none
  | .rev, .Subscript e (.Slice none none (some (.UnaryOp .USub (.Constant (.int 1) _ _) _)) _) _ => some e
  | .sset, .Call (.Name x _) [.Call (.Name y _) [e] [] _] [] _ => if decide (x = "sorted") && decide (y = "set") && T.bn.contains x && T.bn.contains y && isGl sc x && isGl sc y && notStar e then some e else none
  | .lset, .Call (.Name x _) [.Call (.Name y _) [e] [] _] [] _ => if decide (x = "len") && decide (y = "set") && T.bn.contains x && T.bn.contains y && isGl sc x && isGl sc y && notStar e then some e else none
  | .lsetb, .Call (.Name x _) [.Call (.Name y _) [e] [] _] [] _ => if decide (x = "len") && decide (y = "set") && T.bn.contains x && T.bn.contains y && isGl sc x && isGl sc y && notStar e then some e else none
  | .mint, .Call (.Name x _) [e] [] _ => if decide (x = "min") && T.bn.contains x && isGl sc x && notStar e then some e else none
  | .gget j, .Subscript (.Name x _) e _ => if T.gl.contains (j, x) && isGl sc x && okNm x && notSlc e then some e else none
  | .gin n j, .Compare e [op] [.Name x _] _ => if decide (op = inOp n) && T.gl.contains (j, x) && isGl sc x && okNm x then some e else none
  | _, _ => none
def chk2 (T : Tab) (sc : Scope) : P2 → Expr → Option (Expr × Expr)
  | .rpop, .Call (.Attribute o nm ap) [e] [] cp => if decide (nm = "pop") && okBase o && (ap.endLine == cp.line) && notStar e then some (o, e) else none
  | .split, .Call (.Attribute o nm ap) [e] [] cp => if decide (nm = "split") && okBase o && (ap.endLine == cp.line) && notStar e then some (o, e) else none
  | .join, .Call (.Attribute o nm ap) [e] [] cp => if decide (nm = "join") && okBase o && (ap.endLine == cp.line) && notStar e then some (o, e) else none
  | .count, .Call (.Attribute o nm ap) [e] [] cp => if decide (nm = "count") && okBase o && (ap.endLine == cp.line) && notStar e then some (o, e) else none
  | .index, .Call (.Attribute o nm ap) [e] [] cp => if decide (nm = "index") && okBase o && (ap.endLine == cp.line) && notStar e then some (o, e) else none
  | .lrng2, .Call (.Name x _) [.Call (.Name y _) [e, f] [] _] [] _ => if decide (x = "list") && decide (y = "range") && T.bn.contains x && T.bn.contains y && isGl sc x && isGl sc y && notStar e && notStar f then some (e, f) else none
  | .dzip, .Call (.Name x _) [.Call (.Name y _) [e, f] [] _] [] _ => if decide (x = "dict") && decide (y = "zip") && T.bn.contains x && T.bn.contains y && isGl sc x && isGl sc y && notStar e && notStar f then some (e, f) else none
  | .upd, .Call (.Attribute o nm ap) [e] [] cp => if decide (nm = "update") && okBase o && (ap.endLine == cp.line) && notStar e then some (o, e) else none
  | .mxd, .Call (.Name x _) [e] [kw] _ => if decide (x = "max") && decide (kw.arg = some "default") && T.bn.contains x && isGl sc x && notStar e then some (e, kw.value) else none
  | .gg2 j, .Call (.Attribute (.Name x _) nm ap) [e, f] [] cp => if decide (nm = "get") && T.gl.contains (j, x) && isGl sc x && okNm x && (ap.endLine == cp.line) && notStar e && notStar f then some (e, f) else none
  | _, _ => none
def chk3 (T : Tab) (sc : Scope) : P3 → Expr → Option (Expr × Expr × Expr)
  | .mx3, .Call (.Name x _) [a, b, c] [] _ => if decide (x = "max") && T.bn.contains x && isGl sc x && notStar a && notStar b && notStar c then some (a, b, c) else none
  | .get, .Call (.Attribute o nm ap) [e, f] [] cp => if decide (nm = "get") && okBase o && (ap.endLine == cp.line) && notStar e && notStar f then some (o, e, f) else none
  | _, _ => none
mutual
def chkE (T : Tab) (N : List Str) (sc : Scope) (fp : Str → Bool) : ME → Expr → Bool
  | .var i, e => match e with
    | .Name x _ => decide (N[i]? = some x) && isVis sc x && okNm x
    | _ => false
  | .bor i, e => match e with
    | .Name x _ => decide (N[i]? = some x) && isVis sc x && okNm x
    | _ => false
  | .con d, e => match e with
    | .Constant c _ _ => conOk c d
    | _ => false
  | .glb j, e => match e with
    | .Name x _ => T.gl.contains (j, x) && isGl sc x && okNm x
    | _ => false
  | .bin o a b, e => match e with
    | .BinOp l op r _ => decide (op = opOf o) && chkE T N sc fp a l && chkE T N sc fp b r
    | _ => false
  | .neg a, e => match e with
    | .UnaryOp .USub x _ => chkE T N sc fp a x
    | _ => false
  | .not a, e => match e with
    | .UnaryOp .Not x _ => chkE T N sc fp a x && notIf x
    | _ => false
  | .and a b, e => match e with
    | .BoolOp .And (e1 :: e2 :: rest) pos => chkE T N sc fp a e1 && notIf e1 && (match rest with
      | [] => chkE T N sc fp b e2 && notIf e2
      | r :: rs => chkE T N sc fp b (.BoolOp .And (e2 :: r :: rs) pos))
    | _ => false
  | .or a b, e => match e with
    | .BoolOp .Or (e1 :: e2 :: rest) pos => chkE T N sc fp a e1 && notIf e1 && (match rest with
      | [] => chkE T N sc fp b e2 && notIf e2
      | r :: rs => chkE T N sc fp b (.BoolOp .Or (e2 :: r :: rs) pos))
    | _ => false
  | .cmp o a b, e => match e with
    | .Compare l [op] [r] _ => decide (op = cOf o) && chkE T N sc fp a l && chkE T N sc fp b r && notSet r
    | _ => false
  | .chn o o' a b c, e => match e with
    | .Compare l [op, op'] [r, r'] _ => decide (op = cOf o) && decide (op' = cOf o') && chkE T N sc fp a l && chkE T N sc fp b r && chkE T N sc fp c r' && notSet r'
    | _ => false
  | .ite c a b, e => match e with
    | .IfExp t x y _ => chkE T N sc fp c t && notIf t && chkE T N sc fp a x && chkE T N sc fp b y
    | _ => false
  | .tup es, e => match e with
    | .Tuple l _ _ => chkEs T N sc fp es l
    | _ => false
  | .lst es, e => match e with
    | .List l _ => chkEs T N sc fp es l
    | _ => false
  | .idx a i, e => match e with
    | .Subscript x s _ => notSlc s && chkE T N sc fp a x && chkE T N sc fp i s
    | _ => false
  | .slc a lo hi, e => match e with
    | .Subscript x (.Slice l u none _) _ => chkE T N sc fp a x && chkO T N sc fp lo l && chkO T N sc fp hi u
    | _ => false
  | .call f es, e => match e with
    | .Call (.Name x _) (a :: l) [] _ => T.fnm.contains (f, x) && isGl sc x && okNm x && chkEs T N sc fp es (a :: l)
    | _ => false
  | .callp f es, e => match e with
    | .Call (.Name x _) (a :: l) [] _ => T.fnm.contains (f, x) && isGl sc x && okNm x && chkEs T N sc fp es (a :: l)
    | _ => false
  | .bi b es, e => match e with
    | .Call (.Name x _) (a :: l) [] _ => T.bn.contains x && isGl sc x && (match b with
      | .isi1 t => decide (x = "isinstance") && notStar a && (match l with
        | [.Name y _] => (y == Str.ofString (tyN t)) && T.bn.contains y && isGl sc y && chkEs T N sc fp es [a]
        | _ => false)
      | .isi ts => decide (x = "isinstance") && notStar a && (match l with
        | [.Tuple ys _ _] => decide (ts.length ≤ 16) && tyNames T.bn sc ys ts && chkEs T N sc fp es [a]
        | _ => false)
      | b => decide ((biNm b).map (·.1) = some x) && chkEs T N sc fp es (a :: l))
    | _ => false
  | .comp own t it c m, e => match e with
    | .ListComp elt [⟨tg, iter, ifs, as⟩] scope _ => decide (as = 0) && chkI T N sc fp it tg iter && notSet iter && blkC N sc scope (own.map fun i => (N.getD i "", i)) && (slotsT t).all (fun i => own.contains i) &&
        chkT T N (relSc scope sc) (fun x => scope.names.lookup x == some .cell) t tg && chkC T N (relSc scope sc) (fun x => scope.names.lookup x == some .cell) c ifs && chkE T N (relSc scope sc) (fun x => scope.names.lookup x == some .cell) m elt
    | _ => false
  | .new a, e => chkE T N sc fp a e
  | .dct ks es, e => match e with
    | .Dict kes l _ => keysOk kes ks && chkEs T N sc fp es l && decide (kes.length = l.length) && decide (kes.length ≠ 0) && decide (kes.length ≤ 15)
    | _ => false
  | .dgt a i, e => match e with
    | .Subscript x s _ => notSlc s && chkE T N sc fp a x && chkE T N sc fp i s
    | _ => false
  | .din n a b, e => match e with
    | .Compare l [op] [r] _ => decide (op = if n then .NotIn else .In) && chkE T N sc fp a l && chkE T N sc fp b r && notSet r
    | _ => false
  | .o1 q a, e => match chk1 T sc q e with
    | some x => chkE T N sc fp a x
    | none => false
  | .o2 q a b, e => match chk2 T sc q e with
    | some x => chkE T N sc fp a x.1 && chkE T N sc fp b x.2
    | none => false
  | .o3 q a b c, e => match chk3 T sc q e with
    | some x => chkE T N sc fp a x.1 && chkE T N sc fp b x.2.1 && chkE T N sc fp c x.2.2
    | none => false
def chkEs (T : Tab) (N : List Str) (sc : Scope) (fp : Str → Bool) : MEs → List Expr → Bool
  | .nil, l => match l with
    | [] => true
    | _ => false
  | .cons m ms, l => match l with
    | e :: es => notStar e && chkE T N sc fp m e && chkEs T N sc fp ms es
    | _ => false
def chkO (T : Tab) (N : List Str) (sc : Scope) (fp : Str → Bool) : MO → Option Expr → Bool
  | .no, l => match l with
    | none => true
    | _ => false
  | .yes m, l => match l with
    | some e => chkE T N sc fp m e
    | _ => false
def chkC (T : Tab) (N : List Str) (sc : Scope) (fp : Str → Bool) : MO → List Expr → Bool
  | .no, l => match l with
    | [] => true
    | _ => false
  | .yes m, l => match l with
    | [e] => chkE T N sc fp m e && notIf e
    | _ => false
def chkI (T : Tab) (N : List Str) (sc : Scope) (fp : Str → Bool) : MI → Expr → Expr → Bool
  | .rng1 a, tg, e => match e with
    | .Call (.Name x _) [l] [] _ => decide (x = "range") && T.bn.contains x && isGl sc x && notStar l && chkE T N sc fp a l
    | _ => false
  | .rng2 a b, tg, e => match e with
    | .Call (.Name x _) [l, r] [] _ => decide (x = "range") && T.bn.contains x && isGl sc x && notStar l && notStar r && chkE T N sc fp a l && chkE T N sc fp b r
    | _ => false
  | .seq a, tg, e => chkE T N sc fp a e
  | .enm a, tg, e => match e with
    | .Call (.Name x _) [l] [] _ => decide (x = "enumerate") && T.bn.contains x && isGl sc x && notStar l && (match tg with | .Tuple _ _ _ => true | _ => false) && chkE T N sc fp a l
    | _ => false
  | .zip a b, tg, e => match e with
    | .Call (.Name x _) [l, r] [] _ => decide (x = "zip") && T.bn.contains x && isGl sc x && notStar l && notStar r && (match tg with | .Tuple _ _ _ => true | _ => false) && chkE T N sc fp a l && chkE T N sc fp b r
    | _ => false
def chkT (T : Tab) (N : List Str) (sc : Scope) (fp : Str → Bool) : MT → Expr → Bool
  | .nm i, e => match e with
    | .Name x _ => decide (N[i]? = some x) && (isLoc sc x || (isCel sc x && fp x))
    | _ => false
  | .sub o i, e => match e with
    | .Subscript x s _ => notSlc s && chkE T N sc fp o x && chkE T N sc fp i s
    | _ => false
  | .tp ts, e => match e with
    | .Tuple l _ _ => chkTs T N sc fp ts l
    | _ => false
def chkTs (T : Tab) (N : List Str) (sc : Scope) (fp : Str → Bool) : MTs → List Expr → Bool
  | .nil, l => match l with
    | [] => true
    | _ => false
  | .cons m ms, l => match l with
    | e :: es => notStar e && chkT T N sc fp m e && chkTs T N sc fp ms es
    | _ => false
end
structure GX (T : Tab) (N : List Str) (sc : Scope) (fp : Str → Bool) (Φ : Fns) (G : List D) (k : Nat) (X : Cx) : Prop where
  calm : X.calm = true
  hN : X.N = N
  nd : N.Nodup
  hsc : X.env.scope = sc
  knd : sc.kind = .function
  hfn : X.fn = fp
  xe : X.xe = fun _ _ => False
  room : Room k X.A
  gds : X.A.guards = some []
  bl : ∀ x, x ∈ T.bn → X.mg x = none
  fns : ∀ f x, (f, x) ∈ T.fnm → ∃ fa fd ps, FnG X.prog X.w X.K X.mg X.base k fa fd ps (spF X.K Φ f) ∧ X.mg x = some (.ref fa) ∧ PySem.W.keepIn X.K (.ref fa) = true ∧ Binds X.K fd ps []
  gl : ∀ (j : Nat) (x : Str), (j, x) ∈ T.gl → ∃ d u, G[j]? = some d ∧ X.mg x = some u ∧ GOk X.K X.w d u
structure SE (X : Cx) (Φ : Fns) (G : List D) (e : Expr) (m : ME) : Prop where
  de : DE X Φ G e m
  dt : notIf e = true → DT X Φ G e m
  dw : (∀ op es pos, e = .BoolOp op es pos → ∀ a b r, es = a :: b :: r → DW X Φ G e m)
section
variable {X : Cx}
theorem star_of {e : Expr} {es : List Expr} {env : PySem.Env} (h : notStar e = true) : starEach (e :: es) env = (false, eval e env) :: starEach es env := by
  cases e <;> first | rfl | cases h
theorem aseach_of {e : Expr} {es : List Expr} {env : PySem.Env} (h : notStar e = true) : assignEach (e :: es) env = (false, assign e env) :: assignEach es env := by
  cases e <;> first | rfl | cases h
theorem ix_of {e : Expr} (h : notSlc e = true) : PlainIx e := by
  intro o i
  cases e <;> first | rfl | cases h
theorem mark_of {op : CmpOp} {e : Expr} (h : notSet e = true) : behindInMarks op e = false := by
  cases e <;> first | rfl | cases h
theorem fold_of {e : Expr} {env : PySem.Env} (h : notSet e = true) : ∀ x, foldedSetIterable e env x = pure x := by
  intro x
  cases e <;> first | rfl | cases h
def plainB : Expr → Bool
  | .UnaryOp .Not _ _ => false | .BoolOp _ _ _ => false | .IfExp _ _ _ _ => false | .Compare _ _ _ _ => false | _ => true
theorem true_of {e : Expr} {env : PySem.Env} (h : plainB e = true) : ∀ whole, isTrue e env whole = (do let v ← whole; standAt e.pos; holding [v] (truthy v)) := by
  intro w
  cases e with
  | UnaryOp op x pos => cases op <;> first | rfl | cases h
  | BoolOp _ _ _ => cases h
  | IfExp _ _ _ _ => cases h
  | Compare _ _ _ _ => cases h
  | _ => rfl
theorem vis_of {sc : Scope} {x : Str} (h : isVis sc x = true) : Vis sc x := by
  unfold isVis at h
  unfold Vis
  split at h
  · exact .inl (by assumption)
  · exact .inr (.inl (by assumption))
  · exact .inr (.inr (by assumption))
  · cases h
theorem loc_of {sc : Scope} {x : Str} (h : isLoc sc x = true) : sc.names.lookup x = some .local := by
  unfold isLoc at h
  split at h
  · assumption
  · cases h
theorem cel_of {sc : Scope} {x : Str} (h : isCel sc x = true) : sc.names.lookup x = some .cell := by
  unfold isCel at h
  split at h
  · assumption
  · cases h
theorem gl_of {sc : Scope} {x : Str} (h : isGl sc x = true) : sc.names.lookup x = some .globalImplicit := by
  unfold isGl at h
  split at h
  · assumption
  · cases h
theorem okNm_of {x : Str} (h : okNm x = true) : (x == ("__debug__" : Str)) = false ∧ (x == ("__classdict__" : Str)) = false := by
  unfold okNm at h
  simpa using h
theorem nostar_all {T : Tab} {N : List Str} {sc : Scope} {fp : Str → Bool} {env : PySem.Env} {pos : Pos} : ∀ {ms : MEs} {es : List Expr}, chkEs T N sc fp ms es = true → (backTo pos (starEach es env)).any (·.1) = false
  | .nil, [], _ => rfl
  | .nil, _ :: _, h => by simp [chkEs] at h
  | .cons m ms, [], h => by simp [chkEs] at h
  | .cons m ms, e :: es, h => by
    simp only [chkEs, Bool.and_eq_true] at h
    rw [star_of h.1.1]
    show (false || (backTo pos (starEach es env)).any (·.1)) = false
    rw [nostar_all h.2]; rfl
theorem stos_len {Φ : Fns} {G : List D} : ∀ {ts : MTs} {T : Tab} {N : List Str} {sc : Scope} {fp : Str → Bool} {es : List Expr}, chkTs T N sc fp ts es = true → ∀ ds ρ S ρ' S', stos Φ G ts ds ρ S = some (ρ', S') → ds.length = es.length
  | .nil, _, _, _, _, [], _, [], _, _, _, _, _ => rfl
  | .nil, _, _, _, _, [], _, _ :: _, _, _, _, _, h => by cases (show (none : Option (Env × Sto)) = some _ from h)
  | .nil, _, _, _, _, _ :: _, h, _, _, _, _, _, _ => by simp [chkTs] at h
  | .cons _ _, _, _, _, _, [], h, _, _, _, _, _, _ => by simp [chkTs] at h
  | .cons t ts, T, N, sc, fp, e :: es, h, [], _, _, _, _, q => by cases (show (none : Option (Env × Sto)) = some _ from q)
  | .cons t ts, T, N, sc, fp, e :: es, h, d :: ds, ρ, S, ρ', S', q => by
    simp only [chkTs, Bool.and_eq_true] at h
    have q : ((sto Φ G t d ρ S).bind fun p => stos Φ G ts ds p.1 p.2) = some (ρ', S') := q
    obtain ⟨⟨ρ1, S1⟩, _, q⟩ := Mi.bind_some q
    rw [List.length_cons, List.length_cons, stos_len h.2 ds _ _ _ _ q]
theorem aslen {T : Tab} {N : List Str} {sc : Scope} {fp : Str → Bool} {env : PySem.Env} : ∀ {ms : MTs} {es : List Expr}, chkTs T N sc fp ms es = true → (assignEach es env).length = es.length ∧ (assignEach es env).findIdx? (·.1) = none
  | .nil, [], _ => ⟨rfl, rfl⟩
  | .nil, _ :: _, h => by simp [chkTs] at h
  | .cons m ms, [], h => by simp [chkTs] at h
  | .cons m ms, e :: es, h => by
    simp only [chkTs, Bool.and_eq_true] at h
    obtain ⟨h1, h2⟩ := aslen (env := env) h.2
    rw [aseach_of h.1.1]
    refine ⟨by rw [List.length_cons, h1, List.length_cons], ?_⟩
    rw [List.findIdx?_cons, h2]; rfl
end
end Mi
end
section
namespace Mi
open PySem PySem.Spec L2 PyProof.Rows PpSet
section
variable {P : Program} {w : World} {A : Around} {E : Value → Shared → Prop} {s : Shared}
theorem set_update_bools {I : Addr} {fp wr : List Addr} {G : Array GenState → Array GenState → Prop} {n : Nat} {Pv : Nat → Value → Prop} {St : Nat → Shared → Prop} {R : Result → Shared → Prop}
    (W : WalksS P w A.in1 I fp wr G n Pv St) (S : Addr) (hSf : S ∉ fp) (ns : List Bool) (hn : n = ns.length) (hval : ∀ i v, Pv i v → ∃ k, ns[i]? = some k ∧ v = .bool k) :
    ∀ (k i : Nat) (s : Shared), n - i = k → i ≤ n → St i s → (∃ c, SetB w s.heap S (fun j => decide (j ∈ ns.take i)) c) →
      (∀ s' c, Moved (S :: wr) G s s' → SetB w s'.heap S (fun j => decide (j ∈ ns)) c → R (.ok (.ret .none)) s') →
      codeAny (model P w) A (.builtin "set.update.loop" ⟨[.ref S, .ref I], []⟩) R s := by
  have hSw : S ∉ wr := fun h => hSf (W.sub _ h)
  have hsub : ∀ b ∈ wr, b ∈ S :: wr := fun b hb => List.mem_cons_of_mem _ hb
  have two : ∀ {h : Heap} {f : Bool → Bool} {c : Nat}, SetB w h S f c → c ≤ 2 := fun {h f c} R => by
    obtain ⟨o, es, ep, t, ho, hex, hd, g, nd, hm, hb, hf, hn, hr, hl⟩ := R
    have l : (es.toList.map keyB).length = c := by rw [List.length_map, Array.length_toList, hn]
    rw [← l]
    generalize es.toList.map keyB = bs at nd ⊢
    match bs, nd with
    | [], _ => exact Nat.zero_le _
    | [_], _ => exact Nat.le_of_ble_eq_true rfl
    | [_, _], _ => exact Nat.le_refl _
    | a :: b :: c :: r, nd =>
      have h1 := List.nodup_cons.mp nd
      have h2 := List.nodup_cons.mp h1.2
      exfalso
      simp only [List.mem_cons, not_or] at h1 h2
      cases a <;> cases b <;> cases c <;> simp_all
  intro k
  induction k with
  | zero =>
    intro i s hk' hi hst ⟨c, hS⟩ hR
    have hin : i = n := by omega
    subst hin
    refine codeAny_builtin F.entry_set_update_loop ?_
    rw [Around.under_plainId F.plain_set_update_loop _]
    show wpAny _ A.in1 (pyNext (.ref I) >>= _) _ _ s
    refine wpAny_bind (W.done s _ _ hst fun s' hm => ?_)
    show wpAny _ A.in1 (ret Value.none) _ _ s'
    have e : ns.take i = ns := List.take_of_length_le (by omega)
    rw [e] at hS
    exact wpAny_pure (hR s' c (hm.mono hsub) (hS.at fun o e => hm.heap S o hSw e))
  | succ k ih =>
    intro i s hk' hi hst ⟨c, hS⟩ hR
    have hlt : i < n := by omega
    refine codeAny_builtin F.entry_set_update_loop ?_
    rw [Around.under_plainId F.plain_set_update_loop _]
    show wpAny _ A.in1 (pyNext (.ref I) >>= _) _ _ s
    refine wpAny_bind (W.item i s _ _ hlt hst fun v s' hP hst' hm => ?_)
    obtain ⟨z, hz, rfl⟩ := hval i v hP
    have hS' : SetB w s'.heap S (fun j => decide (j ∈ ns.take i)) c := hS.at fun o e => hm.heap S o hSw e
    have hc2 := two hS'
    show wpAny _ A.in1 (holding [Value.bool z] (setAdd S (.bool z)) >>= _) _ _ s'
    refine wpAny_bind (wpAny_holding ?_)
    unfold setAdd
    refine wpAny_holding ?_
    refine wpAny_bind ((boolK P w).pyHash (k := z) (boolK_is P w z) ?_)
    refine setB_add_hashed (s := { s' with toks := s'.toks + 1 }) hS' (by unfold scanBound; omega) fun h' hsb hS2 => ?_
    have hS3 : SetB w h' S (fun j => decide (j ∈ ns.take (i + 1))) (if decide (z ∈ ns.take i) = true then c else c + 1) := hS2.congr fun j => by
      rw [List.take_add_one, hz]
      simp [List.mem_append]
    refine wpAny_pure ⟨plainId_quiet F.plain_set_update_loop _, ih (i + 1) _ (by omega) hlt (W.frame _ s' _ _ hst' (Nat.le_succ _) fun b hb o e => ?_) ⟨_, hS3⟩ fun s'' c2 hm'' hS'' => ?_⟩
    · rw [hsb.2 b (fun h : b = S => hSf (by rw [← h]; exact hb))]; exact e
    · refine hR s'' c2 (Moved.trans W.gtrans ((hm.mono hsub).then_heap (Nat.le_succ _) fun b o hb e => ?_) hm'') hS''
      rw [hsb.2 b (fun h : b = S => hb (by rw [h]; exact List.mem_cons_self))]; exact e
theorem setB_new_at {h : Heap} {a : Addr} (e : h.get? a = some (freshSet w)) : SetB w h a (fun _ => false) 0 :=
  ⟨_, #[], 0, _, e, ⟨rfl, rfl, rfl⟩, rfl, (fun e he => by simp at he), (by simp), (fun k => by simp), (by decide), (by rfl), rfl, List.Pairwise.nil, by
    show _ ∨ (!w.params.followText "set-order") = true
    cases w.params.followText "set-order"
    · exact .inr rfl
    · exact .inl rfl⟩
theorem set_of_listB {l : Addr} {its : Array Value} {ns : List Bool} {Q : Value → Shared → Prop} (hh : A.handled = none) (hl : s.heap.IsList l its) (len : its.size = ns.length) (at_ : ∀ (i : Nat) (v : Value), its[i]? = some v → ∃ k, ns[i]? = some k ∧ v = .bool k)
    (h : ∀ (h' : Heap) (tk c : Nat), SetB w h' s.heap.objs.size (fun j => decide (j ∈ ns)) c → (∀ b o, s.heap.get? b = some o → h'.get? b = some o) → Q (.ref s.heap.objs.size) { s with heap := h', toks := tk }) :
    wpAny (model P w) A (call (.type "set") [.ref l]) Q E s := by
  have got : (s.heap.push (freshSet w)).get? s.heap.objs.size = some (freshSet w) := Heap.get?_push_size _ rfl
  have ty : Shared.TypeIs { s with heap := s.heap.push (freshSet w) } (.ref s.heap.objs.size) "set" := ⟨_, got, rfl⟩
  have init : ∀ (A' : Around), A'.handled = none → codeAny (model P w) A' (.call (.builtin "set.__init__") ⟨[.ref s.heap.objs.size, .ref l], []⟩)
      (wants (fun r s₂ => r = .none ∧ Q (.ref s.heap.objs.size) s₂) E) { s with heap := s.heap.push (freshSet w) } := fun A' ha => by
    refine codeAny_call_builtin F.called_set.init.plain F.entry_set_init (check_set_init_1 ty ?_)
    obtain ⟨⟨ocls, odict, odata, oslots⟩, hol, hcl, nl, hdl⟩ := id hl
    simp only at hcl hdl
    subst hcl hdl
    have hol' := Heap.get?_push_of_some (freshSet w) hol
    have l1 : (s.heap.push (freshSet w)).IsList l its := ⟨_, hol', rfl, nl, rfl⟩
    have s1 := F.sub_list_set
    have s2 := F.sub_list_frozenset
    have s3 : (Value.type "list" == Value.type "dict") = false := by decide
    unfold Builtin.«set.__init__» noKeywords Builtin.Frozenset.updateFrom
    generalize hPI : pyIter = PI
    wp_walk
    subst hPI
    refine wpAny_pyIter_list l1 (wpAny_bind (wpAny_runValue ?_))
    have lt := Heap.lt_size hol
    have sz : (s.heap.push (freshSet w)).objs.size = s.heap.objs.size + 1 := Heap.size_push ..
    have ne : l ≠ (s.heap.push (freshSet w)).objs.size := fun z => Nat.lt_irrefl _ (Nat.lt_of_lt_of_eq (Nat.lt_succ_of_lt lt) (sz.symm.trans z.symm))
    have out : s.heap.objs.size ∉ [(s.heap.push (freshSet w)).objs.size, l] := fun z => by
      rcases List.mem_cons.mp z with z | z
      · exact Nat.lt_irrefl _ (Nat.lt_of_lt_of_eq (Nat.lt_succ_self _) (sz.symm.trans z.symm))
      · exact Nat.lt_irrefl _ (Nat.lt_of_lt_of_eq lt (List.mem_singleton.mp z))
    refine set_update_bools (Walks.list (by simp [ha]) _ l ne its).toS s.heap.objs.size out ns len at_ its.size 0 _ rfl (Nat.zero_le _) ⟨⟨_, Heap.get?_push_size _ rfl, rfl, rfl⟩, l1.push _⟩ ⟨0, (setB_new_at (Heap.get?_push_of_some _ got)).congr fun k => by simp⟩ fun s' c mv hS => ?_
    obtain ⟨h', g2, d2, tk2, os2⟩ := s'
    obtain rfl : g2 = s.gens := mv.gens
    obtain rfl : d2 = s.drawn := mv.drawn
    obtain rfl : os2 = s.os := mv.os
    show wpAny _ _ _ _ _ _
    refine wpAny_pure (show wpAny _ _ (ret Value.none) _ _ _ from wpAny_pure ⟨rfl, h h' tk2 c hS fun b o e => ?_⟩)
    have lb := Heap.lt_size e
    refine mv.heap b o (fun z => ?_) (Heap.get?_push_of_some _ (Heap.get?_push_of_some _ e))
    rcases List.mem_cons.mp z with z | z
    · exact Nat.lt_irrefl _ (Nat.lt_of_lt_of_eq lb z.symm)
    · exact Nat.lt_irrefl _ (Nat.lt_of_lt_of_eq (Nat.lt_succ_of_lt lb) (sz.symm.trans (List.mem_singleton.mp z).symm))
  obtain ⟨c, tl, hmro⟩ := F.called_set.mro
  have hmade := F.called_set.made
  have hsub := F.called_set.sub
  have h1 := F.called_set.notType
  have h2 := F.called_set.canCreate
  have hct := F.typeCall_set_1 (.ref l)
  refine wpAny_call (codeAny_of_tree (show wpAny _ _ (callAny (.type "set") _) _ _ _ from ?_))
  refine wpAny_pure ⟨Code.quiet_builtin _ (by decide +kernel), codeAny_builtin F.entry_type_call ?_⟩
  rw [Around.under_plain (weight_type_call_type "set" [.ref l] []) rfl]
  repeat (any_goals (first | assumption | wp_step))
  refine codeAny_mono (code_set_led1 (.ref l) (E := E) (Q₁ := fun obj s₁ => obj = .ref s.heap.objs.size ∧ s₁ = { s with heap := s.heap.push (freshSet w) }) ⟨rfl, rfl⟩) fun r s₁ hr => ?_
  rcases r with e | fl
  · exact hr
  cases fl with
  | ret obj =>
    obtain ⟨rfl, rfl⟩ := hr
    have hli := F.called_set.init.lookup
    have hbi := F.called_set.init.bind (.ref s.heap.objs.size)
    repeat (any_goals (first | assumption | wp_step))
    refine codeAny_mono (init _ (by simp [hh])) fun r₂ s₂ hr₂ => ?_
    rcases r₂ with e | fl₂
    · exact hr₂
    cases fl₂ with
    | ret r =>
      obtain ⟨rfl, hq⟩ := hr₂
      repeat (any_goals (first | assumption | wp_step))
    | _ => exact hr₂.elim
  | _ => exact hr.elim
theorem setB_size {h : Heap} {a : Addr} {ns : List Bool} {c : Nat} (R : SetB w h a (fun j => decide (j ∈ ns)) c) : c = ubl ns := by
  obtain ⟨o, es, ep, t, ho, hex, hd, g, nd, hm, hb, hf, hn, hr, hl⟩ := R
  have l : (es.toList.map keyB).length = c := by rw [List.length_map, Array.length_toList, hn]
  rw [← l]
  have h1 := hm true
  have h2 := hm false
  rw [decide_eq_true_eq] at h1 h2
  unfold ubl
  generalize es.toList.map keyB = bs at nd h1 h2 ⊢
  simp only [h1, h2]
  match bs, nd with
  | [], _ => rfl
  | [a], _ => cases a <;> rfl
  | [a, b], nd =>
    have := (List.nodup_cons.mp nd).1
    cases a <;> cases b <;> first | rfl | (exfalso; simp at this)
  | a :: b :: c :: r, nd =>
    have h1 := List.nodup_cons.mp nd
    have h2 := List.nodup_cons.mp h1.2
    exfalso
    simp only [List.mem_cons, not_or] at h1 h2
    cases a <;> cases b <;> cases c <;> simp_all
end
theorem bools_at {bs : List Bool} {its : Array Value} (h : Vals (bs.map V.bl) its.toList) : its.size = bs.length ∧ ∀ (i : Nat) (v : Value), its[i]? = some v → ∃ k, bs[i]? = some k ∧ v = .bool k := by
  have key : ∀ {bs : List Bool} {us : List Value}, Vals (bs.map V.bl) us → us = bs.map Value.bool := fun {bs} => by
    induction bs with
    | nil => intro us h; cases h; rfl
    | cons b bs ih =>
      intro us h
      cases h with
      | cons h1 h2 =>
        cases h1
        rw [ih h2]; rfl
  have e := key h
  refine ⟨by rw [← Array.length_toList, e, List.length_map], fun i v hv => ?_⟩
  rw [← Array.getElem?_toList, e, List.getElem?_map] at hv
  obtain ⟨k, hk, rfl⟩ := map_some hv
  exact ⟨k, hk, rfl⟩
section
variable {X : Cx} {Φ : Fns} {G : List D} {e e1 e2 : Expr} {pos apos cpos p p2 q0 : Pos}
theorem de_lsetb {m : ME} (hc : X.calm = true) (hg : Gl X "len") (hm : X.mg "len" = none) (hg2 : Gl X "set") (hm2 : X.mg "set" = none) (hs : starEach [e] X.env = (false, eval e X.env) :: starEach [] X.env) (h : DE X Φ G e m) :
    DE X Φ G (.Call (.Name "len" p) [.Call (.Name "set" p2) [e] [] q0] [] pos) (.o1 .lsetb m) := by
  refine ⟨fun pins s σ H Q I hw => ?_⟩
  refine Call_ (ld_blt I hg hm boot_len (PyProof.Rows.callWith_builtin1 (PyProof.Rows.args_cons ?_ rfl) rfl rfl))
  have hw := one_op hw
  refine Call_ (ld_blt I hg2 hm2 boot_set ?_)
  refine PyProof.Rows.callWith_type1 (PyProof.Rows.args_cons (thn (h.run pins s σ H _ I (tR_mono hw fun x H1 z => z)) fun v s1 ⟨x, H1, I1, r1, q1⟩ => PyProof.Rows.args_nil ?_) hs) hs rfl
  obtain ⟨W0, W, S, r, S', a, eH, rel, ra, hr, q⟩ := q1
  subst eH
  change ((lview S a).bind fun ds => (bls? ds).bind fun is => if is.length ≤ 1000 then some (Rt.val (.int (ubl is)), S) else none) = _ at hr
  obtain ⟨ds, hd, hr⟩ := Mi.bind_some hr
  obtain ⟨is, hi, hr⟩ := Mi.bind_some hr
  split at hr
  · rename_i hb
    cases hr
    obtain ⟨l, vs, rfl, hsq, lr⟩ := ra.lv rel hd
    have f := lr.bls hi
    subst f
    cases r1
    obtain ⟨its, rv, pl, hz⟩ := I1.list hsq
    obtain ⟨ln, at_⟩ := bools_at rv
    refine set_of_listB (I1.ok.hd hc) pl.isList ln at_ fun h' tk c R k => PyProof.Rows.args_nil ?_
    have hc2 := setB_size R
    subst hc2
    obtain ⟨o, es, ep, t, ho, hex, hd, g, nd, hm, hb2, hf, hn, hr, hl⟩ := R
    exact call_len_set ho hex hd hf (by unfold scanBound at hb2; omega) ⟨.int (ubl is), W.H, (I1.kept k).tok _, ⟨_, by rw [hn]⟩, q W _ (Ext.refl W) rel int_repr⟩
  · cases hr
end
end Mi
end
section
namespace Mi
open PySem PySem.Spec L2 PyProof.Rows PySem.W
def tD (t : List Int) : PyData := .tuple (t.map .int)
theorem toPys_ints : ∀ {xs : List D} {is : List Int}, ints? xs = some is → toPys xs = some (is.map .int)
  | [], is, h => by cases h; rfl
  | .int i :: r, is, h => by
    rw [ints?] at h
    obtain ⟨js, hj, rfl⟩ := map_some h
    rw [toPys, toPys_ints hj]; rfl
  | .non :: _, _, h => by cases h
  | .bl _ :: _, _, h => by cases h
  | .str _ :: _, _, h => by cases h
  | .tup _ :: _, _, h => by cases h
  | .lst _ :: _, _, h => by cases h
  | .scr _ :: _, _, h => by cases h
  | .ref _ :: _, _, h => by cases h
  | .dct _ _ :: _, _, h => by cases h
theorem ints_of? : ∀ {xs : List D} {is : List Int}, ints? xs = some is → xs = is.map .int
  | [], is, h => by cases h; rfl
  | .int i :: r, is, h => by
    rw [ints?] at h
    obtain ⟨js, hj, rfl⟩ := map_some h
    rw [ints_of? hj]; rfl
  | .non :: _, _, h => by cases h
  | .bl _ :: _, _, h => by cases h
  | .str _ :: _, _, h => by cases h
  | .tup _ :: _, _, h => by cases h
  | .lst _ :: _, _, h => by cases h
  | .scr _ :: _, _, h => by cases h
  | .ref _ :: _, _, h => by cases h
  | .dct _ _ :: _, _, h => by cases h
theorem toPys_im : ∀ is : List Int, toPys (is.map .int) = some (is.map .int)
  | [] => rfl
  | i :: is => by rw [List.map_cons, toPys, toPys_im is]; rfl
theorem toPys_tints : ∀ {ds : List D} {tss : List (List Int)}, tints? ds = some tss → toPys ds = some (tss.map tD) ∧ ds = tss.map fun t => .tup (t.map .int)
  | [], tss, h => by cases h; exact ⟨rfl, rfl⟩
  | .tup xs :: r, tss, h => by
    rw [tints?] at h
    obtain ⟨is, hi, h⟩ := Mi.bind_some h
    obtain ⟨us, hu, rfl⟩ := map_some h
    obtain ⟨e1, e2⟩ := toPys_tints hu
    have e3 : toPy (.tup xs) = some (tD is) := by rw [toPy, toPys_ints hi]; rfl
    refine ⟨by rw [toPys, e3, e1]; rfl, ?_⟩
    rw [List.map_cons, ← e2]
    congr 2
    exact ints_of? hi
  | .non :: _, _, h => by cases h
  | .bl _ :: _, _, h => by cases h
  | .str _ :: _, _, h => by cases h
  | .int _ :: _, _, h => by cases h
  | .lst _ :: _, _, h => by cases h
  | .scr _ :: _, _, h => by cases h
  | .ref _ :: _, _, h => by cases h
  | .dct _ _ :: _, _, h => by cases h
theorem alike_ti : ∀ a b : List Int, alikeAll (a.map .int) (b.map .int) = true
  | [], b => by cases b <;> rfl
  | x :: a, [] => rfl
  | x :: a, y :: b => by
    rw [List.map_cons, List.map_cons, alikeAll, alike_ti a b]; rfl
theorem eqv_int (x y : Int) : PyData.eqv (.int x) (.int y) = decide (x = y) := by unfold PyData.eqv; rfl
theorem toks_ti : ∀ a b : List Int, PyProof.Rows.lexLt itemOrd (keyToksAll (a.map .int)) (keyToksAll (b.map .int)) = HT.lexLt a b
  | [], [] => by decide
  | [], y :: b => by
    rw [List.map_nil, List.map_cons, keyToksAll, keyToksAll]
    show _ = true
    exact (lex_atom (by decide) _ _).trans (by decide)
  | x :: a, [] => by
    rw [List.map_nil, List.map_cons, keyToksAll, keyToksAll]
    show _ = false
    exact (lex_atom (by decide) _ _).trans (by decide)
  | x :: a, y :: b => by
    rw [List.map_cons, List.map_cons, HT.lexLt]
    by_cases h : x = y
    · rw [if_pos h, dataLt_all_yes rfl (by rw [eqv_int]; exact decide_eq_true h), toks_ti a b]
    · rw [if_neg h, dataLt_all_no rfl (by rw [eqv_int]; exact decide_eq_false h), dataLt_int]
theorem dataLt_ti (a b : List Int) : dataLt (tD a) (tD b) = HT.lexLt a b := by
  unfold tD
  rw [dataLt_tuple, toks_ti]
theorem minD_ti : ∀ (ts : List (List Int)) (t : List Int), minD (tD t) (ts.map tD) = tD (minT t ts)
  | [], t => rfl
  | y :: ys, t => by
    show minD (if dataLt (tD y) (tD t) = true then tD y else tD t) (ys.map tD) = tD (minT (if HT.lexLt y t = true then y else t) ys)
    rw [dataLt_ti]
    split
    · exact minD_ti ys y
    · exact minD_ti ys t
theorem depth_ti (t : List Int) : PyData.depthAll (t.map PyData.int) = 0 := by
  induction t with
  | nil => rfl
  | cons x t ih => rw [List.map_cons, PyData.depthAll, ih]; rfl
theorem depths_ti (ts : List (List Int)) : PyData.depthAll (ts.map tD) ≤ 1 := by
  induction ts with
  | nil => exact Nat.zero_le _
  | cons t ts ih =>
    have : (tD t).depth = 1 := by unfold tD; rw [PyData.depth, depth_ti]
    rw [List.map_cons, PyData.depthAll, this]
    omega
theorem alikes_ti (ts : List (List Int)) : AlikeAll (ts.map tD) := by
  refine ⟨fun x hx y hy => ?_, fun x hx => ?_⟩
  · obtain ⟨a, _, rfl⟩ := List.mem_map.mp hx
    obtain ⟨b, _, rfl⟩ := List.mem_map.mp hy
    unfold tD
    rw [alike]; exact alike_ti a b
  · obtain ⟨a, _, rfl⟩ := List.mem_map.mp hx
    intro h; cases h
theorem tD_inj {a b : List Int} (h : tD a = tD b) : a = b := by
  unfold tD at h
  injection h with h
  induction a generalizing b with
  | nil => cases b with
    | nil => rfl
    | cons _ _ => cases h
  | cons x a ih => cases b with
    | nil => cases h
    | cons y b =>
      rw [List.map_cons, List.map_cons] at h
      injection h with h1 h2
      injection h1 with h1
      rw [h1, ih h2]
section
variable {X : Cx} {Φ : Fns} {G : List D} {e e1 e2 : Expr} {pos apos cpos p p2 q0 : Pos}
theorem de_mint {m : ME} (hc : X.calm = true) (hu : X.A.units + 3 < cLine) (hg : Gl X "min") (hm : X.mg "min" = none) (hs : starEach [e] X.env = (false, eval e X.env) :: starEach [] X.env) (h : DE X Φ G e m) :
    DE X Φ G (.Call (.Name "min" p) [e] [] pos) (.o1 .mint m) := by
  refine ⟨fun pins s σ H Q I hw => ?_⟩
  have hw := one_op hw
  refine Call_ (ld_blt I hg hm boot_min (PyProof.Rows.callWith_builtin1 (PyProof.Rows.args_cons (thn (h.run pins s σ H _ I hw) fun v s1 ⟨x, H1, I1, r1, q1⟩ => PyProof.Rows.args_nil ?_) hs) hs rfl))
  obtain ⟨W0, W, S, r, S', a, eH, rel, ra, hr, q⟩ := q1
  subst eH
  change ((lview S a).bind fun ds => (tints? ds).bind fun tss => match tss with
    | [] => none
    | t :: ts => some (Rt.val (.tup ((minT t ts).map .int)), S)) = _ at hr
  obtain ⟨ds, hd, hr⟩ := Mi.bind_some hr
  obtain ⟨tss, ht, hr⟩ := Mi.bind_some hr
  cases tss with
  | nil => cases hr
  | cons t ts =>
    cases hr
    obtain ⟨l, vs, rfl, hsq, lr⟩ := ra.lv rel hd
    obtain ⟨e1, e2⟩ := toPys_tints ht
    cases r1
    obtain ⟨its, rv, pl, hz⟩ := I1.list hsq
    obtain ⟨as, rd⟩ := Dp.readsAll I1 _ _ _ (RepL.dp _ _ _ lr e1) rv
    rw [List.map_cons] at rd
    refine min_list_data (I1.ok.hd hc) pl.isList (by simpa using rd) (alikes_ti (t :: ts)) (by have := depths_ti (t :: ts); rw [List.map_cons] at this; omega) fun i v h' tk bs hv rb hk => ?_
    rw [minD_ti] at rb
    have hv' : its[i]? = some v := by simpa using hv
    have hi : i < ds.length := by
      have := (List.getElem?_eq_some_iff.mp hv').1
      rw [← rv.length, lr.length] at this
      exact this
    obtain ⟨w, hw', rw'⟩ := lr.get (List.getElem?_eq_getElem hi)
    obtain ⟨v', hv2, rv'⟩ := rv.get hw'
    rw [hv'] at hv2
    cases hv2
    have hti : ∃ u, ds[i] = .tup (u.map .int) ∧ toPy ds[i] = some (tD u) := by
      have : ds[i]? = ((t :: ts).map fun t => D.tup (t.map .int))[i]? := by rw [← e2]
      rw [List.getElem?_eq_getElem hi, List.getElem?_map] at this
      obtain ⟨u, hu, e⟩ := map_some this.symm
      refine ⟨u, e.symm, ?_⟩
      rw [← e, toPy, toPys_im u]; rfl
    obtain ⟨u, eu, epu⟩ := hti
    obtain ⟨as2, rd2⟩ := Dp.readsAll I1 [tD u] [w] [v] (RepL.dp [ds[i]] [w] [tD u] (.cons rw' .nil) (by rw [toPys, epu]; rfl)) (.cons rv' .nil)
    have eum : u = minT t ts := by
      cases rd2 with
      | cons r _ =>
        have := (PySem.Reads.unique (Reads.keeps hk r) _ _ rb).1
        exact tD_inj this
    refine ⟨w, W.H, I1.kept hk, rv', q W w (Ext.refl W) rel ?_⟩
    show Rep X.K W (.tup ((minT t ts).map .int)) w
    rw [← eum, ← eu]; exact rw'
end
end Mi
end
section
namespace Mi
open PySem PySem.Spec L2 PyProof.Rows
section
variable {prog : Program} {w : World} {A : Around} {E : Value → Shared → Prop} {s : Shared}

def HKeep (z a b : Addr) (h h' : Heap) : Prop := ∀ c ob, c ≠ z → c ≠ a → c ≠ b → h.get? c = some ob → h'.get? c = some ob
theorem zh_item {k m : Kd} {z I O T a b p q : Addr} {f : Bool} {oT : Obj} {i j : Nat} {xs ys : Array Value} {x y : Value} {Q : Value → Shared → Prop} (D : ZipApart z I O a b p q)
    (hz : IsZipHeld s.heap z I O T f) (hT : s.heap.get? T = some oT) (hI : IsPair s.heap I (.ref a) (.ref b))
    (ha : k.It s.heap a p i) (hb : m.It s.heap b q j) (hp : k.Sq s.heap p xs) (hq : m.Sq s.heap q ys) (hx : xs[i]? = some x) (hy : ys[j]? = some y)
    (fin : ∀ h', IsZipHeld h' z I O T true → k.It h' a p (i + 1) → m.It h' b q (j + 1) → IsPair h' s.heap.objs.size x y → HKeep z a b s.heap h' → Q (.ref s.heap.objs.size) { s with heap := h' }) :
    wpAny (model prog w) A (Builtin.«zip.__next__» ⟨[.ref z], []⟩) (fun fi s' => ∃ r, fi = .done (.ret r) ∧ Q r s') E s := by
  show wpAny _ _ (field (.ref z) 2 >>= _) _ _ _
  refine wpAny_bind (wpAny_field hz rfl (x := .bool false) rfl (?_ : wpAny _ _ (field (.ref z) 3 >>= _) _ _ _))
  refine wpAny_bind (wpAny_field hz rfl (x := .ref I) rfl (wpAny_bind (wpAny_seqItems hI rfl (?_ : wpAny _ _ (Builtin.SmallTypes.ownedTupleIsFree (.ref z) >>= _) _ _ _))))
  refine wpAny_bind (wpAny_tupleHeld_zip hz hT fun g1 z1 s1 => ?_)
  simp only [Bool.false_eq_true, if_false]
  refine wpAny_bind ?_
  rw [← Array.forIn_toList]
  simp only [List.forIn_cons, List.forIn_nil]
  refine wpAny_bind (wpAny_bind (wpAny_holding (?_ : wpAny _ _ (Builtin.SmallTypes.nextOf (.ref a) >>= _) _ _ _)))
  refine wpAny_bind (Kd.next (s := { s with heap := g1 }) (ha.eb s1.extBut D.i1z) (hp.eb s1.extBut D.l1z) hx fun g2 a2 s2 => wpAny_pure (wpAny_pure ?_))
  refine wpAny_bind (wpAny_bind (wpAny_holding (?_ : wpAny _ _ (Builtin.SmallTypes.nextOf (.ref b) >>= _) _ _ _)))
  refine wpAny_bind (Kd.next (s := { s with heap := g2 }) ((hb.eb s1.extBut D.i2z).eb s2.extBut D.i12.symm) ((hq.eb s1.extBut D.l2z).eb s2.extBut D.l2i1) hy fun g3 b3 s3 => wpAny_pure (wpAny_pure (wpAny_pure (?_ : wpAny _ _ (newTuple [x, y] >>= _) _ _ _))))
  refine wpAny_bind (wpAny_newTuple (wpAny_pure ⟨_, rfl, (?_ : Q (.ref g3.objs.size) _)⟩))
  have sz : g3.objs.size = s.heap.objs.size := by rw [s3.1, s2.1, s1.1]
  have z3 : IsZipHeld g3 z I O T true := s3.extBut _ _ D.i2z.symm (s2.extBut _ _ D.i1z.symm z1)
  have k3 : HKeep z a b s.heap g3 := fun c ob c1 c2 c3 e => s3.extBut _ _ c3 (s2.extBut _ _ c2 (s1.extBut _ _ c1 e))
  have a3 : k.It g3 a p (i + 1) := a2.eb s3.extBut D.i12
  have t3 : IsPair (g3.push { cls := .type "tuple", data := .seq #[x, y] }) g3.objs.size x y := Heap.get?_push_size _ rfl
  rw [sz] at t3 ⊢
  exact fin _ (Heap.get?_push_of_some _ z3) (a3.mv fun ob e => Heap.get?_push_of_some _ e) (b3.mv fun ob e => Heap.get?_push_of_some _ e) t3 fun c ob c1 c2 c3 e => Heap.get?_push_of_some _ (k3 c ob c1 c2 c3 e)
theorem zh_end {k m : Kd} {z I O T a b p q : Addr} {f : Bool} {oT : Obj} {i j : Nat} {xs ys : Array Value} {Q : Fin → Shared → Prop} (hh : A.handled = none) (D : ZipApart z I O a b p q)
    (hz : IsZipHeld s.heap z I O T f) (hT : s.heap.get? T = some oT) (hI : IsPair s.heap I (.ref a) (.ref b))
    (ha : k.It s.heap a p i) (hb : m.It s.heap b q j) (hp : k.Sq s.heap p xs) (hq : m.Sq s.heap q ys) (he : xs[i]? = none ∨ ys[j]? = none)
    (fin : ∀ h' e, HKeep z a b s.heap h' → (∃ o, h'.get? e = some o ∧ o.cls = .type "StopIteration") → E (.ref e) { s with heap := h' }) :
    wpAny (model prog w) A (Builtin.«zip.__next__» ⟨[.ref z], []⟩) Q E s := by
  show wpAny _ _ (field (.ref z) 2 >>= _) _ _ _
  refine wpAny_bind (wpAny_field hz rfl (x := .bool false) rfl (?_ : wpAny _ _ (field (.ref z) 3 >>= _) _ _ _))
  refine wpAny_bind (wpAny_field hz rfl (x := .ref I) rfl (wpAny_bind (wpAny_seqItems hI rfl (?_ : wpAny _ _ (Builtin.SmallTypes.ownedTupleIsFree (.ref z) >>= _) _ _ _))))
  refine wpAny_bind (wpAny_tupleHeld_zip hz hT fun g1 z1 s1 => ?_)
  simp only [Bool.false_eq_true, if_false]
  refine wpAny_bind ?_
  rw [← Array.forIn_toList]
  simp only [List.forIn_cons, List.forIn_nil]
  refine wpAny_bind (wpAny_bind (wpAny_holding (?_ : wpAny _ _ (Builtin.SmallTypes.nextOf (.ref a) >>= _) _ _ _)))
  cases hx : xs[i]? with
  | none => exact wpAny_bind (Kd.stop (s := { s with heap := g1 }) hh (ha.eb s1.extBut D.i1z) (hp.eb s1.extBut D.l1z) hx fun g2 e s2 o => fin g2 e (fun c ob c1 c2 _ x => s2 _ _ c2 (s1.extBut _ _ c1 x)) o)
  | some x =>
    have hy : ys[j]? = none := he.elim (fun z => by rw [hx] at z; cases z) id
    refine wpAny_bind (Kd.next (s := { s with heap := g1 }) (ha.eb s1.extBut D.i1z) (hp.eb s1.extBut D.l1z) hx fun g2 a2 s2 => wpAny_pure (wpAny_pure ?_))
    refine wpAny_bind (wpAny_bind (wpAny_holding (?_ : wpAny _ _ (Builtin.SmallTypes.nextOf (.ref b) >>= _) _ _ _)))
    exact wpAny_bind (Kd.stop (s := { s with heap := g2 }) hh ((hb.eb s1.extBut D.i2z).eb s2.extBut D.i12.symm) ((hq.eb s1.extBut D.l2z).eb s2.extBut D.l2i1) hy fun g3 e s3 o => fin g3 e (fun c ob c1 c2 c3 x => s3 _ _ c3 (s2.extBut _ _ c2 (s1.extBut _ _ c1 x))) o)
theorem zhn_item {k m : Kd} {z I O T a b p q : Addr} {f : Bool} {oT : Obj} {i j : Nat} {xs ys : Array Value} {x y : Value} {Q : Option Value → Shared → Prop} (D : ZipApart z I O a b p q)
    (hz : IsZipHeld s.heap z I O T f) (hT : s.heap.get? T = some oT) (hI : IsPair s.heap I (.ref a) (.ref b))
    (ha : k.It s.heap a p i) (hb : m.It s.heap b q j) (hp : k.Sq s.heap p xs) (hq : m.Sq s.heap q ys) (hx : xs[i]? = some x) (hy : ys[j]? = some y)
    (fin : ∀ h', IsZipHeld h' z I O T true → k.It h' a p (i + 1) → m.It h' b q (j + 1) → IsPair h' s.heap.objs.size x y → HKeep z a b s.heap h' → Q (some (.ref s.heap.objs.size)) { s with heap := h' }) :
    wpAny (model prog w) A (pyNext (.ref z)) Q E s := by
  have ty : s.TypeIs (.ref z) "zip" := ⟨_, hz, rfl⟩
  unfold pyNext
  exact wpAny_bind (wpAny_attempt (wpAny_callSpecial?_slot (name := Str.ofString "__next__") ty F.slot_zip_next (wpAny_call_entry F.slot_zip_next ty F.entry_zip_next (zh_item D hz hT hI ha hb hp hq hx hy fun h' c1 c2 c3 c4 c5 => wpAny_pure (fin h' c1 c2 c3 c4 c5)) (F.args_zip_next_1 _))))
theorem zhn_end {k m : Kd} {z I O T a b p q : Addr} {f : Bool} {oT : Obj} {i j : Nat} {xs ys : Array Value} {Q : Option Value → Shared → Prop} (hh : A.handled = none) (D : ZipApart z I O a b p q)
    (hz : IsZipHeld s.heap z I O T f) (hT : s.heap.get? T = some oT) (hI : IsPair s.heap I (.ref a) (.ref b))
    (ha : k.It s.heap a p i) (hb : m.It s.heap b q j) (hp : k.Sq s.heap p xs) (hq : m.Sq s.heap q ys) (he : xs[i]? = none ∨ ys[j]? = none)
    (fin : ∀ h', HKeep z a b s.heap h' → Q none { s with heap := h' }) : wpAny (model prog w) A (pyNext (.ref z)) Q E s := by
  have ty : s.TypeIs (.ref z) "zip" := ⟨_, hz, rfl⟩
  unfold pyNext
  refine wpAny_bind (wpAny_attempt (wpAny_callSpecial?_slot (name := Str.ofString "__next__") ty F.slot_zip_next (wpAny_call_entry F.slot_zip_next ty F.entry_zip_next (zh_end hh D hz hT hI ha hb hp hq he fun h' e kp ⟨o, ho, hc⟩ => ?_) (F.args_zip_next_1 _))))
  exact wpAny_bind (wpAny_isInstance (T := "StopIteration") (b := true) ⟨o, ho, hc⟩ isSubtype_stop (wpAny_pure (fin _ kp)))
end
theorem Kd.Sq.mv : ∀ {k : Kd} {h h' : Heap} {a : Addr} {xs : Array Value}, k.Sq h a xs → (∀ o, h.get? a = some o → h'.get? a = some o) → k.Sq h' a xs
  | .l, _, _, _, _, x, e => x.at e
  | .t, _, _, _, _, x, e => x.at e
theorem Kd.Sq.obj : ∀ {k : Kd} {h : Heap} {a : Addr} {xs : Array Value}, k.Sq h a xs → ∃ o, h.get? a = some o
  | .l, _, _, _, ⟨o, q, _⟩ => ⟨o, q⟩
  | .t, _, _, _, ⟨o, q, _⟩ => ⟨o, q⟩
section
variable {prog : Program} {w : World}

theorem pairArgK (k m : Kd) (z I O a b p q : Addr) (D : ZipApart z I O a b p q) (xs ys : Array Value) :
    PairArg prog w "zip" z [z, I, O, a, b, p, q] [z, O, a, b] (min xs.size ys.size) (fun i u v => xs[i]? = some u ∧ ys[i]? = some v)
      (fun h => IsZip h z I O .none ∧ IsPair h I (.ref a) (.ref b) ∧ (∃ u v, IsPair h O u v) ∧ k.It h a p 0 ∧ m.It h b q 0 ∧ k.Sq h p xs ∧ m.Sq h q ys) where
  type := fun s ok => ⟨_, ok.1, rfl⟩
  notDict := by decide
  keep := fun h h' ok hk => by
    obtain ⟨hz, hI, ⟨u, v, hO⟩, ha, hb, hp, hq⟩ := ok
    exact ⟨hk _ _ hz, hk _ _ hI, ⟨u, v, hk _ _ hO⟩, ha.mv fun o e => hk _ o e, hb.mv fun o e => hk _ o e, hp.mv fun o e => hk _ o e, hq.mv fun o e => hk _ o e⟩
  there := fun h ok c hc => by
    obtain ⟨hz, hI, ⟨u, v, hO⟩, ha, hb, hp, hq⟩ := ok
    obtain ⟨o1, e1, _⟩ := ha.obj
    obtain ⟨o2, e2, _⟩ := hb.obj
    simp only [List.mem_cons, List.not_mem_nil, or_false] at hc
    rcases hc with rfl | rfl | rfl | rfl | rfl | rfl | rfl
    · exact ⟨_, hz⟩
    · exact ⟨_, hI⟩
    · exact ⟨_, hO⟩
    · exact ⟨_, e1⟩
    · exact ⟨_, e2⟩
    · exact hp.obj
    · exact hq.obj
  sub := fun c hc => by simp at hc ⊢; rcases hc with rfl | rfl | rfl | rfl <;> simp
  noKeys := fun A s Q E hA ok h => getAttrOr_miss_zip ok.1 rfl rfl rfl zip_no_keys (by decide +kernel) hA h
  iter := fun A s d Q E hA ok hd hdf h => by
    obtain ⟨hz, hI, ⟨u, v, hO⟩, ha, hb, hp, hq⟩ := ok
    simp only [List.mem_cons, List.not_mem_nil, or_false, not_or] at hdf
    obtain ⟨dz, dI, dO, da, db, dp, dq⟩ := hdf
    refine wpAny_pyIter_zip hz (h z [z, O, a, b] (fun i h => IsPair h I (.ref a) (.ref b) ∧ k.It h a p i ∧ m.It h b q i ∧ k.Sq h p xs ∧ m.Sq h q ys ∧
      ((IsZip h z I O .none ∧ ∃ u v, IsPair h O u v) ∨ ∃ T f oT, IsZipHeld h z I O T f ∧ h.get? T = some oT ∧ T ≠ z ∧ T ≠ a ∧ T ≠ b ∧ T ≠ d)) s.heap s.toks ?_
      ⟨hI, ha, hb, hp, hq, .inl ⟨hz, u, v, hO⟩⟩ (fun _ _ e => e) fun c hc => .inl hc)
    exact {
      off := fun hm => by
        simp only [List.mem_cons, List.not_mem_nil, or_false] at hm
        rcases hm with e | e | e | e
        · exact dz e
        · exact dO e
        · exact da e
        · exact db e
      frame := fun i h1 h2 st hk => by
        obtain ⟨hI, ha, hb, hp, hq, hz⟩ := st
        refine ⟨hk _ _ (Ne.symm dI) hI, ha.mv fun o e => hk _ o (Ne.symm da) e, hb.mv fun o e => hk _ o (Ne.symm db) e, hp.mv fun o e => hk _ o (Ne.symm dp) e, hq.mv fun o e => hk _ o (Ne.symm dq) e, ?_⟩
        rcases hz with ⟨hz, u, v, hO⟩ | ⟨T, f, oT, hz, hT, r1, r2, r3, r4⟩
        · exact .inl ⟨hk _ _ (Ne.symm dz) hz, u, v, hk _ _ (Ne.symm dO) hO⟩
        · exact .inr ⟨T, f, oT, hk _ _ (Ne.symm dz) hz, hk _ _ r4 hT, r1, r2, r3, r4⟩
      item := fun i s1 Q1 E1 hi st hds hQ => by
        obtain ⟨hI, ha, hb, hp, hq, hz⟩ := st
        have ex := Array.getElem?_eq_getElem (Nat.lt_of_lt_of_le hi (Nat.min_le_left ..))
        have ey := Array.getElem?_eq_getElem (Nat.lt_of_lt_of_le hi (Nat.min_le_right ..))
        have lt : ∀ {c o}, s1.heap.get? c = some o → s1.heap.objs.size ≠ c := fun e => Nat.ne_of_gt (Heap.lt_size e)
        have n1 : s1.heap.objs.size ≠ a := Nat.ne_of_gt ha.lt
        have n2 : s1.heap.objs.size ≠ b := Nat.ne_of_gt hb.lt
        have out : ∀ {c : Addr}, c ∉ [z, O, a, b] → c ≠ z ∧ c ≠ O ∧ c ≠ a ∧ c ≠ b := fun {c} hc => by simpa using hc
        rcases hz with ⟨hz, u, v, hO⟩ | ⟨T, f, oT, hz, hT, r1, r2, r3, r4⟩
        · refine zn_item D hz hI hO ha hb hp hq ex ey fun h' c1 c2 c3 c4 c5 kp => ?_
          exact hQ s1.heap.objs.size _ _ h' s1.toks ⟨ex, ey⟩ (.inl ⟨_, c5, rfl, _, rfl⟩)
            ⟨kp _ _ D.TIz D.TITO D.TIi1 D.TIi2 hI, c3, c4, hp.mv fun o e => kp _ o D.l1z D.l1TO D.l1i1 D.l1i2 e, hq.mv fun o e => kp _ o D.l2z D.l2TO D.l2i1 D.l2i2 e,
              .inr ⟨s1.heap.objs.size, false, _, c1, c5, lt hz, n1, n2, Nat.ne_of_gt hds⟩⟩
            fun c o hc e => kp c o (out hc).1 (out hc).2.1 (out hc).2.2.1 (out hc).2.2.2 e
        · refine zhn_item D hz hT hI ha hb hp hq ex ey fun h' c1 c3 c4 c5 kp => ?_
          exact hQ s1.heap.objs.size _ _ h' s1.toks ⟨ex, ey⟩ (.inl ⟨_, c5, rfl, _, rfl⟩)
            ⟨kp _ _ D.TIz D.TIi1 D.TIi2 hI, c3, c4, hp.mv fun o e => kp _ o D.l1z D.l1i1 D.l1i2 e, hq.mv fun o e => kp _ o D.l2z D.l2i1 D.l2i2 e,
              .inr ⟨T, true, oT, c1, kp _ _ r1 r2 r3 hT, r1, r2, r3, r4⟩⟩
            fun c o hc e => kp c o (out hc).1 (out hc).2.2.1 (out hc).2.2.2 e
      done := fun s1 Q1 E1 st hQ => by
        obtain ⟨hI, ha, hb, hp, hq, hz⟩ := st
        have out : ∀ {c : Addr}, c ∉ [z, O, a, b] → c ≠ z ∧ c ≠ O ∧ c ≠ a ∧ c ≠ b := fun {c} hc => by simpa using hc
        have he : xs[min xs.size ys.size]? = none ∨ ys[min xs.size ys.size]? = none := by
          rcases Nat.le_total xs.size ys.size with h | h
          · exact .inl (Array.getElem?_eq_none (by rw [Nat.min_eq_left h]; exact Nat.le_refl _))
          · exact .inr (Array.getElem?_eq_none (by rw [Nat.min_eq_right h]; exact Nat.le_refl _))
        rcases hz with ⟨hz, u, v, hO⟩ | ⟨T, f, oT, hz, hT, r1, r2, r3, r4⟩
        · exact zn_end hA D hz hI hO ha hb hp hq he fun h' kp => hQ h' s1.toks fun c o hc e => kp c o (out hc).1 (out hc).2.1 (out hc).2.2.1 (out hc).2.2.2 e
        · exact zhn_end hA D hz hT hI ha hb hp hq he fun h' kp => hQ h' s1.toks fun c o hc e => kp c o (out hc).1 (out hc).2.2.1 (out hc).2.2.2 e }
end
end Mi
end
section
namespace Mi
open PySem PySem.Spec L2 PyProof.Rows
section
variable {X : Cx} {pins : List (Addr × Obj)} {σ : L2.St} {H : Hp} {s : Shared} {a b : Addr} {A : Around} {E : Value → Shared → Prop}
theorem d_update {kvs more : List (Key × V)} {Q : Value → Shared → Prop} (I : Inv X pins σ H s) (e : H a = some (.dK kvs)) (e2 : H b = some (.dK more)) (hne : a ≠ b) (hsz : kvs.length + more.length ≤ sizeLine)
    (h : ∀ s', Inv X pins σ (upd H a (.dK (mergeK kvs more))) s' → Q .none s') : wpAny (model X.prog X.w) A (call (.builtin "dict.update") [.ref a, .ref b]) Q E s := by
  obtain ⟨z, hd, vs, rel, dd⟩ := dk_of I.hok e
  obtain ⟨z2, hd2, vs2, rel2, dd2⟩ := dk_of I.hok e2
  refine call_meetsIn PySem.F.slot_dict_update dd.typeIs PySem.F.entry_dict_update (PySem.F.args_dict_update_2 _ _) (meets_dict_update (mixKind X.prog X.w) a b hne hd2)
    ⟨vs, vs2, dd, dd2, by rw [← rel.length, ← rel2.length]; exact hsz, fun h' dd' _ hs => h _ ?_⟩
  have he : ∃ q, h'.get? a = some q := let ⟨q, _, _, hq, _⟩ := dd'; ⟨q, hq⟩
  exact d_write I (by rw [e]; exact True.intro) hs he (dk_new (Nat.le_trans (length_mergeK _ _) hsz) hd (rel2.merge rel) dd')
theorem mt_upd : MtR X "dict.update" (fun x vs H Q => ∃ a b kvs more, x = .ref a ∧ vs = [.ref b] ∧ H a = some (.dK kvs) ∧ H b = some (.dK more) ∧ a ≠ b ∧ kvs.length + more.length ≤ sizeLine ∧ Q .non (upd H a (.dK (mergeK kvs more)))) := by
  intro pins s σ H x vs v us Q I rx rv h
  obtain ⟨a, b, kvs, more, rfl, rfl, e, e2, hne, hsz, q⟩ := h
  cases rx
  obtain ⟨u, rfl, ru⟩ := rv.one
  cases ru
  exact d_update I e e2 hne hsz fun s' I' => ⟨.non, _, I', rfl, q⟩
end
theorem RepL.key {K : PySem.W.Frag} {W : Wd} : ∀ {ds : List D} {ks : List Key} {vs : List V}, RepL K W ds vs → keysD ds = some ks → vs = ks.map kV
  | [], ks, vs, h, e => by
    cases e
    exact h.nil_inv
  | d :: ds, ks, vs, h, e => by
    rw [keysD] at e
    obtain ⟨k, hk, e⟩ := Mi.bind_some e
    obtain ⟨ks', hks, rfl⟩ := map_some e
    obtain ⟨v, q, rfl, h1, h2⟩ := h.cons_inv
    rw [h2.key hks, List.map_cons]
    congr 1
    cases d with
    | int i => cases hk; exact h1
    | str x => cases hk; exact h1
    | _ => cases hk
theorem merge_zip {K : PySem.W.Frag} {W : Wd} : ∀ (ks2 : List Key) (ds2 : List D) (vs2 : List V) (t : List Key × List D) (vs : List V), ks2.length = ds2.length → RepL K W ds2 vs2 → t.1.length = t.2.length → RepL K W t.2 vs →
    ∃ ws, mergeK (t.1.zip vs) (ks2.zip vs2) = (mergeD t ks2 ds2).1.zip ws ∧ (mergeD t ks2 ds2).1.length = (mergeD t ks2 ds2).2.length ∧ RepL K W (mergeD t ks2 ds2).2 ws
  | [], [], vs2, t, vs, hl, h2, ht, h => by
    have := h2.nil_inv
    subst this
    exact ⟨vs, rfl, ht, h⟩
  | k :: ks2, d :: ds2, vs2, t, vs, hl, h2, ht, h => by
    obtain ⟨v, q, rfl, hv, h2⟩ := h2.cons_inv
    obtain ⟨ws, f1, f2, f3⟩ := putK_zip hv (q := k) ht h
    obtain ⟨us, g1, g2, g3⟩ := merge_zip ks2 ds2 q (putD t.1 t.2 k d) ws (by simpa using hl) h2 f2 f3
    refine ⟨us, ?_, g2, g3⟩
    show mergeK (putK (t.1.zip vs) k v) (ks2.zip q) = _
    rw [f1]; exact g1
  | [], _ :: _, _, _, _, hl, _, _, _ => by cases hl
  | _ :: _, [], _, _, _, hl, _, _, _ => by cases hl
section
variable {X : Cx} {Φ : Fns} {G : List D} {e e1 e2 : Expr} {pos apos cpos p p2 q0 : Pos}
theorem de_upd {m1 m2 : ME} (hs : starEach [e2] X.env = [(false, eval e2 X.env)]) (hb : okBase e1 = true) (hl : (apos.endLine == pos.line) = true) (h1 : DE X Φ G e1 m1) (h2 : DE X Φ G e2 m2) : DE X Φ G (.Call (.Attribute e1 "update" apos) [e2] [] pos) (.o2 .upd m1 m2) := by
  refine PE.imp (pe_bm PySem.F.plainAttrs_dict PySem.F.slot_dict_update PySem.F.type_dict_update mt_upd h1 (pa_cons h2 pa_nil hs) (base_of hb) (few_one hs) hl hs rfl) fun σ H Q h => ?_
  show tR X.K Φ G m1 σ H _
  refine tR_mono (two_op2 h) fun x H1 ⟨⟨W0, W, S, a, eH, rel, ra, hpre, b, S2, ρ, ev2, r, S', hr⟩, h⟩ => ?_
  subst eH
  have hx : tyV X.K "dict" x W.H := by
    cases a with
    | val d =>
      cases d with
      | ref l =>
        change (cellD S l).isSome = true at hpre
        cases hc : cellD S l with
        | none => rw [hc] at hpre; cases hpre
        | some t =>
          obtain ⟨p, vs, h1, h2, _⟩ := rel.celld l t.1 t.2 (cellD_some hc)
          have ra : Rep X.K W (.ref l) x := ra
          unfold Rep at ra
          obtain ⟨p', e1, e2⟩ := ra
          rw [h1] at e2
          cases e2
          subst e1
          exact .inr (.inr (.inl ⟨rfl, .inl ⟨_, h2⟩⟩))
      | _ => cases hpre
    | _ => cases hpre
  refine ⟨hx, ?_⟩
  show tR X.K Φ G m2 σ W.H _
  refine tR_mono h fun y H2 ⟨W0, W1, W, S, r, S', a, b, eH, rel, ra, rb, hr, q⟩ => ?_
  subst eH
  change (a.ref?.bind fun l => (cellD S l).bind fun t => b.dctV?.bind fun u => if t.1.length + u.1.length ≤ 1000000 then some (Rt.val .non, S.set l (.dct (mergeD t u.1 u.2).1 (mergeD t u.1 u.2).2)) else none) = _ at hr
  obtain ⟨l, hl, hr⟩ := Mi.bind_some hr
  obtain ⟨t, ht, hr⟩ := Mi.bind_some hr
  obtain ⟨u, hu, hr⟩ := Mi.bind_some hr
  split at hr
  · rename_i hsz
    cases hr
    obtain ⟨pa, vs, h1, h2, h3, h4⟩ := rel.celld l t.1 t.2 (cellD_some ht)
    have ea := ref?_some hl
    subst ea
    have ra : Rep X.K W (.ref l) x := ra
    unfold Rep at ra
    obtain ⟨pa', rfl, ra2⟩ := ra
    rw [h1] at ra2
    cases ra2
    obtain ⟨pb, vs2, rfl, g2, g3, g4, hnm⟩ : ∃ pb vs2, y = .ref pb ∧ W.H pb = some (.dK (u.1.zip vs2)) ∧ u.1.length = u.2.length ∧ RepL X.K W u.2 vs2 ∧ pb ∉ W.ms := by
      cases b with
      | own _ => cases hu
      | bor _ => cases hu
      | ownd ks' ds' =>
        cases hu
        obtain ⟨p, vs, e1, e2, el, e3, e4, e0, e5⟩ := rb
        exact ⟨p, vs, e1, e2, el, e5, e3⟩
      | val d =>
        cases d with
        | dct ks' ds' =>
          cases hu
          have h : Rep X.K W (.dct ks' ds') y := rb
          unfold Rep at h
          obtain ⟨a, vs, e1, e2, e3, el, e4⟩ := h
          exact ⟨a, vs, e1, e3, el, e4, rel.apart a e2⟩
        | _ => cases hu
    have hne : pa ≠ pb := fun z => hnm (z ▸ List.mem_of_getElem? h1)
    obtain ⟨ws, f1, f2, f3⟩ := merge_zip u.1 u.2 vs2 t vs g3 g4 h3 h4
    refine ⟨pa, pb, t.1.zip vs, u.1.zip vs2, rfl, rfl, h2, g2, hne, ?_, ?_⟩
    · rw [List.length_zip, List.length_zip]
      refine Nat.le_trans (m := 1000000) ?_ (by decide)
      omega
    · have e3 : Ext W ⟨W.ms, W.fz, upd W.H pa (.dK (mergeK (t.1.zip vs) (u.1.zip vs2)))⟩ := Ext.putM h1
      exact q ⟨W.ms, W.fz, _⟩ _ e3 (rel.putM h1 ⟨ws, by rw [← f1]; exact upd_same, f2, RepL.ext rel e3 _ _ f3⟩) (show Rep X.K ⟨W.ms, W.fz, upd W.H pa (.dK (mergeK (t.1.zip vs) (u.1.zip vs2)))⟩ .non .non by unfold Rep; rfl)
  · cases hr
theorem kv_zip {vs : List V} {us : List Value} (h : Vals vs us) : ∀ ks : List Key, KV (ks.zip vs) (ks.zip us) := by
  induction h with
  | nil => intro ks; rw [List.zip_nil_right, List.zip_nil_right]; exact .nil
  | cons h1 _ ih =>
    intro ks
    cases ks with
    | nil => exact .nil
    | cons k ks => exact .cons ⟨rfl, h1⟩ (ih ks)

theorem de_dzip {m1 m2 : ME} (hc : X.calm = true) (hg : Gl X "dict") (hm : X.mg "dict" = none) (hg2 : Gl X "zip") (hm2 : X.mg "zip" = none) (hs1 : starEach [e1, e2] X.env = (false, eval e1 X.env) :: starEach [e2] X.env) (hs2 : starEach [e2] X.env = (false, eval e2 X.env) :: starEach [] X.env) (h1 : DE X Φ G e1 m1) (h2 : DE X Φ G e2 m2) :
    DE X Φ G (.Call (.Name "dict" p) [.Call (.Name "zip" p2) [e1, e2] [] q0] [] pos) (.o2 .dzip m1 m2) := by
  refine ⟨fun pins s σ H Q I hw => ?_⟩
  refine Call_ (ld_blt I hg hm boot_dict ?_)
  refine PyProof.Rows.callWith_type1 (PyProof.Rows.args_cons ?_ rfl) rfl rfl
  have hpl : (backTo q0 (starEach [e2] X.env)).any (·.1) = false := by rw [hs2]; rfl
  refine Call_ (ld_blt I hg2 hm2 PyProof.Rows.boot_zip (PyProof.Rows.callWith_type1 (thn ((pa_cons h1 (pa_cons h2 pa_nil hs2) hs1).run q0 pins s σ H
    (fun vs H2 => ∃ x y, vs = [x, y] ∧ ∃ W0 W1 W S r S' a b, W.H = H2 ∧ Rel X.K W S ∧ RepR X.K W0 W x a ∧ RepR X.K W1 W y b ∧ P2.dzip.run G S a b = some (r, S') ∧ ∀ W' v, Ext W W' → Rel X.K W' S' → RepR X.K W W' v r → Q v W'.H)
    I (tR_mono (two_op2 hw) fun x H1 ⟨_, h⟩ => tR_mono h fun y H2 z => ⟨x, y, rfl, z⟩)) fun us s1 ⟨vs, H1, I1, r1, x, y, ev, W0, W1, W, S, r, S', a, b, eH, rel, ra, rb, hr, q⟩ => ?_) hs1 hpl))
  subst ev eH
  change ((sview S a).bind fun as => (keysD as).bind fun ks => (sview S b).bind fun bs => if ks.Nodup ∧ ks.length = bs.length ∧ ks.length ≤ 1000 then some (Rt.ownd ks bs, S) else none) = _ at hr
  obtain ⟨as, hd1, hr⟩ := Mi.bind_some hr
  obtain ⟨ks, hk, hr⟩ := Mi.bind_some hr
  obtain ⟨bs, hd2, hr⟩ := Mi.bind_some hr
  split at hr
  · rename_i hb
    cases hr
    obtain ⟨l1, vs1, rfl, hq1, lr1⟩ := ra.sv rel hd1
    obtain ⟨l2, vs2, rfl, hq2, lr2⟩ := rb.sv rel hd2
    have ek := lr1.key hk
    subst ek
    obtain ⟨k1, hx⟩ : ∃ k1 : Kd, k1.Hq X.K W.H l1 (ks.map kV) := hq1.elim (fun z => ⟨.l, z⟩) fun z => ⟨.t, z⟩
    obtain ⟨k2, hy⟩ : ∃ k2 : Kd, k2.Hq X.K W.H l2 vs2 := hq2.elim (fun z => ⟨.l, z⟩) fun z => ⟨.t, z⟩
    cases r1 with
    | cons r rr =>
      cases rr with
      | cons r' rr =>
        cases rr; cases r; cases r'
        obtain ⟨us1, rv1, sx⟩ := hx.sq I1
        obtain ⟨us2, rv2, sy⟩ := hy.sq I1
        have n1 : us1.length = ks.length := by rw [← rv1.length, List.length_map]
        have n2 : us2.length = ks.length := by rw [← rv2.length, lr2.length, hb.2.1]
        refine z_call sx sy fun h' hz hI hO i1 i2 hk' => PyProof.Rows.args_nil ?_
        have D := PySem.W.ktu_apart s1.heap.objs.size l1 l2 sx.lt sy.lt
        have sx' : k1.Sq h' l1 us1.toArray := sx.mv fun o e => hk' _ o e
        have sy' : k2.Sq h' l2 us2.toArray := sy.mv fun o e => hk' _ o e
        have big : s1.heap.objs.size + 4 < h'.objs.size := Heap.lt_size hz
        refine PySem.call_dict_pairs (knd := mixKind X.prog X.w) (kvs := ks.zip us2) (s := { s1 with heap := h' }) (pairArgK k1 k2 _ _ _ _ _ l1 l2 D us1.toArray us2.toArray) (I1.ok.hd hc) ⟨hz, hI, ⟨_, _, hO⟩, i1, i2, sx', sy'⟩ ⟨?_, fun i key v hr => ?_⟩ ?_ fun h'' tk dd kp => ?_
        · rw [List.length_zip, List.size_toArray, List.size_toArray, n1, n2]
        · obtain ⟨e1, e2⟩ := hr
          rw [List.getElem?_toArray] at e1 e2
          have hi : i < ks.length := by rw [← n1]; exact (List.getElem?_eq_some_iff.mp e1).1
          obtain ⟨u, eu, ru⟩ := rv1.get (i := i) (x := kV ks[i]) (by rw [List.getElem?_map, List.getElem?_eq_getElem hi]; rfl)
          rw [e1] at eu
          cases eu
          exact ⟨ks[i], by rw [List.getElem?_zip_eq_some]; exact ⟨List.getElem?_eq_getElem hi, e2⟩, kV_is ru⟩
        · rw [List.size_toArray, List.size_toArray, n1, n2]
          refine Nat.le_trans (m := 1000) (by omega) (by decide)
        · have kp' : ∀ c u, s1.heap.get? c = some u → h''.get? c = some u := fun c u e => by
            have hc := Heap.lt_size e
            refine kp c u (fun z => ?_) (hk' c u e)
            simp only [List.mem_cons, List.not_mem_nil, or_false] at z
            rcases z with z | z | z | z
            · exact Nat.lt_irrefl _ (Nat.lt_of_le_of_lt (Nat.le_add_right _ 4) (z ▸ hc))
            · exact Nat.lt_irrefl _ (Nat.lt_of_le_of_lt (Nat.le_add_right _ 3) (z ▸ hc))
            · exact Nat.lt_irrefl _ (z ▸ hc)
            · exact Nat.lt_irrefl _ (Nat.lt_of_le_of_lt (Nat.le_add_right _ 1) (z ▸ hc))
          have le : s1.heap.objs.size ≤ h'.objs.size := by omega
          have hp := I1.hok.fresh le
          have rel3 : KV (ks.zip vs2) (ks.zip us2) := kv_zip rv2 ks
          have em : mergeK [] (ks.zip vs2) = ks.zip vs2 := by
            rw [mergeK_fresh _ _ (by rw [List.map_nil, List.nil_append, zip_keys (by rw [lr2.length]; exact hb.2.1)]; exact hb.1)]; rfl
          have rel4 : KV (ks.zip vs2) (merged [] (ks.zip us2)) := by
            have := rel3.merge (kvs := []) (vs := []) .nil
            rwa [em] at this
          have I2 : Inv X pins σ (upd W.H h'.objs.size (.dK (ks.zip vs2))) { s1 with heap := h'', toks := tk } := I1.laid kp' le (dk_new (by rw [List.length_zip]; exact Nat.le_trans (m := 1000) (by omega) (by decide)) (beq_eq_false_iff_ne.mpr (Ne.symm (Nat.ne_of_lt (Nat.lt_of_lt_of_le I1.big le)))) rel4 dd)
          have pm := rel.pms hp
          refine ⟨.ref h'.objs.size, _, I2, rfl, q ⟨W.ms, W.fz, upd W.H h'.objs.size (.dK (ks.zip vs2))⟩ _ (Ext.laid hp) (rel.laid hp) ⟨h'.objs.size, vs2, rfl, upd_same, hb.2.1, pm.1, pm.2, hp, RepL.ext rel (Ext.laid hp) _ _ lr2⟩⟩
  · cases hr
end
end Mi
end
section
namespace Mi
open PySem PySem.Spec L2
section
variable {X : Cx} {Φ : Fns} {G : List D} {e e1 e2 e3 : Expr} {pos : Pos}
theorem chain_imp {K : PySem.W.Frag} {o o' : COp} {m1 m2 m3 : ME} {σ : St} {H : Hp} {Q : VK} (h : tR K Φ G (.chn o o' m1 m2 m3) σ H Q) :
    tChain (rD K fun S x y => (cmpop S o x y).map fun b => .val (.bl b)) (rD K fun S x y => (cmpop S o' x y).map fun b => .val (.bl b)) (tR K Φ G m1) (tR K Φ G m2) (tR K Φ G m3) σ H Q := by
  obtain ⟨W, S, ρ, a, r, S', ev, q⟩ := h
  rw [evR] at ev
  obtain ⟨⟨x, S1⟩, ev1, ev⟩ := Mi.bind_some ev
  obtain ⟨⟨y, S2⟩, ev2, ev⟩ := Mi.bind_some ev
  obtain ⟨b, hb, ev⟩ := Mi.bind_some ev
  refine ⟨W, S, ρ, a, x, S1, ev1, fun W1 v1 e1 r1 p1 => ?_⟩
  have a1 := a.ext e1 r1
  refine ⟨W1, S1, ρ, a1, y, S2, ev2, fun W2 v2 e2 r2 p2 => ?_⟩
  refine ⟨W, W1, W2, S2, x, y, .val (.bl b), rfl, r2, p1.ext r1 e2, p2, by show (cmpop S2 o x y).map _ = _; dsimp only at hb; rw [hb]; rfl, fun W3 v3 e3 r3 p3 => ?_⟩
  refine ⟨b, repr_bl p3, ?_⟩
  have e13 := (e1.trans e2).trans e3
  cases b with
  | false =>
    cases ev
    exact iteF (q W3 _ e13 r3 bl_repr)
  | true =>
    obtain ⟨⟨z, S3⟩, ev3, ev⟩ := Mi.bind_some ev
    obtain ⟨c, hc, ev⟩ := map_some ev
    cases ev
    refine iteT ⟨W3, S2, ρ, (a1.ext e2 r2).ext e3 r3, z, _, ev3, fun W4 v4 e4 r4 p4 => ?_⟩
    refine ⟨W1, W3, W4, _, y, z, .val (.bl c), rfl, r4, (p2.ext r2 e3).ext r3 e4, p4, by show (cmpop _ o' y z).map _ = _; dsimp only at hc; rw [hc]; rfl, fun W5 v5 e5 r5 p5 => ?_⟩
    have e15 := e13.trans e4
    exact q W5 v5 (e15.trans e5) r5 (p5.back e15)
theorem de_chn {o o' : COp} {m1 m2 m3 : ME} (hu : X.A.units + 65 < cLine) (hm : lastMarks [cOf o, cOf o'] [e2, e3] = false) (h1 : DE X Φ G e1 m1) (h2 : DE X Φ G e2 m2) (h3 : DE X Φ G e3 m3) : DE X Φ G (.Compare e1 [cOf o, cOf o'] [e2, e3] pos) (.chn o o' m1 m2 m3) :=
  PE.imp (pe_chain (op_cmp hu o) (op_cmp hu o') h1 h2 h3 hm) fun σ H Q h => chain_imp h
theorem dt_chn {o o' : COp} {m1 m2 m3 : ME} (hu : X.A.units + 65 < cLine) (hm : lastMarks [cOf o, cOf o'] [e2, e3] = false) (h1 : DE X Φ G e1 m1) (h2 : DE X Φ G e2 m2) (h3 : DE X Φ G e3 m3) : DT X Φ G (.Compare e1 [cOf o, cOf o'] [e2, e3] pos) (.chn o o' m1 m2 m3) := by
  refine PT.imp (pt_chain (op_cmp hu o) (op_cmp hu o') h1 h2 h3 hm) fun σ H Q h => ?_
  obtain ⟨W, S, ρ, a, b, S', ev, q⟩ := h
  exact chain_imp ⟨W, S, ρ, a, _, S', ev, fun W' v e r p => ⟨b, repr_bl p, q W' e r⟩⟩
end
section
variable {T : Tab} {N : List Str} {sc : Scope} {fp : Str → Bool} {Φ : Fns} {G : List D} {k : Nat}

theorem GX.blk {X : Cx} {scope : Scope} {cl : List (Str × Addr)} {C : Addr} {s : Shared} {H : Hp} {fpa : List Addr} (g : GX T N sc fp Φ G k X) (hk : scope.kind = .function) : GX T N (relSc scope sc) (fun x => scope.names.lookup x == some .cell) Φ G k (X.blk s H scope (compEnvC scope cl C X.env) fpa) := by
  refine ⟨g.calm, g.hN, g.nd, ?_, hk, rfl, rfl, g.room, g.gds, g.bl, g.fns, g.gl⟩
  show relabel scope X.env = relSc scope sc
  unfold relabel relSc
  rw [← g.hsc]
  rfl
theorem GX.hu {X : Cx} (g : GX T N sc fp Φ G k X) : X.A.units + 65 < cLine := by have := g.room.un; omega
theorem SE.of {X : Cx} {e : Expr} {m : ME} (h : DE X Φ G e m) (hb : plainB e = true) : SE X Φ G e m := ⟨h, fun _ => dt_val h (true_of hb), fun op es pos e1 => by subst e1; cases hb⟩
theorem tynames_pe {X : Cx} (g : GX T N sc fp Φ G k X) : ∀ {es : List Expr} {ts : List Ty}, tyNames T.bn sc es ts = true → PA X es (fun _ H Q => Q (ts.map fun t => V.ty (tyN t)) H)
  | [], [], _ => pa_nil
  | [], _ :: _, h => by simp [tyNames] at h
  | .Name x p :: es, t :: ts, h => by
    simp only [tyNames, Bool.and_eq_true, List.contains_iff_mem, beq_iff_eq] at h
    obtain ⟨⟨⟨h1, h2⟩, h3⟩, h4⟩ := h
    have b : bootBuiltins x = some (.type (tyN t)) := by rw [h1]; cases t <;> decide +kernel
    have d1 : x ≠ "__name__" := by rw [h1]; cases t <;> decide
    have d2 : (x == ("__debug__" : Str)) = false := by rw [h1]; cases t <;> decide
    have gl : Gl X x := by unfold Gl PySem.Env.kindOf; rw [g.hsc]; exact gl_of h3
    exact PA.imp (pa_cons (pe_bltn (v := .ty (tyN t)) gl (g.bl x h2) b rfl d1 d2) (tynames_pe g h4) rfl) fun σ H Q h => h
  | .Name _ _ :: _, [], h => by simp [tyNames] at h
  | .BoolOp _ _ _ :: _, ts, h => by cases ts <;> simp [tyNames] at h
  | .NamedExpr _ _ _ :: _, ts, h => by cases ts <;> simp [tyNames] at h
  | .BinOp _ _ _ _ :: _, ts, h => by cases ts <;> simp [tyNames] at h
  | .UnaryOp _ _ _ :: _, ts, h => by cases ts <;> simp [tyNames] at h
  | .Lambda _ _ _ _ :: _, ts, h => by cases ts <;> simp [tyNames] at h
  | .IfExp _ _ _ _ :: _, ts, h => by cases ts <;> simp [tyNames] at h
  | .Dict _ _ _ :: _, ts, h => by cases ts <;> simp [tyNames] at h
  | .Set _ _ _ :: _, ts, h => by cases ts <;> simp [tyNames] at h
  | .ListComp _ _ _ _ :: _, ts, h => by cases ts <;> simp [tyNames] at h
  | .SetComp _ _ _ _ :: _, ts, h => by cases ts <;> simp [tyNames] at h
  | .DictComp _ _ _ _ _ :: _, ts, h => by cases ts <;> simp [tyNames] at h
  | .GeneratorExp _ _ _ _ :: _, ts, h => by cases ts <;> simp [tyNames] at h
  | .Await _ _ :: _, ts, h => by cases ts <;> simp [tyNames] at h
  | .Yield _ _ :: _, ts, h => by cases ts <;> simp [tyNames] at h
  | .YieldFrom _ _ :: _, ts, h => by cases ts <;> simp [tyNames] at h
  | .Compare _ _ _ _ :: _, ts, h => by cases ts <;> simp [tyNames] at h
  | .Call _ _ _ _ :: _, ts, h => by cases ts <;> simp [tyNames] at h
  | .FormattedValue _ _ _ _ :: _, ts, h => by cases ts <;> simp [tyNames] at h
  | .JoinedStr _ _ :: _, ts, h => by cases ts <;> simp [tyNames] at h
  | .Constant _ _ _ :: _, ts, h => by cases ts <;> simp [tyNames] at h
  | .Attribute _ _ _ :: _, ts, h => by cases ts <;> simp [tyNames] at h
  | .Subscript _ _ _ :: _, ts, h => by cases ts <;> simp [tyNames] at h
  | .Starred _ _ :: _, ts, h => by cases ts <;> simp [tyNames] at h
  | .List _ _ :: _, ts, h => by cases ts <;> simp [tyNames] at h
  | .Tuple _ _ _ :: _, ts, h => by cases ts <;> simp [tyNames] at h
  | .Slice _ _ _ _ :: _, ts, h => by cases ts <;> simp [tyNames] at h

theorem bi_snd {X : Cx} (g : GX T N sc fp Φ G k X) {b : BI} {x : Str} (h : (biNm b).map (·.1) = some x) : (∃ nm, CallR X (.builtin nm) (rBi X.K b) ∧ bootBuiltins x = some (.builtin nm) ∧ x ≠ "__name__" ∧ (x == ("__debug__" : Str)) = false) ∨
    ∃ nm, CallR X (.type nm) (rBi X.K b) ∧ bootBuiltins x = some (.type nm) ∧ x ≠ "__name__" ∧ (x == ("__debug__" : Str)) = false := by
  cases b with
  | abs => cases h; exact .inl ⟨"abs", bi_abs, by decide +kernel, by decide, by decide⟩
  | all => cases h; exact .inl ⟨"all", bi_all g.calm, by decide +kernel, by decide, by decide⟩
  | any => cases h; exact .inl ⟨"any", bi_any g.calm, by decide +kernel, by decide, by decide⟩
  | divmod => cases h; exact .inl ⟨"divmod", bi_divmod, by decide +kernel, by decide, by decide⟩
  | int => cases h; exact .inr ⟨"int", bi_int, by decide +kernel, by decide, by decide⟩
  | len => cases h; exact .inl ⟨"len", bi_len, by decide +kernel, by decide, by decide⟩
  | list => cases h; exact .inr ⟨"list", bi_list, by decide +kernel, by decide, by decide⟩
  | max => cases h; exact .inl ⟨"max", bi_max g.calm (by have := g.room.un; omega), by decide +kernel, by decide, by decide⟩
  | min => cases h; exact .inl ⟨"min", bi_min g.calm (by have := g.room.un; omega), by decide +kernel, by decide, by decide⟩
  | sum => cases h; exact .inl ⟨"sum", bi_sum g.calm, by decide +kernel, by decide, by decide⟩
  | tuple => cases h; exact .inr ⟨"tuple", bi_tuple, by decide +kernel, by decide, by decide⟩
  | str => cases h; exact .inr ⟨"str", bi_str g.gds (by have := g.room.un; omega), by decide +kernel, by decide, by decide⟩
  | sorted => cases h; exact .inl ⟨"sorted", bi_sorted, by decide +kernel, by decide, by decide⟩
  | _ => cases h
theorem key_snd {X : Cx} : ∀ {kes : List (Option Expr)} {ks : List Key}, keysOk kes ks = true → KeyE X kes ks := by
  intro kes ks
  fun_induction keysOk kes ks with
  | case1 => intro _; exact .nil
  | case2 i p q es j ks ih =>
    intro h
    rw [Bool.and_eq_true, beq_iff_eq] at h
    rw [← h.1]
    exact .cons pe_int (ih h.2)
  | case3 x p q es y ks ih =>
    intro h
    rw [Bool.and_eq_true, beq_iff_eq] at h
    rw [← h.1]
    exact .cons pe_str (ih h.2)
  | case4 => intro h; cases h
theorem GX.glob {X : Cx} (g : GX T N sc fp Φ G k X) {x : Str} (h : isGl sc x = true) : Gl X x := by unfold Gl PySem.Env.kindOf; rw [g.hsc]; exact gl_of h
theorem snd1 {X : Cx} (g : GX T N sc fp Φ G k X) {q : P1} {e x : Expr} {m : ME} (h : chk1 T sc q e = some x) (hm : DE X Φ G x m) : SE X Φ G e (.o1 q m) := by
  unfold chk1 at h
  split at h
  · rename_i x1 p1 y1 p2 e1 p3 p4
    split at h
    · rename_i hc
      cases h
      simp only [Bool.and_eq_true, decide_eq_true_eq, List.contains_iff_mem] at hc
      obtain ⟨⟨⟨⟨⟨⟨rfl, rfl⟩, h3⟩, h4⟩, h5⟩, h6⟩, h7⟩ := hc
      exact .of (de_lrng g.calm (g.glob h5) (g.bl _ h3) (g.glob h6) (g.bl _ h4) (star_of h7) hm) rfl
    · cases h
  · cases h
    exact .of (de_rev hm) rfl
  · rename_i x1 p1 y1 p2 e1 p3 p4
    split at h
    · rename_i hc
      cases h
      simp only [Bool.and_eq_true, decide_eq_true_eq, List.contains_iff_mem] at hc
      obtain ⟨⟨⟨⟨⟨⟨rfl, rfl⟩, h3⟩, h4⟩, h5⟩, h6⟩, h7⟩ := hc
      exact .of (de_sset g.calm (g.glob h5) (g.bl _ h3) (g.glob h6) (g.bl _ h4) (star_of h7) hm) rfl
    · cases h
  · rename_i x1 p1 y1 p2 e1 p3 p4
    split at h
    · rename_i hc
      cases h
      simp only [Bool.and_eq_true, decide_eq_true_eq, List.contains_iff_mem] at hc
      obtain ⟨⟨⟨⟨⟨⟨rfl, rfl⟩, h3⟩, h4⟩, h5⟩, h6⟩, h7⟩ := hc
      exact .of (de_lset g.calm (g.glob h5) (g.bl _ h3) (g.glob h6) (g.bl _ h4) (star_of h7) hm) rfl
    · cases h
  · rename_i x1 p1 y1 p2 e1 p3 p4
    split at h
    · rename_i hc
      cases h
      simp only [Bool.and_eq_true, decide_eq_true_eq, List.contains_iff_mem] at hc
      obtain ⟨⟨⟨⟨⟨⟨rfl, rfl⟩, h3⟩, h4⟩, h5⟩, h6⟩, h7⟩ := hc
      exact .of (de_lsetb g.calm (g.glob h5) (g.bl _ h3) (g.glob h6) (g.bl _ h4) (star_of h7) hm) rfl
    · cases h
  · split at h
    · rename_i hc
      cases h
      simp only [Bool.and_eq_true, decide_eq_true_eq, List.contains_iff_mem] at hc
      obtain ⟨⟨⟨rfl, h3⟩, h5⟩, h7⟩ := hc
      exact .of (de_mint g.calm (by have := g.room.un; omega) (g.glob h5) (g.bl _ h3) (star_of h7) hm) rfl
    · cases h
  · rename_i j x1 p1 e1 p2
    split at h
    · rename_i hc
      cases h
      simp only [Bool.and_eq_true, List.contains_iff_mem] at hc
      obtain ⟨⟨⟨h1, h2⟩, h3⟩, h4⟩ := hc
      obtain ⟨d, u, e1, e2, e3⟩ := g.gl j x1 h1
      have gl := g.glob h2
      rcases e3 with ⟨e5, v, e3, e4⟩ | ⟨a, ks, ds, rfl, rfl, gd⟩
      · refine .of (PE.imp (pe_ix ix_kdict (pe_glob gl e2 e3 (okNm_of h3).1) hm (ix_of h4)) fun σ H Q h => ?_) rfl
        unfold tOp tC
        refine tR_mono (one_op h) fun y H1 ⟨W0, W, S, r, S', b, eH, rel, rb, hr, q⟩ => ?_
        change ((G[j]?).bind fun d => d.dct?.bind fun t => b.str?.bind fun k => (valD t.1 t.2 (.inr k)).map fun x => (Rt.val x, S)) = _ at hr
        rw [e1, Option.bind_some, e5] at hr
        cases hr
      · exact .of (de_gget (ix_of h4) (pe_glob gl e2 rfl (okNm_of h3).1) e1 gd hm) rfl
    · cases h
  · rename_i n j e0 op x1 p1 p2
    split at h
    · rename_i hc
      cases h
      simp only [Bool.and_eq_true, decide_eq_true_eq, List.contains_iff_mem] at hc
      obtain ⟨⟨⟨rfl, h1⟩, h2⟩, h3⟩ := hc
      obtain ⟨d, u, e1, e2, e3⟩ := g.gl j x1 h1
      have gl := g.glob h2
      rcases e3 with ⟨e5, v, e3, e4⟩ | ⟨a, ks, ds, rfl, rfl, gd⟩
      · have no : ∀ (σ : St) (H : Hp) (Q : VK), tR X.K Φ G (.o1 (.gin n j) m) σ H Q → tR X.K Φ G m σ H fun _ _ => False := fun σ H Q h => by
          refine tR_mono (one_op h) fun y H1 ⟨W0, W, S, r, S', b, eH, rel, rb, hr, q⟩ => ?_
          change ((G[j]?).bind fun d => d.dct?.bind fun t => b.str?.map fun k => (Rt.val (.bl (xor n (valD t.1 t.2 (.inr k)).isSome)), S)) = _ at hr
          rw [e1, Option.bind_some, e5] at hr
          cases hr
        have pn := pe_glob (pos := p1) gl e2 e3 (okNm_of h3).1
        refine ⟨?_, fun _ => ?_, fun op es pos e => nomatch e⟩
        · cases n with
          | false => exact PE.imp (pe_cmpR (op_in_seq) hm pn (mark_of rfl)) fun σ H Q h => tR_mono (no σ H Q h) fun _ _ z => z.elim
          | true => exact PE.imp (pe_cmpR (op_notIn_seq) hm pn (mark_of rfl)) fun σ H Q h => tR_mono (no σ H Q h) fun _ _ z => z.elim
        · have no2 : ∀ (σ : St) (H : Hp) (Q : Bool → Hp → Prop), tBl X.K Φ G (.o1 (.gin n j) m) σ H Q → tR X.K Φ G m σ H fun _ _ => False := fun σ H Q ⟨W, S, ρ, a, b, S', ev, q⟩ =>
            no σ H (fun _ _ => True) ⟨W, S, ρ, a, _, S', ev, fun _ _ _ _ _ => trivial⟩
          cases n with
          | false => exact PT.imp (pt_cmpR (op_in_seq) hm pn (mark_of rfl)) fun σ H Q h => by unfold tTest tOp; exact tR_mono (no2 σ H Q h) fun _ _ z => z.elim
          | true => exact PT.imp (pt_cmpR (op_notIn_seq) hm pn (mark_of rfl)) fun σ H Q h => by unfold tTest tOp; exact tR_mono (no2 σ H Q h) fun _ _ z => z.elim
      · have := de_gin (Φ := Φ) (n := n) (p := p1) (pos := p2) (mark_of rfl) (pe_glob gl e2 rfl (okNm_of h3).1) e1 gd hm
        exact ⟨this.1, fun _ => this.2, fun op es pos e => nomatch e⟩
    · cases h
  · cases h
theorem snd2 {X : Cx} (g : GX T N sc fp Φ G k X) {q : P2} {e : Expr} {x : Expr × Expr} {m1 m2 : ME} (h : chk2 T sc q e = some x) (h1 : DE X Φ G x.1 m1) (h2 : DE X Φ G x.2 m2) : SE X Φ G e (.o2 q m1 m2) := by
  unfold chk2 at h
  split at h
  · split at h
    · rename_i hc
      cases h
      simp only [Bool.and_eq_true, decide_eq_true_eq] at hc
      obtain ⟨⟨⟨rfl, h4⟩, h5⟩, h6⟩ := hc
      exact .of (de_rpop (star_of h6) h4 h5 h1 h2) rfl
    · cases h
  · split at h
    · rename_i hc
      cases h
      simp only [Bool.and_eq_true, decide_eq_true_eq] at hc
      obtain ⟨⟨⟨rfl, h4⟩, h5⟩, h6⟩ := hc
      exact .of (de_split (star_of h6) h4 h5 h1 h2) rfl
    · cases h
  · split at h
    · rename_i hc
      cases h
      simp only [Bool.and_eq_true, decide_eq_true_eq] at hc
      obtain ⟨⟨⟨rfl, h4⟩, h5⟩, h6⟩ := hc
      exact .of (de_join (star_of h6) h4 h5 h1 h2) rfl
    · cases h
  · split at h
    · rename_i hc
      cases h
      simp only [Bool.and_eq_true, decide_eq_true_eq] at hc
      obtain ⟨⟨⟨rfl, h4⟩, h5⟩, h6⟩ := hc
      exact .of (de_count (star_of h6) h4 h5 h1 h2) rfl
    · cases h
  · split at h
    · rename_i hc
      cases h
      simp only [Bool.and_eq_true, decide_eq_true_eq] at hc
      obtain ⟨⟨⟨rfl, h4⟩, h5⟩, h6⟩ := hc
      exact .of (de_index (star_of h6) h4 h5 h1 h2) rfl
    · cases h
  · split at h
    · rename_i hc
      cases h
      simp only [Bool.and_eq_true, decide_eq_true_eq, List.contains_iff_mem] at hc
      obtain ⟨⟨⟨⟨⟨⟨⟨rfl, rfl⟩, h3⟩, h4⟩, h5⟩, h6⟩, h7⟩, h8⟩ := hc
      exact .of (de_lrng2 g.calm (g.glob h5) (g.bl _ h3) (g.glob h6) (g.bl _ h4) (star_of h7) (star_of h8) h1 h2) rfl
    · cases h
  · split at h
    · rename_i hc
      cases h
      simp only [Bool.and_eq_true, decide_eq_true_eq, List.contains_iff_mem] at hc
      obtain ⟨⟨⟨⟨⟨⟨⟨rfl, rfl⟩, h3⟩, h4⟩, h5⟩, h6⟩, h7⟩, h8⟩ := hc
      exact .of (de_dzip g.calm (g.glob h5) (g.bl _ h3) (g.glob h6) (g.bl _ h4) (star_of h7) (star_of h8) h1 h2) rfl
    · cases h
  · split at h
    · rename_i hc
      cases h
      simp only [Bool.and_eq_true, decide_eq_true_eq] at hc
      obtain ⟨⟨⟨rfl, h4⟩, h5⟩, h6⟩ := hc
      exact .of (de_upd (star_of h6) h4 h5 h1 h2) rfl
    · cases h
  · rename_i kw _
    split at h
    · rename_i hc
      cases h
      simp only [Bool.and_eq_true, decide_eq_true_eq, List.contains_iff_mem] at hc
      obtain ⟨⟨⟨⟨rfl, h3⟩, h4⟩, h5⟩, h6⟩ := hc
      obtain ⟨ka, kv, kp⟩ := kw
      obtain rfl : ka = some "default" := h3
      exact .of (de_mxd g.calm (by have := g.room.un; omega) (g.glob h5) (g.bl _ h4) (star_of h6) h1 h2) rfl
    · cases h
  · rename_i j x1 p1 nm ap e1 f1 cp
    split at h
    · rename_i hc
      cases h
      simp only [Bool.and_eq_true, decide_eq_true_eq, List.contains_iff_mem] at hc
      obtain ⟨⟨⟨⟨⟨⟨rfl, h3⟩, h4⟩, h5⟩, h6⟩, h7⟩, h8⟩ := hc
      obtain ⟨d, u, g1, g2, g3⟩ := g.gl j x1 h3
      have gl := g.glob h4
      have mm : M2 X (.Name x1 p1) "get" ap e1 f1 cp := ⟨rfl, by rw [star_of h7, star_of h8]; rfl, h6, by rw [star_of h7, star_of h8]; rfl⟩
      rcases g3 with ⟨g5, v, g3, g4⟩ | ⟨a, ks, ds, rfl, rfl, gd⟩
      · refine .of (PE.imp (pe_dget2 (by have := g.room.un; omega) (pe_glob gl g2 g3 (okNm_of h5).1) h1 h2 mm) fun σ H Q h => ?_) rfl
        exfalso
        obtain ⟨W, S, ρ, a, r, S', ev, q⟩ := h
        rw [evR] at ev
        obtain ⟨⟨x, S1⟩, ev1, ev⟩ := Mi.bind_some ev
        split at ev
        · obtain ⟨⟨y, S2⟩, ev2, ev⟩ := Mi.bind_some ev
          change ((G[j]?).bind fun d => d.dct?.bind fun t => x.str?.bind fun k => y.val?.map fun e => (Rt.val ((valD t.1 t.2 (.inr k)).getD e), S2)) = _ at ev
          rw [g1, Option.bind_some, g5] at ev
          cases ev
        · cases ev
      · exact .of (de_gg2 (pe_glob gl g2 rfl (okNm_of h5).1) g1 gd h1 h2 mm) rfl
    · cases h
  · cases h
theorem snd3 {X : Cx} (g : GX T N sc fp Φ G k X) {q : P3} {e : Expr} {x : Expr × Expr × Expr} {m1 m2 m3 : ME} (h : chk3 T sc q e = some x) (h1 : DE X Φ G x.1 m1) (h2 : DE X Φ G x.2.1 m2) (h3 : DE X Φ G x.2.2 m3) : SE X Φ G e (.o3 q m1 m2 m3) := by
  unfold chk3 at h
  split at h
  · split at h
    · rename_i hc
      cases h
      simp only [Bool.and_eq_true, decide_eq_true_eq, List.contains_iff_mem] at hc
      obtain ⟨⟨⟨⟨⟨rfl, h4⟩, h5⟩, h6⟩, h7⟩, h8⟩ := hc
      exact .of (de_mx3 g.calm (g.glob h5) (g.bl _ h4) (star_of h6) (star_of h7) (star_of h8) (by rw [star_of h7, star_of h8]; rfl) h1 h2 h3) rfl
    · cases h
  · split at h
    · rename_i hc
      cases h
      simp only [Bool.and_eq_true, decide_eq_true_eq] at hc
      obtain ⟨⟨⟨⟨rfl, h4⟩, h5⟩, h6⟩, h7⟩ := hc
      exact .of (de_dg2 (by have := g.room.un; omega) h1 h2 h3 ⟨base_of h4, by rw [star_of h6, star_of h7]; rfl, h5, by rw [star_of h6, star_of h7]; rfl⟩) rfl
    · cases h
  · cases h
mutual
theorem sndE : ∀ (m : ME) {N : List Str} {sc : Scope} {fp : Str → Bool} {X : Cx} {e : Expr}, GX T N sc fp Φ G k X → chkE T N sc fp m e = true → SE X Φ G e m
  | .var i, N, sc, fp, X, e, g, h => by
    unfold chkE at h
    split at h
    · rename_i x p
      simp only [Bool.and_eq_true, decide_eq_true_eq] at h
      obtain ⟨⟨h1, h2⟩, h3⟩ := h
      exact .of (de_var (by rw [g.hN]; exact h1) (by rw [g.hsc]; exact vis_of h2) (okNm_of h3).1 (okNm_of h3).2) rfl
    · cases h
  | .bor i, N, sc, fp, X, e, g, h => by
    unfold chkE at h
    split at h
    · rename_i x p
      simp only [Bool.and_eq_true, decide_eq_true_eq] at h
      obtain ⟨⟨h1, h2⟩, h3⟩ := h
      exact .of (de_bor (by rw [g.hN]; exact h1) (by rw [g.hsc]; exact vis_of h2) (okNm_of h3).1 (okNm_of h3).2) rfl
    · cases h
  | .con d, N, sc, fp, X, e, g, h => by
    unfold chkE at h
    split at h
    · rename_i c j p
      unfold conOk at h
      split at h
      · have h := beq_iff_eq.mp h
        subst h
        exact .of (de_con pe_int fun W => by unfold Rep; rfl) rfl
      · have h := beq_iff_eq.mp h
        subst h
        exact .of (de_con pe_str fun W => by unfold Rep; rfl) rfl
      · have h := beq_iff_eq.mp h
        subst h
        exact .of (de_con pe_bl fun W => by unfold Rep; rfl) rfl
      · exact .of (de_con pe_non fun W => by unfold Rep; rfl) rfl
      · cases h
    · cases h
  | .glb j, N, sc, fp, X, e, g, h => by
    unfold chkE at h
    split at h
    · rename_i x p
      simp only [Bool.and_eq_true, List.contains_iff_mem] at h
      obtain ⟨⟨h1, h2⟩, h3⟩ := h
      obtain ⟨d, u, e1, e2, e3⟩ := g.gl j x h1
      have gl : Gl X x := by unfold Gl PySem.Env.kindOf; rw [g.hsc]; exact gl_of h2
      rcases e3 with ⟨_, v, e3, e4⟩ | ⟨a, ks, ds, rfl, rfl, _⟩
      · exact .of (de_glb (pe_glob gl e2 e3 (okNm_of h3).1) e1 fun _ => e4) rfl
      · exact .of (de_glb (v := .ref a) (pe_glob gl e2 rfl (okNm_of h3).1) e1 fun z => nomatch z) rfl
    · cases h
  | .bin o a b, N, sc, fp, X, e, g, h => by
    unfold chkE at h
    split at h
    · simp only [Bool.and_eq_true, decide_eq_true_eq] at h
      obtain ⟨⟨rfl, h2⟩, h3⟩ := h
      exact .of (de_bin (sndE a g h2).de (sndE b g h3).de) rfl
    · cases h
  | .neg a, N, sc, fp, X, e, g, h => by
    unfold chkE at h
    split at h
    · exact .of (de_neg (sndE a g h).de) rfl
    · cases h
  | .not a, N, sc, fp, X, e, g, h => by
    unfold chkE at h
    split at h
    · simp only [Bool.and_eq_true] at h
      exact ⟨de_not (sndE a g h.1).de, fun _ => dt_not ((sndE a g h.1).dt h.2), fun op es pos e => nomatch e⟩
    · cases h
  | .and a b, N, sc, fp, X, e, g, h => by
    unfold chkE at h
    split at h
    · rename_i e1 e2 rest pos
      simp only [Bool.and_eq_true] at h
      obtain ⟨⟨h1, h2⟩, h3⟩ := h
      have A := sndE a g h1
      have B : DE X Φ G (.BoolOp .And (e2 :: rest) pos) b ∧ DW X Φ G (.BoolOp .And (e2 :: rest) pos) b := by
        cases rest with
        | nil =>
          simp only [Bool.and_eq_true] at h3
          have B := sndE b g h3.1
          exact ⟨pe_one B.de, pw_and1 (B.dt h3.2)⟩
        | cons r rs =>
          have B := sndE b g h3
          exact ⟨B.de, B.dw _ _ _ rfl _ _ _ rfl⟩
      have W : DW X Φ G (.BoolOp .And (e1 :: e2 :: rest) pos) (.and a b) := dw_and (A.dt h2) B.2
      exact ⟨de_and A.de B.1, fun _ => W.pt, fun _ _ _ _ _ _ _ _ => W⟩
    · cases h
  | .or a b, N, sc, fp, X, e, g, h => by
    unfold chkE at h
    split at h
    · rename_i e1 e2 rest pos
      simp only [Bool.and_eq_true] at h
      obtain ⟨⟨h1, h2⟩, h3⟩ := h
      have A := sndE a g h1
      have B : DE X Φ G (.BoolOp .Or (e2 :: rest) pos) b ∧ DW X Φ G (.BoolOp .Or (e2 :: rest) pos) b := by
        cases rest with
        | nil =>
          simp only [Bool.and_eq_true] at h3
          have B := sndE b g h3.1
          exact ⟨pe_one B.de, pw_or1 (B.dt h3.2)⟩
        | cons r rs =>
          have B := sndE b g h3
          exact ⟨B.de, B.dw _ _ _ rfl _ _ _ rfl⟩
      have W : DW X Φ G (.BoolOp .Or (e1 :: e2 :: rest) pos) (.or a b) := dw_or (A.dt h2) B.2
      exact ⟨de_or A.de B.1, fun _ => W.pt, fun _ _ _ _ _ _ _ _ => W⟩
    · cases h
  | .cmp o a b, N, sc, fp, X, e, g, h => by
    unfold chkE at h
    split at h
    · simp only [Bool.and_eq_true, decide_eq_true_eq] at h
      obtain ⟨⟨⟨rfl, h2⟩, h3⟩, h4⟩ := h
      have A := (sndE a g h2).de
      have B := (sndE b g h3).de
      exact ⟨de_cmp g.hu (mark_of h4) A B, fun _ => dt_cmp g.hu (mark_of h4) A B, fun op es pos e => nomatch e⟩
    · cases h
  | .chn o o' a b c, N, sc, fp, X, e, g, h => by
    unfold chkE at h
    split at h
    · simp only [Bool.and_eq_true, decide_eq_true_eq] at h
      obtain ⟨⟨⟨⟨⟨rfl, rfl⟩, h2⟩, h3⟩, h4⟩, h5⟩ := h
      have A := (sndE a g h2).de
      have B := (sndE b g h3).de
      have C := (sndE c g h4).de
      exact ⟨de_chn g.hu (mark_of (op := cOf o') h5) A B C, fun _ => dt_chn g.hu (mark_of (op := cOf o') h5) A B C, fun op es pos e => nomatch e⟩
    · cases h
  | .ite c a b, N, sc, fp, X, e, g, h => by
    unfold chkE at h
    split at h
    · simp only [Bool.and_eq_true] at h
      obtain ⟨⟨⟨h1, h2⟩, h3⟩, h4⟩ := h
      exact ⟨de_ite ((sndE c g h1).dt h2) (sndE a g h3).de (sndE b g h4).de, (fun z => nomatch z), fun op es pos e => nomatch e⟩
    · cases h
  | .tup es, N, sc, fp, X, e, g, h => by
    unfold chkE at h
    split at h
    · exact .of (de_tup (sndA es g h)) rfl
    · cases h
  | .lst es, N, sc, fp, X, e, g, h => by
    unfold chkE at h
    split at h
    · exact .of (de_lst (sndA es g h)) rfl
    · cases h
  | .idx a i, N, sc, fp, X, e, g, h => by
    unfold chkE at h
    split at h
    · simp only [Bool.and_eq_true] at h
      exact .of (de_idx (ix_of h.1.1) (sndE a g h.1.2).de (sndE i g h.2).de) rfl
    · cases h
  | .slc a lo hi, N, sc, fp, X, e, g, h => by
    unfold chkE at h
    split at h
    · simp only [Bool.and_eq_true] at h
      exact .of (de_slc (sndE a g h.1.1).de (sndO lo g h.1.2) (sndO hi g h.2)) rfl
    · cases h
  | .call f es, N, sc, fp, X, e, g, h => by
    unfold chkE at h
    split at h
    · rename_i x p a l pos
      simp only [Bool.and_eq_true, List.contains_iff_mem] at h
      obtain ⟨⟨⟨h1, h2⟩, h3⟩, h4⟩ := h
      obtain ⟨fa, fd, ps, F, hm, hk, hb⟩ := g.fns f x h1
      have gl : Gl X x := by unfold Gl PySem.Env.kindOf; rw [g.hsc]; exact gl_of h2
      have st : notStar a = true ∧ (backTo pos (starEach l X.env)).any (·.1) = false := by
        cases es with
        | nil => simp [chkEs] at h4
        | cons m ms =>
          simp only [chkEs, Bool.and_eq_true] at h4
          exact ⟨h4.1.1, nostar_all h4.2⟩
      exact .of (de_call F g.gds g.room gl hm hk hb (okNm_of h3).1 (star_of st.1) st.2 (sndA es g h4)) rfl
    · cases h
  | .callp f es, N, sc, fp, X, e, g, h => by
    unfold chkE at h
    split at h
    · rename_i x p a l pos
      simp only [Bool.and_eq_true, List.contains_iff_mem] at h
      obtain ⟨⟨⟨h1, h2⟩, h3⟩, h4⟩ := h
      obtain ⟨fa, fd, ps, F, hm, hk, hb⟩ := g.fns f x h1
      have gl : Gl X x := by unfold Gl PySem.Env.kindOf; rw [g.hsc]; exact gl_of h2
      have st : notStar a = true ∧ (backTo pos (starEach l X.env)).any (·.1) = false := by
        cases es with
        | nil => simp [chkEs] at h4
        | cons m ms =>
          simp only [chkEs, Bool.and_eq_true] at h4
          exact ⟨h4.1.1, nostar_all h4.2⟩
      exact .of (de_callp F g.gds g.room gl hm hk hb (okNm_of h3).1 (star_of st.1) st.2 (sndRs es g h4)) rfl
    · cases h
  | .bi b es, N, sc, fp, X, e, g, h => by
    unfold chkE at h
    split at h
    · rename_i x p a l pos
      simp only [Bool.and_eq_true, List.contains_iff_mem] at h
      obtain ⟨⟨h1, h2⟩, h3⟩ := h
      have gl : Gl X x := by unfold Gl PySem.Env.kindOf; rw [g.hsc]; exact gl_of h2
      split at h3
      · rename_i t
        simp only [Bool.and_eq_true, decide_eq_true_eq] at h3
        obtain ⟨⟨rfl, h5⟩, h3⟩ := h3
        split at h3
        · rename_i y py
          simp only [Bool.and_eq_true, List.contains_iff_mem, beq_iff_eq] at h3
          obtain ⟨⟨⟨h6, h7⟩, h8⟩, h9⟩ := h3
          have bt : bootBuiltins y = some (.type (tyN t)) := by rw [h6]; cases t <;> decide +kernel
          have d1 : y ≠ "__name__" := by rw [h6]; cases t <;> decide
          have d2 : (y == ("__debug__" : Str)) = false := by rw [h6]; cases t <;> decide
          have gy : Gl X y := by unfold Gl PySem.Env.kindOf; rw [g.hsc]; exact gl_of h8
          cases es with
          | nil => simp [chkEs] at h9
          | cons m ms =>
            cases ms with
            | cons _ _ => simp [chkEs] at h9
            | nil =>
              simp only [chkEs, Bool.and_eq_true] at h9
              exact .of (de_isi1 gl (g.bl _ h1) (star_of h5) rfl rfl (sndE m g h9.1.2).de (pe_bltn gy (g.bl y h7) bt rfl d1 d2)) rfl
        · cases h3
      · rename_i ts
        simp only [Bool.and_eq_true, decide_eq_true_eq] at h3
        obtain ⟨⟨rfl, h5⟩, h3⟩ := h3
        split at h3
        · rename_i ys ky py
          simp only [Bool.and_eq_true, decide_eq_true_eq] at h3
          obtain ⟨⟨h10, h6⟩, h9⟩ := h3
          have hlen : ts.length ≤ sizeLine := Nat.le_trans h10 (by decide)
          cases es with
          | nil => simp [chkEs] at h9
          | cons m ms =>
            cases ms with
            | cons _ _ => simp [chkEs] at h9
            | nil =>
              simp only [chkEs, Bool.and_eq_true] at h9
              exact .of (de_isi gl (g.bl _ h1) (star_of h5) rfl rfl (sndE m g h9.1.2).de (PE.imp (pe_tup (tynames_pe g h6)) fun σ H Q h => ⟨by rw [List.length_map]; exact hlen, h⟩)) rfl
        · cases h3
      · simp only [Bool.and_eq_true, decide_eq_true_eq] at h3
        obtain ⟨h3, h4⟩ := h3
        have st : notStar a = true ∧ (backTo pos (starEach l X.env)).any (·.1) = false := by
          cases es with
          | nil => simp [chkEs] at h4
          | cons m ms =>
            simp only [chkEs, Bool.and_eq_true] at h4
            exact ⟨h4.1.1, nostar_all h4.2⟩
        rcases bi_snd g h3 with ⟨nm, c, bt, d1, d2⟩ | ⟨nm, c, bt, d1, d2⟩
        · exact .of (de_bi (id := x) c gl (g.bl x h1) bt d1 d2 (star_of st.1) st.2 (sndRs es g h4)) rfl
        · exact .of (de_biT (id := x) c gl (g.bl x h1) bt d1 d2 (star_of st.1) st.2 (sndRs es g h4)) rfl
    · cases h
  | .comp own t it c m, N, sc, fp, X, e, g, h => by
    unfold chkE at h
    split at h
    · rename_i elt tg iter ifs as scope pos
      simp only [Bool.and_eq_true, decide_eq_true_eq] at h
      obtain ⟨⟨⟨⟨⟨⟨⟨rfl, h1⟩, h2⟩, h3⟩, h4⟩, h5⟩, h6⟩, h7⟩ := h
      have ok : BlkOk X.N X.env.scope scope (own.map fun i => (N.getD i "", i)) := by rw [g.hN, g.hsc]; exact blkOk_by h3
      have eo : (own.map fun i => (N.getD i "", i)).map (·.2) = own := by
        rw [List.map_map]; exact List.map_id' _
      have ho : ∀ i ∈ slotsT t, i ∈ own := fun i hi => by
        have := (List.all_eq_true.mp h4) i hi
        simpa using this
      refine .of (PE.imp (pe_lc (wi := tI X.K Φ G true it) (g := gT X.K Φ G t) (tt := tC' X.K Φ G c) (te := tR X.K Φ G m) g.calm (by rw [g.hN]; exact g.nd) (sndI it tg g h1) ok (fun s H C cl fpa => sndT t (g.blk ok.kind) h5) (fun s H C cl fpa => sndC c (g.blk ok.kind) h6) (fun s H C cl fpa => (sndE m (g.blk ok.kind) h7).de) (fold_of h2)) fun σ H Q h => ?_) rfl
      rw [eo]
      exact lc_imp ho h
    · cases h
  | .new a, N, sc, fp, X, e, g, h => by
    unfold chkE at h
    have A := sndE a g h
    have no : ∀ {ρ : Env} {S S' : Sto} {b : Bool}, evR Φ G ρ (.new a) S ≠ some (.val (.bl b), S') := fun {ρ S S' b} z => by
      rw [evR] at z
      obtain ⟨⟨x, S1⟩, _, z⟩ := Mi.bind_some z
      dsimp only at z
      split at z <;> cases z
    refine ⟨de_new A.de, fun _ => ⟨fun pins s σ H Q I h => ?_⟩, fun _ _ _ _ _ _ _ _ => ⟨fun wh pins s σ H Q I h => ?_⟩⟩
    · obtain ⟨W, S, ρ, _, b, S', ev, _⟩ := h
      exact (no ev).elim
    · obtain ⟨W, S, ρ, _, b, S', ev, _⟩ := h
      exact (no ev).elim
  | .dct ks es, N, sc, fp, X, e, g, h => by
    unfold chkE at h
    split at h
    · simp only [Bool.and_eq_true, decide_eq_true_eq] at h
      obtain ⟨⟨⟨⟨h1, h2⟩, h3⟩, h4⟩, h5⟩ := h
      exact .of (de_dct (key_snd h1) (sndV es g h2) h3 (fun z => h4 (by rw [z]; rfl)) h5) rfl
    · cases h
  | .dgt a i, N, sc, fp, X, e, g, h => by
    unfold chkE at h
    split at h
    · simp only [Bool.and_eq_true] at h
      exact .of (de_dgt (by have := g.hu; omega) (ix_of h.1.1) (sndE a g h.1.2).de (sndE i g h.2).de) rfl
    · cases h
  | .o1 q a, N, sc, fp, X, e, g, h => by
    unfold chkE at h
    split at h
    · rename_i x hx
      exact snd1 g hx (sndE a g h).de
    · cases h
  | .o2 q a b, N, sc, fp, X, e, g, h => by
    unfold chkE at h
    split at h
    · rename_i x hx
      rw [Bool.and_eq_true] at h
      exact snd2 g hx (sndE a g h.1).de (sndE b g h.2).de
    · cases h
  | .o3 q a b c, N, sc, fp, X, e, g, h => by
    unfold chkE at h
    split at h
    · rename_i x hx
      rw [Bool.and_eq_true, Bool.and_eq_true] at h
      exact snd3 g hx (sndE a g h.1.1).de (sndE b g h.1.2).de (sndE c g h.2).de
    · cases h
  | .din n a b, N, sc, fp, X, e, g, h => by
    unfold chkE at h
    split at h
    · simp only [Bool.and_eq_true, decide_eq_true_eq] at h
      obtain ⟨⟨⟨rfl, h2⟩, h3⟩, h4⟩ := h
      have A := (sndE a g h2).de
      have B := (sndE b g h3).de
      have hu : X.A.units + 1 < cLine := by have := g.hu; omega
      exact ⟨de_din hu A B (mark_of h4), fun _ => dt_din hu A B (mark_of h4), fun op es pos e => nomatch e⟩
    · cases h
theorem sndV : ∀ (ms : MEs) {N : List Str} {sc : Scope} {fp : Str → Bool} {X : Cx} {es : List Expr}, GX T N sc fp Φ G k X → chkEs T N sc fp ms es = true → ValE X Φ G es ms
  | .nil, N, sc, fp, X, es, g, h => by
    unfold chkEs at h
    split at h
    · exact .nil
    · cases h
  | .cons m ms, N, sc, fp, X, es, g, h => by
    unfold chkEs at h
    split at h
    · simp only [Bool.and_eq_true] at h
      exact .cons (sndE m g h.1.2).de (sndV ms g h.2)
    · cases h
theorem sndA : ∀ (ms : MEs) {N : List Str} {sc : Scope} {fp : Str → Bool} {X : Cx} {es : List Expr}, GX T N sc fp Φ G k X → chkEs T N sc fp ms es = true → DAs X Φ G es ms
  | .nil, N, sc, fp, X, es, g, h => by
    unfold chkEs at h
    split at h
    · exact da_nil
    · cases h
  | .cons m ms, N, sc, fp, X, es, g, h => by
    unfold chkEs at h
    split at h
    · simp only [Bool.and_eq_true] at h
      exact da_cons (star_of h.1.1) (sndE m g h.1.2).de (sndA ms g h.2)
    · cases h
theorem sndRs : ∀ (ms : MEs) {N : List Str} {sc : Scope} {fp : Str → Bool} {X : Cx} {es : List Expr}, GX T N sc fp Φ G k X → chkEs T N sc fp ms es = true → DRs X Φ G es ms
  | .nil, N, sc, fp, X, es, g, h => by
    unfold chkEs at h
    split at h
    · exact dr_nil
    · cases h
  | .cons m ms, N, sc, fp, X, es, g, h => by
    unfold chkEs at h
    split at h
    · simp only [Bool.and_eq_true] at h
      exact dr_cons (star_of h.1.1) (sndE m g h.1.2).de (sndRs ms g h.2)
    · cases h
theorem sndO : ∀ (m : MO) {N : List Str} {sc : Scope} {fp : Str → Bool} {X : Cx} {e : Option Expr}, GX T N sc fp Φ G k X → chkO T N sc fp m e = true → DO X Φ G e m
  | .no, N, sc, fp, X, e, g, h => by
    unfold chkO at h
    split at h
    · exact do_no
    · cases h
  | .yes m, N, sc, fp, X, e, g, h => by
    unfold chkO at h
    split at h
    · exact do_yes (sndE m g h).de
    · cases h
theorem sndC : ∀ (m : MO) {N : List Str} {sc : Scope} {fp : Str → Bool} {X : Cx} {e : List Expr}, GX T N sc fp Φ G k X → chkC T N sc fp m e = true → DC X Φ G e m
  | .no, N, sc, fp, X, e, g, h => by
    unfold chkC at h
    split at h
    · exact dc_no
    · cases h
  | .yes m, N, sc, fp, X, e, g, h => by
    unfold chkC at h
    split at h
    · simp only [Bool.and_eq_true] at h
      exact dc_yes ((sndE m g h.1).dt h.2)
    · cases h
theorem sndI {z : Bool} : ∀ (m : MI) {N : List Str} {sc : Scope} {fp : Str → Bool} {X : Cx} (tg : Expr) {e : Expr}, GX T N sc fp Φ G k X → chkI T N sc fp m tg e = true → DI X Φ G z tg e m
  | .rng1 a, N, sc, fp, X, tg, e, g, h => by
    unfold chkI at h
    split at h
    · simp only [Bool.and_eq_true, decide_eq_true_eq, List.contains_iff_mem] at h
      obtain ⟨⟨⟨⟨rfl, h2⟩, h3⟩, h4⟩, h5⟩ := h
      have gl : Gl X "range" := by unfold Gl PySem.Env.kindOf; rw [g.hsc]; exact gl_of h3
      exact di_rng1 gl (g.bl _ h2) (star_of h4) (sndE a g h5).de
    · cases h
  | .rng2 a b, N, sc, fp, X, tg, e, g, h => by
    unfold chkI at h
    split at h
    · simp only [Bool.and_eq_true, decide_eq_true_eq, List.contains_iff_mem] at h
      obtain ⟨⟨⟨⟨⟨⟨rfl, h2⟩, h3⟩, h4⟩, h5⟩, h6⟩, h7⟩ := h
      have gl : Gl X "range" := by unfold Gl PySem.Env.kindOf; rw [g.hsc]; exact gl_of h3
      exact di_rng2 gl (g.bl _ h2) (by rw [star_of h4, star_of h5]; rfl) (star_of h5) (sndE a g h6).de (sndE b g h7).de
    · cases h
  | .seq a, N, sc, fp, X, tg, e, g, h => by
    unfold chkI at h
    exact di_seq (sndE a g h).de
  | .enm a, N, sc, fp, X, tg, e, g, h => by
    unfold chkI at h
    split at h
    · simp only [Bool.and_eq_true, decide_eq_true_eq, List.contains_iff_mem] at h
      obtain ⟨⟨⟨⟨⟨rfl, h2⟩, h3⟩, h4⟩, h6⟩, h5⟩ := h
      have gl : Gl X "enumerate" := by unfold Gl PySem.Env.kindOf; rw [g.hsc]; exact gl_of h3
      split at h6
      · exact di_enm gl (g.bl _ h2) (star_of h4) (sndE a g h5).de
      · cases h6
    · cases h
  | .zip a b, N, sc, fp, X, tg, e, g, h => by
    unfold chkI at h
    split at h
    · simp only [Bool.and_eq_true, decide_eq_true_eq, List.contains_iff_mem] at h
      obtain ⟨⟨⟨⟨⟨⟨⟨rfl, h2⟩, h3⟩, h4⟩, h5⟩, h6⟩, h7⟩, h8⟩ := h
      have gl : Gl X "zip" := by unfold Gl PySem.Env.kindOf; rw [g.hsc]; exact gl_of h3
      split at h6
      · exact di_zip gl (g.bl _ h2) (by rw [star_of h4, star_of h5]) (star_of h5) (by rw [star_of h5]; rfl) (sndE a g h7).de (sndE b g h8).de
      · cases h6
    · cases h
theorem sndT : ∀ (m : MT) {N : List Str} {sc : Scope} {fp : Str → Bool} {X : Cx} {e : Expr}, GX T N sc fp Φ G k X → chkT T N sc fp m e = true → DG X Φ G e m
  | .nm i, N, sc, fp, X, e, g, h => by
    unfold chkT at h
    split at h
    · simp only [Bool.and_eq_true, Bool.or_eq_true, decide_eq_true_eq] at h
      obtain ⟨h1, h2⟩ := h
      rcases h2 with h2 | ⟨h2, h3⟩
      · exact dg_nm (by rw [g.hN]; exact g.nd) (by rw [g.hN]; exact h1) (.inl (by rw [g.hsc]; exact loc_of h2)) (.inr (by rw [g.hsc]; exact loc_of h2))
      · exact dg_nm (by rw [g.hN]; exact g.nd) (by rw [g.hN]; exact h1) (.inr (by rw [g.hsc]; exact cel_of h2)) (.inl (by rw [g.hfn]; exact h3))
    · cases h
  | .sub o i, N, sc, fp, X, e, g, h => by
    unfold chkT at h
    split at h
    · rename_i x s p
      simp only [Bool.and_eq_true] at h
      refine dg_sub (by have := g.room.un; omega) (fun to ti t ho hi hs => pg_sub ho hi hs ?_) (sndE o g h.1.2).de (sndE i g h.2).de
      intro v
      have := h.1.1
      cases s <;> first | rfl | cases this
    · cases h
  | .tp ts, N, sc, fp, X, e, g, h => by
    unfold chkT at h
    split at h
    · exact dg_tup (fun t ht => pg_tup g.calm ht (aslen h).1 (aslen h).2) (stos_len h) (sndTs ts g h)
    · cases h
theorem sndTs : ∀ (ms : MTs) {N : List Str} {sc : Scope} {fp : Str → Bool} {X : Cx} {es : List Expr}, GX T N sc fp Φ G k X → chkTs T N sc fp ms es = true → DGs X Φ G es ms
  | .nil, N, sc, fp, X, es, g, h => by
    unfold chkTs at h
    split at h
    · exact dg_nil
    · cases h
  | .cons m ms, N, sc, fp, X, es, g, h => by
    unfold chkTs at h
    split at h
    · simp only [Bool.and_eq_true] at h
      exact dg_cons (sndT m g h.1.2) (sndTs ms g h.2) fun t u h1 h2 => pgs_cons h1 h2 (by rw [aseach_of h.1.1]; rfl)
    · cases h
end
end
end Mi
end
section
namespace Mi
open PySem PySem.Spec L2

def swB (sc : Scope) (t e : Expr) : Bool := match e with
  | .ListComp _ _ s p => (match t with
    | .Name y py => isLoc sc y && (py.line == p.line) && !(s.names.any fun (n, k) => n == y && (k == .local || k == .cell))
    | _ => false)
  | _ => false
def noComp2 : Expr → Bool
  | .SetComp _ _ _ _ => false | .DictComp _ _ _ _ _ => false | _ => true
def notSeqT : Expr → Bool
  | .Tuple _ _ _ => false | .List _ _ => false | _ => true
def foldB : Expr → Bool
  | .Tuple vs _ _ => vs.all (foldedForSure 8) | _ => false
def isComp : Expr → Bool
  | .ListComp _ _ _ _ => true | _ => false

def swN (sc : Scope) (l : Nat) : List Expr → Bool
  | [] => true
  | .Name x p :: r => isLoc sc x && (p.line == l) && swN sc l r
  | _ => false
def swNone (sc : Scope) : Expr → Expr → Bool
  | .Tuple ts _ _, .Tuple _ _ _ => !swN sc ((ts.head?.map (·.pos.line)).getD 0) ts
  | _, _ => false
mutual
def chkS (T : Tab) (N : List Str) (sc : Scope) (fp : Str → Bool) : MS → Stmt → Bool
  | .asg t m, s => match s with
    | .Assign [tg] e _ => notStar tg && noComp2 e && chkE T N sc fp m e && chkT T N sc fp t tg && (notSeqT tg || notTupE e || foldB e || swNone sc tg e) && (!swB sc tg e || (match t, m with | .nm _, .comp _ _ _ _ _ => true | _, _ => false))
    | _ => false
  | .own i m, s => match s with
    | .Assign [.Name x p] e _ => noComp2 e && chkE T N sc fp m e && decide (N[i]? = some x) && (isLoc sc x || (isCel sc x && fp x)) && (!swB sc (.Name x p) e || (match m with | .comp _ _ _ _ _ => true | _ => false))
    | _ => false
  | .par i j _ a b, s => match s with
    | .Assign [.Tuple [.Name x px, .Name y py] kt pt] (.Tuple [e1, e2] k2 pt2) _ => (decide (N[i]? = some x) && decide (N[j]? = some y) && decide (i ≠ j) && isLoc sc x && isLoc sc y && (py.line == px.line) && decide (x ≠ y) && notStar e1 && notStar e2 && !([e1, e2].all (foldedForSure 8)) && !([e1, e2].all (constantsAlone 8)) && chkE T N sc fp a e1 && chkE T N sc fp b e2) ||
      (decide (N[i]? = some x) && decide (N[j]? = some y) && (isLoc sc x || (isCel sc x && fp x)) && (isLoc sc y || (isCel sc y && fp y)) && notStar e1 && notStar e2 && swNone sc (.Tuple [.Name x px, .Name y py] kt pt) (.Tuple [e1, e2] k2 pt2) && chkE T N sc fp a e1 && chkE T N sc fp b e2)
    | _ => false
  | .par3 i j l a b c, s => match s with
    | .Assign [.Tuple [.Name x px, .Name y py, .Name z pz] _ _] (.Tuple [e1, e2, e3] _ _) _ => decide (N[i]? = some x) && decide (N[j]? = some y) && decide (N[l]? = some z) && decide (i ≠ j) && decide (i ≠ l) && decide (j ≠ l) && isLoc sc x && isLoc sc y && isLoc sc z && (py.line == px.line) && (pz.line == px.line) && decide (x ≠ y) && decide (x ≠ z) && decide (y ≠ z) && notStar e1 && notStar e2 && notStar e3 && !([e1, e2, e3].all (foldedForSure 8)) && !([e1, e2, e3].all (constantsAlone 8)) && chkE T N sc fp a e1 && chkE T N sc fp b e2 && chkE T N sc fp c e3
    | _ => false
  | .aug i o m, s => match s with
    | .AugAssign (.Name x _) op e _ => (match o with | .add => true | .sub => true | _ => false) && decide (op = opOf o) && decide (N[i]? = some x) && (isLoc sc x || (isCel sc x && fp x)) && chkE T N sc fp m e
    | _ => false
  | .app i m, s => match s with
    | .Expr (.Call (.Attribute (.Name x _) nm ap) [e] [] cp) _ => decide (nm = "append") && decide (N[i]? = some x) && isVis sc x && okNm x && notStar e && (ap.endLine == cp.line) && chkE T N sc fp m e
    | _ => false
  | .ext i m, s => match s with
    | .Expr (.Call (.Attribute (.Name x _) nm ap) [e] [] cp) _ => decide (nm = "extend") && decide (N[i]? = some x) && isVis sc x && okNm x && notStar e && (ap.endLine == cp.line) && chkE T N sc fp m e
    | _ => false
  | .rev i, s => match s with
    | .Expr (.Call (.Attribute (.Name x _) nm ap) [] [] cp) _ => decide (nm = "reverse") && decide (N[i]? = some x) && isVis sc x && okNm x && (ap.endLine == cp.line)
    | _ => false
  | .sown i a m, s => match s with
    | .Assign [.Subscript (.Name x _) ix _] e _ => noComp2 e && !isComp e && notSlc ix && chkE T N sc fp m e && chkE T N sc fp a ix && decide (N[i]? = some x) && isVis sc x && okNm x
    | _ => false
  | .pops t i, s => match s with
    | .Assign [tg] (.Call (.Attribute (.Name x _) nm ap) [] [] cp) _ => notStar tg && decide (nm = "pop") && decide (N[i]? = some x) && isVis sc x && okNm x && (ap.endLine == cp.line) && chkT T N sc fp t tg
    | _ => false
  | .ite c a b, s => match s with
    | .If t xs ys _ => chkE T N sc fp c t && notIf t && chkSs T N sc fp a xs && chkSs T N sc fp b ys
    | _ => false
  | .forr t it b, s => match s with
    | .For tg iter body [] _ => chkI T N sc fp it tg iter && notSet iter && chkT T N sc fp t tg && chkSs T N sc fp b body
    | _ => false
  | .whl n c b, s => match s with
    | .While t body [] _ => chkE T N sc fp c t && notIf t && chkSs T N sc fp b body
    | _ => false
  | .ret m, s => match s with
    | .Return (some e) _ => chkE T N sc fp m e
    | _ => false
  | .reto i, s => match s with
    | .Return (some (.Name x _)) _ => decide (N[i]? = some x) && isVis sc x && okNm x
    | _ => false
  | .expr m, s => match s with
    | .Expr e _ => notComp e && chkE T N sc fp m e
    | _ => false
  | .frz _, s => false
def chkSs (T : Tab) (N : List Str) (sc : Scope) (fp : Str → Bool) : MSs → List Stmt → Bool
  | .nil, l => match l with
    | [] => true
    | _ => false
  | .cons m ms, l => match m with
    | .frz _ => chkSs T N sc fp ms l
    | m => match l with
      | s :: r => chkS T N sc fp m s && chkSs T N sc fp ms r
      | [] => false
end
section
variable {T : Tab} {N : List Str} {sc : Scope} {fp : Str → Bool} {Φ : Fns} {G : List D} {k : Nat} {X : Cx}
theorem blk_fn {env : PySem.Env} (h : env.scope.kind = .function) : env.blockKind = .function := by unfold PySem.Env.blockKind; rw [h]; rfl
theorem sw_false {e tg : Expr} {l : Nat} {env : PySem.Env} (h1 : noComp2 e = true) (hk : env.scope.kind = .function) (h2 : swB env.scope tg e = false) : swapsWith e (some tg) l env = pure false := by
  cases e with
  | SetComp _ _ _ _ => cases h1
  | DictComp _ _ _ _ _ => cases h1
  | ListComp elt gs s p =>
    cases tg with
    | Name y py =>
      have h2 : (isLoc env.scope y && (py.line == p.line) && !(s.names.any fun (n, k) => n == y && (k == .local || k == .cell))) = false := h2
      show (pure (env.blockKind == .function && env.kindOf y == some .local && py.line == p.line && !(s.names.any fun (n, k) => n == y && (k == .local || k == .cell))) : Sem Bool) = pure false
      have e : (env.kindOf y == some .local) = isLoc env.scope y := by
        unfold isLoc PySem.Env.kindOf
        cases env.scope.names.lookup y with
        | none => rfl
        | some kd => cases kd <;> rfl
      rw [blk_fn hk, e]
      show (pure (true && isLoc env.scope y && py.line == p.line && !(s.names.any fun (n, k) => n == y && (k == .local || k == .cell))) : Sem Bool) = pure false
      rw [Bool.true_and, h2]
    | _ => rfl
  | _ => rfl
theorem sw_none {e tg : Expr} {env : PySem.Env} (h : (notSeqT tg || notTupE e || foldB e) = true) : swappedStores [tg] e env = pure none := by
  cases tg with
  | Tuple ts kt pt =>
    cases e with
    | Tuple vs kv pv =>
      have h : vs.all (foldedForSure 8) = true := by simpa [notSeqT, notTupE, foldB] using h
      unfold swappedStores
      simp only [h, if_true]
      split
      · rfl
      · split
        · rfl
        · split <;> rfl
    | _ => rfl
  | List ts pt =>
    cases e with
    | Tuple vs kv pv =>
      have h : vs.all (foldedForSure 8) = true := by simpa [notSeqT, notTupE, foldB] using h
      unfold swappedStores
      simp only [h, if_true]
      split
      · rfl
      · split
        · rfl
        · split <;> rfl
    | _ => rfl
  | _ => cases e <;> rfl
theorem kindLoc {env : PySem.Env} {y : Str} : (env.kindOf y == some .local) = isLoc env.scope y := by
  unfold isLoc PySem.Env.kindOf
  cases env.scope.names.lookup y with
  | none => rfl
  | some kd => cases kd <;> rfl
theorem swN_len {env : PySem.Env} {l : Nat} : ∀ {ts : List Expr}, swN env.scope l ts = false → ((ts.filterMap fun
    | .Name id pos => if env.kindOf id == some .local && pos.line == l then some id else none
    | _ => none).length != ts.length) = true := by
  intro ts h
  have key : ∀ ts : List Expr, (ts.filterMap fun
    | .Name id pos => if env.kindOf id == some .local && pos.line == l then some id else none
    | _ => none).length ≤ ts.length ∧ (swN env.scope l ts = false → (ts.filterMap fun
    | .Name id pos => if env.kindOf id == some .local && pos.line == l then some id else none
    | _ => none).length < ts.length) := by
    intro ts
    induction ts with
    | nil => exact ⟨Nat.le_refl _, fun z => nomatch z⟩
    | cons t ts ih =>
      refine ⟨List.length_filterMap_le _ _, fun z => ?_⟩
      cases t with
      | Name x p =>
        rw [List.filterMap_cons]
        dsimp only
        rw [kindLoc]
        cases hc : (isLoc env.scope x && p.line == l) with
        | false =>
          rw [if_neg (by decide)]
          exact Nat.lt_succ_of_le ih.1
        | true =>
          rw [if_pos rfl]
          have z : (isLoc env.scope x && (p.line == l) && swN env.scope l ts) = false := z
          rw [hc, Bool.true_and] at z
          exact Nat.succ_lt_succ (ih.2 z)
      | _ => exact Nat.lt_succ_of_le ih.1
  have := (key ts).2 h
  simp only [bne_iff_ne, ne_eq]
  omega
theorem sw_none2 {e tg : Expr} {env : PySem.Env} (h : swNone env.scope tg e = true) : swappedStores [tg] e env = pure none := by
  cases tg with
  | Tuple ts kt pt =>
    cases e with
    | Tuple vs kv pv =>
      have h : swN env.scope ((ts.head?.map (·.pos.line)).getD 0) ts = false := by simpa [swNone] using h
      have hl := swN_len h
      unfold swappedStores
      dsimp only
      split
      · rfl
      · split
        · rfl
        · split
          · rfl
          · rename_i hf
            exact absurd ((Bool.or_eq_true _ _).mpr (.inl hl)) hf
    | _ => cases h
  | _ => cases e <;> cases h
theorem namePos {x : Str} {p : Pos} : (Expr.Name x p).pos = p := rfl
theorem noStar_any {es : List Expr} (h : ∀ x ∈ es, notStar x = true) : (es.any fun | .Starred .. => true | _ => false) = false := by
  rw [List.any_eq_false]
  intro x hx
  have := h x hx
  cases x <;> first | exact Bool.false_ne_true | cases this
theorem sw_some2 {env : PySem.Env} {x y : Str} {px py pt pt2 : Pos} {kt k2} {e1 e2 : Expr} (hk : env.scope.kind = .function) (hx : isLoc env.scope x = true) (hy : isLoc env.scope y = true) (hl : (py.line == px.line) = true) (hn : x ≠ y) (s1 : notStar e1 = true) (s2 : notStar e2 = true) (hf : [e1, e2].all (foldedForSure 8) = false) (hc : [e1, e2].all (constantsAlone 8) = false) :
    swappedStores [.Tuple [.Name x px, .Name y py] kt pt] (.Tuple [e1, e2] k2 pt2) env = pure (some [x, y]) := by
  have hst : ∀ x ∈ [e1, e2], notStar x = true := fun x hx => by
    simp only [List.mem_cons, List.not_mem_nil, or_false] at hx
    rcases hx with rfl | rfl <;> assumption
  have hed : ([x, y] : List Str).eraseDups.length = 2 := by
    have h2 : (y == x) = false := by rw [beq_eq_false_iff_ne]; exact Ne.symm hn
    simp [List.eraseDups_cons, h2]
  unfold swappedStores
  dsimp only
  split
  · rename_i h
    rw [blk_fn hk] at h
    exact absurd h Bool.false_ne_true
  · split
    · rename_i h
      exact absurd ((noStar_any hst).symm.trans h) (by decide)
    · simp only [List.filterMap_cons, List.filterMap_nil, List.head?_cons, Option.map_some, Option.getD_some, namePos, kindLoc, hx, hy, hl, beq_self_eq_true, Bool.and_self, if_true]
      rw [if_neg (by rw [hed]; exact Bool.false_ne_true), if_neg (by rw [hf]; decide), if_neg (by rw [hc]; decide)]
theorem sw_some3 {env : PySem.Env} {x y z : Str} {px py pz pt pt2 : Pos} {kt k2} {e1 e2 e3 : Expr} (hk : env.scope.kind = .function) (hx : isLoc env.scope x = true) (hy : isLoc env.scope y = true) (hz : isLoc env.scope z = true) (hl : (py.line == px.line) = true) (hl2 : (pz.line == px.line) = true) (hn : x ≠ y) (hn2 : x ≠ z) (hn3 : y ≠ z) (s1 : notStar e1 = true) (s2 : notStar e2 = true) (s3 : notStar e3 = true) (hf : [e1, e2, e3].all (foldedForSure 8) = false) (hc : [e1, e2, e3].all (constantsAlone 8) = false) :
    swappedStores [.Tuple [.Name x px, .Name y py, .Name z pz] kt pt] (.Tuple [e1, e2, e3] k2 pt2) env = pure (some [x, y, z]) := by
  have hst : ∀ x ∈ [e1, e2, e3], notStar x = true := fun x hx => by
    simp only [List.mem_cons, List.not_mem_nil, or_false] at hx
    rcases hx with rfl | rfl | rfl <;> assumption
  have hed : ([x, y, z] : List Str).eraseDups.length = 3 := by
    have h2 : (y == x) = false := by rw [beq_eq_false_iff_ne]; exact Ne.symm hn
    have h3 : (z == x) = false := by rw [beq_eq_false_iff_ne]; exact Ne.symm hn2
    have h4 : (z == y) = false := by rw [beq_eq_false_iff_ne]; exact Ne.symm hn3
    simp [List.eraseDups_cons, h2, h3, h4]
  unfold swappedStores
  dsimp only
  split
  · rename_i h
    rw [blk_fn hk] at h
    exact absurd h Bool.false_ne_true
  · split
    · rename_i h
      exact absurd ((noStar_any hst).symm.trans h) (by decide)
    · simp only [List.filterMap_cons, List.filterMap_nil, List.head?_cons, Option.map_some, Option.getD_some, namePos, kindLoc, hx, hy, hz, hl, hl2, beq_self_eq_true, Bool.and_self, if_true]
      rw [if_neg (by rw [hed]; exact Bool.false_ne_true), if_neg (by rw [hf]; decide), if_neg (by rw [hc]; decide)]
theorem gT_nm {K : PySem.W.Frag} {i : Nat} {v : V} {σ : St} {H : Hp} {Q : St → Hp → Prop} (h : gT K Φ G (.nm i) v σ H Q) : gName i v σ H Q := by
  obtain ⟨W, S, ρ, d, a, r, ρ', S', ev, q⟩ := h
  rw [sto] at ev
  split at ev
  · rename_i hi
    cases ev
    have := q W (σ.set i (some v)) (Ext.refl W) ⟨rfl, a.rel, a.sl.set hi r⟩ (fun p => own_set hi) ⟨by rw [List.length_set], fun j hj => by
      rw [List.getElem?_set_ne]; intro z; exact hj (by rw [z]; exact List.mem_singleton.mpr rfl)⟩
    rw [a.1] at this; exact this
  · cases ev

theorem setLc_ok (g : GX T N sc fp Φ G k X) {i : Nat} {y : Str} {py pos : Pos} {e : Expr} {own : List Nat} {t : MT} {it : MI} {c : MO} {m : ME} (hy : N[i]? = some y) (hs : swB sc (.Name y py) e = true) (h : chkE T N sc fp (.comp own t it c m) e = true) :
    ∃ tl : TE, PS X (.Assign [.Name y py] e pos) (tAsg tl (gName i)) ∧ ∀ σ H Q, tR X.K Φ G (.comp own t it c m) σ H Q → tl σ H Q := by
  unfold chkE at h
  split at h
  · rename_i elt tg iter ifs as scope p2
    simp only [Bool.and_eq_true, decide_eq_true_eq] at h
    obtain ⟨⟨⟨⟨⟨⟨⟨rfl, h1⟩, h2⟩, h3⟩, h4⟩, h5⟩, h6⟩, h7⟩ := h
    have ok : BlkOk X.N X.env.scope scope (own.map fun i => (N.getD i "", i)) := by rw [g.hN, g.hsc]; exact blkOk_by h3
    have eo : (own.map fun i => (N.getD i "", i)).map (·.2) = own := by
      rw [List.map_map]; exact List.map_id' _
    have ho : ∀ i ∈ slotsT t, i ∈ own := fun i hi => by
      have := (List.all_eq_true.mp h4) i hi
      simpa using this
    have hs : (isLoc sc y && (py.line == p2.line) && !(scope.names.any fun (n, k) => n == y && (k == .local || k == .cell))) = true := hs
    simp only [Bool.and_eq_true, Bool.not_eq_true'] at hs
    have hl : X.env.scope.names.lookup y = some .local := by rw [g.hsc]; exact loc_of hs.1.1
    refine ⟨_, ps_setLc (wi := tI X.K Φ G true it) (g := gT X.K Φ G t) (tt := tC' X.K Φ G c) (te := tR X.K Φ G m) g.calm (by rw [g.hN]; exact g.nd) (by rw [g.hN]; exact hy) hl (sw_true (by rw [g.hsc]; exact g.knd) hl hs.1.2 hs.2) (sndI it tg g h1) ok (fun s H C cl fpa => sndT t (g.blk ok.kind) h5) (fun s H C cl fpa => sndC c (g.blk ok.kind) h6) (fun s H C cl fpa => (sndE m (g.blk ok.kind) h7).de) (fold_of h2), fun σ H Q h => ?_⟩
    rw [eo]
    exact lc_imp ho h
  · cases h
theorem loc_fn (g : GX T N sc fp Φ G k X) {x : Str} (h : (isLoc sc x || (isCel sc x && fp x)) = true) : Loc X.env.scope x ∧ (X.fn x = true ∨ X.env.scope.names.lookup x = some .local) := by
  rw [g.hsc, g.hfn]
  simp only [Bool.or_eq_true, Bool.and_eq_true] at h
  rcases h with h | ⟨h, h'⟩
  · exact ⟨.inl (loc_of h), .inr (loc_of h)⟩
  · exact ⟨.inr (cel_of h), .inl h'⟩
mutual
theorem sndS : ∀ (m : MS) {s : Stmt}, GX T N sc fp Φ G k X → chkS T N sc fp m s = true → DS X Φ G s m
  | .asg t m, s, g, h => by
    unfold chkS at h
    split at h
    · rename_i tg e p
      simp only [Bool.and_eq_true] at h
      obtain ⟨⟨⟨⟨⟨h1, h2⟩, h3⟩, h4⟩, h5⟩, h6⟩ := h
      by_cases hsw : swB sc tg e = true
      · rw [hsw, Bool.not_true, Bool.false_or] at h6
        split at h6
        · rename_i i own t' it c m'
          have h4' := h4
          unfold chkT at h4
          split at h4
          · simp only [Bool.and_eq_true, decide_eq_true_eq] at h4
            obtain ⟨tl, ps, im⟩ := setLc_ok (pos := p) g h4.1 hsw h3
            exact PS.imp ps fun D σ H h => im _ _ _ (tR_mono (asg_imp h) fun v H q => gT_nm q)
          · cases h4
        · cases h6
      · have hsw : swB X.env.scope tg e = false := by rw [g.hsc]; exact Bool.not_eq_true _ ▸ hsw
        refine ds_asg (fun te gg he hg => ps_asg he hg (sw_false h2 (by rw [g.hsc]; exact g.knd) hsw) (by
          rw [Bool.or_eq_true] at h5
          rcases h5 with h5 | h5
          · exact sw_none h5
          · exact sw_none2 (by rw [g.hsc]; exact h5)) (by rw [aseach_of h1]; rfl)) (sndE m g h3).de (sndT t g h4)
    · cases h
  | .own i m, s, g, h => by
    unfold chkS at h
    split at h
    · rename_i x px e p
      simp only [Bool.and_eq_true, decide_eq_true_eq] at h
      obtain ⟨⟨⟨⟨h1, h2⟩, h3⟩, h4⟩, h5⟩ := h
      by_cases hsw : swB sc (.Name x px) e = true
      · rw [hsw, Bool.not_true, Bool.false_or] at h5
        split at h5
        · obtain ⟨tl, ps, im⟩ := setLc_ok (pos := p) g h3 hsw h2
          exact PS.imp ps fun D σ H h => im _ _ _ (own_imp h)
        · cases h5
      · have hsw : swB X.env.scope (.Name x px) e = false := by rw [g.hsc]; exact Bool.not_eq_true _ ▸ hsw
        obtain ⟨l1, l2⟩ := loc_fn g h4
        exact ds_own (fun te he => ps_set (by rw [g.hN]; exact g.nd) (by rw [g.hN]; exact h3) l1 he (sw_false h1 (by rw [g.hsc]; exact g.knd) hsw) l2) (sndE m g h2).de
    · cases h
  | .par i j oj a b, s, g, h => by
    unfold chkS at h
    split at h
    · rename_i x px y py kt pt e1 e2 k2 pt2 pos
      have hk : X.env.scope.kind = .function := by rw [g.hsc]; exact g.knd
      rw [Bool.or_eq_true] at h
      rcases h with h | h
      · simp only [Bool.and_eq_true, decide_eq_true_eq, Bool.not_eq_true'] at h
        obtain ⟨⟨⟨⟨⟨⟨⟨⟨⟨⟨⟨⟨h1, h2⟩, h3⟩, h4⟩, h5⟩, h6⟩, h7⟩, h8⟩, h9⟩, h10⟩, h11⟩, h12⟩, h13⟩ := h
        exact ds_par (fun ta ha => ps_par g.calm (by rw [g.hN]; exact g.nd) (by rw [g.hN]; exact h1) (by rw [g.hN]; exact h2) h3 (by rw [g.hsc]; exact loc_of h4) (by rw [g.hsc]; exact loc_of h5) ha
          (sw_some2 hk (by rw [g.hsc]; exact h4) (by rw [g.hsc]; exact h5) h6 h7 h8 h9 h10 h11) rfl) (star_of h8) (star_of h9) (sndE a g h12).de (sndE b g h13).de
      · rw [Bool.and_eq_true, Bool.and_eq_true, Bool.and_eq_true, Bool.and_eq_true, Bool.and_eq_true, Bool.and_eq_true, Bool.and_eq_true, Bool.and_eq_true, decide_eq_true_eq, decide_eq_true_eq] at h
        obtain ⟨⟨⟨⟨⟨⟨⟨⟨h1, h2⟩, h3⟩, h4⟩, h5⟩, h6⟩, h7⟩, h8⟩, h9⟩ := h
        obtain ⟨l1, l2⟩ := loc_fn g h3
        obtain ⟨l3, l4⟩ := loc_fn g h4
        exact ds_parT (fun ta ha => ps_asg (pe_tup ha) (pg_tup g.calm (pgs_cons (pg_name (by rw [g.hN]; exact g.nd) (by rw [g.hN]; exact h1) l1 l2) (pgs_cons (pg_name (by rw [g.hN]; exact g.nd) (by rw [g.hN]; exact h2) l3 l4) pgs_nil)))
          (sw_false (l := pos.line) (e := .Tuple [e1, e2] k2 pt2) (tg := .Tuple [.Name x px, .Name y py] kt pt) rfl hk rfl) (sw_none2 (by rw [g.hsc]; exact h7)) rfl) (star_of h5) (star_of h6) (sndE a g h8).de (sndE b g h9).de
    · cases h
  | .par3 i j l a b c, s, g, h => by
    unfold chkS at h
    split at h
    · rename_i x px y py z pz kt pt e1 e2 e3 k2 pt2 pos
      simp only [Bool.and_eq_true, decide_eq_true_eq, Bool.not_eq_true'] at h
      obtain ⟨⟨⟨⟨⟨⟨⟨⟨⟨⟨⟨⟨⟨⟨⟨⟨⟨⟨⟨⟨⟨h1, h2⟩, h3⟩, h4⟩, h5⟩, h6⟩, h7⟩, h8⟩, h9⟩, h10⟩, h11⟩, h12⟩, h13⟩, h14⟩, h15⟩, h16⟩, h17⟩, h18⟩, h19⟩, h20⟩, h21⟩, h22⟩ := h
      have hk : X.env.scope.kind = .function := by rw [g.hsc]; exact g.knd
      exact ds_par3 (fun ta ha => ps_par3 g.calm (by rw [g.hN]; exact g.nd) (by rw [g.hN]; exact h1) (by rw [g.hN]; exact h2) (by rw [g.hN]; exact h3) h4 h5 h6 (by rw [g.hsc]; exact loc_of h7) (by rw [g.hsc]; exact loc_of h8) (by rw [g.hsc]; exact loc_of h9) ha
        (sw_some3 hk (by rw [g.hsc]; exact h7) (by rw [g.hsc]; exact h8) (by rw [g.hsc]; exact h9) h10 h11 h12 h13 h14 h15 h16 h17 h18 h19) rfl) (star_of h15) (star_of h16) (star_of h17) (sndE a g h20).de (sndE b g h21).de (sndE c g h22).de
    · cases h
  | .aug i o m, s, g, h => by
    unfold chkS at h
    split at h
    · simp only [Bool.and_eq_true, decide_eq_true_eq] at h
      obtain ⟨⟨⟨⟨h1, rfl⟩, h3⟩, h4⟩, h5⟩ := h
      obtain ⟨l1, l2⟩ := loc_fn g h4
      have ho : o = .add ∨ o = .sub := by
        cases o <;> first | exact .inl rfl | exact .inr rfl | cases h1
      exact ds_aug ho (fun te ti he hi => ps_aug (by rw [g.hN]; exact g.nd) (by rw [g.hN]; exact h3) l1 he hi l2) (sndE m g h5).de
    · cases h
  | .app i m, s, g, h => by
    unfold chkS at h
    split at h
    · rename_i x px nm ap e cp p
      simp only [Bool.and_eq_true, decide_eq_true_eq] at h
      obtain ⟨⟨⟨⟨⟨⟨rfl, h2⟩, h3⟩, h4⟩, h5⟩, h6⟩, h7⟩ := h
      refine ds_app (t := tC .non) (fun te he => pe_bm PySem.F.plainAttrs_list PySem.F.slot_list_append PySem.F.type_list_append mt_append (pe_var (by rw [g.hN]; exact h2) (by rw [g.hsc]; exact vis_of h3) (okNm_of h4).1 (okNm_of h4).2) (pa_cons he pa_nil (star_of h5)) rfl ?_ h6 (star_of h5) rfl) rfl (sndE m g h7).de
      rw [star_of h5]; rfl
    · cases h
  | .ext i m, s, g, h => by
    unfold chkS at h
    split at h
    · rename_i x px nm ap e cp p
      simp only [Bool.and_eq_true, decide_eq_true_eq] at h
      obtain ⟨⟨⟨⟨⟨⟨rfl, h2⟩, h3⟩, h4⟩, h5⟩, h6⟩, h7⟩ := h
      refine ds_ext (fun te he => pe_bm PySem.F.plainAttrs_list PySem.F.slot_list_extend PySem.F.type_list_extend mt_extT (pe_var (by rw [g.hN]; exact h2) (by rw [g.hsc]; exact vis_of h3) (okNm_of h4).1 (okNm_of h4).2) (pa_cons he pa_nil (star_of h5)) rfl ?_ h6 (star_of h5) rfl) rfl (sndE m g h7).de
      rw [star_of h5]; rfl
    · cases h
  | .rev i, s, g, h => by
    unfold chkS at h
    split at h
    · simp only [Bool.and_eq_true, decide_eq_true_eq] at h
      obtain ⟨⟨⟨⟨rfl, h2⟩, h3⟩, h4⟩, h6⟩ := h
      exact ds_rev (pe_bm0 PySem.F.plainAttrs_list PySem.F.slot_list_reverse PySem.F.type_list_reverse mt_reverse (pe_var (by rw [g.hN]; exact h2) (by rw [g.hsc]; exact vis_of h3) (okNm_of h4).1 (okNm_of h4).2) rfl h6) rfl
    · cases h
  | .sown i a m, s, g, h => by
    unfold chkS at h
    split at h
    · rename_i x px ix p2 e p
      simp only [Bool.and_eq_true, decide_eq_true_eq, Bool.not_eq_true'] at h
      obtain ⟨⟨⟨⟨⟨⟨⟨h1, h9⟩, h8⟩, h2⟩, h3⟩, h4⟩, h5⟩, h6⟩ := h
      refine ds_sown (o := ix) (fun te ti he hi => ps_asg he (pg_sub (pe_var (by rw [g.hN]; exact h4) (by rw [g.hsc]; exact vis_of h5) (okNm_of h6).1 (okNm_of h6).2) hi set_list ?_) (sw_false (tg := .Subscript (.Name x px) ix p2) (l := p.line) (env := X.env) h1 (by rw [g.hsc]; exact g.knd) (by cases e <;> first | rfl | cases h9)) (sw_none (by rfl)) rfl) (sndE m g h2).de (sndE a g h3).de
      intro v
      cases ix <;> first | rfl | cases h8
    · cases h
  | .pops t i, s, g, h => by
    unfold chkS at h
    split at h
    · simp only [Bool.and_eq_true, decide_eq_true_eq] at h
      obtain ⟨⟨⟨⟨⟨⟨h0, rfl⟩, h2⟩, h3⟩, h4⟩, h6⟩, h7⟩ := h
      refine ds_pops (fun gg hg => ps_asg (pe_bm0 PySem.F.plainAttrs_list PySem.F.slot_list_pop PySem.F.type_list_pop mt_pop (pe_var (by rw [g.hN]; exact h2) (by rw [g.hsc]; exact vis_of h3) (okNm_of h4).1 (okNm_of h4).2) rfl h6) hg rfl (sw_none ?_) (by rw [aseach_of h0]; rfl)) (sndT t g h7)
      simp [notTupE]
    · cases h
  | .ite c a b, s, g, h => by
    unfold chkS at h
    split at h
    · simp only [Bool.and_eq_true] at h
      exact ds_ite ((sndE c g h.1.1.1).dt h.1.1.2) (sndSs a g h.1.2) (sndSs b g h.2)
    · cases h
  | .forr t it b, s, g, h => by
    unfold chkS at h
    split at h
    · simp only [Bool.and_eq_true] at h
      exact ds_for (by rw [g.xe]; exact PassesOwn.never) g.calm (fold_of h.1.1.2) (sndI it _ g h.1.1.1) (sndT t g h.1.2) (sndSs b g h.2)
    · cases h
  | .whl n c b, s, g, h => by
    unfold chkS at h
    split at h
    · simp only [Bool.and_eq_true] at h
      exact ds_whl (by rw [g.xe]; exact PassesOwn.never) ((sndE c g h.1.1).dt h.1.2) (sndSs b g h.2)
    · cases h
  | .ret m, s, g, h => by
    unfold chkS at h
    split at h
    · exact ds_ret (sndE m g h).de
    · cases h
  | .reto i, s, g, h => by
    unfold chkS at h
    split at h
    · simp only [Bool.and_eq_true, decide_eq_true_eq] at h
      obtain ⟨⟨h2, h3⟩, h4⟩ := h
      exact ds_reto (by rw [g.hN]; exact h2) (by rw [g.hsc]; exact vis_of h3) (okNm_of h4).1 (okNm_of h4).2
    · cases h
  | .expr m, s, g, h => by
    unfold chkS at h
    split at h
    · rename_i e p
      simp only [Bool.and_eq_true] at h
      refine ds_expr ?_ (sndE m g h.2).de
      have := h.1
      cases e <;> first | rfl | cases this
    · cases h
  | .frz _, s, g, h => by
    unfold chkS at h
    cases h
theorem sndSs : ∀ (ms : MSs) {ss : List Stmt}, GX T N sc fp Φ G k X → chkSs T N sc fp ms ss = true → DSs X Φ G ss ms
  | .nil, ss, g, h => by
    unfold chkSs at h
    split at h
    · exact dss_nil
    · cases h
  | .cons m ms, ss, g, h => by
    unfold chkSs at h
    split at h
    · exact dss_frz (sndSs ms g h)
    · split at h
      · simp only [Bool.and_eq_true] at h
        exact dss_cons (sndS m g h.1) (sndSs ms g h.2)
      · cases h
end
end

structure Def where
  f : Nat
  x : Str
  st : Stmt
  N : List Str
  ps : List Str
  fd : FD

def Def.At (d : Def) (K : PySem.W.Frag) (mg : Str → Option Value) (fa : Addr) (fdt : FuncData) : Prop := Fun K d.x d.x d.st fa fdt ∧ Binds K fdt d.ps [] ∧ mg d.x = some (.ref fa)
structure Def.Ok (d : Def) (T : Tab) (PP : Nat → Option FD) : Prop where
  sc : FnScope d.N d.ps (defScope d.st)
  chk : chkSs T d.N (defScope d.st) (fun _ => true) d.fd.body (defBody d.st) = true
  np : d.fd.np = d.ps.length
  nn : d.fd.nn = d.N.length
  pp : PP d.f = some d.fd
theorem slots_start {K : PySem.W.Frag} {W : Wd} {ds : List D} {vs : List V} {N : List Str} (h : RepL K W ds vs) : SlotR K W (L2.start N vs) (ds.map Sl.val ++ List.replicate (N.length - ds.length) .no) := by
  have no : ∀ (i : Nat) (xs : List D), (ds.map Sl.val ++ List.replicate (N.length - ds.length) .no)[i]? ≠ some (.own xs) := fun i xs e => by
    by_cases hi : i < (ds.map Sl.val).length
    · rw [List.getElem?_append_left hi, List.getElem?_map] at e
      cases hd : ds[i]? with
      | none => rw [hd] at e; cases e
      | some d => rw [hd] at e; cases e
    · rw [List.getElem?_append_right (by omega), List.getElem?_replicate] at e
      split at e <;> cases e
  unfold L2.start
  refine ⟨by simp [h.length], fun i d e => ?_, fun i xs e => absurd e (no i xs), fun i j xs ys p e1 => absurd e1 (no i xs)⟩
  by_cases hi : i < (ds.map Sl.val).length
  · rw [List.getElem?_append_left hi, List.getElem?_map] at e
    cases hd : ds[i]? with
    | none => rw [hd] at e; cases e
    | some d' =>
      rw [hd] at e; cases e
      obtain ⟨v, h1, h2⟩ := h.get hd
      refine ⟨v, ?_, h2⟩
      rw [List.getElem?_append_left (by rw [List.length_map, h.length]; simpa using hi), List.getElem?_map, h1]; rfl
  · rw [List.getElem?_append_right (by omega), List.getElem?_replicate] at e
    split at e <;> cases e
theorem fns_ok {P : Program} {w : World} {K : PySem.W.Frag} {mg : Str → Option Value} {base : Heap} {T : Tab} {PP : Nat → Option FD} {G : List D} (bl : ∀ x, x ∈ T.bn → mg x = none) (gl : ∀ (j : Nat) (x : Str), (j, x) ∈ T.gl → ∃ d u, G[j]? = some d ∧ mg x = some u ∧ GOk K w d u)
    (fns : ∀ f x, (f, x) ∈ T.fnm → ∃ (d : Def) (fa : Addr) (fdt : FuncData), d.f = f ∧ d.x = x ∧ d.Ok T PP ∧ d.At K mg fa fdt) : ∀ (k : Nat) (d : Def) (fa : Addr) (fdt : FuncData), d.Ok T PP → d.At K mg fa fdt → FnG P w K mg base k fa fdt d.ps (spF K (runF PP G k) d.f)
  | 0, d, fa, fdt, ok, at' => ⟨fun vs H Q E h => (by
      obtain ⟨_, _, _, _, _, _, _, _, z, _⟩ := h
      cases (show (none : Option (Rt × Sto)) = some _ from z)), fun A outer s H args us vs Q E _ _ _ _ _ h => (by
      obtain ⟨_, _, _, _, _, _, _, _, z, _⟩ := h
      cases (show (none : Option (Rt × Sto)) = some _ from z))⟩
  | k + 1, d, fa, fdt, ok, at' => by
    have ih := fns_ok (P := P) (w := w) (base := base) bl gl fns k
    have unf : ∀ ds S r S', runF PP G (k + 1) d.f ds S = some (r, S') → ds.length = d.ps.length ∧ ((exs (runF PP G k) G d.fd.body (ds.map Sl.val ++ List.replicate (d.N.length - ds.length) .no) S = .rt r S') ∨ ∃ ρ', exs (runF PP G k) G d.fd.body (ds.map Sl.val ++ List.replicate (d.N.length - ds.length) .no) S = .nx ρ' S' ∧ r = .val .non) := fun ds S r S' h => by
      rw [runF, ok.pp] at h
      dsimp only at h
      split at h
      · rename_i hl
        rw [ok.nn] at h
        refine ⟨by rw [hl, ok.np], ?_⟩
        split at h
        · rename_i r1 S1 hr
          cases h; exact .inl hr
        · rename_i ρ1 S1 hr
          cases h; exact .inr ⟨ρ1, hr, rfl⟩
        · cases h
      · cases h
    refine fnG_of at'.1 ok.sc (fun vs H Q E h => ?_) fun cdv A outer s H vs Q E hA hr h => ?_
    · obtain ⟨W, S, ds, _, _, l, r, S', z, _⟩ := h
      rw [l.length]; exact (unf ds S r S' z).1
    · obtain ⟨W, S, ds, eH, rel, l, r, S', z, q⟩ := h
      have g : GX T d.N (defScope d.st) (fun _ => true) (runF PP G k) G k (cxOf CX0 P w K mg base d.N d.x (defScope d.st) fa cdv A outer s H E).nox := by
        refine ⟨rfl, rfl, ok.sc.nd, rfl, ok.sc.kind, rfl, rfl, hr, hA, bl, fun f x hf => ?_, gl⟩
        obtain ⟨d', fa', fdt', e1, e2, ok', at''⟩ := fns f x hf
        subst e1 e2
        exact ⟨fa', fdt', d'.ps, ih d' fa' fdt' ok' at'', at''.2.2, at''.1.kp, at''.2.1⟩
      refine ⟨_, sndSs d.fd.body g ok.chk, W, S, _, ⟨eH, rel, slots_start l⟩, ?_⟩
      have none' : ∀ p, ¬ ownA (L2.start d.N vs) (ds.map Sl.val ++ List.replicate (d.N.length - ds.length) .no) p := fun p ⟨i, xs, h1, h2⟩ => by
        by_cases hi : i < (ds.map Sl.val).length
        · rw [List.getElem?_append_left hi, List.getElem?_map] at h1
          cases hd : ds[i]? with
          | none => rw [hd] at h1; cases h1
          | some d => rw [hd] at h1; cases h1
        · rw [List.getElem?_append_right (by omega), List.getElem?_replicate] at h1
          split at h1 <;> cases h1
      rcases (unf ds S r S' z).2 with hx | ⟨ρ', hx, rfl⟩
      · show Out K W _ _ (exs (runF PP G k) G d.fd.body _ S) _
        rw [hx]
        intro W' v st rel' rp
        refine q W' v (st.ext none') rel' ?_
        cases r with
        | val d => exact rp
        | bor _ => exact rp.elim
        | ownd _ _ => exact rp.elim
        | own xs =>
          obtain ⟨p, us, f1, f2, f3, f4, f5, f6⟩ := rp
          exact ⟨p, us, f1, f2, f3, f4, f5.elim id fun y => (none' p y).elim, f6⟩
      · show Out K W _ _ (exs (runF PP G k) G d.fd.body _ S) _
        rw [hx]
        intro W' σ' st a' o'
        exact q W' .non (st.ext none') a'.rel non_repr

def spLaw (K : PySem.W.Frag) : Sp := fun vs H Q _ => ∃ (a : Addr) (ns : List Int), vs = [.ref a] ∧ ns.length ≤ 63 ∧ Only H ∧ SqL K H a (ns.map V.int) ∧ ∀ H', Q (.bl true) H'
theorem law_ok {K : PySem.W.Frag} {Φ : Fns} {f : Nat} (h : ∀ ns : List Int, ns.length ≤ 63 → ∃ S', Φ f [.scr (ns.map .int)] [] = some (.val (.bl true), S')) : ∀ vs H Q E, spLaw K vs H Q E → spF K Φ f vs H Q E := fun vs H Q E hs => by
  obtain ⟨a, ns, rfl, hl, hO, hS, q⟩ := hs
  obtain ⟨S', ev⟩ := h ns hl
  have fin : ∀ W : Wd, W.H = H → Rel K W [] → Rep K W (.scr (ns.map .int)) (.ref a) → spF K Φ f [.ref a] H Q E := fun W eH rel rp =>
    ⟨W, [], _, eH, rel, .cons rp .nil, _, S', ev, fun W' v e r p => by rw [repr_bl p]; exact q _⟩
  rcases hS with hR | hK
  · refine fin ⟨[], [a], H⟩ rfl ⟨rfl, .nil, fun l ds e => (by cases e), fun x _ => by simp, fun x hx => ?_⟩ ?_
    · have : x = a := by simpa using hx
      subst this
      show H x ≠ none
      rcases hR with z | ⟨o, z⟩ <;> (rw [z]; simp)
    · unfold Rep
      exact ⟨a, _, rfl, .inl ⟨List.mem_singleton.mpr rfl, hR⟩, RepL.ofInts ns⟩
  · refine fin ⟨[], [], H⟩ rfl ⟨rfl, .nil, fun l ds e => (by cases e), fun x _ => by simp, fun x hx => by simp at hx⟩ ?_
    unfold Rep
    exact ⟨a, _, rfl, .inr hK, RepL.ofInts ns⟩
end Mi
end
section
namespace Mi
open PySem PySem.Spec L2
mutual
def gVal (K : PySem.W.Frag) : D → Value → Bool
  | .non, u => match u with
    | .none => true
    | _ => false
  | .bl b, u => match u with
    | .bool c => b == c
    | _ => false
  | .int i, u => match u with
    | .int j _ => decide (i = j)
    | _ => false
  | .str x, u => match u with
    | .str y _ => decide (x = y)
    | _ => false
  | .tup ds, u => match u with
    | .ref a => match K.lookup a with
      | some ⟨.type c, _, .seq its _, _⟩ => decide (c = "tuple") && decide (its.size ≤ 16777216) && gVals K ds its.toList
      | _ => false
    | _ => false
  | .lst _, _ => false
  | .scr _, _ => false
  | .ref _, _ => false
  | .dct _ _, _ => false
def gVals (K : PySem.W.Frag) : List D → List Value → Bool
  | [], us => match us with
    | [] => true
    | _ :: _ => false
  | d :: ds, us => match us with
    | u :: us => gVal K d u && gVals K ds us
    | [] => false
end
mutual
theorem gVal_ok {K : PySem.W.Frag} : ∀ (d : D) (u : Value), gVal K d u = true → ∃ v, RelV v u ∧ ∀ W, Rep K W d v
  | .non, u, h => by
    unfold gVal at h
    split at h
    · exact ⟨.non, rfl, fun W => by unfold Rep; rfl⟩
    · cases h
  | .bl b, u, h => by
    unfold gVal at h
    split at h
    · have e := eq_of_beq h
      subst e
      exact ⟨.bl b, rfl, fun W => by unfold Rep; rfl⟩
    · cases h
  | .int i, u, h => by
    unfold gVal at h
    split at h
    · have e := of_decide_eq_true h
      subst e
      exact ⟨.int i, ⟨_, rfl⟩, fun W => by unfold Rep; rfl⟩
    · cases h
  | .str x, u, h => by
    unfold gVal at h
    split at h
    · have e := of_decide_eq_true h
      subst e
      exact ⟨.str x, ⟨_, rfl⟩, fun W => by unfold Rep; rfl⟩
    · cases h
  | .tup ds, u, h => by
    unfold gVal at h
    split at h
    · rename_i a
      split at h
      · rename_i c od its n sl q
        simp only [Bool.and_eq_true, decide_eq_true_eq] at h
        obtain ⟨⟨rfl, h2⟩, h3⟩ := h
        obtain ⟨vs, r, hv⟩ := gVals_ok ds _ h3
        refine ⟨.ref a, rfl, fun W => ?_⟩
        unfold Rep
        exact ⟨a, vs, rfl, .inr ⟨_, its, n, q, rfl, rfl, h2, r⟩, hv W⟩
      · cases h
    · cases h
  | .lst _, u, h => by unfold gVal at h; cases h
  | .scr _, u, h => by unfold gVal at h; cases h
  | .ref _, u, h => by unfold gVal at h; cases h
  | .dct _ _, u, h => by unfold gVal at h; cases h
theorem gVals_ok {K : PySem.W.Frag} : ∀ (ds : List D) (us : List Value), gVals K ds us = true → ∃ vs, Vals vs us ∧ ∀ W, RepL K W ds vs
  | [], us, h => by
    unfold gVals at h
    split at h
    · exact ⟨[], .nil, fun W => .nil⟩
    · cases h
  | d :: ds, us, h => by
    unfold gVals at h
    split at h
    · rw [Bool.and_eq_true] at h
      obtain ⟨v, r1, h1⟩ := gVal_ok d _ h.1
      obtain ⟨vs, r2, h2⟩ := gVals_ok ds _ h.2
      exact ⟨v :: vs, .cons r1 r2, fun W => .cons (h1 W) (h2 W)⟩
    · cases h
end
def gEnt (K : PySem.W.Frag) : List DictEntry → List Key → List D → Bool
  | [], [], [] => true
  | e :: es, .inr k :: ks, d :: ds => e.key.isStr k && gVal K d e.val && gEnt K es ks ds
  | _, _, _ => false
def gDic (K : PySem.W.Frag) (a : Addr) (ks : List Key) (ds : List D) : Bool := match K.lookup a with
  | some ⟨_, _, .dict es _, _⟩ => gEnt K es.toList ks ds
  | _ => false
theorem isStr_two {v : Value} {k z : Str} (h : v.isStr k = true) : v.isStr z = decide (k = z) ∧ ∀ a, v ≠ .ref a := by
  cases v with
  | str x t =>
    have e : x = k := eq_of_beq (show (x == k) = true from h)
    subst e
    refine ⟨?_, fun a z => (nomatch z)⟩
    show (x == z) = _
    by_cases q : x = z
    · subst q; simp
    · rw [decide_eq_false q]; exact beq_eq_false_iff_ne.mpr q
  | _ => cases h
theorem gEnt_ok {K : PySem.W.Frag} (z : Str) : ∀ {es : List DictEntry} {ks : List Key} {ds : List D}, gEnt K es ks ds = true →
    (∀ d, valD ks ds (.inr z) = some d → ∃ e, es.find? (·.key.isStr z) = some e ∧ gVal K d e.val = true) ∧ (valD ks ds (.inr z) = none → es.find? (·.key.isStr z) = none) ∧ es.any (·.refKey) = false
  | [], [], [], _ => ⟨(fun d h => by cases h), fun _ => rfl, rfl⟩
  | e :: es, .inr k :: ks, d :: ds, h => by
    unfold gEnt at h
    simp only [Bool.and_eq_true] at h
    obtain ⟨⟨h1, h2⟩, h3⟩ := h
    obtain ⟨i1, i2, i3⟩ := gEnt_ok z h3
    obtain ⟨s1, s2⟩ := isStr_two (z := z) h1
    have rk : e.refKey = false := by
      unfold DictEntry.refKey
      split
      · rename_i b q; exact absurd q (s2 b)
      · rfl
    have hi : ((Sum.inr k : Key) = .inr z) ↔ k = z := by simp
    refine ⟨fun d' hd => ?_, fun hd => ?_, ?_⟩
    · unfold valD at hd
      rw [List.find?_cons, s1]
      by_cases q : k = z
      · rw [if_pos (hi.mpr q)] at hd
        cases hd
        rw [decide_eq_true q]
        exact ⟨e, rfl, h2⟩
      · rw [if_neg (fun y => q (hi.mp y))] at hd
        rw [decide_eq_false q]
        exact i1 d' hd
    · unfold valD at hd
      rw [List.find?_cons, s1]
      by_cases q : k = z
      · rw [if_pos (hi.mpr q)] at hd
        cases hd
      · rw [if_neg (fun y => q (hi.mp y))] at hd
        rw [decide_eq_false q]
        exact i2 hd
    · rw [List.any_cons, rk, i3]; rfl
  | [], _ :: _, _, h => by unfold gEnt at h; cases h
  | [], [], _ :: _, h => by unfold gEnt at h; cases h
  | _ :: _, [], _, h => by unfold gEnt at h; cases h
  | _ :: _, .inl _ :: _, _, h => by unfold gEnt at h; cases h
  | _ :: _, .inr _ :: _, [], h => by unfold gEnt at h; cases h
theorem gDic_ok {K : PySem.W.Frag} {w : World} {a : Addr} {sk : List Str} {ks : List Key} {ds : List D} (h1 : He.dicW K a = some (He.keysIn w.params sk)) (h2 : gDic K a ks ds = true) : GDict K w a ks ds := by
  obtain ⟨es, n, kd⟩ := He.dicW_ok h1
  refine ⟨es, n, kd, fun z => ?_⟩
  have h3 : gEnt K es.toList ks ds = true := by
    unfold gDic at h2
    rw [kd.at_] at h2
    exact h2
  obtain ⟨i1, i2, i3⟩ := gEnt_ok z h3
  refine ⟨fun d hd => ?_, fun hd => ?_⟩
  · obtain ⟨e, e1, e2⟩ := i1 d hd
    obtain ⟨v, r, hv⟩ := gVal_ok d _ e2
    refine ⟨e.val, v, ?_, r, hv⟩
    unfold PySem.W.nsIn
    rw [kd.at_]
    dsimp only
    rw [e1]
  · unfold PySem.W.nsIn
    rw [kd.at_]
    dsimp only
    rw [i2 hd, i3]
    rfl
theorem gOk_val {K : PySem.W.Frag} {w : World} {d : D} {u : Value} (h : gVal K d u = true) (hd : d.dct? = none) : GOk K w d u := .inl ⟨hd, gVal_ok d u h⟩
theorem gOk_dct {K : PySem.W.Frag} {w : World} {a : Addr} {sk : List Str} {ks : List Key} {ds : List D} (h1 : He.dicW K a = some (He.keysIn w.params sk)) (h2 : gDic K a ks ds = true) : GOk K w (.dct ks ds) (.ref a) := .inr ⟨a, ks, ds, rfl, rfl, gDic_ok h1 h2⟩
end Mi
end
section
namespace Mi
open PySem L2

section
variable (Φ : Fns) (G : List D)
def wE (ρ : Env) (m : ME) (S : Sto) (Q : Rt → Sto → Prop) : Prop := ∃ r S', evR Φ G ρ m S = some (r, S') ∧ Q r S'
def wEs (ρ : Env) (m : MEs) (S : Sto) (Q : List D → Sto → Prop) : Prop := ∃ r S', evs Φ G ρ m S = some (r, S') ∧ Q r S'
def wRs (ρ : Env) (m : MEs) (S : Sto) (Q : List Rt → Sto → Prop) : Prop := ∃ r S', evRs Φ G ρ m S = some (r, S') ∧ Q r S'
def wO (ρ : Env) (m : MO) (S : Sto) (Q : Option Int → Sto → Prop) : Prop := ∃ r S', evO Φ G ρ m S = some (r, S') ∧ Q r S'
def wC (ρ : Env) (m : MO) (S : Sto) (Q : Bool → Sto → Prop) : Prop := ∃ r S', evC Φ G ρ m S = some (r, S') ∧ Q r S'
def wI (ρ : Env) (z : Bool) (m : MI) (S : Sto) (Q : List D → Sto → Prop) : Prop := ∃ r S', evI Φ G ρ z m S = some (r, S') ∧ Q r S'
def wT (t : MT) (d : D) (ρ : Env) (S : Sto) (Q : Env → Sto → Prop) : Prop := ∃ r S', sto Φ G t d ρ S = some (r, S') ∧ Q r S'
def wTs (t : MTs) (d : List D) (ρ : Env) (S : Sto) (Q : Env → Sto → Prop) : Prop := ∃ r S', stos Φ G t d ρ S = some (r, S') ∧ Q r S'
def wF (f : Nat) (ds : List D) (S : Sto) (Q : Rt → Sto → Prop) : Prop := ∃ r S', Φ f ds S = some (r, S') ∧ Q r S'
def wR (r : SR) (N : Env → Sto → Prop) (R : Rt → Sto → Prop) : Prop := match r with
  | .nx ρ S => N ρ S
  | .rt r S => R r S
  | .er => False
@[irreducible] def wS (m : MS) (ρ : Env) (S : Sto) (N : Env → Sto → Prop) (R : Rt → Sto → Prop) : Prop := wR (ex Φ G m ρ S) N R
@[irreducible] def wSs (m : MSs) (ρ : Env) (S : Sto) (N : Env → Sto → Prop) (R : Rt → Sto → Prop) : Prop := wR (exs Φ G m ρ S) N R

def wTn (t : MT) (c : MO) (e : ME) (ρ : Env) (d : D) (S : Sto) (Q : Option D → Sto → Prop) : Prop := wT Φ G t d ρ S fun ρ1 S1 => wC Φ G ρ1 c S1 fun b S2 => if b = true then wE Φ G ρ1 e S2 (fun r S3 => ∃ y, r.d = some y ∧ Q (some y) S3) else Q none S2
def wL (t : MT) (c : MO) (e : ME) (ρ : Env) (ds : List D) (S : Sto) (Q : List D → Sto → Prop) : Prop := ∃ xs S', cmpL (fun d S => (sto Φ G t d ρ S).bind fun q => (evC Φ G q.1 c q.2).bind fun r =>
        if r.1 then (evR Φ G q.1 e r.2).bind fun z => (z.1.d).map fun y => (some y, z.2) else some (none, r.2)) ds S = some (xs, S') ∧ Q xs S'

def wFor (t : MT) (b : MSs) (ds : List D) (ρ : Env) (S : Sto) (N : Env → Sto → Prop) (R : Rt → Sto → Prop) : Prop := wR (forL (fun d ρ S => sto Φ G t d ρ S) (fun ρ S => exs Φ G b ρ S) ds ρ S) N R
end
section
variable {Φ : Fns} {G : List D} {ρ : Env} {S : Sto} {Q : Rt → Sto → Prop} {Qs : List D → Sto → Prop} {N : Env → Sto → Prop} {R : Rt → Sto → Prop}
theorem ex_bind {α β : Type} {o : Option (α × Sto)} {f : α × Sto → Option (β × Sto)} {Q : β → Sto → Prop} : (∃ r S', o.bind f = some (r, S') ∧ Q r S') ↔ ∃ x S1, o = some (x, S1) ∧ ∃ r S', f (x, S1) = some (r, S') ∧ Q r S' := by
  cases o with
  | none => simp
  | some p =>
    obtain ⟨x, S1⟩ := p
    constructor
    · rintro ⟨r, S', e, q⟩; exact ⟨x, S1, rfl, r, S', e, q⟩
    · rintro ⟨y, S2, e, h⟩; cases e; exact h
theorem ex_one {α : Type} {x : α} {S : Sto} {Q : α → Sto → Prop} : (∃ r S', some (x, S) = some (r, S') ∧ Q r S') ↔ Q x S := by
  constructor
  · rintro ⟨r, S', e, q⟩; cases e; exact q
  · intro q; exact ⟨x, S, rfl, q⟩
theorem wE_mono {m : ME} {Q Q' : Rt → Sto → Prop} (h : wE Φ G ρ m S Q) (i : ∀ r S, Q r S → Q' r S) : wE Φ G ρ m S Q' := by
  obtain ⟨r, S', e, q⟩ := h; exact ⟨r, S', e, i _ _ q⟩
theorem wE_var {i : Nat} : wE Φ G ρ (.var i) S Q ↔ ∃ d, ρ[i]? = some (.val d) ∧ Q (.val d) S := by
  unfold wE evR
  constructor
  · rintro ⟨r, S', e, q⟩
    split at e
    · rename_i d h; cases e; exact ⟨d, h, q⟩
    · cases e
  · rintro ⟨d, h, q⟩
    rw [h]; exact ⟨_, _, rfl, q⟩
theorem wE_bor {i : Nat} : wE Φ G ρ (.bor i) S Q ↔ ∃ d, ρ[i]? = some (.own d) ∧ Q (.bor d) S := by
  unfold wE evR
  constructor
  · rintro ⟨r, S', e, q⟩
    split at e
    · rename_i d h; cases e; exact ⟨d, h, q⟩
    · cases e
  · rintro ⟨d, h, q⟩
    rw [h]; exact ⟨_, _, rfl, q⟩
theorem wE_con {d : D} : wE Φ G ρ (.con d) S Q ↔ Q (.val d) S := by
  unfold wE evR
  constructor
  · rintro ⟨r, S', e, q⟩; cases e; exact q
  · intro q; exact ⟨_, _, rfl, q⟩
theorem wE_glb {j : Nat} : wE Φ G ρ (.glb j) S Q ↔ ∃ d, G[j]? = some d ∧ d.dct? = none ∧ Q (.val d) S := by
  unfold wE
  rw [evR]
  constructor
  · rintro ⟨r, S', e, q⟩
    obtain ⟨d, h, e⟩ := Mi.bind_some e
    split at e
    · cases e
    · rename_i hd
      cases e
      exact ⟨d, h, by simpa using hd, q⟩
  · rintro ⟨d, h, hd, q⟩
    refine ⟨_, _, ?_, q⟩
    rw [h, Option.bind_some, hd]; rfl
theorem wE_bin {o : BOp} {a b : ME} : wE Φ G ρ (.bin o a b) S Q ↔ wE Φ G ρ a S fun x S1 => wE Φ G ρ b S1 fun y S2 => ∃ r, binop S2 o x y = some r ∧ Q r S2 := by
  unfold wE
  rw [evR]
  simp only [ex_bind]
  constructor
  · rintro ⟨x, S1, e1, y, S2, e2, r, S', e, q⟩
    obtain ⟨z, h, e⟩ := map_some e
    cases e; exact ⟨x, S1, e1, y, _, e2, _, h, q⟩
  · rintro ⟨x, S1, e1, y, S2, e2, r, h, q⟩
    exact ⟨x, S1, e1, y, S2, e2, r, S2, by rw [h]; rfl, q⟩
theorem wE_cmp {o : COp} {a b : ME} : wE Φ G ρ (.cmp o a b) S Q ↔ wE Φ G ρ a S fun x S1 => wE Φ G ρ b S1 fun y S2 => ∃ r, cmpop S2 o x y = some r ∧ Q (.val (.bl r)) S2 := by
  unfold wE
  rw [evR]
  simp only [ex_bind]
  constructor
  · rintro ⟨x, S1, e1, y, S2, e2, r, S', e, q⟩
    obtain ⟨z, h, e⟩ := map_some e
    cases e; exact ⟨x, S1, e1, y, _, e2, _, h, q⟩
  · rintro ⟨x, S1, e1, y, S2, e2, r, h, q⟩
    exact ⟨x, S1, e1, y, S2, e2, _, S2, by rw [h]; rfl, q⟩
theorem wE_idx {a b : ME} : wE Φ G ρ (.idx a b) S Q ↔ wE Φ G ρ a S fun x S1 => wE Φ G ρ b S1 fun y S2 => ∃ r, index S2 x y = some r ∧ Q (.val r) S2 := by
  unfold wE
  rw [evR]
  simp only [ex_bind]
  constructor
  · rintro ⟨x, S1, e1, y, S2, e2, r, S', e, q⟩
    obtain ⟨z, h, e⟩ := map_some e
    cases e; exact ⟨x, S1, e1, y, _, e2, _, h, q⟩
  · rintro ⟨x, S1, e1, y, S2, e2, r, h, q⟩
    exact ⟨x, S1, e1, y, S2, e2, _, S2, by rw [h]; rfl, q⟩
theorem wE_neg {a : ME} : wE Φ G ρ (.neg a) S Q ↔ wE Φ G ρ a S fun x S1 => ∃ i, x = .val (.int i) ∧ Q (.val (.int (-i))) S1 := by
  unfold wE
  rw [evR]
  simp only [ex_bind]
  constructor
  · rintro ⟨x, S1, e1, r, S', e, q⟩
    (try dsimp only at e)
    split at e
    · cases e; exact ⟨_, S1, e1, _, rfl, q⟩
    · cases e
  · rintro ⟨x, S1, e1, i, rfl, q⟩
    exact ⟨_, S1, e1, _, _, rfl, q⟩
theorem wE_not {a : ME} : wE Φ G ρ (.not a) S Q ↔ wE Φ G ρ a S fun x S1 => ∃ i, x = .val (.bl i) ∧ Q (.val (.bl (!i))) S1 := by
  unfold wE
  rw [evR]
  simp only [ex_bind]
  constructor
  · rintro ⟨x, S1, e1, r, S', e, q⟩
    (try dsimp only at e)
    split at e
    · cases e; exact ⟨_, S1, e1, _, rfl, q⟩
    · cases e
  · rintro ⟨x, S1, e1, i, rfl, q⟩
    exact ⟨_, S1, e1, _, _, rfl, q⟩
theorem wE_and {a b : ME} : wE Φ G ρ (.and a b) S Q ↔ wE Φ G ρ a S fun x S1 => ∃ i, x = .val (.bl i) ∧ if i = true then wE Φ G ρ b S1 Q else Q (.val (.bl false)) S1 := by
  unfold wE
  rw [evR]
  simp only [ex_bind]
  constructor
  · rintro ⟨x, S1, e1, r, S', e, q⟩
    (try dsimp only at e)
    split at e
    · exact ⟨_, S1, e1, true, rfl, by rw [if_pos rfl]; exact ⟨_, _, e, q⟩⟩
    · cases e; exact ⟨_, S1, e1, false, rfl, by rw [if_neg (by decide)]; exact q⟩
    · cases e
  · rintro ⟨x, S1, e1, i, rfl, q⟩
    cases i with
    | true => rw [if_pos rfl] at q; obtain ⟨r, S', e, q⟩ := q; exact ⟨_, S1, e1, r, S', e, q⟩
    | false => rw [if_neg (by decide)] at q; exact ⟨_, S1, e1, _, _, rfl, q⟩
theorem wE_or {a b : ME} : wE Φ G ρ (.or a b) S Q ↔ wE Φ G ρ a S fun x S1 => ∃ i, x = .val (.bl i) ∧ if i = true then Q (.val (.bl true)) S1 else wE Φ G ρ b S1 Q := by
  unfold wE
  rw [evR]
  simp only [ex_bind]
  constructor
  · rintro ⟨x, S1, e1, r, S', e, q⟩
    (try dsimp only at e)
    split at e
    · cases e; exact ⟨_, S1, e1, true, rfl, by rw [if_pos rfl]; exact q⟩
    · exact ⟨_, S1, e1, false, rfl, by rw [if_neg (by decide)]; exact ⟨_, _, e, q⟩⟩
    · cases e
  · rintro ⟨x, S1, e1, i, rfl, q⟩
    cases i with
    | false => rw [if_neg (by decide)] at q; obtain ⟨r, S', e, q⟩ := q; exact ⟨_, S1, e1, r, S', e, q⟩
    | true => rw [if_pos rfl] at q; exact ⟨_, S1, e1, _, _, rfl, q⟩
theorem wE_ite {c a b : ME} : wE Φ G ρ (.ite c a b) S Q ↔ wE Φ G ρ c S fun x S1 => ∃ i, x = .val (.bl i) ∧ if i = true then wE Φ G ρ a S1 Q else wE Φ G ρ b S1 Q := by
  unfold wE
  rw [evR]
  simp only [ex_bind]
  constructor
  · rintro ⟨x, S1, e1, r, S', e, q⟩
    (try dsimp only at e)
    split at e
    · exact ⟨_, S1, e1, true, rfl, by rw [if_pos rfl]; exact ⟨_, _, e, q⟩⟩
    · exact ⟨_, S1, e1, false, rfl, by rw [if_neg (by decide)]; exact ⟨_, _, e, q⟩⟩
    · cases e
  · rintro ⟨x, S1, e1, i, rfl, q⟩
    cases i with
    | false => rw [if_neg (by decide)] at q; obtain ⟨r, S', e, q⟩ := q; exact ⟨_, S1, e1, r, S', e, q⟩
    | true => rw [if_pos rfl] at q; obtain ⟨r, S', e, q⟩ := q; exact ⟨_, S1, e1, r, S', e, q⟩
theorem wE_chn {o o' : COp} {a b c : ME} : wE Φ G ρ (.chn o o' a b c) S Q ↔ wE Φ G ρ a S fun x S1 => wE Φ G ρ b S1 fun y S2 => ∃ i, cmpop S2 o x y = some i ∧ if i = true then wE Φ G ρ c S2 fun z S3 => ∃ r, cmpop S3 o' y z = some r ∧ Q (.val (.bl r)) S3 else Q (.val (.bl false)) S2 := by
  unfold wE
  rw [evR]
  simp only [ex_bind]
  constructor
  · rintro ⟨x, S1, e1, y, S2, e2, r, S', e, q⟩
    obtain ⟨i, hi, e⟩ := Mi.bind_some e
    refine ⟨x, S1, e1, y, S2, e2, i, hi, ?_⟩
    cases i with
    | false => cases e; rw [if_neg (by decide)]; exact q
    | true =>
      rw [if_pos rfl]
      obtain ⟨⟨z, S3⟩, e3, e⟩ := Mi.bind_some e
      obtain ⟨r', h, e⟩ := map_some e
      cases e
      exact ⟨z, _, e3, _, h, q⟩
  · rintro ⟨x, S1, e1, y, S2, e2, i, hi, q⟩
    refine ⟨x, S1, e1, y, S2, e2, ?_⟩
    (try dsimp only)
    rw [hi, Option.bind_some]
    cases i with
    | false => rw [if_neg (by decide)] at q; exact ⟨_, _, rfl, q⟩
    | true =>
      rw [if_pos rfl] at q
      obtain ⟨z, S3, e3, r, h, q⟩ := q
      (try dsimp only)
      rw [e3, Option.bind_some]
      exact ⟨_, _, by rw [h]; rfl, q⟩
theorem wE_tup {es : MEs} : wE Φ G ρ (.tup es) S Q ↔ wEs Φ G ρ es S fun ds S1 => ds.length ≤ sizeLine ∧ Q (.val (.tup ds)) S1 := by
  unfold wE wEs
  rw [evR]
  simp only [ex_bind]
  constructor
  · rintro ⟨x, S1, e1, r, S', e, q⟩
    (try dsimp only at e)
    split at e
    · cases e; exact ⟨_, S1, e1, by assumption, q⟩
    · cases e
  · rintro ⟨x, S1, e1, h, q⟩
    exact ⟨_, S1, e1, _, _, by (try dsimp only); rw [if_pos h], q⟩
theorem wE_lst {es : MEs} : wE Φ G ρ (.lst es) S Q ↔ wEs Φ G ρ es S fun ds S1 => ds.length ≤ sizeLine ∧ Q (.own ds) S1 := by
  unfold wE wEs
  rw [evR]
  simp only [ex_bind]
  constructor
  · rintro ⟨x, S1, e1, r, S', e, q⟩
    (try dsimp only at e)
    split at e
    · cases e; exact ⟨_, S1, e1, by assumption, q⟩
    · cases e
  · rintro ⟨x, S1, e1, h, q⟩
    exact ⟨_, S1, e1, _, _, by (try dsimp only); rw [if_pos h], q⟩
theorem wE_slc {a : ME} {lo hi : MO} : wE Φ G ρ (.slc a lo hi) S Q ↔ wE Φ G ρ a S fun x S1 => wO Φ G ρ lo S1 fun l S2 => wO Φ G ρ hi S2 fun h S3 => ∃ r, slice S3 x l h = some r ∧ Q r S3 := by
  unfold wE wO
  rw [evR]
  simp only [ex_bind]
  constructor
  · rintro ⟨x, S1, e1, y, S2, e2, z, S3, e3, r, S', e, q⟩
    obtain ⟨t, h, e⟩ := map_some e
    cases e; exact ⟨x, S1, e1, y, S2, e2, z, _, e3, _, h, q⟩
  · rintro ⟨x, S1, e1, y, S2, e2, z, S3, e3, r, h, q⟩
    exact ⟨x, S1, e1, y, S2, e2, z, S3, e3, _, S3, by rw [h]; rfl, q⟩
theorem wE_call {f : Nat} {es : MEs} : wE Φ G ρ (.call f es) S Q ↔ wEs Φ G ρ es S fun ds S1 => wF Φ f ds S1 Q := by
  unfold wE wEs wF
  rw [evR]
  simp only [ex_bind]
theorem wE_callp {f : Nat} {es : MEs} : wE Φ G ρ (.callp f es) S Q ↔ wRs Φ G ρ es S fun rs S1 => ∃ ds, lends rs = some ds ∧ noRefs ds = true ∧ wF Φ f ds [] fun r _ => ∃ d, r = .val d ∧ flatD d = true ∧ Q (.val d) S1 := by
  unfold wE wRs wF
  rw [evR]
  simp only [ex_bind]
  constructor
  · rintro ⟨x, S1, e1, r, S', e, q⟩
    obtain ⟨ds, hd, e⟩ := Mi.bind_some e
    (try dsimp only at e)
    split at e
    · rename_i hn
      obtain ⟨⟨z, S2⟩, e2, e⟩ := Mi.bind_some e
      obtain ⟨d, hz, e⟩ := Mi.bind_some e
      split at e
      · rename_i hf
        cases e
        refine ⟨x, _, e1, ds, hd, hn, z, S2, e2, d, ?_, hf, q⟩
        cases z with
        | val d' => cases hz; rfl
        | own _ => cases hz
        | bor _ => cases hz
        | ownd _ _ => cases hz
      · cases e
    · cases e
  · rintro ⟨x, S1, e1, ds, hd, hn, z, S2, e2, d, rfl, hf, q⟩
    refine ⟨x, S1, e1, _, S1, ?_, q⟩
    (try dsimp only)
    rw [hd, Option.bind_some, if_pos hn, e2]
    show (if flatD d = true then _ else _) = _
    rw [if_pos hf]
theorem lends_nil : lends [] = some [] := rfl
theorem lends_v {d : D} {rs : List Rt} : lends (.val d :: rs) = (lends rs).map fun ds => d :: ds := rfl
theorem lends_o {d : List D} {rs : List Rt} : lends (.own d :: rs) = (lends rs).map fun ds => .lst d :: ds := rfl
theorem lends_b {d : List D} {rs : List Rt} : lends (.bor d :: rs) = (lends rs).map fun ds => .lst d :: ds := rfl
theorem wE_bi {b : BI} {es : MEs} : wE Φ G ρ (.bi b es) S Q ↔ wRs Φ G ρ es S fun rs S1 => ∃ r, biop S1 b rs = some r ∧ Q r S1 := by
  unfold wE wRs
  rw [evR]
  simp only [ex_bind]
  constructor
  · rintro ⟨x, S1, e1, r, S', e, q⟩
    obtain ⟨t, h, e⟩ := map_some e
    cases e; exact ⟨x, _, e1, _, h, q⟩
  · rintro ⟨x, S1, e1, r, h, q⟩
    exact ⟨x, S1, e1, _, S1, by rw [h]; rfl, q⟩
theorem wE_comp {own : List Nat} {t : MT} {it : MI} {c : MO} {e : ME} : wE Φ G ρ (.comp own t it c e) S Q ↔ wI Φ G ρ true it S fun ds S1 => wL Φ G t c e (wipeR ρ own) ds S1 fun xs S2 => xs.length ≤ sizeLine ∧ Q (.own xs) S2 := by
  unfold wE wI wL
  rw [evR]
  simp only [ex_bind]
  constructor
  · rintro ⟨x, S1, e1, y, S2, e2, r, S', e, q⟩
    (try dsimp only at e)
    split at e
    · cases e; exact ⟨x, S1, e1, y, S2, e2, by assumption, q⟩
    · cases e
  · rintro ⟨x, S1, e1, y, S2, e2, h, q⟩
    exact ⟨x, S1, e1, y, S2, e2, _, _, by (try dsimp only); rw [if_pos h], q⟩
def newC : Rt → Option Cell
  | .own ds => some (.lst ds)
  | .ownd ks ds => some (.dct ks ds)
  | _ => none
theorem newC_own {ds : List D} : newC (.own ds) = some (.lst ds) := rfl
theorem newC_ownd {ks : List Key} {ds : List D} : newC (.ownd ks ds) = some (.dct ks ds) := rfl
theorem wE_new {e : ME} : wE Φ G ρ (.new e) S Q ↔ wE Φ G ρ e S fun x S1 => ∃ c, newC x = some c ∧ Q (.val (.ref S1.length)) (S1 ++ [c]) := by
  unfold wE
  rw [evR]
  simp only [ex_bind]
  constructor
  · rintro ⟨x, S1, e1, r, S', e, q⟩
    (try dsimp only at e)
    split at e
    · cases e; exact ⟨_, S1, e1, _, rfl, q⟩
    · cases e; exact ⟨_, S1, e1, _, rfl, q⟩
    · cases e
  · rintro ⟨x, S1, e1, c, h, q⟩
    cases x with
    | own ds => cases h; exact ⟨_, S1, e1, _, _, rfl, q⟩
    | ownd ks ds => cases h; exact ⟨_, S1, e1, _, _, rfl, q⟩
    | val _ => cases h
    | bor _ => cases h
theorem wE_o1 {p : P1} {a : ME} : wE Φ G ρ (.o1 p a) S Q ↔ wE Φ G ρ a S fun x S1 => ∃ r S', p.run G S1 x = some (r, S') ∧ Q r S' := by
  unfold wE
  rw [evR, ex_bind]
theorem wE_o2 {p : P2} {a b : ME} : wE Φ G ρ (.o2 p a b) S Q ↔ wE Φ G ρ a S fun x S1 => p.pre S1 x = true ∧ wE Φ G ρ b S1 fun y S2 => ∃ r S', p.run G S2 x y = some (r, S') ∧ Q r S' := by
  unfold wE
  rw [evR, ex_bind]
  constructor
  · rintro ⟨x, S1, e1, r, S', e, q⟩
    refine ⟨x, S1, e1, ?_⟩
    dsimp only at e
    split at e
    · rename_i hp
      obtain ⟨⟨y, S2⟩, e2, e⟩ := Mi.bind_some e
      exact ⟨hp, y, S2, e2, r, S', e, q⟩
    · cases e
  · rintro ⟨x, S1, e1, hp, y, S2, e2, r, S', e, q⟩
    refine ⟨x, S1, e1, r, S', ?_, q⟩
    dsimp only
    rw [if_pos hp, e2]; exact e
theorem wE_o3 {p : P3} {a b c : ME} : wE Φ G ρ (.o3 p a b c) S Q ↔ wE Φ G ρ a S fun x S1 => wE Φ G ρ b S1 fun y S2 => wE Φ G ρ c S2 fun z S3 => ∃ r S', p.run S3 x y z = some (r, S') ∧ Q r S' := by
  unfold wE
  rw [evR, ex_bind]
  simp only [ex_bind]
theorem ex_pure {α β : Type} {o : Option α} {f : α → Option (β × Sto)} {Q : β → Sto → Prop} : (∃ r S', o.bind f = some (r, S') ∧ Q r S') ↔ ∃ x, o = some x ∧ ∃ r S', f x = some (r, S') ∧ Q r S' := by
  cases o with
  | none => exact ⟨fun ⟨_, _, e, _⟩ => (nomatch e), fun ⟨_, e, _⟩ => nomatch e⟩
  | some x => exact ⟨fun h => ⟨x, rfl, h⟩, fun ⟨y, e, h⟩ => by cases e; exact h⟩
theorem ex_mapP {α β : Type} {o : Option α} {f : α → β × Sto} {Q : β → Sto → Prop} : (∃ r S', o.map f = some (r, S') ∧ Q r S') ↔ ∃ x, o = some x ∧ Q (f x).1 (f x).2 := by
  cases o with
  | none => exact ⟨fun ⟨_, _, e, _⟩ => (nomatch e), fun ⟨_, e, _⟩ => nomatch e⟩
  | some x => exact ⟨fun ⟨r, S', e, q⟩ => ⟨x, rfl, by rw [Option.some.inj e]; exact q⟩, fun ⟨y, e, h⟩ => by cases e; exact ⟨_, _, rfl, h⟩⟩
theorem wE_dct {ks : List Key} {es : MEs} : wE Φ G ρ (.dct ks es) S Q ↔ wEs Φ G ρ es S fun ds S1 => (ds.length = ks.length ∧ ks.Nodup ∧ ks.length ≤ 15) ∧ Q (.ownd ks ds) S1 := by
  unfold wE wEs
  rw [evR, ex_bind]
  refine ⟨fun ⟨ds, S1, e, h⟩ => ⟨ds, S1, e, ?_⟩, fun ⟨ds, S1, e, h⟩ => ⟨ds, S1, e, ?_⟩⟩
  · dsimp only at h
    split at h
    · rename_i hc; exact ⟨hc, ex_one.mp h⟩
    · obtain ⟨_, _, e, _⟩ := h; cases e
  · dsimp only
    rw [if_pos h.1]
    exact ex_one.mpr h.2
theorem wE_dgt {d k : ME} : wE Φ G ρ (.dgt d k) S Q ↔ wE Φ G ρ d S fun x S1 => wE Φ G ρ k S1 fun y S2 => ∃ t, x.dct? S2 = some t ∧ ∃ q, y.key? = some q ∧ ∃ r, valD t.1 t.2 q = some r ∧ Q (.val r) S2 := by
  unfold wE
  rw [evR, ex_bind]
  simp only [ex_bind, ex_pure, ex_mapP]
theorem wE_din {n : Bool} {d k : ME} : wE Φ G ρ (.din n k d) S Q ↔ wE Φ G ρ k S fun x S1 => wE Φ G ρ d S1 fun y S2 => ∃ q, x.key? = some q ∧ ∃ t, y.dct? S2 = some t ∧ Q (.val (.bl (xor n (valD t.1 t.2 q).isSome))) S2 := by
  unfold wE
  rw [evR, ex_bind]
  simp only [ex_bind, ex_pure, ex_mapP]
theorem wEs_nil {Q : List D → Sto → Prop} : wEs Φ G ρ .nil S Q ↔ Q [] S := by
  unfold wEs; rw [evs]; exact ex_one
theorem wEs_cons {e : ME} {es : MEs} {Q : List D → Sto → Prop} : wEs Φ G ρ (.cons e es) S Q ↔ wE Φ G ρ e S fun r S1 => ∃ d, r.d = some d ∧ wEs Φ G ρ es S1 fun ds S2 => Q (d :: ds) S2 := by
  unfold wEs wE
  rw [evs]
  simp only [ex_bind]
  constructor
  · rintro ⟨x, S1, e1, r, S', e, q⟩
    obtain ⟨d, hd, e⟩ := Mi.bind_some e
    obtain ⟨⟨ds, S2⟩, e2, e⟩ := map_some e
    cases e
    exact ⟨x, S1, e1, d, hd, ds, _, e2, q⟩
  · rintro ⟨x, S1, e1, d, hd, ds, S2, e2, q⟩
    refine ⟨x, S1, e1, _, S2, ?_, q⟩
    (try dsimp only); rw [hd, Option.bind_some, e2]; rfl
theorem wRs_nil {Q : List Rt → Sto → Prop} : wRs Φ G ρ .nil S Q ↔ Q [] S := by
  unfold wRs; rw [evRs]; exact ex_one
theorem wRs_cons {e : ME} {es : MEs} {Q : List Rt → Sto → Prop} : wRs Φ G ρ (.cons e es) S Q ↔ wE Φ G ρ e S fun r S1 => wRs Φ G ρ es S1 fun ds S2 => Q (r :: ds) S2 := by
  unfold wRs wE
  rw [evRs]
  simp only [ex_bind]
  constructor
  · rintro ⟨x, S1, e1, r, S', e, q⟩
    obtain ⟨⟨ds, S2⟩, e2, e⟩ := map_some e
    cases e
    exact ⟨x, S1, e1, ds, _, e2, q⟩
  · rintro ⟨x, S1, e1, ds, S2, e2, q⟩
    exact ⟨x, S1, e1, _, S2, by (try dsimp only); rw [e2]; rfl, q⟩
theorem wO_no {Q : Option Int → Sto → Prop} : wO Φ G ρ .no S Q ↔ Q none S := by
  unfold wO; rw [evO]; exact ex_one
theorem wO_yes {e : ME} {Q : Option Int → Sto → Prop} : wO Φ G ρ (.yes e) S Q ↔ wE Φ G ρ e S fun x S1 => ∃ i, x = .val (.int i) ∧ Q (some i) S1 := by
  unfold wO wE
  rw [evO]
  simp only [ex_bind]
  constructor
  · rintro ⟨x, S1, e1, r, S', e, q⟩
    (try dsimp only at e)
    split at e
    · cases e; exact ⟨_, S1, e1, _, rfl, q⟩
    · cases e
  · rintro ⟨x, S1, e1, i, rfl, q⟩
    exact ⟨_, S1, e1, _, _, rfl, q⟩
theorem wC_no {Q : Bool → Sto → Prop} : wC Φ G ρ .no S Q ↔ Q true S := by
  unfold wC; rw [evC]; exact ex_one
theorem wC_yes {e : ME} {Q : Bool → Sto → Prop} : wC Φ G ρ (.yes e) S Q ↔ wE Φ G ρ e S fun x S1 => ∃ i, x = .val (.bl i) ∧ Q i S1 := by
  unfold wC wE
  rw [evC]
  simp only [ex_bind]
  constructor
  · rintro ⟨x, S1, e1, r, S', e, q⟩
    (try dsimp only at e)
    split at e
    · cases e; exact ⟨_, S1, e1, _, rfl, q⟩
    · cases e
  · rintro ⟨x, S1, e1, i, rfl, q⟩
    exact ⟨_, S1, e1, _, _, rfl, q⟩
theorem wI_rng1 {z : Bool} {a : ME} : wI Φ G ρ z (.rng1 a) S Qs ↔ wE Φ G ρ a S fun x S1 => ∃ j, x = .val (.int j) ∧ inRng j ∧ Qs (rngL 0 j.toNat) S1 := by
  unfold wI wE
  rw [evI]
  simp only [ex_bind]
  constructor
  · rintro ⟨x, S1, e1, r, S', e, q⟩
    obtain ⟨j, hj, e⟩ := Mi.bind_some e
    split at e
    · cases e; exact ⟨x, S1, e1, j, int?_some hj, by assumption, q⟩
    · cases e
  · rintro ⟨x, S1, e1, j, rfl, h, q⟩
    exact ⟨_, S1, e1, _, S1, by show (if inRng j then _ else _) = _; rw [if_pos h], q⟩
theorem wI_rng2 {z : Bool} {a b : ME} : wI Φ G ρ z (.rng2 a b) S Qs ↔ wE Φ G ρ a S fun x S1 => wE Φ G ρ b S1 fun y S2 => ∃ i j, x = .val (.int i) ∧ y = .val (.int j) ∧ (inRng i ∧ inRng j) ∧ Qs (rngL i (j - i).toNat) S2 := by
  unfold wI wE
  rw [evI]
  simp only [ex_bind]
  constructor
  · rintro ⟨x, S1, e1, y, S2, e2, r, S', e, q⟩
    obtain ⟨i, hi, e⟩ := Mi.bind_some e
    obtain ⟨j, hj, e⟩ := Mi.bind_some e
    split at e
    · cases e; exact ⟨x, S1, e1, y, S2, e2, i, j, int?_some hi, int?_some hj, by assumption, q⟩
    · cases e
  · rintro ⟨x, S1, e1, y, S2, e2, i, j, rfl, rfl, h, q⟩
    exact ⟨_, S1, e1, _, S2, e2, _, S2, by show (if inRng i ∧ inRng j then _ else _) = _; rw [if_pos h], q⟩
theorem wI_seq {z : Bool} {a : ME} : wI Φ G ρ z (.seq a) S Qs ↔ wE Φ G ρ a S fun x S1 => ∃ ds, still z x = some ds ∧ Qs ds S1 := by
  unfold wI wE
  rw [evI]
  simp only [ex_bind]
  constructor
  · rintro ⟨x, S1, e1, r, S', e, q⟩
    obtain ⟨j, hj, e⟩ := Mi.bind_some e
    cases e; exact ⟨x, _, e1, _, hj, q⟩
  · rintro ⟨x, S1, e1, j, h, q⟩
    exact ⟨_, S1, e1, _, S1, by (try dsimp only); rw [h]; rfl, q⟩
theorem wI_enm {z : Bool} {a : ME} : wI Φ G ρ z (.enm a) S Qs ↔ wE Φ G ρ a S fun x S1 => ∃ ds, still z x = some ds ∧ Qs (enmL 0 ds) S1 := by
  unfold wI wE
  rw [evI]
  simp only [ex_bind]
  constructor
  · rintro ⟨x, S1, e1, r, S', e, q⟩
    obtain ⟨j, hj, e⟩ := Mi.bind_some e
    cases e; exact ⟨x, _, e1, _, hj, q⟩
  · rintro ⟨x, S1, e1, j, h, q⟩
    exact ⟨_, S1, e1, _, S1, by (try dsimp only); rw [h]; rfl, q⟩
theorem wI_zip {z : Bool} {a b : ME} : wI Φ G ρ z (.zip a b) S Qs ↔ wE Φ G ρ a S fun x S1 => wE Φ G ρ b S1 fun y S2 => ∃ xs ys, still z x = some xs ∧ still z y = some ys ∧ Qs (zipL xs ys) S2 := by
  unfold wI wE
  rw [evI]
  simp only [ex_bind]
  constructor
  · rintro ⟨x, S1, e1, y, S2, e2, r, S', e, q⟩
    obtain ⟨i, hi, e⟩ := Mi.bind_some e
    obtain ⟨j, hj, e⟩ := Mi.bind_some e
    cases e; exact ⟨x, S1, e1, y, _, e2, i, j, hi, hj, q⟩
  · rintro ⟨x, S1, e1, y, S2, e2, i, j, h1, h2, q⟩
    exact ⟨_, S1, e1, _, S2, e2, _, S2, by (try dsimp only); rw [h1, h2]; rfl, q⟩
theorem wT_nm {i : Nat} {d : D} {Q : Env → Sto → Prop} : wT Φ G (.nm i) d ρ S Q ↔ i < ρ.length ∧ Q (ρ.set i (.val d)) S := by
  unfold wT
  rw [sto]
  constructor
  · rintro ⟨r, S', e, q⟩
    split at e
    · cases e; exact ⟨by assumption, q⟩
    · cases e
  · rintro ⟨h, q⟩
    exact ⟨_, _, by rw [if_pos h], q⟩
theorem wT_sub {o i : ME} {d : D} {Q : Env → Sto → Prop} : wT Φ G (.sub o i) d ρ S Q ↔ wE Φ G ρ o S fun x S1 => wE Φ G ρ i S1 fun y S2 => ∃ l, x = .val (.ref l) ∧ ∃ S3, setAt S2 l y d = some S3 ∧ Q ρ S3 := by
  unfold wT wE
  rw [sto]
  simp only [ex_bind]
  constructor
  · rintro ⟨x, S1, e1, y, S2, e2, r, S', e, q⟩
    obtain ⟨l, hl, e⟩ := Mi.bind_some e
    obtain ⟨S3, h, e⟩ := map_some e
    cases e
    exact ⟨x, S1, e1, y, S2, e2, l, ref?_some hl, _, h, q⟩
  · rintro ⟨x, S1, e1, y, S2, e2, l, rfl, S3, h, q⟩
    exact ⟨_, S1, e1, _, S2, e2, _, S3, by show (setAt S2 l y d).map _ = _; rw [h]; rfl, q⟩
theorem wT_tp {ts : MTs} {ds : List D} {Q : Env → Sto → Prop} : wT Φ G (.tp ts) (.tup ds) ρ S Q ↔ wTs Φ G ts ds ρ S Q := Iff.rfl
theorem wTs_nil {Q : Env → Sto → Prop} : wTs Φ G .nil [] ρ S Q ↔ Q ρ S := by
  constructor
  · rintro ⟨r, S', e, q⟩
    have e : some (ρ, S) = some (r, S') := e
    cases e; exact q
  · intro q; exact ⟨ρ, S, rfl, q⟩
theorem wTs_cons {t : MT} {ts : MTs} {d : D} {ds : List D} {Q : Env → Sto → Prop} : wTs Φ G (.cons t ts) (d :: ds) ρ S Q ↔ wT Φ G t d ρ S fun ρ1 S1 => wTs Φ G ts ds ρ1 S1 Q := by
  show (∃ r S', ((sto Φ G t d ρ S).bind fun p => stos Φ G ts ds p.1 p.2) = some (r, S') ∧ Q r S') ↔ _
  unfold wT wTs
  constructor
  · rintro ⟨r, S', e, q⟩
    obtain ⟨⟨ρ1, S1⟩, e1, e⟩ := Mi.bind_some e
    exact ⟨ρ1, S1, e1, r, S', e, q⟩
  · rintro ⟨ρ1, S1, e1, r, S', e, q⟩
    exact ⟨r, S', by rw [e1]; exact e, q⟩

theorem wR_then {r : SR} {k : Env → Sto → SR} : wR (r.then k) N R ↔ wR r (fun ρ S => wR (k ρ S) N R) R := by
  cases r <;> rfl
theorem wSs_nil : wSs Φ G .nil ρ S N R ↔ N ρ S := by unfold wSs; rw [exs]; rfl
theorem wSs_cons {s : MS} {r : MSs} : wSs Φ G (.cons s r) ρ S N R ↔ wS Φ G s ρ S (fun ρ S => wSs Φ G r ρ S N R) R := by
  unfold wSs wS; rw [exs]; exact wR_then
theorem wR_bindE {r : Option (Rt × Sto)} {k : Rt → Sto → SR} : wR (bindE r k) N R ↔ ∃ x S', r = some (x, S') ∧ wR (k x S') N R := by
  cases r with
  | none => simp [bindE, wR]
  | some p =>
    obtain ⟨x, S1⟩ := p
    exact (ex_one (Q := fun x S' => wR (k x S') N R)).symm
theorem wR_bindD {r : Option (Rt × Sto)} {k : D → Sto → SR} : wR (bindD r k) N R ↔ ∃ x S', r = some (x, S') ∧ ∃ d, x.d = some d ∧ wR (k d S') N R := by
  cases r with
  | none => simp [bindD, wR]
  | some p =>
    obtain ⟨x, S1⟩ := p
    unfold bindD
    (try dsimp only)
    cases hd : x.d with
    | none =>
      constructor
      · intro h; exact h.elim
      · rintro ⟨y, S', e, d, e2, _⟩
        cases e; rw [hd] at e2; cases e2
    | some d =>
      constructor
      · intro h; exact ⟨x, S1, rfl, d, hd, h⟩
      · rintro ⟨y, S', e, d', e2, h⟩
        cases e; rw [hd] at e2; cases e2; exact h
theorem wS_asg {t : MT} {e : ME} : wS Φ G (.asg t e) ρ S N R ↔ wE Φ G ρ e S fun x S1 => ∃ d, x.d = some d ∧ wT Φ G t d ρ S1 N := by
  unfold wS wE wT
  rw [ex, wR_bindD]
  constructor
  · rintro ⟨x, S1, e1, d, hd, h⟩
    refine ⟨x, S1, e1, d, hd, ?_⟩
    cases hs : sto Φ G t d ρ S1 with
    | none => rw [hs] at h; exact h.elim
    | some p => rw [hs] at h; exact ⟨p.1, p.2, rfl, h⟩
  · rintro ⟨x, S1, e1, d, hd, r, S', hs, h⟩
    refine ⟨x, S1, e1, d, hd, ?_⟩
    rw [hs]; exact h
theorem wS_own {i : Nat} {e : ME} : wS Φ G (.own i e) ρ S N R ↔ wE Φ G ρ e S fun x S1 => ∃ ds, x = .own ds ∧ i < ρ.length ∧ N (ρ.set i (.own ds)) S1 := by
  unfold wS wE
  rw [ex, wR_bindE]
  constructor
  · rintro ⟨x, S1, e1, h⟩
    refine ⟨x, S1, e1, ?_⟩
    cases x with
    | own ds =>
      (try dsimp only at h)
      split at h
      · exact ⟨ds, rfl, by assumption, h⟩
      · exact h.elim
    | _ => exact h.elim
  · rintro ⟨x, S1, e1, ds, rfl, hi, h⟩
    exact ⟨_, S1, e1, by (try dsimp only); rw [if_pos hi]; exact h⟩
theorem wS_aug {i : Nat} {e : ME} : wS Φ G (.aug i .add e) ρ S N R ↔ ∃ k, ρ[i]? = some (.val (.int k)) ∧ wE Φ G ρ e S fun x S1 => ∃ j, x = .val (.int j) ∧ N (ρ.set i (.val (.int (k + j)))) S1 := by
  unfold wS wE
  rw [ex]
  constructor
  · intro h
    split at h
    · rename_i k hk
      rw [wR_bindD] at h
      obtain ⟨x, S1, e1, d, hd, h⟩ := h
      refine ⟨k, hk, x, S1, e1, ?_⟩
      cases d with
      | int j =>
        cases x with
        | val d' => cases hd; exact ⟨j, rfl, h⟩
        | own _ => cases hd
        | bor _ => cases hd
        | ownd _ _ => cases hd
      | _ => exact h.elim
    · exact h.elim
  · rintro ⟨k, hk, x, S1, e1, j, rfl, h⟩
    rw [hk]
    (try dsimp only)
    rw [wR_bindD]
    exact ⟨_, S1, e1, _, rfl, h⟩
theorem wS_app {i : Nat} {e : ME} : wS Φ G (.app i e) ρ S N R ↔ ∃ ds, ρ[i]? = some (.own ds) ∧ wE Φ G ρ e S fun x S1 => ∃ d, x.d = some d ∧ ds.length < sizeLine ∧ N (ρ.set i (.own (ds ++ [d]))) S1 := by
  unfold wS wE
  rw [ex]
  constructor
  · intro h
    split at h
    · rename_i k hk
      rw [wR_bindD] at h
      obtain ⟨x, S1, e1, d, hd, h⟩ := h
      refine ⟨k, hk, x, S1, e1, d, hd, ?_⟩
      split at h
      · exact ⟨by assumption, h⟩
      · exact h.elim
    · exact h.elim
  · rintro ⟨k, hk, x, S1, e1, d, hd, hz, h⟩
    rw [hk]
    (try dsimp only)
    rw [wR_bindD]
    exact ⟨_, S1, e1, _, hd, by rw [if_pos hz]; exact h⟩
theorem exV_o {ds : List D} : (Rt.own ds).exV = some ds := rfl
theorem exV_t {ds : List D} : (Rt.val (.tup ds)).exV = some ds := rfl
theorem wS_ext {i : Nat} {e : ME} : wS Φ G (.ext i e) ρ S N R ↔ ∃ ds, ρ[i]? = some (.own ds) ∧ wE Φ G ρ e S fun x S1 => ∃ ys, x.exV = some ys ∧ ds.length + ys.length ≤ sizeLine ∧ N (ρ.set i (.own (ds ++ ys))) S1 := by
  unfold wS wE
  rw [ex]
  constructor
  · intro h
    split at h
    · rename_i k hk
      rw [wR_bindE] at h
      obtain ⟨x, S1, e1, h⟩ := h
      refine ⟨k, hk, x, S1, e1, ?_⟩
      cases hx : x.exV with
      | some ys =>
        rw [hx] at h
        (try dsimp only at h)
        split at h
        · exact ⟨ys, hx, by assumption, h⟩
        · exact h.elim
      | none => rw [hx] at h; exact h.elim
    · exact h.elim
  · rintro ⟨k, hk, x, S1, e1, ys, hx, hz, h⟩
    rw [hk]
    (try dsimp only)
    rw [wR_bindE]
    exact ⟨_, S1, e1, by rw [hx]; (try dsimp only); rw [if_pos hz]; exact h⟩
theorem wS_rev {i : Nat} : wS Φ G (.rev i) ρ S N R ↔ ∃ ds, ρ[i]? = some (.own ds) ∧ N (ρ.set i (.own ds.reverse)) S := by
  unfold wS
  rw [ex]
  constructor
  · intro h
    split at h
    · exact ⟨_, by assumption, h⟩
    · exact h.elim
  · rintro ⟨k, hk, h⟩
    rw [hk]; exact h
theorem wS_sown {i : Nat} {a e : ME} : wS Φ G (.sown i a e) ρ S N R ↔ wE Φ G ρ e S fun x S1 => ∃ d, x.d = some d ∧ ∃ ds, ρ[i]? = some (.own ds) ∧ wE Φ G ρ a S1 fun y S2 => ∃ k j, y = .val (.int k) ∧ ixN ds.length k = some j ∧ N (ρ.set i (.own (ds.set j d))) S2 := by
  unfold wS wE
  rw [ex, wR_bindD]
  constructor
  · rintro ⟨x, S1, e1, d, hd, h⟩
    refine ⟨x, S1, e1, d, hd, ?_⟩
    split at h
    · rename_i ds hk
      rw [wR_bindE] at h
      obtain ⟨y, S2, e2, h⟩ := h
      refine ⟨ds, hk, y, S2, e2, ?_⟩
      (try dsimp only at h)
      split at h
      · split at h
        · exact ⟨_, _, rfl, by assumption, h⟩
        · exact h.elim
      · exact h.elim
    · exact h.elim
  · rintro ⟨x, S1, e1, d, hd, ds, hk, y, S2, e2, k, j, rfl, hj, h⟩
    refine ⟨x, S1, e1, d, hd, ?_⟩
    rw [hk]
    (try dsimp only)
    rw [wR_bindE]
    refine ⟨_, S2, e2, ?_⟩
    (try dsimp only)
    rw [hj]; exact h
theorem wS_pops {i : Nat} {t : MT} : wS Φ G (.pops t i) ρ S N R ↔ ∃ ds d, ρ[i]? = some (.own ds) ∧ ds.getLast? = some d ∧ wT Φ G t d (ρ.set i (.own ds.dropLast)) S N := by
  unfold wS wT
  rw [ex]
  constructor
  · intro h
    split at h
    · rename_i ds hk
      split at h
      · rename_i d hd
        refine ⟨ds, d, hk, hd, ?_⟩
        cases hs : sto Φ G t d (ρ.set i (.own ds.dropLast)) S with
        | none => rw [hs] at h; exact h.elim
        | some p => rw [hs] at h; exact ⟨p.1, p.2, rfl, h⟩
      · exact h.elim
    · exact h.elim
  · rintro ⟨ds, d, hk, hd, r, S', hs, h⟩
    rw [hk]
    (try dsimp only)
    rw [hd]
    (try dsimp only)
    rw [hs]; exact h
theorem wS_ite {c : ME} {a b : MSs} : wS Φ G (.ite c a b) ρ S N R ↔ wE Φ G ρ c S fun x S1 => ∃ i, x = .val (.bl i) ∧ if i = true then wSs Φ G a ρ S1 N R else wSs Φ G b ρ S1 N R := by
  unfold wS wE wSs
  rw [ex, wR_bindE]
  constructor
  · rintro ⟨x, S1, e1, h⟩
    refine ⟨x, S1, e1, ?_⟩
    (try dsimp only at h)
    split at h
    · exact ⟨true, rfl, by rw [if_pos rfl]; exact h⟩
    · exact ⟨false, rfl, by rw [if_neg (by decide)]; exact h⟩
    · exact h.elim
  · rintro ⟨x, S1, e1, i, rfl, h⟩
    refine ⟨_, S1, e1, ?_⟩
    cases i with
    | true => rw [if_pos rfl] at h; exact h
    | false => rw [if_neg (by decide)] at h; exact h
theorem wS_for {t : MT} {it : MI} {b : MSs} : wS Φ G (.forr t it b) ρ S N R ↔ wI Φ G ρ false it S fun ds S1 => wFor Φ G t b ds ρ S1 N R := by
  unfold wS wI wFor
  rw [ex]
  cases h : evI Φ G ρ false it S with
  | none => simp [wR]
  | some p =>
    obtain ⟨ds, S1⟩ := p
    exact (ex_one (Q := fun ds S1 => wR (forL (fun d ρ S => sto Φ G t d ρ S) (fun ρ S => exs Φ G b ρ S) ds ρ S1) N R)).symm
def retOk : Rt → Bool
  | .val _ => true
  | .own _ => true
  | _ => false
theorem retOk_v {d : D} : retOk (.val d) = true := rfl
theorem retOk_o {d : List D} : retOk (.own d) = true := rfl
theorem wS_ret {e : ME} : wS Φ G (.ret e) ρ S N R ↔ wE Φ G ρ e S fun x S1 => retOk x = true ∧ R x S1 := by
  unfold wS wE
  rw [ex, wR_bindE]
  constructor
  · rintro ⟨x, S1, e1, h⟩
    refine ⟨x, S1, e1, ?_⟩
    cases x with
    | bor _ => exact h.elim
    | ownd _ _ => exact h.elim
    | val _ => exact ⟨rfl, h⟩
    | own _ => exact ⟨rfl, h⟩
  · rintro ⟨x, S1, e1, hb, h⟩
    refine ⟨x, S1, e1, ?_⟩
    cases x with
    | bor ds => cases hb
    | ownd _ _ => cases hb
    | val _ => exact h
    | own _ => exact h
theorem wS_par {i j : Nat} {oj : Bool} {a b : ME} : wS Φ G (.par i j oj a b) ρ S N R ↔ wE Φ G ρ a S fun x S1 => ∃ d, x.d = some d ∧ wE Φ G ρ b S1 fun y S2 => ∃ z, slOf oj y = some z ∧ (i < ρ.length ∧ j < ρ.length ∧ i ≠ j) ∧ N ((ρ.set i (.val d)).set j z) S2 := by
  unfold wS wE
  rw [ex, wR_bindD]
  constructor
  · rintro ⟨x, S1, e1, d, hd, h⟩
    rw [wR_bindE] at h
    obtain ⟨y, S2, e2, h⟩ := h
    refine ⟨x, S1, e1, d, hd, y, S2, e2, ?_⟩
    split at h
    · rename_i z hz
      split at h
      · rename_i hc; exact ⟨z, hz, hc, h⟩
      · exact h.elim
    · exact h.elim
  · rintro ⟨x, S1, e1, d, hd, y, S2, e2, z, hz, hc, h⟩
    refine ⟨x, S1, e1, d, hd, ?_⟩
    rw [wR_bindE]
    refine ⟨y, S2, e2, ?_⟩
    rw [hz]
    dsimp only
    rw [if_pos hc]; exact h
theorem wS_par3 {i j l : Nat} {a b c : ME} : wS Φ G (.par3 i j l a b c) ρ S N R ↔ wE Φ G ρ a S fun x S1 => ∃ d, x.d = some d ∧ wE Φ G ρ b S1 fun y S2 => ∃ d2, y.d = some d2 ∧ wE Φ G ρ c S2 fun z S3 => ∃ d3, z.d = some d3 ∧ (i < ρ.length ∧ j < ρ.length ∧ l < ρ.length ∧ i ≠ j ∧ i ≠ l ∧ j ≠ l) ∧ N (((ρ.set i (.val d)).set j (.val d2)).set l (.val d3)) S3 := by
  unfold wS wE
  rw [ex, wR_bindD]
  constructor
  · rintro ⟨x, S1, e1, d, hd, h⟩
    rw [wR_bindD] at h
    obtain ⟨y, S2, e2, d2, hd2, h⟩ := h
    rw [wR_bindD] at h
    obtain ⟨z, S3, e3, d3, hd3, h⟩ := h
    refine ⟨x, S1, e1, d, hd, y, S2, e2, d2, hd2, z, S3, e3, d3, hd3, ?_⟩
    split at h
    · rename_i hc; exact ⟨hc, h⟩
    · exact h.elim
  · rintro ⟨x, S1, e1, d, hd, y, S2, e2, d2, hd2, z, S3, e3, d3, hd3, hc, h⟩
    refine ⟨x, S1, e1, d, hd, ?_⟩
    rw [wR_bindD]
    refine ⟨y, S2, e2, d2, hd2, ?_⟩
    rw [wR_bindD]
    refine ⟨z, S3, e3, d3, hd3, ?_⟩
    rw [if_pos hc]; exact h
theorem slOf_f {d : D} : slOf false (.val d) = some (.val d) := rfl
theorem slOf_fo {ds : List D} : slOf false (.own ds) = some (.val (.lst ds)) := rfl
theorem slOf_t {ds : List D} : slOf true (.own ds) = some (.own ds) := rfl
theorem wS_reto {i : Nat} : wS Φ G (.reto i) ρ S N R ↔ ∃ ds, ρ[i]? = some (.own ds) ∧ R (.own ds) S := by
  unfold wS
  rw [ex]
  constructor
  · intro h
    split at h
    · exact ⟨_, by assumption, h⟩
    · exact h.elim
  · rintro ⟨k, hk, h⟩
    rw [hk]; exact h
theorem wS_expr {e : ME} : wS Φ G (.expr e) ρ S N R ↔ wE Φ G ρ e S fun _ S1 => N ρ S1 := by
  unfold wS wE
  rw [ex, wR_bindE]; rfl
def frzN (N : Env → Sto → Prop) (i : Nat) (ρ : Env) (S : Sto) (o : Option Sl) : Prop := match o with
  | some (.own ds) => N (ρ.set i (.val (.lst ds))) S
  | some (.val _) => N ρ S
  | _ => False
theorem frzN_own {i : Nat} {ds : List D} : frzN N i ρ S (some (.own ds)) ↔ N (ρ.set i (.val (.lst ds))) S := Iff.rfl
theorem frzN_val {i : Nat} {d : D} : frzN N i ρ S (some (.val d)) ↔ N ρ S := Iff.rfl
theorem wS_frz {i : Nat} : wS Φ G (.frz i) ρ S N R ↔ frzN N i ρ S ρ[i]? := by
  unfold wS
  rw [ex]
  cases hρ : ρ[i]? with
  | none => exact Iff.rfl
  | some sl => cases sl <;> exact Iff.rfl
theorem wFor_inv {t : MT} {b : MSs} {ds : List D} (I : Nat → Env → Sto → Prop) (h0 : I 0 ρ S)
    (hs : ∀ i d ρ S, ds[i]? = some d → I i ρ S → wT Φ G t d ρ S fun ρ1 S1 => wSs Φ G b ρ1 S1 (fun ρ2 S2 => I (i + 1) ρ2 S2) R)
    (hd : ∀ ρ S, I ds.length ρ S → N ρ S) : wFor Φ G t b ds ρ S N R := by
  unfold wFor
  have main : ∀ (n i : Nat) (ρ : Env) (S : Sto), i + n = ds.length → I i ρ S → wR (forL (fun d ρ S => sto Φ G t d ρ S) (fun ρ S => exs Φ G b ρ S) (ds.drop i) ρ S) N R := by
    intro n
    induction n with
    | zero =>
      intro i ρ S e h
      have e : i = ds.length := by omega
      subst e
      rw [List.drop_length]
      exact hd ρ S h
    | succ n ih =>
      intro i ρ S e h
      have hi : i < ds.length := by omega
      rw [List.drop_eq_getElem_cons hi, forL]
      obtain ⟨ρ1, S1, e1, q⟩ := hs i _ ρ S (List.getElem?_eq_getElem hi) h
      rw [e1]
      (try dsimp only)
      rw [wR_then]
      unfold wSs at q
      generalize exs Φ G b ρ1 S1 = r at q ⊢
      cases r with
      | nx ρ2 S2 => exact ih (i + 1) ρ2 S2 (by omega) q
      | rt _ _ => exact q
      | er => exact q
  have := main ds.length 0 ρ S (by omega) h0
  rwa [List.drop_zero] at this
theorem wL_inv {t : MT} {c : MO} {e : ME} {ds : List D} (I : Nat → List D → Sto → Prop) (h0 : I 0 [] S)
    (hs : ∀ i d xs S, ds[i]? = some d → I i xs S → wTn Φ G t c e ρ d S fun o S1 => I (i + 1) (xs ++ o.toList) S1)
    (hd : ∀ xs S, I ds.length xs S → Qs xs S) : wL Φ G t c e ρ ds S Qs := by
  unfold wL
  have main : ∀ (n i : Nat) (acc : List D) (S : Sto), i + n = ds.length → I i acc S → ∃ xs S', cmpL (fun d S => (sto Φ G t d ρ S).bind fun q => (evC Φ G q.1 c q.2).bind fun r =>
        if r.1 then (evR Φ G q.1 e r.2).bind fun z => (z.1.d).map fun y => (some y, z.2) else some (none, r.2)) (ds.drop i) S = some (xs, S') ∧ Qs (acc ++ xs) S' := by
    intro n
    induction n with
    | zero =>
      intro i acc S e h
      have e : i = ds.length := by omega
      subst e
      rw [List.drop_length]
      exact ⟨[], S, rfl, by rw [List.append_nil]; exact hd _ _ h⟩
    | succ n ih =>
      intro i acc S e' h
      have hi : i < ds.length := by omega
      rw [List.drop_eq_getElem_cons hi]
      obtain ⟨ρ1, S1, e1, b, S2, e2, q⟩ := hs i _ acc S (List.getElem?_eq_getElem hi) h
      have step : ∀ (o : Option D) (S3 : Sto), ((sto Φ G t ds[i] ρ S).bind fun q => (evC Φ G q.1 c q.2).bind fun r =>
          if r.1 then (evR Φ G q.1 e r.2).bind fun z => (z.1.d).map fun y => (some y, z.2) else some (none, r.2)) = some (o, S3) → I (i + 1) (acc ++ o.toList) S3 → ∃ xs S', cmpL (fun d S => (sto Φ G t d ρ S).bind fun q => (evC Φ G q.1 c q.2).bind fun r =>
          if r.1 then (evR Φ G q.1 e r.2).bind fun z => (z.1.d).map fun y => (some y, z.2) else some (none, r.2)) (ds[i] :: ds.drop (i + 1)) S = some (xs, S') ∧ Qs (acc ++ xs) S' := fun o S3 h1 h2 => by
        obtain ⟨xs, S', h3, h4⟩ := ih (i + 1) _ S3 (by omega) h2
        rw [cmpL, h1, Option.bind_some]
        (try dsimp only)
        rw [h3]
        refine ⟨_, S', rfl, ?_⟩
        cases o with
        | none => simpa using h4
        | some y => simpa using h4
      cases b with
      | false =>
        rw [if_neg (by decide)] at q
        exact step none S2 (by rw [e1, Option.bind_some]; (try dsimp only); rw [e2, Option.bind_some]; rfl) q
      | true =>
        rw [if_pos rfl] at q
        obtain ⟨z, S3, e3, y, hy, q⟩ := q
        refine step (some y) S3 ?_ q
        rw [e1, Option.bind_some]
        (try dsimp only)
        rw [e2, Option.bind_some]
        (try dsimp only)
        rw [if_pos rfl, e3, Option.bind_some]
        (try dsimp only)
        rw [hy]; rfl
  have := main ds.length 0 [] S (by omega) h0
  rwa [List.drop_zero] at this

theorem wL_pure {t : MT} {c : MO} {e : ME} {ds : List D} (f : D → Option D) (hs : ∀ d, d ∈ ds → wTn Φ G t c e ρ d S fun o S1 => o = f d ∧ S1 = S) (hd : Qs (ds.filterMap f) S) : wL Φ G t c e ρ ds S Qs := by
  refine wL_inv (fun i xs S' => xs = (ds.take i).filterMap f ∧ S' = S) ⟨rfl, rfl⟩ (fun i d xs S' hi h => ?_) fun xs S' h => ?_
  · obtain ⟨rfl, rfl⟩ := h
    obtain ⟨ρ1, S1, e1, b, S2, e2, q⟩ := hs d (List.mem_of_getElem? hi)
    have fin : ∀ o, o = f d → (ds.take i).filterMap f ++ o.toList = (ds.take (i + 1)).filterMap f := fun o ho => by
      rw [List.take_add_one, hi, List.filterMap_append, ho]
      congr 1
    refine ⟨ρ1, S1, e1, b, S2, e2, ?_⟩
    cases b with
    | false => rw [if_neg (by decide)] at q ⊢; exact ⟨fin _ q.1, q.2⟩
    | true =>
      rw [if_pos rfl] at q ⊢
      obtain ⟨z, S3, e3, y, hy, q⟩ := q
      exact ⟨z, S3, e3, y, hy, fin _ q.1, q.2⟩
  · obtain ⟨rfl, rfl⟩ := h
    rw [List.take_length]; exact hd

theorem wS_whl {n : Nat} {c : ME} {b : MSs} (I : Nat → Env → Sto → Prop) (m0 : Nat) (hm : m0 < n) (h0 : I m0 ρ S)
    (hs : ∀ m ρ S, I m ρ S → wE Φ G ρ c S fun x S1 => ∃ k, x = .val (.bl k) ∧ if k = true then wSs Φ G b ρ S1 (fun ρ2 S2 => ∃ m', m' < m ∧ I m' ρ2 S2) R else N ρ S1) : wS Φ G (.whl n c b) ρ S N R := by
  unfold wS
  rw [ex]
  have main : ∀ (n m : Nat) (ρ : Env) (S : Sto), m < n → I m ρ S → wR (whlL (fun ρ S => (evR Φ G ρ c S).bind fun p => match p.1 with
      | .val (.bl k) => some (k, p.2)
      | _ => none) (fun ρ S => exs Φ G b ρ S) n ρ S) N R := by
    intro n
    induction n with
    | zero => intro m ρ S h; omega
    | succ n ih =>
      intro m ρ S hm h
      rw [whlL]
      obtain ⟨x, S1, e1, k, rfl, q⟩ := hs m ρ S h
      rw [e1, Option.bind_some]
      (try dsimp only)
      cases k with
      | false => rw [if_neg (by decide)] at q; exact q
      | true =>
        rw [if_pos rfl] at q
        (try dsimp only)
        rw [wR_then]
        unfold wSs at q
        generalize exs Φ G b ρ S1 = r at q ⊢
        cases r with
        | nx ρ2 S2 =>
          obtain ⟨m', hm', q⟩ := q
          exact ih m' ρ2 S2 (by omega) q
        | rt _ _ => exact q
        | er => exact q
  exact main n m0 ρ S hm h0
end

theorem wF_of {P : Nat → Option FD} {G : List D} {k f : Nat} {ds : List D} {S : Sto} {Q : Rt → Sto → Prop} {fd : FD} (hP : P f = some fd) (hl : ds.length = fd.np)
    (h : wSs (runF P G k) G fd.body (ds.map .val ++ List.replicate (fd.nn - ds.length) .no) S (fun _ S' => Q (.val .non) S') Q) : wF (runF P G (k + 1)) f ds S Q := by
  unfold wF
  rw [runF, hP]
  (try dsimp only)
  rw [if_pos hl]
  unfold wSs at h
  generalize exs (runF P G k) G fd.body (ds.map .val ++ List.replicate (fd.nn - ds.length) .no) S = r at h ⊢
  cases r with
  | nx _ S' => exact ⟨_, _, rfl, h⟩
  | rt r S' => exact ⟨_, _, rfl, h⟩
  | er => exact h.elim
theorem wF_mono {Φ : Fns} {f : Nat} {ds : List D} {S : Sto} {Q Q' : Rt → Sto → Prop} (h : wF Φ f ds S Q) (i : ∀ r S, Q r S → Q' r S) : wF Φ f ds S Q' := by
  obtain ⟨r, S', e, q⟩ := h; exact ⟨r, S', e, i _ _ q⟩
end Mi
end
section
namespace Mi
open PySem L2
theorem size_ok {n : Nat} (h : n ≤ 16777216) : (n ≤ sizeLine) = True := eq_true h
theorem inRng_ok {i : Int} (h1 : -4611686018427387904 ≤ i) (h2 : i < 4611686018427387904) : inRng i = True := eq_true ⟨h1, h2⟩
theorem still_l {z : Bool} {ds : List D} : still z (.val (.lst ds)) = some ds := rfl
theorem still_t {z : Bool} {ds : List D} : still z (.val (.tup ds)) = some ds := rfl
theorem still_b {ds : List D} : still true (.bor ds) = some ds := rfl
theorem still_o {z : Bool} {ds : List D} : still z (.own ds) = some ds := rfl

theorem tyR_t {ds : List D} {t : Ty} : tyR (.val (.tup ds)) t = decide (t = .tuple) := rfl
theorem tyR_i {i : Int} {t : Ty} : tyR (.val (.int i)) t = decide (t = .int) := rfl
theorem bi_anyo {S : Sto} {ds : List D} : biop S .any [.own ds] = (bls? ds).map fun bs => .val (.bl (bs.any id)) := rfl
theorem bi_allo {S : Sto} {ds : List D} : biop S .all [.own ds] = (bls? ds).map fun bs => .val (.bl (bs.all id)) := rfl
theorem rd_val {d : D} : (Rt.val d).d = some d := rfl
theorem rd_own {ds : List D} : (Rt.own ds).d = some (.lst ds) := rfl
theorem lt_size {n : Nat} (h : n ≤ 1000) : n ≤ sizeLine := Nat.le_trans h (by decide)
theorem strOk_of (s : String) : PyData.strOk (Str.ofString s) = true := by
  unfold PyData.strOk
  rw [Str.ofString_eq_toList]
  rw [← Array.all_toList, List.toList_toArray, List.all_map, List.all_eq_true]
  intro c _
  show decide (c.toNat < 0x110000) = true
  have := c.valid
  rw [decide_eq_true_eq]
  rcases this with h | h
  · exact Nat.lt_trans h (by decide)
  · exact h.2
theorem ofString_inj (a b : String) : (Str.ofString a = Str.ofString b) ↔ a = b := by
  constructor
  · intro h
    rw [Str.ofString_eq_toList, Str.ofString_eq_toList] at h
    have h := congrArg Str.cps h
    have h := congrArg Array.toList h
    simp only [List.toList_toArray] at h
    have inj : Function.Injective Char.toNat := fun x y e => Char.ext (UInt32.toNat_inj.mp e)
    exact String.toList_inj.mp ((List.map_inj_right inj).mp h)
  · intro h; rw [h]
theorem cmp_int {S : Sto} {i j : Int} : cmpop S .eq (.val (.int i)) (.val (.int j)) = some (decide (i = j)) := by
  show eqop0 S (.val (.int i)) (.val (.int j)) = _
  unfold eqop0 pyS pyR toPy
  rw [Option.bind_some, Option.bind_some, if_pos ⟨rfl, rfl⟩]
  unfold PyData.eqv
  by_cases h : i = j <;> simp [h]
theorem cmp_intn {S : Sto} {i j : Int} : cmpop S .ne (.val (.int i)) (.val (.int j)) = some (!decide (i = j)) := by
  have h : eqop S (.val (.int i)) (.val (.int j)) = some (decide (i = j)) := cmp_int (S := S)
  unfold cmpop
  rw [h]; rfl
theorem cmp_str {S : Sto} {a b : String} : cmpop S .eq (.val (.str (Str.ofString a))) (.val (.str (Str.ofString b))) = some (decide (a = b)) := by
  show some (decide (Str.ofString a = Str.ofString b)) = _
  congr 1
  exact decide_eq_decide.mpr (ofString_inj a b)
theorem cmp_lt {S : Sto} {i j : Int} : cmpop S .lt (.val (.int i)) (.val (.int j)) = some (decide (i < j)) := rfl
theorem cmp_le {S : Sto} {i j : Int} : cmpop S .le (.val (.int i)) (.val (.int j)) = some (decide (i ≤ j)) := rfl
theorem cmp_gt {S : Sto} {i j : Int} : cmpop S .gt (.val (.int i)) (.val (.int j)) = some (decide (j < i)) := rfl
theorem cmp_ge {S : Sto} {i j : Int} : cmpop S .ge (.val (.int i)) (.val (.int j)) = some (decide (j ≤ i)) := rfl
theorem bin_add {S : Sto} {i j : Int} : binop S .add (.val (.int i)) (.val (.int j)) = some (.val (.int (i + j))) := rfl
theorem bin_sub {S : Sto} {i j : Int} : binop S .sub (.val (.int i)) (.val (.int j)) = some (.val (.int (i - j))) := rfl
theorem bin_mul {S : Sto} {i j : Int} {r : Rt} {Q : Prop} : binop S .mul (.val (.int i)) (.val (.int j)) = some r ↔ MulOk i j ∧ r = .val (.int (i * j)) := by
  show (if MulOk i j then some (i * j) else none).map _ = some r ↔ _
  split
  · rename_i h
    constructor
    · intro e; cases e; exact ⟨h, rfl⟩
    · rintro ⟨_, rfl⟩; rfl
  · rename_i h
    constructor
    · intro e; cases e
    · rintro ⟨h', _⟩; exact absurd h' h
theorem bin_mul' {S : Sto} {i j : Int} {Q : Rt → Prop} : (∃ r, binop S .mul (.val (.int i)) (.val (.int j)) = some r ∧ Q r) ↔ MulOk i j ∧ Q (.val (.int (i * j))) := by
  constructor
  · rintro ⟨r, h, q⟩
    obtain ⟨h1, h2⟩ := (bin_mul (Q := True)).mp h
    subst h2
    exact ⟨h1, q⟩
  · rintro ⟨h, q⟩; exact ⟨_, (bin_mul (Q := True)).mpr ⟨h, rfl⟩, q⟩
theorem bin_fdiv' {S : Sto} {i j : Int} {Q : Rt → Prop} : (∃ r, binop S .fdiv (.val (.int i)) (.val (.int j)) = some r ∧ Q r) ↔ DivOk j ∧ Q (.val (.int (i / j))) := by
  show (∃ r, (if DivOk j then some (i / j) else none).map _ = some r ∧ Q r) ↔ _
  split
  · rename_i h
    constructor
    · rintro ⟨r, e, q⟩; cases e; exact ⟨h, q⟩
    · rintro ⟨_, q⟩; exact ⟨_, rfl, q⟩
  · rename_i h
    constructor
    · rintro ⟨r, e, q⟩; cases e
    · rintro ⟨h', _⟩; exact absurd h' h
theorem bin_mod' {S : Sto} {i j : Int} {Q : Rt → Prop} : (∃ r, binop S .mod (.val (.int i)) (.val (.int j)) = some r ∧ Q r) ↔ 0 < j ∧ Q (.val (.int (i % j))) := by
  show (∃ r, (if 0 < j then some (i % j) else none).map _ = some r ∧ Q r) ↔ _
  split
  · rename_i h
    constructor
    · rintro ⟨r, e, q⟩; cases e; exact ⟨h, q⟩
    · rintro ⟨_, q⟩; exact ⟨_, rfl, q⟩
  · rename_i h
    constructor
    · rintro ⟨r, e, q⟩; cases e
    · rintro ⟨h', _⟩; exact absurd h' h
theorem bin_pow' {S : Sto} {i j : Int} {Q : Rt → Prop} : (∃ r, binop S .pow (.val (.int i)) (.val (.int j)) = some r ∧ Q r) ↔ (0 ≤ j ∧ j ≤ 1000000 ∧ i.natAbs < 2 ^ 64) ∧ Q (.val (.int (i ^ j.toNat))) := by
  show (∃ r, (if 0 ≤ j ∧ j ≤ 1000000 ∧ i.natAbs < 2 ^ 64 then some (i ^ j.toNat) else none).map _ = some r ∧ Q r) ↔ _
  split
  · rename_i h
    constructor
    · rintro ⟨r, e, q⟩; cases e; exact ⟨h, q⟩
    · rintro ⟨_, q⟩; exact ⟨_, rfl, q⟩
  · rename_i h
    constructor
    · rintro ⟨r, e, q⟩; cases e
    · rintro ⟨h', _⟩; exact absurd h' h

theorem ix_ref {S : Sto} {l : Nat} {k : Int} : index S (.val (.ref l)) (.val (.int k)) = (cellL S l).bind fun ds => atI ds k := rfl
theorem ix_tup {S : Sto} {ds : List D} {k : Int} : index S (.val (.tup ds)) (.val (.int k)) = atI ds k := rfl
theorem ix_lst {S : Sto} {ds : List D} {k : Int} : index S (.val (.lst ds)) (.val (.int k)) = atI ds k := rfl
theorem ix_own {S : Sto} {ds : List D} {k : Int} : index S (.own ds) (.val (.int k)) = atI ds k := rfl
theorem ix_bor {S : Sto} {ds : List D} {k : Int} : index S (.bor ds) (.val (.int k)) = atI ds k := rfl
theorem cellL_of {S : Sto} {l : Nat} {ds : List D} (h : S[l]? = some (.lst ds)) : cellL S l = some ds := by unfold cellL; rw [h]
theorem atI_0 {x : D} {r : List D} : atI (x :: r) 0 = some x := by
  show L2.atI (x :: r) ((0 : Nat) : Int) = _
  exact L2.atI_nat rfl
theorem atI_1 {x y : D} {r : List D} : atI (x :: y :: r) 1 = some y := by
  show L2.atI (x :: y :: r) ((1 : Nat) : Int) = _
  exact L2.atI_nat rfl
theorem atI_2 {x y z : D} {r : List D} : atI (x :: y :: z :: r) 2 = some z := by
  show L2.atI (x :: y :: z :: r) ((2 : Nat) : Int) = _
  exact L2.atI_nat rfl
theorem atI_at {ds : List D} {i : Int} {d : D} (h0 : 0 ≤ i) (h : ds[i.toNat]? = some d) : atI ds i = some d := by
  have : i = ((i.toNat : Nat) : Int) := (Int.toNat_of_nonneg h0).symm
  rw [this]
  exact L2.atI_nat h
theorem setAt_l {S : Sto} {l : Nat} {ds : List D} {k : Int} {v : D} (h : S[l]? = some (.lst ds)) : setAt S l (.val (.int k)) v = setRef S l k v := by
  unfold setAt cellD
  rw [h]; rfl
theorem setAt_d {S : Sto} {l : Nat} {ks : List Key} {ds : List D} {q : Key} {r : Rt} {v : D} (h : S[l]? = some (.dct ks ds)) (hq : r.key? = some q) (hl : ks.length < 16777216) : setAt S l r v = some (S.set l (.dct (putD ks ds q v).1 (putD ks ds q v).2)) := by
  unfold setAt setDct cellD
  rw [h]
  dsimp only
  rw [hq, Option.bind_some, Option.bind_some, if_pos (show ks.length < sizeLine from hl)]
theorem put_ref {S : Sto} {l : Nat} {ds : List D} {k : Int} {v : D} {j : Nat} (h : S[l]? = some (.lst ds)) (hj : ixN ds.length k = some j) : setRef S l k v = some (S.set l (.lst (ds.set j v))) := by
  unfold setRef
  rw [cellL_of h, Option.bind_some, hj]; rfl
theorem put3_0 {S : Sto} {l : Nat} {x y z v : D} (h : S[l]? = some (.lst [x, y, z])) : setAt S l (.val (.int 0)) v = some (S.set l (.lst [v, y, z])) := (setAt_l h).trans (put_ref (j := 0) h rfl)
theorem put3_1 {S : Sto} {l : Nat} {x y z v : D} (h : S[l]? = some (.lst [x, y, z])) : setAt S l (.val (.int 1)) v = some (S.set l (.lst [x, v, z])) := (setAt_l h).trans (put_ref (j := 1) h rfl)
theorem put3_2 {S : Sto} {l : Nat} {x y z v : D} (h : S[l]? = some (.lst [x, y, z])) : setAt S l (.val (.int 2)) v = some (S.set l (.lst [x, y, v])) := (setAt_l h).trans (put_ref (j := 2) h rfl)
theorem set_at {S : Sto} {l : Nat} {c d : Cell} (h : S[l]? = some d) : (S.set l c)[l]? = some c := List.getElem?_set_self (List.getElem?_eq_some_iff.mp h).1
theorem ix3_0 {S : Sto} {l : Nat} {x y z : D} (h : S[l]? = some (.lst [x, y, z])) : index S (.val (.ref l)) (.val (.int 0)) = some x := by rw [ix_ref, cellL_of h, Option.bind_some]; exact atI_0
theorem ix3_1 {S : Sto} {l : Nat} {x y z : D} (h : S[l]? = some (.lst [x, y, z])) : index S (.val (.ref l)) (.val (.int 1)) = some y := by rw [ix_ref, cellL_of h, Option.bind_some]; exact atI_1
theorem ix3_2 {S : Sto} {l : Nat} {x y z : D} (h : S[l]? = some (.lst [x, y, z])) : index S (.val (.ref l)) (.val (.int 2)) = some z := by rw [ix_ref, cellL_of h, Option.bind_some]; exact atI_2
theorem rep_own {S : Sto} {xs : List D} {k : Int} {Q : Rt → Prop} : (∃ r, binop S .mul (.own xs) (.val (.int k)) = some r ∧ Q r) ↔ (-(2 ^ 63) ≤ k ∧ k < 2 ^ 63 ∧ xs.length * k.toNat ≤ sizeLine) ∧ Q (.own (List.replicate k.toNat xs).flatten) := by
  show (∃ r, (if -(2 ^ 63) ≤ k ∧ k < 2 ^ 63 ∧ xs.length * k.toNat ≤ sizeLine then some (Rt.own (List.replicate k.toNat xs).flatten) else none) = some r ∧ Q r) ↔ _
  split
  · rename_i h
    constructor
    · rintro ⟨r, e, q⟩; cases e; exact ⟨h, q⟩
    · rintro ⟨_, q⟩; exact ⟨_, rfl, q⟩
  · rename_i h
    constructor
    · rintro ⟨r, e, q⟩; cases e
    · rintro ⟨h', _⟩; exact absurd h' h
theorem cat_any {S : Sto} {x y : Rt} {xs ys : List D} {Q : Rt → Prop} (hx : tview S x = some xs) (hy : tview S y = some ys) (h1 : x.int? = none) (h2 : y.int? = none) (h3 : x.tup? = none) : (∃ r, binop S .add x y = some r ∧ Q r) ↔ xs.length + ys.length ≤ sizeLine ∧ Q (.own (xs ++ ys)) := by
  have e : binop S .add x y = if xs.length + ys.length ≤ sizeLine then some (.own (xs ++ ys)) else none := by
    unfold binop
    rw [h1, h2]
    dsimp only
    have hs : x.str? = none := by
      cases x with
      | val d => cases d <;> first | rfl | cases hx
      | _ => rfl
    unfold catop
    rw [hs]
    show catop0 S x y = _
    unfold catop0
    rw [h3]
    dsimp only
    rw [hx, hy, Option.bind_some, Option.bind_some]
  rw [e]
  split
  · rename_i h
    constructor
    · rintro ⟨r, e, q⟩; cases e; exact ⟨h, q⟩
    · rintro ⟨_, q⟩; exact ⟨_, rfl, q⟩
  · rename_i h
    constructor
    · rintro ⟨r, e, q⟩; cases e
    · rintro ⟨h', _⟩; exact absurd h' h
theorem cat_lo {S : Sto} {xs ys : List D} {Q : Rt → Prop} : (∃ r, binop S .add (.val (.lst xs)) (.own ys) = some r ∧ Q r) ↔ xs.length + ys.length ≤ sizeLine ∧ Q (.own (xs ++ ys)) := cat_any rfl rfl rfl rfl rfl
theorem cat_oo {S : Sto} {xs ys : List D} {Q : Rt → Prop} : (∃ r, binop S .add (.own xs) (.own ys) = some r ∧ Q r) ↔ xs.length + ys.length ≤ sizeLine ∧ Q (.own (xs ++ ys)) := cat_any rfl rfl rfl rfl rfl
theorem cat_ll {S : Sto} {xs ys : List D} {Q : Rt → Prop} : (∃ r, binop S .add (.val (.lst xs)) (.val (.lst ys)) = some r ∧ Q r) ↔ xs.length + ys.length ≤ sizeLine ∧ Q (.own (xs ++ ys)) := cat_any rfl rfl rfl rfl rfl
theorem cat_ol {S : Sto} {xs ys : List D} {Q : Rt → Prop} : (∃ r, binop S .add (.own xs) (.val (.lst ys)) = some r ∧ Q r) ↔ xs.length + ys.length ≤ sizeLine ∧ Q (.own (xs ++ ys)) := cat_any rfl rfl rfl rfl rfl
theorem bi_divmod' {S : Sto} {i j : Int} {Q : Rt → Prop} : (∃ r, biop S .divmod [.val (.int i), .val (.int j)] = some r ∧ Q r) ↔ (0 < j ∧ j < 1073741824) ∧ Q (.val (.tup [.int (i / j), .int (i % j)])) := by
  show (∃ r, (if 0 < j ∧ j < 1073741824 then some (Rt.val (.tup [.int (i / j), .int (i % j)])) else none) = some r ∧ Q r) ↔ _
  split
  · rename_i h
    constructor
    · rintro ⟨r, e, q⟩; cases e; exact ⟨h, q⟩
    · rintro ⟨_, q⟩; exact ⟨_, rfl, q⟩
  · rename_i h
    constructor
    · rintro ⟨r, e, q⟩; cases e
    · rintro ⟨h', _⟩; exact absurd h' h
theorem bi_abs' {S : Sto} {i : Int} : biop S .abs [.val (.int i)] = some (.val (.int (if i < 0 then -i else i))) := rfl
theorem bi_intb {S : Sto} {k : Bool} : biop S .int [.val (.bl k)] = some (.val (.int (if k then 1 else 0))) := rfl
theorem bi_min2 {S : Sto} {i j : Int} : biop S .min [.val (.int i), .val (.int j)] = some (.val (.int (if j < i then j else i))) := rfl
theorem bi_max2 {S : Sto} {i j : Int} : biop S .max [.val (.int i), .val (.int j)] = some (.val (.int (if j > i then j else i))) := rfl
theorem bi_lenl {S : Sto} {ds : List D} : biop S .len [.val (.lst ds)] = some (.val (.int ds.length)) := rfl
theorem bi_lens {S : Sto} {ds : List D} : biop S .len [.val (.scr ds)] = some (.val (.int ds.length)) := rfl
theorem bi_lent {S : Sto} {ds : List D} : biop S .len [.val (.tup ds)] = some (.val (.int ds.length)) := rfl
theorem bi_listo {S : Sto} {ds : List D} : biop S .list [.own ds] = some (.own ds) := rfl
theorem bi_listl {S : Sto} {ds : List D} : biop S .list [.val (.lst ds)] = some (.own ds) := rfl
theorem bi_listt {S : Sto} {ds : List D} : biop S .list [.val (.tup ds)] = some (.own ds) := rfl
theorem bi_tupo {S : Sto} {ds : List D} : biop S .tuple [.own ds] = some (.val (.tup ds)) := rfl
theorem bi_tupb {S : Sto} {ds : List D} : biop S .tuple [.bor ds] = some (.val (.tup ds)) := rfl
theorem bi_tupt {S : Sto} {ds : List D} : biop S .tuple [.val (.tup ds)] = some (.val (.tup ds)) := rfl
theorem bi_tupl {S : Sto} {ds : List D} : biop S .tuple [.val (.lst ds)] = some (.val (.tup ds)) := rfl
theorem sl_scr {S : Sto} {ds : List D} {lo hi : Option Int} : slice S (.val (.scr ds)) lo hi = some (.own (cutD ds lo hi)) := rfl
theorem sl_lst {S : Sto} {ds : List D} {lo hi : Option Int} : slice S (.val (.lst ds)) lo hi = some (.own (cutD ds lo hi)) := rfl
theorem sl_tup {S : Sto} {ds : List D} {lo hi : Option Int} : slice S (.val (.tup ds)) lo hi = some (.val (.tup (cutD ds lo hi))) := rfl
theorem ex_ite {c : Prop} [Decidable c] {A B : Prop} (h1 : c → A) (h2 : ¬ c → B) : if decide c = true then A else B := by
  by_cases h : c
  · rw [if_pos (decide_eq_true h)]; exact h1 h
  · rw [if_neg (by simpa using h)]; exact h2 h
theorem mulok_l {i j : Int} (h1 : -18446744073709551616 < i) (h2 : i < 18446744073709551616) : MulOk i j := .inl (.inl ⟨h1, h2⟩)
theorem mulok_r {i j : Int} (h1 : -18446744073709551616 < j) (h2 : j < 18446744073709551616) : MulOk i j := .inl (.inr ⟨h1, h2⟩)
theorem divok {j : Int} (h1 : 0 < j) (h2 : j < 1073741824) : DivOk j := .inl ⟨h1, h2⟩
theorem DivOk.pos {j : Int} (h : DivOk j) : 0 < j := h.elim (fun z => z.1) fun z => z.1

theorem cmp_strs {S : Sto} {a b : Str} : cmpop S .eq (.val (.str a)) (.val (.str b)) = some (decide (a = b)) := rfl
theorem cmp_strsn {S : Sto} {a b : Str} : cmpop S .ne (.val (.str a)) (.val (.str b)) = some (!decide (a = b)) := rfl
theorem cmp_isn {S : Sto} {d : D} : cmpop S .is (.val d) (.val .non) = some (isN d) := by cases d <;> rfl
theorem cmp_isnn {S : Sto} {d : D} : cmpop S .isnot (.val d) (.val .non) = some (!isN d) := by cases d <;> rfl
theorem cmp_isb {S : Sto} {a b : Bool} : cmpop S .is (.val (.bl a)) (.val (.bl b)) = some (decide (a = b)) := rfl
theorem cmp_isnb {S : Sto} {a b : Bool} : cmpop S .isnot (.val (.bl a)) (.val (.bl b)) = some (!decide (a = b)) := rfl
theorem cmp_bleq {S : Sto} {a b : Bool} : cmpop S .eq (.val (.bl a)) (.val (.bl b)) = some (a == b) := by
  cases a <;> cases b <;> rfl
theorem cmp_blne {S : Sto} {a b : Bool} : cmpop S .ne (.val (.bl a)) (.val (.bl b)) = some (!(a == b)) := by
  cases a <;> cases b <;> rfl

theorem isRef_non : D.isRef .non = false := rfl
theorem isRef_bl {b : Bool} : D.isRef (.bl b) = false := rfl
theorem isRef_int {b : Int} : D.isRef (.int b) = false := rfl
theorem isRef_str {b : Str} : D.isRef (.str b) = false := rfl
theorem isRef_tup {b : List D} : D.isRef (.tup b) = false := rfl
theorem isRef_lst {b : List D} : D.isRef (.lst b) = false := rfl
theorem isRef_scr {b : List D} : D.isRef (.scr b) = false := rfl
theorem refD_v {S : Sto} {d : D} (h : d.isRef = false) : refD S (.val d) = false := by cases d <;> first | rfl | cases h
theorem bi_isi1' {S : Sto} {t : Ty} {d : D} (h : d.isRef = false) : biop S (.isi1 t) [.val d] = some (.val (.bl (tyD d t))) := by
  show (if refD S (.val d) = true then none else some (Rt.val (.bl (tyR (.val d) t)))) = _
  rw [refD_v h]; rfl
theorem bi_isi' {S : Sto} {ts : List Ty} {d : D} (h : d.isRef = false) : biop S (.isi ts) [.val d] = some (.val (.bl (ts.any fun t => tyD d t))) := by
  show (if refD S (.val d) = true then none else some (Rt.val (.bl (ts.any fun t => tyR (.val d) t)))) = _
  rw [refD_v h]; rfl
theorem bi_isi1o {S : Sto} {t : Ty} {ds : List D} : biop S (.isi1 t) [.own ds] = some (.val (.bl (decide (t = .list)))) := rfl
theorem bi_isi1b {S : Sto} {t : Ty} {ds : List D} : biop S (.isi1 t) [.bor ds] = some (.val (.bl (decide (t = .list)))) := rfl
theorem tyD_t {ds : List D} {t : Ty} : tyD (.tup ds) t = decide (t = .tuple) := rfl
theorem tyD_i {i : Int} {t : Ty} : tyD (.int i) t = decide (t = .int) := rfl
theorem tyD_b {b : Bool} {t : Ty} : tyD (.bl b) t = (decide (t = .bool) || decide (t = .int)) := rfl
theorem tyD_s {x : Str} {t : Ty} : tyD (.str x) t = decide (t = .str) := rfl
theorem tyD_l {x : List D} {t : Ty} : tyD (.lst x) t = decide (t = .list) := rfl
theorem tyD_n {t : Ty} : tyD .non t = false := rfl

theorem p_lrng {G : List D} {S : Sto} {j : Int} {Q : Rt → Sto → Prop} : (∃ r S', P1.run G S .lrng (.val (.int j)) = some (r, S') ∧ Q r S') ↔ (0 ≤ j ∧ j ≤ 100000) ∧ Q (.own (rngL 0 j.toNat)) S := by
  show (∃ r S', (if 0 ≤ j ∧ j ≤ 100000 then some (Rt.own (rngL 0 j.toNat), S) else none) = some (r, S') ∧ Q r S') ↔ _
  split
  · rename_i h
    exact ⟨fun ⟨r, S', e, q⟩ => by cases e; exact ⟨h, q⟩, fun q => ⟨_, _, rfl, q.2⟩⟩
  · rename_i h
    exact ⟨fun ⟨r, S', e, q⟩ => (nomatch e), fun q => absurd q.1 h⟩
theorem p_revl {G : List D} {S : Sto} {ds : List D} : P1.run G S .rev (.val (.lst ds)) = some (.own ds.reverse, S) := rfl
theorem p_revo {G : List D} {S : Sto} {ds : List D} : P1.run G S .rev (.own ds) = some (.own ds.reverse, S) := rfl
theorem p_revb {G : List D} {S : Sto} {ds : List D} : P1.run G S .rev (.bor ds) = some (.own ds.reverse, S) := rfl
theorem p_revt {G : List D} {S : Sto} {ds : List D} : P1.run G S .rev (.val (.tup ds)) = some (.val (.tup ds.reverse), S) := rfl
theorem intsM : ∀ is : List Int, ints? (is.map .int) = some is
  | [] => rfl
  | i :: is => by
    show (ints? (is.map .int)).map _ = _
    rw [intsM is]; rfl
theorem set_any {G : List D} {S : Sto} {r : Rt} {is : List Int} {Q : Rt → Sto → Prop} (h : sview S r = some (is.map .int)) : ((∃ r' S', P1.run G S .sset r = some (r', S') ∧ Q r' S') ↔ (is.length ≤ 1000 ∧ (uniq is).length < 64) ∧ Q (.own ((sortI (uniq is)).map .int)) S) ∧
    ((∃ r' S', P1.run G S .lset r = some (r', S') ∧ Q r' S') ↔ (is.length ≤ 1000 ∧ (uniq is).length < 64) ∧ Q (.val (.int (uniq is).length)) S) := by
  have e1 : P1.run G S .sset r = if is.length ≤ 1000 ∧ (uniq is).length < 64 then some (.own ((sortI (uniq is)).map .int), S) else none := by
    show ((sview S r).bind fun ds => (ints? ds).bind fun is => if is.length ≤ 1000 ∧ (uniq is).length < 64 then some (Rt.own ((sortI (uniq is)).map .int), S) else none) = _
    rw [h, Option.bind_some, intsM]; rfl
  have e2 : P1.run G S .lset r = if is.length ≤ 1000 ∧ (uniq is).length < 64 then some (.val (.int (uniq is).length), S) else none := by
    show ((sview S r).bind fun ds => (ints? ds).bind fun is => if is.length ≤ 1000 ∧ (uniq is).length < 64 then some (Rt.val (.int (uniq is).length), S) else none) = _
    rw [h, Option.bind_some, intsM]; rfl
  rw [e1, e2]
  refine ⟨?_, ?_⟩
  · split
    · rename_i h
      exact ⟨fun ⟨r, S', e, q⟩ => by cases e; exact ⟨h, q⟩, fun q => ⟨_, _, rfl, q.2⟩⟩
    · rename_i h
      exact ⟨fun ⟨r, S', e, q⟩ => (nomatch e), fun q => absurd q.1 h⟩
  · split
    · rename_i h
      exact ⟨fun ⟨r, S', e, q⟩ => by cases e; exact ⟨h, q⟩, fun q => ⟨_, _, rfl, q.2⟩⟩
    · rename_i h
      exact ⟨fun ⟨r, S', e, q⟩ => (nomatch e), fun q => absurd q.1 h⟩
theorem p_sseto {G : List D} {S : Sto} {is : List Int} {Q : Rt → Sto → Prop} : (∃ r' S', P1.run G S .sset (.own (is.map .int)) = some (r', S') ∧ Q r' S') ↔ (is.length ≤ 1000 ∧ (uniq is).length < 64) ∧ Q (.own ((sortI (uniq is)).map .int)) S := (set_any rfl).1
theorem blsM : ∀ is : List Bool, bls? (is.map .bl) = some is
  | [] => rfl
  | i :: is => by
    show (bls? (is.map .bl)).map _ = _
    rw [blsM is]; rfl
theorem p_lsetb {G : List D} {S : Sto} {is : List Bool} {Q : Rt → Sto → Prop} : (∃ r' S', P1.run G S .lsetb (.own (is.map .bl)) = some (r', S') ∧ Q r' S') ↔ is.length ≤ 1000 ∧ Q (.val (.int (ubl is))) S := by
  have e : P1.run G S .lsetb (.own (is.map .bl)) = if is.length ≤ 1000 then some (.val (.int (ubl is)), S) else none := by
    show ((bls? (is.map .bl)).bind _) = _
    rw [blsM]; rfl
  rw [e]
  split
  · rename_i h
    exact ⟨fun ⟨_, _, z, q⟩ => by cases z; exact ⟨h, q⟩, fun z => ⟨_, _, rfl, z.2⟩⟩
  · rename_i h
    exact ⟨fun ⟨_, _, z, _⟩ => (nomatch z), fun z => absurd z.1 h⟩
theorem tintsM : ∀ tss : List (List Int), tints? (tss.map fun t => .tup (t.map .int)) = some tss
  | [] => rfl
  | t :: tss => by
    show (ints? (t.map .int)).bind _ = _
    rw [intsM, Option.bind_some, tintsM tss]; rfl
theorem p_mint {G : List D} {S : Sto} {t : List Int} {ts : List (List Int)} : P1.run G S .mint (.bor ((t :: ts).map fun t => .tup (t.map .int))) = some (.val (.tup ((minT t ts).map .int)), S) := by
  show ((tints? ((t :: ts).map fun t => .tup (t.map .int))).bind _) = _
  rw [tintsM]; rfl
theorem p_predzip {S : Sto} {a : Rt} : P2.pre S .dzip a = true := rfl
theorem p_lsetl {G : List D} {S : Sto} {is : List Int} {Q : Rt → Sto → Prop} : (∃ r' S', P1.run G S .lset (.val (.lst (is.map .int))) = some (r', S') ∧ Q r' S') ↔ (is.length ≤ 1000 ∧ (uniq is).length < 64) ∧ Q (.val (.int (uniq is).length)) S := (set_any rfl).2
theorem p_lsett {G : List D} {S : Sto} {is : List Int} {Q : Rt → Sto → Prop} : (∃ r' S', P1.run G S .lset (.val (.tup (is.map .int))) = some (r', S') ∧ Q r' S') ↔ (is.length ≤ 1000 ∧ (uniq is).length < 64) ∧ Q (.val (.int (uniq is).length)) S := (set_any rfl).2

def mxL (j : Int) : List Int → Int
  | [] => j
  | i :: is => maxI i is
theorem p_mxdo {G : List D} {S : Sto} {is : List Int} {j : Int} : P2.run G S .mxd (.own (is.map .int)) (.val (.int j)) = some (.val (.int (mxL j is)), S) := by
  show ((ints? (is.map .int)).bind _) = _
  rw [intsM]
  cases is <;> rfl
theorem p_premxd {S : Sto} {x : Rt} : (P2.pre S .mxd x = true) = True := eq_true rfl
theorem p_prelrng2 {S : Sto} {x : Rt} : (P2.pre S .lrng2 x = true) = True := eq_true rfl
theorem p_lrng2 {G : List D} {S : Sto} {i j : Int} {Q : Rt → Sto → Prop} : (∃ r S', P2.run G S .lrng2 (.val (.int i)) (.val (.int j)) = some (r, S') ∧ Q r S') ↔ (0 ≤ i ∧ i ≤ j ∧ j ≤ 100000) ∧ Q (.own (rngL i (j - i).toNat)) S := by
  show (∃ r S', (if 0 ≤ i ∧ i ≤ j ∧ j ≤ 100000 then some (Rt.own (rngL i (j - i).toNat), S) else none) = some (r, S') ∧ Q r S') ↔ _
  split
  · rename_i h
    exact ⟨fun ⟨r, S', e, q⟩ => by cases e; exact ⟨h, q⟩, fun q => ⟨_, _, rfl, q.2⟩⟩
  · rename_i h
    exact ⟨fun ⟨r, S', e, q⟩ => (nomatch e), fun q => absurd q.1 h⟩
theorem p_precount {S : Sto} {x : Rt} {ds : List D} (h : lview S x = some ds) : P2.pre S .count x = true ∧ P2.pre S .index x = true := by
  refine ⟨?_, ?_⟩
  · show (lview S x).isSome = true
    rw [h]; rfl
  · show (lview S x).isSome = true
    rw [h]; rfl
theorem p_count {G : List D} {S : Sto} {x : Rt} {ds : List D} {d : D} (h : lview S x = some ds) (h1 : flatD d = true) (h2 : ds.all flatD = true) : P2.run G S .count x (.val d) = some (.val (.int ((ds.map vOf).countP fun z => eqV z (vOf d))), S) := by
  show ((lview S x).bind fun ds => if flatD d = true ∧ ds.all flatD = true then some (Rt.val (.int ((ds.map vOf).countP fun z => eqV z (vOf d))), S) else none) = _
  rw [h, Option.bind_some, if_pos ⟨h1, h2⟩]
theorem p_gget {G : List D} {S : Sto} {j : Nat} {k : Str} {Q : Rt → Sto → Prop} : (∃ r S', P1.run G S (.gget j) (.val (.str k)) = some (r, S') ∧ Q r S') ↔ ∃ ks ds d, G[j]? = some (.dct ks ds) ∧ valD ks ds (.inr k) = some d ∧ Q (.val d) S := by
  show (∃ r S', ((G[j]?).bind fun d => d.dct?.bind fun t => (valD t.1 t.2 (.inr k)).map fun x => (Rt.val x, S)) = some (r, S') ∧ Q r S') ↔ _
  constructor
  · rintro ⟨r, S', e, q⟩
    obtain ⟨d, h1, e⟩ := Mi.bind_some e
    obtain ⟨t, h2, e⟩ := Mi.bind_some e
    obtain ⟨x, h3, e⟩ := map_some e
    cases e
    cases d with
    | dct ks ds => cases h2; exact ⟨ks, ds, x, h1, h3, q⟩
    | _ => cases h2
  · rintro ⟨ks, ds, d, h1, h2, q⟩
    refine ⟨.val d, S, ?_, q⟩
    rw [h1, Option.bind_some]
    show (valD ks ds (.inr k)).map _ = _
    rw [h2]; rfl
theorem p_gin {G : List D} {S : Sto} {n : Bool} {j : Nat} {k : Str} {Q : Rt → Sto → Prop} : (∃ r S', P1.run G S (.gin n j) (.val (.str k)) = some (r, S') ∧ Q r S') ↔ ∃ ks ds, G[j]? = some (.dct ks ds) ∧ Q (.val (.bl (xor n (valD ks ds (.inr k)).isSome))) S := by
  show (∃ r S', ((G[j]?).bind fun d => d.dct?.bind fun t => some (Rt.val (.bl (xor n (valD t.1 t.2 (.inr k)).isSome)), S)) = some (r, S') ∧ Q r S') ↔ _
  constructor
  · rintro ⟨r, S', e, q⟩
    obtain ⟨d, h1, e⟩ := Mi.bind_some e
    obtain ⟨t, h2, e⟩ := Mi.bind_some e
    cases e
    cases d with
    | dct ks ds => cases h2; exact ⟨ks, ds, h1, q⟩
    | _ => cases h2
  · rintro ⟨ks, ds, h1, q⟩
    refine ⟨_, S, ?_, q⟩
    rw [h1, Option.bind_some]; rfl
theorem p_mx3 {S : Sto} {i j k : Int} : P3.run S .mx3 (.val (.int i)) (.val (.int j)) (.val (.int k)) = some (.val (.int (maxI i [j, k])), S) := rfl
theorem p_get {S : Sto} {ks : List Key} {ds : List D} {k : Str} {f : D} : P3.run S .get (.ownd ks ds) (.val (.str k)) (.val f) = some (.val ((valD ks ds (.inr k)).getD f), S) := rfl
theorem p_pre {S : Sto} {x : Rt} : P2.pre S .split x = true ∧ P2.pre S .join x = true := ⟨rfl, rfl⟩
theorem p_presplit {S : Sto} {x : Rt} : (P2.pre S .split x = true) = True := eq_true rfl
theorem p_prejoin {S : Sto} {x : Rt} : (P2.pre S .join x = true) = True := eq_true rfl
theorem p_rpop {G : List D} {S : Sto} {l : Nat} {ds : List D} {k : Int} {d : D} (h : S[l]? = some (.lst ds)) (h0 : 0 ≤ k) (h1 : ds[k.toNat]? = some d) (hl : ds.length ≤ 1000000) : P2.run G S .rpop (.val (.ref l)) (.val (.int k)) = some (.val d, S.set l (.lst (ds.eraseIdx k.toNat))) := by
  have hk : k.toNat < ds.length := (List.getElem?_eq_some_iff.mp h1).1
  show ((cellL S l).bind fun ds => if -(2 ^ 63) ≤ k ∧ k < 2 ^ 63 then (seqIndex? k ds.length).bind fun j => (ds[j]?).map fun d => (Rt.val d, S.set l (.lst (ds.eraseIdx j))) else none) = _
  rw [cellL_of h, Option.bind_some, if_pos ⟨by omega, by omega⟩, seqIndex_of h0 (show k < ((ds.length : Nat) : Int) by omega), Option.bind_some, h1]; rfl
theorem p_prerpop {S : Sto} {l : Nat} {ds : List D} (h : S[l]? = some (.lst ds)) : P2.pre S .rpop (.val (.ref l)) = true := by
  show (cellL S l).isSome = true
  rw [cellL_of h]; rfl
theorem p_split {G : List D} {S : Sto} {a b : Str} {Q : Rt → Sto → Prop} : (∃ r S', P2.run G S .split (.val (.str a)) (.val (.str b)) = some (r, S') ∧ Q r S') ↔ ((b.length == 0) = false ∧ a.length + 2 ≤ sizeLine) ∧ Q (.own ((Txt.split a b).map .str)) S := by
  show (∃ r S', (if (b.length == 0) = false ∧ a.length + 2 ≤ sizeLine then some (Rt.own ((Txt.split a b).map .str), S) else none) = some (r, S') ∧ Q r S') ↔ _
  split
  · rename_i h
    exact ⟨fun ⟨r, S', e, q⟩ => by cases e; exact ⟨h, q⟩, fun q => ⟨_, _, rfl, q.2⟩⟩
  · rename_i h
    exact ⟨fun ⟨r, S', e, q⟩ => (nomatch e), fun q => absurd q.1 h⟩

theorem dct_o {S : Sto} {ks : List Key} {ds : List D} : (Rt.ownd ks ds).dct? S = some (ks, ds) := rfl
theorem dct_v {S : Sto} {ks : List Key} {ds : List D} : (Rt.val (.dct ks ds)).dct? S = some (ks, ds) := rfl
theorem dct_r {S : Sto} {l : Nat} {ks : List Key} {ds : List D} (h : S[l]? = some (.dct ks ds)) : (Rt.val (.ref l)).dct? S = some (ks, ds) := by
  show cellD S l = _
  unfold cellD; rw [h]
theorem rd_ownd {ks : List Key} {ds : List D} : (Rt.ownd ks ds).d = some (.dct ks ds) := rfl
theorem key_i {i : Int} : (Rt.val (.int i)).key? = some (.inl i) := rfl
theorem key_s {x : Str} : (Rt.val (.str x)).key? = some (.inr x) := rfl
theorem valD_cons {k q : Key} {ks : List Key} {d : D} {ds : List D} : valD (k :: ks) (d :: ds) q = if k = q then some d else valD ks ds q := by rw [valD]
theorem valD_nil {q : Key} {ds : List D} : valD [] ds q = none := by unfold valD; rfl
def sqD : Kd → List D → D
  | .l, ds => .lst ds
  | .t, ds => .tup ds
theorem still_sq {z : Bool} : ∀ {k : Kd} {ds : List D}, still z (.val (sqD k ds)) = some ds
  | .l, _ => rfl
  | .t, _ => rfl
theorem ix_sq : ∀ {S : Sto} {k : Kd} {ds : List D} {i : Int}, index S (.val (sqD k ds)) (.val (.int i)) = atI ds i
  | _, .l, _, _ => rfl
  | _, .t, _, _ => rfl
theorem bi_lensq : ∀ {S : Sto} {k : Kd} {ds : List D}, biop S .len [.val (sqD k ds)] = some (.val (.int ds.length))
  | _, .l, _ => rfl
  | _, .t, _ => rfl
theorem bi_tupsq : ∀ {S : Sto} {k : Kd} {ds : List D}, biop S .tuple [.val (sqD k ds)] = some (.val (.tup ds))
  | _, .l, _ => rfl
  | _, .t, _ => rfl
theorem bi_listsq : ∀ {S : Sto} {k : Kd} {ds : List D}, biop S .list [.val (sqD k ds)] = some (.own ds)
  | _, .l, _ => rfl
  | _, .t, _ => rfl
theorem zipL_map {α β : Type} {f : α → D} {g : β → D} : ∀ (xs : List α) (ys : List β), zipL (xs.map f) (ys.map g) = (xs.zip ys).map fun p => .tup [f p.1, g p.2]
  | [], ys => rfl
  | x :: xs, [] => rfl
  | x :: xs, y :: ys => by
    show D.tup [f x, g y] :: zipL (xs.map f) (ys.map g) = _
    rw [zipL_map xs ys]; rfl
theorem atI_mem {ds : List D} {r : Int} (h0 : 0 ≤ r) (h1 : r < ds.length) : ∃ d, d ∈ ds ∧ atI ds r = some d := by
  have h : r.toNat < ds.length := by omega
  exact ⟨ds[r.toNat], List.getElem_mem h, atI_at h0 (List.getElem?_eq_getElem h)⟩
theorem atI_map {α : Type} {f : α → D} {xs : List α} {i : Nat} {x : α} (h : xs[i]? = some x) : atI (xs.map f) (i : Int) = some (f x) := L2.atI_nat (by rw [List.getElem?_map, h]; rfl)
theorem ints?_map : ∀ is : List Int, ints? (is.map .int) = some is
  | [] => rfl
  | i :: is => by
    show (ints? (is.map .int)).map _ = _
    rw [ints?_map is]; rfl
theorem bls?_map : ∀ is : List Bool, bls? (is.map .bl) = some is
  | [] => rfl
  | i :: is => by
    show (bls? (is.map .bl)).map _ = _
    rw [bls?_map is]; rfl
theorem bi_sumo {S : Sto} {is : List Int} : biop S .sum [.own (is.map .int)] = some (.val (.int is.sum)) := by
  show (ints? (is.map .int)).map _ = _
  rw [ints?_map]; rfl
theorem bi_sumt {S : Sto} {is : List Int} : biop S .sum [.val (.tup (is.map .int))] = some (.val (.int is.sum)) := by
  show (ints? (is.map .int)).map _ = _
  rw [ints?_map]; rfl
theorem bi_sumq {S : Sto} {k : Kd} {is : List Int} : biop S .sum [.val (sqD k (is.map .int))] = some (.val (.int is.sum)) := by
  cases k <;> (show (ints? (is.map .int)).map _ = _; rw [ints?_map]; rfl)
theorem bi_maxt {S : Sto} {i : Int} {is : List Int} : biop S .max [.val (.tup ((i :: is).map .int))] = some (.val (.int (maxI i is))) := by
  show ((ints? ((i :: is).map .int)).bind _) = _
  rw [ints?_map]; rfl
theorem bi_mint {S : Sto} {i : Int} {is : List Int} : biop S .min [.val (.tup ((i :: is).map .int))] = some (.val (.int (minI i is))) := by
  show ((ints? ((i :: is).map .int)).bind _) = _
  rw [ints?_map]; rfl
theorem bi_maxo {S : Sto} {i : Int} {is : List Int} : biop S .max [.own ((i :: is).map .int)] = some (.val (.int (maxI i is))) := by
  show ((ints? ((i :: is).map .int)).bind _) = _
  rw [ints?_map]; rfl
theorem bi_minq {S : Sto} {k : Kd} {i : Int} {is : List Int} : biop S .min [.val (sqD k ((i :: is).map .int))] = some (.val (.int (minI i is))) := by
  cases k <;> (show ((ints? ((i :: is).map .int)).bind _) = _; rw [ints?_map]; rfl)
theorem ix_any {ds : List D} {r : Int} {Q : D → Prop} (P : D → Prop) (h0 : 0 ≤ r) (h1 : r < ds.length) (hP : ∀ d, d ∈ ds → P d) (q : ∀ d, P d → Q d) : ∃ d, atI ds r = some d ∧ Q d := by
  obtain ⟨d, hm, e⟩ := atI_mem h0 h1
  exact ⟨d, e, q d (hP d hm)⟩
theorem bi_allm {S : Sto} {is : List Bool} : biop S .all [.own (is.map .bl)] = some (.val (.bl (is.all id))) := by
  show (bls? (is.map .bl)).map _ = _
  rw [bls?_map]; rfl
theorem bi_anym {S : Sto} {is : List Bool} : biop S .any [.own (is.map .bl)] = some (.val (.bl (is.any id))) := by
  show (bls? (is.map .bl)).map _ = _
  rw [bls?_map]; rfl
section
variable {Φ : Fns} {G : List D} {ρ : Env} {S : Sto} {Qs : List D → Sto → Prop}
theorem wL_map {α : Type} {t : MT} {c : MO} {e : ME} {xs : List α} {f : α → D} (g : α → D) (hs : ∀ x, x ∈ xs → wTn Φ G t c e ρ (f x) S fun o S1 => o = some (g x) ∧ S1 = S) (hd : Qs (xs.map g) S) : wL Φ G t c e ρ (xs.map f) S Qs := by
  refine wL_inv (fun i ys S' => ys = (xs.take i).map g ∧ S' = S) ⟨rfl, rfl⟩ (fun i d ys S' hi h => ?_) fun ys S' h => ?_
  · obtain ⟨rfl, rfl⟩ := h
    rw [List.getElem?_map] at hi
    obtain ⟨x, hx, rfl⟩ := map_some hi
    obtain ⟨ρ1, S1, e1, b, S2, e2, q⟩ := hs x (List.mem_of_getElem? hx)
    have fin : ∀ o, o = some (g x) → (xs.take i).map g ++ o.toList = (xs.take (i + 1)).map g := fun o ho => by
      rw [List.take_add_one, hx, ho, List.map_append]; rfl
    refine ⟨ρ1, S1, e1, b, S2, e2, ?_⟩
    cases b with
    | false => rw [if_neg (by decide)] at q ⊢; exact ⟨fin _ q.1, q.2⟩
    | true =>
      rw [if_pos rfl] at q ⊢
      obtain ⟨z, S3, e3, y, hy, q⟩ := q
      exact ⟨z, S3, e3, y, hy, fin _ q.1, q.2⟩
  · obtain ⟨rfl, rfl⟩ := h
    rw [List.length_map, List.take_length]; exact hd

theorem wL_draw {β : Type} {t : MT} {c : MO} {e : ME} {ds : List D} (g : β → D) (P : β → Prop) (J : Nat → Sto → Prop) (h0 : J 0 S)
    (hs : ∀ i d S, ds[i]? = some d → J i S → wTn Φ G t c e ρ d S fun o S1 => ∃ b, o = some (g b) ∧ P b ∧ J (i + 1) S1)
    (hd : ∀ (bs : List β) S', bs.length = ds.length → (∀ b, b ∈ bs → P b) → J ds.length S' → Qs (bs.map g) S') : wL Φ G t c e ρ ds S Qs := by
  refine wL_inv (fun i ys S' => ∃ bs : List β, ys = bs.map g ∧ bs.length = i ∧ (∀ b, b ∈ bs → P b) ∧ J i S') ⟨[], rfl, rfl, (fun _ z => nomatch z), h0⟩ (fun i d ys S' hi h => ?_) fun ys S' h => ?_
  · obtain ⟨bs, rfl, hl, hP, hJ⟩ := h
    obtain ⟨ρ1, S1, e1, b, S2, e2, q⟩ := hs i d S' hi hJ
    have fin : ∀ o S3, (∃ b, o = some (g b) ∧ P b ∧ J (i + 1) S3) → ∃ bs' : List β, bs.map g ++ o.toList = bs'.map g ∧ bs'.length = i + 1 ∧ (∀ b, b ∈ bs' → P b) ∧ J (i + 1) S3 := fun o S3 ⟨b, ho, hb, hj⟩ => by
      refine ⟨bs ++ [b], by rw [ho, List.map_append]; rfl, by rw [List.length_append, hl]; rfl, fun x hx => ?_, hj⟩
      rcases List.mem_append.mp hx with z | z
      · exact hP x z
      · rw [List.mem_singleton.mp z]; exact hb
    refine ⟨ρ1, S1, e1, b, S2, e2, ?_⟩
    cases b with
    | false => rw [if_neg (by decide)] at q ⊢; exact fin _ _ q
    | true =>
      rw [if_pos rfl] at q ⊢
      obtain ⟨z, S3, e3, y, hy, q⟩ := q
      exact ⟨z, S3, e3, y, hy, fin _ _ q⟩
  · obtain ⟨bs, rfl, hl, hP, hJ⟩ := h
    exact hd bs S' hl hP hJ
end


theorem rep_tup {S : Sto} {xs : List D} {k : Int} {Q : Rt → Prop} : (∃ r, binop S .mul (.val (.tup xs)) (.val (.int k)) = some r ∧ Q r) ↔ (xs ≠ [] ∧ 2 ≤ k ∧ k ≤ 1000 ∧ xs.length ≤ 1000) ∧ Q (.val (.tup (List.replicate k.toNat xs).flatten)) := by
  show (∃ r, (if xs ≠ [] ∧ 2 ≤ k ∧ k ≤ 1000 ∧ xs.length ≤ 1000 then some (Rt.val (.tup (List.replicate k.toNat xs).flatten)) else none) = some r ∧ Q r) ↔ _
  split
  · rename_i h
    exact ⟨fun ⟨r, e, q⟩ => by cases e; exact ⟨h, q⟩, fun q => ⟨_, rfl, q.2⟩⟩
  · rename_i h
    exact ⟨fun ⟨r, e, q⟩ => (nomatch e), fun q => absurd q.1 h⟩
theorem bin_shl' {S : Sto} {i j : Int} {Q : Rt → Prop} : (∃ r, binop S .shl (.val (.int i)) (.val (.int j)) = some r ∧ Q r) ↔ (0 ≤ j ∧ j ≤ 1000000 ∧ i.natAbs < 2 ^ 64) ∧ Q (.val (.int (i * 2 ^ j.toNat))) := by
  show (∃ r, (if 0 ≤ j ∧ j ≤ 1000000 ∧ i.natAbs < 2 ^ 64 then some (i * 2 ^ j.toNat) else none).map (fun k => Rt.val (.int k)) = some r ∧ Q r) ↔ _
  split
  · rename_i h
    exact ⟨fun ⟨r, e, q⟩ => by cases e; exact ⟨h, q⟩, fun q => ⟨_, rfl, q.2⟩⟩
  · rename_i h
    exact ⟨fun ⟨r, e, q⟩ => (nomatch e), fun q => absurd q.1 h⟩
theorem cat_ss {S : Sto} {a b : Str} {Q : Rt → Prop} : (∃ r, binop S .add (.val (.str a)) (.val (.str b)) = some r ∧ Q r) ↔ a.length + b.length ≤ sizeLine ∧ Q (.val (.str (a ++ b))) := by
  show (∃ r, (if a.length + b.length ≤ sizeLine then some (Rt.val (.str (a ++ b))) else none) = some r ∧ Q r) ↔ _
  split
  · rename_i h
    exact ⟨fun ⟨r, e, q⟩ => by cases e; exact ⟨h, q⟩, fun q => ⟨_, rfl, q.2⟩⟩
  · rename_i h
    exact ⟨fun ⟨r, e, q⟩ => (nomatch e), fun q => absurd q.1 h⟩

def Sh (n w : Nat) (d : D) : Prop := ∃ p, toPy d = some p ∧ p.canLay0 = true ∧ p.showable = true ∧ p.hasDict = false ∧ p.depth ≤ n ∧ p.leavesShort 130 = true ∧ p.bulk ≤ w
theorem Sh.mono {n n' w w' : Nat} {d : D} (h : Sh n w d) (hn : n ≤ n') (hw : w ≤ w') : Sh n' w' d := by
  obtain ⟨p, e, c, s, k, dp, l, b⟩ := h
  exact ⟨p, e, c, s, k, by omega, l, by omega⟩
theorem Sh.non : Sh 0 0 .non := ⟨.none, rfl, rfl, rfl, rfl, Nat.le_refl _, rfl, Nat.le_refl _⟩
theorem Sh.bl (b : Bool) : Sh 0 0 (.bl b) := ⟨.bool b, rfl, rfl, rfl, rfl, Nat.le_refl _, rfl, Nat.le_refl _⟩
theorem Sh.int {i : Int} (h1 : -170141183460469231731687303715884105728 < i) (h2 : i < 170141183460469231731687303715884105728) : Sh 0 0 (.int i) := by
  have hn : i.natAbs < 2 ^ 127 := by omega
  have hl : i.natAbs.log2 < 127 := by
    by_cases z : i.natAbs = 0
    · rw [z]; decide
    · exact (Nat.log2_lt z).mpr hn
  refine ⟨.int i, rfl, rfl, ?_, rfl, Nat.le_refl _, ?_, Nat.le_refl _⟩
  · unfold PyData.showable
    exact decide_eq_true (Nat.lt_trans hl (by decide))
  · unfold PyData.leavesShort
    refine decide_eq_true ?_
    have := int_text_length_le (a := i) (k := 127) (by decide) hl
    show (Str.ofString (toString i)).length ≤ 130
    rw [Str.ofString_eq_toList]
    show ((toString i).toList.map Char.toNat).toArray.size ≤ 130
    rw [List.size_toArray, List.length_map, String.length_toList]
    omega
theorem Sh.str {x : Str} (h : PyData.strOk x = true) : Sh 0 x.cps.size (.str x) := by
  refine ⟨.str x, rfl, h, rfl, rfl, Nat.le_refl _, ?_, Nat.le_refl _⟩
  unfold PyData.leavesShort
  unfold PyData.strOk at h
  rw [List.all_eq_true]
  intro c hc
  rw [Array.all_eq_true'] at h
  have := h c (Array.mem_toList_iff.mp hc)
  simp only [decide_eq_true_eq] at this ⊢
  exact Nat.lt_trans this (by decide)
theorem ofString_size (s : String) : (Str.ofString s).cps.size = s.length := by
  rw [Str.ofString_eq_toList]
  show (s.toList.map Char.toNat).toArray.size = _
  rw [List.size_toArray, List.length_map, String.length_toList]
theorem Sh.lit {s : String} {w : Nat} (h : s.length ≤ w) : Sh 0 w (.str (Str.ofString s)) :=
  (Sh.str (strOk_of s)).mono (Nat.le_refl _) (by rw [ofString_size]; exact h)
theorem Sh.all {n w : Nat} : ∀ {ds : List D}, (∀ d, d ∈ ds → Sh n w d) → ∃ ps, toPys ds = some ps ∧ PyData.canLayAll0 ps = true ∧ PyData.showableAll ps = true ∧ PyData.hasDictAll ps = false ∧ PyData.depthAll ps ≤ n ∧ PyData.leavesShortAll 130 ps = true ∧ PyData.bulkAll ps ≤ ds.length * (w + 1)
  | [], _ => ⟨[], rfl, rfl, rfl, rfl, Nat.zero_le _, rfl, Nat.zero_le _⟩
  | d :: ds, h => by
    obtain ⟨p, e, c, s, k, dp, l, b⟩ := h d List.mem_cons_self
    obtain ⟨ps, e2, c2, s2, k2, dp2, l2, b2⟩ := Sh.all (n := n) (w := w) (ds := ds) fun d hd => h d (List.mem_cons_of_mem _ hd)
    refine ⟨p :: ps, by unfold toPys; rw [e, e2]; rfl, by unfold PyData.canLayAll0; rw [c, c2]; rfl, by unfold PyData.showableAll; rw [s, s2]; rfl, by unfold PyData.hasDictAll; rw [k, k2]; rfl, by unfold PyData.depthAll; omega, by unfold PyData.leavesShortAll; rw [l, l2]; rfl, ?_⟩
    unfold PyData.bulkAll
    rw [List.length_cons, Nat.succ_mul]
    omega
theorem Sh.tup {n w : Nat} {ds : List D} (h : ∀ d, d ∈ ds → Sh n w d) : Sh (n + 1) (ds.length * (w + 1)) (.tup ds) := by
  obtain ⟨ps, e2, c2, s2, k2, dp2, l2, b2⟩ := Sh.all h
  exact ⟨.tuple ps, by unfold toPy; rw [e2]; rfl, by unfold PyData.canLay0; exact c2, by unfold PyData.showable; exact s2, by unfold PyData.hasDict; exact k2, by unfold PyData.depth; omega, by unfold PyData.leavesShort; exact l2, by unfold PyData.bulk; exact b2⟩
theorem Sh.lst {n w : Nat} {ds : List D} (h : ∀ d, d ∈ ds → Sh n w d) : Sh (n + 1) (ds.length * (w + 1)) (.lst ds) := by
  obtain ⟨ps, e2, c2, s2, k2, dp2, l2, b2⟩ := Sh.all h
  exact ⟨.list ps, by unfold toPy; rw [e2]; rfl, by unfold PyData.canLay0; exact c2, by unfold PyData.showable; exact s2, by unfold PyData.hasDict; exact k2, by unfold PyData.depth; omega, by unfold PyData.leavesShort; exact l2, by unfold PyData.bulk; exact b2⟩

theorem Sh.two {n w1 w2 : Nat} {a b : D} (h1 : Sh n w1 a) (h2 : Sh n w2 b) : Sh (n + 1) (w1 + w2 + 2) (.tup [a, b]) ∧ Sh (n + 1) (w1 + w2 + 2) (.lst [a, b]) := by
  obtain ⟨p, e, c, s, k, dp, l, bk⟩ := h1
  obtain ⟨p2, e2, c2, s2, k2, dp2, l2, bk2⟩ := h2
  have ep : toPys [a, b] = some [p, p2] := by unfold toPys toPys toPys; rw [e, e2]; rfl
  refine ⟨⟨.tuple [p, p2], by unfold toPy; rw [ep]; rfl, ?_, ?_, ?_, ?_, ?_, ?_⟩, ⟨.list [p, p2], by unfold toPy; rw [ep]; rfl, ?_, ?_, ?_, ?_, ?_, ?_⟩⟩
  all_goals simp only [PyData.canLay0, PyData.canLayAll0, PyData.showable, PyData.showableAll, PyData.hasDict, PyData.hasDictAll, PyData.depth, PyData.depthAll, PyData.leavesShort, PyData.leavesShortAll, PyData.bulk, PyData.bulkAll, c, c2, s, s2, k, k2, l, l2, Bool.and_self, Bool.or_self]
  all_goals omega

def strD (d : D) : Str := ((toPy d).map PyData.shown).getD ""
theorem bi_strv {S : Sto} {d : D} {n w : Nat} (h : Sh n w d) (hs : (Rt.val d).str? = none) (hn : n ≤ 64) (hw : w ≤ 127000) : biop S .str [.val d] = some (.val (.str (strD d))) := by
  obtain ⟨p, e, c, s, k, dp, l, b⟩ := h
  show bi1 S .str (.val d) = _
  have hl := PyData.shown_le_bulk 130 (by decide) p l
  have hz : p.shown.length ≤ sizeLine := by
    have : sizeLine = 16777216 := rfl
    omega
  unfold bi1
  dsimp only
  rw [hs]
  dsimp only
  rw [show pyR (.val d) = toPy d from rfl, e, Option.bind_some, if_pos ⟨s, k, by omega, hz⟩]
  unfold strD
  rw [e]; rfl
theorem bi_stro {S : Sto} {ds : List D} {n w : Nat} (h : Sh n w (.lst ds)) (hn : n ≤ 64) (hw : w ≤ 127000) : biop S .str [.own ds] = some (.val (.str (strD (.lst ds)))) := by
  have := bi_strv (S := S) h rfl hn hw
  exact this
theorem Sh.shaped {n w : Nat} {d : D} (h : Sh n w d) (hn : n ≤ 64) : ∃ p, toPy d = some p ∧ SeqAt.shaped p = true ∧ p.canLay0 = true := by
  obtain ⟨p, e, c, s, k, dp, l, b⟩ := h
  exact ⟨p, e, by unfold SeqAt.shaped; rw [c, decide_eq_true (show p.depth ≤ 64 by omega)]; rfl, c⟩

def eqD (a b : D) : Bool := match toPy a, toPy b with
  | some p, some q => PyData.eqv p q
  | _, _ => false
theorem pyS_v {S : Sto} {d : D} (h : d.isRef = false) : pyS S (.val d) = toPy d := by cases d <;> first | rfl | cases h
theorem Sh.isRef {n w : Nat} {d : D} (h : Sh n w d) : d.isRef = false := by
  obtain ⟨p, e, _⟩ := h
  cases d <;> first | rfl | cases e
theorem eqop_pf {S : Sto} {x y : Rt} {p q : PyData} (hx : pyS S x = some p) (hy : pyS S y = some q) (sp : SeqAt.shaped p = true) (sq : SeqAt.shaped q = true) : eqop S x y = some (PyData.eqv p q) := by
  unfold eqop
  split
  · rename_i i j h1 h2
    rw [str?_some h1] at hx
    rw [str?_some h2] at hy
    cases (show some (PyData.str i) = some p from hx)
    cases (show some (PyData.str j) = some q from hy)
    unfold PyData.eqv
    congr 1
  · unfold eqop0
    rw [hx, hy, Option.bind_some, Option.bind_some, if_pos ⟨sp, sq⟩]
theorem cmp_eqD {S : Sto} {a b : D} {n w m v : Nat} (ha : Sh n w a) (hb : Sh m v b) (hn : n ≤ 64) (hm : m ≤ 64) : cmpop S .eq (.val a) (.val b) = some (eqD a b) := by
  obtain ⟨p, e, s, _⟩ := ha.shaped hn
  obtain ⟨q, e2, s2, _⟩ := hb.shaped hm
  show eqop S _ _ = _
  rw [eqop_pf ((pyS_v ha.isRef).trans e) ((pyS_v hb.isRef).trans e2) s s2]
  unfold eqD; rw [e, e2]
theorem cmp_neD {S : Sto} {a b : D} {n w m v : Nat} (ha : Sh n w a) (hb : Sh m v b) (hn : n ≤ 64) (hm : m ≤ 64) : cmpop S .ne (.val a) (.val b) = some (!eqD a b) := by
  have h := cmp_eqD (S := S) ha hb hn hm
  show (eqop S _ _).map _ = _
  rw [show eqop S (.val a) (.val b) = _ from h]; rfl
theorem eqD_self {a : D} {n w : Nat} (h : Sh n w a) : eqD a a = true := by
  obtain ⟨p, e, c, _⟩ := h
  unfold eqD
  rw [e]
  exact SeqAt.eqv_refl _ c
theorem cmp_self {S : Sto} {d : D} {n w : Nat} (h : Sh n w d) (hn : n ≤ 64) : cmpop S .eq (.val d) (.val d) = some true := by rw [cmp_eqD h h hn hn, eqD_self h]
theorem cmp_selfn {S : Sto} {d : D} {n w : Nat} (h : Sh n w d) (hn : n ≤ 64) : cmpop S .ne (.val d) (.val d) = some false := by rw [cmp_neD h h hn hn, eqD_self h]; rfl
end Mi
end
section
namespace Mi
open PySem L2

def p_cell_count : FD := ⟨1, 3, (.cons (.asg (.nm 1) (.con (.int 1))) (.cons (.forr (.nm 2) (.rng1 (.var 0)) (.cons (.asg (.nm 1) (.bin .mul (.con (.int 2)) (.var 1))) .nil)) (.cons (.ret (.var 1)) .nil)))⟩

def p_is_of : FD := ⟨2, 2, (.cons (.ite (.cmp .eq (.idx (.var 0) (.con (.int 0))) (.con (.str "any"))) (.cons (.ret (.con (.bl true))) .nil) .nil) (.cons (.ite (.cmp .eq (.idx (.var 0) (.con (.int 0))) (.con (.str "is"))) (.cons (.ret (.cmp .eq (.bin .mod (.bin .fdiv (.var 1) (.call 0 (.cons (.idx (.var 0) (.con (.int 1))) .nil))) (.con (.int 2))) (.con (.int 1)))) .nil) .nil) (.cons (.ite (.cmp .eq (.idx (.var 0) (.con (.int 0))) (.con (.str "not"))) (.cons (.ret (.not (.call 1 (.cons (.idx (.var 0) (.con (.int 1))) (.cons (.var 1) .nil))))) .nil) .nil) (.cons (.ite (.cmp .eq (.idx (.var 0) (.con (.int 0))) (.con (.str "and"))) (.cons (.ret (.and (.call 1 (.cons (.idx (.var 0) (.con (.int 1))) (.cons (.var 1) .nil))) (.call 1 (.cons (.idx (.var 0) (.con (.int 2))) (.cons (.var 1) .nil))))) .nil) .nil) (.cons (.ret (.or (.call 1 (.cons (.idx (.var 0) (.con (.int 1))) (.cons (.var 1) .nil))) (.call 1 (.cons (.idx (.var 0) (.con (.int 2))) (.cons (.var 1) .nil))))) .nil)))))⟩

def p_cells_of : FD := ⟨2, 3, (.cons (.ret (.bi .tuple (.cons (.comp [2] (.nm 2) (.rng1 (.call 0 (.cons (.var 1) .nil))) (.yes (.call 1 (.cons (.var 0) (.cons (.var 2) .nil)))) (.var 2)) .nil))) .nil)⟩

def l_box : FD := ⟨2, 3, (.cons (.asg (.nm 2) (.idx (.bin .add (.var 0) (.bin .mul (.lst (.cons (.con (.int 0)) .nil)) (.bin .add (.var 1) (.con (.int 1))))) (.var 1))) (.cons (.ret (.lst (.cons (.bin .mul (.bi .abs (.cons (.var 2) .nil)) (.bi .int (.cons (.cmp .ge (.bi .abs (.cons (.var 2) .nil)) (.bin .pow (.con (.int 10)) (.con (.int 18)))) .nil))) (.cons (.bin .mod (.bin .mul (.bin .add (.bin .add (.bin .mod (.var 2) (.con (.int 2147483647))) (.bin .mul (.con (.int 7919)) (.var 1))) (.con (.int 11))) (.con (.int 48271))) (.con (.int 2147483629))) (.cons (.con (.int 0)) .nil))))) .nil))⟩

def l_take : FD := ⟨2, 4, (.cons (.ite (.cmp .gt (.idx (.var 0) (.con (.int 0))) (.con (.int 0))) (.cons (.asg (.tp (.cons (.sub (.var 0) (.con (.int 0))) (.cons (.nm 3) .nil))) (.bi .divmod (.cons (.idx (.var 0) (.con (.int 0))) (.cons (.var 1) .nil)))) (.cons (.ret (.var 3)) .nil)) .nil) (.cons (.asg (.sub (.var 0) (.con (.int 2))) (.bin .add (.idx (.var 0) (.con (.int 2))) (.con (.int 1)))) (.cons (.asg (.nm 2) (.bin .mod (.bin .mul (.bin .add (.idx (.var 0) (.con (.int 1))) (.bin .mul (.con (.int 39373)) (.idx (.var 0) (.con (.int 2))))) (.bin .add (.con (.int 48271)) (.idx (.var 0) (.con (.int 2))))) (.con (.int 2147483647)))) (.cons (.asg (.sub (.var 0) (.con (.int 1))) (.bin .mod (.bin .add (.bin .mul (.var 2) (.bin .add (.bin .mod (.var 2) (.con (.int 40009))) (.con (.int 7)))) (.idx (.var 0) (.con (.int 2)))) (.con (.int 2147483629)))) (.cons (.ret (.bin .mod (.bin .fdiv (.bin .mod (.bin .mul (.idx (.var 0) (.con (.int 1))) (.bin .add (.bin .mod (.idx (.var 0) (.con (.int 1))) (.con (.int 1009))) (.con (.int 3)))) (.con (.int 998244353))) (.con (.int 7))) (.var 1))) .nil)))))⟩

def l_folded : FD := ⟨2, 5, (.cons (.own 2 (.bi .list (.cons (.slc (.var 0) .no (.yes (.var 1))) .nil))) (.cons (.forr (.tp (.cons (.nm 3) (.cons (.nm 4) .nil))) (.enm (.slc (.var 0) (.yes (.var 1)) (.yes (.con (.int 63))))) (.cons (.sown 2 (.bin .mod (.var 3) (.var 1)) (.bin .add (.idx (.bor 2) (.bin .mod (.var 3) (.var 1))) (.bin .mul (.var 4) (.bin .add (.var 3) (.con (.int 2)))))) .nil)) (.cons (.reto 2) .nil)))⟩

def l_of : FD := ⟨2, 2, (.cons (.ite (.cmp .eq (.idx (.var 0) (.con (.int 0))) (.con (.str "any"))) (.cons (.ret (.con (.bl true))) .nil) .nil) (.cons (.ite (.cmp .eq (.idx (.var 0) (.con (.int 0))) (.con (.str "is"))) (.cons (.ret (.cmp .eq (.bin .mod (.bin .fdiv (.var 1) (.idx (.lst (.cons (.con (.int 1)) (.cons (.con (.int 2)) (.cons (.con (.int 4)) (.cons (.con (.int 8)) .nil))))) (.idx (.var 0) (.con (.int 1))))) (.con (.int 2))) (.con (.int 1)))) .nil) .nil) (.cons (.ite (.cmp .eq (.idx (.var 0) (.con (.int 0))) (.con (.str "not"))) (.cons (.ret (.not (.call 6 (.cons (.idx (.var 0) (.con (.int 1))) (.cons (.var 1) .nil))))) .nil) .nil) (.cons (.ite (.cmp .eq (.idx (.var 0) (.con (.int 0))) (.con (.str "and"))) (.cons (.ret (.and (.call 6 (.cons (.idx (.var 0) (.con (.int 1))) (.cons (.var 1) .nil))) (.call 6 (.cons (.idx (.var 0) (.con (.int 2))) (.cons (.var 1) .nil))))) .nil) .nil) (.cons (.ret (.or (.call 6 (.cons (.idx (.var 0) (.con (.int 1))) (.cons (.var 1) .nil))) (.call 6 (.cons (.idx (.var 0) (.con (.int 2))) (.cons (.var 1) .nil))))) .nil)))))⟩

def l_term : FD := ⟨3, 5, (.cons (.asg (.nm 3) (.call 4 (.cons (.var 0) (.cons (.con (.int 10)) .nil)))) (.cons (.ite (.cmp .eq (.var 3) (.con (.int 9))) (.cons (.ret (.tup (.cons (.con (.str "any")) .nil))) .nil) .nil) (.cons (.ite (.or (.cmp .lt (.var 2) (.con (.int 2))) (.cmp .lt (.var 3) (.con (.int 5)))) (.cons (.ret (.tup (.cons (.con (.str "is")) (.cons (.call 4 (.cons (.var 0) (.cons (.var 1) .nil))) .nil)))) .nil) .nil) (.cons (.ite (.cmp .eq (.var 3) (.con (.int 5))) (.cons (.ret (.tup (.cons (.con (.str "not")) (.cons (.call 7 (.cons (.var 0) (.cons (.var 1) (.cons (.bin .sub (.var 2) (.con (.int 1))) .nil)))) .nil)))) .nil) .nil) (.cons (.asg (.nm 4) (.idx (.lst (.cons (.con (.str "and")) (.cons (.con (.str "or")) .nil))) (.call 4 (.cons (.var 0) (.cons (.con (.int 2)) .nil))))) (.cons (.ret (.tup (.cons (.var 4) (.cons (.call 7 (.cons (.var 0) (.cons (.var 1) (.cons (.bin .sub (.var 2) (.con (.int 1))) .nil)))) (.cons (.call 7 (.cons (.var 0) (.cons (.var 1) (.cons (.bin .sub (.var 2) (.con (.int 1))) .nil)))) .nil))))) .nil))))))⟩

def l_deep_term : FD := ⟨3, 7, (.cons (.asg (.nm 3) (.idx (.lst (.cons (.tup (.cons (.con (.str "any")) .nil)) (.cons (.tup (.cons (.con (.str "is")) (.cons (.call 4 (.cons (.var 0) (.cons (.var 1) .nil))) .nil))) .nil))) (.bi .min (.cons (.con (.int 1)) (.cons (.call 4 (.cons (.var 0) (.cons (.con (.int 6)) .nil))) .nil))))) (.cons (.forr (.nm 4) (.rng1 (.bin .sub (.var 2) (.con (.int 1)))) (.cons (.asg (.nm 5) (.call 4 (.cons (.var 0) (.cons (.con (.int 3)) .nil)))) (.cons (.asg (.nm 6) (.tup (.cons (.con (.str "is")) (.cons (.call 4 (.cons (.var 0) (.cons (.var 1) .nil))) .nil)))) (.cons (.asg (.nm 3) (.idx (.lst (.cons (.tup (.cons (.con (.str "not")) (.cons (.var 3) .nil))) (.cons (.tup (.cons (.con (.str "and")) (.cons (.var 6) (.cons (.var 3) .nil)))) (.cons (.tup (.cons (.con (.str "or")) (.cons (.var 3) (.cons (.var 6) .nil)))) .nil)))) (.var 5))) .nil)))) (.cons (.ret (.var 3)) .nil)))⟩
















def p_sum_of : FD := ⟨2, 8, (.cons (.asg (.nm 2) (.bin .mul (.lst (.cons (.con (.int 0)) .nil)) (.bi .len (.cons (.idx (.idx (.var 0) (.con (.int 0))) (.con (.int 0))) .nil)))) (.cons (.asg (.nm 3) (.con (.int 0))) (.cons (.forr (.tp (.cons (.nm 4) (.cons (.nm 5) .nil))) (.zip (.var 0) (.var 1)) (.cons (.asg (.nm 2) (.comp [6, 7] (.tp (.cons (.nm 6) (.cons (.nm 7) .nil))) (.zip (.var 2) (.idx (.var 4) (.con (.int 0)))) .no (.bin .add (.var 6) (.bin .mul (.var 5) (.var 7))))) (.cons (.aug 3 .add (.bin .mul (.var 5) (.idx (.var 4) (.con (.int 1))))) .nil))) (.cons (.ret (.tup (.cons (.bi .tuple (.cons (.var 2) .nil)) (.cons (.var 3) .nil)))) .nil))))⟩


def l_world : FD := ⟨3, 7, (.cons (.asg (.nm 3) (.var 2)) (.cons (.own 4 (.lst .nil)) (.cons (.forr (.nm 5) (.rng1 (.idx (.lst (.cons (.con (.int 1)) (.cons (.con (.int 2)) (.cons (.con (.int 4)) (.cons (.con (.int 8)) (.cons (.con (.int 16)) .nil)))))) (.var 1))) (.cons (.asg (.nm 6) (.bi .min (.cons (.var 3) (.cons (.idx (.lst (.cons (.con (.int 0)) (.cons (.con (.int 0)) (.cons (.con (.int 1)) (.cons (.call 4 (.cons (.var 0) (.cons (.con (.int 4)) .nil))) (.cons (.call 4 (.cons (.var 0) (.cons (.bin .add (.var 2) (.con (.int 1))) .nil))) .nil)))))) (.call 4 (.cons (.var 0) (.cons (.con (.int 5)) .nil)))) .nil)))) (.cons (.app 4 (.var 6)) (.cons (.asg (.nm 3) (.bin .sub (.var 3) (.var 6))) .nil)))) (.cons (.ret (.bi .tuple (.cons (.bor 4) .nil))) .nil))))⟩

def l_alike : FD := ⟨2, 4, (.cons (.ite (.bi (.isi [.list, .tuple]) (.cons (.var 1) .nil)) (.cons (.ite (.or (.not (.bi (.isi [.list, .tuple]) (.cons (.var 0) .nil))) (.cmp .ne (.bi (.isi1 .list) (.cons (.var 0) .nil)) (.bi (.isi1 .list) (.cons (.var 1) .nil)))) (.cons (.ret (.con (.bl false))) .nil) .nil) (.cons (.ret (.and (.cmp .eq (.bi .len (.cons (.var 0) .nil)) (.bi .len (.cons (.var 1) .nil))) (.bi .all (.cons (.comp [2, 3] (.tp (.cons (.nm 2) (.cons (.nm 3) .nil))) (.zip (.var 0) (.var 1)) .no (.call 32 (.cons (.var 2) (.cons (.var 3) .nil)))) .nil)))) .nil)) .nil) (.cons (.ite (.or (.cmp .is (.var 1) (.con .non)) (.bi (.isi1 .str) (.cons (.var 1) .nil))) (.cons (.ret (.and (.cmp .eq (.var 0) (.var 1)) (.cmp .eq (.bi (.isi1 .str) (.cons (.var 0) .nil)) (.bi (.isi1 .str) (.cons (.var 1) .nil))))) .nil) .nil) (.cons (.ret (.and (.bi (.isi1 .int) (.cons (.var 0) .nil)) (.and (.cmp .eq (.bi (.isi1 .bool) (.cons (.var 0) .nil)) (.bi (.isi1 .bool) (.cons (.var 1) .nil))) (.cmp .eq (.var 0) (.var 1))))) .nil)))⟩

def l_boxes : FD := ⟨2, 4, (.cons (.asg (.nm 2) (.call 5 (.cons (.var 0) (.cons (.var 1) .nil)))) (.cons (.ret (.comp [3] (.nm 3) (.rng1 (.bi .max (.cons (.con (.int 1)) (.cons (.bi .len (.cons (.var 2) .nil)) .nil)))) .no (.new (.call 3 (.cons (.var 2) (.cons (.var 3) .nil)))))) .nil))⟩



def p_part_up : FD := ⟨2, 2, (.cons (.ret (.neg (.bin .fdiv (.neg (.var 0)) (.var 1)))) .nil)⟩

def p_whole_row : FD := ⟨2, 3, (.cons (.ret (.tup (.cons (.bi .tuple (.cons (.comp [2] (.nm 2) (.seq (.idx (.var 0) (.con (.int 0)))) .no (.call 36 (.cons (.var 2) (.cons (.var 1) .nil)))) .nil)) (.cons (.call 36 (.cons (.idx (.var 0) (.con (.int 1))) (.cons (.var 1) .nil))) .nil)))) .nil)⟩

def l_same : FD := ⟨2, 4, (.cons (.ite (.cmp .is (.var 1) (.con .non)) (.cons (.ret (.cmp .is (.var 0) (.con .non))) .nil) .nil) (.cons (.ite (.bi (.isi1 .bool) (.cons (.var 1) .nil)) (.cons (.ret (.and (.bi (.isi1 .bool) (.cons (.var 0) .nil)) (.cmp .eq (.var 0) (.var 1)))) .nil) .nil) (.cons (.ite (.bi (.isi [.list, .tuple]) (.cons (.var 1) .nil)) (.cons (.ite (.or (.cmp .ne (.bi (.isi1 .list) (.cons (.var 0) .nil)) (.bi (.isi1 .list) (.cons (.var 1) .nil))) (.cmp .ne (.bi (.isi1 .tuple) (.cons (.var 0) .nil)) (.bi (.isi1 .tuple) (.cons (.var 1) .nil)))) (.cons (.ret (.con (.bl false))) .nil) .nil) (.cons (.ret (.and (.cmp .eq (.bi .len (.cons (.var 0) .nil)) (.bi .len (.cons (.var 1) .nil))) (.bi .all (.cons (.comp [2, 3] (.tp (.cons (.nm 2) (.cons (.nm 3) .nil))) (.zip (.var 0) (.var 1)) .no (.call 38 (.cons (.var 2) (.cons (.var 3) .nil)))) .nil)))) .nil)) .nil) (.cons (.ite (.bi (.isi1 .str) (.cons (.var 1) .nil)) (.cons (.ret (.and (.bi (.isi1 .str) (.cons (.var 0) .nil)) (.cmp .eq (.var 0) (.var 1)))) .nil) .nil) (.cons (.ret (.and (.bi (.isi1 .int) (.cons (.var 0) .nil)) (.and (.not (.bi (.isi1 .bool) (.cons (.var 0) .nil))) (.cmp .eq (.var 0) (.var 1))))) .nil)))))⟩

def l_row_1 : FD := ⟨2, 5, (.cons (.asg (.nm 2) (.idx (.lst (.cons (.con (.int 1)) (.cons (.con (.int 2)) (.cons (.con (.int 5)) (.cons (.con (.int 41)) (.cons (.bin .pow (.con (.int 10)) (.con (.int 4))) .nil)))))) (.call 159 (.cons (.var 0) (.cons (.con (.int 5)) .nil))))) (.cons (.asg (.nm 3) (.comp [4] (.nm 4) (.rng1 (.var 1)) .no (.bin .sub (.call 159 (.cons (.var 0) (.cons (.bin .add (.bin .mul (.con (.int 2)) (.var 2)) (.con (.int 1))) .nil))) (.var 2)))) (.cons (.ret (.tup (.cons (.bi .tuple (.cons (.var 3) .nil)) (.cons (.bin .sub (.call 159 (.cons (.var 0) (.cons (.bin .add (.bin .mul (.con (.int 2)) (.var 2)) (.con (.int 1))) .nil))) (.var 2)) .nil)))) .nil)))⟩

def l_up : FD := ⟨2, 3, (.cons (.asg (.nm 2) (.bin .fdiv (.var 0) (.var 1))) (.cons (.ret (.bin .add (.var 2) (.bi .int (.cons (.cmp .lt (.bin .mul (.var 2) (.var 1)) (.var 0)) .nil)))) .nil))⟩

def l_whole : FD := ⟨2, 3, (.cons (.ret (.tup (.cons (.bi .tuple (.cons (.comp [2] (.nm 2) (.seq (.idx (.var 0) (.con (.int 0)))) .no (.call 40 (.cons (.var 2) (.cons (.var 1) .nil)))) .nil)) (.cons (.call 40 (.cons (.idx (.var 0) (.con (.int 1))) (.cons (.var 1) .nil))) .nil)))) .nil)⟩


def p_is_time : FD := ⟨1, 1, (.cons (.ret (.and (.bi (.isi1 .int) (.cons (.var 0) .nil)) (.and (.not (.bi (.isi1 .bool) (.cons (.var 0) .nil))) (.cmp .ge (.var 0) (.con (.int 0)))))) .nil)⟩

def p_are_times : FD := ⟨2, 3, (.cons (.ret (.and (.bi (.isi [.tuple, .list]) (.cons (.var 0) .nil)) (.and (.cmp .eq (.bi .len (.cons (.var 0) .nil)) (.var 1)) (.bi .all (.cons (.comp [2] (.nm 2) (.seq (.var 0)) .no (.call 44 (.cons (.var 2) .nil))) .nil))))) .nil)⟩

def p_shows_sum : FD := ⟨2, 4, (.cons (.ite (.not (.call 45 (.cons (.var 1) (.cons (.bi .len (.cons (.var 0) .nil)) .nil)))) (.cons (.ret (.con (.bl false))) .nil) .nil) (.cons (.asg (.tp (.cons (.nm 2) (.cons (.nm 3) .nil))) (.call 25 (.cons (.var 0) (.cons (.var 1) .nil)))) (.cons (.ret (.and (.cmp .gt (.var 3) (.con (.int 0))) (.cmp .le (.bi .max (.cons (.var 2) .nil)) (.con (.int 0))))) .nil)))⟩











































































def l_is_number_1 : FD := ⟨1, 1, (.cons (.ret (.and (.bi (.isi1 .int) (.cons (.var 0) .nil)) (.not (.bi (.isi1 .bool) (.cons (.var 0) .nil))))) .nil)⟩


























def p_is_count : FD := ⟨1, 1, (.cons (.ret (.and (.bi (.isi1 .int) (.cons (.var 0) .nil)) (.not (.bi (.isi1 .bool) (.cons (.var 0) .nil))))) .nil)⟩

def p_is_row_list : FD := ⟨1, 1, (.cons (.ret (.bi (.isi [.list, .tuple]) (.cons (.var 0) .nil))) .nil)⟩

def p_row_of_most : FD := ⟨3, 4, (.cons (.ret (.tup (.cons (.bi .tuple (.cons (.comp [3] (.nm 3) (.rng1 (.var 2)) .no (.neg (.bi .int (.cons (.cmp .isin (.var 3) (.var 0)) .nil)))) .nil)) (.cons (.neg (.var 1)) .nil)))) .nil)⟩

def p_row_of_least : FD := ⟨3, 4, (.cons (.ret (.tup (.cons (.bi .tuple (.cons (.comp [3] (.nm 3) (.rng1 (.var 2)) .no (.bi .int (.cons (.cmp .isin (.var 3) (.var 0)) .nil))) .nil)) (.cons (.var 1) .nil)))) .nil)⟩

def p_are_cells : FD := ⟨2, 3, (.cons (.ite (.or (.not (.call 150 (.cons (.var 0) .nil))) (.cmp .eq (.bi .len (.cons (.var 0) .nil)) (.con (.int 0)))) (.cons (.ret (.con (.bl false))) .nil) .nil) (.cons (.ite (.not (.bi .all (.cons (.comp [2] (.nm 2) (.seq (.var 0)) .no (.and (.call 149 (.cons (.var 2) .nil)) (.chn .le .lt (.con (.int 0)) (.var 2) (.var 1)))) .nil))) (.cons (.ret (.con (.bl false))) .nil) .nil) (.cons (.ret (.cmp .eq (.o1 .lset (.var 0)) (.bi .len (.cons (.var 0) .nil)))) .nil)))⟩

def p_is_step : FD := ⟨2, 2, (.cons (.ite (.or (.not (.call 150 (.cons (.var 0) .nil))) (.or (.cmp .eq (.bi .len (.cons (.var 0) .nil)) (.con (.int 0))) (.not (.bi (.isi1 .str) (.cons (.idx (.var 0) (.con (.int 0))) .nil))))) (.cons (.ret (.con (.bl false))) .nil) .nil) (.cons (.ite (.cmp .ne (.bi .len (.cons (.var 0) .nil)) (.o2 (.gg2 11) (.idx (.var 0) (.con (.int 0))) (.con (.int 0)))) (.cons (.ret (.con (.bl false))) .nil) .nil) (.cons (.ite (.cmp .eq (.idx (.var 0) (.con (.int 0))) (.con (.str "sum"))) (.cons (.ret (.call 46 (.cons (.var 1) (.cons (.idx (.var 0) (.con (.int 1))) .nil)))) .nil) .nil) (.cons (.ite (.cmp .eq (.idx (.var 0) (.con (.int 0))) (.con (.str "whole"))) (.cons (.ret (.and (.call 45 (.cons (.idx (.var 0) (.con (.int 1))) (.cons (.bi .len (.cons (.var 1) .nil)) .nil))) (.and (.call 149 (.cons (.idx (.var 0) (.con (.int 2))) .nil)) (.cmp .ge (.idx (.var 0) (.con (.int 2))) (.con (.int 1)))))) .nil) .nil) (.cons (.ret (.and (.call 153 (.cons (.idx (.var 0) (.con (.int 1))) (.cons (.bi .len (.cons (.idx (.idx (.var 1) (.con (.int 0))) (.con (.int 0))) .nil)) .nil))) (.call 149 (.cons (.idx (.var 0) (.con (.int 2))) .nil)))) .nil)))))⟩

def p_named_by : FD := ⟨1, 1, (.cons (.ret (.bi .list (.cons (.slc (.var 0) (.yes (.con (.int 3))) .no) .nil))) .nil)⟩

def p_rows_behind : FD := ⟨2, 3, (.cons (.ite (.cmp .eq (.idx (.var 1) (.con (.int 0))) (.con (.str "whole"))) (.cons (.ret (.lst (.cons (.bin .add (.var 0) (.lst (.cons (.call 37 (.cons (.call 25 (.cons (.var 0) (.cons (.idx (.var 1) (.con (.int 1))) .nil))) (.cons (.idx (.var 1) (.con (.int 2))) .nil))) .nil))) .nil))) .nil) .nil) (.cons (.ite (.cmp .eq (.idx (.var 1) (.con (.int 0))) (.con (.str "cases"))) (.cons (.asg (.nm 2) (.bi .len (.cons (.idx (.idx (.var 0) (.con (.int 0))) (.con (.int 0))) .nil))) (.cons (.ret (.lst (.cons (.bin .add (.var 0) (.lst (.cons (.call 151 (.cons (.idx (.var 1) (.con (.int 1))) (.cons (.idx (.var 1) (.con (.int 2))) (.cons (.var 2) .nil)))) .nil))) (.cons (.bin .add (.var 0) (.lst (.cons (.call 152 (.cons (.idx (.var 1) (.con (.int 1))) (.cons (.bin .add (.idx (.var 1) (.con (.int 2))) (.con (.int 1))) (.cons (.var 2) .nil)))) .nil))) .nil)))) .nil)) .nil) (.cons (.ret (.lst .nil)) .nil)))⟩

def p_shows_paper : FD := ⟨2, 8, (.cons (.ite (.or (.not (.call 150 (.cons (.var 1) .nil))) (.cmp .eq (.bi .len (.cons (.var 1) .nil)) (.con (.int 0)))) (.cons (.ret (.con (.bl false))) .nil) .nil) (.cons (.asg (.nm 2) (.new (.dct [.inl 0] (.cons (.bi .list (.cons (.var 0) .nil)) .nil)))) (.cons (.forr (.tp (.cons (.nm 3) (.cons (.nm 4) .nil))) (.enm (.var 1)) (.cons (.ite (.or (.din true (.var 3) (.var 2)) (.not (.call 154 (.cons (.var 4) (.cons (.dgt (.var 2) (.var 3)) .nil))))) (.cons (.ret (.con (.bl false))) .nil) .nil) (.cons (.asg (.nm 5) (.call 155 (.cons (.var 4) .nil))) (.cons (.forr (.nm 6) (.seq (.var 5)) (.cons (.ite (.or (.not (.call 149 (.cons (.var 6) .nil))) (.or (.not (.chn .lt .lt (.var 3) (.var 6) (.bi .len (.cons (.var 1) .nil)))) (.din false (.var 6) (.var 2)))) (.cons (.ret (.con (.bl false))) .nil) .nil) .nil)) (.cons (.ite (.and (.cmp .eq (.bi .len (.cons (.var 5) .nil)) (.con (.int 2))) (.cmp .eq (.idx (.var 5) (.con (.int 0))) (.idx (.var 5) (.con (.int 1))))) (.cons (.ret (.con (.bl false))) .nil) .nil) (.cons (.forr (.tp (.cons (.nm 6) (.cons (.nm 7) .nil))) (.zip (.var 5) (.call 156 (.cons (.dgt (.var 2) (.var 3)) (.cons (.var 4) .nil)))) (.cons (.asg (.sub (.var 2) (.var 6)) (.var 7)) .nil)) .nil)))))) (.cons (.ret (.con (.bl true))) .nil))))⟩

def p_paper_size : FD := ⟨1, 3, (.cons (.asg (.nm 1) (.comp [2] (.nm 2) (.seq (.var 0)) .no (.idx (.var 2) (.con (.int 0))))) (.cons (.ret (.tup (.cons (.o2 .count (.var 1) (.con (.str "sum"))) (.cons (.o2 .count (.var 1) (.con (.str "whole"))) (.cons (.o2 .count (.var 1) (.con (.str "cases"))) .nil))))) .nil))⟩

def l_take_1 : FD := ⟨2, 4, (.cons (.ite (.cmp .gt (.idx (.var 0) (.con (.int 0))) (.con (.int 0))) (.cons (.asg (.tp (.cons (.sub (.var 0) (.con (.int 0))) (.cons (.nm 3) .nil))) (.bi .divmod (.cons (.idx (.var 0) (.con (.int 0))) (.cons (.var 1) .nil)))) (.cons (.ret (.var 3)) .nil)) .nil) (.cons (.asg (.sub (.var 0) (.con (.int 2))) (.bin .add (.idx (.var 0) (.con (.int 2))) (.con (.int 1)))) (.cons (.asg (.nm 2) (.bin .mod (.bin .mul (.bin .add (.idx (.var 0) (.con (.int 1))) (.bin .mul (.con (.int 39373)) (.idx (.var 0) (.con (.int 2))))) (.bin .add (.con (.int 48271)) (.idx (.var 0) (.con (.int 2))))) (.con (.int 2147483647)))) (.cons (.asg (.sub (.var 0) (.con (.int 1))) (.bin .mod (.bin .add (.bin .mul (.var 2) (.bin .add (.bin .mod (.var 2) (.con (.int 40009))) (.con (.int 7)))) (.idx (.var 0) (.con (.int 2)))) (.con (.int 2147483629)))) (.cons (.ret (.bin .mod (.bin .fdiv (.bin .mod (.bin .mul (.idx (.var 0) (.con (.int 1))) (.bin .add (.bin .mod (.idx (.var 0) (.con (.int 1))) (.con (.int 1009))) (.con (.int 3)))) (.con (.int 998244353))) (.con (.int 7))) (.var 1))) .nil)))))⟩

def l_folded_1 : FD := ⟨2, 5, (.cons (.own 2 (.bi .list (.cons (.slc (.var 0) .no (.yes (.var 1))) .nil))) (.cons (.forr (.tp (.cons (.nm 3) (.cons (.nm 4) .nil))) (.enm (.slc (.var 0) (.yes (.var 1)) (.yes (.con (.int 63))))) (.cons (.sown 2 (.bin .mod (.var 3) (.var 1)) (.bin .add (.idx (.bor 2) (.bin .mod (.var 3) (.var 1))) (.bin .mul (.var 4) (.bin .add (.var 3) (.con (.int 2)))))) .nil)) (.cons (.reto 2) .nil)))⟩

def l_many : FD := ⟨3, 3, (.cons (.ite (.cmp .eq (.call 159 (.cons (.var 0) (.cons (.con (.int 8)) .nil))) (.con (.int 0))) (.cons (.ret (.bin .add (.con (.int 7)) (.call 159 (.cons (.var 0) (.cons (.bin .sub (.var 2) (.con (.int 6))) .nil))))) .nil) .nil) (.cons (.ret (.call 159 (.cons (.var 0) (.cons (.bin .add (.var 1) (.con (.int 1))) .nil)))) .nil))⟩

def l_sum : FD := ⟨2, 7, (.cons (.asg (.nm 2) (.bi .len (.cons (.idx (.idx (.var 0) (.con (.int 0))) (.con (.int 0))) .nil))) (.cons (.asg (.nm 3) (.comp [4] (.nm 4) (.rng1 (.var 2)) .no (.bi .sum (.cons (.comp [5, 6] (.tp (.cons (.nm 5) (.cons (.nm 6) .nil))) (.zip (.var 1) (.var 0)) .no (.bin .mul (.var 5) (.idx (.idx (.var 6) (.con (.int 0))) (.var 4)))) .nil)))) (.cons (.ret (.tup (.cons (.bi .tuple (.cons (.var 3) .nil)) (.cons (.bi .sum (.cons (.comp [5, 6] (.tp (.cons (.nm 5) (.cons (.nm 6) .nil))) (.zip (.var 1) (.var 0)) .no (.bin .mul (.var 5) (.idx (.var 6) (.con (.int 1))))) .nil)) .nil)))) .nil)))⟩

def l_case_rows : FD := ⟨3, 6, (.cons (.asg (.nm 3) (.comp [4] (.nm 4) (.rng1 (.var 2)) .no (.bi .int (.cons (.cmp .isin (.var 4) (.var 0)) .nil)))) (.cons (.ret (.lst (.cons (.tup (.cons (.bi .tuple (.cons (.comp [5] (.nm 5) (.seq (.var 3)) .no (.bin .sub (.con (.int 0)) (.var 5))) .nil)) (.cons (.bin .sub (.con (.int 0)) (.var 1)) .nil))) (.cons (.tup (.cons (.bi .tuple (.cons (.var 3) .nil)) (.cons (.bin .add (.var 1) (.con (.int 1))) .nil))) .nil)))) .nil))⟩

def l_closing : FD := ⟨2, 4, (.cons (.asg (.nm 2) (.comp [3] (.nm 3) (.seq (.idx (.var 1) (.con (.int 0)))) .no (.bin .sub (.bin .sub (.con (.int 0)) (.var 3)) (.idx (.lst (.cons (.con (.int 0)) (.cons (.con (.int 0)) (.cons (.con (.int 1)) .nil)))) (.call 159 (.cons (.var 0) (.cons (.con (.int 3)) .nil))))))) (.cons (.ret (.tup (.cons (.bi .tuple (.cons (.var 2) .nil)) (.cons (.bin .sub (.bin .add (.con (.int 1)) (.idx (.lst (.cons (.con (.int 0)) (.cons (.con (.int 0)) (.cons (.con (.int 4)) .nil)))) (.call 159 (.cons (.var 0) (.cons (.con (.int 3)) .nil))))) (.idx (.var 1) (.con (.int 1)))) .nil)))) .nil))⟩

def l_are_times : FD := ⟨2, 3, (.cons (.ite (.or (.not (.bi (.isi [.list, .tuple]) (.cons (.var 0) .nil))) (.cmp .ne (.bi .len (.cons (.var 0) .nil)) (.var 1))) (.cons (.ret (.con (.bl false))) .nil) .nil) (.cons (.ret (.bi .all (.cons (.comp [2] (.nm 2) (.seq (.var 0)) .no (.and (.call 121 (.cons (.var 2) .nil)) (.cmp .ge (.var 2) (.con (.int 0))))) .nil))) .nil))⟩

def l_are_cells : FD := ⟨2, 3, (.cons (.ite (.or (.not (.bi (.isi [.list, .tuple]) (.cons (.var 0) .nil))) (.cmp .eq (.bi .len (.cons (.var 0) .nil)) (.con (.int 0)))) (.cons (.ret (.con (.bl false))) .nil) .nil) (.cons (.ite (.not (.bi .all (.cons (.comp [2] (.nm 2) (.seq (.var 0)) .no (.and (.call 121 (.cons (.var 2) .nil)) (.chn .le .lt (.con (.int 0)) (.var 2) (.var 1)))) .nil))) (.cons (.ret (.con (.bl false))) .nil) .nil) (.cons (.ret (.cmp .eq (.bi .max (.cons (.comp [2] (.nm 2) (.seq (.var 0)) .no (.o2 .count (.bi .list (.cons (.var 0) .nil)) (.var 2))) .nil)) (.con (.int 1)))) .nil)))⟩

def l_formed : FD := ⟨1, 1, (.cons (.ite (.or (.not (.bi (.isi [.list, .tuple]) (.cons (.var 0) .nil))) (.or (.cmp .eq (.bi .len (.cons (.var 0) .nil)) (.con (.int 0))) (.not (.bi (.isi1 .str) (.cons (.idx (.var 0) (.con (.int 0))) .nil))))) (.cons (.ret (.con (.bl false))) .nil) .nil) (.cons (.ret (.cmp .eq (.bi .len (.cons (.var 0) .nil)) (.o3 .get (.dct [.inr "sum", .inr "whole", .inr "cases"] (.cons (.con (.int 2)) (.cons (.con (.int 4)) (.cons (.con (.int 5)) .nil)))) (.idx (.var 0) (.con (.int 0))) (.neg (.con (.int 1)))))) .nil))⟩

def l_goes_by : FD := ⟨2, 5, (.cons (.ite (.cmp .eq (.idx (.var 1) (.con (.int 0))) (.con (.str "cases"))) (.cons (.ret (.and (.call 166 (.cons (.idx (.var 1) (.con (.int 1))) (.cons (.bi .len (.cons (.idx (.idx (.var 0) (.con (.int 0))) (.con (.int 0))) .nil)) .nil))) (.call 121 (.cons (.idx (.var 1) (.con (.int 2))) .nil)))) .nil) .nil) (.cons (.ite (.not (.call 165 (.cons (.idx (.var 1) (.con (.int 1))) (.cons (.bi .len (.cons (.var 0) .nil)) .nil)))) (.cons (.ret (.con (.bl false))) .nil) .nil) (.cons (.ite (.cmp .eq (.idx (.var 1) (.con (.int 0))) (.con (.str "whole"))) (.cons (.ret (.and (.call 121 (.cons (.idx (.var 1) (.con (.int 2))) .nil)) (.cmp .gt (.idx (.var 1) (.con (.int 2))) (.con (.int 0))))) .nil) .nil) (.cons (.asg (.tp (.cons (.nm 2) (.cons (.nm 3) .nil))) (.call 162 (.cons (.var 0) (.cons (.idx (.var 1) (.con (.int 1))) .nil)))) (.cons (.ret (.and (.cmp .gt (.var 3) (.con (.int 0))) (.not (.bi .any (.cons (.comp [4] (.nm 4) (.seq (.var 2)) .no (.cmp .gt (.var 4) (.con (.int 0)))) .nil))))) .nil)))))⟩

def l_put_behind : FD := ⟨2, 3, (.cons (.ite (.cmp .eq (.idx (.var 1) (.con (.int 0))) (.con (.str "whole"))) (.cons (.ret (.lst (.cons (.bin .add (.var 0) (.lst (.cons (.call 41 (.cons (.call 162 (.cons (.var 0) (.cons (.idx (.var 1) (.con (.int 1))) .nil))) (.cons (.idx (.var 1) (.con (.int 2))) .nil))) .nil))) .nil))) .nil) .nil) (.cons (.ite (.cmp .eq (.idx (.var 1) (.con (.int 0))) (.con (.str "cases"))) (.cons (.ret (.comp [2] (.nm 2) (.seq (.call 163 (.cons (.idx (.var 1) (.con (.int 1))) (.cons (.idx (.var 1) (.con (.int 2))) (.cons (.bi .len (.cons (.idx (.idx (.var 0) (.con (.int 0))) (.con (.int 0))) .nil)) .nil))))) .no (.bin .add (.var 0) (.lst (.cons (.var 2) .nil))))) .nil) .nil) (.cons (.ret (.lst .nil)) .nil)))⟩

def l_is_paper : FD := ⟨2, 7, (.cons (.ite (.or (.not (.bi (.isi [.list, .tuple]) (.cons (.var 1) .nil))) (.or (.cmp .eq (.bi .len (.cons (.var 1) .nil)) (.con (.int 0))) (.not (.bi .all (.cons (.comp [5] (.nm 5) (.seq (.var 1)) .no (.call 167 (.cons (.var 5) .nil))) .nil))))) (.cons (.ret (.con (.bl false))) .nil) .nil) (.cons (.own 2 (.lst .nil)) (.cons (.forr (.tp (.cons (.nm 4) (.cons (.nm 5) .nil))) (.enm (.var 1)) (.cons (.ite (.not (.bi .all (.cons (.comp [6] (.nm 6) (.seq (.slc (.var 5) (.yes (.con (.int 3))) .no)) .no (.and (.call 121 (.cons (.var 6) .nil)) (.cmp .gt (.var 6) (.var 4)))) .nil))) (.cons (.ret (.con (.bl false))) .nil) .nil) (.cons (.ext 2 (.slc (.var 5) (.yes (.con (.int 3))) .no)) .nil))) (.cons (.ite (.cmp .ne (.bi .sorted (.cons (.bor 2) .nil)) (.o2 .lrng2 (.con (.int 1)) (.bi .len (.cons (.var 1) .nil)))) (.cons (.ret (.con (.bl false))) .nil) .nil) (.cons (.asg (.nm 3) (.new (.dct [.inl 0] (.cons (.bi .list (.cons (.var 0) .nil)) .nil)))) (.cons (.forr (.tp (.cons (.nm 4) (.cons (.nm 5) .nil))) (.enm (.var 1)) (.cons (.ite (.not (.call 168 (.cons (.dgt (.var 3) (.var 4)) (.cons (.var 5) .nil)))) (.cons (.ret (.con (.bl false))) .nil) .nil) (.cons (.expr (.o2 .upd (.var 3) (.o2 .dzip (.slc (.var 5) (.yes (.con (.int 3))) .no) (.call 169 (.cons (.dgt (.var 3) (.var 4)) (.cons (.var 5) .nil)))))) .nil))) (.cons (.ret (.con (.bl true))) .nil)))))))⟩

def l_closed : FD := ⟨2, 6, (.cons (.asg (.nm 2) (.comp [4] (.nm 4) (.rng1 (.bin .add (.con (.int 1)) (.call 161 (.cons (.var 0) (.cons (.con (.int 2)) (.cons (.con (.int 8)) .nil)))))) .no (.call 39 (.cons (.var 0) (.cons (.var 1) .nil))))) (.cons (.asg (.nm 3) (.comp [5] (.nm 5) (.seq (.var 2)) .no (.call 159 (.cons (.var 0) (.cons (.con (.int 4)) .nil))))) (.cons (.ret (.tup (.cons (.bin .add (.var 2) (.lst (.cons (.call 164 (.cons (.var 0) (.cons (.call 162 (.cons (.var 2) (.cons (.var 3) .nil))) .nil))) .nil))) (.cons (.bin .add (.var 3) (.lst (.cons (.con (.int 1)) .nil))) .nil)))) .nil)))⟩



def l_halved : FD := ⟨2, 16, (.cons (.asg (.nm 2) (.bin .add (.con (.int 2)) (.call 159 (.cons (.var 0) (.cons (.con (.int 8)) .nil))))) (.cons (.asg (.nm 3) (.comp [12] (.nm 12) (.rng1 (.var 1)) .no (.bin .sub (.call 159 (.cons (.var 0) (.cons (.con (.int 9)) .nil))) (.con (.int 4))))) (.cons (.asg (.nm 4) (.bin .sub (.call 159 (.cons (.var 0) (.cons (.con (.int 20)) .nil))) (.con (.int 9)))) (.cons (.asg (.nm 5) (.tup (.cons (.bi .tuple (.cons (.comp [15] (.nm 15) (.seq (.var 3)) .no (.bin .mul (.var 2) (.var 15))) .nil)) (.cons (.bin .add (.bin .add (.bin .mul (.var 2) (.var 4)) (.con (.int 1))) (.call 159 (.cons (.var 0) (.cons (.bin .sub (.var 2) (.con (.int 1))) .nil)))) .nil)))) (.cons (.asg (.nm 6) (.tup (.cons (.bi .tuple (.cons (.comp [15] (.nm 15) (.seq (.var 3)) .no (.bin .sub (.con (.int 0)) (.var 15))) .nil)) (.cons (.bin .sub (.con (.int 0)) (.var 4)) .nil)))) (.cons (.asg (.nm 7) (.comp [13] (.nm 13) (.rng1 (.call 161 (.cons (.var 0) (.cons (.con (.int 2)) (.cons (.con (.int 8)) .nil))))) .no (.call 39 (.cons (.var 0) (.cons (.var 1) .nil))))) (.cons (.asg (.nm 8) (.call 159 (.cons (.var 0) (.cons (.bin .add (.bi .len (.cons (.var 7) .nil)) (.con (.int 1))) .nil)))) (.cons (.asg (.nm 9) (.bin .add (.bin .add (.bin .add (.slc (.var 7) .no (.yes (.var 8))) (.lst (.cons (.var 5) .nil))) (.slc (.var 7) (.yes (.var 8)) .no)) (.lst (.cons (.var 6) .nil)))) (.cons (.asg (.nm 10) (.comp [14] (.nm 14) (.rng1 (.bi .len (.cons (.var 9) .nil))) .no (.bi .int (.cons (.cmp .eq (.var 14) (.var 8)) .nil)))) (.cons (.asg (.nm 11) (.bin .add (.bin .mul (.lst (.cons (.con (.int 0)) .nil)) (.bin .sub (.bi .len (.cons (.var 9) .nil)) (.con (.int 1)))) (.lst (.cons (.con (.int 1)) (.cons (.con (.int 1)) .nil))))) (.cons (.ret (.tup (.cons (.var 9) (.cons (.lst (.cons (.tup (.cons (.con (.str "whole")) (.cons (.var 10) (.cons (.var 2) (.cons (.con (.int 1)) .nil))))) (.cons (.tup (.cons (.con (.str "sum")) (.cons (.var 11) .nil))) .nil))) (.cons (.var 2) .nil))))) .nil)))))))))))⟩

def l_others : FD := ⟨4, 15, (.cons (.asg (.tp (.cons (.nm 9) (.cons (.nm 10) .nil))) (.tup (.cons (.idx (.idx (.var 2) (.con (.int 0))) (.con (.int 1))) (.cons (.idx (.idx (.var 2) (.con (.int 1))) (.con (.int 1))) .nil)))) (.cons (.asg (.nm 4) (.tup (.cons (.con (.int 1)) (.cons (.bin .sub (.var 3) (.con (.int 1))) (.cons (.bin .add (.var 3) (.con (.int 1))) (.cons (.bin .mul (.con (.int 2)) (.var 3)) (.cons (.con (.int 0)) (.cons (.neg (.var 3)) (.cons (.con (.bl true)) .nil))))))))) (.cons (.own 5 (.comp [11] (.nm 11) (.seq (.var 4)) .no (.lst (.cons (.tup (.cons (.con (.str "whole")) (.cons (.var 9) (.cons (.var 11) (.cons (.con (.int 1)) .nil))))) (.cons (.idx (.var 2) (.con (.int 1))) .nil))))) (.cons (.own 5 (.bin .add (.bor 5) (.comp [13] (.nm 13) (.seq (.tup (.cons (.con (.int 0)) (.cons (.con (.int 2)) (.cons (.neg (.con (.int 1))) (.cons (.con (.bl true)) (.cons (.con .non) (.cons (.con (.str "1")) .nil)))))))) .no (.lst (.cons (.tup (.cons (.con (.str "whole")) (.cons (.var 9) (.cons (.var 3) (.cons (.var 13) .nil))))) (.cons (.idx (.var 2) (.con (.int 1))) .nil)))))) (.cons (.own 5 (.bin .add (.bor 5) (.lst (.cons (.lst (.cons (.tup (.cons (.con (.str "sum")) (.cons (.slc (.var 10) .no (.yes (.neg (.con (.int 1))))) .nil))) .nil)) (.cons (.lst (.cons (.tup (.cons (.con (.str "sum")) (.cons (.var 9) .nil))) .nil)) (.cons (.lst (.cons (.idx (.var 2) (.con (.int 1))) .nil)) (.cons (.slc (.var 2) .no (.yes (.con (.int 1)))) (.cons (.o1 .rev (.var 2)) (.cons (.bin .add (.var 2) (.slc (.var 2) (.yes (.con (.int 1))) .no)) .nil))))))))) (.cons (.asg (.nm 6) (.comp [12] (.nm 12) (.seq (.var 9)) .no (.bin .mul (.con (.int 2)) (.var 12)))) (.cons (.own 5 (.bin .add (.bor 5) (.lst (.cons (.lst (.cons (.tup (.cons (.con (.str "whole")) (.cons (.var 6) (.cons (.var 3) (.cons (.con (.int 1)) .nil))))) (.cons (.idx (.var 2) (.con (.int 1))) .nil))) (.cons (.lst (.cons (.tup (.cons (.con (.str "whole")) (.cons (.var 6) (.cons (.bin .mul (.con (.int 2)) (.var 3)) (.cons (.con (.int 1)) .nil))))) (.cons (.idx (.var 2) (.con (.int 1))) .nil))) .nil))))) (.cons (.asg (.nm 7) (.lst (.cons (.tup (.cons (.con (.str "whole")) (.cons (.var 9) (.cons (.var 3) (.cons (.con (.int 1)) .nil))))) (.cons (.tup (.cons (.con (.str "whole")) (.cons (.bin .add (.bin .mul (.lst (.cons (.con (.int 0)) .nil)) (.bi .len (.cons (.var 1) .nil))) (.lst (.cons (.con (.int 1)) .nil))) (.cons (.bin .add (.con (.int 1)) (.call 159 (.cons (.var 0) (.cons (.con (.int 3)) .nil)))) (.cons (.con (.int 2)) .nil))))) .nil)))) (.cons (.app 5 (.bin .add (.var 7) (.lst (.cons (.tup (.cons (.con (.str "sum")) (.cons (.bin .add (.slc (.var 10) .no (.yes (.neg (.con (.int 1))))) (.lst (.cons (.con (.int 0)) (.cons (.con (.int 1)) .nil)))) .nil))) .nil)))) (.cons (.app 5 (.lst (.cons (.tup (.cons (.con (.str "whole")) (.cons (.bin .add (.var 9) (.lst (.cons (.con (.int 0)) .nil))) (.cons (.var 3) (.cons (.con (.int 1)) .nil))))) (.cons (.idx (.var 2) (.con (.int 1))) .nil)))) (.cons (.asg (.nm 8) (.comp [12] (.nm 12) (.seq (.var 9)) .no (.bin .mul (.bin .pow (.con (.int 10)) (.con (.int 20))) (.var 12)))) (.cons (.own 5 (.bin .add (.bor 5) (.comp [14] (.nm 14) (.seq (.tup (.cons (.con (.int 0)) (.cons (.con (.int 1)) (.cons (.neg (.con (.int 1))) .nil))))) .no (.lst (.cons (.tup (.cons (.con (.str "whole")) (.cons (.var 8) (.cons (.bin .add (.bin .mul (.bin .pow (.con (.int 10)) (.con (.int 20))) (.var 3)) (.var 14)) (.cons (.con (.int 1)) .nil))))) (.cons (.idx (.var 2) (.con (.int 1))) .nil)))))) (.cons (.ret (.bin .add (.bor 5) (.lst (.cons (.lst (.cons (.tup (.cons (.con (.str "whole")) (.cons (.var 9) (.cons (.var 3) (.cons (.con (.int 1)) (.cons (.con (.int 1)) .nil)))))) (.cons (.idx (.var 2) (.con (.int 1))) .nil))) (.cons (.lst (.cons (.tup (.cons (.con (.str "whole")) (.cons (.var 9) (.cons (.var 3) .nil)))) (.cons (.idx (.var 2) (.con (.int 1))) .nil))) .nil))))) .nil)))))))))))))⟩

def p_law_22 : FD := ⟨1, 8, (.cons (.asg (.nm 1) (.call 160 (.cons (.var 0) (.cons (.con (.int 12)) .nil)))) (.cons (.forr (.nm 2) (.rng1 (.bi .max (.cons (.con (.int 3)) (.cons (.bi .len (.cons (.var 1) .nil)) .nil)))) (.cons (.asg (.nm 3) (.new (.call 3 (.cons (.var 1) (.cons (.var 2) .nil))))) (.cons (.asg (.tp (.cons (.nm 5) (.cons (.nm 6) (.cons (.nm 7) .nil)))) (.call 174 (.cons (.var 3) (.cons (.idx (.lst (.cons (.con (.int 2)) (.cons (.con (.int 4)) (.cons (.con (.int 8)) (.cons (.con (.int 16)) .nil))))) (.call 159 (.cons (.var 3) (.cons (.con (.int 4)) .nil)))) .nil)))) (.cons (.ite (.not (.call 38 (.cons (.call 157 (.cons (.var 5) (.cons (.var 6) .nil))) (.cons (.con (.bl true)) .nil)))) (.cons (.ret (.con (.bl false))) .nil) .nil) (.cons (.forr (.nm 4) (.seq (.call 175 (.cons (.var 3) (.cons (.var 5) (.cons (.var 6) (.cons (.var 7) .nil)))))) (.cons (.ite (.not (.call 38 (.cons (.call 157 (.cons (.var 5) (.cons (.var 4) .nil))) (.cons (.call 170 (.cons (.var 5) (.cons (.var 4) .nil))) .nil)))) (.cons (.ret (.con (.bl false))) .nil) .nil) .nil)) .nil))))) (.cons (.ret (.con (.bl true))) .nil)))⟩
























def GG : List D := [.dct [.inr "all", .inr "notall", .inr "some", .inr "none", .inr "share", .inr "under", .inr "more", .inr "asmany"] [.str "notall", .str "all", .str "none", .str "some", .str "under", .str "share", .str "asmany", .str "more"], .dct [.inr "all", .inr "notall", .inr "some", .inr "none", .inr "more", .inr "asmany"] [.int 0, .int 1, .int 1, .int 0, .int 1, .int 0], .dct [.inr "all", .inr "notall", .inr "some", .inr "none", .inr "more", .inr "asmany", .inr "least", .inr "most"] [.tup [.int 0, .int (-1), .int 0], .tup [.int 0, .int 1, .int 0], .tup [.int 1, .int 0, .int 0], .tup [.int (-1), .int 0, .int 0], .tup [.int 0, .int 1, .int (-1)], .tup [.int 0, .int 1, .int (-1)], .tup [.int 1, .int 0, .int 0], .tup [.int (-1), .int 0, .int 0]], .int 8, .tup [.str "all", .str "notall", .str "some", .str "none", .str "more", .str "asmany"], .tup [.str "least", .str "most", .str "just"], .int 41, .int 12, .tup [.str "share", .str "under"], .dct [.inr "all", .inr "notall", .inr "some", .inr "none", .inr "least", .inr "most", .inr "just", .inr "more", .inr "asmany", .inr "share", .inr "under"] [.str "all", .str "not all", .str "some", .str "no", .str "at least", .str "at most", .str "exactly", .str "more", .str "as many", .str "share", .str "not share"], .dct [.inr "more", .inr "asmany"] [.str "than", .str "as"], .dct [.inr "sum", .inr "whole", .inr "cases"] [.int 2, .int 4, .int 5]]
end Mi
end
section
namespace Mi
open PySem L2
abbrev Row := List Int × Int
def dRow (r : Row) : D := .tup [.tup (r.1.map .int), .int r.2]
def RowOk (w : Nat) (M : Int) (r : Row) : Prop := r.1.length = w ∧ (∀ x, x ∈ r.1 → -M ≤ x ∧ x ≤ M) ∧ -M ≤ r.2 ∧ r.2 ≤ M


def addRow (a : Row) (p : Row × Int) : Row := (List.zipWith (fun x y => x + p.2 * y) a.1 p.1.1, a.2 + p.2 * p.1.2)
def sumRows (w : Nat) (ps : List (Row × Int)) : Row := ps.foldl addRow (List.replicate w 0, 0)
theorem foldRow_len {w : Nat} : ∀ (ps : List (Row × Int)) (a : Row), a.1.length = w → (∀ p, p ∈ ps → p.1.1.length = w) → (ps.foldl addRow a).1.length = w
  | [], a, h, _ => h
  | p :: ps, a, h, hp => by
    rw [List.foldl_cons]
    refine foldRow_len ps _ ?_ fun q hq => hp q (List.mem_cons_of_mem _ hq)
    show (List.zipWith _ a.1 p.1.1).length = w
    rw [List.length_zipWith, h, hp p List.mem_cons_self, Nat.min_self]
theorem foldRow_snd : ∀ (ps : List (Row × Int)) (a : Row), (ps.foldl addRow a).2 = a.2 + (ps.map fun p => p.2 * p.1.2).sum
  | [], a => by simp
  | p :: ps, a => by
    rw [List.foldl_cons, foldRow_snd ps, List.map_cons, List.sum_cons]
    show a.2 + p.2 * p.1.2 + _ = _
    omega
theorem foldRow_fst {w : Nat} : ∀ (ps : List (Row × Int)) (a : Row), a.1.length = w → (∀ p, p ∈ ps → p.1.1.length = w) → ∀ c, c < w → (ps.foldl addRow a).1.getD c 0 = a.1.getD c 0 + (ps.map fun p => p.2 * p.1.1.getD c 0).sum
  | [], a, _, _, c, _ => by simp
  | p :: ps, a, h, hp, c, hc => by
    rw [List.foldl_cons, List.map_cons, List.sum_cons]
    have hw := hp p List.mem_cons_self
    have hl : (addRow a p).1.length = w := by
      show (List.zipWith _ a.1 p.1.1).length = w
      rw [List.length_zipWith, h, hw, Nat.min_self]
    rw [foldRow_fst ps _ hl (fun q hq => hp q (List.mem_cons_of_mem _ hq)) c hc]
    have e : (addRow a p).1.getD c 0 = a.1.getD c 0 + p.2 * p.1.1.getD c 0 := by
      show (List.zipWith (fun x y => x + p.2 * y) a.1 p.1.1).getD c 0 = _
      rw [List.getD_eq_getElem?_getD, List.getD_eq_getElem?_getD, List.getD_eq_getElem?_getD, List.getElem?_zipWith, List.getElem?_eq_getElem (by omega : c < a.1.length), List.getElem?_eq_getElem (by omega : c < p.1.1.length)]
      rfl
    rw [e]; omega
theorem ix_row0 {S : Sto} {r : Row} : index S (.val (dRow r)) (.val (.int 0)) = some (.tup (r.1.map .int)) := by
  unfold dRow; rw [ix_tup]; exact atI_0
theorem ix_row1 {S : Sto} {r : Row} : index S (.val (dRow r)) (.val (.int 1)) = some (.int r.2) := by
  unfold dRow; rw [ix_tup]; exact atI_1
theorem wI_zip2 {z : Bool} {Φ : Fns} {G : List D} {ρ : Env} {S : Sto} {Qs : List D → Sto → Prop} {a b : ME} : wI Φ G ρ z (.zip a b) S Qs ↔ wE Φ G ρ a S fun x S1 => wE Φ G ρ b S1 fun y S2 => ∃ xs, still z x = some xs ∧ ∃ ys, still z y = some ys ∧ Qs (zipL xs ys) S2 := by
  rw [wI_zip]
  simp only [exists_and_left]
theorem mulok_b {i j : Int} (h1 : -18446744073709551615 ≤ i) (h2 : i ≤ 18446744073709551615) : MulOk i j := .inl (.inl ⟨by omega, by omega⟩)
theorem cat_tt {S : Sto} {xs ys : List D} {Q : Rt → Prop} : (∃ r, binop S .add (.val (.tup xs)) (.val (.tup ys)) = some r ∧ Q r) ↔ xs.length + ys.length ≤ sizeLine ∧ Q (.val (.tup (xs ++ ys))) := by
  show (∃ r, (if xs.length + ys.length ≤ sizeLine then some (Rt.val (.tup (xs ++ ys))) else none) = some r ∧ Q r) ↔ _
  split
  · rename_i h
    constructor
    · rintro ⟨r, e, q⟩; cases e; exact ⟨h, q⟩
    · rintro ⟨_, q⟩; exact ⟨_, rfl, q⟩
  · rename_i h
    constructor
    · rintro ⟨r, e, q⟩; cases e
    · rintro ⟨h', _⟩; exact absurd h' h
theorem bi_sumf {S : Sto} {α : Type} {f : α → Int} {xs : List α} : biop S .sum [.own (xs.map fun x => .int (f x))] = some (.val (.int (xs.map f).sum)) := by
  rw [show (xs.map fun x => D.int (f x)) = (xs.map f).map .int by rw [List.map_map]; rfl, bi_sumo]
theorem bi_allt {S : Sto} {α : Type} {xs : List α} : biop S .all [.own (xs.map fun _ => .bl true)] = some (.val (.bl true)) := by
  rw [show (xs.map fun _ => D.bl true) = (xs.map fun _ => true).map .bl by rw [List.map_map]; rfl, bi_allm]
  congr 3
  rw [List.all_map, List.all_eq_true]
  intro x _; rfl
theorem zip_turn {α β γ : Type} (f : α → β → γ) : ∀ (xs : List α) (ys : List β), (xs.zip ys).map (fun p => f p.1 p.2) = (ys.zip xs).map (fun p => f p.2 p.1)
  | [], [] => rfl
  | [], y :: ys => rfl
  | x :: xs, [] => rfl
  | x :: xs, y :: ys => by
    rw [List.zip_cons_cons, List.zip_cons_cons, List.map_cons, List.map_cons, zip_turn f xs ys]
theorem RowOk.mono {w : Nat} {M M' : Int} {r : Row} (h : RowOk w M r) (hM : M ≤ M') : RowOk w M' r := ⟨h.1, fun x hx => by have := h.2.1 x hx; omega, by have := h.2.2; omega, by have := h.2.2; omega⟩
theorem tyR_row {r : Row} {t : Ty} : tyR (.val (dRow r)) t = decide (t = .tuple) := rfl
theorem bi_lenrow {S : Sto} {r : Row} : biop S .len [.val (dRow r)] = some (.val (.int 2)) := rfl
def TimesOk (M : Int) (ts : List Int) : Prop := ∀ t, t ∈ ts → -M ≤ t ∧ t ≤ M
theorem cat_bo {S : Sto} {xs ys : List D} {Q : Rt → Prop} : (∃ r, binop S .add (.bor xs) (.own ys) = some r ∧ Q r) ↔ xs.length + ys.length ≤ sizeLine ∧ Q (.own (xs ++ ys)) := cat_any rfl rfl rfl rfl rfl
theorem cat_ob {S : Sto} {xs ys : List D} {Q : Rt → Prop} : (∃ r, binop S .add (.own xs) (.bor ys) = some r ∧ Q r) ↔ xs.length + ys.length ≤ sizeLine ∧ Q (.own (xs ++ ys)) := cat_any rfl rfl rfl rfl rfl
theorem cat_bl {S : Sto} {xs ys : List D} {Q : Rt → Prop} : (∃ r, binop S .add (.bor xs) (.val (.lst ys)) = some r ∧ Q r) ↔ xs.length + ys.length ≤ sizeLine ∧ Q (.own (xs ++ ys)) := cat_any rfl rfl rfl rfl rfl
theorem cat_lb {S : Sto} {xs ys : List D} {Q : Rt → Prop} : (∃ r, binop S .add (.val (.lst xs)) (.bor ys) = some r ∧ Q r) ↔ xs.length + ys.length ≤ sizeLine ∧ Q (.own (xs ++ ys)) := cat_any rfl rfl rfl rfl rfl
theorem bi_leno {S : Sto} {ds : List D} : biop S .len [.own ds] = some (.val (.int ds.length)) := rfl
theorem bi_lenb {S : Sto} {ds : List D} : biop S .len [.bor ds] = some (.val (.int ds.length)) := rfl
theorem bi_listb {S : Sto} {ds : List D} : biop S .list [.bor ds] = some (.own ds) := rfl
theorem sl_own {S : Sto} {ds : List D} {lo hi : Option Int} : slice S (.own ds) lo hi = some (.own (cutD ds lo hi)) := rfl
theorem sl_bor {S : Sto} {ds : List D} {lo hi : Option Int} : slice S (.bor ds) lo hi = some (.own (cutD ds lo hi)) := rfl
theorem isRef_row {r : Row} : D.isRef (dRow r) = false := rfl
theorem isRef_sq {k : Kd} {ds : List D} : D.isRef (sqD k ds) = false := by cases k <;> rfl
theorem tyD_row {r : Row} {t : Ty} : tyD (dRow r) t = decide (t = .tuple) := rfl

theorem cmp_notin {S : Sto} {x y : Rt} : cmpop S .notin x y = (cmpop S .isin x y).map fun b => !b := rfl
theorem inop_f {S : Sto} {x : D} {y : Rt} {ds : List D} (hy : sview S y = some ds) (hx : flatD x = true) (hd : ds.all flatD = true) : cmpop S .isin (.val x) y = some (inV (vOf x) (ds.map vOf)) := by
  show inop S (.val x) y = _
  unfold inop
  have e : ((Rt.val x).val?.bind fun d => (sview S y).bind fun ds => inD d ds) = some (inV (vOf x) (ds.map vOf)) := by
    show ((sview S y).bind fun ds => inD x ds) = _
    rw [hy, Option.bind_some]
    unfold inD
    rw [if_pos ⟨hx, hd⟩]
  rw [e]
theorem in_nil {S : Sto} {x : Str} : cmpop S .isin (.val (.str x)) (.val (.tup [])) = some false := rfl
theorem in_cons {S : Sto} {x y : Str} {ds : List D} (h : ds.all flatD = true) : cmpop S .isin (.val (.str x)) (.val (.tup (.str y :: ds))) = (cmpop S .isin (.val (.str x)) (.val (.tup ds))).map fun b => decide (y = x) || b := by
  rw [inop_f (ds := .str y :: ds) rfl rfl (by rw [List.all_cons, h]; rfl), inop_f (ds := ds) rfl rfl h]
  show some (eqV (.str y) (.str x) || inV (.str x) (ds.map vOf)) = some (decide (y = x) || inV (.str x) (ds.map vOf))
  congr 2
theorem flatD_s {x : Str} : flatD (.str x) = true := rfl
theorem flatD_i {x : Int} : flatD (.int x) = true := rfl
theorem ints_flat (is : List Int) : (is.map D.int).all flatD = true := by
  rw [List.all_eq_true]
  intro d hd
  obtain ⟨i, _, rfl⟩ := List.mem_map.mp hd
  rfl
theorem inV_ints (i : Int) : ∀ is : List Int, inV (.int i) ((is.map D.int).map vOf) = decide (i ∈ is)
  | [] => by simp [inV]
  | j :: is => by
    show (eqV (.int j) (.int i) || inV (.int i) ((is.map D.int).map vOf)) = _
    rw [inV_ints i is]
    show ((j == i) || decide (i ∈ is)) = _
    by_cases h : j = i
    · subst h; simp
    · simp [h, Ne.symm h]
theorem in_intsT {S : Sto} {i : Int} {is : List Int} : cmpop S .isin (.val (.int i)) (.val (.tup (is.map .int))) = some (decide (i ∈ is)) := by
  rw [inop_f (ds := is.map .int) rfl rfl (ints_flat is), ← inV_ints i is]; rfl
theorem in_intsL {S : Sto} {i : Int} {is : List Int} : cmpop S .isin (.val (.int i)) (.val (.lst (is.map .int))) = some (decide (i ∈ is)) := by
  rw [inop_f (ds := is.map .int) rfl rfl (ints_flat is), ← inV_ints i is]; rfl
theorem in_intsB {S : Sto} {i : Int} {is : List Int} : cmpop S .isin (.val (.int i)) (.bor (is.map .int)) = some (decide (i ∈ is)) := by
  rw [inop_f (ds := is.map .int) rfl rfl (ints_flat is), ← inV_ints i is]; rfl
theorem Sh.ints {xs : List Int} (h : ∀ x, x ∈ xs → -1000000000000000000000000000000000000 ≤ x ∧ x ≤ 1000000000000000000000000000000000000) : Sh 1 xs.length (.tup (xs.map .int)) ∧ Sh 1 xs.length (.lst (xs.map .int)) := by
  have e : ∀ d, d ∈ xs.map D.int → Sh 0 0 d := fun d hd => by
    obtain ⟨x, hx, rfl⟩ := List.mem_map.mp hd
    have := h x hx
    exact .int (by omega) (by omega)
  have h1 := Sh.tup e
  have h2 := Sh.lst e
  rw [List.length_map, Nat.zero_add, Nat.mul_one] at h1 h2
  exact ⟨h1, h2⟩

theorem divok_s {j : Int} (h1 : 0 < j) (h2 : j < 1073741824) : DivOk j = True := eq_true (divok h1 h2)
theorem mulok_ls {i j : Int} (h1 : -18446744073709551616 < i) (h2 : i < 18446744073709551616) : MulOk i j = True := eq_true (mulok_l h1 h2)
theorem mulok_rs {i j : Int} (h1 : -18446744073709551616 < j) (h2 : j < 18446744073709551616) : MulOk i j = True := eq_true (mulok_r h1 h2)

theorem isi1_n {S : Sto} {t : Ty}  : biop S (.isi1 t) [.val .non] = some (.val (.bl (tyD .non t))) := rfl
theorem isi_n {S : Sto} {ts : List Ty}  : biop S (.isi ts) [.val .non] = some (.val (.bl (ts.any fun t => tyD .non t))) := rfl
theorem isi1_b {S : Sto} {t : Ty} {b : Bool} : biop S (.isi1 t) [.val (.bl b)] = some (.val (.bl (tyD (.bl b) t))) := rfl
theorem isi_b {S : Sto} {ts : List Ty} {b : Bool} : biop S (.isi ts) [.val (.bl b)] = some (.val (.bl (ts.any fun t => tyD (.bl b) t))) := rfl
theorem isi1_i {S : Sto} {t : Ty} {b : Int} : biop S (.isi1 t) [.val (.int b)] = some (.val (.bl (tyD (.int b) t))) := rfl
theorem isi_i {S : Sto} {ts : List Ty} {b : Int} : biop S (.isi ts) [.val (.int b)] = some (.val (.bl (ts.any fun t => tyD (.int b) t))) := rfl
theorem isi1_s {S : Sto} {t : Ty} {b : Str} : biop S (.isi1 t) [.val (.str b)] = some (.val (.bl (tyD (.str b) t))) := rfl
theorem isi_s {S : Sto} {ts : List Ty} {b : Str} : biop S (.isi ts) [.val (.str b)] = some (.val (.bl (ts.any fun t => tyD (.str b) t))) := rfl
theorem isi1_t {S : Sto} {t : Ty} {b : List D} : biop S (.isi1 t) [.val (.tup b)] = some (.val (.bl (tyD (.tup b) t))) := rfl
theorem isi_t {S : Sto} {ts : List Ty} {b : List D} : biop S (.isi ts) [.val (.tup b)] = some (.val (.bl (ts.any fun t => tyD (.tup b) t))) := rfl
theorem isi1_l {S : Sto} {t : Ty} {b : List D} : biop S (.isi1 t) [.val (.lst b)] = some (.val (.bl (tyD (.lst b) t))) := rfl
theorem isi_l {S : Sto} {ts : List Ty} {b : List D} : biop S (.isi ts) [.val (.lst b)] = some (.val (.bl (ts.any fun t => tyD (.lst b) t))) := rfl
theorem isi1_c {S : Sto} {t : Ty} {b : List D} : biop S (.isi1 t) [.val (.scr b)] = some (.val (.bl (tyD (.scr b) t))) := rfl
theorem isi_c {S : Sto} {ts : List Ty} {b : List D} : biop S (.isi ts) [.val (.scr b)] = some (.val (.bl (ts.any fun t => tyD (.scr b) t))) := rfl
theorem isi1_r {S : Sto} {t : Ty} {b : Row} : biop S (.isi1 t) [.val (dRow b)] = some (.val (.bl (tyD (dRow b) t))) := rfl
theorem isi_r {S : Sto} {ts : List Ty} {b : Row} : biop S (.isi ts) [.val (dRow b)] = some (.val (.bl (ts.any fun t => tyD (dRow b) t))) := rfl
theorem isi1_q {S : Sto} {t : Ty} {k : Kd} {ds : List D} : biop S (.isi1 t) [.val (sqD k ds)] = some (.val (.bl (tyD (sqD k ds) t))) := by cases k <;> rfl
theorem isi_q {S : Sto} {ts : List Ty} {k : Kd} {ds : List D} : biop S (.isi ts) [.val (sqD k ds)] = some (.val (.bl (ts.any fun t => tyD (sqD k ds) t))) := by cases k <;> rfl
theorem isi_o {S : Sto} {ts : List Ty} {ds : List D} : biop S (.isi ts) [.own ds] = some (.val (.bl (ts.any fun t => decide (t = .list)))) := rfl

theorem len1 {α : Type} {a : List α} (h : a.length = 1) : ∃ x0, a = [x0] := by
  match a, h with
  | [x0], _ => exact ⟨_, rfl⟩
theorem len2 {α : Type} {a : List α} (h : a.length = 2) : ∃ x0 x1, a = [x0, x1] := by
  match a, h with
  | [x0, x1], _ => exact ⟨_, _, rfl⟩
theorem len3 {α : Type} {a : List α} (h : a.length = 3) : ∃ x0 x1 x2, a = [x0, x1, x2] := by
  match a, h with
  | [x0, x1, x2], _ => exact ⟨_, _, _, rfl⟩
theorem len4 {α : Type} {a : List α} (h : a.length = 4) : ∃ x0 x1 x2 x3, a = [x0, x1, x2, x3] := by
  match a, h with
  | [x0, x1, x2, x3], _ => exact ⟨_, _, _, _, rfl⟩
theorem len5 {α : Type} {a : List α} (h : a.length = 5) : ∃ x0 x1 x2 x3 x4, a = [x0, x1, x2, x3, x4] := by
  match a, h with
  | [x0, x1, x2, x3, x4], _ => exact ⟨_, _, _, _, _, rfl⟩
theorem len6 {α : Type} {a : List α} (h : a.length = 6) : ∃ x0 x1 x2 x3 x4 x5, a = [x0, x1, x2, x3, x4, x5] := by
  match a, h with
  | [x0, x1, x2, x3, x4, x5], _ => exact ⟨_, _, _, _, _, _, rfl⟩
theorem len7 {α : Type} {a : List α} (h : a.length = 7) : ∃ x0 x1 x2 x3 x4 x5 x6, a = [x0, x1, x2, x3, x4, x5, x6] := by
  match a, h with
  | [x0, x1, x2, x3, x4, x5, x6], _ => exact ⟨_, _, _, _, _, _, _, rfl⟩
theorem len8 {α : Type} {a : List α} (h : a.length = 8) : ∃ x0 x1 x2 x3 x4 x5 x6 x7, a = [x0, x1, x2, x3, x4, x5, x6, x7] := by
  match a, h with
  | [x0, x1, x2, x3, x4, x5, x6, x7], _ => exact ⟨_, _, _, _, _, _, _, _, rfl⟩
theorem len9 {α : Type} {a : List α} (h : a.length = 9) : ∃ x0 x1 x2 x3 x4 x5 x6 x7 x8, a = [x0, x1, x2, x3, x4, x5, x6, x7, x8] := by
  match a, h with
  | [x0, x1, x2, x3, x4, x5, x6, x7, x8], _ => exact ⟨_, _, _, _, _, _, _, _, _, rfl⟩
theorem len10 {α : Type} {a : List α} (h : a.length = 10) : ∃ x0 x1 x2 x3 x4 x5 x6 x7 x8 x9, a = [x0, x1, x2, x3, x4, x5, x6, x7, x8, x9] := by
  match a, h with
  | [x0, x1, x2, x3, x4, x5, x6, x7, x8, x9], _ => exact ⟨_, _, _, _, _, _, _, _, _, _, rfl⟩
theorem len11 {α : Type} {a : List α} (h : a.length = 11) : ∃ x0 x1 x2 x3 x4 x5 x6 x7 x8 x9 x10, a = [x0, x1, x2, x3, x4, x5, x6, x7, x8, x9, x10] := by
  match a, h with
  | [x0, x1, x2, x3, x4, x5, x6, x7, x8, x9, x10], _ => exact ⟨_, _, _, _, _, _, _, _, _, _, _, rfl⟩
theorem len12 {α : Type} {a : List α} (h : a.length = 12) : ∃ x0 x1 x2 x3 x4 x5 x6 x7 x8 x9 x10 x11, a = [x0, x1, x2, x3, x4, x5, x6, x7, x8, x9, x10, x11] := by
  match a, h with
  | [x0, x1, x2, x3, x4, x5, x6, x7, x8, x9, x10, x11], _ => exact ⟨_, _, _, _, _, _, _, _, _, _, _, _, rfl⟩
theorem len13 {α : Type} {a : List α} (h : a.length = 13) : ∃ x0 x1 x2 x3 x4 x5 x6 x7 x8 x9 x10 x11 x12, a = [x0, x1, x2, x3, x4, x5, x6, x7, x8, x9, x10, x11, x12] := by
  match a, h with
  | [x0, x1, x2, x3, x4, x5, x6, x7, x8, x9, x10, x11, x12], _ => exact ⟨_, _, _, _, _, _, _, _, _, _, _, _, _, rfl⟩
theorem len14 {α : Type} {a : List α} (h : a.length = 14) : ∃ x0 x1 x2 x3 x4 x5 x6 x7 x8 x9 x10 x11 x12 x13, a = [x0, x1, x2, x3, x4, x5, x6, x7, x8, x9, x10, x11, x12, x13] := by
  match a, h with
  | [x0, x1, x2, x3, x4, x5, x6, x7, x8, x9, x10, x11, x12, x13], _ => exact ⟨_, _, _, _, _, _, _, _, _, _, _, _, _, _, rfl⟩
theorem len15 {α : Type} {a : List α} (h : a.length = 15) : ∃ x0 x1 x2 x3 x4 x5 x6 x7 x8 x9 x10 x11 x12 x13 x14, a = [x0, x1, x2, x3, x4, x5, x6, x7, x8, x9, x10, x11, x12, x13, x14] := by
  match a, h with
  | [x0, x1, x2, x3, x4, x5, x6, x7, x8, x9, x10, x11, x12, x13, x14], _ => exact ⟨_, _, _, _, _, _, _, _, _, _, _, _, _, _, _, rfl⟩
theorem len16 {α : Type} {a : List α} (h : a.length = 16) : ∃ x0 x1 x2 x3 x4 x5 x6 x7 x8 x9 x10 x11 x12 x13 x14 x15, a = [x0, x1, x2, x3, x4, x5, x6, x7, x8, x9, x10, x11, x12, x13, x14, x15] := by
  match a, h with
  | [x0, x1, x2, x3, x4, x5, x6, x7, x8, x9, x10, x11, x12, x13, x14, x15], _ => exact ⟨_, _, _, _, _, _, _, _, _, _, _, _, _, _, _, _, rfl⟩
theorem len17 {α : Type} {a : List α} (h : a.length = 17) : ∃ x0 x1 x2 x3 x4 x5 x6 x7 x8 x9 x10 x11 x12 x13 x14 x15 x16, a = [x0, x1, x2, x3, x4, x5, x6, x7, x8, x9, x10, x11, x12, x13, x14, x15, x16] := by
  match a, h with
  | [x0, x1, x2, x3, x4, x5, x6, x7, x8, x9, x10, x11, x12, x13, x14, x15, x16], _ => exact ⟨_, _, _, _, _, _, _, _, _, _, _, _, _, _, _, _, _, rfl⟩
theorem len18 {α : Type} {a : List α} (h : a.length = 18) : ∃ x0 x1 x2 x3 x4 x5 x6 x7 x8 x9 x10 x11 x12 x13 x14 x15 x16 x17, a = [x0, x1, x2, x3, x4, x5, x6, x7, x8, x9, x10, x11, x12, x13, x14, x15, x16, x17] := by
  match a, h with
  | [x0, x1, x2, x3, x4, x5, x6, x7, x8, x9, x10, x11, x12, x13, x14, x15, x16, x17], _ => exact ⟨_, _, _, _, _, _, _, _, _, _, _, _, _, _, _, _, _, _, rfl⟩
theorem len19 {α : Type} {a : List α} (h : a.length = 19) : ∃ x0 x1 x2 x3 x4 x5 x6 x7 x8 x9 x10 x11 x12 x13 x14 x15 x16 x17 x18, a = [x0, x1, x2, x3, x4, x5, x6, x7, x8, x9, x10, x11, x12, x13, x14, x15, x16, x17, x18] := by
  match a, h with
  | [x0, x1, x2, x3, x4, x5, x6, x7, x8, x9, x10, x11, x12, x13, x14, x15, x16, x17, x18], _ => exact ⟨_, _, _, _, _, _, _, _, _, _, _, _, _, _, _, _, _, _, _, rfl⟩
theorem len20 {α : Type} {a : List α} (h : a.length = 20) : ∃ x0 x1 x2 x3 x4 x5 x6 x7 x8 x9 x10 x11 x12 x13 x14 x15 x16 x17 x18 x19, a = [x0, x1, x2, x3, x4, x5, x6, x7, x8, x9, x10, x11, x12, x13, x14, x15, x16, x17, x18, x19] := by
  match a, h with
  | [x0, x1, x2, x3, x4, x5, x6, x7, x8, x9, x10, x11, x12, x13, x14, x15, x16, x17, x18, x19], _ => exact ⟨_, _, _, _, _, _, _, _, _, _, _, _, _, _, _, _, _, _, _, _, rfl⟩
theorem len21 {α : Type} {a : List α} (h : a.length = 21) : ∃ x0 x1 x2 x3 x4 x5 x6 x7 x8 x9 x10 x11 x12 x13 x14 x15 x16 x17 x18 x19 x20, a = [x0, x1, x2, x3, x4, x5, x6, x7, x8, x9, x10, x11, x12, x13, x14, x15, x16, x17, x18, x19, x20] := by
  match a, h with
  | [x0, x1, x2, x3, x4, x5, x6, x7, x8, x9, x10, x11, x12, x13, x14, x15, x16, x17, x18, x19, x20], _ => exact ⟨_, _, _, _, _, _, _, _, _, _, _, _, _, _, _, _, _, _, _, _, _, rfl⟩
theorem len22 {α : Type} {a : List α} (h : a.length = 22) : ∃ x0 x1 x2 x3 x4 x5 x6 x7 x8 x9 x10 x11 x12 x13 x14 x15 x16 x17 x18 x19 x20 x21, a = [x0, x1, x2, x3, x4, x5, x6, x7, x8, x9, x10, x11, x12, x13, x14, x15, x16, x17, x18, x19, x20, x21] := by
  match a, h with
  | [x0, x1, x2, x3, x4, x5, x6, x7, x8, x9, x10, x11, x12, x13, x14, x15, x16, x17, x18, x19, x20, x21], _ => exact ⟨_, _, _, _, _, _, _, _, _, _, _, _, _, _, _, _, _, _, _, _, _, _, rfl⟩
theorem len23 {α : Type} {a : List α} (h : a.length = 23) : ∃ x0 x1 x2 x3 x4 x5 x6 x7 x8 x9 x10 x11 x12 x13 x14 x15 x16 x17 x18 x19 x20 x21 x22, a = [x0, x1, x2, x3, x4, x5, x6, x7, x8, x9, x10, x11, x12, x13, x14, x15, x16, x17, x18, x19, x20, x21, x22] := by
  match a, h with
  | [x0, x1, x2, x3, x4, x5, x6, x7, x8, x9, x10, x11, x12, x13, x14, x15, x16, x17, x18, x19, x20, x21, x22], _ => exact ⟨_, _, _, _, _, _, _, _, _, _, _, _, _, _, _, _, _, _, _, _, _, _, _, rfl⟩
theorem len24 {α : Type} {a : List α} (h : a.length = 24) : ∃ x0 x1 x2 x3 x4 x5 x6 x7 x8 x9 x10 x11 x12 x13 x14 x15 x16 x17 x18 x19 x20 x21 x22 x23, a = [x0, x1, x2, x3, x4, x5, x6, x7, x8, x9, x10, x11, x12, x13, x14, x15, x16, x17, x18, x19, x20, x21, x22, x23] := by
  match a, h with
  | [x0, x1, x2, x3, x4, x5, x6, x7, x8, x9, x10, x11, x12, x13, x14, x15, x16, x17, x18, x19, x20, x21, x22, x23], _ => exact ⟨_, _, _, _, _, _, _, _, _, _, _, _, _, _, _, _, _, _, _, _, _, _, _, _, rfl⟩

def FrG (l : Nat) (S S' : Sto) : Prop := S.length ≤ S'.length ∧ ∀ j, j < S.length → j ≠ l → S'[j]? = S[j]?

theorem in_1 {S : Sto} {x y0 : Str} : cmpop S .isin (.val (.str x)) (.val (.tup [.str y0])) = some (decide (y0 = x)) := by
  rw [in_cons rfl, in_nil]
  simp only [Option.map_some, Bool.or_false]
theorem in_2 {S : Sto} {x y0 y1 : Str} : cmpop S .isin (.val (.str x)) (.val (.tup [.str y0, .str y1])) = some (decide (y0 = x) || (decide (y1 = x))) := by
  rw [in_cons rfl, in_cons rfl, in_nil]
  simp only [Option.map_some, Bool.or_false]
theorem in_3 {S : Sto} {x y0 y1 y2 : Str} : cmpop S .isin (.val (.str x)) (.val (.tup [.str y0, .str y1, .str y2])) = some (decide (y0 = x) || (decide (y1 = x) || (decide (y2 = x)))) := by
  rw [in_cons rfl, in_cons rfl, in_cons rfl, in_nil]
  simp only [Option.map_some, Bool.or_false]
theorem in_4 {S : Sto} {x y0 y1 y2 y3 : Str} : cmpop S .isin (.val (.str x)) (.val (.tup [.str y0, .str y1, .str y2, .str y3])) = some (decide (y0 = x) || (decide (y1 = x) || (decide (y2 = x) || (decide (y3 = x))))) := by
  rw [in_cons rfl, in_cons rfl, in_cons rfl, in_cons rfl, in_nil]
  simp only [Option.map_some, Bool.or_false]
theorem in_5 {S : Sto} {x y0 y1 y2 y3 y4 : Str} : cmpop S .isin (.val (.str x)) (.val (.tup [.str y0, .str y1, .str y2, .str y3, .str y4])) = some (decide (y0 = x) || (decide (y1 = x) || (decide (y2 = x) || (decide (y3 = x) || (decide (y4 = x)))))) := by
  rw [in_cons rfl, in_cons rfl, in_cons rfl, in_cons rfl, in_cons rfl, in_nil]
  simp only [Option.map_some, Bool.or_false]
theorem in_6 {S : Sto} {x y0 y1 y2 y3 y4 y5 : Str} : cmpop S .isin (.val (.str x)) (.val (.tup [.str y0, .str y1, .str y2, .str y3, .str y4, .str y5])) = some (decide (y0 = x) || (decide (y1 = x) || (decide (y2 = x) || (decide (y3 = x) || (decide (y4 = x) || (decide (y5 = x))))))) := by
  rw [in_cons rfl, in_cons rfl, in_cons rfl, in_cons rfl, in_cons rfl, in_cons rfl, in_nil]
  simp only [Option.map_some, Bool.or_false]
theorem in_11 {S : Sto} {x y0 y1 y2 y3 y4 y5 y6 y7 y8 y9 y10 : Str} : cmpop S .isin (.val (.str x)) (.val (.tup [.str y0, .str y1, .str y2, .str y3, .str y4, .str y5, .str y6, .str y7, .str y8, .str y9, .str y10])) = some (decide (y0 = x) || (decide (y1 = x) || (decide (y2 = x) || (decide (y3 = x) || (decide (y4 = x) || (decide (y5 = x) || (decide (y6 = x) || (decide (y7 = x) || (decide (y8 = x) || (decide (y9 = x) || (decide (y10 = x)))))))))))) := by
  rw [in_cons rfl, in_cons rfl, in_cons rfl, in_cons rfl, in_cons rfl, in_cons rfl, in_cons rfl, in_cons rfl, in_cons rfl, in_cons rfl, in_cons rfl, in_nil]
  simp only [Option.map_some, Bool.or_false]
end Mi
end
section
namespace Mi
open PySem L2
def Bx (l B : Nat) (S : Sto) : Prop := ∃ a b c : Int, S[l]? = some (Cell.lst [.int a, .int b, .int c]) ∧ 0 ≤ a ∧ 0 ≤ b ∧ b < 2147483648 ∧ 0 ≤ c ∧ c + B ≤ 1152921504606846976
def Fr (l : Nat) (S S' : Sto) : Prop := S'.length = S.length ∧ ∀ j, j ≠ l → S'[j]? = S[j]?
theorem Fr.refl (l : Nat) (S : Sto) : Fr l S S := ⟨rfl, fun _ _ => rfl⟩
theorem Fr.trans {l : Nat} {S S1 S2 : Sto} (a : Fr l S S1) (b : Fr l S1 S2) : Fr l S S2 := ⟨b.1.trans a.1, fun j h => (b.2 j h).trans (a.2 j h)⟩
theorem Fr.set (l : Nat) (S : Sto) (c : Cell) : Fr l S (S.set l c) := ⟨List.length_set, fun j h => List.getElem?_set_ne (Ne.symm h)⟩
theorem Bx.mono {l B B' : Nat} {S : Sto} (h : Bx l B S) (hB : B' ≤ B) : Bx l B' S := by
  obtain ⟨a, b, c, h1, h2, h3, h4, h5, h6⟩ := h
  exact ⟨a, b, c, h1, h2, h3, h4, h5, by omega⟩
local macro_rules | `(tactic| walk_at "w") => `(tactic| try simp only [wSs_cons, wSs_nil, wS_asg, wS_own, wS_aug, wS_app, wS_ext, exV_o, exV_t, wS_rev, wS_sown, wS_pops, wS_ite, wS_for, wS_ret, wS_reto, wS_expr, wS_frz, wS_par, wS_par3, slOf_f, slOf_fo, slOf_t, frzN_own, frzN_val, retOk_v, retOk_o,
  wE_var, wE_bor, wE_con, wE_glb, wE_bin, wE_cmp, wE_idx, wE_neg, wE_not, wE_and, wE_or, wE_ite, wE_chn, wE_tup, wE_lst, wE_slc, wE_call, wE_callp, lends_nil, lends_v, lends_o, lends_b, wE_bi, wE_comp, wE_new, newC_own, newC_ownd, wE_o1, wE_o2, wE_o3, wE_dct, wE_dgt, wE_din, wEs_nil, wEs_cons, wRs_nil, wRs_cons, wO_no, wO_yes, wC_no, wC_yes,
  wI_rng1, wI_rng2, wI_seq, wI_enm, wI_zip2, wT_nm, wT_sub, wT_tp, wTs_nil, wTs_cons,
  List.map_cons, List.map_nil, List.cons_append, List.nil_append, List.replicate_succ, List.replicate_zero, List.getElem?_cons_zero, List.getElem?_cons_succ, List.set_cons_zero, List.set_cons_succ, List.length_cons, List.length_nil, Nat.reduceSub, Nat.reduceAdd, Nat.reduceLT, Nat.reduceLeDiff, Nat.reduceEqDiff,
  Option.some.injEq, Sl.val.injEq, Sl.own.injEq, Rt.val.injEq, Rt.own.injEq, D.int.injEq, D.bl.injEq, D.ref.injEq, D.tup.injEq, D.lst.injEq, D.str.injEq, exists_eq_left, exists_eq_left', exists_eq_right, exists_eq_right', rd_val, rd_own, rd_ownd, ne_eq, reduceCtorEq, not_false_eq_true, not_true_eq_false, implies_true, true_and, and_true, and_self, false_and, and_false, exists_false, Prod.mk.injEq,
  bin_add, bin_sub, bin_mul', bin_fdiv', bin_mod', bin_pow', bin_shl', rep_own, rep_tup, cat_lo, cat_oo, cat_ll, cat_ol, cat_tt, cat_ss, cat_bo, cat_ob, cat_bl, cat_lb, cmp_int, cmp_intn, cmp_str, cmp_strs, cmp_strsn, ofString_inj, cmp_lt, cmp_le, cmp_gt, cmp_ge, cmp_isn, cmp_isnn, cmp_isb, cmp_isnb, cmp_blne, cmp_bleq, bi_divmod', bi_abs', bi_intb, bi_min2, bi_max2, bi_lenl, bi_lens, bi_lent, bi_leno, bi_lenb, bi_listo, bi_listl, bi_listt, bi_listb, bi_tupo, bi_tupb, bi_tupt, bi_tupl, sl_scr, sl_lst, sl_tup, sl_own, sl_bor, ix_tup, ix_lst, ix_own, ix_bor, atI_0, atI_1, atI_2, String.reduceEq, decide_false, decide_true, decide_eq_true_eq, Bool.false_eq_true, if_false, if_true, reduceIte, Bool.not_false, Bool.not_true, Int.reduceLT, Int.reduceLE, Int.reduceToNat, Int.reduceNeg, Int.reduceAdd, Int.reduceSub, Int.reduceMul, Int.reduceEq, Nat.lt_irrefl, forall_const, size_ok, inRng_ok, still_l, still_t, still_o, still_b, still_sq, ix_sq, bi_lensq, bi_tupsq, bi_listsq, bi_sumo, bi_sumt, bi_sumq, bi_sumf, bi_maxt, bi_mint, bi_maxo, bi_minq, bi_allt, bi_allm, bi_anym, ix_row0, ix_row1, bi_lenrow, List.length_map, Int.cast_ofNat_Int,
  isi1_n, isi_n, isi1_b, isi_b, isi1_i, isi_i, isi1_s, isi_s, isi1_t, isi_t, isi1_l, isi_l, isi1_c, isi_c, isi1_r, isi_r, isi1_q, isi_q, isi_o, bi_isi1o, bi_isi1b, tyD_t, tyD_i, tyD_b, tyD_s, tyD_l, tyD_n, tyD_row, List.any_cons, List.any_nil, Bool.or_false, Bool.or_true, Bool.true_or, Bool.false_or, Bool.and_true, Bool.true_and, Bool.and_false, Bool.false_and, beq_self_eq_true, bne_self_eq_false, beq_true, beq_false, isN,
  p_lrng, p_revl, p_revo, p_revb, p_revt, p_sseto, p_lsetl, p_lsett, p_mxdo, p_premxd, p_predzip, p_lsetb, p_prelrng2, p_lrng2, p_gget, p_gin, p_mx3, p_get, p_presplit, p_prejoin, p_split, dct_o, dct_v, key_i, key_s, valD_cons, valD_nil, Sum.inr.injEq, Sum.inl.injEq, Option.isSome_some, Option.isSome_none, Bool.xor_false, Bool.xor_true, Bool.false_xor, Bool.true_xor, Option.getD_some, Option.getD_none, cmp_notin, in_nil, in_1, in_2, in_3, in_4, in_5, in_6, in_11, in_intsT, in_intsL, in_intsB, Option.map_some, List.all_cons, List.all_nil, flatD_s, flatD_i, divok_s, mulok_ls, mulok_rs])
theorem take_ok {P : Nat → Option FD} {G : List D} {t0 k l B : Nat} {n : Int} {S : Sto} {Q : Rt → Sto → Prop} (hP : P t0 = some l_take) (hB : Bx l (B + 1) S) (h0 : 0 < n) (h1 : n < 1073741824)
    (q : ∀ r S', 0 ≤ r → r < n → Bx l B S' → Fr l S S' → Q (.val (.int r)) S') : wF (runF P G (k + 1)) t0 [.ref l, .int n] S Q := by
  obtain ⟨a, b, c, hS, ha, hb, hb2, hc, hcB⟩ := hB
  refine wF_of hP rfl ?_
  unfold l_take
  walk_at "w"
  simp only [ix3_0 hS]
  walk_at "w"
  refine ite2 (fun h => ?_) fun h => ?_
  · walk_at "w"
    refine ⟨⟨h0, h1⟩, ?_⟩
    walk_at "w"
    refine ⟨_, put3_0 hS, ?_⟩
    refine q _ _ (Int.emod_nonneg _ (by omega)) (Int.emod_lt_of_pos _ h0) ⟨a / n, b, c, set_at hS, Int.ediv_nonneg ha (by omega), hb, hb2, hc, by omega⟩ (Fr.set _ _ _)
  · walk_at "w"
    simp only [ix3_2 hS]
    walk_at "w"
    refine ⟨_, put3_2 hS, ?_⟩
    have hS1 : (S.set l (.lst [.int a, .int b, .int (c + 1)]))[l]? = some (.lst [.int a, .int b, .int (c + 1)]) := set_at hS
    simp only [ix3_1 hS1, ix3_2 hS1]
    walk_at "w"
    have m1 : 0 ≤ (b + 39373 * (c + 1)) * (48271 + (c + 1)) % 2147483647 := Int.emod_nonneg _ (by decide)
    have m2 : (b + 39373 * (c + 1)) * (48271 + (c + 1)) % 2147483647 < 2147483647 := Int.emod_lt_of_pos _ (by decide)
    generalize (b + 39373 * (c + 1)) * (48271 + (c + 1)) % 2147483647 = o at m1 m2 ⊢
    refine ⟨mulok_r (by omega) (by omega), mulok_l (by omega) (by omega), _, put3_1 hS1, ?_⟩
    have m3 : 0 ≤ (o * (o % 40009 + 7) + (c + 1)) % 2147483629 := Int.emod_nonneg _ (by decide)
    have m4 : (o * (o % 40009 + 7) + (c + 1)) % 2147483629 < 2147483629 := Int.emod_lt_of_pos _ (by decide)
    generalize (o * (o % 40009 + 7) + (c + 1)) % 2147483629 = b2 at m3 m4 ⊢
    rw [List.set_set]
    have hS2 : (S.set l (.lst [.int a, .int b2, .int (c + 1)]))[l]? = some (.lst [.int a, .int b2, .int (c + 1)]) := set_at hS
    simp only [ix3_1 hS2]
    walk_at "w"
    refine ⟨mulok_l (by omega) (by omega), h0, ?_⟩
    refine q _ _ (Int.emod_nonneg _ (by omega)) (Int.emod_lt_of_pos _ h0) ⟨a, b2, c + 1, hS2, ha, m3, by omega, by omega, by omega⟩ (Fr.set _ _ _)

theorem cell_count_ok {P : Nat → Option FD} {G : List D} {k : Nat} {n : Int} {S : Sto} {Q : Rt → Sto → Prop} (hP : P 0 = some p_cell_count) (h0 : 0 ≤ n) (h1 : n ≤ 1000)
    (q : Q (.val (.int (2 ^ n.toNat))) S) : wF (runF P G (k + 1)) 0 [.int n] S Q := by
  refine wF_of hP rfl ?_
  unfold p_cell_count
  walk_at "w"
  refine ⟨⟨by omega, by omega⟩, wFor_inv (fun i ρ S' => ∃ y, ρ = [.val (.int n), .val (.int (2 ^ i)), y] ∧ S' = S) ⟨_, rfl, rfl⟩ (fun i d ρ S' hd h => ?_) fun ρ S' h => ?_⟩
  · obtain ⟨y, rfl, rfl⟩ := h
    rw [rngL_get] at hd
    split at hd
    · cases hd
      walk_at "w"
      rw [show (2 : Int) * 2 ^ i = 2 ^ (i + 1) by rw [Int.pow_succ, Int.mul_comm]]
      exact ⟨_, rfl⟩
    · cases hd
  · obtain ⟨y, rfl, rfl⟩ := h
    walk_at "w"
    rw [rngL_len]; exact q

inductive Tm where
  | any | is (k : Nat) | not (t : Tm) | and (a b : Tm) | or (a b : Tm)
def Tm.d : Tm → D
  | .any => .tup [.str "any"]
  | .is k => .tup [.str "is", .int k]
  | .not t => .tup [.str "not", t.d]
  | .and a b => .tup [.str "and", a.d, b.d]
  | .or a b => .tup [.str "or", a.d, b.d]
def Tm.deep : Tm → Nat
  | .any => 1
  | .is _ => 1
  | .not t => t.deep + 1
  | .and a b => max a.deep b.deep + 1
  | .or a b => max a.deep b.deep + 1

def Tm.ok (n : Nat) : Tm → Prop
  | .any => True
  | .is k => k < n
  | .not t => t.ok n
  | .and a b => a.ok n ∧ b.ok n
  | .or a b => a.ok n ∧ b.ok n
def Tm.has (c : Int) : Tm → Bool
  | .any => true
  | .is k => decide (c / 2 ^ k % 2 = 1)
  | .not t => !t.has c
  | .and a b => a.has c && b.has c
  | .or a b => a.has c || b.has c
theorem pow_lt30 {k : Nat} (h : k < 29) : (0 : Int) < 2 ^ k ∧ (2 : Int) ^ k < 1073741824 := by
  have a : ∀ k : Nat, (0 : Int) < 2 ^ k := fun k => Int.pow_pos (by decide)
  refine ⟨a k, ?_⟩
  have b : ∀ n m : Nat, (2 : Int) ^ n ≤ 2 ^ (n + m) := fun n m => by
    induction m with
    | zero => exact Int.le_refl _
    | succ m ih =>
      have e : (2 : Int) ^ (n + (m + 1)) = 2 ^ (n + m) * 2 := Int.pow_succ _ _
      have := a (n + m)
      omega
  have := b k (28 - k)
  rw [show k + (28 - k) = 28 by omega] at this
  exact Int.lt_of_le_of_lt this (by decide)
theorem is_of_ok {P : Nat → Option FD} {G : List D} (hP0 : P 0 = some p_cell_count) (hP1 : P 1 = some p_is_of) (n : Nat) (hn : n ≤ 16) (c : Int) {S : Sto} : ∀ (t : Tm) (k : Nat) (Q : Rt → Sto → Prop), t.deep < k → t.ok n →
    Q (.val (.bl (t.has c))) S → wF (runF P G k) 1 [t.d, .int c] S Q
  | t, 0, Q, h, _, _ => absurd h (by omega)
  | t, k + 1, Q, h, ht, q => by
    refine wF_of hP1 rfl ?_
    unfold p_is_of
    cases t with
    | any =>
      simp only [Tm.d]
      walk_at "w"
      exact q
    | is j =>
      simp only [Tm.d]
      walk_at "w"
      have hj : j < n := ht
      have hp := pow_lt30 (k := j) (by omega)
      cases k with
      | zero => exact absurd h (by simp [Tm.deep])
      | succ k =>
        refine cell_count_ok hP0 (by omega) (by omega) ?_
        walk_at "w"
        rw [Int.toNat_natCast]
        exact ⟨divok hp.1 hp.2, q⟩
    | not t =>
      simp only [Tm.d]
      walk_at "w"
      refine is_of_ok hP0 hP1 n hn c t k _ (by simp only [Tm.deep] at h; omega) ht ?_
      walk_at "w"
      exact q
    | and a b =>
      simp only [Tm.d]
      walk_at "w"
      simp only [Tm.deep] at h
      refine is_of_ok hP0 hP1 n hn c a k _ (by omega) ht.1 ?_
      walk_at "w"
      cases ha : a.has c with
      | false =>
        walk_at "w"
        simp only [Tm.has, ha, Bool.false_and] at q
        exact q
      | true =>
        walk_at "w"
        refine is_of_ok hP0 hP1 n hn c b k _ (by omega) ht.2 ?_
        walk_at "w"
        simp only [Tm.has, ha, Bool.true_and] at q
        exact q
    | or a b =>
      simp only [Tm.d]
      walk_at "w"
      simp only [Tm.deep] at h
      refine is_of_ok hP0 hP1 n hn c a k _ (by omega) ht.1 ?_
      walk_at "w"
      cases ha : a.has c with
      | true =>
        walk_at "w"
        simp only [Tm.has, ha, Bool.true_or] at q
        exact q
      | false =>
        walk_at "w"
        refine is_of_ok hP0 hP1 n hn c b k _ (by omega) ht.2 ?_
        walk_at "w"
        simp only [Tm.has, ha, Bool.false_or] at q
        exact q
theorem rngL_mem {d : D} {lo : Int} {n : Nat} (h : d ∈ rngL lo n) : ∃ i : Nat, i < n ∧ d = .int (lo + i) := by
  obtain ⟨i, hi⟩ := List.getElem?_of_mem h
  rw [rngL_get] at hi
  split at hi
  · cases hi; exact ⟨i, by assumption, rfl⟩
  · cases hi

def Tm.pick (t : Tm) (d : D) : Option D := match d with
  | .int c => if t.has c = true then some (.int c) else none
  | _ => none
def Tm.cells (t : Tm) (m : Nat) : List D := (rngL 0 (2 ^ m)).filterMap t.pick
theorem two_pow_le {m : Nat} (h : m ≤ 4) : 2 ^ m ≤ 16 := by
  have : m = 0 ∨ m = 1 ∨ m = 2 ∨ m = 3 ∨ m = 4 := by omega
  rcases this with rfl | rfl | rfl | rfl | rfl <;> decide
theorem cells_len {t : Tm} {m : Nat} (h : m ≤ 4) : (t.cells m).length ≤ sizeLine := by
  have h1 : (t.cells m).length ≤ (rngL 0 (2 ^ m)).length := List.length_filterMap_le _ _
  rw [rngL_len] at h1
  exact lt_size (Nat.le_trans h1 (Nat.le_trans (two_pow_le h) (by decide)))
theorem toNat_two (m : Nat) : ((2 : Int) ^ m).toNat = 2 ^ m := by
  have : ((2 : Int) ^ m) = ((2 ^ m : Nat) : Int) := by rw [Int.natCast_pow]; rfl
  rw [this, Int.toNat_natCast]
theorem inRng_two {m : Nat} (h : m ≤ 4) : inRng ((2 : Int) ^ m) := by
  have := pow_lt30 (k := m) (by omega)
  exact ⟨by omega, by omega⟩
theorem cells_of_ok {P : Nat → Option FD} {G : List D} (hP0 : P 0 = some p_cell_count) (hP1 : P 1 = some p_is_of) (hP2 : P 2 = some p_cells_of) {t : Tm} {m k : Nat} {S : Sto} {Q : Rt → Sto → Prop} (hm : m ≤ 4) (hk : t.deep < k) (ht : t.ok m)
    (q : Q (.val (.tup (t.cells m))) S) : wF (runF P G (k + 1)) 2 [t.d, .int m] S Q := by
  refine wF_of hP2 rfl ?_
  unfold p_cells_of
  walk_at "w"
  cases k with
  | zero => exact absurd hk (by omega)
  | succ k =>
    refine cell_count_ok hP0 (by omega) (by omega) ?_
    walk_at "w"
    rw [Int.toNat_natCast, toNat_two]
    refine ⟨inRng_two hm, wL_pure t.pick (fun d hd => ?_) ⟨cells_len hm, ?_⟩⟩
    · obtain ⟨i, hi, rfl⟩ := rngL_mem hd
      unfold wTn wipeR wipeR
      walk_at "w"
      refine is_of_ok hP0 hP1 m (by omega) _ t (k + 1) _ hk ht ?_
      walk_at "w"
      rw [show t.pick (.int (0 + i)) = if t.has (0 + i) = true then some (.int (0 + i)) else none from rfl]
      cases t.has (0 + (i : Int)) <;> simp
    · walk_at "w"
      exact q
theorem at4 {j : Nat} (h : j < 4) : atI [D.int 1, .int 2, .int 4, .int 8] (j : Int) = some (.int (2 ^ j)) := by
  have : j = 0 ∨ j = 1 ∨ j = 2 ∨ j = 3 := by omega
  rcases this with rfl | rfl | rfl | rfl <;> rfl
theorem law_of_ok {P : Nat → Option FD} {G : List D} (hP : P 6 = some l_of) (c : Int) {S : Sto} : ∀ (t : Tm) (k : Nat) (Q : Rt → Sto → Prop), t.deep ≤ k → t.ok 4 →
    Q (.val (.bl (t.has c))) S → wF (runF P G k) 6 [t.d, .int c] S Q
  | t, 0, Q, h, _, _ => absurd h (by cases t <;> simp [Tm.deep])
  | t, k + 1, Q, h, ht, q => by
    refine wF_of hP rfl ?_
    unfold l_of
    cases t with
    | any =>
      simp only [Tm.d]
      walk_at "w"
      exact q
    | is j =>
      simp only [Tm.d]
      walk_at "w"
      have hj : j < 4 := ht
      simp only [at4 hj]
      walk_at "w"
      have hp := pow_lt30 (k := j) (by omega)
      exact ⟨divok hp.1 hp.2, q⟩
    | not t =>
      simp only [Tm.d]
      walk_at "w"
      refine law_of_ok hP c t k _ (by simp only [Tm.deep] at h; omega) ht ?_
      walk_at "w"
      exact q
    | and a b =>
      simp only [Tm.d]
      walk_at "w"
      simp only [Tm.deep] at h
      refine law_of_ok hP c a k _ (by omega) ht.1 ?_
      walk_at "w"
      cases ha : a.has c with
      | false =>
        walk_at "w"
        simp only [Tm.has, ha, Bool.false_and] at q
        exact q
      | true =>
        walk_at "w"
        refine law_of_ok hP c b k _ (by omega) ht.2 ?_
        walk_at "w"
        simp only [Tm.has, ha, Bool.true_and] at q
        exact q
    | or a b =>
      simp only [Tm.d]
      walk_at "w"
      simp only [Tm.deep] at h
      refine law_of_ok hP c a k _ (by omega) ht.1 ?_
      walk_at "w"
      cases ha : a.has c with
      | true =>
        walk_at "w"
        simp only [Tm.has, ha, Bool.true_or] at q
        exact q
      | false =>
        walk_at "w"
        refine law_of_ok hP c b k _ (by omega) ht.2 ?_
        walk_at "w"
        simp only [Tm.has, ha, Bool.false_or] at q
        exact q
end Mi
end
section
namespace Mi
open PySem L2
local macro_rules | `(tactic| walk_at "w") => `(tactic| try simp only [wSs_cons, wSs_nil, wS_asg, wS_own, wS_aug, wS_app, wS_ext, exV_o, exV_t, wS_rev, wS_sown, wS_pops, wS_ite, wS_for, wS_ret, wS_reto, wS_expr, wS_frz, wS_par, wS_par3, slOf_f, slOf_fo, slOf_t, frzN_own, frzN_val, retOk_v, retOk_o,
  wE_var, wE_bor, wE_con, wE_glb, wE_bin, wE_cmp, wE_idx, wE_neg, wE_not, wE_and, wE_or, wE_ite, wE_chn, wE_tup, wE_lst, wE_slc, wE_call, wE_callp, lends_nil, lends_v, lends_o, lends_b, wE_bi, wE_comp, wE_new, newC_own, newC_ownd, wE_o1, wE_o2, wE_o3, wE_dct, wE_dgt, wE_din, wEs_nil, wEs_cons, wRs_nil, wRs_cons, wO_no, wO_yes, wC_no, wC_yes,
  wI_rng1, wI_rng2, wI_seq, wI_enm, wI_zip2, wT_nm, wT_sub, wT_tp, wTs_nil, wTs_cons,
  List.map_cons, List.map_nil, List.cons_append, List.nil_append, List.replicate_succ, List.replicate_zero, List.getElem?_cons_zero, List.getElem?_cons_succ, List.set_cons_zero, List.set_cons_succ, List.length_cons, List.length_nil, Nat.reduceSub, Nat.reduceAdd, Nat.reduceLT, Nat.reduceLeDiff, Nat.reduceEqDiff,
  Option.some.injEq, Sl.val.injEq, Sl.own.injEq, Rt.val.injEq, Rt.own.injEq, D.int.injEq, D.bl.injEq, D.ref.injEq, D.tup.injEq, D.lst.injEq, D.str.injEq, exists_eq_left, exists_eq_left', exists_eq_right, exists_eq_right', rd_val, rd_own, rd_ownd, ne_eq, reduceCtorEq, not_false_eq_true, not_true_eq_false, implies_true, true_and, and_true, and_self, false_and, and_false, exists_false, Prod.mk.injEq,
  bin_add, bin_sub, bin_mul', bin_fdiv', bin_mod', bin_pow', bin_shl', rep_own, rep_tup, cat_lo, cat_oo, cat_ll, cat_ol, cat_tt, cat_ss, cat_bo, cat_ob, cat_bl, cat_lb, cmp_int, cmp_intn, cmp_str, cmp_strs, cmp_strsn, ofString_inj, cmp_lt, cmp_le, cmp_gt, cmp_ge, cmp_isn, cmp_isnn, cmp_isb, cmp_isnb, cmp_blne, cmp_bleq, bi_divmod', bi_abs', bi_intb, bi_min2, bi_max2, bi_lenl, bi_lens, bi_lent, bi_leno, bi_lenb, bi_listo, bi_listl, bi_listt, bi_listb, bi_tupo, bi_tupb, bi_tupt, bi_tupl, sl_scr, sl_lst, sl_tup, sl_own, sl_bor, ix_tup, ix_lst, ix_own, ix_bor, atI_0, atI_1, atI_2, String.reduceEq, decide_false, decide_true, decide_eq_true_eq, Bool.false_eq_true, if_false, if_true, reduceIte, Bool.not_false, Bool.not_true, Int.reduceLT, Int.reduceLE, Int.reduceToNat, Int.reduceNeg, Int.reduceAdd, Int.reduceSub, Int.reduceMul, Int.reduceEq, Nat.lt_irrefl, forall_const, size_ok, inRng_ok, still_l, still_t, still_o, still_b, still_sq, ix_sq, bi_lensq, bi_tupsq, bi_listsq, bi_sumo, bi_sumt, bi_sumq, bi_sumf, bi_maxt, bi_mint, bi_maxo, bi_minq, bi_allt, bi_allm, bi_anym, ix_row0, ix_row1, bi_lenrow, List.length_map, Int.cast_ofNat_Int,
  isi1_n, isi_n, isi1_b, isi_b, isi1_i, isi_i, isi1_s, isi_s, isi1_t, isi_t, isi1_l, isi_l, isi1_c, isi_c, isi1_r, isi_r, isi1_q, isi_q, isi_o, bi_isi1o, bi_isi1b, tyD_t, tyD_i, tyD_b, tyD_s, tyD_l, tyD_n, tyD_row, List.any_cons, List.any_nil, Bool.or_false, Bool.or_true, Bool.true_or, Bool.false_or, Bool.and_true, Bool.true_and, Bool.and_false, Bool.false_and, beq_self_eq_true, bne_self_eq_false, beq_true, beq_false, isN,
  p_lrng, p_revl, p_revo, p_revb, p_revt, p_sseto, p_lsetl, p_lsett, p_mxdo, p_premxd, p_predzip, p_lsetb, p_prelrng2, p_lrng2, p_gget, p_gin, p_mx3, p_get, p_presplit, p_prejoin, p_split, dct_o, dct_v, key_i, key_s, valD_cons, valD_nil, Sum.inr.injEq, Sum.inl.injEq, Option.isSome_some, Option.isSome_none, Bool.xor_false, Bool.xor_true, Bool.false_xor, Bool.true_xor, Option.getD_some, Option.getD_none, cmp_notin, in_nil, in_1, in_2, in_3, in_4, in_5, in_6, in_11, in_intsT, in_intsL, in_intsB, Option.map_some, List.all_cons, List.all_nil, flatD_s, flatD_i, divok_s, mulok_ls, mulok_rs])

theorem box_ok {P : Nat → Option FD} {G : List D} {k : Nat} {ns : List Int} {j : Nat} {S : Sto} {Q : Rt → Sto → Prop} (hP : P 3 = some l_box) (hl : ns.length ≤ 100) (hj : j ≤ 100)
    (q : ∀ a b : Int, 0 ≤ a → 0 ≤ b → b < 2147483648 → Q (.own [.int a, .int b, .int 0]) S) : wF (runF P G (k + 1)) 3 [.lst (ns.map .int), .int j] S Q := by
  refine wF_of hP rfl ?_
  unfold l_box
  walk_at "w"
  have e1 : ((j : Int) + 1).toNat = j + 1 := by omega
  have e2 : ∀ n : Nat, (List.replicate n [D.int 0]).flatten = (List.replicate n (0 : Int)).map .int := fun n => by
    induction n with
    | zero => rfl
    | succ n ih => rw [List.replicate_succ, List.flatten_cons, ih]; rfl
  rw [e1, e2, ← List.map_append]
  have hlt : j < (ns ++ List.replicate (j + 1) (0 : Int)).length := by simp; omega
  have e3 : atI ((ns ++ List.replicate (j + 1) (0 : Int)).map D.int) (j : Int) = some (.int (ns ++ List.replicate (j + 1) (0 : Int))[j]) := by
    refine L2.atI_nat ?_
    rw [List.getElem?_map, List.getElem?_eq_getElem hlt]; rfl
  generalize (ns ++ List.replicate (j + 1) (0 : Int))[j] = z at e3
  refine ⟨⟨by omega, by omega, lt_size (by omega)⟩, lt_size (by simp; omega), .int z, e3, ?_⟩
  walk_at "w"
  have hz : ∀ z : Int, 0 ≤ (if z < 0 then -z else z) := fun z => by split <;> omega
  have hb : ∀ (c : Prop) [Decidable c], 0 ≤ (if c then (1 : Int) else 0) ∧ (if c then (1 : Int) else 0) ≤ 1 := fun c _ => by split <;> omega
  have h1 := hz z
  generalize (if z < 0 then -z else z) = y at h1 ⊢
  have h2 := hb (10 ^ 18 ≤ y)
  generalize (if (10 : Int) ^ 18 ≤ y then (1 : Int) else 0) = x at h2 ⊢
  refine ⟨by decide, mulok_r (by omega) (by omega), ?_⟩
  exact q _ _ (Int.mul_nonneg h1 h2.1) (Int.emod_nonneg _ (by decide)) (Int.lt_trans (Int.emod_lt_of_pos _ (by decide)) (by decide))

theorem cut_map {ns : List Int} {lo hi : Option Int} : cutD (ns.map .int) lo hi = (((ns.drop (HT.sIx ns.length 0 lo)).take (HT.sIx ns.length ns.length hi - HT.sIx ns.length 0 lo))).map .int := by
  unfold cutD
  rw [List.length_map, ← List.map_drop, ← List.map_take]
theorem folded_ok {P : Nat → Option FD} {G : List D} {t0 k m : Nat} {ns : List Int} {S : Sto} {Q : Rt → Sto → Prop} (hP : P t0 = some l_folded) (hl : ns.length ≤ 63) (hm : 0 < m) (hm2 : m ≤ 63)
    (q : ∀ is : List Int, is.length = min m ns.length → Q (.own (is.map .int)) S) : wF (runF P G (k + 1)) t0 [.scr (ns.map .int), .int m] S Q := by
  refine wF_of hP rfl ?_
  unfold l_folded
  walk_at "w"
  have e1 : HT.sIx ns.length ns.length (some (m : Int)) = min m ns.length := HT.sIx_nat _ _ _
  have e2 : HT.sIx ns.length 0 (some (m : Int)) = min m ns.length := HT.sIx_nat _ _ _
  have e3 : HT.sIx ns.length ns.length (some 63) = min 63 ns.length := HT.sIx_nat _ _ 63
  rw [cut_map, cut_map, e1, e2, e3, HT.sIx_none, Nat.sub_zero, List.drop_zero]
  have hl1 : (ns.take (min m ns.length)).length = min m ns.length := by rw [List.length_take]; omega
  generalize ns.take (min m ns.length) = is at hl1
  have hl2 : ((ns.drop (min m ns.length)).take (min 63 ns.length - min m ns.length)).length ≤ ns.length - min m ns.length := by rw [List.length_take, List.length_drop]; omega
  generalize (ns.drop (min m ns.length)).take (min 63 ns.length - min m ns.length) = rest at hl2
  refine wFor_inv (fun i ρ S' => ∃ js y z, ρ = [.val (.scr (ns.map .int)), .val (.int m), .own (js.map .int), y, z] ∧ js.length = min m ns.length ∧ S' = S) ⟨is, _, _, rfl, hl1, rfl⟩ (fun i d ρ S' hd h => ?_) fun ρ S' h => ?_
  · obtain ⟨js, y, z, rfl, hjs, rfl⟩ := h
    rw [enmL_get, List.getElem?_map] at hd
    cases hr : rest[i]? with
    | none => rw [hr] at hd; cases hd
    | some x =>
      rw [hr] at hd
      have hd := Option.some.inj hd
      subst hd
      have hi : i < rest.length := (List.getElem?_eq_some_iff.mp hr).1
      have hmn : js.length = m := by omega
      rw [Nat.zero_add]
      walk_at "w"
      have hm0 : (0 : Int) < m := by omega
      have p0 : 0 ≤ ((i : Int)) % m := Int.emod_nonneg _ (by omega)
      have p1 : ((i : Int)) % m < m := Int.emod_lt_of_pos _ hm0
      have hx : (((i : Int)) % m).toNat < js.length := by omega
      have ea : atI (js.map D.int) ((i : Int) % m) = some (.int js[(((i : Int)) % m).toNat]) := atI_at p0 (by rw [List.getElem?_map, List.getElem?_eq_getElem hx]; rfl)
      refine ⟨hm0, _, ea, ?_⟩
      walk_at "w"
      refine ⟨mulok_r (by omega) (by omega), hm0, _, (((i : Int)) % m).toNat, rfl, ?_, ?_⟩
      · unfold ixN
        rw [if_pos p0, if_pos (by omega)]
      · rw [← List.map_set]
        exact ⟨_, _, _, rfl, by rw [List.length_set]; exact hjs⟩
  · obtain ⟨js, y, z, rfl, hjs, rfl⟩ := h
    walk_at "w"
    exact q js hjs

def XT : Nat → Nat
  | 0 => 2
  | d + 1 => 2 + 2 * XT d
theorem three {x : Int} (h : 0 ≤ x) (h2 : x < 3) : x = 0 ∨ x = 1 ∨ x = 2 := by omega
theorem term_ok {P : Nat → Option FD} {G : List D} (hP4 : P 4 = some l_take) (hP7 : P 7 = some l_term) {l m : Nat} (hm : 0 < m) (hm2 : m ≤ 4) : ∀ (d k B : Nat) (S : Sto) (Q : Rt → Sto → Prop), d + 2 ≤ k → Bx l (B + XT d) S →
    (∀ (t : Tm) (S' : Sto), t.ok m → t.deep ≤ max 1 d → Bx l B S' → Fr l S S' → Q (.val t.d) S') → wF (runF P G k) 7 [.ref l, .int m, .int d] S Q := by
  intro d
  induction d with
  | zero =>
    intro k B S Q hk hB q
    obtain ⟨k, rfl⟩ : ∃ k', k = k' + 2 := ⟨k - 2, by omega⟩
    refine wF_of hP7 rfl ?_
    unfold l_term
    walk_at "w"
    refine take_ok (B := B + 1) hP4 hB (by decide) (by decide) fun r S1 h0 h1 hB1 f1 => ?_
    walk_at "w"
    refine ite2 (fun h => ?_) fun h => ?_
    · exact q .any S1 trivial (by decide) (hB1.mono (by omega)) f1
    · refine take_ok (B := B) hP4 hB1 (by omega) (by omega) fun r2 S2 g0 g1 hB2 f2 => ?_
      walk_at "w"
      have e : r2 = ((r2.toNat : Nat) : Int) := by omega
      rw [e]
      exact q (.is r2.toNat) S2 (by show r2.toNat < m; omega) (by simp [Tm.deep]) hB2 (f1.trans f2)
  | succ d ih =>
    intro k B S Q hk hB q
    obtain ⟨k, rfl⟩ : ∃ k', k = k' + 2 := ⟨k - 2, by omega⟩
    refine wF_of hP7 rfl ?_
    unfold l_term
    walk_at "w"
    have ed : ((d + 1 : Nat) : Int) - 1 = (d : Int) := by omega
    refine take_ok (B := B + 1 + 2 * XT d) hP4 (by have : B + XT (d + 1) = B + 1 + 2 * XT d + 1 := by simp only [XT]; omega
                                                   rw [← this]; exact hB) (by decide) (by decide) fun r S1 h0 h1 hB1 f1 => ?_
    walk_at "w"
    rw [ed]
    refine ite2 (fun h => ?_) fun h => ?_
    · exact q .any S1 trivial (by simp only [Tm.deep]; omega) (hB1.mono (by omega)) f1
    have isCase : wF (runF P G (k + 1)) 4 [.ref l, .int m] S1 (fun r S2 => ∃ d, r.d = some d ∧ Q (.val (.tup [.str "is", d])) S2) := by
      refine take_ok (B := B) hP4 (hB1.mono (by omega)) (by omega) (by omega) fun r2 S2 g0 g1 hB2 f2 => ?_
      have e : r2 = ((r2.toNat : Nat) : Int) := by omega
      refine ⟨_, rfl, ?_⟩
      rw [e]
      exact q (.is r2.toNat) S2 (by show r2.toNat < m; omega) (by simp only [Tm.deep]; omega) hB2 (f1.trans f2)
    refine ite2 (fun _ => isCase) fun h2 => ?_
    refine ite2 (fun _ => isCase) fun h3 => ?_
    refine ite2 (fun h4 => ?_) fun h4 => ?_
    · refine ih (k + 1) B S1 _ (by omega) (hB1.mono (by omega)) fun t S2 ht hd hB2 f2 => ?_
      walk_at "w"
      exact q (.not t) S2 ht (by simp only [Tm.deep]; omega) hB2 (f1.trans f2)
    · refine take_ok (B := B + 2 * XT d) hP4 (hB1.mono (by omega)) (by decide) (by decide) fun w S2 g0 g1 hB2 f2 => ?_
      walk_at "w"
      have two : ∀ (wd : Str) (mk : Tm → Tm → Tm), (∀ a b, (mk a b).d = .tup [.str wd, a.d, b.d]) → (∀ a b, (mk a b).ok m ↔ a.ok m ∧ b.ok m) → (∀ a b, (mk a b).deep = max a.deep b.deep + 1) →
          wF (runF P G (k + 1)) 7 [.ref l, .int m, .int d] S2 (fun r S1 => ∃ d1, r.d = some d1 ∧ wF (runF P G (k + 1)) 7 [.ref l, .int m, .int d] S1 fun r S1 => ∃ d2, r.d = some d2 ∧ Q (.val (.tup [.str wd, d1, d2])) S1) := fun wd mk h1 h2 h3 => by
        refine ih (k + 1) (B + XT d) S2 _ (by omega) (by have : B + XT d + XT d = B + 2 * XT d := by omega
                                                         rw [this]; exact hB2) fun a S3 ha hda hB3 f3 => ?_
        refine ⟨_, rfl, ?_⟩
        refine ih (k + 1) B S3 _ (by omega) hB3 fun b S4 hb hdb hB4 f4 => ?_
        refine ⟨_, rfl, ?_⟩
        rw [← h1]
        exact q (mk a b) S4 ((h2 a b).mpr ⟨ha, hb⟩) (by rw [h3]; omega) hB4 (f1.trans (f2.trans (f3.trans f4)))
      rcases (show w = 0 ∨ w = 1 by omega) with rfl | rfl
      · exact ⟨_, atI_0, two "and" .and (fun _ _ => rfl) (fun _ _ => Iff.rfl) fun _ _ => rfl⟩
      · exact ⟨_, atI_1, two "or" .or (fun _ _ => rfl) (fun _ _ => Iff.rfl) fun _ _ => rfl⟩
theorem deep_term_ok {P : Nat → Option FD} {G : List D} (hP4 : P 4 = some l_take) (hP8 : P 8 = some l_deep_term) {l m k B : Nat} (hm : 0 < m) (hm2 : m ≤ 4) {d : Nat} (hd : 0 < d) (hd2 : d ≤ 100) {S : Sto} {Q : Rt → Sto → Prop} (hB : Bx l (B + 2 * d) S)
    (q : ∀ (t : Tm) (S' : Sto), t.ok m → t.deep = d → Bx l B S' → Fr l S S' → Q (.val t.d) S') : wF (runF P G (k + 2)) 8 [.ref l, .int m, .int d] S Q := by
  refine wF_of hP8 rfl ?_
  unfold l_deep_term
  walk_at "w"
  refine take_ok (B := B + 2 * d - 1) hP4 (by rw [show B + 2 * d - 1 + 1 = B + 2 * d by omega]; exact hB) (by omega) (by omega) fun c S1 h0 h1 hB1 f1 => ?_
  walk_at "w"
  refine take_ok (B := B + 2 * (d - 1)) hP4 (by rw [show B + 2 * (d - 1) + 1 = B + 2 * d - 1 by omega]; exact hB1) (by decide) (by decide) fun w S2 g0 g1 hB2 f2 => ?_
  walk_at "w"
  have loop : ∀ t0 : Tm, t0.ok m → t0.deep = 1 → wFor (runF P G (k + 1)) G (.nm 4) (.cons (.asg (.nm 5) (.call 4 (.cons (.var 0) (.cons (.con (.int 3)) .nil)))) (.cons (.asg (.nm 6) (.tup (.cons (.con (.str "is")) (.cons (.call 4 (.cons (.var 0) (.cons (.var 1) .nil))) .nil)))) (.cons (.asg (.nm 3) (.idx (.lst (.cons (.tup (.cons (.con (.str "not")) (.cons (.var 3) .nil))) (.cons (.tup (.cons (.con (.str "and")) (.cons (.var 6) (.cons (.var 3) .nil)))) (.cons (.tup (.cons (.con (.str "or")) (.cons (.var 3) (.cons (.var 6) .nil)))) .nil)))) (.var 5))) .nil)))
      (rngL 0 (d - 1)) [.val (.ref l), .val (.int m), .val (.int d), .val t0.d, .no, .no, .no] S2 (fun ρ S' => ∃ dd, ρ[3]? = some (.val dd) ∧ Q (.val dd) S') Q := fun t0 ht0 hd0 => by
    refine wFor_inv (fun i ρ S' => ∃ t : Tm, ∃ x y z, ρ = [.val (.ref l), .val (.int m), .val (.int d), .val t.d, x, y, z] ∧ t.ok m ∧ t.deep = i + 1 ∧ i ≤ d - 1 ∧ Bx l (B + 2 * (d - 1 - i)) S' ∧ Fr l S S') ⟨t0, _, _, _, rfl, ht0, hd0, by omega, hB2, f1.trans f2⟩ (fun i dd ρ S3 hd h => ?_) fun ρ S3 h => ?_
    · obtain ⟨t, x, y, z, rfl, ht, hdt, hi, hB3, f3⟩ := h
      rw [rngL_get] at hd
      split at hd
      · cases hd
        walk_at "w"
        refine take_ok (B := B + 2 * (d - 1 - (i + 1)) + 1) hP4 (by rw [show B + 2 * (d - 1 - (i + 1)) + 1 + 1 = B + 2 * (d - 1 - i) by omega]; exact hB3) (by decide) (by decide) fun wy S4 u0 u1 hB4 f4 => ?_
        walk_at "w"
        refine take_ok (B := B + 2 * (d - 1 - (i + 1))) hP4 hB4 (by omega) (by omega) fun c2 S5 v0 v1 hB5 f5 => ?_
        walk_at "w"
        have e : c2 = ((c2.toNat : Nat) : Int) := by omega
        have fin : ∀ t' : Tm, t'.ok m → t'.deep = i + 1 + 1 → ∃ (t : Tm) (x y z : Sl), ([.val (.ref l), .val (.int m), .val (.int d), .val t'.d, .val (.int (0 + i)), .val (.int wy), .val (.tup [.str "is", .int c2])] : List Sl) = [.val (.ref l), .val (.int m), .val (.int d), .val t.d, x, y, z] ∧ t.ok m ∧ t.deep = i + 1 + 1 ∧ i + 1 ≤ d - 1 ∧ Bx l (B + 2 * (d - 1 - (i + 1))) S5 ∧ Fr l S S5 :=
          fun t' h1 h2 => ⟨t', _, _, _, rfl, h1, h2, by omega, hB5, f3.trans (f4.trans f5)⟩
        rcases three u0 u1 with rfl | rfl | rfl
        · exact ⟨_, atI_0, fin (.not t) ht (by simp only [Tm.deep]; omega)⟩
        · refine ⟨_, atI_1, ?_⟩
          have := fin (.and (.is c2.toNat) t) ⟨by show c2.toNat < m; omega, ht⟩ (by simp only [Tm.deep]; omega)
          simp only [Tm.d] at this
          rw [← e] at this
          exact this
        · refine ⟨_, atI_2, ?_⟩
          have := fin (.or t (.is c2.toNat)) ⟨ht, by show c2.toNat < m; omega⟩ (by simp only [Tm.deep]; omega)
          simp only [Tm.d] at this
          rw [← e] at this
          exact this
      · cases hd
    · obtain ⟨t, x, y, z, rfl, ht, hdt, hi, hB3, f3⟩ := h
      rw [rngL_len] at hdt hB3
      refine ⟨t.d, rfl, q t S3 ht (by omega) (hB3.mono (by omega)) f3⟩
  have e1 : ((d : Int) - 1).toNat = d - 1 := by omega
  have fin : ∀ t0 : Tm, t0.ok m → t0.deep = 1 → inRng ((d : Int) - 1) ∧ wFor (runF P G (k + 1)) G (.nm 4) _ (rngL 0 ((d : Int) - 1).toNat) [.val (.ref l), .val (.int m), .val (.int d), .val t0.d, .no, .no, .no] S2 (fun ρ S' => ∃ dd, ρ[3]? = some (.val dd) ∧ Q (.val dd) S') Q := fun t0 h1 h2 => ⟨⟨by omega, by omega⟩, by rw [e1]; exact loop t0 h1 h2⟩
  by_cases hw : w < 1
  · rw [if_pos hw]
    rcases (show w = 0 by omega) with rfl
    exact ⟨_, atI_0, fin .any trivial rfl⟩
  · rw [if_neg hw]
    have e : c = ((c.toNat : Nat) : Int) := by omega
    refine ⟨_, atI_1, ?_⟩
    have := fin (.is c.toNat) (by show c.toNat < m; omega) rfl
    simp only [Tm.d] at this
    rw [← e] at this
    exact this
end Mi
end
section
namespace Mi
open PySem L2
local macro_rules | `(tactic| walk_at "w") => `(tactic| try simp only [wSs_cons, wSs_nil, wS_asg, wS_own, wS_aug, wS_app, wS_ext, exV_o, exV_t, wS_rev, wS_sown, wS_pops, wS_ite, wS_for, wS_ret, wS_reto, wS_expr, wS_frz, wS_par, wS_par3, slOf_f, slOf_fo, slOf_t, frzN_own, frzN_val, retOk_v, retOk_o,
  wE_var, wE_bor, wE_con, wE_glb, wE_bin, wE_cmp, wE_idx, wE_neg, wE_not, wE_and, wE_or, wE_ite, wE_chn, wE_tup, wE_lst, wE_slc, wE_call, wE_callp, lends_nil, lends_v, lends_o, lends_b, wE_bi, wE_comp, wE_new, newC_own, newC_ownd, wE_o1, wE_o2, wE_o3, wE_dct, wE_dgt, wE_din, wEs_nil, wEs_cons, wRs_nil, wRs_cons, wO_no, wO_yes, wC_no, wC_yes,
  wI_rng1, wI_rng2, wI_seq, wI_enm, wI_zip2, wT_nm, wT_sub, wT_tp, wTs_nil, wTs_cons,
  List.map_cons, List.map_nil, List.cons_append, List.nil_append, List.replicate_succ, List.replicate_zero, List.getElem?_cons_zero, List.getElem?_cons_succ, List.set_cons_zero, List.set_cons_succ, List.length_cons, List.length_nil, Nat.reduceSub, Nat.reduceAdd, Nat.reduceLT, Nat.reduceLeDiff, Nat.reduceEqDiff,
  Option.some.injEq, Sl.val.injEq, Sl.own.injEq, Rt.val.injEq, Rt.own.injEq, D.int.injEq, D.bl.injEq, D.ref.injEq, D.tup.injEq, D.lst.injEq, D.str.injEq, exists_eq_left, exists_eq_left', exists_eq_right, exists_eq_right', rd_val, rd_own, rd_ownd, ne_eq, reduceCtorEq, not_false_eq_true, not_true_eq_false, implies_true, true_and, and_true, and_self, false_and, and_false, exists_false, Prod.mk.injEq,
  bin_add, bin_sub, bin_mul', bin_fdiv', bin_mod', bin_pow', bin_shl', rep_own, rep_tup, cat_lo, cat_oo, cat_ll, cat_ol, cat_tt, cat_ss, cat_bo, cat_ob, cat_bl, cat_lb, cmp_int, cmp_intn, cmp_str, cmp_strs, cmp_strsn, ofString_inj, cmp_lt, cmp_le, cmp_gt, cmp_ge, cmp_isn, cmp_isnn, cmp_isb, cmp_isnb, cmp_blne, cmp_bleq, bi_divmod', bi_abs', bi_intb, bi_min2, bi_max2, bi_lenl, bi_lens, bi_lent, bi_leno, bi_lenb, bi_listo, bi_listl, bi_listt, bi_listb, bi_tupo, bi_tupb, bi_tupt, bi_tupl, sl_scr, sl_lst, sl_tup, sl_own, sl_bor, ix_tup, ix_lst, ix_own, ix_bor, atI_0, atI_1, atI_2, String.reduceEq, decide_false, decide_true, decide_eq_true_eq, Bool.false_eq_true, if_false, if_true, reduceIte, Bool.not_false, Bool.not_true, Int.reduceLT, Int.reduceLE, Int.reduceToNat, Int.reduceNeg, Int.reduceAdd, Int.reduceSub, Int.reduceMul, Int.reduceEq, Nat.lt_irrefl, forall_const, size_ok, inRng_ok, still_l, still_t, still_o, still_b, still_sq, ix_sq, bi_lensq, bi_tupsq, bi_listsq, bi_sumo, bi_sumt, bi_sumq, bi_sumf, bi_maxt, bi_mint, bi_maxo, bi_minq, bi_allt, bi_allm, bi_anym, ix_row0, ix_row1, bi_lenrow, List.length_map, Int.cast_ofNat_Int,
  isi1_n, isi_n, isi1_b, isi_b, isi1_i, isi_i, isi1_s, isi_s, isi1_t, isi_t, isi1_l, isi_l, isi1_c, isi_c, isi1_r, isi_r, isi1_q, isi_q, isi_o, bi_isi1o, bi_isi1b, tyD_t, tyD_i, tyD_b, tyD_s, tyD_l, tyD_n, tyD_row, List.any_cons, List.any_nil, Bool.or_false, Bool.or_true, Bool.true_or, Bool.false_or, Bool.and_true, Bool.true_and, Bool.and_false, Bool.false_and, beq_self_eq_true, bne_self_eq_false, beq_true, beq_false, isN,
  p_lrng, p_revl, p_revo, p_revb, p_revt, p_sseto, p_lsetl, p_lsett, p_mxdo, p_premxd, p_predzip, p_lsetb, p_prelrng2, p_lrng2, p_gget, p_gin, p_mx3, p_get, p_presplit, p_prejoin, p_split, dct_o, dct_v, key_i, key_s, valD_cons, valD_nil, Sum.inr.injEq, Sum.inl.injEq, Option.isSome_some, Option.isSome_none, Bool.xor_false, Bool.xor_true, Bool.false_xor, Bool.true_xor, Option.getD_some, Option.getD_none, cmp_notin, in_nil, in_1, in_2, in_3, in_4, in_5, in_6, in_11, in_intsT, in_intsL, in_intsB, Option.map_some, List.all_cons, List.all_nil, flatD_s, flatD_i, divok_s, mulok_ls, mulok_rs])
theorem rep_flat : ∀ n : Nat, (List.replicate n [D.int 0]).flatten = (List.replicate n (0 : Int)).map .int
  | 0 => rfl
  | n + 1 => by rw [List.replicate_succ, List.flatten_cons, rep_flat n]; rfl
theorem sum_of_ok {P : Nat → Option FD} {G : List D} {k w : Nat} {k1 k2 : Kd} {rs : List Row} {ts : List Int} {S : Sto} {Q : Rt → Sto → Prop} (hP : P 25 = some p_sum_of) (hw : w ≤ 1000) (h0 : 0 < rs.length) (hr : ∀ r, r ∈ rs → r.1.length = w)
    (hm : ∀ p, p ∈ rs.zip ts → MulOk p.2 p.1.2 ∧ ∀ x, x ∈ p.1.1 → MulOk p.2 x) (q : Q (.val (dRow (sumRows w (rs.zip ts)))) S) : wF (runF P G (k + 1)) 25 [sqD k1 (rs.map dRow), sqD k2 (ts.map .int)] S Q := by
  refine wF_of hP rfl ?_
  unfold p_sum_of
  obtain ⟨r0, hr0⟩ : ∃ r0, rs[0]? = some r0 := ⟨rs[0], List.getElem?_eq_getElem h0⟩
  have eix : atI (rs.map dRow) 0 = some (dRow r0) := atI_map (i := 0) hr0
  walk_at "w"
  simp only [eix]
  walk_at "w"
  rw [hr r0 (List.mem_of_getElem? hr0), zipL_map, Int.toNat_natCast, rep_flat]
  refine ⟨⟨by omega, by omega, lt_size (by omega)⟩, ?_⟩
  refine wFor_inv (fun i ρ S' => ∃ x y, ρ = [.val (sqD k1 (rs.map dRow)), .val (sqD k2 (ts.map .int)), .val (.lst ((sumRows w ((rs.zip ts).take i)).1.map .int)), .val (.int (sumRows w ((rs.zip ts).take i)).2), x, y, .no, .no] ∧ S' = S) ⟨_, _, rfl, rfl⟩ (fun i d ρ S' hd h => ?_) fun ρ S' h => ?_
  · obtain ⟨x, y, rfl, rfl⟩ := h
    rw [List.getElem?_map] at hd
    obtain ⟨p, hp, rfl⟩ := map_some hd
    have hpm := List.mem_of_getElem? hp
    have hpr : p.1 ∈ rs := (List.of_mem_zip hpm).1
    walk_at "w"
    rw [zipL_map]
    have eS : sumRows w ((rs.zip ts).take (i + 1)) = addRow (sumRows w ((rs.zip ts).take i)) p := by
      unfold sumRows
      rw [List.take_add_one, hp, List.foldl_append]; rfl
    have hlen : (sumRows w ((rs.zip ts).take i)).1.length = w := by
      refine foldRow_len _ _ (List.length_replicate) fun q hq => ?_
      exact hr _ (List.of_mem_zip (List.mem_of_mem_take hq)).1
    refine wL_map (fun z : Int × Int => .int (z.1 + p.2 * z.2)) (fun z hz => ?_) ?_
    · unfold wTn wipeR wipeR wipeR
      walk_at "w"
      exact (hm p hpm).2 _ (List.of_mem_zip hz).2
    · walk_at "w"
      refine ⟨?_, (hm p hpm).1, ?_⟩
      · rw [List.length_zip]
        exact lt_size (by omega)
      · rw [eS]
        have ez : ((sumRows w ((rs.zip ts).take i)).1.zip p.1.1).map (fun z : Int × Int => D.int (z.1 + p.2 * z.2)) = (addRow (sumRows w ((rs.zip ts).take i)) p).1.map .int := by
          show _ = (List.zipWith _ _ _).map _
          rw [List.zip, List.map_zipWith, List.map_zipWith]
        rw [ez]
        exact ⟨_, _, rfl⟩
  · obtain ⟨x, y, rfl, rfl⟩ := h
    rw [List.length_map, List.take_length]
    walk_at "w"
    exact q
end Mi
end
section
namespace Mi
open PySem L2


theorem wSs_cut {Φ : Fns} {G : List D} {s : MS} {r : MSs} {ρ : Env} {S : Sto} {N : Env → Sto → Prop} {R : Rt → Sto → Prop} (h : ∀ r', r' = r → wS Φ G s ρ S (fun ρ S => wSs Φ G r' ρ S N R) R) : wSs Φ G (.cons s r) ρ S N R := wSs_cons.mpr (h r rfl)
theorem wR_imp {r : SR} {N N' : Env → Sto → Prop} {R : Rt → Sto → Prop} (h : wR r N R) (i : ∀ ρ S, N ρ S → N' ρ S) : wR r N' R := by
  cases r with
  | nx ρ S => exact i _ _ h
  | rt _ _ => exact h
  | er => exact h
theorem wS_imp {Φ : Fns} {G : List D} {s : MS} {ρ : Env} {S : Sto} {N N' : Env → Sto → Prop} {R : Rt → Sto → Prop} (h : wS Φ G s ρ S N R) (i : ∀ ρ S, N ρ S → N' ρ S) : wS Φ G s ρ S N' R := by
  unfold wS at h ⊢
  exact wR_imp h i

theorem wSs_mid {Φ : Fns} {G : List D} {s : MS} {r : MSs} {ρ : Env} {S : Sto} {N : Env → Sto → Prop} {R : Rt → Sto → Prop} (M : Env → Sto → Prop) (h1 : wS Φ G s ρ S M R) (h2 : ∀ ρ1 S1, M ρ1 S1 → wSs Φ G r ρ1 S1 N R) : wSs Φ G (.cons s r) ρ S N R := by
  refine wSs_cons.mpr ?_
  unfold wS at h1 ⊢
  exact wR_imp h1 h2
theorem cut_to {xs : List D} {j : Nat} : cutD xs none (some (j : Int)) = xs.take j := by
  unfold cutD
  rw [HT.sIx_nat, HT.sIx_none, Nat.sub_zero, List.drop_zero]
  rcases Nat.le_total j xs.length with h | h
  · rw [Nat.min_eq_left h]
  · rw [Nat.min_eq_right h, List.take_length, List.take_of_length_le h]
theorem cut_from {xs : List D} {j : Nat} : cutD xs (some (j : Int)) none = xs.drop j := by
  unfold cutD
  rw [HT.sIx_nat, HT.sIx_none]
  rcases Nat.le_total j xs.length with h | h
  · rw [Nat.min_eq_left h, List.take_of_length_le (by rw [List.length_drop]; omega)]
  · rw [Nat.min_eq_right h, Nat.sub_self, List.take_zero, List.drop_of_length_le h]
theorem cut_mem {xs : List D} {lo hi : Option Int} {d : D} (h : d ∈ cutD xs lo hi) : d ∈ xs := List.mem_of_mem_drop (List.mem_of_mem_take h)
theorem cut_len {xs : List D} {lo hi : Option Int} : (cutD xs lo hi).length ≤ xs.length := by
  unfold cutD
  rw [List.length_take, List.length_drop]; omega
theorem rep_zero : ∀ n : Nat, (List.replicate n [D.int 0]).flatten = (List.replicate n (0 : Int)).map .int
  | 0 => rfl
  | n + 1 => by rw [List.replicate_succ, List.flatten_cons, rep_zero n]; rfl
end Mi
end
section
namespace Mi.Lw
open PySem L2
local macro_rules | `(tactic| walk_at "w") => `(tactic| try simp only [wSs_cons, wSs_nil, wS_asg, wS_own, wS_aug, wS_app, wS_ext, exV_o, exV_t, wS_rev, wS_sown, wS_pops, wS_ite, wS_for, wS_ret, wS_reto, wS_expr, wS_frz, wS_par, wS_par3, slOf_f, slOf_fo, slOf_t, frzN_own, frzN_val, retOk_v, retOk_o,
  wE_var, wE_bor, wE_con, wE_glb, wE_bin, wE_cmp, wE_idx, wE_neg, wE_not, wE_and, wE_or, wE_ite, wE_chn, wE_tup, wE_lst, wE_slc, wE_call, wE_callp, lends_nil, lends_v, lends_o, lends_b, wE_bi, wE_comp, wE_new, newC_own, newC_ownd, wE_o1, wE_o2, wE_o3, wE_dct, wE_dgt, wE_din, wEs_nil, wEs_cons, wRs_nil, wRs_cons, wO_no, wO_yes, wC_no, wC_yes,
  wI_rng1, wI_rng2, wI_seq, wI_enm, wI_zip2, wT_nm, wT_sub, wT_tp, wTs_nil, wTs_cons,
  List.map_cons, List.map_nil, List.cons_append, List.nil_append, List.replicate_succ, List.replicate_zero, List.getElem?_cons_zero, List.getElem?_cons_succ, List.set_cons_zero, List.set_cons_succ, List.length_cons, List.length_nil, Nat.reduceSub, Nat.reduceAdd, Nat.reduceLT, Nat.reduceLeDiff, Nat.reduceEqDiff,
  Option.some.injEq, Sl.val.injEq, Sl.own.injEq, Rt.val.injEq, Rt.own.injEq, D.int.injEq, D.bl.injEq, D.ref.injEq, D.tup.injEq, D.lst.injEq, D.str.injEq, exists_eq_left, exists_eq_left', exists_eq_right, exists_eq_right', rd_val, rd_own, rd_ownd, ne_eq, reduceCtorEq, not_false_eq_true, not_true_eq_false, implies_true, true_and, and_true, and_self, false_and, and_false, exists_false, Prod.mk.injEq,
  bin_add, bin_sub, bin_mul', bin_fdiv', bin_mod', bin_pow', bin_shl', rep_own, rep_tup, cat_lo, cat_oo, cat_ll, cat_ol, cat_tt, cat_ss, cat_bo, cat_ob, cat_bl, cat_lb, cmp_int, cmp_intn, cmp_str, cmp_strs, cmp_strsn, ofString_inj, cmp_lt, cmp_le, cmp_gt, cmp_ge, cmp_isn, cmp_isnn, cmp_isb, cmp_isnb, cmp_blne, cmp_bleq, bi_divmod', bi_abs', bi_intb, bi_min2, bi_max2, bi_lenl, bi_lens, bi_lent, bi_leno, bi_lenb, bi_listo, bi_listl, bi_listt, bi_listb, bi_tupo, bi_tupb, bi_tupt, bi_tupl, sl_scr, sl_lst, sl_tup, sl_own, sl_bor, ix_tup, ix_lst, ix_own, ix_bor, atI_0, atI_1, atI_2, String.reduceEq, decide_false, decide_true, decide_eq_true_eq, Bool.false_eq_true, if_false, if_true, reduceIte, Bool.not_false, Bool.not_true, Int.reduceLT, Int.reduceLE, Int.reduceToNat, Int.reduceNeg, Int.reduceAdd, Int.reduceSub, Int.reduceMul, Int.reduceEq, Nat.lt_irrefl, forall_const, size_ok, inRng_ok, still_l, still_t, still_o, still_b, still_sq, ix_sq, bi_lensq, bi_tupsq, bi_listsq, bi_sumo, bi_sumt, bi_sumq, bi_sumf, bi_maxt, bi_mint, bi_maxo, bi_minq, bi_allt, bi_allm, bi_anym, ix_row0, ix_row1, bi_lenrow, List.length_map, Int.cast_ofNat_Int,
  isi1_n, isi_n, isi1_b, isi_b, isi1_i, isi_i, isi1_s, isi_s, isi1_t, isi_t, isi1_l, isi_l, isi1_c, isi_c, isi1_r, isi_r, isi1_q, isi_q, isi_o, bi_isi1o, bi_isi1b, tyD_t, tyD_i, tyD_b, tyD_s, tyD_l, tyD_n, tyD_row, List.any_cons, List.any_nil, Bool.or_false, Bool.or_true, Bool.true_or, Bool.false_or, Bool.and_true, Bool.true_and, Bool.and_false, Bool.false_and, beq_self_eq_true, bne_self_eq_false, beq_true, beq_false, isN,
  p_lrng, p_revl, p_revo, p_revb, p_revt, p_sseto, p_lsetl, p_lsett, p_mxdo, p_premxd, p_predzip, p_lsetb, p_prelrng2, p_lrng2, p_gget, p_gin, p_mx3, p_get, p_presplit, p_prejoin, p_split, dct_o, dct_v, key_i, key_s, valD_cons, valD_nil, Sum.inr.injEq, Sum.inl.injEq, Option.isSome_some, Option.isSome_none, Bool.xor_false, Bool.xor_true, Bool.false_xor, Bool.true_xor, Option.getD_some, Option.getD_none, cmp_notin, in_nil, in_1, in_2, in_3, in_4, in_5, in_6, in_11, in_intsT, in_intsL, in_intsB, Option.map_some, List.all_cons, List.all_nil, flatD_s, flatD_i, divok_s, mulok_ls, mulok_rs])
def isT : D → Bool
  | .int i => decide (0 ≤ i)
  | _ => false

def askable : D → Bool
  | .ref _ => false
  | .dct _ _ => false
  | .scr _ => false
  | _ => true
def lstOf : D → Option (List D)
  | .tup xs => some xs
  | .lst xs => some xs
  | _ => none
def Asks (d : D) : Prop := askable d = true ∧ ∀ xs, lstOf d = some xs → ∀ x, x ∈ xs → askable x = true
def dInts (xs : List D) : List Int := xs.filterMap D.int?
theorem dInts_map : ∀ ts : List Int, dInts (ts.map .int) = ts
  | [] => rfl
  | t :: ts => by
    unfold dInts
    rw [List.map_cons, List.filterMap_cons]
    show t :: dInts (ts.map .int) = _
    rw [dInts_map ts]
theorem times_of : ∀ {xs : List D}, xs.all isT = true → ∃ ts : List Int, xs = ts.map .int ∧ ∀ t, t ∈ ts → 0 ≤ t
  | [], _ => ⟨[], rfl, fun _ z => nomatch z⟩
  | x :: xs, h => by
    rw [List.all_cons, Bool.and_eq_true] at h
    obtain ⟨ts, rfl, ht⟩ := times_of h.2
    cases x with
    | int i => exact ⟨i :: ts, rfl, fun t h' => by
        rcases List.mem_cons.mp h' with rfl | h'
        · exact of_decide_eq_true h.1
        · exact ht t h'⟩
    | _ => exact absurd h.1 Bool.false_ne_true
def lsum (rs : List Row) (ts : List Int) : Int := ((rs.zip ts).map fun p => p.2 * p.1.2).sum
def csum (rs : List Row) (ts : List Int) (c : Nat) : Int := ((rs.zip ts).map fun p => p.2 * p.1.1.getD c 0).sum
theorem sumRows_len {w : Nat} {rs : List Row} {ts : List Int} (hr : ∀ r, r ∈ rs → r.1.length = w) : (sumRows w (rs.zip ts)).1.length = w := foldRow_len _ _ (List.length_replicate) fun p hp => hr _ (List.of_mem_zip hp).1
theorem sumRows_snd {w : Nat} {rs : List Row} {ts : List Int} : (sumRows w (rs.zip ts)).2 = lsum rs ts := by
  have := foldRow_snd (rs.zip ts) (List.replicate w 0, 0)
  rw [Int.zero_add] at this; exact this
theorem sumRows_fst {w : Nat} {rs : List Row} {ts : List Int} (hr : ∀ r, r ∈ rs → r.1.length = w) {c : Nat} (hc : c < w) : (sumRows w (rs.zip ts)).1[c]? = some (csum rs ts c) := by
  have hf1 := sumRows_len (ts := ts) hr
  have := foldRow_fst (w := w) (rs.zip ts) (List.replicate w 0, 0) List.length_replicate (fun p hp => hr _ (List.of_mem_zip hp).1) c hc
  rw [show ((List.replicate w (0 : Int), (0 : Int)) : Row).1.getD c 0 = 0 by
    show (List.replicate w (0 : Int)).getD c 0 = 0
    rw [List.getD_eq_getElem?_getD, List.getElem?_replicate, if_pos hc]; rfl, Int.zero_add, List.getD_eq_getElem?_getD, List.getElem?_eq_getElem (by rw [show (List.foldl addRow _ _).1 = (sumRows w (rs.zip ts)).1 from rfl]; omega)] at this
  rw [show csum rs ts c = _ from this.symm, List.getElem?_eq_getElem (by omega)]; rfl

def shows (w : Nat) (rs : List Row) (ts : List Int) : Bool := decide (0 < lsum rs ts) && (List.range w).all fun c => decide (csum rs ts c ≤ 0)
def timsD (n : Nat) (d : D) : Bool := match lstOf d with
  | some xs => decide (xs.length = n) && xs.all isT
  | none => false
def showsD (w : Nat) (rs : List Row) (d : D) : Bool := timsD rs.length d && shows w rs (dInts ((lstOf d).getD []))
def mxL : List Int → Int
  | [] => 0
  | i :: is => maxI i is
theorem bi_maxL {S : Sto} : ∀ {xs : List Int}, xs ≠ [] → biop S .max [.val (.tup (xs.map .int))] = some (.val (.int (mxL xs)))
  | [], h => absurd rfl h
  | _ :: _, _ => bi_maxt
theorem maxI_le {b : Int} : ∀ (r : List Int) (m : Int), maxI m r ≤ b ↔ m ≤ b ∧ ∀ x, x ∈ r → x ≤ b
  | [], m => ⟨fun h => ⟨h, fun _ z => nomatch z⟩, fun h => h.1⟩
  | x :: r, m => by
    unfold maxI
    rw [maxI_le r]
    constructor
    · intro h
      have h1 := h.1
      refine ⟨by split at h1 <;> omega, fun y hy => ?_⟩
      rcases List.mem_cons.mp hy with rfl | hy
      · split at h1 <;> omega
      · exact h.2 y hy
    · intro h
      have := h.2 x List.mem_cons_self
      exact ⟨by split <;> omega, fun y hy => h.2 y (List.mem_cons_of_mem _ hy)⟩
theorem mxL_le {xs : List Int} {b : Int} (h : xs ≠ []) : mxL xs ≤ b ↔ ∀ x, x ∈ xs → x ≤ b := by
  cases xs with
  | nil => exact absurd rfl h
  | cons i is =>
    show maxI i is ≤ b ↔ _
    rw [maxI_le]
    exact ⟨fun h x hx => by
      rcases List.mem_cons.mp hx with rfl | hx
      · exact h.1
      · exact h.2 x hx, fun h => ⟨h i List.mem_cons_self, fun x hx => h x (List.mem_cons_of_mem _ hx)⟩⟩
theorem all_range {w : Nat} {xs : List Int} (hl : xs.length = w) (p : Int → Bool) (g : Nat → Int) (hg : ∀ c, c < w → xs[c]? = some (g c)) : xs.all p = (List.range w).all fun c => p (g c) := by
  have : xs = (List.range w).map g := by
    refine List.ext_getElem? fun c => ?_
    rw [List.getElem?_map]
    by_cases hc : c < w
    · rw [hg c hc, List.getElem?_range hc]; rfl
    · rw [List.getElem?_eq_none (by omega), List.getElem?_eq_none (by rw [List.length_range]; omega)]; rfl
  rw [this, List.all_map]; rfl
section
variable {P : Nat → Option FD} {G : List D}
theorem is_time_ok {k : Nat} {x : D} {S : Sto} {Q : Rt → Sto → Prop} (hP : P 44 = some p_is_time) (hx : askable x = true) (q : Q (.val (.bl (isT x))) S) : wF (runF P G (k + 1)) 44 [x] S Q := by
  refine wF_of hP rfl ?_
  unfold p_is_time
  cases x with
  | non => walk_at "w"; exact q
  | bl b => walk_at "w"; exact q
  | int i => walk_at "w"; exact q
  | str s => walk_at "w"; exact q
  | tup ds => walk_at "w"; exact q
  | lst ds => walk_at "w"; exact q
  | scr _ => cases hx
  | ref _ => cases hx
  | dct _ _ => cases hx
theorem all_isT {xs : List D} : (xs.filterMap fun x => some (D.bl (isT x))) = (xs.map isT).map .bl := by
  induction xs with
  | nil => rfl
  | cons x xs ih => rw [List.filterMap_cons, ih]; rfl
theorem are_times_ok {k n : Nat} {d : D} {S : Sto} {Q : Rt → Sto → Prop} (hP44 : P 44 = some p_is_time) (hP : P 45 = some p_are_times) (hd : Asks d) (hn : ∀ xs, lstOf d = some xs → xs.length ≤ 1000000) (q : Q (.val (.bl (timsD n d))) S) : wF (runF P G (k + 2)) 45 [d, .int n] S Q := by
  refine wF_of hP rfl ?_
  unfold p_are_times
  have seq : ∀ (xs : List D), lstOf d = some xs → (if ((xs.length : Nat) : Int) = ((n : Nat) : Int) then wL (runF P G (k + 1)) G (.nm 2) .no (.call 44 (.cons (.var 2) .nil)) [.val d, .val (.int n), .no] xs S fun ys S2 => ys.length ≤ sizeLine ∧ ∃ r, biop S2 .all [.own ys] = some r ∧ retOk r = true ∧ Q r S2 else Q (.val (.bl false)) S) := fun xs hx => by
    have ht : timsD n d = (decide (xs.length = n) && xs.all isT) := by unfold timsD; rw [hx]
    rw [ht] at q
    by_cases h : xs.length = n
    · rw [if_pos (by omega)]
      rw [decide_eq_true h, Bool.true_and] at q
      refine wL_pure (fun x => some (D.bl (isT x))) (fun x hxm => ?_) ?_
      · unfold wTn
        walk_at "w"
        refine is_time_ok hP44 (hd.2 xs hx x hxm) ?_
        walk_at "w"
      · rw [all_isT, bi_allm, List.all_map]
        have := hn xs hx
        exact ⟨by rw [List.length_map, List.length_map]; exact Nat.le_trans this (by decide), _, rfl, rfl, q⟩
    · rw [if_neg (by omega)]
      rw [decide_eq_false h, Bool.false_and] at q
      exact q
  cases d with
  | non => walk_at "w"; exact q
  | bl b => walk_at "w"; exact q
  | int i => walk_at "w"; exact q
  | str s => walk_at "w"; exact q
  | tup ds => walk_at "w"; unfold wipeR wipeR; walk_at "w"; exact seq ds rfl
  | lst ds => walk_at "w"; unfold wipeR wipeR; walk_at "w"; exact seq ds rfl
  | scr _ => cases hd.1
  | ref _ => cases hd.1
  | dct _ _ => cases hd.1
theorem shows_sum_ok {k w : Nat} {M : Int} {k1 : Kd} {rs : List Row} {d : D} {S : Sto} {Q : Rt → Sto → Prop} (hP25 : P 25 = some p_sum_of) (hP44 : P 44 = some p_is_time) (hP45 : P 45 = some p_are_times) (hP : P 46 = some p_shows_sum) (hd : Asks d) (hn : ∀ xs, lstOf d = some xs → xs.length ≤ 1000000)
    (hw0 : 0 < w) (hw : w ≤ 1000) (h0 : 0 < rs.length) (hM : M < 18446744073709551616) (hr : ∀ r, r ∈ rs → RowOk w M r) (q : Q (.val (.bl (showsD w rs d))) S) : wF (runF P G (k + 3)) 46 [sqD k1 (rs.map dRow), d] S Q := by
  refine wF_of hP rfl ?_
  unfold p_shows_sum
  walk_at "w"
  refine are_times_ok hP44 hP45 hd hn ?_
  walk_at "w"
  unfold showsD at q
  cases ht : timsD rs.length d with
  | false =>
    rw [ht] at q
    walk_at "w"
    exact q
  | true =>
    rw [ht, Bool.true_and] at q
    walk_at "w"
    have hl : ∃ xs, lstOf d = some xs ∧ xs.all isT = true := by
      unfold timsD at ht
      cases e : lstOf d with
      | none => rw [e] at ht; cases ht
      | some xs => rw [e] at ht; rw [Bool.and_eq_true] at ht; exact ⟨xs, rfl, ht.2⟩
    obtain ⟨xs, hx, ha⟩ := hl
    obtain ⟨ts, rfl, h0t⟩ := times_of ha
    rw [hx, Option.getD_some, dInts_map] at q
    have hrl : ∀ r, r ∈ rs → r.1.length = w := fun r h => (hr r h).1
    obtain ⟨k2, rfl⟩ : ∃ k2, d = sqD k2 (ts.map .int) := by
      cases d with
      | tup ys => exact ⟨.t, by cases hx; rfl⟩
      | lst ys => exact ⟨.l, by cases hx; rfl⟩
      | _ => cases hx
    refine sum_of_ok hP25 hw h0 hrl (fun p hp => ?_) ?_
    · have := hr p.1 (List.of_mem_zip hp).1
      exact ⟨mulok_r (by have := this.2.2; omega) (by have := this.2.2; omega), fun x hx => by
        have := this.2.1 x hx
        exact mulok_r (by omega) (by omega)⟩
    · have f1 := sumRows_len (ts := ts) hrl
      have f2 := sumRows_snd (w := w) (rs := rs) (ts := ts)
      have f3 : ∀ c, c < w → (sumRows w (rs.zip ts)).1[c]? = some (csum rs ts c) := fun c hc => sumRows_fst hrl hc
      generalize sumRows w (rs.zip ts) = f at f1 f2 f3
      have hne : f.1 ≠ [] := fun z => by rw [z] at f1; simp at f1; omega
      unfold shows at q
      rw [← f2, ← all_range (p := fun x => decide (x ≤ 0)) f1 _ f3] at q
      unfold dRow
      walk_at "w"
      by_cases hp : 0 < f.2
      · rw [if_pos hp]
        rw [decide_eq_true hp, Bool.true_and] at q
        rw [bi_maxL hne]
        walk_at "w"
        have : f.1.all (fun x => decide (x ≤ 0)) = decide (mxL f.1 ≤ 0) := by
          rw [Bool.eq_iff_iff, List.all_eq_true, decide_eq_true_eq, mxL_le hne]
          exact ⟨fun h x hx => of_decide_eq_true (h x hx), fun h x hx => decide_eq_true (h x hx)⟩
        rw [this] at q
        exact q
      · rw [if_neg hp]
        rw [decide_eq_false hp, Bool.false_and] at q
        exact q
end
end Mi.Lw
end
section
namespace Mi.Lw
open PySem L2
local macro_rules | `(tactic| walk_at "w") => `(tactic| try simp only [wSs_cons, wSs_nil, wS_asg, wS_own, wS_aug, wS_app, wS_ext, exV_o, exV_t, wS_rev, wS_sown, wS_pops, wS_ite, wS_for, wS_ret, wS_reto, wS_expr, wS_frz, wS_par, wS_par3, slOf_f, slOf_fo, slOf_t, frzN_own, frzN_val, retOk_v, retOk_o,
  wE_var, wE_bor, wE_con, wE_glb, wE_bin, wE_cmp, wE_idx, wE_neg, wE_not, wE_and, wE_or, wE_ite, wE_chn, wE_tup, wE_lst, wE_slc, wE_call, wE_callp, lends_nil, lends_v, lends_o, lends_b, wE_bi, wE_comp, wE_new, newC_own, newC_ownd, wE_o1, wE_o2, wE_o3, wE_dct, wE_dgt, wE_din, wEs_nil, wEs_cons, wRs_nil, wRs_cons, wO_no, wO_yes, wC_no, wC_yes,
  wI_rng1, wI_rng2, wI_seq, wI_enm, wI_zip2, wT_nm, wT_sub, wT_tp, wTs_nil, wTs_cons,
  List.map_cons, List.map_nil, List.cons_append, List.nil_append, List.replicate_succ, List.replicate_zero, List.getElem?_cons_zero, List.getElem?_cons_succ, List.set_cons_zero, List.set_cons_succ, List.length_cons, List.length_nil, Nat.reduceSub, Nat.reduceAdd, Nat.reduceLT, Nat.reduceLeDiff, Nat.reduceEqDiff,
  Option.some.injEq, Sl.val.injEq, Sl.own.injEq, Rt.val.injEq, Rt.own.injEq, D.int.injEq, D.bl.injEq, D.ref.injEq, D.tup.injEq, D.lst.injEq, D.str.injEq, exists_eq_left, exists_eq_left', exists_eq_right, exists_eq_right', rd_val, rd_own, rd_ownd, ne_eq, reduceCtorEq, not_false_eq_true, not_true_eq_false, implies_true, true_and, and_true, and_self, false_and, and_false, exists_false, Prod.mk.injEq,
  bin_add, bin_sub, bin_mul', bin_fdiv', bin_mod', bin_pow', bin_shl', rep_own, rep_tup, cat_lo, cat_oo, cat_ll, cat_ol, cat_tt, cat_ss, cat_bo, cat_ob, cat_bl, cat_lb, cmp_int, cmp_intn, cmp_str, cmp_strs, cmp_strsn, ofString_inj, cmp_lt, cmp_le, cmp_gt, cmp_ge, cmp_isn, cmp_isnn, cmp_isb, cmp_isnb, cmp_blne, cmp_bleq, bi_divmod', bi_abs', bi_intb, bi_min2, bi_max2, bi_lenl, bi_lens, bi_lent, bi_leno, bi_lenb, bi_listo, bi_listl, bi_listt, bi_listb, bi_tupo, bi_tupb, bi_tupt, bi_tupl, sl_scr, sl_lst, sl_tup, sl_own, sl_bor, ix_tup, ix_lst, ix_own, ix_bor, atI_0, atI_1, atI_2, String.reduceEq, decide_false, decide_true, decide_eq_true_eq, Bool.false_eq_true, if_false, if_true, reduceIte, Bool.not_false, Bool.not_true, Int.reduceLT, Int.reduceLE, Int.reduceToNat, Int.reduceNeg, Int.reduceAdd, Int.reduceSub, Int.reduceMul, Int.reduceEq, Nat.lt_irrefl, forall_const, size_ok, inRng_ok, still_l, still_t, still_o, still_b, still_sq, ix_sq, bi_lensq, bi_tupsq, bi_listsq, bi_sumo, bi_sumt, bi_sumq, bi_sumf, bi_maxt, bi_mint, bi_maxo, bi_minq, bi_allt, bi_allm, bi_anym, ix_row0, ix_row1, bi_lenrow, List.length_map, Int.cast_ofNat_Int,
  isi1_n, isi_n, isi1_b, isi_b, isi1_i, isi_i, isi1_s, isi_s, isi1_t, isi_t, isi1_l, isi_l, isi1_c, isi_c, isi1_r, isi_r, isi1_q, isi_q, isi_o, bi_isi1o, bi_isi1b, tyD_t, tyD_i, tyD_b, tyD_s, tyD_l, tyD_n, tyD_row, List.any_cons, List.any_nil, Bool.or_false, Bool.or_true, Bool.true_or, Bool.false_or, Bool.and_true, Bool.true_and, Bool.and_false, Bool.false_and, beq_self_eq_true, bne_self_eq_false, beq_true, beq_false, isN,
  p_lrng, p_revl, p_revo, p_revb, p_revt, p_sseto, p_lsetl, p_lsett, p_mxdo, p_premxd, p_predzip, p_lsetb, p_prelrng2, p_lrng2, p_gget, p_gin, p_mx3, p_get, p_presplit, p_prejoin, p_split, dct_o, dct_v, key_i, key_s, valD_cons, valD_nil, Sum.inr.injEq, Sum.inl.injEq, Option.isSome_some, Option.isSome_none, Bool.xor_false, Bool.xor_true, Bool.false_xor, Bool.true_xor, Option.getD_some, Option.getD_none, cmp_notin, in_nil, in_1, in_2, in_3, in_4, in_5, in_6, in_11, in_intsT, in_intsL, in_intsB, Option.map_some, List.all_cons, List.all_nil, flatD_s, flatD_i, divok_s, mulok_ls, mulok_rs])
local macro_rules | `(tactic| walk_at "sz") => `(tactic| (refine Nat.le_trans (m := 10000000) ?_ (show 10000000 ≤ 16777216 by decide); (try simp only [List.length_append, List.length_map, List.length_take, List.length_drop, List.length_cons, List.length_nil, List.length_zip, List.length_reverse, List.length_replicate, List.length_range, rngL_len]); omega))

abbrev KRow := Row × Kd × Kd
def kD (k : KRow) : D := sqD k.2.1 [sqD k.2.2 (k.1.1.map .int), .int k.1.2]
def ofR (r : Row) : KRow := (r, .t, .t)
theorem kD_ofR (r : Row) : kD (ofR r) = dRow r := rfl
def rsK (ks : List KRow) : List Row := ks.map fun k => k.1

def Bd (b : Nat) (x : Int) : Prop := x.natAbs < 2 ^ b
theorem Bd.mono {b c : Nat} {x : Int} (h : Bd b x) (hc : b ≤ c) : Bd c x := Nat.lt_of_lt_of_le h (Nat.pow_le_pow_right (by decide) hc)
theorem Bd.log {b : Nat} {x : Int} (h : Bd b x) : x.natAbs.log2 ≤ b := by
  by_cases h0 : x.natAbs = 0
  · rw [h0]; exact Nat.zero_le _
  · exact Nat.le_of_lt ((Nat.log2_lt h0).mpr h)
theorem Bd.mulok {b c : Nat} {x y : Int} (hx : Bd b x) (hy : Bd c y) (h : b + c < 1000000) : MulOk x y := .inr (by
  have h1 := hx.log
  have h2 := hy.log
  show x.natAbs.log2 + y.natAbs.log2 < 1000000
  omega)
theorem Bd.mul {b c : Nat} {x y : Int} (hx : Bd b x) (hy : Bd c y) : Bd (b + c) (x * y) := by
  unfold Bd at *
  rw [Int.natAbs_mul, Nat.pow_add]
  exact Nat.mul_lt_mul'' hx hy
theorem Bd.neg {b : Nat} {x : Int} (hx : Bd b x) : Bd b (-x) := by unfold Bd at *; rw [Int.natAbs_neg]; exact hx
theorem Bd.of {b : Nat} {x : Int} (h1 : -(2 ^ b) < x) (h2 : x < 2 ^ b) : Bd b x := by
  unfold Bd
  have : ((2 ^ b : Nat) : Int) = 2 ^ b := by simp
  omega
theorem Bd.sum {b : Nat} : ∀ {xs : List Int}, (∀ x, x ∈ xs → Bd b x) → xs.sum.natAbs ≤ xs.length * 2 ^ b
  | [], _ => by simp
  | x :: xs, h => by
    have h1 : x.natAbs < 2 ^ b := h x List.mem_cons_self
    have h2 := Bd.sum fun y hy => h y (List.mem_cons_of_mem _ hy)
    rw [List.sum_cons, List.length_cons, Nat.add_mul, Nat.one_mul]
    have := Int.natAbs_add_le x xs.sum
    omega
theorem Bd.sum' {b c : Nat} {xs : List Int} (h : ∀ x, x ∈ xs → Bd b x) (hl : xs.length < 2 ^ c) : Bd (b + c) xs.sum := by
  refine Nat.lt_of_le_of_lt (Bd.sum h) ?_
  rw [Nat.pow_add, Nat.mul_comm]
  exact Nat.mul_lt_mul_of_pos_left hl (Nat.pow_pos (by decide))
def RowB (w b : Nat) (r : Row) : Prop := r.1.length = w ∧ (∀ x, x ∈ r.1 → Bd b x) ∧ Bd b r.2
theorem RowB.mono {w b c : Nat} {r : Row} (h : RowB w b r) (hc : b ≤ c) : RowB w c r := ⟨h.1, fun x hx => (h.2.1 x hx).mono hc, h.2.2.mono hc⟩
theorem rngL_range0 (n : Nat) : rngL 0 n = (List.range n).map fun i : Nat => D.int i := by
  refine List.ext_getElem? fun i => ?_
  rw [rngL_get, List.getElem?_map]
  by_cases h : i < n
  · rw [if_pos h, List.getElem?_range h, Int.zero_add]; rfl
  · rw [if_neg h, List.getElem?_eq_none (by rw [List.length_range]; omega)]; rfl

theorem zip_k : ∀ (ks : List KRow) (ts : List Int), (rsK ks).zip ts = (ks.zip ts).map fun p => (p.1.1, p.2)
  | [], ts => by simp [rsK]
  | _ :: _, [] => rfl
  | k :: ks, t :: ts => by
    show (k.1, t) :: (rsK ks).zip ts = _
    rw [zip_k ks ts]; rfl
section
variable {P : Nat → Option FD} {G : List D}
theorem sum_of_k {k w : Nat} {k1 k2 : Kd} {rs : List KRow} {ts : List Int} {S : Sto} {Q : Rt → Sto → Prop} (hP : P 25 = some p_sum_of) (hw : w ≤ 1000) (h0 : 0 < rs.length) (hr : ∀ r, r ∈ rs → r.1.1.length = w)
    (hm : ∀ p, p ∈ rs.zip ts → MulOk p.2 p.1.1.2 ∧ ∀ x, x ∈ p.1.1.1 → MulOk p.2 x) (q : Q (.val (dRow (sumRows w ((rsK rs).zip ts)))) S) : wF (runF P G (k + 1)) 25 [sqD k1 (rs.map kD), sqD k2 (ts.map .int)] S Q := by
  refine wF_of hP rfl ?_
  unfold p_sum_of
  obtain ⟨r0, hr0⟩ : ∃ r0, rs[0]? = some r0 := ⟨rs[0], List.getElem?_eq_getElem h0⟩
  have eix : atI (rs.map kD) 0 = some (kD r0) := atI_map (i := 0) hr0
  rw [zip_k] at q
  walk_at "w"
  simp only [eix]
  unfold kD
  walk_at "w"
  rw [hr r0 (List.mem_of_getElem? hr0), zipL_map, Int.toNat_natCast, rep_flat]
  refine ⟨⟨by omega, by omega, lt_size (by omega)⟩, ?_⟩
  refine wFor_inv (fun i ρ S' => ∃ a b x y, ρ = [a, b, .val (.lst ((sumRows w (((rs.zip ts).map fun p => (p.1.1, p.2)).take i)).1.map .int)), .val (.int (sumRows w (((rs.zip ts).map fun p => (p.1.1, p.2)).take i)).2), x, y, .no, .no] ∧ S' = S) ⟨_, _, _, _, rfl, rfl⟩ (fun i d ρ S' hd h => ?_) fun ρ S' h => ?_
  · obtain ⟨a, b, x, y, rfl, rfl⟩ := h
    rw [List.getElem?_map] at hd
    obtain ⟨p, hp, rfl⟩ := map_some hd
    have hpm := List.mem_of_getElem? hp
    have hpr : p.1 ∈ rs := (List.of_mem_zip hpm).1
    walk_at "w"
    rw [zipL_map]
    have eS : sumRows w (((rs.zip ts).map fun p => (p.1.1, p.2)).take (i + 1)) = addRow (sumRows w (((rs.zip ts).map fun p => (p.1.1, p.2)).take i)) (p.1.1, p.2) := by
      unfold sumRows
      rw [List.take_add_one, List.getElem?_map, hp, List.foldl_append]; rfl
    have hlen : (sumRows w (((rs.zip ts).map fun p => (p.1.1, p.2)).take i)).1.length = w := by
      refine foldRow_len _ _ (List.length_replicate) fun q hq => ?_
      obtain ⟨z, hz, rfl⟩ := List.mem_map.mp (List.mem_of_mem_take hq)
      exact hr _ (List.of_mem_zip hz).1
    refine wL_map (fun z : Int × Int => .int (z.1 + p.2 * z.2)) (fun z hz => ?_) ?_
    · unfold wTn wipeR wipeR wipeR
      walk_at "w"
      exact (hm p hpm).2 _ (List.of_mem_zip hz).2
    · walk_at "w"
      refine ⟨?_, (hm p hpm).1, ?_⟩
      · rw [List.length_zip]
        exact lt_size (by omega)
      · rw [eS]
        have ez : ((sumRows w (((rs.zip ts).map fun p => (p.1.1, p.2)).take i)).1.zip p.1.1.1).map (fun z : Int × Int => D.int (z.1 + p.2 * z.2)) = (addRow (sumRows w (((rs.zip ts).map fun p => (p.1.1, p.2)).take i)) (p.1.1, p.2)).1.map .int := by
          show _ = (List.zipWith _ _ _).map _
          rw [List.zip, List.map_zipWith, List.map_zipWith]
        rw [ez]
        exact ⟨_, _, _, _, rfl⟩
  · obtain ⟨a, b, x, y, rfl, rfl⟩ := h
    rw [List.length_map, List.take_of_length_le (by rw [List.length_map]; exact Nat.le_refl _)]
    walk_at "w"
    exact q
theorem shows_sum_k {k w b t : Nat} {k1 : Kd} {rs : List KRow} {d : D} {S : Sto} {Q : Rt → Sto → Prop} (hP25 : P 25 = some p_sum_of) (hP44 : P 44 = some p_is_time) (hP45 : P 45 = some p_are_times) (hP : P 46 = some p_shows_sum) (hd : Asks d) (hn : ∀ xs, lstOf d = some xs → xs.length ≤ 1000000) (hT : ∀ xs, lstOf d = some xs → ∀ i, D.int i ∈ xs → Bd t i)
    (hw0 : 0 < w) (hw : w ≤ 1000) (h0 : 0 < rs.length) (hbt : t + b < 1000000) (hr : ∀ r, r ∈ rs → RowB w b r.1) (q : Q (.val (.bl (showsD w (rsK rs) d))) S) : wF (runF P G (k + 3)) 46 [sqD k1 (rs.map kD), d] S Q := by
  refine wF_of hP rfl ?_
  unfold p_shows_sum
  walk_at "w"
  refine are_times_ok hP44 hP45 hd hn ?_
  walk_at "w"
  unfold showsD at q
  rw [show (rsK rs).length = rs.length from List.length_map _] at q
  cases ht : timsD rs.length d with
  | false =>
    rw [ht] at q
    walk_at "w"
    exact q
  | true =>
    rw [ht, Bool.true_and] at q
    walk_at "w"
    have hl : ∃ xs, lstOf d = some xs ∧ xs.all isT = true := by
      unfold timsD at ht
      cases e : lstOf d with
      | none => rw [e] at ht; cases ht
      | some xs => rw [e] at ht; rw [Bool.and_eq_true] at ht; exact ⟨xs, rfl, ht.2⟩
    obtain ⟨xs, hx, ha⟩ := hl
    obtain ⟨ts, rfl, h0t⟩ := times_of ha
    have htb : ∀ i, i ∈ ts → Bd t i := fun i hi => hT _ hx i (List.mem_map_of_mem hi)
    rw [hx, Option.getD_some, dInts_map] at q
    have hrl : ∀ r, r ∈ rs → r.1.1.length = w := fun r h => (hr r h).1
    have hrl' : ∀ r, r ∈ rsK rs → r.1.length = w := fun r h => by
      obtain ⟨k, hk, rfl⟩ := List.mem_map.mp h
      exact hrl k hk
    obtain ⟨k2, rfl⟩ : ∃ k2, d = sqD k2 (ts.map .int) := by
      cases d with
      | tup ys => exact ⟨.t, by cases hx; rfl⟩
      | lst ys => exact ⟨.l, by cases hx; rfl⟩
      | _ => cases hx
    refine sum_of_k hP25 hw h0 hrl (fun p hp => ?_) ?_
    · have h1 := hr p.1 (List.of_mem_zip hp).1
      have h2 := htb p.2 (List.of_mem_zip hp).2
      exact ⟨h2.mulok h1.2.2 hbt, fun x hx => h2.mulok (h1.2.1 x hx) hbt⟩
    · have f1 := sumRows_len (ts := ts) hrl'
      have f2 := sumRows_snd (w := w) (rs := rsK rs) (ts := ts)
      have f3 : ∀ c, c < w → (sumRows w ((rsK rs).zip ts)).1[c]? = some (csum (rsK rs) ts c) := fun c hc => sumRows_fst hrl' hc
      generalize sumRows w ((rsK rs).zip ts) = f at f1 f2 f3
      have hne : f.1 ≠ [] := fun z => by rw [z] at f1; simp at f1; omega
      unfold shows at q
      rw [← f2, ← all_range (p := fun x => decide (x ≤ 0)) f1 _ f3] at q
      unfold dRow
      walk_at "w"
      by_cases hp : 0 < f.2
      · rw [if_pos hp]
        rw [decide_eq_true hp, Bool.true_and] at q
        rw [bi_maxL hne]
        walk_at "w"
        have : f.1.all (fun x => decide (x ≤ 0)) = decide (mxL f.1 ≤ 0) := by
          rw [Bool.eq_iff_iff, List.all_eq_true, decide_eq_true_eq, mxL_le hne]
          exact ⟨fun h x hx => of_decide_eq_true (h x hx), fun h x hx => decide_eq_true (h x hx)⟩
        rw [this] at q
        exact q
      · rw [if_neg hp]
        rw [decide_eq_false hp, Bool.false_and] at q
        exact q

theorem l_sum_ok {k w : Nat} {k1 k2 : Kd} {rs : List KRow} {ts : List Int} {S : Sto} {Q : Rt → Sto → Prop} (hP : P 162 = some l_sum) (hw : w ≤ 1000) (h0 : 0 < rs.length) (hlr : rs.length ≤ 1000) (hr : ∀ r, r ∈ rs → r.1.1.length = w)
    (hm : ∀ p, p ∈ rs.zip ts → MulOk p.2 p.1.1.2 ∧ ∀ x, x ∈ p.1.1.1 → MulOk p.2 x) (q : Q (.val (dRow (sumRows w ((rsK rs).zip ts)))) S) : wF (runF P G (k + 1)) 162 [sqD k1 (rs.map kD), sqD k2 (ts.map .int)] S Q := by
  refine wF_of hP rfl ?_
  unfold l_sum
  obtain ⟨r0, hr0⟩ : ∃ r0, rs[0]? = some r0 := ⟨rs[0], List.getElem?_eq_getElem h0⟩
  have eix : atI (rs.map kD) 0 = some (kD r0) := atI_map (i := 0) hr0
  have hrl' : ∀ r, r ∈ rsK rs → r.1.length = w := fun r h => by
    obtain ⟨k, hk, rfl⟩ := List.mem_map.mp h
    exact hr k hk
  have zl : ∀ {α : Type} (g : Int × KRow → α), ((ts.zip rs).map g).length ≤ sizeLine := fun g => by rw [List.length_map, List.length_zip]; exact lt_size (by omega)
  have ezip : ∀ (g : Int → Row → Int), ((ts.zip rs).map fun p => D.int (g p.1 p.2.1)) = (((rsK rs).zip ts).map fun p => g p.2 p.1).map .int := fun g => by
    rw [zip_k, List.map_map, List.map_map]
    clear hm h0 hlr q eix hr0 zl hr hrl'
    induction ts generalizing rs with
    | nil => simp
    | cons t ts ih =>
      cases rs with
      | nil => rfl
      | cons r rs => rw [List.zip_cons_cons, List.zip_cons_cons, List.map_cons, List.map_cons, ih]; rfl
  have hmz : ∀ p, p ∈ ts.zip rs → (p.2, p.1) ∈ rs.zip ts := fun p hp => by
    obtain ⟨i, hi⟩ := List.mem_iff_getElem?.mp hp
    rw [List.getElem?_zip_eq_some] at hi
    exact List.mem_iff_getElem?.mpr ⟨i, List.getElem?_zip_eq_some.mpr ⟨hi.2, hi.1⟩⟩
  walk_at "w"
  simp only [eix]
  unfold kD
  walk_at "w"
  rw [hr r0 (List.mem_of_getElem? hr0), Int.toNat_natCast]
  refine ⟨⟨by omega, by omega⟩, ?_⟩
  rw [rngL_range0 w]
  refine wL_map (fun c : Nat => .int (csum (rsK rs) ts c)) (fun c hc => ?_) ?_
  · unfold wTn
    try simp only [wipeR]
    walk_at "w"
    rw [zipL_map]
    refine wL_map (fun p : Int × KRow => .int (p.1 * p.2.1.1.getD c 0)) (fun z hz => ?_) ?_
    · unfold wTn
      try simp only [wipeR]
      walk_at "w"
      have h2 := hr z.2 (List.of_mem_zip hz).2
      have e : z.2.1.1[c]? = some (z.2.1.1.getD c 0) := by rw [List.getD_eq_getElem?_getD, List.getElem?_eq_getElem (by have := List.mem_range.mp hc; omega)]; rfl
      have e2 : atI (z.2.1.1.map D.int) (c : Int) = some (.int (z.2.1.1.getD c 0)) := atI_map e
      simp only [e2]
      walk_at "w"
      exact (hm _ (hmz z hz)).2 _ (List.mem_of_getElem? e)
    · refine ⟨zl _, ?_⟩
      rw [ezip fun a b => a * b.1.getD c 0]
      walk_at "w"
      rfl
  · walk_at "w"
    refine ⟨by walk_at "sz", ?_⟩
    rw [zipL_map]
    refine wL_map (fun p : Int × KRow => .int (p.1 * p.2.1.2)) (fun z hz => ?_) ?_
    · unfold wTn
      try simp only [wipeR]
      walk_at "w"
      exact (hm _ (hmz z hz)).1
    · refine ⟨zl _, ?_⟩
      rw [ezip fun a b => a * b.2]
      walk_at "w"
      have f1 := sumRows_len (ts := ts) hrl'
      have f2 := sumRows_snd (w := w) (rs := rsK rs) (ts := ts)
      have f3 : (sumRows w ((rsK rs).zip ts)).1 = (List.range w).map fun c => csum (rsK rs) ts c := by
        refine List.ext_getElem? fun c => ?_
        rw [List.getElem?_map]
        by_cases hc : c < w
        · rw [sumRows_fst hrl' hc, List.getElem?_range hc]; rfl
        · rw [List.getElem?_eq_none (by omega), List.getElem?_eq_none (by rw [List.length_range]; omega)]; rfl
      unfold dRow at q
      rw [f2, f3, List.map_map] at q
      exact q
end
end Mi.Lw
end
section
namespace Mi.Lw
open PySem L2
local macro_rules | `(tactic| walk_at "w") => `(tactic| try simp only [wSs_cons, wSs_nil, wS_asg, wS_own, wS_aug, wS_app, wS_ext, exV_o, exV_t, wS_rev, wS_sown, wS_pops, wS_ite, wS_for, wS_ret, wS_reto, wS_expr, wS_frz, wS_par, wS_par3, slOf_f, slOf_fo, slOf_t, frzN_own, frzN_val, retOk_v, retOk_o,
  wE_var, wE_bor, wE_con, wE_glb, wE_bin, wE_cmp, wE_idx, wE_neg, wE_not, wE_and, wE_or, wE_ite, wE_chn, wE_tup, wE_lst, wE_slc, wE_call, wE_callp, lends_nil, lends_v, lends_o, lends_b, wE_bi, wE_comp, wE_new, newC_own, newC_ownd, wE_o1, wE_o2, wE_o3, wE_dct, wE_dgt, wE_din, wEs_nil, wEs_cons, wRs_nil, wRs_cons, wO_no, wO_yes, wC_no, wC_yes,
  wI_rng1, wI_rng2, wI_seq, wI_enm, wI_zip2, wT_nm, wT_sub, wT_tp, wTs_nil, wTs_cons,
  List.map_cons, List.map_nil, List.cons_append, List.nil_append, List.replicate_succ, List.replicate_zero, List.getElem?_cons_zero, List.getElem?_cons_succ, List.set_cons_zero, List.set_cons_succ, List.length_cons, List.length_nil, Nat.reduceSub, Nat.reduceAdd, Nat.reduceLT, Nat.reduceLeDiff, Nat.reduceEqDiff,
  Option.some.injEq, Sl.val.injEq, Sl.own.injEq, Rt.val.injEq, Rt.own.injEq, D.int.injEq, D.bl.injEq, D.ref.injEq, D.tup.injEq, D.lst.injEq, D.str.injEq, exists_eq_left, exists_eq_left', exists_eq_right, exists_eq_right', rd_val, rd_own, rd_ownd, ne_eq, reduceCtorEq, not_false_eq_true, not_true_eq_false, implies_true, true_and, and_true, and_self, false_and, and_false, exists_false, Prod.mk.injEq,
  bin_add, bin_sub, bin_mul', bin_fdiv', bin_mod', bin_pow', bin_shl', rep_own, rep_tup, cat_lo, cat_oo, cat_ll, cat_ol, cat_tt, cat_ss, cat_bo, cat_ob, cat_bl, cat_lb, cmp_int, cmp_intn, cmp_str, cmp_strs, cmp_strsn, ofString_inj, cmp_lt, cmp_le, cmp_gt, cmp_ge, cmp_isn, cmp_isnn, cmp_isb, cmp_isnb, cmp_blne, cmp_bleq, bi_divmod', bi_abs', bi_intb, bi_min2, bi_max2, bi_lenl, bi_lens, bi_lent, bi_leno, bi_lenb, bi_listo, bi_listl, bi_listt, bi_listb, bi_tupo, bi_tupb, bi_tupt, bi_tupl, sl_scr, sl_lst, sl_tup, sl_own, sl_bor, ix_tup, ix_lst, ix_own, ix_bor, atI_0, atI_1, atI_2, String.reduceEq, decide_false, decide_true, decide_eq_true_eq, Bool.false_eq_true, if_false, if_true, reduceIte, Bool.not_false, Bool.not_true, Int.reduceLT, Int.reduceLE, Int.reduceToNat, Int.reduceNeg, Int.reduceAdd, Int.reduceSub, Int.reduceMul, Int.reduceEq, Nat.lt_irrefl, forall_const, size_ok, inRng_ok, still_l, still_t, still_o, still_b, still_sq, ix_sq, bi_lensq, bi_tupsq, bi_listsq, bi_sumo, bi_sumt, bi_sumq, bi_sumf, bi_maxt, bi_mint, bi_maxo, bi_minq, bi_allt, bi_allm, bi_anym, ix_row0, ix_row1, bi_lenrow, List.length_map, Int.cast_ofNat_Int,
  isi1_n, isi_n, isi1_b, isi_b, isi1_i, isi_i, isi1_s, isi_s, isi1_t, isi_t, isi1_l, isi_l, isi1_c, isi_c, isi1_r, isi_r, isi1_q, isi_q, isi_o, bi_isi1o, bi_isi1b, tyD_t, tyD_i, tyD_b, tyD_s, tyD_l, tyD_n, tyD_row, List.any_cons, List.any_nil, Bool.or_false, Bool.or_true, Bool.true_or, Bool.false_or, Bool.and_true, Bool.true_and, Bool.and_false, Bool.false_and, beq_self_eq_true, bne_self_eq_false, beq_true, beq_false, isN,
  p_lrng, p_revl, p_revo, p_revb, p_revt, p_sseto, p_lsetl, p_lsett, p_mxdo, p_premxd, p_predzip, p_lsetb, p_prelrng2, p_lrng2, p_gget, p_gin, p_mx3, p_get, p_presplit, p_prejoin, p_split, dct_o, dct_v, key_i, key_s, valD_cons, valD_nil, Sum.inr.injEq, Sum.inl.injEq, Option.isSome_some, Option.isSome_none, Bool.xor_false, Bool.xor_true, Bool.false_xor, Bool.true_xor, Option.getD_some, Option.getD_none, cmp_notin, in_nil, in_1, in_2, in_3, in_4, in_5, in_6, in_11, in_intsT, in_intsL, in_intsB, Option.map_some, List.all_cons, List.all_nil, flatD_s, flatD_i, divok_s, mulok_ls, mulok_rs])
local macro_rules | `(tactic| walk_at "sz") => `(tactic| (refine Nat.le_trans (m := 10000000) ?_ (show 10000000 ≤ 16777216 by decide); (try simp only [List.length_append, List.length_map, List.length_take, List.length_drop, List.length_cons, List.length_nil, List.length_zip, List.length_reverse, List.length_replicate, List.length_range, rngL_len]); omega))

def up (x d : Int) : Int := -((-x) / d)
theorem up_law {x d : Int} (hd : 0 < d) : x / d + (if x / d * d < x then 1 else 0) = up x d := by
  unfold up
  have h1 := Int.emod_nonneg x (show d ≠ 0 by omega)
  have h2 := Int.emod_lt_of_pos x hd
  have h3 := Int.mul_ediv_add_emod x d
  have h4 : x / d * d = d * (x / d) := Int.mul_comm _ _
  have h5 := Int.emod_nonneg (-x) (show d ≠ 0 by omega)
  have h6 := Int.emod_lt_of_pos (-x) hd
  have h7 := Int.mul_ediv_add_emod (-x) d
  have key : ∀ a b : Int, -d < d * (a + b) → d * (a + b) < d → a + b = 0 := fun a b g1 g2 => by
    have e1 : ¬ (1 ≤ a + b) := fun z => by
      have := Int.mul_le_mul_of_nonneg_left z (Int.le_of_lt hd)
      omega
    have e2 : ¬ (a + b ≤ -1) := fun z => by
      have := Int.mul_le_mul_of_nonneg_left z (Int.le_of_lt hd)
      omega
    omega
  split
  · rename_i hlt
    have := key (x / d + 1) ((-x) / d) (by rw [Int.mul_add, Int.mul_add]; omega) (by rw [Int.mul_add, Int.mul_add]; omega)
    omega
  · rename_i hlt
    have := key (x / d) ((-x) / d) (by rw [Int.mul_add]; omega) (by rw [Int.mul_add]; omega)
    omega
theorem Bd.up {b : Nat} {x d : Int} (h : Bd b x) (hd : 0 < d) : Bd b (up x d) := by
  unfold Lw.up
  refine Bd.neg ?_
  have h := h.neg
  generalize -x = y at h
  unfold Bd at *
  refine Nat.lt_of_le_of_lt ?_ h
  have h1 := Int.emod_nonneg y (show d ≠ 0 by omega)
  have h2 := Int.emod_lt_of_pos y hd
  have h3 := Int.mul_ediv_add_emod y d
  by_cases hy : 0 ≤ y
  · have a := Int.ediv_nonneg hy (Int.le_of_lt hd)
    have : 1 * (y / d) ≤ d * (y / d) := Int.mul_le_mul_of_nonneg_right (by omega) a
    omega
  · have a : y / d ≤ 0 := by
      have : ¬ (1 ≤ y / d) := fun z => by
        have := Int.mul_le_mul_of_nonneg_left z (Int.le_of_lt hd)
        omega
      omega
    have b : ¬ (y / d < y) := fun z => by
      have z' : y / d + 1 ≤ y := z
      have := Int.mul_le_mul_of_nonneg_left z' (Int.le_of_lt hd)
      rw [Int.mul_add] at this
      have : d * y ≤ 1 * y := by
        have := Int.mul_le_mul_of_nonpos_right (show 1 ≤ d by omega) (show y ≤ 0 by omega)
        omega
      omega
    omega
def wholeR (r : Row) (d : Int) : Row := (r.1.map fun x => up x d, up r.2 d)
theorem RowB.whole {w b : Nat} {r : Row} {d : Int} (h : RowB w b r) (hd : 0 < d) : RowB w b (wholeR r d) := ⟨by rw [wholeR, List.length_map]; exact h.1, fun x hx => by
  obtain ⟨y, hy, rfl⟩ := List.mem_map.mp hx
  exact (h.2.1 y hy).up hd, h.2.2.up hd⟩
section
variable {P : Nat → Option FD} {G : List D}
theorem part_up_ok {k : Nat} {x d : Int} {S : Sto} {Q : Rt → Sto → Prop} (hP : P 36 = some p_part_up) (hd : DivOk d) (q : Q (.val (.int (up x d))) S) : wF (runF P G (k + 1)) 36 [.int x, .int d] S Q := by
  refine wF_of hP rfl ?_
  unfold p_part_up
  walk_at "w"
  exact ⟨hd, q⟩
theorem up_ok {k b t : Nat} {x d : Int} {S : Sto} {Q : Rt → Sto → Prop} (hP : P 40 = some l_up) (hd : DivOk d) (hx : Bd b x) (hdb : Bd t d) (hbt : b + t < 1000000) (q : Q (.val (.int (up x d))) S) : wF (runF P G (k + 1)) 40 [.int x, .int d] S Q := by
  refine wF_of hP rfl ?_
  unfold l_up
  walk_at "w"
  have hp := hd.pos
  have hb : Bd b (x / d) := by
    have := (hx.neg.up hp).neg
    unfold up at this
    rwa [Int.neg_neg, Int.neg_neg] at this
  refine ⟨hd, hb.mulok hdb hbt, ?_⟩
  rw [up_law hp]; exact q
theorem whole_row_ok {k : Nat} {r : Row} {d : Int} {S : Sto} {Q : Rt → Sto → Prop} (hP6 : P 36 = some p_part_up) (hP : P 37 = some p_whole_row) (hl : r.1.length ≤ 1000) (hd : DivOk d) (q : Q (.val (dRow (wholeR r d))) S) :
    wF (runF P G (k + 2)) 37 [dRow r, .int d] S Q := by
  refine wF_of hP rfl ?_
  unfold p_whole_row
  walk_at "w"
  refine wL_map (fun x : Int => .int (up x d)) (fun x hx => ?_) ?_
  · unfold wTn wipeR wipeR
    walk_at "w"
    refine part_up_ok hP6 hd ?_
    walk_at "w"
  · walk_at "w"
    refine ⟨lt_size hl, ?_⟩
    refine part_up_ok hP6 hd ?_
    walk_at "w"
    have e : dRow (wholeR r d) = .tup [.tup (r.1.map fun x => .int (up x d)), .int (up r.2 d)] := by
      unfold dRow wholeR
      rw [List.map_map]; rfl
    rw [← e]; exact q
theorem whole_ok {k w b t : Nat} {r : Row} {d : Int} {S : Sto} {Q : Rt → Sto → Prop} (hP6 : P 40 = some l_up) (hP : P 41 = some l_whole) (hl : r.1.length ≤ 1000) (hr : RowB w b r) (hd : DivOk d) (hdb : Bd t d) (hbt : b + t < 1000000) (q : Q (.val (dRow (wholeR r d))) S) :
    wF (runF P G (k + 2)) 41 [dRow r, .int d] S Q := by
  refine wF_of hP rfl ?_
  unfold l_whole
  walk_at "w"
  refine wL_map (fun x : Int => .int (up x d)) (fun x hx => ?_) ?_
  · unfold wTn wipeR wipeR
    walk_at "w"
    refine up_ok hP6 hd (hr.2.1 x hx) hdb hbt ?_
    walk_at "w"
  · walk_at "w"
    refine ⟨lt_size hl, ?_⟩
    refine up_ok hP6 hd hr.2.2 hdb hbt ?_
    walk_at "w"
    have e : dRow (wholeR r d) = .tup [.tup (r.1.map fun x => .int (up x d)), .int (up r.2 d)] := by
      unfold dRow wholeR
      rw [List.map_map]; rfl
    rw [← e]; exact q

def intD : D → Bool
  | .int _ => true
  | _ => false
theorem is_count_ok {k : Nat} {x : D} {S : Sto} {Q : Rt → Sto → Prop} (hP : P 149 = some p_is_count) (hx : askable x = true) (q : Q (.val (.bl (intD x))) S) : wF (runF P G (k + 1)) 149 [x] S Q := by
  refine wF_of hP rfl ?_
  unfold p_is_count
  cases x with
  | non => walk_at "w"; exact q
  | bl b => walk_at "w"; exact q
  | int i => walk_at "w"; exact q
  | str s => walk_at "w"; exact q
  | tup ds => walk_at "w"; exact q
  | lst ds => walk_at "w"; exact q
  | scr _ => cases hx
  | ref _ => cases hx
  | dct _ _ => cases hx
theorem is_num_ok {k : Nat} {x : D} {S : Sto} {Q : Rt → Sto → Prop} (hP : P 121 = some l_is_number_1) (hx : askable x = true) (q : Q (.val (.bl (intD x))) S) : wF (runF P G (k + 1)) 121 [x] S Q := by
  refine wF_of hP rfl ?_
  unfold l_is_number_1
  cases x with
  | non => walk_at "w"; exact q
  | bl b => walk_at "w"; exact q
  | int i => walk_at "w"; exact q
  | str s => walk_at "w"; exact q
  | tup ds => walk_at "w"; exact q
  | lst ds => walk_at "w"; exact q
  | scr _ => cases hx
  | ref _ => cases hx
  | dct _ _ => cases hx
theorem is_row_list_ok {k : Nat} {x : D} {S : Sto} {Q : Rt → Sto → Prop} (hP : P 150 = some p_is_row_list) (hx : askable x = true) (q : Q (.val (.bl (lstOf x).isSome)) S) : wF (runF P G (k + 1)) 150 [x] S Q := by
  refine wF_of hP rfl ?_
  unfold p_is_row_list
  cases x with
  | non => walk_at "w"; exact q
  | bl b => walk_at "w"; exact q
  | int i => walk_at "w"; exact q
  | str s => walk_at "w"; exact q
  | tup ds => walk_at "w"; exact q
  | lst ds => walk_at "w"; exact q
  | scr _ => cases hx
  | ref _ => cases hx
  | dct _ _ => cases hx
theorem l_are_times_ok {k n : Nat} {d : D} {S : Sto} {Q : Rt → Sto → Prop} (hP1 : P 121 = some l_is_number_1) (hP : P 165 = some l_are_times) (hd : Asks d) (hn : ∀ xs, lstOf d = some xs → xs.length ≤ 1000000) (q : Q (.val (.bl (timsD n d))) S) : wF (runF P G (k + 2)) 165 [d, .int n] S Q := by
  refine wF_of hP rfl ?_
  have main : ∀ (k2 : Kd) (xs : List D), d = sqD k2 xs → wSs (runF P G (k + 1)) G l_are_times.body [.val d, .val (.int n), .no] S (fun _ S' => Q (.val .non) S') Q := fun k2 xs hx => by
    subst hx
    have hx : lstOf (sqD k2 xs) = some xs := by cases k2 <;> rfl
    have ask : ∀ x, x ∈ xs → askable x = true := hd.2 xs hx
    have ht : timsD n (sqD k2 xs) = (decide (xs.length = n) && xs.all isT) := by unfold timsD; rw [hx]
    rw [ht] at q
    have ty : (tyD (sqD k2 xs) Ty.list || tyD (sqD k2 xs) Ty.tuple) = true := by cases k2 <;> rfl
    simp only [l_are_times]
    walk_at "w"
    rw [ty]
    walk_at "w"
    by_cases hlen : xs.length = n
    · rw [decide_eq_true hlen, Bool.true_and] at q
      rw [show ((xs.length : Nat) : Int) = ((n : Nat) : Int) by omega]
      walk_at "w"
      try simp only [wipeR]
      refine wL_pure (fun x => some (D.bl (isT x))) (fun x hxm => ?_) ?_
      · unfold wTn
        walk_at "w"
        refine is_num_ok hP1 (ask x hxm) ?_
        cases x with
        | int i => simp only [intD]; walk_at "w"; rfl
        | _ => simp only [intD]; walk_at "w"; rfl
      · rw [all_isT, bi_allm, List.all_map]
        have := hn xs hx
        exact ⟨by rw [List.length_map, List.length_map]; exact Nat.le_trans this (by decide), _, rfl, rfl, q⟩
    · rw [decide_eq_false hlen, Bool.false_and] at q
      rw [decide_eq_false (show ¬ ((xs.length : Nat) : Int) = ((n : Nat) : Int) by omega)]
      walk_at "w"
      exact q
  have ask := hd.1
  cases d with
  | tup xs => exact main .t xs rfl
  | lst xs => exact main .l xs rfl
  | non => unfold l_are_times; walk_at "w"; exact q
  | bl b => unfold l_are_times; walk_at "w"; exact q
  | int i => unfold l_are_times; walk_at "w"; exact q
  | str s => unfold l_are_times; walk_at "w"; exact q
  | scr _ => cases ask
  | ref _ => cases ask
  | dct _ _ => cases ask
theorem lstOf_sq {k : Kd} {xs : List D} : lstOf (sqD k xs) = some xs := by cases k <;> rfl
theorem lst_cases (d : D) : (∃ k xs, d = sqD k xs) ∨ lstOf d = none := by
  cases d with
  | tup xs => exact .inl ⟨.t, xs, rfl⟩
  | lst xs => exact .inl ⟨.l, xs, rfl⟩
  | _ => exact .inr rfl

def isC (w : Nat) : D → Bool
  | .int i => decide (0 ≤ i) && decide (i < w)
  | _ => false
def cellsD (w : Nat) (d : D) : Bool := match lstOf d with
  | some xs => !xs.isEmpty && (xs.all (isC w) && decide (dInts xs).Nodup)
  | none => false
theorem cellsD_sq {w : Nat} {k : Kd} {xs : List D} : cellsD w (sqD k xs) = (!xs.isEmpty && (xs.all (isC w) && decide (dInts xs).Nodup)) := by unfold cellsD; rw [lstOf_sq]
theorem cells_of' {w : Nat} : ∀ {xs : List D}, xs.all (isC w) = true → ∃ ts : List Int, xs = ts.map .int ∧ ∀ t, t ∈ ts → 0 ≤ t ∧ t < w
  | [], _ => ⟨[], rfl, fun _ z => nomatch z⟩
  | x :: xs, h => by
    rw [List.all_cons, Bool.and_eq_true] at h
    obtain ⟨ts, rfl, ht⟩ := cells_of' h.2
    cases x with
    | int i => exact ⟨i :: ts, rfl, fun t h' => by
        rcases List.mem_cons.mp h' with rfl | h'
        · have := h.1
          unfold isC at this
          rw [Bool.and_eq_true, decide_eq_true_eq, decide_eq_true_eq] at this
          exact this
        · exact ht t h'⟩
    | _ => exact absurd h.1 Bool.false_ne_true
theorem uniq_mem {y : Int} : ∀ {is : List Int}, y ∈ uniq is ↔ y ∈ is
  | [] => Iff.rfl
  | x :: r => by
    unfold uniq
    split
    · rename_i h
      rw [uniq_mem, List.mem_cons]
      exact ⟨.inr, fun z => z.elim (fun e => e ▸ h) id⟩
    · rw [List.mem_cons, List.mem_cons, uniq_mem]
theorem uniq_nodup : ∀ {is : List Int}, (uniq is).Nodup
  | [] => List.nodup_nil
  | x :: r => by
    unfold uniq
    split
    · exact uniq_nodup
    · rename_i h
      exact List.nodup_cons.mpr ⟨fun z => h (uniq_mem.mp z), uniq_nodup⟩
theorem uniq_le : ∀ {is : List Int}, (uniq is).length ≤ is.length
  | [] => Nat.le_refl _
  | x :: r => by
    unfold uniq
    have := uniq_le (is := r)
    split
    · rw [List.length_cons]; omega
    · rw [List.length_cons, List.length_cons]; omega
theorem uniq_eq : ∀ {is : List Int}, (uniq is).length = is.length ↔ is.Nodup
  | [] => ⟨fun _ => List.nodup_nil, fun _ => rfl⟩
  | x :: r => by
    have h1 := uniq_le (is := r)
    have h2 := uniq_eq (is := r)
    unfold uniq
    rw [List.nodup_cons]
    split
    · rename_i h
      rw [List.length_cons]
      exact ⟨fun z => by omega, fun z => absurd h z.1⟩
    · rename_i h
      rw [List.length_cons, List.length_cons, Nat.add_right_cancel_iff, h2]
      exact ⟨fun z => ⟨h, z⟩, fun z => z.2⟩
theorem nodup_le : ∀ (n : Nat) (is : List Int), is.Nodup → (∀ x, x ∈ is → 0 ≤ x ∧ x < n) → is.length ≤ n
  | 0, is, _, h => by
    cases is with
    | nil => exact Nat.le_refl _
    | cons x r => have := h x List.mem_cons_self; omega
  | n + 1, is, hn, h => by
    have h1 := nodup_le n (is.erase (n : Int)) (hn.erase _) fun x hx => by
      rw [hn.mem_erase_iff] at hx
      have := h x hx.2
      have := hx.1
      omega
    have := List.length_erase_le (a := (n : Int)) (l := is)
    rw [List.length_erase] at h1
    split at h1 <;> omega
theorem in_intsQ {S : Sto} {i : Int} {k : Kd} {is : List Int} : cmpop S .isin (.val (.int i)) (.val (sqD k (is.map .int))) = some (decide (i ∈ is)) := by
  cases k
  · exact in_intsL
  · exact in_intsT
theorem p_lsetq {G : List D} {S : Sto} {k : Kd} {is : List Int} {Q : Rt → Sto → Prop} : (∃ r' S', P1.run G S .lset (.val (sqD k (is.map .int))) = some (r', S') ∧ Q r' S') ↔ (is.length ≤ 1000 ∧ (uniq is).length < 64) ∧ Q (.val (.int (uniq is).length)) S := by
  cases k <;> exact (set_any rfl).2
theorem all_isC {w : Nat} {xs : List D} : (xs.filterMap fun x => some (D.bl (isC w x))) = (xs.map (isC w)).map .bl := by
  induction xs with
  | nil => rfl
  | cons x xs ih => rw [List.filterMap_cons, ih]; rfl
theorem are_cells_ok {k w : Nat} {d : D} {S : Sto} {Q : Rt → Sto → Prop} (hP149 : P 149 = some p_is_count) (hP150 : P 150 = some p_is_row_list) (hP : P 153 = some p_are_cells) (hd : Asks d) (hn : ∀ xs, lstOf d = some xs → xs.length ≤ 1000) (hw : w < 64) (q : Q (.val (.bl (cellsD w d))) S) : wF (runF P G (k + 2)) 153 [d, .int w] S Q := by
  refine wF_of hP rfl ?_
  unfold p_are_cells
  walk_at "w"
  refine is_row_list_ok hP150 hd.1 ?_
  rcases lst_cases d with ⟨k2, xs, rfl⟩ | hnone
  · have ask : ∀ x, x ∈ xs → askable x = true := hd.2 xs lstOf_sq
    have hl := hn xs lstOf_sq
    rw [cellsD_sq] at q
    rw [lstOf_sq]
    walk_at "w"
    cases xs with
    | nil => walk_at "w"; exact q
    | cons x0 r =>
      rw [show List.isEmpty (x0 :: r) = false from rfl, Bool.not_false, Bool.true_and] at q
      rw [if_neg (show ¬ (((x0 :: r).length : Nat) : Int) = 0 by rw [List.length_cons]; omega)]
      generalize x0 :: r = xs at *
      walk_at "w"
      try simp only [wipeR]
      refine wL_pure (fun x => some (D.bl (isC w x))) (fun x hxm => ?_) ?_
      · unfold wTn
        walk_at "w"
        refine is_count_ok hP149 (ask x hxm) ?_
        cases x with
        | int i =>
          simp only [intD]; walk_at "w"
          by_cases h0 : 0 ≤ i
          · rw [if_pos h0]; show _ = (decide (0 ≤ i) && decide (i < (w : Int))); rw [decide_eq_true h0, Bool.true_and]
          · rw [if_neg h0]; show _ = (decide (0 ≤ i) && decide (i < (w : Int))); rw [decide_eq_false h0, Bool.false_and]
        | _ => simp only [intD]; walk_at "w"; rfl
      · rw [all_isC, bi_allm, List.all_map]
        refine ⟨by rw [List.length_map, List.length_map]; exact lt_size hl, _, rfl, _, rfl, ?_⟩
        change if (!(xs.all (isC w))) = true then _ else _
        cases hall : xs.all (isC w) with
        | false =>
          rw [hall, Bool.false_and] at q
          exact q
        | true =>
          rw [hall, Bool.true_and] at q
          obtain ⟨ts, rfl, ht⟩ := cells_of' hall
          rw [dInts_map] at q
          rw [if_neg (by decide), p_lsetq]
          rw [List.length_map] at hl
          have hu := nodup_le w (uniq ts) uniq_nodup fun x hx => ht x (uniq_mem.mp hx)
          refine ⟨⟨hl, by omega⟩, ?_⟩
          walk_at "w"
          have e : decide ts.Nodup = decide (((uniq ts).length : Int) = (ts.length : Int)) := by
            rw [decide_eq_decide, ← uniq_eq]; omega
          rw [e] at q
          exact q
  · unfold cellsD at q
    rw [hnone] at q ⊢
    walk_at "w"
    exact q
theorem count_ints (x : Int) : ∀ ts : List Int, ((ts.map D.int).map vOf).countP (fun z => eqV z (vOf (.int x))) = ts.count x
  | [] => rfl
  | t :: ts => by
    rw [List.map_cons, List.map_cons, List.countP_cons, count_ints x ts, List.count_cons]
    rfl
theorem max_count {ts : List Int} (h : ts ≠ []) : mxL (ts.map fun t => ((ts.count t : Nat) : Int)) = 1 ↔ ts.Nodup := by
  have hne : (ts.map fun t => ((ts.count t : Nat) : Int)) ≠ [] := fun z => h (List.map_eq_nil_iff.mp z)
  have h1 : ¬ mxL (ts.map fun t => ((ts.count t : Nat) : Int)) ≤ 0 := fun z => by
    rw [mxL_le hne] at z
    obtain ⟨t, r, rfl⟩ : ∃ t r, ts = t :: r := by
      cases ts with
      | nil => exact absurd rfl h
      | cons t r => exact ⟨t, r, rfl⟩
    have := z _ (List.mem_map_of_mem (List.mem_cons_self (a := t) (l := r)))
    have := List.count_pos_iff.mpr (List.mem_cons_self (a := t) (l := r))
    omega
  have h2 := mxL_le (xs := ts.map fun t => ((ts.count t : Nat) : Int)) (b := 1) hne
  rw [List.nodup_iff_count]
  constructor
  · intro e a
    have := h2.mp (by omega)
    by_cases ha : a ∈ ts
    · have := this _ (List.mem_map_of_mem ha)
      omega
    · rw [List.count_eq_zero_of_not_mem ha]; omega
  · intro e
    have := h2.mpr fun x hx => by
      obtain ⟨t, _, rfl⟩ := List.mem_map.mp hx
      have := e t
      omega
    omega
theorem bi_maxO {S : Sto} : ∀ {xs : List Int}, xs ≠ [] → biop S .max [.own (xs.map .int)] = some (.val (.int (mxL xs)))
  | [], h => absurd rfl h
  | _ :: _, _ => bi_maxo
theorem l_are_cells_ok {k w : Nat} {d : D} {S : Sto} {Q : Rt → Sto → Prop} (hP121 : P 121 = some l_is_number_1) (hP : P 166 = some l_are_cells) (hd : Asks d) (hn : ∀ xs, lstOf d = some xs → xs.length ≤ 1000) (q : Q (.val (.bl (cellsD w d))) S) : wF (runF P G (k + 2)) 166 [d, .int w] S Q := by
  refine wF_of hP rfl ?_
  rcases lst_cases d with ⟨k2, xs, rfl⟩ | hnone
  · have ask : ∀ x, x ∈ xs → askable x = true := hd.2 xs lstOf_sq
    have hl := hn xs lstOf_sq
    rw [cellsD_sq] at q
    unfold l_are_cells
    have ty : (tyD (sqD k2 xs) Ty.list || tyD (sqD k2 xs) Ty.tuple) = true := by cases k2 <;> rfl
    walk_at "w"
    rw [ty]
    walk_at "w"
    cases xs with
    | nil => walk_at "w"; exact q
    | cons x0 r =>
      rw [show List.isEmpty (x0 :: r) = false from rfl, Bool.not_false, Bool.true_and] at q
      rw [if_neg (show ¬ (((x0 :: r).length : Nat) : Int) = 0 by rw [List.length_cons]; omega)]
      have hne : x0 :: r ≠ [] := List.cons_ne_nil _ _
      generalize x0 :: r = xs at *
      walk_at "w"
      try simp only [wipeR]
      refine wL_pure (fun x => some (D.bl (isC w x))) (fun x hxm => ?_) ?_
      · unfold wTn
        walk_at "w"
        refine is_num_ok hP121 (ask x hxm) ?_
        cases x with
        | int i =>
          simp only [intD]; walk_at "w"
          by_cases h0 : 0 ≤ i
          · rw [if_pos h0]; show _ = (decide (0 ≤ i) && decide (i < (w : Int))); rw [decide_eq_true h0, Bool.true_and]
          · rw [if_neg h0]; show _ = (decide (0 ≤ i) && decide (i < (w : Int))); rw [decide_eq_false h0, Bool.false_and]
        | _ => simp only [intD]; walk_at "w"; rfl
      · rw [all_isC, bi_allm, List.all_map]
        refine ⟨by rw [List.length_map, List.length_map]; exact lt_size hl, _, rfl, _, rfl, ?_⟩
        change if (!(xs.all (isC w))) = true then _ else _
        cases hall : xs.all (isC w) with
        | false =>
          rw [hall, Bool.false_and] at q
          exact q
        | true =>
          rw [hall, Bool.true_and] at q
          obtain ⟨ts, rfl, ht⟩ := cells_of' hall
          rw [dInts_map] at q
          rw [List.length_map] at hl
          have hne' : ts ≠ [] := fun z => hne (by rw [z]; rfl)
          have hne2 : (ts.map fun t => ((ts.count t : Nat) : Int)) ≠ [] := fun z => hne' (List.map_eq_nil_iff.mp z)
          rw [if_neg (by decide)]
          refine wL_map (fun t : Int => .int (ts.count t : Nat)) (fun t htm => ?_) ?_
          · unfold wTn
            walk_at "w"
            have hv : lview S (.own (ts.map D.int)) = some (ts.map .int) := rfl
            refine ⟨(p_precount hv).1, ?_⟩
            rw [p_count hv rfl (ints_flat ts)]
            rw [count_ints]
            walk_at "w"
            exact ⟨_, _, ⟨rfl, rfl⟩, _, rfl, rfl, rfl⟩
          · refine ⟨by walk_at "sz", ?_⟩
            rw [show (ts.map fun t => D.int ((ts.count t : Nat) : Int)) = (ts.map fun t => ((ts.count t : Nat) : Int)).map .int by rw [List.map_map]; rfl, bi_maxO hne2]
            walk_at "w"
            have e : decide ts.Nodup = decide (mxL (ts.map fun t => ((ts.count t : Nat) : Int)) = 1) := by
              rw [decide_eq_decide, max_count hne']
            rw [e] at q
            exact q
  · have ask := hd.1
    unfold cellsD at q
    rw [hnone] at q
    unfold l_are_cells
    cases d with
    | tup xs => cases hnone
    | lst xs => cases hnone
    | non => walk_at "w"; exact q
    | bl b => walk_at "w"; exact q
    | int i => walk_at "w"; exact q
    | str s => walk_at "w"; exact q
    | scr _ => cases ask
    | ref _ => cases ask
    | dct _ _ => cases ask
end
end Mi.Lw
end
section
namespace Mi.Lw
open PySem L2
local macro_rules | `(tactic| walk_at "w") => `(tactic| try simp only [wSs_cons, wSs_nil, wS_asg, wS_own, wS_aug, wS_app, wS_ext, exV_o, exV_t, wS_rev, wS_sown, wS_pops, wS_ite, wS_for, wS_ret, wS_reto, wS_expr, wS_frz, wS_par, wS_par3, slOf_f, slOf_fo, slOf_t, frzN_own, frzN_val, retOk_v, retOk_o,
  wE_var, wE_bor, wE_con, wE_glb, wE_bin, wE_cmp, wE_idx, wE_neg, wE_not, wE_and, wE_or, wE_ite, wE_chn, wE_tup, wE_lst, wE_slc, wE_call, wE_callp, lends_nil, lends_v, lends_o, lends_b, wE_bi, wE_comp, wE_new, newC_own, newC_ownd, wE_o1, wE_o2, wE_o3, wE_dct, wE_dgt, wE_din, wEs_nil, wEs_cons, wRs_nil, wRs_cons, wO_no, wO_yes, wC_no, wC_yes,
  wI_rng1, wI_rng2, wI_seq, wI_enm, wI_zip2, wT_nm, wT_sub, wT_tp, wTs_nil, wTs_cons,
  List.map_cons, List.map_nil, List.cons_append, List.nil_append, List.replicate_succ, List.replicate_zero, List.getElem?_cons_zero, List.getElem?_cons_succ, List.set_cons_zero, List.set_cons_succ, List.length_cons, List.length_nil, Nat.reduceSub, Nat.reduceAdd, Nat.reduceLT, Nat.reduceLeDiff, Nat.reduceEqDiff,
  Option.some.injEq, Sl.val.injEq, Sl.own.injEq, Rt.val.injEq, Rt.own.injEq, D.int.injEq, D.bl.injEq, D.ref.injEq, D.tup.injEq, D.lst.injEq, D.str.injEq, exists_eq_left, exists_eq_left', exists_eq_right, exists_eq_right', rd_val, rd_own, rd_ownd, ne_eq, reduceCtorEq, not_false_eq_true, not_true_eq_false, implies_true, true_and, and_true, and_self, false_and, and_false, exists_false, Prod.mk.injEq,
  bin_add, bin_sub, bin_mul', bin_fdiv', bin_mod', bin_pow', bin_shl', rep_own, rep_tup, cat_lo, cat_oo, cat_ll, cat_ol, cat_tt, cat_ss, cat_bo, cat_ob, cat_bl, cat_lb, cmp_int, cmp_intn, cmp_str, cmp_strs, cmp_strsn, ofString_inj, cmp_lt, cmp_le, cmp_gt, cmp_ge, cmp_isn, cmp_isnn, cmp_isb, cmp_isnb, cmp_blne, cmp_bleq, bi_divmod', bi_abs', bi_intb, bi_min2, bi_max2, bi_lenl, bi_lens, bi_lent, bi_leno, bi_lenb, bi_listo, bi_listl, bi_listt, bi_listb, bi_tupo, bi_tupb, bi_tupt, bi_tupl, sl_scr, sl_lst, sl_tup, sl_own, sl_bor, ix_tup, ix_lst, ix_own, ix_bor, atI_0, atI_1, atI_2, String.reduceEq, decide_false, decide_true, decide_eq_true_eq, Bool.false_eq_true, if_false, if_true, reduceIte, Bool.not_false, Bool.not_true, Int.reduceLT, Int.reduceLE, Int.reduceToNat, Int.reduceNeg, Int.reduceAdd, Int.reduceSub, Int.reduceMul, Int.reduceEq, Nat.lt_irrefl, forall_const, size_ok, inRng_ok, still_l, still_t, still_o, still_b, still_sq, ix_sq, bi_lensq, bi_tupsq, bi_listsq, bi_sumo, bi_sumt, bi_sumq, bi_sumf, bi_maxt, bi_mint, bi_maxo, bi_minq, bi_allt, bi_allm, bi_anym, ix_row0, ix_row1, bi_lenrow, List.length_map, Int.cast_ofNat_Int,
  isi1_n, isi_n, isi1_b, isi_b, isi1_i, isi_i, isi1_s, isi_s, isi1_t, isi_t, isi1_l, isi_l, isi1_c, isi_c, isi1_r, isi_r, isi1_q, isi_q, isi_o, bi_isi1o, bi_isi1b, tyD_t, tyD_i, tyD_b, tyD_s, tyD_l, tyD_n, tyD_row, List.any_cons, List.any_nil, Bool.or_false, Bool.or_true, Bool.true_or, Bool.false_or, Bool.and_true, Bool.true_and, Bool.and_false, Bool.false_and, beq_self_eq_true, bne_self_eq_false, beq_true, beq_false, isN,
  p_lrng, p_revl, p_revo, p_revb, p_revt, p_sseto, p_lsetl, p_lsett, p_mxdo, p_premxd, p_predzip, p_lsetb, p_prelrng2, p_lrng2, p_gget, p_gin, p_mx3, p_get, p_presplit, p_prejoin, p_split, dct_o, dct_v, key_i, key_s, valD_cons, valD_nil, Sum.inr.injEq, Sum.inl.injEq, Option.isSome_some, Option.isSome_none, Bool.xor_false, Bool.xor_true, Bool.false_xor, Bool.true_xor, Option.getD_some, Option.getD_none, cmp_notin, in_nil, in_1, in_2, in_3, in_4, in_5, in_6, in_11, in_intsT, in_intsL, in_intsB, Option.map_some, List.all_cons, List.all_nil, flatD_s, flatD_i, divok_s, mulok_ls, mulok_rs])
local macro_rules | `(tactic| walk_at "sz") => `(tactic| (refine Nat.le_trans (m := 10000000) ?_ (show 10000000 ≤ 16777216 by decide); (try simp only [List.length_append, List.length_map, List.length_take, List.length_drop, List.length_cons, List.length_nil, List.length_zip, List.length_reverse, List.length_replicate, List.length_range, rngL_len]); omega))

def mostR (w : Nat) (cs : List Int) (m : Int) : Row := ((List.range w).map fun c : Nat => -(if (c : Int) ∈ cs then 1 else 0), -m)
def leastR (w : Nat) (cs : List Int) (m : Int) : Row := ((List.range w).map fun c : Nat => if (c : Int) ∈ cs then 1 else 0, m)
theorem mostR_b {w b : Nat} {cs : List Int} {m : Int} (h : Bd b m) (hb : 1 ≤ b) : RowB w b (mostR w cs m) := ⟨by rw [mostR, List.length_map, List.length_range], fun x hx => by
  obtain ⟨c, _, rfl⟩ := List.mem_map.mp hx
  refine Bd.mono (b := 1) ?_ hb
  unfold Bd
  split <;> decide, h.neg⟩
theorem leastR_b {w b : Nat} {cs : List Int} {m : Int} (h : Bd b m) (hb : 1 ≤ b) : RowB w b (leastR w cs m) := ⟨by rw [leastR, List.length_map, List.length_range], fun x hx => by
  obtain ⟨c, _, rfl⟩ := List.mem_map.mp hx
  refine Bd.mono (b := 1) ?_ hb
  unfold Bd
  split <;> decide, h⟩
section
variable {P : Nat → Option FD} {G : List D}
theorem most_ok {k w : Nat} {k2 : Kd} {cs : List Int} {m : Int} {S : Sto} {Q : Rt → Sto → Prop} (hP : P 151 = some p_row_of_most) (hw : w ≤ 1000) (q : Q (.val (dRow (mostR w cs m))) S) : wF (runF P G (k + 1)) 151 [sqD k2 (cs.map .int), .int m, .int w] S Q := by
  refine wF_of hP rfl ?_
  unfold p_row_of_most
  walk_at "w"
  rw [Int.toNat_natCast, rngL_range0 w]
  refine ⟨⟨by omega, by omega⟩, ?_⟩
  try simp only [wipeR]
  refine wL_map (fun c : Nat => .int (-(if (c : Int) ∈ cs then 1 else 0))) (fun c hc => ?_) ?_
  · unfold wTn
    walk_at "w"
    rw [in_intsQ]
    walk_at "w"
  · refine ⟨by walk_at "sz", ?_⟩
    walk_at "w"
    unfold dRow mostR at q
    rw [List.map_map] at q
    exact q
theorem least_ok {k w : Nat} {k2 : Kd} {cs : List Int} {m : Int} {S : Sto} {Q : Rt → Sto → Prop} (hP : P 152 = some p_row_of_least) (hw : w ≤ 1000) (q : Q (.val (dRow (leastR w cs m))) S) : wF (runF P G (k + 1)) 152 [sqD k2 (cs.map .int), .int m, .int w] S Q := by
  refine wF_of hP rfl ?_
  unfold p_row_of_least
  walk_at "w"
  rw [Int.toNat_natCast, rngL_range0 w]
  refine ⟨⟨by omega, by omega⟩, ?_⟩
  try simp only [wipeR]
  refine wL_map (fun c : Nat => .int (if (c : Int) ∈ cs then 1 else 0)) (fun c hc => ?_) ?_
  · unfold wTn
    walk_at "w"
    rw [in_intsQ]
    walk_at "w"
  · refine ⟨by walk_at "sz", ?_⟩
    walk_at "w"
    unfold dRow leastR at q
    rw [List.map_map] at q
    exact q
theorem case_rows_ok {k w : Nat} {k2 : Kd} {cs : List Int} {m : Int} {S : Sto} {Q : Rt → Sto → Prop} (hP : P 163 = some l_case_rows) (hw : w ≤ 1000) (q : Q (.own [dRow (mostR w cs m), dRow (leastR w cs (m + 1))]) S) : wF (runF P G (k + 1)) 163 [sqD k2 (cs.map .int), .int m, .int w] S Q := by
  refine wF_of hP rfl ?_
  unfold l_case_rows
  walk_at "w"
  rw [Int.toNat_natCast, rngL_range0 w]
  refine ⟨⟨by omega, by omega⟩, ?_⟩
  try simp only [wipeR]
  refine wL_map (fun c : Nat => .int (if (c : Int) ∈ cs then 1 else 0)) (fun c hc => ?_) ?_
  · unfold wTn
    walk_at "w"
    rw [in_intsQ]
    walk_at "w"
  · refine ⟨by walk_at "sz", ?_⟩
    walk_at "w"
    try simp only [wipeR]
    refine wL_map (fun c : Nat => .int (0 - (if (c : Int) ∈ cs then 1 else 0))) (fun c hc => ?_) ?_
    · unfold wTn
      walk_at "w"
    · refine ⟨by walk_at "sz", ?_⟩
      walk_at "w"
      unfold dRow leastR mostR at q
      simp only [List.map_map, Function.comp_def] at q
      simp only [Int.zero_sub]
      exact q
end


def formD (d : D) : Bool := match lstOf d with
  | some (.str s :: r) => if s = "sum" then decide (r.length = 1) else if s = "whole" then decide (r.length = 3) else if s = "cases" then decide (r.length = 4) else false
  | _ => false
def posD : D → Bool
  | .int i => decide (1 ≤ i)
  | _ => false

def stepD (w : Nat) (rs : List Row) (d : D) : Bool := match lstOf d with
  | some [.str s, t] => decide (s = "sum") && showsD w rs t
  | some [.str s, t, q, _] => decide (s = "whole") && (timsD rs.length t && posD q)
  | some [.str s, c, m, _, _] => decide (s = "cases") && (cellsD w c && intD m)
  | _ => false
def igetD : D → Int
  | .int i => i
  | _ => 0
def intsOf (d : D) : List Int := dInts ((lstOf d).getD [])

def behD (w : Nat) (rs : List Row) (d : D) : List Row := match lstOf d with
  | some [_, t, q, _] => [wholeR (sumRows w (rs.zip (intsOf t))) (igetD q)]
  | some [_, c, m, _, _] => [mostR w (intsOf c) (igetD m), leastR w (intsOf c) (igetD m + 1)]
  | _ => []
def namesD (d : D) : List D := ((lstOf d).getD []).drop 3

def StOk (t : Nat) (d : D) : Prop := askable d = true ∧ ∀ xs, lstOf d = some xs → xs.length ≤ 1000 ∧ ∀ x, x ∈ xs → Asks x ∧ (∀ ys, lstOf x = some ys → ys.length ≤ 1000 ∧ ∀ i, .int i ∈ ys → Bd t i) ∧ ∀ i, x = .int i → Bd t i
theorem formD_sq {k : Kd} {s : Str} {r : List D} : formD (sqD k (.str s :: r)) = if s = "sum" then decide (r.length = 1) else if s = "whole" then decide (r.length = 3) else if s = "cases" then decide (r.length = 4) else false := by
  unfold formD; rw [lstOf_sq]
theorem formD_nostr {k : Kd} {xs : List D} (h : ∀ s r, xs ≠ .str s :: r) : formD (sqD k xs) = false := by
  unfold formD; rw [lstOf_sq]
  split
  · rename_i s r e; exact absurd (Option.some.inj e) (h s r)
  · rfl
theorem step_form {w : Nat} {rs : List Row} {d : D} (h : stepD w rs d = true) : formD d = true := by
  unfold stepD at h
  unfold formD
  split at h
  · rename_i s t e
    rw [e]
    rw [Bool.and_eq_true, decide_eq_true_eq] at h
    rw [h.1]; rfl
  · rename_i s t q n e
    rw [e]
    rw [Bool.and_eq_true, decide_eq_true_eq] at h
    rw [h.1]; rfl
  · rename_i s t q n n2 e
    rw [e]
    rw [Bool.and_eq_true, decide_eq_true_eq] at h
    rw [h.1]; rfl
  · cases h

theorem form_cases {d : D} (h : formD d = true) : ∃ k, (∃ t, d = sqD k [.str "sum", t]) ∨ (∃ t q n, d = sqD k [.str "whole", t, q, n]) ∨ ∃ c m n1 n2, d = sqD k [.str "cases", c, m, n1, n2] := by
  rcases lst_cases d with ⟨k, xs, rfl⟩ | e
  · refine ⟨k, ?_⟩
    unfold formD at h
    rw [lstOf_sq] at h
    split at h
    · rename_i s r e
      rw [Option.some.inj e]
      split at h
      · rename_i hs; subst hs
        obtain ⟨a, rfl⟩ := len1 (of_decide_eq_true h)
        exact .inl ⟨a, rfl⟩
      · split at h
        · rename_i hs; subst hs
          obtain ⟨a, b, c, rfl⟩ := len3 (of_decide_eq_true h)
          exact .inr (.inl ⟨a, b, c, rfl⟩)
        · split at h
          · rename_i hs; subst hs
            obtain ⟨a, b, c, f, rfl⟩ := len4 (of_decide_eq_true h)
            exact .inr (.inr ⟨a, b, c, f, rfl⟩)
          · cases h
    · cases h
  · unfold formD at h; rw [e] at h; cases h
theorem step_sum {w : Nat} {rs : List Row} {k : Kd} {t : D} : stepD w rs (sqD k [.str "sum", t]) = showsD w rs t := by unfold stepD; rw [lstOf_sq]; rfl
theorem step_whole {w : Nat} {rs : List Row} {k : Kd} {t q n : D} : stepD w rs (sqD k [.str "whole", t, q, n]) = (timsD rs.length t && posD q) := by unfold stepD; rw [lstOf_sq]; rfl
theorem step_cases {w : Nat} {rs : List Row} {k : Kd} {c m n1 n2 : D} : stepD w rs (sqD k [.str "cases", c, m, n1, n2]) = (cellsD w c && intD m) := by unfold stepD; rw [lstOf_sq]; rfl
theorem stepD_false {w : Nat} {rs : List Row} {d : D} (h : formD d = false) : stepD w rs d = false := by
  cases e : stepD w rs d with
  | false => rfl
  | true => rw [step_form e] at h; cases h
end Mi.Lw
end
section
namespace Mi.Lw
open PySem L2
local macro_rules | `(tactic| walk_at "w") => `(tactic| try simp only [wSs_cons, wSs_nil, wS_asg, wS_own, wS_aug, wS_app, wS_ext, exV_o, exV_t, wS_rev, wS_sown, wS_pops, wS_ite, wS_for, wS_ret, wS_reto, wS_expr, wS_frz, wS_par, wS_par3, slOf_f, slOf_fo, slOf_t, frzN_own, frzN_val, retOk_v, retOk_o,
  wE_var, wE_bor, wE_con, wE_glb, wE_bin, wE_cmp, wE_idx, wE_neg, wE_not, wE_and, wE_or, wE_ite, wE_chn, wE_tup, wE_lst, wE_slc, wE_call, wE_callp, lends_nil, lends_v, lends_o, lends_b, wE_bi, wE_comp, wE_new, newC_own, newC_ownd, wE_o1, wE_o2, wE_o3, wE_dct, wE_dgt, wE_din, wEs_nil, wEs_cons, wRs_nil, wRs_cons, wO_no, wO_yes, wC_no, wC_yes,
  wI_rng1, wI_rng2, wI_seq, wI_enm, wI_zip2, wT_nm, wT_sub, wT_tp, wTs_nil, wTs_cons,
  List.map_cons, List.map_nil, List.cons_append, List.nil_append, List.replicate_succ, List.replicate_zero, List.getElem?_cons_zero, List.getElem?_cons_succ, List.set_cons_zero, List.set_cons_succ, List.length_cons, List.length_nil, Nat.reduceSub, Nat.reduceAdd, Nat.reduceLT, Nat.reduceLeDiff, Nat.reduceEqDiff,
  Option.some.injEq, Sl.val.injEq, Sl.own.injEq, Rt.val.injEq, Rt.own.injEq, D.int.injEq, D.bl.injEq, D.ref.injEq, D.tup.injEq, D.lst.injEq, D.str.injEq, exists_eq_left, exists_eq_left', exists_eq_right, exists_eq_right', rd_val, rd_own, rd_ownd, ne_eq, reduceCtorEq, not_false_eq_true, not_true_eq_false, implies_true, true_and, and_true, and_self, false_and, and_false, exists_false, Prod.mk.injEq,
  bin_add, bin_sub, bin_mul', bin_fdiv', bin_mod', bin_pow', bin_shl', rep_own, rep_tup, cat_lo, cat_oo, cat_ll, cat_ol, cat_tt, cat_ss, cat_bo, cat_ob, cat_bl, cat_lb, cmp_int, cmp_intn, cmp_str, cmp_strs, cmp_strsn, ofString_inj, cmp_lt, cmp_le, cmp_gt, cmp_ge, cmp_isn, cmp_isnn, cmp_isb, cmp_isnb, cmp_blne, cmp_bleq, bi_divmod', bi_abs', bi_intb, bi_min2, bi_max2, bi_lenl, bi_lens, bi_lent, bi_leno, bi_lenb, bi_listo, bi_listl, bi_listt, bi_listb, bi_tupo, bi_tupb, bi_tupt, bi_tupl, sl_scr, sl_lst, sl_tup, sl_own, sl_bor, ix_tup, ix_lst, ix_own, ix_bor, atI_0, atI_1, atI_2, String.reduceEq, decide_false, decide_true, decide_eq_true_eq, Bool.false_eq_true, if_false, if_true, reduceIte, Bool.not_false, Bool.not_true, Int.reduceLT, Int.reduceLE, Int.reduceToNat, Int.reduceNeg, Int.reduceAdd, Int.reduceSub, Int.reduceMul, Int.reduceEq, Nat.lt_irrefl, forall_const, size_ok, inRng_ok, still_l, still_t, still_o, still_b, still_sq, ix_sq, bi_lensq, bi_tupsq, bi_listsq, bi_sumo, bi_sumt, bi_sumq, bi_sumf, bi_maxt, bi_mint, bi_maxo, bi_minq, bi_allt, bi_allm, bi_anym, ix_row0, ix_row1, bi_lenrow, List.length_map, Int.cast_ofNat_Int,
  isi1_n, isi_n, isi1_b, isi_b, isi1_i, isi_i, isi1_s, isi_s, isi1_t, isi_t, isi1_l, isi_l, isi1_c, isi_c, isi1_r, isi_r, isi1_q, isi_q, isi_o, bi_isi1o, bi_isi1b, tyD_t, tyD_i, tyD_b, tyD_s, tyD_l, tyD_n, tyD_row, List.any_cons, List.any_nil, Bool.or_false, Bool.or_true, Bool.true_or, Bool.false_or, Bool.and_true, Bool.true_and, Bool.and_false, Bool.false_and, beq_self_eq_true, bne_self_eq_false, beq_true, beq_false, isN,
  p_lrng, p_revl, p_revo, p_revb, p_revt, p_sseto, p_lsetl, p_lsett, p_mxdo, p_premxd, p_predzip, p_lsetb, p_prelrng2, p_lrng2, p_gget, p_gin, p_mx3, p_get, p_presplit, p_prejoin, p_split, dct_o, dct_v, key_i, key_s, valD_cons, valD_nil, Sum.inr.injEq, Sum.inl.injEq, Option.isSome_some, Option.isSome_none, Bool.xor_false, Bool.xor_true, Bool.false_xor, Bool.true_xor, Option.getD_some, Option.getD_none, cmp_notin, in_nil, in_1, in_2, in_3, in_4, in_5, in_6, in_11, in_intsT, in_intsL, in_intsB, Option.map_some, List.all_cons, List.all_nil, flatD_s, flatD_i, divok_s, mulok_ls, mulok_rs])
local macro_rules | `(tactic| walk_at "sz") => `(tactic| (refine Nat.le_trans (m := 10000000) ?_ (show 10000000 ≤ 16777216 by decide); (try simp only [List.length_append, List.length_map, List.length_take, List.length_drop, List.length_cons, List.length_nil, List.length_zip, List.length_reverse, List.length_replicate, List.length_range, rngL_len]); omega))
theorem pk_pre {S : Sto} {j : Nat} {x : Rt} : (P2.pre S (.gg2 j) x = true) = True := eq_true rfl
theorem pk_gg2 {G : List D} {S : Sto} {j : Nat} {ks : List Key} {ds : List D} {k : Str} {f : D} (h : G[j]? = some (.dct ks ds)) : P2.run G S (.gg2 j) (.val (.str k)) (.val f) = some (.val ((valD ks ds (.inr k)).getD f), S) := by
  show ((G[j]?).bind _) = _
  rw [h]; rfl
theorem rsK_len {ks : List KRow} : (rsK ks).length = ks.length := List.length_map _

structure PapF (P : Nat → Option FD) (G : List D) : Prop where
  h25 : P 25 = some p_sum_of
  h36 : P 36 = some p_part_up
  h37 : P 37 = some p_whole_row
  h44 : P 44 = some p_is_time
  h45 : P 45 = some p_are_times
  h46 : P 46 = some p_shows_sum
  h149 : P 149 = some p_is_count
  h150 : P 150 = some p_is_row_list
  h151 : P 151 = some p_row_of_most
  h152 : P 152 = some p_row_of_least
  h153 : P 153 = some p_are_cells
  h154 : P 154 = some p_is_step
  h155 : P 155 = some p_named_by
  h156 : P 156 = some p_rows_behind
  h157 : P 157 = some p_shows_paper
  g11 : G[11]? = some (.dct [.inr "sum", .inr "whole", .inr "cases"] [.int 2, .int 4, .int 5])

structure PapL (P : Nat → Option FD) : Prop where
  h40 : P 40 = some l_up
  h41 : P 41 = some l_whole
  h121 : P 121 = some l_is_number_1
  h162 : P 162 = some l_sum
  h163 : P 163 = some l_case_rows
  h165 : P 165 = some l_are_times
  h166 : P 166 = some l_are_cells
  h167 : P 167 = some l_formed
  h168 : P 168 = some l_goes_by
  h169 : P 169 = some l_put_behind
  h170 : P 170 = some l_is_paper
section
variable {P : Nat → Option FD} {G : List D}
theorem StOk.el {t : Nat} {k : Kd} {xs : List D} (h : StOk t (sqD k xs)) : ∀ x, x ∈ xs → Asks x ∧ (∀ ys, lstOf x = some ys → ys.length ≤ 1000 ∧ ∀ i, .int i ∈ ys → Bd t i) ∧ ∀ i, x = .int i → Bd t i := (h.2 xs lstOf_sq).2
theorem is_step_ok {k w b t : Nat} {ks : List KRow} {d : D} {S : Sto} {Q : Rt → Sto → Prop} (h : PapF P G) (hd : StOk t d) (hw0 : 0 < w) (hw : w < 64) (h0 : 0 < ks.length) (hbt : t + b < 1000000) (hr : ∀ r, r ∈ ks → RowB w b r.1) (q : Q (.val (.bl (stepD w (rsK ks) d))) S) : wF (runF P G (k + 4)) 154 [d, .lst (ks.map kD)] S Q := by
  refine wF_of h.h154 rfl ?_
  unfold p_is_step
  walk_at "w"
  refine is_row_list_ok h.h150 hd.1 ?_
  cases hf : formD d with
  | false =>
    rw [stepD_false hf] at q
    rcases lst_cases d with ⟨k2, xs, rfl⟩ | hnone
    · rw [lstOf_sq]
      walk_at "w"
      cases xs with
      | nil => walk_at "w"; exact q
      | cons x0 r =>
        rw [if_neg (show ¬ (((x0 :: r).length : Nat) : Int) = 0 by rw [List.length_cons]; omega)]
        walk_at "w"
        have ha := (hd.el x0 List.mem_cons_self).1.1
        cases x0 with
        | scr _ => cases ha
        | ref _ => cases ha
        | dct _ _ => cases ha
        | non => walk_at "w"; exact q
        | bl b => walk_at "w"; exact q
        | int i => walk_at "w"; exact q
        | tup ds => walk_at "w"; exact q
        | lst ds => walk_at "w"; exact q
        | str s =>
          walk_at "w"
          simp only [pk_pre, pk_gg2 h.g11]
          walk_at "w"
          refine ⟨_, _, ⟨rfl, rfl⟩, ?_⟩
          rw [formD_sq] at hf
          by_cases h1 : s = "sum"
          · subst h1
            rw [if_pos rfl, decide_eq_false_iff_not] at hf
            walk_at "w"
            rw [decide_eq_false (show ¬ (((r.length + 1 : Nat) : Int) = 2) by omega)]
            exact q
          · rw [if_neg h1] at hf
            by_cases h2 : s = "whole"
            · subst h2
              rw [if_pos rfl, decide_eq_false_iff_not] at hf
              walk_at "w"
              rw [decide_eq_false (show ¬ (((r.length + 1 : Nat) : Int) = 4) by omega)]
              exact q
            · rw [if_neg h2] at hf
              by_cases h3 : s = "cases"
              · subst h3
                rw [if_pos rfl, decide_eq_false_iff_not] at hf
                walk_at "w"
                rw [decide_eq_false (show ¬ (((r.length + 1 : Nat) : Int) = 5) by omega)]
                exact q
              · rw [if_neg (Ne.symm h1), if_neg (Ne.symm h2), if_neg (Ne.symm h3)]
                walk_at "w"
                rw [decide_eq_false (show ¬ (((r.length + 1 : Nat) : Int) = 0) by omega)]
                exact q
    · rw [hnone]
      walk_at "w"
      exact q
  | true =>
    obtain ⟨k2, ⟨t1, rfl⟩ | ⟨t1, q1, n1, rfl⟩ | ⟨c1, m1, n1, n2, rfl⟩⟩ := form_cases hf
    · rw [lstOf_sq]
      rw [step_sum] at q
      walk_at "w"
      simp only [pk_pre, pk_gg2 h.g11]
      walk_at "w"
      refine ⟨_, _, ⟨rfl, rfl⟩, ?_⟩
      walk_at "w"
      have e1 := hd.el t1 (by simp)
      refine shows_sum_k (k := k) (k1 := .l) (b := b) (t := t) (w := w) h.h25 h.h44 h.h45 h.h46 e1.1 (fun xs hx => Nat.le_trans (e1.2.1 xs hx).1 (by decide)) (fun xs hx => (e1.2.1 xs hx).2) hw0 (by omega) h0 hbt hr ?_
      walk_at "w"
      exact q
    · rw [lstOf_sq]
      rw [step_whole, rsK_len] at q
      walk_at "w"
      simp only [pk_pre, pk_gg2 h.g11]
      walk_at "w"
      refine ⟨_, _, ⟨rfl, rfl⟩, ?_⟩
      walk_at "w"
      have e1 := hd.el t1 (by simp)
      have e2 := hd.el q1 (by simp)
      refine are_times_ok (k := k + 1) h.h44 h.h45 e1.1 (fun xs hx => Nat.le_trans (e1.2.1 xs hx).1 (by decide)) ?_
      cases ht : timsD ks.length t1 with
      | false => rw [ht] at q; walk_at "w"; exact q
      | true =>
        rw [ht, Bool.true_and] at q
        walk_at "w"
        refine is_count_ok h.h149 e2.1.1 ?_
        cases q1 with
        | int i => simp only [intD]; walk_at "w"; exact q
        | _ => simp only [intD]; walk_at "w"; exact q
    · rw [lstOf_sq]
      rw [step_cases] at q
      obtain ⟨r0, hr0⟩ : ∃ r0, ks[0]? = some r0 := ⟨ks[0], List.getElem?_eq_getElem h0⟩
      have eix : atI (ks.map kD) 0 = some (kD r0) := atI_map (i := 0) hr0
      walk_at "w"
      simp only [pk_pre, pk_gg2 h.g11]
      walk_at "w"
      refine ⟨_, _, ⟨rfl, rfl⟩, ?_⟩
      walk_at "w"
      simp only [eix]
      unfold kD
      walk_at "w"
      rw [(hr r0 (List.mem_of_getElem? hr0)).1]
      have e1 := hd.el c1 (by simp)
      have e2 := hd.el m1 (by simp)
      refine are_cells_ok (k := k + 1) h.h149 h.h150 h.h153 e1.1 (fun xs hx => (e1.2.1 xs hx).1) hw ?_
      cases ht : cellsD w c1 with
      | false => rw [ht] at q; walk_at "w"; exact q
      | true =>
        rw [ht, Bool.true_and] at q
        walk_at "w"
        refine is_count_ok h.h149 e2.1.1 ?_
        walk_at "w"
        exact q
theorem formed_ok {k t : Nat} {d : D} {S : Sto} {Q : Rt → Sto → Prop} (hP : P 167 = some l_formed) (hd : StOk t d) (q : Q (.val (.bl (formD d))) S) : wF (runF P G (k + 1)) 167 [d] S Q := by
  refine wF_of hP rfl ?_
  have ask := hd.1
  unfold l_formed
  rcases lst_cases d with ⟨k2, xs, rfl⟩ | hnone
  · have ty : (tyD (sqD k2 xs) Ty.list || tyD (sqD k2 xs) Ty.tuple) = true := by cases k2 <;> rfl
    walk_at "w"
    rw [ty]
    walk_at "w"
    cases xs with
    | nil => rw [formD_nostr (fun _ _ z => by cases z)] at q; walk_at "w"; exact q
    | cons x0 r =>
      rw [if_neg (show ¬ (((x0 :: r).length : Nat) : Int) = 0 by rw [List.length_cons]; omega)]
      walk_at "w"
      have ha := (hd.el x0 List.mem_cons_self).1.1
      cases x0 with
      | scr _ => cases ha
      | ref _ => cases ha
      | dct _ _ => cases ha
      | non => rw [formD_nostr (fun _ _ z => by cases z)] at q; walk_at "w"; exact q
      | bl b => rw [formD_nostr (fun _ _ z => by cases z)] at q; walk_at "w"; exact q
      | int i => rw [formD_nostr (fun _ _ z => by cases z)] at q; walk_at "w"; exact q
      | tup ds => rw [formD_nostr (fun _ _ z => by cases z)] at q; walk_at "w"; exact q
      | lst ds => rw [formD_nostr (fun _ _ z => by cases z)] at q; walk_at "w"; exact q
      | str s =>
        walk_at "w"
        have nd : ([Sum.inr (Str.ofString "sum"), Sum.inr (Str.ofString "whole"), Sum.inr (Str.ofString "cases")] : List Key).Nodup := by decide
        refine ⟨nd, _, _, ⟨rfl, rfl⟩, ?_⟩
        rw [formD_sq] at q
        by_cases h1 : s = "sum"
        · subst h1
          rw [if_pos rfl] at q
          walk_at "w"
          rw [show decide ((((r.length + 1 : Nat) : Int) = 2)) = decide (r.length = 1) by rw [decide_eq_decide]; omega]
          exact q
        · rw [if_neg h1] at q
          by_cases h2 : s = "whole"
          · subst h2
            rw [if_pos rfl] at q
            walk_at "w"
            rw [show decide ((((r.length + 1 : Nat) : Int) = 4)) = decide (r.length = 3) by rw [decide_eq_decide]; omega]
            exact q
          · rw [if_neg h2] at q
            by_cases h3 : s = "cases"
            · subst h3
              rw [if_pos rfl] at q
              walk_at "w"
              rw [show decide ((((r.length + 1 : Nat) : Int) = 5)) = decide (r.length = 4) by rw [decide_eq_decide]; omega]
              exact q
            · rw [if_neg h3] at q
              rw [if_neg (Ne.symm h1), if_neg (Ne.symm h2), if_neg (Ne.symm h3)]
              walk_at "w"
              try rw [decide_eq_false (show ¬ (((r.length + 1 : Nat) : Int) = -1) by omega)]
              exact q
  · have hf : formD d = false := by unfold formD; rw [hnone]
    rw [hf] at q
    cases d with
    | tup xs => cases hnone
    | lst xs => cases hnone
    | non => walk_at "w"; exact q
    | bl b => walk_at "w"; exact q
    | int i => walk_at "w"; exact q
    | str s => walk_at "w"; exact q
    | scr _ => cases ask
    | ref _ => cases ask
    | dct _ _ => cases ask

theorem tims_of {n : Nat} {d : D} (h : timsD n d = true) : ∃ (k : Kd) (ts : List Int), d = sqD k (ts.map .int) ∧ intsOf d = ts ∧ ts.length = n := by
  unfold timsD at h
  cases e : lstOf d with
  | none => rw [e] at h; cases h
  | some xs =>
    rw [e] at h
    rw [Bool.and_eq_true, decide_eq_true_eq] at h
    obtain ⟨ts, rfl, _⟩ := times_of h.2
    have hi : intsOf d = ts := by unfold intsOf; rw [e, Option.getD_some, dInts_map]
    rw [List.length_map] at h
    cases d with
    | tup ys => cases e; exact ⟨.t, ts, rfl, hi, h.1⟩
    | lst ys => cases e; exact ⟨.l, ts, rfl, hi, h.1⟩
    | _ => cases e
theorem cells_of2 {w : Nat} {d : D} (h : cellsD w d = true) : ∃ (k : Kd) (ts : List Int), d = sqD k (ts.map .int) ∧ intsOf d = ts := by
  unfold cellsD at h
  cases e : lstOf d with
  | none => rw [e] at h; cases h
  | some xs =>
    rw [e] at h
    rw [Bool.and_eq_true, Bool.and_eq_true] at h
    obtain ⟨ts, rfl, _⟩ := cells_of' h.2.1
    have hi : intsOf d = ts := by unfold intsOf; rw [e, Option.getD_some, dInts_map]
    cases d with
    | tup ys => cases e; exact ⟨.t, ts, rfl, hi⟩
    | lst ys => cases e; exact ⟨.l, ts, rfl, hi⟩
    | _ => cases e
theorem anyI {xs : List Int} : (xs.map fun x => D.bl (decide (0 < x))) = (xs.map fun x => decide (0 < x)).map .bl := by rw [List.map_map]; rfl
theorem goes_by_ok {k w b t : Nat} {ks : List KRow} {d : D} {S : Sto} {Q : Rt → Sto → Prop} (h : PapL P) (hd : StOk t d) (hf : formD d = true) (hw0 : 0 < w) (hw : w < 64) (h0 : 0 < ks.length) (hl : ks.length ≤ 1000) (hbt : t + b < 1000000) (hr : ∀ r, r ∈ ks → RowB w b r.1) (q : Q (.val (.bl (stepD w (rsK ks) d))) S) : wF (runF P G (k + 3)) 168 [.lst (ks.map kD), d] S Q := by
  refine wF_of h.h168 rfl ?_
  unfold l_goes_by
  obtain ⟨r0, hr0⟩ : ∃ r0, ks[0]? = some r0 := ⟨ks[0], List.getElem?_eq_getElem h0⟩
  have eix : atI (ks.map kD) 0 = some (kD r0) := atI_map (i := 0) hr0
  have hrl : ∀ r, r ∈ ks → r.1.1.length = w := fun r h => (hr r h).1
  have hrl' : ∀ r, r ∈ rsK ks → r.1.length = w := fun r h => by
    obtain ⟨k, hk, rfl⟩ := List.mem_map.mp h
    exact hrl k hk
  obtain ⟨k2, ⟨t1, rfl⟩ | ⟨t1, q1, n1, rfl⟩ | ⟨c1, m1, n1, n2, rfl⟩⟩ := form_cases hf
  · rw [step_sum] at q
    walk_at "w"
    have e1 := hd.el t1 (by simp)
    refine l_are_times_ok (k := k) h.h121 h.h165 e1.1 (fun xs hx => Nat.le_trans (e1.2.1 xs hx).1 (by decide)) ?_
    unfold showsD at q
    rw [rsK_len] at q
    cases ht : timsD ks.length t1 with
    | false => rw [ht, Bool.false_and] at q; walk_at "w"; exact q
    | true =>
      rw [ht, Bool.true_and] at q
      walk_at "w"
      obtain ⟨k3, ts, rfl, hi, htl⟩ := tims_of ht
      have htb : ∀ i, i ∈ ts → Bd t i := fun i hi => (e1.2.1 _ lstOf_sq).2 i (List.mem_map_of_mem hi)
      rw [show dInts ((lstOf (sqD k3 (ts.map .int))).getD []) = ts from hi] at q
      refine l_sum_ok (k := k + 1) (k1 := .l) h.h162 (by omega) h0 hl hrl (fun p hp => ?_) ?_
      · have h1 := hr p.1 (List.of_mem_zip hp).1
        have h2 := htb p.2 (List.of_mem_zip hp).2
        exact ⟨h2.mulok h1.2.2 hbt, fun x hx => h2.mulok (h1.2.1 x hx) hbt⟩
      · have f1 := sumRows_len (ts := ts) hrl'
        have f2 := sumRows_snd (w := w) (rs := rsK ks) (ts := ts)
        have f3 : ∀ c, c < w → (sumRows w ((rsK ks).zip ts)).1[c]? = some (csum (rsK ks) ts c) := fun c hc => sumRows_fst hrl' hc
        generalize sumRows w ((rsK ks).zip ts) = f at f1 f2 f3
        unfold shows at q
        rw [← f2, ← all_range (p := fun x => decide (x ≤ 0)) f1 _ f3] at q
        unfold dRow
        walk_at "w"
        by_cases hp : 0 < f.2
        · rw [if_pos hp]
          rw [decide_eq_true hp, Bool.true_and] at q
          try simp only [wipeR]
          refine wL_map (fun x : Int => .bl (decide (0 < x))) (fun x hx => ?_) ?_
          · unfold wTn
            walk_at "w"
          · refine ⟨by walk_at "sz", ?_⟩
            rw [anyI, bi_anym, List.any_map]
            walk_at "w"
            rw [show (!(f.1.any (id ∘ fun x => decide (0 < x)))) = f.1.all (fun x => decide (x ≤ 0)) by
              rw [Bool.eq_iff_iff, List.all_eq_true, Bool.not_eq_true', List.any_eq_false]
              exact ⟨fun z x hx => decide_eq_true (by have : ¬ (decide (0 < x) = true) := z x hx; rw [decide_eq_true_eq] at this; omega), fun z x hx => by
                have := of_decide_eq_true (z x hx)
                show ¬ (decide (0 < x) = true)
                rw [decide_eq_true_eq]; omega⟩]
            exact q
        · rw [if_neg hp]
          rw [decide_eq_false hp, Bool.false_and] at q
          exact q
  · rw [step_whole, rsK_len] at q
    walk_at "w"
    have e1 := hd.el t1 (by simp)
    have e2 := hd.el q1 (by simp)
    refine l_are_times_ok (k := k) h.h121 h.h165 e1.1 (fun xs hx => Nat.le_trans (e1.2.1 xs hx).1 (by decide)) ?_
    cases ht : timsD ks.length t1 with
    | false => rw [ht, Bool.false_and] at q; walk_at "w"; exact q
    | true =>
      rw [ht, Bool.true_and] at q
      walk_at "w"
      refine is_num_ok h.h121 e2.1.1 ?_
      cases q1 with
      | int i => simp only [intD]; walk_at "w"; exact q
      | _ => simp only [intD]; walk_at "w"; exact q
  · rw [step_cases] at q
    walk_at "w"
    simp only [eix]
    unfold kD
    walk_at "w"
    rw [(hr r0 (List.mem_of_getElem? hr0)).1]
    have e1 := hd.el c1 (by simp)
    have e2 := hd.el m1 (by simp)
    refine l_are_cells_ok (k := k) h.h121 h.h166 e1.1 (fun xs hx => (e1.2.1 xs hx).1) ?_
    cases ht : cellsD w c1 with
    | false => rw [ht, Bool.false_and] at q; walk_at "w"; exact q
    | true =>
      rw [ht, Bool.true_and] at q
      walk_at "w"
      refine is_num_ok h.h121 e2.1.1 ?_
      walk_at "w"
      exact q
theorem divok_b {t : Nat} {i : Int} (h : Bd t i) (ht : t < 9000) (h0 : 1 ≤ i) : DivOk i := .inr ⟨by omega, by have := h.log; omega⟩

def behL (ks : List KRow) (rs : List Row) : List D := rs.map fun r => .lst ((ks ++ [ofR r]).map kD)
theorem csum_b {w b t : Nat} {rs : List Row} {ts : List Int} (hr : ∀ r, r ∈ rs → RowB w b r) (ht : ∀ i, i ∈ ts → Bd t i) (hl : rs.length < 1024) : RowB w (t + b + 10) (sumRows w (rs.zip ts)) := by
  have hrl' : ∀ r, r ∈ rs → r.1.length = w := fun r h => (hr r h).1
  have zl : ∀ {α : Type} (g : Row × Int → α), ((rs.zip ts).map g).length < 2 ^ 10 := fun g => by
    rw [List.length_map, List.length_zip]
    show min rs.length ts.length < 1024
    omega
  refine ⟨sumRows_len hrl', fun x hx => ?_, ?_⟩
  · obtain ⟨c, hc⟩ := List.mem_iff_getElem?.mp hx
    have hcw : c < w := by
      have := (List.getElem?_eq_some_iff.mp hc).1
      rwa [sumRows_len hrl'] at this
    rw [sumRows_fst hrl' hcw] at hc
    rw [← Option.some.inj hc]
    refine Bd.sum' (fun y hy => ?_) (zl _)
    obtain ⟨p, hp, rfl⟩ := List.mem_map.mp hy
    have h1 := hr p.1 (List.of_mem_zip hp).1
    refine (ht p.2 (List.of_mem_zip hp).2).mul (h1.2.1 _ ?_)
    rw [List.getD_eq_getElem?_getD, List.getElem?_eq_getElem (by rw [h1.1]; exact hcw)]
    exact List.getElem_mem _
  · rw [sumRows_snd]
    refine Bd.sum' (fun y hy => ?_) (zl _)
    obtain ⟨p, hp, rfl⟩ := List.mem_map.mp hy
    exact (ht p.2 (List.of_mem_zip hp).2).mul (hr p.1 (List.of_mem_zip hp).1).2.2
theorem beh_sum {w : Nat} {rs : List Row} {k : Kd} {t : D} : behD w rs (sqD k [.str "sum", t]) = [] := by unfold behD; rw [lstOf_sq]
theorem beh_whole {w : Nat} {rs : List Row} {k : Kd} {s t q n : D} : behD w rs (sqD k [s, t, q, n]) = [wholeR (sumRows w (rs.zip (intsOf t))) (igetD q)] := by unfold behD; rw [lstOf_sq]
theorem beh_cases {w : Nat} {rs : List Row} {k : Kd} {s c m n1 n2 : D} : behD w rs (sqD k [s, c, m, n1, n2]) = [mostR w (intsOf c) (igetD m), leastR w (intsOf c) (igetD m + 1)] := by unfold behD; rw [lstOf_sq]

theorem beh_b {w b t : Nat} {rs : List Row} {d : D} (hr : ∀ r, r ∈ rs → RowB w b r) (hd : StOk t d) (hs : stepD w rs d = true) (hl : rs.length < 1024) : ∀ r, r ∈ behD w rs d → RowB w (t + b + 10) r := by
  intro r hm
  obtain ⟨k2, ⟨t1, rfl⟩ | ⟨t1, q1, n1, rfl⟩ | ⟨c1, m1, n1, n2, rfl⟩⟩ := form_cases (step_form hs)
  · rw [beh_sum] at hm; cases hm
  · rw [beh_whole] at hm
    rw [step_whole, Bool.and_eq_true] at hs
    obtain ⟨k3, ts, rfl, hi, htl⟩ := tims_of hs.1
    have e1 := hd.el (sqD k3 (ts.map .int)) (by simp)
    rw [List.mem_singleton.mp hm, hi]
    refine (csum_b hr (fun i hi => (e1.2.1 _ lstOf_sq).2 i (List.mem_map_of_mem hi)) hl).whole ?_
    cases q1 with
    | int i => have := of_decide_eq_true hs.2; show (0 : Int) < i; omega
    | _ => cases hs.2
  · rw [beh_cases] at hm
    rw [step_cases, Bool.and_eq_true] at hs
    cases m1 with
    | int i =>
      have hb : Bd t i := (hd.el (.int i) (by simp)).2.2 i rfl
      have h1 : Bd (t + b + 10) i := hb.mono (by omega)
      have h2 : Bd (t + b + 10) (i + 1) := by
        refine Bd.mono (b := t + 1) ?_ (by omega)
        unfold Bd at *
        have : (1 : Nat) ≤ 2 ^ t := Nat.one_le_two_pow
        rw [Nat.pow_succ]
        omega
      simp only [List.mem_cons, List.not_mem_nil, or_false] at hm
      rcases hm with rfl | rfl
      · exact mostR_b h1 (by omega)
      · exact leastR_b h2 (by omega)
    | _ => cases hs.2
theorem rows_behind_ok {k w b t : Nat} {ks : List KRow} {d : D} {S : Sto} {Q : Rt → Sto → Prop} (h : PapF P G) (hd : StOk t d) (hs : stepD w (rsK ks) d = true) (ht9 : t < 9000) (hw : w < 64) (h0 : 0 < ks.length) (hl : ks.length ≤ 1000) (hbt : t + b < 1000000) (hr : ∀ r, r ∈ ks → RowB w b r.1) (q : Q (.own (behL ks (behD w (rsK ks) d))) S) : wF (runF P G (k + 3)) 156 [.lst (ks.map kD), d] S Q := by
  refine wF_of h.h156 rfl ?_
  unfold p_rows_behind
  have hrl : ∀ r, r ∈ ks → r.1.1.length = w := fun r h => (hr r h).1
  obtain ⟨r0, hr0⟩ : ∃ r0, ks[0]? = some r0 := ⟨ks[0], List.getElem?_eq_getElem h0⟩
  have eix : atI (ks.map kD) 0 = some (kD r0) := atI_map (i := 0) hr0
  obtain ⟨k2, ⟨t1, rfl⟩ | ⟨t1, q1, n1, rfl⟩ | ⟨c1, m1, n1, n2, rfl⟩⟩ := form_cases (step_form hs)
  · rw [beh_sum] at q
    walk_at "w"
    exact q
  · rw [beh_whole] at q
    rw [step_whole, Bool.and_eq_true] at hs
    obtain ⟨k3, ts, rfl, hi, htl⟩ := tims_of hs.1
    have e1 := hd.el (sqD k3 (ts.map .int)) (by simp)
    have htb : ∀ i, i ∈ ts → Bd t i := fun i hi => (e1.2.1 _ lstOf_sq).2 i (List.mem_map_of_mem hi)
    have e2 := (hd.el q1 (by simp)).2.2
    rw [hi] at q
    cases q1 with
    | int i =>
      have hi1 : 1 ≤ i := of_decide_eq_true hs.2
      walk_at "w"
      refine sum_of_k (k := k + 1) (k1 := .l) (w := w) h.h25 (by omega) h0 hrl (fun p hp => ?_) ?_
      · have h1 := hr p.1 (List.of_mem_zip hp).1
        have h2 := htb p.2 (List.of_mem_zip hp).2
        exact ⟨h2.mulok h1.2.2 hbt, fun x hx => h2.mulok (h1.2.1 x hx) hbt⟩
      · walk_at "w"
        refine whole_row_ok (k := k) h.h36 h.h37 ?_ (divok_b (e2 i rfl) ht9 hi1) ?_
        · rw [sumRows_len (fun r h => by obtain ⟨k, hk, rfl⟩ := List.mem_map.mp h; exact hrl k hk)]; omega
        · walk_at "w"
          refine ⟨by walk_at "sz", ?_⟩
          unfold behL at q
          rw [List.map_cons, List.map_nil, List.map_append] at q
          exact q
    | _ => cases hs.2
  · rw [beh_cases] at q
    rw [step_cases, Bool.and_eq_true] at hs
    obtain ⟨k3, ts, rfl, hi⟩ := cells_of2 hs.1
    rw [hi] at q
    cases m1 with
    | int i =>
      walk_at "w"
      simp only [eix]
      unfold kD
      walk_at "w"
      rw [hrl r0 (List.mem_of_getElem? hr0)]
      refine most_ok (k := k + 1) h.h151 (by omega) ?_
      walk_at "w"
      refine ⟨by walk_at "sz", ?_⟩
      refine least_ok (k := k + 1) h.h152 (by omega) ?_
      walk_at "w"
      refine ⟨by walk_at "sz", ?_⟩
      unfold behL at q
      rw [List.map_cons, List.map_cons, List.map_nil, List.map_append, List.map_append] at q
      exact q
    | _ => cases hs.2
theorem put_behind_ok {k w b t : Nat} {ks : List KRow} {d : D} {S : Sto} {Q : Rt → Sto → Prop} (h : PapL P) (hd : StOk t d) (hs : stepD w (rsK ks) d = true) (ht9 : t < 9000) (hw : w < 64) (h0 : 0 < ks.length) (hl : ks.length ≤ 1000) (hbt : t + b + 10 + t < 1000000) (hr : ∀ r, r ∈ ks → RowB w b r.1) (q : Q (.own (behL ks (behD w (rsK ks) d))) S) : wF (runF P G (k + 3)) 169 [.lst (ks.map kD), d] S Q := by
  refine wF_of h.h169 rfl ?_
  unfold l_put_behind
  have hrl : ∀ r, r ∈ ks → r.1.1.length = w := fun r h => (hr r h).1
  have hrl' : ∀ r, r ∈ rsK ks → RowB w b r := fun r h => by
    obtain ⟨k, hk, rfl⟩ := List.mem_map.mp h
    exact hr k hk
  obtain ⟨r0, hr0⟩ : ∃ r0, ks[0]? = some r0 := ⟨ks[0], List.getElem?_eq_getElem h0⟩
  have eix : atI (ks.map kD) 0 = some (kD r0) := atI_map (i := 0) hr0
  obtain ⟨k2, ⟨t1, rfl⟩ | ⟨t1, q1, n1, rfl⟩ | ⟨c1, m1, n1, n2, rfl⟩⟩ := form_cases (step_form hs)
  · rw [beh_sum] at q
    walk_at "w"
    exact q
  · rw [beh_whole] at q
    rw [step_whole, Bool.and_eq_true] at hs
    obtain ⟨k3, ts, rfl, hi, htl⟩ := tims_of hs.1
    have e1 := hd.el (sqD k3 (ts.map .int)) (by simp)
    have htb : ∀ i, i ∈ ts → Bd t i := fun i hi => (e1.2.1 _ lstOf_sq).2 i (List.mem_map_of_mem hi)
    have e2 := (hd.el q1 (by simp)).2.2
    rw [hi] at q
    cases q1 with
    | int i =>
      have hi1 : 1 ≤ i := of_decide_eq_true hs.2
      walk_at "w"
      refine l_sum_ok (k := k + 1) (k1 := .l) (w := w) h.h162 (by omega) h0 hl hrl (fun p hp => ?_) ?_
      · have h1 := hr p.1 (List.of_mem_zip hp).1
        have h2 := htb p.2 (List.of_mem_zip hp).2
        exact ⟨h2.mulok h1.2.2 (by omega), fun x hx => h2.mulok (h1.2.1 x hx) (by omega)⟩
      · walk_at "w"
        have hb := csum_b hrl' htb (by rw [rsK_len]; omega)
        refine whole_ok (k := k) h.h40 h.h41 (by rw [hb.1]; omega) hb (divok_b (e2 i rfl) ht9 hi1) (e2 i rfl) hbt ?_
        walk_at "w"
        refine ⟨by walk_at "sz", ?_⟩
        unfold behL at q
        rw [List.map_cons, List.map_nil, List.map_append] at q
        exact q
    | _ => cases hs.2
  · rw [beh_cases] at q
    rw [step_cases, Bool.and_eq_true] at hs
    obtain ⟨k3, ts, rfl, hi⟩ := cells_of2 hs.1
    rw [hi] at q
    cases m1 with
    | int i =>
      walk_at "w"
      simp only [eix]
      unfold kD
      walk_at "w"
      rw [hrl r0 (List.mem_of_getElem? hr0)]
      refine case_rows_ok (k := k + 1) h.h163 (by omega) ?_
      walk_at "w"
      try simp only [wipeR]
      rw [show [dRow (mostR w ts i), dRow (leastR w ts (i + 1))] = [mostR w ts i, leastR w ts (i + 1)].map dRow from rfl]
      refine wL_map (fun r : Row => .lst ((ks ++ [ofR r]).map kD)) (fun r hrm => ?_) ?_
      · unfold wTn
        walk_at "w"
        refine ⟨by walk_at "sz", ?_⟩
        rw [List.map_append]; rfl
      · exact ⟨show 2 ≤ 16777216 by decide, q⟩
    | _ => cases hs.2
theorem named_by_ok {k t : Nat} {d : D} {S : Sto} {Q : Rt → Sto → Prop} (h : PapF P G) (hf : formD d = true) (q : Q (.own (namesD d)) S) : wF (runF P G (k + 1)) 155 [d] S Q := by
  refine wF_of h.h155 rfl ?_
  unfold p_named_by
  obtain ⟨k2, ⟨t1, rfl⟩ | ⟨t1, q1, n1, rfl⟩ | ⟨c1, m1, n1, n2, rfl⟩⟩ := form_cases hf
  all_goals
    unfold namesD at q
    rw [lstOf_sq] at q
    cases k2 <;> (simp only [sqD]; walk_at "w"; exact q)
end
end Mi.Lw
end
section
namespace Mi.Lw
open PySem L2

abbrev Kn := Int → Option (List KRow)
def putK (K : Kn) : List Int → List (List KRow) → Kn
  | j :: js, r :: rs => putK (fun i => if i = j then some r else K i) js rs
  | _, _ => K
def nextK (w : Nat) (ks : List KRow) (s : D) : List (List KRow) := (behD w (rsK ks) s).map fun r => ks ++ [ofR r]
def nmI (s : D) : List Int := dInts (namesD s)

def okN (n i : Nat) (K : Kn) : D → Bool
  | .int j => decide ((i : Int) < j) && (decide (j < n) && (K j).isNone)
  | _ => false
def runP (w n : Nat) : Nat → Kn → List D → Bool
  | _, _, [] => true
  | i, K, s :: ss => match K i with
    | none => false
    | some ks => stepD w (rsK ks) s && ((namesD s).all (okN n i K) && (decide (nmI s).Nodup && runP w n (i + 1) (putK K (nmI s) (nextK w ks s)) ss))

def gtN (i : Nat) : D → Bool
  | .int j => decide ((i : Int) < j)
  | _ => false
def gtA : Nat → List D → Bool
  | _, [] => true
  | i, s :: ss => (namesD s).all (gtN i) && gtA (i + 1) ss
def allN (ss : List D) : List Int := ss.flatMap nmI
def runQ (w : Nat) : Nat → Kn → List D → Bool
  | _, _, [] => true
  | i, K, s :: ss => match K i with
    | none => false
    | some ks => stepD w (rsK ks) s && runQ w (i + 1) (putK K (nmI s) (nextK w ks s)) ss
def rngI (n : Nat) : List Int := (List.range (n - 1)).map fun c : Nat => (c : Int) + 1
def preP (ss : List D) : Bool := ss.all formD && (gtA 0 ss && decide (sortI (allN ss) = rngI ss.length))
theorem putK_dom {x : Int} : ∀ (js : List Int) (rs : List (List KRow)) (K : Kn), js.length = rs.length → ((putK K js rs x).isSome = true ↔ x ∈ js ∨ (K x).isSome = true)
  | [], [], K, _ => by simp [putK]
  | j :: js, r :: rs, K, h => by
    unfold putK
    rw [putK_dom js rs _ (by simpa using h), List.mem_cons]
    by_cases e : x = j
    · simp [e]
    · simp [e]
  | [], _ :: _, _, h => by simp at h
  | _ :: _, [], _, h => by simp at h
theorem names_len {w : Nat} {ks : List KRow} {s : D} (h : stepD w (rsK ks) s = true) : (namesD s).length = (nextK w ks s).length := by
  unfold nextK
  rw [List.length_map]
  obtain ⟨k2, ⟨t1, rfl⟩ | ⟨t1, q1, n1, rfl⟩ | ⟨c1, m1, n1, n2, rfl⟩⟩ := form_cases (step_form h)
  · rw [beh_sum]; unfold namesD; rw [lstOf_sq]; rfl
  · rw [beh_whole]; unfold namesD; rw [lstOf_sq]; rfl
  · rw [beh_cases]; unfold namesD; rw [lstOf_sq]; rfl

theorem ints_of {p : D → Bool} (hp : ∀ d, p d = true → ∃ i, d = .int i) : ∀ {xs : List D}, xs.all p = true → xs = (dInts xs).map .int
  | [], _ => rfl
  | x :: xs, h => by
    rw [List.all_cons, Bool.and_eq_true] at h
    obtain ⟨i, rfl⟩ := hp x h.1
    show D.int i :: xs = D.int i :: (dInts xs).map .int
    rw [← ints_of hp h.2]
theorem okN_int {n i : Nat} {K : Kn} {d : D} (h : okN n i K d = true) : ∃ j, d = .int j := by
  cases d with
  | int j => exact ⟨j, rfl⟩
  | _ => cases h
theorem gtN_int {i : Nat} {d : D} (h : gtN i d = true) : ∃ j, d = .int j := by
  cases d with
  | int j => exact ⟨j, rfl⟩
  | _ => cases h
theorem nmI_len {s : D} (h : namesD s = (nmI s).map .int) : (nmI s).length = (namesD s).length := by rw [h, List.length_map]

theorem runP_true {w n : Nat} : ∀ (ss : List D) (i : Nat) (K : Kn), runP w n i K ss = true → i + ss.length = n →
    ss.all formD = true ∧ gtA i ss = true ∧ (allN ss).Nodup ∧ (∀ x, x ∈ allN ss → (i : Int) < x ∧ x < n ∧ K x = none) ∧ (∀ x : Int, (i : Int) ≤ x → x < n → x ∈ allN ss ∨ (K x).isSome = true) ∧ runQ w i K ss = true
  | [], i, K, _, hn => ⟨rfl, rfl, List.nodup_nil, (fun x z => by cases (show x ∈ ([] : List Int) from z)), (fun x h1 h2 => by simp at hn; omega), rfl⟩
  | s :: ss, i, K, h, hn => by
    unfold runP at h
    cases hK : K i with
    | none => rw [hK] at h; cases h
    | some ks =>
      rw [hK] at h
      dsimp only at h
      rw [Bool.and_eq_true, Bool.and_eq_true, Bool.and_eq_true, decide_eq_true_eq] at h
      obtain ⟨h1, h2, h3, h4⟩ := h
      have hn' : i + 1 + ss.length = n := by rw [List.length_cons] at hn; omega
      obtain ⟨a1, a2, a3, a4, a5, a6⟩ := runP_true ss (i + 1) _ h4 hn'
      have hi := ints_of (fun d => okN_int) h2
      have hlen : (nmI s).length = (nextK w ks s).length := by rw [nmI_len hi, names_len h1]
      have ok : ∀ x, x ∈ nmI s → (i : Int) < x ∧ x < n ∧ K x = none := fun x hx => by
        have := List.all_eq_true.mp h2 (.int x) (by rw [hi]; exact List.mem_map_of_mem hx)
        unfold okN at this
        rw [Bool.and_eq_true, Bool.and_eq_true, decide_eq_true_eq, decide_eq_true_eq, Option.isNone_iff_eq_none] at this
        exact this
      refine ⟨?_, ?_, ?_, ?_, ?_, ?_⟩
      · rw [List.all_cons, step_form h1, a1]; rfl
      · unfold gtA
        rw [a2, Bool.and_true, List.all_eq_true]
        intro d hd
        rw [hi] at hd
        obtain ⟨x, hx, rfl⟩ := List.mem_map.mp hd
        exact decide_eq_true (ok x hx).1
      · show (nmI s ++ allN ss).Nodup
        rw [List.nodup_append]
        refine ⟨h3, a3, fun x hx y hy e => ?_⟩
        subst e
        have := (a4 x hy).2.2
        have d := (putK_dom (x := x) (nmI s) (nextK w ks s) K hlen).mpr (.inl hx)
        rw [this] at d; cases d
      · intro x hx
        rcases List.mem_append.mp (show x ∈ nmI s ++ allN ss from hx) with hx | hx
        · exact ok x hx
        · have := a4 x hx
          refine ⟨by omega, this.2.1, ?_⟩
          cases e : K x with
          | none => rfl
          | some r =>
            have d := (putK_dom (x := x) (nmI s) (nextK w ks s) K hlen).mpr (.inr (by rw [e]; rfl))
            rw [this.2.2] at d; cases d
      · intro x hx1 hx2
        show x ∈ nmI s ++ allN ss ∨ _
        by_cases e : x = i
        · subst e; exact .inr (by rw [hK]; rfl)
        · rcases a5 x (by omega) hx2 with z | z
          · exact .inl (List.mem_append_right _ z)
          · rcases (putK_dom (x := x) (nmI s) (nextK w ks s) K hlen).mp z with z | z
            · exact .inl (List.mem_append_left _ z)
            · exact .inr z
      · unfold runQ
        rw [hK]
        show (stepD w (rsK ks) s && _) = true
        rw [h1, a6]; rfl

theorem runQ_true {w n : Nat} : ∀ (ss : List D) (i : Nat) (K : Kn), runQ w i K ss = true → gtA i ss = true → (allN ss).Nodup → (∀ x, x ∈ allN ss → x < n ∧ K x = none) → runP w n i K ss = true
  | [], _, _, _, _, _, _ => rfl
  | s :: ss, i, K, h, hg, hnd, hx => by
    unfold runQ at h
    unfold runP
    cases hK : K i with
    | none => rw [hK] at h; cases h
    | some ks =>
      rw [hK] at h
      dsimp only at h ⊢
      rw [Bool.and_eq_true] at h
      unfold gtA at hg
      rw [Bool.and_eq_true] at hg
      have hi := ints_of (fun d => gtN_int) hg.1
      have hlen : (nmI s).length = (nextK w ks s).length := by rw [nmI_len hi, names_len h.1]
      have hnd : (nmI s ++ allN ss).Nodup := hnd
      rw [List.nodup_append] at hnd
      have hx : ∀ x, x ∈ nmI s ++ allN ss → x < n ∧ K x = none := hx
      rw [h.1, runQ_true ss (i + 1) _ h.2 hg.2 hnd.2.1 fun x hxm => ?_, decide_eq_true hnd.1]
      · rw [Bool.true_and, Bool.true_and, Bool.and_true, List.all_eq_true]
        intro d hd
        have hd' := hd
        rw [hi] at hd
        obtain ⟨x, hxm, rfl⟩ := List.mem_map.mp hd
        have := hx x (List.mem_append_left _ hxm)
        unfold okN
        rw [Bool.and_eq_true, Bool.and_eq_true, decide_eq_true_eq, decide_eq_true_eq, Option.isNone_iff_eq_none]
        exact ⟨of_decide_eq_true (List.all_eq_true.mp hg.1 _ hd'), this⟩
      · have hh := hx x (List.mem_append_right _ hxm)
        refine ⟨hh.1, ?_⟩
        cases e : putK K (nmI s) (nextK w ks s) x with
        | none => rfl
        | some r =>
          have := (putK_dom (x := x) (nmI s) (nextK w ks s) K hlen).mp (by rw [e]; rfl)
          rcases this with z | z
          · exact absurd rfl (hnd.2.2 x z x hxm)
          · rw [hh.2] at z; cases z
theorem rngI_mem {n : Nat} {x : Int} : x ∈ rngI n ↔ 1 ≤ x ∧ x < n := by
  unfold rngI
  rw [List.mem_map]
  constructor
  · rintro ⟨c, hc, rfl⟩
    have := List.mem_range.mp hc
    omega
  · intro h
    exact ⟨(x - 1).toNat, List.mem_range.mpr (by omega), by omega⟩
theorem rngI_sorted (n : Nat) : (rngI n).Pairwise (· < ·) := by
  unfold rngI
  rw [List.pairwise_map]
  exact List.Pairwise.imp (fun h => by omega) List.pairwise_lt_range

theorem paper_law {w : Nat} {ss : List D} {rs : List KRow} : runP w ss.length 0 (fun i => if i = 0 then some rs else none) ss = (preP ss && runQ w 0 (fun i => if i = 0 then some rs else none) ss) := by
  rw [Bool.eq_iff_iff, Bool.and_eq_true]
  constructor
  · intro h
    obtain ⟨a1, a2, a3, a4, a5, a6⟩ := runP_true ss 0 _ h (Nat.zero_add _)
    refine ⟨?_, a6⟩
    unfold preP
    rw [a1, a2, Bool.true_and, Bool.true_and, decide_eq_true_eq]
    have pm : (allN ss).Perm (rngI ss.length) := len_of_mem a3 (lt_nodup (rngI_sorted _)) fun x => by
      rw [rngI_mem]
      constructor
      · intro hx
        have := a4 x hx
        omega
      · intro hx
        rcases a5 x (by omega) hx.2 with z | z
        · exact z
        · rw [if_neg (by omega)] at z; cases z
    exact sorted_one ((sortI_perm _).trans pm) (sortI_sorted _) (lt_le (rngI_sorted _))
  · intro h
    unfold preP at h
    rw [Bool.and_eq_true, Bool.and_eq_true, decide_eq_true_eq] at h
    have pm : (allN ss).Perm (rngI ss.length) := by rw [← h.1.2.2]; exact (sortI_perm _).symm
    refine runQ_true ss 0 _ h.2 h.1.2.1 (pm.nodup_iff.mpr (lt_nodup (rngI_sorted _))) fun x hx => ?_
    have := rngI_mem.mp (pm.mem_iff.mp hx)
    exact ⟨this.2, if_neg (by omega)⟩
end Mi.Lw
end
section
namespace Mi.Lw
open PySem L2
local macro_rules | `(tactic| walk_at "w") => `(tactic| try simp only [wSs_cons, wSs_nil, wS_asg, wS_own, wS_aug, wS_app, wS_ext, exV_o, exV_t, wS_rev, wS_sown, wS_pops, wS_ite, wS_for, wS_ret, wS_reto, wS_expr, wS_frz, wS_par, wS_par3, slOf_f, slOf_fo, slOf_t, frzN_own, frzN_val, retOk_v, retOk_o,
  wE_var, wE_bor, wE_con, wE_glb, wE_bin, wE_cmp, wE_idx, wE_neg, wE_not, wE_and, wE_or, wE_ite, wE_chn, wE_tup, wE_lst, wE_slc, wE_call, wE_callp, lends_nil, lends_v, lends_o, lends_b, wE_bi, wE_comp, wE_new, newC_own, newC_ownd, wE_o1, wE_o2, wE_o3, wE_dct, wE_dgt, wE_din, wEs_nil, wEs_cons, wRs_nil, wRs_cons, wO_no, wO_yes, wC_no, wC_yes,
  wI_rng1, wI_rng2, wI_seq, wI_enm, wI_zip2, wT_nm, wT_sub, wT_tp, wTs_nil, wTs_cons,
  List.map_cons, List.map_nil, List.cons_append, List.nil_append, List.replicate_succ, List.replicate_zero, List.getElem?_cons_zero, List.getElem?_cons_succ, List.set_cons_zero, List.set_cons_succ, List.length_cons, List.length_nil, Nat.reduceSub, Nat.reduceAdd, Nat.reduceLT, Nat.reduceLeDiff, Nat.reduceEqDiff,
  Option.some.injEq, Sl.val.injEq, Sl.own.injEq, Rt.val.injEq, Rt.own.injEq, D.int.injEq, D.bl.injEq, D.ref.injEq, D.tup.injEq, D.lst.injEq, D.str.injEq, exists_eq_left, exists_eq_left', exists_eq_right, exists_eq_right', rd_val, rd_own, rd_ownd, ne_eq, reduceCtorEq, not_false_eq_true, not_true_eq_false, implies_true, true_and, and_true, and_self, false_and, and_false, exists_false, Prod.mk.injEq,
  bin_add, bin_sub, bin_mul', bin_fdiv', bin_mod', bin_pow', bin_shl', rep_own, rep_tup, cat_lo, cat_oo, cat_ll, cat_ol, cat_tt, cat_ss, cat_bo, cat_ob, cat_bl, cat_lb, cmp_int, cmp_intn, cmp_str, cmp_strs, cmp_strsn, ofString_inj, cmp_lt, cmp_le, cmp_gt, cmp_ge, cmp_isn, cmp_isnn, cmp_isb, cmp_isnb, cmp_blne, cmp_bleq, bi_divmod', bi_abs', bi_intb, bi_min2, bi_max2, bi_lenl, bi_lens, bi_lent, bi_leno, bi_lenb, bi_listo, bi_listl, bi_listt, bi_listb, bi_tupo, bi_tupb, bi_tupt, bi_tupl, sl_scr, sl_lst, sl_tup, sl_own, sl_bor, ix_tup, ix_lst, ix_own, ix_bor, atI_0, atI_1, atI_2, String.reduceEq, decide_false, decide_true, decide_eq_true_eq, Bool.false_eq_true, if_false, if_true, reduceIte, Bool.not_false, Bool.not_true, Int.reduceLT, Int.reduceLE, Int.reduceToNat, Int.reduceNeg, Int.reduceAdd, Int.reduceSub, Int.reduceMul, Int.reduceEq, Nat.lt_irrefl, forall_const, size_ok, inRng_ok, still_l, still_t, still_o, still_b, still_sq, ix_sq, bi_lensq, bi_tupsq, bi_listsq, bi_sumo, bi_sumt, bi_sumq, bi_sumf, bi_maxt, bi_mint, bi_maxo, bi_minq, bi_allt, bi_allm, bi_anym, ix_row0, ix_row1, bi_lenrow, List.length_map, Int.cast_ofNat_Int,
  isi1_n, isi_n, isi1_b, isi_b, isi1_i, isi_i, isi1_s, isi_s, isi1_t, isi_t, isi1_l, isi_l, isi1_c, isi_c, isi1_r, isi_r, isi1_q, isi_q, isi_o, bi_isi1o, bi_isi1b, tyD_t, tyD_i, tyD_b, tyD_s, tyD_l, tyD_n, tyD_row, List.any_cons, List.any_nil, Bool.or_false, Bool.or_true, Bool.true_or, Bool.false_or, Bool.and_true, Bool.true_and, Bool.and_false, Bool.false_and, beq_self_eq_true, bne_self_eq_false, beq_true, beq_false, isN,
  p_lrng, p_revl, p_revo, p_revb, p_revt, p_sseto, p_lsetl, p_lsett, p_mxdo, p_premxd, p_predzip, p_lsetb, p_prelrng2, p_lrng2, p_gget, p_gin, p_mx3, p_get, p_presplit, p_prejoin, p_split, dct_o, dct_v, key_i, key_s, valD_cons, valD_nil, Sum.inr.injEq, Sum.inl.injEq, Option.isSome_some, Option.isSome_none, Bool.xor_false, Bool.xor_true, Bool.false_xor, Bool.true_xor, Option.getD_some, Option.getD_none, cmp_notin, in_nil, in_1, in_2, in_3, in_4, in_5, in_6, in_11, in_intsT, in_intsL, in_intsB, Option.map_some, List.all_cons, List.all_nil, flatD_s, flatD_i, divok_s, mulok_ls, mulok_rs])
local macro_rules | `(tactic| walk_at "sz") => `(tactic| (refine Nat.le_trans (m := 10000000) ?_ (show 10000000 ≤ 16777216 by decide); (try simp only [List.length_append, List.length_map, List.length_take, List.length_drop, List.length_cons, List.length_nil, List.length_zip, List.length_reverse, List.length_replicate, List.length_range, rngL_len]); omega))

def DcK (kk : List Key) (dd : List D) (K : Kn) (m : Nat) : Prop := kk.length = dd.length ∧ kk.length ≤ m ∧ ∀ i, valD kk dd (.inl i) = (K i).map fun rs => D.lst (rs.map kD)
theorem valD_set {q x : Key} {v : D} : ∀ (kk : List Key) (dd : List D), kk.length = dd.length → (kk.any fun k => decide (k = q)) = true → valD kk (setD kk dd q v) x = if q = x then some v else valD kk dd x
  | [], _, _, h => by cases h
  | k :: kk, [], h, _ => by simp at h
  | k :: kk, d :: dd, hl, h => by
    unfold setD
    rw [valD_cons, valD_cons]
    by_cases e : k = x
    · rw [if_pos e, if_pos e]
      subst e
      by_cases e2 : k = q
      · subst e2; rw [if_pos rfl, if_pos rfl]
      · rw [if_neg e2, if_neg (Ne.symm e2)]
    · rw [if_neg e, if_neg e]
      by_cases e2 : k = q
      · subst e2
        rw [if_neg e]
        by_cases h3 : (kk.any fun z => decide (z = k)) = true
        · rw [valD_set kk dd (by simpa using hl) h3, if_neg e]
        · clear h
          have : ∀ (kk : List Key) (dd : List D), kk.length = dd.length → ¬ (kk.any fun z => decide (z = k)) = true → setD kk dd k v = dd := fun kk => by
            induction kk with
            | nil => intro dd hl _; cases dd with
              | nil => rfl
              | cons _ _ => simp at hl
            | cons a kk ih =>
              intro dd hl hn
              cases dd with
              | nil => simp at hl
              | cons b dd =>
                rw [List.any_cons, Bool.or_eq_true, not_or] at hn
                unfold setD
                rw [if_neg (by simpa using hn.1), ih dd (by simpa using hl) hn.2]
          rw [this kk dd (by simpa using hl) h3]
      · rw [List.any_cons, Bool.or_eq_true] at h
        refine valD_set kk dd (by simpa using hl) ?_
        rcases h with h | h
        · exact absurd (of_decide_eq_true h) e2
        · exact h
theorem setD_len {q : Key} {v : D} : ∀ (kk : List Key) (dd : List D), kk.length = dd.length → (setD kk dd q v).length = kk.length
  | [], _, _ => by unfold setD; rfl
  | _ :: _, [], h => by simp at h
  | k :: kk, d :: dd, h => by unfold setD; rw [List.length_cons, List.length_cons, setD_len kk dd (by simpa using h)]
theorem valD_app {q x : Key} {v : D} : ∀ (kk : List Key) (dd : List D), kk.length = dd.length → (kk.any fun k => decide (k = q)) = false → valD (kk ++ [q]) (dd ++ [v]) x = if q = x then some v else valD kk dd x
  | [], [], _, _ => by
    show valD [q] [v] x = _
    rw [valD_cons]
  | [], _ :: _, h, _ => by simp at h
  | k :: kk, [], h, _ => by simp at h
  | k :: kk, d :: dd, hl, h => by
    rw [List.any_cons, Bool.or_eq_false_iff] at h
    rw [List.cons_append, List.cons_append, valD_cons, valD_cons, valD_app kk dd (by simpa using hl) h.2]
    by_cases e : k = x
    · subst e
      rw [if_pos rfl, if_pos rfl, if_neg (fun z => by rw [z] at h; simp at h)]
    · rw [if_neg e, if_neg e]
theorem DcK.put {kk : List Key} {dd : List D} {K : Kn} {m : Nat} (h : DcK kk dd K m) (j : Int) (rs : List KRow) : DcK (putD kk dd (.inl j) (.lst (rs.map kD))).1 (putD kk dd (.inl j) (.lst (rs.map kD))).2 (fun i => if i = j then some rs else K i) (m + 1) := by
  obtain ⟨h1, h2, h3⟩ := h
  unfold putD
  have key : ∀ i : Int, (if (Sum.inl j : Key) = .inl i then some (D.lst (rs.map kD)) else valD kk dd (.inl i)) = Option.map (fun rs : List KRow => D.lst (rs.map kD)) (if i = j then some rs else K i) := fun i => by
    by_cases e : i = j
    · subst e; rw [if_pos rfl, if_pos rfl]; rfl
    · rw [if_neg e, if_neg (fun z => e (Sum.inl.inj z).symm), h3]
  split
  · rename_i hh
    exact ⟨by rw [setD_len kk dd h1], Nat.le_succ_of_le h2, fun i => by rw [valD_set kk dd h1 hh, key]⟩
  · rename_i hh
    exact ⟨by rw [List.length_append, List.length_append, h1]; rfl, by rw [List.length_append]; simp; omega, fun i => by rw [valD_app kk dd h1 (Bool.eq_false_iff.mpr hh), key]⟩
theorem putK_snoc (j : Int) (r : List KRow) : ∀ (js : List Int) (rs : List (List KRow)) (K : Kn), js.length = rs.length → putK K (js ++ [j]) (rs ++ [r]) = fun i => if i = j then some r else putK K js rs i
  | [], [], K, _ => rfl
  | [], _ :: _, _, h => by simp at h
  | _ :: _, [], _, h => by simp at h
  | j' :: js, r' :: rs, K, h => by
    show putK _ (js ++ [j]) (rs ++ [r]) = _
    rw [putK_snoc j r js rs _ (by simpa using h)]; rfl
theorem DcK.merge : ∀ (js : List Int) (rs : List (List KRow)) (kk : List Key) (dd : List D) (K : Kn) (m : Nat), js.length = rs.length → DcK kk dd K m → DcK (mergeD (kk, dd) (js.map .inl) (rs.map fun r => D.lst (r.map kD))).1 (mergeD (kk, dd) (js.map .inl) (rs.map fun r => D.lst (r.map kD))).2 (putK K js rs) (m + js.length)
  | [], [], kk, dd, K, m, _, h => h
  | [], _ :: _, _, _, _, _, h, _ => by simp at h
  | _ :: _, [], _, _, _, _, h, _ => by simp at h
  | j :: js, r :: rs, kk, dd, K, m, hl, h => by
    have := DcK.merge js rs _ _ _ _ (by simpa using hl) (h.put j r)
    rw [List.length_cons, show m + (js.length + 1) = m + 1 + js.length by omega]
    exact this

def InvK (w b t L i : Nat) (K : Kn) : Prop := ∀ j rs, K j = some rs → 0 < rs.length ∧ rs.length ≤ L + i ∧ ∀ r, r ∈ rs → RowB w (b + i * (t + 10)) r.1
theorem putK_mem {x : Int} {v : List KRow} : ∀ (js : List Int) (rs : List (List KRow)) (K : Kn), putK K js rs x = some v → v ∈ rs ∨ K x = some v
  | [], _, K, h => .inr (by cases h' : (‹List (List KRow)›) <;> simpa [putK] using h)
  | _ :: _, [], K, h => .inr h
  | j :: js, r :: rs, K, h => by
    rcases putK_mem js rs _ h with z | z
    · exact .inl (List.mem_cons_of_mem _ z)
    · split at z
      · exact .inl (by rw [← Option.some.inj z]; exact List.mem_cons_self)
      · exact .inr z
theorem InvK.step {w b t L i : Nat} {K : Kn} {ks : List KRow} {s : D} (h : InvK w b t L i K) (hK : K i = some ks) (hd : StOk t s) (hs : stepD w (rsK ks) s = true) (hl : L + i < 1024) : InvK w b t L (i + 1) (putK K (nmI s) (nextK w ks s)) := by
  intro j rs hj
  have hk := h i ks hK
  have mono : ∀ r : KRow, RowB w (b + i * (t + 10)) r.1 → RowB w (b + (i + 1) * (t + 10)) r.1 := fun r hr => hr.mono (by rw [Nat.add_mul]; omega)
  rcases putK_mem _ _ _ hj with z | z
  · unfold nextK at z
    obtain ⟨r, hr, rfl⟩ := List.mem_map.mp z
    have hb := beh_b (rs := rsK ks) (b := b + i * (t + 10)) (fun r h => by obtain ⟨k, hk', rfl⟩ := List.mem_map.mp h; exact hk.2.2 k hk') hd hs (by rw [rsK_len]; omega) r hr
    refine ⟨by simp, by rw [List.length_append]; simp; omega, fun x hx => ?_⟩
    rcases List.mem_append.mp hx with hx | hx
    · exact mono x (hk.2.2 x hx)
    · rw [List.mem_singleton.mp hx]
      refine RowB.mono hb ?_
      rw [Nat.add_mul]; omega
  · have := h j rs z
    exact ⟨this.1, by omega, fun x hx => mono x (this.2.2 x hx)⟩

def PapOk (t n : Nat) (d : D) : Prop := askable d = true ∧ ∀ ss, lstOf d = some ss → ss.length ≤ n ∧ ∀ s, s ∈ ss → StOk t s
def k0 (rs : List KRow) : Kn := fun i => if i = 0 then some rs else none
def papD (w : Nat) (rs : List KRow) (d : D) : Bool := match lstOf d with
  | some ss => !ss.isEmpty && runP w ss.length 0 (k0 rs) ss
  | none => false
theorem papD_sq {w : Nat} {rs : List KRow} {k : Kd} {ss : List D} : papD w rs (sqD k ss) = (!ss.isEmpty && runP w ss.length 0 (k0 rs) ss) := by unfold papD; rw [lstOf_sq]
theorem runP_some {w n i : Nat} {K : Kn} {s : D} {ss : List D} {ks : List KRow} (hK : K i = some ks) : runP w n i K (s :: ss) = (stepD w (rsK ks) s && ((namesD s).all (okN n i K) && (decide (nmI s).Nodup && runP w n (i + 1) (putK K (nmI s) (nextK w ks s)) ss))) := by
  rw [runP, hK]
theorem runP_none {w n i : Nat} {K : Kn} {s : D} {ss : List D} (hK : K i = none) : runP w n i K (s :: ss) = false := by
  rw [runP, hK]
theorem k0_dc (rs : List KRow) : DcK [.inl 0] [.lst (rs.map kD)] (k0 rs) 1 := ⟨rfl, Nat.le_refl _, fun i => by
  rw [valD_cons]
  unfold k0
  by_cases e : i = 0
  · subst e; rw [if_pos rfl, if_pos rfl]; rfl
  · rw [if_neg e, if_neg (fun z => e (Sum.inl.inj z).symm)]; rfl⟩
theorem k0_inv {w b t : Nat} {rs : List KRow} (h0 : 0 < rs.length) (hr : ∀ r, r ∈ rs → RowB w b r.1) : InvK w b t rs.length 0 (k0 rs) := fun j ks hj => by
  unfold k0 at hj
  split at hj
  · cases hj; exact ⟨h0, by omega, fun r h => by rw [Nat.zero_mul]; exact hr r h⟩
  · cases hj
end Mi.Lw
end
section
namespace Mi.Lw
open PySem L2
local macro_rules | `(tactic| walk_at "w") => `(tactic| try simp only [wSs_cons, wSs_nil, wS_asg, wS_own, wS_aug, wS_app, wS_ext, exV_o, exV_t, wS_rev, wS_sown, wS_pops, wS_ite, wS_for, wS_ret, wS_reto, wS_expr, wS_frz, wS_par, wS_par3, slOf_f, slOf_fo, slOf_t, frzN_own, frzN_val, retOk_v, retOk_o,
  wE_var, wE_bor, wE_con, wE_glb, wE_bin, wE_cmp, wE_idx, wE_neg, wE_not, wE_and, wE_or, wE_ite, wE_chn, wE_tup, wE_lst, wE_slc, wE_call, wE_callp, lends_nil, lends_v, lends_o, lends_b, wE_bi, wE_comp, wE_new, newC_own, newC_ownd, wE_o1, wE_o2, wE_o3, wE_dct, wE_dgt, wE_din, wEs_nil, wEs_cons, wRs_nil, wRs_cons, wO_no, wO_yes, wC_no, wC_yes,
  wI_rng1, wI_rng2, wI_seq, wI_enm, wI_zip2, wT_nm, wT_sub, wT_tp, wTs_nil, wTs_cons,
  List.map_cons, List.map_nil, List.cons_append, List.nil_append, List.replicate_succ, List.replicate_zero, List.getElem?_cons_zero, List.getElem?_cons_succ, List.set_cons_zero, List.set_cons_succ, List.length_cons, List.length_nil, Nat.reduceSub, Nat.reduceAdd, Nat.reduceLT, Nat.reduceLeDiff, Nat.reduceEqDiff,
  Option.some.injEq, Sl.val.injEq, Sl.own.injEq, Rt.val.injEq, Rt.own.injEq, D.int.injEq, D.bl.injEq, D.ref.injEq, D.tup.injEq, D.lst.injEq, D.str.injEq, exists_eq_left, exists_eq_left', exists_eq_right, exists_eq_right', rd_val, rd_own, rd_ownd, ne_eq, reduceCtorEq, not_false_eq_true, not_true_eq_false, implies_true, true_and, and_true, and_self, false_and, and_false, exists_false, Prod.mk.injEq,
  bin_add, bin_sub, bin_mul', bin_fdiv', bin_mod', bin_pow', bin_shl', rep_own, rep_tup, cat_lo, cat_oo, cat_ll, cat_ol, cat_tt, cat_ss, cat_bo, cat_ob, cat_bl, cat_lb, cmp_int, cmp_intn, cmp_str, cmp_strs, cmp_strsn, ofString_inj, cmp_lt, cmp_le, cmp_gt, cmp_ge, cmp_isn, cmp_isnn, cmp_isb, cmp_isnb, cmp_blne, cmp_bleq, bi_divmod', bi_abs', bi_intb, bi_min2, bi_max2, bi_lenl, bi_lens, bi_lent, bi_leno, bi_lenb, bi_listo, bi_listl, bi_listt, bi_listb, bi_tupo, bi_tupb, bi_tupt, bi_tupl, sl_scr, sl_lst, sl_tup, sl_own, sl_bor, ix_tup, ix_lst, ix_own, ix_bor, atI_0, atI_1, atI_2, String.reduceEq, decide_false, decide_true, decide_eq_true_eq, Bool.false_eq_true, if_false, if_true, reduceIte, Bool.not_false, Bool.not_true, Int.reduceLT, Int.reduceLE, Int.reduceToNat, Int.reduceNeg, Int.reduceAdd, Int.reduceSub, Int.reduceMul, Int.reduceEq, Nat.lt_irrefl, forall_const, size_ok, inRng_ok, still_l, still_t, still_o, still_b, still_sq, ix_sq, bi_lensq, bi_tupsq, bi_listsq, bi_sumo, bi_sumt, bi_sumq, bi_sumf, bi_maxt, bi_mint, bi_maxo, bi_minq, bi_allt, bi_allm, bi_anym, ix_row0, ix_row1, bi_lenrow, List.length_map, Int.cast_ofNat_Int,
  isi1_n, isi_n, isi1_b, isi_b, isi1_i, isi_i, isi1_s, isi_s, isi1_t, isi_t, isi1_l, isi_l, isi1_c, isi_c, isi1_r, isi_r, isi1_q, isi_q, isi_o, bi_isi1o, bi_isi1b, tyD_t, tyD_i, tyD_b, tyD_s, tyD_l, tyD_n, tyD_row, List.any_cons, List.any_nil, Bool.or_false, Bool.or_true, Bool.true_or, Bool.false_or, Bool.and_true, Bool.true_and, Bool.and_false, Bool.false_and, beq_self_eq_true, bne_self_eq_false, beq_true, beq_false, isN,
  p_lrng, p_revl, p_revo, p_revb, p_revt, p_sseto, p_lsetl, p_lsett, p_mxdo, p_premxd, p_predzip, p_lsetb, p_prelrng2, p_lrng2, p_gget, p_gin, p_mx3, p_get, p_presplit, p_prejoin, p_split, dct_o, dct_v, key_i, key_s, valD_cons, valD_nil, Sum.inr.injEq, Sum.inl.injEq, Option.isSome_some, Option.isSome_none, Bool.xor_false, Bool.xor_true, Bool.false_xor, Bool.true_xor, Option.getD_some, Option.getD_none, cmp_notin, in_nil, in_1, in_2, in_3, in_4, in_5, in_6, in_11, in_intsT, in_intsL, in_intsB, Option.map_some, List.all_cons, List.all_nil, flatD_s, flatD_i, divok_s, mulok_ls, mulok_rs])
local macro_rules | `(tactic| walk_at "sz") => `(tactic| (refine Nat.le_trans (m := 10000000) ?_ (show 10000000 ≤ 16777216 by decide); (try simp only [List.length_append, List.length_map, List.length_take, List.length_drop, List.length_cons, List.length_nil, List.length_zip, List.length_reverse, List.length_replicate, List.length_range, rngL_len]); omega))

def Ext (S S' : Sto) : Prop := S.length ≤ S'.length ∧ ∀ c, c < S.length → S'[c]? = S[c]?
theorem Ext.refl (S : Sto) : Ext S S := ⟨Nat.le_refl _, fun _ _ => rfl⟩
theorem Ext.app (S : Sto) (x : Cell) : Ext S (S ++ [x]) := ⟨by rw [List.length_append]; omega, fun c hc => List.getElem?_append_left hc⟩
theorem Ext.set {S S' : Sto} {l : Nat} {x : Cell} (h : Ext S S') (hl : S.length ≤ l) : Ext S (S'.set l x) := ⟨by rw [List.length_set]; exact h.1, fun c hc => by rw [List.getElem?_set_ne (by omega)]; exact h.2 c hc⟩
theorem enm_len0 : ∀ (ds : List D) (lo : Nat), (enmL lo ds).length = ds.length
  | [], _ => rfl
  | _ :: ds, lo => by unfold enmL; rw [List.length_cons, List.length_cons, enm_len0 ds]
theorem names_form {s : D} (h : formD s = true) : (namesD s).length ≤ 2 ∧ ∀ t, StOk t s → ∀ x, x ∈ namesD s → askable x = true := by
  obtain ⟨k2, ⟨t1, rfl⟩ | ⟨t1, q1, n1, rfl⟩ | ⟨c1, m1, n1, n2, rfl⟩⟩ := form_cases h
  all_goals
    unfold namesD
    rw [lstOf_sq]
  · exact ⟨by simp, fun t _ x hx => by simp at hx⟩
  · exact ⟨by simp, fun t ht x hx => (ht.el x (List.mem_of_mem_drop hx)).1.1⟩
  · exact ⟨by simp, fun t ht x hx => (ht.el x (List.mem_of_mem_drop hx)).1.1⟩
section
variable {P : Nat → Option FD} {G : List D}
theorem shows_paper_ok {k w b t n : Nat} {k1 : Kd} {rs : List KRow} {d : D} {S : Sto} {Q : Rt → Sto → Prop} (h : PapF P G) (hd : PapOk t n d) (hw0 : 0 < w) (hw : w < 64) (ht9 : t < 9000) (h0 : 0 < rs.length) (hl : rs.length + n ≤ 1000) (hb : b + n * (t + 10) + 2 * t + 10 < 1000000) (hr : ∀ r, r ∈ rs → RowB w b r.1)
    (q : ∀ S', Ext S S' → Q (.val (.bl (papD w rs d))) S') : wF (runF P G (k + 5)) 157 [sqD k1 (rs.map kD), d] S Q := by
  refine wF_of h.h157 rfl ?_
  unfold p_shows_paper
  refine wSs_cut fun r hr' => ?_
  walk_at "w"
  refine is_row_list_ok h.h150 hd.1 ?_
  rcases lst_cases d with ⟨k2, ss, rfl⟩ | hnone
  · rw [lstOf_sq]
    rw [papD_sq] at q
    walk_at "w"
    obtain ⟨hsl, hst⟩ := hd.2 ss lstOf_sq
    by_cases hne : ss = []
    · subst hne
      walk_at "w"
      exact q S (Ext.refl S)
    · have hle : ss.isEmpty = false := by cases ss with | nil => exact absurd rfl hne | cons _ _ => rfl
      rw [hle, Bool.not_false, Bool.true_and] at q
      rw [if_neg (show ¬ ((ss.length : Nat) : Int) = 0 by have := List.length_pos_iff.mpr hne; omega)]
      rw [hr']; clear hr'
      walk_at "w"
      refine ⟨(show ([Sum.inl 0] : List Key).Nodup by decide), ?_⟩
      have hS0 : (S ++ [Cell.dct [.inl 0] [.lst (rs.map kD)]])[S.length]? = some (.dct [.inl 0] [.lst (rs.map kD)]) := by rw [List.getElem?_append_right (Nat.le_refl _), Nat.sub_self]; rfl
      refine wFor_inv (fun i ρ S' => ∃ x3 x4 x5 x6 x7 K kk dd, ρ = [.val (sqD k1 (rs.map kD)), .val (sqD k2 ss), .val (.ref S.length), x3, x4, x5, x6, x7] ∧ S'[S.length]? = some (.dct kk dd) ∧ DcK kk dd K (2 * i + 1) ∧ InvK w b t rs.length i K ∧ runP w ss.length 0 (k0 rs) ss = runP w ss.length i K (ss.drop i) ∧ Ext S S') ⟨_, _, _, _, _, k0 rs, _, _, rfl, hS0, k0_dc rs, k0_inv h0 hr, rfl, Ext.app S _⟩ (fun i d ρ S1 hd' hI => ?_) fun ρ S1 hI => ?_
      · obtain ⟨x3, x4, x5, x6, x7, K, kk, dd, rfl, hS, hD, hK, hrun, hx⟩ := hI
        rw [enmL_get] at hd'
        obtain ⟨s, hs, rfl⟩ := map_some hd'
        have hi : i < ss.length := (List.getElem?_eq_some_iff.mp hs).1
        rw [List.drop_eq_getElem_cons hi, show ss[i] = s from (List.getElem?_eq_some_iff.mp hs).2] at hrun
        have hso := hst s (List.mem_of_getElem? hs)
        rw [Nat.zero_add]
        walk_at "w"
        simp only [dct_r hS]
        walk_at "w"
        rw [hD.2.2 i]
        cases hKi : K i with
        | none =>
          rw [runP_none hKi] at hrun
          rw [hrun] at q
          walk_at "w"
          exact q S1 hx
        | some ks =>
          rw [runP_some hKi] at hrun
          obtain ⟨g0, g1, g2⟩ := hK i ks hKi
          have hbi : i * (t + 10) ≤ n * (t + 10) := Nat.mul_le_mul_right _ (by omega)
          walk_at "w"
          refine is_step_ok (k := k) (w := w) (b := b + i * (t + 10)) (t := t) h hso hw0 hw g0 (by omega) g2 ?_
          cases hsd : stepD w (rsK ks) s with
          | false =>
            rw [hsd, Bool.false_and] at hrun
            rw [hrun] at q
            walk_at "w"
            exact q S1 hx
          | true =>
            rw [hsd, Bool.true_and] at hrun
            walk_at "w"
            refine named_by_ok (k := k + 3) (t := t) h (step_form hsd) ?_
            walk_at "w"
            have hnf := names_form (step_form hsd)
            refine wFor_inv (fun m ρ S' => ∃ x6, ρ = [.val (sqD k1 (rs.map kD)), .val (sqD k2 ss), .val (.ref S.length), .val (.int i), .val s, .val (.lst (namesD s)), x6, x7] ∧ ((namesD s).take m).all (okN ss.length i K) = true ∧ S' = S1) ⟨_, rfl, rfl, rfl⟩ (fun m x ρ S2 hm hJ => ?_) fun ρ S2 hJ => ?_
            · obtain ⟨x6, rfl, hall, rfl⟩ := hJ
              have hxa := hnf.2 t hso x (List.mem_of_getElem? hm)
              walk_at "w"
              refine is_count_ok h.h149 hxa ?_
              have hfail : okN ss.length i K x = false → (namesD s).all (okN ss.length i K) = false := fun z => by
                rw [List.all_eq_false]
                exact ⟨x, List.mem_of_getElem? hm, by rw [z]; decide⟩
              have hgood : okN ss.length i K x = true → ((namesD s).take (m + 1)).all (okN ss.length i K) = true := fun z => by
                rw [List.take_add_one, List.all_append, hall, hm]
                show (okN ss.length i K x && true) = true
                rw [z]; rfl
              cases hi' : intD x with
              | false =>
                walk_at "w"
                rw [hfail (by cases x <;> first | rfl | cases hi'), Bool.false_and] at hrun
                rw [hrun] at q
                exact q S2 hx
              | true =>
                obtain ⟨j, rfl⟩ : ∃ j, x = .int j := by
                  cases x with
                  | int j => exact ⟨j, rfl⟩
                  | _ => cases hi'
                walk_at "w"
                by_cases c1 : (i : Int) < j
                · rw [if_pos c1]
                  by_cases c2 : j < ss.length
                  · rw [decide_eq_true c2]
                    walk_at "w"
                    simp only [dct_r hS]
                    walk_at "w"
                    rw [hD.2.2 j]
                    cases hKj : K j with
                    | none =>
                      walk_at "w"
                      refine ⟨_, rfl, hgood ?_⟩
                      show (decide ((i : Int) < j) && (decide (j < ss.length) && (K j).isNone)) = true
                      rw [decide_eq_true c1, decide_eq_true c2, hKj]; rfl
                    | some _ =>
                      walk_at "w"
                      rw [hfail (by show (decide ((i : Int) < j) && (decide (j < ss.length) && (K j).isNone)) = false; rw [hKj, show (some _ : Option (List KRow)).isNone = false from rfl, Bool.and_false, Bool.and_false]), Bool.false_and] at hrun
                      rw [hrun] at q
                      exact q S2 hx
                  · rw [decide_eq_false c2]
                    walk_at "w"
                    rw [hfail (by show (decide ((i : Int) < j) && (decide (j < ss.length) && (K j).isNone)) = false; rw [decide_eq_false c2, Bool.false_and, Bool.and_false]), Bool.false_and] at hrun
                    rw [hrun] at q
                    exact q S2 hx
                · rw [if_neg c1]
                  walk_at "w"
                  rw [hfail (by show (decide ((i : Int) < j) && (decide (j < ss.length) && (K j).isNone)) = false; rw [decide_eq_false c1, Bool.false_and]), Bool.false_and] at hrun
                  rw [hrun] at q
                  exact q S2 hx
            · obtain ⟨x6, rfl, hall, rfl⟩ := hJ
              rw [List.take_of_length_le (Nat.le_refl _)] at hall
              rw [hall, Bool.true_and] at hrun
              have hni := ints_of (fun d => okN_int) hall
              have hnl := nmI_len hni
              have hlen : (nmI s).length = (nextK w ks s).length := by rw [hnl, names_len hsd]
              have hni' : namesD s = (nmI s).map .int := hni
              have hzip : ∀ (hnd : decide (nmI s).Nodup = true), wS (runF P G (k + 4)) G (.forr (.tp (.cons (.nm 6) (.cons (.nm 7) .nil))) (.zip (.var 5) (.call 156 (.cons (.dgt (.var 2) (.var 3)) (.cons (.var 4) .nil)))) (.cons (.asg (.sub (.var 2) (.var 6)) (.var 7)) .nil)) [.val (sqD k1 (rs.map kD)), .val (sqD k2 ss), .val (.ref S.length), .val (.int i), .val s, .val (.lst (namesD s)), x6, x7] S2 (fun ρ S' => ∃ x3 x4 x5 x6 x7 K kk dd, ρ = [.val (sqD k1 (rs.map kD)), .val (sqD k2 ss), .val (.ref S.length), x3, x4, x5, x6, x7] ∧ S'[S.length]? = some (.dct kk dd) ∧ DcK kk dd K (2 * (i + 1) + 1) ∧ InvK w b t rs.length (i + 1) K ∧ runP w ss.length 0 (k0 rs) ss = runP w ss.length (i + 1) K (ss.drop (i + 1)) ∧ Ext S S') Q := fun hnd => by
                rw [hnd, Bool.true_and] at hrun
                walk_at "w"
                simp only [dct_r hS]
                walk_at "w"
                rw [hD.2.2 i, hKi]
                walk_at "w"
                refine rows_behind_ok (k := k + 1) (w := w) (b := b + i * (t + 10)) (t := t) h hso hsd ht9 hw g0 (by omega) (by omega) g2 ?_
                walk_at "w"
                unfold behL
                rw [hni', zipL_map]
                have hbl : (behD w (rsK ks) s).length = (nmI s).length := by rw [hlen]; unfold nextK; rw [List.length_map]
                refine wFor_inv (fun m ρ S' => ∃ x6 x7 kk dd, ρ = [.val (sqD k1 (rs.map kD)), .val (sqD k2 ss), .val (.ref S.length), .val (.int i), .val s, .val (.lst ((nmI s).map .int)), x6, x7] ∧ S'[S.length]? = some (.dct kk dd) ∧ DcK kk dd (putK K ((nmI s).take m) ((nextK w ks s).take m)) (2 * i + 1 + m) ∧ Ext S S') ⟨_, _, kk, dd, rfl, hS, by simpa [putK] using hD, hx⟩ (fun m x ρ S3 hm hJ => ?_) fun ρ S3 hJ => ?_
                · obtain ⟨y6, y7, kk', dd', rfl, hS', hD', hx'⟩ := hJ
                  rw [List.getElem?_map] at hm
                  obtain ⟨p, hp, rfl⟩ := map_some hm
                  rw [List.getElem?_zip_eq_some] at hp
                  walk_at "w"
                  refine ⟨_, setAt_d hS' rfl (by have := hD'.2.1; have := (List.getElem?_eq_some_iff.mp hp.1).1; have := hnf.1; omega), ?_⟩
                  refine ⟨_, _, (putD kk' dd' (.inl p.1) (.lst ((ks ++ [ofR p.2]).map kD))).1, (putD kk' dd' (.inl p.1) (.lst ((ks ++ [ofR p.2]).map kD))).2, rfl, ?_, ?_, hx'.set (Nat.le_refl _)⟩
                  · rw [List.getElem?_set_self (by have := (List.getElem?_eq_some_iff.mp hS').1; exact this)]
                  · have hn2 : (nextK w ks s)[m]? = some (ks ++ [ofR p.2]) := by unfold nextK; rw [List.getElem?_map, hp.2]; rfl
                    rw [List.take_add_one, List.take_add_one, hp.1, hn2]
                    show DcK _ _ (putK K ((nmI s).take m ++ [p.1]) ((nextK w ks s).take m ++ [ks ++ [ofR p.2]])) _
                    rw [putK_snoc _ _ _ _ _ (by rw [List.length_take, List.length_take, hlen])]
                    exact hD'.put p.1 (ks ++ [ofR p.2])
                · obtain ⟨y6, y7, kk', dd', rfl, hS', hD', hx'⟩ := hJ
                  rw [List.length_map, List.length_zip, hbl, Nat.min_self, List.take_length, List.take_of_length_le (by rw [hlen]; exact Nat.le_refl _)] at hD'
                  refine ⟨_, _, _, _, _, _, _, _, rfl, hS', ⟨hD'.1, by have := hD'.2.1; have := hnf.1; omega, hD'.2.2⟩, hK.step hKi hso hsd (by omega), hrun, hx'⟩
              have hcs : nmI s = [] ∨ (∃ a, nmI s = [a]) ∨ ∃ a b, nmI s = [a, b] := by
                have h2 : (nmI s).length ≤ 2 := by rw [hnl]; exact hnf.1
                match nmI s, h2 with
                | [], _ => exact .inl rfl
                | [a], _ => exact .inr (.inl ⟨a, rfl⟩)
                | [a, b], _ => exact .inr (.inr ⟨a, b, rfl⟩)
              rcases hcs with e | ⟨a, e⟩ | ⟨a, c, e⟩
              · have hz := hzip (by rw [e]; rfl)
                rw [hni', e] at hz ⊢
                revert hz
                walk_at "w"
                exact id
              · have hz := hzip (by rw [e]; simp)
                rw [hni', e] at hz ⊢
                revert hz
                walk_at "w"
                exact id
              · by_cases hac : a = c
                · rw [show decide (nmI s).Nodup = false by rw [e, hac]; simp, Bool.false_and] at hrun
                  rw [hrun] at q
                  rw [hni', e, hac]
                  walk_at "w"
                  exact q S2 hx
                · have hz := hzip (by rw [e]; simp [hac])
                  rw [hni', e] at hz ⊢
                  revert hz
                  walk_at "w"
                  rw [if_neg hac]
                  exact id
      · obtain ⟨x3, x4, x5, x6, x7, K, kk, dd, rfl, hS, hD, hK, hrun, hx⟩ := hI
        have el : (enmL 0 ss).length = ss.length := enm_len0 ss 0
        rw [el, List.drop_length, show runP w ss.length ss.length K [] = true by rw [runP]] at hrun
        rw [hrun] at q
        walk_at "w"
        exact q S1 hx
  · unfold papD at q
    rw [hnone] at q ⊢
    walk_at "w"
    exact q S (Ext.refl S)
end
end Mi.Lw
end
section
namespace Mi.Lw
open PySem L2
local macro_rules | `(tactic| walk_at "w") => `(tactic| try simp only [wSs_cons, wSs_nil, wS_asg, wS_own, wS_aug, wS_app, wS_ext, exV_o, exV_t, wS_rev, wS_sown, wS_pops, wS_ite, wS_for, wS_ret, wS_reto, wS_expr, wS_frz, wS_par, wS_par3, slOf_f, slOf_fo, slOf_t, frzN_own, frzN_val, retOk_v, retOk_o,
  wE_var, wE_bor, wE_con, wE_glb, wE_bin, wE_cmp, wE_idx, wE_neg, wE_not, wE_and, wE_or, wE_ite, wE_chn, wE_tup, wE_lst, wE_slc, wE_call, wE_callp, lends_nil, lends_v, lends_o, lends_b, wE_bi, wE_comp, wE_new, newC_own, newC_ownd, wE_o1, wE_o2, wE_o3, wE_dct, wE_dgt, wE_din, wEs_nil, wEs_cons, wRs_nil, wRs_cons, wO_no, wO_yes, wC_no, wC_yes,
  wI_rng1, wI_rng2, wI_seq, wI_enm, wI_zip2, wT_nm, wT_sub, wT_tp, wTs_nil, wTs_cons,
  List.map_cons, List.map_nil, List.cons_append, List.nil_append, List.replicate_succ, List.replicate_zero, List.getElem?_cons_zero, List.getElem?_cons_succ, List.set_cons_zero, List.set_cons_succ, List.length_cons, List.length_nil, Nat.reduceSub, Nat.reduceAdd, Nat.reduceLT, Nat.reduceLeDiff, Nat.reduceEqDiff,
  Option.some.injEq, Sl.val.injEq, Sl.own.injEq, Rt.val.injEq, Rt.own.injEq, D.int.injEq, D.bl.injEq, D.ref.injEq, D.tup.injEq, D.lst.injEq, D.str.injEq, exists_eq_left, exists_eq_left', exists_eq_right, exists_eq_right', rd_val, rd_own, rd_ownd, ne_eq, reduceCtorEq, not_false_eq_true, not_true_eq_false, implies_true, true_and, and_true, and_self, false_and, and_false, exists_false, Prod.mk.injEq,
  bin_add, bin_sub, bin_mul', bin_fdiv', bin_mod', bin_pow', bin_shl', rep_own, rep_tup, cat_lo, cat_oo, cat_ll, cat_ol, cat_tt, cat_ss, cat_bo, cat_ob, cat_bl, cat_lb, cmp_int, cmp_intn, cmp_str, cmp_strs, cmp_strsn, ofString_inj, cmp_lt, cmp_le, cmp_gt, cmp_ge, cmp_isn, cmp_isnn, cmp_isb, cmp_isnb, cmp_blne, cmp_bleq, bi_divmod', bi_abs', bi_intb, bi_min2, bi_max2, bi_lenl, bi_lens, bi_lent, bi_leno, bi_lenb, bi_listo, bi_listl, bi_listt, bi_listb, bi_tupo, bi_tupb, bi_tupt, bi_tupl, sl_scr, sl_lst, sl_tup, sl_own, sl_bor, ix_tup, ix_lst, ix_own, ix_bor, atI_0, atI_1, atI_2, String.reduceEq, decide_false, decide_true, decide_eq_true_eq, Bool.false_eq_true, if_false, if_true, reduceIte, Bool.not_false, Bool.not_true, Int.reduceLT, Int.reduceLE, Int.reduceToNat, Int.reduceNeg, Int.reduceAdd, Int.reduceSub, Int.reduceMul, Int.reduceEq, Nat.lt_irrefl, forall_const, size_ok, inRng_ok, still_l, still_t, still_o, still_b, still_sq, ix_sq, bi_lensq, bi_tupsq, bi_listsq, bi_sumo, bi_sumt, bi_sumq, bi_sumf, bi_maxt, bi_mint, bi_maxo, bi_minq, bi_allt, bi_allm, bi_anym, ix_row0, ix_row1, bi_lenrow, List.length_map, Int.cast_ofNat_Int,
  isi1_n, isi_n, isi1_b, isi_b, isi1_i, isi_i, isi1_s, isi_s, isi1_t, isi_t, isi1_l, isi_l, isi1_c, isi_c, isi1_r, isi_r, isi1_q, isi_q, isi_o, bi_isi1o, bi_isi1b, tyD_t, tyD_i, tyD_b, tyD_s, tyD_l, tyD_n, tyD_row, List.any_cons, List.any_nil, Bool.or_false, Bool.or_true, Bool.true_or, Bool.false_or, Bool.and_true, Bool.true_and, Bool.and_false, Bool.false_and, beq_self_eq_true, bne_self_eq_false, beq_true, beq_false, isN,
  p_lrng, p_revl, p_revo, p_revb, p_revt, p_sseto, p_lsetl, p_lsett, p_mxdo, p_premxd, p_predzip, p_lsetb, p_prelrng2, p_lrng2, p_gget, p_gin, p_mx3, p_get, p_presplit, p_prejoin, p_split, dct_o, dct_v, key_i, key_s, valD_cons, valD_nil, Sum.inr.injEq, Sum.inl.injEq, Option.isSome_some, Option.isSome_none, Bool.xor_false, Bool.xor_true, Bool.false_xor, Bool.true_xor, Option.getD_some, Option.getD_none, cmp_notin, in_nil, in_1, in_2, in_3, in_4, in_5, in_6, in_11, in_intsT, in_intsL, in_intsB, Option.map_some, List.all_cons, List.all_nil, flatD_s, flatD_i, divok_s, mulok_ls, mulok_rs])
local macro_rules | `(tactic| walk_at "sz") => `(tactic| (refine Nat.le_trans (m := 10000000) ?_ (show 10000000 ≤ 16777216 by decide); (try simp only [List.length_append, List.length_map, List.length_take, List.length_drop, List.length_cons, List.length_nil, List.length_zip, List.length_reverse, List.length_replicate, List.length_range, rngL_len]); omega))
theorem form_lst {s : D} (h : formD s = true) : (∃ xs, s = .lst xs ∧ xs.drop 3 = namesD s) ∨ ∃ xs, s = .tup xs ∧ xs.drop 3 = namesD s := by
  rcases lst_cases s with ⟨k, xs, rfl⟩ | e
  · cases k with
    | l => exact .inl ⟨xs, rfl, rfl⟩
    | t => exact .inr ⟨xs, rfl, rfl⟩
  · unfold formD at h; rw [e] at h; cases h
theorem gtA_cons {i : Nat} {s : D} {ss : List D} : gtA i (s :: ss) = ((namesD s).all (gtN i) && gtA (i + 1) ss) := by rw [gtA]
theorem all_filt {p : D → Bool} {xs : List D} : (xs.filterMap fun x => some (D.bl (p x))) = (xs.map p).map .bl := by
  induction xs with
  | nil => rfl
  | cons x xs ih => rw [List.filterMap_cons, ih]; rfl
theorem lt_size5 {n : Nat} (h : n ≤ 100000) : n ≤ sizeLine := Nat.le_trans h (show 100000 ≤ 16777216 by decide)
theorem toPys_int : ∀ is : List Int, toPys (is.map .int) = some (is.map .int)
  | [] => rfl
  | i :: is => by
    show (toPy (.int i)).bind (fun x => (toPys (is.map .int)).map fun r => x :: r) = _
    rw [toPys_int is]; rfl
theorem lay_int : ∀ is : List Int, PyData.canLayAll0 (is.map PyData.int) = true ∧ PyData.depthAll (is.map PyData.int) = 0
  | [] => ⟨rfl, rfl⟩
  | i :: is => by
    obtain ⟨h1, h2⟩ := lay_int is
    rw [List.map_cons]
    unfold PyData.canLayAll0 PyData.depthAll
    rw [h1, h2]
    exact ⟨rfl, rfl⟩
theorem shaped_int (is : List Int) : SeqAt.shaped (.list (is.map .int)) = true := by
  unfold SeqAt.shaped PyData.canLay0 PyData.depth
  rw [(lay_int is).1, (lay_int is).2]; rfl
theorem eqv_int : ∀ (a b : List Int), PyData.eqvAll (a.map .int) (b.map .int) = decide (a = b)
  | [], [] => by simp [PyData.eqvAll]
  | [], _ :: _ => by simp [PyData.eqvAll]
  | _ :: _, [] => by simp [PyData.eqvAll]
  | x :: a, y :: b => by
    rw [List.map_cons, List.map_cons]
    unfold PyData.eqvAll
    rw [eqv_int a b]
    by_cases e : x = y
    · subst e; by_cases e2 : a = b <;> simp [PyData.eqv, e2]
    · simp [PyData.eqv, e]
theorem ne_ints {S : Sto} {a b : List Int} : cmpop S .ne (.own (a.map .int)) (.own (b.map .int)) = some (!decide (a = b)) := by
  have h : eqop S (.own (a.map .int)) (.own (b.map .int)) = some (decide (a = b)) := by
    rw [eqop_pf (p := .list (a.map .int)) (q := .list (b.map .int)) (by show (toPys _).map _ = _; rw [toPys_int]; rfl) (by show (toPys _).map _ = _; rw [toPys_int]; rfl) (shaped_int a) (shaped_int b)]
    rw [PyData.eqv, eqv_int]
  show (eqop S _ _).map _ = _
  rw [h]; rfl
theorem ints_map : ∀ xs : List Int, ints? (xs.map .int) = some xs
  | [] => rfl
  | x :: xs => by show (ints? (xs.map .int)).map _ = _; rw [ints_map xs]; rfl
theorem bi_sorted_b {S : Sto} {xs : List Int} : biop S .sorted [.bor (xs.map .int)] = some (.own ((sortI xs).map .int)) := by
  show (ints? (xs.map .int)).map _ = _
  rw [ints_map]; rfl
theorem rngL_rngI (n : Nat) : rngL 1 (n - 1) = (rngI n).map .int := by
  apply List.ext_getElem?
  intro i
  unfold rngI
  rw [rngL_get, List.getElem?_map, List.getElem?_map]
  by_cases h : i < n - 1
  · rw [if_pos h, List.getElem?_range h]; simp; omega
  · rw [if_neg h, List.getElem?_eq_none (by simpa using h)]; rfl
theorem keys_int : ∀ xs : List Int, keysD (xs.map .int) = some (xs.map .inl)
  | [] => rfl
  | x :: xs => by show ((D.int x).key?).bind (fun k => (keysD (xs.map .int)).map fun ks => k :: ks) = _; rw [keys_int xs]; rfl
theorem runQ_some {w i : Nat} {K : Kn} {s : D} {ss : List D} {ks : List KRow} (hK : K i = some ks) : runQ w i K (s :: ss) = (stepD w (rsK ks) s && runQ w (i + 1) (putK K (nmI s) (nextK w ks s)) ss) := by
  rw [runQ, hK]
section
variable {P : Nat → Option FD} {G : List D}
theorem is_paper_ok {k w b t n : Nat} {k1 : Kd} {rs : List KRow} {d : D} {S : Sto} {Q : Rt → Sto → Prop} (h : PapL P) (hd : PapOk t n d) (hw0 : 0 < w) (hw : w < 64) (ht9 : t < 9000) (h0 : 0 < rs.length) (hl : rs.length + n ≤ 1000) (hb : b + n * (t + 10) + 2 * t + 10 < 1000000) (hr : ∀ r, r ∈ rs → RowB w b r.1)
    (q : ∀ S', Ext S S' → Q (.val (.bl (papD w rs d))) S') : wF (runF P G (k + 5)) 170 [sqD k1 (rs.map kD), d] S Q := by
  refine wF_of h.h170 rfl ?_
  unfold l_is_paper
  refine wSs_cut fun r hr' => ?_
  rcases lst_cases d with ⟨k2, ss, rfl⟩ | hnone
  · rw [papD_sq, show k0 rs = fun i => if i = 0 then some rs else none from rfl, paper_law] at q
    obtain ⟨hsl, hst⟩ := hd.2 ss lstOf_sq
    have ty : (tyD (sqD k2 ss) Ty.list || tyD (sqD k2 ss) Ty.tuple) = true := by cases k2 <;> rfl
    walk_at "w"
    rw [ty]
    walk_at "w"
    by_cases hne : ss = []
    · subst hne
      walk_at "w"
      exact q S (Ext.refl S)
    · have hle : ss.isEmpty = false := by cases ss with | nil => exact absurd rfl hne | cons _ _ => rfl
      rw [hle, Bool.not_false, Bool.true_and] at q
      rw [if_neg (show ¬ ((ss.length : Nat) : Int) = 0 by have := List.length_pos_iff.mpr hne; omega)]
      try simp only [wipeR]
      walk_at "w"
      refine wL_pure (fun x => some (D.bl (formD x))) (fun x hx => ?_) ?_
      · unfold wTn
        walk_at "w"
        refine formed_ok (t := t) h.h167 (hst x hx) ?_
        walk_at "w"
      · rw [all_filt, bi_allm, List.all_map]
        refine ⟨by walk_at "sz", _, rfl, _, rfl, ?_⟩
        change if (!(ss.all formD)) = true then _ else _
        unfold preP at q
        cases hall : ss.all formD with
        | false =>
          rw [hall, Bool.false_and, Bool.false_and] at q
          exact q S (Ext.refl S)
        | true =>
          rw [hall, Bool.true_and] at q
          rw [if_neg (by decide)]
          rw [hr']; clear hr'
          walk_at "w"
          have hf : ∀ s, s ∈ ss → formD s = true := List.all_eq_true.mp hall
          refine wFor_inv (fun i ρ S' => ∃ x4 x5 x6, ρ = [.val (sqD k1 (rs.map kD)), .val (sqD k2 ss), .own ((allN (ss.take i)).map .int), .no, x4, x5, x6] ∧ gtA 0 ss = gtA i (ss.drop i) ∧ (allN (ss.take i)).length ≤ 2 * i ∧ S' = S) ⟨_, _, _, rfl, rfl, Nat.le_refl _, rfl⟩ (fun i d ρ S1 hd' hI => ?_) fun ρ S1 hI => ?_
          · obtain ⟨x4, x5, x6, rfl, hg, hln, rfl⟩ := hI
            rw [enmL_get] at hd'
            obtain ⟨s, hs, rfl⟩ := map_some hd'
            have hi : i < ss.length := (List.getElem?_eq_some_iff.mp hs).1
            have hsm := List.mem_of_getElem? hs
            rw [List.drop_eq_getElem_cons hi, show ss[i] = s from (List.getElem?_eq_some_iff.mp hs).2] at hg
            rw [gtA_cons] at hg
            have hfs := hf s hsm
            have hnf := names_form hfs
            rw [Nat.zero_add]
            have hask : ∀ x, x ∈ namesD s → askable x = true := hnf.2 t (hst s hsm)
            have htk : gtA 0 ss = true → allN (ss.take (i + 1)) = allN (ss.take i) ++ nmI s := fun _ => by
              unfold allN
              rw [List.take_add_one, hs, List.flatMap_append]
              show _ ++ (nmI s ++ []) = _
              rw [List.append_nil]
            have htk' : allN (ss.take (i + 1)) = allN (ss.take i) ++ nmI s := by
              unfold allN
              rw [List.take_add_one, hs, List.flatMap_append]
              show _ ++ (nmI s ++ []) = _
              rw [List.append_nil]
            clear htk
            rcases form_lst hfs with ⟨xs, rfl, hxs⟩ | ⟨xs, rfl, hxs⟩
            · walk_at "w"
              rw [show cutD xs (some 3) none = namesD (.lst xs) by rw [← hxs]; exact cut_from (j := 3)]
              try simp only [wipeR]
              refine wL_pure (fun x => some (D.bl (gtN i x))) (fun x hx => ?_) ?_
              · unfold wTn
                walk_at "w"
                refine is_num_ok h.h121 (hask x hx) ?_
                cases x with
                | int j => simp only [intD]; walk_at "w"; rfl
                | _ => simp only [intD]; walk_at "w"; rfl
              · rw [all_filt, bi_allm, List.all_map]
                refine ⟨by rw [List.length_map, List.length_map]; exact lt_size (by have := hnf.1; omega), _, rfl, _, rfl, ?_⟩
                change if (!((namesD (.lst xs)).all (gtN i))) = true then _ else _
                cases hgn : (namesD (.lst xs)).all (gtN i) with
                | false =>
                  rw [hgn, Bool.false_and] at hg
                  rw [hg, Bool.false_and, Bool.false_and] at q
                  exact q S1 (Ext.refl S1)
                | true =>
                  rw [hgn, Bool.true_and] at hg
                  rw [if_neg (by decide)]
                  have hni : namesD (.lst xs) = (nmI (.lst xs)).map .int := ints_of (fun d => gtN_int) hgn
                  have hnl := nmI_len hni
                  have hl2 := hnf.1
                  refine ⟨lt_size5 (by omega), ?_⟩
                  rw [show (allN (ss.take i)).map D.int ++ namesD _ = (allN (ss.take (i + 1))).map D.int by rw [htk', List.map_append, ← hni]]
                  exact ⟨_, _, _, rfl, hg, by rw [htk', List.length_append, hnl]; omega, rfl⟩
            · walk_at "w"
              rw [show cutD xs (some 3) none = namesD (.tup xs) by rw [← hxs]; exact cut_from (j := 3)]
              try simp only [wipeR]
              refine wL_pure (fun x => some (D.bl (gtN i x))) (fun x hx => ?_) ?_
              · unfold wTn
                walk_at "w"
                refine is_num_ok h.h121 (hask x hx) ?_
                cases x with
                | int j => simp only [intD]; walk_at "w"; rfl
                | _ => simp only [intD]; walk_at "w"; rfl
              · rw [all_filt, bi_allm, List.all_map]
                refine ⟨by rw [List.length_map, List.length_map]; exact lt_size (by have := hnf.1; omega), _, rfl, _, rfl, ?_⟩
                change if (!((namesD (.tup xs)).all (gtN i))) = true then _ else _
                cases hgn : (namesD (.tup xs)).all (gtN i) with
                | false =>
                  rw [hgn, Bool.false_and] at hg
                  rw [hg, Bool.false_and, Bool.false_and] at q
                  exact q S1 (Ext.refl S1)
                | true =>
                  rw [hgn, Bool.true_and] at hg
                  rw [if_neg (by decide)]
                  have hni : namesD (.tup xs) = (nmI (.tup xs)).map .int := ints_of (fun d => gtN_int) hgn
                  have hnl := nmI_len hni
                  have hl2 := hnf.1
                  refine ⟨lt_size5 (by omega), ?_⟩
                  rw [show (allN (ss.take i)).map D.int ++ namesD _ = (allN (ss.take (i + 1))).map D.int by rw [htk', List.map_append, ← hni]]
                  exact ⟨_, _, _, rfl, hg, by rw [htk', List.length_append, hnl]; omega, rfl⟩
          · obtain ⟨x4, x5, x6, rfl, hg, hln, rfl⟩ := hI
            rw [enm_len0, List.drop_length, show gtA ss.length [] = true by rw [gtA]] at hg
            rw [enm_len0, List.take_length] at hln ⊢
            rw [hg, Bool.true_and] at q
            walk_at "w"
            rw [bi_sorted_b]
            refine ⟨_, rfl, ⟨by have := List.length_pos_iff.mpr hne; omega, by omega⟩, ?_⟩
            rw [show ((ss.length : Int) - 1).toNat = ss.length - 1 by omega, rngL_rngI, ne_ints]
            refine ⟨_, rfl, ?_⟩
            by_cases hsort : sortI (allN ss) = rngI ss.length
            · rw [decide_eq_true hsort, Bool.true_and] at q
              rw [if_neg (by rw [decide_eq_true hsort]; decide)]
              refine ⟨(show ([Sum.inl 0] : List Key).Nodup by decide), ?_⟩
              have pm : (allN ss).Perm (rngI ss.length) := by rw [← hsort]; exact (sortI_perm _).symm
              have hnd : (allN ss).Nodup := pm.nodup_iff.mpr (lt_nodup (rngI_sorted _))
              have hS0 : (S1 ++ [Cell.dct [.inl 0] [.lst (rs.map kD)]])[S1.length]? = some (.dct [.inl 0] [.lst (rs.map kD)]) := by rw [List.getElem?_append_right (Nat.le_refl _), Nat.sub_self]; rfl
              refine wFor_inv (fun i ρ S' => ∃ x4 x5 x6 K kk dd, ρ = [.val (sqD k1 (rs.map kD)), .val (sqD k2 ss), .own ((allN ss).map .int), .val (.ref S1.length), x4, x5, x6] ∧ S'[S1.length]? = some (.dct kk dd) ∧ DcK kk dd K (2 * i + 1) ∧ InvK w b t rs.length i K ∧ runQ w 0 (k0 rs) ss = runQ w i K (ss.drop i) ∧ gtA i (ss.drop i) = true ∧ (allN (ss.drop i)).Nodup ∧ (∀ x : Int, (i : Int) ≤ x → x < ss.length → x ∈ allN (ss.drop i) ∨ (K x).isSome = true) ∧ Ext S1 S') ⟨_, _, _, k0 rs, _, _, rfl, hS0, k0_dc rs, k0_inv h0 hr, rfl, hg, hnd, (fun x h1 h2 => ?_), Ext.app S1 _⟩ (fun i d ρ S2 hd' hI => ?_) fun ρ S2 hI => ?_
              · by_cases e : x = 0
                · subst e; exact .inr rfl
                · exact .inl (pm.mem_iff.mpr (rngI_mem.mpr ⟨by omega, h2⟩))
              · obtain ⟨x4, x5, x6, K, kk, dd, rfl, hS, hD, hK, hrun, hgi, hndi, hdom, hx⟩ := hI
                rw [enmL_get] at hd'
                obtain ⟨s, hs, rfl⟩ := map_some hd'
                have hi : i < ss.length := (List.getElem?_eq_some_iff.mp hs).1
                rw [List.drop_eq_getElem_cons hi, show ss[i] = s from (List.getElem?_eq_some_iff.mp hs).2] at hrun hgi hndi hdom
                rw [gtA_cons, Bool.and_eq_true] at hgi
                have hsm := List.mem_of_getElem? hs
                have hso := hst s hsm
                have hfs := hf s hsm
                have hnf := names_form hfs
                have hni : namesD s = (nmI s).map .int := ints_of (fun d => gtN_int) hgi.1
                have hnl := nmI_len hni
                have hnd2 : (nmI s ++ allN (ss.drop (i + 1))).Nodup := hndi
                rw [List.nodup_append] at hnd2
                have hgt : ∀ (ss : List D) (i : Nat), gtA i ss = true → ∀ x, x ∈ allN ss → (i : Int) < x := fun ss => by
                  induction ss with
                  | nil => intro i _ x hx; cases hx
                  | cons a ss ih =>
                    intro i hg x hx
                    rw [gtA_cons, Bool.and_eq_true] at hg
                    rcases List.mem_append.mp (show x ∈ nmI a ++ allN ss from hx) with hx | hx
                    · have := List.all_eq_true.mp hg.1 (.int x) (by rw [ints_of (fun d => gtN_int) hg.1]; exact List.mem_map_of_mem hx)
                      exact of_decide_eq_true this
                    · have := ih (i + 1) hg.2 x hx
                      omega
                have hKs : (K i).isSome = true := by
                  rcases hdom i (Int.le_refl _) (by omega) with z | z
                  · have := hgt (s :: ss.drop (i + 1)) i (by rw [gtA_cons, hgi.1, hgi.2]; rfl) _ z
                    omega
                  · exact z
                obtain ⟨ks, hKi⟩ := Option.isSome_iff_exists.mp hKs
                rw [runQ_some hKi] at hrun
                obtain ⟨g0, g1, g2⟩ := hK i ks hKi
                have hbi : i * (t + 10) ≤ n * (t + 10) := Nat.mul_le_mul_right _ (by omega)
                rw [Nat.zero_add]
                walk_at "w"
                simp only [dct_r hS]
                walk_at "w"
                rw [hD.2.2 i, hKi]
                walk_at "w"
                refine goes_by_ok (k := k + 1) (w := w) (b := b + i * (t + 10)) (t := t) h hso hfs hw0 hw g0 (by omega) (by omega) g2 ?_
                cases hsd : stepD w (rsK ks) s with
                | false =>
                  rw [hsd, Bool.false_and] at hrun
                  rw [show runQ w 0 (fun i => if i = 0 then some rs else none) ss = false from hrun] at q
                  walk_at "w"
                  exact q S2 hx
                | true =>
                  rw [hsd, Bool.true_and] at hrun
                  have hlen : (nmI s).length = (nextK w ks s).length := by rw [hnl, names_len hsd]
                  walk_at "w"
                  have hcd : cellD S2 S1.length = some (kk, dd) := by unfold cellD; rw [hS]
                  refine ⟨by show (cellD S2 S1.length).isSome = true; rw [hcd]; rfl, ?_⟩
                  have hsl3 : ∃ r, slice S2 (.val s) (some 3) none = some r ∧ sview S2 r = some ((nmI s).map .int) := by
                    rcases form_lst hfs with ⟨xs, rfl, hxs⟩ | ⟨xs, rfl, hxs⟩
                    · exact ⟨.own (cutD xs (some 3) none), rfl, by show some (cutD xs (some 3) none) = _; rw [show cutD xs (some 3) none = xs.drop 3 from cut_from (j := 3), hxs, hni]⟩
                    · exact ⟨.val (.tup (cutD xs (some 3) none)), rfl, by show some (cutD xs (some 3) none) = _; rw [show cutD xs (some 3) none = xs.drop 3 from cut_from (j := 3), hxs, hni]⟩
                  obtain ⟨rv, hrv, hsv⟩ := hsl3
                  refine ⟨rv, hrv, ?_⟩
                  rw [dct_r hS]
                  refine ⟨_, rfl, ?_⟩
                  rw [hD.2.2 i, hKi]
                  refine ⟨_, rfl, ?_⟩
                  refine put_behind_ok (k := k + 1) (w := w) (b := b + i * (t + 10)) (t := t) h hso hsd ht9 hw g0 (by omega) (by omega) g2 ?_
                  have hbe : behL ks (behD w (rsK ks) s) = (nextK w ks s).map fun r => D.lst (r.map kD) := by
                    unfold behL nextK; rw [List.map_map]; rfl
                  have hnl2 : (nmI s).length ≤ 2 := by rw [hnl]; exact hnf.1
                  have hkn : ((nmI s).map Sum.inl : List Key).Nodup := by
                    unfold List.Nodup
                    rw [List.pairwise_map]
                    exact hnd2.1.imp fun h z => h (Sum.inl.inj z)
                  have hz : P2.run G S2 .dzip rv (.own (behL ks (behD w (rsK ks) s))) = some (.ownd ((nmI s).map .inl) ((nextK w ks s).map fun r => D.lst (r.map kD)), S2) := by
                    show (sview S2 rv).bind _ = _
                    rw [hsv, Option.bind_some, keys_int, Option.bind_some]
                    show (if _ then _ else _) = _
                    rw [if_pos ⟨hkn, by rw [List.length_map, hlen, hbe, List.length_map], by rw [List.length_map]; omega⟩, hbe]
                  refine ⟨_, _, hz, ?_⟩
                  have hu : P2.run G S2 .upd (.val (.ref S1.length)) (.ownd ((nmI s).map .inl) ((nextK w ks s).map fun r => D.lst (r.map kD))) = some (.val .non, S2.set S1.length (.dct (mergeD (kk, dd) ((nmI s).map .inl) ((nextK w ks s).map fun r => D.lst (r.map kD))).1 (mergeD (kk, dd) ((nmI s).map .inl) ((nextK w ks s).map fun r => D.lst (r.map kD))).2)) := by
                    show (cellD S2 S1.length).bind _ = _
                    rw [hcd, Option.bind_some]
                    show (if _ then _ else _) = _
                    rw [if_pos (by show kk.length + ((nmI s).map Sum.inl : List Key).length ≤ 1000000; rw [List.length_map]; have := hD.2.1; omega)]
                  refine ⟨_, _, hu, ?_⟩
                  have hm := DcK.merge (nmI s) (nextK w ks s) kk dd K _ hlen hD
                  refine ⟨_, _, _, putK K (nmI s) (nextK w ks s), _, _, rfl, ?_, ⟨hm.1, by have := hm.2.1; omega, hm.2.2⟩, hK.step hKi hso hsd (by omega), hrun, hgi.2, hnd2.2.1, (fun x h1 h2 => ?_), hx.set (Nat.le_refl _)⟩
                  · rw [List.getElem?_set_self (List.getElem?_eq_some_iff.mp hS).1]
                  · rcases hdom x (by omega) h2 with z | z
                    · rcases List.mem_append.mp (show x ∈ nmI s ++ allN (ss.drop (i + 1)) from z) with z | z
                      · exact .inr ((putK_dom (x := x) (nmI s) (nextK w ks s) K hlen).mpr (.inl z))
                      · exact .inl z
                    · exact .inr ((putK_dom (x := x) (nmI s) (nextK w ks s) K hlen).mpr (.inr z))
              · obtain ⟨x4, x5, x6, K, kk, dd, rfl, hS, hD, hK, hrun, hgi, hndi, hdom, hx⟩ := hI
                rw [enm_len0, List.drop_length, show runQ w ss.length K [] = true by rw [runQ]] at hrun
                rw [show runQ w 0 (fun i => if i = 0 then some rs else none) ss = true from hrun] at q
                walk_at "w"
                exact q S2 hx
            · rw [decide_eq_false hsort, Bool.false_and] at q
              rw [if_pos (by rw [decide_eq_false hsort]; rfl)]
              exact q S1 (Ext.refl S1)
  · have ask := hd.1
    unfold papD at q
    rw [hnone] at q
    cases d with
    | tup xs => cases hnone
    | lst xs => cases hnone
    | non => walk_at "w"; exact q S (Ext.refl S)
    | bl b => walk_at "w"; exact q S (Ext.refl S)
    | int i => walk_at "w"; exact q S (Ext.refl S)
    | str s => walk_at "w"; exact q S (Ext.refl S)
    | scr _ => cases ask
    | ref _ => cases ask
    | dct _ _ => cases ask
end
end Mi.Lw
end
section
namespace Mi
open PySem L2
local macro_rules | `(tactic| walk_at "w") => `(tactic| try simp only [wSs_cons, wSs_nil, wS_asg, wS_own, wS_aug, wS_app, wS_ext, exV_o, exV_t, wS_rev, wS_sown, wS_pops, wS_ite, wS_for, wS_ret, wS_reto, wS_expr, wS_frz, wS_par, wS_par3, slOf_f, slOf_fo, slOf_t, frzN_own, frzN_val, retOk_v, retOk_o,
  wE_var, wE_bor, wE_con, wE_glb, wE_bin, wE_cmp, wE_idx, wE_neg, wE_not, wE_and, wE_or, wE_ite, wE_chn, wE_tup, wE_lst, wE_slc, wE_call, wE_callp, lends_nil, lends_v, lends_o, lends_b, wE_bi, wE_comp, wE_new, newC_own, newC_ownd, wE_o1, wE_o2, wE_o3, wE_dct, wE_dgt, wE_din, wEs_nil, wEs_cons, wRs_nil, wRs_cons, wO_no, wO_yes, wC_no, wC_yes,
  wI_rng1, wI_rng2, wI_seq, wI_enm, wI_zip2, wT_nm, wT_sub, wT_tp, wTs_nil, wTs_cons,
  List.map_cons, List.map_nil, List.cons_append, List.nil_append, List.replicate_succ, List.replicate_zero, List.getElem?_cons_zero, List.getElem?_cons_succ, List.set_cons_zero, List.set_cons_succ, List.length_cons, List.length_nil, Nat.reduceSub, Nat.reduceAdd, Nat.reduceLT, Nat.reduceLeDiff, Nat.reduceEqDiff,
  Option.some.injEq, Sl.val.injEq, Sl.own.injEq, Rt.val.injEq, Rt.own.injEq, D.int.injEq, D.bl.injEq, D.ref.injEq, D.tup.injEq, D.lst.injEq, D.str.injEq, exists_eq_left, exists_eq_left', exists_eq_right, exists_eq_right', rd_val, rd_own, rd_ownd, ne_eq, reduceCtorEq, not_false_eq_true, not_true_eq_false, implies_true, true_and, and_true, and_self, false_and, and_false, exists_false, Prod.mk.injEq,
  bin_add, bin_sub, bin_mul', bin_fdiv', bin_mod', bin_pow', bin_shl', rep_own, rep_tup, cat_lo, cat_oo, cat_ll, cat_ol, cat_tt, cat_ss, cat_bo, cat_ob, cat_bl, cat_lb, cmp_int, cmp_intn, cmp_str, cmp_strs, cmp_strsn, ofString_inj, cmp_lt, cmp_le, cmp_gt, cmp_ge, cmp_isn, cmp_isnn, cmp_isb, cmp_isnb, cmp_blne, cmp_bleq, bi_divmod', bi_abs', bi_intb, bi_min2, bi_max2, bi_lenl, bi_lens, bi_lent, bi_leno, bi_lenb, bi_listo, bi_listl, bi_listt, bi_listb, bi_tupo, bi_tupb, bi_tupt, bi_tupl, sl_scr, sl_lst, sl_tup, sl_own, sl_bor, ix_tup, ix_lst, ix_own, ix_bor, atI_0, atI_1, atI_2, String.reduceEq, decide_false, decide_true, decide_eq_true_eq, Bool.false_eq_true, if_false, if_true, reduceIte, Bool.not_false, Bool.not_true, Int.reduceLT, Int.reduceLE, Int.reduceToNat, Int.reduceNeg, Int.reduceAdd, Int.reduceSub, Int.reduceMul, Int.reduceEq, Nat.lt_irrefl, forall_const, size_ok, inRng_ok, still_l, still_t, still_o, still_b, still_sq, ix_sq, bi_lensq, bi_tupsq, bi_listsq, bi_sumo, bi_sumt, bi_sumq, bi_sumf, bi_maxt, bi_mint, bi_maxo, bi_minq, bi_allt, bi_allm, bi_anym, ix_row0, ix_row1, bi_lenrow, List.length_map, Int.cast_ofNat_Int,
  isi1_n, isi_n, isi1_b, isi_b, isi1_i, isi_i, isi1_s, isi_s, isi1_t, isi_t, isi1_l, isi_l, isi1_c, isi_c, isi1_r, isi_r, isi1_q, isi_q, isi_o, bi_isi1o, bi_isi1b, tyD_t, tyD_i, tyD_b, tyD_s, tyD_l, tyD_n, tyD_row, List.any_cons, List.any_nil, Bool.or_false, Bool.or_true, Bool.true_or, Bool.false_or, Bool.and_true, Bool.true_and, Bool.and_false, Bool.false_and, beq_self_eq_true, bne_self_eq_false, beq_true, beq_false, isN,
  p_lrng, p_revl, p_revo, p_revb, p_revt, p_sseto, p_lsetl, p_lsett, p_mxdo, p_premxd, p_predzip, p_lsetb, p_prelrng2, p_lrng2, p_gget, p_gin, p_mx3, p_get, p_presplit, p_prejoin, p_split, dct_o, dct_v, key_i, key_s, valD_cons, valD_nil, Sum.inr.injEq, Sum.inl.injEq, Option.isSome_some, Option.isSome_none, Bool.xor_false, Bool.xor_true, Bool.false_xor, Bool.true_xor, Option.getD_some, Option.getD_none, cmp_notin, in_nil, in_1, in_2, in_3, in_4, in_5, in_6, in_11, in_intsT, in_intsL, in_intsB, Option.map_some, List.all_cons, List.all_nil, flatD_s, flatD_i, divok_s, mulok_ls, mulok_rs])

def AL : Nat → D → Prop
  | _, .non => True
  | _, .bl _ => True
  | _, .int _ => True
  | _, .str _ => True
  | n + 1, .tup ds => ds.length ≤ 16777216 ∧ ∀ d, d ∈ ds → AL n d
  | n + 1, .lst ds => ds.length ≤ 16777216 ∧ ∀ d, d ∈ ds → AL n d
  | _, _ => False
theorem zip_same : ∀ ds : List D, zipL ds ds = ds.map fun d => .tup [d, d]
  | [] => rfl
  | d :: ds => by
    show D.tup [d, d] :: zipL ds ds = _
    rw [zip_same ds]; rfl
theorem AL.ints {n : Nat} {is : List Int} : ∀ d, d ∈ is.map D.int → AL n d := fun d hd => by
  obtain ⟨x, _, rfl⟩ := List.mem_map.mp hd
  cases n <;> trivial
theorem alike_ok {P : Nat → Option FD} {G : List D} (hP : P 32 = some l_alike) : ∀ (n : Nat) (d : D) (k : Nat) (S : Sto) (Q : Rt → Sto → Prop), AL n d → n + 1 ≤ k → Q (.val (.bl true)) S → wF (runF P G k) 32 [d, d] S Q := by
  intro n
  induction n with
  | zero =>
    intro d k S Q h hk q
    obtain ⟨k, rfl⟩ : ∃ k', k = k' + 1 := ⟨k - 1, by omega⟩
    refine wF_of hP rfl ?_
    unfold l_alike
    cases d with
    | non => walk_at "w"; exact ⟨true, rfl, q⟩
    | bl b => walk_at "w"; exact q
    | int i => walk_at "w"; exact q
    | str x => walk_at "w"; exact q
    | tup ds => cases h
    | lst ds => cases h
    | scr ds => cases h
    | ref l => cases h
    | dct _ _ => cases h
  | succ n ih =>
    intro d k S Q h hk q
    obtain ⟨k, rfl⟩ : ∃ k', k = k' + 1 := ⟨k - 1, by omega⟩
    refine wF_of hP rfl ?_
    unfold l_alike
    have seq : ∀ ds : List D, (ds.length ≤ 16777216 ∧ ∀ d, d ∈ ds → AL n d) → ∀ ρ : Env, ρ.length = 4 → wL (runF P G k) G (.tp (.cons (.nm 2) (.cons (.nm 3) .nil))) .no (.call 32 (.cons (.var 2) (.cons (.var 3) .nil))) ρ (zipL ds ds) S (fun xs S2 => xs.length ≤ sizeLine ∧ ∃ r, biop S2 .all [.own xs] = some r ∧ retOk r = true ∧ Q r S2) := by
      intro ds hds ρ hρ
      obtain ⟨a, b, c, d, rfl⟩ : ∃ a b c d, ρ = [a, b, c, d] := by
        match ρ, hρ with
        | [a, b, c, d], _ => exact ⟨a, b, c, d, rfl⟩
      rw [zip_same]
      refine wL_map (fun _ => .bl true) (fun x hx => ?_) ?_
      · unfold wTn
        walk_at "w"
        refine ih x k S _ (hds.2 x hx) (by omega) ?_
        walk_at "w"
      · rw [List.length_map]
        exact ⟨hds.1, _, bi_allt, rfl, q⟩
    cases d with
    | non => walk_at "w"; exact ⟨true, rfl, q⟩
    | bl b => walk_at "w"; exact q
    | int i => walk_at "w"; exact q
    | str x => walk_at "w"; exact q
    | tup ds =>
      walk_at "w"
      exact seq ds h _ rfl
    | lst ds =>
      walk_at "w"
      exact seq ds h _ rfl
    | scr ds => cases h
    | ref l => cases h
    | dct _ _ => cases h

abbrev BIG : Nat := 1000000000000
theorem boxes_ok {P : Nat → Option FD} {G : List D} {k m : Nat} {ns : List Int} {Q : Rt → Sto → Prop} (hP3 : P 3 = some l_box) (hP5 : P 5 = some l_folded) (hP : P 33 = some l_boxes) (hl : ns.length ≤ 63) (hm : 0 < m) (hm2 : m ≤ 63)
    (q : ∀ (n : Nat) (S' : Sto), 0 < n → n ≤ m → S'.length = n → (∀ i, i < n → Bx i BIG S') → Q (.own ((List.range n).map fun i => .ref i)) S') : wF (runF P G (k + 2)) 33 [.scr (ns.map .int), .int m] [] Q := by
  refine wF_of hP rfl ?_
  unfold l_boxes
  walk_at "w"
  refine folded_ok (m := m) hP5 hl hm hm2 fun is his => ?_
  walk_at "w"
  have hn : ∃ n : Nat, (if ((is.length : Nat) : Int) > 1 then ((is.length : Nat) : Int) else 1) = (n : Int) ∧ 0 < n ∧ n ≤ m := by
    split
    · exact ⟨is.length, rfl, by omega, by omega⟩
    · exact ⟨1, rfl, by decide, by omega⟩
  obtain ⟨n, en, hn0, hn6⟩ := hn
  rw [en, Int.toNat_natCast]
  refine ⟨⟨by omega, by omega⟩, ?_⟩
  refine wL_inv (fun i ys S' => ys = (List.range i).map (fun i => .ref i) ∧ S'.length = i ∧ ∀ j, j < i → Bx j BIG S') ⟨rfl, rfl, fun j hj => by omega⟩ (fun i d ys S' hd h => ?_) fun ys S' h => ?_
  · obtain ⟨rfl, hS, hB⟩ := h
    rw [rngL_get] at hd
    split at hd
    · cases hd
      unfold wTn wipeR wipeR
      walk_at "w"
      rw [Int.zero_add]
      refine box_ok (ns := is) (j := i) hP3 (by omega) (by omega) fun u v hu hv hv2 => ?_
      walk_at "w"
      refine ⟨by rw [List.range_succ, List.map_append, hS]; rfl, by rw [List.length_append, hS]; rfl, fun j hj => ?_⟩
      by_cases e : j = i
      · subst e
        exact ⟨u, v, 0, by rw [List.getElem?_append_right (by omega), hS, Nat.sub_self]; rfl, hu, hv, hv2, by decide, by decide⟩
      · obtain ⟨a, b, c, h1, h2⟩ := hB j (by omega)
        exact ⟨a, b, c, by rw [List.getElem?_append_left (by omega)]; exact h1, h2⟩
    · cases hd
  · obtain ⟨rfl, hS, hB⟩ := h
    rw [rngL_len] at hS hB ⊢
    refine ⟨by rw [List.length_map, List.length_range]; exact lt_size (by omega), ?_⟩
    walk_at "w"
    exact q n S' hn0 hn6 hS hB

def Wld (n : Nat) (M : Int) (cs : List Int) : Prop := cs.length = n ∧ (∀ c, c ∈ cs → 0 ≤ c ∧ c ≤ M) ∧ cs.sum ≤ M
theorem at5 {j : Nat} (h : j ≤ 4) : atI [D.int 1, .int 2, .int 4, .int 8, .int 16] (j : Int) = some (.int (2 ^ j)) := by
  match j, h with
  | 0, _ => rfl
  | 1, _ => rfl
  | 2, _ => rfl
  | 3, _ => rfl
  | 4, _ => rfl
theorem two_pow5 {m : Nat} (h : m ≤ 4) : (2 : Nat) ^ m ≤ 16 := Nat.le_trans (Nat.pow_le_pow_right (by decide) h) (by decide)
theorem sum_nonneg : ∀ cs : List Int, (∀ c, c ∈ cs → 0 ≤ c) → 0 ≤ cs.sum
  | [], _ => by simp
  | c :: cs, h => by
    rw [List.sum_cons]
    have := h c List.mem_cons_self
    have := sum_nonneg cs fun c hc => h c (List.mem_cons_of_mem _ hc)
    omega
theorem world_ok {P : Nat → Option FD} {G : List D} {k l m B : Nat} {M : Nat} {S : Sto} {Q : Rt → Sto → Prop} (hP4 : P 4 = some l_take) (hP : P 31 = some l_world) (hm : m ≤ 4) (hM : M ≤ 100) (hB : Bx l (B + 48) S)
    (q : ∀ cs S', Wld (2 ^ m) M cs → Bx l B S' → Fr l S S' → Q (.val (.tup (cs.map .int))) S') : wF (runF P G (k + 2)) 31 [.ref l, .int m, .int M] S Q := by
  refine wF_of hP rfl ?_
  unfold l_world
  walk_at "w"
  have h16 := two_pow5 hm
  have e2 : (2 : Int) ^ m = ((2 ^ m : Nat) : Int) := by simp
  refine ⟨_, at5 hm, ?_⟩
  walk_at "w"
  rw [e2, Int.toNat_natCast]
  generalize 2 ^ m = w at h16 q ⊢
  refine ⟨⟨by omega, by omega⟩, ?_⟩
  refine wFor_inv (fun i ρ S' => ∃ cs : List Int, ∃ x y, ρ = [.val (.ref l), .val (.int m), .val (.int M), .val (.int (M - cs.sum)), .own (cs.map .int), x, y] ∧ cs.length = i ∧ (∀ c, c ∈ cs → 0 ≤ c ∧ c ≤ (M : Int)) ∧ cs.sum ≤ M ∧ Bx l (B + 3 * (w - i)) S' ∧ Fr l S S') ⟨[], .no, .no, by simp, rfl, (fun _ z => nomatch z), by simp, hB.mono (by omega), Fr.refl l S⟩ (fun i d ρ S1 hd h => ?_) fun ρ S1 h => ?_
  · obtain ⟨cs, x, y, rfl, hl, hc, hs, hB1, f1⟩ := h
    rw [rngL_get] at hd
    split at hd
    · cases hd
      walk_at "w"
      refine take_ok (B := B + 3 * (w - (i + 1)) + 2) hP4 (hB1.mono (by omega)) (by decide) (by decide) fun a S2 a0 a1 hB2 f2 => ?_
      walk_at "w"
      refine take_ok (B := B + 3 * (w - (i + 1)) + 1) hP4 hB2 (by omega) (by omega) fun b S3 b0 b1 hB3 f3 => ?_
      walk_at "w"
      refine take_ok (B := B + 3 * (w - (i + 1))) hP4 hB3 (by decide) (by decide) fun c S4 c0 c1 hB4 f4 => ?_
      walk_at "w"
      refine ix_any (fun d => ∃ z : Int, d = .int z ∧ 0 ≤ z) c0 (by simpa using c1) (fun d hd => ?_) fun d hd => ?_
      · simp only [List.mem_cons, List.not_mem_nil, or_false] at hd
        rcases hd with rfl | rfl | rfl | rfl | rfl <;> exact ⟨_, rfl, by omega⟩
      · obtain ⟨z, rfl, hz⟩ := hd
        walk_at "w"
        have hmin : ∃ y : Int, (if z < (M : Int) - cs.sum then z else (M : Int) - cs.sum) = y ∧ 0 ≤ y ∧ y ≤ (M : Int) - cs.sum := by
          split
          · exact ⟨z, rfl, hz, by omega⟩
          · exact ⟨_, rfl, by omega, by omega⟩
        obtain ⟨y, ey, y0, y1⟩ := hmin
        rw [ey]
        have hsum0 := sum_nonneg cs fun c h => (hc c h).1
        have e5 : (M : Int) - cs.sum - y = M - (cs ++ [y]).sum := by rw [List.sum_append, List.sum_singleton]; omega
        have e6 : (cs ++ [y]).sum ≤ M := by rw [List.sum_append, List.sum_singleton]; omega
        rw [e5, show cs.map D.int ++ [D.int y] = (cs ++ [y]).map D.int by simp]
        refine ⟨lt_size (by omega), cs ++ [y], _, _, rfl, by rw [List.length_append, hl]; rfl, fun c h => ?_, e6, hB4, f1.trans (f2.trans (f3.trans f4))⟩
        rcases List.mem_append.mp h with h | h
        · exact hc c h
        · rw [List.mem_singleton.mp h]; omega
    · cases hd
  · obtain ⟨cs, x, y, rfl, hl, hc, hs, hB1, f1⟩ := h
    rw [rngL_len] at hl hB1
    walk_at "w"
    exact q cs S1 ⟨hl, hc, hs⟩ (hB1.mono (by omega)) f1
theorem refs_get {n i : Nat} {d : D} (h : ((List.range n).map fun i => D.ref i)[i]? = some d) : i < n ∧ d = .ref i := by
  rw [List.getElem?_map] at h
  obtain ⟨j, hj, rfl⟩ := map_some h
  obtain ⟨h1, h2⟩ := List.getElem?_eq_some_iff.mp hj
  rw [List.length_range] at h1
  rw [List.getElem_range] at h2
  exact ⟨h1, by rw [h2]⟩
theorem rng_get {n i : Nat} {d : D} (h : (rngL 0 n)[i]? = some d) : i < n ∧ d = .int i := by
  rw [rngL_get] at h
  split at h
  · cases h
    rename_i hi
    exact ⟨hi, by rw [Int.zero_add]⟩
  · cases h

theorem Fr.rest {l n B : Nat} {S S' : Sto} (f : Fr l S S') (h : ∀ j, l ≤ j → j < n → Bx j B S) : ∀ j, l + 1 ≤ j → j < n → Bx j B S' := fun j h1 h2 => by
  obtain ⟨a, b, c, e, r⟩ := h j (by omega) h2
  exact ⟨a, b, c, by rw [f.2 j (by omega)]; exact e, r⟩
end Mi
end
section
namespace Mi.Lw
open PySem L2
local macro_rules | `(tactic| walk_at "w") => `(tactic| try simp only [wSs_cons, wSs_nil, wS_asg, wS_own, wS_aug, wS_app, wS_ext, exV_o, exV_t, wS_rev, wS_sown, wS_pops, wS_ite, wS_for, wS_ret, wS_reto, wS_expr, wS_frz, wS_par, wS_par3, slOf_f, slOf_fo, slOf_t, frzN_own, frzN_val, retOk_v, retOk_o,
  wE_var, wE_bor, wE_con, wE_glb, wE_bin, wE_cmp, wE_idx, wE_neg, wE_not, wE_and, wE_or, wE_ite, wE_chn, wE_tup, wE_lst, wE_slc, wE_call, wE_callp, lends_nil, lends_v, lends_o, lends_b, wE_bi, wE_comp, wE_new, newC_own, newC_ownd, wE_o1, wE_o2, wE_o3, wE_dct, wE_dgt, wE_din, wEs_nil, wEs_cons, wRs_nil, wRs_cons, wO_no, wO_yes, wC_no, wC_yes,
  wI_rng1, wI_rng2, wI_seq, wI_enm, wI_zip2, wT_nm, wT_sub, wT_tp, wTs_nil, wTs_cons,
  List.map_cons, List.map_nil, List.cons_append, List.nil_append, List.replicate_succ, List.replicate_zero, List.getElem?_cons_zero, List.getElem?_cons_succ, List.set_cons_zero, List.set_cons_succ, List.length_cons, List.length_nil, Nat.reduceSub, Nat.reduceAdd, Nat.reduceLT, Nat.reduceLeDiff, Nat.reduceEqDiff,
  Option.some.injEq, Sl.val.injEq, Sl.own.injEq, Rt.val.injEq, Rt.own.injEq, D.int.injEq, D.bl.injEq, D.ref.injEq, D.tup.injEq, D.lst.injEq, D.str.injEq, exists_eq_left, exists_eq_left', exists_eq_right, exists_eq_right', rd_val, rd_own, rd_ownd, ne_eq, reduceCtorEq, not_false_eq_true, not_true_eq_false, implies_true, true_and, and_true, and_self, false_and, and_false, exists_false, Prod.mk.injEq,
  bin_add, bin_sub, bin_mul', bin_fdiv', bin_mod', bin_pow', bin_shl', rep_own, rep_tup, cat_lo, cat_oo, cat_ll, cat_ol, cat_tt, cat_ss, cat_bo, cat_ob, cat_bl, cat_lb, cmp_int, cmp_intn, cmp_str, cmp_strs, cmp_strsn, ofString_inj, cmp_lt, cmp_le, cmp_gt, cmp_ge, cmp_isn, cmp_isnn, cmp_isb, cmp_isnb, cmp_blne, cmp_bleq, bi_divmod', bi_abs', bi_intb, bi_min2, bi_max2, bi_lenl, bi_lens, bi_lent, bi_leno, bi_lenb, bi_listo, bi_listl, bi_listt, bi_listb, bi_tupo, bi_tupb, bi_tupt, bi_tupl, sl_scr, sl_lst, sl_tup, sl_own, sl_bor, ix_tup, ix_lst, ix_own, ix_bor, atI_0, atI_1, atI_2, String.reduceEq, decide_false, decide_true, decide_eq_true_eq, Bool.false_eq_true, if_false, if_true, reduceIte, Bool.not_false, Bool.not_true, Int.reduceLT, Int.reduceLE, Int.reduceToNat, Int.reduceNeg, Int.reduceAdd, Int.reduceSub, Int.reduceMul, Int.reduceEq, Nat.lt_irrefl, forall_const, size_ok, inRng_ok, still_l, still_t, still_o, still_b, still_sq, ix_sq, bi_lensq, bi_tupsq, bi_listsq, bi_sumo, bi_sumt, bi_sumq, bi_sumf, bi_maxt, bi_mint, bi_maxo, bi_minq, bi_allt, bi_allm, bi_anym, ix_row0, ix_row1, bi_lenrow, List.length_map, Int.cast_ofNat_Int,
  isi1_n, isi_n, isi1_b, isi_b, isi1_i, isi_i, isi1_s, isi_s, isi1_t, isi_t, isi1_l, isi_l, isi1_c, isi_c, isi1_r, isi_r, isi1_q, isi_q, isi_o, bi_isi1o, bi_isi1b, tyD_t, tyD_i, tyD_b, tyD_s, tyD_l, tyD_n, tyD_row, List.any_cons, List.any_nil, Bool.or_false, Bool.or_true, Bool.true_or, Bool.false_or, Bool.and_true, Bool.true_and, Bool.and_false, Bool.false_and, beq_self_eq_true, bne_self_eq_false, beq_true, beq_false, isN,
  p_lrng, p_revl, p_revo, p_revb, p_revt, p_sseto, p_lsetl, p_lsett, p_mxdo, p_premxd, p_predzip, p_lsetb, p_prelrng2, p_lrng2, p_gget, p_gin, p_mx3, p_get, p_presplit, p_prejoin, p_split, dct_o, dct_v, key_i, key_s, valD_cons, valD_nil, Sum.inr.injEq, Sum.inl.injEq, Option.isSome_some, Option.isSome_none, Bool.xor_false, Bool.xor_true, Bool.false_xor, Bool.true_xor, Option.getD_some, Option.getD_none, cmp_notin, in_nil, in_1, in_2, in_3, in_4, in_5, in_6, in_11, in_intsT, in_intsL, in_intsB, Option.map_some, List.all_cons, List.all_nil, flatD_s, flatD_i, divok_s, mulok_ls, mulok_rs])
local macro_rules | `(tactic| walk_at "sz") => `(tactic| (refine Nat.le_trans (m := 10000000) ?_ (show 10000000 ≤ 16777216 by decide); (try simp only [List.length_append, List.length_map, List.length_take, List.length_drop, List.length_cons, List.length_nil, List.length_zip, List.length_reverse, List.length_replicate, List.length_range, rngL_len]); omega))

theorem bx_new {S : Sto} {a b : Int} (ha : 0 ≤ a) (hb : 0 ≤ b) (hb2 : b < 2147483648) : Bx S.length BIG (S ++ [Cell.lst [.int a, .int b, .int 0]]) := ⟨a, b, 0, by rw [List.getElem?_append_right (Nat.le_refl _), Nat.sub_self]; rfl, ha, hb, hb2, by decide, show (0 : Int) + ((1000000000000 : Nat) : Int) ≤ 1152921504606846976 by decide⟩
theorem sum_small {M : Int} : ∀ {xs : List Int}, (∀ x, x ∈ xs → -M ≤ x ∧ x ≤ M) → -(M * xs.length) ≤ xs.sum ∧ xs.sum ≤ M * xs.length
  | [], _ => by simp
  | x :: xs, h => by
    have h1 := h x List.mem_cons_self
    have h2 := sum_small fun y hy => h y (List.mem_cons_of_mem _ hy)
    rw [List.sum_cons, List.length_cons, show M * ((xs.length + 1 : Nat) : Int) = M * xs.length + M by rw [Int.natCast_add, Int.mul_add]; simp]
    omega
theorem mul_s3 {a b M : Int} (ha : 0 ≤ a ∧ a ≤ 3) (hb : -M ≤ b ∧ b ≤ M) : -(3 * M) ≤ a * b ∧ a * b ≤ 3 * M := by
  have : a = 0 ∨ a = 1 ∨ a = 2 ∨ a = 3 := by omega
  rcases this with rfl | rfl | rfl | rfl <;> omega
theorem getD_mem {xs : List Int} {c : Nat} (h : c < xs.length) : xs.getD c 0 ∈ xs := by
  rw [List.getD_eq_getElem?_getD, List.getElem?_eq_getElem h]
  exact List.getElem_mem h
theorem sum_row {w n : Nat} {M : Int} {rs : List Row} {ts : List Int} (hM : 0 ≤ M) (hr : ∀ r, r ∈ rs → RowOk w M r) (ht : ∀ t, t ∈ ts → 0 ≤ t ∧ t ≤ 3) (hl : rs.length ≤ n) : RowOk w (3 * M * n) (sumRows w (rs.zip ts)) := by
  have key : ∀ xs : List Int, xs.length ≤ n → (∀ x, x ∈ xs → -(3 * M) ≤ x ∧ x ≤ 3 * M) → -(3 * M * n) ≤ xs.sum ∧ xs.sum ≤ 3 * M * n := fun xs hxl hx => by
    have h := sum_small hx
    have h2 : 3 * M * (xs.length : Int) ≤ 3 * M * n := Int.mul_le_mul_of_nonneg_left (by omega) (by omega)
    omega
  have len : (sumRows w (rs.zip ts)).1.length = w := foldRow_len _ _ (List.length_replicate ..) fun p hp => (hr p.1 (List.of_mem_zip hp).1).1
  have hzl : ∀ {α : Type} (g : Row × Int → α), ((rs.zip ts).map g).length ≤ n := fun g => by rw [List.length_map, List.length_zip]; omega
  refine ⟨len, fun x hx => ?_, ?_⟩
  · obtain ⟨c, hc⟩ := List.mem_iff_getElem?.mp hx
    have hcl := (List.getElem?_eq_some_iff.mp hc).1
    rw [len] at hcl
    rw [sumRows_fst (fun r h => (hr r h).1) hcl] at hc
    cases hc
    unfold csum
    refine key _ (hzl _) fun x hx => ?_
    obtain ⟨p, hp, rfl⟩ := List.mem_map.mp hx
    have h1 := ht p.2 (List.of_mem_zip hp).2
    have h2 := hr p.1 (List.of_mem_zip hp).1
    exact mul_s3 h1 (h2.2.1 _ (getD_mem (by rw [h2.1]; exact hcl)))
  · rw [sumRows_snd]
    unfold lsum
    refine key _ (hzl _) fun x hx => ?_
    obtain ⟨p, hp, rfl⟩ := List.mem_map.mp hx
    have h1 := ht p.2 (List.of_mem_zip hp).2
    have h2 := hr p.1 (List.of_mem_zip hp).1
    exact mul_s3 h1 h2.2.2
theorem closed_shows {w : Nat} {rs : List Row} {ts : List Int} {r' : Row} (hl : rs.length = ts.length) (hr : ∀ r, r ∈ rs → r.1.length = w) (h1 : ∀ c, c < w → r'.1.getD c 0 ≤ -(sumRows w (rs.zip ts)).1.getD c 0) (h2 : 1 - (sumRows w (rs.zip ts)).2 ≤ r'.2) : shows w (rs ++ [r']) (ts ++ [1]) = true := by
  unfold shows
  have ez : (rs ++ [r']).zip (ts ++ [1]) = rs.zip ts ++ [(r', 1)] := List.zip_append hl
  rw [Bool.and_eq_true, decide_eq_true_eq, List.all_eq_true]
  constructor
  · unfold lsum
    rw [ez, List.map_append, List.sum_append]
    rw [sumRows_snd] at h2
    unfold lsum at h2
    simp
    omega
  · intro c hc
    rw [decide_eq_true_eq]
    have hc := List.mem_range.mp hc
    have := h1 c hc
    rw [List.getD_eq_getElem?_getD (l := (sumRows w (rs.zip ts)).1), sumRows_fst hr hc] at this
    unfold csum at this ⊢
    rw [ez, List.map_append, List.sum_append]
    simp only [List.map_cons, List.map_nil, List.sum_cons, List.sum_nil, Option.getD_some] at this ⊢
    omega
theorem map_ofR (rs : List Row) : (rs.map ofR).map kD = rs.map dRow := by rw [List.map_map]; rfl
theorem rsK_ofR (rs : List Row) : rsK (rs.map ofR) = rs := by
  unfold rsK
  rw [List.map_map, show ((fun k : KRow => k.1) ∘ ofR) = id from rfl, List.map_id]
theorem bd70 {i : Int} (h1 : -1000000000000000000000 ≤ i) (h2 : i ≤ 1000000000000000000000) : Bd 70 i := by
  unfold Bd
  have : (2 : Nat) ^ 70 = 1180591620717411303424 := by decide
  rw [this]
  omega

def ArgOk (t : Nat) (x : D) : Prop := Asks x ∧ (∀ ys, lstOf x = some ys → ys.length ≤ 1000 ∧ ∀ i, .int i ∈ ys → Bd t i) ∧ ∀ i, x = .int i → Bd t i
theorem ArgOk.int {t : Nat} {i : Int} (h : Bd t i) : ArgOk t (.int i) := ⟨⟨rfl, fun _ e => nomatch e⟩, (fun _ e => nomatch e), fun j e => by cases e; exact h⟩
theorem ArgOk.str {t : Nat} {s : Str} : ArgOk t (.str s) := ⟨⟨rfl, fun _ e => nomatch e⟩, (fun _ e => nomatch e), fun _ e => nomatch e⟩
theorem ArgOk.bl {t : Nat} {s : Bool} : ArgOk t (.bl s) := ⟨⟨rfl, fun _ e => nomatch e⟩, (fun _ e => nomatch e), fun _ e => nomatch e⟩
theorem ArgOk.non {t : Nat} : ArgOk t .non := ⟨⟨rfl, fun _ e => nomatch e⟩, (fun _ e => nomatch e), fun _ e => nomatch e⟩
theorem ArgOk.seq {t : Nat} {k : Kd} {xs : List D} (hl : xs.length ≤ 1000) (hx : ∀ x, x ∈ xs → askable x = true ∧ ∀ i, x = .int i → Bd t i) : ArgOk t (sqD k xs) := by
  refine ⟨⟨by cases k <;> rfl, fun ys e x h => ?_⟩, (fun ys e => ?_), fun i e => by cases k <;> cases e⟩
  · rw [lstOf_sq] at e; cases e; exact (hx x h).1
  · rw [lstOf_sq] at e; cases e; exact ⟨hl, fun i h => (hx _ h).2 i rfl⟩
theorem ArgOk.ints {t : Nat} {k : Kd} {xs : List Int} (hl : xs.length ≤ 1000) (hx : ∀ x, x ∈ xs → Bd t x) : ArgOk t (sqD k (xs.map .int)) := .seq (by rw [List.length_map]; exact hl) fun x h => by
  obtain ⟨y, hy, rfl⟩ := List.mem_map.mp h
  exact ⟨rfl, fun i e => by cases e; exact hx y hy⟩
theorem StOk.of {t : Nat} {k : Kd} {xs : List D} (hl : xs.length ≤ 1000) (hx : ∀ x, x ∈ xs → ArgOk t x) : StOk t (sqD k xs) := ⟨by cases k <;> rfl, fun ys e => by
  rw [lstOf_sq] at e; cases e; exact ⟨hl, hx⟩⟩
theorem PapOk.of {t n : Nat} {k : Kd} {xs : List D} (hl : xs.length ≤ n) (hx : ∀ x, x ∈ xs → StOk t x) : PapOk t n (sqD k xs) := ⟨by cases k <;> rfl, fun ys e => by
  rw [lstOf_sq] at e; cases e; exact ⟨hl, hx⟩⟩
theorem tims_ints {n : Nat} {k : Kd} {ts : List Int} (hl : ts.length = n) (h : ∀ t, t ∈ ts → 0 ≤ t) : timsD n (sqD k (ts.map .int)) = true := by
  unfold timsD
  rw [lstOf_sq]
  show (decide ((ts.map D.int).length = n) && (ts.map D.int).all isT) = true
  rw [Bool.and_eq_true, decide_eq_true_eq, List.all_eq_true]
  exact ⟨by rw [List.length_map]; exact hl, fun x hx => by obtain ⟨t, h', rfl⟩ := List.mem_map.mp hx; exact decide_eq_true (h t h')⟩
theorem shows_ints {w : Nat} {rs : List Row} {k : Kd} {ts : List Int} (hl : ts.length = rs.length) (h : ∀ t, t ∈ ts → 0 ≤ t) : showsD w rs (sqD k (ts.map .int)) = shows w rs ts := by
  unfold showsD
  rw [tims_ints hl h, Bool.true_and, lstOf_sq]
  show shows w rs (dInts (ts.map .int)) = _
  rw [dInts_map]
section
variable {P : Nat → Option FD} {G : List D}
theorem many_ok {k l B : Nat} {f m : Int} {S : Sto} {Q : Rt → Sto → Prop} (hT : P 159 = some l_take_1) (hP : P 161 = some l_many) (hB : Bx l (B + 2) S) (f0 : 0 ≤ f) (f1 : f < 1000) (m0 : 7 ≤ m) (m1 : m < 1000) (hfm : f ≤ m)
    (q : ∀ r S', 0 ≤ r → r ≤ m → Bx l B S' → Fr l S S' → Q (.val (.int r)) S') : wF (runF P G (k + 2)) 161 [.ref l, .int f, .int m] S Q := by
  refine wF_of hP rfl ?_
  unfold l_many
  walk_at "w"
  refine take_ok (B := B + 1) hT hB (by decide) (by decide) fun c S1 c0 c1 hB1 fr1 => ?_
  walk_at "w"
  split
  · refine take_ok (B := B) hT hB1 (by omega) (by omega) fun e S2 e0 e1 hB2 fr2 => ?_
    walk_at "w"
    exact q _ S2 (by omega) (by omega) hB2 (fr1.trans fr2)
  · refine take_ok (B := B) hT hB1 (by omega) (by omega) fun e S2 e0 e1 hB2 fr2 => ?_
    exact ⟨rfl, q _ S2 (by omega) (by omega) hB2 (fr1.trans fr2)⟩
theorem row39_ok {k l B w : Nat} {S : Sto} {Q : Rt → Sto → Prop} (hT : P 159 = some l_take_1) (hP : P 39 = some l_row_1) (hB : Bx l (B + w + 2) S) (hw : w ≤ 64)
    (q : ∀ r S', RowOk w 10000 r → Bx l B S' → Fr l S S' → Q (.val (dRow r)) S') : wF (runF P G (k + 2)) 39 [.ref l, .int w] S Q := by
  refine wF_of hP rfl ?_
  unfold l_row_1
  walk_at "w"
  refine ⟨show (10 : Nat) < 2 ^ 64 by decide, ?_⟩
  refine take_ok (B := B + w + 1) hT hB (by decide) (by decide) fun c S1 c0 c1 hB1 f1 => ?_
  walk_at "w"
  refine ix_any (fun d => ∃ z : Int, d = .int z ∧ 1 ≤ z ∧ z ≤ 10000) c0 (by simpa using c1) (fun d hd => ?_) fun d hd => ?_
  · simp only [List.mem_cons, List.not_mem_nil, or_false] at hd
    rcases hd with rfl | rfl | rfl | rfl | rfl
    · exact ⟨1, rfl, by decide, by decide⟩
    · exact ⟨2, rfl, by decide, by decide⟩
    · exact ⟨5, rfl, by decide, by decide⟩
    · exact ⟨41, rfl, by decide, by decide⟩
    · exact ⟨_, rfl, by decide, by decide⟩
  obtain ⟨z, rfl, z0, z1⟩ := hd
  walk_at "w"
  rw [Int.toNat_natCast]
  refine ⟨⟨by omega, by omega⟩, ?_⟩
  refine wL_draw (fun z : Int => .int z) (fun y => -10000 ≤ y ∧ y ≤ 10000) (fun j S' => Bx l (B + w + 1 - j) S' ∧ Fr l S S') ⟨hB1, f1⟩ (fun j d2 S5 hd2 hJ => ?_) fun xs S5 hxl hxs hJ => ?_
  · obtain ⟨hj, rfl⟩ := rng_get hd2
    unfold wTn
    try simp only [wipeR]
    walk_at "w"
    refine take_ok (B := B + w + 1 - (j + 1)) hT (hJ.1.mono (by omega)) (by omega) (by omega) fun c S6 c0 c1 hB6 f6 => ?_
    walk_at "w"
    exact ⟨by omega, hB6, hJ.2.trans f6⟩
  · rw [rngL_len] at hxl hJ
    walk_at "w"
    refine ⟨by walk_at "sz", ?_⟩
    refine take_ok (B := B) hT (hJ.1.mono (by omega)) (by omega) (by omega) fun c S6 c0 c1 hB6 f6 => ?_
    walk_at "w"
    exact q (xs, c - z) S6 ⟨hxl, hxs, by show (-10000 : Int) ≤ c - z; omega, by show c - z ≤ 10000; omega⟩ hB6 (hJ.2.trans f6)
theorem closing_ok {k l B w : Nat} {M : Int} {r : Row} {S : Sto} {Q : Rt → Sto → Prop} (hT : P 159 = some l_take_1) (hP : P 164 = some l_closing) (hB : Bx l (B + w + 1) S) (hw : w ≤ 64) (hr : RowOk w M r)
    (q : ∀ (r' : Row) S', RowOk w (M + 5) r' → (∀ c, c < w → r'.1.getD c 0 ≤ - r.1.getD c 0) → 1 - r.2 ≤ r'.2 → Bx l B S' → Fr l S S' → Q (.val (dRow r')) S') : wF (runF P G (k + 2)) 164 [.ref l, dRow r] S Q := by
  refine wF_of hP rfl ?_
  unfold l_closing
  obtain ⟨xs0, z0⟩ := r
  obtain ⟨hr1, hr2, hr3⟩ := hr
  dsimp only at hr1 hr2 hr3 q
  unfold dRow
  walk_at "w"
  refine wL_inv (fun i ys S' => ∃ bs : List Int, ys = bs.map .int ∧ bs.length = i ∧ (∀ c b x, bs[c]? = some b → xs0[c]? = some x → b ≤ -x ∧ -x - 1 ≤ b) ∧ Bx l (B + w + 1 - i) S' ∧ Fr l S S') ⟨[], rfl, rfl, (fun c b x h => by rw [List.getElem?_nil] at h; cases h), hB, Fr.refl l S⟩ (fun i d ys S1 hd hI => ?_) fun ys S1 hI => ?_
  · obtain ⟨bs, rfl, hbl, hbs, hB1, f1⟩ := hI
    rw [List.getElem?_map] at hd
    obtain ⟨x, hx, rfl⟩ := map_some hd
    have hi := (List.getElem?_eq_some_iff.mp hx).1
    unfold wTn
    try simp only [wipeR]
    walk_at "w"
    refine take_ok (B := B + w + 1 - (i + 1)) hT (hB1.mono (by omega)) (by decide) (by decide) fun c S2 c0 c1 hB2 f2 => ?_
    walk_at "w"
    refine ix_any (fun d => ∃ z : Int, d = .int z ∧ 0 ≤ z ∧ z ≤ 1) c0 (by simpa using c1) (fun d hd => ?_) fun d hd => ?_
    · simp only [List.mem_cons, List.not_mem_nil, or_false] at hd
      rcases hd with rfl | rfl | rfl
      · exact ⟨0, rfl, by decide, by decide⟩
      · exact ⟨0, rfl, by decide, by decide⟩
      · exact ⟨1, rfl, by decide, by decide⟩
    obtain ⟨z, rfl, zl, zh⟩ := hd
    walk_at "w"
    refine ⟨bs ++ [0 - x - z], by rw [List.map_append]; rfl, by rw [List.length_append, hbl]; rfl, fun c b y hc hy => ?_, hB2, f1.trans f2⟩
    by_cases e : c < bs.length
    · rw [List.getElem?_append_left e] at hc
      exact hbs c b y hc hy
    · have : c = i := by
        have := (List.getElem?_eq_some_iff.mp hc).1
        rw [List.length_append] at this
        simp at this
        omega
      subst this
      rw [List.getElem?_append_right (by omega), hbl, Nat.sub_self] at hc
      cases hc
      rw [hx] at hy
      cases hy
      omega
  · obtain ⟨bs, rfl, hbl, hbs, hB1, f1⟩ := hI
    rw [List.length_map] at hbl hB1
    walk_at "w"
    refine ⟨by walk_at "sz", ?_⟩
    refine take_ok (B := B) hT (hB1.mono (by omega)) (by decide) (by decide) fun c S2 c0 c1 hB2 f2 => ?_
    walk_at "w"
    refine ix_any (fun d => ∃ z : Int, d = .int z ∧ 0 ≤ z ∧ z ≤ 4) c0 (by simpa using c1) (fun d hd => ?_) fun d hd => ?_
    · simp only [List.mem_cons, List.not_mem_nil, or_false] at hd
      rcases hd with rfl | rfl | rfl
      · exact ⟨0, rfl, by decide, by decide⟩
      · exact ⟨0, rfl, by decide, by decide⟩
      · exact ⟨4, rfl, by decide, by decide⟩
    obtain ⟨z, rfl, zl, zh⟩ := hd
    walk_at "w"
    refine q (bs, 1 + z - z0) S2 ⟨by show bs.length = w; omega, fun x hx => ?_, by show -(M + 5) ≤ 1 + z - z0; omega, by show 1 + z - z0 ≤ M + 5; omega⟩ (fun c hc => ?_) (by show 1 - z0 ≤ 1 + z - z0; omega) hB2 (f1.trans f2)
    · obtain ⟨c, hc⟩ := List.mem_iff_getElem?.mp hx
      have hcl : c < bs.length := (List.getElem?_eq_some_iff.mp hc).1
      have e := List.getElem?_eq_getElem (l := xs0) (i := c) (by omega)
      have h1 := hbs c x _ hc e
      have h2 := hr2 _ (List.mem_of_getElem? e)
      omega
    · have e := List.getElem?_eq_getElem (l := xs0) (i := c) (by show c < xs0.length; omega)
      have e2 := List.getElem?_eq_getElem (l := bs) (i := c) (by show c < bs.length; omega)
      have h1 := hbs c _ _ e2 e
      rw [List.getD_eq_getElem?_getD, List.getD_eq_getElem?_getD, e, e2]
      exact h1.1
theorem closed_ok {k l B w : Nat} {S : Sto} {Q : Rt → Sto → Prop} (hT : P 159 = some l_take_1) (h161 : P 161 = some l_many) (h39 : P 39 = some l_row_1) (h162 : P 162 = some l_sum) (h164 : P 164 = some l_closing) (hP : P 171 = some l_closed) (hw : w ≤ 16) (hB : Bx l (B + 1000) S)
    (q : ∀ (rs : List Row) (ts : List Int) S', 1 < rs.length → rs.length ≤ 10 → rs.length = ts.length → (∀ r, r ∈ rs → RowOk w 300000 r) → (∀ t, t ∈ ts → 0 ≤ t ∧ t ≤ 3) → shows w rs ts = true → Bx l B S' → Fr l S S' → Q (.val (.tup [.lst (rs.map dRow), .lst (ts.map .int)])) S') : wF (runF P G (k + 3)) 171 [.ref l, .int w] S Q := by
  refine wF_of hP rfl ?_
  unfold l_closed
  walk_at "w"
  refine many_ok (k := k) (B := B + 998) hT h161 hB (by decide) (by decide) (by decide) (by decide) (by decide) fun n S1 n0 n1 hB1 f1 => ?_
  walk_at "w"
  refine ⟨⟨by omega, by omega⟩, ?_⟩
  obtain ⟨m, em, hm0, hm⟩ : ∃ m : Nat, (1 + n).toNat = m ∧ 0 < m ∧ m ≤ 9 := ⟨(1 + n).toNat, rfl, by omega, by omega⟩
  rw [em]
  refine wL_draw dRow (fun r => RowOk w 10000 r) (fun j S' => Bx l (B + 998 - 20 * j) S' ∧ Fr l S S') ⟨hB1, f1⟩ (fun j d2 S5 hd2 hJ => ?_) fun rs S2 hrl hrs hJ => ?_
  · obtain ⟨hj, rfl⟩ := rng_get hd2
    unfold wTn
    try simp only [wipeR]
    walk_at "w"
    refine row39_ok (k := k) (B := B + 998 - 20 * (j + 1)) hT h39 (hJ.1.mono (by omega)) (by omega) fun r S6 hr hB6 f6 => ?_
    walk_at "w"
    exact ⟨r, rfl, hr, hB6, hJ.2.trans f6⟩
  · rw [rngL_len] at hrl hJ
    walk_at "w"
    refine ⟨by walk_at "sz", ?_⟩
    refine wL_draw (fun z : Int => .int z) (fun y => 0 ≤ y ∧ y ≤ 3) (fun j S' => Bx l (B + 800 - j) S' ∧ Fr l S S') ⟨hJ.1.mono (by omega), hJ.2⟩ (fun j d2 S5 hd2 hJ => ?_) fun ts S3 htl hts hJ => ?_
    · have hj := (List.getElem?_eq_some_iff.mp hd2).1
      rw [List.length_map] at hj
      unfold wTn
      try simp only [wipeR]
      walk_at "w"
      refine take_ok (B := B + 800 - (j + 1)) hT (hJ.1.mono (by omega)) (by decide) (by decide) fun c S6 c0 c1 hB6 f6 => ?_
      walk_at "w"
      exact ⟨by omega, hB6, hJ.2.trans f6⟩
    · rw [List.length_map] at htl hJ
      walk_at "w"
      refine ⟨by walk_at "sz", ?_⟩
      have hk := l_sum_ok (k := k + 1) (w := w) (k1 := .l) (k2 := .l) (rs := rs.map ofR) (ts := ts) (S := S3) (Q := fun r S' => r = .val (dRow (sumRows w (rs.zip ts))) ∧ S' = S3) (G := G) h162 (by omega) (by rw [List.length_map]; omega) (by rw [List.length_map]; omega) (fun r h => by obtain ⟨r, h', rfl⟩ := List.mem_map.mp h; exact (hrs r h').1) (fun p hp => by
        have h2 := hts p.2 (List.of_mem_zip hp).2
        exact ⟨.inl (.inl ⟨by omega, by omega⟩), fun x _ => .inl (.inl ⟨by omega, by omega⟩)⟩) ⟨by rw [rsK_ofR], rfl⟩
      rw [map_ofR] at hk
      obtain ⟨_, _, e, rfl, rfl⟩ := hk
      refine ⟨_, _, e, ?_⟩
      walk_at "w"
      refine closing_ok (k := k) (B := B) (w := w) (M := 3 * 10000 * 9) hT h164 (hJ.1.mono (by omega)) (by omega) (sum_row (n := 9) (by decide) hrs hts (by omega)) fun r' S4 hr' c1 c2 hB4 f4 => ?_
      walk_at "w"
      have := q (rs ++ [r']) (ts ++ [1]) S4 (by rw [List.length_append]; show 1 < _ + 1; omega) (by rw [List.length_append]; show _ + 1 ≤ 10; omega) (by rw [List.length_append, List.length_append, htl]; rfl) (fun r h => ?_) (fun z h => ?_) (closed_shows htl.symm (fun r h => (hrs r h).1) c1 c2) hB4 (hJ.2.trans f4)
      · rw [List.map_append, List.map_append] at this
        exact ⟨lt_size (by omega), lt_size (by omega), this⟩
      · rcases List.mem_append.mp h with h | h
        · exact (hrs r h).mono (by decide)
        · rw [List.mem_singleton.mp h]; exact hr'.mono (by decide)
      · rcases List.mem_append.mp h with h | h
        · exact hts z h
        · rw [List.mem_singleton.mp h]; decide
theorem same_bl {k : Nat} {b c : Bool} {S : Sto} {Q : Rt → Sto → Prop} (hP : P 38 = some l_same) (q : Q (.val (.bl (b == c))) S) : wF (runF P G (k + 1)) 38 [.bl b, .bl c] S Q := by
  refine wF_of hP rfl ?_
  unfold l_same
  walk_at "w"
  exact q
theorem same_int {k : Nat} {i j : Int} {S : Sto} {Q : Rt → Sto → Prop} (hP : P 38 = some l_same) (q : Q (.val (.bl (decide (i = j)))) S) : wF (runF P G (k + 1)) 38 [.int i, .int j] S Q := by
  refine wF_of hP rfl ?_
  unfold l_same
  walk_at "w"
  exact q
theorem same_size {k : Nat} {S : Sto} {Q : Rt → Sto → Prop} (hP : P 38 = some l_same) (q : Q (.val (.bl true)) S) : wF (runF P G (k + 2)) 38 [.tup [.int 1, .int 0, .int 0], .tup [.int 1, .int 0, .int 0]] S Q := by
  refine wF_of hP rfl ?_
  unfold l_same
  walk_at "w"
  rw [show zipL [D.int 1, .int 0, .int 0] [.int 1, .int 0, .int 0] = [(1 : Int), 0, 0].map fun i => .tup [.int i, .int i] from rfl]
  refine wL_map (fun _ => .bl true) (fun z hz => ?_) ?_
  · unfold wTn
    try simp only [wipeR]
    walk_at "w"
    refine same_int hP ?_
    walk_at "w"
  · walk_at "w"
    exact ⟨_, rfl, rfl, q⟩
theorem size_one {k : Nat} {ts : D} {S : Sto} {Q : Rt → Sto → Prop} (hP : P 158 = some p_paper_size) (q : Q (.val (.tup [.int 1, .int 0, .int 0])) S) : wF (runF P G (k + 1)) 158 [.lst [.tup [.str "sum", ts]]] S Q := by
  refine wF_of hP rfl ?_
  unfold p_paper_size
  walk_at "w"
  refine wL_pure (fun _ => some (.str "sum")) (fun d hd => ?_) ?_
  · rw [List.mem_singleton.mp hd]
    unfold wTn
    try simp only [wipeR]
    walk_at "w"
  · walk_at "w"
    have c : ∀ (S : Sto) (w : String) (n : Nat), ([vOf (.str (Str.ofString "sum"))].countP fun z => eqV z (vOf (.str (Str.ofString w)))) = n → P2.run G S .count (.val (.lst [.str (Str.ofString "sum")])) (.val (.str (Str.ofString w))) = some (.val (.int n), S) := fun S w n h => by
      subst h; rfl
    exact ⟨lt_size (show 1 ≤ 1000 by decide), rfl, _, _, c S "sum" 1 (by decide), _, rfl, rfl, _, _, c S "whole" 0 (by decide), _, rfl, rfl, _, _, c S "cases" 0 (by decide), _, rfl, q⟩
end
end Mi.Lw
end
section
namespace Mi.Lw
open PySem L2
local macro_rules | `(tactic| walk_at "w") => `(tactic| try simp only [wSs_cons, wSs_nil, wS_asg, wS_own, wS_aug, wS_app, wS_ext, exV_o, exV_t, wS_rev, wS_sown, wS_pops, wS_ite, wS_for, wS_ret, wS_reto, wS_expr, wS_frz, wS_par, wS_par3, slOf_f, slOf_fo, slOf_t, frzN_own, frzN_val, retOk_v, retOk_o,
  wE_var, wE_bor, wE_con, wE_glb, wE_bin, wE_cmp, wE_idx, wE_neg, wE_not, wE_and, wE_or, wE_ite, wE_chn, wE_tup, wE_lst, wE_slc, wE_call, wE_callp, lends_nil, lends_v, lends_o, lends_b, wE_bi, wE_comp, wE_new, newC_own, newC_ownd, wE_o1, wE_o2, wE_o3, wE_dct, wE_dgt, wE_din, wEs_nil, wEs_cons, wRs_nil, wRs_cons, wO_no, wO_yes, wC_no, wC_yes,
  wI_rng1, wI_rng2, wI_seq, wI_enm, wI_zip2, wT_nm, wT_sub, wT_tp, wTs_nil, wTs_cons,
  List.map_cons, List.map_nil, List.cons_append, List.nil_append, List.replicate_succ, List.replicate_zero, List.getElem?_cons_zero, List.getElem?_cons_succ, List.set_cons_zero, List.set_cons_succ, List.length_cons, List.length_nil, Nat.reduceSub, Nat.reduceAdd, Nat.reduceLT, Nat.reduceLeDiff, Nat.reduceEqDiff,
  Option.some.injEq, Sl.val.injEq, Sl.own.injEq, Rt.val.injEq, Rt.own.injEq, D.int.injEq, D.bl.injEq, D.ref.injEq, D.tup.injEq, D.lst.injEq, D.str.injEq, exists_eq_left, exists_eq_left', exists_eq_right, exists_eq_right', rd_val, rd_own, rd_ownd, ne_eq, reduceCtorEq, not_false_eq_true, not_true_eq_false, implies_true, true_and, and_true, and_self, false_and, and_false, exists_false, Prod.mk.injEq,
  bin_add, bin_sub, bin_mul', bin_fdiv', bin_mod', bin_pow', bin_shl', rep_own, rep_tup, cat_lo, cat_oo, cat_ll, cat_ol, cat_tt, cat_ss, cat_bo, cat_ob, cat_bl, cat_lb, cmp_int, cmp_intn, cmp_str, cmp_strs, cmp_strsn, ofString_inj, cmp_lt, cmp_le, cmp_gt, cmp_ge, cmp_isn, cmp_isnn, cmp_isb, cmp_isnb, cmp_blne, cmp_bleq, bi_divmod', bi_abs', bi_intb, bi_min2, bi_max2, bi_lenl, bi_lens, bi_lent, bi_leno, bi_lenb, bi_listo, bi_listl, bi_listt, bi_listb, bi_tupo, bi_tupb, bi_tupt, bi_tupl, sl_scr, sl_lst, sl_tup, sl_own, sl_bor, ix_tup, ix_lst, ix_own, ix_bor, atI_0, atI_1, atI_2, String.reduceEq, decide_false, decide_true, decide_eq_true_eq, Bool.false_eq_true, if_false, if_true, reduceIte, Bool.not_false, Bool.not_true, Int.reduceLT, Int.reduceLE, Int.reduceToNat, Int.reduceNeg, Int.reduceAdd, Int.reduceSub, Int.reduceMul, Int.reduceEq, Nat.lt_irrefl, forall_const, size_ok, inRng_ok, still_l, still_t, still_o, still_b, still_sq, ix_sq, bi_lensq, bi_tupsq, bi_listsq, bi_sumo, bi_sumt, bi_sumq, bi_sumf, bi_maxt, bi_mint, bi_maxo, bi_minq, bi_allt, bi_allm, bi_anym, ix_row0, ix_row1, bi_lenrow, List.length_map, Int.cast_ofNat_Int,
  isi1_n, isi_n, isi1_b, isi_b, isi1_i, isi_i, isi1_s, isi_s, isi1_t, isi_t, isi1_l, isi_l, isi1_c, isi_c, isi1_r, isi_r, isi1_q, isi_q, isi_o, bi_isi1o, bi_isi1b, tyD_t, tyD_i, tyD_b, tyD_s, tyD_l, tyD_n, tyD_row, List.any_cons, List.any_nil, Bool.or_false, Bool.or_true, Bool.true_or, Bool.false_or, Bool.and_true, Bool.true_and, Bool.and_false, Bool.false_and, beq_self_eq_true, bne_self_eq_false, beq_true, beq_false, isN,
  p_lrng, p_revl, p_revo, p_revb, p_revt, p_sseto, p_lsetl, p_lsett, p_mxdo, p_premxd, p_predzip, p_lsetb, p_prelrng2, p_lrng2, p_gget, p_gin, p_mx3, p_get, p_presplit, p_prejoin, p_split, dct_o, dct_v, key_i, key_s, valD_cons, valD_nil, Sum.inr.injEq, Sum.inl.injEq, Option.isSome_some, Option.isSome_none, Bool.xor_false, Bool.xor_true, Bool.false_xor, Bool.true_xor, Option.getD_some, Option.getD_none, cmp_notin, in_nil, in_1, in_2, in_3, in_4, in_5, in_6, in_11, in_intsT, in_intsL, in_intsB, Option.map_some, List.all_cons, List.all_nil, flatD_s, flatD_i, divok_s, mulok_ls, mulok_rs])
local macro_rules | `(tactic| walk_at "sz") => `(tactic| (refine Nat.le_trans (m := 10000000) ?_ (show 10000000 ≤ 16777216 by decide); (try simp only [List.length_append, List.length_map, List.length_take, List.length_drop, List.length_cons, List.length_nil, List.length_zip, List.length_reverse, List.length_replicate, List.length_range, rngL_len]); omega))

theorem map_mul0 (f : Row → Int) : ∀ (A : List Row), ((A.zip (List.replicate A.length (0 : Int))).map fun p => p.2 * f p.1).sum = 0
  | [] => rfl
  | a :: A => by
    rw [List.length_cons, List.replicate_succ, List.zip_cons_cons, List.map_cons, List.sum_cons, map_mul0 f A]; simp
theorem ind_sum (f : Row → Int) (B C : List Row) (r : Row) : (((B ++ r :: C).zip (List.replicate B.length (0 : Int) ++ 1 :: List.replicate C.length 0)).map fun p => p.2 * f p.1).sum = f r := by
  rw [List.zip_append (by rw [List.length_replicate]), List.zip_cons_cons, List.map_append, List.map_cons, List.sum_append, List.sum_cons, map_mul0, map_mul0]; simp
theorem ind_list (b c : Nat) : (List.range (b + (c + 1))).map (fun j : Nat => if j = b then (1 : Int) else 0) = List.replicate b 0 ++ 1 :: List.replicate c 0 := by
  apply List.ext_getElem
  · simp
  · intro i h1 h2
    rw [List.getElem_map, List.getElem_range, List.getElem_append]
    split
    · rename_i h
      subst h
      rw [dif_neg (by rw [List.length_replicate]; omega)]
      simp
    · rename_i h
      split
      · rw [List.getElem_replicate]
      · rename_i h3
        rw [List.length_replicate] at h3
        rw [List.getElem_cons, dif_neg (by rw [List.length_replicate]; omega), List.getElem_replicate]
theorem papD_two {w : Nat} {ks : List KRow} {k1 k2 k3 : Kd} {t q s : D} (h1 : timsD ks.length t = true) (hq : posD q = true) (h2 : showsD w (rsK ks ++ [wholeR (sumRows w ((rsK ks).zip (intsOf t))) (igetD q)]) s = true) : papD w ks (sqD k1 [sqD k2 [.str "whole", t, q, .int 1], sqD k3 [.str "sum", s]]) = true := by
  rw [papD_sq, runP_some (show k0 ks ((0 : Nat) : Int) = some ks from rfl), step_whole]
  have hn : namesD (sqD k2 [.str "whole", t, q, .int 1]) = [.int 1] := by unfold namesD; rw [lstOf_sq]; rfl
  have hm : nmI (sqD k2 [.str "whole", t, q, .int 1]) = [1] := by unfold nmI; rw [hn]; rfl
  have hK : putK (k0 ks) [1] (nextK w ks (sqD k2 [.str "whole", t, q, .int 1])) ((0 + 1 : Nat) : Int) = some (ks ++ [ofR (wholeR (sumRows w ((rsK ks).zip (intsOf t))) (igetD q))]) := by
    unfold nextK
    rw [beh_whole]
    rfl
  have hn2 : namesD (sqD k3 [.str "sum", s]) = [] := by unfold namesD; rw [lstOf_sq]; rfl
  have hm2 : nmI (sqD k3 [.str "sum", s]) = [] := by unfold nmI; rw [hn2]; rfl
  rw [hm, hn, runP_some hK, step_sum, hn2, hm2, runP, show rsK (ks ++ [ofR (wholeR (sumRows w ((rsK ks).zip (intsOf t))) (igetD q))]) = rsK ks ++ [wholeR (sumRows w ((rsK ks).zip (intsOf t))) (igetD q)] by unfold rsK; rw [List.map_append]; rfl, h2, hq, show (rsK ks).length = ks.length by unfold rsK; rw [List.length_map], h1]
  rfl
theorem close_shows {w : Nat} {A : List Row} {ag wh : Row} (h1 : ∀ c, c < w → ag.1.getD c 0 + wh.1.getD c 0 ≤ 0) (h2 : 0 < ag.2 + wh.2) : shows w ((A ++ [ag]) ++ [wh]) (List.replicate A.length 0 ++ [1, 1]) = true := by
  have ez : ((A ++ [ag]) ++ [wh]).zip (List.replicate A.length (0 : Int) ++ [1, 1]) = A.zip (List.replicate A.length 0) ++ [(ag, 1), (wh, 1)] := by
    rw [List.append_assoc]; exact List.zip_append (by rw [List.length_replicate])
  unfold shows
  rw [Bool.and_eq_true, decide_eq_true_eq, List.all_eq_true]
  constructor
  · unfold lsum
    rw [ez, List.map_append, List.sum_append, map_mul0 fun r => r.2]
    simp only [List.map_cons, List.map_nil, List.sum_cons, List.sum_nil]
    omega
  · intro c hc
    rw [decide_eq_true_eq]
    have := h1 c (List.mem_range.mp hc)
    unfold csum
    rw [ez, List.map_append, List.sum_append, map_mul0 fun r => r.1.getD c 0]
    simp only [List.map_cons, List.map_nil, List.sum_cons, List.sum_nil]
    omega
def hvR (A C : List Row) (xs : List Int) (d z e : Int) : List Row := A ++ (xs.map fun x => d * x, d * z + 1 + e) :: (C ++ [(xs.map fun x => 0 - x, 0 - z)])
def hvO (a c : Nat) : List Int := List.replicate a 0 ++ 1 :: List.replicate (c + 1) 0
def hvC (a c : Nat) : List Int := List.replicate (a + (c + 1)) 0 ++ [1, 1]
def hvP (a c : Nat) (d : Int) : D := .lst [.tup [.str "whole", .lst ((hvO a c).map .int), .int d, .int 1], .tup [.str "sum", .lst ((hvC a c).map .int)]]
theorem hvR_len {A C : List Row} {xs : List Int} {d z e : Int} : (hvR A C xs d z e).length = A.length + (C.length + 1 + 1) := by
  unfold hvR; rw [List.length_append, List.length_cons, List.length_append]; rfl
theorem hvO_01 {a c : Nat} : ∀ x, x ∈ hvO a c → 0 ≤ x ∧ x ≤ 1 := fun x h => by
  unfold hvO at h
  rcases List.mem_append.mp h with h | h
  · rw [List.eq_of_mem_replicate h]; decide
  · rcases List.mem_cons.mp h with rfl | h
    · decide
    · rw [List.eq_of_mem_replicate h]; decide
theorem hvC_01 {a c : Nat} : ∀ x, x ∈ hvC a c → 0 ≤ x ∧ x ≤ 1 := fun x h => by
  unfold hvC at h
  rcases List.mem_append.mp h with h | h
  · rw [List.eq_of_mem_replicate h]; decide
  · simp only [List.mem_cons, List.not_mem_nil, or_false, or_self] at h
    rw [h]; decide
theorem hvO_len {a c : Nat} : (hvO a c).length = a + (c + 1 + 1) := by unfold hvO; rw [List.length_append, List.length_cons, List.length_replicate, List.length_replicate]
theorem hvC_len {a c : Nat} : (hvC a c).length = a + (c + 1 + 1) + 1 := by
  unfold hvC; rw [List.length_append, List.length_replicate]; rfl
theorem up_mul {d x : Int} (hd : 0 < d) : up (d * x) d = x := by
  unfold up
  rw [← Int.mul_neg, Int.mul_ediv_cancel_left _ (by omega)]
  omega
theorem up_more {d z e : Int} (hd : 2 ≤ d) (he : 0 ≤ e) (he2 : e < d - 1) : up (d * z + 1 + e) d = z + 1 := by
  unfold up
  have : -(d * z + 1 + e) = (d - 1 - e) + (-z - 1) * d := by
    rw [Int.sub_mul, Int.neg_mul, Int.mul_comm z d]; omega
  rw [this, Int.add_mul_ediv_right _ _ (by omega), Int.ediv_eq_zero_of_lt (by omega) (by omega)]
  omega
theorem hv_law {w : Nat} {A C : List Row} {xs : List Int} {d z e : Int} (hd : 2 ≤ d) (he : 0 ≤ e) (he2 : e < d - 1) (hx : xs.length = w) (hA : ∀ r, r ∈ A → r.1.length = w) (hC : ∀ r, r ∈ C → r.1.length = w) : papD w ((hvR A C xs d z e).map ofR) (hvP A.length C.length d) = true := by
  have hall : ∀ r, r ∈ hvR A C xs d z e → r.1.length = w := fun r h => by
    unfold hvR at h
    rcases List.mem_append.mp h with h | h
    · exact hA r h
    · rcases List.mem_cons.mp h with rfl | h
      · show (xs.map _).length = w; rw [List.length_map, hx]
      · rcases List.mem_append.mp h with h | h
        · exact hC r h
        · rw [List.mem_singleton.mp h]; show (xs.map _).length = w; rw [List.length_map, hx]
  refine papD_two (k1 := .l) (k2 := .t) (k3 := .t) (tims_ints (k := .l) (by rw [List.length_map, hvR_len, hvO_len]) fun t h => (hvO_01 t h).1) (decide_eq_true (by omega)) ?_
  rw [rsK_ofR]
  have hi : intsOf (.lst ((hvO A.length C.length).map .int)) = hvO A.length C.length := dInts_map _
  rw [show igetD (.int d) = d from rfl, hi]
  refine (shows_ints (k := .l) (by rw [hvC_len, List.length_append, hvR_len]; rfl) fun t h => (hvC_01 t h).1).trans ?_
  have eS : ∀ f : Row → Int, (((hvR A C xs d z e).zip (hvO A.length C.length)).map fun p => p.2 * f p.1).sum = f (xs.map fun x => d * x, d * z + 1 + e) := fun f => by
    have := ind_sum f A (C ++ [(xs.map fun x => 0 - x, 0 - z)]) (xs.map fun x => d * x, d * z + 1 + e)
    rw [List.length_append] at this
    exact this
  have e1 : hvR A C xs d z e = (A ++ (xs.map fun x => d * x, d * z + 1 + e) :: C) ++ [(xs.map fun x => 0 - x, 0 - z)] := by
    unfold hvR; rw [List.append_assoc]; rfl
  have e2 : hvC A.length C.length = List.replicate (A ++ ((xs.map fun x => d * x, d * z + 1 + e) : Row) :: C).length 0 ++ [1, 1] := by
    unfold hvC; rw [List.length_append, List.length_cons]
  have e3 : (sumRows w ((hvR A C xs d z e).zip (hvO A.length C.length))).2 = d * z + 1 + e := by rw [sumRows_snd]; exact eS fun r => r.2
  have e4 : ∀ c, c < w → (sumRows w ((hvR A C xs d z e).zip (hvO A.length C.length))).1[c]? = some (d * xs.getD c 0) := fun c hc => by
    rw [sumRows_fst hall hc]
    unfold csum
    rw [eS fun r => r.1.getD c 0]
    show some ((xs.map fun x => d * x).getD c 0) = _
    rw [List.getD_eq_getElem?_getD, List.getD_eq_getElem?_getD, List.getElem?_map, List.getElem?_eq_getElem (by omega)]
    rfl
  generalize hs : sumRows w ((hvR A C xs d z e).zip (hvO A.length C.length)) = s at e3 e4
  rw [e1, e2]
  refine close_shows (fun c hc => ?_) ?_
  · show (xs.map fun x => 0 - x).getD c 0 + (s.1.map fun x => up x d).getD c 0 ≤ 0
    have h4 := e4 c hc
    rw [List.getD_eq_getElem?_getD, List.getD_eq_getElem?_getD, List.getElem?_map, List.getElem?_map, h4, List.getElem?_eq_getElem (by omega)]
    show 0 - xs[c] + up (d * xs.getD c 0) d ≤ 0
    rw [up_mul (by omega), List.getD_eq_getElem?_getD, List.getElem?_eq_getElem (by omega)]
    show 0 - xs[c] + xs[c] ≤ 0
    omega
  · show 0 < 0 - z + up s.2 d
    rw [e3, up_more hd he he2]
    omega
theorem len7 {α : Type} {xs : List α} (h : xs.length = 5) : ∃ a b c d e, xs = [a, b, c, d, e] := by
  match xs, h with
  | [a, b, c, d, e], _ => exact ⟨a, b, c, d, e, rfl⟩
section
variable {P : Nat → Option FD} {G : List D}
theorem halved_ok {k l B w : Nat} {S : Sto} {Q : Rt → Sto → Prop} (hT : P 159 = some l_take_1) (h161 : P 161 = some l_many) (h39 : P 39 = some l_row_1) (hP : P 174 = some l_halved) (hw : w ≤ 16) (hB : Bx l (B + 1000) S)
    (q : ∀ (A C : List Row) (xs : List Int) (d z e : Int) S', 2 ≤ d → d ≤ 9 → 0 ≤ e → e < d - 1 → xs.length = w → (∀ x, x ∈ xs → -4 ≤ x ∧ x ≤ 4) → -9 ≤ z → z ≤ 10 → (∀ r, r ∈ A → RowOk w 10000 r) → (∀ r, r ∈ C → RowOk w 10000 r) → A.length + C.length ≤ 8 → Bx l B S' → Fr l S S' → Q (.val (.tup [.lst ((hvR A C xs d z e).map dRow), hvP A.length C.length d, .int d])) S') : wF (runF P G (k + 3)) 174 [.ref l, .int w] S Q := by
  refine wF_of hP rfl ?_
  unfold l_halved
  walk_at "w"
  refine take_ok (B := B + 999) hT hB (by decide) (by decide) fun d0 S1 d00 d01 hB1 f1 => ?_
  walk_at "w"
  rw [Int.toNat_natCast]
  refine ⟨⟨by omega, by omega⟩, ?_⟩
  refine wL_draw (fun z : Int => .int z) (fun y => -4 ≤ y ∧ y ≤ 4) (fun j S' => Bx l (B + 999 - j) S' ∧ Fr l S S') ⟨hB1, f1⟩ (fun j d2 S5 hd2 hJ => ?_) fun xs S2 hxl hxs hJ => ?_
  · obtain ⟨hj, rfl⟩ := rng_get hd2
    unfold wTn
    try simp only [wipeR]
    walk_at "w"
    refine take_ok (B := B + 999 - (j + 1)) hT (hJ.1.mono (by omega)) (by omega) (by omega) fun c S6 c0 c1 hB6 f6 => ?_
    walk_at "w"
    exact ⟨by omega, hB6, hJ.2.trans f6⟩
  rw [rngL_len] at hxl hJ
  walk_at "w"
  refine ⟨by walk_at "sz", ?_⟩
  refine take_ok (B := B + 900) hT (hJ.1.mono (by omega)) (by decide) (by decide) fun z0 S3 z00 z01 hB3 f3 => ?_
  walk_at "w"
  refine wL_map (fun x : Int => .int ((2 + d0) * x)) (fun x hx => ?_) ?_
  · have := hxs x hx
    unfold wTn
    try simp only [wipeR]
    walk_at "w"
    exact .inl (.inl ⟨by omega, by omega⟩)
  walk_at "w"
  refine ⟨by walk_at "sz", .inl (.inl ⟨by omega, by omega⟩), ?_⟩
  refine take_ok (B := B + 899) hT hB3 (by omega) (by omega) fun e S4 e0 e1 hB4 f4 => ?_
  walk_at "w"
  try simp only [wipeR]
  refine wL_map (fun x : Int => .int (0 - x)) (fun x hx => ?_) ?_
  · unfold wTn
    try simp only [wipeR]
    walk_at "w"
  walk_at "w"
  refine ⟨by walk_at "sz", ?_⟩
  refine many_ok (k := k) (B := B + 800) hT h161 (hB4.mono (by omega)) (by decide) (by decide) (by decide) (by decide) (by decide) fun m S5 m0 m1 hB5 f5 => ?_
  walk_at "w"
  refine ⟨⟨by omega, by omega⟩, ?_⟩
  obtain ⟨m, rfl⟩ : ∃ j : Nat, m = j := ⟨m.toNat, by omega⟩
  rw [Int.toNat_natCast]
  try simp only [wipeR]
  refine wL_draw dRow (fun r => RowOk w 10000 r) (fun j S' => Bx l (B + 800 - 20 * j) S' ∧ Fr l S S') ⟨hB5, ((hJ.2.trans f3).trans f4).trans f5⟩ (fun j d2 S5 hd2 hJ => ?_) fun rs S6 hrl hrs hJ => ?_
  · obtain ⟨hj, rfl⟩ := rng_get hd2
    unfold wTn
    try simp only [wipeR]
    walk_at "w"
    refine row39_ok (k := k) (B := B + 800 - 20 * (j + 1)) hT h39 (hJ.1.mono (by omega)) (by omega) fun r S6 hr hB6 f6 => ?_
    walk_at "w"
    exact ⟨r, rfl, hr, hB6, hJ.2.trans f6⟩
  rw [rngL_len] at hrl hJ
  walk_at "w"
  refine ⟨by walk_at "sz", ?_⟩
  refine take_ok (B := B) hT (hJ.1.mono (by omega)) (by omega) (by omega) fun a S7 a0 a1 hB7 f7 => ?_
  walk_at "w"
  obtain ⟨a, rfl⟩ : ∃ j : Nat, a = j := ⟨a.toNat, by omega⟩
  rw [cut_to, cut_from, ← List.map_take, ← List.map_drop]
  have hA : ∀ r, r ∈ rs.take a → RowOk w 10000 r := fun r h => hrs r (List.mem_of_mem_take h)
  have hC : ∀ r, r ∈ rs.drop a → RowOk w 10000 r := fun r h => hrs r (List.mem_of_mem_drop h)
  have lA : (rs.take a).length = a := by rw [List.length_take]; omega
  have lC : (rs.drop a).length = rs.length - a := List.length_drop
  generalize rs.take a = A at hA lA ⊢
  generalize rs.drop a = C at hC lC ⊢
  have eR : (A.map dRow ++ [D.tup [D.tup (xs.map fun x => D.int ((2 + d0) * x)), D.int ((2 + d0) * (z0 - 9) + 1 + e)]] ++ C.map dRow ++ [D.tup [D.tup (xs.map fun x => D.int (0 - x)), D.int (0 - (z0 - 9))]]) = (hvR A C xs (2 + d0) (z0 - 9) e).map dRow := by
    unfold hvR
    simp [dRow, List.map_append, Function.comp_def]
  rw [eR]
  have lR : (hvR A C xs (2 + d0) (z0 - 9) e).length = A.length + (C.length + 1 + 1) := hvR_len
  walk_at "w"
  simp only [lR]
  rw [Int.toNat_natCast, rngL_range0]
  refine ⟨by walk_at "sz", by walk_at "sz", by walk_at "sz", ⟨by omega, by omega⟩, ?_⟩
  refine wL_map (fun i : Nat => .int (if i = a then 1 else 0)) (fun i hi => ?_) ?_
  · unfold wTn
    try simp only [wipeR]
    walk_at "w"
    by_cases h : i = a
    · subst h; simp
    · rw [if_neg h, if_neg (by omega)]
  walk_at "w"
  have eO : ((List.range (A.length + (C.length + 1 + 1))).map fun i : Nat => D.int (if i = a then 1 else 0)) = (hvO A.length C.length).map .int := by
    rw [← show A.length = a from lA]
    unfold hvO
    rw [← ind_list, List.map_map]; rfl
  have eN : ((A.length + (C.length + 1 + 1) : Nat) : Int).toNat - 1 = A.length + (C.length + 1) := by rw [Int.toNat_natCast]; omega
  have eN2 : (((A.length + (C.length + 1 + 1) : Nat) : Int) - 1).toNat = A.length + (C.length + 1) := by omega
  rw [eO, eN2, rep_flat]
  have eP : D.lst [.tup [.str "whole", .lst ((hvO A.length C.length).map .int), .int (2 + d0), .int 1], .tup [.str "sum", .lst ((List.replicate (A.length + (C.length + 1)) (0 : Int)).map .int ++ [.int 1, .int 1])]] = hvP A.length C.length (2 + d0) := by
    unfold hvP hvC
    rw [List.map_append]; rfl
  have := q A C xs (2 + d0) (z0 - 9) e S7 (by omega) (by omega) e0 e1 hxl hxs (by omega) (by omega) hA hC (by omega) hB7 (hJ.2.trans f7)
  rw [← eP] at this
  exact ⟨by walk_at "sz", ⟨by omega, by omega, lt_size (by omega)⟩, by walk_at "sz", this⟩
end
end Mi.Lw
end
section
namespace Mi.Lw
open PySem L2
local macro_rules | `(tactic| walk_at "w") => `(tactic| try simp only [wSs_cons, wSs_nil, wS_asg, wS_own, wS_aug, wS_app, wS_ext, exV_o, exV_t, wS_rev, wS_sown, wS_pops, wS_ite, wS_for, wS_ret, wS_reto, wS_expr, wS_frz, wS_par, wS_par3, slOf_f, slOf_fo, slOf_t, frzN_own, frzN_val, retOk_v, retOk_o,
  wE_var, wE_bor, wE_con, wE_glb, wE_bin, wE_cmp, wE_idx, wE_neg, wE_not, wE_and, wE_or, wE_ite, wE_chn, wE_tup, wE_lst, wE_slc, wE_call, wE_callp, lends_nil, lends_v, lends_o, lends_b, wE_bi, wE_comp, wE_new, newC_own, newC_ownd, wE_o1, wE_o2, wE_o3, wE_dct, wE_dgt, wE_din, wEs_nil, wEs_cons, wRs_nil, wRs_cons, wO_no, wO_yes, wC_no, wC_yes,
  wI_rng1, wI_rng2, wI_seq, wI_enm, wI_zip2, wT_nm, wT_sub, wT_tp, wTs_nil, wTs_cons,
  List.map_cons, List.map_nil, List.cons_append, List.nil_append, List.replicate_succ, List.replicate_zero, List.getElem?_cons_zero, List.getElem?_cons_succ, List.set_cons_zero, List.set_cons_succ, List.length_cons, List.length_nil, Nat.reduceSub, Nat.reduceAdd, Nat.reduceLT, Nat.reduceLeDiff, Nat.reduceEqDiff,
  Option.some.injEq, Sl.val.injEq, Sl.own.injEq, Rt.val.injEq, Rt.own.injEq, D.int.injEq, D.bl.injEq, D.ref.injEq, D.tup.injEq, D.lst.injEq, D.str.injEq, exists_eq_left, exists_eq_left', exists_eq_right, exists_eq_right', rd_val, rd_own, rd_ownd, ne_eq, reduceCtorEq, not_false_eq_true, not_true_eq_false, implies_true, true_and, and_true, and_self, false_and, and_false, exists_false, Prod.mk.injEq,
  bin_add, bin_sub, bin_mul', bin_fdiv', bin_mod', bin_pow', bin_shl', rep_own, rep_tup, cat_lo, cat_oo, cat_ll, cat_ol, cat_tt, cat_ss, cat_bo, cat_ob, cat_bl, cat_lb, cmp_int, cmp_intn, cmp_str, cmp_strs, cmp_strsn, ofString_inj, cmp_lt, cmp_le, cmp_gt, cmp_ge, cmp_isn, cmp_isnn, cmp_isb, cmp_isnb, cmp_blne, cmp_bleq, bi_divmod', bi_abs', bi_intb, bi_min2, bi_max2, bi_lenl, bi_lens, bi_lent, bi_leno, bi_lenb, bi_listo, bi_listl, bi_listt, bi_listb, bi_tupo, bi_tupb, bi_tupt, bi_tupl, sl_scr, sl_lst, sl_tup, sl_own, sl_bor, ix_tup, ix_lst, ix_own, ix_bor, atI_0, atI_1, atI_2, String.reduceEq, decide_false, decide_true, decide_eq_true_eq, Bool.false_eq_true, if_false, if_true, reduceIte, Bool.not_false, Bool.not_true, Int.reduceLT, Int.reduceLE, Int.reduceToNat, Int.reduceNeg, Int.reduceAdd, Int.reduceSub, Int.reduceMul, Int.reduceEq, Nat.lt_irrefl, forall_const, size_ok, inRng_ok, still_l, still_t, still_o, still_b, still_sq, ix_sq, bi_lensq, bi_tupsq, bi_listsq, bi_sumo, bi_sumt, bi_sumq, bi_sumf, bi_maxt, bi_mint, bi_maxo, bi_minq, bi_allt, bi_allm, bi_anym, ix_row0, ix_row1, bi_lenrow, List.length_map, Int.cast_ofNat_Int,
  isi1_n, isi_n, isi1_b, isi_b, isi1_i, isi_i, isi1_s, isi_s, isi1_t, isi_t, isi1_l, isi_l, isi1_c, isi_c, isi1_r, isi_r, isi1_q, isi_q, isi_o, bi_isi1o, bi_isi1b, tyD_t, tyD_i, tyD_b, tyD_s, tyD_l, tyD_n, tyD_row, List.any_cons, List.any_nil, Bool.or_false, Bool.or_true, Bool.true_or, Bool.false_or, Bool.and_true, Bool.true_and, Bool.and_false, Bool.false_and, beq_self_eq_true, bne_self_eq_false, beq_true, beq_false, isN,
  p_lrng, p_revl, p_revo, p_revb, p_revt, p_sseto, p_lsetl, p_lsett, p_mxdo, p_premxd, p_predzip, p_lsetb, p_prelrng2, p_lrng2, p_gget, p_gin, p_mx3, p_get, p_presplit, p_prejoin, p_split, dct_o, dct_v, key_i, key_s, valD_cons, valD_nil, Sum.inr.injEq, Sum.inl.injEq, Option.isSome_some, Option.isSome_none, Bool.xor_false, Bool.xor_true, Bool.false_xor, Bool.true_xor, Option.getD_some, Option.getD_none, cmp_notin, in_nil, in_1, in_2, in_3, in_4, in_5, in_6, in_11, in_intsT, in_intsL, in_intsB, Option.map_some, List.all_cons, List.all_nil, flatD_s, flatD_i, divok_s, mulok_ls, mulok_rs])
local macro_rules | `(tactic| walk_at "sz") => `(tactic| (refine Nat.le_trans (m := 10000000) ?_ (show 10000000 ≤ 16777216 by decide); (try simp only [List.length_append, List.length_map, List.length_take, List.length_drop, List.length_cons, List.length_nil, List.length_zip, List.length_reverse, List.length_replicate, List.length_range, rngL_len]); omega))
theorem bd100 {i : Int} (h1 : -1000000000000000000000000 ≤ i) (h2 : i ≤ 1000000000000000000000000) : Bd 100 i := by
  unfold Bd
  have : (2 : Nat) ^ 100 = 1267650600228229401496703205376 := by decide
  rw [this]
  omega
def Small (b : Nat) (xs : List D) : Prop := xs.length ≤ 20 ∧ ∀ x, x ∈ xs → ∃ y : Int, x = .int y ∧ 0 ≤ y ∧ y ≤ b
theorem Small.arg {b : Nat} {xs : List D} (h : Small b xs) (hb : b ≤ 1000000000000000000000000) : ArgOk 100 (.lst xs) :=
  .seq (k := .l) (by have := h.1; omega) fun x hx => by
    obtain ⟨y, rfl, h1, h2⟩ := h.2 x hx
    exact ⟨rfl, fun i e => by cases e; exact bd100 (by omega) (by omega)⟩
theorem Small.cut {b : Nat} {xs : List D} (h : Small b xs) (lo hi : Option Int) : Small b (cutD xs lo hi) := ⟨Nat.le_trans cut_len h.1, fun x hx => h.2 x (cut_mem hx)⟩
theorem stOk_sum {x : D} (h : ArgOk 100 x) : StOk 100 (.tup [.str "sum", x]) := .of (k := .t) (show 2 ≤ 1000 by decide) fun y hy => by
  simp only [List.mem_cons, List.not_mem_nil, or_false] at hy
  rcases hy with rfl | rfl
  · exact .str
  · exact h
theorem stOk_whole {x y z : D} (h : ArgOk 100 x) (h2 : ArgOk 100 y) (h3 : ArgOk 100 z) : StOk 100 (.tup [.str "whole", x, y, z]) := .of (k := .t) (show 4 ≤ 1000 by decide) fun y hy => by
  simp only [List.mem_cons, List.not_mem_nil, or_false] at hy
  rcases hy with rfl | rfl | rfl | rfl
  · exact .str
  · exact h
  · exact h2
  · exact h3
theorem pap_of {xs : List D} (hl : xs.length ≤ 4) (h : ∀ x, x ∈ xs → StOk 100 x) : PapOk 100 4 (.lst xs) := .of (k := .l) hl h
theorem pap2 {x y : D} (h1 : StOk 100 x) (h2 : StOk 100 y) : PapOk 100 4 (.lst [x, y]) := pap_of (show 2 ≤ 4 by decide) fun z hz => by
  simp only [List.mem_cons, List.not_mem_nil, or_false] at hz
  rcases hz with rfl | rfl
  · exact h1
  · exact h2
theorem pap1 {x : D} (h1 : StOk 100 x) : PapOk 100 4 (.lst [x]) := pap_of (show 1 ≤ 4 by decide) fun z hz => by rw [List.mem_singleton.mp hz]; exact h1
theorem wL_all {Φ : Fns} {G : List D} {ρ : Env} {S : Sto} {Q : List D → Sto → Prop} {t : MT} {c : MO} {e : ME} {ds : List D} (P : D → Prop) (hs : ∀ x, x ∈ ds → wTn Φ G t c e ρ x S fun o S1 => ∃ y, o = some y ∧ P y ∧ S1 = S) (hd : ∀ xs : List D, xs.length = ds.length → (∀ x, x ∈ xs → P x) → Q xs S) : wL Φ G t c e ρ ds S Q := by
  refine wL_draw (fun y : D => y) P (fun _ S' => S' = S) rfl (fun j d S1 hj hJ => ?_) fun xs S1 hl hx hJ => ?_
  · subst hJ
    exact hs d (List.mem_of_getElem? hj)
  · subst hJ
    rw [List.map_id']
    exact hd xs hl hx
section
variable {P : Nat → Option FD} {G : List D}
theorem others_ok {k l B : Nat} {d : Int} {rows os cs : List D} {S : Sto} {Q : Rt → Sto → Prop} (hT : P 159 = some l_take_1) (hP : P 175 = some l_others) (hd : 2 ≤ d) (hd2 : d ≤ 9) (hr : rows.length ≤ 15) (hO : Small 1 os) (hC : Small 1 cs) (hol : os.length ≤ 10) (hcl : cs.length ≤ 18) (hB : Bx l (B + 1) S)
    (q : ∀ ds S', (∀ x, x ∈ ds → PapOk 100 4 x) → Bx l B S' → Fr l S S' → Q (.own ds) S') : wF (runF P G (k + 2)) 175 [.ref l, .lst rows, .lst [.tup [.str "whole", .lst os, .int d, .int 1], .tup [.str "sum", .lst cs]], .int d] S Q := by
  refine wF_of hP rfl ?_
  unfold l_others
  have aO := hO.arg (by decide)
  have aC := hC.arg (by decide)
  have ad : ArgOk 100 (.int d) := .int (bd100 (by omega) (by omega))
  have a1 : ArgOk 100 (.int 1) := .int (bd100 (by decide) (by decide))
  refine wSs_cut fun r hr => ?_
  walk_at "w"
  subst hr
  refine wSs_cut fun r hr => ?_
  walk_at "w"
  subst hr
  refine wSs_cut fun r hr => ?_
  walk_at "w"
  refine wL_all (PapOk 100 4) (fun x hx => ?_) fun f1 l1 p1 => ?_
  · have ax : ArgOk 100 x := by
      simp only [List.mem_cons, List.not_mem_nil, or_false] at hx
      rcases hx with rfl | rfl | rfl | rfl | rfl | rfl | rfl
      · exact .int (bd100 (by omega) (by omega))
      · exact .int (bd100 (by omega) (by omega))
      · exact .int (bd100 (by omega) (by omega))
      · exact .int (bd100 (by omega) (by omega))
      · exact .int (bd100 (by omega) (by omega))
      · exact .int (bd100 (by omega) (by omega))
      · exact .bl
    unfold wTn
    try simp only [wipeR]
    walk_at "w"
    exact pap2 (stOk_whole aO ax a1) (stOk_sum aC)
  have l1 : f1.length = 7 := l1
  refine ⟨by walk_at "sz", ?_⟩
  subst hr
  refine wSs_cut fun r hr => ?_
  walk_at "w"
  refine wL_all (PapOk 100 4) (fun x hx => ?_) fun f2 l2 p2 => ?_
  · have ax : ArgOk 100 x := by
      simp only [List.mem_cons, List.not_mem_nil, or_false] at hx
      rcases hx with rfl | rfl | rfl | rfl | rfl | rfl
      · exact .int (bd100 (by omega) (by omega))
      · exact .int (bd100 (by omega) (by omega))
      · exact .int (bd100 (by omega) (by omega))
      · exact .bl
      · exact .non
      · exact .str
    unfold wTn
    try simp only [wipeR]
    walk_at "w"
    exact pap2 (stOk_whole aO ad ax) (stOk_sum aC)
  have l2 : f2.length = 6 := l2
  refine ⟨by walk_at "sz", by walk_at "sz", ?_⟩
  subst hr
  refine wSs_cut fun r hr => ?_
  walk_at "w"
  refine ⟨_, _, ⟨rfl, rfl⟩, _, rfl, ?_⟩
  have c1 : cutD [D.tup [.str "whole", .lst os, .int d, .int 1], .tup [.str "sum", .lst cs]] none (some 1) = [.tup [.str "whole", .lst os, .int d, .int 1]] := cut_to (j := 1)
  have c2 : cutD [D.tup [.str "whole", .lst os, .int d, .int 1], .tup [.str "sum", .lst cs]] (some 1) none = [.tup [.str "sum", .lst cs]] := cut_from (j := 1)
  simp only [c1, c2]
  refine ⟨lt_size (show 2 + 1 ≤ 1000 by decide), by walk_at "sz", ?_⟩
  have sW : StOk 100 (.tup [.str "whole", .lst os, .int d, .int 1]) := stOk_whole aO ad a1
  have sS : StOk 100 (.tup [.str "sum", .lst cs]) := stOk_sum aC
  have p3 : ∀ x, x ∈ f1 ++ f2 ++ [D.lst [.tup [.str "sum", .lst (cutD cs none (some (-1)))]], .lst [.tup [.str "sum", .lst os]], .lst [.tup [.str "sum", .lst cs]], .lst [.tup [.str "whole", .lst os, .int d, .int 1]],
      .lst [.tup [.str "whole", .lst os, .int d, .int 1], .tup [.str "sum", .lst cs]].reverse, .lst [.tup [.str "whole", .lst os, .int d, .int 1], .tup [.str "sum", .lst cs], .tup [.str "sum", .lst cs]]] → PapOk 100 4 x := fun x hx => by
    rcases List.mem_append.mp hx with hx | hx
    · rcases List.mem_append.mp hx with hx | hx
      · exact p1 x hx
      · exact p2 x hx
    · simp only [List.mem_cons, List.not_mem_nil, or_false] at hx
      rcases hx with rfl | rfl | rfl | rfl | rfl | rfl
      · exact pap1 (stOk_sum ((hC.cut _ _).arg (by decide)))
      · exact pap1 (stOk_sum aO)
      · exact pap1 sS
      · exact pap1 sW
      · exact pap2 sS sW
      · exact pap_of (show 3 ≤ 4 by decide) fun z hz => by
          simp only [List.mem_cons, List.not_mem_nil, or_false] at hz
          rcases hz with rfl | rfl | rfl
          · exact sW
          · exact sS
          · exact sS
  have l3 : (f1 ++ f2 ++ [D.lst [.tup [.str "sum", .lst (cutD cs none (some (-1)))]], .lst [.tup [.str "sum", .lst os]], .lst [.tup [.str "sum", .lst cs]], .lst [.tup [.str "whole", .lst os, .int d, .int 1]],
      .lst [.tup [.str "whole", .lst os, .int d, .int 1], .tup [.str "sum", .lst cs]].reverse, .lst [.tup [.str "whole", .lst os, .int d, .int 1], .tup [.str "sum", .lst cs], .tup [.str "sum", .lst cs]]]).length = 19 := by
    rw [List.length_append, List.length_append, l1, l2]; rfl
  generalize f1 ++ f2 ++ [D.lst [.tup [.str "sum", .lst (cutD cs none (some (-1)))]], .lst [.tup [.str "sum", .lst os]], .lst [.tup [.str "sum", .lst cs]], .lst [.tup [.str "whole", .lst os, .int d, .int 1]],
      .lst [.tup [.str "whole", .lst os, .int d, .int 1], .tup [.str "sum", .lst cs]].reverse, .lst [.tup [.str "whole", .lst os, .int d, .int 1], .tup [.str "sum", .lst cs], .tup [.str "sum", .lst cs]]] = f3 at p3 l3 ⊢
  subst hr
  refine wSs_cut fun r hr => ?_
  walk_at "w"
  refine wL_all (fun x => ∃ y : Int, x = .int y ∧ 0 ≤ y ∧ y ≤ 2) (fun x hx => ?_) fun tw lt pt => ?_
  · obtain ⟨y, rfl, y0, y1⟩ := hO.2 x hx
    unfold wTn
    try simp only [wipeR]
    walk_at "w"
    omega
  have sT : Small 2 tw := ⟨by have := hO.1; omega, pt⟩
  have aT := sT.arg (by decide)
  have hl20 := hO.1
  have hc20 := hC.1
  refine ⟨by walk_at "sz", ?_⟩
  subst hr
  refine wSs_cut fun r hr => ?_
  walk_at "w"
  refine ⟨by walk_at "sz", ?_⟩
  have a2 : ArgOk 100 (.int (2 * d)) := .int (bd100 (by omega) (by omega))
  have p4 : ∀ x, x ∈ f3 ++ [D.lst [.tup [.str "whole", .lst tw, .int d, .int 1], .tup [.str "sum", .lst cs]], .lst [.tup [.str "whole", .lst tw, .int (2 * d), .int 1], .tup [.str "sum", .lst cs]]] → PapOk 100 4 x := fun x hx => by
    rcases List.mem_append.mp hx with hx | hx
    · exact p3 x hx
    · simp only [List.mem_cons, List.not_mem_nil, or_false] at hx
      rcases hx with rfl | rfl
      · exact pap2 (stOk_whole aT ad a1) sS
      · exact pap2 (stOk_whole aT a2 a1) sS
  have l4 : (f3 ++ [D.lst [.tup [.str "whole", .lst tw, .int d, .int 1], .tup [.str "sum", .lst cs]], .lst [.tup [.str "whole", .lst tw, .int (2 * d), .int 1], .tup [.str "sum", .lst cs]]]).length = 21 := by
    rw [List.length_append, l3]; rfl
  generalize f3 ++ [D.lst [.tup [.str "whole", .lst tw, .int d, .int 1], .tup [.str "sum", .lst cs]], .lst [.tup [.str "whole", .lst tw, .int (2 * d), .int 1], .tup [.str "sum", .lst cs]]] = f4 at p4 l4 ⊢
  subst hr
  refine wSs_cut fun r hr => ?_
  walk_at "w"
  rw [Int.toNat_natCast, rep_flat]
  have sR : Small 1 ((List.replicate rows.length (0 : Int)).map D.int ++ [D.int 1]) := by
    refine ⟨by rw [List.length_append, List.length_map, List.length_replicate]; show _ + 1 ≤ 20; omega, fun x hx => ?_⟩
    rcases List.mem_append.mp hx with hx | hx
    · obtain ⟨y, hy, rfl⟩ := List.mem_map.mp hx
      rw [List.eq_of_mem_replicate hy]
      exact ⟨0, rfl, by decide, by decide⟩
    · rw [List.mem_singleton.mp hx]; exact ⟨1, rfl, by decide, by decide⟩
  have aR := sR.arg (by decide)
  generalize (List.replicate rows.length (0 : Int)).map D.int = zs at sR aR ⊢
  have zl := sR.1
  rw [List.length_append] at zl
  have zl : zs.length + 1 ≤ 20 := zl
  refine ⟨⟨by omega, by omega, lt_size (by omega)⟩, by walk_at "sz", ?_⟩
  refine take_ok (B := B) hT hB (by decide) (by decide) fun v S1 v0 v1 hB1 fr1 => ?_
  walk_at "w"
  have sN : StOk 100 (.tup [.str "whole", .lst (zs ++ [.int 1]), .int (1 + v), .int 2]) := stOk_whole aR (.int (bd100 (by omega) (by omega))) (.int (bd100 (by decide) (by decide)))
  subst hr
  refine wSs_cut fun r hr => ?_
  walk_at "w"
  have c3 : ∀ lo hi, (cutD cs lo hi).length ≤ 20 := fun lo hi => Nat.le_trans cut_len hc20
  have h3 := c3 none (some (-1))
  have sC2 : Small 1 (cutD cs none (some (-1)) ++ [D.int 0, .int 1]) := by
    refine ⟨?_, fun x hx => ?_⟩
    · rw [List.length_append]
      have : cs.length ≤ 18 := hcl
      have := cut_len (xs := cs) (lo := none) (hi := some (-1))
      show _ + 2 ≤ 20
      omega
    · rcases List.mem_append.mp hx with hx | hx
      · exact (hC.cut _ _).2 x hx
      · simp only [List.mem_cons, List.not_mem_nil, or_false] at hx
        rcases hx with rfl | rfl
        · exact ⟨0, rfl, by decide, by decide⟩
        · exact ⟨1, rfl, by decide, by decide⟩
  refine ⟨by walk_at "sz", lt_size (by omega), ?_⟩
  have p5 : ∀ x, x ∈ f4 ++ [D.lst [.tup [.str "whole", .lst os, .int d, .int 1], .tup [.str "whole", .lst (zs ++ [.int 1]), .int (1 + v), .int 2], .tup [.str "sum", .lst (cutD cs none (some (-1)) ++ [D.int 0, .int 1])]]] → PapOk 100 4 x := fun x hx => by
    rcases List.mem_append.mp hx with hx | hx
    · exact p4 x hx
    · rw [List.mem_singleton.mp hx]
      exact pap_of (show 3 ≤ 4 by decide) fun z hz => by
          simp only [List.mem_cons, List.not_mem_nil, or_false] at hz
          rcases hz with rfl | rfl | rfl
          · exact sW
          · exact sN
          · exact stOk_sum (sC2.arg (by decide))
  have l5 : (f4 ++ [D.lst [.tup [.str "whole", .lst os, .int d, .int 1], .tup [.str "whole", .lst (zs ++ [.int 1]), .int (1 + v), .int 2], .tup [.str "sum", .lst (cutD cs none (some (-1)) ++ [D.int 0, .int 1])]]]).length = 22 := by
    rw [List.length_append, l4]; rfl
  generalize f4 ++ [D.lst [.tup [.str "whole", .lst os, .int d, .int 1], .tup [.str "whole", .lst (zs ++ [.int 1]), .int (1 + v), .int 2], .tup [.str "sum", .lst (cutD cs none (some (-1)) ++ [D.int 0, .int 1])]]] = f5 at p5 l5 ⊢
  subst hr
  refine wSs_cut fun r hr => ?_
  walk_at "w"
  refine ⟨by walk_at "sz", lt_size (by omega), ?_⟩
  have sO2 : Small 1 (os ++ [D.int 0]) := by
    refine ⟨by rw [List.length_append]; show _ + 1 ≤ 20; omega, fun x hx => ?_⟩
    rcases List.mem_append.mp hx with hx | hx
    · exact hO.2 x hx
    · rw [List.mem_singleton.mp hx]; exact ⟨0, rfl, by decide, by decide⟩
  have p6 : ∀ x, x ∈ f5 ++ [D.lst [.tup [.str "whole", .lst (os ++ [D.int 0]), .int d, .int 1], .tup [.str "sum", .lst cs]]] → PapOk 100 4 x := fun x hx => by
    rcases List.mem_append.mp hx with hx | hx
    · exact p5 x hx
    · rw [List.mem_singleton.mp hx]
      exact pap2 (stOk_whole (sO2.arg (by decide)) ad a1) sS
  have l6 : (f5 ++ [D.lst [.tup [.str "whole", .lst (os ++ [D.int 0]), .int d, .int 1], .tup [.str "sum", .lst cs]]]).length = 23 := by
    rw [List.length_append, l5]; rfl
  generalize f5 ++ [D.lst [.tup [.str "whole", .lst (os ++ [D.int 0]), .int d, .int 1], .tup [.str "sum", .lst cs]]] = f6 at p6 l6 ⊢
  subst hr
  refine wSs_cut fun r hr => ?_
  walk_at "w"
  refine wL_all (fun x => ∃ y : Int, x = .int y ∧ 0 ≤ y ∧ y ≤ 1000000000000000000000) (fun x hx => ?_) fun gr lg pg => ?_
  · obtain ⟨y, rfl, y0, y1⟩ := hO.2 x hx
    unfold wTn
    try simp only [wipeR]
    walk_at "w"
    refine ⟨show (10 : Nat) < 2 ^ 64 by decide, .inl (.inr ⟨by omega, by omega⟩), ?_⟩
    rw [show (10 : Int) ^ (20 : Nat) = 100000000000000000000 by decide]
    omega
  have sG : Small 1000000000000000000000 gr := ⟨by omega, pg⟩
  have aG := sG.arg (by decide)
  refine ⟨by walk_at "sz", ?_⟩
  subst hr
  refine wSs_cut fun r hr => ?_
  walk_at "w"
  refine wL_all (PapOk 100 4) (fun x hx => ?_) fun f7 l7 p7 => ?_
  · have ax : ∃ y : Int, x = .int y ∧ -1 ≤ y ∧ y ≤ 1 := by
      simp only [List.mem_cons, List.not_mem_nil, or_false] at hx
      rcases hx with rfl | rfl | rfl
      · exact ⟨0, rfl, by decide, by decide⟩
      · exact ⟨1, rfl, by decide, by decide⟩
      · exact ⟨-1, rfl, by decide, by decide⟩
    obtain ⟨y, rfl, y0, y1⟩ := ax
    unfold wTn
    try simp only [wipeR]
    walk_at "w"
    refine ⟨show (10 : Nat) < 2 ^ 64 by decide, .inl (.inr ⟨by omega, by omega⟩), ?_⟩
    rw [show (10 : Int) ^ (20 : Nat) = 100000000000000000000 by decide]
    exact pap2 (stOk_whole aG (.int (bd100 (by omega) (by omega))) a1) sS
  have l7 : f7.length = 3 := l7
  refine ⟨by walk_at "sz", by walk_at "sz", ?_⟩
  subst hr
  walk_at "w"
  have sX : StOk 100 (.tup [.str "whole", .lst os, .int d, .int 1, .int 1]) := .of (k := .t) (show 5 ≤ 1000 by decide) fun y hy => by
    simp only [List.mem_cons, List.not_mem_nil, or_false] at hy
    rcases hy with rfl | rfl | rfl | rfl | rfl
    · exact .str
    · exact aO
    · exact ad
    · exact a1
    · exact a1
  have sY : StOk 100 (.tup [.str "whole", .lst os, .int d]) := .of (k := .t) (show 3 ≤ 1000 by decide) fun y hy => by
    simp only [List.mem_cons, List.not_mem_nil, or_false] at hy
    rcases hy with rfl | rfl | rfl
    · exact .str
    · exact aO
    · exact ad
  refine ⟨by walk_at "sz", q _ S1 (fun x hx => ?_) hB1 fr1⟩
  rcases List.mem_append.mp hx with hx | hx
  · rcases List.mem_append.mp hx with hx | hx
    · exact p6 x hx
    · exact p7 x hx
  · simp only [List.mem_cons, List.not_mem_nil, or_false] at hx
    rcases hx with rfl | rfl
    · exact pap2 sX sS
    · exact pap2 sY sS
end
structure Has (P : Nat → Option FD) (G : List D) : Prop where
  f : PapF P G
  l : PapL P
  h3 : P 3 = some l_box
  h38 : P 38 = some l_same
  h39 : P 39 = some l_row_1
  h159 : P 159 = some l_take_1
  h160 : P 160 = some l_folded_1
  h161 : P 161 = some l_many
  h174 : P 174 = some l_halved
  h175 : P 175 = some l_others
  h176 : P 176 = some p_law_22
theorem rowB_of {w : Nat} {r : Row} (h : RowOk w 1000000 r) : RowB w 20 r := by
  have key : ∀ x : Int, -1000000 ≤ x → x ≤ 1000000 → Bd 20 x := fun x h1 h2 => by
    unfold Bd
    have : (2 : Nat) ^ 20 = 1048576 := by decide
    omega
  exact ⟨h.1, fun x hx => key x (h.2.1 x hx).1 (h.2.1 x hx).2, key _ h.2.2.1 h.2.2.2⟩
theorem hvR_ok {w : Nat} {A C : List Row} {xs : List Int} {d z e : Int} (hd : 2 ≤ d) (hd2 : d ≤ 9) (he : 0 ≤ e) (he2 : e < d - 1) (hx : xs.length = w) (hxs : ∀ x, x ∈ xs → -4 ≤ x ∧ x ≤ 4) (hz : -9 ≤ z) (hz2 : z ≤ 10) (hA : ∀ r, r ∈ A → RowOk w 10000 r) (hC : ∀ r, r ∈ C → RowOk w 10000 r) : ∀ r, r ∈ hvR A C xs d z e → RowOk w 1000000 r := fun r h => by
  have hdd : d = 2 ∨ d = 3 ∨ d = 4 ∨ d = 5 ∨ d = 6 ∨ d = 7 ∨ d = 8 ∨ d = 9 := by omega
  unfold hvR at h
  rcases List.mem_append.mp h with h | h
  · exact (hA r h).mono (by decide)
  · rcases List.mem_cons.mp h with rfl | h
    · refine ⟨by show (xs.map _).length = w; rw [List.length_map, hx], fun y hy => ?_, ?_, ?_⟩
      · obtain ⟨x, hxm, rfl⟩ := List.mem_map.mp hy
        have := hxs x hxm
        rcases hdd with rfl | rfl | rfl | rfl | rfl | rfl | rfl | rfl <;> omega
      · show -1000000 ≤ d * z + 1 + e
        rcases hdd with rfl | rfl | rfl | rfl | rfl | rfl | rfl | rfl <;> omega
      · show d * z + 1 + e ≤ 1000000
        rcases hdd with rfl | rfl | rfl | rfl | rfl | rfl | rfl | rfl <;> omega
    · rcases List.mem_append.mp h with h | h
      · exact (hC r h).mono (by decide)
      · rw [List.mem_singleton.mp h]
        refine ⟨by show (xs.map _).length = w; rw [List.length_map, hx], fun y hy => ?_, by show -1000000 ≤ 0 - z; omega, by show 0 - z ≤ 1000000; omega⟩
        obtain ⟨x, hxm, rfl⟩ := List.mem_map.mp hy
        have := hxs x hxm
        omega
theorem hvP_ok {a c : Nat} {d : Int} (hd : 2 ≤ d) (hd2 : d ≤ 9) (hac : a + c ≤ 8) : PapOk 100 4 (hvP a c d) := by
  have s1 : Small 1 ((hvO a c).map D.int) := ⟨by rw [List.length_map, hvO_len]; omega, fun x hx => by
    obtain ⟨y, hy, rfl⟩ := List.mem_map.mp hx
    exact ⟨y, rfl, hvO_01 y hy⟩⟩
  have s2 : Small 1 ((hvC a c).map D.int) := ⟨by rw [List.length_map, hvC_len]; omega, fun x hx => by
    obtain ⟨y, hy, rfl⟩ := List.mem_map.mp hx
    exact ⟨y, rfl, hvC_01 y hy⟩⟩
  exact pap2 (stOk_whole (s1.arg (by decide)) (.int (bd100 (by omega) (by omega))) (.int (bd100 (by decide) (by decide)))) (stOk_sum (s2.arg (by decide)))
theorem bx_ext {l B : Nat} {S S' : Sto} (x : Ext S S') (h : Bx l B S) : Bx l B S' := by
  obtain ⟨a, b, c, e, r⟩ := h
  exact ⟨a, b, c, by rw [x.2 l (List.getElem?_eq_some_iff.mp e).1]; exact e, r⟩
theorem len7' {α : Type} {a : List α} (h : a.length = 6) : ∃ a0 a1 a2 a3 a4 a5, a = [a0, a1, a2, a3, a4, a5] := by
  match a, h with
  | [a0, a1, a2, a3, a4, a5], _ => exact ⟨_, _, _, _, _, _, rfl⟩
theorem law_ok' {P : Nat → Option FD} {G : List D} (h : Has P G) {ns : List Int} (hl : ns.length ≤ 63) : ∃ S', runF P G 40 176 [.scr (ns.map .int)] [] = some (.val (.bl true), S') := by
  suffices hw : wF (runF P G 40) 176 [.scr (ns.map .int)] [] (fun r _ => r = .val (.bl true)) by
    obtain ⟨r, S', e, rfl⟩ := hw
    exact ⟨S', e⟩
  refine wF_of h.h176 rfl ?_
  unfold p_law_22
  walk_at "w"
  refine folded_ok (m := 12) h.h160 hl (by decide) (by decide) fun is his => ?_
  walk_at "w"
  have hn : ∃ n : Nat, (if ((is.length : Nat) : Int) > 3 then ((is.length : Nat) : Int) else 3) = (n : Int) ∧ n ≤ 12 := by
    split
    · exact ⟨is.length, rfl, by omega⟩
    · exact ⟨3, rfl, by decide⟩
  obtain ⟨n, en, hn⟩ := hn
  rw [en, Int.toNat_natCast]
  refine ⟨⟨by omega, by omega⟩, ?_⟩
  refine wFor_inv (fun i ρ S' => ∃ a, ρ = .val (.scr (ns.map .int)) :: .val (.lst (is.map .int)) :: a ∧ a.length = 6) ⟨_, rfl, rfl⟩ (fun i d ρ S1 hd hI => ?_) fun ρ S1 hI => ?_
  · obtain ⟨a, rfl, ha⟩ := hI
    obtain ⟨a0, a1, a2, a3, a4, a5, rfl⟩ := len7' ha
    obtain ⟨hi, rfl⟩ := rng_get hd
    walk_at "w"
    refine box_ok (ns := is) (j := i) h.h3 (by omega) (by omega) fun u v hu hv hv2 => ?_
    walk_at "w"
    have hB0 := bx_new (S := S1) hu hv hv2
    generalize S1 ++ [Cell.lst [.int u, .int v, .int 0]] = S2 at hB0
    generalize S1.length = l at hB0
    refine take_ok (B := BIG - 1) h.h159 (hB0.mono (by decide)) (by decide) (by decide) fun c S3 c0 c1 hB3 f3 => ?_
    walk_at "w"
    refine ix_any (fun d => ∃ w : Nat, d = .int w ∧ 0 < w ∧ w ≤ 16) c0 (by simpa using c1) (fun d hd => ?_) fun d hd => ?_
    · simp only [List.mem_cons, List.not_mem_nil, or_false] at hd
      rcases hd with rfl | rfl | rfl | rfl
      · exact ⟨2, rfl, by decide, by decide⟩
      · exact ⟨4, rfl, by decide, by decide⟩
      · exact ⟨8, rfl, by decide, by decide⟩
      · exact ⟨16, rfl, by decide, by decide⟩
    obtain ⟨w, rfl, hw0, hw⟩ := hd
    walk_at "w"
    refine halved_ok (k := 36) (B := BIG - 1001) h.h159 h.h161 h.h39 h.h174 hw (hB3.mono (by decide)) fun A C xs d z e S4 d0 d1 e0 e1 hxl hxs z0 z1 hA hC hac hB4 f4 => ?_
    walk_at "w"
    have hrs := hvR_ok d0 d1 e0 e1 hxl hxs z0 z1 hA hC
    have hp0 := hv_law (w := w) (z := z) d0 e0 e1 hxl (fun r h => (hA r h).1) fun r h => (hC r h).1
    have hpk := hvP_ok d0 d1 hac
    have hlen : (hvR A C xs d z e).length = A.length + (C.length + 1 + 1) := hvR_len
    have hbo : ∀ r, r ∈ (hvR A C xs d z e).map ofR → RowB w 20 r.1 := fun r h => by obtain ⟨r, h', rfl⟩ := List.mem_map.mp h; exact rowB_of (hrs r h')
    have sp1 : ∀ {x : D} {S : Sto} {k : Nat} {Q : Rt → Sto → Prop}, PapOk 100 4 x → (∀ S', Ext S S' → Q (.val (.bl (papD w ((hvR A C xs d z e).map ofR) x))) S') → wF (runF P G (k + 5)) 157 [.lst ((hvR A C xs d z e).map dRow), x] S Q := fun {x S k Q} td q => by
      have := shows_paper_ok (k := k) (w := w) (b := 20) (t := 100) (n := 4) (k1 := .l) (rs := (hvR A C xs d z e).map ofR) (S := S) (Q := Q) h.f td hw0 (by omega) (by decide) (by rw [List.length_map]; omega) (by rw [List.length_map]; omega) (by decide) hbo (fun S' hx => q S' hx)
      rw [map_ofR] at this
      exact this
    have sp3 : ∀ {x : D} {S : Sto} {k : Nat} {Q : Rt → Sto → Prop}, PapOk 100 4 x → (∀ S', Ext S S' → Q (.val (.bl (papD w ((hvR A C xs d z e).map ofR) x))) S') → wF (runF P G (k + 5)) 170 [.lst ((hvR A C xs d z e).map dRow), x] S Q := fun {x S k Q} td q => by
      have := is_paper_ok (G := G) (k := k) (w := w) (b := 20) (t := 100) (n := 4) (k1 := .l) (rs := (hvR A C xs d z e).map ofR) (S := S) (Q := Q) h.l td hw0 (by omega) (by decide) (by rw [List.length_map]; omega) (by rw [List.length_map]; omega) (by decide) hbo (fun S' hx => q S' hx)
      rw [map_ofR] at this
      exact this
    refine sp1 (k := 34) hpk fun S5 x5 => ?_
    rw [hp0]
    walk_at "w"
    refine same_bl (k := 38) h.h38 ?_
    walk_at "w"
    refine others_ok (k := 37) (B := 0) h.h159 h.h175 d0 d1 (by rw [List.length_map]; omega) ⟨by rw [List.length_map, hvO_len]; omega, fun x hx => by
      obtain ⟨y, hy, rfl⟩ := List.mem_map.mp hx
      exact ⟨y, rfl, hvO_01 y hy⟩⟩ ⟨by rw [List.length_map, hvC_len]; omega, fun x hx => by
      obtain ⟨y, hy, rfl⟩ := List.mem_map.mp hx
      exact ⟨y, rfl, hvC_01 y hy⟩⟩ (by rw [List.length_map, hvO_len]; omega) (by rw [List.length_map, hvC_len]; omega) (bx_ext x5 (hB4.mono (by decide))) fun ds S6 hds hB6 f6 => ?_
    walk_at "w"
    generalize hvP A.length C.length d = pp
    refine wFor_inv (fun j ρ S' => ∃ y, ρ = [.val (.scr (ns.map .int)), .val (.lst (is.map .int)), .val (.int i), .val (.ref l), y, .val (.lst ((hvR A C xs d z e).map dRow)), .val pp, .val (.int d)]) ⟨_, rfl⟩ (fun j x ρ S7 hx hI => ?_) fun ρ S7 hI => ?_
    · obtain ⟨y, rfl⟩ := hI
      have px := hds x (List.mem_of_getElem? hx)
      walk_at "w"
      refine sp1 (k := 34) px fun S8 x8 => ?_
      walk_at "w"
      refine sp3 (k := 34) px fun S9 x9 => ?_
      walk_at "w"
      refine same_bl (k := 38) h.h38 ?_
      walk_at "w"
      exact ⟨_, rfl⟩
    · obtain ⟨y, rfl⟩ := hI
      exact ⟨_, rfl, rfl⟩
  · obtain ⟨a, rfl, ha⟩ := hI
    walk_at "w"
end Mi.Lw
end
namespace Mi.Lw
open PySem L2
def top (i : Nat) : Stmt := PySem.Challenge.pw_somesay_k23_wholes_that_close.main.body.getD i (.Pass ⟨0, 0, 0, 0⟩)
def tb : Tab := ⟨["abs", "all", "any", "bool", "dict", "divmod", "enumerate", "int", "isinstance", "len", "list", "max", "range", "set", "sorted", "str", "sum", "tuple", "zip"], [(25, ("sum_of" : Str)), (44, ("is_time" : Str)), (45, ("are_times" : Str)), (46, ("shows_sum" : Str)), (149, ("is_count" : Str)), (150, ("is_row_list" : Str)), (36, ("part_up" : Str)), (37, ("whole_row" : Str)), (151, ("row_of_most" : Str)), (152, ("row_of_least" : Str)), (153, ("are_cells" : Str)), (154, ("is_step" : Str)), (155, ("named_by" : Str)), (156, ("rows_behind" : Str)), (157, ("shows_paper" : Str)), (3, ("_law_box" : Str)), (159, ("_law_take" : Str)), (160, ("_law_folded" : Str)), (38, ("_law_same" : Str)), (161, ("_law_many" : Str)), (39, ("_law_row" : Str)), (40, ("_law_up" : Str)), (41, ("_law_whole" : Str)), (162, ("_law_sum" : Str)), (163, ("_law_case_rows" : Str)), (121, ("_law_is_number" : Str)), (165, ("_law_are_times" : Str)), (166, ("_law_are_cells" : Str)), (167, ("_law_formed" : Str)), (168, ("_law_goes_by" : Str)), (169, ("_law_put_behind" : Str)), (170, ("_law_is_paper" : Str)), (174, ("_law_halved" : Str)), (175, ("_law_others" : Str)), (176, ("law" : Str))], [(11, "KINDS")]⟩
def PP (f : Nat) : Option FD := match f with
  | 25 => some p_sum_of
  | 44 => some p_is_time
  | 45 => some p_are_times
  | 46 => some p_shows_sum
  | 149 => some p_is_count
  | 150 => some p_is_row_list
  | 36 => some p_part_up
  | 37 => some p_whole_row
  | 151 => some p_row_of_most
  | 152 => some p_row_of_least
  | 153 => some p_are_cells
  | 154 => some p_is_step
  | 155 => some p_named_by
  | 156 => some p_rows_behind
  | 157 => some p_shows_paper
  | 3 => some l_box
  | 159 => some l_take_1
  | 160 => some l_folded_1
  | 38 => some l_same
  | 161 => some l_many
  | 39 => some l_row_1
  | 40 => some l_up
  | 41 => some l_whole
  | 162 => some l_sum
  | 163 => some l_case_rows
  | 121 => some l_is_number_1
  | 165 => some l_are_times
  | 166 => some l_are_cells
  | 167 => some l_formed
  | 168 => some l_goes_by
  | 169 => some l_put_behind
  | 170 => some l_is_paper
  | 174 => some l_halved
  | 175 => some l_others
  | 176 => some p_law_22
  | _ => none
abbrev s_p_sum_of : Stmt := top 1
def d_p_sum_of : Def := ⟨25, "sum_of", s_p_sum_of, ["rows", "times", "numbers", "least", "row", "often", "one", "other"], ["rows", "times"], p_sum_of⟩
set_option maxHeartbeats 4000000 in
theorem ok_p_sum_of : d_p_sum_of.Ok tb PP := ⟨⟨rfl, rfl, rfl, by decide +kernel, rfl, by decide +kernel, by decide +kernel⟩, by decide +kernel, rfl, rfl, rfl⟩
abbrev s_p_is_time : Stmt := top 2
def d_p_is_time : Def := ⟨44, "is_time", s_p_is_time, ["thing"], ["thing"], p_is_time⟩
set_option maxHeartbeats 4000000 in
theorem ok_p_is_time : d_p_is_time.Ok tb PP := ⟨⟨rfl, rfl, rfl, by decide +kernel, rfl, by decide +kernel, by decide +kernel⟩, by decide +kernel, rfl, rfl, rfl⟩
abbrev s_p_are_times : Stmt := top 3
def d_p_are_times : Def := ⟨45, "are_times", s_p_are_times, ["thing", "many", "one"], ["thing", "many"], p_are_times⟩
set_option maxHeartbeats 4000000 in
theorem ok_p_are_times : d_p_are_times.Ok tb PP := ⟨⟨rfl, rfl, rfl, by decide +kernel, rfl, by decide +kernel, by decide +kernel⟩, by decide +kernel, rfl, rfl, rfl⟩
abbrev s_p_shows_sum : Stmt := top 4
def d_p_shows_sum : Def := ⟨46, "shows_sum", s_p_shows_sum, ["rows", "times", "numbers", "least"], ["rows", "times"], p_shows_sum⟩
set_option maxHeartbeats 4000000 in
theorem ok_p_shows_sum : d_p_shows_sum.Ok tb PP := ⟨⟨rfl, rfl, rfl, by decide +kernel, rfl, by decide +kernel, by decide +kernel⟩, by decide +kernel, rfl, rfl, rfl⟩
abbrev s_p_is_count : Stmt := top 7
def d_p_is_count : Def := ⟨149, "is_count", s_p_is_count, ["thing"], ["thing"], p_is_count⟩
set_option maxHeartbeats 4000000 in
theorem ok_p_is_count : d_p_is_count.Ok tb PP := ⟨⟨rfl, rfl, rfl, by decide +kernel, rfl, by decide +kernel, by decide +kernel⟩, by decide +kernel, rfl, rfl, rfl⟩
abbrev s_p_is_row_list : Stmt := top 8
def d_p_is_row_list : Def := ⟨150, "is_row_list", s_p_is_row_list, ["thing"], ["thing"], p_is_row_list⟩
set_option maxHeartbeats 4000000 in
theorem ok_p_is_row_list : d_p_is_row_list.Ok tb PP := ⟨⟨rfl, rfl, rfl, by decide +kernel, rfl, by decide +kernel, by decide +kernel⟩, by decide +kernel, rfl, rfl, rfl⟩
abbrev s_p_part_up : Stmt := top 9
def d_p_part_up : Def := ⟨36, "part_up", s_p_part_up, ["number", "divisor"], ["number", "divisor"], p_part_up⟩
set_option maxHeartbeats 4000000 in
theorem ok_p_part_up : d_p_part_up.Ok tb PP := ⟨⟨rfl, rfl, rfl, by decide +kernel, rfl, by decide +kernel, by decide +kernel⟩, by decide +kernel, rfl, rfl, rfl⟩
abbrev s_p_whole_row : Stmt := top 10
def d_p_whole_row : Def := ⟨37, "whole_row", s_p_whole_row, ["row", "divisor", "number"], ["row", "divisor"], p_whole_row⟩
set_option maxHeartbeats 4000000 in
theorem ok_p_whole_row : d_p_whole_row.Ok tb PP := ⟨⟨rfl, rfl, rfl, by decide +kernel, rfl, by decide +kernel, by decide +kernel⟩, by decide +kernel, rfl, rfl, rfl⟩
abbrev s_p_row_of_most : Stmt := top 11
def d_p_row_of_most : Def := ⟨151, "row_of_most", s_p_row_of_most, ["cells", "n", "wide", "cell"], ["cells", "n", "wide"], p_row_of_most⟩
set_option maxHeartbeats 4000000 in
theorem ok_p_row_of_most : d_p_row_of_most.Ok tb PP := ⟨⟨rfl, rfl, rfl, by decide +kernel, rfl, by decide +kernel, by decide +kernel⟩, by decide +kernel, rfl, rfl, rfl⟩
abbrev s_p_row_of_least : Stmt := top 12
def d_p_row_of_least : Def := ⟨152, "row_of_least", s_p_row_of_least, ["cells", "n", "wide", "cell"], ["cells", "n", "wide"], p_row_of_least⟩
set_option maxHeartbeats 4000000 in
theorem ok_p_row_of_least : d_p_row_of_least.Ok tb PP := ⟨⟨rfl, rfl, rfl, by decide +kernel, rfl, by decide +kernel, by decide +kernel⟩, by decide +kernel, rfl, rfl, rfl⟩
abbrev s_p_are_cells : Stmt := top 13
def d_p_are_cells : Def := ⟨153, "are_cells", s_p_are_cells, ["thing", "wide", "cell"], ["thing", "wide"], p_are_cells⟩
set_option maxHeartbeats 4000000 in
theorem ok_p_are_cells : d_p_are_cells.Ok tb PP := ⟨⟨rfl, rfl, rfl, by decide +kernel, rfl, by decide +kernel, by decide +kernel⟩, by decide +kernel, rfl, rfl, rfl⟩
abbrev s_p_is_step : Stmt := top 14
def d_p_is_step : Def := ⟨154, "is_step", s_p_is_step, ["thing", "rows"], ["thing", "rows"], p_is_step⟩
set_option maxHeartbeats 4000000 in
theorem ok_p_is_step : d_p_is_step.Ok tb PP := ⟨⟨rfl, rfl, rfl, by decide +kernel, rfl, by decide +kernel, by decide +kernel⟩, by decide +kernel, rfl, rfl, rfl⟩
abbrev s_p_named_by : Stmt := top 15
def d_p_named_by : Def := ⟨155, "named_by", s_p_named_by, ["step"], ["step"], p_named_by⟩
set_option maxHeartbeats 4000000 in
theorem ok_p_named_by : d_p_named_by.Ok tb PP := ⟨⟨rfl, rfl, rfl, by decide +kernel, rfl, by decide +kernel, by decide +kernel⟩, by decide +kernel, rfl, rfl, rfl⟩
abbrev s_p_rows_behind : Stmt := top 16
def d_p_rows_behind : Def := ⟨156, "rows_behind", s_p_rows_behind, ["rows", "step", "wide"], ["rows", "step"], p_rows_behind⟩
set_option maxHeartbeats 4000000 in
theorem ok_p_rows_behind : d_p_rows_behind.Ok tb PP := ⟨⟨rfl, rfl, rfl, by decide +kernel, rfl, by decide +kernel, by decide +kernel⟩, by decide +kernel, rfl, rfl, rfl⟩
abbrev s_p_shows_paper : Stmt := top 17
def d_p_shows_paper : Def := ⟨157, "shows_paper", s_p_shows_paper, ["rows", "thing", "known", "number", "step", "names", "name", "further"], ["rows", "thing"], p_shows_paper⟩
set_option maxHeartbeats 4000000 in
theorem ok_p_shows_paper : d_p_shows_paper.Ok tb PP := ⟨⟨rfl, rfl, rfl, by decide +kernel, rfl, by decide +kernel, by decide +kernel⟩, by decide +kernel, rfl, rfl, rfl⟩
abbrev s_l_box : Stmt := top 19
def d_l_box : Def := ⟨3, "_law_box", s_l_box, ["_law_script", "_law_k", "_law_cell"], ["_law_script", "_law_k"], l_box⟩
set_option maxHeartbeats 4000000 in
theorem ok_l_box : d_l_box.Ok tb PP := ⟨⟨rfl, rfl, rfl, by decide +kernel, rfl, by decide +kernel, by decide +kernel⟩, by decide +kernel, rfl, rfl, rfl⟩
abbrev s_l_take_1 : Stmt := top 20
def d_l_take_1 : Def := ⟨159, "_law_take", s_l_take_1, ["_law_box_here", "_law_many_here", "_law_once", "_law_found"], ["_law_box_here", "_law_many_here"], l_take_1⟩
set_option maxHeartbeats 4000000 in
theorem ok_l_take_1 : d_l_take_1.Ok tb PP := ⟨⟨rfl, rfl, rfl, by decide +kernel, rfl, by decide +kernel, by decide +kernel⟩, by decide +kernel, rfl, rfl, rfl⟩
abbrev s_l_folded_1 : Stmt := top 21
def d_l_folded_1 : Def := ⟨160, "_law_folded", s_l_folded_1, ["_law_script", "_law_many_here", "_law_cells", "_law_k", "_law_cell"], ["_law_script", "_law_many_here"], l_folded_1⟩
set_option maxHeartbeats 4000000 in
theorem ok_l_folded_1 : d_l_folded_1.Ok tb PP := ⟨⟨rfl, rfl, rfl, by decide +kernel, rfl, by decide +kernel, by decide +kernel⟩, by decide +kernel, rfl, rfl, rfl⟩
abbrev s_l_same : Stmt := top 22
def d_l_same : Def := ⟨38, "_law_same", s_l_same, ["_law_found", "_law_due", "_law_one", "_law_other"], ["_law_found", "_law_due"], l_same⟩
set_option maxHeartbeats 4000000 in
theorem ok_l_same : d_l_same.Ok tb PP := ⟨⟨rfl, rfl, rfl, by decide +kernel, rfl, by decide +kernel, by decide +kernel⟩, by decide +kernel, rfl, rfl, rfl⟩
abbrev s_l_many : Stmt := top 23
def d_l_many : Def := ⟨161, "_law_many", s_l_many, ["_law_box_here", "_law_few", "_law_most"], ["_law_box_here", "_law_few", "_law_most"], l_many⟩
set_option maxHeartbeats 4000000 in
theorem ok_l_many : d_l_many.Ok tb PP := ⟨⟨rfl, rfl, rfl, by decide +kernel, rfl, by decide +kernel, by decide +kernel⟩, by decide +kernel, rfl, rfl, rfl⟩
abbrev s_l_row_1 : Stmt := top 24
def d_l_row_1 : Def := ⟨39, "_law_row", s_l_row_1, ["_law_box_here", "_law_wide", "_law_most", "_law_numbers", "_law_cell"], ["_law_box_here", "_law_wide"], l_row_1⟩
set_option maxHeartbeats 4000000 in
theorem ok_l_row_1 : d_l_row_1.Ok tb PP := ⟨⟨rfl, rfl, rfl, by decide +kernel, rfl, by decide +kernel, by decide +kernel⟩, by decide +kernel, rfl, rfl, rfl⟩
abbrev s_l_up : Stmt := top 25
def d_l_up : Def := ⟨40, "_law_up", s_l_up, ["_law_number", "_law_divisor", "_law_found"], ["_law_number", "_law_divisor"], l_up⟩
set_option maxHeartbeats 4000000 in
theorem ok_l_up : d_l_up.Ok tb PP := ⟨⟨rfl, rfl, rfl, by decide +kernel, rfl, by decide +kernel, by decide +kernel⟩, by decide +kernel, rfl, rfl, rfl⟩
abbrev s_l_whole : Stmt := top 26
def d_l_whole : Def := ⟨41, "_law_whole", s_l_whole, ["_law_row_here", "_law_divisor", "_law_number"], ["_law_row_here", "_law_divisor"], l_whole⟩
set_option maxHeartbeats 4000000 in
theorem ok_l_whole : d_l_whole.Ok tb PP := ⟨⟨rfl, rfl, rfl, by decide +kernel, rfl, by decide +kernel, by decide +kernel⟩, by decide +kernel, rfl, rfl, rfl⟩
abbrev s_l_sum : Stmt := top 27
def d_l_sum : Def := ⟨162, "_law_sum", s_l_sum, ["_law_rows", "_law_times", "_law_wide", "_law_numbers", "_law_cell", "_law_often", "_law_row_here"], ["_law_rows", "_law_times"], l_sum⟩
set_option maxHeartbeats 4000000 in
theorem ok_l_sum : d_l_sum.Ok tb PP := ⟨⟨rfl, rfl, rfl, by decide +kernel, rfl, by decide +kernel, by decide +kernel⟩, by decide +kernel, rfl, rfl, rfl⟩
abbrev s_l_case_rows : Stmt := top 28
def d_l_case_rows : Def := ⟨163, "_law_case_rows", s_l_case_rows, ["_law_cells", "_law_n", "_law_wide", "_law_marks", "_law_cell", "_law_mark"], ["_law_cells", "_law_n", "_law_wide"], l_case_rows⟩
set_option maxHeartbeats 4000000 in
theorem ok_l_case_rows : d_l_case_rows.Ok tb PP := ⟨⟨rfl, rfl, rfl, by decide +kernel, rfl, by decide +kernel, by decide +kernel⟩, by decide +kernel, rfl, rfl, rfl⟩
abbrev s_l_is_number_1 : Stmt := top 29
def d_l_is_number_1 : Def := ⟨121, "_law_is_number", s_l_is_number_1, ["_law_thing"], ["_law_thing"], l_is_number_1⟩
set_option maxHeartbeats 4000000 in
theorem ok_l_is_number_1 : d_l_is_number_1.Ok tb PP := ⟨⟨rfl, rfl, rfl, by decide +kernel, rfl, by decide +kernel, by decide +kernel⟩, by decide +kernel, rfl, rfl, rfl⟩
abbrev s_l_are_times : Stmt := top 30
def d_l_are_times : Def := ⟨165, "_law_are_times", s_l_are_times, ["_law_thing", "_law_many_here", "_law_often"], ["_law_thing", "_law_many_here"], l_are_times⟩
set_option maxHeartbeats 4000000 in
theorem ok_l_are_times : d_l_are_times.Ok tb PP := ⟨⟨rfl, rfl, rfl, by decide +kernel, rfl, by decide +kernel, by decide +kernel⟩, by decide +kernel, rfl, rfl, rfl⟩
abbrev s_l_are_cells : Stmt := top 31
def d_l_are_cells : Def := ⟨166, "_law_are_cells", s_l_are_cells, ["_law_thing", "_law_wide", "_law_cell"], ["_law_thing", "_law_wide"], l_are_cells⟩
set_option maxHeartbeats 4000000 in
theorem ok_l_are_cells : d_l_are_cells.Ok tb PP := ⟨⟨rfl, rfl, rfl, by decide +kernel, rfl, by decide +kernel, by decide +kernel⟩, by decide +kernel, rfl, rfl, rfl⟩
abbrev s_l_formed : Stmt := top 32
def d_l_formed : Def := ⟨167, "_law_formed", s_l_formed, ["_law_step"], ["_law_step"], l_formed⟩
set_option maxHeartbeats 4000000 in
theorem ok_l_formed : d_l_formed.Ok tb PP := ⟨⟨rfl, rfl, rfl, by decide +kernel, rfl, by decide +kernel, by decide +kernel⟩, by decide +kernel, rfl, rfl, rfl⟩
abbrev s_l_goes_by : Stmt := top 33
def d_l_goes_by : Def := ⟨168, "_law_goes_by", s_l_goes_by, ["_law_rows", "_law_step", "_law_numbers", "_law_least", "_law_number"], ["_law_rows", "_law_step"], l_goes_by⟩
set_option maxHeartbeats 4000000 in
theorem ok_l_goes_by : d_l_goes_by.Ok tb PP := ⟨⟨rfl, rfl, rfl, by decide +kernel, rfl, by decide +kernel, by decide +kernel⟩, by decide +kernel, rfl, rfl, rfl⟩
abbrev s_l_put_behind : Stmt := top 34
def d_l_put_behind : Def := ⟨169, "_law_put_behind", s_l_put_behind, ["_law_rows", "_law_step", "_law_row_here"], ["_law_rows", "_law_step"], l_put_behind⟩
set_option maxHeartbeats 4000000 in
theorem ok_l_put_behind : d_l_put_behind.Ok tb PP := ⟨⟨rfl, rfl, rfl, by decide +kernel, rfl, by decide +kernel, by decide +kernel⟩, by decide +kernel, rfl, rfl, rfl⟩
abbrev s_l_is_paper : Stmt := top 35
def d_l_is_paper : Def := ⟨170, "_law_is_paper", s_l_is_paper, ["_law_rows", "_law_thing", "_law_named", "_law_known", "_law_number", "_law_step", "_law_name"], ["_law_rows", "_law_thing"], l_is_paper⟩
set_option maxHeartbeats 4000000 in
theorem ok_l_is_paper : d_l_is_paper.Ok tb PP := ⟨⟨rfl, rfl, rfl, by decide +kernel, rfl, by decide +kernel, by decide +kernel⟩, by decide +kernel, rfl, rfl, rfl⟩
abbrev s_l_halved : Stmt := top 36
def d_l_halved : Def := ⟨174, "_law_halved", s_l_halved, ["_law_box_here", "_law_wide", "_law_divisor", "_law_numbers", "_law_least", "_law_first", "_law_against", "_law_beside", "_law_at", "_law_rows", "_law_often", "_law_close", "_law_cell", "_law_k", "_law_place", "_law_number"], ["_law_box_here", "_law_wide"], l_halved⟩
set_option maxHeartbeats 4000000 in
theorem ok_l_halved : d_l_halved.Ok tb PP := ⟨⟨rfl, rfl, rfl, by decide +kernel, rfl, by decide +kernel, by decide +kernel⟩, by decide +kernel, rfl, rfl, rfl⟩
abbrev s_l_others : Stmt := top 37
def d_l_others : Def := ⟨175, "_law_others", s_l_others, ["_law_box_here", "_law_rows", "_law_paper", "_law_divisor", "_law_others_here", "_law_found", "_law_twice", "_law_again", "_law_great", "_law_often", "_law_close", "_law_other", "_law_one", "_law_name", "_law_more"], ["_law_box_here", "_law_rows", "_law_paper", "_law_divisor"], l_others⟩
set_option maxHeartbeats 4000000 in
theorem ok_l_others : d_l_others.Ok tb PP := ⟨⟨rfl, rfl, rfl, by decide +kernel, rfl, by decide +kernel, by decide +kernel⟩, by decide +kernel, rfl, rfl, rfl⟩
abbrev s_p_law_22 : Stmt := top 38
def d_p_law_22 : Def := ⟨176, "law", s_p_law_22, ["_law_script", "_law_cells", "_law_k", "_law_box_here", "_law_thing", "_law_rows", "_law_paper", "_law_divisor"], ["_law_script"], p_law_22⟩
set_option maxHeartbeats 4000000 in
theorem ok_p_law_22 : d_p_law_22.Ok tb PP := ⟨⟨rfl, rfl, rfl, by decide +kernel, rfl, by decide +kernel, by decide +kernel⟩, by decide +kernel, rfl, rfl, rfl⟩
theorem hasPP : Has PP GG := ⟨⟨rfl, rfl, rfl, rfl, rfl, rfl, rfl, rfl, rfl, rfl, rfl, rfl, rfl, rfl, rfl, rfl⟩, ⟨rfl, rfl, rfl, rfl, rfl, rfl, rfl, rfl, rfl, rfl, rfl⟩, rfl, rfl, rfl, rfl, rfl, rfl, rfl, rfl, rfl⟩
theorem law_true (ns : List Int) (hl : ns.length ≤ 63) : ∃ S', runF PP GG 40 176 [.scr (ns.map .int)] [] = some (.val (.bl true), S') := law_ok' hasPP hl
theorem all_mk {l : PySem.W.OpenLaw} {w : World} {K : PySem.W.Frag} {h : Heap} {mg : Str → Option Value} {fa : Addr} (X : K.In h) (G : h.Ns mainGlobals mg) (hfa : mg "law" = some (.ref fa))
    {f0 : Addr} {od0 an0 : Option Addr} {sl0 : Array (Option Value)} {oc0 kV0 dc0 pm0 cd0 ct0 : Value}
    (a0 : PySem.W.nsIn K mainGlobals "sum_of" = some (some (.ref f0))) (l0 : K.lookup f0 = some ⟨oc0, od0, .func (PySem.W.fnOf "sum_of" "sum_of" (defArgs s_p_sum_of) (defBody s_p_sum_of) (defScope s_p_sum_of) .none kV0 dc0 pm0 an0 cd0 ct0), sl0⟩) (c0 : PySem.W.codeIn K cd0 "sum_of" = true) (k0 : PySem.W.keepIn K (.ref f0) = true)
    {f1 : Addr} {od1 an1 : Option Addr} {sl1 : Array (Option Value)} {oc1 kV1 dc1 pm1 cd1 ct1 : Value}
    (a1 : PySem.W.nsIn K mainGlobals "is_time" = some (some (.ref f1))) (l1 : K.lookup f1 = some ⟨oc1, od1, .func (PySem.W.fnOf "is_time" "is_time" (defArgs s_p_is_time) (defBody s_p_is_time) (defScope s_p_is_time) .none kV1 dc1 pm1 an1 cd1 ct1), sl1⟩) (c1 : PySem.W.codeIn K cd1 "is_time" = true) (k1 : PySem.W.keepIn K (.ref f1) = true)
    {f2 : Addr} {od2 an2 : Option Addr} {sl2 : Array (Option Value)} {oc2 kV2 dc2 pm2 cd2 ct2 : Value}
    (a2 : PySem.W.nsIn K mainGlobals "are_times" = some (some (.ref f2))) (l2 : K.lookup f2 = some ⟨oc2, od2, .func (PySem.W.fnOf "are_times" "are_times" (defArgs s_p_are_times) (defBody s_p_are_times) (defScope s_p_are_times) .none kV2 dc2 pm2 an2 cd2 ct2), sl2⟩) (c2 : PySem.W.codeIn K cd2 "are_times" = true) (k2 : PySem.W.keepIn K (.ref f2) = true)
    {f3 : Addr} {od3 an3 : Option Addr} {sl3 : Array (Option Value)} {oc3 kV3 dc3 pm3 cd3 ct3 : Value}
    (a3 : PySem.W.nsIn K mainGlobals "shows_sum" = some (some (.ref f3))) (l3 : K.lookup f3 = some ⟨oc3, od3, .func (PySem.W.fnOf "shows_sum" "shows_sum" (defArgs s_p_shows_sum) (defBody s_p_shows_sum) (defScope s_p_shows_sum) .none kV3 dc3 pm3 an3 cd3 ct3), sl3⟩) (c3 : PySem.W.codeIn K cd3 "shows_sum" = true) (k3 : PySem.W.keepIn K (.ref f3) = true)
    {f4 : Addr} {od4 an4 : Option Addr} {sl4 : Array (Option Value)} {oc4 kV4 dc4 pm4 cd4 ct4 : Value}
    (a4 : PySem.W.nsIn K mainGlobals "is_count" = some (some (.ref f4))) (l4 : K.lookup f4 = some ⟨oc4, od4, .func (PySem.W.fnOf "is_count" "is_count" (defArgs s_p_is_count) (defBody s_p_is_count) (defScope s_p_is_count) .none kV4 dc4 pm4 an4 cd4 ct4), sl4⟩) (c4 : PySem.W.codeIn K cd4 "is_count" = true) (k4 : PySem.W.keepIn K (.ref f4) = true)
    {f5 : Addr} {od5 an5 : Option Addr} {sl5 : Array (Option Value)} {oc5 kV5 dc5 pm5 cd5 ct5 : Value}
    (a5 : PySem.W.nsIn K mainGlobals "is_row_list" = some (some (.ref f5))) (l5 : K.lookup f5 = some ⟨oc5, od5, .func (PySem.W.fnOf "is_row_list" "is_row_list" (defArgs s_p_is_row_list) (defBody s_p_is_row_list) (defScope s_p_is_row_list) .none kV5 dc5 pm5 an5 cd5 ct5), sl5⟩) (c5 : PySem.W.codeIn K cd5 "is_row_list" = true) (k5 : PySem.W.keepIn K (.ref f5) = true)
    {f6 : Addr} {od6 an6 : Option Addr} {sl6 : Array (Option Value)} {oc6 kV6 dc6 pm6 cd6 ct6 : Value}
    (a6 : PySem.W.nsIn K mainGlobals "part_up" = some (some (.ref f6))) (l6 : K.lookup f6 = some ⟨oc6, od6, .func (PySem.W.fnOf "part_up" "part_up" (defArgs s_p_part_up) (defBody s_p_part_up) (defScope s_p_part_up) .none kV6 dc6 pm6 an6 cd6 ct6), sl6⟩) (c6 : PySem.W.codeIn K cd6 "part_up" = true) (k6 : PySem.W.keepIn K (.ref f6) = true)
    {f7 : Addr} {od7 an7 : Option Addr} {sl7 : Array (Option Value)} {oc7 kV7 dc7 pm7 cd7 ct7 : Value}
    (a7 : PySem.W.nsIn K mainGlobals "whole_row" = some (some (.ref f7))) (l7 : K.lookup f7 = some ⟨oc7, od7, .func (PySem.W.fnOf "whole_row" "whole_row" (defArgs s_p_whole_row) (defBody s_p_whole_row) (defScope s_p_whole_row) .none kV7 dc7 pm7 an7 cd7 ct7), sl7⟩) (c7 : PySem.W.codeIn K cd7 "whole_row" = true) (k7 : PySem.W.keepIn K (.ref f7) = true)
    {f8 : Addr} {od8 an8 : Option Addr} {sl8 : Array (Option Value)} {oc8 kV8 dc8 pm8 cd8 ct8 : Value}
    (a8 : PySem.W.nsIn K mainGlobals "row_of_most" = some (some (.ref f8))) (l8 : K.lookup f8 = some ⟨oc8, od8, .func (PySem.W.fnOf "row_of_most" "row_of_most" (defArgs s_p_row_of_most) (defBody s_p_row_of_most) (defScope s_p_row_of_most) .none kV8 dc8 pm8 an8 cd8 ct8), sl8⟩) (c8 : PySem.W.codeIn K cd8 "row_of_most" = true) (k8 : PySem.W.keepIn K (.ref f8) = true)
    {f9 : Addr} {od9 an9 : Option Addr} {sl9 : Array (Option Value)} {oc9 kV9 dc9 pm9 cd9 ct9 : Value}
    (a9 : PySem.W.nsIn K mainGlobals "row_of_least" = some (some (.ref f9))) (l9 : K.lookup f9 = some ⟨oc9, od9, .func (PySem.W.fnOf "row_of_least" "row_of_least" (defArgs s_p_row_of_least) (defBody s_p_row_of_least) (defScope s_p_row_of_least) .none kV9 dc9 pm9 an9 cd9 ct9), sl9⟩) (c9 : PySem.W.codeIn K cd9 "row_of_least" = true) (k9 : PySem.W.keepIn K (.ref f9) = true)
    {f10 : Addr} {od10 an10 : Option Addr} {sl10 : Array (Option Value)} {oc10 kV10 dc10 pm10 cd10 ct10 : Value}
    (a10 : PySem.W.nsIn K mainGlobals "are_cells" = some (some (.ref f10))) (l10 : K.lookup f10 = some ⟨oc10, od10, .func (PySem.W.fnOf "are_cells" "are_cells" (defArgs s_p_are_cells) (defBody s_p_are_cells) (defScope s_p_are_cells) .none kV10 dc10 pm10 an10 cd10 ct10), sl10⟩) (c10 : PySem.W.codeIn K cd10 "are_cells" = true) (k10 : PySem.W.keepIn K (.ref f10) = true)
    {f11 : Addr} {od11 an11 : Option Addr} {sl11 : Array (Option Value)} {oc11 kV11 dc11 pm11 cd11 ct11 : Value}
    (a11 : PySem.W.nsIn K mainGlobals "is_step" = some (some (.ref f11))) (l11 : K.lookup f11 = some ⟨oc11, od11, .func (PySem.W.fnOf "is_step" "is_step" (defArgs s_p_is_step) (defBody s_p_is_step) (defScope s_p_is_step) .none kV11 dc11 pm11 an11 cd11 ct11), sl11⟩) (c11 : PySem.W.codeIn K cd11 "is_step" = true) (k11 : PySem.W.keepIn K (.ref f11) = true)
    {f12 : Addr} {od12 an12 : Option Addr} {sl12 : Array (Option Value)} {oc12 kV12 dc12 pm12 cd12 ct12 : Value}
    (a12 : PySem.W.nsIn K mainGlobals "named_by" = some (some (.ref f12))) (l12 : K.lookup f12 = some ⟨oc12, od12, .func (PySem.W.fnOf "named_by" "named_by" (defArgs s_p_named_by) (defBody s_p_named_by) (defScope s_p_named_by) .none kV12 dc12 pm12 an12 cd12 ct12), sl12⟩) (c12 : PySem.W.codeIn K cd12 "named_by" = true) (k12 : PySem.W.keepIn K (.ref f12) = true)
    {f13 : Addr} {od13 an13 : Option Addr} {sl13 : Array (Option Value)} {oc13 kV13 dc13 pm13 cd13 ct13 : Value}
    (a13 : PySem.W.nsIn K mainGlobals "rows_behind" = some (some (.ref f13))) (l13 : K.lookup f13 = some ⟨oc13, od13, .func (PySem.W.fnOf "rows_behind" "rows_behind" (defArgs s_p_rows_behind) (defBody s_p_rows_behind) (defScope s_p_rows_behind) .none kV13 dc13 pm13 an13 cd13 ct13), sl13⟩) (c13 : PySem.W.codeIn K cd13 "rows_behind" = true) (k13 : PySem.W.keepIn K (.ref f13) = true)
    {f14 : Addr} {od14 an14 : Option Addr} {sl14 : Array (Option Value)} {oc14 kV14 dc14 pm14 cd14 ct14 : Value}
    (a14 : PySem.W.nsIn K mainGlobals "shows_paper" = some (some (.ref f14))) (l14 : K.lookup f14 = some ⟨oc14, od14, .func (PySem.W.fnOf "shows_paper" "shows_paper" (defArgs s_p_shows_paper) (defBody s_p_shows_paper) (defScope s_p_shows_paper) .none kV14 dc14 pm14 an14 cd14 ct14), sl14⟩) (c14 : PySem.W.codeIn K cd14 "shows_paper" = true) (k14 : PySem.W.keepIn K (.ref f14) = true)
    {f15 : Addr} {od15 an15 : Option Addr} {sl15 : Array (Option Value)} {oc15 kV15 dc15 pm15 cd15 ct15 : Value}
    (a15 : PySem.W.nsIn K mainGlobals "_law_box" = some (some (.ref f15))) (l15 : K.lookup f15 = some ⟨oc15, od15, .func (PySem.W.fnOf "_law_box" "_law_box" (defArgs s_l_box) (defBody s_l_box) (defScope s_l_box) .none kV15 dc15 pm15 an15 cd15 ct15), sl15⟩) (c15 : PySem.W.codeIn K cd15 "_law_box" = true) (k15 : PySem.W.keepIn K (.ref f15) = true)
    {f16 : Addr} {od16 an16 : Option Addr} {sl16 : Array (Option Value)} {oc16 kV16 dc16 pm16 cd16 ct16 : Value}
    (a16 : PySem.W.nsIn K mainGlobals "_law_take" = some (some (.ref f16))) (l16 : K.lookup f16 = some ⟨oc16, od16, .func (PySem.W.fnOf "_law_take" "_law_take" (defArgs s_l_take_1) (defBody s_l_take_1) (defScope s_l_take_1) .none kV16 dc16 pm16 an16 cd16 ct16), sl16⟩) (c16 : PySem.W.codeIn K cd16 "_law_take" = true) (k16 : PySem.W.keepIn K (.ref f16) = true)
    {f17 : Addr} {od17 an17 : Option Addr} {sl17 : Array (Option Value)} {oc17 kV17 dc17 pm17 cd17 ct17 : Value}
    (a17 : PySem.W.nsIn K mainGlobals "_law_folded" = some (some (.ref f17))) (l17 : K.lookup f17 = some ⟨oc17, od17, .func (PySem.W.fnOf "_law_folded" "_law_folded" (defArgs s_l_folded_1) (defBody s_l_folded_1) (defScope s_l_folded_1) .none kV17 dc17 pm17 an17 cd17 ct17), sl17⟩) (c17 : PySem.W.codeIn K cd17 "_law_folded" = true) (k17 : PySem.W.keepIn K (.ref f17) = true)
    {f18 : Addr} {od18 an18 : Option Addr} {sl18 : Array (Option Value)} {oc18 kV18 dc18 pm18 cd18 ct18 : Value}
    (a18 : PySem.W.nsIn K mainGlobals "_law_same" = some (some (.ref f18))) (l18 : K.lookup f18 = some ⟨oc18, od18, .func (PySem.W.fnOf "_law_same" "_law_same" (defArgs s_l_same) (defBody s_l_same) (defScope s_l_same) .none kV18 dc18 pm18 an18 cd18 ct18), sl18⟩) (c18 : PySem.W.codeIn K cd18 "_law_same" = true) (k18 : PySem.W.keepIn K (.ref f18) = true)
    {f19 : Addr} {od19 an19 : Option Addr} {sl19 : Array (Option Value)} {oc19 kV19 dc19 pm19 cd19 ct19 : Value}
    (a19 : PySem.W.nsIn K mainGlobals "_law_many" = some (some (.ref f19))) (l19 : K.lookup f19 = some ⟨oc19, od19, .func (PySem.W.fnOf "_law_many" "_law_many" (defArgs s_l_many) (defBody s_l_many) (defScope s_l_many) .none kV19 dc19 pm19 an19 cd19 ct19), sl19⟩) (c19 : PySem.W.codeIn K cd19 "_law_many" = true) (k19 : PySem.W.keepIn K (.ref f19) = true)
    {f20 : Addr} {od20 an20 : Option Addr} {sl20 : Array (Option Value)} {oc20 kV20 dc20 pm20 cd20 ct20 : Value}
    (a20 : PySem.W.nsIn K mainGlobals "_law_row" = some (some (.ref f20))) (l20 : K.lookup f20 = some ⟨oc20, od20, .func (PySem.W.fnOf "_law_row" "_law_row" (defArgs s_l_row_1) (defBody s_l_row_1) (defScope s_l_row_1) .none kV20 dc20 pm20 an20 cd20 ct20), sl20⟩) (c20 : PySem.W.codeIn K cd20 "_law_row" = true) (k20 : PySem.W.keepIn K (.ref f20) = true)
    {f21 : Addr} {od21 an21 : Option Addr} {sl21 : Array (Option Value)} {oc21 kV21 dc21 pm21 cd21 ct21 : Value}
    (a21 : PySem.W.nsIn K mainGlobals "_law_up" = some (some (.ref f21))) (l21 : K.lookup f21 = some ⟨oc21, od21, .func (PySem.W.fnOf "_law_up" "_law_up" (defArgs s_l_up) (defBody s_l_up) (defScope s_l_up) .none kV21 dc21 pm21 an21 cd21 ct21), sl21⟩) (c21 : PySem.W.codeIn K cd21 "_law_up" = true) (k21 : PySem.W.keepIn K (.ref f21) = true)
    {f22 : Addr} {od22 an22 : Option Addr} {sl22 : Array (Option Value)} {oc22 kV22 dc22 pm22 cd22 ct22 : Value}
    (a22 : PySem.W.nsIn K mainGlobals "_law_whole" = some (some (.ref f22))) (l22 : K.lookup f22 = some ⟨oc22, od22, .func (PySem.W.fnOf "_law_whole" "_law_whole" (defArgs s_l_whole) (defBody s_l_whole) (defScope s_l_whole) .none kV22 dc22 pm22 an22 cd22 ct22), sl22⟩) (c22 : PySem.W.codeIn K cd22 "_law_whole" = true) (k22 : PySem.W.keepIn K (.ref f22) = true)
    {f23 : Addr} {od23 an23 : Option Addr} {sl23 : Array (Option Value)} {oc23 kV23 dc23 pm23 cd23 ct23 : Value}
    (a23 : PySem.W.nsIn K mainGlobals "_law_sum" = some (some (.ref f23))) (l23 : K.lookup f23 = some ⟨oc23, od23, .func (PySem.W.fnOf "_law_sum" "_law_sum" (defArgs s_l_sum) (defBody s_l_sum) (defScope s_l_sum) .none kV23 dc23 pm23 an23 cd23 ct23), sl23⟩) (c23 : PySem.W.codeIn K cd23 "_law_sum" = true) (k23 : PySem.W.keepIn K (.ref f23) = true)
    {f24 : Addr} {od24 an24 : Option Addr} {sl24 : Array (Option Value)} {oc24 kV24 dc24 pm24 cd24 ct24 : Value}
    (a24 : PySem.W.nsIn K mainGlobals "_law_case_rows" = some (some (.ref f24))) (l24 : K.lookup f24 = some ⟨oc24, od24, .func (PySem.W.fnOf "_law_case_rows" "_law_case_rows" (defArgs s_l_case_rows) (defBody s_l_case_rows) (defScope s_l_case_rows) .none kV24 dc24 pm24 an24 cd24 ct24), sl24⟩) (c24 : PySem.W.codeIn K cd24 "_law_case_rows" = true) (k24 : PySem.W.keepIn K (.ref f24) = true)
    {f25 : Addr} {od25 an25 : Option Addr} {sl25 : Array (Option Value)} {oc25 kV25 dc25 pm25 cd25 ct25 : Value}
    (a25 : PySem.W.nsIn K mainGlobals "_law_is_number" = some (some (.ref f25))) (l25 : K.lookup f25 = some ⟨oc25, od25, .func (PySem.W.fnOf "_law_is_number" "_law_is_number" (defArgs s_l_is_number_1) (defBody s_l_is_number_1) (defScope s_l_is_number_1) .none kV25 dc25 pm25 an25 cd25 ct25), sl25⟩) (c25 : PySem.W.codeIn K cd25 "_law_is_number" = true) (k25 : PySem.W.keepIn K (.ref f25) = true)
    {f26 : Addr} {od26 an26 : Option Addr} {sl26 : Array (Option Value)} {oc26 kV26 dc26 pm26 cd26 ct26 : Value}
    (a26 : PySem.W.nsIn K mainGlobals "_law_are_times" = some (some (.ref f26))) (l26 : K.lookup f26 = some ⟨oc26, od26, .func (PySem.W.fnOf "_law_are_times" "_law_are_times" (defArgs s_l_are_times) (defBody s_l_are_times) (defScope s_l_are_times) .none kV26 dc26 pm26 an26 cd26 ct26), sl26⟩) (c26 : PySem.W.codeIn K cd26 "_law_are_times" = true) (k26 : PySem.W.keepIn K (.ref f26) = true)
    {f27 : Addr} {od27 an27 : Option Addr} {sl27 : Array (Option Value)} {oc27 kV27 dc27 pm27 cd27 ct27 : Value}
    (a27 : PySem.W.nsIn K mainGlobals "_law_are_cells" = some (some (.ref f27))) (l27 : K.lookup f27 = some ⟨oc27, od27, .func (PySem.W.fnOf "_law_are_cells" "_law_are_cells" (defArgs s_l_are_cells) (defBody s_l_are_cells) (defScope s_l_are_cells) .none kV27 dc27 pm27 an27 cd27 ct27), sl27⟩) (c27 : PySem.W.codeIn K cd27 "_law_are_cells" = true) (k27 : PySem.W.keepIn K (.ref f27) = true)
    {f28 : Addr} {od28 an28 : Option Addr} {sl28 : Array (Option Value)} {oc28 kV28 dc28 pm28 cd28 ct28 : Value}
    (a28 : PySem.W.nsIn K mainGlobals "_law_formed" = some (some (.ref f28))) (l28 : K.lookup f28 = some ⟨oc28, od28, .func (PySem.W.fnOf "_law_formed" "_law_formed" (defArgs s_l_formed) (defBody s_l_formed) (defScope s_l_formed) .none kV28 dc28 pm28 an28 cd28 ct28), sl28⟩) (c28 : PySem.W.codeIn K cd28 "_law_formed" = true) (k28 : PySem.W.keepIn K (.ref f28) = true)
    {f29 : Addr} {od29 an29 : Option Addr} {sl29 : Array (Option Value)} {oc29 kV29 dc29 pm29 cd29 ct29 : Value}
    (a29 : PySem.W.nsIn K mainGlobals "_law_goes_by" = some (some (.ref f29))) (l29 : K.lookup f29 = some ⟨oc29, od29, .func (PySem.W.fnOf "_law_goes_by" "_law_goes_by" (defArgs s_l_goes_by) (defBody s_l_goes_by) (defScope s_l_goes_by) .none kV29 dc29 pm29 an29 cd29 ct29), sl29⟩) (c29 : PySem.W.codeIn K cd29 "_law_goes_by" = true) (k29 : PySem.W.keepIn K (.ref f29) = true)
    {f30 : Addr} {od30 an30 : Option Addr} {sl30 : Array (Option Value)} {oc30 kV30 dc30 pm30 cd30 ct30 : Value}
    (a30 : PySem.W.nsIn K mainGlobals "_law_put_behind" = some (some (.ref f30))) (l30 : K.lookup f30 = some ⟨oc30, od30, .func (PySem.W.fnOf "_law_put_behind" "_law_put_behind" (defArgs s_l_put_behind) (defBody s_l_put_behind) (defScope s_l_put_behind) .none kV30 dc30 pm30 an30 cd30 ct30), sl30⟩) (c30 : PySem.W.codeIn K cd30 "_law_put_behind" = true) (k30 : PySem.W.keepIn K (.ref f30) = true)
    {f31 : Addr} {od31 an31 : Option Addr} {sl31 : Array (Option Value)} {oc31 kV31 dc31 pm31 cd31 ct31 : Value}
    (a31 : PySem.W.nsIn K mainGlobals "_law_is_paper" = some (some (.ref f31))) (l31 : K.lookup f31 = some ⟨oc31, od31, .func (PySem.W.fnOf "_law_is_paper" "_law_is_paper" (defArgs s_l_is_paper) (defBody s_l_is_paper) (defScope s_l_is_paper) .none kV31 dc31 pm31 an31 cd31 ct31), sl31⟩) (c31 : PySem.W.codeIn K cd31 "_law_is_paper" = true) (k31 : PySem.W.keepIn K (.ref f31) = true)
    {f32 : Addr} {od32 an32 : Option Addr} {sl32 : Array (Option Value)} {oc32 kV32 dc32 pm32 cd32 ct32 : Value}
    (a32 : PySem.W.nsIn K mainGlobals "_law_halved" = some (some (.ref f32))) (l32 : K.lookup f32 = some ⟨oc32, od32, .func (PySem.W.fnOf "_law_halved" "_law_halved" (defArgs s_l_halved) (defBody s_l_halved) (defScope s_l_halved) .none kV32 dc32 pm32 an32 cd32 ct32), sl32⟩) (c32 : PySem.W.codeIn K cd32 "_law_halved" = true) (k32 : PySem.W.keepIn K (.ref f32) = true)
    {f33 : Addr} {od33 an33 : Option Addr} {sl33 : Array (Option Value)} {oc33 kV33 dc33 pm33 cd33 ct33 : Value}
    (a33 : PySem.W.nsIn K mainGlobals "_law_others" = some (some (.ref f33))) (l33 : K.lookup f33 = some ⟨oc33, od33, .func (PySem.W.fnOf "_law_others" "_law_others" (defArgs s_l_others) (defBody s_l_others) (defScope s_l_others) .none kV33 dc33 pm33 an33 cd33 ct33), sl33⟩) (c33 : PySem.W.codeIn K cd33 "_law_others" = true) (k33 : PySem.W.keepIn K (.ref f33) = true)
    {f34 : Addr} {od34 an34 : Option Addr} {sl34 : Array (Option Value)} {oc34 kV34 dc34 pm34 cd34 ct34 : Value}
    (a34 : PySem.W.nsIn K mainGlobals "law" = some (some (.ref f34))) (l34 : K.lookup f34 = some ⟨oc34, od34, .func (PySem.W.fnOf "law" "law" (defArgs s_p_law_22) (defBody s_p_law_22) (defScope s_p_law_22) .none kV34 dc34 pm34 an34 cd34 ct34), sl34⟩) (c34 : PySem.W.codeIn K cd34 "law" = true) (k34 : PySem.W.keepIn K (.ref f34) = true)
    (z0 : PySem.W.nsIn K mainGlobals "abs" = some none)
    (z1 : PySem.W.nsIn K mainGlobals "all" = some none)
    (z2 : PySem.W.nsIn K mainGlobals "any" = some none)
    (z3 : PySem.W.nsIn K mainGlobals "bool" = some none)
    (z4 : PySem.W.nsIn K mainGlobals "dict" = some none)
    (z5 : PySem.W.nsIn K mainGlobals "divmod" = some none)
    (z6 : PySem.W.nsIn K mainGlobals "enumerate" = some none)
    (z7 : PySem.W.nsIn K mainGlobals "int" = some none)
    (z8 : PySem.W.nsIn K mainGlobals "isinstance" = some none)
    (z9 : PySem.W.nsIn K mainGlobals "len" = some none)
    (z10 : PySem.W.nsIn K mainGlobals "list" = some none)
    (z11 : PySem.W.nsIn K mainGlobals "max" = some none)
    (z12 : PySem.W.nsIn K mainGlobals "range" = some none)
    (z13 : PySem.W.nsIn K mainGlobals "set" = some none)
    (z14 : PySem.W.nsIn K mainGlobals "sorted" = some none)
    (z15 : PySem.W.nsIn K mainGlobals "str" = some none)
    (z16 : PySem.W.nsIn K mainGlobals "sum" = some none)
    (z17 : PySem.W.nsIn K mainGlobals "tuple" = some none)
    (z18 : PySem.W.nsIn K mainGlobals "zip" = some none)
    {ga11 : Addr} (gn11 : PySem.W.nsIn K mainGlobals "KINDS" = some (some (.ref ga11))) (gd11 : He.dicW K ga11 = some (He.keysIn w.params ["sum", "whole", "cases"])) (gv11 : gDic K ga11 [.inr "sum", .inr "whole", .inr "cases"] [.int 2, .int 4, .int 5] = true)
    (hlaw : ∀ ns : List Int, ns.length ≤ 63 → ∃ S', runF PP GG 40 176 [.scr (ns.map .int)] [] = some (.val (.bl true), S')) :
    ∃ fd : FuncData, (∀ (s : Shared) (v : Value), BindsTo s fd ⟨[v], []⟩ [("_law_script", v)]) ∧ ∀ base : Heap, K.In base → base.Ns mainGlobals mg → FnG l.prog w K mg base 40 fa fd ["_law_script"] (Mi.spLaw K) := by
  have e := hfa.symm.trans (PySem.W.mg_of X G a34)
  cases e
  have F0 := fun_mk (st := s_p_sum_of) l0 c0 k0
  have A0 : d_p_sum_of.At K mg f0 _ := ⟨F0, F0.binds (ps := ["rows", "times"]) fun _ _ _ _ _ _ us hl => match us, hl with | [_, _], _ => rfl, PySem.W.mg_of X G a0⟩
  have F1 := fun_mk (st := s_p_is_time) l1 c1 k1
  have A1 : d_p_is_time.At K mg f1 _ := ⟨F1, F1.binds (ps := ["thing"]) fun _ _ _ _ _ _ us hl => match us, hl with | [_], _ => rfl, PySem.W.mg_of X G a1⟩
  have F2 := fun_mk (st := s_p_are_times) l2 c2 k2
  have A2 : d_p_are_times.At K mg f2 _ := ⟨F2, F2.binds (ps := ["thing", "many"]) fun _ _ _ _ _ _ us hl => match us, hl with | [_, _], _ => rfl, PySem.W.mg_of X G a2⟩
  have F3 := fun_mk (st := s_p_shows_sum) l3 c3 k3
  have A3 : d_p_shows_sum.At K mg f3 _ := ⟨F3, F3.binds (ps := ["rows", "times"]) fun _ _ _ _ _ _ us hl => match us, hl with | [_, _], _ => rfl, PySem.W.mg_of X G a3⟩
  have F4 := fun_mk (st := s_p_is_count) l4 c4 k4
  have A4 : d_p_is_count.At K mg f4 _ := ⟨F4, F4.binds (ps := ["thing"]) fun _ _ _ _ _ _ us hl => match us, hl with | [_], _ => rfl, PySem.W.mg_of X G a4⟩
  have F5 := fun_mk (st := s_p_is_row_list) l5 c5 k5
  have A5 : d_p_is_row_list.At K mg f5 _ := ⟨F5, F5.binds (ps := ["thing"]) fun _ _ _ _ _ _ us hl => match us, hl with | [_], _ => rfl, PySem.W.mg_of X G a5⟩
  have F6 := fun_mk (st := s_p_part_up) l6 c6 k6
  have A6 : d_p_part_up.At K mg f6 _ := ⟨F6, F6.binds (ps := ["number", "divisor"]) fun _ _ _ _ _ _ us hl => match us, hl with | [_, _], _ => rfl, PySem.W.mg_of X G a6⟩
  have F7 := fun_mk (st := s_p_whole_row) l7 c7 k7
  have A7 : d_p_whole_row.At K mg f7 _ := ⟨F7, F7.binds (ps := ["row", "divisor"]) fun _ _ _ _ _ _ us hl => match us, hl with | [_, _], _ => rfl, PySem.W.mg_of X G a7⟩
  have F8 := fun_mk (st := s_p_row_of_most) l8 c8 k8
  have A8 : d_p_row_of_most.At K mg f8 _ := ⟨F8, F8.binds (ps := ["cells", "n", "wide"]) fun _ _ _ _ _ _ us hl => match us, hl with | [_, _, _], _ => rfl, PySem.W.mg_of X G a8⟩
  have F9 := fun_mk (st := s_p_row_of_least) l9 c9 k9
  have A9 : d_p_row_of_least.At K mg f9 _ := ⟨F9, F9.binds (ps := ["cells", "n", "wide"]) fun _ _ _ _ _ _ us hl => match us, hl with | [_, _, _], _ => rfl, PySem.W.mg_of X G a9⟩
  have F10 := fun_mk (st := s_p_are_cells) l10 c10 k10
  have A10 : d_p_are_cells.At K mg f10 _ := ⟨F10, F10.binds (ps := ["thing", "wide"]) fun _ _ _ _ _ _ us hl => match us, hl with | [_, _], _ => rfl, PySem.W.mg_of X G a10⟩
  have F11 := fun_mk (st := s_p_is_step) l11 c11 k11
  have A11 : d_p_is_step.At K mg f11 _ := ⟨F11, F11.binds (ps := ["thing", "rows"]) fun _ _ _ _ _ _ us hl => match us, hl with | [_, _], _ => rfl, PySem.W.mg_of X G a11⟩
  have F12 := fun_mk (st := s_p_named_by) l12 c12 k12
  have A12 : d_p_named_by.At K mg f12 _ := ⟨F12, F12.binds (ps := ["step"]) fun _ _ _ _ _ _ us hl => match us, hl with | [_], _ => rfl, PySem.W.mg_of X G a12⟩
  have F13 := fun_mk (st := s_p_rows_behind) l13 c13 k13
  have A13 : d_p_rows_behind.At K mg f13 _ := ⟨F13, F13.binds (ps := ["rows", "step"]) fun _ _ _ _ _ _ us hl => match us, hl with | [_, _], _ => rfl, PySem.W.mg_of X G a13⟩
  have F14 := fun_mk (st := s_p_shows_paper) l14 c14 k14
  have A14 : d_p_shows_paper.At K mg f14 _ := ⟨F14, F14.binds (ps := ["rows", "thing"]) fun _ _ _ _ _ _ us hl => match us, hl with | [_, _], _ => rfl, PySem.W.mg_of X G a14⟩
  have F15 := fun_mk (st := s_l_box) l15 c15 k15
  have A15 : d_l_box.At K mg f15 _ := ⟨F15, F15.binds (ps := ["_law_script", "_law_k"]) fun _ _ _ _ _ _ us hl => match us, hl with | [_, _], _ => rfl, PySem.W.mg_of X G a15⟩
  have F16 := fun_mk (st := s_l_take_1) l16 c16 k16
  have A16 : d_l_take_1.At K mg f16 _ := ⟨F16, F16.binds (ps := ["_law_box_here", "_law_many_here"]) fun _ _ _ _ _ _ us hl => match us, hl with | [_, _], _ => rfl, PySem.W.mg_of X G a16⟩
  have F17 := fun_mk (st := s_l_folded_1) l17 c17 k17
  have A17 : d_l_folded_1.At K mg f17 _ := ⟨F17, F17.binds (ps := ["_law_script", "_law_many_here"]) fun _ _ _ _ _ _ us hl => match us, hl with | [_, _], _ => rfl, PySem.W.mg_of X G a17⟩
  have F18 := fun_mk (st := s_l_same) l18 c18 k18
  have A18 : d_l_same.At K mg f18 _ := ⟨F18, F18.binds (ps := ["_law_found", "_law_due"]) fun _ _ _ _ _ _ us hl => match us, hl with | [_, _], _ => rfl, PySem.W.mg_of X G a18⟩
  have F19 := fun_mk (st := s_l_many) l19 c19 k19
  have A19 : d_l_many.At K mg f19 _ := ⟨F19, F19.binds (ps := ["_law_box_here", "_law_few", "_law_most"]) fun _ _ _ _ _ _ us hl => match us, hl with | [_, _, _], _ => rfl, PySem.W.mg_of X G a19⟩
  have F20 := fun_mk (st := s_l_row_1) l20 c20 k20
  have A20 : d_l_row_1.At K mg f20 _ := ⟨F20, F20.binds (ps := ["_law_box_here", "_law_wide"]) fun _ _ _ _ _ _ us hl => match us, hl with | [_, _], _ => rfl, PySem.W.mg_of X G a20⟩
  have F21 := fun_mk (st := s_l_up) l21 c21 k21
  have A21 : d_l_up.At K mg f21 _ := ⟨F21, F21.binds (ps := ["_law_number", "_law_divisor"]) fun _ _ _ _ _ _ us hl => match us, hl with | [_, _], _ => rfl, PySem.W.mg_of X G a21⟩
  have F22 := fun_mk (st := s_l_whole) l22 c22 k22
  have A22 : d_l_whole.At K mg f22 _ := ⟨F22, F22.binds (ps := ["_law_row_here", "_law_divisor"]) fun _ _ _ _ _ _ us hl => match us, hl with | [_, _], _ => rfl, PySem.W.mg_of X G a22⟩
  have F23 := fun_mk (st := s_l_sum) l23 c23 k23
  have A23 : d_l_sum.At K mg f23 _ := ⟨F23, F23.binds (ps := ["_law_rows", "_law_times"]) fun _ _ _ _ _ _ us hl => match us, hl with | [_, _], _ => rfl, PySem.W.mg_of X G a23⟩
  have F24 := fun_mk (st := s_l_case_rows) l24 c24 k24
  have A24 : d_l_case_rows.At K mg f24 _ := ⟨F24, F24.binds (ps := ["_law_cells", "_law_n", "_law_wide"]) fun _ _ _ _ _ _ us hl => match us, hl with | [_, _, _], _ => rfl, PySem.W.mg_of X G a24⟩
  have F25 := fun_mk (st := s_l_is_number_1) l25 c25 k25
  have A25 : d_l_is_number_1.At K mg f25 _ := ⟨F25, F25.binds (ps := ["_law_thing"]) fun _ _ _ _ _ _ us hl => match us, hl with | [_], _ => rfl, PySem.W.mg_of X G a25⟩
  have F26 := fun_mk (st := s_l_are_times) l26 c26 k26
  have A26 : d_l_are_times.At K mg f26 _ := ⟨F26, F26.binds (ps := ["_law_thing", "_law_many_here"]) fun _ _ _ _ _ _ us hl => match us, hl with | [_, _], _ => rfl, PySem.W.mg_of X G a26⟩
  have F27 := fun_mk (st := s_l_are_cells) l27 c27 k27
  have A27 : d_l_are_cells.At K mg f27 _ := ⟨F27, F27.binds (ps := ["_law_thing", "_law_wide"]) fun _ _ _ _ _ _ us hl => match us, hl with | [_, _], _ => rfl, PySem.W.mg_of X G a27⟩
  have F28 := fun_mk (st := s_l_formed) l28 c28 k28
  have A28 : d_l_formed.At K mg f28 _ := ⟨F28, F28.binds (ps := ["_law_step"]) fun _ _ _ _ _ _ us hl => match us, hl with | [_], _ => rfl, PySem.W.mg_of X G a28⟩
  have F29 := fun_mk (st := s_l_goes_by) l29 c29 k29
  have A29 : d_l_goes_by.At K mg f29 _ := ⟨F29, F29.binds (ps := ["_law_rows", "_law_step"]) fun _ _ _ _ _ _ us hl => match us, hl with | [_, _], _ => rfl, PySem.W.mg_of X G a29⟩
  have F30 := fun_mk (st := s_l_put_behind) l30 c30 k30
  have A30 : d_l_put_behind.At K mg f30 _ := ⟨F30, F30.binds (ps := ["_law_rows", "_law_step"]) fun _ _ _ _ _ _ us hl => match us, hl with | [_, _], _ => rfl, PySem.W.mg_of X G a30⟩
  have F31 := fun_mk (st := s_l_is_paper) l31 c31 k31
  have A31 : d_l_is_paper.At K mg f31 _ := ⟨F31, F31.binds (ps := ["_law_rows", "_law_thing"]) fun _ _ _ _ _ _ us hl => match us, hl with | [_, _], _ => rfl, PySem.W.mg_of X G a31⟩
  have F32 := fun_mk (st := s_l_halved) l32 c32 k32
  have A32 : d_l_halved.At K mg f32 _ := ⟨F32, F32.binds (ps := ["_law_box_here", "_law_wide"]) fun _ _ _ _ _ _ us hl => match us, hl with | [_, _], _ => rfl, PySem.W.mg_of X G a32⟩
  have F33 := fun_mk (st := s_l_others) l33 c33 k33
  have A33 : d_l_others.At K mg f33 _ := ⟨F33, F33.binds (ps := ["_law_box_here", "_law_rows", "_law_paper", "_law_divisor"]) fun _ _ _ _ _ _ us hl => match us, hl with | [_, _, _, _], _ => rfl, PySem.W.mg_of X G a33⟩
  have F34 := fun_mk (st := s_p_law_22) l34 c34 k34
  have A34 : d_p_law_22.At K mg fa _ := ⟨F34, F34.binds (ps := ["_law_script"]) fun _ _ _ _ _ _ us hl => match us, hl with | [_], _ => rfl, PySem.W.mg_of X G a34⟩
  refine ⟨PySem.W.fnOf "law" "law" (defArgs s_p_law_22) (defBody s_p_law_22) (defScope s_p_law_22) .none kV34 dc34 pm34 an34 cd34 ct34, fun s v => .of_eq rfl, fun base hb hn => ?_⟩
  have bl : ∀ x, x ∈ tb.bn → mg x = none := fun x hx => by
    simp only [tb, List.mem_cons, List.not_mem_nil, or_false] at hx
    rcases hx with rfl | rfl | rfl | rfl | rfl | rfl | rfl | rfl | rfl | rfl | rfl | rfl | rfl | rfl | rfl | rfl | rfl | rfl | rfl
    · exact PySem.W.mg_none_of X G z0
    · exact PySem.W.mg_none_of X G z1
    · exact PySem.W.mg_none_of X G z2
    · exact PySem.W.mg_none_of X G z3
    · exact PySem.W.mg_none_of X G z4
    · exact PySem.W.mg_none_of X G z5
    · exact PySem.W.mg_none_of X G z6
    · exact PySem.W.mg_none_of X G z7
    · exact PySem.W.mg_none_of X G z8
    · exact PySem.W.mg_none_of X G z9
    · exact PySem.W.mg_none_of X G z10
    · exact PySem.W.mg_none_of X G z11
    · exact PySem.W.mg_none_of X G z12
    · exact PySem.W.mg_none_of X G z13
    · exact PySem.W.mg_none_of X G z14
    · exact PySem.W.mg_none_of X G z15
    · exact PySem.W.mg_none_of X G z16
    · exact PySem.W.mg_none_of X G z17
    · exact PySem.W.mg_none_of X G z18
  have fns : ∀ f x, (f, x) ∈ tb.fnm → ∃ (d : Def) (fa : Addr) (fdt : FuncData), d.f = f ∧ d.x = x ∧ d.Ok tb PP ∧ d.At K mg fa fdt := fun f x hx => by
    simp only [tb, List.mem_cons, List.not_mem_nil, or_false, Prod.mk.injEq] at hx
    rcases hx with ⟨rfl, rfl⟩ | ⟨rfl, rfl⟩ | ⟨rfl, rfl⟩ | ⟨rfl, rfl⟩ | ⟨rfl, rfl⟩ | ⟨rfl, rfl⟩ | ⟨rfl, rfl⟩ | ⟨rfl, rfl⟩ | ⟨rfl, rfl⟩ | ⟨rfl, rfl⟩ | ⟨rfl, rfl⟩ | ⟨rfl, rfl⟩ | ⟨rfl, rfl⟩ | ⟨rfl, rfl⟩ | ⟨rfl, rfl⟩ | ⟨rfl, rfl⟩ | ⟨rfl, rfl⟩ | ⟨rfl, rfl⟩ | ⟨rfl, rfl⟩ | ⟨rfl, rfl⟩ | ⟨rfl, rfl⟩ | ⟨rfl, rfl⟩ | ⟨rfl, rfl⟩ | ⟨rfl, rfl⟩ | ⟨rfl, rfl⟩ | ⟨rfl, rfl⟩ | ⟨rfl, rfl⟩ | ⟨rfl, rfl⟩ | ⟨rfl, rfl⟩ | ⟨rfl, rfl⟩ | ⟨rfl, rfl⟩ | ⟨rfl, rfl⟩ | ⟨rfl, rfl⟩ | ⟨rfl, rfl⟩ | ⟨rfl, rfl⟩
    · exact ⟨d_p_sum_of, _, _, rfl, rfl, ok_p_sum_of, A0⟩
    · exact ⟨d_p_is_time, _, _, rfl, rfl, ok_p_is_time, A1⟩
    · exact ⟨d_p_are_times, _, _, rfl, rfl, ok_p_are_times, A2⟩
    · exact ⟨d_p_shows_sum, _, _, rfl, rfl, ok_p_shows_sum, A3⟩
    · exact ⟨d_p_is_count, _, _, rfl, rfl, ok_p_is_count, A4⟩
    · exact ⟨d_p_is_row_list, _, _, rfl, rfl, ok_p_is_row_list, A5⟩
    · exact ⟨d_p_part_up, _, _, rfl, rfl, ok_p_part_up, A6⟩
    · exact ⟨d_p_whole_row, _, _, rfl, rfl, ok_p_whole_row, A7⟩
    · exact ⟨d_p_row_of_most, _, _, rfl, rfl, ok_p_row_of_most, A8⟩
    · exact ⟨d_p_row_of_least, _, _, rfl, rfl, ok_p_row_of_least, A9⟩
    · exact ⟨d_p_are_cells, _, _, rfl, rfl, ok_p_are_cells, A10⟩
    · exact ⟨d_p_is_step, _, _, rfl, rfl, ok_p_is_step, A11⟩
    · exact ⟨d_p_named_by, _, _, rfl, rfl, ok_p_named_by, A12⟩
    · exact ⟨d_p_rows_behind, _, _, rfl, rfl, ok_p_rows_behind, A13⟩
    · exact ⟨d_p_shows_paper, _, _, rfl, rfl, ok_p_shows_paper, A14⟩
    · exact ⟨d_l_box, _, _, rfl, rfl, ok_l_box, A15⟩
    · exact ⟨d_l_take_1, _, _, rfl, rfl, ok_l_take_1, A16⟩
    · exact ⟨d_l_folded_1, _, _, rfl, rfl, ok_l_folded_1, A17⟩
    · exact ⟨d_l_same, _, _, rfl, rfl, ok_l_same, A18⟩
    · exact ⟨d_l_many, _, _, rfl, rfl, ok_l_many, A19⟩
    · exact ⟨d_l_row_1, _, _, rfl, rfl, ok_l_row_1, A20⟩
    · exact ⟨d_l_up, _, _, rfl, rfl, ok_l_up, A21⟩
    · exact ⟨d_l_whole, _, _, rfl, rfl, ok_l_whole, A22⟩
    · exact ⟨d_l_sum, _, _, rfl, rfl, ok_l_sum, A23⟩
    · exact ⟨d_l_case_rows, _, _, rfl, rfl, ok_l_case_rows, A24⟩
    · exact ⟨d_l_is_number_1, _, _, rfl, rfl, ok_l_is_number_1, A25⟩
    · exact ⟨d_l_are_times, _, _, rfl, rfl, ok_l_are_times, A26⟩
    · exact ⟨d_l_are_cells, _, _, rfl, rfl, ok_l_are_cells, A27⟩
    · exact ⟨d_l_formed, _, _, rfl, rfl, ok_l_formed, A28⟩
    · exact ⟨d_l_goes_by, _, _, rfl, rfl, ok_l_goes_by, A29⟩
    · exact ⟨d_l_put_behind, _, _, rfl, rfl, ok_l_put_behind, A30⟩
    · exact ⟨d_l_is_paper, _, _, rfl, rfl, ok_l_is_paper, A31⟩
    · exact ⟨d_l_halved, _, _, rfl, rfl, ok_l_halved, A32⟩
    · exact ⟨d_l_others, _, _, rfl, rfl, ok_l_others, A33⟩
    · exact ⟨d_p_law_22, _, _, rfl, rfl, ok_p_law_22, A34⟩
  have gls : ∀ (j : Nat) (x : Str), (j, x) ∈ tb.gl → ∃ d u, GG[j]? = some d ∧ mg x = some u ∧ GOk K w d u := fun j x hx => by
    simp only [tb, List.mem_cons, List.not_mem_nil, or_false, Prod.mk.injEq] at hx
    rcases hx with ⟨rfl, rfl⟩
    · exact ⟨_, _, rfl, PySem.W.mg_of X G gn11, gOk_dct gd11 gv11⟩
  have FN := fns_ok (P := l.prog) (w := w) (base := base) (G := GG) bl gls fns 40 d_p_law_22 _ _ ok_p_law_22 A34
  exact FN.imp (law_ok hlaw)
end Mi.Lw
open PySem PySem.W PyProof.Rows
set_option maxHeartbeats 0 in
theorem PySem.Challenge.cw_somesay_k23_wholes_that_close_holds : PySem.Challenge.rw_somesay_k23_wholes_that_close.Holds := by
  w_on; o_law; k_head; (case hw => w_witness2)
  k_fill
  refine Mi.walkG (l := PySem.Challenge.rw_somesay_k23_wholes_that_close) (n := 63) (k := 40) (x := "_law_script") (sp := fun w => Mi.spLaw _) rfl (by decide) rfl ⟨rfl, by decide, by decide⟩ (fun w h Y => PySem.W.kIn_of Y) ?F (fun _ _ a ns hl hO hS => ⟨a, ns, rfl, hl, hO, hS, fun _ => rfl⟩)
  case F =>
    intro w mg fa h KX G hmg
    refine' Mi.Lw.all_mk KX G hmg ?a0 ?l0 ?c0 ?k0 ?a1 ?l1 ?c1 ?k1 ?a2 ?l2 ?c2 ?k2 ?a3 ?l3 ?c3 ?k3 ?a4 ?l4 ?c4 ?k4 ?a5 ?l5 ?c5 ?k5 ?a6 ?l6 ?c6 ?k6 ?a7 ?l7 ?c7 ?k7 ?a8 ?l8 ?c8 ?k8 ?a9 ?l9 ?c9 ?k9 ?a10 ?l10 ?c10 ?k10 ?a11 ?l11 ?c11 ?k11 ?a12 ?l12 ?c12 ?k12 ?a13 ?l13 ?c13 ?k13 ?a14 ?l14 ?c14 ?k14 ?a15 ?l15 ?c15 ?k15 ?a16 ?l16 ?c16 ?k16 ?a17 ?l17 ?c17 ?k17 ?a18 ?l18 ?c18 ?k18 ?a19 ?l19 ?c19 ?k19 ?a20 ?l20 ?c20 ?k20 ?a21 ?l21 ?c21 ?k21 ?a22 ?l22 ?c22 ?k22 ?a23 ?l23 ?c23 ?k23 ?a24 ?l24 ?c24 ?k24 ?a25 ?l25 ?c25 ?k25 ?a26 ?l26 ?c26 ?k26 ?a27 ?l27 ?c27 ?k27 ?a28 ?l28 ?c28 ?k28 ?a29 ?l29 ?c29 ?k29 ?a30 ?l30 ?c30 ?k30 ?a31 ?l31 ?c31 ?k31 ?a32 ?l32 ?c32 ?k32 ?a33 ?l33 ?c33 ?k33 ?a34 ?l34 ?c34 ?k34 ?z0 ?z1 ?z2 ?z3 ?z4 ?z5 ?z6 ?z7 ?z8 ?z9 ?z10 ?z11 ?z12 ?z13 ?z14 ?z15 ?z16 ?z17 ?z18 ?gn11 ?gd11 ?gv11 (fun ns hl => Mi.Lw.law_true ns hl)
    (case a0 => k_is); (case l0 => k_is); (case c0 => k_is); (case k0 => k_is); (case a1 => k_is); (case l1 => k_is); (case c1 => k_is); (case k1 => k_is); (case a2 => k_is); (case l2 => k_is); (case c2 => k_is); (case k2 => k_is); (case a3 => k_is); (case l3 => k_is); (case c3 => k_is); (case k3 => k_is); (case a4 => k_is); (case l4 => k_is); (case c4 => k_is); (case k4 => k_is); (case a5 => k_is); (case l5 => k_is); (case c5 => k_is); (case k5 => k_is); (case a6 => k_is); (case l6 => k_is); (case c6 => k_is); (case k6 => k_is); (case a7 => k_is); (case l7 => k_is); (case c7 => k_is); (case k7 => k_is); (case a8 => k_is); (case l8 => k_is); (case c8 => k_is); (case k8 => k_is); (case a9 => k_is); (case l9 => k_is); (case c9 => k_is); (case k9 => k_is); (case a10 => k_is); (case l10 => k_is); (case c10 => k_is); (case k10 => k_is); (case a11 => k_is); (case l11 => k_is); (case c11 => k_is); (case k11 => k_is); (case a12 => k_is); (case l12 => k_is); (case c12 => k_is); (case k12 => k_is); (case a13 => k_is); (case l13 => k_is); (case c13 => k_is); (case k13 => k_is); (case a14 => k_is); (case l14 => k_is); (case c14 => k_is); (case k14 => k_is); (case a15 => k_is); (case l15 => k_is); (case c15 => k_is); (case k15 => k_is); (case a16 => k_is); (case l16 => k_is); (case c16 => k_is); (case k16 => k_is); (case a17 => k_is); (case l17 => k_is); (case c17 => k_is); (case k17 => k_is); (case a18 => k_is); (case l18 => k_is); (case c18 => k_is); (case k18 => k_is); (case a19 => k_is); (case l19 => k_is); (case c19 => k_is); (case k19 => k_is); (case a20 => k_is); (case l20 => k_is); (case c20 => k_is); (case k20 => k_is); (case a21 => k_is); (case l21 => k_is); (case c21 => k_is); (case k21 => k_is); (case a22 => k_is); (case l22 => k_is); (case c22 => k_is); (case k22 => k_is); (case a23 => k_is); (case l23 => k_is); (case c23 => k_is); (case k23 => k_is); (case a24 => k_is); (case l24 => k_is); (case c24 => k_is); (case k24 => k_is); (case a25 => k_is); (case l25 => k_is); (case c25 => k_is); (case k25 => k_is); (case a26 => k_is); (case l26 => k_is); (case c26 => k_is); (case k26 => k_is); (case a27 => k_is); (case l27 => k_is); (case c27 => k_is); (case k27 => k_is); (case a28 => k_is); (case l28 => k_is); (case c28 => k_is); (case k28 => k_is); (case a29 => k_is); (case l29 => k_is); (case c29 => k_is); (case k29 => k_is); (case a30 => k_is); (case l30 => k_is); (case c30 => k_is); (case k30 => k_is); (case a31 => k_is); (case l31 => k_is); (case c31 => k_is); (case k31 => k_is); (case a32 => k_is); (case l32 => k_is); (case c32 => k_is); (case k32 => k_is); (case a33 => k_is); (case l33 => k_is); (case c33 => k_is); (case k33 => k_is); (case a34 => k_is); (case l34 => k_is); (case c34 => k_is); (case k34 => k_is); (case z0 => k_is); (case z1 => k_is); (case z2 => k_is); (case z3 => k_is); (case z4 => k_is); (case z5 => k_is); (case z6 => k_is); (case z7 => k_is); (case z8 => k_is); (case z9 => k_is); (case z10 => k_is); (case z11 => k_is); (case z12 => k_is); (case z13 => k_is); (case z14 => k_is); (case z15 => k_is); (case z16 => k_is); (case z17 => k_is); (case z18 => k_is)
    (case gn11 => k_is); (case gd11 => kernel_rfl); (case gv11 => kernel_rfl)
