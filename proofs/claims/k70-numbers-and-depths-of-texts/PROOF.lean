import PyProof.Rows.All
import Wide.All
import OpenK.AllK
import Wide.FinOn
import HandS.ForMost
import HandS.IsInst
import HandS.TupAny
import HandS.SortInts
import HandS.Zip
import HandS.Flow
import HandS.Wide
import HandS.Small
import HandS.Style
import HandS.TupMul
import HandS.Deep
import HandS.TupLe
import HandS.Conv
import HandS.More
import KE.DataMinMax
import HandS.Text
import HandS.StrMore
import HandS.Lambda
import HandS.Exc
import HandS.ExcIs
import HandS.ExcField
import KE.KExcIs
import HandS.Flt
import HandS.SetFor
import HandS.Strs
import HandS.SortKw
import HandS.HeadHook3
import HandS.EndTab
import KE.KNestM
import HandS.ExcInit
import HandS.Head2
import HandS.TryOnly
import KE.SortKeyHeap
import KE.KDictSum
import KE.KDictCopyH
import HandS.Rev
import HandS.RevRange
import PyProof.CallFns
import PyProof.ReprRoads
import HandS.RaiseMore
import HandS.Iter
import HandS.Codes
import HandS.SetBool
import KE.KDictZip
import KE.KDictLaws
import PyProof.ReprBulk
import PyProof.FitsInt
import PySem.Challenge.RW_somesay_k70_numbers_and_depths_of_texts
set_option Elab.async false
set_option linter.all false
set_option maxRecDepth 100000
set_option maxHeartbeats 4000000
noncomputable section
namespace Mi
open PySem L2

inductive D where
  | non | bl (b : Bool) | int (i : Int) | str (x : Str) | tup (ds : List D) | lst (ds : List D) | scr (ds : List D) | ref (l : Nat) | dct (ks : List Key) (ds : List D)


abbrev Tb := Str × Str × Str
inductive Cell where
  | lst (ds : List D) | dct (ks : List Key) (ds : List D) | obj (c : Str) (ns : List Str) (ds : List D) | tbl (t : Tb) | dctT (ks : List (List Int)) | err (c : Str) (f : Option (Str × Int))
abbrev Sto := List Cell


inductive Sl where
  | no | val (d : D) | own (ds : List D)

inductive Rt where
  | val (d : D) | own (ds : List D) | bor (ds : List D) | ownd (ks : List Key) (ds : List D)

inductive BOp where
  | add | sub | mul | fdiv | mod | pow | shl
inductive COp where
  | eq | ne | lt | le | gt | ge | is | isnot | isin | notin

inductive P1 where
  | lrng | rev | repr | sset | lset | lsetb | mint | lpop | revr | sprs | trev | trng | lenm | intt | gget (j : Nat) | gin (neg : Bool) (j : Nat)
inductive P2 where
  | rpop | mxd | mnd | split | join | gg2 (j : Nat) | count | index | lrng2 | dzip | upd | apr | exr | inr (neg : Bool) | sidx | sin (neg : Bool) | sws | stc
inductive P3 where
  | mx3 | get
inductive Ty where
  | int | bool | str | tuple | list
  deriving DecidableEq
inductive BI where
  | abs | all | any | divmod | int | len | list | max | min | sum | tuple | sorted | str | isi (ts : List Ty) | isi1 (t : Ty)

mutual
inductive ME where
  | var (i : Nat) | bor (i : Nat) | con (d : D) | glb (j : Nat)
  | bin (o : BOp) (a b : ME) | neg (a : ME) | not (a : ME)
  | and (a b : ME) | or (a b : ME)
  | cmp (o : COp) (a b : ME) | chn (o p : COp) (a b c : ME)
  | ite (c a b : ME)
  | tup (es : MEs) | lst (es : MEs)
  | idx (a i : ME) | slc (a : ME) (lo hi : MO)
  | call (f : Nat) (es : MEs)
  | callp (f : Nat) (es : MEs)
  | callr (f : Nat) (es : MEs)
  | bi (b : BI) (es : MEs)
  | comp (own : List Nat) (t : MT) (it : MI) (c : MO) (e : ME)
  | compl (own : List Nat) (t : MT) (it : ME) (c : MO) (e : ME)
  | new (e : ME)
  | dct (ks : List Key) (es : MEs)
  | dgt (d k : ME) | din (neg : Bool) (k d : ME)
  | o1 (p : P1) (a : ME) | o2 (p : P2) (a b : ME) | o3 (p : P3) (a b c : ME)
  | ndT | ndK | skey1 (t : Tb) (e : ME) | skey2 (t : Tb) (i : Nat)
  | fld (c : Str) (o : ME) (f : Str) | meth (c m : Str) (f : Nat) (o : ME) (es : MEs) | make (c : Str) (f : Nat) (es : MEs)
  | isx1 (c : Str) (a : ME) | isx (cs : List Str) (a : ME) | xf (f : Str) (a : ME)
  | gks (j : Nat) | tsl (a : ME) (lo hi : MO)
inductive MEs where
  | nil | cons (e : ME) (es : MEs)
inductive MO where
  | no | yes (e : ME)
inductive MI where
  | rng1 (a : ME) | rng2 (a b : ME) | rngd (a b : ME) | rrng (a : ME) | rrev (a : ME) | seq (e : ME) | enm (e : ME) | zip (a b : ME) | gky (j : Nat) | chs (e : ME)
inductive MT where
  | nm (i : Nat) | sub (o i : ME) | tp (ts : MTs) | cut (o : ME) (n : Nat) | key (i j : Nat)
inductive MTs where
  | nil | cons (t : MT) (ts : MTs)
end
mutual
inductive MS where
  | asg (t : MT) (e : ME)
  | own (i : Nat) (e : ME)
  | par (i j : Nat) (oj : Bool) (a b : ME)
  | par3 (i j l : Nat) (a b c : ME)
  | aug (i : Nat) (o : BOp) (e : ME)
  | app (i : Nat) (e : ME)
  | ext (i : Nat) (e : ME)
  | rev (i : Nat)
  | sown (i : Nat) (a e : ME)
  | pops (t : MT) (i : Nat)
  | ite (c : ME) (a b : MSs)
  | forr (t : MT) (it : MI) (b : MSs)
  | whl (n : Nat) (c : ME) (b : MSs)
  | ret (e : ME)
  | reto (i : Nat)
  | expr (e : ME)
  | frz (i : Nat)
  | setf (c : Str) (o : ME) (f : Str) (e : ME)
  | augs (i : Nat) (a : ME) (o : BOp) (e : ME)
  | ins (i : Nat) (a e : ME)
  | popn (i : Nat) (a : ME)
  | sown2 (i : Nat) (a b e1 e2 : ME)
  | forl (t : MT) (it : MI) (b : MSs)
  | rse
  | rsx (c : Str) (f : Option Str) (es : MEs)
  | augf (c : Str) (o : ME) (f : Str) (k : Int)
  | trx (c : Str) (i : Nat) (b s : MSs)
inductive MSs where
  | nil | cons (s : MS) (r : MSs)
end


noncomputable def D.bl? : D → Option Bool
  | .bl b => some b
  | _ => none
noncomputable def D.int? : D → Option Int
  | .int i => some i
  | _ => none
noncomputable def Rt.d : Rt → Option D
  | .val d => some d
  | .own ds => some (.lst ds)
  | .bor _ => none
  | .ownd ks ds => some (.dct ks ds)
noncomputable def cellL (S : Sto) (l : Nat) : Option (List D) := match S[l]? with
  | some (.lst ds) => some ds
  | _ => none
noncomputable def cellD (S : Sto) (l : Nat) : Option (List Key × List D) := match S[l]? with
  | some (.dct ks ds) => some (ks, ds)
  | _ => none
noncomputable def cellO (S : Sto) (l : Nat) : Option (Str × List Str × List D) := match S[l]? with
  | some (.obj c ns ds) => some (c, ns, ds)
  | _ => none
noncomputable def cellT (S : Sto) (l : Nat) : Option (List (List Int)) := match S[l]? with
  | some (.dctT ks) => some ks
  | _ => none
noncomputable def isTbl (t : Tb) : Cell → Bool
  | .tbl u => decide (u = t)
  | _ => false

noncomputable def supX (c : Str) : List Str := [c, "SayError", "ValueError"]
noncomputable def subX (c d : Str) : Bool := decide (d ∈ supX c)
noncomputable def errNames : List Str := ["Taken", "TooMany", "NoLabel", "BadText", "BadRow", "SayError"]
noncomputable def cellE (S : Sto) (l : Nat) : Option (Str × Option (Str × Int)) := match S[l]? with
  | some (.err c f) => some (c, f)
  | _ => none
noncomputable def hasTbl (S : Sto) (t : Tb) : Bool := S.any (isTbl t)

noncomputable def tupI (k : List Int) : D := .tup (k.map .int)

noncomputable def leN (a b : List Int) : Bool := decide (b.length ≤ a.length)

noncomputable def leL (a b : List Int) : Bool := !decide (b.length < a.length ∨ (b.length = a.length ∧ b < a))

noncomputable def prD (p : Int × List Int) : D := .tup [.int p.1, tupI p.2]
noncomputable def leP (a b : Int × List Int) : Bool := !decide (b.1 < a.1 ∨ (b.1 = a.1 ∧ b.2 < a.2))

noncomputable def valF : List Str → List D → Str → Option D
  | n :: ns, d :: ds, f => if n = f then some d else valF ns ds f
  | _, _, _ => none
noncomputable def putFn : List Str → Str → List Str
  | [], f => [f]
  | n :: ns, f => if n = f then n :: ns else n :: putFn ns f
noncomputable def putFd : List Str → List D → Str → D → List D
  | n :: ns, x :: ds, f, d => if n = f then d :: ds else x :: putFd ns ds f d
  | _, _, _, d => [d]

noncomputable def lview (S : Sto) : Rt → Option (List D)
  | .val (.lst ds) => some ds
  | .val (.scr ds) => some ds
  | .val (.ref l) => cellL S l
  | .own ds => some ds
  | .bor ds => some ds
  | _ => none

noncomputable def tview (S : Sto) : Rt → Option (List D)
  | .val (.scr _) => none
  | r => lview S r

noncomputable def sview (S : Sto) : Rt → Option (List D)
  | .val (.tup ds) => some ds
  | r => lview S r
mutual
noncomputable def toPy : D → Option PyData
  | .non => some .none
  | .bl b => some (.bool b)
  | .int i => some (.int i)
  | .str x => some (.str x)
  | .tup ds => (toPys ds).map .tuple
  | .lst ds => (toPys ds).map .list
  | .scr ds => (toPys ds).map .list
  | .ref _ => none
  | .dct _ _ => none
noncomputable def toPys : List D → Option (List PyData)
  | [] => some []
  | d :: ds => (toPy d).bind fun x => (toPys ds).map fun r => x :: r
end
noncomputable def pyR : Rt → Option PyData
  | .val d => toPy d
  | .own ds => (toPys ds).map .list
  | .bor ds => (toPys ds).map .list
  | .ownd _ _ => none

noncomputable def pyS1 (S : Sto) : D → Option PyData
  | .ref l => (cellL S l).bind fun ds => (toPys ds).map .list
  | d => toPy d
noncomputable def pySs (S : Sto) : List D → Option (List PyData)
  | [] => some []
  | d :: ds => (pyS1 S d).bind fun x => (pySs S ds).map fun r => x :: r
noncomputable def pyS (S : Sto) : Rt → Option PyData
  | .val (.ref l) => (cellL S l).bind fun ds => (toPys ds).map .list
  | .val (.tup ds) => (pySs S ds).map .tuple
  | r => pyR r
noncomputable def ints? : List D → Option (List Int)
  | [] => some []
  | .int i :: r => (ints? r).map fun is => i :: is
  | _ => none
noncomputable def bls? : List D → Option (List Bool)
  | [] => some []
  | .bl i :: r => (bls? r).map fun is => i :: is
  | _ => none
noncomputable def MulOk (i j : Int) : Prop := ((-(2 ^ 64) < i ∧ i < 2 ^ 64) ∨ (-(2 ^ 64) < j ∧ j < 2 ^ 64)) ∨ CMulW i j
instance (i j : Int) : Decidable (MulOk i j) := by unfold MulOk CMulW; infer_instance
noncomputable def DivOk (j : Int) : Prop := (0 < j ∧ j < 1073741824) ∨ CDivW 0 j
instance (j : Int) : Decidable (DivOk j) := by unfold DivOk CDivW; infer_instance
noncomputable def binI : BOp → Int → Int → Option Int
  | .add, i, j => some (i + j)
  | .sub, i, j => some (i - j)
  | .mul, i, j => if MulOk i j then some (i * j) else none
  | .fdiv, i, j => if DivOk j then some (i / j) else none
  | .mod, i, j => if 0 < j then some (i % j) else none
  | .pow, i, j => if 0 ≤ j ∧ j ≤ 1000000 ∧ i.natAbs < 2 ^ 64 then some (i ^ j.toNat) else none
  | .shl, i, j => if 0 ≤ j ∧ j ≤ 1000000 ∧ i.natAbs < 2 ^ 64 then some (i * 2 ^ j.toNat) else none
noncomputable def Rt.int? : Rt → Option Int
  | .val (.int i) => some i
  | _ => none
noncomputable def Rt.bl? : Rt → Option Bool
  | .val (.bl i) => some i
  | _ => none
noncomputable def Rt.str? : Rt → Option Str
  | .val (.str i) => some i
  | _ => none
noncomputable def Rt.tup? : Rt → Option (List D)
  | .val (.tup i) => some i
  | _ => none
noncomputable def Rt.ref? : Rt → Option Nat
  | .val (.ref i) => some i
  | _ => none
noncomputable def Rt.val? : Rt → Option D
  | .val i => some i
  | _ => none
noncomputable def catop0 (S : Sto) (x y : Rt) : Option Rt :=
  match x.tup?, y.tup? with
  | some xs, some ys => if xs.length + ys.length ≤ sizeLine then some (.val (.tup (xs ++ ys))) else none
  | _, _ => (tview S x).bind fun xs => (tview S y).bind fun ys => if xs.length + ys.length ≤ sizeLine then some (.own (xs ++ ys)) else none
noncomputable def catop (S : Sto) (x y : Rt) : Option Rt :=
  match x.str?, y.str? with
  | some a, some b => if a.length + b.length ≤ sizeLine then some (.val (.str (a ++ b))) else none
  | _, _ => catop0 S x y
noncomputable def repop0 (S : Sto) (x : Rt) (k : Int) : Option Rt := (tview S x).bind fun xs => if -(2 ^ 63) ≤ k ∧ k < 2 ^ 63 ∧ xs.length * k.toNat ≤ sizeLine then some (.own (List.replicate k.toNat xs).flatten) else none
noncomputable def repop (S : Sto) (x : Rt) (k : Int) : Option Rt := match x.tup? with
  | some xs => if xs ≠ [] ∧ 2 ≤ k ∧ k ≤ 1000 ∧ xs.length ≤ 1000 then some (.val (.tup (List.replicate k.toNat xs).flatten)) else none
  | none => repop0 S x k

noncomputable def binop (S : Sto) (o : BOp) (x y : Rt) : Option Rt :=
  match x.int?, y.int? with
  | some i, some j => (binI o i j).map fun k => .val (.int k)
  | none, some k => match o with
    | .mul => repop S x k
    | _ => none
  | some _, none => none
  | none, none => match o with
    | .add => catop S x y
    | _ => none
mutual

noncomputable def bareT : D → Bool
  | .non => true
  | .bl _ => true
  | .int _ => true
  | .str _ => true
  | .tup ds => bareTL ds
  | .lst _ => false
  | .scr _ => false
  | .ref _ => false
  | .dct _ _ => false
noncomputable def bareTL : List D → Bool
  | [] => true
  | d :: ds => bareT d && bareTL ds
end

noncomputable def flatD : D → Bool
  | .non => true
  | .bl _ => true
  | .int _ => true
  | .str _ => true
  | _ => false
noncomputable def vOf : D → V
  | .non => .non
  | .bl b => .bl b
  | .int i => .int i
  | .str x => .str x
  | _ => .non
noncomputable def inD (x : D) (xs : List D) : Option Bool := if flatD x = true ∧ xs.all flatD = true then some (inV (vOf x) (xs.map vOf)) else none
noncomputable def cmpI : COp → Int → Int → Bool
  | .lt, i, j => decide (i < j)
  | .le, i, j => decide (i ≤ j)
  | .gt, i, j => decide (j < i)
  | _, i, j => decide (j ≤ i)
noncomputable def eqop0 (S : Sto) (x y : Rt) : Option Bool := (pyS S x).bind fun a => (pyS S y).bind fun b => if SeqAt.shaped a = true ∧ SeqAt.shaped b = true then some (PyData.eqv a b) else none
noncomputable def eqop (S : Sto) (x y : Rt) : Option Bool := match x.str?, y.str? with
  | some a, some b => some (decide (a = b))
  | _, _ => eqop0 S x y
noncomputable def isN : D → Bool
  | .non => true
  | _ => false
noncomputable def isNR : Rt → Bool
  | .val d => isN d
  | _ => false
noncomputable def isop (x y : Rt) : Option Bool := match x.bl?, y.bl? with
  | some a, some b => some (decide (a = b))
  | _, _ => y.val?.bind fun b => if isN b = true then some (isNR x) else none
noncomputable def nonTup : D → Bool
  | .non => true
  | .tup _ => true
  | _ => false

noncomputable def noneIn (S : Sto) (x y : Rt) : Option Bool := x.val?.bind fun d => if isN d = true then (sview S y).bind fun ds => if ds.all nonTup = true then some (ds.any isN) else none else none

noncomputable def inop (S : Sto) (x y : Rt) : Option Bool := match x.val?.bind fun d => (sview S y).bind fun ds => inD d ds with
  | some b => some b
  | none => match noneIn S x y with
   | some b => some b
   | none => (pyS S x).bind fun d => (pyS S y).bind fun q => match q with
    | .list ds => if SeqAt.shaped d = true ∧ SeqAt.shaped (.list ds) = true then some (ds.any fun z => PyData.eqv z d) else none
    | .tuple ds => if SeqAt.shaped d = true ∧ SeqAt.shaped (.tuple ds) = true then some (ds.any fun z => PyData.eqv z d) else none
    | _ => none
noncomputable def isLt : COp → Bool
  | .lt => true
  | _ => false

noncomputable def ordop (o : COp) (x y : Rt) : Option Bool := match x.int?, y.int? with
  | some i, some j => some (cmpI o i j)
  | _, _ => if isLt o = true then (x.tup?.bind ints?).bind fun is => (y.tup?.bind ints?).map fun js => HT.lexLt is js else none
noncomputable def cmpop (S : Sto) (o : COp) (x y : Rt) : Option Bool :=
  match o with
  | .eq => eqop S x y
  | .ne => (eqop S x y).map fun b => !b
  | .is => isop x y
  | .isnot => (isop x y).map fun b => !b
  | .isin => inop S x y
  | .notin => (inop S x y).map fun b => !b
  | o => ordop o x y

noncomputable def iview (S : Sto) : Rt → Option (List D)
  | .val (.str s) => if s.length ≤ sizeLine then some (s.cps.toList.map fun c => .str ⟨#[c]⟩) else none
  | r => sview S r
noncomputable def index (S : Sto) (x : Rt) (i : Rt) : Option D := i.int?.bind fun k => (iview S x).bind fun ds => atI ds k
noncomputable def cutD (xs : List D) (lo hi : Option Int) : List D := (xs.drop (HT.sIx xs.length 0 lo)).take (HT.sIx xs.length xs.length hi - HT.sIx xs.length 0 lo)
noncomputable def slice (S : Sto) (x : Rt) (lo hi : Option Int) : Option Rt :=
  match x.tup? with
  | some ds => some (.val (.tup (cutD ds lo hi)))
  | none => (lview S x).map fun ds => .own (cutD ds lo hi)
noncomputable def maxI : Int → List Int → Int
  | m, [] => m
  | m, x :: r => maxI (if x > m then x else m) r
noncomputable def minI : Int → List Int → Int
  | m, [] => m
  | m, x :: r => minI (if x < m then x else m) r
noncomputable def insI (x : Int) : List Int → List Int
  | [] => [x]
  | y :: r => if x ≤ y then x :: y :: r else y :: insI x r
noncomputable def sortI : List Int → List Int
  | [] => []
  | x :: r => insI x (sortI r)
noncomputable def tyD : D → Ty → Bool
  | .bl _, t => t = .bool || t = .int
  | .int _, t => t = .int
  | .str _, t => t = .str
  | .tup _, t => t = .tuple
  | .lst _, t => t = .list
  | .scr _, t => t = .list
  | .ref _, t => t = .list
  | .dct _ _, _ => false
  | .non, _ => false
noncomputable def D.key? : D → Option Key
  | .int i => some (.inl i)
  | .str x => some (.inr x)
  | _ => none

noncomputable def Rt.exV : Rt → Option (List D)
  | .own ds => some ds
  | .val (.tup ds) => some ds
  | _ => none
noncomputable def Rt.key? : Rt → Option Key
  | .val d => d.key?
  | _ => none
noncomputable def valD : List Key → List D → Key → Option D
  | k :: ks, d :: ds, q => if k = q then some d else valD ks ds q
  | _, _, _ => none
noncomputable def Rt.dctV? : Rt → Option (List Key × List D)
  | .val (.dct ks ds) => some (ks, ds)
  | .ownd ks ds => some (ks, ds)
  | _ => none
noncomputable def Rt.dct? (S : Sto) : Rt → Option (List Key × List D)
  | .val (.dct ks ds) => some (ks, ds)
  | .ownd ks ds => some (ks, ds)
  | .val (.ref l) => cellD S l
  | _ => none
noncomputable def D.dct? : D → Option (List Key × List D)
  | .dct ks ds => some (ks, ds)
  | _ => none
noncomputable def tyR : Rt → Ty → Bool
  | .val d, t => tyD d t
  | .own _, t => t = .list
  | .bor _, t => t = .list
  | .ownd _ _, _ => false
noncomputable def rngL (lo : Int) : Nat → List D
  | 0 => []
  | n + 1 => .int lo :: rngL (lo + 1) n
noncomputable def refD (S : Sto) : Rt → Bool
  | .val (.ref l) => (cellL S l).isNone
  | _ => false
noncomputable def bi1 (S : Sto) (b : BI) (r : Rt) : Option Rt :=
  match b with
  | .abs => r.int?.map fun i => .val (.int (if i < 0 then -i else i))
  | .int => match r.int?, r.bl? with
    | some i, _ => some (.val (.int i))
    | none, some k => some (.val (.int (if k then 1 else 0)))
    | none, none => none
  | .len => match r.str? with
    | some x => if x.length ≤ sizeLine then some (.val (.int x.length)) else none
    | none => (sview S r).map fun ds => .val (.int ds.length)
  | .all => (lview S r).bind fun ds => (bls? ds).map fun bs => .val (.bl (bs.all id))
  | .any => (lview S r).bind fun ds => (bls? ds).map fun bs => .val (.bl (bs.any id))
  | .sum => (sview S r).bind fun ds => (ints? ds).map fun is => .val (.int is.sum)
  | .max => (sview S r).bind fun ds => (ints? ds).bind fun is => match is with
    | [] => none
    | i :: is => some (.val (.int (maxI i is)))
  | .min => (sview S r).bind fun ds => (ints? ds).bind fun is => match is with
    | [] => none
    | i :: is => some (.val (.int (minI i is)))
  | .sorted => (lview S r).bind fun ds => (ints? ds).map fun is => .own ((sortI is).map .int)
  | .str => match r.str? with
    | some x => some (.val (.str x))
    | none => (pyR r).bind fun p => if p.showable = true ∧ p.hasDict = false ∧ p.depth ≤ 64 ∧ p.shown.length ≤ sizeLine then some (.val (.str p.shown)) else none
  | .list => (sview S r).map fun ds => .own ds
  | .tuple => match r.tup? with
    | some ds => some (.val (.tup ds))
    | none => (lview S r).map fun ds => .val (.tup ds)
  | .isi1 t => if refD S r = true then none else some (.val (.bl (tyR r t)))
  | .isi ts => if refD S r = true then none else some (.val (.bl (ts.any fun t => tyR r t)))
  | _ => none
noncomputable def bi2 (b : BI) (i j : Int) : Option Rt :=
  match b with
  | .max => some (.val (.int (if j > i then j else i)))
  | .min => some (.val (.int (if j < i then j else i)))
  | .divmod => if 0 < j ∧ j < 1073741824 then some (.val (.tup [.int (i / j), .int (i % j)])) else none
  | _ => none
noncomputable def biop (S : Sto) (b : BI) (xs : List Rt) : Option Rt :=
  match xs with
  | [r] => bi1 S b r
  | [r, t] => r.int?.bind fun i => t.int?.bind fun j => bi2 b i j
  | _ => none
noncomputable def enmL (lo : Nat) : List D → List D
  | [] => []
  | d :: ds => .tup [.int lo, d] :: enmL (lo + 1) ds
noncomputable def zipL : List D → List D → List D
  | a :: as, b :: bs => .tup [a, b] :: zipL as bs
  | _, _ => []
noncomputable def inRng (i : Int) : Prop := -(2 ^ 62) ≤ i ∧ i < 2 ^ 62
instance (i : Int) : Decidable (inRng i) := by unfold inRng; infer_instance


noncomputable def still (b : Bool) : Rt → Option (List D)
  | .val (.tup ds) => some ds
  | .val (.lst ds) => some ds
  | .val (.scr ds) => some ds
  | .own ds => some ds
  | .bor ds => if b then some ds else none
  | _ => none

noncomputable def strs? : List D → Option (List Str)
  | [] => some []
  | .str i :: r => (strs? r).map fun is => i :: is
  | _ => none

noncomputable def uniq : List Int → List Int
  | [] => []
  | x :: r => if x ∈ r then uniq r else x :: uniq r

noncomputable def tints? : List D → Option (List (List Int))
  | [] => some []
  | .tup xs :: r => (ints? xs).bind fun is => (tints? r).map fun tss => is :: tss
  | _ => none
noncomputable def prs? : List D → Option (List (Int × List Int))
  | [] => some []
  | .tup [.int n, .tup xs] :: r => (ints? xs).bind fun is => (prs? r).map fun tss => (n, is) :: tss
  | _ => none

noncomputable def minT (t : List Int) : List (List Int) → List Int
  | [] => t
  | y :: ys => minT (if HT.lexLt y t = true then y else t) ys

noncomputable def ubl (bs : List Bool) : Nat := (if true ∈ bs then 1 else 0) + (if false ∈ bs then 1 else 0)
noncomputable def P1.run (G : List D) (S : Sto) : P1 → Rt → Option (Rt × Sto)
  | .lrng, r => r.int?.bind fun j => if 0 ≤ j ∧ j ≤ 100000 then some (.own (rngL 0 j.toNat), S) else none
  | .rev, r => match r.tup? with
    | some ds => some (.val (.tup ds.reverse), S)
    | none => (lview S r).map fun ds => (.own ds.reverse, S)
  | .sset, r => (sview S r).bind fun ds => (ints? ds).bind fun is => if is.length ≤ 1000 ∧ (uniq is).length < 64 then some (.own ((sortI (uniq is)).map .int), S) else none
  | .lset, r => (sview S r).bind fun ds => (ints? ds).bind fun is => if is.length ≤ 1000 ∧ (uniq is).length < 64 then some (.val (.int (uniq is).length), S) else none
  | .lsetb, r => (lview S r).bind fun ds => (bls? ds).bind fun is => if is.length ≤ 1000 then some (.val (.int (ubl is)), S) else none
  | .mint, r => (lview S r).bind fun ds => (tints? ds).bind fun tss => match tss with
    | [] => none
    | t :: ts => some (.val (.tup ((minT t ts).map .int)), S)
  | .lpop, r => r.ref?.bind fun l => (cellL S l).bind fun ds => ds.getLast?.map fun d => (.val d, S.set l (.lst ds.dropLast))
  | .revr, r => r.ref?.bind fun l => (cellL S l).map fun ds => (.val .non, S.set l (.lst ds.reverse))
  | .sprs, r => (lview S r).bind fun ds => (prs? ds).map fun ps => (.own ((ps.mergeSort leP).map prD), S)
  | .trev, r => (lview S r).map fun ds => (.val (.tup ds.reverse), S)
  | .trng, r => r.int?.bind fun j => if 0 ≤ j ∧ j ≤ 100000 then some (.val (.tup (rngL 0 j.toNat)), S) else none
  | .lenm, r => (lview S r).bind fun ds => if ds.length ≤ sizeLine then some (.own (enmL 0 ds), S) else none
  | .intt, r => r.str?.bind fun a => if a.length ≤ 640 then (PySem.intText? a).map fun n => (.val (.int n), S) else none
  | .repr, r => match r.str? with
    | some _ => none
    | none => (pyR r).bind fun p => if p.showable = true ∧ p.hasDict = false ∧ p.depth ≤ 64 ∧ p.shown.length ≤ sizeLine then some (.val (.str p.shown), S) else none
  | .gget j, r => (G[j]?).bind fun d => d.dct?.bind fun t => r.str?.bind fun k => (valD t.1 t.2 (.inr k)).map fun x => (.val x, S)
  | .gin n j, r => (G[j]?).bind fun d => d.dct?.bind fun t => r.str?.map fun k => (.val (.bl (xor n (valD t.1 t.2 (.inr k)).isSome)), S)

noncomputable def setD : List Key → List D → Key → D → List D
  | k :: ks, d :: ds, q, v => (if k = q then v else d) :: setD ks ds q v
  | _, _, _, _ => []
noncomputable def putD (ks : List Key) (ds : List D) (q : Key) (v : D) : List Key × List D := if (ks.any fun k => decide (k = q)) = true then (ks, setD ks ds q v) else (ks ++ [q], ds ++ [v])

noncomputable def keysD : List D → Option (List Key)
  | [] => some []
  | d :: ds => d.key?.bind fun k => (keysD ds).map fun ks => k :: ks
noncomputable def keyD : Key → D
  | .inl i => .int i
  | .inr x => .str x

noncomputable def mergeD (t : List Key × List D) : List Key → List D → List Key × List D
  | k :: ks, d :: ds => mergeD (putD t.1 t.2 k d) ks ds
  | _, _ => t

noncomputable def P2.pre (S : Sto) : P2 → Rt → Bool
  | .rpop, .val (.ref l) => (cellL S l).isSome
  | .rpop, _ => false
  | .count, r => (lview S r).isSome
  | .index, r => (lview S r).isSome
  | .upd, .val (.ref l) => (cellD S l).isSome
  | .upd, _ => false
  | .apr, .val (.ref l) => (cellL S l).isSome
  | .apr, _ => false
  | .exr, .val (.ref l) => (cellL S l).isSome
  | .exr, _ => false
  | _, _ => true
noncomputable def P2.run (G : List D) (S : Sto) : P2 → Rt → Rt → Option (Rt × Sto)
  | .rpop, r, i => r.ref?.bind fun l => i.int?.bind fun k => (cellL S l).bind fun ds => if -(2 ^ 63) ≤ k ∧ k < 2 ^ 63 then (seqIndex? k ds.length).bind fun j => (ds[j]?).map fun d => (.val d, S.set l (.lst (ds.eraseIdx j))) else none
  | .mxd, r, d => (lview S r).bind fun ds => (ints? ds).bind fun is => d.val?.map fun x => (match is with
    | [] => .val x
    | i :: is => .val (.int (maxI i is)), S)
  | .mnd, r, d => (lview S r).bind fun ds => (ints? ds).bind fun is => d.val?.map fun x => (match is with
    | [] => .val x
    | i :: is => .val (.int (minI i is)), S)
  | .split, r, d => r.str?.bind fun a => d.str?.bind fun b => if (b.length == 0) = false ∧ a.length + 2 ≤ sizeLine then some (.own ((Txt.split a b).map .str), S) else none
  | .join, r, d => r.str?.bind fun a => (sview S d).bind fun ds => (strs? ds).bind fun ys => if (ys.map fun y => y.length + a.length).sum ≤ 16777216 then some (.val (.str (Txt.join a ys)), S) else none
  | .gg2 j, r, e => (G[j]?).bind fun d => d.dct?.bind fun t => r.str?.bind fun k => e.val?.map fun e => (.val ((valD t.1 t.2 (.inr k)).getD e), S)
  | .count, r, d => (lview S r).bind fun ds => d.val?.bind fun x => if flatD x = true ∧ ds.all flatD = true then some (.val (.int ((ds.map vOf).countP fun z => eqV z (vOf x))), S) else none
  | .index, r, d => (lview S r).bind fun ds => d.val?.bind fun x => if flatD x = true ∧ ds.all flatD = true then ((ds.map vOf).findIdx? fun z => eqV z (vOf x)).map fun (j : Nat) => (.val (.int j), S) else none
  | .lrng2, a, b => a.int?.bind fun i => b.int?.bind fun j => if 0 ≤ i ∧ i ≤ j ∧ j ≤ 100000 then some (.own (rngL i (j - i).toNat), S) else none
  | .dzip, a, b => (sview S a).bind fun as => (keysD as).bind fun ks => (sview S b).bind fun bs => if ks.Nodup ∧ ks.length = bs.length ∧ ks.length ≤ 1000 then some (.ownd ks bs, S) else none
  | .upd, a, b => a.ref?.bind fun l => (cellD S l).bind fun t => b.dctV?.bind fun u => if t.1.length + u.1.length ≤ 1000000 then some (.val .non, S.set l (.dct (mergeD t u.1 u.2).1 (mergeD t u.1 u.2).2)) else none
  | .apr, a, b => a.ref?.bind fun l => (cellL S l).bind fun ds => b.val?.bind fun d => if ds.length < sizeLine then some (.val .non, S.set l (.lst (ds ++ [d]))) else none
  | .exr, a, b => a.ref?.bind fun l => (cellL S l).bind fun ds => b.exV.bind fun ys => if ds.length + ys.length ≤ sizeLine then some (.val .non, S.set l (.lst (ds ++ ys))) else none
  | .sidx, a, b => a.str?.bind fun a => b.str?.bind fun b => ((Builtin.Str.occurrences a b 0 a.length 1).head?).map fun (j : Nat) => (.val (.int j), S)
  | .sin n, a, b => a.str?.bind fun a => b.str?.map fun b => (.val (.bl (xor n (!(Builtin.Str.occurrences b a 0 b.length 1).isEmpty))), S)
  | .sws, a, b => a.str?.bind fun a => b.str?.map fun b => (.val (.bl (Txt.startswith a b)), S)
  | .stc, a, b => a.str?.bind fun a => b.str?.bind fun b => if a.length ≤ sizeLine then some (.val (.str (Txt.stripChars a b)), S) else none
  | .inr n, a, b => a.int?.bind fun i => b.int?.bind fun j => if inRng j then some (.val (.bl (xor n (decide (0 ≤ i ∧ i < j)))), S) else none
noncomputable def P3.run (S : Sto) : P3 → Rt → Rt → Rt → Option (Rt × Sto)
  | .mx3, a, b, c => a.int?.bind fun i => b.int?.bind fun j => c.int?.map fun k => (.val (.int (maxI i [j, k])), S)
  | .get, d, k, f => d.dctV?.bind fun t => k.key?.bind fun q => f.val?.map fun e => (.val ((valD t.1 t.2 q).getD e), S)

noncomputable def Rt.lend : Rt → Option D
  | .val d => some d
  | .own ds => some (.lst ds)
  | .bor ds => some (.lst ds)
  | .ownd _ _ => none
noncomputable def lends : List Rt → Option (List D)
  | [] => some []
  | r :: rs => r.lend.bind fun d => (lends rs).map fun ds => d :: ds

noncomputable def lend1 (S : Sto) : D → Option D
  | .ref l => (cellL S l).map .lst
  | d => some d
noncomputable def lend1s (S : Sto) : List D → Option (List D)
  | [] => some []
  | d :: ds => (lend1 S d).bind fun x => (lend1s S ds).map fun r => x :: r
noncomputable def Rt.lendR (S : Sto) : Rt → Option D
  | .val (.ref l) => (cellL S l).map .lst
  | .val (.tup ds) => (lend1s S ds).map .tup
  | r => r.lend
noncomputable def lendsR (S : Sto) : List Rt → Option (List D)
  | [] => some []
  | r :: rs => (r.lendR S).bind fun d => (lendsR S rs).map fun ds => d :: ds
mutual

noncomputable def noRef : D → Bool
  | .non => true
  | .bl _ => true
  | .int _ => true
  | .str _ => true
  | .tup ds => noRefs ds
  | .lst ds => noRefs ds
  | .scr ds => noRefs ds
  | .ref _ => false
  | .dct _ ds => noRefs ds
noncomputable def noRefs : List D → Bool
  | [] => true
  | d :: ds => noRef d && noRefs ds
end

abbrev Env := List Sl

abbrev Exn := Str × Option (Str × Int)

structure Fns where
  run : Nat → List D → Sto → Option (Rt × Sto)
  xrun : Nat → List D → Sto → Option (Exn × Sto)
instance : CoeFun Fns (fun _ => Nat → List D → Sto → Option (Rt × Sto)) := ⟨Fns.run⟩

noncomputable def exnOf (c : Str) : Option Str → List D → Option Exn
  | none, [.str _] => some (c, none)
  | some f, [.str _, .int i] => some (c, some (f, i))
  | _, _ => none
noncomputable def wipeR (ρ : Env) : List Nat → Env
  | [] => ρ
  | v :: vs => (wipeR ρ vs).set v .no

noncomputable def cmpL (f : D → Sto → Option (Option D × Sto)) : List D → Sto → Option (List D × Sto)
  | [], S => some ([], S)
  | d :: ds, S => (f d S).bind fun p => (cmpL f ds p.2).map fun q => (match p.1 with | some x => x :: q.1 | none => q.1, q.2)
noncomputable def setRef (S : Sto) (l : Nat) (i : Int) (v : D) : Option Sto :=
  (cellL S l).bind fun ds => (ixN ds.length i).map fun j => S.set l (.lst (ds.set j v))
noncomputable def setDct (S : Sto) (l : Nat) (q : Key) (v : D) : Option Sto :=
  (cellD S l).bind fun t => if t.1.length < sizeLine then some (S.set l (.dct (putD t.1 t.2 q v).1 (putD t.1 t.2 q v).2)) else none

noncomputable def setAt (S : Sto) (l : Nat) (i : Rt) (v : D) : Option Sto := match cellD S l with
  | some _ => i.key?.bind fun q => setDct S l q v
  | none => i.int?.bind fun k => setRef S l k v

noncomputable def lockV (S : Sto) : Rt → Option (List D × List (Nat × List D))
  | .val (.ref l) => (cellL S l).map fun ds => (ds, [(l, ds)])
  | r => (still false r).map fun ds => (ds, [])
noncomputable def lockOk (lk : List (Nat × List D)) (S : Sto) : Prop := ∀ p, p ∈ lk → cellL S p.1 = some p.2
open Classical in
noncomputable def lockB (lk : List (Nat × List D)) (S : Sto) : Bool := decide (lockOk lk S)

noncomputable def stillL (b : Bool) (r : Rt) : Option (List D) := match r.tup? with
  | some _ => none
  | none => still b r
mutual
noncomputable def evR (Φ : Fns) (G : List D) (ρ : Env) : ME → Sto → Option (Rt × Sto)
  | .var i, S => match ρ[i]? with
    | some (.val d) => some (.val d, S)
    | _ => none
  | .bor i, S => match ρ[i]? with
    | some (.own ds) => some (.bor ds, S)
    | _ => none
  | .con d, S => some (.val d, S)
  | .glb j, S => (G[j]?).bind fun d => if d.dct?.isSome = true then none else some (.val d, S)
  | .bin o a b, S => (evR Φ G ρ a S).bind fun p => (evR Φ G ρ b p.2).bind fun q => (binop q.2 o p.1 q.1).map fun r => (r, q.2)
  | .neg a, S => (evR Φ G ρ a S).bind fun p => match p.1 with
    | .val (.int i) => some (.val (.int (-i)), p.2)
    | _ => none
  | .not a, S => (evR Φ G ρ a S).bind fun p => match p.1 with
    | .val (.bl b) => some (.val (.bl (!b)), p.2)
    | _ => none
  | .and a b, S => (evR Φ G ρ a S).bind fun p => match p.1 with
    | .val (.bl true) => evR Φ G ρ b p.2
    | .val (.bl false) => some (.val (.bl false), p.2)
    | _ => none
  | .or a b, S => (evR Φ G ρ a S).bind fun p => match p.1 with
    | .val (.bl true) => some (.val (.bl true), p.2)
    | .val (.bl false) => evR Φ G ρ b p.2
    | _ => none
  | .cmp o a b, S => (evR Φ G ρ a S).bind fun p => (evR Φ G ρ b p.2).bind fun q => (cmpop q.2 o p.1 q.1).map fun r => (.val (.bl r), q.2)
  | .chn o o' a b c, S => (evR Φ G ρ a S).bind fun p => (evR Φ G ρ b p.2).bind fun q => (cmpop q.2 o p.1 q.1).bind fun r =>
      match r with
      | false => some (.val (.bl false), q.2)
      | true => (evR Φ G ρ c q.2).bind fun t => (cmpop t.2 o' q.1 t.1).map fun r => (.val (.bl r), t.2)
  | .ite c a b, S => (evR Φ G ρ c S).bind fun p => match p.1 with
    | .val (.bl true) => evR Φ G ρ a p.2
    | .val (.bl false) => evR Φ G ρ b p.2
    | _ => none
  | .tup es, S => (evs Φ G ρ es S).bind fun p => if p.1.length ≤ sizeLine then some (.val (.tup p.1), p.2) else none
  | .lst es, S => (evs Φ G ρ es S).bind fun p => if p.1.length ≤ sizeLine then some (.own p.1, p.2) else none
  | .idx a i, S => (evR Φ G ρ a S).bind fun p => (evR Φ G ρ i p.2).bind fun q => (index q.2 p.1 q.1).map fun r => (.val r, q.2)
  | .slc a lo hi, S => (evR Φ G ρ a S).bind fun p => (evO Φ G ρ lo p.2).bind fun q => (evO Φ G ρ hi q.2).bind fun t => (slice t.2 p.1 q.1 t.1).map fun r => (r, t.2)
  | .call f es, S => (evs Φ G ρ es S).bind fun p => Φ f p.1 p.2
  | .callp f es, S => (evRs Φ G ρ es S).bind fun p => (lends p.1).bind fun ds => if noRefs ds = true then (Φ f ds []).bind fun q => q.1.val?.bind fun d => if bareT d = true then some (.val d, p.2) else none else none
  | .callr f es, S => (evRs Φ G ρ es S).bind fun p => (lendsR p.2 p.1).bind fun ds => if noRefs ds = true then (Φ f ds []).bind fun q => q.1.val?.bind fun d => if bareT d = true then some (.val d, p.2) else none else none
  | .bi b es, S => (evRs Φ G ρ es S).bind fun p => (biop p.2 b p.1).map fun r => (r, p.2)
  | .comp own t it c e, S => (evI Φ G ρ true it S).bind fun p =>
      (cmpL (fun d S => (sto Φ G t d (wipeR ρ own) S).bind fun q => (evC Φ G q.1 c q.2).bind fun r =>
        if r.1 then (evR Φ G q.1 e r.2).bind fun z => (z.1.d).map fun y => (some y, z.2) else some (none, r.2)) p.1 p.2).bind fun q =>
        if q.1.length ≤ sizeLine then some (.own q.1, q.2) else none
  | .compl own t it c e, S => (evR Φ G ρ it S).bind fun p => (lockV p.2 p.1).bind fun x =>
      (cmpL (fun d S => if lockB x.2 S = true then (sto Φ G t d (wipeR ρ own) S).bind fun q => (evC Φ G q.1 c q.2).bind fun r =>
        if r.1 then (evR Φ G q.1 e r.2).bind fun z => (z.1.d).map fun y => (some y, z.2) else some (none, r.2) else none) x.1 p.2).bind fun q =>
        if q.1.length ≤ sizeLine ∧ lockB x.2 q.2 = true then some (.own q.1, q.2) else none
  | .new e, S => (evR Φ G ρ e S).bind fun p => match p.1 with
    | .own ds => some (.val (.ref p.2.length), p.2 ++ [.lst ds])
    | .ownd ks ds => some (.val (.ref p.2.length), p.2 ++ [.dct ks ds])
    | _ => none
  | .dct ks es, S => (evs Φ G ρ es S).bind fun p => if p.1.length = ks.length ∧ ks.Nodup ∧ ks.length ≤ 15 then some (.ownd ks p.1, p.2) else none
  | .dgt d k, S => (evR Φ G ρ d S).bind fun p => (evR Φ G ρ k p.2).bind fun q => (p.1.dct? q.2).bind fun t => q.1.key?.bind fun k => (valD t.1 t.2 k).map fun r => (.val r, q.2)
  | .din n k d, S => (evR Φ G ρ k S).bind fun p => (evR Φ G ρ d p.2).bind fun q => p.1.key?.bind fun k => (q.1.dct? q.2).map fun t => (.val (.bl (xor n (valD t.1 t.2 k).isSome)), q.2)
  | .o1 p a, S => (evR Φ G ρ a S).bind fun x => p.run G x.2 x.1
  | .o2 p a b, S => (evR Φ G ρ a S).bind fun x => if p.pre x.2 x.1 = true then (evR Φ G ρ b x.2).bind fun y => p.run G y.2 x.1 y.1 else none
  | .o3 p a b c, S => (evR Φ G ρ a S).bind fun x => (evR Φ G ρ b x.2).bind fun y => (evR Φ G ρ c y.2).bind fun z => p.run z.2 x.1 y.1 z.1
  | .ndT, S => some (.val (.ref S.length), S ++ [.dctT []])
  | .ndK, S => some (.val (.ref S.length), S ++ [.dct [] []])
  | .skey1 t e, S => (evR Φ G ρ e S).bind fun p => match p.1 with
    | .own ds => (tints? ds).bind fun ts => if hasTbl p.2 t = true then some (.own ((ts.mergeSort leN).map tupI), p.2) else none
    | _ => none
  | .skey2 t i, S => match ρ[i]? with
    | some (.val (.ref l)) => (cellT S l).bind fun ks => if hasTbl S t = true ∧ ks.length ≤ 1000 then some (.own ((ks.mergeSort leL).map tupI), S) else none
    | _ => none
  | .fld c o f, S => (evR Φ G ρ o S).bind fun p => p.1.ref?.bind fun l => (cellO p.2 l).bind fun t => if t.1 = c then (valF t.2.1 t.2.2 f).map fun d => (.val d, p.2) else none
  | .meth c m f o es, S => (evR Φ G ρ o S).bind fun p => p.1.ref?.bind fun l => (cellO p.2 l).bind fun t => if t.1 = c ∧ m ∉ t.2.1 then (evs Φ G ρ es p.2).bind fun q => Φ f (.ref l :: q.1) q.2 else none
  | .make c f es, S => (evs Φ G ρ es S).bind fun p => (Φ f (.ref p.2.length :: p.1) (p.2 ++ [.obj c [] []])).bind fun q => q.1.val?.bind fun d => if isN d = true then some (.val (.ref p.2.length), q.2) else none
  | .gks j, S => (G[j]?).bind fun d => d.dct?.bind fun t => if t.1.length ≤ 1000 then some (.own (t.1.map keyD), S) else none
  | .tsl a lo hi, S => (evR Φ G ρ a S).bind fun p => (evO Φ G ρ lo p.2).bind fun q => (evO Φ G ρ hi q.2).bind fun r => p.1.str?.bind fun z => if z.length ≤ sizeLine then some (.val (.str (Txt.slice z q.1 r.1)), r.2) else none
  | .isx1 c a, S => (evR Φ G ρ a S).bind fun p => p.1.ref?.bind fun l => (cellE p.2 l).map fun t => (.val (.bl (subX t.1 c)), p.2)
  | .isx cs a, S => (evR Φ G ρ a S).bind fun p => p.1.ref?.bind fun l => (cellE p.2 l).map fun t => (.val (.bl (cs.any fun c => subX t.1 c)), p.2)
  | .xf f a, S => (evR Φ G ρ a S).bind fun p => p.1.ref?.bind fun l => (cellE p.2 l).bind fun t => t.2.bind fun q => if q.1 = f then some (.val (.int q.2), p.2) else none

noncomputable def evs (Φ : Fns) (G : List D) (ρ : Env) : MEs → Sto → Option (List D × Sto)
  | .nil, S => some ([], S)
  | .cons e es, S => (evR Φ G ρ e S).bind fun p => (p.1.d).bind fun d => (evs Φ G ρ es p.2).map fun q => (d :: q.1, q.2)
noncomputable def evRs (Φ : Fns) (G : List D) (ρ : Env) : MEs → Sto → Option (List Rt × Sto)
  | .nil, S => some ([], S)
  | .cons e es, S => (evR Φ G ρ e S).bind fun p => (evRs Φ G ρ es p.2).map fun q => (p.1 :: q.1, q.2)
noncomputable def evO (Φ : Fns) (G : List D) (ρ : Env) : MO → Sto → Option (Option Int × Sto)
  | .no, S => some (none, S)
  | .yes e, S => (evR Φ G ρ e S).bind fun p => match p.1 with
    | .val (.int i) => some (some i, p.2)
    | _ => none
noncomputable def evC (Φ : Fns) (G : List D) (ρ : Env) : MO → Sto → Option (Bool × Sto)
  | .no, S => some (true, S)
  | .yes e, S => (evR Φ G ρ e S).bind fun p => match p.1 with
    | .val (.bl i) => some (i, p.2)
    | _ => none
noncomputable def evI (Φ : Fns) (G : List D) (ρ : Env) (z : Bool) : MI → Sto → Option (List D × Sto)
  | .rng1 a, S => (evR Φ G ρ a S).bind fun p => p.1.int?.bind fun j => if inRng j then some (rngL 0 j.toNat, p.2) else none
  | .rng2 a b, S => (evR Φ G ρ a S).bind fun p => (evR Φ G ρ b p.2).bind fun q => p.1.int?.bind fun i => q.1.int?.bind fun j => if inRng i ∧ inRng j then some (rngL i (j - i).toNat, q.2) else none
  | .rngd a b, S => (evR Φ G ρ a S).bind fun p => (evR Φ G ρ b p.2).bind fun q => p.1.int?.bind fun i => q.1.int?.bind fun j => if inRng i ∧ inRng j then some ((rngL (j + 1) (i - j).toNat).reverse, q.2) else none
  | .rrng a, S => (evR Φ G ρ a S).bind fun p => p.1.int?.bind fun j => if inRng j then some ((rngL 0 j.toNat).reverse, p.2) else none
  | .rrev e, S => (evR Φ G ρ e S).bind fun p => (stillL z p.1).bind fun ds => some (ds.reverse, p.2)
  | .seq e, S => (evR Φ G ρ e S).bind fun p => (still z p.1).bind fun ds => some (ds, p.2)
  | .enm e, S => (evR Φ G ρ e S).bind fun p => (still z p.1).bind fun ds => some (enmL 0 ds, p.2)
  | .zip a b, S => (evR Φ G ρ a S).bind fun p => (evR Φ G ρ b p.2).bind fun q => (still z p.1).bind fun xs => (still z q.1).bind fun ys => some (zipL xs ys, q.2)
  | .gky j, S => (G[j]?).bind fun d => d.dct?.map fun t => (t.1.map keyD, S)
  | .chs e, S => (evR Φ G ρ e S).bind fun p => p.1.str?.map fun z => (z.cps.toList.map fun c => .str ⟨#[c]⟩, p.2)

noncomputable def sto (Φ : Fns) (G : List D) : MT → D → Env → Sto → Option (Env × Sto)
  | .nm i, d, ρ, S => if i < ρ.length then some (ρ.set i (.val d), S) else none
  | .sub o i, d, ρ, S => (evR Φ G ρ o S).bind fun p => (evR Φ G ρ i p.2).bind fun q => p.1.ref?.bind fun l => (setAt q.2 l q.1 d).map fun S' => (ρ, S')
  | .tp ts, d, ρ, S => match d with
    | .tup ds => stos Φ G ts ds ρ S
    | .ref l => (cellL S l).bind fun ds => stos Φ G ts ds ρ S
    | _ => none
  | .cut o n, d, ρ, S => (evR Φ G ρ o S).bind fun p => p.1.ref?.bind fun l => (cellL p.2 l).bind fun xs => match d with
    | .lst ds => if n ≤ xs.length ∧ xs.length + ds.length ≤ sizeLine ∧ n < 1000 then some (ρ, p.2.set l (.lst (ds ++ xs.drop n))) else none
    | _ => none
  | .key i j, d, ρ, S => match ρ[i]?, ρ[j]? with
    | some (.val (.ref l)), some (.val (.tup ds)) => (cellT S l).bind fun ks => (ints? ds).bind fun k => if ks.length < 1000 ∧ d.bl? = some true then some (ρ, S.set l (.dctT (if k ∈ ks then ks else ks ++ [k]))) else none
    | _, _ => none
noncomputable def stos (Φ : Fns) (G : List D) : MTs → List D → Env → Sto → Option (Env × Sto)
  | .nil, ds, ρ, S => match ds with
    | [] => some (ρ, S)
    | _ => none
  | .cons t ts, ds, ρ, S => match ds with
    | [] => none
    | d :: ds => (sto Φ G t d ρ S).bind fun p => stos Φ G ts ds p.1 p.2
end

mutual
noncomputable def evX (Φ : Fns) (G : List D) (ρ : Env) : ME → Sto → Option (Exn × Sto)
  | .call f es, S => match evs Φ G ρ es S with
    | some p => (match Φ f p.1 p.2 with
      | some _ => none
      | none => Φ.xrun f p.1 p.2)
    | none => evXs Φ G ρ es S
  | .meth c m f o es, S => match evR Φ G ρ o S with
    | some p => p.1.ref?.bind fun l => (cellO p.2 l).bind fun t => if t.1 = c ∧ m ∉ t.2.1 then (match evs Φ G ρ es p.2 with
      | some q => (match Φ f (.ref l :: q.1) q.2 with
        | some _ => none
        | none => Φ.xrun f (.ref l :: q.1) q.2)
      | none => evXs Φ G ρ es p.2) else none
    | none => none
  | .tup es, S => match evs Φ G ρ es S with
    | some _ => none
    | none => evXs Φ G ρ es S
  | .bin _ a b, S => match evR Φ G ρ a S with
    | some p => (match evR Φ G ρ b p.2 with
      | some _ => none
      | none => evX Φ G ρ b p.2)
    | none => evX Φ G ρ a S
  | .dgt d k, S => match evR Φ G ρ d S with
    | some p => (match evR Φ G ρ k p.2 with
      | some _ => none
      | none => evX Φ G ρ k p.2)
    | none => none
  | .o1 p a, S => match p with
    | .gget _ => (match evR Φ G ρ a S with
      | some _ => none
      | none => evX Φ G ρ a S)
    | _ => none
  | .ite c a b, S => match evR Φ G ρ c S with
    | some p => p.1.bl?.bind fun x => if x = true then evX Φ G ρ a p.2 else evX Φ G ρ b p.2
    | none => none
  | _, _ => none
noncomputable def evXs (Φ : Fns) (G : List D) (ρ : Env) : MEs → Sto → Option (Exn × Sto)
  | .nil, _ => none
  | .cons e es, S => match evR Φ G ρ e S with
    | some p => p.1.d.bind fun _ => evXs Φ G ρ es p.2
    | none => evX Φ G ρ e S
end

inductive SR where
  | nx (ρ : Env) (S : Sto) | rt (r : Rt) (S : Sto) | er | xn (x : Exn) (ρ : Env) (S : Sto)
noncomputable def SR.then (r : SR) (k : Env → Sto → SR) : SR := match r with
  | .nx ρ S => k ρ S
  | .rt r S => .rt r S
  | .er => .er
  | .xn x ρ S => .xn x ρ S
noncomputable def xnO (x : Option (Exn × Sto)) (ρ : Env) : SR := match x with
  | some (x, S) => .xn x ρ S
  | none => .er
noncomputable def forL (st : D → Env → Sto → Option (Env × Sto)) (body : Env → Sto → SR) : List D → Env → Sto → SR
  | [], ρ, S => .nx ρ S
  | d :: ds, ρ, S => match st d ρ S with
    | some (ρ1, S1) => (body ρ1 S1).then fun ρ2 S2 => forL st body ds ρ2 S2
    | none => .er
noncomputable def whlL (c : Env → Sto → Option (Bool × Sto)) (body : Env → Sto → SR) : Nat → Env → Sto → SR
  | 0, _, _ => .er
  | n + 1, ρ, S => match c ρ S with
    | some (true, S1) => (body ρ S1).then fun ρ2 S2 => whlL c body n ρ2 S2
    | some (false, S1) => .nx ρ S1
    | none => .er
noncomputable def bindE (r : Option (Rt × Sto)) (k : Rt → Sto → SR) : SR := match r with
  | some (r, S) => k r S
  | none => .er
noncomputable def bindD (r : Option (Rt × Sto)) (k : D → Sto → SR) : SR := match r with
  | some (r, S) => match r.d with
    | some d => k d S
    | none => .er
  | none => .er

noncomputable def bindEX (x : Option (Exn × Sto)) (ρ : Env) (r : Option (Rt × Sto)) (k : Rt → Sto → SR) : SR := match r with
  | some (r, S) => k r S
  | none => xnO x ρ
noncomputable def bindDX (x : Option (Exn × Sto)) (ρ : Env) (r : Option (Rt × Sto)) (k : D → Sto → SR) : SR := match r with
  | some (r, S) => match r.d with
    | some d => k d S
    | none => .er
  | none => xnO x ρ

noncomputable def clrX (i : Nat) (r : SR) : SR := match r with
  | .nx ρ S => .nx (ρ.set i .no) S
  | .rt r S => .rt r S
  | .er => .er
  | .xn _ _ _ => .er
noncomputable def slOf (o : Bool) (r : Rt) : Option Sl := match o, r with
  | true, .own ds => some (.own ds)
  | false, r => r.d.map .val
  | _, _ => none
noncomputable def evIL (Φ : Fns) (G : List D) (ρ : Env) : MI → Sto → Option (List D × List (Nat × List D) × Sto)
  | .seq e, S => (evR Φ G ρ e S).bind fun p => (lockV p.2 p.1).map fun x => (x.1, x.2, p.2)
  | .zip a b, S => (evR Φ G ρ a S).bind fun p => (evR Φ G ρ b p.2).bind fun q => (lockV q.2 p.1).bind fun x => (lockV q.2 q.1).map fun y => (zipL x.1 y.1, x.2 ++ y.2, q.2)
  | _, _ => none
open Classical in
noncomputable def forLk (lk : List (Nat × List D)) (st : D → Env → Sto → Option (Env × Sto)) (body : Env → Sto → SR) : List D → Env → Sto → SR
  | [], ρ, S => if lockOk lk S then .nx ρ S else .er
  | d :: ds, ρ, S => if lockOk lk S then (match st d ρ S with
    | some (ρ1, S1) => (body ρ1 S1).then fun ρ2 S2 => forLk lk st body ds ρ2 S2
    | none => .er) else .er
noncomputable def nxO (r : Option (Env × Sto)) : SR := match r with
  | some (ρ, S) => .nx ρ S
  | none => .er
mutual
noncomputable def ex (Φ : Fns) (G : List D) : MS → Env → Sto → SR
  | .asg t e, ρ, S => bindDX (evX Φ G ρ e S) ρ (evR Φ G ρ e S) fun d S => nxO (sto Φ G t d ρ S)
  | .own i e, ρ, S => bindEX (evX Φ G ρ e S) ρ (evR Φ G ρ e S) fun r S => match r with
    | .own ds => if i < ρ.length then .nx (ρ.set i (.own ds)) S else .er
    | _ => .er
  | .par i j oj a b, ρ, S => bindD (evR Φ G ρ a S) fun x S => bindE (evR Φ G ρ b S) fun r S => match slOf oj r with
    | some y => if i < ρ.length ∧ j < ρ.length ∧ i ≠ j then .nx ((ρ.set i (.val x)).set j y) S else .er
    | none => .er
  | .par3 i j l a b c, ρ, S => bindD (evR Φ G ρ a S) fun x S => bindD (evR Φ G ρ b S) fun y S => bindD (evR Φ G ρ c S) fun z S =>
    if i < ρ.length ∧ j < ρ.length ∧ l < ρ.length ∧ i ≠ j ∧ i ≠ l ∧ j ≠ l then .nx (((ρ.set i (.val x)).set j (.val y)).set l (.val z)) S else .er
  | .aug i o e, ρ, S => match ρ[i]? with
    | some (.val (.int k)) => bindD (evR Φ G ρ e S) fun d S => match o, d with
      | .add, .int j => .nx (ρ.set i (.val (.int (k + j)))) S
      | .sub, .int j => .nx (ρ.set i (.val (.int (k - j)))) S
      | _, _ => .er
    | _ => .er
  | .app i e, ρ, S => match ρ[i]? with
    | some (.own ds) => bindD (evR Φ G ρ e S) fun d S => if ds.length < sizeLine then .nx (ρ.set i (.own (ds ++ [d]))) S else .er
    | _ => .er
  | .ext i e, ρ, S => match ρ[i]? with
    | some (.own ds) => bindE (evR Φ G ρ e S) fun r S => match r.exV with
      | some ys => if ds.length + ys.length ≤ sizeLine then .nx (ρ.set i (.own (ds ++ ys))) S else .er
      | none => .er
    | _ => .er
  | .rev i, ρ, S => match ρ[i]? with
    | some (.own ds) => .nx (ρ.set i (.own ds.reverse)) S
    | _ => .er
  | .sown i a e, ρ, S => bindD (evR Φ G ρ e S) fun d S => match ρ[i]? with
    | some (.own ds) => bindE (evR Φ G ρ a S) fun r S => match r with
      | .val (.int k) => match ixN ds.length k with
        | some j => .nx (ρ.set i (.own (ds.set j d))) S
        | none => .er
      | _ => .er
    | _ => .er
  | .pops t i, ρ, S => match ρ[i]? with
    | some (.own ds) => match ds.getLast? with
      | some d => nxO (sto Φ G t d (ρ.set i (.own ds.dropLast)) S)
      | none => .er
    | _ => .er
  | .ite c a b, ρ, S => bindE (evR Φ G ρ c S) fun r S => match r with
    | .val (.bl true) => exs Φ G a ρ S
    | .val (.bl false) => exs Φ G b ρ S
    | _ => .er
  | .forr t it b, ρ, S => match evI Φ G ρ false it S with
    | some (ds, S) => forL (fun d ρ S => sto Φ G t d ρ S) (fun ρ S => exs Φ G b ρ S) ds ρ S
    | none => .er
  | .whl n c b, ρ, S => whlL (fun ρ S => (evR Φ G ρ c S).bind fun p => match p.1 with
      | .val (.bl k) => some (k, p.2)
      | _ => none) (fun ρ S => exs Φ G b ρ S) n ρ S
  | .ret e, ρ, S => bindEX (evX Φ G ρ e S) ρ (evR Φ G ρ e S) fun r S => match r with
    | .bor _ => .er
    | .ownd _ _ => .er
    | r => .rt r S
  | .reto i, ρ, S => match ρ[i]? with
    | some (.own ds) => .rt (.own ds) S
    | _ => .er
  | .expr e, ρ, S => bindEX (evX Φ G ρ e S) ρ (evR Φ G ρ e S) fun _ S => .nx ρ S
  | .frz i, ρ, S => match ρ[i]? with
    | some (.own ds) => .nx (ρ.set i (.val (.lst ds))) S
    | some (.val _) => .nx ρ S
    | _ => .er
  | .setf c o f e, ρ, S => bindD (evR Φ G ρ e S) fun d S => bindE (evR Φ G ρ o S) fun r S => match r.ref?.bind fun l => (cellO S l).map fun t => (l, t) with
    | some (l, t) => if t.1 = c ∧ t.2.1.length < 1000 then .nx ρ (S.set l (.obj c (putFn t.2.1 f) (putFd t.2.1 t.2.2 f d))) else .er
    | none => .er
  | .augs i a o e, ρ, S => match ρ[i]? with
    | some (.own ds) => bindE (evR Φ G ρ a S) fun r S => match r with
      | .val (.int k) => if 0 ≤ k ∧ ixN ds.length k = some k.toNat then (match ds[k.toNat]? with
          | some (.int x) => bindD (evR Φ G ρ e S) fun d S => match o, d with
            | .add, .int y => .nx (ρ.set i (.own (ds.set k.toNat (.int (x + y))))) S
            | _, _ => .er
          | _ => .er) else .er
      | _ => .er
    | _ => .er
  | .ins i a e, ρ, S => match ρ[i]? with
    | some (.own ds) => bindE (evR Φ G ρ a S) fun r S => match r with
      | .val (.int k) => bindD (evR Φ G ρ e S) fun d S => if 0 ≤ k ∧ k < 2 ^ 63 ∧ ds.length < sizeLine then .nx (ρ.set i (.own (ds.take k.toNat ++ [d] ++ ds.drop k.toNat))) S else .er
      | _ => .er
    | _ => .er
  | .popn i a, ρ, S => match ρ[i]? with
    | some (.own ds) => bindE (evR Φ G ρ a S) fun r S => match r with
      | .val (.int k) => if -(2 ^ 63) ≤ k ∧ k < 2 ^ 63 then (match seqIndex? k ds.length with
        | some j => if j < ds.length then .nx (ρ.set i (.own (ds.eraseIdx j))) S else .er
        | none => .er) else .er
      | _ => .er
    | _ => .er
  | .sown2 i a b e1 e2, ρ, S => bindD (evR Φ G ρ e1 S) fun d1 S => bindD (evR Φ G ρ e2 S) fun d2 S => match ρ[i]? with
    | some (.own ds) => bindE (evR Φ G ρ a S) fun r S => match r with
      | .val (.int k) => match ixN ds.length k with
        | some j => bindE (evR Φ G (ρ.set i (.own (ds.set j d1))) b S) fun r S => match r with
          | .val (.int k2) => match ixN ds.length k2 with
            | some j2 => .nx (ρ.set i (.own ((ds.set j d1).set j2 d2))) S
            | none => .er
          | _ => .er
        | none => .er
      | _ => .er
    | _ => .er
  | .forl t it b, ρ, S => match evIL Φ G ρ it S with
    | some (ds, lk, S) => forLk lk (fun d ρ S => sto Φ G t d ρ S) (fun ρ S => exs Φ G b ρ S) ds ρ S
    | none => .er
  | .rse, _, _ => .er
  | .augf c o f k, ρ, S => bindE (evR Φ G ρ o S) fun r S => match r.ref?.bind fun l => (cellO S l).map fun t => (l, t) with
    | some (l, t) => if t.1 = c ∧ t.2.1.length < 1000 then (match valF t.2.1 t.2.2 f with
      | some (.int i) => .nx ρ (S.set l (.obj c (putFn t.2.1 f) (putFd t.2.1 t.2.2 f (.int (i + k)))))
      | _ => .er) else .er
    | none => .er
  | .rsx c f es, ρ, S => match evs Φ G ρ es S with
    | some p => (match exnOf c f p.1 with
      | some x => .xn x ρ p.2
      | none => .er)
    | none => .er
  | .trx c i b s, ρ, S => match exs Φ G b ρ S with
    | .xn x ρ1 S1 => if i < ρ1.length then (if subX x.1 c = true then clrX i (exs Φ G s (ρ1.set i (.val (.ref S1.length))) (S1 ++ [.err x.1 x.2])) else .xn x ρ1 S1) else .er
    | r => r
noncomputable def exs (Φ : Fns) (G : List D) : MSs → Env → Sto → SR
  | .nil, ρ, S => .nx ρ S
  | .cons s r, ρ, S => (ex Φ G s ρ S).then fun ρ S => exs Φ G r ρ S
end

structure FD where
  np : Nat
  nn : Nat
  body : MSs
noncomputable def runF (P : Nat → Option FD) (G : List D) : Nat → Fns
  | 0 => ⟨fun _ _ _ => none, fun _ _ _ => none⟩
  | k + 1 => ⟨fun f ds S => match P f with
    | some fd => if ds.length = fd.np then match exs (runF P G k) G fd.body (ds.map .val ++ List.replicate (fd.nn - ds.length) .no) S with
        | .rt r S' => some (r, S')
        | .nx _ S' => some (.val .non, S')
        | .er => none
        | .xn _ _ _ => none
      else none
    | none => none, fun f ds S => match P f with
    | some fd => if ds.length = fd.np then match exs (runF P G k) G fd.body (ds.map .val ++ List.replicate (fd.nn - ds.length) .no) S with
        | .xn x _ S' => some (x, S')
        | _ => none
      else none
    | none => none⟩
end Mi
end
noncomputable section
namespace Mi
open PySem PySem.Spec PyProof.Rows L2

noncomputable def ErrO (a : Addr) (cls : Value) (d : Option Addr) : HO := .ext fun h => ∃ (oe : Obj) (vs : Array Value), h.get? a = some oe ∧ Zc cls d oe ∧ oe.data = .fields vs
section
variable {X : Cx} {pins : List (Addr × Obj)} {σ : L2.St} {H : Hp} {s : Shared}
theorem errO_ok {P : Program} {w : World} {h : Heap} {a : Addr} {cls : Value} {d : Option Addr} {oe : Obj} {vs : Array Value} (he : h.get? a = some oe) (hz : Zc cls d oe) (hd : oe.data = .fields vs) : ObjOk P w H h a (ErrO a cls d) :=
  ⟨⟨oe, vs, he, hz, hd⟩, ⟨oe, he⟩, fun h1 h2 ⟨o, us, e, z, f⟩ k => ⟨o, us, k _ e, z, f⟩⟩
theorem errO_at {P : Program} {w : World} {h : Heap} {a : Addr} {cls : Value} {d : Option Addr} (hok : HOk P w H h) (e : H a = some (ErrO a cls d)) : ∃ (oe : Obj) (vs : Array Value), h.get? a = some oe ∧ Zc cls d oe ∧ oe.data = .fields vs := by
  have q : ObjOk P w H h a (.ext fun h => ∃ (oe : Obj) (vs : Array Value), h.get? a = some oe ∧ Zc cls d oe ∧ oe.data = .fields vs) := hok a _ e
  exact q.1

theorem inv_caught {a : Addr} {cls : Value} {d : Option Addr} {oe : Obj} {vs : Array Value} (I : Inv X pins σ H s) (he : s.heap.get? a = some oe) (hz : Zc cls d oe) (hd : oe.data = .fields vs) (na : H a = none) (h0 : X.s_0.heap.get? a = none) (nL : a ≠ X.env.locals) (nc : ∀ x c, X.env.cells.lookup x = some c → c ≠ a) (np : ∀ p ∈ X.pn ++ pins, p.1 ≠ a) : Inv (X.suite a (X.pn ++ pins)) [] σ (upd H a (ErrO a cls d)) s := by
  have st : ∀ {b : Addr} {o : Obj}, X.s_0.heap.get? b = some o → b ≠ a := fun {b o} q z => by rw [z, h0] at q; cases q
  refine ⟨I.ok.suite _ _, I.os, I.bare, ⟨I.base.keep, I.base.slot, fun b o q n x => ?_, I.base.there, fun b xs q => ?_, fun b o u q => ?_, fun b ps q => ?_⟩, I.loc, I.cell, ?_, fun x c q => ?_, fun p hp => ?_, fun b u q => ?_, I.len⟩
  · rw [upd_ne (st q)]; exact I.base.free b o q n x
  · have := I.base.tups b xs q
    rw [upd_ne fun z => by rw [z, na] at this; cases this]; exact this
  · have := I.base.frzs b o u q
    rw [upd_ne fun z => by rw [z, na] at this; cases this]; exact this
  · obtain ⟨more, this⟩ := I.base.tbls b ps q
    exact ⟨more, by rw [upd_ne fun z => by rw [z, na] at this; cases this]; exact this⟩
  · rw [upd_ne (Ne.symm nL)]; exact I.free
  · rw [upd_ne (nc x c q)]; exact I.freeC x c q
  · have hp' : p ∈ X.pn ++ pins := by rw [List.append_nil] at hp; exact hp
    obtain ⟨p1, p2, p3⟩ := I.pin p hp'
    exact ⟨p1, by rw [upd_ne (np p hp')]; exact p2, p3⟩
  · by_cases hb : b = a
    · subst hb
      rw [upd_same] at q
      cases q
      exact errO_ok he hz hd
    · rw [upd_ne hb] at q
      refine (I.hok b u q).stay (fun c o _ r => r) (fun c r => ?_) fun c xs r => ?_
      · rw [upd_ne fun z => by rw [z, na] at r; cases r]; exact r
      · rw [upd_ne fun z => by rw [z, na] at r; cases r]; exact r
theorem inv_out {a : Addr} {pn' : List (Addr × Obj)} (I : Inv (X.suite a (X.pn ++ pins)) pn' σ H s) (ok : X.Ok) : Inv X pins σ H s :=
  ⟨ok, I.os, I.bare, I.base, I.loc, I.cell, I.free, I.freeC, fun p hp => I.pin p (List.mem_append_left _ hp), I.hok, I.len⟩

noncomputable def wKeep (K : PySem.W.Frag) (c : Value) (i : Nat) (ts : Addr → TS) (Wout : WX) (D : Ends) : WX := fun cls d σ H =>
  ∃ b, PySem.W.exmOne K cls c = some b ∧ (b = true → ∀ a, H a = none → ts a { nx := fun σ' H' => D.nx (σ'.set i none) H', rt := D.rt, bk := fun σ' H' => D.bk (σ'.set i none) H', ct := fun σ' H' => D.ct (σ'.set i none) H' } (σ.set i (some (.ref a))) (upd H a (ErrO a cls d))) ∧ (b = false → Wout cls d σ H)
theorem ps_try_keep {x n : Str} {c : Value} {i : Nat} {body suite : List Stmt} {b0 : Stmt} {np pos pos' : Pos} {tb : WX → TS} {ts : Addr → TS} {Wout : WX} (hs : X.stack = X.env :: X.outer) (hf : X.env.frame = some X.env.locals) (hex : X.ex = []) (hN : X.N.Nodup) (hi : X.N[i]? = some n) (hln : X.env.kindOf n = some .local) (hc : Names X x c) (tk : Takes X Wout)
    (hb : ∀ (W : WX) (pn : List (Addr × Obj)) (xe : Value → Shared → Prop), Takes (X.tr pn xe) W → PassesOwn (model X.prog X.w) X.A X.env xe → PSs (X.tr pn xe) body (tb W)) (hsu : ∀ (a : Addr) (pn : List (Addr × Obj)), PSs (X.suite a pn) (b0 :: suite) (ts a)) :
    PS X (.Try body [.ExceptHandler (some (.Name x np)) (some n) (b0 :: suite) pos'] [] [] pos) (fun D σ H => tb (wKeep X.K c i ts Wout D) D σ H) := by
  refine ⟨fun pins s σ H D I0 h0 => ?_⟩
  have ok := I0.ok
  have frm : X.A.frames = some (X.env :: X.outer) := ok.frames.trans (congrArg some hs)
  obtain ⟨cl, ecl⟩ : ∃ cl : List ExceptHandler, cl = [.ExceptHandler (some (.Name x np)) (some n) (b0 :: suite) pos'] := ⟨_, rfl⟩
  rw [← ecl]
  have caught : ∀ (xe : Value → Shared → Prop) u s', XE (X.tr (X.pn ++ pins) xe) (wKeep X.K c i ts Wout D) u s' → wpAny (model X.prog X.w) X.A (noteFrame u X.env) (fun _ s2 => wpAny (model X.prog X.w) X.A (setFlight u none) (fun _ s3 => wpAny (model X.prog X.w) X.A (handleBy u X.env cl) (SP X pins D) X.xe s3) X.xe s2) X.xe s' := by
    rintro xe u s' ⟨a, B, sI, pins', σ', H', cls, d, rfl, J', nb, up, sky, na, os, ag, b, hb1, hyes, hno⟩
    have J : Inv X pins σ' H' sI := J'.ofTry ok
    refine Sky.land Zc.steady frm hf (hs ▸ sky) fun h3 fl3 up3 => ?_
    have J3 : Inv X pins σ' H' { s' with heap := h3 } := J.landed nb fl3.1 (up.trans up3) os ag
    obtain ⟨oe3, vs3, he3, hz3, hd3⟩ := fl3.there
    have nfr : a ∉ frs (X.env :: X.outer) := fun hm => by
      obtain ⟨_, o', e', hnf⟩ := fl3.2.2.1.mem hm
      rw [he3] at e'; cases e'
      exact hnf _ hd3
    have nI : sI.heap.get? a = none := by
      cases q : sI.heap.get? a with
      | none => rfl
      | some o =>
        have z := nb a o q (show a ∉ frs X.stack by rw [hs]; exact nfr)
        rw [fl3.2.1] at z; cases z
    have nL : a ≠ X.env.locals := fun z => nfr (List.mem_filterMap.mpr ⟨X.env, List.mem_cons_self, by rw [hf, z]⟩)
    have n0 : X.s_0.heap.get? a = none := by
      cases q : X.s_0.heap.get? a with
      | none => rfl
      | some o =>
        obtain ⟨o', z⟩ := J.base.there a o q (by rw [hex]; simp)
        rw [nI] at z; cases z
    have nc : ∀ x c, X.env.cells.lookup x = some c → c ≠ a := fun x c q z => by
      obtain ⟨v, w⟩ := J.cell x c q
      obtain ⟨o, e, _⟩ := w
      rw [z, nI] at e; cases e
    have np' : ∀ p ∈ X.pn ++ pins, p.1 ≠ a := fun p hp z => by
      have := (J.pin p hp).1
      rw [z, nI] at this; cases this
    rw [ecl]
    refine wpAny_handleBy_cons (codeAny_handlers_test ?_) (fun q => nomatch q)
    have LT : PySem.W.Looks (model X.prog X.w) h3 (typeOf (.ref a)) cls := fun _ _ _ _ k q => wpAny_typeOf_ref (k _ _ he3) (by rw [hz3.1]; exact q)
    have LM := PySem.W.exm_one (M := model X.prog X.w) J3.kIn LT hb1
    have S3 := inv_caught J3 he3 hz3 hd3 na n0 nL nc np'
    have test : ∀ {Q : Value → Shared → Prop} {E : Value → Shared → Prop}, Q c { s' with heap := h3 } → wpAny (model X.prog X.w) (X.A.mark (some (.ref a))) (eval (.Name x np) X.env) Q E { s' with heap := h3 } := fun {Q E} q => by
      obtain ⟨g1, g2, g3 | ⟨g3, g4, g5⟩⟩ := hc
      · exact ld_glob (X := X.suite a (X.pn ++ pins)) S3 g1 g3 q g2
      · exact ld_blt (X := X.suite a (X.pn ++ pins)) S3 g1 g3 g4 q g5 g2
    refine test (LM.here ?_)
    cases b with
    | true =>
      refine codeAny_handlers_suite_as ?_
      refine HandSPX.lands_againZ fl3 fun h4 fl4 up4 => ?_
      obtain ⟨oe4, vs4, he4, hz4, hd4⟩ := fl4.there
      have S4 := inv_caught (J.landed nb fl4.1 ((up.trans up3).trans up4) os ag : Inv X pins σ' H' { s' with heap := h4 }) he4 hz4 hd4 na n0 nL nc np'
      refine store_ok (X := X.suite a (X.pn ++ pins)) (v := .ref a) S4 hN hi (.inl hln) rfl (fun s5 S5 => ?_) (.inr hln)
      refine wpAny_mono ((hsu a (X.pn ++ pins)).run [] s5 _ _ _ S5 (hyes rfl a na)) (fun f s6 hsp => ?_) (fun _ _ z => z.elim)
      have fin : ∀ {σ6 : L2.St} {H6 : Hp} {Q : Shared → Prop}, Inv (X.suite a (X.pn ++ pins)) [] σ6 H6 s6 → (∀ s7, Inv X pins (σ6.set i none) H6 s7 → Q s7) → wpAny (model X.prog X.w) X.A (do bindName X.env n .none; unbindBehindTheSuite X.env n pos') (fun _ s7 => Q s7) X.xe s6 := fun S6 hq => gone_ok (inv_out S6 ok) hN hi hln hq
      cases f with
      | next => obtain ⟨σ6, H6, S6, q6⟩ := hsp; exact fin S6 fun s7 J7 => ⟨_, _, J7, q6⟩
      | brk => obtain ⟨σ6, H6, S6, q6⟩ := hsp; exact fin S6 fun s7 J7 => ⟨_, _, J7, q6⟩
      | cont => obtain ⟨σ6, H6, S6, q6⟩ := hsp; exact fin S6 fun s7 J7 => ⟨_, _, J7, q6⟩
      | ret u => obtain ⟨v6, σ6, H6, S6, r6, q6⟩ := hsp; exact fin S6 fun s7 J7 => ⟨_, _, _, J7, r6, q6⟩
    | false =>
      show wpAny _ X.A (handleBy (.ref a) X.env []) _ _ _
      refine wpAny_handleBy_nil ?_
      obtain ⟨_, _, _, oe, vs, T, oT, ts', he, _, hd, h1, _⟩ := id fl3
      unfold PySem.passOn
      refine wpAny_bind (wpAny_field he hd h1 ?_)
      rw [if_neg (show ¬ ((Value.ref T == Value.none) = true) from by simp)]
      have out : wpAny (model X.prog X.w) X.A (setFlight (.ref a) X.env.frame) (fun _ s4 => wpAny (model X.prog X.w) X.A (throw (.ref a) : Sem Flow) (SP X pins D) X.xe s4) X.xe { s' with heap := h3 } := by
        rw [hf]
        exact HandSPX.setFlight_upZ fl3 fun h4 hh4 up4 => wpAny_throw (tk _ _ ⟨a, B, sI, pins, σ', H', cls, d, rfl, J, nb, (up.trans up3).trans up4, .inr (.inr (hs.symm ▸ hh4)), na, os, ag, hno rfl⟩)
      first
        | exact wpAny_bind (wpAny_pure (wpAny_bind out))
        | exact wpAny_bind out
  subst ecl
  refine wpAny_Try_except ?_
  refine wpAny_mono ((hb (wKeep X.K c i ts Wout D) (X.pn ++ pins) _ (fun u s' xx => caught _ u s' xx) PassesOwn.looking).run [] s σ H D (I0.toTry _) h0) (fun f s1 hsp => ?_) (fun e s1 he => he)
  cases f with
  | next => obtain ⟨σ', H', J', q⟩ := hsp; exact wpAny_execs_nil ⟨σ', H', J'.ofTry ok, q⟩
  | brk => obtain ⟨σ', H', J', q⟩ := hsp; exact ⟨σ', H', J'.ofTry ok, q⟩
  | cont => obtain ⟨σ', H', J', q⟩ := hsp; exact ⟨σ', H', J'.ofTry ok, q⟩
  | ret u => obtain ⟨v, σ', H', J', r, q⟩ := hsp; exact ⟨v, σ', H', J'.ofTry ok, r, q⟩
end
end Mi
end
noncomputable section
namespace Mi
open PySem PySem.Spec PyProof.Rows L2

structure ErrC (K : PySem.W.Frag) (D : Addr) : Prop where
  cl : (PySem.W.clsIn K D).isSome = true
  ga : PySem.W.findIn K (.ref D) "__getattribute__" = some (some (.builtin "BaseException.__getattribute__"))
  gg : PySem.W.findIn K (.ref D) "__getattr__" = some none
  exC : PySem.W.subIn K (.ref D) (.type "BaseException") = some true
  ha : PySem.W.findIn K (.ref D) "__class__" = some (some (.builtin "object.__class__"))
  hn : PySem.W.specialIn K (.builtin "object.__class__") "__get__" = some (some (.builtin "getset_descriptor.__get__"))
  ht : PySem.W.takesIn K (.builtin "object.__class__") = some true
  hm : PySem.W.mroIn K D (.type "object") = some true
  hd : PySem.W.hasDictIn K D = true

noncomputable def ErrAt (K : PySem.W.Frag) (H : Hp) (a D : Addr) (d : Option Addr) (fs : List (Str × V)) : Prop := ErrC K D ∧ H a = some (ErrO a (.ref D) d) ∧ match d with
  | some dd => H dd = some (.xd fs)
  | none => fs = []
section
variable {X : Cx} {pins : List (Addr × Obj)} {σ : L2.St} {H : Hp} {s : Shared}
theorem err_inst {a D : Addr} {d : Option Addr} {fs : List (Str × V)} (I : Inv X pins σ H s) (e : ErrAt X.K H a D d fs) : ∃ (oe : Obj) (od : Option Obj), PySem.W.InstAt s.heap a oe D od ∧ ∀ f v, fs.lookup f = some v → ∃ o u, od = some o ∧ PySem.W.lookIn f o = some (some u) ∧ RelV v u := by
  obtain ⟨T, ea, ed⟩ := e
  obtain ⟨oe, vs, he, hz, hd⟩ := errO_at I.hok ea
  have hn : PySem.W.notCls oe = true := by unfold PySem.W.notCls; rw [hd] <;> rfl
  cases d with
  | none => exact ⟨oe, none, ⟨he, hz.1, hn, by rw [hz.2]; trivial⟩, fun f v q => by rw [ed] at q; cases q⟩
  | some dd =>
    have hx : ObjOk X.prog X.w H s.heap dd (.xd fs) := I.hok dd _ ed
    obtain ⟨mA, hns, hr⟩ := hx
    obtain ⟨od, ho, hl⟩ := lookIn_ns hns
    refine ⟨oe, some od, ⟨he, hz.1, hn, by rw [hz.2]; exact ho⟩, fun f v q => ?_⟩
    obtain ⟨u, hu, ru⟩ := RelO.some_of (v := v) (o := mA f) (by rw [← q]; exact hr f)
    exact ⟨od, u, rfl, by rw [hl, hu], ru⟩

theorem call_isE : CallR X (.builtin "isinstance") (fun xs H Q => ∃ (a D : Addr) (d : Option Addr) (fs : List (Str × V)) (c : V) (u : Value) (b : Bool), xs = [.ref a, c] ∧ ErrAt X.K H a D d fs ∧ ClsV c u ∧ PySem.W.kitOne X.K (.ref D) u = some b ∧ Q (.bl b) H) := by
  intro pins s σ H xs us Q I r h
  obtain ⟨a, D, d, fs, c, u, b, rfl, ea, k, e, q⟩ := h
  obtain ⟨u1, u2, rfl, r1, r2⟩ := vals2 r
  have e2 := k.eq r2
  subst e2
  cases (show u1 = Value.ref a from r1)
  obtain ⟨oe, od, J, _⟩ := err_inst I ea
  have T := ea.1
  exact PySem.W.kia_one (PySem.W.kitx_exc T.cl T.ga T.gg T.exC T.ha T.hn T.ht T.hm) I.kIn J e (fun z => nomatch z) fun tk => ⟨.bl b, H, I.tok tk, rfl, q⟩

theorem call_isET : CallR X (.builtin "isinstance") (fun xs H Q => ∃ (a D : Addr) (d : Option Addr) (fs : List (Str × V)) (tp : Addr) (cs : List V) (us : List Value) (b : Bool), xs = [.ref a, .ref tp] ∧ ErrAt X.K H a D d fs ∧ H tp = some (.tup cs) ∧ Paired ClsV cs us ∧ PySem.W.kitAny X.K (.ref D) us = some b ∧ Q (.bl b) H) := by
  intro pins s σ H xs us Q I r h
  obtain ⟨a, D, d, fs, tp, cs, ws, b, rfl, ea, hT, k, e, q⟩ := h
  obtain ⟨u1, u2, rfl, r1, r2⟩ := vals2 r
  cases (show u2 = Value.ref tp from r2)
  cases (show u1 = Value.ref a from r1)
  obtain ⟨oe, od, J, _⟩ := err_inst I ea
  have T := ea.1
  obtain ⟨_, its, rv, o, h1, h2, n, h3⟩ := (show ObjOk X.prog X.w H s.heap tp (.tup cs) from I.hok tp _ hT)
  have e3 := ClsV.all k rv
  subst e3
  obtain ⟨oc, odd, dt, sl⟩ := o
  simp only at h2 h3
  subst h2 h3
  exact PySem.W.kia_tup (PySem.W.kitx_exc T.cl T.ga T.gg T.exC T.ha T.hn T.ht T.hm) I.kIn J h1 e (fun z => nomatch z) fun tk => ⟨.bl b, H, I.tok tk, rfl, q⟩

theorem pe_errf {e : Expr} {te : TE} {pos : Pos} {n : Str} (he : PE X e te) (hb : attributeBase e n X.env (eval e X.env) = eval e X.env) :
    PE X (.Attribute e n pos) (fun σ H Q => te σ H fun x H1 => ∃ (a D : Addr) (d : Option Addr) (fs : List (Str × V)) (v : V), x = .ref a ∧ ErrAt X.K H1 a D d fs ∧ PySem.W.findIn X.K (.ref D) n = some none ∧ fs.lookup n = some v ∧ Q v H1) := by
  refine ⟨fun pins s σ H Q I h => ?_⟩
  refine attr_of hb (thn (he.run pins s σ H _ I h) fun u s1 hh => ?_)
  obtain ⟨x, H1, I1, rx, a, D, d, fs, v, ex, ea, hno, l, q⟩ := hh
  subst ex
  cases (show u = Value.ref a from rx)
  obtain ⟨oe, od, J, hl⟩ := err_inst I1 ea
  obtain ⟨o, w, rfl, h1, h2⟩ := hl n v l
  have T := ea.1
  exact HandSPX.exc_get I1.kIn J T.ga T.gg T.exC (PySem.W.findObj_own T.hd hno rfl h1) (handed_of h2) ⟨v, H1, I1.tok _, h2, q⟩
end
end Mi
end
noncomputable section
namespace Mi
open PySem L2

structure Wd where
  ms : List Addr
  fz : List Addr
  H : Hp
section
variable (K : PySem.W.Frag)

noncomputable def KL (a : Addr) (vs : List V) : Prop := ∃ (o : Obj) (its : Array Value) (n : Nat), K.lookup a = some o ∧ o.cls = .type "list" ∧ o.dict = none ∧ o.data = .seq its n ∧ its.size ≤ sizeLine ∧ Vals vs its.toList
mutual
noncomputable def Rep (W : Wd) : D → V → Prop
  | .non, v => v = .non
  | .bl b, v => v = .bl b
  | .int i, v => v = .int i
  | .str x, v => v = .str x
  | .tup ds, v => ∃ a vs, v = .ref a ∧ SqT K W.H a vs ∧ RepL W ds vs
  | .lst ds, v => ∃ a vs, v = .ref a ∧ a ∈ W.fz ∧ W.H a = some (.lst vs) ∧ RepL W ds vs
  | .scr ds, v => ∃ a vs, v = .ref a ∧ ((a ∈ W.fz ∧ Rd W.H a (.lst vs)) ∨ KL K a vs) ∧ RepL W ds vs
  | .ref l, v => ∃ a, v = .ref a ∧ W.ms[l]? = some a
  | .dct ks ds, v => ∃ a vs, v = .ref a ∧ a ∈ W.fz ∧ W.H a = some (.dK (ks.zip vs)) ∧ ks.length = ds.length ∧ RepL W ds vs
noncomputable def RepL (W : Wd) : List D → List V → Prop
  | [], vs => vs = []
  | d :: ds, vs => ∃ v r, vs = v :: r ∧ Rep W d v ∧ RepL W ds r
end

noncomputable def fnAt (K : PySem.W.Frag) (t : Tb) : Option Addr := if t.1 = "" then (match PySem.W.nsIn K mainGlobals t.2.1 with
    | some (some (.ref f)) => some f
    | _ => none)
  else match PySem.W.nsIn K mainGlobals t.1 with
    | some (some (.ref C)) => (match PySem.W.findIn K (.ref C) t.2.1 with
      | some (some (.ref f)) => some f
      | _ => none)
    | _ => none

noncomputable def TabAt (K : PySem.W.Frag) (t : Tb) (a : Addr) : Prop := ∃ (f c : Addr) (oc : Value) (od : Option Addr) (fd : FuncData) (sl : Array (Option Value)) (o : Obj) (vs : Array Value), fnAt K t = some f ∧ K.lookup f = some ⟨oc, od, .func fd, sl⟩ ∧ fd.code = .ref c ∧ K.lookup c = some o ∧ o.data = .fields vs ∧ vs[11]? = some (.ref a)

noncomputable def TabC (W : Wd) (a : Addr) (q : Str) : Prop := ∃ ps : Array Value, W.H a = some (.tbl ps) ∧ TriplesOk ps.toList ∧ ∀ (pos : Pos) (cv : Value), codeAmong pos ps.toList = some cv → ∃ c, cv = .ref c ∧ W.H c = some (LamX.CodeO c q)
noncomputable def hashT (k : List Int) : Int := reduceHash (Builtin.Tuple.tupleHashOf (k.map hashInt))
noncomputable def entT (p : List Int × Addr) : DictEntry := ⟨hashT p.1, .ref p.2, .bool true⟩

noncomputable def DctH (d : Addr) (ks : List (List Int)) (bs : List Addr) : Heap → Prop := fun h => (d == sysModules) = false ∧ ks.length = bs.length ∧ ks.Nodup ∧ ∃ o es ep, h.get? d = some o ∧ o.ExactDict ∧ o.data = .dict es ep ∧ es.toList = (ks.zip bs).map entT

noncomputable def xfs : Option (Str × Int) → List (Str × V)
  | none => []
  | some (n, i) => [(n, .int i)]

noncomputable def XSub (c : Str) (D : Addr) : Prop := (∀ (c' : Str) (C' : Addr), c' ∈ errNames → PySem.W.nsIn K mainGlobals c' = some (some (.ref C')) → PySem.W.kitOne K (.ref D) (.ref C') = some (subX c c') ∧ PySem.W.exmOne K (.ref D) (.ref C') = some (subX c c')) ∧ PySem.W.kitOne K (.ref D) (.type "ValueError") = some true

noncomputable def CellOk (W : Wd) (a : Addr) : Cell → Prop
  | .lst ds => ∃ vs, W.H a = some (.lst vs) ∧ RepL K W ds vs
  | .dct ks ds => ∃ vs, W.H a = some (.dK (ks.zip vs)) ∧ ks.length = ds.length ∧ RepL K W ds vs
  | .obj c ns ds => ∃ C dx vs, PySem.W.nsIn K mainGlobals c = some (some (.ref C)) ∧ W.H a = some (.ins C dx (ns.zip vs)) ∧ ns.length = ds.length ∧ RepL K W ds vs
  | .tbl t => TabAt K t a ∧ TabC W a t.2.2
  | .dctT ks => ∃ bs : List Addr, W.H a = some (.ext (DctH a ks bs)) ∧ RepL K W (ks.map tupI) (bs.map V.ref)
  | .err c f => ∃ D d, ErrAt K W.H a D d (xfs f) ∧ XSub K c D ∧ ∀ n i, f = some (n, i) → PySem.W.findIn K (.ref D) n = some none
structure Rel (W : Wd) (S : Sto) : Prop where
  len : W.ms.length = S.length
  nd : W.ms.Nodup
  cell : ∀ (l : Nat) (c : Cell), S[l]? = some c → ∃ a, W.ms[l]? = some a ∧ CellOk K W a c
  apart : ∀ a, a ∈ W.fz → a ∉ W.ms
  dom : ∀ a, a ∈ W.ms ∨ a ∈ W.fz → W.H a ≠ none
end
structure Ext (W W' : Wd) : Prop where
  ms : ∃ t, W'.ms = W.ms ++ t
  fz : ∀ a, a ∈ W.fz → a ∈ W'.fz
  keep : ∀ a o, W.H a = some o → a ∉ W.ms → W'.H a = some o
  dom : ∀ a, W.H a ≠ none → W'.H a ≠ none
  nms : ∀ a, a ∈ W'.ms → a ∈ W.ms ∨ W.H a = none
  nfz : ∀ a, a ∈ W'.fz → a ∈ W.fz ∨ W.H a = none
theorem Ext.refl (W : Wd) : Ext W W := ⟨⟨[], by simp⟩, fun _ h => h, fun _ _ h _ => h, fun _ h => h, fun _ h => .inl h, fun _ h => .inl h⟩
theorem Ext.free {W W' : Wd} (e : Ext W W') {a : Addr} (h : W'.H a = none) : W.H a = none := by
  cases q : W.H a with
  | none => rfl
  | some o => exact absurd h (e.dom a (by rw [q]; simp))
theorem Ext.trans {W W1 W2 : Wd} (a : Ext W W1) (b : Ext W1 W2) : Ext W W2 := by
  refine ⟨?_, fun x h => b.fz x (a.fz x h), fun x o h n => b.keep x o (a.keep x o h n) fun z => ?_, fun x h => b.dom x (a.dom x h), fun x h => ?_, fun x h => ?_⟩
  · obtain ⟨t, e⟩ := a.ms
    obtain ⟨u, e'⟩ := b.ms
    exact ⟨t ++ u, by rw [e', e, List.append_assoc]⟩
  · rcases a.nms x z with q | q
    · exact n q
    · rw [h] at q; cases q
  · rcases b.nms x h with q | q
    · exact a.nms x q
    · exact .inr (a.free q)
  · rcases b.nfz x h with q | q
    · exact a.nfz x q
    · exact .inr (a.free q)
theorem Ext.msAt {W W' : Wd} (e : Ext W W') {l : Nat} {a : Addr} (h : W.ms[l]? = some a) : W'.ms[l]? = some a := by
  obtain ⟨t, q⟩ := e.ms
  rw [q, List.getElem?_append_left (List.getElem?_eq_some_iff.mp h).1]; exact h

theorem Ext.rd {W W' : Wd} (e : Ext W W') {a : Addr} {u : HO} (h : Rd W.H a u) (n : a ∉ W.ms) : Rd W'.H a u := by
  rcases h with h | ⟨o, h⟩
  · exact .inl (e.keep a _ h n)
  · exact .inr ⟨o, e.keep a _ h n⟩
section
variable {K : PySem.W.Frag} {W W' : Wd} {S : Sto}
theorem Rel.cells (r : Rel K W S) (l : Nat) (ds : List D) (h : S[l]? = some (Cell.lst ds)) : ∃ a vs, W.ms[l]? = some a ∧ W.H a = some (.lst vs) ∧ RepL K W ds vs := by
  obtain ⟨a, e1, vs, e2, e3⟩ := r.cell l _ h
  exact ⟨a, vs, e1, e2, e3⟩
theorem Rel.celld (r : Rel K W S) (l : Nat) (ks : List Key) (ds : List D) (h : S[l]? = some (Cell.dct ks ds)) : ∃ a vs, W.ms[l]? = some a ∧ W.H a = some (.dK (ks.zip vs)) ∧ ks.length = ds.length ∧ RepL K W ds vs := by
  obtain ⟨a, e1, vs, e2, e3, e4⟩ := r.cell l _ h
  exact ⟨a, vs, e1, e2, e3, e4⟩
theorem Rel.cello (r : Rel K W S) (l : Nat) (c : Str) (ns : List Str) (ds : List D) (h : S[l]? = some (Cell.obj c ns ds)) : ∃ a C dx vs, W.ms[l]? = some a ∧ PySem.W.nsIn K mainGlobals c = some (some (.ref C)) ∧ W.H a = some (.ins C dx (ns.zip vs)) ∧ ns.length = ds.length ∧ RepL K W ds vs := by
  obtain ⟨a, e1, C, dx, vs, e2, e3, e4, e5⟩ := r.cell l _ h
  exact ⟨a, C, dx, vs, e1, e2, e3, e4, e5⟩

noncomputable def AuxO (c : Addr) (o : HO) : Prop := (∃ q, o = LamX.CodeO c q) ∨ ∃ fs, o = .xd fs
theorem CellOk.imp {a : Addr} {c : Cell} (h : CellOk K W a c) (f : ∀ o, W.H a = some o → W'.H a = some o) (g : ∀ ds vs, RepL K W ds vs → RepL K W' ds vs) (t : ∀ c o, AuxO c o → W.H c = some o → W'.H c = some o) : CellOk K W' a c := by
  cases c with
  | lst ds =>
    obtain ⟨vs, e2, e3⟩ := h
    exact ⟨vs, f _ e2, g _ _ e3⟩
  | dct ks ds =>
    obtain ⟨vs, e2, el, e3⟩ := h
    exact ⟨vs, f _ e2, el, g _ _ e3⟩
  | obj cc ns ds =>
    obtain ⟨C, dx, vs, e1, e2, el, e3⟩ := h
    exact ⟨C, dx, vs, e1, f _ e2, el, g _ _ e3⟩
  | tbl u =>
    obtain ⟨h0, ps, h1, h2, h3⟩ := h
    refine ⟨h0, ps, f _ h1, h2, fun pos cv e => ?_⟩
    obtain ⟨c, e1, e3⟩ := h3 pos cv e
    exact ⟨c, e1, t c _ (.inl ⟨_, rfl⟩) e3⟩
  | dctT ks =>
    obtain ⟨bs, h1, h2⟩ := h
    exact ⟨bs, f _ h1, g _ _ h2⟩
  | err cc ff =>
    obtain ⟨D, d, ⟨h1, h2, h3⟩, h4, h5⟩ := h
    refine ⟨D, d, ⟨h1, f _ h2, ?_⟩, h4, h5⟩
    cases d with
    | none => exact h3
    | some dd => exact t dd _ (.inr ⟨_, rfl⟩) h3
theorem code_lst {c : Addr} {q : Str} {vs : List V} : HO.lst vs ≠ LamX.CodeO c q := fun z => by unfold LamX.CodeO at z; cases z
theorem code_dK {c : Addr} {q : Str} {vs : List (Key × V)} : HO.dK vs ≠ LamX.CodeO c q := fun z => by unfold LamX.CodeO at z; cases z
theorem code_ins {c C dx : Addr} {q : Str} {vs : List (Str × V)} : HO.ins C dx vs ≠ LamX.CodeO c q := fun z => by unfold LamX.CodeO at z; cases z
theorem code_tbl {c : Addr} {q : Str} {ps : Array Value} : HO.tbl ps ≠ LamX.CodeO c q := fun z => by unfold LamX.CodeO at z; cases z
theorem code_dct {a : Addr} {q : Str} {ks : List (List Int)} {bs : List Addr} : HO.ext (DctH a ks bs) ≠ LamX.CodeO a q := fun z => by
  unfold LamX.CodeO at z
  have e := HO.ext.inj z
  have h : DctH a ks bs { objs := Array.replicate (a + 1) { cls := .none, data := .fields #[.none, .str q 0] } } := by
    rw [e]
    refine ⟨{ cls := .none, data := .fields #[.none, .str q 0] }, #[.none, .str q 0], 0, ?_, rfl, rfl⟩
    unfold Heap.get?
    rw [Array.getElem?_replicate, if_pos (Nat.lt_succ_self a)]
  obtain ⟨_, _, _, o, es, ep, ho, _, hd, _⟩ := h
  unfold Heap.get? at ho
  rw [Array.getElem?_replicate, if_pos (Nat.lt_succ_self a)] at ho
  cases ho
  cases hd
theorem code_err {a : Addr} {q : Str} {cls : Value} {d : Option Addr} : ErrO a cls d ≠ LamX.CodeO a q := fun z => by
  unfold LamX.CodeO ErrO at z
  have e := HO.ext.inj z
  have h : (fun h : Heap => ∃ (oe : Obj) (vs : Array Value), h.get? a = some oe ∧ Zc cls d oe ∧ oe.data = .fields vs) { objs := Array.replicate (a + 1) { cls := cls, dict := d, data := .fields #[] } } := by
    refine ⟨{ cls := cls, dict := d, data := .fields #[] }, #[], ?_, ⟨rfl, rfl⟩, rfl⟩
    unfold Heap.get?
    rw [Array.getElem?_replicate, if_pos (Nat.lt_succ_self a)]
  rw [e] at h
  obtain ⟨o, vs, t, ho, hd, hv⟩ := h
  unfold Heap.get? at ho
  rw [Array.getElem?_replicate, if_pos (Nat.lt_succ_self a)] at ho
  cases ho
  cases hd
  cases hv
theorem aux_no {a : Addr} {o : HO} (h : ∀ q, o ≠ LamX.CodeO a q) (x : ∀ fs, o ≠ .xd fs) : ∀ u, AuxO a u → o ≠ u := fun u h' e => by
  subst e
  rcases h' with ⟨q, e⟩ | ⟨fs, e⟩
  · exact h q e
  · exact x fs e
theorem CellOk.some {a : Addr} {c : Cell} (h : CellOk K W a c) : ∃ o, W.H a = some o ∧ (∀ vs, o ≠ .tup vs) ∧ (∀ q vs, o ≠ .frz q (.tup vs)) ∧ ∀ u, AuxO a u → o ≠ u := by
  cases c with
  | lst ds =>
    obtain ⟨vs, e2, e3⟩ := h
    exact ⟨_, e2, fun _ z => (nomatch z), fun _ _ z => (nomatch z), aux_no (fun _ => code_lst) fun _ z => nomatch z⟩
  | dct ks ds =>
    obtain ⟨vs, e2, el, e3⟩ := h
    exact ⟨_, e2, fun _ z => (nomatch z), fun _ _ z => (nomatch z), aux_no (fun _ => code_dK) fun _ z => nomatch z⟩
  | obj cc ns ds =>
    obtain ⟨C, dx, vs, e1, e2, el, e3⟩ := h
    exact ⟨_, e2, fun _ z => (nomatch z), fun _ _ z => (nomatch z), aux_no (fun _ => code_ins) fun _ z => nomatch z⟩
  | tbl u =>
    obtain ⟨h0, ps, h1, _⟩ := h
    exact ⟨_, h1, fun _ z => (nomatch z), fun _ _ z => (nomatch z), aux_no (fun _ => code_tbl) fun _ z => nomatch z⟩
  | dctT ks =>
    obtain ⟨bs, h1, _⟩ := h
    exact ⟨_, h1, fun _ z => (nomatch z), fun _ _ z => (nomatch z), aux_no (fun _ => code_dct) fun _ z => nomatch z⟩
  | err cc ff =>
    obtain ⟨D, d, ⟨_, h2, _⟩, _⟩ := h
    exact ⟨_, h2, fun _ z => (nomatch z), fun _ _ z => (nomatch z), aux_no (fun _ => code_err) fun _ z => nomatch z⟩

theorem Rel.notTup (r : Rel K W S) {a : Addr} {vs : List V} (h : Rd W.H a (.tup vs)) : a ∉ W.ms := fun z => by
  obtain ⟨l, hl⟩ := List.getElem?_of_mem z
  have hlt : l < S.length := by rw [← r.len]; exact (List.getElem?_eq_some_iff.mp hl).1
  cases hc : S[l]? with
  | none => rw [List.getElem?_eq_none_iff] at hc; omega
  | some c =>
    obtain ⟨b, e1, ok⟩ := r.cell l c hc
    rw [hl] at e1; cases e1
    obtain ⟨o, e2, n1, n2, _⟩ := ok.some
    rcases h with h | ⟨q, h⟩
    · rw [h] at e2; exact n1 _ (Option.some.inj e2).symm
    · rw [h] at e2; exact n2 _ _ (Option.some.inj e2).symm

theorem Rel.notAux (r : Rel K W S) {a : Addr} {u : HO} (hu : AuxO a u) (h : W.H a = some u) : a ∉ W.ms := fun z => by
  obtain ⟨l, hl⟩ := List.getElem?_of_mem z
  have hlt : l < S.length := by rw [← r.len]; exact (List.getElem?_eq_some_iff.mp hl).1
  cases hc : S[l]? with
  | none => rw [List.getElem?_eq_none_iff] at hc; omega
  | some c =>
    obtain ⟨b, e1, ok⟩ := r.cell l c hc
    rw [hl] at e1; cases e1
    obtain ⟨o, e2, _, _, n3⟩ := ok.some
    rw [h] at e2
    exact n3 u hu (Option.some.inj e2).symm
theorem Rel.sqT (r : Rel K W S) (e : Ext W W') {a : Addr} {vs : List V} (h : SqT K W.H a vs) : SqT K W'.H a vs := by
  rcases h with h | h
  · exact .inl (e.rd h (r.notTup h))
  · exact .inr h
mutual
theorem Rep.ext (r : Rel K W S) (e : Ext W W') : ∀ (d : D) (v : V), Rep K W d v → Rep K W' d v
  | .non, v, h => by unfold Rep at h ⊢; exact h
  | .bl _, v, h => by unfold Rep at h ⊢; exact h
  | .int _, v, h => by unfold Rep at h ⊢; exact h
  | .str _, v, h => by unfold Rep at h ⊢; exact h
  | .tup ds, v, h => by
    unfold Rep at h ⊢
    obtain ⟨a, vs, e1, e2, e3⟩ := h
    exact ⟨a, vs, e1, r.sqT e e2, RepL.ext r e ds vs e3⟩
  | .lst ds, v, h => by
    unfold Rep at h ⊢
    obtain ⟨a, vs, e1, e2, e3, e4⟩ := h
    exact ⟨a, vs, e1, e.fz a e2, e.keep a _ e3 (r.apart a e2), RepL.ext r e ds vs e4⟩
  | .scr ds, v, h => by
    unfold Rep at h ⊢
    obtain ⟨a, vs, e1, e2, e4⟩ := h
    exact ⟨a, vs, e1, e2.imp (fun z => ⟨e.fz a z.1, e.rd z.2 (r.apart a z.1)⟩) id, RepL.ext r e ds vs e4⟩
  | .ref l, v, h => by
    unfold Rep at h ⊢
    obtain ⟨a, e1, e2⟩ := h
    exact ⟨a, e1, e.msAt e2⟩
  | .dct ks ds, v, h => by
    unfold Rep at h ⊢
    obtain ⟨a, vs, e1, e2, e3, e0, e4⟩ := h
    exact ⟨a, vs, e1, e.fz a e2, e.keep a _ e3 (r.apart a e2), e0, RepL.ext r e ds vs e4⟩
theorem RepL.ext (r : Rel K W S) (e : Ext W W') : ∀ (ds : List D) (vs : List V), RepL K W ds vs → RepL K W' ds vs
  | [], vs, h => by unfold RepL at h ⊢; exact h
  | d :: ds, vs, h => by
    unfold RepL at h ⊢
    obtain ⟨v, q, e1, e2, e3⟩ := h
    exact ⟨v, q, e1, Rep.ext r e d v e2, RepL.ext r e ds q e3⟩
end
theorem RepL.nil : RepL K W [] [] := by unfold RepL; rfl
theorem RepL.cons {d : D} {ds : List D} {v : V} {vs : List V} (h : Rep K W d v) (t : RepL K W ds vs) : RepL K W (d :: ds) (v :: vs) := by
  unfold RepL; exact ⟨v, vs, rfl, h, t⟩
theorem RepL.nil_inv {vs : List V} (h : RepL K W [] vs) : vs = [] := by unfold RepL at h; exact h
theorem RepL.cons_inv {d : D} {ds : List D} {vs : List V} (h : RepL K W (d :: ds) vs) : ∃ v r, vs = v :: r ∧ Rep K W d v ∧ RepL K W ds r := by unfold RepL at h; exact h
theorem RepL.length : ∀ {ds : List D} {vs : List V}, RepL K W ds vs → vs.length = ds.length
  | [], vs, h => by rw [h.nil_inv]; rfl
  | d :: ds, vs, h => by
    obtain ⟨v, r, rfl, _, t⟩ := h.cons_inv
    simp [t.length]
theorem RepL.get : ∀ {ds : List D} {vs : List V} {i : Nat} {d : D}, RepL K W ds vs → ds[i]? = some d → ∃ v, vs[i]? = some v ∧ Rep K W d v
  | [], vs, i, d, h, e => by simp at e
  | d' :: ds, vs, 0, d, h, e => by
    obtain ⟨v, r, rfl, q, t⟩ := h.cons_inv
    simp at e; subst e; exact ⟨v, rfl, q⟩
  | d' :: ds, vs, i + 1, d, h, e => by
    obtain ⟨v, r, rfl, q, t⟩ := h.cons_inv
    simp at e
    simpa using t.get e
theorem RepL.append : ∀ {ds es : List D} {vs ws : List V}, RepL K W ds vs → RepL K W es ws → RepL K W (ds ++ es) (vs ++ ws)
  | [], _, _, _, h, t => by rw [h.nil_inv]; exact t
  | d :: ds, _, _, _, h, t => by
    obtain ⟨v, r, rfl, q, t'⟩ := h.cons_inv
    exact .cons q (t'.append t)
theorem RepL.drop : ∀ (n : Nat) {ds : List D} {vs : List V}, RepL K W ds vs → RepL K W (ds.drop n) (vs.drop n)
  | 0, _, _, h => h
  | n + 1, [], _, h => by rw [h.nil_inv]; exact .nil
  | n + 1, d :: ds, _, h => by
    obtain ⟨v, r, rfl, q, t'⟩ := h.cons_inv
    exact t'.drop n
theorem RepL.take : ∀ (n : Nat) {ds : List D} {vs : List V}, RepL K W ds vs → RepL K W (ds.take n) (vs.take n)
  | 0, _, _, _ => .nil
  | n + 1, [], _, h => by rw [h.nil_inv]; exact .nil
  | n + 1, d :: ds, _, h => by
    obtain ⟨v, r, rfl, q, t'⟩ := h.cons_inv
    exact .cons q (t'.take n)
theorem RepL.set {d : D} {v : V} (q : Rep K W d v) : ∀ (n : Nat) {ds : List D} {vs : List V}, RepL K W ds vs → RepL K W (ds.set n d) (vs.set n v)
  | _, [], _, h => by rw [h.nil_inv]; exact .nil
  | 0, e :: ds, _, h => by
    obtain ⟨w, r, rfl, _, t'⟩ := h.cons_inv
    exact .cons q t'
  | n + 1, e :: ds, _, h => by
    obtain ⟨w, r, rfl, q', t'⟩ := h.cons_inv
    exact .cons q' (t'.set q n)
theorem RepL.reverse : ∀ {ds : List D} {vs : List V}, RepL K W ds vs → RepL K W ds.reverse vs.reverse
  | [], _, h => by rw [h.nil_inv]; exact .nil
  | d :: ds, _, h => by
    obtain ⟨v, r, rfl, q, t'⟩ := h.cons_inv
    rw [List.reverse_cons, List.reverse_cons]
    exact t'.reverse.append (.cons q .nil)
theorem RepL.rep {ds : List D} {vs : List V} (h : RepL K W ds vs) : ∀ n : Nat, RepL K W (List.replicate n ds).flatten (List.replicate n vs).flatten
  | 0 => .nil
  | n + 1 => by
    rw [List.replicate_succ, List.replicate_succ, List.flatten_cons, List.flatten_cons]
    exact h.append (h.rep n)
theorem RepL.dropLast {ds : List D} {vs : List V} (h : RepL K W ds vs) : RepL K W ds.dropLast vs.dropLast := by
  rw [List.dropLast_eq_take, List.dropLast_eq_take, h.length]
  exact h.take _
theorem RepL.cut {ds : List D} {vs : List V} (h : RepL K W ds vs) (lo hi : Option Int) : RepL K W (cutD ds lo hi) (cutV vs lo hi) := by
  unfold cutD cutV
  rw [h.length]
  exact (h.drop _).take _
theorem RepL.atI {ds : List D} {vs : List V} {i : Int} {d : D} (h : RepL K W ds vs) (e : atI ds i = some d) : ∃ v, L2.atI vs i = some v ∧ Rep K W d v := by
  unfold L2.atI at e ⊢
  rw [h.length]
  cases q : ixN ds.length i with
  | none => rw [q] at e; cases e
  | some j =>
    rw [q] at e
    exact h.get e
theorem RepL.ints : ∀ {ds : List D} {is : List Int} {vs : List V}, RepL K W ds vs → ints? ds = some is → vs = is.map V.int
  | [], is, _, h, e => by rw [h.nil_inv]; cases e; rfl
  | .int i :: ds, is, _, h, e => by
    obtain ⟨v, r, rfl, q, t⟩ := h.cons_inv
    unfold ints? at e
    cases q2 : ints? ds with
    | none => rw [q2] at e; cases e
    | some js =>
      rw [q2] at e; cases e
      unfold Rep at q; subst q
      rw [t.ints q2]; rfl
  | .non :: _, _, _, _, e => by cases e
  | .bl _ :: _, _, _, _, e => by cases e
  | .str _ :: _, _, _, _, e => by cases e
  | .tup _ :: _, _, _, _, e => by cases e
  | .lst _ :: _, _, _, _, e => by cases e
  | .scr _ :: _, _, _, _, e => by cases e
  | .ref _ :: _, _, _, _, e => by cases e
  | .dct _ _ :: _, _, _, _, e => by cases e
theorem RepL.ofInts : ∀ (is : List Int), RepL K W (is.map .int) (is.map V.int)
  | [] => .nil
  | i :: is => .cons (by unfold Rep; rfl) (RepL.ofInts is)
theorem RepL.bls : ∀ {ds : List D} {is : List Bool} {vs : List V}, RepL K W ds vs → bls? ds = some is → vs = is.map V.bl
  | [], is, _, h, e => by rw [h.nil_inv]; cases e; rfl
  | .bl i :: ds, is, _, h, e => by
    obtain ⟨v, r, rfl, q, t⟩ := h.cons_inv
    unfold bls? at e
    cases q2 : bls? ds with
    | none => rw [q2] at e; cases e
    | some js =>
      rw [q2] at e; cases e
      unfold Rep at q; subst q
      rw [t.bls q2]; rfl
  | .non :: _, _, _, _, e => by cases e
  | .int _ :: _, _, _, _, e => by cases e
  | .str _ :: _, _, _, _, e => by cases e
  | .tup _ :: _, _, _, _, e => by cases e
  | .lst _ :: _, _, _, _, e => by cases e
  | .scr _ :: _, _, _, _, e => by cases e
  | .ref _ :: _, _, _, _, e => by cases e
  | .dct _ _ :: _, _, _, _, e => by cases e
theorem RepL.strs : ∀ {ds : List D} {is : List Str} {vs : List V}, RepL K W ds vs → strs? ds = some is → vs = is.map V.str
  | [], is, _, h, e => by rw [h.nil_inv]; cases e; rfl
  | .str i :: ds, is, _, h, e => by
    obtain ⟨v, r, rfl, q, t⟩ := h.cons_inv
    unfold strs? at e
    cases q2 : strs? ds with
    | none => rw [q2] at e; cases e
    | some js =>
      rw [q2] at e; cases e
      unfold Rep at q; subst q
      rw [t.strs q2]; rfl
  | .non :: _, _, _, _, e => by cases e
  | .bl _ :: _, _, _, _, e => by cases e
  | .int _ :: _, _, _, _, e => by cases e
  | .tup _ :: _, _, _, _, e => by cases e
  | .lst _ :: _, _, _, _, e => by cases e
  | .scr _ :: _, _, _, _, e => by cases e
  | .ref _ :: _, _, _, _, e => by cases e
  | .dct _ _ :: _, _, _, _, e => by cases e
theorem RepL.ofStrs : ∀ (is : List Str), RepL K W (is.map .str) (is.map V.str)
  | [] => .nil
  | i :: is => .cons (by unfold Rep; rfl) (RepL.ofStrs is)
mutual
theorem Rep.bareT {W W' : Wd} (hH : W'.H = W.H) : ∀ {d : D} {v : V}, Rep K W d v → bareT d = true → Rep K W' d v
  | .non, v, h, _ => by unfold Rep at h ⊢; exact h
  | .bl b, v, h, _ => by unfold Rep at h ⊢; exact h
  | .int i, v, h, _ => by unfold Rep at h ⊢; exact h
  | .str x, v, h, _ => by unfold Rep at h ⊢; exact h
  | .tup ds, v, h, f => by
    unfold Rep at h ⊢
    obtain ⟨a, vs, e, s, l⟩ := h
    exact ⟨a, vs, e, by rw [hH]; exact s, RepL.bareT hH l (by unfold Mi.bareT at f; exact f)⟩
  | .lst ds, v, h, f => by unfold Mi.bareT at f; cases f
  | .scr ds, v, h, f => by unfold Mi.bareT at f; cases f
  | .ref l, v, h, f => by unfold Mi.bareT at f; cases f
  | .dct ks ds, v, h, f => by unfold Mi.bareT at f; cases f
theorem RepL.bareT {W W' : Wd} (hH : W'.H = W.H) : ∀ {ds : List D} {vs : List V}, RepL K W ds vs → bareTL ds = true → RepL K W' ds vs
  | [], vs, h, _ => by unfold RepL at h ⊢; exact h
  | d :: ds, vs, h, f => by
    unfold RepL at h ⊢
    unfold bareTL at f
    rw [Bool.and_eq_true] at f
    obtain ⟨v, r, e, h1, h2⟩ := h
    exact ⟨v, r, e, Rep.bareT hH h1 f.1, RepL.bareT hH h2 f.2⟩
end
theorem Rep.flat {d : D} {v : V} (h : Rep K W d v) (f : flatD d = true) : v = vOf d ∧ flatV v = true := by
  cases d with
  | non => unfold Rep at h; subst h; exact ⟨rfl, rfl⟩
  | bl b => unfold Rep at h; subst h; exact ⟨rfl, rfl⟩
  | int b => unfold Rep at h; subst h; exact ⟨rfl, rfl⟩
  | str b => unfold Rep at h; subst h; exact ⟨rfl, rfl⟩
  | tup _ => cases f
  | lst _ => cases f
  | scr _ => cases f
  | ref _ => cases f
  | dct _ _ => cases f
theorem RepL.flat : ∀ {ds : List D} {vs : List V}, RepL K W ds vs → ds.all flatD = true → vs = ds.map vOf ∧ vs.all flatV = true
  | [], _, h, _ => by rw [h.nil_inv]; exact ⟨rfl, rfl⟩
  | d :: ds, _, h, f => by
    obtain ⟨v, r, rfl, q, t⟩ := h.cons_inv
    rw [List.all_cons, Bool.and_eq_true] at f
    obtain ⟨e1, e2⟩ := q.flat f.1
    obtain ⟨e3, e4⟩ := t.flat f.2
    refine ⟨by rw [e1, e3]; rfl, by rw [List.all_cons, e2, e4]; rfl⟩
end


section
variable (K : PySem.W.Frag)

noncomputable def RepR (W W' : Wd) (v : V) : Rt → Prop
  | .val d => Rep K W' d v
  | .own ds => ∃ p vs, v = .ref p ∧ W'.H p = some (.lst vs) ∧ p ∉ W'.ms ∧ p ∉ W'.fz ∧ W.H p = none ∧ RepL K W' ds vs
  | .bor ds => ∃ p vs, v = .ref p ∧ W'.H p = some (.lst vs) ∧ p ∉ W'.ms ∧ RepL K W' ds vs
  | .ownd ks ds => ∃ p vs, v = .ref p ∧ W'.H p = some (.dK (ks.zip vs)) ∧ ks.length = ds.length ∧ p ∉ W'.ms ∧ p ∉ W'.fz ∧ W.H p = none ∧ RepL K W' ds vs
noncomputable def SlotR (W : Wd) (σ : St) (ρ : Env) : Prop :=
  σ.length = ρ.length ∧ (∀ (i : Nat) (d : D), ρ[i]? = some (.val d) → ∃ v, σ[i]? = some (some v) ∧ Rep K W d v) ∧
  (∀ (i : Nat) (ds : List D), ρ[i]? = some (.own ds) → ∃ p vs, σ[i]? = some (some (.ref p)) ∧ W.H p = some (.lst vs) ∧ p ∉ W.ms ∧ p ∉ W.fz ∧ RepL K W ds vs) ∧
  ∀ (i j : Nat) (ds es : List D) (p : Addr), ρ[i]? = some (.own ds) → ρ[j]? = some (.own es) → σ[i]? = some (some (.ref p)) → σ[j]? = some (some (.ref p)) → i = j
end
section
variable {K : PySem.W.Frag} {W W' W2 : Wd} {S S' : Sto}
theorem SlotR.ext (r : Rel K W S) (e : Ext W W') {σ : St} {ρ : Env} (h : SlotR K W σ ρ) : SlotR K W' σ ρ := by
  refine ⟨h.1, fun i d q => ?_, fun i ds q => ?_, h.2.2.2⟩
  · obtain ⟨v, e1, e2⟩ := h.2.1 i d q
    exact ⟨v, e1, Rep.ext r e d v e2⟩
  · obtain ⟨p, vs, e1, e2, e3, e4, e5⟩ := h.2.2.1 i ds q
    refine ⟨p, vs, e1, e.keep p _ e2 e3, fun z => ?_, fun z => ?_, RepL.ext r e ds vs e5⟩
    · rcases e.nms p z with q | q
      · exact e3 q
      · rw [e2] at q; cases q
    · rcases e.nfz p z with q | q
      · exact e4 q
      · rw [e2] at q; cases q

theorem RepR.ext (r : Rel K W' S) (e : Ext W' W2) {v : V} {x : Rt} (h : RepR K W W' v x) : RepR K W W2 v x := by
  cases x with
  | val d => exact Rep.ext r e d v h
  | own ds =>
    obtain ⟨p, vs, e1, e2, e3, e4, e0, e5⟩ := h
    refine ⟨p, vs, e1, e.keep p _ e2 e3, fun z => ?_, fun z => ?_, e0, RepL.ext r e ds vs e5⟩
    · rcases e.nms p z with q | q
      · exact e3 q
      · rw [e2] at q; cases q
    · rcases e.nfz p z with q | q
      · exact e4 q
      · rw [e2] at q; cases q
  | bor ds =>
    obtain ⟨p, vs, e1, e2, e3, e5⟩ := h
    refine ⟨p, vs, e1, e.keep p _ e2 e3, fun z => ?_, RepL.ext r e ds vs e5⟩
    rcases e.nms p z with q | q
    · exact e3 q
    · rw [e2] at q; cases q
  | ownd ks ds =>
    obtain ⟨p, vs, e1, e2, el, e3, e4, e0, e5⟩ := h
    refine ⟨p, vs, e1, e.keep p _ e2 e3, el, fun z => ?_, fun z => ?_, e0, RepL.ext r e ds vs e5⟩
    · rcases e.nms p z with q | q
      · exact e3 q
      · rw [e2] at q; cases q
    · rcases e.nfz p z with q | q
      · exact e4 q
      · rw [e2] at q; cases q

theorem RepR.back (e : Ext W W') {v : V} {x : Rt} (h : RepR K W' W2 v x) : RepR K W W2 v x := by
  cases x with
  | val d => exact h
  | own ds =>
    obtain ⟨p, vs, e1, e2, e3, e4, e0, e5⟩ := h
    exact ⟨p, vs, e1, e2, e3, e4, e.free e0, e5⟩
  | bor ds => exact h
  | ownd ks ds =>
    obtain ⟨p, vs, e1, e2, el, e3, e4, e0, e5⟩ := h
    exact ⟨p, vs, e1, e2, el, e3, e4, e.free e0, e5⟩

mutual
theorem Rep.more {p : Addr} : ∀ (d : D) (v : V), Rep K W d v → Rep K ⟨W.ms, p :: W.fz, W.H⟩ d v
  | .non, v, h => by unfold Rep at h ⊢; exact h
  | .bl _, v, h => by unfold Rep at h ⊢; exact h
  | .int _, v, h => by unfold Rep at h ⊢; exact h
  | .str _, v, h => by unfold Rep at h ⊢; exact h
  | .tup ds, v, h => by
    unfold Rep at h ⊢
    obtain ⟨a, vs, e1, e2, e3⟩ := h
    exact ⟨a, vs, e1, e2, RepL.more ds vs e3⟩
  | .lst ds, v, h => by
    unfold Rep at h ⊢
    obtain ⟨a, vs, e1, e2, e3, e4⟩ := h
    exact ⟨a, vs, e1, List.mem_cons_of_mem _ e2, e3, RepL.more ds vs e4⟩
  | .scr ds, v, h => by
    unfold Rep at h ⊢
    obtain ⟨a, vs, e1, e2, e4⟩ := h
    exact ⟨a, vs, e1, e2.imp (fun z => ⟨List.mem_cons_of_mem _ z.1, z.2⟩) id, RepL.more ds vs e4⟩
  | .ref l, v, h => by
    unfold Rep at h ⊢
    exact h
  | .dct ks ds, v, h => by
    unfold Rep at h ⊢
    obtain ⟨a, vs, e1, e2, e3, e0, e4⟩ := h
    exact ⟨a, vs, e1, List.mem_cons_of_mem _ e2, e3, e0, RepL.more ds vs e4⟩
theorem RepL.more {p : Addr} : ∀ (ds : List D) (vs : List V), RepL K W ds vs → RepL K ⟨W.ms, p :: W.fz, W.H⟩ ds vs
  | [], vs, h => by unfold RepL at h ⊢; exact h
  | d :: ds, vs, h => by
    unfold RepL at h ⊢
    obtain ⟨v, q, e1, e2, e3⟩ := h
    exact ⟨v, q, e1, Rep.more d v e2, RepL.more ds q e3⟩
end
theorem Rel.more {p : Addr} (r : Rel K W S) (h1 : p ∉ W.ms) (h2 : W.H p ≠ none) : Rel K ⟨W.ms, p :: W.fz, W.H⟩ S := by
  refine ⟨r.len, r.nd, fun l c e => ?_, fun a ha => ?_, fun a ha => ?_⟩
  · obtain ⟨a, e1, ok⟩ := r.cell l c e
    exact ⟨a, e1, ok.imp (fun _ z => z) RepL.more fun _ _ _ z => z⟩
  · rcases List.mem_cons.mp ha with rfl | ha
    · exact h1
    · exact r.apart a ha
  · rcases ha with ha | ha
    · exact r.dom a (.inl ha)
    · rcases List.mem_cons.mp ha with rfl | ha
      · exact h2
      · exact r.dom a (.inr ha)
theorem Ext.more {p : Addr} (e : Ext W W') (h : W.H p = none) : Ext W ⟨W'.ms, p :: W'.fz, W'.H⟩ :=
  ⟨e.ms, fun a ha => List.mem_cons_of_mem _ (e.fz a ha), e.keep, e.dom, e.nms, fun a ha => by
    rcases List.mem_cons.mp ha with rfl | ha
    · exact .inr h
    · exact e.nfz a ha⟩

theorem RepR.shut (r : Rel K W' S) (e : Ext W W') {v : V} {x : Rt} {d : D} (h : RepR K W W' v x) (hd : x.d = some d) :
    ∃ W2, W2.H = W'.H ∧ Ext W W2 ∧ Rel K W2 S ∧ Rep K W2 d v := by
  cases x with
  | val d' => cases hd; exact ⟨W', rfl, e, r, h⟩
  | bor _ => cases hd
  | ownd ks ds =>
    cases hd
    obtain ⟨p, vs, e1, e2, el, e3, e4, e0, e5⟩ := h
    refine ⟨⟨W'.ms, p :: W'.fz, W'.H⟩, rfl, e.more e0, r.more e3 (by rw [e2]; simp), ?_⟩
    unfold Rep
    exact ⟨p, vs, e1, List.mem_cons_self, e2, el, RepL.more ds vs e5⟩
  | own ds =>
    cases hd
    obtain ⟨p, vs, e1, e2, e3, e4, e0, e5⟩ := h
    refine ⟨⟨W'.ms, p :: W'.fz, W'.H⟩, rfl, e.more e0, r.more e3 (by rw [e2]; simp), ?_⟩
    unfold Rep
    exact ⟨p, vs, e1, List.mem_cons_self, e2, RepL.more ds vs e5⟩

theorem Ext.laid {p : Addr} {o : HO} (h : W.H p = none) : Ext W ⟨W.ms, W.fz, upd W.H p o⟩ :=
  ⟨⟨[], by simp⟩, fun _ z => z, fun a u e _ => by show upd W.H p o a = _; rw [upd_ne (ne_of_none e h)]; exact e, fun a z => by
    show upd W.H p o a ≠ none
    by_cases q : a = p
    · subst q; rw [upd_same]; simp
    · rw [upd_ne q]; exact z, fun _ z => .inl z, fun _ z => .inl z⟩
theorem Rel.laid {p : Addr} {o : HO} (r : Rel K W S) (h : W.H p = none) : Rel K ⟨W.ms, W.fz, upd W.H p o⟩ S := by
  have e : Ext W ⟨W.ms, W.fz, upd W.H p o⟩ := Ext.laid h
  refine ⟨r.len, r.nd, fun l c q => ?_, r.apart, fun a ha => e.dom a (r.dom a ha)⟩
  obtain ⟨a, e1, ok⟩ := r.cell l c q
  refine ⟨a, e1, ok.imp (fun o' e2 => ?_) (RepL.ext r e) fun c q _ z => (upd_ne (ne_of_none z h)).trans z⟩
  show upd W.H p o a = _
  rw [upd_ne (ne_of_none e2 h)]; exact e2
theorem Rel.pms (r : Rel K W S) {p : Addr} (h : W.H p = none) : p ∉ W.ms ∧ p ∉ W.fz := ⟨fun z => r.dom p (.inl z) h, fun z => r.dom p (.inr z) h⟩

theorem RepR.laid {p : Addr} {ds : List D} {vs : List V} (r : Rel K W S) (h : W.H p = none) (q : RepL K W ds vs) :
    RepR K W ⟨W.ms, W.fz, upd W.H p (.lst vs)⟩ (.ref p) (.own ds) :=
  ⟨p, vs, rfl, upd_same, (r.pms h).1, (r.pms h).2, h, RepL.ext r (Ext.laid h) ds vs q⟩
theorem Rep.laidT {p : Addr} {ds : List D} {vs : List V} (r : Rel K W S) (h : W.H p = none) (q : RepL K W ds vs) :
    Rep K ⟨W.ms, W.fz, upd W.H p (.tup vs)⟩ (.tup ds) (.ref p) := by
  unfold Rep
  exact ⟨p, vs, rfl, .inl (.inl upd_same), RepL.ext r (Ext.laid h) ds vs q⟩

theorem cellL_some {l : Nat} {ds : List D} (h : cellL S l = some ds) : S[l]? = some (Cell.lst ds) := by
  unfold cellL at h
  split at h
  · cases h; assumption
  · cases h
theorem cellO_some {l : Nat} {c : Str} {ns : List Str} {ds : List D} (h : cellO S l = some (c, ns, ds)) : S[l]? = some (Cell.obj c ns ds) := by
  unfold cellO at h
  split at h
  · cases h; assumption
  · cases h
theorem cellD_some {l : Nat} {ks : List Key} {ds : List D} (h : cellD S l = some (ks, ds)) : S[l]? = some (Cell.dct ks ds) := by
  unfold cellD at h
  split at h
  · cases h; assumption
  · cases h
theorem RepR.dv {v : V} {x : Rt} {ks : List Key} {ds : List D} (r : Rel K W' S) (h : RepR K W W' v x) (e : x.dct? S = some (ks, ds)) : ∃ a vs, v = .ref a ∧ W'.H a = some (.dK (ks.zip vs)) ∧ ks.length = ds.length ∧ RepL K W' ds vs := by
  cases x with
  | own _ => cases e
  | bor _ => cases e
  | ownd ks' ds' =>
    cases e
    obtain ⟨p, vs, e1, e2, el, e3, e4, e0, e5⟩ := h
    exact ⟨p, vs, e1, e2, el, e5⟩
  | val d =>
    cases d with
    | dct ks' ds' =>
      cases e
      have h : Rep K W' (.dct ks ds) v := h
      unfold Rep at h
      obtain ⟨a, vs, e1, _, e3, el, e4⟩ := h
      exact ⟨a, vs, e1, e3, el, e4⟩
    | ref l =>
      have h : Rep K W' (.ref l) v := h
      unfold Rep at h
      obtain ⟨a, e1, e2⟩ := h
      obtain ⟨b, vs, q1, q2, q3, q4⟩ := r.celld l _ _ (cellD_some e)
      rw [e2] at q1; cases q1
      exact ⟨a, vs, e1, q2, q3, q4⟩
    | scr _ => cases e
    | non => cases e
    | bl _ => cases e
    | int _ => cases e
    | str _ => cases e
    | tup _ => cases e
    | lst _ => cases e
theorem RepR.lv {v : V} {x : Rt} {ds : List D} (r : Rel K W' S) (h : RepR K W W' v x) (e : lview S x = some ds) : ∃ a vs, v = .ref a ∧ SqL K W'.H a vs ∧ RepL K W' ds vs := by
  cases x with
  | own ds' =>
    cases e
    obtain ⟨p, vs, e1, e2, _, _, _, e5⟩ := h
    exact ⟨p, vs, e1, .inl (.inl e2), e5⟩
  | bor ds' =>
    cases e
    obtain ⟨p, vs, e1, e2, _, e5⟩ := h
    exact ⟨p, vs, e1, .inl (.inl e2), e5⟩
  | ownd _ _ => cases e
  | val d =>
    cases d with
    | lst ds' =>
      cases e
      have h : Rep K W' (.lst ds) v := h
      unfold Rep at h
      obtain ⟨a, vs, e1, _, e3, e4⟩ := h
      exact ⟨a, vs, e1, .inl (.inl e3), e4⟩
    | scr ds' =>
      cases e
      have h : Rep K W' (.scr ds) v := h
      unfold Rep at h
      obtain ⟨a, vs, e1, e3, e4⟩ := h
      exact ⟨a, vs, e1, e3.imp (fun z => z.2) id, e4⟩
    | ref l =>
      have h : Rep K W' (.ref l) v := h
      unfold Rep at h
      obtain ⟨a, e1, e2⟩ := h
      obtain ⟨b, vs, q1, q2, q3⟩ := r.cells l _ (cellL_some e)
      rw [e2] at q1; cases q1
      exact ⟨a, vs, e1, .inl (.inl q2), q3⟩
    | non => cases e
    | bl _ => cases e
    | int _ => cases e
    | str _ => cases e
    | tup _ => cases e
    | dct _ _ => cases e
theorem RepR.tv {v : V} {x : Rt} {ds : List D} (r : Rel K W' S) (h : RepR K W W' v x) (e : tview S x = some ds) : ∃ a vs, v = .ref a ∧ W'.H a = some (.lst vs) ∧ RepL K W' ds vs := by
  cases x with
  | own ds' =>
    cases e
    obtain ⟨p, vs, e1, e2, _, _, _, e5⟩ := h
    exact ⟨p, vs, e1, e2, e5⟩
  | bor ds' =>
    cases e
    obtain ⟨p, vs, e1, e2, _, e5⟩ := h
    exact ⟨p, vs, e1, e2, e5⟩
  | ownd _ _ => cases e
  | val d =>
    cases d with
    | lst ds' =>
      cases e
      have h : Rep K W' (.lst ds) v := h
      unfold Rep at h
      obtain ⟨a, vs, e1, _, e3, e4⟩ := h
      exact ⟨a, vs, e1, e3, e4⟩
    | ref l =>
      have h : Rep K W' (.ref l) v := h
      unfold Rep at h
      obtain ⟨a, e1, e2⟩ := h
      obtain ⟨b, vs, q1, q2, q3⟩ := r.cells l _ (cellL_some e)
      rw [e2] at q1; cases q1
      exact ⟨a, vs, e1, q2, q3⟩
    | scr _ => cases e
    | non => cases e
    | bl _ => cases e
    | int _ => cases e
    | str _ => cases e
    | tup _ => cases e
    | dct _ _ => cases e
theorem RepR.sv {v : V} {x : Rt} {ds : List D} (r : Rel K W' S) (h : RepR K W W' v x) (e : sview S x = some ds) : ∃ a vs, v = .ref a ∧ (SqL K W'.H a vs ∨ SqT K W'.H a vs) ∧ RepL K W' ds vs := by
  by_cases ht : ∃ ds', x = .val (.tup ds')
  · obtain ⟨ds', rfl⟩ := ht
    cases e
    have h : Rep K W' (.tup ds) v := h
    unfold Rep at h
    obtain ⟨a, vs, e1, e3, e4⟩ := h
    exact ⟨a, vs, e1, .inr e3, e4⟩
  · have e : lview S x = some ds := by
      unfold sview at e
      split at e
      · exact absurd ⟨_, rfl⟩ ht
      · exact e
    obtain ⟨a, vs, e1, e2, e3⟩ := h.lv r e
    exact ⟨a, vs, e1, .inl e2, e3⟩

mutual
theorem Rep.dp : ∀ (d : D) (v : V) (q : PyData), Rep K W d v → toPy d = some q → Dp K W.H v q
  | .non, v, q, h, e => by unfold Rep at h; cases e; subst h; exact .non
  | .bl b, v, q, h, e => by unfold Rep at h; cases e; subst h; exact .bl b
  | .int i, v, q, h, e => by unfold Rep at h; cases e; subst h; exact .int i
  | .str x, v, q, h, e => by unfold Rep at h; cases e; subst h; exact .str x
  | .tup ds, v, q, h, e => by
    unfold Rep at h
    obtain ⟨a, vs, e1, e2, e3⟩ := h
    unfold toPy at e
    cases hq : toPys ds with
    | none => rw [hq] at e; cases e
    | some qs =>
      rw [hq] at e; cases e
      rw [e1]
      exact .tup e2 (RepL.dp ds vs qs e3 hq)
  | .lst ds, v, q, h, e => by
    unfold Rep at h
    obtain ⟨a, vs, e1, _, e2, e3⟩ := h
    unfold toPy at e
    cases hq : toPys ds with
    | none => rw [hq] at e; cases e
    | some qs =>
      rw [hq] at e; cases e
      rw [e1]
      exact .lst (.inl (.inl e2)) (RepL.dp ds vs qs e3 hq)
  | .scr ds, v, q, h, e => by
    unfold Rep at h
    obtain ⟨a, vs, e1, e2, e3⟩ := h
    unfold toPy at e
    cases hq : toPys ds with
    | none => rw [hq] at e; cases e
    | some qs =>
      rw [hq] at e; cases e
      rw [e1]
      exact .lst (e2.imp (fun z => z.2) id) (RepL.dp ds vs qs e3 hq)
  | .ref _, v, q, h, e => by cases e
  | .dct _ _, v, q, h, e => by cases e
theorem RepL.dp : ∀ (ds : List D) (vs : List V) (qs : List PyData), RepL K W ds vs → toPys ds = some qs → DpAll K W.H vs qs
  | [], vs, q, h, e => by rw [h.nil_inv]; cases e; exact .nil
  | d :: ds, vs, q, h, e => by
    obtain ⟨v, r, rfl, h1, h2⟩ := h.cons_inv
    unfold toPys at e
    cases hq : toPy d with
    | none => rw [hq] at e; cases e
    | some q1 =>
      cases hr : toPys ds with
      | none => rw [hq, hr] at e; cases e
      | some q2 =>
        rw [hq, hr] at e; cases e
        exact .cons (Rep.dp d v q1 h1 hq) (RepL.dp ds r q2 h2 hr)
end
theorem RepR.dp {v : V} {x : Rt} {q : PyData} (h : RepR K W W' v x) (e : pyR x = some q) : Dp K W'.H v q := by
  cases x with
  | val d => exact Rep.dp d v q h e
  | own ds =>
    obtain ⟨p, vs, e1, e2, _, _, _, e5⟩ := h
    change (toPys ds).map PyData.list = some q at e
    cases hq : toPys ds with
    | none => rw [hq] at e; cases e
    | some qs =>
      rw [hq] at e; cases e
      rw [e1]
      exact .lst (.inl (.inl e2)) (RepL.dp ds vs qs e5 hq)
  | ownd _ _ => cases e
  | bor ds =>
    obtain ⟨p, vs, e1, e2, _, e5⟩ := h
    change (toPys ds).map PyData.list = some q at e
    cases hq : toPys ds with
    | none => rw [hq] at e; cases e
    | some qs =>
      rw [hq] at e; cases e
      rw [e1]
      exact .lst (.inl (.inl e2)) (RepL.dp ds vs qs e5 hq)
theorem Rep.dp1 {v : V} {d : D} {q : PyData} (r : Rel K W S) (h : Rep K W d v) (e : pyS1 S d = some q) : Dp K W.H v q := by
  by_cases hx : ∃ l, d = .ref l
  · obtain ⟨l, rfl⟩ := hx
    change ((cellL S l).bind fun ds => (toPys ds).map .list) = some q at e
    cases hc : cellL S l with
    | none => rw [hc] at e; cases e
    | some ds =>
      rw [hc] at e
      change (toPys ds).map .list = some q at e
      cases hq : toPys ds with
      | none => rw [hq] at e; cases e
      | some qs =>
        rw [hq] at e; cases e
        unfold Rep at h
        obtain ⟨a, e1, e2⟩ := h
        obtain ⟨b, vs, q1, q2, q3⟩ := r.cells l _ (cellL_some hc)
        rw [e2] at q1; cases q1
        rw [e1]
        exact .lst (.inl (.inl q2)) (RepL.dp ds vs qs q3 hq)
  · have e : toPy d = some q := by
      cases d <;> first | exact e | exact absurd ⟨_, rfl⟩ hx
    exact Rep.dp d v q h e
theorem RepL.dp1 (r : Rel K W S) : ∀ {ds : List D} {vs : List V} {qs : List PyData}, RepL K W ds vs → pySs S ds = some qs → DpAll K W.H vs qs
  | [], vs, qs, h, e => by rw [h.nil_inv]; cases e; exact .nil
  | d :: ds, vs, qs, h, e => by
    obtain ⟨v, us, rfl, h1, h2⟩ := h.cons_inv
    unfold pySs at e
    cases hq : pyS1 S d with
    | none => rw [hq] at e; cases e
    | some q1 =>
      cases hr : pySs S ds with
      | none => rw [hq, hr] at e; cases e
      | some q2 =>
        rw [hq, hr] at e; cases e
        exact .cons (Rep.dp1 r h1 hq) (RepL.dp1 r h2 hr)
theorem RepR.dpS {v : V} {x : Rt} {q : PyData} (r : Rel K W' S) (h : RepR K W W' v x) (e : pyS S x = some q) : Dp K W'.H v q := by
  by_cases hx : ∃ l, x = .val (.ref l)
  · obtain ⟨l, rfl⟩ := hx
    change ((cellL S l).bind fun ds => (toPys ds).map .list) = some q at e
    cases hc : cellL S l with
    | none => rw [hc] at e; cases e
    | some ds =>
      rw [hc] at e
      change (toPys ds).map .list = some q at e
      cases hq : toPys ds with
      | none => rw [hq] at e; cases e
      | some qs =>
        rw [hq] at e; cases e
        have h : Rep K W' (.ref l) v := h
        unfold Rep at h
        obtain ⟨a, e1, e2⟩ := h
        obtain ⟨b, vs, q1, q2, q3⟩ := r.cells l _ (cellL_some hc)
        rw [e2] at q1; cases q1
        rw [e1]
        exact .lst (.inl (.inl q2)) (RepL.dp ds vs qs q3 hq)
  by_cases hy : ∃ xs, x = .val (.tup xs)
  · obtain ⟨xs, rfl⟩ := hy
    change (pySs S xs).map PyData.tuple = some q at e
    cases hq : pySs S xs with
    | none => rw [hq] at e; cases e
    | some qs =>
      rw [hq] at e; cases e
      have h : Rep K W' (.tup xs) v := h
      unfold Rep at h
      obtain ⟨a, ws, rfl, g1, g2⟩ := h
      exact .tup g1 (RepL.dp1 r g2 hq)
  · have e : pyR x = some q := by
      unfold pyS at e
      split at e
      · exact absurd ⟨_, rfl⟩ hx
      · exact absurd ⟨_, rfl⟩ hy
      · exact e
    exact h.dp e
end
end Mi
end
noncomputable section
namespace Mi
open PySem PySem.Spec L2

theorem PE.imp {X : Cx} {e : Expr} {t t' : TE} (h : PE X e t) (i : ∀ σ H Q, t' σ H Q → t σ H Q) : PE X e t' := ⟨fun pins s σ H Q I q => h.run pins s σ H Q I (i σ H Q q)⟩
theorem PT.imp {X : Cx} {e : Expr} {t t' : TT} (h : PT X e t) (i : ∀ σ H Q, t' σ H Q → t σ H Q) : PT X e t' := ⟨fun pins s σ H Q I q => h.run pins s σ H Q I (i σ H Q q)⟩
theorem PA.imp {X : Cx} {e : List Expr} {t t' : TA} (h : PA X e t) (i : ∀ σ H Q, t' σ H Q → t σ H Q) : PA X e t' := ⟨fun pos pins s σ H Q I q => h.run pos pins s σ H Q I (i σ H Q q)⟩
theorem PS.imp {X : Cx} {e : Stmt} {t t' : TS} (h : PS X e t) (i : ∀ D σ H, t' D σ H → t D σ H) : PS X e t' := ⟨fun pins s σ H D I q => h.run pins s σ H D I (i D σ H q)⟩
theorem PSs.imp {X : Cx} {e : List Stmt} {t t' : TS} (h : PSs X e t) (i : ∀ D σ H, t' D σ H → t D σ H) : PSs X e t' := ⟨fun pins s σ H D I q => h.run pins s σ H D I (i D σ H q)⟩


noncomputable def rD (K : PySem.W.Frag) (F : Sto → Rt → Rt → Option Rt) : R2 := fun x y H Q => ∃ (W0 W1 W : Wd) (S : Sto) (a b r : Rt), W.H = H ∧ Rel K W S ∧ RepR K W0 W x a ∧ RepR K W1 W y b ∧ F S a b = some r ∧
  ∀ W' v, Ext W W' → Rel K W' S → RepR K W W' v r → Q v W'.H
section
variable {X : Cx}
theorem binI_sound {o : BOp} {op : Operator} {i j k : Int} (ho : op = match o with | .add => .Add | .sub => .Sub | .mul => .Mult | .fdiv => .FloorDiv | .mod => .Mod | .pow => .Pow | .shl => .LShift) (h : binI o i j = some k)
    {pins : List (Addr × Obj)} {s : Shared} {σ : St} {H : Hp} {v u : Value} {Q : VK} (I : Inv X pins σ H s) (rx : RelV (.int i) v) (ry : RelV (.int j) u) (q : Q (.int k) H) :
    wpAny (model X.prog X.w) X.A (binaryOp op v u) (EP X pins σ Q) X.xe s := by
  subst ho
  cases o with
  | add => cases h; exact op_add _ _ _ _ _ _ _ _ _ I rx ry ⟨i, j, rfl, rfl, q⟩
  | sub => cases h; exact op_sub _ _ _ _ _ _ _ _ _ I rx ry ⟨i, j, rfl, rfl, q⟩
  | mul =>
    change (if MulOk i j then some (i * j) else none) = some k at h
    split at h
    · cases h; rename_i hc
      rcases hc with hc | hc
      · exact op_mul _ _ _ _ _ _ _ _ _ I rx ry ⟨i, j, rfl, rfl, hc, q⟩
      · exact op_mulW _ _ _ _ _ _ _ _ _ I rx ry ⟨i, j, rfl, rfl, hc, q⟩
    · cases h
  | fdiv =>
    change (if DivOk j then some (i / j) else none) = some k at h
    split at h
    · cases h; rename_i hc
      rcases hc with hc | hc
      · exact op_fdiv _ _ _ _ _ _ _ _ _ I rx ry ⟨i, j, rfl, rfl, hc, q⟩
      · exact op_fdivW _ _ _ _ _ _ _ _ _ I rx ry ⟨i, j, rfl, rfl, hc, q⟩
    · cases h
  | shl =>
    change (if 0 ≤ j ∧ j ≤ 1000000 ∧ i.natAbs < 2 ^ 64 then some (i * 2 ^ j.toNat) else none) = some k at h
    split at h
    · cases h; rename_i hc; exact op_shl _ _ _ _ _ _ _ _ _ I rx ry ⟨i, j, rfl, rfl, hc, q⟩
    · cases h
  | mod =>
    change (if 0 < j then some (i % j) else none) = some k at h
    split at h
    · cases h; rename_i hc; exact op_mod _ _ _ _ _ _ _ _ _ I rx ry ⟨i, j, rfl, rfl, hc, q⟩
    · cases h
  | pow =>
    change (if 0 ≤ j ∧ j ≤ 1000000 ∧ i.natAbs < 2 ^ 64 then some (i ^ j.toNat) else none) = some k at h
    split at h
    · cases h; rename_i hc; exact op_pow _ _ _ _ _ _ _ _ _ I rx ry ⟨i, j, rfl, rfl, hc, q⟩
    · cases h
theorem int?_some {r : Rt} {i : Int} (h : r.int? = some i) : r = .val (.int i) := by
  unfold Rt.int? at h; split at h
  · cases h; rfl
  · cases h
theorem bl?_some {r : Rt} {i : Bool} (h : r.bl? = some i) : r = .val (.bl i) := by
  unfold Rt.bl? at h; split at h
  · cases h; rfl
  · cases h
theorem str?_some {r : Rt} {i : Str} (h : r.str? = some i) : r = .val (.str i) := by
  unfold Rt.str? at h; split at h
  · cases h; rfl
  · cases h
theorem tup?_some {r : Rt} {i : List D} (h : r.tup? = some i) : r = .val (.tup i) := by
  unfold Rt.tup? at h; split at h
  · cases h; rfl
  · cases h
theorem ref?_some {r : Rt} {i : Nat} (h : r.ref? = some i) : r = .val (.ref i) := by
  unfold Rt.ref? at h; split at h
  · cases h; rfl
  · cases h
theorem val?_some {r : Rt} {i : D} (h : r.val? = some i) : r = .val i := by
  unfold Rt.val? at h; split at h
  · cases h; rfl
  · cases h
noncomputable def opOf : BOp → Operator
  | .add => .Add | .sub => .Sub | .mul => .Mult | .fdiv => .FloorDiv | .mod => .Mod | .pow => .Pow | .shl => .LShift
theorem repr_int {K : PySem.W.Frag} {W W' : Wd} {v : V} {i : Int} (h : RepR K W W' v (.val (.int i))) : v = .int i := by
  have h : Rep K W' (.int i) v := h
  unfold Rep at h; exact h
theorem repr_bl {K : PySem.W.Frag} {W W' : Wd} {v : V} {i : Bool} (h : RepR K W W' v (.val (.bl i))) : v = .bl i := by
  have h : Rep K W' (.bl i) v := h
  unfold Rep at h; exact h
theorem repr_str {K : PySem.W.Frag} {W W' : Wd} {v : V} {i : Str} (h : RepR K W W' v (.val (.str i))) : v = .str i := by
  have h : Rep K W' (.str i) v := h
  unfold Rep at h; exact h
theorem int_repr {K : PySem.W.Frag} {W W' : Wd} {i : Int} : RepR K W W' (.int i) (.val (.int i)) := by show Rep K W' (.int i) (.int i); unfold Rep; rfl
theorem bl_repr {K : PySem.W.Frag} {W W' : Wd} {i : Bool} : RepR K W W' (.bl i) (.val (.bl i)) := by show Rep K W' (.bl i) (.bl i); unfold Rep; rfl
theorem str_repr {K : PySem.W.Frag} {W W' : Wd} {i : Str} : RepR K W W' (.str i) (.val (.str i)) := by show Rep K W' (.str i) (.str i); unfold Rep; rfl
theorem non_repr {K : PySem.W.Frag} {W W' : Wd} : RepR K W W' .non (.val .non) := by show Rep K W' .non .non; unfold Rep; rfl
theorem op_bin (o : BOp) : OpR X (binaryOp (opOf o)) (rD X.K fun S => binop S o) := by
  intro pins s σ H x y v u Q I rx ry h
  obtain ⟨W0, W1, W, S, a, b, r, rfl, rel, ra, rb, hr, q⟩ := h
  have cat : ∀ xs ys, o = .add → tview S a = some xs → tview S b = some ys → xs.length + ys.length ≤ sizeLine → r = .own (xs ++ ys) → wpAny (model X.prog X.w) X.A (binaryOp (opOf o) v u) (EP X pins σ Q) X.xe s := by
    intro xs ys ho h1 h2 hz e
    subst ho e
    obtain ⟨p1, vs1, rfl, d1, l1⟩ := ra.tv rel h1
    obtain ⟨p2, vs2, rfl, d2, l2⟩ := rb.tv rel h2
    refine op_cat _ _ _ _ _ _ _ _ _ I rx ry ⟨p1, p2, vs1, vs2, rfl, rfl, d1, d2, by rw [l1.length, l2.length]; exact hz, fun p hp => ?_⟩
    exact q ⟨W.ms, W.fz, _⟩ _ (Ext.laid hp) (rel.laid hp) (RepR.laid rel hp (l1.append l2))
  have rep : ∀ xs k, o = .mul → tview S a = some xs → b = .val (.int k) → -(2 ^ 63) ≤ k ∧ k < 2 ^ 63 ∧ xs.length * k.toNat ≤ sizeLine → r = .own (List.replicate k.toNat xs).flatten → wpAny (model X.prog X.w) X.A (binaryOp (opOf o) v u) (EP X pins σ Q) X.xe s := by
    intro xs k ho h1 h2 hz e
    subst ho h2 e
    obtain ⟨p1, vs1, rfl, d1, l1⟩ := ra.tv rel h1
    have e2 := repr_int rb
    subst e2
    refine op_rep _ _ _ _ _ _ _ _ _ I rx ry ⟨p1, k, vs1, rfl, rfl, d1, hz.1, hz.2.1, by rw [l1.length]; exact hz.2.2, fun p hp => ?_⟩
    exact q ⟨W.ms, W.fz, _⟩ _ (Ext.laid hp) (rel.laid hp) (RepR.laid rel hp (l1.rep _))
  change binop S o a b = some r at hr
  unfold binop at hr
  cases hi : a.int? with
  | some i =>
    cases hj : b.int? with
    | none => rw [hi, hj] at hr; cases hr
    | some j =>
      rw [hi, hj] at hr
      change (binI o i j).map (fun k => Rt.val (.int k)) = some r at hr
      cases hk : binI o i j with
      | none => rw [hk] at hr; cases hr
      | some k =>
        rw [hk] at hr; cases hr
        have e1 := repr_int (int?_some hi ▸ ra)
        have e2 := repr_int (int?_some hj ▸ rb)
        subst e1 e2
        exact binI_sound (o := o) (op := opOf o) (by cases o <;> rfl) hk I rx ry (q W _ (Ext.refl W) rel int_repr)
  | none =>
    cases hj : b.int? with
    | some k =>
      rw [hi, hj] at hr
      cases o with
      | mul =>
        change repop S a k = some r at hr
        unfold repop at hr
        cases hxt : a.tup? with
        | some xs =>
          rw [hxt] at hr
          change (if xs ≠ [] ∧ 2 ≤ k ∧ k ≤ 1000 ∧ xs.length ≤ 1000 then some (Rt.val (.tup (List.replicate k.toNat xs).flatten)) else none) = some r at hr
          split at hr
          · rename_i hc
            cases hr
            have h1 : Rep X.K W (.tup xs) x := by rw [tup?_some hxt] at ra; exact ra
            unfold Rep at h1
            obtain ⟨p1, vs1, rfl, d1, l1⟩ := h1
            have e2 := repr_int (int?_some hj ▸ rb)
            subst e2
            refine op_repT _ _ _ _ _ _ _ _ _ I rx ry ⟨p1, k, vs1, rfl, rfl, d1, fun z => hc.1 ?_, hc.2.1, hc.2.2.1, by rw [l1.length]; exact hc.2.2.2, fun p hp => ?_⟩
            · have hl := l1.length
              rw [z] at hl
              exact List.eq_nil_of_length_eq_zero hl.symm
            · exact q ⟨W.ms, W.fz, _⟩ _ (Ext.laid hp) (rel.laid hp) (Rep.laidT rel hp (l1.rep _))
          · cases hr
        | none =>
          rw [hxt] at hr
          change repop0 S a k = some r at hr
          unfold repop0 at hr
          cases hx : tview S a with
          | none => rw [hx] at hr; cases hr
          | some xs =>
            rw [hx, Option.bind_some] at hr
            split at hr
            · cases hr; rename_i hc; exact rep xs k rfl hx (int?_some hj) hc rfl
            · cases hr
      | _ => cases hr
    | none =>
      rw [hi, hj] at hr
      cases o with
      | add =>
        change catop S a b = some r at hr
        unfold catop at hr
        split at hr
        · rename_i i j g1 g2
          split at hr
          · rename_i hc
            cases hr
            have f1 := repr_str (str?_some g1 ▸ ra)
            have f2 := repr_str (str?_some g2 ▸ rb)
            subst f1 f2
            exact op_add_str _ _ _ _ _ _ _ _ _ I rx ry ⟨i, j, rfl, rfl, hc, q W _ (Ext.refl W) rel str_repr⟩
          · cases hr
        unfold catop0 at hr
        have other : (tview S a).bind (fun xs => (tview S b).bind fun ys => if xs.length + ys.length ≤ sizeLine then some (Rt.own (xs ++ ys)) else none) = some r → wpAny (model X.prog X.w) X.A (binaryOp (opOf .add) v u) (EP X pins σ Q) X.xe s := fun hr => by
          cases hx : tview S a with
          | none => rw [hx] at hr; cases hr
          | some xs =>
            cases hy : tview S b with
            | none => rw [hx, hy] at hr; cases hr
            | some ys =>
              rw [hx, hy, Option.bind_some, Option.bind_some] at hr
              split at hr
              · cases hr; rename_i hc; exact cat xs ys rfl hx hy hc rfl
              · cases hr
        cases hxs : a.tup? with
        | none => rw [hxs] at hr; exact other hr
        | some xs =>
          cases hys : b.tup? with
          | none => rw [hxs, hys] at hr; exact other hr
          | some ys =>
            rw [hxs, hys] at hr
            change (if xs.length + ys.length ≤ sizeLine then some (Rt.val (.tup (xs ++ ys))) else none) = some r at hr
            split at hr
            · cases hr
              rename_i hc
              have h1 : Rep X.K W (.tup xs) x := by rw [tup?_some hxs] at ra; exact ra
              have h2 : Rep X.K W (.tup ys) y := by rw [tup?_some hys] at rb; exact rb
              have h1' := h1
              have h2' := h2
              unfold Rep at h1 h2
              obtain ⟨p1, vs1, rfl, d1, l1⟩ := h1
              obtain ⟨p2, vs2, rfl, d2, l2⟩ := h2
              refine op_catA _ _ _ _ _ _ _ _ _ I rx ry ⟨p1, p2, vs1, vs2, rfl, rfl, d1, d2, by rw [l1.length, l2.length]; exact hc, fun z => ?_, fun z1 z => ?_, fun z1 z p hp => ?_⟩
              · have hl := l1.length
                rw [z] at hl
                have e : xs = [] := List.eq_nil_of_length_eq_zero hl.symm
                refine q W _ (Ext.refl W) rel ?_
                rw [e, List.nil_append]
                exact h2'
              · have hl := l2.length
                rw [z] at hl
                have e : ys = [] := List.eq_nil_of_length_eq_zero hl.symm
                refine q W _ (Ext.refl W) rel ?_
                rw [e, List.append_nil]
                exact h1'
              · exact q ⟨W.ms, W.fz, _⟩ _ (Ext.laid hp) (rel.laid hp) (Rep.laidT rel hp (l1.append l2))
            · cases hr
      | _ => cases hr

noncomputable def cOf : COp → CmpOp
  | .eq => .Eq | .ne => .NotEq | .lt => .Lt | .le => .LtE | .gt => .Gt | .ge => .GtE | .is => .Is | .isnot => .IsNot | .isin => .In | .notin => .NotIn
theorem isN_iff {K : PySem.W.Frag} {W : Wd} {d : D} {v : V} (h : Rep K W d v) : decide (v = .non) = isN d := by
  cases d <;> unfold Rep at h <;> first | (subst h; rfl) | (obtain ⟨a, _, rfl, _⟩ := h; rfl) | (obtain ⟨a, rfl, _⟩ := h; rfl)
theorem eqop_cases {S : Sto} {a b : Rt} {k : Bool} (h : eqop S a b = some k) : (∃ i j, a.str? = some i ∧ b.str? = some j ∧ decide (i = j) = k) ∨ eqop0 S a b = some k := by
  unfold eqop at h
  split at h
  · rename_i i j h1 h2
    exact .inl ⟨i, j, h1, h2, Option.some.inj h⟩
  · exact .inr h

noncomputable def vIsN : V → Bool
  | .non => true
  | _ => false
noncomputable def uIsN : Value → Bool
  | .none => true
  | _ => false
theorem any_uIsN {K : PySem.W.Frag} {H : Hp} : ∀ {xs : List V} {us : List Value}, Vals xs us → (∀ v, v ∈ xs → v = .non ∨ ∃ q zs, v = .ref q ∧ SqT K H q zs) → us.any uIsN = xs.any vIsN
  | _, _, .nil, _ => rfl
  | y :: xs, u :: us, .cons r t, h => by
    rw [List.any_cons, List.any_cons, any_uIsN t fun v hv => h v (List.mem_cons_of_mem _ hv)]
    congr 1
    rcases h y List.mem_cons_self with rfl | ⟨q, zs, rfl, _⟩
    · cases r; rfl
    · cases r; rfl
theorem mem_uIsN {B : Around} {pins : List (Addr × Obj)} {σ : St} {H : Hp} {s : Shared} (I : Inv X pins σ H s) (hu : B.units < cLine) : ∀ {xs : List V} {us : List Value}, Vals xs us → (∀ v, v ∈ xs → v = .non ∨ ∃ q zs, v = .ref q ∧ SqT X.K H q zs) → ∀ u ∈ us, SeqAt.EqAt B s u .none (uIsN u)
  | _, _, .nil, _ => fun u hu => by cases hu
  | y :: xs, u :: us, .cons r t, h => fun u' hu' => by
    rcases List.mem_cons.mp hu' with rfl | hu'
    · rcases h y List.mem_cons_self with rfl | ⟨q, zs, rfl, hq⟩
      · cases r
        exact eqAt_V (x := .non) (y := .non) rfl rfl rfl rfl
      · cases r
        obtain ⟨its, _, pl, _⟩ := I.tuple hq
        exact SeqAt.EqAt.tuple_none pl hu
    · exact mem_uIsN I hu t (fun v hv => h v (List.mem_cons_of_mem _ hv)) u' hu'
noncomputable def rInN (K : PySem.W.Frag) (neg : Bool) : R2 := fun x y H Q => x = .non ∧ ∃ p xs, y = .ref p ∧ (SqL K H p xs ∨ SqT K H p xs) ∧ (∀ v, v ∈ xs → v = .non ∨ ∃ q zs, v = .ref q ∧ SqT K H q zs) ∧ Q (.bl (if neg then !(xs.any vIsN) else xs.any vIsN)) H
theorem op_inNone (hu : X.A.units + 2 < cLine) : OpR X (compareOp .In) (rInN X.K false) := by
  intro pins s σ H x y v u Q I rx ry h
  obtain ⟨rfl, p, xs, rfl, hq, fs, q⟩ := h
  cases ry
  cases rx
  rcases hq with hq | hq
  · obtain ⟨its, r, pl, hz⟩ := I.list hq
    refine SeqAt.in_listAt uIsN pl.isList (fun w hw => mem_uIsN I (by simp only [Around.in1_units]; omega) r fs w (by simpa using hw)) ⟨.bl _, H, I, rfl, ?_⟩
    rw [show its.toArray.any uIsN = its.any uIsN by simp, any_uIsN r fs]
    exact q
  · obtain ⟨its, r, pl, hz⟩ := I.tuple hq
    refine SeqAt.in_tupleAt uIsN pl (fun w hw => mem_uIsN I (by simp only [Around.in1_units]; omega) r fs w (by simpa using hw)) ⟨.bl _, H, I, rfl, ?_⟩
    rw [show its.toArray.any uIsN = its.any uIsN by simp, any_uIsN r fs]
    exact q
theorem op_notInNone (hu : X.A.units + 2 < cLine) : OpR X (compareOp .NotIn) (rInN X.K true) := by
  intro pins s σ H x y v u Q I rx ry h
  obtain ⟨rfl, p, xs, rfl, hq, fs, q⟩ := h
  cases ry
  cases rx
  rcases hq with hq | hq
  · obtain ⟨its, r, pl, hz⟩ := I.list hq
    refine SeqAt.notIn_listAt uIsN pl.isList (fun w hw => mem_uIsN I (by simp only [Around.in1_units]; omega) r fs w (by simpa using hw)) ⟨.bl _, H, I, rfl, ?_⟩
    rw [show its.toArray.any uIsN = its.any uIsN by simp, any_uIsN r fs]
    exact q
  · obtain ⟨its, r, pl, hz⟩ := I.tuple hq
    refine SeqAt.notIn_tupleAt uIsN pl (fun w hw => mem_uIsN I (by simp only [Around.in1_units]; omega) r fs w (by simpa using hw)) ⟨.bl _, H, I, rfl, ?_⟩
    rw [show its.toArray.any uIsN = its.any uIsN by simp, any_uIsN r fs]
    exact q
theorem nonTups {K : PySem.W.Frag} {W : Wd} : ∀ {ds : List D} {vs : List V}, RepL K W ds vs → ds.all nonTup = true → (∀ v, v ∈ vs → v = .non ∨ ∃ q zs, v = .ref q ∧ SqT K W.H q zs) ∧ vs.any vIsN = ds.any isN
  | [], vs, h, _ => by
    rw [h.nil_inv]
    exact ⟨(fun v hv => by cases hv), rfl⟩
  | d :: ds, vs, h, hd => by
    obtain ⟨v, r, rfl, h1, h2⟩ := h.cons_inv
    rw [List.all_cons, Bool.and_eq_true] at hd
    obtain ⟨g1, g2⟩ := nonTups h2 hd.2
    refine ⟨fun w hw => ?_, ?_⟩
    · rcases List.mem_cons.mp hw with rfl | hw
      · cases d with
        | non => exact .inl (by unfold Rep at h1; exact h1)
        | tup ds =>
          unfold Rep at h1
          obtain ⟨a, zs, e1, e2, _⟩ := h1
          exact .inr ⟨a, zs, e1, e2⟩
        | _ => exact absurd (show false = true from hd.1) (by decide)
      · exact g1 w hw
    · rw [List.any_cons, List.any_cons, g2]
      congr 1
      cases d with
      | non => unfold Rep at h1; rw [h1]; rfl
      | tup ds =>
        unfold Rep at h1
        obtain ⟨a, zs, e1, e2, _⟩ := h1
        rw [e1]; rfl
      | _ => exact absurd (show false = true from hd.1) (by decide)
theorem op_cmp (hu : X.A.units + 65 < cLine) (o : COp) : OpR X (compareOp (cOf o)) (rD X.K fun S x y => (cmpop S o x y).map fun b => .val (.bl b)) := by
  intro pins s σ H x y v u Q I rx ry h
  obtain ⟨W0, W1, W, S, a, b, r, rfl, rel, ra, rb, hr, q⟩ := h
  change (cmpop S o a b).map (fun b => Rt.val (.bl b)) = some r at hr
  cases hc : cmpop S o a b with
  | none => rw [hc] at hr; cases hr
  | some k =>
    rw [hc] at hr; cases hr
    have fin : Q (.bl k) W.H := q W _ (Ext.refl W) rel bl_repr
    have num : ∀ o', (∃ i j, a.int? = some i ∧ b.int? = some j ∧ cmpI o' i j = k) → ∃ i j, x = .int i ∧ y = .int j ∧ cmpI o' i j = k := fun _ ⟨i, j, h1, h2, h3⟩ => ⟨i, j, repr_int (int?_some h1 ▸ ra), repr_int (int?_some h2 ▸ rb), h3⟩
    have numOf : ∀ o', ordop o' a b = some k → (∃ i j, a.int? = some i ∧ b.int? = some j ∧ cmpI o' i j = k) ∨ (isLt o' = true ∧ ∃ ds es is js, a.tup? = some ds ∧ b.tup? = some es ∧ ints? ds = some is ∧ ints? es = some js ∧ HT.lexLt is js = k) := fun o' h => by
      unfold ordop at h
      split at h
      · rename_i i j h1 h2
        exact .inl ⟨i, j, h1, h2, Option.some.inj h⟩
      · split at h
        · rename_i hl
          obtain ⟨is, g1, h⟩ := Option.bind_eq_some_iff.mp h
          obtain ⟨js, g2, h⟩ := Option.map_eq_some_iff.mp h
          obtain ⟨ds, d1, d2⟩ := Option.bind_eq_some_iff.mp g1
          obtain ⟨es, d3, d4⟩ := Option.bind_eq_some_iff.mp g2
          exact .inr ⟨hl, ds, es, is, js, d1, d3, d2, d4, h⟩
        · cases h
    have eqs : ∀ k, eqop0 S a b = some k → ∃ d e, Dp X.K W.H x d ∧ Dp X.K W.H y e ∧ SeqAt.shaped d = true ∧ SeqAt.shaped e = true ∧ PyData.eqv d e = k := fun k h => by
      unfold eqop0 at h
      cases h1 : pyS S a with
      | none => rw [h1] at h; cases h
      | some d =>
        cases h2 : pyS S b with
        | none => rw [h1, h2] at h; cases h
        | some e =>
          rw [h1, h2, Option.bind_some, Option.bind_some] at h
          split at h
          · rename_i hs; exact ⟨d, e, ra.dpS rel h1, rb.dpS rel h2, hs.1, hs.2, Option.some.inj h⟩
          · cases h
    have iss : ∀ k, isop a b = some k → (∃ i j, x = .bl i ∧ y = .bl j ∧ decide (i = j) = k) ∨ (y = .non ∧ decide (x = .non) = k) := fun k h => by
      unfold isop at h
      split at h
      · rename_i i j g1 g2
        exact .inl ⟨i, j, repr_bl (bl?_some g1 ▸ ra), repr_bl (bl?_some g2 ▸ rb), Option.some.inj h⟩
      refine .inr ?_
      cases h2 : b.val? with
      | none => rw [h2] at h; cases h
      | some e =>
        rw [h2, Option.bind_some] at h
        have r2 : Rep X.K W e y := by rw [val?_some h2] at rb; exact rb
        split at h
        · rename_i hs
          refine ⟨of_decide_eq_true ((isN_iff r2).trans hs), ?_⟩
          rw [← Option.some.inj h]
          cases a with
          | val d => exact isN_iff ra
          | own ds => obtain ⟨p, vs, rfl, _⟩ := ra; rfl
          | bor ds => obtain ⟨p, vs, rfl, _⟩ := ra; rfl
          | ownd ks ds => obtain ⟨p, vs, rfl, _⟩ := ra; rfl
        · cases h
    have ins : ∀ k, inop S a b = some k → (∃ p xs, y = .ref p ∧ (SqL X.K W.H p xs ∨ SqT X.K W.H p xs) ∧ flatV x = true ∧ xs.all flatV = true ∧ inV x xs = k) ∨
        (∃ d ds, Dp X.K W.H x d ∧ (Dp X.K W.H y (.list ds) ∧ SeqAt.shaped (.list ds) = true ∨ Dp X.K W.H y (.tuple ds) ∧ SeqAt.shaped (.tuple ds) = true) ∧ SeqAt.shaped d = true ∧ (ds.any fun z => PyData.eqv z d) = k) ∨
        (x = .non ∧ ∃ p xs, y = .ref p ∧ (SqL X.K W.H p xs ∨ SqT X.K W.H p xs) ∧ (∀ v, v ∈ xs → v = .non ∨ ∃ q zs, v = .ref q ∧ SqT X.K W.H q zs) ∧ xs.any vIsN = k) := fun k h => by
      unfold inop at h
      split at h
      · rename_i kk hk
        refine .inl ?_
        rw [Option.some.inj h] at hk
        cases h1 : a.val? with
        | none => rw [h1] at hk; cases hk
        | some d =>
          cases h2 : sview S b with
          | none => rw [h1, h2] at hk; cases hk
          | some ds =>
            rw [h1, h2, Option.bind_some, Option.bind_some] at hk
            have r1 : Rep X.K W d x := by rw [val?_some h1] at ra; exact ra
            obtain ⟨p, vs, e1, e2, e3⟩ := rb.sv rel h2
            unfold inD at hk
            split at hk
            · rename_i hs
              obtain ⟨f1, f2⟩ := r1.flat hs.1
              obtain ⟨g1, g2⟩ := e3.flat hs.2
              refine ⟨p, vs, e1, e2, f2, g2, ?_⟩
              rw [f1, g1]; exact Option.some.inj hk
            · cases hk
      · split at h
        · rename_i kk hk
          refine .inr (.inr ?_)
          cases h
          unfold noneIn at hk
          obtain ⟨d, h1, hk⟩ := Option.bind_eq_some_iff.mp hk
          split at hk
          · rename_i hd
            obtain ⟨ds, h2, hk⟩ := Option.bind_eq_some_iff.mp hk
            split at hk
            · rename_i hds
              have r1 : Rep X.K W d x := by rw [val?_some h1] at ra; exact ra
              have ex : x = .non := of_decide_eq_true ((isN_iff r1).trans hd)
              obtain ⟨p, vs, e1, e2, e3⟩ := rb.sv rel h2
              obtain ⟨g1, g2⟩ := nonTups e3 hds
              exact ⟨ex, p, vs, e1, e2, g1, by rw [g2]; exact Option.some.inj hk⟩
            · cases hk
          · cases hk
        refine .inr (.inl ?_)
        obtain ⟨d, h1, h⟩ := Option.bind_eq_some_iff.mp h
        obtain ⟨e, h2, h⟩ := Option.bind_eq_some_iff.mp h
        split at h
        · split at h
          · rename_i hs
            exact ⟨d, _, ra.dpS rel h1, .inl ⟨rb.dpS rel h2, hs.2⟩, hs.1, Option.some.inj h⟩
          · cases h
        · split at h
          · rename_i hs
            exact ⟨d, _, ra.dpS rel h1, .inr ⟨rb.dpS rel h2, hs.2⟩, hs.1, Option.some.inj h⟩
          · cases h
        · cases h
    have hu1 : X.A.units + 2 < cLine := by omega
    have neg : ∀ (z : Option Bool), z.map (fun b => !b) = some k → z = some (!k) := fun z h => by
      cases z with
      | none => cases h
      | some b => cases h; simp
    cases o with
    | lt =>
      rcases numOf .lt hc with hn | ⟨_, ds, es, is, js, d1, d2, d3, d4, e⟩
      · obtain ⟨i, j, rfl, rfl, e⟩ := num _ hn
        subst e
        exact op_lt _ _ _ _ _ _ _ _ _ I rx ry ⟨i, j, rfl, rfl, fin⟩
      · subst e
        have h1 : Rep X.K W (.tup ds) x := by rw [tup?_some d1] at ra; exact ra
        have h2 : Rep X.K W (.tup es) y := by rw [tup?_some d2] at rb; exact rb
        unfold Rep at h1 h2
        obtain ⟨p1, vs1, rfl, f1, l1⟩ := h1
        obtain ⟨p2, vs2, rfl, f2, l2⟩ := h2
        rw [l1.ints d3] at f1
        rw [l2.ints d4] at f2
        exact op_ltT (by omega) _ _ _ _ _ _ _ _ _ I rx ry ⟨p1, p2, is, js, rfl, rfl, f1, f2, fin⟩
    | le =>
      rcases numOf .le hc with hn | ⟨hz, _⟩
      · obtain ⟨i, j, rfl, rfl, e⟩ := num _ hn
        subst e
        exact op_le _ _ _ _ _ _ _ _ _ I rx ry ⟨i, j, rfl, rfl, fin⟩
      · cases hz
    | gt =>
      rcases numOf .gt hc with hn | ⟨hz, _⟩
      · obtain ⟨i, j, rfl, rfl, e⟩ := num _ hn
        subst e
        exact op_gt _ _ _ _ _ _ _ _ _ I rx ry ⟨i, j, rfl, rfl, fin⟩
      · cases hz
    | ge =>
      rcases numOf .ge hc with hn | ⟨hz, _⟩
      · obtain ⟨i, j, rfl, rfl, e⟩ := num _ hn
        subst e
        exact op_ge _ _ _ _ _ _ _ _ _ I rx ry ⟨i, j, rfl, rfl, fin⟩
      · cases hz
    | eq =>
      rcases eqop_cases hc with ⟨i, j, g1, g2, g3⟩ | hc
      · have f1 := repr_str (str?_some g1 ▸ ra)
        have f2 := repr_str (str?_some g2 ▸ rb)
        subst f1 f2 g3
        refine op_eq _ _ _ _ _ _ _ _ _ I rx ry ⟨rfl, ?_⟩
        rw [show decide (V.str i = V.str j) = decide (i = j) by simp]
        exact fin
      obtain ⟨d, e, h1, h2, h3, h4, h5⟩ := eqs k hc
      exact op_eqD (by omega) _ _ _ _ _ _ _ _ _ I rx ry ⟨d, e, h1, h2, h3, h4, by rw [h5]; exact fin⟩
    | ne =>
      rcases eqop_cases (neg _ hc) with ⟨i, j, g1, g2, g3⟩ | hc'
      · have f1 := repr_str (str?_some g1 ▸ ra)
        have f2 := repr_str (str?_some g2 ▸ rb)
        subst f1 f2
        refine op_ne _ _ _ _ _ _ _ _ _ I rx ry ⟨rfl, ?_⟩
        rw [show (decide (V.str i = V.str j)) = decide (i = j) by simp, g3, Bool.not_not]
        exact fin
      obtain ⟨d, e, h1, h2, h3, h4, h5⟩ := eqs _ hc'
      exact op_neD (by omega) _ _ _ _ _ _ _ _ _ I rx ry ⟨d, e, h1, h2, h3, h4, by rw [h5, Bool.not_not]; exact fin⟩
    | is =>
      rcases iss k hc with ⟨i, j, rfl, rfl, e⟩ | ⟨h1, h2⟩
      · exact op_isBl _ _ _ _ _ _ _ _ _ I rx ry ⟨i, j, rfl, rfl, by rw [e]; exact fin⟩
      exact op_isN _ _ _ _ _ _ _ _ _ I rx ry ⟨h1, by rw [h2]; exact fin⟩
    | isnot =>
      rcases iss _ (neg _ hc) with ⟨i, j, rfl, rfl, e⟩ | ⟨h1, h2⟩
      · exact op_notBl _ _ _ _ _ _ _ _ _ I rx ry ⟨i, j, rfl, rfl, by rw [e, Bool.not_not]; exact fin⟩
      exact op_notN _ _ _ _ _ _ _ _ _ I rx ry ⟨h1, by rw [h2, Bool.not_not]; exact fin⟩
    | isin =>
      rcases ins k hc with ⟨p, xs, h1, h2, h3, h4, h5⟩ | ⟨d, ds, h1, h2, h3, h4⟩ | ⟨h1, p, xs, h2, h3, h4, h5⟩
      · exact op_in_seq _ _ _ _ _ _ _ _ _ I rx ry ⟨p, xs, h1, h2, h3, h4, by rw [if_neg (by decide), h5]; exact fin⟩
      · rcases h2 with ⟨h2, h5⟩ | ⟨h2, h5⟩
        · exact op_inD hu _ _ _ _ _ _ _ _ _ I rx ry ⟨d, ds, h1, h2, h3, h5, by rw [h4]; exact fin⟩
        · obtain ⟨as, r1⟩ := Dp.reads I d x v h1 rx
          obtain ⟨bs, r2⟩ := Dp.reads I (.tuple ds) y u h2 ry
          exact SeqAt.in_tuple_reads r2 r1 (SeqAt.canLay_of_shaped h5) (SeqAt.canLay_of_shaped h3) (PyProof.Rows.room_in_shaped h3 hu) ⟨.bl _, W.H, I, rfl, by rw [h4]; exact fin⟩
      · exact op_inNone hu1 _ _ _ _ _ _ _ _ _ I rx ry ⟨h1, p, xs, h2, h3, h4, by rw [h5]; exact fin⟩
    | notin =>
      rcases ins _ (neg _ hc) with ⟨p, xs, h1, h2, h3, h4, h5⟩ | ⟨d, ds, h1, h2, h3, h4⟩ | ⟨h1, p, xs, h2, h3, h4, h5⟩
      · exact op_notIn_seq _ _ _ _ _ _ _ _ _ I rx ry ⟨p, xs, h1, h2, h3, h4, by rw [if_pos rfl, h5, Bool.not_not]; exact fin⟩
      · rcases h2 with ⟨h2, h5⟩ | ⟨h2, h5⟩
        · exact op_notInD hu _ _ _ _ _ _ _ _ _ I rx ry ⟨d, ds, h1, h2, h3, h5, by rw [h4, Bool.not_not]; exact fin⟩
        · obtain ⟨as, r1⟩ := Dp.reads I d x v h1 rx
          obtain ⟨bs, r2⟩ := Dp.reads I (.tuple ds) y u h2 ry
          exact SeqAt.notIn_tuple_reads r2 r1 (SeqAt.canLay_of_shaped h5) (SeqAt.canLay_of_shaped h3) (PyProof.Rows.room_in_shaped h3 hu) ⟨.bl _, W.H, I, rfl, by rw [h4, Bool.not_not]; exact fin⟩
      · exact op_notInNone hu1 _ _ _ _ _ _ _ _ _ I rx ry ⟨h1, p, xs, h2, h3, h4, by rw [h5, Bool.not_not]; exact fin⟩

theorem ix_D : IxR X (rD X.K fun S x y => (index S x y).map fun d => .val d) := by
  intro value sl pins s σ H x y v u Q I rx ry h hsub
  obtain ⟨W0, W1, W, S, a, b, r, rfl, rel, ra, rb, hr, q⟩ := h
  change (index S a b).map (fun d => Rt.val d) = some r at hr
  unfold index at hr
  cases h1 : b.int? with
  | none => rw [h1] at hr; cases hr
  | some k =>
    cases h2 : iview S a with
    | none => rw [h1, h2] at hr; cases hr
    | some ds =>
      rw [h1, h2, Option.bind_some, Option.bind_some] at hr
      cases h3 : L2.atI ds k with
      | none => rw [h3] at hr; cases hr
      | some d =>
        rw [h3] at hr; cases hr
        have e2 := repr_int (int?_some h1 ▸ rb)
        by_cases hst : ∃ z, a = .val (.str z)
        · obtain ⟨z, rfl⟩ := hst
          have e1 := repr_str ra
          change (if z.length ≤ sizeLine then some (z.cps.toList.map fun c => D.str ⟨#[c]⟩) else none) = some ds at h2
          split at h2
          · rename_i hz
            cases h2
            unfold L2.atI at h3
            rw [List.length_map] at h3
            cases q3 : ixN z.cps.toList.length k with
            | none => rw [q3] at h3; cases h3
            | some j =>
              rw [q3, Option.bind_some, List.getElem?_map] at h3
              obtain ⟨c, hc, e4⟩ := Option.map_eq_some_iff.mp h3
              subst e4
              have e3 : L2.atI z.cps.toList k = some c := by unfold L2.atI; rw [q3]; exact hc
              have fin : Q (.str ⟨#[c]⟩) W.H := q W _ (Ext.refl W) rel (by show Rep X.K W (.str ⟨#[c]⟩) (.str ⟨#[c]⟩); unfold Rep; rfl)
              exact ix_seq value sl _ _ _ _ _ _ _ _ _ I rx ry (.inr (.inr ⟨z, k, c, e1, e2, hz, e3, fin⟩)) hsub
          · cases h2
        have h2 : sview S a = some ds := by
          rw [← h2]
          unfold iview
          split
          · rename_i z; exact absurd ⟨z, rfl⟩ hst
          · rfl
        obtain ⟨p, vs, e1, hs, l⟩ := ra.sv rel h2
        obtain ⟨w, e3, rp⟩ := l.atI h3
        have fin : Q w W.H := q W w (Ext.refl W) rel rp
        rcases hs with hs | hs
        · exact ix_seq value sl _ _ _ _ _ _ _ _ _ I rx ry (.inl ⟨p, vs, k, w, e1, e2, hs, e3, fin⟩) hsub
        · exact ix_seq value sl _ _ _ _ _ _ _ _ _ I rx ry (.inr (.inl ⟨p, vs, k, w, e1, e2, hs, e3, fin⟩)) hsub
theorem cutD_whole {xs : List D} {lo hi : Option Int} (h : HT.sIx xs.length 0 lo = 0 ∧ HT.sIx xs.length xs.length hi = xs.length) : cutD xs lo hi = xs := by
  unfold cutD
  rw [h.1, h.2]; simp
noncomputable def rSl (K : PySem.W.Frag) : V → Option Int → Option Int → Hp → VK → Prop := fun x lo hi H Q => ∃ (W0 W : Wd) (S : Sto) (a r : Rt), W.H = H ∧ Rel K W S ∧ RepR K W0 W x a ∧ slice S a lo hi = some r ∧
  ∀ W' v, Ext W W' → Rel K W' S → RepR K W W' v r → Q v W'.H
theorem sl_D : SlR X (rSl X.K) := by
  intro pins s σ H x v vl vu lo hi sl Q I rx hs pl pu h
  obtain ⟨W0, W, S, a, r, rfl, rel, ra, hr, q⟩ := h
  unfold slice at hr
  cases ht : a.tup? with
  | some ds =>
    rw [ht] at hr; cases hr
    have h1 : Rep X.K W (.tup ds) x := by rw [tup?_some ht] at ra; exact ra
    have h1' := h1
    unfold Rep at h1
    obtain ⟨p, vs, rfl, d1, l1⟩ := h1
    refine sl_tupA pins s σ W.H _ v vl vu lo hi sl Q I rx hs pl pu ⟨p, vs, rfl, d1, fun hw => ?_, fun hw p hp => ?_⟩
    · refine q W _ (Ext.refl W) rel ?_
      rw [l1.length] at hw
      rw [cutD_whole hw]; exact h1'
    · exact q ⟨W.ms, W.fz, _⟩ _ (Ext.laid hp) (rel.laid hp) (Rep.laidT rel hp (l1.cut lo hi))
  | none =>
    rw [ht] at hr
    change (lview S a).map (fun ds => Rt.own (cutD ds lo hi)) = some r at hr
    cases hl : lview S a with
    | none => rw [hl] at hr; cases hr
    | some ds =>
      rw [hl] at hr; cases hr
      obtain ⟨p, vs, rfl, d1, l1⟩ := ra.lv rel hl
      refine sl_list pins s σ W.H _ v vl vu lo hi sl Q I rx hs pl pu ⟨p, vs, rfl, d1, fun p hp => ?_⟩
      exact q ⟨W.ms, W.fz, _⟩ _ (Ext.laid hp) (rel.laid hp) (RepR.laid rel hp (l1.cut lo hi))
end
end Mi
end
noncomputable section
namespace Mi
open PySem PySem.Spec L2

section
variable (K : PySem.W.Frag)

noncomputable def RepRs (W W' : Wd) : List V → List Rt → Prop
  | vs, [] => vs = []
  | vs, r :: rs => ∃ v us, vs = v :: us ∧ RepR K W W' v r ∧ RepRs W W' us rs
noncomputable def rBi (b : BI) : List V → Hp → VK → Prop := fun xs H Q => ∃ (W0 W : Wd) (S : Sto) (rs : List Rt) (r : Rt), W.H = H ∧ Rel K W S ∧ RepRs K W0 W xs rs ∧ biop S b rs = some r ∧
  ∀ W' v, Ext W W' → Rel K W' S → RepR K W W' v r → Q v W'.H
end
section
variable {X : Cx}
theorem RepRs.one {K : PySem.W.Frag} {W W' : Wd} {vs : List V} {r : Rt} (h : RepRs K W W' vs [r]) : ∃ v, vs = [v] ∧ RepR K W W' v r := by
  obtain ⟨v, us, rfl, h1, h2⟩ := h
  cases (show us = [] from h2)
  exact ⟨v, rfl, h1⟩
theorem RepRs.two {K : PySem.W.Frag} {W W' : Wd} {vs : List V} {r t : Rt} (h : RepRs K W W' vs [r, t]) : ∃ v w, vs = [v, w] ∧ RepR K W W' v r ∧ RepR K W W' w t := by
  obtain ⟨v, us, rfl, h1, h2⟩ := h
  obtain ⟨w, rfl, h3⟩ := RepRs.one h2
  exact ⟨v, w, rfl, h1, h3⟩

theorem bi_cases {K : PySem.W.Frag} {b : BI} {S : Sto} {W0 W : Wd} {xs : List V} {rs : List Rt} {r : Rt} (h : RepRs K W0 W xs rs) (e : biop S b rs = some r) :
    (∃ v a, xs = [v] ∧ RepR K W0 W v a ∧ bi1 S b a = some r) ∨ ∃ i j, xs = [.int i, .int j] ∧ bi2 b i j = some r := by
  match rs, h, e with
  | [], h, e => cases e
  | [a], h, e =>
    obtain ⟨v, rfl, h1⟩ := h.one
    exact .inl ⟨v, a, rfl, h1, e⟩
  | [a, c], h, e =>
    obtain ⟨v, w, rfl, h1, h2⟩ := h.two
    change (a.int?.bind fun i => c.int?.bind fun j => bi2 b i j) = some r at e
    cases e1 : a.int? with
    | none => rw [e1] at e; cases e
    | some i =>
      cases e2 : c.int? with
      | none => rw [e1, e2] at e; cases e
      | some j =>
        rw [e1, e2] at e
        have f1 := repr_int (int?_some e1 ▸ h1)
        have f2 := repr_int (int?_some e2 ▸ h2)
        subst f1 f2
        exact .inr ⟨i, j, rfl, e⟩
  | _ :: _ :: _ :: _, h, e => cases e
theorem bi_abs : CallR X (.builtin "abs") (rBi X.K .abs) := by
  intro pins s σ H xs us Q I rv h
  obtain ⟨W0, W, S, rs, r, rfl, rel, hr, e, q⟩ := h
  rcases bi_cases hr e with ⟨v, a, rfl, h1, e⟩ | ⟨i, j, rfl, e⟩
  · change a.int?.map _ = _ at e
    cases e1 : a.int? with
    | none => rw [e1] at e; cases e
    | some i =>
      rw [e1] at e; cases e
      have f1 := repr_int (int?_some e1 ▸ h1)
      subst f1
      exact call_abs _ _ _ _ _ _ _ I rv ⟨i, rfl, q W _ (Ext.refl W) rel int_repr⟩
  · cases e
theorem bi_int : CallR X (.type "int") (rBi X.K .int) := by
  intro pins s σ H xs us Q I rv h
  obtain ⟨W0, W, S, rs, r, rfl, rel, hr, e, q⟩ := h
  rcases bi_cases hr e with ⟨v, a, rfl, h1, e⟩ | ⟨i, j, rfl, e⟩
  · change (match a.int?, a.bl? with
      | some i, _ => some (Rt.val (.int i))
      | none, some k => some (.val (.int (if k then 1 else 0)))
      | none, none => none) = _ at e
    cases e1 : a.int? with
    | some i =>
      rw [e1] at e; cases e
      have f1 := repr_int (int?_some e1 ▸ h1)
      subst f1
      exact call_int1 _ _ _ _ _ _ _ I rv (.inl ⟨i, rfl, q W _ (Ext.refl W) rel int_repr⟩)
    | none =>
      cases e2 : a.bl? with
      | none => rw [e1, e2] at e; cases e
      | some k =>
        rw [e1, e2] at e; cases e
        have f1 := repr_bl (bl?_some e2 ▸ h1)
        subst f1
        exact call_int1 _ _ _ _ _ _ _ I rv (.inr ⟨k, rfl, q W _ (Ext.refl W) rel int_repr⟩)
  · cases e
theorem bi_len : CallR X (.builtin "len") (rBi X.K .len) := by
  intro pins s σ H xs us Q I rv h
  obtain ⟨W0, W, S, rs, r, rfl, rel, hr, e, q⟩ := h
  rcases bi_cases hr e with ⟨v, a, rfl, h1, e⟩ | ⟨i, j, rfl, e⟩
  · change (match a.str? with
      | some x => if x.length ≤ sizeLine then some (Rt.val (.int x.length)) else none
      | none => (sview S a).map fun (ds : List D) => .val (.int ds.length)) = _ at e
    cases e1 : a.str? with
    | some x =>
      rw [e1] at e
      change (if x.length ≤ sizeLine then some (Rt.val (.int x.length)) else none) = _ at e
      split at e
      · cases e
        rename_i hz
        have f1 := repr_str (str?_some e1 ▸ h1)
        subst f1
        exact call_len_str _ _ _ _ _ _ _ I rv ⟨x, rfl, hz, q W _ (Ext.refl W) rel int_repr⟩
      · cases e
    | none =>
      rw [e1] at e
      change (sview S a).map (fun (ds : List D) => Rt.val (.int ds.length)) = _ at e
      cases e2 : sview S a with
      | none => rw [e2] at e; cases e
      | some ds =>
        rw [e2] at e; cases e
        obtain ⟨p, vs, rfl, hs, l⟩ := h1.sv rel e2
        refine call_len_seq _ _ _ _ _ _ _ I rv ⟨p, vs, rfl, hs, ?_⟩
        rw [l.length]
        exact q W _ (Ext.refl W) rel int_repr
  · cases e
theorem lv_some {α : Type} {S : Sto} {a : Rt} {f : List D → Option α} {r : α} (e : (lview S a).bind f = some r) : ∃ ds, lview S a = some ds ∧ f ds = some r := by
  cases h : lview S a with
  | none => rw [h] at e; cases e
  | some ds => rw [h] at e; exact ⟨ds, rfl, e⟩
theorem map_some {α β : Type} {o : Option α} {f : α → β} {r : β} (e : o.map f = some r) : ∃ x, o = some x ∧ f x = r := by
  cases o with
  | none => cases e
  | some x => exact ⟨x, rfl, Option.some.inj e⟩
theorem bind_some {α β : Type} {o : Option α} {f : α → Option β} {r : β} (e : o.bind f = some r) : ∃ x, o = some x ∧ f x = some r := by
  cases o with
  | none => cases e
  | some x => exact ⟨x, rfl, e⟩
theorem bi_all (hc : X.calm = true) : CallR X (.builtin "all") (rBi X.K .all) := by
  intro pins s σ H xs us Q I rv h
  obtain ⟨W0, W, S, rs, r, rfl, rel, hr, e, q⟩ := h
  rcases bi_cases hr e with ⟨v, a, rfl, h1, e⟩ | ⟨i, j, rfl, e⟩
  · obtain ⟨ds, e1, e⟩ := lv_some e
    obtain ⟨bs, e2, rfl⟩ := map_some e
    obtain ⟨p, vs, rfl, hs, l⟩ := h1.lv rel e1
    have f := l.bls e2
    subst f
    exact cr_all hc _ _ _ _ _ _ _ I rv ⟨p, bs, rfl, hs, q W _ (Ext.refl W) rel bl_repr⟩
  · cases e
theorem sv_some {S : Sto} {a r : Rt} {f : List D → Option Rt} (e : (sview S a).bind f = some r) : ∃ ds, sview S a = some ds ∧ f ds = some r := Mi.bind_some e
theorem ints_reads {h : Heap} : ∀ {ns : List Int} {its : List Value}, Vals (ns.map V.int) its → ∃ as, ReadsAll h its (ns.map PyData.int) as
  | [], _, r => by cases r; exact ⟨_, .nil⟩
  | n :: ns, _, r => by
    cases r with
    | cons p q =>
      obtain ⟨t, rfl⟩ := p
      obtain ⟨as, h⟩ := ints_reads (h := h) q
      exact ⟨_, .cons (.int n t) h⟩
theorem alike_ints (ns : List Int) : PySem.W.AlikeAll (ns.map PyData.int) := by
  refine ⟨fun x hx y hy => ?_, fun x hx => ?_⟩
  · obtain ⟨i, _, rfl⟩ := List.mem_map.mp hx
    obtain ⟨j, _, rfl⟩ := List.mem_map.mp hy
    rfl
  · obtain ⟨i, _, rfl⟩ := List.mem_map.mp hx
    simp
theorem depth_ints : ∀ ns : List Int, PyData.depthAll (ns.map PyData.int) = 0
  | [] => rfl
  | n :: ns => by
    show max 0 (PyData.depthAll (ns.map PyData.int)) = 0
    rw [depth_ints ns]; rfl
theorem maxI_fold : ∀ (ns : List Int) (n : Int), ns.foldl max n = maxI n ns
  | [], _ => rfl
  | m :: ns, n => by
    rw [List.foldl_cons, maxI, maxI_fold ns]
    congr 1
    by_cases h : m > n
    · rw [if_pos h]; omega
    · rw [if_neg h]; omega
theorem minI_fold : ∀ (ns : List Int) (n : Int), ns.foldl min n = minI n ns
  | [], _ => rfl
  | m :: ns, n => by
    rw [List.foldl_cons, minI, minI_fold ns]
    congr 1
    by_cases h : m < n
    · rw [if_pos h]; omega
    · rw [if_neg h]; omega
theorem reads_int {h : Heap} {v : Value} {n : Int} {bs : List Addr} (r : Reads h v (.int n) bs) : ∃ t, v = .int n t := by
  cases r; exact ⟨_, rfl⟩
theorem bi_max (hc : X.calm = true) (hu : X.A.units + 2 < cLine) : CallR X (.builtin "max") (rBi X.K .max) := by
  intro pins s σ H xs us Q I rv h
  obtain ⟨W0, W, S, rs, r, rfl, rel, hr, e, q⟩ := h
  rcases bi_cases hr e with ⟨v, a, rfl, h1, e⟩ | ⟨i, j, rfl, e⟩
  · obtain ⟨ds, e1, e⟩ := sv_some e
    obtain ⟨bs, e2, e⟩ := bind_some e
    obtain ⟨p, vs, rfl, hs, l⟩ := h1.sv rel e1
    have f := l.ints e2
    subst f
    cases bs with
    | nil => cases e
    | cons i is =>
      cases e
      have fin : ∀ v (h' : Heap) bs', Reads h' v (PySem.W.maxD (.int i) (is.map .int)) bs' → ∃ t, v = .int (maxI i is) t := fun v h' bs' r => by
        rw [PySem.W.maxD_ints, maxI_fold] at r
        exact reads_int r
      rcases hs with hs | hs
      · obtain ⟨its, rs, hl, _⟩ := I.list hs
        rw [Vals.ref1 rv]
        obtain ⟨as, rd⟩ := ints_reads (h := s.heap) rs
        refine PySem.W.max_list_data (I.ok.hd hc) hl.isList (by simpa using rd) (alike_ints (i :: is)) (by have := depth_ints (i :: is); rw [List.map_cons] at this; rw [this]; omega) fun k v h' tk bs' _ r hk => ?_
        obtain ⟨t, rfl⟩ := fin v h' bs' r
        exact ⟨.int _, W.H, I.kept hk, ⟨_, rfl⟩, q W _ (Ext.refl W) rel int_repr⟩
      · obtain ⟨its, rs, hl, _⟩ := I.tuple hs
        rw [Vals.ref1 rv]
        obtain ⟨as, rd⟩ := ints_reads (h := s.heap) rs
        refine PySem.W.max_tuple_data (I.ok.hd hc) hl (by simpa using rd) (alike_ints (i :: is)) (by have := depth_ints (i :: is); rw [List.map_cons] at this; rw [this]; omega) fun k v h' tk bs' _ r hk => ?_
        obtain ⟨t, rfl⟩ := fin v h' bs' r
        exact ⟨.int _, W.H, I.kept hk, ⟨_, rfl⟩, q W _ (Ext.refl W) rel int_repr⟩
  · cases e
    exact call_max2 hc _ _ _ _ _ _ _ I rv ⟨i, j, rfl, q W _ (Ext.refl W) rel int_repr⟩
theorem bi_min (hc : X.calm = true) (hu : X.A.units + 2 < cLine) : CallR X (.builtin "min") (rBi X.K .min) := by
  intro pins s σ H xs us Q I rv h
  obtain ⟨W0, W, S, rs, r, rfl, rel, hr, e, q⟩ := h
  rcases bi_cases hr e with ⟨v, a, rfl, h1, e⟩ | ⟨i, j, rfl, e⟩
  · obtain ⟨ds, e1, e⟩ := sv_some e
    obtain ⟨bs, e2, e⟩ := bind_some e
    obtain ⟨p, vs, rfl, hs, l⟩ := h1.sv rel e1
    have f := l.ints e2
    subst f
    cases bs with
    | nil => cases e
    | cons i is =>
      cases e
      have fin : ∀ v (h' : Heap) bs', Reads h' v (PySem.W.minD (.int i) (is.map .int)) bs' → ∃ t, v = .int (minI i is) t := fun v h' bs' r => by
        rw [PySem.W.minD_ints, minI_fold] at r
        exact reads_int r
      rcases hs with hs | hs
      · obtain ⟨its, rs, hl, _⟩ := I.list hs
        rw [Vals.ref1 rv]
        obtain ⟨as, rd⟩ := ints_reads (h := s.heap) rs
        refine PySem.W.min_list_data (I.ok.hd hc) hl.isList (by simpa using rd) (alike_ints (i :: is)) (by have := depth_ints (i :: is); rw [List.map_cons] at this; rw [this]; omega) fun k v h' tk bs' _ r hk => ?_
        obtain ⟨t, rfl⟩ := fin v h' bs' r
        exact ⟨.int _, W.H, I.kept hk, ⟨_, rfl⟩, q W _ (Ext.refl W) rel int_repr⟩
      · obtain ⟨its, rs, hl, _⟩ := I.tuple hs
        rw [Vals.ref1 rv]
        obtain ⟨as, rd⟩ := ints_reads (h := s.heap) rs
        refine PySem.W.min_tuple_data (I.ok.hd hc) hl (by simpa using rd) (alike_ints (i :: is)) (by have := depth_ints (i :: is); rw [List.map_cons] at this; rw [this]; omega) fun k v h' tk bs' _ r hk => ?_
        obtain ⟨t, rfl⟩ := fin v h' bs' r
        exact ⟨.int _, W.H, I.kept hk, ⟨_, rfl⟩, q W _ (Ext.refl W) rel int_repr⟩
  · cases e
    exact call_min2 hc _ _ _ _ _ _ _ I rv ⟨i, j, rfl, q W _ (Ext.refl W) rel int_repr⟩
theorem bi_list : CallR X (.type "list") (rBi X.K .list) := by
  intro pins s σ H xs us Q I rv h
  obtain ⟨W0, W, S, rs, r, rfl, rel, hr, e, q⟩ := h
  rcases bi_cases hr e with ⟨v, a, rfl, h1, e⟩ | ⟨i, j, rfl, e⟩
  · obtain ⟨ds, e1, rfl⟩ := map_some e
    obtain ⟨p, vs, rfl, hs, l⟩ := h1.sv rel e1
    refine call_list_of _ _ _ _ _ _ _ I rv ⟨p, _, rfl, hs, fun p' hp => ?_⟩
    exact q ⟨W.ms, W.fz, _⟩ _ (Ext.laid hp) (rel.laid hp) (RepR.laid rel hp l)
  · cases e
theorem bi_tuple : CallR X (.type "tuple") (rBi X.K .tuple) := by
  intro pins s σ H xs us Q I rv h
  obtain ⟨W0, W, S, rs, r, rfl, rel, hr, e, q⟩ := h
  rcases bi_cases hr e with ⟨v, a, rfl, h1, e⟩ | ⟨i, j, rfl, e⟩
  · change (match a.tup? with
      | some ds => some (Rt.val (.tup ds))
      | none => (lview S a).map fun ds => .val (.tup ds)) = _ at e
    cases e1 : a.tup? with
    | some ds =>
      rw [e1] at e; cases e
      have h2 : Rep X.K W (.tup ds) v := by rw [tup?_some e1] at h1; exact h1
      have h2' := h2
      unfold Rep at h2
      obtain ⟨p, vs, rfl, d1, l1⟩ := h2
      exact call_tuple_of _ _ _ _ _ _ _ I rv ⟨p, _, rfl, .inr ⟨d1, q W _ (Ext.refl W) rel h2'⟩⟩
    | none =>
      rw [e1] at e
      change (lview S a).map (fun ds => Rt.val (.tup ds)) = _ at e
      obtain ⟨ds, e1, rfl⟩ := map_some e
      obtain ⟨p, vs, rfl, hs, l⟩ := h1.lv rel e1
      exact call_tuple_of _ _ _ _ _ _ _ I rv ⟨p, _, rfl,   .inl ⟨hs, fun p' hp => q ⟨W.ms, W.fz, _⟩ _ (Ext.laid hp) (rel.laid hp) (Rep.laidT rel hp l)⟩⟩
  · cases e
theorem bi_divmod : CallR X (.builtin "divmod") (rBi X.K .divmod) := by
  intro pins s σ H xs us Q I rv h
  obtain ⟨W0, W, S, rs, r, rfl, rel, hr, e, q⟩ := h
  rcases bi_cases hr e with ⟨v, a, rfl, h1, e⟩ | ⟨i, j, rfl, e⟩
  · cases e
  · change (if 0 < j ∧ j < 1073741824 then some (Rt.val (.tup [.int (i / j), .int (i % j)])) else none) = _ at e
    split at e
    · cases e
      rename_i hc
      refine call_divmod _ _ _ _ _ _ _ I rv ⟨i, j, rfl, hc, fun p hp => ?_⟩
      exact q ⟨W.ms, W.fz, _⟩ _ (Ext.laid hp) (rel.laid hp) (Rep.laidT rel hp (RepL.ofInts [i / j, i % j]))
    · cases e

theorem call_strR {prog : Program} {w : World} {A : Around} {E : Value → Shared → Prop} {s : Shared} {a : Addr} {d : PyData} {as : List Addr} {Q : Value → Shared → Prop} (r : Reads s.heap (.ref a) d as) (hs : d.showable = true) (hd : d.hasDict = false) (hz : d.shown.length ≤ sizeLine) (hg : A.guards = some []) (hu : A.units + (d.depth + 4) < cLine)
    (q : ∀ h' u tk, (∀ b o, s.heap.get? b = some o → h'.get? b = some o) → Q (.str d.shown u) { s with heap := h', toks := tk }) : wpAny (model prog w) A (call (.type "str") [.ref a]) Q E s := by
  refine callType_new F.called_str (by decide) (F.typeCall_str_1 _) (F.newCall_str_1 _) (fun obj => F.args_object_init_2 obj _) F.entry_str_new
    (meets_str_new (S := fun A R s => A.guards = some [] ∧ A.units + (d.depth + 3) < cLine ∧ Reads s.heap (.ref a) d as ∧ ∀ h' u tk, (∀ b o, s.heap.get? b = some o → h'.get? b = some o) → R (.ok (.ret (.str d.shown u))) { s with heap := h', toks := tk }) fun prog w A R s ⟨g1, g2, g3, g4⟩ => ?_) ⟨hg, ?_, r, fun h' u tk k => ⟨typeIs_str _ _ _, q h' u tk k⟩⟩
  · exact strOf_of_reads g3 hs (fun z => by rw [hd] at z; cases z) g1 (by show A.units + 1 + (d.depth + 1) < cLine; omega) (fun _ _ z => z) g4 hz
  · show A.units + 1 + (d.depth + 3) < cLine
    omega
theorem bi_str (hg : X.A.guards = some []) (hu : X.A.units + 70 < cLine) : CallR X (.type "str") (rBi X.K .str) := by
  intro pins s σ H xs us Q I rv h
  obtain ⟨W0, W, S, rs, r, rfl, rel, hr, e, q⟩ := h
  rcases bi_cases hr e with ⟨v, a, rfl, h1, e⟩ | ⟨i, j, rfl, e⟩
  · change (match a.str? with
      | some x => some (Rt.val (.str x))
      | none => (pyR a).bind fun p => if p.showable = true ∧ p.hasDict = false ∧ p.depth ≤ 64 ∧ p.shown.length ≤ sizeLine then some (.val (.str p.shown)) else none) = _ at e
    cases rv with
    | @cons _ u _ _ r0 rr =>
      cases rr
      cases e1 : a.str? with
      | some x =>
        rw [e1] at e; cases e
        have f1 := repr_str (str?_some e1 ▸ h1)
        subst f1
        obtain ⟨t, rfl⟩ := r0
        exact P.str_of_str ⟨.str x, W.H, I, ⟨t, rfl⟩, q W _ (Ext.refl W) rel str_repr⟩
      | none =>
        rw [e1] at e
        dsimp only at e
        obtain ⟨p, hp, e⟩ := Mi.bind_some e
        split at e
        · rename_i hc
          cases e
          have dp := h1.dp hp
          obtain ⟨as, rd⟩ := Dp.reads I p v u dp r0
          have fin : ∀ x, q W x (Ext.refl W) rel = q W x (Ext.refl W) rel := fun _ => rfl
          have out : Q (.str p.shown) W.H := q W _ (Ext.refl W) rel str_repr
          cases rd with
          | none => exact P.str_of_none ⟨.str _, W.H, I.tok _, ⟨_, rfl⟩, out⟩
          | bool b => exact P.str_of_bool ⟨.str _, W.H, I.tok _, ⟨_, rfl⟩, out⟩
          | int i t => exact P.str_of_int (by simpa [PyData.showable] using hc.1) ⟨.str _, W.H, I.tok _, ⟨_, rfl⟩, out⟩
          | str x t =>
            exfalso
            cases a with
            | own ds => cases h2 : toPys ds <;> (rw [show pyR (.own ds) = (toPys ds).map PyData.list from rfl, h2] at hp; cases hp)
            | bor ds => cases h2 : toPys ds <;> (rw [show pyR (.bor ds) = (toPys ds).map PyData.list from rfl, h2] at hp; cases hp)
            | ownd _ _ => cases hp
            | val d =>
              cases d with
              | str y => cases e1
              | non => cases hp
              | bl _ => cases hp
              | int _ => cases hp
              | ref _ => cases hp
              | dct _ _ => cases hp
              | tup ds => cases h2 : toPys ds <;> (rw [show pyR (.val (.tup ds)) = toPy (.tup ds) from rfl] at hp; unfold toPy at hp; rw [h2] at hp; cases hp)
              | lst ds => cases h2 : toPys ds <;> (rw [show pyR (.val (.lst ds)) = toPy (.lst ds) from rfl] at hp; unfold toPy at hp; rw [h2] at hp; cases hp)
              | scr ds => cases h2 : toPys ds <;> (rw [show pyR (.val (.scr ds)) = toPy (.scr ds) from rfl] at hp; unfold toPy at hp; rw [h2] at hp; cases hp)
          | list g1 g2 g3 g4 => exact call_strR (.list g1 g2 g3 g4) hc.1 hc.2.1 hc.2.2.2 hg (by have := hc.2.2.1; omega) fun h' t tk k => ⟨.str _, W.H, I.kept (t' := tk) k, ⟨_, rfl⟩, out⟩
          | tuple g1 g2 g3 g4 => exact call_strR (.tuple g1 g2 g3 g4) hc.1 hc.2.1 hc.2.2.2 hg (by have := hc.2.2.1; omega) fun h' t tk k => ⟨.str _, W.H, I.kept (t' := tk) k, ⟨_, rfl⟩, out⟩
          | dict g1 g2 g3 g4 g5 => exact absurd hc.2.1 (by unfold PyData.hasDict; decide)
        · cases e
  · cases e

noncomputable def tyN : Ty → String
  | .int => "int" | .bool => "bool" | .str => "str" | .tuple => "tuple" | .list => "list"
theorem Rd.tyL {K : PySem.W.Frag} {H : Hp} {a : Addr} {vs : List V} (h : Rd H a (.lst vs)) : TyX K H (.ref a) (.type "list") := by
  rcases h with h | ⟨o, h⟩
  · exact .base (.lst h)
  · exact .base (.frz h)
theorem SqT.tyT {K : PySem.W.Frag} {H : Hp} {a : Addr} {vs : List V} (h : SqT K H a vs) : TyX K H (.ref a) (.type "tuple") := by
  rcases h with (h | ⟨o, h⟩) | ⟨o, its, n, h, hc, _⟩
  · exact .base (.tup h)
  · exact .fTuple h
  · exact .kTuple h hc

theorem ty_of {K : PySem.W.Frag} {W0 W : Wd} {S : Sto} {v : V} {a : Rt} (rel : Rel K W S) (h : RepR K W0 W v a) (hd : refD S a = false) : ∃ T : String, TyX K W.H v (.type T) ∧ ∀ t, kitB T (tyN t) = some (tyR a t) := by
  have lst : ∀ {p : Addr} {vs : List V}, Rd W.H p (.lst vs) → TyX K W.H (.ref p) (.type "list") := fun h => Rd.tyL h
  have kl : ∀ t, kitB "list" (tyN t) = some (decide (t = .list)) := by intro t; cases t <;> decide +kernel
  have kb : ∀ t, kitB "bool" (tyN t) = some (decide (t = .bool) || decide (t = .int)) := by intro t; cases t <;> decide +kernel
  have ki : ∀ t, kitB "int" (tyN t) = some (decide (t = .int)) := by intro t; cases t <;> decide +kernel
  have ks : ∀ t, kitB "str" (tyN t) = some (decide (t = .str)) := by intro t; cases t <;> decide +kernel
  have kt : ∀ t, kitB "tuple" (tyN t) = some (decide (t = .tuple)) := by intro t; cases t <;> decide +kernel
  have kd : ∀ t, kitB "dict" (tyN t) = some false := by intro t; cases t <;> decide +kernel
  cases a with
  | own ds =>
    obtain ⟨p, vs, rfl, e2, _⟩ := h
    exact ⟨"list", lst (.inl e2), kl⟩
  | bor ds =>
    obtain ⟨p, vs, rfl, e2, _⟩ := h
    exact ⟨"list", lst (.inl e2), kl⟩
  | ownd ks ds =>
    obtain ⟨p, vs, rfl, e2, _⟩ := h
    exact ⟨"dict", .base (.dK e2), kd⟩
  | val d =>
    have h : Rep K W d v := h
    cases d with
    | non => unfold Rep at h; subst h; exact ⟨"NoneType", .base .non, by intro t; cases t <;> decide +kernel⟩
    | bl b => unfold Rep at h; subst h; exact ⟨"bool", .base (.bl b), kb⟩
    | int b => unfold Rep at h; subst h; exact ⟨"int", .base (.int b), ki⟩
    | str b => unfold Rep at h; subst h; exact ⟨"str", .base (.str b), ks⟩
    | tup ds =>
      unfold Rep at h
      obtain ⟨p, vs, rfl, e, _⟩ := h
      exact ⟨"tuple", SqT.tyT e, kt⟩
    | lst ds =>
      unfold Rep at h
      obtain ⟨p, vs, rfl, _, e, _⟩ := h
      exact ⟨"list", lst (.inl e), kl⟩
    | scr ds =>
      unfold Rep at h
      obtain ⟨p, vs, rfl, e, _⟩ := h
      rcases e with ⟨_, e⟩ | ⟨o, _, _, e, c, _⟩
      · exact ⟨"list", lst e, kl⟩
      · exact ⟨"list", .kList e c, kl⟩
    | ref l =>
      unfold Rep at h
      obtain ⟨p, rfl, e⟩ := h
      have hlt : l < S.length := by rw [← rel.len]; exact (List.getElem?_eq_some_iff.mp e).1
      cases hc : S[l]? with
      | none => rw [List.getElem?_eq_none_iff] at hc; omega
      | some c =>
        cases c with
        | lst ds =>
          obtain ⟨b, ws, e1, e2, _⟩ := rel.cells l ds hc
          rw [e] at e1; cases e1
          exact ⟨"list", lst (.inl e2), kl⟩
        | _ =>
          have hd : (cellL S l).isNone = false := hd
          unfold cellL at hd
          rw [hc] at hd
          cases hd
    | dct ks ds =>
      unfold Rep at h
      obtain ⟨p, vs, rfl, _, e, _⟩ := h
      exact ⟨"dict", .base (.dK e), kd⟩
noncomputable def rIs1 (K : PySem.W.Frag) (t : Ty) : List V → Hp → VK → Prop := fun xs H Q => ∃ (W0 W : Wd) (S : Sto) (v : V) (a : Rt), W.H = H ∧ Rel K W S ∧ xs = [v, .ty (tyN t)] ∧ RepR K W0 W v a ∧ refD S a = false ∧ Q (.bl (tyR a t)) W.H
theorem bi_isi1 (t : Ty) : CallR X (.builtin "isinstance") (rIs1 X.K t) := by
  intro pins s σ H xs us Q I rv h
  obtain ⟨W0, W, S, v, a, rfl, rel, rfl, h1, hd, q⟩ := h
  obtain ⟨T, ty, k⟩ := ty_of rel h1 hd
  exact call_isi _ _ _ _ _ _ _ I rv ⟨v, .ty (tyN t), .type T, .type (tyN t), tyR a t, rfl, .ty _, ty, kit_ty (k t), q⟩
theorem kitAny_D {K : PySem.W.Frag} {T : String} {a : Rt} (k : ∀ t, kitB T (tyN t) = some (tyR a t)) : ∀ ts : List Ty, PySem.W.kitAny K (.type T) (ts.map fun t => Value.type (tyN t)) = some (ts.any fun t => tyR a t)
  | [] => rfl
  | t :: ts => by
    rw [List.map_cons, List.any_cons]
    refine kitAny_cons (kit_ty (k t)) (fun h => ?_) fun h => ?_
    · rw [h, Bool.false_or]; exact kitAny_D k ts
    · rw [h, Bool.true_or]
noncomputable def rIsN (K : PySem.W.Frag) (ts : List Ty) : List V → Hp → VK → Prop := fun xs H Q => ∃ (W0 W : Wd) (S : Sto) (v : V) (tp : Addr) (a : Rt), W.H = H ∧ Rel K W S ∧ xs = [v, .ref tp] ∧ W.H tp = some (.tup (ts.map fun t => .ty (tyN t))) ∧ RepR K W0 W v a ∧ refD S a = false ∧ Q (.bl (ts.any fun t => tyR a t)) W.H
theorem clsv_all : ∀ ts : List Ty, Paired ClsV (ts.map fun t => V.ty (tyN t)) (ts.map fun t => Value.type (tyN t))
  | [] => .nil
  | t :: ts => .cons (.ty _) (clsv_all ts)
theorem bi_isi (ts : List Ty) : CallR X (.builtin "isinstance") (rIsN X.K ts) := by
  intro pins s σ H xs us Q I rv h
  obtain ⟨W0, W, S, v, tp, a, rfl, rel, rfl, ht, h1, hd, q⟩ := h
  obtain ⟨T, ty, k⟩ := ty_of rel h1 hd
  exact call_isiT _ _ _ _ _ _ _ I rv ⟨v, tp, _, .type T, _, _, rfl, ht, clsv_all ts, ty, kitAny_D k ts, q⟩
end
end Mi
end
noncomputable section
namespace Mi
open PySem PySem.Spec L2
section
variable (K : PySem.W.Frag) (Φ : Fns) (G : List D)

noncomputable def At (W : Wd) (S : Sto) (ρ : Env) (σ : St) (H : Hp) : Prop := W.H = H ∧ Rel K W S ∧ SlotR K W σ ρ
noncomputable def tR (m : ME) : TE := fun σ H Q => ∃ W S ρ, At K W S ρ σ H ∧ ∃ r S', evR Φ G ρ m S = some (r, S') ∧ ∀ W' v, Ext W W' → Rel K W' S' → RepR K W W' v r → Q v W'.H
noncomputable def tBl (m : ME) : TT := fun σ H Q => ∃ W S ρ, At K W S ρ σ H ∧ ∃ b S', evR Φ G ρ m S = some (.val (.bl b), S') ∧ ∀ W', Ext W W' → Rel K W' S' → Q b W'.H
noncomputable def tRs (ms : MEs) : TA := fun σ H Q => ∃ W S ρ, At K W S ρ σ H ∧ ∃ rs S', evRs Φ G ρ ms S = some (rs, S') ∧ ∀ W' vs, Ext W W' → Rel K W' S' → RepRs K W W' vs rs → Q vs W'.H
noncomputable def tDs (ms : MEs) : TA := fun σ H Q => ∃ W S ρ, At K W S ρ σ H ∧ ∃ ds S', evs Φ G ρ ms S = some (ds, S') ∧ ∀ W' vs, Ext W W' → Rel K W' S' → RepL K W' ds vs → Q vs W'.H
noncomputable def tOp' (m : MO) : TO := fun σ H Q => ∃ W S ρ, At K W S ρ σ H ∧ ∃ o S', evO Φ G ρ m S = some (o, S') ∧ ∀ W', Ext W W' → Rel K W' S' → Q o W'.H
end
section
variable {K : PySem.W.Frag} {Φ : Fns} {G : List D} {W W' : Wd} {S S' : Sto} {ρ : Env} {σ : St} {H : Hp}
theorem At.rel (a : At K W S ρ σ H) : Rel K W S := a.2.1
theorem At.sl (a : At K W S ρ σ H) : SlotR K W σ ρ := a.2.2
theorem At.ext (a : At K W S ρ σ H) (e : Ext W W') (r : Rel K W' S') : At K W' S' ρ σ W'.H := ⟨rfl, r, a.sl.ext a.rel e⟩
theorem RepRs.ext {S : Sto} {W0 W W' : Wd} (r : Rel K W S) (e : Ext W W') : ∀ {vs : List V} {rs : List Rt}, RepRs K W0 W vs rs → RepRs K W0 W' vs rs
  | vs, [], h => h
  | vs, x :: rs, ⟨v, us, e1, h1, h2⟩ => ⟨v, us, e1, h1.ext r e, RepRs.ext r e h2⟩
theorem RepRs.back {W0 W1 W' : Wd} (e : Ext W0 W1) : ∀ {vs : List V} {rs : List Rt}, RepRs K W1 W' vs rs → RepRs K W0 W' vs rs
  | vs, [], h => h
  | vs, x :: rs, ⟨v, us, e1, h1, h2⟩ => ⟨v, us, e1, h1.back e, RepRs.back e h2⟩
end
section
variable {X : Cx} {Φ : Fns} {G : List D} {e e1 e2 : Expr} {pos : Pos}
abbrev DE (X : Cx) (Φ : Fns) (G : List D) (e : Expr) (m : ME) : Prop := PE X e (tR X.K Φ G m)
abbrev DT (X : Cx) (Φ : Fns) (G : List D) (e : Expr) (m : ME) : Prop := PT X e (tBl X.K Φ G m)
theorem de_var {i : Nat} {x : Str} (hN : X.N[i]? = some x) (hv : Vis X.env.scope x) (hd : (x == ("__debug__" : Str)) = false) (hcd : (x == ("__classdict__" : Str)) = false) : DE X Φ G (.Name x pos) (.var i) := by
  refine PE.imp (pe_var hN hv hd hcd) fun σ H Q h => ?_
  obtain ⟨W, S, ρ, a, r, S', ev, q⟩ := h
  unfold evR at ev
  split at ev
  · rename_i d hρ
    cases ev
    obtain ⟨v, h1, h2⟩ := a.sl.2.1 i d hρ
    refine ⟨v, h1, ?_⟩
    have := q W v (Ext.refl W) a.rel h2
    rw [a.1] at this; exact this
  · cases ev
theorem de_bor {i : Nat} {x : Str} (hN : X.N[i]? = some x) (hv : Vis X.env.scope x) (hd : (x == ("__debug__" : Str)) = false) (hcd : (x == ("__classdict__" : Str)) = false) : DE X Φ G (.Name x pos) (.bor i) := by
  refine PE.imp (pe_var hN hv hd hcd) fun σ H Q h => ?_
  obtain ⟨W, S, ρ, a, r, S', ev, q⟩ := h
  unfold evR at ev
  split at ev
  · rename_i d hρ
    cases ev
    obtain ⟨p, vs, h1, h2, h3, h4, h5⟩ := a.sl.2.2.1 i d hρ
    refine ⟨_, h1, ?_⟩
    have := q W _ (Ext.refl W) a.rel ⟨p, vs, rfl, h2, h3, h5⟩
    rw [a.1] at this; exact this
  · cases ev
theorem de_con {c : Const} {j : Nat} {d : D} {v : V} (h : PE X (.Constant c j pos) (tC v)) (hr : ∀ W, Rep X.K W d v) : DE X Φ G (.Constant c j pos) (.con d) := by
  refine PE.imp h fun σ H Q h => ?_
  obtain ⟨W, S, ρ, a, r, S', ev, q⟩ := h
  unfold evR at ev
  cases ev
  have := q W v (Ext.refl W) a.rel (hr W)
  rw [a.1] at this; exact this
theorem de_glb {x : Str} {j : Nat} {d : D} {v : V} (h : PE X (.Name x pos) (tC v)) (hg : G[j]? = some d) (hr : d.dct? = none → ∀ W, Rep X.K W d v) : DE X Φ G (.Name x pos) (.glb j) := by
  refine PE.imp h fun σ H Q h => ?_
  obtain ⟨W, S, ρ, a, r, S', ev, q⟩ := h
  unfold evR at ev
  rw [hg, Option.bind_some] at ev
  split at ev
  · cases ev
  · rename_i hd
    cases ev
    have := q W v (Ext.refl W) a.rel (hr (by simpa using hd) W)
    rw [a.1] at this; exact this

theorem two_op {m1 m2 : ME} {F : Sto → Rt → Rt → Option Rt} {op : R2} {σ : St} {H : Hp} {Q : VK} (hop : op = rD X.K F) (m : ME) (hm : ∀ ρ S, evR Φ G ρ m S = (evR Φ G ρ m1 S).bind fun p => (evR Φ G ρ m2 p.2).bind fun q => (F q.2 p.1 q.1).map fun r => (r, q.2))
    (h : tR X.K Φ G m σ H Q) : tOp op (tR X.K Φ G m1) (tR X.K Φ G m2) σ H Q := by
  subst hop
  obtain ⟨W, S, ρ, a, r, S', ev, q⟩ := h
  rw [hm] at ev
  obtain ⟨⟨x, S1⟩, ev1, ev⟩ := Mi.bind_some ev
  obtain ⟨⟨y, S2⟩, ev2, ev⟩ := Mi.bind_some ev
  obtain ⟨z, hz, ev⟩ := map_some ev
  cases ev
  refine ⟨W, S, ρ, a, x, S1, ev1, fun W1 v1 e1 r1 p1 => ?_⟩
  refine ⟨W1, S1, ρ, a.ext e1 r1, y, S2, ev2, fun W2 v2 e2 r2 p2 => ?_⟩
  refine ⟨W, W1, W2, _, x, y, _, rfl, r2, p1.ext r1 e2, p2, hz, fun W3 v e3 r3 p3 => ?_⟩
  exact q W3 v ((e1.trans e2).trans e3) r3 (p3.back (e1.trans e2))
theorem de_bin {o : BOp} {m1 m2 : ME} (h1 : DE X Φ G e1 m1) (h2 : DE X Φ G e2 m2) : DE X Φ G (.BinOp e1 (opOf o) e2 pos) (.bin o m1 m2) :=
  PE.imp (pe_op (op_bin o) h1 h2) fun σ H Q h => two_op rfl (.bin o m1 m2) (fun ρ S => by rw [evR]) h
theorem de_cmp {o : COp} {m1 m2 : ME} (hu : X.A.units + 65 < cLine) (hm : behindInMarks (cOf o) e2 = false) (h1 : DE X Φ G e1 m1) (h2 : DE X Φ G e2 m2) : DE X Φ G (.Compare e1 [cOf o] [e2] pos) (.cmp o m1 m2) :=
  PE.imp (pe_cmpR (op_cmp hu o) h1 h2 hm) fun σ H Q h => two_op rfl (.cmp o m1 m2) (fun ρ S => by
    rw [evR]; congr; funext p; congr; funext q; cases cmpop q.2 o p.1 q.1 <;> rfl) h
theorem de_idx {m1 m2 : ME} (hs : PlainIx e2) (h1 : DE X Φ G e1 m1) (h2 : DE X Φ G e2 m2) : DE X Φ G (.Subscript e1 e2 pos) (.idx m1 m2) :=
  PE.imp (pe_ix ix_D h1 h2 hs) fun σ H Q h => two_op rfl (.idx m1 m2) (fun ρ S => by
    rw [evR]; congr; funext p; congr; funext q; cases index q.2 p.1 q.1 <;> rfl) h

theorem dt_val {m : ME} (h : DE X Φ G e m) (he : ∀ whole, isTrue e X.env whole = (do let v ← whole; standAt e.pos; holding [v] (truthy v))) : DT X Φ G e m := by
  refine PT.imp (pt_val h he) fun σ H Q h => ?_
  obtain ⟨W, S, ρ, a, b, S', ev, q⟩ := h
  exact ⟨W, S, ρ, a, _, S', ev, fun W' v e r p => ⟨b, repr_bl p, q W' e r⟩⟩
theorem dt_cmp {o : COp} {m1 m2 : ME} (hu : X.A.units + 65 < cLine) (hm : behindInMarks (cOf o) e2 = false) (h1 : DE X Φ G e1 m1) (h2 : DE X Φ G e2 m2) : DT X Φ G (.Compare e1 [cOf o] [e2] pos) (.cmp o m1 m2) := by
  refine PT.imp (pt_cmpR (op_cmp hu o) h1 h2 hm) fun σ H Q h => ?_
  obtain ⟨W, S, ρ, a, b, S', ev, q⟩ := h
  have : tR X.K Φ G (.cmp o m1 m2) σ H (fun x H' => ∃ k, x = .bl k ∧ Q k H') := ⟨W, S, ρ, a, _, S', ev, fun W' v e r p => ⟨b, repr_bl p, q W' e r⟩⟩
  exact two_op rfl (.cmp o m1 m2) (fun ρ S => by
    rw [evR]; congr; funext p; congr; funext q; cases cmpop q.2 o p.1 q.1 <;> rfl) this
theorem de_neg {m : ME} (h : DE X Φ G e m) : DE X Φ G (.UnaryOp .USub e pos) (.neg m) := by
  refine PE.imp (pe_un un_neg h) fun σ H Q h => ?_
  obtain ⟨W, S, ρ, a, r, S', ev, q⟩ := h
  rw [evR] at ev
  obtain ⟨⟨x, S1⟩, ev1, ev⟩ := Mi.bind_some ev
  refine ⟨W, S, ρ, a, x, S1, ev1, fun W1 v1 e1 r1 p1 => ?_⟩
  dsimp only at ev
  split at ev
  · cases ev
    exact ⟨_, repr_int p1, q W1 _ e1 r1 int_repr⟩
  · cases ev
theorem de_not {m : ME} (h : DE X Φ G e m) : DE X Φ G (.UnaryOp .Not e pos) (.not m) := by
  refine PE.imp (pe_not h) fun σ H Q h => ?_
  obtain ⟨W, S, ρ, a, r, S', ev, q⟩ := h
  rw [evR] at ev
  obtain ⟨⟨x, S1⟩, ev1, ev⟩ := Mi.bind_some ev
  refine ⟨W, S, ρ, a, x, S1, ev1, fun W1 v1 e1 r1 p1 => ?_⟩
  dsimp only at ev
  split at ev
  · cases ev
    exact ⟨_, repr_bl p1, q W1 _ e1 r1 bl_repr⟩
  · cases ev
theorem not_inv {m : ME} {ρ : Env} {S S' : Sto} {b : Bool} (ev : evR Φ G ρ (.not m) S = some (.val (.bl b), S')) : evR Φ G ρ m S = some (.val (.bl !b), S') := by
  rw [evR] at ev
  obtain ⟨⟨x, S1⟩, ev1, ev⟩ := Mi.bind_some ev
  dsimp only at ev
  split at ev
  · cases ev
    rw [ev1, Bool.not_not]
  · cases ev
theorem dt_not {m : ME} (h : DT X Φ G e m) : DT X Φ G (.UnaryOp .Not e pos) (.not m) := by
  refine PT.imp (pt_not h) fun σ H Q h => ?_
  obtain ⟨W, S, ρ, a, b, S', ev, q⟩ := h
  exact ⟨W, S, ρ, a, _, S', not_inv ev, fun W' e r => by show Q (!(!b)) W'.H; rw [Bool.not_not]; exact q W' e r⟩

theorem de_and {m1 m2 : ME} {rest : List Expr} (h1 : DE X Φ G e1 m1) (h2 : DE X Φ G (.BoolOp .And (e2 :: rest) pos) m2) : DE X Φ G (.BoolOp .And (e1 :: e2 :: rest) pos) (.and m1 m2) := by
  refine PE.imp (pe_and h1 h2) fun σ H Q h => ?_
  obtain ⟨W, S, ρ, a, r, S', ev, q⟩ := h
  rw [evR] at ev
  obtain ⟨⟨x, S1⟩, ev1, ev⟩ := Mi.bind_some ev
  refine ⟨W, S, ρ, a, x, S1, ev1, fun W1 v1 e1 r1 p1 => ?_⟩
  dsimp only at ev
  split at ev
  · refine ⟨true, repr_bl p1, ?_⟩
    refine iteT ?_
    exact ⟨W1, S1, ρ, a.ext e1 r1, r, S', ev, fun W2 v e2 r2 p2 => q W2 v (e1.trans e2) r2 (p2.back e1)⟩
  · cases ev
    refine ⟨false, repr_bl p1, ?_⟩
    refine iteF ?_
    exact q W1 _ e1 r1 bl_repr
  · cases ev
theorem de_or {m1 m2 : ME} {rest : List Expr} (h1 : DE X Φ G e1 m1) (h2 : DE X Φ G (.BoolOp .Or (e2 :: rest) pos) m2) : DE X Φ G (.BoolOp .Or (e1 :: e2 :: rest) pos) (.or m1 m2) := by
  refine PE.imp (pe_or h1 h2) fun σ H Q h => ?_
  obtain ⟨W, S, ρ, a, r, S', ev, q⟩ := h
  rw [evR] at ev
  obtain ⟨⟨x, S1⟩, ev1, ev⟩ := Mi.bind_some ev
  refine ⟨W, S, ρ, a, x, S1, ev1, fun W1 v1 e1 r1 p1 => ?_⟩
  dsimp only at ev
  split at ev
  · cases ev
    refine ⟨true, repr_bl p1, ?_⟩
    refine iteT ?_
    exact q W1 _ e1 r1 bl_repr
  · refine ⟨false, repr_bl p1, ?_⟩
    refine iteF ?_
    exact ⟨W1, S1, ρ, a.ext e1 r1, r, S', ev, fun W2 v e2 r2 p2 => q W2 v (e1.trans e2) r2 (p2.back e1)⟩
  · cases ev
abbrev DW (X : Cx) (Φ : Fns) (G : List D) (e : Expr) (m : ME) : Prop := PW X e (tBl X.K Φ G m)
theorem PW.imp {X : Cx} {e : Expr} {t t' : TT} (h : PW X e t) (i : ∀ σ H Q, t' σ H Q → t σ H Q) : PW X e t' := ⟨fun wh pins s σ H Q I q => h.run wh pins s σ H Q I (i σ H Q q)⟩
theorem dw_and {m1 m2 : ME} {rest : List Expr} (h1 : DT X Φ G e1 m1) (h2 : DW X Φ G (.BoolOp .And (e2 :: rest) pos) m2) : DW X Φ G (.BoolOp .And (e1 :: e2 :: rest) pos) (.and m1 m2) := by
  refine PW.imp (pw_and h1 h2) fun σ H Q h => ?_
  obtain ⟨W, S, ρ, a, b, S', ev, q⟩ := h
  rw [evR] at ev
  obtain ⟨⟨x, S1⟩, ev1, ev⟩ := Mi.bind_some ev
  dsimp only at ev
  split at ev
  · refine ⟨W, S, ρ, a, true, S1, ev1, fun W1 e1 r1 => ?_⟩
    refine iteT ?_
    exact ⟨W1, S1, ρ, a.ext e1 r1, b, S', ev, fun W2 e2 r2 => q W2 (e1.trans e2) r2⟩
  · cases ev
    refine ⟨W, S, ρ, a, false, _, ev1, fun W1 e1 r1 => ?_⟩
    refine iteF ?_
    exact q W1 e1 r1
  · cases ev
theorem dw_or {m1 m2 : ME} {rest : List Expr} (h1 : DT X Φ G e1 m1) (h2 : DW X Φ G (.BoolOp .Or (e2 :: rest) pos) m2) : DW X Φ G (.BoolOp .Or (e1 :: e2 :: rest) pos) (.or m1 m2) := by
  refine PW.imp (pw_or h1 h2) fun σ H Q h => ?_
  obtain ⟨W, S, ρ, a, b, S', ev, q⟩ := h
  rw [evR] at ev
  obtain ⟨⟨x, S1⟩, ev1, ev⟩ := Mi.bind_some ev
  dsimp only at ev
  split at ev
  · cases ev
    refine ⟨W, S, ρ, a, true, _, ev1, fun W1 e1 r1 => ?_⟩
    refine iteT ?_
    exact q W1 e1 r1
  · refine ⟨W, S, ρ, a, false, S1, ev1, fun W1 e1 r1 => ?_⟩
    refine iteF ?_
    exact ⟨W1, S1, ρ, a.ext e1 r1, b, S', ev, fun W2 e2 r2 => q W2 (e1.trans e2) r2⟩
  · cases ev
theorem de_ite {c : Expr} {mc m1 m2 : ME} (hc : DT X Φ G c mc) (h1 : DE X Φ G e1 m1) (h2 : DE X Φ G e2 m2) : DE X Φ G (.IfExp c e1 e2 pos) (.ite mc m1 m2) := by
  refine PE.imp (pe_ifExp hc h1 h2) fun σ H Q h => ?_
  obtain ⟨W, S, ρ, a, r, S', ev, q⟩ := h
  rw [evR] at ev
  obtain ⟨⟨x, S1⟩, ev1, ev⟩ := Mi.bind_some ev
  dsimp only at ev
  split at ev
  · refine ⟨W, S, ρ, a, true, S1, ev1, fun W1 e1 r1 => ?_⟩
    refine iteT ?_
    exact ⟨W1, S1, ρ, a.ext e1 r1, r, S', ev, fun W2 v e2 r2 p2 => q W2 v (e1.trans e2) r2 (p2.back e1)⟩
  · refine ⟨W, S, ρ, a, false, S1, ev1, fun W1 e1 r1 => ?_⟩
    refine iteF ?_
    exact ⟨W1, S1, ρ, a.ext e1 r1, r, S', ev, fun W2 v e2 r2 p2 => q W2 v (e1.trans e2) r2 (p2.back e1)⟩
  · cases ev

abbrev DAs (X : Cx) (Φ : Fns) (G : List D) (es : List Expr) (ms : MEs) : Prop := PA X es (tDs X.K Φ G ms)
abbrev DRs (X : Cx) (Φ : Fns) (G : List D) (es : List Expr) (ms : MEs) : Prop := PA X es (tRs X.K Φ G ms)
theorem da_nil : DAs X Φ G [] .nil := by
  refine PA.imp pa_nil fun σ H Q h => ?_
  obtain ⟨W, S, ρ, a, ds, S', ev, q⟩ := h
  rw [evs] at ev
  cases ev
  have := q W [] (Ext.refl W) a.rel .nil
  rw [a.1] at this; exact this
theorem da_cons {es : List Expr} {m : ME} {ms : MEs} (hs : starEach (e :: es) X.env = (false, eval e X.env) :: starEach es X.env) (h1 : DE X Φ G e m) (h2 : DAs X Φ G es ms) : DAs X Φ G (e :: es) (.cons m ms) := by
  refine PA.imp (pa_cons h1 h2 hs) fun σ H Q h => ?_
  obtain ⟨W, S, ρ, a, ds, S', ev, q⟩ := h
  rw [evs] at ev
  obtain ⟨⟨x, S1⟩, ev1, ev⟩ := Mi.bind_some ev
  obtain ⟨d, hd, ev⟩ := Mi.bind_some ev
  obtain ⟨⟨ds', S2⟩, ev2, ev⟩ := map_some ev
  cases ev
  refine ⟨W, S, ρ, a, x, S1, ev1, fun W1 v1 e1 r1 p1 => ?_⟩
  obtain ⟨W1', eH, e1', r1', p1'⟩ := p1.shut r1 e1 hd
  have := a.ext e1' r1'
  rw [eH] at this
  refine ⟨W1', S1, ρ, this, ds', S2, ev2, fun W2 vs e2 r2 p2 => ?_⟩
  exact q W2 _ (e1'.trans e2) r2 (.cons (Rep.ext r1' e2 d v1 p1') p2)
theorem dr_nil : DRs X Φ G [] .nil := by
  refine PA.imp pa_nil fun σ H Q h => ?_
  obtain ⟨W, S, ρ, a, ds, S', ev, q⟩ := h
  rw [evRs] at ev
  cases ev
  have := q W [] (Ext.refl W) a.rel rfl
  rw [a.1] at this; exact this
theorem dr_cons {es : List Expr} {m : ME} {ms : MEs} (hs : starEach (e :: es) X.env = (false, eval e X.env) :: starEach es X.env) (h1 : DE X Φ G e m) (h2 : DRs X Φ G es ms) : DRs X Φ G (e :: es) (.cons m ms) := by
  refine PA.imp (pa_cons h1 h2 hs) fun σ H Q h => ?_
  obtain ⟨W, S, ρ, a, ds, S', ev, q⟩ := h
  rw [evRs] at ev
  obtain ⟨⟨x, S1⟩, ev1, ev⟩ := Mi.bind_some ev
  obtain ⟨⟨ds', S2⟩, ev2, ev⟩ := map_some ev
  cases ev
  refine ⟨W, S, ρ, a, x, S1, ev1, fun W1 v1 e1 r1 p1 => ?_⟩
  refine ⟨W1, S1, ρ, a.ext e1 r1, ds', S2, ev2, fun W2 vs e2 r2 p2 => ?_⟩
  exact q W2 _ (e1.trans e2) r2 ⟨_, _, rfl, p1.ext r1 e2, p2.back e1⟩
theorem de_tup {es : List Expr} {ms : MEs} {k : Nat} (h : DAs X Φ G es ms) : DE X Φ G (.Tuple es k pos) (.tup ms) := by
  refine PE.imp (pe_tup h) fun σ H Q h => ?_
  obtain ⟨W, S, ρ, a, r, S', ev, q⟩ := h
  rw [evR] at ev
  obtain ⟨⟨ds, S1⟩, ev1, ev⟩ := Mi.bind_some ev
  dsimp only at ev
  split at ev
  · rename_i hz
    cases ev
    refine ⟨W, S, ρ, a, ds, _, ev1, fun W1 vs e1 r1 p1 => ⟨by rw [p1.length]; exact hz, fun p hp => ?_⟩⟩
    exact q ⟨W1.ms, W1.fz, _⟩ _ (e1.trans (Ext.laid hp)) (r1.laid hp) (Rep.laidT r1 hp p1)
  · cases ev
theorem de_lst {es : List Expr} {ms : MEs} (h : DAs X Φ G es ms) : DE X Φ G (.List es pos) (.lst ms) := by
  refine PE.imp (pe_lst h) fun σ H Q h => ?_
  obtain ⟨W, S, ρ, a, r, S', ev, q⟩ := h
  rw [evR] at ev
  obtain ⟨⟨ds, S1⟩, ev1, ev⟩ := Mi.bind_some ev
  dsimp only at ev
  split at ev
  · rename_i hz
    cases ev
    refine ⟨W, S, ρ, a, ds, _, ev1, fun W1 vs e1 r1 p1 => ⟨by rw [p1.length]; exact hz, fun p hp => ?_⟩⟩
    exact q ⟨W1.ms, W1.fz, _⟩ _ (e1.trans (Ext.laid hp)) (r1.laid hp) ((RepR.laid r1 hp p1).back e1)
  · cases ev

abbrev DO (X : Cx) (Φ : Fns) (G : List D) (e : Option Expr) (m : MO) : Prop := PO X e (tOp' X.K Φ G m)
theorem PO.imp {X : Cx} {e : Option Expr} {t t' : TO} (h : PO X e t) (i : ∀ σ H Q, t' σ H Q → t σ H Q) : PO X e t' := ⟨fun pins s σ H Q I q => h.run pins s σ H Q I (i σ H Q q)⟩
theorem do_no : DO X Φ G none .no := by
  refine PO.imp po_none fun σ H Q h => ?_
  obtain ⟨W, S, ρ, a, o, S', ev, q⟩ := h
  rw [evO] at ev
  cases ev
  have := q W (Ext.refl W) a.rel
  rw [a.1] at this; exact this
theorem do_yes {m : ME} (h : DE X Φ G e m) : DO X Φ G (some e) (.yes m) := by
  refine PO.imp (po_some h) fun σ H Q h => ?_
  obtain ⟨W, S, ρ, a, o, S', ev, q⟩ := h
  rw [evO] at ev
  obtain ⟨⟨x, S1⟩, ev1, ev⟩ := Mi.bind_some ev
  refine ⟨W, S, ρ, a, x, S1, ev1, fun W1 v1 e1 r1 p1 => ?_⟩
  dsimp only at ev
  split at ev
  · cases ev
    exact ⟨_, repr_int p1, q W1 e1 r1⟩
  · cases ev
theorem de_slc {m : ME} {lo hi : Option Expr} {ml mh : MO} {p2 : Pos} (h : DE X Φ G e m) (hl : DO X Φ G lo ml) (hh : DO X Φ G hi mh) : DE X Φ G (.Subscript e (.Slice lo hi none p2) pos) (.slc m ml mh) := by
  refine PE.imp (pe_slice sl_D h hl hh) fun σ H Q h => ?_
  obtain ⟨W, S, ρ, a, r, S', ev, q⟩ := h
  rw [evR] at ev
  obtain ⟨⟨x, S1⟩, ev1, ev⟩ := Mi.bind_some ev
  obtain ⟨⟨y, S2⟩, ev2, ev⟩ := Mi.bind_some ev
  obtain ⟨⟨z, S3⟩, ev3, ev⟩ := Mi.bind_some ev
  obtain ⟨t, ht, ev⟩ := map_some ev
  cases ev
  refine ⟨W, S, ρ, a, x, S1, ev1, fun W1 v1 e1 r1 p1 => ?_⟩
  have a1 := a.ext e1 r1
  refine ⟨W1, S1, ρ, a1, y, S2, ev2, fun W2 e2 r2 => ?_⟩
  refine ⟨W2, S2, ρ, a1.ext e2 r2, z, S3, ev3, fun W3 e3 r3 => ?_⟩
  refine ⟨W, W3, S3, x, _, rfl, r3, (p1.ext r1 e2).ext r2 e3, ht, fun W4 v e4 r4 p4 => ?_⟩
  have e13 := (e1.trans e2).trans e3
  exact q W4 v (e13.trans e4) r4 (p4.back e13)

theorem Rel.add {K : PySem.W.Frag} {W : Wd} {S : Sto} {p : Addr} {c : Cell} (r : Rel K W S) (h1 : p ∉ W.ms) (h2 : p ∉ W.fz) (h3 : CellOk K W p c) :
    (∀ ds vs, RepL K W ds vs → RepL K ⟨W.ms ++ [p], W.fz, W.H⟩ ds vs) → Rel K ⟨W.ms ++ [p], W.fz, W.H⟩ (S ++ [c]) := fun g => by
  refine ⟨by simp [r.len], ?_, fun l c' e => ?_, fun a ha hm => ?_, fun a ha => ?_⟩
  · show (W.ms ++ [p]).Nodup
    rw [List.nodup_append]
    exact ⟨r.nd, by simp, fun a ha b hb => by simp at hb; subst hb; exact fun z => h1 (z ▸ ha)⟩
  · by_cases hl : l < S.length
    · rw [List.getElem?_append_left hl] at e
      obtain ⟨a, e1, ok⟩ := r.cell l c' e
      refine ⟨a, ?_, ok.imp (fun _ z => z) g fun _ _ _ z => z⟩
      show (W.ms ++ [p])[l]? = _
      rw [List.getElem?_append_left (by rw [r.len]; exact hl)]; exact e1
    · rw [List.getElem?_append_right (by omega)] at e
      have hl' : l - S.length = 0 := by
        cases q : l - S.length with
        | zero => rfl
        | succ n => rw [q] at e; simp at e
      rw [hl'] at e
      have e := Option.some.inj e
      cases e
      refine ⟨p, ?_, h3.imp (fun _ z => z) g fun _ _ _ z => z⟩
      show (W.ms ++ [p])[l]? = _
      rw [List.getElem?_append_right (by rw [r.len]; omega), r.len, hl']; rfl
  · rcases List.mem_append.mp hm with hm | hm
    · exact r.apart a ha hm
    · simp at hm; subst hm; exact h2 ha
  · rcases ha with ha | ha
    · rcases List.mem_append.mp ha with ha | ha
      · exact r.dom a (.inl ha)
      · simp at ha; subst ha; show W.H a ≠ none; obtain ⟨o, e, _⟩ := h3.some; rw [e]; simp
    · exact r.dom a (.inr ha)
mutual
theorem Rep.add {K : PySem.W.Frag} {W : Wd} {p : Addr} : ∀ (d : D) (v : V), Rep K W d v → Rep K ⟨W.ms ++ [p], W.fz, W.H⟩ d v
  | .non, v, h => by unfold Rep at h ⊢; exact h
  | .bl _, v, h => by unfold Rep at h ⊢; exact h
  | .int _, v, h => by unfold Rep at h ⊢; exact h
  | .str _, v, h => by unfold Rep at h ⊢; exact h
  | .tup ds, v, h => by
    unfold Rep at h ⊢
    obtain ⟨a, vs, e1, e2, e3⟩ := h
    exact ⟨a, vs, e1, e2, RepL.add ds vs e3⟩
  | .lst ds, v, h => by
    unfold Rep at h ⊢
    obtain ⟨a, vs, e1, e2, e3, e4⟩ := h
    exact ⟨a, vs, e1, e2, e3, RepL.add ds vs e4⟩
  | .scr ds, v, h => by
    unfold Rep at h ⊢
    obtain ⟨a, vs, e1, e2, e4⟩ := h
    exact ⟨a, vs, e1, e2, RepL.add ds vs e4⟩
  | .ref l, v, h => by
    unfold Rep at h ⊢
    obtain ⟨a, e1, e2⟩ := h
    refine ⟨a, e1, ?_⟩
    show (W.ms ++ [p])[l]? = _
    rw [List.getElem?_append_left (List.getElem?_eq_some_iff.mp e2).1]; exact e2
  | .dct ks ds, v, h => by
    unfold Rep at h ⊢
    obtain ⟨a, vs, e1, e2, e3, e0, e4⟩ := h
    exact ⟨a, vs, e1, e2, e3, e0, RepL.add ds vs e4⟩
theorem RepL.add {K : PySem.W.Frag} {W : Wd} {p : Addr} : ∀ (ds : List D) (vs : List V), RepL K W ds vs → RepL K ⟨W.ms ++ [p], W.fz, W.H⟩ ds vs
  | [], vs, h => by unfold RepL at h ⊢; exact h
  | d :: ds, vs, h => by
    unfold RepL at h ⊢
    obtain ⟨v, q, e1, e2, e3⟩ := h
    exact ⟨v, q, e1, Rep.add d v e2, RepL.add ds q e3⟩
end
theorem Ext.add {W W' : Wd} {p : Addr} (e : Ext W W') (h : W.H p = none) : Ext W ⟨W'.ms ++ [p], W'.fz, W'.H⟩ := by
  refine ⟨?_, e.fz, e.keep, e.dom, fun a ha => ?_, e.nfz⟩
  · obtain ⟨t, q⟩ := e.ms
    exact ⟨t ++ [p], by show W'.ms ++ [p] = _; rw [q, List.append_assoc]⟩
  · rcases List.mem_append.mp ha with ha | ha
    · exact e.nms a ha
    · simp at ha; subst ha; exact .inr h
theorem de_new {m : ME} (h : DE X Φ G e m) : DE X Φ G e (.new m) := by
  refine PE.imp h fun σ H Q h => ?_
  obtain ⟨W, S, ρ, a, r, S', ev, q⟩ := h
  rw [evR] at ev
  obtain ⟨⟨x, S1⟩, ev1, ev⟩ := Mi.bind_some ev
  have key : ∀ {W1 : Wd} {p : Addr} {c : Cell}, Ext W W1 → Rel X.K W1 S1 → p ∉ W1.ms → p ∉ W1.fz → W.H p = none → CellOk X.K W1 p c → (∀ W' v, Ext W W' → Rel X.K W' (S1 ++ [c]) → RepR X.K W W' v (.val (.ref S1.length)) → Q v W'.H) → Q (.ref p) W1.H := fun {W1 p c} e1 r1 h3 h4 h0 ok q => by
    refine q ⟨W1.ms ++ [p], W1.fz, W1.H⟩ _ (e1.add h0) (r1.add h3 h4 ok fun _ _ => RepL.add _ _) ?_
    show Rep X.K _ (.ref S1.length) (.ref p)
    unfold Rep
    refine ⟨p, rfl, ?_⟩
    show (W1.ms ++ [p])[S1.length]? = _
    rw [List.getElem?_append_right (by rw [r1.len]; exact Nat.le_refl _), r1.len, Nat.sub_self]; rfl
  dsimp only at ev
  split at ev
  · cases ev
    refine ⟨W, S, ρ, a, _, S1, ev1, fun W1 v1 e1 r1 p1 => ?_⟩
    obtain ⟨p, vs, rfl, h2, h3, h4, h0, h5⟩ := p1
    exact key (c := .lst _) e1 r1 h3 h4 h0 ⟨vs, h2, h5⟩ q
  · cases ev
    refine ⟨W, S, ρ, a, _, S1, ev1, fun W1 v1 e1 r1 p1 => ?_⟩
    obtain ⟨p, vs, rfl, h2, el, h3, h4, h0, h5⟩ := p1
    exact key (c := .dct _ _) e1 r1 h3 h4 h0 ⟨vs, h2, el, h5⟩ q
  · cases ev
end
end Mi
end
noncomputable section
namespace Mi
open PySem PySem.Spec L2
section
variable {K : PySem.W.Frag} {W : Wd} {S : Sto} {p : Addr} {o : HO} {kv0 : List (Key × V)}
mutual
theorem Rep.chg (h1 : W.H p = some (.dK kv0)) (h2 : p ∉ W.fz) : ∀ (d : D) (v : V), Rep K W d v → Rep K ⟨W.ms, W.fz, upd W.H p o⟩ d v
  | .non, v, h => by unfold Rep at h ⊢; exact h
  | .bl _, v, h => by unfold Rep at h ⊢; exact h
  | .int _, v, h => by unfold Rep at h ⊢; exact h
  | .str _, v, h => by unfold Rep at h ⊢; exact h
  | .tup ds, v, h => by
    unfold Rep at h ⊢
    obtain ⟨a, vs, e1, e2, e3⟩ := h
    refine ⟨a, vs, e1, ?_, RepL.chg h1 h2 ds vs e3⟩
    rcases e2 with (e2 | ⟨ob, e2⟩) | e2
    · refine .inl (.inl ?_)
      show upd W.H p o a = _
      rw [upd_ne (fun z => by subst z; rw [h1] at e2; cases e2)]; exact e2
    · refine .inl (.inr ⟨ob, ?_⟩)
      show upd W.H p o a = _
      rw [upd_ne (fun z => by subst z; rw [h1] at e2; cases e2)]; exact e2
    · exact .inr e2
  | .lst ds, v, h => by
    unfold Rep at h ⊢
    obtain ⟨a, vs, e1, e2, e3, e4⟩ := h
    refine ⟨a, vs, e1, e2, ?_, RepL.chg h1 h2 ds vs e4⟩
    show upd W.H p o a = _
    rw [upd_ne (fun z => by subst z; exact h2 e2)]; exact e3
  | .scr ds, v, h => by
    unfold Rep at h ⊢
    obtain ⟨a, vs, e1, e2, e4⟩ := h
    refine ⟨a, vs, e1, e2.imp (fun z => ⟨z.1, ?_⟩) id, RepL.chg h1 h2 ds vs e4⟩
    have ne : a ≠ p := fun y => by subst y; exact h2 z.1
    rcases z.2 with y | ⟨ob, y⟩
    · refine .inl ?_
      show upd W.H p o a = _
      rw [upd_ne ne]; exact y
    · refine .inr ⟨ob, ?_⟩
      show upd W.H p o a = _
      rw [upd_ne ne]; exact y
  | .ref l, v, h => by unfold Rep at h ⊢; exact h
  | .dct ks ds, v, h => by
    unfold Rep at h ⊢
    obtain ⟨a, vs, e1, e2, e3, e0, e4⟩ := h
    refine ⟨a, vs, e1, e2, ?_, e0, RepL.chg h1 h2 ds vs e4⟩
    show upd W.H p o a = _
    rw [upd_ne (fun z => by subst z; exact h2 e2)]; exact e3
theorem RepL.chg (h1 : W.H p = some (.dK kv0)) (h2 : p ∉ W.fz) : ∀ (ds : List D) (vs : List V), RepL K W ds vs → RepL K ⟨W.ms, W.fz, upd W.H p o⟩ ds vs
  | [], vs, h => by unfold RepL at h ⊢; exact h
  | d :: ds, vs, h => by
    unfold RepL at h ⊢
    obtain ⟨v, q, e1, e2, e3⟩ := h
    exact ⟨v, q, e1, Rep.chg h1 h2 d v e2, RepL.chg h1 h2 ds q e3⟩
end
theorem Rel.chg (r : Rel K W S) (h1 : W.H p = some (.dK kv0)) (h2 : p ∉ W.fz) (h3 : p ∉ W.ms) : Rel K ⟨W.ms, W.fz, upd W.H p o⟩ S := by
  have dm : ∀ a, W.H a ≠ none → upd W.H p o a ≠ none := fun a z => by
    by_cases q : a = p
    · subst q; rw [upd_same]; simp
    · rw [upd_ne q]; exact z
  refine ⟨r.len, r.nd, fun l c q => ?_, fun a ha => ?_, fun a ha => ?_⟩
  · obtain ⟨a, e1, ok⟩ := r.cell l c q
    refine ⟨a, e1, ok.imp (fun o' e2 => ?_) (RepL.chg h1 h2) fun c q hx z => (upd_ne (fun e => by subst e; rw [h1] at z; rcases hx with ⟨q, rfl⟩ | ⟨fs, rfl⟩; exact code_dK (Option.some.inj z); cases z)).trans z⟩
    show upd W.H p o a = _
    rw [upd_ne (fun z => by subst z; exact h3 (List.mem_of_getElem? e1))]; exact e2
  · exact r.apart a ha
  · exact dm a (r.dom a ha)
end

inductive KeyE (X : Cx) : List (Option Expr) → List Key → Prop
  | nil : KeyE X [] []
  | cons {e : Expr} {k : Key} {es : List (Option Expr)} {ks : List Key} : PE X e (tC (kV k)) → KeyE X es ks → KeyE X (some e :: es) (k :: ks)
inductive ValE (X : Cx) (Φ : Fns) (G : List D) : List Expr → MEs → Prop
  | nil : ValE X Φ G [] .nil
  | cons {e : Expr} {m : ME} {es : List Expr} {ms : MEs} : DE X Φ G e m → ValE X Φ G es ms → ValE X Φ G (e :: es) (.cons m ms)
theorem KeyE.len {X : Cx} {kes : List (Option Expr)} {ks : List Key} (h : KeyE X kes ks) : kes.length = ks.length ∧ kes.all (·.isSome) = true := by
  induction h with
  | nil => exact ⟨rfl, rfl⟩
  | cons _ _ ih => exact ⟨by rw [List.length_cons, List.length_cons, ih.1], by rw [List.all_cons, ih.2]; rfl⟩
theorem pairs_ok {X : Cx} {Φ : Fns} {G : List D} {pos : Pos} : ∀ {kes : List (Option Expr)} {ks : List Key} {es : List Expr} {ms : MEs}, KeyE X kes ks → ValE X Φ G es ms → kes.length = es.length →
    ∃ trs, PPs X pos kes es trs ∧ ∀ σ H Q, (∃ W S ρ, At X.K W S ρ σ H ∧ ∃ ds S', evs Φ G ρ ms S = some (ds, S') ∧ ∀ W' vs, Ext W W' → Rel X.K W' S' → RepL X.K W' ds vs → Q ((ks.zip vs).map fun kv => (kV kv.1, kv.2)) W'.H) → tPairs trs σ H Q
  | [], ks, [], ms, hk, hv, _ => by
    cases hk; cases hv
    refine ⟨[], pps_nil, fun σ H Q ⟨W, S, ρ, a, ds, S', ev, q⟩ => ?_⟩
    rw [evs] at ev
    cases ev
    have := q W [] (Ext.refl W) a.rel .nil
    rw [a.1] at this
    exact this
  | [], ks, e :: es, ms, hk, hv, hl => by cases hl
  | _ :: _, ks, [], ms, hk, hv, hl => by cases hl
  | ke :: kes, ks, e :: es, ms, hk, hv, hl => by
    cases hk with
    | cons pk hk =>
      cases hv with
      | cons de hv =>
        obtain ⟨trs, pp, rd⟩ := pairs_ok (pos := pos) hk hv (by simpa using hl)
        refine ⟨_, pps_cons pk de pp, fun σ H Q ⟨W, S, ρ, a, ds, S', ev, q⟩ => ?_⟩
        rw [evs] at ev
        obtain ⟨⟨x, S1⟩, ev1, ev⟩ := Mi.bind_some ev
        obtain ⟨d, hd, ev⟩ := Mi.bind_some ev
        obtain ⟨⟨ds', S2⟩, ev2, ev⟩ := map_some ev
        cases ev
        unfold tPairs tC
        refine ⟨W, S, ρ, a, x, S1, ev1, fun W1 v1 e1 r1 p1 => rd _ _ _ ?_⟩
        obtain ⟨W1', eH, e1', r1', p1'⟩ := p1.shut r1 e1 hd
        have a' := a.ext e1' r1'
        rw [eH] at a'
        exact ⟨W1', S1, ρ, a', ds', S2, ev2, fun W2 vs e2 r2 p2 => q W2 _ (e1'.trans e2) r2 (.cons (Rep.ext r1' e2 d v1 p1') p2)⟩
theorem putK_fresh {ks : List (Key × V)} {k : Key} {v : V} (h : k ∉ ks.map (·.1)) : putK ks k v = ks ++ [(k, v)] := by
  refine putK_new v ?_
  induction ks with
  | nil => rfl
  | cons p r ih =>
    rw [List.map_cons, List.mem_cons, not_or] at h
    rw [valV_neg (fun z => h.1 z.symm)]
    exact ih h.2
theorem mergeK_fresh : ∀ (more acc : List (Key × V)), (acc.map (·.1) ++ more.map (·.1)).Nodup → mergeK acc more = acc ++ more
  | [], acc, _ => by unfold mergeK; simp
  | p :: r, acc, h => by
    have e : mergeK acc (p :: r) = mergeK (putK acc p.1 p.2) r := rfl
    rw [List.map_cons] at h
    have hp : p.1 ∉ acc.map (·.1) := fun z => (List.nodup_append.mp h).2.2 _ z _ List.mem_cons_self rfl
    rw [e, putK_fresh hp, mergeK_fresh r (acc ++ [(p.1, p.2)]) (by rw [List.map_append, List.append_assoc]; exact h), List.append_assoc]
    rfl
theorem zip_keys : ∀ {ks : List Key} {vs : List V}, ks.length = vs.length → (ks.zip vs).map (·.1) = ks
  | [], [], _ => rfl
  | k :: ks, v :: vs, h => by
    rw [List.zip_cons_cons, List.map_cons, zip_keys (by simpa using h)]
  | [], _ :: _, h => by cases h
  | _ :: _, [], h => by cases h
section
variable {X : Cx} {Φ : Fns} {G : List D} {pos : Pos}
theorem de_dct {kes : List (Option Expr)} {es : List Expr} {ks : List Key} {ms : MEs} (hk : KeyE X kes ks) (hv : ValE X Φ G es ms) (hl : kes.length = es.length) (h0 : kes ≠ []) (h15 : kes.length ≤ 15) : DE X Φ G (.Dict kes es pos) (.dct ks ms) := by
  obtain ⟨trs, pp, rd⟩ := pairs_ok (pos := pos) hk hv hl
  refine PE.imp (pe_disp pp hk.len.2 hl h0 h15) fun σ H Q h => ?_
  obtain ⟨W, S, ρ, a, r, S', ev, q⟩ := h
  rw [evR] at ev
  obtain ⟨⟨ds, S1⟩, ev1, ev⟩ := Mi.bind_some ev
  dsimp only at ev
  split at ev
  · rename_i hc
    cases ev
    intro p hp
    obtain ⟨eH, rel, sl⟩ := a
    subst eH
    have e0 : Ext W ⟨W.ms, W.fz, upd W.H p (.dK [])⟩ := Ext.laid hp
    have r0 := rel.laid (o := .dK []) hp
    have a0 : At X.K ⟨W.ms, W.fz, upd W.H p (.dK [])⟩ S ρ σ (upd W.H p (.dK [])) := At.ext ⟨rfl, rel, sl⟩ e0 r0
    refine rd σ _ _ ⟨⟨W.ms, W.fz, upd W.H p (.dK [])⟩, S, ρ, a0, ds, _, ev1, fun W1 vs e1 r1 p1 => ?_⟩
    have hlen : ks.length = vs.length := by rw [p1.length]; exact hc.1.symm
    have hpm : p ∉ W.ms := (rel.pms hp).1
    have hpf : p ∉ W.fz := (rel.pms hp).2
    have h1 : W1.H p = some (.dK []) := e1.keep p _ upd_same hpm
    have h2 : p ∉ W1.fz := fun z => (e1.nfz p z).elim hpf fun y => by
      have y : upd W.H p (HO.dK []) p = none := y
      rw [upd_same] at y; cases y
    have h3 : p ∉ W1.ms := fun z => (e1.nms p z).elim hpm fun y => by
      have y : upd W.H p (HO.dK []) p = none := y
      rw [upd_same] at y; cases y
    refine ⟨h1, ks.zip vs, rfl, by rw [List.length_zip]; omega, ?_⟩
    have hm : mergeK [] (ks.zip vs) = ks.zip vs := by
      rw [mergeK_fresh _ _ (by rw [List.map_nil, List.nil_append, zip_keys hlen]; exact hc.2.1)]; rfl
    rw [hm]
    refine q ⟨W1.ms, W1.fz, upd W1.H p (.dK (ks.zip vs))⟩ _ ?_ (r1.chg h1 h2 h3) ?_
    · have e01 := e0.trans e1
      refine ⟨e01.ms, e01.fz, fun x u hx n => ?_, fun x hx => ?_, e01.nms, e01.nfz⟩
      · show upd W1.H p _ x = _
        rw [upd_ne (ne_of_none hx hp)]
        exact e01.keep x u hx n
      · show upd W1.H p _ x ≠ none
        by_cases z : x = p
        · subst z; rw [upd_same]; simp
        · rw [upd_ne z]; exact e01.dom x hx
    · exact ⟨p, vs, rfl, upd_same, hc.1.symm, h3, h2, hp, RepL.chg h1 h2 ds vs p1⟩
  · cases ev
theorem valV_zip {K : PySem.W.Frag} {W : Wd} (k : Key) : ∀ {ks : List Key} {ds : List D} {vs : List V}, RepL K W ds vs → (∀ d, valD ks ds k = some d → ∃ v, valV (ks.zip vs) k = some v ∧ Rep K W d v) ∧ (valD ks ds k = none → ks.length = ds.length → valV (ks.zip vs) k = none)
  | [], ds, vs, h => ⟨fun d e => (by unfold valD at e; cases e), fun _ _ => by rw [List.zip_nil_left]; rfl⟩
  | q :: ks, [], vs, h => ⟨fun d e => (by unfold valD at e; cases e), fun _ z => by cases z⟩
  | q :: ks, d :: ds, vs, h => by
    obtain ⟨v, r, rfl, h1, h2⟩ := h.cons_inv
    have ih := valV_zip k (ks := ks) h2
    rw [List.zip_cons_cons]
    by_cases e : q = k
    · refine ⟨fun d' z => ?_, fun z => ?_⟩
      · unfold valD at z
        rw [if_pos e] at z
        cases z
        exact ⟨v, valV_pos e, h1⟩
      · unfold valD at z
        rw [if_pos e] at z
        cases z
    · refine ⟨fun d' z => ?_, fun z l => ?_⟩
      · unfold valD at z
        rw [if_neg e] at z
        rw [valV_neg e]
        exact ih.1 d' z
      · unfold valD at z
        rw [if_neg e] at z
        rw [valV_neg e]
        exact ih.2 z (by simpa using l)
theorem key_repr {K : PySem.W.Frag} {W W' : Wd} {v : V} {x : Rt} {k : Key} (h : RepR K W W' v x) (e : x.key? = some k) : v = kV k := by
  cases x with
  | own _ => cases e
  | bor _ => cases e
  | ownd _ _ => cases e
  | val d =>
    have h : Rep K W' d v := h
    cases d with
    | int i => cases e; unfold Rep at h; exact h
    | str x => cases e; unfold Rep at h; exact h
    | non => cases e
    | bl _ => cases e
    | tup _ => cases e
    | lst _ => cases e
    | scr _ => cases e
    | ref _ => cases e
    | dct _ _ => cases e
theorem tR_mono {K : PySem.W.Frag} {m : ME} {σ : St} {H : Hp} {Q Q' : VK} (h : tR K Φ G m σ H Q) (i : ∀ v H, Q v H → Q' v H) : tR K Φ G m σ H Q' := by
  obtain ⟨W, S, ρ, a, r, S', ev, q⟩ := h
  exact ⟨W, S, ρ, a, r, S', ev, fun W' v e r p => i _ _ (q W' v e r p)⟩
variable {e1 e2 e3 : Expr} {apos cpos : Pos}
theorem de_dgt {m1 m2 : ME} (hu : X.A.units + 1 < cLine) (hs : NoSl e2) (h1 : DE X Φ G e1 m1) (h2 : DE X Φ G e2 m2) : DE X Φ G (.Subscript e1 e2 pos) (.dgt m1 m2) := by
  refine PE.imp (pe_dget hu h1 h2 hs) fun σ H Q h => ?_
  obtain ⟨W, S, ρ, a, r, S', ev, q⟩ := h
  rw [evR] at ev
  obtain ⟨⟨x, S1⟩, ev1, ev⟩ := Mi.bind_some ev
  obtain ⟨⟨y, S2⟩, ev2, ev⟩ := Mi.bind_some ev
  obtain ⟨t, ht, ev⟩ := Mi.bind_some ev
  obtain ⟨k, hk, ev⟩ := Mi.bind_some ev
  obtain ⟨d, hd, ev⟩ := map_some ev
  cases ev
  refine ⟨W, S, ρ, a, x, S1, ev1, fun W1 v1 f1 r1 p1 => ⟨W1, S1, ρ, a.ext f1 r1, y, _, ev2, fun W2 v2 f2 r2 p2 => ?_⟩⟩
  obtain ⟨p, vs, rfl, g1, _, g2⟩ := (p1.ext r1 f2).dv r2 ht
  have g3 := key_repr p2 hk
  subst g3
  obtain ⟨v, g4, g5⟩ := (valV_zip k (ks := t.1) g2).1 d hd
  refine ⟨p, v, rfl, ?_, q W2 _ (f1.trans f2) r2 g5⟩
  rw [← g4]
  exact DGet.k g1
theorem de_din {m1 m2 : ME} {n : Bool} (hu : X.A.units + 1 < cLine) (h1 : DE X Φ G e1 m1) (h2 : DE X Φ G e2 m2) (hm : behindInMarks (if n then .NotIn else .In) e2 = false) : DE X Φ G (.Compare e1 [if n then .NotIn else .In] [e2] pos) (.din n m1 m2) := by
  have core : ∀ σ H Q, tR X.K Φ G (.din n m1 m2) σ H Q → tR X.K Φ G m1 σ H fun y H1 => tR X.K Φ G m2 σ H1 fun x H2 => ∃ a o, x = .ref a ∧ DGet H2 a y o ∧ Q (.bl (xor n o.isSome)) H2 := fun σ H Q h => by
    obtain ⟨W, S, ρ, a, r, S', ev, q⟩ := h
    rw [evR] at ev
    obtain ⟨⟨x, S1⟩, ev1, ev⟩ := Mi.bind_some ev
    obtain ⟨⟨y, S2⟩, ev2, ev⟩ := Mi.bind_some ev
    obtain ⟨k, hk, ev⟩ := Mi.bind_some ev
    obtain ⟨t, ht, ev⟩ := map_some ev
    cases ev
    refine ⟨W, S, ρ, a, x, S1, ev1, fun W1 v1 f1 r1 p1 => ⟨W1, S1, ρ, a.ext f1 r1, y, _, ev2, fun W2 v2 f2 r2 p2 => ?_⟩⟩
    obtain ⟨p, vs, rfl, g1, g0, g2⟩ := p2.dv r2 ht
    have g3 := key_repr p1 hk
    subst g3
    refine ⟨p, valV (t.1.zip vs) k, rfl, DGet.k g1, ?_⟩
    have g4 := valV_zip k (ks := t.1) g2
    have g5 : (valV (t.1.zip vs) k).isSome = (valD t.1 t.2 k).isSome := by
      cases hd : valD t.1 t.2 k with
      | none => rw [g4.2 hd g0]; rfl
      | some d => obtain ⟨v, z, _⟩ := g4.1 d hd; rw [z]; rfl
    rw [g5]
    exact q W2 _ (f1.trans f2) r2 bl_repr
  cases n with
  | false =>
    refine PE.imp (pe_cmp (pc_din hu h1 h2) hm) fun σ H Q h => ?_
    have := core σ H Q h
    simp only [Bool.false_xor] at this
    exact this
  | true =>
    refine PE.imp (pe_cmp (pc_dnotin hu h1 h2) hm) fun σ H Q h => ?_
    have := core σ H Q h
    simp only [Bool.true_xor] at this
    exact this
theorem dt_din {m1 m2 : ME} {n : Bool} (hu : X.A.units + 1 < cLine) (h1 : DE X Φ G e1 m1) (h2 : DE X Φ G e2 m2) (hm : behindInMarks (if n then .NotIn else .In) e2 = false) : DT X Φ G (.Compare e1 [if n then .NotIn else .In] [e2] pos) (.din n m1 m2) := by
  have core : ∀ σ H (Q : Bool → Hp → Prop), tBl X.K Φ G (.din n m1 m2) σ H Q → tR X.K Φ G m1 σ H fun y H1 => tR X.K Φ G m2 σ H1 fun x H2 => ∃ a o, x = .ref a ∧ DGet H2 a y o ∧ Q (xor n o.isSome) H2 := fun σ H Q h => by
    obtain ⟨W, S, ρ, a, b, S', ev, q⟩ := h
    rw [evR] at ev
    obtain ⟨⟨x, S1⟩, ev1, ev⟩ := Mi.bind_some ev
    obtain ⟨⟨y, S2⟩, ev2, ev⟩ := Mi.bind_some ev
    obtain ⟨k, hk, ev⟩ := Mi.bind_some ev
    obtain ⟨t, ht, ev⟩ := map_some ev
    cases ev
    refine ⟨W, S, ρ, a, x, S1, ev1, fun W1 v1 f1 r1 p1 => ⟨W1, S1, ρ, a.ext f1 r1, y, _, ev2, fun W2 v2 f2 r2 p2 => ?_⟩⟩
    obtain ⟨p, vs, rfl, g1, g0, g2⟩ := p2.dv r2 ht
    have g3 := key_repr p1 hk
    subst g3
    refine ⟨p, valV (t.1.zip vs) k, rfl, DGet.k g1, ?_⟩
    have g4 := valV_zip k (ks := t.1) g2
    have g5 : (valV (t.1.zip vs) k).isSome = (valD t.1 t.2 k).isSome := by
      cases hd : valD t.1 t.2 k with
      | none => rw [g4.2 hd g0]; rfl
      | some d => obtain ⟨v, z, _⟩ := g4.1 d hd; rw [z]; rfl
    rw [g5]
    exact q W2 (f1.trans f2) r2
  cases n with
  | false =>
    refine PT.imp (pt_cmp (pc_din hu h1 h2) hm) fun σ H Q h => ?_
    have z := core σ H Q h
    simp only [Bool.false_xor] at z
    exact tR_mono z fun y H1 w => tR_mono w fun x H2 ⟨a, o, g1, g2, g3⟩ => ⟨a, o, g1, g2, _, rfl, g3⟩
  | true =>
    refine PT.imp (pt_cmp (pc_dnotin hu h1 h2) hm) fun σ H Q h => ?_
    have z := core σ H Q h
    simp only [Bool.true_xor] at z
    exact tR_mono z fun y H1 w => tR_mono w fun x H2 ⟨a, o, g1, g2, g3⟩ => ⟨a, o, g1, g2, _, rfl, g3⟩
theorem RepR.dvV {K : PySem.W.Frag} {W W' : Wd} {v : V} {x : Rt} {ks : List Key} {ds : List D} (h : RepR K W W' v x) (e : x.dctV? = some (ks, ds)) : ∃ a vs, v = .ref a ∧ W'.H a = some (.dK (ks.zip vs)) ∧ ks.length = ds.length ∧ RepL K W' ds vs := by
  cases x with
  | own _ => cases e
  | bor _ => cases e
  | ownd ks' ds' =>
    cases e
    obtain ⟨p, vs, e1, e2, el, e3, e4, e0, e5⟩ := h
    exact ⟨p, vs, e1, e2, el, e5⟩
  | val d =>
    cases d with
    | dct ks' ds' =>
      cases e
      have h : Rep K W' (.dct ks ds) v := h
      unfold Rep at h
      obtain ⟨a, vs, e1, _, e3, el, e4⟩ := h
      exact ⟨a, vs, e1, e3, el, e4⟩
    | _ => cases e
theorem de_dg2 {m1 m2 m3 : ME} (hu : X.A.units + 1 < cLine) (h1 : DE X Φ G e1 m1) (h2 : DE X Φ G e2 m2) (h3 : DE X Φ G e3 m3) (m : M2 X e1 "get" apos e2 e3 cpos) : DE X Φ G (.Call (.Attribute e1 "get" apos) [e2, e3] [] cpos) (.o3 .get m1 m2 m3) := by
  refine PE.imp (pe_dget2 hu h1 h2 h3 m) fun σ H Q h => ?_
  obtain ⟨W, S, ρ, a, r, S', ev, q⟩ := h
  rw [evR] at ev
  obtain ⟨⟨x, S1⟩, ev1, ev⟩ := Mi.bind_some ev
  obtain ⟨⟨y, S2⟩, ev2, ev⟩ := Mi.bind_some ev
  obtain ⟨⟨z, S3⟩, ev3, ev⟩ := Mi.bind_some ev
  change (x.dctV?.bind fun t => y.key?.bind fun q => z.val?.map fun e => (Rt.val ((valD t.1 t.2 q).getD e), S3)) = _ at ev
  obtain ⟨t, ht, ev⟩ := Mi.bind_some ev
  obtain ⟨k, hk, ev⟩ := Mi.bind_some ev
  obtain ⟨f, hf, ev⟩ := map_some ev
  cases ev
  refine ⟨W, S, ρ, a, x, S1, ev1, fun W1 v1 f1 r1 p1 => ?_⟩
  obtain ⟨p, vs, rfl, g1, g0, g2⟩ := p1.dvV ht
  refine ⟨p, rfl, .inl ⟨_, .inl g1⟩, W1, S1, ρ, a.ext f1 r1, y, _, ev2, fun W2 v2 f2 r2 p2 => ⟨W2, S2, ρ, (a.ext f1 r1).ext f2 r2, z, _, ev3, fun W3 v3 f3 r3 p3 => ?_⟩⟩
  obtain ⟨p', vs', e', g1', g0', g2'⟩ := ((p1.ext r1 f2).ext r2 f3).dvV ht
  cases e'
  have g3 := key_repr p2 hk
  subst g3
  refine ⟨_, DGet.k g1', ?_⟩
  have g4 := valV_zip k (ks := t.1) g2'
  refine q W3 _ ((f1.trans f2).trans f3) r3 ?_
  show Rep X.K W3 _ _
  cases hd : valD t.1 t.2 k with
  | none =>
    rw [g4.2 hd g0']
    rw [val?_some (r := z) hf] at p3
    exact p3
  | some d =>
    obtain ⟨v, z, w⟩ := g4.1 d hd
    rw [z]
    exact w
end
end Mi
end
noncomputable section
namespace Mi
open PySem PySem.Spec L2
noncomputable def okBase : Expr → Bool
  | .Call (.Name _ _) [] [] _ => false
  | _ => true
theorem base_of {o : Expr} {nm : Str} {env : PySem.Env} {w : Sem Value} (h : okBase o = true) : attributeBase o nm env w = w := by
  cases o with
  | Call f as ks p =>
    cases f with
    | Name x q =>
      cases as with
      | nil =>
        cases ks with
        | nil => cases h
        | cons _ _ => rfl
      | cons _ _ => rfl
    | _ => rfl
  | _ => rfl
section
variable {X : Cx} {Φ : Fns} {G : List D} {e e1 e2 e3 : Expr} {pos apos cpos p p2 : Pos}

theorem one_op {P : P1} {m1 : ME} {σ : St} {H : Hp} {Q : VK} (h : tR X.K Φ G (.o1 P m1) σ H Q) : tR X.K Φ G m1 σ H fun x H1 => ∃ W0 W S r S' a, W.H = H1 ∧ Rel X.K W S ∧ RepR X.K W0 W x a ∧ P.run G S a = some (r, S') ∧
    ∀ W' v, Ext W W' → Rel X.K W' S' → RepR X.K W W' v r → Q v W'.H := by
  obtain ⟨W, S, ρ, a, r, S', ev, q⟩ := h
  rw [evR] at ev
  obtain ⟨⟨x, S1⟩, ev1, ev⟩ := Mi.bind_some ev
  refine ⟨W, S, ρ, a, x, S1, ev1, fun W1 v1 f1 r1 p1 => ⟨W, W1, S1, r, S', x, rfl, r1, p1, ev, fun W2 v f2 r2 p2 => q W2 v (f1.trans f2) r2 (p2.back f1)⟩⟩
theorem two_op2 {P : P2} {m1 m2 : ME} {σ : St} {H : Hp} {Q : VK} (h : tR X.K Φ G (.o2 P m1 m2) σ H Q) : tR X.K Φ G m1 σ H fun x H1 => (∃ W0 W S a, W.H = H1 ∧ Rel X.K W S ∧ RepR X.K W0 W x a ∧ P.pre S a = true ∧ ∃ b S2 ρ, evR Φ G ρ m2 S = some (b, S2) ∧ ∃ r S', P.run G S2 a b = some (r, S')) ∧ tR X.K Φ G m2 σ H1 fun y H2 => ∃ W0 W1 W S r S' a b, W.H = H2 ∧ Rel X.K W S ∧ RepR X.K W0 W x a ∧ RepR X.K W1 W y b ∧ P.run G S a b = some (r, S') ∧
    ∀ W' v, Ext W W' → Rel X.K W' S' → RepR X.K W W' v r → Q v W'.H := by
  obtain ⟨W, S, ρ, a, r, S', ev, q⟩ := h
  rw [evR] at ev
  obtain ⟨⟨x, S1⟩, ev1, ev⟩ := Mi.bind_some ev
  split at ev
  · rename_i hp
    obtain ⟨⟨y, S2⟩, ev2, ev⟩ := Mi.bind_some ev
    refine ⟨W, S, ρ, a, x, S1, ev1, fun W1 v1 f1 r1 p1 => ⟨⟨W, W1, S1, x, rfl, r1, p1, hp, y, S2, ρ, ev2, r, S', ev⟩, W1, S1, ρ, a.ext f1 r1, y, S2, ev2, fun W2 v2 f2 r2 p2 =>
      ⟨W, W1, W2, S2, r, S', x, y, rfl, r2, p1.ext r1 f2, p2, ev, fun W3 v f3 r3 p3 => q W3 v ((f1.trans f2).trans f3) r3 (p3.back (f1.trans f2))⟩⟩⟩
  · cases ev
theorem RepL.eraseIdx {K : PySem.W.Frag} {W : Wd} : ∀ (n : Nat) {ds : List D} {vs : List V}, RepL K W ds vs → RepL K W (ds.eraseIdx n) (vs.eraseIdx n)
  | _, [], _, h => by rw [h.nil_inv]; exact .nil
  | 0, d :: ds, _, h => by
    obtain ⟨v, r, rfl, q, t'⟩ := h.cons_inv
    exact t'
  | n + 1, d :: ds, _, h => by
    obtain ⟨v, r, rfl, q, t'⟩ := h.cons_inv
    exact .cons q (RepL.eraseIdx n t')
theorem few_one {cpos : Pos} (hs : starEach [e2] X.env = (false, eval e2 X.env) :: starEach [] X.env) : ((backTo cpos (starEach [e2] X.env)).all (fun x => !x.1) && (backToKw cpos (keywordEach [] X.env)).all (fun x => x.1.isSome)
      && decide (([e2] : List Expr).length + ([] : List Keyword).length + (if ([] : List Keyword).isEmpty then 0 else 1) < 30)) = true := by
  rw [hs]; rfl
theorem cell_ty {K : PySem.W.Frag} {W0 W : Wd} {S : Sto} {v : V} {l : Nat} {ds : List D} (rel : Rel K W S) (h : RepR K W0 W v (.val (.ref l))) (hc : S[l]? = some (.lst ds)) : ∃ p vs, v = .ref p ∧ W.ms[l]? = some p ∧ W.H p = some (.lst vs) ∧ RepL K W ds vs := by
  have h : Rep K W (.ref l) v := h
  unfold Rep at h
  obtain ⟨a, e1, e2⟩ := h
  obtain ⟨b, vs, q1, q2, q3⟩ := rel.cells l _ hc
  rw [e2] at q1; cases q1
  exact ⟨a, vs, e1, e2, q2, q3⟩
theorem split_repr {K : PySem.W.Frag} {W : Wd} {S : Sto} {ys : List Str} {q1 : Addr} (rel : Rel K W S) (hq : W.H q1 = none) : RepR K W ⟨W.ms, W.fz, upd W.H q1 (.lst (ys.map V.str))⟩ (.ref q1) (.own (ys.map .str)) := RepR.laid rel hq (RepL.ofStrs ys)
theorem de_split {m1 m2 : ME} (hs : starEach [e2] X.env = [(false, eval e2 X.env)]) (hb : okBase e1 = true) (hl : (apos.endLine == pos.line) = true) (h1 : DE X Φ G e1 m1) (h2 : DE X Φ G e2 m2) : DE X Φ G (.Call (.Attribute e1 "split" apos) [e2] [] pos) (.o2 .split m1 m2) := by
  refine PE.imp (pe_split h1 h2 hs (base_of hb) hl) fun σ H Q h => ?_
  refine tR_mono (two_op2 h) fun x H1 ⟨⟨W0, W, S, a, eH, rel, ra, hpre, b, S2, ρ, ev2, r, S', hr⟩, h⟩ => ?_
  subst eH
  have hx : ∃ z, x = .str z := by
    change (a.str?.bind _) = _ at hr
    obtain ⟨z, hz, _⟩ := Mi.bind_some hr
    exact ⟨z, repr_str (str?_some hz ▸ ra)⟩
  refine ⟨hx, ?_⟩
  refine tR_mono h fun y H2 ⟨W0, W1, W, S, r, S', a, b, eH, rel, ra, rb, hr, q⟩ => ?_
  subst eH
  change (a.str?.bind fun a => b.str?.bind fun b => if (b.length == 0) = false ∧ a.length + 2 ≤ sizeLine then some (Rt.own ((Txt.split a b).map .str), S) else none) = _ at hr
  obtain ⟨z, hz, hr⟩ := Mi.bind_some hr
  obtain ⟨z2, hz2, hr⟩ := Mi.bind_some hr
  split at hr
  · rename_i hc
    cases hr
    have f2 : y = .str z2 := repr_str (str?_some hz2 ▸ rb)
    refine ⟨z, z2, repr_str (str?_some hz ▸ ra), by rw [f2], hc.1, hc.2, fun q1 hq => ?_⟩
    exact q ⟨W.ms, W.fz, _⟩ _ (Ext.laid hq) (rel.laid hq) (split_repr rel hq)
  · cases hr
theorem de_join {m1 m2 : ME} (hs : starEach [e2] X.env = [(false, eval e2 X.env)]) (hb : okBase e1 = true) (hl : (apos.endLine == pos.line) = true) (h1 : DE X Φ G e1 m1) (h2 : DE X Φ G e2 m2) : DE X Φ G (.Call (.Attribute e1 "join" apos) [e2] [] pos) (.o2 .join m1 m2) := by
  refine PE.imp (pe_join h1 h2 hs (base_of hb) hl) fun σ H Q h => ?_
  refine tR_mono (two_op2 h) fun x H1 ⟨⟨W0, W, S, a, eH, rel, ra, hpre, b, S2, ρ, ev2, r, S', hr⟩, h⟩ => ?_
  subst eH
  have hx : ∃ z, x = .str z := by
    change (a.str?.bind _) = _ at hr
    obtain ⟨z, hz, _⟩ := Mi.bind_some hr
    exact ⟨z, repr_str (str?_some hz ▸ ra)⟩
  refine ⟨hx, ?_⟩
  refine tR_mono h fun y H2 ⟨W0, W1, W, S, r, S', a, b, eH, rel, ra, rb, hr, q⟩ => ?_
  subst eH
  change (a.str?.bind fun a => (sview S b).bind fun ds => (strs? ds).bind fun ys => if (ys.map fun y => y.length + a.length).sum ≤ 16777216 then some (Rt.val (.str (Txt.join a ys)), S) else none) = _ at hr
  obtain ⟨z, hz, hr⟩ := Mi.bind_some hr
  obtain ⟨ds, hd, hr⟩ := Mi.bind_some hr
  obtain ⟨ys, hy, hr⟩ := Mi.bind_some hr
  split at hr
  · rename_i hc
    cases hr
    obtain ⟨p, vs, rfl, hsq, l⟩ := rb.sv rel hd
    have f := l.strs hy
    subst f
    refine ⟨z, p, ys, repr_str (str?_some hz ▸ ra), rfl, hsq, ?_, q W _ (Ext.refl W) rel str_repr⟩
    have : ∀ ys : List Str, (ys.map (·.length)).sum + ys.length * z.length = (ys.map fun y => y.length + z.length).sum := fun ys => by
      induction ys with
      | nil => simp
      | cons y ys ih =>
        simp only [List.map_cons, List.sum_cons, List.length_cons]
        rw [← ih, Nat.succ_mul]; omega
    rw [this]; exact hc
  · cases hr
end
end Mi
end
noncomputable section
namespace Mi
open PySem PySem.Spec L2 PyProof.Rows
section
variable {P : Program} {w : World} {A : Around} {E : Value → Shared → Prop} {s : Shared}

end

section
variable {X : Cx} {Φ : Fns} {G : List D} {e e1 e2 : Expr} {pos apos cpos p p2 q0 : Pos}

end
end Mi
end
noncomputable section
namespace Mi
open PySem PySem.Spec L2
section
variable {X : Cx} {Φ : Fns} {G : List D} {e e1 e2 : Expr} {pos apos cpos p p2 q0 : Pos}

theorem flat_rep {K : PySem.W.Frag} {W : Wd} {d : D} {v : V} (h : Rep K W d v) (f : flatD d = true) : v = vOf d ∧ flatV v = true := by
  cases d with
  | non => unfold Rep at h; subst h; exact ⟨rfl, rfl⟩
  | bl b => unfold Rep at h; subst h; exact ⟨rfl, rfl⟩
  | int i => unfold Rep at h; subst h; exact ⟨rfl, rfl⟩
  | str i => unfold Rep at h; subst h; exact ⟨rfl, rfl⟩
  | _ => cases f
theorem flat_repL {K : PySem.W.Frag} {W : Wd} : ∀ {ds : List D} {vs : List V}, RepL K W ds vs → ds.all flatD = true → vs = ds.map vOf ∧ vs.all flatV = true
  | [], vs, h, _ => by rw [h.nil_inv]; exact ⟨rfl, rfl⟩
  | d :: ds, vs, h, f => by
    obtain ⟨v, r, rfl, q, t⟩ := h.cons_inv
    rw [List.all_cons, Bool.and_eq_true] at f
    obtain ⟨e1, f1⟩ := flat_rep q f.1
    obtain ⟨e2, f2⟩ := flat_repL t f.2
    exact ⟨by rw [e1, e2]; rfl, by rw [List.all_cons, f1, f2]; rfl⟩
theorem lv_ty {K : PySem.W.Frag} {W0 W : Wd} {S : Sto} {v : V} {r : Rt} {ds : List D} (rel : Rel K W S) (h : RepR K W0 W v r) (e : lview S r = some ds) : tyV K "list" v W.H := by
  obtain ⟨p, vs, rfl, hs, l⟩ := h.lv rel e
  exact .inl ⟨rfl, vs, hs⟩
theorem find_first {α : Type} {f : α → Bool} : ∀ {l : List α} {j : Nat}, l.findIdx? f = some j → ∃ z, l[j]? = some z ∧ f z = true ∧ ∀ m z', m < j → l[m]? = some z' → f z' = false
  | [], j, h => by cases h
  | x :: l, j, h => by
    rw [List.findIdx?_cons] at h
    split at h
    · rename_i hx
      cases h
      exact ⟨x, rfl, hx, fun m z' hm _ => by omega⟩
    · rename_i hx
      obtain ⟨i, hi, rfl⟩ := map_some h
      obtain ⟨z, h1, h2, h3⟩ := find_first hi
      refine ⟨z, h1, h2, fun m z' hm hz => ?_⟩
      cases m with
      | zero => cases hz; simpa using hx
      | succ m => exact h3 m z' (by omega) hz
theorem de_index {m1 m2 : ME} (hs : starEach [e2] X.env = [(false, eval e2 X.env)]) (hb : okBase e1 = true) (hl : (apos.endLine == pos.line) = true) (h1 : DE X Φ G e1 m1) (h2 : DE X Φ G e2 m2) : DE X Φ G (.Call (.Attribute e1 "index" apos) [e2] [] pos) (.o2 .index m1 m2) := by
  refine PE.imp (pe_bm PySem.F.plainAttrs_list PySem.F.slot_list_index PySem.F.type_list_index mt_index h1 (pa_cons h2 pa_nil hs) (base_of hb) (few_one hs) hl hs rfl) fun σ H Q h => ?_
  show tR X.K Φ G m1 σ H _
  refine tR_mono (two_op2 h) fun x H1 ⟨⟨W0, W, S, a, eH, rel, ra, hpre, b, S2, ρ, ev2, r, S', hr⟩, h⟩ => ?_
  subst eH
  change (lview S a).isSome = true at hpre
  obtain ⟨ds0, hd0⟩ := Option.isSome_iff_exists.mp hpre
  refine ⟨lv_ty rel ra hd0, ?_⟩
  show tR X.K Φ G m2 σ W.H _
  refine tR_mono h fun y H2 ⟨W0, W1, W, S, r, S', a, b, eH, rel, ra, rb, hr, q⟩ => ?_
  subst eH
  change ((lview S a).bind fun ds => b.val?.bind fun x => if flatD x = true ∧ ds.all flatD = true then ((ds.map vOf).findIdx? fun z => eqV z (vOf x)).map fun (j : Nat) => (Rt.val (.int j), S) else none) = _ at hr
  obtain ⟨ds, hd, hr⟩ := Mi.bind_some hr
  obtain ⟨d, hv, hr⟩ := Mi.bind_some hr
  split at hr
  · rename_i hc
    obtain ⟨j, hj, hr⟩ := map_some hr
    cases hr
    obtain ⟨p, vs, rfl, hs, l⟩ := ra.lv rel hd
    have rb' : Rep X.K W d y := by rw [val?_some (r := b) hv] at rb; exact rb
    obtain ⟨e1, f1⟩ := flat_rep rb' hc.1
    obtain ⟨e2, f2⟩ := flat_repL l hc.2
    rw [← e1, ← e2] at hj
    obtain ⟨z, z1, z2, z3⟩ := find_first hj
    exact ⟨p, vs, y, j, z, rfl, rfl, hs, f1, f2, z1, z2, z3, q W _ (Ext.refl W) rel int_repr⟩
  · cases hr

end
end Mi
end
noncomputable section
namespace Mi
open PySem PySem.Spec L2

noncomputable def KeysE : List DictEntry → List Key → Prop
  | [], [] => True
  | e :: es, .inr k :: ks => (∃ t, e.key = .str k t) ∧ KeysE es ks
  | _, _ => False
noncomputable def GDict (K : PySem.W.Frag) (w : World) (a : Addr) (ks : List Key) (ds : List D) : Prop := ∃ es n, KDict K w a es n ∧ (KeysE es.toList ks ∧ ks.Nodup) ∧ ∀ z : Str, (∀ d, valD ks ds (.inr z) = some d → ∃ u v, PySem.W.nsIn K a z = some (some u) ∧ RelV v u ∧ ∀ W, Rep K W d v) ∧
  (valD ks ds (.inr z) = none → PySem.W.nsIn K a z = some none)

noncomputable def GOk (K : PySem.W.Frag) (w : World) (d : D) (u : Value) : Prop := (d.dct? = none ∧ ∃ v, RelV v u ∧ ∀ W, Rep K W d v) ∨ ∃ a ks ds, d = .dct ks ds ∧ u = .ref a ∧ GDict K w a ks ds
section
variable {X : Cx} {Φ : Fns} {G : List D} {e e1 e2 e3 : Expr} {pos apos cpos p : Pos}
theorem de_gget {j : Nat} {x : Str} {a : Addr} {ks : List Key} {ds : List D} {m : ME} (hs : PlainIx e) (hn : PE X (.Name x p) (tC (.ref a))) (hg : G[j]? = some (.dct ks ds)) (D : GDict X.K X.w a ks ds) (h : DE X Φ G e m) : DE X Φ G (.Subscript (.Name x p) e pos) (.o1 (.gget j) m) := by
  obtain ⟨es, n, kd, _, nd⟩ := D
  refine PE.imp (pe_ix ix_kdict hn h hs) fun σ H Q h => ?_
  unfold tOp tC
  refine tR_mono (one_op h) fun y H1 ⟨W0, W, S, r, S', b, eH, rel, rb, hr, q⟩ => ?_
  subst eH
  change ((G[j]?).bind fun d => d.dct?.bind fun t => b.str?.bind fun k => (valD t.1 t.2 (.inr k)).map fun x => (Rt.val x, S)) = _ at hr
  rw [hg] at hr
  change (b.str?.bind fun k => (valD ks ds (.inr k)).map fun x => (Rt.val x, S)) = _ at hr
  obtain ⟨z, hz, hr⟩ := Mi.bind_some hr
  obtain ⟨d, hd, hr⟩ := map_some hr
  cases hr
  have f := repr_str (str?_some hz ▸ rb)
  subst f
  obtain ⟨u, v, e1, e2, e3⟩ := (nd z).1 d hd
  exact ⟨a, z, v, rfl, rfl, ⟨es, n, u, kd.at_, kd.lit, e1, e2⟩, q W v (Ext.refl W) rel (e3 W)⟩
theorem de_gin {j : Nat} {x : Str} {a : Addr} {ks : List Key} {ds : List D} {m : ME} {n : Bool} (hm : behindInMarks (if n then .NotIn else .In) (.Name x p) = false) (hn : PE X (.Name x p) (tC (.ref a))) (hg : G[j]? = some (.dct ks ds)) (D : GDict X.K X.w a ks ds) (h : DE X Φ G e m) :
    DE X Φ G (.Compare e [if n then .NotIn else .In] [.Name x p] pos) (.o1 (.gin n j) m) ∧ DT X Φ G (.Compare e [if n then .NotIn else .In] [.Name x p] pos) (.o1 (.gin n j) m) := by
  obtain ⟨es, nn, kd, _, nd⟩ := D
  have core : ∀ (σ : St) (H : Hp) (Q : VK), tR X.K Φ G (.o1 (.gin n j) m) σ H Q → tR X.K Φ G m σ H fun y H1 => ∃ (z : Str) (r : Option Value), y = .str z ∧ PySem.W.nsIn X.K a z = some r ∧ Q (.bl (xor n r.isSome)) H1 := fun σ H Q h => by
    refine tR_mono (one_op h) fun y H1 ⟨W0, W, S, r, S', b, eH, rel, rb, hr, q⟩ => ?_
    subst eH
    change ((G[j]?).bind fun d => d.dct?.bind fun t => b.str?.map fun k => (Rt.val (.bl (xor n (valD t.1 t.2 (.inr k)).isSome)), S)) = _ at hr
    rw [hg] at hr
    change (b.str?.map fun k => (Rt.val (.bl (xor n (valD ks ds (.inr k)).isSome)), S)) = _ at hr
    obtain ⟨z, hz, hr⟩ := map_some hr
    cases hr
    have f := repr_str (str?_some hz ▸ rb)
    subst f
    cases hd : valD ks ds (.inr z) with
    | none =>
      refine ⟨z, none, rfl, (nd z).2 hd, ?_⟩
      have := q W _ (Ext.refl W) rel bl_repr
      rw [hd] at this; exact this
    | some d =>
      obtain ⟨u, v, e1, e2, e3⟩ := (nd z).1 d hd
      refine ⟨z, some u, rfl, e1, ?_⟩
      have := q W _ (Ext.refl W) rel bl_repr
      rw [hd] at this; exact this
  have coreT : ∀ (σ : St) (H : Hp) (Q : Bool → Hp → Prop), tBl X.K Φ G (.o1 (.gin n j) m) σ H Q → tR X.K Φ G (.o1 (.gin n j) m) σ H fun x H' => ∃ k, x = .bl k ∧ Q k H' := fun σ H Q ⟨W, S, ρ, a, b, S', ev, q⟩ => ⟨W, S, ρ, a, _, S', ev, fun W' v e r p => ⟨b, repr_bl p, q W' e r⟩⟩
  cases n with
  | false =>
    refine ⟨PE.imp (pe_cmpR (op_in_kd kd) h hn hm) fun σ H Q h => ?_, PT.imp (pt_cmpR (op_in_kd kd) h hn hm) fun σ H Q h => ?_⟩
    · unfold tOp tC
      refine tR_mono (core σ H Q h) fun y H1 ⟨z, r, e1, e2, q⟩ => ⟨z, r, e1, rfl, e2, ?_⟩
      rw [Bool.false_xor] at q; exact q
    · have := core σ H _ (coreT σ H Q h)
      unfold tTest tOp tC
      refine tR_mono this fun y H1 ⟨z, r, e1, e2, q⟩ => ⟨z, r, e1, rfl, e2, ?_⟩
      rw [Bool.false_xor] at q; exact q
  | true =>
    refine ⟨PE.imp (pe_cmpR (op_notIn_kd kd) h hn hm) fun σ H Q h => ?_, PT.imp (pt_cmpR (op_notIn_kd kd) h hn hm) fun σ H Q h => ?_⟩
    · unfold tOp tC
      refine tR_mono (core σ H Q h) fun y H1 ⟨z, r, e1, e2, q⟩ => ⟨z, r, e1, rfl, e2, ?_⟩
      rw [Bool.true_xor] at q; exact q
    · have := core σ H _ (coreT σ H Q h)
      unfold tTest tOp tC
      refine tR_mono this fun y H1 ⟨z, r, e1, e2, q⟩ => ⟨z, r, e1, rfl, e2, ?_⟩
      rw [Bool.true_xor] at q; exact q

theorem de_gg2 {j : Nat} {x : Str} {a : Addr} {ks : List Key} {ds : List D} {m1 m2 : ME} (hn : PE X (.Name x p) (tC (.ref a))) (hg : G[j]? = some (.dct ks ds)) (D : GDict X.K X.w a ks ds) (h1 : DE X Φ G e1 m1) (h2 : DE X Φ G e2 m2) (m : M2 X (.Name x p) "get" apos e1 e2 cpos) :
    DE X Φ G (.Call (.Attribute (.Name x p) "get" apos) [e1, e2] [] cpos) (.o2 (.gg2 j) m1 m2) := by
  obtain ⟨es, n, kd, _, nd⟩ := D
  refine ⟨fun pins s σ H Q I h => ?_⟩
  refine wpAny_Call_method m.base m.few m.line PySem.F.plainAttrs_dict PySem.F.slot_dict_get PySem.F.type_dict_get (thn (hn.run pins s σ H (fun x H' => x = .ref a ∧ H' = H) I ⟨rfl, rfl⟩) fun u s1 ⟨x, H1, I1, rx, q1⟩ => ?_)
  obtain ⟨rfl, rfl⟩ := q1
  obtain rfl : u = Value.ref a := rx
  have hm := PySem.W.mapOf_K (prog := X.prog) (w := X.w) I1.kIn kd.at_ kd.lit
  refine ⟨hm.typeIs, fun b e => ?_, ?_⟩
  · cases e
    have := I1.kIn a _ kd.at_
    exact ⟨_, this, rfl⟩
  rw [m.trees]
  refine Calls.callWith_builtin rfl (Calls.evalArgs_plain (Calls.spliced_cons (thn (h1.run pins s1 σ H1 _ I1 (two_op2 h)) fun iv s2 ⟨y, H2, I2, ry, _, q2⟩ =>
    Calls.spliced_cons (thn (h2.run pins s2 σ H2 _ I2 q2) fun fv s3 ⟨z, H3, I3, rz, W0, W1, W, S, r, S', b, c, eH, rel, rb, rc, hr, q⟩ => Calls.spliced_nil ?_))))
  subst eH
  change ((G[j]?).bind fun d => d.dct?.bind fun t => b.str?.bind fun k => c.val?.map fun e => (Rt.val ((valD t.1 t.2 (.inr k)).getD e), S)) = _ at hr
  rw [hg] at hr
  change (b.str?.bind fun k => c.val?.map fun e => (Rt.val ((valD ks ds (.inr k)).getD e), S)) = _ at hr
  obtain ⟨k, hk, hr⟩ := Mi.bind_some hr
  obtain ⟨d, hd, hr⟩ := map_some hr
  cases hr
  have f := repr_str (str?_some hk ▸ rb)
  subst f
  obtain ⟨t, rfl⟩ := ry
  have hm3 := PySem.W.mapOf_K (prog := X.prog) (w := X.w) I3.kIn kd.at_ kd.lit
  have rc' : Rep X.K W d z := by rw [val?_some (r := c) hd] at rc; exact rc
  refine call_meetsIn PySem.F.slot_dict_get hm3.typeIs PySem.F.entry_dict_get (PySem.F.args_dict_get_3 _ _ _) (meets_dict_get_default (strKind X.prog X.w) a (strKind_is X.prog X.w k t) kd.low fv) ⟨_, hm3, ?_⟩
  cases hv : valD ks ds (.inr k) with
  | none =>
    rw [PySem.W.find_K kd.at_ ((nd k).2 hv)]
    refine ⟨z, W.H, I3.tok _, rz, ?_⟩
    have := q W z (Ext.refl W) rel (by rw [hv]; exact rc')
    exact this
  | some d' =>
    obtain ⟨u, v, e1, e2, e3⟩ := (nd k).1 d' hv
    rw [PySem.W.find_K kd.at_ e1]
    refine ⟨v, W.H, I3.tok _, e2, ?_⟩
    have := q W v (Ext.refl W) rel (by rw [hv]; exact e3 W)
    exact this
end
end Mi
end
noncomputable section
namespace Mi
open PySem PySem.Spec L2
mutual
noncomputable def gVal (K : PySem.W.Frag) : D → Value → Bool
  | .non, u => match u with
    | .none => true
    | _ => false
  | .bl b, u => match u with
    | .bool c => b == c
    | _ => false
  | .int i, u => match u with
    | .int j _ => decide (i = j)
    | _ => false
  | .str x, u => match u with
    | .str y _ => decide (x = y)
    | _ => false
  | .tup ds, u => match u with
    | .ref a => match K.lookup a with
      | some ⟨.type c, _, .seq its _, _⟩ => decide (c = "tuple") && decide (its.size ≤ 16777216) && gVals K ds its.toList
      | _ => false
    | _ => false
  | .lst _, _ => false
  | .scr _, _ => false
  | .ref _, _ => false
  | .dct _ _, _ => false
noncomputable def gVals (K : PySem.W.Frag) : List D → List Value → Bool
  | [], us => match us with
    | [] => true
    | _ :: _ => false
  | d :: ds, us => match us with
    | u :: us => gVal K d u && gVals K ds us
    | [] => false
end
mutual
theorem gVal_ok {K : PySem.W.Frag} : ∀ (d : D) (u : Value), gVal K d u = true → ∃ v, RelV v u ∧ ∀ W, Rep K W d v
  | .non, u, h => by
    unfold gVal at h
    split at h
    · exact ⟨.non, rfl, fun W => by unfold Rep; rfl⟩
    · cases h
  | .bl b, u, h => by
    unfold gVal at h
    split at h
    · have e := eq_of_beq h
      subst e
      exact ⟨.bl b, rfl, fun W => by unfold Rep; rfl⟩
    · cases h
  | .int i, u, h => by
    unfold gVal at h
    split at h
    · have e := of_decide_eq_true h
      subst e
      exact ⟨.int i, ⟨_, rfl⟩, fun W => by unfold Rep; rfl⟩
    · cases h
  | .str x, u, h => by
    unfold gVal at h
    split at h
    · have e := of_decide_eq_true h
      subst e
      exact ⟨.str x, ⟨_, rfl⟩, fun W => by unfold Rep; rfl⟩
    · cases h
  | .tup ds, u, h => by
    unfold gVal at h
    split at h
    · rename_i a
      split at h
      · rename_i c od its n sl q
        simp only [Bool.and_eq_true, decide_eq_true_eq] at h
        obtain ⟨⟨rfl, h2⟩, h3⟩ := h
        obtain ⟨vs, r, hv⟩ := gVals_ok ds _ h3
        refine ⟨.ref a, rfl, fun W => ?_⟩
        unfold Rep
        exact ⟨a, vs, rfl, .inr ⟨_, its, n, q, rfl, rfl, h2, r⟩, hv W⟩
      · cases h
    · cases h
  | .lst _, u, h => by unfold gVal at h; cases h
  | .scr _, u, h => by unfold gVal at h; cases h
  | .ref _, u, h => by unfold gVal at h; cases h
  | .dct _ _, u, h => by unfold gVal at h; cases h
theorem gVals_ok {K : PySem.W.Frag} : ∀ (ds : List D) (us : List Value), gVals K ds us = true → ∃ vs, Vals vs us ∧ ∀ W, RepL K W ds vs
  | [], us, h => by
    unfold gVals at h
    split at h
    · exact ⟨[], .nil, fun W => .nil⟩
    · cases h
  | d :: ds, us, h => by
    unfold gVals at h
    split at h
    · rw [Bool.and_eq_true] at h
      obtain ⟨v, r1, h1⟩ := gVal_ok d _ h.1
      obtain ⟨vs, r2, h2⟩ := gVals_ok ds _ h.2
      exact ⟨v :: vs, .cons r1 r2, fun W => .cons (h1 W) (h2 W)⟩
    · cases h
end
noncomputable def gEnt (K : PySem.W.Frag) : List DictEntry → List Key → List D → Bool
  | [], [], [] => true
  | e :: es, .inr k :: ks, d :: ds => e.key.isStr k && gVal K d e.val && gEnt K es ks ds
  | _, _, _ => false
noncomputable def gDic (K : PySem.W.Frag) (a : Addr) (ks : List Key) (ds : List D) : Bool := match K.lookup a with
  | some ⟨_, _, .dict es _, _⟩ => gEnt K es.toList ks ds && decide ks.Nodup
  | _ => false
theorem isStr_two {v : Value} {k z : Str} (h : v.isStr k = true) : v.isStr z = decide (k = z) ∧ ∀ a, v ≠ .ref a := by
  cases v with
  | str x t =>
    have e : x = k := eq_of_beq (show (x == k) = true from h)
    subst e
    refine ⟨?_, fun a z => (nomatch z)⟩
    show (x == z) = _
    by_cases q : x = z
    · subst q; simp
    · rw [decide_eq_false q]; exact beq_eq_false_iff_ne.mpr q
  | _ => cases h
theorem gEnt_ok {K : PySem.W.Frag} (z : Str) : ∀ {es : List DictEntry} {ks : List Key} {ds : List D}, gEnt K es ks ds = true →
    (∀ d, valD ks ds (.inr z) = some d → ∃ e, es.find? (·.key.isStr z) = some e ∧ gVal K d e.val = true) ∧ (valD ks ds (.inr z) = none → es.find? (·.key.isStr z) = none) ∧ es.any (·.refKey) = false
  | [], [], [], _ => ⟨(fun d h => by cases h), fun _ => rfl, rfl⟩
  | e :: es, .inr k :: ks, d :: ds, h => by
    unfold gEnt at h
    simp only [Bool.and_eq_true] at h
    obtain ⟨⟨h1, h2⟩, h3⟩ := h
    obtain ⟨i1, i2, i3⟩ := gEnt_ok z h3
    obtain ⟨s1, s2⟩ := isStr_two (z := z) h1
    have rk : e.refKey = false := by
      unfold DictEntry.refKey
      split
      · rename_i b q; exact absurd q (s2 b)
      · rfl
    have hi : ((Sum.inr k : Key) = .inr z) ↔ k = z := by simp
    refine ⟨fun d' hd => ?_, fun hd => ?_, ?_⟩
    · unfold valD at hd
      rw [List.find?_cons, s1]
      by_cases q : k = z
      · rw [if_pos (hi.mpr q)] at hd
        cases hd
        rw [decide_eq_true q]
        exact ⟨e, rfl, h2⟩
      · rw [if_neg (fun y => q (hi.mp y))] at hd
        rw [decide_eq_false q]
        exact i1 d' hd
    · unfold valD at hd
      rw [List.find?_cons, s1]
      by_cases q : k = z
      · rw [if_pos (hi.mpr q)] at hd
        cases hd
      · rw [if_neg (fun y => q (hi.mp y))] at hd
        rw [decide_eq_false q]
        exact i2 hd
    · rw [List.any_cons, rk, i3]; rfl
  | [], _ :: _, _, h => by unfold gEnt at h; cases h
  | [], [], _ :: _, h => by unfold gEnt at h; cases h
  | _ :: _, [], _, h => by unfold gEnt at h; cases h
  | _ :: _, .inl _ :: _, _, h => by unfold gEnt at h; cases h
  | _ :: _, .inr _ :: _, [], h => by unfold gEnt at h; cases h
theorem gEnt_keys {K : PySem.W.Frag} : ∀ {es : List DictEntry} {ks : List Key} {ds : List D}, gEnt K es ks ds = true → KeysE es ks
  | [], [], [], _ => trivial
  | e :: es, .inr k :: ks, d :: ds, h => by
    unfold gEnt at h
    simp only [Bool.and_eq_true] at h
    obtain ⟨⟨h1, h2⟩, h3⟩ := h
    refine ⟨?_, gEnt_keys h3⟩
    revert h1
    cases e.key with
    | str x t => exact fun h1 => ⟨t, by rw [eq_of_beq (show (x == k) = true from h1)]⟩
    | _ => exact fun h1 => nomatch h1
  | [], _ :: _, _, h => by unfold gEnt at h; cases h
  | [], [], _ :: _, h => by unfold gEnt at h; cases h
  | _ :: _, [], _, h => by unfold gEnt at h; cases h
  | _ :: _, .inl _ :: _, _, h => by unfold gEnt at h; cases h
  | _ :: _, .inr _ :: _, [], h => by unfold gEnt at h; cases h
theorem gDic_ok {K : PySem.W.Frag} {w : World} {a : Addr} {sk : List Str} {ks : List Key} {ds : List D} (h1 : He.dicW K a = some (He.keysIn w.params sk)) (h2 : gDic K a ks ds = true) : GDict K w a ks ds := by
  obtain ⟨es, n, kd⟩ := He.dicW_ok h1
  have h23 : (gEnt K es.toList ks ds && decide ks.Nodup) = true := by
    unfold gDic at h2
    rw [kd.at_] at h2
    exact h2
  rw [Bool.and_eq_true, decide_eq_true_eq] at h23
  obtain ⟨h3, hnd⟩ := h23
  refine ⟨es, n, kd, ⟨gEnt_keys h3, hnd⟩, fun z => ?_⟩
  obtain ⟨i1, i2, i3⟩ := gEnt_ok z h3
  refine ⟨fun d hd => ?_, fun hd => ?_⟩
  · obtain ⟨e, e1, e2⟩ := i1 d hd
    obtain ⟨v, r, hv⟩ := gVal_ok d _ e2
    refine ⟨e.val, v, ?_, r, hv⟩
    unfold PySem.W.nsIn
    rw [kd.at_]
    dsimp only
    rw [e1]
  · unfold PySem.W.nsIn
    rw [kd.at_]
    dsimp only
    rw [i2 hd, i3]
    rfl
theorem gOk_val {K : PySem.W.Frag} {w : World} {d : D} {u : Value} (h : gVal K d u = true) (hd : d.dct? = none) : GOk K w d u := .inl ⟨hd, gVal_ok d u h⟩
theorem gOk_dct {K : PySem.W.Frag} {w : World} {a : Addr} {sk : List Str} {ks : List Key} {ds : List D} (h1 : He.dicW K a = some (He.keysIn w.params sk)) (h2 : gDic K a ks ds = true) : GOk K w (.dct ks ds) (.ref a) := .inr ⟨a, ks, ds, rfl, rfl, gDic_ok h1 h2⟩
end Mi
end
noncomputable section
namespace Mi
open PySem PySem.Spec L2 PyProof.Rows
structure FnG (P : Program) (w : World) (K : PySem.W.Frag) (mg : Str → Option Value) (base : Heap) (k : Nat) (f : Addr) (fd : FuncData) (ps : List Str) (sp : Sp) : Prop where
  len : ∀ vs H Q E, sp vs H Q E → vs.length = ps.length
  run : ∀ (A : Around) (outer : List PySem.Env) (s : Shared) (H : Hp) (args : Args) (us : List Value) (vs : List V) (Q : VK) (E : XK), A.guards = some [] → Room k A → Env0 P w K mg base A outer s H → BindsTo s fd args (ps.zip us) → Vals vs us → sp vs H Q E → codeAny (model P w) A (.call (.ref f) args) (CR CX0 outer P w H s Q E) s
section
variable {P : Program} {w : World} {K : PySem.W.Frag} {mg : Str → Option Value} {base : Heap}
theorem FnG.imp {k : Nat} {f : Addr} {fd : FuncData} {ps : List Str} {sp sp' : Sp} (F : FnG P w K mg base k f fd ps sp) (h : ∀ vs H Q E, sp' vs H Q E → sp vs H Q E) : FnG P w K mg base k f fd ps sp' :=
  ⟨fun vs H Q E q => F.len vs H Q E (h _ _ _ _ q), fun A o s H as us vs Q E hA hr e b r z => F.run A o s H as us vs Q E hA hr e b r (h _ _ _ _ z)⟩
theorem fnG_of {x qual : Str} {st : Stmt} {f : Addr} {fd : FuncData} {N ps : List Str} {k : Nat} {sp : Sp} (F : Fun K x qual st f fd) (S : FnScope N ps (defScope st)) (len : ∀ vs H Q E, sp vs H Q E → vs.length = ps.length)
    (body : ∀ (cdv : Value) (A : Around) (outer : List PySem.Env) (s : Shared) (H : Hp) (vs : List V) (Q : VK) (E : XK), fd.code = cdv → A.guards = some [] → Room k (A.deeper (envOfC qual (defScope st) s.heap.objs.size f cdv)) → sp vs H Q E →
      ∃ t, PSs (cxOf CX0 P w K mg base N qual (defScope st) f cdv A outer s H E).nox (defBody st) t ∧ t { nx := fun _ H' => Q .non H', rt := Q } (start N vs) H) : FnG P w K mg base (k + 1) f fd ps sp := by
  obtain ⟨oc, od, kV, doc, pm, an, cdv, ct, osl, rfl, lk, hcd⟩ := F.ex
  refine ⟨len, fun A outer s H args us vs Q E hA hr e0 bnd rel hs => ?_⟩
  have up : ∀ b o, base.get? b = some o → s.heap.get? b = some o := fun b o e => (e0.bs b o e).1
  have KX : K.In s.heap := e0.mod.kin.keeps up
  have lim : s.heap.NoLimit := e0.mod.nolimit.keeps up
  have kinds : ∀ y, y ∈ ps.zip us → (defScope st).names.lookup y.1 = some .local ∨ ((defScope st).names.lookup y.1 = some .cell ∧ ((cellsFrom (s.heap.objs.size + 1) (defScope st).names []).lookup y.1).isSome = true) := fun y hy =>
    (S.par y.1 (List.of_mem_zip hy).1).imp id fun q => ⟨q, PySem.W.cellsFrom_some _ _ _ (.inl q)⟩
  refine codeAny_call_function hr.depth (KX _ _ lk) rfl S.co S.gen rfl (PySem.W.codeRec_of KX hcd) (bnd _ _ _ _ (wpAny_newFunctionEnv_cells S.kind kinds fun env he s1 nw => ?_))
  subst he
  obtain ⟨t, ht, hq⟩ := body cdv A outer s H vs Q E rfl hA (hr.deeper _) hs
  have J : Inv (cxOf CX0 P w K mg base N qual (defScope st) f cdv A outer s H E) [] (start N vs) H s1 := inv_start S hr.hd e0 (len _ _ _ _ hs) rel nw
  refine ⟨lim.keeps nw.toInCall.keep, codeAny_func (wpAny_mono (ht.nox.run [] s1 (start N vs) H _ J hq) (fun fl s' z => ?_) fun e s' z => z)⟩
  cases fl with
  | ret u =>
    obtain ⟨v, σ', H', J', rv, q⟩ := z
    exact ⟨v, H', J'.os, J'.bare, J'.base, J'.hok, rv, q⟩
  | next =>
    obtain ⟨σ', H', J', q⟩ := z
    exact ⟨.non, H', J'.os, J'.bare, J'.base, J'.hok, rfl, q⟩
  | brk => exact False.elim (let ⟨_, _, _, q⟩ := z; q)
  | cont => exact False.elim (let ⟨_, _, _, q⟩ := z; q)
end
section
variable {X : Cx} {k : Nat} {f : Addr} {fd : FuncData} {ps : List Str} {sp : Sp}
theorem pe_callG {x : Str} {e : Expr} {es : List Expr} {t : TA} {p pos : Pos} (F : FnG X.prog X.w X.K X.mg X.base k f fd ps sp) (hA : X.A.guards = some []) (hr : Room k X.A) (hg : Gl X x) (hm : X.mg x = some (.ref f)) (hk : PySem.W.keepIn X.K (.ref f) = true) (hb : Binds X.K fd ps [])
    (ha : PA X (e :: es) t) (hdb : (x == ("__debug__" : Str)) = false) (he : starEach (e :: es) X.env = (false, eval e X.env) :: starEach es X.env) (hpl : (backTo pos (starEach es X.env)).any (·.1) = false) :
    PE X (.Call (.Name x p) (e :: es) [] pos) (tCall sp [] E0 t) := by
  refine ⟨fun pins s σ H Q I h => wpAny_Call_Name_kw (ld_glob I hg hm ?_ hdb)⟩
  refine PySem.W.callWith_K (h₀ := X.base) I.ok.mod.kin hk (thn (ha.run pos pins s σ H _ I h) fun us s1 ⟨vs, H1, J, r, q⟩ => ⟨J.kIn, ?_⟩) he hpl
  have q : sp vs H1 Q E0 := by
    have z : sp (vs ++ []) H1 Q E0 := q
    rwa [List.append_nil] at z
  have hl : us.length = ps.length := by rw [← r.length]; exact F.len _ _ _ _ q
  have bnd : BindsTo s1 fd ⟨us, []⟩ (ps.zip us) := by
    have z := hb s1 us J.kIn (by rw [List.append_nil]; exact hl)
    rwa [List.append_nil] at z
  refine wpAny_call (codeAny_mono (F.run X.A X.stack s1 H1 ⟨us, []⟩ us vs Q E0 hA hr J.env0 bnd r q) fun r s' hq => ?_)
  cases r with
  | error e => exact False.elim hq
  | ok fl =>
    cases fl with
    | ret u => exact J.after hq
    | next => exact False.elim hq
    | brk => exact False.elim hq
    | cont => exact False.elim hq
end

theorem callG {P : Program} {w : World} {K : PySem.W.Frag} {mg mb : Str → Option Value} {k : Nat} {fa a : Addr} {fd : FuncData} {x : Str} {sp : Sp} {s : Shared} {vs : List Value} {ns : List Int}
    (KX : K.In s.heap) (n1 : s.heap.Ns mainGlobals mg) (n2 : s.heap.Ns builtinsNs mb) (hbb : ∀ x : Str, x ≠ "__name__" → mb x = bootBuiltins x) (lim : s.heap.NoLimit) (gens : s.gens = #[])
    (ha : s.heap.get? a = some { cls := .type "list", data := .seq vs.toArray }) (hi : IntsAre vs ns) (hl : ns.length ≤ sizeLine) (hr : Room k callerA)
    (F : ∀ base : Heap, K.In base → base.Ns mainGlobals mg → FnG P w K mg base k fa fd [x] sp) (hb : ∀ (s : Shared) (u : Value), BindsTo s fd ⟨[u], []⟩ [(x, u)])
    (hsp : ∀ H : Hp, Only H → SqL K H a (ns.map V.int) → sp [.ref a] H (fun v _ => v = .bl true) fun _ _ _ => False) :
    codeAny (model P w) callerA (.call (.ref fa) ⟨[.ref a], []⟩) (fun r s' => r = .ok (.ret (.bool true)) ∧ OldK s.heap s'.heap ∧ s'.os = s.os ∧ AllBare s'.gens) s := by
  have rv := vals_ints hi
  have main : ∀ H : Hp, Only H → SqL K H a (ns.map V.int) → HOk P w H s.heap → (∀ b, H b ≠ none → b = a ∧ K.lookup a = none) → codeAny (model P w) callerA (.call (.ref fa) ⟨[.ref a], []⟩) (fun r s' => r = .ok (.ret (.bool true)) ∧ OldK s.heap s'.heap ∧ s'.os = s.os ∧ AllBare s'.gens) s := by
    intro H hO hS hok hA
    have one : ∀ {b : Addr} {o : Obj}, s.heap.get? b = some o → b ≠ a → (hidT s.heap H).get? b = some o := fun {b o} e n => hidT_get e (Classical.byContradiction fun z => n (hA b z).1)
    have ns' : ∀ {b : Addr} {m : Str → Option Value}, s.heap.Ns b m → (hidT s.heap H).Ns b m := fun {b m} ⟨o, es, ep, e, d, r⟩ => ⟨o, es, ep, one e (fun z => by
      subst z
      rw [ha] at e
      cases e
      have d : Data.seq vs.toArray _ = Data.dict es ep := d
      cases d), d, r⟩
    have KX' : K.In (hidT s.heap H) := fun b o e => by
      by_cases hb : H b = none
      · exact hidT_get (KX b o e) hb
      · obtain ⟨rfl, z⟩ := hA b hb
        rw [z] at e; cases e
    have e0 : Env0 P w K mg (hidT s.heap H) callerA [] s H := ⟨rfl, ⟨KX', ns' n1, ⟨mb, ns' n2, hbb⟩, let ⟨mc, z1, z2⟩ := lim; ⟨mc, ns' z1, z2⟩⟩, fun b o e => of_hidT e, Nat.le_of_eq (hidT_size _ _), trivial, fun b z => (nomatch z), hok, .of_eq gens⟩
    refine codeAny_mono ((F _ KX' (ns' n1)).run callerA [] s H ⟨[.ref a], []⟩ [.ref a] [.ref a] _ _ rfl hr e0 (hb s (.ref a)) (.cons rfl .nil) (hsp H hO hS)) fun r s' z => ?_
    cases r with
    | error e => exact z.elim
    | ok fl =>
      cases fl with
      | next => exact z.elim
      | brk => exact z.elim
      | cont => exact z.elim
      | ret u =>
        obtain ⟨v, H', os, bare, un, hok', rel, q⟩ := z
        have q : v = .bl true := q
        subst q
        have rel : u = Value.bool true := rel
        subst rel
        refine ⟨rfl, OldK.of_keep fun b o e => ?_, os, bare⟩
        rcases hO b with y | ⟨ob, xs, y⟩
        · exact un.keep b o e y (fun z => absurd (show b ∈ ([] : List Addr) from z) (by simp)) (by simp)
        · obtain ⟨e1, _⟩ := hok b _ y
          obtain ⟨e2, _⟩ := hok' b _ (un.frzs b ob _ y)
          rw [e] at e1
          cases e1
          exact e2
  cases hk : K.lookup a with
  | some o =>
    have e := KX a o hk
    rw [ha] at e
    cases e
    exact main (fun _ => none) (fun _ => .inl rfl) (.inr ⟨_, vs.toArray, _, hk, rfl, rfl, rfl, by rw [List.size_toArray, hi.length]; exact hl, by simpa using rv⟩) (fun b u z => (nomatch (show (none : Option HO) = some u from z))) fun b z => absurd rfl z
  | none =>
    refine main (fun b => if b = a then some (.frz { cls := .type "list", data := .seq vs.toArray } (.lst (ns.map V.int))) else none) (fun b => ?_) (.inl (.inr ⟨_, if_pos rfl⟩)) (fun b u z => ?_) fun b z => ?_
    · by_cases e : b = a
      · exact .inr ⟨_, _, if_pos e⟩
      · exact .inl (if_neg e)
    · by_cases e : b = a
      · have y := (if_pos e).symm.trans z
        cases y
        subst e
        exact ⟨ha, by rw [List.length_map]; exact hl, vs, _, rv, ha⟩
      · have y := (if_neg e).symm.trans z
        cases y
    · by_cases e : b = a
      · exact ⟨e, hk⟩
      · exact absurd (if_neg e) z
theorem walkG {l : PySem.W.OpenLaw} {n k : Nat} {q : Program} {loose : List Str} {XP : (Str → Option Value) → Heap → Prop} {YP : World → Heap → Prop} {d : DefRec} {K : Params → PySem.W.Frag} {sp : World → Sp} {x : Str}
    (hn : l.most = some n) (hn2 : n ≤ sizeLine) (hdf : d.params.defaults = []) (hr : Room k callerA) (hY : ∀ (w : World) (h : Heap), YP w h → (K w.params).In h)
    (F : ∀ (w : World) (mg : Str → Option Value) (fa : Addr) (h : Heap), (K w.params).In h → h.Ns mainGlobals mg → mg d.name = some (.ref fa) → ∃ fd : FuncData, (∀ (s : Shared) (u : Value), BindsTo s fd ⟨[u], []⟩ [(x, u)]) ∧ ∀ base : Heap, (K w.params).In base → base.Ns mainGlobals mg → FnG l.prog w (K w.params) mg base k fa fd [x] (sp w))
    (hsp : ∀ (w : World) (H : Hp) (a : Addr) (ns : List Int), ns.length ≤ n → Only H → SqL (K w.params) H a (ns.map V.int) → sp w [.ref a] H (fun v _ => v = .bl true) fun _ _ _ => False) :
    PySem.W.WalkO q loose XP YP l.row.toRowW d [] (fun f vs => PySem.call f vs) := by
  refine Att.attach_call hn hdf fun w s₀ s₁ mg mb fa o pm cd doc a vs ns T Y _ _ _ hmg hobj hints hlen hg => ?_
  obtain ⟨fd, hb, hF⟩ := F w mg fa _ (hY w _ Y) T.T.g hmg
  exact callG (hY w _ Y) T.T.g T.T.b T.T.builtins T.T.nolimit hg hobj hints (Nat.le_trans hlen hn2) hr hF hb fun H hO hS => hsp w H a ns hlen hO hS
end Mi
end
noncomputable section
namespace Mi
open PySem PySem.Spec L2 PyProof.Rows
noncomputable def spLawH (K : PySem.W.Frag) : Sp := fun vs H Q _ => ∃ (a : Addr) (ns : List Int), vs = [.ref a] ∧ ns.length ≤ 63 ∧ Only H ∧ SqL K H a (ns.map V.int) ∧ ∀ H', Q (.bl true) H'
end Mi
end
noncomputable section
namespace Mi
open PySem PySem.Spec L2
noncomputable def hNames : List Str := ["Taken", "TooMany", "NoLabel", "BadText", "BadRow", "SayError"]
noncomputable def hSub (c d : Str) : Bool := decide (d ∈ [c, "SayError", "ValueError"])
noncomputable def errB (K : PySem.W.Frag) (c : Str) (D : Addr) : Bool :=
  (PySem.W.clsIn K D).isSome && decide (PySem.W.findIn K (.ref D) "__getattribute__" = some (some (.builtin "BaseException.__getattribute__"))) && decide (PySem.W.findIn K (.ref D) "__getattr__" = some none) &&
  decide (PySem.W.subIn K (.ref D) (.type "BaseException") = some true) && decide (PySem.W.findIn K (.ref D) "__class__" = some (some (.builtin "object.__class__"))) &&
  decide (PySem.W.specialIn K (.builtin "object.__class__") "__get__" = some (some (.builtin "getset_descriptor.__get__"))) && decide (PySem.W.takesIn K (.builtin "object.__class__") = some true) &&
  decide (PySem.W.mroIn K D (.type "object") = some true) && PySem.W.hasDictIn K D &&
  hNames.all (fun e => match PySem.W.nsIn K mainGlobals e with
    | some (some (.ref C)) => decide (PySem.W.kitOne K (.ref D) (.ref C) = some (hSub c e)) && decide (PySem.W.exmOne K (.ref D) (.ref C) = some (hSub c e))
    | _ => true) && decide (PySem.W.kitOne K (.ref D) (.type "ValueError") = some true)
noncomputable def oexB (K : PySem.W.Frag) (C : Addr) (n : Str) : Bool := decide (PySem.W.findIn K (.ref C) "__setattr__" = some (some (.builtin "object.__setattr__"))) && decide (PySem.W.subIn K (.ref C) (.type "BaseException") = some true) && decide (PySem.W.typeIn K (.ref C) = some (.type "type")) && PySem.W.keepIn K (.ref C) && decide (PySem.W.findIn K (.ref C) n = some none)
noncomputable def baseB (K : PySem.W.Frag) (B : Addr) : Bool := decide (PySem.W.specialIn K (.ref B) "__getattribute__" = some (some (.builtin "type.__getattribute__"))) && PySem.W.readsIn (mc := .type "type") K B && PySem.W.keepIn K (.ref B)
end Mi
end
noncomputable section
namespace Mi
open PySem PySem.W PySem.Calls PyProof.Rows

noncomputable def RunK (r : OpenRow) (q : Program) (K : Params → Frag) (as ts : List Addr) (M : Nat) (loose : List Str) (w : World) : Prop :=
  ∀ os : OsState, (HandSHeadRun.endF (HandSHeadRun.stepQ (HandSHeadRun.denQ HandSHeadRun.tabQ) r.prog w) M r.prog w os).map (fun s => (HandSHeadRun.looksF r.prog (boot_heap w.params) s.abs, HandSHeadRun.seenQ q loose (importedModules r.prog.main.body) (fun s => xlAt q [] s && recOk r.toRowW.records s) s.abs, (as.map (HandSHeadRun.getT s), ts.map (HandSHeadRun.getT s)))) =
    some (true, openGood q loose, ((K w.params).map fun p => some p.2, ts.map fun _ => some (tabObj #[])))
theorem head_km {r : OpenRow} {q : Program} {H : Hook} {K : Params → Frag} {as ts : List Addr} {e : ∀ P, as = (K P).map (·.1)} {M : Nat} {loose : List Str} {d : DefRec} {kwd : List (Str × Expr)} (hH : H = kmHook K as e ts)
    (he : opening r.prog = plainProg r.prog.main.scope.names) (hf : ∀ s, fenceModules? r.prog s = some s) (run : ∀ w, RunK r q K as ts M loose w) (g1 : defOf q r.name = some (d, kwd)) (g2 : r.prog.theDef r.name = some (d.params, d.body, d.scope)) (g3 : kwWritten? d.params.kwonlyargs d.params.kw_defaults = some kwd) (g4 : (!r.writes || r.records.isEmpty) = true) (g5 : r.wellSaid = true) (g6 : (chainsOk q && opensWell r.prog && (frees r.toRowW && r.within.isEmpty)) = true) (g7 : r.prog.bare) (hw : r.toRowW.promised)
    (hc : WalkO q loose (XL q []) H.says r.toRowW d kwd fun f vs => PySem.call f vs) : r.Holds := by
  subst hH
  refine HandSHeadRun.head_any (H := kmHook K as e ts) (ob := fun s => (as.map (HandSHeadRun.getT s), ts.map (HandSHeadRun.getT s))) (M := M) (fun s => ?_) he hf (fun w os => run w os) g1 g2 g3 g4 g5 g6 g7 hw hc
  exact Prod.ext (List.map_congr_left fun a _ => HandSHeadRun.getT_eq s a) (List.map_congr_left fun a _ => HandSHeadRun.getT_eq s a)

noncomputable def RunK0 (r : OpenRow) (q : Program) (K : Params → Frag) (as : List Addr) (M : Nat) (loose : List Str) (w : World) : Prop :=
  ∀ os : OsState, (HandSHeadRun.endF (HandSHeadRun.stepQ (HandSHeadRun.denQ HandSHeadRun.tabQ) r.prog w) M r.prog w os).map (fun s => (HandSHeadRun.looksF r.prog (boot_heap w.params) s.abs, HandSHeadRun.seenQ q loose (importedModules r.prog.main.body) (fun s => xlAt q [] s && recOk r.toRowW.records s) s.abs, as.map (HandSHeadRun.getT s))) =
    some (true, openGood q loose, (K w.params).map fun p => some p.2)
theorem head_k {r : OpenRow} {q : Program} {H : Hook} {K : Params → Frag} {as : List Addr} {e : ∀ P, as = (K P).map (·.1)} {M : Nat} {loose : List Str} {d : DefRec} {kwd : List (Str × Expr)} (hH : H = kHook K as e)
    (he : opening r.prog = plainProg r.prog.main.scope.names) (hf : ∀ s, fenceModules? r.prog s = some s) (run : ∀ w, RunK0 r q K as M loose w) (g1 : defOf q r.name = some (d, kwd)) (g2 : r.prog.theDef r.name = some (d.params, d.body, d.scope)) (g3 : kwWritten? d.params.kwonlyargs d.params.kw_defaults = some kwd) (g4 : (!r.writes || r.records.isEmpty) = true) (g5 : r.wellSaid = true) (g6 : (chainsOk q && opensWell r.prog && (frees r.toRowW && r.within.isEmpty)) = true) (g7 : r.prog.bare) (hw : r.toRowW.promised)
    (hc : WalkO q loose (XL q []) H.says r.toRowW d kwd fun f vs => PySem.call f vs) : r.Holds := by
  subst hH
  refine HandSHeadRun.head_any (H := kHook K as e) (ob := fun s => as.map (HandSHeadRun.getT s)) (M := M) (fun s => ?_) he hf (fun w os => run w os) g1 g2 g3 g4 g5 g6 g7 hw hc
  exact List.map_congr_left fun a _ => HandSHeadRun.getT_eq s a
end Mi
end
namespace Mi.Lw
open PySem L2
noncomputable def topS (i : Nat) : Stmt := PySem.Challenge.pw_somesay_k70_numbers_and_depths_of_texts.main.body.getD i (.Pass ⟨0, 0, 0, 0⟩)
noncomputable def inClsS (s : Stmt) (j : Nat) : Stmt := match s with | .ClassDef _ _ _ body _ _ _ _ _ _ _ => body.getD j (.Pass ⟨0, 0, 0, 0⟩) | s => s
noncomputable abbrev s_l_folded : Stmt := topS 22
noncomputable abbrev s_l_box : Stmt := topS 20
noncomputable abbrev s_l_boxes : Stmt := topS 23
noncomputable abbrev s_l_take : Stmt := topS 21
noncomputable abbrev s_l_names : Stmt := topS 25
noncomputable abbrev s_p_next_word_1 : Stmt := inClsS (topS 17) 2
noncomputable abbrev s_p_refuse_2 : Stmt := inClsS (topS 17) 1
noncomputable abbrev s_p_read_word_2 : Stmt := inClsS (topS 17) 3
noncomputable abbrev s_p_read_form_2 : Stmt := inClsS (topS 17) 6
noncomputable abbrev s_p_number_of_word_1 : Stmt := topS 16
noncomputable abbrev s_p_read_number_2 : Stmt := inClsS (topS 17) 4
noncomputable abbrev s_p_read_numbers_2 : Stmt := inClsS (topS 17) 7
noncomputable abbrev s_p_read_term_2 : Stmt := inClsS (topS 17) 5
noncomputable abbrev s_p_read_saying_2 : Stmt := inClsS (topS 17) 8
noncomputable abbrev s_p___init___6 : Stmt := inClsS (topS 17) 0
noncomputable abbrev s_p_saying_of_2 : Stmt := topS 18
noncomputable abbrev s_l_is_number_1 : Stmt := topS 24
noncomputable abbrev s_l_refused_at_1 : Stmt := topS 26
noncomputable abbrev s_l_numbers_right_1 : Stmt := topS 27
noncomputable abbrev s_l_shares_right_1 : Stmt := topS 28
noncomputable abbrev s_l_opened : Stmt := topS 29
noncomputable abbrev s_l_depth_right_1 : Stmt := topS 30
noncomputable abbrev s_p_law_79 : Stmt := topS 31
noncomputable abbrev s_xi3 : Stmt := inClsS (topS 5) 0
noncomputable abbrev AllMk : Prop := ∀ {l : PySem.W.OpenLaw} {w : World} {K : PySem.W.Frag} {h : Heap} {mg : Str → Option Value} {fa : Addr} (X : K.In h) (G : h.Ns mainGlobals mg) (hfa : mg "law" = some (.ref fa))
    {C0 : Addr} (aC0 : PySem.W.nsIn K mainGlobals "Words" = some (some (.ref C0))) (pg0 : PySem.W.plainGet K C0 Str.empty = true) (hd0 : PySem.W.hasDictIn K C0 = true) (po0 : PySem.W.plainOver K C0 = true) (sa0 : PySem.W.findIn K (.ref C0) "__setattr__" = some (some (.builtin "object.__setattr__"))) (mk0 : PySem.W.makesIn K C0 = true) (kc0 : PySem.W.keepIn K (.ref C0) = true)
    (nf0 : PySem.W.findIn K (.ref C0) "at" = some none)
    (nf1 : PySem.W.findIn K (.ref C0) "names" = some none)
    (nf2 : PySem.W.findIn K (.ref C0) "words" = some none)
    {f0 : Addr} {od0 an0 : Option Addr} {sl0 : Array (Option Value)} {oc0 kV0 dc0 pm0 cd0 ct0 : Value}
    (a0 : PySem.W.nsIn K mainGlobals "_law_folded" = some (some (.ref f0))) (l0 : K.lookup f0 = some ⟨oc0, od0, .func (PySem.W.fnOf "_law_folded" "_law_folded" (defArgs s_l_folded) (defBody s_l_folded) (defScope s_l_folded) .none kV0 dc0 pm0 an0 cd0 ct0), sl0⟩) (c0 : PySem.W.codeIn K cd0 "_law_folded" = true) (k0 : PySem.W.keepIn K (.ref f0) = true)
    {f1 : Addr} {od1 an1 : Option Addr} {sl1 : Array (Option Value)} {oc1 kV1 dc1 pm1 cd1 ct1 : Value}
    (a1 : PySem.W.nsIn K mainGlobals "_law_box" = some (some (.ref f1))) (l1 : K.lookup f1 = some ⟨oc1, od1, .func (PySem.W.fnOf "_law_box" "_law_box" (defArgs s_l_box) (defBody s_l_box) (defScope s_l_box) .none kV1 dc1 pm1 an1 cd1 ct1), sl1⟩) (c1 : PySem.W.codeIn K cd1 "_law_box" = true) (k1 : PySem.W.keepIn K (.ref f1) = true)
    {f2 : Addr} {od2 an2 : Option Addr} {sl2 : Array (Option Value)} {oc2 kV2 dc2 pm2 cd2 ct2 : Value}
    (a2 : PySem.W.nsIn K mainGlobals "_law_boxes" = some (some (.ref f2))) (l2 : K.lookup f2 = some ⟨oc2, od2, .func (PySem.W.fnOf "_law_boxes" "_law_boxes" (defArgs s_l_boxes) (defBody s_l_boxes) (defScope s_l_boxes) .none kV2 dc2 pm2 an2 cd2 ct2), sl2⟩) (c2 : PySem.W.codeIn K cd2 "_law_boxes" = true) (k2 : PySem.W.keepIn K (.ref f2) = true)
    {f3 : Addr} {od3 an3 : Option Addr} {sl3 : Array (Option Value)} {oc3 kV3 dc3 pm3 cd3 ct3 : Value}
    (a3 : PySem.W.nsIn K mainGlobals "_law_take" = some (some (.ref f3))) (l3 : K.lookup f3 = some ⟨oc3, od3, .func (PySem.W.fnOf "_law_take" "_law_take" (defArgs s_l_take) (defBody s_l_take) (defScope s_l_take) .none kV3 dc3 pm3 an3 cd3 ct3), sl3⟩) (c3 : PySem.W.codeIn K cd3 "_law_take" = true) (k3 : PySem.W.keepIn K (.ref f3) = true)
    {f4 : Addr} {od4 an4 : Option Addr} {sl4 : Array (Option Value)} {oc4 kV4 dc4 pm4 cd4 ct4 : Value}
    (a4 : PySem.W.nsIn K mainGlobals "_law_names" = some (some (.ref f4))) (l4 : K.lookup f4 = some ⟨oc4, od4, .func (PySem.W.fnOf "_law_names" "_law_names" (defArgs s_l_names) (defBody s_l_names) (defScope s_l_names) .none kV4 dc4 pm4 an4 cd4 ct4), sl4⟩) (c4 : PySem.W.codeIn K cd4 "_law_names" = true) (k4 : PySem.W.keepIn K (.ref f4) = true)
    {f5 : Addr} {od5 an5 : Option Addr} {sl5 : Array (Option Value)} {oc5 kV5 dc5 pm5 cd5 ct5 : Value}
    (a5 : PySem.W.findIn K (.ref C0) "next_word" = some (some (.ref f5))) (i5 : PySem.W.isFn K (.ref f5) = true) (l5 : K.lookup f5 = some ⟨oc5, od5, .func (PySem.W.fnOf "next_word" "Words.next_word" (defArgs s_p_next_word_1) (defBody s_p_next_word_1) (defScope s_p_next_word_1) .none kV5 dc5 pm5 an5 cd5 ct5), sl5⟩) (c5 : PySem.W.codeIn K cd5 "Words.next_word" = true) (k5 : PySem.W.keepIn K (.ref f5) = true)
    {f6 : Addr} {od6 an6 : Option Addr} {sl6 : Array (Option Value)} {oc6 kV6 dc6 pm6 cd6 ct6 : Value}
    (a6 : PySem.W.findIn K (.ref C0) "refuse" = some (some (.ref f6))) (i6 : PySem.W.isFn K (.ref f6) = true) (l6 : K.lookup f6 = some ⟨oc6, od6, .func (PySem.W.fnOf "refuse" "Words.refuse" (defArgs s_p_refuse_2) (defBody s_p_refuse_2) (defScope s_p_refuse_2) .none kV6 dc6 pm6 an6 cd6 ct6), sl6⟩) (c6 : PySem.W.codeIn K cd6 "Words.refuse" = true) (k6 : PySem.W.keepIn K (.ref f6) = true)
    {f7 : Addr} {od7 an7 : Option Addr} {sl7 : Array (Option Value)} {oc7 kV7 dc7 pm7 cd7 ct7 : Value}
    (a7 : PySem.W.findIn K (.ref C0) "read_word" = some (some (.ref f7))) (i7 : PySem.W.isFn K (.ref f7) = true) (l7 : K.lookup f7 = some ⟨oc7, od7, .func (PySem.W.fnOf "read_word" "Words.read_word" (defArgs s_p_read_word_2) (defBody s_p_read_word_2) (defScope s_p_read_word_2) .none kV7 dc7 pm7 an7 cd7 ct7), sl7⟩) (c7 : PySem.W.codeIn K cd7 "Words.read_word" = true) (k7 : PySem.W.keepIn K (.ref f7) = true)
    {f8 : Addr} {od8 an8 : Option Addr} {sl8 : Array (Option Value)} {oc8 kV8 dc8 pm8 cd8 ct8 : Value}
    (a8 : PySem.W.findIn K (.ref C0) "read_form" = some (some (.ref f8))) (i8 : PySem.W.isFn K (.ref f8) = true) (l8 : K.lookup f8 = some ⟨oc8, od8, .func (PySem.W.fnOf "read_form" "Words.read_form" (defArgs s_p_read_form_2) (defBody s_p_read_form_2) (defScope s_p_read_form_2) .none kV8 dc8 pm8 an8 cd8 ct8), sl8⟩) (c8 : PySem.W.codeIn K cd8 "Words.read_form" = true) (k8 : PySem.W.keepIn K (.ref f8) = true)
    {f9 : Addr} {od9 an9 : Option Addr} {sl9 : Array (Option Value)} {oc9 kV9 dc9 pm9 cd9 ct9 : Value}
    (a9 : PySem.W.nsIn K mainGlobals "number_of_word" = some (some (.ref f9))) (l9 : K.lookup f9 = some ⟨oc9, od9, .func (PySem.W.fnOf "number_of_word" "number_of_word" (defArgs s_p_number_of_word_1) (defBody s_p_number_of_word_1) (defScope s_p_number_of_word_1) .none kV9 dc9 pm9 an9 cd9 ct9), sl9⟩) (c9 : PySem.W.codeIn K cd9 "number_of_word" = true) (k9 : PySem.W.keepIn K (.ref f9) = true)
    {f10 : Addr} {od10 an10 : Option Addr} {sl10 : Array (Option Value)} {oc10 kV10 dc10 pm10 cd10 ct10 : Value}
    (a10 : PySem.W.findIn K (.ref C0) "read_number" = some (some (.ref f10))) (i10 : PySem.W.isFn K (.ref f10) = true) (l10 : K.lookup f10 = some ⟨oc10, od10, .func (PySem.W.fnOf "read_number" "Words.read_number" (defArgs s_p_read_number_2) (defBody s_p_read_number_2) (defScope s_p_read_number_2) .none kV10 dc10 pm10 an10 cd10 ct10), sl10⟩) (c10 : PySem.W.codeIn K cd10 "Words.read_number" = true) (k10 : PySem.W.keepIn K (.ref f10) = true)
    {f11 : Addr} {od11 an11 : Option Addr} {sl11 : Array (Option Value)} {oc11 kV11 dc11 pm11 cd11 ct11 : Value}
    (a11 : PySem.W.findIn K (.ref C0) "read_numbers" = some (some (.ref f11))) (i11 : PySem.W.isFn K (.ref f11) = true) (l11 : K.lookup f11 = some ⟨oc11, od11, .func (PySem.W.fnOf "read_numbers" "Words.read_numbers" (defArgs s_p_read_numbers_2) (defBody s_p_read_numbers_2) (defScope s_p_read_numbers_2) .none kV11 dc11 pm11 an11 cd11 ct11), sl11⟩) (c11 : PySem.W.codeIn K cd11 "Words.read_numbers" = true) (k11 : PySem.W.keepIn K (.ref f11) = true)
    {f12 : Addr} {od12 an12 : Option Addr} {sl12 : Array (Option Value)} {oc12 kV12 dc12 pm12 cd12 ct12 : Value}
    (a12 : PySem.W.findIn K (.ref C0) "read_term" = some (some (.ref f12))) (i12 : PySem.W.isFn K (.ref f12) = true) (l12 : K.lookup f12 = some ⟨oc12, od12, .func (PySem.W.fnOf "read_term" "Words.read_term" (defArgs s_p_read_term_2) (defBody s_p_read_term_2) (defScope s_p_read_term_2) .none kV12 dc12 pm12 an12 cd12 ct12), sl12⟩) (c12 : PySem.W.codeIn K cd12 "Words.read_term" = true) (k12 : PySem.W.keepIn K (.ref f12) = true)
    {f13 : Addr} {od13 an13 : Option Addr} {sl13 : Array (Option Value)} {oc13 kV13 dc13 pm13 cd13 ct13 : Value}
    (a13 : PySem.W.findIn K (.ref C0) "read_saying" = some (some (.ref f13))) (i13 : PySem.W.isFn K (.ref f13) = true) (l13 : K.lookup f13 = some ⟨oc13, od13, .func (PySem.W.fnOf "read_saying" "Words.read_saying" (defArgs s_p_read_saying_2) (defBody s_p_read_saying_2) (defScope s_p_read_saying_2) .none kV13 dc13 pm13 an13 cd13 ct13), sl13⟩) (c13 : PySem.W.codeIn K cd13 "Words.read_saying" = true) (k13 : PySem.W.keepIn K (.ref f13) = true)
    {f14 : Addr} {od14 an14 : Option Addr} {sl14 : Array (Option Value)} {oc14 kV14 dc14 pm14 cd14 ct14 : Value}
    (a14 : PySem.W.findIn K (.ref C0) "__init__" = some (some (.ref f14))) (i14 : PySem.W.isFn K (.ref f14) = true) (l14 : K.lookup f14 = some ⟨oc14, od14, .func (PySem.W.fnOf "__init__" "Words.__init__" (defArgs s_p___init___6) (defBody s_p___init___6) (defScope s_p___init___6) .none kV14 dc14 pm14 an14 cd14 ct14), sl14⟩) (c14 : PySem.W.codeIn K cd14 "Words.__init__" = true) (k14 : PySem.W.keepIn K (.ref f14) = true)
    {f15 : Addr} {od15 an15 : Option Addr} {sl15 : Array (Option Value)} {oc15 kV15 dc15 pm15 cd15 ct15 : Value}
    (a15 : PySem.W.nsIn K mainGlobals "saying_of" = some (some (.ref f15))) (l15 : K.lookup f15 = some ⟨oc15, od15, .func (PySem.W.fnOf "saying_of" "saying_of" (defArgs s_p_saying_of_2) (defBody s_p_saying_of_2) (defScope s_p_saying_of_2) .none kV15 dc15 pm15 an15 cd15 ct15), sl15⟩) (c15 : PySem.W.codeIn K cd15 "saying_of" = true) (k15 : PySem.W.keepIn K (.ref f15) = true)
    {f16 : Addr} {od16 an16 : Option Addr} {sl16 : Array (Option Value)} {oc16 kV16 dc16 pm16 cd16 ct16 : Value}
    (a16 : PySem.W.nsIn K mainGlobals "_law_is_number" = some (some (.ref f16))) (l16 : K.lookup f16 = some ⟨oc16, od16, .func (PySem.W.fnOf "_law_is_number" "_law_is_number" (defArgs s_l_is_number_1) (defBody s_l_is_number_1) (defScope s_l_is_number_1) .none kV16 dc16 pm16 an16 cd16 ct16), sl16⟩) (c16 : PySem.W.codeIn K cd16 "_law_is_number" = true) (k16 : PySem.W.keepIn K (.ref f16) = true)
    {f17 : Addr} {od17 an17 : Option Addr} {sl17 : Array (Option Value)} {oc17 kV17 dc17 pm17 cd17 ct17 : Value}
    (a17 : PySem.W.nsIn K mainGlobals "_law_refused_at" = some (some (.ref f17))) (l17 : K.lookup f17 = some ⟨oc17, od17, .func (PySem.W.fnOf "_law_refused_at" "_law_refused_at" (defArgs s_l_refused_at_1) (defBody s_l_refused_at_1) (defScope s_l_refused_at_1) .none kV17 dc17 pm17 an17 cd17 ct17), sl17⟩) (c17 : PySem.W.codeIn K cd17 "_law_refused_at" = true) (k17 : PySem.W.keepIn K (.ref f17) = true)
    {f18 : Addr} {od18 an18 : Option Addr} {sl18 : Array (Option Value)} {oc18 kV18 dc18 pm18 cd18 ct18 : Value}
    (a18 : PySem.W.nsIn K mainGlobals "_law_numbers_right" = some (some (.ref f18))) (l18 : K.lookup f18 = some ⟨oc18, od18, .func (PySem.W.fnOf "_law_numbers_right" "_law_numbers_right" (defArgs s_l_numbers_right_1) (defBody s_l_numbers_right_1) (defScope s_l_numbers_right_1) .none kV18 dc18 pm18 an18 cd18 ct18), sl18⟩) (c18 : PySem.W.codeIn K cd18 "_law_numbers_right" = true) (k18 : PySem.W.keepIn K (.ref f18) = true)
    {f19 : Addr} {od19 an19 : Option Addr} {sl19 : Array (Option Value)} {oc19 kV19 dc19 pm19 cd19 ct19 : Value}
    (a19 : PySem.W.nsIn K mainGlobals "_law_shares_right" = some (some (.ref f19))) (l19 : K.lookup f19 = some ⟨oc19, od19, .func (PySem.W.fnOf "_law_shares_right" "_law_shares_right" (defArgs s_l_shares_right_1) (defBody s_l_shares_right_1) (defScope s_l_shares_right_1) .none kV19 dc19 pm19 an19 cd19 ct19), sl19⟩) (c19 : PySem.W.codeIn K cd19 "_law_shares_right" = true) (k19 : PySem.W.keepIn K (.ref f19) = true)
    {f20 : Addr} {od20 an20 : Option Addr} {sl20 : Array (Option Value)} {oc20 kV20 dc20 pm20 cd20 ct20 : Value}
    (a20 : PySem.W.nsIn K mainGlobals "_law_opened" = some (some (.ref f20))) (l20 : K.lookup f20 = some ⟨oc20, od20, .func (PySem.W.fnOf "_law_opened" "_law_opened" (defArgs s_l_opened) (defBody s_l_opened) (defScope s_l_opened) .none kV20 dc20 pm20 an20 cd20 ct20), sl20⟩) (c20 : PySem.W.codeIn K cd20 "_law_opened" = true) (k20 : PySem.W.keepIn K (.ref f20) = true)
    {f21 : Addr} {od21 an21 : Option Addr} {sl21 : Array (Option Value)} {oc21 kV21 dc21 pm21 cd21 ct21 : Value}
    (a21 : PySem.W.nsIn K mainGlobals "_law_depth_right" = some (some (.ref f21))) (l21 : K.lookup f21 = some ⟨oc21, od21, .func (PySem.W.fnOf "_law_depth_right" "_law_depth_right" (defArgs s_l_depth_right_1) (defBody s_l_depth_right_1) (defScope s_l_depth_right_1) .none kV21 dc21 pm21 an21 cd21 ct21), sl21⟩) (c21 : PySem.W.codeIn K cd21 "_law_depth_right" = true) (k21 : PySem.W.keepIn K (.ref f21) = true)
    {f22 : Addr} {od22 an22 : Option Addr} {sl22 : Array (Option Value)} {oc22 kV22 dc22 pm22 cd22 ct22 : Value}
    (a22 : PySem.W.nsIn K mainGlobals "law" = some (some (.ref f22))) (l22 : K.lookup f22 = some ⟨oc22, od22, .func (PySem.W.fnOf "law" "law" (defArgs s_p_law_79) (defBody s_p_law_79) (defScope s_p_law_79) .none kV22 dc22 pm22 an22 cd22 ct22), sl22⟩) (c22 : PySem.W.codeIn K cd22 "law" = true) (k22 : PySem.W.keepIn K (.ref f22) = true)
    (z0 : PySem.W.nsIn K mainGlobals "ValueError" = some none)
    (z1 : PySem.W.nsIn K mainGlobals "abs" = some none)
    (z2 : PySem.W.nsIn K mainGlobals "all" = some none)
    (z3 : PySem.W.nsIn K mainGlobals "bool" = some none)
    (z4 : PySem.W.nsIn K mainGlobals "divmod" = some none)
    (z5 : PySem.W.nsIn K mainGlobals "enumerate" = some none)
    (z6 : PySem.W.nsIn K mainGlobals "int" = some none)
    (z7 : PySem.W.nsIn K mainGlobals "isinstance" = some none)
    (z8 : PySem.W.nsIn K mainGlobals "len" = some none)
    (z9 : PySem.W.nsIn K mainGlobals "list" = some none)
    (z10 : PySem.W.nsIn K mainGlobals "max" = some none)
    (z11 : PySem.W.nsIn K mainGlobals "range" = some none)
    (z12 : PySem.W.nsIn K mainGlobals "str" = some none)
    {X0 : Addr} (xa0 : PySem.W.nsIn K mainGlobals "Taken" = some (some (.ref X0)))
    {X1 : Addr} (xa1 : PySem.W.nsIn K mainGlobals "TooMany" = some (some (.ref X1)))
    {X2 : Addr} (xa2 : PySem.W.nsIn K mainGlobals "NoLabel" = some (some (.ref X2)))
    {X3 : Addr} (xa3 : PySem.W.nsIn K mainGlobals "BadText" = some (some (.ref X3)))
    {X4 : Addr} (xa4 : PySem.W.nsIn K mainGlobals "BadRow" = some (some (.ref X4)))
    {X5 : Addr} (xa5 : PySem.W.nsIn K mainGlobals "SayError" = some (some (.ref X5)))
    (xd5 : baseB K X5 = true) (xe5 : PySem.W.findCls K (.ref X5) (.type "type") "__init__" = some (.val (.builtin "ValueError.__init__")))
    (xb3 : errB K "BadText" X3 = true)
    {nm3 : Str} {q3 : Str} {N3 : Addr} {bs3 bm3 : List Value} {sn3 : List Str} {sub3 : List Value} {ab3 : Bool} {col3 : Option Bool} {dd3 : Option Addr} {kA3 kB3 kC3 kD3 kE3 : Option Value}
    (xf3 : oexB K X3 "word" = true) (xg3 : K.lookup X3 = some (excClassObj nm3 q3 X3 N3 bs3 bm3 true sn3 sub3 ab3 col3 dd3 kA3 kB3 kC3 kD3 kE3 "ValueError.__new__")) (xh3 : PySem.HandSPX.refsVE bm3 = true)
    {xI3 : Addr} {xod3 xan3 : Option Addr} {xsl3 : Array (Option Value)} {xoc3 xkV3 xdc3 xpm3 xcd3 xct3 : Value}
    (xi3 : PySem.W.findIn K (.ref X3) "__init__" = some (some (.ref xI3))) (xj3 : PySem.W.typeIn K (.ref xI3) = some (.type "function")) (xl3 : K.lookup xI3 = some ⟨xoc3, xod3, .func (PySem.W.fnOf "__init__" "BadText.__init__" (defArgs s_xi3) (defBody s_xi3) (defScope s_xi3) .none xkV3 xdc3 xpm3 xan3 xcd3 xct3), xsl3⟩) (xm3 : PySem.W.codeIn K xcd3 "BadText.__init__" = true) (xn3 : PySem.W.keepIn K (.ref xI3) = true)
    {ga10 : Addr} (gn10 : PySem.W.nsIn K mainGlobals "BETWEEN" = some (some (.ref ga10))) (gd10 : He.dicW K ga10 = some (He.keysIn w.params ["more", "asmany"])) (gv10 : gDic K ga10 [.inr "more", .inr "asmany"] [.str "than", .str "as"] = true)
    {gu13 : Value} (gn13 : PySem.W.nsIn K mainGlobals "FIGURES" = some (some gu13)) (gv13 : gVal K (.str "0123456789") gu13 = true)
    {ga17 : Addr} (gn17 : PySem.W.nsIn K mainGlobals "FIRSTS" = some (some (.ref ga17))) (gd17 : He.dicW K ga17 = some (He.keysIn w.params ["all", "some", "no", "exactly", "more", "share"])) (gv17 : gDic K ga17 [.inr "all", .inr "some", .inr "no", .inr "exactly", .inr "more", .inr "share"] [.str "all", .str "some", .str "none", .str "just", .str "more", .str "share"] = true)
    {gu7 : Value} (gn7 : PySem.W.nsIn K mainGlobals "MOST_BOTTOM" = some (some gu7)) (gv7 : gVal K (.int 12) gu7 = true)
    {gu3 : Value} (gn3 : PySem.W.nsIn K mainGlobals "MOST_DEEP" = some (some gu3)) (gv3 : gVal K (.int 8) gu3 = true)
    {gu6 : Value} (gn6 : PySem.W.nsIn K mainGlobals "MOST_NUMBER" = some (some gu6)) (gv6 : gVal K (.int 41) gu6 = true)
    {gu18 : Value} (gn18 : PySem.W.nsIn K mainGlobals "OPENERS" = some (some gu18)) (gv18 : gVal K (.tup [.str "not", .str "at", .str "as"]) gu18 = true)
    {ga19 : Addr} (gn19 : PySem.W.nsIn K mainGlobals "SECONDS" = some (some (.ref ga19))) (gd19 : He.dicW K ga19 = some (He.keysIn w.params ["not all", "not share", "at least", "at most", "as many"])) (gv19 : gDic K ga19 [.inr "not all", .inr "not share", .inr "at least", .inr "at most", .inr "as many"] [.str "notall", .str "under", .str "least", .str "most", .str "asmany"] = true),
    ∃ fd : FuncData, (∀ (s : Shared) (v : Value), BindsTo s fd ⟨[v], []⟩ [("_law_script", v)]) ∧ ∀ base : Heap, K.In base → base.Ns mainGlobals mg → FnG l.prog w K mg base (2 * 40 + 1) fa fd ["_law_script"] (Mi.spLawH K)
end Mi.Lw
section
namespace Mi.Lw
noncomputable def loose0 : List PySem.Str := ["__name__", "SayError", "Taken", "TooMany", "NoLabel", "BadText", "BadRow", "MOST_DEEP", "MOST_NUMBER", "MOST_BOTTOM", "FIGURES", "BETWEEN", "FIRSTS", "OPENERS", "SECONDS", "number_of_word", "Words", "saying_of", "_law_box", "_law_take", "_law_folded", "_law_boxes", "_law_is_number", "_law_names", "_law_refused_at", "_law_numbers_right", "_law_shares_right", "_law_opened", "_law_depth_right"]
end Mi.Lw
local macro_rules | `(tactic| o_head $H) => `(tactic| (first
  | refine Mi.head_km (r := PySem.W.OpenLaw.row PySem.Challenge.rw_somesay_k70_numbers_and_depths_of_texts) (q := PySem.W.view (PySem.W.OpenLaw.row PySem.Challenge.rw_somesay_k70_numbers_and_depths_of_texts).prog [31]) (H := $H) rfl (M := 40000) (loose := Mi.Lw.loose0) (by kernel_rfl) (fun s => by kernel_rfl) ?run (by rfl) (by rfl) (by rfl) (by rfl) (by first | assumption | decide +kernel) (by decide +kernel) ⟨rfl, rfl, rfl, rfl, rfl, by decide +kernel⟩ ?hw ?hc
  | refine Mi.head_k (r := PySem.W.OpenLaw.row PySem.Challenge.rw_somesay_k70_numbers_and_depths_of_texts) (q := PySem.W.view (PySem.W.OpenLaw.row PySem.Challenge.rw_somesay_k70_numbers_and_depths_of_texts).prog [31]) (H := $H) rfl (M := 40000) (loose := Mi.Lw.loose0) (by kernel_rfl) (fun s => by kernel_rfl) ?run (by rfl) (by rfl) (by rfl) (by rfl) (by first | assumption | decide +kernel) (by decide +kernel) ⟨rfl, rfl, rfl, rfl, rfl, by decide +kernel⟩ ?hw ?hc))
open PySem PySem.W PyProof.Rows
set_option maxHeartbeats 0 in
theorem Mi.Lw.head_of (hall : Mi.Lw.AllMk) : PySem.Challenge.rw_somesay_k70_numbers_and_depths_of_texts.Holds := by
  w_on; o_law; k_head; (case hw => w_witness2); (case run => exact byRow2 "special-get-raises" (fun w os => by kernel_rfl) (fun w os => by kernel_rfl))
  k_fill
  refine Mi.walkG (l := PySem.Challenge.rw_somesay_k70_numbers_and_depths_of_texts) (n := 63) (k := 2 * 40 + 1) (x := "_law_script") (sp := fun w => Mi.spLawH _) rfl (by decide) rfl ⟨rfl, by decide, by decide⟩ (fun w h Y => PySem.W.kIn_of Y) ?F (fun _ _ a ns hl hO hS => ⟨a, ns, rfl, hl, hO, hS, fun _ => rfl⟩)
  case F =>
    intro w mg fa h KX G hmg
    refine' hall KX G hmg ?aC0 ?pg0 ?hd0 ?po0 ?sa0 ?mk0 ?kc0 ?nf0 ?nf1 ?nf2 ?a0 ?l0 ?c0 ?k0 ?a1 ?l1 ?c1 ?k1 ?a2 ?l2 ?c2 ?k2 ?a3 ?l3 ?c3 ?k3 ?a4 ?l4 ?c4 ?k4 ?a5 ?i5 ?l5 ?c5 ?k5 ?a6 ?i6 ?l6 ?c6 ?k6 ?a7 ?i7 ?l7 ?c7 ?k7 ?a8 ?i8 ?l8 ?c8 ?k8 ?a9 ?l9 ?c9 ?k9 ?a10 ?i10 ?l10 ?c10 ?k10 ?a11 ?i11 ?l11 ?c11 ?k11 ?a12 ?i12 ?l12 ?c12 ?k12 ?a13 ?i13 ?l13 ?c13 ?k13 ?a14 ?i14 ?l14 ?c14 ?k14 ?a15 ?l15 ?c15 ?k15 ?a16 ?l16 ?c16 ?k16 ?a17 ?l17 ?c17 ?k17 ?a18 ?l18 ?c18 ?k18 ?a19 ?l19 ?c19 ?k19 ?a20 ?l20 ?c20 ?k20 ?a21 ?l21 ?c21 ?k21 ?a22 ?l22 ?c22 ?k22 ?z0 ?z1 ?z2 ?z3 ?z4 ?z5 ?z6 ?z7 ?z8 ?z9 ?z10 ?z11 ?z12 ?xa0 ?xa1 ?xa2 ?xa3 ?xa4 ?xa5 ?xd5 ?xe5 ?xb3 ?xf3 ?xg3 ?xh3 ?xi3 ?xj3 ?xl3 ?xm3 ?xn3 ?gn10 ?gd10 ?gv10 ?gn13 ?gv13 ?gn17 ?gd17 ?gv17 ?gn7 ?gv7 ?gn3 ?gv3 ?gn6 ?gv6 ?gn18 ?gv18 ?gn19 ?gd19 ?gv19
    (case aC0 => k_is); (case pg0 => k_is); (case hd0 => k_is); (case po0 => k_is); (case sa0 => k_is); (case mk0 => k_is); (case kc0 => k_is); (case nf0 => k_is); (case nf1 => k_is); (case nf2 => k_is); (case a0 => k_is); (case l0 => k_is); (case c0 => k_is); (case k0 => k_is); (case a1 => k_is); (case l1 => k_is); (case c1 => k_is); (case k1 => k_is); (case a2 => k_is); (case l2 => k_is); (case c2 => k_is); (case k2 => k_is); (case a3 => k_is); (case l3 => k_is); (case c3 => k_is); (case k3 => k_is); (case a4 => k_is); (case l4 => k_is); (case c4 => k_is); (case k4 => k_is); (case a5 => k_is); (case i5 => k_is); (case l5 => k_is); (case c5 => k_is); (case k5 => k_is); (case a6 => k_is); (case i6 => k_is); (case l6 => k_is); (case c6 => k_is); (case k6 => k_is); (case a7 => k_is); (case i7 => k_is); (case l7 => k_is); (case c7 => k_is); (case k7 => k_is); (case a8 => k_is); (case i8 => k_is); (case l8 => k_is); (case c8 => k_is); (case k8 => k_is); (case a9 => k_is); (case l9 => k_is); (case c9 => k_is); (case k9 => k_is); (case a10 => k_is); (case i10 => k_is); (case l10 => k_is); (case c10 => k_is); (case k10 => k_is); (case a11 => k_is); (case i11 => k_is); (case l11 => k_is); (case c11 => k_is); (case k11 => k_is); (case a12 => k_is); (case i12 => k_is); (case l12 => k_is); (case c12 => k_is); (case k12 => k_is); (case a13 => k_is); (case i13 => k_is); (case l13 => k_is); (case c13 => k_is); (case k13 => k_is); (case a14 => k_is); (case i14 => k_is); (case l14 => k_is); (case c14 => k_is); (case k14 => k_is); (case a15 => k_is); (case l15 => k_is); (case c15 => k_is); (case k15 => k_is); (case a16 => k_is); (case l16 => k_is); (case c16 => k_is); (case k16 => k_is); (case a17 => k_is); (case l17 => k_is); (case c17 => k_is); (case k17 => k_is); (case a18 => k_is); (case l18 => k_is); (case c18 => k_is); (case k18 => k_is); (case a19 => k_is); (case l19 => k_is); (case c19 => k_is); (case k19 => k_is); (case a20 => k_is); (case l20 => k_is); (case c20 => k_is); (case k20 => k_is); (case a21 => k_is); (case l21 => k_is); (case c21 => k_is); (case k21 => k_is); (case a22 => k_is); (case l22 => k_is); (case c22 => k_is); (case k22 => k_is); (case z0 => k_is); (case z1 => k_is); (case z2 => k_is); (case z3 => k_is); (case z4 => k_is); (case z5 => k_is); (case z6 => k_is); (case z7 => k_is); (case z8 => k_is); (case z9 => k_is); (case z10 => k_is); (case z11 => k_is); (case z12 => k_is)
    (case xa0 => k_is); (case xa1 => k_is); (case xa2 => k_is); (case xa3 => k_is); (case xa4 => k_is); (case xa5 => k_is); (case xd5 => kernel_rfl); (case xe5 => k_is); (case xb3 => kernel_rfl); (case xf3 => kernel_rfl); (case xg3 => k_is); (case xh3 => decide +kernel); (case xi3 => k_is); (case xj3 => k_is); (case xl3 => k_is); (case xm3 => k_is); (case xn3 => k_is)
    (case gn10 => k_is); (case gd10 => kernel_rfl); (case gv10 => kernel_rfl); (case gn13 => k_is); (case gv13 => kernel_rfl); (case gn17 => k_is); (case gd17 => kernel_rfl); (case gv17 => kernel_rfl); (case gn7 => k_is); (case gv7 => kernel_rfl); (case gn3 => k_is); (case gv3 => kernel_rfl); (case gn6 => k_is); (case gv6 => kernel_rfl); (case gn18 => k_is); (case gv18 => kernel_rfl); (case gn19 => k_is); (case gd19 => kernel_rfl); (case gv19 => kernel_rfl)
end

noncomputable section
namespace Mi
open PySem PySem.Spec L2

inductive Kd where
  | l | t
noncomputable def Kd.It : Kd → Heap → Addr → Addr → Nat → Prop
  | .l, h, a, p, i => h.IsListIter a p i
  | .t, h, a, p, i => h.IsTupleIter a p i
noncomputable def Kd.Sq : Kd → Heap → Addr → Array Value → Prop
  | .l, h, p, xs => h.IsList p xs
  | .t, h, p, xs => h.IsTuple p xs
noncomputable def Kd.nm : Kd → String
  | .l => "list_iterator"
  | .t => "tuple_iterator"
theorem Kd.It.eb : ∀ {k : Kd} {h h' : Heap} {a b p : Addr} {i : Nat}, k.It h a p i → Heap.ExtBut b h h' → a ≠ b → k.It h' a p i
  | .l, _, _, _, _, _, _, x, e, n => Heap.IsListIter.extBut x e n
  | .t, _, _, _, _, _, _, x, e, n => Heap.IsTupleIter.extBut x e n
theorem Kd.Sq.eb : ∀ {k : Kd} {h h' : Heap} {a b : Addr} {xs : Array Value}, k.Sq h a xs → Heap.ExtBut b h h' → a ≠ b → k.Sq h' a xs
  | .l, _, _, _, _, _, x, e, n => Heap.IsList.extBut x e n
  | .t, _, _, _, _, _, x, e, n => Heap.IsTuple.extBut x e n
theorem Kd.Sq.more : ∀ {k : Kd} {h : Heap} {a : Addr} {xs : Array Value}, k.Sq h a xs → ∀ o, k.Sq (h.push o) a xs
  | .l, _, _, _, x, o => Heap.IsList.push x o
  | .t, _, _, _, x, o => Heap.IsTuple.push x o
theorem Kd.It.mv : ∀ {k : Kd} {h h' : Heap} {a p : Addr} {i : Nat}, k.It h a p i → (∀ o, h.get? a = some o → h'.get? a = some o) → k.It h' a p i
  | .l, _, _, _, _, _, ⟨o, q, r⟩, e => ⟨o, e o q, r⟩
  | .t, _, _, _, _, _, ⟨o, q, r⟩, e => ⟨o, e o q, r⟩
theorem Kd.It.obj : ∀ {k : Kd} {h : Heap} {a p : Addr} {i : Nat}, k.It h a p i → ∃ o, h.get? a = some o ∧ o.data = .fields #[.ref p, .int i 0]
  | .l, _, _, _, _, ⟨o, q, _, r⟩ => ⟨o, q, r⟩
  | .t, _, _, _, _, ⟨o, q, _, r⟩ => ⟨o, q, r⟩
theorem Kd.It.lt {k : Kd} {h : Heap} {a p : Addr} {i : Nat} (x : k.It h a p i) : a < h.objs.size := let ⟨_, q, _⟩ := x.obj; Heap.lt_size q
theorem Kd.Sq.lt : ∀ {k : Kd} {h : Heap} {a : Addr} {xs : Array Value}, k.Sq h a xs → a < h.objs.size
  | .l, _, _, _, ⟨_, q, _⟩ => Heap.lt_size q
  | .t, _, _, _, ⟨_, q, _⟩ => Heap.lt_size q
theorem Kd.new : ∀ (k : Kd) (h : Heap) (p : Addr), k.It (h.push { cls := .type k.nm, data := .fields #[.ref p, .int 0 0] }) h.objs.size p 0
  | .l, _, _ => ⟨_, Heap.get?_push_size _ rfl, rfl, rfl⟩
  | .t, _, _ => ⟨_, Heap.get?_push_size _ rfl, rfl, rfl⟩
section
variable {prog : Program} {w : World} {A : Around} {E : Value → Shared → Prop} {s : Shared}
theorem Kd.next : ∀ {k : Kd} {a p : Addr} {i : Nat} {xs : Array Value} {x : Value} {Q : Value → Shared → Prop}, k.It s.heap a p i → k.Sq s.heap p xs → xs[i]? = some x →
    (∀ h', k.It h' a p (i + 1) → Heap.SameBut a s.heap h' → Q x { s with heap := h' }) → wpAny (model prog w) A (Builtin.SmallTypes.nextOf (.ref a)) Q E s
  | .l, _, _, _, _, _, _, h1, h2, hx, q => wpAny_nextOf_list_item h1 h2 hx q
  | .t, _, _, _, _, _, _, h1, h2, hx, q => RZ.nextOf_tuple_item h1 h2 hx q
theorem Kd.stop : ∀ {k : Kd} {a p : Addr} {i : Nat} {xs : Array Value} {Q : Value → Shared → Prop}, A.handled = none → k.It s.heap a p i → k.Sq s.heap p xs → xs[i]? = none →
    (∀ h' e, Heap.ExtBut a s.heap h' → (∃ o, h'.get? e = some o ∧ o.cls = .type "StopIteration") → E (.ref e) { s with heap := h' }) → wpAny (model prog w) A (Builtin.SmallTypes.nextOf (.ref a)) Q E s
  | .l, _, _, _, _, _, hh, h1, h2, hx, q => wpAny_nextOf_list_end hh h1 h2 hx q
  | .t, _, _, _, _, _, hh, h1, h2, hx, q => RZ.nextOf_tuple_end hh h1 h2 hx q
theorem Kd.iter : ∀ {k : Kd} {p : Addr} {xs : Array Value} {Q : Value → Shared → Prop}, k.Sq s.heap p xs → Q (.ref s.heap.objs.size) { s with heap := s.heap.push { cls := .type k.nm, data := .fields #[.ref p, .int 0 0] } } → wpAny (model prog w) A (pyIter (.ref p)) Q E s
  | .l, _, _, _, h, q => wpAny_pyIter_list h q
  | .t, _, _, _, h, q => wpAny_pyIter_tuple h q

noncomputable def ZKeep (z o a b : Addr) (h h' : Heap) : Prop := ∀ c ob, c ≠ z → c ≠ o → c ≠ a → c ≠ b → h.get? c = some ob → h'.get? c = some ob
theorem z_item {k m : Kd} {z I O a b p q : Addr} {i j : Nat} {xs ys : Array Value} {x y u v : Value} {Q : Value → Shared → Prop} (D : ZipApart z I O a b p q)
    (hz : IsZip s.heap z I O .none) (hI : IsPair s.heap I (.ref a) (.ref b)) (hO : IsPair s.heap O u v)
    (ha : k.It s.heap a p i) (hb : m.It s.heap b q j) (hp : k.Sq s.heap p xs) (hq : m.Sq s.heap q ys) (hx : xs[i]? = some x) (hy : ys[j]? = some y)
    (fin : ∀ h', IsZip h' z I O (rawInt s.heap.objs.size) → IsPair h' O x y → k.It h' a p (i + 1) → m.It h' b q (j + 1) → IsPair h' s.heap.objs.size x y → ZKeep z O a b s.heap h' → Q (.ref s.heap.objs.size) { s with heap := h' }) :
    wpAny (model prog w) A (Builtin.«zip.__next__» ⟨[.ref z], []⟩) (fun f s' => ∃ r, f = .done (.ret r) ∧ Q r s') E s := by
  show wpAny _ _ (field (.ref z) 2 >>= _) _ _ _
  refine wpAny_bind (wpAny_field hz rfl (x := .bool false) rfl (?_ : wpAny _ _ (field (.ref z) 3 >>= _) _ _ _))
  refine wpAny_bind (wpAny_field hz rfl (x := .ref I) rfl (wpAny_bind (wpAny_seqItems hI rfl (?_ : wpAny _ _ (Builtin.SmallTypes.ownedTupleIsFree (.ref z) >>= _) _ _ _))))
  refine wpAny_bind ?_
  unfold Builtin.SmallTypes.ownedTupleIsFree
  refine wpAny_bind (wpAny_field hz rfl (x := .none) rfl (wpAny_pure ?_))
  simp only [if_true]
  refine wpAny_bind (wpAny_rule (wpAny_bind (wpAny_field hz rfl (x := .ref O) rfl (wpAny_bind (wpAny_setField_rec hz (by simp) fun g1 z1 s1 => wpAny_bind ?_)))))
  have z1 : IsZip g1 z I O .ellipsis := z1
  simp only [List.zipIdx_cons, List.zipIdx_nil, List.forIn_cons, List.forIn_nil]
  refine wpAny_bind (wpAny_bind (wpAny_onRaise (?_ : wpAny _ _ (Builtin.SmallTypes.nextOf (.ref a) >>= _) _ _ _)))
  refine wpAny_bind (Kd.next (ha.eb s1.extBut D.i1z) (hp.eb s1.extBut D.l1z) hx fun g2 a2 s2 => wpAny_pure ?_)
  have o2 : IsPair g2 O u v := s2.extBut _ _ D.TOi1 (s1.extBut _ _ D.TOz hO)
  refine wpAny_bind (wpAny_seqItems o2 rfl (wpAny_bind (wpAny_updateSeq_pair o2 fun g3 o3 s3 => wpAny_bind (wpAny_letGo (wpAny_pure ?_)))))
  have o3 : IsPair g3 O x v := o3
  refine wpAny_bind (wpAny_bind (wpAny_onRaise (?_ : wpAny _ _ (Builtin.SmallTypes.nextOf (.ref b) >>= _) _ _ _)))
  refine wpAny_bind (Kd.next (((hb.eb s1.extBut D.i2z).eb s2.extBut D.i12.symm).eb s3.extBut D.TOi2.symm) (((hq.eb s1.extBut D.l2z).eb s2.extBut D.l2i1).eb s3.extBut D.l2TO) hy fun g4 b4 s4 => wpAny_pure ?_)
  have o4 : IsPair g4 O x v := s4.extBut _ _ D.TOi2 o3
  refine wpAny_bind (wpAny_seqItems o4 rfl (wpAny_bind (wpAny_updateSeq_pair o4 fun g5 o5 s5 => wpAny_bind (wpAny_letGo (wpAny_pure (wpAny_pure ?_))))))
  have o5 : IsPair g5 O x y := o5
  have sz : g5.objs.size = s.heap.objs.size := by rw [s5.1, s4.1, s3.1, s2.1, s1.1]
  have z5 : IsZip g5 z I O .ellipsis := s5.extBut _ _ D.TOz.symm (s4.extBut _ _ D.i2z.symm (s3.extBut _ _ D.TOz.symm (s2.extBut _ _ D.i1z.symm z1)))
  have k5 : ZKeep z O a b s.heap g5 := fun c ob c1 c2 c3 c4 e => s5.extBut _ _ c2 (s4.extBut _ _ c4 (s3.extBut _ _ c2 (s2.extBut _ _ c3 (s1.extBut _ _ c1 e))))
  have a5 : k.It g5 a p (i + 1) := ((a2.eb s3.extBut D.TOi1.symm).eb s4.extBut D.i12).eb s5.extBut D.TOi1.symm
  have b5 : m.It g5 b q (j + 1) := b4.eb s5.extBut D.TOi2.symm
  have zl : g5.objs.size ≠ z := Nat.ne_of_gt (Heap.lt_size z5)
  refine wpAny_bind (wpAny_seqItems o5 rfl (wpAny_bind (wpAny_newTuple (?_ : wpAny _ _ (Builtin.SmallTypes.ownedTupleHandOut (.ref z) (.ref g5.objs.size) >>= _) _ _ _))))
  refine wpAny_bind ?_
  unfold Builtin.SmallTypes.ownedTupleHandOut
  have z6 : IsZip (g5.push { cls := .type "tuple", data := .seq #[x, y] }) z I O .ellipsis := Heap.get?_push_of_some _ z5
  refine wpAny_bind (wpAny_setField_rec z6 (by simp) fun g7 z7 s7 => ?_)
  have z7 : IsZip g7 z I O (rawInt g5.objs.size) := z7
  refine wpAny_setField_rec z7 (by simp) fun g8 z8 s8 => wpAny_pure ⟨_, rfl, ?_⟩
  have z8 : IsZip g8 z I O (rawInt g5.objs.size) := z8
  have up : ∀ c ob, c ≠ z → g5.get? c = some ob → g8.get? c = some ob := fun c ob c1 e => s8.extBut _ _ c1 (s7.extBut _ _ c1 (Heap.get?_push_of_some _ e))
  have t8 : IsPair g8 g5.objs.size x y := s8.extBut _ _ zl (s7.extBut _ _ zl (Heap.get?_push_size _ rfl))
  rw [sz] at z8 t8
  show Q (.ref g5.objs.size) _
  rw [sz]
  exact fin g8 z8 (up _ _ D.TOz o5) (a5.mv fun ob e => up _ ob D.i1z e) (b5.mv fun ob e => up _ ob D.i2z e) t8 fun c ob c1 c2 c3 c4 e => up c ob c1 (k5 c ob c1 c2 c3 c4 e)
theorem z_end {k m : Kd} {z I O a b p q : Addr} {i j : Nat} {xs ys : Array Value} {u v : Value} {Q : Fin → Shared → Prop} (hh : A.handled = none) (D : ZipApart z I O a b p q)
    (hz : IsZip s.heap z I O .none) (hI : IsPair s.heap I (.ref a) (.ref b)) (hO : IsPair s.heap O u v)
    (ha : k.It s.heap a p i) (hb : m.It s.heap b q j) (hp : k.Sq s.heap p xs) (hq : m.Sq s.heap q ys) (he : xs[i]? = none ∨ ys[j]? = none)
    (fin : ∀ h' e, ZKeep z O a b s.heap h' → (∃ o, h'.get? e = some o ∧ o.cls = .type "StopIteration") → E (.ref e) { s with heap := h' }) :
    wpAny (model prog w) A (Builtin.«zip.__next__» ⟨[.ref z], []⟩) Q E s := by
  show wpAny _ _ (field (.ref z) 2 >>= _) _ _ _
  refine wpAny_bind (wpAny_field hz rfl (x := .bool false) rfl (?_ : wpAny _ _ (field (.ref z) 3 >>= _) _ _ _))
  refine wpAny_bind (wpAny_field hz rfl (x := .ref I) rfl (wpAny_bind (wpAny_seqItems hI rfl (?_ : wpAny _ _ (Builtin.SmallTypes.ownedTupleIsFree (.ref z) >>= _) _ _ _))))
  refine wpAny_bind ?_
  unfold Builtin.SmallTypes.ownedTupleIsFree
  refine wpAny_bind (wpAny_field hz rfl (x := .none) rfl (wpAny_pure ?_))
  simp only [if_true]
  refine wpAny_bind (wpAny_rule (wpAny_bind (wpAny_field hz rfl (x := .ref O) rfl (wpAny_bind (wpAny_setField_rec hz (by simp) fun g1 z1 s1 => wpAny_bind ?_)))))
  have z1 : IsZip g1 z I O .ellipsis := z1
  simp only [List.zipIdx_cons, List.zipIdx_nil, List.forIn_cons, List.forIn_nil]
  refine wpAny_bind (wpAny_bind (wpAny_onRaise (?_ : wpAny _ _ (Builtin.SmallTypes.nextOf (.ref a) >>= _) _ _ _)))
  cases hx : xs[i]? with
  | none =>
    refine wpAny_bind (Kd.stop hh (ha.eb s1.extBut D.i1z) (hp.eb s1.extBut D.l1z) hx fun g2 e s2 ⟨oe, ho, hc⟩ => ?_)
    have z2 : IsZip g2 z I O .ellipsis := s2 _ _ D.i1z.symm z1
    have ez : e ≠ z := fun x => by subst x; rw [z2] at ho; cases ho; simp at hc
    refine wpAny_setField_rec z2 (by simp) fun g3 _ s3 => fin g3 e (fun c o c1 _ c3 _ x => s3.extBut _ _ c1 (s2 _ _ c3 (s1.extBut _ _ c1 x))) ⟨oe, s3.extBut _ _ ez ho, hc⟩
  | some x =>
    have hy : ys[j]? = none := he.elim (fun z => by rw [hx] at z; cases z) id
    refine wpAny_bind (Kd.next (ha.eb s1.extBut D.i1z) (hp.eb s1.extBut D.l1z) hx fun g2 a2 s2 => wpAny_pure ?_)
    have o2 : IsPair g2 O u v := s2.extBut _ _ D.TOi1 (s1.extBut _ _ D.TOz hO)
    refine wpAny_bind (wpAny_seqItems o2 rfl (wpAny_bind (wpAny_updateSeq_pair o2 fun g3 o3 s3 => wpAny_bind (wpAny_letGo (wpAny_pure ?_)))))
    refine wpAny_bind (wpAny_bind (wpAny_onRaise (?_ : wpAny _ _ (Builtin.SmallTypes.nextOf (.ref b) >>= _) _ _ _)))
    refine wpAny_bind (Kd.stop hh (((hb.eb s1.extBut D.i2z).eb s2.extBut D.i12.symm).eb s3.extBut D.TOi2.symm) (((hq.eb s1.extBut D.l2z).eb s2.extBut D.l2i1).eb s3.extBut D.l2TO) hy fun g4 e s4 ⟨oe, ho, hc⟩ => ?_)
    have z4 : IsZip g4 z I O .ellipsis := s4 _ _ D.i2z.symm (s3.extBut _ _ D.TOz.symm (s2.extBut _ _ D.i1z.symm z1))
    have ez : e ≠ z := fun x => by subst x; rw [z4] at ho; cases ho; simp at hc
    refine wpAny_setField_rec z4 (by simp) fun g5 _ s5 => fin g5 e (fun c o c1 c2 c3 c4 x => s5.extBut _ _ c1 (s4 _ _ c4 (s3.extBut _ _ c2 (s2.extBut _ _ c3 (s1.extBut _ _ c1 x))))) ⟨oe, s5.extBut _ _ ez ho, hc⟩
theorem zn_item {k m : Kd} {z I O a b p q : Addr} {i j : Nat} {xs ys : Array Value} {x y u v : Value} {Q : Option Value → Shared → Prop} (D : ZipApart z I O a b p q)
    (hz : IsZip s.heap z I O .none) (hI : IsPair s.heap I (.ref a) (.ref b)) (hO : IsPair s.heap O u v)
    (ha : k.It s.heap a p i) (hb : m.It s.heap b q j) (hp : k.Sq s.heap p xs) (hq : m.Sq s.heap q ys) (hx : xs[i]? = some x) (hy : ys[j]? = some y)
    (fin : ∀ h', IsZip h' z I O (rawInt s.heap.objs.size) → IsPair h' O x y → k.It h' a p (i + 1) → m.It h' b q (j + 1) → IsPair h' s.heap.objs.size x y → ZKeep z O a b s.heap h' → Q (some (.ref s.heap.objs.size)) { s with heap := h' }) :
    wpAny (model prog w) A (pyNext (.ref z)) Q E s := by
  have ty : s.TypeIs (.ref z) "zip" := ⟨_, hz, rfl⟩
  unfold pyNext
  exact wpAny_bind (wpAny_attempt (wpAny_callSpecial?_slot (name := Str.ofString "__next__") ty F.slot_zip_next (wpAny_call_entry F.slot_zip_next ty F.entry_zip_next (z_item D hz hI hO ha hb hp hq hx hy fun h' c1 c2 c3 c4 c5 c6 => wpAny_pure (fin h' c1 c2 c3 c4 c5 c6)) (F.args_zip_next_1 _))))
theorem zn_end {k m : Kd} {z I O a b p q : Addr} {i j : Nat} {xs ys : Array Value} {u v : Value} {Q : Option Value → Shared → Prop} (hh : A.handled = none) (D : ZipApart z I O a b p q)
    (hz : IsZip s.heap z I O .none) (hI : IsPair s.heap I (.ref a) (.ref b)) (hO : IsPair s.heap O u v)
    (ha : k.It s.heap a p i) (hb : m.It s.heap b q j) (hp : k.Sq s.heap p xs) (hq : m.Sq s.heap q ys) (he : xs[i]? = none ∨ ys[j]? = none)
    (fin : ∀ h', ZKeep z O a b s.heap h' → Q none { s with heap := h' }) : wpAny (model prog w) A (pyNext (.ref z)) Q E s := by
  have ty : s.TypeIs (.ref z) "zip" := ⟨_, hz, rfl⟩
  unfold pyNext
  refine wpAny_bind (wpAny_attempt (wpAny_callSpecial?_slot (name := Str.ofString "__next__") ty F.slot_zip_next (wpAny_call_entry F.slot_zip_next ty F.entry_zip_next (z_end hh D hz hI hO ha hb hp hq he fun h' e kp ⟨o, ho, hc⟩ => ?_) (F.args_zip_next_1 _))))
  exact wpAny_bind (wpAny_isInstance (T := "StopIteration") (b := true) ⟨o, ho, hc⟩ isSubtype_stop (wpAny_pure (fin _ kp)))
end
abbrev zH1 (k : Kd) (h : Heap) (p : Addr) : Heap := h.push { cls := .type k.nm, data := .fields #[.ref p, .int 0 0] }
abbrev zH3 (k m : Kd) (h : Heap) (p q : Addr) : Heap := (zH1 m (zH1 k h p) q).push { cls := .type "tuple", data := .seq #[.ref h.objs.size, .ref (zH1 k h p).objs.size] }
abbrev zH4 (k m : Kd) (h : Heap) (p q : Addr) : Heap := (zH3 k m h p q).push { cls := .type "tuple", data := .seq #[.none, .none] }
abbrev zH5 (k m : Kd) (h : Heap) (p q : Addr) : Heap := (zH4 k m h p q).push { cls := .type "zip", data := .fields #[.none, .bool false, .bool false, .ref (zH1 m (zH1 k h p) q).objs.size, .ref (zH3 k m h p q).objs.size] }
theorem z_new (k m : Kd) (p q : Addr) (xs ys : Array Value) : Meets (Builtin.«zip.__new__» ⟨[.type "zip", .ref p, .ref q], []⟩) (fun _ R s => k.Sq s.heap p xs ∧ m.Sq s.heap q ys ∧
      R (.ok (.ret (.ref (zH4 k m s.heap p q).objs.size))) { s with heap := zH5 k m s.heap p q }) :=
  .of_wp fun prog w A R s h => by
    obtain ⟨hp, g, d, tk, os⟩ := s
    obtain ⟨h1, h2, h⟩ := h
    have hsub := sub_zip
    have q1 : Kd.Sq k (Shared.heap ⟨hp, g, d, tk, os⟩) p xs := h1
    have q2 : Kd.Sq m (Shared.heap ⟨hp.push { cls := .type k.nm, data := .fields #[.ref p, .int 0 0] }, g, d, tk, os⟩) q ys := h2.more _
    wp_walk using Kd.iter q1, Kd.iter q2
    exact ⟨_, rfl, h⟩
section
variable {prog : Program} {w : World} {A : Around} {E : Value → Shared → Prop} {s : Shared}
theorem z_call {k m : Kd} {p q : Addr} {xs ys : Array Value} {Q : Value → Shared → Prop} (hp : k.Sq s.heap p xs) (hq : m.Sq s.heap q ys)
    (fin : ∀ h', IsZip h' (s.heap.objs.size + 4) (s.heap.objs.size + 2) (s.heap.objs.size + 3) .none → IsPair h' (s.heap.objs.size + 2) (.ref s.heap.objs.size) (.ref (s.heap.objs.size + 1)) →
      IsPair h' (s.heap.objs.size + 3) .none .none → k.It h' s.heap.objs.size p 0 → m.It h' (s.heap.objs.size + 1) q 0 → (∀ c o, s.heap.get? c = some o → h'.get? c = some o) → Q (.ref (s.heap.objs.size + 4)) { s with heap := h' }) :
    wpAny (model prog w) A (call (.type "zip") [.ref p, .ref q]) Q E s := by
  refine callType_new F.called_zip (by decide) (F.typeCall_zip_2 _ _) (F.newCall_zip_2 _ _) (fun obj => F.args_object_init_3 obj _ _) F.entry_zip_new (z_new k m p q xs ys) ⟨hp, hq, ?_⟩
  have n1 : (zH1 k s.heap p).objs.size = s.heap.objs.size + 1 := Heap.size_push ..
  have n2 : (zH1 m (zH1 k s.heap p) q).objs.size = s.heap.objs.size + 2 := by rw [Heap.size_push, n1]
  have n3 : (zH3 k m s.heap p q).objs.size = s.heap.objs.size + 3 := by rw [Heap.size_push, n2]
  have n4 : (zH4 k m s.heap p q).objs.size = s.heap.objs.size + 4 := by rw [Heap.size_push, n3]
  have g5 : (zH5 k m s.heap p q).get? (zH4 k m s.heap p q).objs.size = some _ := Heap.get?_push_size _ rfl
  have up4 : ∀ c o, (zH4 k m s.heap p q).get? c = some o → (zH5 k m s.heap p q).get? c = some o := fun c o => Heap.get?_push_of_some _
  have up3 : ∀ c o, (zH3 k m s.heap p q).get? c = some o → (zH5 k m s.heap p q).get? c = some o := fun c o e => up4 c o (Heap.get?_push_of_some _ e)
  have up2 : ∀ c o, (zH1 m (zH1 k s.heap p) q).get? c = some o → (zH5 k m s.heap p q).get? c = some o := fun c o e => up3 c o (Heap.get?_push_of_some _ e)
  have up1 : ∀ c o, (zH1 k s.heap p).get? c = some o → (zH5 k m s.heap p q).get? c = some o := fun c o e => up2 c o (Heap.get?_push_of_some _ e)
  have g4 : (zH5 k m s.heap p q).get? (zH3 k m s.heap p q).objs.size = some _ := up4 _ _ (Heap.get?_push_size _ rfl)
  have g3 : (zH5 k m s.heap p q).get? (zH1 m (zH1 k s.heap p) q).objs.size = some _ := up3 _ _ (Heap.get?_push_size _ rfl)
  have i2 := (Kd.new m (zH1 k s.heap p) q).mv (h' := zH5 k m s.heap p q) fun o e => up2 _ o e
  have i1 := (Kd.new k s.heap p).mv (h' := zH5 k m s.heap p q) fun o e => up1 _ o e
  show _ ∧ _
  rw [n2, n3, n4] at g5
  rw [n1, n2] at g3
  rw [n3] at g4
  rw [n1] at i2
  rw [n4]
  exact ⟨⟨_, g5, rfl⟩, fin _ g5 g3 g4 i1 i2 fun c o x => up1 c o (Heap.get?_push_of_some _ x)⟩
end
end Mi
end
noncomputable section
namespace Mi
open PySem PySem.Spec L2 PyProof.Rows
noncomputable def Kd.Hq : Kd → PySem.W.Frag → Hp → Addr → List V → Prop
  | .l, K, H, a, xs => SqL K H a xs
  | .t, K, H, a, xs => SqT K H a xs
theorem Kd.Hq.sq {X : Cx} {pins : List (Addr × Obj)} {σ : L2.St} {H : Hp} {s : Shared} (I : Inv X pins σ H s) : ∀ {k : Kd} {a : Addr} {xs : List V}, k.Hq X.K H a xs → ∃ us : List Value, Vals xs us ∧ k.Sq s.heap a us.toArray
  | .l, _, _, h => let ⟨us, r, p, _⟩ := I.list h; ⟨us, r, p.isList⟩
  | .t, _, _, h => let ⟨us, r, p, _⟩ := I.tuple h; ⟨us, r, p⟩
theorem Kd.Hq.inj {X : Cx} {pins : List (Addr × Obj)} {σ : L2.St} {H : Hp} {s : Shared} (I : Inv X pins σ H s) : ∀ {k : Kd} {a : Addr} {xs ys : List V}, k.Hq X.K H a xs → k.Hq X.K H a ys → xs = ys
  | .l, _, _, _, h, h' => I.list_inj h h'
  | .t, _, _, _, h, h' => I.tuple_inj h h'

noncomputable def ItzK (k m : Kd) (K : PySem.W.Frag) (p q : Addr) : It :=
  ⟨fun i H => ∃ (xs ys : List V) (x y : V), k.Hq K H p xs ∧ m.Hq K H q ys ∧ xs[i]? = some x ∧ ys[i]? = some y,
    fun i H v H' => ∃ T x y, v = .ref T ∧ H T = none ∧ H' = upd H T (.tup [x, y]) ∧ (∀ xs, k.Hq K H p xs → xs[i]? = some x) ∧ ∀ ys, m.Hq K H q ys → ys[i]? = some y,
    fun i H => ∃ xs ys : List V, k.Hq K H p xs ∧ m.Hq K H q ys ∧ (xs.length ≤ i ∨ ys.length ≤ i)⟩
theorem in5 {c z I O a b : Addr} (h : c ∈ [z, I, O, a, b]) : c = z ∨ c = I ∨ c = O ∨ c = a ∨ c = b := by simpa using h
theorem ni5 {c z I O a b : Addr} (h : c ∉ [z, I, O, a, b]) : c ≠ z ∧ c ≠ I ∧ c ≠ O ∧ c ≠ a ∧ c ≠ b := by simpa using h
theorem turn_zK {P : Program} {w : World} {K : PySem.W.Frag} {elts : List Expr} {kk : Nat} {tpos : Pos} {k m : Kd} {p q z I O a b : Addr} (D : ZipApart z I O a b p q) :
    Turn P w K (.Tuple elts kk tpos) (ItzK k m K p q) [z, I, O, a, b] z (fun i h => IsZip h z I O .none ∧ IsPair h I (.ref a) (.ref b) ∧ (∃ x y, IsPair h O x y) ∧ k.It h a p i ∧ m.It h b q i) where
  mem := by simp
  obj := fun i h st c hc => by
    obtain ⟨hz, hI, ⟨x, y, hO⟩, ha, hb⟩ := st
    obtain ⟨o1, f1, d1⟩ := ha.obj
    obtain ⟨o2, f2, d2⟩ := hb.obj
    rcases in5 hc with rfl | rfl | rfl | rfl | rfl
    · exact ⟨_, hz, fun v q => nomatch q⟩
    · exact ⟨_, hI, fun v q => nomatch q⟩
    · exact ⟨_, hO, fun v q => nomatch q⟩
    · exact ⟨o1, f1, fun v q => by rw [d1] at q; cases q⟩
    · exact ⟨o2, f2, fun v q => by rw [d2] at q; cases q⟩
  keep := fun i h h' ⟨hz, hI, ⟨x, y, hO⟩, ha, hb⟩ kp => ⟨kp z (by simp) _ hz, kp I (by simp) _ hI, ⟨x, y, kp O (by simp) _ hO⟩, ha.mv fun o q => kp a (by simp) o q, hb.mv fun o q => kp b (by simp) o q⟩
  item := by
    intro X hP hw hK hc i pins s σ H E J hf st hg
    subst hP hw hK
    obtain ⟨hz, hI, ⟨u0, v0, hO⟩, ha, hb⟩ := st
    obtain ⟨xs, ys, x, y, qx, qy, hx, hy⟩ := hg
    obtain ⟨us, rv, sx⟩ := qx.sq J
    obtain ⟨vs, rw', sy⟩ := qy.sq J
    obtain ⟨u, hu, ru⟩ := rv.get hx
    obtain ⟨u2, hu2, ru2⟩ := rw'.get hy
    have zl : z < s.heap.objs.size := Heap.lt_size hz
    refine zn_item D hz hI hO ha hb sx sy (x := u) (y := u2) (by simpa using hu) (by simpa using hu2) fun h' z' O' a' b' hT kp => ⟨_, rfl, wpAny_letOwnedTupleGo_zip (s := { s with heap := h' }) z' fun h'' z'' sb => ?_⟩
    have hT2 : h''.get? s.heap.objs.size = some { cls := .type "tuple", data := .seq #[u, u2] } := (sb.2 _ (Nat.ne_of_gt zl)).trans hT
    have nw : ObjOk X.prog X.w (upd H s.heap.objs.size (.tup [x, y])) h'' s.heap.objs.size (.tup [x, y]) := ⟨by show 2 ≤ sizeLine; decide, [u, u2], .cons ru (.cons ru2 .nil), ⟨_, hT2, rfl, _, rfl⟩⟩
    have J1 : Inv X pins σ (upd H s.heap.objs.size (.tup [x, y])) { s with heap := h'' } := J.turnedNew (t' := s.toks) (ch := [z, I, O, a, b]) (fun c o hn q => by
      obtain ⟨n1, _, n3, n4, n5⟩ := ni5 hn
      exact (sb.2 c n1).trans (kp c o n1 n3 n4 n5 q)) hf (Nat.le_refl _) nw
    refine ⟨.ref s.heap.objs.size, _, J1, rfl, ⟨_, x, y, rfl, J.hok.fresh (Nat.le_refl _), rfl, fun l hl => by rw [Kd.Hq.inj J hl qx]; exact hx, fun l hl => by rw [Kd.Hq.inj J hl qy]; exact hy⟩, ⟨z'', (sb.2 _ D.TIz).trans (kp _ _ D.TIz D.TITO D.TIi1 D.TIi2 hI), ⟨u, u2, (sb.2 _ D.TOz).trans O'⟩, a'.mv fun o q => (sb.2 _ D.i1z).trans q, b'.mv fun o q => (sb.2 _ D.i2z).trans q⟩, fun c hm => ?_⟩
    have lt : c < s.heap.objs.size := by
      rcases in5 hm with rfl | rfl | rfl | rfl | rfl
      · exact zl
      · exact Heap.lt_size hI
      · exact Heap.lt_size hO
      · exact ha.lt
      · exact hb.lt
    rw [upd_ne (Nat.ne_of_lt lt)]
    exact (hf c hm).1
  done := by
    intro X hP hw hK hc i pins s σ H E J hf st hg
    subst hP hw hK
    obtain ⟨hz, hI, ⟨u0, v0, hO⟩, ha, hb⟩ := st
    obtain ⟨xs, ys, qx, qy, en⟩ := hg
    obtain ⟨us, rv, sx⟩ := qx.sq J
    obtain ⟨vs, rw', sy⟩ := qy.sq J
    have l1 := rv.length
    have l2 := rw'.length
    refine zn_end (J.ok.hd hc) D hz hI hO ha hb sx sy (en.imp (fun q => by simp; omega) fun q => by simp; omega) fun h' kp => ⟨rfl, J.turnedL (t' := s.toks) (ch := [z, I, O, a, b]) (fun c o hn q => ?_) hf⟩
    obtain ⟨n1, _, n3, n4, n5⟩ := ni5 hn
    exact kp c o n1 n3 n4 n5 q
  self := fun A i s Q E st h => wpAny_pyIter_zip st.1 h
noncomputable def iZipK (K : PySem.W.Frag) (ta : TA) : TI := fun σ H R => ta σ H fun vs H1 => ∃ p q xs ys k m, vs = [.ref p, .ref q] ∧ Kd.Hq k K H1 p xs ∧ Kd.Hq m K H1 q ys ∧ R (ItzK k m K p q) H1
theorem pi_zipK {X : Cx} {e e2 : Expr} {ta : TA} {p pos tpos : Pos} {elts : List Expr} {kk : Nat} (hg : Gl X "zip") (hm : X.mg "zip" = none) (ha : PA X [e, e2] ta)
    (hs : starEach [e, e2] X.env = (false, eval e X.env) :: starEach [e2] X.env) (hpl : (backTo pos (starEach [e2] X.env)).any (·.1) = false) : PI X (.Tuple elts kk tpos) (.Call (.Name "zip" p) [e, e2] [] pos) (iZipK X.K ta) := by
  refine ⟨fun pins s σ H R I h => ?_⟩
  refine Call_ (ld_blt I hg hm PyProof.Rows.boot_zip (PyProof.Rows.callWith_type1 (thn (ha.run pos pins s σ H _ I h) fun us s1 ⟨vs, H1, I1, r1, a, b, xs, ys, k, m, ex, hx, hy, q⟩ => ?_) hs hpl))
  subst ex
  cases r1 with
  | cons r rr =>
    cases rr with
    | cons r' rr =>
      cases rr; cases r; cases r'
      obtain ⟨us, rv, sx⟩ := hx.sq I1
      obtain ⟨vs, rw', sy⟩ := hy.sq I1
      refine z_call sx sy fun h' hz hI hO h1 h2 hk => wpAny_pyIter_zip hz ⟨s1.heap.objs.size + 4, [s1.heap.objs.size + 4, s1.heap.objs.size + 2, s1.heap.objs.size + 3, s1.heap.objs.size, s1.heap.objs.size + 1], _, _, H1, rfl, I1.kept (t' := s1.toks) hk, turn_zK (PySem.W.ktu_apart s1.heap.objs.size a b sx.lt sy.lt), ⟨hz, hI, ⟨_, _, hO⟩, h1, h2⟩, fun c hc => ?_, q⟩
      have le : s1.heap.objs.size ≤ c := by
        rcases in5 hc with e | e | e | e | e <;> rw [e] <;> first | exact Nat.le_add_right _ _ | exact Nat.le_refl _
      exact I1.fpOk le (I1.hok.fresh le)

section
variable {prog : Program} {w : World} {A : Around} {E : Value → Shared → Prop} {s : Shared}
theorem en_item {k : Kd} {e a p : Addr} {i : Nat} {xs : Array Value} {x old : Value} {Q : Value → Shared → Prop} (he : IsEnum s.heap e a i old) (ha : k.It s.heap a p i) (hp : k.Sq s.heap p xs) (hx : xs[i]? = some x) (ne : e ≠ a)
    (fin : ∀ h', IsEnumOut h' e a ((i : Int) + 1) x s.heap.objs.size → k.It h' a p (i + 1) → h'.get? s.heap.objs.size = some { cls := .type "tuple", data := .seq #[.int i s.toks, x] } →
      (∀ b o, b ≠ e → b ≠ a → s.heap.get? b = some o → h'.get? b = some o) → Q (.ref s.heap.objs.size) { s with heap := h', toks := s.toks + 1 }) :
    wpAny (model prog w) A (Builtin.«enumerate.__next__» ⟨[.ref e], []⟩) (fun f s' => ∃ v, f = .done (.ret v) ∧ Q v s') E s := by
  obtain ⟨hp0, g, d, tk, os⟩ := s
  show wpAny _ _ (field (.ref e) 2 >>= _) _ _ _
  refine wpAny_bind (wpAny_field he rfl (x := .ref a) rfl (wpAny_bind (Kd.next ha hp hx fun g1 a1 s1 => ?_)))
  have s1 : Heap.SameBut a hp0 g1 := s1
  have e1 : IsEnum g1 e a i old := (s1.2 e ne).trans he
  show wpAny _ _ (field (.ref e) 3 >>= _) _ _ ⟨g1, g, d, tk, os⟩
  refine wpAny_bind (wpAny_field e1 rfl (x := rawInt i) rfl (?_ : wpAny _ _ (field (.ref e) 4 >>= _) _ _ ⟨g1, g, d, tk, os⟩))
  refine wpAny_bind (wpAny_field e1 rfl (x := .none) rfl (?_ : wpAny _ _ (mkInt i >>= _) _ _ ⟨g1, g, d, tk, os⟩))
  refine wpAny_bind (wpAny_mkInt (?_ : wpAny _ _ (setField (.ref e) 3 (rawInt ((i : Int) + 1)) >>= _) _ _ ⟨g1, g, d, tk + 1, os⟩))
  refine wpAny_bind (wpAny_setField_rec e1 (by simp) fun g2 e2 s2 => (?_ : wpAny _ _ (setField (.ref e) 4 .none >>= _) _ _ ⟨g2, g, d, tk + 1, os⟩))
  have s2 : Heap.SameBut e g1 g2 := s2
  have e2 : IsEnum g2 e a ((i : Int) + 1) old := e2
  refine wpAny_bind (wpAny_setField_rec e2 (by simp) fun g3 e3 s3 => (?_ : wpAny _ _ (newTuple [.int i tk, x] >>= _) _ _ ⟨g3, g, d, tk + 1, os⟩))
  have s3 : Heap.SameBut e g2 g3 := s3
  have e3 : IsEnum g3 e a ((i : Int) + 1) old := e3
  have sz : g3.objs.size = hp0.objs.size := by rw [s3.1, s2.1, s1.1]
  have el : hp0.objs.size ≠ e := Nat.ne_of_gt (Heap.lt_size he)
  have a3 : k.It g3 a p (i + 1) := (a1.eb s2.extBut ne.symm).eb s3.extBut ne.symm
  have k3 : ∀ b o, b ≠ e → b ≠ a → hp0.get? b = some o → g3.get? b = some o := fun b o n1 n2 q => s3.extBut b o n1 (s2.extBut b o n1 (s1.extBut b o n2 q))
  refine wpAny_bind (wpAny_newTuple ?_)
  have e4 : IsEnum (g3.push { cls := .type "tuple", data := .seq #[.int i tk, x] }) e a ((i : Int) + 1) old := Heap.get?_push_of_some _ e3
  have t4 : (g3.push { cls := .type "tuple", data := .seq #[.int i tk, x] }).get? hp0.objs.size = some { cls := .type "tuple", data := .seq #[.int i tk, x] } := by rw [← sz]; exact Heap.get?_push_size _ rfl
  have a4 : k.It (g3.push { cls := .type "tuple", data := .seq #[.int i tk, x] }) a p (i + 1) := a3.mv fun o q => Heap.get?_push_of_some _ q
  have k4 : ∀ b o, b ≠ e → b ≠ a → hp0.get? b = some o → (g3.push { cls := .type "tuple", data := .seq #[.int i tk, x] }).get? b = some o := fun b o n1 n2 q => Heap.get?_push_of_some _ (k3 b o n1 n2 q)
  rw [sz]
  generalize g3.push { cls := .type "tuple", data := .seq #[.int i tk, x] } = g4 at e4 t4 a4 k4
  show wpAny _ _ (Builtin.SmallTypes.ownedTupleIsFree (.ref e) >>= _) _ _ ⟨g4, g, d, tk + 1, os⟩
  refine wpAny_bind ?_
  unfold Builtin.SmallTypes.ownedTupleIsFree
  refine wpAny_bind (wpAny_field e4 rfl (x := .none) rfl (wpAny_pure ?_))
  simp only [if_true]
  refine wpAny_bind (wpAny_rule (wpAny_bind (wpAny_field e4 rfl (x := old) rfl (wpAny_bind (wpAny_setField_rec e4 (by simp) fun g5 e5 s5 => (?_ : wpAny _ _ (Builtin.SmallTypes.ownedTupleHandOut (.ref e) (.ref hp0.objs.size) >>= _) _ _ ⟨g5, g, d, tk + 1, os⟩))))))
  have s5 : Heap.SameBut e g4 g5 := s5
  have e5 : IsEnum g5 e a ((i : Int) + 1) x := e5
  refine wpAny_bind ?_
  unfold Builtin.SmallTypes.ownedTupleHandOut
  refine wpAny_bind (wpAny_setField_rec e5 (by simp) fun g6 e6 s6 => ?_)
  have s6 : Heap.SameBut e g5 g6 := s6
  have e6 : IsEnumOut g6 e a ((i : Int) + 1) x hp0.objs.size := e6
  refine wpAny_setField_rec e6 (by simp) fun g7 e7 s7 => wpAny_bind (wpAny_letGo (wpAny_pure ⟨_, rfl, ?_⟩))
  have s7 : Heap.SameBut e g6 g7 := s7
  have up : ∀ b o, b ≠ e → g4.get? b = some o → g7.get? b = some o := fun b o n q => s7.extBut b o n (s6.extBut b o n (s5.extBut b o n q))
  exact fin g7 e7 (a4.mv fun o q => up _ o ne.symm q) (up _ _ el t4) fun b o n1 n2 q => up b o n1 (k4 b o n1 n2 q)
theorem enn_item {k : Kd} {e a p : Addr} {i : Nat} {xs : Array Value} {x old : Value} {Q : Option Value → Shared → Prop} (he : IsEnum s.heap e a i old) (ha : k.It s.heap a p i) (hp : k.Sq s.heap p xs) (hx : xs[i]? = some x) (ne : e ≠ a)
    (fin : ∀ h', IsEnumOut h' e a ((i : Int) + 1) x s.heap.objs.size → k.It h' a p (i + 1) → h'.get? s.heap.objs.size = some { cls := .type "tuple", data := .seq #[.int i s.toks, x] } →
      (∀ b o, b ≠ e → b ≠ a → s.heap.get? b = some o → h'.get? b = some o) → Q (some (.ref s.heap.objs.size)) { s with heap := h', toks := s.toks + 1 }) : wpAny (model prog w) A (pyNext (.ref e)) Q E s := by
  have ty : s.TypeIs (.ref e) "enumerate" := ⟨_, he, rfl⟩
  unfold pyNext
  exact wpAny_bind (wpAny_attempt (wpAny_callSpecial?_slot (name := Str.ofString "__next__") ty F.slot_enumerate_next (wpAny_call_entry F.slot_enumerate_next ty F.entry_enumerate_next (en_item he ha hp hx ne fun h' c1 c2 c3 c4 => wpAny_pure (fin h' c1 c2 c3 c4)) (F.args_enumerate_next_1 _))))
theorem enn_end {k : Kd} {e a p : Addr} {i : Nat} {xs : Array Value} {old : Value} {Q : Option Value → Shared → Prop} (hh : A.handled = none) (he : IsEnum s.heap e a i old) (ha : k.It s.heap a p i) (hp : k.Sq s.heap p xs) (hx : xs[i]? = none)
    (fin : ∀ h', Heap.ExtBut a s.heap h' → Q none { s with heap := h' }) : wpAny (model prog w) A (pyNext (.ref e)) Q E s := by
  have ty : s.TypeIs (.ref e) "enumerate" := ⟨_, he, rfl⟩
  unfold pyNext
  refine wpAny_bind (wpAny_attempt (wpAny_callSpecial?_slot (name := Str.ofString "__next__") ty F.slot_enumerate_next (wpAny_call_entry F.slot_enumerate_next ty F.entry_enumerate_next (?_ : wpAny _ _ (field (.ref e) 2 >>= _) _ _ _) (F.args_enumerate_next_1 _))))
  refine wpAny_bind (wpAny_field he rfl (x := .ref a) rfl (wpAny_bind (Kd.stop hh ha hp hx fun h' x eb ⟨o, ho, hc⟩ => ?_)))
  exact wpAny_bind (wpAny_isInstance (T := "StopIteration") (b := true) ⟨o, ho, hc⟩ isSubtype_stop (wpAny_pure (fin _ eb)))
end
theorem en_newT (p : Addr) (xs : Array Value) (n : Nat) (dct : Option Addr) (sl : Array (Option Value)) : Meets (Builtin.«enumerate.__new__» ⟨[.type "enumerate", .ref p], []⟩) (fun _ R s => s.heap.get? p = some { cls := .type "tuple", dict := dct, data := .seq xs n, slots := sl } ∧
      R (.ok (.ret (.ref (zH1 .t s.heap p).objs.size))) { s with heap := (zH1 .t s.heap p).push { cls := .type "enumerate", data := .fields #[.none, .bool false, .ref s.heap.objs.size, rawInt 0, .none, .none] } }) :=
  .of_wp fun prog w A R s h => by
    obtain ⟨hp, g, d, tk, os⟩ := s
    obtain ⟨hl, h⟩ := h
    have hsub := sub_enumerate
    have hL : Heap.IsTuple (Shared.heap ⟨hp, g, d, tk, os⟩) p xs := ⟨_, hl, rfl, n, rfl⟩
    wp_walk using AutoSeq1.wpAny_loadPart' hl
    refine wpAny_stack_any fun st => wpAny_pure ?_
    split
    · rename_i c _ _ _ _ _
      cases (c == Value.type "enumerate")
      · wp_walk using AutoSeq1.wpAny_loadPart' hl, wpAny_pyIter_tuple hL
        exact ⟨_, rfl, h⟩
      · wp_walk using AutoSeq1.wpAny_loadPart' hl, wpAny_pyIter_tuple hL
        exact ⟨_, rfl, h⟩
    · wp_walk using AutoSeq1.wpAny_loadPart' hl, wpAny_pyIter_tuple hL
      exact ⟨_, rfl, h⟩
section
variable {prog : Program} {w : World} {A : Around} {E : Value → Shared → Prop} {s : Shared}
theorem en_callT {p : Addr} {xs : Array Value} {Q : Value → Shared → Prop} (hT : s.heap.IsTuple p xs)
    (fin : ∀ h', IsEnum h' (s.heap.objs.size + 1) s.heap.objs.size 0 .none → h'.IsTupleIter s.heap.objs.size p 0 → (∀ b o, s.heap.get? b = some o → h'.get? b = some o) → Q (.ref (s.heap.objs.size + 1)) { s with heap := h' }) :
    wpAny (model prog w) A (call (.type "enumerate") [.ref p]) Q E s := by
  obtain ⟨⟨c, dct, dt, sl⟩, hl, hc, n, hd⟩ := hT
  have hc : c = .type "tuple" := hc
  have hd : dt = .seq xs n := hd
  subst hc hd
  refine callType_new F.called_enumerate (by decide) (F.typeCall_enumerate_1 _) (F.newCall_enumerate_1 _) (fun obj => F.args_object_init_2 obj _) F.entry_enumerate_new (en_newT p xs n dct sl) ⟨hl, ?_⟩
  have hz : (zH1 .t s.heap p).objs.size = s.heap.objs.size + 1 := Heap.size_push ..
  show _ ∧ _
  rw [hz]
  have he : IsEnum ((zH1 .t s.heap p).push { cls := .type "enumerate", data := .fields #[.none, .bool false, .ref s.heap.objs.size, rawInt 0, .none, .none] }) (s.heap.objs.size + 1) s.heap.objs.size 0 .none := by
    have e := Heap.get?_push_size (zH1 .t s.heap p) (o := { cls := .type "enumerate", data := .fields #[.none, .bool false, .ref s.heap.objs.size, rawInt 0, .none, .none] }) rfl
    rw [hz] at e; exact e
  exact ⟨⟨_, he, rfl⟩, fin _ he ⟨_, Heap.get?_push_of_some _ (Heap.get?_push_size _ rfl), rfl, rfl⟩ fun b o x => Heap.get?_push_of_some _ (Heap.get?_push_of_some _ x)⟩
theorem en_call : ∀ {k : Kd} {p : Addr} {xs : Array Value} {Q : Value → Shared → Prop}, k.Sq s.heap p xs →
    (∀ h', IsEnum h' (s.heap.objs.size + 1) s.heap.objs.size 0 .none → k.It h' s.heap.objs.size p 0 → (∀ b o, s.heap.get? b = some o → h'.get? b = some o) → Q (.ref (s.heap.objs.size + 1)) { s with heap := h' }) →
    wpAny (model prog w) A (call (.type "enumerate") [.ref p]) Q E s
  | .l, _, _, _, h, fin => call_enumerate_list h fun h' c1 c2 _ c4 => fin h' c1 c2 c4
  | .t, _, _, _, h, fin => en_callT h fin
end
noncomputable def IteK (k : Kd) (K : PySem.W.Frag) (p : Addr) : It :=
  ⟨fun i H => ∃ (xs : List V) (x : V), k.Hq K H p xs ∧ xs[i]? = some x, fun i H v H' => ∃ T x, v = .ref T ∧ H T = none ∧ H' = upd H T (.tup [.int (i : Nat), x]) ∧ ∀ xs, k.Hq K H p xs → xs[i]? = some x,
    fun i H => ∃ xs : List V, k.Hq K H p xs ∧ xs.length ≤ i⟩
theorem in2 {c a b : Addr} (h : c ∈ [a, b]) : c = a ∨ c = b := by simpa using h
theorem ni2 {c a b : Addr} (h : c ∉ [a, b]) : c ≠ a ∧ c ≠ b := by simpa using h
theorem turn_eK {P : Program} {w : World} {K : PySem.W.Frag} {elts : List Expr} {kk : Nat} {tpos : Pos} {k : Kd} (p e a : Addr) :
    Turn P w K (.Tuple elts kk tpos) (IteK k K p) [e, a] e (fun i h => (∃ old, IsEnum h e a ((i : Nat) : Int) old) ∧ k.It h a p i ∧ e ≠ a) where
  mem := by simp
  obj := fun i h ⟨⟨old, he⟩, ha, _⟩ c hc => by
    obtain ⟨o, ho, hd⟩ := ha.obj
    rcases in2 hc with rfl | rfl
    · exact ⟨_, he, fun v q => nomatch q⟩
    · exact ⟨o, ho, fun v q => by rw [hd] at q; cases q⟩
  keep := fun i h h' ⟨⟨old, he⟩, ha, ne⟩ kp => ⟨⟨old, kp e (by simp) _ he⟩, ha.mv fun o q => kp a (by simp) o q, ne⟩
  item := by
    intro X hP hw hK hc i pins s σ H E J hf st hg
    subst hP hw hK
    obtain ⟨⟨old, he⟩, ha, ne⟩ := st
    obtain ⟨xs, x, hq, hx⟩ := hg
    obtain ⟨us, rv, sx⟩ := hq.sq J
    obtain ⟨u, hu, ru⟩ := rv.get hx
    have el : e < s.heap.objs.size := Heap.lt_size he
    refine enn_item he ha sx (x := u) (by simpa using hu) ne fun h' ho a' hT kp => ⟨_, rfl, wpAny_letOwnedTupleGo_enum (s := { s with heap := h', toks := s.toks + 1 }) ho fun h'' he' sb => ?_⟩
    have hT2 : h''.get? s.heap.objs.size = some { cls := .type "tuple", data := .seq #[.int i s.toks, u] } := (sb.2 _ (Nat.ne_of_gt el)).trans hT
    have nw : ObjOk X.prog X.w (upd H s.heap.objs.size (.tup [.int (i : Nat), x])) h'' s.heap.objs.size (.tup [.int (i : Nat), x]) := ⟨by show 2 ≤ sizeLine; decide, [.int i s.toks, u], .cons ⟨_, rfl⟩ (.cons ru .nil), ⟨_, hT2, rfl, _, rfl⟩⟩
    have J1 : Inv X pins σ (upd H s.heap.objs.size (.tup [.int (i : Nat), x])) { s with heap := h'', toks := s.toks + 1 } := J.turnedNew (ch := [e, a]) (fun b ob hn q => (sb.2 b (ni2 hn).1).trans (kp b ob (ni2 hn).1 (ni2 hn).2 q)) hf (Nat.le_refl _) nw
    refine ⟨.ref s.heap.objs.size, _, J1, rfl, ⟨_, x, rfl, J.hok.fresh (Nat.le_refl _), rfl, fun ys hy => by rw [Kd.Hq.inj J hy hq]; exact hx⟩, ⟨⟨u, by rw [show ((i + 1 : Nat) : Int) = (i : Int) + 1 by omega]; exact he'⟩, a'.mv fun o q => (sb.2 a ne.symm).trans q, ne⟩, fun b hb => ?_⟩
    have lt : b < s.heap.objs.size := by
      rcases in2 hb with rfl | rfl
      · exact el
      · exact ha.lt
    rw [upd_ne (Nat.ne_of_lt lt)]
    exact (hf b hb).1
  done := by
    intro X hP hw hK hc i pins s σ H E J hf st hg
    subst hP hw hK
    obtain ⟨⟨old, he⟩, ha, ne⟩ := st
    obtain ⟨xs, hq, hx⟩ := hg
    obtain ⟨us, rv, sx⟩ := hq.sq J
    obtain ⟨f0, f1, f2, f3, f4, f5⟩ := hf a (by simp)
    have l1 := rv.length
    exact enn_end (J.ok.hd hc) he ha sx (by simp; omega) fun h' eb => ⟨rfl, J.turned (t' := s.toks) (fun b o hb q => eb b o hb q) f0 f1 f3 f4 f5⟩
  self := fun A i s Q E ⟨⟨_, he⟩, _⟩ h => wpAny_pyIter_enum he h
noncomputable def iEnumK (K : PySem.W.Frag) (ta : TA) : TI := fun σ H R => ta σ H fun vs H1 => ∃ p xs k, vs = [.ref p] ∧ Kd.Hq k K H1 p xs ∧ R (IteK k K p) H1
theorem pi_enumK {X : Cx} {e : Expr} {ta : TA} {p pos tpos : Pos} {elts : List Expr} {kk : Nat} (hg : Gl X "enumerate") (hm : X.mg "enumerate" = none) (ha : PA X [e] ta) (hs : starEach [e] X.env = [(false, eval e X.env)]) :
    PI X (.Tuple elts kk tpos) (.Call (.Name "enumerate" p) [e] [] pos) (iEnumK X.K ta) := by
  refine ⟨fun pins s σ H R I h => ?_⟩
  refine Call_ (ld_blt I hg hm boot_enumerate (PyProof.Rows.callWith_type1 (thn (ha.run pos pins s σ H _ I h) fun us s1 ⟨vs, H1, I1, r1, a, xs, k, ex, hx, q⟩ => ?_) hs rfl))
  subst ex
  cases r1 with
  | cons r rr =>
    cases rr; cases r
    obtain ⟨us, rv, sx⟩ := hx.sq I1
    refine en_call sx fun h' he hit hk => wpAny_pyIter_enum he ⟨s1.heap.objs.size + 1, [s1.heap.objs.size + 1, s1.heap.objs.size], _, _, H1, rfl, I1.kept (t' := s1.toks) hk, turn_eK a (s1.heap.objs.size + 1) s1.heap.objs.size, ⟨⟨.none, he⟩, hit, Nat.succ_ne_self _⟩, fun b hb => ?_, q⟩
    have le : s1.heap.objs.size ≤ b := by
      rcases in2 hb with e | e <;> rw [e] <;> first | exact Nat.le_add_right _ _ | exact Nat.le_refl _
    exact I1.fpOk le (I1.hok.fresh le)
end Mi
end
noncomputable section
namespace Mi
open PySem PySem.Spec L2

structure Step (O : Addr → Prop) (W W' : Wd) : Prop where
  ms : ∃ t, W'.ms = W.ms ++ t
  fz : ∀ a, a ∈ W.fz → a ∈ W'.fz
  keep : ∀ a o, W.H a = some o → a ∉ W.ms → ¬ O a → W'.H a = some o
  dom : ∀ a, W.H a ≠ none → W'.H a ≠ none
  nms : ∀ a, a ∈ W'.ms → a ∈ W.ms ∨ W.H a = none
  nfz : ∀ a, a ∈ W'.fz → a ∈ W.fz ∨ W.H a = none ∨ O a
theorem Ext.step {O : Addr → Prop} {W W' : Wd} (e : Ext W W') : Step O W W' := ⟨e.ms, e.fz, fun a o h n _ => e.keep a o h n, e.dom, e.nms, fun a h => (e.nfz a h).elim .inl fun z => .inr (.inl z)⟩
theorem Step.ext {O : Addr → Prop} {W W' : Wd} (h : ∀ a, ¬ O a) (e : Step O W W') : Ext W W' := ⟨e.ms, e.fz, fun a o q n => e.keep a o q n (h a), e.dom, e.nms, fun a z => by
  rcases e.nfz a z with q | q | q
  · exact .inl q
  · exact .inr q
  · exact (h a q).elim⟩
theorem Step.free {O : Addr → Prop} {W W' : Wd} (e : Step O W W') {a : Addr} (h : W'.H a = none) : W.H a = none := by
  cases q : W.H a with
  | none => rfl
  | some o => exact absurd h (e.dom a (by rw [q]; simp))
theorem Step.refl (O : Addr → Prop) (W : Wd) : Step O W W := (Ext.refl W).step
theorem Step.trans {O O1 : Addr → Prop} {W W1 W2 : Wd} (a : Step O W W1) (b : Step O1 W1 W2) (h : ∀ p, O1 p → O p ∨ W.H p = none) : Step O W W2 := by
  refine ⟨?_, fun x h => b.fz x (a.fz x h), fun x o q n no => b.keep x o (a.keep x o q n no) (fun z => ?_) fun z => ?_, fun x h => b.dom x (a.dom x h), fun x h => ?_, fun x hx => ?_⟩
  · obtain ⟨t, e⟩ := a.ms
    obtain ⟨u, e'⟩ := b.ms
    exact ⟨t ++ u, by rw [e', e, List.append_assoc]⟩
  · rcases a.nms x z with r | r
    · exact n r
    · rw [q] at r; cases r
  · rcases h x z with r | r
    · exact no r
    · rw [q] at r; cases r
  · rcases b.nms x h with q | q
    · exact a.nms x q
    · exact .inr (a.free q)
  · rcases b.nfz x hx with q | q | q
    · exact a.nfz x q
    · exact .inr (.inl (a.free q))
    · rcases h x q with r | r
      · exact .inr (.inr r)
      · exact .inr (.inl r)

noncomputable def OOk (O : Addr → Prop) (W : Wd) : Prop := ∀ a, O a → a ∉ W.fz ∧ ∃ vs, W.H a = some (.lst vs)
section
variable {K : PySem.W.Frag} {O : Addr → Prop} {W W' : Wd} {S : Sto}
theorem Step.msAt (e : Step O W W') {l : Nat} {a : Addr} (h : W.ms[l]? = some a) : W'.ms[l]? = some a := by
  obtain ⟨t, q⟩ := e.ms
  rw [q, List.getElem?_append_left (List.getElem?_eq_some_iff.mp h).1]; exact h
theorem Step.rd (e : Step O W W') {a : Addr} {u : HO} (h : Rd W.H a u) (n : a ∉ W.ms) (no : ¬ O a) : Rd W'.H a u := by
  rcases h with h | ⟨o, h⟩
  · exact .inl (e.keep a _ h n no)
  · exact .inr ⟨o, e.keep a _ h n no⟩
theorem Step.sqT (r : Rel K W S) (ok : OOk O W) (e : Step O W W') {a : Addr} {vs : List V} (h : SqT K W.H a vs) : SqT K W'.H a vs := by
  rcases h with h | h
  · refine .inl (e.rd h (r.notTup h) fun z => ?_)
    obtain ⟨_, ws, q⟩ := ok a z
    rcases h with h | ⟨o, h⟩
    · rw [h] at q; cases q
    · rw [h] at q; cases q
  · exact .inr h
mutual
theorem Rep.step (r : Rel K W S) (ok : OOk O W) (e : Step O W W') : ∀ (d : D) (v : V), Rep K W d v → Rep K W' d v
  | .non, v, h => by unfold Rep at h ⊢; exact h
  | .bl _, v, h => by unfold Rep at h ⊢; exact h
  | .int _, v, h => by unfold Rep at h ⊢; exact h
  | .str _, v, h => by unfold Rep at h ⊢; exact h
  | .tup ds, v, h => by
    unfold Rep at h ⊢
    obtain ⟨a, vs, e1, e2, e3⟩ := h
    exact ⟨a, vs, e1, Step.sqT r ok e e2, RepL.step r ok e ds vs e3⟩
  | .lst ds, v, h => by
    unfold Rep at h ⊢
    obtain ⟨a, vs, e1, e2, e3, e4⟩ := h
    exact ⟨a, vs, e1, e.fz a e2, e.keep a _ e3 (r.apart a e2) (fun z => (ok a z).1 e2), RepL.step r ok e ds vs e4⟩
  | .scr ds, v, h => by
    unfold Rep at h ⊢
    obtain ⟨a, vs, e1, e2, e4⟩ := h
    exact ⟨a, vs, e1, e2.imp (fun z => ⟨e.fz a z.1, e.rd z.2 (r.apart a z.1) fun y => (ok a y).1 z.1⟩) id, RepL.step r ok e ds vs e4⟩
  | .ref l, v, h => by
    unfold Rep at h ⊢
    obtain ⟨a, e1, e2⟩ := h
    exact ⟨a, e1, e.msAt e2⟩
  | .dct ks ds, v, h => by
    unfold Rep at h ⊢
    obtain ⟨a, vs, e1, e2, e3, e0, e4⟩ := h
    exact ⟨a, vs, e1, e.fz a e2, e.keep a _ e3 (r.apart a e2) (fun z => (ok a z).1 e2), e0, RepL.step r ok e ds vs e4⟩
theorem RepL.step (r : Rel K W S) (ok : OOk O W) (e : Step O W W') : ∀ (ds : List D) (vs : List V), RepL K W ds vs → RepL K W' ds vs
  | [], vs, h => by unfold RepL at h ⊢; exact h
  | d :: ds, vs, h => by
    unfold RepL at h ⊢
    obtain ⟨v, q, e1, e2, e3⟩ := h
    exact ⟨v, q, e1, Rep.step r ok e d v e2, RepL.step r ok e ds q e3⟩
end
end
section
variable (K : PySem.W.Frag) (Φ : Fns) (G : List D)

noncomputable def ItOk (O : Addr → Prop) (W1 : Wd) (J : It) (ds : List D) : Prop := ∀ W2 S2, Step O W1 W2 → Rel K W2 S2 →
  (∀ (i : Nat) (d : D), ds[i]? = some d → J.go i W2.H ∧ ∀ x H', J.yld i W2.H x H' → ∃ W3, W3.H = H' ∧ Ext W2 W3 ∧ Rel K W3 S2 ∧ Rep K W3 d x) ∧ J.stop ds.length W2.H
noncomputable def ownA (σ : St) (ρ : Env) : Addr → Prop := fun p => ∃ (i : Nat) (ds : List D), ρ[i]? = some (.own ds) ∧ σ[i]? = some (some (.ref p))

noncomputable def OO (z : Bool) (σ : St) (ρ : Env) : Addr → Prop := fun p => z = false ∧ ownA σ ρ p
theorem OO_false {σ : St} {ρ : Env} : OO false σ ρ = ownA σ ρ := funext fun p => propext ⟨fun h => h.2, fun h => ⟨rfl, h⟩⟩
noncomputable def tI (z : Bool) (m : MI) : TI := fun σ H R => ∃ W S ρ, At K W S ρ σ H ∧ ∃ ds S', evI Φ G ρ z m S = some (ds, S') ∧ ∀ W' J, Ext W W' → Rel K W' S' → ItOk K (OO z σ ρ) W' J ds → R J W'.H
end
theorem At.own {K : PySem.W.Frag} {W : Wd} {S : Sto} {ρ : Env} {σ : St} {H : Hp} (a : At K W S ρ σ H) : OOk (ownA σ ρ) W := fun p ⟨i, ds, h1, h2⟩ => by
  obtain ⟨q, vs, e1, e2, _, e4, _⟩ := a.sl.2.2.1 i ds h1
  rw [h2] at e1; cases e1
  exact ⟨e4, vs, e2⟩
section
variable {X : Cx} {Φ : Fns} {G : List D} {e e1 e2 tg : Expr} {pos p : Pos}
theorem PI.imp {X : Cx} {tg e : Expr} {t t' : TI} (h : PI X tg e t) (i : ∀ σ H Q, t' σ H Q → t σ H Q) : PI X tg e t' := ⟨fun pins s σ H Q I q => h.run pins s σ H Q I (i σ H Q q)⟩
abbrev DI (X : Cx) (Φ : Fns) (G : List D) (z : Bool) (tg e : Expr) (m : MI) : Prop := PI X tg e (tI X.K Φ G z m)
theorem rngL_get : ∀ (n : Nat) (lo : Int) (i : Nat), (rngL lo n)[i]? = if i < n then some (.int (lo + i)) else none
  | 0, lo, i => by simp [rngL]
  | n + 1, lo, 0 => by simp [rngL]
  | n + 1, lo, i + 1 => by
    show (rngL (lo + 1) n)[i]? = _
    rw [rngL_get n (lo + 1) i]
    by_cases h : i < n
    · rw [if_pos h, if_pos (by omega)]; congr 2; omega
    · rw [if_neg h, if_neg (by omega)]
theorem rngL_len : ∀ (n : Nat) (lo : Int), (rngL lo n).length = n
  | 0, _ => rfl
  | n + 1, lo => by show (rngL (lo + 1) n).length + 1 = _; rw [rngL_len n]
theorem it_rng {K : PySem.W.Frag} {O : Addr → Prop} {W : Wd} (lo : Int) (n : Nat) : ItOk K O W (Itr lo n) (rngL lo n) := fun W2 S2 st r2 => by
  refine ⟨fun i d hd => ?_, ?_⟩
  · rw [rngL_get] at hd
    split at hd
    · rename_i hi
      cases hd
      refine ⟨hi, fun x H' ⟨h1, h2⟩ => ⟨W2, h1.symm, Ext.refl W2, r2, ?_⟩⟩
      subst h2; unfold Rep; rfl
    · cases hd
  · rw [rngL_len]; exact Nat.le_refl n
theorem di_rng1 {z : Bool} {m : ME} (hg : Gl X "range") (hm : X.mg "range" = none) (hs : starEach [e] X.env = [(false, eval e X.env)]) (h : DE X Φ G e m) : DI X Φ G z tg (.Call (.Name "range" p) [e] [] pos) (.rng1 m) := by
  refine PI.imp (pi_range1 hg hm (pa_cons h pa_nil hs) hs) fun σ H R h => ?_
  obtain ⟨W, S, ρ, a, ds, S', ev, q⟩ := h
  rw [evI] at ev
  obtain ⟨⟨x, S1⟩, ev1, ev⟩ := Mi.bind_some ev
  obtain ⟨j, hj, ev⟩ := Mi.bind_some ev
  refine ⟨W, S, ρ, a, x, S1, ev1, fun W1 v1 e1 r1 p1 => ?_⟩
  split at ev
  · rename_i hr
    cases ev
    have f1 := repr_int (show RepR X.K W W1 v1 (.val (.int j)) from (int?_some (r := x) hj) ▸ p1)
    subst f1
    exact ⟨j, rfl, hr.1, hr.2, q W1 _ e1 r1 (it_rng 0 _)⟩
  · cases ev
theorem still_of {K : PySem.W.Frag} {W W' : Wd} {S S' : Sto} {ρ : Env} {σ : St} {H : Hp} {v : V} {x : Rt} {ds : List D} (a : At K W S ρ σ H) (e : Ext W W') (r : Rel K W' S') (h : RepR K W W' v x) {z : Bool} (hv : still z x = some ds) :
    ∃ p vs, v = .ref p ∧ RepL K W' ds vs ∧ ((SqL K W'.H p vs ∧ ∀ W2, Step (OO z σ ρ) W' W2 → SqL K W2.H p vs) ∨ (SqT K W'.H p vs ∧ ∀ W2, Step (OO z σ ρ) W' W2 → SqT K W2.H p vs)) := by
  have ok' : OOk (OO z σ ρ) W' := fun p h => (a.ext e r).own p h.2
  cases x with
  | bor ds' =>
    cases z with
    | false => cases hv
    | true =>
      cases hv
      obtain ⟨p, vs, e1, e2, e3, e5⟩ := h
      exact ⟨p, vs, e1, e5, .inl ⟨.inl (.inl e2), fun W2 st => .inl (.inl (st.keep p _ e2 e3 fun y => nomatch y.1))⟩⟩
  | ownd _ _ => cases hv
  | own ds' =>
    cases hv
    obtain ⟨p, vs, e1, e2, e3, e4, e0, e5⟩ := h
    refine ⟨p, vs, e1, e5, .inl ⟨.inl (.inl e2), fun W2 st => .inl (.inl (st.keep p _ e2 e3 fun z => ?_))⟩⟩
    obtain ⟨_, ws, q⟩ := a.own p z.2
    rw [e0] at q; cases q
  | val d =>
    have h : Rep K W' d v := h
    cases d with
    | lst ds' =>
      cases hv
      unfold Rep at h
      obtain ⟨p, vs, e1, e2, e3, e4⟩ := h
      exact ⟨p, vs, e1, e4, .inl ⟨.inl (.inl e3), fun W2 st => .inl (.inl (st.keep p _ e3 (r.apart p e2) fun z => (ok' p z).1 e2))⟩⟩
    | scr ds' =>
      cases hv
      unfold Rep at h
      obtain ⟨p, vs, e1, e3, e4⟩ := h
      exact ⟨p, vs, e1, e4, .inl ⟨e3.imp (fun z => z.2) id, fun W2 st => e3.imp (fun z => st.rd z.2 (r.apart p z.1) fun y => (ok' p y).1 z.1) id⟩⟩
    | tup ds' =>
      cases hv
      unfold Rep at h
      obtain ⟨p, vs, e1, e3, e4⟩ := h
      exact ⟨p, vs, e1, e4, .inr ⟨e3, fun W2 st => Step.sqT r ok' st e3⟩⟩
    | ref l => cases hv
    | dct _ _ => cases hv
    | non => cases hv
    | bl _ => cases hv
    | int _ => cases hv
    | str _ => cases hv
theorem pi_seq {te : TE} (h : PE X e te) : PI X tg e (fun σ H R => te σ H fun x H1 => (∃ a, x = .ref a ∧ (∃ xs, SqL X.K H1 a xs) ∧ R (Itl X.K a) H1) ∨ ∃ a, x = .ref a ∧ (∃ xs, SqT X.K H1 a xs) ∧ R (Itt X.K a) H1) := by
  refine ⟨fun pins s σ H R I hq => ?_⟩
  refine thn (h.run pins s σ H _ I hq) fun v s1 ⟨x, H1, I1, r1, q1⟩ => ?_
  have new : ∀ b, b ∈ [s1.heap.objs.size] → FpOk X pins H1 b := fun b hb => by
    rw [List.mem_singleton] at hb
    subst hb
    exact I1.fpOk (Nat.le_refl _) (I1.hok.fresh (Nat.le_refl _))
  rcases q1 with ⟨a, rfl, ⟨xs, hx⟩, q⟩ | ⟨a, rfl, ⟨xs, hx⟩, q⟩
  · cases r1
    obtain ⟨us, _, pl, _⟩ := I1.list hx
    refine wpAny_pyIter_list pl.isList ⟨s1.heap.objs.size, [s1.heap.objs.size], _, _, H1, rfl, ?_, turn_list a _, ?_, new, q⟩
    · exact I1.kept (t' := s1.toks) fun b o z => Heap.get?_push_of_some _ z
    · exact ⟨_, Heap.get?_push_size _ rfl, rfl, rfl⟩
  · cases r1
    obtain ⟨us, _, pl, _⟩ := I1.tuple hx
    refine wpAny_pyIter_tuple (show s1.heap.IsTuple a us.toArray from pl) ⟨s1.heap.objs.size, [s1.heap.objs.size], _, _, H1, rfl, ?_, turn_tuple a _, ?_, new, q⟩
    · exact I1.kept (t' := s1.toks) fun b o z => Heap.get?_push_of_some _ z
    · exact ⟨_, Heap.get?_push_size _ rfl, rfl, rfl⟩
theorem it_list {K : PySem.W.Frag} {O : Addr → Prop} {W : Wd} {S : Sto} {p : Addr} {ds : List D} {vs : List V} (r : Rel K W S) (ok : OOk O W) (l : RepL K W ds vs) (hs : ∀ W2, Step O W W2 → SqL K W2.H p vs) : ItOk K O W (Itl K p) ds := fun W2 S2 st r2 => by
  have q := hs W2 st
  refine ⟨fun i d hd => ?_, vs, q, by rw [l.length]; exact Nat.le_refl _⟩
  obtain ⟨w, hw, rp⟩ := l.get hd
  refine ⟨⟨vs, w, q, hw⟩, fun x H' ⟨h1, h2⟩ => ⟨W2, h1.symm, Ext.refl W2, r2, ?_⟩⟩
  have e := h2 vs q
  rw [hw] at e; cases e
  exact Rep.step r ok st d w rp
theorem it_tup {K : PySem.W.Frag} {O : Addr → Prop} {W : Wd} {S : Sto} {p : Addr} {ds : List D} {vs : List V} (r : Rel K W S) (ok : OOk O W) (l : RepL K W ds vs) (hs : ∀ W2, Step O W W2 → SqT K W2.H p vs) : ItOk K O W (Itt K p) ds := fun W2 S2 st r2 => by
  have q := hs W2 st
  refine ⟨fun i d hd => ?_, vs, q, by rw [l.length]; exact Nat.le_refl _⟩
  obtain ⟨w, hw, rp⟩ := l.get hd
  refine ⟨⟨vs, w, q, hw⟩, fun x H' ⟨h1, h2⟩ => ⟨W2, h1.symm, Ext.refl W2, r2, ?_⟩⟩
  have e := h2 vs q
  rw [hw] at e; cases e
  exact Rep.step r ok st d w rp
theorem enmL_get : ∀ (ds : List D) (lo i : Nat), (enmL lo ds)[i]? = (ds[i]?).map fun d => .tup [.int ((lo + i : Nat) : Int), d]
  | [], lo, i => by simp [enmL]
  | d :: ds, lo, 0 => by simp [enmL]
  | d :: ds, lo, i + 1 => by
    show (enmL (lo + 1) ds)[i]? = _
    rw [enmL_get ds (lo + 1) i, List.getElem?_cons_succ, Nat.add_right_comm, Nat.add_assoc]
theorem enmL_len : ∀ (ds : List D) (lo : Nat), (enmL lo ds).length = ds.length
  | [], _ => rfl
  | d :: ds, lo => by show (enmL (lo + 1) ds).length + 1 = _; rw [enmL_len ds]; rfl
theorem stillK {K : PySem.W.Frag} {W W' : Wd} {S S' : Sto} {ρ : Env} {σ : St} {H : Hp} {v : V} {x : Rt} {ds : List D} (a : At K W S ρ σ H) (e : Ext W W') (r : Rel K W' S') (h : RepR K W W' v x) {z : Bool} (hv : still z x = some ds) :
    ∃ p vs k, v = .ref p ∧ RepL K W' ds vs ∧ Kd.Hq k K W'.H p vs ∧ ∀ W2, Step (OO z σ ρ) W' W2 → Kd.Hq k K W2.H p vs := by
  obtain ⟨p, vs, e1, l, q | q⟩ := still_of a e r h hv
  · exact ⟨p, vs, .l, e1, l, q.1, q.2⟩
  · exact ⟨p, vs, .t, e1, l, q.1, q.2⟩
theorem it_enm {K : PySem.W.Frag} {O : Addr → Prop} {W : Wd} {S : Sto} {p : Addr} {ds : List D} {vs : List V} {k : Kd} (r : Rel K W S) (ok : OOk O W) (l : RepL K W ds vs) (hs : ∀ W2, Step O W W2 → k.Hq K W2.H p vs) : ItOk K O W (IteK k K p) (enmL 0 ds) := fun W2 S2 st r2 => by
  have q := hs W2 st
  refine ⟨fun i d hd => ?_, vs, q, by rw [l.length, enmL_len]; exact Nat.le_refl _⟩
  rw [enmL_get] at hd
  obtain ⟨d', hd', rfl⟩ := map_some hd
  obtain ⟨w, hw, rp⟩ := l.get hd'
  refine ⟨⟨vs, w, q, hw⟩, fun x H' ⟨T, y, h1, hT, h3, h2⟩ => ?_⟩
  have e := h2 vs q
  rw [hw] at e; cases e
  have rp2 := Rep.step r ok st d' w rp
  refine ⟨⟨W2.ms, W2.fz, upd W2.H T (.tup [.int (i : Nat), w])⟩, h3.symm, Ext.laid hT, r2.laid hT, ?_⟩
  rw [h1]
  refine Rep.laidT r2 hT (.cons ?_ (.cons rp2 .nil))
  unfold Rep; rw [Nat.zero_add]
theorem zipL_get : ∀ (xs ys : List D) (i : Nat) (d : D), (zipL xs ys)[i]? = some d → ∃ x y, xs[i]? = some x ∧ ys[i]? = some y ∧ d = .tup [x, y]
  | [], ys, i, d, h => by simp [zipL] at h
  | x :: xs, [], i, d, h => by simp [zipL] at h
  | x :: xs, y :: ys, 0, d, h => by simp [zipL] at h; exact ⟨x, y, rfl, rfl, h.symm⟩
  | x :: xs, y :: ys, i + 1, d, h => zipL_get xs ys i d (by simpa [zipL] using h)
theorem zipL_len : ∀ (xs ys : List D), xs.length ≤ (zipL xs ys).length ∨ ys.length ≤ (zipL xs ys).length
  | [], ys => .inl (Nat.zero_le _)
  | x :: xs, [] => .inr (Nat.zero_le _)
  | x :: xs, y :: ys => (zipL_len xs ys).imp (fun h => by simpa [zipL] using h) fun h => by simpa [zipL] using h
theorem it_zip {K : PySem.W.Frag} {O : Addr → Prop} {W : Wd} {S : Sto} {p q : Addr} {xs ys : List D} {vs ws : List V} {k m : Kd} (r : Rel K W S) (ok : OOk O W) (l : RepL K W xs vs) (hs : ∀ W2, Step O W W2 → k.Hq K W2.H p vs) (l' : RepL K W ys ws) (hs' : ∀ W2, Step O W W2 → m.Hq K W2.H q ws) : ItOk K O W (ItzK k m K p q) (zipL xs ys) := fun W2 S2 st r2 => by
  have h1 := hs W2 st
  have h2 := hs' W2 st
  refine ⟨fun i d hd => ?_, vs, ws, h1, h2, by rw [l.length, l'.length]; exact zipL_len xs ys⟩
  obtain ⟨x, y, hx, hy, rfl⟩ := zipL_get xs ys i d hd
  obtain ⟨v, hv, rx⟩ := l.get hx
  obtain ⟨w, hw, ry⟩ := l'.get hy
  refine ⟨⟨vs, ws, v, w, h1, h2, hv, hw⟩, fun z H' ⟨T, x', y', f1, hT, f3, f4, f5⟩ => ?_⟩
  have e1 := f4 vs h1
  have e2 := f5 ws h2
  rw [hv] at e1; cases e1
  rw [hw] at e2; cases e2
  refine ⟨⟨W2.ms, W2.fz, upd W2.H T (.tup [v, w])⟩, f3.symm, Ext.laid hT, r2.laid hT, ?_⟩
  rw [f1]
  exact Rep.laidT r2 hT (.cons (Rep.step r ok st x v rx) (.cons (Rep.step r ok st y w ry) .nil))
theorem di_enm {z : Bool} {m : ME} {elts : List Expr} {kk : Nat} {tpos : Pos} (hg : Gl X "enumerate") (hm : X.mg "enumerate" = none) (hs : starEach [e] X.env = [(false, eval e X.env)]) (h : DE X Φ G e m) : DI X Φ G z (.Tuple elts kk tpos) (.Call (.Name "enumerate" p) [e] [] pos) (.enm m) := by
  refine PI.imp (pi_enumK hg hm (pa_cons h pa_nil hs) hs) fun σ H R h => ?_
  obtain ⟨W, S, ρ, a, ds, S', ev, q⟩ := h
  rw [evI] at ev
  obtain ⟨⟨x, S1⟩, ev1, ev⟩ := Mi.bind_some ev
  obtain ⟨ds', hv, ev⟩ := Mi.bind_some ev
  cases ev
  refine ⟨W, S, ρ, a, x, _, ev1, fun W1 v1 e1 r1 p1 => ?_⟩
  obtain ⟨p, vs, k, rfl, l, h0, hs⟩ := stillK a e1 r1 p1 hv
  exact ⟨p, vs, k, rfl, h0, q W1 _ e1 r1 (it_enm r1 (fun p h => (a.ext e1 r1).own p h.2) l hs)⟩
theorem di_zip {z : Bool} {m1 m2 : ME} {elts : List Expr} {kk : Nat} {tpos : Pos} (hg : Gl X "zip") (hm : X.mg "zip" = none) (hs : starEach [e1, e2] X.env = (false, eval e1 X.env) :: starEach [e2] X.env) (hs2 : starEach [e2] X.env = [(false, eval e2 X.env)]) (hpl : (backTo pos (starEach [e2] X.env)).any (·.1) = false) (h1 : DE X Φ G e1 m1) (h2 : DE X Φ G e2 m2) :
    DI X Φ G z (.Tuple elts kk tpos) (.Call (.Name "zip" p) [e1, e2] [] pos) (.zip m1 m2) := by
  refine PI.imp (pi_zipK hg hm (pa_cons h1 (pa_cons h2 pa_nil hs2) hs) hs hpl) fun σ H R h => ?_
  obtain ⟨W, S, ρ, a, ds, S', ev, q⟩ := h
  rw [evI] at ev
  obtain ⟨⟨x, S1⟩, ev1, ev⟩ := Mi.bind_some ev
  obtain ⟨⟨y, S2⟩, ev2, ev⟩ := Mi.bind_some ev
  obtain ⟨xs, hx, ev⟩ := Mi.bind_some ev
  obtain ⟨ys, hy, ev⟩ := Mi.bind_some ev
  cases ev
  refine ⟨W, S, ρ, a, x, _, ev1, fun W1 v1 e1 r1 p1 => ⟨W1, S1, ρ, a.ext e1 r1, y, _, ev2, fun W2 v2 e2 r2 p2 => ?_⟩⟩
  obtain ⟨p, vs, k, rfl, l, h0, hs⟩ := stillK a (e1.trans e2) r2 (p1.ext r1 e2) hx
  obtain ⟨q', ws, m, rfl, l', h0', hs'⟩ := stillK (a.ext e1 r1) e2 r2 p2 hy
  exact ⟨p, q', vs, ws, k, m, rfl, h0, h0', q W2 _ (e1.trans e2) r2 (it_zip r2 (fun p h => (a.ext (e1.trans e2) r2).own p h.2) l hs l' hs')⟩
theorem di_seq {z : Bool} {m : ME} (h : DE X Φ G e m) : DI X Φ G z tg e (.seq m) := by
  refine PI.imp (pi_seq h) fun σ H R h => ?_
  obtain ⟨W, S, ρ, a, ds, S', ev, q⟩ := h
  rw [evI] at ev
  obtain ⟨⟨x, S1⟩, ev1, ev⟩ := Mi.bind_some ev
  obtain ⟨ds', hv, ev⟩ := Mi.bind_some ev
  cases ev
  refine ⟨W, S, ρ, a, x, _, ev1, fun W1 v1 e1 r1 p1 => ?_⟩
  obtain ⟨p, vs, rfl, l, hs⟩ := still_of a e1 r1 p1 hv
  rcases hs with ⟨h0, hs⟩ | ⟨h0, hs⟩
  · exact .inl ⟨p, rfl, ⟨vs, h0⟩, q W1 _ e1 r1 (it_list r1 (fun p h => (a.ext e1 r1).own p h.2) l hs)⟩
  · exact .inr ⟨p, rfl, ⟨vs, h0⟩, q W1 _ e1 r1 (it_tup r1 (fun p h => (a.ext e1 r1).own p h.2) l hs)⟩


noncomputable def spF (K : PySem.W.Frag) (Φ : Fns) (f : Nat) : Sp := fun vs H Q _ => ∃ W S ds, W.H = H ∧ Rel K W S ∧ RepL K W ds vs ∧ ∃ r S', Φ f ds S = some (r, S') ∧ ∀ W' v, Ext W W' → Rel K W' S' → RepR K W W' v r → Q v W'.H
theorem de_call {f : Nat} {fa : Addr} {fd : FuncData} {k : Nat} {ps : List Str} {x : Str} {es : List Expr} {ms : MEs} (F : FnG X.prog X.w X.K X.mg X.base k fa fd ps (spF X.K Φ f)) (hA : X.A.guards = some []) (hr : Room k X.A) (hg : Gl X x) (hm : X.mg x = some (.ref fa)) (hk : PySem.W.keepIn X.K (.ref fa) = true) (hb : Binds X.K fd ps [])
    (hdb : (x == ("__debug__" : Str)) = false) (he : starEach (e :: es) X.env = (false, eval e X.env) :: starEach es X.env) (hpl : (backTo pos (starEach es X.env)).any (·.1) = false) (h : DAs X Φ G (e :: es) ms) : DE X Φ G (.Call (.Name x p) (e :: es) [] pos) (.call f ms) := by
  refine PE.imp (pe_callG F hA hr hg hm hk hb h hdb he hpl) fun σ H Q h => ?_
  obtain ⟨W, S, ρ, a, r, S', ev, q⟩ := h
  rw [evR] at ev
  obtain ⟨⟨ds, S1⟩, ev1, ev⟩ := Mi.bind_some ev
  refine ⟨W, S, ρ, a, ds, S1, ev1, fun W1 vs e1 r1 p1 => ?_⟩
  show spF X.K Φ f (vs ++ []) W1.H Q E0
  rw [List.append_nil]
  exact ⟨W1, S1, ds, rfl, r1, p1, r, S', ev, fun W2 v e2 r2 p2 => q W2 v (e1.trans e2) r2 (p2.back e1)⟩
mutual
theorem Rep.bare {K : PySem.W.Frag} {W : Wd} : ∀ (d : D) (v : V), Rep K W d v → noRef d = true → Rep K ⟨[], W.fz, W.H⟩ d v
  | .non, v, h, n => by unfold Rep at h ⊢; exact h
  | .bl b, v, h, n => by unfold Rep at h ⊢; exact h
  | .int i, v, h, n => by unfold Rep at h ⊢; exact h
  | .str x, v, h, n => by unfold Rep at h ⊢; exact h
  | .tup ds, v, h, n => by
    unfold Rep at h ⊢
    obtain ⟨a, vs, e, h1, h2⟩ := h
    exact ⟨a, vs, e, h1, RepL.bare ds vs h2 (by unfold noRef at n; exact n)⟩
  | .lst ds, v, h, n => by
    unfold Rep at h ⊢
    obtain ⟨a, vs, e, h1, h2, h3⟩ := h
    exact ⟨a, vs, e, h1, h2, RepL.bare ds vs h3 (by unfold noRef at n; exact n)⟩
  | .scr ds, v, h, n => by
    unfold Rep at h ⊢
    obtain ⟨a, vs, e, h1, h2⟩ := h
    exact ⟨a, vs, e, h1, RepL.bare ds vs h2 (by unfold noRef at n; exact n)⟩
  | .ref l, v, h, n => by unfold noRef at n; cases n
  | .dct ks ds, v, h, n => by
    unfold Rep at h ⊢
    obtain ⟨a, vs, e, h1, h2, h3, h4⟩ := h
    exact ⟨a, vs, e, h1, h2, h3, RepL.bare ds vs h4 (by unfold noRef at n; exact n)⟩
theorem RepL.bare {K : PySem.W.Frag} {W : Wd} : ∀ (ds : List D) (vs : List V), RepL K W ds vs → noRefs ds = true → RepL K ⟨[], W.fz, W.H⟩ ds vs
  | [], vs, h, n => by unfold RepL at h ⊢; exact h
  | d :: ds, vs, h, n => by
    unfold noRefs at n
    rw [Bool.and_eq_true] at n
    unfold RepL at h ⊢
    obtain ⟨v, r, e, h1, h2⟩ := h
    exact ⟨v, r, e, Rep.bare d v h1 n.1, RepL.bare ds r h2 n.2⟩
end
theorem RepL.mores {K : PySem.W.Frag} {W : Wd} {ds : List D} {vs : List V} (h : RepL K W ds vs) : ∀ ps : List Addr, RepL K ⟨W.ms, ps ++ W.fz, W.H⟩ ds vs
  | [] => h
  | p :: ps => RepL.more (W := ⟨W.ms, ps ++ W.fz, W.H⟩) ds vs (RepL.mores h ps)
theorem Rep.mores {K : PySem.W.Frag} {W : Wd} {d : D} {v : V} (h : Rep K W d v) : ∀ ps : List Addr, Rep K ⟨W.ms, ps ++ W.fz, W.H⟩ d v
  | [] => h
  | p :: ps => Rep.more (W := ⟨W.ms, ps ++ W.fz, W.H⟩) d v (Rep.mores h ps)
mutual
theorem Rep.fzs {K : PySem.W.Frag} {ms fz fz' : List Addr} {H : Hp} (hs : ∀ a, a ∈ fz → a ∈ fz') : ∀ (d : D) (v : V), Rep K ⟨ms, fz, H⟩ d v → Rep K ⟨ms, fz', H⟩ d v
  | .non, v, h => by unfold Rep at h ⊢; exact h
  | .bl _, v, h => by unfold Rep at h ⊢; exact h
  | .int _, v, h => by unfold Rep at h ⊢; exact h
  | .str _, v, h => by unfold Rep at h ⊢; exact h
  | .tup ds, v, h => by
    unfold Rep at h ⊢
    obtain ⟨a, vs, e, h1, h2⟩ := h
    exact ⟨a, vs, e, h1, RepL.fzs hs ds vs h2⟩
  | .lst ds, v, h => by
    unfold Rep at h ⊢
    obtain ⟨a, vs, e, h1, h2, h3⟩ := h
    exact ⟨a, vs, e, hs a h1, h2, RepL.fzs hs ds vs h3⟩
  | .scr ds, v, h => by
    unfold Rep at h ⊢
    obtain ⟨a, vs, e, h1, h2⟩ := h
    exact ⟨a, vs, e, h1.imp (fun h => ⟨hs a h.1, h.2⟩) id, RepL.fzs hs ds vs h2⟩
  | .ref l, v, h => by unfold Rep at h ⊢; exact h
  | .dct ks ds, v, h => by
    unfold Rep at h ⊢
    obtain ⟨a, vs, e, h1, h2, h3, h4⟩ := h
    exact ⟨a, vs, e, hs a h1, h2, h3, RepL.fzs hs ds vs h4⟩
theorem RepL.fzs {K : PySem.W.Frag} {ms fz fz' : List Addr} {H : Hp} (hs : ∀ a, a ∈ fz → a ∈ fz') : ∀ (ds : List D) (vs : List V), RepL K ⟨ms, fz, H⟩ ds vs → RepL K ⟨ms, fz', H⟩ ds vs
  | [], vs, h => by unfold RepL at h ⊢; exact h
  | d :: ds, vs, h => by
    unfold RepL at h ⊢
    obtain ⟨v, r, e, h1, h2⟩ := h
    exact ⟨v, r, e, Rep.fzs hs d v h1, RepL.fzs hs ds r h2⟩
end

noncomputable def LC (K : PySem.W.Frag) (W : Wd) (S : Sto) : Prop := ∀ (l : Nat) (ds : List D), S[l]? = some (.lst ds) → ∃ a vs, W.ms[l]? = some a ∧ W.H a = some (.lst vs) ∧ RepL K W ds vs
theorem LC.mores {K : PySem.W.Frag} {W : Wd} {S : Sto} (h : LC K W S) (ps : List Addr) : LC K ⟨W.ms, ps ++ W.fz, W.H⟩ S := fun l ds hl => by
  obtain ⟨a, vs, h1, h2, h3⟩ := h l ds hl
  exact ⟨a, vs, h1, h2, RepL.mores h3 ps⟩
theorem Rep.lend1 {K : PySem.W.Frag} {W : Wd} {S : Sto} {d d' : D} {v : V} (r : LC K W S) (h : Rep K W d v) (e : lend1 S d = some d') : ∃ ps : List Addr, (∀ p, p ∈ ps → W.H p ≠ none) ∧ Rep K ⟨W.ms, ps ++ W.fz, W.H⟩ d' v := by
  by_cases hx : ∃ l, d = .ref l
  · obtain ⟨l, rfl⟩ := hx
    obtain ⟨ds, hc, e⟩ := map_some (show (cellL S l).map D.lst = some d' from e)
    subst e
    unfold Rep at h
    obtain ⟨a, rfl, e2⟩ := h
    obtain ⟨b, vs, q1, q2, q3⟩ := r l _ (cellL_some hc)
    rw [e2] at q1; cases q1
    refine ⟨[a], fun p hp => ?_, ?_⟩
    · rw [List.mem_singleton.mp hp, q2]; simp
    · unfold Rep
      exact ⟨a, vs, rfl, List.mem_cons_self, q2, RepL.mores q3 [a]⟩
  · have : d' = d := by
      cases d <;> first | (cases e; rfl) | exact absurd ⟨_, rfl⟩ hx
    subst this
    exact ⟨[], (fun _ z => nomatch z), h⟩
theorem RepL.lend1s {K : PySem.W.Frag} {S : Sto} : ∀ {W : Wd} {ds es : List D} {vs : List V}, LC K W S → RepL K W ds vs → lend1s S ds = some es → ∃ ps : List Addr, (∀ p, p ∈ ps → W.H p ≠ none) ∧ RepL K ⟨W.ms, ps ++ W.fz, W.H⟩ es vs
  | W, [], es, vs, _, h, e => by cases e; exact ⟨[], (fun _ z => nomatch z), h⟩
  | W, d :: ds, es, vs, r, h, e => by
    obtain ⟨v, us, rfl, h1, h2⟩ := h.cons_inv
    unfold Mi.lend1s at e
    obtain ⟨d', hd, e⟩ := Mi.bind_some e
    obtain ⟨es', he, e⟩ := map_some e
    subst e
    obtain ⟨ps, p1, p2⟩ := Rep.lend1 r h1 hd
    obtain ⟨qs, q1, q2⟩ := RepL.lend1s (W := ⟨W.ms, ps ++ W.fz, W.H⟩) (r.mores ps) (RepL.mores h2 ps) he
    refine ⟨qs ++ ps, fun p hp => ?_, ?_⟩
    · rcases List.mem_append.mp hp with hp | hp
      · exact q1 p hp
      · exact p1 p hp
    · rw [List.append_assoc]
      exact .cons (Rep.mores (W := ⟨W.ms, ps ++ W.fz, W.H⟩) p2 qs) q2
theorem de_bi {b : BI} {id x : Str} {nm : String} {es : List Expr} {ms : MEs} (hc : CallR X (.builtin nm) (rBi X.K b)) (hg : Gl X x) (hm : X.mg x = none) (hv : bootBuiltins x = some (.builtin nm)) (hn : x ≠ "__name__") (hdb : (x == ("__debug__" : Str)) = false)
    (he : starEach (e :: es) X.env = (false, eval e X.env) :: starEach es X.env) (hpl : (backTo pos (starEach es X.env)).any (·.1) = false) (h : DRs X Φ G (e :: es) ms) : DE X Φ G (.Call (.Name x p) (e :: es) [] pos) (.bi b ms) := by
  refine PE.imp (pe_callB hc hg hm hv h hn hdb he hpl) fun σ H Q h => ?_
  obtain ⟨W, S, ρ, a, r, S', ev, q⟩ := h
  rw [evR] at ev
  obtain ⟨⟨rs, S1⟩, ev1, ev⟩ := Mi.bind_some ev
  obtain ⟨z, hz, ev⟩ := map_some ev
  cases ev
  refine ⟨W, S, ρ, a, rs, _, ev1, fun W1 vs e1 r1 p1 => ?_⟩
  exact ⟨W, W1, _, rs, _, rfl, r1, p1, hz, fun W2 v e2 r2 p2 => q W2 v (e1.trans e2) r2 (p2.back e1)⟩
theorem de_biT {b : BI} {id x : Str} {nm : String} {es : List Expr} {ms : MEs} (hc : CallR X (.type nm) (rBi X.K b)) (hg : Gl X x) (hm : X.mg x = none) (hv : bootBuiltins x = some (.type nm)) (hn : x ≠ "__name__") (hdb : (x == ("__debug__" : Str)) = false)
    (he : starEach (e :: es) X.env = (false, eval e X.env) :: starEach es X.env) (hpl : (backTo pos (starEach es X.env)).any (·.1) = false) (h : DRs X Φ G (e :: es) ms) : DE X Φ G (.Call (.Name x p) (e :: es) [] pos) (.bi b ms) := by
  refine PE.imp (pe_callTy hc hg hm hv h hn hdb he hpl) fun σ H Q h => ?_
  obtain ⟨W, S, ρ, a, r, S', ev, q⟩ := h
  rw [evR] at ev
  obtain ⟨⟨rs, S1⟩, ev1, ev⟩ := Mi.bind_some ev
  obtain ⟨z, hz, ev⟩ := map_some ev
  cases ev
  refine ⟨W, S, ρ, a, rs, _, ev1, fun W1 vs e1 r1 p1 => ?_⟩
  exact ⟨W, W1, _, rs, _, rfl, r1, p1, hz, fun W2 v e2 r2 p2 => q W2 v (e1.trans e2) r2 (p2.back e1)⟩

theorem de_isi1 {t : Ty} {m : ME} (hg : Gl X "isinstance") (hm : X.mg "isinstance" = none) (he : starEach [e, e2] X.env = (false, eval e X.env) :: starEach [e2] X.env) (he2 : starEach [e2] X.env = (false, eval e2 X.env) :: starEach [] X.env) (hpl : (backTo pos (starEach [e2] X.env)).any (·.1) = false)
    (h : DE X Φ G e m) (h2 : PE X e2 (tC (.ty (tyN t)))) : DE X Φ G (.Call (.Name "isinstance" p) [e, e2] [] pos) (.bi (.isi1 t) (.cons m .nil)) := by
  refine PE.imp (pe_callB (bi_isi1 t) hg hm (by decide +kernel) (pa_cons h (pa_cons h2 pa_nil he2) he) (by decide) (by decide) he hpl) fun σ H Q h => ?_
  obtain ⟨W, S, ρ, a, r, S', ev, q⟩ := h
  rw [evR] at ev
  obtain ⟨⟨rs, S1⟩, ev1, ev⟩ := Mi.bind_some ev
  obtain ⟨z, hz, ev⟩ := map_some ev
  cases ev
  rw [evRs] at ev1
  obtain ⟨⟨x, S1⟩, ev3, ev2⟩ := Mi.bind_some ev1
  rw [evRs] at ev2
  cases ev2
  change (if refD _ x = true then none else some (Rt.val (.bl (tyR x t)))) = some _ at hz
  split at hz
  · cases hz
  rename_i hd
  cases hz
  refine ⟨W, S, ρ, a, x, _, ev3, fun W1 v e1 r1 p1 => ?_⟩
  exact ⟨W, W1, _, v, x, rfl, r1, rfl, p1, by simpa using hd, q W1 _ e1 r1 bl_repr⟩

theorem de_isi {ts : List Ty} {m : ME} (hg : Gl X "isinstance") (hm : X.mg "isinstance" = none) (he : starEach [e, e2] X.env = (false, eval e X.env) :: starEach [e2] X.env) (he2 : starEach [e2] X.env = (false, eval e2 X.env) :: starEach [] X.env) (hpl : (backTo pos (starEach [e2] X.env)).any (·.1) = false)
    (h : DE X Φ G e m) (h2 : PE X e2 (fun _ H Q => ∀ p, H p = none → Q (.ref p) (upd H p (.tup (ts.map fun t => .ty (tyN t)))))) : DE X Φ G (.Call (.Name "isinstance" p) [e, e2] [] pos) (.bi (.isi ts) (.cons m .nil)) := by
  refine PE.imp (pe_callB (bi_isi ts) hg hm (by decide +kernel) (pa_cons h (pa_cons h2 pa_nil he2) he) (by decide) (by decide) he hpl) fun σ H Q h => ?_
  obtain ⟨W, S, ρ, a, r, S', ev, q⟩ := h
  rw [evR] at ev
  obtain ⟨⟨rs, S1⟩, ev1, ev⟩ := Mi.bind_some ev
  obtain ⟨z, hz, ev⟩ := map_some ev
  cases ev
  rw [evRs] at ev1
  obtain ⟨⟨x, S1⟩, ev3, ev2⟩ := Mi.bind_some ev1
  rw [evRs] at ev2
  cases ev2
  change (if refD _ x = true then none else some (Rt.val (.bl (ts.any fun t => tyR x t)))) = some _ at hz
  split at hz
  · cases hz
  rename_i hd
  cases hz
  refine ⟨W, S, ρ, a, x, _, ev3, fun W1 v e1 r1 p1 p hp => ?_⟩
  have e2 : Ext W1 ⟨W1.ms, W1.fz, upd W1.H p (.tup (ts.map fun t => .ty (tyN t)))⟩ := Ext.laid hp
  exact ⟨W, ⟨W1.ms, W1.fz, _⟩, _, v, p, x, rfl, r1.laid hp, rfl, upd_same, p1.ext r1 e2, by simpa using hd, q ⟨W1.ms, W1.fz, _⟩ _ (e1.trans e2) (r1.laid hp) bl_repr⟩
end
end Mi
end
noncomputable section
namespace Mi
open PySem PySem.Spec L2
section
open PyProof.Rows
variable {prog : Program} {w : World} {A : Around} {E : Value → Shared → Prop} {s : Shared}
end
section
variable {X : Cx}
end
end Mi
end
noncomputable section
namespace Mi
open PySem PySem.Spec L2
mutual
noncomputable def slotsT : MT → List Nat
  | .nm i => [i]
  | .sub _ _ => []
  | .tp ts => slotsTs ts
  | .cut _ _ => []
  | .key _ _ => []
noncomputable def slotsTs : MTs → List Nat
  | .nil => []
  | .cons t ts => slotsT t ++ slotsTs ts
end

noncomputable def Apart (σ σ' : St) (is : List Nat) : Prop := σ'.length = σ.length ∧ ∀ j, j ∉ is → σ'[j]? = σ[j]?
theorem Apart.refl (σ : St) (is : List Nat) : Apart σ σ is := ⟨rfl, fun _ _ => rfl⟩
theorem Apart.trans {σ σ1 σ2 : St} {is js : List Nat} (a : Apart σ σ1 is) (b : Apart σ1 σ2 js) : Apart σ σ2 (is ++ js) :=
  ⟨b.1.trans a.1, fun j h => (b.2 j fun z => h (List.mem_append_right _ z)).trans (a.2 j fun z => h (List.mem_append_left _ z))⟩
section
variable (K : PySem.W.Frag) (Φ : Fns) (G : List D)

noncomputable def Stored (W : Wd) (σ : St) (ρ : Env) (is : List Nat) (S' : Sto) (ρ' : Env) (Q : St → Hp → Prop) : Prop :=
  ∀ W' σ', Ext W W' → At K W' S' ρ' σ' W'.H → (∀ p, ownA σ' ρ' p → ownA σ ρ p) → Apart σ σ' is → Q σ' W'.H
noncomputable def gT (t : MT) : TG := fun x σ H Q => ∃ W S ρ d, At K W S ρ σ H ∧ Rep K W d x ∧ ∃ ρ' S', sto Φ G t d ρ S = some (ρ', S') ∧ Stored K W σ ρ (slotsT t) S' ρ' Q
noncomputable def gTs (ts : MTs) : TGs := fun xs σ H Q => ∃ W S ρ ds, At K W S ρ σ H ∧ RepL K W ds xs ∧ ∃ ρ' S', stos Φ G ts ds ρ S = some (ρ', S') ∧ Stored K W σ ρ (slotsTs ts) S' ρ' Q
end
section
variable {K : PySem.W.Frag} {W W' : Wd} {S S' : Sto} {ρ : Env} {σ : St} {H : Hp}
theorem SlotR.set {i : Nat} {d : D} {v : V} (h : SlotR K W σ ρ) (hi : i < ρ.length) (r : Rep K W d v) : SlotR K W (σ.set i (some v)) (ρ.set i (.val d)) := by
  have hiσ : i < σ.length := by rw [h.1]; exact hi
  have back : ∀ {j : Nat} {ds : List D}, (ρ.set i (.val d))[j]? = some (.own ds) → j ≠ i ∧ ρ[j]? = some (.own ds) := fun {j ds} e => by
    by_cases q : j = i
    · subst q; rw [List.getElem?_set_self hi] at e; cases e
    · rw [List.getElem?_set_ne (Ne.symm q)] at e; exact ⟨q, e⟩
  refine ⟨by rw [List.length_set, List.length_set]; exact h.1, fun j d' e => ?_, fun j ds e => ?_, fun j k ds es p e1 e2 e3 e4 => ?_⟩
  · by_cases q : j = i
    · subst q
      rw [List.getElem?_set_self hi] at e
      cases e
      exact ⟨v, List.getElem?_set_self hiσ, r⟩
    · rw [List.getElem?_set_ne (Ne.symm q)] at e
      obtain ⟨w, h1, h2⟩ := h.2.1 j d' e
      exact ⟨w, by rw [List.getElem?_set_ne (Ne.symm q)]; exact h1, h2⟩
  · obtain ⟨q, e⟩ := back e
    obtain ⟨p, vs, h1, h2⟩ := h.2.2.1 j ds e
    exact ⟨p, vs, by rw [List.getElem?_set_ne (Ne.symm q)]; exact h1, h2⟩
  · obtain ⟨q1, f1⟩ := back e1
    obtain ⟨q2, f2⟩ := back e2
    rw [List.getElem?_set_ne (Ne.symm q1)] at e3
    rw [List.getElem?_set_ne (Ne.symm q2)] at e4
    exact h.2.2.2 j k ds es p f1 f2 e3 e4
theorem own_set {i : Nat} {d : D} {v : V} {p : Addr} (hi : i < ρ.length) (h : ownA (σ.set i (some v)) (ρ.set i (.val d)) p) : ownA σ ρ p := by
  obtain ⟨j, ds, h1, h2⟩ := h
  by_cases q : j = i
  · subst q; rw [List.getElem?_set_self hi] at h1; cases h1
  · rw [List.getElem?_set_ne (Ne.symm q)] at h1 h2
    exact ⟨j, ds, h1, h2⟩

theorem Ext.put {l : Nat} {p : Addr} {o : HO} (r : Rel K W S) (h : W.ms[l]? = some p) : Ext W ⟨W.ms, W.fz, upd W.H p o⟩ := by
  have hp : p ∈ W.ms := List.mem_of_getElem? h
  refine ⟨⟨[], by simp⟩, fun _ z => z, fun a u e n => ?_, fun a z => ?_, fun _ z => .inl z, fun _ z => .inl z⟩
  · show upd W.H p o a = _
    rw [upd_ne (fun z => n (by rw [z]; exact hp))]; exact e
  · show upd W.H p o a ≠ none
    by_cases q : a = p
    · subst q; rw [upd_same]; simp
    · rw [upd_ne q]; exact z
theorem Rel.putC {l : Nat} {p : Addr} {o : HO} {c : Cell} (r : Rel K W S) (h : W.ms[l]? = some p) (hc : CellOk K ⟨W.ms, W.fz, upd W.H p o⟩ p c) : Rel K ⟨W.ms, W.fz, upd W.H p o⟩ (S.set l c) := by
  have e : Ext W ⟨W.ms, W.fz, upd W.H p o⟩ := Ext.put r h
  have hlt : l < S.length := by rw [← r.len]; exact (List.getElem?_eq_some_iff.mp h).1
  refine ⟨by rw [List.length_set]; exact r.len, r.nd, fun k c' q => ?_, r.apart, fun a ha => e.dom a (r.dom a ha)⟩
  by_cases hk : k = l
  · subst hk
    rw [List.getElem?_set_self hlt] at q
    cases q
    exact ⟨p, h, hc⟩
  · rw [List.getElem?_set_ne (Ne.symm hk)] at q
    obtain ⟨a, h1, ok⟩ := r.cell k c' q
    refine ⟨a, h1, ok.imp (fun o' h2 => ?_) (RepL.ext r e) fun c o hx z => (upd_ne (fun e => r.notAux hx z (by subst e; exact List.mem_of_getElem? h))).trans z⟩
    show upd W.H p o a = _
    rw [upd_ne ?_]
    · exact h2
    · intro z
      subst z
      obtain ⟨b1, c1⟩ := List.getElem?_eq_some_iff.mp h
      obtain ⟨b2, c2⟩ := List.getElem?_eq_some_iff.mp h1
      exact hk ((List.getElem_inj r.nd).mp (c2.trans c1.symm))
theorem Rel.put {l : Nat} {p : Addr} {ds : List D} {vs : List V} (r : Rel K W S) (h : W.ms[l]? = some p) (hl : RepL K W ds vs) : Rel K ⟨W.ms, W.fz, upd W.H p (.lst vs)⟩ (S.set l (.lst ds)) :=
  r.putC h ⟨vs, upd_same, RepL.ext r (Ext.put r h) ds vs hl⟩
theorem any_zip {q : Key} : ∀ {ks : List Key} {vs : List V}, ks.length = vs.length → ((ks.zip vs).any fun kv => decide (kv.1 = q)) = ks.any fun k => decide (k = q)
  | [], [], _ => rfl
  | [], _ :: _, e => by cases e
  | _ :: _, [], e => by cases e
  | k :: ks, v :: vs, h => by
    rw [List.zip_cons_cons, List.any_cons, any_zip (by simpa using h), List.any_cons]
theorem set_zip {q : Key} {d : D} {v : V} (hv : Rep K W d v) : ∀ {ks : List Key} {ds : List D} {vs : List V}, ks.length = ds.length → RepL K W ds vs → ∃ ws, (ks.zip vs).map (fun kv => if kv.1 = q then (kv.1, v) else kv) = ks.zip ws ∧ ks.length = (setD ks ds q d).length ∧ RepL K W (setD ks ds q d) ws
  | [], [], vs, _, h => by
    rw [h.nil_inv]
    exact ⟨[], rfl, rfl, .nil⟩
  | [], _ :: _, _, e, _ => by cases e
  | _ :: _, [], _, e, _ => by cases e
  | k :: ks, e :: ds, _, hl, h => by
    obtain ⟨w, r, rfl, h1, h2⟩ := h.cons_inv
    obtain ⟨ws, e1, e2, e3⟩ := set_zip hv (q := q) (show ks.length = ds.length by simpa using hl) h2
    rw [List.zip_cons_cons, List.map_cons, e1]
    by_cases hk : k = q
    · refine ⟨v :: ws, by rw [if_pos hk]; rfl, by rw [setD, List.length_cons, List.length_cons, ← e2], ?_⟩
      rw [setD, if_pos hk]; exact .cons hv e3
    · refine ⟨w :: ws, by rw [if_neg hk]; rfl, by rw [setD, List.length_cons, List.length_cons, ← e2], ?_⟩
      rw [setD, if_neg hk]; exact .cons h1 e3
theorem putK_zip {q : Key} {d : D} {v : V} (hv : Rep K W d v) {ks : List Key} {ds : List D} {vs : List V} (hl : ks.length = ds.length) (h : RepL K W ds vs) : ∃ ws, L2.putK (ks.zip vs) q v = (putD ks ds q d).1.zip ws ∧ (putD ks ds q d).1.length = (putD ks ds q d).2.length ∧ RepL K W (putD ks ds q d).2 ws := by
  have hlv : ks.length = vs.length := by rw [h.length]; exact hl
  unfold L2.putK putD
  rw [any_zip hlv]
  by_cases hq : (ks.any fun k => decide (k = q)) = true
  · rw [if_pos hq, if_pos hq]
    exact set_zip hv hl h
  · rw [if_neg hq, if_neg hq]
    refine ⟨vs ++ [v], ?_, by simp [hl], h.append (.cons hv .nil)⟩
    show ks.zip vs ++ [(q, v)] = (ks ++ [q]).zip (vs ++ [v])
    rw [List.zip_append hlv]; rfl
end
section
variable {X : Cx} {Φ : Fns} {G : List D} {e e1 e2 tg : Expr} {pos p : Pos}
theorem PG.imp {X : Cx} {tg : Expr} {t t' : TG} (h : PG X tg t) (i : ∀ x σ H Q, t' x σ H Q → t x σ H Q) : PG X tg t' := ⟨fun pins s σ H x u Q I r q => h.run pins s σ H x u Q I r (i x σ H Q q)⟩
theorem PGs.imp {X : Cx} {tg : List Expr} {t t' : TGs} (h : PGs X tg t) (i : ∀ x σ H Q, t' x σ H Q → t x σ H Q) : PGs X tg t' := ⟨fun pins s σ H x u Q I r q => h.run pins s σ H x u Q I r (i x σ H Q q)⟩
abbrev DG (X : Cx) (Φ : Fns) (G : List D) (e : Expr) (m : MT) : Prop := PG X e (gT X.K Φ G m)
abbrev DGs (X : Cx) (Φ : Fns) (G : List D) (e : List Expr) (m : MTs) : Prop := PGs X e (gTs X.K Φ G m)
theorem dg_nm {i : Nat} {x : Str} (hN : X.N.Nodup) (hi : X.N[i]? = some x) (hx : Loc X.env.scope x) (hf : X.fn x = true ∨ X.env.scope.names.lookup x = some .local) : DG X Φ G (.Name x pos) (.nm i) := by
  refine PG.imp (pg_name hN hi hx hf) fun v σ H Q h => ?_
  obtain ⟨W, S, ρ, d, a, r, ρ', S', ev, q⟩ := h
  rw [sto] at ev
  split at ev
  · rename_i hi
    cases ev
    have := q W (σ.set i (some v)) (Ext.refl W) ⟨rfl, a.rel, a.sl.set hi r⟩ (fun p => own_set hi) ⟨by rw [List.length_set], fun j hj => by
      rw [List.getElem?_set_ne]; intro z; exact hj (by rw [z]; exact List.mem_singleton.mpr rfl)⟩
    rw [a.1] at this; exact this
  · cases ev
theorem dg_nil : DGs X Φ G [] .nil := by
  refine PGs.imp pgs_nil fun vs σ H Q h => ?_
  obtain ⟨W, S, ρ, ds, a, r, ρ', S', ev, q⟩ := h
  cases ds with
  | cons _ _ => cases (show (none : Option (Env × Sto)) = some (ρ', S') from ev)
  | nil =>
    have ev : some (ρ, S) = some (ρ', S') := ev
    cases ev
    refine ⟨r.nil_inv, ?_⟩
    have := q W σ (Ext.refl W) ⟨rfl, a.rel, a.sl⟩ (fun _ z => z) (Apart.refl σ _)
    rw [a.1] at this; exact this
theorem dg_cons {es : List Expr} {t : MT} {ts : MTs} (h1 : DG X Φ G e t) (h2 : DGs X Φ G es ts) (hc : ∀ (t : TG) (u : TGs), PG X e t → PGs X es u → PGs X (e :: es) (gCons t u)) : DGs X Φ G (e :: es) (.cons t ts) := by
  refine PGs.imp (hc _ _ h1 h2) fun vs σ H Q h => ?_
  obtain ⟨W, S, ρ, ds, a, r, ρ', S', ev, q⟩ := h
  cases ds with
  | nil => cases (show (none : Option (Env × Sto)) = some (ρ', S') from ev)
  | cons d ds =>
    have ev : ((sto Φ G t d ρ S).bind fun p => stos Φ G ts ds p.1 p.2) = some (ρ', S') := ev
    obtain ⟨⟨ρ1, S1⟩, ev1, ev⟩ := Mi.bind_some ev
    obtain ⟨v, us, rfl, r1, r2⟩ := r.cons_inv
    refine ⟨v, us, rfl, W, S, ρ, d, a, r1, ρ1, S1, ev1, fun W1 σ1 e1 a1 o1 p1 => ?_⟩
    refine ⟨W1, S1, ρ1, ds, a1, RepL.ext a.rel e1 _ _ r2, ρ', S', ev, fun W2 σ2 e2 a2 o2 p2 => ?_⟩
    exact q W2 σ2 (e1.trans e2) a2 (fun p z => o1 p (o2 p z)) (p1.trans p2)
theorem pgOr {t1 t2 : TG} (h1 : PG X tg t1) (h2 : PG X tg t2) : PG X tg (fun x σ H Q => t1 x σ H Q ∨ t2 x σ H Q) := ⟨fun pins s σ H x u Q I r q => q.elim (h1.run pins s σ H x u Q I r) (h2.run pins s σ H x u Q I r)⟩
theorem dg_tup {es : List Expr} {k : Nat} {ts : MTs} (hc : ∀ t : TGs, PGs X es t → PG X (.Tuple es k pos) (gTup X.K es.length t)) (hc2 : ∀ t : TGs, PGs X es t → PG X (.Tuple es k pos) (gLst X.K es.length t)) (hl : ∀ ds ρ S ρ' S', stos Φ G ts ds ρ S = some (ρ', S') → ds.length = es.length) (h : DGs X Φ G es ts) : DG X Φ G (.Tuple es k pos) (.tp ts) := by
  refine PG.imp (pgOr (hc _ h) (hc2 _ h)) fun v σ H Q h => ?_
  obtain ⟨W, S, ρ, d, a, r, ρ', S', ev, q⟩ := h
  cases d with
  | ref l =>
    have ev : ((cellL S l).bind fun ds => stos Φ G ts ds ρ S) = some (ρ', S') := ev
    obtain ⟨ds, hcell, ev⟩ := Mi.bind_some ev
    unfold Rep at r
    obtain ⟨p, rfl, hms⟩ := r
    obtain ⟨b, vs, h1, h2, h3⟩ := a.rel.cells l ds (cellL_some hcell)
    rw [hms] at h1; cases h1
    have hs : SqL X.K H p vs := by rw [← a.1]; exact .inl (.inl h2)
    exact .inr ⟨p, vs, rfl, hs, by rw [h3.length]; exact hl _ _ _ _ _ ev, W, S, ρ, ds, a, h3, ρ', S', ev, q⟩
  | tup ds =>
    have ev : stos Φ G ts ds ρ S = some (ρ', S') := ev
    unfold Rep at r
    obtain ⟨p, vs, rfl, hs, l⟩ := r
    have hs' := hs
    rw [a.1] at hs'
    exact .inl ⟨p, vs, rfl, hs', by rw [l.length]; exact hl _ _ _ _ _ ev, W, S, ρ, ds, a, l, ρ', S', ev, q⟩
  | _ => cases (show (none : Option (Env × Sto)) = some (ρ', S') from ev)
noncomputable def rSetB : TSet := fun o i v H Q => rSetL o i v H Q ∨ rSetD o i v H Q
theorem set_both (hu : X.A.units + 1 < cLine) : PSet X rSetB := by
  intro pins s σ H o i v ov iv u Q I ro ri rv h
  rcases h with h | h
  · exact set_list pins s σ H o i v ov iv u Q I ro ri rv h
  · exact set_dict hu pins s σ H o i v ov iv u Q I ro ri rv h
theorem dg_sub {o i : Expr} {mo mi : ME} (hu : X.A.units + 1 < cLine) (hc : ∀ (to ti : TE) (t : TSet), PE X o to → PE X i ti → PSet X t → PG X (.Subscript o i pos) (gSub to ti t)) (ho : DE X Φ G o mo) (hi : DE X Φ G i mi) : DG X Φ G (.Subscript o i pos) (.sub mo mi) := by
  refine PG.imp (hc _ _ _ ho hi (set_both hu)) fun v σ H Q h => ?_
  obtain ⟨W, S, ρ, d, a, r, ρ', S', ev, q⟩ := h
  rw [sto] at ev
  obtain ⟨⟨x, S1⟩, ev1, ev⟩ := Mi.bind_some ev
  obtain ⟨⟨y, S2⟩, ev2, ev⟩ := Mi.bind_some ev
  refine ⟨W, S, ρ, a, x, S1, ev1, fun W1 v1 e1 r1 p1 => ?_⟩
  have a1 := a.ext e1 r1
  refine ⟨W1, S1, ρ, a1, y, S2, ev2, fun W2 v2 e2 r2 p2 => ?_⟩
  obtain ⟨l, hl, ev⟩ := Mi.bind_some ev
  obtain ⟨S3, hs, ev⟩ := map_some ev
  cases ev
  have hx : x = .val (.ref l) := ref?_some hl
  subst hx
  have p1' : Rep X.K W2 (.ref l) v1 := p1.ext r1 e2
  unfold Rep at p1'
  obtain ⟨ad, rfl, hms⟩ := p1'
  have rv : Rep X.K W2 d v := Rep.ext r1 e2 _ _ (Rep.ext a.rel e1 _ _ r)
  unfold setAt at hs
  split at hs
  · obtain ⟨k, hk, hs⟩ := Mi.bind_some hs
    unfold setDct at hs
    obtain ⟨⟨ks, ds⟩, hcell, hs⟩ := Mi.bind_some hs
    dsimp only at hs
    split at hs
    · rename_i hsz
      cases hs
      obtain ⟨b, vs, h1, h2, h0, h3⟩ := r2.celld l ks ds (cellD_some hcell)
      rw [hms] at h1; cases h1
      have g3 := key_repr p2 hk
      subst g3
      obtain ⟨ws, f1, f2, f3⟩ := putK_zip rv (q := k) h0 h3
      refine .inr ⟨ad, upd W2.H ad (.dK (L2.putK (ks.zip vs) k v)), rfl, DPut.k h2 (by rw [List.length_zip, h3.length, ← h0]; simpa using hsz), ?_⟩
      have e3 : Ext W2 ⟨W2.ms, W2.fz, upd W2.H ad (.dK (L2.putK (ks.zip vs) k v))⟩ := Ext.put r2 hms
      have r3 : Rel X.K ⟨W2.ms, W2.fz, upd W2.H ad (.dK (L2.putK (ks.zip vs) k v))⟩ (S2.set l (.dct (putD ks ds k d).1 (putD ks ds k d).2)) := r2.putC hms ⟨ws, by rw [← f1]; exact upd_same, f2, RepL.ext r2 e3 _ _ f3⟩
      exact q ⟨W2.ms, W2.fz, _⟩ σ ((e1.trans e2).trans e3) ((a1.ext e2 r2).ext e3 r3) (fun _ z => z) (Apart.refl σ _)
    · cases hs
  · obtain ⟨k, hk, hs⟩ := Mi.bind_some hs
    have hy : y = .val (.int k) := int?_some hk
    subst hy
    unfold setRef at hs
    obtain ⟨ds, hcell, hs⟩ := Mi.bind_some hs
    obtain ⟨j, hj, hs⟩ := map_some hs
    subst hs
    obtain ⟨b, vs, h1, h2, h3⟩ := r2.cells l ds (cellL_some hcell)
    rw [hms] at h1; cases h1
    refine .inl ⟨ad, vs, k, j, rfl, repr_int p2, h2, by rw [h3.length]; exact hj, ?_⟩
    have e3 : Ext W2 ⟨W2.ms, W2.fz, upd W2.H ad (.lst (vs.set j v))⟩ := Ext.put r2 hms
    have r3 := r2.put hms (h3.set rv j)
    exact q ⟨W2.ms, W2.fz, _⟩ σ ((e1.trans e2).trans e3) ((a1.ext e2 r2).ext e3 r3) (fun _ z => z) (Apart.refl σ _)
theorem Step.put {W : Wd} {p : Addr} {o : HO} : Step (fun a => a = p) W ⟨W.ms, W.fz, upd W.H p o⟩ := by
  refine ⟨⟨[], by simp⟩, fun _ z => z, fun a u e _ n => ?_, fun a z => ?_, fun _ z => .inl z, fun _ z => .inl z⟩
  · show upd W.H p o a = _
    rw [upd_ne n]; exact e
  · show upd W.H p o a ≠ none
    by_cases q : a = p
    · subst q; rw [upd_same]; simp
    · rw [upd_ne q]; exact z
theorem Rel.putO {K : PySem.W.Frag} {W : Wd} {S : Sto} {p : Addr} {vs : List V} {o : HO} (r : Rel K W S) (h1 : p ∉ W.ms) (h2 : p ∉ W.fz) (h3 : W.H p = some (.lst vs)) : Rel K ⟨W.ms, W.fz, upd W.H p o⟩ S := by
  have ok : OOk (fun a => a = p) W := fun a e => by subst e; exact ⟨h2, vs, h3⟩
  have st : Step (fun a => a = p) W ⟨W.ms, W.fz, upd W.H p o⟩ := Step.put
  refine ⟨r.len, r.nd, fun l c q => ?_, r.apart, fun a ha => st.dom a (r.dom a ha)⟩
  obtain ⟨a, e1, okc⟩ := r.cell l c q
  refine ⟨a, e1, okc.imp (fun o' e2 => ?_) (RepL.step r ok st) fun c q hx z => (upd_ne (fun e => by subst e; rw [h3] at z; rcases hx with ⟨q, rfl⟩ | ⟨fs, rfl⟩; exact code_lst (Option.some.inj z); cases z)).trans z⟩
  show upd W.H p o a = _
  rw [upd_ne]
  · exact e2
  · intro z; subst z; exact h1 (List.mem_of_getElem? e1)
theorem Ext.at {W W' : Wd} {p : Addr} {o : HO} (e : Ext W W') (h : W.H p = none) : Ext W ⟨W'.ms, W'.fz, upd W'.H p o⟩ := by
  refine ⟨e.ms, e.fz, fun a u q n => ?_, fun a z => ?_, e.nms, e.nfz⟩
  · show upd W'.H p o a = _
    rw [upd_ne (ne_of_none q h)]; exact e.keep a u q n
  · show upd W'.H p o a ≠ none
    by_cases q : a = p
    · subst q; rw [upd_same]; simp
    · rw [upd_ne q]; exact e.dom a z

theorem wipe_get : ∀ {σ : St} {vs : List Nat} {j : Nat}, (wipe σ vs)[j]? = if j ∈ vs ∧ j < σ.length then some none else σ[j]?
  | σ, [], j => by simp [wipe]
  | σ, v :: vs, j => by
    unfold wipe
    by_cases q : v = j
    · subst q
      by_cases hv : v < σ.length
      · rw [List.getElem?_set_self (by rw [wipe_length]; exact hv), if_pos ⟨List.mem_cons_self, hv⟩]
      · rw [if_neg (fun z => hv z.2), List.getElem?_eq_none (by rw [List.length_set, wipe_length]; omega), List.getElem?_eq_none (by omega)]
    · rw [List.getElem?_set_ne q, wipe_get]
      have : (j ∈ v :: vs ∧ j < σ.length) ↔ (j ∈ vs ∧ j < σ.length) := by
        rw [List.mem_cons]; constructor
        · rintro ⟨h | h, h2⟩
          · exact absurd h.symm q
          · exact ⟨h, h2⟩
        · rintro ⟨h, h2⟩; exact ⟨.inr h, h2⟩
      by_cases c : j ∈ vs ∧ j < σ.length
      · rw [if_pos c, if_pos (this.mpr c)]
      · rw [if_neg c, if_neg (fun z => c (this.mp z))]
theorem wipe_eq {σ σ' : St} {vs is : List Nat} (h : Apart (wipe σ vs) σ' is) (hs : ∀ i ∈ is, i ∈ vs) : wipe σ' vs = wipe σ vs := by
  apply List.ext_getElem?
  intro j
  have hl : σ'.length = σ.length := h.1.trans (wipe_length σ vs)
  rw [wipe_get, wipe_get, hl]
  by_cases c : j ∈ vs ∧ j < σ.length
  · rw [if_pos c, if_pos c]
  · rw [if_neg c, if_neg c]
    by_cases m : j ∈ vs
    · have : ¬ j < σ.length := fun z => c ⟨m, z⟩
      rw [List.getElem?_eq_none (by omega), List.getElem?_eq_none (by omega)]
    · rw [h.2 j fun z => m (hs j z), wipe_get, if_neg c]
theorem wipeR_get : ∀ {ρ : Env} {vs : List Nat} {j : Nat} {x : Sl}, (wipeR ρ vs)[j]? = some x → x = .no ∨ (ρ[j]? = some x ∧ (j ∉ vs ∨ ρ.length ≤ j))
  | ρ, [], j, x, h => .inr ⟨h, .inl (by simp)⟩
  | ρ, v :: vs, j, x, h => by
    unfold wipeR at h
    by_cases q : v = j
    · subst q
      by_cases hv : v < (wipeR ρ vs).length
      · rw [List.getElem?_set_self hv] at h; cases h; exact .inl rfl
      · rw [List.getElem?_eq_none (by rw [List.length_set]; omega)] at h; cases h
    · rw [List.getElem?_set_ne q] at h
      rcases wipeR_get h with h | ⟨h, h2⟩
      · exact .inl h
      · refine .inr ⟨h, ?_⟩
        rcases h2 with h2 | h2
        · exact .inl fun z => (List.mem_cons.mp z).elim (fun e => q e.symm) h2
        · exact .inr h2
theorem wipeR_len : ∀ {ρ : Env} {vs : List Nat}, (wipeR ρ vs).length = ρ.length
  | ρ, [] => rfl
  | ρ, v :: vs => by unfold wipeR; rw [List.length_set, wipeR_len]
theorem SlotR.wipe {K : PySem.W.Frag} {W : Wd} {σ : St} {ρ : Env} {vs : List Nat} (h : SlotR K W σ ρ) : SlotR K W (wipe σ vs) (wipeR ρ vs) := by
  have back : ∀ {j : Nat} {x : Sl}, (wipeR ρ vs)[j]? = some x → x ≠ .no → ρ[j]? = some x ∧ (L2.wipe σ vs)[j]? = σ[j]? := fun {j x} e n => by
    rcases wipeR_get e with z | ⟨z, m⟩
    · exact absurd z n
    · refine ⟨z, ?_⟩
      rw [wipe_get, if_neg]
      rintro ⟨m1, m2⟩
      rcases m with m | m
      · exact m m1
      · rw [h.1] at m2; omega
  refine ⟨by rw [wipe_length, wipeR_len]; exact h.1, fun j d e => ?_, fun j ds e => ?_, fun j k ds es p e1 e2 e3 e4 => ?_⟩
  · obtain ⟨f, g⟩ := back e (by simp)
    rw [g]; exact h.2.1 j d f
  · obtain ⟨f, g⟩ := back e (by simp)
    rw [g]; exact h.2.2.1 j ds f
  · obtain ⟨f1, g1⟩ := back e1 (by simp)
    obtain ⟨f2, g2⟩ := back e2 (by simp)
    rw [g1] at e3; rw [g2] at e4
    exact h.2.2.2 j k ds es p f1 f2 e3 e4

noncomputable def tC' (K : PySem.W.Frag) (Φ : Fns) (G : List D) (m : MO) : TT := fun σ H Q => ∃ W S ρ, At K W S ρ σ H ∧ ∃ b S', evC Φ G ρ m S = some (b, S') ∧ ∀ W', Ext W W' → Rel K W' S' → Q b W'.H
abbrev DC (X : Cx) (Φ : Fns) (G : List D) (e : List Expr) (m : MO) : Prop := PTs X e (tC' X.K Φ G m)
theorem PTs.imp {X : Cx} {e : List Expr} {t t' : TT} (h : PTs X e t) (i : ∀ σ H Q, t' σ H Q → t σ H Q) : PTs X e t' := ⟨fun pins s σ H Q I q => h.run pins s σ H Q I (i σ H Q q)⟩
theorem dc_no : DC X Φ G [] .no := by
  refine PTs.imp pts_nil fun σ H Q h => ?_
  obtain ⟨W, S, ρ, a, b, S', ev, q⟩ := h
  rw [evC] at ev
  cases ev
  have := q W (Ext.refl W) a.rel
  rw [a.1] at this; exact this
theorem dc_yes {m : ME} (h : DT X Φ G e m) : DC X Φ G [e] (.yes m) := by
  refine PTs.imp (pts_one h) fun σ H Q h => ?_
  obtain ⟨W, S, ρ, a, b, S', ev, q⟩ := h
  rw [evC] at ev
  obtain ⟨⟨x, S1⟩, ev1, ev⟩ := Mi.bind_some ev
  dsimp only at ev
  split at ev
  · cases ev
    exact ⟨W, S, ρ, a, _, _, ev1, q⟩
  · cases ev

theorem lc_imp {K : PySem.W.Frag} {own : List Nat} {t : MT} {it : MI} {c : MO} {m : ME} (ho : ∀ i ∈ slotsT t, i ∈ own) {σ : St} {H : Hp} {Q : VK} (h : tR K Φ G (.comp own t it c m) σ H Q) :
    tLc (tI K Φ G true it) (gT K Φ G t) (tC' K Φ G c) (tR K Φ G m) own σ H Q := by
  obtain ⟨W, S, ρ, a, r, S', ev, q⟩ := h
  rw [evR] at ev
  obtain ⟨⟨ds, S1⟩, ev1, ev⟩ := Mi.bind_some ev
  obtain ⟨⟨xs, S2⟩, ev2, ev⟩ := Mi.bind_some ev
  dsimp only at ev ev2
  split at ev
  · rename_i hz
    cases ev
    refine ⟨W, S, ρ, a, ds, S1, ev1, fun W1 J e1 r1 ok => ?_⟩
    intro D hD

    refine ⟨fun i mm H => mm = ds.length - i ∧ ∃ W2 S2 acc vs todo, W2.H = H ∧ Ext W1 W2 ∧ Rel K W2 S2 ∧ i ≤ ds.length ∧ W2.H D = some (.lst vs) ∧ D ∉ W2.ms ∧ D ∉ W2.fz ∧ RepL K W2 acc vs ∧ cmpL (fun d S => (sto Φ G t d (wipeR ρ own) S).bind fun q => (evC Φ G q.1 c q.2).bind fun r =>
        if r.1 then (evR Φ G q.1 m r.2).bind fun z => (z.1.d).map fun y => (some y, z.2) else some (none, r.2)) (ds.drop i) S2 = some (todo, S') ∧ acc ++ todo = xs, ⟨ds.length, by simp, ⟨W1.ms, W1.fz, upd W1.H D (.lst [])⟩, S1, [], [], xs, rfl, Ext.laid hD, r1.laid hD, Nat.zero_le _, upd_same, (r1.pms hD).1, (r1.pms hD).2, .nil, ev2, rfl⟩, ?_⟩
    rintro i mm H2 ⟨rfl, W2, S2', acc, vs, todo, rfl, e2, r2, hi, hDv, nm, nf, racc, ev, eq⟩
    obtain ⟨turn, stop⟩ := ok W2 S2' e2.step r2
    by_cases hlt : i < ds.length
    · right
      have hd : ds[i]? = some ds[i] := List.getElem?_eq_getElem hlt
      obtain ⟨go, yl⟩ := turn i _ hd
      rw [List.drop_eq_getElem_cons hlt, cmpL] at ev
      obtain ⟨⟨y, S3⟩, ev3, ev⟩ := Mi.bind_some ev
      obtain ⟨⟨ys, S4⟩, ev4, ev⟩ := map_some ev
      obtain ⟨⟨ρ3, S5⟩, ev5, ev3⟩ := Mi.bind_some ev3
      obtain ⟨⟨b, S6⟩, ev6, ev3⟩ := Mi.bind_some ev3
      refine ⟨go, _, fun H' z => ⟨ds.length - (i + 1), by omega, rfl, z⟩, fun x H' hy => ?_⟩
      obtain ⟨W3, rfl, e3, r3, rp⟩ := yl x H' hy
      have e13 := e2.trans e3
      have a3 : At K W3 S2' (wipeR ρ own) (wipe σ own) W3.H := ⟨rfl, r3, ((a.ext e1 r1).ext e13 r3).sl.wipe⟩
      refine ⟨W3, S2', _, _, a3, rp, ρ3, S5, ev5, fun W4 σ4 e4 a4 o4 p4 => ⟨wipe_eq p4 ho, ?_⟩⟩
      refine ⟨W4, S5, ρ3, a4, b, S6, ev6, fun W5 e5 r5 => ?_⟩
      have e25 := (e3.trans e4).trans e5
      have keepD : ∀ {W' : Wd}, Ext W2 W' → W'.H D = some (.lst vs) ∧ D ∉ W'.ms ∧ D ∉ W'.fz := fun {W'} z => by
        refine ⟨z.keep D _ hDv nm, fun k => ?_, fun k => ?_⟩
        · rcases z.nms D k with u | u
          · exact nm u
          · rw [hDv] at u; cases u
        · rcases z.nfz D k with u | u
          · exact nf u
          · rw [hDv] at u; cases u
      cases b with
      | false =>
        dsimp only at ev3
        rw [if_neg (by decide)] at ev3
        cases ev3
        refine iteF ?_
        obtain ⟨k1, k2, k3⟩ := keepD e25
        refine ⟨W5, _, acc, vs, ys, rfl, e2.trans e25, r5, hlt, k1, k2, k3, RepL.ext r2 e25 _ _ racc, ?_, ?_⟩
        · cases ev; exact ev4
        · cases ev; exact eq
      | true =>
        dsimp only at ev3
        rw [if_pos rfl] at ev3
        obtain ⟨⟨z, S7⟩, ev7, ev3⟩ := Mi.bind_some ev3
        obtain ⟨dd, hdd, ev3⟩ := map_some ev3
        cases ev3
        refine iteT ?_
        refine ⟨W5, S6, ρ3, a4.ext e5 r5, z, S7, ev7, fun W6 v e6 r6 p6 => ?_⟩
        obtain ⟨W7, eH, e7, r7, p7⟩ := p6.shut r6 e6 hdd
        have e27 := e25.trans e7
        obtain ⟨k1, k2, k3⟩ := keepD e27
        rw [← eH]
        have hal : (acc ++ (dd :: ys)).length ≤ sizeLine := by
          cases ev; dsimp only at eq; rw [eq]; exact hz
        refine ⟨vs, k1, ?_, ?_⟩
        · rw [racc.length]
          rw [List.length_append, List.length_cons] at hal
          omega
        · have ok : OOk (fun a => a = D) W7 := fun a e => by subst e; exact ⟨k3, vs, k1⟩
          have st : Step (fun a => a = D) W7 ⟨W7.ms, W7.fz, upd W7.H D (.lst (vs ++ [v]))⟩ := Step.put
          have racc7 : RepL K W7 acc vs := RepL.ext r2 e27 _ _ racc
          refine ⟨⟨W7.ms, W7.fz, upd W7.H D (.lst (vs ++ [v]))⟩, S7, acc ++ [dd], vs ++ [v], ys, rfl, (e2.trans e27).at hD, r7.putO k2 k3 k1, hlt, upd_same, k2, k3, RepL.step r7 ok st _ _ (racc7.append (.cons p7 .nil)), ?_, ?_⟩
          · cases ev; exact ev4
          · cases ev
            dsimp only at eq
            rw [List.append_assoc]; exact eq
    · left
      have hi' : i = ds.length := by omega
      subst hi'
      refine ⟨stop, ?_⟩
      rw [List.drop_length, cmpL] at ev
      cases ev
      rw [List.append_nil] at eq
      subst eq
      exact q W2 _ (e1.trans e2) r2 ⟨D, vs, rfl, hDv, nm, nf, e1.free hD, racc⟩
  · cases ev
end
end Mi
end
noncomputable section
namespace Mi
open PySem PySem.Spec L2 PyProof.Rows
theorem ext_tup (l : Addr) (xs : Array Value) (n : Nat) (b : Addr) (ys : Array Value) (n2 : Nat) (dct : Option Addr) (sl : Array (Option Value)) (h0 : ¬(!xs.isEmpty && Builtin.List.listTooLong (xs.size + ys.size)) = true) (h1 : xs.size ≤ sizeLine) (h2 : xs.size + ys.size ≤ sizeLine + 1) :
    Meets (Builtin.«list.extend» ⟨[.ref l, .ref b], []⟩) (fun _ R s => s.heap.get? l = some { cls := .type "list", dict := none, data := .seq xs n, slots := #[] } ∧ s.heap.get? b = some { cls := .type "tuple", dict := dct, data := .seq ys n2, slots := sl } ∧
      R (.ok (.ret Value.none)) { s with heap := s.heap.update l (Obj.mapSeq fun x => x ++ ys), toks := s.toks }) :=
  .of_wp fun prog w A R s h => by
    obtain ⟨hp, g, d, tk, os⟩ := s
    obtain ⟨hl, hb, h⟩ := h
    have f1 := AutoSeq1.idx_int
    have f2 := AutoSeq1.sub_tuple_tuple
    have f3 := AutoSeq1.sub_list_list
    have f4 := AutoSeq1.sub_tuple_list
    have f5 := AutoSeq1.sub_list_tuple
    have hz : (xs ++ ys).size ≤ sizeLine + 1 := by rw [Array.size_append]; exact h2
    wp_walk using (wpAny_updateSeq hl rfl (hz := h1) (_hz' := hz)), AutoSeq1.wpAny_loadPart' hl, AutoSeq1.wpAny_loadPart' hb
    exact ⟨_, rfl, h⟩
noncomputable def rExtT (K : PySem.W.Frag) : V → List V → Hp → VK → Prop := fun x vs H Q => ∃ l b xs zs, x = .ref l ∧ vs = [.ref b] ∧ H l = some (.lst xs) ∧ (H b = some (.lst zs) ∨ SqT K H b zs) ∧ xs.length + zs.length ≤ sizeLine ∧ Q .non (upd H l (.lst (xs ++ zs)))
theorem mt_extT {X : Cx} : MtM X "list.extend" (rExtT X.K) := by
  intro pins s σ H x vs v us Q I rx rv h
  obtain ⟨l, b, xs, zs, rfl, rfl, hH, hB, hz, q⟩ := h
  rcases hB with hB | hB
  · exact mt_extend pins s σ H _ _ v us Q I rx rv ⟨l, b, xs, zs, rfl, rfl, hH, hB, hz, q⟩
  cases rx
  obtain ⟨u, rfl, ru⟩ := rv.one
  cases ru
  obtain ⟨z, its, n, r, hl, e⟩ := I.lstM hH
  obtain ⟨its2, r2, ⟨⟨ocls, odct, odat, osl⟩, ho, hc, n2, hd⟩, z2⟩ := I.tuple hB
  simp only at hc hd
  subst hc hd
  have hl2 : zs.length = its2.length := r2.length
  have hsz : its.toArray.size + its2.toArray.size ≤ sizeLine := by rw [List.size_toArray, List.size_toArray]; omega
  have hlong : ¬ (!its.toArray.isEmpty && Builtin.List.listTooLong (its.toArray.size + its2.toArray.size)) = true := by
    rw [notLongL hsz, Bool.and_false]
    exact Bool.false_ne_true
  refine call_meets F.slot_list_extend ⟨_, e, rfl⟩ F.entry_list_extend (F.args_list_extend_2 _ _) (ext_tup l its.toArray n b its2.toArray n2 odct osl hlong (by rw [List.size_toArray]; omega) (by omega)) ⟨e, ho, ?_⟩
  refine ⟨.non, _, I.lset (its' := its ++ its2) hH e (by simp) (r.append r2) ?_, rfl, q⟩
  rw [List.length_append]
  omega
end Mi
end
noncomputable section
namespace Mi
open PySem PySem.Spec L2
section
variable (K : PySem.W.Frag) (Φ : Fns) (G : List D)

noncomputable def ErrOk (H : Hp) (x : Exn) (cls : Value) (d : Option Addr) : Prop := ∃ C, cls = .ref C ∧ ErrC K C ∧ XSub K x.1 C ∧ (∀ n i, x.2 = some (n, i) → PySem.W.findIn K (.ref C) n = some none) ∧ match d with
  | some dd => H dd = some (.xd (xfs x.2))
  | none => xfs x.2 = []

noncomputable def RaisedAt (O : Addr → Prop) (W : Wd) (x : Exn) (ρ' : Env) (S' : Sto) : WX := fun cls d σ' H' => ∃ W', Step O W W' ∧ At K W' S' ρ' σ' H' ∧ (∀ p, ownA σ' ρ' p → O p ∨ W.H p = none) ∧ ErrOk K H' x cls d

noncomputable def RaisedIn (σ : St) (W : Wd) (x : Exn) (S' : Sto) : WX := fun cls d σ' H' => σ' = σ ∧ ∃ W', W'.H = H' ∧ Ext W W' ∧ Rel K W' S' ∧ ErrOk K H' x cls d
noncomputable def RepO (O : Addr → Prop) (W W' : Wd) (v : V) : Rt → Prop
  | .val d => Rep K W' d v
  | .own ds => ∃ p vs, v = .ref p ∧ W'.H p = some (.lst vs) ∧ p ∉ W'.ms ∧ p ∉ W'.fz ∧ (W.H p = none ∨ O p) ∧ RepL K W' ds vs
  | .bor _ => False
  | .ownd _ _ => False
end
section
variable (X : Cx) (Φ : Fns) (G : List D)
noncomputable def Out (W : Wd) (σ : St) (ρ : Env) (res : SR) (D : Ends) : Prop := match res with
  | .nx ρ' S' => ∀ W' σ', Step (ownA σ ρ) W W' → At X.K W' S' ρ' σ' W'.H → (∀ p, ownA σ' ρ' p → ownA σ ρ p ∨ W.H p = none) → D.nx σ' W'.H
  | .rt r S' => ∀ W' v, Step (ownA σ ρ) W W' → Rel X.K W' S' → RepO X.K (ownA σ ρ) W W' v r → D.rt v W'.H
  | .er => False
  | .xn x ρ' S' => Takes X (RaisedAt X.K (ownA σ ρ) W x ρ' S')
noncomputable def tS (m : MS) : TS := fun D σ H => ∃ W S ρ, At X.K W S ρ σ H ∧ Out X W σ ρ (ex Φ G m ρ S) D
noncomputable def tSs (ms : MSs) : TS := fun D σ H => ∃ W S ρ, At X.K W S ρ σ H ∧ Out X W σ ρ (exs Φ G ms ρ S) D
end
section
variable {X : Cx} {K : PySem.W.Frag} {Φ : Fns} {G : List D} {W W1 : Wd} {S : Sto} {σ σ1 : St} {ρ ρ1 : Env} {D D' : Ends} {res : SR}
theorem RaisedAt.fwd {x : Exn} {ρ' : Env} {S' : Sto} (st : Step (ownA σ ρ) W W1) (o : ∀ p, ownA σ1 ρ1 p → ownA σ ρ p ∨ W.H p = none) (t : Takes X (RaisedAt K (ownA σ ρ) W x ρ' S')) : Takes X (RaisedAt K (ownA σ1 ρ1) W1 x ρ' S') :=
  t.imp fun c d σ' H' ⟨W', s', a, o', e⟩ => ⟨W', st.trans s' o, a, fun p z => by
    rcases o' p z with y | y
    · exact o p y
    · exact .inr (st.free y), e⟩
theorem RepO.back {O O1 : Addr → Prop} {W W1 W' : Wd} {v : V} {r : Rt} (st : Step O W W1) (h : ∀ p, O1 p → O p ∨ W.H p = none) (q : RepO K O1 W1 W' v r) : RepO K O W W' v r := by
  cases r with
  | val d => exact q
  | bor _ => exact q
  | ownd _ _ => exact q
  | own ds =>
    obtain ⟨p, vs, e1, e2, e3, e4, e5, e6⟩ := q
    refine ⟨p, vs, e1, e2, e3, e4, ?_, e6⟩
    rcases e5 with z | z
    · exact .inl (st.free z)
    · rcases h p z with z | z
      · exact .inr z
      · exact .inl z
theorem Out.fwd (h : Out X W σ ρ res D) (st : Step (ownA σ ρ) W W1) (o : ∀ p, ownA σ1 ρ1 p → ownA σ ρ p ∨ W.H p = none) : Out X W1 σ1 ρ1 res D := by
  cases res with
  | nx ρ' S' =>
    intro W' σ' st' a' o'
    refine h W' σ' (st.trans st' o) a' fun p z => ?_
    rcases o' p z with y | y
    · exact o p y
    · exact .inr (st.free y)
  | rt r S' =>
    intro W' v st' a' q
    exact h W' v (st.trans st' o) a' (q.back st o)
  | er => exact h
  | xn x ρ' S' => exact RaisedAt.fwd st o h
theorem Out.exp (h : Out X W σ ρ res D) (e : Ext W W1) : Out X W1 σ ρ res D := h.fwd e.step fun p z => .inl z
theorem bindE_some {r : Option (Rt × Sto)} {k : Rt → Sto → SR} (h : Out X W σ ρ (bindE r k) D) : ∃ x S', r = some (x, S') ∧ Out X W σ ρ (k x S') D := by
  cases r with
  | none => exact h.elim
  | some p => exact ⟨p.1, p.2, rfl, h⟩
theorem bindD_some {r : Option (Rt × Sto)} {k : Mi.D → Sto → SR} (h : Out X W σ ρ (bindD r k) D) : ∃ x d S', r = some (x, S') ∧ x.d = some d ∧ Out X W σ ρ (k d S') D := by
  cases r with
  | none => exact h.elim
  | some p =>
    obtain ⟨x, S'⟩ := p
    cases hd : x.d with
    | none =>
      unfold bindD at h
      dsimp only at h
      rw [hd] at h
      exact h.elim
    | some d =>
      unfold bindD at h
      dsimp only at h
      rw [hd] at h
      exact ⟨x, d, S', rfl, hd, h⟩
theorem raised_at {x : Exn} {S' : Sto} {H : Hp} (a : At K W S ρ σ H) (t : Takes X (RaisedAt K (ownA σ ρ) W x ρ S')) : Takes X (RaisedIn K σ W x S') :=
  t.imp fun c d σ' H' ⟨e1, W', e2, e3, r, e⟩ => by subst e1 e2; exact ⟨W', e3.step, a.ext e3 r, fun p z => .inl z, e⟩
theorem bindEX_some {xo : Option (Exn × Sto)} {ρ0 : Env} {r : Option (Rt × Sto)} {k : Rt → Sto → SR} (h : Out X W σ ρ (bindEX xo ρ0 r k) D) : (∃ x S', r = some (x, S') ∧ Out X W σ ρ (k x S') D) ∨ (r = none ∧ ∃ x S', xo = some (x, S') ∧ Takes X (RaisedAt X.K (ownA σ ρ) W x ρ0 S')) := by
  cases r with
  | some p => exact .inl ⟨p.1, p.2, rfl, h⟩
  | none =>
    cases xo with
    | none => exact h.elim
    | some p => exact .inr ⟨rfl, p.1, p.2, rfl, h⟩
theorem bindDX_some {xo : Option (Exn × Sto)} {ρ0 : Env} {r : Option (Rt × Sto)} {k : Mi.D → Sto → SR} (h : Out X W σ ρ (bindDX xo ρ0 r k) D) : (∃ x d S', r = some (x, S') ∧ x.d = some d ∧ Out X W σ ρ (k d S') D) ∨ (r = none ∧ ∃ x S', xo = some (x, S') ∧ Takes X (RaisedAt X.K (ownA σ ρ) W x ρ0 S')) := by
  cases r with
  | some p =>
    obtain ⟨x, S'⟩ := p
    cases hd : x.d with
    | none =>
      unfold bindDX at h
      dsimp only at h
      rw [hd] at h
      exact h.elim
    | some d =>
      unfold bindDX at h
      dsimp only at h
      rw [hd] at h
      exact .inl ⟨x, d, S', rfl, hd, h⟩
  | none =>
    cases xo with
    | none => exact h.elim
    | some p => exact .inr ⟨rfl, p.1, p.2, rfl, h⟩
theorem nxO_some {r : Option (Env × Sto)} (h : Out X W σ ρ (nxO r) D) : ∃ ρ' S', r = some (ρ', S') ∧ Out X W σ ρ (.nx ρ' S') D := by
  cases r with
  | none => exact h.elim
  | some p => exact ⟨p.1, p.2, rfl, h⟩
theorem SlotR.setO {i : Nat} {ds : List Mi.D} {vs : List V} {p : Addr} (h : SlotR K W σ ρ) (hi : i < ρ.length) (h1 : W.H p = some (.lst vs)) (h2 : p ∉ W.ms) (h3 : p ∉ W.fz) (r : RepL K W ds vs) (hn : ∀ j ds', j ≠ i → ρ[j]? = some (.own ds') → σ[j]? ≠ some (some (.ref p))) : SlotR K W (σ.set i (some (.ref p))) (ρ.set i (.own ds)) := by
  have hiσ : i < σ.length := by rw [h.1]; exact hi
  refine ⟨by rw [List.length_set, List.length_set]; exact h.1, fun j d' e => ?_, fun j ds' e => ?_, fun j k xs ys q e1 e2 e3 e4 => ?_⟩
  · by_cases q : j = i
    · subst q; rw [List.getElem?_set_self hi] at e; cases e
    · rw [List.getElem?_set_ne (Ne.symm q)] at e
      obtain ⟨w, h1, h2⟩ := h.2.1 j d' e
      exact ⟨w, by rw [List.getElem?_set_ne (Ne.symm q)]; exact h1, h2⟩
  · by_cases q : j = i
    · subst q
      rw [List.getElem?_set_self hi] at e
      cases e
      exact ⟨p, vs, List.getElem?_set_self hiσ, h1, h2, h3, r⟩
    · rw [List.getElem?_set_ne (Ne.symm q)] at e
      obtain ⟨p', vs', h1, h2⟩ := h.2.2.1 j ds' e
      exact ⟨p', vs', by rw [List.getElem?_set_ne (Ne.symm q)]; exact h1, h2⟩
  · by_cases q1 : j = i
    · by_cases q2 : k = i
      · rw [q1, q2]
      · subst q1
        rw [List.getElem?_set_self hiσ] at e3
        cases e3
        rw [List.getElem?_set_ne (Ne.symm q2)] at e2 e4
        exact absurd e4 (hn k ys q2 e2)
    · by_cases q2 : k = i
      · subst q2
        rw [List.getElem?_set_self hiσ] at e4
        cases e4
        rw [List.getElem?_set_ne (Ne.symm q1)] at e1 e3
        exact absurd e3 (hn j xs q1 e1)
      · rw [List.getElem?_set_ne (Ne.symm q1)] at e1 e3
        rw [List.getElem?_set_ne (Ne.symm q2)] at e2 e4
        exact h.2.2.2 j k xs ys q e1 e2 e3 e4
theorem own_setO {i : Nat} {ds : List Mi.D} {p q : Addr} (hi : i < ρ.length) (hσ : i < σ.length) (h : ownA (σ.set i (some (.ref p))) (ρ.set i (.own ds)) q) : ownA σ ρ q ∨ q = p := by
  obtain ⟨j, ds, h1, h2⟩ := h
  by_cases z : j = i
  · subst z
    rw [List.getElem?_set_self hσ] at h2
    cases h2; exact .inr rfl
  · rw [List.getElem?_set_ne (Ne.symm z)] at h1 h2
    exact .inl ⟨j, ds, h1, h2⟩

theorem At.putO {i : Nat} {ds es : List Mi.D} {vs : List V} {p : Addr} {H : Hp} (a : At K W S ρ σ H) (hρ : ρ[i]? = some (.own ds)) (hσ : σ[i]? = some (some (.ref p))) (r : RepL K W es vs) :
    At K ⟨W.ms, W.fz, upd W.H p (.lst vs)⟩ S (ρ.set i (.own es)) σ (upd W.H p (.lst vs)) ∧ Step (ownA σ ρ) W ⟨W.ms, W.fz, upd W.H p (.lst vs)⟩ ∧ ∀ q, ownA σ (ρ.set i (.own es)) q → ownA σ ρ q := by
  obtain ⟨p', ws, f1, f2, f3, f4, f5⟩ := a.sl.2.2.1 i ds hρ
  rw [hσ] at f1; cases f1
  have hi : i < ρ.length := (List.getElem?_eq_some_iff.mp hρ).1
  have ok : OOk (fun a => a = p) W := fun a e => by subst e; exact ⟨f4, ws, f2⟩
  have st : Step (fun a => a = p) W ⟨W.ms, W.fz, upd W.H p (.lst vs)⟩ := Step.put
  have rel := a.rel.putO (o := .lst vs) f3 f4 f2
  refine ⟨⟨rfl, rel, ?_, fun j d e => ?_, fun j xs e => ?_, fun j k xs ys q e1 e2 e3 e4 => ?_⟩, ?_, fun q ⟨j, xs, h1, h2⟩ => ?_⟩
  · rw [List.length_set]; exact a.sl.1
  · by_cases q : j = i
    · subst q; rw [List.getElem?_set_self hi] at e; cases e
    · rw [List.getElem?_set_ne (Ne.symm q)] at e
      obtain ⟨v, g1, g2⟩ := a.sl.2.1 j d e
      exact ⟨v, g1, Rep.step a.rel ok st _ _ g2⟩
  · by_cases q : j = i
    · subst q
      rw [List.getElem?_set_self hi] at e
      cases e
      exact ⟨p, vs, hσ, upd_same, f3, f4, RepL.step a.rel ok st _ _ r⟩
    · rw [List.getElem?_set_ne (Ne.symm q)] at e
      obtain ⟨p', us, g1, g2, g3, g4, g5⟩ := a.sl.2.2.1 j xs e
      refine ⟨p', us, g1, ?_, g3, g4, RepL.step a.rel ok st _ _ g5⟩
      show upd W.H p (.lst vs) p' = _
      rw [upd_ne]
      · exact g2
      · intro z; subst z
        exact q (a.sl.2.2.2 j i xs ds p' e hρ g1 hσ)
  · have back : ∀ {j : Nat} {xs : List Mi.D}, (ρ.set i (.own es))[j]? = some (.own xs) → ∃ zs, ρ[j]? = some (.own zs) := fun {j xs} e => by
      by_cases q : j = i
      · subst q; exact ⟨ds, hρ⟩
      · rw [List.getElem?_set_ne (Ne.symm q)] at e; exact ⟨xs, e⟩
    obtain ⟨_, g1⟩ := back e1
    obtain ⟨_, g2⟩ := back e2
    exact a.sl.2.2.2 j k _ _ q g1 g2 e3 e4
  · refine ⟨st.ms, st.fz, fun b o e n no => st.keep b o e n fun z => no ?_, st.dom, st.nms, fun b e => (st.nfz b e).elim .inl fun z => z.elim (fun y => .inr (.inl y)) fun y => .inr (.inr ?_)⟩
    · subst z; exact ⟨i, ds, hρ, hσ⟩
    · subst y; exact ⟨i, ds, hρ, hσ⟩
  · by_cases z : j = i
    · subst z; exact ⟨j, ds, hρ, h2⟩
    · rw [List.getElem?_set_ne (Ne.symm z)] at h1; exact ⟨j, xs, h1, h2⟩
end
section
variable {X : Cx} {Φ : Fns} {G : List D} {e e1 e2 tg : Expr} {pos p : Pos}
abbrev DS (X : Cx) (Φ : Fns) (G : List D) (s : Stmt) (m : MS) : Prop := PS X s (tS X Φ G m)
abbrev DSs (X : Cx) (Φ : Fns) (G : List D) (s : List Stmt) (m : MSs) : Prop := PSs X s (tSs X Φ G m)

noncomputable def tX (X : Cx) (Φ : Fns) (G : List D) (m : ME) : TE := fun σ H _ => ∃ W S ρ, At X.K W S ρ σ H ∧ ∃ x S', evX Φ G ρ m S = some (x, S') ∧ Takes X (RaisedIn X.K σ W x S')
noncomputable def tRX (X : Cx) (Φ : Fns) (G : List D) (m : ME) : TE := fun σ H Q => tR X.K Φ G m σ H Q ∨ tX X Φ G m σ H Q
abbrev DEX (X : Cx) (Φ : Fns) (G : List D) (e : Expr) (m : ME) : Prop := PE X e (tRX X Φ G m)
theorem dex_of {m : ME} (h : DE X Φ G e m) (x : PE X e (tX X Φ G m)) : DEX X Φ G e m := ⟨fun pins s σ H Q I q => q.elim (h.run pins s σ H Q I) (x.run pins s σ H Q I)⟩
theorem tX_of {m : ME} {W : Wd} {S : Sto} {ρ : Env} {σ : St} {H : Hp} {Q : VK} (a : At X.K W S ρ σ H) (h : evR Φ G ρ m S = none ∧ ∃ x S', evX Φ G ρ m S = some (x, S') ∧ Takes X (RaisedAt X.K (ownA σ ρ) W x ρ S')) : tRX X Φ G m σ H Q := by
  obtain ⟨h0, x, S', h1, h2⟩ := h
  exact .inr ⟨W, S, ρ, a, x, S', h1, raised_at a h2⟩
theorem dss_nil : DSs X Φ G [] .nil := by
  refine PSs.imp pss_nil fun D σ H h => ?_
  obtain ⟨W, S, ρ, a, q⟩ := h
  rw [exs] at q
  have := q W σ (Step.refl _ W) ⟨rfl, a.rel, a.sl⟩ fun p z => .inl z
  rw [a.1] at this; exact this
theorem dss_cons {s : Stmt} {r : List Stmt} {m : MS} {ms : MSs} (h1 : DS X Φ G s m) (h2 : DSs X Φ G r ms) : DSs X Φ G (s :: r) (.cons m ms) := by
  refine PSs.imp (pss_cons h1 h2) fun D σ H h => ?_
  obtain ⟨W, S, ρ, a, q⟩ := h
  rw [exs] at q
  refine ⟨W, S, ρ, a, ?_⟩
  cases hr : ex Φ G m ρ S with
  | nx ρ' S' =>
    rw [hr] at q
    intro W' σ' st a' o
    exact ⟨W', S', ρ', a', Out.fwd q st o⟩
  | rt r S' => rw [hr] at q; exact q
  | er => rw [hr] at q; exact q
  | xn x ρ' S' => rw [hr] at q; exact q

theorem dss_frz {s : List Stmt} {i : Nat} {ms : MSs} (h : DSs X Φ G s ms) : DSs X Φ G s (.cons (.frz i) ms) := by
  refine PSs.imp h fun D σ H h => ?_
  obtain ⟨W, S, ρ, a, q⟩ := h
  rw [exs, ex] at q
  cases hρ : ρ[i]? with
  | none => rw [hρ] at q; exact q.elim
  | some sl =>
    rw [hρ] at q
    cases sl with
    | no => exact q.elim
    | val _ => exact ⟨W, S, ρ, a, q⟩
    | own ds =>
      have q : Out X W σ ρ (exs Φ G ms (ρ.set i (.val (.lst ds))) S) D := q
      obtain ⟨p, vs, f1, f2, f3, f4, f5⟩ := a.sl.2.2.1 i ds hρ
      have hi : i < ρ.length := (List.getElem?_eq_some_iff.mp hρ).1
      have hiσ : i < σ.length := (List.getElem?_eq_some_iff.mp f1).1
      have rel : Rel X.K ⟨W.ms, p :: W.fz, W.H⟩ S := a.rel.more f3 (by rw [f2]; simp)
      have hset : σ.set i (some (.ref p)) = σ := by
        apply List.ext_getElem?
        intro j
        by_cases z : j = i
        · subst z; rw [List.getElem?_set_self hiσ, f1]
        · rw [List.getElem?_set_ne (Ne.symm z)]
      have noP : ∀ j xs, ρ[j]? = some (.own xs) → j ≠ i → σ[j]? ≠ some (some (.ref p)) := fun j xs e n z => n (a.sl.2.2.2 j i xs ds p e hρ z f1)
      have sl : SlotR X.K ⟨W.ms, p :: W.fz, W.H⟩ σ (ρ.set i (.val (.lst ds))) := by
        refine ⟨by rw [List.length_set]; exact a.sl.1, fun j d e => ?_, fun j xs e => ?_, fun j k xs ys q e1 e2 e3 e4 => ?_⟩
        · by_cases z : j = i
          · subst z
            rw [List.getElem?_set_self hi] at e
            cases e
            refine ⟨_, f1, ?_⟩
            unfold Rep
            exact ⟨p, vs, rfl, List.mem_cons_self, f2, RepL.more _ _ f5⟩
          · rw [List.getElem?_set_ne (Ne.symm z)] at e
            obtain ⟨v, g1, g2⟩ := a.sl.2.1 j d e
            exact ⟨v, g1, Rep.more _ _ g2⟩
        · by_cases z : j = i
          · subst z; rw [List.getElem?_set_self hi] at e; cases e
          · rw [List.getElem?_set_ne (Ne.symm z)] at e
            obtain ⟨p', us, g1, g2, g3, g4, g5⟩ := a.sl.2.2.1 j xs e
            refine ⟨p', us, g1, g2, g3, fun y => ?_, RepL.more _ _ g5⟩
            rcases List.mem_cons.mp y with y | y
            · subst y; exact noP j xs e z g1
            · exact g4 y
        · by_cases z : j = i
          · subst z; rw [List.getElem?_set_self hi] at e1; cases e1
          · by_cases z2 : k = i
            · subst z2; rw [List.getElem?_set_self hi] at e2; cases e2
            · rw [List.getElem?_set_ne (Ne.symm z)] at e1
              rw [List.getElem?_set_ne (Ne.symm z2)] at e2
              exact a.sl.2.2.2 j k xs ys q e1 e2 e3 e4
      have st : Step (ownA σ ρ) W ⟨W.ms, p :: W.fz, W.H⟩ := ⟨⟨[], by simp⟩, fun a h => List.mem_cons_of_mem _ h, fun a o h _ _ => h, fun a h => h, fun a h => .inl h, fun a h => by
        rcases List.mem_cons.mp h with z | z
        · subst z; exact .inr (.inr ⟨i, ds, hρ, f1⟩)
        · exact .inl z⟩
      refine ⟨⟨W.ms, p :: W.fz, W.H⟩, S, _, ⟨a.1, rel, sl⟩, Out.fwd q st fun p' z => .inl ?_⟩
      obtain ⟨j, xs, h1, h2⟩ := z
      by_cases z : j = i
      · subst z; rw [List.getElem?_set_self hi] at h1; cases h1
      · rw [List.getElem?_set_ne (Ne.symm z)] at h1; exact ⟨j, xs, h1, h2⟩

theorem asg_impX {t : MT} {m : ME} {D : Ends} {σ : St} {H : Hp} (h : tS X Φ G (.asg t m) D σ H) : tAsg (tR X.K Φ G m) (gT X.K Φ G t) D σ H ∨ tX X Φ G m σ H (fun _ _ => True) := by
  obtain ⟨W, S, ρ, a, q⟩ := h
  rw [ex] at q
  rcases bindDX_some q with ⟨x, d, S1, ev, hd, q⟩ | ⟨q0, x, S1, q1, q2⟩
  rotate_left
  · exact .inr ⟨W, S, ρ, a, x, S1, q1, raised_at a q2⟩
  left
  obtain ⟨ρ', S', ev2, q⟩ := nxO_some q
  refine ⟨W, S, ρ, a, x, S1, ev, fun W1 v e1 r1 p1 => ?_⟩
  obtain ⟨W2, eH, e2, r2, p2⟩ := p1.shut r1 e1 hd
  have a2 := a.ext e2 r2
  rw [eH] at a2
  refine ⟨W2, S1, ρ, d, a2, p2, ρ', S', ev2, fun W3 σ3 e3 a3 o3 p3 => ?_⟩
  exact q W3 σ3 (e2.trans e3).step a3 fun p z => .inl (o3 p z)
theorem ds_asg {t : MT} {m : ME} (hp : ∀ (te : TE) (g : TG), PE X e te → PG X tg g → PS X (.Assign [tg] e pos) (tAsg te g)) (he : DEX X Φ G e m) (hg : DG X Φ G tg t) : DS X Φ G (.Assign [tg] e pos) (.asg t m) :=
  PS.imp (hp _ _ he hg) fun D σ H h => (asg_impX h).elim (fun z => .inl z) fun z => .inr z
theorem asg_imp {t : MT} {m : ME} {D : Ends} {σ : St} {H : Hp} (hn : ∀ ρ S, evX Φ G ρ m S = none) (h : tS X Φ G (.asg t m) D σ H) : tAsg (tR X.K Φ G m) (gT X.K Φ G t) D σ H :=
  (asg_impX h).elim id fun ⟨W, S, ρ, a, x, S', h, _⟩ => by rw [hn] at h; cases h

theorem own_impX {i : Nat} {m : ME} {D : Ends} {σ : St} {H : Hp} (h : tS X Φ G (.own i m) D σ H) : tAsg (tR X.K Φ G m) (gName i) D σ H ∨ tX X Φ G m σ H (fun _ _ => True) := by
  obtain ⟨W, S, ρ, a, q⟩ := h
  rw [ex] at q
  rcases bindEX_some q with ⟨x, S1, ev, q⟩ | ⟨q0, x, S1, q1, q2⟩
  rotate_left
  · exact .inr ⟨W, S, ρ, a, x, S1, q1, raised_at a q2⟩
  left
  cases x with
  | val _ => exact q.elim
  | bor _ => exact q.elim
  | ownd _ _ => exact q.elim
  | own ds =>
    dsimp only at q
    split at q
    · rename_i hi
      refine ⟨W, S, ρ, a, _, S1, ev, fun W1 v e1 r1 p1 => ?_⟩
      obtain ⟨p, vs, rfl, h2, h3, h4, h0, h5⟩ := p1
      have hσ : i < σ.length := by rw [a.sl.1]; exact hi
      have a1 := a.ext e1 r1
      refine q W1 (σ.set i (some (.ref p))) e1.step ⟨rfl, r1, a1.sl.setO hi h2 h3 h4 h5 fun j ds' n e z => ?_⟩ fun p' z => ?_
      · obtain ⟨p', us, g1, g2, _⟩ := a.sl.2.2.1 j ds' e
        rw [z] at g1; cases g1
        rw [h0] at g2; cases g2
      · rcases own_setO hi hσ z with y | y
        · exact .inl y
        · subst y; exact .inr h0
    · exact q.elim
theorem ds_own {i : Nat} {m : ME} (hp : ∀ (te : TE), PE X e te → PS X (.Assign [tg] e pos) (tAsg te (gName i))) (he : DEX X Φ G e m) : DS X Φ G (.Assign [tg] e pos) (.own i m) :=
  PS.imp (hp _ he) fun D σ H h => (own_impX h).elim (fun z => .inl z) fun z => .inr z
theorem own_imp {i : Nat} {m : ME} {D : Ends} {σ : St} {H : Hp} (hn : ∀ ρ S, evX Φ G ρ m S = none) (h : tS X Φ G (.own i m) D σ H) : tAsg (tR X.K Φ G m) (gName i) D σ H :=
  (own_impX h).elim id fun ⟨W, S, ρ, a, x, S', h, _⟩ => by rw [hn] at h; cases h
theorem ds_ret {m : ME} (he : DEX X Φ G e m) : DS X Φ G (.Return (some e) pos) (.ret m) := by
  refine PS.imp (ps_ret he) fun D σ H h => ?_
  obtain ⟨W, S, ρ, a, q⟩ := h
  rw [ex] at q
  rcases bindEX_some q with ⟨x, S1, ev, q⟩ | q
  rotate_left
  · exact tX_of a q
  left
  refine ⟨W, S, ρ, a, x, S1, ev, fun W1 v e1 r1 p1 => ?_⟩
  cases x with
  | bor _ => exact q.elim
  | ownd _ _ => exact q.elim
  | val d => exact q W1 v e1.step r1 p1
  | own ds =>
    obtain ⟨p, vs, f1, f2, f3, f4, f5, f6⟩ := p1
    exact q W1 v e1.step r1 ⟨p, vs, f1, f2, f3, f4, .inl f5, f6⟩
theorem ds_reto {i : Nat} {x : Str} (hN : X.N[i]? = some x) (hv : Vis X.env.scope x) (hd : (x == ("__debug__" : Str)) = false) (hcd : (x == ("__classdict__" : Str)) = false) : DS X Φ G (.Return (some (.Name x p)) pos) (.reto i) := by
  refine PS.imp (ps_ret (pe_var hN hv hd hcd)) fun D σ H h => ?_
  obtain ⟨W, S, ρ, a, q⟩ := h
  rw [ex] at q
  cases hρ : ρ[i]? with
  | none => rw [hρ] at q; exact q.elim
  | some sl =>
    rw [hρ] at q
    cases sl with
    | no => exact q.elim
    | val _ => exact q.elim
    | own ds =>
      obtain ⟨p, vs, f1, f2, f3, f4, f5⟩ := a.sl.2.2.1 i ds hρ
      refine ⟨_, f1, ?_⟩
      have := q W (.ref p) (Step.refl _ W) a.rel ⟨p, vs, rfl, f2, f3, f4, .inr ⟨i, ds, hρ, f1⟩, f5⟩
      rw [a.1] at this; exact this
theorem ds_expr {m : ME} (hs : swapsWith e none pos.line X.env = pure false) (he : DEX X Φ G e m) : DS X Φ G (.Expr e pos) (.expr m) := by
  refine PS.imp (ps_expr he hs) fun D σ H h => ?_
  obtain ⟨W, S, ρ, a, q⟩ := h
  rw [ex] at q
  rcases bindEX_some q with ⟨x, S1, ev, q⟩ | q
  rotate_left
  · exact tX_of a q
  left
  refine ⟨W, S, ρ, a, x, S1, ev, fun W1 v e1 r1 p1 => ?_⟩
  exact q W1 σ e1.step (a.ext e1 r1) fun p z => .inl z
theorem ds_ite {c : Expr} {xs ys : List Stmt} {m : ME} {ma mb : MSs} (hc : DT X Φ G c m) (ha : DSs X Φ G xs ma) (hb : DSs X Φ G ys mb) : DS X Φ G (.If c xs ys pos) (.ite m ma mb) := by
  refine PS.imp (ps_if hc ha hb) fun D σ H h => ?_
  obtain ⟨W, S, ρ, a, q⟩ := h
  rw [ex] at q
  obtain ⟨x, S1, ev, q⟩ := bindE_some q
  split at q
  · refine ⟨W, S, ρ, a, true, S1, ev, fun W1 e1 r1 => iteT ?_⟩
    exact ⟨W1, S1, ρ, a.ext e1 r1, q.exp e1⟩
  · refine ⟨W, S, ρ, a, false, S1, ev, fun W1 e1 r1 => iteF ?_⟩
    exact ⟨W1, S1, ρ, a.ext e1 r1, q.exp e1⟩
  · exact q.elim

theorem then_out {W : Wd} {σ : St} {ρ : Env} {r : SR} {k : Env → Sto → SR} {D : Ends} {N : St → Hp → Prop} {bk ct : St → Hp → Prop} (h : Out X W σ ρ (r.then k) D)
    (hn : ∀ ρ' S', r = .nx ρ' S' → ∀ W' σ', Step (ownA σ ρ) W W' → At X.K W' S' ρ' σ' W'.H → (∀ p, ownA σ' ρ' p → ownA σ ρ p ∨ W.H p = none) → Out X W' σ' ρ' (k ρ' S') D → N σ' W'.H) : Out X W σ ρ r { D with nx := N, bk := bk, ct := ct } := by
  cases r with
  | nx ρ' S' => exact fun W' σ' st a o => hn ρ' S' rfl W' σ' st a o (Out.fwd h st o)
  | rt r S' => exact h
  | er => exact h
  | xn x ρ' S' => exact h
theorem ds_for {iter : Expr} {body : List Stmt} {t : MT} {it : MI} {mb : MSs} (hp : PassesOwn (model X.prog X.w) X.A X.env X.xe) (hc : X.calm = true) (hs : ∀ x, foldedSetIterable iter X.env x = pure x) (hi : DI X Φ G false tg iter it) (hg : DG X Φ G tg t) (hb : DSs X Φ G body mb) : DS X Φ G (.For tg iter body [] pos) (.forr t it mb) := by
  refine PS.imp (ps_for hp hc hi hg hb hs) fun D σ H h => ?_
  obtain ⟨W, S, ρ, a, q⟩ := h
  rw [ex] at q
  cases hev : evI Φ G ρ false it S with
  | none => rw [hev] at q; exact q.elim
  | some pr =>
    obtain ⟨ds, S1⟩ := pr
    rw [hev] at q
    have q : Out X W σ ρ (forL (fun d ρ S => sto Φ G t d ρ S) (fun ρ S => exs Φ G mb ρ S) ds ρ S1) D := q
    refine ⟨W, S, ρ, a, ds, S1, hev, fun W1 J e1 r1 ok => ?_⟩
    refine ⟨fun i mm σ2 H2 => mm = ds.length - i ∧ i ≤ ds.length ∧ ∃ W2 S2 ρ2, At X.K W2 S2 ρ2 σ2 H2 ∧ Step (ownA σ ρ) W1 W2 ∧ (∀ p, ownA σ2 ρ2 p → ownA σ ρ p ∨ W1.H p = none) ∧ Out X W2 σ2 ρ2 (forL (fun d ρ S => sto Φ G t d ρ S) (fun ρ S => exs Φ G mb ρ S) (ds.drop i) ρ2 S2) D,
      ⟨ds.length, by simp, Nat.zero_le _, W1, S1, ρ, a.ext e1 r1, Step.refl _ W1, fun p z => .inl z, q.exp e1⟩, ?_⟩
    rintro i mm σ2 H2 ⟨rfl, hle, W2, S2, ρ2, a2, st2, o2, q2⟩
    have hH : W2.H = H2 := a2.1
    subst hH
    obtain ⟨turn, stop⟩ := ok W2 S2 (by rw [OO_false]; exact st2) a2.rel
    by_cases hlt : i < ds.length
    · right
      have hd : ds[i]? = some ds[i] := List.getElem?_eq_getElem hlt
      obtain ⟨go, yl⟩ := turn i _ hd
      rw [List.drop_eq_getElem_cons hlt, forL] at q2
      refine ⟨go, _, fun σ' H' z => ⟨ds.length - (i + 1), by omega, rfl, hlt, z⟩, fun x H' hy => ?_⟩
      obtain ⟨W3, rfl, e3, r3, rp⟩ := yl x H' hy
      cases hst : sto Φ G t ds[i] ρ2 S2 with
      | none => rw [hst] at q2; exact q2.elim
      | some pr =>
        obtain ⟨ρ3, S3⟩ := pr
        rw [hst] at q2
        refine ⟨W3, S2, ρ2, ds[i], a2.ext e3 r3, rp, ρ3, S3, hst, fun W4 σ4 e4 a4 o4 p4 => ?_⟩
        have st24 : Step (ownA σ2 ρ2) W2 W4 := (e3.trans e4).step
        have o24 : ∀ p, ownA σ4 ρ3 p → ownA σ2 ρ2 p ∨ W2.H p = none := fun p z => .inl (o4 p z)
        have q4 := Out.fwd q2 st24 o24
        refine ⟨W4, S3, ρ3, a4, then_out q4 fun ρ5 S5 hr W5 σ5 st5 a5 o5 q5 => ?_⟩
        have o25 : ∀ p, ownA σ5 ρ5 p → ownA σ2 ρ2 p ∨ W2.H p = none := fun p z => by
          rcases o5 p z with y | y
          · exact o24 p y
          · exact .inr (st24.free y)
        refine ⟨W5, S5, ρ5, a5, st2.trans (st24.trans st5 o24) o2, fun p z => ?_, q5⟩
        rcases o25 p z with y | y
        · exact o2 p y
        · exact .inr (st2.free y)
    · left
      have hi' : i = ds.length := by omega
      subst hi'
      refine ⟨stop, ?_⟩
      rw [List.drop_length, forL] at q2
      exact q2 W2 σ2 (Step.refl _ W2) ⟨rfl, a2.rel, a2.sl⟩ fun p z => .inl z
theorem ds_app {i : Nat} {x : Str} {m : ME} {apos cpos : Pos} {t : TE} (hp : ∀ te, PE X e te → PE X (.Call (.Attribute (.Name x p) "append" apos) [e] [] cpos) (tBM X.K "list" rAppend (tVar i) (tCons te tNil))) (hs : swapsWith (.Call (.Attribute (.Name x p) "append" apos) [e] [] cpos) none pos.line X.env = pure false) (he : DE X Φ G e m) :
    DS X Φ G (.Expr (.Call (.Attribute (.Name x p) "append" apos) [e] [] cpos) pos) (.app i m) := by
  refine PS.imp (ps_expr (hp _ he) hs) fun D σ H h => ?_
  obtain ⟨W, S, ρ, a, q⟩ := h
  rw [ex] at q
  cases hρ : ρ[i]? with
  | none => rw [hρ] at q; exact q.elim
  | some sl =>
    rw [hρ] at q
    cases sl with
    | no => exact q.elim
    | val _ => exact q.elim
    | own ds =>
      dsimp only at q
      obtain ⟨y, d, S1, ev, hd, q⟩ := bindD_some q
      split at q
      · rename_i hz
        obtain ⟨p, vs, f1, f2, f3, f4, f5⟩ := a.sl.2.2.1 i ds hρ
        have hH : H p = some (.lst vs) := by rw [← a.1]; exact f2
        refine ⟨.ref p, f1, .inl ⟨rfl, vs, .inl (.inl hH)⟩, W, S, ρ, a, y, S1, ev, fun W1 v e1 r1 p1 => ?_⟩
        obtain ⟨W2, eH, e2, r2, p2⟩ := p1.shut r1 e1 hd
        have a2 := a.ext e2 r2
        obtain ⟨p', vs', g1, g2, g3, g4, g5⟩ := a2.sl.2.2.1 i ds hρ
        rw [f1] at g1; cases g1
        have : W2.H p = some (.lst vs) := e2.keep p _ f2 f3
        rw [g2] at this; cases this
        show rAppend (.ref p) [v] W1.H (fun _ H1 => D.nx σ H1)
        rw [← eH]
        refine ⟨p, vs, v, rfl, rfl, g2, by rw [g5.length]; exact hz, ?_⟩
        obtain ⟨b1, b2, b3⟩ := a2.putO hρ f1 (g5.append (.cons p2 .nil))
        exact q ⟨W2.ms, W2.fz, _⟩ σ (e2.step.trans b2 fun p z => .inl z) b1 fun p' z => .inl (b3 p' z)
      · exact q.elim
theorem ds_ext {i : Nat} {x : Str} {m : ME} {apos cpos : Pos} (hp : ∀ te, PE X e te → PE X (.Call (.Attribute (.Name x p) "extend" apos) [e] [] cpos) (tBM X.K "list" (rExtT X.K) (tVar i) (tCons te tNil))) (hs : swapsWith (.Call (.Attribute (.Name x p) "extend" apos) [e] [] cpos) none pos.line X.env = pure false) (he : DE X Φ G e m) :
    DS X Φ G (.Expr (.Call (.Attribute (.Name x p) "extend" apos) [e] [] cpos) pos) (.ext i m) := by
  refine PS.imp (ps_expr (hp _ he) hs) fun D σ H h => ?_
  obtain ⟨W, S, ρ, a, q⟩ := h
  rw [ex] at q
  cases hρ : ρ[i]? with
  | none => rw [hρ] at q; exact q.elim
  | some sl =>
    rw [hρ] at q
    cases sl with
    | no => exact q.elim
    | val _ => exact q.elim
    | own ds =>
      dsimp only at q
      obtain ⟨y, S1, ev, q⟩ := bindE_some q
      cases hy : y.exV with
      | none => rw [hy] at q; exact q.elim
      | some ys =>
        rw [hy] at q
        dsimp only at q
        split at q
        · rename_i hz
          obtain ⟨p, vs, f1, f2, f3, f4, f5⟩ := a.sl.2.2.1 i ds hρ
          have hH : H p = some (.lst vs) := by rw [← a.1]; exact f2
          refine ⟨.ref p, f1, .inl ⟨rfl, vs, .inl (.inl hH)⟩, W, S, ρ, a, _, S1, ev, fun W1 v e1 r1 p1 => ?_⟩
          obtain ⟨p2, ws, rfl, k2, k5⟩ : ∃ p2 ws, v = .ref p2 ∧ (W1.H p2 = some (.lst ws) ∨ SqT X.K W1.H p2 ws) ∧ RepL X.K W1 ys ws := by
            cases y with
            | own zs =>
              cases hy
              obtain ⟨p2, ws, rfl, k2, k3, k4, k0, k5⟩ := p1
              exact ⟨p2, ws, rfl, .inl k2, k5⟩
            | val d =>
              cases d with
              | tup zs =>
                cases hy
                have h : Rep X.K W1 (.tup ys) v := p1
                unfold Rep at h
                obtain ⟨p2, ws, rfl, k2, k5⟩ := h
                exact ⟨p2, ws, rfl, .inr k2, k5⟩
              | _ => cases hy
            | _ => cases hy
          have a1 := a.ext e1 r1
          obtain ⟨p', vs', g1, g2, g3, g4, g5⟩ := a1.sl.2.2.1 i ds hρ
          rw [f1] at g1; cases g1
          have : W1.H p = some (.lst vs) := e1.keep p _ f2 f3
          rw [g2] at this; cases this
          refine ⟨p, p2, vs, ws, rfl, rfl, g2, k2, by rw [g5.length, k5.length]; exact hz, ?_⟩
          obtain ⟨b1, b2, b3⟩ := a1.putO hρ f1 (g5.append k5)
          exact q ⟨W1.ms, W1.fz, _⟩ σ (e1.step.trans b2 fun p z => .inl z) b1 fun p' z => .inl (b3 p' z)
        · exact q.elim
theorem ds_aug {i : Nat} {x : Str} {m : ME} {o : BOp} (ho : o = .add ∨ o = .sub) (hp : ∀ te ti, PE X e te → PIp X (opOf o) ti → PS X (.AugAssign (.Name x p) (opOf o) e pos) (tAug i te ti)) (he : DE X Φ G e m) : DS X Φ G (.AugAssign (.Name x p) (opOf o) e pos) (.aug i o m) := by
  have fin : ∀ (f : Int → Int → Int) (hip : PIp X (opOf o) (ipI f)), (∀ ρ S (k j : Int) (S1 : Sto), ρ[i]? = some (Sl.val (.int k)) → evR Φ G ρ m S = some (.val (.int j), S1) → ex Φ G (.aug i o m) ρ S = .nx (ρ.set i (.val (.int (f k j)))) S1) → (∀ ρ S W σ D, Out X W σ ρ (ex Φ G (.aug i o m) ρ S) D → ∃ k j S1, ρ[i]? = some (Sl.val (.int k)) ∧ evR Φ G ρ m S = some (.val (.int j), S1)) → DS X Φ G (.AugAssign (.Name x p) (opOf o) e pos) (.aug i o m) := fun f hip h1 h2 => by
    refine PS.imp (hp _ _ he hip) fun D σ H h => ?_
    obtain ⟨W, S, ρ, a, q⟩ := h
    obtain ⟨k, j, S1, hρ, ev⟩ := h2 ρ S W σ D q
    rw [h1 ρ S k j S1 hρ ev] at q
    have hi : i < ρ.length := (List.getElem?_eq_some_iff.mp hρ).1
    obtain ⟨v, g1, g2⟩ := a.sl.2.1 i _ hρ
    unfold Rep at g2; subst g2
    refine ⟨_, g1, W, S, ρ, a, _, S1, ev, fun W1 v e1 r1 p1 => ⟨k, j, rfl, repr_int p1, ?_⟩⟩
    have a1 := a.ext e1 r1
    exact q W1 _ e1.step ⟨rfl, r1, a1.sl.set hi (by unfold Rep; rfl)⟩ fun p z => .inl (own_set hi z)
  have inv : (o = .add ∨ o = .sub) → ∀ ρ S W σ D, Out X W σ ρ (ex Φ G (.aug i o m) ρ S) D → ∃ k j S1, ρ[i]? = some (Sl.val (.int k)) ∧ evR Φ G ρ m S = some (.val (.int j), S1) := fun ho ρ S W σ D q => by
    rw [ex] at q
    split at q
    · rename_i k hk
      obtain ⟨y, d, S1, ev, hd, q⟩ := bindD_some q
      cases d with
      | int j =>
        cases y with
        | val d' => cases hd; exact ⟨k, j, S1, hk, ev⟩
        | own _ => cases hd
        | bor _ => cases hd
        | ownd _ _ => cases hd
      | _ => rcases ho with rfl | rfl <;> exact q.elim
    · exact q.elim
  rcases ho with rfl | rfl
  · refine fin (fun i j => i + j) ip_add (fun ρ S k j S1 h1 h2 => ?_) (inv (.inl rfl))
    rw [ex, h1]
    dsimp only
    rw [h2]
    rfl
  · refine fin (fun i j => i - j) ip_sub (fun ρ S k j S1 h1 h2 => ?_) (inv (.inr rfl))
    rw [ex, h1]
    dsimp only
    rw [h2]
    rfl
theorem ds_sown {i : Nat} {o ix : Expr} {m mi : ME} (hp : ∀ te ti, PE X e te → PE X ix ti → PS X (.Assign [tg] e pos) (tAsg te (gSub (tVar i) ti rSetL))) (he : DE X Φ G e m) (hi : DE X Φ G ix mi) : DS X Φ G (.Assign [tg] e pos) (.sown i mi m) := by
  refine PS.imp (hp _ _ he hi) fun D σ H h => ?_
  obtain ⟨W, S, ρ, a, q⟩ := h
  rw [ex] at q
  obtain ⟨y, d, S1, ev1, hd, q⟩ := bindD_some q
  cases hρ : ρ[i]? with
  | none => rw [hρ] at q; exact q.elim
  | some sl =>
    rw [hρ] at q
    cases sl with
    | no => exact q.elim
    | val _ => exact q.elim
    | own ds =>
      dsimp only at q
      obtain ⟨z, S2, ev2, q⟩ := bindE_some q
      split at q
      · rename_i k
        split at q
        · rename_i j hj
          refine ⟨W, S, ρ, a, y, S1, ev1, fun W1 v e1 r1 p1 => ?_⟩
          obtain ⟨W2, eH, e2, r2, p2⟩ := p1.shut r1 e1 hd
          have a2 := a.ext e2 r2
          obtain ⟨p, vs, f1, f2, f3, f4, f5⟩ := a2.sl.2.2.1 i ds hρ
          refine ⟨.ref p, f1, ?_⟩
          have a2' := a2
          rw [eH] at a2'
          refine ⟨W2, S1, ρ, a2', _, S2, ev2, fun W3 v3 e3 r3 p3 => ?_⟩
          have a3 := a2.ext e3 r3
          obtain ⟨p', vs', g1, g2, g3, g4, g5⟩ := a3.sl.2.2.1 i ds hρ
          rw [f1] at g1; cases g1
          refine ⟨p, vs', k, j, rfl, repr_int p3, g2, by rw [g5.length]; exact hj, ?_⟩
          obtain ⟨b1, b2, b3⟩ := a3.putO hρ f1 (g5.set (Rep.ext r2 e3 _ _ p2) j)
          exact q ⟨W3.ms, W3.fz, _⟩ σ ((e2.trans e3).step.trans b2 fun p z => .inl z) b1 fun p' z => .inl (b3 p' z)
        · exact q.elim
      · exact q.elim
end
end Mi
end
noncomputable section
namespace Mi
open PySem PySem.Spec L2
section
variable {X : Cx} {Φ : Fns} {G : List D} {e1 e2 e3 : Expr} {st : Stmt}
theorem ds_par {i j : Nat} {oj : Bool} {m1 m2 : ME} (hp : ∀ ta, PA X [e1, e2] ta → PS X st (tPar i j ta)) (hs1 : starEach [e1, e2] X.env = (false, eval e1 X.env) :: starEach [e2] X.env) (hs2 : starEach [e2] X.env = (false, eval e2 X.env) :: starEach [] X.env)
    (h1 : DE X Φ G e1 m1) (h2 : DE X Φ G e2 m2) : DS X Φ G st (.par i j oj m1 m2) := by
  refine PS.imp (hp _ (pa_cons h1 (pa_cons h2 pa_nil hs2) hs1)) fun D σ H h => ?_
  obtain ⟨W, S, ρ, a, q⟩ := h
  rw [ex] at q
  obtain ⟨x, d, S1, ev1, hd, q⟩ := bindD_some q
  obtain ⟨r, S2, ev2, q⟩ := bindE_some q
  unfold tPar tCons tNil
  refine ⟨W, S, ρ, a, x, S1, ev1, fun W1 v1 f1 r1 p1 => ?_⟩
  obtain ⟨W1', eH, f1', r1', p1'⟩ := p1.shut r1 f1 hd
  rw [← eH]
  have a1 := a.ext f1' r1'
  refine ⟨W1', S1, ρ, a1, r, S2, ev2, fun W2 v2 f2 r2 p2 => ⟨v1, v2, rfl, ?_⟩⟩
  have f12 := f1'.trans f2
  have px := Rep.ext r1' f2 _ _ p1'
  cases oj with
  | false =>
    change Out X W σ ρ (match r.d.map Sl.val with
      | some y => if i < ρ.length ∧ j < ρ.length ∧ i ≠ j then SR.nx ((ρ.set i (.val d)).set j y) S2 else .er
      | none => .er) D at q
    cases hr : r.d with
    | none => rw [hr] at q; exact q.elim
    | some y =>
      rw [hr] at q
      dsimp only [Option.map_some] at q
      split at q
      · rename_i hij
        obtain ⟨W2', eH2, f2', r2', p2'⟩ := p2.shut r2 f2 hr
        rw [← eH2]
        have f13 := f1'.trans f2'
        have a2 := a.ext f13 r2'
        have s1 := a2.sl.set (d := d) (v := v1) hij.1 (Rep.ext r1' f2' _ _ p1')
        have s2 := s1.set (i := j) (d := y) (v := v2) (by rw [List.length_set]; exact hij.2.1) p2'
        exact q W2' _ f13.step ⟨rfl, r2', s2⟩ fun p z => .inl (own_set hij.1 (own_set (by rw [List.length_set]; exact hij.2.1) z))
      · exact q.elim
  | true =>
    cases r with
    | val _ => exact q.elim
    | bor _ => exact q.elim
    | ownd _ _ => exact q.elim
    | own ds =>
      change Out X W σ ρ (if i < ρ.length ∧ j < ρ.length ∧ i ≠ j then SR.nx ((ρ.set i (.val d)).set j (.own ds)) S2 else .er) D at q
      split at q
      · rename_i hij
        obtain ⟨p, vs, rfl, g2, g3, g4, g0, g5⟩ := p2
        have a2 := a.ext f12 r2
        have s1 := a2.sl.set (d := d) (v := v1) hij.1 px
        have hj : j < (ρ.set i (.val d)).length := by rw [List.length_set]; exact hij.2.1
        have hσ : j < (σ.set i (some v1)).length := by rw [List.length_set, a.sl.1]; exact hij.2.1
        have g0' : W.H p = none := f1'.free g0
        refine q W2 _ f12.step ⟨rfl, r2, s1.setO hj g2 g3 g4 g5 fun k ds' n e z => ?_⟩ fun p' z => ?_
        · have hki : k ≠ i := fun y => by
            subst y
            rw [List.getElem?_set_self hij.1] at e
            cases e
          rw [List.getElem?_set_ne (Ne.symm hki)] at e z
          obtain ⟨p', us, y1, y2, _⟩ := a.sl.2.2.1 k ds' e
          rw [z] at y1; cases y1
          rw [g0'] at y2; cases y2
        · rcases own_setO hj hσ z with y | y
          · exact .inl (own_set hij.1 y)
          · subst y; exact .inr g0'
      · exact q.elim

theorem ds_parT {i j : Nat} {oj : Bool} {m1 m2 : ME} (hp : ∀ ta, PA X [e1, e2] ta → PS X st (tAsg (tTup ta) (gTup X.K 2 (gCons (gName i) (gCons (gName j) gNil))))) (hs1 : starEach [e1, e2] X.env = (false, eval e1 X.env) :: starEach [e2] X.env) (hs2 : starEach [e2] X.env = (false, eval e2 X.env) :: starEach [] X.env)
    (h1 : DE X Φ G e1 m1) (h2 : DE X Φ G e2 m2) : DS X Φ G st (.par i j oj m1 m2) := by
  refine PS.imp (hp _ (pa_cons h1 (pa_cons h2 pa_nil hs2) hs1)) fun D σ H h => ?_
  obtain ⟨W, S, ρ, a, q⟩ := h
  rw [ex] at q
  obtain ⟨x, d, S1, ev1, hd, q⟩ := bindD_some q
  obtain ⟨r, S2, ev2, q⟩ := bindE_some q
  unfold tAsg tTup tCons tNil
  refine ⟨W, S, ρ, a, x, S1, ev1, fun W1 v1 f1 r1 p1 => ?_⟩
  obtain ⟨W1', eH, f1', r1', p1'⟩ := p1.shut r1 f1 hd
  rw [← eH]
  have a1 := a.ext f1' r1'
  refine ⟨W1', S1, ρ, a1, r, S2, ev2, fun W20 v2 f20 r20 p20 => ⟨(show 2 ≤ sizeLine by decide), fun pt hpt => ⟨pt, [v1, v2], rfl, .inl (.inl upd_same), rfl, v1, [v2], rfl, v2, [], rfl, rfl, ?_⟩⟩⟩
  obtain ⟨W2, eW2⟩ : ∃ W2 : Wd, W2 = ⟨W20.ms, W20.fz, upd W20.H pt (.tup [v1, v2])⟩ := ⟨_, rfl⟩
  have eH20 : upd W20.H pt (.tup [v1, v2]) = W2.H := by rw [eW2]
  have f02 : Ext W20 W2 := eW2 ▸ Ext.laid hpt
  have r2 : Rel X.K W2 S2 := eW2 ▸ r20.laid hpt
  have f2 := f20.trans f02
  have p2 := p20.ext r20 f02
  rw [eH20]
  have f12 := f1'.trans f2
  have px := Rep.ext r1' f2 _ _ p1'
  cases oj with
  | false =>
    change Out X W σ ρ (match r.d.map Sl.val with
      | some y => if i < ρ.length ∧ j < ρ.length ∧ i ≠ j then SR.nx ((ρ.set i (.val d)).set j y) S2 else .er
      | none => .er) D at q
    cases hr : r.d with
    | none => rw [hr] at q; exact q.elim
    | some y =>
      rw [hr] at q
      dsimp only [Option.map_some] at q
      split at q
      · rename_i hij
        obtain ⟨W2', eH2, f2', r2', p2'⟩ := p2.shut r2 f2 hr
        rw [← eH2]
        have f13 := f1'.trans f2'
        have a2 := a.ext f13 r2'
        have s1 := a2.sl.set (d := d) (v := v1) hij.1 (Rep.ext r1' f2' _ _ p1')
        have s2 := s1.set (i := j) (d := y) (v := v2) (by rw [List.length_set]; exact hij.2.1) p2'
        exact q W2' _ f13.step ⟨rfl, r2', s2⟩ fun p z => .inl (own_set hij.1 (own_set (by rw [List.length_set]; exact hij.2.1) z))
      · exact q.elim
  | true =>
    cases r with
    | val _ => exact q.elim
    | bor _ => exact q.elim
    | ownd _ _ => exact q.elim
    | own ds =>
      change Out X W σ ρ (if i < ρ.length ∧ j < ρ.length ∧ i ≠ j then SR.nx ((ρ.set i (.val d)).set j (.own ds)) S2 else .er) D at q
      split at q
      · rename_i hij
        obtain ⟨p, vs, rfl, g2, g3, g4, g0, g5⟩ := p2
        have a2 := a.ext f12 r2
        have s1 := a2.sl.set (d := d) (v := v1) hij.1 px
        have hj : j < (ρ.set i (.val d)).length := by rw [List.length_set]; exact hij.2.1
        have hσ : j < (σ.set i (some v1)).length := by rw [List.length_set, a.sl.1]; exact hij.2.1
        have g0' : W.H p = none := f1'.free g0
        refine q W2 _ f12.step ⟨rfl, r2, s1.setO hj g2 g3 g4 g5 fun k ds' n e z => ?_⟩ fun p' z => ?_
        · have hki : k ≠ i := fun y => by
            subst y
            rw [List.getElem?_set_self hij.1] at e
            cases e
          rw [List.getElem?_set_ne (Ne.symm hki)] at e z
          obtain ⟨p', us, y1, y2, _⟩ := a.sl.2.2.1 k ds' e
          rw [z] at y1; cases y1
          rw [g0'] at y2; cases y2
        · rcases own_setO hj hσ z with y | y
          · exact .inl (own_set hij.1 y)
          · subst y; exact .inr g0'
      · exact q.elim
theorem ds_par3 {i j l : Nat} {m1 m2 m3 : ME} (hp : ∀ ta, PA X [e1, e2, e3] ta → PS X st (tPar3 i j l ta)) (hs1 : starEach [e1, e2, e3] X.env = (false, eval e1 X.env) :: starEach [e2, e3] X.env) (hs2 : starEach [e2, e3] X.env = (false, eval e2 X.env) :: starEach [e3] X.env) (hs3 : starEach [e3] X.env = (false, eval e3 X.env) :: starEach [] X.env)
    (h1 : DE X Φ G e1 m1) (h2 : DE X Φ G e2 m2) (h3 : DE X Φ G e3 m3) : DS X Φ G st (.par3 i j l m1 m2 m3) := by
  refine PS.imp (hp _ (pa_cons h1 (pa_cons h2 (pa_cons h3 pa_nil hs3) hs2) hs1)) fun D σ H h => ?_
  obtain ⟨W, S, ρ, a, q⟩ := h
  rw [ex] at q
  obtain ⟨x, d, S1, ev1, hd, q⟩ := bindD_some q
  obtain ⟨x2, d2, S2, ev2, hd2, q⟩ := bindD_some q
  obtain ⟨x3, d3, S3, ev3, hd3, q⟩ := bindD_some q
  split at q
  · rename_i hij
    unfold tPar3 tCons tNil
    refine ⟨W, S, ρ, a, x, S1, ev1, fun W1 v1 f1 r1 p1 => ?_⟩
    obtain ⟨W1', eH, f1', r1', p1'⟩ := p1.shut r1 f1 hd
    rw [← eH]
    have a1 := a.ext f1' r1'
    refine ⟨W1', S1, ρ, a1, x2, S2, ev2, fun W2 v2 f2 r2 p2 => ?_⟩
    obtain ⟨W2', eH2, f2', r2', p2'⟩ := p2.shut r2 f2 hd2
    rw [← eH2]
    have a2 := a1.ext f2' r2'
    refine ⟨W2', S2, ρ, a2, x3, S3, ev3, fun W3 v3 f3 r3 p3 => ?_⟩
    obtain ⟨W3', eH3, f3', r3', p3'⟩ := p3.shut r3 f3 hd3
    refine ⟨v1, v2, v3, rfl, ?_⟩
    rw [← eH3]
    have f13 := (f1'.trans f2').trans f3'
    have a3 := a.ext f13 r3'
    have s1 := a3.sl.set (d := d) (v := v1) hij.1 (Rep.ext r2' f3' _ _ (Rep.ext r1' f2' _ _ p1'))
    have hj : j < (ρ.set i (.val d)).length := by rw [List.length_set]; exact hij.2.1
    have s2 := s1.set (i := j) (d := d2) (v := v2) hj (Rep.ext r2' f3' _ _ p2')
    have hl : l < ((ρ.set i (.val d)).set j (.val d2)).length := by rw [List.length_set, List.length_set]; exact hij.2.2.1
    have s3 := s2.set (i := l) (d := d3) (v := v3) hl p3'
    exact q W3' _ f13.step ⟨rfl, r3', s3⟩ fun p z => .inl (own_set hij.1 (own_set hj (own_set hl z)))
  · exact q.elim
end
end Mi
end
noncomputable section
namespace Mi
open PySem PySem.Spec L2

section
variable {X : Cx} {o e e1 e2 tg : Expr} {es : List Expr} {pos apos p p2 : Pos} {m x : Str} {C : Addr} {ta : TE} {t : TA} {sp : Sp} {fa : Addr} {fd : FuncData} {k : Nat} {ps : List Str}
theorem pe_methG {pl : Sem Bool} (he : PE X o ta) (c : Cls X.K C) (hm : Meth X.K C m fa) (F : FnG X.prog X.w X.K X.mg X.base k fa fd ps sp) (hA : X.A.guards = some []) (hr : Room k X.A) (hb : Binds X.K fd ps []) (ha : PA X (e :: es) t)
    (hst : starEach (e :: es) X.env = (false, eval e X.env) :: starEach es X.env) (hpl : (backTo pos (starEach es X.env)).any (·.1) = false)
    (ht : eval (.Call (.Attribute o m apos) (e :: es) [] pos) X.env = (do
      let ov ← eval o X.env
      standAt apos.atName
      let (f, first) ← holding [ov] (getMethod ov m pl)
      callWith pos f first (backTo pos (starEach (e :: es) X.env)) (backToKw pos (keywordEach [] X.env))) := by rfl) :
    PE X (.Call (.Attribute o m apos) (e :: es) [] pos) (tMeth C m sp [] E0 ta t) := by
  refine ⟨fun pins s σ H Q I h => ?_⟩
  refine PySem.W.methodCall_KW (pl := pl) (thn (he.run pins s σ H _ I h) fun u s1 ⟨x, H1, I1, rx, a, dx, fs, ex, ea, l, q⟩ => ?_) ht
  subst ex; obtain rfl : u = Value.ref a := rx
  refine getmeth_ok I1 ea c hm l (PySem.W.callWith_K (first := [.ref a]) (h₀ := X.base) I.ok.mod.kin hm.kp (thn (ha.run pos pins s1 σ H1 _ I1 q) fun us s2 ⟨vs, H2, I2, r, q2⟩ => ⟨I2.kIn, ?_⟩) hst hpl)
  have q2 : sp (V.ref a :: vs) H2 Q E0 := by
    have z : sp (V.ref a :: (vs ++ [])) H2 Q E0 := q2
    rwa [List.append_nil] at z
  have r2 : Vals (V.ref a :: vs) (Value.ref a :: us) := .cons rfl r
  have hl : (Value.ref a :: us).length = ps.length := by rw [← r2.length]; exact F.len _ _ _ _ q2
  have bnd : BindsTo s2 fd ⟨Value.ref a :: us, []⟩ (ps.zip (Value.ref a :: us)) := by
    have z := hb s2 (Value.ref a :: us) I2.kIn (by rw [List.append_nil]; exact hl)
    rwa [List.append_nil] at z
  refine wpAny_call (codeAny_mono (F.run X.A X.stack s2 H2 ⟨Value.ref a :: us, []⟩ _ _ Q E0 hA hr I2.env0 bnd r2 q2) fun r s' hq => ?_)
  cases r with
  | error e => exact False.elim hq
  | ok fl =>
    cases fl with
    | ret u => exact I2.after hq
    | next => exact False.elim hq
    | brk => exact False.elim hq
    | cont => exact False.elim hq
theorem pe_methG0 {pl : Sem Bool} (he : PE X o ta) (c : Cls X.K C) (hm : Meth X.K C m fa) (F : FnG X.prog X.w X.K X.mg X.base k fa fd ps sp) (hA : X.A.guards = some []) (hr : Room k X.A) (hb : Binds X.K fd ps [])
    (ht : eval (.Call (.Attribute o m apos) [] [] pos) X.env = (do
      let ov ← eval o X.env
      standAt apos.atName
      let (f, first) ← holding [ov] (getMethod ov m pl)
      callWith pos f first (backTo pos (starEach [] X.env)) (backToKw pos (keywordEach [] X.env))) := by rfl) :
    PE X (.Call (.Attribute o m apos) [] [] pos) (tMeth C m sp [] E0 ta tNil) := by
  refine ⟨fun pins s σ H Q I h => ?_⟩
  refine PySem.W.methodCall_KW (pl := pl) (thn (he.run pins s σ H _ I h) fun u s1 ⟨x, H1, I1, rx, a, dx, fs, ex, ea, l, q⟩ => ?_) ht
  subst ex; obtain rfl : u = Value.ref a := rx
  refine getmeth_ok I1 ea c hm l (PySem.W.callWith_K0 (first := [.ref a]) I1.kIn hm.kp ?_)
  have q2 : sp [V.ref a] H1 Q E0 := q
  have r2 : Vals [V.ref a] [Value.ref a] := .cons rfl .nil
  have hl : [Value.ref a].length = ps.length := by rw [← r2.length]; exact F.len _ _ _ _ q2
  have bnd : BindsTo s1 fd ⟨[Value.ref a], []⟩ (ps.zip [Value.ref a]) := by
    have z := hb s1 [Value.ref a] I1.kIn (by rw [List.append_nil]; exact hl)
    rwa [List.append_nil] at z
  refine wpAny_call (codeAny_mono (F.run X.A X.stack s1 H1 ⟨[Value.ref a], []⟩ _ _ Q E0 hA hr I1.env0 bnd r2 q2) fun r s' hq => ?_)
  cases r with
  | error e => exact False.elim hq
  | ok fl =>
    cases fl with
    | ret u => exact I1.after hq
    | next => exact False.elim hq
    | brk => exact False.elim hq
    | cont => exact False.elim hq
theorem pe_makeG (M : Mk X.K C fa) (F : FnG X.prog X.w X.K X.mg X.base k fa fd ps sp) (hA : X.A.guards = some []) (hr : Room (k + 1) X.A) (hg : Gl X x) (hm : X.mg x = some (.ref C)) (hb : Binds X.K fd ps []) (ha : PA X (e :: es) t)
    (hdb : (x == ("__debug__" : Str)) = false) (he : starEach (e :: es) X.env = (false, eval e X.env) :: starEach es X.env) (hpl : (backTo pos (starEach es X.env)).any (·.1) = false) : PE X (.Call (.Name x p) (e :: es) [] pos) (tMake C sp [] E0 t) := by
  refine ⟨fun pins s σ H Q I h => ?_⟩
  refine wpAny_Call_Name_kw (ld_glob I hg hm ?_ hdb)
  refine PySem.W.callWith_K (h₀ := X.base) I.ok.mod.kin M.kp (thn (ha.run pos pins s σ H _ I h) fun us s1 ⟨vs, H1, I1, r, q⟩ => ⟨I1.kIn, ?_⟩) he hpl
  have hq := q (s1.heap.objs.size + 1) s1.heap.objs.size (I1.hok.fresh (Nat.le_succ _)) (I1.hok.fresh (Nat.le_refl _)) (Nat.ne_of_lt (Nat.lt_succ_self _))
  rw [List.append_nil] at hq
  have I2 := Inv.made (C := C) I1
  have r2 : Vals (V.ref (s1.heap.objs.size + 1) :: vs) (Value.ref (s1.heap.objs.size + 1) :: us) := .cons rfl r
  have hl : (Value.ref (s1.heap.objs.size + 1) :: us).length = ps.length := by rw [← r2.length]; exact F.len _ _ _ _ hq
  refine wpAny_call (make_map (f := fa) I1.kIn M.makes M.init (beq_iff_eq.mp M.fn) (codeAny_mono (F.run _ X.stack _ _ ⟨Value.ref (s1.heap.objs.size + 1) :: us, []⟩ _ _ _ E0 hA (hr.make C us []) (I2.env0.make C us []) ?_ r2 hq) fun r s' hq' => ?_))
  · have z := hb _ (Value.ref (s1.heap.objs.size + 1) :: us) I2.kIn (by rw [List.append_nil]; exact hl)
    rw [List.append_nil] at z
    exact z
  · cases r with
    | error e => exact False.elim hq'
    | ok fl =>
      cases fl with
      | ret u =>
        obtain ⟨v, H', I3, rv, ev, q3⟩ := I2.after hq'
        subst ev
        exact ⟨rv, ⟨V.ref (s1.heap.objs.size + 1), H', I3, rfl, q3⟩⟩
      | next => exact False.elim hq'
      | brk => exact False.elim hq'
      | cont => exact False.elim hq'
end
end Mi
end
noncomputable section
namespace Mi
open PySem PySem.Spec L2

section
variable {K : PySem.W.Frag} {W : Wd}
theorem look_zip : ∀ {ns : List Str} {ds : List D} {vs : List V} {f : Str} {d : D}, RepL K W ds vs → valF ns ds f = some d → ∃ v, (ns.zip vs).lookup f = some v ∧ Rep K W d v
  | [], _, _, _, _, _, h => by cases h
  | _ :: _, [], _, _, _, _, h => by cases h
  | n :: ns, x :: ds, vs, f, d, r, h => by
    obtain ⟨w, us, rfl, r1, r2⟩ := r.cons_inv
    unfold valF at h
    rw [List.zip_cons_cons, List.lookup_cons]
    split at h
    · rename_i e
      subst e; cases h
      exact ⟨w, by rw [beq_self_eq_true], r1⟩
    · rename_i e
      have e2 : (f == n) = false := beq_eq_false_iff_ne.mpr (Ne.symm e)
      rw [e2]
      exact look_zip r2 h
theorem nolook_zip : ∀ {ns : List Str} {vs : List V} {f : Str}, f ∉ ns → (ns.zip vs).lookup f = none
  | [], _, _, _ => rfl
  | _ :: _, [], _, _ => rfl
  | n :: ns, v :: vs, f, h => by
    rw [List.zip_cons_cons, List.lookup_cons]
    have e2 : (f == n) = false := beq_eq_false_iff_ne.mpr fun e => h (e ▸ List.mem_cons_self)
    rw [e2]
    exact nolook_zip fun z => h (List.mem_cons_of_mem _ z)
theorem putF_zip {f : Str} {d : D} {v : V} (hv : Rep K W d v) : ∀ {ns : List Str} {ds : List D} {vs : List V}, ns.length = ds.length → RepL K W ds vs → ∃ ws, putF f v (ns.zip vs) = (putFn ns f).zip ws ∧ (putFn ns f).length = (putFd ns ds f d).length ∧ RepL K W (putFd ns ds f d) ws
  | [], [], vs, _, h => by
    rw [h.nil_inv]
    exact ⟨[v], rfl, rfl, .cons hv .nil⟩
  | [], _ :: _, _, e, _ => by cases e
  | _ :: _, [], _, e, _ => by cases e
  | n :: ns, x :: ds, _, hl, h => by
    obtain ⟨w, r, rfl, h1, h2⟩ := h.cons_inv
    rw [List.zip_cons_cons]
    unfold putF putFn putFd
    by_cases hk : n = f
    · rw [if_pos hk, if_pos hk, if_pos hk]
      exact ⟨v :: r, by rw [List.zip_cons_cons], by simpa using hl, .cons hv h2⟩
    · rw [if_neg hk, if_neg hk, if_neg hk]
      obtain ⟨ws, e1, e2, e3⟩ := putF_zip hv (show ns.length = ds.length by simpa using hl) h2
      exact ⟨w :: ws, by rw [e1, List.zip_cons_cons], by rw [List.length_cons, List.length_cons, e2], .cons h1 e3⟩
end
section
variable {X : Cx} {Φ : Fns} {G : List D} {o e e1 e2 tg : Expr} {es : List Expr} {pos apos p p2 : Pos} {m x c f : Str} {C : Addr} {fa : Addr} {fd : FuncData} {k : Nat} {ps : List Str} {mo me : ME} {ms : MEs}
theorem de_fld (hC : PySem.W.nsIn X.K mainGlobals c = some (some (.ref C))) (hc : Cls X.K C) (hn : NoAttr X.K C f) (hb : attributeBase o f X.env (eval o X.env) = eval o X.env) (h : DE X Φ G o mo) : DE X Φ G (.Attribute o f pos) (.fld c mo f) := by
  refine PE.imp (pe_fld h hb) fun σ H Q h => ?_
  obtain ⟨W, S, ρ, a, r, S', ev, q⟩ := h
  rw [evR] at ev
  obtain ⟨⟨x, S1⟩, ev1, ev⟩ := Mi.bind_some ev
  obtain ⟨l, hl, ev⟩ := Mi.bind_some ev
  obtain ⟨⟨c', ns, ds⟩, ht, ev⟩ := Mi.bind_some ev
  dsimp only at ev
  split at ev
  · rename_i e0
    obtain ⟨d, hd, ev⟩ := map_some ev
    cases ev
    refine ⟨W, S, ρ, a, x, _, ev1, fun W1 v1 e1 r1 p1 => ?_⟩
    have hx : x = .val (.ref l) := ref?_some hl
    subst hx
    have p1' : Rep X.K W1 (.ref l) v1 := p1
    unfold Rep at p1'
    obtain ⟨ad, rfl, hms⟩ := p1'
    obtain ⟨b, C', dx, vs, h1, h2, h3, h4, h5⟩ := r1.cello l _ ns ds (cellO_some ht)
    rw [hms] at h1; cases h1
    rw [e0, hC] at h2; cases h2
    obtain ⟨w, g1, g2⟩ := look_zip h5 hd
    exact ⟨ad, C, dx, _, w, rfl, h3, hc, hn, g1, q W1 w e1 r1 g2⟩
  · cases ev

theorem meth_imp (hC : PySem.W.nsIn X.K mainGlobals c = some (some (.ref C))) {g : Nat} {σ : St} {H : Hp} {Q : VK} (h : tR X.K Φ G (.meth c m g mo ms) σ H Q) : tMeth C m (spF X.K Φ g) [] E0 (tR X.K Φ G mo) (tDs X.K Φ G ms) σ H Q := by
  obtain ⟨W, S, ρ, a, r, S', ev, q⟩ := h
  rw [evR] at ev
  obtain ⟨⟨x, S1⟩, ev1, evb⟩ := Mi.bind_some ev
  obtain ⟨l, hl, evc⟩ := Mi.bind_some evb
  obtain ⟨⟨c', ns, ds⟩, ht, evd⟩ := Mi.bind_some evc
  dsimp only at evd
  split at evd
  · rename_i e0
    obtain ⟨e0, hm⟩ := e0
    obtain ⟨⟨as, S2⟩, ev2, eve⟩ := Mi.bind_some evd
    refine ⟨W, S, ρ, a, x, S1, ev1, fun W1 v1 e1 r1 p1 => ?_⟩
    have hx : x = .val (.ref l) := ref?_some hl
    subst hx
    have p1' : Rep X.K W1 (.ref l) v1 := p1
    have p1s := p1'
    unfold Rep at p1'
    obtain ⟨ad, rfl, hms⟩ := p1'
    obtain ⟨b, C', dx, vs, h1, h2, h3, h4, h5⟩ := r1.cello l _ ns ds (cellO_some ht)
    rw [hms] at h1; cases h1
    rw [e0, hC] at h2; cases h2
    refine ⟨ad, dx, _, rfl, h3, nolook_zip hm, W1, S1, ρ, a.ext e1 r1, as, S2, ev2, fun W2 us e2 r2 p2 => ?_⟩
    show spF X.K Φ g (.ref ad :: (us ++ [])) W2.H Q E0
    rw [List.append_nil]
    exact ⟨W2, S2, .ref l :: as, rfl, r2, .cons (Rep.ext r1 e2 _ _ p1s) p2, r, S', eve, fun W3 v e3 r3 p3 => q W3 v ((e1.trans e2).trans e3) r3 (p3.back (e1.trans e2))⟩
  · cases evd
theorem de_meth {g : Nat} (hC : PySem.W.nsIn X.K mainGlobals c = some (some (.ref C))) (hp : PE X o (tR X.K Φ G mo) → PA X es (tDs X.K Φ G ms) → PE X e (tMeth C m (spF X.K Φ g) [] E0 (tR X.K Φ G mo) (tDs X.K Φ G ms))) (h : DE X Φ G o mo) (ha : DAs X Φ G es ms) : DE X Φ G e (.meth c m g mo ms) :=
  PE.imp (hp h ha) fun σ H Q h => meth_imp hC h
theorem de_meth0 {g : Nat} (hC : PySem.W.nsIn X.K mainGlobals c = some (some (.ref C))) (hp : PE X o (tR X.K Φ G mo) → PE X e (tMeth C m (spF X.K Φ g) [] E0 (tR X.K Φ G mo) tNil)) (h : DE X Φ G o mo) : DE X Φ G e (.meth c m g mo .nil) := by
  refine PE.imp (hp h) fun σ H Q h => ?_
  refine tR_mono (meth_imp (C := C) hC h) fun x H1 ⟨a, dx, fs, e1, e2, e3, W, S, ρ, at', ds, S', ev, q⟩ => ⟨a, dx, fs, e1, e2, e3, ?_⟩
  rw [evs] at ev
  cases ev
  have := q W [] (Ext.refl W) at'.rel .nil
  rw [at'.1] at this
  exact this
theorem de_make {g : Nat} (hC : PySem.W.nsIn X.K mainGlobals c = some (some (.ref C))) (hp : PA X es (tDs X.K Φ G ms) → PE X e (tMake C (spF X.K Φ g) [] E0 (tDs X.K Φ G ms))) (ha : DAs X Φ G es ms) : DE X Φ G e (.make c g ms) := by
  refine PE.imp (hp ha) fun σ H Q h => ?_
  obtain ⟨W, S, ρ, a, r, S', ev, q⟩ := h
  rw [evR] at ev
  obtain ⟨⟨as, S1⟩, ev1, ev⟩ := Mi.bind_some ev
  obtain ⟨⟨y, S2⟩, ev2, ev⟩ := Mi.bind_some ev
  obtain ⟨d, hd, ev⟩ := Mi.bind_some ev
  dsimp only at ev ev2 hd
  split at ev
  · rename_i hN
    cases ev
    refine ⟨W, S, ρ, a, as, S1, ev1, fun W1 us e1 r1 p1 x dx hx hdx hne => ?_⟩
    show spF X.K Φ g (.ref x :: (us ++ [])) _ _ E0
    rw [List.append_nil]
    have ea : Ext W1 ⟨W1.ms, W1.fz, upd W1.H dx (.own x)⟩ := Ext.laid hdx
    have ra : Rel X.K ⟨W1.ms, W1.fz, upd W1.H dx (.own x)⟩ S1 := r1.laid hdx
    have hx1 : (upd W1.H dx (.own x)) x = none := by rw [upd_ne (Ne.symm hne)]; exact hx
    have eb : Ext ⟨W1.ms, W1.fz, upd W1.H dx (.own x)⟩ ⟨W1.ms, W1.fz, upd (upd W1.H dx (.own x)) x (.ins C dx [])⟩ := Ext.laid (W := ⟨W1.ms, W1.fz, upd W1.H dx (.own x)⟩) hx1
    have rb : Rel X.K ⟨W1.ms, W1.fz, upd (upd W1.H dx (.own x)) x (.ins C dx [])⟩ S1 := ra.laid hx1
    obtain ⟨n1, n2⟩ := r1.pms hx
    have e2 : Ext W1 ⟨W1.ms ++ [x], W1.fz, upd (upd W1.H dx (.own x)) x (.ins C dx [])⟩ := (ea.trans eb).add hx
    have r2 : Rel X.K ⟨W1.ms ++ [x], W1.fz, upd (upd W1.H dx (.own x)) x (.ins C dx [])⟩ (S1 ++ [.obj c [] []]) := rb.add (p := x) n1 n2 (c := .obj c [] []) ⟨C, dx, [], hC, upd_same, rfl, .nil⟩ fun _ _ => RepL.add _ _
    have px : Rep X.K ⟨W1.ms ++ [x], W1.fz, upd (upd W1.H dx (.own x)) x (.ins C dx [])⟩ (.ref S1.length) (.ref x) := by
      unfold Rep
      refine ⟨x, rfl, ?_⟩
      show (W1.ms ++ [x])[S1.length]? = _
      rw [List.getElem?_append_right (by rw [r1.len]; exact Nat.le_refl _), r1.len, Nat.sub_self]; rfl
    refine ⟨_, _, .ref S1.length :: as, rfl, r2, .cons px (RepL.ext r1 e2 _ _ p1), y, _, ev2, fun W3 v e3 r3 p3 => ⟨?_, q W3 _ (e1.trans (e2.trans e3)) r3 (Rep.ext r2 e3 _ _ px)⟩⟩
    have hy := val?_some (r := y) hd
    subst hy
    have p3 : Rep X.K W3 d v := p3
    cases d with
    | non => unfold Rep at p3; exact p3
    | _ => cases hN
  · cases ev
end
end Mi
end
noncomputable section
namespace Mi
open PySem PySem.Spec L2
section
variable {X : Cx} {Φ : Fns} {G : List D} {o e e1 e2 tg : Expr} {es : List Expr} {pos apos cpos p p2 : Pos} {m x c f : Str} {C : Addr} {k : Nat} {mo me m1 m2 : ME} {ms : MEs}

theorem ds_setf {s : Stmt} (hC : PySem.W.nsIn X.K mainGlobals c = some (some (.ref C))) (hc : Cls X.K C) (hn : NoAttr X.K C f) (hp : PE X o (tR X.K Φ G mo) → PE X e (tR X.K Φ G me) → PS X s (sFld X.K (tR X.K Φ G mo) (tR X.K Φ G me) f)) (ho : DE X Φ G o mo) (he : DE X Φ G e me) : DS X Φ G s (.setf c mo f me) := by
  refine PS.imp (hp ho he) fun D σ H h => ?_
  obtain ⟨W, S, ρ, a, q⟩ := h
  rw [ex] at q
  obtain ⟨y, d, S1, ev1, hd, q⟩ := bindD_some q
  obtain ⟨z, S2, ev2, q⟩ := bindE_some q
  cases hz : (z.ref?.bind fun l => (cellO S2 l).map fun t => (l, t)) with
  | none => rw [hz] at q; exact q.elim
  | some lt =>
    obtain ⟨l, c', ns, ds⟩ := lt
    rw [hz] at q
    dsimp only at q
    obtain ⟨l', hl, hz⟩ := Mi.bind_some hz
    obtain ⟨t, ht, hz⟩ := map_some hz
    cases hz
    have hx := ref?_some hl
    split at q
    · rename_i hsz
      refine ⟨W, S, ρ, a, y, S1, ev1, fun W1 v e1 r1 p1 => ?_⟩
      obtain ⟨W2, eH, e2, r2, p2⟩ := p1.shut r1 e1 hd
      have a2 := a.ext e2 r2
      rw [eH] at a2
      refine ⟨W2, S1, ρ, a2, z, S2, ev2, fun W3 v3 e3 r3 p3 => ?_⟩
      have a3 := (a.ext e2 r2).ext e3 r3
      rw [hx] at p3
      have p3' : Rep X.K W3 (.ref l) v3 := p3
      unfold Rep at p3'
      obtain ⟨ad, rfl, hms⟩ := p3'
      obtain ⟨b, C', dx, vs, h1, h2, h3, h4, h5⟩ := r3.cello l _ ns ds (cellO_some ht)
      rw [hms] at h1; cases h1
      rw [hsz.1, hC] at h2; cases h2
      have rv : Rep X.K W3 d v := Rep.ext r2 e3 _ _ p2
      obtain ⟨ws, g1, g2, g3⟩ := putF_zip (f := f) rv h4 h5
      refine ⟨ad, C, dx, _, rfl, h3, hc, hn, by rw [List.length_zip]; omega, ?_⟩
      have e4 : Ext W3 ⟨W3.ms, W3.fz, upd W3.H ad (.ins C dx (putF f v (ns.zip vs)))⟩ := Ext.put r3 hms
      have r4 : Rel X.K ⟨W3.ms, W3.fz, upd W3.H ad (.ins C dx (putF f v (ns.zip vs)))⟩ (S2.set l (.obj c (putFn ns f) (putFd ns ds f d))) := r3.putC hms ⟨C, dx, ws, hC, by rw [← g1]; exact upd_same, g2, RepL.ext r3 e4 _ _ g3⟩
      exact q ⟨W3.ms, W3.fz, _⟩ σ ((e2.trans e3).trans e4).step (a3.ext e4 r4) fun p z => .inl z
    · exact q.elim

end
end Mi
end
noncomputable section
namespace Mi
open PySem PySem.Spec L2
section
variable {X : Cx} {Φ : Fns} {G : List D} {o e e1 e2 tg : Expr} {es : List Expr} {pos apos cpos p p2 : Pos} {m x c f : Str} {C : Addr} {k : Nat} {mo me m1 m2 : ME} {ms : MEs}

theorem tyL {W0 W : Wd} {S : Sto} {a : Rt} {x : V} (rel : Rel X.K W S) (ra : RepR X.K W0 W x a) (h : ∃ l, a = .val (.ref l) ∧ (cellL S l).isSome = true) : tyV X.K "list" x W.H := by
  obtain ⟨l, rfl, h⟩ := h
  cases hc : cellL S l with
  | none => rw [hc] at h; cases h
  | some ds =>
    obtain ⟨p, vs, rfl, _, h2, _⟩ := cell_ty rel ra (cellL_some hc)
    exact .inl ⟨rfl, vs, .inl (.inl h2)⟩
end
end Mi
end
noncomputable section
namespace Mi
open PySem PySem.Spec L2 PyProof.Rows

structure KeySc (x : Str) (sc : Scope) : Prop where
  kind : sc.kind = .function
  co : sc.isCoroutine = false
  gen : sc.isGenerator = false
  loc : sc.names.lookup x = some .local
  len : sc.names.lookup ("len" : Str) = some .globalImplicit
  all : ∀ y ∈ sc.names, y.2 ≠ .cell ∧ y.2 ≠ .free
noncomputable def oneArg : Arguments → Bool
  | ⟨[], [⟨y, _, _⟩], none, [], [], none, []⟩ => decide (y = "cells")
  | _ => false
section
variable {prog : Program} {w : World} {A : Around} {E : Value → Shared → Prop} {s : Shared} {mg mb : Str → Option Value}

noncomputable def TupLI (h : Heap) (b : Addr) (k : List Int) : Prop := ∃ its : List Value, Vals (k.map V.int) its ∧ IsTup h b its.toArray ∧ its.length ≤ sizeLine
theorem TupLI.keeps {h h' : Heap} {b : Addr} {k : List Int} (t : TupLI h b k) (kp : ∀ b o, h.get? b = some o → h'.get? b = some o) : TupLI h' b k := by
  obtain ⟨its, r, ⟨o, e, c⟩, z⟩ := t
  exact ⟨its, r, ⟨o, kp _ _ e, c⟩, z⟩
theorem reads_ints {h : Heap} : ∀ {k : List Int} {its : List Value}, Vals (k.map V.int) its → ReadsAll h its (k.map .int) []
  | [], _, r => by rw [List.map_nil] at r; cases r; exact .nil
  | i :: k, _, r => by
    rw [List.map_cons] at r
    cases r with
    | cons a t =>
      obtain ⟨u, rfl⟩ := a
      exact .cons (as := []) (bs := []) (.int _ _) (reads_ints t)
theorem TupLI.reads {h : Heap} {b : Addr} {k : List Int} (t : TupLI h b k) : Reads h (.ref b) (.tuple (k.map .int)) [] := by
  obtain ⟨its, r, ⟨o, e, c, n, d⟩, z⟩ := t
  exact .tuple e c d (by simpa using reads_ints r)
structure LamAt (s : Shared) (mg : Str → Option Value) (f c' : Addr) (q : Str) (params : Arguments) (body : Expr) (scope : Scope) (cl : List (Str × Addr)) (pm ctv : Value) : Prop where
  sc : KeySc "cells" scope
  arg : oneArg params = true
  lim : s.heap.NoLimit
  obj : s.heap.get? f = some (PySem.W.kla_obj "<lambda>" q params body scope cl pm c' ctv)
  code : s.heap.CodeRec (.ref c') q
  glob : s.heap.Ns mainGlobals mg
  len : mg "len" = none
  blt : ∃ mb, s.heap.Ns builtinsNs mb ∧ mb "len" = some (.builtin "len")
end

theorem TabAt.one {K : PySem.W.Frag} {t : Tb} {a b : Addr} (h1 : TabAt K t a) (h2 : TabAt K t b) : a = b := by
  obtain ⟨f, c, oc, od, fd, sl, o, vs, e1, e2, e3, e4, e5, e6⟩ := h1
  obtain ⟨f', c', oc', od', fd', sl', o', vs', e1', e2', e3', e4', e5', e6'⟩ := h2
  rw [e1] at e1'; cases e1'
  rw [e2] at e2'; cases e2'
  rw [e3] at e3'; cases e3'
  rw [e4] at e4'; cases e4'
  rw [e5] at e5'; cases e5'
  rw [e6] at e6'; cases e6'
  rfl

structure LamF (X : Cx) (t : Tb) : Prop where
  qual : X.env.qual ++ "<lambda>" = t.2.2
  tab : ∃ cd P, X.env.code = .ref cd ∧ LamX.TabB X.base X.mg cd P ∧ TabAt X.K t P
section
variable {X : Cx} {pins : List (Addr × Obj)} {σ : L2.St} {H : Hp} {s : Shared}
end

section
variable {X : Cx} {pins : List (Addr × Obj)} {σ : L2.St} {H : Hp} {s : Shared} {h' : Heap}

end
section
variable {K : PySem.W.Frag} {W : Wd} {S : Sto}

end
section
variable {X : Cx} {Φ : Fns} {G : List D}
variable {e : Expr} {pos p kp lpos px py : Pos} {params : Arguments} {body : Expr} {scope : Scope}
end

section
variable {X : Cx} {Φ : Fns} {G : List D} {pos px py : Pos}
theorem items_ints {P : Program} {w : World} : ∀ {k : List Int} {its : List Value}, Vals (k.map V.int) its → ItemsAre (PySem.intKind P w) k its
  | [], _, r => by rw [List.map_nil] at r; cases r; exact .nil
  | i :: k, _, r => by
    rw [List.map_cons] at r
    cases r with
    | cons a t =>
      obtain ⟨u, rfl⟩ := a
      exact .cons (intKind_is _ _ _ _) (items_ints t)
theorem TupLI.key {P : Program} {w : World} {h : Heap} {b : Addr} {k : List Int} (t : TupLI h b k) : (tupleKind (PySem.intKind P w)).is h k b := by
  obtain ⟨its, r, ⟨o, e, c, n, d⟩, z⟩ := t
  exact ⟨o, its.toArray, n, e, c, d, by simpa using items_ints r⟩
end

section
variable {X : Cx} {Φ : Fns} {G : List D} {e e1 e2 tg : Expr} {pos apos p p2 pos2 kp : Pos}
end
end Mi
end
noncomputable section
namespace Mi
open PySem PySem.Spec L2
noncomputable def inOp (n : Bool) : CmpOp := if n then .NotIn else .In

section
variable {X : Cx} {Φ : Fns} {G : List D} {e e1 e2 tg : Expr} {pos apos cpos p p2 q0 pos2 : Pos}
end
end Mi
end
noncomputable section
namespace Mi
open PySem PySem.Spec L2 PyProof.Rows
section
variable {K : PySem.W.Frag} {W : Wd} {S : Sto}
theorem cellE_some {l : Nat} {t : Exn} (h : cellE S l = some t) : S[l]? = some (Cell.err t.1 t.2) := by
  unfold cellE at h
  split at h
  · cases h; assumption
  · cases h
theorem Rel.celle (r : Rel K W S) {l : Nat} {t : Exn} {v : V} (h : cellE S l = some t) (p : Rep K W (.ref l) v) : ∃ a D d, v = .ref a ∧ ErrAt K W.H a D d (xfs t.2) ∧ XSub K t.1 D ∧ ∀ n i, t.2 = some (n, i) → PySem.W.findIn K (.ref D) n = some none := by
  unfold Rep at p
  obtain ⟨a, e1, e2⟩ := p
  obtain ⟨b, e3, D, d, h1, h2, h3⟩ := r.cell l _ (cellE_some h)
  rw [e2] at e3; cases e3
  exact ⟨a, D, d, e1, h1, h2, h3⟩

noncomputable def AskC (K : PySem.W.Frag) (c : Str) (u : Value) : Prop := ∀ c0 D, XSub K c0 D → PySem.W.kitOne K (.ref D) u = some (subX c0 c)
theorem askC_own {c : Str} {C : Addr} (hc : c ∈ errNames) (h : PySem.W.nsIn K mainGlobals c = some (some (.ref C))) : AskC K c (.ref C) := fun c0 D x => (x.1 c C hc h).1
theorem askC_ve : AskC K "ValueError" (.type "ValueError") := fun c0 D x => by
  rw [x.2]
  have : subX c0 "ValueError" = true := by unfold subX supX; simp
  rw [this]
inductive AskCs (K : PySem.W.Frag) : List Str → List V → List Value → Prop where
  | nil : AskCs K [] [] []
  | cons {c : Str} {v : V} {u : Value} {cs : List Str} {vs : List V} {us : List Value} (h : AskC K c u) (k : ClsV v u) (r : AskCs K cs vs us) : AskCs K (c :: cs) (v :: vs) (u :: us)
theorem AskCs.pair {cs : List Str} {vs : List V} {us : List Value} (h : AskCs K cs vs us) : Paired ClsV vs us := by
  induction h with
  | nil => exact .nil
  | cons _ k _ ih => exact .cons k ih
theorem AskCs.any {cs : List Str} {vs : List V} {us : List Value} (h : AskCs K cs vs us) {c0 : Str} {D : Addr} (x : XSub K c0 D) : PySem.W.kitAny K (.ref D) us = some (cs.any fun c => subX c0 c) := by
  induction h with
  | nil => rfl
  | cons h _ _ ih =>
    unfold PySem.W.kitAny
    rw [h _ _ x, List.any_cons]
    cases hq : subX c0 _ with
    | true => rfl
    | false => exact ih
end
section
variable {X : Cx} {Φ : Fns} {G : List D} {e e2 : Expr} {es : List Expr} {pos p : Pos} {m : ME}
theorem de_isx1 {c : Str} {v : V} {u : Value} (hg : Gl X "isinstance") (hm : X.mg "isinstance" = none) (he : starEach [e, e2] X.env = (false, eval e X.env) :: starEach [e2] X.env) (he2 : starEach [e2] X.env = (false, eval e2 X.env) :: starEach [] X.env) (hpl : (backTo pos (starEach [e2] X.env)).any (·.1) = false)
    (h : DE X Φ G e m) (h2 : PE X e2 (tC v)) (hv : ClsV v u) (hs : AskC X.K c u) : DE X Φ G (.Call (.Name "isinstance" p) [e, e2] [] pos) (.isx1 c m) := by
  refine PE.imp (pe_callB call_isE hg hm (by decide +kernel) (pa_cons h (pa_cons h2 pa_nil he2) he) (by decide) (by decide) he hpl) fun σ H Q h => ?_
  obtain ⟨W, S, ρ, a, r, S', ev, q⟩ := h
  rw [evR] at ev
  obtain ⟨⟨x, S1⟩, ev1, ev⟩ := Mi.bind_some ev
  obtain ⟨l, hl, ev⟩ := Mi.bind_some ev
  obtain ⟨t, ht, ev⟩ := map_some ev
  cases ev
  refine ⟨W, S, ρ, a, x, S1, ev1, fun W1 w e1 r1 p1 => ?_⟩
  have hx : x = .val (.ref l) := ref?_some hl
  subst hx
  obtain ⟨ad, D, d, rfl, h1, h3, _⟩ := r1.celle ht p1
  exact ⟨ad, D, d, _, v, u, _, rfl, h1, hv, hs _ _ h3, q W1 _ e1 r1 bl_repr⟩
theorem de_isx {cs : List Str} {vs : List V} {us : List Value} (hg : Gl X "isinstance") (hm : X.mg "isinstance" = none) (he : starEach [e, e2] X.env = (false, eval e X.env) :: starEach [e2] X.env) (he2 : starEach [e2] X.env = (false, eval e2 X.env) :: starEach [] X.env) (hpl : (backTo pos (starEach [e2] X.env)).any (·.1) = false)
    (h : DE X Φ G e m) (h2 : PE X e2 (fun _ H Q => ∀ p, H p = none → Q (.ref p) (upd H p (.tup vs)))) (hs : AskCs X.K cs vs us) : DE X Φ G (.Call (.Name "isinstance" p) [e, e2] [] pos) (.isx cs m) := by
  refine PE.imp (pe_callB call_isET hg hm (by decide +kernel) (pa_cons h (pa_cons h2 pa_nil he2) he) (by decide) (by decide) he hpl) fun σ H Q h => ?_
  obtain ⟨W, S, ρ, a, r, S', ev, q⟩ := h
  rw [evR] at ev
  obtain ⟨⟨x, S1⟩, ev1, ev⟩ := Mi.bind_some ev
  obtain ⟨l, hl, ev⟩ := Mi.bind_some ev
  obtain ⟨t, ht, ev⟩ := map_some ev
  cases ev
  refine ⟨W, S, ρ, a, x, S1, ev1, fun W1 w e1 r1 p1 p hp => ?_⟩
  have hx : x = .val (.ref l) := ref?_some hl
  subst hx
  have e2 : Ext W1 ⟨W1.ms, W1.fz, upd W1.H p (.tup vs)⟩ := Ext.laid hp
  have r2 : Rel X.K ⟨W1.ms, W1.fz, upd W1.H p (.tup vs)⟩ S1 := r1.laid hp
  obtain ⟨ad, D, d, rfl, h1, h3, _⟩ := r2.celle ht (Rep.ext r1 e2 (.ref l) w p1)
  exact ⟨ad, D, d, _, p, vs, us, _, rfl, h1, upd_same, hs.pair, hs.any h3, q ⟨W1.ms, W1.fz, _⟩ _ (e1.trans e2) r2 bl_repr⟩
theorem de_xf {f : Str} (hb : attributeBase e f X.env (eval e X.env) = eval e X.env) (h : DE X Φ G e m) : DE X Φ G (.Attribute e f pos) (.xf f m) := by
  refine PE.imp (pe_errf h hb) fun σ H Q h => ?_
  obtain ⟨W, S, ρ, a, r, S', ev, q⟩ := h
  rw [evR] at ev
  obtain ⟨⟨x, S1⟩, ev1, ev⟩ := Mi.bind_some ev
  obtain ⟨l, hl, ev⟩ := Mi.bind_some ev
  obtain ⟨t, ht, ev⟩ := Mi.bind_some ev
  obtain ⟨⟨n, i⟩, hn, ev5⟩ := Mi.bind_some ev
  dsimp only at ev5
  split at ev5
  · rename_i e0
    subst e0
    cases ev5
    refine ⟨W, S, ρ, a, x, _, ev1, fun W1 w e1 r1 p1 => ?_⟩
    have hx : x = .val (.ref l) := ref?_some hl
    subst hx
    obtain ⟨ad, D, d, rfl, h1, h3, h4⟩ := r1.celle ht p1
    refine ⟨ad, D, d, _, .int i, rfl, h1, h4 _ _ hn, ?_, q W1 _ e1 r1 ?_⟩
    · rw [hn]; unfold xfs; simp
    · show Rep X.K W1 (.int i) (.int i)
      unfold Rep; rfl
  · cases ev5
end

structure FnY (P : Program) (w : World) (K : PySem.W.Frag) (mg : Str → Option Value) (base : Heap) (k : Nat) (f : Addr) (fd : FuncData) (ps : List Str) (sp : Sp) : Prop where
  len : ∀ vs H Q E, sp vs H Q E → vs.length = ps.length
  run : ∀ (A : Around) (outer : List PySem.Env) (s : Shared) (H : Hp) (args : Args) (us : List Value) (vs : List V) (Q : VK) (E : XK), A.guards = some [] → Room k A → Env0 P w K mg base A outer s H → BindsTo s fd args (ps.zip us) → Vals vs us → sp vs H Q E → codeAny (model P w) A (.call (.ref f) args) (CR (L2.CX P w) outer P w H s Q E) s
section
variable {P : Program} {w : World} {K : PySem.W.Frag} {mg : Str → Option Value} {base : Heap}
theorem fnY_of {x qual : Str} {st : Stmt} {f : Addr} {fd : FuncData} {N ps : List Str} {k : Nat} {sp : Sp} (F : Fun K x qual st f fd) (S : FnScope N ps (defScope st)) (len : ∀ vs H Q E, sp vs H Q E → vs.length = ps.length)
    (body : ∀ (cdv : Value) (A : Around) (outer : List PySem.Env) (s : Shared) (H : Hp) (vs : List V) (Q : VK) (E : XK), fd.code = cdv → A.guards = some [] → Room k (A.deeper (envOfC qual (defScope st) s.heap.objs.size f cdv)) → sp vs H Q E →
      ∃ t, PSs (cxOf (L2.CX P w) P w K mg base N qual (defScope st) f cdv A outer s H E) (defBody st) t ∧ t { nx := fun _ H' => Q .non H', rt := Q } (start N vs) H) : FnY P w K mg base (k + 1) f fd ps sp := by
  obtain ⟨oc, od, kV, doc, pm, an, cdv, ct, osl, rfl, lk, hcd⟩ := F.ex
  refine ⟨len, fun A outer s H args us vs Q E hA hr e0 bnd rel hs => ?_⟩
  have up : ∀ b o, base.get? b = some o → s.heap.get? b = some o := fun b o e => (e0.bs b o e).1
  have KX : K.In s.heap := e0.mod.kin.keeps up
  have lim : s.heap.NoLimit := e0.mod.nolimit.keeps up
  have kinds : ∀ y, y ∈ ps.zip us → (defScope st).names.lookup y.1 = some .local ∨ ((defScope st).names.lookup y.1 = some .cell ∧ ((cellsFrom (s.heap.objs.size + 1) (defScope st).names []).lookup y.1).isSome = true) := fun y hy =>
    (S.par y.1 (List.of_mem_zip hy).1).imp id fun q => ⟨q, PySem.W.cellsFrom_some _ _ _ (.inl q)⟩
  refine codeAny_call_function hr.depth (KX _ _ lk) rfl S.co S.gen rfl (PySem.W.codeRec_of KX hcd) (bnd _ _ _ _ (wpAny_newFunctionEnv_cells S.kind kinds fun env he s1 nw => ?_))
  subst he
  obtain ⟨t, ht, hq⟩ := body cdv A outer s H vs Q E rfl hA (hr.deeper _) hs
  have J : Inv (cxOf (L2.CX P w) P w K mg base N qual (defScope st) f cdv A outer s H E) [] (start N vs) H s1 := inv_start S hr.hd e0 (len _ _ _ _ hs) rel nw
  refine ⟨lim.keeps nw.toInCall.keep, codeAny_func (wpAny_mono (ht.run [] s1 (start N vs) H _ J hq) (fun fl s' z => ?_) fun e s' z => z)⟩
  cases fl with
  | ret u =>
    obtain ⟨v, σ', H', J', rv, q⟩ := z
    exact ⟨v, H', J'.os, J'.bare, J'.base, J'.hok, rv, q⟩
  | next =>
    obtain ⟨σ', H', J', q⟩ := z
    exact ⟨.non, H', J'.os, J'.bare, J'.base, J'.hok, rfl, q⟩
  | brk => exact False.elim (let ⟨_, _, _, q⟩ := z; q)
  | cont => exact False.elim (let ⟨_, _, _, q⟩ := z; q)
end

noncomputable def spR (K : PySem.W.Frag) (Φ : Fns) (f : Nat) : Sp := fun vs H _ E => ∃ W S ds, W.H = H ∧ Rel K W S ∧ RepL K W ds vs ∧ ∃ x S', Φ.xrun f ds S = some (x, S') ∧ ∀ W' cls d, Ext W W' → Rel K W' S' → ErrOk K W'.H x cls d → E cls d W'.H
section
variable {X : Cx} {k : Nat} {f fa C : Addr} {fd : FuncData} {ps : List Str} {sp : Sp} {o e : Expr} {es : List Expr} {m x : Str} {pos apos p : Pos} {ta : TE} {t : TA}
noncomputable def tCallY (X : Cx) (sp : Sp) (t : TA) : TE := fun σ H Q => t σ H fun vs H1 => ∃ Wx : WX, Takes X Wx ∧ sp vs H1 Q fun cls d H' => Wx cls d σ H'
theorem run_fnY {pins : List (Addr × Obj)} {σ : L2.St} {H : Hp} {s : Shared} {Q : VK} {us : List Value} {vs : List V} (F : FnY X.prog X.w X.K X.mg X.base k fa fd ps sp) (hA : X.A.guards = some []) (hr : Room k X.A) (hb : Binds X.K fd ps []) {Wx : WX} (tk : Takes X Wx)
    (I : Inv X pins σ H s) (r : Vals vs us) (h : sp vs H Q fun cls d H' => Wx cls d σ H') : wpAny (model X.prog X.w) X.A (call (.ref fa) us) (EP X pins σ Q) X.xe s := by
  have hl : us.length = ps.length := by rw [← r.length]; exact F.len _ _ _ _ h
  have b := hb s us I.kIn (by rw [List.append_nil]; exact hl)
  rw [List.append_nil] at b
  refine wpAny_call (codeAny_mono (F.run X.A X.stack s H ⟨us, []⟩ us vs Q _ hA hr I.env0 b r h) fun r s' hq => ?_)
  cases r with
  | error e => exact tk e s' (XE.of_call I (fun _ _ _ z => z) hq)
  | ok fl =>
    cases fl with
    | ret u => exact I.after hq
    | next => exact False.elim hq
    | brk => exact False.elim hq
    | cont => exact False.elim hq
theorem pe_callY (F : FnY X.prog X.w X.K X.mg X.base k fa fd ps sp) (hA : X.A.guards = some []) (hr : Room k X.A) (hg : Gl X x) (hm : X.mg x = some (.ref fa)) (hk : PySem.W.keepIn X.K (.ref fa) = true) (hb : Binds X.K fd ps [])
    (ha : PA X (e :: es) t) (hdb : (x == ("__debug__" : Str)) = false) (he : starEach (e :: es) X.env = (false, eval e X.env) :: starEach es X.env) (hpl : (backTo pos (starEach es X.env)).any (·.1) = false) :
    PE X (.Call (.Name x p) (e :: es) [] pos) (tCallY X sp t) := by
  refine ⟨fun pins s σ H Q I h => wpAny_Call_Name_kw (ld_glob I hg hm ?_ hdb)⟩
  refine PySem.W.callWith_K (h₀ := X.base) I.ok.mod.kin hk (thn (ha.run pos pins s σ H _ I h) fun us s1 ⟨vs, H1, J, r, Wx, tk, q⟩ => ⟨J.kIn, ?_⟩) he hpl
  exact run_fnY F hA hr hb tk J r q
noncomputable def tMethY (X : Cx) (C : Addr) (m : Str) (sp : Sp) (ta : TE) (t : TA) : TE := fun σ H Q => ta σ H fun x H1 => ∃ a dx fs, x = .ref a ∧ H1 a = some (.ins C dx fs) ∧ fs.lookup m = none ∧
  t σ H1 fun vs H2 => ∃ Wx : WX, Takes X Wx ∧ sp (x :: vs) H2 Q fun cls d H' => Wx cls d σ H'
theorem pe_methY {pl : Sem Bool} (he : PE X o ta) (c : Cls X.K C) (hm : Meth X.K C m fa) (F : FnY X.prog X.w X.K X.mg X.base k fa fd ps sp) (hA : X.A.guards = some []) (hr : Room k X.A) (hb : Binds X.K fd ps []) (ha : PA X (e :: es) t)
    (hst : starEach (e :: es) X.env = (false, eval e X.env) :: starEach es X.env) (hpl : (backTo pos (starEach es X.env)).any (·.1) = false)
    (ht : eval (.Call (.Attribute o m apos) (e :: es) [] pos) X.env = (do
      let ov ← eval o X.env
      standAt apos.atName
      let (f, first) ← holding [ov] (getMethod ov m pl)
      callWith pos f first (backTo pos (starEach (e :: es) X.env)) (backToKw pos (keywordEach [] X.env)))) :
    PE X (.Call (.Attribute o m apos) (e :: es) [] pos) (tMethY X C m sp ta t) := by
  refine ⟨fun pins s σ H Q I h => ?_⟩
  refine PySem.W.methodCall_KW (pl := pl) (thn (he.run pins s σ H _ I h) fun u s1 ⟨x, H1, I1, rx, a, dx, fs, ex, ea, l, q⟩ => ?_) ht
  subst ex; obtain rfl : u = Value.ref a := rx
  refine getmeth_ok I1 ea c hm l (PySem.W.callWith_K (first := [.ref a]) (h₀ := X.base) I.ok.mod.kin hm.kp (thn (ha.run pos pins s1 σ H1 _ I1 q) fun us s2 ⟨vs, H2, I2, r, Wx, tk, q2⟩ => ⟨I2.kIn, ?_⟩) hst hpl)
  exact run_fnY F hA hr hb tk I2 (.cons (show RelV (V.ref a) (Value.ref a) from rfl) r) q2
theorem pe_methY0 {pl : Sem Bool} (he : PE X o ta) (c : Cls X.K C) (hm : Meth X.K C m fa) (F : FnY X.prog X.w X.K X.mg X.base k fa fd ps sp) (hA : X.A.guards = some []) (hr : Room k X.A) (hb : Binds X.K fd ps [])
    (ht : eval (.Call (.Attribute o m apos) [] [] pos) X.env = (do
      let ov ← eval o X.env
      standAt apos.atName
      let (f, first) ← holding [ov] (getMethod ov m pl)
      callWith pos f first (backTo pos (starEach [] X.env)) (backToKw pos (keywordEach [] X.env)))) :
    PE X (.Call (.Attribute o m apos) [] [] pos) (tMethY X C m sp ta tNil) := by
  refine ⟨fun pins s σ H Q I h => ?_⟩
  refine PySem.W.methodCall_KW (pl := pl) (thn (he.run pins s σ H _ I h) fun u s1 ⟨x, H1, I1, rx, a, dx, fs, ex, ea, l, q⟩ => ?_) ht
  subst ex; obtain rfl : u = Value.ref a := rx
  obtain ⟨Wx, tk, q2⟩ := q
  refine getmeth_ok I1 ea c hm l (PySem.W.callWith_K0 (first := [.ref a]) I1.kIn hm.kp ?_)
  exact run_fnY F hA hr hb tk I1 (.cons (show RelV (V.ref a) (Value.ref a) from rfl) .nil) q2
end

section
variable {X : Cx} {Φ : Fns} {G : List D} {o e e1 e2 : Expr} {es : List Expr} {pos p : Pos} {m m1 m2 : ME} {ms : MEs} {x c : Str} {C : Addr}
noncomputable def tXs (X : Cx) (Φ : Fns) (G : List D) (ms : MEs) : TA := fun σ H _ => ∃ W S ρ, At X.K W S ρ σ H ∧ ∃ x S', evXs Φ G ρ ms S = some (x, S') ∧ Takes X (RaisedIn X.K σ W x S')
theorem RaisedIn.ext {K : PySem.W.Frag} {σ : L2.St} {W W1 : Wd} {y : Exn} {S' : Sto} (e : Ext W W1) (t : Takes X (RaisedIn K σ W y S')) : Takes X (RaisedIn K σ W1 y S') :=
  t.imp fun c d σ' H' ⟨e1, W', e2, e3, r, h⟩ => ⟨e1, W', e2, e.trans e3, r, h⟩
theorem dx_none (h : ∀ ρ S, evX Φ G ρ m S = none) : PE X e (tX X Φ G m) := ⟨fun pins s σ H Q I ⟨W, S, ρ, a, y, S', ev, _⟩ => by rw [h] at ev; cases ev⟩

theorem spR_in {f : Nat} {W W1 : Wd} {S1 S' : Sto} {σ : L2.St} {Q : VK} {ds : List D} {vs : List V} {y : Exn} (e : Ext W W1) (r : Rel X.K W1 S1) (l : RepL X.K W1 ds vs) (h : Φ.xrun f ds S1 = some (y, S')) (t : Takes X (RaisedIn X.K σ W y S')) : ∃ Wx : WX, Takes X Wx ∧ spR X.K Φ f vs W1.H Q fun cls d H' => Wx cls d σ H' :=
  ⟨_, t, W1, S1, ds, rfl, r, l, y, S', h, fun W2 cls d e2 r2 q => ⟨rfl, W2, rfl, e.trans e2, r2, q⟩⟩
theorem dx_call {f : Nat} (hn : PE X e (tCall (spF X.K Φ f) [] E0 (tXs X Φ G ms))) (hy : PE X e (tCallY X (spR X.K Φ f) (tDs X.K Φ G ms))) : PE X e (tX X Φ G (.call f ms)) := by
  refine ⟨fun pins s σ H Q I h => ?_⟩
  obtain ⟨W, S, ρ, a, y, S', ev, tk⟩ := h
  rw [evX] at ev
  cases hev : evs Φ G ρ ms S with
  | none =>
    rw [hev] at ev
    exact hn.run pins s σ H Q I ⟨W, S, ρ, a, y, S', ev, tk⟩
  | some q =>
    rw [hev] at ev
    dsimp only at ev
    split at ev
    · cases ev
    · exact hy.run pins s σ H Q I ⟨W, S, ρ, a, q.1, q.2, hev, fun W1 vs e1 r1 p1 => spR_in e1 r1 p1 ev tk⟩
theorem dx_meth {f : Nat} (hC : PySem.W.nsIn X.K mainGlobals c = some (some (.ref C))) {mm : Str} (hn : PE X e (tMeth C mm (spF X.K Φ f) [] E0 (tR X.K Φ G m) (tXs X Φ G ms))) (hy : PE X e (tMethY X C mm (spR X.K Φ f) (tR X.K Φ G m) (tDs X.K Φ G ms))) : PE X e (tX X Φ G (.meth c mm f m ms)) := by
  refine ⟨fun pins s σ H Q I h => ?_⟩
  obtain ⟨W, S, ρ, a, y, S', ev, tk⟩ := h
  rw [evX] at ev
  cases hev : evR Φ G ρ m S with
  | none => rw [hev] at ev; cases ev
  | some p =>
    obtain ⟨x, S1⟩ := p
    rw [hev] at ev
    dsimp only at ev
    obtain ⟨l, hl, ev⟩ := Mi.bind_some ev
    obtain ⟨⟨c', ns, ds⟩, ht, ev⟩ := Mi.bind_some ev
    dsimp only at ev
    split at ev
    · rename_i e0
      obtain ⟨e0, hmm⟩ := e0
      have key : ∀ (R : V → Hp → Prop), (∀ W1 ad dx fs, Ext W W1 → Rel X.K W1 S1 → W1.H ad = some (.ins C dx fs) → fs.lookup mm = none → Rep X.K W1 (.ref l) (.ref ad) → R (.ref ad) W1.H) → tR X.K Φ G m σ H R := fun R hR => by
        refine ⟨W, S, ρ, a, x, S1, hev, fun W1 v1 e1 r1 p1 => ?_⟩
        have hx : x = .val (.ref l) := ref?_some hl
        subst hx
        have p1' : Rep X.K W1 (.ref l) v1 := p1
        have p1s := p1'
        unfold Rep at p1'
        obtain ⟨ad, rfl, hms⟩ := p1'
        obtain ⟨b, C', dx, vs, h1, h2, h3, h4, h5⟩ := r1.cello l _ ns ds (cellO_some ht)
        rw [hms] at h1; cases h1
        rw [e0, hC] at h2; cases h2
        exact hR W1 ad dx _ e1 r1 h3 (nolook_zip hmm) p1s
      cases hes : evs Φ G ρ ms S1 with
      | none =>
        rw [hes] at ev
        exact hn.run pins s σ H Q I (key _ fun W1 ad dx fs e1 r1 g1 g2 g3 => ⟨ad, dx, fs, rfl, g1, g2, W1, S1, ρ, a.ext e1 r1, y, S', ev, RaisedIn.ext e1 tk⟩)
      | some q =>
        rw [hes] at ev
        dsimp only at ev
        split at ev
        · cases ev
        · exact hy.run pins s σ H Q I (key _ fun W1 ad dx fs e1 r1 g1 g2 g3 => ⟨ad, dx, fs, rfl, g1, g2, W1, S1, ρ, a.ext e1 r1, q.1, q.2, hes, fun W2 vs e2 r2 p2 => spR_in (e1.trans e2) r2 (.cons (Rep.ext r1 e2 _ _ g3) p2) ev tk⟩)
    · cases ev
end


noncomputable def spX (C : Addr) (f : Str) : Sp := fun vs H Q _ => ∃ (a : Addr) (x : Str) (y : V), vs = [.ref a, .str x, y] ∧ H a = some (exo a C none) ∧ ∀ dx, H dx = none → dx ≠ a → Q .non (upd (upd H dx (exd dx [(f, y)])) a (exo a C (some dx)))

structure XR1 (K : PySem.W.Frag) (C : Addr) : Prop where
  ex : PySem.W.excIn K C [.type "ValueError", .type "Exception", .type "BaseException", .type "object"] "ValueError.__new__" = true
  kp : PySem.W.keepIn K (.ref C) = true
  exC : PySem.W.subIn K (.ref C) (.type "BaseException") = some true
  tyC : PySem.W.typeIn K (.ref C) = some (.type "type")

structure XR2 (P : Program) (w : World) (K : PySem.W.Frag) (mg : Str → Option Value) (base : Heap) (C : Addr) (n : Str) : Prop where
  T : OexC K C
  nf : PySem.W.findIn K (.ref C) n = some none
  ini : ∃ (fI : Addr) (fd : FuncData) (N : List Str), PySem.W.findIn K (.ref C) "__init__" = some (some (.ref fI)) ∧ PySem.W.typeIn K (.ref fI) = some (.type "function") ∧ FnOk P w K mg base CX0 1 fI fd N (spX C n) ∧ Binds K fd N []
noncomputable def XRk (P : Program) (w : World) (K : PySem.W.Frag) (mg : Str → Option Value) (base : Heap) (C : Addr) : Option Str → Prop
  | none => XR1 K C
  | some n => XR2 P w K mg base C n
noncomputable def argN : Option Str → Nat
  | none => 1
  | some _ => 2
theorem exnOf_none {c : Str} {ds : List D} {y : Exn} (h : exnOf c none ds = some y) : y = (c, none) := by
  unfold exnOf at h
  split at h
  · cases h; rfl
  · rename_i q; cases q
  · cases h
theorem exnOf_some {c n : Str} {ds : List D} {y : Exn} (h : exnOf c (some n) ds = some y) : ∃ w i, ds = [.str w, .int i] ∧ y = (c, some (n, i)) := by
  unfold exnOf at h
  split at h
  · rename_i q; cases q
  · rename_i f' w i q; cases q; cases h; exact ⟨_, _, rfl, rfl⟩
  · cases h
end Mi
end
noncomputable section
namespace Mi
open PySem PySem.Spec L2 PyProof.Rows
section
variable {X : Cx} {Φ : Fns} {G : List D} {e e1 e2 o tg : Expr} {pos apos p : Pos} {m m1 m2 mo : ME}

theorem kd_at {P : Program} {w : World} {K : PySem.W.Frag} {h : Heap} {a : Addr} {es : Array DictEntry} {n : Nat} {ks : List Key} (D : KDict K w a es n) (hk : KeysE es.toList ks) (nd : ks.Nodup) (X : K.In h) :
    ∃ vs : List (Key × Value), vs.map (·.1) = ks ∧ h.DictAt (mixKind P w) a vs n := by
  have pairs : ∀ (l : List DictEntry) (ks : List Key), PySem.W.KeysLit w.params l → KeysE l ks → ∃ vs : List (Key × Value), vs.map (·.1) = ks ∧ Pairs (mixKind P w) l vs ∧ ∀ e ∈ l, ∃ k, (mixKind P w).is k e.key = true ∧ e.hash = (mixKind P w).hash k := by
    intro l
    induction l with
    | nil =>
      intro ks _ h
      cases ks with
      | nil => exact ⟨[], rfl, .nil, fun e he => nomatch he⟩
      | cons _ _ => exact h.elim
    | cons e l ih =>
      intro ks hl h
      cases ks with
      | nil => exact h.elim
      | cons k ks =>
        cases k with
        | inl _ => exact h.elim
        | inr k =>
          obtain ⟨⟨t, he⟩, h2⟩ := h
          obtain ⟨⟨x, t', hx, hh⟩, hl2⟩ := hl
          obtain ⟨vs, g1, g2, g3⟩ := ih ks hl2 h2
          have ek : x = k := by rw [he] at hx; cases hx; rfl
          subst ek
          have i1 : (mixKind P w).is (.inr x) e.key = true := by rw [he]; exact keyIs_str x t
          have i2 : e.hash = (mixKind P w).hash (.inr x) := hh
          refine ⟨(.inr x, e.val) :: vs, by rw [List.map_cons, g1], .cons i1 rfl g2, fun e' he' => ?_⟩
          rcases List.mem_cons.mp he' with rfl | he'
          · exact ⟨.inr x, i1, i2⟩
          · exact g3 e' he'
  obtain ⟨vs, g1, g2, g3⟩ := pairs _ _ D.lit hk
  exact ⟨vs, g1, _, es, X _ _ D.at_, ⟨rfl, rfl, rfl⟩, rfl, fun e he => g3 e (by simpa using he), g2, by rw [g1]; exact nd⟩

theorem key_rep {K : PySem.W.Frag} {W : Wd} (k : Key) : Rep K W (keyD k) (kV k) := by
  cases k with
  | inl i => show Rep K W (.int i) (.int i); unfold Rep; rfl
  | inr x => show Rep K W (.str x) (.str x); unfold Rep; rfl
theorem keys_rep {K : PySem.W.Frag} {W : Wd} : ∀ ks : List Key, RepL K W (ks.map keyD) (ks.map kV)
  | [] => .nil
  | k :: ks => .cons (key_rep k) (keys_rep ks)
theorem call_listKD {a : Addr} {es : Array DictEntry} {n : Nat} {ks : List Key} (hcalm : X.calm = true) (D : KDict X.K X.w a es n) (hk : KeysE es.toList ks) (nd : ks.Nodup) (hz : ks.length ≤ sizeLine) : CallR X (.type "list") (fun xs H Q => xs = [.ref a] ∧ ∀ p, H p = none → Q (.ref p) (upd H p (.lst (ks.map kV)))) := by
  intro pins s σ H xs us Q I r q
  obtain ⟨ex, q⟩ := q
  subst ex
  obtain ⟨u, eu, rx⟩ := vals1 r
  subst eu
  cases rx
  obtain ⟨vs, e1, hat⟩ := kd_at (P := X.prog) D hk nd I.kIn
  have ek : ks.map kV = vs.map fun p => kV p.1 := by rw [← e1, List.map_map]; rfl
  have hl : vs.length ≤ sizeLine := by rw [← List.length_map (f := (·.1)), e1]; exact hz
  refine PySem.W.kdl_call (PySem.W.kdl_dict (knd := mixKind X.prog X.w) (kvs := vs) (ep := n) D.low) (I.ok.hd hcalm) hat hl fun h' tk acc c' hk' hD hacc => ?_
  have hv : Vals (vs.map fun p => kV p.1) acc.toList := keys_at (by rw [Array.length_toList]; exact hacc.1) fun j v e => hacc.2 j v (by rw [← Array.getElem?_toList]; exact e)
  refine ⟨.ref s.heap.objs.size, upd H s.heap.objs.size (.lst (ks.map kV)), I.laid (t' := tk) hk' (Nat.le_refl _)
    (show ObjOk X.prog X.w _ _ _ (.lst (ks.map kV)) from ⟨by rw [List.length_map]; exact hz, acc.toList, c', by rw [ek]; exact hv, by rw [Array.toArray_toList]; exact hD⟩), rfl, q _ (I.hok.fresh (Nat.le_refl _))⟩
theorem de_gks {j : Nat} {x : Str} {a : Addr} {ks : List Key} {ds : List D} {p2 : Pos} (hc : X.calm = true) (hg : Gl X "list") (hm : X.mg "list" = none) (hn : PE X (.Name x p) (tC (.ref a))) (hj : G[j]? = some (.dct ks ds)) (GD : GDict X.K X.w a ks ds) :
    DE X Φ G (.Call (.Name "list" p2) [.Name x p] [] pos) (.gks j) := by
  obtain ⟨es, n, kd, ⟨hk, nd⟩, _⟩ := GD
  by_cases hz : ks.length ≤ 1000
  · refine PE.imp (pe_callTy (call_listKD hc kd hk nd (by rw [sizeLine_eq]; omega)) hg hm (by decide +kernel) (pa_cons hn pa_nil rfl) (by decide) (by decide) rfl rfl) fun σ H Q h => ?_
    obtain ⟨W, S, ρ, at', r, S', ev, q⟩ := h
    rw [evR, hj] at ev
    change (if ks.length ≤ 1000 then some (Rt.own (ks.map keyD), S) else none) = _ at ev
    rw [if_pos hz] at ev
    cases ev
    have eH : W.H = H := at'.1
    subst eH
    refine ⟨rfl, fun p hp => ?_⟩
    exact q ⟨W.ms, W.fz, _⟩ _ (Ext.laid hp) (at'.rel.laid hp) (RepR.laid at'.rel hp (keys_rep ks))
  · refine ⟨fun pins s σ H Q I h => ?_⟩
    obtain ⟨W, S, ρ, at', r, S', ev, q⟩ := h
    rw [evR, hj] at ev
    change (if ks.length ≤ 1000 then some (Rt.own (ks.map keyD), S) else none) = _ at ev
    rw [if_neg hz] at ev
    cases ev

noncomputable def Itg (ks : List Key) : It := ⟨fun i _ => i < ks.length, fun i H v H' => H' = H ∧ ∃ k, ks[i]? = some k ∧ v = kV k, fun i _ => ks.length ≤ i⟩
theorem turn_kd {P : Program} {w : World} {K : PySem.W.Frag} {tg : Expr} {a : Addr} {es : Array DictEntry} {n : Nat} {ks : List Key} (it : Addr) (D : KDict K w a es n) (hk : KeysE es.toList ks) (nd : ks.Nodup) : Turn P w K tg (Itg ks) [it] it (fun i h => h.IsKeyIter it a i ks.length n) where
  mem := by simp
  obj := fun i h st b hb => by
    have e : b = it := by simpa using hb
    subst e
    obtain ⟨oi, e, c, dd⟩ := st
    exact ⟨oi, e, fun v z => by rw [dd] at z; cases z⟩
  keep := fun i h h' st k => st.at fun oi e => k it (by simp) oi e
  item := by
    intro X hP hw hK hc i pins s σ H E I hf st hi
    subst hP hw hK
    have hi : i < ks.length := hi
    obtain ⟨f0, f1, f2, f3, f4, f5⟩ := hf it (by simp)
    obtain ⟨vs, e1, hm⟩ := kd_at (P := X.prog) D hk nd I.kIn
    have hl : ks.length = vs.length := by rw [← e1, List.length_map]
    obtain ⟨⟨k, u⟩, hu⟩ : ∃ p, vs[i]? = some p := ⟨vs[i]'(by omega), List.getElem?_eq_getElem (by omega)⟩
    have hki : ks[i]? = some k := by rw [← e1, List.getElem?_map, hu]; rfl
    rw [hl] at st
    refine wpAny_pyNext_dict_item st hm hu fun key h' hkey st' sb => ?_
    have I1 : Inv X pins σ H { s with heap := h' } := I.turned (t' := s.toks) (fun b ob hb e => (sb.2 b hb).trans e) f0 f1 f3 f4 f5
    obtain ⟨oi, e, c, dd⟩ := id st'
    refine ⟨key, rfl, go_of (s := { s with heap := h' }) e c dd (by decide) ⟨kV k, H, I1, relV_key (show keyIs k key = true from hkey), ⟨rfl, k, hki, rfl⟩, ?_, fun b hb => (hf b hb).1⟩⟩
    show h'.IsKeyIter it a (i + 1) ks.length _
    rw [hl]
    exact st'
  done := by
    intro X hP hw hK hc i pins s σ H E I hf st hi
    subst hP hw hK
    have hi : ks.length ≤ i := hi
    obtain ⟨f0, f1, f2, f3, f4, f5⟩ := hf it (by simp)
    obtain ⟨vs, e1, o, es', ho, hx, hd, hko, hp, hn⟩ := kd_at (P := X.prog) D hk nd I.kIn
    have hl : ks.length = vs.length := by rw [← e1, List.length_map]
    have hsz : es'.size = ks.length := by
      have := hp.length
      rw [Array.length_toList] at this
      omega
    exact next_key_end (I.ok.hd hc) st ho hd hsz hi fun h' eb => ⟨rfl, I.turned (t' := s.toks) (fun b ob hb e => eb b ob hb e) f0 f1 f3 f4 f5⟩
  self := fun A i s Q E st h => wpAny_pyIter_keyiter st h
theorem pi_kd {te : TE} {a : Addr} {es : Array DictEntry} {n : Nat} {ks : List Key} (he : PE X e te) (D : KDict X.K X.w a es n) (hk : KeysE es.toList ks) (nd : ks.Nodup) : PI X tg e (fun σ H R => te σ H fun x H1 => x = .ref a ∧ R (Itg ks) H1) := by
  refine ⟨fun pins s σ H R I h => ?_⟩
  refine thn (he.run pins s σ H _ I h) fun u s1 ⟨x, H1, I1, rx, ex, q⟩ => ?_
  subst ex
  obtain rfl : u = Value.ref a := rx
  obtain ⟨vs, e1, o, es', ho, hx, hd, hko, hp, hn⟩ := kd_at (P := X.prog) D hk nd I1.kIn
  have hl : ks.length = vs.length := by rw [← e1, List.length_map]
  have hsz : es'.size = ks.length := by
    have := hp.length
    rw [Array.length_toList] at this
    omega
  refine iter_keys D.low ho hx hd (pi_one (tk := s1.toks) I1 _ (turn_kd _ D hk nd) ⟨_, Heap.get?_push_size _ rfl, rfl, ?_⟩ q)
  rw [hsz] <;> rfl
theorem di_gky {z : Bool} {j : Nat} {x : Str} {a : Addr} {ks : List Key} {ds : List D} (hn : PE X (.Name x p) (tC (.ref a))) (hj : G[j]? = some (.dct ks ds)) (GD : GDict X.K X.w a ks ds) : DI X Φ G z tg (.Name x p) (.gky j) := by
  obtain ⟨es, n, kd, ⟨hk, nd⟩, _⟩ := GD
  refine PI.imp (pi_kd hn kd hk nd) fun σ H R h => ?_
  obtain ⟨W, S, ρ, a', ds', S', ev, q⟩ := h
  rw [evI, hj] at ev
  cases ev
  have eH : W.H = H := a'.1
  subst eH
  refine ⟨rfl, q W (Itg ks) (Ext.refl W) a'.rel fun W2 S2 st r2 => ⟨fun i d hd => ?_, by rw [List.length_map]; exact Nat.le_refl _⟩⟩
  rw [List.getElem?_map] at hd
  obtain ⟨k, hk', rfl⟩ := map_some hd
  refine ⟨(List.getElem?_eq_some_iff.mp hk').1, fun x H' ⟨h1, k', h2, h3⟩ => ⟨W2, h1.symm, Ext.refl W2, r2, ?_⟩⟩
  rw [hk'] at h2; cases h2
  subst h3
  exact key_rep k

theorem di_chs {z : Bool} (h : DE X Φ G e m) : DI X Φ G z tg e (.chs m) := by
  refine PI.imp (pi_str h) fun σ H R h => ?_
  obtain ⟨W, S, ρ, a', ds', S', ev, q⟩ := h
  rw [evI] at ev
  obtain ⟨⟨x, S1⟩, ev1, ev⟩ := Mi.bind_some ev
  obtain ⟨y, hy, ev⟩ := map_some ev
  cases ev
  refine ⟨W, S, ρ, a', x, _, ev1, fun W1 v1 e1 r1 p1 => ?_⟩
  have hx : x = .val (.str y) := str?_some (r := x) hy
  subst hx
  have f := repr_str p1
  subst f
  refine ⟨y, rfl, q W1 (Its y) e1 r1 fun W2 S2 st r2 => ⟨fun i d hd => ?_, ?_⟩⟩
  · rw [List.getElem?_map] at hd
    obtain ⟨c, hc, rfl⟩ := map_some hd
    rw [Array.getElem?_toList] at hc
    refine ⟨(Array.getElem?_eq_some_iff.mp hc).1, fun x H' ⟨h1, c', h2, h3⟩ => ⟨W2, h1.symm, Ext.refl W2, r2, ?_⟩⟩
    rw [hc] at h2; cases h2
    subst h3
    unfold Rep; rfl
  · show y.cps.size ≤ _
    rw [List.length_map, Array.length_toList]; exact Nat.le_refl _

theorem de_ints {x : Str} (hg : Gl X "int") (hm : X.mg "int" = none) (hs : starEach [e] X.env = (false, eval e X.env) :: starEach [] X.env) (h : DE X Φ G e m) : DE X Φ G (.Call (.Name "int" p) [e] [] pos) (.o1 .intt m) := by
  refine PE.imp (pe_callTy call_int_str hg hm (by decide +kernel) (pa_cons h pa_nil hs) (by decide) (by decide) hs rfl) fun σ H Q h => ?_
  show tR X.K Φ G m σ H _
  refine tR_mono (one_op h) fun x H1 ⟨W0, W, S, r, S', a, eH, rel, ra, hr, q⟩ => ?_
  subst eH
  change (a.str?.bind fun a => if a.length ≤ 640 then (PySem.intText? a).map fun n => (Rt.val (.int n), S) else none) = _ at hr
  obtain ⟨y, hy, hr⟩ := Mi.bind_some hr
  split at hr
  · rename_i hl
    obtain ⟨n, hn, hr⟩ := map_some hr
    cases hr
    have f := repr_str (str?_some hy ▸ ra)
    subst f
    exact ⟨y, n, rfl, hn, hl, q W _ (Ext.refl W) rel int_repr⟩
  · cases hr
theorem de_sin (hm : behindInMarks .In e2 = false) (h1 : DE X Φ G e1 m1) (h2 : DE X Φ G e2 m2) : DE X Φ G (.Compare e1 [.In] [e2] pos) (.o2 (.sin false) m1 m2) ∧ DT X Φ G (.Compare e1 [.In] [e2] pos) (.o2 (.sin false) m1 m2) := by
  have core : ∀ (σ : L2.St) (H : Hp) (Q : VK), tR X.K Φ G (.o2 (.sin false) m1 m2) σ H Q → tOp (fun x y H Q => ∃ i j, x = .str i ∧ y = .str j ∧ Q (.bl (!(Builtin.Str.occurrences j i 0 j.length 1).isEmpty)) H) (tR X.K Φ G m1) (tR X.K Φ G m2) σ H Q := fun σ H Q h => by
    refine tR_mono (two_op2 h) fun x H1 ⟨_, h⟩ => ?_
    show tR X.K Φ G m2 σ H1 _
    refine tR_mono h fun y H2 ⟨W0, W1, W, S, r, S', a, b, eH, rel, ra, rb, hr, q⟩ => ?_
    subst eH
    change (a.str?.bind fun a => b.str?.map fun b => (Rt.val (.bl (xor false (!(Builtin.Str.occurrences b a 0 b.length 1).isEmpty))), S)) = _ at hr
    obtain ⟨i, hi, hr⟩ := Mi.bind_some hr
    obtain ⟨j, hj, hr⟩ := map_some hr
    cases hr
    have f1 := repr_str (str?_some hi ▸ ra)
    have f2 := repr_str (str?_some hj ▸ rb)
    subst f1 f2
    refine ⟨i, j, rfl, rfl, ?_⟩
    have := q W _ (Ext.refl W) rel bl_repr
    rw [Bool.false_xor] at this; exact this
  refine ⟨PE.imp (pe_cmpR op_in_str h1 h2 hm) fun σ H Q h => core σ H Q h, PT.imp (pt_cmpR op_in_str h1 h2 hm) fun σ H Q h => ?_⟩
  obtain ⟨W, S, ρ, a, b, S', ev, q⟩ := h
  exact core σ H _ ⟨W, S, ρ, a, _, S', ev, fun W' v e r p => ⟨b, repr_bl p, q W' e r⟩⟩
theorem ds_augf {c f : Str} {C : Addr} {k : Int} {kk : Nat} {p2 tpos : Pos} (hC : PySem.W.nsIn X.K mainGlobals c = some (some (.ref C))) (hc : Cls X.K C) (hn : NoAttr X.K C f) (ho : DE X Φ G o mo) : DS X Φ G (.AugAssign (.Attribute o f tpos) .Add (.Constant (.int k) kk p2) pos) (.augf c mo f k) := by
  refine PS.imp (ps_fldaug ho (pe_int (X := X) (i := k)) in_add) fun D σ H h => ?_
  obtain ⟨W, S, ρ, a, q⟩ := h
  rw [ex] at q
  obtain ⟨z, S2, ev2, q⟩ := bindE_some q
  cases hz : (z.ref?.bind fun l => (cellO S2 l).map fun t => (l, t)) with
  | none => rw [hz] at q; exact q.elim
  | some lt =>
    obtain ⟨l, c', ns, ds⟩ := lt
    rw [hz] at q
    dsimp only at q
    obtain ⟨l', hl, hz⟩ := Mi.bind_some hz
    obtain ⟨t, ht, hz⟩ := map_some hz
    cases hz
    have hx := ref?_some hl
    subst hx
    split at q
    · rename_i hsz
      split at q
      · rename_i i hv
        refine ⟨W, S, ρ, a, _, S2, ev2, fun W3 v3 e3 r3 p3 => ?_⟩
        have a3 := a.ext e3 r3
        have p3' : Rep X.K W3 (.ref l) v3 := p3
        unfold Rep at p3'
        obtain ⟨ad, rfl, hms⟩ := p3'
        obtain ⟨b, C', dx, vs, h1, h2, h3, h4, h5⟩ := r3.cello l _ ns ds (cellO_some ht)
        rw [hms] at h1; cases h1
        rw [hsz.1, hC] at h2; cases h2
        obtain ⟨v, g1, g2⟩ := look_zip h5 hv
        unfold Rep at g2
        subst g2
        have rv : Rep X.K W3 (.int (i + k)) (.int (i + k)) := by unfold Rep; rfl
        obtain ⟨ws, k1, k2, k3⟩ := putF_zip (f := f) rv h4 h5
        refine ⟨ad, C, dx, _, .int i, rfl, h3, hc, hn, g1, ?_⟩
        refine ⟨i, k, rfl, rfl, dx, _, h3, by rw [List.length_zip]; omega, ?_⟩
        have e4 : Ext W3 ⟨W3.ms, W3.fz, upd W3.H ad (.ins C dx (putF f (.int (i + k)) (ns.zip vs)))⟩ := Ext.put r3 hms
        have r4 : Rel X.K ⟨W3.ms, W3.fz, upd W3.H ad (.ins C dx (putF f (.int (i + k)) (ns.zip vs)))⟩ (S2.set l (.obj c (putFn ns f) (putFd ns ds f (.int (i + k))))) := r3.putC hms ⟨C, dx, ws, hC, by rw [← k1]; exact upd_same, k2, RepL.ext r3 e4 _ _ k3⟩
        exact q ⟨W3.ms, W3.fz, _⟩ σ (e3.trans e4).step (a3.ext e4 r4) fun p z => .inl z
      · exact q.elim
    · exact q.elim

theorem dx_gget {j : Nat} {x : Str} {a : Addr} (hs : PlainIx e) (hn : PE X (.Name x p) (tC (.ref a))) (h : PE X e (tX X Φ G m)) : PE X (.Subscript (.Name x p) e pos) (tX X Φ G (.o1 (.gget j) m)) := by
  refine ⟨fun pins s σ H Q I q => ?_⟩
  obtain ⟨W, S, ρ, a', y, S', ev, tk⟩ := q
  rw [evX] at ev
  split at ev
  · cases ev
  · exact (pe_ix (ix_kdict (X := X)) hn h hs).run pins s σ H Q I ⟨W, S, ρ, a', y, S', ev, tk⟩
end
end Mi
end
noncomputable section
namespace Mi
open PySem PySem.Spec L2

structure Tab where
  bn : List Str
  fnm : List (Nat × Str)
  gl : List (Nat × Str)
  fld : List (Str × Str)
  mth : List (Nat × Str × Str)
  mkr : List (Nat × Str)
  lam : List (List Str × Tb)
  xc : List Str
  xr : List (Str × Option Str)
noncomputable def isVis (sc : Scope) (x : Str) : Bool := match sc.names.lookup x with
  | some .local => true | some .cell => true | some .free => true | _ => false
noncomputable def isLoc (sc : Scope) (x : Str) : Bool := match sc.names.lookup x with
  | some .local => true | _ => false
noncomputable def isCel (sc : Scope) (x : Str) : Bool := match sc.names.lookup x with
  | some .cell => true | _ => false
noncomputable def isGl (sc : Scope) (x : Str) : Bool := match sc.names.lookup x with
  | some .globalImplicit => true | _ => false
noncomputable def okNm (x : Str) : Bool := !(x == ("__debug__" : Str)) && !(x == ("__classdict__" : Str))
noncomputable def notStar : Expr → Bool
  | .Starred _ _ => false | _ => true
noncomputable def notSlc : Expr → Bool
  | .Slice _ _ _ _ => false | _ => true
noncomputable def notIf : Expr → Bool
  | .IfExp _ _ _ _ => false | _ => true
noncomputable def notSet : Expr → Bool
  | .Set _ _ _ => false | _ => true
noncomputable def notComp : Expr → Bool
  | .ListComp _ _ _ _ => false | .SetComp _ _ _ _ => false | .DictComp _ _ _ _ _ => false | _ => true
noncomputable def notTupE : Expr → Bool
  | .Tuple _ _ _ => false | _ => true
noncomputable def conOk : Const → D → Bool
  | .int i, .int j => i == j
  | .str x, .str y => x == y
  | .bool a, .bl b => a == b
  | .none, .non => true
  | _, _ => false
noncomputable def biNm : BI → Option (Str × Bool)
  | .abs => some ("abs", false) | .all => some ("all", false) | .divmod => some ("divmod", false) | .int => some ("int", true) | .len => some ("len", false)
  | .list => some ("list", true) | .max => some ("max", false) | .min => some ("min", false) | .tuple => some ("tuple", true) | .str => some ("str", true) 
  | _ => none
noncomputable def relSc (scope sc : Scope) : Scope := { scope with names := scope.names.map fun (n, k) => if (k == .free && sc.kind == .function && sc.names.lookup n == some .cell) then (n, .cell) else (n, k) }
noncomputable def tyNames (bn : List Str) (sc : Scope) : List Expr → List Ty → Bool
  | [], [] => true
  | .Name x _ :: es, t :: ts => (x == Str.ofString (tyN t)) && bn.contains x && isGl sc x && tyNames bn sc es ts
  | _, _ => false
noncomputable def keysOk : List (Option Expr) → List Key → Bool
  | [], [] => true
  | some (.Constant (.int i) _ _) :: es, .inl j :: ks => i == j && keysOk es ks
  | some (.Constant (.str x) _ _) :: es, .inr y :: ks => x == y && keysOk es ks
  | _, _ => false

noncomputable def askNm (T : Tab) (sc : Scope) (c y : Str) : Bool := decide (y = c) && isGl sc y && okNm y && (T.xc.contains c || (decide (c = "ValueError") && T.bn.contains c))
noncomputable def askNms (T : Tab) (sc : Scope) : List Str → List Expr → Bool
  | [], [] => true
  | c :: cs, .Name y _ :: es => askNm T sc c y && askNms T sc cs es
  | _, _ => false

noncomputable def chk1_gget (T : Tab) (sc : Scope) (j : Nat) (e0 : Expr) : Option Expr := match e0 with
  | .Subscript (.Name x _) e _ => if T.gl.contains (j, x) && isGl sc x && okNm x && notSlc e then some e else none
  | _ => none
noncomputable def chk1_gin (T : Tab) (sc : Scope) (n : Bool) (j : Nat) (e0 : Expr) : Option Expr := match e0 with
  | .Compare e [op] [.Name x _] _ => if decide (op = inOp n) && T.gl.contains (j, x) && isGl sc x && okNm x then some e else none
  | _ => none
noncomputable def chk1_ints (T : Tab) (sc : Scope) (e0 : Expr) : Option Expr := match e0 with
  | .Call (.Name x _) [e] [] _ => if decide (x = "int") && T.bn.contains x && isGl sc x && notStar e then some e else none
  | _ => none
noncomputable def chk1 (T : Tab) (sc : Scope) (q : P1) (e0 : Expr) : Option Expr := match q with
  | .intt => chk1_ints T sc  e0
  | .gget j => chk1_gget T sc j e0
  | .gin n j => chk1_gin T sc n j e0
  | _ => none
noncomputable def chk2_split (T : Tab) (sc : Scope) (e0 : Expr) : Option (Expr × Expr) := match e0 with
  | .Call (.Attribute o nm ap) [e] [] cp => if decide (nm = "split") && okBase o && (ap.endLine == cp.line) && notStar e then some (o, e) else none
  | _ => none
noncomputable def chk2_join (T : Tab) (sc : Scope) (e0 : Expr) : Option (Expr × Expr) := match e0 with
  | .Call (.Attribute o nm ap) [e] [] cp => if decide (nm = "join") && okBase o && (ap.endLine == cp.line) && notStar e then some (o, e) else none
  | _ => none
noncomputable def chk2_index (T : Tab) (sc : Scope) (e0 : Expr) : Option (Expr × Expr) := match e0 with
  | .Call (.Attribute o nm ap) [e] [] cp => if decide (nm = "index") && okBase o && (ap.endLine == cp.line) && notStar e then some (o, e) else none
  | _ => none
noncomputable def chk2_gg2 (T : Tab) (sc : Scope) (j : Nat) (e0 : Expr) : Option (Expr × Expr) := match e0 with
  | .Call (.Attribute (.Name x _) nm ap) [e, f] [] cp => if decide (nm = "get") && T.gl.contains (j, x) && isGl sc x && okNm x && (ap.endLine == cp.line) && notStar e && notStar f then some (e, f) else none
  | _ => none
noncomputable def chk2_sin (T : Tab) (sc : Scope) (n : Bool) (e0 : Expr) : Option (Expr × Expr) := match e0 with
  | .Compare e [op] [f] _ => if !n && decide (op = .In) && notSet f then some (e, f) else none
  | _ => none
noncomputable def chk2 (T : Tab) (sc : Scope) (q : P2) (e0 : Expr) : Option (Expr × Expr) := match q with
  | .split => chk2_split T sc  e0
  | .join => chk2_join T sc  e0
  | .index => chk2_index T sc  e0
  | .gg2 j => chk2_gg2 T sc j e0
  | .sin n => chk2_sin T sc n e0
  | _ => none
noncomputable def chk3_get (T : Tab) (sc : Scope) (e0 : Expr) : Option (Expr × Expr × Expr) := match e0 with
  | .Call (.Attribute o nm ap) [e, f] [] cp => if decide (nm = "get") && okBase o && (ap.endLine == cp.line) && notStar e && notStar f then some (o, e, f) else none
  | _ => none
noncomputable def chk3 (T : Tab) (sc : Scope) (q : P3) (e0 : Expr) : Option (Expr × Expr × Expr) := match q with
  | .get => chk3_get T sc  e0
  | _ => none
mutual
noncomputable def chkE (T : Tab) (N : List Str) (sc : Scope) (fp : Str → Bool) : ME → Expr → Bool
  | .var i, e => match e with
    | .Name x _ => decide (N[i]? = some x) && isVis sc x && okNm x
    | _ => false
  | .bor i, e => match e with
    | .Name x _ => decide (N[i]? = some x) && isVis sc x && okNm x
    | _ => false
  | .con d, e => match e with
    | .Constant c _ _ => conOk c d
    | _ => false
  | .glb j, e => match e with
    | .Name x _ => T.gl.contains (j, x) && isGl sc x && okNm x
    | _ => false
  | .bin o a b, e => match e with
    | .BinOp l op r _ => decide (op = opOf o) && chkE T N sc fp a l && chkE T N sc fp b r
    | _ => false
  | .neg a, e => match e with
    | .UnaryOp .USub x _ => chkE T N sc fp a x
    | _ => false
  | .not a, e => match e with
    | .UnaryOp .Not x _ => chkE T N sc fp a x && notIf x
    | _ => false
  | .and a b, e => match e with
    | .BoolOp .And (e1 :: e2 :: rest) pos => chkE T N sc fp a e1 && notIf e1 && (match rest with
      | [] => chkE T N sc fp b e2 && notIf e2
      | r :: rs => chkE T N sc fp b (.BoolOp .And (e2 :: r :: rs) pos))
    | _ => false
  | .or a b, e => match e with
    | .BoolOp .Or (e1 :: e2 :: rest) pos => chkE T N sc fp a e1 && notIf e1 && (match rest with
      | [] => chkE T N sc fp b e2 && notIf e2
      | r :: rs => chkE T N sc fp b (.BoolOp .Or (e2 :: r :: rs) pos))
    | _ => false
  | .cmp o a b, e => match e with
    | .Compare l [op] [r] _ => decide (op = cOf o) && chkE T N sc fp a l && chkE T N sc fp b r && notSet r
    | _ => false
  | .chn o o' a b c, e => match e with
    | .Compare l [op, op'] [r, r'] _ => decide (op = cOf o) && decide (op' = cOf o') && chkE T N sc fp a l && chkE T N sc fp b r && chkE T N sc fp c r' && notSet r'
    | _ => false
  | .ite c a b, e => match e with
    | .IfExp t x y _ => chkE T N sc fp c t && notIf t && chkE T N sc fp a x && chkE T N sc fp b y
    | _ => false
  | .tup es, e => match e with
    | .Tuple l _ _ => chkEs T N sc fp es l
    | _ => false
  | .lst es, e => match e with
    | .List l _ => chkEs T N sc fp es l
    | _ => false
  | .idx a i, e => match e with
    | .Subscript x s _ => notSlc s && chkE T N sc fp a x && chkE T N sc fp i s
    | _ => false
  | .slc a lo hi, e => match e with
    | .Subscript x (.Slice l u none _) _ => chkE T N sc fp a x && chkO T N sc fp lo l && chkO T N sc fp hi u
    | _ => false
  | .ndT, e => false
  | .ndK, e => false
  | .skey1 t m, e => false
  | .skey2 t i, e => false
  | .call f es, e => match e with
    | .Call (.Name x _) (a :: l) [] _ => T.fnm.contains (f, x) && isGl sc x && okNm x && chkEs T N sc fp es (a :: l)
    | _ => false
  | .callp f es, e => false
  | .callr f es, e => false
  | .bi b es, e => match e with
    | .Call (.Name x _) (a :: l) [] _ => T.bn.contains x && isGl sc x && (match b with
      | .isi1 t => decide (x = "isinstance") && notStar a && (match l with
        | [.Name y _] => (y == Str.ofString (tyN t)) && T.bn.contains y && isGl sc y && chkEs T N sc fp es [a]
        | _ => false)
      | .isi ts => decide (x = "isinstance") && notStar a && (match l with
        | [.Tuple ys _ _] => decide (ts.length ≤ 16) && tyNames T.bn sc ys ts && chkEs T N sc fp es [a]
        | _ => false)
      | b => decide ((biNm b).map (·.1) = some x) && chkEs T N sc fp es (a :: l))
    | _ => false
  | .comp own t it c m, e => match e with
    | .ListComp elt [⟨tg, iter, ifs, as⟩] scope _ => decide (as = 0) && chkI T N sc fp it tg iter && notSet iter && blkC N sc scope (own.map fun i => (N.getD i "", i)) && (slotsT t).all (fun i => own.contains i) &&
        chkT T N (relSc scope sc) (fun x => scope.names.lookup x == some .cell) t tg && chkC T N (relSc scope sc) (fun x => scope.names.lookup x == some .cell) c ifs && chkE T N (relSc scope sc) (fun x => scope.names.lookup x == some .cell) m elt
    | _ => false
  | .compl own t it c m, e => false
  | .new a, e => chkE T N sc fp a e
  | .dct ks es, e => match e with
    | .Dict kes l _ => keysOk kes ks && chkEs T N sc fp es l && decide (kes.length = l.length) && decide (kes.length ≠ 0) && decide (kes.length ≤ 15)
    | _ => false
  | .dgt a i, e => match e with
    | .Subscript x s _ => notSlc s && chkE T N sc fp a x && chkE T N sc fp i s
    | _ => false
  | .din n a b, e => match e with
    | .Compare l [op] [r] _ => decide (op = if n then .NotIn else .In) && chkE T N sc fp a l && chkE T N sc fp b r && notSet r
    | _ => false
  | .o1 q a, e => match chk1 T sc q e with
    | some x => chkE T N sc fp a x
    | none => false
  | .o2 q a b, e => match chk2 T sc q e with
    | some x => chkE T N sc fp a x.1 && chkE T N sc fp b x.2
    | none => false
  | .o3 q a b c, e => match chk3 T sc q e with
    | some x => chkE T N sc fp a x.1 && chkE T N sc fp b x.2.1 && chkE T N sc fp c x.2.2
    | none => false
  | .fld c o f, e => match e with
    | .Attribute x nm _ => decide (nm = f) && T.fld.contains (c, f) && okBase x && chkE T N sc fp o x
    | _ => false
  | .meth c m f o es, e => match e with
    | .Call (.Attribute x nm ap) l [] cp => decide (nm = m) && T.mth.contains (f, c, m) && okBase x && (ap.endLine == cp.line) && decide (l.length < 29) && chkE T N sc fp o x && chkEs T N sc fp es l
    | _ => false
  | .make c f es, e => match e with
    | .Call (.Name x _) (a :: l) [] _ => decide (x = c) && T.mkr.contains (f, c) && isGl sc x && okNm x && chkEs T N sc fp es (a :: l)
    | _ => false
  | .gks j, e => match e with
    | .Call (.Name x _) [.Name y _] [] _ => decide (x = "list") && T.bn.contains x && isGl sc x && T.gl.contains (j, y) && isGl sc y && okNm y
    | _ => false
  | .tsl a lo hi, e => false
  | .isx1 c a, e => match e with
    | .Call (.Name x _) [l, .Name y _] [] _ => decide (x = "isinstance") && T.bn.contains x && isGl sc x && notStar l && askNm T sc c y && chkE T N sc fp a l
    | _ => false
  | .isx cs a, e => match e with
    | .Call (.Name x _) [l, .Tuple ns _ _] [] _ => decide (x = "isinstance") && T.bn.contains x && isGl sc x && notStar l && askNms T sc cs ns && decide (ns.length < 16) && chkE T N sc fp a l
    | _ => false
  | .xf f a, e => match e with
    | .Attribute x nm _ => decide (nm = f) && okBase x && chkE T N sc fp a x
    | _ => false
noncomputable def chkEs (T : Tab) (N : List Str) (sc : Scope) (fp : Str → Bool) : MEs → List Expr → Bool
  | .nil, l => match l with
    | [] => true
    | _ => false
  | .cons m ms, l => match l with
    | e :: es => notStar e && chkE T N sc fp m e && chkEs T N sc fp ms es
    | _ => false
noncomputable def chkO (T : Tab) (N : List Str) (sc : Scope) (fp : Str → Bool) : MO → Option Expr → Bool
  | .no, l => match l with
    | none => true
    | _ => false
  | .yes m, l => match l with
    | some e => chkE T N sc fp m e
    | _ => false
noncomputable def chkC (T : Tab) (N : List Str) (sc : Scope) (fp : Str → Bool) : MO → List Expr → Bool
  | .no, l => match l with
    | [] => true
    | _ => false
  | .yes m, l => match l with
    | [e] => chkE T N sc fp m e && notIf e
    | _ => false
noncomputable def chkI (T : Tab) (N : List Str) (sc : Scope) (fp : Str → Bool) : MI → Expr → Expr → Bool
  | .rng1 a, tg, e => match e with
    | .Call (.Name x _) [l] [] _ => decide (x = "range") && T.bn.contains x && isGl sc x && notStar l && chkE T N sc fp a l
    | _ => false
  | .rng2 a b, tg, e => false
  | .rngd a b, tg, e => false
  | .rrng a, tg, e => false
  | .rrev a, tg, e => false
  | .seq a, tg, e => chkE T N sc fp a e
  | .gky j, tg, e => match e with
    | .Name x _ => T.gl.contains (j, x) && isGl sc x && okNm x
    | _ => false
  | .chs a, tg, e => chkE T N sc fp a e
  | .enm a, tg, e => match e with
    | .Call (.Name x _) [l] [] _ => decide (x = "enumerate") && T.bn.contains x && isGl sc x && notStar l && (match tg with | .Tuple _ _ _ => true | _ => false) && chkE T N sc fp a l
    | _ => false
  | .zip a b, tg, e => match e with
    | .Call (.Name x _) [l, r] [] _ => decide (x = "zip") && T.bn.contains x && isGl sc x && notStar l && notStar r && (match tg with | .Tuple _ _ _ => true | _ => false) && chkE T N sc fp a l && chkE T N sc fp b r
    | _ => false
noncomputable def chkT (T : Tab) (N : List Str) (sc : Scope) (fp : Str → Bool) : MT → Expr → Bool
  | .nm i, e => match e with
    | .Name x _ => decide (N[i]? = some x) && (isLoc sc x || (isCel sc x && fp x))
    | _ => false
  | .sub o i, e => match e with
    | .Subscript x s _ => notSlc s && chkE T N sc fp o x && chkE T N sc fp i s
    | _ => false
  | .tp ts, e => match e with
    | .Tuple l _ _ => chkTs T N sc fp ts l
    | _ => false
  | .cut o n, e => false
  | .key i j, e => false
noncomputable def chkTs (T : Tab) (N : List Str) (sc : Scope) (fp : Str → Bool) : MTs → List Expr → Bool
  | .nil, l => match l with
    | [] => true
    | _ => false
  | .cons m ms, l => match l with
    | e :: es => notStar e && chkT T N sc fp m e && chkTs T N sc fp ms es
    | _ => false
end
structure GX (T : Tab) (N : List Str) (sc : Scope) (fp : Str → Bool) (Φ : Fns) (G : List D) (k : Nat) (X : Cx) : Prop where
  calm : X.calm = true
  hN : X.N = N
  nd : N.Nodup
  hsc : X.env.scope = sc
  knd : sc.kind = .function
  hfn : X.fn = fp
  pas : PassesOwn (model X.prog X.w) X.A X.env X.xe
  room : Room (2 * k + 2) X.A
  gds : X.A.guards = some []
  bl : ∀ x, x ∈ T.bn → X.mg x = none
  fns : ∀ f x, (f, x) ∈ T.fnm → ∃ fa fd ps, FnG X.prog X.w X.K X.mg X.base (2 * k + 1) fa fd ps (spF X.K Φ f) ∧ X.mg x = some (.ref fa) ∧ PySem.W.keepIn X.K (.ref fa) = true ∧ Binds X.K fd ps []
  gl : ∀ (j : Nat) (x : Str), (j, x) ∈ T.gl → ∃ d u, G[j]? = some d ∧ X.mg x = some u ∧ GOk X.K X.w d u
  fld : ∀ c f, (c, f) ∈ T.fld → ∃ C, PySem.W.nsIn X.K mainGlobals c = some (some (.ref C)) ∧ Cls X.K C ∧ NoAttr X.K C f
  mth : ∀ f c m, (f, c, m) ∈ T.mth → ∃ C fa fd ps, PySem.W.nsIn X.K mainGlobals c = some (some (.ref C)) ∧ Cls X.K C ∧ Meth X.K C m fa ∧ FnG X.prog X.w X.K X.mg X.base (2 * k + 1) fa fd ps (spF X.K Φ f) ∧ Binds X.K fd ps []
  lam : ∀ t, (N, t) ∈ T.lam → LamF X t
  mkr : ∀ f c, (f, c) ∈ T.mkr → ∃ C fa fd ps, PySem.W.nsIn X.K mainGlobals c = some (some (.ref C)) ∧ Mk X.K C fa ∧ FnG X.prog X.w X.K X.mg X.base (2 * k + 1) fa fd ps (spF X.K Φ f) ∧ X.mg c = some (.ref C) ∧ Binds X.K fd ps []
  fnx : ∀ f x, (f, x) ∈ T.fnm → ∃ fa fd ps, FnY X.prog X.w X.K X.mg X.base (2 * k + 1) fa fd ps (spR X.K Φ f) ∧ X.mg x = some (.ref fa) ∧ PySem.W.keepIn X.K (.ref fa) = true ∧ Binds X.K fd ps []
  mtx : ∀ f c m, (f, c, m) ∈ T.mth → ∃ C fa fd ps, PySem.W.nsIn X.K mainGlobals c = some (some (.ref C)) ∧ Cls X.K C ∧ Meth X.K C m fa ∧ FnY X.prog X.w X.K X.mg X.base (2 * k + 1) fa fd ps (spR X.K Φ f) ∧ Binds X.K fd ps []
  xcs : ∀ c, c ∈ T.xc → c ∈ errNames ∧ ∃ C, X.mg c = some (.ref C) ∧ PySem.W.nsIn X.K mainGlobals c = some (some (.ref C))
  xrs : ∀ c f, (c, f) ∈ T.xr → ∃ C, X.mg c = some (.ref C) ∧ ErrC X.K C ∧ XSub X.K c C ∧ XRk X.prog X.w X.K X.mg X.base C f
structure SE (X : Cx) (Φ : Fns) (G : List D) (e : Expr) (m : ME) : Prop where
  de : DE X Φ G e m
  dt : notIf e = true → DT X Φ G e m
  dw : (∀ op es pos, e = .BoolOp op es pos → ∀ a b r, es = a :: b :: r → DW X Φ G e m)
section
variable {X : Cx}
theorem star_of {e : Expr} {es : List Expr} {env : PySem.Env} (h : notStar e = true) : starEach (e :: es) env = (false, eval e env) :: starEach es env := by
  cases e <;> first | rfl | cases h
theorem aseach_of {e : Expr} {es : List Expr} {env : PySem.Env} (h : notStar e = true) : assignEach (e :: es) env = (false, assign e env) :: assignEach es env := by
  cases e <;> first | rfl | cases h
theorem ix_of {e : Expr} (h : notSlc e = true) : PlainIx e := by
  intro o i
  cases e <;> first | rfl | cases h
theorem mark_of {op : CmpOp} {e : Expr} (h : notSet e = true) : behindInMarks op e = false := by
  cases e <;> first | rfl | cases h
theorem fold_of {e : Expr} {env : PySem.Env} (h : notSet e = true) : ∀ x, foldedSetIterable e env x = pure x := by
  intro x
  cases e <;> first | rfl | cases h
noncomputable def plainB : Expr → Bool
  | .UnaryOp .Not _ _ => false | .BoolOp _ _ _ => false | .IfExp _ _ _ _ => false | .Compare _ _ _ _ => false | _ => true
theorem true_of {e : Expr} {env : PySem.Env} (h : plainB e = true) : ∀ whole, isTrue e env whole = (do let v ← whole; standAt e.pos; holding [v] (truthy v)) := by
  intro w
  cases e with
  | UnaryOp op x pos => cases op <;> first | rfl | cases h
  | BoolOp _ _ _ => cases h
  | IfExp _ _ _ _ => cases h
  | Compare _ _ _ _ => cases h
  | _ => rfl
theorem vis_of {sc : Scope} {x : Str} (h : isVis sc x = true) : Vis sc x := by
  unfold isVis at h
  unfold Vis
  split at h
  · exact .inl (by assumption)
  · exact .inr (.inl (by assumption))
  · exact .inr (.inr (by assumption))
  · cases h
theorem loc_of {sc : Scope} {x : Str} (h : isLoc sc x = true) : sc.names.lookup x = some .local := by
  unfold isLoc at h
  split at h
  · assumption
  · cases h
theorem cel_of {sc : Scope} {x : Str} (h : isCel sc x = true) : sc.names.lookup x = some .cell := by
  unfold isCel at h
  split at h
  · assumption
  · cases h
theorem gl_of {sc : Scope} {x : Str} (h : isGl sc x = true) : sc.names.lookup x = some .globalImplicit := by
  unfold isGl at h
  split at h
  · assumption
  · cases h
theorem okNm_of {x : Str} (h : okNm x = true) : (x == ("__debug__" : Str)) = false ∧ (x == ("__classdict__" : Str)) = false := by
  unfold okNm at h
  simpa using h
theorem nostar_all {T : Tab} {N : List Str} {sc : Scope} {fp : Str → Bool} {env : PySem.Env} {pos : Pos} : ∀ {ms : MEs} {es : List Expr}, chkEs T N sc fp ms es = true → (backTo pos (starEach es env)).any (·.1) = false
  | .nil, [], _ => rfl
  | .nil, _ :: _, h => by simp [chkEs] at h
  | .cons m ms, [], h => by simp [chkEs] at h
  | .cons m ms, e :: es, h => by
    simp only [chkEs, Bool.and_eq_true] at h
    rw [star_of h.1.1]
    show (false || (backTo pos (starEach es env)).any (·.1)) = false
    rw [nostar_all h.2]; rfl
theorem meth_ht {o : Expr} {m : Str} {es : List Expr} {ap pos : Pos} {env : PySem.Env} (hb : okBase o = true) (hl : (ap.endLine == pos.line) = true) (hn : es.length < 29) (hs : (backTo pos (starEach es env)).any (·.1) = false) :
    eval (.Call (.Attribute o m ap) es [] pos) env = (do
      let ov ← eval o env
      standAt ap.atName
      let (f, first) ← holding [ov] (getMethod ov m (do return (← importBound o env).getD true))
      callWith pos f first (backTo pos (starEach es env)) (backToKw pos (keywordEach [] env))) := by
  have hform : methodCallForm (es.length + ([] : List Keyword).length) (backTo pos (starEach es env)) (backToKw pos (keywordEach [] env)) = true := by
    unfold methodCallForm
    rw [Bool.and_eq_true, Bool.and_eq_true]
    refine ⟨⟨?_, rfl⟩, decide_eq_true (show es.length + 0 + _ < 30 from ?_)⟩
    · rw [List.all_eq_true]
      intro x hx
      have := List.any_eq_false.mp hs x hx
      simpa using this
    · have : (if (backToKw pos (keywordEach [] env)).isEmpty = true then 0 else 1) ≤ 1 := by split <;> decide
      omega
  have hpos : methodCallPos true o env ap pos = pure pos := by unfold methodCallPos; simp [hl]
  show (do
    let ov ← attributeBase o m env (eval o env)
    standAt ap.atName
    methodCall o m ap pos env ov (es.length + ([] : List Keyword).length) (backTo pos (starEach es env)) (backToKw pos (keywordEach [] env))) = _
  rw [base_of hb]
  unfold methodCall
  rw [hform, hpos]
  unfold calleeOf
  rfl
theorem stos_len {Φ : Fns} {G : List D} : ∀ {ts : MTs} {T : Tab} {N : List Str} {sc : Scope} {fp : Str → Bool} {es : List Expr}, chkTs T N sc fp ts es = true → ∀ ds ρ S ρ' S', stos Φ G ts ds ρ S = some (ρ', S') → ds.length = es.length
  | .nil, _, _, _, _, [], _, [], _, _, _, _, _ => rfl
  | .nil, _, _, _, _, [], _, _ :: _, _, _, _, _, h => by cases (show (none : Option (Env × Sto)) = some _ from h)
  | .nil, _, _, _, _, _ :: _, h, _, _, _, _, _, _ => by simp [chkTs] at h
  | .cons _ _, _, _, _, _, [], h, _, _, _, _, _, _ => by simp [chkTs] at h
  | .cons t ts, T, N, sc, fp, e :: es, h, [], _, _, _, _, q => by cases (show (none : Option (Env × Sto)) = some _ from q)
  | .cons t ts, T, N, sc, fp, e :: es, h, d :: ds, ρ, S, ρ', S', q => by
    simp only [chkTs, Bool.and_eq_true] at h
    have q : ((sto Φ G t d ρ S).bind fun p => stos Φ G ts ds p.1 p.2) = some (ρ', S') := q
    obtain ⟨⟨ρ1, S1⟩, _, q⟩ := Mi.bind_some q
    rw [List.length_cons, List.length_cons, stos_len h.2 ds _ _ _ _ q]
theorem aslen {T : Tab} {N : List Str} {sc : Scope} {fp : Str → Bool} {env : PySem.Env} : ∀ {ms : MTs} {es : List Expr}, chkTs T N sc fp ms es = true → (assignEach es env).length = es.length ∧ (assignEach es env).findIdx? (·.1) = none
  | .nil, [], _ => ⟨rfl, rfl⟩
  | .nil, _ :: _, h => by simp [chkTs] at h
  | .cons m ms, [], h => by simp [chkTs] at h
  | .cons m ms, e :: es, h => by
    simp only [chkTs, Bool.and_eq_true] at h
    obtain ⟨h1, h2⟩ := aslen (env := env) h.2
    rw [aseach_of h.1.1]
    refine ⟨by rw [List.length_cons, h1, List.length_cons], ?_⟩
    rw [List.findIdx?_cons, h2]; rfl
end
end Mi
end
noncomputable section
namespace Mi
open PySem PySem.Spec L2 PyProof.Rows PpSet
section
variable {P : Program} {w : World} {A : Around} {E : Value → Shared → Prop} {s : Shared}
end
section
variable {X : Cx} {Φ : Fns} {G : List D} {e e1 e2 : Expr} {pos apos cpos p p2 q0 : Pos}
end
end Mi
end
noncomputable section
namespace Mi
open PySem PySem.Spec L2 PyProof.Rows PySem.W
section
variable {X : Cx} {Φ : Fns} {G : List D} {e e1 e2 : Expr} {pos apos cpos p p2 q0 : Pos}
end
end Mi
end
noncomputable section
namespace Mi
open PySem PySem.Spec L2 PyProof.Rows
section
variable {prog : Program} {w : World} {A : Around} {E : Value → Shared → Prop} {s : Shared}

end
theorem Kd.Sq.mv : ∀ {k : Kd} {h h' : Heap} {a : Addr} {xs : Array Value}, k.Sq h a xs → (∀ o, h.get? a = some o → h'.get? a = some o) → k.Sq h' a xs
  | .l, _, _, _, _, x, e => x.at e
  | .t, _, _, _, _, x, e => x.at e
theorem Kd.Sq.obj : ∀ {k : Kd} {h : Heap} {a : Addr} {xs : Array Value}, k.Sq h a xs → ∃ o, h.get? a = some o
  | .l, _, _, _, ⟨o, q, _⟩ => ⟨o, q⟩
  | .t, _, _, _, ⟨o, q, _⟩ => ⟨o, q⟩
section
variable {prog : Program} {w : World}

end
end Mi
end
noncomputable section
namespace Mi
open PySem PySem.Spec L2 PyProof.Rows
section
variable {X : Cx} {pins : List (Addr × Obj)} {σ : L2.St} {H : Hp} {s : Shared} {a b : Addr} {A : Around} {E : Value → Shared → Prop}
end
theorem RepL.key {K : PySem.W.Frag} {W : Wd} : ∀ {ds : List D} {ks : List Key} {vs : List V}, RepL K W ds vs → keysD ds = some ks → vs = ks.map kV
  | [], ks, vs, h, e => by
    cases e
    exact h.nil_inv
  | d :: ds, ks, vs, h, e => by
    rw [keysD] at e
    obtain ⟨k, hk, e⟩ := Mi.bind_some e
    obtain ⟨ks', hks, rfl⟩ := map_some e
    obtain ⟨v, q, rfl, h1, h2⟩ := h.cons_inv
    rw [h2.key hks, List.map_cons]
    congr 1
    cases d with
    | int i => cases hk; exact h1
    | str x => cases hk; exact h1
    | _ => cases hk
section
variable {X : Cx} {Φ : Fns} {G : List D} {e e1 e2 : Expr} {pos apos cpos p p2 q0 : Pos}
end
end Mi
end
noncomputable section
namespace Mi
open PySem PySem.Spec L2
section
variable {X : Cx} {Φ : Fns} {G : List D} {e e1 e2 e3 : Expr} {pos : Pos}
theorem chain_imp {K : PySem.W.Frag} {o o' : COp} {m1 m2 m3 : ME} {σ : St} {H : Hp} {Q : VK} (h : tR K Φ G (.chn o o' m1 m2 m3) σ H Q) :
    tChain (rD K fun S x y => (cmpop S o x y).map fun b => .val (.bl b)) (rD K fun S x y => (cmpop S o' x y).map fun b => .val (.bl b)) (tR K Φ G m1) (tR K Φ G m2) (tR K Φ G m3) σ H Q := by
  obtain ⟨W, S, ρ, a, r, S', ev, q⟩ := h
  rw [evR] at ev
  obtain ⟨⟨x, S1⟩, ev1, ev⟩ := Mi.bind_some ev
  obtain ⟨⟨y, S2⟩, ev2, ev⟩ := Mi.bind_some ev
  obtain ⟨b, hb, ev⟩ := Mi.bind_some ev
  refine ⟨W, S, ρ, a, x, S1, ev1, fun W1 v1 e1 r1 p1 => ?_⟩
  have a1 := a.ext e1 r1
  refine ⟨W1, S1, ρ, a1, y, S2, ev2, fun W2 v2 e2 r2 p2 => ?_⟩
  refine ⟨W, W1, W2, S2, x, y, .val (.bl b), rfl, r2, p1.ext r1 e2, p2, by show (cmpop S2 o x y).map _ = _; dsimp only at hb; rw [hb]; rfl, fun W3 v3 e3 r3 p3 => ?_⟩
  refine ⟨b, repr_bl p3, ?_⟩
  have e13 := (e1.trans e2).trans e3
  cases b with
  | false =>
    cases ev
    exact iteF (q W3 _ e13 r3 bl_repr)
  | true =>
    obtain ⟨⟨z, S3⟩, ev3, ev⟩ := Mi.bind_some ev
    obtain ⟨c, hc, ev⟩ := map_some ev
    cases ev
    refine iteT ⟨W3, S2, ρ, (a1.ext e2 r2).ext e3 r3, z, _, ev3, fun W4 v4 e4 r4 p4 => ?_⟩
    refine ⟨W1, W3, W4, _, y, z, .val (.bl c), rfl, r4, (p2.ext r2 e3).ext r3 e4, p4, by show (cmpop _ o' y z).map _ = _; dsimp only at hc; rw [hc]; rfl, fun W5 v5 e5 r5 p5 => ?_⟩
    have e15 := e13.trans e4
    exact q W5 v5 (e15.trans e5) r5 (p5.back e15)
theorem de_chn {o o' : COp} {m1 m2 m3 : ME} (hu : X.A.units + 65 < cLine) (hm : lastMarks [cOf o, cOf o'] [e2, e3] = false) (h1 : DE X Φ G e1 m1) (h2 : DE X Φ G e2 m2) (h3 : DE X Φ G e3 m3) : DE X Φ G (.Compare e1 [cOf o, cOf o'] [e2, e3] pos) (.chn o o' m1 m2 m3) :=
  PE.imp (pe_chain (op_cmp hu o) (op_cmp hu o') h1 h2 h3 hm) fun σ H Q h => chain_imp h
theorem dt_chn {o o' : COp} {m1 m2 m3 : ME} (hu : X.A.units + 65 < cLine) (hm : lastMarks [cOf o, cOf o'] [e2, e3] = false) (h1 : DE X Φ G e1 m1) (h2 : DE X Φ G e2 m2) (h3 : DE X Φ G e3 m3) : DT X Φ G (.Compare e1 [cOf o, cOf o'] [e2, e3] pos) (.chn o o' m1 m2 m3) := by
  refine PT.imp (pt_chain (op_cmp hu o) (op_cmp hu o') h1 h2 h3 hm) fun σ H Q h => ?_
  obtain ⟨W, S, ρ, a, b, S', ev, q⟩ := h
  exact chain_imp ⟨W, S, ρ, a, _, S', ev, fun W' v e r p => ⟨b, repr_bl p, q W' e r⟩⟩
end
section
variable {T : Tab} {N : List Str} {sc : Scope} {fp : Str → Bool} {Φ : Fns} {G : List D} {k : Nat}

theorem GX.blk {X : Cx} {scope : Scope} {cl : List (Str × Addr)} {C : Addr} {s : Shared} {H : Hp} {fpa : List Addr} (g : GX T N sc fp Φ G k X) (hk : scope.kind = .function) : GX T N (relSc scope sc) (fun x => scope.names.lookup x == some .cell) Φ G k (X.blk s H scope (compEnvC scope cl C X.env) fpa) := by
  refine ⟨g.calm, g.hN, g.nd, ?_, hk, rfl, PassesOwn.never, g.room, g.gds, g.bl, g.fns, g.gl, g.fld, g.mth, fun t h => ⟨(g.lam t h).qual, (g.lam t h).tab⟩, g.mkr, g.fnx, g.mtx, g.xcs, g.xrs⟩
  show relabel scope X.env = relSc scope sc
  unfold relabel relSc
  rw [← g.hsc]
  rfl
theorem GX.hu {X : Cx} (g : GX T N sc fp Φ G k X) : X.A.units + 65 < cLine := by have := g.room.un; omega
theorem SE.of {X : Cx} {e : Expr} {m : ME} (h : DE X Φ G e m) (hb : plainB e = true) : SE X Φ G e m := ⟨h, fun _ => dt_val h (true_of hb), fun op es pos e1 => by subst e1; cases hb⟩

theorem ask_pe {X : Cx} (g : GX T N sc fp Φ G k X) {c y : Str} {p : Pos} (h : askNm T sc c y = true) : ∃ (v : V) (u : Value), PE X (.Name y p) (tC v) ∧ ClsV v u ∧ AskC X.K c u := by
  unfold askNm at h
  simp only [Bool.and_eq_true, Bool.or_eq_true, decide_eq_true_eq, List.contains_iff_mem] at h
  obtain ⟨⟨⟨rfl, h2⟩, h3⟩, h4⟩ := h
  have gl : Gl X y := by unfold Gl PySem.Env.kindOf; rw [g.hsc]; exact gl_of h2
  rcases h4 with h4 | ⟨rfl, h4⟩
  · obtain ⟨he, C, hm, hn⟩ := g.xcs _ h4
    exact ⟨.ref C, .ref C, pe_glob gl hm rfl (okNm_of h3).1, .own C, askC_own he hn⟩
  · exact ⟨.ty "ValueError", .type "ValueError", pe_bltn gl (g.bl _ h4) (by decide +kernel) rfl (by decide) (by decide), .ty _, askC_ve⟩
theorem asks_pe {X : Cx} (g : GX T N sc fp Φ G k X) : ∀ {cs : List Str} {es : List Expr}, askNms T sc cs es = true → ∃ (vs : List V) (us : List Value), PA X es (fun _ H Q => Q vs H) ∧ AskCs X.K cs vs us ∧ vs.length = es.length := by
  intro cs es
  fun_induction askNms T sc cs es with
  | case1 => exact fun _ => ⟨[], [], pa_nil, .nil, rfl⟩
  | case2 c cs y p es ih =>
    intro h
    rw [Bool.and_eq_true] at h
    obtain ⟨v, u, h1, h2, h3⟩ := ask_pe g (p := p) h.1
    obtain ⟨vs, us, h4, h5, h6⟩ := ih h.2
    exact ⟨v :: vs, u :: us, PA.imp (pa_cons h1 h4 rfl) fun σ H Q q => q, .cons h3 h2 h5, by rw [List.length_cons, List.length_cons, h6]⟩
  | case3 => intro h; cases h
theorem tynames_pe {X : Cx} (g : GX T N sc fp Φ G k X) : ∀ {es : List Expr} {ts : List Ty}, tyNames T.bn sc es ts = true → PA X es (fun _ H Q => Q (ts.map fun t => V.ty (tyN t)) H)
  | [], [], _ => pa_nil
  | [], _ :: _, h => by simp [tyNames] at h
  | .Name x p :: es, t :: ts, h => by
    simp only [tyNames, Bool.and_eq_true, List.contains_iff_mem, beq_iff_eq] at h
    obtain ⟨⟨⟨h1, h2⟩, h3⟩, h4⟩ := h
    have b : bootBuiltins x = some (.type (tyN t)) := by rw [h1]; cases t <;> decide +kernel
    have d1 : x ≠ "__name__" := by rw [h1]; cases t <;> decide
    have d2 : (x == ("__debug__" : Str)) = false := by rw [h1]; cases t <;> decide
    have gl : Gl X x := by unfold Gl PySem.Env.kindOf; rw [g.hsc]; exact gl_of h3
    exact PA.imp (pa_cons (pe_bltn (v := .ty (tyN t)) gl (g.bl x h2) b rfl d1 d2) (tynames_pe g h4) rfl) fun σ H Q h => h
  | .Name _ _ :: _, [], h => by simp [tyNames] at h
  | .BoolOp _ _ _ :: _, ts, h => by cases ts <;> simp [tyNames] at h
  | .NamedExpr _ _ _ :: _, ts, h => by cases ts <;> simp [tyNames] at h
  | .BinOp _ _ _ _ :: _, ts, h => by cases ts <;> simp [tyNames] at h
  | .UnaryOp _ _ _ :: _, ts, h => by cases ts <;> simp [tyNames] at h
  | .Lambda _ _ _ _ :: _, ts, h => by cases ts <;> simp [tyNames] at h
  | .IfExp _ _ _ _ :: _, ts, h => by cases ts <;> simp [tyNames] at h
  | .Dict _ _ _ :: _, ts, h => by cases ts <;> simp [tyNames] at h
  | .Set _ _ _ :: _, ts, h => by cases ts <;> simp [tyNames] at h
  | .ListComp _ _ _ _ :: _, ts, h => by cases ts <;> simp [tyNames] at h
  | .SetComp _ _ _ _ :: _, ts, h => by cases ts <;> simp [tyNames] at h
  | .DictComp _ _ _ _ _ :: _, ts, h => by cases ts <;> simp [tyNames] at h
  | .GeneratorExp _ _ _ _ :: _, ts, h => by cases ts <;> simp [tyNames] at h
  | .Await _ _ :: _, ts, h => by cases ts <;> simp [tyNames] at h
  | .Yield _ _ :: _, ts, h => by cases ts <;> simp [tyNames] at h
  | .YieldFrom _ _ :: _, ts, h => by cases ts <;> simp [tyNames] at h
  | .Compare _ _ _ _ :: _, ts, h => by cases ts <;> simp [tyNames] at h
  | .Call _ _ _ _ :: _, ts, h => by cases ts <;> simp [tyNames] at h
  | .FormattedValue _ _ _ _ :: _, ts, h => by cases ts <;> simp [tyNames] at h
  | .JoinedStr _ _ :: _, ts, h => by cases ts <;> simp [tyNames] at h
  | .Constant _ _ _ :: _, ts, h => by cases ts <;> simp [tyNames] at h
  | .Attribute _ _ _ :: _, ts, h => by cases ts <;> simp [tyNames] at h
  | .Subscript _ _ _ :: _, ts, h => by cases ts <;> simp [tyNames] at h
  | .Starred _ _ :: _, ts, h => by cases ts <;> simp [tyNames] at h
  | .List _ _ :: _, ts, h => by cases ts <;> simp [tyNames] at h
  | .Tuple _ _ _ :: _, ts, h => by cases ts <;> simp [tyNames] at h
  | .Slice _ _ _ _ :: _, ts, h => by cases ts <;> simp [tyNames] at h

theorem bi_snd {X : Cx} (g : GX T N sc fp Φ G k X) {b : BI} {x : Str} (h : (biNm b).map (·.1) = some x) : (∃ nm, CallR X (.builtin nm) (rBi X.K b) ∧ bootBuiltins x = some (.builtin nm) ∧ x ≠ "__name__" ∧ (x == ("__debug__" : Str)) = false) ∨
    ∃ nm, CallR X (.type nm) (rBi X.K b) ∧ bootBuiltins x = some (.type nm) ∧ x ≠ "__name__" ∧ (x == ("__debug__" : Str)) = false := by
  cases b with
  | abs => cases h; exact .inl ⟨"abs", bi_abs, by decide +kernel, by decide, by decide⟩
  | all => cases h; exact .inl ⟨"all", bi_all g.calm, by decide +kernel, by decide, by decide⟩
  | divmod => cases h; exact .inl ⟨"divmod", bi_divmod, by decide +kernel, by decide, by decide⟩
  | int => cases h; exact .inr ⟨"int", bi_int, by decide +kernel, by decide, by decide⟩
  | len => cases h; exact .inl ⟨"len", bi_len, by decide +kernel, by decide, by decide⟩
  | list => cases h; exact .inr ⟨"list", bi_list, by decide +kernel, by decide, by decide⟩
  | max => cases h; exact .inl ⟨"max", bi_max g.calm (by have := g.room.un; omega), by decide +kernel, by decide, by decide⟩
  | min => cases h; exact .inl ⟨"min", bi_min g.calm (by have := g.room.un; omega), by decide +kernel, by decide, by decide⟩
  | tuple => cases h; exact .inr ⟨"tuple", bi_tuple, by decide +kernel, by decide, by decide⟩
  | str => cases h; exact .inr ⟨"str", bi_str g.gds (by have := g.room.un; omega), by decide +kernel, by decide, by decide⟩
  | _ => cases h
theorem key_snd {X : Cx} : ∀ {kes : List (Option Expr)} {ks : List Key}, keysOk kes ks = true → KeyE X kes ks := by
  intro kes ks
  fun_induction keysOk kes ks with
  | case1 => intro _; exact .nil
  | case2 i p q es j ks ih =>
    intro h
    rw [Bool.and_eq_true, beq_iff_eq] at h
    rw [← h.1]
    exact .cons pe_int (ih h.2)
  | case3 x p q es y ks ih =>
    intro h
    rw [Bool.and_eq_true, beq_iff_eq] at h
    rw [← h.1]
    exact .cons pe_str (ih h.2)
  | case4 => intro h; cases h
theorem GX.glob {X : Cx} (g : GX T N sc fp Φ G k X) {x : Str} (h : isGl sc x = true) : Gl X x := by unfold Gl PySem.Env.kindOf; rw [g.hsc]; exact gl_of h
theorem snd1 {X : Cx} (g : GX T N sc fp Φ G k X) {q : P1} {e x : Expr} {m : ME} (h : chk1 T sc q e = some x) (hm : DE X Φ G x m) : SE X Φ G e (.o1 q m) := by
  cases q with
  | gget j =>
    have h : chk1_gget T sc j e = some x := h
    unfold chk1_gget at h
    split at h
    · rename_i x1 p1 e1 p2 _
      split at h
      · rename_i hc
        cases h
        simp only [Bool.and_eq_true, List.contains_iff_mem] at hc
        obtain ⟨⟨⟨h1, h2⟩, h3⟩, h4⟩ := hc
        obtain ⟨d, u, e1, e2, e3⟩ := g.gl j x1 h1
        have gl := g.glob h2
        rcases e3 with ⟨e5, v, e3, e4⟩ | ⟨a, ks, ds, rfl, rfl, gd⟩
        · refine .of (PE.imp (pe_ix ix_kdict (pe_glob gl e2 e3 (okNm_of h3).1) hm (ix_of h4)) fun σ H Q h => ?_) rfl
          unfold tOp tC
          refine tR_mono (one_op h) fun y H1 ⟨W0, W, S, r, S', b, eH, rel, rb, hr, q⟩ => ?_
          change ((G[j]?).bind fun d => d.dct?.bind fun t => b.str?.bind fun k => (valD t.1 t.2 (.inr k)).map fun x => (Rt.val x, S)) = _ at hr
          rw [e1, Option.bind_some, e5] at hr
          cases hr
        · exact .of (de_gget (ix_of h4) (pe_glob gl e2 rfl (okNm_of h3).1) e1 gd hm) rfl
      · cases h
    · cases h
  | intt =>
    have h : chk1_ints T sc  e = some x := h
    unfold chk1_ints at h
    split at h
    · split at h
      · rename_i hc
        cases h
        simp only [Bool.and_eq_true, decide_eq_true_eq, List.contains_iff_mem] at hc
        obtain ⟨⟨⟨rfl, h2⟩, h3⟩, h4⟩ := hc
        exact .of (de_ints (x := "int") (g.glob h3) (g.bl _ h2) (star_of h4) hm) rfl
      · cases h
    · cases h
  | gin n j =>
    have h : chk1_gin T sc n j e = some x := h
    unfold chk1_gin at h
    split at h
    · rename_i e0 op x1 p1 p2 _
      split at h
      · rename_i hc
        cases h
        simp only [Bool.and_eq_true, decide_eq_true_eq, List.contains_iff_mem] at hc
        obtain ⟨⟨⟨rfl, h1⟩, h2⟩, h3⟩ := hc
        obtain ⟨d, u, e1, e2, e3⟩ := g.gl j x1 h1
        have gl := g.glob h2
        rcases e3 with ⟨e5, v, e3, e4⟩ | ⟨a, ks, ds, rfl, rfl, gd⟩
        · have no : ∀ (σ : St) (H : Hp) (Q : VK), tR X.K Φ G (.o1 (.gin n j) m) σ H Q → tR X.K Φ G m σ H fun _ _ => False := fun σ H Q h => by
            refine tR_mono (one_op h) fun y H1 ⟨W0, W, S, r, S', b, eH, rel, rb, hr, q⟩ => ?_
            change ((G[j]?).bind fun d => d.dct?.bind fun t => b.str?.map fun k => (Rt.val (.bl (xor n (valD t.1 t.2 (.inr k)).isSome)), S)) = _ at hr
            rw [e1, Option.bind_some, e5] at hr
            cases hr
          have pn := pe_glob (pos := p1) gl e2 e3 (okNm_of h3).1
          refine ⟨?_, fun _ => ?_, fun op es pos e => nomatch e⟩
          · cases n with
            | false => exact PE.imp (pe_cmpR (op_in_seq) hm pn (mark_of rfl)) fun σ H Q h => tR_mono (no σ H Q h) fun _ _ z => z.elim
            | true => exact PE.imp (pe_cmpR (op_notIn_seq) hm pn (mark_of rfl)) fun σ H Q h => tR_mono (no σ H Q h) fun _ _ z => z.elim
          · have no2 : ∀ (σ : St) (H : Hp) (Q : Bool → Hp → Prop), tBl X.K Φ G (.o1 (.gin n j) m) σ H Q → tR X.K Φ G m σ H fun _ _ => False := fun σ H Q ⟨W, S, ρ, a, b, S', ev, q⟩ =>
              no σ H (fun _ _ => True) ⟨W, S, ρ, a, _, S', ev, fun _ _ _ _ _ => trivial⟩
            cases n with
            | false => exact PT.imp (pt_cmpR (op_in_seq) hm pn (mark_of rfl)) fun σ H Q h => by unfold tTest tOp; exact tR_mono (no2 σ H Q h) fun _ _ z => z.elim
            | true => exact PT.imp (pt_cmpR (op_notIn_seq) hm pn (mark_of rfl)) fun σ H Q h => by unfold tTest tOp; exact tR_mono (no2 σ H Q h) fun _ _ z => z.elim
        · have := de_gin (Φ := Φ) (n := n) (p := p1) (pos := p2) (mark_of rfl) (pe_glob gl e2 rfl (okNm_of h3).1) e1 gd hm
          exact ⟨this.1, fun _ => this.2, fun op es pos e => nomatch e⟩
      · cases h
    · cases h
  | _ => cases h
theorem snd2 {X : Cx} (g : GX T N sc fp Φ G k X) {q : P2} {e : Expr} {x : Expr × Expr} {m1 m2 : ME} (h : chk2 T sc q e = some x) (h1 : DE X Φ G x.1 m1) (h2 : DE X Φ G x.2 m2) : SE X Φ G e (.o2 q m1 m2) := by
  cases q with
  | split =>
    have h : chk2_split T sc  e = some x := h
    unfold chk2_split at h
    split at h
    · split at h
      · rename_i hc
        cases h
        simp only [Bool.and_eq_true, decide_eq_true_eq] at hc
        obtain ⟨⟨⟨rfl, h4⟩, h5⟩, h6⟩ := hc
        exact .of (de_split (star_of h6) h4 h5 h1 h2) rfl
      · cases h
    · cases h
  | join =>
    have h : chk2_join T sc  e = some x := h
    unfold chk2_join at h
    split at h
    · split at h
      · rename_i hc
        cases h
        simp only [Bool.and_eq_true, decide_eq_true_eq] at hc
        obtain ⟨⟨⟨rfl, h4⟩, h5⟩, h6⟩ := hc
        exact .of (de_join (star_of h6) h4 h5 h1 h2) rfl
      · cases h
    · cases h
  | index =>
    have h : chk2_index T sc  e = some x := h
    unfold chk2_index at h
    split at h
    · split at h
      · rename_i hc
        cases h
        simp only [Bool.and_eq_true, decide_eq_true_eq] at hc
        obtain ⟨⟨⟨rfl, h4⟩, h5⟩, h6⟩ := hc
        exact .of (de_index (star_of h6) h4 h5 h1 h2) rfl
      · cases h
    · cases h
  | sin n =>
    have h : chk2_sin T sc n e = some x := h
    unfold chk2_sin at h
    split at h
    · split at h
      · rename_i hc
        cases h
        simp only [Bool.and_eq_true, decide_eq_true_eq, Bool.not_eq_true'] at hc
        obtain ⟨⟨rfl, rfl⟩, h4⟩ := hc
        have q := fun p => de_sin (pos := p) (mark_of h4) h1 h2
        exact ⟨(q _).1, fun _ => (q _).2, fun op es pos e => nomatch e⟩
      · cases h
    · cases h
  | gg2 j =>
    have h : chk2_gg2 T sc j e = some x := h
    unfold chk2_gg2 at h
    split at h
    · rename_i x1 p1 nm ap e1 f1 cp _
      split at h
      · rename_i hc
        cases h
        simp only [Bool.and_eq_true, decide_eq_true_eq, List.contains_iff_mem] at hc
        obtain ⟨⟨⟨⟨⟨⟨rfl, h3⟩, h4⟩, h5⟩, h6⟩, h7⟩, h8⟩ := hc
        obtain ⟨d, u, g1, g2, g3⟩ := g.gl j x1 h3
        have gl := g.glob h4
        have mm : M2 X (.Name x1 p1) "get" ap e1 f1 cp := ⟨rfl, by rw [star_of h7, star_of h8]; rfl, h6, by rw [star_of h7, star_of h8]; rfl⟩
        rcases g3 with ⟨g5, v, g3, g4⟩ | ⟨a, ks, ds, rfl, rfl, gd⟩
        · refine .of (PE.imp (pe_dget2 (by have := g.room.un; omega) (pe_glob gl g2 g3 (okNm_of h5).1) h1 h2 mm) fun σ H Q h => ?_) rfl
          exfalso
          obtain ⟨W, S, ρ, a, r, S', ev, q⟩ := h
          rw [evR] at ev
          obtain ⟨⟨x, S1⟩, ev1, ev⟩ := Mi.bind_some ev
          split at ev
          · obtain ⟨⟨y, S2⟩, ev2, ev⟩ := Mi.bind_some ev
            change ((G[j]?).bind fun d => d.dct?.bind fun t => x.str?.bind fun k => y.val?.map fun e => (Rt.val ((valD t.1 t.2 (.inr k)).getD e), S2)) = _ at ev
            rw [g1, Option.bind_some, g5] at ev
            cases ev
          · cases ev
        · exact .of (de_gg2 (pe_glob gl g2 rfl (okNm_of h5).1) g1 gd h1 h2 mm) rfl
      · cases h
    · cases h
  | _ => cases h
theorem snd3 {X : Cx} (g : GX T N sc fp Φ G k X) {q : P3} {e : Expr} {x : Expr × Expr × Expr} {m1 m2 m3 : ME} (h : chk3 T sc q e = some x) (h1 : DE X Φ G x.1 m1) (h2 : DE X Φ G x.2.1 m2) (h3 : DE X Φ G x.2.2 m3) : SE X Φ G e (.o3 q m1 m2 m3) := by
  cases q with
  | get =>
    have h : chk3_get T sc  e = some x := h
    unfold chk3_get at h
    split at h
    · split at h
      · rename_i hc
        cases h
        simp only [Bool.and_eq_true, decide_eq_true_eq] at hc
        obtain ⟨⟨⟨⟨rfl, h4⟩, h5⟩, h6⟩, h7⟩ := hc
        exact .of (de_dg2 (by have := g.room.un; omega) h1 h2 h3 ⟨base_of h4, by rw [star_of h6, star_of h7]; rfl, h5, by rw [star_of h6, star_of h7]; rfl⟩) rfl
      · cases h
    · cases h
  | _ => cases h
mutual
theorem sndE : ∀ (m : ME) {N : List Str} {sc : Scope} {fp : Str → Bool} {X : Cx} {e : Expr}, GX T N sc fp Φ G k X → chkE T N sc fp m e = true → SE X Φ G e m
  | .var i, N, sc, fp, X, e, g, h => by
    unfold chkE at h
    split at h
    · rename_i x p
      simp only [Bool.and_eq_true, decide_eq_true_eq] at h
      obtain ⟨⟨h1, h2⟩, h3⟩ := h
      exact .of (de_var (by rw [g.hN]; exact h1) (by rw [g.hsc]; exact vis_of h2) (okNm_of h3).1 (okNm_of h3).2) rfl
    · cases h
  | .bor i, N, sc, fp, X, e, g, h => by
    unfold chkE at h
    split at h
    · rename_i x p
      simp only [Bool.and_eq_true, decide_eq_true_eq] at h
      obtain ⟨⟨h1, h2⟩, h3⟩ := h
      exact .of (de_bor (by rw [g.hN]; exact h1) (by rw [g.hsc]; exact vis_of h2) (okNm_of h3).1 (okNm_of h3).2) rfl
    · cases h
  | .con d, N, sc, fp, X, e, g, h => by
    unfold chkE at h
    split at h
    · rename_i c j p
      unfold conOk at h
      split at h
      · have h := beq_iff_eq.mp h
        subst h
        exact .of (de_con pe_int fun W => by unfold Rep; rfl) rfl
      · have h := beq_iff_eq.mp h
        subst h
        exact .of (de_con pe_str fun W => by unfold Rep; rfl) rfl
      · have h := beq_iff_eq.mp h
        subst h
        exact .of (de_con pe_bl fun W => by unfold Rep; rfl) rfl
      · exact .of (de_con pe_non fun W => by unfold Rep; rfl) rfl
      · cases h
    · cases h
  | .glb j, N, sc, fp, X, e, g, h => by
    unfold chkE at h
    split at h
    · rename_i x p
      simp only [Bool.and_eq_true, List.contains_iff_mem] at h
      obtain ⟨⟨h1, h2⟩, h3⟩ := h
      obtain ⟨d, u, e1, e2, e3⟩ := g.gl j x h1
      have gl : Gl X x := by unfold Gl PySem.Env.kindOf; rw [g.hsc]; exact gl_of h2
      rcases e3 with ⟨_, v, e3, e4⟩ | ⟨a, ks, ds, rfl, rfl, _⟩
      · exact .of (de_glb (pe_glob gl e2 e3 (okNm_of h3).1) e1 fun _ => e4) rfl
      · exact .of (de_glb (v := .ref a) (pe_glob gl e2 rfl (okNm_of h3).1) e1 fun z => nomatch z) rfl
    · cases h
  | .bin o a b, N, sc, fp, X, e, g, h => by
    unfold chkE at h
    split at h
    · simp only [Bool.and_eq_true, decide_eq_true_eq] at h
      obtain ⟨⟨rfl, h2⟩, h3⟩ := h
      exact .of (de_bin (sndE a g h2).de (sndE b g h3).de) rfl
    · cases h
  | .neg a, N, sc, fp, X, e, g, h => by
    unfold chkE at h
    split at h
    · exact .of (de_neg (sndE a g h).de) rfl
    · cases h
  | .not a, N, sc, fp, X, e, g, h => by
    unfold chkE at h
    split at h
    · simp only [Bool.and_eq_true] at h
      exact ⟨de_not (sndE a g h.1).de, fun _ => dt_not ((sndE a g h.1).dt h.2), fun op es pos e => nomatch e⟩
    · cases h
  | .and a b, N, sc, fp, X, e, g, h => by
    unfold chkE at h
    split at h
    · rename_i e1 e2 rest pos
      simp only [Bool.and_eq_true] at h
      obtain ⟨⟨h1, h2⟩, h3⟩ := h
      have A := sndE a g h1
      have B : DE X Φ G (.BoolOp .And (e2 :: rest) pos) b ∧ DW X Φ G (.BoolOp .And (e2 :: rest) pos) b := by
        cases rest with
        | nil =>
          simp only [Bool.and_eq_true] at h3
          have B := sndE b g h3.1
          exact ⟨pe_one B.de, pw_and1 (B.dt h3.2)⟩
        | cons r rs =>
          have B := sndE b g h3
          exact ⟨B.de, B.dw _ _ _ rfl _ _ _ rfl⟩
      have W : DW X Φ G (.BoolOp .And (e1 :: e2 :: rest) pos) (.and a b) := dw_and (A.dt h2) B.2
      exact ⟨de_and A.de B.1, fun _ => W.pt, fun _ _ _ _ _ _ _ _ => W⟩
    · cases h
  | .or a b, N, sc, fp, X, e, g, h => by
    unfold chkE at h
    split at h
    · rename_i e1 e2 rest pos
      simp only [Bool.and_eq_true] at h
      obtain ⟨⟨h1, h2⟩, h3⟩ := h
      have A := sndE a g h1
      have B : DE X Φ G (.BoolOp .Or (e2 :: rest) pos) b ∧ DW X Φ G (.BoolOp .Or (e2 :: rest) pos) b := by
        cases rest with
        | nil =>
          simp only [Bool.and_eq_true] at h3
          have B := sndE b g h3.1
          exact ⟨pe_one B.de, pw_or1 (B.dt h3.2)⟩
        | cons r rs =>
          have B := sndE b g h3
          exact ⟨B.de, B.dw _ _ _ rfl _ _ _ rfl⟩
      have W : DW X Φ G (.BoolOp .Or (e1 :: e2 :: rest) pos) (.or a b) := dw_or (A.dt h2) B.2
      exact ⟨de_or A.de B.1, fun _ => W.pt, fun _ _ _ _ _ _ _ _ => W⟩
    · cases h
  | .cmp o a b, N, sc, fp, X, e, g, h => by
    unfold chkE at h
    split at h
    · simp only [Bool.and_eq_true, decide_eq_true_eq] at h
      obtain ⟨⟨⟨rfl, h2⟩, h3⟩, h4⟩ := h
      have A := (sndE a g h2).de
      have B := (sndE b g h3).de
      exact ⟨de_cmp g.hu (mark_of h4) A B, fun _ => dt_cmp g.hu (mark_of h4) A B, fun op es pos e => nomatch e⟩
    · cases h
  | .chn o o' a b c, N, sc, fp, X, e, g, h => by
    unfold chkE at h
    split at h
    · simp only [Bool.and_eq_true, decide_eq_true_eq] at h
      obtain ⟨⟨⟨⟨⟨rfl, rfl⟩, h2⟩, h3⟩, h4⟩, h5⟩ := h
      have A := (sndE a g h2).de
      have B := (sndE b g h3).de
      have C := (sndE c g h4).de
      exact ⟨de_chn g.hu (mark_of (op := cOf o') h5) A B C, fun _ => dt_chn g.hu (mark_of (op := cOf o') h5) A B C, fun op es pos e => nomatch e⟩
    · cases h
  | .ite c a b, N, sc, fp, X, e, g, h => by
    unfold chkE at h
    split at h
    · simp only [Bool.and_eq_true] at h
      obtain ⟨⟨⟨h1, h2⟩, h3⟩, h4⟩ := h
      exact ⟨de_ite ((sndE c g h1).dt h2) (sndE a g h3).de (sndE b g h4).de, (fun z => nomatch z), fun op es pos e => nomatch e⟩
    · cases h
  | .tup es, N, sc, fp, X, e, g, h => by
    unfold chkE at h
    split at h
    · exact .of (de_tup (sndA es g h)) rfl
    · cases h
  | .lst es, N, sc, fp, X, e, g, h => by
    unfold chkE at h
    split at h
    · exact .of (de_lst (sndA es g h)) rfl
    · cases h
  | .idx a i, N, sc, fp, X, e, g, h => by
    unfold chkE at h
    split at h
    · simp only [Bool.and_eq_true] at h
      exact .of (de_idx (ix_of h.1.1) (sndE a g h.1.2).de (sndE i g h.2).de) rfl
    · cases h
  | .slc a lo hi, N, sc, fp, X, e, g, h => by
    unfold chkE at h
    split at h
    · simp only [Bool.and_eq_true] at h
      exact .of (de_slc (sndE a g h.1.1).de (sndO lo g h.1.2) (sndO hi g h.2)) rfl
    · cases h
  | .call f es, N, sc, fp, X, e, g, h => by
    unfold chkE at h
    split at h
    · rename_i x p a l pos
      simp only [Bool.and_eq_true, List.contains_iff_mem] at h
      obtain ⟨⟨⟨h1, h2⟩, h3⟩, h4⟩ := h
      obtain ⟨fa, fd, ps, F, hm, hk, hb⟩ := g.fns f x h1
      have gl : Gl X x := by unfold Gl PySem.Env.kindOf; rw [g.hsc]; exact gl_of h2
      have st : notStar a = true ∧ (backTo pos (starEach l X.env)).any (·.1) = false := by
        cases es with
        | nil => simp [chkEs] at h4
        | cons m ms =>
          simp only [chkEs, Bool.and_eq_true] at h4
          exact ⟨h4.1.1, nostar_all h4.2⟩
      exact .of (de_call F g.gds (g.room.mono (by omega)) gl hm hk hb (okNm_of h3).1 (star_of st.1) st.2 (sndA es g h4)) rfl
    · cases h
  | .callp f es, N, sc, fp, X, e, g, h => by
    unfold chkE at h
    cases h
  | .callr f es, N, sc, fp, X, e, g, h => by
    unfold chkE at h
    cases h
  | .bi b es, N, sc, fp, X, e, g, h => by
    unfold chkE at h
    split at h
    · rename_i x p a l pos
      simp only [Bool.and_eq_true, List.contains_iff_mem] at h
      obtain ⟨⟨h1, h2⟩, h3⟩ := h
      have gl : Gl X x := by unfold Gl PySem.Env.kindOf; rw [g.hsc]; exact gl_of h2
      split at h3
      · rename_i t
        simp only [Bool.and_eq_true, decide_eq_true_eq] at h3
        obtain ⟨⟨rfl, h5⟩, h3⟩ := h3
        split at h3
        · rename_i y py
          simp only [Bool.and_eq_true, List.contains_iff_mem, beq_iff_eq] at h3
          obtain ⟨⟨⟨h6, h7⟩, h8⟩, h9⟩ := h3
          have bt : bootBuiltins y = some (.type (tyN t)) := by rw [h6]; cases t <;> decide +kernel
          have d1 : y ≠ "__name__" := by rw [h6]; cases t <;> decide
          have d2 : (y == ("__debug__" : Str)) = false := by rw [h6]; cases t <;> decide
          have gy : Gl X y := by unfold Gl PySem.Env.kindOf; rw [g.hsc]; exact gl_of h8
          cases es with
          | nil => simp [chkEs] at h9
          | cons m ms =>
            cases ms with
            | cons _ _ => simp [chkEs] at h9
            | nil =>
              simp only [chkEs, Bool.and_eq_true] at h9
              exact .of (de_isi1 gl (g.bl _ h1) (star_of h5) rfl rfl (sndE m g h9.1.2).de (pe_bltn gy (g.bl y h7) bt rfl d1 d2)) rfl
        · cases h3
      · rename_i ts
        simp only [Bool.and_eq_true, decide_eq_true_eq] at h3
        obtain ⟨⟨rfl, h5⟩, h3⟩ := h3
        split at h3
        · rename_i ys ky py
          simp only [Bool.and_eq_true, decide_eq_true_eq] at h3
          obtain ⟨⟨h10, h6⟩, h9⟩ := h3
          have hlen : ts.length ≤ sizeLine := Nat.le_trans h10 (by decide)
          cases es with
          | nil => simp [chkEs] at h9
          | cons m ms =>
            cases ms with
            | cons _ _ => simp [chkEs] at h9
            | nil =>
              simp only [chkEs, Bool.and_eq_true] at h9
              exact .of (de_isi gl (g.bl _ h1) (star_of h5) rfl rfl (sndE m g h9.1.2).de (PE.imp (pe_tup (tynames_pe g h6)) fun σ H Q h => ⟨by rw [List.length_map]; exact hlen, h⟩)) rfl
        · cases h3
      · simp only [Bool.and_eq_true, decide_eq_true_eq] at h3
        obtain ⟨h3, h4⟩ := h3
        have st : notStar a = true ∧ (backTo pos (starEach l X.env)).any (·.1) = false := by
          cases es with
          | nil => simp [chkEs] at h4
          | cons m ms =>
            simp only [chkEs, Bool.and_eq_true] at h4
            exact ⟨h4.1.1, nostar_all h4.2⟩
        rcases bi_snd g h3 with ⟨nm, c, bt, d1, d2⟩ | ⟨nm, c, bt, d1, d2⟩
        · exact .of (de_bi (id := x) c gl (g.bl x h1) bt d1 d2 (star_of st.1) st.2 (sndRs es g h4)) rfl
        · exact .of (de_biT (id := x) c gl (g.bl x h1) bt d1 d2 (star_of st.1) st.2 (sndRs es g h4)) rfl
    · cases h
  | .comp own t it c m, N, sc, fp, X, e, g, h => by
    unfold chkE at h
    split at h
    · rename_i elt tg iter ifs as scope pos
      simp only [Bool.and_eq_true, decide_eq_true_eq] at h
      obtain ⟨⟨⟨⟨⟨⟨⟨rfl, h1⟩, h2⟩, h3⟩, h4⟩, h5⟩, h6⟩, h7⟩ := h
      have ok : BlkOk X.N X.env.scope scope (own.map fun i => (N.getD i "", i)) := by rw [g.hN, g.hsc]; exact blkOk_by h3
      have eo : (own.map fun i => (N.getD i "", i)).map (·.2) = own := by
        rw [List.map_map]; exact List.map_id' _
      have ho : ∀ i ∈ slotsT t, i ∈ own := fun i hi => by
        have := (List.all_eq_true.mp h4) i hi
        simpa using this
      refine .of (PE.imp (pe_lc (wi := tI X.K Φ G true it) (g := gT X.K Φ G t) (tt := tC' X.K Φ G c) (te := tR X.K Φ G m) g.calm (by rw [g.hN]; exact g.nd) (sndI it tg g h1) ok (fun s H C cl fpa => sndT t (g.blk ok.kind) h5) (fun s H C cl fpa => sndC c (g.blk ok.kind) h6) (fun s H C cl fpa => (sndE m (g.blk ok.kind) h7).de) (fold_of h2)) fun σ H Q h => ?_) rfl
      rw [eo]
      exact lc_imp ho h
    · cases h
  | .compl own t it c m, N, sc, fp, X, e, g, h => by
    unfold chkE at h
    cases h
  | .ndT, N, sc, fp, X, e, g, h => by
    unfold chkE at h
    cases h
  | .ndK, N, sc, fp, X, e, g, h => by
    unfold chkE at h
    cases h
  | .skey1 t m, N, sc, fp, X, e, g, h => by
    unfold chkE at h
    cases h
  | .skey2 t i, N, sc, fp, X, e, g, h => by
    unfold chkE at h
    cases h
  | .new a, N, sc, fp, X, e, g, h => by
    unfold chkE at h
    have A := sndE a g h
    have no : ∀ {ρ : Env} {S S' : Sto} {b : Bool}, evR Φ G ρ (.new a) S ≠ some (.val (.bl b), S') := fun {ρ S S' b} z => by
      rw [evR] at z
      obtain ⟨⟨x, S1⟩, _, z⟩ := Mi.bind_some z
      dsimp only at z
      split at z <;> cases z
    refine ⟨de_new A.de, fun _ => ⟨fun pins s σ H Q I h => ?_⟩, fun _ _ _ _ _ _ _ _ => ⟨fun wh pins s σ H Q I h => ?_⟩⟩
    · obtain ⟨W, S, ρ, _, b, S', ev, _⟩ := h
      exact (no ev).elim
    · obtain ⟨W, S, ρ, _, b, S', ev, _⟩ := h
      exact (no ev).elim
  | .dct ks es, N, sc, fp, X, e, g, h => by
    unfold chkE at h
    split at h
    · simp only [Bool.and_eq_true, decide_eq_true_eq] at h
      obtain ⟨⟨⟨⟨h1, h2⟩, h3⟩, h4⟩, h5⟩ := h
      exact .of (de_dct (key_snd h1) (sndV es g h2) h3 (fun z => h4 (by rw [z]; rfl)) h5) rfl
    · cases h
  | .dgt a i, N, sc, fp, X, e, g, h => by
    unfold chkE at h
    split at h
    · simp only [Bool.and_eq_true] at h
      exact .of (de_dgt (by have := g.hu; omega) (ix_of h.1.1) (sndE a g h.1.2).de (sndE i g h.2).de) rfl
    · cases h
  | .o1 q a, N, sc, fp, X, e, g, h => by
    unfold chkE at h
    split at h
    · rename_i x hx
      exact snd1 g hx (sndE a g h).de
    · cases h
  | .o2 q a b, N, sc, fp, X, e, g, h => by
    unfold chkE at h
    split at h
    · rename_i x hx
      rw [Bool.and_eq_true] at h
      exact snd2 g hx (sndE a g h.1).de (sndE b g h.2).de
    · cases h
  | .o3 q a b c, N, sc, fp, X, e, g, h => by
    unfold chkE at h
    split at h
    · rename_i x hx
      rw [Bool.and_eq_true, Bool.and_eq_true] at h
      exact snd3 g hx (sndE a g h.1.1).de (sndE b g h.1.2).de (sndE c g h.2).de
    · cases h
  | .fld c o f, N, sc, fp, X, e, g, h => by
    unfold chkE at h
    split at h
    · rename_i x nm pos
      simp only [Bool.and_eq_true, decide_eq_true_eq, List.contains_iff_mem] at h
      obtain ⟨⟨⟨rfl, h2⟩, h3⟩, h4⟩ := h
      obtain ⟨C, hC, hc, hn⟩ := g.fld _ _ h2
      exact .of (de_fld hC hc hn (base_of h3) (sndE o g h4).de) rfl
    · cases h
  | .meth c m f o es, N, sc, fp, X, e, g, h => by
    unfold chkE at h
    split at h
    · rename_i x nm ap l pos
      simp only [Bool.and_eq_true, decide_eq_true_eq, List.contains_iff_mem] at h
      obtain ⟨⟨⟨⟨⟨⟨rfl, h2⟩, h3⟩, h6⟩, h7⟩, h4⟩, h5⟩ := h
      obtain ⟨C, fa, fd, ps, hC, hc, hm, F, hb⟩ := g.mth _ _ _ h2
      have ht := meth_ht (m := nm) (env := X.env) h3 h6 h7 (nostar_all h5)
      cases l with
      | nil =>
        cases es with
        | cons _ _ => simp [chkEs] at h5
        | nil => exact .of (de_meth0 hC (fun hp => pe_methG0 hp hc hm F g.gds (g.room.mono (by omega)) hb ht) (sndE o g h4).de) rfl
      | cons a l =>
        have st : notStar a = true ∧ (backTo pos (starEach l X.env)).any (·.1) = false := by
          cases es with
          | nil => simp [chkEs] at h5
          | cons m ms =>
            simp only [chkEs, Bool.and_eq_true] at h5
            exact ⟨h5.1.1, nostar_all h5.2⟩
        exact .of (de_meth hC (fun hp ha => pe_methG hp hc hm F g.gds (g.room.mono (by omega)) hb ha (star_of st.1) st.2 ht) (sndE o g h4).de (sndA es g h5)) rfl
    · cases h
  | .make c f es, N, sc, fp, X, e, g, h => by
    unfold chkE at h
    split at h
    · rename_i x p a l pos
      simp only [Bool.and_eq_true, decide_eq_true_eq, List.contains_iff_mem] at h
      obtain ⟨⟨⟨⟨rfl, h1⟩, h2⟩, h3⟩, h4⟩ := h
      obtain ⟨C, fa, fd, ps, hC, M, F, hm, hb⟩ := g.mkr _ _ h1
      have gl : Gl X x := by unfold Gl PySem.Env.kindOf; rw [g.hsc]; exact gl_of h2
      have st : notStar a = true ∧ (backTo pos (starEach l X.env)).any (·.1) = false := by
        cases es with
        | nil => simp [chkEs] at h4
        | cons m ms =>
          simp only [chkEs, Bool.and_eq_true] at h4
          exact ⟨h4.1.1, nostar_all h4.2⟩
      exact .of (de_make hC (fun ha => pe_makeG M F g.gds g.room gl hm hb ha (okNm_of h3).1 (star_of st.1) st.2) (sndA es g h4)) rfl
    · cases h
  | .gks j, N, sc, fp, X, e, g, h => by
    unfold chkE at h
    split at h
    · rename_i x p y p2 pos
      simp only [Bool.and_eq_true, decide_eq_true_eq, List.contains_iff_mem] at h
      obtain ⟨⟨⟨⟨⟨rfl, h1⟩, h2⟩, h3⟩, h4⟩, h5⟩ := h
      obtain ⟨d, u, e1, e2, e3⟩ := g.gl j y h3
      rcases e3 with ⟨e5, _⟩ | ⟨a, ks, ds, rfl, rfl, gd⟩
      · refine .of ⟨fun pins s σ H Q I ⟨W, S, ρ, at', r, S', ev, q⟩ => ?_⟩ rfl
        rw [evR, e1, Option.bind_some, e5] at ev
        cases ev
      · exact .of (de_gks g.calm (g.glob h2) (g.bl _ h1) (pe_glob (g.glob h4) e2 rfl (okNm_of h5).1) e1 gd) rfl
    · cases h
  | .tsl a lo hi, N, sc, fp, X, e, g, h => by
    unfold chkE at h
    cases h
  | .isx1 c a, N, sc, fp, X, e, g, h => by
    unfold chkE at h
    split at h
    · rename_i x p l y p2 pos
      simp only [Bool.and_eq_true, decide_eq_true_eq, List.contains_iff_mem] at h
      obtain ⟨⟨⟨⟨⟨rfl, h1⟩, h2⟩, h3⟩, h4⟩, h5⟩ := h
      have gl : Gl X "isinstance" := by unfold Gl PySem.Env.kindOf; rw [g.hsc]; exact gl_of h2
      obtain ⟨v, u, k1, k2, k3⟩ := ask_pe g (p := p2) h4
      exact .of (de_isx1 gl (g.bl _ h1) (star_of h3) rfl rfl (sndE a g h5).de k1 k2 k3) rfl
    · cases h
  | .isx cs a, N, sc, fp, X, e, g, h => by
    unfold chkE at h
    split at h
    · rename_i x p l ns q1 p2 pos
      simp only [Bool.and_eq_true, decide_eq_true_eq, List.contains_iff_mem] at h
      obtain ⟨⟨⟨⟨⟨⟨rfl, h1⟩, h2⟩, h3⟩, h4⟩, h6⟩, h5⟩ := h
      have gl : Gl X "isinstance" := by unfold Gl PySem.Env.kindOf; rw [g.hsc]; exact gl_of h2
      obtain ⟨vs, us, k1, k2, k3⟩ := asks_pe g h4
      have hlen : vs.length ≤ sizeLine := by rw [k3, sizeLine_eq]; omega
      exact .of (de_isx gl (g.bl _ h1) (star_of h3) rfl rfl (sndE a g h5).de (PE.imp (pe_tup k1) fun σ H Q q => ⟨hlen, q⟩) k2) rfl
    · cases h
  | .xf f a, N, sc, fp, X, e, g, h => by
    unfold chkE at h
    split at h
    · rename_i x nm pos
      simp only [Bool.and_eq_true, decide_eq_true_eq] at h
      obtain ⟨⟨rfl, h3⟩, h4⟩ := h
      exact .of (de_xf (base_of h3) (sndE a g h4).de) rfl
    · cases h
  | .din n a b, N, sc, fp, X, e, g, h => by
    unfold chkE at h
    split at h
    · simp only [Bool.and_eq_true, decide_eq_true_eq] at h
      obtain ⟨⟨⟨rfl, h2⟩, h3⟩, h4⟩ := h
      have A := (sndE a g h2).de
      have B := (sndE b g h3).de
      have hu : X.A.units + 1 < cLine := by have := g.hu; omega
      exact ⟨de_din hu A B (mark_of h4), fun _ => dt_din hu A B (mark_of h4), fun op es pos e => nomatch e⟩
    · cases h
theorem sndV : ∀ (ms : MEs) {N : List Str} {sc : Scope} {fp : Str → Bool} {X : Cx} {es : List Expr}, GX T N sc fp Φ G k X → chkEs T N sc fp ms es = true → ValE X Φ G es ms
  | .nil, N, sc, fp, X, es, g, h => by
    unfold chkEs at h
    split at h
    · exact .nil
    · cases h
  | .cons m ms, N, sc, fp, X, es, g, h => by
    unfold chkEs at h
    split at h
    · simp only [Bool.and_eq_true] at h
      exact .cons (sndE m g h.1.2).de (sndV ms g h.2)
    · cases h
theorem sndA : ∀ (ms : MEs) {N : List Str} {sc : Scope} {fp : Str → Bool} {X : Cx} {es : List Expr}, GX T N sc fp Φ G k X → chkEs T N sc fp ms es = true → DAs X Φ G es ms
  | .nil, N, sc, fp, X, es, g, h => by
    unfold chkEs at h
    split at h
    · exact da_nil
    · cases h
  | .cons m ms, N, sc, fp, X, es, g, h => by
    unfold chkEs at h
    split at h
    · simp only [Bool.and_eq_true] at h
      exact da_cons (star_of h.1.1) (sndE m g h.1.2).de (sndA ms g h.2)
    · cases h
theorem sndRs : ∀ (ms : MEs) {N : List Str} {sc : Scope} {fp : Str → Bool} {X : Cx} {es : List Expr}, GX T N sc fp Φ G k X → chkEs T N sc fp ms es = true → DRs X Φ G es ms
  | .nil, N, sc, fp, X, es, g, h => by
    unfold chkEs at h
    split at h
    · exact dr_nil
    · cases h
  | .cons m ms, N, sc, fp, X, es, g, h => by
    unfold chkEs at h
    split at h
    · simp only [Bool.and_eq_true] at h
      exact dr_cons (star_of h.1.1) (sndE m g h.1.2).de (sndRs ms g h.2)
    · cases h
theorem sndO : ∀ (m : MO) {N : List Str} {sc : Scope} {fp : Str → Bool} {X : Cx} {e : Option Expr}, GX T N sc fp Φ G k X → chkO T N sc fp m e = true → DO X Φ G e m
  | .no, N, sc, fp, X, e, g, h => by
    unfold chkO at h
    split at h
    · exact do_no
    · cases h
  | .yes m, N, sc, fp, X, e, g, h => by
    unfold chkO at h
    split at h
    · exact do_yes (sndE m g h).de
    · cases h
theorem sndC : ∀ (m : MO) {N : List Str} {sc : Scope} {fp : Str → Bool} {X : Cx} {e : List Expr}, GX T N sc fp Φ G k X → chkC T N sc fp m e = true → DC X Φ G e m
  | .no, N, sc, fp, X, e, g, h => by
    unfold chkC at h
    split at h
    · exact dc_no
    · cases h
  | .yes m, N, sc, fp, X, e, g, h => by
    unfold chkC at h
    split at h
    · simp only [Bool.and_eq_true] at h
      exact dc_yes ((sndE m g h.1).dt h.2)
    · cases h
theorem sndI {z : Bool} : ∀ (m : MI) {N : List Str} {sc : Scope} {fp : Str → Bool} {X : Cx} (tg : Expr) {e : Expr}, GX T N sc fp Φ G k X → chkI T N sc fp m tg e = true → DI X Φ G z tg e m
  | .rng1 a, N, sc, fp, X, tg, e, g, h => by
    unfold chkI at h
    split at h
    · simp only [Bool.and_eq_true, decide_eq_true_eq, List.contains_iff_mem] at h
      obtain ⟨⟨⟨⟨rfl, h2⟩, h3⟩, h4⟩, h5⟩ := h
      have gl : Gl X "range" := by unfold Gl PySem.Env.kindOf; rw [g.hsc]; exact gl_of h3
      exact di_rng1 gl (g.bl _ h2) (star_of h4) (sndE a g h5).de
    · cases h
  | .rng2 a b, N, sc, fp, X, tg, e, g, h => by
    unfold chkI at h
    cases h
  | .rngd a b, N, sc, fp, X, tg, e, g, h => by
    unfold chkI at h
    cases h
  | .rrng a, N, sc, fp, X, tg, e, g, h => by
    unfold chkI at h
    cases h
  | .rrev a, N, sc, fp, X, tg, e, g, h => by
    unfold chkI at h
    cases h
  | .seq a, N, sc, fp, X, tg, e, g, h => by
    unfold chkI at h
    exact di_seq (sndE a g h).de
  | .gky j, N, sc, fp, X, tg, e, g, h => by
    unfold chkI at h
    split at h
    · rename_i x p
      simp only [Bool.and_eq_true, List.contains_iff_mem] at h
      obtain ⟨⟨h1, h2⟩, h3⟩ := h
      obtain ⟨d, u, e1, e2, e3⟩ := g.gl j x h1
      rcases e3 with ⟨e5, v, e3, e4⟩ | ⟨a, ks, ds, rfl, rfl, gd⟩
      · refine PI.imp (pi_seq (pe_glob (pos := p) (g.glob h2) e2 e3 (okNm_of h3).1)) fun σ H R ⟨W, S, ρ, at', ds, S', ev, q⟩ => ?_
        rw [evI, e1, Option.bind_some, e5] at ev
        cases ev
      · exact di_gky (pe_glob (g.glob h2) e2 rfl (okNm_of h3).1) e1 gd
    · cases h
  | .chs a, N, sc, fp, X, tg, e, g, h => by
    unfold chkI at h
    exact di_chs (sndE a g h).de
  | .enm a, N, sc, fp, X, tg, e, g, h => by
    unfold chkI at h
    split at h
    · simp only [Bool.and_eq_true, decide_eq_true_eq, List.contains_iff_mem] at h
      obtain ⟨⟨⟨⟨⟨rfl, h2⟩, h3⟩, h4⟩, h6⟩, h5⟩ := h
      have gl : Gl X "enumerate" := by unfold Gl PySem.Env.kindOf; rw [g.hsc]; exact gl_of h3
      split at h6
      · exact di_enm gl (g.bl _ h2) (star_of h4) (sndE a g h5).de
      · cases h6
    · cases h
  | .zip a b, N, sc, fp, X, tg, e, g, h => by
    unfold chkI at h
    split at h
    · simp only [Bool.and_eq_true, decide_eq_true_eq, List.contains_iff_mem] at h
      obtain ⟨⟨⟨⟨⟨⟨⟨rfl, h2⟩, h3⟩, h4⟩, h5⟩, h6⟩, h7⟩, h8⟩ := h
      have gl : Gl X "zip" := by unfold Gl PySem.Env.kindOf; rw [g.hsc]; exact gl_of h3
      split at h6
      · exact di_zip gl (g.bl _ h2) (by rw [star_of h4, star_of h5]) (star_of h5) (by rw [star_of h5]; rfl) (sndE a g h7).de (sndE b g h8).de
      · cases h6
    · cases h
theorem sndT : ∀ (m : MT) {N : List Str} {sc : Scope} {fp : Str → Bool} {X : Cx} {e : Expr}, GX T N sc fp Φ G k X → chkT T N sc fp m e = true → DG X Φ G e m
  | .nm i, N, sc, fp, X, e, g, h => by
    unfold chkT at h
    split at h
    · simp only [Bool.and_eq_true, Bool.or_eq_true, decide_eq_true_eq] at h
      obtain ⟨h1, h2⟩ := h
      rcases h2 with h2 | ⟨h2, h3⟩
      · exact dg_nm (by rw [g.hN]; exact g.nd) (by rw [g.hN]; exact h1) (.inl (by rw [g.hsc]; exact loc_of h2)) (.inr (by rw [g.hsc]; exact loc_of h2))
      · exact dg_nm (by rw [g.hN]; exact g.nd) (by rw [g.hN]; exact h1) (.inr (by rw [g.hsc]; exact cel_of h2)) (.inl (by rw [g.hfn]; exact h3))
    · cases h
  | .sub o i, N, sc, fp, X, e, g, h => by
    unfold chkT at h
    split at h
    · rename_i x s p
      simp only [Bool.and_eq_true] at h
      refine dg_sub (by have := g.room.un; omega) (fun to ti t ho hi hs => pg_sub ho hi hs ?_) (sndE o g h.1.2).de (sndE i g h.2).de
      intro v
      have := h.1.1
      cases s <;> first | rfl | cases this
    · cases h
  | .tp ts, N, sc, fp, X, e, g, h => by
    unfold chkT at h
    split at h
    · exact dg_tup (fun t ht => pg_tup g.calm ht (aslen h).1 (aslen h).2) (fun t ht => pg_lst g.calm ht (aslen h).1 (aslen h).2) (stos_len h) (sndTs ts g h)
    · cases h
  | .cut o n, N, sc, fp, X, e, g, h => by
    unfold chkT at h
    cases h
  | .key i j, N, sc, fp, X, e, g, h => by
    unfold chkT at h
    cases h
theorem sndTs : ∀ (ms : MTs) {N : List Str} {sc : Scope} {fp : Str → Bool} {X : Cx} {es : List Expr}, GX T N sc fp Φ G k X → chkTs T N sc fp ms es = true → DGs X Φ G es ms
  | .nil, N, sc, fp, X, es, g, h => by
    unfold chkTs at h
    split at h
    · exact dg_nil
    · cases h
  | .cons m ms, N, sc, fp, X, es, g, h => by
    unfold chkTs at h
    split at h
    · simp only [Bool.and_eq_true] at h
      exact dg_cons (sndT m g h.1.2) (sndTs ms g h.2) fun t u h1 h2 => pgs_cons h1 h2 (by rw [aseach_of h.1.1]; rfl)
    · cases h
end
end
end Mi
end
noncomputable section
namespace Mi
open PySem PySem.Spec PyProof.Rows L2
section
variable {P : Program} {w : World} {K : PySem.W.Frag} {mg : Str → Option Value} {base : Heap}

theorem fnK_of {x qual : Str} {st : Stmt} {f : Addr} {fd : FuncData} {N ps : List Str} {k : Nat} {sp : Sp} (F : Fun K x qual st f fd) (S : FnScope N ps (defScope st)) (len : ∀ vs H Q E, sp vs H Q E → vs.length = ps.length)
    (body : ∀ (cdv : Value) (A : Around) (outer : List PySem.Env) (s : Shared) (H : Hp) (vs : List V) (Q : VK) (E : XK), fd.code = cdv → Room k (A.deeper (envOfC qual (defScope st) s.heap.objs.size f cdv)) → sp vs H Q E →
      ∃ t, PSs (cxOf CX0 P w K mg base N qual (defScope st) f cdv A outer s H E).nox (defBody st) t ∧ t { nx := fun _ H' => Q .non H', rt := Q } (start N vs) H) : FnOk P w K mg base CX0 (k + 1) f fd ps sp := by
  obtain ⟨oc, od, kV, doc, pm, an, cdv, ct, osl, rfl, lk, hcd⟩ := F.ex
  refine ⟨len, fun A outer s H args us vs Q E hr e0 bnd rel hs => ?_⟩
  have up : ∀ b o, base.get? b = some o → s.heap.get? b = some o := fun b o e => (e0.bs b o e).1
  have KX : K.In s.heap := e0.mod.kin.keeps up
  have lim : s.heap.NoLimit := e0.mod.nolimit.keeps up
  have kinds : ∀ y, y ∈ ps.zip us → (defScope st).names.lookup y.1 = some .local ∨ ((defScope st).names.lookup y.1 = some .cell ∧ ((cellsFrom (s.heap.objs.size + 1) (defScope st).names []).lookup y.1).isSome = true) := fun y hy =>
    (S.par y.1 (List.of_mem_zip hy).1).imp id fun q => ⟨q, PySem.W.cellsFrom_some _ _ _ (.inl q)⟩
  refine codeAny_call_function hr.depth (KX _ _ lk) rfl S.co S.gen rfl (PySem.W.codeRec_of KX hcd) (bnd _ _ _ _ (wpAny_newFunctionEnv_cells S.kind kinds fun env he s1 nw => ?_))
  subst he
  obtain ⟨t, ht, hq⟩ := body cdv A outer s H vs Q E rfl (hr.deeper _) hs
  have J : Inv (cxOf CX0 P w K mg base N qual (defScope st) f cdv A outer s H E) [] (start N vs) H s1 := inv_start S hr.hd e0 (len _ _ _ _ hs) rel nw
  refine ⟨lim.keeps nw.toInCall.keep, codeAny_func (wpAny_mono (ht.nox.run [] s1 (start N vs) H _ J hq) (fun fl s' z => ?_) fun e s' z => z)⟩
  cases fl with
  | ret u =>
    obtain ⟨v, σ', H', J', rv, q⟩ := z
    exact ⟨v, H', J'.os, J'.bare, J'.base, J'.hok, rv, q⟩
  | next =>
    obtain ⟨σ', H', J', q⟩ := z
    exact ⟨.non, H', J'.os, J'.bare, J'.base, J'.hok, rfl, q⟩
  | brk => exact False.elim (let ⟨_, _, _, q⟩ := z; q)
  | cont => exact False.elim (let ⟨_, _, _, q⟩ := z; q)
end
section
variable {X : Cx} {o e : Expr} {es : List Expr} {to te : TE} {ta : TA} {f : Str} {p p' p1 p2 pos : Pos}

structure BaseI (K : PySem.W.Frag) (B : Addr) : Prop where
  sp : PySem.W.specialIn K (.ref B) "__getattribute__" = some (some (.builtin "type.__getattribute__"))
  rd : PySem.W.readsIn (mc := .type "type") K B = true
  fi : PySem.W.findCls K (.ref B) (.type "type") "__init__" = some (.val (.builtin "ValueError.__init__"))
  kp : PySem.W.keepIn K (.ref B) = true

theorem pe_binit {x : Str} {B : Addr} {pl : Sem Bool} (hg : Gl X x) (hm : X.mg x = some (.ref B)) (F : BaseI X.K B) (ha : PA X (e :: es) ta) (hdb : (x == ("__debug__" : Str)) = false)
    (hc : eval (.Call (.Attribute (.Name x p1) "__init__" p2) (e :: es) [] pos) X.env = (do
      let ov ← eval (.Name x p1) X.env
      standAt p2.atName
      let (f, first) ← holding [ov] (getMethod ov "__init__" pl)
      callWith pos f first (backTo pos (starEach (e :: es) X.env)) (backToKw pos (keywordEach [] X.env))) := by rfl)
    (he : starEach (e :: es) X.env = (false, eval e X.env) :: starEach es X.env := by rfl) (hpl : (backTo pos (starEach es X.env)).any (·.1) = false := by rfl) :
    PE X (.Call (.Attribute (.Name x p1) "__init__" p2) (e :: es) [] pos) (tVeI X.K ta) := by
  refine ⟨fun pins s σ H Q I h => ?_⟩
  refine PySem.W.methodCall_KW (ld_glob I hg hm ?_ hdb) hc
  refine PySem.W.method_cls I.kIn F.sp (PySem.W.cls_value I.kIn F.rd F.fi (by decide +kernel) ?_)
  show wpAny _ _ (callWith pos (Value.builtin "ValueError.__init__") [] (backTo pos (starEach (e :: es) X.env)) []) _ _ _
  refine PyProof.Rows.callWith_method1 (thn (ha.run pos pins _ σ H _ (I.tok _) h) fun us s1 ⟨vs, H1, I1, r1, a, C, ws, ev, hl, T, ea, q⟩ => ?_) he hpl
  subst ev
  cases r1 with
  | @cons _ u0 _ ur ra rw' =>
    obtain rfl : u0 = Value.ref a := ra
    have hlen : ur.length ≤ sizeLine := by
      rw [← Paired.length rw', sizeLine_eq]
      omega
    exact oinit_ok T I1 ea hlen fun s' J => ⟨.non, H1, J, rfl, q⟩
end
theorem spX_len {C : Addr} {f : Str} : ∀ vs H Q E, spX C f vs H Q E → vs.length = [("" : Str), "", ""].length := fun vs H Q E ⟨a, x, y, e, _⟩ => by rw [e]; rfl
structure XInit (K : PySem.W.Frag) (mg : Str → Option Value) (C : Addr) (f : Str) (st : Stmt) (N : List Str) : Prop where
  T : OexC K C
  B : ∃ (b : Str) (Ba : Addr) (s u v : Str) (p1 p2 p3 p4 p5 p6 p7 p8 p9 p10 : Pos), N = [s, u, v] ∧
    defBody st = [.Expr (.Call (.Attribute (.Name b p1) "__init__" p2) [.Name s p3, .Name u p4] [] p5) p6, .Assign [.Attribute (.Name s p7) f p8] (.Name v p9) p10] ∧
    (p2.endLine == p5.line) = true ∧ isGl (defScope st) b = true ∧ (b == ("__debug__" : Str)) = false ∧ mg b = some (.ref Ba) ∧ BaseI K Ba ∧
    isVis (defScope st) s = true ∧ isVis (defScope st) u = true ∧ isVis (defScope st) v = true ∧ okNm s = true ∧ okNm u = true ∧ okNm v = true
  nf : PySem.W.findIn K (.ref C) f = some none
section
variable {P : Program} {w : World} {K : PySem.W.Frag} {mg : Str → Option Value} {base : Heap}
theorem xinit_ok {x qual : Str} {st : Stmt} {fa C : Addr} {fd : FuncData} {N : List Str} {f : Str} {k : Nat} (F : Fun K x qual st fa fd) (S : FnScope N N (defScope st)) (I : XInit K mg C f st N) : FnOk P w K mg base CX0 (k + 1) fa fd N (spX C f) := by
  obtain ⟨b, Ba, s, u, v, p1, p2, p3, p4, p5, p6, p7, p8, p9, p10, rfl, hb, hl, hg, hdb, hm, hB, vs, vu, vv, os, ou, ov⟩ := I.B
  refine fnK_of F S (fun vs H Q E h => by rw [spX_len vs H Q E h]; rfl) fun cdv A outer s0 H us Q E _ hr h => ?_
  obtain ⟨a, w0, y, rfl, ha, q⟩ := h
  rw [hb]
  have e1 := pe_var (X := (cxOf CX0 P w K mg base [s, u, v] qual (defScope st) fa cdv A outer s0 H E).nox) (i := 0) (x := s) (pos := p3) rfl (vis_of vs) (okNm_of os).1 (okNm_of os).2
  have e1' := pe_var (X := (cxOf CX0 P w K mg base [s, u, v] qual (defScope st) fa cdv A outer s0 H E).nox) (i := 0) (x := s) (pos := p7) rfl (vis_of vs) (okNm_of os).1 (okNm_of os).2
  have e2 := pe_var (X := (cxOf CX0 P w K mg base [s, u, v] qual (defScope st) fa cdv A outer s0 H E).nox) (i := 1) (x := u) (pos := p4) rfl (vis_of vu) (okNm_of ou).1 (okNm_of ou).2
  have e3 := pe_var (X := (cxOf CX0 P w K mg base [s, u, v] qual (defScope st) fa cdv A outer s0 H E).nox) (i := 2) (x := v) (pos := p9) rfl (vis_of vv) (okNm_of ov).1 (okNm_of ov).2
  refine ⟨_, pss_cons (ps_expr (pe_binit (pl := (do return (← importBound (.Name b p1) _).getD true)) (gl_of hg) hm hB (pa_cons e1 (pa_cons e2 pa_nil)) hdb (meth_ht rfl hl (by show 2 < 29; omega) rfl) rfl rfl)) (pss_cons (ps_ost e1' e3) pss_nil), ?_⟩
  refine ⟨.ref a, rfl, .str w0, rfl, ?_⟩
  refine ⟨a, C, [.str w0], rfl, by show 1 ≤ 1000; omega, I.T, ha, ?_⟩
  refine ⟨y, rfl, .ref a, rfl, ?_⟩
  exact ⟨a, C, rfl, I.T, I.nf, .inl ⟨ha, fun dx hn hne => q dx hn hne⟩⟩
end
section
variable {X : Cx} {e e1 e2 : Expr} {es : List Expr} {ta : TA} {p pos : Pos}
theorem pa_clo (ha : PA X es ta) : PA X es (fun σ H Q => ∃ Q0, ta σ H Q0 ∧ ∀ vs H1, Q0 vs H1 → Q vs H1) := ⟨fun pos pins s σ H Q I ⟨Q0, h, i⟩ => wpAny_mono (ha.run pos pins s σ H Q0 I h) (fun us s1 ⟨vs, H1, I1, r1, q1⟩ => ⟨vs, H1, I1, r1, i _ _ q1⟩) fun _ _ z => z⟩

theorem pmk_two {x : Str} {C fI : Addr} {k : Nat} {fd : FuncData} {N : List Str} {f : Str} (T : OexC X.K C) (iC : PySem.W.findIn X.K (.ref C) "__init__" = some (some (.ref fI))) (tI : PySem.W.typeIn X.K (.ref fI) = some (.type "function"))
    (F : FnOk X.prog X.w X.K X.mg X.base CX0 k fI fd N (spX C f)) (hr : Room (k + 1) X.A) (hb : Binds X.K fd N []) (hg : Gl X x) (hm : X.mg x = some (.ref C)) (ha : PA X (e :: es) ta) (hdb : (x == ("__debug__" : Str)) = false)
    (he : starEach (e :: es) X.env = (false, eval e X.env) :: starEach es X.env) (hpl : (backTo pos (starEach es X.env)).any (·.1) = false) :
    PMk X (.Call (.Name x p) (e :: es) [] pos) (fun σ H Q => ta σ H fun vs H1 => ∃ (w : Str) (y : V), vs = [.str w, y] ∧ ∀ d, H1 d = none → Q (.ref C) (some d) (upd H1 d (.xd [(f, y)]))) := by
  intro pins s σ H Q I h
  refine pmk_oex T iC tI F hr hb .nil (fun _ _ _ _ _ _ _ h => h.elim) hg hm (pa_clo ha) hdb he hpl pins s σ H Q I ⟨_, h, ?_⟩
  rintro vs H1 ⟨w, y, rfl, q⟩
  refine ⟨by show 2 ≤ 1000; omega, fun a na => ?_⟩
  refine ⟨a, w, y, rfl, upd_same, fun dx hn hne => ⟨rfl, dx, [(f, y)], upd_same, ?_, ?_, ?_⟩⟩
  · rw [upd_ne hne, upd_same]
  · rw [upd_ne hne] at hn; exact hn
  · have hn' : H1 dx = none := by rw [upd_ne hne] at hn; exact hn
    have e : upd (del (upd (upd (upd H1 a (exo a C none)) dx (exd dx [(f, y)])) a (exo a C (some dx))) a) dx (.xd [(f, y)]) = upd H1 dx (.xd [(f, y)]) := by
      funext b
      by_cases hb : b = dx
      · rw [hb, upd_same, upd_same]
      · rw [upd_ne hb, upd_ne hb]
        by_cases ha : b = a
        · rw [ha, del_same, na]
        · rw [del_ne ha, upd_ne ha, upd_ne hb, upd_ne ha]
    rw [e]
    exact q dx hn'
end

theorem pmk_one {X : Cx} {e : Expr} {te : TE} {p pos : Pos} {x : Str} {C : Addr} (O : XR1 X.K C) (hm : X.mg x = some (.ref C)) (hg : Gl X x) (he : PE X e te) (hdb : (x == ("__debug__" : Str)) = false) (hs : starEach [e] X.env = (false, eval e X.env) :: starEach [] X.env) : PMk X (.Call (.Name x p) [e] [] pos) (fun σ H Q => te σ H fun _ H1 => Q (.ref C) none H1) :=
  SkE.pmk_own1 PySem.F.excBase_ValueError O.ex hm O.kp (raises_own O.exC O.tyC) hg he hs hdb
end Mi
end
noncomputable section
namespace Mi
open PySem PySem.Spec L2
section
variable {X : Cx} {Φ : Fns} {G : List D} {e e1 e2 : Expr} {es : List Expr} {pos p : Pos} {m m1 m2 : ME} {ms : MEs}
theorem dx_tup {k : Nat} (h : PA X es (tXs X Φ G ms)) : PE X (.Tuple es k pos) (tX X Φ G (.tup ms)) := by
  refine PE.imp (pe_tup h) fun σ H Q q => ?_
  obtain ⟨W, S, ρ, a, y, S', ev, tk⟩ := q
  rw [evX] at ev
  split at ev
  · cases ev
  · exact ⟨W, S, ρ, a, y, S', ev, tk⟩
theorem dx_bin {o : BOp} (h1 : DE X Φ G e1 m1) (x1 : PE X e1 (tX X Φ G m1)) (x2 : PE X e2 (tX X Φ G m2)) : PE X (.BinOp e1 (opOf o) e2 pos) (tX X Φ G (.bin o m1 m2)) := by
  refine ⟨fun pins s σ H Q I h => ?_⟩
  obtain ⟨W, S, ρ, a, y, S', ev, tk⟩ := h
  rw [evX] at ev
  split at ev
  · rename_i p h3
    split at ev
    · cases ev
    · exact (pe_op (op_bin o) h1 x2).run pins s σ H Q I ⟨W, S, ρ, a, p.1, p.2, h3, fun W1 v e1 r1 p1 => ⟨W1, p.2, ρ, a.ext e1 r1, y, S', ev, RaisedIn.ext e1 tk⟩⟩
  · exact (pe_op (op_bin o) x1 x2).run pins s σ H Q I ⟨W, S, ρ, a, y, S', ev, tk⟩
theorem dx_dgt (hu : X.A.units + 1 < cLine) (hs : NoSl e2) (h1 : DE X Φ G e1 m1) (x2 : PE X e2 (tX X Φ G m2)) : PE X (.Subscript e1 e2 pos) (tX X Φ G (.dgt m1 m2)) := by
  refine ⟨fun pins s σ H Q I h => ?_⟩
  obtain ⟨W, S, ρ, a, y, S', ev, tk⟩ := h
  rw [evX] at ev
  split at ev
  · rename_i p h3
    split at ev
    · cases ev
    · exact (pe_dget hu h1 x2 hs).run pins s σ H Q I ⟨W, S, ρ, a, p.1, p.2, h3, fun W1 v e1 r1 p1 => ⟨W1, p.2, ρ, a.ext e1 r1, y, S', ev, RaisedIn.ext e1 tk⟩⟩
  · cases ev
theorem dx_ite {c : Expr} {mc : ME} (hc : DT X Φ G c mc) (x1 : PE X e1 (tX X Φ G m1)) (x2 : PE X e2 (tX X Φ G m2)) : PE X (.IfExp c e1 e2 pos) (tX X Φ G (.ite mc m1 m2)) := by
  refine ⟨fun pins s σ H Q I h => ?_⟩
  obtain ⟨W, S, ρ, a, y, S', ev, tk⟩ := h
  rw [evX] at ev
  split at ev
  · rename_i p h3
    obtain ⟨b, hb, ev⟩ := Mi.bind_some ev
    have hx : p.1 = .val (.bl b) := by
      obtain ⟨x, S1⟩ := p
      cases x with
      | val d => cases d <;> first | (cases hb; rfl) | cases hb
      | own _ => cases hb
      | bor _ => cases hb
      | ownd _ _ => cases hb
    have h3 : evR Φ G ρ mc S = some (.val (.bl b), p.2) := by rw [h3, ← hx]
    refine (pe_ifExp hc x1 x2).run pins s σ H Q I ⟨W, S, ρ, a, b, p.2, h3, fun W1 e1 r1 => ?_⟩
    cases b with
    | true =>
      rw [if_pos rfl] at ev
      exact iteT ⟨W1, p.2, ρ, a.ext e1 r1, y, S', ev, RaisedIn.ext e1 tk⟩
    | false =>
      rw [if_neg (by decide)] at ev
      exact iteF ⟨W1, p.2, ρ, a.ext e1 r1, y, S', ev, RaisedIn.ext e1 tk⟩
  · cases ev
end
section
variable {T : Tab} {Φ : Fns} {G : List D} {k : Nat}
mutual
theorem sndX : ∀ (m : ME) {N : List Str} {sc : Scope} {fp : Str → Bool} {X : Cx} {e : Expr}, GX T N sc fp Φ G k X → chkE T N sc fp m e = true → PE X e (tX X Φ G m)
  | .call f es, N, sc, fp, X, e, g, h => by
    unfold chkE at h
    split at h
    · rename_i x p a l pos
      simp only [Bool.and_eq_true, List.contains_iff_mem] at h
      obtain ⟨⟨⟨h1, h2⟩, h3⟩, h4⟩ := h
      obtain ⟨fa, fd, ps, F, hm, hk, hb⟩ := g.fns f x h1
      obtain ⟨fa2, fd2, ps2, F2, hm2, hk2, hb2⟩ := g.fnx f x h1
      have gl : Gl X x := by unfold Gl PySem.Env.kindOf; rw [g.hsc]; exact gl_of h2
      have st : notStar a = true ∧ (backTo pos (starEach l X.env)).any (·.1) = false := by
        cases es with
        | nil => simp [chkEs] at h4
        | cons m ms =>
          simp only [chkEs, Bool.and_eq_true] at h4
          exact ⟨h4.1.1, nostar_all h4.2⟩
      exact dx_call (pe_callG F g.gds (g.room.mono (by omega)) gl hm hk hb (sndXs es g h4) (okNm_of h3).1 (star_of st.1) st.2)
        (pe_callY F2 g.gds (g.room.mono (by omega)) gl hm2 hk2 hb2 (sndA es g h4) (okNm_of h3).1 (star_of st.1) st.2)
    · cases h
  | .meth c m f o es, N, sc, fp, X, e, g, h => by
    unfold chkE at h
    split at h
    · rename_i x nm ap l pos
      simp only [Bool.and_eq_true, decide_eq_true_eq, List.contains_iff_mem] at h
      obtain ⟨⟨⟨⟨⟨⟨rfl, h2⟩, h3⟩, h6⟩, h7⟩, h4⟩, h5⟩ := h
      obtain ⟨C, fa, fd, ps, hC, hc, hm, F, hb⟩ := g.mth _ _ _ h2
      obtain ⟨C2, fa2, fd2, ps2, hC2, hc2, hm2, F2, hb2⟩ := g.mtx _ _ _ h2
      have eC : C2 = C := by rw [hC] at hC2; cases hC2; rfl
      subst eC
      have ht := meth_ht (m := nm) (env := X.env) h3 h6 h7 (nostar_all h5)
      cases l with
      | nil =>
        cases es with
        | cons _ _ => simp [chkEs] at h5
        | nil =>
          refine dx_meth hC ?_ (PE.imp (pe_methY0 (sndE o g h4).de hc2 hm2 F2 g.gds (g.room.mono (by omega)) hb2 ht) fun σ H Q q => ?_)
          · refine PE.imp (pe_methG0 (sndE o g h4).de hc hm F g.gds (g.room.mono (by omega)) hb ht) fun σ H Q q => ?_
            exact tR_mono q fun x H1 ⟨a, dx, fs, e1, e2, e3, W, S, ρ, at', y, S', ev, _⟩ => by rw [evXs] at ev; cases ev
          · refine tR_mono q fun x H1 ⟨a, dx, fs, e1, e2, e3, W, S, ρ, at', ds, S', ev, q⟩ => ⟨a, dx, fs, e1, e2, e3, ?_⟩
            rw [evs] at ev
            cases ev
            have := q W [] (Ext.refl W) at'.rel .nil
            rw [at'.1] at this
            exact this
      | cons a l =>
        have st : notStar a = true ∧ (backTo pos (starEach l X.env)).any (·.1) = false := by
          cases es with
          | nil => simp [chkEs] at h5
          | cons m ms =>
            simp only [chkEs, Bool.and_eq_true] at h5
            exact ⟨h5.1.1, nostar_all h5.2⟩
        exact dx_meth hC (pe_methG (sndE o g h4).de hc hm F g.gds (g.room.mono (by omega)) hb (sndXs es g h5) (star_of st.1) st.2 ht)
          (pe_methY (sndE o g h4).de hc2 hm2 F2 g.gds (g.room.mono (by omega)) hb2 (sndA es g h5) (star_of st.1) st.2 ht)
    · cases h
  | .tup es, N, sc, fp, X, e, g, h => by
    unfold chkE at h
    split at h
    · exact dx_tup (sndXs es g h)
    · cases h
  | .bin o a b, N, sc, fp, X, e, g, h => by
    unfold chkE at h
    split at h
    · simp only [Bool.and_eq_true, decide_eq_true_eq] at h
      obtain ⟨⟨rfl, h2⟩, h3⟩ := h
      exact dx_bin (sndE a g h2).de (sndX a g h2) (sndX b g h3)
    · cases h
  | .dgt a i, N, sc, fp, X, e, g, h => by
    unfold chkE at h
    split at h
    · simp only [Bool.and_eq_true] at h
      exact dx_dgt (by have := g.hu; omega) (ix_of h.1.1) (sndE a g h.1.2).de (sndX i g h.2)
    · cases h
  | .ite c a b, N, sc, fp, X, e, g, h => by
    unfold chkE at h
    split at h
    · simp only [Bool.and_eq_true] at h
      obtain ⟨⟨⟨h1, h2⟩, h3⟩, h4⟩ := h
      exact dx_ite ((sndE c g h1).dt h2) (sndX a g h3) (sndX b g h4)
    · cases h
  | .o1 q a, N, sc, fp, X, e, g, h => by
    cases q with
    | gget j =>
      unfold chkE at h
      split at h
      · rename_i x hx
        have hx : chk1_gget T sc j e = some x := hx
        unfold chk1_gget at hx
        split at hx
        · rename_i x1 p1 e9 p2 _
          split at hx
          · rename_i hc
            cases hx
            simp only [Bool.and_eq_true, List.contains_iff_mem] at hc
            obtain ⟨⟨⟨h1, h2⟩, h3⟩, h4⟩ := hc
            obtain ⟨d, u, e1, e2, e3⟩ := g.gl j x1 h1
            rcases e3 with ⟨e5, v, e3, e4⟩ | ⟨a', ks, ds, rfl, rfl, gd⟩
            · refine ⟨fun pins s σ H Q I q => ?_⟩
              obtain ⟨W, S, ρ, at', y, S', ev, tk⟩ := q
              rw [evX] at ev
              split at ev
              · cases ev
              · exact (pe_ix (ix_seq (X := X)) (pe_glob (pos := p1) (g.glob h2) e2 e3 (okNm_of h3).1) (sndX a g h) (ix_of h4)).run pins s σ H Q I ⟨W, S, ρ, at', y, S', ev, tk⟩
            · exact dx_gget (ix_of h4) (pe_glob (g.glob h2) e2 rfl (okNm_of h3).1) (sndX a g h)
          · cases hx
        · cases hx
      · cases h
    | _ => exact dx_none fun _ _ => by rw [evX] <;> simp
  | .gks _, N, sc, fp, X, e, g, h => dx_none fun _ _ => by rw [evX] <;> simp
  | .tsl _ _ _, N, sc, fp, X, e, g, h => dx_none fun _ _ => by
    unfold chkE at h
    cases h
  | .var _, N, sc, fp, X, e, g, h => dx_none fun _ _ => by rw [evX] <;> simp
  | .bor _, N, sc, fp, X, e, g, h => dx_none fun _ _ => by rw [evX] <;> simp
  | .con _, N, sc, fp, X, e, g, h => dx_none fun _ _ => by rw [evX] <;> simp
  | .glb _, N, sc, fp, X, e, g, h => dx_none fun _ _ => by rw [evX] <;> simp
  | .neg _, N, sc, fp, X, e, g, h => dx_none fun _ _ => by rw [evX] <;> simp
  | .not _, N, sc, fp, X, e, g, h => dx_none fun _ _ => by rw [evX] <;> simp
  | .and _ _, N, sc, fp, X, e, g, h => dx_none fun _ _ => by rw [evX] <;> simp
  | .or _ _, N, sc, fp, X, e, g, h => dx_none fun _ _ => by rw [evX] <;> simp
  | .cmp _ _ _, N, sc, fp, X, e, g, h => dx_none fun _ _ => by rw [evX] <;> simp
  | .chn _ _ _ _ _, N, sc, fp, X, e, g, h => dx_none fun _ _ => by rw [evX] <;> simp
  | .lst _, N, sc, fp, X, e, g, h => dx_none fun _ _ => by rw [evX] <;> simp
  | .idx _ _, N, sc, fp, X, e, g, h => dx_none fun _ _ => by rw [evX] <;> simp
  | .slc _ _ _, N, sc, fp, X, e, g, h => dx_none fun _ _ => by rw [evX] <;> simp
  | .callp _ _, N, sc, fp, X, e, g, h => dx_none fun _ _ => by
    unfold chkE at h
    cases h
  | .callr _ _, N, sc, fp, X, e, g, h => dx_none fun _ _ => by
    unfold chkE at h
    cases h
  | .bi _ _, N, sc, fp, X, e, g, h => dx_none fun _ _ => by rw [evX] <;> simp
  | .comp _ _ _ _ _, N, sc, fp, X, e, g, h => dx_none fun _ _ => by rw [evX] <;> simp
  | .compl _ _ _ _ _, N, sc, fp, X, e, g, h => dx_none fun _ _ => by
    unfold chkE at h
    cases h
  | .new _, N, sc, fp, X, e, g, h => dx_none fun _ _ => by rw [evX] <;> simp
  | .dct _ _, N, sc, fp, X, e, g, h => dx_none fun _ _ => by rw [evX] <;> simp
  | .din _ _ _, N, sc, fp, X, e, g, h => dx_none fun _ _ => by rw [evX] <;> simp
  | .o2 _ _ _, N, sc, fp, X, e, g, h => dx_none fun _ _ => by rw [evX] <;> simp
  | .o3 _ _ _ _, N, sc, fp, X, e, g, h => dx_none fun _ _ => by rw [evX] <;> simp
  | .ndT, N, sc, fp, X, e, g, h => dx_none fun _ _ => by
    unfold chkE at h
    cases h
  | .ndK, N, sc, fp, X, e, g, h => dx_none fun _ _ => by
    unfold chkE at h
    cases h
  | .skey1 _ _, N, sc, fp, X, e, g, h => dx_none fun _ _ => by
    unfold chkE at h
    cases h
  | .skey2 _ _, N, sc, fp, X, e, g, h => dx_none fun _ _ => by
    unfold chkE at h
    cases h
  | .fld _ _ _, N, sc, fp, X, e, g, h => dx_none fun _ _ => by rw [evX] <;> simp
  | .make _ _ _, N, sc, fp, X, e, g, h => dx_none fun _ _ => by rw [evX] <;> simp
  | .isx1 _ _, N, sc, fp, X, e, g, h => dx_none fun _ _ => by rw [evX] <;> simp
  | .isx _ _, N, sc, fp, X, e, g, h => dx_none fun _ _ => by rw [evX] <;> simp
  | .xf _ _, N, sc, fp, X, e, g, h => dx_none fun _ _ => by rw [evX] <;> simp
theorem sndXs : ∀ (ms : MEs) {N : List Str} {sc : Scope} {fp : Str → Bool} {X : Cx} {es : List Expr}, GX T N sc fp Φ G k X → chkEs T N sc fp ms es = true → PA X es (tXs X Φ G ms)
  | .nil, N, sc, fp, X, es, g, h => ⟨fun pos pins s σ H Q I ⟨W, S, ρ, a, y, S', ev, _⟩ => by rw [evXs] at ev; cases ev⟩
  | .cons m ms, N, sc, fp, X, es, g, h => by
    unfold chkEs at h
    split at h
    · rename_i e es
      simp only [Bool.and_eq_true] at h
      obtain ⟨⟨h1, h2⟩, h3⟩ := h
      refine ⟨fun pos pins s σ H Q I q => ?_⟩
      obtain ⟨W, S, ρ, a, y, S', ev, tk⟩ := q
      rw [evXs] at ev
      split at ev
      · rename_i p h4
        obtain ⟨d, hd, ev⟩ := Mi.bind_some ev
        exact (pa_cons (sndE m g h2).de (sndXs ms g h3) (star_of h1)).run pos pins s σ H Q I ⟨W, S, ρ, a, p.1, p.2, h4, fun W1 v e1 r1 p1 => ⟨W1, p.2, ρ, a.ext e1 r1, y, S', ev, RaisedIn.ext e1 tk⟩⟩
      · exact (pa_cons (sndX m g h2) (sndXs ms g h3) (star_of h1)).run pos pins s σ H Q I ⟨W, S, ρ, a, y, S', ev, tk⟩
    · cases h
end
end
end Mi
end
noncomputable section
namespace Mi
open PySem PySem.Spec L2

noncomputable def swB (sc : Scope) (t e : Expr) : Bool := match e with
  | .ListComp _ _ s p => (match t with
    | .Name y py => isLoc sc y && (py.line == p.line) && !(s.names.any fun (n, k) => n == y && (k == .local || k == .cell))
    | _ => false)
  | _ => false
noncomputable def noComp2 : Expr → Bool
  | .SetComp _ _ _ _ => false | .DictComp _ _ _ _ _ => false | _ => true
noncomputable def notSeqT : Expr → Bool
  | .Tuple _ _ _ => false | .List _ _ => false | _ => true
noncomputable def foldB : Expr → Bool
  | .Tuple vs _ _ => vs.all (foldedForSure 8) | _ => false
noncomputable def isComp : Expr → Bool
  | .ListComp _ _ _ _ => true | _ => false

noncomputable def swN (sc : Scope) (l : Nat) : List Expr → Bool
  | [] => true
  | .Name x p :: r => isLoc sc x && (p.line == l) && swN sc l r
  | _ => false
noncomputable def swNone (sc : Scope) : Expr → Expr → Bool
  | .Tuple ts _ _, .Tuple _ _ _ => !swN sc ((ts.head?.map (·.pos.line)).getD 0) ts
  | _, _ => false

noncomputable def chkV (T : Tab) (N : List Str) (sc : Scope) : ME → Expr → Bool
  | .var i, e => match e with
    | .Name x _ => decide (N[i]? = some x) && isVis sc x && okNm x
    | _ => false
  | .con d, e => match e with
    | .Constant c _ _ => conOk c d
    | _ => false
  | .isx1 c a, e => match e with
    | .Call (.Name x _) [l, .Name y _] [] _ => decide (x = "isinstance") && T.bn.contains x && isGl sc x && notStar l && askNm T sc c y && chkV T N sc a l
    | _ => false
  | .isx cs a, e => match e with
    | .Call (.Name x _) [l, .Tuple ns _ _] [] _ => decide (x = "isinstance") && T.bn.contains x && isGl sc x && notStar l && askNms T sc cs ns && decide (ns.length < 16) && chkV T N sc a l
    | _ => false
  | .not a, e => match e with
    | .UnaryOp .Not x _ => chkV T N sc a x && notIf x
    | _ => false
  | .or a b, e => match e with
    | .BoolOp .Or [x, y] _ => chkV T N sc a x && notIf x && chkV T N sc b y && notIf y
    | _ => false
  | _, _ => false
mutual
noncomputable def chkU (T : Tab) (N : List Str) (sc : Scope) : MS → Stmt → Bool
  | .asg (.nm i) m, s => match s with
    | .Assign [.Name x _] e _ => noComp2 e && !isComp e && decide (N[i]? = some x) && isLoc sc x && chkV T N sc m e
    | _ => false
  | .ret m, s => match s with
    | .Return (some e) _ => chkV T N sc m e
    | _ => false
  | .ite c a b, s => match s with
    | .If t xs ys _ => chkV T N sc c t && notIf t && chkUs T N sc a xs && chkUs T N sc b ys
    | _ => false
  | _, _ => false
noncomputable def chkUs (T : Tab) (N : List Str) (sc : Scope) : MSs → List Stmt → Bool
  | .nil, l => match l with
    | [] => true
    | _ => false
  | .cons m ms, l => match l with
    | s :: r => chkU T N sc m s && chkUs T N sc ms r
    | [] => false
end
mutual
noncomputable def chkS (T : Tab) (N : List Str) (sc : Scope) (fp : Str → Bool) : MS → Stmt → Bool
  | .asg t m, s => match s with
    | .Assign [tg] e _ => notStar tg && noComp2 e && chkE T N sc fp m e && chkT T N sc fp t tg && (notSeqT tg || notTupE e || foldB e || swNone sc tg e) && (!swB sc tg e || (match t, m with | .nm _, .comp _ _ _ _ _ => true | _, _ => false))
    | _ => false
  | .own i m, s => match s with
    | .Assign [.Name x p] e _ => noComp2 e && chkE T N sc fp m e && decide (N[i]? = some x) && (isLoc sc x || (isCel sc x && fp x)) && (!swB sc (.Name x p) e || (match m with | .comp _ _ _ _ _ => true | _ => false))
    | _ => false
  | .par i j _ a b, s => match s with
    | .Assign [.Tuple [.Name x px, .Name y py] kt pt] (.Tuple [e1, e2] k2 pt2) _ => (decide (N[i]? = some x) && decide (N[j]? = some y) && decide (i ≠ j) && isLoc sc x && isLoc sc y && (py.line == px.line) && decide (x ≠ y) && notStar e1 && notStar e2 && !([e1, e2].all (foldedForSure 8)) && !([e1, e2].all (constantsAlone 8)) && chkE T N sc fp a e1 && chkE T N sc fp b e2) ||
      (decide (N[i]? = some x) && decide (N[j]? = some y) && (isLoc sc x || (isCel sc x && fp x)) && (isLoc sc y || (isCel sc y && fp y)) && notStar e1 && notStar e2 && swNone sc (.Tuple [.Name x px, .Name y py] kt pt) (.Tuple [e1, e2] k2 pt2) && chkE T N sc fp a e1 && chkE T N sc fp b e2)
    | _ => false
  | .par3 i j l a b c, s => match s with
    | .Assign [.Tuple [.Name x px, .Name y py, .Name z pz] _ _] (.Tuple [e1, e2, e3] _ _) _ => decide (N[i]? = some x) && decide (N[j]? = some y) && decide (N[l]? = some z) && decide (i ≠ j) && decide (i ≠ l) && decide (j ≠ l) && isLoc sc x && isLoc sc y && isLoc sc z && (py.line == px.line) && (pz.line == px.line) && decide (x ≠ y) && decide (x ≠ z) && decide (y ≠ z) && notStar e1 && notStar e2 && notStar e3 && !([e1, e2, e3].all (foldedForSure 8)) && !([e1, e2, e3].all (constantsAlone 8)) && chkE T N sc fp a e1 && chkE T N sc fp b e2 && chkE T N sc fp c e3
    | _ => false
  | .aug i o m, s => match s with
    | .AugAssign (.Name x _) op e _ => (match o with | .add => true | .sub => true | _ => false) && decide (op = opOf o) && decide (N[i]? = some x) && (isLoc sc x || (isCel sc x && fp x)) && chkE T N sc fp m e
    | _ => false
  | .app i m, s => match s with
    | .Expr (.Call (.Attribute (.Name x _) nm ap) [e] [] cp) _ => decide (nm = "append") && decide (N[i]? = some x) && isVis sc x && okNm x && notStar e && (ap.endLine == cp.line) && chkE T N sc fp m e
    | _ => false
  | .ext i m, s => match s with
    | .Expr (.Call (.Attribute (.Name x _) nm ap) [e] [] cp) _ => decide (nm = "extend") && decide (N[i]? = some x) && isVis sc x && okNm x && notStar e && (ap.endLine == cp.line) && chkE T N sc fp m e
    | _ => false
  | .rev i, s => false
  | .sown i a m, s => match s with
    | .Assign [.Subscript (.Name x _) ix _] e _ => noComp2 e && !isComp e && notSlc ix && chkE T N sc fp m e && chkE T N sc fp a ix && decide (N[i]? = some x) && isVis sc x && okNm x
    | _ => false
  | .pops t i, s => false
  | .ite c a b, s => match s with
    | .If t xs ys _ => chkE T N sc fp c t && notIf t && chkSs T N sc fp a xs && chkSs T N sc fp b ys
    | _ => false
  | .forr t it b, s => match s with
    | .For tg iter body [] _ => chkI T N sc fp it tg iter && notSet iter && chkT T N sc fp t tg && chkSs T N sc fp b body
    | _ => false
  | .whl n c b, s => false
  | .ret m, s => match s with
    | .Return (some e) _ => chkE T N sc fp m e
    | _ => false
  | .reto i, s => match s with
    | .Return (some (.Name x _)) _ => decide (N[i]? = some x) && isVis sc x && okNm x
    | _ => false
  | .expr m, s => match s with
    | .Expr e _ => notComp e && chkE T N sc fp m e
    | _ => false
  | .frz _, s => false
  | .setf c o f m, s => match s with
    | .Assign [.Attribute x nm _] e _ => decide (nm = f) && T.fld.contains (c, f) && noComp2 e && chkE T N sc fp o x && chkE T N sc fp m e
    | _ => false
  | .augs i a o m, s => false
  | .ins i a m, s => false
  | .popn i a, s => false
  | .sown2 i a b m1 m2, s => false
  | .rse, s => match s with
    | .Raise _ _ _ => true
    | _ => false
  | .augf c o f k, s => match s with
    | .AugAssign (.Attribute x nm _) op (.Constant (.int i) _ _) _ => decide (nm = f) && decide (op = .Add) && (i == k) && T.fld.contains (c, f) && chkE T N sc fp o x
    | _ => false
  | .rsx c f es, s => match s with
    | .Raise (some (.Call (.Name x _) (a :: l) [] _)) none _ => decide (x = c) && T.xr.contains (c, f) && isGl sc x && okNm x && decide ((a :: l).length = argN f) && chkEs T N sc fp es (a :: l)
    | _ => false
  | .trx c i b u, s => match s with
    | .Try body [.ExceptHandler (some (.Name x _)) (some n) (b0 :: suite) _] [] [] _ => decide (x = c) && T.xc.contains c && isGl sc x && okNm x && decide (N[i]? = some n) && isLoc sc n && chkSs T N sc fp b body && chkUs T N sc u (b0 :: suite)
    | _ => false
  | .forl t it b, s => false
noncomputable def chkSs (T : Tab) (N : List Str) (sc : Scope) (fp : Str → Bool) : MSs → List Stmt → Bool
  | .nil, l => match l with
    | [] => true
    | _ => false
  | .cons m ms, l => match m with
    | .frz _ => chkSs T N sc fp ms l
    | m => match l with
      | s :: r => chkS T N sc fp m s && chkSs T N sc fp ms r
      | [] => false
end
section
variable {T : Tab} {N : List Str} {sc : Scope} {fp : Str → Bool} {Φ : Fns} {G : List D} {k : Nat} {X : Cx}
theorem blk_fn {env : PySem.Env} (h : env.scope.kind = .function) : env.blockKind = .function := by unfold PySem.Env.blockKind; rw [h]; rfl
theorem sw_false {e tg : Expr} {l : Nat} {env : PySem.Env} (h1 : noComp2 e = true) (hk : env.scope.kind = .function) (h2 : swB env.scope tg e = false) : swapsWith e (some tg) l env = pure false := by
  cases e with
  | SetComp _ _ _ _ => cases h1
  | DictComp _ _ _ _ _ => cases h1
  | ListComp elt gs s p =>
    cases tg with
    | Name y py =>
      have h2 : (isLoc env.scope y && (py.line == p.line) && !(s.names.any fun (n, k) => n == y && (k == .local || k == .cell))) = false := h2
      show (pure (env.blockKind == .function && env.kindOf y == some .local && py.line == p.line && !(s.names.any fun (n, k) => n == y && (k == .local || k == .cell))) : Sem Bool) = pure false
      have e : (env.kindOf y == some .local) = isLoc env.scope y := by
        unfold isLoc PySem.Env.kindOf
        cases env.scope.names.lookup y with
        | none => rfl
        | some kd => cases kd <;> rfl
      rw [blk_fn hk, e]
      show (pure (true && isLoc env.scope y && py.line == p.line && !(s.names.any fun (n, k) => n == y && (k == .local || k == .cell))) : Sem Bool) = pure false
      rw [Bool.true_and, h2]
    | _ => rfl
  | _ => rfl
theorem sw_none {e tg : Expr} {env : PySem.Env} (h : (notSeqT tg || notTupE e || foldB e) = true) : swappedStores [tg] e env = pure none := by
  cases tg with
  | Tuple ts kt pt =>
    cases e with
    | Tuple vs kv pv =>
      have h : vs.all (foldedForSure 8) = true := by simpa [notSeqT, notTupE, foldB] using h
      unfold swappedStores
      simp only [h, if_true]
      split
      · rfl
      · split
        · rfl
        · split <;> rfl
    | _ => rfl
  | List ts pt =>
    cases e with
    | Tuple vs kv pv =>
      have h : vs.all (foldedForSure 8) = true := by simpa [notSeqT, notTupE, foldB] using h
      unfold swappedStores
      simp only [h, if_true]
      split
      · rfl
      · split
        · rfl
        · split <;> rfl
    | _ => rfl
  | _ => rfl
theorem kindLoc {env : PySem.Env} {y : Str} : (env.kindOf y == some .local) = isLoc env.scope y := by
  unfold isLoc PySem.Env.kindOf
  cases env.scope.names.lookup y with
  | none => rfl
  | some kd => cases kd <;> rfl
theorem swN_len {env : PySem.Env} {l : Nat} : ∀ {ts : List Expr}, swN env.scope l ts = false → ((ts.filterMap fun
    | .Name id pos => if env.kindOf id == some .local && pos.line == l then some id else none
    | _ => none).length != ts.length) = true := by
  intro ts h
  have key : ∀ ts : List Expr, (ts.filterMap fun
    | .Name id pos => if env.kindOf id == some .local && pos.line == l then some id else none
    | _ => none).length ≤ ts.length ∧ (swN env.scope l ts = false → (ts.filterMap fun
    | .Name id pos => if env.kindOf id == some .local && pos.line == l then some id else none
    | _ => none).length < ts.length) := by
    intro ts
    induction ts with
    | nil => exact ⟨Nat.le_refl _, fun z => nomatch z⟩
    | cons t ts ih =>
      refine ⟨List.length_filterMap_le _ _, fun z => ?_⟩
      cases t with
      | Name x p =>
        rw [List.filterMap_cons]
        dsimp only
        rw [kindLoc]
        cases hc : (isLoc env.scope x && p.line == l) with
        | false =>
          rw [if_neg (by decide)]
          exact Nat.lt_succ_of_le ih.1
        | true =>
          rw [if_pos rfl]
          have z : (isLoc env.scope x && (p.line == l) && swN env.scope l ts) = false := z
          rw [hc, Bool.true_and] at z
          exact Nat.succ_lt_succ (ih.2 z)
      | _ => exact Nat.lt_succ_of_le ih.1
  have := (key ts).2 h
  simp only [bne_iff_ne, ne_eq]
  omega
theorem sw_none2 {e tg : Expr} {env : PySem.Env} (h : swNone env.scope tg e = true) : swappedStores [tg] e env = pure none := by
  cases tg with
  | Tuple ts kt pt =>
    cases e with
    | Tuple vs kv pv =>
      have h : swN env.scope ((ts.head?.map (·.pos.line)).getD 0) ts = false := by simpa [swNone] using h
      have hl := swN_len h
      unfold swappedStores
      dsimp only
      split
      · rfl
      · split
        · rfl
        · split
          · rfl
          · rename_i hf
            exact absurd ((Bool.or_eq_true _ _).mpr (.inl hl)) hf
    | _ => cases h
  | _ => cases h
theorem namePos {x : Str} {p : Pos} : (Expr.Name x p).pos = p := rfl
theorem noStar_any {es : List Expr} (h : ∀ x ∈ es, notStar x = true) : (es.any fun | .Starred .. => true | _ => false) = false := by
  rw [List.any_eq_false]
  intro x hx
  have := h x hx
  cases x <;> first | exact Bool.false_ne_true | cases this
theorem sw_some2 {env : PySem.Env} {x y : Str} {px py pt pt2 : Pos} {kt k2} {e1 e2 : Expr} (hk : env.scope.kind = .function) (hx : isLoc env.scope x = true) (hy : isLoc env.scope y = true) (hl : (py.line == px.line) = true) (hn : x ≠ y) (s1 : notStar e1 = true) (s2 : notStar e2 = true) (hf : [e1, e2].all (foldedForSure 8) = false) (hc : [e1, e2].all (constantsAlone 8) = false) :
    swappedStores [.Tuple [.Name x px, .Name y py] kt pt] (.Tuple [e1, e2] k2 pt2) env = pure (some [x, y]) := by
  have hst : ∀ x ∈ [e1, e2], notStar x = true := fun x hx => by
    simp only [List.mem_cons, List.not_mem_nil, or_false] at hx
    rcases hx with rfl | rfl <;> assumption
  have hed : ([x, y] : List Str).eraseDups.length = 2 := by
    have h2 : (y == x) = false := by rw [beq_eq_false_iff_ne]; exact Ne.symm hn
    simp [List.eraseDups_cons, h2]
  unfold swappedStores
  dsimp only
  split
  · rename_i h
    rw [blk_fn hk] at h
    exact absurd h Bool.false_ne_true
  · split
    · rename_i h
      exact absurd ((noStar_any hst).symm.trans h) (by decide)
    · simp only [List.filterMap_cons, List.filterMap_nil, List.head?_cons, Option.map_some, Option.getD_some, namePos, kindLoc, hx, hy, hl, beq_self_eq_true, Bool.and_self, if_true]
      rw [if_neg (by rw [hed]; exact Bool.false_ne_true), if_neg (by rw [hf]; decide), if_neg (by rw [hc]; decide)]
theorem sw_some3 {env : PySem.Env} {x y z : Str} {px py pz pt pt2 : Pos} {kt k2} {e1 e2 e3 : Expr} (hk : env.scope.kind = .function) (hx : isLoc env.scope x = true) (hy : isLoc env.scope y = true) (hz : isLoc env.scope z = true) (hl : (py.line == px.line) = true) (hl2 : (pz.line == px.line) = true) (hn : x ≠ y) (hn2 : x ≠ z) (hn3 : y ≠ z) (s1 : notStar e1 = true) (s2 : notStar e2 = true) (s3 : notStar e3 = true) (hf : [e1, e2, e3].all (foldedForSure 8) = false) (hc : [e1, e2, e3].all (constantsAlone 8) = false) :
    swappedStores [.Tuple [.Name x px, .Name y py, .Name z pz] kt pt] (.Tuple [e1, e2, e3] k2 pt2) env = pure (some [x, y, z]) := by
  have hst : ∀ x ∈ [e1, e2, e3], notStar x = true := fun x hx => by
    simp only [List.mem_cons, List.not_mem_nil, or_false] at hx
    rcases hx with rfl | rfl | rfl <;> assumption
  have hed : ([x, y, z] : List Str).eraseDups.length = 3 := by
    have h2 : (y == x) = false := by rw [beq_eq_false_iff_ne]; exact Ne.symm hn
    have h3 : (z == x) = false := by rw [beq_eq_false_iff_ne]; exact Ne.symm hn2
    have h4 : (z == y) = false := by rw [beq_eq_false_iff_ne]; exact Ne.symm hn3
    simp [List.eraseDups_cons, h2, h3, h4]
  unfold swappedStores
  dsimp only
  split
  · rename_i h
    rw [blk_fn hk] at h
    exact absurd h Bool.false_ne_true
  · split
    · rename_i h
      exact absurd ((noStar_any hst).symm.trans h) (by decide)
    · simp only [List.filterMap_cons, List.filterMap_nil, List.head?_cons, Option.map_some, Option.getD_some, namePos, kindLoc, hx, hy, hz, hl, hl2, beq_self_eq_true, Bool.and_self, if_true]
      rw [if_neg (by rw [hed]; exact Bool.false_ne_true), if_neg (by rw [hf]; decide), if_neg (by rw [hc]; decide)]
theorem gT_nm {K : PySem.W.Frag} {i : Nat} {v : V} {σ : St} {H : Hp} {Q : St → Hp → Prop} (h : gT K Φ G (.nm i) v σ H Q) : gName i v σ H Q := by
  obtain ⟨W, S, ρ, d, a, r, ρ', S', ev, q⟩ := h
  rw [sto] at ev
  split at ev
  · rename_i hi
    cases ev
    have := q W (σ.set i (some v)) (Ext.refl W) ⟨rfl, a.rel, a.sl.set hi r⟩ (fun p => own_set hi) ⟨by rw [List.length_set], fun j hj => by
      rw [List.getElem?_set_ne]; intro z; exact hj (by rw [z]; exact List.mem_singleton.mpr rfl)⟩
    rw [a.1] at this; exact this
  · cases ev

theorem setLc_ok (g : GX T N sc fp Φ G k X) {i : Nat} {y : Str} {py pos : Pos} {e : Expr} {own : List Nat} {t : MT} {it : MI} {c : MO} {m : ME} (hy : N[i]? = some y) (hs : swB sc (.Name y py) e = true) (h : chkE T N sc fp (.comp own t it c m) e = true) :
    ∃ tl : TE, PS X (.Assign [.Name y py] e pos) (tAsg tl (gName i)) ∧ ∀ σ H Q, tR X.K Φ G (.comp own t it c m) σ H Q → tl σ H Q := by
  unfold chkE at h
  split at h
  · rename_i elt tg iter ifs as scope p2
    simp only [Bool.and_eq_true, decide_eq_true_eq] at h
    obtain ⟨⟨⟨⟨⟨⟨⟨rfl, h1⟩, h2⟩, h3⟩, h4⟩, h5⟩, h6⟩, h7⟩ := h
    have ok : BlkOk X.N X.env.scope scope (own.map fun i => (N.getD i "", i)) := by rw [g.hN, g.hsc]; exact blkOk_by h3
    have eo : (own.map fun i => (N.getD i "", i)).map (·.2) = own := by
      rw [List.map_map]; exact List.map_id' _
    have ho : ∀ i ∈ slotsT t, i ∈ own := fun i hi => by
      have := (List.all_eq_true.mp h4) i hi
      simpa using this
    have hs : (isLoc sc y && (py.line == p2.line) && !(scope.names.any fun (n, k) => n == y && (k == .local || k == .cell))) = true := hs
    simp only [Bool.and_eq_true, Bool.not_eq_true'] at hs
    have hl : X.env.scope.names.lookup y = some .local := by rw [g.hsc]; exact loc_of hs.1.1
    refine ⟨_, ps_setLc (wi := tI X.K Φ G true it) (g := gT X.K Φ G t) (tt := tC' X.K Φ G c) (te := tR X.K Φ G m) g.calm (by rw [g.hN]; exact g.nd) (by rw [g.hN]; exact hy) hl (sw_true (by rw [g.hsc]; exact g.knd) hl hs.1.2 hs.2) (sndI it tg g h1) ok (fun s H C cl fpa => sndT t (g.blk ok.kind) h5) (fun s H C cl fpa => sndC c (g.blk ok.kind) h6) (fun s H C cl fpa => (sndE m (g.blk ok.kind) h7).de) (fold_of h2), fun σ H Q h => ?_⟩
    rw [eo]
    exact lc_imp ho h
  · cases h
theorem loc_fn (g : GX T N sc fp Φ G k X) {x : Str} (h : (isLoc sc x || (isCel sc x && fp x)) = true) : Loc X.env.scope x ∧ (X.fn x = true ∨ X.env.scope.names.lookup x = some .local) := by
  rw [g.hsc, g.hfn]
  simp only [Bool.or_eq_true, Bool.and_eq_true] at h
  rcases h with h | ⟨h, h'⟩
  · exact ⟨.inl (loc_of h), .inr (loc_of h)⟩
  · exact ⟨.inr (cel_of h), .inl h'⟩

structure GU (T : Tab) (N : List Str) (sc : Scope) (X : Cx) : Prop where
  hN : X.N = N
  nd : N.Nodup
  hsc : X.env.scope = sc
  knd : sc.kind = .function
  hfn : X.fn = fun _ => true
  bl : ∀ x, x ∈ T.bn → X.mg x = none
  xcs : ∀ c, c ∈ T.xc → c ∈ errNames ∧ ∃ C, X.mg c = some (.ref C) ∧ PySem.W.nsIn X.K mainGlobals c = some (some (.ref C))
theorem ask_peU {X : Cx} (g : GU T N sc X) {c y : Str} {p : Pos} (h : askNm T sc c y = true) : ∃ (v : V) (u : Value), PE X (.Name y p) (tC v) ∧ ClsV v u ∧ AskC X.K c u := by
  unfold askNm at h
  simp only [Bool.and_eq_true, Bool.or_eq_true, decide_eq_true_eq, List.contains_iff_mem] at h
  obtain ⟨⟨⟨rfl, h2⟩, h3⟩, h4⟩ := h
  have gl : Gl X y := by unfold Gl PySem.Env.kindOf; rw [g.hsc]; exact gl_of h2
  rcases h4 with h4 | ⟨rfl, h4⟩
  · obtain ⟨he, C, hm, hn⟩ := g.xcs _ h4
    exact ⟨.ref C, .ref C, pe_glob gl hm rfl (okNm_of h3).1, .own C, askC_own he hn⟩
  · exact ⟨.ty "ValueError", .type "ValueError", pe_bltn gl (g.bl _ h4) (by decide +kernel) rfl (by decide) (by decide), .ty _, askC_ve⟩
theorem asks_peU {X : Cx} (g : GU T N sc X) : ∀ {cs : List Str} {es : List Expr}, askNms T sc cs es = true → ∃ (vs : List V) (us : List Value), PA X es (fun _ H Q => Q vs H) ∧ AskCs X.K cs vs us ∧ vs.length = es.length := by
  intro cs es
  fun_induction askNms T sc cs es with
  | case1 => exact fun _ => ⟨[], [], pa_nil, .nil, rfl⟩
  | case2 c cs y p es ih =>
    intro h
    rw [Bool.and_eq_true] at h
    obtain ⟨v, u, h1, h2, h3⟩ := ask_peU g (p := p) h.1
    obtain ⟨vs, us, h4, h5, h6⟩ := ih h.2
    exact ⟨v :: vs, u :: us, PA.imp (pa_cons h1 h4 rfl) fun σ H Q q => q, .cons h3 h2 h5, by rw [List.length_cons, List.length_cons, h6]⟩
  | case3 => intro h; cases h
theorem sndQ {Φ : Fns} {G : List D} : ∀ (m : ME) {X : Cx} {e : Expr}, GU T N sc X → chkV T N sc m e = true → SE X Φ G e m ∧ ∀ ρ S, evX Φ G ρ m S = none
  | .var i, X, e, g, h => by
    unfold chkV at h
    split at h
    · simp only [Bool.and_eq_true, decide_eq_true_eq] at h
      obtain ⟨⟨h1, h2⟩, h3⟩ := h
      exact ⟨.of (de_var (by rw [g.hN]; exact h1) (by rw [g.hsc]; exact vis_of h2) (okNm_of h3).1 (okNm_of h3).2) rfl, fun _ _ => by rw [evX] <;> simp⟩
    · cases h
  | .con d, X, e, g, h => by
    unfold chkV at h
    split at h
    · unfold conOk at h
      refine ⟨?_, fun _ _ => by rw [evX] <;> simp⟩
      split at h
      · have h := beq_iff_eq.mp h
        subst h
        exact .of (de_con pe_int fun W => by unfold Rep; rfl) rfl
      · have h := beq_iff_eq.mp h
        subst h
        exact .of (de_con pe_str fun W => by unfold Rep; rfl) rfl
      · have h := beq_iff_eq.mp h
        subst h
        exact .of (de_con pe_bl fun W => by unfold Rep; rfl) rfl
      · exact .of (de_con pe_non fun W => by unfold Rep; rfl) rfl
      · cases h
    · cases h
  | .isx1 c a, X, e, g, h => by
    unfold chkV at h
    split at h
    · rename_i x p l y p2 pos
      simp only [Bool.and_eq_true, decide_eq_true_eq, List.contains_iff_mem] at h
      obtain ⟨⟨⟨⟨⟨rfl, h1⟩, h2⟩, h3⟩, h4⟩, h5⟩ := h
      have gl : Gl X "isinstance" := by unfold Gl PySem.Env.kindOf; rw [g.hsc]; exact gl_of h2
      obtain ⟨v, u, k1, k2, k3⟩ := ask_peU g (p := p2) h4
      exact ⟨.of (de_isx1 gl (g.bl _ h1) (star_of h3) rfl rfl (sndQ a g h5).1.de k1 k2 k3) rfl, fun _ _ => by rw [evX] <;> simp⟩
    · cases h
  | .isx cs a, X, e, g, h => by
    unfold chkV at h
    split at h
    · rename_i x p l ns q1 p2 pos
      simp only [Bool.and_eq_true, decide_eq_true_eq, List.contains_iff_mem] at h
      obtain ⟨⟨⟨⟨⟨⟨rfl, h1⟩, h2⟩, h3⟩, h4⟩, h6⟩, h5⟩ := h
      have gl : Gl X "isinstance" := by unfold Gl PySem.Env.kindOf; rw [g.hsc]; exact gl_of h2
      obtain ⟨vs, us, k1, k2, k3⟩ := asks_peU g h4
      have hlen : vs.length ≤ sizeLine := by rw [k3, sizeLine_eq]; omega
      exact ⟨.of (de_isx gl (g.bl _ h1) (star_of h3) rfl rfl (sndQ a g h5).1.de (PE.imp (pe_tup k1) fun σ H Q q => ⟨hlen, q⟩) k2) rfl, fun _ _ => by rw [evX] <;> simp⟩
    · cases h
  | .not a, X, e, g, h => by
    unfold chkV at h
    split at h
    · simp only [Bool.and_eq_true] at h
      have A := (sndQ (Φ := Φ) (G := G) a g h.1).1
      exact ⟨⟨de_not A.de, fun _ => dt_not (A.dt h.2), fun op es pos e => nomatch e⟩, fun _ _ => by rw [evX] <;> simp⟩
    · cases h
  | .or a b, X, e, g, h => by
    unfold chkV at h
    split at h
    · rename_i x y pos
      simp only [Bool.and_eq_true] at h
      obtain ⟨⟨⟨h1, h2⟩, h3⟩, h4⟩ := h
      have A := (sndQ (Φ := Φ) (G := G) a g h1).1
      have B := (sndQ (Φ := Φ) (G := G) b g h3).1
      have W : DW X Φ G (.BoolOp .Or [x, y] pos) (.or a b) := dw_or (A.dt h2) (pw_or1 (B.dt h4))
      exact ⟨⟨de_or A.de (pe_one B.de), fun _ => W.pt, fun _ _ _ _ _ _ _ _ => W⟩, fun _ _ => by rw [evX] <;> simp⟩
    · cases h
  | .bor _, X, e, g, h => by simp [chkV] at h
  | .glb _, X, e, g, h => by simp [chkV] at h
  | .bin _ _ _, X, e, g, h => by simp [chkV] at h
  | .neg _, X, e, g, h => by simp [chkV] at h
  | .and _ _, X, e, g, h => by simp [chkV] at h
  | .cmp _ _ _, X, e, g, h => by simp [chkV] at h
  | .chn _ _ _ _ _, X, e, g, h => by simp [chkV] at h
  | .ite _ _ _, X, e, g, h => by simp [chkV] at h
  | .tup _, X, e, g, h => by simp [chkV] at h
  | .lst _, X, e, g, h => by simp [chkV] at h
  | .idx _ _, X, e, g, h => by simp [chkV] at h
  | .slc _ _ _, X, e, g, h => by simp [chkV] at h
  | .call _ _, X, e, g, h => by simp [chkV] at h
  | .callp _ _, X, e, g, h => by simp [chkV] at h
  | .callr _ _, X, e, g, h => by simp [chkV] at h
  | .bi _ _, X, e, g, h => by simp [chkV] at h
  | .comp _ _ _ _ _, X, e, g, h => by simp [chkV] at h
  | .compl _ _ _ _ _, X, e, g, h => by simp [chkV] at h
  | .new _, X, e, g, h => by simp [chkV] at h
  | .dct _ _, X, e, g, h => by simp [chkV] at h
  | .dgt _ _, X, e, g, h => by simp [chkV] at h
  | .din _ _ _, X, e, g, h => by simp [chkV] at h
  | .o1 _ _, X, e, g, h => by simp [chkV] at h
  | .o2 _ _ _, X, e, g, h => by simp [chkV] at h
  | .o3 _ _ _ _, X, e, g, h => by simp [chkV] at h
  | .ndT, X, e, g, h => by simp [chkV] at h
  | .ndK, X, e, g, h => by simp [chkV] at h
  | .skey1 _ _, X, e, g, h => by simp [chkV] at h
  | .skey2 _ _, X, e, g, h => by simp [chkV] at h
  | .fld _ _ _, X, e, g, h => by simp [chkV] at h
  | .meth _ _ _ _ _, X, e, g, h => by simp [chkV] at h
  | .make _ _ _, X, e, g, h => by simp [chkV] at h
  | .xf _ _, X, e, g, h => by simp [chkV] at h
  | .gks _, X, e, g, h => by simp [chkV] at h
  | .tsl _ _ _, X, e, g, h => by simp [chkV] at h
mutual
theorem sndU {Φ : Fns} {G : List D} : ∀ (m : MS) {X : Cx} {s : Stmt}, GU T N sc X → chkU T N sc m s = true → DS X Φ G s m
  | .asg (.nm i) m, X, s, g, h => by
    unfold chkU at h
    split at h
    · rename_i x px e p
      simp only [Bool.and_eq_true, decide_eq_true_eq, Bool.not_eq_true'] at h
      obtain ⟨⟨⟨⟨h1, h2⟩, h3⟩, h4⟩, h5⟩ := h
      obtain ⟨E, hn⟩ := sndQ (Φ := Φ) (G := G) m g h5
      have hl : X.env.scope.names.lookup x = some .local := by rw [g.hsc]; exact loc_of h4
      have hw : swB X.env.scope (.Name x px) e = false := by cases e <;> first | rfl | cases h2
      exact ds_asg (fun te gg he hg => ps_asg he hg (sw_false (l := p.line) h1 (by rw [g.hsc]; exact g.knd) hw) (sw_none (by rfl)) rfl) (dex_of E.de (dx_none hn)) (dg_nm (by rw [g.hN]; exact g.nd) (by rw [g.hN]; exact h3) (.inl hl) (.inr hl))
    · cases h
  | .ret m, X, s, g, h => by
    unfold chkU at h
    split at h
    · obtain ⟨E, hn⟩ := sndQ (Φ := Φ) (G := G) m g h
      exact ds_ret (dex_of E.de (dx_none hn))
    · cases h
  | .ite c a b, X, s, g, h => by
    unfold chkU at h
    split at h
    · simp only [Bool.and_eq_true] at h
      exact ds_ite ((sndQ c g h.1.1.1).1.dt h.1.1.2) (sndUs a g h.1.2) (sndUs b g h.2)
    · cases h
  | .asg (.sub _ _) _, X, s, g, h => by simp [chkU] at h
  | .asg (.tp _) _, X, s, g, h => by simp [chkU] at h
  | .asg (.cut _ _) _, X, s, g, h => by simp [chkU] at h
  | .asg (.key _ _) _, X, s, g, h => by simp [chkU] at h
  | .own _ _, X, s, g, h => by simp [chkU] at h
  | .par _ _ _ _ _, X, s, g, h => by simp [chkU] at h
  | .par3 _ _ _ _ _ _, X, s, g, h => by simp [chkU] at h
  | .aug _ _ _, X, s, g, h => by simp [chkU] at h
  | .app _ _, X, s, g, h => by simp [chkU] at h
  | .ext _ _, X, s, g, h => by simp [chkU] at h
  | .rev _, X, s, g, h => by simp [chkU] at h
  | .sown _ _ _, X, s, g, h => by simp [chkU] at h
  | .pops _ _, X, s, g, h => by simp [chkU] at h
  | .forr _ _ _, X, s, g, h => by simp [chkU] at h
  | .whl _ _ _, X, s, g, h => by simp [chkU] at h
  | .reto _, X, s, g, h => by simp [chkU] at h
  | .expr _, X, s, g, h => by simp [chkU] at h
  | .frz _, X, s, g, h => by simp [chkU] at h
  | .setf _ _ _ _, X, s, g, h => by simp [chkU] at h
  | .augs _ _ _ _, X, s, g, h => by simp [chkU] at h
  | .ins _ _ _, X, s, g, h => by simp [chkU] at h
  | .popn _ _, X, s, g, h => by simp [chkU] at h
  | .sown2 _ _ _ _ _, X, s, g, h => by simp [chkU] at h
  | .forl _ _ _, X, s, g, h => by simp [chkU] at h
  | .rse, X, s, g, h => by simp [chkU] at h
  | .rsx _ _ _, X, s, g, h => by simp [chkU] at h
  | .trx _ _ _ _, X, s, g, h => by simp [chkU] at h
  | .augf _ _ _ _, X, s, g, h => by simp [chkU] at h
theorem sndUs {Φ : Fns} {G : List D} : ∀ (ms : MSs) {X : Cx} {ss : List Stmt}, GU T N sc X → chkUs T N sc ms ss = true → DSs X Φ G ss ms
  | .nil, X, ss, g, h => by
    unfold chkUs at h
    split at h
    · exact dss_nil
    · cases h
  | .cons m ms, X, ss, g, h => by
    unfold chkUs at h
    split at h
    · simp only [Bool.and_eq_true] at h
      exact dss_cons (sndU m g h.1) (sndUs ms g h.2)
    · cases h
end

theorem takes_no {X : Cx} : Takes X fun _ _ _ _ => False := fun u s' ⟨a, B, sI, pins, σ, H, cls, d, e, I, nb, up, sky, na, os, ag, w⟩ => w.elim

noncomputable def OutW (K : PySem.W.Frag) (Wx : WX) (W : Wd) (σ : St) (ρ : Env) (res : SR) (D : Ends) : Prop := match res with
  | .nx ρ' S' => ∀ W' σ', Step (ownA σ ρ) W W' → At K W' S' ρ' σ' W'.H → (∀ p, ownA σ' ρ' p → ownA σ ρ p ∨ W.H p = none) → D.nx σ' W'.H
  | .rt r S' => ∀ W' v, Step (ownA σ ρ) W W' → Rel K W' S' → RepO K (ownA σ ρ) W W' v r → D.rt v W'.H
  | .er => False
  | .xn x ρ' S' => ∀ cls d σ' H', RaisedAt K (ownA σ ρ) W x ρ' S' cls d σ' H' → Wx cls d σ' H'
theorem OutW.out {X : Cx} {Wx : WX} {W : Wd} {σ : St} {ρ : Env} {res : SR} {D : Ends} (tk : Takes X Wx) (h : OutW X.K Wx W σ ρ res D) : Out X W σ ρ res D := by
  cases res with
  | nx ρ' S' => exact h
  | rt r S' => exact h
  | er => exact h
  | xn x ρ' S' => exact tk.imp h
noncomputable def tSw (K : PySem.W.Frag) (Φ : Fns) (G : List D) (b : MSs) (Wx : WX) : TS := fun D σ H => ∃ W S ρ, At K W S ρ σ H ∧ OutW K Wx W σ ρ (exs Φ G b ρ S) D
theorem dssW {X : Cx} {Φ : Fns} {G : List D} {b : MSs} {ss : List Stmt} {Wx : WX} (tk : Takes X Wx) (h : DSs X Φ G ss b) : PSs X ss (tSw X.K Φ G b Wx) := PSs.imp h fun D σ H ⟨W, S, ρ, a, q⟩ => ⟨W, S, ρ, a, q.out tk⟩
theorem SlotR.clr {K : PySem.W.Frag} {W : Wd} {σ : St} {ρ : Env} (h : SlotR K W σ ρ) (i : Nat) : SlotR K W (σ.set i none) (ρ.set i .no) := by
  have back : ∀ {j : Nat} {x : Sl}, x ≠ .no → (ρ.set i .no)[j]? = some x → j ≠ i ∧ ρ[j]? = some x := fun {j x} hx e => by
    by_cases q : j = i
    · subst q
      by_cases hi : j < ρ.length
      · rw [List.getElem?_set_self hi] at e; cases e; exact absurd rfl hx
      · rw [List.getElem?_eq_none (by rw [List.length_set]; omega)] at e; cases e
    · rw [List.getElem?_set_ne (Ne.symm q)] at e; exact ⟨q, e⟩
  refine ⟨by rw [List.length_set, List.length_set]; exact h.1, fun j d e => ?_, fun j ds e => ?_, fun j k ds es p e1 e2 e3 e4 => ?_⟩
  · obtain ⟨q, e⟩ := back (by simp) e
    rw [List.getElem?_set_ne (Ne.symm q)]
    exact h.2.1 j d e
  · obtain ⟨q, e⟩ := back (by simp) e
    rw [List.getElem?_set_ne (Ne.symm q)]
    exact h.2.2.1 j ds e
  · obtain ⟨q1, f1⟩ := back (by simp) e1
    obtain ⟨q2, f2⟩ := back (by simp) e2
    rw [List.getElem?_set_ne (Ne.symm q1)] at e3
    rw [List.getElem?_set_ne (Ne.symm q2)] at e4
    exact h.2.2.2 j k ds es p f1 f2 e3 e4
theorem own_clr {σ : St} {ρ : Env} {i : Nat} {p : Addr} (h : ownA (σ.set i none) (ρ.set i .no) p) : ownA σ ρ p := by
  obtain ⟨j, ds, h1, h2⟩ := h
  by_cases q : j = i
  · subst q
    by_cases hi : j < ρ.length
    · rw [List.getElem?_set_self hi] at h1; cases h1
    · rw [List.getElem?_eq_none (by rw [List.length_set]; omega)] at h1; cases h1
  · rw [List.getElem?_set_ne (Ne.symm q)] at h1 h2
    exact ⟨j, ds, h1, h2⟩

structure GS (X : Cx) : Prop where
  stack : X.stack = X.env :: X.outer
  frame : X.env.frame = some X.env.locals
  ex : X.ex = []
theorem GS.tr {X : Cx} (g : GS X) {pn : List (Addr × Obj)} {xe : Value → Shared → Prop} : GS (X.tr pn xe) := ⟨g.stack, g.frame, g.ex⟩
theorem GX.tr {X : Cx} (g : GX T N sc fp Φ G k X) {pn : List (Addr × Obj)} {xe : Value → Shared → Prop} (h : PassesOwn (model X.prog X.w) X.A X.env xe) : GX T N sc fp Φ G k (X.tr pn xe) :=
  ⟨g.calm, g.hN, g.nd, g.hsc, g.knd, g.hfn, h, g.room, g.gds, g.bl, g.fns, g.gl, g.fld, g.mth, fun t h => ⟨(g.lam t h).qual, (g.lam t h).tab⟩, g.mkr, g.fnx, g.mtx, g.xcs, g.xrs⟩
theorem GX.suite {X : Cx} (g : GX T N sc (fun _ => true) Φ G k X) (a : Addr) (pn : List (Addr × Obj)) : GU T N sc (X.suite a pn) := ⟨g.hN, g.nd, g.hsc, g.knd, g.hfn, g.bl, g.xcs⟩

theorem ds_rsx {X : Cx} (g : GX T N sc fp Φ G k X) {c : Str} {f : Option Str} {es : MEs} {a : Expr} {l : List Expr} {p pos pos2 : Pos} (h2 : (c, f) ∈ T.xr) (h3 : isGl sc c = true) (h4 : okNm c = true) (h5 : (a :: l).length = argN f) (h6 : chkEs T N sc fp es (a :: l) = true) : DS X Φ G (.Raise (some (.Call (.Name c p) (a :: l) [] pos)) none pos2) (.rsx c f es) := by
  refine ⟨fun pins s σ H D I q => ?_⟩
  obtain ⟨W, S, ρ, at', o⟩ := q
  rw [ex] at o
  obtain ⟨C, hm, hE, hX, hf⟩ := g.xrs _ _ h2
  have gl : Gl X c := g.glob h3
  have A := sndA es g h6
  have st : notStar a = true ∧ (backTo pos (starEach l X.env)).any (·.1) = false := by
    cases es with
    | nil => simp [chkEs] at h6
    | cons m ms =>
      simp only [chkEs, Bool.and_eq_true] at h6
      exact ⟨h6.1.1, nostar_all h6.2⟩
  split at o
  · rename_i pr hev
    split at o
    · rename_i y hy
      have tk : Takes X (RaisedAt X.K (ownA σ ρ) W y ρ pr.2) := o
      cases f with
      | none =>
        have hf : XR1 X.K C := hf
        have hl : l = [] := by simpa [argN] using h5
        subst hl
        cases es with
        | nil => simp [chkEs] at h6
        | cons m ms =>
          simp only [chkEs, Bool.and_eq_true] at h6
          cases ms with
          | cons _ _ => simp [chkEs] at h6
          | nil =>
            rw [evs] at hev
            obtain ⟨⟨r, S1⟩, e1, hev⟩ := Mi.bind_some hev
            obtain ⟨d, hd, hev⟩ := Mi.bind_some hev
            rw [evs] at hev
            cases hev
            obtain rfl := exnOf_none hy
            refine (ps_raise g.calm tk (pmk_one hf hm gl (sndE m g h6.1.2).de (okNm_of h4).1 (star_of st.1))).run pins s σ H D I ?_
            exact ⟨W, S, ρ, at', r, S1, e1, fun W1 v f1 r1 p1 => ⟨W1, f1.step, at'.ext f1 r1, fun p z => .inl z, C, rfl, hE, hX, (fun n i z => nomatch z), rfl⟩⟩
      | some n =>
        have hf : XR2 X.prog X.w X.K X.mg X.base C n := hf
        obtain ⟨fI, fd, N', i1, i2, F, hb⟩ := hf.ini
        refine (ps_raise g.calm tk (pmk_two hf.T i1 i2 F (g.room.mono (by omega)) hb gl hm A (okNm_of h4).1 (star_of st.1) st.2)).run pins s σ H D I ?_
        refine ⟨W, S, ρ, at', pr.1, pr.2, hev, fun W1 vs f1 r1 p1 => ?_⟩
        obtain ⟨w, i, hds, rfl⟩ := exnOf_some hy
        rw [hds] at p1
        obtain ⟨v1, us, rfl, q1, p2⟩ := p1.cons_inv
        obtain ⟨v2, us2, rfl, q2, p3⟩ := p2.cons_inv
        obtain rfl := p3.nil_inv
        unfold Rep at q1 q2
        subst q1 q2
        refine ⟨w, .int i, rfl, fun d hd => ?_⟩
        have f2 : Ext W1 ⟨W1.ms, W1.fz, upd W1.H d (.xd [(n, .int i)])⟩ := Ext.laid hd
        have r2 : Rel X.K ⟨W1.ms, W1.fz, upd W1.H d (.xd [(n, .int i)])⟩ pr.2 := r1.laid hd
        exact ⟨⟨W1.ms, W1.fz, upd W1.H d (.xd [(n, .int i)])⟩, (f1.trans f2).step, at'.ext (f1.trans f2) r2, fun p z => .inl z, C, rfl, hE, hX, (fun n' i' z => by cases z; exact hf.nf), upd_same⟩
    · exact o.elim
  · exact o.elim

theorem ds_trx {X : Cx} (g : GX T N sc (fun _ => true) Φ G k X) (gs : GS X) {c n : Str} {i : Nat} {b u : MSs} {body suite : List Stmt} {b0 : Stmt} {np p1 p2 : Pos} (h2 : c ∈ T.xc) (h3 : isGl sc c = true) (h4 : okNm c = true) (h5 : N[i]? = some n) (h6 : isLoc sc n = true)
    (hb : ∀ (pn : List (Addr × Obj)) (xe : Value → Shared → Prop), PassesOwn (model X.prog X.w) X.A X.env xe → DSs (X.tr pn xe) Φ G body b) (hu : ∀ (a : Addr) (pn : List (Addr × Obj)), DSs (X.suite a pn) Φ G (b0 :: suite) u) :
    DS X Φ G (.Try body [.ExceptHandler (some (.Name c np)) (some n) (b0 :: suite) p1] [] [] p2) (.trx c i b u) := by
  refine ⟨fun pins s σ H D I q => ?_⟩
  obtain ⟨W, S, ρ, at', o⟩ := q
  rw [ex] at o
  obtain ⟨hc, Cc, hm, hns⟩ := g.xcs _ h2
  have gl : Gl X c := g.glob h3
  have run : ∀ (Wout : WX), Takes X Wout → tSw X.K Φ G b (wKeep X.K (.ref Cc) i (fun _ => tSw X.K Φ G u fun _ _ _ _ => False) Wout D) D σ H → _ := fun Wout tk q =>
    (ps_try_keep (i := i) (np := np) (pos := p2) (pos' := p1) (tb := tSw X.K Φ G b) (ts := fun _ => tSw X.K Φ G u fun _ _ _ _ => False) (Wout := Wout) gs.stack gs.frame gs.ex (by rw [g.hN]; exact g.nd) (by rw [g.hN]; exact h5) (by unfold PySem.Env.kindOf; rw [g.hsc]; exact loc_of h6) ⟨gl, (okNm_of h4).1, .inl hm⟩ tk
      (fun Wx pn xe tk hp => dssW tk (hb pn xe hp)) (fun a pn => dssW takes_no (hu a pn))).run pins s σ H D I q
  cases hr : exs Φ G b ρ S with
  | nx ρ' S' =>
    rw [hr] at o
    exact run _ takes_no ⟨W, S, ρ, at', by rw [hr]; exact o⟩
  | rt r S' =>
    rw [hr] at o
    exact run _ takes_no ⟨W, S, ρ, at', by rw [hr]; exact o⟩
  | er => rw [hr] at o; exact o.elim
  | xn x ρ1 S1 =>
    rw [hr] at o
    dsimp only at o
    split at o
    · rename_i hi
      split at o
      · rename_i hs
        refine run _ takes_no ⟨W, S, ρ, at', ?_⟩
        rw [hr]
        rintro cls d σ' H' ⟨W', st, a1, o1, C', rfl, hE, hX, hnf, hd⟩
        refine ⟨true, by rw [(hX.1 _ _ hc hns).2, hs], fun _ a ha => ?_, fun z => nomatch z⟩
        have hH : W'.H = H' := a1.1
        subst hH
        have n12 := a1.rel.pms ha
        have ea : Ext W' ⟨W'.ms, W'.fz, upd W'.H a (ErrO a (.ref C') d)⟩ := Ext.laid ha
        have ra : Rel X.K ⟨W'.ms, W'.fz, upd W'.H a (ErrO a (.ref C') d)⟩ S1 := a1.rel.laid ha
        have e2 : Ext W' ⟨W'.ms ++ [a], W'.fz, upd W'.H a (ErrO a (.ref C') d)⟩ := ea.add ha
        have r2 : Rel X.K ⟨W'.ms ++ [a], W'.fz, upd W'.H a (ErrO a (.ref C') d)⟩ (S1 ++ [.err x.1 x.2]) := ra.add (p := a) n12.1 n12.2 (c := .err x.1 x.2) ⟨C', d, ⟨hE, upd_same, by
          cases d with
          | none => exact hd
          | some dd => exact (upd_ne (ne_of_none hd ha)).trans hd⟩, hX, hnf⟩ fun _ _ => RepL.add _ _
        have px : Rep X.K ⟨W'.ms ++ [a], W'.fz, upd W'.H a (ErrO a (.ref C') d)⟩ (.ref S1.length) (.ref a) := by
          unfold Rep
          refine ⟨a, rfl, ?_⟩
          show (W'.ms ++ [a])[S1.length]? = _
          rw [List.getElem?_append_right (by rw [a1.rel.len]; omega), a1.rel.len, Nat.sub_self]; rfl
        have a2 : At X.K ⟨W'.ms ++ [a], W'.fz, upd W'.H a (ErrO a (.ref C') d)⟩ (S1 ++ [.err x.1 x.2]) (ρ1.set i (.val (.ref S1.length))) (σ'.set i (some (.ref a))) (upd W'.H a (ErrO a (.ref C') d)) := ⟨rfl, r2, (a1.ext e2 r2).sl.set hi px⟩
        refine ⟨_, _, _, a2, ?_⟩
        have oc : ∀ p, ownA (σ'.set i (some (.ref a))) (ρ1.set i (.val (.ref S1.length))) p → ownA σ ρ p ∨ W.H p = none := fun p z => o1 p (own_set hi z)
        have st2 : Step (ownA σ ρ) W ⟨W'.ms ++ [a], W'.fz, upd W'.H a (ErrO a (.ref C') d)⟩ := st.trans (O1 := ownA σ ρ) e2.step fun p z => .inl z
        cases hu2 : exs Φ G u (ρ1.set i (.val (.ref S1.length))) (S1 ++ [.err x.1 x.2]) with
        | nx ρ' S' =>
          rw [hu2] at o
          intro W3 σ3 st3 a3 o3
          refine o W3 (σ3.set i none) (st2.trans st3 oc) ⟨rfl, a3.rel, a3.sl.clr i⟩ fun p z => ?_
          rcases o3 p (own_clr z) with y | y
          · exact oc p y
          · exact .inr (st2.free y)
        | rt r S' =>
          rw [hu2] at o
          intro W3 v st3 r3 p3
          exact o W3 v (st2.trans st3 oc) r3 (p3.back st2 oc)
        | er => rw [hu2] at o; exact o.elim
        | xn _ _ _ => rw [hu2] at o; exact o.elim
      · rename_i hs
        refine run _ (show Takes X (RaisedAt X.K (ownA σ ρ) W x ρ1 S1) from o) ⟨W, S, ρ, at', ?_⟩
        rw [hr]
        rintro cls d σ' H' ⟨W', st, a1, o1, C', rfl, hE, hX, hnf, hd⟩
        have hs : subX x.1 c = false := by simpa using hs
        exact ⟨false, by rw [(hX.1 _ _ hc hns).2, hs], (fun z => nomatch z), fun _ => ⟨W', st, a1, o1, C', rfl, hE, hX, hnf, hd⟩⟩
    · exact o.elim
mutual
theorem sndS : ∀ (m : MS) {X : Cx} {s : Stmt}, GX T N sc (fun _ => true) Φ G k X → GS X → chkS T N sc (fun _ => true) m s = true → DS X Φ G s m
  | .asg t m, X, s, g, gs, h => by
    unfold chkS at h
    split at h
    · rename_i tg e p
      simp only [Bool.and_eq_true] at h
      obtain ⟨⟨⟨⟨⟨h1, h2⟩, h3⟩, h4⟩, h5⟩, h6⟩ := h
      by_cases hsw : swB sc tg e = true
      · rw [hsw, Bool.not_true, Bool.false_or] at h6
        split at h6
        · rename_i i own t' it c m'
          have h4' := h4
          unfold chkT at h4
          split at h4
          · simp only [Bool.and_eq_true, decide_eq_true_eq] at h4
            obtain ⟨tl, ps, im⟩ := setLc_ok (pos := p) g h4.1 hsw h3
            exact PS.imp ps fun D σ H h => im _ _ _ (tR_mono (asg_imp (fun _ _ => by rw [evX] <;> simp) h) fun v H q => gT_nm q)
          · cases h4
        · cases h6
      · have hsw : swB X.env.scope tg e = false := by rw [g.hsc]; exact Bool.not_eq_true _ ▸ hsw
        refine ds_asg (fun te gg he hg => ps_asg he hg (sw_false h2 (by rw [g.hsc]; exact g.knd) hsw) (by
          rw [Bool.or_eq_true] at h5
          rcases h5 with h5 | h5
          · exact sw_none h5
          · exact sw_none2 (by rw [g.hsc]; exact h5)) (by rw [aseach_of h1]; rfl)) (dex_of (sndE m g h3).de (sndX m g h3)) (sndT t g h4)
    · cases h
  | .own i m, X, s, g, gs, h => by
    unfold chkS at h
    split at h
    · rename_i x px e p
      simp only [Bool.and_eq_true, decide_eq_true_eq] at h
      obtain ⟨⟨⟨⟨h1, h2⟩, h3⟩, h4⟩, h5⟩ := h
      by_cases hsw : swB sc (.Name x px) e = true
      · rw [hsw, Bool.not_true, Bool.false_or] at h5
        split at h5
        · obtain ⟨tl, ps, im⟩ := setLc_ok (pos := p) g h3 hsw h2
          exact PS.imp ps fun D σ H h => im _ _ _ (own_imp (fun _ _ => by rw [evX] <;> simp) h)
        · cases h5
      · have hsw : swB X.env.scope (.Name x px) e = false := by rw [g.hsc]; exact Bool.not_eq_true _ ▸ hsw
        obtain ⟨l1, l2⟩ := loc_fn g h4
        exact ds_own (fun te he => ps_set (by rw [g.hN]; exact g.nd) (by rw [g.hN]; exact h3) l1 he (sw_false h1 (by rw [g.hsc]; exact g.knd) hsw) l2) (dex_of (sndE m g h2).de (sndX m g h2))
    · cases h
  | .par i j oj a b, X, s, g, gs, h => by
    unfold chkS at h
    split at h
    · rename_i x px y py kt pt e1 e2 k2 pt2 pos
      have hk : X.env.scope.kind = .function := by rw [g.hsc]; exact g.knd
      rw [Bool.or_eq_true] at h
      rcases h with h | h
      · simp only [Bool.and_eq_true, decide_eq_true_eq, Bool.not_eq_true'] at h
        obtain ⟨⟨⟨⟨⟨⟨⟨⟨⟨⟨⟨⟨h1, h2⟩, h3⟩, h4⟩, h5⟩, h6⟩, h7⟩, h8⟩, h9⟩, h10⟩, h11⟩, h12⟩, h13⟩ := h
        exact ds_par (fun ta ha => ps_par g.calm (by rw [g.hN]; exact g.nd) (by rw [g.hN]; exact h1) (by rw [g.hN]; exact h2) h3 (by rw [g.hsc]; exact loc_of h4) (by rw [g.hsc]; exact loc_of h5) ha
          (sw_some2 hk (by rw [g.hsc]; exact h4) (by rw [g.hsc]; exact h5) h6 h7 h8 h9 h10 h11) rfl) (star_of h8) (star_of h9) (sndE a g h12).de (sndE b g h13).de
      · rw [Bool.and_eq_true, Bool.and_eq_true, Bool.and_eq_true, Bool.and_eq_true, Bool.and_eq_true, Bool.and_eq_true, Bool.and_eq_true, Bool.and_eq_true, decide_eq_true_eq, decide_eq_true_eq] at h
        obtain ⟨⟨⟨⟨⟨⟨⟨⟨h1, h2⟩, h3⟩, h4⟩, h5⟩, h6⟩, h7⟩, h8⟩, h9⟩ := h
        obtain ⟨l1, l2⟩ := loc_fn g h3
        obtain ⟨l3, l4⟩ := loc_fn g h4
        exact ds_parT (fun ta ha => ps_asg (pe_tup ha) (pg_tup g.calm (pgs_cons (pg_name (by rw [g.hN]; exact g.nd) (by rw [g.hN]; exact h1) l1 l2) (pgs_cons (pg_name (by rw [g.hN]; exact g.nd) (by rw [g.hN]; exact h2) l3 l4) pgs_nil)))
          (sw_false (l := pos.line) (e := .Tuple [e1, e2] k2 pt2) (tg := .Tuple [.Name x px, .Name y py] kt pt) rfl hk rfl) (sw_none2 (by rw [g.hsc]; exact h7)) rfl) (star_of h5) (star_of h6) (sndE a g h8).de (sndE b g h9).de
    · cases h
  | .par3 i j l a b c, X, s, g, gs, h => by
    unfold chkS at h
    split at h
    · rename_i x px y py z pz kt pt e1 e2 e3 k2 pt2 pos
      simp only [Bool.and_eq_true, decide_eq_true_eq, Bool.not_eq_true'] at h
      obtain ⟨⟨⟨⟨⟨⟨⟨⟨⟨⟨⟨⟨⟨⟨⟨⟨⟨⟨⟨⟨⟨h1, h2⟩, h3⟩, h4⟩, h5⟩, h6⟩, h7⟩, h8⟩, h9⟩, h10⟩, h11⟩, h12⟩, h13⟩, h14⟩, h15⟩, h16⟩, h17⟩, h18⟩, h19⟩, h20⟩, h21⟩, h22⟩ := h
      have hk : X.env.scope.kind = .function := by rw [g.hsc]; exact g.knd
      exact ds_par3 (fun ta ha => ps_par3 g.calm (by rw [g.hN]; exact g.nd) (by rw [g.hN]; exact h1) (by rw [g.hN]; exact h2) (by rw [g.hN]; exact h3) h4 h5 h6 (by rw [g.hsc]; exact loc_of h7) (by rw [g.hsc]; exact loc_of h8) (by rw [g.hsc]; exact loc_of h9) ha
        (sw_some3 hk (by rw [g.hsc]; exact h7) (by rw [g.hsc]; exact h8) (by rw [g.hsc]; exact h9) h10 h11 h12 h13 h14 h15 h16 h17 h18 h19) rfl) (star_of h15) (star_of h16) (star_of h17) (sndE a g h20).de (sndE b g h21).de (sndE c g h22).de
    · cases h
  | .aug i o m, X, s, g, gs, h => by
    unfold chkS at h
    split at h
    · simp only [Bool.and_eq_true, decide_eq_true_eq] at h
      obtain ⟨⟨⟨⟨h1, rfl⟩, h3⟩, h4⟩, h5⟩ := h
      obtain ⟨l1, l2⟩ := loc_fn g h4
      have ho : o = .add ∨ o = .sub := by
        cases o <;> first | exact .inl rfl | exact .inr rfl | cases h1
      exact ds_aug ho (fun te ti he hi => ps_aug (by rw [g.hN]; exact g.nd) (by rw [g.hN]; exact h3) l1 he hi l2) (sndE m g h5).de
    · cases h
  | .app i m, X, s, g, gs, h => by
    unfold chkS at h
    split at h
    · rename_i x px nm ap e cp p
      simp only [Bool.and_eq_true, decide_eq_true_eq] at h
      obtain ⟨⟨⟨⟨⟨⟨rfl, h2⟩, h3⟩, h4⟩, h5⟩, h6⟩, h7⟩ := h
      refine ds_app (t := tC .non) (fun te he => pe_bm PySem.F.plainAttrs_list PySem.F.slot_list_append PySem.F.type_list_append mt_append (pe_var (by rw [g.hN]; exact h2) (by rw [g.hsc]; exact vis_of h3) (okNm_of h4).1 (okNm_of h4).2) (pa_cons he pa_nil (star_of h5)) rfl ?_ h6 (star_of h5) rfl) rfl (sndE m g h7).de
      rw [star_of h5]; rfl
    · cases h
  | .ext i m, X, s, g, gs, h => by
    unfold chkS at h
    split at h
    · rename_i x px nm ap e cp p
      simp only [Bool.and_eq_true, decide_eq_true_eq] at h
      obtain ⟨⟨⟨⟨⟨⟨rfl, h2⟩, h3⟩, h4⟩, h5⟩, h6⟩, h7⟩ := h
      refine ds_ext (fun te he => pe_bm PySem.F.plainAttrs_list PySem.F.slot_list_extend PySem.F.type_list_extend mt_extT (pe_var (by rw [g.hN]; exact h2) (by rw [g.hsc]; exact vis_of h3) (okNm_of h4).1 (okNm_of h4).2) (pa_cons he pa_nil (star_of h5)) rfl ?_ h6 (star_of h5) rfl) rfl (sndE m g h7).de
      rw [star_of h5]; rfl
    · cases h
  | .rev i, X, s, g, gs, h => by
    unfold chkS at h
    cases h
  | .sown i a m, X, s, g, gs, h => by
    unfold chkS at h
    split at h
    · rename_i x px ix p2 e p
      simp only [Bool.and_eq_true, decide_eq_true_eq, Bool.not_eq_true'] at h
      obtain ⟨⟨⟨⟨⟨⟨⟨h1, h9⟩, h8⟩, h2⟩, h3⟩, h4⟩, h5⟩, h6⟩ := h
      refine ds_sown (o := ix) (fun te ti he hi => ps_asg he (pg_sub (pe_var (by rw [g.hN]; exact h4) (by rw [g.hsc]; exact vis_of h5) (okNm_of h6).1 (okNm_of h6).2) hi set_list ?_) (sw_false (tg := .Subscript (.Name x px) ix p2) (l := p.line) (env := X.env) h1 (by rw [g.hsc]; exact g.knd) (by cases e <;> first | rfl | cases h9)) (sw_none (by rfl)) rfl) (sndE m g h2).de (sndE a g h3).de
      intro v
      cases ix <;> first | rfl | cases h8
    · cases h
  | .pops t i, X, s, g, gs, h => by
    unfold chkS at h
    cases h
  | .ite c a b, X, s, g, gs, h => by
    unfold chkS at h
    split at h
    · simp only [Bool.and_eq_true] at h
      exact ds_ite ((sndE c g h.1.1.1).dt h.1.1.2) (sndSs a g gs h.1.2) (sndSs b g gs h.2)
    · cases h
  | .forr t it b, X, s, g, gs, h => by
    unfold chkS at h
    split at h
    · simp only [Bool.and_eq_true] at h
      exact ds_for g.pas g.calm (fold_of h.1.1.2) (sndI it _ g h.1.1.1) (sndT t g h.1.2) (sndSs b g gs h.2)
    · cases h
  | .whl n c b, X, s, g, gs, h => by
    unfold chkS at h
    cases h
  | .ret m, X, s, g, gs, h => by
    unfold chkS at h
    split at h
    · exact ds_ret (dex_of (sndE m g h).de (sndX m g h))
    · cases h
  | .reto i, X, s, g, gs, h => by
    unfold chkS at h
    split at h
    · simp only [Bool.and_eq_true, decide_eq_true_eq] at h
      obtain ⟨⟨h2, h3⟩, h4⟩ := h
      exact ds_reto (by rw [g.hN]; exact h2) (by rw [g.hsc]; exact vis_of h3) (okNm_of h4).1 (okNm_of h4).2
    · cases h
  | .expr m, X, s, g, gs, h => by
    unfold chkS at h
    split at h
    · rename_i e p
      simp only [Bool.and_eq_true] at h
      refine ds_expr ?_ (dex_of (sndE m g h.2).de (sndX m g h.2))
      have := h.1
      cases e <;> first | rfl | cases this
    · cases h
  | .frz _, X, s, g, gs, h => by
    unfold chkS at h
    cases h
  | .setf c o f m, X, s, g, gs, h => by
    unfold chkS at h
    split at h
    · rename_i x nm p1 e p
      simp only [Bool.and_eq_true, decide_eq_true_eq, List.contains_iff_mem] at h
      obtain ⟨⟨⟨⟨rfl, h2⟩, h3⟩, h4⟩, h5⟩ := h
      obtain ⟨C, hC, hc, hn⟩ := g.fld _ _ h2
      exact ds_setf hC hc hn (fun ho he => ps_fld ho he (sw_false (tg := .Attribute x nm p1) (l := p.line) (env := X.env) h3 (by rw [g.hsc]; exact g.knd) (by cases e <;> rfl))) (sndE o g h4).de (sndE m g h5).de
    · cases h
  | .augs i a o m, X, s, g, gs, h => by
    unfold chkS at h
    cases h
  | .ins i a m, X, s, g, gs, h => by
    unfold chkS at h
    cases h
  | .popn i a, X, s, g, gs, h => by
    unfold chkS at h
    cases h
  | .sown2 i a b m1 m2, X, s, g, gs, h => by
    unfold chkS at h
    cases h
  | .rse, X, s, g, gs, h => by
    refine ⟨fun pins σ0 σ H D I h => ?_⟩
    obtain ⟨W, S, ρ, _, o⟩ := h
    exact (show False from o).elim
  | .augf c o f k', X, s, g, gs, h => by
    unfold chkS at h
    split at h
    · simp only [Bool.and_eq_true, decide_eq_true_eq, List.contains_iff_mem, beq_iff_eq] at h
      obtain ⟨⟨⟨⟨rfl, rfl⟩, rfl⟩, h2⟩, h4⟩ := h
      obtain ⟨C, hC, hc, hn⟩ := g.fld _ _ h2
      exact ds_augf hC hc hn (sndE o g h4).de
    · cases h
  | .rsx c f es, X, s, g, gs, h => by
    unfold chkS at h
    split at h
    · rename_i x p a l pos pos2
      simp only [Bool.and_eq_true, decide_eq_true_eq, List.contains_iff_mem] at h
      obtain ⟨⟨⟨⟨⟨rfl, h2⟩, h3⟩, h4⟩, h5⟩, h6⟩ := h
      exact ds_rsx g h2 h3 h4 h5 h6
    · cases h
  | .trx c i b u, X, s, g, gs, h => by
    unfold chkS at h
    split at h
    · rename_i body x np n b0 suite p1 p2
      simp only [Bool.and_eq_true, decide_eq_true_eq, List.contains_iff_mem] at h
      obtain ⟨⟨⟨⟨⟨⟨⟨rfl, h2⟩, h3⟩, h4⟩, h5⟩, h6⟩, h7⟩, h8⟩ := h
      exact ds_trx g gs h2 h3 h4 h5 h6 (fun pn xe hp => sndSs b (g.tr hp) gs.tr h7) (fun a pn => sndUs u (g.suite a pn) h8)
    · cases h
  | .forl t it b, X, s, g, gs, h => by
    unfold chkS at h
    cases h
theorem sndSs : ∀ (ms : MSs) {X : Cx} {ss : List Stmt}, GX T N sc (fun _ => true) Φ G k X → GS X → chkSs T N sc (fun _ => true) ms ss = true → DSs X Φ G ss ms
  | .nil, X, ss, g, gs, h => by
    unfold chkSs at h
    split at h
    · exact dss_nil
    · cases h
  | .cons m ms, X, ss, g, gs, h => by
    unfold chkSs at h
    split at h
    · exact dss_frz (sndSs ms g gs h)
    · split at h
      · simp only [Bool.and_eq_true] at h
        exact dss_cons (sndS m g gs h.1) (sndSs ms g gs h.2)
      · cases h
end
end

structure Def where
  f : Nat
  x : Str
  st : Stmt
  N : List Str
  ps : List Str
  fd : FD
  q : Str

noncomputable def Def.Bd (d : Def) (K : PySem.W.Frag) (fa : Addr) (fdt : FuncData) : Prop := Fun K d.x d.q d.st fa fdt ∧ Binds K fdt d.ps []
noncomputable def Def.At (d : Def) (K : PySem.W.Frag) (mg : Str → Option Value) (fa : Addr) (fdt : FuncData) : Prop := d.Bd K fa fdt ∧ mg d.x = some (.ref fa)
structure Def.Ok (d : Def) (T : Tab) (PP : Nat → Option FD) : Prop where
  sc : FnScope d.N d.ps (defScope d.st)
  chk : chkSs T d.N (defScope d.st) (fun _ => true) d.fd.body (defBody d.st) = true
  np : d.fd.np = d.ps.length
  nn : d.fd.nn = d.N.length
  pp : PP d.f = some d.fd
theorem slots_start {K : PySem.W.Frag} {W : Wd} {ds : List D} {vs : List V} {N : List Str} (h : RepL K W ds vs) : SlotR K W (L2.start N vs) (ds.map Sl.val ++ List.replicate (N.length - ds.length) .no) := by
  have no : ∀ (i : Nat) (xs : List D), (ds.map Sl.val ++ List.replicate (N.length - ds.length) .no)[i]? ≠ some (.own xs) := fun i xs e => by
    by_cases hi : i < (ds.map Sl.val).length
    · rw [List.getElem?_append_left hi, List.getElem?_map] at e
      cases hd : ds[i]? with
      | none => rw [hd] at e; cases e
      | some d => rw [hd] at e; cases e
    · rw [List.getElem?_append_right (by omega), List.getElem?_replicate] at e
      split at e <;> cases e
  unfold L2.start
  refine ⟨by simp [h.length], fun i d e => ?_, fun i xs e => absurd e (no i xs), fun i j xs ys p e1 => absurd e1 (no i xs)⟩
  by_cases hi : i < (ds.map Sl.val).length
  · rw [List.getElem?_append_left hi, List.getElem?_map] at e
    cases hd : ds[i]? with
    | none => rw [hd] at e; cases e
    | some d' =>
      rw [hd] at e; cases e
      obtain ⟨v, h1, h2⟩ := h.get hd
      refine ⟨v, ?_, h2⟩
      rw [List.getElem?_append_left (by rw [List.length_map, h.length]; simpa using hi), List.getElem?_map, h1]; rfl
  · rw [List.getElem?_append_right (by omega), List.getElem?_replicate] at e
    split at e <;> cases e

noncomputable def LamsOk (T : Tab) (K : PySem.W.Frag) (mg : Str → Option Value) (base : Heap) (d : Def) (fdt : FuncData) : Prop := ∀ t, (d.N, t) ∈ T.lam → (d.q ++ ".<locals>." : Str) ++ "<lambda>" = t.2.2 ∧ ∃ cd P, fdt.code = .ref cd ∧ LamX.TabB base mg cd P ∧ TabAt K t P
theorem lams_no {T : Tab} {K : PySem.W.Frag} {mg : Str → Option Value} {base : Heap} {d : Def} {fdt : FuncData} (h : (T.lam.all fun e => decide (e.1 ≠ d.N)) = true) : LamsOk T K mg base d fdt := fun t ht => by
  have := List.all_eq_true.mp h _ ht
  simp at this
structure FnZ (P : Program) (w : World) (K : PySem.W.Frag) (mg : Str → Option Value) (base : Heap) (k : Nat) (Φ : Fns) (f : Nat) (fa : Addr) (fdt : FuncData) (ps : List Str) : Prop where
  g : FnG P w K mg base k fa fdt ps (spF K Φ f)
  y : FnY P w K mg base k fa fdt ps (spR K Φ f)
theorem no_own {d : Def} {ds : List D} {vs : List V} (p : Addr) : ¬ ownA (L2.start d.N vs) (ds.map Sl.val ++ List.replicate (d.N.length - ds.length) .no) p := fun ⟨i, xs, h1, h2⟩ => by
  by_cases hi : i < (ds.map Sl.val).length
  · rw [List.getElem?_append_left hi, List.getElem?_map] at h1
    cases hd : ds[i]? with
    | none => rw [hd] at h1; cases h1
    | some d => rw [hd] at h1; cases h1
  · rw [List.getElem?_append_right (by omega), List.getElem?_replicate] at h1
    split at h1 <;> cases h1

structure XcOk (T : Tab) (P : Program) (w : World) (K : PySem.W.Frag) (mg : Str → Option Value) (base : Heap) : Prop where
  xcs : ∀ c, c ∈ T.xc → c ∈ errNames ∧ ∃ C, mg c = some (.ref C) ∧ PySem.W.nsIn K mainGlobals c = some (some (.ref C))
  xrs : ∀ c f, (c, f) ∈ T.xr → ∃ C, mg c = some (.ref C) ∧ ErrC K C ∧ XSub K c C ∧ XRk P w K mg base C f
theorem fnz_ok {P : Program} {w : World} {K : PySem.W.Frag} {mg : Str → Option Value} {base : Heap} {T : Tab} {PP : Nat → Option FD} {G : List D} (bl : ∀ x, x ∈ T.bn → mg x = none) (gl : ∀ (j : Nat) (x : Str), (j, x) ∈ T.gl → ∃ d u, G[j]? = some d ∧ mg x = some u ∧ GOk K w d u)
    (fns : ∀ f x, (f, x) ∈ T.fnm → ∃ (d : Def) (fa : Addr) (fdt : FuncData), d.f = f ∧ d.x = x ∧ d.Ok T PP ∧ d.At K mg fa fdt ∧ LamsOk T K mg base d fdt)
    (flds : ∀ c f, (c, f) ∈ T.fld → ∃ C, PySem.W.nsIn K mainGlobals c = some (some (.ref C)) ∧ Cls K C ∧ NoAttr K C f)
    (mths : ∀ f c m, (f, c, m) ∈ T.mth → ∃ (C : Addr) (d : Def) (fa : Addr) (fdt : FuncData), d.f = f ∧ PySem.W.nsIn K mainGlobals c = some (some (.ref C)) ∧ Cls K C ∧ Meth K C m fa ∧ d.Ok T PP ∧ d.Bd K fa fdt ∧ LamsOk T K mg base d fdt)
    (mks : ∀ f c, (f, c) ∈ T.mkr → ∃ (C : Addr) (d : Def) (fa : Addr) (fdt : FuncData), d.f = f ∧ PySem.W.nsIn K mainGlobals c = some (some (.ref C)) ∧ Mk K C fa ∧ d.Ok T PP ∧ d.Bd K fa fdt ∧ mg c = some (.ref C) ∧ LamsOk T K mg base d fdt)
    (xc : XcOk T P w K mg base) :
    ∀ (k : Nat) (d : Def) (fa : Addr) (fdt : FuncData), d.Ok T PP → d.Bd K fa fdt → LamsOk T K mg base d fdt → FnZ P w K mg base (2 * k + 1) (runF PP G k) d.f fa fdt d.ps
  | 0, d, fa, fdt, ok, at', _ => ⟨⟨fun vs H Q E h => (by
      obtain ⟨_, _, _, _, _, _, _, _, z, _⟩ := h
      cases (show (none : Option (Rt × Sto)) = some _ from z)), fun A outer s H args us vs Q E _ _ _ _ _ h => (by
      obtain ⟨_, _, _, _, _, _, _, _, z, _⟩ := h
      cases (show (none : Option (Rt × Sto)) = some _ from z))⟩, ⟨fun vs H Q E h => (by
      obtain ⟨_, _, _, _, _, _, _, _, z, _⟩ := h
      cases (show (none : Option (Exn × Sto)) = some _ from z)), fun A outer s H args us vs Q E _ _ _ _ _ h => (by
      obtain ⟨_, _, _, _, _, _, _, _, z, _⟩ := h
      cases (show (none : Option (Exn × Sto)) = some _ from z))⟩⟩
  | k + 1, d, fa, fdt, ok, at', lm => by
    have ih := fnz_ok (P := P) (w := w) (base := base) bl gl fns flds mths mks xc k
    have unf : ∀ ds S r S', (runF PP G (k + 1)).run d.f ds S = some (r, S') → ds.length = d.ps.length ∧ ((exs (runF PP G k) G d.fd.body (ds.map Sl.val ++ List.replicate (d.N.length - ds.length) .no) S = .rt r S') ∨ ∃ ρ', exs (runF PP G k) G d.fd.body (ds.map Sl.val ++ List.replicate (d.N.length - ds.length) .no) S = .nx ρ' S' ∧ r = .val .non) := fun ds S r S' h => by
      rw [runF] at h
      dsimp only at h
      rw [ok.pp] at h
      dsimp only at h
      split at h
      · rename_i hl
        rw [ok.nn] at h
        refine ⟨by rw [hl, ok.np], ?_⟩
        split at h
        · rename_i r1 S1 hr
          cases h; exact .inl hr
        · rename_i ρ1 S1 hr
          cases h; exact .inr ⟨ρ1, hr, rfl⟩
        · cases h
        · cases h
      · cases h
    have unx : ∀ ds S x S', (runF PP G (k + 1)).xrun d.f ds S = some (x, S') → ds.length = d.ps.length ∧ ∃ ρ', exs (runF PP G k) G d.fd.body (ds.map Sl.val ++ List.replicate (d.N.length - ds.length) .no) S = .xn x ρ' S' := fun ds S x S' h => by
      rw [runF] at h
      dsimp only at h
      rw [ok.pp] at h
      dsimp only at h
      split at h
      · rename_i hl
        rw [ok.nn] at h
        refine ⟨by rw [hl, ok.np], ?_⟩
        split at h
        · rename_i x1 ρ1 S1 hr
          cases h; exact ⟨ρ1, hr⟩
        · cases h
      · cases h
    have mk : ∀ {X : Cx}, X.prog = P → X.w = w → X.K = K → X.mg = mg → X.base = base → X.calm = true → X.N = d.N → X.env.scope = defScope d.st → X.fn = (fun _ => true) → PassesOwn (model X.prog X.w) X.A X.env X.xe → Room (2 * k + 2) X.A → X.A.guards = some [] → (∀ t, (d.N, t) ∈ T.lam → LamF X t) → GX T d.N (defScope d.st) (fun _ => true) (runF PP G k) G k X := fun e1 e2 e3 e4 e5 hc hN hsc hfn hp hr hA hlam => by
      subst e1 e2 e3 e4 e5
      refine ⟨hc, hN, ok.sc.nd, hsc, ok.sc.kind, hfn, hp, hr, hA, bl, fun f x hf => ?_, gl, flds, fun f c m hf => ?_, hlam, fun f c hf => ?_, fun f x hf => ?_, fun f c m hf => ?_, xc.xcs, xc.xrs⟩
      · obtain ⟨d', fa', fdt', e1, e2, ok', at'', lm'⟩ := fns f x hf
        subst e1 e2
        exact ⟨fa', fdt', d'.ps, (ih d' fa' fdt' ok' at''.1 lm').g, at''.2, at''.1.1.kp, at''.1.2⟩
      · obtain ⟨C, d', fa', fdt', e1, hC, hc, hm, ok', at'', lm'⟩ := mths f c m hf
        subst e1
        exact ⟨C, fa', fdt', d'.ps, hC, hc, hm, (ih d' fa' fdt' ok' at'' lm').g, at''.2⟩
      · obtain ⟨C, d', fa', fdt', e1, hC, M, ok', at'', hmg, lm'⟩ := mks f c hf
        subst e1
        exact ⟨C, fa', fdt', d'.ps, hC, M, (ih d' fa' fdt' ok' at'' lm').g, hmg, at''.2⟩
      · obtain ⟨d', fa', fdt', e1, e2, ok', at'', lm'⟩ := fns f x hf
        subst e1 e2
        exact ⟨fa', fdt', d'.ps, (ih d' fa' fdt' ok' at''.1 lm').y, at''.2, at''.1.1.kp, at''.1.2⟩
      · obtain ⟨C, d', fa', fdt', e1, hC, hc, hm, ok', at'', lm'⟩ := mths f c m hf
        subst e1
        exact ⟨C, fa', fdt', d'.ps, hC, hc, hm, (ih d' fa' fdt' ok' at'' lm').y, at''.2⟩
    refine ⟨?_, ?_⟩
    · show FnG P w K mg base (2 * k + 2 + 1) fa fdt d.ps _
      refine fnG_of at'.1 ok.sc (fun vs H Q E h => ?_) fun cdv A outer s H vs Q E hcdv hA hr h => ?_
      · obtain ⟨W, S, ds, _, _, l, r, S', z, _⟩ := h
        rw [l.length]; exact (unf ds S r S' z).1
      · obtain ⟨W, S, ds, eH, rel, l, r, S', z, q⟩ := h
        have g : GX T d.N (defScope d.st) (fun _ => true) (runF PP G k) G k (cxOf CX0 P w K mg base d.N d.q (defScope d.st) fa cdv A outer s H E).nox := mk rfl rfl rfl rfl rfl rfl rfl rfl rfl PassesOwn.never hr hA fun t ht => by
          obtain ⟨h1, cd, P', h2, h3, h4⟩ := lm t ht
          exact ⟨h1, cd, P', hcdv.symm.trans h2, h3, h4⟩
        refine ⟨_, sndSs d.fd.body g ⟨rfl, rfl, rfl⟩ ok.chk, W, S, _, ⟨eH, rel, slots_start l⟩, ?_⟩
        rcases (unf ds S r S' z).2 with hx | ⟨ρ', hx, rfl⟩
        · show Out _ W _ _ (exs (runF PP G k) G d.fd.body _ S) _
          rw [hx]
          intro W' v st rel' rp
          refine q W' v (st.ext no_own) rel' ?_
          cases r with
          | val d => exact rp
          | bor _ => exact rp.elim
          | ownd _ _ => exact rp.elim
          | own xs =>
            obtain ⟨p, us, f1, f2, f3, f4, f5, f6⟩ := rp
            exact ⟨p, us, f1, f2, f3, f4, f5.elim id fun y => (no_own p y).elim, f6⟩
        · show Out _ W _ _ (exs (runF PP G k) G d.fd.body _ S) _
          rw [hx]
          intro W' σ' st a' o'
          exact q W' .non (st.ext no_own) a'.rel non_repr
    · show FnY P w K mg base (2 * k + 2 + 1) fa fdt d.ps _
      refine fnY_of at'.1 ok.sc (fun vs H Q E h => ?_) fun cdv A outer s H vs Q E hcdv hA hr h => ?_
      · obtain ⟨W, S, ds, _, _, l, x, S', z, _⟩ := h
        rw [l.length]; exact (unx ds S x S' z).1
      · obtain ⟨W, S, ds, eH, rel, l, x, S', z, q⟩ := h
        have g : GX T d.N (defScope d.st) (fun _ => true) (runF PP G k) G k (cxOf (L2.CX P w) P w K mg base d.N d.q (defScope d.st) fa cdv A outer s H E) := mk rfl rfl rfl rfl rfl rfl rfl rfl rfl (passes_of rfl) hr hA fun t ht => by
          obtain ⟨h1, cd, P', h2, h3, h4⟩ := lm t ht
          exact ⟨h1, cd, P', hcdv.symm.trans h2, h3, h4⟩
        refine ⟨_, sndSs d.fd.body g ⟨rfl, rfl, rfl⟩ ok.chk, W, S, _, ⟨eH, rel, slots_start l⟩, ?_⟩
        obtain ⟨ρ', hx⟩ := (unx ds S x S' z).2
        show Out _ W _ _ (exs (runF PP G k) G d.fd.body _ S) _
        rw [hx]
        have tk : Takes (cxOf (L2.CX P w) P w K mg base d.N d.q (defScope d.st) fa cdv A outer s H E) fun cls d _ H => E cls d H := takes_of rfl rfl rfl rfl
        refine tk.imp fun cls dd σ' H' ⟨W', st, a', o', e⟩ => ?_
        have hH : W'.H = H' := a'.1
        subst hH
        exact q W' cls dd (st.ext no_own) a'.rel e
theorem fns_ok {P : Program} {w : World} {K : PySem.W.Frag} {mg : Str → Option Value} {base : Heap} {T : Tab} {PP : Nat → Option FD} {G : List D} (bl : ∀ x, x ∈ T.bn → mg x = none) (gl : ∀ (j : Nat) (x : Str), (j, x) ∈ T.gl → ∃ d u, G[j]? = some d ∧ mg x = some u ∧ GOk K w d u)
    (fns : ∀ f x, (f, x) ∈ T.fnm → ∃ (d : Def) (fa : Addr) (fdt : FuncData), d.f = f ∧ d.x = x ∧ d.Ok T PP ∧ d.At K mg fa fdt ∧ LamsOk T K mg base d fdt)
    (flds : ∀ c f, (c, f) ∈ T.fld → ∃ C, PySem.W.nsIn K mainGlobals c = some (some (.ref C)) ∧ Cls K C ∧ NoAttr K C f)
    (mths : ∀ f c m, (f, c, m) ∈ T.mth → ∃ (C : Addr) (d : Def) (fa : Addr) (fdt : FuncData), d.f = f ∧ PySem.W.nsIn K mainGlobals c = some (some (.ref C)) ∧ Cls K C ∧ Meth K C m fa ∧ d.Ok T PP ∧ d.Bd K fa fdt ∧ LamsOk T K mg base d fdt)
    (mks : ∀ f c, (f, c) ∈ T.mkr → ∃ (C : Addr) (d : Def) (fa : Addr) (fdt : FuncData), d.f = f ∧ PySem.W.nsIn K mainGlobals c = some (some (.ref C)) ∧ Mk K C fa ∧ d.Ok T PP ∧ d.Bd K fa fdt ∧ mg c = some (.ref C) ∧ LamsOk T K mg base d fdt)
    (xc : XcOk T P w K mg base) (k : Nat) (d : Def) (fa : Addr) (fdt : FuncData) (ok : d.Ok T PP) (at' : d.Bd K fa fdt) (lm : LamsOk T K mg base d fdt) : FnG P w K mg base (2 * k + 1) fa fdt d.ps (spF K (runF PP G k) d.f) := (fnz_ok bl gl fns flds mths mks xc k d fa fdt ok at' lm).g

noncomputable def spLaw (K : PySem.W.Frag) : Sp := fun vs H Q _ => ∃ (a : Addr) (ns : List Int), vs = [.ref a] ∧ ns.length ≤ 63 ∧ Only H ∧ SqL K H a (ns.map V.int) ∧ ∀ H', Q (.bl true) H'
theorem law_ok {K : PySem.W.Frag} {Φ : Fns} {f : Nat} (h : ∀ ns : List Int, ns.length ≤ 63 → ∃ S', Φ f [.scr (ns.map .int)] [] = some (.val (.bl true), S')) : ∀ vs H Q E, spLaw K vs H Q E → spF K Φ f vs H Q E := fun vs H Q E hs => by
  obtain ⟨a, ns, rfl, hl, hO, hS, q⟩ := hs
  obtain ⟨S', ev⟩ := h ns hl
  have fin : ∀ W : Wd, W.H = H → Rel K W [] → Rep K W (.scr (ns.map .int)) (.ref a) → spF K Φ f [.ref a] H Q E := fun W eH rel rp =>
    ⟨W, [], _, eH, rel, .cons rp .nil, _, S', ev, fun W' v e r p => by rw [repr_bl p]; exact q _⟩
  rcases hS with hR | hK
  · refine fin ⟨[], [a], H⟩ rfl ⟨rfl, .nil, fun l ds e => (by cases e), fun x _ => by simp, fun x hx => ?_⟩ ?_
    · have : x = a := by simpa using hx
      subst this
      show H x ≠ none
      rcases hR with z | ⟨o, z⟩ <;> (rw [z]; simp)
    · unfold Rep
      exact ⟨a, _, rfl, .inl ⟨List.mem_singleton.mpr rfl, hR⟩, RepL.ofInts ns⟩
  · refine fin ⟨[], [], H⟩ rfl ⟨rfl, .nil, fun l ds e => (by cases e), fun x _ => by simp, fun x hx => by simp at hx⟩ ?_
    unfold Rep
    exact ⟨a, _, rfl, .inr hK, RepL.ofInts ns⟩

end Mi
end
noncomputable section
namespace Mi
open PySem PySem.Spec L2
theorem errB_ok {K : PySem.W.Frag} {c : Str} {D : Addr} (h : errB K c D = true) : ErrC K D ∧ XSub K c D := by
  unfold errB at h
  simp only [Bool.and_eq_true, decide_eq_true_eq, List.all_eq_true] at h
  obtain ⟨⟨⟨⟨⟨⟨⟨⟨⟨⟨h1, h2⟩, h3⟩, h4⟩, h5⟩, h6⟩, h7⟩, h8⟩, h9⟩, h10⟩, h11⟩ := h
  refine ⟨⟨h1, h2, h3, h4, h5, h6, h7, h8, h9⟩, fun e C he hn => ?_, h11⟩
  have q := h10 e (show e ∈ hNames from he)
  rw [hn] at q
  have q : PySem.W.kitOne K (.ref D) (.ref C) = some (subX c e) ∧ PySem.W.exmOne K (.ref D) (.ref C) = some (subX c e) := by
    simp only [Bool.and_eq_true, decide_eq_true_eq] at q
    exact q
  exact q
theorem baseB_ok {K : PySem.W.Frag} {B : Addr} (h : baseB K B = true) (f : PySem.W.findCls K (.ref B) (.type "type") "__init__" = some (.val (.builtin "ValueError.__init__"))) : BaseI K B := by
  unfold baseB at h
  simp only [Bool.and_eq_true, decide_eq_true_eq] at h
  exact ⟨h.1.1, h.1.2, f, h.2⟩
theorem oexB_ok {K : PySem.W.Frag} {C : Addr} {n : Str} (h : oexB K C n = true) {nm q N bs bm sn sub ab col dd k0 k1 k2 k3 k5} (hl : K.lookup C = some (excClassObj nm q C N bs bm true sn sub ab col dd k0 k1 k2 k3 k5 "ValueError.__new__")) (hv : PySem.HandSPX.refsVE bm = true) : OexC K C ∧ PySem.W.findIn K (.ref C) n = some none := by
  unfold oexB at h
  simp only [Bool.and_eq_true, decide_eq_true_eq] at h
  exact ⟨⟨⟨nm, q, N, bs, bm, sn, sub, ab, col, dd, k0, k1, k2, k3, k5, hl, hv⟩, h.1.1.1.1, h.1.1.1.2, h.1.1.2, h.1.2⟩, h.2⟩
theorem xr2_mk {P : Program} {w : World} {K : PySem.W.Frag} {mg : Str → Option Value} {base : Heap} {x qual : Str} {st : Stmt} {fI C : Addr} {fd : FuncData} {N : List Str} {n : Str} (F : Fun K x qual st fI fd) (S : FnScope N N (defScope st)) (I : XInit K mg C n st N) (h1 : PySem.W.findIn K (.ref C) "__init__" = some (some (.ref fI))) (h2 : PySem.W.typeIn K (.ref fI) = some (.type "function")) (hb : Binds K fd N []) : XR2 P w K mg base C n :=
  ⟨I.T, I.nf, fI, fd, N, h1, h2, xinit_ok F S I, hb⟩
end Mi
end
noncomputable section
namespace Mi
open PySem L2

section
variable (Φ : Fns) (G : List D)
noncomputable def wE (ρ : Env) (m : ME) (S : Sto) (Q : Rt → Sto → Prop) : Prop := ∃ r S', evR Φ G ρ m S = some (r, S') ∧ Q r S'
noncomputable def wEs (ρ : Env) (m : MEs) (S : Sto) (Q : List D → Sto → Prop) : Prop := ∃ r S', evs Φ G ρ m S = some (r, S') ∧ Q r S'
noncomputable def wRs (ρ : Env) (m : MEs) (S : Sto) (Q : List Rt → Sto → Prop) : Prop := ∃ r S', evRs Φ G ρ m S = some (r, S') ∧ Q r S'
noncomputable def wO (ρ : Env) (m : MO) (S : Sto) (Q : Option Int → Sto → Prop) : Prop := ∃ r S', evO Φ G ρ m S = some (r, S') ∧ Q r S'
noncomputable def wC (ρ : Env) (m : MO) (S : Sto) (Q : Bool → Sto → Prop) : Prop := ∃ r S', evC Φ G ρ m S = some (r, S') ∧ Q r S'
noncomputable def wI (ρ : Env) (z : Bool) (m : MI) (S : Sto) (Q : List D → Sto → Prop) : Prop := ∃ r S', evI Φ G ρ z m S = some (r, S') ∧ Q r S'
noncomputable def wT (t : MT) (d : D) (ρ : Env) (S : Sto) (Q : Env → Sto → Prop) : Prop := ∃ r S', sto Φ G t d ρ S = some (r, S') ∧ Q r S'
noncomputable def wTs (t : MTs) (d : List D) (ρ : Env) (S : Sto) (Q : Env → Sto → Prop) : Prop := ∃ r S', stos Φ G t d ρ S = some (r, S') ∧ Q r S'
noncomputable def wF (f : Nat) (ds : List D) (S : Sto) (Q : Rt → Sto → Prop) : Prop := ∃ r S', Φ f ds S = some (r, S') ∧ Q r S'
noncomputable def wR (r : SR) (N : Env → Sto → Prop) (R : Rt → Sto → Prop) : Prop := match r with
  | .nx ρ S => N ρ S
  | .rt r S => R r S
  | .er => False
  | .xn _ _ _ => False
@[irreducible] noncomputable def wS (m : MS) (ρ : Env) (S : Sto) (N : Env → Sto → Prop) (R : Rt → Sto → Prop) : Prop := wR (ex Φ G m ρ S) N R
@[irreducible] noncomputable def wSs (m : MSs) (ρ : Env) (S : Sto) (N : Env → Sto → Prop) (R : Rt → Sto → Prop) : Prop := wR (exs Φ G m ρ S) N R

noncomputable def wTn (t : MT) (c : MO) (e : ME) (ρ : Env) (d : D) (S : Sto) (Q : Option D → Sto → Prop) : Prop := wT Φ G t d ρ S fun ρ1 S1 => wC Φ G ρ1 c S1 fun b S2 => if b = true then wE Φ G ρ1 e S2 (fun r S3 => ∃ y, r.d = some y ∧ Q (some y) S3) else Q none S2
noncomputable def wL (t : MT) (c : MO) (e : ME) (ρ : Env) (ds : List D) (S : Sto) (Q : List D → Sto → Prop) : Prop := ∃ xs S', cmpL (fun d S => (sto Φ G t d ρ S).bind fun q => (evC Φ G q.1 c q.2).bind fun r =>
        if r.1 then (evR Φ G q.1 e r.2).bind fun z => (z.1.d).map fun y => (some y, z.2) else some (none, r.2)) ds S = some (xs, S') ∧ Q xs S'

noncomputable def wFor (t : MT) (b : MSs) (ds : List D) (ρ : Env) (S : Sto) (N : Env → Sto → Prop) (R : Rt → Sto → Prop) : Prop := wR (forL (fun d ρ S => sto Φ G t d ρ S) (fun ρ S => exs Φ G b ρ S) ds ρ S) N R
end
section
variable {Φ : Fns} {G : List D} {ρ : Env} {S : Sto} {Q : Rt → Sto → Prop} {Qs : List D → Sto → Prop} {N : Env → Sto → Prop} {R : Rt → Sto → Prop}
theorem ex_bind {α β : Type} {o : Option (α × Sto)} {f : α × Sto → Option (β × Sto)} {Q : β → Sto → Prop} : (∃ r S', o.bind f = some (r, S') ∧ Q r S') ↔ ∃ x S1, o = some (x, S1) ∧ ∃ r S', f (x, S1) = some (r, S') ∧ Q r S' := by
  cases o with
  | none => simp
  | some p =>
    obtain ⟨x, S1⟩ := p
    constructor
    · rintro ⟨r, S', e, q⟩; exact ⟨x, S1, rfl, r, S', e, q⟩
    · rintro ⟨y, S2, e, h⟩; cases e; exact h
theorem ex_one {α : Type} {x : α} {S : Sto} {Q : α → Sto → Prop} : (∃ r S', some (x, S) = some (r, S') ∧ Q r S') ↔ Q x S := by
  constructor
  · rintro ⟨r, S', e, q⟩; cases e; exact q
  · intro q; exact ⟨x, S, rfl, q⟩
theorem wE_var {i : Nat} : wE Φ G ρ (.var i) S Q ↔ ∃ d, ρ[i]? = some (.val d) ∧ Q (.val d) S := by
  unfold wE evR
  constructor
  · rintro ⟨r, S', e, q⟩
    split at e
    · rename_i d h; cases e; exact ⟨d, h, q⟩
    · cases e
  · rintro ⟨d, h, q⟩
    rw [h]; exact ⟨_, _, rfl, q⟩
theorem wE_bor {i : Nat} : wE Φ G ρ (.bor i) S Q ↔ ∃ d, ρ[i]? = some (.own d) ∧ Q (.bor d) S := by
  unfold wE evR
  constructor
  · rintro ⟨r, S', e, q⟩
    split at e
    · rename_i d h; cases e; exact ⟨d, h, q⟩
    · cases e
  · rintro ⟨d, h, q⟩
    rw [h]; exact ⟨_, _, rfl, q⟩
theorem wE_con {d : D} : wE Φ G ρ (.con d) S Q ↔ Q (.val d) S := by
  unfold wE evR
  constructor
  · rintro ⟨r, S', e, q⟩; cases e; exact q
  · intro q; exact ⟨_, _, rfl, q⟩
theorem wE_glb {j : Nat} : wE Φ G ρ (.glb j) S Q ↔ ∃ d, G[j]? = some d ∧ d.dct? = none ∧ Q (.val d) S := by
  unfold wE
  rw [evR]
  constructor
  · rintro ⟨r, S', e, q⟩
    obtain ⟨d, h, e⟩ := Mi.bind_some e
    split at e
    · cases e
    · rename_i hd
      cases e
      exact ⟨d, h, by simpa using hd, q⟩
  · rintro ⟨d, h, hd, q⟩
    refine ⟨_, _, ?_, q⟩
    rw [h, Option.bind_some, hd]; rfl
theorem wE_bin {o : BOp} {a b : ME} : wE Φ G ρ (.bin o a b) S Q ↔ wE Φ G ρ a S fun x S1 => wE Φ G ρ b S1 fun y S2 => ∃ r, binop S2 o x y = some r ∧ Q r S2 := by
  unfold wE
  rw [evR]
  simp only [ex_bind]
  constructor
  · rintro ⟨x, S1, e1, y, S2, e2, r, S', e, q⟩
    obtain ⟨z, h, e⟩ := map_some e
    cases e; exact ⟨x, S1, e1, y, _, e2, _, h, q⟩
  · rintro ⟨x, S1, e1, y, S2, e2, r, h, q⟩
    exact ⟨x, S1, e1, y, S2, e2, r, S2, by rw [h]; rfl, q⟩
theorem wE_cmp {o : COp} {a b : ME} : wE Φ G ρ (.cmp o a b) S Q ↔ wE Φ G ρ a S fun x S1 => wE Φ G ρ b S1 fun y S2 => ∃ r, cmpop S2 o x y = some r ∧ Q (.val (.bl r)) S2 := by
  unfold wE
  rw [evR]
  simp only [ex_bind]
  constructor
  · rintro ⟨x, S1, e1, y, S2, e2, r, S', e, q⟩
    obtain ⟨z, h, e⟩ := map_some e
    cases e; exact ⟨x, S1, e1, y, _, e2, _, h, q⟩
  · rintro ⟨x, S1, e1, y, S2, e2, r, h, q⟩
    exact ⟨x, S1, e1, y, S2, e2, _, S2, by rw [h]; rfl, q⟩
theorem wE_idx {a b : ME} : wE Φ G ρ (.idx a b) S Q ↔ wE Φ G ρ a S fun x S1 => wE Φ G ρ b S1 fun y S2 => ∃ r, index S2 x y = some r ∧ Q (.val r) S2 := by
  unfold wE
  rw [evR]
  simp only [ex_bind]
  constructor
  · rintro ⟨x, S1, e1, y, S2, e2, r, S', e, q⟩
    obtain ⟨z, h, e⟩ := map_some e
    cases e; exact ⟨x, S1, e1, y, _, e2, _, h, q⟩
  · rintro ⟨x, S1, e1, y, S2, e2, r, h, q⟩
    exact ⟨x, S1, e1, y, S2, e2, _, S2, by rw [h]; rfl, q⟩
theorem wE_neg {a : ME} : wE Φ G ρ (.neg a) S Q ↔ wE Φ G ρ a S fun x S1 => ∃ i, x = .val (.int i) ∧ Q (.val (.int (-i))) S1 := by
  unfold wE
  rw [evR]
  simp only [ex_bind]
  constructor
  · rintro ⟨x, S1, e1, r, S', e, q⟩
    (try dsimp only at e)
    split at e
    · cases e; exact ⟨_, S1, e1, _, rfl, q⟩
    · cases e
  · rintro ⟨x, S1, e1, i, rfl, q⟩
    exact ⟨_, S1, e1, _, _, rfl, q⟩
theorem wE_not {a : ME} : wE Φ G ρ (.not a) S Q ↔ wE Φ G ρ a S fun x S1 => ∃ i, x = .val (.bl i) ∧ Q (.val (.bl (!i))) S1 := by
  unfold wE
  rw [evR]
  simp only [ex_bind]
  constructor
  · rintro ⟨x, S1, e1, r, S', e, q⟩
    (try dsimp only at e)
    split at e
    · cases e; exact ⟨_, S1, e1, _, rfl, q⟩
    · cases e
  · rintro ⟨x, S1, e1, i, rfl, q⟩
    exact ⟨_, S1, e1, _, _, rfl, q⟩
theorem wE_and {a b : ME} : wE Φ G ρ (.and a b) S Q ↔ wE Φ G ρ a S fun x S1 => ∃ i, x = .val (.bl i) ∧ if i = true then wE Φ G ρ b S1 Q else Q (.val (.bl false)) S1 := by
  unfold wE
  rw [evR]
  simp only [ex_bind]
  constructor
  · rintro ⟨x, S1, e1, r, S', e, q⟩
    (try dsimp only at e)
    split at e
    · exact ⟨_, S1, e1, true, rfl, by rw [if_pos rfl]; exact ⟨_, _, e, q⟩⟩
    · cases e; exact ⟨_, S1, e1, false, rfl, by rw [if_neg (by decide)]; exact q⟩
    · cases e
  · rintro ⟨x, S1, e1, i, rfl, q⟩
    cases i with
    | true => rw [if_pos rfl] at q; obtain ⟨r, S', e, q⟩ := q; exact ⟨_, S1, e1, r, S', e, q⟩
    | false => rw [if_neg (by decide)] at q; exact ⟨_, S1, e1, _, _, rfl, q⟩
theorem wE_or {a b : ME} : wE Φ G ρ (.or a b) S Q ↔ wE Φ G ρ a S fun x S1 => ∃ i, x = .val (.bl i) ∧ if i = true then Q (.val (.bl true)) S1 else wE Φ G ρ b S1 Q := by
  unfold wE
  rw [evR]
  simp only [ex_bind]
  constructor
  · rintro ⟨x, S1, e1, r, S', e, q⟩
    (try dsimp only at e)
    split at e
    · cases e; exact ⟨_, S1, e1, true, rfl, by rw [if_pos rfl]; exact q⟩
    · exact ⟨_, S1, e1, false, rfl, by rw [if_neg (by decide)]; exact ⟨_, _, e, q⟩⟩
    · cases e
  · rintro ⟨x, S1, e1, i, rfl, q⟩
    cases i with
    | false => rw [if_neg (by decide)] at q; obtain ⟨r, S', e, q⟩ := q; exact ⟨_, S1, e1, r, S', e, q⟩
    | true => rw [if_pos rfl] at q; exact ⟨_, S1, e1, _, _, rfl, q⟩
theorem wE_ite {c a b : ME} : wE Φ G ρ (.ite c a b) S Q ↔ wE Φ G ρ c S fun x S1 => ∃ i, x = .val (.bl i) ∧ if i = true then wE Φ G ρ a S1 Q else wE Φ G ρ b S1 Q := by
  unfold wE
  rw [evR]
  simp only [ex_bind]
  constructor
  · rintro ⟨x, S1, e1, r, S', e, q⟩
    (try dsimp only at e)
    split at e
    · exact ⟨_, S1, e1, true, rfl, by rw [if_pos rfl]; exact ⟨_, _, e, q⟩⟩
    · exact ⟨_, S1, e1, false, rfl, by rw [if_neg (by decide)]; exact ⟨_, _, e, q⟩⟩
    · cases e
  · rintro ⟨x, S1, e1, i, rfl, q⟩
    cases i with
    | false => rw [if_neg (by decide)] at q; obtain ⟨r, S', e, q⟩ := q; exact ⟨_, S1, e1, r, S', e, q⟩
    | true => rw [if_pos rfl] at q; obtain ⟨r, S', e, q⟩ := q; exact ⟨_, S1, e1, r, S', e, q⟩
theorem wE_chn {o o' : COp} {a b c : ME} : wE Φ G ρ (.chn o o' a b c) S Q ↔ wE Φ G ρ a S fun x S1 => wE Φ G ρ b S1 fun y S2 => ∃ i, cmpop S2 o x y = some i ∧ if i = true then wE Φ G ρ c S2 fun z S3 => ∃ r, cmpop S3 o' y z = some r ∧ Q (.val (.bl r)) S3 else Q (.val (.bl false)) S2 := by
  unfold wE
  rw [evR]
  simp only [ex_bind]
  constructor
  · rintro ⟨x, S1, e1, y, S2, e2, r, S', e, q⟩
    obtain ⟨i, hi, e⟩ := Mi.bind_some e
    refine ⟨x, S1, e1, y, S2, e2, i, hi, ?_⟩
    cases i with
    | false => cases e; rw [if_neg (by decide)]; exact q
    | true =>
      rw [if_pos rfl]
      obtain ⟨⟨z, S3⟩, e3, e⟩ := Mi.bind_some e
      obtain ⟨r', h, e⟩ := map_some e
      cases e
      exact ⟨z, _, e3, _, h, q⟩
  · rintro ⟨x, S1, e1, y, S2, e2, i, hi, q⟩
    refine ⟨x, S1, e1, y, S2, e2, ?_⟩
    (try dsimp only)
    rw [hi, Option.bind_some]
    cases i with
    | false => rw [if_neg (by decide)] at q; exact ⟨_, _, rfl, q⟩
    | true =>
      rw [if_pos rfl] at q
      obtain ⟨z, S3, e3, r, h, q⟩ := q
      (try dsimp only)
      rw [e3, Option.bind_some]
      exact ⟨_, _, by rw [h]; rfl, q⟩
theorem wE_tup {es : MEs} : wE Φ G ρ (.tup es) S Q ↔ wEs Φ G ρ es S fun ds S1 => ds.length ≤ sizeLine ∧ Q (.val (.tup ds)) S1 := by
  unfold wE wEs
  rw [evR]
  simp only [ex_bind]
  constructor
  · rintro ⟨x, S1, e1, r, S', e, q⟩
    (try dsimp only at e)
    split at e
    · cases e; exact ⟨_, S1, e1, by assumption, q⟩
    · cases e
  · rintro ⟨x, S1, e1, h, q⟩
    exact ⟨_, S1, e1, _, _, by (try dsimp only); rw [if_pos h], q⟩
theorem wE_lst {es : MEs} : wE Φ G ρ (.lst es) S Q ↔ wEs Φ G ρ es S fun ds S1 => ds.length ≤ sizeLine ∧ Q (.own ds) S1 := by
  unfold wE wEs
  rw [evR]
  simp only [ex_bind]
  constructor
  · rintro ⟨x, S1, e1, r, S', e, q⟩
    (try dsimp only at e)
    split at e
    · cases e; exact ⟨_, S1, e1, by assumption, q⟩
    · cases e
  · rintro ⟨x, S1, e1, h, q⟩
    exact ⟨_, S1, e1, _, _, by (try dsimp only); rw [if_pos h], q⟩
theorem wE_slc {a : ME} {lo hi : MO} : wE Φ G ρ (.slc a lo hi) S Q ↔ wE Φ G ρ a S fun x S1 => wO Φ G ρ lo S1 fun l S2 => wO Φ G ρ hi S2 fun h S3 => ∃ r, slice S3 x l h = some r ∧ Q r S3 := by
  unfold wE wO
  rw [evR]
  simp only [ex_bind]
  constructor
  · rintro ⟨x, S1, e1, y, S2, e2, z, S3, e3, r, S', e, q⟩
    obtain ⟨t, h, e⟩ := map_some e
    cases e; exact ⟨x, S1, e1, y, S2, e2, z, _, e3, _, h, q⟩
  · rintro ⟨x, S1, e1, y, S2, e2, z, S3, e3, r, h, q⟩
    exact ⟨x, S1, e1, y, S2, e2, z, S3, e3, _, S3, by rw [h]; rfl, q⟩
theorem wE_call {f : Nat} {es : MEs} : wE Φ G ρ (.call f es) S Q ↔ wEs Φ G ρ es S fun ds S1 => wF Φ f ds S1 Q := by
  unfold wE wEs wF
  rw [evR]
  simp only [ex_bind]
theorem wE_callp {f : Nat} {es : MEs} : wE Φ G ρ (.callp f es) S Q ↔ wRs Φ G ρ es S fun rs S1 => ∃ ds, lends rs = some ds ∧ noRefs ds = true ∧ wF Φ f ds [] fun r _ => ∃ d, r = .val d ∧ bareT d = true ∧ Q (.val d) S1 := by
  unfold wE wRs wF
  rw [evR]
  simp only [ex_bind]
  constructor
  · rintro ⟨x, S1, e1, r, S', e, q⟩
    obtain ⟨ds, hd, e⟩ := Mi.bind_some e
    (try dsimp only at e)
    split at e
    · rename_i hn
      obtain ⟨⟨z, S2⟩, e2, e⟩ := Mi.bind_some e
      obtain ⟨d, hz, e⟩ := Mi.bind_some e
      split at e
      · rename_i hf
        cases e
        refine ⟨x, _, e1, ds, hd, hn, z, S2, e2, d, ?_, hf, q⟩
        cases z with
        | val d' => cases hz; rfl
        | own _ => cases hz
        | bor _ => cases hz
        | ownd _ _ => cases hz
      · cases e
    · cases e
  · rintro ⟨x, S1, e1, ds, hd, hn, z, S2, e2, d, rfl, hf, q⟩
    refine ⟨x, S1, e1, _, S1, ?_, q⟩
    (try dsimp only)
    rw [hd, Option.bind_some, if_pos hn, e2]
    show (if bareT d = true then _ else _) = _
    rw [if_pos hf]
theorem lends_nil : lends [] = some [] := rfl
theorem lends_v {d : D} {rs : List Rt} : lends (.val d :: rs) = (lends rs).map fun ds => d :: ds := rfl
theorem lends_o {d : List D} {rs : List Rt} : lends (.own d :: rs) = (lends rs).map fun ds => .lst d :: ds := rfl
theorem lends_b {d : List D} {rs : List Rt} : lends (.bor d :: rs) = (lends rs).map fun ds => .lst d :: ds := rfl
theorem wE_bi {b : BI} {es : MEs} : wE Φ G ρ (.bi b es) S Q ↔ wRs Φ G ρ es S fun rs S1 => ∃ r, biop S1 b rs = some r ∧ Q r S1 := by
  unfold wE wRs
  rw [evR]
  simp only [ex_bind]
  constructor
  · rintro ⟨x, S1, e1, r, S', e, q⟩
    obtain ⟨t, h, e⟩ := map_some e
    cases e; exact ⟨x, _, e1, _, h, q⟩
  · rintro ⟨x, S1, e1, r, h, q⟩
    exact ⟨x, S1, e1, _, S1, by rw [h]; rfl, q⟩
theorem wE_comp {own : List Nat} {t : MT} {it : MI} {c : MO} {e : ME} : wE Φ G ρ (.comp own t it c e) S Q ↔ wI Φ G ρ true it S fun ds S1 => wL Φ G t c e (wipeR ρ own) ds S1 fun xs S2 => xs.length ≤ sizeLine ∧ Q (.own xs) S2 := by
  unfold wE wI wL
  rw [evR]
  simp only [ex_bind]
  constructor
  · rintro ⟨x, S1, e1, y, S2, e2, r, S', e, q⟩
    (try dsimp only at e)
    split at e
    · cases e; exact ⟨x, S1, e1, y, S2, e2, by assumption, q⟩
    · cases e
  · rintro ⟨x, S1, e1, y, S2, e2, h, q⟩
    exact ⟨x, S1, e1, y, S2, e2, _, _, by (try dsimp only); rw [if_pos h], q⟩
noncomputable def newC : Rt → Option Cell
  | .own ds => some (.lst ds)
  | .ownd ks ds => some (.dct ks ds)
  | _ => none
theorem newC_own {ds : List D} : newC (.own ds) = some (.lst ds) := rfl
theorem newC_ownd {ks : List Key} {ds : List D} : newC (.ownd ks ds) = some (.dct ks ds) := rfl
theorem wE_new {e : ME} : wE Φ G ρ (.new e) S Q ↔ wE Φ G ρ e S fun x S1 => ∃ c, newC x = some c ∧ Q (.val (.ref S1.length)) (S1 ++ [c]) := by
  unfold wE
  rw [evR]
  simp only [ex_bind]
  constructor
  · rintro ⟨x, S1, e1, r, S', e, q⟩
    (try dsimp only at e)
    split at e
    · cases e; exact ⟨_, S1, e1, _, rfl, q⟩
    · cases e; exact ⟨_, S1, e1, _, rfl, q⟩
    · cases e
  · rintro ⟨x, S1, e1, c, h, q⟩
    cases x with
    | own ds => cases h; exact ⟨_, S1, e1, _, _, rfl, q⟩
    | ownd ks ds => cases h; exact ⟨_, S1, e1, _, _, rfl, q⟩
    | val _ => cases h
    | bor _ => cases h
theorem wE_o1 {p : P1} {a : ME} : wE Φ G ρ (.o1 p a) S Q ↔ wE Φ G ρ a S fun x S1 => ∃ r S', p.run G S1 x = some (r, S') ∧ Q r S' := by
  unfold wE
  rw [evR, ex_bind]
theorem wE_o2 {p : P2} {a b : ME} : wE Φ G ρ (.o2 p a b) S Q ↔ wE Φ G ρ a S fun x S1 => p.pre S1 x = true ∧ wE Φ G ρ b S1 fun y S2 => ∃ r S', p.run G S2 x y = some (r, S') ∧ Q r S' := by
  unfold wE
  rw [evR, ex_bind]
  constructor
  · rintro ⟨x, S1, e1, r, S', e, q⟩
    refine ⟨x, S1, e1, ?_⟩
    dsimp only at e
    split at e
    · rename_i hp
      obtain ⟨⟨y, S2⟩, e2, e⟩ := Mi.bind_some e
      exact ⟨hp, y, S2, e2, r, S', e, q⟩
    · cases e
  · rintro ⟨x, S1, e1, hp, y, S2, e2, r, S', e, q⟩
    refine ⟨x, S1, e1, r, S', ?_, q⟩
    dsimp only
    rw [if_pos hp, e2]; exact e
theorem wE_o3 {p : P3} {a b c : ME} : wE Φ G ρ (.o3 p a b c) S Q ↔ wE Φ G ρ a S fun x S1 => wE Φ G ρ b S1 fun y S2 => wE Φ G ρ c S2 fun z S3 => ∃ r S', p.run S3 x y z = some (r, S') ∧ Q r S' := by
  unfold wE
  rw [evR, ex_bind]
  simp only [ex_bind]
theorem ex_pure {α β : Type} {o : Option α} {f : α → Option (β × Sto)} {Q : β → Sto → Prop} : (∃ r S', o.bind f = some (r, S') ∧ Q r S') ↔ ∃ x, o = some x ∧ ∃ r S', f x = some (r, S') ∧ Q r S' := by
  cases o with
  | none => exact ⟨fun ⟨_, _, e, _⟩ => (nomatch e), fun ⟨_, e, _⟩ => nomatch e⟩
  | some x => exact ⟨fun h => ⟨x, rfl, h⟩, fun ⟨y, e, h⟩ => by cases e; exact h⟩
theorem ex_mapP {α β : Type} {o : Option α} {f : α → β × Sto} {Q : β → Sto → Prop} : (∃ r S', o.map f = some (r, S') ∧ Q r S') ↔ ∃ x, o = some x ∧ Q (f x).1 (f x).2 := by
  cases o with
  | none => exact ⟨fun ⟨_, _, e, _⟩ => (nomatch e), fun ⟨_, e, _⟩ => nomatch e⟩
  | some x => exact ⟨fun ⟨r, S', e, q⟩ => ⟨x, rfl, by rw [Option.some.inj e]; exact q⟩, fun ⟨y, e, h⟩ => by cases e; exact ⟨_, _, rfl, h⟩⟩
theorem wE_dct {ks : List Key} {es : MEs} : wE Φ G ρ (.dct ks es) S Q ↔ wEs Φ G ρ es S fun ds S1 => (ds.length = ks.length ∧ ks.Nodup ∧ ks.length ≤ 15) ∧ Q (.ownd ks ds) S1 := by
  unfold wE wEs
  rw [evR, ex_bind]
  refine ⟨fun ⟨ds, S1, e, h⟩ => ⟨ds, S1, e, ?_⟩, fun ⟨ds, S1, e, h⟩ => ⟨ds, S1, e, ?_⟩⟩
  · dsimp only at h
    split at h
    · rename_i hc; exact ⟨hc, ex_one.mp h⟩
    · obtain ⟨_, _, e, _⟩ := h; cases e
  · dsimp only
    rw [if_pos h.1]
    exact ex_one.mpr h.2
theorem wE_dgt {d k : ME} : wE Φ G ρ (.dgt d k) S Q ↔ wE Φ G ρ d S fun x S1 => wE Φ G ρ k S1 fun y S2 => ∃ t, x.dct? S2 = some t ∧ ∃ q, y.key? = some q ∧ ∃ r, valD t.1 t.2 q = some r ∧ Q (.val r) S2 := by
  unfold wE
  rw [evR, ex_bind]
  simp only [ex_bind, ex_pure, ex_mapP]
theorem wE_din {n : Bool} {d k : ME} : wE Φ G ρ (.din n k d) S Q ↔ wE Φ G ρ k S fun x S1 => wE Φ G ρ d S1 fun y S2 => ∃ q, x.key? = some q ∧ ∃ t, y.dct? S2 = some t ∧ Q (.val (.bl (xor n (valD t.1 t.2 q).isSome))) S2 := by
  unfold wE
  rw [evR, ex_bind]
  simp only [ex_bind, ex_pure, ex_mapP]
theorem wEs_nil {Q : List D → Sto → Prop} : wEs Φ G ρ .nil S Q ↔ Q [] S := by
  unfold wEs; rw [evs]; exact ex_one
theorem wEs_cons {e : ME} {es : MEs} {Q : List D → Sto → Prop} : wEs Φ G ρ (.cons e es) S Q ↔ wE Φ G ρ e S fun r S1 => ∃ d, r.d = some d ∧ wEs Φ G ρ es S1 fun ds S2 => Q (d :: ds) S2 := by
  unfold wEs wE
  rw [evs]
  simp only [ex_bind]
  constructor
  · rintro ⟨x, S1, e1, r, S', e, q⟩
    obtain ⟨d, hd, e⟩ := Mi.bind_some e
    obtain ⟨⟨ds, S2⟩, e2, e⟩ := map_some e
    cases e
    exact ⟨x, S1, e1, d, hd, ds, _, e2, q⟩
  · rintro ⟨x, S1, e1, d, hd, ds, S2, e2, q⟩
    refine ⟨x, S1, e1, _, S2, ?_, q⟩
    (try dsimp only); rw [hd, Option.bind_some, e2]; rfl
theorem wRs_nil {Q : List Rt → Sto → Prop} : wRs Φ G ρ .nil S Q ↔ Q [] S := by
  unfold wRs; rw [evRs]; exact ex_one
theorem wRs_cons {e : ME} {es : MEs} {Q : List Rt → Sto → Prop} : wRs Φ G ρ (.cons e es) S Q ↔ wE Φ G ρ e S fun r S1 => wRs Φ G ρ es S1 fun ds S2 => Q (r :: ds) S2 := by
  unfold wRs wE
  rw [evRs]
  simp only [ex_bind]
  constructor
  · rintro ⟨x, S1, e1, r, S', e, q⟩
    obtain ⟨⟨ds, S2⟩, e2, e⟩ := map_some e
    cases e
    exact ⟨x, S1, e1, ds, _, e2, q⟩
  · rintro ⟨x, S1, e1, ds, S2, e2, q⟩
    exact ⟨x, S1, e1, _, S2, by (try dsimp only); rw [e2]; rfl, q⟩
theorem wO_no {Q : Option Int → Sto → Prop} : wO Φ G ρ .no S Q ↔ Q none S := by
  unfold wO; rw [evO]; exact ex_one
theorem wO_yes {e : ME} {Q : Option Int → Sto → Prop} : wO Φ G ρ (.yes e) S Q ↔ wE Φ G ρ e S fun x S1 => ∃ i, x = .val (.int i) ∧ Q (some i) S1 := by
  unfold wO wE
  rw [evO]
  simp only [ex_bind]
  constructor
  · rintro ⟨x, S1, e1, r, S', e, q⟩
    (try dsimp only at e)
    split at e
    · cases e; exact ⟨_, S1, e1, _, rfl, q⟩
    · cases e
  · rintro ⟨x, S1, e1, i, rfl, q⟩
    exact ⟨_, S1, e1, _, _, rfl, q⟩
theorem wC_no {Q : Bool → Sto → Prop} : wC Φ G ρ .no S Q ↔ Q true S := by
  unfold wC; rw [evC]; exact ex_one
theorem wC_yes {e : ME} {Q : Bool → Sto → Prop} : wC Φ G ρ (.yes e) S Q ↔ wE Φ G ρ e S fun x S1 => ∃ i, x = .val (.bl i) ∧ Q i S1 := by
  unfold wC wE
  rw [evC]
  simp only [ex_bind]
  constructor
  · rintro ⟨x, S1, e1, r, S', e, q⟩
    (try dsimp only at e)
    split at e
    · cases e; exact ⟨_, S1, e1, _, rfl, q⟩
    · cases e
  · rintro ⟨x, S1, e1, i, rfl, q⟩
    exact ⟨_, S1, e1, _, _, rfl, q⟩
theorem wI_rng1 {z : Bool} {a : ME} : wI Φ G ρ z (.rng1 a) S Qs ↔ wE Φ G ρ a S fun x S1 => ∃ j, x = .val (.int j) ∧ inRng j ∧ Qs (rngL 0 j.toNat) S1 := by
  unfold wI wE
  rw [evI]
  simp only [ex_bind]
  constructor
  · rintro ⟨x, S1, e1, r, S', e, q⟩
    obtain ⟨j, hj, e⟩ := Mi.bind_some e
    split at e
    · cases e; exact ⟨x, S1, e1, j, int?_some hj, by assumption, q⟩
    · cases e
  · rintro ⟨x, S1, e1, j, rfl, h, q⟩
    exact ⟨_, S1, e1, _, S1, by show (if inRng j then _ else _) = _; rw [if_pos h], q⟩
theorem wI_rng2 {z : Bool} {a b : ME} : wI Φ G ρ z (.rng2 a b) S Qs ↔ wE Φ G ρ a S fun x S1 => wE Φ G ρ b S1 fun y S2 => ∃ i j, x = .val (.int i) ∧ y = .val (.int j) ∧ (inRng i ∧ inRng j) ∧ Qs (rngL i (j - i).toNat) S2 := by
  unfold wI wE
  rw [evI]
  simp only [ex_bind]
  constructor
  · rintro ⟨x, S1, e1, y, S2, e2, r, S', e, q⟩
    obtain ⟨i, hi, e⟩ := Mi.bind_some e
    obtain ⟨j, hj, e⟩ := Mi.bind_some e
    split at e
    · cases e; exact ⟨x, S1, e1, y, S2, e2, i, j, int?_some hi, int?_some hj, by assumption, q⟩
    · cases e
  · rintro ⟨x, S1, e1, y, S2, e2, i, j, rfl, rfl, h, q⟩
    exact ⟨_, S1, e1, _, S2, e2, _, S2, by show (if inRng i ∧ inRng j then _ else _) = _; rw [if_pos h], q⟩
theorem wI_seq {z : Bool} {a : ME} : wI Φ G ρ z (.seq a) S Qs ↔ wE Φ G ρ a S fun x S1 => ∃ ds, still z x = some ds ∧ Qs ds S1 := by
  unfold wI wE
  rw [evI]
  simp only [ex_bind]
  constructor
  · rintro ⟨x, S1, e1, r, S', e, q⟩
    obtain ⟨j, hj, e⟩ := Mi.bind_some e
    cases e; exact ⟨x, _, e1, _, hj, q⟩
  · rintro ⟨x, S1, e1, j, h, q⟩
    exact ⟨_, S1, e1, _, S1, by (try dsimp only); rw [h]; rfl, q⟩
theorem wI_enm {z : Bool} {a : ME} : wI Φ G ρ z (.enm a) S Qs ↔ wE Φ G ρ a S fun x S1 => ∃ ds, still z x = some ds ∧ Qs (enmL 0 ds) S1 := by
  unfold wI wE
  rw [evI]
  simp only [ex_bind]
  constructor
  · rintro ⟨x, S1, e1, r, S', e, q⟩
    obtain ⟨j, hj, e⟩ := Mi.bind_some e
    cases e; exact ⟨x, _, e1, _, hj, q⟩
  · rintro ⟨x, S1, e1, j, h, q⟩
    exact ⟨_, S1, e1, _, S1, by (try dsimp only); rw [h]; rfl, q⟩
theorem wI_zip {z : Bool} {a b : ME} : wI Φ G ρ z (.zip a b) S Qs ↔ wE Φ G ρ a S fun x S1 => wE Φ G ρ b S1 fun y S2 => ∃ xs ys, still z x = some xs ∧ still z y = some ys ∧ Qs (zipL xs ys) S2 := by
  unfold wI wE
  rw [evI]
  simp only [ex_bind]
  constructor
  · rintro ⟨x, S1, e1, y, S2, e2, r, S', e, q⟩
    obtain ⟨i, hi, e⟩ := Mi.bind_some e
    obtain ⟨j, hj, e⟩ := Mi.bind_some e
    cases e; exact ⟨x, S1, e1, y, _, e2, i, j, hi, hj, q⟩
  · rintro ⟨x, S1, e1, y, S2, e2, i, j, h1, h2, q⟩
    exact ⟨_, S1, e1, _, S2, e2, _, S2, by (try dsimp only); rw [h1, h2]; rfl, q⟩
theorem wT_nm {i : Nat} {d : D} {Q : Env → Sto → Prop} : wT Φ G (.nm i) d ρ S Q ↔ i < ρ.length ∧ Q (ρ.set i (.val d)) S := by
  unfold wT
  rw [sto]
  constructor
  · rintro ⟨r, S', e, q⟩
    split at e
    · cases e; exact ⟨by assumption, q⟩
    · cases e
  · rintro ⟨h, q⟩
    exact ⟨_, _, by rw [if_pos h], q⟩
theorem wT_sub {o i : ME} {d : D} {Q : Env → Sto → Prop} : wT Φ G (.sub o i) d ρ S Q ↔ wE Φ G ρ o S fun x S1 => wE Φ G ρ i S1 fun y S2 => ∃ l, x = .val (.ref l) ∧ ∃ S3, setAt S2 l y d = some S3 ∧ Q ρ S3 := by
  unfold wT wE
  rw [sto]
  simp only [ex_bind]
  constructor
  · rintro ⟨x, S1, e1, y, S2, e2, r, S', e, q⟩
    obtain ⟨l, hl, e⟩ := Mi.bind_some e
    obtain ⟨S3, h, e⟩ := map_some e
    cases e
    exact ⟨x, S1, e1, y, S2, e2, l, ref?_some hl, _, h, q⟩
  · rintro ⟨x, S1, e1, y, S2, e2, l, rfl, S3, h, q⟩
    exact ⟨_, S1, e1, _, S2, e2, _, S3, by show (setAt S2 l y d).map _ = _; rw [h]; rfl, q⟩
theorem wT_tp {ts : MTs} {ds : List D} {Q : Env → Sto → Prop} : wT Φ G (.tp ts) (.tup ds) ρ S Q ↔ wTs Φ G ts ds ρ S Q := Iff.rfl
theorem wTs_nil {Q : Env → Sto → Prop} : wTs Φ G .nil [] ρ S Q ↔ Q ρ S := by
  constructor
  · rintro ⟨r, S', e, q⟩
    have e : some (ρ, S) = some (r, S') := e
    cases e; exact q
  · intro q; exact ⟨ρ, S, rfl, q⟩
theorem wTs_cons {t : MT} {ts : MTs} {d : D} {ds : List D} {Q : Env → Sto → Prop} : wTs Φ G (.cons t ts) (d :: ds) ρ S Q ↔ wT Φ G t d ρ S fun ρ1 S1 => wTs Φ G ts ds ρ1 S1 Q := by
  show (∃ r S', ((sto Φ G t d ρ S).bind fun p => stos Φ G ts ds p.1 p.2) = some (r, S') ∧ Q r S') ↔ _
  unfold wT wTs
  constructor
  · rintro ⟨r, S', e, q⟩
    obtain ⟨⟨ρ1, S1⟩, e1, e⟩ := Mi.bind_some e
    exact ⟨ρ1, S1, e1, r, S', e, q⟩
  · rintro ⟨ρ1, S1, e1, r, S', e, q⟩
    exact ⟨r, S', by rw [e1]; exact e, q⟩

theorem wR_then {r : SR} {k : Env → Sto → SR} : wR (r.then k) N R ↔ wR r (fun ρ S => wR (k ρ S) N R) R := by
  cases r <;> rfl
theorem wSs_nil : wSs Φ G .nil ρ S N R ↔ N ρ S := by unfold wSs; rw [exs]; rfl
theorem wSs_cons {s : MS} {r : MSs} : wSs Φ G (.cons s r) ρ S N R ↔ wS Φ G s ρ S (fun ρ S => wSs Φ G r ρ S N R) R := by
  unfold wSs wS; rw [exs]; exact wR_then
theorem wR_bindE {r : Option (Rt × Sto)} {k : Rt → Sto → SR} : wR (bindE r k) N R ↔ ∃ x S', r = some (x, S') ∧ wR (k x S') N R := by
  cases r with
  | none => simp [bindE, wR]
  | some p =>
    obtain ⟨x, S1⟩ := p
    exact (ex_one (Q := fun x S' => wR (k x S') N R)).symm
theorem wR_bindD {r : Option (Rt × Sto)} {k : D → Sto → SR} : wR (bindD r k) N R ↔ ∃ x S', r = some (x, S') ∧ ∃ d, x.d = some d ∧ wR (k d S') N R := by
  cases r with
  | none => simp [bindD, wR]
  | some p =>
    obtain ⟨x, S1⟩ := p
    unfold bindD
    (try dsimp only)
    cases hd : x.d with
    | none =>
      constructor
      · intro h; exact h.elim
      · rintro ⟨y, S', e, d, e2, _⟩
        cases e; rw [hd] at e2; cases e2
    | some d =>
      constructor
      · intro h; exact ⟨x, S1, rfl, d, hd, h⟩
      · rintro ⟨y, S', e, d', e2, h⟩
        cases e; rw [hd] at e2; cases e2; exact h
theorem wR_xnO {x : Option (Exn × Sto)} {ρ : Env} : ¬ wR (xnO x ρ) N R := fun h => by cases x <;> exact h
theorem wR_bindEX {xo : Option (Exn × Sto)} {ρ0 : Env} {r : Option (Rt × Sto)} {k : Rt → Sto → SR} : wR (bindEX xo ρ0 r k) N R ↔ ∃ x S', r = some (x, S') ∧ wR (k x S') N R := by
  cases r with
  | none => exact ⟨fun h => (wR_xnO h).elim, fun ⟨_, _, e, _⟩ => nomatch e⟩
  | some p =>
    obtain ⟨x, S1⟩ := p
    exact (ex_one (Q := fun x S' => wR (k x S') N R)).symm
theorem wR_bindDX {xo : Option (Exn × Sto)} {ρ0 : Env} {r : Option (Rt × Sto)} {k : D → Sto → SR} : wR (bindDX xo ρ0 r k) N R ↔ ∃ x S', r = some (x, S') ∧ ∃ d, x.d = some d ∧ wR (k d S') N R := by
  cases r with
  | none => exact ⟨fun h => (wR_xnO h).elim, fun ⟨_, _, e, _⟩ => nomatch e⟩
  | some p => exact wR_bindD (r := some p)
theorem wS_asg {t : MT} {e : ME} : wS Φ G (.asg t e) ρ S N R ↔ wE Φ G ρ e S fun x S1 => ∃ d, x.d = some d ∧ wT Φ G t d ρ S1 N := by
  unfold wS wE wT
  rw [ex, wR_bindDX]
  constructor
  · rintro ⟨x, S1, e1, d, hd, h⟩
    refine ⟨x, S1, e1, d, hd, ?_⟩
    cases hs : sto Φ G t d ρ S1 with
    | none => rw [hs] at h; exact h.elim
    | some p => rw [hs] at h; exact ⟨p.1, p.2, rfl, h⟩
  · rintro ⟨x, S1, e1, d, hd, r, S', hs, h⟩
    refine ⟨x, S1, e1, d, hd, ?_⟩
    rw [hs]; exact h
theorem wS_own {i : Nat} {e : ME} : wS Φ G (.own i e) ρ S N R ↔ wE Φ G ρ e S fun x S1 => ∃ ds, x = .own ds ∧ i < ρ.length ∧ N (ρ.set i (.own ds)) S1 := by
  unfold wS wE
  rw [ex, wR_bindEX]
  constructor
  · rintro ⟨x, S1, e1, h⟩
    refine ⟨x, S1, e1, ?_⟩
    cases x with
    | own ds =>
      (try dsimp only at h)
      split at h
      · exact ⟨ds, rfl, by assumption, h⟩
      · exact h.elim
    | _ => exact h.elim
  · rintro ⟨x, S1, e1, ds, rfl, hi, h⟩
    exact ⟨_, S1, e1, by (try dsimp only); rw [if_pos hi]; exact h⟩
theorem wS_aug {i : Nat} {e : ME} : wS Φ G (.aug i .add e) ρ S N R ↔ ∃ k, ρ[i]? = some (.val (.int k)) ∧ wE Φ G ρ e S fun x S1 => ∃ j, x = .val (.int j) ∧ N (ρ.set i (.val (.int (k + j)))) S1 := by
  unfold wS wE
  rw [ex]
  constructor
  · intro h
    split at h
    · rename_i k hk
      rw [wR_bindD] at h
      obtain ⟨x, S1, e1, d, hd, h⟩ := h
      refine ⟨k, hk, x, S1, e1, ?_⟩
      cases d with
      | int j =>
        cases x with
        | val d' => cases hd; exact ⟨j, rfl, h⟩
        | own _ => cases hd
        | bor _ => cases hd
        | ownd _ _ => cases hd
      | _ => exact h.elim
    · exact h.elim
  · rintro ⟨k, hk, x, S1, e1, j, rfl, h⟩
    rw [hk]
    (try dsimp only)
    rw [wR_bindD]
    exact ⟨_, S1, e1, _, rfl, h⟩
theorem wS_app {i : Nat} {e : ME} : wS Φ G (.app i e) ρ S N R ↔ ∃ ds, ρ[i]? = some (.own ds) ∧ wE Φ G ρ e S fun x S1 => ∃ d, x.d = some d ∧ ds.length < sizeLine ∧ N (ρ.set i (.own (ds ++ [d]))) S1 := by
  unfold wS wE
  rw [ex]
  constructor
  · intro h
    split at h
    · rename_i k hk
      rw [wR_bindD] at h
      obtain ⟨x, S1, e1, d, hd, h⟩ := h
      refine ⟨k, hk, x, S1, e1, d, hd, ?_⟩
      split at h
      · exact ⟨by assumption, h⟩
      · exact h.elim
    · exact h.elim
  · rintro ⟨k, hk, x, S1, e1, d, hd, hz, h⟩
    rw [hk]
    (try dsimp only)
    rw [wR_bindD]
    exact ⟨_, S1, e1, _, hd, by rw [if_pos hz]; exact h⟩
theorem exV_o {ds : List D} : (Rt.own ds).exV = some ds := rfl
theorem exV_t {ds : List D} : (Rt.val (.tup ds)).exV = some ds := rfl
theorem wS_ext {i : Nat} {e : ME} : wS Φ G (.ext i e) ρ S N R ↔ ∃ ds, ρ[i]? = some (.own ds) ∧ wE Φ G ρ e S fun x S1 => ∃ ys, x.exV = some ys ∧ ds.length + ys.length ≤ sizeLine ∧ N (ρ.set i (.own (ds ++ ys))) S1 := by
  unfold wS wE
  rw [ex]
  constructor
  · intro h
    split at h
    · rename_i k hk
      rw [wR_bindE] at h
      obtain ⟨x, S1, e1, h⟩ := h
      refine ⟨k, hk, x, S1, e1, ?_⟩
      cases hx : x.exV with
      | some ys =>
        rw [hx] at h
        (try dsimp only at h)
        split at h
        · exact ⟨ys, hx, by assumption, h⟩
        · exact h.elim
      | none => rw [hx] at h; exact h.elim
    · exact h.elim
  · rintro ⟨k, hk, x, S1, e1, ys, hx, hz, h⟩
    rw [hk]
    (try dsimp only)
    rw [wR_bindE]
    exact ⟨_, S1, e1, by rw [hx]; (try dsimp only); rw [if_pos hz]; exact h⟩
theorem wS_rev {i : Nat} : wS Φ G (.rev i) ρ S N R ↔ ∃ ds, ρ[i]? = some (.own ds) ∧ N (ρ.set i (.own ds.reverse)) S := by
  unfold wS
  rw [ex]
  constructor
  · intro h
    split at h
    · exact ⟨_, by assumption, h⟩
    · exact h.elim
  · rintro ⟨k, hk, h⟩
    rw [hk]; exact h
theorem wS_sown {i : Nat} {a e : ME} : wS Φ G (.sown i a e) ρ S N R ↔ wE Φ G ρ e S fun x S1 => ∃ d, x.d = some d ∧ ∃ ds, ρ[i]? = some (.own ds) ∧ wE Φ G ρ a S1 fun y S2 => ∃ k j, y = .val (.int k) ∧ ixN ds.length k = some j ∧ N (ρ.set i (.own (ds.set j d))) S2 := by
  unfold wS wE
  rw [ex, wR_bindD]
  constructor
  · rintro ⟨x, S1, e1, d, hd, h⟩
    refine ⟨x, S1, e1, d, hd, ?_⟩
    split at h
    · rename_i ds hk
      rw [wR_bindE] at h
      obtain ⟨y, S2, e2, h⟩ := h
      refine ⟨ds, hk, y, S2, e2, ?_⟩
      (try dsimp only at h)
      split at h
      · split at h
        · exact ⟨_, _, rfl, by assumption, h⟩
        · exact h.elim
      · exact h.elim
    · exact h.elim
  · rintro ⟨x, S1, e1, d, hd, ds, hk, y, S2, e2, k, j, rfl, hj, h⟩
    refine ⟨x, S1, e1, d, hd, ?_⟩
    rw [hk]
    (try dsimp only)
    rw [wR_bindE]
    refine ⟨_, S2, e2, ?_⟩
    (try dsimp only)
    rw [hj]; exact h
theorem wS_pops {i : Nat} {t : MT} : wS Φ G (.pops t i) ρ S N R ↔ ∃ ds d, ρ[i]? = some (.own ds) ∧ ds.getLast? = some d ∧ wT Φ G t d (ρ.set i (.own ds.dropLast)) S N := by
  unfold wS wT
  rw [ex]
  constructor
  · intro h
    split at h
    · rename_i ds hk
      split at h
      · rename_i d hd
        refine ⟨ds, d, hk, hd, ?_⟩
        cases hs : sto Φ G t d (ρ.set i (.own ds.dropLast)) S with
        | none => rw [hs] at h; exact h.elim
        | some p => rw [hs] at h; exact ⟨p.1, p.2, rfl, h⟩
      · exact h.elim
    · exact h.elim
  · rintro ⟨ds, d, hk, hd, r, S', hs, h⟩
    rw [hk]
    (try dsimp only)
    rw [hd]
    (try dsimp only)
    rw [hs]; exact h
theorem wS_ite {c : ME} {a b : MSs} : wS Φ G (.ite c a b) ρ S N R ↔ wE Φ G ρ c S fun x S1 => ∃ i, x = .val (.bl i) ∧ if i = true then wSs Φ G a ρ S1 N R else wSs Φ G b ρ S1 N R := by
  unfold wS wE wSs
  rw [ex, wR_bindE]
  constructor
  · rintro ⟨x, S1, e1, h⟩
    refine ⟨x, S1, e1, ?_⟩
    (try dsimp only at h)
    split at h
    · exact ⟨true, rfl, by rw [if_pos rfl]; exact h⟩
    · exact ⟨false, rfl, by rw [if_neg (by decide)]; exact h⟩
    · exact h.elim
  · rintro ⟨x, S1, e1, i, rfl, h⟩
    refine ⟨_, S1, e1, ?_⟩
    cases i with
    | true => rw [if_pos rfl] at h; exact h
    | false => rw [if_neg (by decide)] at h; exact h
theorem wS_for {t : MT} {it : MI} {b : MSs} : wS Φ G (.forr t it b) ρ S N R ↔ wI Φ G ρ false it S fun ds S1 => wFor Φ G t b ds ρ S1 N R := by
  unfold wS wI wFor
  rw [ex]
  cases h : evI Φ G ρ false it S with
  | none => simp [wR]
  | some p =>
    obtain ⟨ds, S1⟩ := p
    exact (ex_one (Q := fun ds S1 => wR (forL (fun d ρ S => sto Φ G t d ρ S) (fun ρ S => exs Φ G b ρ S) ds ρ S1) N R)).symm
noncomputable def retOk : Rt → Bool
  | .val _ => true
  | .own _ => true
  | _ => false
theorem retOk_v {d : D} : retOk (.val d) = true := rfl
theorem retOk_o {d : List D} : retOk (.own d) = true := rfl
theorem wS_ret {e : ME} : wS Φ G (.ret e) ρ S N R ↔ wE Φ G ρ e S fun x S1 => retOk x = true ∧ R x S1 := by
  unfold wS wE
  rw [ex, wR_bindEX]
  constructor
  · rintro ⟨x, S1, e1, h⟩
    refine ⟨x, S1, e1, ?_⟩
    cases x with
    | bor _ => exact h.elim
    | ownd _ _ => exact h.elim
    | val _ => exact ⟨rfl, h⟩
    | own _ => exact ⟨rfl, h⟩
  · rintro ⟨x, S1, e1, hb, h⟩
    refine ⟨x, S1, e1, ?_⟩
    cases x with
    | bor ds => cases hb
    | ownd _ _ => cases hb
    | val _ => exact h
    | own _ => exact h
theorem wS_par {i j : Nat} {oj : Bool} {a b : ME} : wS Φ G (.par i j oj a b) ρ S N R ↔ wE Φ G ρ a S fun x S1 => ∃ d, x.d = some d ∧ wE Φ G ρ b S1 fun y S2 => ∃ z, slOf oj y = some z ∧ (i < ρ.length ∧ j < ρ.length ∧ i ≠ j) ∧ N ((ρ.set i (.val d)).set j z) S2 := by
  unfold wS wE
  rw [ex, wR_bindD]
  constructor
  · rintro ⟨x, S1, e1, d, hd, h⟩
    rw [wR_bindE] at h
    obtain ⟨y, S2, e2, h⟩ := h
    refine ⟨x, S1, e1, d, hd, y, S2, e2, ?_⟩
    split at h
    · rename_i z hz
      split at h
      · rename_i hc; exact ⟨z, hz, hc, h⟩
      · exact h.elim
    · exact h.elim
  · rintro ⟨x, S1, e1, d, hd, y, S2, e2, z, hz, hc, h⟩
    refine ⟨x, S1, e1, d, hd, ?_⟩
    rw [wR_bindE]
    refine ⟨y, S2, e2, ?_⟩
    rw [hz]
    dsimp only
    rw [if_pos hc]; exact h
theorem wS_par3 {i j l : Nat} {a b c : ME} : wS Φ G (.par3 i j l a b c) ρ S N R ↔ wE Φ G ρ a S fun x S1 => ∃ d, x.d = some d ∧ wE Φ G ρ b S1 fun y S2 => ∃ d2, y.d = some d2 ∧ wE Φ G ρ c S2 fun z S3 => ∃ d3, z.d = some d3 ∧ (i < ρ.length ∧ j < ρ.length ∧ l < ρ.length ∧ i ≠ j ∧ i ≠ l ∧ j ≠ l) ∧ N (((ρ.set i (.val d)).set j (.val d2)).set l (.val d3)) S3 := by
  unfold wS wE
  rw [ex, wR_bindD]
  constructor
  · rintro ⟨x, S1, e1, d, hd, h⟩
    rw [wR_bindD] at h
    obtain ⟨y, S2, e2, d2, hd2, h⟩ := h
    rw [wR_bindD] at h
    obtain ⟨z, S3, e3, d3, hd3, h⟩ := h
    refine ⟨x, S1, e1, d, hd, y, S2, e2, d2, hd2, z, S3, e3, d3, hd3, ?_⟩
    split at h
    · rename_i hc; exact ⟨hc, h⟩
    · exact h.elim
  · rintro ⟨x, S1, e1, d, hd, y, S2, e2, d2, hd2, z, S3, e3, d3, hd3, hc, h⟩
    refine ⟨x, S1, e1, d, hd, ?_⟩
    rw [wR_bindD]
    refine ⟨y, S2, e2, d2, hd2, ?_⟩
    rw [wR_bindD]
    refine ⟨z, S3, e3, d3, hd3, ?_⟩
    rw [if_pos hc]; exact h
theorem slOf_f {d : D} : slOf false (.val d) = some (.val d) := rfl
theorem slOf_fo {ds : List D} : slOf false (.own ds) = some (.val (.lst ds)) := rfl
theorem slOf_t {ds : List D} : slOf true (.own ds) = some (.own ds) := rfl
theorem wS_reto {i : Nat} : wS Φ G (.reto i) ρ S N R ↔ ∃ ds, ρ[i]? = some (.own ds) ∧ R (.own ds) S := by
  unfold wS
  rw [ex]
  constructor
  · intro h
    split at h
    · exact ⟨_, by assumption, h⟩
    · exact h.elim
  · rintro ⟨k, hk, h⟩
    rw [hk]; exact h
theorem wS_expr {e : ME} : wS Φ G (.expr e) ρ S N R ↔ wE Φ G ρ e S fun _ S1 => N ρ S1 := by
  unfold wS wE
  rw [ex, wR_bindEX]; rfl
noncomputable def frzN (N : Env → Sto → Prop) (i : Nat) (ρ : Env) (S : Sto) (o : Option Sl) : Prop := match o with
  | some (.own ds) => N (ρ.set i (.val (.lst ds))) S
  | some (.val _) => N ρ S
  | _ => False
theorem frzN_own {i : Nat} {ds : List D} : frzN N i ρ S (some (.own ds)) ↔ N (ρ.set i (.val (.lst ds))) S := Iff.rfl
theorem frzN_val {i : Nat} {d : D} : frzN N i ρ S (some (.val d)) ↔ N ρ S := Iff.rfl
theorem wS_frz {i : Nat} : wS Φ G (.frz i) ρ S N R ↔ frzN N i ρ S ρ[i]? := by
  unfold wS
  rw [ex]
  cases hρ : ρ[i]? with
  | none => exact Iff.rfl
  | some sl => cases sl <;> exact Iff.rfl
theorem wFor_inv {t : MT} {b : MSs} {ds : List D} (I : Nat → Env → Sto → Prop) (h0 : I 0 ρ S)
    (hs : ∀ i d ρ S, ds[i]? = some d → I i ρ S → wT Φ G t d ρ S fun ρ1 S1 => wSs Φ G b ρ1 S1 (fun ρ2 S2 => I (i + 1) ρ2 S2) R)
    (hd : ∀ ρ S, I ds.length ρ S → N ρ S) : wFor Φ G t b ds ρ S N R := by
  unfold wFor
  have main : ∀ (n i : Nat) (ρ : Env) (S : Sto), i + n = ds.length → I i ρ S → wR (forL (fun d ρ S => sto Φ G t d ρ S) (fun ρ S => exs Φ G b ρ S) (ds.drop i) ρ S) N R := by
    intro n
    induction n with
    | zero =>
      intro i ρ S e h
      have e : i = ds.length := by omega
      subst e
      rw [List.drop_length]
      exact hd ρ S h
    | succ n ih =>
      intro i ρ S e h
      have hi : i < ds.length := by omega
      rw [List.drop_eq_getElem_cons hi, forL]
      obtain ⟨ρ1, S1, e1, q⟩ := hs i _ ρ S (List.getElem?_eq_getElem hi) h
      rw [e1]
      (try dsimp only)
      rw [wR_then]
      unfold wSs at q
      generalize exs Φ G b ρ1 S1 = r at q ⊢
      cases r with
      | nx ρ2 S2 => exact ih (i + 1) ρ2 S2 (by omega) q
      | rt _ _ => exact q
      | er => exact q
      | xn _ _ _ => exact q
  have := main ds.length 0 ρ S (by omega) h0
  rwa [List.drop_zero] at this
theorem wL_inv {t : MT} {c : MO} {e : ME} {ds : List D} (I : Nat → List D → Sto → Prop) (h0 : I 0 [] S)
    (hs : ∀ i d xs S, ds[i]? = some d → I i xs S → wTn Φ G t c e ρ d S fun o S1 => I (i + 1) (xs ++ o.toList) S1)
    (hd : ∀ xs S, I ds.length xs S → Qs xs S) : wL Φ G t c e ρ ds S Qs := by
  unfold wL
  have main : ∀ (n i : Nat) (acc : List D) (S : Sto), i + n = ds.length → I i acc S → ∃ xs S', cmpL (fun d S => (sto Φ G t d ρ S).bind fun q => (evC Φ G q.1 c q.2).bind fun r =>
        if r.1 then (evR Φ G q.1 e r.2).bind fun z => (z.1.d).map fun y => (some y, z.2) else some (none, r.2)) (ds.drop i) S = some (xs, S') ∧ Qs (acc ++ xs) S' := by
    intro n
    induction n with
    | zero =>
      intro i acc S e h
      have e : i = ds.length := by omega
      subst e
      rw [List.drop_length]
      exact ⟨[], S, rfl, by rw [List.append_nil]; exact hd _ _ h⟩
    | succ n ih =>
      intro i acc S e' h
      have hi : i < ds.length := by omega
      rw [List.drop_eq_getElem_cons hi]
      obtain ⟨ρ1, S1, e1, b, S2, e2, q⟩ := hs i _ acc S (List.getElem?_eq_getElem hi) h
      have step : ∀ (o : Option D) (S3 : Sto), ((sto Φ G t ds[i] ρ S).bind fun q => (evC Φ G q.1 c q.2).bind fun r =>
          if r.1 then (evR Φ G q.1 e r.2).bind fun z => (z.1.d).map fun y => (some y, z.2) else some (none, r.2)) = some (o, S3) → I (i + 1) (acc ++ o.toList) S3 → ∃ xs S', cmpL (fun d S => (sto Φ G t d ρ S).bind fun q => (evC Φ G q.1 c q.2).bind fun r =>
          if r.1 then (evR Φ G q.1 e r.2).bind fun z => (z.1.d).map fun y => (some y, z.2) else some (none, r.2)) (ds[i] :: ds.drop (i + 1)) S = some (xs, S') ∧ Qs (acc ++ xs) S' := fun o S3 h1 h2 => by
        obtain ⟨xs, S', h3, h4⟩ := ih (i + 1) _ S3 (by omega) h2
        rw [cmpL, h1, Option.bind_some]
        (try dsimp only)
        rw [h3]
        refine ⟨_, S', rfl, ?_⟩
        cases o with
        | none => simpa using h4
        | some y => simpa using h4
      cases b with
      | false =>
        rw [if_neg (by decide)] at q
        exact step none S2 (by rw [e1, Option.bind_some]; (try dsimp only); rw [e2, Option.bind_some]; rfl) q
      | true =>
        rw [if_pos rfl] at q
        obtain ⟨z, S3, e3, y, hy, q⟩ := q
        refine step (some y) S3 ?_ q
        rw [e1, Option.bind_some]
        (try dsimp only)
        rw [e2, Option.bind_some]
        (try dsimp only)
        rw [if_pos rfl, e3, Option.bind_some]
        (try dsimp only)
        rw [hy]; rfl
  have := main ds.length 0 [] S (by omega) h0
  rwa [List.drop_zero] at this

end

theorem wF_of {P : Nat → Option FD} {G : List D} {k f : Nat} {ds : List D} {S : Sto} {Q : Rt → Sto → Prop} {fd : FD} (hP : P f = some fd) (hl : ds.length = fd.np)
    (h : wSs (runF P G k) G fd.body (ds.map .val ++ List.replicate (fd.nn - ds.length) .no) S (fun _ S' => Q (.val .non) S') Q) : wF (runF P G (k + 1)) f ds S Q := by
  unfold wF
  rw [runF]
  dsimp only
  rw [hP]
  (try dsimp only)
  rw [if_pos hl]
  unfold wSs at h
  generalize exs (runF P G k) G fd.body (ds.map .val ++ List.replicate (fd.nn - ds.length) .no) S = r at h ⊢
  cases r with
  | nx _ S' => exact ⟨_, _, rfl, h⟩
  | rt r S' => exact ⟨_, _, rfl, h⟩
  | er => exact h.elim
  | xn _ _ _ => exact h.elim
end Mi
end
noncomputable section
namespace Mi
open PySem L2
theorem size_ok {n : Nat} (h : n ≤ 16777216) : (n ≤ sizeLine) = True := eq_true h
theorem inRng_ok {i : Int} (h1 : -4611686018427387904 ≤ i) (h2 : i < 4611686018427387904) : inRng i = True := eq_true ⟨h1, h2⟩
theorem still_l {z : Bool} {ds : List D} : still z (.val (.lst ds)) = some ds := rfl
theorem still_t {z : Bool} {ds : List D} : still z (.val (.tup ds)) = some ds := rfl
theorem still_b {ds : List D} : still true (.bor ds) = some ds := rfl
theorem still_o {z : Bool} {ds : List D} : still z (.own ds) = some ds := rfl

theorem rd_val {d : D} : (Rt.val d).d = some d := rfl
theorem rd_own {ds : List D} : (Rt.own ds).d = some (.lst ds) := rfl
theorem lt_size {n : Nat} (h : n ≤ 1000) : n ≤ sizeLine := Nat.le_trans h (by decide)
theorem strOk_of (s : String) : PyData.strOk (Str.ofString s) = true := by
  unfold PyData.strOk
  rw [Str.ofString_eq_toList]
  rw [← Array.all_toList, List.toList_toArray, List.all_map, List.all_eq_true]
  intro c _
  show decide (c.toNat < 0x110000) = true
  have := c.valid
  rw [decide_eq_true_eq]
  rcases this with h | h
  · exact Nat.lt_trans h (by decide)
  · exact h.2
theorem ofString_inj (a b : String) : (Str.ofString a = Str.ofString b) ↔ a = b := by
  constructor
  · intro h
    rw [Str.ofString_eq_toList, Str.ofString_eq_toList] at h
    have h := congrArg Str.cps h
    have h := congrArg Array.toList h
    simp only [List.toList_toArray] at h
    have inj : Function.Injective Char.toNat := fun x y e => Char.ext (UInt32.toNat_inj.mp e)
    exact String.toList_inj.mp ((List.map_inj_right inj).mp h)
  · intro h; rw [h]
theorem cmp_int {S : Sto} {i j : Int} : cmpop S .eq (.val (.int i)) (.val (.int j)) = some (decide (i = j)) := by
  show eqop0 S (.val (.int i)) (.val (.int j)) = _
  unfold eqop0 pyS pyR toPy
  rw [Option.bind_some, Option.bind_some, if_pos ⟨rfl, rfl⟩]
  unfold PyData.eqv
  by_cases h : i = j <;> simp [h]
theorem cmp_intn {S : Sto} {i j : Int} : cmpop S .ne (.val (.int i)) (.val (.int j)) = some (!decide (i = j)) := by
  have h : eqop S (.val (.int i)) (.val (.int j)) = some (decide (i = j)) := cmp_int (S := S)
  unfold cmpop
  rw [h]; rfl
theorem cmp_str {S : Sto} {a b : String} : cmpop S .eq (.val (.str (Str.ofString a))) (.val (.str (Str.ofString b))) = some (decide (a = b)) := by
  show some (decide (Str.ofString a = Str.ofString b)) = _
  congr 1
  exact decide_eq_decide.mpr (ofString_inj a b)
theorem cmp_lt {S : Sto} {i j : Int} : cmpop S .lt (.val (.int i)) (.val (.int j)) = some (decide (i < j)) := rfl
theorem cmp_le {S : Sto} {i j : Int} : cmpop S .le (.val (.int i)) (.val (.int j)) = some (decide (i ≤ j)) := rfl
theorem cmp_gt {S : Sto} {i j : Int} : cmpop S .gt (.val (.int i)) (.val (.int j)) = some (decide (j < i)) := rfl
theorem cmp_ge {S : Sto} {i j : Int} : cmpop S .ge (.val (.int i)) (.val (.int j)) = some (decide (j ≤ i)) := rfl
theorem bin_add {S : Sto} {i j : Int} : binop S .add (.val (.int i)) (.val (.int j)) = some (.val (.int (i + j))) := rfl
theorem bin_sub {S : Sto} {i j : Int} : binop S .sub (.val (.int i)) (.val (.int j)) = some (.val (.int (i - j))) := rfl
theorem bin_mul {S : Sto} {i j : Int} {r : Rt} {Q : Prop} : binop S .mul (.val (.int i)) (.val (.int j)) = some r ↔ MulOk i j ∧ r = .val (.int (i * j)) := by
  show (if MulOk i j then some (i * j) else none).map _ = some r ↔ _
  split
  · rename_i h
    constructor
    · intro e; cases e; exact ⟨h, rfl⟩
    · rintro ⟨_, rfl⟩; rfl
  · rename_i h
    constructor
    · intro e; cases e
    · rintro ⟨h', _⟩; exact absurd h' h
theorem bin_mul' {S : Sto} {i j : Int} {Q : Rt → Prop} : (∃ r, binop S .mul (.val (.int i)) (.val (.int j)) = some r ∧ Q r) ↔ MulOk i j ∧ Q (.val (.int (i * j))) := by
  constructor
  · rintro ⟨r, h, q⟩
    obtain ⟨h1, h2⟩ := (bin_mul (Q := True)).mp h
    subst h2
    exact ⟨h1, q⟩
  · rintro ⟨h, q⟩; exact ⟨_, (bin_mul (Q := True)).mpr ⟨h, rfl⟩, q⟩
theorem bin_fdiv' {S : Sto} {i j : Int} {Q : Rt → Prop} : (∃ r, binop S .fdiv (.val (.int i)) (.val (.int j)) = some r ∧ Q r) ↔ DivOk j ∧ Q (.val (.int (i / j))) := by
  show (∃ r, (if DivOk j then some (i / j) else none).map _ = some r ∧ Q r) ↔ _
  split
  · rename_i h
    constructor
    · rintro ⟨r, e, q⟩; cases e; exact ⟨h, q⟩
    · rintro ⟨_, q⟩; exact ⟨_, rfl, q⟩
  · rename_i h
    constructor
    · rintro ⟨r, e, q⟩; cases e
    · rintro ⟨h', _⟩; exact absurd h' h
theorem bin_mod' {S : Sto} {i j : Int} {Q : Rt → Prop} : (∃ r, binop S .mod (.val (.int i)) (.val (.int j)) = some r ∧ Q r) ↔ 0 < j ∧ Q (.val (.int (i % j))) := by
  show (∃ r, (if 0 < j then some (i % j) else none).map _ = some r ∧ Q r) ↔ _
  split
  · rename_i h
    constructor
    · rintro ⟨r, e, q⟩; cases e; exact ⟨h, q⟩
    · rintro ⟨_, q⟩; exact ⟨_, rfl, q⟩
  · rename_i h
    constructor
    · rintro ⟨r, e, q⟩; cases e
    · rintro ⟨h', _⟩; exact absurd h' h
theorem bin_pow' {S : Sto} {i j : Int} {Q : Rt → Prop} : (∃ r, binop S .pow (.val (.int i)) (.val (.int j)) = some r ∧ Q r) ↔ (0 ≤ j ∧ j ≤ 1000000 ∧ i.natAbs < 2 ^ 64) ∧ Q (.val (.int (i ^ j.toNat))) := by
  show (∃ r, (if 0 ≤ j ∧ j ≤ 1000000 ∧ i.natAbs < 2 ^ 64 then some (i ^ j.toNat) else none).map _ = some r ∧ Q r) ↔ _
  split
  · rename_i h
    constructor
    · rintro ⟨r, e, q⟩; cases e; exact ⟨h, q⟩
    · rintro ⟨_, q⟩; exact ⟨_, rfl, q⟩
  · rename_i h
    constructor
    · rintro ⟨r, e, q⟩; cases e
    · rintro ⟨h', _⟩; exact absurd h' h

theorem ix_ref {S : Sto} {l : Nat} {k : Int} : index S (.val (.ref l)) (.val (.int k)) = (cellL S l).bind fun ds => atI ds k := rfl
theorem ix_tup {S : Sto} {ds : List D} {k : Int} : index S (.val (.tup ds)) (.val (.int k)) = atI ds k := rfl
theorem ix_lst {S : Sto} {ds : List D} {k : Int} : index S (.val (.lst ds)) (.val (.int k)) = atI ds k := rfl
theorem ix_own {S : Sto} {ds : List D} {k : Int} : index S (.own ds) (.val (.int k)) = atI ds k := rfl
theorem ix_bor {S : Sto} {ds : List D} {k : Int} : index S (.bor ds) (.val (.int k)) = atI ds k := rfl
theorem cellL_of {S : Sto} {l : Nat} {ds : List D} (h : S[l]? = some (.lst ds)) : cellL S l = some ds := by unfold cellL; rw [h]
theorem atI_0 {x : D} {r : List D} : atI (x :: r) 0 = some x := by
  show L2.atI (x :: r) ((0 : Nat) : Int) = _
  exact L2.atI_nat rfl
theorem atI_1 {x y : D} {r : List D} : atI (x :: y :: r) 1 = some y := by
  show L2.atI (x :: y :: r) ((1 : Nat) : Int) = _
  exact L2.atI_nat rfl
theorem atI_2 {x y z : D} {r : List D} : atI (x :: y :: z :: r) 2 = some z := by
  show L2.atI (x :: y :: z :: r) ((2 : Nat) : Int) = _
  exact L2.atI_nat rfl
theorem atI_at {ds : List D} {i : Int} {d : D} (h0 : 0 ≤ i) (h : ds[i.toNat]? = some d) : atI ds i = some d := by
  have : i = ((i.toNat : Nat) : Int) := (Int.toNat_of_nonneg h0).symm
  rw [this]
  exact L2.atI_nat h
theorem setAt_l {S : Sto} {l : Nat} {ds : List D} {k : Int} {v : D} (h : S[l]? = some (.lst ds)) : setAt S l (.val (.int k)) v = setRef S l k v := by
  unfold setAt cellD
  rw [h]; rfl
theorem put_ref {S : Sto} {l : Nat} {ds : List D} {k : Int} {v : D} {j : Nat} (h : S[l]? = some (.lst ds)) (hj : ixN ds.length k = some j) : setRef S l k v = some (S.set l (.lst (ds.set j v))) := by
  unfold setRef
  rw [cellL_of h, Option.bind_some, hj]; rfl
theorem put3_0 {S : Sto} {l : Nat} {x y z v : D} (h : S[l]? = some (.lst [x, y, z])) : setAt S l (.val (.int 0)) v = some (S.set l (.lst [v, y, z])) := (setAt_l h).trans (put_ref (j := 0) h rfl)
theorem put3_1 {S : Sto} {l : Nat} {x y z v : D} (h : S[l]? = some (.lst [x, y, z])) : setAt S l (.val (.int 1)) v = some (S.set l (.lst [x, v, z])) := (setAt_l h).trans (put_ref (j := 1) h rfl)
theorem put3_2 {S : Sto} {l : Nat} {x y z v : D} (h : S[l]? = some (.lst [x, y, z])) : setAt S l (.val (.int 2)) v = some (S.set l (.lst [x, y, v])) := (setAt_l h).trans (put_ref (j := 2) h rfl)
theorem set_at {S : Sto} {l : Nat} {c d : Cell} (h : S[l]? = some d) : (S.set l c)[l]? = some c := List.getElem?_set_self (List.getElem?_eq_some_iff.mp h).1
theorem ix3_0 {S : Sto} {l : Nat} {x y z : D} (h : S[l]? = some (.lst [x, y, z])) : index S (.val (.ref l)) (.val (.int 0)) = some x := by rw [ix_ref, cellL_of h, Option.bind_some]; exact atI_0
theorem ix3_1 {S : Sto} {l : Nat} {x y z : D} (h : S[l]? = some (.lst [x, y, z])) : index S (.val (.ref l)) (.val (.int 1)) = some y := by rw [ix_ref, cellL_of h, Option.bind_some]; exact atI_1
theorem ix3_2 {S : Sto} {l : Nat} {x y z : D} (h : S[l]? = some (.lst [x, y, z])) : index S (.val (.ref l)) (.val (.int 2)) = some z := by rw [ix_ref, cellL_of h, Option.bind_some]; exact atI_2
theorem rep_own {S : Sto} {xs : List D} {k : Int} {Q : Rt → Prop} : (∃ r, binop S .mul (.own xs) (.val (.int k)) = some r ∧ Q r) ↔ (-(2 ^ 63) ≤ k ∧ k < 2 ^ 63 ∧ xs.length * k.toNat ≤ sizeLine) ∧ Q (.own (List.replicate k.toNat xs).flatten) := by
  show (∃ r, (if -(2 ^ 63) ≤ k ∧ k < 2 ^ 63 ∧ xs.length * k.toNat ≤ sizeLine then some (Rt.own (List.replicate k.toNat xs).flatten) else none) = some r ∧ Q r) ↔ _
  split
  · rename_i h
    constructor
    · rintro ⟨r, e, q⟩; cases e; exact ⟨h, q⟩
    · rintro ⟨_, q⟩; exact ⟨_, rfl, q⟩
  · rename_i h
    constructor
    · rintro ⟨r, e, q⟩; cases e
    · rintro ⟨h', _⟩; exact absurd h' h
theorem cat_any {S : Sto} {x y : Rt} {xs ys : List D} {Q : Rt → Prop} (hx : tview S x = some xs) (hy : tview S y = some ys) (h1 : x.int? = none) (h2 : y.int? = none) (h3 : x.tup? = none) : (∃ r, binop S .add x y = some r ∧ Q r) ↔ xs.length + ys.length ≤ sizeLine ∧ Q (.own (xs ++ ys)) := by
  have e : binop S .add x y = if xs.length + ys.length ≤ sizeLine then some (.own (xs ++ ys)) else none := by
    unfold binop
    rw [h1, h2]
    dsimp only
    have hs : x.str? = none := by
      cases x with
      | val d => cases d <;> first | rfl | cases hx
      | _ => rfl
    unfold catop
    rw [hs]
    show catop0 S x y = _
    unfold catop0
    rw [h3]
    dsimp only
    rw [hx, hy, Option.bind_some, Option.bind_some]
  rw [e]
  split
  · rename_i h
    constructor
    · rintro ⟨r, e, q⟩; cases e; exact ⟨h, q⟩
    · rintro ⟨_, q⟩; exact ⟨_, rfl, q⟩
  · rename_i h
    constructor
    · rintro ⟨r, e, q⟩; cases e
    · rintro ⟨h', _⟩; exact absurd h' h
theorem cat_lo {S : Sto} {xs ys : List D} {Q : Rt → Prop} : (∃ r, binop S .add (.val (.lst xs)) (.own ys) = some r ∧ Q r) ↔ xs.length + ys.length ≤ sizeLine ∧ Q (.own (xs ++ ys)) := cat_any rfl rfl rfl rfl rfl
theorem cat_oo {S : Sto} {xs ys : List D} {Q : Rt → Prop} : (∃ r, binop S .add (.own xs) (.own ys) = some r ∧ Q r) ↔ xs.length + ys.length ≤ sizeLine ∧ Q (.own (xs ++ ys)) := cat_any rfl rfl rfl rfl rfl
theorem cat_ll {S : Sto} {xs ys : List D} {Q : Rt → Prop} : (∃ r, binop S .add (.val (.lst xs)) (.val (.lst ys)) = some r ∧ Q r) ↔ xs.length + ys.length ≤ sizeLine ∧ Q (.own (xs ++ ys)) := cat_any rfl rfl rfl rfl rfl
theorem cat_ol {S : Sto} {xs ys : List D} {Q : Rt → Prop} : (∃ r, binop S .add (.own xs) (.val (.lst ys)) = some r ∧ Q r) ↔ xs.length + ys.length ≤ sizeLine ∧ Q (.own (xs ++ ys)) := cat_any rfl rfl rfl rfl rfl
theorem bi_divmod' {S : Sto} {i j : Int} {Q : Rt → Prop} : (∃ r, biop S .divmod [.val (.int i), .val (.int j)] = some r ∧ Q r) ↔ (0 < j ∧ j < 1073741824) ∧ Q (.val (.tup [.int (i / j), .int (i % j)])) := by
  show (∃ r, (if 0 < j ∧ j < 1073741824 then some (Rt.val (.tup [.int (i / j), .int (i % j)])) else none) = some r ∧ Q r) ↔ _
  split
  · rename_i h
    constructor
    · rintro ⟨r, e, q⟩; cases e; exact ⟨h, q⟩
    · rintro ⟨_, q⟩; exact ⟨_, rfl, q⟩
  · rename_i h
    constructor
    · rintro ⟨r, e, q⟩; cases e
    · rintro ⟨h', _⟩; exact absurd h' h
theorem bi_abs' {S : Sto} {i : Int} : biop S .abs [.val (.int i)] = some (.val (.int (if i < 0 then -i else i))) := rfl
theorem bi_intb {S : Sto} {k : Bool} : biop S .int [.val (.bl k)] = some (.val (.int (if k then 1 else 0))) := rfl
theorem bi_min2 {S : Sto} {i j : Int} : biop S .min [.val (.int i), .val (.int j)] = some (.val (.int (if j < i then j else i))) := rfl
theorem bi_max2 {S : Sto} {i j : Int} : biop S .max [.val (.int i), .val (.int j)] = some (.val (.int (if j > i then j else i))) := rfl
theorem bi_lenl {S : Sto} {ds : List D} : biop S .len [.val (.lst ds)] = some (.val (.int ds.length)) := rfl
theorem bi_lens {S : Sto} {ds : List D} : biop S .len [.val (.scr ds)] = some (.val (.int ds.length)) := rfl
theorem bi_lent {S : Sto} {ds : List D} : biop S .len [.val (.tup ds)] = some (.val (.int ds.length)) := rfl
theorem bi_listo {S : Sto} {ds : List D} : biop S .list [.own ds] = some (.own ds) := rfl
theorem bi_listl {S : Sto} {ds : List D} : biop S .list [.val (.lst ds)] = some (.own ds) := rfl
theorem bi_listt {S : Sto} {ds : List D} : biop S .list [.val (.tup ds)] = some (.own ds) := rfl
theorem bi_tupo {S : Sto} {ds : List D} : biop S .tuple [.own ds] = some (.val (.tup ds)) := rfl
theorem bi_tupb {S : Sto} {ds : List D} : biop S .tuple [.bor ds] = some (.val (.tup ds)) := rfl
theorem bi_tupt {S : Sto} {ds : List D} : biop S .tuple [.val (.tup ds)] = some (.val (.tup ds)) := rfl
theorem bi_tupl {S : Sto} {ds : List D} : biop S .tuple [.val (.lst ds)] = some (.val (.tup ds)) := rfl
theorem sl_scr {S : Sto} {ds : List D} {lo hi : Option Int} : slice S (.val (.scr ds)) lo hi = some (.own (cutD ds lo hi)) := rfl
theorem sl_lst {S : Sto} {ds : List D} {lo hi : Option Int} : slice S (.val (.lst ds)) lo hi = some (.own (cutD ds lo hi)) := rfl
theorem sl_tup {S : Sto} {ds : List D} {lo hi : Option Int} : slice S (.val (.tup ds)) lo hi = some (.val (.tup (cutD ds lo hi))) := rfl
theorem mulok_l {i j : Int} (h1 : -18446744073709551616 < i) (h2 : i < 18446744073709551616) : MulOk i j := .inl (.inl ⟨h1, h2⟩)
theorem mulok_r {i j : Int} (h1 : -18446744073709551616 < j) (h2 : j < 18446744073709551616) : MulOk i j := .inl (.inr ⟨h1, h2⟩)
theorem divok {j : Int} (h1 : 0 < j) (h2 : j < 1073741824) : DivOk j := .inl ⟨h1, h2⟩
theorem DivOk.pos {j : Int} (h : DivOk j) : 0 < j := h.elim (fun z => z.1) fun z => z.1

theorem cmp_strs {S : Sto} {a b : Str} : cmpop S .eq (.val (.str a)) (.val (.str b)) = some (decide (a = b)) := rfl
theorem cmp_strsn {S : Sto} {a b : Str} : cmpop S .ne (.val (.str a)) (.val (.str b)) = some (!decide (a = b)) := rfl
theorem cmp_isn {S : Sto} {d : D} : cmpop S .is (.val d) (.val .non) = some (isN d) := by cases d <;> rfl
theorem cmp_isnn {S : Sto} {d : D} : cmpop S .isnot (.val d) (.val .non) = some (!isN d) := by cases d <;> rfl
theorem cmp_isb {S : Sto} {a b : Bool} : cmpop S .is (.val (.bl a)) (.val (.bl b)) = some (decide (a = b)) := rfl
theorem cmp_isnb {S : Sto} {a b : Bool} : cmpop S .isnot (.val (.bl a)) (.val (.bl b)) = some (!decide (a = b)) := rfl
theorem cmp_bleq {S : Sto} {a b : Bool} : cmpop S .eq (.val (.bl a)) (.val (.bl b)) = some (a == b) := by
  cases a <;> cases b <;> rfl
theorem cmp_blne {S : Sto} {a b : Bool} : cmpop S .ne (.val (.bl a)) (.val (.bl b)) = some (!(a == b)) := by
  cases a <;> cases b <;> rfl

theorem bi_isi1o {S : Sto} {t : Ty} {ds : List D} : biop S (.isi1 t) [.own ds] = some (.val (.bl (decide (t = .list)))) := rfl
theorem bi_isi1b {S : Sto} {t : Ty} {ds : List D} : biop S (.isi1 t) [.bor ds] = some (.val (.bl (decide (t = .list)))) := rfl
theorem tyD_t {ds : List D} {t : Ty} : tyD (.tup ds) t = decide (t = .tuple) := rfl
theorem tyD_i {i : Int} {t : Ty} : tyD (.int i) t = decide (t = .int) := rfl
theorem tyD_b {b : Bool} {t : Ty} : tyD (.bl b) t = (decide (t = .bool) || decide (t = .int)) := rfl
theorem tyD_s {x : Str} {t : Ty} : tyD (.str x) t = decide (t = .str) := rfl
theorem tyD_l {x : List D} {t : Ty} : tyD (.lst x) t = decide (t = .list) := rfl
theorem tyD_n {t : Ty} : tyD .non t = false := rfl

theorem p_lrng {G : List D} {S : Sto} {j : Int} {Q : Rt → Sto → Prop} : (∃ r S', P1.run G S .lrng (.val (.int j)) = some (r, S') ∧ Q r S') ↔ (0 ≤ j ∧ j ≤ 100000) ∧ Q (.own (rngL 0 j.toNat)) S := by
  show (∃ r S', (if 0 ≤ j ∧ j ≤ 100000 then some (Rt.own (rngL 0 j.toNat), S) else none) = some (r, S') ∧ Q r S') ↔ _
  split
  · rename_i h
    exact ⟨fun ⟨r, S', e, q⟩ => by cases e; exact ⟨h, q⟩, fun q => ⟨_, _, rfl, q.2⟩⟩
  · rename_i h
    exact ⟨fun ⟨r, S', e, q⟩ => (nomatch e), fun q => absurd q.1 h⟩
theorem p_revl {G : List D} {S : Sto} {ds : List D} : P1.run G S .rev (.val (.lst ds)) = some (.own ds.reverse, S) := rfl
theorem p_revo {G : List D} {S : Sto} {ds : List D} : P1.run G S .rev (.own ds) = some (.own ds.reverse, S) := rfl
theorem p_revb {G : List D} {S : Sto} {ds : List D} : P1.run G S .rev (.bor ds) = some (.own ds.reverse, S) := rfl
theorem p_revt {G : List D} {S : Sto} {ds : List D} : P1.run G S .rev (.val (.tup ds)) = some (.val (.tup ds.reverse), S) := rfl
theorem intsM : ∀ is : List Int, ints? (is.map .int) = some is
  | [] => rfl
  | i :: is => by
    show (ints? (is.map .int)).map _ = _
    rw [intsM is]; rfl
theorem set_any {G : List D} {S : Sto} {r : Rt} {is : List Int} {Q : Rt → Sto → Prop} (h : sview S r = some (is.map .int)) : ((∃ r' S', P1.run G S .sset r = some (r', S') ∧ Q r' S') ↔ (is.length ≤ 1000 ∧ (uniq is).length < 64) ∧ Q (.own ((sortI (uniq is)).map .int)) S) ∧
    ((∃ r' S', P1.run G S .lset r = some (r', S') ∧ Q r' S') ↔ (is.length ≤ 1000 ∧ (uniq is).length < 64) ∧ Q (.val (.int (uniq is).length)) S) := by
  have e1 : P1.run G S .sset r = if is.length ≤ 1000 ∧ (uniq is).length < 64 then some (.own ((sortI (uniq is)).map .int), S) else none := by
    show ((sview S r).bind fun ds => (ints? ds).bind fun is => if is.length ≤ 1000 ∧ (uniq is).length < 64 then some (Rt.own ((sortI (uniq is)).map .int), S) else none) = _
    rw [h, Option.bind_some, intsM]; rfl
  have e2 : P1.run G S .lset r = if is.length ≤ 1000 ∧ (uniq is).length < 64 then some (.val (.int (uniq is).length), S) else none := by
    show ((sview S r).bind fun ds => (ints? ds).bind fun is => if is.length ≤ 1000 ∧ (uniq is).length < 64 then some (Rt.val (.int (uniq is).length), S) else none) = _
    rw [h, Option.bind_some, intsM]; rfl
  rw [e1, e2]
  refine ⟨?_, ?_⟩
  · split
    · rename_i h
      exact ⟨fun ⟨r, S', e, q⟩ => by cases e; exact ⟨h, q⟩, fun q => ⟨_, _, rfl, q.2⟩⟩
    · rename_i h
      exact ⟨fun ⟨r, S', e, q⟩ => (nomatch e), fun q => absurd q.1 h⟩
  · split
    · rename_i h
      exact ⟨fun ⟨r, S', e, q⟩ => by cases e; exact ⟨h, q⟩, fun q => ⟨_, _, rfl, q.2⟩⟩
    · rename_i h
      exact ⟨fun ⟨r, S', e, q⟩ => (nomatch e), fun q => absurd q.1 h⟩
theorem p_sseto {G : List D} {S : Sto} {is : List Int} {Q : Rt → Sto → Prop} : (∃ r' S', P1.run G S .sset (.own (is.map .int)) = some (r', S') ∧ Q r' S') ↔ (is.length ≤ 1000 ∧ (uniq is).length < 64) ∧ Q (.own ((sortI (uniq is)).map .int)) S := (set_any rfl).1
theorem blsM : ∀ is : List Bool, bls? (is.map .bl) = some is
  | [] => rfl
  | i :: is => by
    show (bls? (is.map .bl)).map _ = _
    rw [blsM is]; rfl
theorem p_lsetb {G : List D} {S : Sto} {is : List Bool} {Q : Rt → Sto → Prop} : (∃ r' S', P1.run G S .lsetb (.own (is.map .bl)) = some (r', S') ∧ Q r' S') ↔ is.length ≤ 1000 ∧ Q (.val (.int (ubl is))) S := by
  have e : P1.run G S .lsetb (.own (is.map .bl)) = if is.length ≤ 1000 then some (.val (.int (ubl is)), S) else none := by
    show ((bls? (is.map .bl)).bind _) = _
    rw [blsM]; rfl
  rw [e]
  split
  · rename_i h
    exact ⟨fun ⟨_, _, z, q⟩ => by cases z; exact ⟨h, q⟩, fun z => ⟨_, _, rfl, z.2⟩⟩
  · rename_i h
    exact ⟨fun ⟨_, _, z, _⟩ => (nomatch z), fun z => absurd z.1 h⟩
theorem p_predzip {S : Sto} {a : Rt} : P2.pre S .dzip a = true := rfl
theorem p_lsetl {G : List D} {S : Sto} {is : List Int} {Q : Rt → Sto → Prop} : (∃ r' S', P1.run G S .lset (.val (.lst (is.map .int))) = some (r', S') ∧ Q r' S') ↔ (is.length ≤ 1000 ∧ (uniq is).length < 64) ∧ Q (.val (.int (uniq is).length)) S := (set_any rfl).2
theorem p_lsett {G : List D} {S : Sto} {is : List Int} {Q : Rt → Sto → Prop} : (∃ r' S', P1.run G S .lset (.val (.tup (is.map .int))) = some (r', S') ∧ Q r' S') ↔ (is.length ≤ 1000 ∧ (uniq is).length < 64) ∧ Q (.val (.int (uniq is).length)) S := (set_any rfl).2

noncomputable def mxL (j : Int) : List Int → Int
  | [] => j
  | i :: is => maxI i is
theorem p_mxdo {G : List D} {S : Sto} {is : List Int} {j : Int} : P2.run G S .mxd (.own (is.map .int)) (.val (.int j)) = some (.val (.int (mxL j is)), S) := by
  show ((ints? (is.map .int)).bind _) = _
  rw [intsM]
  cases is <;> rfl
theorem p_premxd {S : Sto} {x : Rt} : (P2.pre S .mxd x = true) = True := eq_true rfl
theorem p_prelrng2 {S : Sto} {x : Rt} : (P2.pre S .lrng2 x = true) = True := eq_true rfl
theorem p_lrng2 {G : List D} {S : Sto} {i j : Int} {Q : Rt → Sto → Prop} : (∃ r S', P2.run G S .lrng2 (.val (.int i)) (.val (.int j)) = some (r, S') ∧ Q r S') ↔ (0 ≤ i ∧ i ≤ j ∧ j ≤ 100000) ∧ Q (.own (rngL i (j - i).toNat)) S := by
  show (∃ r S', (if 0 ≤ i ∧ i ≤ j ∧ j ≤ 100000 then some (Rt.own (rngL i (j - i).toNat), S) else none) = some (r, S') ∧ Q r S') ↔ _
  split
  · rename_i h
    exact ⟨fun ⟨r, S', e, q⟩ => by cases e; exact ⟨h, q⟩, fun q => ⟨_, _, rfl, q.2⟩⟩
  · rename_i h
    exact ⟨fun ⟨r, S', e, q⟩ => (nomatch e), fun q => absurd q.1 h⟩
theorem p_precount {S : Sto} {x : Rt} {ds : List D} (h : lview S x = some ds) : P2.pre S .count x = true ∧ P2.pre S .index x = true := by
  refine ⟨?_, ?_⟩
  · show (lview S x).isSome = true
    rw [h]; rfl
  · show (lview S x).isSome = true
    rw [h]; rfl
theorem p_gget {G : List D} {S : Sto} {j : Nat} {k : Str} {Q : Rt → Sto → Prop} : (∃ r S', P1.run G S (.gget j) (.val (.str k)) = some (r, S') ∧ Q r S') ↔ ∃ ks ds d, G[j]? = some (.dct ks ds) ∧ valD ks ds (.inr k) = some d ∧ Q (.val d) S := by
  show (∃ r S', ((G[j]?).bind fun d => d.dct?.bind fun t => (valD t.1 t.2 (.inr k)).map fun x => (Rt.val x, S)) = some (r, S') ∧ Q r S') ↔ _
  constructor
  · rintro ⟨r, S', e, q⟩
    obtain ⟨d, h1, e⟩ := Mi.bind_some e
    obtain ⟨t, h2, e⟩ := Mi.bind_some e
    obtain ⟨x, h3, e⟩ := map_some e
    cases e
    cases d with
    | dct ks ds => cases h2; exact ⟨ks, ds, x, h1, h3, q⟩
    | _ => cases h2
  · rintro ⟨ks, ds, d, h1, h2, q⟩
    refine ⟨.val d, S, ?_, q⟩
    rw [h1, Option.bind_some]
    show (valD ks ds (.inr k)).map _ = _
    rw [h2]; rfl
theorem p_gin {G : List D} {S : Sto} {n : Bool} {j : Nat} {k : Str} {Q : Rt → Sto → Prop} : (∃ r S', P1.run G S (.gin n j) (.val (.str k)) = some (r, S') ∧ Q r S') ↔ ∃ ks ds, G[j]? = some (.dct ks ds) ∧ Q (.val (.bl (xor n (valD ks ds (.inr k)).isSome))) S := by
  show (∃ r S', ((G[j]?).bind fun d => d.dct?.bind fun t => some (Rt.val (.bl (xor n (valD t.1 t.2 (.inr k)).isSome)), S)) = some (r, S') ∧ Q r S') ↔ _
  constructor
  · rintro ⟨r, S', e, q⟩
    obtain ⟨d, h1, e⟩ := Mi.bind_some e
    obtain ⟨t, h2, e⟩ := Mi.bind_some e
    cases e
    cases d with
    | dct ks ds => cases h2; exact ⟨ks, ds, h1, q⟩
    | _ => cases h2
  · rintro ⟨ks, ds, h1, q⟩
    refine ⟨_, S, ?_, q⟩
    rw [h1, Option.bind_some]; rfl
theorem p_mx3 {S : Sto} {i j k : Int} : P3.run S .mx3 (.val (.int i)) (.val (.int j)) (.val (.int k)) = some (.val (.int (maxI i [j, k])), S) := rfl
theorem p_get {S : Sto} {ks : List Key} {ds : List D} {k : Str} {f : D} : P3.run S .get (.ownd ks ds) (.val (.str k)) (.val f) = some (.val ((valD ks ds (.inr k)).getD f), S) := rfl
theorem p_presplit {S : Sto} {x : Rt} : (P2.pre S .split x = true) = True := eq_true rfl
theorem p_prejoin {S : Sto} {x : Rt} : (P2.pre S .join x = true) = True := eq_true rfl
theorem p_split {G : List D} {S : Sto} {a b : Str} {Q : Rt → Sto → Prop} : (∃ r S', P2.run G S .split (.val (.str a)) (.val (.str b)) = some (r, S') ∧ Q r S') ↔ ((b.length == 0) = false ∧ a.length + 2 ≤ sizeLine) ∧ Q (.own ((Txt.split a b).map .str)) S := by
  show (∃ r S', (if (b.length == 0) = false ∧ a.length + 2 ≤ sizeLine then some (Rt.own ((Txt.split a b).map .str), S) else none) = some (r, S') ∧ Q r S') ↔ _
  split
  · rename_i h
    exact ⟨fun ⟨r, S', e, q⟩ => by cases e; exact ⟨h, q⟩, fun q => ⟨_, _, rfl, q.2⟩⟩
  · rename_i h
    exact ⟨fun ⟨r, S', e, q⟩ => (nomatch e), fun q => absurd q.1 h⟩

theorem dct_o {S : Sto} {ks : List Key} {ds : List D} : (Rt.ownd ks ds).dct? S = some (ks, ds) := rfl
theorem dct_v {S : Sto} {ks : List Key} {ds : List D} : (Rt.val (.dct ks ds)).dct? S = some (ks, ds) := rfl
theorem rd_ownd {ks : List Key} {ds : List D} : (Rt.ownd ks ds).d = some (.dct ks ds) := rfl
theorem key_i {i : Int} : (Rt.val (.int i)).key? = some (.inl i) := rfl
theorem key_s {x : Str} : (Rt.val (.str x)).key? = some (.inr x) := rfl
theorem valD_cons {k q : Key} {ks : List Key} {d : D} {ds : List D} : valD (k :: ks) (d :: ds) q = if k = q then some d else valD ks ds q := by rw [valD]
theorem valD_nil {q : Key} {ds : List D} : valD [] ds q = none := by unfold valD; rfl
noncomputable def sqD : Kd → List D → D
  | .l, ds => .lst ds
  | .t, ds => .tup ds
theorem still_sq {z : Bool} : ∀ {k : Kd} {ds : List D}, still z (.val (sqD k ds)) = some ds
  | .l, _ => rfl
  | .t, _ => rfl
theorem ix_sq : ∀ {S : Sto} {k : Kd} {ds : List D} {i : Int}, index S (.val (sqD k ds)) (.val (.int i)) = atI ds i
  | _, .l, _, _ => rfl
  | _, .t, _, _ => rfl
theorem bi_lensq : ∀ {S : Sto} {k : Kd} {ds : List D}, biop S .len [.val (sqD k ds)] = some (.val (.int ds.length))
  | _, .l, _ => rfl
  | _, .t, _ => rfl
theorem bi_tupsq : ∀ {S : Sto} {k : Kd} {ds : List D}, biop S .tuple [.val (sqD k ds)] = some (.val (.tup ds))
  | _, .l, _ => rfl
  | _, .t, _ => rfl
theorem bi_listsq : ∀ {S : Sto} {k : Kd} {ds : List D}, biop S .list [.val (sqD k ds)] = some (.own ds)
  | _, .l, _ => rfl
  | _, .t, _ => rfl
theorem atI_mem {ds : List D} {r : Int} (h0 : 0 ≤ r) (h1 : r < ds.length) : ∃ d, d ∈ ds ∧ atI ds r = some d := by
  have h : r.toNat < ds.length := by omega
  exact ⟨ds[r.toNat], List.getElem_mem h, atI_at h0 (List.getElem?_eq_getElem h)⟩
theorem atI_map {α : Type} {f : α → D} {xs : List α} {i : Nat} {x : α} (h : xs[i]? = some x) : atI (xs.map f) (i : Int) = some (f x) := L2.atI_nat (by rw [List.getElem?_map, h]; rfl)
theorem ints?_map : ∀ is : List Int, ints? (is.map .int) = some is
  | [] => rfl
  | i :: is => by
    show (ints? (is.map .int)).map _ = _
    rw [ints?_map is]; rfl
theorem bls?_map : ∀ is : List Bool, bls? (is.map .bl) = some is
  | [] => rfl
  | i :: is => by
    show (bls? (is.map .bl)).map _ = _
    rw [bls?_map is]; rfl
theorem bi_sumo {S : Sto} {is : List Int} : biop S .sum [.own (is.map .int)] = some (.val (.int is.sum)) := by
  show (ints? (is.map .int)).map _ = _
  rw [ints?_map]; rfl
theorem bi_sumt {S : Sto} {is : List Int} : biop S .sum [.val (.tup (is.map .int))] = some (.val (.int is.sum)) := by
  show (ints? (is.map .int)).map _ = _
  rw [ints?_map]; rfl
theorem bi_sumq {S : Sto} {k : Kd} {is : List Int} : biop S .sum [.val (sqD k (is.map .int))] = some (.val (.int is.sum)) := by
  cases k <;> (show (ints? (is.map .int)).map _ = _; rw [ints?_map]; rfl)
theorem bi_maxt {S : Sto} {i : Int} {is : List Int} : biop S .max [.val (.tup ((i :: is).map .int))] = some (.val (.int (maxI i is))) := by
  show ((ints? ((i :: is).map .int)).bind _) = _
  rw [ints?_map]; rfl
theorem bi_mint {S : Sto} {i : Int} {is : List Int} : biop S .min [.val (.tup ((i :: is).map .int))] = some (.val (.int (minI i is))) := by
  show ((ints? ((i :: is).map .int)).bind _) = _
  rw [ints?_map]; rfl
theorem bi_maxo {S : Sto} {i : Int} {is : List Int} : biop S .max [.own ((i :: is).map .int)] = some (.val (.int (maxI i is))) := by
  show ((ints? ((i :: is).map .int)).bind _) = _
  rw [ints?_map]; rfl
theorem bi_minq {S : Sto} {k : Kd} {i : Int} {is : List Int} : biop S .min [.val (sqD k ((i :: is).map .int))] = some (.val (.int (minI i is))) := by
  cases k <;> (show ((ints? ((i :: is).map .int)).bind _) = _; rw [ints?_map]; rfl)
theorem ix_any {ds : List D} {r : Int} {Q : D → Prop} (P : D → Prop) (h0 : 0 ≤ r) (h1 : r < ds.length) (hP : ∀ d, d ∈ ds → P d) (q : ∀ d, P d → Q d) : ∃ d, atI ds r = some d ∧ Q d := by
  obtain ⟨d, hm, e⟩ := atI_mem h0 h1
  exact ⟨d, e, q d (hP d hm)⟩
theorem bi_allm {S : Sto} {is : List Bool} : biop S .all [.own (is.map .bl)] = some (.val (.bl (is.all id))) := by
  show (bls? (is.map .bl)).map _ = _
  rw [bls?_map]; rfl
theorem bi_anym {S : Sto} {is : List Bool} : biop S .any [.own (is.map .bl)] = some (.val (.bl (is.any id))) := by
  show (bls? (is.map .bl)).map _ = _
  rw [bls?_map]; rfl
section
variable {Φ : Fns} {G : List D} {ρ : Env} {S : Sto} {Qs : List D → Sto → Prop}
theorem wL_map {α : Type} {t : MT} {c : MO} {e : ME} {xs : List α} {f : α → D} (g : α → D) (hs : ∀ x, x ∈ xs → wTn Φ G t c e ρ (f x) S fun o S1 => o = some (g x) ∧ S1 = S) (hd : Qs (xs.map g) S) : wL Φ G t c e ρ (xs.map f) S Qs := by
  refine wL_inv (fun i ys S' => ys = (xs.take i).map g ∧ S' = S) ⟨rfl, rfl⟩ (fun i d ys S' hi h => ?_) fun ys S' h => ?_
  · obtain ⟨rfl, rfl⟩ := h
    rw [List.getElem?_map] at hi
    obtain ⟨x, hx, rfl⟩ := map_some hi
    obtain ⟨ρ1, S1, e1, b, S2, e2, q⟩ := hs x (List.mem_of_getElem? hx)
    have fin : ∀ o, o = some (g x) → (xs.take i).map g ++ o.toList = (xs.take (i + 1)).map g := fun o ho => by
      rw [List.take_add_one, hx, ho, List.map_append]; rfl
    refine ⟨ρ1, S1, e1, b, S2, e2, ?_⟩
    cases b with
    | false => rw [if_neg (by decide)] at q ⊢; exact ⟨fin _ q.1, q.2⟩
    | true =>
      rw [if_pos rfl] at q ⊢
      obtain ⟨z, S3, e3, y, hy, q⟩ := q
      exact ⟨z, S3, e3, y, hy, fin _ q.1, q.2⟩
  · obtain ⟨rfl, rfl⟩ := h
    rw [List.length_map, List.take_length]; exact hd

theorem wL_draw {β : Type} {t : MT} {c : MO} {e : ME} {ds : List D} (g : β → D) (P : β → Prop) (J : Nat → Sto → Prop) (h0 : J 0 S)
    (hs : ∀ i d S, ds[i]? = some d → J i S → wTn Φ G t c e ρ d S fun o S1 => ∃ b, o = some (g b) ∧ P b ∧ J (i + 1) S1)
    (hd : ∀ (bs : List β) S', bs.length = ds.length → (∀ b, b ∈ bs → P b) → J ds.length S' → Qs (bs.map g) S') : wL Φ G t c e ρ ds S Qs := by
  refine wL_inv (fun i ys S' => ∃ bs : List β, ys = bs.map g ∧ bs.length = i ∧ (∀ b, b ∈ bs → P b) ∧ J i S') ⟨[], rfl, rfl, (fun _ z => nomatch z), h0⟩ (fun i d ys S' hi h => ?_) fun ys S' h => ?_
  · obtain ⟨bs, rfl, hl, hP, hJ⟩ := h
    obtain ⟨ρ1, S1, e1, b, S2, e2, q⟩ := hs i d S' hi hJ
    have fin : ∀ o S3, (∃ b, o = some (g b) ∧ P b ∧ J (i + 1) S3) → ∃ bs' : List β, bs.map g ++ o.toList = bs'.map g ∧ bs'.length = i + 1 ∧ (∀ b, b ∈ bs' → P b) ∧ J (i + 1) S3 := fun o S3 ⟨b, ho, hb, hj⟩ => by
      refine ⟨bs ++ [b], by rw [ho, List.map_append]; rfl, by rw [List.length_append, hl]; rfl, fun x hx => ?_, hj⟩
      rcases List.mem_append.mp hx with z | z
      · exact hP x z
      · rw [List.mem_singleton.mp z]; exact hb
    refine ⟨ρ1, S1, e1, b, S2, e2, ?_⟩
    cases b with
    | false => rw [if_neg (by decide)] at q ⊢; exact fin _ _ q
    | true =>
      rw [if_pos rfl] at q ⊢
      obtain ⟨z, S3, e3, y, hy, q⟩ := q
      exact ⟨z, S3, e3, y, hy, fin _ _ q⟩
  · obtain ⟨bs, rfl, hl, hP, hJ⟩ := h
    exact hd bs S' hl hP hJ
end


theorem rep_tup {S : Sto} {xs : List D} {k : Int} {Q : Rt → Prop} : (∃ r, binop S .mul (.val (.tup xs)) (.val (.int k)) = some r ∧ Q r) ↔ (xs ≠ [] ∧ 2 ≤ k ∧ k ≤ 1000 ∧ xs.length ≤ 1000) ∧ Q (.val (.tup (List.replicate k.toNat xs).flatten)) := by
  show (∃ r, (if xs ≠ [] ∧ 2 ≤ k ∧ k ≤ 1000 ∧ xs.length ≤ 1000 then some (Rt.val (.tup (List.replicate k.toNat xs).flatten)) else none) = some r ∧ Q r) ↔ _
  split
  · rename_i h
    exact ⟨fun ⟨r, e, q⟩ => by cases e; exact ⟨h, q⟩, fun q => ⟨_, rfl, q.2⟩⟩
  · rename_i h
    exact ⟨fun ⟨r, e, q⟩ => (nomatch e), fun q => absurd q.1 h⟩
theorem bin_shl' {S : Sto} {i j : Int} {Q : Rt → Prop} : (∃ r, binop S .shl (.val (.int i)) (.val (.int j)) = some r ∧ Q r) ↔ (0 ≤ j ∧ j ≤ 1000000 ∧ i.natAbs < 2 ^ 64) ∧ Q (.val (.int (i * 2 ^ j.toNat))) := by
  show (∃ r, (if 0 ≤ j ∧ j ≤ 1000000 ∧ i.natAbs < 2 ^ 64 then some (i * 2 ^ j.toNat) else none).map (fun k => Rt.val (.int k)) = some r ∧ Q r) ↔ _
  split
  · rename_i h
    exact ⟨fun ⟨r, e, q⟩ => by cases e; exact ⟨h, q⟩, fun q => ⟨_, rfl, q.2⟩⟩
  · rename_i h
    exact ⟨fun ⟨r, e, q⟩ => (nomatch e), fun q => absurd q.1 h⟩
theorem cat_ss {S : Sto} {a b : Str} {Q : Rt → Prop} : (∃ r, binop S .add (.val (.str a)) (.val (.str b)) = some r ∧ Q r) ↔ a.length + b.length ≤ sizeLine ∧ Q (.val (.str (a ++ b))) := by
  show (∃ r, (if a.length + b.length ≤ sizeLine then some (Rt.val (.str (a ++ b))) else none) = some r ∧ Q r) ↔ _
  split
  · rename_i h
    exact ⟨fun ⟨r, e, q⟩ => by cases e; exact ⟨h, q⟩, fun q => ⟨_, rfl, q.2⟩⟩
  · rename_i h
    exact ⟨fun ⟨r, e, q⟩ => (nomatch e), fun q => absurd q.1 h⟩

noncomputable def Sh (n w : Nat) (d : D) : Prop := ∃ p, toPy d = some p ∧ p.canLay0 = true ∧ p.showable = true ∧ p.hasDict = false ∧ p.depth ≤ n ∧ p.leavesShort 130 = true ∧ p.bulk ≤ w
theorem Sh.mono {n n' w w' : Nat} {d : D} (h : Sh n w d) (hn : n ≤ n') (hw : w ≤ w') : Sh n' w' d := by
  obtain ⟨p, e, c, s, k, dp, l, b⟩ := h
  exact ⟨p, e, c, s, k, by omega, l, by omega⟩
theorem Sh.non : Sh 0 0 .non := ⟨.none, rfl, rfl, rfl, rfl, Nat.le_refl _, rfl, Nat.le_refl _⟩
theorem Sh.bl (b : Bool) : Sh 0 0 (.bl b) := ⟨.bool b, rfl, rfl, rfl, rfl, Nat.le_refl _, rfl, Nat.le_refl _⟩
theorem Sh.int {i : Int} (h1 : -170141183460469231731687303715884105728 < i) (h2 : i < 170141183460469231731687303715884105728) : Sh 0 0 (.int i) := by
  have hn : i.natAbs < 2 ^ 127 := by omega
  have hl : i.natAbs.log2 < 127 := by
    by_cases z : i.natAbs = 0
    · rw [z]; decide
    · exact (Nat.log2_lt z).mpr hn
  refine ⟨.int i, rfl, rfl, ?_, rfl, Nat.le_refl _, ?_, Nat.le_refl _⟩
  · unfold PyData.showable
    exact decide_eq_true (Nat.lt_trans hl (by decide))
  · unfold PyData.leavesShort
    refine decide_eq_true ?_
    have := int_text_length_le (a := i) (k := 127) (by decide) hl
    show (Str.ofString (toString i)).length ≤ 130
    rw [Str.ofString_eq_toList]
    show ((toString i).toList.map Char.toNat).toArray.size ≤ 130
    rw [List.size_toArray, List.length_map, String.length_toList]
    omega
theorem Sh.str {x : Str} (h : PyData.strOk x = true) : Sh 0 x.cps.size (.str x) := by
  refine ⟨.str x, rfl, h, rfl, rfl, Nat.le_refl _, ?_, Nat.le_refl _⟩
  unfold PyData.leavesShort
  unfold PyData.strOk at h
  rw [List.all_eq_true]
  intro c hc
  rw [Array.all_eq_true'] at h
  have := h c (Array.mem_toList_iff.mp hc)
  simp only [decide_eq_true_eq] at this ⊢
  exact Nat.lt_trans this (by decide)
theorem ofString_size (s : String) : (Str.ofString s).cps.size = s.length := by
  rw [Str.ofString_eq_toList]
  show (s.toList.map Char.toNat).toArray.size = _
  rw [List.size_toArray, List.length_map, String.length_toList]
theorem Sh.lit {s : String} {w : Nat} (h : s.length ≤ w) : Sh 0 w (.str (Str.ofString s)) :=
  (Sh.str (strOk_of s)).mono (Nat.le_refl _) (by rw [ofString_size]; exact h)
theorem Sh.all {n w : Nat} : ∀ {ds : List D}, (∀ d, d ∈ ds → Sh n w d) → ∃ ps, toPys ds = some ps ∧ PyData.canLayAll0 ps = true ∧ PyData.showableAll ps = true ∧ PyData.hasDictAll ps = false ∧ PyData.depthAll ps ≤ n ∧ PyData.leavesShortAll 130 ps = true ∧ PyData.bulkAll ps ≤ ds.length * (w + 1)
  | [], _ => ⟨[], rfl, rfl, rfl, rfl, Nat.zero_le _, rfl, Nat.zero_le _⟩
  | d :: ds, h => by
    obtain ⟨p, e, c, s, k, dp, l, b⟩ := h d List.mem_cons_self
    obtain ⟨ps, e2, c2, s2, k2, dp2, l2, b2⟩ := Sh.all (n := n) (w := w) (ds := ds) fun d hd => h d (List.mem_cons_of_mem _ hd)
    refine ⟨p :: ps, by unfold toPys; rw [e, e2]; rfl, by unfold PyData.canLayAll0; rw [c, c2]; rfl, by unfold PyData.showableAll; rw [s, s2]; rfl, by unfold PyData.hasDictAll; rw [k, k2]; rfl, by unfold PyData.depthAll; omega, by unfold PyData.leavesShortAll; rw [l, l2]; rfl, ?_⟩
    unfold PyData.bulkAll
    rw [List.length_cons, Nat.succ_mul]
    omega
theorem Sh.tup {n w : Nat} {ds : List D} (h : ∀ d, d ∈ ds → Sh n w d) : Sh (n + 1) (ds.length * (w + 1)) (.tup ds) := by
  obtain ⟨ps, e2, c2, s2, k2, dp2, l2, b2⟩ := Sh.all h
  exact ⟨.tuple ps, by unfold toPy; rw [e2]; rfl, by unfold PyData.canLay0; exact c2, by unfold PyData.showable; exact s2, by unfold PyData.hasDict; exact k2, by unfold PyData.depth; omega, by unfold PyData.leavesShort; exact l2, by unfold PyData.bulk; exact b2⟩
theorem Sh.lst {n w : Nat} {ds : List D} (h : ∀ d, d ∈ ds → Sh n w d) : Sh (n + 1) (ds.length * (w + 1)) (.lst ds) := by
  obtain ⟨ps, e2, c2, s2, k2, dp2, l2, b2⟩ := Sh.all h
  exact ⟨.list ps, by unfold toPy; rw [e2]; rfl, by unfold PyData.canLay0; exact c2, by unfold PyData.showable; exact s2, by unfold PyData.hasDict; exact k2, by unfold PyData.depth; omega, by unfold PyData.leavesShort; exact l2, by unfold PyData.bulk; exact b2⟩

theorem Sh.two {n w1 w2 : Nat} {a b : D} (h1 : Sh n w1 a) (h2 : Sh n w2 b) : Sh (n + 1) (w1 + w2 + 2) (.tup [a, b]) ∧ Sh (n + 1) (w1 + w2 + 2) (.lst [a, b]) := by
  obtain ⟨p, e, c, s, k, dp, l, bk⟩ := h1
  obtain ⟨p2, e2, c2, s2, k2, dp2, l2, bk2⟩ := h2
  have ep : toPys [a, b] = some [p, p2] := by unfold toPys toPys toPys; rw [e, e2]; rfl
  refine ⟨⟨.tuple [p, p2], by unfold toPy; rw [ep]; rfl, ?_, ?_, ?_, ?_, ?_, ?_⟩, ⟨.list [p, p2], by unfold toPy; rw [ep]; rfl, ?_, ?_, ?_, ?_, ?_, ?_⟩⟩
  all_goals simp only [PyData.canLay0, PyData.canLayAll0, PyData.showable, PyData.showableAll, PyData.hasDict, PyData.hasDictAll, PyData.depth, PyData.depthAll, PyData.leavesShort, PyData.leavesShortAll, PyData.bulk, PyData.bulkAll, c, c2, s, s2, k, k2, l, l2, Bool.and_self, Bool.or_self]
  all_goals omega

noncomputable def strD (d : D) : Str := ((toPy d).map PyData.shown).getD ""
theorem bi_strv {S : Sto} {d : D} {n w : Nat} (h : Sh n w d) (hs : (Rt.val d).str? = none) (hn : n ≤ 64) (hw : w ≤ 127000) : biop S .str [.val d] = some (.val (.str (strD d))) := by
  obtain ⟨p, e, c, s, k, dp, l, b⟩ := h
  show bi1 S .str (.val d) = _
  have hl := PyData.shown_le_bulk 130 (by decide) p l
  have hz : p.shown.length ≤ sizeLine := by
    have : sizeLine = 16777216 := rfl
    omega
  unfold bi1
  dsimp only
  rw [hs]
  dsimp only
  rw [show pyR (.val d) = toPy d from rfl, e, Option.bind_some, if_pos ⟨s, k, by omega, hz⟩]
  unfold strD
  rw [e]; rfl
theorem Sh.shaped {n w : Nat} {d : D} (h : Sh n w d) (hn : n ≤ 64) : ∃ p, toPy d = some p ∧ SeqAt.shaped p = true ∧ p.canLay0 = true := by
  obtain ⟨p, e, c, s, k, dp, l, b⟩ := h
  exact ⟨p, e, by unfold SeqAt.shaped; rw [c, decide_eq_true (show p.depth ≤ 64 by omega)]; rfl, c⟩

noncomputable def eqD (a b : D) : Bool := match toPy a, toPy b with
  | some p, some q => PyData.eqv p q
  | _, _ => false
theorem pyS1_p {S : Sto} {d : D} {p : PyData} (h : toPy d = some p) : pyS1 S d = some p := by
  cases d <;> first | exact h | cases h
theorem pySs_p {S : Sto} : ∀ {ds : List D} {ps : List PyData}, toPys ds = some ps → pySs S ds = some ps
  | [], ps, h => h
  | d :: ds, ps, h => by
    unfold toPys at h
    obtain ⟨x, h1, h⟩ := Mi.bind_some h
    obtain ⟨r, h2, h⟩ := map_some h
    subst h
    unfold pySs
    rw [pyS1_p h1, Option.bind_some, pySs_p h2]; rfl
theorem pyS_p {S : Sto} {d : D} {p : PyData} (h : toPy d = some p) : pyS S (.val d) = some p := by
  cases d with
  | tup ds =>
    unfold toPy at h
    obtain ⟨r, h2, h⟩ := map_some h
    subst h
    show (pySs S ds).map PyData.tuple = _
    rw [pySs_p h2]; rfl
  | ref l => cases h
  | _ => exact h
theorem eqop_pf {S : Sto} {x y : Rt} {p q : PyData} (hx : pyS S x = some p) (hy : pyS S y = some q) (sp : SeqAt.shaped p = true) (sq : SeqAt.shaped q = true) : eqop S x y = some (PyData.eqv p q) := by
  unfold eqop
  split
  · rename_i i j h1 h2
    rw [str?_some h1] at hx
    rw [str?_some h2] at hy
    cases (show some (PyData.str i) = some p from hx)
    cases (show some (PyData.str j) = some q from hy)
    unfold PyData.eqv
    congr 1
  · unfold eqop0
    rw [hx, hy, Option.bind_some, Option.bind_some, if_pos ⟨sp, sq⟩]
theorem cmp_eqD {S : Sto} {a b : D} {n w m v : Nat} (ha : Sh n w a) (hb : Sh m v b) (hn : n ≤ 64) (hm : m ≤ 64) : cmpop S .eq (.val a) (.val b) = some (eqD a b) := by
  obtain ⟨p, e, s, _⟩ := ha.shaped hn
  obtain ⟨q, e2, s2, _⟩ := hb.shaped hm
  show eqop S _ _ = _
  rw [eqop_pf (pyS_p e) (pyS_p e2) s s2]
  unfold eqD; rw [e, e2]
theorem cmp_neD {S : Sto} {a b : D} {n w m v : Nat} (ha : Sh n w a) (hb : Sh m v b) (hn : n ≤ 64) (hm : m ≤ 64) : cmpop S .ne (.val a) (.val b) = some (!eqD a b) := by
  have h := cmp_eqD (S := S) ha hb hn hm
  show (eqop S _ _).map _ = _
  rw [show eqop S (.val a) (.val b) = _ from h]; rfl
theorem eqD_self {a : D} {n w : Nat} (h : Sh n w a) : eqD a a = true := by
  obtain ⟨p, e, c, _⟩ := h
  unfold eqD
  rw [e]
  exact SeqAt.eqv_refl _ c
theorem cmp_selfn {S : Sto} {d : D} {n w : Nat} (h : Sh n w d) (hn : n ≤ 64) : cmpop S .ne (.val d) (.val d) = some false := by rw [cmp_neD h h hn hn, eqD_self h]; rfl
end Mi
end
noncomputable section
namespace Mi
open PySem L2

noncomputable def l_box : FD := ⟨2, 3, (.cons (.asg (.nm 2) (.idx (.bin .add (.var 0) (.bin .mul (.lst (.cons (.con (.int 0)) .nil)) (.bin .add (.var 1) (.con (.int 1))))) (.var 1))) (.cons (.ret (.lst (.cons (.bin .mul (.bi .abs (.cons (.var 2) .nil)) (.bi .int (.cons (.cmp .ge (.bi .abs (.cons (.var 2) .nil)) (.bin .pow (.con (.int 10)) (.con (.int 18)))) .nil))) (.cons (.bin .mod (.bin .mul (.bin .add (.bin .add (.bin .mod (.var 2) (.con (.int 2147483647))) (.bin .mul (.con (.int 7919)) (.var 1))) (.con (.int 11))) (.con (.int 48271))) (.con (.int 2147483629))) (.cons (.con (.int 0)) .nil))))) .nil))⟩

noncomputable def l_take : FD := ⟨2, 4, (.cons (.ite (.cmp .gt (.idx (.var 0) (.con (.int 0))) (.con (.int 0))) (.cons (.asg (.tp (.cons (.sub (.var 0) (.con (.int 0))) (.cons (.nm 3) .nil))) (.bi .divmod (.cons (.idx (.var 0) (.con (.int 0))) (.cons (.var 1) .nil)))) (.cons (.ret (.var 3)) .nil)) .nil) (.cons (.asg (.sub (.var 0) (.con (.int 2))) (.bin .add (.idx (.var 0) (.con (.int 2))) (.con (.int 1)))) (.cons (.asg (.nm 2) (.bin .mod (.bin .mul (.bin .add (.idx (.var 0) (.con (.int 1))) (.bin .mul (.con (.int 39373)) (.idx (.var 0) (.con (.int 2))))) (.bin .add (.con (.int 48271)) (.idx (.var 0) (.con (.int 2))))) (.con (.int 2147483647)))) (.cons (.asg (.sub (.var 0) (.con (.int 1))) (.bin .mod (.bin .add (.bin .mul (.var 2) (.bin .add (.bin .mod (.var 2) (.con (.int 40009))) (.con (.int 7)))) (.idx (.var 0) (.con (.int 2)))) (.con (.int 2147483629)))) (.cons (.ret (.bin .mod (.bin .fdiv (.bin .mod (.bin .mul (.idx (.var 0) (.con (.int 1))) (.bin .add (.bin .mod (.idx (.var 0) (.con (.int 1))) (.con (.int 1009))) (.con (.int 3)))) (.con (.int 998244353))) (.con (.int 7))) (.var 1))) .nil)))))⟩

noncomputable def l_folded : FD := ⟨2, 5, (.cons (.own 2 (.bi .list (.cons (.slc (.var 0) .no (.yes (.var 1))) .nil))) (.cons (.forr (.tp (.cons (.nm 3) (.cons (.nm 4) .nil))) (.enm (.slc (.var 0) (.yes (.var 1)) (.yes (.con (.int 63))))) (.cons (.sown 2 (.bin .mod (.var 3) (.var 1)) (.bin .add (.idx (.bor 2) (.bin .mod (.var 3) (.var 1))) (.bin .mul (.var 4) (.bin .add (.var 3) (.con (.int 2)))))) .nil)) (.cons (.reto 2) .nil)))⟩

noncomputable def l_term : FD := ⟨3, 5, (.cons (.asg (.nm 3) (.call 4 (.cons (.var 0) (.cons (.con (.int 10)) .nil)))) (.cons (.ite (.cmp .eq (.var 3) (.con (.int 9))) (.cons (.ret (.tup (.cons (.con (.str "any")) .nil))) .nil) .nil) (.cons (.ite (.or (.cmp .lt (.var 2) (.con (.int 2))) (.cmp .lt (.var 3) (.con (.int 5)))) (.cons (.ret (.tup (.cons (.con (.str "is")) (.cons (.call 4 (.cons (.var 0) (.cons (.var 1) .nil))) .nil)))) .nil) .nil) (.cons (.ite (.cmp .eq (.var 3) (.con (.int 5))) (.cons (.ret (.tup (.cons (.con (.str "not")) (.cons (.call 7 (.cons (.var 0) (.cons (.var 1) (.cons (.bin .sub (.var 2) (.con (.int 1))) .nil)))) .nil)))) .nil) .nil) (.cons (.asg (.nm 4) (.idx (.lst (.cons (.con (.str "and")) (.cons (.con (.str "or")) .nil))) (.call 4 (.cons (.var 0) (.cons (.con (.int 2)) .nil))))) (.cons (.ret (.tup (.cons (.var 4) (.cons (.call 7 (.cons (.var 0) (.cons (.var 1) (.cons (.bin .sub (.var 2) (.con (.int 1))) .nil)))) (.cons (.call 7 (.cons (.var 0) (.cons (.var 1) (.cons (.bin .sub (.var 2) (.con (.int 1))) .nil)))) .nil))))) .nil))))))⟩

noncomputable def l_boxes : FD := ⟨2, 4, (.cons (.asg (.nm 2) (.call 5 (.cons (.var 0) (.cons (.var 1) .nil)))) (.cons (.ret (.comp [3] (.nm 3) (.rng1 (.bi .max (.cons (.con (.int 1)) (.cons (.bi .len (.cons (.var 2) .nil)) .nil)))) .no (.new (.call 3 (.cons (.var 2) (.cons (.var 3) .nil)))))) .nil))⟩

















noncomputable def l_number : FD := ⟨2, 3, (.cons (.asg (.nm 2) (.lst (.cons (.call 4 (.cons (.var 0) (.cons (.con (.int 4)) .nil))) (.cons (.call 4 (.cons (.var 0) (.cons (.con (.int 4)) .nil))) (.cons (.bi .max (.cons (.con (.int 0)) (.cons (.bin .sub (.var 1) (.call 4 (.cons (.var 0) (.cons (.con (.int 3)) .nil)))) .nil))) (.cons (.call 4 (.cons (.var 0) (.cons (.con (.int 41)) .nil))) .nil)))))) (.cons (.ret (.idx (.var 2) (.call 4 (.cons (.var 0) (.cons (.con (.int 4)) .nil))))) .nil))⟩

noncomputable def l_names : FD := ⟨2, 6, (.cons (.asg (.nm 2) (.o2 .split (.con (.str "a thing alls b every ares zzzzzzzz nots x isa the any ab ofs shares q parents y mosts z")) (.con (.str " ")))) (.cons (.asg (.nm 3) (.call 4 (.cons (.var 0) (.cons (.bi .len (.cons (.var 2) .nil)) .nil)))) (.cons (.asg (.nm 4) (.idx (.lst (.cons (.con (.int 1)) (.cons (.con (.int 3)) (.cons (.con (.int 7)) .nil)))) (.call 4 (.cons (.var 0) (.cons (.con (.int 3)) .nil))))) (.cons (.ret (.comp [5] (.nm 5) (.rng1 (.var 1)) .no (.idx (.var 2) (.bin .mod (.bin .add (.var 3) (.bin .mul (.var 4) (.var 5))) (.bi .len (.cons (.var 2) .nil)))))) .nil))))⟩

noncomputable def l_is_number_1 : FD := ⟨1, 1, (.cons (.ret (.and (.bi (.isi1 .int) (.cons (.var 0) .nil)) (.not (.bi (.isi1 .bool) (.cons (.var 0) .nil))))) .nil)⟩


















noncomputable def GG : List D := [.dct [.inr "all", .inr "notall", .inr "some", .inr "none", .inr "share", .inr "under", .inr "more", .inr "asmany"] [.str "notall", .str "all", .str "none", .str "some", .str "under", .str "share", .str "asmany", .str "more"], .dct [.inr "all", .inr "notall", .inr "some", .inr "none", .inr "more", .inr "asmany"] [.int 0, .int 1, .int 1, .int 0, .int 1, .int 0], .dct [.inr "all", .inr "notall", .inr "some", .inr "none", .inr "more", .inr "asmany", .inr "least", .inr "most"] [.tup [.int 0, .int (-1), .int 0], .tup [.int 0, .int 1, .int 0], .tup [.int 1, .int 0, .int 0], .tup [.int (-1), .int 0, .int 0], .tup [.int 0, .int 1, .int (-1)], .tup [.int 0, .int 1, .int (-1)], .tup [.int 1, .int 0, .int 0], .tup [.int (-1), .int 0, .int 0]], .int 8, .tup [.str "all", .str "notall", .str "some", .str "none", .str "more", .str "asmany"], .tup [.str "least", .str "most", .str "just"], .int 41, .int 12, .tup [.str "share", .str "under"], .dct [.inr "all", .inr "notall", .inr "some", .inr "none", .inr "least", .inr "most", .inr "just", .inr "more", .inr "asmany", .inr "share", .inr "under"] [.str "all", .str "not all", .str "some", .str "no", .str "at least", .str "at most", .str "exactly", .str "more", .str "as many", .str "share", .str "not share"], .dct [.inr "more", .inr "asmany"] [.str "than", .str "as"], .dct [.inr "sum", .inr "whole", .inr "cases"] [.int 2, .int 4, .int 5], .dct [.inr "sum", .inr "whole", .inr "cases"] [.tup [], .tup [.str "by", .str "then"], .tup [.str "at", .str "then", .str "or"]], .str "0123456789", .str "saying", .int 10, .str "0123456789", .dct [.inr "all", .inr "some", .inr "no", .inr "exactly", .inr "more", .inr "share"] [.str "all", .str "some", .str "none", .str "just", .str "more", .str "share"], .tup [.str "not", .str "at", .str "as"], .dct [.inr "not all", .inr "not share", .inr "at least", .inr "at most", .inr "as many"] [.str "notall", .str "under", .str "least", .str "most", .str "asmany"], .int 4, .tup [.str "all", .str "some", .str "no", .str "not", .str "at", .str "least", .str "most", .str "exactly", .str "more", .str "as", .str "many", .str "than", .str "of", .str "are", .str "and", .str "or", .str "things", .str "share"], .tup [.str "world", .str "fewest", .str "clash", .str "labels"], .tup [.str "follows", .str "settled", .str "why"], .int 300, .int 120, .str "none"]
end Mi
end
noncomputable section
namespace Mi
open PySem L2
abbrev Row := List Int × Int
noncomputable def dRow (r : Row) : D := .tup [.tup (r.1.map .int), .int r.2]
noncomputable def RowOk (w : Nat) (M : Int) (r : Row) : Prop := r.1.length = w ∧ (∀ x, x ∈ r.1 → -M ≤ x ∧ x ≤ M) ∧ -M ≤ r.2 ∧ r.2 ≤ M


theorem ix_row0 {S : Sto} {r : Row} : index S (.val (dRow r)) (.val (.int 0)) = some (.tup (r.1.map .int)) := by
  unfold dRow; rw [ix_tup]; exact atI_0
theorem ix_row1 {S : Sto} {r : Row} : index S (.val (dRow r)) (.val (.int 1)) = some (.int r.2) := by
  unfold dRow; rw [ix_tup]; exact atI_1
theorem wI_zip2 {z : Bool} {Φ : Fns} {G : List D} {ρ : Env} {S : Sto} {Qs : List D → Sto → Prop} {a b : ME} : wI Φ G ρ z (.zip a b) S Qs ↔ wE Φ G ρ a S fun x S1 => wE Φ G ρ b S1 fun y S2 => ∃ xs, still z x = some xs ∧ ∃ ys, still z y = some ys ∧ Qs (zipL xs ys) S2 := by
  rw [wI_zip]
  simp only [exists_and_left]
theorem cat_tt {S : Sto} {xs ys : List D} {Q : Rt → Prop} : (∃ r, binop S .add (.val (.tup xs)) (.val (.tup ys)) = some r ∧ Q r) ↔ xs.length + ys.length ≤ sizeLine ∧ Q (.val (.tup (xs ++ ys))) := by
  show (∃ r, (if xs.length + ys.length ≤ sizeLine then some (Rt.val (.tup (xs ++ ys))) else none) = some r ∧ Q r) ↔ _
  split
  · rename_i h
    constructor
    · rintro ⟨r, e, q⟩; cases e; exact ⟨h, q⟩
    · rintro ⟨_, q⟩; exact ⟨_, rfl, q⟩
  · rename_i h
    constructor
    · rintro ⟨r, e, q⟩; cases e
    · rintro ⟨h', _⟩; exact absurd h' h
theorem bi_sumf {S : Sto} {α : Type} {f : α → Int} {xs : List α} : biop S .sum [.own (xs.map fun x => .int (f x))] = some (.val (.int (xs.map f).sum)) := by
  rw [show (xs.map fun x => D.int (f x)) = (xs.map f).map .int by rw [List.map_map]; rfl, bi_sumo]
theorem bi_allt {S : Sto} {α : Type} {xs : List α} : biop S .all [.own (xs.map fun _ => .bl true)] = some (.val (.bl true)) := by
  rw [show (xs.map fun _ => D.bl true) = (xs.map fun _ => true).map .bl by rw [List.map_map]; rfl, bi_allm]
  congr 3
  rw [List.all_map, List.all_eq_true]
  intro x _; rfl
theorem RowOk.mono {w : Nat} {M M' : Int} {r : Row} (h : RowOk w M r) (hM : M ≤ M') : RowOk w M' r := ⟨h.1, fun x hx => by have := h.2.1 x hx; omega, by have := h.2.2; omega, by have := h.2.2; omega⟩
theorem bi_lenrow {S : Sto} {r : Row} : biop S .len [.val (dRow r)] = some (.val (.int 2)) := rfl
theorem cat_bo {S : Sto} {xs ys : List D} {Q : Rt → Prop} : (∃ r, binop S .add (.bor xs) (.own ys) = some r ∧ Q r) ↔ xs.length + ys.length ≤ sizeLine ∧ Q (.own (xs ++ ys)) := cat_any rfl rfl rfl rfl rfl
theorem cat_ob {S : Sto} {xs ys : List D} {Q : Rt → Prop} : (∃ r, binop S .add (.own xs) (.bor ys) = some r ∧ Q r) ↔ xs.length + ys.length ≤ sizeLine ∧ Q (.own (xs ++ ys)) := cat_any rfl rfl rfl rfl rfl
theorem cat_bl {S : Sto} {xs ys : List D} {Q : Rt → Prop} : (∃ r, binop S .add (.bor xs) (.val (.lst ys)) = some r ∧ Q r) ↔ xs.length + ys.length ≤ sizeLine ∧ Q (.own (xs ++ ys)) := cat_any rfl rfl rfl rfl rfl
theorem cat_lb {S : Sto} {xs ys : List D} {Q : Rt → Prop} : (∃ r, binop S .add (.val (.lst xs)) (.bor ys) = some r ∧ Q r) ↔ xs.length + ys.length ≤ sizeLine ∧ Q (.own (xs ++ ys)) := cat_any rfl rfl rfl rfl rfl
theorem bi_leno {S : Sto} {ds : List D} : biop S .len [.own ds] = some (.val (.int ds.length)) := rfl
theorem bi_lenb {S : Sto} {ds : List D} : biop S .len [.bor ds] = some (.val (.int ds.length)) := rfl
theorem bi_listb {S : Sto} {ds : List D} : biop S .list [.bor ds] = some (.own ds) := rfl
theorem sl_own {S : Sto} {ds : List D} {lo hi : Option Int} : slice S (.own ds) lo hi = some (.own (cutD ds lo hi)) := rfl
theorem sl_bor {S : Sto} {ds : List D} {lo hi : Option Int} : slice S (.bor ds) lo hi = some (.own (cutD ds lo hi)) := rfl
theorem tyD_row {r : Row} {t : Ty} : tyD (dRow r) t = decide (t = .tuple) := rfl

theorem cmp_notin {S : Sto} {x y : Rt} : cmpop S .notin x y = (cmpop S .isin x y).map fun b => !b := rfl
theorem inop_f {S : Sto} {x : D} {y : Rt} {ds : List D} (hy : sview S y = some ds) (hx : flatD x = true) (hd : ds.all flatD = true) : cmpop S .isin (.val x) y = some (inV (vOf x) (ds.map vOf)) := by
  show inop S (.val x) y = _
  unfold inop
  have e : ((Rt.val x).val?.bind fun d => (sview S y).bind fun ds => inD d ds) = some (inV (vOf x) (ds.map vOf)) := by
    show ((sview S y).bind fun ds => inD x ds) = _
    rw [hy, Option.bind_some]
    unfold inD
    rw [if_pos ⟨hx, hd⟩]
  rw [e]
theorem in_nil {S : Sto} {x : Str} : cmpop S .isin (.val (.str x)) (.val (.tup [])) = some false := rfl
theorem in_cons {S : Sto} {x y : Str} {ds : List D} (h : ds.all flatD = true) : cmpop S .isin (.val (.str x)) (.val (.tup (.str y :: ds))) = (cmpop S .isin (.val (.str x)) (.val (.tup ds))).map fun b => decide (y = x) || b := by
  rw [inop_f (ds := .str y :: ds) rfl rfl (by rw [List.all_cons, h]; rfl), inop_f (ds := ds) rfl rfl h]
  show some (eqV (.str y) (.str x) || inV (.str x) (ds.map vOf)) = some (decide (y = x) || inV (.str x) (ds.map vOf))
  congr 2
theorem flatD_s {x : Str} : flatD (.str x) = true := rfl
theorem flatD_i {x : Int} : flatD (.int x) = true := rfl
theorem ints_flat (is : List Int) : (is.map D.int).all flatD = true := by
  rw [List.all_eq_true]
  intro d hd
  obtain ⟨i, _, rfl⟩ := List.mem_map.mp hd
  rfl
theorem inV_ints (i : Int) : ∀ is : List Int, inV (.int i) ((is.map D.int).map vOf) = decide (i ∈ is)
  | [] => by simp [inV]
  | j :: is => by
    show (eqV (.int j) (.int i) || inV (.int i) ((is.map D.int).map vOf)) = _
    rw [inV_ints i is]
    show ((j == i) || decide (i ∈ is)) = _
    by_cases h : j = i
    · subst h; simp
    · simp [h, Ne.symm h]
theorem in_intsT {S : Sto} {i : Int} {is : List Int} : cmpop S .isin (.val (.int i)) (.val (.tup (is.map .int))) = some (decide (i ∈ is)) := by
  rw [inop_f (ds := is.map .int) rfl rfl (ints_flat is), ← inV_ints i is]; rfl
theorem in_intsL {S : Sto} {i : Int} {is : List Int} : cmpop S .isin (.val (.int i)) (.val (.lst (is.map .int))) = some (decide (i ∈ is)) := by
  rw [inop_f (ds := is.map .int) rfl rfl (ints_flat is), ← inV_ints i is]; rfl
theorem in_intsB {S : Sto} {i : Int} {is : List Int} : cmpop S .isin (.val (.int i)) (.bor (is.map .int)) = some (decide (i ∈ is)) := by
  rw [inop_f (ds := is.map .int) rfl rfl (ints_flat is), ← inV_ints i is]; rfl
theorem Sh.ints {xs : List Int} (h : ∀ x, x ∈ xs → -1000000000000000000000000000000000000 ≤ x ∧ x ≤ 1000000000000000000000000000000000000) : Sh 1 xs.length (.tup (xs.map .int)) ∧ Sh 1 xs.length (.lst (xs.map .int)) := by
  have e : ∀ d, d ∈ xs.map D.int → Sh 0 0 d := fun d hd => by
    obtain ⟨x, hx, rfl⟩ := List.mem_map.mp hd
    have := h x hx
    exact .int (by omega) (by omega)
  have h1 := Sh.tup e
  have h2 := Sh.lst e
  rw [List.length_map, Nat.zero_add, Nat.mul_one] at h1 h2
  exact ⟨h1, h2⟩

theorem divok_s {j : Int} (h1 : 0 < j) (h2 : j < 1073741824) : DivOk j = True := eq_true (divok h1 h2)
theorem mulok_ls {i j : Int} (h1 : -18446744073709551616 < i) (h2 : i < 18446744073709551616) : MulOk i j = True := eq_true (mulok_l h1 h2)
theorem mulok_rs {i j : Int} (h1 : -18446744073709551616 < j) (h2 : j < 18446744073709551616) : MulOk i j = True := eq_true (mulok_r h1 h2)

theorem isi1_n {S : Sto} {t : Ty}  : biop S (.isi1 t) [.val .non] = some (.val (.bl (tyD .non t))) := rfl
theorem isi_n {S : Sto} {ts : List Ty}  : biop S (.isi ts) [.val .non] = some (.val (.bl (ts.any fun t => tyD .non t))) := rfl
theorem isi1_b {S : Sto} {t : Ty} {b : Bool} : biop S (.isi1 t) [.val (.bl b)] = some (.val (.bl (tyD (.bl b) t))) := rfl
theorem isi_b {S : Sto} {ts : List Ty} {b : Bool} : biop S (.isi ts) [.val (.bl b)] = some (.val (.bl (ts.any fun t => tyD (.bl b) t))) := rfl
theorem isi1_i {S : Sto} {t : Ty} {b : Int} : biop S (.isi1 t) [.val (.int b)] = some (.val (.bl (tyD (.int b) t))) := rfl
theorem isi_i {S : Sto} {ts : List Ty} {b : Int} : biop S (.isi ts) [.val (.int b)] = some (.val (.bl (ts.any fun t => tyD (.int b) t))) := rfl
theorem isi1_s {S : Sto} {t : Ty} {b : Str} : biop S (.isi1 t) [.val (.str b)] = some (.val (.bl (tyD (.str b) t))) := rfl
theorem isi_s {S : Sto} {ts : List Ty} {b : Str} : biop S (.isi ts) [.val (.str b)] = some (.val (.bl (ts.any fun t => tyD (.str b) t))) := rfl
theorem isi1_t {S : Sto} {t : Ty} {b : List D} : biop S (.isi1 t) [.val (.tup b)] = some (.val (.bl (tyD (.tup b) t))) := rfl
theorem isi_t {S : Sto} {ts : List Ty} {b : List D} : biop S (.isi ts) [.val (.tup b)] = some (.val (.bl (ts.any fun t => tyD (.tup b) t))) := rfl
theorem isi1_l {S : Sto} {t : Ty} {b : List D} : biop S (.isi1 t) [.val (.lst b)] = some (.val (.bl (tyD (.lst b) t))) := rfl
theorem isi_l {S : Sto} {ts : List Ty} {b : List D} : biop S (.isi ts) [.val (.lst b)] = some (.val (.bl (ts.any fun t => tyD (.lst b) t))) := rfl
theorem isi1_c {S : Sto} {t : Ty} {b : List D} : biop S (.isi1 t) [.val (.scr b)] = some (.val (.bl (tyD (.scr b) t))) := rfl
theorem isi_c {S : Sto} {ts : List Ty} {b : List D} : biop S (.isi ts) [.val (.scr b)] = some (.val (.bl (ts.any fun t => tyD (.scr b) t))) := rfl
theorem isi1_r {S : Sto} {t : Ty} {b : Row} : biop S (.isi1 t) [.val (dRow b)] = some (.val (.bl (tyD (dRow b) t))) := rfl
theorem isi_r {S : Sto} {ts : List Ty} {b : Row} : biop S (.isi ts) [.val (dRow b)] = some (.val (.bl (ts.any fun t => tyD (dRow b) t))) := rfl
theorem isi1_q {S : Sto} {t : Ty} {k : Kd} {ds : List D} : biop S (.isi1 t) [.val (sqD k ds)] = some (.val (.bl (tyD (sqD k ds) t))) := by cases k <;> rfl
theorem isi_q {S : Sto} {ts : List Ty} {k : Kd} {ds : List D} : biop S (.isi ts) [.val (sqD k ds)] = some (.val (.bl (ts.any fun t => tyD (sqD k ds) t))) := by cases k <;> rfl
theorem isi_o {S : Sto} {ts : List Ty} {ds : List D} : biop S (.isi ts) [.own ds] = some (.val (.bl (ts.any fun t => decide (t = .list)))) := rfl

theorem in_1 {S : Sto} {x y0 : Str} : cmpop S .isin (.val (.str x)) (.val (.tup [.str y0])) = some (decide (y0 = x)) := by
  rw [in_cons rfl, in_nil]
  simp only [Option.map_some, Bool.or_false]
theorem in_2 {S : Sto} {x y0 y1 : Str} : cmpop S .isin (.val (.str x)) (.val (.tup [.str y0, .str y1])) = some (decide (y0 = x) || (decide (y1 = x))) := by
  rw [in_cons rfl, in_cons rfl, in_nil]
  simp only [Option.map_some, Bool.or_false]
theorem in_3 {S : Sto} {x y0 y1 y2 : Str} : cmpop S .isin (.val (.str x)) (.val (.tup [.str y0, .str y1, .str y2])) = some (decide (y0 = x) || (decide (y1 = x) || (decide (y2 = x)))) := by
  rw [in_cons rfl, in_cons rfl, in_cons rfl, in_nil]
  simp only [Option.map_some, Bool.or_false]
theorem in_4 {S : Sto} {x y0 y1 y2 y3 : Str} : cmpop S .isin (.val (.str x)) (.val (.tup [.str y0, .str y1, .str y2, .str y3])) = some (decide (y0 = x) || (decide (y1 = x) || (decide (y2 = x) || (decide (y3 = x))))) := by
  rw [in_cons rfl, in_cons rfl, in_cons rfl, in_cons rfl, in_nil]
  simp only [Option.map_some, Bool.or_false]
theorem in_5 {S : Sto} {x y0 y1 y2 y3 y4 : Str} : cmpop S .isin (.val (.str x)) (.val (.tup [.str y0, .str y1, .str y2, .str y3, .str y4])) = some (decide (y0 = x) || (decide (y1 = x) || (decide (y2 = x) || (decide (y3 = x) || (decide (y4 = x)))))) := by
  rw [in_cons rfl, in_cons rfl, in_cons rfl, in_cons rfl, in_cons rfl, in_nil]
  simp only [Option.map_some, Bool.or_false]
theorem in_6 {S : Sto} {x y0 y1 y2 y3 y4 y5 : Str} : cmpop S .isin (.val (.str x)) (.val (.tup [.str y0, .str y1, .str y2, .str y3, .str y4, .str y5])) = some (decide (y0 = x) || (decide (y1 = x) || (decide (y2 = x) || (decide (y3 = x) || (decide (y4 = x) || (decide (y5 = x))))))) := by
  rw [in_cons rfl, in_cons rfl, in_cons rfl, in_cons rfl, in_cons rfl, in_cons rfl, in_nil]
  simp only [Option.map_some, Bool.or_false]
theorem in_11 {S : Sto} {x y0 y1 y2 y3 y4 y5 y6 y7 y8 y9 y10 : Str} : cmpop S .isin (.val (.str x)) (.val (.tup [.str y0, .str y1, .str y2, .str y3, .str y4, .str y5, .str y6, .str y7, .str y8, .str y9, .str y10])) = some (decide (y0 = x) || (decide (y1 = x) || (decide (y2 = x) || (decide (y3 = x) || (decide (y4 = x) || (decide (y5 = x) || (decide (y6 = x) || (decide (y7 = x) || (decide (y8 = x) || (decide (y9 = x) || (decide (y10 = x)))))))))))) := by
  rw [in_cons rfl, in_cons rfl, in_cons rfl, in_cons rfl, in_cons rfl, in_cons rfl, in_cons rfl, in_cons rfl, in_cons rfl, in_cons rfl, in_cons rfl, in_nil]
  simp only [Option.map_some, Bool.or_false]
end Mi
end
local macro_rules | `(tactic| walk_at "w") => `(tactic| try simp only [Mi.wSs_cons, Mi.wSs_nil, Mi.wS_asg, Mi.wS_own, Mi.wS_aug, Mi.wS_app, Mi.wS_ext, Mi.exV_o, Mi.exV_t, Mi.wS_rev, Mi.wS_sown, Mi.wS_pops, Mi.wS_ite, Mi.wS_for, Mi.wS_ret, Mi.wS_reto, Mi.wS_expr, Mi.wS_frz, Mi.wS_par, Mi.wS_par3, Mi.slOf_f, Mi.slOf_fo, Mi.slOf_t, Mi.frzN_own, Mi.frzN_val, Mi.retOk_v, Mi.retOk_o,
  Mi.wE_var, Mi.wE_bor, Mi.wE_con, Mi.wE_glb, Mi.wE_bin, Mi.wE_cmp, Mi.wE_idx, Mi.wE_neg, Mi.wE_not, Mi.wE_and, Mi.wE_or, Mi.wE_ite, Mi.wE_chn, Mi.wE_tup, Mi.wE_lst, Mi.wE_slc, Mi.wE_call, Mi.wE_callp, Mi.lends_nil, Mi.lends_v, Mi.lends_o, Mi.lends_b, Mi.wE_bi, Mi.wE_comp, Mi.wE_new, Mi.newC_own, Mi.newC_ownd, Mi.wE_o1, Mi.wE_o2, Mi.wE_o3, Mi.wE_dct, Mi.wE_dgt, Mi.wE_din, Mi.wEs_nil, Mi.wEs_cons, Mi.wRs_nil, Mi.wRs_cons, Mi.wO_no, Mi.wO_yes, Mi.wC_no, Mi.wC_yes,
  Mi.wI_rng1, Mi.wI_rng2, Mi.wI_seq, Mi.wI_enm, Mi.wI_zip2, Mi.wT_nm, Mi.wT_sub, Mi.wT_tp, Mi.wTs_nil, Mi.wTs_cons,
  List.map_cons, List.map_nil, List.cons_append, List.nil_append, List.replicate_succ, List.replicate_zero, List.getElem?_cons_zero, List.getElem?_cons_succ, List.set_cons_zero, List.set_cons_succ, List.length_cons, List.length_nil, Nat.reduceSub, Nat.reduceAdd, Nat.reduceLT, Nat.reduceLeDiff, Nat.reduceEqDiff,
  Option.some.injEq, Mi.Sl.val.injEq, Mi.Sl.own.injEq, Mi.Rt.val.injEq, Mi.Rt.own.injEq, Mi.D.int.injEq, Mi.D.bl.injEq, Mi.D.ref.injEq, Mi.D.tup.injEq, Mi.D.lst.injEq, Mi.D.str.injEq, exists_eq_left, exists_eq_left', exists_eq_right, exists_eq_right', Mi.rd_val, Mi.rd_own, Mi.rd_ownd, ne_eq, reduceCtorEq, not_false_eq_true, not_true_eq_false, implies_true, true_and, and_true, and_self, false_and, and_false, exists_false, Prod.mk.injEq,
  Mi.bin_add, Mi.bin_sub, Mi.bin_mul', Mi.bin_fdiv', Mi.bin_mod', Mi.bin_pow', Mi.bin_shl', Mi.rep_own, Mi.rep_tup, Mi.cat_lo, Mi.cat_oo, Mi.cat_ll, Mi.cat_ol, Mi.cat_tt, Mi.cat_ss, Mi.cat_bo, Mi.cat_ob, Mi.cat_bl, Mi.cat_lb, Mi.cmp_int, Mi.cmp_intn, Mi.cmp_str, Mi.cmp_strs, Mi.cmp_strsn, Mi.ofString_inj, Mi.cmp_lt, Mi.cmp_le, Mi.cmp_gt, Mi.cmp_ge, Mi.cmp_isn, Mi.cmp_isnn, Mi.cmp_isb, Mi.cmp_isnb, Mi.cmp_blne, Mi.cmp_bleq, Mi.bi_divmod', Mi.bi_abs', Mi.bi_intb, Mi.bi_min2, Mi.bi_max2, Mi.bi_lenl, Mi.bi_lens, Mi.bi_lent, Mi.bi_leno, Mi.bi_lenb, Mi.bi_listo, Mi.bi_listl, Mi.bi_listt, Mi.bi_listb, Mi.bi_tupo, Mi.bi_tupb, Mi.bi_tupt, Mi.bi_tupl, Mi.sl_scr, Mi.sl_lst, Mi.sl_tup, Mi.sl_own, Mi.sl_bor, Mi.ix_tup, Mi.ix_lst, Mi.ix_own, Mi.ix_bor, Mi.atI_0, Mi.atI_1, Mi.atI_2, String.reduceEq, decide_false, decide_true, decide_eq_true_eq, Bool.false_eq_true, if_false, if_true, reduceIte, Bool.not_false, Bool.not_true, Int.reduceLT, Int.reduceLE, Int.reduceToNat, Int.reduceNeg, Int.reduceAdd, Int.reduceSub, Int.reduceMul, Int.reduceEq, Nat.lt_irrefl, forall_const, Mi.size_ok, Mi.inRng_ok, Mi.still_l, Mi.still_t, Mi.still_o, Mi.still_b, Mi.still_sq, Mi.ix_sq, Mi.bi_lensq, Mi.bi_tupsq, Mi.bi_listsq, Mi.bi_sumo, Mi.bi_sumt, Mi.bi_sumq, Mi.bi_sumf, Mi.bi_maxt, Mi.bi_mint, Mi.bi_maxo, Mi.bi_minq, Mi.bi_allt, Mi.bi_allm, Mi.bi_anym, Mi.ix_row0, Mi.ix_row1, Mi.bi_lenrow, List.length_map, Int.cast_ofNat_Int,
  Mi.isi1_n, Mi.isi_n, Mi.isi1_b, Mi.isi_b, Mi.isi1_i, Mi.isi_i, Mi.isi1_s, Mi.isi_s, Mi.isi1_t, Mi.isi_t, Mi.isi1_l, Mi.isi_l, Mi.isi1_c, Mi.isi_c, Mi.isi1_r, Mi.isi_r, Mi.isi1_q, Mi.isi_q, Mi.isi_o, Mi.bi_isi1o, Mi.bi_isi1b, Mi.tyD_t, Mi.tyD_i, Mi.tyD_b, Mi.tyD_s, Mi.tyD_l, Mi.tyD_n, Mi.tyD_row, List.any_cons, List.any_nil, Bool.or_false, Bool.or_true, Bool.true_or, Bool.false_or, Bool.and_true, Bool.true_and, Bool.and_false, Bool.false_and, beq_self_eq_true, bne_self_eq_false, beq_true, beq_false, Mi.isN,
  Mi.p_lrng, Mi.p_revl, Mi.p_revo, Mi.p_revb, Mi.p_revt, Mi.p_sseto, Mi.p_lsetl, Mi.p_lsett, Mi.p_mxdo, Mi.p_premxd, Mi.p_predzip, Mi.p_lsetb, Mi.p_prelrng2, Mi.p_lrng2, Mi.p_gget, Mi.p_gin, Mi.p_mx3, Mi.p_get, Mi.p_presplit, Mi.p_prejoin, Mi.p_split, Mi.dct_o, Mi.dct_v, Mi.key_i, Mi.key_s, Mi.valD_cons, Mi.valD_nil, Sum.inr.injEq, Sum.inl.injEq, Option.isSome_some, Option.isSome_none, Bool.xor_false, Bool.xor_true, Bool.false_xor, Bool.true_xor, Option.getD_some, Option.getD_none, Mi.cmp_notin, Mi.in_nil, Mi.in_1, Mi.in_2, Mi.in_3, Mi.in_4, Mi.in_5, Mi.in_6, Mi.in_11, Mi.in_intsT, Mi.in_intsL, Mi.in_intsB, Option.map_some, List.all_cons, List.all_nil, Mi.flatD_s, Mi.flatD_i, Mi.divok_s, Mi.mulok_ls, Mi.mulok_rs])
noncomputable section
namespace Mi
open PySem L2


end Mi
end
noncomputable section
namespace Mi
open PySem L2
noncomputable def Bx (l B : Nat) (S : Sto) : Prop := ∃ a b c : Int, S[l]? = some (Cell.lst [.int a, .int b, .int c]) ∧ 0 ≤ a ∧ 0 ≤ b ∧ b < 2147483648 ∧ 0 ≤ c ∧ c + B ≤ 1152921504606846976
noncomputable def Fr (l : Nat) (S S' : Sto) : Prop := S'.length = S.length ∧ ∀ j, j ≠ l → S'[j]? = S[j]?
theorem Fr.refl (l : Nat) (S : Sto) : Fr l S S := ⟨rfl, fun _ _ => rfl⟩
theorem Fr.trans {l : Nat} {S S1 S2 : Sto} (a : Fr l S S1) (b : Fr l S1 S2) : Fr l S S2 := ⟨b.1.trans a.1, fun j h => (b.2 j h).trans (a.2 j h)⟩
theorem Fr.set (l : Nat) (S : Sto) (c : Cell) : Fr l S (S.set l c) := ⟨List.length_set, fun j h => List.getElem?_set_ne (Ne.symm h)⟩
theorem Bx.mono {l B B' : Nat} {S : Sto} (h : Bx l B S) (hB : B' ≤ B) : Bx l B' S := by
  obtain ⟨a, b, c, h1, h2, h3, h4, h5, h6⟩ := h
  exact ⟨a, b, c, h1, h2, h3, h4, h5, by omega⟩

theorem take_ok {P : Nat → Option FD} {G : List D} {t0 k l B : Nat} {n : Int} {S : Sto} {Q : Rt → Sto → Prop} (hP : P t0 = some l_take) (hB : Bx l (B + 1) S) (h0 : 0 < n) (h1 : n < 1073741824)
    (q : ∀ r S', 0 ≤ r → r < n → Bx l B S' → Fr l S S' → Q (.val (.int r)) S') : wF (runF P G (k + 1)) t0 [.ref l, .int n] S Q := by
  obtain ⟨a, b, c, hS, ha, hb, hb2, hc, hcB⟩ := hB
  refine wF_of hP rfl ?_
  unfold l_take
  walk_at "w"
  simp only [ix3_0 hS]
  walk_at "w"
  refine ite2 (fun h => ?_) fun h => ?_
  · walk_at "w"
    refine ⟨⟨h0, h1⟩, ?_⟩
    walk_at "w"
    refine ⟨_, put3_0 hS, ?_⟩
    refine q _ _ (Int.emod_nonneg _ (by omega)) (Int.emod_lt_of_pos _ h0) ⟨a / n, b, c, set_at hS, Int.ediv_nonneg ha (by omega), hb, hb2, hc, by omega⟩ (Fr.set _ _ _)
  · walk_at "w"
    simp only [ix3_2 hS]
    walk_at "w"
    refine ⟨_, put3_2 hS, ?_⟩
    have hS1 : (S.set l (.lst [.int a, .int b, .int (c + 1)]))[l]? = some (.lst [.int a, .int b, .int (c + 1)]) := set_at hS
    simp only [ix3_1 hS1, ix3_2 hS1]
    walk_at "w"
    have m1 : 0 ≤ (b + 39373 * (c + 1)) * (48271 + (c + 1)) % 2147483647 := Int.emod_nonneg _ (by decide)
    have m2 : (b + 39373 * (c + 1)) * (48271 + (c + 1)) % 2147483647 < 2147483647 := Int.emod_lt_of_pos _ (by decide)
    generalize (b + 39373 * (c + 1)) * (48271 + (c + 1)) % 2147483647 = o at m1 m2 ⊢
    refine ⟨mulok_r (by omega) (by omega), mulok_l (by omega) (by omega), _, put3_1 hS1, ?_⟩
    have m3 : 0 ≤ (o * (o % 40009 + 7) + (c + 1)) % 2147483629 := Int.emod_nonneg _ (by decide)
    have m4 : (o * (o % 40009 + 7) + (c + 1)) % 2147483629 < 2147483629 := Int.emod_lt_of_pos _ (by decide)
    generalize (o * (o % 40009 + 7) + (c + 1)) % 2147483629 = b2 at m3 m4 ⊢
    rw [List.set_set]
    have hS2 : (S.set l (.lst [.int a, .int b2, .int (c + 1)]))[l]? = some (.lst [.int a, .int b2, .int (c + 1)]) := set_at hS
    simp only [ix3_1 hS2]
    walk_at "w"
    refine ⟨mulok_l (by omega) (by omega), h0, ?_⟩
    refine q _ _ (Int.emod_nonneg _ (by omega)) (Int.emod_lt_of_pos _ h0) ⟨a, b2, c + 1, hS2, ha, m3, by omega, by omega, by omega⟩ (Fr.set _ _ _)

inductive Tm where
  | any | is (k : Nat) | not (t : Tm) | and (a b : Tm) | or (a b : Tm)
noncomputable def Tm.d : Tm → D
  | .any => .tup [.str "any"]
  | .is k => .tup [.str "is", .int k]
  | .not t => .tup [.str "not", t.d]
  | .and a b => .tup [.str "and", a.d, b.d]
  | .or a b => .tup [.str "or", a.d, b.d]
noncomputable def Tm.deep : Tm → Nat
  | .any => 1
  | .is _ => 1
  | .not t => t.deep + 1
  | .and a b => max a.deep b.deep + 1
  | .or a b => max a.deep b.deep + 1

noncomputable def Tm.ok (n : Nat) : Tm → Prop
  | .any => True
  | .is k => k < n
  | .not t => t.ok n
  | .and a b => a.ok n ∧ b.ok n
  | .or a b => a.ok n ∧ b.ok n
noncomputable def Tm.has (c : Int) : Tm → Bool
  | .any => true
  | .is k => decide (c / 2 ^ k % 2 = 1)
  | .not t => !t.has c
  | .and a b => a.has c && b.has c
  | .or a b => a.has c || b.has c
noncomputable def Tm.pick (t : Tm) (d : D) : Option D := match d with
  | .int c => if t.has c = true then some (.int c) else none
  | _ => none
noncomputable def Tm.cells (t : Tm) (m : Nat) : List D := (rngL 0 (2 ^ m)).filterMap t.pick
end Mi
end
noncomputable section
namespace Mi
open PySem L2


theorem box_ok {P : Nat → Option FD} {G : List D} {k : Nat} {ns : List Int} {j : Nat} {S : Sto} {Q : Rt → Sto → Prop} (hP : P 3 = some l_box) (hl : ns.length ≤ 100) (hj : j ≤ 100)
    (q : ∀ a b : Int, 0 ≤ a → 0 ≤ b → b < 2147483648 → Q (.own [.int a, .int b, .int 0]) S) : wF (runF P G (k + 1)) 3 [.lst (ns.map .int), .int j] S Q := by
  refine wF_of hP rfl ?_
  unfold l_box
  walk_at "w"
  have e1 : ((j : Int) + 1).toNat = j + 1 := by omega
  have e2 : ∀ n : Nat, (List.replicate n [D.int 0]).flatten = (List.replicate n (0 : Int)).map .int := fun n => by
    induction n with
    | zero => rfl
    | succ n ih => rw [List.replicate_succ, List.flatten_cons, ih]; rfl
  rw [e1, e2, ← List.map_append]
  have hlt : j < (ns ++ List.replicate (j + 1) (0 : Int)).length := by simp; omega
  have e3 : atI ((ns ++ List.replicate (j + 1) (0 : Int)).map D.int) (j : Int) = some (.int (ns ++ List.replicate (j + 1) (0 : Int))[j]) := by
    refine L2.atI_nat ?_
    rw [List.getElem?_map, List.getElem?_eq_getElem hlt]; rfl
  generalize (ns ++ List.replicate (j + 1) (0 : Int))[j] = z at e3
  refine ⟨⟨by omega, by omega, lt_size (by omega)⟩, lt_size (by simp; omega), .int z, e3, ?_⟩
  walk_at "w"
  have hz : ∀ z : Int, 0 ≤ (if z < 0 then -z else z) := fun z => by split <;> omega
  have hb : ∀ (c : Prop) [Decidable c], 0 ≤ (if c then (1 : Int) else 0) ∧ (if c then (1 : Int) else 0) ≤ 1 := fun c _ => by split <;> omega
  have h1 := hz z
  generalize (if z < 0 then -z else z) = y at h1 ⊢
  have h2 := hb (10 ^ 18 ≤ y)
  generalize (if (10 : Int) ^ 18 ≤ y then (1 : Int) else 0) = x at h2 ⊢
  refine ⟨by decide, mulok_r (by omega) (by omega), ?_⟩
  exact q _ _ (Int.mul_nonneg h1 h2.1) (Int.emod_nonneg _ (by decide)) (Int.lt_trans (Int.emod_lt_of_pos _ (by decide)) (by decide))

theorem cut_map {ns : List Int} {lo hi : Option Int} : cutD (ns.map .int) lo hi = (((ns.drop (HT.sIx ns.length 0 lo)).take (HT.sIx ns.length ns.length hi - HT.sIx ns.length 0 lo))).map .int := by
  unfold cutD
  rw [List.length_map, ← List.map_drop, ← List.map_take]
theorem folded_ok {P : Nat → Option FD} {G : List D} {t0 k m : Nat} {ns : List Int} {S : Sto} {Q : Rt → Sto → Prop} (hP : P t0 = some l_folded) (hl : ns.length ≤ 63) (hm : 0 < m) (hm2 : m ≤ 63)
    (q : ∀ is : List Int, is.length = min m ns.length → Q (.own (is.map .int)) S) : wF (runF P G (k + 1)) t0 [.scr (ns.map .int), .int m] S Q := by
  refine wF_of hP rfl ?_
  unfold l_folded
  walk_at "w"
  have e1 : HT.sIx ns.length ns.length (some (m : Int)) = min m ns.length := HT.sIx_nat _ _ _
  have e2 : HT.sIx ns.length 0 (some (m : Int)) = min m ns.length := HT.sIx_nat _ _ _
  have e3 : HT.sIx ns.length ns.length (some 63) = min 63 ns.length := HT.sIx_nat _ _ 63
  rw [cut_map, cut_map, e1, e2, e3, HT.sIx_none, Nat.sub_zero, List.drop_zero]
  have hl1 : (ns.take (min m ns.length)).length = min m ns.length := by rw [List.length_take]; omega
  generalize ns.take (min m ns.length) = is at hl1
  have hl2 : ((ns.drop (min m ns.length)).take (min 63 ns.length - min m ns.length)).length ≤ ns.length - min m ns.length := by rw [List.length_take, List.length_drop]; omega
  generalize (ns.drop (min m ns.length)).take (min 63 ns.length - min m ns.length) = rest at hl2
  refine wFor_inv (fun i ρ S' => ∃ js y z, ρ = [.val (.scr (ns.map .int)), .val (.int m), .own (js.map .int), y, z] ∧ js.length = min m ns.length ∧ S' = S) ⟨is, _, _, rfl, hl1, rfl⟩ (fun i d ρ S' hd h => ?_) fun ρ S' h => ?_
  · obtain ⟨js, y, z, rfl, hjs, rfl⟩ := h
    rw [enmL_get, List.getElem?_map] at hd
    cases hr : rest[i]? with
    | none => rw [hr] at hd; cases hd
    | some x =>
      rw [hr] at hd
      have hd := Option.some.inj hd
      subst hd
      have hi : i < rest.length := (List.getElem?_eq_some_iff.mp hr).1
      have hmn : js.length = m := by omega
      rw [Nat.zero_add]
      walk_at "w"
      have hm0 : (0 : Int) < m := by omega
      have p0 : 0 ≤ ((i : Int)) % m := Int.emod_nonneg _ (by omega)
      have p1 : ((i : Int)) % m < m := Int.emod_lt_of_pos _ hm0
      have hx : (((i : Int)) % m).toNat < js.length := by omega
      have ea : atI (js.map D.int) ((i : Int) % m) = some (.int js[(((i : Int)) % m).toNat]) := atI_at p0 (by rw [List.getElem?_map, List.getElem?_eq_getElem hx]; rfl)
      refine ⟨hm0, _, ea, ?_⟩
      walk_at "w"
      refine ⟨mulok_r (by omega) (by omega), hm0, _, (((i : Int)) % m).toNat, rfl, ?_, ?_⟩
      · unfold ixN
        rw [if_pos p0, if_pos (by omega)]
      · rw [← List.map_set]
        exact ⟨_, _, _, rfl, by rw [List.length_set]; exact hjs⟩
  · obtain ⟨js, y, z, rfl, hjs, rfl⟩ := h
    walk_at "w"
    exact q js hjs

noncomputable def XT : Nat → Nat
  | 0 => 2
  | d + 1 => 2 + 2 * XT d
theorem term_ok {P : Nat → Option FD} {G : List D} (hP4 : P 4 = some l_take) (hP7 : P 7 = some l_term) {l m : Nat} (hm : 0 < m) (hm2 : m ≤ 4) : ∀ (d k B : Nat) (S : Sto) (Q : Rt → Sto → Prop), d + 2 ≤ k → Bx l (B + XT d) S →
    (∀ (t : Tm) (S' : Sto), t.ok m → t.deep ≤ max 1 d → Bx l B S' → Fr l S S' → Q (.val t.d) S') → wF (runF P G k) 7 [.ref l, .int m, .int d] S Q := by
  intro d
  induction d with
  | zero =>
    intro k B S Q hk hB q
    obtain ⟨k, rfl⟩ : ∃ k', k = k' + 2 := ⟨k - 2, by omega⟩
    refine wF_of hP7 rfl ?_
    unfold l_term
    walk_at "w"
    refine take_ok (B := B + 1) hP4 hB (by decide) (by decide) fun r S1 h0 h1 hB1 f1 => ?_
    walk_at "w"
    refine ite2 (fun h => ?_) fun h => ?_
    · exact q .any S1 trivial (by decide) (hB1.mono (by omega)) f1
    · refine take_ok (B := B) hP4 hB1 (by omega) (by omega) fun r2 S2 g0 g1 hB2 f2 => ?_
      walk_at "w"
      have e : r2 = ((r2.toNat : Nat) : Int) := by omega
      rw [e]
      exact q (.is r2.toNat) S2 (by show r2.toNat < m; omega) (by simp [Tm.deep]) hB2 (f1.trans f2)
  | succ d ih =>
    intro k B S Q hk hB q
    obtain ⟨k, rfl⟩ : ∃ k', k = k' + 2 := ⟨k - 2, by omega⟩
    refine wF_of hP7 rfl ?_
    unfold l_term
    walk_at "w"
    have ed : ((d + 1 : Nat) : Int) - 1 = (d : Int) := by omega
    refine take_ok (B := B + 1 + 2 * XT d) hP4 (by have : B + XT (d + 1) = B + 1 + 2 * XT d + 1 := by simp only [XT]; omega
                                                   rw [← this]; exact hB) (by decide) (by decide) fun r S1 h0 h1 hB1 f1 => ?_
    walk_at "w"
    rw [ed]
    refine ite2 (fun h => ?_) fun h => ?_
    · exact q .any S1 trivial (by simp only [Tm.deep]; omega) (hB1.mono (by omega)) f1
    have isCase : wF (runF P G (k + 1)) 4 [.ref l, .int m] S1 (fun r S2 => ∃ d, r.d = some d ∧ Q (.val (.tup [.str "is", d])) S2) := by
      refine take_ok (B := B) hP4 (hB1.mono (by omega)) (by omega) (by omega) fun r2 S2 g0 g1 hB2 f2 => ?_
      have e : r2 = ((r2.toNat : Nat) : Int) := by omega
      refine ⟨_, rfl, ?_⟩
      rw [e]
      exact q (.is r2.toNat) S2 (by show r2.toNat < m; omega) (by simp only [Tm.deep]; omega) hB2 (f1.trans f2)
    refine ite2 (fun _ => isCase) fun h2 => ?_
    refine ite2 (fun _ => isCase) fun h3 => ?_
    refine ite2 (fun h4 => ?_) fun h4 => ?_
    · refine ih (k + 1) B S1 _ (by omega) (hB1.mono (by omega)) fun t S2 ht hd hB2 f2 => ?_
      walk_at "w"
      exact q (.not t) S2 ht (by simp only [Tm.deep]; omega) hB2 (f1.trans f2)
    · refine take_ok (B := B + 2 * XT d) hP4 (hB1.mono (by omega)) (by decide) (by decide) fun w S2 g0 g1 hB2 f2 => ?_
      walk_at "w"
      have two : ∀ (wd : Str) (mk : Tm → Tm → Tm), (∀ a b, (mk a b).d = .tup [.str wd, a.d, b.d]) → (∀ a b, (mk a b).ok m ↔ a.ok m ∧ b.ok m) → (∀ a b, (mk a b).deep = max a.deep b.deep + 1) →
          wF (runF P G (k + 1)) 7 [.ref l, .int m, .int d] S2 (fun r S1 => ∃ d1, r.d = some d1 ∧ wF (runF P G (k + 1)) 7 [.ref l, .int m, .int d] S1 fun r S1 => ∃ d2, r.d = some d2 ∧ Q (.val (.tup [.str wd, d1, d2])) S1) := fun wd mk h1 h2 h3 => by
        refine ih (k + 1) (B + XT d) S2 _ (by omega) (by have : B + XT d + XT d = B + 2 * XT d := by omega
                                                         rw [this]; exact hB2) fun a S3 ha hda hB3 f3 => ?_
        refine ⟨_, rfl, ?_⟩
        refine ih (k + 1) B S3 _ (by omega) hB3 fun b S4 hb hdb hB4 f4 => ?_
        refine ⟨_, rfl, ?_⟩
        rw [← h1]
        exact q (mk a b) S4 ((h2 a b).mpr ⟨ha, hb⟩) (by rw [h3]; omega) hB4 (f1.trans (f2.trans (f3.trans f4)))
      rcases (show w = 0 ∨ w = 1 by omega) with rfl | rfl
      · exact ⟨_, atI_0, two "and" .and (fun _ _ => rfl) (fun _ _ => Iff.rfl) fun _ _ => rfl⟩
      · exact ⟨_, atI_1, two "or" .or (fun _ _ => rfl) (fun _ _ => Iff.rfl) fun _ _ => rfl⟩
end Mi
end
noncomputable section
namespace Mi
open PySem L2


noncomputable def AL : Nat → D → Prop
  | _, .non => True
  | _, .bl _ => True
  | _, .int _ => True
  | _, .str _ => True
  | n + 1, .tup ds => ds.length ≤ 16777216 ∧ ∀ d, d ∈ ds → AL n d
  | n + 1, .lst ds => ds.length ≤ 16777216 ∧ ∀ d, d ∈ ds → AL n d
  | _, _ => False
theorem AL.ints {n : Nat} {is : List Int} : ∀ d, d ∈ is.map D.int → AL n d := fun d hd => by
  obtain ⟨x, _, rfl⟩ := List.mem_map.mp hd
  cases n <;> trivial
abbrev BIG : Nat := 1000000000000
theorem boxes_ok {P : Nat → Option FD} {G : List D} {k m : Nat} {ns : List Int} {Q : Rt → Sto → Prop} (hP3 : P 3 = some l_box) (hP5 : P 5 = some l_folded) (hP : P 33 = some l_boxes) (hl : ns.length ≤ 63) (hm : 0 < m) (hm2 : m ≤ 63)
    (q : ∀ (n : Nat) (S' : Sto), 0 < n → n ≤ m → S'.length = n → (∀ i, i < n → Bx i BIG S') → Q (.own ((List.range n).map fun i => .ref i)) S') : wF (runF P G (k + 2)) 33 [.scr (ns.map .int), .int m] [] Q := by
  refine wF_of hP rfl ?_
  unfold l_boxes
  walk_at "w"
  refine folded_ok (m := m) hP5 hl hm hm2 fun is his => ?_
  walk_at "w"
  have hn : ∃ n : Nat, (if ((is.length : Nat) : Int) > 1 then ((is.length : Nat) : Int) else 1) = (n : Int) ∧ 0 < n ∧ n ≤ m := by
    split
    · exact ⟨is.length, rfl, by omega, by omega⟩
    · exact ⟨1, rfl, by decide, by omega⟩
  obtain ⟨n, en, hn0, hn6⟩ := hn
  rw [en, Int.toNat_natCast]
  refine ⟨⟨by omega, by omega⟩, ?_⟩
  refine wL_inv (fun i ys S' => ys = (List.range i).map (fun i => .ref i) ∧ S'.length = i ∧ ∀ j, j < i → Bx j BIG S') ⟨rfl, rfl, fun j hj => by omega⟩ (fun i d ys S' hd h => ?_) fun ys S' h => ?_
  · obtain ⟨rfl, hS, hB⟩ := h
    rw [rngL_get] at hd
    split at hd
    · cases hd
      unfold wTn wipeR wipeR
      walk_at "w"
      rw [Int.zero_add]
      refine box_ok (ns := is) (j := i) hP3 (by omega) (by omega) fun u v hu hv hv2 => ?_
      walk_at "w"
      refine ⟨by rw [List.range_succ, List.map_append, hS]; rfl, by rw [List.length_append, hS]; rfl, fun j hj => ?_⟩
      by_cases e : j = i
      · subst e
        exact ⟨u, v, 0, by rw [List.getElem?_append_right (by omega), hS, Nat.sub_self]; rfl, hu, hv, hv2, by decide, by decide⟩
      · obtain ⟨a, b, c, h1, h2⟩ := hB j (by omega)
        exact ⟨a, b, c, by rw [List.getElem?_append_left (by omega)]; exact h1, h2⟩
    · cases hd
  · obtain ⟨rfl, hS, hB⟩ := h
    rw [rngL_len] at hS hB ⊢
    refine ⟨by rw [List.length_map, List.length_range]; exact lt_size (by omega), ?_⟩
    walk_at "w"
    exact q n S' hn0 hn6 hS hB

theorem refs_get {n i : Nat} {d : D} (h : ((List.range n).map fun i => D.ref i)[i]? = some d) : i < n ∧ d = .ref i := by
  rw [List.getElem?_map] at h
  obtain ⟨j, hj, rfl⟩ := map_some h
  obtain ⟨h1, h2⟩ := List.getElem?_eq_some_iff.mp hj
  rw [List.length_range] at h1
  rw [List.getElem_range] at h2
  exact ⟨h1, by rw [h2]⟩
theorem rng_get {n i : Nat} {d : D} (h : (rngL 0 n)[i]? = some d) : i < n ∧ d = .int i := by
  rw [rngL_get] at h
  split at h
  · cases h
    rename_i hi
    exact ⟨hi, by rw [Int.zero_add]⟩
  · cases h

theorem Fr.rest {l n B : Nat} {S S' : Sto} (f : Fr l S S') (h : ∀ j, l ≤ j → j < n → Bx j B S) : ∀ j, l + 1 ≤ j → j < n → Bx j B S' := fun j h1 h2 => by
  obtain ⟨a, b, c, e, r⟩ := h j (by omega) h2
  exact ⟨a, b, c, by rw [f.2 j (by omega)]; exact e, r⟩
end Mi
end
noncomputable section
namespace Mi
open PySem L2


inductive Pw where
  | all | notall | some | none | more | asmany
inductive Cw where
  | least | most | just
inductive Sw where
  | share | under
noncomputable def Pw.str : Pw → Str
  | .all => "all" | .notall => "notall" | .some => "some" | .none => "none" | .more => "more" | .asmany => "asmany"
noncomputable def Cw.str : Cw → Str
  | .least => "least" | .most => "most" | .just => "just"
noncomputable def Sw.str : Sw → Str
  | .share => "share" | .under => "under"
inductive Sy where
  | pl (w : Pw) (s p : Tm) | ct (w : Cw) (n : Int) (s p : Tm) | sh (w : Sw) (t b : Int) (s p : Tm)
noncomputable def Sy.d : Sy → D
  | .pl w s p => .tup [.str w.str, s.d, p.d]
  | .ct w n s p => .tup [.str w.str, .int n, s.d, p.d]
  | .sh w t b s p => .tup [.str w.str, .int t, .int b, s.d, p.d]
noncomputable def Sy.s : Sy → Tm
  | .pl _ s _ => s | .ct _ _ s _ => s | .sh _ _ _ s _ => s
noncomputable def Sy.p : Sy → Tm
  | .pl _ _ p => p | .ct _ _ _ p => p | .sh _ _ _ _ p => p
noncomputable def Sy.nums : Sy → Prop
  | .pl _ _ _ => True
  | .ct _ n _ _ => 0 ≤ n ∧ n ≤ 41
  | .sh _ t b _ _ => 0 ≤ t ∧ t ≤ b ∧ 1 ≤ b ∧ b ≤ 12
noncomputable def Sy.ok (m : Nat) (y : Sy) : Prop := (y.s.ok m ∧ y.s.deep ≤ 8) ∧ (y.p.ok m ∧ y.p.deep ≤ 8) ∧ y.nums

noncomputable def cnt (f : Int → Bool) : Int → List Int → Int
  | _, [] => 0
  | i, c :: cs => (if f i = true then c else 0) + cnt f (i + 1) cs
noncomputable def Sy.both (y : Sy) (cs : List Int) : Int := cnt (fun c => y.s.has c && y.p.has c) 0 cs
noncomputable def Sy.wd : Sy → Str
  | .pl w _ _ => w.str
  | .ct w _ _ _ => w.str
  | .sh w _ _ _ _ => w.str
end Mi
end
noncomputable section
namespace Mi
open PySem L2


theorem number_ok {P : Nat → Option FD} {G : List D} {k l B M : Nat} {S : Sto} {Q : Rt → Sto → Prop} (hP4 : P 4 = some l_take) (hP : P 55 = some l_number) (hM : M ≤ 41) (hB : Bx l (B + 5) S)
    (q : ∀ (z : Int) S', 0 ≤ z → z ≤ 41 ∧ (M ≤ 40 → z ≤ 40) → Bx l B S' → Fr l S S' → Q (.val (.int z)) S') : wF (runF P G (k + 2)) 55 [.ref l, .int M] S Q := by
  refine wF_of hP rfl ?_
  unfold l_number
  walk_at "w"
  refine take_ok (B := B + 4) hP4 hB (by decide) (by decide) fun a S1 a0 a1 hB1 f1 => ?_
  walk_at "w"
  refine take_ok (B := B + 3) hP4 hB1 (by decide) (by decide) fun b S2 b0 b1 hB2 f2 => ?_
  walk_at "w"
  refine take_ok (B := B + 2) hP4 hB2 (by decide) (by decide) fun c S3 c0 c1 hB3 f3 => ?_
  walk_at "w"
  refine take_ok (B := B + 1) hP4 hB3 (by decide) (by decide) fun d S4 d0 d1 hB4 f4 => ?_
  walk_at "w"
  refine take_ok (B := B) hP4 hB4 (by decide) (by decide) fun e S5 e0 e1 hB5 f5 => ?_
  walk_at "w"
  have hm : ∃ y : Int, (if (M : Int) - c > 0 then (M : Int) - c else 0) = y ∧ 0 ≤ y ∧ y ≤ 41 ∧ (M ≤ 40 → y ≤ 40) := by split <;> exact ⟨_, rfl, by omega, by omega, by omega⟩
  obtain ⟨y, ey, y0, y1, y2⟩ := hm
  rw [ey]
  refine ix_any (fun d => ∃ z : Int, d = .int z ∧ 0 ≤ z ∧ z ≤ 41 ∧ (M ≤ 40 → z ≤ 40)) e0 (by simpa using e1) (fun d hd => ?_) fun d hd => ?_
  · simp only [List.mem_cons, List.not_mem_nil, or_false] at hd
    rcases hd with rfl | rfl | rfl | rfl <;> exact ⟨_, rfl, by omega, by omega, by omega⟩
  · obtain ⟨z, rfl, h1, h2⟩ := hd
    exact q z S5 h1 h2 hB5 (f1.trans (f2.trans (f3.trans (f4.trans f5))))

inductive IsWord : Str → (Tm → Tm → Sy → Prop) → Prop
  | pl (w : Pw) : IsWord w.str fun s p y => y = .pl w s p
  | ct (w : Cw) : IsWord w.str fun s p y => ∃ n, y = .ct w n s p
  | sh (w : Sw) : IsWord w.str fun s p y => ∃ t b, y = .sh w t b s p
end Mi
end
noncomputable section
namespace Mi
open PySem L2

theorem Tm.sh : ∀ t : Tm, (∀ m, t.ok m → m ≤ 16 → ∃ w, Sh (t.deep + 1) w t.d)
  | .any, _, _, _ => ⟨_, (Sh.tup (n := 0) (w := 10) fun d hd => by
      rw [List.mem_singleton.mp hd]; exact Sh.lit (by decide)).mono (by omega) (Nat.le_refl _)⟩
  | .is k, m, h, hm => ⟨_, ((Sh.lit (s := "is") (w := 10) (by decide)).two ((Sh.int (i := k) (by omega) (by have : k < m := h; omega)))).1.mono (by omega) (Nat.le_refl _)⟩
  | .not t, m, h, hm => by
    obtain ⟨w, hw⟩ := Tm.sh t m h hm
    exact ⟨_, (((Sh.lit (s := "not") (w := 10) (by decide)).mono (Nat.zero_le _) (Nat.le_refl _)).two hw).1⟩
  | .and a b, m, h, hm => by
    obtain ⟨w, hw⟩ := Tm.sh a m h.1 hm
    obtain ⟨v, hv⟩ := Tm.sh b m h.2 hm
    refine ⟨_, (Sh.tup (n := max (a.deep + 1) (b.deep + 1)) (w := 10 + w + v) fun d hd => ?_).mono ?_ (Nat.le_refl _)⟩
    · simp only [List.mem_cons, List.not_mem_nil, or_false] at hd
      rcases hd with rfl | rfl | rfl
      · exact (Sh.lit (s := "and") (w := 10) (by decide)).mono (Nat.zero_le _) (by omega)
      · exact hw.mono (by omega) (by omega)
      · exact hv.mono (by omega) (by omega)
    · simp only [Tm.deep]; omega
  | .or a b, m, h, hm => by
    obtain ⟨w, hw⟩ := Tm.sh a m h.1 hm
    obtain ⟨v, hv⟩ := Tm.sh b m h.2 hm
    refine ⟨_, (Sh.tup (n := max (a.deep + 1) (b.deep + 1)) (w := 10 + w + v) fun d hd => ?_).mono ?_ (Nat.le_refl _)⟩
    · simp only [List.mem_cons, List.not_mem_nil, or_false] at hd
      rcases hd with rfl | rfl | rfl
      · exact (Sh.lit (s := "or") (w := 10) (by decide)).mono (Nat.zero_le _) (by omega)
      · exact hw.mono (by omega) (by omega)
      · exact hv.mono (by omega) (by omega)
    · simp only [Tm.deep]; omega
theorem Sh.alls {n : Nat} : ∀ {ds : List D}, (∀ d, d ∈ ds → ∃ w, Sh n w d) → ∃ w, ∀ d, d ∈ ds → Sh n w d
  | [], _ => ⟨0, fun _ z => nomatch z⟩
  | d :: ds, h => by
    obtain ⟨w, hw⟩ := h d List.mem_cons_self
    obtain ⟨v, hv⟩ := Sh.alls (ds := ds) fun d hd => h d (List.mem_cons_of_mem _ hd)
    refine ⟨w + v, fun x hx => ?_⟩
    rcases List.mem_cons.mp hx with rfl | hx
    · exact hw.mono (Nat.le_refl _) (by omega)
    · exact (hv x hx).mono (Nat.le_refl _) (by omega)
mutual
noncomputable def strict : D → Bool
  | .non => true
  | .bl _ => false
  | .int _ => true
  | .str _ => true
  | .tup ds => stricts ds
  | .lst ds => stricts ds
  | .scr _ => false
  | .ref _ => false
  | .dct _ _ => false
noncomputable def stricts : List D → Bool
  | [] => true
  | d :: ds => strict d && stricts ds
end
mutual
theorem strict_eq : ∀ (a b : D) (p q : PyData), strict a = true → strict b = true → toPy a = some p → toPy b = some q → PyData.eqv p q = true → a = b
  | .non, b, p, q, ha, hb, ep, eq, h => by
    unfold toPy at ep; cases ep
    cases b with
    | non => rfl
    | int j => unfold toPy at eq; cases eq; simp [PyData.eqv] at h
    | str j => unfold toPy at eq; cases eq; simp [PyData.eqv] at h
    | tup ys => unfold toPy at eq; obtain ⟨r, _, rfl⟩ := map_some eq; simp [PyData.eqv] at h
    | lst ys => unfold toPy at eq; obtain ⟨r, _, rfl⟩ := map_some eq; simp [PyData.eqv] at h
    | bl _ => unfold strict at hb; cases hb
    | scr _ => unfold strict at hb; cases hb
    | ref _ => unfold strict at hb; cases hb
    | dct _ _ => unfold strict at hb; cases hb
  | .int i, b, p, q, ha, hb, ep, eq, h => by
    unfold toPy at ep; cases ep
    cases b with
    | non => unfold toPy at eq; cases eq; simp [PyData.eqv] at h
    | int j => unfold toPy at eq; cases eq; unfold PyData.eqv at h; rw [eq_of_beq h]
    | str j => unfold toPy at eq; cases eq; simp [PyData.eqv] at h
    | tup ys => unfold toPy at eq; obtain ⟨r, _, rfl⟩ := map_some eq; simp [PyData.eqv] at h
    | lst ys => unfold toPy at eq; obtain ⟨r, _, rfl⟩ := map_some eq; simp [PyData.eqv] at h
    | bl _ => unfold strict at hb; cases hb
    | scr _ => unfold strict at hb; cases hb
    | ref _ => unfold strict at hb; cases hb
    | dct _ _ => unfold strict at hb; cases hb
  | .str i, b, p, q, ha, hb, ep, eq, h => by
    unfold toPy at ep; cases ep
    cases b with
    | non => unfold toPy at eq; cases eq; simp [PyData.eqv] at h
    | int j => unfold toPy at eq; cases eq; simp [PyData.eqv] at h
    | str j => unfold toPy at eq; cases eq; unfold PyData.eqv at h; rw [eq_of_beq h]
    | tup ys => unfold toPy at eq; obtain ⟨r, _, rfl⟩ := map_some eq; simp [PyData.eqv] at h
    | lst ys => unfold toPy at eq; obtain ⟨r, _, rfl⟩ := map_some eq; simp [PyData.eqv] at h
    | bl _ => unfold strict at hb; cases hb
    | scr _ => unfold strict at hb; cases hb
    | ref _ => unfold strict at hb; cases hb
    | dct _ _ => unfold strict at hb; cases hb
  | .tup xs, b, p, q, ha, hb, ep, eq, h => by
    unfold toPy at ep; obtain ⟨u, eu, rfl⟩ := map_some ep
    cases b with
    | non => unfold toPy at eq; cases eq; simp [PyData.eqv] at h
    | int j => unfold toPy at eq; cases eq; simp [PyData.eqv] at h
    | str j => unfold toPy at eq; cases eq; simp [PyData.eqv] at h
    | tup ys =>
      unfold toPy at eq; obtain ⟨r, er, rfl⟩ := map_some eq
      unfold PyData.eqv at h
      rw [stricts_eq xs ys u r (by unfold strict at ha; exact ha) (by unfold strict at hb; exact hb) eu er h]
    | lst ys => unfold toPy at eq; obtain ⟨r, _, rfl⟩ := map_some eq; simp [PyData.eqv] at h
    | bl _ => unfold strict at hb; cases hb
    | scr _ => unfold strict at hb; cases hb
    | ref _ => unfold strict at hb; cases hb
    | dct _ _ => unfold strict at hb; cases hb
  | .lst xs, b, p, q, ha, hb, ep, eq, h => by
    unfold toPy at ep; obtain ⟨u, eu, rfl⟩ := map_some ep
    cases b with
    | non => unfold toPy at eq; cases eq; simp [PyData.eqv] at h
    | int j => unfold toPy at eq; cases eq; simp [PyData.eqv] at h
    | str j => unfold toPy at eq; cases eq; simp [PyData.eqv] at h
    | lst ys =>
      unfold toPy at eq; obtain ⟨r, er, rfl⟩ := map_some eq
      unfold PyData.eqv at h
      rw [stricts_eq xs ys u r (by unfold strict at ha; exact ha) (by unfold strict at hb; exact hb) eu er h]
    | tup ys => unfold toPy at eq; obtain ⟨r, _, rfl⟩ := map_some eq; simp [PyData.eqv] at h
    | bl _ => unfold strict at hb; cases hb
    | scr _ => unfold strict at hb; cases hb
    | ref _ => unfold strict at hb; cases hb
    | dct _ _ => unfold strict at hb; cases hb
  | .bl _, b, p, q, ha, hb, ep, eq, h => by unfold strict at ha; cases ha
  | .scr _, b, p, q, ha, hb, ep, eq, h => by unfold strict at ha; cases ha
  | .ref _, b, p, q, ha, hb, ep, eq, h => by unfold strict at ha; cases ha
  | .dct _ _, b, p, q, ha, hb, ep, eq, h => by unfold strict at ha; cases ha
theorem stricts_eq : ∀ (xs ys : List D) (us vs : List PyData), stricts xs = true → stricts ys = true → toPys xs = some us → toPys ys = some vs → PyData.eqvAll us vs = true → xs = ys
  | [], ys, us, vs, ha, hb, eu, ev, h => by
    unfold toPys at eu; cases eu
    cases ys with
    | nil => rfl
    | cons y ys =>
      unfold toPys at ev
      obtain ⟨v, _, ev⟩ := Mi.bind_some ev
      obtain ⟨r, _, rfl⟩ := map_some ev
      simp [PyData.eqvAll] at h
  | x :: xs, ys, us, vs, ha, hb, eu, ev, h => by
    unfold toPys at eu
    obtain ⟨u, e1, eu⟩ := Mi.bind_some eu
    obtain ⟨us', e2, rfl⟩ := map_some eu
    cases ys with
    | nil => unfold toPys at ev; cases ev; simp [PyData.eqvAll] at h
    | cons y ys =>
      unfold toPys at ev
      obtain ⟨v, e3, ev⟩ := Mi.bind_some ev
      obtain ⟨r, e4, rfl⟩ := map_some ev
      unfold PyData.eqvAll at h
      rw [Bool.and_eq_true] at h
      unfold stricts at ha hb
      rw [Bool.and_eq_true] at ha hb
      rw [strict_eq x y u v ha.1 hb.1 e1 e3 h.1, stricts_eq xs ys us' r ha.2 hb.2 e2 e4 h.2]
end
theorem Tm.strict : ∀ t : Tm, strict t.d = true
  | .any => rfl
  | .is k => rfl
  | .not t => by
    unfold Tm.d
    simp only [Mi.strict, stricts, Tm.strict t, Bool.and_true]
  | .and a b => by
    unfold Tm.d
    simp only [Mi.strict, stricts, Tm.strict a, Tm.strict b, Bool.and_true]
  | .or a b => by
    unfold Tm.d
    simp only [Mi.strict, stricts, Tm.strict a, Tm.strict b, Bool.and_true]
theorem Tm.inj : ∀ {a b : Tm}, a.d = b.d → a = b
  | .any, b, h => by cases b <;> simp [Tm.d] at h ⊢
  | .is k, b, h => by
    cases b with
    | is j => simp only [Tm.d, D.tup.injEq, List.cons.injEq, D.int.injEq, and_true, true_and] at h; rw [show k = j by omega]
    | not s => simp only [Tm.d, D.tup.injEq, List.cons.injEq, and_true, true_and, D.str.injEq] at h; exact absurd h.1 (by decide)
    | _ => simp [Tm.d] at h
  | .not t, b, h => by
    cases b with
    | not s => simp only [Tm.d, D.tup.injEq, List.cons.injEq, and_true, true_and] at h; rw [Tm.inj h]
    | is j => simp only [Tm.d, D.tup.injEq, List.cons.injEq, and_true, true_and, D.str.injEq] at h; exact absurd h.1 (by decide)
    | _ => simp [Tm.d] at h
  | .and x y, b, h => by
    cases b with
    | and u v => simp only [Tm.d, D.tup.injEq, List.cons.injEq, and_true, true_and] at h; rw [Tm.inj h.1, Tm.inj h.2]
    | or u v => simp only [Tm.d, D.tup.injEq, List.cons.injEq, and_true, true_and, D.str.injEq] at h; exact absurd h.1 (by decide)
    | _ => simp [Tm.d] at h
  | .or x y, b, h => by
    cases b with
    | or u v => simp only [Tm.d, D.tup.injEq, List.cons.injEq, and_true, true_and] at h; rw [Tm.inj h.1, Tm.inj h.2]
    | and u v => simp only [Tm.d, D.tup.injEq, List.cons.injEq, and_true, true_and, D.str.injEq] at h; exact absurd h.1 (by decide)
    | _ => simp [Tm.d] at h
end Mi
end
noncomputable section
namespace Mi.Lw
open PySem L2

local macro_rules | `(tactic| walk_at "sz") => `(tactic| (refine Nat.le_trans (m := 10000000) ?_ (show 10000000 ≤ 16777216 by decide); (try simp only [List.length_append, List.length_map, List.length_take, List.length_drop, List.length_cons, List.length_nil, List.length_zip, List.length_reverse, List.length_replicate, List.length_range, rngL_len]); omega))

noncomputable def rsv : List Str := ["things", "not", "(", ")", "and", "or"]
structure NmOk (ns : List Str) : Prop where
  nd : ns.Nodup
  rs : ∀ x, x ∈ ns → x ∉ rsv
  sp : ∀ x, x ∈ ns → 32 ∉ TL.tl x
  sz : ∀ x, x ∈ ns → x.length ≤ 8
  so : ∀ x, x ∈ ns → PyData.strOk x = true
  nz : ¬ (("" : Str) ∈ ns)
noncomputable def tw2 (ns : List Str) : Tm → List Str
  | .any => ["things"]
  | .is k => [ns.getD k ""]
  | .not t => "not" :: tw2 ns t
  | .and a b => ("(" : Str) :: (tw2 ns a ++ ("and" : Str) :: (tw2 ns b ++ [(")" : Str)]))
  | .or a b => ("(" : Str) :: (tw2 ns a ++ ("or" : Str) :: (tw2 ns b ++ [(")" : Str)]))
theorem tw2_ne (ns : List Str) : ∀ t : Tm, tw2 ns t ≠ []
  | .any => by simp [tw2]
  | .is _ => by simp [tw2]
  | .not _ => by simp [tw2]
  | .and _ _ => by simp [tw2]
  | .or _ _ => by simp [tw2]
theorem tw2_len (ns : List Str) : ∀ t : Tm, (tw2 ns t).length + 3 ≤ 4 * 2 ^ (t.deep - 1)
  | .any => by simp [tw2, Tm.deep]
  | .is _ => by simp [tw2, Tm.deep]
  | .not t => by
    have := tw2_len ns t
    have d : 1 ≤ t.deep := by cases t <;> simp [Tm.deep] <;> omega
    simp only [tw2, Tm.deep, List.length_cons]
    rw [show t.deep + 1 - 1 = (t.deep - 1) + 1 by omega, Nat.pow_succ]
    omega
  | .and a b => by
    have h1 := tw2_len ns a
    have h2 := tw2_len ns b
    have d1 : 1 ≤ a.deep := by cases a <;> simp [Tm.deep] <;> omega
    have d2 : 1 ≤ b.deep := by cases b <;> simp [Tm.deep] <;> omega
    have p1 : 2 ^ (a.deep - 1) ≤ 2 ^ (max a.deep b.deep - 1) := Nat.pow_le_pow_right (by decide) (by omega)
    have p2 : 2 ^ (b.deep - 1) ≤ 2 ^ (max a.deep b.deep - 1) := Nat.pow_le_pow_right (by decide) (by omega)
    simp only [tw2, Tm.deep, List.length_cons, List.length_append, List.length_nil]
    rw [show max a.deep b.deep + 1 - 1 = (max a.deep b.deep - 1) + 1 by omega, Nat.pow_succ]
    omega
  | .or a b => by
    have h1 := tw2_len ns a
    have h2 := tw2_len ns b
    have d1 : 1 ≤ a.deep := by cases a <;> simp [Tm.deep] <;> omega
    have d2 : 1 ≤ b.deep := by cases b <;> simp [Tm.deep] <;> omega
    have p1 : 2 ^ (a.deep - 1) ≤ 2 ^ (max a.deep b.deep - 1) := Nat.pow_le_pow_right (by decide) (by omega)
    have p2 : 2 ^ (b.deep - 1) ≤ 2 ^ (max a.deep b.deep - 1) := Nat.pow_le_pow_right (by decide) (by omega)
    simp only [tw2, Tm.deep, List.length_cons, List.length_append, List.length_nil]
    rw [show max a.deep b.deep + 1 - 1 = (max a.deep b.deep - 1) + 1 by omega, Nat.pow_succ]
    omega
theorem tw2_few {ns : List Str} {t : Tm} (h : t.deep ≤ 8) : (tw2 ns t).length ≤ 512 := by
  have := tw2_len ns t
  have p : 2 ^ (t.deep - 1) ≤ 2 ^ 7 := Nat.pow_le_pow_right (by decide) (by omega)
  omega
theorem nm_mem {ns : List Str} {k : Nat} (h : k < ns.length) : ns.getD k "" ∈ ns := by
  rw [List.getD_eq_getElem?_getD, List.getElem?_eq_getElem h]; exact List.getElem_mem h

theorem tw2_all {ns : List Str} (p : Str → Prop) (h0 : ∀ x, x ∈ rsv → p x) (h1 : ∀ x, x ∈ ns → p x) : ∀ t : Tm, t.ok ns.length → ∀ x, x ∈ tw2 ns t → p x
  | .any, _, x, hx => by rw [List.mem_singleton.mp hx]; exact h0 _ (by simp [rsv])
  | .is k, h, x, hx => by rw [List.mem_singleton.mp hx]; exact h1 _ (nm_mem h)
  | .not t, h, x, hx => by
    rcases List.mem_cons.mp hx with rfl | hx
    · exact h0 _ (by simp [rsv])
    · exact tw2_all p h0 h1 t h x hx
  | .and a b, h, x, hx => by
    simp only [tw2, List.mem_cons, List.mem_append, List.not_mem_nil, or_false] at hx
    rcases hx with rfl | hx | rfl | hx | rfl
    · exact h0 _ (by simp [rsv])
    · exact tw2_all p h0 h1 a h.1 x hx
    · exact h0 _ (by simp [rsv])
    · exact tw2_all p h0 h1 b h.2 x hx
    · exact h0 _ (by simp [rsv])
  | .or a b, h, x, hx => by
    simp only [tw2, List.mem_cons, List.mem_append, List.not_mem_nil, or_false] at hx
    rcases hx with rfl | hx | rfl | hx | rfl
    · exact h0 _ (by simp [rsv])
    · exact tw2_all p h0 h1 a h.1 x hx
    · exact h0 _ (by simp [rsv])
    · exact tw2_all p h0 h1 b h.2 x hx
    · exact h0 _ (by simp [rsv])
theorem rsv_sp : ∀ x, x ∈ rsv → 32 ∉ TL.tl x := by decide +kernel
theorem rsv_sz : ∀ x, x ∈ rsv → x.length ≤ 8 := by decide +kernel
theorem tw2_sp {ns : List Str} (hn : NmOk ns) {t : Tm} (h : t.ok ns.length) : ∀ x, x ∈ tw2 ns t → 32 ∉ TL.tl x := tw2_all _ rsv_sp hn.sp t h
theorem tw2_sz {ns : List Str} (hn : NmOk ns) {t : Tm} (h : t.ok ns.length) : ∀ x, x ∈ tw2 ns t → x.length ≤ 8 := tw2_all _ rsv_sz hn.sz t h
inductive WT where
  | any | is (w : Str) | not (t : WT) | and (a b : WT) | or (a b : WT)
theorem nt1 : ¬ (("not" : Str) = "things") := by decide +kernel
theorem nt2 : ¬ (("(" : Str) = "things") := by decide +kernel
theorem nt3 : ¬ (("(" : Str) = "not") := by decide +kernel
theorem nt4 : ¬ (("or" : Str) = "and") := by decide +kernel
end Mi.Lw
end
noncomputable section
namespace Mi.Lw
open PySem L2

local macro_rules | `(tactic| walk_at "sz") => `(tactic| (refine Nat.le_trans (m := 10000000) ?_ (show 10000000 ≤ 16777216 by decide); (try simp only [List.length_append, List.length_map, List.length_take, List.length_drop, List.length_cons, List.length_nil, List.length_zip, List.length_reverse, List.length_replicate, List.length_range, rngL_len]); omega))
theorem p_joino {G : List D} {S : Sto} {a : Str} {ys : List Str} (h : (ys.map fun y => y.length + a.length).sum ≤ 16777216) : P2.run G S .join (.val (.str a)) (.own (ys.map .str)) = some (.val (.str (Txt.join a ys)), S) := by
  have e : ∀ ys : List Str, strs? (ys.map .str) = some ys := fun ys => by
    induction ys with
    | nil => rfl
    | cons y ys ih => show (strs? (ys.map .str)).map _ = _; rw [ih]; rfl
  show ((strs? (ys.map .str)).bind fun ys => if (ys.map fun y => y.length + a.length).sum ≤ 16777216 then some (Rt.val (.str (Txt.join a ys)), S) else none) = _
  rw [e, Option.bind_some, if_pos h]
theorem sum_le {a : Nat} : ∀ {ys : List Str} {n : Nat}, (∀ y, y ∈ ys → y.length ≤ n) → (ys.map fun y => y.length + a).sum ≤ (n + a) * ys.length
  | [], n, _ => by simp
  | y :: ys, n, h => by
    have h1 := h y List.mem_cons_self
    have h2 := sum_le (a := a) fun z hz => h z (List.mem_cons_of_mem _ hz)
    rw [List.map_cons, List.sum_cons, List.length_cons, Nat.mul_succ]
    omega
theorem join_cons {s x : Str} {ys : List Str} (h : ys ≠ []) : Txt.join s (x :: ys) = x ++ s ++ Txt.join s ys := by
  rw [TL.join_eq, TL.join_eq]
  cases ys with
  | nil => exact absurd rfl h
  | cons y ys => rfl
theorem join_one {s x : Str} : Txt.join s [x] = x := by rw [TL.join_eq]; rfl
theorem rngL_map' : ∀ (n : Nat), rngL 0 n = (List.range n).map fun i : Nat => D.int i := fun n => by
  refine List.ext_getElem? fun i => ?_
  rw [List.getElem?_map]
  by_cases h : i < n
  · rw [List.getElem?_range h]
    cases e : (rngL 0 n)[i]? with
    | none => rw [List.getElem?_eq_none_iff, rngL_len] at e; omega
    | some d => rw [(rng_get e).2]; rfl
  · rw [List.getElem?_eq_none (by rw [rngL_len]; omega), List.getElem?_eq_none (by rw [List.length_range]; omega)]; rfl
section
variable {P : Nat → Option FD} {G : List D}
noncomputable def nmText : Str := "a thing alls b every ares zzzzzzzz nots x isa the any ab ofs shares q parents y mosts z"
noncomputable def nmAll : List Str := ["a", "thing", "alls", "b", "every", "ares", "zzzzzzzz", "nots", "x", "isa", "the", "any", "ab", "ofs", "shares", "q", "parents", "y", "mosts", "z"]
theorem nm_split : Txt.split nmText " " = nmAll := by
  have e : TL.tl (Str.ofString " ") = 32 :: [] := by decide +kernel
  have k : (Str.ofString " ").cps.all (· < 256) = true := by decide +kernel
  have : nmText = Txt.join " " nmAll := by rw [TL.join_eq]; decide +kernel
  rw [this]
  exact TL.split_join e k (by decide) (by decide +kernel)
noncomputable def nmPick (f s m : Nat) : List Str := (List.range m).map fun k => nmAll.getD ((f + s * k) % 20) ""
noncomputable def nmChk (f s m : Nat) : Bool := decide ((nmPick f s m).Nodup) && ((nmPick f s m).all fun x => !(rsv.contains x) && !((TL.tl x).contains 32) && decide (x.length ≤ 8) && PyData.strOk x)
theorem nm_chk : ∀ f, f ∈ List.range 20 → ∀ s, s ∈ [1, 3, 7] → ∀ m, m ∈ List.range 5 → nmChk f s m = true := by decide +kernel
theorem nm_nz : ∀ f, f ∈ List.range 20 → ∀ s, s ∈ [1, 3, 7] → ∀ m, m ∈ List.range 5 → ¬ (("" : Str) ∈ nmPick f s m) := by decide +kernel
theorem nm_ok {f s m : Nat} (hf : f < 20) (hs : s ∈ [1, 3, 7]) (hm : m ≤ 4) : NmOk (nmPick f s m) ∧ (nmPick f s m).length = m := by
  have h := nm_chk f (List.mem_range.mpr hf) s hs m (List.mem_range.mpr (by omega))
  unfold nmChk at h
  rw [Bool.and_eq_true, List.all_eq_true] at h
  have h2 : ∀ x, x ∈ nmPick f s m → ((x ∉ rsv ∧ 32 ∉ TL.tl x) ∧ x.length ≤ 8) ∧ PyData.strOk x = true := fun x hx => by
    have := h.2 x hx
    simpa using this
  exact ⟨⟨of_decide_eq_true h.1, fun x hx => (h2 x hx).1.1.1, fun x hx => (h2 x hx).1.1.2, fun x hx => (h2 x hx).1.2, fun x hx => (h2 x hx).2, nm_nz f (List.mem_range.mpr hf) s hs m (List.mem_range.mpr (by omega))⟩, by unfold nmPick; rw [List.length_map, List.length_range]⟩
theorem names_ok {k l m B : Nat} {S : Sto} {Q : Rt → Sto → Prop} (hP4 : P 4 = some l_take) (hP : P 87 = some l_names) (hm : m ≤ 4) (hB : Bx l (B + 2) S)
    (q : ∀ (ns : List Str) S', NmOk ns → ns.length = m → Bx l B S' → Fr l S S' → Q (.own (ns.map .str)) S') : wF (runF P G (k + 2)) 87 [.ref l, .int m] S Q := by
  refine wF_of hP rfl ?_
  unfold l_names
  walk_at "w"
  rw [show Txt.split (Str.ofString "a thing alls b every ares zzzzzzzz nots x isa the any ab ofs shares q parents y mosts z") (Str.ofString " ") = nmAll from nm_split]
  refine ⟨by decide +kernel, ?_⟩
  rw [show nmAll.length = 20 from rfl]
  refine take_ok (B := B + 1) hP4 hB (by decide) (by decide) fun a S1 a0 a1 hB1 f1 => ?_
  walk_at "w"
  refine take_ok (B := B) hP4 hB1 (by decide) (by decide) fun c S2 c0 c1 hB2 f2 => ?_
  walk_at "w"
  refine ix_any (fun d => ∃ s : Nat, d = .int s ∧ s ∈ [1, 3, 7]) c0 (by simpa using c1) (fun d hd => ?_) fun d hd => ?_
  · simp only [List.mem_cons, List.not_mem_nil, or_false] at hd
    rcases hd with rfl | rfl | rfl
    · exact ⟨1, rfl, by decide⟩
    · exact ⟨3, rfl, by decide⟩
    · exact ⟨7, rfl, by decide⟩
  obtain ⟨s, rfl, hs⟩ := hd
  obtain ⟨f, rfl, hf⟩ : ∃ f : Nat, a = f ∧ f < 20 := ⟨a.toNat, by omega, by omega⟩
  walk_at "w"
  rw [Int.toNat_natCast]
  refine ⟨⟨by omega, by omega⟩, ?_⟩
  rw [rngL_map']
  refine wL_map (fun j : Nat => .str (nmAll.getD ((f + s * j) % 20) "")) (fun j hj => ?_) ?_
  · unfold wTn
    try simp only [wipeR]
    walk_at "w"
    have hj := List.mem_range.mp hj
    have hlt : (f + s * j) % 20 < nmAll.length := Nat.mod_lt _ (by decide)
    rw [show ((f : Int) + (s : Int) * (j : Int)) % ((nmAll.length : Nat) : Int) = (((f + s * j) % 20 : Nat) : Int) from by rw [show nmAll.length = 20 from rfl]; push_cast; rfl]
    refine ⟨mulok_r (by omega) (by omega), by decide, atI_map ?_⟩
    rw [List.getD_eq_getElem?_getD, List.getElem?_eq_getElem hlt]; rfl
  · refine ⟨by rw [List.length_map, List.length_range]; exact lt_size (by omega), ?_⟩
    obtain ⟨h1, h2⟩ := nm_ok hf hs hm
    have := q _ S2 h1 h2 hB2 (f1.trans f2)
    unfold nmPick at this
    rw [List.map_map] at this
    exact this
end
end Mi.Lw
end
noncomputable section
namespace Mi
open PySem L2


noncomputable def Sy.low : Sy → Prop
  | .ct _ n _ _ => n ≤ 40
  | _ => True
noncomputable def Sy.lim : Sy → Prop
  | .ct .least n _ _ => n ≤ 41
  | .ct _ n _ _ => n ≤ 40
  | _ => True
section
variable {P : Nat → Option FD} {G : List D}
noncomputable def Sy.rest : Sy → List D
  | .pl _ s p => [s.d, p.d]
  | .ct _ n s p => [.int n, s.d, p.d]
  | .sh _ t b s p => [.int t, .int b, s.d, p.d]
end
end Mi
end
noncomputable section
namespace Mi.Lw
open PySem L2

local macro_rules | `(tactic| walk_at "sz") => `(tactic| (refine Nat.le_trans (m := 10000000) ?_ (show 10000000 ≤ 16777216 by decide); (try simp only [List.length_append, List.length_map, List.length_take, List.length_drop, List.length_cons, List.length_nil, List.length_zip, List.length_reverse, List.length_replicate, List.length_range, rngL_len]); omega))
noncomputable def nS (n : Int) : Str := strD (.int n)
theorem nS_ok : ∀ k, k ∈ List.range 42 → 32 ∉ TL.tl (nS (k : Nat)) ∧ (nS (k : Nat)).length ≤ 8 := by decide +kernel
theorem nS_sp {n : Int} (h0 : 0 ≤ n) (h1 : n ≤ 41) : 32 ∉ TL.tl (nS n) ∧ (nS n).length ≤ 8 := by
  obtain ⟨k, rfl⟩ : ∃ k : Nat, n = k := ⟨n.toNat, by omega⟩
  exact nS_ok k (List.mem_range.mpr (by omega))
noncomputable def Pw.hd : Pw → List Str
  | .all => ["all"] | .notall => ["not", "all"] | .some => ["some"] | .none => ["no"] | .more => ["more"] | .asmany => ["as", "many"]
noncomputable def Cw.hd : Cw → List Str
  | .least => ["at", "least"] | .most => ["at", "most"] | .just => ["exactly"]
noncomputable def Sw.hd : Sw → List Str
  | .share => ["share"] | .under => ["not", "share"]
noncomputable def Pw.bt : Pw → Str
  | .more => "than" | .asmany => "as" | _ => "are"
noncomputable def syp (ns : List Str) : Sy → List (List Str)
  | .pl w s p => [Pw.hd w, tw2 ns s, [Pw.bt w], tw2 ns p]
  | .ct w n s p => [Cw.hd w, [nS n], tw2 ns s, [("are" : Str)], tw2 ns p]
  | .sh w t b s p => [Sw.hd w, [nS t], [("of" : Str)], [nS b], tw2 ns s, [("are" : Str)], tw2 ns p]
noncomputable def syw (ns : List Str) (y : Sy) : List Str := (syp ns y).flatten
noncomputable def stx (ns : List Str) (y : Sy) : Str := Txt.join " " (syw ns y)
theorem Pw.hd_ne (w : Pw) : Pw.hd w ≠ [] := by cases w <;> simp [Pw.hd]
theorem Cw.hd_ne (w : Cw) : Cw.hd w ≠ [] := by cases w <;> simp [Cw.hd]
theorem Sw.hd_ne (w : Sw) : Sw.hd w ≠ [] := by cases w <;> simp [Sw.hd]
theorem syp_ne (ns : List Str) (y : Sy) : ∀ x, x ∈ syp ns y → x ≠ [] := fun x hx => by
  cases y with
  | pl w s p =>
    simp only [syp, List.mem_cons, List.not_mem_nil, or_false] at hx
    rcases hx with rfl | rfl | rfl | rfl
    · exact Pw.hd_ne w
    · exact tw2_ne ns s
    · simp
    · exact tw2_ne ns p
  | ct w n s p =>
    simp only [syp, List.mem_cons, List.not_mem_nil, or_false] at hx
    rcases hx with rfl | rfl | rfl | rfl | rfl
    · exact Cw.hd_ne w
    · simp
    · exact tw2_ne ns s
    · simp
    · exact tw2_ne ns p
  | sh w t b s p =>
    simp only [syp, List.mem_cons, List.not_mem_nil, or_false] at hx
    rcases hx with rfl | rfl | rfl | rfl | rfl | rfl | rfl
    · exact Sw.hd_ne w
    · simp
    · simp
    · simp
    · exact tw2_ne ns s
    · simp
    · exact tw2_ne ns p
theorem syw_ne (ns : List Str) (y : Sy) : syw ns y ≠ [] := fun e => by
  have h := syp_ne ns y
  unfold syw at e
  cases e2 : syp ns y with
  | nil => cases y <;> simp [syp] at e2
  | cons x r =>
    rw [e2] at e h
    rw [List.flatten_cons, List.append_eq_nil_iff] at e
    exact h x List.mem_cons_self e.1
noncomputable def hdAll : List Str := ["all", "not", "some", "no", "more", "as", "many", "at", "least", "most", "exactly", "share", "than", "are", "of"]
theorem hdAll_sp : ∀ x, x ∈ hdAll → 32 ∉ TL.tl x ∧ x.length ≤ 8 := by decide +kernel
theorem Pw.hd_in (w : Pw) : ∀ x, x ∈ Pw.hd w → x ∈ hdAll := by cases w <;> (intro x hx; simp only [Pw.hd, List.mem_cons, List.not_mem_nil, or_false] at hx; simp only [hdAll, List.mem_cons]; (try rcases hx with rfl | rfl) <;> simp [*])
theorem Cw.hd_in (w : Cw) : ∀ x, x ∈ Cw.hd w → x ∈ hdAll := by cases w <;> (intro x hx; simp only [Cw.hd, List.mem_cons, List.not_mem_nil, or_false] at hx; simp only [hdAll, List.mem_cons]; (try rcases hx with rfl | rfl) <;> simp [*])
theorem Sw.hd_in (w : Sw) : ∀ x, x ∈ Sw.hd w → x ∈ hdAll := by cases w <;> (intro x hx; simp only [Sw.hd, List.mem_cons, List.not_mem_nil, or_false] at hx; simp only [hdAll, List.mem_cons]; (try rcases hx with rfl | rfl) <;> simp [*])
theorem syw_all {ns : List Str} (hn : NmOk ns) {y : Sy} {m : Nat} (hm : ns.length = m) (hy : y.ok m) : ∀ x, x ∈ syw ns y → 32 ∉ TL.tl x ∧ x.length ≤ 8 := fun x hx => by
  subst hm
  obtain ⟨⟨h1, _⟩, ⟨h2, _⟩, h3⟩ := hy
  have ts : ∀ t : Tm, t.ok ns.length → x ∈ tw2 ns t → 32 ∉ TL.tl x ∧ x.length ≤ 8 := fun t ht h => ⟨tw2_sp hn ht x h, tw2_sz hn ht x h⟩
  unfold syw at hx
  obtain ⟨l, hl, hx⟩ := List.mem_flatten.mp hx
  cases y with
  | pl w s p =>
    simp only [syp, List.mem_cons, List.not_mem_nil, or_false] at hl
    rcases hl with rfl | rfl | rfl | rfl
    · exact hdAll_sp x (Pw.hd_in w x hx)
    · exact ts s h1 hx
    · rw [List.mem_singleton.mp hx]; exact hdAll_sp _ (by cases w <;> simp [Pw.bt, hdAll])
    · exact ts p h2 hx
  | ct w n s p =>
    have h3 : 0 ≤ n ∧ n ≤ 41 := h3
    simp only [syp, List.mem_cons, List.not_mem_nil, or_false] at hl
    rcases hl with rfl | rfl | rfl | rfl | rfl
    · exact hdAll_sp x (Cw.hd_in w x hx)
    · rw [List.mem_singleton.mp hx]; exact nS_sp h3.1 h3.2
    · exact ts s h1 hx
    · rw [List.mem_singleton.mp hx]; exact hdAll_sp _ (by simp [hdAll])
    · exact ts p h2 hx
  | sh w t b s p =>
    have h3 : 0 ≤ t ∧ t ≤ b ∧ 1 ≤ b ∧ b ≤ 12 := h3
    simp only [syp, List.mem_cons, List.not_mem_nil, or_false] at hl
    rcases hl with rfl | rfl | rfl | rfl | rfl | rfl | rfl
    · exact hdAll_sp x (Sw.hd_in w x hx)
    · rw [List.mem_singleton.mp hx]; exact nS_sp (by omega) (by omega)
    · rw [List.mem_singleton.mp hx]; exact hdAll_sp _ (by simp [hdAll])
    · rw [List.mem_singleton.mp hx]; exact nS_sp (by omega) (by omega)
    · exact ts s h1 hx
    · rw [List.mem_singleton.mp hx]; exact hdAll_sp _ (by simp [hdAll])
    · exact ts p h2 hx

inductive Tag where
  | p (w : Pw) | c (w : Cw) | s (w : Sw)
noncomputable def tagOf : Sy → Tag
  | .pl w _ _ => .p w
  | .ct w _ _ _ => .c w
  | .sh w _ _ _ _ => .s w
noncomputable def tagHd : Tag → List Str
  | .p w => Pw.hd w
  | .c w => Cw.hd w
  | .s w => Sw.hd w
noncomputable def restW (ns : List Str) : Sy → List Str
  | .pl w s p => tw2 ns s ++ (Pw.bt w :: tw2 ns p)
  | .ct _ n s p => nS n :: (tw2 ns s ++ (("are" : Str) :: tw2 ns p))
  | .sh _ t b s p => nS t :: ("of" : Str) :: nS b :: (tw2 ns s ++ (("are" : Str) :: tw2 ns p))
theorem syw_eq (ns : List Str) (y : Sy) : syw ns y = tagHd (tagOf y) ++ restW ns y := by
  cases y <;> simp only [syw, syp, restW, tagOf, tagHd, List.flatten_cons, List.flatten_nil, List.append_nil, List.cons_append, List.nil_append]
end Mi.Lw
end
noncomputable section
namespace Mi.Lw
open PySem L2

inductive PR (α : Type) where
  | ok (x : α) (a : Nat) | no (a : Nat)
noncomputable def PR.then {α β : Type} : PR α → (α → Nat → PR β) → PR β
  | .ok x a, f => f x a
  | .no a, _ => .no a
noncomputable def nx (ws : List Str) (a : Nat) : Str := ws.getD a ""
noncomputable def rdWd (ok ws : List Str) (a : Nat) : PR Str := if nx ws a ∈ ok then .ok (nx ws a) (a + 1) else .no a
noncomputable def numW (w : Str) : Option Nat := (List.range 100).find? fun n => nS (n : Nat) = w
noncomputable def rdNum (lo hi : Nat) (ws : List Str) (a : Nat) : PR Nat := match numW (nx ws a) with
  | none => .no a
  | some n => if lo ≤ n ∧ n ≤ hi then .ok n (a + 1) else .no a
noncomputable def two (o : Str) (s t : Tm) : Tm := if o = "and" then .and s t else .or s t
noncomputable def rdTm (ns : List Str) : Nat → List Str → Nat → PR Tm
  | 0, ws, a => if nx ws a = "things" then .ok .any (a + 1) else if nx ws a ∈ ns then .ok (.is (ns.findIdx fun x => x == nx ws a)) (a + 1) else .no a
  | n + 1, ws, a => if nx ws a = "things" then .ok .any (a + 1) else if nx ws a ∈ ns then .ok (.is (ns.findIdx fun x => x == nx ws a)) (a + 1) else
    if nx ws a = "not" then (rdTm ns n ws (a + 1)).then fun t a => .ok (.not t) a
    else if nx ws a = "(" then (rdTm ns n ws (a + 1)).then fun s a => (rdWd ["and", "or"] ws a).then fun o a => (rdTm ns n ws a).then fun t a => (rdWd [")"] ws a).then fun _ a => .ok (two o s t) a
    else .no a
theorem rdTm_z {ns ws : List Str} {a : Nat} : rdTm ns 0 ws a = if nx ws a = "things" then .ok .any (a + 1) else if nx ws a ∈ ns then .ok (.is (ns.findIdx fun x => x == nx ws a)) (a + 1) else .no a := rfl
theorem rdTm_s {ns ws : List Str} {n a : Nat} : rdTm ns (n + 1) ws a = if nx ws a = "things" then .ok .any (a + 1) else if nx ws a ∈ ns then .ok (.is (ns.findIdx fun x => x == nx ws a)) (a + 1) else
    if nx ws a = "not" then (rdTm ns n ws (a + 1)).then fun t a => .ok (.not t) a
    else if nx ws a = "(" then (rdTm ns n ws (a + 1)).then fun s a => (rdWd ["and", "or"] ws a).then fun o a => (rdTm ns n ws a).then fun t a => (rdWd [")"] ws a).then fun _ a => .ok (two o s t) a
    else .no a := rfl
noncomputable def tg1 : List (Str × Tag) := [("all", .p .all), ("some", .p .some), ("no", .p .none), ("exactly", .c .just), ("more", .p .more), ("share", .s .share)]
noncomputable def tg2 : List ((Str × Str) × Tag) := [(("not", "all"), .p .notall), (("not", "share"), .s .under), (("at", "least"), .c .least), (("at", "most"), .c .most), (("as", "many"), .p .asmany)]
noncomputable def tagK : Tag → Str
  | .p w => w.str
  | .c w => w.str
  | .s w => w.str
noncomputable def sec (w : Str) : List Str := (tg2.filter fun p => p.1.1 = w).map fun p => p.1.2
noncomputable def look {α : Type} (k : α → Bool) : List (α × Tag) → Tag
  | [] => .p .all
  | p :: r => if k p.1 = true then p.2 else look k r
noncomputable def fst6 : List Str := ["all", "some", "no", "exactly", "more", "share"]
noncomputable def fst9 : List Str := ["all", "some", "no", "exactly", "more", "share", "not", "at", "as"]
noncomputable def rdF2 (w : Str) (ws : List Str) (a : Nat) : PR Tag := if w ∈ fst6 then .ok (look (fun k => k == w) tg1) a
  else (rdWd (sec w) ws a).then fun v a => .ok (look (fun k : Str × Str => k.1 == w && k.2 == v) tg2) a
noncomputable def rdForm (ws : List Str) (a : Nat) : PR Tag := (rdWd fst9 ws a).then fun w a => rdF2 w ws a
noncomputable def rdNums (t : Tag) (ws : List Str) (a : Nat) : PR (List Nat) := match t with
  | .p _ => .ok [] a
  | .c _ => (rdNum 0 41 ws a).then fun n a => .ok [n] a
  | .s _ => (rdNum 0 12 ws a).then fun t a => (rdWd ["of"] ws a).then fun _ a => (rdNum (max 1 t) 12 ws a).then fun b a => .ok [t, b] a
noncomputable def mkSy : Tag → List Nat → Tm → Tm → Sy
  | .p w, _, s, p => .pl w s p
  | .c w, [n], s, p => .ct w n s p
  | .s w, [t, b], s, p => .sh w t b s p
  | _, _, s, p => .pl .all s p
noncomputable def tagB : Tag → Str
  | .p w => Pw.bt w
  | _ => "are"
noncomputable def rdEnd (ws : List Str) (a : Nat) : PR Unit := if a < ws.length then .no a else .ok () a

noncomputable def rdBody (ns ws : List Str) (a : Nat) : PR Sy := (rdForm ws a).then fun t a => (rdNums t ws a).then fun xs a => (rdTm ns 7 ws a).then fun s a => (rdWd [tagB t] ws a).then fun _ a =>
  (rdTm ns 7 ws a).then fun p a => .ok (mkSy t xs s p) a
noncomputable def rdSay (ns ws : List Str) : PR Sy := (rdBody ns ws 0).then fun y a => (rdEnd ws a).then fun _ a => .ok y a


structure Ahd (ws xs r : List Str) (a : Nat) : Prop where
  d : ws.drop a = xs ++ r
theorem Ahd.nx {ws r : List Str} {x : Str} {xs : List Str} {a : Nat} (h : Ahd ws (x :: xs) r a) : nx ws a = x := by
  have h1 : (ws.drop a)[0]? = some x := by rw [h.d]; rfl
  rw [List.getElem?_drop, Nat.add_zero] at h1
  unfold Mi.Lw.nx
  rw [List.getD_eq_getElem?_getD, h1]; rfl
theorem Ahd.lt {ws r : List Str} {x : Str} {xs : List Str} {a : Nat} (h : Ahd ws (x :: xs) r a) : a < ws.length := by
  have h1 := congrArg List.length h.d
  simp at h1
  omega
theorem Ahd.tl {ws r : List Str} {x : Str} {xs : List Str} {a : Nat} (h : Ahd ws (x :: xs) r a) : Ahd ws xs r (a + 1) := ⟨by rw [← List.drop_drop, h.d]; rfl⟩
theorem Ahd.app {ws r xs ys : List Str} {a : Nat} (h : Ahd ws (xs ++ ys) r a) : Ahd ws xs (ys ++ r) a := ⟨by rw [h.d, List.append_assoc]⟩
theorem Ahd.rst {ws r xs ys : List Str} {a : Nat} (h : Ahd ws (xs ++ ys) r a) : Ahd ws ys r (a + xs.length) := ⟨by rw [← List.drop_drop, h.d, List.append_assoc, List.drop_left]⟩
theorem Ahd.cons {ws r : List Str} {x : Str} {xs : List Str} {a : Nat} (h : Ahd ws (x :: xs) r a) : Ahd ws [x] (xs ++ r) a := ⟨by rw [h.d]; rfl⟩
theorem rdWd_ok {ok ws r : List Str} {x : Str} {xs : List Str} {a : Nat} (h : Ahd ws (x :: xs) r a) (i : x ∈ ok) : rdWd ok ws a = .ok x (a + 1) := by
  unfold rdWd
  rw [h.nx, if_pos i]
theorem numW_nS : ∀ n, n ∈ List.range 100 → numW (nS (n : Nat)) = some n := by decide +kernel
theorem rdNum_ok {lo hi : Nat} {ws r : List Str} {xs : List Str} {n a : Nat} (h : Ahd ws (nS n :: xs) r a) (h0 : lo ≤ n) (h1 : n ≤ hi) (h2 : hi < 100) : rdNum lo hi ws a = .ok n (a + 1) := by
  unfold rdNum
  rw [h.nx, numW_nS n (List.mem_range.mpr (by omega))]
  dsimp only
  rw [if_pos ⟨h0, h1⟩]
theorem nt6 : ("and" : Str) ∈ (["and", "or"] : List Str) := by simp
theorem nt7 : ("or" : Str) ∈ (["and", "or"] : List Str) := by simp
theorem nm_idx {ns : List Str} (hn : NmOk ns) {k : Nat} (h : k < ns.length) : (ns.findIdx fun x => x == ns.getD k "") = k := by
  have e : ns.getD k "" = ns[k] := by rw [List.getD_eq_getElem?_getD, List.getElem?_eq_getElem h]; rfl
  rw [e]
  refine (List.findIdx_eq h).mpr ⟨beq_self_eq_true _, fun j hj => ?_⟩
  rw [beq_eq_false_iff_ne]
  intro e
  have := (List.getElem_inj hn.nd).mp e
  omega
theorem rdTm_ok {ns : List Str} (hn : NmOk ns) {ws : List Str} : ∀ (n : Nat) (t : Tm) (r : List Str) (a : Nat), t.deep ≤ n + 1 → t.ok ns.length → Ahd ws (tw2 ns t) r a → rdTm ns n ws a = .ok t (a + (tw2 ns t).length)
  | n, .any, r, a, _, _, h => by
    have e : nx ws a = "things" := h.nx
    cases n
    · rw [rdTm_z, if_pos e]; rfl
    · rw [rdTm_s, if_pos e]; rfl
  | n, .is k, r, a, _, ok, h => by
    have e : nx ws a = ns.getD k "" := h.nx
    have m := nm_mem ok
    have h2 := hn.rs _ m
    simp only [rsv, List.mem_cons, not_or] at h2
    cases n
    · rw [rdTm_z, e, if_neg h2.1, if_pos m, nm_idx hn ok]; rfl
    · rw [rdTm_s, e, if_neg h2.1, if_pos m, nm_idx hn ok]; rfl
  | 0, .not t, r, a, hd, _, _ => by simp only [Tm.deep] at hd; cases t <;> simp [Tm.deep] at hd
  | 0, .and t _, r, a, hd, _, _ => by simp only [Tm.deep] at hd; cases t <;> simp [Tm.deep] at hd <;> omega
  | 0, .or t _, r, a, hd, _, _ => by simp only [Tm.deep] at hd; cases t <;> simp [Tm.deep] at hd <;> omega
  | n + 1, .not t, r, a, hd, ok, h => by
    have e : nx ws a = "not" := h.nx
    have h1 : ¬ (("not" : Str) ∈ ns) := fun m => hn.rs _ m (by simp [rsv])
    simp only [Tm.deep] at hd
    rw [rdTm_s, e, if_neg nt1, if_neg h1, if_pos rfl, rdTm_ok hn n t r (a + 1) (by omega) ok h.tl]
    show PR.ok _ _ = PR.ok _ _
    simp only [tw2, List.length_cons]
    congr 1
    omega
  | n + 1, .and s t, r, a, hd, ok, h => by
    have e : nx ws a = "(" := h.nx
    have h1 : ¬ (("(" : Str) ∈ ns) := fun m => hn.rs _ m (by simp [rsv])
    simp only [Tm.deep] at hd
    have g1 : Ahd ws (tw2 ns s ++ ("and" : Str) :: (tw2 ns t ++ [(")" : Str)])) r (a + 1) := h.tl
    have g2 := g1.rst
    have g3 := g2.tl
    have g4 := g3.rst
    rw [rdTm_s, e, if_neg nt2, if_neg h1, if_neg nt3, if_pos rfl, rdTm_ok hn n s _ (a + 1) (by omega) ok.1 g1.app]
    show PR.then (rdWd _ ws _) _ = _
    rw [rdWd_ok g2 nt6]
    show PR.then (rdTm ns n ws _) _ = _
    rw [rdTm_ok hn n t _ _ (by omega) ok.2 g3.app]
    show PR.then (rdWd _ ws _) _ = _
    rw [rdWd_ok g4 List.mem_cons_self]
    show PR.ok (two "and" s t) _ = PR.ok _ _
    unfold two
    rw [if_pos rfl]
    simp only [tw2, List.length_cons, List.length_append, List.length_nil]
    congr 1
    omega
  | n + 1, .or s t, r, a, hd, ok, h => by
    have e : nx ws a = "(" := h.nx
    have h1 : ¬ (("(" : Str) ∈ ns) := fun m => hn.rs _ m (by simp [rsv])
    simp only [Tm.deep] at hd
    have g1 : Ahd ws (tw2 ns s ++ ("or" : Str) :: (tw2 ns t ++ [(")" : Str)])) r (a + 1) := h.tl
    have g2 := g1.rst
    have g3 := g2.tl
    have g4 := g3.rst
    rw [rdTm_s, e, if_neg nt2, if_neg h1, if_neg nt3, if_pos rfl, rdTm_ok hn n s _ (a + 1) (by omega) ok.1 g1.app]
    show PR.then (rdWd _ ws _) _ = _
    rw [rdWd_ok g2 nt7]
    show PR.then (rdTm ns n ws _) _ = _
    rw [rdTm_ok hn n t _ _ (by omega) ok.2 g3.app]
    show PR.then (rdWd _ ws _) _ = _
    rw [rdWd_ok g4 List.mem_cons_self]
    show PR.ok (two "or" s t) _ = PR.ok _ _
    unfold two
    rw [if_neg nt4]
    simp only [tw2, List.length_cons, List.length_append, List.length_nil]
    congr 1
    omega
theorem rdForm_ok {ws r : List Str} {a : Nat} {t : Tag} (h : Ahd ws (tagHd t) r a) : rdForm ws a = .ok t (a + (tagHd t).length) := by
  unfold rdForm
  have e1 : ∀ {x : Str} {xs : List Str}, Ahd ws (x :: xs) r a → x ∈ fst9 → rdWd fst9 ws a = .ok x (a + 1) := fun h m => rdWd_ok h m
  have e2 : ∀ {x y : Str}, Ahd ws [x, y] r a → y ∈ sec x → rdWd (sec x) ws (a + 1) = .ok y (a + 1 + 1) := fun h m => rdWd_ok h.tl m
  rcases t with w | w | w <;> cases w <;> (
    rw [e1 h (by decide +kernel)]
    show rdF2 _ ws _ = _
    unfold rdF2
    first
      | (rw [if_pos (by decide +kernel)]; rfl)
      | (rw [if_neg (by decide +kernel), e2 h (by decide +kernel)]; rfl))
noncomputable def natsOf : Sy → List Nat
  | .pl _ _ _ => []
  | .ct _ n _ _ => [n.toNat]
  | .sh _ t b _ _ => [t.toNat, b.toNat]
noncomputable def numWs : Sy → List Str
  | .pl _ _ _ => []
  | .ct _ n _ _ => [nS n]
  | .sh _ t b _ _ => [nS t, "of", nS b]
theorem restW_eq (ns : List Str) (y : Sy) : restW ns y = numWs y ++ (tw2 ns y.s ++ tagB (tagOf y) :: tw2 ns y.p) := by cases y <;> rfl
theorem rdNums_ok {ws r : List Str} {a : Nat} {y : Sy} (hy : y.nums) (h : Ahd ws (numWs y) r a) : rdNums (tagOf y) ws a = .ok (natsOf y) (a + (numWs y).length) := by
  cases y with
  | pl w s p => rfl
  | ct w n s p =>
    have hy : 0 ≤ n ∧ n ≤ 41 := hy
    obtain ⟨k, rfl⟩ : ∃ k : Nat, n = k := ⟨n.toNat, by omega⟩
    show PR.then (rdNum 0 41 ws a) _ = _
    rw [rdNum_ok h (by omega) (by omega) (by omega)]
    rfl
  | sh w t b s p =>
    have hy : 0 ≤ t ∧ t ≤ b ∧ 1 ≤ b ∧ b ≤ 12 := hy
    obtain ⟨k, rfl⟩ : ∃ k : Nat, t = k := ⟨t.toNat, by omega⟩
    obtain ⟨j, rfl⟩ : ∃ k : Nat, b = k := ⟨b.toNat, by omega⟩
    show PR.then (rdNum 0 12 ws a) _ = _
    rw [rdNum_ok h (by omega) (by omega) (by omega)]
    show PR.then (rdWd _ ws _) _ = _
    rw [rdWd_ok h.tl List.mem_cons_self]
    show PR.then (rdNum (max 1 k) 12 ws _) _ = _
    rw [rdNum_ok h.tl.tl (by omega) (by omega) (by omega)]
    rfl
theorem mkSy_of {y : Sy} (hy : y.nums) : mkSy (tagOf y) (natsOf y) y.s y.p = y := by
  cases y with
  | pl w s p => rfl
  | ct w n s p =>
    have hy : 0 ≤ n ∧ n ≤ 41 := hy
    show Sy.ct w (n.toNat : Nat) s p = _
    rw [show ((n.toNat : Nat) : Int) = n by omega]
  | sh w t b s p =>
    have hy : 0 ≤ t ∧ t ≤ b ∧ 1 ≤ b ∧ b ≤ 12 := hy
    show Sy.sh w (t.toNat : Nat) (b.toNat : Nat) s p = _
    rw [show ((t.toNat : Nat) : Int) = t by omega, show ((b.toNat : Nat) : Int) = b by omega]
theorem rdBody_ok {ns : List Str} (hn : NmOk ns) {ws r : List Str} {y : Sy} {m a : Nat} (hm : ns.length = m) (hy : y.ok m) (h : Ahd ws (syw ns y) r a) : rdBody ns ws a = .ok y (a + (syw ns y).length) := by
  subst hm
  obtain ⟨⟨o1, d1⟩, ⟨o2, d2⟩, hnum⟩ := hy
  rw [syw_eq, restW_eq] at h
  have h1 := h.rst
  have h2 := h1.rst
  have h3 := h2.rst
  have h4 := h3.tl
  unfold rdBody
  rw [rdForm_ok h.app]
  show PR.then (rdNums _ ws _) _ = _
  rw [rdNums_ok hnum h1.app]
  show PR.then (rdTm ns 7 ws _) _ = _
  rw [rdTm_ok hn 7 y.s _ _ (by omega) o1 h2.app]
  show PR.then (rdWd _ ws _) _ = _
  rw [rdWd_ok h3 List.mem_cons_self]
  show PR.then (rdTm ns 7 ws _) _ = _
  rw [rdTm_ok hn 7 y.p r _ (by omega) o2 h4]
  show PR.ok _ _ = PR.ok _ _
  rw [mkSy_of hnum, syw_eq, restW_eq]
  simp only [List.length_append, List.length_cons]
  congr 1
  omega
theorem rdSay_ok {ns : List Str} (hn : NmOk ns) {y : Sy} {m : Nat} (hm : ns.length = m) (hy : y.ok m) : rdSay ns (syw ns y) = .ok y (syw ns y).length := by
  unfold rdSay
  rw [rdBody_ok hn hm hy (r := []) ⟨by rw [List.append_nil]; rfl⟩, Nat.zero_add]
  show PR.then (rdEnd _ _) _ = _
  unfold rdEnd
  rw [if_neg (Nat.lt_irrefl _)]
  rfl
noncomputable def Pre {α : Type} (f : List Str → Nat → PR α) : Prop := ∀ ws a x b, f ws a = .ok x b → a ≤ b ∧ ∀ n, (b ≤ n → f (ws.take n) a = .ok x b) ∧ (a ≤ n → n < b → f (ws.take n) a = .no n)
theorem nx_take {ws : List Str} {a n : Nat} (h : a < n) : nx (ws.take n) a = nx ws a := by
  unfold nx
  rw [List.getD_eq_getElem?_getD, List.getD_eq_getElem?_getD, List.getElem?_take_of_lt h]
theorem nx_out {ws : List Str} {n : Nat} : nx (ws.take n) n = "" := by
  unfold nx
  rw [List.getD_eq_getElem?_getD, List.getElem?_take_eq_none (Nat.le_refl n)]; rfl

theorem Pre.one {α : Type} {f : List Str → Nat → PR α} (g : Str → Option α) (hg : g "" = none) (hf : ∀ ws a, f ws a = match g (nx ws a) with | some x => .ok x (a + 1) | none => .no a) : Pre f := fun ws a x b h => by
  rw [hf] at h
  cases e : g (nx ws a) with
  | none => rw [e] at h; cases h
  | some z =>
    rw [e] at h
    cases h
    refine ⟨by omega, fun n => ⟨fun hn => ?_, fun h1 h2 => ?_⟩⟩
    · rw [hf, nx_take (by omega), e]
    · obtain rfl : a = n := by omega
      rw [hf, nx_out, hg]
theorem Pre.then {α β : Type} {f : List Str → Nat → PR α} {g : α → List Str → Nat → PR β} (hf : Pre f) (hg : ∀ x, Pre (g x)) : Pre fun ws a => (f ws a).then fun x a => g x ws a := fun ws a x b h => by
  dsimp only at h ⊢
  cases e : f ws a with
  | no c => rw [e] at h; cases h
  | ok z c =>
    rw [e] at h
    have h : g z ws c = .ok x b := h
    obtain ⟨h1, h2⟩ := hf ws a z c e
    obtain ⟨h3, h4⟩ := hg z ws c x b h
    refine ⟨by omega, fun n => ⟨fun hn => ?_, fun ha hb => ?_⟩⟩
    · rw [(h2 n).1 (by omega)]
      exact (h4 n).1 hn
    · by_cases hc : c ≤ n
      · rw [(h2 n).1 hc]
        exact (h4 n).2 hc hb
      · rw [(h2 n).2 ha (by omega)]
        rfl
theorem Pre.ret {α : Type} {x : α} : Pre fun _ a => PR.ok x a := fun ws a y b h => by
  cases h
  exact ⟨Nat.le_refl _, fun n => ⟨fun _ => rfl, fun h1 h2 => by omega⟩⟩
theorem Pre.by {α β : Type} {f : List Str → Nat → PR β} (g : Str → Option α) (k : α → List Str → Nat → PR β) (hg : g "" = none) (hk : ∀ x, Pre (k x)) (hf : ∀ ws a, f ws a = match g (nx ws a) with | some x => k x ws (a + 1) | none => .no a) : Pre f := by
  have h1 : Pre fun ws a => (match g (nx ws a) with | some x => PR.ok x (a + 1) | none => .no a : PR α) := .one g hg fun _ _ => rfl
  have h2 := h1.then hk
  have e : f = fun ws a => ((match g (nx ws a) with | some x => PR.ok x (a + 1) | none => .no a : PR α)).then fun x a => k x ws a := by
    funext ws a
    rw [hf]
    cases g (nx ws a) <;> rfl
  rw [e]
  exact h2
end Mi.Lw
end
noncomputable section
namespace Mi.Lw
open PySem L2

local macro_rules | `(tactic| walk_at "sz") => `(tactic| (refine Nat.le_trans (m := 10000000) ?_ (show 10000000 ≤ 16777216 by decide); (try simp only [List.length_append, List.length_map, List.length_take, List.length_drop, List.length_cons, List.length_nil, List.length_zip, List.length_reverse, List.length_replicate, List.length_range, rngL_len]); omega))
theorem p_gg2' {G : List D} {S : Sto} {j : Nat} {ks : List Key} {ds : List D} {k : Str} {f : D} (h : G[j]? = some (.dct ks ds)) : P2.run G S (.gg2 j) (.val (.str k)) (.val f) = some (.val ((valD ks ds (.inr k)).getD f), S) := by
  show ((G[j]?).bind _) = _
  rw [h]; rfl
noncomputable def betK : List Key := [.inr "more", .inr "asmany"]
noncomputable def betD : List D := [.str "than", .str "as"]
theorem jn2 {a b : Str} : Txt.join " " [a, b] = a ++ " " ++ b := by rw [join_cons (by simp), join_one]
theorem hd_notall : Txt.join " " [("not" : Str), ("all" : Str)] = "not all" := by rw [jn2]; decide +kernel
theorem hd_atleast : Txt.join " " [("at" : Str), ("least" : Str)] = "at least" := by rw [jn2]; decide +kernel
theorem hd_atmost : Txt.join " " [("at" : Str), ("most" : Str)] = "at most" := by rw [jn2]; decide +kernel
theorem hd_asmany : Txt.join " " [("as" : Str), ("many" : Str)] = "as many" := by rw [jn2]; decide +kernel
theorem hd_under : Txt.join " " [("not" : Str), ("share" : Str)] = "not share" := by rw [jn2]; decide +kernel
section
variable {P : Nat → Option FD} {G : List D}
theorem spl {xs : List Str} (h : xs ≠ []) (hs : ∀ x, x ∈ xs → 32 ∉ TL.tl x) : Txt.split (Txt.join " " xs) (Str.ofString " ") = xs := TL.split_join (s := 32) (S := []) (by decide +kernel) (by decide +kernel) h hs
theorem s_notall : Txt.split (Str.ofString "not all") (Str.ofString " ") = Pw.hd .notall := by rw [← hd_notall]; exact spl (by decide) (by decide +kernel)
theorem s_asmany : Txt.split (Str.ofString "as many") (Str.ofString " ") = Pw.hd .asmany := by rw [← hd_asmany]; exact spl (by decide) (by decide +kernel)
theorem s_least : Txt.split (Str.ofString "at least") (Str.ofString " ") = Cw.hd .least := by rw [← hd_atleast]; exact spl (by decide) (by decide +kernel)
theorem s_most : Txt.split (Str.ofString "at most") (Str.ofString " ") = Cw.hd .most := by rw [← hd_atmost]; exact spl (by decide) (by decide +kernel)
theorem s_under : Txt.split (Str.ofString "not share") (Str.ofString " ") = Sw.hd .under := by rw [← hd_under]; exact spl (by decide) (by decide +kernel)
end
end Mi.Lw
end
noncomputable section
namespace Mi
open PySem L2
section
variable {Φ : Fns} {G : List D} {ρ : Env} {S : Sto} {Q : Rt → Sto → Prop} {N : Env → Sto → Prop} {R : Rt → Sto → Prop}
theorem cellO_of {l : Nat} {c : Str} {ns : List Str} {ds : List D} (h : S[l]? = some (.obj c ns ds)) : cellO S l = some (c, ns, ds) := by unfold cellO; rw [h]
theorem cellO_at {l : Nat} {c : Str} {ns : List Str} {ds : List D} (h : cellO S l = some (c, ns, ds)) : S[l]? = some (.obj c ns ds) := by
  unfold cellO at h
  split at h
  · cases h; assumption
  · cases h
theorem wE_fld {c f : Str} {o : ME} : wE Φ G ρ (.fld c o f) S Q ↔ wE Φ G ρ o S fun x S1 => ∃ l, x = .val (.ref l) ∧ ∃ ns ds, S1[l]? = some (.obj c ns ds) ∧ ∃ d, valF ns ds f = some d ∧ Q (.val d) S1 := by
  unfold wE
  rw [evR]
  simp only [ex_bind]
  constructor
  · rintro ⟨x, S1, e1, r, S', e, q⟩
    obtain ⟨l, hl, e⟩ := Mi.bind_some e
    obtain ⟨⟨c', ns, ds⟩, ht, e⟩ := Mi.bind_some e
    dsimp only at e
    split at e
    · rename_i hc
      obtain ⟨d, hd, e⟩ := map_some e
      cases e
      refine ⟨x, _, e1, l, ?_, ns, ds, by rw [← hc]; exact cellO_at ht, d, hd, q⟩
      cases x with
      | val d => cases d <;> first | (cases hl; rfl) | cases hl
      | _ => cases hl
    · cases e
  · rintro ⟨x, S1, e1, l, rfl, ns, ds, h, d, hd, q⟩
    refine ⟨_, S1, e1, .val d, S1, ?_, q⟩
    show (cellO S1 l).bind _ = _
    rw [cellO_of h, Option.bind_some, if_pos rfl, hd]; rfl
theorem wE_meth {c m : Str} {f : Nat} {o : ME} {es : MEs} : wE Φ G ρ (.meth c m f o es) S Q ↔ wE Φ G ρ o S fun x S1 => ∃ l, x = .val (.ref l) ∧ ∃ ns ds, S1[l]? = some (.obj c ns ds) ∧ m ∉ ns ∧ wEs Φ G ρ es S1 fun as S2 => wF Φ f (.ref l :: as) S2 Q := by
  unfold wE wEs wF
  rw [evR]
  simp only [ex_bind]
  constructor
  · rintro ⟨x, S1, e1, r, S', e, q⟩
    obtain ⟨l, hl, e⟩ := Mi.bind_some e
    obtain ⟨⟨c', ns, ds⟩, ht, e⟩ := Mi.bind_some e
    dsimp only at e
    split at e
    · rename_i hc
      obtain ⟨⟨as, S2⟩, h2, e⟩ := Mi.bind_some e
      refine ⟨x, _, e1, l, ?_, ns, ds, by rw [← hc.1]; exact cellO_at ht, hc.2, as, S2, h2, r, S', e, q⟩
      cases x with
      | val d => cases d <;> first | (cases hl; rfl) | cases hl
      | _ => cases hl
    · cases e
  · rintro ⟨x, S1, e1, l, rfl, ns, ds, h, hm, as, S2, h2, r, S', e, q⟩
    refine ⟨_, S1, e1, r, S', ?_, q⟩
    show (cellO S1 l).bind _ = _
    rw [cellO_of h, Option.bind_some, if_pos ⟨rfl, hm⟩, h2]; exact e
theorem wE_make {c : Str} {f : Nat} {es : MEs} : wE Φ G ρ (.make c f es) S Q ↔ wEs Φ G ρ es S fun as S1 => wF Φ f (.ref S1.length :: as) (S1 ++ [.obj c [] []]) fun r S2 => r = .val .non ∧ Q (.val (.ref S1.length)) S2 := by
  unfold wE wEs wF
  rw [evR]
  simp only [ex_bind]
  constructor
  · rintro ⟨as, S1, e1, r, S2, e2, r', S', e, q⟩
    obtain ⟨d, hd, e⟩ := Mi.bind_some e
    split at e
    · rename_i hn
      cases e
      refine ⟨as, S1, e1, r, _, e2, ?_, q⟩
      cases r with
      | val d' => cases hd; cases d <;> first | rfl | cases hn
      | _ => cases hd
    · cases e
  · rintro ⟨as, S1, e1, r, S2, e2, rfl, q⟩
    exact ⟨as, S1, e1, _, S2, e2, _, S2, rfl, q⟩
theorem wS_setf {c f : Str} {o e : ME} : wS Φ G (.setf c o f e) ρ S N R ↔ wE Φ G ρ e S fun x S1 => ∃ d, x.d = some d ∧ wE Φ G ρ o S1 fun y S2 => ∃ l, y = .val (.ref l) ∧ ∃ ns ds, S2[l]? = some (.obj c ns ds) ∧ ns.length < 1000 ∧ N ρ (S2.set l (.obj c (putFn ns f) (putFd ns ds f d))) := by
  unfold wS wE
  rw [ex, wR_bindD]
  constructor
  · rintro ⟨x, S1, e1, d, hd, h⟩
    rw [wR_bindE] at h
    obtain ⟨y, S2, e2, h⟩ := h
    refine ⟨x, S1, e1, d, hd, y, S2, e2, ?_⟩
    cases hz : (y.ref?.bind fun l => (cellO S2 l).map fun t => (l, t)) with
    | none => rw [hz] at h; exact h.elim
    | some lt =>
      obtain ⟨l, c', ns, ds⟩ := lt
      rw [hz] at h
      dsimp only at h
      obtain ⟨l', hl, hz⟩ := Mi.bind_some hz
      obtain ⟨t, ht, hz⟩ := map_some hz
      cases hz
      split at h
      · rename_i hc
        refine ⟨l, ?_, ns, ds, by rw [← hc.1]; exact cellO_at ht, hc.2, h⟩
        cases y with
        | val d => cases d <;> first | (cases hl; rfl) | cases hl
        | _ => cases hl
      · exact h.elim
  · rintro ⟨x, S1, e1, d, hd, y, S2, e2, l, rfl, ns, ds, h, hn, q⟩
    refine ⟨x, S1, e1, d, hd, ?_⟩
    rw [wR_bindE]
    refine ⟨_, S2, e2, ?_⟩
    show wR (match ((cellO S2 l).map fun t => (l, t)) with
      | some (l, t) => if t.1 = c ∧ t.2.1.length < 1000 then SR.nx ρ (S2.set l (.obj c (putFn t.2.1 f) (putFd t.2.1 t.2.2 f d))) else .er
      | none => .er) N R
    rw [cellO_of h]
    show wR (if c = c ∧ ns.length < 1000 then SR.nx ρ (S2.set l (.obj c (putFn ns f) (putFd ns ds f d))) else .er) N R
    rw [if_pos ⟨rfl, hn⟩]
    exact q
end
end Mi
end
noncomputable section
namespace Mi
open PySem L2

section
variable {Φ : Fns} {G : List D} {ρ : Env} {S : Sto} {Q : Rt → Sto → Prop} {Qs : List D → Sto → Prop} {N : Env → Sto → Prop} {R : Rt → Sto → Prop}
end
end Mi
end
noncomputable section
namespace Mi
open PySem L2

section
variable (Φ : Fns) (G : List D)
noncomputable def w3O {α : Type} (r : Option (α × Sto)) (x : Option (Exn × Sto)) (Q : α → Sto → Prop) (E : Exn → Sto → Prop) : Prop := match r with
  | some p => Q p.1 p.2
  | none => match x with
    | some p => E p.1 p.2
    | none => False
noncomputable def w3E (ρ : Env) (m : ME) (S : Sto) (Q : Rt → Sto → Prop) (E : Exn → Sto → Prop) : Prop := w3O (evR Φ G ρ m S) (evX Φ G ρ m S) Q E
noncomputable def w3Es (ρ : Env) (m : MEs) (S : Sto) (Q : List D → Sto → Prop) (E : Exn → Sto → Prop) : Prop := w3O (evs Φ G ρ m S) (evXs Φ G ρ m S) Q E
noncomputable def w3F (f : Nat) (ds : List D) (S : Sto) (Q : Rt → Sto → Prop) (E : Exn → Sto → Prop) : Prop := w3O (Φ f ds S) (Φ.xrun f ds S) Q E
noncomputable def w3R (r : SR) (N : Env → Sto → Prop) (R : Rt → Sto → Prop) (E : Exn → Env → Sto → Prop) : Prop := match r with
  | .nx ρ S => N ρ S
  | .rt r S => R r S
  | .er => False
  | .xn x ρ S => E x ρ S
@[irreducible] noncomputable def w3S (m : MS) (ρ : Env) (S : Sto) (N : Env → Sto → Prop) (R : Rt → Sto → Prop) (E : Exn → Env → Sto → Prop) : Prop := w3R (ex Φ G m ρ S) N R E
@[irreducible] noncomputable def w3Ss (m : MSs) (ρ : Env) (S : Sto) (N : Env → Sto → Prop) (R : Rt → Sto → Prop) (E : Exn → Env → Sto → Prop) : Prop := w3R (exs Φ G m ρ S) N R E
noncomputable def w3For (t : MT) (b : MSs) (ds : List D) (ρ : Env) (S : Sto) (N : Env → Sto → Prop) (R : Rt → Sto → Prop) (E : Exn → Env → Sto → Prop) : Prop := w3R (forL (fun d ρ S => sto Φ G t d ρ S) (fun ρ S => exs Φ G b ρ S) ds ρ S) N R E
end
section
variable {Φ : Fns} {G : List D} {ρ : Env} {S : Sto} {Q : Rt → Sto → Prop} {Qs : List D → Sto → Prop} {N : Env → Sto → Prop} {R : Rt → Sto → Prop} {E : Exn → Sto → Prop} {Ex : Exn → Env → Sto → Prop}
theorem w3O_some {α : Type} {r : Option (α × Sto)} {x : Option (Exn × Sto)} {Q : α → Sto → Prop} {E : Exn → Sto → Prop} {a : α} {S' : Sto} (h : r = some (a, S')) (q : Q a S') : w3O r x Q E := by subst h; exact q
theorem w3O_ex {α : Type} {r : Option (α × Sto)} {x : Option (Exn × Sto)} {Q : α → Sto → Prop} {E : Exn → Sto → Prop} (h : ∃ a S', r = some (a, S') ∧ Q a S') : w3O r x Q E := let ⟨_, _, e, q⟩ := h; w3O_some e q
theorem w3O_no {α : Type} {r : Option (α × Sto)} {x : Option (Exn × Sto)} {Q : α → Sto → Prop} {E : Exn → Sto → Prop} (h : x = none) : w3O r x Q E ↔ ∃ a S', r = some (a, S') ∧ Q a S' := by
  subst h
  cases r with
  | none => exact ⟨fun h => h.elim, fun ⟨_, _, e, _⟩ => nomatch e⟩
  | some p => exact ⟨fun h => ⟨p.1, p.2, rfl, h⟩, fun ⟨a, S', e, q⟩ => by cases e; exact q⟩
theorem w3O_mono {α : Type} {r : Option (α × Sto)} {x : Option (Exn × Sto)} {Q Q' : α → Sto → Prop} {E E' : Exn → Sto → Prop} (h : w3O r x Q E) (i : ∀ a S, Q a S → Q' a S) (j : ∀ a S, E a S → E' a S) : w3O r x Q' E' := by
  unfold w3O at h ⊢
  cases r with
  | some p => exact i _ _ h
  | none =>
    cases x with
    | some p => exact j _ _ h
    | none => exact h
theorem w3O_fin {α : Type} {r : Option (α × Sto)} {x : Option (Exn × Sto)} {Q : α → Sto → Prop} (h : w3O r x Q fun _ _ => False) : ∃ a S', r = some (a, S') ∧ Q a S' := by
  unfold w3O at h
  cases r with
  | some p => exact ⟨p.1, p.2, rfl, h⟩
  | none =>
    cases x with
    | some p => exact h.elim
    | none => exact h.elim
theorem w3E_pl {m : ME} (h : evX Φ G ρ m S = none) : w3E Φ G ρ m S Q E ↔ wE Φ G ρ m S Q := w3O_no h
theorem w3E_w {m : ME} (h : wE Φ G ρ m S Q) : w3E Φ G ρ m S Q E := w3O_ex h
theorem w3F_w {f : Nat} {ds : List D} (h : wF Φ f ds S Q) : w3F Φ f ds S Q E := w3O_ex h
theorem wF_3 {f : Nat} {ds : List D} (h : w3F Φ f ds S Q fun _ _ => False) : wF Φ f ds S Q := w3O_fin h
theorem w3E_mono {m : ME} {Q' : Rt → Sto → Prop} {E' : Exn → Sto → Prop} (h : w3E Φ G ρ m S Q E) (i : ∀ a S, Q a S → Q' a S) (j : ∀ a S, E a S → E' a S) : w3E Φ G ρ m S Q' E' := w3O_mono h i j

theorem w3E_var {i : Nat} : w3E Φ G ρ (.var i) S Q E ↔ wE Φ G ρ (.var i) S Q := w3E_pl (by rw [evX] <;> simp)
theorem w3E_bor {i : Nat} : w3E Φ G ρ (.bor i) S Q E ↔ wE Φ G ρ (.bor i) S Q := w3E_pl (by rw [evX] <;> simp)
theorem w3E_con {d : D} : w3E Φ G ρ (.con d) S Q E ↔ wE Φ G ρ (.con d) S Q := w3E_pl (by rw [evX] <;> simp)
theorem w3E_glb {j : Nat} : w3E Φ G ρ (.glb j) S Q E ↔ wE Φ G ρ (.glb j) S Q := w3E_pl (by rw [evX] <;> simp)
theorem w3E_neg {a : ME} : w3E Φ G ρ (.neg a) S Q E ↔ wE Φ G ρ (.neg a) S Q := w3E_pl (by rw [evX] <;> simp)
theorem w3E_cmp {o : COp} {a b : ME} : w3E Φ G ρ (.cmp o a b) S Q E ↔ wE Φ G ρ (.cmp o a b) S Q := w3E_pl (by rw [evX] <;> simp)
theorem w3E_chn {o o2 : COp} {a b c : ME} : w3E Φ G ρ (.chn o o2 a b c) S Q E ↔ wE Φ G ρ (.chn o o2 a b c) S Q := w3E_pl (by rw [evX] <;> simp)
theorem w3E_lst {es : MEs} : w3E Φ G ρ (.lst es) S Q E ↔ wE Φ G ρ (.lst es) S Q := w3E_pl (by rw [evX] <;> simp)
theorem w3E_idx {a b : ME} : w3E Φ G ρ (.idx a b) S Q E ↔ wE Φ G ρ (.idx a b) S Q := w3E_pl (by rw [evX] <;> simp)
theorem w3E_slc {a : ME} {lo hi : MO} : w3E Φ G ρ (.slc a lo hi) S Q E ↔ wE Φ G ρ (.slc a lo hi) S Q := w3E_pl (by rw [evX] <;> simp)
theorem w3E_callp {f : Nat} {es : MEs} : w3E Φ G ρ (.callp f es) S Q E ↔ wE Φ G ρ (.callp f es) S Q := w3E_pl (by rw [evX] <;> simp)
theorem w3E_callr {f : Nat} {es : MEs} : w3E Φ G ρ (.callr f es) S Q E ↔ wE Φ G ρ (.callr f es) S Q := w3E_pl (by rw [evX] <;> simp)
theorem w3E_bi {b : BI} {es : MEs} : w3E Φ G ρ (.bi b es) S Q E ↔ wE Φ G ρ (.bi b es) S Q := w3E_pl (by rw [evX] <;> simp)
theorem w3E_comp {own : List Nat} {t : MT} {it : MI} {c : MO} {e : ME} : w3E Φ G ρ (.comp own t it c e) S Q E ↔ wE Φ G ρ (.comp own t it c e) S Q := w3E_pl (by rw [evX] <;> simp)
theorem w3E_compl {own : List Nat} {t : MT} {it : ME} {c : MO} {e : ME} : w3E Φ G ρ (.compl own t it c e) S Q E ↔ wE Φ G ρ (.compl own t it c e) S Q := w3E_pl (by rw [evX] <;> simp)
theorem w3E_new {e : ME} : w3E Φ G ρ (.new e) S Q E ↔ wE Φ G ρ (.new e) S Q := w3E_pl (by rw [evX] <;> simp)
theorem w3E_dct {ks : List Key} {es : MEs} : w3E Φ G ρ (.dct ks es) S Q E ↔ wE Φ G ρ (.dct ks es) S Q := w3E_pl (by rw [evX] <;> simp)
theorem w3E_din {n : Bool} {a b : ME} : w3E Φ G ρ (.din n a b) S Q E ↔ wE Φ G ρ (.din n a b) S Q := w3E_pl (by rw [evX] <;> simp)
theorem w3E_o2 {p : P2} {a b : ME} : w3E Φ G ρ (.o2 p a b) S Q E ↔ wE Φ G ρ (.o2 p a b) S Q := w3E_pl (by rw [evX] <;> simp)
theorem w3E_o3 {p : P3} {a b c : ME} : w3E Φ G ρ (.o3 p a b c) S Q E ↔ wE Φ G ρ (.o3 p a b c) S Q := w3E_pl (by rw [evX] <;> simp)
theorem w3E_fld {c : Str} {o : ME} {f : Str} : w3E Φ G ρ (.fld c o f) S Q E ↔ wE Φ G ρ (.fld c o f) S Q := w3E_pl (by rw [evX] <;> simp)
theorem w3E_make {c : Str} {f : Nat} {es : MEs} : w3E Φ G ρ (.make c f es) S Q E ↔ wE Φ G ρ (.make c f es) S Q := w3E_pl (by rw [evX] <;> simp)
theorem w3E_isx1 {c : Str} {a : ME} : w3E Φ G ρ (.isx1 c a) S Q E ↔ wE Φ G ρ (.isx1 c a) S Q := w3E_pl (by rw [evX] <;> simp)
theorem w3E_isx {cs : List Str} {a : ME} : w3E Φ G ρ (.isx cs a) S Q E ↔ wE Φ G ρ (.isx cs a) S Q := w3E_pl (by rw [evX] <;> simp)
theorem w3E_xf {f : Str} {a : ME} : w3E Φ G ρ (.xf f a) S Q E ↔ wE Φ G ρ (.xf f a) S Q := w3E_pl (by rw [evX] <;> simp)
theorem w3E_not {a : ME} : w3E Φ G ρ (.not a) S Q E ↔ wE Φ G ρ (.not a) S Q := w3E_pl (by rw [evX] <;> simp)
theorem w3E_and {a b : ME} : w3E Φ G ρ (.and a b) S Q E ↔ wE Φ G ρ (.and a b) S Q := w3E_pl (by rw [evX] <;> simp)
theorem w3E_or {a b : ME} : w3E Φ G ρ (.or a b) S Q E ↔ wE Φ G ρ (.or a b) S Q := w3E_pl (by rw [evX] <;> simp)
theorem w3E_o1 {p : P1} {a : ME} (hp : ∀ j, p ≠ .gget j) : w3E Φ G ρ (.o1 p a) S Q E ↔ wE Φ G ρ (.o1 p a) S Q := w3E_pl (by cases p <;> first | (rw [evX]; done) | (rw [evX] <;> simp; done) | exact absurd rfl (hp _))
theorem w3E_call {f : Nat} {es : MEs} : w3E Φ G ρ (.call f es) S Q E ↔ w3Es Φ G ρ es S (fun ds S1 => w3F Φ f ds S1 Q E) E := by
  unfold w3E w3Es w3F
  rw [evR, evX]
  cases hv : evs Φ G ρ es S with
  | none => exact Iff.rfl
  | some p =>
    rw [Option.bind_some]
    dsimp only
    show w3O (Φ f p.1 p.2) _ Q E ↔ w3O (Φ f p.1 p.2) (Φ.xrun f p.1 p.2) Q E
    cases Φ f p.1 p.2 <;> exact Iff.rfl
theorem w3E_meth {c m : Str} {f : Nat} {o : ME} {es : MEs} : w3E Φ G ρ (.meth c m f o es) S Q E ↔ wE Φ G ρ o S fun x S1 => ∃ l, x = .val (.ref l) ∧ ∃ ns ds, S1[l]? = some (.obj c ns ds) ∧ m ∉ ns ∧ w3Es Φ G ρ es S1 (fun as S2 => w3F Φ f (.ref l :: as) S2 Q E) E := by
  unfold w3E w3Es w3F wE
  rw [evR, evX]
  cases hv : evR Φ G ρ o S with
  | none => exact ⟨fun h => h.elim, fun ⟨_, _, e, _⟩ => nomatch e⟩
  | some p =>
    obtain ⟨x, S1⟩ := p
    rw [Option.bind_some]
    dsimp only
    constructor
    · intro h
      refine ⟨x, S1, rfl, ?_⟩
      cases hx : x.ref? with
      | none => rw [hx] at h; exact h.elim
      | some l =>
        rw [hx, Option.bind_some] at h
        have hx' : x = .val (.ref l) := ref?_some hx
        refine ⟨l, hx', ?_⟩
        cases ho : cellO S1 l with
        | none => simp [ho, w3O] at h
        | some t =>
          obtain ⟨c', ns, ds⟩ := t
          simp only [ho, Option.bind_some] at h
          split at h
          · rename_i hc
            refine ⟨ns, ds, by rw [← hc.1]; exact cellO_at ho, hc.2, ?_⟩
            cases hs : evs Φ G ρ es S1 with
            | none => rw [hs] at h; exact h
            | some q =>
              rw [hs, Option.bind_some] at h
              dsimp only at h ⊢
              show w3O (Φ f (.ref l :: q.1) q.2) (Φ.xrun f (.ref l :: q.1) q.2) Q E
              cases hf : Φ f (.ref l :: q.1) q.2 with
              | none => rw [hf] at h; exact h
              | some z => rw [hf] at h; exact h
          · exact h.elim
    · rintro ⟨y, S2, e, l, rfl, ns, ds, hl, hm, h⟩
      cases e
      show w3O (((cellO S1 l).bind fun t => _) : Option (Rt × Sto)) ((cellO S1 l).bind fun t => _) Q E
      rw [cellO_of hl, Option.bind_some, Option.bind_some]
      dsimp only
      rw [if_pos ⟨rfl, hm⟩, if_pos ⟨rfl, hm⟩]
      cases hs : evs Φ G ρ es S1 with
      | none => rw [hs] at h; exact h
      | some q =>
        rw [hs] at h
        have h : w3O (Φ f (.ref l :: q.1) q.2) (Φ.xrun f (.ref l :: q.1) q.2) Q E := h
        rw [Option.bind_some]
        dsimp only
        cases hf : Φ f (.ref l :: q.1) q.2 with
        | none => rw [hf] at h; exact h
        | some z => rw [hf] at h; exact h
theorem w3E_tup {es : MEs} : w3E Φ G ρ (.tup es) S Q E ↔ w3Es Φ G ρ es S (fun ds S1 => ds.length ≤ sizeLine ∧ Q (.val (.tup ds)) S1) E := by
  unfold w3E w3Es
  rw [evR, evX]
  cases hv : evs Φ G ρ es S with
  | none => exact Iff.rfl
  | some p =>
    rw [Option.bind_some]
    dsimp only
    constructor
    · intro h
      split at h
      · rename_i hl; exact ⟨hl, h⟩
      · exact h.elim
    · rintro ⟨hl, h⟩
      rw [if_pos hl]; exact h
theorem w3E_bin {o : BOp} {a b : ME} : w3E Φ G ρ (.bin o a b) S Q E ↔ w3E Φ G ρ a S (fun x S1 => w3E Φ G ρ b S1 (fun y S2 => ∃ r, binop S2 o x y = some r ∧ Q r S2) E) E := by
  unfold w3E
  rw [evR, evX]
  cases ha : evR Φ G ρ a S with
  | none => exact Iff.rfl
  | some p =>
    rw [Option.bind_some]
    dsimp only
    show _ ↔ w3O (evR Φ G ρ b p.2) (evX Φ G ρ b p.2) (fun y S2 => ∃ r, binop S2 o p.1 y = some r ∧ Q r S2) E
    cases hb : evR Φ G ρ b p.2 with
    | none => exact Iff.rfl
    | some q =>
      rw [Option.bind_some]
      dsimp only
      constructor
      · intro h
        cases hz : binop q.2 o p.1 q.1 with
        | none => rw [hz] at h; exact h.elim
        | some z => rw [hz] at h; exact ⟨z, hz, h⟩
      · rintro ⟨z, hz, h⟩
        rw [hz]; exact h
theorem w3E_dgt {d k : ME} : w3E Φ G ρ (.dgt d k) S Q E ↔ wE Φ G ρ d S fun x S1 => w3E Φ G ρ k S1 (fun y S2 => ∃ t, x.dct? S2 = some t ∧ ∃ q, y.key? = some q ∧ ∃ r, valD t.1 t.2 q = some r ∧ Q (.val r) S2) E := by
  unfold w3E wE
  rw [evR, evX]
  cases ha : evR Φ G ρ d S with
  | none => exact ⟨fun h => h.elim, fun ⟨_, _, e, _⟩ => nomatch e⟩
  | some p =>
    rw [Option.bind_some]
    dsimp only
    constructor
    · intro h
      refine ⟨p.1, p.2, rfl, ?_⟩
      show w3O (evR Φ G ρ k p.2) (evX Φ G ρ k p.2) _ E
      cases hb : evR Φ G ρ k p.2 with
      | none => rw [hb] at h; exact h
      | some q =>
        rw [hb, Option.bind_some] at h
        dsimp only at h ⊢
        cases h1 : p.1.dct? q.2 with
        | none => rw [h1] at h; exact h.elim
        | some t =>
          rw [h1, Option.bind_some] at h
          cases h2 : q.1.key? with
          | none => rw [h2] at h; exact h.elim
          | some kk =>
            rw [h2, Option.bind_some] at h
            cases h3 : valD t.1 t.2 kk with
            | none => rw [h3] at h; exact h.elim
            | some r => rw [h3] at h; exact ⟨t, h1, kk, h2, r, h3, h⟩
    · rintro ⟨x, S1, e, h⟩
      cases e
      cases hb : evR Φ G ρ k S1 with
      | none => rw [hb] at h; exact h
      | some q =>
        rw [hb] at h
        obtain ⟨t, h1, kk, h2, r, h3, h⟩ := h
        rw [Option.bind_some]
        dsimp only
        rw [h1, Option.bind_some, h2, Option.bind_some, h3]; exact h
theorem bl?_some' {x : Rt} {b : Bool} (h : x.bl? = some b) : x = .val (.bl b) := by
  cases x with
  | val d => cases d <;> first | (cases h; rfl) | cases h
  | own _ => cases h
  | bor _ => cases h
  | ownd _ _ => cases h
theorem w3E_ite {c a b : ME} : w3E Φ G ρ (.ite c a b) S Q E ↔ wE Φ G ρ c S fun x S1 => ∃ i, x = .val (.bl i) ∧ if i = true then w3E Φ G ρ a S1 Q E else w3E Φ G ρ b S1 Q E := by
  constructor
  · intro h
    unfold w3E at h
    rw [evR, evX] at h
    cases hc : evR Φ G ρ c S with
    | none => rw [hc] at h; exact h.elim
    | some p =>
      rw [hc, Option.bind_some] at h
      refine ⟨p.1, p.2, hc, ?_⟩
      dsimp only at h
      cases hb : p.1.bl? with
      | none =>
        rw [hb] at h
        split at h
        · rename_i h1; rw [h1] at hb; cases hb
        · rename_i h1; rw [h1] at hb; cases hb
        · exact h.elim
      | some i =>
        refine ⟨i, bl?_some' hb, ?_⟩
        rw [hb, bl?_some' hb] at h
        cases i with
        | true => exact h
        | false => exact h
  · rintro ⟨x, S1, hc, i, rfl, h⟩
    unfold w3E
    rw [evR, evX, hc, Option.bind_some]
    cases i with
    | true => exact h
    | false => exact h
theorem w3Es_nil {Q : List D → Sto → Prop} : w3Es Φ G ρ .nil S Q E ↔ Q [] S := by unfold w3Es; rw [evs]; exact Iff.rfl
theorem w3Es_cons {e : ME} {es : MEs} {Q : List D → Sto → Prop} : w3Es Φ G ρ (.cons e es) S Q E ↔ w3E Φ G ρ e S (fun r S1 => ∃ d, r.d = some d ∧ w3Es Φ G ρ es S1 (fun ds S2 => Q (d :: ds) S2) E) E := by
  unfold w3Es w3E
  rw [evs, evXs]
  cases he : evR Φ G ρ e S with
  | none => exact Iff.rfl
  | some p =>
    rw [Option.bind_some]
    show _ ↔ ∃ d, p.1.d = some d ∧ w3O (evs Φ G ρ es p.2) (evXs Φ G ρ es p.2) (fun ds S2 => Q (d :: ds) S2) E
    dsimp only
    cases hd : p.1.d with
    | none => exact ⟨fun h => h.elim, fun ⟨_, e, _⟩ => nomatch e⟩
    | some d =>
      rw [Option.bind_some, Option.bind_some]
      constructor
      · intro h
        refine ⟨d, rfl, ?_⟩
        cases hs : evs Φ G ρ es p.2 with
        | none => rw [hs] at h; exact h
        | some q => rw [hs] at h; exact h
      · rintro ⟨d', e, h⟩
        cases e
        cases hs : evs Φ G ρ es p.2 with
        | none => rw [hs] at h; exact h
        | some q => rw [hs] at h; exact h

theorem w3R_then {r : SR} {k : Env → Sto → SR} : w3R (r.then k) N R Ex ↔ w3R r (fun ρ S => w3R (k ρ S) N R Ex) R Ex := by
  cases r <;> rfl
theorem w3Ss_nil : w3Ss Φ G .nil ρ S N R Ex ↔ N ρ S := by unfold w3Ss; rw [exs]; rfl
theorem w3Ss_cons {s : MS} {r : MSs} : w3Ss Φ G (.cons s r) ρ S N R Ex ↔ w3S Φ G s ρ S (fun ρ S => w3Ss Φ G r ρ S N R Ex) R Ex := by
  unfold w3Ss w3S; rw [exs]; exact w3R_then
theorem w3R_EX {m : ME} {k : Rt → Sto → SR} : w3R (bindEX (evX Φ G ρ m S) ρ (evR Φ G ρ m S) k) N R Ex ↔ w3E Φ G ρ m S (fun x S1 => w3R (k x S1) N R Ex) fun x S1 => Ex x ρ S1 := by
  unfold w3E
  cases evR Φ G ρ m S with
  | some p => exact Iff.rfl
  | none => cases evX Φ G ρ m S <;> exact Iff.rfl
theorem w3R_DX {m : ME} {k : D → Sto → SR} : w3R (bindDX (evX Φ G ρ m S) ρ (evR Φ G ρ m S) k) N R Ex ↔ w3E Φ G ρ m S (fun x S1 => ∃ d, x.d = some d ∧ w3R (k d S1) N R Ex) fun x S1 => Ex x ρ S1 := by
  unfold w3E
  cases evR Φ G ρ m S with
  | some p =>
    obtain ⟨x, S1⟩ := p
    show w3R (match x.d with
      | some d => k d S1
      | none => .er) N R Ex ↔ ∃ d, x.d = some d ∧ w3R (k d S1) N R Ex
    cases hd : x.d with
    | none => exact ⟨fun h => h.elim, fun ⟨_, e, _⟩ => nomatch e⟩
    | some d => exact ⟨fun h => ⟨d, rfl, h⟩, fun ⟨d', e, h⟩ => by cases e; exact h⟩
  | none => cases evX Φ G ρ m S <;> exact Iff.rfl
theorem w3R_no {r : SR} (h : ∀ x ρ S, r ≠ .xn x ρ S) : w3R r N R Ex ↔ wR r N R := by
  cases r with
  | nx ρ S => exact Iff.rfl
  | rt _ _ => exact Iff.rfl
  | er => exact Iff.rfl
  | xn _ _ _ => exact absurd rfl (h _ _ _)
theorem w3E_imp {m : ME} {Q' : Rt → Sto → Prop} {E' : Exn → Sto → Prop} (i : ∀ a S, Q a S ↔ Q' a S) (j : ∀ a S, E a S ↔ E' a S) : w3E Φ G ρ m S Q E ↔ w3E Φ G ρ m S Q' E' := ⟨fun h => w3E_mono h (fun a S => (i a S).mp) fun a S => (j a S).mp, fun h => w3E_mono h (fun a S => (i a S).mpr) fun a S => (j a S).mpr⟩
theorem w3S_asg {t : MT} {e : ME} : w3S Φ G (.asg t e) ρ S N R Ex ↔ w3E Φ G ρ e S (fun x S1 => ∃ d, x.d = some d ∧ wT Φ G t d ρ S1 N) fun x S1 => Ex x ρ S1 := by
  unfold w3S
  rw [ex, w3R_DX]
  refine w3E_imp (fun x S1 => ?_) fun _ _ => Iff.rfl
  have : ∀ d, w3R (nxO (sto Φ G t d ρ S1)) N R Ex ↔ wT Φ G t d ρ S1 N := fun d => by
    unfold wT
    cases sto Φ G t d ρ S1 with
    | none => exact ⟨fun h => h.elim, fun ⟨_, _, e, _⟩ => nomatch e⟩
    | some p => exact ⟨fun h => ⟨p.1, p.2, rfl, h⟩, fun ⟨_, _, e, h⟩ => by cases e; exact h⟩
  simp only [this]
theorem w3S_own {i : Nat} {e : ME} : w3S Φ G (.own i e) ρ S N R Ex ↔ w3E Φ G ρ e S (fun x S1 => ∃ ds, x = .own ds ∧ i < ρ.length ∧ N (ρ.set i (.own ds)) S1) fun x S1 => Ex x ρ S1 := by
  unfold w3S
  rw [ex, w3R_EX]
  refine w3E_imp (fun x S1 => ?_) fun _ _ => Iff.rfl
  cases x with
  | own ds =>
    dsimp only
    constructor
    · intro h
      split at h
      · rename_i hi; exact ⟨ds, rfl, hi, h⟩
      · exact h.elim
    · rintro ⟨_, e, hi, h⟩
      cases e
      rw [if_pos hi]; exact h
  | _ => exact ⟨fun h => h.elim, fun ⟨_, e, _⟩ => nomatch e⟩
theorem w3S_ret {e : ME} : w3S Φ G (.ret e) ρ S N R Ex ↔ w3E Φ G ρ e S (fun x S1 => retOk x = true ∧ R x S1) fun x S1 => Ex x ρ S1 := by
  unfold w3S
  rw [ex, w3R_EX]
  refine w3E_imp (fun x S1 => ?_) fun _ _ => Iff.rfl
  cases x with
  | bor _ => exact ⟨fun h => h.elim, fun h => nomatch h.1⟩
  | ownd _ _ => exact ⟨fun h => h.elim, fun h => nomatch h.1⟩
  | val _ => exact ⟨fun h => ⟨rfl, h⟩, fun h => h.2⟩
  | own _ => exact ⟨fun h => ⟨rfl, h⟩, fun h => h.2⟩
theorem w3S_expr {e : ME} : w3S Φ G (.expr e) ρ S N R Ex ↔ w3E Φ G ρ e S (fun _ S1 => N ρ S1) fun x S1 => Ex x ρ S1 := by
  unfold w3S
  rw [ex, w3R_EX]; exact Iff.rfl
theorem w3S_ite {c : ME} {a b : MSs} : w3S Φ G (.ite c a b) ρ S N R Ex ↔ wE Φ G ρ c S fun x S1 => ∃ i, x = .val (.bl i) ∧ if i = true then w3Ss Φ G a ρ S1 N R Ex else w3Ss Φ G b ρ S1 N R Ex := by
  unfold w3S wE w3Ss
  rw [ex]
  constructor
  · intro h
    cases hc : evR Φ G ρ c S with
    | none => rw [hc] at h; exact h.elim
    | some p =>
      obtain ⟨x, S1⟩ := p
      rw [hc] at h
      refine ⟨x, S1, rfl, ?_⟩
      unfold bindE at h
      dsimp only at h
      split at h
      · exact ⟨true, rfl, h⟩
      · exact ⟨false, rfl, h⟩
      · exact h.elim
  · rintro ⟨x, S1, e, i, rfl, h⟩
    rw [e]
    cases i with
    | true => exact h
    | false => exact h
theorem w3S_for {t : MT} {it : MI} {b : MSs} : w3S Φ G (.forr t it b) ρ S N R Ex ↔ wI Φ G ρ false it S fun ds S1 => w3For Φ G t b ds ρ S1 N R Ex := by
  unfold w3S wI w3For
  rw [ex]
  constructor
  · intro h
    split at h
    · rename_i ds S1 e; exact ⟨ds, S1, e, h⟩
    · exact h.elim
  · rintro ⟨ds, S1, e, h⟩
    rw [e]; exact h
theorem w3S_rsx {c : Str} {f : Option Str} {es : MEs} : w3S Φ G (.rsx c f es) ρ S N R Ex ↔ wEs Φ G ρ es S fun ds S1 => ∃ x, exnOf c f ds = some x ∧ Ex x ρ S1 := by
  unfold w3S wEs
  rw [ex]
  constructor
  · intro h
    split at h
    · rename_i p e
      split at h
      · rename_i x hx; exact ⟨p.1, p.2, e, x, hx, h⟩
      · exact h.elim
    · exact h.elim
  · rintro ⟨ds, S1, e, x, hx, h⟩
    rw [e]
    dsimp only
    rw [hx]; exact h
theorem w3R_clr {i : Nat} {r : SR} : w3R (clrX i r) N R Ex ↔ wR r (fun ρ S => N (ρ.set i .no) S) R := by
  cases r <;> rfl
theorem w3S_trx {c : Str} {i : Nat} {b s : MSs} : w3S Φ G (.trx c i b s) ρ S N R Ex ↔ w3Ss Φ G b ρ S N R fun x ρ1 S1 => i < ρ1.length ∧ if subX x.1 c = true then wSs Φ G s (ρ1.set i (.val (.ref S1.length))) (S1 ++ [.err x.1 x.2]) (fun ρ S => N (ρ.set i .no) S) R else Ex x ρ1 S1 := by
  unfold w3S w3Ss wSs
  rw [ex]
  cases exs Φ G b ρ S with
  | nx _ _ => exact Iff.rfl
  | rt _ _ => exact Iff.rfl
  | er => exact Iff.rfl
  | xn x ρ1 S1 =>
    show w3R (if i < ρ1.length then _ else _) N R Ex ↔ (i < ρ1.length ∧ _)
    by_cases hi : i < ρ1.length
    · rw [if_pos hi]
      by_cases hs : subX x.1 c = true
      · rw [if_pos hs, if_pos hs, w3R_clr]; exact ⟨fun h => ⟨hi, h⟩, fun h => h.2⟩
      · rw [if_neg hs, if_neg hs]; exact ⟨fun h => ⟨hi, h⟩, fun h => h.2⟩
    · rw [if_neg hi]; exact ⟨fun h => h.elim, fun h => absurd h.1 hi⟩
theorem wS_3 {m : MS} : wS Φ G m ρ S N R ↔ w3S Φ G m ρ S N R fun _ _ _ => False := by
  unfold wS w3S
  cases ex Φ G m ρ S <;> rfl
theorem wS_trx {c : Str} {i : Nat} {b s : MSs} : wS Φ G (.trx c i b s) ρ S N R ↔ w3Ss Φ G b ρ S N R fun x ρ1 S1 => i < ρ1.length ∧ subX x.1 c = true ∧ wSs Φ G s (ρ1.set i (.val (.ref S1.length))) (S1 ++ [.err x.1 x.2]) (fun ρ S => N (ρ.set i .no) S) R := by
  rw [wS_3, w3S_trx]
  unfold w3Ss
  cases exs Φ G b ρ S with
  | nx _ _ => exact Iff.rfl
  | rt _ _ => exact Iff.rfl
  | er => exact Iff.rfl
  | xn x ρ1 S1 =>
    show (_ ∧ if _ then _ else False) ↔ _
    by_cases hs : subX x.1 c = true
    · rw [if_pos hs]; exact ⟨fun h => ⟨h.1, hs, h.2⟩, fun h => ⟨h.1, h.2.2⟩⟩
    · rw [if_neg hs]; exact ⟨fun h => h.2.elim, fun h => absurd h.2.1 hs⟩

theorem w3S_pl {m : MS} (h : ∀ ρ S x ρ' S', ex Φ G m ρ S ≠ .xn x ρ' S') : w3S Φ G m ρ S N R Ex ↔ wS Φ G m ρ S N R := by
  unfold w3S wS
  exact w3R_no (h ρ S)
theorem no_bindD {r : Option (Rt × Sto)} {k : D → Sto → SR} (h : ∀ d S x ρ' S', k d S ≠ .xn x ρ' S') : ∀ x ρ' S', bindD r k ≠ .xn x ρ' S' := fun x ρ' S' e => by
  cases r with
  | none => cases e
  | some p =>
    unfold bindD at e
    dsimp only at e
    split at e
    · exact h _ _ _ _ _ e
    · cases e
theorem no_bindE {r : Option (Rt × Sto)} {k : Rt → Sto → SR} (h : ∀ d S x ρ' S', k d S ≠ .xn x ρ' S') : ∀ x ρ' S', bindE r k ≠ .xn x ρ' S' := fun x ρ' S' e => by
  cases r with
  | none => cases e
  | some p => exact h _ _ _ _ _ e
theorem w3S_app {i : Nat} {e : ME} : w3S Φ G (.app i e) ρ S N R Ex ↔ wS Φ G (.app i e) ρ S N R := w3S_pl fun ρ S x ρ' S' => by
  rw [ex]
  split
  · exact no_bindD (fun d S x ρ' S' z => by split at z <;> cases z) x ρ' S'
  · exact fun z => by cases z
theorem w3S_aug {i : Nat} {o : BOp} {e : ME} : w3S Φ G (.aug i o e) ρ S N R Ex ↔ wS Φ G (.aug i o e) ρ S N R := w3S_pl fun ρ S x ρ' S' => by
  rw [ex]
  split
  · exact no_bindD (fun d S x ρ' S' z => by split at z <;> cases z) x ρ' S'
  · exact fun z => by cases z
theorem w3S_ext {i : Nat} {e : ME} : w3S Φ G (.ext i e) ρ S N R Ex ↔ wS Φ G (.ext i e) ρ S N R := w3S_pl fun ρ S x ρ' S' => by
  rw [ex]
  split
  · refine no_bindE (fun d S x ρ' S' z => ?_) x ρ' S'
    split at z
    · split at z <;> cases z
    · cases z
  · exact fun z => by cases z
theorem w3S_frz {i : Nat} : w3S Φ G (.frz i) ρ S N R Ex ↔ wS Φ G (.frz i) ρ S N R := w3S_pl fun ρ S x ρ' S' z => by
  rw [ex] at z
  split at z <;> cases z
theorem w3S_reto {i : Nat} : w3S Φ G (.reto i) ρ S N R Ex ↔ wS Φ G (.reto i) ρ S N R := w3S_pl fun ρ S x ρ' S' z => by
  rw [ex] at z
  split at z <;> cases z
theorem w3S_setf {c : Str} {o : ME} {f : Str} {e : ME} : w3S Φ G (.setf c o f e) ρ S N R Ex ↔ wS Φ G (.setf c o f e) ρ S N R := w3S_pl fun ρ S x ρ' S' => by
  rw [ex]
  refine no_bindD (fun d S x ρ' S' => no_bindE (fun r S x ρ' S' z => ?_) x ρ' S') x ρ' S'
  split at z
  · split at z <;> cases z
  · cases z
theorem w3S_par {i j : Nat} {oj : Bool} {a b : ME} : w3S Φ G (.par i j oj a b) ρ S N R Ex ↔ wS Φ G (.par i j oj a b) ρ S N R := w3S_pl fun ρ S x ρ' S' => by
  rw [ex]
  refine no_bindD (fun d S x ρ' S' => no_bindE (fun r S x ρ' S' z => ?_) x ρ' S') x ρ' S'
  split at z
  · split at z <;> cases z
  · cases z
theorem wE_isx1 {c : Str} {a : ME} : wE Φ G ρ (.isx1 c a) S Q ↔ wE Φ G ρ a S fun x S1 => ∃ l, x = .val (.ref l) ∧ ∃ c0 f, S1[l]? = some (.err c0 f) ∧ Q (.val (.bl (subX c0 c))) S1 := by
  unfold wE
  rw [evR]
  simp only [ex_bind]
  constructor
  · rintro ⟨x, S1, e1, r, S', e, q⟩
    obtain ⟨l, hl, e⟩ := Mi.bind_some e
    obtain ⟨t, ht, e⟩ := map_some e
    cases e
    exact ⟨x, _, e1, l, ref?_some hl, t.1, t.2, cellE_some ht, q⟩
  · rintro ⟨x, S1, e1, l, rfl, c0, f, h, q⟩
    refine ⟨_, S1, e1, _, S1, ?_, q⟩
    show (cellE S1 l).map _ = _
    unfold cellE
    rw [h]; rfl
theorem wE_isx {cs : List Str} {a : ME} : wE Φ G ρ (.isx cs a) S Q ↔ wE Φ G ρ a S fun x S1 => ∃ l, x = .val (.ref l) ∧ ∃ c0 f, S1[l]? = some (.err c0 f) ∧ Q (.val (.bl (cs.any fun c => subX c0 c))) S1 := by
  unfold wE
  rw [evR]
  simp only [ex_bind]
  constructor
  · rintro ⟨x, S1, e1, r, S', e, q⟩
    obtain ⟨l, hl, e⟩ := Mi.bind_some e
    obtain ⟨t, ht, e⟩ := map_some e
    cases e
    exact ⟨x, _, e1, l, ref?_some hl, t.1, t.2, cellE_some ht, q⟩
  · rintro ⟨x, S1, e1, l, rfl, c0, f, h, q⟩
    refine ⟨_, S1, e1, _, S1, ?_, q⟩
    show (cellE S1 l).map _ = _
    unfold cellE
    rw [h]; rfl
theorem wE_xf {f : Str} {a : ME} : wE Φ G ρ (.xf f a) S Q ↔ wE Φ G ρ a S fun x S1 => ∃ l, x = .val (.ref l) ∧ ∃ c0 i, S1[l]? = some (.err c0 (some (f, i))) ∧ Q (.val (.int i)) S1 := by
  unfold wE
  rw [evR]
  simp only [ex_bind]
  constructor
  · rintro ⟨x, S1, e1, r, S', e, q⟩
    obtain ⟨l, hl, e⟩ := Mi.bind_some e
    obtain ⟨⟨c0, t⟩, ht, e⟩ := Mi.bind_some e
    obtain ⟨⟨n, i⟩, hn, e5⟩ := Mi.bind_some e
    dsimp only at e5 hn
    split at e5
    · rename_i h
      cases e5
      refine ⟨x, _, e1, l, ref?_some hl, c0, i, ?_, q⟩
      rw [cellE_some ht, ← h, hn]
    · cases e5
  · rintro ⟨x, S1, e1, l, rfl, c0, i, h, q⟩
    refine ⟨_, S1, e1, _, S1, ?_, q⟩
    show (cellE S1 l).bind _ = _
    unfold cellE
    rw [h]
    show (if f = f then _ else _) = _
    rw [if_pos rfl]
theorem wE_gks {j : Nat} : wE Φ G ρ (.gks j) S Q ↔ ∃ ks ds, G[j]? = some (.dct ks ds) ∧ ks.length ≤ 1000 ∧ Q (.own (ks.map keyD)) S := by
  unfold wE
  rw [evR]
  constructor
  · rintro ⟨r, S', e, q⟩
    obtain ⟨d, hd, e⟩ := Mi.bind_some e
    obtain ⟨⟨ks, ds⟩, ht, e⟩ := Mi.bind_some e
    dsimp only at e
    split at e
    · rename_i hl
      cases e
      have : d = .dct ks ds := by cases d <;> cases ht; rfl
      exact ⟨ks, ds, by rw [hd, this], hl, q⟩
    · cases e
  · rintro ⟨ks, ds, hd, hl, q⟩
    refine ⟨_, S, ?_, q⟩
    rw [hd]
    show (if ks.length ≤ 1000 then _ else _) = _
    rw [if_pos hl]
theorem wI_gky {z : Bool} {j : Nat} {Qs : List D → Sto → Prop} : wI Φ G ρ z (.gky j) S Qs ↔ ∃ ks ds, G[j]? = some (.dct ks ds) ∧ Qs (ks.map keyD) S := by
  unfold wI
  rw [evI]
  constructor
  · rintro ⟨r, S', e, q⟩
    obtain ⟨d, hd, e⟩ := Mi.bind_some e
    obtain ⟨⟨ks, ds⟩, ht, e⟩ := map_some e
    cases e
    have : d = .dct ks ds := by cases d <;> cases ht; rfl
    exact ⟨ks, ds, by rw [hd, this], q⟩
  · rintro ⟨ks, ds, hd, q⟩
    exact ⟨_, S, by rw [hd]; rfl, q⟩
theorem wI_chs {z : Bool} {a : ME} {Qs : List D → Sto → Prop} : wI Φ G ρ z (.chs a) S Qs ↔ wE Φ G ρ a S fun x S1 => ∃ s, x = .val (.str s) ∧ Qs (s.cps.toList.map fun c => .str ⟨#[c]⟩) S1 := by
  unfold wI wE
  rw [evI]
  simp only [ex_bind]
  constructor
  · rintro ⟨x, S1, e1, r, S', e, q⟩
    obtain ⟨s, hs, e⟩ := map_some e
    cases e
    exact ⟨x, _, e1, s, str?_some hs, q⟩
  · rintro ⟨x, S1, e1, s, rfl, q⟩
    exact ⟨_, S1, e1, _, S1, rfl, q⟩
theorem wE_tsl {a : ME} {lo hi : MO} : wE Φ G ρ (.tsl a lo hi) S Q ↔ wE Φ G ρ a S fun x S1 => wO Φ G ρ lo S1 fun l S2 => wO Φ G ρ hi S2 fun h S3 => ∃ z, x = .val (.str z) ∧ z.length ≤ sizeLine ∧ Q (.val (.str (Txt.slice z l h))) S3 := by
  unfold wE wO
  rw [evR]
  simp only [ex_bind]
  constructor
  · rintro ⟨x, S1, e1, y, S2, e2, w, S3, e3, r, S', e, q⟩
    obtain ⟨z, hz, e⟩ := Mi.bind_some e
    split at e
    · rename_i hl
      cases e
      exact ⟨x, S1, e1, y, S2, e2, w, _, e3, z, str?_some hz, hl, q⟩
    · cases e
  · rintro ⟨x, S1, e1, y, S2, e2, w, S3, e3, z, rfl, hl, q⟩
    refine ⟨_, S1, e1, y, S2, e2, w, S3, e3, _, S3, ?_, q⟩
    show (if z.length ≤ sizeLine then _ else _) = _
    rw [if_pos hl]
theorem wS_augf {c f : Str} {o : ME} {k : Int} : wS Φ G (.augf c o f k) ρ S N R ↔ wE Φ G ρ o S fun x S1 => ∃ l, x = .val (.ref l) ∧ ∃ ns ds, S1[l]? = some (.obj c ns ds) ∧ ns.length < 1000 ∧ ∃ i, valF ns ds f = some (.int i) ∧ N ρ (S1.set l (.obj c (putFn ns f) (putFd ns ds f (.int (i + k))))) := by
  unfold wS wE
  rw [ex, wR_bindE]
  constructor
  · rintro ⟨x, S1, e1, h⟩
    refine ⟨x, S1, e1, ?_⟩
    cases hz : (x.ref?.bind fun l => (cellO S1 l).map fun t => (l, t)) with
    | none => rw [hz] at h; exact h.elim
    | some lt =>
      obtain ⟨l, c', ns, ds⟩ := lt
      rw [hz] at h
      dsimp only at h
      obtain ⟨l', hl, hz⟩ := Mi.bind_some hz
      obtain ⟨t, ht, hz⟩ := map_some hz
      cases hz
      split at h
      · rename_i hc
        split at h
        · rename_i i hv
          exact ⟨_, ref?_some hl, _, _, by rw [← hc.1]; exact cellO_at ht, hc.2, i, hv, h⟩
        · exact h.elim
      · exact h.elim
  · rintro ⟨x, S1, e1, l, rfl, ns, ds, hl, hn, i, hv, h⟩
    refine ⟨_, S1, e1, ?_⟩
    show wR (match ((cellO S1 l).map fun t => (l, t)) with
      | some (l, t) => if t.1 = c ∧ t.2.1.length < 1000 then (match valF t.2.1 t.2.2 f with
        | some (.int i) => .nx ρ (S1.set l (.obj c (putFn t.2.1 f) (putFd t.2.1 t.2.2 f (.int (i + k)))))
        | _ => .er) else .er
      | none => .er) N R
    rw [cellO_of hl]
    dsimp only [Option.map_some]
    rw [if_pos ⟨rfl, hn⟩, hv]
    exact h
theorem w3S_augf {c f : Str} {o : ME} {k : Int} : w3S Φ G (.augf c o f k) ρ S N R Ex ↔ wS Φ G (.augf c o f k) ρ S N R := w3S_pl fun ρ S x ρ' S' => by
  rw [ex]
  refine no_bindE (fun r S x ρ' S' z => ?_) x ρ' S'
  split at z
  · split at z
    · split at z <;> cases z
    · cases z
  · cases z
theorem w3E_gget {j : Nat} {a : ME} : w3E Φ G ρ (.o1 (.gget j) a) S Q E ↔ w3E Φ G ρ a S (fun x S1 => ∃ r S', P1.run G S1 (.gget j) x = some (r, S') ∧ Q r S') E := by
  unfold w3E
  rw [evR, evX]
  cases ha : evR Φ G ρ a S with
  | none => exact Iff.rfl
  | some p =>
    rw [Option.bind_some]
    dsimp only
    constructor
    · intro h
      cases hr : P1.run G p.2 (.gget j) p.1 with
      | none => rw [hr] at h; exact h.elim
      | some z => rw [hr] at h; exact ⟨z.1, z.2, hr, h⟩
    · rintro ⟨r, S', e, h⟩
      rw [e]; exact h
theorem p_intt {S : Sto} {a : Str} {n : Int} (hl : a.length ≤ 640) (h : PySem.intText? a = some n) : P1.run G S .intt (.val (.str a)) = some (.val (.int n), S) := by
  show (if a.length ≤ 640 then (PySem.intText? a).map fun n => (Rt.val (.int n), S) else none) = _
  rw [if_pos hl, h]; rfl
theorem p_sin {S : Sto} {a b : Str} : P2.run G S (.sin false) (.val (.str a)) (.val (.str b)) = some (.val (.bl (!(Builtin.Str.occurrences b a 0 b.length 1).isEmpty)), S) := by
  show some (Rt.val (.bl (xor false _)), S) = _
  rw [Bool.false_xor]
theorem p_presin {S : Sto} {x : Rt} {n : Bool} : (P2.pre S (.sin n) x = true) = True := eq_true rfl
theorem subX_say {c : Str} : subX c "SayError" = true := by unfold subX supX; simp
end

theorem w3F_of {P : Nat → Option FD} {G : List D} {k f : Nat} {ds : List D} {S : Sto} {Q : Rt → Sto → Prop} {E : Exn → Sto → Prop} {fd : FD} (hP : P f = some fd) (hl : ds.length = fd.np)
    (h : w3Ss (runF P G k) G fd.body (ds.map .val ++ List.replicate (fd.nn - ds.length) .no) S (fun _ S' => Q (.val .non) S') Q fun x _ S' => E x S') : w3F (runF P G (k + 1)) f ds S Q E := by
  unfold w3F
  rw [runF]
  dsimp only
  rw [hP]
  (try dsimp only)
  rw [if_pos hl, if_pos hl]
  unfold w3Ss at h
  generalize exs (runF P G k) G fd.body (ds.map .val ++ List.replicate (fd.nn - ds.length) .no) S = r at h ⊢
  cases r with
  | nx _ S' => exact h
  | rt r S' => exact h
  | er => exact h.elim
  | xn _ _ _ => exact h
end Mi
end
noncomputable section
namespace Mi
open PySem L2











































































































end Mi
end
noncomputable section
namespace Mi
open PySem L2

noncomputable def p_number_of_word_1 : FD := ⟨1, 2, (.cons (.ite (.or (.not (.chn .le .le (.con (.int 1)) (.bi .len (.cons (.var 0) .nil)) (.con (.int 2)))) (.or (.not (.bi .all (.cons (.comp [1] (.nm 1) (.chs (.var 0)) .no (.o2 (.sin false) (.var 1) (.glb 13))) .nil))) (.and (.cmp .eq (.idx (.var 0) (.con (.int 0))) (.con (.str "0"))) (.cmp .ne (.var 0) (.con (.str "0")))))) (.cons (.ret (.con .non)) .nil) .nil) (.cons (.ret (.o1 .intt (.var 0))) .nil))⟩

noncomputable def p_next_word_1 : FD := ⟨1, 1, (.cons (.ret (.ite (.cmp .lt (.fld "Words" (.var 0) "at") (.bi .len (.cons (.fld "Words" (.var 0) "words") .nil))) (.idx (.fld "Words" (.var 0) "words") (.fld "Words" (.var 0) "at")) (.con (.str "")))) .nil)⟩

noncomputable def p___init___6 : FD := ⟨3, 3, (.cons (.setf "Words" (.var 0) "words" (.var 1)) (.cons (.setf "Words" (.var 0) "names" (.var 2)) (.cons (.setf "Words" (.var 0) "at" (.con (.int 0))) .nil)))⟩








noncomputable def l_opened : FD := ⟨3, 9, (.cons (.asg (.nm 3) (.lst .nil)) (.cons (.asg (.nm 4) (.lst .nil)) (.cons (.own 5 (.lst .nil)) (.cons (.forr (.nm 6) (.rng1 (.var 2)) (.cons (.asg (.nm 7) (.idx (.var 1) (.call 4 (.cons (.var 0) (.cons (.bi .len (.cons (.var 1) .nil)) .nil))))) (.cons (.asg (.nm 8) (.call 4 (.cons (.var 0) (.cons (.con (.int 3)) .nil)))) (.cons (.app 5 (.bi .len (.cons (.var 3) .nil))) (.cons (.ite (.cmp .eq (.var 8) (.con (.int 0))) (.cons (.asg (.nm 3) (.bin .add (.var 3) (.lst (.cons (.con (.str "not")) .nil)))) .nil) (.cons (.ite (.cmp .eq (.var 8) (.con (.int 1))) (.cons (.asg (.nm 3) (.bin .add (.var 3) (.lst (.cons (.con (.str "(")) .nil)))) (.cons (.asg (.nm 4) (.bin .add (.lst (.cons (.con (.str "and")) (.cons (.var 7) (.cons (.con (.str ")")) .nil)))) (.var 4))) .nil)) (.cons (.asg (.nm 3) (.bin .add (.var 3) (.lst (.cons (.con (.str "(")) (.cons (.var 7) (.cons (.con (.str "or")) .nil)))))) (.cons (.asg (.nm 4) (.bin .add (.lst (.cons (.con (.str ")")) .nil)) (.var 4))) .nil))) .nil)) .nil))))) (.cons (.frz 5) (.cons (.ret (.tup (.cons (.bin .add (.bin .add (.var 3) (.lst (.cons (.con (.str "things")) .nil))) (.var 4)) (.cons (.var 5) .nil)))) .nil))))))⟩




noncomputable def p_refuse_2 : FD := ⟨1, 1, (.cons (.rsx "BadText" (some "word") (.cons (.con (.str "no saying goes on so")) (.cons (.fld "Words" (.var 0) "at") .nil))) .nil)⟩

noncomputable def p_read_word_2 : FD := ⟨2, 3, (.cons (.asg (.nm 2) (.meth "Words" "next_word" 572 (.var 0) .nil)) (.cons (.ite (.cmp .notin (.var 2) (.var 1)) (.cons (.expr (.meth "Words" "refuse" 703 (.var 0) .nil)) .nil) .nil) (.cons (.augf "Words" (.var 0) "at" 1) (.cons (.ret (.var 2)) .nil))))⟩

noncomputable def p_read_form_2 : FD := ⟨1, 4, (.cons (.asg (.nm 1) (.meth "Words" "read_word" 704 (.var 0) (.cons (.bin .add (.gks 17) (.bi .list (.cons (.glb 18) .nil))) .nil))) (.cons (.ite (.o1 (.gin false 17) (.var 1)) (.cons (.ret (.o1 (.gget 17) (.var 1))) .nil) .nil) (.cons (.asg (.nm 2) (.comp [3] (.nm 3) (.gky 19) (.yes (.cmp .eq (.idx (.o2 .split (.var 3) (.con (.str " "))) (.con (.int 0))) (.var 1))) (.idx (.o2 .split (.var 3) (.con (.str " "))) (.con (.int 1))))) (.cons (.ret (.o1 (.gget 19) (.bin .add (.bin .add (.var 1) (.con (.str " "))) (.meth "Words" "read_word" 704 (.var 0) (.cons (.var 2) .nil))))) .nil))))⟩

noncomputable def p_read_number_2 : FD := ⟨3, 4, (.cons (.asg (.nm 3) (.call 571 (.cons (.meth "Words" "next_word" 572 (.var 0) .nil) .nil))) (.cons (.ite (.or (.cmp .is (.var 3) (.con .non)) (.not (.chn .le .le (.var 1) (.var 3) (.var 2)))) (.cons (.expr (.meth "Words" "refuse" 703 (.var 0) .nil)) .nil) .nil) (.cons (.augf "Words" (.var 0) "at" 1) (.cons (.ret (.var 3)) .nil))))⟩

noncomputable def p_read_numbers_2 : FD := ⟨2, 3, (.cons (.ite (.cmp .isin (.var 1) (.tup (.cons (.con (.str "least")) (.cons (.con (.str "most")) (.cons (.con (.str "just")) .nil))))) (.cons (.ret (.tup (.cons (.meth "Words" "read_number" 706 (.var 0) (.cons (.con (.int 0)) (.cons (.glb 6) .nil))) .nil))) .nil) .nil) (.cons (.ite (.cmp .notin (.var 1) (.tup (.cons (.con (.str "share")) (.cons (.con (.str "under")) .nil)))) (.cons (.ret (.tup .nil)) .nil) .nil) (.cons (.asg (.nm 2) (.meth "Words" "read_number" 706 (.var 0) (.cons (.con (.int 0)) (.cons (.glb 7) .nil)))) (.cons (.expr (.meth "Words" "read_word" 704 (.var 0) (.cons (.lst (.cons (.con (.str "of")) .nil)) .nil))) (.cons (.ret (.tup (.cons (.var 2) (.cons (.meth "Words" "read_number" 706 (.var 0) (.cons (.bi .max (.cons (.con (.int 1)) (.cons (.var 2) .nil))) (.cons (.glb 7) .nil))) .nil)))) .nil)))))⟩

noncomputable def p_read_term_2 : FD := ⟨2, 7, (.cons (.asg (.nm 2) (.ite (.cmp .gt (.var 1) (.con (.int 1))) (.lst (.cons (.con (.str "not")) (.cons (.con (.str "(")) .nil))) (.lst .nil))) (.cons (.asg (.nm 3) (.meth "Words" "read_word" 704 (.var 0) (.cons (.bin .add (.bin .add (.bi .list (.cons (.fld "Words" (.var 0) "names") .nil)) (.lst (.cons (.con (.str "things")) .nil))) (.var 2)) .nil))) (.cons (.ite (.cmp .eq (.var 3) (.con (.str "things"))) (.cons (.ret (.tup (.cons (.con (.str "any")) .nil))) .nil) .nil) (.cons (.ite (.cmp .eq (.var 3) (.con (.str "not"))) (.cons (.ret (.tup (.cons (.con (.str "not")) (.cons (.meth "Words" "read_term" 708 (.var 0) (.cons (.bin .sub (.var 1) (.con (.int 1))) .nil)) .nil)))) .nil) .nil) (.cons (.ite (.cmp .ne (.var 3) (.con (.str "("))) (.cons (.ret (.tup (.cons (.con (.str "is")) (.cons (.o2 .index (.bi .list (.cons (.fld "Words" (.var 0) "names") .nil)) (.var 3)) .nil)))) .nil) .nil) (.cons (.asg (.nm 4) (.meth "Words" "read_term" 708 (.var 0) (.cons (.bin .sub (.var 1) (.con (.int 1))) .nil))) (.cons (.asg (.nm 5) (.meth "Words" "read_word" 704 (.var 0) (.cons (.lst (.cons (.con (.str "and")) (.cons (.con (.str "or")) .nil))) .nil))) (.cons (.asg (.nm 6) (.meth "Words" "read_term" 708 (.var 0) (.cons (.bin .sub (.var 1) (.con (.int 1))) .nil))) (.cons (.expr (.meth "Words" "read_word" 704 (.var 0) (.cons (.lst (.cons (.con (.str ")")) .nil)) .nil))) (.cons (.ret (.tup (.cons (.var 5) (.cons (.var 4) (.cons (.var 6) .nil))))) .nil))))))))))⟩

noncomputable def p_read_saying_2 : FD := ⟨1, 5, (.cons (.asg (.nm 1) (.meth "Words" "read_form" 705 (.var 0) .nil)) (.cons (.asg (.nm 2) (.meth "Words" "read_numbers" 707 (.var 0) (.cons (.var 1) .nil))) (.cons (.asg (.nm 3) (.meth "Words" "read_term" 708 (.var 0) (.cons (.glb 3) .nil))) (.cons (.expr (.meth "Words" "read_word" 704 (.var 0) (.cons (.lst (.cons (.o2 (.gg2 10) (.var 1) (.con (.str "are"))) .nil)) .nil))) (.cons (.asg (.nm 4) (.meth "Words" "read_term" 708 (.var 0) (.cons (.glb 3) .nil))) (.cons (.ite (.cmp .lt (.fld "Words" (.var 0) "at") (.bi .len (.cons (.fld "Words" (.var 0) "words") .nil))) (.cons (.expr (.meth "Words" "refuse" 703 (.var 0) .nil)) .nil) .nil) (.cons (.ret (.bin .add (.bin .add (.tup (.cons (.var 1) .nil)) (.var 2)) (.tup (.cons (.var 3) (.cons (.var 4) .nil))))) .nil)))))))⟩

noncomputable def p_saying_of_2 : FD := ⟨2, 2, (.cons (.ret (.meth "Words" "read_saying" 709 (.make "Words" 580 (.cons (.o2 .split (.var 0) (.con (.str " "))) (.cons (.var 1) .nil))) .nil)) .nil)⟩

noncomputable def l_refused_at_1 : FD := ⟨2, 4, (.cons (.asg (.nm 2) (.con .non)) (.cons (.trx "SayError" 3 (.cons (.expr (.call 710 (.cons (.var 0) (.cons (.var 1) .nil)))) .nil) (.cons (.asg (.nm 2) (.var 3)) .nil)) (.cons (.ite (.cmp .is (.var 2) (.con .non)) (.cons (.ret (.con .non)) .nil) .nil) (.cons (.ite (.or (.not (.isx1 "BadText" (.var 2))) (.isx ["BadRow", "NoLabel", "Taken", "TooMany"] (.var 2))) (.cons (.ret (.neg (.con (.int 1)))) .nil) .nil) (.cons (.ret (.ite (.and (.call 121 (.cons (.xf "word" (.var 2)) .nil)) (.isx1 "ValueError" (.var 2))) (.xf "word" (.var 2)) (.neg (.con (.int 1))))) .nil)))))⟩


noncomputable def l_numbers_right_1 : FD := ⟨4, 7, (.cons (.asg (.nm 4) (.bi .len (.cons (.var 0) .nil))) (.cons (.forr (.nm 5) (.rng1 (.con (.int 45))) (.cons (.asg (.nm 6) (.o2 .join (.con (.str " ")) (.bin .add (.bin .add (.var 0) (.lst (.cons (.bi .str (.cons (.var 5) .nil)) .nil))) (.var 2)))) (.cons (.ite (.cmp .gt (.var 5) (.con (.int 41))) (.cons (.ite (.cmp .ne (.call 711 (.cons (.var 6) (.cons (.var 3) .nil))) (.var 4)) (.cons (.ret (.con (.bl false))) .nil) .nil) .nil) (.cons (.ite (.cmp .ne (.slc (.call 710 (.cons (.var 6) (.cons (.var 3) .nil))) .no (.yes (.con (.int 2)))) (.tup (.cons (.var 1) (.cons (.var 5) .nil)))) (.cons (.ret (.con (.bl false))) .nil) .nil) .nil)) .nil))) (.cons (.ret (.con (.bl true))) .nil)))⟩

noncomputable def l_shares_right_1 : FD := ⟨4, 9, (.cons (.asg (.nm 4) (.bi .len (.cons (.var 0) .nil))) (.cons (.forr (.nm 5) (.rng1 (.con (.int 15))) (.cons (.forr (.nm 6) (.rng1 (.con (.int 15))) (.cons (.asg (.nm 7) (.o2 .join (.con (.str " ")) (.bin .add (.bin .add (.var 0) (.lst (.cons (.bi .str (.cons (.var 5) .nil)) (.cons (.con (.str "of")) (.cons (.bi .str (.cons (.var 6) .nil)) .nil))))) (.var 2)))) (.cons (.asg (.nm 8) (.con .non)) (.cons (.ite (.cmp .gt (.var 5) (.con (.int 12))) (.cons (.asg (.nm 8) (.var 4)) .nil) (.cons (.ite (.or (.cmp .eq (.var 6) (.con (.int 0))) (.or (.cmp .gt (.var 6) (.con (.int 12))) (.cmp .lt (.var 6) (.var 5)))) (.cons (.asg (.nm 8) (.bin .add (.var 4) (.con (.int 2)))) .nil) .nil) .nil)) (.cons (.ite (.cmp .ne (.call 711 (.cons (.var 7) (.cons (.var 3) .nil))) (.var 8)) (.cons (.ret (.con (.bl false))) .nil) .nil) (.cons (.ite (.and (.cmp .is (.var 8) (.con .non)) (.cmp .ne (.slc (.call 710 (.cons (.var 7) (.cons (.var 3) .nil))) .no (.yes (.con (.int 3)))) (.tup (.cons (.var 1) (.cons (.var 5) (.cons (.var 6) .nil)))))) (.cons (.ret (.con (.bl false))) .nil) .nil) .nil)))))) .nil)) (.cons (.ret (.con (.bl true))) .nil)))⟩

noncomputable def l_depth_right_1 : FD := ⟨2, 9, (.cons (.forr (.nm 2) (.seq (.tup (.cons (.con (.int 6)) (.cons (.con (.int 7)) (.cons (.con (.int 8)) (.cons (.con (.int 9)) .nil)))))) (.cons (.asg (.tp (.cons (.nm 7) (.cons (.nm 8) .nil))) (.call 601 (.cons (.var 0) (.cons (.var 1) (.cons (.var 2) .nil))))) (.cons (.asg (.nm 3) (.call 4 (.cons (.var 0) (.cons (.con (.int 2)) .nil)))) (.cons (.asg (.nm 4) (.ite (.cmp .eq (.var 3) (.con (.int 0))) (.lst (.cons (.con (.str "all")) .nil)) (.lst (.cons (.con (.str "all")) (.cons (.idx (.var 1) (.con (.int 0))) (.cons (.con (.str "are")) .nil)))))) (.cons (.asg (.nm 5) (.ite (.cmp .eq (.var 3) (.con (.int 0))) (.lst (.cons (.con (.str "are")) (.cons (.idx (.var 1) (.con (.int 0))) .nil))) (.lst .nil))) (.cons (.asg (.nm 6) (.call 711 (.cons (.o2 .join (.con (.str " ")) (.bin .add (.bin .add (.var 4) (.var 7)) (.var 5))) (.cons (.var 1) .nil)))) (.cons (.ite (.cmp .ne (.var 6) (.ite (.cmp .lt (.var 2) (.con (.int 8))) (.con .non) (.bin .add (.bi .len (.cons (.var 4) .nil)) (.idx (.var 8) (.con (.int 7)))))) (.cons (.ret (.con (.bl false))) .nil) .nil) .nil))))))) (.cons (.ret (.con (.bl true))) .nil))⟩

noncomputable def p_law_79 : FD := ⟨1, 7, (.cons (.forr (.nm 1) (.seq (.call 33 (.cons (.var 0) (.cons (.con (.int 2)) .nil)))) (.cons (.asg (.nm 2) (.call 87 (.cons (.var 1) (.cons (.bin .add (.con (.int 1)) (.call 4 (.cons (.var 1) (.cons (.con (.int 4)) .nil)))) .nil)))) (.cons (.asg (.nm 3) (.lst (.cons (.idx (.var 2) (.con (.int 0))) (.cons (.con (.str "are")) (.cons (.idx (.var 2) (.neg (.con (.int 1)))) .nil))))) (.cons (.forr (.tp (.cons (.nm 4) (.cons (.nm 5) .nil))) (.seq (.tup (.cons (.tup (.cons (.lst (.cons (.con (.str "at")) (.cons (.con (.str "least")) .nil))) (.cons (.con (.str "least")) .nil))) (.cons (.tup (.cons (.lst (.cons (.con (.str "at")) (.cons (.con (.str "most")) .nil))) (.cons (.con (.str "most")) .nil))) (.cons (.tup (.cons (.lst (.cons (.con (.str "exactly")) .nil)) (.cons (.con (.str "just")) .nil))) .nil))))) (.cons (.ite (.not (.call 713 (.cons (.var 4) (.cons (.var 5) (.cons (.var 3) (.cons (.var 2) .nil)))))) (.cons (.ret (.con (.bl false))) .nil) .nil) .nil)) (.cons (.forr (.tp (.cons (.nm 4) (.cons (.nm 5) .nil))) (.seq (.tup (.cons (.tup (.cons (.lst (.cons (.con (.str "share")) .nil)) (.cons (.con (.str "share")) .nil))) (.cons (.tup (.cons (.lst (.cons (.con (.str "not")) (.cons (.con (.str "share")) .nil))) (.cons (.con (.str "under")) .nil))) .nil)))) (.cons (.ite (.not (.call 714 (.cons (.var 4) (.cons (.var 5) (.cons (.var 3) (.cons (.var 2) .nil)))))) (.cons (.ret (.con (.bl false))) .nil) .nil) .nil)) (.cons (.ite (.not (.bi .all (.cons (.comp [6] (.nm 6) (.rng1 (.con (.int 4))) .no (.call 715 (.cons (.var 1) (.cons (.var 2) .nil)))) .nil))) (.cons (.ret (.con (.bl false))) .nil) .nil) .nil)))))) (.cons (.ret (.con (.bl true))) .nil))⟩




end Mi
end
noncomputable section
namespace Mi.Lw
open PySem L2

local macro_rules | `(tactic| walk_at "sz") => `(tactic| (refine Nat.le_trans (m := 10000000) ?_ (show 10000000 ≤ 16777216 by decide); (try simp only [List.length_append, List.length_map, List.length_take, List.length_drop, List.length_cons, List.length_nil, List.length_zip, List.length_reverse, List.length_replicate, List.length_range, rngL_len]); omega))
local macro_rules | `(tactic| walk_at "x") => `(tactic| try simp only [w3Ss_cons, w3Ss_nil, w3S_asg, w3S_own, w3S_ret, w3S_expr, w3S_ite, w3S_for, w3S_rsx, wS_trx, w3S_app, w3S_aug, w3S_ext, w3S_frz, w3S_reto, w3S_setf, w3S_par, w3S_augf, wS_augf, w3E_call, w3E_meth, w3E_tup, w3E_bin, w3E_dgt, w3E_ite, w3Es_nil, w3Es_cons, w3E_var, w3E_bor, w3E_con, w3E_glb, w3E_neg, w3E_cmp, w3E_chn, w3E_lst, w3E_idx, w3E_slc, w3E_callp, w3E_callr, w3E_bi, w3E_comp, w3E_compl, w3E_new, w3E_dct, w3E_din, w3E_o1, w3E_o2, w3E_o3, w3E_gget, w3E_fld, w3E_make, w3E_isx1, w3E_isx, w3E_xf, w3E_not, w3E_and, w3E_or, wE_isx1, wE_isx, wE_xf, wE_gks, wI_gky, wI_chs, wE_tsl])
local macro_rules | `(tactic| walk_at "o") => `(tactic| try simp only [wE_fld, wE_meth, wE_make, wS_setf, Rt.val.injEq, D.ref.injEq, exists_eq_left, exists_eq_left', Option.some.injEq])
noncomputable def wdNs : List Str := ["words", "names", "at"]
noncomputable def wdC (ws : List Str) (nd : D) (a : Nat) : Cell := .obj "Words" wdNs [.lst (ws.map .str), nd, .int a]

noncomputable def At (S : Sto) (l : Nat) (ws : List Str) (nd : D) (a : Nat) : Sto := S.set l (wdC ws nd a)
theorem At.get {S : Sto} {l : Nat} {ws : List Str} {nd : D} {a : Nat} (h : l < S.length) : (At S l ws nd a)[l]? = some (.obj "Words" wdNs [.lst (ws.map .str), nd, .int a]) := List.getElem?_set_self h
theorem At.up {S : Sto} {l : Nat} {ws : List Str} {nd : D} {a : Nat} : (At S l ws nd a).set l (.obj "Words" (putFn wdNs "at") (putFd wdNs [.lst (ws.map .str), nd, .int a] "at" (.int ((a : Int) + 1)))) = At S l ws nd (a + 1) := List.set_set _
theorem wd_ws {a b c : D} : valF wdNs [a, b, c] "words" = some a := rfl
theorem wd_nm {a b c : D} : valF wdNs [a, b, c] "names" = some b := rfl
theorem wd_at {a b c : D} : valF wdNs [a, b, c] "at" = some c := rfl

noncomputable def Goes {α : Type} (S : Sto) (l : Nat) (ws : List Str) (nd : D) (r : PR α) (g : α → Rt) (Q : Rt → Sto → Prop) (E : Exn → Sto → Prop) : Prop := match r with
  | .ok x a => Q (g x) (At S l ws nd a)
  | .no a => E ("BadText", some ("word", (a : Int))) (At S l ws nd a)
section
variable {P : Nat → Option FD} {G : List D} {S : Sto} {l : Nat} {ws : List Str} {nd : D} {Q : Rt → Sto → Prop} {E : Exn → Sto → Prop}
theorem next_ok (hl : l < S.length) {k a : Nat} (hP : P 572 = some p_next_word_1) (q : Q (.val (.str (nx ws a))) (At S l ws nd a)) : wF (runF P G (k + 1)) 572 [.ref l] (At S l ws nd a) Q := by
  refine wF_of hP rfl ?_
  unfold p_next_word_1
  walk_at "w"
  walk_at "o"
  walk_at "w"
  refine ⟨_, _, At.get hl, _, wd_at, _, _, At.get hl, _, wd_ws, _, bi_lenl, _, cmp_lt, ?_⟩
  rw [List.length_map]
  by_cases h : a < ws.length
  · rw [if_pos (by simp; omega)]
    refine ⟨_, _, At.get hl, _, wd_ws, _, _, At.get hl, _, wd_at, D.str (nx ws a), ?_, q⟩
    rw [ix_lst]
    refine L2.atI_nat ?_
    unfold nx
    rw [List.getElem?_map, List.getD_eq_getElem?_getD, List.getElem?_eq_getElem h]
    rfl
  · rw [if_neg (by simp; omega)]
    unfold nx at q
    rw [List.getD_eq_getElem?_getD, List.getElem?_eq_none (by omega)] at q
    exact q
theorem refuse_ok (hl : l < S.length) {k a : Nat} (hP : P 703 = some p_refuse_2) (e : E ("BadText", some ("word", (a : Int))) (At S l ws nd a)) : w3F (runF P G (k + 1)) 703 [.ref l] (At S l ws nd a) Q E := by
  refine w3F_of hP rfl ?_
  unfold p_refuse_2
  walk_at "x"
  walk_at "w"
  walk_at "o"
  walk_at "w"
  exact ⟨_, _, At.get hl, _, wd_at, _, rfl, e⟩
theorem in_strsL {S : Sto} {x : Str} : ∀ {xs : List Str}, cmpop S .isin (.val (.str x)) (.val (.lst (xs.map D.str))) = some (decide (x ∈ xs)) := fun {xs} => by
  have h := inop_f (S := S) (x := .str x) (y := .val (.lst (xs.map D.str))) (ds := xs.map D.str) rfl rfl (by rw [List.all_eq_true]; intro d hd; obtain ⟨z, _, rfl⟩ := List.mem_map.mp hd; rfl)
  rw [h]
  clear h
  congr 1
  induction xs with
  | nil => rfl
  | cons a xs ih =>
    show (eqV (.str a) (.str x) || inV (.str x) ((xs.map D.str).map vOf)) = _
    have ih : inV (.str x) ((xs.map D.str).map vOf) = decide (x ∈ xs) := ih
    rw [ih]
    have e : eqV (.str a) (.str x) = decide (a = x) := rfl
    rw [e]
    by_cases h : a = x
    · subst h; simp
    · simp [h, Ne.symm h]
theorem nin_strsL {S : Sto} {x : Str} {xs : List Str} : cmpop S .notin (.val (.str x)) (.val (.lst (xs.map D.str))) = some (!decide (x ∈ xs)) := by
  have h := in_strsL (S := S) (x := x) (xs := xs)
  unfold cmpop at h ⊢
  simp only [] at h ⊢
  rw [h]
  rfl
theorem word_ok (hl : l < S.length) {k a : Nat} {ok : List Str} (h572 : P 572 = some p_next_word_1) (h703 : P 703 = some p_refuse_2) (hP : P 704 = some p_read_word_2) (q : Goes S l ws nd (rdWd ok ws a) (fun x => .val (.str x)) Q E) : w3F (runF P G (k + 2)) 704 [.ref l, .lst (ok.map .str)] (At S l ws nd a) Q E := by
  refine w3F_of hP rfl ?_
  unfold p_read_word_2
  walk_at "x"
  walk_at "w"
  walk_at "o"
  refine ⟨_, _, At.get hl, by decide +kernel, ?_⟩
  walk_at "w"
  refine w3F_w (next_ok hl h572 ?_)
  walk_at "w"
  refine ⟨_, nin_strsL, ?_⟩
  unfold rdWd at q
  by_cases h : nx ws a ∈ ok
  · rw [if_pos h] at q
    rw [if_neg (by simp [h])]
    walk_at "x"
    walk_at "w"
    refine ⟨_, _, At.get hl, by decide, _, wd_at, ?_⟩
    rw [At.up]
    exact q
  · rw [if_neg h] at q
    rw [if_pos (by simp [h])]
    walk_at "x"
    walk_at "w"
    refine ⟨_, _, At.get hl, by decide +kernel, ?_⟩
    exact refuse_ok hl h703 q
noncomputable def dgL : List Nat := [48, 49, 50, 51, 52, 53, 54, 55, 56, 57]
noncomputable def okN (w : Str) : Prop := 1 ≤ w.length ∧ w.length ≤ 2 ∧ (∀ c, c ∈ w.cps.toList → c ∈ dgL) ∧ (w.cps.toList[0]? = some 48 → w = "0")
theorem n_one : ∀ c, c ∈ List.range 10 → PySem.intText? (⟨#[c + 48]⟩ : Str) = some (c : Int) ∧ numW (⟨#[c + 48]⟩ : Str) = some c := by decide +kernel
theorem n_two : ∀ c, c ∈ List.range 10 → c ≠ 0 → ∀ d, d ∈ List.range 10 → PySem.intText? (⟨#[c + 48, d + 48]⟩ : Str) = some ((10 * c + d : Nat) : Int) ∧ numW (⟨#[c + 48, d + 48]⟩ : Str) = some (10 * c + d) := by decide +kernel
theorem n_all : ∀ n, n ∈ List.range 100 → 1 ≤ (nS (n : Nat)).length ∧ (nS (n : Nat)).length ≤ 2 ∧ (∀ c, c ∈ (nS (n : Nat)).cps.toList → c ∈ dgL) ∧ ((nS (n : Nat)).cps.toList[0]? = some 48 → nS (n : Nat) = "0") := by decide +kernel
theorem numW_some {w : Str} {n : Nat} (h : numW w = some n) : n < 100 ∧ nS (n : Nat) = w := by
  unfold numW at h
  exact ⟨List.mem_range.mp (List.mem_of_find?_eq_some h), by simpa using List.find?_some h⟩
theorem numW_not {w : Str} (h : ¬ okN w) : numW w = none := by
  cases e : numW w with
  | none => rfl
  | some n =>
    obtain ⟨h1, h2⟩ := numW_some e
    have h3 := n_all n (List.mem_range.mpr h1)
    rw [h2] at h3
    exact absurd h3 h
theorem dg_of {c : Nat} (h : c ∈ dgL) : ∃ d, d ∈ List.range 10 ∧ c = d + 48 := by
  simp only [dgL, List.mem_cons, List.not_mem_nil, or_false] at h
  exact ⟨c - 48, List.mem_range.mpr (by omega), by omega⟩
theorem numW_is {w : Str} (h : okN w) : ∃ n, numW w = some n ∧ PySem.intText? w = some (n : Int) := by
  obtain ⟨h1, h2, h3, h4⟩ := h
  obtain ⟨⟨L⟩⟩ := w
  have h1 : 1 ≤ L.length := h1
  have h2 : L.length ≤ 2 := h2
  match L, h1, h2 with
  | [c], _, _ =>
    obtain ⟨d, hd, rfl⟩ := dg_of (h3 c List.mem_cons_self)
    obtain ⟨e1, e2⟩ := n_one d hd
    exact ⟨d, e2, e1⟩
  | [c, c2], _, _ =>
    obtain ⟨d, hd, rfl⟩ := dg_of (h3 c List.mem_cons_self)
    obtain ⟨d2, hd2, rfl⟩ := dg_of (h3 c2 (List.mem_cons_of_mem _ List.mem_cons_self))
    have hz : d ≠ 0 := fun hz => by
      subst hz
      have := h4 rfl
      have := congrArg Str.length this
      exact absurd this (by show ¬ (2 = 1); decide)
    obtain ⟨e1, e2⟩ := n_two d hd hz d2 hd2
    exact ⟨_, e2, e1⟩
theorem dg_str : (Str.ofString "0123456789").cps.toList = dgL := by decide +kernel
theorem ix_txt {S : Sto} {w : Str} {c : Nat} (h : w.length ≤ 2) (h0 : w.cps.toList[0]? = some c) : index S (.val (.str w)) (.val (.int 0)) = some (.str ⟨#[c]⟩) := by
  have h2 : w.length ≤ sizeLine := Nat.le_trans h (by decide)
  show (iview S (.val (.str w))).bind _ = _
  unfold iview
  dsimp only
  rw [if_pos h2, Option.bind_some]
  refine (L2.atI_nat (?_ : (w.cps.toList.map fun c => D.str ⟨#[c]⟩)[0]? = some (.str ⟨#[c]⟩)) : atI _ ((0 : Nat) : Int) = _)
  rw [List.getElem?_map, h0]
  rfl
theorem bi_lenS {S : Sto} {w : Str} (h : w.length ≤ sizeLine) : biop S .len [.val (.str w)] = some (.val (.int w.length)) := by
  show (if w.length ≤ sizeLine then some (Rt.val (.int w.length)) else none) = _
  rw [if_pos h]
theorem numof_ok {k : Nat} {w : Str} {S : Sto} (hw : w.length ≤ sizeLine) (hG : G[13]? = some (.str "0123456789")) (hP : P 571 = some p_number_of_word_1) (q : Q (match numW w with | none => .val .non | some n => .val (.int (n : Nat))) S) : wF (runF P G (k + 1)) 571 [.str w] S Q := by
  refine wF_of hP rfl ?_
  unfold p_number_of_word_1
  walk_at "w"
  walk_at "x"
  walk_at "w"
  refine ⟨_, bi_lenS hw, _, cmp_le, ?_⟩
  by_cases h1 : 1 ≤ w.length
  case neg =>
    rw [if_neg (by simp; omega)]
    rw [numW_not fun h => h1 h.1] at q
    exact q
  rw [if_pos (by simp; omega)]
  refine ⟨_, cmp_le, ?_⟩
  by_cases h2 : w.length ≤ 2
  case neg =>
    rw [if_pos (by simp; omega)]
    rw [numW_not fun h => h2 h.2.1] at q
    exact q
  rw [if_neg (by simp; omega)]
  refine wL_map (f := fun c : Nat => D.str ⟨#[c]⟩) (fun c : Nat => D.bl (decide (c ∈ dgL))) (fun c hc => ?_) ?_
  · unfold wTn
    simp only [wipeR]
    walk_at "w"
    simp only [hG]
    walk_at "w"
    refine ⟨p_presin ▸ trivial, rfl, _, _, p_sin, _, rfl, ?_, rfl⟩
    rw [PySem.StrLaws.found_one, dg_str]
  have e : (w.cps.toList.map fun c => D.bl (decide (c ∈ dgL))) = (w.cps.toList.map fun c => decide (c ∈ dgL)).map D.bl := by rw [List.map_map]; rfl
  rw [e]
  have hlen : w.cps.toList.length = w.length := rfl
  refine ⟨?_, _, bi_allm, _, rfl, ?_⟩
  · rw [List.length_map, List.length_map, hlen]; exact Nat.le_trans h2 (by decide)
  by_cases h3 : ∀ c, c ∈ w.cps.toList → c ∈ dgL
  case neg =>
    have h3f : ((w.cps.toList.map fun c => decide (c ∈ dgL)).all id) = false := by
      rw [Bool.eq_false_iff]
      intro hh
      refine h3 fun c hc => ?_
      exact of_decide_eq_true (List.all_eq_true.mp hh _ (List.mem_map_of_mem hc))
    rw [h3f, if_pos (by decide)]
    rw [numW_not fun h => h3 h.2.2.1] at q
    exact q
  have h3t : ((w.cps.toList.map fun c => decide (c ∈ dgL)).all id) = true := by
    rw [List.all_eq_true]
    intro b hb
    obtain ⟨c, hc, rfl⟩ := List.mem_map.mp hb
    exact decide_eq_true (h3 c hc)
  rw [h3t, if_neg (by decide)]
  have h0 : ∃ c, w.cps.toList[0]? = some c := ⟨_, List.getElem?_eq_getElem (by rw [hlen]; omega)⟩
  obtain ⟨c, h0⟩ := h0
  refine ⟨_, ix_txt h2 h0, _, cmp_strs, ?_⟩
  have fin : okN w → ∃ r S', P1.run G S .intt (.val (.str w)) = some (r, S') ∧ retOk r = true ∧ Q r S' := fun ok => by
    obtain ⟨n, e1, e2⟩ := numW_is ok
    rw [e1] at q
    exact ⟨_, _, p_intt (Nat.le_trans h2 (by decide)) e2, rfl, q⟩
  by_cases h4 : c = 48
  · subst h4
    rw [if_pos (by decide +kernel)]
    by_cases h5 : w = "0"
    · rw [if_neg (by simp [h5])]
      exact fin ⟨h1, h2, h3, fun _ => h5⟩
    · rw [if_pos (by simp [h5])]
      rw [numW_not fun h => h5 (h.2.2.2 h0)] at q
      exact q
  · rw [if_neg (fun hh => h4 (by
      have hh := of_decide_eq_true hh
      have : (⟨#[c]⟩ : Str).cps = (Str.ofString "0").cps := congrArg Str.cps hh
      have e0 : (Str.ofString "0").cps = #[48] := by decide +kernel
      rw [e0] at this
      simpa using this))]
    exact fin ⟨h1, h2, h3, fun hh => absurd (Option.some.inj (h0.symm.trans hh)) h4⟩
theorem nx_sz {m a : Nat} (hz : ∀ x, x ∈ ws → x.length ≤ m) : (nx ws a).length ≤ m := by
  unfold nx
  by_cases h : a < ws.length
  · rw [List.getD_eq_getElem?_getD, List.getElem?_eq_getElem h]
    exact hz _ (List.getElem_mem h)
  · rw [List.getD_eq_getElem?_getD, List.getElem?_eq_none (by omega)]
    exact Nat.zero_le _
structure HasRd (P : Nat → Option FD) : Prop where
  h571 : P 571 = some p_number_of_word_1
  h572 : P 572 = some p_next_word_1
  h703 : P 703 = some p_refuse_2
  h704 : P 704 = some p_read_word_2
  h705 : P 705 = some p_read_form_2
  h706 : P 706 = some p_read_number_2
  h707 : P 707 = some p_read_numbers_2
  h708 : P 708 = some p_read_term_2
  h709 : P 709 = some p_read_saying_2
  h580 : P 580 = some p___init___6
  h710 : P 710 = some p_saying_of_2
noncomputable def fstK : List Key := [.inr "all", .inr "some", .inr "no", .inr "exactly", .inr "more", .inr "share"]
noncomputable def fstD : List D := [.str "all", .str "some", .str "none", .str "just", .str "more", .str "share"]
noncomputable def secK : List Key := [.inr "not all", .inr "not share", .inr "at least", .inr "at most", .inr "as many"]
noncomputable def secD : List D := [.str "notall", .str "under", .str "least", .str "most", .str "asmany"]
structure TopRd (G : List D) : Prop where
  g3 : G[3]? = some (.int 8)
  g6 : G[6]? = some (.int 41)
  g7 : G[7]? = some (.int 12)
  g10 : G[10]? = some (.dct betK betD)
  g13 : G[13]? = some (.str "0123456789")
  g17 : G[17]? = some (.dct fstK fstD)
  g18 : G[18]? = some (.tup [.str "not", .str "at", .str "as"])
  g19 : G[19]? = some (.dct secK secD)
noncomputable def secP : List (Str × List Str) := [("not all", Pw.hd .notall), ("not share", Sw.hd .under), ("at least", Cw.hd .least), ("at most", Cw.hd .most), ("as many", Pw.hd .asmany)]
theorem secP_keys : secK.map keyD = secP.map fun p => D.str p.1 := rfl
theorem secP_split : ∀ p, p ∈ secP → Txt.split p.1 (Str.ofString " ") = p.2 ∧ p.1.length ≤ 9 ∧ p.2.length = 2 := by
  intro p hp
  simp only [secP, List.mem_cons, List.not_mem_nil, or_false] at hp
  rcases hp with rfl | rfl | rfl | rfl | rfl
  · exact ⟨s_notall, by decide +kernel, rfl⟩
  · exact ⟨s_under, by decide +kernel, rfl⟩
  · exact ⟨s_least, by decide +kernel, rfl⟩
  · exact ⟨s_most, by decide +kernel, rfl⟩
  · exact ⟨s_asmany, by decide +kernel, rfl⟩
theorem wL_fmP {Φ : Fns} {G : List D} {ρ : Env} {S : Sto} {Qs : List D → Sto → Prop} {α : Type} {t : MT} {c : MO} {e : ME} {xs : List α} {f : α → D} (g : α → Option D) (hs : ∀ x, x ∈ xs → wTn Φ G t c e ρ (f x) S fun o S1 => o = g x ∧ S1 = S) (hd : Qs (xs.filterMap g) S) : wL Φ G t c e ρ (xs.map f) S Qs := by
  refine wL_inv (fun i ys S' => ys = (xs.take i).filterMap g ∧ S' = S) ⟨rfl, rfl⟩ (fun i d ys S' hi h => ?_) fun ys S' h => ?_
  · obtain ⟨rfl, rfl⟩ := h
    rw [List.getElem?_map] at hi
    obtain ⟨x, hx, rfl⟩ := map_some hi
    obtain ⟨ρ1, S1, e1, b, S2, e2, q⟩ := hs x (List.mem_of_getElem? hx)
    have fin : ∀ o, o = g x → (xs.take i).filterMap g ++ o.toList = (xs.take (i + 1)).filterMap g := fun o ho => by
      rw [List.take_add_one, hx, List.filterMap_append, ho]
      congr 1
    refine ⟨ρ1, S1, e1, b, S2, e2, ?_⟩
    cases b with
    | false => rw [if_neg (by decide)] at q ⊢; exact ⟨fin _ q.1, q.2⟩
    | true =>
      rw [if_pos rfl] at q ⊢
      obtain ⟨z, S3, e3, y, hy, q⟩ := q
      exact ⟨z, S3, e3, y, hy, fin _ q.1, q.2⟩
  · obtain ⟨rfl, rfl⟩ := h
    rw [List.length_map, List.take_length]; exact hd
theorem number_ok (hl : l < S.length) (hz : ∀ x, x ∈ ws → x.length ≤ sizeLine) (H : HasRd P) (hG : G[13]? = some (.str "0123456789")) {k a lo hi : Nat} (q : Goes S l ws nd (rdNum lo hi ws a) (fun n : Nat => .val (.int n)) Q E) : w3F (runF P G (k + 2)) 706 [.ref l, .int lo, .int hi] (At S l ws nd a) Q E := by
  refine w3F_of H.h706 rfl ?_
  unfold p_read_number_2
  walk_at "x"
  walk_at "w"
  walk_at "o"
  refine ⟨_, _, At.get hl, by decide +kernel, ?_⟩
  walk_at "w"
  refine w3F_w (next_ok hl H.h572 ?_)
  walk_at "w"
  refine w3F_w (numof_ok (nx_sz hz) hG H.h571 ?_)
  unfold rdNum at q
  cases e : numW (nx ws a) with
  | none =>
    rw [e] at q
    walk_at "w"
    exact ⟨_, _, At.get hl, by decide +kernel, refuse_ok hl H.h703 q⟩
  | some n =>
    rw [e] at q
    dsimp only at q ⊢
    walk_at "w"
    by_cases h1 : lo ≤ n
    · rw [if_pos (by omega)]
      by_cases h2 : n ≤ hi
      · rw [if_neg (by simp; omega)]
        rw [if_pos ⟨h1, h2⟩] at q
        refine ⟨_, _, At.get hl, by decide, _, wd_at, ?_⟩
        rw [At.up]
        exact q
      · rw [if_pos (by simp; omega)]
        rw [if_neg (by omega)] at q
        exact ⟨_, _, At.get hl, by decide +kernel, refuse_ok hl H.h703 q⟩
    · rw [if_neg (by omega)]
      rw [if_neg (by omega)] at q
      exact ⟨_, _, At.get hl, by decide +kernel, refuse_ok hl H.h703 q⟩
theorem Goes.then {α β : Type} {r : PR α} {f : α → Nat → PR β} {g : β → Rt} (q : Goes S l ws nd (r.then f) g Q E) {g' : α → Rt} {Q' : Rt → Sto → Prop} (h : ∀ x a, r = .ok x a → Goes S l ws nd (f x a) g Q E → Q' (g' x) (At S l ws nd a)) : Goes S l ws nd r g' Q' E := by
  cases r with
  | ok x a => exact h x a rfl q
  | no a => exact q
theorem form_ok (hl : l < S.length) (H : HasRd P) (T : TopRd G) {k a : Nat} (q : Goes S l ws nd (rdForm ws a) (fun t => .val (.str (tagK t))) Q E) : w3F (runF P G (k + 3)) 705 [.ref l] (At S l ws nd a) Q E := by
  refine w3F_of H.h705 rfl ?_
  unfold p_read_form_2
  walk_at "x"
  walk_at "w"
  walk_at "o"
  walk_at "w"
  refine ⟨_, _, At.get hl, by decide +kernel, ?_⟩
  refine w3E_w (wE_gks.mpr ⟨_, _, T.g17, by decide, _, T.g18, rfl, _, bi_listt, ?_⟩)
  refine cat_oo.mpr ⟨by decide, _, rfl, ?_⟩
  refine word_ok (ok := fst9) hl H.h572 H.h703 H.h704 ?_
  unfold rdForm at q
  refine q.then fun w b hw q => ?_
  refine ⟨_, rfl, p_gin.mpr ⟨_, _, T.g17, ?_⟩⟩
  refine ⟨_, rfl, ?_⟩
  have hw9 : w ∈ fst9 := by
    unfold rdWd at hw
    by_cases h : nx ws a ∈ fst9
    · rw [if_pos h] at hw; cases hw; exact h
    · rw [if_neg h] at hw; cases hw
  by_cases h6 : w ∈ fst6
  · have e1 : ∃ d, valD fstK fstD (.inr w) = some d ∧ d = .str (tagK (look (fun k => k == w) tg1)) := by
      simp only [fst6, List.mem_cons, List.not_mem_nil, or_false] at h6
      rcases h6 with rfl | rfl | rfl | rfl | rfl | rfl <;> exact ⟨_, rfl, congrArg D.str (by decide +kernel)⟩
    obtain ⟨d, e1, rfl⟩ := e1
    rw [e1, if_pos (by rw [Option.isSome_some]; rfl)]
    unfold rdF2 at q
    rw [if_pos h6] at q
    exact p_gget.mpr ⟨_, _, _, T.g17, e1, rfl, q⟩
  · have h3 : w = "not" ∨ w = "at" ∨ w = "as" := by
      simp only [fst9, fst6, List.mem_cons, List.not_mem_nil, or_false] at hw9 h6
      simp only [not_or] at h6
      rcases hw9 with h | h | h | h | h | h | h | h | h
      · exact absurd h h6.1
      · exact absurd h h6.2.1
      · exact absurd h h6.2.2.1
      · exact absurd h h6.2.2.2.1
      · exact absurd h h6.2.2.2.2.1
      · exact absurd h h6.2.2.2.2.2
      · exact .inl h
      · exact .inr (.inl h)
      · exact .inr (.inr h)
    have e1 : valD fstK fstD (.inr w) = none := by rcases h3 with rfl | rfl | rfl <;> rfl
    have hw3 : w.length ≤ 3 := by rcases h3 with rfl | rfl | rfl <;> decide +kernel
    rw [e1, if_neg (by decide)]
    unfold rdF2 at q
    rw [if_neg h6] at q
    refine wI_gky.mpr ⟨_, _, T.g19, ?_⟩
    rw [secP_keys]
    refine wL_fmP (fun p : Str × List Str => if p.2.getD 0 "" = w then some (D.str (p.2.getD 1 "")) else none) (fun p hp => ?_) ?_
    · obtain ⟨s1, s2, s3⟩ := secP_split p hp
      obtain ⟨p1, p2⟩ := p
      match p2, s3 with
      | [x, y], _ =>
        have s1 : Txt.split p1 (Str.ofString " ") = [x, y] := s1
        unfold wTn
        simp only [wipeR]
        walk_at "w"
        rw [s1]
        have pl : ((Str.ofString " ").length == 0) = false ∧ p1.length + 2 ≤ sizeLine := ⟨by decide +kernel, Nat.le_trans (Nat.add_le_add_right s2 2) (by decide)⟩
        refine ⟨pl, _, atI_0, _, cmp_strs, ?_⟩
        show if decide (x = w) = true then _ else _
        by_cases h : x = w
        · rw [if_pos (by simp [h])]
          refine ⟨pl, _, atI_1, ?_⟩
          show _ = if x = w then _ else _
          rw [if_pos h]
          rfl
        · rw [if_neg (by simp [h])]
          show _ = if x = w then _ else _
          rw [if_neg h]
    have e2 : (secP.filterMap fun p : Str × List Str => if p.2.getD 0 "" = w then some (D.str (p.2.getD 1 "")) else none) = (sec w).map D.str := by
      rcases h3 with rfl | rfl | rfl <;> rfl
    rw [e2]
    have e3 : (sec w).length ≤ 2 := by rcases h3 with rfl | rfl | rfl <;> decide +kernel
    refine ⟨by rw [List.length_map]; exact Nat.le_trans e3 (by decide), ?_⟩
    have l1 : (Str.ofString " ").length = 1 := by decide +kernel
    refine cat_ss.mpr ⟨by rw [l1]; exact Nat.le_trans (Nat.add_le_add_right hw3 1) (by decide), _, _, At.get hl, by decide +kernel, ?_⟩
    refine word_ok hl H.h572 H.h703 H.h704 ?_
    refine q.then fun v c hv q => ?_
    have hvm : v ∈ sec w := by
      unfold rdWd at hv
      by_cases h : nx ws b ∈ sec w
      · rw [if_pos h] at hv; cases hv; exact h
      · rw [if_neg h] at hv; cases hv
    have e4 : (w ++ Str.ofString " ").length + v.length ≤ sizeLine ∧ ∃ d, valD secK secD (.inr (w ++ Str.ofString " " ++ v)) = some d ∧ d = .str (tagK (look (fun k : Str × Str => k.1 == w && k.2 == v) tg2)) := by
      rcases h3 with rfl | rfl | rfl
      · have : sec "not" = (["all", "share"] : List Str) := by decide +kernel
        rw [this] at hvm
        simp only [List.mem_cons, List.not_mem_nil, or_false] at hvm
        rcases hvm with rfl | rfl <;> exact ⟨by decide +kernel, _, rfl, congrArg D.str (by decide +kernel)⟩
      · have : sec "at" = (["least", "most"] : List Str) := by decide +kernel
        rw [this] at hvm
        simp only [List.mem_cons, List.not_mem_nil, or_false] at hvm
        rcases hvm with rfl | rfl <;> exact ⟨by decide +kernel, _, rfl, congrArg D.str (by decide +kernel)⟩
      · have : sec "as" = (["many"] : List Str) := by decide +kernel
        rw [this] at hvm
        simp only [List.mem_cons, List.not_mem_nil, or_false] at hvm
        rcases hvm with rfl; exact ⟨by decide +kernel, _, rfl, congrArg D.str (by decide +kernel)⟩
    obtain ⟨l2, d, e4, rfl⟩ := e4
    refine cat_ss.mpr ⟨l2, ?_⟩
    exact p_gget.mpr ⟨_, _, _, T.g19, e4, rfl, q⟩
theorem nums_ok (hl : l < S.length) (hz : ∀ x, x ∈ ws → x.length ≤ sizeLine) (H : HasRd P) (T : TopRd G) {k a : Nat} {t : Tag} (q : Goes S l ws nd (rdNums t ws a) (fun xs : List Nat => .val (.tup (xs.map fun n : Nat => .int n))) Q E) : w3F (runF P G (k + 3)) 707 [.ref l, .str (tagK t)] (At S l ws nd a) Q E := by
  refine w3F_of H.h707 rfl ?_
  unfold p_read_numbers_2
  walk_at "x"
  walk_at "w"
  walk_at "o"
  walk_at "w"
  have num : ∀ {a lo hi : Nat} {Q : Rt → Sto → Prop}, Goes S l ws nd (rdNum lo hi ws a) (fun n : Nat => .val (.int n)) Q E → w3F (runF P G (k + 2)) 706 [.ref l, .int lo, .int hi] (At S l ws nd a) Q E := fun q => number_ok hl hz H T.g13 q
  cases t with
  | p w =>
    have e1 : (decide (Str.ofString "least" = tagK (.p w)) || (decide (Str.ofString "most" = tagK (.p w)) || decide (Str.ofString "just" = tagK (.p w)))) = false := by cases w <;> decide +kernel
    have e2 : (!(decide (Str.ofString "share" = tagK (.p w)) || decide (Str.ofString "under" = tagK (.p w)))) = true := by cases w <;> decide +kernel
    rw [e1, if_neg (by decide), e2, if_pos rfl]
    exact q
  | c w =>
    have e1 : (decide (Str.ofString "least" = tagK (.c w)) || (decide (Str.ofString "most" = tagK (.c w)) || decide (Str.ofString "just" = tagK (.c w)))) = true := by cases w <;> decide +kernel
    rw [e1, if_pos rfl]
    refine ⟨_, _, At.get hl, by decide +kernel, _, T.g6, rfl, ?_⟩
    refine num (lo := 0) (hi := 41) ?_
    exact Goes.then q fun n b _ q => ⟨_, rfl, q⟩
  | s w =>
    have e1 : (decide (Str.ofString "least" = tagK (.s w)) || (decide (Str.ofString "most" = tagK (.s w)) || decide (Str.ofString "just" = tagK (.s w)))) = false := by cases w <;> decide +kernel
    have e2 : (!(decide (Str.ofString "share" = tagK (.s w)) || decide (Str.ofString "under" = tagK (.s w)))) = false := by cases w <;> decide +kernel
    rw [e1, if_neg (by decide), e2, if_neg (by decide)]
    refine ⟨_, _, At.get hl, by decide +kernel, _, T.g7, rfl, ?_⟩
    refine num (lo := 0) (hi := 12) ?_
    refine Goes.then q fun n b _ q => ⟨_, rfl, _, _, At.get hl, by decide +kernel, ?_⟩
    refine word_ok (ok := ["of"]) hl H.h572 H.h703 H.h704 ?_
    refine q.then fun _ c _ q => ⟨_, _, At.get hl, by decide +kernel, _, bi_max2, _, rfl, _, T.g7, rfl, ?_⟩
    have em : (if (n : Int) > 1 then (n : Int) else 1) = ((max 1 n : Nat) : Int) := by split <;> omega
    rw [em]
    refine num (lo := max 1 n) (hi := 12) ?_
    exact q.then fun m b _ q => ⟨_, rfl, q⟩
noncomputable def rdT1 (ns : List Str) (n : Nat) (ws : List Str) (w : Str) (a : Nat) : PR Tm := if w = "things" then .ok .any a else if w = "not" then (rdTm ns n ws a).then fun t a => .ok (.not t) a
  else if w = "(" then (rdTm ns n ws a).then fun s a => (rdWd ["and", "or"] ws a).then fun o a => (rdTm ns n ws a).then fun t a => (rdWd [")"] ws a).then fun _ a => .ok (two o s t) a
  else .ok (.is (ns.findIdx fun x => x == w)) a
theorem rdTm_w0 {ns : List Str} (h0 : ∀ x, x ∈ ns → x ∉ rsv) {a : Nat} : rdTm ns 0 ws a = (rdWd (ns ++ (["things"] : List Str)) ws a).then fun w b => rdT1 ns 0 ws w b := by
  rw [rdTm_z]
  unfold rdWd
  by_cases e1 : nx ws a = "things"
  · rw [if_pos e1, if_pos (by rw [e1]; simp)]
    show _ = rdT1 ns 0 ws _ _
    unfold rdT1
    rw [if_pos e1]
  · rw [if_neg e1]
    by_cases e2 : nx ws a ∈ ns
    · have h1 := h0 _ e2
      simp only [rsv, List.mem_cons, not_or] at h1
      rw [if_pos e2, if_pos (List.mem_append_left _ e2)]
      show _ = rdT1 ns 0 ws _ _
      unfold rdT1
      rw [if_neg e1, if_neg h1.2.1, if_neg h1.2.2.1]
    · rw [if_neg e2, if_neg (by simp [e1, e2])]
      rfl
theorem rdTm_w1 {ns : List Str} (h0 : ∀ x, x ∈ ns → x ∉ rsv) {n a : Nat} : rdTm ns (n + 1) ws a = (rdWd (ns ++ (["things"] : List Str) ++ (["not", "("] : List Str)) ws a).then fun w b => rdT1 ns n ws w b := by
  rw [rdTm_s]
  unfold rdWd
  by_cases e1 : nx ws a = "things"
  · rw [if_pos e1, if_pos (by rw [e1]; simp)]
    show _ = rdT1 ns n ws _ _
    unfold rdT1
    rw [if_pos e1]
  · rw [if_neg e1]
    by_cases e2 : nx ws a ∈ ns
    · have h1 := h0 _ e2
      simp only [rsv, List.mem_cons, not_or] at h1
      rw [if_pos e2, if_pos (by simp [e2])]
      show _ = rdT1 ns n ws _ _
      unfold rdT1
      rw [if_neg e1, if_neg h1.2.1, if_neg h1.2.2.1]
    · rw [if_neg e2]
      by_cases e3 : nx ws a = "not"
      · rw [if_pos e3, if_pos (by rw [e3]; simp)]
        show _ = rdT1 ns n ws _ _
        unfold rdT1
        rw [if_neg e1, if_pos e3]
      · rw [if_neg e3]
        by_cases e4 : nx ws a = "("
        · rw [if_pos e4, if_pos (by rw [e4]; simp)]
          show _ = rdT1 ns n ws _ _
          unfold rdT1
          rw [if_neg e1, if_neg e3, if_pos e4]
          rfl
        · rw [if_neg e4, if_neg (by simp [e1, e2, e3, e4])]
          rfl
theorem p_indexs {G : List D} {S : Sto} {w : Str} {ns : List Str} (h : w ∈ ns) : P2.run G S .index (.own (ns.map .str)) (.val (.str w)) = some (.val (.int (ns.findIdx fun x => x == w : Nat)), S) := by
  show (if flatD (D.str w) = true ∧ (ns.map D.str).all flatD = true then (((ns.map D.str).map vOf).findIdx? fun z => eqV z (vOf (.str w))).map fun (j : Nat) => (Rt.val (.int j), S) else none) = _
  rw [if_pos ⟨rfl, by rw [List.all_eq_true]; intro d hd; obtain ⟨z, _, rfl⟩ := List.mem_map.mp hd; rfl⟩]
  have e : (((ns.map D.str).map vOf).findIdx? fun z => eqV z (vOf (.str w))) = some (ns.findIdx fun x => x == w) := by
    rw [List.map_map, List.findIdx?_map]
    have e2 : ((fun z => eqV z (vOf (.str w))) ∘ (vOf ∘ D.str)) = fun x : Str => x == w := by
      funext x
      show decide (x = w) = (x == w)
      by_cases hx : x = w
      · subst hx; simp
      · simp [hx]
    rw [e2, List.findIdx?_eq_some_iff_findIdx_eq]
    exact ⟨List.findIdx_lt_length.mpr ⟨w, h, by simp⟩, rfl⟩
  rw [e]
  rfl
theorem two_d {o : Str} {s t : Tm} (h : o ∈ (["and", "or"] : List Str)) : (two o s t).d = .tup [.str o, s.d, t.d] := by
  unfold two
  simp only [List.mem_cons, List.not_mem_nil, or_false] at h
  rcases h with rfl | rfl
  · rw [if_pos rfl]; rfl
  · rw [if_neg nt4]; rfl
theorem rdWd_in {ok : List Str} {a b : Nat} {w : Str} (h : rdWd ok ws a = .ok w b) : w ∈ ok := by
  unfold rdWd at h
  by_cases e : nx ws a ∈ ok
  · rw [if_pos e] at h; cases h; exact e
  · rw [if_neg e] at h; cases h
theorem term_ok (hl : l < S.length) {kd : Kd} {ns : List Str} (h0 : ∀ x, x ∈ ns → x ∉ rsv) (hns : ns.length ≤ 1000) (H : HasRd P) : ∀ (n k a : Nat) (Q : Rt → Sto → Prop) (E : Exn → Sto → Prop), n ≤ k → Goes S l ws (sqD kd (ns.map .str)) (rdTm ns n ws a) (fun t => .val t.d) Q E → w3F (runF P G (k + 3)) 708 [.ref l, .int ((n : Int) + 1)] (At S l ws (sqD kd (ns.map .str)) a) Q E
  | 0, k, a, Q, E, hk, q => by
    refine w3F_of H.h708 rfl ?_
    unfold p_read_term_2
    walk_at "x"
    walk_at "w"
    walk_at "o"
    walk_at "w"
    refine ⟨_, _, At.get hl, by decide +kernel, _, _, At.get hl, _, wd_nm, _, bi_listsq, cat_oo.mpr ⟨?_, cat_ol.mpr ⟨?_, _, rfl, ?_⟩⟩⟩
    · rw [List.length_map]; exact Nat.le_trans (Nat.add_le_add_right hns 1) (by decide)
    · rw [List.length_append, List.length_map]; exact Nat.le_trans (Nat.add_le_add_right hns 1) (by decide)
    rw [rdTm_w0 h0] at q
    have e : ns.map D.str ++ [D.str (Str.ofString "things")] ++ [] = (ns ++ (["things"] : List Str)).map D.str := by rw [List.append_nil, List.map_append]; rfl
    rw [e]
    refine word_ok hl H.h572 H.h703 H.h704 ?_
    refine Goes.then q fun w b hw q => ⟨_, rfl, _, cmp_strs, ?_⟩
    unfold rdT1 at q
    have hm := rdWd_in hw
    by_cases e1 : w = "things"
    · rw [if_pos (decide_eq_true e1)]
      rw [if_pos e1] at q
      exact q
    · rw [if_neg (by simp [e1])]
      rw [if_neg e1] at q
      have hm : w ∈ ns := by
        rcases List.mem_append.mp hm with h | h
        · exact h
        · exact absurd (List.mem_singleton.mp h) e1
      have h1 := h0 _ hm
      simp only [rsv, List.mem_cons, not_or] at h1
      rw [if_neg h1.2.1, if_neg h1.2.2.1] at q
      refine ⟨_, cmp_strs, ?_⟩
      rw [if_neg (by simp [h1.2.1])]
      refine ⟨_, cmp_strsn, ?_⟩
      rw [if_pos (by simp [h1.2.2.1])]
      exact ⟨_, _, At.get hl, _, wd_nm, _, bi_listsq, (p_precount (ds := ns.map .str) rfl).2, _, _, p_indexs hm, _, rfl, q⟩
  | n + 1, k, a, Q, E, hk, q => by
    obtain ⟨k, rfl⟩ : ∃ j, k = j + 1 := ⟨k - 1, by omega⟩
    have again : ∀ (a : Nat) (Q : Rt → Sto → Prop) (E : Exn → Sto → Prop), Goes S l ws (sqD kd (ns.map .str)) (rdTm ns n ws a) (fun t => .val t.d) Q E → w3F (runF P G (k + 1 + 2)) 708 [.ref l, .int (((n + 1 : Nat) : Int) + 1 - 1)] (At S l ws (sqD kd (ns.map .str)) a) Q E := fun a Q E q => by
      rw [show ((n + 1 : Nat) : Int) + 1 - 1 = (n : Int) + 1 by omega]
      exact term_ok hl h0 hns H n k a Q E (by omega) q
    refine w3F_of H.h708 rfl ?_
    unfold p_read_term_2
    walk_at "x"
    walk_at "w"
    walk_at "o"
    walk_at "w"
    rw [if_pos (by omega)]
    refine ⟨_, _, At.get hl, by decide +kernel, _, _, At.get hl, _, wd_nm, _, bi_listsq, cat_oo.mpr ⟨?_, cat_ol.mpr ⟨?_, _, rfl, ?_⟩⟩⟩
    · rw [List.length_map]; exact Nat.le_trans (Nat.add_le_add_right hns 1) (by decide)
    · rw [List.length_append, List.length_map]; exact Nat.le_trans (Nat.add_le_add_right (Nat.add_le_add_right hns 1) 2) (by decide)
    rw [rdTm_w1 h0] at q
    have e : ns.map D.str ++ [D.str (Str.ofString "things")] ++ [D.str (Str.ofString "not"), D.str (Str.ofString "(")] = (ns ++ (["things"] : List Str) ++ (["not", "("] : List Str)).map D.str := by rw [List.map_append, List.map_append]; rfl
    rw [e]
    refine word_ok hl H.h572 H.h703 H.h704 ?_
    refine Goes.then q fun w b hw q => ⟨_, rfl, _, cmp_strs, ?_⟩
    unfold rdT1 at q
    have hm := rdWd_in hw
    by_cases e1 : w = "things"
    · rw [if_pos (decide_eq_true e1)]
      rw [if_pos e1] at q
      exact q
    rw [if_neg (by simp [e1])]
    rw [if_neg e1] at q
    refine ⟨_, cmp_strs, ?_⟩
    by_cases e2 : w = "not"
    · rw [if_pos (decide_eq_true e2)]
      rw [if_pos e2] at q
      refine ⟨_, _, At.get hl, by decide +kernel, again _ _ _ ?_⟩
      exact Goes.then q fun t c _ q => ⟨_, rfl, q⟩
    rw [if_neg (by simp [e2])]
    rw [if_neg e2] at q
    refine ⟨_, cmp_strsn, ?_⟩
    by_cases e3 : w = "("
    · rw [if_neg (by simp [e3])]
      rw [if_pos e3] at q
      refine ⟨_, _, At.get hl, by decide +kernel, again _ _ _ ?_⟩
      refine Goes.then q fun t c _ q => ⟨_, rfl, _, _, At.get hl, by decide +kernel, ?_⟩
      refine word_ok (ok := ["and", "or"]) hl H.h572 H.h703 H.h704 ?_
      refine Goes.then q fun o c ho q => ⟨_, rfl, _, _, At.get hl, by decide +kernel, again _ _ _ ?_⟩
      refine Goes.then q fun s c _ q => ⟨_, rfl, _, _, At.get hl, by decide +kernel, ?_⟩
      refine word_ok (ok := [")"]) hl H.h572 H.h703 H.h704 ?_
      refine Goes.then q fun _ c _ q => ?_
      have q : Q (.val (two o t s).d) _ := q
      rw [two_d (rdWd_in ho)] at q
      exact q
    · rw [if_pos (by simp [e3])]
      rw [if_neg e3] at q
      have hm : w ∈ ns := by
        simp only [List.mem_append, List.mem_cons, List.not_mem_nil, or_false] at hm
        rcases hm with (h | h) | h | h
        · exact h
        · exact absurd h e1
        · exact absurd h e2
        · exact absurd h e3
      exact ⟨_, _, At.get hl, _, wd_nm, _, bi_listsq, (p_precount (ds := ns.map .str) rfl).2, _, _, p_indexs hm, _, rfl, q⟩
theorem mk_d {t : Tag} {xs : List Nat} {s p : Tm} {a b : Nat} (h : rdNums t ws a = .ok xs b) : (mkSy t xs s p).d = .tup ([.str (tagK t)] ++ xs.map (fun n : Nat => D.int n) ++ [s.d, p.d]) := by
  cases t with
  | p w =>
    have h : PR.ok [] a = PR.ok xs b := h
    cases h; rfl
  | c w =>
    have h : (rdNum 0 41 ws a).then (fun n a => .ok [n] a) = PR.ok xs b := h
    cases e : rdNum 0 41 ws a with
    | no c => rw [e] at h; cases h
    | ok n c => rw [e] at h; cases h; rfl
  | s w =>
    have h : ((rdNum 0 12 ws a).then fun t a => (rdWd ["of"] ws a).then fun _ a => (rdNum (max 1 t) 12 ws a).then fun b a => .ok [t, b] a) = PR.ok xs b := h
    cases e : rdNum 0 12 ws a with
    | no c => rw [e] at h; cases h
    | ok n c =>
      rw [e] at h
      have h : ((rdWd ["of"] ws c).then fun _ a => (rdNum (max 1 n) 12 ws a).then fun b a => .ok [n, b] a) = PR.ok xs b := h
      cases e : rdWd ["of"] ws c with
      | no c => rw [e] at h; cases h
      | ok _ c =>
        rw [e] at h
        have h : ((rdNum (max 1 n) 12 ws c).then fun b a => .ok [n, b] a) = PR.ok xs b := h
        cases e : rdNum (max 1 n) 12 ws c with
        | no c => rw [e] at h; cases h
        | ok n c => rw [e] at h; cases h; rfl
theorem PR.then_assoc {α β γ : Type} {r : PR α} {f : α → Nat → PR β} {g : β → Nat → PR γ} : (r.then f).then g = r.then fun x a => (f x a).then g := by cases r <;> rfl
theorem PR.ok_then {α β : Type} {x : α} {a : Nat} {f : α → Nat → PR β} : (PR.ok x a).then f = f x a := rfl
theorem PR.then_ok {α β : Type} {r : PR α} {f : α → Nat → PR β} {y : β} {b : Nat} (h : r.then f = .ok y b) : ∃ x a, r = .ok x a ∧ f x a = .ok y b := by
  cases r with
  | ok x a => exact ⟨x, a, rfl, h⟩
  | no a => cases h
theorem nums_few {t : Tag} {xs : List Nat} {a b : Nat} (h : rdNums t ws a = .ok xs b) : xs.length ≤ 2 := by
  cases t with
  | p w =>
    have h : PR.ok [] a = PR.ok xs b := h
    cases h; decide
  | c w =>
    obtain ⟨_, _, _, h⟩ := PR.then_ok h
    cases h; simp
  | s w =>
    obtain ⟨_, _, _, h⟩ := PR.then_ok h
    obtain ⟨_, _, _, h⟩ := PR.then_ok h
    obtain ⟨_, _, _, h⟩ := PR.then_ok h
    cases h; simp
theorem btw_ok {t : Tag} : (valD betK betD (.inr (tagK t))).getD (.str "are") = .str (tagB t) := by
  rcases t with w | w | w <;> cases w <;> rfl
theorem say_ok (hl : l < S.length) {kd : Kd} {ns : List Str} (h0 : ∀ x, x ∈ ns → x ∉ rsv) (hns : ns.length ≤ 1000) (hz : ∀ x, x ∈ ws → x.length ≤ sizeLine) (hzl : ws.length ≤ sizeLine) (H : HasRd P) (T : TopRd G) {k : Nat} (hk : 10 ≤ k)
    (q : Goes S l ws (sqD kd (ns.map .str)) (rdSay ns ws) (fun y => .val y.d) Q E) : w3F (runF P G (k + 1)) 709 [.ref l] (At S l ws (sqD kd (ns.map .str)) 0) Q E := by
  refine w3F_of H.h709 rfl ?_
  obtain ⟨k, rfl⟩ : ∃ j, k = j + 3 := ⟨k - 3, by omega⟩
  unfold p_read_saying_2
  walk_at "x"
  walk_at "w"
  walk_at "o"
  walk_at "w"
  refine ⟨_, _, At.get hl, by decide +kernel, ?_⟩
  unfold rdSay rdBody at q
  simp only [PR.then_assoc, PR.ok_then] at q
  refine form_ok hl H T ?_
  refine Goes.then q fun t a _ q => ⟨_, rfl, _, _, At.get hl, by decide +kernel, ?_⟩
  refine nums_ok hl hz H T ?_
  refine Goes.then q fun xs a hx q => ⟨_, rfl, _, _, At.get hl, by decide +kernel, _, T.g3, rfl, ?_⟩
  refine term_ok hl h0 hns H 7 k _ _ _ (by omega) ?_
  refine Goes.then q fun s a _ q => ⟨_, rfl, _, _, At.get hl, by decide +kernel, eq_true rfl ▸ trivial, _, _, p_gg2' T.g10, ?_⟩
  rw [btw_ok]
  refine ⟨_, rfl, ?_⟩
  refine word_ok (ok := [tagB t]) hl H.h572 H.h703 H.h704 ?_
  refine Goes.then q fun _ a _ q => ⟨_, _, At.get hl, by decide +kernel, _, T.g3, rfl, ?_⟩
  refine term_ok hl h0 hns H 7 k _ _ _ (by omega) ?_
  refine Goes.then q fun p a _ q => ⟨_, rfl, ?_⟩
  refine ⟨_, _, At.get hl, _, wd_at, _, _, At.get hl, _, wd_ws, _, bi_lenl, _, cmp_lt, ?_⟩
  rw [List.length_map]
  unfold rdEnd at q
  by_cases e : a < ws.length
  · rw [if_pos (by simp; omega)]
    rw [if_pos e] at q
    exact ⟨_, _, At.get hl, by decide +kernel, refuse_ok hl H.h703 q⟩
  · rw [if_neg (by simp; omega)]
    rw [if_neg e] at q
    have q : Q (.val (mkSy t xs s p).d) _ := q
    rw [mk_d hx] at q
    have n2 := nums_few hx
    refine cat_tt.mpr ⟨?_, cat_tt.mpr ⟨?_, ?_⟩⟩
    · rw [List.length_map]; exact Nat.le_trans (Nat.add_le_add_left n2 1) (by decide)
    · rw [List.length_append, List.length_map]; exact Nat.le_trans (Nat.add_le_add_right (Nat.add_le_add_left n2 1) 2) (by decide)
    · exact ⟨rfl, q⟩
theorem init_ok {k : Nat} {a : List Str} {d : D} (hP : P 580 = some p___init___6) (q : Q (.val .non) (S ++ [wdC a d 0])) : wF (runF P G (k + 1)) 580 [.ref S.length, .lst (a.map .str), d] (S ++ [.obj "Words" [] []]) Q := by
  refine wF_of hP rfl ?_
  unfold p___init___6
  have key : ∀ (c d : Cell), (S ++ [c])[S.length]? = some c ∧ (S ++ [c]).set S.length d = S ++ [d] := fun c d => ⟨List.getElem?_concat_length, by simp⟩
  walk_at "w"
  walk_at "o"
  walk_at "w"
  refine ⟨_, _, (key _ (.obj "Words" [] [])).1, by decide, ?_⟩
  simp only [(key (.obj "Words" [] []) _).2]
  refine ⟨_, _, (key _ (.obj "Words" [] [])).1, by decide, ?_⟩
  simp only [(key _ _).2]
  refine ⟨_, _, (key _ (.obj "Words" [] [])).1, by decide, ?_⟩
  exact q

theorem saying_of_ok {k : Nat} {kd : Kd} {ns : List Str} {x : Str} (h0 : ∀ x, x ∈ ns → x ∉ rsv) (hns : ns.length ≤ 1000) (hx : x.length + 2 ≤ sizeLine) (hz : ∀ w, w ∈ Txt.split x (Str.ofString " ") → w.length ≤ sizeLine) (hzl : (Txt.split x (Str.ofString " ")).length ≤ sizeLine) (H : HasRd P) (T : TopRd G) (hk : 11 ≤ k)
    (q : ∀ c, match rdSay ns (Txt.split x (Str.ofString " ")) with
      | .ok y _ => Q (.val y.d) (S ++ [c])
      | .no a => E ("BadText", some ("word", (a : Int))) (S ++ [c])) : w3F (runF P G (k + 1)) 710 [.str x, sqD kd (ns.map .str)] S Q E := by
  refine w3F_of H.h710 rfl ?_
  obtain ⟨k, rfl⟩ : ∃ j, k = j + 1 := ⟨k - 1, by omega⟩
  unfold p_saying_of_2
  walk_at "x"
  walk_at "w"
  walk_at "o"
  walk_at "w"
  refine ⟨⟨by decide +kernel, hx⟩, init_ok H.h580 ⟨rfl, ?_⟩⟩
  have hl : S.length < (S ++ [wdC (Txt.split x (Str.ofString " ")) (sqD kd (ns.map .str)) 0]).length := by simp
  have e0 : S ++ [wdC (Txt.split x (Str.ofString " ")) (sqD kd (ns.map .str)) 0] = At (S ++ [wdC (Txt.split x (Str.ofString " ")) (sqD kd (ns.map .str)) 0]) S.length (Txt.split x (Str.ofString " ")) (sqD kd (ns.map .str)) 0 := by unfold At; simp
  have e1 : ∀ a, At (S ++ [wdC (Txt.split x (Str.ofString " ")) (sqD kd (ns.map .str)) 0]) S.length (Txt.split x (Str.ofString " ")) (sqD kd (ns.map .str)) a = S ++ [wdC (Txt.split x (Str.ofString " ")) (sqD kd (ns.map .str)) a] := fun a => by unfold At; simp
  rw [e0]
  refine ⟨_, _, At.get hl, by decide +kernel, ?_⟩
  refine say_ok (ws := Txt.split x (Str.ofString " ")) hl h0 hns hz hzl H T (by omega) ?_
  unfold Goes
  cases e : rdSay ns (Txt.split x (Str.ofString " ")) with
  | ok y a =>
    have q := q (wdC (Txt.split x (Str.ofString " ")) (sqD kd (ns.map .str)) a)
    rw [e] at q
    dsimp only at q ⊢
    rw [e1]
    exact ⟨by cases y <;> rfl, q⟩
  | no a =>
    have q := q (wdC (Txt.split x (Str.ofString " ")) (sqD kd (ns.map .str)) a)
    rw [e] at q
    dsimp only at q ⊢
    rw [e1]
    exact q
end
end Mi.Lw
end
noncomputable section
namespace Mi.Lw
open PySem L2
theorem AL.up : ∀ {n m : Nat} {d : D}, n ≤ m → AL n d → AL m d
  | 0, m, d, _, h => by cases d <;> first | (cases m <;> trivial) | (unfold AL at h; exact h.elim)
  | n + 1, 0, d, hn, _ => by omega
  | n + 1, m + 1, d, hn, h => by
    cases d with
    | non => trivial
    | bl _ => trivial
    | int _ => trivial
    | str _ => trivial
    | tup ds => exact ⟨h.1, fun d hd => AL.up (by omega) (h.2 d hd)⟩
    | lst ds => exact ⟨h.1, fun d hd => AL.up (by omega) (h.2 d hd)⟩
    | scr _ => unfold AL at h; exact h.elim
    | ref _ => unfold AL at h; exact h.elim
    | dct _ _ => unfold AL at h; exact h.elim
end Mi.Lw
end
noncomputable section
namespace Mi.Lw
open PySem L2

local macro_rules | `(tactic| walk_at "sz") => `(tactic| (refine Nat.le_trans (m := 10000000) ?_ (show 10000000 ≤ 16777216 by decide); (try simp only [List.length_append, List.length_map, List.length_take, List.length_drop, List.length_cons, List.length_nil, List.length_zip, List.length_reverse, List.length_replicate, List.length_range, rngL_len]); omega))
local macro_rules | `(tactic| walk_at "x") => `(tactic| try simp only [w3Ss_cons, w3Ss_nil, w3S_asg, w3S_own, w3S_ret, w3S_expr, w3S_ite, w3S_for, w3S_rsx, wS_trx, w3S_app, w3S_aug, w3S_ext, w3S_frz, w3S_reto, w3S_setf, w3S_par, w3S_augf, wS_augf, w3E_call, w3E_meth, w3E_tup, w3E_bin, w3E_dgt, w3E_ite, w3Es_nil, w3Es_cons, w3E_var, w3E_bor, w3E_con, w3E_glb, w3E_neg, w3E_cmp, w3E_chn, w3E_lst, w3E_idx, w3E_slc, w3E_callp, w3E_callr, w3E_bi, w3E_comp, w3E_compl, w3E_new, w3E_dct, w3E_din, w3E_o1, w3E_o2, w3E_o3, w3E_gget, w3E_fld, w3E_make, w3E_isx1, w3E_isx, w3E_xf, w3E_not, w3E_and, w3E_or, wE_isx1, wE_isx, wE_xf, wE_gks, wI_gky, wI_chs, wE_tsl])

noncomputable def Fp (l : Nat) (S S' : Sto) : Prop := S.length ≤ S'.length ∧ ∀ j, j < S.length → j ≠ l → S'[j]? = S[j]?
theorem Fr.fp {l : Nat} {S S' : Sto} (f : Fr l S S') : Fp l S S' := ⟨by rw [f.1]; exact Nat.le_refl _, fun j _ h => f.2 j h⟩
theorem Fp.trans {l : Nat} {S S1 S2 : Sto} (a : Fp l S S1) (b : Fp l S1 S2) : Fp l S S2 := ⟨Nat.le_trans a.1 b.1, fun j h1 h2 => (b.2 j (Nat.lt_of_lt_of_le h1 a.1) h2).trans (a.2 j h1 h2)⟩
theorem Fp.ext (l : Nat) (S : Sto) (c : Cell) : Fp l S (S ++ [c]) := ⟨by rw [List.length_append]; omega, fun j h _ => List.getElem?_append_left h⟩
theorem Fp.refl (l : Nat) (S : Sto) : Fp l S S := ⟨Nat.le_refl _, fun _ _ _ => rfl⟩
theorem Bx.ltP {l B : Nat} {S : Sto} (h : Bx l B S) : l < S.length := by
  obtain ⟨a, b, c, e, _⟩ := h
  exact (List.getElem?_eq_some_iff.mp e).1
theorem Fp.rest {l n B : Nat} {S S' : Sto} (f : Fp l S S') (h : ∀ j, l ≤ j → j < n → Bx j B S) : ∀ j, l + 1 ≤ j → j < n → Bx j B S' := fun j h1 h2 => by
  have hb := h j (by omega) h2
  have hl := Bx.ltP hb
  obtain ⟨a, b, c, e, r⟩ := hb
  exact ⟨a, b, c, by rw [f.2 j hl (by omega)]; exact e, r⟩
theorem Fp.of {l : Nat} {S S' : Sto} (h : (∀ j, j < S.length → S'[j]? = S[j]?) ∧ S.length ≤ S'.length) : Fp l S S' := ⟨h.2, fun j hj _ => h.1 j hj⟩
theorem Bx.stP {l B : Nat} {S S' : Sto} (hb : Bx l B S) (h : (∀ j, j < S.length → S'[j]? = S[j]?) ∧ S.length ≤ S'.length) : Bx l B S' := by
  have hl := Bx.ltP hb
  obtain ⟨a, b, c, e, r⟩ := hb
  exact ⟨a, b, c, by rw [h.1 l hl]; exact e, r⟩

structure WdOk (xs : List Str) : Prop where
  ne : xs ≠ []
  w : ∀ x, x ∈ xs → 32 ∉ TL.tl x ∧ x.length ≤ 8
  few : xs.length ≤ 3000
theorem sp_len : (Str.ofString " ").length = 1 := by decide +kernel
theorem jn_len {xs : List Str} (h : ∀ x, x ∈ xs → 32 ∉ TL.tl x ∧ x.length ≤ 8) (hf : xs.length ≤ 3000) : (Txt.join " " xs).length ≤ 30000 := by
  rw [TL.join_eq]
  have h1 := StrLaws.join_length_le (Str.ofString " ") xs
  have h2 := sum_le (a := 0) fun x hx => (h x hx).2
  rw [sp_len] at h1
  have h5 : (xs.map fun y => y.length + 0).sum = (xs.map (·.length)).sum := rfl
  omega
theorem WdOk.spl {xs : List Str} (h : WdOk xs) : Txt.split (Txt.join " " xs) (Str.ofString " ") = xs := Mi.Lw.spl h.ne fun x hx => (h.w x hx).1
theorem p_joinw {G : List D} {S : Sto} {xs : List Str} (h : ∀ x, x ∈ xs → 32 ∉ TL.tl x ∧ x.length ≤ 8) (hf : xs.length ≤ 3000) : P2.run G S .join (.val (.str (Str.ofString " "))) (.own (xs.map .str)) = some (.val (.str (Txt.join " " xs)), S) := by
  refine p_joino (Nat.le_trans (sum_le (n := 8) fun x hx => (h x hx).2) ?_)
  rw [sp_len]; omega
theorem syw_few {nm : List Str} {m : Nat} {y : Sy} (hy : y.ok m) : (syw nm y).length ≤ 2000 := by
  have t1 := tw2_few (ns := nm) (t := y.s) hy.1.2
  have t2 := tw2_few (ns := nm) (t := y.p) hy.2.1.2
  rw [syw_eq, List.length_append]
  cases y with
  | pl w s p => cases w <;> (simp only [tagOf, tagHd, Pw.hd, restW, List.length_append, List.length_cons, List.length_nil]; simp only [Sy.s, Sy.p] at t1 t2; omega)
  | ct w v s p => cases w <;> (simp only [tagOf, tagHd, Cw.hd, restW, List.length_append, List.length_cons, List.length_nil]; simp only [Sy.s, Sy.p] at t1 t2; omega)
  | sh w t b s p => cases w <;> (simp only [tagOf, tagHd, Sw.hd, restW, List.length_append, List.length_cons, List.length_nil]; simp only [Sy.s, Sy.p] at t1 t2; omega)
theorem syw_wd {nm : List Str} (hn : NmOk nm) {m : Nat} {y : Sy} (hm : nm.length = m) (hy : y.ok m) : WdOk (syw nm y) := ⟨syw_ne nm y, syw_all hn hm hy, Nat.le_trans (syw_few hy) (by decide)⟩

section
variable {P : Nat → Option FD} {G : List D} {S : Sto} {Q : Rt → Sto → Prop} {E : Exn → Sto → Prop}
theorem reads_ok {k : Nat} {kd : Kd} {nm : List Str} {xs : List Str} (hn : NmOk nm) (hl : nm.length ≤ 4) (hx : WdOk xs) (H : HasRd P) (T : TopRd G) (hk : 11 ≤ k)
    (q : ∀ c, match rdSay nm xs with
      | .ok y _ => Q (.val y.d) (S ++ [c])
      | .no a => E ("BadText", some ("word", (a : Int))) (S ++ [c])) : w3F (runF P G (k + 1)) 710 [.str (Txt.join " " xs), sqD kd (nm.map .str)] S Q E := by
  refine saying_of_ok hn.rs (by omega) (Nat.le_trans (Nat.add_le_add_right (jn_len hx.w hx.few) 2) (by decide)) ?_ ?_ H T hk ?_
  · rw [hx.spl]
    exact fun w hw => Nat.le_trans (hx.w w hw).2 (by decide)
  · rw [hx.spl]
    exact Nat.le_trans hx.few (by decide)
  · rw [hx.spl]
    exact q

theorem says_ok {k : Nat} {kd : Kd} {nm : List Str} {y : Sy} {m : Nat} (hn : NmOk nm) (hm : nm.length = m) (hm4 : m ≤ 4) (hy : y.ok m) (H : HasRd P) (T : TopRd G) (hk : 11 ≤ k) (q : ∀ c, Q (.val y.d) (S ++ [c])) :
    wF (runF P G (k + 1)) 710 [.str (stx nm y), sqD kd (nm.map .str)] S Q := by
  refine wF_3 (reads_ok hn (by omega) (syw_wd hn hm hy) H T hk fun c => ?_)
  rw [rdSay_ok hn hm hy]
  exact q c
theorem num121_ok {k : Nat} {n : Int} (hP : P 121 = some l_is_number_1) (q : Q (.val (.bl true)) S) : wF (runF P G (k + 1)) 121 [.int n] S Q := by
  refine wF_of hP rfl ?_
  unfold l_is_number_1
  walk_at "w"
  exact q
theorem refused_ok {k : Nat} {kd : Kd} {nm : List Str} {xs : List Str} (hn : NmOk nm) (hl : nm.length ≤ 4) (hx : WdOk xs) (H : HasRd P) (T : TopRd G) (h121 : P 121 = some l_is_number_1) (hP : P 711 = some l_refused_at_1) (hk : 12 ≤ k)
    (q : ∀ S', (∀ j, j < S.length → S'[j]? = S[j]?) ∧ S.length ≤ S'.length → match rdSay nm xs with
      | .ok y _ => Q (.val .non) S'
      | .no a => Q (.val (.int a)) S') : wF (runF P G (k + 1)) 711 [.str (Txt.join " " xs), sqD kd (nm.map .str)] S Q := by
  refine wF_of hP rfl ?_
  obtain ⟨k, rfl⟩ : ∃ j, k = j + 1 := ⟨k - 1, by omega⟩
  unfold l_refused_at_1
  walk_at "w"
  walk_at "x"
  walk_at "w"
  refine reads_ok hn hl hx H T (by omega) fun c => ?_
  cases e : rdSay nm xs with
  | ok y a =>
    rw [e] at q
    dsimp only at q ⊢
    walk_at "w"
    exact q _ ⟨fun j hj => List.getElem?_append_left hj, by simp⟩
  | no a =>
    rw [e] at q
    dsimp only at q ⊢
    walk_at "w"
    have hc : (S ++ [c] ++ [Cell.err "BadText" (some ("word", (a : Int)))])[(S ++ [c]).length]? = some (Cell.err "BadText" (some ("word", (a : Int)))) := List.getElem?_concat_length
    refine ⟨subX_say, _, _, hc, ?_⟩
    rw [if_neg (by decide)]
    refine ⟨_, _, hc, ?_⟩
    rw [if_neg (by decide)]
    refine ⟨_, _, hc, num121_ok h121 ⟨_, rfl, ?_⟩⟩
    rw [if_pos rfl]
    refine ⟨_, _, hc, ?_⟩
    rw [if_pos (by decide)]
    exact ⟨_, _, hc, q _ ⟨fun j hj => by rw [List.append_assoc]; exact List.getElem?_append_left hj, by simp⟩⟩
end
end Mi.Lw
end
noncomputable section
namespace Mi.Lw
open PySem L2
theorem rdNum_no {lo hi : Nat} {ws r : List Str} {xs : List Str} {n a : Nat} (h : Ahd ws (nS n :: xs) r a) (h2 : n < 100) (bad : ¬ (lo ≤ n ∧ n ≤ hi)) : rdNum lo hi ws a = .no a := by
  unfold rdNum
  rw [h.nx, numW_nS n (List.mem_range.mpr h2)]
  dsimp only
  rw [if_neg bad]
theorem ahd0 {xs r : List Str} : Ahd (xs ++ r) xs r 0 := ⟨rfl⟩
theorem count_no {nm : List Str} {w : Cw} {n : Nat} {r : List Str} (h0 : 41 < n) (h : n < 100) : rdSay nm (Cw.hd w ++ nS n :: r) = .no (Cw.hd w).length := by
  have a0 : Ahd (Cw.hd w ++ nS n :: r) (tagHd (.c w)) (nS n :: r) 0 := ahd0
  have a1 : Ahd (Cw.hd w ++ nS n :: r) (nS n :: r) [] (0 + (tagHd (.c w)).length) := ⟨by rw [Nat.zero_add, List.append_nil]; exact List.drop_left⟩
  unfold rdSay rdBody
  rw [rdForm_ok a0]
  show PR.then (PR.then (PR.then (rdNum 0 41 _ _) _) _) _ = _
  rw [rdNum_no a1 h (by omega), Nat.zero_add]
  rfl
theorem share_no {nm : List Str} {w : Sw} {t b : Nat} {r : List Str} (ht : t < 100) (hb : b < 100) : (12 < t → rdSay nm (Sw.hd w ++ nS t :: "of" :: nS b :: r) = .no (Sw.hd w).length) ∧ (t ≤ 12 → (b = 0 ∨ 12 < b ∨ b < t) → rdSay nm (Sw.hd w ++ nS t :: "of" :: nS b :: r) = .no ((Sw.hd w).length + 2)) := by
  have a0 : Ahd (Sw.hd w ++ nS t :: "of" :: nS b :: r) (tagHd (.s w)) (nS t :: "of" :: nS b :: r) 0 := ahd0
  have a1 : Ahd (Sw.hd w ++ nS t :: "of" :: nS b :: r) (nS t :: "of" :: nS b :: r) [] (0 + (tagHd (.s w)).length) := ⟨by rw [Nat.zero_add, List.append_nil]; exact List.drop_left⟩
  refine ⟨fun h => ?_, fun h h2 => ?_⟩
  · unfold rdSay rdBody
    rw [rdForm_ok a0]
    show PR.then (PR.then (PR.then (rdNum 0 12 _ _) _) _) _ = _
    rw [rdNum_no a1 ht (by omega), Nat.zero_add]
    rfl
  · unfold rdSay rdBody
    rw [rdForm_ok a0]
    show PR.then (PR.then (PR.then (rdNum 0 12 _ _) _) _) _ = _
    rw [rdNum_ok a1 (by omega) (by omega) (by omega)]
    show PR.then (PR.then (PR.then (rdWd _ _ _) _) _) _ = _
    rw [rdWd_ok a1.tl List.mem_cons_self]
    show PR.then (PR.then (PR.then (rdNum (max 1 t) 12 _ _) _) _) _ = _
    rw [rdNum_no a1.tl.tl hb (by omega), Nat.zero_add]
    rfl

noncomputable def oB (nm : List Str) (p : Nat × Nat) : List Str := if p.1 = 0 then ["not"] else if p.1 = 1 then ["("] else ["(", nm.getD p.2 "", "or"]
noncomputable def oE (nm : List Str) (p : Nat × Nat) : List Str := if p.1 = 0 then [] else if p.1 = 1 then ["and", nm.getD p.2 "", ")"] else [")"]
noncomputable def oT : List (Nat × Nat) → Tm
  | [] => .any
  | p :: us => if p.1 = 0 then .not (oT us) else if p.1 = 1 then .and (oT us) (.is p.2) else .or (.is p.2) (oT us)
noncomputable def oBs (nm : List Str) (us : List (Nat × Nat)) : List Str := (us.map (oB nm)).flatten
noncomputable def oEs (nm : List Str) (us : List (Nat × Nat)) : List Str := ((us.map (oE nm)).reverse).flatten
noncomputable def oP (nm : List Str) (us : List (Nat × Nat)) (j : Nat) : Nat := (oBs nm (us.take j)).length
theorem oBs_cons {nm : List Str} {p : Nat × Nat} {us : List (Nat × Nat)} : oBs nm (p :: us) = oB nm p ++ oBs nm us := rfl
theorem oEs_cons {nm : List Str} {p : Nat × Nat} {us : List (Nat × Nat)} : oEs nm (p :: us) = oEs nm us ++ oE nm p := by
  unfold oEs
  rw [List.map_cons, List.reverse_cons, List.flatten_append, List.flatten_cons, List.flatten_nil, List.append_nil]
theorem oBs_snoc {nm : List Str} {p : Nat × Nat} {us : List (Nat × Nat)} : oBs nm (us ++ [p]) = oBs nm us ++ oB nm p := by
  unfold oBs
  rw [List.map_append, List.flatten_append, List.map_cons, List.map_nil, List.flatten_cons, List.flatten_nil, List.append_nil]
theorem oEs_snoc {nm : List Str} {p : Nat × Nat} {us : List (Nat × Nat)} : oEs nm (us ++ [p]) = oE nm p ++ oEs nm us := by
  unfold oEs
  rw [List.map_append, List.reverse_append]
  rfl
theorem tw2_oT {nm : List Str} : ∀ us : List (Nat × Nat), tw2 nm (oT us) = oBs nm us ++ ("things" : Str) :: oEs nm us
  | [] => rfl
  | p :: us => by
    have ih := tw2_oT (nm := nm) us
    rw [oBs_cons, oEs_cons]
    unfold oT oB oE
    by_cases h0 : p.1 = 0
    · simp only [if_pos h0, tw2, ih, List.cons_append, List.nil_append, List.append_nil]
    · by_cases h1 : p.1 = 1
      · simp only [if_neg h0, if_pos h1, tw2, ih, List.cons_append, List.nil_append, List.append_assoc]
      · simp only [if_neg h0, if_neg h1, tw2, ih, List.cons_append, List.nil_append, List.append_assoc]
theorem oT_deep : ∀ us : List (Nat × Nat), (oT us).deep = us.length + 1
  | [] => rfl
  | p :: us => by
    have ih := oT_deep us
    unfold oT
    by_cases h0 : p.1 = 0
    · simp only [if_pos h0, Tm.deep, ih, List.length_cons]
    · by_cases h1 : p.1 = 1
      · simp only [if_neg h0, if_pos h1, Tm.deep, ih, List.length_cons]; omega
      · simp only [if_neg h0, if_neg h1, Tm.deep, ih, List.length_cons]; omega
theorem oT_ok {m : Nat} : ∀ {us : List (Nat × Nat)}, (∀ p, p ∈ us → p.2 < m) → (oT us).ok m
  | [], _ => trivial
  | p :: us, h => by
    have ih := oT_ok fun q hq => h q (List.mem_cons_of_mem _ hq)
    have hp := h p List.mem_cons_self
    unfold oT
    by_cases h0 : p.1 = 0
    · simp only [if_pos h0]; exact ih
    · by_cases h1 : p.1 = 1
      · simp only [if_neg h0, if_pos h1]; exact ⟨ih, hp⟩
      · simp only [if_neg h0, if_neg h1]; exact ⟨hp, ih⟩

theorem rdTm_deep {nm : List Str} (hn : NmOk nm) {ws : List Str} : ∀ (n : Nat) (us : List (Nat × Nat)) (r : List Str) (a : Nat), n < us.length → (∀ p, p ∈ us → p.2 < nm.length) → Ahd ws (tw2 nm (oT us)) r a → rdTm nm n ws a = .no (a + oP nm us n)
  | 0, p :: us, r, a, _, _, h => by
    have hz : oP nm (p :: us) 0 = 0 := rfl
    have h1 : ¬ (("(" : Str) ∈ nm) := fun m => hn.rs _ m (by simp [rsv])
    have h2 : ¬ (("not" : Str) ∈ nm) := fun m => hn.rs _ m (by simp [rsv])
    rw [hz, rdTm_z]
    unfold oT at h
    by_cases h0 : p.1 = 0
    · simp only [if_pos h0, tw2] at h
      rw [h.nx, if_neg nt1, if_neg h2]; rfl
    · by_cases h3 : p.1 = 1
      · simp only [if_neg h0, if_pos h3, tw2] at h
        rw [h.nx, if_neg nt2, if_neg h1]; rfl
      · simp only [if_neg h0, if_neg h3, tw2] at h
        rw [h.nx, if_neg nt2, if_neg h1]; rfl
  | 0, [], _, _, h, _, _ => absurd h (Nat.lt_irrefl 0)
  | n + 1, [], _, _, h, _, _ => absurd h (Nat.not_lt_zero _)
  | n + 1, p :: us, r, a, hl, hp, h => by
    have h1 : ¬ (("(" : Str) ∈ nm) := fun m => hn.rs _ m (by simp [rsv])
    have h2 : ¬ (("not" : Str) ∈ nm) := fun m => hn.rs _ m (by simp [rsv])
    have ih := fun r a => rdTm_deep hn (ws := ws) n us r a (by simp at hl; omega) (fun q hq => hp q (List.mem_cons_of_mem _ hq))
    have hpp := hp p List.mem_cons_self
    have e : oP nm (p :: us) (n + 1) = (oB nm p).length + oP nm us n := by
      unfold oP
      rw [List.take_succ_cons, oBs_cons, List.length_append]
    rw [e, rdTm_s]
    unfold oT at h
    unfold oB
    by_cases h0 : p.1 = 0
    · simp only [if_pos h0, tw2] at h ⊢
      rw [h.nx, if_neg nt1, if_neg h2, if_pos rfl, ih _ _ h.tl]
      show PR.no _ = PR.no _
      congr 1
      simp only [List.length_cons, List.length_nil]
      omega
    · by_cases h3 : p.1 = 1
      · simp only [if_neg h0, if_pos h3, tw2] at h ⊢
        rw [h.nx, if_neg nt2, if_neg h1, if_neg nt3, if_pos rfl, ih _ _ h.tl.app]
        show PR.no _ = PR.no _
        congr 1
        simp only [List.length_cons, List.length_nil]
        omega
      · simp only [if_neg h0, if_neg h3, tw2] at h ⊢
        have g1 : Ahd ws (tw2 nm (.is p.2) ++ ("or" : Str) :: (tw2 nm (oT us) ++ [(")" : Str)])) r (a + 1) := h.tl
        have g2 := g1.rst
        rw [h.nx, if_neg nt2, if_neg h1, if_neg nt3, if_pos rfl, rdTm_ok hn n (.is p.2) _ (a + 1) (by simp only [Tm.deep]; omega) hpp g1.app]
        show PR.then (rdWd _ ws _) _ = _
        rw [rdWd_ok g2 nt7]
        show PR.then (rdTm nm n ws _) _ = _
        rw [ih _ _ g2.tl.app]
        show PR.no _ = PR.no _
        congr 1
        simp only [tw2, List.length_cons, List.length_nil]
        omega
noncomputable def hdD (nm : List Str) (f : Nat) : List Str := if f = 0 then ["all"] else ["all", nm.getD 0 "", "are"]
noncomputable def tlD (nm : List Str) (f : Nat) : List Str := if f = 0 then ["are", nm.getD 0 ""] else []
theorem depth_no {nm : List Str} (hn : NmOk nm) (h0 : 0 < nm.length) {us : List (Nat × Nat)} {f : Nat} (hl : 7 < us.length) (hu : ∀ p, p ∈ us → p.2 < nm.length) : rdSay nm (hdD nm f ++ tw2 nm (oT us) ++ tlD nm f) = .no ((hdD nm f).length + oP nm us 7) := by
  unfold hdD tlD
  by_cases hf : f = 0
  · simp only [if_pos hf]
    have a0 : Ahd (([("all" : Str)]) ++ tw2 nm (oT us) ++ ([("are" : Str), nm.getD 0 ""])) (tagHd (.p .all)) (tw2 nm (oT us) ++ ([("are" : Str), nm.getD 0 ""])) 0 := ⟨by rw [List.append_assoc]; rfl⟩
    have a1 : Ahd (([("all" : Str)]) ++ tw2 nm (oT us) ++ ([("are" : Str), nm.getD 0 ""])) (tw2 nm (oT us)) ([("are" : Str), nm.getD 0 ""]) 1 := ⟨by rw [List.append_assoc]; rfl⟩
    unfold rdSay rdBody
    rw [rdForm_ok a0]
    show PR.then (PR.then (rdTm nm 7 _ 1) _) _ = _
    rw [rdTm_deep hn 7 us _ _ hl hu a1]
    rfl
  · simp only [if_neg hf]
    have a0 : Ahd (([("all" : Str), nm.getD 0 "", ("are" : Str)]) ++ tw2 nm (oT us) ++ []) (tagHd (.p .all)) (([nm.getD 0 "", ("are" : Str)]) ++ tw2 nm (oT us)) 0 := ⟨by rw [List.append_nil]; rfl⟩
    have a1 : Ahd (([("all" : Str), nm.getD 0 "", ("are" : Str)]) ++ tw2 nm (oT us) ++ []) (tw2 nm (.is 0)) (("are" : Str) :: tw2 nm (oT us)) 1 := ⟨by rw [List.append_nil]; rfl⟩
    have a2 : Ahd (([("all" : Str), nm.getD 0 "", ("are" : Str)]) ++ tw2 nm (oT us) ++ []) [("are" : Str)] (tw2 nm (oT us)) 2 := ⟨by rw [List.append_nil]; rfl⟩
    have a3 : Ahd (([("all" : Str), nm.getD 0 "", ("are" : Str)]) ++ tw2 nm (oT us) ++ []) (tw2 nm (oT us)) [] 3 := ⟨by rw [List.append_nil, List.append_nil]; rfl⟩
    unfold rdSay rdBody
    rw [rdForm_ok a0]
    show PR.then (PR.then (rdTm nm 7 _ 1) _) _ = _
    rw [rdTm_ok hn 7 (.is 0) _ 1 (by decide) h0 a1, show (1 + (tw2 nm (Tm.is 0)).length) = 2 from rfl, PR.ok_then]
    rw [show tagB (Tag.p Pw.all) = ("are" : Str) from rfl, rdWd_ok a2 List.mem_cons_self, PR.ok_then]
    rw [rdTm_deep hn 7 us _ _ hl hu a3]
    rfl
noncomputable def depY (f : Nat) (us : List (Nat × Nat)) : Sy := if f = 0 then .pl .all (oT us) (.is 0) else .pl .all (.is 0) (oT us)
theorem depY_ok {m : Nat} {f : Nat} {us : List (Nat × Nat)} (h0 : 0 < m) (hl : us.length ≤ 7) (hu : ∀ p, p ∈ us → p.2 < m) : (depY f us).ok m := by
  have d := oT_deep us
  have k := oT_ok hu
  unfold depY
  by_cases hf : f = 0
  · rw [if_pos hf]; exact ⟨⟨k, show (oT us).deep ≤ 8 by omega⟩, ⟨h0, show (1 : Nat) ≤ 8 by decide⟩, trivial⟩
  · rw [if_neg hf]; exact ⟨⟨h0, show (1 : Nat) ≤ 8 by decide⟩, ⟨k, show (oT us).deep ≤ 8 by omega⟩, trivial⟩
theorem depY_w {nm : List Str} {f : Nat} {us : List (Nat × Nat)} : syw nm (depY f us) = hdD nm f ++ tw2 nm (oT us) ++ tlD nm f := by
  unfold depY hdD tlD
  by_cases hf : f = 0
  · simp only [if_pos hf, syw_eq, tagOf, tagHd, Pw.hd, restW, Pw.bt, tw2, List.append_assoc, List.cons_append, List.nil_append]
  · simp only [if_neg hf, syw_eq, tagOf, tagHd, Pw.hd, restW, Pw.bt, tw2, List.append_assoc, List.cons_append, List.nil_append, List.append_nil]
end Mi.Lw
end
noncomputable section
namespace Mi.Lw
open PySem L2

local macro_rules | `(tactic| walk_at "sz") => `(tactic| (refine Nat.le_trans (m := 10000000) ?_ (show 10000000 ≤ 16777216 by decide); (try simp only [List.length_append, List.length_map, List.length_take, List.length_drop, List.length_cons, List.length_nil, List.length_zip, List.length_reverse, List.length_replicate, List.length_range, rngL_len]); omega))
structure Has (P : Nat → Option FD) : Prop where
  h3 : P 3 = some l_box
  h4 : P 4 = some l_take
  h5 : P 5 = some l_folded
  h33 : P 33 = some l_boxes
  h87 : P 87 = some l_names
  h121 : P 121 = some l_is_number_1
  h601 : P 601 = some l_opened
  h711 : P 711 = some l_refused_at_1
  h713 : P 713 = some l_numbers_right_1
  h714 : P 714 = some l_shares_right_1
  h715 : P 715 = some l_depth_right_1
  h716 : P 716 = some p_law_79
  rd : HasRd P
theorem topRd : TopRd GG := ⟨rfl, rfl, rfl, rfl, rfl, rfl, rfl, rfl⟩
theorem nS_wd : ∀ k, k ∈ List.range 45 → 32 ∉ TL.tl (nS (k : Nat)) ∧ (nS (k : Nat)).length ≤ 8 := by decide +kernel
theorem r_wd : ∀ x, x ∈ (["are", "of", "all", "things", "and", "or", "not", "(", ")"] : List Str) → 32 ∉ TL.tl x ∧ x.length ≤ 8 := by decide +kernel
noncomputable def restN (nm : List Str) : List Str := [nm.getD 0 "", "are", nm.getD (nm.length - 1) ""]
theorem nm_wd {nm : List Str} (hn : NmOk nm) {k : Nat} (h : k < nm.length) : 32 ∉ TL.tl (nm.getD k "") ∧ (nm.getD k "").length ≤ 8 := ⟨hn.sp _ (nm_mem h), hn.sz _ (nm_mem h)⟩
theorem restN_wd {nm : List Str} (hn : NmOk nm) (h : 0 < nm.length) : ∀ x, x ∈ restN nm → 32 ∉ TL.tl x ∧ x.length ≤ 8 := fun x hx => by
  simp only [restN, List.mem_cons, List.not_mem_nil, or_false] at hx
  rcases hx with rfl | rfl | rfl
  · exact nm_wd hn h
  · exact r_wd _ (by simp)
  · exact nm_wd hn (by omega)
theorem bi_strN {S : Sto} {n : Nat} (h1 : n ≤ 100) : biop S .str [.val (.int n)] = some (.val (.str (nS n))) := bi_strv (Sh.int (by omega) (by omega)) rfl (by decide) (by decide)
theorem form_sh {x : Str} {ds : List D} (h1 : PyData.strOk x = true) (h2 : x.cps.size ≤ 8 ∧ ds.length ≤ 2) (h : ∀ d, d ∈ ds → ∃ n : Nat, d = .int n ∧ n ≤ 100) : Sh 1 30 (.tup (.str x :: ds)) := by
  refine (Sh.tup (n := 0) (w := 8) fun d hd => ?_).mono (Nat.le_refl _) (by simp only [List.length_cons]; omega)
  rcases List.mem_cons.mp hd with rfl | hd
  · exact (Sh.str h1).mono (Nat.le_refl _) h2.1
  · obtain ⟨n, rfl, hn⟩ := h d hd
    exact (Sh.int (by omega) (by omega)).mono (Nat.le_refl _) (Nat.zero_le _)
noncomputable def Gq (S S' : Sto) : Prop := (∀ j, j < S.length → S'[j]? = S[j]?) ∧ S.length ≤ S'.length
theorem Gq.refl (S : Sto) : Gq S S := ⟨fun _ _ => rfl, Nat.le_refl _⟩
theorem Gq.trans {S S1 S2 : Sto} (a : Gq S S1) (b : Gq S1 S2) : Gq S S2 := ⟨fun j hj => (b.1 j (Nat.lt_of_lt_of_le hj a.2)).trans (a.1 j hj), Nat.le_trans a.2 b.2⟩
theorem Gq.ext (S : Sto) (c : Cell) : Gq S (S ++ [c]) := ⟨fun j hj => List.getElem?_append_left hj, by simp⟩
section
variable {P : Nat → Option FD} {S : Sto} {Q : Rt → Sto → Prop}
theorem refusedX_ok (H : Has P) {nm : List Str} {xs : List Str} (hn : NmOk nm) (hl : nm.length ≤ 4) (hx : WdOk xs) {k : Nat} (hk : 30 ≤ k)
    (q : ∀ S', (∀ j, j < S.length → S'[j]? = S[j]?) ∧ S.length ≤ S'.length → match rdSay nm xs with
      | .ok y _ => Q (.val .non) S'
      | .no a => Q (.val (.int a)) S') : wF (runF P GG k) 711 [.str (Txt.join " " xs), .lst (nm.map .str)] S Q := by
  obtain ⟨k, rfl⟩ : ∃ j, k = j + 1 := ⟨k - 1, by omega⟩
  exact refused_ok (kd := .l) hn hl hx H.rd topRd H.h121 H.h711 (by omega) q
theorem numbers_ok (H : Has P) {nm : List Str} {w : Cw} (hn : NmOk nm) (hl : nm.length ≤ 4) (h0 : 0 < nm.length) (q : ∀ S', (∀ j, j < S.length → S'[j]? = S[j]?) ∧ S.length ≤ S'.length → Q (.val (.bl true)) S') :
    wF (runF P GG 39) 713 [.lst ((Cw.hd w).map .str), .str w.str, .lst ((restN nm).map .str), .lst (nm.map .str)] S Q := by
  refine wF_of H.h713 rfl ?_
  unfold l_numbers_right_1
  walk_at "w"
  have hw2 : (Cw.hd w).length ≤ 2 := by cases w <;> decide
  have hr := restN_wd hn h0
  have hrl : (restN nm).length = 3 := rfl
  refine wFor_inv (fun j ρ S' => ∃ x5 x6, ρ = [.val (.lst ((Cw.hd w).map .str)), .val (.str w.str), .val (.lst ((restN nm).map .str)), .val (.lst (nm.map .str)), .val (.int (Cw.hd w).length), x5, x6] ∧ Gq S S') ⟨_, _, rfl, Gq.refl S⟩ (fun j d ρ S1 hd hI => ?_) fun ρ S1 hI => ?_
  · obtain ⟨x5, x6, rfl, g1⟩ := hI
    obtain ⟨hj, rfl⟩ := rng_get hd
    have hj : j < 45 := hj
    walk_at "w"
    refine ⟨_, bi_strN (by omega), _, rfl, ?_⟩
    walk_at "w"
    have e0 : (Cw.hd w).map D.str ++ [D.str (nS j)] ++ (restN nm).map D.str = (Cw.hd w ++ nS j :: restN nm).map D.str := by rw [List.map_append, List.append_assoc]; rfl
    have wd : WdOk (Cw.hd w ++ nS j :: restN nm) := by
      refine ⟨by simp, fun x hx => ?_, by rw [List.length_append, List.length_cons, hrl]; omega⟩
      rcases List.mem_append.mp hx with h | h
      · exact hdAll_sp x (Cw.hd_in w x h)
      · rcases List.mem_cons.mp h with rfl | h
        · exact nS_wd j (List.mem_range.mpr hj)
        · exact hr x h
    refine ⟨Nat.le_trans (Nat.add_le_add_right hw2 1) (by decide), by rw [List.length_append, List.length_map, hrl]; exact Nat.le_trans (Nat.add_le_add_right (Nat.add_le_add_right hw2 1) 3) (by decide), ?_⟩
    rw [e0]
    refine ⟨_, _, p_joinw wd.w wd.few, _, rfl, ?_⟩
    by_cases h41 : 41 < j
    · rw [if_pos (by omega)]
      refine refusedX_ok H hn hl wd (by decide) fun S2 g2 => ?_
      rw [count_no h41 (by omega)]
      dsimp only
      walk_at "w"
      exact ⟨_, _, rfl, Gq.trans g1 g2⟩
    · rw [if_neg (by omega)]
      have ey : syw nm (.ct w j (.is 0) (.is (nm.length - 1))) = Cw.hd w ++ nS j :: restN nm := by rw [syw_eq]; rfl
      rw [← ey]
      have hy : (Sy.ct w j (.is 0) (.is (nm.length - 1))).ok nm.length := ⟨⟨h0, show (1 : Nat) ≤ 8 by decide⟩, ⟨show nm.length - 1 < nm.length by omega, show (1 : Nat) ≤ 8 by decide⟩, show (0 : Int) ≤ j ∧ (j : Int) ≤ 41 by omega⟩
      refine says_ok (k := 37) (kd := .l) hn rfl hl hy H.rd topRd (by decide) fun c => ?_
      refine ⟨_, rfl, ?_⟩
      rw [show cutD [D.str w.str, D.int j, (Tm.is 0).d, (Tm.is (nm.length - 1)).d] none (some 2) = [D.str w.str, D.int j] from rfl]
      have sh : Sh 1 30 (.tup [D.str w.str, D.int j]) := form_sh (by cases w <;> decide +kernel) ⟨by cases w <;> decide +kernel, by simp⟩ fun d hd => ⟨j, by simpa using hd, by omega⟩
      refine ⟨_, cmp_selfn sh (by decide), ?_⟩
      rw [if_neg (by decide)]
      exact ⟨_, _, rfl, Gq.trans g1 (Gq.ext _ _)⟩
  · obtain ⟨x5, x6, rfl, g1⟩ := hI
    walk_at "w"
    exact q _ g1
theorem shares_ok (H : Has P) {nm : List Str} {w : Sw} (hn : NmOk nm) (hl : nm.length ≤ 4) (h0 : 0 < nm.length) (q : ∀ S', (∀ j, j < S.length → S'[j]? = S[j]?) ∧ S.length ≤ S'.length → Q (.val (.bl true)) S') :
    wF (runF P GG 39) 714 [.lst ((Sw.hd w).map .str), .str w.str, .lst ((restN nm).map .str), .lst (nm.map .str)] S Q := by
  refine wF_of H.h714 rfl ?_
  unfold l_shares_right_1
  walk_at "w"
  have hw2 : (Sw.hd w).length ≤ 2 := by cases w <;> decide
  have hr := restN_wd hn h0
  have hrl : (restN nm).length = 3 := rfl
  refine wFor_inv (fun j ρ S' => ∃ x5 x6 x7 x8, ρ = [.val (.lst ((Sw.hd w).map .str)), .val (.str w.str), .val (.lst ((restN nm).map .str)), .val (.lst (nm.map .str)), .val (.int (Sw.hd w).length), x5, x6, x7, x8] ∧ Gq S S') ⟨_, _, _, _, rfl, Gq.refl S⟩ (fun t d ρ S1 hd hI => ?_) fun ρ S1 hI => ?_
  · obtain ⟨x5, x6, x7, x8, rfl, g1⟩ := hI
    obtain ⟨ht, rfl⟩ := rng_get hd
    have ht : t < 15 := ht
    walk_at "w"
    refine wFor_inv (fun j ρ S' => ∃ x6 x7 x8, ρ = [.val (.lst ((Sw.hd w).map .str)), .val (.str w.str), .val (.lst ((restN nm).map .str)), .val (.lst (nm.map .str)), .val (.int (Sw.hd w).length), .val (.int t), x6, x7, x8] ∧ Gq S S') ⟨_, _, _, rfl, g1⟩ (fun b d ρ S2 hd hI => ?_) fun ρ S2 hI => ?_
    · obtain ⟨x6, x7, x8, rfl, g2⟩ := hI
      obtain ⟨hb, rfl⟩ := rng_get hd
      have hb : b < 15 := hb
      walk_at "w"
      refine ⟨_, bi_strN (by omega), _, rfl, _, bi_strN (by omega), _, rfl, ?_⟩
      walk_at "w"
      have e0 : (Sw.hd w).map D.str ++ [D.str (nS t), D.str (Str.ofString "of"), D.str (nS b)] ++ (restN nm).map D.str = (Sw.hd w ++ nS t :: "of" :: nS b :: restN nm).map D.str := by rw [List.map_append, List.append_assoc]; rfl
      have wd : WdOk (Sw.hd w ++ nS t :: "of" :: nS b :: restN nm) := by
        refine ⟨by simp, fun x hx => ?_, by simp only [List.length_append, List.length_cons, hrl]; omega⟩
        rcases List.mem_append.mp hx with h | h
        · exact hdAll_sp x (Sw.hd_in w x h)
        · rcases List.mem_cons.mp h with rfl | h
          · exact nS_wd t (List.mem_range.mpr (by omega))
          · rcases List.mem_cons.mp h with rfl | h
            · exact r_wd _ (by simp)
            · rcases List.mem_cons.mp h with rfl | h
              · exact nS_wd b (List.mem_range.mpr (by omega))
              · exact hr x h
      obtain ⟨n1, n2⟩ := share_no (nm := nm) (w := w) (r := restN nm) (t := t) (b := b) (by omega) (by omega)
      refine ⟨Nat.le_trans (Nat.add_le_add_right hw2 3) (by decide), by rw [List.length_append, List.length_map, hrl]; exact Nat.le_trans (Nat.add_le_add_right (Nat.add_le_add_right hw2 3) 3) (by decide), ?_⟩
      rw [e0]
      refine ⟨_, _, p_joinw wd.w wd.few, _, rfl, ?_⟩
      by_cases h12 : 12 < t
      · rw [if_pos (by omega)]
        refine refusedX_ok H hn hl wd (by decide) fun S3 g3 => ?_
        rw [n1 h12]
        dsimp only
        walk_at "w"
        exact ⟨_, _, _, rfl, Gq.trans g2 g3⟩
      · rw [if_neg (by omega)]
        by_cases b1 : b = 0
        · rw [if_pos (by omega)]
          refine refusedX_ok H hn hl wd (by decide) fun S3 g3 => ?_
          rw [n2 (by omega) (.inl b1)]
          dsimp only
          rw [show (((Sw.hd w).length + 2 : Nat) : Int) = ((Sw.hd w).length : Int) + 2 by omega]
          walk_at "w"
          exact ⟨_, _, _, rfl, Gq.trans g2 g3⟩
        rw [if_neg (by omega)]
        by_cases b2 : 12 < b
        · rw [if_pos (by omega)]
          refine refusedX_ok H hn hl wd (by decide) fun S3 g3 => ?_
          rw [n2 (by omega) (.inr (.inl b2))]
          dsimp only
          rw [show (((Sw.hd w).length + 2 : Nat) : Int) = ((Sw.hd w).length : Int) + 2 by omega]
          walk_at "w"
          exact ⟨_, _, _, rfl, Gq.trans g2 g3⟩
        rw [if_neg (by omega)]
        by_cases b3 : b < t
        · rw [if_pos (by omega)]
          refine refusedX_ok H hn hl wd (by decide) fun S3 g3 => ?_
          rw [n2 (by omega) (.inr (.inr b3))]
          dsimp only
          rw [show (((Sw.hd w).length + 2 : Nat) : Int) = ((Sw.hd w).length : Int) + 2 by omega]
          walk_at "w"
          exact ⟨_, _, _, rfl, Gq.trans g2 g3⟩
        rw [if_neg (by omega)]
        have hy : (Sy.sh w t b (.is 0) (.is (nm.length - 1))).ok nm.length := ⟨⟨h0, show (1 : Nat) ≤ 8 by decide⟩, ⟨show nm.length - 1 < nm.length by omega, show (1 : Nat) ≤ 8 by decide⟩, show (0 : Int) ≤ t ∧ (t : Int) ≤ b ∧ 1 ≤ (b : Int) ∧ (b : Int) ≤ 12 by omega⟩
        have ey : syw nm (.sh w t b (.is 0) (.is (nm.length - 1))) = Sw.hd w ++ nS t :: "of" :: nS b :: restN nm := by rw [syw_eq]; rfl
        refine refusedX_ok H hn hl wd (by decide) fun S3 g3 => ?_
        rw [← ey, rdSay_ok hn rfl hy]
        dsimp only
        walk_at "w"
        refine ⟨false, rfl, ?_⟩
        rw [if_neg (by decide)]
        refine says_ok (k := 37) (kd := .l) hn rfl hl hy H.rd topRd (by decide) fun c => ?_
        refine ⟨_, rfl, ?_⟩
        rw [show cutD [D.str w.str, D.int t, D.int b, (Tm.is 0).d, (Tm.is (nm.length - 1)).d] none (some 3) = [D.str w.str, D.int t, D.int b] from rfl]
        have sh : Sh 1 30 (.tup [D.str w.str, D.int t, D.int b]) := form_sh (by cases w <;> decide +kernel) ⟨by cases w <;> decide +kernel, by simp⟩ fun d hd => by
          simp only [List.mem_cons, List.not_mem_nil, or_false] at hd
          rcases hd with rfl | rfl
          · exact ⟨t, rfl, by omega⟩
          · exact ⟨b, rfl, by omega⟩
        refine ⟨_, cmp_selfn sh (by decide), ?_⟩
        rw [if_neg (by decide)]
        exact ⟨_, _, _, rfl, Gq.trans g2 (Gq.trans g3 (Gq.ext _ _))⟩
    · obtain ⟨x6, x7, x8, rfl, g2⟩ := hI
      exact ⟨_, _, _, _, rfl, g2⟩
  · obtain ⟨x5, x6, x7, x8, rfl, g1⟩ := hI
    walk_at "w"
    exact q _ g1
theorem oBs_len {nm : List Str} : ∀ us : List (Nat × Nat), (oBs nm us).length ≤ 3 * us.length
  | [] => Nat.le_refl _
  | p :: us => by
    have ih := oBs_len (nm := nm) us
    rw [oBs_cons, List.length_append, List.length_cons]
    have : (oB nm p).length ≤ 3 := by unfold oB; split; decide; split <;> simp
    omega
theorem oEs_len {nm : List Str} : ∀ us : List (Nat × Nat), (oEs nm us).length ≤ 3 * us.length
  | [] => Nat.le_refl _
  | p :: us => by
    have ih := oEs_len (nm := nm) us
    rw [oEs_cons, List.length_append, List.length_cons]
    have : (oE nm p).length ≤ 3 := by unfold oE; split; decide; split <;> simp
    omega
theorem opened_ok (H : Has P) {nm : List Str} {l B n : Nat} (hl : nm.length ≤ 4) (h0 : 0 < nm.length) (hn : n ≤ 9) (hB : Bx l (B + 20) S) (q : ∀ us S', us.length = n → (∀ p, p ∈ us → p.2 < nm.length) → Bx l B S' → Fr l S S' → Q (.val (.tup [.lst ((tw2 nm (oT us)).map .str), .lst ((List.range n).map fun j : Nat => .int (oP nm us j : Nat))])) S') :
    wF (runF P GG 38) 601 [.ref l, .lst (nm.map .str), .int n] S Q := by
  refine wF_of H.h601 rfl ?_
  unfold l_opened
  walk_at "w"
  rw [Int.toNat_natCast]
  refine ⟨⟨by omega, by omega⟩, ?_⟩
  refine wFor_inv (fun j ρ S' => ∃ (us : List (Nat × Nat)) (x6 x7 x8 : Sl), ρ = [.val (.ref l), .val (.lst (nm.map .str)), .val (.int n), .val (.lst ((oBs nm us).map .str)), .val (.lst ((oEs nm us).map .str)), .own ((List.range j).map fun i : Nat => .int (oP nm us i : Nat)), x6, x7, x8] ∧ us.length = j ∧ (∀ p, p ∈ us → p.2 < nm.length) ∧ Bx l (B + 20 - 2 * j) S' ∧ Fr l S S') ⟨[], _, _, _, rfl, rfl, (fun _ h => nomatch h), hB, Fr.refl l S⟩ (fun j d ρ S1 hd hI => ?_) fun ρ S1 hI => ?_
  · obtain ⟨us, x6, x7, x8, rfl, hul, hu, hB1, f1⟩ := hI
    obtain ⟨hj, rfl⟩ := rng_get hd
    walk_at "w"
    refine take_ok (B := B + 20 - 2 * j - 1) H.h4 (hB1.mono (by omega)) (by omega) (by omega) fun c S2 c0 c1 hB2 f2 => ?_
    obtain ⟨i, rfl, hi⟩ : ∃ i : Nat, c = i ∧ i < nm.length := ⟨c.toNat, by omega, by omega⟩
    have hni : (nm.map D.str)[i]? = some (D.str (nm.getD i "")) := by
      rw [List.getElem?_map, List.getD_eq_getElem?_getD, List.getElem?_eq_getElem hi]; rfl
    refine ⟨_, L2.atI_nat hni, ?_⟩
    walk_at "w"
    refine take_ok (B := B + 20 - 2 * (j + 1)) H.h4 (hB2.mono (by omega)) (by decide) (by decide) fun w S3 w0 w1 hB3 f3 => ?_
    walk_at "w"
    have lj : (List.range j).length < sizeLine := by rw [List.length_range]; exact Nat.lt_of_lt_of_le (by omega : j < 10) (by decide)
    have lB : (oBs nm us).length ≤ 27 := Nat.le_trans (oBs_len us) (by omega)
    have lE : (oEs nm us).length ≤ 27 := Nat.le_trans (oEs_len us) (by omega)
    have s1 : ∀ a : Nat, a ≤ 60 → a ≤ sizeLine := fun a h => Nat.le_trans h (by decide)
    have pl : ∀ p : Nat × Nat, (List.range j).map (fun i : Nat => D.int (oP nm us i : Nat)) ++ [D.int ((oBs nm us).length : Nat)] = (List.range (j + 1)).map fun i : Nat => D.int (oP nm (us ++ [p]) i : Nat) := fun p => by
      rw [List.range_succ, List.map_append, List.map_cons, List.map_nil]
      congr 1
      · refine List.map_congr_left fun i hi => ?_
        have hi := List.mem_range.mp hi
        unfold oP
        rw [List.take_append_of_le_length (by omega)]
      · unfold oP
        rw [← hul, List.take_append_of_le_length (Nat.le_refl _), List.take_length]
    have hu2 : ∀ v : Nat, ∀ p, p ∈ us ++ [(v, i)] → p.2 < nm.length := fun v p hp => by
      rcases List.mem_append.mp hp with h | h
      · exact hu p h
      · rw [List.mem_singleton.mp h]; exact hi
    have ff := f1.trans (f2.trans f3)
    refine ⟨lj, ?_⟩
    by_cases hw0 : w = 0
    · rw [if_pos hw0]
      refine ⟨s1 _ (by omega), ?_⟩
      have e1 : (oBs nm us).map D.str ++ [D.str (Str.ofString "not")] = (oBs nm (us ++ [(0, i)])).map D.str := by rw [oBs_snoc, List.map_append]; rfl
      have e2 : (oEs nm us).map D.str = (oEs nm (us ++ [(0, i)])).map D.str := by rw [oEs_snoc]; rfl
      rw [e1, e2, pl (0, i)]
      exact ⟨_, _, _, _, rfl, by rw [List.length_append, hul]; rfl, hu2 0, hB3, ff⟩
    rw [if_neg hw0]
    by_cases hw1 : w = 1
    · rw [if_pos hw1]
      refine ⟨s1 _ (by omega), s1 _ (by omega), ?_⟩
      have e1 : (oBs nm us).map D.str ++ [D.str (Str.ofString "(")] = (oBs nm (us ++ [(1, i)])).map D.str := by rw [oBs_snoc, List.map_append]; rfl
      have e2 : D.str (Str.ofString "and") :: D.str (nm.getD i (Str.ofString "")) :: D.str (Str.ofString ")") :: (oEs nm us).map D.str = (oEs nm (us ++ [(1, i)])).map D.str := by rw [oEs_snoc]; rfl
      rw [e1, e2, pl (1, i)]
      exact ⟨_, _, _, _, rfl, by rw [List.length_append, hul]; rfl, hu2 1, hB3, ff⟩
    · rw [if_neg hw1]
      refine ⟨s1 _ (by omega), s1 _ (by omega), ?_⟩
      have e1 : (oBs nm us).map D.str ++ [D.str (Str.ofString "("), D.str (nm.getD i (Str.ofString "")), D.str (Str.ofString "or")] = (oBs nm (us ++ [(2, i)])).map D.str := by rw [oBs_snoc, List.map_append]; rfl
      have e2 : D.str (Str.ofString ")") :: (oEs nm us).map D.str = (oEs nm (us ++ [(2, i)])).map D.str := by rw [oEs_snoc]; rfl
      rw [e1, e2, pl (2, i)]
      exact ⟨_, _, _, _, rfl, by rw [List.length_append, hul]; rfl, hu2 2, hB3, ff⟩
  · obtain ⟨us, x6, x7, x8, rfl, hul, hu, hB1, f1⟩ := hI
    rw [rngL_len] at hul hB1
    have lB : (oBs nm us).length ≤ 27 := Nat.le_trans (oBs_len us) (by omega)
    have lE : (oEs nm us).length ≤ 27 := Nat.le_trans (oEs_len us) (by omega)
    have s1 : ∀ a : Nat, a ≤ 60 → a ≤ sizeLine := fun a h => Nat.le_trans h (by decide)
    walk_at "w"
    rw [rngL_len]
    refine ⟨s1 _ (by omega), by rw [List.length_append, List.length_map]; exact s1 _ (by simp only [List.length_cons, List.length_nil]; omega), ?_⟩
    have e : (oBs nm us).map D.str ++ [D.str (Str.ofString "things")] ++ (oEs nm us).map D.str = (tw2 nm (oT us)).map D.str := by rw [tw2_oT, List.map_append, List.append_assoc]; rfl
    rw [e]
    exact q us S1 hul hu (hB1.mono (by omega)) f1
theorem dep_wd {nm : List Str} (hn : NmOk nm) (h0 : 0 < nm.length) {us : List (Nat × Nat)} {f : Nat} (hl : us.length ≤ 9) (hu : ∀ p, p ∈ us → p.2 < nm.length) : WdOk (hdD nm f ++ tw2 nm (oT us) ++ tlD nm f) ∧ (tw2 nm (oT us)).length ≤ 55 := by
  have hk := oT_ok hu
  have l1 := oBs_len (nm := nm) us
  have l2 := oEs_len (nm := nm) us
  have lt : (tw2 nm (oT us)).length ≤ 55 := by rw [tw2_oT, List.length_append, List.length_cons]; omega
  have z := nm_wd hn h0
  refine ⟨⟨?_, fun x hx => ?_, ?_⟩, lt⟩
  · unfold hdD
    by_cases hf : f = 0
    · rw [if_pos hf]; simp
    · rw [if_neg hf]; simp
  · rcases List.mem_append.mp hx with h | h
    · rcases List.mem_append.mp h with h | h
      · unfold hdD at h
        by_cases hf : f = 0
        · rw [if_pos hf] at h
          rw [List.mem_singleton.mp h]; exact r_wd _ (by simp)
        · rw [if_neg hf] at h
          simp only [List.mem_cons, List.not_mem_nil, or_false] at h
          rcases h with rfl | rfl | rfl
          · exact r_wd _ (by simp)
          · exact z
          · exact r_wd _ (by simp)
      · exact ⟨tw2_sp hn hk x h, tw2_sz hn hk x h⟩
    · unfold tlD at h
      by_cases hf : f = 0
      · rw [if_pos hf] at h
        simp only [List.mem_cons, List.not_mem_nil, or_false] at h
        rcases h with rfl | rfl
        · exact r_wd _ (by simp)
        · exact z
      · rw [if_neg hf] at h; cases h
  · unfold hdD tlD
    by_cases hf : f = 0
    · rw [if_pos hf, if_pos hf]; simp only [List.length_append, List.length_cons, List.length_nil]; omega
    · rw [if_neg hf, if_neg hf]; simp only [List.length_append, List.length_cons, List.length_nil]; omega
theorem refd_ok (H : Has P) {nm : List Str} (hn : NmOk nm) (hl : nm.length ≤ 4) (h0 : 0 < nm.length) {us : List (Nat × Nat)} {f : Nat} (h9 : us.length ≤ 9) (hu : ∀ p, p ∈ us → p.2 < nm.length) (q1 : us.length < 8 → ∀ S', Gq S S' → Q (.val .non) S') (q2 : 8 ≤ us.length → ∀ S', Gq S S' → Q (.val (.int (((hdD nm f).length + oP nm us 7 : Nat) : Int))) S') :
    ∃ r S1, P2.run GG S .join (.val (.str (Str.ofString " "))) (.own ((hdD nm f ++ tw2 nm (oT us) ++ tlD nm f).map .str)) = some (r, S1) ∧ ∃ d, r.d = some d ∧ wF (runF P GG 38) 711 [d, .lst (nm.map .str)] S1 Q := by
  obtain ⟨wd, _⟩ := dep_wd hn h0 (f := f) h9 hu
  refine ⟨_, _, p_joinw wd.w wd.few, _, rfl, ?_⟩
  refine refusedX_ok H hn hl wd (by decide) fun S' g => ?_
  by_cases h : us.length < 8
  · have hy := depY_ok (m := nm.length) (f := f) h0 (by omega) hu
    rw [← depY_w, rdSay_ok hn rfl hy]
    exact q1 h S' g
  · rw [depth_no hn h0 (by omega) hu]
    exact q2 (by omega) S' g
theorem depth_right_ok (H : Has P) {nm : List Str} {l B : Nat} (hn : NmOk nm) (hl : nm.length ≤ 4) (h0 : 0 < nm.length) (hB : Bx l (B + 100) S) (q : ∀ S', Bx l B S' → Fp l S S' → Q (.val (.bl true)) S') :
    wF (runF P GG 39) 715 [.ref l, .lst (nm.map .str)] S Q := by
  refine wF_of H.h715 rfl ?_
  unfold l_depth_right_1
  walk_at "w"
  refine wFor_inv (fun j ρ S' => ∃ x2 x3 x4 x5 x6 x7 x8, ρ = [.val (.ref l), .val (.lst (nm.map .str)), x2, x3, x4, x5, x6, x7, x8] ∧ Bx l (B + 100 - 21 * j) S' ∧ Fp l S S') ⟨_, _, _, _, _, _, _, rfl, hB, Fp.refl l S⟩ (fun j d ρ S1 hd hI => ?_) fun ρ S1 hI => ?_
  · obtain ⟨x2, x3, x4, x5, x6, x7, x8, rfl, hB1, f1⟩ := hI
    obtain ⟨n, rfl, hn6, hn9, hj⟩ : ∃ n : Nat, d = .int n ∧ 6 ≤ n ∧ n ≤ 9 ∧ j < 4 := by
      match j, hd with
      | 0, hd => cases hd; exact ⟨6, rfl, by decide, by decide, by decide⟩
      | 1, hd => cases hd; exact ⟨7, rfl, by decide, by decide, by decide⟩
      | 2, hd => cases hd; exact ⟨8, rfl, by decide, by decide, by decide⟩
      | 3, hd => cases hd; exact ⟨9, rfl, by decide, by decide, by decide⟩
    walk_at "w"
    refine opened_ok H (B := B + 100 - 21 * j - 20) hl h0 hn9 (hB1.mono (by omega)) fun us S2 hul hu hB2 f2 => ?_
    walk_at "w"
    refine take_ok (B := B + 100 - 21 * (j + 1)) H.h4 (hB2.mono (by omega)) (by decide) (by decide) fun c S3 c0 c1 hB3 f3 => ?_
    walk_at "w"
    have hnm0 : (nm.map D.str)[0]? = some (D.str (nm.getD 0 "")) := by
      rw [List.getElem?_map, List.getD_eq_getElem?_getD, List.getElem?_eq_getElem h0]; rfl
    have lt := (dep_wd hn h0 (f := 0) (by omega : us.length ≤ 9) hu).2
    have s1 : ∀ a : Nat, a ≤ 99 → a ≤ sizeLine := fun a h => Nat.le_trans h (by decide)
    have f3' : Fp l S S3 := Fp.trans f1 (Fp.trans (Fr.fp f2) (Fr.fp f3))
    have fin : ∀ S4, Gq S3 S4 → Bx l (B + 100 - 21 * (j + 1)) S4 ∧ Fp l S S4 := fun S4 g => ⟨Bx.stP hB3 g, Fp.trans f3' (Fp.of g)⟩
    have h7 : 8 ≤ n → ((List.range n).map fun j : Nat => D.int (oP nm us j : Nat))[7]? = some (D.int (oP nm us 7 : Nat)) := fun h => by
      rw [List.getElem?_map, List.getElem?_range (by omega)]; rfl
    by_cases hc : c = 0
    · rw [if_pos hc, if_pos hc]
      refine ⟨_, L2.atI_nat hnm0, s1 _ (by omega), s1 _ (by omega), ?_⟩
      have e : D.str (Str.ofString "all") :: ((tw2 nm (oT us)).map D.str ++ [D.str (Str.ofString "are"), D.str (nm.getD 0 "")]) = (hdD nm 0 ++ tw2 nm (oT us) ++ tlD nm 0).map D.str := by
        rw [List.map_append, List.map_append]; rfl
      rw [e]
      refine refd_ok H hn hl h0 (by omega) hu (fun h8 S4 g4 => ⟨_, rfl, ?_⟩) fun h8 S4 g4 => ⟨_, rfl, ?_⟩
      · rw [if_pos (by omega)]
        refine ⟨false, rfl, ?_⟩
        rw [if_neg (by decide)]
        exact ⟨_, _, _, _, _, _, _, rfl, fin _ g4⟩
      · rw [if_neg (by omega)]
        refine ⟨_, L2.atI_nat (h7 (by omega)), _, bin_add, _, cmp_intn, ?_⟩
        rw [if_neg (by rw [show (hdD nm 0).length = 1 from rfl]; simp)]
        exact ⟨_, _, _, _, _, _, _, rfl, fin _ g4⟩
    · rw [if_neg hc]
      refine ⟨_, L2.atI_nat hnm0, ?_⟩
      rw [if_neg hc]
      refine ⟨s1 _ (by omega), s1 _ (by omega), ?_⟩
      have e : D.str (Str.ofString "all") :: D.str (nm.getD 0 "") :: D.str (Str.ofString "are") :: ((tw2 nm (oT us)).map D.str ++ []) = (hdD nm 1 ++ tw2 nm (oT us) ++ tlD nm 1).map D.str := by
        rw [List.map_append, List.map_append]; rfl
      rw [e]
      refine refd_ok H hn hl h0 (by omega) hu (fun h8 S4 g4 => ⟨_, rfl, ?_⟩) fun h8 S4 g4 => ⟨_, rfl, ?_⟩
      · rw [if_pos (by omega)]
        refine ⟨false, rfl, ?_⟩
        rw [if_neg (by decide)]
        exact ⟨_, _, _, _, _, _, _, rfl, fin _ g4⟩
      · rw [if_neg (by omega)]
        refine ⟨_, L2.atI_nat (h7 (by omega)), _, bin_add, _, cmp_intn, ?_⟩
        rw [if_neg (by rw [show (hdD nm 1).length = 3 from rfl]; simp)]
        exact ⟨_, _, _, _, _, _, _, rfl, fin _ g4⟩
  · obtain ⟨x2, x3, x4, x5, x6, x7, x8, rfl, hB1, f1⟩ := hI
    walk_at "w"
    exact q _ (hB1.mono (by simp only [List.length_cons, List.length_nil]; omega)) f1
theorem atI_last70 {ds : List D} {d : D} (h : ds.getLast? = some d) : atI ds (-1) = some d := by
  have hne : ds ≠ [] := fun z => by subst z; cases h
  have hl : 0 < ds.length := List.length_pos_iff.mpr hne
  rw [List.getLast?_eq_getElem?] at h
  have : ixN ds.length (-1) = some (ds.length - 1) := by
    unfold ixN
    rw [if_neg (by omega), if_pos (by omega)]
    congr 1
    omega
  unfold atI
  rw [this, Option.bind_some, h]
theorem law_ok' (h : Has P) {ns : List Int} (hl : ns.length ≤ 63) : ∃ S', runF P GG 40 716 [.scr (ns.map .int)] [] = some (.val (.bl true), S') := by
  suffices hw : wF (runF P GG 40) 716 [.scr (ns.map .int)] [] (fun r _ => r = .val (.bl true)) by
    obtain ⟨r, S', e, rfl⟩ := hw
    exact ⟨S', e⟩
  refine wF_of h.h716 rfl ?_
  unfold p_law_79
  walk_at "w"
  refine boxes_ok (m := 2) h.h3 h.h5 h.h33 hl (by decide) (by decide) fun n S0 hn0 hn8 hS0 hB0 => ?_
  walk_at "w"
  refine wFor_inv (fun i ρ S' => ∃ a, ρ = .val (.scr (ns.map .int)) :: a ∧ a.length = 6 ∧ ∀ j, i ≤ j → j < n → Bx j BIG S') ⟨_, rfl, rfl, fun j _ hj => hB0 j hj⟩ (fun i d ρ S1 hd hI => ?_) fun ρ S1 hI => ?_
  · obtain ⟨a, rfl, ha, hB1⟩ := hI
    obtain ⟨a0, a1, a2, a3, a4, a5, rfl⟩ : ∃ a0 a1 a2 a3 a4 a5, a = [a0, a1, a2, a3, a4, a5] := by
      match a, ha with
      | [a0, a1, a2, a3, a4, a5], _ => exact ⟨_, _, _, _, _, _, rfl⟩
    obtain ⟨hi, rfl⟩ := refs_get hd
    have hBi := hB1 i (Nat.le_refl _) hi
    walk_at "w"
    refine take_ok (B := BIG - 1) h.h4 (hBi.mono (by decide)) (by decide) (by decide) fun c S2 c0 c1 hB2 f2 => ?_
    walk_at "w"
    obtain ⟨m, rfl, hm⟩ : ∃ m : Nat, c = m ∧ m < 4 := ⟨c.toNat, by omega, by omega⟩
    rw [show (1 : Int) + (m : Int) = ((m + 1 : Nat) : Int) by omega]
    refine names_ok (m := m + 1) (B := BIG - 10) h.h4 h.h87 (by omega) (hB2.mono (by decide)) fun nm S3 hnm hnl hB3 f3 => ?_
    walk_at "w"
    have hnm0 : (nm.map D.str)[0]? = some (D.str (nm.getD 0 "")) := by
      rw [List.getElem?_map, List.getD_eq_getElem?_getD, List.getElem?_eq_getElem (by omega)]; rfl
    refine ⟨_, L2.atI_nat hnm0, ?_⟩
    have hlast : (nm.map D.str).getLast? = some (D.str (nm.getD (nm.length - 1) "")) := by
      rw [List.getLast?_eq_getElem?, List.length_map, List.getElem?_map, List.getD_eq_getElem?_getD, List.getElem?_eq_getElem (by omega : nm.length - 1 < nm.length)]; rfl
    refine ⟨_, atI_last70 hlast, ?_⟩
    rw [show D.lst [D.str (nm.getD 0 (Str.ofString "")), D.str (Str.ofString "are"), D.str (nm.getD (nm.length - 1) (Str.ofString ""))] = D.lst ((restN nm).map .str) from rfl]
    have hl4 : nm.length ≤ 4 := by omega
    have hl0 : 0 < nm.length := by omega
    refine wFor_inv (fun j ρ S' => ∃ x4 x5, ρ = [.val (.scr (ns.map .int)), .val (.ref i), .val (.lst (nm.map .str)), .val (.lst ((restN nm).map .str)), x4, x5, a5] ∧ Bx i (BIG - 10) S' ∧ Fp i S1 S') ⟨_, _, rfl, hB3, Fr.fp (f2.trans f3)⟩ (fun j d ρ S4 hd hI => ?_) fun ρ S4 hI => ?_
    · obtain ⟨x4, x5, rfl, hB4, f4⟩ := hI
      have hd : ∃ w : Cw, d = .tup [.lst ((Cw.hd w).map .str), .str w.str] := by
        match j, hd with
        | 0, hd => cases hd; exact ⟨.least, rfl⟩
        | 1, hd => cases hd; exact ⟨.most, rfl⟩
        | 2, hd => cases hd; exact ⟨.just, rfl⟩
      obtain ⟨w, rfl⟩ := hd
      walk_at "w"
      refine numbers_ok h hnm hl4 hl0 fun S5 g5 => ?_
      walk_at "w"
      exact ⟨_, _, rfl, Bx.stP hB4 g5, Fp.trans f4 (Fp.of g5)⟩
    obtain ⟨x4, x5, rfl, hB4, f4⟩ := hI
    refine wFor_inv (fun j ρ S' => ∃ x4 x5, ρ = [.val (.scr (ns.map .int)), .val (.ref i), .val (.lst (nm.map .str)), .val (.lst ((restN nm).map .str)), x4, x5, a5] ∧ Bx i (BIG - 10) S' ∧ Fp i S1 S') ⟨_, _, rfl, hB4, f4⟩ (fun j d ρ S5 hd hI => ?_) fun ρ S5 hI => ?_
    · obtain ⟨x4, x5, rfl, hB5, f5⟩ := hI
      have hd : ∃ w : Sw, d = .tup [.lst ((Sw.hd w).map .str), .str w.str] := by
        match j, hd with
        | 0, hd => cases hd; exact ⟨.share, rfl⟩
        | 1, hd => cases hd; exact ⟨.under, rfl⟩
      obtain ⟨w, rfl⟩ := hd
      walk_at "w"
      refine shares_ok h hnm hl4 hl0 fun S6 g6 => ?_
      walk_at "w"
      exact ⟨_, _, rfl, Bx.stP hB5 g6, Fp.trans f5 (Fp.of g6)⟩
    obtain ⟨x4, x5, rfl, hB5, f5⟩ := hI
    refine wL_draw (β := Unit) (fun _ => .bl true) (fun _ => True) (fun j S' => Bx i (BIG - 10 - 100 * j) S' ∧ Fp i S1 S') ⟨hB5, f5⟩ (fun j d2 S6 hd2 hJ => ?_) fun ys S6 hyl hys hJ => ?_
    · obtain ⟨hj, rfl⟩ := rng_get hd2
      have hj : j < 4 := hj
      obtain ⟨hB6, f6⟩ := hJ
      unfold wTn
      simp only [wipeR]
      walk_at "w"
      refine depth_right_ok h (B := BIG - 10 - 100 * (j + 1)) hnm hl4 hl0 (hB6.mono (by unfold BIG; omega)) fun S7 hB7 f7 => ?_
      walk_at "w"
      exact ⟨(), hB7, Fp.trans f6 f7⟩
    obtain ⟨hB6, f6⟩ := hJ
    rw [rngL_len] at hyl
    refine ⟨by rw [List.length_map, hyl]; decide, _, bi_allt, _, rfl, ?_⟩
    rw [if_neg (by decide)]
    exact ⟨_, rfl, rfl, Fp.rest f6 hB1⟩
  · obtain ⟨a, rfl, ha, hB1⟩ := hI
    walk_at "w"
end
end Mi.Lw
end
namespace Mi.Lw
open PySem L2
noncomputable def tb : Tab := ⟨["ValueError", "abs", "all", "bool", "divmod", "enumerate", "int", "isinstance", "len", "list", "max", "range", "str"], [(5, ("_law_folded" : Str)), (3, ("_law_box" : Str)), (33, ("_law_boxes" : Str)), (4, ("_law_take" : Str)), (87, ("_law_names" : Str)), (571, ("number_of_word" : Str)), (710, ("saying_of" : Str)), (121, ("_law_is_number" : Str)), (711, ("_law_refused_at" : Str)), (713, ("_law_numbers_right" : Str)), (714, ("_law_shares_right" : Str)), (601, ("_law_opened" : Str)), (715, ("_law_depth_right" : Str)), (716, ("law" : Str))], [(10, "BETWEEN"), (13, "FIGURES"), (17, "FIRSTS"), (7, "MOST_BOTTOM"), (3, "MOST_DEEP"), (6, "MOST_NUMBER"), (18, "OPENERS"), (19, "SECONDS")], [(("Words" : Str), ("at" : Str)), (("Words" : Str), ("names" : Str)), (("Words" : Str), ("words" : Str))], [(572, ("Words" : Str), ("next_word" : Str)), (703, ("Words" : Str), ("refuse" : Str)), (704, ("Words" : Str), ("read_word" : Str)), (705, ("Words" : Str), ("read_form" : Str)), (706, ("Words" : Str), ("read_number" : Str)), (707, ("Words" : Str), ("read_numbers" : Str)), (708, ("Words" : Str), ("read_term" : Str)), (709, ("Words" : Str), ("read_saying" : Str))], [(580, ("Words" : Str))], [], ["BadRow", "BadText", "NoLabel", "SayError", "Taken", "TooMany"], [("BadText", (some "word"))]⟩
noncomputable def PP (f : Nat) : Option FD := match f with
  | 5 => some l_folded
  | 3 => some l_box
  | 33 => some l_boxes
  | 4 => some l_take
  | 87 => some l_names
  | 572 => some p_next_word_1
  | 703 => some p_refuse_2
  | 704 => some p_read_word_2
  | 705 => some p_read_form_2
  | 571 => some p_number_of_word_1
  | 706 => some p_read_number_2
  | 707 => some p_read_numbers_2
  | 708 => some p_read_term_2
  | 709 => some p_read_saying_2
  | 580 => some p___init___6
  | 710 => some p_saying_of_2
  | 121 => some l_is_number_1
  | 711 => some l_refused_at_1
  | 713 => some l_numbers_right_1
  | 714 => some l_shares_right_1
  | 601 => some l_opened
  | 715 => some l_depth_right_1
  | 716 => some p_law_79
  | _ => none
noncomputable def d_l_folded : Def := ⟨5, "_law_folded", s_l_folded, ["_law_script", "_law_many", "_law_cells", "_law_k", "_law_cell"], ["_law_script", "_law_many"], l_folded, "_law_folded"⟩
set_option maxHeartbeats 4000000 in
theorem ok_l_folded : d_l_folded.Ok tb PP := ⟨⟨rfl, rfl, rfl, by decide +kernel, rfl, by decide +kernel, by decide +kernel⟩, by decide +kernel, rfl, rfl, rfl⟩
noncomputable def d_l_box : Def := ⟨3, "_law_box", s_l_box, ["_law_script", "_law_k", "_law_cell"], ["_law_script", "_law_k"], l_box, "_law_box"⟩
set_option maxHeartbeats 4000000 in
theorem ok_l_box : d_l_box.Ok tb PP := ⟨⟨rfl, rfl, rfl, by decide +kernel, rfl, by decide +kernel, by decide +kernel⟩, by decide +kernel, rfl, rfl, rfl⟩
noncomputable def d_l_boxes : Def := ⟨33, "_law_boxes", s_l_boxes, ["_law_script", "_law_many", "_law_cells", "_law_k"], ["_law_script", "_law_many"], l_boxes, "_law_boxes"⟩
set_option maxHeartbeats 4000000 in
theorem ok_l_boxes : d_l_boxes.Ok tb PP := ⟨⟨rfl, rfl, rfl, by decide +kernel, rfl, by decide +kernel, by decide +kernel⟩, by decide +kernel, rfl, rfl, rfl⟩
noncomputable def d_l_take : Def := ⟨4, "_law_take", s_l_take, ["_law_box_here", "_law_many", "_law_once", "_law_found"], ["_law_box_here", "_law_many"], l_take, "_law_take"⟩
set_option maxHeartbeats 4000000 in
theorem ok_l_take : d_l_take.Ok tb PP := ⟨⟨rfl, rfl, rfl, by decide +kernel, rfl, by decide +kernel, by decide +kernel⟩, by decide +kernel, rfl, rfl, rfl⟩
noncomputable def d_l_names : Def := ⟨87, "_law_names", s_l_names, ["_law_box_here", "_law_many", "_law_some", "_law_first", "_law_step", "_law_k"], ["_law_box_here", "_law_many"], l_names, "_law_names"⟩
set_option maxHeartbeats 4000000 in
theorem ok_l_names : d_l_names.Ok tb PP := ⟨⟨rfl, rfl, rfl, by decide +kernel, rfl, by decide +kernel, by decide +kernel⟩, by decide +kernel, rfl, rfl, rfl⟩
noncomputable def d_p_next_word_1 : Def := ⟨572, "next_word", s_p_next_word_1, ["self"], ["self"], p_next_word_1, "Words.next_word"⟩
set_option maxHeartbeats 4000000 in
theorem ok_p_next_word_1 : d_p_next_word_1.Ok tb PP := ⟨⟨rfl, rfl, rfl, by decide +kernel, rfl, by decide +kernel, by decide +kernel⟩, by decide +kernel, rfl, rfl, rfl⟩
noncomputable def d_p_refuse_2 : Def := ⟨703, "refuse", s_p_refuse_2, ["self"], ["self"], p_refuse_2, "Words.refuse"⟩
set_option maxHeartbeats 4000000 in
theorem ok_p_refuse_2 : d_p_refuse_2.Ok tb PP := ⟨⟨rfl, rfl, rfl, by decide +kernel, rfl, by decide +kernel, by decide +kernel⟩, by decide +kernel, rfl, rfl, rfl⟩
noncomputable def d_p_read_word_2 : Def := ⟨704, "read_word", s_p_read_word_2, ["self", "some", "word"], ["self", "some"], p_read_word_2, "Words.read_word"⟩
set_option maxHeartbeats 4000000 in
theorem ok_p_read_word_2 : d_p_read_word_2.Ok tb PP := ⟨⟨rfl, rfl, rfl, by decide +kernel, rfl, by decide +kernel, by decide +kernel⟩, by decide +kernel, rfl, rfl, rfl⟩
noncomputable def d_p_read_form_2 : Def := ⟨705, "read_form", s_p_read_form_2, ["self", "word", "seconds", "both"], ["self"], p_read_form_2, "Words.read_form"⟩
set_option maxHeartbeats 4000000 in
theorem ok_p_read_form_2 : d_p_read_form_2.Ok tb PP := ⟨⟨rfl, rfl, rfl, by decide +kernel, rfl, by decide +kernel, by decide +kernel⟩, by decide +kernel, rfl, rfl, rfl⟩
noncomputable def d_p_number_of_word_1 : Def := ⟨571, "number_of_word", s_p_number_of_word_1, ["word", "sign"], ["word"], p_number_of_word_1, "number_of_word"⟩
set_option maxHeartbeats 4000000 in
theorem ok_p_number_of_word_1 : d_p_number_of_word_1.Ok tb PP := ⟨⟨rfl, rfl, rfl, by decide +kernel, rfl, by decide +kernel, by decide +kernel⟩, by decide +kernel, rfl, rfl, rfl⟩
noncomputable def d_p_read_number_2 : Def := ⟨706, "read_number", s_p_read_number_2, ["self", "least", "most", "number"], ["self", "least", "most"], p_read_number_2, "Words.read_number"⟩
set_option maxHeartbeats 4000000 in
theorem ok_p_read_number_2 : d_p_read_number_2.Ok tb PP := ⟨⟨rfl, rfl, rfl, by decide +kernel, rfl, by decide +kernel, by decide +kernel⟩, by decide +kernel, rfl, rfl, rfl⟩
noncomputable def d_p_read_numbers_2 : Def := ⟨707, "read_numbers", s_p_read_numbers_2, ["self", "form", "top"], ["self", "form"], p_read_numbers_2, "Words.read_numbers"⟩
set_option maxHeartbeats 4000000 in
theorem ok_p_read_numbers_2 : d_p_read_numbers_2.Ok tb PP := ⟨⟨rfl, rfl, rfl, by decide +kernel, rfl, by decide +kernel, by decide +kernel⟩, by decide +kernel, rfl, rfl, rfl⟩
noncomputable def d_p_read_term_2 : Def := ⟨708, "read_term", s_p_read_term_2, ["self", "left", "openers", "word", "one", "joint", "other"], ["self", "left"], p_read_term_2, "Words.read_term"⟩
set_option maxHeartbeats 4000000 in
theorem ok_p_read_term_2 : d_p_read_term_2.Ok tb PP := ⟨⟨rfl, rfl, rfl, by decide +kernel, rfl, by decide +kernel, by decide +kernel⟩, by decide +kernel, rfl, rfl, rfl⟩
noncomputable def d_p_read_saying_2 : Def := ⟨709, "read_saying", s_p_read_saying_2, ["self", "form", "numbers", "one", "other"], ["self"], p_read_saying_2, "Words.read_saying"⟩
set_option maxHeartbeats 4000000 in
theorem ok_p_read_saying_2 : d_p_read_saying_2.Ok tb PP := ⟨⟨rfl, rfl, rfl, by decide +kernel, rfl, by decide +kernel, by decide +kernel⟩, by decide +kernel, rfl, rfl, rfl⟩
noncomputable def d_p___init___6 : Def := ⟨580, "__init__", s_p___init___6, ["self", "words", "names"], ["self", "words", "names"], p___init___6, "Words.__init__"⟩
set_option maxHeartbeats 4000000 in
theorem ok_p___init___6 : d_p___init___6.Ok tb PP := ⟨⟨rfl, rfl, rfl, by decide +kernel, rfl, by decide +kernel, by decide +kernel⟩, by decide +kernel, rfl, rfl, rfl⟩
noncomputable def d_p_saying_of_2 : Def := ⟨710, "saying_of", s_p_saying_of_2, ["text", "names"], ["text", "names"], p_saying_of_2, "saying_of"⟩
set_option maxHeartbeats 4000000 in
theorem ok_p_saying_of_2 : d_p_saying_of_2.Ok tb PP := ⟨⟨rfl, rfl, rfl, by decide +kernel, rfl, by decide +kernel, by decide +kernel⟩, by decide +kernel, rfl, rfl, rfl⟩
noncomputable def d_l_is_number_1 : Def := ⟨121, "_law_is_number", s_l_is_number_1, ["_law_thing"], ["_law_thing"], l_is_number_1, "_law_is_number"⟩
set_option maxHeartbeats 4000000 in
theorem ok_l_is_number_1 : d_l_is_number_1.Ok tb PP := ⟨⟨rfl, rfl, rfl, by decide +kernel, rfl, by decide +kernel, by decide +kernel⟩, by decide +kernel, rfl, rfl, rfl⟩
noncomputable def d_l_refused_at_1 : Def := ⟨711, "_law_refused_at", s_l_refused_at_1, ["_law_text", "_law_names_here", "_law_caught", "error"], ["_law_text", "_law_names_here"], l_refused_at_1, "_law_refused_at"⟩
set_option maxHeartbeats 4000000 in
theorem ok_l_refused_at_1 : d_l_refused_at_1.Ok tb PP := ⟨⟨rfl, rfl, rfl, by decide +kernel, rfl, by decide +kernel, by decide +kernel⟩, by decide +kernel, rfl, rfl, rfl⟩
noncomputable def d_l_numbers_right_1 : Def := ⟨713, "_law_numbers_right", s_l_numbers_right_1, ["_law_head", "_law_form", "_law_rest", "_law_names_here", "_law_at", "_law_n", "_law_text"], ["_law_head", "_law_form", "_law_rest", "_law_names_here"], l_numbers_right_1, "_law_numbers_right"⟩
set_option maxHeartbeats 4000000 in
theorem ok_l_numbers_right_1 : d_l_numbers_right_1.Ok tb PP := ⟨⟨rfl, rfl, rfl, by decide +kernel, rfl, by decide +kernel, by decide +kernel⟩, by decide +kernel, rfl, rfl, rfl⟩
noncomputable def d_l_shares_right_1 : Def := ⟨714, "_law_shares_right", s_l_shares_right_1, ["_law_head", "_law_form", "_law_rest", "_law_names_here", "_law_at", "_law_t", "_law_b", "_law_text", "_law_due"], ["_law_head", "_law_form", "_law_rest", "_law_names_here"], l_shares_right_1, "_law_shares_right"⟩
set_option maxHeartbeats 4000000 in
theorem ok_l_shares_right_1 : d_l_shares_right_1.Ok tb PP := ⟨⟨rfl, rfl, rfl, by decide +kernel, rfl, by decide +kernel, by decide +kernel⟩, by decide +kernel, rfl, rfl, rfl⟩
noncomputable def d_l_opened : Def := ⟨601, "_law_opened", s_l_opened, ["_law_box_here", "_law_names_here", "_law_many", "_law_before", "_law_behind", "_law_places", "_law_turn", "_law_name", "_law_way"], ["_law_box_here", "_law_names_here", "_law_many"], l_opened, "_law_opened"⟩
set_option maxHeartbeats 4000000 in
theorem ok_l_opened : d_l_opened.Ok tb PP := ⟨⟨rfl, rfl, rfl, by decide +kernel, rfl, by decide +kernel, by decide +kernel⟩, by decide +kernel, rfl, rfl, rfl⟩
noncomputable def d_l_depth_right_1 : Def := ⟨715, "_law_depth_right", s_l_depth_right_1, ["_law_box_here", "_law_names_here", "_law_many", "_law_first", "_law_head", "_law_rest", "_law_found", "_law_words", "_law_places"], ["_law_box_here", "_law_names_here"], l_depth_right_1, "_law_depth_right"⟩
set_option maxHeartbeats 4000000 in
theorem ok_l_depth_right_1 : d_l_depth_right_1.Ok tb PP := ⟨⟨rfl, rfl, rfl, by decide +kernel, rfl, by decide +kernel, by decide +kernel⟩, by decide +kernel, rfl, rfl, rfl⟩
noncomputable def d_p_law_79 : Def := ⟨716, "law", s_p_law_79, ["_law_script", "_law_box_here", "_law_names_here", "_law_rest", "_law_head", "_law_form", "_law_turn"], ["_law_script"], p_law_79, "law"⟩
set_option maxHeartbeats 4000000 in
theorem ok_p_law_79 : d_p_law_79.Ok tb PP := ⟨⟨rfl, rfl, rfl, by decide +kernel, rfl, by decide +kernel, by decide +kernel⟩, by decide +kernel, rfl, rfl, rfl⟩
theorem hasPP : Has PP := ⟨rfl, rfl, rfl, rfl, rfl, rfl, rfl, rfl, rfl, rfl, rfl, rfl, ⟨rfl, rfl, rfl, rfl, rfl, rfl, rfl, rfl, rfl, rfl, rfl⟩⟩
theorem law_true (ns : List Int) (hl : ns.length ≤ 63) : ∃ S', runF PP GG 40 716 [.scr (ns.map .int)] [] = some (.val (.bl true), S') := law_ok' hasPP hl
theorem all_mk (hlaw : ∀ ns : List Int, ns.length ≤ 63 → ∃ S', runF PP GG 40 716 [.scr (ns.map .int)] [] = some (.val (.bl true), S')) : AllMk := by
  intro l w K h mg fa X G hfa C0 aC0 pg0 hd0 po0 sa0 mk0 kc0 nf0 nf1 nf2 f0 od0 an0 sl0 oc0 kV0 dc0 pm0 cd0 ct0 a0 l0 c0 k0 f1 od1 an1 sl1 oc1 kV1 dc1 pm1 cd1 ct1 a1 l1 c1 k1 f2 od2 an2 sl2 oc2 kV2 dc2 pm2 cd2 ct2 a2 l2 c2 k2 f3 od3 an3 sl3 oc3 kV3 dc3 pm3 cd3 ct3 a3 l3 c3 k3 f4 od4 an4 sl4 oc4 kV4 dc4 pm4 cd4 ct4 a4 l4 c4 k4 f5 od5 an5 sl5 oc5 kV5 dc5 pm5 cd5 ct5 a5 i5 l5 c5 k5 f6 od6 an6 sl6 oc6 kV6 dc6 pm6 cd6 ct6 a6 i6 l6 c6 k6 f7 od7 an7 sl7 oc7 kV7 dc7 pm7 cd7 ct7 a7 i7 l7 c7 k7 f8 od8 an8 sl8 oc8 kV8 dc8 pm8 cd8 ct8 a8 i8 l8 c8 k8 f9 od9 an9 sl9 oc9 kV9 dc9 pm9 cd9 ct9 a9 l9 c9 k9 f10 od10 an10 sl10 oc10 kV10 dc10 pm10 cd10 ct10 a10 i10 l10 c10 k10 f11 od11 an11 sl11 oc11 kV11 dc11 pm11 cd11 ct11 a11 i11 l11 c11 k11 f12 od12 an12 sl12 oc12 kV12 dc12 pm12 cd12 ct12 a12 i12 l12 c12 k12 f13 od13 an13 sl13 oc13 kV13 dc13 pm13 cd13 ct13 a13 i13 l13 c13 k13 f14 od14 an14 sl14 oc14 kV14 dc14 pm14 cd14 ct14 a14 i14 l14 c14 k14 f15 od15 an15 sl15 oc15 kV15 dc15 pm15 cd15 ct15 a15 l15 c15 k15 f16 od16 an16 sl16 oc16 kV16 dc16 pm16 cd16 ct16 a16 l16 c16 k16 f17 od17 an17 sl17 oc17 kV17 dc17 pm17 cd17 ct17 a17 l17 c17 k17 f18 od18 an18 sl18 oc18 kV18 dc18 pm18 cd18 ct18 a18 l18 c18 k18 f19 od19 an19 sl19 oc19 kV19 dc19 pm19 cd19 ct19 a19 l19 c19 k19 f20 od20 an20 sl20 oc20 kV20 dc20 pm20 cd20 ct20 a20 l20 c20 k20 f21 od21 an21 sl21 oc21 kV21 dc21 pm21 cd21 ct21 a21 l21 c21 k21 f22 od22 an22 sl22 oc22 kV22 dc22 pm22 cd22 ct22 a22 l22 c22 k22 z0 z1 z2 z3 z4 z5 z6 z7 z8 z9 z10 z11 z12 X0 xa0 X1 xa1 X2 xa2 X3 xa3 X4 xa4 X5 xa5 xd5 xe5 xb3 nm3 q3 N3 bs3 bm3 sn3 sub3 ab3 col3 dd3 kA3 kB3 kC3 kD3 kE3 xf3 xg3 xh3 xI3 xod3 xan3 xsl3 xoc3 xkV3 xdc3 xpm3 xcd3 xct3 xi3 xj3 xl3 xm3 xn3 ga10 gn10 gd10 gv10 gu13 gn13 gv13 ga17 gn17 gd17 gv17 gu7 gn7 gv7 gu3 gn3 gv3 gu6 gn6 gv6 gu18 gn18 gv18 ga19 gn19 gd19 gv19
  have e := hfa.symm.trans (PySem.W.mg_of X G a22)
  cases e
  have F0 := fun_mk (st := s_l_folded) l0 c0 k0
  have A0 : d_l_folded.At K mg f0 _ := ⟨⟨F0, F0.binds (ps := ["_law_script", "_law_many"]) fun _ _ _ _ _ _ us hl => match us, hl with | [_, _], _ => rfl⟩, PySem.W.mg_of X G a0⟩
  have F1 := fun_mk (st := s_l_box) l1 c1 k1
  have A1 : d_l_box.At K mg f1 _ := ⟨⟨F1, F1.binds (ps := ["_law_script", "_law_k"]) fun _ _ _ _ _ _ us hl => match us, hl with | [_, _], _ => rfl⟩, PySem.W.mg_of X G a1⟩
  have F2 := fun_mk (st := s_l_boxes) l2 c2 k2
  have A2 : d_l_boxes.At K mg f2 _ := ⟨⟨F2, F2.binds (ps := ["_law_script", "_law_many"]) fun _ _ _ _ _ _ us hl => match us, hl with | [_, _], _ => rfl⟩, PySem.W.mg_of X G a2⟩
  have F3 := fun_mk (st := s_l_take) l3 c3 k3
  have A3 : d_l_take.At K mg f3 _ := ⟨⟨F3, F3.binds (ps := ["_law_box_here", "_law_many"]) fun _ _ _ _ _ _ us hl => match us, hl with | [_, _], _ => rfl⟩, PySem.W.mg_of X G a3⟩
  have F4 := fun_mk (st := s_l_names) l4 c4 k4
  have A4 : d_l_names.At K mg f4 _ := ⟨⟨F4, F4.binds (ps := ["_law_box_here", "_law_many"]) fun _ _ _ _ _ _ us hl => match us, hl with | [_, _], _ => rfl⟩, PySem.W.mg_of X G a4⟩
  have F5 := fun_mk (st := s_p_next_word_1) l5 c5 k5
  have A5 : d_p_next_word_1.Bd K f5 _ := ⟨F5, F5.binds (ps := ["self"]) fun _ _ _ _ _ _ us hl => match us, hl with | [_], _ => rfl⟩
  have F6 := fun_mk (st := s_p_refuse_2) l6 c6 k6
  have A6 : d_p_refuse_2.Bd K f6 _ := ⟨F6, F6.binds (ps := ["self"]) fun _ _ _ _ _ _ us hl => match us, hl with | [_], _ => rfl⟩
  have F7 := fun_mk (st := s_p_read_word_2) l7 c7 k7
  have A7 : d_p_read_word_2.Bd K f7 _ := ⟨F7, F7.binds (ps := ["self", "some"]) fun _ _ _ _ _ _ us hl => match us, hl with | [_, _], _ => rfl⟩
  have F8 := fun_mk (st := s_p_read_form_2) l8 c8 k8
  have A8 : d_p_read_form_2.Bd K f8 _ := ⟨F8, F8.binds (ps := ["self"]) fun _ _ _ _ _ _ us hl => match us, hl with | [_], _ => rfl⟩
  have F9 := fun_mk (st := s_p_number_of_word_1) l9 c9 k9
  have A9 : d_p_number_of_word_1.At K mg f9 _ := ⟨⟨F9, F9.binds (ps := ["word"]) fun _ _ _ _ _ _ us hl => match us, hl with | [_], _ => rfl⟩, PySem.W.mg_of X G a9⟩
  have F10 := fun_mk (st := s_p_read_number_2) l10 c10 k10
  have A10 : d_p_read_number_2.Bd K f10 _ := ⟨F10, F10.binds (ps := ["self", "least", "most"]) fun _ _ _ _ _ _ us hl => match us, hl with | [_, _, _], _ => rfl⟩
  have F11 := fun_mk (st := s_p_read_numbers_2) l11 c11 k11
  have A11 : d_p_read_numbers_2.Bd K f11 _ := ⟨F11, F11.binds (ps := ["self", "form"]) fun _ _ _ _ _ _ us hl => match us, hl with | [_, _], _ => rfl⟩
  have F12 := fun_mk (st := s_p_read_term_2) l12 c12 k12
  have A12 : d_p_read_term_2.Bd K f12 _ := ⟨F12, F12.binds (ps := ["self", "left"]) fun _ _ _ _ _ _ us hl => match us, hl with | [_, _], _ => rfl⟩
  have F13 := fun_mk (st := s_p_read_saying_2) l13 c13 k13
  have A13 : d_p_read_saying_2.Bd K f13 _ := ⟨F13, F13.binds (ps := ["self"]) fun _ _ _ _ _ _ us hl => match us, hl with | [_], _ => rfl⟩
  have F14 := fun_mk (st := s_p___init___6) l14 c14 k14
  have A14 : d_p___init___6.Bd K f14 _ := ⟨F14, F14.binds (ps := ["self", "words", "names"]) fun _ _ _ _ _ _ us hl => match us, hl with | [_, _, _], _ => rfl⟩
  have F15 := fun_mk (st := s_p_saying_of_2) l15 c15 k15
  have A15 : d_p_saying_of_2.At K mg f15 _ := ⟨⟨F15, F15.binds (ps := ["text", "names"]) fun _ _ _ _ _ _ us hl => match us, hl with | [_, _], _ => rfl⟩, PySem.W.mg_of X G a15⟩
  have F16 := fun_mk (st := s_l_is_number_1) l16 c16 k16
  have A16 : d_l_is_number_1.At K mg f16 _ := ⟨⟨F16, F16.binds (ps := ["_law_thing"]) fun _ _ _ _ _ _ us hl => match us, hl with | [_], _ => rfl⟩, PySem.W.mg_of X G a16⟩
  have F17 := fun_mk (st := s_l_refused_at_1) l17 c17 k17
  have A17 : d_l_refused_at_1.At K mg f17 _ := ⟨⟨F17, F17.binds (ps := ["_law_text", "_law_names_here"]) fun _ _ _ _ _ _ us hl => match us, hl with | [_, _], _ => rfl⟩, PySem.W.mg_of X G a17⟩
  have F18 := fun_mk (st := s_l_numbers_right_1) l18 c18 k18
  have A18 : d_l_numbers_right_1.At K mg f18 _ := ⟨⟨F18, F18.binds (ps := ["_law_head", "_law_form", "_law_rest", "_law_names_here"]) fun _ _ _ _ _ _ us hl => match us, hl with | [_, _, _, _], _ => rfl⟩, PySem.W.mg_of X G a18⟩
  have F19 := fun_mk (st := s_l_shares_right_1) l19 c19 k19
  have A19 : d_l_shares_right_1.At K mg f19 _ := ⟨⟨F19, F19.binds (ps := ["_law_head", "_law_form", "_law_rest", "_law_names_here"]) fun _ _ _ _ _ _ us hl => match us, hl with | [_, _, _, _], _ => rfl⟩, PySem.W.mg_of X G a19⟩
  have F20 := fun_mk (st := s_l_opened) l20 c20 k20
  have A20 : d_l_opened.At K mg f20 _ := ⟨⟨F20, F20.binds (ps := ["_law_box_here", "_law_names_here", "_law_many"]) fun _ _ _ _ _ _ us hl => match us, hl with | [_, _, _], _ => rfl⟩, PySem.W.mg_of X G a20⟩
  have F21 := fun_mk (st := s_l_depth_right_1) l21 c21 k21
  have A21 : d_l_depth_right_1.At K mg f21 _ := ⟨⟨F21, F21.binds (ps := ["_law_box_here", "_law_names_here"]) fun _ _ _ _ _ _ us hl => match us, hl with | [_, _], _ => rfl⟩, PySem.W.mg_of X G a21⟩
  have F22 := fun_mk (st := s_p_law_79) l22 c22 k22
  have A22 : d_p_law_79.At K mg fa _ := ⟨⟨F22, F22.binds (ps := ["_law_script"]) fun _ _ _ _ _ _ us hl => match us, hl with | [_], _ => rfl⟩, PySem.W.mg_of X G a22⟩
  refine ⟨PySem.W.fnOf "law" "law" (defArgs s_p_law_79) (defBody s_p_law_79) (defScope s_p_law_79) .none kV22 dc22 pm22 an22 cd22 ct22, fun s v => .of_eq rfl, fun base hb hn => ?_⟩
  have bl : ∀ x, x ∈ tb.bn → mg x = none := fun x hx => by
    simp only [tb, List.mem_cons, List.not_mem_nil, or_false] at hx
    rcases hx with rfl | rfl | rfl | rfl | rfl | rfl | rfl | rfl | rfl | rfl | rfl | rfl | rfl
    · exact PySem.W.mg_none_of X G z0
    · exact PySem.W.mg_none_of X G z1
    · exact PySem.W.mg_none_of X G z2
    · exact PySem.W.mg_none_of X G z3
    · exact PySem.W.mg_none_of X G z4
    · exact PySem.W.mg_none_of X G z5
    · exact PySem.W.mg_none_of X G z6
    · exact PySem.W.mg_none_of X G z7
    · exact PySem.W.mg_none_of X G z8
    · exact PySem.W.mg_none_of X G z9
    · exact PySem.W.mg_none_of X G z10
    · exact PySem.W.mg_none_of X G z11
    · exact PySem.W.mg_none_of X G z12
  have fns : ∀ f x, (f, x) ∈ tb.fnm → ∃ (d : Def) (fa : Addr) (fdt : FuncData), d.f = f ∧ d.x = x ∧ d.Ok tb PP ∧ d.At K mg fa fdt ∧ LamsOk tb K mg base d fdt := fun f x hx => by
    simp only [tb, List.mem_cons, List.not_mem_nil, or_false, Prod.mk.injEq] at hx
    rcases hx with ⟨rfl, rfl⟩ | ⟨rfl, rfl⟩ | ⟨rfl, rfl⟩ | ⟨rfl, rfl⟩ | ⟨rfl, rfl⟩ | ⟨rfl, rfl⟩ | ⟨rfl, rfl⟩ | ⟨rfl, rfl⟩ | ⟨rfl, rfl⟩ | ⟨rfl, rfl⟩ | ⟨rfl, rfl⟩ | ⟨rfl, rfl⟩ | ⟨rfl, rfl⟩ | ⟨rfl, rfl⟩
    · exact ⟨d_l_folded, _, _, rfl, rfl, ok_l_folded, A0, lams_no (by decide +kernel)⟩
    · exact ⟨d_l_box, _, _, rfl, rfl, ok_l_box, A1, lams_no (by decide +kernel)⟩
    · exact ⟨d_l_boxes, _, _, rfl, rfl, ok_l_boxes, A2, lams_no (by decide +kernel)⟩
    · exact ⟨d_l_take, _, _, rfl, rfl, ok_l_take, A3, lams_no (by decide +kernel)⟩
    · exact ⟨d_l_names, _, _, rfl, rfl, ok_l_names, A4, lams_no (by decide +kernel)⟩
    · exact ⟨d_p_number_of_word_1, _, _, rfl, rfl, ok_p_number_of_word_1, A9, lams_no (by decide +kernel)⟩
    · exact ⟨d_p_saying_of_2, _, _, rfl, rfl, ok_p_saying_of_2, A15, lams_no (by decide +kernel)⟩
    · exact ⟨d_l_is_number_1, _, _, rfl, rfl, ok_l_is_number_1, A16, lams_no (by decide +kernel)⟩
    · exact ⟨d_l_refused_at_1, _, _, rfl, rfl, ok_l_refused_at_1, A17, lams_no (by decide +kernel)⟩
    · exact ⟨d_l_numbers_right_1, _, _, rfl, rfl, ok_l_numbers_right_1, A18, lams_no (by decide +kernel)⟩
    · exact ⟨d_l_shares_right_1, _, _, rfl, rfl, ok_l_shares_right_1, A19, lams_no (by decide +kernel)⟩
    · exact ⟨d_l_opened, _, _, rfl, rfl, ok_l_opened, A20, lams_no (by decide +kernel)⟩
    · exact ⟨d_l_depth_right_1, _, _, rfl, rfl, ok_l_depth_right_1, A21, lams_no (by decide +kernel)⟩
    · exact ⟨d_p_law_79, _, _, rfl, rfl, ok_p_law_79, A22, lams_no (by decide +kernel)⟩
  have fl : ∀ c f, (c, f) ∈ tb.fld → ∃ C, PySem.W.nsIn K mainGlobals c = some (some (.ref C)) ∧ Cls K C ∧ NoAttr K C f := fun c f hx => by
    simp only [tb, List.mem_cons, List.not_mem_nil, or_false, Prod.mk.injEq] at hx
    rcases hx with ⟨rfl, rfl⟩ | ⟨rfl, rfl⟩ | ⟨rfl, rfl⟩
    · exact ⟨C0, aC0, ⟨pg0, hd0, po0, sa0⟩, nf0⟩
    · exact ⟨C0, aC0, ⟨pg0, hd0, po0, sa0⟩, nf1⟩
    · exact ⟨C0, aC0, ⟨pg0, hd0, po0, sa0⟩, nf2⟩
  have mt : ∀ f c m, (f, c, m) ∈ tb.mth → ∃ (C : Addr) (d : Def) (fa : Addr) (fdt : FuncData), d.f = f ∧ PySem.W.nsIn K mainGlobals c = some (some (.ref C)) ∧ Cls K C ∧ Meth K C m fa ∧ d.Ok tb PP ∧ d.Bd K fa fdt ∧ LamsOk tb K mg base d fdt := fun f c m hx => by
    simp only [tb, List.mem_cons, List.not_mem_nil, or_false, Prod.mk.injEq] at hx
    rcases hx with ⟨rfl, rfl, rfl⟩ | ⟨rfl, rfl, rfl⟩ | ⟨rfl, rfl, rfl⟩ | ⟨rfl, rfl, rfl⟩ | ⟨rfl, rfl, rfl⟩ | ⟨rfl, rfl, rfl⟩ | ⟨rfl, rfl, rfl⟩ | ⟨rfl, rfl, rfl⟩
    · exact ⟨C0, d_p_next_word_1, _, _, rfl, aC0, ⟨pg0, hd0, po0, sa0⟩, ⟨a5, i5, k5⟩, ok_p_next_word_1, A5, lams_no (by decide +kernel)⟩
    · exact ⟨C0, d_p_refuse_2, _, _, rfl, aC0, ⟨pg0, hd0, po0, sa0⟩, ⟨a6, i6, k6⟩, ok_p_refuse_2, A6, lams_no (by decide +kernel)⟩
    · exact ⟨C0, d_p_read_word_2, _, _, rfl, aC0, ⟨pg0, hd0, po0, sa0⟩, ⟨a7, i7, k7⟩, ok_p_read_word_2, A7, lams_no (by decide +kernel)⟩
    · exact ⟨C0, d_p_read_form_2, _, _, rfl, aC0, ⟨pg0, hd0, po0, sa0⟩, ⟨a8, i8, k8⟩, ok_p_read_form_2, A8, lams_no (by decide +kernel)⟩
    · exact ⟨C0, d_p_read_number_2, _, _, rfl, aC0, ⟨pg0, hd0, po0, sa0⟩, ⟨a10, i10, k10⟩, ok_p_read_number_2, A10, lams_no (by decide +kernel)⟩
    · exact ⟨C0, d_p_read_numbers_2, _, _, rfl, aC0, ⟨pg0, hd0, po0, sa0⟩, ⟨a11, i11, k11⟩, ok_p_read_numbers_2, A11, lams_no (by decide +kernel)⟩
    · exact ⟨C0, d_p_read_term_2, _, _, rfl, aC0, ⟨pg0, hd0, po0, sa0⟩, ⟨a12, i12, k12⟩, ok_p_read_term_2, A12, lams_no (by decide +kernel)⟩
    · exact ⟨C0, d_p_read_saying_2, _, _, rfl, aC0, ⟨pg0, hd0, po0, sa0⟩, ⟨a13, i13, k13⟩, ok_p_read_saying_2, A13, lams_no (by decide +kernel)⟩
  have mks : ∀ f c, (f, c) ∈ tb.mkr → ∃ (C : Addr) (d : Def) (fa : Addr) (fdt : FuncData), d.f = f ∧ PySem.W.nsIn K mainGlobals c = some (some (.ref C)) ∧ Mk K C fa ∧ d.Ok tb PP ∧ d.Bd K fa fdt ∧ mg c = some (.ref C) ∧ LamsOk tb K mg base d fdt := fun f c hx => by
    simp only [tb, List.mem_cons, List.not_mem_nil, or_false, Prod.mk.injEq] at hx
    rcases hx with ⟨rfl, rfl⟩
    · exact ⟨C0, d_p___init___6, _, _, rfl, aC0, ⟨mk0, a14, i14, kc0⟩, ok_p___init___6, A14, PySem.W.mg_of X G aC0, lams_no (by decide +kernel)⟩
  have gls : ∀ (j : Nat) (x : Str), (j, x) ∈ tb.gl → ∃ d u, GG[j]? = some d ∧ mg x = some u ∧ GOk K w d u := fun j x hx => by
    simp only [tb, List.mem_cons, List.not_mem_nil, or_false, Prod.mk.injEq] at hx
    rcases hx with ⟨rfl, rfl⟩ | ⟨rfl, rfl⟩ | ⟨rfl, rfl⟩ | ⟨rfl, rfl⟩ | ⟨rfl, rfl⟩ | ⟨rfl, rfl⟩ | ⟨rfl, rfl⟩ | ⟨rfl, rfl⟩
    · exact ⟨_, _, rfl, PySem.W.mg_of X G gn10, gOk_dct gd10 gv10⟩
    · exact ⟨_, _, rfl, PySem.W.mg_of X G gn13, gOk_val gv13 rfl⟩
    · exact ⟨_, _, rfl, PySem.W.mg_of X G gn17, gOk_dct gd17 gv17⟩
    · exact ⟨_, _, rfl, PySem.W.mg_of X G gn7, gOk_val gv7 rfl⟩
    · exact ⟨_, _, rfl, PySem.W.mg_of X G gn3, gOk_val gv3 rfl⟩
    · exact ⟨_, _, rfl, PySem.W.mg_of X G gn6, gOk_val gv6 rfl⟩
    · exact ⟨_, _, rfl, PySem.W.mg_of X G gn18, gOk_val gv18 rfl⟩
    · exact ⟨_, _, rfl, PySem.W.mg_of X G gn19, gOk_dct gd19 gv19⟩
  have xc : XcOk tb l.prog w K mg base := by
    refine ⟨fun c hx => ?_, fun c f hx => ?_⟩
    · simp only [tb, List.mem_cons, List.not_mem_nil, or_false] at hx
      rcases hx with rfl | rfl | rfl | rfl | rfl | rfl
      · exact ⟨by decide, X4, PySem.W.mg_of X G xa4, xa4⟩
      · exact ⟨by decide, X3, PySem.W.mg_of X G xa3, xa3⟩
      · exact ⟨by decide, X2, PySem.W.mg_of X G xa2, xa2⟩
      · exact ⟨by decide, X5, PySem.W.mg_of X G xa5, xa5⟩
      · exact ⟨by decide, X0, PySem.W.mg_of X G xa0, xa0⟩
      · exact ⟨by decide, X1, PySem.W.mg_of X G xa1, xa1⟩
    · simp only [tb, List.mem_cons, List.not_mem_nil, or_false, Prod.mk.injEq] at hx
      rcases hx with ⟨rfl, rfl⟩
      · have FX := fun_mk (st := s_xi3) xl3 xm3 xn3
        have XI : XInit K mg X3 "word" s_xi3 ["self", "words", "word"] := ⟨(oexB_ok xf3 xg3 xh3).1, ⟨"SayError", X5, "self", "words", "word", _, _, _, _, _, _, _, _, _, _, rfl, rfl, by decide +kernel, by decide +kernel, by decide, PySem.W.mg_of X G xa5, baseB_ok xd5 xe5, by decide +kernel, by decide +kernel, by decide +kernel, by decide, by decide, by decide⟩, (oexB_ok xf3 xg3 xh3).2⟩
        exact ⟨X3, PySem.W.mg_of X G xa3, (errB_ok xb3).1, (errB_ok xb3).2, xr2_mk FX ⟨rfl, rfl, rfl, by decide +kernel, rfl, by decide +kernel, by decide +kernel⟩ XI xi3 xj3 (FX.binds (ps := ["self", "words", "word"]) fun _ _ _ _ _ _ us hl => match us, hl with | [_, _, _], _ => rfl)⟩
  have FN := fns_ok (P := l.prog) (w := w) (base := base) (G := GG) bl gls fns fl mt mks xc 40 d_p_law_79 _ _ ok_p_law_79 A22.1 (lams_no (by decide +kernel))
  exact FN.imp (law_ok hlaw)
end Mi.Lw
theorem PySem.Challenge.cw_somesay_k70_numbers_and_depths_of_texts_holds : PySem.Challenge.rw_somesay_k70_numbers_and_depths_of_texts.Holds :=
  Mi.Lw.head_of (Mi.Lw.all_mk Mi.Lw.law_true)
