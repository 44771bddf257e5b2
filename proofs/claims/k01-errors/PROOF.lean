import PyProof.Rows.All
import Wide.All
import OpenK.AllK
import Wide.FinOn
import KE.KStateDown
import HandS.Head0
import HandS.Head1
import HandS.Head2
import HandS.HeadEnd
import HandS.ForMost
import HandS.ForExc
import HandS.ExcField
import HandS.HeadHook2
import PySem.Str
import HandS.Text
import PySem.Challenge.RW_truthfees_k01_errors_by_class
import HandS.NoneIn
import HandS.Iter
import HandS.OwnEq
import PyProof.InstNe
import HandS.More
import HandS.TupAny
import HandS.ClsMeth
import HandS.Wide
import HandS.CallSlots
import HandS.Star
import HandS.ExcInit
import KE.KOpsOwn
import KE.KEqDict
import PyProof.DictFindH
import HandS.TupLe
import HandS.RaiseMore
import HandS.SortInts
import HandS.TupSets
import KE.KOwnIter
import HandS.IterNext
import HandS.IterVal
import KE.KExcSuper
import HandS.ExcCtx
import HandS.FStr
import KE.KCallOwn
import HandS.TryMany
import HandS.Defaults
import HandS.GenList
import PyProof.ForAny
import HandS.SuiteRaise
import HandS.RaiseFrom
import HandS.ExcInitHot
import PyProof.CompFree
import HandS.GenYield
import HandS.Conv
import KE.KDictCopyH
import HandS.Hot
import OpenK.KOps
import HandS.OwnIter
import HandS.Zip
import PyProof.EnumMake
import PyProof.Draws
import KE.GoesMore
import KE.GoesZip
import KE.GoesEnum
import PyProof.MeetsIn
import PyProof.Rows.Range3
import HandS.DictComp
import KE.KDictWalk
import HandS.Sort
import HandS.SetFor
import HandS.Style
import HandS.Finally
import KE.KDictKeyed
import KE.KExcIs
import HandS.ExcIs
import KE.KIntText
section
set_option Elab.async false
set_option linter.all false
namespace Tf
abbrev Str := PySem.Str
inductive D where
  | non | bl (b : Bool) | int (i : Int) | str (s : Str)
  | tup (xs : List D) | lst (xs : List D)
  | ins (c : Nat) (fs : List (Nat × D))
  | dcI (kvs : List (Int × D)) | dcT (kvs : List (List Int × D))
  | cls (c : Nat)
  | scr (ns : List Int)
  | lkI (kvs : List (Int × D)) | lkT (kvs : List (List Int × D))
  | exn (c : Nat) (fs : List (Nat × D))
inductive O where
  | d (x : D) | lst (xs : List O)
  | ins (c : Nat) (fs : List (Nat × O))
  | dcI (kvs : List (Int × O)) | dcT (kvs : List (List Int × O))
mutual
def O.frz : O → D
  | .d x => x
  | .lst xs => .lst (O.frzL xs)
  | .ins c fs => .ins c (O.frzF fs)
  | .dcI kvs => .dcI (O.frzI kvs)
  | .dcT kvs => .dcT (O.frzT kvs)
def O.frzL : List O → List D
  | [] => []
  | x :: xs => x.frz :: O.frzL xs
def O.frzF : List (Nat × O) → List (Nat × D)
  | [] => []
  | (k, x) :: xs => (k, x.frz) :: O.frzF xs
def O.frzI : List (Int × O) → List (Int × D)
  | [] => []
  | (k, x) :: xs => (k, x.frz) :: O.frzI xs
def O.frzT : List (List Int × O) → List (List Int × D)
  | [] => []
  | (k, x) :: xs => (k, x.frz) :: O.frzT xs
end
mutual
def O.lkd : O → D
  | .d x => x
  | .lst xs => .lst (O.lkdL xs)
  | .ins c fs => .ins c (O.lkdF fs)
  | .dcI kvs => .lkI (O.lkdI kvs)
  | .dcT kvs => .lkT (O.lkdT kvs)
def O.lkdL : List O → List D
  | [] => []
  | x :: xs => x.lkd :: O.lkdL xs
def O.lkdF : List (Nat × O) → List (Nat × D)
  | [] => []
  | (k, x) :: xs => (k, x.lkd) :: O.lkdF xs
def O.lkdI : List (Int × O) → List (Int × D)
  | [] => []
  | (k, x) :: xs => (k, x.lkd) :: O.lkdI xs
def O.lkdT : List (List Int × O) → List (List Int × D)
  | [] => []
  | (k, x) :: xs => (k, x.lkd) :: O.lkdT xs
end
inductive Sl where
  | own (o : O) | lent (o : O)
abbrev Fr := List (Option Sl)
inductive Val where
  | d (x : D) | b (i : Nat) (o : O) | o (o : O)
structure Xv where
  c : Nat
  ds : List D
inductive Res (α : Type) where
  | ok (a : α) (σ : Fr) | exc (x : Xv) (σ : Fr) | bad
inductive CR where
  | ret (v : Val) (ls : List O) | exc (x : Xv) (ls : List O) | bad
def Res.bind {α β : Type} (r : Res α) (f : α → Fr → Res β) : Res β := match r with
  | .ok a σ => f a σ
  | .exc x σ => .exc x σ
  | .bad => .bad
def Res.map {α β : Type} (r : Res α) (f : α → β) : Res β := r.bind fun a σ => .ok (f a) σ
def opt {α β : Type} (o : Option α) (f : α → Res β) : Res β := match o with
  | some a => f a
  | none => .bad
inductive Bop where | add | sub | mul | fdiv | mod | pow | band | bor deriving DecidableEq
inductive Cop where | eq | ne | lt | le | gt | ge | is_ | isnot | in_ | notin deriving DecidableEq
inductive Mode where | val | lend deriving DecidableEq
inductive Md where | val | pk | tst deriving DecidableEq
inductive Bi where | len | abs | int | bool | str | list | tuple | sum | min | max | all | any | sorted deriving DecidableEq
inductive Cs where | own (c : Nat) | int | bool | str | list | tuple deriving DecidableEq
inductive Bm where | index | count | join | split | items | values | get deriving DecidableEq
inductive Bw where | append | extend | pop | clear deriving DecidableEq
inductive Tg where | var (i : Nat) | tup (ts : List Tg)
inductive Pk where | arg (j : Nat) | dfl (d : D)
inductive Sa where | fld (f : Nat) | own (f : Nat) | var (j : Nat)
mutual
inductive E where
  | cst (d : D) | var (i : Nat) | glo (x : Nat) | clsv (c : Nat) | never
  | fld (a : E) (f : Nat) | idx (a i : E) | slc (a : E) (lo hi : Eo)
  | tup (es : Es) | lst (own : Bool) (es : Es)
  | neg (a : E) | sto (a : E) | fmt (a : E) (s : Str) (b : E) | mxm (mx : Bool) (a b : E) | rev (a : E) | bin (op : Bop) (a b : E) | cmp (op : Cop) (a b : E) | cmpv (op : Cop) (i : Nat) (b : E) | cmpw (op : Cop) (a : E) (i : Nat) | chn (p q : Cop) (a b c : E)
  | not (a : E) | and (a b : E) | or (a b : E) | ife (c a b : E)
  | call (f : Nat) (as : Es) | make (c : Nat) (as : Es) | callv (a : E) (as : Es) | calli (a : E) (as : Es)
  | meth (a : E) (m : Nat) (as : Es) | methL (i : Nat) (m : Nat) (as : Es) | cmeth (a : E) (m : Nat) (as : Es)
  | bi (b : Bi) (a : E) | lsi (a : E) | leni (a : E) | lsto (a : E) | idxm (a b : E) | boo (a : E) | isin (a : E) (c : Cs) | bm (a : E) (m : Bm) (b : E)
  | comp (own : Bool) (elt : E) (tg : Tg) (it : It) (cs : Es) (vs : List Nat)
  | dnew (t : Bool) | dcomp (t : Bool) (kx vx : E) (tg : Tg) (it : It) (cs : Es) (vs : List Nat) | dcompk (t : Bool) (kx vx : E) (tg : Tg) (i f : Nat) (cs : Es) (vs : List Nat)
  | lk (e : E) | lkv (i : Nat) | dmrg (a b : E) | mmv (mx : Bool) (a : E) | dget (a k : E) | callk (f : Nat) (as ks : Es)
  | callf (f i : Nat) | ldk (a : E) | dcpy (a : E) | cntv (i : Nat) (b : E) | callp (f i : Nat) (as : List Sa) | leno (i : Nat) | frz (i : Nat) (e : E) | frza (e : E) | frzn (e : E) | exm (c : Nat) (ks : List Nat) (as : Es) | fldx (a : E) (c f : Nat) | isx (a : E) (cs : List Nat) | nox (e : E) | compx (own : Bool) (elt : E) (tg : Tg) (it : It) (cs : Es) (vs : List Nat)
  | comp2 (own : Bool) (elt : E) (tg : Tg) (it : It) (cs : Es) (tg2 : Tg) (it2 : It) (cs2 : Es) (vs vs2 : List Nat)
  | gen (b : Gst) | gcall (f : Nat) (as : Es) | lrg (a : E) | lsio (a : E) | idxq (a f k : Nat)
inductive Eo where | none | some (e : E)
inductive Es where | nil | cons (star : Bool) (e : E) (r : Es)
inductive Gst where | yld (e : E) | yfr (e : E) | for_ (tg : Tg) (it : It) (b : Gst)
inductive It where | seq (e : E) | rng (as : Es) | enum (e : E) | zip (a b : E) | keys (e : E) | items (e : E) | vals (e : E)
end
inductive Pl where | root | fld (p : Pl) (f : Nat) | ix (p : Pl) (e : E)
mutual
inductive S where
  | asg (i : Nat) (e : E) | asgT (ts : List Tg) (e : E) | par (i j : Nat) (a b : E) | par3 (i j l : Nat) (a b c : E) | parc (i j : Nat) (a b : E)
  | sfld (a : Nat) (f : Nat) (e : E) | sidx (a : Nat) (i : E) (e : E) | tapp (a e : E)
  | pset (a : Nat) (p : Pl) (k e : E) | papp (a : Nat) (p : Pl) (e : E) | pext (a : Nat) (p : Pl) (e : E) | ppop (a : Nat) (p : Pl) | pclr (a : Nat) (p : Pl) | dclr (a : Nat) (p : Pl)
  | bw (a : Nat) (m : Bw) (as : Es)
  | expr (e : E) | ret (e : E) | retv (i : Nat) | retN | ife (c : E) (a b : Ss) | whl (c : E) (b : Ss)
  | for_ (tg : Tg) (it : It) (b : Ss)
  | raise (c : Nat) (as : Es) | brk | cont | pass | never
  | tryc (b : Ss) (hs : Hs)
  | noret (b : Ss)
  | pappq (a : Nat) (p : Pl) (f fld : Nat) (as : Es)
  | pars (a : Nat) (i : E) (b : Nat) (j : E) (e f : E) | swpL (as : List Nat) (v : Nat) (e1 e2 : E)
inductive Ss where | nil | cons (s : S) (r : Ss)
inductive Hs where | nil | cons (c : Nat) (i : Nat) (h : H) (r : Hs)
inductive H where | ret (e : HE) | never | nxt | ifr (c e : HE) (h : H) | asg (i : Nat) (e : HE) (h : H) | app (i : Nat) (e : HE) (h : H) | rais (c : Nat) (es : HEs) | reto (es : HEs)
inductive HE where | cst (d : D) | exf (k : Nat) | var (i : Nat) | lst (es : HEs) | tup (es : HEs) | eq (a b : HE) | ne (a b : HE) | le (a b : HE) | lt (a b : HE) | or (a b : HE) | len (a : HE) | teq (a b : HE) | chn (a b c : HE) | idx (a : HE) (i : Int) | and (a b : HE) | not (a : HE) | isin (a : HE) (c : Cs)
inductive HEs where | nil | cons (e : HE) (r : HEs)
end
structure DefI where
  np : Nat
  star : Bool
  modes : List Mode
  ns : Nat
  own : Bool
  body : Ss
  sel : Option (List Pk) := none
structure ClsI where
  frz : Bool
  init : Nat
  meths : List (Nat × Nat)
  cms : List (Nat × Nat)
  exn : Option Nat
  it : Option Nat := none
structure Prog where
  defs : List DefI
  clss : List ClsI
  glos : List D
def Prog.meth (G : Prog) (c m : Nat) : Option Nat := (G.clss[c]?).bind fun C => C.meths.lookup m
def Prog.cmeth (G : Prog) (c m : Nat) : Option Nat := (G.clss[c]?).bind fun C => C.cms.lookup m
def clsIt (G : Prog) (c : Nat) : Option Nat := (G.clss[c]?).bind fun C => C.it
def m_eq := 0
def m_add := 1
def m_sub := 2
def m_mul := 3
def m_neg := 4
def m_bool := 5
def m_len := 6
def m_call := 8
def m_and := 9
def m_or := 10
def m_str := 11
def D.ints : List D → Option (List Int)
  | [] => some []
  | .int i :: r => (D.ints r).map (i :: ·)
  | _ => none
def D.bls : List D → Option (List Bool)
  | [] => some []
  | .bl i :: r => (D.bls r).map (i :: ·)
  | _ => none
def maxI : List Int → Int
  | [] => 0
  | a :: r => r.foldl (fun m b => if m < b then b else m) a
def minI : List Int → Int
  | [] => 0
  | a :: r => r.foldl (fun m b => if b < m then b else m) a
def mulOk (i j : Int) : Bool := decide (i.natAbs < 18446744073709551616) || decide (j.natAbs < 18446744073709551616) || decide (i.natAbs.log2 + j.natAbs.log2 < 1000000)
def lineN : Nat := 16777216
def sortI (ns : List Int) : List Int := ns.mergeSort fun a b => decide (a ≤ b)
def binI : Bop → Int → Int → Option Int
  | .add, i, j => some (i + j)
  | .sub, i, j => some (i - j)
  | .mul, i, j => if mulOk i j = true then some (i * j) else none
  | .fdiv, i, j => if j ≠ 0 ∧ j.natAbs.log2 < 9000 then some (i.fdiv j) else none
  | .mod, i, j => if 0 < j then some (i % j) else none
  | .pow, i, j => if 0 ≤ j ∧ j ≤ 1000000 ∧ i.natAbs < 18446744073709551616 then some (i ^ j.toNat) else none
  | _, _, _ => none
def signs (s : Str) : List D := s.cps.toList.map fun c => D.str ⟨#[c]⟩
def binD : Bop → D → D → Option D
  | op, .int i, .int j => (binI op i j).map .int
  | .add, .lst xs, .lst ys => if xs.length + ys.length ≤ lineN then some (.lst (xs ++ ys)) else none
  | .add, .tup xs, .tup ys => if xs.length + ys.length ≤ lineN then some (.tup (xs ++ ys)) else none
  | .add, .str a, .str b => if a.length + b.length ≤ lineN then some (.str (a ++ b)) else none
  | .mul, .lst xs, .int n => if n < 9223372036854775808 ∧ -9223372036854775808 ≤ n ∧ xs.length * n.toNat ≤ lineN then some (.lst ((List.replicate n.toNat xs).flatten)) else none
  | _, _, _ => none
def place (n : Nat) (i : Int) : Option Nat :=
  if 0 ≤ i then (if i < n then some i.toNat else none) else (if 0 ≤ i + n then some (i + n).toNat else none)
def cutAt (n : Nat) (d : Nat) : Option Int → Nat
  | none => d
  | some i => if 0 ≤ i then min i.toNat n else (i + n).toNat
def cutL {α : Type} (xs : List α) (lo hi : Option Int) : List α := (xs.take (cutAt xs.length xs.length hi)).drop (cutAt xs.length 0 lo)
def itemsD : D → Option (List D)
  | .lst xs => some xs
  | .tup xs => some xs
  | .scr ns => some (ns.map D.int)
  | _ => none
def lstD : D → Option (List D)
  | .lst xs => some xs
  | .scr ns => some (ns.map D.int)
  | _ => none
def lst1 : D → Option (List D)
  | .lst xs => some xs
  | _ => none
def zipD : D → D → Option (List D)
  | .lst xs, .lst ys => some ((xs.zip ys).map fun p => D.tup [p.1, p.2])
  | .tup xs, .tup ys => some ((xs.zip ys).map fun p => D.tup [p.1, p.2])
  | .lst xs, .tup ys => some ((xs.zip ys).map fun p => D.tup [p.1, p.2])
  | _, _ => none
def iterD : D → Option (List D)
  | .str s => some (signs s)
  | x => itemsD x
def tupD : D → Option (List D)
  | .tup xs => some xs
  | _ => none
def itemsI (G : Prog) : D → Option (List D)
  | .ins c fs => (clsIt G c).bind fun f => (fs.lookup f).bind tupD
  | x => iterD x
def enumD (G : Prog) : D → Option (List D)
  | .ins c fs => itemsI G (.ins c fs)
  | x => itemsD x
def truthD : D → Option Bool
  | .non => some false
  | .bl b => some b
  | .int i => some (i != 0)
  | .lst xs => some (!xs.isEmpty)
  | .tup xs => some (!xs.isEmpty)
  | _ => none
def truthV : Val → Option Bool
  | .d x => truthD x
  | .b _ (.lst xs) => some (!xs.isEmpty)
  | .b _ (.dcI kvs) => some (!kvs.isEmpty)
  | .o (.lst xs) => some (!xs.isEmpty)
  | _ => none
def D.keyT : D → Option (List Int)
  | .tup xs => D.ints xs
  | _ => none
def selD : D → D → Option D
  | .lst xs, .int i => (place xs.length i).bind fun k => xs[k]?
  | .tup xs, .int i => (place xs.length i).bind fun k => xs[k]?
  | .scr ns, .int i => (place ns.length i).bind fun k => (ns[k]?).map D.int
  | .dcI kvs, .int i => kvs.lookup i
  | .lkI kvs, .int i => kvs.lookup i
  | .dcT kvs, .tup ks => (D.ints ks).bind fun k => kvs.lookup k
  | .lkT kvs, .tup ks => (D.ints ks).bind fun k => kvs.lookup k
  | .str z, .int i => if z.length ≤ lineN then ((place z.cps.toList.length i).bind fun k => (z.cps.toList)[k]?).map fun c => D.str ⟨#[c]⟩ else none
  | _, _ => none
def Val.ofO (i : Nat) (x : O) : Val := match x with
  | .d y => .d y
  | x => .b i x
def selO (r : Nat) : O → D → Option Val
  | .lst xs, .int i => ((place xs.length i).bind fun k => xs[k]?).map (Val.ofO r)
  | .dcI kvs, .int i => (kvs.lookup i).map (Val.ofO r)
  | .dcT kvs, .tup ks => (D.ints ks).bind fun k => (kvs.lookup k).map (Val.ofO r)
  | _, _ => none
def selV : Val → D → Option Val
  | .d x, k => (selD x k).map .d
  | .b r o, k => selO r o k
  | .o _, _ => none
def hasV : Val → D → Option Bool
  | .d (.dcI kvs), .int i => some (kvs.lookup i).isSome
  | .d (.lkI kvs), .int i => some (kvs.lookup i).isSome
  | .b _ (.dcI kvs), .int i => some (kvs.lookup i).isSome
  | .d (.dcT kvs), .tup ks => (D.ints ks).map fun k => (kvs.lookup k).isSome
  | .d (.lkT kvs), .tup ks => (D.ints ks).map fun k => (kvs.lookup k).isSome
  | .b _ (.dcT kvs), .tup ks => (D.ints ks).map fun k => (kvs.lookup k).isSome
  | _, _ => none
def dcV : Val → Option Unit
  | .d (.dcI _) => some ()
  | .d (.lkI _) => some ()
  | .d (.dcT _) => some ()
  | .d (.lkT _) => some ()
  | .b _ (.dcI _) => some ()
  | .b _ (.dcT _) => some ()
  | _ => none
def getV (v : Val) (k : D) : Option Val := (hasV v k).bind fun h => match h with
  | true => selV v k
  | false => some (.d .non)
def valsD : D → Option (List D)
  | .dcT kvs => some (kvs.map (·.2))
  | .lkT kvs => some (kvs.map (·.2))
  | _ => none
def keyT (k : List Int) : D := .tup (k.map D.int)
def lkKeys : D → Option (List D)
  | .lkI kvs => some (kvs.map fun p => D.int p.1)
  | .lkT kvs => some (kvs.map fun p => keyT p.1)
  | _ => none
def lkVals : D → Option (List D)
  | .lkI kvs => some (kvs.map fun p => p.2)
  | .lkT kvs => some (kvs.map fun p => p.2)
  | _ => none
def lkItems : D → Option (List D)
  | .lkI kvs => some (kvs.map fun p => D.tup [D.int p.1, p.2])
  | .lkT kvs => some (kvs.map fun p => D.tup [keyT p.1, p.2])
  | _ => none
def ofD : O → Option D
  | .d x => some x
  | _ => none
def datT : List (List Int × O) → Option (List (List Int × D))
  | [] => some []
  | (k, x) :: r => (ofD x).bind fun y => (datT r).map ((k, y) :: ·)
def dcData : Val → Option (List (List Int × D))
  | .d (.dcT kvs) => some kvs
  | .d (.lkT kvs) => some kvs
  | .b _ (.dcT kvs) => datT kvs
  | .o (.dcT kvs) => datT kvs
  | _ => none
def smallK : List Int → Bool
  | [a, b] => decide (0 ≤ a) && decide (a < 6) && decide (0 ≤ b) && decide (b < 6)
  | _ => false
def putAll {α : Type} (put : List Int → α → List (List Int × α) → List (List Int × α)) : List (List Int × α) → List (List Int × α) → List (List Int × α)
  | [], m => m
  | (k, v) :: r, m => putAll put r (put k v m)
def dEmp (t : Bool) : O := match t with
  | true => .dcT []
  | false => .dcI []
def fldV : Val → Nat → Option Val
  | .d (.ins _ fs), f => (fs.lookup f).map .d
  | .b r (.ins _ fs), f => (fs.lookup f).map (Val.ofO r)
  | _, _ => none
def allD : List O → Option (List D)
  | [] => some []
  | .d x :: r => (allD r).map (x :: ·)
  | _ => none
def itemsV : Val → Option (List D)
  | .d x => itemsD x
  | .b _ (.lst xs) => allD xs
  | _ => none
def lenV : Val → Option Nat
  | .d (.lst xs) => some xs.length
  | .d (.tup xs) => some xs.length
  | .d (.scr ns) => some ns.length
  | .d (.str z) => if z.length ≤ lineN then some z.length else none
  | .b _ (.lst xs) => some xs.length
  | _ => none
def toD : Val → Option D
  | .d x => some x
  | .o o => some o.frz
  | .b _ _ => none
abbrev Call := Nat → List Sl → CR
def owned (x : D) : Sl := .own (.d x)
def ansB : CR → Option Bool
  | .ret (.d (.bl b)) [] => some b
  | _ => none
def eqL (rec : D → D → Option Bool) : List D → List D → Option Bool
  | [], _ => some true
  | x :: xs, ys => match ys with
    | [] => some true
    | y :: ys => match rec x y with
      | some true => eqL rec xs ys
      | some false => some false
      | none => none
def eqTo : D → Bool
  | .dcI _ => false
  | .dcT _ => false
  | .cls _ => false
  | .lkI _ => false
  | .lkT _ => false
  | .exn _ _ => false
  | _ => true
def tabD : D → Option (List (List Int × D))
  | .dcT kvs => some kvs
  | .lkT kvs => some kvs
  | _ => none
def intsT : List (List Int × D) → Option (List (List Int × Int))
  | [] => some []
  | (k, .int n) :: r => (intsT r).map ((k, n) :: ·)
  | _ => none
def dEq (x y : D) : Option Bool := (tabD x).bind fun k => (tabD y).bind fun l => (intsT k).bind fun a => (intsT l).bind fun b => if a = b then some true else none
mutual
def D.noD : D → Bool
  | .dcI _ => false
  | .dcT _ => false
  | .lkI _ => false
  | .lkT _ => false
  | .exn _ _ => false
  | .tup xs => D.noDs xs
  | .lst xs => D.noDs xs
  | .ins _ fs => D.noDf fs
  | _ => true
def D.noDs : List D → Bool
  | [] => true
  | x :: xs => x.noD && D.noDs xs
def D.noDf : List (Nat × D) → Bool
  | [] => true
  | (_, x) :: xs => x.noD && D.noDf xs
end
def allT (rec : D → D → Option Bool) : List (List Int × D) → List (List Int × D) → Bool
  | [], [] => true
  | (k, x) :: xs, (l, y) :: ys => decide (k = l) && x.noD && y.noD && (rec x y == some true) && allT rec xs ys
  | _, _ => false
def dEqV (rec : D → D → Option Bool) (x y : D) : Option Bool := (tabD x).bind fun k => (tabD y).bind fun l => if allT rec k l = true then some true else none
def eqA (G : Prog) (cl : Call) (rec : D → D → Option Bool) (x y : D) : Option Bool := match x with
  | .non => (match y with
    | .non => some true
    | .bl _ => some false
    | .int _ => some false
    | .str _ => some false
    | .ins c fs => (match G.meth c m_eq with
      | some f => ansB (cl f [owned (.ins c fs), owned .non])
      | none => none)
    | _ => none)
  | .bl a => (match y with
    | .bl b => some (a == b)
    | .non => some false
    | .str _ => some false
    | _ => none)
  | .int a => (match y with
    | .int b => some (a == b)
    | .non => some false
    | .str _ => some false
    | _ => none)
  | .str a => (match y with
    | .str b => some (a == b)
    | .non => some false
    | .bl _ => some false
    | .int _ => some false
    | _ => none)
  | .lst xs => (match y with
    | .lst ys => if xs.length = ys.length then eqL rec xs ys else some false
    | _ => none)
  | .tup xs => (match y with
    | .tup ys => (eqL rec xs ys).map fun b => b && decide (xs.length = ys.length)
    | _ => none)
  | .ins c fs => (match G.meth c m_eq, eqTo y with
    | some f, true => ansB (cl f [owned (.ins c fs), owned y])
    | _, _ => none)
  | .dcT kvs => (dEq (.dcT kvs) y).or (dEqV rec (.dcT kvs) y)
  | .lkT kvs => (dEq (.lkT kvs) y).or (dEqV rec (.lkT kvs) y)
  | _ => none
def eqD (G : Prog) (cl : Call) : Nat → D → D → Option Bool
  | 0 => eqA G cl fun _ _ => none
  | d + 1 => eqA G cl (eqD G cl d)
def eqN : Nat := 5
def scalD : D → Bool
  | .non => true
  | .bl _ => true
  | .int _ => true
  | .str _ => true
  | _ => false
def isLstV : Val → Bool
  | .d (.lst _) => true
  | .b _ (.lst _) => true
  | _ => false
def isNon : D → Bool
  | .non => true
  | _ => false
def neTo : D → Bool
  | _ => true
def memD (G : Prog) (cl : Call) (x : D) : List D → Option Bool
  | [] => some false
  | y :: ys => match eqD G cl eqN y x with
    | some true => some true
    | some false => memD G cl x ys
    | none => none
def cmpD (G : Prog) (cl : Call) : Cop → D → D → Option Bool
  | .eq, x, y => eqD G cl eqN x y
  | .ne, x, y => if neTo x then (eqD G cl eqN x y).map not else none
  | .lt, .int i, .int j => some (decide (i < j))
  | .le, .int i, .int j => some (decide (i ≤ j))
  | .gt, .int i, .int j => some (decide (j < i))
  | .ge, .int i, .int j => some (decide (j ≤ i))
  | .is_, x, .non => some (isNon x)
  | .isnot, x, .non => some (!isNon x)
  | .is_, .bl a, .bl b => some (decide (a = b))
  | .isnot, .bl a, .bl b => some (!decide (a = b))
  | _, _, _ => none
def memS : D → Str → Option Bool
  | .str y, z => (match y.cps.toList with
    | [c] => some (decide (c ∈ z.cps.toList))
    | _ => none)
  | _, _ => none
def memO (G : Prog) (cl : Call) (x : D) (v : Val) : Option Bool := (itemsV v).bind fun ys => if (scalD x && ys.all scalD) || isLstV v then memD G cl x ys else none
def txtV : Val → Option Str
  | .d (.str z) => some z
  | _ => none
def memV (G : Prog) (cl : Call) (x : D) (v : Val) : Option Bool := match txtV v with
  | some z => memS x z
  | none => (memO G cl x v).or (hasV v x)
def toF : Val → Option D
  | .d x => some x
  | .o o => some o.frz
  | .b _ o => some o.frz
def cmpV (G : Prog) (cl : Call) (op : Cop) (x : D) (v : Val) : Option Bool := match op with
  | .in_ => memV G cl x v
  | .notin => (memV G cl x v).map not
  | op => (toF v).bind fun y => cmpD G cl op x y
def isinD : D → Cs → Option Bool
  | .ins c _, .own k => some (c == k)
  | .ins _ _, _ => some false
  | .cls _, _ => none
  | .dcI _, _ => none
  | .dcT _, _ => none
  | .lkI _, _ => none
  | .lkT _, _ => none
  | .exn _ _, _ => none
  | .scr _, .list => some true
  | .scr _, _ => some false
  | _, .own _ => some false
  | .int _, .int => some true
  | .bl _, .int => some true
  | .bl _, .bool => some true
  | .str _, .str => some true
  | .lst _, .list => some true
  | .tup _, .tuple => some true
  | _, _ => some false
def Fr.get (σ : Fr) (i : Nat) : Option Sl := (σ[i]?).join
def Fr.put (σ : Fr) (i : Nat) (s : Option Sl) : Fr := σ.set i s
def giveBack : Fr → List (Option (Nat × Bool)) → List O → Option Fr
  | σ, [], [] => some σ
  | σ, none :: bk, _ :: os => giveBack σ bk os
  | σ, some (i, l) :: bk, o :: os => giveBack (σ.put i (some (if l then .lent o else .own o))) bk os
  | _, _, _ => none
def after (r : CR) (bk : List (Option (Nat × Bool))) (σ : Fr) : Res Val := match r with
  | .ret v ls => opt (giveBack σ bk ls) fun σ => .ok v σ
  | .exc x ls => opt (giveBack σ bk ls) fun σ => .exc x σ
  | .bad => .bad
def lentAt (σ : Fr) (i : Nat) : Option (O × Bool) := match Fr.get σ i with
  | some (.own o) => some (o, false)
  | some (.lent o) => some (o, true)
  | none => none
def classO : O → Option Nat
  | .d (.ins c _) => some c
  | .ins c _ => some c
  | _ => none
def slD : Sl → Option D
  | .own (.d x) => some x
  | _ => none
def slDs : List Sl → Option (List D)
  | [] => some []
  | s :: r => (slD s).bind fun x => (slDs r).map (x :: ·)
def nArg : List Pk → Nat
  | [] => 0
  | .arg _ :: r => nArg r + 1
  | .dfl _ :: r => nArg r
def selPk (xs : List D) : List Pk → Option (List D)
  | [] => some []
  | .arg j :: r => (xs[j]?).bind fun x => (selPk xs r).map (x :: ·)
  | .dfl d :: r => (selPk xs r).map (d :: ·)
def packed (D : DefI) (ss : List Sl) : Option (List Sl) := match D.star with
  | false => some ss
  | true => (match D.sel with
    | some ps => (slDs ss).bind fun xs => if xs.length = nArg ps then (selPk xs ps).map fun ys => ys.map owned else none
    | none => (slDs (ss.drop (D.np - 1))).bind fun r => if r.length ≤ lineN then some (ss.take (D.np - 1) ++ [owned (.tup r)]) else none)
def lentsOf : Fr → List Mode → Option (List O)
  | _, [] => some []
  | some (.lent o) :: σ, .lend :: ms => (lentsOf σ ms).map (o :: ·)
  | _ :: σ, .val :: ms => lentsOf σ ms
  | _, _ => none
def fin (md : Md) (v : Val) (σ : Fr) : Res Val := match md with
  | .val => (match v with
    | .b _ _ => .bad
    | v => .ok v σ)
  | .pk => .ok v σ
  | .tst => opt (truthV v) fun b => .ok (.d (.bl b)) σ
def bl (b : Bool) : Val := .d (.bl b)
def getBig (md : Md) (i : Nat) (o : O) (σ' σ : Fr) : Res Val := match md with
  | .val => .ok (.d o.frz) σ'
  | .pk => .ok (.b i o) σ
  | .tst => fin .tst (.b i o) σ
def getO (md : Md) (i : Nat) (o : O) (mk : O → Sl) (σ : Fr) : Res Val := match o with
  | .d x => fin md (.d x) σ
  | o => getBig md i o (σ.put i (some (mk (.d o.frz)))) σ
def getVar (md : Md) (i : Nat) (σ : Fr) : Res Val := match σ.get i with
  | some (.own o) => getO md i o .own σ
  | some (.lent o) => getO md i o .lent σ
  | none => .bad
def hidden {α : Type} (i : Nat) (σ : Fr) (f : Fr → Res α) : Res α := match σ[i]? with
    | some (some s) => (match f (σ.put i none) with
      | .ok a σ' => .ok a (σ'.put i (some s))
      | .exc x σ' => .exc x (σ'.put i (some s))
      | .bad => .bad)
    | _ => .bad
def asg (tg : Tg) (v : D) (σ : Fr) : Option Fr := match tg with
  | .var i => (match σ[i]? with
    | some (some (.lent _)) => none
    | some _ => some (σ.put i (some (owned v)))
    | none => none)
  | .tup ts => (itemsD v).bind fun xs => asgs ts xs σ
where asgs (ts : List Tg) (xs : List D) (σ : Fr) : Option Fr := match ts, xs with
  | [], [] => some σ
  | t :: ts, x :: xs => (asg t x σ).bind fun σ => asgs ts xs σ
  | _, _ => none
def rngOf : List D → Option (List D)
  | [.int n] => if -4611686018427387904 ≤ n ∧ n < 4611686018427387904 then some ((List.range n.toNat).map fun (k : Nat) => D.int k) else none
  | [.int a, .int b] => if -4611686018427387904 ≤ a ∧ a < 4611686018427387904 ∧ -4611686018427387904 ≤ b ∧ b < 4611686018427387904 then some ((List.range (b - a).toNat).map fun (k : Nat) => D.int (a + k)) else none
  | _ => none
def enumL (k : Nat) : List D → List D
  | [] => []
  | x :: xs => .tup [.int k, x] :: enumL (k + 1) xs
def D.strs : List D → Option (List Str)
  | [] => some []
  | .str i :: r => (D.strs r).map (i :: ·)
  | _ => none
def bmV : Bm → Str → D → Option D
  | .split, a, .str b => if 0 < b.length ∧ a.length + 2 ≤ lineN then some (.lst ((PySem.Txt.split a b).map D.str)) else none
  | .join, a, .lst xs => (D.strs xs).bind fun ys => if (ys.map (·.length)).sum + ys.length * a.length ≤ lineN then some (.str (PySem.Txt.join a ys)) else none
  | _, _, _ => none
def fmtD : D → Option Str
  | .int i => if i.natAbs.log2 < 1920 then some (PySem.Str.ofString (toString i)) else none
  | .str z => if z.length ≤ lineN then some z else none
  | _ => none
def fmtA (x : D) (s : Str) : Option Str := (fmtD x).bind fun a => if a.length ≤ lineN ∧ (a ++ s).length ≤ lineN then some (a ++ s) else none
def fmtB (p : Str) (y : D) : Option D := (fmtD y).bind fun b => if (p ++ b).length ≤ lineN then some (.str (p ++ b)) else none
def mxV (mx : Bool) : D → D → Option D
  | .int i, .int j => some (.int (if mx then (if j > i then j else i) else (if j < i then j else i)))
  | _, _ => none
def revV : D → Option D
  | .lst xs => some (.lst xs.reverse)
  | _ => none
def lstItems (v : Val) : Option (List D) := match v with
  | .d (.lst xs) => some xs
  | .d (.scr ns) => some (ns.map D.int)
  | .b _ (.lst os) => allD os
  | _ => none
def tupsI : List D → Option (List (List Int))
  | [] => some []
  | .tup xs :: r => (D.ints xs).bind fun ns => (tupsI r).map (ns :: ·)
  | _ => none
def codeI (B : Int) : List Int → Int
  | [] => 0
  | d :: r => d * B ^ r.length + codeI B r
def tupAsc (xs : List D) : Bool := match tupsI xs with
  | some (r :: rs) => decide (rs.length < 63) && decide (1 ≤ r.length) && (r :: rs).all (fun t => decide (t.length = r.length) && t.all fun i => decide (0 ≤ i ∧ i < 16)) && decide (((r :: rs).map (codeI 16)).Pairwise (· < ·))
  | _ => false
def biV (b : Bi) (v : Val) : Option D := match b with
  | .len => (lenV v).map fun (n : Nat) => D.int n
  | .abs => (match v with
    | .d (.int i) => some (.int (if i < 0 then -i else i))
    | _ => none)
  | .int => (match v with
    | .d (.int i) => some (.int i)
    | .d (.bl b) => some (.int (if b then 1 else 0))
    | .d (.str z) => if z.length ≤ 640 then (PySem.intText? z).map .int else none
    | _ => none)
  | .str => (match v with
    | .d (.int i) => if i.natAbs.log2 < 1920 then some (.str (PySem.Str.ofString (toString i))) else none
    | .d (.str z) => some (.str z)
    | _ => none)
  | .bool => (match v with
    | .d (.int i) => some (.bl (i != 0))
    | .d (.bl b) => some (.bl b)
    | _ => none)
  | .list => (itemsV v).map .lst
  | .tuple => (itemsV v).map .tup
  | .sorted => (lstItems v).bind fun xs => (match D.ints xs with
    | some ns => some (D.lst ((sortI ns).map D.int))
    | none => if tupAsc xs = true then some (.lst xs) else none)
  | .sum => (lstItems v).bind fun xs => (D.ints xs).map fun ns => D.int ns.sum
  | .min => (lstItems v).bind fun xs => (D.ints xs).bind fun ns => if ns.isEmpty then none else some (D.int (minI ns))
  | .max => (lstItems v).bind fun xs => (D.ints xs).bind fun ns => if ns.isEmpty then none else some (D.int (maxI ns))
  | .all => (lstItems v).bind fun xs => (D.bls xs).map fun bs => D.bl (bs.all id)
  | .any => (lstItems v).bind fun xs => (D.bls xs).map fun bs => D.bl (bs.any id)
def mixL {α : Type} (p : Nat → Bool) : Nat → List α → List α → List α
  | i, a :: as, b :: bs => (if p i then a else b) :: mixL p (i + 1) as bs
  | _, _, _ => []
def restored (σ0 : Fr) (vs : List Nat) (σ : Fr) : Fr := mixL (fun i => vs.contains i) 0 σ0 σ
def wiped (vs : List Nat) (σ : Fr) : Fr := mixL (fun i => vs.contains i) 0 (List.replicate σ.length none) σ
def opm : Bop → Option Nat
  | .add => some m_add
  | .sub => some m_sub
  | .mul => some m_mul
  | .band => some m_and
  | .bor => some m_or
  | _ => none
def ownCall (G : Prog) (cl : Call) (x : D) (m : Nat) (ys : List D) (σ : Fr) : Res Val := match x with
  | .ins c _ => opt (G.meth c m) fun f => after (cl f (owned x :: ys.map owned)) [] σ
  | _ => .bad
def binV (G : Prog) (cl : Call) (op : Bop) (x y : D) (σ : Fr) : Res Val := match x with
  | .ins c _ => (match y with
    | .ins c' _ => if c = c' then opt (opm op) fun m => ownCall G cl x m [y] σ else opt (opm op) fun m => opt (G.meth c' m) fun _ => ownCall G cl x m [y] σ
    | _ => .bad)
  | _ => opt (binD op x y) fun z => .ok (.d z) σ
def negV (G : Prog) (cl : Call) (x : D) (σ : Fr) : Res Val := match x with
  | .int i => .ok (.d (.int (-i))) σ
  | x => ownCall G cl x m_neg [] σ
def booV (G : Prog) (cl : Call) (x : D) (σ : Fr) : Res Val := match x with
  | .ins c fs => (ownCall G cl (.ins c fs) m_bool [] σ).bind fun r σ => match r with
    | .d (.bl b) => .ok (.d (.bl b)) σ
    | _ => .bad
  | x => opt (biV .bool (.d x)) fun y => .ok (.d y) σ
def stoV (G : Prog) (cl : Call) (x : D) (σ : Fr) : Res Val := match x with
  | .ins c fs => (ownCall G cl (.ins c fs) m_str [] σ).bind fun r σ => match r with
    | .d (.str b) => .ok (.d (.str b)) σ
    | _ => .bad
  | x => opt (biV .str (.d x)) fun y => .ok (.d y) σ
def makeV (G : Prog) (cl : Call) (c : Nat) (ss : List Sl) (bk : List (Option (Nat × Bool))) (σ : Fr) : Res Val := match G.clss[c]? with
  | none => .bad
  | some C => (match cl C.init (.lent (.ins c []) :: ss) with
    | .ret (.d .non) (o :: ls) => opt (giveBack σ bk ls) fun σ => .ok (if C.frz then .d o.frz else .o o) σ
    | .exc x (_ :: ls) => opt (giveBack σ bk ls) fun σ => .exc x σ
    | _ => .bad)
def leniV (G : Prog) (cl : Call) (v : Val) (σ : Fr) : Res Val := match v with
  | .d (.ins c fs) => (ownCall G cl (.ins c fs) m_len [] σ).bind fun r σ => match r with
    | .d (.int n) => if 0 ≤ n ∧ n ≤ lineN then .ok (.d (.int n)) σ else .bad
    | _ => .bad
  | v => opt (biV .len v) fun x => .ok (.d x) σ
def lsiV (G : Prog) (cl : Call) (v : Val) (σ : Fr) : Res Val := match v with
  | .d (.ins c fs) => opt (itemsI G (.ins c fs)) fun xs => (match ownCall G cl (.ins c fs) m_len [] σ with
    | .ok (.d (.int n)) σ => if 0 ≤ n ∧ n ≤ lineN then .ok (.d (.lst xs)) σ else .bad
    | _ => .bad)
  | v => opt (biV .list v) fun x => .ok (.d x) σ
def lsioV (G : Prog) (cl : Call) (v : Val) (σ : Fr) : Res Val := match v with
  | .d (.ins c fs) => opt (itemsI G (.ins c fs)) fun xs => (match ownCall G cl (.ins c fs) m_len [] σ with
    | .ok (.d (.int n)) σ => if 0 ≤ n ∧ n ≤ lineN then .ok (.o (.lst (xs.map O.d))) σ else .bad
    | _ => .bad)
  | v => opt (itemsV v) fun xs => .ok (.o (.lst (xs.map O.d))) σ
def idxmV (xs : List D) (y : D) : Option D := match y with
  | .int i => (D.ints xs).bind fun ns => if i ∈ ns then some (.int (ns.idxOf i)) else none
  | _ => none
def modesOf (G : Prog) (f : Nat) : List Mode := match G.defs[f]? with
  | some D => D.modes
  | none => []
def asO : Val → Option O
  | .d x => some (.d x)
  | .o o => some o
  | .b _ _ => none
def lstV (own : Bool) (os : List O) : Val := match own with
  | true => .o (.lst os)
  | false => .d (.lst (O.frzL os))
def compLoop (turn : D → Fr → Res (Option O)) : List D → Fr → Res (List O)
  | [], σ => .ok [] σ
  | x :: xs, σ => (turn x σ).bind fun r σ => (compLoop turn xs σ).map fun vs => match r with
    | some v => v :: vs
    | none => vs
def genLoop (turn : D → Fr → Res (List D)) : List D → Fr → Res (List D)
  | [], σ => .ok [] σ
  | x :: xs, σ => (turn x σ).bind fun ys σ => (genLoop turn xs σ).map fun zs => ys ++ zs
def compLoop2 (turn : D → Fr → Res (List O)) : List D → Fr → Res (List O)
  | [], σ => .ok [] σ
  | x :: xs, σ => (turn x σ).bind fun r σ => (compLoop2 turn xs σ).map fun vs => r ++ vs
def slcV (v : Val) (lo hi : Option Int) : Option Val := match v with
  | .d (.lst xs) => some (.d (.lst (cutL xs lo hi)))
  | .d (.tup xs) => some (.d (.tup (cutL xs lo hi)))
  | .d (.scr ns) => some (.d (.lst ((cutL ns lo hi).map D.int)))
  | .d (.str z) => if z.length ≤ lineN then some (.d (.str (L2.cutS z lo hi))) else none
  | .b _ (.lst xs) => (allD xs).map fun xs => .d (.lst (cutL xs lo hi))
  | _ => none
def setPl {α : Type} (k : Int) (v : α) : List (Int × α) → List (Int × α)
  | [] => [(k, v)]
  | (j, u) :: r => if j = k then (j, v) :: r else (j, u) :: setPl k v r
def setPT {α : Type} (k : List Int) (v : α) : List (List Int × α) → List (List Int × α)
  | [] => [(k, v)]
  | (j, u) :: r => if j = k then (j, v) :: r else (j, u) :: setPT k v r
def setC (v : O) (k : D) : O → Option O := fun c => match c, k with
  | .lst xs, .int i => (place xs.length i).map fun j => .lst (xs.set j v)
  | .dcI kvs, .int i => if kvs.length < lineN then some (.dcI (setPl i v kvs)) else none
  | .dcT kvs, .tup ds => if kvs.length < lineN then (D.ints ds).map fun k => .dcT (setPT k v kvs) else none
  | _, _ => none
def dLoop (turn : D → Fr → Res (Option (D × O))) : List D → O → Fr → Res O
  | [], d, σ => .ok d σ
  | x :: xs, d, σ => (turn x σ).bind fun r σ => match r with
    | some kv => opt (setC kv.2 kv.1 d) fun d => dLoop turn xs d σ
    | none => dLoop turn xs d σ
def keysO : O → Option (List D)
  | .dcI kvs => some (kvs.map fun p => D.int p.1)
  | .dcT kvs => some (kvs.map fun p => keyT p.1)
  | _ => none
def ownKeys (i f : Nat) (σ : Fr) : Option (List D) := (lentAt σ i).bind fun ol => match ol.1 with
  | .ins _ fs => (fs.lookup f).bind keysO
  | _ => none
def lkV : Val → Option D
  | .d x => some x
  | .o o => some o.lkd
  | .b _ _ => none
def Res.nox {α : Type} : Res α → Res α
  | .exc _ _ => .bad
  | r => r
def finX (own : Bool) (back : Fr → Fr) : Res (List O) → Res Val
  | .ok r σ => if r.length ≤ lineN then .ok (lstV own r) (back σ) else .bad
  | .exc x σ => .exc x (back σ)
  | .bad => .bad
def intsO : List O → Option (List Int)
  | [] => some []
  | .d (.int i) :: r => (intsO r).map (i :: ·)
  | _ => none
def scdL : List O → Option (List D)
  | [] => some []
  | .lst os :: r => (intsO os).bind fun ns => (scdL r).map (D.scr ns :: ·)
  | _ => none
def scdO : O → Option D
  | .lst (o :: os) => (scdL (o :: os)).map D.lst
  | _ => none
mutual
def D.plain : D → Bool
  | .non => true
  | .bl _ => true
  | .int _ => true
  | .str _ => true
  | .tup xs => D.plainL xs
  | .lst xs => D.plainL xs
  | .ins _ fs => D.plainF fs
  | .dcI _ => false
  | .dcT _ => false
  | .cls _ => false
  | .scr _ => false
  | .lkI _ => false
  | .lkT _ => false
  | .exn _ _ => false
def D.plainL : List D → Bool
  | [] => true
  | x :: xs => x.plain && D.plainL xs
def D.plainF : List (Nat × D) → Bool
  | [] => true
  | (_, x) :: xs => x.plain && D.plainF xs
end
def callfR : CR → Fr → Res Val := fun r σ => match r with
  | .ret (.d y) [] => if y.plain = true then .ok (.d y) σ else .bad
  | _ => .bad
def keysV : Val → Option (List D)
  | .d (.dcI kvs) => some (kvs.map fun p => D.int p.1)
  | .d (.lkI kvs) => some (kvs.map fun p => D.int p.1)
  | .b _ (.dcI kvs) => some (kvs.map fun p => D.int p.1)
  | .d (.dcT kvs) => some (kvs.map fun p => keyT p.1)
  | .d (.lkT kvs) => some (kvs.map fun p => keyT p.1)
  | .b _ (.dcT kvs) => some (kvs.map fun p => keyT p.1)
  | _ => none
def cpyV : Val → Option O
  | .d (.dcI kvs) => some (.dcI (kvs.map fun p => (p.1, O.d p.2)))
  | .d (.lkI kvs) => some (.dcI (kvs.map fun p => (p.1, O.d p.2)))
  | _ => none
mutual
def D.noL : D → Bool
  | .non => true
  | .bl _ => true
  | .int _ => true
  | .str _ => true
  | .tup xs => D.noLs xs
  | .lst _ => false
  | .ins _ fs => D.noLf fs
  | .dcI kvs => D.noLi kvs
  | .dcT kvs => D.noLt kvs
  | .cls _ => true
  | .scr _ => true
  | .lkI kvs => D.noLi kvs
  | .lkT kvs => D.noLt kvs
  | .exn _ _ => false
def D.noLs : List D → Bool
  | [] => true
  | x :: xs => x.noL && D.noLs xs
def D.noLf : List (Nat × D) → Bool
  | [] => true
  | (_, x) :: xs => x.noL && D.noLf xs
def D.noLi : List (Int × D) → Bool
  | [] => true
  | (_, x) :: xs => x.noL && D.noLi xs
def D.noLt : List (List Int × D) → Bool
  | [] => true
  | (_, x) :: xs => x.noL && D.noLt xs
end
def lstDat : O → Option D
  | .lst os => (allD os).map D.lst
  | _ => none
def saV (σ : Fr) (o : O) : Sa → Option D
  | .fld f => (match o with
    | .ins _ fs => (fs.lookup f).bind ofD
    | _ => none)
  | .own f => (match o with
    | .ins _ fs => (fs.lookup f).bind lstDat
    | _ => none)
  | .var j => (match σ.get j with
    | some (.own (.d x)) => some x
    | _ => none)
def saVs (σ : Fr) (o : O) : List Sa → Option (List D)
  | [] => some []
  | a :: r => (saV σ o a).bind fun x => (saVs σ o r).map (x :: ·)
def callpR : CR → Fr → Res Val := fun r σ => match r with
  | .ret (.d y) [] => if y.noL = true then .ok (.d y) σ else .bad
  | _ => .bad
def lenoR : Res Val → Fr → Res Val := fun r σ => match r with
  | .ok (.d (.int n)) _ => .ok (.d (.int n)) σ
  | _ => .bad
def D.sca : D → Bool
  | .non => true
  | .bl _ => true
  | .int _ => true
  | .str _ => true
  | _ => false
def datSl : Option Sl → Option Sl
  | some (.own (.d x)) => some (.own (.d x))
  | _ => none
def frzFr (i : Nat) (o : O) (σ : Fr) : Fr := (σ.map datSl).set i (some (.own (.d o.frz)))
def O.scL : O → Bool
  | .lst os => os.all fun o => match o with
    | .d y => y.sca
    | _ => false
  | _ => false
def frzR : Res Val → Fr → Res Val := fun r σ => match r with
  | .ok (.d y) _ => if y.sca = true then .ok (.d y) σ else .bad
  | .ok (.o o) _ => if o.scL = true then .ok (.o o) σ else .bad
  | _ => .bad
def frzSl : Option Sl → Option Sl
  | some (.own o) => some (.own (.d o.frz))
  | some (.lent o) => some (.own (.d o.frz))
  | none => none
def frzR1 : Res Val → Fr → Res Val := fun r σ => match r with
  | .ok (.d y) _ => if y.sca = true then .ok (.d y) σ else .bad
  | _ => .bad
mutual
def O.cln : O → Bool
  | .d x => x.noL
  | .lst xs => O.clnL xs
  | .dcT kvs => O.clnT kvs
  | _ => false
def O.clnL : List O → Bool
  | [] => true
  | x :: xs => x.cln && O.clnL xs
def O.clnT : List (List Int × O) → Bool
  | [] => true
  | (_, x) :: xs => x.cln && O.clnT xs
end
def flatSl : Option Sl → Bool
  | none => true
  | some (.own (.d _)) => true
  | some (.lent (.d _)) => true
  | some (.own (.lst os)) => os.all fun o => match o with
    | .d _ => true
    | _ => false
  | some (.lent (.lst os)) => os.all fun o => match o with
    | .d _ => true
    | _ => false
  | _ => false
def frzR2 : Res Val → Fr → Res Val := fun r σ => match r with
  | .ok (.o o) _ => if (o.cln && σ.all flatSl) = true then .ok (.o o) σ else .bad
  | _ => .bad
def onlyL : CR → CR
  | .ret (.d (.lst ds)) ls => if ds.length ≤ lineN then .ret (.d (.lst ds)) ls else .bad
  | .exc x ls => .exc x ls
  | _ => .bad
def noxR : Res Val → Res Val
  | .exc _ _ => .bad
  | r => r
def lstAt : Option (O × Bool) → Option Unit
  | some (.lst _, _) => some ()
  | some (.d (.lst _), _) => some ()
  | _ => none
def cntO (ol : Option (O × Bool)) (y : D) : Option D := match ol, y with
  | some (.lst os, _), .int k => (intsO os).map fun ns => D.int (ns.count k : Nat)
  | some (.d (.lst xs), _), .int k => (D.ints xs).map fun ns => D.int (ns.count k : Nat)
  | _, _ => none
def exfV : Val → Nat → Nat → Option D
  | .d (.exn k fs), c, f => if k = c then fs.lookup f else none
  | _, _, _ => none
def exiV : Val → List Nat → Option Bool
  | .d (.exn c _), cs => some (cs.contains c)
  | _, _ => none
def idxqAt (σ : Fr) (a f k : Nat) : Option D := (lentAt σ a).bind fun ol => match ol.1 with
  | .ins _ fs => (fs.lookup f).bind fun o => (match o with
    | .lst os => (match σ.get k with
      | some (.own (.d (.int i))) => ((place os.length ((os.length : Int) - 1 - i)).bind fun j => os[j]?).bind ofD
      | _ => none)
    | _ => none)
  | _ => none
mutual
def ev (G : Prog) (cl : Call) (md : Md) : E → Fr → Res Val
  | .cst d, σ => fin md (.d d) σ
  | .var i, σ => getVar md i σ
  | .glo x, σ => opt G.glos[x]? fun d => fin md (.d d) σ
  | .clsv c, σ => fin md (.d (.cls c)) σ
  | .never, _ => .bad
  | .fld a f, σ => ((ev G cl .pk a σ).bind fun v σ => opt (fldV v f) fun v => .ok v σ).bind (fin md)
  | .idx a i, σ => ((ev G cl .pk a σ).bind fun v σ => match v with
    | .b r _ => (hidden r σ fun σ => ev G cl .val i σ).bind fun k σ => opt ((toD k).bind fun k => selV v k) fun v => .ok v σ
    | .o _ => .bad
    | .d _ => (ev G cl .val i σ).bind fun k σ => opt ((toD k).bind fun k => selV v k) fun v => .ok v σ).bind (fin md)
  | .slc a lo hi, σ => ((ev G cl .pk a σ).bind fun v σ => match v with
    | .b r _ => (hidden r σ fun σ => (evO G cl lo σ).bind fun l σ => (evO G cl hi σ).map fun h => (l, h)).bind fun lh σ => opt (slcV v lh.1 lh.2) fun v => .ok v σ
    | .o _ => .bad
    | .d _ => ((evO G cl lo σ).bind fun l σ => (evO G cl hi σ).map fun h => (l, h)).bind fun lh σ => opt (slcV v lh.1 lh.2) fun v => .ok v σ).bind (fin md)
  | .tup es, σ => ((evs G cl es σ).bind fun os σ => if os.length ≤ lineN then .ok (.d (.tup (O.frzL os))) σ else .bad).bind (fin md)
  | .lst own es, σ => ((evs G cl es σ).bind fun os σ => if os.length ≤ lineN then .ok (lstV own os) σ else .bad).bind (fin md)
  | .neg a, σ => ((ev G cl .val a σ).bind fun v σ => opt (toD v) fun x => negV G cl x σ).bind (fin md)
  | .bin op a b, σ => ((ev G cl .val a σ).bind fun v σ => opt (toD v) fun x => (ev G cl .val b σ).bind fun u σ => opt (toD u) fun y => binV G cl op x y σ).bind (fin md)
  | .cmp op a b, σ => ((ev G cl .val a σ).bind fun v σ => opt (toD v) fun x => (ev G cl .pk b σ).bind fun u σ => opt (cmpV G cl op x u) fun c => .ok (bl c) σ).bind (fin md)
  | .cmpv op i b, σ => ((match lentAt σ i with
    | some (o, _) => (hidden i σ fun σ => ev G cl .val b σ).bind fun u σ => opt (toD u) fun y => opt (cmpV G cl op o.frz (.d y)) fun c => .ok (bl c) σ
    | none => .bad) : Res Val).bind (fin md)
  | .chn p q a b c, σ => ((ev G cl .val a σ).bind fun v σ => opt (toD v) fun x => (ev G cl .val b σ).bind fun u σ => opt (toD u) fun y => opt (cmpD G cl p x y) fun k => match k with
    | false => .ok (bl false) σ
    | true => (ev G cl .val c σ).bind fun w σ => opt (toD w) fun z => opt (cmpD G cl q y z) fun k => .ok (bl k) σ).bind (fin md)
  | .not a, σ => ((ev G cl md a σ).bind fun v σ => opt (truthV v) fun b => .ok (bl (!b)) σ)
  | .and a b, σ => (ev G cl md a σ).bind fun v σ => match v with
    | .d (.bl true) => ev G cl md b σ
    | .d (.bl false) => fin md (bl false) σ
    | _ => .bad
  | .or a b, σ => (ev G cl md a σ).bind fun v σ => match v with
    | .d (.bl true) => fin md (bl true) σ
    | .d (.bl false) => ev G cl md b σ
    | _ => .bad
  | .ife c a b, σ => (ev G cl .tst c σ).bind fun v σ => match v with
    | .d (.bl true) => ev G cl md a σ
    | .d (.bl false) => ev G cl md b σ
    | _ => .bad
  | .call f as, σ => ((evAs G cl (modesOf G f) as σ).bind fun p σ => after (cl f p.1) p.2 σ).bind (fin md)
  | .make c as, σ => (opt G.clss[c]? fun C => (evAs G cl (modesOf G C.init).tail as σ).bind fun p σ => makeV G cl c p.1 p.2 σ).bind (fin md)
  | .callv a as, σ => ((ev G cl .val a σ).bind fun v σ => match v with
    | .d (.cls c) => opt G.clss[c]? fun C => (evAs G cl (modesOf G C.init).tail as σ).bind fun p σ => makeV G cl c p.1 p.2 σ
    | _ => .bad).bind (fin md)
  | .calli a as, σ => ((ev G cl .val a σ).bind fun v σ => opt (toD v) fun x => match x with
    | .ins c fs => opt (G.meth c m_call) fun f => (match (modesOf G f).head? with
      | some .val => (evAs G cl (modesOf G f).tail as σ).bind fun p σ => after (cl f (owned (.ins c fs) :: p.1)) p.2 σ
      | _ => .bad)
    | _ => .bad).bind (fin md)
  | .meth a m as, σ => ((ev G cl .val a σ).bind fun v σ => opt (toD v) fun x => match x with
    | .ins c fs => opt (G.meth c m) fun f => (match (modesOf G f).head? with
      | some .val => (evAs G cl (modesOf G f).tail as σ).bind fun p σ => after (cl f (owned (.ins c fs) :: p.1)) p.2 σ
      | _ => .bad)
    | _ => .bad).bind (fin md)
  | .methL i m as, σ => (opt (lentAt σ i) fun ol0 => opt ((classO ol0.1).bind fun c => G.meth c m) fun f => (match (modesOf G f).head? with
      | some .lend => (evAs G cl (modesOf G f).tail as σ).bind fun p σ => opt (lentAt σ i) fun ol => after (cl f (.lent ol.1 :: p.1)) (some (i, ol.2) :: p.2) (σ.put i none)
      | _ => .bad)).bind (fin md)
  | .cmeth a m as, σ => ((ev G cl .val a σ).bind fun v σ => match v with
    | .d (.cls c) => opt (G.cmeth c m) fun f => (evAs G cl (modesOf G f).tail as σ).bind fun p σ => after (cl f (owned (.cls c) :: p.1)) p.2 σ
    | _ => .bad).bind (fin md)
  | .bi b a, σ => ((ev G cl .pk a σ).bind fun v σ => opt (biV b v) fun x => .ok (.d x) σ).bind (fin md)
  | .lsi a, σ => ((ev G cl .pk a σ).bind fun v σ => lsiV G cl v σ).bind (fin md)
  | .leni a, σ => ((ev G cl .pk a σ).bind fun v σ => leniV G cl v σ).bind (fin md)
  | .lsto a, σ => ((ev G cl .pk a σ).bind fun v σ => opt (itemsV v) fun xs => .ok (.o (.lst (xs.map O.d))) σ).bind (fin md)
  | .idxm a b, σ => ((ev G cl .val a σ).bind fun v σ => opt ((toD v).bind lstD) fun xs => (ev G cl .val b σ).bind fun u σ => opt (toD u) fun y => opt (idxmV xs y) fun z => .ok (.d z) σ).bind (fin md)
  | .boo a, σ => ((ev G cl .val a σ).bind fun v σ => opt (toD v) fun x => booV G cl x σ).bind (fin md)
  | .isin a c, σ => ((ev G cl .val a σ).bind fun v σ => opt (toD v) fun x => opt (isinD x c) fun b => .ok (bl b) σ).bind (fin md)
  | .sto a, σ => ((ev G cl .val a σ).bind fun v σ => opt (toD v) fun x => stoV G cl x σ).bind (fin md)
  | .fmt a s b, σ => ((ev G cl .val a σ).bind fun v σ => opt (toD v) fun x => opt (fmtA x s) fun p => (ev G cl .val b σ).bind fun u σ => opt (toD u) fun y => opt (fmtB p y) fun z => .ok (.d z) σ).bind (fin md)
  | .mxm mx a b, σ => ((ev G cl .val a σ).bind fun v σ => opt (toD v) fun x => (ev G cl .val b σ).bind fun u σ => opt (toD u) fun y => opt (mxV mx x y) fun z => .ok (.d z) σ).bind (fin md)
  | .rev a, σ => ((ev G cl .val a σ).bind fun v σ => opt (toD v) fun x => opt (revV x) fun z => .ok (.d z) σ).bind (fin md)
  | .bm a m b, σ => ((ev G cl .val a σ).bind fun v σ => opt (txtV v) fun x => (ev G cl .val b σ).bind fun u σ => opt (toD u) fun y => opt (bmV m x y) fun z => .ok (.d z) σ).bind (fin md)
  | .comp own elt tg it cs vs, σ => ((evIt G cl it σ).bind fun xs σ => (compLoop (fun x σ' => opt (asg tg x (wiped vs σ')) fun σ' => (evCs G cl cs σ').bind fun ok σ' => match ok with
      | true => (ev G cl .val elt σ').bind fun v σ' => opt (asO v) fun o => .ok (some o) σ'
      | false => .ok none σ') xs (wiped vs σ)).nox.bind fun r σ' => if r.length ≤ lineN then .ok (lstV own r) (restored σ vs σ') else .bad).bind (fin md)
  | .compx own elt tg it cs vs, σ => ((evIt G cl it σ).bind fun xs σ => if xs.length ≤ lineN then finX own (restored σ vs) (compLoop (fun x σ' => opt (asg tg x (wiped vs σ')) fun σ' => (evCs G cl cs σ').nox.bind fun ok σ' => match ok with
      | true => (ev G cl .val elt σ').bind fun v σ' => opt (asO v) fun o => .ok (some o) σ'
      | false => .ok none σ') xs (wiped vs σ)) else .bad).bind (fin md)
  | .comp2 own elt tg it cs tg2 it2 cs2 vs vs2, σ => ((evIt G cl it σ).bind fun xs σ => (compLoop2 (fun x σ' => opt (asg tg x (wiped vs σ')) fun σ' => (evCs G cl cs σ').bind fun ok σ' => match ok with
      | true => (evIt G cl it2 σ').bind fun ys σ' => compLoop (fun y σ' => opt (asg tg2 y (wiped vs2 σ')) fun σ' => (evCs G cl cs2 σ').bind fun ok σ' => match ok with
          | true => (ev G cl .val elt σ').bind fun v σ' => opt (asO v) fun o => .ok (some o) σ'
          | false => .ok none σ') ys σ'
      | false => .ok [] σ') xs (wiped vs σ)).nox.bind fun r σ' => if r.length ≤ lineN then .ok (lstV own r) (restored σ vs σ') else .bad).bind (fin md)
  | .dnew t, σ => fin md (.o (dEmp t)) σ
  | .dcomp t kx vx tg it cs vs, σ => ((evIt G cl it σ).bind fun xs σ => (dLoop (fun x σ' => opt (asg tg x (wiped vs σ')) fun σ' => (evCs G cl cs σ').bind fun ok σ' => match ok with
      | true => (ev G cl .val kx σ').bind fun k σ' => opt (toD k) fun k => (ev G cl .val vx σ').bind fun v σ' => opt (asO v) fun o => .ok (some (k, o)) σ'
      | false => .ok none σ') xs (dEmp t) (wiped vs σ)).nox.bind fun r σ' => .ok (.o r) (restored σ vs σ')).bind (fin md)
  | .dcompk t kx vx tg i f cs vs, σ => (opt (ownKeys i f σ) fun xs => hidden i σ fun σ => (dLoop (fun x σ' => opt (asg tg x (wiped vs σ')) fun σ' => (evCs G cl cs σ').bind fun ok σ' => match ok with
      | true => (ev G cl .val kx σ').bind fun k σ' => opt (toD k) fun k => (ev G cl .val vx σ').bind fun v σ' => opt (asO v) fun o => .ok (some (k, o)) σ'
      | false => .ok none σ') xs (dEmp t) (wiped vs σ)).nox.bind fun r σ' => .ok (.o r) (restored σ vs σ')).bind (fin md)
  | .lk e, σ => ((ev G cl .val e σ).bind fun v σ => opt (lkV v) fun x => .ok (.d x) σ).bind (fin md)
  | .lkv i, σ => (opt (lentAt σ i) fun ol => .ok (.d ol.1.lkd) (σ.put i (some (if ol.2 then .lent (.d ol.1.lkd) else .own (.d ol.1.lkd))))).bind (fin md)
  | .dmrg a b, σ => ((ev G cl .pk a σ).bind fun v σ => opt (dcData v) fun m => if m.all (fun p => smallK p.1) && decide (m.length ≤ 36) then (ev G cl .pk b σ).bind fun u σ => opt (dcData u) fun n => if n.all (fun p => smallK p.1) && decide (n.length ≤ 36) then .ok (.o (.dcT ((putAll setPT n m).map fun p => (p.1, O.d p.2)))) σ else .bad else .bad).bind (fin md)
  | .mmv mx a, σ => ((ev G cl .val a σ).bind fun v σ => opt ((toD v).bind valsD) fun xs => opt (biV (if mx then .max else .min) (.d (.lst xs))) fun x => .ok (.d x) σ).bind (fin md)
  | .dget a i, σ => ((ev G cl .pk a σ).bind fun v σ => opt (dcV v) fun _ => match v with
    | .b r _ => (hidden r σ fun σ => ev G cl .val i σ).bind fun k σ => opt ((toD k).bind fun k => getV v k) fun v => .ok v σ
    | .o _ => .bad
    | .d _ => (ev G cl .val i σ).bind fun k σ => opt ((toD k).bind fun k => getV v k) fun v => .ok v σ).bind (fin md)
  | .callk f as ks, σ => ((evAs G cl [] as σ).bind fun p σ => opt (slDs p.1) fun xs => (evAs G cl [] ks σ).bind fun q σ => after (cl f (xs.map owned ++ q.1)) q.2 σ).bind (fin md)
  | .callf f i, σ => ((match lentAt σ i with
    | some (o, _) => opt (scdO o) fun x => callfR (cl f [owned x]) σ
    | none => .bad) : Res Val).bind (fin md)
  | .ldk a, σ => ((ev G cl .pk a σ).bind fun v σ => opt (keysV v) fun xs => .ok (.d (.lst xs)) σ).bind (fin md)
  | .dcpy a, σ => ((ev G cl .pk a σ).bind fun v σ => opt (cpyV v) fun o => .ok (.o o) σ).bind (fin md)
  | .cntv i b, σ => (opt (lstAt (lentAt σ i)) fun _ => (ev G cl .val b σ).bind fun u σ => opt (toD u) fun y => opt (cntO (lentAt σ i) y) fun x => .ok (.d x) σ).bind (fin md)
  | .callp f i as, σ => ((match lentAt σ i with
    | some (o, _) => opt (saVs σ o as) fun xs => callpR (cl f (xs.map owned)) σ
    | none => .bad) : Res Val).bind (fin md)
  | .frz i e, σ => ((match lentAt σ i with
    | some (o, _) => frzR (ev G cl .val e (frzFr i o σ)) σ
    | none => .bad) : Res Val).bind (fin md)
  | .frza e, σ => (frzR1 (ev G cl .val e (σ.map frzSl)) σ).bind (fin md)
  | .frzn e, σ => (frzR2 (ev G cl .val e (σ.map frzSl)) σ).bind (fin md)
  | .cmpw op a i, σ => ((ev G cl .val a σ).bind fun u σ => opt (toD u) fun x => match lentAt σ i with
    | some (o, _) => opt (cmpV G cl op x (.d o.frz)) fun c => .ok (bl c) σ
    | none => .bad).bind (fin md)
  | .exm c ks as, σ => ((evs G cl as σ).bind fun os σ => if os.length = ks.length then .ok (.d (.exn c (ks.zip (O.frzL os)).reverse)) σ else .bad).bind (fin md)
  | .fldx a c f, σ => ((ev G cl .val a σ).bind fun v σ => opt (exfV v c f) fun x => .ok (.d x) σ).bind (fin md)
  | .isx a cs, σ => ((ev G cl .val a σ).bind fun v σ => opt (exiV v cs) fun b => .ok (bl b) σ).bind (fin md)
  | .nox e, σ => noxR (ev G cl md e σ)
  | .gcall f as, σ => ((evAs G cl (modesOf G f) as σ).bind fun p σ => after (onlyL (cl f p.1)) p.2 σ).bind (fin md)
  | .idxq a f k, σ => (opt (idxqAt σ a f k) fun x => .ok (.d x) σ).bind (fin md)
  | .lsio a, σ => ((ev G cl .pk a σ).bind (lsioV G cl)).bind (fin md)
  | .lrg a, σ => ((ev G cl .val a σ).bind fun v σ => match v with
    | .d (.int n) => if 0 ≤ n ∧ n ≤ lineN then .ok (.o (.lst ((List.range n.toNat).map fun (k : Nat) => O.d (.int k)))) σ else .bad
    | _ => .bad).bind (fin md)
  | .gen b, σ => ((exG G cl b σ).nox.bind fun ds σ => if ds.length ≤ lineN then .ok (.d (.lst ds)) σ else .bad).bind (fin md)
  | .leno i, σ => ((match lentAt σ i with
    | some (o, _) => lenoR (leniV G cl (.d o.frz) (σ.put i none)) σ
    | none => .bad) : Res Val).bind (fin md)
def exG (G : Prog) (cl : Call) : Gst → Fr → Res (List D)
  | .yld e, σ => (ev G cl .val e σ).bind fun v σ => opt (toD v) fun x => .ok [x] σ
  | .yfr e, σ => (ev G cl .val e σ).bind fun v σ => opt ((toD v).bind lst1) fun xs => .ok xs σ
  | .for_ tg it b, σ => (evIt G cl it σ).bind fun xs σ => genLoop (fun x σ => opt (asg tg x σ) fun σ => exG G cl b σ) xs σ
def evO (G : Prog) (cl : Call) : Eo → Fr → Res (Option Int)
  | .none, σ => .ok none σ
  | .some e, σ => (ev G cl .val e σ).bind fun v σ => match v with
    | .d (.int i) => .ok (some i) σ
    | _ => .bad
def evs (G : Prog) (cl : Call) : Es → Fr → Res (List O)
  | .nil, σ => .ok [] σ
  | .cons star e r, σ => match star with
    | false => (ev G cl .val e σ).bind fun v σ => opt (asO v) fun o => (evs G cl r σ).map fun os => o :: os
    | true => (ev G cl .pk e σ).bind fun v σ => opt (itemsV v) fun xs => (evs G cl r σ).map fun os => xs.map O.d ++ os
def evCs (G : Prog) (cl : Call) : Es → Fr → Res Bool
  | .nil, σ => .ok true σ
  | .cons _ e .nil, σ => (ev G cl .tst e σ).bind fun v σ => match v with
    | .d (.bl b) => .ok b σ
    | _ => .bad
  | .cons _ _ (.cons _ _ _), _ => .bad
def evAs (G : Prog) (cl : Call) (ms : List Mode) : Es → Fr → Res (List Sl × List (Option (Nat × Bool)))
  | .nil, σ => .ok ([], []) σ
  | .cons star e r, σ => match star with
    | true => (ev G cl .pk e σ).bind fun v σ => opt (itemsV v) fun xs => (evAs G cl [] r σ).map fun p => (xs.map owned ++ p.1, p.2)
    | false => match ms with
      | .lend :: ms => (match e with
        | .var i => opt (lentAt σ i) fun _ => (evAs G cl ms r σ).bind fun p σ => opt (lentAt σ i) fun ol => .ok (.lent ol.1 :: p.1, some (i, ol.2) :: p.2) (σ.put i none)
        | _ => .bad)
      | .val :: ms => (ev G cl .val e σ).bind fun v σ => opt (toD v) fun x => (evAs G cl ms r σ).map fun p => (owned x :: p.1, p.2)
      | [] => (ev G cl .val e σ).bind fun v σ => opt (toD v) fun x => (evAs G cl [] r σ).map fun p => (owned x :: p.1, p.2)
def evIt (G : Prog) (cl : Call) : It → Fr → Res (List D)
  | .seq e, σ => (ev G cl .val e σ).bind fun v σ => opt ((toD v).bind (itemsI G)) fun xs => .ok xs σ
  | .rng as, σ => (evs G cl as σ).bind fun os σ => opt (rngOf (O.frzL os)) fun xs => .ok xs σ
  | .enum e, σ => (ev G cl .val e σ).bind fun v σ => opt ((toD v).bind (enumD G)) fun xs => .ok (enumL 0 xs) σ
  | .zip a b, σ => (ev G cl .val a σ).bind fun v σ => opt (toD v) fun x => (ev G cl .val b σ).bind fun u σ => opt (toD u) fun y => opt (zipD x y) fun xs => .ok xs σ
  | .keys e, σ => (ev G cl .val e σ).bind fun v σ => opt ((toD v).bind lkKeys) fun xs => .ok xs σ
  | .items e, σ => (ev G cl .val e σ).bind fun v σ => opt ((toD v).bind lkItems) fun xs => .ok xs σ
  | .vals e, σ => (ev G cl .val e σ).bind fun v σ => opt ((toD v).bind lkVals) fun xs => .ok xs σ
end
inductive RS where
  | next (σ : Fr) | ret (v : Val) (σ : Fr) | brk (σ : Fr) | cont (σ : Fr) | exc (x : Xv) (σ : Fr) | bad
def Res.st {α : Type} (r : Res α) (f : α → Fr → RS) : RS := match r with
  | .ok a σ => f a σ
  | .exc x σ => .exc x σ
  | .bad => .bad
def optS {α : Type} (o : Option α) (f : α → RS) : RS := match o with
  | some a => f a
  | none => .bad
def asgV (i : Nat) (v : Val) (σ : Fr) : Option Fr := match σ[i]? with
  | some (some (.lent _)) => none
  | some _ => (asO v).map fun o => σ.put i (some (.own o))
  | none => none
def putN {α : Type} (k : Nat) (v : α) : List (Nat × α) → List (Nat × α)
  | [] => [(k, v)]
  | (j, u) :: r => if j = k then (j, v) :: r else (j, u) :: putN k v r
def setO (o : O) (k : D) (v : O) : Option O := match o, k with
  | .lst xs, .int i => (place xs.length i).map fun j => .lst (xs.set j v)
  | _, _ => none
inductive Ky where | fld (f : Nat) | key (d : D)
def O.sub : O → Ky → Option O
  | .ins _ fs, .fld f => fs.lookup f
  | .lst xs, .key (.int i) => (place xs.length i).bind fun j => xs[j]?
  | .dcI kvs, .key (.int i) => kvs.lookup i
  | .dcT kvs, .key (.tup ds) => (D.ints ds).bind fun k => kvs.lookup k
  | _, _ => none
def O.rep : O → Ky → O → Option O
  | .ins c fs, .fld f, x => some (.ins c (putN f x fs))
  | .lst xs, .key (.int i), x => (place xs.length i).map fun j => .lst (xs.set j x)
  | .dcI kvs, .key (.int i), x => some (.dcI (setPl i x kvs))
  | .dcT kvs, .key (.tup ds), x => (D.ints ds).map fun k => .dcT (setPT k x kvs)
  | _, _, _ => none
def subs : O → List Ky → Option O
  | o, [] => some o
  | o, k :: ks => (o.sub k).bind fun x => subs x ks
def repAt (f : O → Option O) : O → List Ky → Option O
  | o, [] => f o
  | o, k :: ks => (o.sub k).bind fun x => (repAt f x ks).bind fun y => o.rep k y
def appC (v : O) : O → Option O
  | .lst xs => if xs.length < lineN then some (.lst (xs ++ [v])) else none
  | _ => none
def extC (ys : List D) : O → Option O
  | .lst xs => if xs.length + ys.length ≤ lineN then some (.lst (xs ++ ys.map O.d)) else none
  | _ => none
def popC : O → Option O
  | .lst xs => if xs.isEmpty then none else some (.lst xs.dropLast)
  | _ => none
def clrC : O → Option O
  | .lst _ => some (.lst [])
  | _ => none
def clrD : O → Option O
  | .dcI _ => some (.dcI [])
  | .dcT _ => some (.dcT [])
  | _ => none
def lstO : O → Option Unit
  | .lst _ => some ()
  | _ => none
def rootO (σ : Fr) (a : Nat) : Option O := (lentAt σ a).map (·.1)
def plOk (σ : Fr) (a : Nat) (ks : List Ky) : Option O := (rootO σ a).bind fun o => subs o ks
def evPl (G : Prog) (cl : Call) (a : Nat) : Pl → Fr → Res (List Ky)
  | .root, σ => opt (plOk σ a []) fun _ => .ok [] σ
  | .fld p f, σ => (evPl G cl a p σ).bind fun ks σ => opt (plOk σ a (ks ++ [.fld f])) fun _ => .ok (ks ++ [.fld f]) σ
  | .ix p e, σ => (evPl G cl a p σ).bind fun ks σ => (hidden a σ fun σ => ev G cl .val e σ).bind fun v σ => opt (toD v) fun d => opt (plOk σ a (ks ++ [.key d])) fun _ => .ok (ks ++ [.key d]) σ
def setF (o : O) (f : Nat) (v : O) : Option O := match o with
  | .ins c fs => if fs.length < 1000 then some (.ins c (putN f v fs)) else none
  | _ => none
def chg (σ : Fr) (a : Nat) (f : O → Option O) : Option Fr := match σ.get a with
  | some (.own o) => (f o).map fun o => σ.put a (some (.own o))
  | some (.lent o) => (f o).map fun o => σ.put a (some (.lent o))
  | _ => none
def bwO (m : Bw) (o : O) (vs : List O) : Option O := match m, o, vs with
  | .append, .lst xs, [x] => if xs.length < lineN then some (.lst (xs ++ [x])) else none
  | _, _, _ => none
def lastAt (σ : Fr) (a fld : Nat) : Option D := (lentAt σ a).bind fun ol => match ol.1 with
  | .ins _ fs => (fs.lookup fld).bind fun o => (match o with
    | .lst os => os.getLast?.bind ofD
    | _ => none)
  | _ => none
def intAt (σ : Fr) : E → Option Int
  | .var k => (match σ.get k with
    | some (.own (.d (.int i))) => some i
    | _ => none)
  | .idx (.var k) (.cst (.int c)) => (match σ.get k with
    | some (.own (.d x)) => (match selD x (.int c) with
      | some (.int i) => some i
      | _ => none)
    | _ => none)
  | _ => none
def hideAll (as : List Nat) (σ : Fr) : Fr := as.foldl (fun σ a => σ.put a none) σ
def swpO (i j : Int) : O → Option O
  | .lst xs => (place xs.length i).bind fun p => (place xs.length j).bind fun q => (xs[p]?).bind fun a => (xs[q]?).map fun b => .lst ((xs.set p b).set q a)
  | _ => none
def swpAll (i j : Int) : List Nat → Fr → Option Fr
  | [], σ => some σ
  | a :: as, σ => (chg σ a (swpO i j)).bind (swpAll i j as)
def forLoop (turn : D → Fr → RS) : List D → Fr → RS
  | [], σ => .next σ
  | x :: xs, σ => match turn x σ with
    | .next σ => forLoop turn xs σ
    | .cont σ => forLoop turn xs σ
    | .brk σ => .next σ
    | r => r
def whlLoop (test : Fr → Res Val) (body : Fr → RS) : Nat → Fr → RS
  | 0, _ => .bad
  | n + 1, σ => (test σ).st fun v σ => match v with
    | .d (.bl false) => .next σ
    | .d (.bl true) => (match body σ with
      | .next σ => whlLoop test body n σ
      | .cont σ => whlLoop test body n σ
      | .brk σ => .next σ
      | r => r)
    | _ => .bad
mutual
def evH (x : Xv) (σ : Fr) : HE → Option D
  | .cst d => some d
  | .exf k => x.ds[k]?
  | .var i => (match σ.get i with
    | some (.own (.d y)) => some y
    | _ => none)
  | .lst es => (evHs x σ es).map .lst
  | .tup es => (evHs x σ es).map .tup
  | .ne a b => (evH x σ a).bind fun y => (evH x σ b).bind fun z => (match y, z with
    | .int i, .int j => some (.bl (!(i == j)))
    | _, _ => none)
  | .le a b => (evH x σ a).bind fun y => (evH x σ b).bind fun z => (match y, z with
    | .int i, .int j => some (.bl (decide (i ≤ j)))
    | _, _ => none)
  | .lt a b => (evH x σ a).bind fun y => (evH x σ b).bind fun z => (match y, z with
    | .int i, .int j => some (.bl (decide (i < j)))
    | _, _ => none)
  | .or a b => (evH x σ a).bind fun y => (match y with
    | .bl false => evH x σ b
    | .bl true => some (.bl true)
    | _ => none)
  | .len a => (evH x σ a).bind fun y => (match y with
    | .lst ys => some (.int ys.length)
    | .tup ys => some (.int ys.length)
    | _ => none)
  | .teq a b => (evH x σ a).bind fun y => (evH x σ b).bind fun z => (match y, z with
    | .tup xs, .tup ys => (D.ints xs).bind fun m => (D.ints ys).map fun n => D.bl (decide (m = n))
    | _, _ => none)
  | .chn a b c => (evH x σ a).bind fun y => (evH x σ b).bind fun z => (match y, z with
    | .int i, .int j => if i ≤ j then (evH x σ c).bind fun w => (match w with
      | .int k => some (.bl (decide (j < k)))
      | _ => none) else some (.bl false)
    | _, _ => none)
  | .idx a i => (evH x σ a).bind fun y => selD y (.int i)
  | .eq a b => (evH x σ a).bind fun y => (evH x σ b).bind fun z => (match y, z with
    | .int i, .int j => some (.bl (i == j))
    | _, _ => none)
  | .and a b => (evH x σ a).bind fun y => (match y with
    | .bl true => evH x σ b
    | .bl false => some (.bl false)
    | _ => none)
  | .not a => (evH x σ a).bind fun y => (match y with
    | .bl b => some (.bl (!b))
    | _ => none)
  | .isin a c => (evH x σ a).bind fun y => (isinD y c).map .bl
def evHs (x : Xv) (σ : Fr) : HEs → Option (List D)
  | .nil => some []
  | .cons e r => (evH x σ e).bind fun y => (evHs x σ r).map (y :: ·)
end
def RS.unb (i : Nat) : RS → RS
  | .next σ => .next (σ.put i none)
  | .brk σ => .brk (σ.put i none)
  | .cont σ => .cont (σ.put i none)
  | r => r
def exH (x : Xv) (i : Nat) : H → Fr → RS
  | .ret e, σ => optS (evH x σ e) fun y => .ret (.d y) σ
  | .never, _ => .bad
  | .nxt, σ => .next σ
  | .ifr c e h, σ => optS (evH x σ c) fun y => (match y with
    | .bl true => optS (evH x σ e) fun y => .ret (.d y) σ
    | .bl false => exH x i h σ
    | _ => .bad)
  | .asg j e h, σ => if j = i then .bad else optS (evH x σ e) fun y => optS (asgV j (.d y) σ) fun σ => exH x i h σ
  | .app j e h, σ => if j = i then .bad else (match lentAt σ j with
    | some (.lst _, _) => optS (evH x σ e) fun y => optS (chg σ j fun z => bwO .append z [.d y]) fun σ => exH x i h σ
    | _ => .bad)
  | .rais c es, σ => optS (evHs x σ es) fun ys => .exc ⟨c, ys⟩ σ
  | .reto es, σ => optS (evHs x σ es) fun ys => .ret (.o (.lst (ys.map O.d))) σ
def handle (x : Xv) (σ : Fr) : Hs → RS
  | .nil => .exc x σ
  | .cons c i h r => if x.c = c then (exH x i h (σ.put i none)).unb i else handle x σ r
mutual
def exS (G : Prog) (cl : Call) (w : Nat) : S → Fr → RS
  | .asg i e, σ => (ev G cl .val e σ).st fun v σ => optS (asgV i v σ) .next
  | .asgT ts e, σ => (ev G cl .val e σ).st fun v σ => optS ((toD v).bind fun x => asg (.tup ts) x σ) .next
  | .par i j a b, σ => (evs G cl (.cons false a (.cons false b .nil)) σ).st fun os σ => match os with
    | [o1, o2] => optS ((asgV i (.o o1) σ).bind fun σ => asgV j (.o o2) σ) .next
    | _ => .bad
  | .par3 i j l a b c, σ => (evs G cl (.cons false a (.cons false b (.cons false c .nil))) σ).st fun os σ => match os with
    | [o1, o2, o3] => optS (((asgV i (.o o1) σ).bind fun σ => asgV j (.o o2) σ).bind fun σ => asgV l (.o o3) σ) .next
    | _ => .bad
  | .parc i j a b, σ => (evs G cl (.cons false a (.cons false b .nil)) σ).st fun os σ => match os with
    | [o1, o2] => optS ((asgV i (.o o1) σ).bind fun σ => asgV j (.o o2) σ) .next
    | _ => .bad
  | .sfld a f e, σ => (ev G cl .val e σ).st fun v σ => optS ((asO v).bind fun o => chg σ a fun z => setF z f o) .next
  | .sidx a i e, σ => (ev G cl .val e σ).st fun v σ => optS (asO v) fun o => optS (lentAt σ a) fun _ => (ev G cl .val i σ).st fun k σ => optS ((toD k).bind fun k => chg σ a fun z => setO z k o) .next
  | .pset a p k e, σ => (ev G cl .val e σ).st fun v σ => optS (asO v) fun o => (evPl G cl a p σ).st fun ks σ => (hidden a σ fun σ => ev G cl .val k σ).st fun kv σ => optS ((toD kv).bind fun k => chg σ a fun z => repAt (setC o k) z ks) .next
  | .papp a p e, σ => (evPl G cl a p σ).st fun ks σ => optS ((plOk σ a ks).bind lstO) fun _ => (hidden a σ fun σ => ev G cl .val e σ).st fun v σ => optS ((asO v).bind fun o => chg σ a fun z => repAt (appC o) z ks) .next
  | .pext a p e, σ => (evPl G cl a p σ).st fun ks σ => optS ((plOk σ a ks).bind lstO) fun _ => (hidden a σ fun σ => ev G cl .val e σ).st fun v σ => optS (((toD v).bind lst1).bind fun xs => chg σ a fun z => repAt (extC xs) z ks) .next
  | .ppop a p, σ => (evPl G cl a p σ).st fun ks σ => optS (chg σ a fun z => repAt popC z ks) .next
  | .pclr a p, σ => (evPl G cl a p σ).st fun ks σ => optS (chg σ a fun z => repAt clrC z ks) .next
  | .dclr a p, σ => (evPl G cl a p σ).st fun ks σ => optS (chg σ a fun z => repAt clrD z ks) .next
  | .tapp a e, σ => (ev G cl .val a σ).st fun v σ => match v with
    | .o (.lst xs) => if xs.length < lineN then (ev G cl .val e σ).st fun w σ => optS (asO w) fun _ => .next σ else .bad
    | _ => .bad
  | .bw a m as, σ => match lentAt σ a with
    | some (.lst _, _) => (evs G cl as σ).st fun vs σ => optS (chg σ a fun z => bwO m z vs) .next
    | _ => .bad
  | .expr e, σ => (ev G cl .val e σ).st fun _ σ => .next σ
  | .ret e, σ => (ev G cl .val e σ).st fun v σ => .ret v σ
  | .retv i, σ => match σ.get i with
    | some (.own o) => .ret (.o o) (σ.put i none)
    | _ => .bad
  | .retN, σ => .ret (.d .non) σ
  | .ife c a b, σ => (ev G cl .tst c σ).st fun v σ => match v with
    | .d (.bl true) => exSs G cl w a σ
    | .d (.bl false) => exSs G cl w b σ
    | _ => .bad
  | .whl c b, σ => whlLoop (fun σ => ev G cl .tst c σ) (fun σ => exSs G cl w b σ) w σ
  | .for_ tg it b, σ => (evIt G cl it σ).st fun xs σ => forLoop (fun x σ => optS (asg tg x σ) fun σ => exSs G cl w b σ) xs σ
  | .raise c as, σ => (evs G cl as σ).st fun os σ => .exc ⟨c, O.frzL os⟩ σ
  | .brk, σ => .brk σ
  | .cont, σ => .cont σ
  | .pass, σ => .next σ
  | .never, _ => .bad
  | .tryc b hs, σ => match exSs G cl w b σ with
    | .exc x σ => handle x σ hs
    | r => r
  | .noret b, σ => match exSs G cl w b σ with
    | .ret _ _ => .bad
    | r => r
  | .pappq a p f fld as, σ => (evPl G cl a p σ).st fun ks σ => optS ((plOk σ a ks).bind lstO) fun _ => optS (lastAt σ a fld) fun x => (hidden a σ fun σ => (evAs G cl [] as σ).bind fun p σ => after (cl f (owned x :: p.1)) p.2 σ).st fun v σ => optS ((asO v).bind fun o => chg σ a fun z => repAt (appC o) z ks) .next
  | .pars a i b j e f, σ => (evs G cl (.cons false e (.cons false f .nil)) σ).st fun os σ => match os with
    | [.d x, .d y] => optS (lentAt σ a) fun _ => (ev G cl .val i σ).st fun k σ => optS ((toD k).bind fun k => chg σ a fun z => setO z k (.d x)) fun σ => optS (lentAt σ b) fun _ => (ev G cl .val j σ).st fun k σ => optS ((toD k).bind fun k => chg σ b fun z => setO z k (.d y)) .next
    | _ => .bad
  | .swpL as v e1 e2, σ => match σ[v]? with
    | some (some (.lent _)) => .bad
    | some _ => optS (intAt (hideAll as (σ.put v none)) e1) fun i => optS (intAt (hideAll as (σ.put v none)) e2) fun j => optS (swpAll i j as (σ.put v none)) .next
    | none => .bad
def exSs (G : Prog) (cl : Call) (w : Nat) : Ss → Fr → RS
  | .nil, σ => .next σ
  | .cons s r, σ => match exS G cl w s σ with
    | .next σ => exSs G cl w r σ
    | z => z
end
def modesOk : List Sl → List Mode → Bool
  | [], [] => true
  | .lent _ :: ss, .lend :: ms => modesOk ss ms
  | .own _ :: ss, .val :: ms => modesOk ss ms
  | _, _ => false
def retV (own : Bool) (v : Val) : Option Val := match own with
  | true => (match v with
    | .b _ _ => none
    | v => some v)
  | false => (toD v).map .d
def finish (D : DefI) (r : RS) : CR := match r with
  | .next σ => (match lentsOf σ D.modes with
    | some ls => .ret (.d .non) ls
    | none => .bad)
  | .ret v σ => (match retV D.own v, lentsOf σ D.modes with
    | some v, some ls => .ret v ls
    | _, _ => .bad)
  | .exc x σ => (match lentsOf σ D.modes with
    | some ls => .exc x ls
    | none => .bad)
  | _ => .bad
def callD (G : Prog) (w : Nat) : Nat → Call
  | 0, _, _ => .bad
  | n + 1, f, ss => match G.defs[f]? with
    | none => .bad
    | some D => (match packed D ss with
      | none => .bad
      | some ss => if ss.length = D.np ∧ modesOk ss D.modes = true then finish D (exSs G (callD G w n) w D.body (ss.map some ++ List.replicate (D.ns - D.np) none)) else .bad)
end Tf
end
section
set_option Elab.async false
set_option linter.all false
set_option maxRecDepth 100000
namespace Tf
open PySem PySem.Spec PyProof.Rows L2
open HandSHeadRun (frNat)
structure Tb where
  cA : Nat → Addr
  fN : Nat → PySem.Str
  nc : Nat
  nf : Nat
  xs : List Nat
def tyD (T : Tb) : D → Option Value
  | .non => some (.type "NoneType")
  | .bl _ => some (.type "bool")
  | .int _ => some (.type "int")
  | .str _ => some (.type "str")
  | .tup _ => some (.type "tuple")
  | .lst _ => some (.type "list")
  | .ins c _ => some (.ref (T.cA c))
  | .scr _ => some (.type "list")
  | _ => none
def csV (T : Tb) : Cs → Value
  | .own k => .ref (T.cA k)
  | .int => .type "int"
  | .bool => .type "bool"
  | .str => .type "str"
  | .list => .type "list"
  | .tuple => .type "tuple"
inductive At where
  | glo (x : PySem.Str) | met (C m : PySem.Str) | cm (C m : PySem.Str)
  deriving DecidableEq
def recFst (K : PySem.W.Frag) (p : Addr) : Addr := match PySem.W.recIn K p "classmethod" with
  | some (.ref g :: _) => g
  | _ => 0
def At.a (K : PySem.W.Frag) : At → Addr
  | .glo x => He.ga K x
  | .met C m => He.ma K (He.ga K C) m
  | .cm C m => recFst K (He.ma K (He.ga K C) m)
def stNo : Stmt := .Pass ⟨0, 0, 0, 0⟩
def inCls (s : Stmt) : List Stmt := match s with
  | .ClassDef (body := z) .. => z
  | _ => []
structure Fd where
  at_ : At
  name : PySem.Str
  qual : PySem.Str
  st : Stmt
structure Kw where
  fd : Fd
  ks : List PySem.Str
  ms : List (PySem.Str × D)
structure Nm where
  cn : List PySem.Str
  nc : Nat
  fld : List PySem.Str
  mn : List PySem.Str
  fds : List Fd
  xcs : List (Nat × Fd × List PySem.Str)
  free : List PySem.Str
  glo : List (PySem.Str × D)
  kws : List Kw := []
  nox : List Nat := []
  gns : List Nat := []
  ist : List (Option Nat × String × List Nat) := []
def Nm.kA (N : Nm) (K : PySem.W.Frag) (i : Nat) : Addr := match N.kws[i]? with
  | some q => q.fd.at_.a K
  | none => 0
def Nm.kn (N : Nm) (i : Nat) : List PySem.Str := match N.kws[i]? with
  | some q => q.ks
  | none => []
def Nm.all (N : Nm) : List Fd := N.fds ++ N.kws.map (·.fd)
def kdC (K : PySem.W.Frag) (kV : Value) (q : PySem.Str × D) : Bool := match kV with
  | .ref Dk => (match PySem.W.nsIn K Dk q.1, q.2 with
    | some (some (.int j _)), .int i => decide (j = i)
    | some (some .none), .non => true
    | _, _ => false)
  | _ => false
def kdB (K : PySem.W.Frag) (a : Addr) (q : PySem.Str × D) : Bool := match K.lookup a with
  | some ⟨_, _, .func fd, _⟩ => kdC K fd.kwdefaults q
  | _ => false
def Nm.c (N : Nm) (c : Nat) : PySem.Str := N.cn.getD c "?"
def Nm.T (N : Nm) (K : PySem.W.Frag) : Tb := { cA := fun c => He.ga K (N.c c), fN := fun f => N.fld.getD f "?", nc := N.nc, nf := N.fld.length, xs := N.xcs.map (·.1) }
def Nm.fA (N : Nm) (K : PySem.W.Frag) (f : Nat) : Addr := match N.fds[f]? with
  | some d => d.at_.a K
  | none => 0
def Nm.xs (N : Nm) : List Nat := N.xcs.map (·.1)
def Nm.xn (N : Nm) (c : Nat) : List PySem.Str := match N.xcs.lookup c with
  | some p => p.2
  | none => []
def tyB (K : PySem.W.Frag) (C : Addr) : Bool := He.eqO (PySem.W.findIn K (.ref C) "__class__") (some (some (.builtin "object.__class__"))) && (He.eqO (PySem.W.specialIn K (.builtin "object.__class__") "__get__") (some (some (.builtin "getset_descriptor.__get__"))) &&
  (decide (PySem.W.takesIn K (.builtin "object.__class__") = some true) && (decide (PySem.W.mroIn K C (.type "object") = some true) && (decide (PySem.W.mroIn K C (.type "NoneType") = some false) && He.eqO (PySem.W.findIn K (.ref C) "__ne__") (some (some (.builtin "object.__ne__")))))))
def reps (n : Nat) : List D := [.non, .bl true, .int 0, .str "", .tup [], .lst [], .scr []] ++ (List.range n).map fun c => .ins c []
def kitB (K : PySem.W.Frag) (T : Tb) (c : Cs) : Bool := (reps T.nc).all fun x => match tyD T x, isinD x c with
  | some t, some b => decide (PySem.W.kitOne K t (csV T c) = some b)
  | _, _ => true
def nfB (K : PySem.W.Frag) (T : Tb) (C : Addr) : Bool := (reps T.nc).all fun x => match tyD T x with
  | some t => PySem.W.notFirst K C t
  | none => true
def raB (K : PySem.W.Frag) (C : Addr) : Bool := (["add", "sub", "mul", "and", "or"] : List String).all fun n => He.eqO (PySem.W.findIn K (.ref C) (dunderR n)) (some none)
def cmB (K : PySem.W.Frag) (C : Addr) (m : PySem.Str) : Bool := PySem.W.readsIn K C (.type "type") && (He.eqO (PySem.W.specialIn K (.ref C) "__getattribute__") (some (some (.builtin "type.__getattribute__"))) &&
  ((match PySem.W.findCls K (.ref C) (.type "type") m with
    | some (.get (.builtin i) (.ref p) .none (.ref C')) => decide (i = "classmethod.__get__") && (decide (p = He.ma K C m) && decide (C' = C))
    | _ => false) && ((match PySem.W.recIn K (He.ma K C m) "classmethod" with
      | some (.ref g :: _) => true
      | _ => false) && PySem.W.fnIn K (recFst K (He.ma K C m)))))
abbrev FnV : Type := Option (PySem.Str × PySem.Str × Arguments × FuncBody × Scope × Addr × List PySem.Str × Value × Addr)
def fnV (K : PySem.W.Frag) (a : Addr) : FnV := match K.lookup a with
  | some ⟨_, _, .func fd, _⟩ => some (fd.name, fd.qualname, fd.params, fd.body, fd.scope, fd.globals, fd.closure.map (·.1), fd.defaults, fd.builtins)
  | _ => none
def Fd.val (d : Fd) (cl : List PySem.Str) : FnV := some (d.name, d.qual, defArgs d.st, .stmts (defBody d.st), defScope d.st, mainGlobals, cl, .none, builtinsNs)
def codeB (K : PySem.W.Frag) (a : Addr) (q : PySem.Str) : Bool := match K.lookup a with
  | some ⟨_, _, .func fd, _⟩ => PySem.W.codeIn K fd.code q
  | _ => false
def cellAt (K : PySem.W.Frag) (a : Addr) : Addr := match K.lookup a with
  | some ⟨_, _, .func fd, _⟩ => (match fd.closure with
    | [(_, c)] => c
    | _ => 0)
  | _ => 0
def codeAt (K : PySem.W.Frag) (a : Addr) : Addr := match K.lookup a with
  | some ⟨_, _, .func fd, _⟩ => (match fd.code with
    | .ref c => c
    | _ => 0)
  | _ => 0
def cellB (K : PySem.W.Frag) (a C : Addr) : Bool := match K.lookup (cellAt K a) with
  | some ⟨_, _, .cell (some (.ref D)), _⟩ => decide (D = C)
  | _ => false
def fileB (P : Program) (K : PySem.W.Frag) (a : Addr) : Bool := match K.lookup (codeAt K a) with
  | some ⟨_, _, .fields vs, _⟩ => (match (vs[2]? : Option Value) with
    | some (.str file _) => (P.main.file : PySem.Str) == file
    | _ => false)
  | _ => false
def oexB (K : PySem.W.Frag) (C : Addr) : Bool := (match K.lookup C with
  | some ⟨.type "type", _, .cls cd, sl⟩ => (match cd.mro, sl.toList with
    | .ref C' :: bm, [_, _, _, _, some (.builtin n), _] => decide (C' = C) && (decide (n = "ValueError.__new__") && (!cd.hasDel && (cd.hasDict && PySem.HandSPX.refsVE bm)))
    | _, _ => false)
  | _ => false) && (He.eqO (PySem.W.findIn K (.ref C) "__setattr__") (some (some (.builtin "object.__setattr__"))) && (decide (PySem.W.subIn K (.ref C) (.type "BaseException") = some true) && (decide (PySem.W.typeIn K (.ref C) = some (.type "type")) && PySem.W.keepIn K (.ref C))))
def xcB (P : Program) (K : PySem.W.Frag) (C a : Addr) (q : PySem.Str) (fs : List PySem.Str) : Bool := oexB K C && (xfB K C && (He.eqO (PySem.W.findIn K (.ref C) "__init__") (some (some (.ref a))) && (decide (PySem.W.typeIn K (.ref a) = some (.type "function")) &&
  (codeB K a q && (cellB K a C && (fileB P K a && (He.eqO (PySem.W.ks_superIn K C C "__init__") (some (some (.builtin "ValueError.__init__"))) && (decide (PySem.W.subIn K (.ref C) (.type "ValueError") = some true) && (decide (PySem.W.mroIn K C (.ref C) = some true) &&
  fs.all fun f => He.eqO (PySem.W.findIn K (.ref C) f) (some none))))))))))
def Nm.m (N : Nm) (m : Nat) : PySem.Str := N.mn.getD m "?"
def dunders : List PySem.Str := ["__eq__", "__add__", "__sub__", "__mul__", "__neg__", "__bool__", "__len__", "__iter__", "__call__", "__and__", "__or__", "__str__"]
def Nm.stc (N : Nm) (G : Prog) : Bool := decide (N.mn.take 12 = dunders) && (decide (N.fds.length + N.kws.length + N.gns.length = G.defs.length) && ((N.fld.all fun f => N.mn.all fun m => decide (f ≠ m)) && (decide N.fld.Nodup && (decide N.xs.Nodup &&
  ((List.range N.nc).all fun c => match G.clss[c]? with
    | some C => decide ((N.fds[C.init]?).map (·.at_) = some (.met (N.c c) "__init__")) && ((C.meths.all fun p => decide ((N.fds[p.2]?).map (·.at_) = some (.met (N.c c) (N.m p.1)))) && (C.cms.all fun p => decide ((N.fds[p.2]?).map (·.at_) = some (.cm (N.c c) (N.m p.1)))))
    | none => false)))))
def Nm.clB (N : Nm) (K : PySem.W.Frag) (c : Nat) : Bool := (He.Fa.cls (N.c c)).ok K && ((N.fld.all fun f => (He.Fa.noat (N.c c) f).ok K) && ((He.Fa.mkr (N.c c)).ok K && (tyB K (He.ga K (N.c c)) && (nfB K (N.T K) (He.ga K (N.c c)) && (PySem.W.selfFirst K (He.ga K (N.c c)) && ((K.lookup (He.ga K (N.c c))).isSome && raB K (He.ga K (N.c c))))))))
def Nm.meB (N : Nm) (G : Prog) (K : PySem.W.Frag) (c : Nat) : Bool := match G.clss[c]? with
  | some C => (C.meths.all fun p => (He.Fa.meth (N.c c) (N.m p.1)).ok K) && (C.cms.all fun p => cmB K (He.ga K (N.c c)) (N.m p.1))
  | none => false
def Nm.kiB (N : Nm) (K : PySem.W.Frag) : Bool := ((List.range N.nc).all fun c => kitB K (N.T K) (.own c)) && (kitB K (N.T K) .int && (kitB K (N.T K) .bool && (kitB K (N.T K) .str && (kitB K (N.T K) .list && kitB K (N.T K) .tuple))))
def Nm.apB (N : Nm) (K : PySem.W.Frag) : Bool := (List.range N.nc).all fun c => (List.range N.nc).all fun d => decide (c = d) || decide (He.ga K (N.c c) ≠ He.ga K (N.c d))
def Nm.gfB (K : PySem.W.Frag) (d : Fd) : Bool := codeB K (d.at_.a K) d.qual && (match d.at_ with
  | .glo x => (He.Fa.glo x).ok K && PySem.W.keepIn K (.ref (He.ga K x))
  | _ => true)
def Nm.exB (N : Nm) (K : PySem.W.Frag) : Bool := N.xs.all fun c => N.xs.all fun d => decide (PySem.W.exmOne K (.ref (He.ga K (N.c c))) (.ref (He.ga K (N.c d))) = some (decide (c = d)))
def Nm.isV (N : Nm) (K : PySem.W.Frag) (p : Option Nat × String × List Nat) : Value := match p.1 with
  | some c => .ref (He.ga K (N.c c))
  | none => .type p.2.1
def Nm.isB (N : Nm) (K : PySem.W.Frag) : Bool := N.ist.isEmpty || N.xs.all fun c => tyB K (He.ga K (N.c c)) && N.ist.all fun p => decide (PySem.W.kitOne K (.ref (He.ga K (N.c c))) (N.isV K p) = some (p.2.2.contains c))
def Nm.gsB (N : Nm) (K : PySem.W.Frag) : Bool := N.gns.isEmpty || N.xs.all fun c => decide (PySem.W.subIn K (.ref (He.ga K (N.c c))) (.type "StopIteration") = some false)
def gloB (K : PySem.W.Frag) (x : PySem.Str) : D → Bool
  | .int i => (He.Fa.int x i).ok K
  | .str z => (He.Fa.str x z).ok K
  | _ => false
def Nm.chk (N : Nm) (P : Program) (G : Prog) (K : PySem.W.Frag) : Bool :=
  ((List.range N.nc).all fun c => N.clB K c) && (((List.range N.nc).all fun c => N.meB G K c) && (N.kiB K && (N.apB K && ((N.cn.all fun x => (He.Fa.glo x).ok K) && (((N.fds.all fun d => Nm.gfB K d) && (N.kws.all fun q => Nm.gfB K q.fd && q.ms.all fun m => kdB K (q.fd.at_.a K) m)) && ((N.free.all fun x => (He.Fa.free x).ok K) &&
  ((N.xcs.all fun p => xcB P K (He.ga K (N.c p.1)) (p.2.1.at_.a K) p.2.1.qual p.2.2) && ((N.exB K && (N.gsB K && N.isB K)) && ((He.Fa.free "super").ok K && (He.eqO (PySem.W.nsIn K cStatics "thirdparty.any") (some none) && N.glo.all fun g => gloB K g.1 g.2))))))))))
def addAll {α : Type} : List Addr → Nat → List Addr → (Nat → List Addr → α) → α
  | [], m, out, k => k m out
  | r :: rs, m, out, k => frNat r fun r => match Nat.beq (Nat.mod (Nat.shiftRight m r) 2) 1 with
    | true => addAll rs m out k
    | false => frNat (Nat.lor m (Nat.shiftLeft 1 r)) fun m => addAll rs m (r :: out) k
def refsAt (g : Addr → Option Obj) (a : Addr) : List Addr := match g a with
  | some o => He.refsD o
  | none => []
def expandA {α : Type} (g : Addr → Option Obj) : List Addr → Nat → List Addr → (Nat → List Addr → α) → α
  | [], m, out, k => k m out
  | a :: as, m, out, k => addAll (refsAt g a) m out fun m out => expandA g as m out k
def bfsA (g : Addr → Option Obj) : Nat → List Addr → Nat → List Addr → List Addr
  | 0, _, _, acc => acc
  | n + 1, fr, m, acc => expandA g fr m [] fun m new => bfsA g n new m (acc ++ new)
def asX (g : Addr → Option Obj) (n : Nat) : List Addr := bfsA g n [mainGlobals, cStatics] 0 [mainGlobals, cStatics]
abbrev AlX : Type := Bool × List FnV × List FnV
def noLst (K : PySem.W.Frag) : Bool := K.all fun p => !decide (p.2.cls = .type "list")
def obsX (N : Nm) (P : Program) (G : Prog) (K : PySem.W.Frag) : AlX := (N.chk P G K && noLst K, N.all.map fun d => fnV K (d.at_.a K), N.xcs.map fun p => fnV K (p.2.1.at_.a K))
def valX (N : Nm) : AlX := (true, N.all.map fun d => d.val [], N.xcs.map fun p => p.2.1.val ["__class__"])
def obsXG (n : Nat) (N : Nm) (P : Program) (G : Prog) (g : Addr → Option Obj) : AlX := obsX N P G (He.frG g (asX g n))
def hookX (n : Nat) (N : Nm) (P : Program) (G : Prog) : PySem.W.Hook where
  α := AlX
  obs := fun s => obsXG n N P G s.heap.get?
  val := fun _ => valX N
  says := fun _ h => ∃ K : PySem.W.Frag, K.In h ∧ obsX N P G K = valX N
  of := fun _ _ e => ⟨_, He.frG_in, e⟩
  keeps := fun _ _ _ ⟨K, hK, c⟩ k => ⟨K, PySem.W.Frag.In.keeps hK k, c⟩
theorem obsXG_eq {n : Nat} {N : Nm} {P : Program} {G : Prog} {g : Addr → Option Obj} {s : Shared} (h : ∀ a, g a = s.heap.get? a) : obsXG n N P G g = (hookX n N P G).obs s := by
  have e : g = s.heap.get? := funext h
  rw [e] <;> rfl
end Tf
end
section
set_option Elab.async false
set_option linter.all false
namespace Tf.P
open Tf
set_option maxRecDepth 20000
def f0_l1 : Ss := (.cons (.par 2 3 (.var 3) (.bin .mod (.var 2) (.var 3)))
    .nil)
def f0_s1 : S := .whl (.cmp .ne (.var 3) (.cst (.int 0))) f0_l1
def f0_body : Ss :=
    (.cons (.par 2 3 (.bi .abs (.var 0)) (.bi .abs (.var 1)))
    (.cons f0_s1
    (.cons (.ret (.var 2))
    .nil)))
def f0 : DefI := { np := 2, star := false, modes := [.val, .val], ns := 4, own := false, body := f0_body }
def f1_body : Ss :=
    (.cons (.ife (.cmp .eq (.var 2) (.cst (.int 0)))
    (.cons (.raise 2 (.cons false (.cst (.int 0)) .nil))
    .nil)
    .nil)
    (.cons (.asg 3 (.call 0 (.cons false (.var 1) (.cons false (.var 2) .nil))))
    (.cons (.ife (.cmp .lt (.var 2) (.cst (.int 0)))
    (.cons (.asg 3 (.neg (.var 3)))
    .nil)
    .nil)
    (.cons (.sfld 0 0 (.bin .fdiv (.var 1) (.var 3)))
    (.cons (.sfld 0 1 (.bin .fdiv (.var 2) (.var 3)))
    .nil)))))
def f1 : DefI := { np := 3, star := false, modes := [.lend, .val, .val], ns := 4, own := false, body := f1_body }
def f2_body : Ss :=
    (.cons (.ret (.make 0 (.cons false (.bin .add (.bin .mul (.fld (.var 0) 0) (.fld (.var 1) 1)) (.bin .mul (.fld (.var 1) 0) (.fld (.var 0) 1))) (.cons false (.bin .mul (.fld (.var 0) 1) (.fld (.var 1) 1)) .nil))))
    .nil)
def f2 : DefI := { np := 2, star := false, modes := [.val, .val], ns := 2, own := false, body := f2_body }
def f3_body : Ss :=
    (.cons (.ret (.make 0 (.cons false (.bin .sub (.bin .mul (.fld (.var 0) 0) (.fld (.var 1) 1)) (.bin .mul (.fld (.var 1) 0) (.fld (.var 0) 1))) (.cons false (.bin .mul (.fld (.var 0) 1) (.fld (.var 1) 1)) .nil))))
    .nil)
def f3 : DefI := { np := 2, star := false, modes := [.val, .val], ns := 2, own := false, body := f3_body }
def f4_body : Ss :=
    (.cons (.ret (.make 0 (.cons false (.neg (.fld (.var 0) 0)) (.cons false (.fld (.var 0) 1) .nil))))
    .nil)
def f4 : DefI := { np := 1, star := false, modes := [.val], ns := 1, own := false, body := f4_body }
def f5_body : Ss :=
    (.cons (.ret (.make 0 (.cons false (.bin .mul (.fld (.var 0) 0) (.fld (.var 1) 0)) (.cons false (.bin .mul (.fld (.var 0) 1) (.fld (.var 1) 1)) .nil))))
    .nil)
def f5 : DefI := { np := 2, star := false, modes := [.val, .val], ns := 2, own := false, body := f5_body }
def f6_body : Ss :=
    (.cons (.ret (.and (.isin (.var 1) (.own 0)) (.and (.cmp .eq (.fld (.var 0) 0) (.fld (.var 1) 0)) (.cmp .eq (.fld (.var 0) 1) (.fld (.var 1) 1)))))
    .nil)
def f6 : DefI := { np := 2, star := false, modes := [.val, .val], ns := 2, own := false, body := f6_body }
def f7_body : Ss :=
    (.cons (.ret (.lst true (.cons false (.bi .abs (.var 0)) (.cons false (.cst (.int 0)) (.cons false (.cmp .ge (.bi .abs (.var 0)) (.bin .pow (.cst (.int 10)) (.cst (.int 18)))) .nil)))))
    .nil)
def f7 : DefI := { np := 1, star := false, modes := [.val], ns := 1, own := true, body := f7_body }
def f8_body : Ss :=
    (.cons (.sidx 0 (.cst (.int 1)) (.bin .add (.idx (.var 0) (.cst (.int 1))) (.cst (.int 1))))
    (.cons (.ife (.idx (.var 0) (.cst (.int 2)))
    (.cons (.asg 2 (.bin .mod (.bi .int (.idx (.var 0) (.cst (.int 0)))) (.var 1)))
    (.cons (.sidx 0 (.cst (.int 0)) (.bin .fdiv (.bi .int (.idx (.var 0) (.cst (.int 0)))) (.var 1)))
    (.cons (.ret (.var 2))
    .nil)))
    .nil)
    (.cons (.asg 3 (.bin .mod (.bin .pow (.bi .int (.bin .add (.bin .add (.bin .mul (.bin .mod (.bi .int (.idx (.var 0) (.cst (.int 0)))) (.cst (.int 2147483647))) (.cst (.int 48271))) (.bin .mul (.idx (.var 0) (.cst (.int 1))) (.cst (.int 69621)))) (.cst (.int 11)))) (.cst (.int 5))) (.cst (.int 2147483647))))
    (.cons (.asg 3 (.bin .mod (.bin .pow (.bi .int (.bin .add (.bin .add (.bin .mul (.var 3) (.cst (.int 40692))) (.bin .mul (.idx (.var 0) (.cst (.int 1))) (.cst (.int 16811)))) (.cst (.int 7)))) (.cst (.int 3))) (.cst (.int 2147483629))))
    (.cons (.ret (.bin .mod (.bin .fdiv (.var 3) (.cst (.int 32))) (.var 1)))
    .nil)))))
def f8 : DefI := { np := 2, star := false, modes := [.lend, .val], ns := 4, own := false, body := f8_body }
def f9_body : Ss :=
    (.cons (.ife (.cmp .lt (.var 1) (.bi .len (.var 0)))
    (.cons (.ret (.idx (.var 0) (.var 1)))
    .nil)
    .nil)
    (.cons (.ret (.cst (.int 0)))
    .nil))
def f9 : DefI := { np := 2, star := false, modes := [.val, .val], ns := 2, own := false, body := f9_body }
def f10_body : Ss :=
    (.cons (.asg 1 (.lst false (.cons false (.isx (.var 0) [2]) (.cons false (.isx (.var 0) [3]) (.cons false (.isx (.var 0) [4]) (.cons false (.isx (.var 0) [5]) .nil))))))
    (.cons (.ret (.bin .add (.var 1) (.lst false (.cons false (.isx (.var 0) [6]) (.cons false (.isx (.var 0) [7]) (.cons false (.isx (.var 0) [8]) .nil))))))
    .nil))
def f10 : DefI := { np := 1, star := false, modes := [.val], ns := 2, own := false, body := f10_body }
def f11_body : Ss :=
    (.cons (.ife (.cmp .eq (.var 0) (.cst (.int 0)))
    (.cons (.asg 3 (.exm 2 [2] (.cons false (.var 1) .nil)))
    (.cons (.ret (.lst false (.cons false (.var 3) (.cons false (.cmp .eq (.fldx (.var 3) 2 2) (.var 1)) .nil))))
    .nil))
    .nil)
    (.cons (.ife (.cmp .eq (.var 0) (.cst (.int 1)))
    (.cons (.asg 3 (.exm 3 [3] (.cons false (.var 1) .nil)))
    (.cons (.ret (.lst false (.cons false (.var 3) (.cons false (.cmp .eq (.fldx (.var 3) 3 3) (.var 1)) .nil))))
    .nil))
    .nil)
    (.cons (.ife (.cmp .eq (.var 0) (.cst (.int 2)))
    (.cons (.asg 3 (.exm 4 [4] (.cons false (.var 1) .nil)))
    (.cons (.ret (.lst false (.cons false (.var 3) (.cons false (.cmp .eq (.fldx (.var 3) 4 4) (.var 1)) .nil))))
    .nil))
    .nil)
    (.cons (.ife (.cmp .eq (.var 0) (.cst (.int 3)))
    (.cons (.asg 3 (.exm 5 [5] (.cons false (.var 1) .nil)))
    (.cons (.ret (.lst false (.cons false (.var 3) (.cons false (.cmp .eq (.fldx (.var 3) 5 5) (.var 1)) .nil))))
    .nil))
    .nil)
    (.cons (.ife (.cmp .eq (.var 0) (.cst (.int 4)))
    (.cons (.asg 3 (.exm 6 [6, 7] (.cons false (.var 1) (.cons false (.var 2) .nil))))
    (.cons (.ret (.lst false (.cons false (.var 3) (.cons false (.and (.cmp .eq (.fldx (.var 3) 6 6) (.var 1)) (.cmp .eq (.fldx (.var 3) 6 7) (.var 2))) .nil))))
    .nil))
    .nil)
    (.cons (.ret (.lst false (.cons false (.idx (.lst false (.cons false (.exm 7 [] .nil) (.cons false (.exm 8 [] .nil) .nil))) (.bin .sub (.var 0) (.cst (.int 5)))) (.cons false (.cst (.bl true)) .nil))))
    .nil))))))
def f11 : DefI := { np := 3, star := false, modes := [.val, .val, .val], ns := 4, own := false, body := f11_body }
def f12_c1 : E := .comp false (.cmp .eq (.var 7) (.var 4)) (.var 7) (.rng (.cons false (.cst (.int 7)) .nil)) .nil [7]
def f12_l1 : Ss := (.cons (.asgT [(.var 5), (.var 6)] (.call 11 (.cons false (.var 4) (.cons false (.var 2) (.cons false (.var 3) .nil)))))
    (.cons (.ife (.or (.not (.var 6)) (.cmp .ne (.call 10 (.cons false (.var 5) .nil)) f12_c1))
    (.cons (.ret (.cst (.bl false)))
    .nil)
    .nil)
    (.cons (.ife (.or (.not (.isx (.var 5) [2, 3, 4, 5, 6, 7, 8])) (.not (.isx (.var 5) [2, 3, 4, 5, 6, 7, 8])))
    (.cons (.ret (.cst (.bl false)))
    .nil)
    .nil)
    .nil)))
def f12_s1 : S := .for_ (.var 4) (.rng (.cons false (.cst (.int 7)) .nil)) f12_l1
def f12_body : Ss :=
    (.cons (.asg 1 (.call 7 (.cons false (.call 9 (.cons false (.var 0) (.cons false (.cst (.int 0)) .nil))) .nil)))
    (.cons (.asg 2 (.idx (.lst false (.cons false (.bin .sub (.call 8 (.cons false (.var 1) (.cons false (.cst (.int 40)) .nil))) (.cst (.int 9))) (.cons false (.bin .mod (.bi .int (.call 9 (.cons false (.var 0) (.cons false (.cst (.int 1)) .nil)))) (.bin .pow (.cst (.int 10)) (.cst (.int 40)))) (.cons false (.make 0 (.cons false (.call 8 (.cons false (.var 1) (.cons false (.cst (.int 9)) .nil))) (.cons false (.cst (.int 7)) .nil))) .nil)))) (.call 8 (.cons false (.var 1) (.cons false (.cst (.int 3)) .nil)))))
    (.cons (.asg 3 (.idx (.lst false (.cons false (.tup (.cons false (.cst (.int 1)) (.cons false (.cst (.int 2)) .nil))) (.cons false (.cst (.int 0)) (.cons false (.neg (.cst (.int 3))) .nil)))) (.call 8 (.cons false (.var 1) (.cons false (.cst (.int 3)) .nil)))))
    (.cons f12_s1
    (.cons (.ret (.cst (.bl true)))
    .nil)))))
def f12 : DefI := { np := 1, star := false, modes := [.val], ns := 8, own := false, body := f12_body }
def G : Prog := ⟨[f0, f1, f2, f3, f4, f5, f6, f7, f8, f9, f10, f11, f12],
  [{ frz := true, init := 1, meths := [(1, 2), (2, 3), (4, 4), (3, 5), (0, 6)], cms := [], exn := none },
    { frz := true, init := 0, meths := [], cms := [], exn := some 0 },
    { frz := true, init := 0, meths := [], cms := [], exn := some 1 },
    { frz := true, init := 0, meths := [], cms := [], exn := some 1 },
    { frz := true, init := 0, meths := [], cms := [], exn := some 1 },
    { frz := true, init := 0, meths := [], cms := [], exn := some 1 },
    { frz := true, init := 0, meths := [], cms := [], exn := some 2 },
    { frz := true, init := 0, meths := [], cms := [], exn := some 0 },
    { frz := true, init := 0, meths := [], cms := [], exn := some 0 }],
  []⟩
end Tf.P
end
section
set_option Elab.async false
set_option linter.all false
set_option maxRecDepth 100000
namespace Tf.P
open Tf PySem PySem.Spec PyProof.Rows L2
abbrev pg : Program := PySem.Challenge.pw_truthfees_k01_errors_by_class
def topS (i : Nat) : Stmt := pg.main.body.getD i stNo
def metS (i j : Nat) : Stmt := (inCls (topS i)).getD j stNo
def f0_d : Fd := ⟨.glo "common", "common", "common", (topS 12)⟩
def f0_N : List PySem.Str := ["a", "b", "one", "other"]
def f1_d : Fd := ⟨.met "Ratio" "__init__", "__init__", "Ratio.__init__", (metS 15 0)⟩
def f1_N : List PySem.Str := ["self", "top", "bottom", "divisor"]
def f2_d : Fd := ⟨.met "Ratio" "__add__", "__add__", "Ratio.__add__", (metS 15 3)⟩
def f2_N : List PySem.Str := ["self", "other"]
def f3_d : Fd := ⟨.met "Ratio" "__sub__", "__sub__", "Ratio.__sub__", (metS 15 4)⟩
def f3_N : List PySem.Str := ["self", "other"]
def f4_d : Fd := ⟨.met "Ratio" "__neg__", "__neg__", "Ratio.__neg__", (metS 15 5)⟩
def f4_N : List PySem.Str := ["self"]
def f5_d : Fd := ⟨.met "Ratio" "__mul__", "__mul__", "Ratio.__mul__", (metS 15 6)⟩
def f5_N : List PySem.Str := ["self", "other"]
def f6_d : Fd := ⟨.met "Ratio" "__eq__", "__eq__", "Ratio.__eq__", (metS 15 7)⟩
def f6_N : List PySem.Str := ["self", "other"]
def f7_d : Fd := ⟨.glo "_law_bag", "_law_bag", "_law_bag", (topS 17)⟩
def f7_N : List PySem.Str := ["_law_cell"]
def f8_d : Fd := ⟨.glo "_law_draw", "_law_draw", "_law_draw", (topS 18)⟩
def f8_N : List PySem.Str := ["_law_pool", "_law_limit", "_law_digit", "_law_made_here"]
def f9_d : Fd := ⟨.glo "_law_at", "_law_at", "_law_at", (topS 19)⟩
def f9_N : List PySem.Str := ["_law_script", "_law_k"]
def f10_d : Fd := ⟨.glo "_law_sorts", "_law_sorts", "_law_sorts", (topS 20)⟩
def f10_N : List PySem.Str := ["_law_e", "_law_flags"]
def f11_d : Fd := ⟨.glo "_law_made", "_law_made", "_law_made", (topS 21)⟩
def f11_N : List PySem.Str := ["_law_which", "_law_n", "_law_more", "_law_e"]
def f12_d : Fd := ⟨.glo "law", "law", "law", (topS 22)⟩
def f12_N : List PySem.Str := ["_law_script", "_law_pool", "_law_n", "_law_more", "_law_which", "_law_e", "_law_same", "_law_k"]
def x2_d : Fd := ⟨.met "BadNumber" "__init__", "__init__", "BadNumber.__init__", (metS 3 0)⟩
def x3_d : Fd := ⟨.met "BadText" "__init__", "__init__", "BadText.__init__", (metS 4 0)⟩
def x4_d : Fd := ⟨.met "BadKind" "__init__", "__init__", "BadKind.__init__", (metS 5 0)⟩
def x5_d : Fd := ⟨.met "BadOutcome" "__init__", "__init__", "BadOutcome.__init__", (metS 6 0)⟩
def x6_d : Fd := ⟨.met "Unlike" "__init__", "__init__", "Unlike.__init__", (metS 7 0)⟩
def x7_d : Fd := ⟨.met "NothingToShow" "__init__", "__init__", "NothingToShow.__init__", (metS 8 0)⟩
def x8_d : Fd := ⟨.met "NothingToUndo" "__init__", "__init__", "NothingToUndo.__init__", (metS 9 0)⟩
def N : Nm where
  cn := ["Ratio", "FeeError", "BadNumber", "BadText", "BadKind", "BadOutcome", "Unlike", "NothingToShow", "NothingToUndo"]
  nc := 1
  fld := ["top", "bottom", "n", "at", "kind", "outcome", "first", "second"]
  mn := ["__eq__", "__add__", "__sub__", "__mul__", "__neg__", "__bool__", "__len__", "__iter__", "__call__", "__and__", "__or__", "__str__"]
  fds := [f0_d, f1_d, f2_d, f3_d, f4_d, f5_d, f6_d, f7_d, f8_d, f9_d, f10_d, f11_d, f12_d]
  kws := []
  xcs := [(2, x2_d, ["n"]), (3, x3_d, ["at"]), (4, x4_d, ["kind"]), (5, x5_d, ["outcome"]), (6, x6_d, ["first", "second"]), (7, x7_d, []), (8, x8_d, [])]
  nox := []
  gns := []
  ist := [(some 2, "", [2]), (some 3, "", [3]), (some 4, "", [4]), (some 5, "", [5]), (some 6, "", [6]), (some 7, "", [7]), (some 8, "", [8]), (some 1, "", [2, 3, 4, 5, 6, 7, 8]), (none, "ValueError", [2, 3, 4, 5, 6, 7, 8])]
  free := ["len", "abs", "int", "bool", "str", "list", "tuple", "sum", "min", "max", "all", "any", "sorted", "ValueError", "range", "isinstance", "enumerate", "zip", "dict", "iter"]
  glo := []
end Tf.P
end
section
set_option Elab.async false
set_option linter.all false
set_option maxRecDepth 100000
set_option maxHeartbeats 0
namespace Tf.P
open PySem PySem.Spec PyProof.Rows L2
abbrev rw_ : PySem.W.OpenRow := PySem.W.OpenLaw.row PySem.Challenge.rw_truthfees_k01_errors_by_class
abbrev hk : PySem.W.Hook := hookX 6 N pg G
def ob (s : PySem.W.SharedT) : AlX := obsXG 6 N pg G (HandSHeadRun.getT s)
theorem ob_eq (s : PySem.W.SharedT) : ob s = hk.obs s.abs := obsXG_eq (HandSHeadRun.getT_eq s)
def names : List PySem.Str := (["_wall", "FeeError", "BadNumber", "BadText", "BadKind", "BadOutcome", "Unlike", "NothingToShow", "NothingToUndo", "DIGITS", "common", "is_count", "is_top", "Ratio", "_law_bag", "_law_draw", "_law_at", "_law_sorts", "_law_made"] : List PySem.Str)
theorem run (w : World) : HandSHeadRun.RunEq rw_ (PySem.W.view rw_.prog [22]) hk ob 20000 names w := by
  intro os
  kernel_rfl
end Tf.P
end
section
set_option Elab.async false
set_option linter.all false
set_option maxRecDepth 100000
namespace TfE
open PySem PySem.SeqAt
open AutoSeq1 (wpAny_loadPart')
open MeetsSeq MeetsSeq2 MeetsSeq3 SeqRoads2
section
variable {prog : Program} {w : World} {A : Around} {R : Result → Shared → Prop}
def ListI (prog : Program) (w : World) (A : Around) (E : Value → Shared → Prop) (l b : Addr) (N : Nat) (I : Nat → Shared → Prop) (J : Shared → Prop) : Prop :=
  ∀ i s, I i s → ∃ (items items2 : Array Value) (n n2 : Nat), s.heap.get? l = some { cls := .type "list", data := .seq items n } ∧ s.heap.get? b = some { cls := .type "list", data := .seq items2 n2 } ∧ items.size = N ∧ items2.size = N ∧
    ∀ (h1 : i < items.size) (h2 : i < items2.size), wpAny (model prog w) A.in1 (eqBool items[i] items2[i]) (fun r s' => if r = true then I (i + 1) s' else J s') E s
def AtJ (l b : Addr) (N : Nat) (J : Shared → Prop) : Prop := ∀ s, J s → ∃ (items items2 : Array Value) (n n2 : Nat), s.heap.get? l = some { cls := .type "list", data := .seq items n } ∧ s.heap.get? b = some { cls := .type "list", data := .seq items2 n2 } ∧ items.size = N ∧ items2.size = N
theorem eq_loop (l b : Addr) (N : Nat) (I : Nat → Shared → Prop) (J : Shared → Prop) (hl : ListI prog w A (fun e s' => R (.error e) s') l b N I J)
    (fin : ∀ s, I N s → R (.ok (.ret (.bool true))) s) (stop : ∀ s, J s → R (.ok (.ret (.bool false))) s) (hJ : AtJ l b N J) (k : Nat) :
    ∀ i : Nat, N - i = k → i ≤ N → ∀ s, I i s →
      wpAny (model prog w) A.in1 (Builtin.«list.__eq__.loop» ⟨[.ref l, .ref b, rawInt i, rawInt 2], []⟩) (GQ.FinOf prog w A R) (fun e s' => R (.error e) s') s := by
  induction k with
  | zero =>
    intro i hk hi s h
    obtain ⟨items, items2, n, n2, hl1, hb1, hs1, hs2, _⟩ := hl _ _ h
    have hi' : i = N := by omega
    have hR : R (.ok (.ret (.bool true))) s := fin s (hi' ▸ h)
    obtain ⟨hp, g, d, tk, os⟩ := s
    wp_walk using wpAny_loadPart' hl1, wpAny_loadPart' hb1
    have hi1 : items[((i : Nat) : Int).toNat]? = none := by simp; omega
    have hi2 : items2[((i : Nat) : Int).toNat]? = none := by simp; omega
    rw [hi1, hi2]
    wp_walk using wpAny_loadPart' hl1, wpAny_loadPart' hb1
    show R (.ok (.ret (.bool (items.size == items2.size)))) _
    rw [hs1, hs2]
    simpa using hR
  | succ k ih =>
    intro i hk hi s h
    obtain ⟨items, items2, n, n2, hl1, hb1, hs1, hs2, turn⟩ := hl _ _ h
    have hlt : i < items.size := by omega
    have hlt2 : i < items2.size := by omega
    have ht := turn hlt hlt2
    obtain ⟨hp, g, d, tk, os⟩ := s
    wp_walk using wpAny_loadPart' hl1, wpAny_loadPart' hb1
    have hi1 : items[((i : Nat) : Int).toNat]? = some items[i] := by simp [hlt]
    have hi2 : items2[((i : Nat) : Int).toNat]? = some items2[i] := by simp [hlt2]
    have hc : ((i : Int) + 1) = ((i + 1 : Nat) : Int) := by omega
    rw [hi1, hi2]
    refine wpAny_bind (wpAny_mono ht (fun r s2 h2 => ?_) fun _ _ x => x)
    cases r with
    | true =>
      have h2 : I (i + 1) s2 := by simpa using h2
      have hrec := ih (i + 1) (by omega) (by omega) s2 h2
      obtain ⟨hp2, g2, d2, tk2, os2⟩ := s2
      wp_walk
      rw [hc]
      exact ⟨plainId_quiet plain_eq_loop _, codeAny_builtin entry_eq_loop (by
        rw [Around.under_plainId plain_eq_loop _]
        exact hrec)⟩
    | false =>
      have h2 : J s2 := by simpa using h2
      have hR := stop s2 h2
      obtain ⟨jt, jt2, m, m2, hl2, hb2, ht1, ht2⟩ := hJ s2 h2
      obtain ⟨hp2, g2, d2, tk2, os2⟩ := s2
      have hj1 : jt[((i : Nat) : Int).toNat]? = some (jt[i]'(by omega)) := by simp
      have hj2 : jt2[((i : Nat) : Int).toNat]? = some (jt2[i]'(by omega)) := by simp
      wp_walk using wpAny_loadPart' hl2, wpAny_loadPart' hb2
      rw [hj1, hj2]
      wp_walk
      exact hR
theorem list_eq (l b : Addr) (N : Nat) (I : Nat → Shared → Prop) (J : Shared → Prop) (hl : ListI prog w A (fun e s' => R (.error e) s') l b N I J)
    (fin : ∀ s, I N s → R (.ok (.ret (.bool true))) s) (stop : ∀ s, J s → R (.ok (.ret (.bool false))) s) (hJ : AtJ l b N J) {s : Shared} (h : I 0 s) :
    wpAny (model prog w) A.in1 (Builtin.«list.__eq__» ⟨[.ref l, .ref b], []⟩) (GQ.FinOf prog w A R) (fun e s' => R (.error e) s') s := by
  obtain ⟨items, items2, n, n2, hl1, hb1, hs1, hs2, _⟩ := hl _ _ h
  have hrec := eq_loop (A := A) (R := R) l b N I J hl fin stop hJ _ 0 rfl (Nat.zero_le _) s h
  obtain ⟨hp, g, d, tk, os⟩ := s
  have f3 := AutoSeq1.sub_list_list
  have hne : ¬ (items.size != items2.size) = true := by simp [hs1, hs2]
  wp_walk using wpAny_loadPart' hl1, wpAny_loadPart' hb1
  exact ⟨plainId_quiet plain_eq_loop _, codeAny_builtin entry_eq_loop (by
    rw [Around.under_plainId plain_eq_loop _]
    exact hrec)⟩
theorem list_ne (l b : Addr) (items items2 : Array Value) (n n2 : Nat) {s : Shared} (hl1 : s.heap.get? l = some { cls := .type "list", data := .seq items n }) (hb1 : s.heap.get? b = some { cls := .type "list", data := .seq items2 n2 }) (hs : items.size ≠ items2.size)
    (fin : R (.ok (.ret (.bool false))) s) : wpAny (model prog w) A.in1 (Builtin.«list.__eq__» ⟨[.ref l, .ref b], []⟩) (GQ.FinOf prog w A R) (fun e s' => R (.error e) s') s := by
  obtain ⟨hp, g, d, tk, os⟩ := s
  have f3 := AutoSeq1.sub_list_list
  have hne : (items.size != items2.size) = true := by simpa using hs
  wp_walk using wpAny_loadPart' hl1, wpAny_loadPart' hb1
  exact fin
theorem tuple_eq (l b : Addr) (items items2 : Array Value) (n n2 : Nat) (dd dd2 : Option Addr) (sl sl2 : Array (Option Value)) (I : Nat → Shared → Prop) (J : Shared → Prop)
    (turn : ∀ i (h1 : i < items.size) (h2 : i < items2.size) s, I i s → wpAny (model prog w) A.in1 (eqBool items[i] items2[i]) (fun r s' => if r = true then I (i + 1) s' else J s') (fun e s' => R (.error e) s') s)
    (fin : ∀ i s, I i s → (i = items.size ∨ i = items2.size) → R (.ok (.ret (.bool (items.size == items2.size)))) s) (stop : ∀ s, J s → R (.ok (.ret (.bool false))) s) {s : Shared} (hl1 : s.heap.get? l = some { cls := .type "tuple", dict := dd, data := .seq items n, slots := sl }) (hb1 : s.heap.get? b = some { cls := .type "tuple", dict := dd2, data := .seq items2 n2, slots := sl2 }) (h : I 0 s) :
    wpAny (model prog w) A.in1 (Builtin.«tuple.__eq__» ⟨[.ref l, .ref b], []⟩) (GQ.FinOf prog w A R) (fun e s' => R (.error e) s') s := by
  have f2 := AutoSeq1.sub_tuple_tuple
  have hZ : (items.toList.zip items2.toList).length = min items.size items2.size := by simp
  have h0 := h
  obtain ⟨hp, g, d, tk, os⟩ := s
  wp_walk using wpAny_loadPart' hl1, wpAny_loadPart' hb1, wpAny_forIn_list _ (fun rest b s' => b.1 = none ∧ ∃ i, rest = (items.toList.zip items2.toList).drop i ∧ i ≤ min items.size items2.size ∧ I i s') _
  case turn =>
    rintro ⟨y, x⟩ rest b s' ⟨hb', i, hz, hi, hI⟩
    have hlt : i < (items.toList.zip items2.toList).length := by
      rcases Nat.lt_or_ge i (items.toList.zip items2.toList).length with h' | h'
      · exact h'
      · rw [List.drop_of_length_le h'] at hz; cases hz
    have h1 : i < items.size := by omega
    have h2 : i < items2.size := by omega
    rw [List.drop_eq_getElem_cons hlt] at hz
    injection hz with hyx hrest
    have hy : y = items[i] := by have := congrArg Prod.fst hyx; simpa using this
    have hx : x = items2[i] := by have := congrArg Prod.snd hyx; simpa using this
    subst hy hx
    refine wpAny_bind (wpAny_mono (turn i h1 h2 s' hI) (fun r s2 q2 => ?_) fun _ _ x => x)
    cases r with
    | true =>
      have q2 : I (i + 1) s2 := by simpa using q2
      wp_walk
      exact ⟨rfl, i + 1, hrest, by omega, q2⟩
    | false =>
      have q2 : J s2 := by simpa using q2
      have hR := stop s2 q2
      wp_walk
      exact hR
  case fin =>
    rintro ⟨b1, b2⟩ s' ⟨hb', i, hz, hi, hI⟩
    simp only at hb'
    subst hb'
    have hge : min items.size items2.size ≤ i := by
      rcases Nat.lt_or_ge i (items.toList.zip items2.toList).length with h' | h'
      · rw [List.drop_eq_getElem_cons h'] at hz; cases hz
      · omega
    have hi' : i = items.size ∨ i = items2.size := by omega
    have hR := fin i s' hI hi'
    wp_walk
    simpa [Builtin.Tuple.tupleCompareSizes] using hR
  case h =>
    exact ⟨rfl, 0, rfl, Nat.zero_le _, h0⟩
end
end TfE
end
section
set_option Elab.async false
set_option linter.all false
set_option maxRecDepth 100000
namespace TfE
open PySem PySem.SeqAt
open AutoSeq1 (wpAny_loadPart')
open MeetsSeq MeetsSeq2 MeetsSeq3 SeqRoads2
section
variable {prog : Program} {w : World} {A : Around} {R : Result → Shared → Prop}
theorem ne_loop (l b : Addr) (N : Nat) (I : Nat → Shared → Prop) (J : Shared → Prop) (hl : ListI prog w A (fun e s' => R (.error e) s') l b N I J)
    (fin : ∀ s, I N s → R (.ok (.ret (.bool false))) s) (stop : ∀ s, J s → R (.ok (.ret (.bool true))) s) (hJ : AtJ l b N J) (k : Nat) :
    ∀ i : Nat, N - i = k → i ≤ N → ∀ s, I i s →
      wpAny (model prog w) A.in1 (Builtin.«list.__eq__.loop» ⟨[.ref l, .ref b, rawInt i, rawInt 3], []⟩) (GQ.FinOf prog w A R) (fun e s' => R (.error e) s') s := by
  induction k with
  | zero =>
    intro i hk hi s h
    obtain ⟨items, items2, n, n2, hl1, hb1, hs1, hs2, _⟩ := hl _ _ h
    have hi' : i = N := by omega
    have hR : R (.ok (.ret (.bool false))) s := fin s (hi' ▸ h)
    obtain ⟨hp, g, d, tk, os⟩ := s
    wp_walk using wpAny_loadPart' hl1, wpAny_loadPart' hb1
    have hi1 : items[((i : Nat) : Int).toNat]? = none := by simp; omega
    have hi2 : items2[((i : Nat) : Int).toNat]? = none := by simp; omega
    rw [hi1, hi2]
    wp_walk using wpAny_loadPart' hl1, wpAny_loadPart' hb1
    show R (.ok (.ret (.bool (items.size != items2.size)))) _
    rw [hs1, hs2]
    simpa using hR
  | succ k ih =>
    intro i hk hi s h
    obtain ⟨items, items2, n, n2, hl1, hb1, hs1, hs2, turn⟩ := hl _ _ h
    have hlt : i < items.size := by omega
    have hlt2 : i < items2.size := by omega
    have ht := turn hlt hlt2
    obtain ⟨hp, g, d, tk, os⟩ := s
    wp_walk using wpAny_loadPart' hl1, wpAny_loadPart' hb1
    have hi1 : items[((i : Nat) : Int).toNat]? = some items[i] := by simp [hlt]
    have hi2 : items2[((i : Nat) : Int).toNat]? = some items2[i] := by simp [hlt2]
    have hc : ((i : Int) + 1) = ((i + 1 : Nat) : Int) := by omega
    rw [hi1, hi2]
    refine wpAny_bind (wpAny_mono ht (fun r s2 h2 => ?_) fun _ _ x => x)
    cases r with
    | true =>
      have h2 : I (i + 1) s2 := by simpa using h2
      have hrec := ih (i + 1) (by omega) (by omega) s2 h2
      obtain ⟨hp2, g2, d2, tk2, os2⟩ := s2
      wp_walk
      rw [hc]
      exact ⟨plainId_quiet plain_eq_loop _, codeAny_builtin entry_eq_loop (by
        rw [Around.under_plainId plain_eq_loop _]
        exact hrec)⟩
    | false =>
      have h2 : J s2 := by simpa using h2
      have hR := stop s2 h2
      obtain ⟨jt, jt2, m, m2, hl2, hb2, ht1, ht2⟩ := hJ s2 h2
      obtain ⟨hp2, g2, d2, tk2, os2⟩ := s2
      have hj1 : jt[((i : Nat) : Int).toNat]? = some (jt[i]'(by omega)) := by simp
      have hj2 : jt2[((i : Nat) : Int).toNat]? = some (jt2[i]'(by omega)) := by simp
      wp_walk using wpAny_loadPart' hl2, wpAny_loadPart' hb2
      rw [hj1, hj2]
      wp_walk
      exact hR
theorem list_neq (l b : Addr) (N : Nat) (I : Nat → Shared → Prop) (J : Shared → Prop) (hl : ListI prog w A (fun e s' => R (.error e) s') l b N I J)
    (fin : ∀ s, I N s → R (.ok (.ret (.bool false))) s) (stop : ∀ s, J s → R (.ok (.ret (.bool true))) s) (hJ : AtJ l b N J) {s : Shared} (h : I 0 s) :
    wpAny (model prog w) A.in1 (Builtin.«list.__ne__» ⟨[.ref l, .ref b], []⟩) (GQ.FinOf prog w A R) (fun e s' => R (.error e) s') s := by
  obtain ⟨items, items2, n, n2, hl1, hb1, hs1, hs2, _⟩ := hl _ _ h
  have hrec := ne_loop (A := A) (R := R) l b N I J hl fin stop hJ _ 0 rfl (Nat.zero_le _) s h
  obtain ⟨hp, g, d, tk, os⟩ := s
  have f3 := AutoSeq1.sub_list_list
  have hne : ¬ (items.size != items2.size) = true := by simp [hs1, hs2]
  wp_walk using wpAny_loadPart' hl1, wpAny_loadPart' hb1
  exact ⟨plainId_quiet plain_eq_loop _, codeAny_builtin entry_eq_loop (by
    rw [Around.under_plainId plain_eq_loop _]
    exact hrec)⟩
theorem list_nne (l b : Addr) (items items2 : Array Value) (n n2 : Nat) {s : Shared} (hl1 : s.heap.get? l = some { cls := .type "list", data := .seq items n }) (hb1 : s.heap.get? b = some { cls := .type "list", data := .seq items2 n2 }) (hs : items.size ≠ items2.size)
    (fin : R (.ok (.ret (.bool true))) s) : wpAny (model prog w) A.in1 (Builtin.«list.__ne__» ⟨[.ref l, .ref b], []⟩) (GQ.FinOf prog w A R) (fun e s' => R (.error e) s') s := by
  obtain ⟨hp, g, d, tk, os⟩ := s
  have f3 := AutoSeq1.sub_list_list
  have hne : (items.size != items2.size) = true := by simpa using hs
  wp_walk using wpAny_loadPart' hl1, wpAny_loadPart' hb1
  exact fin
theorem tuple_neq (l b : Addr) (items items2 : Array Value) (n n2 : Nat) (dd dd2 : Option Addr) (sl sl2 : Array (Option Value)) (I : Nat → Shared → Prop) (J : Shared → Prop)
    (turn : ∀ i (h1 : i < items.size) (h2 : i < items2.size) s, I i s → wpAny (model prog w) A.in1 (eqBool items[i] items2[i]) (fun r s' => if r = true then I (i + 1) s' else J s') (fun e s' => R (.error e) s') s)
    (fin : ∀ i s, I i s → (i = items.size ∨ i = items2.size) → R (.ok (.ret (.bool (items.size != items2.size)))) s) (stop : ∀ s, J s → R (.ok (.ret (.bool true))) s) {s : Shared} (hl1 : s.heap.get? l = some { cls := .type "tuple", dict := dd, data := .seq items n, slots := sl }) (hb1 : s.heap.get? b = some { cls := .type "tuple", dict := dd2, data := .seq items2 n2, slots := sl2 }) (h : I 0 s) :
    wpAny (model prog w) A.in1 (Builtin.«tuple.__ne__» ⟨[.ref l, .ref b], []⟩) (GQ.FinOf prog w A R) (fun e s' => R (.error e) s') s := by
  have f2 := AutoSeq1.sub_tuple_tuple
  have hZ : (items.toList.zip items2.toList).length = min items.size items2.size := by simp
  have h0 := h
  obtain ⟨hp, g, d, tk, os⟩ := s
  wp_walk using wpAny_loadPart' hl1, wpAny_loadPart' hb1, wpAny_forIn_list _ (fun rest b s' => b.1 = none ∧ ∃ i, rest = (items.toList.zip items2.toList).drop i ∧ i ≤ min items.size items2.size ∧ I i s') _
  case turn =>
    rintro ⟨y, x⟩ rest b s' ⟨hb', i, hz, hi, hI⟩
    have hlt : i < (items.toList.zip items2.toList).length := by
      rcases Nat.lt_or_ge i (items.toList.zip items2.toList).length with h' | h'
      · exact h'
      · rw [List.drop_of_length_le h'] at hz; cases hz
    have h1 : i < items.size := by omega
    have h2 : i < items2.size := by omega
    rw [List.drop_eq_getElem_cons hlt] at hz
    injection hz with hyx hrest
    have hy : y = items[i] := by have := congrArg Prod.fst hyx; simpa using this
    have hx : x = items2[i] := by have := congrArg Prod.snd hyx; simpa using this
    subst hy hx
    refine wpAny_bind (wpAny_mono (turn i h1 h2 s' hI) (fun r s2 q2 => ?_) fun _ _ x => x)
    cases r with
    | true =>
      have q2 : I (i + 1) s2 := by simpa using q2
      wp_walk
      exact ⟨rfl, i + 1, hrest, by omega, q2⟩
    | false =>
      have q2 : J s2 := by simpa using q2
      have hR := stop s2 q2
      wp_walk
      exact hR
  case fin =>
    rintro ⟨b1, b2⟩ s' ⟨hb', i, hz, hi, hI⟩
    simp only at hb'
    subst hb'
    have hge : min items.size items2.size ≤ i := by
      rcases Nat.lt_or_ge i (items.toList.zip items2.toList).length with h' | h'
      · rw [List.drop_eq_getElem_cons h'] at hz; cases hz
      · omega
    have hi' : i = items.size ∨ i = items2.size := by omega
    have hR := fin i s' hI hi'
    wp_walk
    simpa [Builtin.Tuple.tupleCompareSizes] using hR
  case h =>
    exact ⟨rfl, 0, rfl, Nat.zero_le _, h0⟩
end
end TfE
end
section
set_option Elab.async false
set_option linter.all false
set_option maxRecDepth 100000
namespace Tf
open PySem PySem.Spec PyProof.Rows L2
def exB (C : Addr) (od : Option Addr) (t1 : Addr) : Obj := { cls := .ref C, dict := od, data := .fields #[.ref t1, .none, .none, .none, .bool false, .none] }
mutual
def RD (T : Tb) (F : Hp) : D → V → Prop
  | .non, v => v = .non
  | .bl b, v => v = .bl b
  | .int i, v => v = .int i
  | .str s, v => v = .str s
  | .tup xs, v => ∃ a vs, v = .ref a ∧ F a = some (.tup vs) ∧ RDs T F xs vs
  | .lst xs, v => ∃ a vs, v = .ref a ∧ F a = some (.lst vs) ∧ RDs T F xs vs
  | .ins c fs, v => ∃ a dx gs, c < T.nc ∧ v = .ref a ∧ F a = some (.ins (T.cA c) dx gs) ∧ RDf T F fs gs
  | .dcI kvs, v => ∃ a ws, v = .ref a ∧ F a = some (.dK ws) ∧ RDi T F kvs ws
  | .dcT kvs, v => ∃ a ws, v = .ref a ∧ F a = some (.dT ws) ∧ RDt T F kvs ws
  | .cls c, v => c < T.nc ∧ v = .ref (T.cA c)
  | .scr ns, v => ∃ a ob, v = .ref a ∧ F a = some (.frz ob (.lst (ns.map V.int)))
  | .lkI kvs, v => ∃ a ws, v = .ref a ∧ (∃ ob, F a = some (.frz ob (.dK ws))) ∧ RDi T F kvs ws
  | .lkT kvs, v => ∃ a ws, v = .ref a ∧ (∃ ob, F a = some (.frz ob (.dT ws))) ∧ RDt T F kvs ws
  | .exn c fs, v => ∃ a od t1 gs, c ∈ T.xs ∧ v = .ref a ∧ F a = some (.frz (exB (T.cA c) od t1) (exo a (T.cA c) od)) ∧ ((gs = [] ∧ od = none) ∨ ∃ d, od = some d ∧ F d = some (.xd gs)) ∧ RDf T F fs gs
def RDs (T : Tb) (F : Hp) : List D → List V → Prop
  | [], vs => vs = []
  | x :: xs, vs => ∃ v r, vs = v :: r ∧ RD T F x v ∧ RDs T F xs r
def RDf (T : Tb) (F : Hp) : List (Nat × D) → List (PySem.Str × V) → Prop
  | [], vs => vs = []
  | (k, x) :: xs, vs => ∃ v r, k < T.nf ∧ vs = (T.fN k, v) :: r ∧ RD T F x v ∧ RDf T F xs r
def RDi (T : Tb) (F : Hp) : List (Int × D) → List (Key × V) → Prop
  | [], vs => vs = []
  | (k, x) :: xs, vs => ∃ v r, vs = (.inl k, v) :: r ∧ RD T F x v ∧ RDi T F xs r
def RDt (T : Tb) (F : Hp) : List (List Int × D) → List (List Key × V) → Prop
  | [], vs => vs = []
  | (k, x) :: xs, vs => ∃ v r, vs = (k.map Sum.inl, v) :: r ∧ RD T F x v ∧ RDt T F xs r
end
mutual
theorem RD.mono {T : Tb} {F F' : Hp} (h : Same F F') : ∀ {x : D} {v : V}, RD T F x v → RD T F' x v
  | .non, _, r => r
  | .bl _, _, r => r
  | .int _, _, r => r
  | .str _, _, r => r
  | .tup xs, _, r => by
    obtain ⟨a, vs, e, e2, r⟩ := r
    exact ⟨a, vs, e, h _ _ e2, RDs.mono h r⟩
  | .lst xs, _, r => by
    obtain ⟨a, vs, e, e2, r⟩ := r
    exact ⟨a, vs, e, h _ _ e2, RDs.mono h r⟩
  | .ins c fs, _, r => by
    obtain ⟨a, dx, gs, hc, e, e2, r⟩ := r
    exact ⟨a, dx, gs, hc, e, h _ _ e2, RDf.mono h r⟩
  | .dcI kvs, _, r => by
    obtain ⟨a, ws, e, e2, r⟩ := r
    exact ⟨a, ws, e, h _ _ e2, RDi.mono h r⟩
  | .dcT kvs, _, r => by
    obtain ⟨a, ws, e, e2, r⟩ := r
    exact ⟨a, ws, e, h _ _ e2, RDt.mono h r⟩
  | .cls _, _, r => r
  | .scr _, _, r => by
    obtain ⟨a, ob, e, e2⟩ := r
    exact ⟨a, ob, e, h _ _ e2⟩
  | .lkI kvs, _, r => by
    obtain ⟨a, ws, e, ⟨ob, e2⟩, r⟩ := r
    exact ⟨a, ws, e, ⟨ob, h _ _ e2⟩, RDi.mono h r⟩
  | .lkT kvs, _, r => by
    obtain ⟨a, ws, e, ⟨ob, e2⟩, r⟩ := r
    exact ⟨a, ws, e, ⟨ob, h _ _ e2⟩, RDt.mono h r⟩
  | .exn c fs, _, r => by
    obtain ⟨a, od, t1, gs, hc, e, e2, e3, r⟩ := r
    exact ⟨a, od, t1, gs, hc, e, h _ _ e2, e3.imp id fun ⟨d, e4, e5⟩ => ⟨d, e4, h _ _ e5⟩, RDf.mono h r⟩
theorem RDs.mono {T : Tb} {F F' : Hp} (h : Same F F') : ∀ {xs : List D} {vs : List V}, RDs T F xs vs → RDs T F' xs vs
  | [], _, r => r
  | x :: xs, _, r => by
    obtain ⟨v, s, e, r1, r2⟩ := r
    exact ⟨v, s, e, RD.mono h r1, RDs.mono h r2⟩
theorem RDf.mono {T : Tb} {F F' : Hp} (h : Same F F') : ∀ {xs : List (Nat × D)} {vs : List (PySem.Str × V)}, RDf T F xs vs → RDf T F' xs vs
  | [], _, r => r
  | (k, x) :: xs, _, r => by
    obtain ⟨v, s, hk, e, r1, r2⟩ := r
    exact ⟨v, s, hk, e, RD.mono h r1, RDf.mono h r2⟩
theorem RDi.mono {T : Tb} {F F' : Hp} (h : Same F F') : ∀ {xs : List (Int × D)} {vs : List (Key × V)}, RDi T F xs vs → RDi T F' xs vs
  | [], _, r => r
  | (k, x) :: xs, _, r => by
    obtain ⟨v, s, e, r1, r2⟩ := r
    exact ⟨v, s, e, RD.mono h r1, RDi.mono h r2⟩
theorem RDt.mono {T : Tb} {F F' : Hp} (h : Same F F') : ∀ {xs : List (List Int × D)} {vs : List (List Key × V)}, RDt T F xs vs → RDt T F' xs vs
  | [], _, r => r
  | (k, x) :: xs, _, r => by
    obtain ⟨v, s, e, r1, r2⟩ := r
    exact ⟨v, s, e, RD.mono h r1, RDt.mono h r2⟩
end
mutual
def RO (T : Tb) (F H : Hp) : O → V → List Addr → Prop
  | .d x, v, A => A = [] ∧ RD T F x v
  | .lst os, v, A => ∃ a vs B, v = .ref a ∧ A = a :: B ∧ H a = some (.lst vs) ∧ ROs T F H os vs B
  | .ins c fs, v, A => ∃ a dx gs B, c < T.nc ∧ v = .ref a ∧ A = a :: B ∧ H a = some (.ins (T.cA c) dx gs) ∧ ROf T F H fs gs B
  | .dcI kvs, v, A => ∃ a ws B, v = .ref a ∧ A = a :: B ∧ H a = some (.dK ws) ∧ ROi T F H kvs ws B
  | .dcT kvs, v, A => ∃ a ws B, v = .ref a ∧ A = a :: B ∧ H a = some (.dT ws) ∧ ROt T F H kvs ws B
def ROs (T : Tb) (F H : Hp) : List O → List V → List Addr → Prop
  | [], vs, A => vs = [] ∧ A = []
  | x :: xs, vs, A => ∃ v r A1 A2, vs = v :: r ∧ A = A1 ++ A2 ∧ RO T F H x v A1 ∧ ROs T F H xs r A2
def ROf (T : Tb) (F H : Hp) : List (Nat × O) → List (PySem.Str × V) → List Addr → Prop
  | [], vs, A => vs = [] ∧ A = []
  | (k, x) :: xs, vs, A => ∃ v r A1 A2, k < T.nf ∧ vs = (T.fN k, v) :: r ∧ A = A1 ++ A2 ∧ RO T F H x v A1 ∧ ROf T F H xs r A2
def ROi (T : Tb) (F H : Hp) : List (Int × O) → List (Key × V) → List Addr → Prop
  | [], vs, A => vs = [] ∧ A = []
  | (k, x) :: xs, vs, A => ∃ v r A1 A2, vs = (.inl k, v) :: r ∧ A = A1 ++ A2 ∧ RO T F H x v A1 ∧ ROi T F H xs r A2
def ROt (T : Tb) (F H : Hp) : List (List Int × O) → List (List Key × V) → List Addr → Prop
  | [], vs, A => vs = [] ∧ A = []
  | (k, x) :: xs, vs, A => ∃ v r A1 A2, vs = (k.map Sum.inl, v) :: r ∧ A = A1 ++ A2 ∧ RO T F H x v A1 ∧ ROt T F H xs r A2
end
def AtA (H H' : Hp) (A : List Addr) : Prop := ∀ a, a ∈ A → ∀ o, H a = some o → H' a = some o
theorem AtA.left {H H' : Hp} {A B : List Addr} (h : AtA H H' (A ++ B)) : AtA H H' A := fun a m => h a (List.mem_append_left _ m)
theorem AtA.right {H H' : Hp} {A B : List Addr} (h : AtA H H' (A ++ B)) : AtA H H' B := fun a m => h a (List.mem_append_right _ m)
theorem AtA.tail {H H' : Hp} {a : Addr} {B : List Addr} (h : AtA H H' (a :: B)) : AtA H H' B := fun b m => h b (List.mem_cons_of_mem _ m)
theorem AtA.head {H H' : Hp} {a : Addr} {B : List Addr} (h : AtA H H' (a :: B)) {o : HO} (e : H a = some o) : H' a = some o := h a List.mem_cons_self o e
mutual
theorem RO.mono {T : Tb} {F F' H H' : Hp} (h : Same F F') : ∀ {x : O} {v : V} {A : List Addr}, AtA H H' A → RO T F H x v A → RO T F' H' x v A
  | .d x, _, _, _, r => ⟨r.1, RD.mono h r.2⟩
  | .lst os, _, _, k, r => by
    obtain ⟨a, vs, B, e, eA, e2, r⟩ := r
    subst eA
    exact ⟨a, vs, B, e, rfl, k.head e2, ROs.mono h k.tail r⟩
  | .ins c fs, _, _, k, r => by
    obtain ⟨a, dx, gs, B, hc, e, eA, e2, r⟩ := r
    subst eA
    exact ⟨a, dx, gs, B, hc, e, rfl, k.head e2, ROf.mono h k.tail r⟩
  | .dcI kvs, _, _, k, r => by
    obtain ⟨a, ws, B, e, eA, e2, r⟩ := r
    subst eA
    exact ⟨a, ws, B, e, rfl, k.head e2, ROi.mono h k.tail r⟩
  | .dcT kvs, _, _, k, r => by
    obtain ⟨a, ws, B, e, eA, e2, r⟩ := r
    subst eA
    exact ⟨a, ws, B, e, rfl, k.head e2, ROt.mono h k.tail r⟩
theorem ROs.mono {T : Tb} {F F' H H' : Hp} (h : Same F F') : ∀ {xs : List O} {vs : List V} {A : List Addr}, AtA H H' A → ROs T F H xs vs A → ROs T F' H' xs vs A
  | [], _, _, _, r => r
  | x :: xs, _, _, k, r => by
    obtain ⟨v, s, A1, A2, e, eA, r1, r2⟩ := r
    subst eA
    exact ⟨v, s, A1, A2, e, rfl, RO.mono h k.left r1, ROs.mono h k.right r2⟩
theorem ROf.mono {T : Tb} {F F' H H' : Hp} (h : Same F F') : ∀ {xs : List (Nat × O)} {vs : List (PySem.Str × V)} {A : List Addr}, AtA H H' A → ROf T F H xs vs A → ROf T F' H' xs vs A
  | [], _, _, _, r => r
  | (_, x) :: xs, _, _, k, r => by
    obtain ⟨v, s, A1, A2, hk, e, eA, r1, r2⟩ := r
    subst eA
    exact ⟨v, s, A1, A2, hk, e, rfl, RO.mono h k.left r1, ROf.mono h k.right r2⟩
theorem ROi.mono {T : Tb} {F F' H H' : Hp} (h : Same F F') : ∀ {xs : List (Int × O)} {vs : List (Key × V)} {A : List Addr}, AtA H H' A → ROi T F H xs vs A → ROi T F' H' xs vs A
  | [], _, _, _, r => r
  | (_, x) :: xs, _, _, k, r => by
    obtain ⟨v, s, A1, A2, e, eA, r1, r2⟩ := r
    subst eA
    exact ⟨v, s, A1, A2, e, rfl, RO.mono h k.left r1, ROi.mono h k.right r2⟩
theorem ROt.mono {T : Tb} {F F' H H' : Hp} (h : Same F F') : ∀ {xs : List (List Int × O)} {vs : List (List Key × V)} {A : List Addr}, AtA H H' A → ROt T F H xs vs A → ROt T F' H' xs vs A
  | [], _, _, _, r => r
  | (_, x) :: xs, _, _, k, r => by
    obtain ⟨v, s, A1, A2, e, eA, r1, r2⟩ := r
    subst eA
    exact ⟨v, s, A1, A2, e, rfl, RO.mono h k.left r1, ROt.mono h k.right r2⟩
end
mutual
theorem RO.there {T : Tb} {F H : Hp} : ∀ {x : O} {v : V} {A : List Addr}, RO T F H x v A → ∀ a ∈ A, ∃ q, H a = some q
  | .d x, _, _, r, a, m => by rw [r.1] at m; cases m
  | .lst os, _, _, r, a, m => by
    obtain ⟨b, vs, B, e, eA, e2, r⟩ := r
    subst eA
    rcases List.mem_cons.mp m with rfl | m
    · exact ⟨_, e2⟩
    · exact ROs.there r a m
  | .ins c fs, _, _, r, a, m => by
    obtain ⟨b, dx, gs, B, hc, e, eA, e2, r⟩ := r
    subst eA
    rcases List.mem_cons.mp m with rfl | m
    · exact ⟨_, e2⟩
    · exact ROf.there r a m
  | .dcI kvs, _, _, r, a, m => by
    obtain ⟨b, ws, B, e, eA, e2, r⟩ := r
    subst eA
    rcases List.mem_cons.mp m with rfl | m
    · exact ⟨_, e2⟩
    · exact ROi.there r a m
  | .dcT kvs, _, _, r, a, m => by
    obtain ⟨b, ws, B, e, eA, e2, r⟩ := r
    subst eA
    rcases List.mem_cons.mp m with rfl | m
    · exact ⟨_, e2⟩
    · exact ROt.there r a m
theorem ROs.there {T : Tb} {F H : Hp} : ∀ {xs : List O} {vs : List V} {A : List Addr}, ROs T F H xs vs A → ∀ a ∈ A, ∃ q, H a = some q
  | [], _, _, r, a, m => by rw [r.2] at m; cases m
  | x :: xs, _, _, r, a, m => by
    obtain ⟨v, s, A1, A2, e, eA, r1, r2⟩ := r
    subst eA
    exact (List.mem_append.mp m).elim (RO.there r1 a) (ROs.there r2 a)
theorem ROf.there {T : Tb} {F H : Hp} : ∀ {xs : List (Nat × O)} {vs : List (PySem.Str × V)} {A : List Addr}, ROf T F H xs vs A → ∀ a ∈ A, ∃ q, H a = some q
  | [], _, _, r, a, m => by rw [r.2] at m; cases m
  | (_, x) :: xs, _, _, r, a, m => by
    obtain ⟨v, s, A1, A2, hk, e, eA, r1, r2⟩ := r
    subst eA
    exact (List.mem_append.mp m).elim (RO.there r1 a) (ROf.there r2 a)
theorem ROi.there {T : Tb} {F H : Hp} : ∀ {xs : List (Int × O)} {vs : List (Key × V)} {A : List Addr}, ROi T F H xs vs A → ∀ a ∈ A, ∃ q, H a = some q
  | [], _, _, r, a, m => by rw [r.2] at m; cases m
  | (_, x) :: xs, _, _, r, a, m => by
    obtain ⟨v, s, A1, A2, e, eA, r1, r2⟩ := r
    subst eA
    exact (List.mem_append.mp m).elim (RO.there r1 a) (ROi.there r2 a)
theorem ROt.there {T : Tb} {F H : Hp} : ∀ {xs : List (List Int × O)} {vs : List (List Key × V)} {A : List Addr}, ROt T F H xs vs A → ∀ a ∈ A, ∃ q, H a = some q
  | [], _, _, r, a, m => by rw [r.2] at m; cases m
  | (_, x) :: xs, _, _, r, a, m => by
    obtain ⟨v, s, A1, A2, e, eA, r1, r2⟩ := r
    subst eA
    exact (List.mem_append.mp m).elim (RO.there r1 a) (ROt.there r2 a)
end
mutual
theorem RO.nt {T : Tb} {F H : Hp} : ∀ {x : O} {v : V} {A : List Addr}, RO T F H x v A → ∀ a ∈ A, ∀ ys, H a ≠ some (.tup ys)
  | .d x, _, _, r, a, m => by rw [r.1] at m; cases m
  | .lst os, _, _, r, a, m => by
    obtain ⟨b, vs, B, e, eA, e2, r⟩ := r
    subst eA
    rcases List.mem_cons.mp m with rfl | m
    · intro ys h; rw [e2] at h; cases h
    · exact ROs.nt r a m
  | .ins c fs, _, _, r, a, m => by
    obtain ⟨b, dx, gs, B, hc, e, eA, e2, r⟩ := r
    subst eA
    rcases List.mem_cons.mp m with rfl | m
    · intro ys h; rw [e2] at h; cases h
    · exact ROf.nt r a m
  | .dcI kvs, _, _, r, a, m => by
    obtain ⟨b, ws, B, e, eA, e2, r⟩ := r
    subst eA
    rcases List.mem_cons.mp m with rfl | m
    · intro ys h; rw [e2] at h; cases h
    · exact ROi.nt r a m
  | .dcT kvs, _, _, r, a, m => by
    obtain ⟨b, ws, B, e, eA, e2, r⟩ := r
    subst eA
    rcases List.mem_cons.mp m with rfl | m
    · intro ys h; rw [e2] at h; cases h
    · exact ROt.nt r a m
theorem ROs.nt {T : Tb} {F H : Hp} : ∀ {xs : List O} {vs : List V} {A : List Addr}, ROs T F H xs vs A → ∀ a ∈ A, ∀ ys, H a ≠ some (.tup ys)
  | [], _, _, r, a, m => by rw [r.2] at m; cases m
  | x :: xs, _, _, r, a, m => by
    obtain ⟨v, s, A1, A2, e, eA, r1, r2⟩ := r
    subst eA
    exact (List.mem_append.mp m).elim (RO.nt r1 a) (ROs.nt r2 a)
theorem ROf.nt {T : Tb} {F H : Hp} : ∀ {xs : List (Nat × O)} {vs : List (PySem.Str × V)} {A : List Addr}, ROf T F H xs vs A → ∀ a ∈ A, ∀ ys, H a ≠ some (.tup ys)
  | [], _, _, r, a, m => by rw [r.2] at m; cases m
  | (_, x) :: xs, _, _, r, a, m => by
    obtain ⟨v, s, A1, A2, hk, e, eA, r1, r2⟩ := r
    subst eA
    exact (List.mem_append.mp m).elim (RO.nt r1 a) (ROf.nt r2 a)
theorem ROi.nt {T : Tb} {F H : Hp} : ∀ {xs : List (Int × O)} {vs : List (Key × V)} {A : List Addr}, ROi T F H xs vs A → ∀ a ∈ A, ∀ ys, H a ≠ some (.tup ys)
  | [], _, _, r, a, m => by rw [r.2] at m; cases m
  | (_, x) :: xs, _, _, r, a, m => by
    obtain ⟨v, s, A1, A2, e, eA, r1, r2⟩ := r
    subst eA
    exact (List.mem_append.mp m).elim (RO.nt r1 a) (ROi.nt r2 a)
theorem ROt.nt {T : Tb} {F H : Hp} : ∀ {xs : List (List Int × O)} {vs : List (List Key × V)} {A : List Addr}, ROt T F H xs vs A → ∀ a ∈ A, ∀ ys, H a ≠ some (.tup ys)
  | [], _, _, r, a, m => by rw [r.2] at m; cases m
  | (_, x) :: xs, _, _, r, a, m => by
    obtain ⟨v, s, A1, A2, e, eA, r1, r2⟩ := r
    subst eA
    exact (List.mem_append.mp m).elim (RO.nt r1 a) (ROt.nt r2 a)
end
def plus (F H : Hp) (A : List Addr) : Hp := fun a => if a ∈ A then H a else F a
theorem plus_in {F H : Hp} {A : List Addr} {a : Addr} (h : a ∈ A) : plus F H A a = H a := if_pos h
theorem plus_out {F H : Hp} {A : List Addr} {a : Addr} (h : a ∉ A) : plus F H A a = F a := if_neg h
theorem same_plus {F H : Hp} {A : List Addr} (h : ∀ a ∈ A, F a = none) : Same F (plus F H A) := fun a o e => by
  by_cases m : a ∈ A
  · rw [h a m] at e; cases e
  · rw [plus_out m]; exact e
theorem plus_same {F H : Hp} {A : List Addr} (h : Same F H) : Same (plus F H A) H := fun a o e => by
  by_cases m : a ∈ A
  · rw [plus_in m] at e; exact e
  · rw [plus_out m] at e; exact h a o e
theorem plus_none {F H : Hp} {A : List Addr} {a : Addr} (h : F a = none) (m : a ∉ A) : plus F H A a = none := by rw [plus_out m]; exact h
abbrev NT (q : HO) : Prop := ∀ ys, q ≠ .tup ys
def PF (P F : Hp) : Prop := ∀ a q, P a = some q → F a = none ∨ ((∃ ys, q = HO.tup ys) ∧ F a = some q)
theorem PF.plusF {P F H : Hp} {B : List Addr} (h : PF P F) (n : ∀ a ∈ B, P a = none) : PF P (plus F H B) := fun a q e => by
  have na : a ∉ B := fun m => by rw [n a m] at e; cases e
  rw [plus_out na]
  exact h a q e
theorem PF.plusP {P F H : Hp} {A : List Addr} (h : PF P F) (n : ∀ a ∈ A, F a = none) : PF (plus P H A) F := fun a q e => by
  by_cases m : a ∈ A
  · exact .inl (n a m)
  · rw [plus_out m] at e
    exact h a q e
theorem PF.updF {P F : Hp} {p : Addr} {o : HO} (h : PF P F) (n : P p = none) : PF P (upd F p o) := fun a q e => by
  rw [upd_ne (fun k => by rw [k, n] at e; cases e)]
  exact h a q e
theorem PF.sub {P P' F : Hp} (h : PF P' F) (s : Same P P') : PF P F := fun a q e => h a q (s a q e)
mutual
theorem RO.frz {T : Tb} {F H : Hp} : ∀ {x : O} {v : V} {A : List Addr}, RO T F H x v A → ∀ {F' : Hp}, Same F F' → AtA H F' A → RD T F' x.frz v
  | .d x, _, _, r, _, h, _ => RD.mono h r.2
  | .lst os, _, _, r, _, h, k => by
    obtain ⟨a, vs, B, e, eA, e2, r⟩ := r
    subst eA
    exact ⟨a, vs, e, k.head e2, ROs.frz r h k.tail⟩
  | .ins c fs, _, _, r, _, h, k => by
    obtain ⟨a, dx, gs, B, hc, e, eA, e2, r⟩ := r
    subst eA
    exact ⟨a, dx, gs, hc, e, k.head e2, ROf.frz r h k.tail⟩
  | .dcI kvs, _, _, r, _, h, k => by
    obtain ⟨a, ws, B, e, eA, e2, r⟩ := r
    subst eA
    exact ⟨a, ws, e, k.head e2, ROi.frz r h k.tail⟩
  | .dcT kvs, _, _, r, _, h, k => by
    obtain ⟨a, ws, B, e, eA, e2, r⟩ := r
    subst eA
    exact ⟨a, ws, e, k.head e2, ROt.frz r h k.tail⟩
theorem ROs.frz {T : Tb} {F H : Hp} : ∀ {xs : List O} {vs : List V} {A : List Addr}, ROs T F H xs vs A → ∀ {F' : Hp}, Same F F' → AtA H F' A → RDs T F' (O.frzL xs) vs
  | [], _, _, r, _, _, _ => r.1
  | x :: xs, _, _, r, _, h, k => by
    obtain ⟨v, s, A1, A2, e, eA, r1, r2⟩ := r
    subst eA
    exact ⟨v, s, e, RO.frz r1 h k.left, ROs.frz r2 h k.right⟩
theorem ROf.frz {T : Tb} {F H : Hp} : ∀ {xs : List (Nat × O)} {vs : List (PySem.Str × V)} {A : List Addr}, ROf T F H xs vs A → ∀ {F' : Hp}, Same F F' → AtA H F' A → RDf T F' (O.frzF xs) vs
  | [], _, _, r, _, _, _ => r.1
  | (_, x) :: xs, _, _, r, _, h, k => by
    obtain ⟨v, s, A1, A2, hk, e, eA, r1, r2⟩ := r
    subst eA
    exact ⟨v, s, hk, e, RO.frz r1 h k.left, ROf.frz r2 h k.right⟩
theorem ROi.frz {T : Tb} {F H : Hp} : ∀ {xs : List (Int × O)} {vs : List (Key × V)} {A : List Addr}, ROi T F H xs vs A → ∀ {F' : Hp}, Same F F' → AtA H F' A → RDi T F' (O.frzI xs) vs
  | [], _, _, r, _, _, _ => r.1
  | (_, x) :: xs, _, _, r, _, h, k => by
    obtain ⟨v, s, A1, A2, e, eA, r1, r2⟩ := r
    subst eA
    exact ⟨v, s, e, RO.frz r1 h k.left, ROi.frz r2 h k.right⟩
theorem ROt.frz {T : Tb} {F H : Hp} : ∀ {xs : List (List Int × O)} {vs : List (List Key × V)} {A : List Addr}, ROt T F H xs vs A → ∀ {F' : Hp}, Same F F' → AtA H F' A → RDt T F' (O.frzT xs) vs
  | [], _, _, r, _, _, _ => r.1
  | (_, x) :: xs, _, _, r, _, h, k => by
    obtain ⟨v, s, A1, A2, e, eA, r1, r2⟩ := r
    subst eA
    exact ⟨v, s, e, RO.frz r1 h k.left, ROt.frz r2 h k.right⟩
end
def RSl (T : Tb) (F H : Hp) : Fr → L2.St → List Addr → Prop
  | [], s, A => s = [] ∧ A = []
  | none :: σ, s, A => ∃ x r, s = x :: r ∧ RSl T F H σ r A
  | some (.own o) :: σ, s, A => ∃ v r A1 A2, s = some v :: r ∧ A = A1 ++ A2 ∧ RO T F H o v A1 ∧ RSl T F H σ r A2
  | some (.lent o) :: σ, s, A => ∃ v r A1 A2, s = some v :: r ∧ A = A1 ++ A2 ∧ RO T F H o v A1 ∧ RSl T F H σ r A2
def R1 (T : Tb) (F H : Hp) (s : Option Sl) (x : Option V) (A : List Addr) : Prop := match s with
  | none => A = []
  | some (.own o) => ∃ v, x = some v ∧ RO T F H o v A
  | some (.lent o) => ∃ v, x = some v ∧ RO T F H o v A
theorem RSl.cons_iff {T : Tb} {F H : Hp} {s : Option Sl} {σ : Fr} {z : L2.St} {A : List Addr} : RSl T F H (s :: σ) z A ↔ ∃ x r A1 A2, z = x :: r ∧ A = A1 ++ A2 ∧ R1 T F H s x A1 ∧ RSl T F H σ r A2 := by
  cases s with
  | none =>
    constructor
    · rintro ⟨x, r, e, h⟩
      exact ⟨x, r, [], A, e, rfl, rfl, h⟩
    · rintro ⟨x, r, A1, A2, e, eA, h1, h2⟩
      have h1' : A1 = [] := h1
      subst h1' eA
      exact ⟨x, r, e, h2⟩
  | some sl =>
    cases sl with
    | own o =>
      constructor
      · rintro ⟨v, r, A1, A2, e, eA, h1, h2⟩
        exact ⟨_, r, A1, A2, e, eA, ⟨v, rfl, h1⟩, h2⟩
      · rintro ⟨x, r, A1, A2, e, eA, ⟨v, ex, h1⟩, h2⟩
        subst ex
        exact ⟨v, r, A1, A2, e, eA, h1, h2⟩
    | lent o =>
      constructor
      · rintro ⟨v, r, A1, A2, e, eA, h1, h2⟩
        exact ⟨_, r, A1, A2, e, eA, ⟨v, rfl, h1⟩, h2⟩
      · rintro ⟨x, r, A1, A2, e, eA, ⟨v, ex, h1⟩, h2⟩
        subst ex
        exact ⟨v, r, A1, A2, e, eA, h1, h2⟩
theorem RSl.len {T : Tb} {F H : Hp} : ∀ {σ : Fr} {z : L2.St} {A : List Addr}, RSl T F H σ z A → σ.length = z.length
  | [], _, _, h => by
    obtain ⟨e, _⟩ := h
    subst e
    rfl
  | s :: σ, _, _, h => by
    obtain ⟨x, r, A1, A2, e, eA, h1, h2⟩ := RSl.cons_iff.mp h
    rw [e, List.length_cons, List.length_cons, RSl.len h2]
theorem R1.mono {T : Tb} {F F' H H' : Hp} {s : Option Sl} {x : Option V} {A : List Addr} (hF : Same F F') (hA : AtA H H' A) (h : R1 T F H s x A) : R1 T F' H' s x A := by
  cases s with
  | none => exact h
  | some sl =>
    cases sl with
    | own o => obtain ⟨v, e, r⟩ := h; exact ⟨v, e, RO.mono hF hA r⟩
    | lent o => obtain ⟨v, e, r⟩ := h; exact ⟨v, e, RO.mono hF hA r⟩
theorem RSl.mono {T : Tb} {F F' H H' : Hp} : ∀ {σ : Fr} {z : L2.St} {A : List Addr}, Same F F' → AtA H H' A → RSl T F H σ z A → RSl T F' H' σ z A
  | [], _, _, _, _, h => h
  | s :: σ, _, _, hF, hA, h => by
    obtain ⟨x, r, A1, A2, e, eA, h1, h2⟩ := RSl.cons_iff.mp h
    subst eA
    exact RSl.cons_iff.mpr ⟨x, r, A1, A2, e, rfl, R1.mono hF hA.left h1, RSl.mono hF hA.right h2⟩
theorem RSl.split {T : Tb} {F H : Hp} : ∀ {σ : Fr} {z : L2.St} {A : List Addr} {i : Nat} {s : Option Sl}, RSl T F H σ z A → σ[i]? = some s →
    ∃ x Ai C, z[i]? = some x ∧ R1 T F H s x Ai ∧ RSl T F H (σ.set i none) z C ∧ (Ai ++ C).Perm A
  | [], _, _, _, _, _, e => by simp at e
  | s0 :: σ, _, _, 0, s, h, e => by
    obtain ⟨x, r, A1, A2, ez, eA, h1, h2⟩ := RSl.cons_iff.mp h
    have e' : s0 = s := by simpa using e
    subst e' ez eA
    exact ⟨x, A1, A2, rfl, h1, RSl.cons_iff.mpr ⟨x, r, [], A2, rfl, rfl, rfl, h2⟩, .refl _⟩
  | s0 :: σ, _, _, i + 1, s, h, e => by
    obtain ⟨x, r, A1, A2, ez, eA, h1, h2⟩ := RSl.cons_iff.mp h
    subst ez eA
    obtain ⟨y, Ai, C, e1, k1, k2, pm⟩ := RSl.split (i := i) (s := s) h2 (by simpa using e)
    refine ⟨y, Ai, A1 ++ C, by simpa using e1, k1, RSl.cons_iff.mpr ⟨x, r, A1, C, rfl, rfl, h1, k2⟩, ?_⟩
    exact (List.perm_append_comm_assoc Ai A1 C).trans (List.Perm.append_left A1 pm)
theorem RSl.join {T : Tb} {F H : Hp} {s : Option Sl} {x : Option V} {Ai : List Addr} (k : R1 T F H s x Ai) : ∀ {σ : Fr} {z : L2.St} {C : List Addr} {i : Nat}, RSl T F H σ z C → σ[i]? = some none →
    ∃ A, RSl T F H (σ.set i s) (z.set i x) A ∧ (Ai ++ C).Perm A
  | [], _, _, _, _, e => by simp at e
  | s0 :: σ, _, _, 0, h, e => by
    obtain ⟨y, r, A1, A2, ez, eA, h1, h2⟩ := RSl.cons_iff.mp h
    have e' : s0 = none := by simpa using e
    subst e' ez eA
    have h1' : A1 = [] := h1
    subst h1'
    exact ⟨Ai ++ A2, RSl.cons_iff.mpr ⟨x, r, Ai, A2, rfl, rfl, k, h2⟩, .refl _⟩
  | s0 :: σ, _, _, i + 1, h, e => by
    obtain ⟨y, r, A1, A2, ez, eA, h1, h2⟩ := RSl.cons_iff.mp h
    subst ez eA
    obtain ⟨A, k2, pm⟩ := RSl.join k (i := i) h2 (by simpa using e)
    refine ⟨A1 ++ A, RSl.cons_iff.mpr ⟨y, _, A1, A, rfl, rfl, h1, k2⟩, ?_⟩
    exact (List.perm_append_comm_assoc Ai A1 A2).trans (List.Perm.append_left A1 pm)
theorem RSl.free {T : Tb} {F H : Hp} {x : Option V} : ∀ {σ : Fr} {z : L2.St} {C : List Addr} {i : Nat}, RSl T F H σ z C → σ[i]? = some none → RSl T F H σ (z.set i x) C
  | [], _, _, _, _, e => by simp at e
  | s0 :: σ, _, _, 0, h, e => by
    obtain ⟨y, r, A1, A2, ez, eA, h1, h2⟩ := RSl.cons_iff.mp h
    have e' : s0 = none := by simpa using e
    subst e' ez eA
    exact RSl.cons_iff.mpr ⟨x, r, A1, A2, rfl, rfl, h1, h2⟩
  | s0 :: σ, _, _, i + 1, h, e => by
    obtain ⟨y, r, A1, A2, ez, eA, h1, h2⟩ := RSl.cons_iff.mp h
    subst ez eA
    exact RSl.cons_iff.mpr ⟨y, _, A1, A2, rfl, rfl, h1, RSl.free (i := i) h2 (by simpa using e)⟩
structure St0 (T : Tb) (P F H : Hp) (σ : Fr) (z : L2.St) (A : List Addr) : Prop where
  s : RSl T F H σ z A
  nd : A.Nodup
  nP : ∀ a ∈ A, P a = none
  nF : ∀ a ∈ A, F a = none
  pH : Same P H
  fH : Same F H
  pF : PF P F
def Rel (T : Tb) (P F H : Hp) (σ : Fr) (z : L2.St) : Prop := ∃ A, St0 T P F H σ z A
structure StO (T : Tb) (P F H : Hp) (σ : Fr) (z : L2.St) (A B : List Addr) (o : O) (u : V) : Prop where
  s : RSl T F H σ z A
  o : RO T F H o u B
  nd : (B ++ A).Nodup
  nP : ∀ a ∈ B ++ A, P a = none
  nF : ∀ a ∈ B ++ A, F a = none
  pH : Same P H
  fH : Same F H
  pF : PF P F
structure StB (T : Tb) (P F H : Hp) (σ : Fr) (z : L2.St) (i : Nat) (o : O) (u : V) (s : Sl) (x : Option V) (Ai C B : List Addr) : Prop where
  at_ : σ[i]? = some (some s)
  val : z[i]? = some x
  rs : RSl T F H (σ.set i none) z C
  r : R1 T F H (some s) x Ai
  o : RO T F H o u B
  sub : ∀ a ∈ B, a ∈ Ai
  nd : (Ai ++ C).Nodup
  nP : ∀ a ∈ Ai ++ C, P a = none
  nF : ∀ a ∈ Ai ++ C, F a = none
  pH : Same P H
  fH : Same F H
  pF : PF P F
def RelV (T : Tb) (P F H : Hp) (σ : Fr) (z : L2.St) : Val → V → Prop
  | .d x, u => Rel T P F H σ z ∧ RD T F x u
  | .o o, u => ∃ A B, StO T P F H σ z A B o u
  | .b i o, u => ∃ s x Ai C B, StB T P F H σ z i o u s x Ai C B
theorem set_set_none {σ : Fr} {i : Nat} {s : Option Sl} (h : σ[i]? = some s) : (σ.set i none).set i s = σ := by
  rw [List.set_set]
  exact List.set_getElem?_eq h
where
  List.set_getElem?_eq {α : Type} {l : List α} {i : Nat} {a : α} (h : l[i]? = some a) : l.set i a = l := by
    apply List.ext_getElem?
    intro j
    by_cases e : i = j
    · subst e
      rw [List.getElem?_set_self (List.getElem?_eq_some_iff.mp h).1, h]
    · rw [List.getElem?_set_ne e]
theorem set_same {α : Type} {l : List α} {i : Nat} {a : α} (h : l[i]? = some a) : l.set i a = l := set_set_none.List.set_getElem?_eq h
theorem nodup_perm {A B : List Addr} (p : A.Perm B) (h : B.Nodup) : A.Nodup := p.nodup_iff.mpr h
theorem St0.out {T : Tb} {P F H : Hp} {σ : Fr} {z : L2.St} {A : List Addr} {i : Nat} {s : Option Sl} (h : St0 T P F H σ z A) (e : σ[i]? = some s) :
    ∃ x Ai C, z[i]? = some x ∧ R1 T F H s x Ai ∧ RSl T F H (σ.set i none) z C ∧ (Ai ++ C).Nodup ∧ (∀ a ∈ Ai ++ C, P a = none) ∧ (∀ a ∈ Ai ++ C, F a = none) := by
  obtain ⟨x, Ai, C, e1, k1, k2, pm⟩ := h.s.split e
  exact ⟨x, Ai, C, e1, k1, k2, nodup_perm pm h.nd, fun a m => h.nP a (pm.mem_iff.mp m), fun a m => h.nF a (pm.mem_iff.mp m)⟩
theorem St0.in_ {T : Tb} {P F H : Hp} {σ : Fr} {z : L2.St} {C Ai : List Addr} {i : Nat} {s : Option Sl} {x : Option V} (hs : RSl T F H σ z C) (e : σ[i]? = some none) (k : R1 T F H s x Ai)
    (nd : (Ai ++ C).Nodup) (nP : ∀ a ∈ Ai ++ C, P a = none) (nF : ∀ a ∈ Ai ++ C, F a = none) (pH : Same P H) (fH : Same F H) (pF : PF P F) : Rel T P F H (σ.set i s) (z.set i x) := by
  obtain ⟨A, k2, pm⟩ := RSl.join k hs e
  exact ⟨A, k2, pm.nodup_iff.mp nd, fun a m => nP a (pm.mem_iff.mpr m), fun a m => nF a (pm.mem_iff.mpr m), pH, fH, pF⟩
theorem StB.rel {T : Tb} {P F H : Hp} {σ : Fr} {z : L2.St} {i : Nat} {o : O} {u : V} {s : Sl} {x : Option V} {Ai C B : List Addr} (h : StB T P F H σ z i o u s x Ai C B) : Rel T P F H σ z := by
  have lt : i < σ.length := (List.getElem?_eq_some_iff.mp h.at_).1
  have q := St0.in_ (i := i) h.rs (by rw [List.getElem?_set_self lt]) h.r h.nd h.nP h.nF h.pH h.fH h.pF
  rw [set_set_none h.at_, set_same h.val] at q
  exact q
theorem RelV.rel {T : Tb} {P F H : Hp} {σ : Fr} {z : L2.St} {v : Val} {u : V} (h : RelV T P F H σ z v u) : Rel T P F H σ z := by
  cases v with
  | d x => exact h.1
  | o o =>
    obtain ⟨A, B, k⟩ := h
    exact ⟨A, k.s, (List.nodup_append.mp k.nd).2.1, fun a m => k.nP a (List.mem_append_right _ m), fun a m => k.nF a (List.mem_append_right _ m), k.pH, k.fH, k.pF⟩
  | b i o =>
    obtain ⟨s, x, Ai, C, B, k⟩ := h
    exact k.rel
theorem StO.frz {T : Tb} {P F H : Hp} {σ : Fr} {z : L2.St} {A B : List Addr} {o : O} {u : V} (k : StO T P F H σ z A B o u) : ∃ F', Same F F' ∧ Rel T P F' H σ z ∧ RD T F' o.frz u := by
  have nB : ∀ a ∈ B, F a = none := fun a m => k.nF a (List.mem_append_left _ m)
  have sf : Same F (plus F H B) := same_plus nB
  have dj : ∀ a ∈ A, a ∉ B := fun a m m' => (List.nodup_append.mp k.nd).2.2 a m' a m rfl
  refine ⟨plus F H B, sf, ⟨A, k.s.mono sf (fun _ _ _ q => q), (List.nodup_append.mp k.nd).2.1, fun a m => k.nP a (List.mem_append_right _ m), fun a m => plus_none (k.nF a (List.mem_append_right _ m)) (dj a m), k.pH, plus_same k.fH, k.pF.plusF fun a m => k.nP a (List.mem_append_left _ m)⟩, ?_⟩
  · exact k.o.frz sf fun a m q e => by rw [plus_in m]; exact e
theorem RelV.toD {T : Tb} {P F H : Hp} {σ : Fr} {z : L2.St} {v : Val} {u : V} {x : D} (h : RelV T P F H σ z v u) (e : toD v = some x) : ∃ F', Same F F' ∧ Rel T P F' H σ z ∧ RD T F' x u := by
  cases v with
  | d y =>
    have e' : y = x := Option.some.inj e
    subst e'
    exact ⟨F, Same.refl _, h.1, h.2⟩
  | o o =>
    have e' : o.frz = x := Option.some.inj e
    subst e'
    obtain ⟨A, B, k⟩ := h
    exact k.frz
  | b i o => cases e
end Tf
end
section
set_option Elab.async false
set_option linter.all false
set_option maxRecDepth 100000
namespace Tf
open PySem PySem.Spec PyProof.Rows L2
def Post (T : Tb) (RX : Hp → Hp → Xv → Value → Option Addr → Prop) (W : WX) (P : Hp) (z : L2.St) (F0 : Hp) (Q : VK) : Res Val → Prop
  | .ok v σ => ∀ F H u, Same F0 F → RelV T P F H σ z v u → Q u H
  | .exc x σ => ∀ F H cls d, Same F0 F → Rel T P F H σ z → RX F H x cls d → W cls d z H
  | .bad => False
def PostT (T : Tb) (RX : Hp → Hp → Xv → Value → Option Addr → Prop) (W : WX) (P : Hp) (z : L2.St) (F0 : Hp) (Q : Bool → Hp → Prop) : Res Val → Prop
  | .ok v σ => ∃ b, v = .d (.bl b) ∧ ∀ F H, Same F0 F → Rel T P F H σ z → Q b H
  | .exc x σ => ∀ F H cls d, Same F0 F → Rel T P F H σ z → RX F H x cls d → W cls d z H
  | .bad => False
def PostA {α β : Type} (T : Tb) (RX : Hp → Hp → Xv → Value → Option Addr → Prop) (W : WX) (P : Hp) (z : L2.St) (F0 : Hp) (Rl : Hp → Hp → Fr → α → β → Prop) (Q : β → Hp → Prop) : Res α → Prop
  | .ok v σ => ∀ F H u, Same F0 F → Rl F H σ v u → Q u H
  | .exc x σ => ∀ F H cls d, Same F0 F → Rel T P F H σ z → RX F H x cls d → W cls d z H
  | .bad => False
abbrev XR := Hp → Hp → Xv → Value → Option Addr → Prop
section
variable {T : Tb} {RX : XR} {W : WX}
theorem Post.later {P : Hp} {z : L2.St} {F0 F1 : Hp} {Q : VK} {r : Res Val} (h : Same F0 F1) (p : Post T RX W P z F0 Q r) : Post T RX W P z F1 Q r := by
  cases r with
  | ok v σ => exact fun F H u s k => p F H u (h.trans s) k
  | exc x σ => exact fun F H cls d s k q => p F H cls d (h.trans s) k q
  | bad => exact p
theorem PostT.later {P : Hp} {z : L2.St} {F0 F1 : Hp} {Q : Bool → Hp → Prop} {r : Res Val} (h : Same F0 F1) (p : PostT T RX W P z F0 Q r) : PostT T RX W P z F1 Q r := by
  cases r with
  | ok v σ =>
    obtain ⟨b, e, p⟩ := p
    exact ⟨b, e, fun F H s k => p F H (h.trans s) k⟩
  | exc x σ => exact fun F H cls d s k q => p F H cls d (h.trans s) k q
  | bad => exact p
theorem PostA.later {α β : Type} {P : Hp} {z : L2.St} {F0 F1 : Hp} {Rl : Hp → Hp → Fr → α → β → Prop} {Q : β → Hp → Prop} {r : Res α} (h : Same F0 F1) (p : PostA T RX W P z F0 Rl Q r) : PostA T RX W P z F1 Rl Q r := by
  cases r with
  | ok v σ => exact fun F H u s k => p F H u (h.trans s) k
  | exc x σ => exact fun F H cls d s k q => p F H cls d (h.trans s) k q
  | bad => exact p
def R (T : Tb) (RX : XR) (W : WX) (m : Fr → Res Val) : TE := fun z H Q => ∃ P F σ, Rel T P F H σ z ∧ Post T RX W P z F Q (m σ)
def RT (T : Tb) (RX : XR) (W : WX) (m : Fr → Res Val) : TT := fun z H Q => ∃ P F σ, Rel T P F H σ z ∧ PostT T RX W P z F Q (m σ)
theorem impE {X : Cx} {e : Expr} {t t' : TE} (h : PE X e t) (k : ∀ z H Q, t' z H Q → t z H Q) : PE X e t' := ⟨fun pins s σ H Q I q => h.run pins s σ H Q I (k σ H Q q)⟩
theorem impT {X : Cx} {e : Expr} {t t' : TT} (h : PT X e t) (k : ∀ z H Q, t' z H Q → t z H Q) : PT X e t' := ⟨fun pins s σ H Q I q => h.run pins s σ H Q I (k σ H Q q)⟩
theorem impW {X : Cx} {e : Expr} {t t' : TT} (h : PW X e t) (k : ∀ z H Q, t' z H Q → t z H Q) : PW X e t' := ⟨fun wh pins s σ H Q I q => h.run wh pins s σ H Q I (k σ H Q q)⟩
theorem impA {X : Cx} {es : List Expr} {t t' : TA} (h : PA X es t) (k : ∀ z H Q, t' z H Q → t z H Q) : PA X es t' := ⟨fun pos pins s σ H Q I q => h.run pos pins s σ H Q I (k σ H Q q)⟩
theorem impSs {X : Cx} {e : List Stmt} {t t' : TS} (h : PSs X e t) (k : ∀ D z H, t' D z H → t D z H) : PSs X e t' := ⟨fun pins s σ H D I q => h.run pins s σ H D I (k D σ H q)⟩
theorem impS {X : Cx} {e : Stmt} {t t' : TS} (h : PS X e t) (k : ∀ D z H, t' D z H → t D z H) : PS X e t' := ⟨fun pins s σ H D I q => h.run pins s σ H D I (k D σ H q)⟩
theorem R.bind {m : Fr → Res Val} {f : Val → Fr → Res Val} {z : L2.St} {H : Hp} {Q : VK} {P F : Hp} {σ : Fr} (rel : Rel T P F H σ z) (h : Post T RX W P z F Q ((m σ).bind f)) :
    R T RX W m z H fun u H1 => ∃ F1 σ1 v, Same F F1 ∧ RelV T P F1 H1 σ1 z v u ∧ Post T RX W P z F1 Q (f v σ1) := by
  refine ⟨P, F, σ, rel, ?_⟩
  revert h
  generalize m σ = r
  intro h
  cases r with
  | ok v σ1 => exact fun F1 H1 u s k => ⟨F1, σ1, v, s, k, Post.later s h⟩
  | exc x σ1 => exact h
  | bad => exact h
theorem R.bindT {m : Fr → Res Val} {f : Val → Fr → Res Val} {z : L2.St} {H : Hp} {Q : Bool → Hp → Prop} {P F : Hp} {σ : Fr} (rel : Rel T P F H σ z) (h : PostT T RX W P z F Q ((m σ).bind f)) :
    R T RX W m z H fun u H1 => ∃ F1 σ1 v, Same F F1 ∧ RelV T P F1 H1 σ1 z v u ∧ PostT T RX W P z F1 Q (f v σ1) := by
  refine ⟨P, F, σ, rel, ?_⟩
  revert h
  generalize m σ = r
  intro h
  cases r with
  | ok v σ1 => exact fun F1 H1 u s k => ⟨F1, σ1, v, s, k, PostT.later s h⟩
  | exc x σ1 => exact h
  | bad => exact h
theorem RT.bind {m : Fr → Res Val} {f : Val → Fr → Res Val} {z : L2.St} {H : Hp} {Q : VK} {P F : Hp} {σ : Fr} (rel : Rel T P F H σ z)
    (hm : ∀ v σ1, m σ = .ok v σ1 → (∃ b, v = .d (.bl b)) ∨ f v σ1 = .bad) (h : Post T RX W P z F Q ((m σ).bind f)) :
    RT T RX W m z H fun b H1 => ∃ F1 σ1, Same F F1 ∧ Rel T P F1 H1 σ1 z ∧ Post T RX W P z F1 Q (f (.d (.bl b)) σ1) := by
  refine ⟨P, F, σ, rel, ?_⟩
  revert h hm
  generalize m σ = r
  intro hm h
  cases r with
  | ok v σ1 =>
    rcases hm v σ1 rfl with ⟨b, rfl⟩ | e
    · exact ⟨b, rfl, fun F1 H1 s k => ⟨F1, σ1, s, k, Post.later s h⟩⟩
    · have h' : Post T RX W P z F Q (f v σ1) := h
      rw [e] at h'
      exact h'.elim
  | exc x σ1 => exact h
  | bad => exact h.elim
theorem RT.bindT {m : Fr → Res Val} {f : Val → Fr → Res Val} {z : L2.St} {H : Hp} {Q : Bool → Hp → Prop} {P F : Hp} {σ : Fr} (rel : Rel T P F H σ z)
    (hm : ∀ v σ1, m σ = .ok v σ1 → (∃ b, v = .d (.bl b)) ∨ f v σ1 = .bad) (h : PostT T RX W P z F Q ((m σ).bind f)) :
    RT T RX W m z H fun b H1 => ∃ F1 σ1, Same F F1 ∧ Rel T P F1 H1 σ1 z ∧ PostT T RX W P z F1 Q (f (.d (.bl b)) σ1) := by
  refine ⟨P, F, σ, rel, ?_⟩
  revert h hm
  generalize m σ = r
  intro hm h
  cases r with
  | ok v σ1 =>
    rcases hm v σ1 rfl with ⟨b, rfl⟩ | e
    · exact ⟨b, rfl, fun F1 H1 s k => ⟨F1, σ1, s, k, PostT.later s h⟩⟩
    · have h' : PostT T RX W P z F Q (f v σ1) := h
      rw [e] at h'
      exact h'.elim
  | exc x σ1 => exact h
  | bad => exact h.elim
theorem Post.opt {α : Type} {P : Hp} {z : L2.St} {F : Hp} {Q : VK} {o : Option α} {f : α → Res Val} (h : Post T RX W P z F Q (opt o f)) : ∃ a, o = some a ∧ Post T RX W P z F Q (f a) := by
  cases o with
  | none => exact h.elim
  | some a => exact ⟨a, rfl, h⟩
theorem PostT.opt {α : Type} {P : Hp} {z : L2.St} {F : Hp} {Q : Bool → Hp → Prop} {o : Option α} {f : α → Res Val} (h : PostT T RX W P z F Q (opt o f)) : ∃ a, o = some a ∧ PostT T RX W P z F Q (f a) := by
  cases o with
  | none => exact h.elim
  | some a => exact ⟨a, rfl, h⟩
theorem Post.fin_d {md : Md} {P : Hp} {z : L2.St} {F H : Hp} {Q : VK} {x : D} {σ : Fr} {u : V} (hm : md ≠ .tst) (h : Post T RX W P z F Q (fin md (.d x) σ)) {F1 : Hp} (s : Same F F1) (rel : Rel T P F1 H σ z) (r : RD T F1 x u) : Q u H := by
  cases md with
  | val => exact h F1 H u s ⟨rel, r⟩
  | pk => exact h F1 H u s ⟨rel, r⟩
  | tst => exact absurd rfl hm
theorem Post.fin_v {md : Md} {P : Hp} {z : L2.St} {F H : Hp} {Q : VK} {v : Val} {σ : Fr} {u : V} (hm : md ≠ .tst) (h : Post T RX W P z F Q (fin md v σ)) {F1 : Hp} (s : Same F F1) (rel : RelV T P F1 H σ z v u) : Q u H := by
  cases md with
  | val =>
    cases v with
    | d x => exact h F1 H u s rel
    | o o => exact h F1 H u s rel
    | b i o => exact h.elim
  | pk => exact h F1 H u s rel
  | tst => exact absurd rfl hm
variable {X : Cx} {G : Prog} {cl : Call} {md : Md}
def ckC : D → Const → Bool
  | .non, .none => true
  | .bl a, .bool b => a == b
  | .int a, .int b => decide (a = b)
  | .str a, .str b => decide (a = b)
  | _, _ => false
theorem Fr.get_some {σ : Fr} {i : Nat} {s : Sl} (h : σ.get i = some s) : σ[i]? = some (some s) := by
  unfold Fr.get at h
  cases e : σ[i]? with
  | none => rw [e] at h; cases h
  | some o =>
    rw [e] at h
    have h' : o = some s := h
    rw [h']
theorem snd_var {i : Nat} {x : PySem.Str} {pos : Pos} (hm : md ≠ .tst) (hN : X.N[i]? = some x) (hv : Vis X.env.scope x) (hd : (x == ("__debug__" : PySem.Str)) = false) (hcd : (x == ("__classdict__" : PySem.Str)) = false) :
    PE X (.Name x pos) (R T RX W (ev G cl md (.var i))) := by
  refine impE (pe_var hN hv hd hcd) fun z H Q ⟨P, F, σ, rel, q⟩ => ?_
  have q : Post T RX W P z F Q (getVar md i σ) := q
  unfold getVar at q
  cases e : σ.get i with
  | none => rw [e] at q; exact q.elim
  | some sl =>
    rw [e] at q
    obtain ⟨A, k⟩ := rel
    have e1 := Fr.get_some e
    obtain ⟨x, Ai, C, e2, k1, k2, nd, nP, nF⟩ := k.out e1
    have lt : i < σ.length := (List.getElem?_eq_some_iff.mp e1).1
    have e3 : (σ.set i none)[i]? = some none := by rw [List.getElem?_set_self lt]
    -- what an own or lent thing gives
    have main : ∀ (o : O) (mk : O → Sl), (∀ o' x' A' F' H', R1 T F' H' (some (mk o')) x' A' ↔ ∃ v, x' = some v ∧ RO T F' H' o' v A') → sl = mk o →
        Post T RX W P z F Q (getO md i o mk σ) → ∃ v, z[i]? = some (some v) ∧ Q v H := fun o mk hmk es g => by
      subst es
      obtain ⟨v, ex, ro⟩ := (hmk _ _ _ _ _).mp k1
      subst ex
      refine ⟨v, e2, ?_⟩
      have dat : ∀ y, o = .d y → Q v H := fun y ey => by
        subst ey
        exact Post.fin_d hm g (Same.refl _) ⟨A, k⟩ ro.2
      have big : Post T RX W P z F Q (getBig md i o (σ.put i (some (mk (.d o.frz)))) σ) → Q v H := fun q => by
        cases md with
        | tst => exact absurd rfl hm
        | pk => exact q F H v (Same.refl _) ⟨_, _, Ai, C, Ai, e1, e2, k2, k1, ro, fun a m => m, nd, nP, nF, k.pH, k.fH, k.pF⟩
        | val =>
          have nB : ∀ a ∈ Ai, F a = none := fun a m => nF a (List.mem_append_left _ m)
          have sf : Same F (plus F H Ai) := same_plus nB
          have dj : ∀ a ∈ C, a ∉ Ai := fun a m m' => (List.nodup_append.mp nd).2.2 a m' a m rfl
          have rd : RD T (plus F H Ai) o.frz v := ro.frz sf fun a m q e => by rw [plus_in m]; exact e
          refine q (plus F H Ai) H v sf ⟨?_, rd⟩
          have z' := St0.in_ (T := T) (P := P) (F := plus F H Ai) (H := H) (i := i) (s := some (mk (.d o.frz))) (x := some v) (Ai := []) (k2.mono sf fun _ _ _ q => q) e3 ((hmk _ _ _ _ _).mpr ⟨v, rfl, rfl, rd⟩)
            (List.nodup_append.mp nd).2.1 (fun a m => nP a (List.mem_append_right _ m)) (fun a m => plus_none (nF a (List.mem_append_right _ m)) (dj a m)) k.pH (plus_same k.fH) (k.pF.plusF fun a m => nP a (List.mem_append_left _ m))
          rw [List.set_set, set_same e2] at z'
          exact z'
      cases o with
      | d y => exact dat y rfl
      | _ => exact big g
    cases sl with
    | own o => exact main o .own (fun _ _ _ _ _ => Iff.rfl) rfl q
    | lent o => exact main o .lent (fun _ _ _ _ _ => Iff.rfl) rfl q
end
end Tf
end
section
set_option Elab.async false
set_option linter.all false
set_option maxRecDepth 100000
namespace Tf
open PySem PySem.Spec PyProof.Rows L2
section
variable {T : Tb} {RX : XR} {W : WX} {X : Cx} {G : Prog} {cl : Call} {md : Md}
theorem R.mono {m : Fr → Res Val} {z : L2.St} {H : Hp} {Q Q' : VK} (h : R T RX W m z H Q) (k : ∀ u H, Q u H → Q' u H) : R T RX W m z H Q' := by
  obtain ⟨P, F, σ, rel, q⟩ := h
  refine ⟨P, F, σ, rel, ?_⟩
  revert q
  generalize m σ = r
  intro q
  cases r with
  | ok v σ1 => exact fun F H u s k' => k u H (q F H u s k')
  | exc x σ1 => exact q
  | bad => exact q
theorem RT.mono {m : Fr → Res Val} {z : L2.St} {H : Hp} {Q Q' : Bool → Hp → Prop} (h : RT T RX W m z H Q) (k : ∀ u H, Q u H → Q' u H) : RT T RX W m z H Q' := by
  obtain ⟨P, F, σ, rel, q⟩ := h
  refine ⟨P, F, σ, rel, ?_⟩
  revert q
  generalize m σ = r
  intro q
  cases r with
  | ok v σ1 =>
    obtain ⟨b, e, q⟩ := q
    exact ⟨b, e, fun F H s k' => k b H (q F H s k')⟩
  | exc x σ1 => exact q
  | bad => exact q
theorem RDs.len {F : Hp} : ∀ {xs : List D} {vs : List V}, RDs T F xs vs → xs.length = vs.length
  | [], _, h => by have h' : _ = [] := h; rw [h']; rfl
  | x :: xs, _, h => by
    obtain ⟨v, r, e, _, h2⟩ := h
    rw [e, List.length_cons, List.length_cons, RDs.len h2]
theorem ROs.len {F H : Hp} : ∀ {xs : List O} {vs : List V} {A : List Addr}, ROs T F H xs vs A → xs.length = vs.length
  | [], _, _, h => by rw [h.1]; rfl
  | x :: xs, _, _, h => by
    obtain ⟨v, r, A1, A2, e, _, _, h2⟩ := h
    rw [e, List.length_cons, List.length_cons, ROs.len h2]
theorem RDi.len {F : Hp} : ∀ {xs : List (Int × D)} {vs : List (Key × V)}, RDi T F xs vs → xs.length = vs.length
  | [], _, h => by have h' : _ = [] := h; rw [h']; rfl
  | (_, x) :: xs, _, h => by
    obtain ⟨v, r, e, _, h2⟩ := h
    rw [e, List.length_cons, List.length_cons, RDi.len h2]
theorem ROi.len {F H : Hp} : ∀ {xs : List (Int × O)} {vs : List (Key × V)} {A : List Addr}, ROi T F H xs vs A → xs.length = vs.length
  | [], _, _, h => by rw [h.1]; rfl
  | (_, x) :: xs, _, _, h => by
    obtain ⟨v, r, A1, A2, e, _, _, h2⟩ := h
    rw [e, List.length_cons, List.length_cons, ROi.len h2]
theorem empty_len {α β : Type} {xs : List α} {ys : List β} (h : xs.length = ys.length) : (!xs.isEmpty) = !ys.isEmpty := by
  cases xs with
  | nil => cases ys with
    | nil => rfl
    | cons b bs => cases h
  | cons a as => cases ys with
    | nil => cases h
    | cons b bs => rfl
theorem tru_of {K : PySem.W.Frag} {P F H : Hp} {σ : Fr} {z : L2.St} {v : Val} {u : V} {b : Bool} (h : RelV T P F H σ z v u) (e : truthV v = some b) : TruV K u H b := by
  have big : ∀ (o : O) (B : List Addr), RO T F H o u B → truthV (.b 0 o) = some b ∨ truthV (.o o) = some b → (∀ x, o ≠ .d x) → TruV K u H b := fun o B ro e nd => by
    cases o with
    | d x => exact absurd rfl (nd x)
    | lst xs =>
      obtain ⟨a, vs, B', e1, _, e2, r⟩ := ro
      subst e1
      refine .inl ⟨vs, .of e2, ?_⟩
      rw [← empty_len (ROs.len r)]
      rcases e with e | e <;> exact (Option.some.inj e).symm
    | dcI kvs =>
      obtain ⟨a, vs, B', e1, _, e2, r⟩ := ro
      subst e1
      refine .inr (.inr ⟨vs, e2, ?_⟩)
      rw [← empty_len (ROi.len r)]
      rcases e with e | e
      · exact (Option.some.inj e).symm
      · cases e
    | ins c fs => rcases e with e | e <;> cases e
    | dcT kvs => rcases e with e | e <;> cases e
  cases v with
  | d x =>
    obtain ⟨⟨A, k⟩, r⟩ := h
    cases x with
    | non =>
      have r' : u = .non := r
      subst r'
      exact (Option.some.inj e).symm
    | bl c =>
      have r' : u = .bl c := r
      subst r'
      exact (Option.some.inj e).symm
    | int c =>
      have r' : u = .int c := r
      subst r'
      exact (Option.some.inj e).symm
    | lst xs =>
      obtain ⟨a, vs, e1, e2, r⟩ := r
      subst e1
      refine .inl ⟨vs, .of (k.fH _ _ e2), ?_⟩
      rw [← empty_len (RDs.len r)]
      exact (Option.some.inj e).symm
    | tup xs =>
      obtain ⟨a, vs, e1, e2, r⟩ := r
      subst e1
      refine .inr (.inl ⟨vs, .of (k.fH _ _ e2), ?_⟩)
      rw [← empty_len (RDs.len r)]
      exact (Option.some.inj e).symm
    | _ => cases e
  | b i o =>
    obtain ⟨s, x, Ai, C, B, k⟩ := h
    refine big o B k.o (.inl ?_) ?_
    · cases o <;> exact e
    · intro x e'
      subst e'
      cases e
  | o o =>
    obtain ⟨A, B, k⟩ := h
    refine big o B k.o (.inr e) ?_
    intro x e'
    subst e'
    cases e
structure SE (T : Tb) (RX : XR) (W : WX) (G : Prog) (cl : Call) (X : Cx) (e : Expr) (E : E) : Prop where
  v : PE X e (R T RX W (ev G cl .val E))
  p : PE X e (R T RX W (ev G cl .pk E))
  t : PT X e (RT T RX W (ev G cl .tst E))
def Plain (X : Cx) (e : Expr) : Prop := ∀ whole, isTrue e X.env whole = (do let v ← whole; standAt e.pos; holding [v] (truthy v))
theorem pt_of_pk {e : Expr} {m mt : Fr → Res Val} (h : PE X e (R T RX W m)) (he : Plain X e) (ht : ∀ σ, mt σ = (m σ).bind (fin .tst)) : PT X e (RT T RX W mt) := by
  refine impT (pt_truth h he) fun z H Q ⟨P, F, σ, rel, q⟩ => ?_
  rw [ht σ] at q
  refine R.mono (R.bindT rel q) fun u H1 ⟨F1, σ1, v, s, rv, q1⟩ => ?_
  obtain ⟨b, eb, q1⟩ := PostT.opt q1
  obtain ⟨b', e', q1⟩ := q1
  have : b = b' := by injection e' with e'; injection e'
  subst this
  exact ⟨b, tru_of rv eb, q1 F1 H1 (Same.refl _) rv.rel⟩
theorem SE.raw {e : Expr} {E : E} {m : Fr → Res Val} (hE : ∀ md σ, ev G cl md E σ = (m σ).bind (fin md)) (h : PE X e (R T RX W m)) (ht : PE X e (R T RX W (ev G cl .pk E)) → PT X e (RT T RX W (ev G cl .tst E))) : SE T RX W G cl X e E := by
  have go : ∀ md : Md, md ≠ .tst → PE X e (R T RX W (ev G cl md E)) := fun md hm => impE h fun z H Q ⟨P, F, σ, rel, q⟩ => by
    rw [hE] at q
    refine R.mono (R.bind rel q) fun u H1 ⟨F1, σ1, v, s, rv, q1⟩ => ?_
    exact Post.fin_v hm q1 (Same.refl _) rv
  exact ⟨go _ (by intro h; cases h), go _ (by intro h; cases h), ht (go _ (by intro h; cases h))⟩
theorem bind_pk (r : Res Val) : r.bind (fin .pk) = r := by cases r <;> rfl
theorem SE.of {e : Expr} {E : E} {m : Fr → Res Val} (he : Plain X e) (hE : ∀ md σ, ev G cl md E σ = (m σ).bind (fin md)) (h : PE X e (R T RX W m)) : SE T RX W G cl X e E :=
  SE.raw hE h fun hp => pt_of_pk hp he fun σ => by rw [hE .tst, hE .pk, bind_pk]
structure TbOk (K : PySem.W.Frag) (T : Tb) : Prop where
  cls : ∀ c, c < T.nc → Cls K (T.cA c)
  noat : ∀ c f, c < T.nc → f < T.nf → NoAttr K (T.cA c) (T.fN f)
  inj : ∀ f g, f < T.nf → g < T.nf → T.fN f = T.fN g → f = g
theorem se_data {e : Expr} {E : E} {d : D} {u : V} (he : Plain X e) (hE : ∀ md σ, ev G cl md E σ = fin md (.d d) σ) (h : PE X e (tC u)) (r : ∀ F, RD T F d u) : SE T RX W G cl X e E :=
  SE.of (m := fun σ => .ok (.d d) σ) he hE (impE h fun z H Q ⟨P, F, σ, rel, q⟩ => q F H u (Same.refl _) ⟨rel, r F⟩)
theorem se_cst {d : D} {c : Const} {k : Nat} {pos : Pos} (h : ckC d c = true) : SE T RX W G cl X (.Constant c k pos) (.cst d) := by
  have go : ∀ {v : V}, PE X (.Constant c k pos) (tC v) → (∀ F, RD T F d v) → SE T RX W G cl X (.Constant c k pos) (.cst d) := fun {v} p r => se_data (fun _ => rfl) (fun _ _ => rfl) p r
  cases d with
  | non => cases c with
    | none => exact go pe_non fun _ => rfl
    | _ => cases h
  | bl a => cases c with
    | bool b =>
      have e : a = b := by simpa [ckC] using h
      subst e
      exact go pe_bl fun _ => rfl
    | _ => cases h
  | int a => cases c with
    | int b =>
      have e : a = b := of_decide_eq_true h
      subst e
      exact go pe_int fun _ => rfl
    | _ => cases h
  | str a => cases c with
    | str b =>
      have e : a = b := of_decide_eq_true h
      subst e
      exact go pe_str fun _ => rfl
    | _ => cases h
  | _ => cases c <;> cases h
theorem getVar_tst (i : Nat) (σ : Fr) : getVar .tst i σ = (getVar .pk i σ).bind (fin .tst) := by
  unfold getVar
  cases σ.get i with
  | none => rfl
  | some s => cases s with
    | own o => cases o <;> rfl
    | lent o => cases o <;> rfl
theorem se_var {i : Nat} {x : PySem.Str} {pos : Pos} (hN : X.N[i]? = some x) (hv : Vis X.env.scope x) (hd : (x == ("__debug__" : PySem.Str)) = false) (hcd : (x == ("__classdict__" : PySem.Str)) = false) :
    SE T RX W G cl X (.Name x pos) (.var i) :=
  have go : ∀ md : Md, md ≠ .tst → PE X (.Name x pos) (R T RX W (ev G cl md (.var i))) := fun md hm => snd_var hm hN hv hd hcd
  ⟨go _ (by intro h; cases h), go _ (by intro h; cases h), pt_of_pk (go .pk (by intro h; cases h)) (fun _ => rfl) fun σ => getVar_tst i σ⟩
theorem StB.part {P F H : Hp} {σ : Fr} {z : L2.St} {i : Nat} {o : O} {u : V} {s : Sl} {x : Option V} {Ai C B : List Addr} (h : StB T P F H σ z i o u s x Ai C B) {o' : O} {u' : V} {B' : List Addr} (r : RO T F H o' u' B') (hs : ∀ a ∈ B', a ∈ B) :
    RelV T P F H σ z (Val.ofO i o') u' := by
  have big : RelV T P F H σ z (.b i o') u' := ⟨s, x, Ai, C, B', h.at_, h.val, h.rs, h.r, r, fun a m => h.sub a (hs a m), h.nd, h.nP, h.nF, h.pH, h.fH, h.pF⟩
  cases o' with
  | d y => exact ⟨h.rel, r.2⟩
  | _ => exact big
theorem RDf.get {F : Hp} (ok : ∀ f g, f < T.nf → g < T.nf → T.fN f = T.fN g → f = g) {f : Nat} (hf : f < T.nf) : ∀ {fs : List (Nat × D)} {gs : List (PySem.Str × V)} {x : D}, RDf T F fs gs → fs.lookup f = some x → ∃ v, gs.lookup (T.fN f) = some v ∧ RD T F x v
  | [], _, _, _, e => by cases e
  | (k, y) :: fs, _, x, h, e => by
    obtain ⟨v, r, hk, eg, h1, h2⟩ := h
    subst eg
    by_cases c : f = k
    · subst c
      have e' : y = x := by simpa [List.lookup] using e
      subst e'
      exact ⟨v, by simp [List.lookup], h1⟩
    · have c' : T.fN f ≠ T.fN k := fun q => c (ok _ _ hf hk q)
      have e' : fs.lookup f = some x := by rw [List.lookup_cons] at e; rwa [show (f == k) = false from by simpa using c] at e
      obtain ⟨w, e1, r1⟩ := RDf.get ok hf h2 e'
      exact ⟨w, by rw [List.lookup_cons, show (T.fN f == T.fN k) = false from by simpa using c']; exact e1, r1⟩
theorem ROf.get {F H : Hp} (ok : ∀ f g, f < T.nf → g < T.nf → T.fN f = T.fN g → f = g) {f : Nat} (hf : f < T.nf) : ∀ {fs : List (Nat × O)} {gs : List (PySem.Str × V)} {A : List Addr} {x : O}, ROf T F H fs gs A → fs.lookup f = some x → ∃ v B, gs.lookup (T.fN f) = some v ∧ RO T F H x v B ∧ ∀ a ∈ B, a ∈ A
  | [], _, _, _, _, e => by cases e
  | (k, y) :: fs, _, _, x, h, e => by
    obtain ⟨v, r, A1, A2, hk, eg, eA, h1, h2⟩ := h
    subst eg eA
    by_cases c : f = k
    · subst c
      have e' : y = x := by simpa [List.lookup] using e
      subst e'
      exact ⟨v, A1, by simp [List.lookup], h1, fun a m => List.mem_append_left _ m⟩
    · have c' : T.fN f ≠ T.fN k := fun q => c (ok _ _ hf hk q)
      have e' : fs.lookup f = some x := by rw [List.lookup_cons] at e; rwa [show (f == k) = false from by simpa using c] at e
      obtain ⟨w, B, e1, r1, hs⟩ := ROf.get ok hf h2 e'
      exact ⟨w, B, by rw [List.lookup_cons, show (T.fN f == T.fN k) = false from by simpa using c']; exact e1, r1, fun a m => List.mem_append_right _ (hs a m)⟩
theorem fld_of {P F H : Hp} {σ : Fr} {z : L2.St} {v w : Val} {u : V} {f : Nat} {K : PySem.W.Frag} (ok : TbOk K T) (hf : f < T.nf) (h : RelV T P F H σ z v u) (e : fldV v f = some w) :
    ∃ a c dx gs y, c < T.nc ∧ u = .ref a ∧ H a = some (.ins (T.cA c) dx gs) ∧ gs.lookup (T.fN f) = some y ∧ RelV T P F H σ z w y := by
  cases v with
  | d x =>
    obtain ⟨rel, r⟩ := h
    cases x with
    | ins c fs =>
      obtain ⟨a, dx, gs, hc, e1, e2, r⟩ := r
      obtain ⟨y, ey, e⟩ := Option.map_eq_some_iff.mp (show (fs.lookup f).map Val.d = some w from e)
      subst e
      obtain ⟨y', l, ry⟩ := RDf.get ok.inj hf r ey
      obtain ⟨A, k⟩ := id rel
      exact ⟨a, c, dx, gs, y', hc, e1, k.fH _ _ e2, l, rel, ry⟩
    | _ => cases e
  | b i o =>
    obtain ⟨s, x, Ai, C, B, k⟩ := h
    cases o with
    | ins c fs =>
      obtain ⟨a, dx, gs, B', hc, e1, eB, e2, r⟩ := k.o
      obtain ⟨y, ey, e⟩ := Option.map_eq_some_iff.mp (show (fs.lookup f).map (Val.ofO i) = some w from e)
      subst e
      obtain ⟨y', B2, l, ry, hs⟩ := ROf.get ok.inj hf r ey
      exact ⟨a, c, dx, gs, y', hc, e1, e2, l, k.part ry fun a m => by rw [eB]; exact List.mem_cons_of_mem _ (hs a m)⟩
    | _ => cases e
  | o o => cases e
theorem se_fld {a : Expr} {ea : E} {f : Nat} {x : PySem.Str} {pos : Pos} (ok : TbOk X.K T) (ha : SE T RX W G cl X a ea) (hf : f < T.nf) (hx : T.fN f = x) (hb : attributeBase a x X.env (eval a X.env) = eval a X.env) :
    SE T RX W G cl X (.Attribute a x pos) (.fld ea f) :=
  SE.of (fun _ => rfl) (fun _ _ => rfl) (impE (pe_fld ha.p hb) fun z H Q ⟨P, F, σ, rel, q⟩ => by
    refine R.mono (R.bind rel q) fun u H1 ⟨F1, σ1, v, s, rv, q1⟩ => ?_
    obtain ⟨w, ew, q1⟩ := Post.opt q1
    obtain ⟨a, c, dx, gs, y, hc, e1, e2, l, ry⟩ := fld_of ok hf rv ew
    exact ⟨a, _, dx, gs, y, e1, e2, ok.cls c hc, hx ▸ ok.noat c f hc hf, hx ▸ l, q1 F1 H1 y (Same.refl _) ry⟩)
theorem R.two {m1 m2 : Fr → Res Val} {k : D → D → Fr → Res Val} {z : L2.St} {H : Hp} {Q : VK} {P F : Hp} {σ : Fr} (rel : Rel T P F H σ z)
    (h : Post T RX W P z F Q ((m1 σ).bind fun v σ => opt (toD v) fun x => (m2 σ).bind fun u σ => opt (toD u) fun y => k x y σ)) :
    R T RX W m1 z H fun u1 H1 => R T RX W m2 z H1 fun u2 H2 => ∃ F2 σ2 x y, Rel T P F2 H2 σ2 z ∧ RD T F2 x u1 ∧ RD T F2 y u2 ∧ Post T RX W P z F2 Q (k x y σ2) := by
  refine R.mono (R.bind rel h) fun u1 H1 ⟨F1, σ1, v, s, rv, q⟩ => ?_
  obtain ⟨x, ex, q⟩ := Post.opt q
  obtain ⟨F1', s1, rel1, rx⟩ := rv.toD ex
  refine R.mono (R.bind rel1 (q.later s1)) fun u2 H2 ⟨F2, σ2, w, s2, rw, q2⟩ => ?_
  obtain ⟨y, ey, q2⟩ := Post.opt q2
  obtain ⟨F2', s3, rel2, ry⟩ := rw.toD ey
  exact ⟨F2', σ2, x, y, rel2, rx.mono (s2.trans s3), ry, q2.later s3⟩
theorem R.one {m1 : Fr → Res Val} {k : D → Fr → Res Val} {z : L2.St} {H : Hp} {Q : VK} {P F : Hp} {σ : Fr} (rel : Rel T P F H σ z)
    (h : Post T RX W P z F Q ((m1 σ).bind fun v σ => opt (toD v) fun x => k x σ)) :
    R T RX W m1 z H fun u1 H1 => ∃ F1 σ1 x, Rel T P F1 H1 σ1 z ∧ RD T F1 x u1 ∧ Post T RX W P z F1 Q (k x σ1) := by
  refine R.mono (R.bind rel h) fun u1 H1 ⟨F1, σ1, v, s, rv, q⟩ => ?_
  obtain ⟨x, ex, q⟩ := Post.opt q
  obtain ⟨F1', s1, rel1, rx⟩ := rv.toD ex
  exact ⟨F1', σ1, x, rel1, rx, q.later s1⟩
theorem fin_tst {v w : Val} {σ σ' : Fr} (h : fin .tst v σ = .ok w σ') : ∃ b, w = .d (.bl b) := by
  have h : opt (truthV v) (fun b => Res.ok (.d (.bl b)) σ) = .ok w σ' := h
  cases e : truthV v with
  | none => rw [e] at h; cases h
  | some b =>
    rw [e] at h
    have h : Res.ok (Val.d (.bl b)) σ = .ok w σ' := h
    injection h with h1 h2
    exact ⟨b, h1.symm⟩
theorem bind_tst {r : Res Val} {w : Val} {σ' : Fr} (h : r.bind (fin .tst) = .ok w σ') : ∃ b, w = .d (.bl b) := by
  cases r with
  | ok v σ => exact fin_tst h
  | exc x σ => cases h
  | bad => cases h
theorem Res.bind_ok {α β : Type} {r : Res α} {f : α → Fr → Res β} {b : β} {σ' : Fr} (h : r.bind f = .ok b σ') : ∃ a σ, r = .ok a σ ∧ f a σ = .ok b σ' := by
  cases r with
  | ok v σ => exact ⟨v, σ, rfl, h⟩
  | exc x σ => cases h
  | bad => cases h
theorem opt_ok {α β : Type} {o : Option α} {f : α → Res β} {b : β} {σ' : Fr} (h : opt o f = .ok b σ') : ∃ a, o = some a ∧ f a = .ok b σ' := by
  cases o with
  | none => cases h
  | some a => exact ⟨a, rfl, h⟩
theorem ev_tst : ∀ (E : E) {σ : Fr} {w : Val} {σ' : Fr}, ev G cl .tst E σ = .ok w σ' → ∃ b, w = .d (.bl b)
  | .cst d, _, _, _, h => fin_tst h
  | .var i, σ, _, _, h => bind_tst (r := getVar .pk i σ) (by rw [← getVar_tst]; exact h)
  | .glo x, _, _, _, h => by
    obtain ⟨d, _, h⟩ := opt_ok h
    exact fin_tst h
  | .clsv c, _, _, _, h => fin_tst h
  | .not a, _, _, _, h => by
    obtain ⟨v, σ1, _, h⟩ := Res.bind_ok h
    obtain ⟨d, _, h⟩ := opt_ok h
    injection h with h1 h2
    exact ⟨!d, h1.symm⟩
  | .and a b, _, w, σ', h => by
    obtain ⟨v, σ1, e1, h⟩ := Res.bind_ok h
    obtain ⟨c, rfl⟩ := ev_tst a e1
    cases c with
    | true => exact ev_tst b h
    | false => exact fin_tst h
  | .or a b, _, w, σ', h => by
    obtain ⟨v, σ1, e1, h⟩ := Res.bind_ok h
    obtain ⟨c, rfl⟩ := ev_tst a e1
    cases c with
    | true => exact fin_tst h
    | false => exact ev_tst b h
  | .ife c a b, _, w, σ', h => by
    obtain ⟨v, σ1, e1, h⟩ := Res.bind_ok h
    obtain ⟨c, rfl⟩ := ev_tst c e1
    cases c with
    | true => exact ev_tst a h
    | false => exact ev_tst b h
  | .bm _ _ _, _, _, _, h => bind_tst h
  | .sto _, _, _, _, h => bind_tst h
  | .fmt _ _ _, _, _, _, h => bind_tst h
  | .mxm _ _ _, _, _, _, h => bind_tst h
  | .rev _, _, _, _, h => bind_tst h
  | .never, _, _, _, h => by cases h
  | .fld _ _, _, _, _, h => bind_tst h
  | .idx _ _, _, _, _, h => bind_tst h
  | .slc _ _ _, _, _, _, h => bind_tst h
  | .tup _, _, _, _, h => bind_tst h
  | .lst _ _, _, _, _, h => bind_tst h
  | .neg _, _, _, _, h => bind_tst h
  | .bin _ _ _, _, _, _, h => bind_tst h
  | .cmp _ _ _, _, _, _, h => bind_tst h
  | .cmpv _ _ _, _, _, _, h => bind_tst h
  | .chn _ _ _ _ _, _, _, _, h => bind_tst h
  | .call _ _, _, _, _, h => bind_tst h
  | .make _ _, _, _, _, h => bind_tst h
  | .callv _ _, _, _, _, h => bind_tst h
  | .meth _ _ _, _, _, _, h => bind_tst h
  | .methL _ _ _, _, _, _, h => bind_tst h
  | .cmeth _ _ _, _, _, _, h => bind_tst h
  | .bi _ _, _, _, _, h => bind_tst h
  | .isin _ _, _, _, _, h => bind_tst h
  | .boo _, _, _, _, h => bind_tst h
  | .lsi _, _, _, _, h => bind_tst h
  | .calli _ _, _, _, _, h => bind_tst h
  | .leni _, _, _, _, h => bind_tst h
  | .lsto _, _, _, _, h => bind_tst h
  | .idxm _ _, _, _, _, h => bind_tst h
  | .comp _ _ _ _ _ _, _, _, _, h => bind_tst h
  | .comp2 _ _ _ _ _ _ _ _ _ _, _, _, _, h => bind_tst h
  | .gen _, _, _, _, h => bind_tst h
  | .gcall _ _, _, _, _, h => bind_tst h
  | .lrg _, _, _, _, h => bind_tst h
  | .lsio _, _, _, _, h => bind_tst h
  | .idxq _ _ _, _, _, _, h => bind_tst h
  | .dnew _, _, _, _, h => fin_tst h
  | .dcomp _ _ _ _ _ _ _, _, _, _, h => bind_tst h
  | .dcompk _ _ _ _ _ _ _ _, _, _, _, h => bind_tst h
  | .lk _, _, _, _, h => bind_tst h
  | .lkv _, _, _, _, h => bind_tst h
  | .dmrg _ _, _, _, _, h => bind_tst h
  | .mmv _ _, _, _, _, h => bind_tst h
  | .dget _ _, _, _, _, h => bind_tst h
  | .callk _ _ _, _, _, _, h => bind_tst h
  | .callf _ _, _, _, _, h => bind_tst h
  | .ldk _, _, _, _, h => bind_tst h
  | .dcpy _, _, _, _, h => bind_tst h
  | .cntv _ _, _, _, _, h => bind_tst h
  | .callp _ _ _, _, _, _, h => bind_tst h
  | .leno _, _, _, _, h => bind_tst h
  | .frz _ _, _, _, _, h => bind_tst h
  | .frza _, _, _, _, h => bind_tst h
  | .frzn _, _, _, _, h => bind_tst h
  | .exm _ _ _, _, _, _, h => bind_tst h
  | .fldx _ _ _, _, _, _, h => bind_tst h
  | .isx _ _, _, _, _, h => bind_tst h
  | .cmpw _ _ _, _, _, _, h => bind_tst h
  | .compx _ _ _ _ _ _, _, _, _, h => bind_tst h
  | .nox e, σ, v, σ1, h => by
    have h : noxR (ev G cl .tst e σ) = .ok v σ1 := h
    cases q : ev G cl .tst e σ with
    | ok v2 σ2 => rw [q] at h; exact ev_tst e (q.trans h)
    | exc x σ2 => rw [q] at h; cases h
    | bad => rw [q] at h; cases h
theorem pe_notT {a : Expr} {ta : TE} {pos : Pos} (ha : PE X a ta) : PE X (.UnaryOp .Not a pos) (fun z H Q => ta z H fun x H1 => ∃ k, TruV X.K x H1 k ∧ Q (.bl (!k)) H1) := by
  refine ⟨fun pins s σ H Q I h => ?_⟩
  refine UnaryOp_ (thn (ha.run pins s σ H _ I h) fun v s1 ⟨x, H1, I1, r1, k, tk, q1⟩ => ?_)
  exact not_of (thn (tru_ok pins s1 σ H1 x v (fun b H' => Q (.bl (!b)) H') I1 r1 ⟨k, tk, q1⟩) fun b s2 ⟨H2, I2, q2⟩ => ⟨.bl (!b), H2, I2, rfl, q2⟩)
theorem se_not {a : Expr} {ea : E} {pos : Pos} (ha : SE T RX W G cl X a ea) : SE T RX W G cl X (.UnaryOp .Not a pos) (.not ea) := by
  have go : ∀ md : Md, PE X a (R T RX W (ev G cl md ea)) → PE X (.UnaryOp .Not a pos) (R T RX W (ev G cl md (.not ea))) := fun md h => impE (pe_notT h) fun z H Q ⟨P, F, σ, rel, q⟩ => by
    refine R.mono (R.bind rel q) fun u H1 ⟨F1, σ1, v, s, rv, q1⟩ => ?_
    obtain ⟨b, eb, q1⟩ := Post.opt q1
    exact ⟨b, tru_of rv eb, q1 F1 H1 _ (Same.refl _) ⟨rv.rel, rfl⟩⟩
  refine ⟨go .val ha.v, go .pk ha.p, impT (pt_not ha.t) fun z H Q ⟨P, F, σ, rel, q⟩ => ?_⟩
  refine RT.mono (RT.bindT rel (fun v σ1 e => .inl (ev_tst ea e)) q) fun b H1 ⟨F1, σ1, s, r1, q1⟩ => ?_
  obtain ⟨c, ec, q1⟩ := q1
  have : c = !b := by injection ec with ec; injection ec with ec; exact ec.symm
  subst this
  exact q1 F1 H1 (Same.refl _) r1
structure SW (T : Tb) (RX : XR) (W : WX) (G : Prog) (cl : Call) (X : Cx) (e : Expr) (E : E) : Prop where
  v : PE X e (R T RX W (ev G cl .val E))
  p : PE X e (R T RX W (ev G cl .pk E))
  t : PW X e (RT T RX W (ev G cl .tst E))
theorem SW.se {e : Expr} {E : E} (h : SW T RX W G cl X e E) : SE T RX W G cl X e E := ⟨h.v, h.p, h.t.pt⟩
theorem sw_and1 {a : Expr} {ea : E} {pos : Pos} (ha : SE T RX W G cl X a ea) : SW T RX W G cl X (.BoolOp .And [a] pos) ea := ⟨pe_one ha.v, pe_one ha.p, pw_and1 ha.t⟩
theorem sw_or1 {a : Expr} {ea : E} {pos : Pos} (ha : SE T RX W G cl X a ea) : SW T RX W G cl X (.BoolOp .Or [a] pos) ea := ⟨pe_one ha.v, pe_one ha.p, pw_or1 ha.t⟩
theorem sw_and {a b : Expr} {rest : List Expr} {ea eb : E} {pos : Pos} (ha : SE T RX W G cl X a ea) (hb : SW T RX W G cl X (.BoolOp .And (b :: rest) pos) eb) : SW T RX W G cl X (.BoolOp .And (a :: b :: rest) pos) (.and ea eb) := by
  have go : ∀ md : Md, md ≠ .tst → PE X a (R T RX W (ev G cl md ea)) → PE X (.BoolOp .And (b :: rest) pos) (R T RX W (ev G cl md eb)) → PE X (.BoolOp .And (a :: b :: rest) pos) (R T RX W (ev G cl md (.and ea eb))) :=
    fun md hm h1 h2 => impE (pe_and h1 h2) fun z H Q ⟨P, F, σ, rel, q⟩ => by
      refine R.mono (R.bind rel q) fun u H1 ⟨F1, σ1, v, s, rv, q1⟩ => ?_
      cases v with
      | d x => cases x with
        | bl c =>
          have eu : u = .bl c := rv.2
          refine ⟨c, eu, ?_⟩
          cases c with
          | true => exact ⟨P, F1, σ1, rv.1, q1⟩
          | false => exact Post.fin_d hm q1 (Same.refl _) rv.1 rfl
        | _ => exact q1.elim
      | _ => exact q1.elim
  refine ⟨go .val (by intro h; cases h) ha.v hb.v, go .pk (by intro h; cases h) ha.p hb.p, impW (pw_and ha.t hb.t) fun z H Q ⟨P, F, σ, rel, q⟩ => ?_⟩
  refine RT.mono (RT.bindT rel (fun v σ1 e => .inl (ev_tst ea e)) q) fun b H1 ⟨F1, σ1, s, r1, q1⟩ => ?_
  cases b with
  | true => exact ⟨P, F1, σ1, r1, q1⟩
  | false =>
    obtain ⟨c, ec, q1⟩ := q1
    have : c = false := by injection ec with ec; injection ec with ec; exact ec.symm
    subst this
    exact q1 F1 H1 (Same.refl _) r1
theorem sw_or {a b : Expr} {rest : List Expr} {ea eb : E} {pos : Pos} (ha : SE T RX W G cl X a ea) (hb : SW T RX W G cl X (.BoolOp .Or (b :: rest) pos) eb) : SW T RX W G cl X (.BoolOp .Or (a :: b :: rest) pos) (.or ea eb) := by
  have go : ∀ md : Md, md ≠ .tst → PE X a (R T RX W (ev G cl md ea)) → PE X (.BoolOp .Or (b :: rest) pos) (R T RX W (ev G cl md eb)) → PE X (.BoolOp .Or (a :: b :: rest) pos) (R T RX W (ev G cl md (.or ea eb))) :=
    fun md hm h1 h2 => impE (pe_or h1 h2) fun z H Q ⟨P, F, σ, rel, q⟩ => by
      refine R.mono (R.bind rel q) fun u H1 ⟨F1, σ1, v, s, rv, q1⟩ => ?_
      cases v with
      | d x => cases x with
        | bl c =>
          have eu : u = .bl c := rv.2
          refine ⟨c, eu, ?_⟩
          cases c with
          | true => exact Post.fin_d hm q1 (Same.refl _) rv.1 rfl
          | false => exact ⟨P, F1, σ1, rv.1, q1⟩
        | _ => exact q1.elim
      | _ => exact q1.elim
  refine ⟨go .val (by intro h; cases h) ha.v hb.v, go .pk (by intro h; cases h) ha.p hb.p, impW (pw_or ha.t hb.t) fun z H Q ⟨P, F, σ, rel, q⟩ => ?_⟩
  refine RT.mono (RT.bindT rel (fun v σ1 e => .inl (ev_tst ea e)) q) fun b H1 ⟨F1, σ1, s, r1, q1⟩ => ?_
  cases b with
  | false => exact ⟨P, F1, σ1, r1, q1⟩
  | true =>
    obtain ⟨c, ec, q1⟩ := q1
    have : c = true := by injection ec with ec; injection ec with ec; exact ec.symm
    subst this
    exact q1 F1 H1 (Same.refl _) r1
end
end Tf
end
section
set_option Elab.async false
set_option linter.all false
set_option maxRecDepth 100000
namespace Tf
open PySem PySem.Spec PyProof.Rows L2
structure Own (P F H : Hp) (A : List Addr) : Prop where
  nd : ∀ a, A.count a ≤ 1
  nP : ∀ a ∈ A, P a = none
  nF : ∀ a ∈ A, F a = none
  pH : Same P H
  fH : Same F H
  pF : PF P F
theorem nd_count {A : List Addr} : A.Nodup ↔ ∀ a, A.count a ≤ 1 := List.nodup_iff_count
theorem mem_le {A B : List Addr} (h : ∀ a, B.count a ≤ A.count a) : ∀ a ∈ B, a ∈ A := fun a m => List.count_pos_iff.mp (by have := List.count_pos_iff.mpr m; have := h a; omega)
theorem Own.le {P F H : Hp} {A B : List Addr} (h : Own P F H A) (l : ∀ a, B.count a ≤ A.count a) : Own P F H B :=
  ⟨fun a => Nat.le_trans (l a) (h.nd a), fun a m => h.nP a (mem_le l a m), fun a m => h.nF a (mem_le l a m), h.pH, h.fH, h.pF⟩
section
variable {T : Tb} {P F H : Hp} {σ : Fr} {z : L2.St} {A B C : List Addr}
theorem St0.own (h : St0 T P F H σ z A) : Own P F H A := ⟨nd_count.mp h.nd, h.nP, h.nF, h.pH, h.fH, h.pF⟩
theorem Own.st0 (h : Own P F H A) (s : RSl T F H σ z A) : St0 T P F H σ z A := ⟨s, nd_count.mpr h.nd, h.nP, h.nF, h.pH, h.fH, h.pF⟩
theorem Own.rel (h : Own P F H A) (s : RSl T F H σ z A) : Rel T P F H σ z := ⟨A, h.st0 s⟩
theorem R1.there {s : Option Sl} {x : Option V} {A : List Addr} (h : R1 T F H s x A) : ∀ a ∈ A, ∃ q, H a = some q := by
  cases s with
  | none => intro a m; rw [show A = [] from h] at m; cases m
  | some sl => cases sl with
    | own o => obtain ⟨v, _, r⟩ := h; exact r.there
    | lent o => obtain ⟨v, _, r⟩ := h; exact r.there
theorem R1.nt {s : Option Sl} {x : Option V} {A : List Addr} (h : R1 T F H s x A) : ∀ a ∈ A, ∀ ys, H a ≠ some (.tup ys) := by
  cases s with
  | none => intro a m; rw [show A = [] from h] at m; cases m
  | some sl =>
    cases sl with
    | own o => obtain ⟨v, _, r⟩ := h; exact r.nt
    | lent o => obtain ⟨v, _, r⟩ := h; exact r.nt
theorem R1.thereN {s : Option Sl} {x : Option V} {A : List Addr} (h : R1 T F H s x A) : ∀ a ∈ A, ∃ q, H a = some q ∧ NT q := fun a m => by
  obtain ⟨q, e⟩ := h.there a m
  exact ⟨q, e, fun ys k => h.nt a m ys (by rw [e, k])⟩
theorem RSl.nt : ∀ {σ : Fr} {z : L2.St} {A : List Addr}, RSl T F H σ z A → ∀ a ∈ A, ∀ ys, H a ≠ some (.tup ys)
  | [], _, _, h, a, m => by rw [h.2] at m; cases m
  | s :: σ, _, _, h, a, m => by
    obtain ⟨x, r, A1, A2, e, eA, h1, h2⟩ := RSl.cons_iff.mp h
    subst eA
    exact (List.mem_append.mp m).elim (h1.nt a) (RSl.nt h2 a)
theorem RSl.there : ∀ {σ : Fr} {z : L2.St} {A : List Addr}, RSl T F H σ z A → ∀ a ∈ A, ∃ q, H a = some q
  | [], _, _, h, a, m => by rw [h.2] at m; cases m
  | s :: σ, _, _, h, a, m => by
    obtain ⟨x, r, A1, A2, e, eA, h1, h2⟩ := RSl.cons_iff.mp h
    subst eA
    exact (List.mem_append.mp m).elim (h1.there a) (h2.there a)
theorem RSl.put {i : Nat} {s : Option Sl} {x : Option V} {Ai : List Addr} (h : RSl T F H σ z A) (hi : i < σ.length) (k : R1 T F H s x Ai) : ∃ A', RSl T F H (σ.set i s) (z.set i x) A' ∧ ∀ a, A'.count a ≤ Ai.count a + A.count a := by
  obtain ⟨s0, e0⟩ : ∃ s0, σ[i]? = some s0 := ⟨_, List.getElem?_eq_getElem hi⟩
  obtain ⟨x0, Aj, C, _, _, h2, pm⟩ := h.split e0
  obtain ⟨A', h3, pm'⟩ := RSl.join k h2 (i := i) (by rw [List.getElem?_set_self hi])
  rw [List.set_set] at h3
  refine ⟨A', h3, fun a => ?_⟩
  have e1 := pm.count_eq a
  have e2 := pm'.count_eq a
  rw [List.count_append] at e1 e2
  omega
theorem hide {i : Nat} {s : Sl} (h : Rel T P F H σ z) (e : σ[i]? = some (some s)) : ∃ x Ai, z[i]? = some x ∧ R1 T F H (some s) x Ai ∧ Own P F H Ai ∧ Rel T (plus P H Ai) F H (σ.set i none) z := by
  obtain ⟨A, k⟩ := h
  obtain ⟨x, Ai, C, e1, k1, k2, pm⟩ := k.s.split e
  have ow := k.own
  have ct : ∀ a, Ai.count a + C.count a = A.count a := fun a => by have := pm.count_eq a; rwa [List.count_append] at this
  have oA : Own P F H Ai := ow.le fun a => by have := ct a; omega
  have dj : ∀ a ∈ C, a ∉ Ai := fun a m m' => by
    have h1 := List.count_pos_iff.mpr m
    have h2 := List.count_pos_iff.mpr m'
    have h3 := ow.nd a
    have h4 := ct a
    omega
  have oC : Own P F H C := ow.le fun a => by have := ct a; omega
  refine ⟨x, Ai, e1, k1, oA, Own.rel ⟨oC.nd, fun a m => plus_none (oC.nP a m) (dj a m), oC.nF, plus_same k.pH, k.fH, k.pF.plusP oA.nF⟩ k2⟩
theorem kept_of {Ai : List Addr} {F2 H2 : Hp} {B : List Addr} (oA : Own P F H Ai) (th : ∀ a ∈ Ai, ∃ q, H a = some q) (nt : ∀ a ∈ Ai, ∀ ys, H a ≠ some (.tup ys)) (o2 : Own (plus P H Ai) F2 H2 B) : AtA H H2 Ai ∧ Own P F2 H2 (Ai ++ B) := by
  have at_ : AtA H H2 Ai := fun a m o e => o2.pH a o (by rw [plus_in m]; exact e)
  have dj : ∀ a ∈ B, a ∉ Ai := fun a m m' => by
    obtain ⟨q, e⟩ := th a m'
    have := o2.nP a m
    rw [plus_in m', e] at this
    cases this
  have sp : Same P (plus P H Ai) := same_plus oA.nP
  refine ⟨at_, ⟨fun a => ?_, fun a m => ?_, fun a m => ?_, sp.trans o2.pH, o2.fH, o2.pF.sub sp⟩⟩
  · rw [List.count_append]
    have h1 := oA.nd a
    have h2 := o2.nd a
    by_cases m : a ∈ B
    · have : Ai.count a = 0 := List.count_eq_zero.mpr (dj a m)
      omega
    · have : B.count a = 0 := List.count_eq_zero.mpr m
      omega
  · rcases List.mem_append.mp m with m | m
    · exact oA.nP a m
    · have := o2.nP a m
      rw [plus_out (dj a m)] at this
      exact this
  · rcases List.mem_append.mp m with m | m
    · obtain ⟨q, e⟩ := th a m
      rcases o2.pF a q (by rw [plus_in m]; exact e) with h | ⟨⟨ys, h⟩, _⟩
      · exact h
      · exact absurd (by rw [e, h]) (nt a m ys)
    · exact o2.nF a m
theorem unhide {i : Nat} {s : Sl} {x : Option V} {Ai : List Addr} {F2 H2 : Hp} {σ2 : Fr} (ez : z[i]? = some x) (k : R1 T F H (some s) x Ai) (oA : Own P F H Ai) (sF : Same F F2) (h : Rel T (plus P H Ai) F2 H2 σ2 z) : Rel T P F2 H2 (σ2.put i (some s)) z := by
  obtain ⟨A2, k2⟩ := h
  obtain ⟨at_, o3⟩ := kept_of oA k.there k.nt k2.own
  have hi : i < σ2.length := by rw [k2.s.len]; exact (List.getElem?_eq_some_iff.mp ez).1
  obtain ⟨A', h3, ct⟩ := k2.s.put hi (k.mono sF at_)
  rw [set_same ez] at h3
  exact (o3.le fun a => by rw [List.count_append]; exact ct a).rel h3
theorem Rel.weak {Ai : List Addr} {H0 : Hp} (nP : ∀ a ∈ Ai, P a = none) (h : Rel T (plus P H0 Ai) F H σ z) : Rel T P F H σ z := by
  obtain ⟨A, k⟩ := h
  have sp : Same P (plus P H0 Ai) := same_plus nP
  refine ⟨A, k.s, k.nd, fun a m => ?_, k.nF, sp.trans k.pH, k.fH, k.pF.sub sp⟩
  have := k.nP a m
  cases e : P a with
  | none => rfl
  | some q => rw [sp a q e] at this; cases this
end
def lentV : List Sl → List V → List V
  | .lent _ :: ss, v :: vs => v :: lentV ss vs
  | .own _ :: ss, _ :: vs => lentV ss vs
  | _, _ => []
def Bk (z : L2.St) : List V → List (Option (Nat × Bool)) → Prop
  | [], [] => True
  | v :: lv, some (i, _) :: bk => z[i]? = some (some v) ∧ Bk z lv bk
  | _ :: lv, none :: bk => Bk z lv bk
  | _, _ => False
def ArgR (T : Tb) (P : Hp) (z : L2.St) (F H : Hp) (σ : Fr) (p : List Sl × List (Option (Nat × Bool))) (vs : List V) : Prop :=
  ∃ A B, RSl T F H σ z A ∧ RSl T F H (p.1.map some) (vs.map some) B ∧ Own P F H (B ++ A) ∧ Bk z (lentV p.1 vs) p.2
def RA (T : Tb) (RX : XR) (W : WX) (m : Fr → Res (List Sl × List (Option (Nat × Bool)))) : TA := fun z H Q => ∃ P F σ, Rel T P F H σ z ∧ PostA T RX W P z F (ArgR T P z) Q (m σ)
section
variable {T : Tb} {RX : XR} {W : WX} {X : Cx} {G : Prog} {cl : Call} {md : Md}
theorem RA.mono {m : Fr → Res (List Sl × List (Option (Nat × Bool)))} {z : L2.St} {H : Hp} {Q Q' : List V → Hp → Prop} (h : RA T RX W m z H Q) (k : ∀ u H, Q u H → Q' u H) : RA T RX W m z H Q' := by
  obtain ⟨P, F, σ, rel, q⟩ := h
  refine ⟨P, F, σ, rel, ?_⟩
  revert q
  generalize m σ = r
  intro q
  cases r with
  | ok v σ1 => exact fun F H u s k' => k u H (q F H u s k')
  | exc x σ1 => exact q
  | bad => exact q
theorem ArgR.nil {P F H : Hp} {σ : Fr} {z : L2.St} (h : Rel T P F H σ z) : ArgR T P z F H σ ([], []) [] := by
  obtain ⟨A, k⟩ := h
  exact ⟨A, [], k.s, ⟨rfl, rfl⟩, k.own, trivial⟩
theorem ArgR.rel {P F H : Hp} {σ : Fr} {z : L2.St} {p : List Sl × List (Option (Nat × Bool))} {vs : List V} (h : ArgR T P z F H σ p vs) : Rel T P F H σ z := by
  obtain ⟨A, B, h1, h2, o, b⟩ := h
  exact (o.le fun a => by rw [List.count_append]; omega).rel h1
theorem pa_nilR {ms : List Mode} : PA X [] (RA T RX W (evAs G cl ms .nil)) := impA pa_nil fun z H Q ⟨P, F, σ, rel, q⟩ => q F H [] (Same.refl _) (.nil rel)
theorem RA.tail {α : Type} {m : Fr → Res (List Sl × List (Option (Nat × Bool)))} {f : (List Sl × List (Option (Nat × Bool))) → List Sl × List (Option (Nat × Bool))} {z : L2.St} {H : Hp} {Q Q' : List V → Hp → Prop} {P P' F : Hp} {σ : Fr} (rel : Rel T P' F H σ z)
    (h : PostA T RX W P z F (ArgR T P z) Q ((m σ).map f)) (hx : ∀ F2 H2 σ2, Same F F2 → Rel T P' F2 H2 σ2 z → Rel T P F2 H2 σ2 z)
    (k : ∀ F2 H2 σ2 p vs, Same F F2 → ArgR T P' z F2 H2 σ2 p vs → (∀ vs', ArgR T P z F2 H2 σ2 (f p) vs' → Q vs' H2) → Q' vs H2) : RA T RX W m z H Q' := by
  refine ⟨P', F, σ, rel, ?_⟩
  revert h
  generalize m σ = r
  intro h
  cases r with
  | ok p σ1 => exact fun F2 H2 vs s a => k F2 H2 σ1 p vs s a fun vs' a' => h F2 H2 vs' s a'
  | exc x σ1 => exact fun F2 H2 c d s r rx => h F2 H2 c d s (hx F2 H2 σ1 s r) rx
  | bad => exact h
theorem ArgR.own {P F H : Hp} {σ : Fr} {z : L2.St} {p : List Sl × List (Option (Nat × Bool))} {vs : List V} {x : D} {u : V} (h : ArgR T P z F H σ p vs) (r : RD T F x u) : ArgR T P z F H σ (owned x :: p.1, p.2) (u :: vs) := by
  obtain ⟨A, B, h1, h2, o, b⟩ := h
  exact ⟨A, B, h1, ⟨u, _, [], B, rfl, rfl, ⟨rfl, r⟩, h2⟩, o, b⟩
theorem ArgR.owns {P F H : Hp} {σ : Fr} {z : L2.St} {p : List Sl × List (Option (Nat × Bool))} {vs : List V} (h : ArgR T P z F H σ p vs) : ∀ {xs : List D} {us : List V}, RDs T F xs us → ArgR T P z F H σ (xs.map owned ++ p.1, p.2) (us ++ vs)
  | [], _, r => by have r' : _ = [] := r; subst r'; exact h
  | x :: xs, _, r => by
    obtain ⟨v, s, e, r1, r2⟩ := r
    subst e
    exact (ArgR.owns h r2).own r1
theorem pa_consV {e : Expr} {es : List Expr} {ee : E} {er : Es} {ms ms' : List Mode} (ha : SE T RX W G cl X e ee) (hr : PA X es (RA T RX W (evAs G cl ms' er))) (hm : (∃ r, ms = .val :: r ∧ ms' = r) ∨ ms = [] ∧ ms' = [])
    (hs : starEach (e :: es) X.env = (false, eval e X.env) :: starEach es X.env) : PA X (e :: es) (RA T RX W (evAs G cl ms (.cons false ee er))) := by
  have hE : ∀ σ, evAs G cl ms (.cons false ee er) σ = (ev G cl .val ee σ).bind fun v σ => opt (toD v) fun x => (evAs G cl ms' er σ).map fun p => (owned x :: p.1, p.2) := fun σ => by
    rcases hm with ⟨r, rfl, rfl⟩ | ⟨rfl, rfl⟩ <;> rfl
  refine impA (pa_cons ha.v hr hs) fun z H Q ⟨P, F, σ, rel, q⟩ => ?_
  rw [hE] at q
  refine ⟨P, F, σ, rel, ?_⟩
  revert q
  generalize ev G cl .val ee σ = r
  intro q
  cases r with
  | exc x σ1 => exact q
  | bad => exact q
  | ok v σ1 =>
    intro F1 H1 u s rv
    have q : PostA T RX W P z F (ArgR T P z) Q (opt (toD v) fun x => (evAs G cl ms' er σ1).map fun p => (owned x :: p.1, p.2)) := q
    cases ex : toD v with
    | none => rw [ex] at q; exact q.elim
    | some x =>
      rw [ex] at q
      obtain ⟨F1', s1, rel1, rx⟩ := rv.toD ex
      exact RA.tail (α := Unit) rel1 (PostA.later (s.trans s1) q) (fun _ _ _ _ r => r) fun F2 H2 σ2 p vs s2 a q2 => q2 _ (a.own (rx.mono s2))
theorem lend_at {P F H : Hp} {σ : Fr} {z : L2.St} {i : Nat} {o : O} {l : Bool} (rel : Rel T P F H σ z) (e : σ[i]? = some (some (if l then .lent o else .own o))) :
    ∃ v Ai, z[i]? = some (some v) ∧ RO T F H o v Ai ∧ Own P F H Ai ∧ Rel T (plus P H Ai) F H (σ.put i none) z := by
  obtain ⟨x, Ai, ez, k, oA, r2⟩ := hide rel e
  cases l with
  | true => obtain ⟨v, ex, ro⟩ := k; subst ex; exact ⟨v, Ai, ez, ro, oA, r2⟩
  | false => obtain ⟨v, ex, ro⟩ := k; subst ex; exact ⟨v, Ai, ez, ro, oA, r2⟩
theorem ArgR.lend {P F H F2 H2 : Hp} {σ2 : Fr} {z : L2.St} {p : List Sl × List (Option (Nat × Bool))} {vs : List V} {o : O} {v : V} {Ai : List Addr} {b : Option (Nat × Bool)} (ro : RO T F H o v Ai) (oA : Own P F H Ai) (s : Same F F2)
    (h : ArgR T (plus P H Ai) z F2 H2 σ2 p vs) (hb : ∀ i l, b = some (i, l) → z[i]? = some (some v)) : ArgR T P z F2 H2 σ2 (.lent o :: p.1, b :: p.2) (v :: vs) := by
  obtain ⟨A, B, h1, h2, o2, bk⟩ := h
  obtain ⟨at_, o3⟩ := kept_of oA ro.there ro.nt o2
  refine ⟨A, Ai ++ B, h1, ⟨v, _, Ai, B, rfl, rfl, RO.mono s at_ ro, h2⟩, by rw [List.append_assoc]; exact o3, ?_⟩
  cases b with
  | none => exact bk
  | some il => exact ⟨hb il.1 il.2 rfl, bk⟩
theorem lentAt_some {σ : Fr} {i : Nat} {o : O} {l : Bool} (h : lentAt σ i = some (o, l)) : σ[i]? = some (some (if l then .lent o else .own o)) := by
  unfold lentAt at h
  cases e : σ.get i with
  | none => rw [e] at h; cases h
  | some s =>
    rw [e] at h
    have e1 := Fr.get_some e
    cases s with
    | own o' =>
      have h' : (o', false) = (o, l) := Option.some.inj h
      injection h' with h1 h2
      subst h1 h2
      exact e1
    | lent o' =>
      have h' : (o', true) = (o, l) := Option.some.inj h
      injection h' with h1 h2
      subst h1 h2
      exact e1
theorem ArgR.late {P F H : Hp} {σ : Fr} {z : L2.St} {p : List Sl × List (Option (Nat × Bool))} {vs : List V} {i : Nat} {o : O} {l : Bool} (h : ArgR T P z F H σ p vs) (e : lentAt σ i = some (o, l)) : ∃ v, z[i]? = some (some v) ∧ ArgR T P z F H (σ.put i none) (.lent o :: p.1, some (i, l) :: p.2) (v :: vs) := by
  obtain ⟨A, B, h1, h2, ow, bk⟩ := h
  obtain ⟨x, Ai, C, ez, k1, k2, pm⟩ := h1.split (lentAt_some e)
  have fin : ∀ v, x = some v → RO T F H o v Ai → ∃ v, z[i]? = some (some v) ∧ ArgR T P z F H (σ.put i none) (.lent o :: p.1, some (i, l) :: p.2) (v :: vs) := fun v ex ro => by
    subst ex
    refine ⟨v, ez, C, Ai ++ B, k2, ⟨v, _, Ai, B, rfl, rfl, ro, h2⟩, ow.le fun a => ?_, ez, bk⟩
    have := pm.count_eq a
    simp only [List.count_append] at this ⊢
    omega
  cases l with
  | true => obtain ⟨v, ex, ro⟩ := k1; exact fin v ex ro
  | false => obtain ⟨v, ex, ro⟩ := k1; exact fin v ex ro
theorem pa_consL {es : List Expr} {i : Nat} {x : PySem.Str} {pos : Pos} {er : Es} {ms : List Mode} (hN : X.N[i]? = some x) (hv : Vis X.env.scope x) (hd : (x == ("__debug__" : PySem.Str)) = false) (hcd : (x == ("__classdict__" : PySem.Str)) = false)
    (hr : PA X es (RA T RX W (evAs G cl ms er))) (hs : starEach (.Name x pos :: es) X.env = (false, eval (.Name x pos) X.env) :: starEach es X.env := by rfl) : PA X (.Name x pos :: es) (RA T RX W (evAs G cl (.lend :: ms) (.cons false (.var i) er))) := by
  refine impA (pa_cons (pe_var hN hv hd hcd) hr hs) fun z H Q ⟨P, F, σ, rel, q⟩ => ?_
  have q : PostA T RX W P z F (ArgR T P z) Q (opt (lentAt σ i) fun _ => (evAs G cl ms er σ).bind fun p σ => opt (lentAt σ i) fun ol => .ok (.lent ol.1 :: p.1, some (i, ol.2) :: p.2) (σ.put i none)) := q
  cases e : lentAt σ i with
  | none => rw [e] at q; exact q.elim
  | some ol =>
    rw [e] at q
    obtain ⟨v, Ai, ez, _⟩ := lend_at rel (lentAt_some e)
    refine ⟨v, ez, P, F, σ, rel, ?_⟩
    have q : PostA T RX W P z F (ArgR T P z) Q ((evAs G cl ms er σ).bind fun p σ => opt (lentAt σ i) fun ol => .ok (.lent ol.1 :: p.1, some (i, ol.2) :: p.2) (σ.put i none)) := q
    revert q
    cases evAs G cl ms er σ with
    | bad => exact fun q => q
    | exc y σ1 => exact fun q => q
    | ok p σ1 =>
      intro q F2 H2 vs s a
      have q : PostA T RX W P z F (ArgR T P z) Q (opt (lentAt σ1 i) fun ol => .ok (.lent ol.1 :: p.1, some (i, ol.2) :: p.2) (σ1.put i none)) := q
      cases e2 : lentAt σ1 i with
      | none => rw [e2] at q; exact q.elim
      | some ol2 =>
        rw [e2] at q
        obtain ⟨v2, ez2, a2⟩ := a.late e2
        rw [ez] at ez2
        injection ez2 with ez2
        injection ez2 with ez2
        subst ez2
        exact q F2 H2 _ s a2
theorem allD_of {F H : Hp} : ∀ {os : List O} {vs : List V} {A : List Addr} {xs : List D}, ROs T F H os vs A → allD os = some xs → RDs T F xs vs
  | [], _, _, _, h, e => by
    have e' : [] = _ := Option.some.inj e
    rw [← e']
    exact h.1
  | o :: os, _, _, _, h, e => by
    obtain ⟨v, r, A1, A2, ev, eA, h1, h2⟩ := h
    subst ev
    cases o with
    | d x =>
      obtain ⟨xs, ex, e⟩ := Option.map_eq_some_iff.mp (show (allD os).map (x :: ·) = some _ from e)
      subst e
      exact ⟨v, r, rfl, h1.2, allD_of h2 ex⟩
    | _ => cases e
theorem items_of {K : PySem.W.Frag} {P F H : Hp} {σ : Fr} {z : L2.St} {v : Val} {u : V} {xs : List D} (h : RelV T P F H σ z v u) (e : itemsV v = some xs) :
    ∃ a vs, u = .ref a ∧ (SqT K H a vs ∨ SqL K H a vs) ∧ RDs T F xs vs := by
  cases v with
  | d x =>
    obtain ⟨⟨A, k⟩, r⟩ := h
    cases x with
    | tup ys =>
      obtain ⟨a, vs, e1, e2, r⟩ := r
      have e' : ys = xs := Option.some.inj e
      subst e'
      exact ⟨a, vs, e1, .inl (.of (k.fH _ _ e2)), r⟩
    | lst ys =>
      obtain ⟨a, vs, e1, e2, r⟩ := r
      have e' : ys = xs := Option.some.inj e
      subst e'
      exact ⟨a, vs, e1, .inr (.of (k.fH _ _ e2)), r⟩
    | scr ns =>
      obtain ⟨a, ob, e1, e2⟩ := r
      have e' : ns.map D.int = xs := Option.some.inj e
      subst e'
      refine ⟨a, _, e1, .inr (.inl (.inr ⟨ob, k.fH _ _ e2⟩)), ?_⟩
      clear e2 e
      induction ns with
      | nil => rfl
      | cons n ns ih => exact ⟨_, _, rfl, rfl, ih⟩
    | _ => cases e
  | b i o =>
    obtain ⟨s, x, Ai, C, B, k⟩ := h
    cases o with
    | lst os =>
      obtain ⟨a, vs, B', e1, eB, e2, r⟩ := k.o
      exact ⟨a, vs, e1, .inr (.of e2), allD_of r e⟩
    | _ => cases e
  | o o => cases e
end
def StC (T : Tb) (P F H : Hp) (v : Val) (u : V) (ls : List O) (lv : List V) : Prop := ∃ o B C, asO v = some o ∧ RO T F H o u C ∧ ROs T F H ls lv B ∧ Own P F H (C ++ B)
def PostC (T : Tb) (RX : XR) (P F : Hp) (lv : List V) (Q : VK) (E : XK) : CR → Prop
  | .ret v ls => ∀ F1 H1 u, Same F F1 → StC T P F1 H1 v u ls lv → Q u H1
  | .exc x ls => ∀ F1 H1 c d, Same F F1 → (∃ B, ROs T F1 H1 ls lv B ∧ Own P F1 H1 B) → RX F1 H1 x c d → E c d H1
  | .bad => False
def spD (T : Tb) (RX : XR) (cl : Call) (f : Nat) : Sp := fun vs H Q E => ∃ P F ss B, RSl T F H (ss.map some) (vs.map some) B ∧ Own P F H B ∧ PostC T RX P F (lentV ss vs) Q E (cl f ss)
section
variable {T : Tb} {RX : XR} {W : WX} {X : Cx} {G : Prog} {cl : Call} {md : Md}
theorem give_ok {P F H : Hp} {z : L2.St} {C : List Addr} : ∀ {bk : List (Option (Nat × Bool))} {ls : List O} {lv : List V} {σ σ' : Fr} {A B : List Addr}, RSl T F H σ z A → ROs T F H ls lv B → Own P F H (C ++ (B ++ A)) → Bk z lv bk → giveBack σ bk ls = some σ' →
    ∃ A', RSl T F H σ' z A' ∧ Own P F H (C ++ A')
  | [], [], _, σ, σ', A, B, h, r, o, b, e => by
    have e' : σ = σ' := Option.some.inj e
    subst e'
    exact ⟨A, h, o.le fun a => by simp only [List.count_append]; omega⟩
  | none :: bk, l :: ls, lv, σ, σ', A, B, h, r, o, b, e => by
    obtain ⟨v, s, A1, A2, ev, eA, r1, r2⟩ := r
    subst ev eA
    exact give_ok h r2 (o.le fun a => by simp only [List.count_append]; omega) b e
  | some (i, l) :: bk, o :: ls, lv, σ, σ', A, B, h, r, ow, b, e => by
    obtain ⟨v, s, A1, A2, ev, eA, r1, r2⟩ := r
    subst ev eA
    have hi : i < σ.length := by rw [h.len]; exact (List.getElem?_eq_some_iff.mp b.1).1
    have k1 : R1 T F H (some (if l then Sl.lent o else .own o)) (some v) A1 := by cases l <;> exact ⟨v, rfl, r1⟩
    obtain ⟨A', h', ct⟩ := h.put hi k1
    rw [set_same b.1] at h'
    exact give_ok h' r2 (ow.le fun a => by have := ct a; simp only [List.count_append]; omega) b.2 e
  | [], _ :: _, _, _, _, _, _, _, _, _, _, e => by cases e
  | none :: _, [], _, _, _, _, _, _, _, _, _, e => by cases e
  | some _ :: _, [], _, _, _, _, _, _, _, _, _, e => by cases e
theorem relV_of {P F H : Hp} {σ : Fr} {z : L2.St} {v : Val} {u : V} {o : O} {A C : List Addr} (h : RSl T F H σ z A) (e : asO v = some o) (r : RO T F H o u C) (ow : Own P F H (C ++ A)) : RelV T P F H σ z v u := by
  cases v with
  | d x =>
    have e' : O.d x = o := Option.some.inj e
    subst e'
    exact ⟨(ow.le fun a => by rw [List.count_append]; omega).rel h, r.2⟩
  | o o' =>
    have e' : o' = o := Option.some.inj e
    subst e'
    exact ⟨A, C, h, r, nd_count.mpr ow.nd, ow.nP, ow.nF, ow.pH, ow.fH, ow.pF⟩
  | b i o => cases e
theorem call_ok {P F H : Hp} {σ : Fr} {z : L2.St} {p : List Sl × List (Option (Nat × Bool))} {vs : List V} {f : Nat} {Q : VK} (h : ArgR T P z F H σ p vs) (q : Post T RX W P z F Q (after (cl f p.1) p.2 σ)) : spD T RX cl f vs H Q fun c d H' => W c d z H' := by
  obtain ⟨A, B, h1, h2, o, bk⟩ := h
  have oA : Own P F H A := o.le fun a => by rw [List.count_append]; omega
  have oB : Own P F H B := o.le fun a => by rw [List.count_append]; omega
  have dj : ∀ a ∈ B, a ∉ A := fun a m m' => by
    have k1 := List.count_pos_iff.mpr m
    have k2 := List.count_pos_iff.mpr m'
    have k3 := o.nd a
    rw [List.count_append] at k3
    omega
  refine ⟨plus P H A, F, p.1, B, h2, ⟨oB.nd, fun a m => plus_none (oB.nP a m) (dj a m), oB.nF, plus_same oB.pH, oB.fH, oA.pF.plusP oA.nF⟩, ?_⟩
  revert q
  generalize cl f p.1 = r
  intro q
  cases r with
  | bad => exact q
  | ret v ls =>
    rintro F1 H1 u s ⟨w, B1, C, ew, rw_, rl, o1⟩
    obtain ⟨σ', e', q⟩ := Post.opt (show Post T RX W P z F Q (opt (giveBack σ p.2 ls) fun σ => .ok v σ) from q)
    obtain ⟨at_, o2⟩ := kept_of oA h1.there h1.nt o1
    obtain ⟨A', h', o3⟩ := give_ok (C := C) (h1.mono s at_) rl (o2.le fun a => by simp only [List.count_append]; omega) bk e'
    exact q F1 H1 u s (relV_of h' ew rw_ o3)
  | exc x ls =>
    rintro F1 H1 c d s ⟨B1, rl, o1⟩ rx
    obtain ⟨σ', e', q⟩ := Post.opt (show Post T RX W P z F Q (opt (giveBack σ p.2 ls) fun σ => .exc x σ) from q)
    obtain ⟨at_, o2⟩ := kept_of oA h1.there h1.nt o1
    obtain ⟨A', h', o3⟩ := give_ok (C := []) (h1.mono s at_) rl (o2.le fun a => by simp only [List.count_append, List.nil_append]; omega) bk e'
    exact q F1 H1 c d s (o3.rel h') rx
end
end Tf
end
section
set_option Elab.async false
set_option linter.all false
set_option maxRecDepth 100000
namespace Tf
open PySem PySem.Spec PyProof.Rows L2
section
variable {T : Tb} {RX : XR} {W : WX} {X : Cx} {G : Prog} {cl : Call} {md : Md}
def isStar : Expr → Bool
  | .Starred _ _ => true
  | _ => false
theorem star_of {e : Expr} {es : List Expr} {env : Env} (h : isStar e = false) : starEach (e :: es) env = (false, eval e env) :: starEach es env := by
  cases e <;> first | rfl | cases h
theorem any_star {pos : Pos} {env : Env} : ∀ {es : List Expr}, es.all (fun e => !isStar e) = true → (backTo pos (starEach es env)).any (·.1) = false
  | [], _ => rfl
  | e :: es, h => by
    rw [List.all_cons, Bool.and_eq_true] at h
    have h1 : isStar e = false := by cases k : isStar e with
      | false => rfl
      | true => rw [k] at h; cases h.1
    rw [star_of h1]
    show (false || (backTo pos (starEach es env)).any (·.1)) = false
    rw [any_star h.2]
    rfl
theorem all_star {pos : Pos} {env : Env} : ∀ {es : List Expr}, es.all (fun e => !isStar e) = true → (backTo pos (starEach es env)).all (!·.1) = true
  | [], _ => rfl
  | e :: es, h => by
    rw [List.all_cons, Bool.and_eq_true] at h
    have h1 : isStar e = false := by cases k : isStar e with
      | false => rfl
      | true => rw [k] at h; cases h.1
    rw [star_of h1]
    show (true && (backTo pos (starEach es env)).all (!·.1)) = true
    rw [all_star h.2]
    rfl
structure PArgs (X : Cx) (es : List Expr) (t : TA) : Prop where
  run : ∀ (f : Value) (first : List Value) (pos : Pos), PySem.W.keepIn X.K f = true → ∀ (pins : List (Addr × Obj)) (s : Shared) (z : L2.St) (H : Hp) (Q : List V → Hp → Prop) (Qf : Value → Shared → Prop), Inv X pins z H s → t z H Q →
    (∀ vs us s' H', Inv X pins z H' s' → Vals vs us → Q vs H' → wpAny (model X.prog X.w) X.A (call f (first ++ us)) Qf X.xe s') →
    wpAny (model X.prog X.w) X.A (callWith pos f first (backTo pos (starEach es X.env)) []) Qf X.xe s
theorem parg_cons {e : Expr} {es : List Expr} {t : TA} (he : isStar e = false) (h : PA X (e :: es) t) : PArgs X (e :: es) t := ⟨fun f first pos hk pins s z H Q Qf I q k => by
  have run := thn (h.run pos pins s z H Q I q) (Q' := fun us s₁ => X.K.In s₁.heap ∧ wpAny (model X.prog X.w) X.A (call f (first ++ us)) Qf X.xe s₁) fun us s₁ ⟨vs, H', I', r, q'⟩ => ⟨I'.kIn, k vs us s₁ H' I' r q'⟩
  cases c : (backTo pos (starEach es X.env)).any (·.1) with
  | false => exact PySem.W.callWith_K (h₀ := X.base) I.ok.mod.kin hk run (star_of he) c
  | true => exact PySem.W.callWith_S2 (h₀ := X.base) I.ok.mod.kin hk run (star_of he) c⟩
theorem RA.bind {m : Fr → Res (List Sl × List (Option (Nat × Bool)))} {f : List Sl × List (Option (Nat × Bool)) → Fr → Res Val} {z : L2.St} {H : Hp} {Q : VK} {P F : Hp} {σ : Fr} (rel : Rel T P F H σ z) (h : Post T RX W P z F Q ((m σ).bind f)) :
    RA T RX W m z H fun vs H1 => ∃ F1 σ1 p, Same F F1 ∧ ArgR T P z F1 H1 σ1 p vs ∧ Post T RX W P z F1 Q (f p σ1) := by
  refine ⟨P, F, σ, rel, ?_⟩
  revert h
  generalize m σ = r
  intro h
  cases r with
  | ok v σ1 => exact fun F1 H1 u s k => ⟨F1, σ1, v, s, k, Post.later s h⟩
  | exc x σ1 => exact h
  | bad => exact h
theorem run_z {k : Nat} {f : Addr} {sp : Sp} {pins : List (Addr × Obj)} {z : L2.St} {H : Hp} {s : Shared} {Q : VK} {us : List Value} {vs : List V} (F : FnR X.prog X.w X.K X.mg X.base (L2.CX X.prog X.w) k f sp) (hr : Room k X.A) (tk : Takes X W) (I : Inv X pins z H s) (r : Vals vs us)
    (h : sp vs H Q fun c d H' => W c d z H') : codeAny (model X.prog X.w) X.A (.call (.ref f) ⟨us, []⟩) (fun r s' => match r with | .ok (.ret v) => EP X pins z Q v s' | .ok _ => False | .error e => X.xe e s') s := by
  refine codeAny_mono (F X.A X.stack s H us vs Q _ hr I.env0 r h) fun r s' hq => ?_
  cases r with
  | error e => exact tk e s' (XE.of_call I (fun _ _ _ h => h) hq)
  | ok fl =>
    cases fl with
    | ret u => exact I.after hq
    | next => exact False.elim hq
    | brk => exact False.elim hq
    | cont => exact False.elim hq
abbrev FnD (X : Cx) (T : Tb) (RX : XR) (cl : Call) (k : Nat) (a : Addr) (f : Nat) : Prop := FnR X.prog X.w X.K X.mg X.base (L2.CX X.prog X.w) k a (spD T RX cl f)
theorem se_call {k f : Nat} {a : Addr} {x : PySem.Str} {p pos : Pos} {es : List Expr} {as : Es} (F : FnD X T RX cl k a f) (hr : Room k X.A) (tk : Takes X W) (hk : PySem.W.keepIn X.K (.ref a) = true) (hg : Gl X x) (hm : X.mg x = some (.ref a)) (hd : (x == ("__debug__" : PySem.Str)) = false)
    (ha : PArgs X es (RA T RX W (evAs G cl (modesOf G f) as))) : SE T RX W G cl X (.Call (.Name x p) es [] pos) (.call f as) :=
  SE.of (fun _ => rfl) (fun _ _ => rfl) ⟨fun pins s z H Q I ⟨P, F0, σ, rel, q⟩ => by
    refine wpAny_Call_Name_kw (ld_glob I hg hm ?_ hd)
    refine ha.run (.ref a) [] pos hk pins s z H _ _ I (RA.bind rel q) fun vs us s' H' I' r ⟨F1, σ1, p, s1, arg, q1⟩ => ?_
    exact wpAny_call (run_z F hr tk I' r (call_ok arg q1))⟩
theorem RDf.no {F : Hp} {m : PySem.Str} (hm : ∀ f, f < T.nf → T.fN f ≠ m) : ∀ {fs : List (Nat × D)} {gs : List (PySem.Str × V)}, RDf T F fs gs → gs.lookup m = none
  | [], _, h => by rw [show _ = [] from h]; rfl
  | (k, y) :: fs, _, h => by
    obtain ⟨v, r, hk, eg, _, h2⟩ := h
    subst eg
    rw [List.lookup_cons, show (m == T.fN k) = false from by simpa using fun e => hm k hk e.symm]
    exact RDf.no hm h2
theorem ROf.no {F H : Hp} {m : PySem.Str} (hm : ∀ f, f < T.nf → T.fN f ≠ m) : ∀ {fs : List (Nat × O)} {gs : List (PySem.Str × V)} {A : List Addr}, ROf T F H fs gs A → gs.lookup m = none
  | [], _, _, h => by rw [h.1]; rfl
  | (k, y) :: fs, _, _, h => by
    obtain ⟨v, r, A1, A2, hk, eg, eA, _, h2⟩ := h
    subst eg
    rw [List.lookup_cons, show (m == T.fN k) = false from by simpa using fun e => hm k hk e.symm]
    exact ROf.no hm h2
structure MethOk (X : Cx) (T : Tb) (RX : XR) (G : Prog) (cl : Call) (k : Nat) (fA : Nat → Addr) (m : Nat) (x : PySem.Str) : Prop where
  no : ∀ f, f < T.nf → T.fN f ≠ x
  at_ : ∀ c f, c < T.nc → G.meth c m = some f → Meth X.K (T.cA c) x (fA f) ∧ FnD X T RX cl k (fA f) f
theorem frz_c {P F H : Hp} {C : List Addr} {o : O} {u : V} {B : List Addr} (r : RO T F H o u B) (ow : Own P F H (B ++ C)) : Same F (plus F H B) ∧ RD T (plus F H B) o.frz u ∧ Own P (plus F H B) H C := by
  have oB : Own P F H B := ow.le fun a => by rw [List.count_append]; omega
  have oC : Own P F H C := ow.le fun a => by rw [List.count_append]; omega
  have sf : Same F (plus F H B) := same_plus oB.nF
  have dj : ∀ a ∈ C, a ∉ B := fun a m m' => by
    have h1 := List.count_pos_iff.mpr m
    have h2 := List.count_pos_iff.mpr m'
    have h3 := ow.nd a
    rw [List.count_append] at h3
    omega
  refine ⟨sf, r.frz sf fun a m q e => by rw [plus_in m]; exact e, oC.nd, oC.nP, fun a m => plus_none (oC.nF a m) (dj a m), oC.pH, plus_same oC.fH, oC.pF.plusF oB.nP⟩
theorem make_ok {P F H : Hp} {σ : Fr} {z : L2.St} {p : List Sl × List (Option (Nat × Bool))} {vs : List V} {c : Nat} {C : ClsI} {Q : VK} (hc : c < T.nc) (eC : G.clss[c]? = some C) (h : ArgR T P z F H σ p vs) (q : Post T RX W P z F Q (makeV G cl c p.1 p.2 σ)) :
    ∀ x dx, H x = none → H dx = none → dx ≠ x → spD T RX cl C.init (V.ref x :: vs) (upd (upd H dx (.own x)) x (.ins (T.cA c) dx [])) (fun v H2 => v = .non ∧ Q (.ref x) H2) fun c d H' => W c d z H' := by
  intro x dx nx nd ne
  obtain ⟨A, B, h1, h2, o, bk⟩ := h
  have up : ∀ a q, H a = some q → upd (upd H dx (.own x)) x (.ins (T.cA c) dx []) a = some q := fun a q e => by
    rw [upd_ne (fun k => by rw [k, nx] at e; cases e), upd_ne (fun k => by rw [k, nd] at e; cases e)]
    exact e
  have sm : Same H (upd (upd H dx (.own x)) x (.ins (T.cA c) dx [])) := up
  have oA : Own P F H A := o.le fun a => by rw [List.count_append]; omega
  have oB : Own P F H B := o.le fun a => by rw [List.count_append]; omega
  have dj : ∀ a ∈ B, a ∉ A := fun a m m' => by
    have k1 := List.count_pos_iff.mpr m
    have k2 := List.count_pos_iff.mpr m'
    have k3 := o.nd a
    rw [List.count_append] at k3
    omega
  have xA : x ∉ A := fun m => by obtain ⟨q, e⟩ := h1.there x m; rw [nx] at e; cases e
  have xB : x ∉ B := fun m => by obtain ⟨q, e⟩ := h2.there x m; rw [nx] at e; cases e
  have Px : P x = none := by cases e : P x with
    | none => rfl
    | some q => have := oA.pH x q e; rw [nx] at this; cases this
  have Fx : F x = none := by cases e : F x with
    | none => rfl
    | some q => have := oA.fH x q e; rw [nx] at this; cases this
  have r0 : RO T F (upd (upd H dx (.own x)) x (.ins (T.cA c) dx [])) (.ins c []) (.ref x) [x] := ⟨x, dx, [], [], hc, rfl, rfl, upd_same, rfl, rfl⟩
  refine ⟨plus P H A, F, .lent (.ins c []) :: p.1, x :: B, ⟨_, _, [x], B, rfl, rfl, r0, h2.mono (Same.refl _) fun a _ q e => up a q e⟩, ⟨fun a => ?_, fun a m => ?_, fun a m => ?_, (plus_same oA.pH).trans sm, oA.fH.trans sm, oA.pF.plusP oA.nF⟩, ?_⟩
  · rw [List.count_cons]
    have := oB.nd a
    by_cases k : x = a
    · subst k
      have : B.count x = 0 := List.count_eq_zero.mpr xB
      rw [this]
      split <;> omega
    · rw [if_neg (by simpa using k)]
      omega
  · rcases List.mem_cons.mp m with e | m
    · rw [e]; exact plus_none Px xA
    · exact plus_none (oB.nP a m) (dj a m)
  · rcases List.mem_cons.mp m with e | m
    · rw [e]; exact Fx
    · exact oB.nF a m
  have q : Post T RX W P z F Q (match cl C.init (.lent (.ins c []) :: p.1) with
    | .ret (.d .non) (o :: ls) => opt (giveBack σ p.2 ls) fun σ => .ok (if C.frz then .d o.frz else .o o) σ
    | .exc x (_ :: ls) => opt (giveBack σ p.2 ls) fun σ => .exc x σ
    | _ => .bad) := by
    have q' := q
    unfold makeV at q'
    rw [eC] at q'
    exact q'
  have sA : AtA H (upd (upd H dx (.own x)) x (.ins (T.cA c) dx [])) A := fun a _ q e => up a q e
  revert q
  generalize cl C.init (.lent (.ins c []) :: p.1) = r
  intro q
  have keep : ∀ {F1 H1 : Hp} {B1 : List Addr}, Same F F1 → Own (plus P H A) F1 H1 B1 → RSl T F1 H1 σ z A ∧ Own P F1 H1 (A ++ B1) := fun {F1 H1 B1} s o1 => by
    obtain ⟨at_, o2⟩ := kept_of oA h1.there h1.nt o1
    exact ⟨h1.mono s at_, o2⟩
  cases r with
  | bad => exact q.elim
  | ret v ls =>
    cases v with
    | d y => cases y with
      | non => cases ls with
        | nil => exact q.elim
        | cons o' ls =>
          rintro F1 H1 u s ⟨w, B1, C1, ew, rw_, rl, o1⟩
          have ew : O.d .non = w := Option.some.inj ew
          subst ew
          obtain ⟨rC, ru⟩ := rw_
          subst rC
          obtain ⟨v', lv, A1, A2, ev, eA, ro, rl⟩ := rl
          injection ev with e1 e2
          subst e1 e2 eA
          refine ⟨ru, ?_⟩
          obtain ⟨σ', e', q⟩ := Post.opt (show Post T RX W P z F Q (opt (giveBack σ p.2 ls) fun σ => .ok (if C.frz then .d o'.frz else .o o') σ) from q)
          obtain ⟨h', o2⟩ := keep s o1
          obtain ⟨A', h3, o3⟩ := give_ok (C := A1) h' rl (o2.le fun a => by simp only [List.count_append, List.nil_append]; omega) bk e'
          cases hf : C.frz with
          | true =>
            rw [hf] at q
            obtain ⟨s2, rd, o4⟩ := frz_c ro o3
            exact q _ H1 (.ref x) (s.trans s2) ⟨o4.rel (h3.mono s2 fun _ _ _ e => e), rd⟩
          | false =>
            rw [hf] at q
            exact q F1 H1 (.ref x) s (relV_of (o := o') h3 rfl ro o3)
      | _ => exact q.elim
    | _ => exact q.elim
  | exc y ls =>
    cases ls with
    | nil => exact q.elim
    | cons o' ls =>
      rintro F1 H1 c' d s ⟨B1, rl, o1⟩ rx
      obtain ⟨v', lv, A1, A2, ev, eA, ro, rl⟩ := rl
      injection ev with e1 e2
      subst e1 e2 eA
      obtain ⟨σ', e', q⟩ := Post.opt (show Post T RX W P z F Q (opt (giveBack σ p.2 ls) fun σ => .exc y σ) from q)
      obtain ⟨h', o2⟩ := keep s o1
      obtain ⟨A', h3, o3⟩ := give_ok (C := []) h' rl (o2.le fun a => by simp only [List.count_append, List.nil_append]; omega) bk e'
      exact q F1 H1 c' d s (o3.rel h3) rx
theorem run_mkz {k : Nat} {f C : Addr} {sp : Sp} {pins : List (Addr × Obj)} {z : L2.St} {H : Hp} {s : Shared} {Q : VK} {us : List Value} {vs : List V} (M : Mk X.K C f) (F : FnR X.prog X.w X.K X.mg X.base (L2.CX X.prog X.w) k f sp) (hr : Room (k + 1) X.A) (tk : Takes X W) (I : Inv X pins z H s) (r : Vals vs us)
    (h : ∀ x dx, H x = Option.none → H dx = Option.none → dx ≠ x → sp (V.ref x :: vs) (upd (upd H dx (.own x)) x (.ins C dx [])) (fun v H2 => v = .non ∧ Q (.ref x) H2) fun c d H' => W c d z H') :
    wpAny (model X.prog X.w) X.A (call (.ref C) us) (EP X pins z Q) X.xe s := by
  have hq := h (s.heap.objs.size + 1) s.heap.objs.size (I.hok.fresh (Nat.le_succ _)) (I.hok.fresh (Nat.le_refl _)) (Nat.ne_of_lt (Nat.lt_succ_self _))
  have I2 := Inv.made (C := C) I
  have r2 : Vals (V.ref (s.heap.objs.size + 1) :: vs) (Value.ref (s.heap.objs.size + 1) :: us) := .cons rfl r
  refine wpAny_call (make_map (f := f) I.kIn M.makes M.init (beq_iff_eq.mp M.fn) (codeAny_mono (F _ X.stack _ _ (Value.ref (s.heap.objs.size + 1) :: us) _ _ _ (hr.make C us []) (I2.env0.make C us []) r2 hq) fun r s' hq' => ?_))
  cases r with
  | error e => exact tk e s' (XE.of_call I2 (fun _ _ _ h => h) hq')
  | ok fl =>
    cases fl with
    | ret u =>
      obtain ⟨v, H', I3, rv, ev, q3⟩ := I2.after hq'
      subst ev
      exact ⟨rv, ⟨V.ref (s.heap.objs.size + 1), H', I3, rfl, q3⟩⟩
    | next => exact False.elim hq'
    | brk => exact False.elim hq'
    | cont => exact False.elim hq'
theorem se_make {k c : Nat} {fA : Nat → Addr} {x : PySem.Str} {p pos : Pos} {es : List Expr} {as : Es} {C : ClsI} (hc : c < T.nc) (eC : G.clss[c]? = some C) (M : Mk X.K (T.cA c) (fA C.init)) (F : FnD X T RX cl k (fA C.init) C.init) (hr : Room (k + 1) X.A) (tk : Takes X W)
    (hg : Gl X x) (hm : X.mg x = some (.ref (T.cA c))) (hd : (x == ("__debug__" : PySem.Str)) = false) (ha : PArgs X es (RA T RX W (evAs G cl (modesOf G C.init).tail as))) : SE T RX W G cl X (.Call (.Name x p) es [] pos) (.make c as) :=
  SE.of (m := fun σ => (evAs G cl (modesOf G C.init).tail as σ).bind fun p σ => makeV G cl c p.1 p.2 σ) (fun _ => rfl) (fun md σ => by show (opt G.clss[c]? _).bind _ = _; rw [eC]; rfl) ⟨fun pins s z H Q I ⟨P, F0, σ, rel, q⟩ => by
    refine wpAny_Call_Name_kw (ld_glob I hg hm ?_ hd)
    refine ha.run (.ref (T.cA c)) [] pos M.kp pins s z H _ _ I (RA.bind rel q) fun vs us s' H' I' r ⟨F1, σ1, p, s1, arg, q1⟩ => ?_
    exact run_mkz M F hr tk I' r (make_ok hc eC arg q1)⟩
end
end Tf
end
section
set_option Elab.async false
set_option linter.all false
set_option maxRecDepth 100000
namespace Tfx
open PySem PySem.Spec PyProof.Rows PySem.W PySem.Calls
section
variable {prog : Program} {w : World} {A : Around} {E : Value → Shared → Prop} {s : Shared} {K : Frag} {x C C2 L f g : Addr} {h₀ : Heap} {m : PySem.Str → Option Value} {ox : Obj} {od : Option Obj}
theorem binop_X {op : Operator} {b : Value} {Q : Value → Shared → Prop} (F : Fr h₀ L s.heap m) (X₀ : K.In h₀) (I : InstAt s.heap x ox C od) (hb : Looks (model prog w) s.heap (typeOf b) (.ref C2)) (hne : C ≠ C2) (hc : selfFirst K C = true) (hc2 : selfFirst K C2 = true)
    (hs : findIn K (.ref C) (PySem.dunder op.info.2) = some (some (.ref f))) (hf : isFn K (.ref f) = true) (hr : findIn K (.ref C) (dunderR op.info.2) = some none)
    (hs2 : findIn K (.ref C2) (PySem.dunder op.info.2) = some (some (.ref g))) (hr2 : findIn K (.ref C2) (dunderR op.info.2) = some none) (hsub : subIn K (.ref C2) (.ref C) = some false)
    (h : wpAny (model prog w) A (call (.ref f) [.ref x, b]) (PySem.W.CmpBack Q) E s) : wpAny (model prog w) A (binaryOp op (.ref x) b) Q E s := by
  have X := X₀.keeps F.keep
  obtain ⟨cd, rest, hcd, hm⟩ := ksp_first hc
  obtain ⟨cd2, rest2, hcd2, hm2⟩ := ksp_first hc2
  rcases hi : op.info with ⟨sym, nm'⟩
  rw [hi] at hs hr hs2 hr2
  dsimp only at hs hr hs2 hr2
  have one := ksp_try X I hs hf h
  obtain ⟨hh, gg, d, tt, os⟩ := s
  have L1 : Looks (model prog w) hh (typeOf (.ref x)) (.ref C) := I.type
  have L2 : Looks (model prog w) hh (typeOf b) (.ref C2) := hb
  have L3 : Looks (model prog w) hh (fillsNumberSlot (.ref C) nm') true := fills_K X hcd hm hs
  have L4 : Looks (model prog w) hh (fillsNumberSlot (.ref C2) nm') true := fills_K X hcd2 hm2 hs2
  have L5 : Looks (model prog w) hh (isSubtype (.ref C2) (.ref C)) false := looks_subIn X hsub
  have L6 : Looks (model prog w) hh (numberSlotInPython (.ref C) nm') true := ksp_inPy X hs hr (.inl rfl)
  have L7 : Looks (model prog w) hh (numberSlotInPython (.ref C2) nm') true := ksp_inPy X hs2 hr2 (.inl rfl)
  have hne : (Value.ref C == Value.ref C2) = false := Bool.eq_false_iff.mpr fun q => by cases beq_iff_eq.mp q; exact hne rfl
  simp only [binaryOp, hi]
  refine wpAny_holding (wpAny_bind ?_)
  unfold binaryOp1
  refine wpAny_bind (L1.at (wpAny_bind (L2.at (wpAny_bind (L3.at ?_)))))
  simp only [hne, Bool.false_eq_true, if_false]
  ksp_lk
  refine wpAny_mono one (fun r s' hr' => ?_) fun _ _ e => e
  obtain ⟨v, rfl, hq⟩ := hr'
  ksp_lk
  exact hq
end
end Tfx
end
section
set_option Elab.async false
set_option linter.all false
set_option maxRecDepth 100000
namespace Tf
open PySem PySem.Spec PyProof.Rows L2
def EvR (T : Tb) (P : Hp) (z : L2.St) (F H : Hp) (σ : Fr) (os : List O) (us : List V) : Prop := ∃ A B, RSl T F H σ z A ∧ ROs T F H os us B ∧ Own P F H (B ++ A)
def RV (T : Tb) (RX : XR) (W : WX) (m : Fr → Res (List O)) : TA := fun z H Q => ∃ P F σ, Rel T P F H σ z ∧ PostA T RX W P z F (EvR T P z) Q (m σ)
section
variable {T : Tb} {RX : XR} {W : WX} {X : Cx} {G : Prog} {cl : Call} {md : Md}
theorem plus_nil {P H : Hp} : plus P H [] = P := by
  funext a
  exact plus_out (by intro h; cases h)
theorem RelV.asO {P F H : Hp} {σ : Fr} {z : L2.St} {v : Val} {u : V} {o : O} (h : RelV T P F H σ z v u) (e : asO v = some o) : ∃ B, RO T F H o u B ∧ Own P F H B ∧ Rel T (plus P H B) F H σ z := by
  cases v with
  | d x =>
    have e' : O.d x = o := Option.some.inj e
    subst e'
    obtain ⟨⟨A, k⟩, r⟩ := h
    exact ⟨[], ⟨rfl, r⟩, k.own.le fun a => by simp, by rw [plus_nil]; exact ⟨A, k⟩⟩
  | o o' =>
    have e' : o' = o := Option.some.inj e
    subst e'
    obtain ⟨A, B, k⟩ := h
    have ow : Own P F H (B ++ A) := ⟨nd_count.mp k.nd, k.nP, k.nF, k.pH, k.fH, k.pF⟩
    have oB : Own P F H B := ow.le fun a => by rw [List.count_append]; omega
    have oA : Own P F H A := ow.le fun a => by rw [List.count_append]; omega
    have dj : ∀ a ∈ A, a ∉ B := fun a m m' => by
      have k1 := List.count_pos_iff.mpr m
      have k2 := List.count_pos_iff.mpr m'
      have k3 := ow.nd a
      rw [List.count_append] at k3
      omega
    refine ⟨B, k.o, oB, Own.rel ⟨oA.nd, fun a m => plus_none (oA.nP a m) (dj a m), oA.nF, plus_same k.pH, k.fH, PF.plusP k.pF oB.nF⟩ k.s⟩
  | b i o => cases e
theorem EvR.nil {P F H : Hp} {σ : Fr} {z : L2.St} (h : Rel T P F H σ z) : EvR T P z F H σ [] [] := by
  obtain ⟨A, k⟩ := h
  exact ⟨A, [], k.s, ⟨rfl, rfl⟩, k.own⟩
theorem EvR.cons {P F H F2 H2 : Hp} {σ2 : Fr} {z : L2.St} {os : List O} {us : List V} {o : O} {u : V} {B : List Addr} (ro : RO T F H o u B) (oB : Own P F H B) (s : Same F F2) (h : EvR T (plus P H B) z F2 H2 σ2 os us) : EvR T P z F2 H2 σ2 (o :: os) (u :: us) := by
  obtain ⟨A, C, h1, h2, ow⟩ := h
  obtain ⟨at_, o3⟩ := kept_of oB ro.there ro.nt ow
  exact ⟨A, B ++ C, h1, ⟨u, us, B, C, rfl, rfl, RO.mono s at_ ro, h2⟩, by rw [List.append_assoc]; exact o3⟩
theorem EvR.ds {P F H : Hp} {σ : Fr} {z : L2.St} {os : List O} {us : List V} (h : EvR T P z F H σ os us) : ∀ {xs : List D} {vs : List V}, RDs T F xs vs → EvR T P z F H σ (xs.map O.d ++ os) (vs ++ us)
  | [], _, r => by have r' : _ = [] := r; subst r'; exact h
  | x :: xs, _, r => by
    obtain ⟨v, s, e, r1, r2⟩ := r
    subst e
    obtain ⟨A, C, h1, h2, ow⟩ := EvR.ds h r2
    exact ⟨A, C, h1, ⟨v, _, [], C, rfl, rfl, ⟨rfl, r1⟩, h2⟩, ow⟩
theorem EvR.rel {P F H : Hp} {σ : Fr} {z : L2.St} {os : List O} {us : List V} (h : EvR T P z F H σ os us) : Rel T P F H σ z := by
  obtain ⟨A, B, h1, h2, o⟩ := h
  exact (o.le fun a => by rw [List.count_append]; omega).rel h1
theorem EvR.frz {P F H : Hp} {σ : Fr} {z : L2.St} {os : List O} {us : List V} (h : EvR T P z F H σ os us) : ∃ F', Same F F' ∧ Rel T P F' H σ z ∧ RDs T F' (O.frzL os) us := by
  obtain ⟨A, B, h1, h2, ow⟩ := h
  have oB : Own P F H B := ow.le fun a => by rw [List.count_append]; omega
  have oA : Own P F H A := ow.le fun a => by rw [List.count_append]; omega
  have sf : Same F (plus F H B) := same_plus oB.nF
  have dj : ∀ a ∈ A, a ∉ B := fun a m m' => by
    have k1 := List.count_pos_iff.mpr m
    have k2 := List.count_pos_iff.mpr m'
    have k3 := ow.nd a
    rw [List.count_append] at k3
    omega
  refine ⟨plus F H B, sf, Own.rel ⟨oA.nd, oA.nP, fun a m => plus_none (oA.nF a m) (dj a m), oA.pH, plus_same oA.fH, oA.pF.plusF oB.nP⟩ (h1.mono sf fun _ _ _ e => e), ROs.frz h2 sf fun a m q e => by rw [plus_in m]; exact e⟩
theorem pv_nil : PA X [] (RV T RX W (evs G cl .nil)) := impA pa_nil fun z H Q ⟨P, F, σ, rel, q⟩ => q F H [] (Same.refl _) (.nil rel)
theorem RV.tail {m : Fr → Res (List O)} {f : List O → List O} {z : L2.St} {H : Hp} {Q Q' : List V → Hp → Prop} {P P' F : Hp} {σ : Fr} (rel : Rel T P' F H σ z)
    (h : PostA T RX W P z F (EvR T P z) Q ((m σ).map f)) (hx : ∀ F2 H2 σ2, Same F F2 → Rel T P' F2 H2 σ2 z → Rel T P F2 H2 σ2 z)
    (k : ∀ F2 H2 σ2 p vs, Same F F2 → EvR T P' z F2 H2 σ2 p vs → (∀ vs', EvR T P z F2 H2 σ2 (f p) vs' → Q vs' H2) → Q' vs H2) : RV T RX W m z H Q' := by
  refine ⟨P', F, σ, rel, ?_⟩
  revert h
  generalize m σ = r
  intro h
  cases r with
  | ok p σ1 => exact fun F2 H2 vs s a => k F2 H2 σ1 p vs s a fun vs' a' => h F2 H2 vs' s a'
  | exc x σ1 => exact fun F2 H2 c d s r rx => h F2 H2 c d s (hx F2 H2 σ1 s r) rx
  | bad => exact h
theorem pv_cons {e : Expr} {es : List Expr} {ee : E} {er : Es} (ha : SE T RX W G cl X e ee) (hr : PA X es (RV T RX W (evs G cl er))) (hs : isStar e = false) : PA X (e :: es) (RV T RX W (evs G cl (.cons false ee er))) := by
  refine impA (pa_cons ha.v hr (star_of hs)) fun z H Q ⟨P, F, σ, rel, q⟩ => ?_
  have q : PostA T RX W P z F (EvR T P z) Q ((ev G cl .val ee σ).bind fun v σ => opt (asO v) fun o => (evs G cl er σ).map fun os => o :: os) := q
  refine ⟨P, F, σ, rel, ?_⟩
  revert q
  generalize ev G cl .val ee σ = r
  intro q
  cases r with
  | exc x σ1 => exact q
  | bad => exact q
  | ok v σ1 =>
    intro F1 H1 u s rv
    have q : PostA T RX W P z F (EvR T P z) Q (opt (asO v) fun o => (evs G cl er σ1).map fun os => o :: os) := q
    cases eo : asO v with
    | none => rw [eo] at q; exact q.elim
    | some o =>
      rw [eo] at q
      obtain ⟨B, ro, oB, rel1⟩ := rv.asO eo
      exact RV.tail rel1 (PostA.later s q) (fun _ _ _ _ r => r.weak oB.nP) fun F2 H2 σ2 os us s2 a q2 => q2 _ (EvR.cons ro oB s2 a)
theorem RV.bind {m : Fr → Res (List O)} {f : List O → Fr → Res Val} {z : L2.St} {H : Hp} {Q : VK} {P F : Hp} {σ : Fr} (rel : Rel T P F H σ z) (h : Post T RX W P z F Q ((m σ).bind f)) :
    RV T RX W m z H fun vs H1 => ∃ F1 σ1 p, Same F F1 ∧ EvR T P z F1 H1 σ1 p vs ∧ Post T RX W P z F1 Q (f p σ1) := by
  refine ⟨P, F, σ, rel, ?_⟩
  revert h
  generalize m σ = r
  intro h
  cases r with
  | ok v σ1 => exact fun F1 H1 u s k => ⟨F1, σ1, v, s, k, Post.later s h⟩
  | exc x σ1 => exact h
  | bad => exact h
theorem same_upd {H : Hp} {p : Addr} {o : HO} (h : H p = none) : Same H (upd H p o) := fun a q e => by
  rw [upd_ne (fun k => by rw [k, h] at e; cases e)]
  exact e
theorem upd_same2 {F H : Hp} {p : Addr} {o : HO} (h : Same F H) : Same (upd F p o) (upd H p o) := fun a q e => by
  by_cases k : a = p
  · subst k
    rw [upd_same] at e ⊢
    exact e
  · rw [upd_ne k] at e ⊢
    exact h a q e
theorem Own.newF {P F H : Hp} {A : List Addr} {p : Addr} {o : HO} (ow : Own P F H A) (th : ∀ a ∈ A, ∃ q, H a = some q) (np : H p = none) : Own P (upd F p o) (upd H p o) A := by
  have nA : p ∉ A := fun m => by obtain ⟨q, e⟩ := th p m; rw [np] at e; cases e
  refine ⟨ow.nd, ow.nP, fun a m => ?_, ow.pH.trans (same_upd np), upd_same2 ow.fH, ow.pF.updF (by cases e : P p with | none => rfl | some q => have := ow.pH p q e; rw [np] at this; cases this)⟩
  · rw [upd_ne (fun k => nA (by rw [← k]; exact m))]
    exact ow.nF a m
theorem fnone {F H : Hp} {p : Addr} (h : Same F H) (n : H p = none) : F p = none := by
  cases e : F p with
  | none => rfl
  | some q => have := h p q e; rw [n] at this; cases this
theorem Rel.newF {P F H : Hp} {σ : Fr} {z : L2.St} {p : Addr} {o : HO} (h : Rel T P F H σ z) (np : H p = none) : Same F (upd F p o) ∧ Rel T P (upd F p o) (upd H p o) σ z := by
  obtain ⟨A, k⟩ := h
  have sf : Same F (upd F p o) := same_upd (fnone k.fH np)
  exact ⟨sf, (k.own.newF k.s.there np).rel (k.s.mono sf fun a _ q e => same_upd np a q e)⟩
theorem Own.newO {P F H : Hp} {A : List Addr} {p : Addr} {o : HO} (ow : Own P F H A) (th : ∀ a ∈ A, ∃ q, H a = some q) (np : H p = none) : Own P F (upd H p o) (p :: A) := by
  have nA : p ∉ A := fun m => by obtain ⟨q, e⟩ := th p m; rw [np] at e; cases e
  refine ⟨fun a => ?_, fun a m => ?_, fun a m => ?_, ow.pH.trans (same_upd np), ow.fH.trans (same_upd np), ow.pF⟩
  · rw [List.count_cons]
    have := ow.nd a
    by_cases k : p = a
    · subst k
      have : A.count p = 0 := List.count_eq_zero.mpr nA
      rw [this]
      split <;> omega
    · rw [if_neg (by simpa using k)]
      omega
  · rcases List.mem_cons.mp m with e | m
    · rw [e]; exact fnone ow.pH np
    · exact ow.nP a m
  · rcases List.mem_cons.mp m with e | m
    · rw [e]; exact fnone ow.fH np
    · exact ow.nF a m
theorem EvR.lst {P F H : Hp} {σ : Fr} {z : L2.St} {os : List O} {us : List V} {p : Addr} (h : EvR T P z F H σ os us) (np : H p = none) : RelV T P F (upd H p (.lst us)) σ z (.o (.lst os)) (.ref p) := by
  obtain ⟨A, B, h1, h2, ow⟩ := h
  have th : ∀ a ∈ B ++ A, ∃ q, H a = some q := fun a m => (List.mem_append.mp m).elim (h2.there a) (h1.there a)
  have o2 := ow.newO (o := .lst us) th np
  exact relV_of (o := .lst os) (C := p :: B) (h1.mono (Same.refl _) fun a _ q e => same_upd np a q e) rfl ⟨p, us, B, rfl, rfl, upd_same, ROs.mono (Same.refl _) (fun a _ q e => same_upd np a q e) h2⟩ o2
theorem EvR.lstV {P F H : Hp} {σ : Fr} {z : L2.St} {os : List O} {us : List V} {p : Addr} {own : Bool} (h : EvR T P z F H σ os us) (np : H p = none) : ∃ F', Same F F' ∧ RelV T P F' (upd H p (.lst us)) σ z (lstV own os) (.ref p) := by
  cases own with
  | true => exact ⟨F, Same.refl _, h.lst np⟩
  | false =>
    obtain ⟨F', s, rel, rs⟩ := h.frz
    obtain ⟨s2, rel2⟩ := rel.newF (o := .lst us) np
    exact ⟨_, s.trans s2, rel2, p, us, rfl, upd_same, rs.mono s2⟩
theorem ROs_frz_len : ∀ {os : List O}, (O.frzL os).length = os.length
  | [] => rfl
  | o :: os => by show (o.frz :: O.frzL os).length = _; rw [List.length_cons, List.length_cons, ROs_frz_len]
theorem EvR.len {P F H : Hp} {σ : Fr} {z : L2.St} {os : List O} {us : List V} (h : EvR T P z F H σ os us) : os.length = us.length := by
  obtain ⟨A, B, h1, h2, ow⟩ := h
  exact h2.len
theorem se_tup {es : List Expr} {as : Es} {x1 : Nat} {pos : Pos} (ha : PA X es (RV T RX W (evs G cl as))) : SE T RX W G cl X (.Tuple es x1 pos) (.tup as) :=
  SE.of (fun _ => rfl) (fun _ _ => rfl) (impE (pe_tup ha) fun z H Q ⟨P, F, σ, rel, q⟩ => by
    refine (fun (h : RV T RX W (evs G cl as) z H fun us H1 => ∃ F1 σ1 os, Same F F1 ∧ EvR T P z F1 H1 σ1 os us ∧ Post T RX W P z F1 Q (if os.length ≤ lineN then .ok (.d (.tup (O.frzL os))) σ1 else .bad)) => ?_) (RV.bind rel q)
    obtain ⟨P', F', σ', rel', q'⟩ := h
    refine ⟨P', F', σ', rel', ?_⟩
    revert q'
    generalize evs G cl as σ' = r
    intro q'
    cases r with
    | exc x σ1 => exact q'
    | bad => exact q'
    | ok os σ1 =>
      intro F2 H2 us s2 ev2
      obtain ⟨F1, σ1, os, s, ev1, q1⟩ := q' F2 H2 us s2 ev2
      by_cases c : os.length ≤ lineN
      · rw [if_pos c] at q1
        refine ⟨by rw [← ev1.len]; exact c, fun p np => ?_⟩
        obtain ⟨F', s, rel, rs⟩ := ev1.frz
        obtain ⟨s2, rel2⟩ := rel.newF (o := .tup us) np
        exact q1 _ _ (.ref p) (s.trans s2) ⟨rel2, p, us, rfl, upd_same, rs.mono s2⟩
      · rw [if_neg c] at q1
        exact q1.elim)
theorem RV.mono {m : Fr → Res (List O)} {z : L2.St} {H : Hp} {Q Q' : List V → Hp → Prop} (h : RV T RX W m z H Q) (k : ∀ u H, Q u H → Q' u H) : RV T RX W m z H Q' := by
  obtain ⟨P, F, σ, rel, q⟩ := h
  refine ⟨P, F, σ, rel, ?_⟩
  revert q
  generalize m σ = r
  intro q
  cases r with
  | ok v σ1 => exact fun F H u s k' => k u H (q F H u s k')
  | exc x σ1 => exact q
  | bad => exact q
theorem se_lst {es : List Expr} {as : Es} {own : Bool} {pos : Pos} (ha : PA X es (RV T RX W (evs G cl as))) : SE T RX W G cl X (.List es pos) (.lst own as) :=
  SE.of (fun _ => rfl) (fun _ _ => rfl) (impE (pe_lst ha) fun z H Q ⟨P, F, σ, rel, q⟩ => by
    refine RV.mono (RV.bind rel q) fun us H1 ⟨F1, σ1, os, s, ev1, q1⟩ => ?_
    by_cases c : os.length ≤ lineN
    · rw [if_pos c] at q1
      refine ⟨by rw [← ev1.len]; exact c, fun p np => ?_⟩
      obtain ⟨F', s, rv⟩ := ev1.lstV (own := own) np
      exact q1 _ _ (.ref p) s rv
    · rw [if_neg c] at q1
      exact q1.elim)
def BinOk (X : Cx) (T : Tb) (RX : XR) (W : WX) (G : Prog) (cl : Call) (op : Bop) (o : Operator) : Prop :=
  ∀ (pins : List (Addr × Obj)) (s : Shared) (P F H : Hp) (σ : Fr) (z : L2.St) (x y : D) (u1 u2 : V) (v1 v2 : Value) (Q : VK), Inv X pins z H s → L2.RelV u1 v1 → L2.RelV u2 v2 → Rel T P F H σ z → RD T F x u1 → RD T F y u2 →
    Post T RX W P z F Q (binV G cl op x y σ) → wpAny (model X.prog X.w) X.A (binaryOp o v1 v2) (EP X pins z Q) X.xe s
theorem se_bin {a b : Expr} {ea eb : E} {op : Bop} {o : Operator} {pos : Pos} (ok : BinOk X T RX W G cl op o) (ha : SE T RX W G cl X a ea) (hb : SE T RX W G cl X b eb) : SE T RX W G cl X (.BinOp a o b pos) (.bin op ea eb) :=
  SE.of (fun _ => rfl) (fun _ _ => rfl) ⟨fun pins s z H Q I ⟨P, F, σ, rel, q⟩ =>
    wpAny_BinOp (binT ha.v hb.v I (R.two rel q) fun v1 v2 s2 u1 u2 H2 I2 r1 r2 ⟨F2, σ2, x, y, rel2, rx, ry, q2⟩ => ok pins s2 P F2 H2 σ2 z x y u1 u2 v1 v2 Q I2 r1 r2 rel2 rx ry q2)⟩
def OwnBin (X : Cx) (T : Tb) (RX : XR) (G : Prog) (cl : Call) (k : Nat) (fA : Nat → Addr) (m : Nat) (nm : String) : Prop :=
  ∀ c f, c < T.nc → G.meth c m = some f → PySem.W.findIn X.K (.ref (T.cA c)) (PySem.dunder nm) = some (some (.ref (fA f))) ∧ PySem.W.isFn X.K (.ref (fA f)) = true ∧ PySem.W.selfFirst X.K (T.cA c) = true ∧ FnD X T RX cl k (fA f) f ∧ PySem.W.findIn X.K (.ref (T.cA c)) (dunderR nm) = some none ∧ ∀ c', c' < T.nc → PySem.W.notFirst X.K (T.cA c) (.ref (T.cA c')) = true
theorem cmpBack_of {pins : List (Addr × Obj)} {z : L2.St} {Q : VK} {u : Value} {s : Shared} (h : EP X pins z Q u s) : PySem.W.CmpBack (EP X pins z Q) u s := by
  obtain ⟨v, H, I, r, q⟩ := h
  have h : EP X pins z Q u s := ⟨v, H, I, r, q⟩
  cases u <;> first | exact h | skip
  cases v <;> first | (obtain ⟨_, r⟩ := r; exact absurd r (by intro h; cases h)) | exact absurd (show Value.notImplemented = _ from r) (by intro h; cases h)
theorem inst_at {pins : List (Addr × Obj)} {z : L2.St} {H : Hp} {s : Shared} {a C dx : Addr} {gs : List (PySem.Str × V)} (I : Inv X pins z H s) (e : H a = some (.ins C dx gs)) : ∃ ox od, PySem.W.InstAt s.heap a ox C od := by
  obtain ⟨mA, O, _⟩ := ins_get I.hok e
  obtain ⟨od, J, _⟩ := O.look
  exact ⟨_, _, J⟩
theorem arg_ds {P F H : Hp} {σ : Fr} {z : L2.St} (rel : Rel T P F H σ z) {xs : List D} {us : List V} (r : RDs T F xs us) : ArgR T P z F H σ (xs.map owned, []) us := by
  have := (ArgR.nil rel).owns r
  rw [List.append_nil us] at this
  simpa using this
theorem own_bin {k : Nat} {fA : Nat → Addr} {m : Nat} {nm : String} {o : Operator} {pins : List (Addr × Obj)} {s : Shared} {P F H : Hp} {σ : Fr} {z : L2.St} {c c' : Nat} {fs fs' : List (Nat × D)} {u1 u2 : V} {v1 v2 : Value} {Q : VK} (hr : Room k X.A) (tk : Takes X W)
    (hO : OwnBin X T RX G cl k fA m nm) (ho : o.info.2 = nm) (I : Inv X pins z H s) (r1 : L2.RelV u1 v1) (r2 : L2.RelV u2 v2) (rel : Rel T P F H σ z) (rx : RD T F (.ins c fs) u1) (ry : RD T F (.ins c' fs') u2) (hcc : c = c' ∨ ∃ g, G.meth c' m = some g)
    (q : Post T RX W P z F Q (ownCall G cl (.ins c fs) m [.ins c' fs'] σ)) : wpAny (model X.prog X.w) X.A (binaryOp o v1 v2) (EP X pins z Q) X.xe s := by
  obtain ⟨f, ef, q⟩ := Post.opt (show Post T RX W P z F Q (opt (G.meth c m) fun f => after (cl f (owned (.ins c fs) :: [D.ins c' fs'].map owned)) [] σ) from q)
  obtain ⟨a, dx, gs, hc, e1, ea, rf⟩ := id rx
  obtain ⟨b, dy, gs', hc', e2, eb, rf'⟩ := id ry
  subst e1 e2
  obtain rfl : v1 = Value.ref a := r1
  obtain rfl : v2 = Value.ref b := r2
  obtain ⟨A, k1⟩ := id rel
  obtain ⟨h1, h2, h3, FD, h4, h5⟩ := hO c f hc ef
  obtain ⟨ox, od, J⟩ := inst_at I (k1.fH _ _ ea)
  obtain ⟨ox', od', J'⟩ := inst_at I (k1.fH _ _ eb)
  obtain ⟨mm, hF⟩ := I.fr
  have body := wpAny_mono (wpAny_call (run_z FD hr tk I (us := [.ref a, .ref b]) (vs := [.ref a, .ref b]) (.cons rfl (.cons rfl .nil)) (call_ok (arg_ds rel (xs := [.ins c fs, .ins c' fs']) ⟨_, _, rfl, rx, _, _, rfl, ry, rfl⟩) q))) (fun u s' h => cmpBack_of h) fun _ _ h => h
  by_cases same : T.cA c = T.cA c'
  · exact PySem.W.binop_K hF I.ok.mod.kin J (by rw [same]; exact J'.type) h3 (by rw [ho]; exact h1) h2 body
  · rcases hcc with e | ⟨g, eg⟩
    · exact absurd (by rw [e]) same
    · obtain ⟨g1, g2, g3, _, g4, _⟩ := hO c' g hc' eg
      have n := h5 c' hc'
      unfold PySem.W.notFirst at n
      have n : PySem.W.subIn X.K (.ref (T.cA c')) (.ref (T.cA c)) = some false := by
        rcases Bool.or_eq_true_iff.mp n with z | z
        · exact absurd (Value.ref.inj (beq_iff_eq.mp z)).symm same
        · exact beq_iff_eq.mp z
      exact Tfx.binop_X hF I.ok.mod.kin J J'.type same h3 g3 (by rw [ho]; exact h1) h2 (by rw [ho]; exact h4) (by rw [ho]; exact g1) (by rw [ho]; exact g4) n body
theorem RDs.append {F : Hp} : ∀ {xs ys : List D} {us vs : List V}, RDs T F xs us → RDs T F ys vs → RDs T F (xs ++ ys) (us ++ vs)
  | [], _, _, _, r, r' => by have e : _ = [] := r; subst e; exact r'
  | x :: xs, ys, _, _, r, r' => by
    obtain ⟨v, s, e, r1, r2⟩ := r
    subst e
    exact ⟨v, s ++ _, rfl, r1, RDs.append r2 r'⟩
theorem RDs.rep {F : Hp} {xs : List D} {us : List V} (r : RDs T F xs us) : ∀ n : Nat, RDs T F (List.replicate n xs).flatten (List.replicate n us).flatten
  | 0 => rfl
  | n + 1 => by
    rw [List.replicate_succ, List.replicate_succ, List.flatten_cons, List.flatten_cons]
    exact r.append (RDs.rep r n)
theorem post_int {P F H : Hp} {σ : Fr} {z : L2.St} {Q : VK} {i : Int} (rel : Rel T P F H σ z) (q : Post T RX W P z F Q (.ok (.d (.int i)) σ)) : Q (.int i) H := q F H _ (Same.refl _) ⟨rel, rfl⟩
theorem post_bl {P F H : Hp} {σ : Fr} {z : L2.St} {Q : VK} {i : Bool} (rel : Rel T P F H σ z) (q : Post T RX W P z F Q (.ok (bl i) σ)) : Q (.bl i) H := q F H _ (Same.refl _) ⟨rel, rfl⟩
theorem post_str {P F H : Hp} {σ : Fr} {z : L2.St} {Q : VK} {i : PySem.Str} (rel : Rel T P F H σ z) (q : Post T RX W P z F Q (.ok (.d (.str i)) σ)) : Q (.str i) H := q F H _ (Same.refl _) ⟨rel, rfl⟩
theorem post_lst {P F H : Hp} {σ : Fr} {z : L2.St} {Q : VK} {xs : List D} {us : List V} {p : Addr} (rel : Rel T P F H σ z) (r : RDs T F xs us) (np : H p = none) (q : Post T RX W P z F Q (.ok (.d (.lst xs)) σ)) : Q (.ref p) (upd H p (.lst us)) := by
  obtain ⟨s2, rel2⟩ := rel.newF (o := .lst us) np
  exact q _ _ _ s2 ⟨rel2, p, us, rfl, upd_same, r.mono s2⟩
theorem post_tup {P F H : Hp} {σ : Fr} {z : L2.St} {Q : VK} {xs : List D} {us : List V} {p : Addr} (rel : Rel T P F H σ z) (r : RDs T F xs us) (np : H p = none) (q : Post T RX W P z F Q (.ok (.d (.tup xs)) σ)) : Q (.ref p) (upd H p (.tup us)) := by
  obtain ⟨s2, rel2⟩ := rel.newF (o := .tup us) np
  exact q _ _ _ s2 ⟨rel2, p, us, rfl, upd_same, r.mono s2⟩
theorem bin_d {P F : Hp} {z : L2.St} {Q : VK} {op : Bop} {x y : D} {σ : Fr} (hx : ∀ c fs, x ≠ .ins c fs) (q : Post T RX W P z F Q (binV G cl op x y σ)) : ∃ d, binD op x y = some d ∧ Post T RX W P z F Q (.ok (.d d) σ) := by
  cases x with
  | ins c fs => exact absurd rfl (hx c fs)
  | _ => exact Post.opt (show Post T RX W P z F Q (opt (binD op _ y) fun z => .ok (.d z) σ) from q)
theorem binD_int {op : Bop} {i : Int} {y d : D} (h : binD op (.int i) y = some d) : ∃ j k, y = .int j ∧ binI op i j = some k ∧ d = .int k := by
  cases y with
  | int j =>
    have h : (binI op i j).map D.int = some d := by cases op <;> exact h
    obtain ⟨k, e, e2⟩ := Option.map_eq_some_iff.mp h
    exact ⟨j, k, rfl, e, e2.symm⟩
  | _ => cases op <;> cases h
theorem bin_intR {op : Bop} {o : Operator} {C : Int → Int → Prop} {g : Int → Int → Int} (ho : OpR X (binaryOp o) (rI C fun i j => .int (g i j))) (hI : ∀ i j k, binI op i j = some k → C i j ∧ k = g i j) {pins : List (Addr × Obj)} {s : Shared} {P F H : Hp} {σ : Fr} {z : L2.St} {i : Int} {y : D} {u1 u2 : V} {v1 v2 : Value} {Q : VK}
    (I : Inv X pins z H s) (r1 : L2.RelV u1 v1) (r2 : L2.RelV u2 v2) (rel : Rel T P F H σ z) (rx : RD T F (.int i) u1) (ry : RD T F y u2) (q : Post T RX W P z F Q (binV G cl op (.int i) y σ)) : wpAny (model X.prog X.w) X.A (binaryOp o v1 v2) (EP X pins z Q) X.xe s := by
  obtain ⟨d, ed, q⟩ := bin_d (by intros; intro h; cases h) q
  obtain ⟨j, k, rfl, eI, rfl⟩ := binD_int ed
  obtain ⟨hC, rfl⟩ := hI i j k eI
  exact ho pins s z H u1 u2 v1 v2 Q I r1 r2 ⟨i, j, rx, ry, hC, post_int rel q⟩
theorem rI_of {f : Value → Value → Sem Value} {g : Int → Int → V} (h : OpR X f (rI0 g)) : OpR X f (rI (fun _ _ => True) g) := fun pins s σ H x y v u Q I r1 r2 ⟨i, j, e1, e2, _, q⟩ => h pins s σ H x y v u Q I r1 r2 ⟨i, j, e1, e2, q⟩
theorem own_q {P F : Hp} {z : L2.St} {Q : VK} {op : Bop} {m c : Nat} {fs : List (Nat × D)} {y : D} {σ : Fr} (hm : opm op = some m) (q : Post T RX W P z F Q (binV G cl op (.ins c fs) y σ)) :
    ∃ c' fs', y = .ins c' fs' ∧ (c = c' ∨ ∃ g, G.meth c' m = some g) ∧ Post T RX W P z F Q (ownCall G cl (.ins c fs) m [y] σ) := by
  cases y with
  | ins c' fs' =>
    have q : Post T RX W P z F Q (if c = c' then opt (opm op) fun m => ownCall G cl (.ins c fs) m [.ins c' fs'] σ else opt (opm op) fun m => opt (G.meth c' m) fun _ => ownCall G cl (.ins c fs) m [.ins c' fs'] σ) := q
    by_cases h : c = c'
    · rw [if_pos h, hm] at q
      exact ⟨c', fs', rfl, .inl h, q⟩
    · rw [if_neg h, hm] at q
      obtain ⟨g, eg, q⟩ := Post.opt (show Post T RX W P z F Q (opt (G.meth c' m) fun _ => ownCall G cl (.ins c fs) m [.ins c' fs'] σ) from q)
      exact ⟨c', fs', rfl, .inr ⟨g, eg⟩, q⟩
  | _ => exact (show False from q).elim
theorem bo_sub {k : Nat} {fA : Nat → Addr} (hr : Room k X.A) (tk : Takes X W) (hO : OwnBin X T RX G cl k fA m_sub "sub") : BinOk X T RX W G cl .sub .Sub := by
  intro pins s P F H σ z x y u1 u2 v1 v2 Q I r1 r2 rel rx ry q
  cases x with
  | int i => exact bin_intR (op := .sub) (g := fun i j => i - j) (rI_of op_sub) (fun i j k e => ⟨trivial, (Option.some.inj (show some (i - j) = some k from e)).symm⟩) I r1 r2 rel rx ry q
  | ins c fs =>
    obtain ⟨c', fs', rfl, hc, q⟩ := own_q rfl q
    exact own_bin hr tk hO rfl I r1 r2 rel rx ry hc q
  | _ => obtain ⟨d, ed, _⟩ := bin_d (by intros; intro h; cases h) q; cases y <;> cases ed
theorem ite_some {α : Type} {c : Prop} [Decidable c] {a b : α} (h : (if c then some a else none) = some b) : c ∧ a = b := by
  by_cases k : c
  · rw [if_pos k] at h; exact ⟨k, Option.some.inj h⟩
  · rw [if_neg k] at h; cases h
theorem op_fdivZ : OpR X (binaryOp .FloorDiv) (rI (fun _ j => j ≠ 0 ∧ j.natAbs.log2 < 9000) fun i j => .int (i.fdiv j)) := opI fun _ _ _ _ _ _ _ hc q => floordiv_int hc.1 q (.inl (PyProof.noPylong_of_log2 hc.2))
theorem bo_fdiv : BinOk X T RX W G cl .fdiv .FloorDiv := by
  intro pins s P F H σ z x y u1 u2 v1 v2 Q I r1 r2 rel rx ry q
  cases x with
  | int i => exact bin_intR (op := .fdiv) (g := fun i j => i.fdiv j) op_fdivZ (fun i j k e => have e := ite_some (show (if j ≠ 0 ∧ j.natAbs.log2 < 9000 then some (i.fdiv j) else none) = some k from e); ⟨e.1, e.2.symm⟩) I r1 r2 rel rx ry q
  | ins c fs => cases y <;> first | exact (show False from q).elim | skip
                rename_i c' fs'
                have q : Post T RX W P z F Q (if c = c' then .bad else .bad) := q
                split at q <;> exact q.elim
  | _ => obtain ⟨d, ed, _⟩ := bin_d (by intros; intro h; cases h) q; cases y <;> cases ed
theorem bo_mod : BinOk X T RX W G cl .mod .Mod := by
  intro pins s P F H σ z x y u1 u2 v1 v2 Q I r1 r2 rel rx ry q
  cases x with
  | int i => exact bin_intR (op := .mod) (g := fun i j => i % j) op_mod (fun i j k e => have e := ite_some (show (if 0 < j then some (i % j) else none) = some k from e); ⟨e.1, e.2.symm⟩) I r1 r2 rel rx ry q
  | ins c fs => cases y <;> first | exact (show False from q).elim | skip
                rename_i c' fs'
                have q : Post T RX W P z F Q (if c = c' then .bad else .bad) := q
                split at q <;> exact q.elim
  | _ => obtain ⟨d, ed, _⟩ := bin_d (by intros; intro h; cases h) q; cases y <;> cases ed
theorem bo_pow : BinOk X T RX W G cl .pow .Pow := by
  intro pins s P F H σ z x y u1 u2 v1 v2 Q I r1 r2 rel rx ry q
  cases x with
  | int i => exact bin_intR (op := .pow) (g := fun i j => i ^ j.toNat) op_pow (fun i j k e => have e := ite_some (show (if 0 ≤ j ∧ j ≤ 1000000 ∧ i.natAbs < 18446744073709551616 then some (i ^ j.toNat) else none) = some k from e); ⟨e.1, e.2.symm⟩) I r1 r2 rel rx ry q
  | ins c fs => cases y <;> first | exact (show False from q).elim | skip
                rename_i c' fs'
                have q : Post T RX W P z F Q (if c = c' then .bad else .bad) := q
                split at q <;> exact q.elim
  | _ => obtain ⟨d, ed, _⟩ := bin_d (by intros; intro h; cases h) q; cases y <;> cases ed
theorem bo_add {k : Nat} {fA : Nat → Addr} (hr : Room k X.A) (tk : Takes X W) (hO : OwnBin X T RX G cl k fA m_add "add") : BinOk X T RX W G cl .add .Add := by
  intro pins s P F H σ z x y u1 u2 v1 v2 Q I r1 r2 rel rx ry q
  obtain ⟨A, k1⟩ := id rel
  cases x with
  | int i => exact bin_intR (op := .add) (g := fun i j => i + j) (rI_of op_add) (fun i j k e => ⟨trivial, (Option.some.inj (show some (i + j) = some k from e)).symm⟩) I r1 r2 rel rx ry q
  | ins c fs =>
    obtain ⟨c', fs', rfl, hc, q⟩ := own_q rfl q
    exact own_bin hr tk hO rfl I r1 r2 rel rx ry hc q
  | lst xs =>
    obtain ⟨d, ed, q⟩ := bin_d (by intros; intro h; cases h) q
    cases y with
    | lst ys =>
      obtain ⟨hz, ed⟩ := ite_some (show (if xs.length + ys.length ≤ lineN then some (D.lst (xs ++ ys)) else none) = some d from ed)
      subst ed
      obtain ⟨a, us, e1, ea, ra⟩ := id rx
      obtain ⟨b, vs, e2, eb, rb⟩ := id ry
      subst e1 e2
      rw [ra.len, rb.len] at hz
      exact op_cat pins s z H _ _ v1 v2 Q I r1 r2 ⟨a, b, us, vs, rfl, rfl, k1.fH _ _ ea, k1.fH _ _ eb, hz, fun p np => post_lst rel (ra.append rb) np q⟩
    | _ => cases ed
  | tup xs =>
    obtain ⟨d, ed, q⟩ := bin_d (by intros; intro h; cases h) q
    cases y with
    | tup ys =>
      obtain ⟨hz, ed⟩ := ite_some (show (if xs.length + ys.length ≤ lineN then some (D.tup (xs ++ ys)) else none) = some d from ed)
      subst ed
      obtain ⟨a, us, e1, ea, ra⟩ := id rx
      obtain ⟨b, vs, e2, eb, rb⟩ := id ry
      subst e1 e2
      rw [ra.len, rb.len] at hz
      refine op_catA pins s z H _ _ v1 v2 Q I r1 r2 ⟨a, b, us, vs, rfl, rfl, .of (k1.fH _ _ ea), .of (k1.fH _ _ eb), hz, fun e => ?_, fun _ e => ?_, fun _ _ p np => post_tup rel (ra.append rb) np q⟩
      · subst e
        refine q F H _ (Same.refl _) ⟨rel, b, vs, rfl, eb, ?_⟩
        have : xs = [] := List.length_eq_zero_iff.mp ra.len
        rw [this]
        exact rb
      · subst e
        refine q F H _ (Same.refl _) ⟨rel, a, us, rfl, ea, ?_⟩
        have : ys = [] := List.length_eq_zero_iff.mp rb.len
        rw [this, List.append_nil]
        exact ra
    | _ => cases ed
  | str a =>
    obtain ⟨d, ed, q⟩ := bin_d (by intros; intro h; cases h) q
    cases y with
    | str b =>
      obtain ⟨hz, ed⟩ := ite_some (show (if a.length + b.length ≤ lineN then some (D.str (a ++ b)) else none) = some d from ed)
      subst ed
      exact op_add_str pins s z H u1 u2 v1 v2 Q I r1 r2 ⟨a, b, rx, ry, hz, post_str rel q⟩
    | _ => cases ed
  | _ => obtain ⟨d, ed, _⟩ := bin_d (by intros; intro h; cases h) q; cases y <;> cases ed
theorem mulOk_c {i j : Int} (h : mulOk i j = true) : CMul i j ∨ CMulW i j := by
  unfold mulOk at h
  simp only [Bool.or_eq_true, decide_eq_true_eq] at h
  rcases h with (h | h) | h
  · exact .inl (.inl (by omega))
  · exact .inl (.inr (by omega))
  · exact .inr h
theorem bo_mul {k : Nat} {fA : Nat → Addr} (hr : Room k X.A) (tk : Takes X W) (hO : OwnBin X T RX G cl k fA m_mul "mul") : BinOk X T RX W G cl .mul .Mult := by
  intro pins s P F H σ z x y u1 u2 v1 v2 Q I r1 r2 rel rx ry q
  obtain ⟨A, k1⟩ := id rel
  cases x with
  | int i =>
    obtain ⟨d, ed, q⟩ := bin_d (by intros; intro h; cases h) q
    obtain ⟨j, k, rfl, eI, rfl⟩ := binD_int ed
    obtain ⟨hm, ek⟩ := ite_some (show (if mulOk i j = true then some (i * j) else none) = some k from eI)
    subst ek
    rcases mulOk_c hm with h | h
    · exact op_mul pins s z H u1 u2 v1 v2 Q I r1 r2 ⟨i, j, rx, ry, h, post_int rel q⟩
    · exact op_mulW pins s z H u1 u2 v1 v2 Q I r1 r2 ⟨i, j, rx, ry, h, post_int rel q⟩
  | ins c fs =>
    obtain ⟨c', fs', rfl, hc, q⟩ := own_q rfl q
    exact own_bin hr tk hO rfl I r1 r2 rel rx ry hc q
  | lst xs =>
    obtain ⟨d, ed, q⟩ := bin_d (by intros; intro h; cases h) q
    cases y with
    | int n =>
      obtain ⟨hz, ed⟩ := ite_some (show (if n < 9223372036854775808 ∧ -9223372036854775808 ≤ n ∧ xs.length * n.toNat ≤ lineN then some (D.lst ((List.replicate n.toNat xs).flatten)) else none) = some d from ed)
      subst ed
      obtain ⟨a, us, e1, ea, ra⟩ := id rx
      have e2 : u2 = .int n := ry
      subst e1 e2
      rw [ra.len] at hz
      exact op_rep pins s z H _ _ v1 v2 Q I r1 r2 ⟨a, n, us, rfl, rfl, k1.fH _ _ ea, by omega, by omega, hz.2.2, fun p np => post_lst rel (ra.rep _) np q⟩
    | _ => cases ed
  | _ => obtain ⟨d, ed, _⟩ := bin_d (by intros; intro h; cases h) q; cases y <;> cases ed
def OwnUn (X : Cx) (T : Tb) (RX : XR) (G : Prog) (cl : Call) (k : Nat) (fA : Nat → Addr) (m : Nat) (nm : PySem.Str) : Prop :=
  ∀ c f, c < T.nc → G.meth c m = some f → PySem.W.findIn X.K (.ref (T.cA c)) nm = some (some (.ref (fA f))) ∧ PySem.W.isFn X.K (.ref (fA f)) = true ∧ FnD X T RX cl k (fA f) f
theorem se_neg {k : Nat} {fA : Nat → Addr} {a : Expr} {ea : E} {pos : Pos} (hr : Room k X.A) (tk : Takes X W) (hO : OwnUn X T RX G cl k fA m_neg "__neg__") (ha : SE T RX W G cl X a ea) : SE T RX W G cl X (.UnaryOp .USub a pos) (.neg ea) :=
  SE.of (fun _ => rfl) (fun _ _ => rfl) ⟨fun pins s z H Q I ⟨P, F, σ, rel, q⟩ => by
    refine UnaryOp_ (thn (ha.v.run pins s z H _ I (R.one rel q)) fun v s1 ⟨u, H1, I1, ru, F1, σ1, x, rel1, rx, q1⟩ => ?_)
    obtain ⟨A, k1⟩ := id rel1
    cases x with
    | int i => exact un_neg pins s1 z H1 u v Q I1 ru ⟨i, rx, post_int rel1 q1⟩
    | ins c fs =>
      obtain ⟨f, ef, q1⟩ := Post.opt (show Post T RX W P z F1 Q (opt (G.meth c m_neg) fun f => after (cl f (owned (.ins c fs) :: [].map owned)) [] σ1) from q1)
      obtain ⟨a, dx, gs, hc, e1, ea, rf⟩ := id rx
      subst e1
      obtain rfl : v = Value.ref a := ru
      obtain ⟨h1, h2, FD⟩ := hO c f hc ef
      obtain ⟨ox, od, J⟩ := inst_at I1 (k1.fH _ _ ea)
      obtain ⟨mm, hF⟩ := I1.fr
      exact PySem.W.ksp_neg hF I1.ok.mod.kin J h1 h2 (wpAny_call (run_z FD hr tk I1 (us := [.ref a]) (vs := [.ref a]) (.cons rfl .nil) (call_ok (arg_ds rel1 (xs := [.ins c fs]) ⟨_, _, rfl, rx, rfl⟩) q1)))
    | _ => exact (show False from q1).elim⟩
end
end Tf
end
section
set_option Elab.async false
set_option linter.all false
set_option maxRecDepth 100000
namespace Tf
open PySem PySem.Spec PyProof.Rows L2
section
variable {T : Tb} {X : Cx}
theorem ints_of {F : Hp} : ∀ {xs : List D} {us : List V} {ns : List Int}, RDs T F xs us → D.ints xs = some ns → us = ns.map V.int
  | [], _, _, r, e => by rw [show _ = [] from r, ← Option.some.inj e]; rfl
  | x :: xs, _, _, r, e => by
    obtain ⟨v, s, eu, r1, r2⟩ := r
    subst eu
    cases x with
    | int i =>
      obtain ⟨ns, en, e⟩ := Option.map_eq_some_iff.mp (show (D.ints xs).map (i :: ·) = some _ from e)
      subst e
      rw [show v = .int i from r1, ints_of r2 en]
      rfl
    | _ => cases e
theorem keys_v (k : List Int) : (k.map (Sum.inl : Int → Key)).map kV = k.map V.int := by
  rw [List.map_map]
  rfl
theorem key_tup {F H : Hp} {ds : List D} {uk : V} {k : List Int} (rd : RD T F (.tup ds) uk) (fH : Same F H) (e : D.ints ds = some k) : ∃ b, uk = .ref b ∧ H b = some (.tup ((k.map (Sum.inl : Int → Key)).map kV)) := by
  obtain ⟨b, vs, e1, e2, rs⟩ := rd
  rw [ints_of rs e] at e2
  rw [keys_v]
  exact ⟨b, e1, fH _ _ e2⟩
def rIxD : R2 := fun x y H Q => ∃ a v, x = .ref a ∧ DGet H a y (some v) ∧ Q v H
theorem ix_dict (hu : X.A.units + 1 < cLine) : IxR X rIxD := by
  intro value slice pins s σ H x y v u Q I rx ry h hs
  obtain ⟨a, z, rfl, g, q⟩ := h
  cases rx
  exact tail_any (dict_typeIs I g) PySem.F.slot_dict_getitem.lookup (d_getItem hu I g ry fun w' s' I' rw' => ⟨z, H, I', rw', q⟩) hs
theorem dky_inj {k l : List Int} (h : k.map (Sum.inl : Int → Key) = l.map Sum.inl) : k = l := List.map_inj_right (fun _ _ e => Sum.inl.inj e) |>.mp h
theorem RDi.get {i : Int} {F : Hp} : ∀ {xs : List (Int × D)} {us : List (Key × V)}, RDi T F xs us → (∀ x, xs.lookup i = some x → ∃ u, valV us (.inl i) = some u ∧ RD T F x u) ∧ (xs.lookup i = none → valV us (.inl i) = none)
  | [], _, r => by
    rw [show _ = [] from r]
    exact ⟨fun x e => by simp at e, fun _ => rfl⟩
  | (k0, x0) :: xs, _, r => by
    obtain ⟨v, s, ev, r1, r2⟩ := r
    subst ev
    by_cases c : k0 = i
    · subst c
      rw [valV_pos rfl]
      have e0 : List.lookup k0 ((k0, x0) :: xs) = some x0 := by simp [List.lookup_cons]
      rw [e0]
      refine ⟨fun x e => ?_, fun e => by cases e⟩
      cases e
      exact ⟨v, rfl, r1⟩
    · have c2 : (i == k0) = false := by simpa using fun q => c (Eq.symm q)
      have e0 : List.lookup i ((k0, x0) :: xs) = List.lookup i xs := by rw [List.lookup_cons, c2]
      rw [e0, valV_neg (fun q => c (Sum.inl.inj q))]
      exact RDi.get r2
theorem RDt.get {i : List Int} {F : Hp} : ∀ {xs : List (List Int × D)} {us : List (List Key × V)}, RDt T F xs us → (∀ x, xs.lookup i = some x → ∃ u, valV us (i.map Sum.inl) = some u ∧ RD T F x u) ∧ (xs.lookup i = none → valV us (i.map Sum.inl) = none)
  | [], _, r => by
    rw [show _ = [] from r]
    exact ⟨fun x e => by simp at e, fun _ => rfl⟩
  | (k0, x0) :: xs, _, r => by
    obtain ⟨v, s, ev, r1, r2⟩ := r
    subst ev
    by_cases c : k0 = i
    · subst c
      rw [valV_pos rfl]
      have e0 : List.lookup k0 ((k0, x0) :: xs) = some x0 := by simp [List.lookup_cons]
      rw [e0]
      refine ⟨fun x e => ?_, fun e => by cases e⟩
      cases e
      exact ⟨v, rfl, r1⟩
    · have c2 : (i == k0) = false := by simpa using fun q => c (Eq.symm q)
      have e0 : List.lookup i ((k0, x0) :: xs) = List.lookup i xs := by rw [List.lookup_cons, c2]
      rw [e0, valV_neg (fun q => c (dky_inj q))]
      exact RDt.get r2
theorem ROi.get {i : Int} {F H : Hp} : ∀ {xs : List (Int × O)} {us : List (Key × V)} {A : List Addr}, ROi T F H xs us A → (∀ x, xs.lookup i = some x → ∃ u B, valV us (.inl i) = some u ∧ RO T F H x u B ∧ ∀ a ∈ B, a ∈ A) ∧ (xs.lookup i = none → valV us (.inl i) = none)
  | [], _, _, r => by
    rw [show _ = [] from r.1]
    exact ⟨fun x e => by simp at e, fun _ => rfl⟩
  | (k0, x0) :: xs, _, _, r => by
    obtain ⟨v, s, A1, A2, ev, eA, r1, r2⟩ := r
    subst ev eA
    by_cases c : k0 = i
    · subst c
      rw [valV_pos rfl]
      have e0 : List.lookup k0 ((k0, x0) :: xs) = some x0 := by simp [List.lookup_cons]
      rw [e0]
      refine ⟨fun x e => ?_, fun e => by cases e⟩
      cases e
      exact ⟨v, A1, rfl, r1, fun a m => List.mem_append_left _ m⟩
    · have c2 : (i == k0) = false := by simpa using fun q => c (Eq.symm q)
      have e0 : List.lookup i ((k0, x0) :: xs) = List.lookup i xs := by rw [List.lookup_cons, c2]
      rw [e0, valV_neg (fun q => c (Sum.inl.inj q))]
      refine ⟨fun x e => ?_, (ROi.get r2).2⟩
      obtain ⟨u, B, e1, e2, e3⟩ := (ROi.get r2).1 x e
      exact ⟨u, B, e1, e2, fun a m => List.mem_append_right _ (e3 a m)⟩
theorem ROt.get {i : List Int} {F H : Hp} : ∀ {xs : List (List Int × O)} {us : List (List Key × V)} {A : List Addr}, ROt T F H xs us A → (∀ x, xs.lookup i = some x → ∃ u B, valV us (i.map Sum.inl) = some u ∧ RO T F H x u B ∧ ∀ a ∈ B, a ∈ A) ∧ (xs.lookup i = none → valV us (i.map Sum.inl) = none)
  | [], _, _, r => by
    rw [show _ = [] from r.1]
    exact ⟨fun x e => by simp at e, fun _ => rfl⟩
  | (k0, x0) :: xs, _, _, r => by
    obtain ⟨v, s, A1, A2, ev, eA, r1, r2⟩ := r
    subst ev eA
    by_cases c : k0 = i
    · subst c
      rw [valV_pos rfl]
      have e0 : List.lookup k0 ((k0, x0) :: xs) = some x0 := by simp [List.lookup_cons]
      rw [e0]
      refine ⟨fun x e => ?_, fun e => by cases e⟩
      cases e
      exact ⟨v, A1, rfl, r1, fun a m => List.mem_append_left _ m⟩
    · have c2 : (i == k0) = false := by simpa using fun q => c (Eq.symm q)
      have e0 : List.lookup i ((k0, x0) :: xs) = List.lookup i xs := by rw [List.lookup_cons, c2]
      rw [e0, valV_neg (fun q => c (dky_inj q))]
      refine ⟨fun x e => ?_, (ROt.get r2).2⟩
      obtain ⟨u, B, e1, e2, e3⟩ := (ROt.get r2).1 x e
      exact ⟨u, B, e1, e2, fun a m => List.mem_append_right _ (e3 a m)⟩
end
end Tf
end
section
set_option Elab.async false
set_option linter.all false
set_option maxRecDepth 100000
namespace Tf
open PySem PySem.Spec PyProof.Rows L2
section
variable {T : Tb} {RX : XR} {W : WX} {X : Cx} {G : Prog} {cl : Call} {md : Md}
theorem StB.back {P F H F2 H2 : Hp} {σ σ2 : Fr} {z : L2.St} {i : Nat} {o : O} {u : V} {s : Sl} {x : Option V} {Ai C B : List Addr} (h : StB T P F H σ z i o u s x Ai C B) (sF : Same F F2) (r2 : Rel T (plus P H Ai) F2 H2 σ2 z) :
    ∃ C', StB T P F2 H2 (σ2.put i (some s)) z i o u s x Ai C' B := by
  obtain ⟨A2, k2⟩ := r2
  have oA : Own P F H Ai := ⟨fun a => by have := nd_count.mp h.nd a; rw [List.count_append] at this; omega, fun a m => h.nP a (List.mem_append_left _ m), fun a m => h.nF a (List.mem_append_left _ m), h.pH, h.fH, h.pF⟩
  obtain ⟨at_, o3⟩ := kept_of oA h.r.there h.r.nt k2.own
  have hi : i < σ2.length := by rw [k2.s.len]; exact (List.getElem?_eq_some_iff.mp h.val).1
  obtain ⟨s0, e0⟩ : ∃ s0, σ2[i]? = some s0 := ⟨_, List.getElem?_eq_getElem hi⟩
  obtain ⟨x0, Aj, C', _, _, h2, pm⟩ := k2.s.split e0
  have o4 : Own P F2 H2 (Ai ++ C') := o3.le fun a => by
    have e1 := pm.count_eq a
    rw [List.count_append] at e1
    rw [List.count_append, List.count_append]
    omega
  refine ⟨C', ?_, h.val, ?_, h.r.mono sF at_, h.o.mono sF fun a m => at_ a (h.sub a m), h.sub, nd_count.mpr o4.nd, o4.nP, o4.nF, o4.pH, o4.fH, o4.pF⟩
  · show (σ2.set i (some s))[i]? = _
    rw [List.getElem?_set_self hi]
  · show RSl T F2 H2 ((σ2.set i (some s)).set i none) z C'
    rw [List.set_set]
    exact h2
theorem StB.own {P F H : Hp} {σ : Fr} {z : L2.St} {i : Nat} {o : O} {u : V} {s : Sl} {x : Option V} {Ai C B : List Addr} (h : StB T P F H σ z i o u s x Ai C B) : Own P F H (Ai ++ C) := ⟨nd_count.mp h.nd, h.nP, h.nF, h.pH, h.fH, h.pF⟩
theorem StB.hide {P F H : Hp} {σ : Fr} {z : L2.St} {i : Nat} {o : O} {u : V} {s : Sl} {x : Option V} {Ai C B : List Addr} (h : StB T P F H σ z i o u s x Ai C B) : Own P F H Ai ∧ Rel T (plus P H Ai) F H (σ.set i none) z := by
  have ow := h.own
  have oA : Own P F H Ai := ow.le fun a => by rw [List.count_append]; omega
  have oC : Own P F H C := ow.le fun a => by rw [List.count_append]; omega
  have dj : ∀ a ∈ C, a ∉ Ai := fun a m m' => by
    have h1 := List.count_pos_iff.mpr m
    have h2 := List.count_pos_iff.mpr m'
    have h3 := ow.nd a
    rw [List.count_append] at h3
    omega
  refine ⟨oA, Own.rel ⟨oC.nd, fun a m => plus_none (oC.nP a m) (dj a m), oC.nF, plus_same h.pH, h.fH, PF.plusP h.pF oA.nF⟩ h.rs⟩
theorem PostA.post {P F : Hp} {z : L2.St} {Q : VK} {r : Res Val} (h : PostA T RX W P z F (fun F H σ kv uk => RelV T P F H σ z kv uk) Q r) : Post T RX W P z F Q r := by
  cases r with
  | ok v σ => exact h
  | exc x σ => exact h
  | bad => exact h
theorem hid_run {α β : Type} {P F H : Hp} {σ : Fr} {z : L2.St} {i : Nat} {o : O} {u : V} {s : Sl} {x : Option V} {Ai C B : List Addr} {m : Fr → Res α} {f : α → Fr → Res Val} {Q : VK} (h : StB T P F H σ z i o u s x Ai C B) (q : Post T RX W P z F Q ((hidden i σ m).bind f))
    (Rl : Hp → Hp → Fr → α → β → Prop) : PostA T RX W (plus P H Ai) z F Rl (fun b H1 => ∃ F1 σ1 a, Same F F1 ∧ Rl F1 H1 σ1 a b ∧ Post T RX W P z F1 Q (f a (σ1.put i (some s)))) (m (σ.put i none)) := by
  have q : Post T RX W P z F Q ((match σ[i]? with
    | some (some s) => (match m (σ.put i none) with
      | .ok a σ' => Res.ok a (σ'.put i (some s))
      | .exc x σ' => Res.exc x (σ'.put i (some s))
      | .bad => Res.bad)
    | _ => Res.bad).bind f) := q
  rw [h.at_] at q
  dsimp only at q
  revert q
  generalize m (σ.put i none) = r
  intro q
  cases r with
  | ok a σ1 => exact fun F1 H1 b s1 rl => ⟨F1, σ1, a, s1, rl, Post.later s1 q⟩
  | exc y σ1 => exact fun F1 H1 c d s1 r1 rx => q F1 H1 c d s1 (unhide h.val h.r h.hide.1 s1 r1) rx
  | bad => exact q
theorem place_ix {n : Nat} {i : Int} {k : Nat} (h : place n i = some k) : ixN n i = some k := by
  unfold place at h
  unfold ixN
  by_cases c : 0 ≤ i
  · rw [if_pos c] at h ⊢
    exact h
  · rw [if_neg c] at h ⊢
    by_cases d : 0 ≤ i + n
    · rw [if_pos d] at h
      rw [if_pos (by omega)]
      exact h
    · rw [if_neg d] at h
      cases h
theorem RDs.get {F : Hp} : ∀ {xs : List D} {us : List V} {k : Nat} {x : D}, RDs T F xs us → xs[k]? = some x → ∃ u, us[k]? = some u ∧ RD T F x u
  | [], _, _, _, _, e => by simp at e
  | y :: ys, _, 0, x, r, e => by
    obtain ⟨v, s, eu, r1, _⟩ := r
    subst eu
    have e' : y = x := by simpa using e
    subst e'
    exact ⟨v, rfl, r1⟩
  | y :: ys, _, k + 1, x, r, e => by
    obtain ⟨v, s, eu, _, r2⟩ := r
    subst eu
    obtain ⟨u, e1, r1⟩ := RDs.get r2 (k := k) (by simpa using e)
    exact ⟨u, by simpa using e1, r1⟩
theorem ROs.get {F H : Hp} : ∀ {xs : List O} {us : List V} {A : List Addr} {k : Nat} {x : O}, ROs T F H xs us A → xs[k]? = some x → ∃ u B, us[k]? = some u ∧ RO T F H x u B ∧ ∀ a ∈ B, a ∈ A
  | [], _, _, _, _, _, e => by simp at e
  | y :: ys, _, _, 0, x, r, e => by
    obtain ⟨v, s, A1, A2, eu, eA, r1, _⟩ := r
    subst eu eA
    have e' : y = x := by simpa using e
    subst e'
    exact ⟨v, A1, rfl, r1, fun a m => List.mem_append_left _ m⟩
  | y :: ys, _, _, k + 1, x, r, e => by
    obtain ⟨v, s, A1, A2, eu, eA, _, r2⟩ := r
    subst eu eA
    obtain ⟨u, B, e1, r1, hs⟩ := ROs.get r2 (k := k) (by simpa using e)
    exact ⟨u, B, by simpa using e1, r1, fun a m => List.mem_append_right _ (hs a m)⟩
theorem atI_of {α : Type} {us : List α} {i : Int} {k : Nat} {u : α} {n : Nat} (hn : n = us.length) (h : place n i = some k) (e : us[k]? = some u) : atI us i = some u := by
  unfold atI
  rw [← hn, place_ix h]
  exact e
theorem ite_some' {c : Prop} [Decidable c] {α : Type} {a : Option α} {b : α} (h : (if c then a else none) = some b) : c ∧ a = some b := by
  by_cases hc : c
  · rw [if_pos hc] at h; exact ⟨hc, h⟩
  · rw [if_neg hc] at h; cases h
theorem sel_ok {a b : Expr} {pins : List (Addr × Obj)} {s : Shared} {P F H : Hp} {σ : Fr} {z : L2.St} {vv w : Val} {k : D} {u uk : V} {v vk : Value} {Q : VK} (hu : X.A.units + 1 < cLine) (I : Inv X pins z H s) (ru : L2.RelV u v) (rk : L2.RelV uk vk) (rv : RelV T P F H σ z vv u) (rd : RD T F k uk) (e : selV vv k = some w) (hs : PlainIx b)
    (q : ∀ y, RelV T P F H σ z w y → Q y H) : wpAny (model X.prog X.w) X.A (subscriptTail a b v vk) (EP X pins z Q) X.xe s := by
  cases vv with
  | d x =>
    obtain ⟨x', ex, e⟩ := Option.map_eq_some_iff.mp (show (selD x k).map Val.d = some w from e)
    subst e
    obtain ⟨rel, r⟩ := rv
    obtain ⟨A, kk⟩ := id rel
    cases x with
    | lst xs => cases k with
      | int i =>
        obtain ⟨j, ej, ex⟩ := Option.bind_eq_some_iff.mp (show ((place xs.length i).bind fun k => xs[k]?) = some x' from ex)
        obtain ⟨p, us, e1, e2, r⟩ := r
        obtain ⟨y, ey, ry⟩ := r.get ex
        exact ix_list a b pins s z H u uk v vk Q I ru rk ⟨p, us, i, y, e1, rd, .of (kk.fH _ _ e2), atI_of r.len ej ey, q y ⟨rel, ry⟩⟩ (hs _ _)
      | _ => cases ex
    | tup xs => cases k with
      | int i =>
        obtain ⟨j, ej, ex⟩ := Option.bind_eq_some_iff.mp (show ((place xs.length i).bind fun k => xs[k]?) = some x' from ex)
        obtain ⟨p, us, e1, e2, r⟩ := r
        obtain ⟨y, ey, ry⟩ := r.get ex
        exact ix_tup a b pins s z H u uk v vk Q I ru rk ⟨p, us, i, y, e1, rd, .of (kk.fH _ _ e2), atI_of r.len ej ey, q y ⟨rel, ry⟩⟩ (hs _ _)
      | _ => cases ex
    | scr ns => cases k with
      | int i =>
        obtain ⟨j, ej, ex⟩ := Option.bind_eq_some_iff.mp (show ((place ns.length i).bind fun k => (ns[k]?).map D.int) = some x' from ex)
        obtain ⟨n, en, ex⟩ := Option.map_eq_some_iff.mp ex
        subst ex
        obtain ⟨p, ob, e1, e2⟩ := r
        exact ix_list a b pins s z H u uk v vk Q I ru rk ⟨p, ns.map V.int, i, .int n, e1, rd, .inl (.inr ⟨ob, kk.fH _ _ e2⟩), atI_of (by simp) ej (by simp [en]), q _ ⟨rel, rfl⟩⟩ (hs _ _)
      | _ => cases ex
    | str t => cases k with
      | int i =>
        obtain ⟨hz, ex⟩ := ite_some' (show (if t.length ≤ lineN then ((place t.cps.toList.length i).bind fun k => (t.cps.toList)[k]?).map (fun c => D.str ⟨#[c]⟩) else none) = some x' from ex)
        obtain ⟨c, ec, ex⟩ := Option.map_eq_some_iff.mp ex
        subst ex
        obtain ⟨j, ej, ec⟩ := Option.bind_eq_some_iff.mp ec
        exact ix_str a b pins s z H u uk v vk Q I ru rk ⟨t, i, c, r, rd, hz, atI_of rfl ej ec, q _ ⟨rel, rfl⟩⟩ (hs _ _)
      | _ => cases ex
    | dcI kvs => cases k with
      | int i =>
        obtain ⟨p, ws, e1, e2, r⟩ := r
        obtain ⟨y, ey, ry⟩ := (RDi.get (i := i) r).1 _ ex
        cases (show uk = .int i from rd)
        exact ix_dict hu a b pins s z H u _ v vk Q I ru rk ⟨p, y, e1, .inl ⟨ws, .inl i, .inl (kk.fH _ _ e2), rfl, ey.symm⟩, q y ⟨rel, ry⟩⟩ (hs _ _)
      | _ => cases ex
    | lkI kvs => cases k with
      | int i =>
        obtain ⟨p, ws, e1, ⟨ob, e2⟩, r⟩ := r
        obtain ⟨y, ey, ry⟩ := (RDi.get (i := i) r).1 _ ex
        cases (show uk = .int i from rd)
        exact ix_dict hu a b pins s z H u _ v vk Q I ru rk ⟨p, y, e1, .inl ⟨ws, .inl i, .inr ⟨ob, kk.fH _ _ e2⟩, rfl, ey.symm⟩, q y ⟨rel, ry⟩⟩ (hs _ _)
      | _ => cases ex
    | dcT kvs => cases k with
      | tup ds =>
        obtain ⟨kk0, ek, ex⟩ := Option.bind_eq_some_iff.mp (show ((D.ints ds).bind fun k => kvs.lookup k) = some x' from ex)
        obtain ⟨p, ws, e1, e2, r⟩ := r
        obtain ⟨y, ey, ry⟩ := (RDt.get r).1 _ ex
        obtain ⟨b0, eu, eb⟩ := key_tup rd kk.fH ek
        subst eu
        exact ix_dict hu a b pins s z H u _ v vk Q I ru rk ⟨p, y, e1, .inr ⟨ws, _, b0, .inl (kk.fH _ _ e2), rfl, eb, ey.symm⟩, q y ⟨rel, ry⟩⟩ (hs _ _)
      | _ => cases ex
    | lkT kvs => cases k with
      | tup ds =>
        obtain ⟨kk0, ek, ex⟩ := Option.bind_eq_some_iff.mp (show ((D.ints ds).bind fun k => kvs.lookup k) = some x' from ex)
        obtain ⟨p, ws, e1, ⟨ob, e2⟩, r⟩ := r
        obtain ⟨y, ey, ry⟩ := (RDt.get r).1 _ ex
        obtain ⟨b0, eu, eb⟩ := key_tup rd kk.fH ek
        subst eu
        exact ix_dict hu a b pins s z H u _ v vk Q I ru rk ⟨p, y, e1, .inr ⟨ws, _, b0, .inr ⟨ob, kk.fH _ _ e2⟩, rfl, eb, ey.symm⟩, q y ⟨rel, ry⟩⟩ (hs _ _)
      | _ => cases ex
    | _ => cases ex
  | b i o =>
    obtain ⟨sl, x, Ai, C, B, kk⟩ := rv
    cases o with
    | lst xs => cases k with
      | int j =>
        obtain ⟨x', ex, e⟩ := Option.map_eq_some_iff.mp (show ((place xs.length j).bind fun k => xs[k]?).map (Val.ofO i) = some w from e)
        subst e
        obtain ⟨j', ej, ex⟩ := Option.bind_eq_some_iff.mp ex
        obtain ⟨p, us, B', e1, eB, e2, r⟩ := kk.o
        obtain ⟨y, B2, ey, ry, hb⟩ := r.get ex
        exact ix_list a b pins s z H u uk v vk Q I ru rk ⟨p, us, j, y, e1, rd, .of e2, atI_of r.len ej ey, q y (kk.part ry fun a m => by rw [eB]; exact List.mem_cons_of_mem _ (hb a m))⟩ (hs _ _)
      | _ => cases e
    | dcI kvs => cases k with
      | int j =>
        obtain ⟨x', ex, e⟩ := Option.map_eq_some_iff.mp (show (kvs.lookup j).map (Val.ofO i) = some w from e)
        subst e
        obtain ⟨p, ws, B', e1, eB, e2, r⟩ := kk.o
        obtain ⟨y, B2, ey, ry, hb⟩ := (ROi.get (i := j) r).1 _ ex
        cases (show uk = .int j from rd)
        exact ix_dict hu a b pins s z H u _ v vk Q I ru rk ⟨p, y, e1, .inl ⟨ws, .inl j, .inl e2, rfl, ey.symm⟩, q y (kk.part ry fun a m => by rw [eB]; exact List.mem_cons_of_mem _ (hb a m))⟩ (hs _ _)
      | _ => cases e
    | dcT kvs => cases k with
      | tup ds =>
        obtain ⟨k0, ek, e⟩ := Option.bind_eq_some_iff.mp (show ((D.ints ds).bind fun k => (kvs.lookup k).map (Val.ofO i)) = some w from e)
        obtain ⟨x', ex, e⟩ := Option.map_eq_some_iff.mp e
        subst e
        obtain ⟨p, ws, B', e1, eB, e2, r⟩ := kk.o
        obtain ⟨y, B2, ey, ry, hb⟩ := (ROt.get r).1 _ ex
        obtain ⟨b0, eu, eb⟩ := key_tup rd kk.fH ek
        subst eu
        exact ix_dict hu a b pins s z H u _ v vk Q I ru rk ⟨p, y, e1, .inr ⟨ws, _, b0, .inl e2, rfl, eb, ey.symm⟩, q y (kk.part ry fun a m => by rw [eB]; exact List.mem_cons_of_mem _ (hb a m))⟩ (hs _ _)
      | _ => cases e
    | _ => cases e
  | o o => cases e
theorem se_idx {a b : Expr} {ea eb : E} {pos : Pos} (hu : X.A.units + 1 < cLine) (ha : SE T RX W G cl X a ea) (hb : SE T RX W G cl X b eb) (hs : PlainIx b) : SE T RX W G cl X (.Subscript a b pos) (.idx ea eb) :=
  SE.of (fun _ => rfl) (fun _ _ => rfl) ⟨fun pins s z H Q I ⟨P, F, σ, rel, q⟩ => by
    refine Subscript_ (thn (ha.p.run pins s z H _ I (R.bind rel q)) fun v s1 ⟨u, H1, I1, ru, F1, σ1, vv, sF, rv, q1⟩ => ?_)
    cases vv with
    | o o => exact (show False from q1).elim
    | d x =>
      have q1 : Post T RX W P z F1 Q ((ev G cl .val eb σ1).bind fun k σ => opt ((toD k).bind fun k => selV (.d x) k) fun v => .ok v σ) := q1
      refine thn (hb.v.run pins s1 z H1 _ I1 (R.bind rv.1 q1)) fun vk s2 ⟨uk, H2, I2, rk, F2, σ2, kv, sF2, rkv, q2⟩ => ?_
      obtain ⟨w, ew, q2⟩ := Post.opt q2
      obtain ⟨k, ek, ew⟩ := Option.bind_eq_some_iff.mp ew
      obtain ⟨F3, s3, rel3, rd⟩ := rkv.toD ek
      exact sel_ok hu I2 ru rk (vv := .d x) ⟨rel3, rv.2.mono (sF2.trans s3)⟩ rd ew hs fun y ry => q2 F3 H2 y s3 ry
    | b r o =>
      obtain ⟨sl, x, Ai, C, B, kk⟩ := id rv
      have q1 : Post T RX W P z F1 Q ((hidden r σ1 fun σ => ev G cl .val eb σ).bind fun k σ => opt ((toD k).bind fun k => selV (.b r o) k) fun v => .ok v σ) := q1
      have hr := hid_run kk q1 (fun F H σ kv uk => RelV T (plus P H1 Ai) F H σ z kv uk)
      refine thn (hb.v.run pins s1 z H1 (fun uk H2 => ∃ F2 σ2 kv, Same F1 F2 ∧ RelV T (plus P H1 Ai) F2 H2 σ2 z kv uk ∧ Post T RX W P z F2 Q (opt ((toD kv).bind fun k => selV (.b r o) k) fun v => .ok v (σ2.put r (some sl)))) I1 ⟨_, F1, _, kk.hide.2, ?_⟩) fun vk s2 ⟨uk, H2, I2, rk, F2, σ2, kv, sF2, rkv, q2⟩ => ?_
      · exact PostA.post hr
      · obtain ⟨w, ew, q2⟩ := Post.opt q2
        obtain ⟨k, ek, ew⟩ := Option.bind_eq_some_iff.mp ew
        obtain ⟨F3, s3, rel3, rd⟩ := rkv.toD ek
        obtain ⟨C', kb⟩ := kk.back (sF2.trans s3) rel3
        exact sel_ok hu I2 ru rk (vv := .b r o) ⟨sl, x, Ai, C', B, kb⟩ rd ew hs fun y ry => q2 F3 H2 y s3 ry⟩
def PartR (T : Tb) (P : Hp) (z : L2.St) (F H : Hp) (σ : Fr) (a b : Option Int) : Prop := a = b ∧ Rel T P F H σ z
def RO1 (T : Tb) (RX : XR) (W : WX) (m : Fr → Res (Option Int)) : TO := fun z H Q => ∃ P F σ, Rel T P F H σ z ∧ PostA T RX W P z F (PartR T P z) Q (m σ)
theorem cutL_v {α : Type} (xs : List α) (lo hi : Option Int) (n : Nat) (hn : xs.length = n) : cutL xs lo hi = (xs.drop (HT.sIx n 0 lo)).take (HT.sIx n n hi - HT.sIx n 0 lo) := by
  have e : ∀ (n d : Nat) (o : Option Int), cutAt n d o = HT.sIx n d o := fun n d o => by
    cases o with
    | none => rfl
    | some v =>
      show (if 0 ≤ v then min v.toNat n else (v + n).toNat) = if v < 0 then (v + (n : Int)).toNat else min v.toNat n
      by_cases h : 0 ≤ v
      · rw [if_pos h, if_neg (by omega)]
      · rw [if_neg h, if_pos (by omega)]
  unfold cutL
  rw [e, e, hn, List.drop_take]
theorem RDs.take {F : Hp} : ∀ {xs : List D} {us : List V} (n : Nat), RDs T F xs us → RDs T F (xs.take n) (us.take n)
  | _, _, 0, _ => by rw [List.take_zero, List.take_zero]; rfl
  | [], _, n + 1, r => by rw [show _ = [] from r]; rfl
  | x :: xs, _, n + 1, r => by
    obtain ⟨v, s, e, r1, r2⟩ := r
    subst e
    exact ⟨v, _, rfl, r1, RDs.take n r2⟩
theorem RDs.drop {F : Hp} : ∀ {xs : List D} {us : List V} (n : Nat), RDs T F xs us → RDs T F (xs.drop n) (us.drop n)
  | _, _, 0, r => by rw [List.drop_zero, List.drop_zero]; exact r
  | [], _, n + 1, r => by rw [show _ = [] from r]; rfl
  | x :: xs, _, n + 1, r => by
    obtain ⟨v, s, e, _, r2⟩ := r
    subst e
    exact RDs.drop n r2
theorem RDs.cut {F : Hp} {xs : List D} {us : List V} (r : RDs T F xs us) (lo hi : Option Int) : RDs T F (cutL xs lo hi) (cutV us lo hi) := by
  rw [cutL_v xs lo hi us.length r.len]
  exact (r.drop _).take _
theorem RO1.mono {m : Fr → Res (Option Int)} {z : L2.St} {H : Hp} {Q Q' : Option Int → Hp → Prop} (h : RO1 T RX W m z H Q) (k : ∀ u H, Q u H → Q' u H) : RO1 T RX W m z H Q' := by
  obtain ⟨P, F, σ, rel, q⟩ := h
  refine ⟨P, F, σ, rel, ?_⟩
  revert q
  generalize m σ = r
  intro q
  cases r with
  | ok v σ1 => exact fun F H u s k' => k u H (q F H u s k')
  | exc x σ1 => exact q
  | bad => exact q
theorem parts {ml mh : Fr → Res (Option Int)} {P F H : Hp} {σ : Fr} {z : L2.St} {Q : Option Int × Option Int → Hp → Prop} (rel : Rel T P F H σ z)
    (h : PostA T RX W P z F (fun F H σ (a b : Option Int × Option Int) => a = b ∧ Rel T P F H σ z) Q ((ml σ).bind fun l σ => (mh σ).map fun h => (l, h))) : RO1 T RX W ml z H fun l H1 => RO1 T RX W mh z H1 fun u H2 => Q (l, u) H2 := by
  refine ⟨P, F, σ, rel, ?_⟩
  revert h
  generalize ml σ = r
  intro h
  cases r with
  | exc x σ1 => exact h
  | bad => exact h
  | ok l σ1 =>
    rintro F1 H1 l' s ⟨e, rel1⟩
    subst e
    refine ⟨P, F1, σ1, rel1, ?_⟩
    have h : PostA T RX W P z F (fun F H σ (a b : Option Int × Option Int) => a = b ∧ Rel T P F H σ z) Q ((mh σ1).map fun h => (l, h)) := h
    have h := PostA.later s h
    revert h
    generalize mh σ1 = r
    intro h
    cases r with
    | exc x σ1 => exact h
    | bad => exact h
    | ok u σ2 =>
      rintro F2 H2 u' s2 ⟨e, rel2⟩
      subst e
      exact h F2 H2 _ s2 ⟨rfl, rel2⟩
theorem PostA.mono {α β : Type} {P F : Hp} {z : L2.St} {Rl : Hp → Hp → Fr → α → β → Prop} {Q Q' : β → Hp → Prop} {r : Res α} (h : PostA T RX W P z F Rl Q r) (k : ∀ b H, Q b H → Q' b H) : PostA T RX W P z F Rl Q' r := by
  cases r with
  | ok v σ => exact fun F H u s k' => k u H (h F H u s k')
  | exc x σ => exact h
  | bad => exact h
theorem PostA.bind1 {α β : Type} {P F : Hp} {z : L2.St} {Rl : Hp → Hp → Fr → α → β → Prop} {Q : VK} {r : Res α} {f : α → Fr → Res Val} (h : Post T RX W P z F Q (r.bind f)) : PostA T RX W P z F Rl (fun b H1 => ∃ F1 σ1 a, Same F F1 ∧ Rl F1 H1 σ1 a b ∧ Post T RX W P z F1 Q (f a σ1)) r := by
  cases r with
  | ok v σ => exact fun F1 H1 u s rl => ⟨F1, σ, v, s, rl, Post.later s h⟩
  | exc x σ => exact h
  | bad => exact h
end
end Tf
end
section
set_option Elab.async false
set_option linter.all false
set_option maxRecDepth 100000
namespace Tf
open PySem PySem.Spec PyProof.Rows L2
theorem map_inj {α β : Type} {f : α → β} (hf : ∀ a b, f a = f b → a = b) : ∀ {xs ys : List α}, xs.map f = ys.map f → xs = ys
  | [], [], _ => rfl
  | [], _ :: _, h => by cases h
  | _ :: _, [], h => by cases h
  | x :: xs, y :: ys, h => by
    rw [List.map_cons, List.map_cons] at h
    injection h with h1 h2
    rw [hf _ _ h1, map_inj hf h2]
structure RDone (T : Tb) (F : Hp) : Prop where
  c : ∀ c c', c < T.nc → c' < T.nc → T.cA c = T.cA c' → c = c'
  f : ∀ f g, f < T.nf → g < T.nf → T.fN f = T.fN g → f = g
  n : ∀ c, c < T.nc → F (T.cA c) = none
  x : ∀ c c', c ∈ T.xs → c' ∈ T.xs → T.cA c = T.cA c' → c = c'
theorem exo_ext {e C : Addr} {d : Option Addr} {o : HO} (h : exo e C d = o) : ∃ φ, o = .ext φ := ⟨_, h.symm⟩
mutual
theorem RD.inj {T : Tb} {F : Hp} (k : RDone T F) : ∀ {x y : D} {u : V}, RD T F x u → RD T F y u → x = y
  | .non, y, u, h1, h2 => by
    have e : u = .non := h1
    subst e
    cases y with
    | non => rfl
    | bl b' => cases (show V.non = .bl b' from h2)
    | int i' => cases (show V.non = .int i' from h2)
    | str s' => cases (show V.non = .str s' from h2)
    | tup xs' => obtain ⟨b, vs, e2, eb, r2⟩ := h2; cases e2
    | lst xs' => obtain ⟨b, vs, e2, eb, r2⟩ := h2; cases e2
    | ins c' fs' => obtain ⟨b, dy, hs, hc2, e2, eb, r2⟩ := h2; cases e2
    | dcI kvs' => obtain ⟨b, vs, e2, eb, r2⟩ := h2; cases e2
    | dcT kvs' => obtain ⟨b, vs, e2, eb, r2⟩ := h2; cases e2
    | lkI kvs' => obtain ⟨b, vs, e2, ⟨ob9, eb⟩, r2⟩ := h2; cases e2
    | lkT kvs' => obtain ⟨b, vs, e2, ⟨ob9, eb⟩, r2⟩ := h2; cases e2
    | cls c' => cases h2.2
    | scr ns' => obtain ⟨b, ob2, e2, eb⟩ := h2; cases e2
    | exn c' fs' => obtain ⟨b, od', t1', gs', hc2, e2, eb, e3', r2⟩ := h2; cases e2
  | .bl b, y, u, h1, h2 => by
    have e : u = .bl b := h1
    subst e
    cases y with
    | non => cases (show V.bl b = .non from h2)
    | bl b' => injection (show V.bl b = .bl b' from h2) with e; rw [e]
    | int i' => cases (show V.bl b = .int i' from h2)
    | str s' => cases (show V.bl b = .str s' from h2)
    | tup xs' => obtain ⟨b, vs, e2, eb, r2⟩ := h2; cases e2
    | lst xs' => obtain ⟨b, vs, e2, eb, r2⟩ := h2; cases e2
    | ins c' fs' => obtain ⟨b, dy, hs, hc2, e2, eb, r2⟩ := h2; cases e2
    | dcI kvs' => obtain ⟨b, vs, e2, eb, r2⟩ := h2; cases e2
    | dcT kvs' => obtain ⟨b, vs, e2, eb, r2⟩ := h2; cases e2
    | lkI kvs' => obtain ⟨b, vs, e2, ⟨ob9, eb⟩, r2⟩ := h2; cases e2
    | lkT kvs' => obtain ⟨b, vs, e2, ⟨ob9, eb⟩, r2⟩ := h2; cases e2
    | cls c' => cases h2.2
    | scr ns' => obtain ⟨b, ob2, e2, eb⟩ := h2; cases e2
    | exn c' fs' => obtain ⟨b, od', t1', gs', hc2, e2, eb, e3', r2⟩ := h2; cases e2
  | .int i, y, u, h1, h2 => by
    have e : u = .int i := h1
    subst e
    cases y with
    | non => cases (show V.int i = .non from h2)
    | bl b' => cases (show V.int i = .bl b' from h2)
    | int i' => injection (show V.int i = .int i' from h2) with e; rw [e]
    | str s' => cases (show V.int i = .str s' from h2)
    | tup xs' => obtain ⟨b, vs, e2, eb, r2⟩ := h2; cases e2
    | lst xs' => obtain ⟨b, vs, e2, eb, r2⟩ := h2; cases e2
    | ins c' fs' => obtain ⟨b, dy, hs, hc2, e2, eb, r2⟩ := h2; cases e2
    | dcI kvs' => obtain ⟨b, vs, e2, eb, r2⟩ := h2; cases e2
    | dcT kvs' => obtain ⟨b, vs, e2, eb, r2⟩ := h2; cases e2
    | lkI kvs' => obtain ⟨b, vs, e2, ⟨ob9, eb⟩, r2⟩ := h2; cases e2
    | lkT kvs' => obtain ⟨b, vs, e2, ⟨ob9, eb⟩, r2⟩ := h2; cases e2
    | cls c' => cases h2.2
    | scr ns' => obtain ⟨b, ob2, e2, eb⟩ := h2; cases e2
    | exn c' fs' => obtain ⟨b, od', t1', gs', hc2, e2, eb, e3', r2⟩ := h2; cases e2
  | .str s, y, u, h1, h2 => by
    have e : u = .str s := h1
    subst e
    cases y with
    | non => cases (show V.str s = .non from h2)
    | bl b' => cases (show V.str s = .bl b' from h2)
    | int i' => cases (show V.str s = .int i' from h2)
    | str s' => injection (show V.str s = .str s' from h2) with e; rw [e]
    | tup xs' => obtain ⟨b, vs, e2, eb, r2⟩ := h2; cases e2
    | lst xs' => obtain ⟨b, vs, e2, eb, r2⟩ := h2; cases e2
    | ins c' fs' => obtain ⟨b, dy, hs, hc2, e2, eb, r2⟩ := h2; cases e2
    | dcI kvs' => obtain ⟨b, vs, e2, eb, r2⟩ := h2; cases e2
    | dcT kvs' => obtain ⟨b, vs, e2, eb, r2⟩ := h2; cases e2
    | lkI kvs' => obtain ⟨b, vs, e2, ⟨ob9, eb⟩, r2⟩ := h2; cases e2
    | lkT kvs' => obtain ⟨b, vs, e2, ⟨ob9, eb⟩, r2⟩ := h2; cases e2
    | cls c' => cases h2.2
    | scr ns' => obtain ⟨b, ob2, e2, eb⟩ := h2; cases e2
    | exn c' fs' => obtain ⟨b, od', t1', gs', hc2, e2, eb, e3', r2⟩ := h2; cases e2
  | .tup xs, y, u, h1, h2 => by
    obtain ⟨a, us, e, ea, r⟩ := h1
    subst e
    cases y with
    | non => cases (show V.ref _ = .non from h2)
    | bl b' => cases (show V.ref _ = .bl b' from h2)
    | int i' => cases (show V.ref _ = .int i' from h2)
    | str s' => cases (show V.ref _ = .str s' from h2)
    | tup xs' => obtain ⟨b, vs, e2, eb, r2⟩ := h2; injection e2 with e2; subst e2; rw [ea] at eb; injection eb with eb; injection eb with e3; subst e3; rw [RDs.inj k r r2]
    | lst xs' => obtain ⟨b, vs, e2, eb, r2⟩ := h2; injection e2 with e2; subst e2; rw [ea] at eb; cases eb
    | ins c' fs' => obtain ⟨b, dy, hs, hc2, e2, eb, r2⟩ := h2; injection e2 with e2; subst e2; rw [ea] at eb; cases eb
    | dcI kvs' => obtain ⟨b, vs, e2, eb, r2⟩ := h2; injection e2 with e2; subst e2; rw [ea] at eb; cases eb
    | dcT kvs' => obtain ⟨b, vs, e2, eb, r2⟩ := h2; injection e2 with e2; subst e2; rw [ea] at eb; cases eb
    | lkI kvs' => obtain ⟨b, vs, e2, ⟨ob9, eb⟩, r2⟩ := h2; injection e2 with e2; subst e2; rw [ea] at eb; cases eb
    | lkT kvs' => obtain ⟨b, vs, e2, ⟨ob9, eb⟩, r2⟩ := h2; injection e2 with e2; subst e2; rw [ea] at eb; cases eb
    | cls c' => obtain ⟨hc2, e2⟩ := h2; injection e2 with e2; rw [e2, k.n _ hc2] at ea; cases ea
    | scr ns' => obtain ⟨b, ob2, e2, eb⟩ := h2; injection e2 with e2; subst e2; rw [ea] at eb; cases eb
    | exn c' fs' => obtain ⟨b, od', t1', gs', hc2, e2, eb, e3', r2⟩ := h2; injection e2 with e2; subst e2; rw [ea] at eb; cases eb
  | .lst xs, y, u, h1, h2 => by
    obtain ⟨a, us, e, ea, r⟩ := h1
    subst e
    cases y with
    | non => cases (show V.ref _ = .non from h2)
    | bl b' => cases (show V.ref _ = .bl b' from h2)
    | int i' => cases (show V.ref _ = .int i' from h2)
    | str s' => cases (show V.ref _ = .str s' from h2)
    | tup xs' => obtain ⟨b, vs, e2, eb, r2⟩ := h2; injection e2 with e2; subst e2; rw [ea] at eb; cases eb
    | lst xs' => obtain ⟨b, vs, e2, eb, r2⟩ := h2; injection e2 with e2; subst e2; rw [ea] at eb; injection eb with eb; injection eb with e3; subst e3; rw [RDs.inj k r r2]
    | ins c' fs' => obtain ⟨b, dy, hs, hc2, e2, eb, r2⟩ := h2; injection e2 with e2; subst e2; rw [ea] at eb; cases eb
    | dcI kvs' => obtain ⟨b, vs, e2, eb, r2⟩ := h2; injection e2 with e2; subst e2; rw [ea] at eb; cases eb
    | dcT kvs' => obtain ⟨b, vs, e2, eb, r2⟩ := h2; injection e2 with e2; subst e2; rw [ea] at eb; cases eb
    | lkI kvs' => obtain ⟨b, vs, e2, ⟨ob9, eb⟩, r2⟩ := h2; injection e2 with e2; subst e2; rw [ea] at eb; cases eb
    | lkT kvs' => obtain ⟨b, vs, e2, ⟨ob9, eb⟩, r2⟩ := h2; injection e2 with e2; subst e2; rw [ea] at eb; cases eb
    | cls c' => obtain ⟨hc2, e2⟩ := h2; injection e2 with e2; rw [e2, k.n _ hc2] at ea; cases ea
    | scr ns' => obtain ⟨b, ob2, e2, eb⟩ := h2; injection e2 with e2; subst e2; rw [ea] at eb; cases eb
    | exn c' fs' => obtain ⟨b, od', t1', gs', hc2, e2, eb, e3', r2⟩ := h2; injection e2 with e2; subst e2; rw [ea] at eb; cases eb
  | .ins c fs, y, u, h1, h2 => by
    obtain ⟨a, dx, gs, hc, e, ea, r⟩ := h1
    subst e
    cases y with
    | non => cases (show V.ref _ = .non from h2)
    | bl b' => cases (show V.ref _ = .bl b' from h2)
    | int i' => cases (show V.ref _ = .int i' from h2)
    | str s' => cases (show V.ref _ = .str s' from h2)
    | tup xs' => obtain ⟨b, vs, e2, eb, r2⟩ := h2; injection e2 with e2; subst e2; rw [ea] at eb; cases eb
    | lst xs' => obtain ⟨b, vs, e2, eb, r2⟩ := h2; injection e2 with e2; subst e2; rw [ea] at eb; cases eb
    | ins c' fs' => obtain ⟨b, dy, hs, hc2, e2, eb, r2⟩ := h2; injection e2 with e2; subst e2; rw [ea] at eb; injection eb with eb; injection eb with e3 e4 e5; subst e5; rw [k.c _ _ hc hc2 e3, RDf.inj k r r2]
    | dcI kvs' => obtain ⟨b, vs, e2, eb, r2⟩ := h2; injection e2 with e2; subst e2; rw [ea] at eb; cases eb
    | dcT kvs' => obtain ⟨b, vs, e2, eb, r2⟩ := h2; injection e2 with e2; subst e2; rw [ea] at eb; cases eb
    | lkI kvs' => obtain ⟨b, vs, e2, ⟨ob9, eb⟩, r2⟩ := h2; injection e2 with e2; subst e2; rw [ea] at eb; cases eb
    | lkT kvs' => obtain ⟨b, vs, e2, ⟨ob9, eb⟩, r2⟩ := h2; injection e2 with e2; subst e2; rw [ea] at eb; cases eb
    | cls c' => obtain ⟨hc2, e2⟩ := h2; injection e2 with e2; rw [e2, k.n _ hc2] at ea; cases ea
    | scr ns' => obtain ⟨b, ob2, e2, eb⟩ := h2; injection e2 with e2; subst e2; rw [ea] at eb; cases eb
    | exn c' fs' => obtain ⟨b, od', t1', gs', hc2, e2, eb, e3', r2⟩ := h2; injection e2 with e2; subst e2; rw [ea] at eb; cases eb
  | .dcI kvs, y, u, h1, h2 => by
    obtain ⟨a, us, e, ea, r⟩ := h1
    subst e
    cases y with
    | non => cases (show V.ref _ = .non from h2)
    | bl b' => cases (show V.ref _ = .bl b' from h2)
    | int i' => cases (show V.ref _ = .int i' from h2)
    | str s' => cases (show V.ref _ = .str s' from h2)
    | tup xs' => obtain ⟨b, vs, e2, eb, r2⟩ := h2; injection e2 with e2; subst e2; rw [ea] at eb; cases eb
    | lst xs' => obtain ⟨b, vs, e2, eb, r2⟩ := h2; injection e2 with e2; subst e2; rw [ea] at eb; cases eb
    | ins c' fs' => obtain ⟨b, dy, hs, hc2, e2, eb, r2⟩ := h2; injection e2 with e2; subst e2; rw [ea] at eb; cases eb
    | dcI kvs' => obtain ⟨b, vs, e2, eb, r2⟩ := h2; injection e2 with e2; subst e2; rw [ea] at eb; injection eb with eb; injection eb with e3; subst e3; rw [RDi.inj k r r2]
    | dcT kvs' => obtain ⟨b, vs, e2, eb, r2⟩ := h2; injection e2 with e2; subst e2; rw [ea] at eb; cases eb
    | lkI kvs' => obtain ⟨b, vs, e2, ⟨ob9, eb⟩, r2⟩ := h2; injection e2 with e2; subst e2; rw [ea] at eb; cases eb
    | lkT kvs' => obtain ⟨b, vs, e2, ⟨ob9, eb⟩, r2⟩ := h2; injection e2 with e2; subst e2; rw [ea] at eb; cases eb
    | cls c' => obtain ⟨hc2, e2⟩ := h2; injection e2 with e2; rw [e2, k.n _ hc2] at ea; cases ea
    | scr ns' => obtain ⟨b, ob2, e2, eb⟩ := h2; injection e2 with e2; subst e2; rw [ea] at eb; cases eb
    | exn c' fs' => obtain ⟨b, od', t1', gs', hc2, e2, eb, e3', r2⟩ := h2; injection e2 with e2; subst e2; rw [ea] at eb; cases eb
  | .dcT kvs, y, u, h1, h2 => by
    obtain ⟨a, us, e, ea, r⟩ := h1
    subst e
    cases y with
    | non => cases (show V.ref _ = .non from h2)
    | bl b' => cases (show V.ref _ = .bl b' from h2)
    | int i' => cases (show V.ref _ = .int i' from h2)
    | str s' => cases (show V.ref _ = .str s' from h2)
    | tup xs' => obtain ⟨b, vs, e2, eb, r2⟩ := h2; injection e2 with e2; subst e2; rw [ea] at eb; cases eb
    | lst xs' => obtain ⟨b, vs, e2, eb, r2⟩ := h2; injection e2 with e2; subst e2; rw [ea] at eb; cases eb
    | ins c' fs' => obtain ⟨b, dy, hs, hc2, e2, eb, r2⟩ := h2; injection e2 with e2; subst e2; rw [ea] at eb; cases eb
    | dcI kvs' => obtain ⟨b, vs, e2, eb, r2⟩ := h2; injection e2 with e2; subst e2; rw [ea] at eb; cases eb
    | dcT kvs' => obtain ⟨b, vs, e2, eb, r2⟩ := h2; injection e2 with e2; subst e2; rw [ea] at eb; injection eb with eb; injection eb with e3; subst e3; rw [RDt.inj k r r2]
    | lkI kvs' => obtain ⟨b, vs, e2, ⟨ob9, eb⟩, r2⟩ := h2; injection e2 with e2; subst e2; rw [ea] at eb; cases eb
    | lkT kvs' => obtain ⟨b, vs, e2, ⟨ob9, eb⟩, r2⟩ := h2; injection e2 with e2; subst e2; rw [ea] at eb; cases eb
    | cls c' => obtain ⟨hc2, e2⟩ := h2; injection e2 with e2; rw [e2, k.n _ hc2] at ea; cases ea
    | scr ns' => obtain ⟨b, ob2, e2, eb⟩ := h2; injection e2 with e2; subst e2; rw [ea] at eb; cases eb
    | exn c' fs' => obtain ⟨b, od', t1', gs', hc2, e2, eb, e3', r2⟩ := h2; injection e2 with e2; subst e2; rw [ea] at eb; cases eb
  | .lkI kvs, y, u, h1, h2 => by
    obtain ⟨a, us, e, ⟨ob, ea⟩, r⟩ := h1
    subst e
    cases y with
    | non => cases (show V.ref _ = .non from h2)
    | bl b' => cases (show V.ref _ = .bl b' from h2)
    | int i' => cases (show V.ref _ = .int i' from h2)
    | str s' => cases (show V.ref _ = .str s' from h2)
    | tup xs' => obtain ⟨b, vs, e2, eb, r2⟩ := h2; injection e2 with e2; subst e2; rw [ea] at eb; cases eb
    | lst xs' => obtain ⟨b, vs, e2, eb, r2⟩ := h2; injection e2 with e2; subst e2; rw [ea] at eb; cases eb
    | ins c' fs' => obtain ⟨b, dy, hs, hc2, e2, eb, r2⟩ := h2; injection e2 with e2; subst e2; rw [ea] at eb; cases eb
    | dcI kvs' => obtain ⟨b, vs, e2, eb, r2⟩ := h2; injection e2 with e2; subst e2; rw [ea] at eb; cases eb
    | dcT kvs' => obtain ⟨b, vs, e2, eb, r2⟩ := h2; injection e2 with e2; subst e2; rw [ea] at eb; cases eb
    | lkI kvs' => obtain ⟨b, vs, e2, ⟨ob9, eb⟩, r2⟩ := h2; injection e2 with e2; subst e2; rw [ea] at eb; injection eb with eb; injection eb with e3 e4; injection e4 with e4; subst e4; rw [RDi.inj k r r2]
    | lkT kvs' => obtain ⟨b, vs, e2, ⟨ob9, eb⟩, r2⟩ := h2; injection e2 with e2; subst e2; rw [ea] at eb; cases eb
    | cls c' => obtain ⟨hc2, e2⟩ := h2; injection e2 with e2; rw [e2, k.n _ hc2] at ea; cases ea
    | scr ns' => obtain ⟨b, ob2, e2, eb⟩ := h2; injection e2 with e2; subst e2; rw [ea] at eb; cases eb
    | exn c' fs' => obtain ⟨b, od', t1', gs', hc2, e2, eb, e3', r2⟩ := h2; injection e2 with e2; subst e2; rw [ea] at eb; injection eb with eb; injection eb with e4 e5; obtain ⟨φ, e6⟩ := exo_ext e5.symm; cases e6
  | .lkT kvs, y, u, h1, h2 => by
    obtain ⟨a, us, e, ⟨ob, ea⟩, r⟩ := h1
    subst e
    cases y with
    | non => cases (show V.ref _ = .non from h2)
    | bl b' => cases (show V.ref _ = .bl b' from h2)
    | int i' => cases (show V.ref _ = .int i' from h2)
    | str s' => cases (show V.ref _ = .str s' from h2)
    | tup xs' => obtain ⟨b, vs, e2, eb, r2⟩ := h2; injection e2 with e2; subst e2; rw [ea] at eb; cases eb
    | lst xs' => obtain ⟨b, vs, e2, eb, r2⟩ := h2; injection e2 with e2; subst e2; rw [ea] at eb; cases eb
    | ins c' fs' => obtain ⟨b, dy, hs, hc2, e2, eb, r2⟩ := h2; injection e2 with e2; subst e2; rw [ea] at eb; cases eb
    | dcI kvs' => obtain ⟨b, vs, e2, eb, r2⟩ := h2; injection e2 with e2; subst e2; rw [ea] at eb; cases eb
    | dcT kvs' => obtain ⟨b, vs, e2, eb, r2⟩ := h2; injection e2 with e2; subst e2; rw [ea] at eb; cases eb
    | lkI kvs' => obtain ⟨b, vs, e2, ⟨ob9, eb⟩, r2⟩ := h2; injection e2 with e2; subst e2; rw [ea] at eb; cases eb
    | lkT kvs' => obtain ⟨b, vs, e2, ⟨ob9, eb⟩, r2⟩ := h2; injection e2 with e2; subst e2; rw [ea] at eb; injection eb with eb; injection eb with e3 e4; injection e4 with e4; subst e4; rw [RDt.inj k r r2]
    | cls c' => obtain ⟨hc2, e2⟩ := h2; injection e2 with e2; rw [e2, k.n _ hc2] at ea; cases ea
    | scr ns' => obtain ⟨b, ob2, e2, eb⟩ := h2; injection e2 with e2; subst e2; rw [ea] at eb; cases eb
    | exn c' fs' => obtain ⟨b, od', t1', gs', hc2, e2, eb, e3', r2⟩ := h2; injection e2 with e2; subst e2; rw [ea] at eb; injection eb with eb; injection eb with e4 e5; obtain ⟨φ, e6⟩ := exo_ext e5.symm; cases e6
  | .cls c, y, u, h1, h2 => by
    obtain ⟨hc, e⟩ := h1
    subst e
    cases y with
    | non => cases (show V.ref _ = .non from h2)
    | bl b' => cases (show V.ref _ = .bl b' from h2)
    | int i' => cases (show V.ref _ = .int i' from h2)
    | str s' => cases (show V.ref _ = .str s' from h2)
    | tup xs' => obtain ⟨b, vs, e2, eb, r2⟩ := h2; injection e2 with e2; rw [← e2, k.n _ hc] at eb; cases eb
    | lst xs' => obtain ⟨b, vs, e2, eb, r2⟩ := h2; injection e2 with e2; rw [← e2, k.n _ hc] at eb; cases eb
    | ins c' fs' => obtain ⟨b, dy, hs, hc2, e2, eb, r2⟩ := h2; injection e2 with e2; rw [← e2, k.n _ hc] at eb; cases eb
    | dcI kvs' => obtain ⟨b, vs, e2, eb, r2⟩ := h2; injection e2 with e2; rw [← e2, k.n _ hc] at eb; cases eb
    | dcT kvs' => obtain ⟨b, vs, e2, eb, r2⟩ := h2; injection e2 with e2; rw [← e2, k.n _ hc] at eb; cases eb
    | lkI kvs' => obtain ⟨b, vs, e2, ⟨ob9, eb⟩, r2⟩ := h2; injection e2 with e2; rw [← e2, k.n _ hc] at eb; cases eb
    | lkT kvs' => obtain ⟨b, vs, e2, ⟨ob9, eb⟩, r2⟩ := h2; injection e2 with e2; rw [← e2, k.n _ hc] at eb; cases eb
    | cls c' => obtain ⟨hc2, e2⟩ := h2; injection e2 with e2; rw [k.c _ _ hc hc2 e2]
    | scr ns' => obtain ⟨b, ob2, e2, eb⟩ := h2; injection e2 with e2; rw [← e2, k.n _ hc] at eb; cases eb
    | exn c' fs' => obtain ⟨b, od', t1', gs', hc2, e2, eb, e3', r2⟩ := h2; injection e2 with e2; rw [← e2, k.n _ hc] at eb; cases eb
  | .scr ns, y, u, h1, h2 => by
    obtain ⟨a, ob, e, ea⟩ := h1
    subst e
    cases y with
    | non => cases (show V.ref _ = .non from h2)
    | bl b' => cases (show V.ref _ = .bl b' from h2)
    | int i' => cases (show V.ref _ = .int i' from h2)
    | str s' => cases (show V.ref _ = .str s' from h2)
    | tup xs' => obtain ⟨b, vs, e2, eb, r2⟩ := h2; injection e2 with e2; subst e2; rw [ea] at eb; cases eb
    | lst xs' => obtain ⟨b, vs, e2, eb, r2⟩ := h2; injection e2 with e2; subst e2; rw [ea] at eb; cases eb
    | ins c' fs' => obtain ⟨b, dy, hs, hc2, e2, eb, r2⟩ := h2; injection e2 with e2; subst e2; rw [ea] at eb; cases eb
    | dcI kvs' => obtain ⟨b, vs, e2, eb, r2⟩ := h2; injection e2 with e2; subst e2; rw [ea] at eb; cases eb
    | dcT kvs' => obtain ⟨b, vs, e2, eb, r2⟩ := h2; injection e2 with e2; subst e2; rw [ea] at eb; cases eb
    | lkI kvs' => obtain ⟨b, vs, e2, ⟨ob9, eb⟩, r2⟩ := h2; injection e2 with e2; subst e2; rw [ea] at eb; cases eb
    | lkT kvs' => obtain ⟨b, vs, e2, ⟨ob9, eb⟩, r2⟩ := h2; injection e2 with e2; subst e2; rw [ea] at eb; cases eb
    | cls c' => obtain ⟨hc2, e2⟩ := h2; injection e2 with e2; rw [e2, k.n _ hc2] at ea; cases ea
    | scr ns' => obtain ⟨b, ob2, e2, eb⟩ := h2; injection e2 with e2; subst e2; rw [ea] at eb; injection eb with eb; injection eb with e3 e4; injection e4 with e4; rw [map_inj (fun _ _ q => V.int.inj q) e4]
    | exn c' fs' => obtain ⟨b, od', t1', gs', hc2, e2, eb, e3', r2⟩ := h2; injection e2 with e2; subst e2; rw [ea] at eb; injection eb with eb; injection eb with e4 e5; obtain ⟨φ, e6⟩ := exo_ext e5.symm; cases e6
  | .exn c fs, y, u, h1, h2 => by
    obtain ⟨a, od, t1, gs, hc, e, ea, e3, r⟩ := h1
    subst e
    cases y with
    | non => cases (show V.ref _ = .non from h2)
    | bl b' => cases (show V.ref _ = .bl b' from h2)
    | int i' => cases (show V.ref _ = .int i' from h2)
    | str s' => cases (show V.ref _ = .str s' from h2)
    | tup xs' => obtain ⟨b, vs, e2, eb, r2⟩ := h2; injection e2 with e2; subst e2; rw [ea] at eb; cases eb
    | lst xs' => obtain ⟨b, vs, e2, eb, r2⟩ := h2; injection e2 with e2; subst e2; rw [ea] at eb; cases eb
    | ins c' fs' => obtain ⟨b, dy, hs, hc2, e2, eb, r2⟩ := h2; injection e2 with e2; subst e2; rw [ea] at eb; cases eb
    | dcI kvs' => obtain ⟨b, vs, e2, eb, r2⟩ := h2; injection e2 with e2; subst e2; rw [ea] at eb; cases eb
    | dcT kvs' => obtain ⟨b, vs, e2, eb, r2⟩ := h2; injection e2 with e2; subst e2; rw [ea] at eb; cases eb
    | lkI kvs' => obtain ⟨b, vs, e2, ⟨ob9, eb⟩, r2⟩ := h2; injection e2 with e2; subst e2; rw [ea] at eb; injection eb with eb; injection eb with e4 e5; obtain ⟨φ, e6⟩ := exo_ext e5; cases e6
    | lkT kvs' => obtain ⟨b, vs, e2, ⟨ob9, eb⟩, r2⟩ := h2; injection e2 with e2; subst e2; rw [ea] at eb; injection eb with eb; injection eb with e4 e5; obtain ⟨φ, e6⟩ := exo_ext e5; cases e6
    | cls c' => obtain ⟨hc2, e2⟩ := h2; injection e2 with e2; rw [e2, k.n _ hc2] at ea; cases ea
    | scr ns' => obtain ⟨b, ob2, e2, eb⟩ := h2; injection e2 with e2; subst e2; rw [ea] at eb; injection eb with eb; injection eb with e4 e5; obtain ⟨φ, e6⟩ := exo_ext e5; cases e6
    | exn c' fs' =>
      obtain ⟨b, od', t1', gs', hc2, e2, eb, e3', r2⟩ := h2
      injection e2 with e2
      subst e2
      rw [ea] at eb
      injection eb with eb
      injection eb with e4 e5
      have ec : Value.ref (T.cA c) = Value.ref (T.cA c') := congrArg Obj.cls e4
      injection ec with ec
      have ec := k.x _ _ hc hc2 ec
      subst ec
      have ed : od = od' := congrArg Obj.dict e4
      subst ed
      have eg : gs = gs' := by
        rcases e3 with ⟨g1, g2⟩ | ⟨d, g1, g2⟩
        · rcases e3' with ⟨k1, k2⟩ | ⟨d', k1, k2⟩
          · rw [g1, k1]
          · rw [g2] at k1; cases k1
        · rcases e3' with ⟨k1, k2⟩ | ⟨d', k1, k2⟩
          · rw [g1] at k2; cases k2
          · rw [g1] at k1
            cases k1
            rw [g2] at k2
            injection k2 with k2
            injection k2
      subst eg
      rw [RDf.inj k r r2]
theorem RDs.inj {T : Tb} {F : Hp} (k : RDone T F) : ∀ {xs ys : List D} {us : List V}, RDs T F xs us → RDs T F ys us → xs = ys
  | [], [], _, _, _ => rfl
  | [], y :: ys, _, h1, h2 => by
    obtain ⟨w, s, e', s1, s2⟩ := h2
    rw [show _ = [] from h1] at e'
    cases e'
  | x :: xs, [], _, h1, h2 => by
    obtain ⟨v, r, e, r1, r2⟩ := h1
    rw [show _ = [] from h2] at e
    cases e
  | x :: xs, y :: ys, _, h1, h2 => by
    obtain ⟨v, r, e, r1, r2⟩ := h1
    obtain ⟨w, s, e', s1, s2⟩ := h2
    subst e
    injection e' with e1 e2
    subst e1 e2
    rw [RD.inj k r1 s1, RDs.inj k r2 s2]
theorem RDf.inj {T : Tb} {F : Hp} (k : RDone T F) : ∀ {xs ys : List (Nat × D)} {us : List (PySem.Str × V)}, RDf T F xs us → RDf T F ys us → xs = ys
  | [], [], _, _, _ => rfl
  | [], (j, y) :: ys, _, h1, h2 => by
    obtain ⟨w, s, hk', e', s1, s2⟩ := h2
    rw [show _ = [] from h1] at e'
    cases e'
  | (i, x) :: xs, [], _, h1, h2 => by
    obtain ⟨v, r, hk, e, r1, r2⟩ := h1
    rw [show _ = [] from h2] at e
    cases e
  | (i, x) :: xs, (j, y) :: ys, _, h1, h2 => by
    obtain ⟨v, r, hk, e, r1, r2⟩ := h1
    obtain ⟨w, s, hk', e', s1, s2⟩ := h2
    subst e
    injection e' with e1 e2
    injection e1 with e1 e3
    subst e2 e3
    rw [k.f _ _ hk hk' e1, RD.inj k r1 s1, RDf.inj k r2 s2]
theorem RDi.inj {T : Tb} {F : Hp} (k : RDone T F) : ∀ {xs ys : List (Int × D)} {us : List (Key × V)}, RDi T F xs us → RDi T F ys us → xs = ys
  | [], [], _, _, _ => rfl
  | [], (j, y) :: ys, _, h1, h2 => by
    obtain ⟨w, s, e', s1, s2⟩ := h2
    rw [show _ = [] from h1] at e'
    cases e'
  | (i, x) :: xs, [], _, h1, h2 => by
    obtain ⟨v, r, e, r1, r2⟩ := h1
    rw [show _ = [] from h2] at e
    cases e
  | (i, x) :: xs, (j, y) :: ys, _, h1, h2 => by
    obtain ⟨v, r, e, r1, r2⟩ := h1
    obtain ⟨w, s, e', s1, s2⟩ := h2
    subst e
    injection e' with e1 e2
    injection e1 with e1 e3
    injection e1 with e1
    subst e1 e2 e3
    rw [RD.inj k r1 s1, RDi.inj k r2 s2]
theorem RDt.inj {T : Tb} {F : Hp} (k : RDone T F) : ∀ {xs ys : List (List Int × D)} {us : List (List Key × V)}, RDt T F xs us → RDt T F ys us → xs = ys
  | [], [], _, _, _ => rfl
  | [], (j, y) :: ys, _, h1, h2 => by
    obtain ⟨w, s, e', s1, s2⟩ := h2
    rw [show _ = [] from h1] at e'
    cases e'
  | (i, x) :: xs, [], _, h1, h2 => by
    obtain ⟨v, r, e, r1, r2⟩ := h1
    rw [show _ = [] from h2] at e
    cases e
  | (i, x) :: xs, (j, y) :: ys, _, h1, h2 => by
    obtain ⟨v, r, e, r1, r2⟩ := h1
    obtain ⟨w, s, e', s1, s2⟩ := h2
    subst e
    injection e' with e1 e2
    injection e1 with e1 e3
    subst e2 e3
    rw [map_inj (fun _ _ q => Sum.inl.inj q) e1, RD.inj k r1 s1, RDt.inj k r2 s2]
end
end Tf
end
section
set_option Elab.async false
set_option linter.all false
set_option maxRecDepth 100000
namespace TfQ
open PySem PySem.Calls PyProof.Rows PyProof.V PySem.Spec
section
variable {prog : Program} {w : World} {κ : Type} [DecidableEq κ] {knd : HeapKind prog w κ} {A : Around} {E : Value → Shared → Prop} {s : Shared}
def SameT (xs ys : List (κ × Addr × Value)) : Prop := xs.length = ys.length ∧ ∀ (i : Nat) (k : κ) (p : Addr) (v : Value), xs[i]? = some (k, p, v) → ∃ q n t u, ys[i]? = some (k, q, Value.int n u) ∧ v = Value.int n t
theorem same_tabs {nm : String} {a b : Addr} {xs ys : List (κ × Addr × Value)} {Q : Bool → Shared → Prop} (na : (a == sysModules) = false) (nb : (b == sysModules) = false) (room : knd.room A)
    (ta : s.heap.DictOfH knd a xs) (tb : s.heap.DictOfH knd b ys) (hs : SameT xs ys) (h : Q true s) : wpAny (model prog w) A (Builtin.Dict.samePairs nm a b) Q E s := by
  obtain ⟨ox, ex, px, gx, _, dx, lx, kx, _⟩ := ta
  obtain ⟨oy, ey, py, gy, _, dy, ly, ky, ny⟩ := tb
  have zx := size_of_entries lx
  have zy := size_of_entries ly
  have zz : ex.size = ey.size := by rw [zx, zy]; exact hs.1
  unfold Builtin.Dict.samePairs Builtin.Dict.showsAll
  have n1 : ¬ (a == sysModules) = true := by rw [na]; exact Bool.false_ne_true
  have n2 : ¬ (b == sysModules) = true := by rw [nb]; exact Bool.false_ne_true
  rw [if_neg n1, if_neg n2]
  refine wpAny_bind (wpAny_pure ?_)
  refine wpAny_bind (wpAny_pure ?_)
  refine wpAny_bind (wpAny_dictEntries gx dx ?_)
  dsimp only
  refine wpAny_bind (wpAny_dictEntries gy dy ?_)
  have n3 : ¬ (ex.size != ey.size) = true := by rw [zz]; simp
  rw [if_neg n3]
  refine wpAny_bind (wpAny_dictEpoch gx dx ?_)
  refine wpAny_bind ?_
  rw [Std.Legacy.Range.forIn_eq_forIn_range']
  simp only [Std.Legacy.Range.size, Nat.sub_zero, Nat.add_sub_cancel, Nat.div_one]
  refine wpAny_forIn_list _ (fun rest q s2 => s2 = s ∧ q = (none, ()) ∧ ∃ i, rest = List.range' i (ex.size - i) ∧ i ≤ ex.size) _ ?_ ?_ _ _ ⟨rfl, rfl, 0, by simp, Nat.zero_le _⟩
  · rintro x rest q s2 ⟨rfl, rfl, i, er, hi⟩
    have lt : i < ex.size := by
      by_cases c : i < ex.size
      · exact c
      · have : ex.size - i = 0 := by omega
        rw [this] at er
        cases er
    obtain ⟨n, en⟩ : ∃ n, ex.size - i = n + 1 := ⟨ex.size - i - 1, by omega⟩
    rw [en, List.range'_succ] at er
    injection er with e1 e2
    subst e1
    have e2 : rest = List.range' (x + 1) (ex.size - (x + 1)) := by
      rw [e2]
      have : ex.size - (x + 1) = n := by omega
      rw [this]
    refine wpAny_bind (wpAny_dictEntries gx dx ?_)
    have lt2 : x < xs.length := by rw [← zx]; exact lt
    obtain ⟨⟨k, p, v⟩, ek⟩ : ∃ y, xs[x]? = some y := ⟨_, List.getElem?_eq_getElem lt2⟩
    obtain ⟨q, n, t, u, eq, ev⟩ := hs.2 x k p v ek
    subst ev
    have at1 : ex[x]? = some ⟨knd.hash k, .ref p, Value.int n t⟩ := by rw [entry_at lx x, ek]; rfl
    have at2 : ey[x]? = some ⟨knd.hash k, .ref q, Value.int n u⟩ := by rw [entry_at ly x, eq]; rfl
    rw [at1]
    dsimp only
    refine wpAny_bind (wpAny_holding ?_)
    refine wpAny_bind (wpAny_dictFind_heap room (kx _ (List.mem_of_getElem? ek)) gy dy ly ky ny (fun no => absurd eq (no x _)) fun j r ej => ?_)
    have ejx : j = x := idxH_unique ny ej eq
    subst ejx
    dsimp only
    refine wpAny_bind (wpAny_dictEntries gy dy ?_)
    rw [at2]
    dsimp only
    refine wpAny_holding ((SeqAt.EqAt.int_int n t n u : SeqAt.EqAt A s2 _ _ _) prog w _ _ ?_)
    have n4 : ¬ (!(n == n)) = true := by simp
    rw [if_neg n4]
    refine wpAny_bind (wpAny_dictEpoch gx dx ?_)
    have n5 : ¬ (px != px) = true := by simp
    rw [if_neg n5]
    exact wpAny_pure ⟨rfl, rfl, j + 1, e2, lt⟩
  · rintro q s2 ⟨rfl, rfl, i, er, hi⟩
    exact wpAny_pure h
theorem eq_tabs {a b : Addr} {xs ys : List (κ × Addr × Value)} {Q : Value → Shared → Prop} (na : (a == sysModules) = false) (nb : (b == sysModules) = false) (hu : A.units < cLine) (room : knd.room A.in1)
    (ta : s.heap.DictOfH knd a xs) (tb : s.heap.DictOfH knd b ys) (hs : SameT xs ys) (h : Q (.bool true) s) : wpAny (model prog w) A (richCompare .Eq (.ref a) (.ref b)) Q E s := by
  refine wpAny_richCompare_same_room (op := .Eq) ta.typeIs tb.typeIs PySem.F.slot_dict_eq (wpAny_call_entry PySem.F.slot_dict_eq ta.typeIs PySem.F.entry_dict_eq ?_ (PySem.F.args_dict_eq_2 _ _)) hu
  refine wpAny_bind ?_
  unfold Builtin.Dict.dictSlotArgs
  refine wpAny_bind (wpAny_notOrdered_dict ta.typeIs ?_)
  show wpAny _ _ (pure (Value.ref a, Value.ref b)) _ _ s
  refine wpAny_pure ?_
  refine wpAny_bind (wpAny_isInstance (T := "dict") tb.typeIs PySem.F.sub_dict_dict ?_)
  simp only [Bool.not_true, Bool.false_eq_true, if_false]
  refine wpAny_bind (wpAny_pure ?_)
  refine wpAny_bind (wpAny_pure ?_)
  refine wpAny_bind (same_tabs na nb room ta tb hs ?_)
  refine wpAny_pure ⟨_, rfl, fun x => (nomatch x), ?_⟩
  simpa using h
theorem ne_tabs {a b : Addr} {xs ys : List (κ × Addr × Value)} {Q : Value → Shared → Prop} (na : (a == sysModules) = false) (nb : (b == sysModules) = false) (hu : A.units < cLine) (room : knd.room A.in1)
    (ta : s.heap.DictOfH knd a xs) (tb : s.heap.DictOfH knd b ys) (hs : SameT xs ys) (h : Q (.bool false) s) : wpAny (model prog w) A (richCompare .NotEq (.ref a) (.ref b)) Q E s := by
  refine wpAny_richCompare_same_room (op := .NotEq) ta.typeIs tb.typeIs PySem.F.slot_dict_ne (wpAny_call_entry PySem.F.slot_dict_ne ta.typeIs PySem.F.entry_dict_ne ?_ (PySem.F.args_dict_ne_2 _ _)) hu
  refine wpAny_bind ?_
  unfold Builtin.Dict.dictSlotArgs
  refine wpAny_bind (wpAny_notOrdered_dict ta.typeIs ?_)
  show wpAny _ _ (pure (Value.ref a, Value.ref b)) _ _ s
  refine wpAny_pure ?_
  refine wpAny_bind (wpAny_isInstance (T := "dict") tb.typeIs PySem.F.sub_dict_dict ?_)
  simp only [Bool.not_true, Bool.false_eq_true, if_false]
  refine wpAny_bind (wpAny_pure ?_)
  refine wpAny_bind (wpAny_pure ?_)
  refine wpAny_bind (same_tabs na nb room ta tb hs ?_)
  refine wpAny_pure ⟨_, rfl, fun x => (nomatch x), ?_⟩
  simpa using h
end
end TfQ
namespace Tf
open PySem PySem.Spec PyProof.Rows L2
section
variable {T : Tb} {X : Cx} {G : Prog} {cl : Call}
theorem tab_rd {F : Hp} {x : D} {u : V} {kvs : List (List Int × D)} (h : tabD x = some kvs) (r : RD T F x u) : ∃ a ws, u = .ref a ∧ Rd F a (.dT ws) ∧ RDt T F kvs ws := by
  cases x with
  | dcT k =>
    cases h
    obtain ⟨a, ws, e, e2, r⟩ := r
    exact ⟨a, ws, e, .inl e2, r⟩
  | lkT k =>
    cases h
    obtain ⟨a, ws, e, ⟨ob, e2⟩, r⟩ := r
    exact ⟨a, ws, e, .inr ⟨ob, e2⟩, r⟩
  | _ => cases h
theorem same_rds {H : Hp} : ∀ {F F2 : Hp} {kvs kvs2 : List (List Int × D)} {ns : List (List Int × Int)} {ws ws2 : List (List Key × V)} {xs ys : List (List Key × Addr × Value)}, intsT kvs = some ns → intsT kvs2 = some ns → RDt T F kvs ws → RDt T F2 kvs2 ws2 → KT H ws xs → KT H ws2 ys → TfQ.SameT xs ys
  | F, F2, [], kvs2, ns, ws, ws2, xs, ys, e1, e2, r1, r2, k1, k2 => by
    cases e1
    cases kvs2 with
    | nil =>
      have e1 : ws = [] := r1
      have e2 : ws2 = [] := r2
      subst e1 e2
      cases k1
      cases k2
      exact ⟨rfl, fun i k p v e => by cases e⟩
    | cons y r =>
      obtain ⟨k, x⟩ := y
      cases x with
      | int n =>
        obtain ⟨ms, em, h⟩ := Option.map_eq_some_iff.mp (show (intsT r).map ((k, n) :: ·) = some [] from e2)
        cases h
      | _ => cases e2
  | F, F2, (k, x) :: r, kvs2, ns, ws, ws2, xs, ys, e1, e2, r1, r2, k1, k2 => by
    cases x with
    | int n =>
      obtain ⟨ms, em, en⟩ := Option.map_eq_some_iff.mp (show (intsT r).map ((k, n) :: ·) = some ns from e1)
      subst en
      cases kvs2 with
      | nil => cases e2
      | cons y r' =>
        obtain ⟨k', x'⟩ := y
        cases x' with
        | int n' =>
          obtain ⟨ms', em', h⟩ := Option.map_eq_some_iff.mp (show (intsT r').map ((k', n') :: ·) = some ((k, n) :: ms) from e2)
          injection h with h1 h2
          injection h1 with h1 h3
          subst h1 h2 h3
          obtain ⟨v1, s1, f1, d1, r1⟩ := r1
          obtain ⟨v2, s2, f2, d2, r2⟩ := r2
          subst f1 f2
          have d1 : v1 = .int n' := d1
          have d2 : v2 = .int n' := d2
          subst d1 d2
          cases k1 with
          | @cons _ y1 _ l1 q1 t1 =>
            cases k2 with
            | @cons _ y2 _ l2 q2 t2 =>
              obtain ⟨hl, hh⟩ := same_rds em em' r1 r2 t1 t2
              obtain ⟨c1, p1, u1⟩ := y1
              obtain ⟨c2, p2, u2⟩ := y2
              obtain ⟨a1, a2, a3⟩ := q1
              obtain ⟨b1, b2, b3⟩ := q2
              obtain ⟨t, et⟩ := (show ∃ t, u1 = Value.int n' t from a3)
              obtain ⟨t', et'⟩ := (show ∃ t, u2 = Value.int n' t from b3)
              have a1 : k'.map Sum.inl = c1 := a1
              have b1 : k'.map Sum.inl = c2 := b1
              subst a1 b1 et et'
              refine ⟨by rw [List.length_cons, List.length_cons, hl], fun i c p v e => ?_⟩
              cases i with
              | zero =>
                cases e
                exact ⟨p2, n', t, t', rfl, rfl⟩
              | succ i => exact hh i c p v e
        | _ => cases e2
    | _ => cases e1
theorem dEq_some {x y : D} {b : Bool} (e : dEq x y = some b) : b = true ∧ ∃ k l a, tabD x = some k ∧ tabD y = some l ∧ intsT k = some a ∧ intsT l = some a := by
  obtain ⟨k, e1, e⟩ := Option.bind_eq_some_iff.mp e
  obtain ⟨l, e2, e⟩ := Option.bind_eq_some_iff.mp e
  obtain ⟨a, e3, e⟩ := Option.bind_eq_some_iff.mp e
  obtain ⟨c, e4, e⟩ := Option.bind_eq_some_iff.mp e
  by_cases h : a = c
  · subst h
    rw [if_pos rfl] at e
    exact ⟨(Option.some.inj e).symm, k, l, a, e1, e2, e3, e4⟩
  · rw [if_neg h] at e
    cases e
theorem dEqV_some {rec : D → D → Option Bool} {x y : D} {b : Bool} (e : dEqV rec x y = some b) : b = true ∧ ∃ k l, tabD x = some k ∧ tabD y = some l ∧ allT rec k l = true := by
  obtain ⟨k, e1, e⟩ := Option.bind_eq_some_iff.mp e
  obtain ⟨l, e2, e⟩ := Option.bind_eq_some_iff.mp e
  by_cases h : allT rec k l = true
  · rw [if_pos h] at e
    exact ⟨(Option.some.inj e).symm, k, l, e1, e2, h⟩
  · rw [if_neg h] at e
    cases e
theorem or_some {α : Type} {a b : Option α} {c : α} (h : a.or b = some c) : a = some c ∨ b = some c := by
  cases a with
  | none => exact .inr h
  | some d => exact .inl h
theorem rd_up {F H : Hp} {a : Addr} {o : HO} (sF : Same F H) (h : Rd F a o) : Rd H a o := by
  rcases h with h | ⟨ob, h⟩
  · exact .inl (sF _ _ h)
  · exact .inr ⟨ob, sF _ _ h⟩
theorem dEq_c {b : Bool} {A : Around} {pins : List (Addr × Obj)} {s : Shared} {z : L2.St} {F H : Hp} {x y : D} {u1 u2 : V} {v1 v2 : Value} (hu : A.units + 1 < cLine) (e : dEq x y = some b) (I : Inv X pins z H s) (r1 : L2.RelV u1 v1) (r2 : L2.RelV u2 v2) (sF : Same F H) (rx : RD T F x u1) (ry : RD T F y u2) :
    wpAny (model X.prog X.w) A (richCompare .Eq v1 v2) (fun r s' => r = .bool b ∧ ∃ H', Inv X pins z H' s' ∧ Ext H H') X.xe s ∧ wpAny (model X.prog X.w) A (richCompare .NotEq v1 v2) (fun r s' => r = .bool (!b) ∧ ∃ H', Inv X pins z H' s' ∧ Ext H H') X.xe s := by
  obtain ⟨eb, k, l, n, e1, e2, e3, e4⟩ := dEq_some e
  subst eb
  obtain ⟨p, ws, f1, g1, t1⟩ := tab_rd e1 rx
  obtain ⟨q, ws2, f2, g2, t2⟩ := tab_rd e2 ry
  subst f1 f2
  obtain rfl : v1 = Value.ref p := r1
  obtain rfl : v2 = Value.ref q := r2
  obtain ⟨_, na, xs, ka, da⟩ := dt_rd I.hok (rd_up sF g1)
  obtain ⟨_, nb, ys, kb, db⟩ := dt_rd I.hok (rd_up sF g2)
  have hs := same_rds e3 e4 t1 t2 ka kb
  exact ⟨TfQ.eq_tabs na nb (Nat.lt_of_succ_lt hu) (tupleKind_room_in1 hu) da db hs ⟨rfl, H, I, Ext.rfl'⟩, TfQ.ne_tabs na nb (Nat.lt_of_succ_lt hu) (tupleKind_room_in1 hu) da db hs ⟨rfl, H, I, Ext.rfl'⟩⟩
end
end Tf
end
section
set_option Elab.async false
set_option linter.all false
set_option maxRecDepth 100000
namespace Tf
open PySem PySem.Spec PyProof.Rows L2
section
variable {T : Tb} {RX : XR} {W : WX} {X : Cx} {G : Prog} {cl : Call} {md : Md}
def Refl (G : Prog) (cl : Call) : Prop := ∀ c fs f b, G.meth c m_eq = some f → ansB (cl f [owned (.ins c fs), owned (.ins c fs)]) = some b → b = true
def DVal (T : Tb) : D → Prop
  | .ins c _ => c < T.nc
  | _ => True
theorem RD.val {F : Hp} {x : D} {u : V} (h : RD T F x u) : DVal T x := by
  cases x with
  | ins c fs => obtain ⟨a, dx, gs, hc, _⟩ := h; exact hc
  | _ => trivial
structure EqOk (X : Cx) (T : Tb) (RX : XR) (G : Prog) (cl : Call) (k : Nat) (fA : Nat → Addr) : Prop where
  at_ : ∀ c f, c < T.nc → G.meth c m_eq = some f → PySem.W.findIn X.K (.ref (T.cA c)) "__eq__" = some (some (.ref (fA f))) ∧ PySem.W.isFn X.K (.ref (fA f)) = true ∧ FnD X T RX cl k (fA f) f ∧
    ∀ y t, DVal T y → tyD T y = some t → PySem.W.notFirst X.K (T.cA c) t = true
  neq : ∀ c, c < T.nc → PySem.W.findIn X.K (.ref (T.cA c)) "__ne__" = some (some (.builtin "object.__ne__")) ∧ PySem.W.mroIn X.K (T.cA c) (.type "object") = some true ∧ PySem.W.mroIn X.K (T.cA c) (.type "NoneType") = some false
  refl : Refl G cl
  one : ∀ (pins : List (Addr × Obj)) (z : L2.St) (F H : Hp) (s : Shared), Inv X pins z H s → Same F H → RDone T F
theorem looks_ty {pins : List (Addr × Obj)} {z : L2.St} {F H : Hp} {s : Shared} {y : D} {u : V} {v t : Value} (I : Inv X pins z H s) (sF : Same F H) (r : L2.RelV u v) (rd : RD T F y u) (e : tyD T y = some t) : PySem.W.Looks (model X.prog X.w) s.heap (typeOf v) t := by
  have obj : ∀ {a : Addr} {o : Obj} {c : Value}, s.heap.get? a = some o → o.cls = c → v = .ref a → PySem.W.Looks (model X.prog X.w) s.heap (typeOf v) c := fun {a o c} h hc hv => by
    subst hv hc
    exact PySem.W.Looks.andThen (PySem.W.Looks.ld (part := some headPart) h) .now
  cases y with
  | non => cases (Option.some.inj e); cases (show u = .non from rd); cases (show v = Value.none from r); exact PySem.W.Looks.of_pure rfl
  | bl b => cases (Option.some.inj e); cases (show u = .bl b from rd); cases (show v = Value.bool b from r); exact PySem.W.Looks.of_pure rfl
  | int i => cases (Option.some.inj e); cases (show u = .int i from rd); obtain ⟨tk, rfl⟩ := (show ∃ t, v = Value.int i t from r); exact PySem.W.Looks.of_pure rfl
  | str i => cases (Option.some.inj e); cases (show u = .str i from rd); obtain ⟨tk, rfl⟩ := (show ∃ t, v = Value.str i t from r); exact PySem.W.Looks.of_pure rfl
  | tup xs =>
    cases (Option.some.inj e)
    obtain ⟨a, us, rfl, ea, _⟩ := rd
    obtain ⟨_, its, _, hh⟩ := (show ObjOk X.prog X.w H s.heap a (.tup us) from I.hok a _ (sF _ _ ea))
    obtain ⟨o, h1, h2, _⟩ := hh
    exact obj h1 h2 r
  | lst xs =>
    cases (Option.some.inj e)
    obtain ⟨a, us, rfl, ea, _⟩ := rd
    obtain ⟨_, its, n, _, hh⟩ := (show ObjOk X.prog X.w H s.heap a (.lst us) from I.hok a _ (sF _ _ ea))
    exact obj hh rfl r
  | ins c fs =>
    cases (Option.some.inj e)
    obtain ⟨a, dx, gs, hc, rfl, ea, _⟩ := rd
    obtain ⟨ox, od, J⟩ := inst_at I (sF _ _ ea)
    cases (show v = Value.ref a from r)
    exact J.type
  | scr ns =>
    cases (Option.some.inj e)
    obtain ⟨a, ob, rfl, ea⟩ := rd
    obtain ⟨_, _, its, n, _, hh⟩ := (show ObjOk X.prog X.w H s.heap a (.frz ob (.lst (ns.map V.int))) from I.hok a _ (sF _ _ ea))
    exact obj hh rfl r
  | _ => cases e
theorem eqA_refl {rec : D → D → Option Bool} (hr : Refl G cl) (h : ∀ x b, rec x x = some b → b = true) (x : D) (b : Bool) (e : eqA G cl rec x x = some b) : b = true := by
  have hl : ∀ (xs : List D) (b : Bool), eqL rec xs xs = some b → b = true := fun xs => by
    induction xs with
    | nil => intro b e; exact (Option.some.inj e).symm
    | cons y ys ih =>
      intro b e
      have e : (match rec y y with
        | some true => eqL rec ys ys
        | some false => some false
        | none => none) = some b := e
      cases q : rec y y with
      | none => rw [q] at e; cases e
      | some c =>
        have := h y c q
        subst this
        rw [q] at e
        exact ih b e
  cases x with
  | non => exact (Option.some.inj e).symm
  | bl a => have e' := Option.some.inj (show some (a == a) = some b from e); rw [← e']; simp
  | int a => have e' := Option.some.inj (show some (a == a) = some b from e); rw [← e']; simp
  | str a => have e' := Option.some.inj (show some (a == a) = some b from e); rw [← e']; simp
  | lst xs =>
    have e : (if xs.length = xs.length then eqL rec xs xs else some false) = some b := e
    rw [if_pos rfl] at e
    exact hl xs b e
  | tup xs =>
    obtain ⟨c, ec, eb⟩ := Option.map_eq_some_iff.mp (show (eqL rec xs xs).map (fun b => b && decide (xs.length = xs.length)) = some b from e)
    have := hl xs c ec
    subst this
    rw [← eb]
    simp
  | ins c fs =>
    have e : (match G.meth c m_eq, eqTo (.ins c fs) with
    | some f, true => ansB (cl f [owned (.ins c fs), owned (.ins c fs)])
    | _, _ => none) = some b := e
    cases q : G.meth c m_eq with
    | none => rw [q] at e; cases e
    | some f => rw [q] at e; exact hr c fs f b q e
  | dcT k => exact (or_some (show (dEq (.dcT k) (.dcT k)).or (dEqV rec (.dcT k) (.dcT k)) = some b from e)).elim (fun e => (dEq_some e).1) fun e => (dEqV_some e).1
  | lkT k => exact (or_some (show (dEq (.lkT k) (.lkT k)).or (dEqV rec (.lkT k) (.lkT k)) = some b from e)).elim (fun e => (dEq_some e).1) fun e => (dEqV_some e).1
  | _ => cases e
theorem eqD_refl (hr : Refl G cl) : ∀ (d : Nat) (x : D) (b : Bool), eqD G cl d x x = some b → b = true
  | 0 => eqA_refl hr fun x b e => by cases e
  | d + 1 => eqA_refl hr (eqD_refl hr d)
def RcP (X : Cx) (T : Tb) (n : Nat) (rec : D → D → Option Bool) : Prop :=
  ∀ (x y : D) (b : Bool) (A : Around) (pins : List (Addr × Obj)) (s : Shared) (z : L2.St) (F H : Hp) (u1 u2 : V) (v1 v2 : Value), rec x y = some b → Sub X n A → Inv X pins z H s → L2.RelV u1 v1 → L2.RelV u2 v2 → Same F H → RD T F x u1 → RD T F y u2 →
    wpAny (model X.prog X.w) A (richCompare .Eq v1 v2) (fun r s' => r = .bool b ∧ ∃ H', Inv X pins z H' s' ∧ Ext H H') X.xe s
def EbP (X : Cx) (T : Tb) (n : Nat) (rec : D → D → Option Bool) : Prop :=
  ∀ (x y : D) (b : Bool) (A : Around) (pins : List (Addr × Obj)) (s : Shared) (z : L2.St) (F H : Hp) (u1 u2 : V) (v1 v2 : Value), rec x y = some b → Sub X n A → Inv X pins z H s → L2.RelV u1 v1 → L2.RelV u2 v2 → Same F H → RD T F x u1 → RD T F y u2 →
    wpAny (model X.prog X.w) A (eqBool v1 v2) (fun r s' => r = b ∧ ∃ H', Inv X pins z H' s' ∧ Ext H H') X.xe s
theorem inv_at {n : Nat} {A : Around} {pins : List (Addr × Obj)} {z : L2.St} {H : Hp} {s : Shared} (sb : Sub X n A) (I : Inv X pins z H s) : Inv { X with A := A } pins z H s :=
  have ok : Cx.Ok { X with A := A } := ⟨I.ok.mod, I.ok.kind, I.ok.glob, I.ok.blt, I.ok.above, I.ok.inj, I.ok.has, I.ok.cab, fun _ => sb.room.hd, by show A.frames = _; rw [sb.fr]; exact I.ok.frames, I.ok.stk, I.ok.exf, I.ok.bs, I.ok.bsz, I.ok.noex, I.ok.exfs, I.ok.funs, I.ok.frf⟩
  ⟨ok, I.os, I.bare, I.base, I.loc, I.cell, I.free, I.freeC, I.pin, I.hok, I.len⟩
theorem inv_un {A : Around} {pins : List (Addr × Obj)} {z : L2.St} {H : Hp} {s : Shared} (ok : X.Ok) (I : Inv { X with A := A } pins z H s) : Inv X pins z H s := ⟨ok, I.os, I.bare, I.base, I.loc, I.cell, I.free, I.freeC, I.pin, I.hok, I.len⟩
theorem rc_scal {n : Nat} {A : Around} {pins : List (Addr × Obj)} {s : Shared} {z : L2.St} {H : Hp} {u1 u2 : V} {v1 v2 : Value} {b : Bool} (sb : Sub X n A) (I : Inv X pins z H s) (r1 : L2.RelV u1 v1) (r2 : L2.RelV u2 v2) (hs : scal u1 u2 = true) (hb : decide (u1 = u2) = b) :
    wpAny (model X.prog X.w) A (richCompare .Eq v1 v2) (fun r s' => r = .bool b ∧ ∃ H', Inv X pins z H' s' ∧ Ext H H') X.xe s := by
  have h := op_eq (X := { X with A := A }) pins s z H u1 u2 v1 v2 (fun v H' => v = .bl b ∧ H' = H) (inv_at sb I) r1 r2 ⟨hs, by rw [hb]; exact ⟨rfl, rfl⟩⟩
  have h : wpAny (model X.prog X.w) A (richCompare .Eq v1 v2) (EP { X with A := A } pins z fun v H' => v = .bl b ∧ H' = H) X.xe s := h
  refine wpAny_mono h (fun r s' ⟨v, H', I', rv, ev, eH⟩ => ?_) fun _ _ x => x
  subst ev eH
  exact ⟨rv, H', inv_un I.ok I', Ext.rfl'⟩
theorem ansB_some {r : CR} {b : Bool} (h : ansB r = some b) : r = .ret (.d (.bl b)) [] := by
  cases r with
  | ret v ls => cases v with
    | d x => cases x with
      | bl c => cases ls with
        | nil => cases (Option.some.inj h); rfl
        | cons _ _ => cases h
      | _ => cases h
    | _ => cases h
  | _ => cases h
theorem own_call {k : Nat} {fA : Nat → Addr} {c f : Nat} {fs : List (Nat × D)} {y : D} {b : Bool} {A : Around} {pins : List (Addr × Obj)} {s : Shared} {z : L2.St} {F H : Hp} {a : Addr} {u2 : V} {v2 : Value} (FD : FnD X T RX cl k (fA f) f) (ea : ansB (cl f [owned (.ins c fs), owned y]) = some b)
    (sb : Sub X k A) (I : Inv X pins z H s) (r2 : L2.RelV u2 v2) (sF : Same F H) (rx : RD T F (.ins c fs) (.ref a)) (ry : RD T F y u2) :
    wpAny (model X.prog X.w) A (call (.ref (fA f)) [.ref a, v2]) (fun r s' => r = .bool b ∧ ∃ H', Inv X pins z H' s' ∧ Ext H H') X.xe s := by
  have sp : spD T RX cl f [V.ref a, u2] H (fun v H' => v = .bl b ∧ Ext H H') fun _ _ _ => False := by
    refine ⟨fun a => if (F a).isSome then none else H a, F, [owned (.ins c fs), owned y], [], ⟨_, _, [], [], rfl, rfl, ⟨rfl, rx⟩, _, _, [], [], rfl, rfl, ⟨rfl, ry⟩, rfl, rfl⟩, ⟨fun a => by simp, fun a m => (by cases m), fun a m => (by cases m), fun a q e => ?_, sF, fun a q e => ?_⟩, ?_⟩
    · split at e
      · cases e
      · exact e
    · split at e
      · cases e
      · rename_i hn
        cases hh : F a with
        | none => exact .inl rfl
        | some q => rw [hh] at hn; exact absurd rfl hn
    · rw [ansB_some ea]
      rintro F1 H1 u s1 ⟨o, B, C, eo, ro, rl, ow⟩
      have eo : O.d (.bl b) = o := Option.some.inj eo
      subst eo
      refine ⟨ro.2, fun a q e => ?_⟩
      cases hh : F a with
      | some q' =>
        have := sF _ _ hh
        rw [e] at this
        cases this
        exact ow.fH _ _ (s1 _ _ hh)
      | none =>
        refine ow.pH _ _ ?_
        show (if (F a).isSome then none else H a) = some q
        rw [hh]
        exact e
  have e0 : Env0 X.prog X.w X.K X.mg X.base A X.stack s H := by
    have e := I.env0
    exact ⟨by rw [sb.fr]; exact e.frames, e.mod, e.bs, e.bsz, e.funs, e.frf, e.hok, e.bare⟩
  refine wpAny_call (codeAny_mono (FD A X.stack s H [.ref a, v2] [.ref a, u2] _ _ sb.room e0 (.cons rfl (.cons r2 .nil)) sp) fun r s' hq => ?_)
  cases r with
  | error e =>
    obtain ⟨_, _, _, _, _, _, _, _, _, _, _, _, ff⟩ := hq
    exact ff.elim
  | ok fl =>
    cases fl with
    | ret w =>
      obtain ⟨zz, H', I', rz, ez, ex⟩ := I.after hq
      subst ez
      cases rz
      exact ⟨rfl, H', I', ex⟩
    | next => exact False.elim hq
    | brk => exact False.elim hq
    | cont => exact False.elim hq
theorem rc_own {k : Nat} {fA : Nat → Addr} (hO : EqOk X T RX G cl k fA) {c f : Nat} {fs : List (Nat × D)} {y : D} {b : Bool} {A : Around} {pins : List (Addr × Obj)} {s : Shared} {z : L2.St} {F H : Hp} {u1 u2 : V} {v1 v2 : Value} (ef : G.meth c m_eq = some f) (et : eqTo y = true) (ea : ansB (cl f [owned (.ins c fs), owned y]) = some b)
    (sb : Sub X k A) (I : Inv X pins z H s) (r1 : L2.RelV u1 v1) (r2 : L2.RelV u2 v2) (sF : Same F H) (rx : RD T F (.ins c fs) u1) (ry : RD T F y u2) :
    wpAny (model X.prog X.w) A (richCompare .Eq v1 v2) (fun r s' => r = .bool b ∧ ∃ H', Inv X pins z H' s' ∧ Ext H H') X.xe s := by
  obtain ⟨t, ht⟩ : ∃ t, tyD T y = some t := by cases y <;> first | exact ⟨_, rfl⟩ | cases et
  obtain ⟨a, dx, gs, hc, e1, eA, rf⟩ := id rx
  subst e1
  obtain rfl : v1 = Value.ref a := r1
  obtain ⟨h1, h2, FD, hnf⟩ := hO.at_ c f hc ef
  obtain ⟨ox, od, J⟩ := inst_at I (sF _ _ eA)
  obtain ⟨mm, hF⟩ := I.fr
  refine PySem.W.cmp_K (op := .Eq) sb.room.units0 hF I.ok.mod.kin J (looks_ty I sF r2 ry ht) (hnf y t ry.val ht) h1 h2 (wpAny_mono (own_call (fA := fA) FD ea sb I r2 sF rx ry) (fun r s' hq => ?_) fun _ _ x => x)
  obtain ⟨rfl, hq⟩ := hq
  exact ⟨rfl, hq⟩
theorem eqL_step {rec : D → D → Option Bool} {xs ys : List D} {i : Nat} {x y : D} {b : Bool} (ex : xs[i]? = some x) (ey : ys[i]? = some y) (h : eqL rec (xs.drop i) (ys.drop i) = some b) :
    ∃ c, rec x y = some c ∧ (c = true → eqL rec (xs.drop (i + 1)) (ys.drop (i + 1)) = some b) ∧ (c = false → b = false) := by
  obtain ⟨hx, ex⟩ := List.getElem?_eq_some_iff.mp ex
  obtain ⟨hy, ey⟩ := List.getElem?_eq_some_iff.mp ey
  rw [List.drop_eq_getElem_cons hx, List.drop_eq_getElem_cons hy, ex, ey] at h
  have h : (match rec x y with
    | some true => eqL rec (xs.drop (i + 1)) (ys.drop (i + 1))
    | some false => some false
    | none => none) = some b := h
  cases q : rec x y with
  | none => rw [q] at h; cases h
  | some c =>
    rw [q] at h
    cases c with
    | true => exact ⟨true, rfl, fun _ => h, fun e => (by cases e)⟩
    | false => exact ⟨false, rfl, fun e => (by cases e), fun _ => (Option.some.inj h).symm⟩
def WalkI (X : Cx) (pins : List (Addr × Obj)) (z : L2.St) (H : Hp) (rec : D → D → Option Bool) (xs ys : List D) (b : Bool) (i : Nat) (s' : Shared) : Prop := ∃ H', Inv X pins z H' s' ∧ Ext H H' ∧ eqL rec (xs.drop i) (ys.drop i) = some b
def WalkJ (X : Cx) (pins : List (Addr × Obj)) (z : L2.St) (H : Hp) (b : Bool) (s' : Shared) : Prop := ∃ H', Inv X pins z H' s' ∧ Ext H H' ∧ b = false
theorem walk_turn {n : Nat} {rec : D → D → Option Bool} (he : EbP X T n rec) {A : Around} (sb : Sub X (n + 1) A) {pins : List (Addr × Obj)} {z : L2.St} {F H : Hp} {xs ys : List D} {us1 us2 : List V} {its its2 : List Value} {b : Bool} (sF : Same F H) (rx : RDs T F xs us1) (ry : RDs T F ys us2) (r : Vals us1 its) (r2 : Vals us2 its2)
    (i : Nat) (h1 : i < its.toArray.size) (h2 : i < its2.toArray.size) (s' : Shared) (l : WalkI X pins z H rec xs ys b i s') :
    wpAny (model X.prog X.w) A.in1 (eqBool its.toArray[i] its2.toArray[i]) (fun r s2 => if r = true then WalkI X pins z H rec xs ys b (i + 1) s2 else WalkJ X pins z H b s2) X.xe s' := by
  obtain ⟨H1, I1, e1, hl⟩ := l
  have g1 : its[i]? = some its.toArray[i] := by
    have h1' : i < its.length := by simpa using h1
    rw [List.getElem?_eq_getElem h1'] <;> simp
  have g2 : its2[i]? = some its2.toArray[i] := by
    have h2' : i < its2.length := by simpa using h2
    rw [List.getElem?_eq_getElem h2'] <;> simp
  have k1 : i < us1.length := by rw [r.length]; simpa using h1
  have k2 : i < us2.length := by rw [r2.length]; simpa using h2
  have j1 : i < xs.length := by rw [rx.len]; exact k1
  have j2 : i < ys.length := by rw [ry.len]; exact k2
  obtain ⟨u, hu, rd1⟩ := rx.get (List.getElem?_eq_getElem j1)
  obtain ⟨v, hv, rd2⟩ := ry.get (List.getElem?_eq_getElem j2)
  obtain ⟨w1, hw1, rw1⟩ := r.get hu
  obtain ⟨w2, hw2, rw2⟩ := r2.get hv
  rw [g1] at hw1
  rw [g2] at hw2
  rw [Option.some.inj hw1, Option.some.inj hw2]
  obtain ⟨c, hc, ht, hf⟩ := eqL_step (List.getElem?_eq_getElem j1) (List.getElem?_eq_getElem j2) hl
  refine wpAny_mono (he _ _ c A.in1 pins s' z F H1 u v w1 w2 hc sb.in1 I1 rw1 rw2 (fun a o e => e1 a o (sF a o e)) rd1 rd2) (fun r s2 q => ?_) fun _ _ x => x
  obtain ⟨hr, H2, I2, e2⟩ := q
  subst hr
  cases r with
  | true => exact ⟨H2, I2, e1.trans e2, ht rfl⟩
  | false => exact ⟨H2, I2, e1.trans e2, hf rfl⟩
theorem rc_lst {n : Nat} {rec : D → D → Option Bool} (he : EbP X T n rec) {A : Around} (sb : Sub X (n + 1) A) {pins : List (Addr × Obj)} {s : Shared} {z : L2.St} {F H : Hp} {xs ys : List D} {b : Bool} {u1 u2 : V} {v1 v2 : Value} (e : (if xs.length = ys.length then eqL rec xs ys else some false) = some b) (I : Inv X pins z H s) (r1 : L2.RelV u1 v1) (r2 : L2.RelV u2 v2) (sF : Same F H)
    (rx : RD T F (.lst xs) u1) (ry : RD T F (.lst ys) u2) : wpAny (model X.prog X.w) A (richCompare .Eq v1 v2) (fun r s' => r = .bool b ∧ ∃ H', Inv X pins z H' s' ∧ Ext H H') X.xe s := by
  obtain ⟨l, us1, e1, el, rx⟩ := rx
  obtain ⟨m, us2, e2, em, ry⟩ := ry
  subst e1 e2
  obtain rfl : v1 = Value.ref l := r1
  obtain rfl : v2 = Value.ref m := r2
  have at_ : ∀ (H' : Hp) (s' : Shared), Inv X pins z H' s' → Ext H H' → ∃ (its its2 : List Value) (n n2 : Nat), Vals us1 its ∧ Vals us2 its2 ∧ s'.heap.get? l = some { cls := .type "list", data := .seq its.toArray n } ∧ s'.heap.get? m = some { cls := .type "list", data := .seq its2.toArray n2 } := fun H' s' I' ex => by
    obtain ⟨its, n, v, g, _⟩ := I'.lst (ex _ _ (sF _ _ el))
    obtain ⟨its2, n2, v2, g2, _⟩ := I'.lst (ex _ _ (sF _ _ em))
    exact ⟨its, its2, n, n2, v, v2, g, g2⟩
  obtain ⟨its, its2, n1, n2, v, v2, g, g2⟩ := at_ H s I Ext.rfl'
  refine PySem.wpAny_richCompare_same_room (op := .Eq) ⟨_, g, rfl⟩ ⟨_, g2, rfl⟩ PySem.F.slot_list_eq (GQ.call_here PySem.F.slot_list_eq ⟨_, g, rfl⟩ PySem.F.entry_list_eq (PySem.F.args_list_eq_2 _ _) ?_) sb.room.units0
  by_cases hlen : xs.length = ys.length
  · rw [if_pos hlen] at e
    have hN : us1.length = us2.length := by rw [← rx.len, ← ry.len, hlen]
    refine TfE.list_eq (R := wants (fun v s' => v ≠ .notImplemented ∧ (v = .bool b ∧ ∃ H', Inv X pins z H' s' ∧ Ext H H')) X.xe) l m us1.length (WalkI X pins z H rec xs ys b) (WalkJ X pins z H b) ?_ ?_ ?_ ?_ ⟨H, I, Ext.rfl', e⟩
    · rintro i s' ⟨H', I', ex, hl⟩
      obtain ⟨it1, it2, m1, m2, w1, w2, k1, k2⟩ := at_ H' s' I' ex
      refine ⟨it1.toArray, it2.toArray, m1, m2, k1, k2, by simpa using w1.length.symm, by rw [hN]; simpa using w2.length.symm, fun h1 h2 => ?_⟩
      exact walk_turn he sb sF rx ry w1 w2 i h1 h2 s' ⟨H', I', ex, hl⟩
    · rintro s' ⟨H', I', ex, hl⟩
      refine ⟨(fun x => nomatch x), ?_, H', I', ex⟩
      rw [List.drop_of_length_le (by rw [rx.len]; exact Nat.le_refl _)] at hl
      rw [← Option.some.inj hl]
    · rintro s' ⟨H', I', ex, hb⟩
      exact ⟨(fun x => nomatch x), by rw [hb], H', I', ex⟩
    · rintro s' ⟨H', I', ex, hb⟩
      obtain ⟨it1, it2, m1, m2, w1, w2, k1, k2⟩ := at_ H' s' I' ex
      exact ⟨it1.toArray, it2.toArray, m1, m2, k1, k2, by simpa using w1.length.symm, by rw [hN]; simpa using w2.length.symm⟩
  · rw [if_neg hlen] at e
    have hb := Option.some.inj e
    refine TfE.list_ne (R := wants (fun v s' => v ≠ .notImplemented ∧ (v = .bool b ∧ ∃ H', Inv X pins z H' s' ∧ Ext H H')) X.xe) l m its.toArray its2.toArray n1 n2 g g2 ?_ ⟨(fun x => nomatch x), by rw [← hb], H, I, Ext.rfl'⟩
    intro q
    apply hlen
    rw [rx.len, ry.len, v.length, v2.length]
    simpa using q
theorem rc_tup {n : Nat} {rec : D → D → Option Bool} (he : EbP X T n rec) {A : Around} (sb : Sub X (n + 1) A) {pins : List (Addr × Obj)} {s : Shared} {z : L2.St} {F H : Hp} {xs ys : List D} {b : Bool} {u1 u2 : V} {v1 v2 : Value} (e : (eqL rec xs ys).map (fun b => b && decide (xs.length = ys.length)) = some b) (I : Inv X pins z H s) (r1 : L2.RelV u1 v1) (r2 : L2.RelV u2 v2) (sF : Same F H)
    (rx : RD T F (.tup xs) u1) (ry : RD T F (.tup ys) u2) : wpAny (model X.prog X.w) A (richCompare .Eq v1 v2) (fun r s' => r = .bool b ∧ ∃ H', Inv X pins z H' s' ∧ Ext H H') X.xe s := by
  obtain ⟨b0, e0, eb⟩ := Option.map_eq_some_iff.mp e
  obtain ⟨l, us1, e1, el, rx⟩ := rx
  obtain ⟨m, us2, e2, em, ry⟩ := ry
  subst e1 e2
  obtain rfl : v1 = Value.ref l := r1
  obtain rfl : v2 = Value.ref m := r2
  obtain ⟨its, v, g, _⟩ := I.tuple (.of (sF _ _ el))
  obtain ⟨its2, v2, g2, _⟩ := I.tuple (.of (sF _ _ em))
  obtain ⟨⟨cls, dd, data, sl⟩, ho, hc, n1, hd⟩ := id g
  obtain ⟨⟨cls2, dd2, data2, sl2⟩, ho2, hc2, n2, hd2⟩ := id g2
  simp only at hc hd hc2 hd2
  subst hc hd hc2 hd2
  refine PySem.wpAny_richCompare_same_room (op := .Eq) ⟨_, ho, rfl⟩ ⟨_, ho2, rfl⟩ PySem.F.slot_tuple_eq (GQ.call_here PySem.F.slot_tuple_eq ⟨_, ho, rfl⟩ PySem.F.entry_tuple_eq (PySem.F.args_tuple_eq_2 _ _) ?_) sb.room.units0
  have L1 : its.toArray.size = xs.length := by rw [rx.len, v.length]; simp
  have L2' : its2.toArray.size = ys.length := by rw [ry.len, v2.length]; simp
  refine TfE.tuple_eq (R := wants (fun v s' => v ≠ .notImplemented ∧ (v = .bool b ∧ ∃ H', Inv X pins z H' s' ∧ Ext H H')) X.xe) l m its.toArray its2.toArray n1 n2 dd dd2 sl sl2 (WalkI X pins z H rec xs ys b0) (WalkJ X pins z H b0) ?_ ?_ ?_ ho ho2 ⟨H, I, Ext.rfl', e0⟩
  · exact fun i h1 h2 s' w => walk_turn he sb sF rx ry v v2 i h1 h2 s' w
  · rintro i s' ⟨H', I', ex, hl⟩ hi
    refine ⟨(fun x => nomatch x), ?_, H', I', ex⟩
    have hb0 : b0 = true := by
      rcases hi with hi | hi
      · rw [List.drop_of_length_le (by rw [← L1, hi]; exact Nat.le_refl _)] at hl
        exact (Option.some.inj hl).symm
      · rw [List.drop_of_length_le (l := ys) (by rw [← L2', hi]; exact Nat.le_refl _)] at hl
        cases q : xs.drop i with
        | nil => rw [q] at hl; exact (Option.some.inj hl).symm
        | cons x r => rw [q] at hl; exact (Option.some.inj hl).symm
    rw [← eb, hb0, L1, L2']
    simp [BEq.beq]
  · rintro s' ⟨H', I', ex, hb⟩
    exact ⟨(fun x => nomatch x), by rw [← eb, hb]; rfl, H', I', ex⟩
end
end Tf
end
section
set_option Elab.async false
set_option linter.all false
set_option maxRecDepth 100000
namespace TfN
open PySem PySem.Spec PyProof.Rows PySem.SeqAt
section
variable {prog : Program} {w : World} {M : Model} {A : Around} {E : Value → Shared → Prop} {s : Shared} {K : PySem.W.Frag} {x C f L : Addr} {ox : Obj} {od : Option Obj} {b tb : Value} {h₀ : Heap} {m : Str → Option Value}
theorem ifBound_neO {args : List Value} {Q : Option Value → Shared → Prop} (X : K.In s.heap) (I : PySem.W.InstAt s.heap x ox C od) (hs : PySem.W.findIn K (.ref C) "__ne__" = some (some (.builtin "object.__ne__")))
    (h : wpAny M A (call (.builtin "object.__ne__") (.ref x :: args)) (fun v => Q (some v)) E s) : wpAny M A (callSpecialIfBound? (.ref x) "__ne__" args) Q E s := by
  unfold callSpecialIfBound? bindSpecialIfBound?
  refine wpAny_holding (wpAny_bind (wpAny_bind (wpAny_bind (I.type.here ((PySem.W.looks_findIn X hs).here ?_)))))
  refine wpAny_bind (wpAny_askSetting (wpAny_ite ?_))
  have last : wpAny M A (call (.builtin "object.__ne__") ([.ref x] ++ args) >>= fun v => pure (some v)) Q E s := wpAny_bind (wpAny_mono h (fun _ _ z => wpAny_pure z) fun _ _ z => z)
  split
  · exact wpAny_bind (wpAny_of_eq (F.cmp_object.ne.bind _) (wpAny_pure last))
  · exact wpAny_tryCatch (wpAny_bind (wpAny_of_eq (F.cmp_object.ne.bind _) (wpAny_pure last)))
theorem entry_neO {Q : Fin → Shared → Prop} (hu : A.units < cLine) (X : K.In s.heap) (I : PySem.W.InstAt s.heap x ox C od) (he : PySem.W.findIn K (.ref C) "__eq__" = some (some (.ref f))) (hf : PySem.W.isFn K (.ref f) = true)
    (hcall : wpAny (model prog w) A (call (.ref f) [.ref x, b]) (fun v s' => ∃ c, v = .bool c ∧ Q (.done (.ret (.bool (!c)))) s') E s) : wpAny (model prog w) A (Builtin.«object.__ne__» ⟨[.ref x, b], []⟩) Q E s := by
  unfold Builtin.«object.__ne__»
  repeat (first
    | with_reducible refine wpAny_cRoomFor hu ?_
    | (refine wpAny_bind (m := callSpecialIfBound? (.ref x) (Str.ofString "__eq__") [b])
        (PySem.W.ifBound_K X I he hf (wpAny_mono hcall (fun r s' hr => by
          obtain ⟨c, rfl, hq⟩ := hr
          repeat (first | exact hq | exact wpAny_pure hq | exact wpAny_truthy_bool hq | (refine wpAny_bind (m := truthy (.bool _)) (wpAny_truthy_bool ?_)) | wp_step)) fun _ _ z => z)))
    | wp_step)
theorem ne_K {Q : Value → Shared → Prop} (hu : A.units + 1 < cLine) (hF : Fr h₀ L s.heap m) (X₀ : K.In h₀) (I : PySem.W.InstAt s.heap x ox C od) (hb : PySem.W.Looks (model prog w) s.heap (typeOf b) tb) (hn : PySem.W.notFirst K C tb = true) (hm : PySem.W.mroIn K C (.type "object") = some true)
    (hs : PySem.W.findIn K (.ref C) "__ne__" = some (some (.builtin "object.__ne__"))) (he : PySem.W.findIn K (.ref C) "__eq__" = some (some (.ref f))) (hf : PySem.W.isFn K (.ref f) = true)
    (h : wpAny (model prog w) A.in1 (call (.ref f) [.ref x, b]) (fun v s' => ∃ c, v = .bool c ∧ Q (.bool (!c)) s') E s) : wpAny (model prog w) A (richCompare .NotEq (.ref x) b) Q E s := by
  have X := X₀.keeps hF.keep
  have one : wpAny (model prog w) A (tryCompare (.ref x) "__ne__" b) (fun r s' => ∃ v, r = some v ∧ Q v s') E s := by
    unfold tryCompare
    refine wpAny_bind (ifBound_neO X I hs (wpAny_call (codeAny_call_builtin F.cmp_object.ne.plain F.cmpEntry_ne (PySem.W.check_slot F.cmpKind_ne F.cmpSplit_ne (I.type.andThen (PySem.W.looks_mroIn X hm)) (F.cmpArgs_ne _ _)
      (entry_neO (A := A.in1) hu X I he hf (wpAny_mono h (fun v s' hv => ?_) fun _ _ z => z))))))
    obtain ⟨c, rfl, hq⟩ := hv
    first | exact ⟨c, rfl, wpAny_pure ⟨_, rfl, hq⟩⟩ | exact ⟨c, rfl, wpAny_pure (wpAny_pure ⟨_, rfl, hq⟩)⟩ | exact ⟨c, rfl, _, rfl, hq⟩
  unfold richCompare
  simp only [oneThing_ref]
  refine wpAny_holding (wpAny_bind (wpAny_cRoomFor (by omega) ?_))
  refine wpAny_bind (I.type.here (wpAny_bind (hb.here ?_)))
  have tail : wpAny (model prog w) A (tryCompare (.ref x) "__ne__" b) (fun r s' => ∃ v, r = some v ∧ Q v s') E s := one
  split
  · rename_i q
    have e : PySem.W.subIn K tb (.ref C) = some false := by
      rcases Bool.or_eq_true_iff.mp hn with e | e
      · rw [beq_iff_eq.mp e] at q; simp at q
      · exact beq_iff_eq.mp e
    refine wpAny_bind ((PySem.W.looks_subIn X e).here ?_)
    simp only [Bool.false_eq_true, if_false]
    refine wpAny_bind (wpAny_mono tail (fun r s' z => ?_) fun _ _ z => z)
    obtain ⟨v, rfl, hq⟩ := z
    exact wpAny_pure hq
  · refine wpAny_bind (wpAny_pure ?_)
    simp only [Bool.false_eq_true, if_false]
    refine wpAny_bind (wpAny_mono tail (fun r s' z => ?_) fun _ _ z => z)
    obtain ⟨v, rfl, hq⟩ := z
    exact wpAny_pure hq
theorem eq_noneK {Q : Value → Shared → Prop} (hu : A.units < cLine) (hF : Fr h₀ L s.heap m) (X₀ : K.In h₀) (I : PySem.W.InstAt s.heap x ox C od) (hm : PySem.W.mroIn K C (.type "NoneType") = some false)
    (he : PySem.W.findIn K (.ref C) "__eq__" = some (some (.ref f))) (hf : PySem.W.isFn K (.ref f) = true)
    (h : wpAny (model prog w) A (call (.ref f) [.ref x, .none]) (fun v s' => ∃ c, v = .bool c ∧ Q (.bool c) s') E s) : wpAny (model prog w) A (richCompare .Eq .none (.ref x)) Q E s := by
  have X := X₀.keeps hF.keep
  have one : wpAny (model prog w) A (tryCompare (.ref x) (cmpInfo .Eq).2.2 .none) (fun r s' => ∃ v, r = some v ∧ Q v s') E s := by
    unfold tryCompare
    refine wpAny_bind (PySem.W.ifBound_K X I he hf (wpAny_mono h (fun v s' hv => ?_) fun _ _ e => e))
    obtain ⟨c, rfl, hq⟩ := hv
    exact wpAny_pure ⟨_, rfl, hq⟩
  have hT : s.TypeIs .none "NoneType" := rfl
  have h1 : Slot "NoneType" (cmpInfo .Eq).2.1 "NoneType.__eq__" := F.slot_NoneType_eq
  rcases hi : cmpInfo CmpOp.Eq with ⟨sym, n1, n2⟩
  rw [hi] at one h1
  simp only [richCompare, hi, hT.oneThing_none]
  refine wpAny_holding (wpAny_bind (wpAny_cRoomFor hu ?_))
  refine wpAny_bind (wpAny_typeOf hT (wpAny_bind (I.type.here ?_)))
  have hne : (Value.type "NoneType" != Value.ref C) = true := rfl
  simp only [hne, if_true]
  refine wpAny_bind ((PySem.W.looks_mroIn X hm).here ?_)
  simp only [Bool.false_eq_true, if_false, Bool.not_false, if_true]
  refine wpAny_bind (m := tryCompare .none _ (.ref x)) (wpAny_tryCompare_declines hT h1 (call_gives F.slot_NoneType_eq hT F.entry_NoneType_eq (F.args_NoneType_eq_2 _ _) (NoneType___eq___none_ref_0 x) ⟨rfl, ?_⟩))
  refine wpAny_bind (m := tryCompare (.ref x) _ .none) (wpAny_mono one (fun r s' z => ?_) fun _ _ e => e)
  obtain ⟨v, rfl, hq⟩ := z
  exact wpAny_pure hq
theorem ne_noneK {Q : Value → Shared → Prop} (hu : A.units + 1 < cLine) (hF : Fr h₀ L s.heap m) (X₀ : K.In h₀) (I : PySem.W.InstAt s.heap x ox C od) (hN : PySem.W.mroIn K C (.type "NoneType") = some false) (hm : PySem.W.mroIn K C (.type "object") = some true)
    (hs : PySem.W.findIn K (.ref C) "__ne__" = some (some (.builtin "object.__ne__"))) (he : PySem.W.findIn K (.ref C) "__eq__" = some (some (.ref f))) (hf : PySem.W.isFn K (.ref f) = true)
    (h : wpAny (model prog w) A.in1 (call (.ref f) [.ref x, .none]) (fun v s' => ∃ c, v = .bool c ∧ Q (.bool (!c)) s') E s) : wpAny (model prog w) A (richCompare .NotEq .none (.ref x)) Q E s := by
  have X := X₀.keeps hF.keep
  have one : wpAny (model prog w) A (tryCompare (.ref x) (cmpInfo .NotEq).2.2 .none) (fun r s' => ∃ v, r = some v ∧ Q v s') E s := by
    unfold tryCompare
    refine wpAny_bind (ifBound_neO X I hs (wpAny_call (codeAny_call_builtin F.cmp_object.ne.plain F.cmpEntry_ne (PySem.W.check_slot F.cmpKind_ne F.cmpSplit_ne (I.type.andThen (PySem.W.looks_mroIn X hm)) (F.cmpArgs_ne _ _)
      (entry_neO (A := A.in1) hu X I he hf (wpAny_mono h (fun v s' hv => ?_) fun _ _ z => z))))))
    obtain ⟨c, rfl, hq⟩ := hv
    first | exact ⟨c, rfl, wpAny_pure ⟨_, rfl, hq⟩⟩ | exact ⟨c, rfl, wpAny_pure (wpAny_pure ⟨_, rfl, hq⟩)⟩ | exact ⟨c, rfl, _, rfl, hq⟩
  have hT : s.TypeIs .none "NoneType" := rfl
  have h1 : Slot "NoneType" (cmpInfo .NotEq).2.1 "NoneType.__ne__" := F.slot_NoneType_ne
  rcases hi : cmpInfo CmpOp.NotEq with ⟨sym, n1, n2⟩
  rw [hi] at one h1
  simp only [richCompare, hi, hT.oneThing_none]
  refine wpAny_holding (wpAny_bind (wpAny_cRoomFor (by omega) ?_))
  refine wpAny_bind (wpAny_typeOf hT (wpAny_bind (I.type.here ?_)))
  have hne : (Value.type "NoneType" != Value.ref C) = true := rfl
  simp only [hne, if_true]
  refine wpAny_bind ((PySem.W.looks_mroIn X hN).here ?_)
  simp only [Bool.false_eq_true, if_false, Bool.not_false, if_true]
  refine wpAny_bind (m := tryCompare .none _ (.ref x)) (wpAny_tryCompare_declines hT h1 (call_gives F.slot_NoneType_ne hT F.entry_NoneType_ne (F.args_NoneType_ne_2 _ _) (NoneType___ne___none_ref_0 x) ⟨rfl, ?_⟩))
  refine wpAny_bind (m := tryCompare (.ref x) _ .none) (wpAny_mono one (fun r s' z => ?_) fun _ _ e => e)
  obtain ⟨v, rfl, hq⟩ := z
  exact wpAny_pure hq
end
end TfN
end
section
set_option Elab.async false
set_option linter.all false
set_option maxRecDepth 100000
set_option maxHeartbeats 1000000
namespace Tf
open PySem PySem.Spec PyProof.Rows L2
mutual
theorem RD.del {T : Tb} {F : Hp} {p : Addr} (hp : ∀ o, F p = some o → ∃ ws, o = HO.dT ws) : ∀ {x : D} {v : V}, x.noD = true → RD T F x v → RD T (fun a => if a = p then none else F a) x v
  | .non, _, _, r => r
  | .bl _, _, _, r => r
  | .int _, _, _, r => r
  | .str _, _, _, r => r
  | .tup xs, _, h, r => by
    obtain ⟨a, vs, e, e2, r⟩ := r
    have ne : a ≠ p := fun q => by subst q; obtain ⟨_, h⟩ := hp _ e2; cases h
    exact ⟨a, vs, e, by show (if a = p then none else F a) = _; rw [if_neg ne]; exact e2, RDs.del hp h r⟩
  | .lst xs, _, h, r => by
    obtain ⟨a, vs, e, e2, r⟩ := r
    have ne : a ≠ p := fun q => by subst q; obtain ⟨_, h⟩ := hp _ e2; cases h
    exact ⟨a, vs, e, by show (if a = p then none else F a) = _; rw [if_neg ne]; exact e2, RDs.del hp h r⟩
  | .ins c fs, _, h, r => by
    obtain ⟨a, dx, gs, hc, e, e2, r⟩ := r
    have ne : a ≠ p := fun q => by subst q; obtain ⟨_, h⟩ := hp _ e2; cases h
    exact ⟨a, dx, gs, hc, e, by show (if a = p then none else F a) = _; rw [if_neg ne]; exact e2, RDf.del hp h r⟩
  | .cls c, _, _, r => r
  | .scr ns, _, _, r => by
    obtain ⟨a, ob, e, e2⟩ := r
    have ne : a ≠ p := fun q => by subst q; obtain ⟨_, h⟩ := hp _ e2; cases h
    exact ⟨a, ob, e, by show (if a = p then none else F a) = _; rw [if_neg ne]; exact e2⟩
  | .dcI _, _, h, _ => by cases h
  | .dcT _, _, h, _ => by cases h
  | .lkI _, _, h, _ => by cases h
  | .lkT _, _, h, _ => by cases h
  | .exn _ _, _, h, _ => by cases h
theorem RDs.del {T : Tb} {F : Hp} {p : Addr} (hp : ∀ o, F p = some o → ∃ ws, o = HO.dT ws) : ∀ {xs : List D} {vs : List V}, D.noDs xs = true → RDs T F xs vs → RDs T (fun a => if a = p then none else F a) xs vs
  | [], _, _, r => r
  | x :: xs, _, h, r => by
    obtain ⟨v, s, e, r1, r2⟩ := r
    have h : (x.noD && D.noDs xs) = true := h
    rw [Bool.and_eq_true] at h
    exact ⟨v, s, e, RD.del hp h.1 r1, RDs.del hp h.2 r2⟩
theorem RDf.del {T : Tb} {F : Hp} {p : Addr} (hp : ∀ o, F p = some o → ∃ ws, o = HO.dT ws) : ∀ {xs : List (Nat × D)} {vs : List (PySem.Str × V)}, D.noDf xs = true → RDf T F xs vs → RDf T (fun a => if a = p then none else F a) xs vs
  | [], _, _, r => r
  | (k, x) :: xs, _, h, r => by
    obtain ⟨v, s, hk, e, r1, r2⟩ := r
    have h : (x.noD && D.noDf xs) = true := h
    rw [Bool.and_eq_true] at h
    exact ⟨v, s, hk, e, RD.del hp h.1 r1, RDf.del hp h.2 r2⟩
end
section
variable {T : Tb} {X : Cx} {G : Prog} {cl : Call}
theorem allT_step {rec : D → D → Option Bool} : ∀ {k l : List (List Int × D)} {i : Nat} {a : List Int} {x : D}, allT rec k l = true → k[i]? = some (a, x) → ∃ y, l[i]? = some (a, y) ∧ x.noD = true ∧ y.noD = true ∧ rec x y = some true
  | [], _, i, a, x, _, e => by cases e
  | (b, x0) :: xs, [], i, a, x, h, e => by cases h
  | (b, x0) :: xs, (c, y0) :: ys, i, a, x, h, e => by
    have h : (decide (b = c) && x0.noD && y0.noD && (rec x0 y0 == some true) && allT rec xs ys) = true := h
    simp only [Bool.and_eq_true, decide_eq_true_eq, beq_iff_eq] at h
    obtain ⟨⟨⟨⟨h1, h2⟩, h3⟩, h4⟩, h5⟩ := h
    cases i with
    | zero =>
      cases e
      exact ⟨y0, by rw [h1]; rfl, h2, h3, h4⟩
    | succ i =>
      have e : xs[i]? = some (a, x) := e
      exact allT_step (k := xs) (l := ys) h5 e
theorem allT_len {rec : D → D → Option Bool} : ∀ {k l : List (List Int × D)}, allT rec k l = true → k.length = l.length
  | [], [], _ => rfl
  | [], _ :: _, h => by cases h
  | _ :: _, [], h => by cases h
  | (b, x0) :: xs, (c, y0) :: ys, h => by
    have h : (decide (b = c) && x0.noD && y0.noD && (rec x0 y0 == some true) && allT rec xs ys) = true := h
    simp only [Bool.and_eq_true, decide_eq_true_eq, beq_iff_eq] at h
    rw [List.length_cons, List.length_cons, allT_len h.2]
theorem RDt.at2 {F : Hp} : ∀ {k : List (List Int × D)} {ws : List (List Key × V)} {i : Nat} {a : List Int} {x : D}, RDt T F k ws → k[i]? = some (a, x) → ∃ v, ws[i]? = some (a.map Sum.inl, v) ∧ RD T F x v
  | [], _, i, a, x, _, e => by cases e
  | (b, y) :: r, ws, i, a, x, h, e => by
    obtain ⟨v, t, e2, r1, r2⟩ := h
    subst e2
    cases i with
    | zero => cases e; exact ⟨v, rfl, r1⟩
    | succ i =>
      have e : r[i]? = some (a, x) := e
      exact RDt.at2 (k := r) (ws := t) r2 e
theorem RDt.len2 {F : Hp} : ∀ {k : List (List Int × D)} {ws : List (List Key × V)}, RDt T F k ws → k.length = ws.length
  | [], _, h => by
    have h : _ = [] := h
    rw [h]
    rfl
  | (b, y) :: r, ws, h => by
    obtain ⟨v, t, e2, r1, r2⟩ := h
    subst e2
    rw [List.length_cons, List.length_cons, RDt.len2 r2]
theorem KT_get {H : Hp} {ws : List (List Key × V)} {xs : List (List Key × Addr × Value)} (h : KT H ws xs) : ∀ {i : Nat} {a : List Key} {v : V}, ws[i]? = some (a, v) → ∃ p u, xs[i]? = some (a, p, u) ∧ L2.RelV v u := by
  induction h with
  | nil => intro i a v e; cases e
  | @cons p q l1 l2 hq t ih =>
    intro i a v e
    cases i with
    | zero =>
      cases e
      obtain ⟨c, d, u⟩ := q
      obtain ⟨h1, h2, h3⟩ := hq
      have h1 : a = c := h1
      subst h1
      exact ⟨d, u, rfl, h3⟩
    | succ i => exact ih e
theorem same_vals {n : Nat} {rec : D → D → Option Bool} (he : EbP X T n rec) {B : Around} (sb : Sub X n B) (hroom : (tupleKind (mixKind X.prog X.w)).room B) {pins : List (Addr × Obj)} {z : L2.St} {F H : Hp} {s : Shared} {p q : Addr} {od : Obj} {ws ws2 : List (List Key × V)} {k l : List (List Int × D)} {nm : String} {Q : Bool → Shared → Prop} {E : Value → Shared → Prop} (hE : ∀ v s, X.xe v s → E v s)
    (sF : Same F H) (hp : H p = some (.frz od (.dT ws))) (hq : Rd H q (.dT ws2)) (t1 : RDt T F k ws) (t2 : RDt T F l ws2) (e : allT rec k l = true) (I : Inv X pins z H s)
    (hQ : ∀ s' H', Inv X pins z H' s' → Ext H H' → Q true s') : wpAny (model X.prog X.w) B (Builtin.Dict.samePairs nm p q) Q E s := by
  have up : ∀ {H' : Hp}, Ext H H' → Rd H' q (.dT ws2) := fun ex => rd_up ex hq
  have upP : ∀ {H' : Hp}, Ext H H' → Rd H' p (.dT ws) := fun ex => .inr ⟨od, ex _ _ hp⟩
  have atO : ∀ {H' : Hp} {s' : Shared}, Inv X pins z H' s' → Ext H H' → s'.heap.get? p = some od := fun I' ex => (I'.hok p _ (ex _ _ hp)).1
  obtain ⟨_, na, xs, ka, ox, es, ep, gx, xd, dx, lx, kx, nx⟩ := dt_rd I.hok (upP Ext.rfl')
  obtain ⟨_, nb, ys, kb, oy, es2, ep2, gy, yd, dy, ly, ky, ny⟩ := dt_rd I.hok (up Ext.rfl')
  have eox : ox = od := by
    have := atO I Ext.rfl'
    rw [gx] at this
    exact Option.some.inj this
  subst eox
  have zx := size_of_entries lx
  have zy := size_of_entries ly
  have hl := allT_len e
  have lws : k.length = ws.length := t1.len2
  have lws2 : l.length = ws2.length := t2.len2
  have zz : es.size = es2.size := by rw [zx, zy, ← ka.length, ← kb.length, ← lws, ← lws2, hl]
  have zk : es.size = k.length := by rw [zx, ← ka.length, lws]
  unfold Builtin.Dict.samePairs Builtin.Dict.showsAll
  have n1 : ¬ (p == sysModules) = true := by rw [na]; exact Bool.false_ne_true
  have n2 : ¬ (q == sysModules) = true := by rw [nb]; exact Bool.false_ne_true
  rw [if_neg n1, if_neg n2]
  refine wpAny_bind (wpAny_pure ?_)
  refine wpAny_bind (wpAny_pure ?_)
  refine wpAny_bind (wpAny_dictEntries gx dx ?_)
  dsimp only
  refine wpAny_bind (wpAny_dictEntries gy dy ?_)
  have n3 : ¬ (es.size != es2.size) = true := by rw [zz]; simp
  rw [if_neg n3]
  refine wpAny_bind (wpAny_dictEpoch gx dx ?_)
  refine wpAny_bind ?_
  rw [Std.Legacy.Range.forIn_eq_forIn_range']
  simp only [Std.Legacy.Range.size, Nat.sub_zero, Nat.add_sub_cancel, Nat.div_one]
  refine wpAny_forIn_list _ (fun rest q2 s2 => q2 = (none, ()) ∧ ∃ H' i, Inv X pins z H' s2 ∧ Ext H H' ∧ rest = List.range' i (es.size - i) ∧ i ≤ es.size) _ ?_ ?_ _ _ ⟨rfl, H, 0, I, Ext.rfl', by simp, Nat.zero_le _⟩
  · rintro x rest q2 s2 ⟨rfl, H', i, I', ex, er, hi⟩
    have lt : i < es.size := by
      by_cases c : i < es.size
      · exact c
      · have : es.size - i = 0 := by omega
        rw [this] at er
        cases er
    obtain ⟨n', en⟩ : ∃ n', es.size - i = n' + 1 := ⟨es.size - i - 1, by omega⟩
    rw [en, List.range'_succ] at er
    injection er with e1 e2
    subst e1
    have e2 : rest = List.range' (x + 1) (es.size - (x + 1)) := by
      rw [e2]
      have : es.size - (x + 1) = n' := by omega
      rw [this]
    have gx' := atO I' ex
    obtain ⟨_, _, xs', ka', ox', es', ep', gxx, _, dx', lx', kx', nx'⟩ := dt_rd I'.hok (upP ex)
    have eo : ox' = ox := by
      rw [gx'] at gxx
      exact (Option.some.inj gxx).symm
    subst eo
    have ee : es' = es := by
      rw [dx] at dx'
      injection dx' with h1 h2
      exact h1.symm
    subst ee
    obtain ⟨_, _, ys', kb', oy', es3, ep3, gy', _, dy', ly', ky', ny'⟩ := dt_rd I'.hok (up ex)
    refine wpAny_bind (wpAny_dictEntries gx' dx ?_)
    have ltk : x < k.length := by omega
    obtain ⟨⟨a, xv⟩, ek⟩ : ∃ y, k[x]? = some y := ⟨_, List.getElem?_eq_getElem ltk⟩
    obtain ⟨yv, el, nx1, ny1, hr⟩ := allT_step e ek
    obtain ⟨v1, hw1, rd1⟩ := t1.at2 ek
    obtain ⟨v2, hw2, rd2⟩ := t2.at2 el
    obtain ⟨pa, u1, hx1, rv1⟩ := KT_get ka' hw1
    obtain ⟨pb, u2, hx2, rv2⟩ := KT_get kb' hw2
    have at1 : es'[x]? = some ⟨(tupleKind (mixKind X.prog X.w)).hash (a.map Sum.inl), .ref pa, u1⟩ := by rw [entry_at lx' x, hx1]; rfl
    have at2 : es3[x]? = some ⟨(tupleKind (mixKind X.prog X.w)).hash (a.map Sum.inl), .ref pb, u2⟩ := by rw [entry_at ly' x, hx2]; rfl
    rw [at1]
    dsimp only
    refine wpAny_bind (wpAny_holding ?_)
    refine wpAny_bind (wpAny_dictFind_heap hroom (kx' _ (List.mem_of_getElem? hx1)) gy' dy' ly' ky' ny' (fun no => absurd hx2 (no x _)) fun j r ej => ?_)
    have ejx : j = x := idxH_unique ny' ej hx2
    subst ejx
    dsimp only
    refine wpAny_bind (wpAny_dictEntries gy' dy' ?_)
    rw [at2]
    dsimp only
    refine wpAny_holding ?_
    refine wpAny_mono (he _ _ true B pins s2 z F H' v1 v2 u1 u2 hr sb I' rv1 rv2 (fun a o e => ex a o (sF a o e)) rd1 rd2) (fun r s3 q3 => ?_) fun _ _ x => hE _ _ x
    obtain ⟨er, H3, I3, ex3⟩ := q3
    subst er
    have n4 : ¬ (!true) = true := by simp
    rw [if_neg n4]
    have gx3 := atO I3 (ex.trans ex3)
    refine wpAny_bind (wpAny_dictEpoch gx3 dx ?_)
    have n5 : ¬ (ep != ep) = true := by simp
    rw [if_neg n5]
    exact wpAny_pure ⟨rfl, H3, j + 1, I3, ex.trans ex3, e2, lt⟩
  · rintro q2 s2 ⟨rfl, H', i, I', ex, er, hi⟩
    exact wpAny_pure (hQ _ _ I' ex)
theorem RDt.del {F : Hp} {p : Addr} (hp : ∀ o, F p = some o → ∃ ws, o = HO.dT ws) : ∀ {xs : List (List Int × D)} {vs : List (List Key × V)}, (∀ q ∈ xs, q.2.noD = true) → RDt T F xs vs → RDt T (fun a => if a = p then none else F a) xs vs
  | [], _, _, r => r
  | (k, x) :: xs, _, h, r => by
    obtain ⟨v, s, e, r1, r2⟩ := r
    exact ⟨v, s, e, RD.del hp (h (k, x) List.mem_cons_self) r1, RDt.del hp (fun q m => h q (List.mem_cons_of_mem _ m)) r2⟩
theorem allT_noD {rec : D → D → Option Bool} : ∀ {k l : List (List Int × D)}, allT rec k l = true → (∀ q ∈ k, q.2.noD = true) ∧ ∀ q ∈ l, q.2.noD = true
  | [], [], _ => ⟨fun q m => (by cases m), fun q m => (by cases m)⟩
  | [], _ :: _, h => by cases h
  | _ :: _, [], h => by cases h
  | (b, x0) :: xs, (c, y0) :: ys, h => by
    have h : (decide (b = c) && x0.noD && y0.noD && (rec x0 y0 == some true) && allT rec xs ys) = true := h
    simp only [Bool.and_eq_true, decide_eq_true_eq, beq_iff_eq] at h
    obtain ⟨⟨⟨⟨h1, h2⟩, h3⟩, h4⟩, h5⟩ := h
    obtain ⟨i1, i2⟩ := allT_noD h5
    refine ⟨fun q m => ?_, fun q m => ?_⟩
    · rcases List.mem_cons.mp m with e | m
      · rw [e]; exact h2
      · exact i1 q m
    · rcases List.mem_cons.mp m with e | m
      · rw [e]; exact h3
      · exact i2 q m
theorem same_any {n : Nat} {rec : D → D → Option Bool} (he : EbP X T n rec) {B : Around} (sb : Sub X n B) (hroom : (tupleKind (mixKind X.prog X.w)).room B) {pins : List (Addr × Obj)} {z : L2.St} {F H : Hp} {s : Shared} {p q : Addr} {x y : D} {k l : List (List Int × D)} {nm : String} {Q : Bool → Shared → Prop} {E : Value → Shared → Prop} (hE : ∀ v s, X.xe v s → E v s)
    (sF : Same F H) (e1 : tabD x = some k) (e2 : tabD y = some l) (rx : RD T F x (.ref p)) (ry : RD T F y (.ref q)) (e : allT rec k l = true) (I : Inv X pins z H s)
    (hQ : ∀ s' H', Inv X pins z H' s' → Ext H H' → Q true s') : wpAny (model X.prog X.w) B (Builtin.Dict.samePairs nm p q) Q E s := by
  obtain ⟨p', ws, f1, g1, t1⟩ := tab_rd e1 rx
  obtain ⟨q', ws2, f2, g2, t2⟩ := tab_rd e2 ry
  cases f1
  cases f2
  rcases g1 with g1 | ⟨od, g1⟩
  · have hp := sF _ _ g1
    obtain ⟨od, I1⟩ := I.lock hp True.intro
    obtain ⟨nk, nl⟩ := allT_noD e
    have hd : ∀ o, F p = some o → ∃ ws, o = HO.dT ws := fun o h => by
      rw [g1] at h
      cases h
      exact ⟨_, rfl⟩
    have sF1 : Same (fun a => if a = p then none else F a) (upd H p (.frz od (.dT ws))) := fun a o h => by
      by_cases c : a = p
      · have h : (if a = p then none else F a) = some o := h
        rw [if_pos c] at h
        cases h
      · have h : (if a = p then none else F a) = some o := h
        rw [if_neg c] at h
        rw [upd_ne c]
        exact sF _ _ h
    have hq1 : Rd (upd H p (.frz od (.dT ws))) q (.dT ws2) := by
      by_cases c : q = p
      · subst c
        rcases g2 with g2 | ⟨o2, g2⟩
        · rw [g1] at g2
          cases g2
          exact .inr ⟨od, upd_same⟩
        · rw [g1] at g2
          cases g2
      · rcases g2 with g2 | ⟨o2, g2⟩
        · exact .inl (by rw [upd_ne c]; exact sF _ _ g2)
        · exact .inr ⟨o2, by rw [upd_ne c]; exact sF _ _ g2⟩
    refine same_vals he sb hroom hE sF1 upd_same hq1 (RDt.del hd nk t1) (RDt.del hd nl t2) e I1 fun s' H' I' ex => ?_
    have hp' : H' p = some (.frz od (.dT ws)) := ex _ _ upd_same
    refine hQ s' _ (I'.unlock hp' (I.nofrz hp True.intro)) fun a o h => ?_
    by_cases c : a = p
    · subst c
      rw [hp] at h
      cases h
      exact upd_same
    · rw [upd_ne c]
      exact ex _ _ (by rw [upd_ne c]; exact h)
  · exact same_vals he sb hroom hE sF (sF _ _ g1) (rd_up sF g2) t1 t2 e I hQ
theorem dEqV_c {n : Nat} {rec : D → D → Option Bool} (he : EbP X T n rec) {A : Around} (sb : Sub X (n + 1) A) {b : Bool} {pins : List (Addr × Obj)} {s : Shared} {z : L2.St} {F H : Hp} {x y : D} {u1 u2 : V} {v1 v2 : Value} (hu : A.units + 1 < cLine) (e : dEqV rec x y = some b) (I : Inv X pins z H s) (r1 : L2.RelV u1 v1) (r2 : L2.RelV u2 v2) (sF : Same F H) (rx : RD T F x u1) (ry : RD T F y u2) :
    wpAny (model X.prog X.w) A (richCompare .Eq v1 v2) (fun r s' => r = .bool b ∧ ∃ H', Inv X pins z H' s' ∧ Ext H H') X.xe s ∧ wpAny (model X.prog X.w) A (richCompare .NotEq v1 v2) (fun r s' => r = .bool (!b) ∧ ∃ H', Inv X pins z H' s' ∧ Ext H H') X.xe s := by
  obtain ⟨eb, k, l, e1, e2, e3⟩ := dEqV_some e
  subst eb
  obtain ⟨p, ws, f1, g1, t1⟩ := tab_rd e1 rx
  obtain ⟨q, ws2, f2, g2, t2⟩ := tab_rd e2 ry
  subst f1 f2
  obtain rfl : v1 = Value.ref p := r1
  obtain rfl : v2 = Value.ref q := r2
  obtain ⟨_, na, xs, ka, da⟩ := dt_rd I.hok (rd_up sF g1)
  obtain ⟨_, nb, ys, kb, db⟩ := dt_rd I.hok (rd_up sF g2)
  have S := fun (nm : String) (Q : Bool → Shared → Prop) (E : Value → Shared → Prop) (hE : ∀ v s, X.xe v s → E v s) hQ => same_any (nm := nm) (Q := Q) (E := E) he sb.in1 (tupleKind_room_in1 hu) hE sF e1 e2 rx ry e3 I hQ
  constructor
  · refine wpAny_richCompare_same_room (op := .Eq) da.typeIs db.typeIs PySem.F.slot_dict_eq (wpAny_call_entry PySem.F.slot_dict_eq da.typeIs PySem.F.entry_dict_eq ?_ (PySem.F.args_dict_eq_2 _ _)) (Nat.lt_of_succ_lt hu)
    refine wpAny_bind ?_
    unfold Builtin.Dict.dictSlotArgs
    refine wpAny_bind (wpAny_notOrdered_dict da.typeIs ?_)
    show wpAny _ _ (pure (Value.ref p, Value.ref q)) _ _ s
    refine wpAny_pure ?_
    refine wpAny_bind (wpAny_isInstance (T := "dict") db.typeIs PySem.F.sub_dict_dict ?_)
    simp only [Bool.not_true, Bool.false_eq_true, if_false]
    refine wpAny_bind (wpAny_pure ?_)
    refine wpAny_bind (wpAny_pure ?_)
    refine wpAny_bind (S _ _ _ (fun _ _ h => h) fun s' H' I' ex => ?_)
    refine wpAny_pure ⟨_, rfl, fun x => (nomatch x), ?_⟩
    exact ⟨by simp, H', I', ex⟩
  · refine wpAny_richCompare_same_room (op := .NotEq) da.typeIs db.typeIs PySem.F.slot_dict_ne (wpAny_call_entry PySem.F.slot_dict_ne da.typeIs PySem.F.entry_dict_ne ?_ (PySem.F.args_dict_ne_2 _ _)) (Nat.lt_of_succ_lt hu)
    refine wpAny_bind ?_
    unfold Builtin.Dict.dictSlotArgs
    refine wpAny_bind (wpAny_notOrdered_dict da.typeIs ?_)
    show wpAny _ _ (pure (Value.ref p, Value.ref q)) _ _ s
    refine wpAny_pure ?_
    refine wpAny_bind (wpAny_isInstance (T := "dict") db.typeIs PySem.F.sub_dict_dict ?_)
    simp only [Bool.not_true, Bool.false_eq_true, if_false]
    refine wpAny_bind (wpAny_pure ?_)
    refine wpAny_bind (wpAny_pure ?_)
    refine wpAny_bind (S _ _ _ (fun _ _ h => h) fun s' H' I' ex => ?_)
    refine wpAny_pure ⟨_, rfl, fun x => (nomatch x), ?_⟩
    exact ⟨by simp, H', I', ex⟩
end
end Tf
end
section
set_option Elab.async false
set_option linter.all false
set_option maxRecDepth 100000
namespace Tf
open PySem PySem.Spec PyProof.Rows L2
theorem eqBool_ne {prog : Program} {w : World} {A : Around} {E : Value → Shared → Prop} {s : Shared} {l : Addr} {v : Value} {Q : Bool → Shared → Prop} (hne : (Value.ref l == v) = false) (h : wpAny (model prog w) A (richCompare .Eq (.ref l) v) (fun v s' => ∃ r, v = .bool r ∧ Q r s') E s) : wpAny (model prog w) A (eqBool (.ref l) v) Q E s := by
  unfold eqBool
  refine wpAny_holding ?_
  refine wpAny_ite_split (fun hab => absurd hab (by rw [hne]; simp)) (fun _ => ?_)
  refine wpAny_bind (wpAny_mono h (fun v s' hv => ?_) fun _ _ x => x)
  obtain ⟨r, rfl, q⟩ := hv
  exact wpAny_truthy_bool q
theorem eqBool_neN {prog : Program} {w : World} {A : Around} {E : Value → Shared → Prop} {s : Shared} {l : Addr} {Q : Bool → Shared → Prop} (h : wpAny (model prog w) A (richCompare .Eq .none (.ref l)) (fun v s' => ∃ r, v = .bool r ∧ Q r s') E s) : wpAny (model prog w) A (eqBool .none (.ref l)) Q E s := by
  unfold eqBool
  refine wpAny_holding ?_
  refine wpAny_ite_split (fun hab => absurd (eq_of_beq hab) nofun) (fun _ => ?_)
  refine wpAny_bind (wpAny_mono h (fun v s' hv => ?_) fun _ _ x => x)
  obtain ⟨r, rfl, q⟩ := hv
  exact wpAny_truthy_bool q
section
variable {T : Tb} {RX : XR} {W : WX} {X : Cx} {G : Prog} {cl : Call} {md : Md}
def notIns : D → Bool
  | .ins _ _ => false
  | _ => true
theorem eqA_scal {rec : D → D → Option Bool} {F : Hp} {x y : D} {b : Bool} {u1 u2 : V} (hx : scalD x = true) (hy : notIns y = true) (e : eqA G cl rec x y = some b) (r1 : RD T F x u1) (r2 : RD T F y u2) : scal u1 u2 = true ∧ decide (u1 = u2) = b ∧ flatV u1 = true ∧ flatV u2 = true ∧ eqV u1 u2 = b := by
  cases x with
  | non =>
    cases (show u1 = .non from r1)
    cases y with
    | non => cases (show u2 = .non from r2); cases (Option.some.inj e); exact ⟨rfl, rfl, rfl, rfl, rfl⟩
    | bl c => cases (show u2 = .bl c from r2); cases (Option.some.inj e); exact ⟨rfl, rfl, rfl, rfl, rfl⟩
    | int c => cases (show u2 = .int c from r2); cases (Option.some.inj e); exact ⟨rfl, rfl, rfl, rfl, rfl⟩
    | str c => cases (show u2 = .str c from r2); cases (Option.some.inj e); exact ⟨rfl, rfl, rfl, rfl, rfl⟩
    | ins c fs => cases hy
    | _ => cases e
  | bl a =>
    cases (show u1 = .bl a from r1)
    cases y with
    | non => cases (show u2 = .non from r2); cases (Option.some.inj e); exact ⟨rfl, rfl, rfl, rfl, rfl⟩
    | bl c => cases (show u2 = .bl c from r2); cases (Option.some.inj (show some (a == c) = some b from e)); exact ⟨rfl, dec_bl, rfl, rfl, rfl⟩
    | str c => cases (show u2 = .str c from r2); cases (Option.some.inj e); exact ⟨rfl, rfl, rfl, rfl, rfl⟩
    | _ => cases e
  | int a =>
    cases (show u1 = .int a from r1)
    cases y with
    | non => cases (show u2 = .non from r2); cases (Option.some.inj e); exact ⟨rfl, rfl, rfl, rfl, rfl⟩
    | int c => cases (show u2 = .int c from r2); cases (Option.some.inj (show some (a == c) = some b from e)); exact ⟨rfl, dec_int, rfl, rfl, rfl⟩
    | str c => cases (show u2 = .str c from r2); cases (Option.some.inj e); exact ⟨rfl, rfl, rfl, rfl, rfl⟩
    | _ => cases e
  | str a =>
    cases (show u1 = .str a from r1)
    cases y with
    | non => cases (show u2 = .non from r2); cases (Option.some.inj e); exact ⟨rfl, rfl, rfl, rfl, rfl⟩
    | bl c => cases (show u2 = .bl c from r2); cases (Option.some.inj e); exact ⟨rfl, rfl, rfl, rfl, rfl⟩
    | int c => cases (show u2 = .int c from r2); cases (Option.some.inj e); exact ⟨rfl, rfl, rfl, rfl, rfl⟩
    | str c => cases (show u2 = .str c from r2); cases (Option.some.inj (show some (a == c) = some b from e)); exact ⟨rfl, dec_str, rfl, rfl, rfl⟩
    | _ => cases e
  | _ => cases hx
theorem none_ins {rec : D → D → Option Bool} {x y : D} {b : Bool} (hx : scalD x = true) (hy : notIns y = false) (e : eqA G cl rec x y = some b) : x = .non ∧ ∃ c fs f, y = .ins c fs ∧ G.meth c m_eq = some f ∧ ansB (cl f [owned (.ins c fs), owned .non]) = some b := by
  cases y with
  | ins c fs =>
    cases x with
    | non =>
      have e : (match G.meth c m_eq with
        | some f => ansB (cl f [owned (.ins c fs), owned .non])
        | none => none) = some b := e
      cases q : G.meth c m_eq with
      | none => rw [q] at e; cases e
      | some f => rw [q] at e; exact ⟨rfl, c, fs, f, rfl, q, e⟩
    | bl a => cases e
    | int a => cases e
    | str a => cases e
    | _ => cases hx
  | _ => cases hy
theorem rc_none {k : Nat} {fA : Nat → Addr} (hO : EqOk X T RX G cl k fA) {c f : Nat} {fs : List (Nat × D)} {b : Bool} {A : Around} {pins : List (Addr × Obj)} {s : Shared} {z : L2.St} {F H : Hp} {u1 u2 : V} {v1 v2 : Value} (ef : G.meth c m_eq = some f) (ea : ansB (cl f [owned (.ins c fs), owned .non]) = some b)
    (sb : Sub X k A) (I : Inv X pins z H s) (r1 : L2.RelV u1 v1) (r2 : L2.RelV u2 v2) (sF : Same F H) (rx : RD T F .non u1) (ry : RD T F (.ins c fs) u2) :
    ∃ a, v1 = .none ∧ v2 = .ref a ∧ wpAny (model X.prog X.w) A (richCompare .Eq v1 v2) (fun r s' => r = .bool b ∧ ∃ H', Inv X pins z H' s' ∧ Ext H H') X.xe s := by
  obtain ⟨a, dx, gs, hc, e1, eA, rf⟩ := id ry
  subst e1
  obtain rfl : v2 = Value.ref a := r2
  cases (show u1 = .non from rx)
  obtain rfl : v1 = Value.none := r1
  obtain ⟨h1, h2, FD, hnf⟩ := hO.at_ c f hc ef
  obtain ⟨ox, od, J⟩ := inst_at I (sF _ _ eA)
  obtain ⟨mm, hF⟩ := I.fr
  refine ⟨a, rfl, rfl, TfN.eq_noneK sb.room.units0 hF I.ok.mod.kin J (hO.neq c hc).2.2 h1 h2 (wpAny_mono (own_call (fA := fA) (v2 := .none) (u2 := .non) FD ea sb I rfl sF ry rfl) (fun r s' hq => ?_) fun _ _ x => x)⟩
  obtain ⟨rfl, hq⟩ := hq
  exact ⟨b, rfl, rfl, hq⟩
theorem rc_A {k n : Nat} {fA : Nat → Addr} {rec : D → D → Option Bool} (hO : EqOk X T RX G cl k fA) (hk : k ≤ n + 1) (he : EbP X T n rec) : RcP X T (n + 1) (eqA G cl rec) := by
  intro x y b A pins s z F H u1 u2 v1 v2 e sb I r1 r2 sF rx ry
  cases hx : scalD x with
  | true =>
    cases hy : notIns y with
    | true =>
      obtain ⟨h1, h2, _⟩ := eqA_scal hx hy e rx ry
      exact rc_scal sb I r1 r2 h1 h2
    | false =>
      obtain ⟨rfl, c, fs, f, rfl, q, ea⟩ := none_ins hx hy e
      obtain ⟨_, _, _, h⟩ := rc_none hO q ea (sb.mono hk) I r1 r2 sF rx ry
      exact h
  | false =>
    cases x with
    | lst xs => cases y with
      | lst ys => exact rc_lst he sb e I r1 r2 sF rx ry
      | _ => cases e
    | tup xs => cases y with
      | tup ys => exact rc_tup he sb e I r1 r2 sF rx ry
      | _ => cases e
    | ins c fs =>
      have e : (match G.meth c m_eq, eqTo y with
        | some f, true => ansB (cl f [owned (.ins c fs), owned y])
        | _, _ => none) = some b := e
      cases q : G.meth c m_eq with
      | none => rw [q] at e; cases e
      | some f => cases q2 : eqTo y with
        | false => rw [q, q2] at e; cases e
        | true =>
          rw [q, q2] at e
          exact rc_own hO q q2 e (sb.mono hk) I r1 r2 sF rx ry
    | non => cases hx
    | bl a => cases hx
    | int a => cases hx
    | str a => cases hx
    | dcT k => exact (or_some (show (dEq (.dcT k) y).or (dEqV rec (.dcT k) y) = some b from e)).elim (fun e => (dEq_c (by have := sb.room.units; omega) e I r1 r2 sF rx ry).1) fun e => (dEqV_c he sb (by have := sb.room.units; omega) e I r1 r2 sF rx ry).1
    | lkT k => exact (or_some (show (dEq (.lkT k) y).or (dEqV rec (.lkT k) y) = some b from e)).elim (fun e => (dEq_c (by have := sb.room.units; omega) e I r1 r2 sF rx ry).1) fun e => (dEqV_c he sb (by have := sb.room.units; omega) e I r1 r2 sF rx ry).1
    | _ => cases e
theorem eb_A {k n : Nat} {fA : Nat → Addr} {rec : D → D → Option Bool} (hO : EqOk X T RX G cl k fA) (hr : ∀ x b, rec x x = some b → b = true) (h : RcP X T n (eqA G cl rec)) : EbP X T n (eqA G cl rec) := by
  intro x y b A pins s z F H u1 u2 v1 v2 e sb I r1 r2 sF rx ry
  cases hx : scalD x with
  | true =>
    cases hy : notIns y with
    | true =>
      obtain ⟨_, _, f1, f2, h3⟩ := eqA_scal hx hy e rx ry
      have q := eqAt_V (A := A) (s := s) r1 r2 f1 f2
      rw [h3] at q
      exact q X.prog X.w X.xe _ ⟨rfl, H, I, Ext.rfl'⟩
    | false =>
      have h0 := h x y b A pins s z F H u1 u2 v1 v2 e sb I r1 r2 sF rx ry
      obtain ⟨rfl, c, fs, f, rfl, q, ea⟩ := none_ins hx hy e
      obtain ⟨a, dx, gs, hc, e1, _⟩ := id ry
      subst e1
      obtain rfl : v2 = Value.ref a := r2
      cases (show u1 = .non from rx)
      obtain rfl : v1 = Value.none := r1
      refine eqBool_neN (wpAny_mono h0 (fun r s' q => ?_) fun _ _ x => x)
      exact ⟨b, q.1, rfl, q.2⟩
  | false =>
    obtain ⟨l, hl⟩ : ∃ l, v1 = Value.ref l := by
      cases x with
      | lst xs => obtain ⟨a, us, e1, _⟩ := rx; subst e1; exact ⟨a, r1⟩
      | tup xs => obtain ⟨a, us, e1, _⟩ := rx; subst e1; exact ⟨a, r1⟩
      | ins c fs => obtain ⟨a, dx, gs, hc, e1, _⟩ := rx; subst e1; exact ⟨a, r1⟩
      | non => cases hx
      | bl a => cases hx
      | int a => cases hx
      | str a => cases hx
      | dcT k => obtain ⟨a, us, e1, _⟩ := rx; subst e1; exact ⟨a, r1⟩
      | lkT k => obtain ⟨a, us, e1, _⟩ := rx; subst e1; exact ⟨a, r1⟩
      | _ => cases e
    subst hl
    cases hv : (Value.ref l == v2) with
    | false =>
      refine eqBool_ne hv (wpAny_mono (h x y b A pins s z F H u1 u2 _ v2 e sb I r1 r2 sF rx ry) (fun r s' q => ?_) fun _ _ x => x)
      exact ⟨b, q.1, rfl, q.2⟩
    | true =>
      have ev : Value.ref l = v2 := eq_of_beq hv
      subst ev
      have eu : u1 = u2 := r1.inj r2
      subst eu
      have exy := RD.inj (hO.one pins z F H s I sF) rx ry
      subst exy
      have hb := eqA_refl hO.refl hr x b e
      subst hb
      exact SeqAt.EqAt.same (A := A) (s := s) (.ref l) X.prog X.w X.xe _ ⟨rfl, H, I, Ext.rfl'⟩
theorem eq_all {k : Nat} {fA : Nat → Addr} (hO : EqOk X T RX G cl k fA) : ∀ d : Nat, RcP X T (k + d + 1) (eqD G cl d) ∧ EbP X T (k + d + 1) (eqD G cl d)
  | 0 => by
    have h0 : EbP X T (k + 0) (fun _ _ => none) := fun x y b A pins s z F H u1 u2 v1 v2 e => by cases e
    have h1 := rc_A hO (by omega) h0
    exact ⟨h1, eb_A hO (fun x b e => by cases e) h1⟩
  | d + 1 => by
    have ih := eq_all hO d
    have h1 := rc_A hO (by omega) ih.2
    exact ⟨h1, eb_A hO (eqD_refl hO.refl d) h1⟩
end
end Tf
end
section
set_option Elab.async false
set_option linter.all false
set_option maxRecDepth 100000
namespace Tf
open PySem PySem.Spec PyProof.Rows L2
section
variable {T : Tb} {RX : XR} {W : WX} {X : Cx} {G : Prog} {cl : Call} {md : Md}
theorem rn_lst {n : Nat} {rec : D → D → Option Bool} (he : EbP X T n rec) {A : Around} (sb : Sub X (n + 1) A) {pins : List (Addr × Obj)} {s : Shared} {z : L2.St} {F H : Hp} {xs ys : List D} {b : Bool} {u1 u2 : V} {v1 v2 : Value} (e : (if xs.length = ys.length then eqL rec xs ys else some false) = some b) (I : Inv X pins z H s) (r1 : L2.RelV u1 v1) (r2 : L2.RelV u2 v2) (sF : Same F H)
    (rx : RD T F (.lst xs) u1) (ry : RD T F (.lst ys) u2) : wpAny (model X.prog X.w) A (richCompare .NotEq v1 v2) (fun r s' => r = .bool (!b) ∧ ∃ H', Inv X pins z H' s' ∧ Ext H H') X.xe s := by
  obtain ⟨l, us1, e1, el, rx⟩ := rx
  obtain ⟨m, us2, e2, em, ry⟩ := ry
  subst e1 e2
  obtain rfl : v1 = Value.ref l := r1
  obtain rfl : v2 = Value.ref m := r2
  have at_ : ∀ (H' : Hp) (s' : Shared), Inv X pins z H' s' → Ext H H' → ∃ (its its2 : List Value) (n n2 : Nat), Vals us1 its ∧ Vals us2 its2 ∧ s'.heap.get? l = some { cls := .type "list", data := .seq its.toArray n } ∧ s'.heap.get? m = some { cls := .type "list", data := .seq its2.toArray n2 } := fun H' s' I' ex => by
    obtain ⟨its, n, v, g, _⟩ := I'.lst (ex _ _ (sF _ _ el))
    obtain ⟨its2, n2, v2, g2, _⟩ := I'.lst (ex _ _ (sF _ _ em))
    exact ⟨its, its2, n, n2, v, v2, g, g2⟩
  obtain ⟨its, its2, n1, n2, v, v2, g, g2⟩ := at_ H s I Ext.rfl'
  refine PySem.wpAny_richCompare_same_room (op := .NotEq) ⟨_, g, rfl⟩ ⟨_, g2, rfl⟩ PySem.F.slot_list_ne (GQ.call_here PySem.F.slot_list_ne ⟨_, g, rfl⟩ PySem.F.entry_list_ne (PySem.F.args_list_ne_2 _ _) ?_) sb.room.units0
  by_cases hlen : xs.length = ys.length
  · rw [if_pos hlen] at e
    have hN : us1.length = us2.length := by rw [← rx.len, ← ry.len, hlen]
    refine TfE.list_neq (R := wants (fun v s' => v ≠ .notImplemented ∧ (v = .bool (!b) ∧ ∃ H', Inv X pins z H' s' ∧ Ext H H')) X.xe) l m us1.length (WalkI X pins z H rec xs ys b) (WalkJ X pins z H b) ?_ ?_ ?_ ?_ ⟨H, I, Ext.rfl', e⟩
    · rintro i s' ⟨H', I', ex, hl⟩
      obtain ⟨it1, it2, m1, m2, w1, w2, k1, k2⟩ := at_ H' s' I' ex
      refine ⟨it1.toArray, it2.toArray, m1, m2, k1, k2, by simpa using w1.length.symm, by rw [hN]; simpa using w2.length.symm, fun h1 h2 => ?_⟩
      exact walk_turn he sb sF rx ry w1 w2 i h1 h2 s' ⟨H', I', ex, hl⟩
    · rintro s' ⟨H', I', ex, hl⟩
      refine ⟨(fun x => nomatch x), ?_, H', I', ex⟩
      rw [List.drop_of_length_le (by rw [rx.len]; exact Nat.le_refl _)] at hl
      rw [← Option.some.inj hl]; rfl
    · rintro s' ⟨H', I', ex, hb⟩
      exact ⟨(fun x => nomatch x), by rw [hb]; rfl, H', I', ex⟩
    · rintro s' ⟨H', I', ex, hb⟩
      obtain ⟨it1, it2, m1, m2, w1, w2, k1, k2⟩ := at_ H' s' I' ex
      exact ⟨it1.toArray, it2.toArray, m1, m2, k1, k2, by simpa using w1.length.symm, by rw [hN]; simpa using w2.length.symm⟩
  · rw [if_neg hlen] at e
    have hb := Option.some.inj e
    refine TfE.list_nne (R := wants (fun v s' => v ≠ .notImplemented ∧ (v = .bool (!b) ∧ ∃ H', Inv X pins z H' s' ∧ Ext H H')) X.xe) l m its.toArray its2.toArray n1 n2 g g2 ?_ ⟨(fun x => nomatch x), by rw [← hb]; rfl, H, I, Ext.rfl'⟩
    intro q
    apply hlen
    rw [rx.len, ry.len, v.length, v2.length]
    simpa using q
theorem rn_tup {n : Nat} {rec : D → D → Option Bool} (he : EbP X T n rec) {A : Around} (sb : Sub X (n + 1) A) {pins : List (Addr × Obj)} {s : Shared} {z : L2.St} {F H : Hp} {xs ys : List D} {b : Bool} {u1 u2 : V} {v1 v2 : Value} (e : (eqL rec xs ys).map (fun b => b && decide (xs.length = ys.length)) = some b) (I : Inv X pins z H s) (r1 : L2.RelV u1 v1) (r2 : L2.RelV u2 v2) (sF : Same F H)
    (rx : RD T F (.tup xs) u1) (ry : RD T F (.tup ys) u2) : wpAny (model X.prog X.w) A (richCompare .NotEq v1 v2) (fun r s' => r = .bool (!b) ∧ ∃ H', Inv X pins z H' s' ∧ Ext H H') X.xe s := by
  obtain ⟨b0, e0, eb⟩ := Option.map_eq_some_iff.mp e
  obtain ⟨l, us1, e1, el, rx⟩ := rx
  obtain ⟨m, us2, e2, em, ry⟩ := ry
  subst e1 e2
  obtain rfl : v1 = Value.ref l := r1
  obtain rfl : v2 = Value.ref m := r2
  obtain ⟨its, v, g, _⟩ := I.tuple (.of (sF _ _ el))
  obtain ⟨its2, v2, g2, _⟩ := I.tuple (.of (sF _ _ em))
  obtain ⟨⟨cls, dd, data, sl⟩, ho, hc, n1, hd⟩ := id g
  obtain ⟨⟨cls2, dd2, data2, sl2⟩, ho2, hc2, n2, hd2⟩ := id g2
  simp only at hc hd hc2 hd2
  subst hc hd hc2 hd2
  refine PySem.wpAny_richCompare_same_room (op := .NotEq) ⟨_, ho, rfl⟩ ⟨_, ho2, rfl⟩ PySem.F.slot_tuple_ne (GQ.call_here PySem.F.slot_tuple_ne ⟨_, ho, rfl⟩ PySem.F.entry_tuple_ne (PySem.F.args_tuple_ne_2 _ _) ?_) sb.room.units0
  have L1 : its.toArray.size = xs.length := by rw [rx.len, v.length]; simp
  have L2' : its2.toArray.size = ys.length := by rw [ry.len, v2.length]; simp
  refine TfE.tuple_neq (R := wants (fun v s' => v ≠ .notImplemented ∧ (v = .bool (!b) ∧ ∃ H', Inv X pins z H' s' ∧ Ext H H')) X.xe) l m its.toArray its2.toArray n1 n2 dd dd2 sl sl2 (WalkI X pins z H rec xs ys b0) (WalkJ X pins z H b0) ?_ ?_ ?_ ho ho2 ⟨H, I, Ext.rfl', e0⟩
  · exact fun i h1 h2 s' w => walk_turn he sb sF rx ry v v2 i h1 h2 s' w
  · rintro i s' ⟨H', I', ex, hl⟩ hi
    refine ⟨(fun x => nomatch x), ?_, H', I', ex⟩
    have hb0 : b0 = true := by
      rcases hi with hi | hi
      · rw [List.drop_of_length_le (by rw [← L1, hi]; exact Nat.le_refl _)] at hl
        exact (Option.some.inj hl).symm
      · rw [List.drop_of_length_le (l := ys) (by rw [← L2', hi]; exact Nat.le_refl _)] at hl
        cases q : xs.drop i with
        | nil => rw [q] at hl; exact (Option.some.inj hl).symm
        | cons x r => rw [q] at hl; exact (Option.some.inj hl).symm
    rw [← eb, hb0, L1, L2']
    simp [bne, BEq.beq]
  · rintro s' ⟨H', I', ex, hb⟩
    exact ⟨(fun x => nomatch x), by rw [← eb, hb]; rfl, H', I', ex⟩
def CmpOk (X : Cx) (T : Tb) (G : Prog) (cl : Call) (op : Cop) (o : CmpOp) : Prop :=
  ∀ (pins : List (Addr × Obj)) (s : Shared) (P F H : Hp) (σ : Fr) (z : L2.St) (x : D) (vv : Val) (c : Bool) (u1 u2 : V) (v1 v2 : Value), Inv X pins z H s → L2.RelV u1 v1 → L2.RelV u2 v2 → RD T F x u1 → RelV T P F H σ z vv u2 → cmpV G cl op x vv = some c →
    wpAny (model X.prog X.w) X.A (compareOp o v1 v2) (fun r s' => r = .bool c ∧ ∃ H', Inv X pins z H' s' ∧ Same H H') X.xe s
theorem toD_raw {P F H : Hp} {σ : Fr} {z : L2.St} {v : Val} {u : V} {x y : D} {w : V} (h : RelV T P F H σ z v u) (e : toF v = some y) (rx : RD T F x w) : ∃ F', RD T F' x w ∧ RD T F' y u ∧ Same F' H := by
  have own : toD v = some y → ∃ F', RD T F' x w ∧ RD T F' y u ∧ Same F' H := fun e => by
    obtain ⟨F', s, rel, r⟩ := h.toD e
    obtain ⟨A, k⟩ := rel
    exact ⟨F', rx.mono s, r, k.fH⟩
  cases v with
  | d _ => exact own e
  | o _ => exact own e
  | b i o =>
    obtain ⟨s, t, Ai, C, B, k⟩ := h
    cases e
    exact ⟨H, rx.mono k.fH, k.o.frz k.fH fun _ _ _ q => q, Same.refl _⟩
theorem co_int {op : Cop} {o : CmpOp} {g : Int → Int → Bool} (ho : OpR X (compareOp o) (rI0 fun i j => .bl (g i j))) (hv : ∀ x vv c, cmpV G cl op x vv = some c → ∃ i j, x = .int i ∧ toF vv = some (.int j) ∧ c = g i j) : CmpOk X T G cl op o := by
  intro pins s P F H σ z x vv c u1 u2 v1 v2 I r1 r2 rx rv e
  obtain ⟨i, j, rfl, ey, rfl⟩ := hv x vv c e
  obtain ⟨F', _, ry, _⟩ := toD_raw rv ey rx
  refine wpAny_mono (ho pins s z H u1 u2 v1 v2 (fun v H' => v = .bl (g i j) ∧ H' = H) I r1 r2 ⟨i, j, rx, ry, rfl, rfl⟩) (fun r s' ⟨v, H', I', rv', ev, eH⟩ => ?_) fun _ _ x => x
  subst ev eH
  exact ⟨rv', H', I', Same.refl _⟩
theorem cmp_int {op : Cop} {x : D} {vv : Val} {c : Bool} {g : Int → Int → Bool} (h1 : cmpV G cl op x vv = (toF vv).bind fun y => cmpD G cl op x y) (h2 : ∀ i j, cmpD G cl op (.int i) (.int j) = some (g i j)) (h3 : ∀ x y c, cmpD G cl op x y = some c → ∃ i j, x = .int i ∧ y = .int j) (e : cmpV G cl op x vv = some c) :
    ∃ i j, x = .int i ∧ toF vv = some (.int j) ∧ c = g i j := by
  rw [h1] at e
  obtain ⟨y, ey, e⟩ := Option.bind_eq_some_iff.mp e
  obtain ⟨i, j, rfl, rfl⟩ := h3 x y c e
  rw [h2] at e
  exact ⟨i, j, rfl, ey, (Option.some.inj e).symm⟩
theorem co_lt : CmpOk X T G cl .lt .Lt := co_int op_lt fun x vv c e => cmp_int (g := fun i j => decide (i < j)) rfl (fun _ _ => rfl) (fun x y c h => by cases x <;> cases y <;> first | exact ⟨_, _, rfl, rfl⟩ | cases h) e
theorem co_ge : CmpOk X T G cl .ge .GtE := co_int op_ge fun x vv c e => cmp_int (g := fun i j => decide (j ≤ i)) rfl (fun _ _ => rfl) (fun x y c h => by cases x <;> cases y <;> first | exact ⟨_, _, rfl, rfl⟩ | cases h) e
theorem co_eq {k : Nat} {fA : Nat → Addr} (hO : EqOk X T RX G cl k fA) (hr : Room (k + 6) X.A) : CmpOk X T G cl .eq .Eq := by
  intro pins s P F H σ z x vv c u1 u2 v1 v2 I r1 r2 rx rv e
  obtain ⟨y, ey, e⟩ := Option.bind_eq_some_iff.mp (show ((toF vv).bind fun y => eqD G cl eqN x y) = some c from e)
  obtain ⟨F', rx', ry, sF⟩ := toD_raw rv ey rx
  exact (eq_all hO 5).1 x y c X.A pins s z F' H u1 u2 v1 v2 e ⟨hr, rfl⟩ I r1 r2 sF rx' ry
theorem rn_own {k : Nat} {fA : Nat → Addr} (hO : EqOk X T RX G cl k fA) {c f : Nat} {fs : List (Nat × D)} {y : D} {b : Bool} {A : Around} {pins : List (Addr × Obj)} {s : Shared} {z : L2.St} {F H : Hp} {u1 u2 : V} {v1 v2 : Value} (ef : G.meth c m_eq = some f) (et : eqTo y = true) (ea : ansB (cl f [owned (.ins c fs), owned y]) = some b)
    (sb : Sub X (k + 1) A) (I : Inv X pins z H s) (r1 : L2.RelV u1 v1) (r2 : L2.RelV u2 v2) (sF : Same F H) (rx : RD T F (.ins c fs) u1) (ry : RD T F y u2) :
    wpAny (model X.prog X.w) A (richCompare .NotEq v1 v2) (fun r s' => r = .bool (!b) ∧ ∃ H', Inv X pins z H' s' ∧ Ext H H') X.xe s := by
  obtain ⟨t, ht⟩ : ∃ t, tyD T y = some t := by cases y <;> first | exact ⟨_, rfl⟩ | cases et
  obtain ⟨a, dx, gs, hc, e1, eA, rf⟩ := id rx
  subst e1
  obtain rfl : v1 = Value.ref a := r1
  obtain ⟨h1, h2, FD, hnf⟩ := hO.at_ c f hc ef
  obtain ⟨ox, od, J⟩ := inst_at I (sF _ _ eA)
  obtain ⟨mm, hF⟩ := I.fr
  obtain ⟨n1, n2, _⟩ := hO.neq c hc
  refine TfN.ne_K (by have := sb.in1.room.units0; exact this) hF I.ok.mod.kin J (looks_ty I sF r2 ry ht) (hnf y t ry.val ht) n2 n1 h1 h2 ?_
  have sp : spD T RX cl f [V.ref a, u2] H (fun v H' => v = .bl b ∧ Ext H H') fun _ _ _ => False := by
    refine ⟨fun a => if (F a).isSome then none else H a, F, [owned (.ins c fs), owned y], [], ⟨_, _, [], [], rfl, rfl, ⟨rfl, rx⟩, _, _, [], [], rfl, rfl, ⟨rfl, ry⟩, rfl, rfl⟩, ⟨fun a => by simp, fun a m => (by cases m), fun a m => (by cases m), fun a q e => ?_, sF, fun a q e => ?_⟩, ?_⟩
    · split at e
      · cases e
      · exact e
    · split at e
      · cases e
      · rename_i hn
        cases hh : F a with
        | none => exact .inl rfl
        | some q => rw [hh] at hn; exact absurd rfl hn
    · rw [ansB_some ea]
      rintro F1 H1 u s1 ⟨o, B, C, eo, ro, rl, ow⟩
      have eo : O.d (.bl b) = o := Option.some.inj eo
      subst eo
      refine ⟨ro.2, fun a q e => ?_⟩
      cases hh : F a with
      | some q' =>
        have := sF _ _ hh
        rw [e] at this
        cases this
        exact ow.fH _ _ (s1 _ _ hh)
      | none =>
        refine ow.pH _ _ ?_
        show (if (F a).isSome then none else H a) = some q
        rw [hh]
        exact e
  have e0 : Env0 X.prog X.w X.K X.mg X.base A.in1 X.stack s H := by
    have e := I.env0
    exact ⟨by rw [sb.in1.fr]; exact e.frames, e.mod, e.bs, e.bsz, e.funs, e.frf, e.hok, e.bare⟩
  refine wpAny_call (codeAny_mono (FD A.in1 X.stack s H [.ref a, v2] [.ref a, u2] _ _ sb.in1.room e0 (.cons rfl (.cons r2 .nil)) sp) fun r s' hq => ?_)
  cases r with
  | error e =>
    obtain ⟨_, _, _, _, _, _, _, _, _, _, _, _, ff⟩ := hq
    exact ff.elim
  | ok fl =>
    cases fl with
    | ret w =>
      obtain ⟨zz, H', I', rz, ez, ex⟩ := I.after hq
      subst ez
      cases rz
      exact ⟨b, rfl, rfl, H', I', ex⟩
    | next => exact False.elim hq
    | brk => exact False.elim hq
    | cont => exact False.elim hq
theorem rn_none {k : Nat} {fA : Nat → Addr} (hO : EqOk X T RX G cl k fA) {c f : Nat} {fs : List (Nat × D)} {b : Bool} {A : Around} {pins : List (Addr × Obj)} {s : Shared} {z : L2.St} {F H : Hp} {u1 u2 : V} {v1 v2 : Value} (ef : G.meth c m_eq = some f) (ea : ansB (cl f [owned (.ins c fs), owned .non]) = some b)
    (sb : Sub X (k + 1) A) (I : Inv X pins z H s) (r1 : L2.RelV u1 v1) (r2 : L2.RelV u2 v2) (sF : Same F H) (rx : RD T F .non u1) (ry : RD T F (.ins c fs) u2) :
    wpAny (model X.prog X.w) A (richCompare .NotEq v1 v2) (fun r s' => r = .bool (!b) ∧ ∃ H', Inv X pins z H' s' ∧ Ext H H') X.xe s := by
  obtain ⟨a, dx, gs, hc, e1, eA, rf⟩ := id ry
  subst e1
  obtain rfl : v2 = Value.ref a := r2
  cases (show u1 = .non from rx)
  obtain rfl : v1 = Value.none := r1
  obtain ⟨h1, h2, FD, hnf⟩ := hO.at_ c f hc ef
  obtain ⟨ox, od, J⟩ := inst_at I (sF _ _ eA)
  obtain ⟨mm, hF⟩ := I.fr
  obtain ⟨n1, n2, n3⟩ := hO.neq c hc
  refine TfN.ne_noneK (by have := sb.in1.room.units0; exact this) hF I.ok.mod.kin J n3 n2 n1 h1 h2 (wpAny_mono (own_call (fA := fA) (v2 := .none) (u2 := .non) FD ea sb.in1 I rfl sF ry rfl) (fun r s' hq => ?_) fun _ _ x => x)
  obtain ⟨rfl, hq⟩ := hq
  exact ⟨b, rfl, rfl, hq⟩
theorem co_ne {k : Nat} {fA : Nat → Addr} (hO : EqOk X T RX G cl k fA) (hr : Room (k + 6) X.A) : CmpOk X T G cl .ne .NotEq := by
  intro pins s P F H σ z x vv c u1 u2 v1 v2 I r1 r2 rx rv e
  obtain ⟨y, ey, e⟩ := Option.bind_eq_some_iff.mp (show ((toF vv).bind fun y => if neTo x then (eqD G cl eqN x y).map not else none) = some c from e)
  obtain ⟨F', rx', ry, sF⟩ := toD_raw rv ey rx
  have hn : neTo x = true := by cases q : neTo x with
    | true => rfl
    | false => rw [q] at e; cases e
  rw [hn] at e
  obtain ⟨b, eb, ec⟩ := Option.map_eq_some_iff.mp (show (eqD G cl eqN x y).map not = some c from e)
  have eb : eqA G cl (eqD G cl 4) x y = some b := eb
  have he := (eq_all hO 4).2
  subst ec
  cases hx : scalD x with
  | true =>
   cases hy : notIns y with
   | false =>
    obtain ⟨rfl, c, fs, f, rfl, q, ea⟩ := none_ins hx hy eb
    exact wpAny_mono (rn_none hO q ea ⟨hr.mono (by omega), rfl⟩ I r1 r2 sF rx' ry) (fun r s' ⟨h1, H', I', h2⟩ => ⟨h1, H', I', h2⟩) fun _ _ x => x
   | true =>
    obtain ⟨h1, h2, _⟩ := eqA_scal hx hy eb rx' ry
    refine wpAny_mono (op_ne pins s z H u1 u2 v1 v2 (fun v H' => v = .bl (!b) ∧ H' = H) I r1 r2 ⟨h1, by rw [h2]; exact ⟨rfl, rfl⟩⟩) (fun r s' ⟨v, H', I', rv', ev, eH⟩ => ?_) fun _ _ x => x
    subst ev eH
    exact ⟨rv', H', I', Same.refl _⟩
  | false =>
    cases x with
    | lst xs => cases y with
      | lst ys => exact rn_lst he ⟨hr, rfl⟩ eb I r1 r2 sF rx' ry
      | _ => cases eb
    | tup xs => cases y with
      | tup ys => exact rn_tup he ⟨hr, rfl⟩ eb I r1 r2 sF rx' ry
      | _ => cases eb
    | ins c fs =>
      have e : (match G.meth c m_eq, eqTo y with
        | some f, true => ansB (cl f [owned (.ins c fs), owned y])
        | _, _ => none) = some b := eb
      cases q : G.meth c m_eq with
      | none => rw [q] at e; cases e
      | some f => cases q2 : eqTo y with
        | false => rw [q, q2] at e; cases e
        | true =>
          rw [q, q2] at e
          exact rn_own hO q q2 e ⟨hr.mono (by omega), rfl⟩ I r1 r2 sF rx' ry
    | non => cases hx
    | bl a => cases hx
    | int a => cases hx
    | str a => cases hx
    | dcT k =>
      rcases or_some (show (dEq (.dcT k) y).or (dEqV (eqD G cl 4) (.dcT k) y) = some b from eb) with eb | eb
      · refine wpAny_mono (dEq_c (by have := hr.units; omega) eb I r1 r2 sF rx' ry).2 (fun r s' ⟨h1, H', I', h2⟩ => ⟨h1, H', I', h2⟩) fun _ _ x => x
      · refine wpAny_mono (dEqV_c he ⟨hr, rfl⟩ (by have := hr.units; omega) eb I r1 r2 sF rx' ry).2 (fun r s' ⟨h1, H', I', h2⟩ => ⟨h1, H', I', h2⟩) fun _ _ x => x
    | lkT k =>
      rcases or_some (show (dEq (.lkT k) y).or (dEqV (eqD G cl 4) (.lkT k) y) = some b from eb) with eb | eb
      · refine wpAny_mono (dEq_c (by have := hr.units; omega) eb I r1 r2 sF rx' ry).2 (fun r s' ⟨h1, H', I', h2⟩ => ⟨h1, H', I', h2⟩) fun _ _ x => x
      · refine wpAny_mono (dEqV_c he ⟨hr, rfl⟩ (by have := hr.units; omega) eb I r1 r2 sF rx' ry).2 (fun r s' ⟨h1, H', I', h2⟩ => ⟨h1, H', I', h2⟩) fun _ _ x => x
    | _ => cases eb
end
end Tf
end
section
set_option Elab.async false
set_option linter.all false
set_option maxRecDepth 100000
namespace Tf
open PySem PySem.Spec PyProof.Rows L2
section
variable {T : Tb} {RX : XR} {W : WX} {X : Cx} {G : Prog} {cl : Call} {md : Md}
theorem Rel.grow {P F H H' : Hp} {σ : Fr} {z : L2.St} (h : Rel T P F H σ z) (s : Same H H') : Rel T P F H' σ z := by
  obtain ⟨A, k⟩ := h
  exact ⟨A, k.s.mono (Same.refl _) fun a _ q e => s a q e, k.nd, k.nP, k.nF, k.pH.trans s, k.fH.trans s, k.pF⟩
theorem se_cmp {a b : Expr} {ea eb : E} {op : Cop} {o : CmpOp} {pos : Pos} (ok : CmpOk X T G cl op o) (ha : SE T RX W G cl X a ea) (hb : SE T RX W G cl X b eb) (hm : behindInMarks o b = false) : SE T RX W G cl X (.Compare a [o] [b] pos) (.cmp op ea eb) := by
  -- behind both operands
  have key : ∀ (pins : List (Addr × Obj)) (s : Shared) (z : L2.St) (H : Hp) (P F : Hp) (σ : Fr) (Q : VK), Inv X pins z H s → Rel T P F H σ z → Post T RX W P z F Q ((ev G cl .val ea σ).bind fun v σ => opt (toD v) fun x => (ev G cl .pk eb σ).bind fun u σ => opt (cmpV G cl op x u) fun c => .ok (bl c) σ) →
      ∀ (Qf : Value → Shared → Prop), (∀ c H' s', Inv X pins z H' s' → Q (.bl c) H' → Qf (.bool c) s') →
      wpAny (model X.prog X.w) X.A (eval a X.env) (fun v s₁ => wpAny (model X.prog X.w) X.A (eval b X.env) (fun u s₂ => wpAny (model X.prog X.w) X.A (compareOp o v u) Qf X.xe s₂) X.xe s₁) X.xe s := by
    intro pins s z H P F σ Q I rel q Qf hQ
    refine thn (ha.v.run pins s z H _ I (R.one rel q)) fun v1 s1 ⟨u1, H1, I1, r1, F1, σ1, x, rel1, rx, q1⟩ => ?_
    refine thn (hb.p.run pins s1 z H1 _ I1 (R.bind rel1 q1)) fun v2 s2 ⟨u2, H2, I2, r2, F2, σ2, vv, sF, rv, q2⟩ => ?_
    obtain ⟨c, ec, q2⟩ := Post.opt q2
    refine wpAny_mono (ok pins s2 P F2 H2 σ2 z x vv c u1 u2 v1 v2 I2 r1 r2 (rx.mono sF) rv ec) (fun r s' ⟨hr, H', I', sH⟩ => ?_) fun _ _ x => x
    subst hr
    exact hQ c H' s' I' (q2 F2 H' _ (Same.refl _) ⟨rv.rel.grow sH, rfl⟩)
  refine SE.raw (m := fun σ => (ev G cl .val ea σ).bind fun v σ => opt (toD v) fun x => (ev G cl .pk eb σ).bind fun u σ => opt (cmpV G cl op x u) fun c => .ok (bl c) σ) (fun _ _ => rfl) ⟨fun pins s z H Q I ⟨P, F, σ, rel, q⟩ => ?_⟩ fun _ => ⟨fun pins s z H Q I ⟨P, F, σ, rel, q⟩ => ?_⟩
  · exact wpAny_Compare1 (key pins s z H P F σ Q I rel q _ fun c H' s' I' hq => ⟨.bl c, H', I', rfl, hq⟩) hm
  · have q' : Post T RX W P z F (fun v H' => ∃ c, v = .bl c ∧ Q c H') ((ev G cl .val ea σ).bind fun v σ => opt (toD v) fun x => (ev G cl .pk eb σ).bind fun u σ => opt (cmpV G cl op x u) fun c => .ok (bl c) σ) := by
      have q : PostT T RX W P z F Q (((ev G cl .val ea σ).bind fun v σ => opt (toD v) fun x => (ev G cl .pk eb σ).bind fun u σ => opt (cmpV G cl op x u) fun c => .ok (bl c) σ).bind (fin .tst)) := q
      revert q
      generalize hr : ((ev G cl .val ea σ).bind fun v σ => opt (toD v) fun x => (ev G cl .pk eb σ).bind fun u σ => opt (cmpV G cl op x u) fun c => .ok (bl c) σ) = r
      intro q
      cases r with
      | exc x σ1 => exact q
      | bad => exact q
      | ok v σ1 =>
        obtain ⟨_, _, _, hr⟩ := Res.bind_ok hr
        obtain ⟨_, _, hr⟩ := opt_ok hr
        obtain ⟨_, _, _, hr⟩ := Res.bind_ok hr
        obtain ⟨c, _, hr⟩ := opt_ok hr
        injection hr with h1 h2
        subst h1
        obtain ⟨b, eb, q⟩ := (show PostT T RX W P z F Q (.ok (.d (.bl c)) σ1) from q)
        have : c = b := by injection eb with eb; injection eb
        subst this
        exact fun F1 H1 u s rv => ⟨c, rv.2, q F1 H1 s rv.1⟩
    have h := key pins s z H P F σ _ I rel q' (fun c s' => wpAny (model X.prog X.w) X.A (truthy c) (TP X pins z Q) X.xe s') fun c H' s' I' ⟨c', ec, hq⟩ => by
      have : c = c' := by injection ec
      subst this
      exact wpAny_truthy_bool ⟨H', I', hq⟩
    exact wpAny_isTrue_Compare1 h hm
end
end Tf
end
section
set_option Elab.async false
set_option linter.all false
set_option maxRecDepth 100000
namespace Tf
open PySem PySem.Spec PyProof.Rows L2
section
variable {T : Tb} {RX : XR} {W : WX} {X : Cx} {G : Prog} {cl : Call} {md : Md}
def BiR (X : Cx) (T : Tb) (RX : XR) (W : WX) (b : Bi) (f : Value) : Prop :=
  ∀ (pins : List (Addr × Obj)) (s : Shared) (P F H : Hp) (σ : Fr) (z : L2.St) (vv : Val) (u : V) (v : Value) (d : D) (Q : VK), Inv X pins z H s → L2.RelV u v → RelV T P F H σ z vv u → biV b vv = some d → Post T RX W P z F Q (.ok (.d d) σ) → wpAny (model X.prog X.w) X.A (call f [v]) (EP X pins z Q) X.xe s
theorem vals_1 {u : V} {v : Value} (r : L2.RelV u v) : Vals [u] [v] := .cons r .nil
theorem bi_len : BiR X T RX W .len (.builtin "len") := by
  intro pins s P F H σ z vv u v d Q I r rv e q
  obtain ⟨n, en, ed⟩ := Option.map_eq_some_iff.mp (show (lenV vv).map (fun (n : Nat) => D.int n) = some d from e)
  subst ed
  by_cases nt : ∀ t, vv ≠ .d (.str t)
  case neg =>
    obtain ⟨t, et⟩ := Classical.not_forall.mp nt
    have et := Classical.not_not.mp et
    subst et
    obtain ⟨hz, en⟩ := ite_some (show (if t.length ≤ lineN then some t.length else none) = some n from en)
    subst en
    exact call_len_str pins s z H [u] [v] Q I (vals_1 r) ⟨t, by rw [show u = .str t from rv.2], hz, post_int rv.1 q⟩
  refine call_len pins s z H [u] [v] Q I (vals_1 r) ⟨u, n, rfl, ?_, post_int rv.rel q⟩
  cases vv with
  | d x =>
    obtain ⟨⟨A, k⟩, rd⟩ := rv
    cases x with
    | lst xs =>
      obtain ⟨a, us, e1, e2, rs⟩ := rd
      subst e1
      cases (Option.some.inj (show some xs.length = some n from en))
      exact .inl ⟨us, .of (k.fH _ _ e2), rs.len⟩
    | tup xs =>
      obtain ⟨a, us, e1, e2, rs⟩ := rd
      subst e1
      cases (Option.some.inj (show some xs.length = some n from en))
      exact .inr ⟨us, .of (k.fH _ _ e2), rs.len⟩
    | scr ns =>
      obtain ⟨a, ob, e1, e2⟩ := rd
      subst e1
      cases (Option.some.inj (show some ns.length = some n from en))
      exact .inl ⟨ns.map V.int, .inl (.inr ⟨ob, k.fH _ _ e2⟩), by simp⟩
    | str t => exact absurd rfl (nt t)
    | _ => cases en
  | b i o =>
    obtain ⟨sl, x, Ai, C, B, k⟩ := rv
    cases o with
    | lst xs =>
      obtain ⟨a, us, B', e1, eB, e2, rs⟩ := k.o
      subst e1
      cases (Option.some.inj (show some xs.length = some n from en))
      exact .inl ⟨us, .of e2, rs.len⟩
    | _ => cases en
  | o o => cases en
theorem bi_abs : BiR X T RX W .abs (.builtin "abs") := by
  intro pins s P F H σ z vv u v d Q I r rv e q
  cases vv with
  | d x => cases x with
    | int i =>
      cases (Option.some.inj (show some (D.int (if i < 0 then -i else i)) = some d from e))
      exact call_abs pins s z H [u] [v] Q I (vals_1 r) ⟨i, by rw [show u = .int i from rv.2], post_int rv.1 q⟩
    | _ => cases e
  | _ => cases e
theorem bi_int : BiR X T RX W .int (.type "int") := by
  intro pins s P F H σ z vv u v d Q I r rv e q
  cases vv with
  | d x => cases x with
    | int i =>
      cases (Option.some.inj (show some (D.int i) = some d from e))
      exact call_int1 pins s z H [u] [v] Q I (vals_1 r) (.inl ⟨i, by rw [show u = .int i from rv.2], post_int rv.1 q⟩)
    | bl b =>
      cases (Option.some.inj (show some (D.int (if b then 1 else 0)) = some d from e))
      exact call_int1 pins s z H [u] [v] Q I (vals_1 r) (.inr ⟨b, by rw [show u = .bl b from rv.2], post_int rv.1 q⟩)
    | str t =>
      obtain ⟨hz, e⟩ := ite_some' (show (if t.length ≤ 640 then (PySem.intText? t).map D.int else none) = some d from e)
      obtain ⟨n, en, ed⟩ := Option.map_eq_some_iff.mp e
      subst ed
      exact call_int_str pins s z H [u] [v] Q I (vals_1 r) ⟨t, n, by rw [show u = .str t from rv.2], en, hz, post_int rv.1 q⟩
    | _ => cases e
  | _ => cases e
theorem bi_str : BiR X T RX W .str (.type "str") := by
  intro pins s P F H σ z vv u v d Q I r rv e q
  cases vv with
  | d x => cases x with
    | int i =>
      obtain ⟨hz, e⟩ := ite_some' (show (if i.natAbs.log2 < 1920 then some (D.str (PySem.Str.ofString (toString i))) else none) = some d from e)
      cases (Option.some.inj e)
      exact call_str_int pins s z H [u] [v] Q I (vals_1 r) ⟨i, by rw [show u = .int i from rv.2], hz, post_str rv.1 q⟩
    | str t =>
      cases (Option.some.inj (show some (D.str t) = some d from e))
      exact SkE.call_str_str pins s z H [u] [v] Q I (vals_1 r) ⟨t, by rw [show u = .str t from rv.2], post_str rv.1 q⟩
    | _ => cases e
  | _ => cases e
theorem bi_bool : BiR X T RX W .bool (.type "bool") := by
  intro pins s P F H σ z vv u v d Q I r rv e q
  cases vv with
  | d x => cases x with
    | int i =>
      cases (Option.some.inj (show some (D.bl (i != 0)) = some d from e))
      exact call_bool1 pins s z H [u] [v] Q I (vals_1 r) (.inl ⟨i, by rw [show u = .int i from rv.2], post_bl rv.1 q⟩)
    | bl b =>
      cases (Option.some.inj (show some (D.bl b) = some d from e))
      exact call_bool1 pins s z H [u] [v] Q I (vals_1 r) (.inr ⟨b, by rw [show u = .bl b from rv.2], post_bl rv.1 q⟩)
    | _ => cases e
  | _ => cases e
theorem bi_list : BiR X T RX W .list (.type "list") := by
  intro pins s P F H σ z vv u v d Q I r rv e q
  obtain ⟨xs, ex, ed⟩ := Option.map_eq_some_iff.mp (show (itemsV vv).map D.lst = some d from e)
  subst ed
  obtain ⟨a, us, eu, sq, rs⟩ := items_of (K := X.K) rv ex
  exact call_list_of pins s z H [u] [v] Q I (vals_1 r) ⟨a, us, by rw [eu], sq.symm, fun p np => post_lst rv.rel rs np q⟩
theorem bi_tuple : BiR X T RX W .tuple (.type "tuple") := by
  intro pins s P F H σ z vv u v d Q I r rv e q
  obtain ⟨xs, ex, ed⟩ := Option.map_eq_some_iff.mp (show (itemsV vv).map D.tup = some d from e)
  subst ed
  obtain ⟨a, us, eu, sq, rs⟩ := items_of (K := X.K) rv ex
  refine call_tuple_of pins s z H [u] [v] Q I (vals_1 r) ⟨a, us, by rw [eu], ?_⟩
  rcases sq with sq | sq
  · refine .inr ⟨sq, ?_⟩
    -- the tuple itself: it is data already
    cases vv with
    | d x =>
      obtain ⟨rel, rd⟩ := rv
      obtain ⟨A, k⟩ := id rel
      cases x with
      | tup ys =>
        cases (Option.some.inj (show some ys = some xs from ex))
        exact q F H _ (Same.refl _) ⟨rel, eu ▸ rd⟩
      | lst ys =>
        obtain ⟨a', us', e1, e2, _⟩ := rd
        rw [eu] at e1
        cases e1
        exfalso
        rcases sq with (sq | ⟨ob, sq⟩) | ⟨o, its, n, hl, _⟩
        · rw [k.fH _ _ e2] at sq; cases sq
        · rw [k.fH _ _ e2] at sq; cases sq
        · have := (I.bs a o (I.ok.mod.kin a o hl)).2
          rw [k.fH _ _ e2] at this
          cases this
      | scr ns =>
        obtain ⟨a', ob', e1, e2⟩ := rd
        rw [eu] at e1
        cases e1
        exfalso
        rcases sq with (sq | ⟨ob, sq⟩) | ⟨o, its, n, hl, _⟩
        · rw [k.fH _ _ e2] at sq; cases sq
        · rw [k.fH _ _ e2] at sq; injection sq with sq; injection sq with _ sq; cases sq
        · have := (I.bs a o (I.ok.mod.kin a o hl)).2
          rw [k.fH _ _ e2] at this
          cases this
      | _ => cases ex
    | b i o =>
      obtain ⟨sl, x, Ai, C, B, k⟩ := rv
      cases o with
      | lst os =>
        obtain ⟨a', us', B', e1, eB, e2, _⟩ := k.o
        rw [eu] at e1
        cases e1
        exfalso
        rcases sq with (sq | ⟨ob, sq⟩) | ⟨o, its, n, hl, _⟩
        · rw [e2] at sq; cases sq
        · rw [e2] at sq; cases sq
        · have := (I.bs a o (I.ok.mod.kin a o hl)).2
          rw [e2] at this
          cases this
      | _ => cases ex
    | o o => cases ex
  · exact .inl ⟨sq, fun p np => post_tup rv.rel rs np q⟩
theorem lstItems_of {K : PySem.W.Frag} {P F H : Hp} {σ : Fr} {z : L2.St} {v : Val} {u : V} {xs : List D} (h : RelV T P F H σ z v u) (e : lstItems v = some xs) : ∃ a vs, u = .ref a ∧ SqL K H a vs ∧ RDs T F xs vs := by
  cases v with
  | d x =>
    obtain ⟨⟨A, k⟩, r⟩ := h
    cases x with
    | lst ys =>
      obtain ⟨a, vs, e1, e2, r⟩ := r
      cases (Option.some.inj (show some ys = some xs from e))
      exact ⟨a, vs, e1, .of (k.fH _ _ e2), r⟩
    | scr ns =>
      obtain ⟨a, ob, e1, e2⟩ := r
      cases (Option.some.inj (show some (ns.map D.int) = some xs from e))
      refine ⟨a, _, e1, .inl (.inr ⟨ob, k.fH _ _ e2⟩), ?_⟩
      clear e2 e
      induction ns with
      | nil => rfl
      | cons n ns ih => exact ⟨_, _, rfl, rfl, ih⟩
    | _ => cases e
  | b i o =>
    obtain ⟨s, x, Ai, C, B, k⟩ := h
    cases o with
    | lst os =>
      obtain ⟨a, vs, B', e1, eB, e2, r⟩ := k.o
      exact ⟨a, vs, e1, .of e2, allD_of r e⟩
    | _ => cases e
  | o o => cases e
theorem bls_of {F : Hp} : ∀ {xs : List D} {us : List V} {ns : List Bool}, RDs T F xs us → D.bls xs = some ns → us = ns.map V.bl
  | [], _, _, r, e => by rw [show _ = [] from r, ← Option.some.inj e]; rfl
  | x :: xs, _, _, r, e => by
    obtain ⟨v, s, eu, r1, r2⟩ := r
    subst eu
    cases x with
    | bl i =>
      obtain ⟨ns, en, e⟩ := Option.map_eq_some_iff.mp (show (D.bls xs).map (i :: ·) = some _ from e)
      subst e
      rw [show v = .bl i from r1, bls_of r2 en]
      rfl
    | _ => cases e
theorem int_ds {F : Hp} : ∀ ns : List Int, RDs T F (ns.map D.int) (ns.map V.int)
  | [] => rfl
  | n :: ns => ⟨_, _, rfl, rfl, int_ds ns⟩
theorem bi_sum (hc : X.calm = true) : BiR X T RX W .sum (.builtin "sum") := by
  intro pins s P F H σ z vv u v d Q I r rv e q
  obtain ⟨xs, ex, e⟩ := Option.bind_eq_some_iff.mp (show ((lstItems vv).bind fun xs => (D.ints xs).map fun ns => D.int ns.sum) = some d from e)
  obtain ⟨ns, en, e⟩ := Option.map_eq_some_iff.mp e
  subst e
  obtain ⟨a, us, eu, sq, rs⟩ := lstItems_of (K := X.K) rv ex
  rw [ints_of rs en] at sq
  exact cr_sum hc pins s z H [u] [v] Q I (vals_1 r) ⟨a, ns, by rw [eu], sq, post_int rv.rel q⟩
theorem bi_all (hc : X.calm = true) : BiR X T RX W .all (.builtin "all") := by
  intro pins s P F H σ z vv u v d Q I r rv e q
  obtain ⟨xs, ex, e⟩ := Option.bind_eq_some_iff.mp (show ((lstItems vv).bind fun xs => (D.bls xs).map fun ns => D.bl (ns.all id)) = some d from e)
  obtain ⟨ns, en, e⟩ := Option.map_eq_some_iff.mp e
  subst e
  obtain ⟨a, us, eu, sq, rs⟩ := lstItems_of (K := X.K) rv ex
  rw [bls_of rs en] at sq
  exact cr_all hc pins s z H [u] [v] Q I (vals_1 r) ⟨a, ns, by rw [eu], sq, post_bl rv.rel q⟩
theorem bi_any (hc : X.calm = true) : BiR X T RX W .any (.builtin "any") := by
  intro pins s P F H σ z vv u v d Q I r rv e q
  obtain ⟨xs, ex, e⟩ := Option.bind_eq_some_iff.mp (show ((lstItems vv).bind fun xs => (D.bls xs).map fun ns => D.bl (ns.any id)) = some d from e)
  obtain ⟨ns, en, e⟩ := Option.map_eq_some_iff.mp e
  subst e
  obtain ⟨a, us, eu, sq, rs⟩ := lstItems_of (K := X.K) rv ex
  rw [bls_of rs en] at sq
  exact cr_any hc pins s z H [u] [v] Q I (vals_1 r) ⟨a, ns, by rw [eu], sq, post_bl rv.rel q⟩
theorem maxI_fold : ∀ (r : List Int) (m : Int), (∀ y, y ∈ m :: r → y ≤ r.foldl (fun m b => if m < b then b else m) m) ∧ r.foldl (fun m b => if m < b then b else m) m ∈ m :: r
  | [], m => ⟨fun y h => by simp at h; rw [h]; exact Int.le_refl _, by simp⟩
  | b :: r, m => by
    have ih := maxI_fold r (if m < b then b else m)
    refine ⟨fun y h => ?_, ?_⟩
    · have hm := ih.1 _ List.mem_cons_self
      rcases List.mem_cons.mp h with h | h
      · subst h
        refine Int.le_trans ?_ hm
        split <;> omega
      · rcases List.mem_cons.mp h with h | h
        · subst h
          refine Int.le_trans ?_ hm
          split <;> omega
        · exact ih.1 y (List.mem_cons_of_mem _ h)
    · rcases List.mem_cons.mp ih.2 with h | h
      · show List.foldl _ (if m < b then b else m) r ∈ _
        rw [h]
        split
        · exact List.mem_cons_of_mem _ List.mem_cons_self
        · exact List.mem_cons_self
      · exact List.mem_cons_of_mem _ (List.mem_cons_of_mem _ h)
theorem minI_fold : ∀ (r : List Int) (m : Int), (∀ y, y ∈ m :: r → r.foldl (fun m b => if b < m then b else m) m ≤ y) ∧ r.foldl (fun m b => if b < m then b else m) m ∈ m :: r
  | [], m => ⟨fun y h => by simp at h; rw [h]; exact Int.le_refl _, by simp⟩
  | b :: r, m => by
    have ih := minI_fold r (if b < m then b else m)
    refine ⟨fun y h => ?_, ?_⟩
    · have hm := ih.1 _ List.mem_cons_self
      rcases List.mem_cons.mp h with h | h
      · subst h
        refine Int.le_trans hm ?_
        split <;> omega
      · rcases List.mem_cons.mp h with h | h
        · subst h
          refine Int.le_trans hm ?_
          split <;> omega
        · exact ih.1 y (List.mem_cons_of_mem _ h)
    · rcases List.mem_cons.mp ih.2 with h | h
      · show List.foldl _ (if b < m then b else m) r ∈ _
        rw [h]
        split
        · exact List.mem_cons_of_mem _ List.mem_cons_self
        · exact List.mem_cons_self
      · exact List.mem_cons_of_mem _ (List.mem_cons_of_mem _ h)
theorem bi_max (hc : X.calm = true) : BiR X T RX W .max (.builtin "max") := by
  intro pins s P F H σ z vv u v d Q I r rv e q
  obtain ⟨xs, ex, e⟩ := Option.bind_eq_some_iff.mp (show ((lstItems vv).bind fun xs => (D.ints xs).bind fun ns => if ns.isEmpty then none else some (D.int (maxI ns))) = some d from e)
  obtain ⟨ns, en, e⟩ := Option.bind_eq_some_iff.mp e
  obtain ⟨a, us, eu, sq, rs⟩ := lstItems_of (K := X.K) rv ex
  rw [ints_of rs en] at sq
  cases ns with
  | nil => cases e
  | cons n ns =>
    cases (Option.some.inj (show some (D.int (maxI (n :: ns))) = some d from e))
    refine cr_max hc pins s z H [u] [v] Q I (vals_1 r) ⟨a, n :: ns, by rw [eu], sq, by simp, fun m h1 h2 => ?_⟩
    have k := maxI_fold ns n
    have : m = maxI (n :: ns) := Int.le_antisymm (k.1 m h1) (h2 _ k.2)
    rw [this]
    exact post_int rv.rel q
theorem bi_min (hc : X.calm = true) : BiR X T RX W .min (.builtin "min") := by
  intro pins s P F H σ z vv u v d Q I r rv e q
  obtain ⟨xs, ex, e⟩ := Option.bind_eq_some_iff.mp (show ((lstItems vv).bind fun xs => (D.ints xs).bind fun ns => if ns.isEmpty then none else some (D.int (minI ns))) = some d from e)
  obtain ⟨ns, en, e⟩ := Option.bind_eq_some_iff.mp e
  obtain ⟨a, us, eu, sq, rs⟩ := lstItems_of (K := X.K) rv ex
  rw [ints_of rs en] at sq
  cases ns with
  | nil => cases e
  | cons n ns =>
    cases (Option.some.inj (show some (D.int (minI (n :: ns))) = some d from e))
    refine cr_min hc pins s z H [u] [v] Q I (vals_1 r) ⟨a, n :: ns, by rw [eu], sq, by simp, fun m h1 h2 => ?_⟩
    have k := minI_fold ns n
    have : m = minI (n :: ns) := Int.le_antisymm (h2 _ k.2) (k.1 m h1)
    rw [this]
    exact post_int rv.rel q
theorem sorted_one {ns ms : List Int} (hp : ms.Perm ns) (hs : ms.Pairwise (fun a b => a ≤ b)) : ms = sortI ns := by
  unfold sortI
  refine List.Perm.eq_of_pairwise (le := fun a b => a ≤ b) (fun a b _ _ h1 h2 => Int.le_antisymm h1 h2) hs ?_ (hp.trans (List.mergeSort_perm ns _).symm)
  have h := List.pairwise_mergeSort (le := fun a b : Int => decide (a ≤ b)) (fun a b c h1 h2 => by simp at *; omega) (fun a b => by simp; omega) ns
  exact h.imp fun h => by simpa using h
theorem tupsI_rs {F H : Hp} {K : PySem.W.Frag} (fH : Same F H) : ∀ {xs : List D} {us : List V} {ts : List (List Int)}, RDs T F xs us → tupsI xs = some ts → us.length = ts.length ∧ ∀ (i : Nat) (u : V) (t : List Int), us[i]? = some u → ts[i]? = some t → TupI K H u t
  | [], us, ts, rs, e => by
    cases (Option.some.inj (show some [] = some ts from e))
    have rs : us = [] := rs
    subst rs
    exact ⟨rfl, fun i u t h => by cases h⟩
  | x :: xs, us, ts, rs, e => by
    obtain ⟨u, r, e1, r1, r2⟩ := rs
    subst e1
    cases x with
    | tup ds =>
      obtain ⟨ns, en, e⟩ := Option.bind_eq_some_iff.mp (show ((D.ints ds).bind fun ns => (tupsI xs).map (ns :: ·)) = some ts from e)
      obtain ⟨ts', et, e⟩ := Option.map_eq_some_iff.mp e
      subst e
      obtain ⟨hl, hh⟩ := tupsI_rs fH r2 et
      obtain ⟨a, vs, ea, hF, rd⟩ := r1
      refine ⟨by rw [List.length_cons, List.length_cons, hl], fun i u' t h1 h2 => ?_⟩
      cases i with
      | zero =>
        cases h1
        cases h2
        rw [ints_of rd en] at hF
        exact ⟨a, ea, .of (fH _ _ hF)⟩
      | succ i => exact hh i u' t h1 h2
    | _ => cases e
theorem codeI_eq (B : Int) : ∀ ns : List Int, codeI B ns = TS.code B ns
  | [] => rfl
  | d :: r => by
    show d * B ^ r.length + codeI B r = d * B ^ r.length + TS.code B r
    rw [codeI_eq B r]
def tcode (h : Heap) (u : V) : Int := match u with
  | .ref t => TS.code 16 (TS.intsOf h (.ref t))
  | _ => 0
theorem bi_sorted (hc : X.calm = true) : BiR X T RX W .sorted (.builtin "sorted") := by
  intro pins s P F H σ z vv u v d Q I r rv e q
  obtain ⟨xs, ex, e⟩ := Option.bind_eq_some_iff.mp (show ((lstItems vv).bind fun xs => (match D.ints xs with
    | some ns => some (D.lst ((sortI ns).map D.int))
    | none => if tupAsc xs = true then some (.lst xs) else none)) = some d from e)
  obtain ⟨a, us, eu, sq, rs⟩ := lstItems_of (K := X.K) rv ex
  cases en : D.ints xs with
  | some ns =>
    rw [en] at e
    cases e
    rw [ints_of rs en] at sq
    refine cr_sortedI pins s z H [u] [v] Q I (vals_1 r) ⟨a, ns, by rw [eu], sq, fun ms p hp hs np => ?_⟩
    rw [sorted_one hp hs]
    exact post_lst rv.rel (int_ds _) np q
  | none =>
    rw [en] at e
    obtain ⟨ht, e⟩ := ite_some (show (if tupAsc xs = true then some (D.lst xs) else none) = some d from e)
    subst e
    unfold tupAsc at ht
    cases et : tupsI xs with
    | none => rw [et] at ht; cases ht
    | some ts =>
      rw [et] at ht
      cases ts with
      | nil => cases ht
      | cons t0 ts =>
        have ht : (decide (ts.length < 63) && decide (1 ≤ t0.length) && (t0 :: ts).all (fun t => decide (t.length = t0.length) && t.all fun i => decide (0 ≤ i ∧ i < 16)) && decide (((t0 :: ts).map (codeI 16)).Pairwise (· < ·))) = true := ht
        rw [Bool.and_eq_true, Bool.and_eq_true, Bool.and_eq_true] at ht
        obtain ⟨⟨⟨h1, h2⟩, h3⟩, h4⟩ := ht
        have h1 := of_decide_eq_true h1
        have h2 := of_decide_eq_true h2
        have h4 := of_decide_eq_true h4
        obtain ⟨A0, k0⟩ := id rv.rel
        obtain ⟨hl, hh⟩ := tupsI_rs (K := X.K) k0.fH rs et
        have at_ : ∀ i u, us[i]? = some u → ∃ t, (t0 :: ts)[i]? = some t ∧ TupI X.K H u t := fun i u hu => by
          have hi : i < (t0 :: ts).length := by rw [← hl]; exact (List.getElem?_eq_some_iff.mp hu).1
          exact ⟨_, List.getElem?_eq_getElem hi, hh i u _ hu (List.getElem?_eq_getElem hi)⟩
        have cd : ∀ u t, TupI X.K H u t → tcode s.heap u = codeI 16 t := fun u t ⟨p, ep, hq⟩ => by
          subst ep
          show TS.code 16 (TS.intsOf s.heap (.ref p)) = _
          rw [(tupI_raw I hq).ints, codeI_eq]
        have emap : us.map (tcode s.heap) = (t0 :: ts).map (codeI 16) := by
          refine List.ext_getElem? fun i => ?_
          rw [List.getElem?_map, List.getElem?_map]
          cases hu : us[i]? with
          | none =>
            have : (t0 :: ts)[i]? = none := by
              rw [List.getElem?_eq_none_iff] at hu ⊢
              omega
            rw [this]
            rfl
          | some u =>
            obtain ⟨t, e1, e2⟩ := at_ i u hu
            rw [e1]
            show some (tcode s.heap u) = some (codeI 16 t)
            rw [cd u t e2]
        have pw : us.Pairwise (fun a b => tcode s.heap a < tcode s.heap b) := by
          rw [← List.pairwise_map (R := (· < ·)), emap]
          exact h4
        refine cr_sortT (d := t0.length) (B := 16) h2 pins s z H [u] [v] Q I (vals_1 r) ⟨a, us, by rw [eu], sq, by rw [hl, List.length_cons]; omega, fun x m => ?_, fun ys p hp hs np => ?_⟩
        · obtain ⟨i, hi⟩ := List.getElem?_of_mem m
          obtain ⟨t, e1, e2⟩ := at_ i x hi
          have k := List.all_eq_true.mp h3 t (List.mem_of_getElem? e1)
          rw [Bool.and_eq_true] at k
          exact ⟨t, e2, of_decide_eq_true k.1, fun m hm => of_decide_eq_true (List.all_eq_true.mp k.2 m hm)⟩
        · have inj : ∀ a b, a ∈ us → b ∈ us → tcode s.heap a = tcode s.heap b → a = b := fun a b ha hb e => by
            obtain ⟨i, hi, ei⟩ := List.getElem_of_mem ha
            obtain ⟨j, hj, ej⟩ := List.getElem_of_mem hb
            rcases Nat.lt_trichotomy i j with c | c | c
            · have := List.pairwise_iff_getElem.mp pw i j hi hj c
              rw [ei, ej, e] at this
              exact absurd this (Int.lt_irrefl _)
            · subst c
              rw [← ei, ej]
            · have := List.pairwise_iff_getElem.mp pw j i hj hi c
              rw [ei, ej, e] at this
              exact absurd this (Int.lt_irrefl _)
          have ys_us : ys = us := by
            have pwy : ys.Pairwise (fun a b => tcode s.heap a ≤ tcode s.heap b) := by
              refine hs.imp_of_mem fun {a b} ma mb h => ?_
              obtain ⟨i, hi⟩ := List.getElem?_of_mem (hp.mem_iff.mp ma)
              obtain ⟨j, hj⟩ := List.getElem?_of_mem (hp.mem_iff.mp mb)
              obtain ⟨t, _, k1⟩ := at_ i a hi
              obtain ⟨t', _, k2⟩ := at_ j b hj
              have := h t t' k1 k2
              rw [cd a t k1, cd b t' k2, codeI_eq, codeI_eq]
              exact this
            refine List.Perm.eq_of_pairwise (le := fun a b => tcode s.heap a ≤ tcode s.heap b) (fun a b ma mb k1 k2 => inj a b (hp.mem_iff.mp ma) mb (Int.le_antisymm k1 k2)) pwy (pw.imp fun h => Int.le_of_lt h) hp
          rw [ys_us]
          exact post_lst rv.rel rs np q
def biFn : Bi → Value
  | .len => .builtin "len"
  | .abs => .builtin "abs"
  | .int => .type "int"
  | .bool => .type "bool"
  | .str => .type "str"
  | .list => .type "list"
  | .tuple => .type "tuple"
  | .sum => .builtin "sum"
  | .min => .builtin "min"
  | .max => .builtin "max"
  | .all => .builtin "all"
  | .any => .builtin "any"
  | .sorted => .builtin "sorted"
theorem bi_all_of (hc : X.calm = true) (b : Bi) : BiR X T RX W b (biFn b) := by
  cases b with
  | len => exact bi_len
  | abs => exact bi_abs
  | int => exact bi_int
  | bool => exact bi_bool
  | list => exact bi_list
  | tuple => exact bi_tuple
  | sum => exact bi_sum hc
  | min => exact bi_min hc
  | max => exact bi_max hc
  | all => exact bi_all hc
  | any => exact bi_any hc
  | str => exact bi_str
  | sorted => exact bi_sorted hc
theorem biFn_or (b : Bi) : (∃ id, biFn b = .builtin id) ∨ ∃ t, biFn b = .type t := by
  cases b <;> first | exact .inl ⟨_, rfl⟩ | exact .inr ⟨_, rfl⟩
theorem pa_1 {e : Expr} {te : TE} (h : PE X e te) (hs : isStar e = false) : PA X [e] (tCons te tNil) := pa_cons h pa_nil (star_of hs)
theorem se_bi {b : Bi} {a : Expr} {ea : E} {x : PySem.Str} {p pos : Pos} (hc : X.calm = true) (ha : SE T RX W G cl X a ea) (hs : isStar a = false) (hg : Gl X x) (hm : X.mg x = none) (hv : bootBuiltins x = some (biFn b)) (hn : x ≠ "__name__") (hd : (x == ("__debug__" : PySem.Str)) = false) :
    SE T RX W G cl X (.Call (.Name x p) [a] [] pos) (.bi b ea) :=
  SE.of (fun _ => rfl) (fun _ _ => rfl) ⟨fun pins s z H Q I ⟨P, F, σ, rel, q⟩ => by
    refine wpAny_Call_Name_kw (ld_blt I hg hm hv ?_ hn hd)
    have run := thn ((pa_1 ha.p hs).run pos pins s z H (fun us H1 => ∃ u F1 σ1 v, us = [u] ∧ Same F F1 ∧ RelV T P F1 H1 σ1 z v u ∧ Post T RX W P z F1 Q (opt (biV b v) fun x => .ok (.d x) σ1)) I (R.mono (R.bind rel q) fun u H1 ⟨F1, σ1, v, h⟩ => ⟨u, F1, σ1, v, rfl, h⟩))
      (Q' := fun us s₁ => wpAny (model X.prog X.w) X.A (call (biFn b) us) (EP X pins z Q) X.xe s₁) fun us s1 ⟨vs, H1, I1, r, u, F1, σ1, vv, eu, sF, rv, q1⟩ => by
        subst eu
        obtain ⟨v, e1, r1⟩ := vals1 r
        subst e1
        obtain ⟨d, ed, q1⟩ := Post.opt q1
        exact bi_all_of hc b pins s1 P F1 H1 σ1 z vv u v d Q I1 r1 rv ed q1
    have hpl : (backTo pos (starEach ([] : List Expr) X.env)).any (·.1) = false := rfl
    rcases biFn_or b with ⟨id, e⟩ | ⟨t, e⟩
    · rw [e] at run ⊢
      exact PyProof.Rows.callWith_builtin1 run (star_of hs) hpl
    · rw [e] at run ⊢
      exact PyProof.Rows.callWith_type1 run (star_of hs) hpl⟩
structure TyC (K : PySem.W.Frag) (C : Addr) : Prop where
  ha : PySem.W.findIn K (.ref C) "__class__" = some (some (.builtin "object.__class__"))
  hn : PySem.W.specialIn K (.builtin "object.__class__") "__get__" = some (some (.builtin "getset_descriptor.__get__"))
  htk : PySem.W.takesIn K (.builtin "object.__class__") = some true
  hm : PySem.W.mroIn K C (.type "object") = some true
  ne : PySem.W.findIn K (.ref C) "__ne__" = some (some (.builtin "object.__ne__"))
  nn : PySem.W.mroIn K C (.type "NoneType") = some false
structure IsOk (K : PySem.W.Frag) (T : Tb) (c : Cs) : Prop where
  ty : ∀ k, k < T.nc → TyC K (T.cA k)
  kit : ∀ x t b, DVal T x → tyD T x = some t → isinD x c = some b → PySem.W.kitOne K t (csV T c) = some b
theorem ty_of {K : PySem.W.Frag} {F H : Hp} {x : D} {u : V} {c : Cs} {b : Bool} (ok : TbOk K T) (k : IsOk K T c) (sF : Same F H) (r : RD T F x u) (e : isinD x c = some b) : ∃ t, TyOf K H u t ∧ PySem.W.kitOne K t (csV T c) = some b := by
  cases x with
  | non => cases (show u = .non from r); exact ⟨_, .non, k.kit .non _ _ trivial rfl e⟩
  | bl a => cases (show u = .bl a from r); exact ⟨_, .bl a, k.kit (.bl a) _ _ trivial rfl e⟩
  | int a => cases (show u = .int a from r); exact ⟨_, .int a, k.kit (.int a) _ _ trivial rfl e⟩
  | str a => cases (show u = .str a from r); exact ⟨_, .str a, k.kit (.str a) _ _ trivial rfl e⟩
  | tup xs => obtain ⟨a, us, e1, ea, _⟩ := r; subst e1; exact ⟨_, .tup (sF _ _ ea), k.kit (.tup xs) _ _ trivial rfl e⟩
  | lst xs => obtain ⟨a, us, e1, ea, _⟩ := r; subst e1; exact ⟨_, .lst (sF _ _ ea), k.kit (.lst xs) _ _ trivial rfl e⟩
  | ins n fs =>
    obtain ⟨a, dx, gs, hc, e1, ea, _⟩ := r
    subst e1
    have y := k.ty n hc
    exact ⟨_, .ins (sF _ _ ea) (ok.cls n hc) y.ha y.hn y.htk y.hm, k.kit (.ins n fs) _ _ hc rfl e⟩
  | scr ns => obtain ⟨a, ob, e1, ea⟩ := r; subst e1; exact ⟨_, .frz (sF _ _ ea), k.kit (.scr ns) _ _ trivial rfl e⟩
  | dcI _ => cases c <;> cases e
  | dcT _ => cases c <;> cases e
  | lkI _ => cases c <;> cases e
  | lkT _ => cases c <;> cases e
  | exn _ _ => cases c <;> cases e
  | cls _ => cases c <;> cases e
theorem se_isin {a b : Expr} {ea : E} {c : Cs} {vc : V} {p pos : Pos} (ok : TbOk X.K T) (k : IsOk X.K T c) (ha : SE T RX W G cl X a ea) (hs : isStar a = false) (hb : PE X b (tC vc)) (hbs : isStar b = false) (hvc : ∀ v, L2.RelV vc v → v = csV T c) (hg : Gl X "isinstance") (hm : X.mg "isinstance" = none) :
    SE T RX W G cl X (.Call (.Name "isinstance" p) [a, b] [] pos) (.isin ea c) :=
  SE.of (fun _ => rfl) (fun _ _ => rfl) ⟨fun pins s z H Q I ⟨P, F, σ, rel, q⟩ => by
    refine wpAny_Call_Name_kw (ld_blt I hg hm (by decide +kernel : bootBuiltins "isinstance" = some (.builtin "isinstance")) ?_ (by decide) (by decide))
    have pa : PA X [a, b] (tCons (R T RX W (ev G cl .val ea)) (tCons (tC vc) tNil)) := pa_cons ha.v (pa_1 hb hbs) (star_of hs)
    have run := thn (pa.run pos pins s z H (fun us H1 => ∃ u F1 σ1 x, us = [u, vc] ∧ Rel T P F1 H1 σ1 z ∧ RD T F1 x u ∧ Post T RX W P z F1 Q (opt (isinD x c) fun b => .ok (bl b) σ1)) I (R.mono (R.one rel q) fun u H1 ⟨F1, σ1, x, h⟩ => ⟨u, F1, σ1, x, rfl, h⟩))
      (Q' := fun us s₁ => wpAny (model X.prog X.w) X.A (call (.builtin "isinstance") us) (EP X pins z Q) X.xe s₁) fun us s1 ⟨vs, H1, I1, r, u, F1, σ1, x, eu, rel1, rx, q1⟩ => by
        subst eu
        obtain ⟨v, w', e1, r1, r2⟩ := vals2 r
        subst e1
        rw [hvc w' r2]
        obtain ⟨b, eb, q1⟩ := Post.opt q1
        obtain ⟨A, k1⟩ := id rel1
        obtain ⟨t, ty, kt⟩ := ty_of ok k k1.fH rx eb
        exact isinst_ok I1 r1 ty kt fun tk => ⟨.bl b, H1, I1.tok _, rfl, post_bl rel1 q1⟩
    refine PyProof.Rows.callWith_builtin1 run (star_of hs) ?_
    rw [star_of hbs]
    rfl⟩
end
end Tf
end
section
set_option Elab.async false
set_option linter.all false
set_option maxRecDepth 100000
namespace Tf
open PySem PySem.Spec PyProof.Rows L2
end Tf
end
section
set_option Elab.async false
set_option linter.all false
set_option maxRecDepth 100000
namespace Tf
open PySem PySem.Spec PyProof.Rows L2
theorem run_at {CX : CXT} {P : Program} {w : World} {K : PySem.W.Frag} {mg : PySem.Str → Option Value} {base : Heap} {k : Nat} {fa : Addr} {name qual : PySem.Str} {params : Arguments} {body : List Stmt} {scope : Scope} {dV kV doc pm cdv ct oc : Value} {an od : Option Addr} {osl : Array (Option Value)} {N ps : List PySem.Str}
    {A : Around} {outer : List Env} {s : Shared} {H : Hp} {us : List Value} {vs : List V} {Q : VK} {E : XK}
    (lk : K.lookup fa = some ⟨oc, od, .func (PySem.W.fnOf name qual params body scope dV kV doc pm an cdv ct), osl⟩) (hcd : PySem.W.codeIn K cdv qual = true) (S : FnScope N ps scope) (hr : Room (k + 1) A) (e0 : Env0 P w K mg base A outer s H)
    (hb : BindsTo s (PySem.W.fnOf name qual params body scope dV kV doc pm an cdv ct) ⟨us, []⟩ (ps.zip us)) (rv : Vals vs us) (hl : vs.length = ps.length)
    (hbody : Room k (A.deeper (envOfC qual scope s.heap.objs.size fa cdv)) → ∃ t, PSs (cxOf CX P w K mg base N qual scope fa cdv A outer s H E) body t ∧ t { nx := fun _ H' => Q .non H', rt := Q } (L2.start N vs) H) :
    codeAny (model P w) A (.call (.ref fa) ⟨us, []⟩) (L2.CR CX outer P w H s Q E) s := by
  have inK : K.In s.heap := e0.mod.kin.keeps (fun c q z => (e0.bs c q z).1)
  have noL : s.heap.NoLimit := e0.mod.nolimit.keeps (fun c q z => (e0.bs c q z).1)
  have kinds : ∀ y ∈ ps.zip us, scope.names.lookup y.1 = some .local ∨ (scope.names.lookup y.1 = some .cell ∧ ((cellsFrom (s.heap.objs.size + 1) scope.names []).lookup y.1).isSome = true) := by
    intro ⟨n, v⟩ hy
    cases S.par n (List.of_mem_zip hy).1 with
    | inl q => exact .inl q
    | inr q => exact .inr ⟨q, PySem.W.cellsFrom_some _ _ _ (.inl q)⟩
  refine codeAny_call_function hr.depth (inK _ _ lk) rfl S.co S.gen rfl
    (PySem.W.codeRec_of inK hcd) (hb _ _ _ _ ?_)
  refine wpAny_newFunctionEnv_cells S.kind kinds fun env' he s1 x => ?_
  subst he
  refine ⟨noL.keeps x.toInCall.keep, codeAny_func ?_⟩
  obtain ⟨t, ht, hq⟩ := hbody (hr.deeper _)
  have I0 : Inv (cxOf CX P w K mg base N qual scope fa cdv A outer s H E) [] (L2.start N vs) H s1 := inv_start S hr.hd e0 hl rv x
  refine wpAny_mono (ht.run [] s1 (L2.start N vs) H _ I0 hq) (fun fl s' hs => ?_) (fun e s' hs => hs)
  cases fl with
  | ret u =>
    obtain ⟨v, z, H', J, r, q⟩ := hs
    exact ⟨v, H', J.os, J.bare, J.base, J.hok, r, q⟩
  | next =>
    obtain ⟨z, H', J, q⟩ := hs
    exact ⟨V.non, H', J.os, J.bare, J.base, J.hok, rfl, q⟩
  | brk =>
    obtain ⟨_, _, _, q⟩ := hs
    exact q.elim
  | cont =>
    obtain ⟨_, _, _, q⟩ := hs
    exact q.elim
structure OwnIt (P : Program) (w : World) (K : PySem.W.Frag) (mg : PySem.Str → Option Value) (C : Addr) (fld : PySem.Str) (fi : Addr) : Prop where
  fn : ∃ name qual params scope dV kV doc pm cdv ct oc an od osl q1 q2 q3 q4 q5, K.lookup fi = some ⟨oc, od, .func (PySem.W.fnOf name qual params [.Return (some (.Call (.Name "iter" q1) [.Attribute (.Name "self" q2) fld q3] [] q4)) q5] scope dV kV doc pm an cdv ct), osl⟩ ∧ PySem.W.codeIn K cdv qual = true ∧ FnScope ["self"] ["self"] scope ∧ Vis scope "self" ∧
    (∀ base A outer s H E, Gl (cxOf (L2.CX P w) P w K mg base ["self"] qual scope fi cdv A outer s H E) "iter") ∧ (∀ env : Env, attributeBase (.Name "self" q2) fld env (eval (.Name "self" q2) env) = eval (.Name "self" q2) env) ∧
    ∀ us : List Value, us.length = 1 → bindArgs (PySem.W.fnOf name qual params [.Return (some (.Call (.Name "iter" q1) [.Attribute (.Name "self" q2) fld q3] [] q4)) q5] scope dV kV doc pm an cdv ct) ⟨us, []⟩ = pure ((["self"] : List PySem.Str).zip us)
  cls : L2.Cls K C
  no : NoAttr K C fld
  free : mg "iter" = none
  it : PySem.W.findIn K (.ref C) "__iter__" = some (some (.ref fi))
  itF : PySem.W.isFn K (.ref fi) = true
end Tf
end
section
set_option Elab.async false
set_option linter.all false
set_option maxRecDepth 100000
namespace Tf
open PySem PySem.Spec PyProof.Rows L2
section
variable {T : Tb} {RX : XR} {W : WX} {X : Cx} {G : Prog} {cl : Call} {md : Md}
theorem scr_ds {F : Hp} : ∀ ns : List Int, RDs T F (ns.map D.int) (ns.map V.int)
  | [] => rfl
  | n :: ns => ⟨_, _, rfl, rfl, scr_ds ns⟩
structure ItOk (T : Tb) (F : Hp) (J : L2.It) (xs : List D) : Prop where
  go : ∀ i F1 H, i < xs.length → Same F F1 → Same F1 H → J.go i H
  yld : ∀ i F1 H x H', J.yld i H x H' → i < xs.length → Same F F1 → ∀ P σ z, Rel T P F1 H σ z → ∃ F2 y, xs[i]? = some y ∧ Same F1 F2 ∧ Rel T P F2 H' σ z ∧ RD T F2 y x
  stop : ∀ i F1 H, i = xs.length → Same F F1 → Same F1 H → J.stop i H
def RI (T : Tb) (RX : XR) (W : WX) (m : Fr → Res (List D)) : TI := fun z H R => ∃ P F σ, Rel T P F H σ z ∧ PostA T RX W P z F (fun F1 H1 σ1 xs J => Rel T P F1 H1 σ1 z ∧ ItOk T F1 J xs) R (m σ)
theorem impI {tg e : Expr} {t t' : TI} (h : PI X tg e t) (k : ∀ z H Q, t' z H Q → t z H Q) : PI X tg e t' := ⟨fun pins s σ H Q I q => h.run pins s σ H Q I (k σ H Q q)⟩
structure OwnIts (P : Program) (w : World) (K : PySem.W.Frag) (mg : PySem.Str → Option Value) (T : Tb) (G : Prog) : Prop where
  inj : ∀ f g, f < T.nf → g < T.nf → T.fN f = T.fN g → f = g
  own : ∀ c f, c < T.nc → clsIt G c = some f → f < T.nf ∧ ∃ fi, OwnIt P w K mg (T.cA c) (T.fN f) fi
theorem it_rng {F : Hp} {lo : Int} {n : Nat} : ItOk T F (Itr lo n) ((List.range n).map fun (k : Nat) => D.int (lo + k)) where
  go := fun i F1 H hi s s1 => by show i < n; simpa using hi
  yld := fun i F1 H x H' hy hi s P σ z rel => by
    obtain ⟨eH, hx⟩ := hy
    subst eH hx
    have hi : i < n := by simpa using hi
    exact ⟨F1, .int (lo + i), by simp [hi], Same.refl _, rel, rfl⟩
  stop := fun i F1 H hi s s1 => by
    have hi : i = n := by simpa using hi
    show n ≤ i
    omega
theorem rng_cases {os : List O} {us : List V} {P F H : Hp} {σ : Fr} {z : L2.St} {xs : List D} (h : EvR T P z F H σ os us) (e : rngOf (O.frzL os) = some xs) :
    (∃ n : Int, us = [.int n] ∧ -(2 ^ 62) ≤ n ∧ n < 2 ^ 62 ∧ xs = (List.range n.toNat).map fun (k : Nat) => D.int (0 + k)) ∨
    ∃ a b : Int, us = [.int a, .int b] ∧ (-(2 ^ 62) ≤ a ∧ a < 2 ^ 62 ∧ -(2 ^ 62) ≤ b ∧ b < 2 ^ 62) ∧ xs = (List.range (b - a).toNat).map fun (k : Nat) => D.int (a + k) := by
  obtain ⟨F', s, rel, rs⟩ := h.frz
  generalize O.frzL os = ds at e rs
  cases ds with
  | nil => cases e
  | cons d ds =>
    obtain ⟨v, r, eu, r1, r2⟩ := rs
    subst eu
    cases d with
    | int a =>
      cases ds with
      | nil =>
        rw [show r = [] from r2, show v = .int a from r1]
        obtain ⟨hb, ex⟩ := ite_some (show (if -4611686018427387904 ≤ a ∧ a < 4611686018427387904 then some ((List.range a.toNat).map fun (k : Nat) => D.int k) else none) = some xs from e)
        exact .inl ⟨a, rfl, by omega, by omega, by rw [← ex]; simp⟩
      | cons d2 ds =>
        obtain ⟨v2, r', eu, r3, r4⟩ := r2
        subst eu
        cases d2 with
        | int b =>
          cases ds with
          | nil =>
            rw [show r' = [] from r4, show v = .int a from r1, show v2 = .int b from r3]
            obtain ⟨hb, ex⟩ := ite_some (show (if -4611686018427387904 ≤ a ∧ a < 4611686018427387904 ∧ -4611686018427387904 ≤ b ∧ b < 4611686018427387904 then some ((List.range (b - a).toNat).map fun (k : Nat) => D.int (a + k)) else none) = some xs from e)
            exact .inr ⟨a, b, rfl, by omega, ex.symm⟩
          | cons _ _ => cases e
        | _ => cases e
    | _ => cases e
theorem pi_rng1R {tg a : Expr} {as : Es} {p pos : Pos} (hg : Gl X "range") (hm : X.mg "range" = none) (ha : PA X [a] (RV T RX W (evs G cl as))) (hs : isStar a = false) (h1 : ∀ (σ : Fr) (os : List O) (σ1 : Fr), evs G cl as σ = .ok os σ1 → os.length = 1) : PI X tg (.Call (.Name "range" p) [a] [] pos) (RI T RX W (evIt G cl (.rng as))) :=
  impI (pi_range1 hg hm ha (star_of hs)) fun z H Q ⟨P, F, σ, rel, q⟩ => by
    have q : PostA T RX W P z F (fun F1 H1 σ1 xs J => Rel T P F1 H1 σ1 z ∧ ItOk T F1 J xs) Q ((evs G cl as σ).bind fun os σ => opt (rngOf (O.frzL os)) fun xs => .ok xs σ) := q
    refine ⟨P, F, σ, rel, ?_⟩
    revert q
    generalize hr : evs G cl as σ = r
    intro q
    cases r with
    | exc x σ1 => exact q
    | bad => exact q
    | ok os σ1 =>
      intro F1 H1 us s ev1
      have q : PostA T RX W P z F (fun F1 H1 σ1 xs J => Rel T P F1 H1 σ1 z ∧ ItOk T F1 J xs) Q (opt (rngOf (O.frzL os)) fun xs => .ok xs σ1) := q
      cases ex : rngOf (O.frzL os) with
      | none => rw [ex] at q; exact q.elim
      | some xs =>
        rw [ex] at q
        rcases rng_cases ev1 ex with ⟨n, eu, b1, b2, exs⟩ | ⟨n, m, eu, _⟩
        · subst exs
          exact ⟨n, eu, b1, b2, q F1 H1 _ s ⟨ev1.rel, it_rng⟩⟩
        · have := h1 _ _ _ hr
          rw [ev1.len, eu] at this
          cases this
def TgR (T : Tb) (g : TG) (Kp : L2.St → Prop) (m : D → Fr → Option Fr) : Prop :=
  ∀ (P F H : Hp) (σ σ' : Fr) (z : L2.St) (x : D) (u : V) (Q : L2.St → Hp → Prop), Rel T P F H σ z → Kp z → RD T F x u → m x σ = some σ' → (∀ z', Rel T P F H σ' z' → Kp z' → Q z' H) → g u z H Q
theorem assign_ok {P F H : Hp} {σ : Fr} {z : L2.St} {v : Val} {u : V} {o : O} {i : Nat} (h : RelV T P F H σ z v u) (e : asO v = some o) (hi : i < σ.length) : Rel T P F H (σ.put i (some (.own o))) (z.set i (some u)) := by
  have main : ∀ (A C : List Addr), RSl T F H σ z A → RO T F H o u C → Own P F H (C ++ A) → Rel T P F H (σ.put i (some (.own o))) (z.set i (some u)) := fun A C h1 h2 ow => by
    obtain ⟨A', h3, ct⟩ := h1.put (s := some (.own o)) (x := some u) hi ⟨u, rfl, h2⟩
    exact (ow.le fun a => by rw [List.count_append]; exact ct a).rel h3
  cases v with
  | d x =>
    cases (Option.some.inj (show some (O.d x) = some o from e))
    obtain ⟨⟨A, k⟩, r⟩ := h
    exact main A [] k.s ⟨rfl, r⟩ k.own
  | o o' =>
    cases (Option.some.inj (show some o' = some o from e))
    obtain ⟨A, B, k⟩ := h
    exact main A B k.s k.o ⟨nd_count.mp k.nd, k.nP, k.nF, k.pH, k.fH, k.pF⟩
  | b i o => cases e
def Keep (lm : List Nat) (z0 z : L2.St) : Prop := ∀ i, i ∈ lm → z[i]? = z0[i]?
theorem Keep.set {lm : List Nat} {z0 z : L2.St} {i : Nat} {x : Option V} (h : Keep lm z0 z) (hi : i ∉ lm) : Keep lm z0 (z.set i x) := fun j hj => by
  rw [List.getElem?_set_ne (fun e => hi (by rw [e]; exact hj))]
  exact h j hj
theorem asg_var {i : Nat} {x : D} {σ σ' : Fr} (h : asg (.var i) x σ = some σ') : i < σ.length ∧ σ' = σ.put i (some (owned x)) := by
  have h : (match σ[i]? with
    | some (some (.lent _)) => none
    | some _ => some (σ.put i (some (owned x)))
    | none => none) = some σ' := h
  cases e : σ[i]? with
  | none => rw [e] at h; cases h
  | some s =>
    have hi := (List.getElem?_eq_some_iff.mp e).1
    rw [e] at h
    cases s with
    | none => exact ⟨hi, (Option.some.inj h).symm⟩
    | some s => cases s with
      | own o => exact ⟨hi, (Option.some.inj h).symm⟩
      | lent o => cases h
theorem tg_var {i : Nat} {Kp : L2.St → Prop} (hK : ∀ z u, Kp z → Kp (z.set i (some u))) : TgR T (gName i) Kp (asg (.var i)) := by
  intro P F H σ σ' z x u Q rel kp rx e q
  obtain ⟨hi, rfl⟩ := asg_var e
  exact q _ (assign_ok (v := .d x) ⟨rel, rx⟩ rfl hi) (hK z u kp)
def TgsR (T : Tb) (g : TGs) (Kp : L2.St → Prop) (m : List D → Fr → Option Fr) : Prop :=
  ∀ (P F H : Hp) (σ σ' : Fr) (z : L2.St) (xs : List D) (us : List V) (Q : L2.St → Hp → Prop), Rel T P F H σ z → Kp z → RDs T F xs us → m xs σ = some σ' → (∀ z', Rel T P F H σ' z' → Kp z' → Q z' H) → g us z H Q
theorem tgs_nil {Kp : L2.St → Prop} : TgsR T gNil Kp (asg.asgs []) := by
  intro P F H σ σ' z xs us Q rel kp rx e q
  cases xs with
  | nil =>
    cases (Option.some.inj (show some σ = some σ' from by simpa [asg.asgs] using e))
    exact ⟨rx, q z rel kp⟩
  | cons _ _ => simp [asg.asgs] at e
theorem tgs_cons {Kp : L2.St → Prop} {t : Tg} {ts : List Tg} {g : TG} {gs : TGs} (h1 : TgR T g Kp (asg t)) (h2 : TgsR T gs Kp (asg.asgs ts)) : TgsR T (gCons g gs) Kp (asg.asgs (t :: ts)) := by
  intro P F H σ σ' z xs us Q rel kp rx e q
  cases xs with
  | nil => simp [asg.asgs] at e
  | cons x xs =>
    obtain ⟨v, r, eu, r1, r2⟩ := rx
    rw [asg.asgs] at e
    obtain ⟨σ1, e1, e2⟩ := Option.bind_eq_some_iff.mp e
    exact ⟨v, r, eu, h1 P F H σ σ1 z x v _ rel kp r1 e1 fun z1 rel1 kp1 => h2 P F H σ1 σ' z1 xs r Q rel1 kp1 r2 e2 q⟩
theorem PG.or {tg : Expr} {t t' : TG} (h : PG X tg t) (h' : PG X tg t') : PG X tg (fun v σ H Q => t v σ H Q ∨ t' v σ H Q) := ⟨fun pins s σ H v u Q I r q => q.elim (h.run pins s σ H v u Q I r) (h'.run pins s σ H v u Q I r)⟩
theorem asgs_len {ts : List Tg} : ∀ {xs : List D} {σ σ' : Fr}, asg.asgs ts xs σ = some σ' → xs.length = ts.length := by
  induction ts with
  | nil => intro xs σ σ' e; cases xs with
    | nil => rfl
    | cons _ _ => simp [asg.asgs] at e
  | cons t ts ih => intro xs σ σ' e; cases xs with
    | nil => simp [asg.asgs] at e
    | cons x xs =>
      rw [asg.asgs] at e
      obtain ⟨σ1, e1, e2⟩ := Option.bind_eq_some_iff.mp e
      rw [List.length_cons, List.length_cons, ih e2]
def gSeq (K : PySem.W.Frag) (n : Nat) (t : TGs) : TG := fun v σ H Q => gTup K n t v σ H Q ∨ gUnl K n t v σ H Q
theorem tg_tup {Kp : L2.St → Prop} {ts : List Tg} {gs : TGs} {K : PySem.W.Frag} (h : TgsR T gs Kp (asg.asgs ts)) : TgR T (gSeq K ts.length gs) Kp (asg (.tup ts)) := by
  intro P F H σ σ' z x u Q rel kp rx e q
  rw [asg] at e
  obtain ⟨xs, ex, e⟩ := Option.bind_eq_some_iff.mp e
  obtain ⟨A, k⟩ := id rel
  have hl := asgs_len e
  cases x with
  | tup ys =>
    cases (Option.some.inj (show some ys = some xs from ex))
    obtain ⟨a, us, eu, ea, rs⟩ := rx
    exact .inl ⟨a, us, eu, .of (k.fH _ _ ea), by rw [← rs.len, hl], h P F H σ σ' z xs us Q rel kp rs e q⟩
  | lst ys =>
    cases (Option.some.inj (show some ys = some xs from ex))
    obtain ⟨a, us, eu, ea, rs⟩ := rx
    exact .inr ⟨a, us, eu, .of (k.fH _ _ ea), by rw [← rs.len, hl], h P F H σ σ' z xs us Q rel kp rs e q⟩
  | scr ns =>
    cases (Option.some.inj (show some (ns.map D.int) = some xs from ex))
    obtain ⟨a, ob, eu, ea⟩ := rx
    have rs : RDs T F (ns.map D.int) (ns.map V.int) := scr_ds ns
    exact .inr ⟨a, _, eu, .inl (.inr ⟨ob, k.fH _ _ ea⟩), by rw [← rs.len, hl], h P F H σ σ' z _ _ Q rel kp rs e q⟩
  | _ => cases ex
end
end Tf
end
section
set_option Elab.async false
set_option linter.all false
set_option maxRecDepth 100000
namespace Tf
open PySem PySem.Spec PyProof.Rows L2
def PostS (T : Tb) (RX : XR) (W : WX) (lm : List Nat) (z0 : L2.St) (P F0 : Hp) (D : Ends) : RS → Prop
  | .next σ => ∀ F H z, Same F0 F → Rel T P F H σ z → Keep lm z0 z → D.nx z H
  | .brk σ => ∀ F H z, Same F0 F → Rel T P F H σ z → Keep lm z0 z → D.bk z H
  | .cont σ => ∀ F H z, Same F0 F → Rel T P F H σ z → Keep lm z0 z → D.ct z H
  | .ret v σ => ∀ F H z u, Same F0 F → RelV T P F H σ z v u → Keep lm z0 z → D.rt u H
  | .exc x σ => ∀ F H z c d, Same F0 F → Rel T P F H σ z → Keep lm z0 z → RX F H x c d → W c d z H
  | .bad => False
def RSt (T : Tb) (RX : XR) (W : WX) (lm : List Nat) (z0 : L2.St) (m : Fr → RS) : TS := fun D z H => ∃ P F σ, Rel T P F H σ z ∧ Keep lm z0 z ∧ PostS T RX W lm z0 P F D (m σ)
section
variable {T : Tb} {RX : XR} {W : WX} {X : Cx} {G : Prog} {cl : Call} {md : Md} {lm : List Nat} {z0 : L2.St} {w : Nat}
theorem PostS.later {P F0 F1 : Hp} {D : Ends} {r : RS} (h : Same F0 F1) (p : PostS T RX W lm z0 P F0 D r) : PostS T RX W lm z0 P F1 D r := by
  cases r with
  | next σ => exact fun F H z s => p F H z (h.trans s)
  | brk σ => exact fun F H z s => p F H z (h.trans s)
  | cont σ => exact fun F H z s => p F H z (h.trans s)
  | ret v σ => exact fun F H z u s => p F H z u (h.trans s)
  | exc x σ => exact fun F H z c d s => p F H z c d (h.trans s)
  | bad => exact p
theorem R.st {m : Fr → Res Val} {f : Val → Fr → RS} {z : L2.St} {H : Hp} {D : Ends} {P F : Hp} {σ : Fr} (rel : Rel T P F H σ z) (kp : Keep lm z0 z) (h : PostS T RX W lm z0 P F D ((m σ).st f)) :
    R T RX W m z H fun u H1 => ∃ F1 σ1 v, Same F F1 ∧ RelV T P F1 H1 σ1 z v u ∧ PostS T RX W lm z0 P F1 D (f v σ1) := by
  refine ⟨P, F, σ, rel, ?_⟩
  revert h
  generalize m σ = r
  intro h
  cases r with
  | ok v σ1 => exact fun F1 H1 u s k => ⟨F1, σ1, v, s, k, PostS.later s h⟩
  | exc x σ1 => exact fun F1 H1 c d s k rx => h F1 H1 z c d s k kp rx
  | bad => exact h
theorem RT.st {m : Fr → Res Val} {f : Val → Fr → RS} {z : L2.St} {H : Hp} {D : Ends} {P F : Hp} {σ : Fr} (rel : Rel T P F H σ z) (kp : Keep lm z0 z) (hm : ∀ v σ1, m σ = .ok v σ1 → ∃ b, v = .d (.bl b)) (h : PostS T RX W lm z0 P F D ((m σ).st f)) :
    RT T RX W m z H fun b H1 => ∃ F1 σ1, Same F F1 ∧ Rel T P F1 H1 σ1 z ∧ PostS T RX W lm z0 P F1 D (f (.d (.bl b)) σ1) := by
  refine ⟨P, F, σ, rel, ?_⟩
  revert h hm
  generalize m σ = r
  intro hm h
  cases r with
  | ok v σ1 =>
    obtain ⟨b, rfl⟩ := hm v σ1 rfl
    exact ⟨b, rfl, fun F1 H1 s k => ⟨F1, σ1, s, k, PostS.later s h⟩⟩
  | exc x σ1 => exact fun F1 H1 c d s k rx => h F1 H1 z c d s k kp rx
  | bad => exact h.elim
theorem RV.st {m : Fr → Res (List O)} {f : List O → Fr → RS} {z : L2.St} {H : Hp} {D : Ends} {P F : Hp} {σ : Fr} (rel : Rel T P F H σ z) (kp : Keep lm z0 z) (h : PostS T RX W lm z0 P F D ((m σ).st f)) :
    RV T RX W m z H fun us H1 => ∃ F1 σ1 os, Same F F1 ∧ EvR T P z F1 H1 σ1 os us ∧ PostS T RX W lm z0 P F1 D (f os σ1) := by
  refine ⟨P, F, σ, rel, ?_⟩
  revert h
  generalize m σ = r
  intro h
  cases r with
  | ok v σ1 => exact fun F1 H1 u s k => ⟨F1, σ1, v, s, k, PostS.later s h⟩
  | exc x σ1 => exact fun F1 H1 c d s k rx => h F1 H1 z c d s k kp rx
  | bad => exact h
theorem PostS.optS {α : Type} {P F : Hp} {D : Ends} {o : Option α} {f : α → RS} (h : PostS T RX W lm z0 P F D (optS o f)) : ∃ a, o = some a ∧ PostS T RX W lm z0 P F D (f a) := by
  cases o with
  | none => exact h.elim
  | some a => exact ⟨a, rfl, h⟩
abbrev SS (T : Tb) (RX : XR) (W : WX) (lm : List Nat) (z0 : L2.St) (G : Prog) (cl : Call) (w : Nat) (X : Cx) (st : Stmt) (S : S) : Prop := PS X st (RSt T RX W lm z0 (exS G cl w S))
abbrev SSs (T : Tb) (RX : XR) (W : WX) (lm : List Nat) (z0 : L2.St) (G : Prog) (cl : Call) (w : Nat) (X : Cx) (st : List Stmt) (S : Ss) : Prop := PSs X st (RSt T RX W lm z0 (exSs G cl w S))
theorem sss_nil : SSs T RX W lm z0 G cl w X [] .nil := impSs pss_nil fun D z H ⟨P, F, σ, rel, kp, q⟩ => q F H z (Same.refl _) rel kp
theorem sss_cons {st : Stmt} {rest : List Stmt} {S : S} {Sr : Ss} (h1 : SS T RX W lm z0 G cl w X st S) (h2 : SSs T RX W lm z0 G cl w X rest Sr) : SSs T RX W lm z0 G cl w X (st :: rest) (.cons S Sr) := by
  refine impSs (pss_cons h1 h2) fun D z H ⟨P, F, σ, rel, kp, q⟩ => ⟨P, F, σ, rel, kp, ?_⟩
  have q : PostS T RX W lm z0 P F D (match exS G cl w S σ with
    | .next σ => exSs G cl w Sr σ
    | z => z) := q
  revert q
  generalize exS G cl w S σ = r
  intro q
  cases r with
  | next σ1 => exact fun F1 H1 z1 s rel1 kp1 => ⟨P, F1, σ1, rel1, kp1, PostS.later s q⟩
  | _ => exact q
theorem ss_ret {e : Expr} {ee : E} {pos : Pos} (h : SE T RX W G cl X e ee) : SS T RX W lm z0 G cl w X (.Return (some e) pos) (.ret ee) := impS (ps_ret h.v) fun D z H ⟨P, F, σ, rel, kp, q⟩ =>
  R.mono (R.st rel kp q) fun u H1 ⟨F1, σ1, v, s, rv, q1⟩ => q1 F1 H1 z u (Same.refl _) rv kp
theorem asgV_some {i : Nat} {v : Val} {σ σ' : Fr} (h : asgV i v σ = some σ') : ∃ o, asO v = some o ∧ i < σ.length ∧ σ' = σ.put i (some (.own o)) := by
  have h : (match σ[i]? with
    | some (some (.lent _)) => none
    | some _ => (asO v).map fun o => σ.put i (some (.own o))
    | none => none) = some σ' := h
  cases e : σ[i]? with
  | none => rw [e] at h; cases h
  | some s =>
    have hi := (List.getElem?_eq_some_iff.mp e).1
    rw [e] at h
    cases s with
    | none =>
      obtain ⟨o, e1, e2⟩ := Option.map_eq_some_iff.mp (show (asO v).map (fun o => σ.put i (some (.own o))) = some σ' from h)
      exact ⟨o, e1, hi, e2.symm⟩
    | some s => cases s with
      | own o =>
        obtain ⟨o, e1, e2⟩ := Option.map_eq_some_iff.mp (show (asO v).map (fun o => σ.put i (some (.own o))) = some σ' from h)
        exact ⟨o, e1, hi, e2.symm⟩
      | lent o => cases h
theorem ss_asg {i : Nat} {x : PySem.Str} {e : Expr} {ee : E} {pos pos' : Pos} (h : SE T RX W G cl X e ee) (hN : X.N.Nodup) (hi : X.N[i]? = some x) (hx : Loc X.env.scope x) (hl : i ∉ lm) (hs : swapsWith e (some (.Name x pos')) pos.line X.env = pure false) (hf : X.fn x = true ∨ X.env.scope.names.lookup x = some .local) :
    SS T RX W lm z0 G cl w X (.Assign [.Name x pos'] e pos) (.asg i ee) := impS (ps_set hN hi hx h.v hs hf) fun D z H ⟨P, F, σ, rel, kp, q⟩ =>
  R.mono (R.st rel kp q) fun u H1 ⟨F1, σ1, v, s, rv, q1⟩ => by
    obtain ⟨σ', e', q1⟩ := PostS.optS q1
    obtain ⟨o, eo, hlt, rfl⟩ := asgV_some e'
    exact q1 F1 H1 _ (Same.refl _) (assign_ok rv eo hlt) (kp.set hl)
theorem ss_asgT {tg e : Expr} {ee : E} {ts : List Tg} {g : TG} {pos : Pos} (h : SE T RX W G cl X e ee) (hg : PG X tg g) (ht : TgR T g (Keep lm z0) (asg (.tup ts))) (hs : swapsWithSole [tg] e pos.line X.env = pure false) (hw : swappedStores [tg] e X.env = pure none) (h1 : (assignEach [tg] X.env).map (·.2) = [assign tg X.env]) : SS T RX W lm z0 G cl w X (.Assign [tg] e pos) (.asgT ts ee) :=
  impS (ps_asg h.v hg hs hw h1) fun D z H ⟨P, F, σ, rel, kp, q⟩ =>
  R.mono (R.st rel kp q) fun u H1 ⟨F1, σ1, v, s, rv, q1⟩ => by
    obtain ⟨σ', e', q1⟩ := PostS.optS q1
    obtain ⟨x, ex, e'⟩ := Option.bind_eq_some_iff.mp e'
    obtain ⟨F2, s2, rel2, rd⟩ := rv.toD ex
    exact ht P F2 H1 σ1 σ' z x u D.nx rel2 kp rd e' fun z' r' k' => q1 F2 H1 z' s2 r' k'
theorem ss_ife {c : Expr} {a b : List Stmt} {ec : E} {Sa Sb : Ss} {pos : Pos} (hc : SE T RX W G cl X c ec) (ha : SSs T RX W lm z0 G cl w X a Sa) (hb : SSs T RX W lm z0 G cl w X b Sb) : SS T RX W lm z0 G cl w X (.If c a b pos) (.ife ec Sa Sb) :=
  impS (ps_if hc.t ha hb) fun D z H ⟨P, F, σ, rel, kp, q⟩ =>
  RT.mono (RT.st rel kp (fun v σ1 e => ev_tst ec e) q) fun k H1 ⟨F1, σ1, s, rel1, q1⟩ => by
    cases k with
    | true => exact ⟨P, F1, σ1, rel1, kp, q1⟩
    | false => exact ⟨P, F1, σ1, rel1, kp, q1⟩
theorem ss_whl {c : Expr} {body : List Stmt} {ec : E} {Sb : Ss} {pos : Pos} (hp : PassesOwn (model X.prog X.w) X.A X.env X.xe) (hc : SE T RX W G cl X c ec) (hb : SSs T RX W lm z0 G cl w X body Sb) : SS T RX W lm z0 G cl w X (.While c body [] pos) (.whl ec Sb) := by
  refine impS (ps_while hp hc.t hb) fun D z H ⟨P, F, σ, rel, kp, q⟩ => ?_
  refine ⟨fun m z H => ∃ P F σ, Rel T P F H σ z ∧ Keep lm z0 z ∧ PostS T RX W lm z0 P F D (whlLoop (fun σ => ev G cl .tst ec σ) (fun σ => exSs G cl w Sb σ) m σ), ⟨w, P, F, σ, rel, kp, q⟩, ?_⟩
  clear q kp rel
  rintro m z H ⟨P, F, σ, rel, kp, q⟩
  cases m with
  | zero => exact q.elim
  | succ m =>
    refine RT.mono (RT.st rel kp (fun v σ1 e => ev_tst ec e) q) fun k H1 ⟨F1, σ1, s, rel1, q1⟩ => ?_
    cases k with
    | false => exact q1 F1 H1 z (Same.refl _) rel1 kp
    | true =>
      refine ⟨fun z' H' => ∃ P F σ, Rel T P F H' σ z' ∧ Keep lm z0 z' ∧ PostS T RX W lm z0 P F D (whlLoop (fun σ => ev G cl .tst ec σ) (fun σ => exSs G cl w Sb σ) m σ), fun z' H' h => ⟨m, Nat.lt_succ_self _, h⟩, P, F1, σ1, rel1, kp, ?_⟩
      have q1 : PostS T RX W lm z0 P F1 D (match exSs G cl w Sb σ1 with
        | .next σ => whlLoop (fun σ => ev G cl .tst ec σ) (fun σ => exSs G cl w Sb σ) m σ
        | .cont σ => whlLoop (fun σ => ev G cl .tst ec σ) (fun σ => exSs G cl w Sb σ) m σ
        | .brk σ => .next σ
        | r => r) := q1
      revert q1
      generalize exSs G cl w Sb σ1 = r
      intro q1
      cases r with
      | next σ2 => exact fun F2 H2 z2 s2 rel2 kp2 => ⟨P, F2, σ2, rel2, kp2, PostS.later s2 q1⟩
      | cont σ2 => exact fun F2 H2 z2 s2 rel2 kp2 => ⟨P, F2, σ2, rel2, kp2, PostS.later s2 q1⟩
      | brk σ2 => exact q1
      | ret v σ2 => exact q1
      | exc x σ2 => exact q1
      | bad => exact q1
theorem RI.st {m : Fr → Res (List D)} {f : List D → Fr → RS} {z : L2.St} {H : Hp} {D : Ends} {P F : Hp} {σ : Fr} (rel : Rel T P F H σ z) (kp : Keep lm z0 z) (h : PostS T RX W lm z0 P F D ((m σ).st f)) :
    RI T RX W m z H fun J H1 => ∃ F1 σ1 xs, Same F F1 ∧ (Rel T P F1 H1 σ1 z ∧ ItOk T F1 J xs) ∧ PostS T RX W lm z0 P F1 D (f xs σ1) := by
  refine ⟨P, F, σ, rel, ?_⟩
  revert h
  generalize m σ = r
  intro h
  cases r with
  | ok v σ1 => exact fun F1 H1 u s k => ⟨F1, σ1, v, s, k, PostS.later s h⟩
  | exc x σ1 => exact fun F1 H1 c d s k rx => h F1 H1 z c d s k kp rx
  | bad => exact h
theorem RI.mono {m : Fr → Res (List D)} {z : L2.St} {H : Hp} {Q Q' : L2.It → Hp → Prop} (h : RI T RX W m z H Q) (k : ∀ u H, Q u H → Q' u H) : RI T RX W m z H Q' := by
  obtain ⟨P, F, σ, rel, q⟩ := h
  exact ⟨P, F, σ, rel, PostA.mono q k⟩
theorem ss_for {tg iter : Expr} {body : List Stmt} {t : Tg} {it : It} {g : TG} {Sb : Ss} {pos : Pos} (hp : PassesOwn (model X.prog X.w) X.A X.env X.xe) (hcalm : X.calm = true) (hi : PI X tg iter (RI T RX W (evIt G cl it))) (hg : PG X tg g) (ht : TgR T g (Keep lm z0) (asg t)) (hb : SSs T RX W lm z0 G cl w X body Sb)
    (hs : ∀ x, foldedSetIterable iter X.env x = pure x) : SS T RX W lm z0 G cl w X (.For tg iter body [] pos) (.for_ t it Sb) := by
  refine impS (ps_for hp hcalm hi hg hb hs) fun D z H ⟨P, F, σ, rel, kp, q⟩ => ?_
  refine RI.mono (RI.st rel kp q) fun J H1 ⟨F1, σ1, xs, s, ⟨rel1, iok⟩, q1⟩ => ?_
  refine ⟨fun i m z H => m + i = xs.length ∧ ∃ P F σ, Same F1 F ∧ Rel T P F H σ z ∧ Keep lm z0 z ∧ PostS T RX W lm z0 P F D (forLoop (fun x σ => optS (asg t x σ) fun σ => exSs G cl w Sb σ) (xs.drop i) σ), ⟨xs.length, by omega, P, F1, σ1, Same.refl _, rel1, kp, by rw [List.drop_zero]; exact q1⟩, ?_⟩
  clear q1 rel1 kp q rel
  rintro i m z H ⟨hm, P, F, σ, sF, rel, kp, q⟩
  obtain ⟨A, k⟩ := id rel
  by_cases hlt : i < xs.length
  · refine .inr ⟨iok.go i F H hlt sF k.fH, fun z' H' => ∃ P F σ, Same F1 F ∧ Rel T P F H' σ z' ∧ Keep lm z0 z' ∧ PostS T RX W lm z0 P F D (forLoop (fun x σ => optS (asg t x σ) fun σ => exSs G cl w Sb σ) (xs.drop (i + 1)) σ), fun z' H' h => ⟨m - 1, by omega, by omega, h⟩, fun x H' hy => ?_⟩
    obtain ⟨F2, y, ey, s2, rel2, ry⟩ := iok.yld i F H x H' hy hlt sF P σ z rel
    rw [List.drop_eq_getElem_cons hlt, (List.getElem?_eq_some_iff.mp ey).2] at q
    have q : PostS T RX W lm z0 P F D (match (optS (asg t y σ) fun σ => exSs G cl w Sb σ) with
      | .next σ => forLoop (fun x σ => optS (asg t x σ) fun σ => exSs G cl w Sb σ) (xs.drop (i + 1)) σ
      | .cont σ => forLoop (fun x σ => optS (asg t x σ) fun σ => exSs G cl w Sb σ) (xs.drop (i + 1)) σ
      | .brk σ => .next σ
      | r => r) := q
    cases ea : asg t y σ with
    | none => rw [ea] at q; exact q.elim
    | some σ' =>
      rw [ea] at q
      refine ht P F2 H' σ σ' z y x _ rel2 kp ry ea fun z' rel3 kp3 => ⟨P, F2, σ', rel3, kp3, ?_⟩
      have q : PostS T RX W lm z0 P F2 D (match exSs G cl w Sb σ' with
        | .next σ => forLoop (fun x σ => optS (asg t x σ) fun σ => exSs G cl w Sb σ) (xs.drop (i + 1)) σ
        | .cont σ => forLoop (fun x σ => optS (asg t x σ) fun σ => exSs G cl w Sb σ) (xs.drop (i + 1)) σ
        | .brk σ => .next σ
        | r => r) := PostS.later s2 q
      revert q
      generalize exSs G cl w Sb σ' = r
      intro q
      cases r with
      | next σ2 => exact fun F3 H3 z3 s3 rel3 kp3 => ⟨P, F3, σ2, (sF.trans s2).trans s3, rel3, kp3, PostS.later s3 q⟩
      | cont σ2 => exact fun F3 H3 z3 s3 rel3 kp3 => ⟨P, F3, σ2, (sF.trans s2).trans s3, rel3, kp3, PostS.later s3 q⟩
      | brk σ2 => exact q
      | ret v σ2 => exact q
      | exc x σ2 => exact q
      | bad => exact q
  · have hie : i = xs.length := by omega
    refine .inl ⟨iok.stop i F H hie sF k.fH, ?_⟩
    rw [List.drop_of_length_le (by omega)] at q
    exact q F H z (Same.refl _) rel kp
end
end Tf
end
section
set_option Elab.async false
set_option linter.all false
set_option maxRecDepth 100000
namespace Tf
open PySem PySem.Spec PyProof.Rows L2
section
variable {T : Tb} {RX : XR} {W : WX} {X : Cx} {G : Prog} {cl : Call} {md : Md} {lm : List Nat} {z0 : L2.St} {w : Nat}
theorem ROs.set {F H : Hp} {o : O} {u : V} {C : List Addr} (ro : RO T F H o u C) : ∀ {os : List O} {us : List V} {B : List Addr} {j : Nat}, ROs T F H os us B → ∃ B', ROs T F H (os.set j o) (us.set j u) B' ∧ ∀ a, B'.count a ≤ B.count a + C.count a
  | [], _, _, _, r => by
    obtain ⟨e, eA⟩ := r
    subst e eA
    exact ⟨[], ⟨rfl, rfl⟩, fun a => by simp⟩
  | x :: xs, _, _, 0, r => by
    obtain ⟨v, s, A1, A2, e, eA, r1, r2⟩ := r
    subst e eA
    exact ⟨C ++ A2, ⟨u, s, C, A2, rfl, rfl, ro, r2⟩, fun a => by rw [List.count_append, List.count_append]; omega⟩
  | x :: xs, _, _, j + 1, r => by
    obtain ⟨v, s, A1, A2, e, eA, r1, r2⟩ := r
    subst e eA
    obtain ⟨B', h, ct⟩ := ROs.set ro (j := j) r2
    exact ⟨A1 ++ B', ⟨v, _, A1, B', rfl, rfl, r1, h⟩, fun a => by have := ct a; rw [List.count_append, List.count_append]; omega⟩
theorem ROs.app {F H : Hp} {o : O} {u : V} {C : List Addr} (ro : RO T F H o u C) : ∀ {os : List O} {us : List V} {B : List Addr}, ROs T F H os us B → ROs T F H (os ++ [o]) (us ++ [u]) (B ++ C)
  | [], _, _, r => by
    obtain ⟨e, eA⟩ := r
    subst e eA
    exact ⟨u, [], C, [], rfl, by simp, ro, rfl, rfl⟩
  | x :: xs, _, _, r => by
    obtain ⟨v, s, A1, A2, e, eA, r1, r2⟩ := r
    subst e eA
    exact ⟨v, s ++ [u], A1, A2 ++ C, rfl, by rw [List.append_assoc], r1, ROs.app ro r2⟩
theorem ROf.put {F H : Hp} (ok : ∀ f g, f < T.nf → g < T.nf → T.fN f = T.fN g → f = g) {f : Nat} (hf : f < T.nf) {o : O} {u : V} {C : List Addr} (ro : RO T F H o u C) : ∀ {fs : List (Nat × O)} {gs : List (PySem.Str × V)} {B : List Addr}, ROf T F H fs gs B →
    ∃ B', ROf T F H (putN f o fs) (L2.putF (T.fN f) u gs) B' ∧ ∀ a, B'.count a ≤ B.count a + C.count a
  | [], _, _, r => by
    obtain ⟨e, eA⟩ := r
    subst e eA
    exact ⟨C, ⟨u, [], C, [], hf, rfl, by simp, ro, rfl, rfl⟩, fun a => by omega⟩
  | (k, x) :: xs, _, _, r => by
    obtain ⟨v, s, A1, A2, hk, e, eA, r1, r2⟩ := r
    subst e eA
    by_cases c : k = f
    · subst c
      refine ⟨C ++ A2, ?_, fun a => by rw [List.count_append, List.count_append]; omega⟩
      have e1 : putN k o ((k, x) :: xs) = (k, o) :: xs := by simp [putN]
      have e2 : L2.putF (T.fN k) u ((T.fN k, v) :: s) = (T.fN k, u) :: s := by simp [L2.putF]
      rw [e1, e2]
      exact ⟨u, s, C, A2, hk, rfl, rfl, ro, r2⟩
    · obtain ⟨B', h, ct⟩ := ROf.put ok hf ro r2
      have c' : T.fN k ≠ T.fN f := fun q => c (ok _ _ hk hf q)
      refine ⟨A1 ++ B', ?_, fun a => by have := ct a; rw [List.count_append, List.count_append]; omega⟩
      have e1 : putN f o ((k, x) :: xs) = (k, x) :: putN f o xs := by simp [putN, c]
      have e2 : L2.putF (T.fN f) u ((T.fN k, v) :: s) = (T.fN k, v) :: L2.putF (T.fN f) u s := by simp [L2.putF, c']
      rw [e1, e2]
      exact ⟨v, _, A1, B', hk, rfl, rfl, r1, h⟩
theorem ROf.len {F H : Hp} : ∀ {xs : List (Nat × O)} {vs : List (PySem.Str × V)} {A : List Addr}, ROf T F H xs vs A → xs.length = vs.length
  | [], _, _, h => by rw [h.1]; rfl
  | (_, x) :: xs, _, _, h => by
    obtain ⟨v, r, A1, A2, _, e, _, _, h2⟩ := h
    rw [e, List.length_cons, List.length_cons, ROf.len h2]
theorem chg_at {P F H : Hp} {σ : Fr} {z : L2.St} {A C : List Addr} {i : Nat} {o : O} {l : Bool} (h : RSl T F H σ z A) (ow : Own P F H (C ++ A)) (e : σ[i]? = some (some (if l then .lent o else .own o))) :
    ∃ v Ai, z[i]? = some (some v) ∧ RO T F H o v Ai ∧ Own P F H (C ++ Ai) ∧ ∀ {H' : Hp} {o' : O} {A' : List Addr} {a : Addr}, a ∈ Ai → (∀ b q, b ≠ a → H b = some q → H' b = some q) → RO T F H' o' v A' → (∀ b, A'.count b ≤ C.count b + Ai.count b) → Rel T P F H' (σ.put i (some (if l then .lent o' else .own o'))) z := by
  obtain ⟨x, Ai, C0, ez, k, rs, pm⟩ := h.split e
  have ct : ∀ a, Ai.count a + C0.count a = A.count a := fun a => by have := pm.count_eq a; rwa [List.count_append] at this
  obtain ⟨v, ex, ro⟩ : ∃ v, x = some v ∧ RO T F H o v Ai := by cases l <;> exact k
  subst ex
  refine ⟨v, Ai, ez, ro, ow.le fun a => by have := ct a; rw [List.count_append, List.count_append]; omega, fun {H' o' A' a} ha hk ro' ct' => ?_⟩
  have oA : Own P F H Ai := ow.le fun a => by have := ct a; rw [List.count_append]; omega
  have sub : ∀ {K : Hp}, Same K H → K a = none → Same K H' := fun {K} s n b q e => hk b q (fun eb => by rw [eb, n] at e; cases e) (s b q e)
  have nC : a ∉ C0 := fun m => by
    have k1 := List.count_pos_iff.mpr ha
    have k2 := List.count_pos_iff.mpr m
    have k3 := ow.nd a
    have k4 := ct a
    rw [List.count_append] at k3
    omega
  have hi : i < σ.length := (List.getElem?_eq_some_iff.mp e).1
  have rs' : RSl T F H' (σ.set i none) z C0 := rs.mono (Same.refl _) fun b m q e => hk b q (fun eb => nC (by rw [← eb]; exact m)) e
  obtain ⟨A2, h2, pm2⟩ := RSl.join (s := some (if l then Sl.lent o' else .own o')) (x := some v) (Ai := A') (by cases l <;> exact ⟨v, rfl, ro'⟩) rs' (i := i) (by rw [List.getElem?_set_self hi])
  rw [List.set_set, set_same ez] at h2
  have o2 : Own P F H A2 := ow.le fun b => by
    have e1 := pm2.count_eq b
    have e2 := ct b
    have e3 := ct' b
    rw [List.count_append] at e1 ⊢
    omega
  exact Own.rel ⟨o2.nd, o2.nP, o2.nF, sub ow.pH (oA.nP a ha), sub ow.fH (oA.nF a ha), ow.pF⟩ h2
theorem chg_some {σ σ' : Fr} {a : Nat} {f : O → Option O} (h : chg σ a f = some σ') : ∃ (o : O) (l : Bool) (o' : O), σ[a]? = some (some (if l then .lent o else .own o)) ∧ f o = some o' ∧ σ' = σ.put a (some (if l then .lent o' else .own o')) := by
  unfold chg at h
  cases e : σ.get a with
  | none => rw [e] at h; cases h
  | some s =>
    rw [e] at h
    have e1 := Fr.get_some e
    cases s with
    | own o =>
      obtain ⟨o', e2, e3⟩ := Option.map_eq_some_iff.mp (show (f o).map (fun o => σ.put a (some (.own o))) = some σ' from h)
      exact ⟨o, false, o', e1, e2, e3.symm⟩
    | lent o =>
      obtain ⟨o', e2, e3⟩ := Option.map_eq_some_iff.mp (show (f o).map (fun o => σ.put a (some (.lent o))) = some σ' from h)
      exact ⟨o, true, o', e1, e2, e3.symm⟩
theorem nmem_l {P F H : Hp} {C Ai : List Addr} {a : Addr} (ow : Own P F H (C ++ Ai)) (h : a ∈ Ai) : a ∉ C := fun m => by
  have k1 := List.count_pos_iff.mpr h
  have k2 := List.count_pos_iff.mpr m
  have k3 := ow.nd a
  rw [List.count_append] at k3
  omega
theorem list_write {P F H : Hp} {σ σ' : Fr} {z : L2.St} {A C : List Addr} {i : Nat} {f : O → Option O} {onew : O} {u : V} (h : RSl T F H σ z A) (ro : RO T F H onew u C) (ow : Own P F H (C ++ A)) (e : chg σ i f = some σ')
    {g : List V → List V} (hf : ∀ o o', f o = some o' → ∃ os os', o = .lst os ∧ o' = .lst os' ∧ ∀ us B, ROs T F H os us B → ∃ B', ROs T F H os' (g us) B' ∧ ∀ a, B'.count a ≤ B.count a + C.count a) :
    ∃ p us os, z[i]? = some (some (.ref p)) ∧ H p = some (.lst us) ∧ f (.lst os) ≠ none ∧ os.length = us.length ∧ Rel T P F (upd H p (.lst (g us))) σ' z := by
  obtain ⟨o, l, o', e1, e2, e3⟩ := chg_some e
  subst e3
  obtain ⟨os, os', eo, eo', hw⟩ := hf o o' e2
  subst eo eo'
  obtain ⟨v, Ai, ez, rv, oA, fin⟩ := chg_at h ow e1
  obtain ⟨p, us, B, ev, eB, ep, rs⟩ := rv
  subst ev eB
  obtain ⟨B', rs', ct⟩ := hw us B rs
  have pC : p ∉ C := nmem_l oA List.mem_cons_self
  have pB : p ∉ B := fun m => by
    have k1 := oA.nd p
    have k2 := List.count_pos_iff.mpr m
    rw [List.count_append, List.count_cons_self] at k1
    omega
  have pB' : p ∉ B' := fun m => by
    have k1 := ct p
    have k2 := List.count_pos_iff.mpr m
    have k3 : B.count p = 0 := List.count_eq_zero.mpr pB
    have k4 : C.count p = 0 := List.count_eq_zero.mpr pC
    omega
  refine ⟨p, us, os, ez, ep, by rw [e2]; simp, rs.len, fin (a := p) (A' := p :: B') List.mem_cons_self (fun b q hb e => by rw [upd_ne hb]; exact e) ⟨p, _, B', rfl, rfl, upd_same, ROs.mono (Same.refl _) (fun a m q e => by rw [upd_ne (fun k => pB' (by rw [← k]; exact m))]; exact e) rs'⟩ fun b => ?_⟩
  have := ct b
  rw [List.count_cons, List.count_cons]
  omega
theorem RelV.parts {P F H : Hp} {σ : Fr} {z : L2.St} {v : Val} {u : V} {o : O} (h : RelV T P F H σ z v u) (e : Tf.asO v = some o) : ∃ A C, RSl T F H σ z A ∧ RO T F H o u C ∧ Own P F H (C ++ A) := by
  cases v with
  | d x =>
    cases (Option.some.inj (show some (O.d x) = some o from e))
    obtain ⟨⟨A, k⟩, r⟩ := h
    exact ⟨A, [], k.s, ⟨rfl, r⟩, k.own⟩
  | o o' =>
    cases (Option.some.inj (show some o' = some o from e))
    obtain ⟨A, B, k⟩ := h
    exact ⟨A, B, k.s, k.o, nd_count.mp k.nd, k.nP, k.nF, k.pH, k.fH, k.pF⟩
  | b i o => cases e
theorem ss_sfld {i f : Nat} {x y : PySem.Str} {e : Expr} {ee : E} {p1 p2 pos : Pos} (ok : TbOk X.K T) (hf : f < T.nf) (hy : T.fN f = y) (h : SE T RX W G cl X e ee) (hN : X.N[i]? = some x) (hv : Vis X.env.scope x) (hd : (x == ("__debug__" : PySem.Str)) = false) (hcd : (x == ("__classdict__" : PySem.Str)) = false)
    (hs : swapsWith e (some (.Attribute (.Name x p1) y p2)) pos.line X.env = pure false) : SS T RX W lm z0 G cl w X (.Assign [.Attribute (.Name x p1) y p2] e pos) (.sfld i f ee) :=
  impS (ps_fld (pe_var hN hv hd hcd) h.v hs) fun D z H ⟨P, F, σ, rel, kp, q⟩ => by
    refine R.mono (R.st rel kp q) fun u H1 ⟨F1, σ1, v, s, rv, q1⟩ => ?_
    obtain ⟨σ', e', q1⟩ := PostS.optS q1
    obtain ⟨o, eo, e'⟩ := Option.bind_eq_some_iff.mp e'
    obtain ⟨A, C, h1, ro, ow⟩ := rv.parts eo
    obtain ⟨o0, l, o1, e1, e2, e3⟩ := chg_some e'
    subst e3
    cases o0 with
    | ins c fs =>
      obtain ⟨hz, e2⟩ := ite_some (show (if fs.length < 1000 then some (O.ins c (putN f o fs)) else none) = some o1 from e2)
      subst e2
      obtain ⟨v0, Ai, ez, rv0, oA, fin⟩ := chg_at h1 ow e1
      obtain ⟨a, dx, gs, B, hc, ev, eB, ea, rf⟩ := rv0
      subst ev eB
      obtain ⟨B', rf', ct⟩ := ROf.put ok.inj hf ro rf
      have aC : a ∉ C := nmem_l oA List.mem_cons_self
      have aB : a ∉ B := fun m => by
        have k1 := oA.nd a
        have k2 := List.count_pos_iff.mpr m
        rw [List.count_append, List.count_cons_self] at k1
        omega
      have aB' : a ∉ B' := fun m => by
        have k1 := ct a
        have k2 := List.count_pos_iff.mpr m
        have k3 : B.count a = 0 := List.count_eq_zero.mpr aB
        have k4 : C.count a = 0 := List.count_eq_zero.mpr aC
        omega
      have hlen : fs.length = gs.length := rf.len
      refine ⟨.ref a, ez, a, _, dx, gs, rfl, ea, ok.cls c hc, hy ▸ ok.noat c f hc hf, by omega, ?_⟩
      rw [← hy]
      refine q1 F1 _ z (Same.refl _) (fin (a := a) (A' := a :: B') List.mem_cons_self (fun b q hb e => by rw [upd_ne hb]; exact e) ⟨a, dx, _, B', hc, rfl, rfl, upd_same, ROf.mono (Same.refl _) (fun b m q e => by rw [upd_ne (fun k => aB' (by rw [← k]; exact m))]; exact e) rf'⟩ fun b => ?_) kp
      have := ct b
      rw [List.count_cons, List.count_cons]
      omega
    | _ => cases e2
theorem R.stL {m : Fr → Res Val} {f : Val → Fr → RS} {z : L2.St} {H : Hp} {D : Ends} {P P' F : Hp} {σ : Fr} (rel : Rel T P' F H σ z) (kp : Keep lm z0 z) (h : PostS T RX W lm z0 P F D ((m σ).st f)) (hx : ∀ F2 H2 σ2, Same F F2 → Rel T P' F2 H2 σ2 z → Rel T P F2 H2 σ2 z) :
    R T RX W m z H fun u H1 => ∃ F1 σ1 v, Same F F1 ∧ RelV T P' F1 H1 σ1 z v u ∧ PostS T RX W lm z0 P F1 D (f v σ1) := by
  refine ⟨P', F, σ, rel, ?_⟩
  revert h
  generalize m σ = r
  intro h
  cases r with
  | ok v σ1 => exact fun F1 H1 u s k => ⟨F1, σ1, v, s, k, PostS.later s h⟩
  | exc x σ1 => exact fun F1 H1 c d s k rx => h F1 H1 z c d s (hx F1 H1 σ1 s k) kp rx
  | bad => exact h
theorem ss_sidx {i : Nat} {x : PySem.Str} {e ix : Expr} {ee ei : E} {p1 p2 pos : Pos} (h : SE T RX W G cl X e ee) (hix : SE T RX W G cl X ix ei) (hN : X.N[i]? = some x) (hv : Vis X.env.scope x) (hd : (x == ("__debug__" : PySem.Str)) = false) (hcd : (x == ("__classdict__" : PySem.Str)) = false)
    (hs : swapsWithSole [.Subscript (.Name x p1) ix p2] e pos.line X.env = pure false) (hw : swappedStores [.Subscript (.Name x p1) ix p2] e X.env = pure none)
    (ha : ∀ v, assign (.Subscript (.Name x p1) ix p2) X.env v = (do
      let ov ← holding [v] (eval (.Name x p1) X.env)
      let iv ← holding [v, ov] (eval ix X.env)
      standAt p2
      holding [v, ov, iv] (setItem ov iv v)
      release [v, ov, iv] [])) : SS T RX W lm z0 G cl w X (.Assign [.Subscript (.Name x p1) ix p2] e pos) (.sidx i ei ee) :=
  impS (ps_asg h.v (pg_sub (pe_var hN hv hd hcd) hix.v set_list ha) hs hw rfl) fun D z H ⟨P, F, σ, rel, kp, q⟩ => by
    refine R.mono (R.st rel kp q) fun u H1 ⟨F1, σ1, v, s, rv, q1⟩ => ?_
    obtain ⟨o, eo, q2⟩ := PostS.optS q1
    clear q1
    obtain ⟨ol, el, q2⟩ := PostS.optS q2
    obtain ⟨B, ro, oB, rel1⟩ := rv.asO eo
    obtain ⟨v0, Ai, ez, _⟩ := lend_at rv.rel (lentAt_some el)
    refine ⟨v0, ez, R.mono (R.stL rel1 kp q2 fun F2 H2 σ2 s r => r.weak oB.nP) fun k H2 ⟨F2, σ2, kv, s2, rkv, q3⟩ => ?_⟩
    obtain ⟨σ', e', q4⟩ := PostS.optS q3
    clear q3
    obtain ⟨kd, ek, e'⟩ := Option.bind_eq_some_iff.mp e'
    obtain ⟨F3, s3, ⟨A2, k2⟩, rd⟩ := rkv.toD ek
    obtain ⟨at_, o3⟩ := kept_of oB ro.there ro.nt k2.own
    have ro2 : RO T F3 H2 o u B := RO.mono (s2.trans s3) at_ ro
    obtain ⟨o0, l0, o0', _, hb, _⟩ := chg_some e'
    cases kd with
    | int j =>
      cases o0 with
      | lst xs0 =>
        obtain ⟨jj, _, _⟩ := Option.map_eq_some_iff.mp (show (place xs0.length j).map (fun j => O.lst (xs0.set j o)) = some o0' from hb)
        have n0 : xs0.length = xs0.length := rfl
        obtain ⟨p, us, os, ez', ep, hne, hlen, fin⟩ := list_write (g := fun us => match place us.length j with
          | some j => us.set j u
          | none => us) k2.s ro2 o3 e' (fun o1 o' ef => by
          cases o1 with
          | lst xs =>
            obtain ⟨jj, ej, e3⟩ := Option.map_eq_some_iff.mp (show (place xs.length j).map (fun j => O.lst (xs.set j o)) = some o' from ef)
            refine ⟨xs, _, rfl, e3.symm, fun us B0 rs => ?_⟩
            rw [← rs.len, ej]
            exact ROs.set ro2 rs
          | _ => cases ef)
        rw [ez] at ez'
        injection ez' with ez'
        injection ez' with ez'
        subst ez'
        obtain ⟨jj, ej⟩ : ∃ jj, place us.length j = some jj := by
          cases q : place os.length j with
          | none => exact absurd (show setO (.lst os) (.int j) o = none from by show (place os.length j).map _ = none; rw [q]; rfl) hne
          | some jj => exact ⟨jj, by rw [← hlen]; exact q⟩
        rw [ej] at fin
        exact ⟨p, us, j, jj, rfl, rd, ep, place_ix ej, q4 F3 _ z s3 fin kp⟩
      | _ => cases hb
    | _ => cases o0 <;> cases hb
end
end Tf
end
section
set_option Elab.async false
set_option linter.all false
set_option maxRecDepth 100000
namespace Tf
open PySem PySem.Spec PyProof.Rows L2
def lendIx (ms : List Mode) : List Nat := (List.range ms.length).filter fun i => decide (ms[i]? = some Mode.lend)
theorem mem_lendIx {ms : List Mode} {i : Nat} (h : ms[i]? = some Mode.lend) : i ∈ lendIx ms := by
  have h1 := (List.getElem?_eq_some_iff.mp h).1
  have h2 := (List.getElem?_eq_some_iff.mp h).2
  simp [lendIx, h1, h2]
section
variable {T : Tb} {RX : XR} {G : Prog}
theorem lents_ok {F H : Hp} : ∀ {ms : List Mode} {ss : List Sl} {σ : Fr} {z : L2.St} {vs : List V} {ls : List O} {A : List Addr}, RSl T F H σ z A → lentsOf σ ms = some ls → modesOk ss ms = true → ss.length = vs.length → (∀ i : Nat, ms[i]? = some Mode.lend → z[i]? = (vs.map some)[i]?) →
    ∃ B, ROs T F H ls (lentV ss vs) B ∧ ∀ a, B.count a ≤ A.count a
  | [], [], σ, z, vs, ls, A, _, e, _, _, _ => by
    have e' : [] = ls := by simpa [lentsOf] using e
    subst e'
    exact ⟨[], ⟨by cases vs <;> rfl, rfl⟩, fun a => by simp⟩
  | .lend :: ms, .lent o0 :: ss, σ, z, vs, ls, A, h, e, hm, hl, hz => by
    cases vs with
    | nil => cases hl
    | cons v vs =>
      cases σ with
      | nil => cases e
      | cons s σ =>
        obtain ⟨x, r, A1, A2, ez, eA, h1, h2⟩ := RSl.cons_iff.mp h
        subst ez eA
        cases s with
        | none => cases e
        | some sl => cases sl with
          | own o => cases e
          | lent o =>
            obtain ⟨ls', el, e⟩ := Option.map_eq_some_iff.mp (show (lentsOf σ ms).map (o :: ·) = some ls from e)
            subst e
            obtain ⟨B, rs, ct⟩ := lents_ok (ss := ss) (vs := vs) h2 el hm (by simpa using hl) fun i hi => by
              have := hz (i + 1) (by simpa using hi)
              simpa using this
            obtain ⟨v', ex, ro⟩ := h1
            subst ex
            have := hz 0 rfl
            have ev : v' = v := by simpa using this
            subst ev
            exact ⟨A1 ++ B, ⟨v', _, A1, B, rfl, rfl, ro, rs⟩, fun a => by have := ct a; rw [List.count_append, List.count_append]; omega⟩
  | .val :: ms, .own o0 :: ss, σ, z, vs, ls, A, h, e, hm, hl, hz => by
    cases vs with
    | nil => cases hl
    | cons v vs =>
      cases σ with
      | nil => cases e
      | cons s σ =>
        obtain ⟨x, r, A1, A2, ez, eA, h1, h2⟩ := RSl.cons_iff.mp h
        subst ez eA
        have e : lentsOf σ ms = some ls := by
          cases s with
          | none => exact e
          | some sl => cases sl <;> exact e
        obtain ⟨B, rs, ct⟩ := lents_ok (ss := ss) (vs := vs) h2 e hm (by simpa using hl) fun i hi => by
          have := hz (i + 1) (by simpa using hi)
          simpa using this
        exact ⟨B, rs, fun a => by have := ct a; rw [List.count_append]; omega⟩
  | [], s :: _, _, _, _, _, _, _, _, hm, _, _ => by cases s <;> simp [modesOk] at hm
  | .lend :: _, [], _, _, _, _, _, _, _, hm, _, _ => by simp [modesOk] at hm
  | .val :: _, [], _, _, _, _, _, _, _, hm, _, _ => by simp [modesOk] at hm
  | .lend :: _, .own _ :: _, _, _, _, _, _, _, _, hm, _, _ => by simp [modesOk] at hm
  | .val :: _, .lent _ :: _, _, _, _, _, _, _, _, hm, _, _ => by simp [modesOk] at hm
theorem RSl.pad {F H : Hp} : ∀ {ss : List Sl} {vs : List V} {A : List Addr} (n : Nat), RSl T F H (ss.map some) (vs.map some) A → RSl T F H (ss.map some ++ List.replicate n none) (vs.map some ++ List.replicate n none) A
  | [], vs, A, n, h => by
    obtain ⟨e, eA⟩ := h
    subst eA
    rw [e]
    show RSl T F H (List.replicate n none) (List.replicate n none) []
    induction n with
    | zero => exact ⟨rfl, rfl⟩
    | succ n ih => exact ⟨none, _, rfl, ih⟩
  | s :: ss, vs, A, n, h => by
    obtain ⟨x, r, A1, A2, ez, eA, h1, h2⟩ := RSl.cons_iff.mp (show RSl T F H (some s :: ss.map some) (vs.map some) A from h)
    cases vs with
    | nil => cases ez
    | cons v vs =>
      rw [List.map_cons] at ez
      injection ez with e1 e2
      subst e1 e2 eA
      exact RSl.cons_iff.mpr ⟨_, _, A1, A2, rfl, rfl, h1, RSl.pad n h2⟩
theorem end_ok {P F : Hp} {D : DefI} {ss : List Sl} {vs : List V} {z0 : L2.St} {Q : VK} {E : XK} {r : RS} (hm : modesOk ss D.modes = true) (hl : ss.length = vs.length) (hz0 : ∀ i : Nat, D.modes[i]? = some Mode.lend → z0[i]? = (vs.map some)[i]?) (h : PostC T RX P F (lentV ss vs) Q E (finish D r)) :
    PostS T RX (fun c d _ H => E c d H) (lendIx D.modes) z0 P F { nx := fun _ H' => Q .non H', rt := Q } r := by
  have lents : ∀ {F1 H1 : Hp} {σ : Fr} {z : L2.St} {A : List Addr} {ls : List O}, RSl T F1 H1 σ z A → lentsOf σ D.modes = some ls → Keep (lendIx D.modes) z0 z → ∃ B, ROs T F1 H1 ls (lentV ss vs) B ∧ ∀ a, B.count a ≤ A.count a :=
    fun {F1 H1 σ z A ls} h1 e kp => lents_ok h1 e hm hl fun i hi => by rw [kp i (mem_lendIx hi)]; exact hz0 i hi
  cases r with
  | bad => exact h
  | brk σ => exact h.elim
  | cont σ => exact h.elim
  | next σ =>
    intro F1 H1 z s ⟨A, k⟩ kp
    have h : PostC T RX P F (lentV ss vs) Q E (match lentsOf σ D.modes with
      | some ls => .ret (.d .non) ls
      | none => .bad) := h
    cases el : lentsOf σ D.modes with
    | none => rw [el] at h; exact h.elim
    | some ls =>
      rw [el] at h
      obtain ⟨B, rs, ct⟩ := lents k.s el kp
      exact h F1 H1 .non s ⟨.d .non, B, [], rfl, ⟨rfl, rfl⟩, rs, k.own.le fun a => by simpa using ct a⟩
  | exc x σ =>
    intro F1 H1 z c d s ⟨A, k⟩ kp rx
    have h : PostC T RX P F (lentV ss vs) Q E (match lentsOf σ D.modes with
      | some ls => .exc x ls
      | none => .bad) := h
    cases el : lentsOf σ D.modes with
    | none => rw [el] at h; exact h.elim
    | some ls =>
      rw [el] at h
      obtain ⟨B, rs, ct⟩ := lents k.s el kp
      exact h F1 H1 c d s ⟨B, rs, k.own.le ct⟩ rx
  | ret v σ =>
    intro F1 H1 z u s rv kp
    have hq : PostC T RX P F (lentV ss vs) Q E (match retV D.own v, lentsOf σ D.modes with
      | some v, some ls => .ret v ls
      | _, _ => .bad) := h
    clear h
    cases el : lentsOf σ D.modes with
    | none =>
      rw [el] at hq
      cases er : retV D.own v with
      | none => rw [er] at hq; exact hq.elim
      | some v' => rw [er] at hq; exact hq.elim
    | some ls =>
      cases er : retV D.own v with
      | none => rw [er] at hq; exact hq.elim
      | some v' =>
        rw [er, el] at hq
        have main : ∀ o, asO v = some o → (v' = v ∨ v' = .d o.frz) → Q u H1 := fun o eo hv => by
          obtain ⟨A, C, h1, ro, ow⟩ := rv.parts eo
          obtain ⟨B, rs, ct⟩ := lents h1 el kp
          rcases hv with hv | hv
          · subst hv
            exact hq F1 H1 u s ⟨o, B, C, eo, ro, rs, ow.le fun a => by have := ct a; rw [List.count_append, List.count_append]; omega⟩
          · subst hv
            obtain ⟨s2, rd, o2⟩ := frz_c ro ow
            refine hq (plus F1 H1 C) H1 u (s.trans s2) ⟨.d o.frz, B, [], rfl, ⟨rfl, rd⟩, ROs.mono s2 (fun _ _ _ q => q) rs, o2.le fun a => by simpa using ct a⟩
        cases v with
        | d x =>
          refine main (.d x) rfl (.inl ?_)
          cases ho : D.own with
          | true => rw [ho] at er; exact (Option.some.inj er).symm
          | false => rw [ho] at er; exact (Option.some.inj er).symm
        | o o =>
          cases ho : D.own with
          | true => rw [ho] at er; exact main o rfl (.inl (Option.some.inj er).symm)
          | false => rw [ho] at er; exact main o rfl (.inr (Option.some.inj er).symm)
        | b i o =>
          cases ho : D.own with
          | true => rw [ho] at er; cases er
          | false => rw [ho] at er; cases er
theorem RSl.len2 {F H : Hp} {ss : List Sl} {vs : List V} {A : List Addr} (h : RSl T F H (ss.map some) (vs.map some) A) : ss.length = vs.length := by
  have := h.len
  simpa using this
theorem callD_of {P F : Hp} {wt n f : Nat} {D : DefI} {ss : List Sl} {lv : List V} {Q : VK} {E : XK} (hD : G.defs[f]? = some D) (hst : D.star = false) (h : PostC T RX P F lv Q E (callD G wt (n + 1) f ss)) :
    ss.length = D.np ∧ modesOk ss D.modes = true ∧ PostC T RX P F lv Q E (finish D (exSs G (callD G wt n) wt D.body (ss.map some ++ List.replicate (D.ns - D.np) none))) := by
  have h : PostC T RX P F lv Q E (match G.defs[f]? with
    | none => .bad
    | some D => (match packed D ss with
      | none => .bad
      | some ss => if ss.length = D.np ∧ modesOk ss D.modes = true then finish D (exSs G (callD G wt n) wt D.body (ss.map some ++ List.replicate (D.ns - D.np) none)) else .bad)) := h
  rw [hD] at h
  have hp : packed D ss = some ss := by unfold packed; rw [hst]
  dsimp only at h
  rw [hp] at h
  dsimp only at h
  by_cases c : ss.length = D.np ∧ modesOk ss D.modes = true
  · rw [if_pos c] at h
    exact ⟨c.1, c.2, h⟩
  · rw [if_neg c] at h
    exact h.elim
theorem fn_stepO {prog : Program} {w : World} {K : PySem.W.Frag} {mg : PySem.Str → Option Value} {base : Heap} {k : Nat} {fa : Addr} {name qual : PySem.Str} {params : Arguments} {body : List Stmt} {scope : Scope} {dV kV doc pm cdv ct oc : Value} {an od : Option Addr} {osl : Array (Option Value)} {N ps : List PySem.Str} {wt n f : Nat} {D : DefI}
    (lk : K.lookup fa = some ⟨oc, od, .func (PySem.W.fnOf name qual params body scope dV kV doc pm an cdv ct), osl⟩) (hcd : PySem.W.codeIn K cdv qual = true) (S : FnScope N ps scope) (hD : G.defs[f]? = some D) (hst : D.star = false) (hnp : D.np = ps.length) (hns : D.ns = N.length)
    (hbody : ∀ (A : Around) (outer : List Env) (s : Shared) (H : Hp) (E : XK) (z0 : L2.St), Room k (A.deeper (envOfC qual scope s.heap.objs.size fa cdv)) →
      SSs T RX (fun c d _ H => E c d H) (lendIx D.modes) z0 G (callD G wt n) wt (cxOf (L2.CX prog w) prog w K mg base N qual scope fa cdv A outer s H E) body D.body) :
    FnOk prog w K mg base (L2.CX prog w) (k + 1) fa (PySem.W.fnOf name qual params body scope dV kV doc pm an cdv ct) ps (spD T RX (callD G wt (n + 1)) f) := by
  have len : ∀ vs H Q E, spD T RX (callD G wt (n + 1)) f vs H Q E → vs.length = ps.length := fun vs H Q E ⟨P, F, ss, B, hs, _, hp⟩ => by
    obtain ⟨h1, _, _⟩ := callD_of hD hst hp
    rw [← hs.len2, h1, hnp]
  exact fn_of (CX := L2.CX prog w) (w := w) (mg := mg) (base := base) (P := prog) (N := N) (sp := spD T RX (callD G wt (n + 1)) f) lk hcd S len (k := k) fun A outer s H vs Q E hr ⟨P, F, ss, B, hs, ow, hp⟩ => by
    obtain ⟨h1, h2, h3⟩ := callD_of hD hst hp
    have hvl : vs.length = D.np := by rw [← hs.len2, h1]
    have e : L2.start N vs = vs.map some ++ List.replicate (D.ns - D.np) none := by
      show vs.map some ++ List.replicate (N.length - vs.length) none = _
      rw [hns, hvl]
    refine ⟨_, hbody A outer s H E (L2.start N vs) hr, P, F, ss.map some ++ List.replicate (D.ns - D.np) none, ?_, fun i hi => rfl, ?_⟩
    · rw [e]
      exact ow.rel (RSl.pad _ hs)
    · refine end_ok h2 hs.len2 (fun i hi => ?_) h3
      rw [e]
      have hlen : D.modes.length = ss.length := by
        clear hi h3 hp hs h1
        revert h2
        generalize D.modes = ms
        induction ss generalizing ms with
        | nil => intro h2; cases ms with
          | nil => rfl
          | cons m ms => cases m <;> simp [modesOk] at h2
        | cons x xs ih => intro h2; cases ms with
          | nil => cases x <;> simp [modesOk] at h2
          | cons m ms =>
            have : modesOk xs ms = true := by cases x <;> cases m <;> first | exact h2 | (simp [modesOk] at h2)
            rw [List.length_cons, List.length_cons, ih _ this]
      have hi' := (List.getElem?_eq_some_iff.mp hi).1
      rw [List.getElem?_append_left]
      rw [List.length_map, hvl, ← h1, ← hlen]
      exact hi'
end
end Tf
end
section
set_option Elab.async false
set_option linter.all false
set_option maxRecDepth 100000
namespace Tf
open PySem PySem.Spec PyProof.Rows L2
section
variable {T : Tb} {RX : XR} {W : WX} {X : Cx} {G : Prog} {cl : Call} {md : Md} {lm : List Nat} {z0 : L2.St} {w : Nat}
theorem ss_par {i j : Nat} {x y : PySem.Str} {a b : Expr} {ea eb : E} {px py pt : Pos} {kt k2 pt2 pos} (hc : X.calm = true) (hN : X.N.Nodup) (hi : X.N[i]? = some x) (hj : X.N[j]? = some y) (hij : i ≠ j)
    (hx : X.env.scope.names.lookup x = some .local) (hy : X.env.scope.names.lookup y = some .local) (ha : PA X [a, b] (RV T RX W (evs G cl (.cons false ea (.cons false eb .nil)))))
    (hw : swappedStores [.Tuple [.Name x px, .Name y py] kt pt] (.Tuple [a, b] k2 pt2) X.env = pure (some [x, y]))
    (hs : swapsWithSole [.Tuple [.Name x px, .Name y py] kt pt] (.Tuple [a, b] k2 pt2) pos.line X.env = pure false) (hli : i ∉ lm) (hlj : j ∉ lm) :
    SS T RX W lm z0 G cl w X (.Assign [.Tuple [.Name x px, .Name y py] kt pt] (.Tuple [a, b] k2 pt2) pos) (.par i j ea eb) :=
  impS (ps_par hc hN hi hj hij hx hy ha hw hs) fun D z H ⟨P, F, σ, rel, kp, q⟩ => by
    refine RV.mono (RV.st rel kp q) fun us H1 ⟨F1, σ1, os, s, evr, q1⟩ => ?_
    cases os with
    | nil => exact (show False from q1).elim
    | cons o1 os => cases os with
      | nil => exact (show False from q1).elim
      | cons o2 os => cases os with
        | cons _ _ => exact (show False from q1).elim
        | nil =>
          obtain ⟨σ', e', q2⟩ := PostS.optS (show PostS T RX W lm z0 P F1 D (optS ((asgV i (.o o1) σ1).bind fun σ => asgV j (.o o2) σ) .next) from q1)
          clear q1
          obtain ⟨σ2, e1, e2⟩ := Option.bind_eq_some_iff.mp e'
          obtain ⟨o1', eo1, hi1, hs1⟩ := asgV_some e1
          obtain ⟨o2', eo2, hi2, hs2⟩ := asgV_some e2
          have eo1 : o1 = o1' := Option.some.inj eo1
          have eo2 : o2 = o2' := Option.some.inj eo2
          subst eo1 eo2 hs1 hs2
          obtain ⟨A, B, h1, ⟨u1, r1, B1, B2, eu, eB, ro1, u2, r2, B3, B4, eu2, eB2, ro2, er, eB4⟩, ow⟩ := evr
          subst eu eB eu2 eB2 er eB4
          refine ⟨u1, u2, rfl, ?_⟩
          obtain ⟨A', h2, ct⟩ := h1.put (s := some (.own o1)) (x := some u1) hi1 ⟨u1, rfl, ro1⟩
          obtain ⟨A'', h3, ct2⟩ := h2.put (i := j) (s := some (.own o2)) (x := some u2) hi2 ⟨u2, rfl, ro2⟩
          refine q2 F1 H1 _ (Same.refl _) ((ow.le fun a => ?_).rel h3) ((kp.set hli).set hlj)
          have := ct a
          have := ct2 a
          simp only [List.count_append, List.count_nil]
          omega
structure CmOk (X : Cx) (T : Tb) (RX : XR) (G : Prog) (cl : Call) (k : Nat) (fA : Nat → Addr) (m : Nat) (x : PySem.Str) : Prop where
  at_ : ∀ c f, c < T.nc → G.cmeth c m = some f → ∃ mc p, ClX.CRead X.K (T.cA c) mc ∧ ClX.CMet X.K (T.cA c) mc x p (fA f) ∧ FnD X T RX cl k (fA f) f
structure MkOk (X : Cx) (T : Tb) (RX : XR) (G : Prog) (cl : Call) (k : Nat) (fA : Nat → Addr) : Prop where
  at_ : ∀ (c : Nat) (C : ClsI), c < T.nc → G.clss[c]? = some C → Mk X.K (T.cA c) (fA C.init) ∧ FnD X T RX cl k (fA C.init) C.init
end
end Tf
end
section
set_option Elab.async false
set_option linter.all false
set_option maxRecDepth 100000
namespace Tf
open PySem PySem.Spec PyProof.Rows L2
section
variable {T : Tb}
theorem RSl.mix {F H : Hp} {p : Nat → Bool} : ∀ {σ : Fr} {z : L2.St} {A : List Addr} {i : Nat}, RSl T F H σ z A →
    ∃ S C, (∀ z', z'.length = z.length → (∀ j, p (i + j) = false → z'[j]? = z[j]?) → RSl T F H (mixL p i (List.replicate σ.length none) σ) z' C) ∧ (∀ a, S.count a + C.count a = A.count a) ∧ (∀ a ∈ S, ∃ q, H a = some q ∧ NT q) ∧
      ∀ {F2 H2 : Hp} {σ2 : Fr} {z2 : L2.St} {C2 : List Addr}, Same F F2 → AtA H H2 S → RSl T F2 H2 σ2 z2 C2 → σ2.length = σ.length → (∀ j, p (i + j) = false → z2[j]? = z[j]?) → ∃ A2, RSl T F2 H2 (mixL p i σ σ2) z A2 ∧ ∀ a, A2.count a ≤ S.count a + C2.count a
  | [], _, _, i, h => by
    obtain ⟨e, eA⟩ := h
    subst e eA
    refine ⟨[], [], fun z' hl _ => ?_, fun a => by simp, fun a m => (by cases m), fun {F2 H2 σ2 z2 C2} s at_ h2 hl hz => ⟨[], ?_, fun a => by simp⟩⟩
    · have : z' = [] := List.length_eq_zero_iff.mp hl
      subst this
      exact ⟨rfl, rfl⟩
    · have : σ2 = [] := List.length_eq_zero_iff.mp hl
      subst this
      exact ⟨rfl, rfl⟩
  | s :: σ, _, _, i, h => by
    obtain ⟨x, r, A1, A2, ez, eA, h1, h2⟩ := RSl.cons_iff.mp h
    subst ez eA
    obtain ⟨S, C, k1, k2, k3, k4⟩ := RSl.mix (p := p) (i := i + 1) h2
    have sh : ∀ j, i + 1 + j = i + (j + 1) := fun j => by omega
    cases hp : p i with
    | true =>
      refine ⟨A1 ++ S, C, fun z' hl hz => ?_, fun a => by have := k2 a; rw [List.count_append, List.count_append]; omega, fun a m => (List.mem_append.mp m).elim (h1.thereN a) (k3 a), fun {F2 H2 σ2 z2 C2} sF at_ h3 hl hz => ?_⟩
      · cases z' with
        | nil => cases hl
        | cons y z' =>
          show RSl T F H ((if p i then none else s) :: mixL p (i + 1) (List.replicate σ.length none) σ) (y :: z') C
          rw [hp]
          exact RSl.cons_iff.mpr ⟨y, z', [], C, rfl, rfl, rfl, k1 z' (by simpa using hl) fun j hj => by have := hz (j + 1) (by rw [← sh]; exact hj); simpa using this⟩
      · cases σ2 with
        | nil => cases hl
        | cons s2 σ2 =>
          obtain ⟨x2, r2, B1, B2, ez2, eB, g1, g2⟩ := RSl.cons_iff.mp h3
          subst ez2 eB
          obtain ⟨A3, h4, ct⟩ := k4 sF at_.right g2 (by simpa using hl) fun j hj => by have := hz (j + 1) (by rw [← sh]; exact hj); simpa using this
          refine ⟨A1 ++ A3, ?_, fun a => by have := ct a; simp only [List.count_append]; omega⟩
          show RSl T F2 H2 ((if p i then s else s2) :: mixL p (i + 1) σ σ2) (x :: r) (A1 ++ A3)
          rw [hp]
          exact RSl.cons_iff.mpr ⟨x, r, A1, A3, rfl, rfl, h1.mono sF at_.left, h4⟩
    | false =>
      refine ⟨S, A1 ++ C, fun z' hl hz => ?_, fun a => by have := k2 a; rw [List.count_append, List.count_append]; omega, k3, fun {F2 H2 σ2 z2 C2} sF at_ h3 hl hz => ?_⟩
      · cases z' with
        | nil => cases hl
        | cons y z' =>
          have ey : y = x := by have := hz 0 hp; simpa using this
          subst ey
          show RSl T F H ((if p i then none else s) :: mixL p (i + 1) (List.replicate σ.length none) σ) (y :: z') (A1 ++ C)
          rw [hp]
          exact RSl.cons_iff.mpr ⟨y, z', A1, C, rfl, rfl, h1, k1 z' (by simpa using hl) fun j hj => by have := hz (j + 1) (by rw [← sh]; exact hj); simpa using this⟩
      · cases σ2 with
        | nil => cases hl
        | cons s2 σ2 =>
          obtain ⟨x2, r2, B1, B2, ez2, eB, g1, g2⟩ := RSl.cons_iff.mp h3
          subst ez2 eB
          have ex : x2 = x := by have := hz 0 hp; simpa using this
          subst ex
          obtain ⟨A3, h4, ct⟩ := k4 sF at_ g2 (by simpa using hl) fun j hj => by have := hz (j + 1) (by rw [← sh]; exact hj); simpa using this
          refine ⟨B1 ++ A3, ?_, fun a => by have := ct a; simp only [List.count_append]; omega⟩
          show RSl T F2 H2 ((if p i then s else s2) :: mixL p (i + 1) σ σ2) (x2 :: r) (B1 ++ A3)
          rw [hp]
          exact RSl.cons_iff.mpr ⟨x2, r, B1, A3, rfl, rfl, g1, h4⟩
end
end Tf
end
section
set_option Elab.async false
set_option linter.all false
set_option maxRecDepth 100000
namespace Tf
open PySem PySem.Spec PyProof.Rows L2
section
variable {T : Tb} {RX : XR} {W : WX} {X : Cx} {G : Prog} {cl : Call} {md : Md}
def RTs (T : Tb) (RX : XR) (W : WX) (m : Fr → Res Bool) : TT := fun z H Q => ∃ P F σ, Rel T P F H σ z ∧ PostA T RX W P z F (fun F H σ (a b : Bool) => a = b ∧ Rel T P F H σ z) Q (m σ)
theorem impTs {es : List Expr} {t t' : TT} (h : PTs X es t) (k : ∀ z H Q, t' z H Q → t z H Q) : PTs X es t' := ⟨fun pins s σ H Q I q => h.run pins s σ H Q I (k σ H Q q)⟩
theorem pts_nilR : PTs X [] (RTs T RX W (evCs G cl .nil)) := impTs pts_nil fun z H Q ⟨P, F, σ, rel, q⟩ => q F H true (Same.refl _) ⟨rfl, rel⟩
end
end Tf
end
section
set_option Elab.async false
set_option linter.all false
set_option maxRecDepth 100000
namespace Tf
open PySem PySem.Spec PyProof.Rows L2
section
variable {T : Tb} {RX : XR} {W : WX} {X : Cx} {G : Prog} {cl : Call} {md : Md}
def W0 : WX := fun _ _ _ _ => False
def turnE (G : Prog) (cl : Call) (elt : E) (tg : Tg) (cs : Es) (vs : List Nat) : D → Fr → Res (Option O) := fun x σ' => opt (asg tg x (wiped vs σ')) fun σ' => (evCs G cl cs σ').bind fun ok σ' => match ok with
      | true => (ev G cl .val elt σ').bind fun v σ' => opt (asO v) fun o => .ok (some o) σ'
      | false => .ok none σ'
theorem mixL_len {α : Type} {p : Nat → Bool} : ∀ {as bs : List α} {i : Nat}, as.length = bs.length → (mixL p i as bs).length = bs.length
  | [], [], _, _ => rfl
  | a :: as, b :: bs, i, h => by
    show ((if p i then a else b) :: mixL p (i + 1) as bs).length = _
    rw [List.length_cons, List.length_cons, mixL_len (by simpa using h)]
  | [], _ :: _, _, h => by cases h
  | _ :: _, [], _, h => by cases h
theorem wipe_at {z : L2.St} {j : Nat} : ∀ {vs : List Nat}, vs.contains j = false → (wipe z vs)[j]? = z[j]? := fun {vs} h => wipe_out (by simpa using h)
theorem loop_ends {P F : Hp} {z : L2.St} {Q : VK} {r : Res (List O)} {os : List O} {f : List O → Fr → Val} {g : List O → Fr → Fr} (h : Post T RX W P z F Q (((r.map fun l => os ++ l).nox).bind fun r σ' => if r.length ≤ lineN then .ok (f r σ') (g r σ') else .bad)) :
    ∃ l σ', r = .ok l σ' ∧ (os ++ l).length ≤ lineN := by
  cases r with
  | exc x σ => exact (show False from h).elim
  | bad => exact (show False from h).elim
  | ok l σ' =>
    refine ⟨l, σ', rfl, ?_⟩
    have h : Post T RX W P z F Q (if (os ++ l).length ≤ lineN then .ok (f (os ++ l) σ') (g (os ++ l) σ') else .bad) := h
    by_cases c : (os ++ l).length ≤ lineN
    · exact c
    · rw [if_neg c] at h
      exact h.elim
def LcI (T : Tb) (RX : XR) (W : WX) (P F1 H1 : Hp) (z : L2.St) (Q : VK) (own : Bool) (vs : List Nat) (n : Nat) (S : List Addr) (Dn : Addr) (turn : D → Fr → Res (Option O)) (fin : Fr → Fr) (xs : List D) (i : Nat) (H : Hp) : Prop :=
  ∃ F2 σ2 z2 C2 os us B, Same F1 F2 ∧ AtA H1 H S ∧ RSl T F2 H σ2 z2 C2 ∧ σ2.length = n ∧ wipe z2 vs = wipe z vs ∧ H Dn = some (.lst us) ∧ ROs T F2 H os us B ∧ Own P F2 H (Dn :: (B ++ (S ++ C2))) ∧
    Post T RX W P z F2 Q ((((compLoop turn (xs.drop i) σ2).map fun l => os ++ l).nox).bind fun r σ' => if r.length ≤ lineN then .ok (lstV own r) (fin σ') else .bad)
theorem wipe_eq {z z2 : L2.St} {vs : List Nat} (h : wipe z2 vs = wipe z vs) : z2.length = z.length ∧ ∀ j, vs.contains j = false → z2[j]? = z[j]? := by
  refine ⟨by rw [← wipe_length z2 vs, h, wipe_length], fun j hj => ?_⟩
  rw [← wipe_at hj (z := z2), h, wipe_at hj]
theorem wipe_in {z : L2.St} {j : Nat} (hj : j < z.length) : ∀ {vs : List Nat}, vs.contains j = true → (wipe z vs)[j]? = some none
  | [], h => by cases h
  | v :: vs, h => by
    show ((wipe z vs).set v none)[j]? = _
    by_cases c : v = j
    · subst c
      rw [List.getElem?_set_self (by rw [wipe_length]; exact hj)]
    · rw [List.getElem?_set_ne c]
      have h' : vs.contains j = true := by
        rw [List.contains_cons, Bool.or_eq_true] at h
        rcases h with h | h
        · exact absurd (by simpa using h) (fun e : j = v => c e.symm)
        · exact h
      exact wipe_in hj h'
theorem wipe_twice {z : L2.St} {vs : List Nat} : wipe (wipe z vs) vs = wipe z vs := by
  apply List.ext_getElem?
  intro j
  cases h : vs.contains j with
  | false => rw [wipe_at h]
  | true =>
    by_cases hj : j < z.length
    · rw [wipe_in hj h, wipe_in (by rw [wipe_length]; exact hj) h]
    · rw [List.getElem?_eq_none (by rw [wipe_length, wipe_length]; omega), List.getElem?_eq_none (by rw [wipe_length]; omega)]
theorem lc_turn {P F1 H1 : Hp} {z : L2.St} {Q : VK} {own : Bool} {vs : List Nat} {n : Nat} {S : List Addr} {Dn : Addr} {elt : E} {tg : Tg} {cs : Es} {fin : Fr → Fr} {xs : List D} {J : L2.It} {g : TG} {i : Nat} {H : Hp}
    (thS : ∀ a ∈ S, ∃ q, H1 a = some q ∧ NT q) (iok : ItOk T F1 J xs) (ht : TgR T g (fun z' => wipe z' vs = wipe z vs) (asg tg)) (hi : i < xs.length) (I : LcI T RX W P F1 H1 z Q own vs n S Dn (turnE G cl elt tg cs vs) fin xs i H) (x : V) (H' : Hp) (hy : J.yld i H x H') :
    g x (wipe z vs) H' fun z3 H3 => wipe z3 vs = wipe z vs ∧ RTs T RX W0 (evCs G cl cs) z3 H3 fun b H4 =>
      if b = true then R T RX W0 (ev G cl .val elt) z3 H4 fun y H5 => ∃ acc, H5 Dn = some (.lst acc) ∧ acc.length < sizeLine ∧ LcI T RX W P F1 H1 z Q own vs n S Dn (turnE G cl elt tg cs vs) fin xs (i + 1) (upd H5 Dn (.lst (acc ++ [y])))
      else LcI T RX W P F1 H1 z Q own vs n S Dn (turnE G cl elt tg cs vs) fin xs (i + 1) H4 := by
  obtain ⟨F2, σ2, z2, C2, os, us, B, sF, atS, rs, hlen, hw, hD, ro, ow, q⟩ := I
  obtain ⟨wl, we⟩ := wipe_eq hw
  -- the own names' slots are wiped
  obtain ⟨S2, C3, k1, k2, _, _⟩ := RSl.mix (p := fun i => vs.contains i) (i := 0) rs
  have rs3 : RSl T F2 H (wiped vs σ2) (wipe z vs) C3 := k1 (wipe z vs) (by rw [wipe_length, wl]) fun j hj => by
    have hj : vs.contains j = false := by simpa using hj
    rw [wipe_at hj, we j hj]
  -- what is kept from the turn
  have oK : Own P F2 H (Dn :: (B ++ S)) := ow.le fun a => by simp only [List.count_cons, List.count_append]; omega
  have thK : ∀ a ∈ Dn :: (B ++ S), ∃ q, H a = some q := fun a m => by
    rcases List.mem_cons.mp m with e | m
    · exact ⟨_, e ▸ hD⟩
    · rcases List.mem_append.mp m with m | m
      · exact ro.there a m
      · obtain ⟨q, e, _⟩ := thS a m
        exact ⟨q, atS a m q e⟩
  have ntK : ∀ a ∈ Dn :: (B ++ S), ∀ ys, H a ≠ some (.tup ys) := fun a m ys => by
    rcases List.mem_cons.mp m with e | m
    · rw [e, hD]; intro h; cases h
    · rcases List.mem_append.mp m with m | m
      · exact ro.nt a m ys
      · obtain ⟨q, e, n⟩ := thS a m
        rw [atS a m q e]
        intro h
        exact n ys (Option.some.inj h)
  have oC : Own P F2 H C3 := ow.le fun a => by have := k2 a; simp only [List.count_cons, List.count_append]; omega
  have dj : ∀ a ∈ C3, a ∉ Dn :: (B ++ S) := fun a m m' => by
    have h1 := List.count_pos_iff.mpr m
    have h2 := List.count_pos_iff.mpr m'
    have h3 := ow.nd a
    have h4 := k2 a
    simp only [List.count_cons, List.count_append] at h2 h3
    omega
  have rel3 : Rel T (plus P H (Dn :: (B ++ S))) F2 H (wiped vs σ2) (wipe z vs) := Own.rel ⟨oC.nd, fun a m => plus_none (oC.nP a m) (dj a m), oC.nF, plus_same oC.pH, oC.fH, oC.pF.plusP oK.nF⟩ rs3
  obtain ⟨F3, y, ey, s3, rel4, ry⟩ := iok.yld i F2 H x H' hy hi sF _ _ _ rel3
  rw [List.drop_eq_getElem_cons hi, (List.getElem?_eq_some_iff.mp ey).2] at q
  obtain ⟨l, σe, el, hll⟩ := loop_ends (f := fun r σ' => lstV own r) (g := fun r σ' => fin σ') q
  obtain ⟨r, σ5, e5, el2⟩ := Res.bind_ok (show ((turnE G cl elt tg cs vs y σ2).bind fun r σ => (compLoop (turnE G cl elt tg cs vs) (xs.drop (i + 1)) σ).map fun vs => match r with
    | some v => v :: vs
    | none => vs) = .ok l σe from el)
  obtain ⟨l2, σ6', e6, el3⟩ := Res.bind_ok el2
  obtain ⟨σ4, e4, e5'⟩ := opt_ok e5
  obtain ⟨b, σ6, ecs, e7⟩ := Res.bind_ok e5'
  have kw : wipe (wipe z vs) vs = wipe z vs := wipe_twice
  have keep : ∀ {F4 H4 : Hp} {A : List Addr}, Own (plus P H (Dn :: (B ++ S))) F4 H4 A → AtA H H4 (Dn :: (B ++ S)) ∧ Own P F4 H4 (Dn :: (B ++ S) ++ A) := fun {F4 H4 A} o => kept_of oK thK ntK o
  refine ht _ F3 H' (wiped vs σ2) σ4 (wipe z vs) y x _ rel4 kw ry e4 fun z3 rel5 kp => ⟨kp, _, F3, σ4, rel5, ?_⟩
  rw [ecs]
  rintro F4 H4 b' s4 ⟨eb, rel6⟩
  subst eb
  have zl : σ6.length = n := by
    obtain ⟨A6, k6⟩ := rel6
    rw [k6.s.len, (wipe_eq kp).1, ← wl, ← rs.len, hlen]
  cases b with
  | false =>
    have e7 : Res.ok (none : Option O) σ6 = .ok r σ5 := e7
    injection e7 with e8 e9
    subst e8 e9
    rw [if_neg (by decide)]
    obtain ⟨A6, k6⟩ := rel6
    obtain ⟨at6, o6⟩ := keep k6.own
    refine ⟨F4, σ6, z3, A6, os, us, B, (sF.trans s3).trans s4, fun a m q e => at6 a (List.mem_cons_of_mem _ (List.mem_append_right _ m)) q (atS a m q e), k6.s, zl, kp, at6 Dn List.mem_cons_self _ hD, ROs.mono (s3.trans s4) (fun a m => at6 a (List.mem_cons_of_mem _ (List.mem_append_left _ m))) ro, o6.le fun a => by simp only [List.count_cons, List.count_append]; omega, ?_⟩
    refine Post.later (s3.trans s4) ?_
    have : compLoop (turnE G cl elt tg cs vs) (y :: xs.drop (i + 1)) σ2 = compLoop (turnE G cl elt tg cs vs) (xs.drop (i + 1)) σ6 := by
      show (turnE G cl elt tg cs vs y σ2).bind _ = _
      rw [e5]
      show (compLoop (turnE G cl elt tg cs vs) (xs.drop (i + 1)) σ6).map _ = _
      rw [e6]
      rfl
    rw [this] at q
    exact q
  | true =>
    rw [if_pos rfl]
    obtain ⟨v, σ7, ev7, e8⟩ := Res.bind_ok (show ((ev G cl .val elt σ6).bind fun v σ' => opt (asO v) fun o => .ok (some o) σ') = .ok r σ5 from e7)
    obtain ⟨o, eo, e9⟩ := opt_ok e8
    injection e9 with e9 e10
    subst e9 e10
    refine ⟨_, F4, σ6, rel6, ?_⟩
    rw [ev7]
    intro F5 H5 u s5 rv
    obtain ⟨A7, C7, h7, ro7, o7⟩ := rv.parts eo
    obtain ⟨at7, o8⟩ := keep o7
    have hD5 := at7 Dn List.mem_cons_self _ hD
    have ro5 : ROs T F5 H5 os us B := ROs.mono ((s3.trans s4).trans s5) (fun a m => at7 a (List.mem_cons_of_mem _ (List.mem_append_left _ m))) ro
    have hl2 : l = o :: l2 := by injection el3 with h1 h2; exact h1.symm
    have nD : ∀ a, a ∈ B ∨ a ∈ S ∨ a ∈ C7 ∨ a ∈ A7 → a ≠ Dn := fun a m e => by
      subst e
      have h1 := o8.nd a
      simp only [List.count_append, List.count_cons_self] at h1
      rcases m with m | m | m | m <;> (have h2 := List.count_pos_iff.mpr m; omega)
    refine ⟨us, hD5, ?_, F5, σ7, z3, A7, os ++ [o], us ++ [u], B ++ C7, ((sF.trans s3).trans s4).trans s5, fun a m q e => ?_, h7.mono (Same.refl _) (fun a m q e => ?_), ?_, kp, upd_same, ?_, ?_, ?_⟩
    · have h1 := ro.len
      rw [hl2, List.length_append, List.length_cons] at hll
      show us.length < lineN
      omega
    · rw [upd_ne (nD a (.inr (.inl m)))]
      exact at7 a (List.mem_cons_of_mem _ (List.mem_append_right _ m)) q (atS a m q e)
    · rw [upd_ne (nD a (.inr (.inr (.inr m))))]
      exact e
    · rw [h7.len, (wipe_eq kp).1, ← wl, ← rs.len, hlen]
    · refine ROs.app (RO.mono (Same.refl _) (fun a m q e => ?_) ro7) (ROs.mono (Same.refl _) (fun a m q e => ?_) ro5)
      · rw [upd_ne (nD a (.inr (.inr (.inl m))))]
        exact e
      · rw [upd_ne (nD a (.inl m))]
        exact e
    · have oo : Own P F5 H5 (Dn :: (B ++ C7 ++ (S ++ A7))) := o8.le fun a => by simp only [List.count_cons, List.count_append]; omega
      exact ⟨oo.nd, oo.nP, oo.nF, fun a q e => by rw [upd_ne (fun k => by rw [k, oo.nP Dn List.mem_cons_self] at e; cases e)]; exact oo.pH a q e, fun a q e => by rw [upd_ne (fun k => by rw [k, oo.nF Dn List.mem_cons_self] at e; cases e)]; exact oo.fH a q e, oo.pF⟩
    · refine Post.later ((s3.trans s4).trans s5) ?_
      have : (compLoop (turnE G cl elt tg cs vs) (y :: xs.drop (i + 1)) σ2).map (fun l => os ++ l) = (compLoop (turnE G cl elt tg cs vs) (xs.drop (i + 1)) σ7).map (fun l => (os ++ [o]) ++ l) := by
        show ((turnE G cl elt tg cs vs y σ2).bind _).map _ = _
        rw [e5]
        show ((compLoop (turnE G cl elt tg cs vs) (xs.drop (i + 1)) σ7).map _).map _ = _
        rw [e6]
        show Res.ok (os ++ o :: l2) σ6' = .ok ((os ++ [o]) ++ l2) σ6'
        rw [List.append_assoc]
        rfl
      rw [this] at q
      exact q
theorem RI.mono' {m : Fr → Res (List D)} {z : L2.St} {H : Hp} {Q Q' : L2.It → Hp → Prop} (h : RI T RX W m z H Q) (k : ∀ u H, Q u H → Q' u H) : RI T RX W m z H Q' := by
  obtain ⟨P, F, σ, rel, q⟩ := h
  exact ⟨P, F, σ, rel, PostA.mono q k⟩
def compE (G : Prog) (cl : Call) (own : Bool) (elt : E) (tg : Tg) (it : It) (cs : Es) (vs : List Nat) (σ : Fr) : Res Val := (evIt G cl it σ).bind fun xs σ => (compLoop (turnE G cl elt tg cs vs) xs (wiped vs σ)).nox.bind fun r σ' => if r.length ≤ lineN then .ok (lstV own r) (restored σ vs σ') else .bad
theorem RI.bind {m : Fr → Res (List D)} {f : List D → Fr → Res Val} {z : L2.St} {H : Hp} {Q : VK} {P F : Hp} {σ : Fr} (rel : Rel T P F H σ z) (h : Post T RX W P z F Q ((m σ).bind f)) :
    RI T RX W m z H fun J H1 => ∃ F1 σ1 xs, Same F F1 ∧ (Rel T P F1 H1 σ1 z ∧ ItOk T F1 J xs) ∧ Post T RX W P z F1 Q (f xs σ1) := ⟨P, F, σ, rel, PostA.bind1 h⟩
theorem lc_read {own : Bool} {elt : E} {tg : Tg} {it : It} {cs : Es} {vs : List Nat} {g : TG} {z : L2.St} {H : Hp} {Q : VK} {P F : Hp} {σ : Fr} (ht : TgR T g (fun z' => wipe z' vs = wipe z vs) (asg tg)) (rel : Rel T P F H σ z) (q : Post T RX W P z F Q (compE G cl own elt tg it cs vs σ)) :
    tLc (RI T RX W (evIt G cl it)) g (RTs T RX W0 (evCs G cl cs)) (R T RX W0 (ev G cl .val elt)) vs z H Q := by
  refine RI.mono' (RI.bind rel q) fun J H1 ⟨F1, σ1, xs, s, ⟨⟨A, k⟩, iok⟩, q1⟩ => ?_
  intro Dn hDn
  obtain ⟨S, C, k1, k2, thS, k4⟩ := RSl.mix (p := fun i => vs.contains i) (i := 0) k.s
  have hz : ∀ {z2 : L2.St}, wipe z2 vs = wipe z vs → ∀ j, vs.contains (0 + j) = false → z2[j]? = z[j]? := fun {z2} h j hj => (wipe_eq h).2 j (by simpa using hj)
  refine ⟨fun i m H => m + i = xs.length ∧ LcI T RX W P F1 H1 z Q own vs σ1.length S Dn (turnE G cl elt tg cs vs) (restored σ1 vs) xs i H, ⟨xs.length, by omega, F1, wiped vs σ1, wipe z vs, C, [], [], [], Same.refl _, fun a m q e => same_upd hDn a q e, ?_, ?_, wipe_twice, upd_same, ⟨rfl, rfl⟩, ?_, ?_⟩, ?_⟩
  · refine (k1 (wipe z vs) (wipe_length _ _) fun j hj => ?_).mono (Same.refl _) fun a m q e => same_upd hDn a q e
    exact wipe_at (by simpa using hj)
  · exact mixL_len (by simp)
  · have oA := k.own.newO (o := .lst []) k.s.there hDn
    exact oA.le fun a => by have := k2 a; simp only [List.count_cons, List.count_append, List.nil_append]; omega
  · rw [List.drop_zero]
    have e : ((compLoop (turnE G cl elt tg cs vs) xs (wiped vs σ1)).map fun l => [] ++ l) = compLoop (turnE G cl elt tg cs vs) xs (wiped vs σ1) := by
      cases compLoop (turnE G cl elt tg cs vs) xs (wiped vs σ1) <;> rfl
    rw [e]
    exact q1
  · rintro i m H ⟨hm, I⟩
    by_cases hi : i < xs.length
    · obtain ⟨F2, σ2, z2, C2, os, us, B, sF, atS, rs, hlen, hw, hD, ro, ow, q⟩ := id I
      refine .inr ⟨iok.go i F2 H hi sF ow.fH, fun H' => LcI T RX W P F1 H1 z Q own vs σ1.length S Dn (turnE G cl elt tg cs vs) (restored σ1 vs) xs (i + 1) H', fun H' h => ⟨m - 1, by omega, by omega, h⟩, fun x H' hy => ?_⟩
      exact lc_turn thS iok ht hi I x H' hy
    · obtain ⟨F2, σ2, z2, C2, os, us, B, sF, atS, rs, hlen, hw, hD, ro, ow, q⟩ := I
      refine .inl ⟨iok.stop i F2 H (by omega) sF ow.fH, ?_⟩
      rw [List.drop_of_length_le (by omega)] at q
      have q : Post T RX W P z F2 Q (if (os ++ []).length ≤ lineN then .ok (lstV own (os ++ [])) (restored σ1 vs σ2) else .bad) := q
      rw [List.append_nil] at q
      obtain ⟨A2, h3, ct⟩ := k4 sF atS rs hlen (hz hw)
      have o3 : Own P F2 H (Dn :: B ++ A2) := ow.le fun a => by have := ct a; simp only [List.count_cons, List.count_append, List.cons_append]; omega
      have rO : RO T F2 H (.lst os) (.ref Dn) (Dn :: B) := ⟨Dn, us, B, rfl, rfl, hD, ro⟩
      by_cases c : os.length ≤ lineN
      · rw [if_pos c] at q
        cases own with
        | true => exact q F2 H _ (Same.refl _) (relV_of (o := .lst os) h3 rfl rO o3)
        | false =>
          obtain ⟨s2, rd, o4⟩ := frz_c rO o3
          exact q _ H _ s2 ⟨o4.rel (h3.mono s2 fun _ _ _ e => e), rd⟩
      · rw [if_neg c] at q
        exact q.elim
end
end Tf
end
section
set_option Elab.async false
set_option linter.all false
set_option maxRecDepth 100000
namespace Tf
open PySem PySem.Spec PyProof.Rows L2
section
variable {T : Tb} {RX : XR} {W : WX} {X : Cx} {G : Prog} {cl : Call} {md : Md} {lm : List Nat} {z0 : L2.St} {w : Nat}
theorem se_comp {own : Bool} {elt tg iter : Expr} {ifs : List Expr} {scope : Scope} {ow : List (PySem.Str × Nat)} {pos : Pos} {ee : E} {t : Tg} {it : It} {cs : Es} {g : TG} (hc : X.calm = true) (hN : X.N.Nodup) (hi : PI X tg iter (RI T RX W (evIt G cl it))) (ok : BlkOk X.N X.env.scope scope ow)
    (hg : ∀ (s : Shared) (H : Hp) (C : Addr) (cl : List (PySem.Str × Addr)) (fp : List Addr), PG (X.blk s H scope (compEnvC scope cl C X.env) fp) tg g)
    (ht : ∀ z : L2.St, TgR T g (fun z' => wipe z' (ow.map (·.2)) = wipe z (ow.map (·.2))) (asg t))
    (hts : ∀ (s : Shared) (H : Hp) (C : Addr) (cl' : List (PySem.Str × Addr)) (fp : List Addr), PTs (X.blk s H scope (compEnvC scope cl' C X.env) fp) ifs (RTs T RX W0 (evCs G cl cs)))
    (he : ∀ (s : Shared) (H : Hp) (C : Addr) (cl' : List (PySem.Str × Addr)) (fp : List Addr), SE T RX W0 G cl (X.blk s H scope (compEnvC scope cl' C X.env) fp) elt ee) (hs : ∀ x, foldedSetIterable iter X.env x = pure x) :
    SE T RX W G cl X (.ListComp elt [⟨tg, iter, ifs, 0⟩] scope pos) (.comp own ee t it cs (ow.map (·.2))) :=
  SE.of (m := compE G cl own ee t it cs (ow.map (·.2))) (fun _ => rfl) (fun _ _ => rfl) (impE (pe_lc hc hN hi ok hg hts (fun s H C cl fp => (he s H C cl fp).v) hs) fun z H Q ⟨P, F, σ, rel, q⟩ => lc_read (ht z) rel q)
end
end Tf
end
section
set_option Elab.async false
set_option linter.all false
set_option maxRecDepth 100000
namespace Tf
open PySem PySem.Spec PyProof.Rows L2
section
variable {T : Tb} {RX : XR} {W : WX} {X : Cx} {G : Prog} {cl : Call} {md : Md}
structure CmpI (G : Prog) (cl : Call) (op : Cop) (o : CmpOp) (g : Int → Int → Bool) : Prop where
  h2 : ∀ i j, cmpD G cl op (.int i) (.int j) = some (g i j)
  h3 : ∀ x y c, cmpD G cl op x y = some c → ∃ i j, x = .int i ∧ y = .int j
end
end Tf
end
section
set_option Elab.async false
set_option linter.all false
set_option maxRecDepth 100000
namespace Tf
open PySem PySem.Spec PyProof.Rows L2
section
variable {T : Tb} {RX : XR} {W : WX} {X : Cx} {G : Prog} {cl : Call} {md : Md}
structure CiOk (X : Cx) (T : Tb) (RX : XR) (G : Prog) (cl : Call) (k : Nat) (fA : Nat → Addr) : Prop where
  at_ : ∀ c f, c < T.nc → G.meth c m_call = some f → StX.CallO X.K (T.cA c) (fA f) ∧ FnD X T RX cl k (fA f) f
end
end Tf
end
section
set_option Elab.async false
set_option linter.all false
set_option maxRecDepth 100000
namespace Tf
open PySem PySem.Spec PyProof.Rows L2
structure ExcI (P : Program) (K : PySem.W.Frag) (C fI : Addr) (qual : PySem.Str) (params : Arguments) (body : List Stmt) (scope : Scope) (fd : FuncData) : Prop where
  ox : OexC K C
  iC : PySem.W.findIn K (.ref C) "__init__" = some (some (.ref fI))
  tI : PySem.W.typeIn K (.ref fI) = some (.type "function")
  fn : ∃ oc od kV doc pm an cda ct cc osl cl cld csl ccl cdd vs ccs file tf, fd = PySem.W.ksFn "__init__" qual params body scope .none kV doc pm an (.ref cda) ct cc ∧ K.lookup fI = some ⟨oc, od, .func fd, osl⟩ ∧ PySem.W.codeIn K (.ref cda) qual = true ∧
    K.lookup cc = some ⟨cl, cld, .cell (some (.ref C)), csl⟩ ∧ K.lookup cda = some ⟨ccl, cdd, .fields vs, ccs⟩ ∧ vs[2]? = some (.str file tf) ∧ ((P.main.file : PySem.Str) == file) = true
  sup : PySem.W.ks_superIn K C C "__init__" = some (some (.builtin "ValueError.__init__"))
  sub : PySem.W.subIn K (.ref C) (.type "ValueError") = some true
  mro : PySem.W.mroIn K C (.ref C) = some true
  nsup : PySem.W.nsIn K mainGlobals "super" = some none
  stat : PySem.W.nsIn K cStatics "thirdparty.any" = some none
  top : (P.main.scope.names.lookup ("super" : PySem.Str)).isSome = false
def cxS (CX : CXT) (P : Program) (w : World) (K : PySem.W.Frag) (mg : PySem.Str → Option Value) (base : Heap) (N : List PySem.Str) (fd : FuncData) (f : Addr) (A : Around) (outer : List Env) (s : Shared) (H : Hp) (E : XK) : Cx where
  prog := P
  w := w
  K := K
  mg := mg
  base := base
  A := A.deeper (callEnv fd s.heap.objs.size f)
  N := N
  s_0 := s
  H_0 := H
  env := callEnv fd s.heap.objs.size f
  outer := outer
  stack := callEnv fd s.heap.objs.size f :: outer
  ex := []
  calm := true
  fn := fun _ => false
  pn := []
  xe := fun e t => wpAny (model P w) (A.deeper (callEnv fd s.heap.objs.size f)) (leaving (callEnv fd s.heap.objs.size f) e) (fun _ t' => CX outer H s E e t') (fun e' t' => CX outer H s E e' t') t
structure ScopeX (N ps : List PySem.Str) (scope : Scope) : Prop where
  kind : scope.kind = .function
  co : scope.isCoroutine = false
  gen : scope.isGenerator = false
  nd : N.Nodup
  par : ∀ x ∈ N, scope.names.lookup x = some .local
  nocell : ∀ y ∈ scope.names, y.2 ≠ .cell
  free : ∀ y ∈ scope.names, y.2 = .free → y.1 = "__class__"
  cls : scope.names.lookup ("__class__" : PySem.Str) = some .free
  sup : scope.names.lookup ("super" : PySem.Str) = some .globalImplicit
theorem zip_get {N : List PySem.Str} {us : List Value} {i : Nat} {x : PySem.Str} {u : Value} (nd : N.Nodup) (h1 : N[i]? = some x) (h2 : us[i]? = some u) : (N.zip us).reverse.lookup x = some u := by
  have key : ∀ (l : List (PySem.Str × Value)) (x : PySem.Str) (u : Value), (l.map (·.1)).Nodup → (x, u) ∈ l → l.lookup x = some u := by
    intro l
    induction l with
    | nil => intro x u _ m; cases m
    | cons p l ih =>
      intro x u n m
      obtain ⟨y, v⟩ := p
      rw [List.map_cons, List.nodup_cons] at n
      rcases List.mem_cons.mp m with e | m
      · cases e
        simp [List.lookup]
      · have ne : x ≠ y := fun e => n.1 (e ▸ List.mem_map_of_mem (f := (·.1)) m)
        rw [List.lookup_cons, show (x == y) = false from by simpa using ne]
        exact ih x u n.2 m
  have hm : (x, u) ∈ N.zip us := by
    refine List.mem_of_getElem? (i := i) ?_
    rw [List.getElem?_zip_eq_some]
    exact ⟨h1, h2⟩
  refine key _ _ _ ?_ (List.mem_reverse.mpr hm)
  rw [List.map_reverse]
  refine List.pairwise_reverse.mpr (List.Pairwise.imp (fun h => Ne.symm h) ?_)
  refine List.Nodup.sublist ?_ nd
  have sub : ∀ (N : List PySem.Str) (us : List Value), ((N.zip us).map (·.1)).Sublist N := by
    intro N
    induction N with
    | nil => intro us; exact .slnil
    | cons x N ih =>
      intro us
      cases us with
      | nil => exact List.nil_sublist _
      | cons u us => exact (ih us).cons_cons x
  exact sub _ _
section
variable {P : Program} {w : World} {K : PySem.W.Frag} {mg : PySem.Str → Option Value} {base : Heap} {N : List PySem.Str} {fd : FuncData} {f C : Addr} {A : Around} {outer : List Env} {s : Shared} {H : Hp} {E : XK} {CX : CXT} {qual : PySem.Str} {params : Arguments} {body : List Stmt} {scope : Scope}
theorem lk_cls {cc c : Addr} {x : PySem.Str} (h : ([("__class__", cc)] : List (PySem.Str × Addr)).lookup x = some c) : x = "__class__" ∧ c = cc := by
  rw [List.lookup_cons] at h
  cases e : (x == ("__class__" : PySem.Str)) with
  | true =>
    rw [e] at h
    exact ⟨beq_iff_eq.mp e, (Option.some.inj h).symm⟩
  | false =>
    rw [e] at h
    cases h
theorem lk_cls_self {cc : Addr} : ([("__class__", cc)] : List (PySem.Str × Addr)).lookup ("__class__" : PySem.Str) = some cc := by simp [List.lookup]
theorem inv_ent {vs : List V} {us : List Value} {h₀ : Heap} {t : Nat} (X : ExcI P K C f qual params body scope fd) (S : ScopeX N N scope) (hd : A.handled = none) (e0 : Env0 P w K mg base A outer s H) (hl : vs.length = N.length) (r : Vals vs us)
    (hns : h₀.Ns s.heap.objs.size (fun x => (N.zip us).reverse.lookup x)) (k : ∀ b o, s.heap.get? b = some o → h₀.get? b = some o) : Inv (cxS CX P w K mg base N fd f A outer s H E) [] (vs.map some) H { s with heap := h₀, toks := t } := by
  obtain ⟨oc, od, kV, doc, pm, an, cda, ct, cc, osl, cl, cld, csl, ccl, cdd, vs', ccs, file, tf, efd, lk, hcd, hcell, hcode, hvs, hfile⟩ := X.fn
  subst efd
  have bc : base.get? cc = some _ := e0.mod.kin _ _ hcell
  have gc : s.heap.get? cc = some _ := (e0.bs _ _ bc).1
  have noA : ∀ {α : Type} {p : Prop} {b : α}, b ∈ ([] : List α) → p := fun m => by cases m
  refine ⟨⟨e0.mod, S.kind, rfl, rfl, Nat.le_refl _, fun y z c h1 h2 => ?_, fun y hy => ?_, fun y c hf h => ?_, fun _ => hd, Around.frames_deeper e0.frames, .inr ⟨rfl, rfl⟩, fun b z => noA z, e0.bs, e0.bsz, fun b _ _ z => noA z, fun b z => noA z, e0.funs, e0.frf⟩,
    rfl, e0.bare, Un.kept k, ⟨_, hns, fun i y v h1 h2 h3 => ?_⟩, fun y c h => ?_, e0.hok.fresh (Nat.le_refl _), fun y c h => ?_, fun p hp => noA hp, e0.hok.kept k, ?_⟩
  · exact (lk_cls h1).1.trans (lk_cls h2).1.symm
  · rcases hy with hy | hy
    · exact absurd rfl (S.nocell _ (PySem.mem_of_lookup hy))
    · have e := S.free _ (PySem.mem_of_lookup hy) rfl
      exact ⟨cc, by subst e; exact lk_cls_self⟩
  · cases hf
  · have e : (vs.map some)[i]? = some (some v) := h2
    rw [List.getElem?_map] at e
    cases e' : vs[i]? with
    | none => rw [e'] at e; cases e
    | some v' =>
      rw [e'] at e
      cases e
      obtain ⟨u, hu, rv⟩ := r.get e'
      exact ⟨u, rv, .inl ⟨S.par y (List.mem_of_getElem? h1), zip_get S.nd h1 hu⟩⟩
  · obtain ⟨_, rfl⟩ := lk_cls h
    exact ⟨_, _, k _ _ gc, rfl⟩
  · obtain ⟨_, rfl⟩ := lk_cls h
    exact (e0.bs _ _ bc).2
  · show (vs.map some).length = N.length
    rw [List.length_map, hl]
theorem super_call {X : Cx} {z : L2.St} {a : Addr} {es : List Expr} {ta : TA} {p0 p1 p2 pos : Pos} {bd : List Stmt} {R : Value → Shared → Prop} (EI : ExcI X.prog X.K C f qual params body scope fd) (S : ScopeX X.N X.N scope) (hE : X.env = callEnv fd X.env.locals f) (hN : X.N[0]? = some ("self" : PySem.Str))
    (hp : ∃ ar, (params.posonlyargs ++ params.args).head? = some ar ∧ ar.arg = "self") (hm : X.mg "super" = none) (I : Inv X [] z H s) (hz : z[0]? = some (some (.ref a))) (ea : H a = some (exo a C none)) (ha : PA X es ta) (hta : ∀ H (Q : List V → Hp → Prop), (∀ vs, vs.length ≤ 1000 → Q vs H) → ta z H Q)
    (hes : es = [] ∨ ∃ e r, es = e :: r ∧ starEach (e :: r) X.env = (false, eval e X.env) :: starEach r X.env ∧ (backTo pos (starEach r X.env)).any (·.1) = false)
    (hq : ∀ s', Inv X [] z H s' → R .none s') {pl : Sem Bool}
    (he : eval (.Call (.Attribute (.Call (.Name "super" p0) [] [] p1) "__init__" p2) es [] pos) X.env = (do
      let ov ← attributeBase (.Call (.Name "super" p0) [] [] p1) "__init__" X.env (eval (.Call (.Name "super" p0) [] [] p1) X.env)
      standAt p2.atName
      let (f, first) ← holding [ov] (getMethod ov "__init__" pl)
      callWith pos f first (backTo pos (starEach es X.env)) [])) :
    PySem.wpAt (model X.prog X.w) X.A (.func bd X.env) (eval (.Call (.Attribute (.Call (.Name "super" p0) [] [] p1) "__init__" p2) es [] pos) X.env) R X.xe s := by
  obtain ⟨oc, od, kV, doc, pm, an, cda, ct, cc, osl, cl, cld, csl, ccl, cdd, vs', ccs, file, tf, efd, lk, hcd, hcell, hcode, hvs, hfile⟩ := EI.fn
  subst efd
  have KX := I.kIn
  obtain ⟨ar, har, harn⟩ := hp
  have eC : X.env.cells.lookup ("__class__" : PySem.Str) = some cc := by rw [hE]; exact lk_cls_self
  have eks : X.env.kindOf "super" = some .globalImplicit := by rw [hE]; exact S.sup
  have ekc : X.env.kindOf "__class__" = some .free := by rw [hE]; exact S.cls
  have ef : X.env.func = some f := by rw [hE]; rfl
  have ecd : X.env.code = .ref cda := by rw [hE]; rfl
  obtain ⟨t1, ho⟩ := exo_at I.hok ea
  obtain ⟨nm, q, NN, bs, bm, sn, sub, ab, col, dd, k0, k1, k2, k3, k5, hC, hbm⟩ := EI.ox.cls
  have hD := KX _ _ hC
  refine PySem.ks_wpAt_MethodCall (PySem.ks_wpAt_super_base eks ekc rfl ef (KX _ _ lk) rfl har ecd (KX _ _ hcode) rfl hvs hfile EI.top ?_) he
  refine PySem.W.ks_loadName_global I.ok.kind eks ?_
  obtain ⟨mb, b1, b2⟩ := I.mod.blt
  refine Calls.loadGlobal_builtin (by rw [I.ok.glob]; exact I.mod.glob.keeps I.bk) hm (by rw [I.ok.blt]; exact b1.keeps I.bk) ((b2 "super" (by decide)).trans (show bootBuiltins "super" = some (.type "super") by kernel_rfl)) ⟨rfl, ?_⟩
  refine wpAny_loadName_free I.ok.kind ekc eC ⟨_, KX _ _ hcell, rfl⟩ ?_
  rw [harn]
  obtain ⟨m, hns, hl⟩ := id I.loc
  have ekself : X.env.kindOf "self" = some .local := by rw [hE]; exact S.par _ (List.mem_of_getElem? hN)
  obtain ⟨u, hu, hk⟩ := hl 0 "self" _ hN hz (.inl (by have := ekself; exact this))
  have hu' : u = .ref a := hu
  subst hu'
  have hm2 : m "self" = some (.ref a) := by
    rcases hk with ⟨_, h⟩ | ⟨h, _⟩
    · exact h
    · rw [ekself] at h; rcases h with h | h <;> cases h
  refine wpAny_loadName_local I.ok.kind ekself hns hm2 ?_
  refine PySem.ks_wpAny_isType_cls hD rfl ⟨rfl, ?_⟩
  obtain ⟨hh, g, d, tk, os⟩ := s
  refine PySem.ks_wpAny_call_super hD rfl ho rfl (fun c e => by cases e) (PySem.W.looks_mroIn KX EI.mro) (fun h1 e1 kp1 => ?_)
  have I1 : Inv X [] z H ⟨h1, g, d, tk, os⟩ := I.kept (t' := tk) kp1
  have ho1 := kp1 _ _ ho
  have hcl : PySem.W.clsIn X.K C = some { name := nm, bases := bs, mro := .ref C :: bm, ns := NN, qualname := q, hasDict := true, slotNames := sn, subclasses := sub, abstract := ab, collection := col, hasDel := false } := by
    unfold PySem.W.clsIn
    rw [hC] <;> rfl
  have iA : PySem.W.InstAt h1 a { cls := .ref C, dict := none, data := .fields #[.ref t1, .none, .none, .none, .bool false, .none] } C none := ⟨ho1, rfl, rfl, trivial⟩
  have hsup := EI.sup
  unfold PySem.W.ks_superIn at hsup
  rw [hcl] at hsup
  have ns1 : hh.objs.size < h1.objs.size := Heap.lt_size e1
  refine PySem.W.kxs_getMethod (i := "ValueError.__init__") PySem.W.kxs_ValueError e1 (PySem.W.looks_opaque I1.kIn EI.stat) (l₀ := .ref C :: bm) ?_ rfl I1.kIn hsup (iA.type.andThen (PySem.W.looks_subIn I1.kIn EI.sub)) (PySem.W.ks_ne I1.kIn iA hcl) rfl ?_
  · exact fun A Q E s k q => wpAny_bind ((PySem.W.looks_clsIn I1.kIn hcl) A _ E s k (wpAny_pure q))
  have up : ∀ b o, h1.get? b = some o → (h1.push (PySem.W.kxs_mw "ValueError.__init__" a)).get? b = some o := fun b o e => Heap.get?_push_of_some _ e
  have hu : (h1.push (PySem.W.kxs_mw "ValueError.__init__" a)).get? h1.objs.size = some (PySem.W.kxs_mw "ValueError.__init__" a) := Heap.get?_push_at rfl rfl
  have I2 : Inv X [(h1.objs.size, PySem.W.kxs_mw "ValueError.__init__" a)] z H ⟨h1.push (PySem.W.kxs_mw "ValueError.__init__" a), g, d, tk + 1, os⟩ := (I1.kept (t' := tk + 1) up).pins_of fun p hp => by
    have e : p = (h1.objs.size, PySem.W.kxs_mw "ValueError.__init__" a) := List.mem_singleton.mp hp
    subst e
    exact ⟨hu, I1.hok.fresh (Nat.le_refl _), Nat.ne_of_gt I1.lt, I1.nofs (Nat.le_refl _), fun v z => by cases z⟩
  show wpAny (model X.prog X.w) X.A (callWith pos (.ref h1.objs.size) [] (backTo pos (starEach es X.env)) []) _ _ _
  have go : ∀ (us : List Value) (s2 : Shared) , us.length ≤ sizeLine → Inv X [(h1.objs.size, PySem.W.kxs_mw "ValueError.__init__" a)] z H s2 → wpAny (model X.prog X.w) X.A (call (.ref h1.objs.size) us) R X.xe s2 := fun us s2 hl2 J => by
    have hu2 := (J.pin _ (List.mem_append_right _ (List.mem_singleton.mpr rfl))).1
    obtain ⟨t2, ho2⟩ := exo_at J.hok ea
    have hC2 := J.kIn _ _ hC
    obtain ⟨hp2, g2, d2, tk2, os2⟩ := s2
    refine wpAny_call (codeAny_of_tree ?_)
    show wpAny _ X.A.in1 (callAny (.ref h1.objs.size) ⟨us, []⟩) _ _ _
    simp only [callAny]
    refine wpAny_bind (wpAny_load hu2 ?_)
    have tb : (Value.type "method-wrapper" == Value.type "method" || Value.type "method-wrapper" == Value.type "builtin_function_or_method" || Value.type "method-wrapper" == Value.type "method-wrapper") = true := by decide
    simp only [PySem.W.kxs_mw, tb, if_true]
    refine PySem.W.KFB.if_so (by decide) ?_
    refine wpAny_bind (PySem.W.check_bound_init F.excBase_ValueError.toExcCallFacts hC2 ho2 rfl ?_)
    refine wpAny_bind (wpAny_pure (wpAny_pure ?_))
    refine ⟨plainId_quiet F.excBase_ValueError.init.plain _, codeAny_builtin F.excBase_ValueError.initEntry ?_⟩
    refine PySem.W.exc_init_tree (cls := .ref C) (t0 := t2) (dv := none) (c2 := .none) (c3 := .none) (b4 := .bool false) ho2 hl2 (fun h' k hx ht => ?_)
    have J2 := J.write (t' := tk2) (x := a) (e := a) (o := exo a C none) (by rw [ea]; exact True.intro) (.inl rfl) k ⟨_, hx⟩ (exo_ok hx)
    have eu : upd H a (exo a C none) = H := by
      funext b
      by_cases hb : b = a
      · rw [hb, upd_same, ea]
      · rw [upd_ne hb]
    rw [eu] at J2
    exact hq _ (J2.pins_of (pins' := []) fun p hp => by cases hp)
  rcases hes with rfl | ⟨e, r, rfl, hst, hpl⟩
  · exact PySem.W.kxs_callWith (i := "ValueError.__init__") (x := a) rfl (evalArgs_empty ⟨hu, go [] _ (Nat.zero_le _) I2⟩)
  · have hv := ha.run pos _ _ z H (fun vs H1 => vs.length ≤ 1000 ∧ H1 = H) I2 (hta H _ fun vs l => ⟨l, rfl⟩)
    rw [hst] at hv ⊢
    refine PySem.W.kxs_callWith (i := "ValueError.__init__") (x := a) (by show (false || (backTo pos (starEach r X.env)).any (·.1)) = false; rw [hpl]; rfl) ?_
    refine Calls.evalArgs_plain (thn hv fun us s2 ⟨vs, H2, J, rv, hl2, eH⟩ => ?_)
    subst eH
    refine ⟨(J.pin _ (List.mem_append_right _ (List.mem_singleton.mpr rfl))).1, go us s2 ?_ J⟩
    rw [← Paired.length rv, sizeLine_eq]
    omega
theorem fn_exi {k : Nat} {sp : Sp} {p0 p1 p2 p3 p4 : Pos} {es : List Expr} {rest : List Stmt} {ta : TA} {tr : TS} (EI : ExcI P K C f qual params body scope fd) (S : ScopeX N N scope) (hN : N[0]? = some ("self" : PySem.Str)) (hp : ∃ ar, (params.posonlyargs ++ params.args).head? = some ar ∧ ar.arg = "self")
    (hbody : body = .Expr (.Call (.Attribute (.Call (.Name "super" p0) [] [] p1) "__init__" p2) es [] p3) p4 :: rest) (hm : mg "super" = none)
    (ha : ∀ A outer s H E, PA (cxS CX P w K mg base N fd f A outer s H E) es ta) (hr : ∀ A outer s H E, PSs (cxS CX P w K mg base N fd f A outer s H E) rest tr)
    (hta : ∀ (vs : List V) H (Q : List V → Hp → Prop), vs.length = N.length → (∀ us, us.length ≤ 1000 → Q us H) → ta (vs.map some) H Q) (len : ∀ vs H Q E, sp vs H Q E → vs.length = N.length)
    (hsp : ∀ vs H Q E, sp vs H Q E → ∃ a ws, vs = .ref a :: ws ∧ H a = some (exo a C none) ∧ tr { nx := fun _ H' => Q .non H', rt := Q } (vs.map some) H)
    (hes : ∀ env : Env, es = [] ∨ ∃ e r, es = e :: r ∧ starEach (e :: r) env = (false, eval e env) :: starEach r env ∧ (backTo p3 (starEach r env)).any (·.1) = false)
    (he : ∀ env : Env, ∃ pl : Sem Bool, eval (.Call (.Attribute (.Call (.Name "super" p0) [] [] p1) "__init__" p2) es [] p3) env = (do
      let ov ← attributeBase (.Call (.Name "super" p0) [] [] p1) "__init__" env (eval (.Call (.Name "super" p0) [] [] p1) env)
      standAt p2.atName
      let (f, first) ← holding [ov] (getMethod ov "__init__" pl)
      callWith p3 f first (backTo p3 (starEach es env)) [])) : FnOk P w K mg base CX (k + 1) f fd N sp := by
  refine ⟨len, fun A outer s H args us vs Q E hroom e0 hb r hs => ?_⟩
  have hl := len _ _ _ _ hs
  obtain ⟨a, ws, ev, ea, htr⟩ := hsp _ _ _ _ hs
  obtain ⟨oc, od, kV, doc, pm, an, cda, ct, cc, osl, cl, cld, csl, ccl, cdd, vs', ccs, file, tf, efd, lk, hcd, _⟩ := id EI.fn
  have KX : K.In s.heap := e0.mod.kin.keeps fun b o e => (e0.bs b o e).1
  have lim : s.heap.NoLimit := e0.mod.nolimit.keeps fun b o e => (e0.bs b o e).1
  have esc : fd.scope = scope := by rw [efd]
  have ebd : fd.body = .stmts body := by rw [efd]
  have ecode : s.heap.CodeRec fd.code fd.qualname := by rw [efd]; exact PySem.W.codeRec_of KX hcd
  refine PySem.ks_codeAny_call_defAt (fd := fd) (body := body) (binds := N.zip us) hroom.depth (KX _ _ lk) rfl lim ecode ebd hb (by rw [esc]; exact S.nocell) (fun x hx => by rw [esc]; exact S.par _ (List.of_mem_zip hx).1) (fun h₀ hns kp => ?_) (by rw [esc]; exact S.co) (by rw [esc]; exact S.gen) (by rw [esc]; exact S.kind)
  have I : Inv (cxS CX P w K mg base N fd f A outer s H E) [] (vs.map some) H { s with heap := h₀, toks := s.toks + (N.zip us).length } := inv_ent EI S hroom.hd e0 hl r hns kp
  obtain ⟨pl, he⟩ := he (callEnv fd s.heap.objs.size f)
  have hz : (vs.map some)[0]? = some (some (V.ref a)) := by rw [ev]; rfl
  subst hbody
  refine PySem.ks_wpAt_execs_cons (PySem.ks_wpAt_Expr_any ?_ (by rw [efd]; unfold interactive; simp [callEnv, newEnv, S.kind]))
  refine super_call (X := cxS CX P w K mg base N fd f A outer s H E) (pos := p3) EI S rfl hN hp hm I hz ea (ha A outer s H E) (fun H Q h => ?_) (hes _) (fun s' J => ?_) he
  · exact hta vs H Q hl h
  · refine wpAt_of_wpAny (wpAny_mono ((hr A outer s H E).run [] s' (vs.map some) H _ J htr) (fun fl t hs => ?_) fun e t hs => hs)
    have fin : ∀ {σ' : L2.St} {H' : Hp} {v : V} {u : Value}, Inv (cxS CX P w K mg base N fd f A outer s H E) [] σ' H' t → L2.RelV v u → Q v H' → CE outer P w H s Q u t := fun {σ' H' v u} J rv q => ⟨v, H', J.os, J.bare, J.base, J.hok, rv, q⟩
    cases fl with
    | ret u =>
      obtain ⟨v, σ', H', J, rv, q⟩ := hs
      exact fin J rv q
    | next =>
      obtain ⟨σ', H', J, q⟩ := hs
      exact fin (v := V.non) (u := Value.none) J rfl q
    | brk =>
      obtain ⟨_, _, _, q⟩ := hs
      exact False.elim q
    | cont =>
      obtain ⟨_, _, _, q⟩ := hs
      exact False.elim q
end
end Tf
end
section
set_option Elab.async false
set_option linter.all false
set_option maxRecDepth 100000
namespace Tf
open PySem PySem.Spec PyProof.Rows L2
section
variable {P : Program} {w : World} {K : PySem.W.Frag} {mg : PySem.Str → Option Value} {base : Heap} {fd : FuncData} {f C : Addr} {CX : CXT} {qual : PySem.Str} {params : Arguments} {scope : Scope} {k : Nat}
theorem mc_tree2 {o : Expr} {m : PySem.Str} {apos pos : Pos} {es : List Expr} {env : Env} (hs : es.all (fun e => !isStar e) = true) (hn : es.length < 30) (hl : (apos.endLine == pos.line) = true) :
    eval (.Call (.Attribute o m apos) es [] pos) env = (do
      let ov ← attributeBase o m env (eval o env)
      standAt apos.atName
      let (f, first) ← holding [ov] (getMethod ov m (do return (← importBound o env).getD true))
      callWith pos f first (backTo pos (starEach es env)) []) := by
  show (do
    let ov ← attributeBase o m env (eval o env)
    standAt apos.atName
    methodCall o m apos pos env ov (es.length + 0) (backTo pos (starEach es env)) (backToKw pos (keywordEach [] env))) = _
  have hf : methodCallForm (es.length + 0) (backTo pos (starEach es env)) (backToKw pos (keywordEach [] env)) = true := by
    unfold methodCallForm
    rw [all_star hs]
    show (true && true && decide (es.length + 0 + 0 < 30)) = true
    simpa using hn
  unfold methodCall calleeOf methodCallPos
  rw [hf]
  simp only [Bool.not_true, Bool.false_or, hl, if_true]
  rfl
def spE1 (C : Addr) (x : PySem.Str) : Sp := fun vs H Q _ => ∃ a v, vs = [.ref a, v] ∧ H a = some (exo a C none) ∧ ∀ d, H d = none → d ≠ a → Q .non (upd (upd H d (exd d [(x, v)])) a (exo a C (some d)))
def spE2 (C : Addr) (x y : PySem.Str) : Sp := fun vs H Q _ => ∃ a v u, vs = [.ref a, v, u] ∧ H a = some (exo a C none) ∧ ∀ d, H d = none → d ≠ a → Q .non (upd (upd (upd H d (exd d [(x, v)])) a (exo a C (some d))) d (exd d [(y, u), (x, v)]))
def spE0 (C : Addr) : Sp := fun vs H Q _ => ∃ a, vs = [.ref a] ∧ H a = some (exo a C none) ∧ Q .non H
theorem fn_ex1 {x : PySem.Str} {p0 p1 p2 p3 p4 q1 q2 q3 q4 q5 : Pos} (EI : ExcI P K C f qual params [.Expr (.Call (.Attribute (.Call (.Name "super" p0) [] [] p1) "__init__" p2) [.Name x q1] [] p3) p4, .Assign [.Attribute (.Name "self" q2) x q3] (.Name x q4) q5] scope fd)
    (S : ScopeX ["self", x] ["self", x] scope) (hp : ∃ ar, (params.posonlyargs ++ params.args).head? = some ar ∧ ar.arg = "self") (hm : mg "super" = none) (hl : (p2.endLine == p3.line) = true) (hno : PySem.W.findIn K (.ref C) x = some none) (hd : (x == ("__debug__" : PySem.Str)) = false) (hcd : (x == ("__classdict__" : PySem.Str)) = false) :
    FnOk P w K mg base CX (k + 1) f fd ["self", x] (spE1 C x) := by
  have esc : fd.scope = scope := by
    obtain ⟨oc, od, kV, doc, pm, an, cda, ct, cc, osl, cl, cld, csl, ccl, cdd, vs', ccs, file, tf, efd, _⟩ := EI.fn
    rw [efd]
  have pvx : ∀ A outer s H E, ∀ q : Pos, PE (cxS CX P w K mg base ["self", x] fd f A outer s H E) (.Name x q) (tVar 1) := fun A outer s H E q =>
    pv 1 (hN := rfl) (hv := .inl (by show fd.scope.names.lookup x = _; rw [esc]; exact S.par x (by simp))) (hd := hd) (hcd := hcd)
  have pvs : ∀ A outer s H E, ∀ q : Pos, PE (cxS CX P w K mg base ["self", x] fd f A outer s H E) (.Name "self" q) (tVar 0) := fun A outer s H E q =>
    pv 0 (hN := rfl) (hv := .inl (by show fd.scope.names.lookup ("self" : PySem.Str) = _; rw [esc]; exact S.par _ (by simp)))
  refine fn_exi (ta := tCons (tVar 1) tNil) (tr := tOst K x (tVar 0) (tVar 1)) EI S rfl hp rfl hm (fun A outer s H E => pa_cons (pvx A outer s H E q1) pa_nil) (fun A outer s H E => pss_one (ps_ost (pvs A outer s H E q2) (pvx A outer s H E q4))) (fun vs H Q hl h => ?_) (fun vs H Q E h => ?_) (fun vs H Q E h => ?_) (fun env => .inr ⟨_, _, rfl, rfl, rfl⟩) (fun env => ⟨_, mc_tree2 rfl (by simp) hl⟩)
  · match vs, hl with
    | [a, b], _ => exact ⟨b, rfl, h [b] (by simp)⟩
  · obtain ⟨a, v, e, _⟩ := h
    rw [e] <;> rfl
  · obtain ⟨a, v, e, ea, h⟩ := h
    subst e
    exact ⟨a, [v], rfl, ea, v, rfl, .ref a, rfl, a, C, rfl, EI.ox, hno, .inl ⟨ea, h⟩⟩
theorem fn_ex2 {x y : PySem.Str} {p0 p1 p2 p3 p4 q1 q2 q3 q4 q5 r1 r2 r3 r4 r5 : Pos} (EI : ExcI P K C f qual params [.Expr (.Call (.Attribute (.Call (.Name "super" p0) [] [] p1) "__init__" p2) [.Name x q1, .Name y r1] [] p3) p4, .Assign [.Attribute (.Name "self" q2) x q3] (.Name x q4) q5, .Assign [.Attribute (.Name "self" r2) y r3] (.Name y r4) r5] scope fd)
    (S : ScopeX ["self", x, y] ["self", x, y] scope) (hp : ∃ ar, (params.posonlyargs ++ params.args).head? = some ar ∧ ar.arg = "self") (hm : mg "super" = none) (hl : (p2.endLine == p3.line) = true) (hno : PySem.W.findIn K (.ref C) x = some none) (hno2 : PySem.W.findIn K (.ref C) y = some none)
    (hd : (x == ("__debug__" : PySem.Str)) = false) (hcd : (x == ("__classdict__" : PySem.Str)) = false) (hd2 : (y == ("__debug__" : PySem.Str)) = false) (hcd2 : (y == ("__classdict__" : PySem.Str)) = false) :
    FnOk P w K mg base CX (k + 1) f fd ["self", x, y] (spE2 C x y) := by
  have esc : fd.scope = scope := by
    obtain ⟨oc, od, kV, doc, pm, an, cda, ct, cc, osl, cl, cld, csl, ccl, cdd, vs', ccs, file, tf, efd, _⟩ := EI.fn
    rw [efd]
  have pvx : ∀ A outer s H E, ∀ q : Pos, PE (cxS CX P w K mg base ["self", x, y] fd f A outer s H E) (.Name x q) (tVar 1) := fun A outer s H E q =>
    pv 1 (hN := rfl) (hv := .inl (by show fd.scope.names.lookup x = _; rw [esc]; exact S.par x (by simp))) (hd := hd) (hcd := hcd)
  have pvy : ∀ A outer s H E, ∀ q : Pos, PE (cxS CX P w K mg base ["self", x, y] fd f A outer s H E) (.Name y q) (tVar 2) := fun A outer s H E q =>
    pv 2 (hN := rfl) (hv := .inl (by show fd.scope.names.lookup y = _; rw [esc]; exact S.par y (by simp))) (hd := hd2) (hcd := hcd2)
  have pvs : ∀ A outer s H E, ∀ q : Pos, PE (cxS CX P w K mg base ["self", x, y] fd f A outer s H E) (.Name "self" q) (tVar 0) := fun A outer s H E q =>
    pv 0 (hN := rfl) (hv := .inl (by show fd.scope.names.lookup ("self" : PySem.Str) = _; rw [esc]; exact S.par _ (by simp)))
  refine fn_exi (ta := tCons (tVar 1) (tCons (tVar 2) tNil)) (tr := tSeq (tOst K x (tVar 0) (tVar 1)) (tOst K y (tVar 0) (tVar 2))) EI S rfl hp rfl hm (fun A outer s H E => pa_cons (pvx A outer s H E q1) (pa_cons (pvy A outer s H E r1) pa_nil))
    (fun A outer s H E => pss_cons (ps_ost (pvs A outer s H E q2) (pvx A outer s H E q4)) (pss_one (ps_ost (pvs A outer s H E r2) (pvy A outer s H E r4)))) (fun vs H Q hl h => ?_) (fun vs H Q E h => ?_) (fun vs H Q E h => ?_) (fun env => .inr ⟨_, _, rfl, rfl, rfl⟩) (fun env => ⟨_, mc_tree2 rfl (by simp) hl⟩)
  · match vs, hl with
    | [a, b, c], _ => exact ⟨b, rfl, c, rfl, h [b, c] (by simp)⟩
  · obtain ⟨a, v, u, e, _⟩ := h
    rw [e] <;> rfl
  · obtain ⟨a, v, u, e, ea, h⟩ := h
    subst e
    refine ⟨a, [v, u], rfl, ea, v, rfl, .ref a, rfl, a, C, rfl, EI.ox, hno, .inl ⟨ea, fun d nd ne => ?_⟩⟩
    exact ⟨u, rfl, .ref a, rfl, a, C, rfl, EI.ox, hno2, .inr ⟨d, _, upd_same, (upd_ne ne).trans upd_same, by simp, h d nd ne⟩⟩
theorem fn_ex0 {p0 p1 p2 p3 p4 : Pos} (EI : ExcI P K C f qual params [.Expr (.Call (.Attribute (.Call (.Name "super" p0) [] [] p1) "__init__" p2) [] [] p3) p4] scope fd)
    (S : ScopeX ["self"] ["self"] scope) (hp : ∃ ar, (params.posonlyargs ++ params.args).head? = some ar ∧ ar.arg = "self") (hm : mg "super" = none) (hl : (p2.endLine == p3.line) = true) : FnOk P w K mg base CX (k + 1) f fd ["self"] (spE0 C) := by
  refine fn_exi (ta := tNil) (tr := tNext) EI S rfl hp rfl hm (fun A outer s H E => pa_nil) (fun A outer s H E => pss_nil) (fun vs H Q hl h => h [] (by decide)) (fun vs H Q E h => ?_) (fun vs H Q E h => ?_) (fun env => .inl rfl) (fun env => ⟨_, mc_tree2 rfl (by simp) hl⟩)
  · obtain ⟨a, e, _⟩ := h
    rw [e] <;> rfl
  · obtain ⟨a, e, ea, h⟩ := h
    subst e
    exact ⟨a, [], rfl, ea, h⟩
end
def XdOf (T : Tb) (F H : Hp) (ps : List PySem.Str) (xs : List D) (d : Option Addr) : Prop := ∃ vs, RDs T F xs vs ∧ vs.length = ps.length ∧ ((ps = [] ∧ d = none) ∨ ∃ dd fs, d = some dd ∧ H dd = some (.xd fs) ∧ ∀ (k : Nat) (f : PySem.Str) (v : V), ps[k]? = some f → vs[k]? = some v → fs.lookup f = some v)
def RXc (T : Tb) (xs : List Nat) (xn : Nat → List PySem.Str) : XR := fun F H x cls d => x.c ∈ xs ∧ cls = .ref (T.cA x.c) ∧ XdOf T F H (xn x.c) x.ds d
theorem PMk.imp {X : Cx} {e : Expr} {t t' : L2.St → Hp → XK → Prop} (h : PMk X e t) (k : ∀ z H Q, t' z H Q → t z H Q) : PMk X e t' := fun pins s σ H Q I q => h pins s σ H Q I (k σ H Q q)
def tXs (T : Tb) (ps : List PySem.Str) (C : Addr) (ta : TA) : L2.St → Hp → XK → Prop := fun z H Q => ta z H fun vs H1 => vs.length = ps.length ∧ ((ps = [] ∧ Q (.ref C) none H1) ∨ (ps ≠ [] ∧ ∀ d fs, H1 d = none → (∀ (k : Nat) (f : PySem.Str) (v : V), ps[k]? = some f → vs[k]? = some v → fs.lookup f = some v) → Q (.ref C) (some d) (upd H1 d (.xd fs))))
section
variable {X : Cx} {T : Tb} {RX : XR} {W : WX} {G : Prog} {cl : Call} {fI C : Addr} {k : Nat} {fd : FuncData} {e : Expr} {es : List Expr} {as : Es} {p pos : Pos} {cn : PySem.Str}
theorem pass_none (tk : Takes X W) : Passes (L2.CX X.prog X.w) X (fun _ _ _ => False) := passes_call tk fun _ _ _ _ h => h.elim
theorem pmk_x1 {x : PySem.Str} (ox : OexC X.K C) (iC : PySem.W.findIn X.K (.ref C) "__init__" = some (some (.ref fI))) (tI : PySem.W.typeIn X.K (.ref fI) = some (.type "function")) (F1 : FnOk X.prog X.w X.K X.mg X.base (L2.CX X.prog X.w) k fI fd ["self", x] (spE1 C x)) (hr : Room (k + 1) X.A)
    (hb : Binds X.K fd ["self", x] []) (tk : Takes X W) (hg : Gl X cn) (hm : X.mg cn = some (.ref C)) (hdb : (cn == ("__debug__" : PySem.Str)) = false) (ha : PA X [e] (RV T RX W (evs G cl as))) (hs : isStar e = false) : PMk X (.Call (.Name cn p) [e] [] pos) (tXs T [x] C (RV T RX W (evs G cl as))) := by
  refine PMk.imp (pmk_oex (ds := []) (dvs := []) ox iC tI F1 hr hb .nil (pass_none tk) hg hm ha hdb (star_of hs) rfl) fun z H Q q => RV.mono q fun vs H1 ⟨hl, q⟩ => ?_
  rcases q with ⟨h, _⟩ | ⟨_, q⟩
  · cases h
  match vs, hl with
  | [v], _ =>
    refine ⟨by simp, fun a na => ⟨a, v, rfl, upd_same, fun d nd ne => ⟨rfl, d, [(x, v)], upd_same, (upd_ne ne).trans upd_same, ?_, ?_⟩⟩⟩
    · rw [upd_ne ne] at nd; exact nd
    · rw [upd_ne ne] at nd
      have e2 : upd (del (upd (upd (upd H1 a (exo a C none)) d (exd d [(x, v)])) a (exo a C (some d))) a) d (.xd [(x, v)]) = upd H1 d (.xd [(x, v)]) := by
        funext b
        by_cases hb : b = d
        · rw [hb, upd_same, upd_same]
        · rw [upd_ne hb, upd_ne hb]
          by_cases hba : b = a
          · rw [hba, del_same, na]
          · rw [del_ne hba, upd_ne hba, upd_ne hb, upd_ne hba]
      rw [e2]
      refine q d [(x, v)] nd fun k f u h1 h2 => ?_
      match k, h1, h2 with
      | 0, h1, h2 =>
        cases h1; cases h2
        simp [List.lookup]
      | k + 1, h1, h2 => simp at h1
end
end Tf
end
section
set_option Elab.async false
set_option linter.all false
set_option maxRecDepth 100000
namespace Tf
open PySem PySem.Spec PyProof.Rows L2
section
variable {X : Cx} {T : Tb} {xs : List Nat} {xn : Nat → List PySem.Str} {W : WX} {G : Prog} {cl : Call} {lm : List Nat} {z0 : L2.St} {w : Nat}
theorem XdOf.of {F H : Hp} {ps : List PySem.Str} {xs : List D} {us : List V} {d : Addr} {fs : List (PySem.Str × V)} (r : RDs T F xs us) (hl : us.length = ps.length) (e : H d = some (.xd fs)) (h : ∀ (k : Nat) (f : PySem.Str) (v : V), ps[k]? = some f → us[k]? = some v → fs.lookup f = some v) : XdOf T F H ps xs (some d) :=
  ⟨us, r, hl, .inr ⟨d, fs, rfl, e, h⟩⟩
theorem ss_raise {c : Nat} {call : Expr} {as : Es} {pos : Pos} (hx : c ∈ xs) (hc : X.calm = true) (tk : Takes X W) (pm : PMk X call (tXs T (xn c) (T.cA c) (RV T (RXc T xs xn) W (evs G cl as)))) (hn : ∀ (σ : Fr) (os : List O) (σ1 : Fr), evs G cl as σ = .ok os σ1 → os.length = (xn c).length) :
    SS T (RXc T xs xn) W lm z0 G cl w X (.Raise (some call) none pos) (.raise c as) := by
  refine impS (ps_raise hc tk pm) fun D z H ⟨P, F, σ, rel, kp, q⟩ => ?_
  have q : PostS T (RXc T xs xn) W lm z0 P F D ((evs G cl as σ).st fun os σ => .exc ⟨c, O.frzL os⟩ σ) := q
  -- the number of the arguments is known where they are
  refine ⟨P, F, σ, rel, ?_⟩
  revert q
  cases e : evs G cl as σ with
  | bad => exact fun q => q
  | exc x σ1 => exact fun q F' H' cls d s r k => q F' H' z cls d s r kp k
  | ok os σ1 =>
    intro q F1 H1 us s er
    obtain ⟨F2, s2, rel2, rd⟩ := er.frz
    have hl : us.length = (xn c).length := by rw [← hn σ os σ1 e, er.len]
    refine ⟨hl, ?_⟩
    by_cases hn : xn c = []
    · refine .inl ⟨hn, ?_⟩
      exact q F2 H1 z _ _ (s.trans s2) rel2 kp ⟨hx, rfl, us, rd, hl, .inl ⟨hn, rfl⟩⟩
    · refine .inr ⟨hn, fun d fs nd hf => ?_⟩
      exact q F2 _ z _ _ (s.trans s2) (rel2.grow (same_upd nd)) kp ⟨hx, rfl, us, rd, hl, .inr ⟨d, fs, rfl, upd_same, hf⟩⟩
end
end Tf
end
section
set_option Elab.async false
set_option linter.all false
set_option maxRecDepth 100000
namespace Tf
open PySem PySem.Spec PyProof.Rows L2
def RHs (T : Tb) (xs : List Nat) (xn : Nat → List PySem.Str) (x : Xv) (i : Nat) (nm : Bool) (a : Addr) (cls : Value) (d : Option Addr) (m : Fr → Option (List D)) : TA := fun z H Q =>
  ∃ P F σ ys, Rel T P F H σ z ∧ RXc T xs xn F H x cls d ∧ (nm = true → z[i]? = some (some (.ref a))) ∧ m σ = some ys ∧ ∀ F' H' us, Same F F' → Same H H' → Rel T P F' H' σ z → RDs T F' ys us → Q us H'
def HEs.len : HEs → Nat
  | .nil => 0
  | .cons _ r => HEs.len r + 1
section
variable {X : Cx} {T : Tb} {xs : List Nat} {xn : Nat → List PySem.Str} {x : Xv} {i : Nat} {nm : Bool} {a : Addr} {cls : Value} {d : Option Addr} {oe : Obj} {pn : List (Addr × Obj)}
theorem RXc.mono {F F' H H' : Hp} (h : RXc T xs xn F H x cls d) (s : Same F F') (s' : Same H H') : RXc T xs xn F' H' x cls d := by
  obtain ⟨h0, h1, vs, r, hl, h2⟩ := h
  refine ⟨h0, h1, vs, RDs.mono s r, hl, ?_⟩
  rcases h2 with h2 | ⟨dd, fs, e, e2, h2⟩
  · exact .inl h2
  · exact .inr ⟨dd, fs, e, s' _ _ e2, h2⟩
theorem RXc.upd {F H : Hp} {p : Addr} {us : List V} {o : HO} (h : RXc T xs xn F H x cls d) (e : H p = some (.lst us)) : RXc T xs xn F (L2.upd H p o) x cls d := by
  obtain ⟨h0, h1, vs, r, hl, h2⟩ := h
  refine ⟨h0, h1, vs, r, hl, ?_⟩
  rcases h2 with h2 | ⟨dd, fs, e1, e2, h2⟩
  · exact .inl h2
  · refine .inr ⟨dd, fs, e1, ?_, h2⟩
    rw [upd_ne (fun k => by rw [k, e] at e2; cases e2)]
    exact e2
end
end Tf
end
section
set_option Elab.async false
set_option linter.all false
set_option maxRecDepth 100000
namespace Tf
open PySem PySem.Spec PyProof.Rows L2
def RSh (T : Tb) (xs : List Nat) (xn : Nat → List PySem.Str) (lm : List Nat) (z0 : L2.St) (x : Xv) (i : Nat) (nm : Bool) (a : Addr) (cls : Value) (d : Option Addr) (m : Fr → RS) : TS := fun D z H =>
  ∃ P F σ, Rel T P F H σ z ∧ Keep lm z0 z ∧ RXc T xs xn F H x cls d ∧ (nm = true → z[i]? = some (some (.ref a))) ∧ PostS T (RXc T xs xn) (fun _ _ _ _ => False) lm z0 P F D (m σ)
def H.calm : H → Bool
  | .ret _ => true
  | .never => true
  | .nxt => true
  | .ifr _ _ h => h.calm
  | .asg _ _ h => h.calm
  | .app _ _ h => h.calm
  | .rais _ _ => false
  | .reto _ => true
inductive HdsR (X : Cx) (T : Tb) (xs : List Nat) (xn : Nat → List PySem.Str) (lm : List Nat) (z0 : L2.St) : List ExceptHandler → Hs → Prop
  | nil : HdsR X T xs xn lm z0 [] .nil
  | as {c i : Nat} {x n : PySem.Str} {np p' : Pos} {s0 : Stmt} {suite : List Stmt} {he : H} {hds : List ExceptHandler} {r : Hs} (hc : c ∈ xs) (hn : Names X x (.ref (T.cA c))) (hN : X.N[i]? = some n) (hl : X.env.kindOf n = some .local) (hi : i ∉ lm) (hk : he.calm = true)
      (h : ∀ (v : Xv) (a : Addr) (oe : Obj) (cls : Value) (d : Option Addr) (pn : List (Addr × Obj)), v.c = c → Zc cls d oe → (∃ vs, oe.data = .fields vs) → PSs (X.suite a ((a, oe) :: pn)) (s0 :: suite) (RSh T xs xn lm z0 v i true a cls d (exH v i he)))
      (hr : HdsR X T xs xn lm z0 hds r) : HdsR X T xs xn lm z0 (.ExceptHandler (some (.Name x np)) (some n) (s0 :: suite) p' :: hds) (.cons c i he r)
  | no {c i : Nat} {x : PySem.Str} {np p' : Pos} {s0 : Stmt} {suite : List Stmt} {he : H} {hds : List ExceptHandler} {r : Hs} (hc : c ∈ xs) (hn : Names X x (.ref (T.cA c))) (hN : X.N.length ≤ i) (hi : i ∉ lm) (hk : he.calm = true)
      (h : ∀ (v : Xv) (a : Addr) (oe : Obj) (cls : Value) (d : Option Addr) (pn : List (Addr × Obj)), v.c = c → Zc cls d oe → (∃ vs, oe.data = .fields vs) → PSs (X.suite a ((a, oe) :: pn)) (s0 :: suite) (RSh T xs xn lm z0 v i false a cls d (exH v i he)))
      (hr : HdsR X T xs xn lm z0 hds r) : HdsR X T xs xn lm z0 (.ExceptHandler (some (.Name x np)) none (s0 :: suite) p' :: hds) (.cons c i he r)
def ExmOk (K : PySem.W.Frag) (T : Tb) (xs : List Nat) : Prop := ∀ c c' : Nat, c ∈ xs → c' ∈ xs → PySem.W.exmOne K (.ref (T.cA c)) (.ref (T.cA c')) = some (decide (c = c'))
end Tf
end
section
set_option Elab.async false
set_option linter.all false
set_option maxRecDepth 100000
namespace Tf
open PySem PySem.Spec PyProof.Rows L2
end Tf
end
section
set_option Elab.async false
set_option linter.all false
set_option maxRecDepth 100000
namespace Tf
open PySem PySem.Spec PyProof.Rows L2
end Tf
end
section
set_option Elab.async false
set_option linter.all false
set_option maxRecDepth 100000
namespace Tf
open PySem PySem.Spec PyProof.Rows L2
theorem tyB_ok {K : PySem.W.Frag} {C : Addr} (h : tyB K C = true) : TyC K C := by
  obtain ⟨h1, h⟩ := He.ba h
  obtain ⟨h2, h⟩ := He.ba h
  obtain ⟨h3, h⟩ := He.ba h
  obtain ⟨h4, h⟩ := He.ba h
  obtain ⟨h6, h5⟩ := He.ba h
  exact ⟨He.eqO_ok h1, He.eqO_ok h2, of_decide_eq_true h3, of_decide_eq_true h4, He.eqO_ok h5, of_decide_eq_true h6⟩
theorem rep_of {T : Tb} {x : D} (h : DVal T x) (t : Value) (e : tyD T x = some t) : ∃ r, r ∈ reps T.nc ∧ tyD T r = some t ∧ ∀ c, isinD r c = isinD x c := by
  cases x with
  | non => exact ⟨.non, by simp [reps], e, fun c => rfl⟩
  | bl b => exact ⟨.bl true, by simp [reps], e, fun c => by cases c <;> rfl⟩
  | int b => exact ⟨.int 0, by simp [reps], e, fun c => by cases c <;> rfl⟩
  | str b => exact ⟨.str "", by simp [reps], e, fun c => by cases c <;> rfl⟩
  | tup b => exact ⟨.tup [], by simp [reps], e, fun c => by cases c <;> rfl⟩
  | lst b => exact ⟨.lst [], by simp [reps], e, fun c => by cases c <;> rfl⟩
  | scr b => exact ⟨.scr [], by simp [reps], e, fun c => by cases c <;> rfl⟩
  | ins c fs =>
    have hc : c < T.nc := h
    refine ⟨.ins c [], ?_, e, fun k => by cases k <;> rfl⟩
    unfold reps
    exact List.mem_append_right _ (List.mem_map.mpr ⟨c, List.mem_range.mpr hc, rfl⟩)
  | _ => cases e
theorem kitB_ok {K : PySem.W.Frag} {T : Tb} {c : Cs} (h : kitB K T c = true) (hty : ∀ k, k < T.nc → TyC K (T.cA k)) : IsOk K T c := by
  refine ⟨hty, fun x t b hv et eb => ?_⟩
  obtain ⟨r, hr, er, ei⟩ := rep_of hv t et
  have q := List.all_eq_true.mp h r hr
  rw [← ei c] at eb
  rw [er, eb] at q
  exact of_decide_eq_true q
theorem nfB_ok {K : PySem.W.Frag} {T : Tb} {C : Addr} (h : nfB K T C = true) (y : D) (t : Value) (hv : DVal T y) (e : tyD T y = some t) : PySem.W.notFirst K C t = true := by
  obtain ⟨r, hr, er, _⟩ := rep_of hv t e
  have q := List.all_eq_true.mp h r hr
  rw [er] at q
  exact q
theorem fnV_ok {K : PySem.W.Frag} {d : Fd} {a : Addr} (e : fnV K a = d.val []) (c : codeB K a d.qual = true) :
    ∃ oc od osl kV doc pm an cdv ct, K.lookup a = some ⟨oc, od, .func (PySem.W.fnOf d.name d.qual (defArgs d.st) (defBody d.st) (defScope d.st) .none kV doc pm an cdv ct), osl⟩ ∧ PySem.W.codeIn K cdv d.qual = true := by
  unfold codeB at c
  unfold fnV at e
  cases q : K.lookup a with
  | none =>
    rw [q] at c
    cases c
  | some o =>
    obtain ⟨oc, od, dt, osl⟩ := o
    rw [q] at c e
    cases dt with
    | func fd =>
      obtain ⟨n1, n2, n3, n4, n5, n6, n7, n8, n9, n10, n11, n12, n13, n14, n15⟩ := fd
      have e2 : (some (n1, n2, n3, n4, n5, n6, n7.map (·.1), n8, n15) : FnV) = some (d.name, d.qual, defArgs d.st, .stmts (defBody d.st), defScope d.st, mainGlobals, [], .none, builtinsNs) := e
      simp only [Option.some.injEq, Prod.mk.injEq] at e2
      obtain ⟨h1, h2, h3, h4, h5, h6, h7, h8, h9⟩ := e2
      have h7' : n7 = [] := List.map_eq_nil_iff.mp h7
      subst h1 h2 h3 h4 h5 h6 h7' h8 h9
      exact ⟨oc, od, osl, n9, n10, n11, n12, n13, n14, rfl, c⟩
    | _ => cases c
theorem oexB_ok {K : PySem.W.Frag} {C : Addr} (h : oexB K C = true) : OexC K C := by
  obtain ⟨h0, h⟩ := He.ba h
  obtain ⟨h1, h⟩ := He.ba h
  obtain ⟨h2, h⟩ := He.ba h
  obtain ⟨h3, h4⟩ := He.ba h
  refine ⟨?_, He.eqO_ok h1, of_decide_eq_true h2, of_decide_eq_true h3, h4⟩
  split at h0
  · rename_i dd cd sl e
    split at h0
    · rename_i C' bm k0 k1 k2 k3 n k5 e1 e2
      obtain ⟨nm, bs, mro, ns, qn, hd, sn, sub, ab, col, del⟩ := cd
      dsimp only at e1
      have h0' : (decide (C' = C) && (decide (n = "ValueError.__new__") && (!del && (hd && PySem.HandSPX.refsVE bm)))) = true := h0
      obtain ⟨g1, w1⟩ := He.ba h0'
      obtain ⟨g2, w2⟩ := He.ba w1
      obtain ⟨g3, w3⟩ := He.ba w2
      obtain ⟨g4, g5⟩ := He.ba w3
      have eC := of_decide_eq_true g1
      have en := of_decide_eq_true g2
      subst eC en e1
      have hdel : del = false := by simpa using g3
      subst hdel g4
      have hsl : sl = #[k0, k1, k2, k3, some (.builtin "ValueError.__new__"), k5] := by
        obtain ⟨l⟩ := sl
        simp only at e2
        rw [e2]
      subst hsl
      exact ⟨nm, qn, ns, bs, bm, sn, sub, ab, col, dd, k0, k1, k2, k3, k5, e, g5⟩
    · cases h0
  · cases h0
structure XcF (P : Program) (K : PySem.W.Frag) (C a : Addr) (d : Fd) (fs : List PySem.Str) : Prop where
  ex : ∃ fd, ExcI P K C a d.qual (defArgs d.st) (defBody d.st) (defScope d.st) fd
  xf : XfC K C
  no : ∀ f, f ∈ fs → PySem.W.findIn K (.ref C) f = some none
theorem xcB_ok {P : Program} {K : PySem.W.Frag} {C a : Addr} {d : Fd} {fs : List PySem.Str} (hn : d.name = "__init__") (e : fnV K a = d.val ["__class__"]) (h : xcB P K C a d.qual fs = true) (nsup : PySem.W.nsIn K mainGlobals "super" = some none) (stat : PySem.W.nsIn K cStatics "thirdparty.any" = some none)
    (top : (P.main.scope.names.lookup ("super" : PySem.Str)).isSome = false) : XcF P K C a d fs := by
  obtain ⟨h1, h⟩ := He.ba h
  obtain ⟨h2, h⟩ := He.ba h
  obtain ⟨h3, h⟩ := He.ba h
  obtain ⟨h4, h⟩ := He.ba h
  obtain ⟨h5, h⟩ := He.ba h
  obtain ⟨h6, h⟩ := He.ba h
  obtain ⟨h7, h⟩ := He.ba h
  obtain ⟨h8, h⟩ := He.ba h
  obtain ⟨h9, h⟩ := He.ba h
  obtain ⟨h10, h11⟩ := He.ba h
  refine ⟨?_, xfB_ok h2, fun f hf => He.eqO_ok (List.all_eq_true.mp h11 f hf)⟩
  unfold codeB at h5
  unfold fnV at e
  unfold cellB cellAt at h6
  unfold fileB codeAt at h7
  cases q : K.lookup a with
  | none =>
    rw [q] at h5
    cases h5
  | some o =>
    obtain ⟨oc, od, dt, osl⟩ := o
    rw [q] at h5 e h6 h7
    cases dt with
    | func fd =>
      obtain ⟨n1, n2, n3, n4, n5, n6, n7, n8, n9, n10, n11, n12, n13, n14, n15⟩ := fd
      have e2 : (some (n1, n2, n3, n4, n5, n6, n7.map (·.1), n8, n15) : FnV) = some (d.name, d.qual, defArgs d.st, FuncBody.stmts (defBody d.st), defScope d.st, mainGlobals, [("__class__" : PySem.Str)], Value.none, builtinsNs) := e
      simp only [Option.some.injEq, Prod.mk.injEq] at e2
      obtain ⟨g1, g2, g3, g4, g5, g6, g7, g8, g9⟩ := e2
      match n7, g7 with
      | [(y, cc)], g7 =>
        have ey : y = "__class__" := by simpa using g7
        subst g1 g2 g3 g4 g5 g6 ey g8 g9
        dsimp only at h6 h7 h5
        cases n13 with
        | ref cda =>
          dsimp only at h6 h7
          cases q2 : K.lookup cc with
          | none => rw [q2] at h6; cases h6
          | some oc2 =>
            obtain ⟨cl, cld, cdt, csl⟩ := oc2
            rw [q2] at h6
            cases cdt with
            | cell v =>
              cases v with
              | none => cases h6
              | some v =>
                cases v with
                | ref D =>
                  have eD : D = C := of_decide_eq_true h6
                  subst eD
                  cases q3 : K.lookup cda with
                  | none => rw [q3] at h7; cases h7
                  | some oc3 =>
                    obtain ⟨ccl, cdd, cdt3, ccs⟩ := oc3
                    rw [q3] at h7
                    cases cdt3 with
                    | fields vs =>
                      have h7' : (match (vs[2]? : Option Value) with | some (.str file _) => (P.main.file : PySem.Str) == file | _ => false) = true := h7
                      split at h7'
                      · rename_i file tf ev
                        refine ⟨⟨d.name, d.qual, defArgs d.st, FuncBody.stmts (defBody d.st), defScope d.st, mainGlobals, [("__class__", cc)], Value.none, n9, n10, n11, n12, Value.ref cda, n14, builtinsNs⟩, oexB_ok h1, He.eqO_ok h3, of_decide_eq_true h4, ?_, He.eqO_ok h8, of_decide_eq_true h9, of_decide_eq_true h10, nsup, stat, top⟩
                        refine ⟨oc, od, n9, n10, n11, n12, cda, n14, cc, osl, cl, cld, csl, ccl, cdd, vs, ccs, file, tf, ?_, q, h5, q2, q3, ev, h7'⟩
                        rw [hn]
                      · cases h7'
                    | _ => cases h7
                | _ => cases h6
            | _ => cases h6
        | _ => exact absurd (show false = true from h5) (by decide)
    | _ => cases h5
end Tf
end
section
set_option Elab.async false
set_option linter.all false
set_option maxRecDepth 100000
namespace Tf
open PySem PySem.Spec PyProof.Rows L2
section
variable {T : Tb} {RX : XR} {G : Prog}
theorem RSl.cut {F H : Hp} : ∀ (k : Nat) {ss : List Sl} {vs : List V} {B : List Addr}, RSl T F H (ss.map some) (vs.map some) B → ∃ B1 B2, B = B1 ++ B2 ∧ RSl T F H ((ss.take k).map some) ((vs.take k).map some) B1 ∧ RSl T F H ((ss.drop k).map some) ((vs.drop k).map some) B2
  | 0, ss, vs, B, h => ⟨[], B, rfl, ⟨rfl, rfl⟩, h⟩
  | k + 1, [], vs, B, h => by
    obtain ⟨e, eB⟩ := h
    have ev : vs = [] := List.map_eq_nil_iff.mp e
    subst ev eB
    exact ⟨[], [], rfl, ⟨rfl, rfl⟩, ⟨rfl, rfl⟩⟩
  | k + 1, s :: ss, vs, B, h => by
    obtain ⟨x, r, A1, A2, e, eB, h1, h2⟩ := RSl.cons_iff.mp h
    cases vs with
    | nil => cases e
    | cons v vs =>
      rw [List.map_cons] at e
      injection e with e1 e2
      subst e1 e2 eB
      obtain ⟨B1, B2, eA, g1, g2⟩ := RSl.cut k h2
      subst eA
      exact ⟨A1 ++ B1, B2, by rw [List.append_assoc], RSl.cons_iff.mpr ⟨_, _, A1, B1, rfl, rfl, h1, g1⟩, g2⟩
theorem PostC.later {P F F' : Hp} {lv : List V} {Q : VK} {E : XK} (s : Same F F') : ∀ {r : CR}, PostC T RX P F lv Q E r → PostC T RX P F' lv Q E r
  | .ret v ls, h => fun F1 H1 u s1 k => h F1 H1 u (s.trans s1) k
  | .exc x ls, h => fun F1 H1 c d s1 k => h F1 H1 c d (s.trans s1) k
  | .bad, h => h
end
end Tf
end
section
set_option Elab.async false
set_option linter.all false
set_option maxRecDepth 100000
namespace Tf
open PySem PySem.Spec PyProof.Rows L2
def FnRK (P : Program) (w : World) (K : PySem.W.Frag) (mg : PySem.Str → Option Value) (base : Heap) (CX : CXT) (k : Nat) (f : Addr) (ks : List PySem.Str) (sp : Sp) : Prop :=
  ∀ (A : Around) (outer : List Env) (s : Shared) (H : Hp) (us ws : List Value) (vs zs : List V) (Q : VK) (E : XK), Room k A → Env0 P w K mg base A outer s H → ws.length = ks.length → Vals vs us → Vals zs ws → sp (vs ++ zs) H Q E →
    codeAny (model P w) A (.call (.ref f) ⟨us, ks.zip ws⟩) (L2.CR CX outer P w H s Q E) s
def dV : D → V
  | .int i => .int i
  | _ => .non
def plain : D → Bool
  | .int _ => true
  | .non => true
  | _ => false
end Tf
end
section
set_option Elab.async false
set_option linter.all false
set_option maxRecDepth 100000
set_option maxHeartbeats 1000000
namespace Tf
open PySem PySem.Spec PyProof.Rows L2 GenW
def IsNs (C : Addr) (o : Obj) : Prop := (∃ m, ∀ h : Heap, h.get? C = some o → h.Ns C m) ∧ ∀ v, o.data ≠ .cell v
structure Slp (S C : Addr) (v : Value) (s t : Shared) : Prop where
  os : t.os = s.os
  bare : AllBare t.gens
  keep : ∀ b o, b ≠ S → b ≠ C → s.heap.get? b = some o → t.heap.get? b = some o
  own : ∀ acc c, s.heap.get? S = some (lstObj acc c) → ∃ c', t.heap.get? S = some (lstObj (acc.push v) c')
  ns : ∃ o, t.heap.get? C = some o ∧ IsNs C o
def Yng (X : Cx) (b : Addr) : Prop := X.s_0.heap.objs.size ≤ b ∧ b ≠ X.env.locals ∧ ∀ x c, X.env.cells.lookup x = some c → c ≠ b
def GJ (X : Cx) (S C : Addr) (ip : List (Addr × Obj)) (ys : List V) (z : L2.St) (H : Hp) (s : Shared) : Prop :=
  ∃ (acc : Array Value) (c : Nat) (o : Obj), Vals ys acc.toList ∧ IsNs C o ∧ Inv X ((S, lstObj acc c) :: (C, o) :: ip) z H s
section
variable {X : Cx} {S C : Addr} {ip : List (Addr × Obj)} {ys : List V} {z : L2.St} {H : Hp} {s : Shared}
theorem GJ.pins (h : GJ X S C ip ys z H s) : H S = none ∧ S ≠ X.env.locals ∧ S ∉ X.fs ∧ H C = none ∧ C ≠ X.env.locals ∧ C ∉ X.fs ∧ ∃ (acc : Array Value) (c : Nat) (o : Obj), Vals ys acc.toList ∧ s.heap.get? S = some (lstObj acc c) ∧ s.heap.get? C = some o ∧ IsNs C o := by
  obtain ⟨acc, c, o, r, n, I⟩ := h
  obtain ⟨h1, h2, h3, h4, _⟩ := I.pin (S, lstObj acc c) (List.mem_append_right _ List.mem_cons_self)
  obtain ⟨k1, k2, k3, k4, _⟩ := I.pin (C, o) (List.mem_append_right _ (List.mem_cons_of_mem _ List.mem_cons_self))
  exact ⟨h2, h3, h4, k2, k3, k4, acc, c, o, r, h1, k1, n⟩
end
def GP (X : Cx) (S C : Addr) : Protocol := fun n _ v s kap =>
  ∃ ys x ip z H, n + 1 + ys.length = sizeLine ∧ L2.RelV x v ∧ GJ X S C ip ys z H s ∧ ∀ t, Slp S C v s t → kap (.send .none) t
structure GL (X : Cx) (S C : Addr) (ip : List (Addr × Obj)) (A : Around) (c : Code) (fs : List Frame) (gd : Bool → Bool) : Prop where
  pn : ∀ p ∈ X.pn ++ ip, p.1 ≠ S ∧ p.1 ≠ C
  ne : S ≠ C
  yS : Yng X S
  yC : Yng X C
  over : A.over c fs = X.A
  split : splitAtGen fs = none
  guard : fs.any Frame.guarded = false
  gd : gd false = false
abbrev TGq := (List V → L2.St → Hp → Prop) → List V → L2.St → Hp → Prop
structure GT (X : Cx) (st : Stmt) (t : TGq) : Prop where
  run : ∀ (A : Around) (S C : Addr) (ip : List (Addr × Obj)) (R : GenEnd) (n : Nat) (ys : List V) (s₀ : Shared) (c : Code) (fs : List Frame) (K : Flow → Sem PySem.Fin) (J : Value → Sem PySem.Fin) (gd : Bool → Bool) (lv : List Value → List Value) (s : Shared) (z : L2.St) (H : Hp) (D : List V → L2.St → Hp → Prop),
    GL X S C ip A c fs gd → n + ys.length = sizeLine →
    (∀ (n : Nat) (ys : List V) (s₀ s : Shared) (z : L2.St) (H : Hp), n + ys.length = sizeLine → GJ X S C ip ys z H s → D ys z H → Seg (model X.prog X.w) A R (GP X S C) n s₀ c (K .next) fs s) →
    GJ X S C ip ys z H s → t D ys z H → Seg (model X.prog X.w) A R (GP X S C) n s₀ c ((exec st X.env).wrap K J gd lv) fs s
end Tf
end
section
set_option Elab.async false
set_option linter.all false
set_option maxRecDepth 100000
set_option maxHeartbeats 1000000
namespace Tf
open PySem PySem.Spec PyProof.Rows L2 GenW
end Tf
end
section
set_option Elab.async false
set_option linter.all false
set_option maxRecDepth 100000
set_option maxHeartbeats 1000000
namespace Tf
open PySem PySem.Spec PyProof.Rows L2 GenW
def REd (P : Program) (w : World) (outer : List Env) (H : Hp) (s : Shared) (S C a : Addr) (g : Nat) (Q : List V → Hp → Prop) (E : XK) : GenEnd := fun _ _ r t =>
  ((r = .ok (.ret .none) ∨ r = .ok .next) ∧ ∃ H' ys acc c o, t.os = s.os ∧ AllBare t.gens ∧ Un (frs outer) [] H H' s.heap t.heap ∧ HOk P w H' t.heap ∧ H' S = none ∧ H' C = none ∧ t.heap.get? S = some (lstObj acc c) ∧ t.heap.get? C = some o ∧ IsNs C o ∧ Vals ys acc.toList ∧ ys.length ≤ sizeLine ∧ Q ys H') ∨
  ∃ e, r = .error e ∧ CX P w outer H s (fun cls d H' => E cls d H' ∧ H' S = none ∧ H' C = none) e t ∧ t.heap.IsGen a g ∧ ∃ o, t.heap.get? C = some o ∧ IsNs C o
def YIt (s : Shared) (S C a : Addr) (g : Nat) : Protocol := fun n _ v t kap =>
  t.os = s.os ∧ AllBare t.gens ∧ t.heap.NoLimit ∧ t.heap.IsGen a g ∧ (∃ (acc : Array Value) (c : Nat), t.heap.get? S = some (lstObj acc c) ∧ n + 1 + acc.size = sizeLine) ∧ (∃ o, t.heap.get? C = some o ∧ IsNs C o) ∧ ∀ t', Slp S C v t t' → kap (.send .none) t'
def GMd (P : Program) (w : World) (k : Nat) (outer : List Env) (H : Hp) (s : Shared) (Q : List V → Hp → Prop) (E : XK) (u : Value) (t : Shared) : Prop :=
  ∃ (a : Addr) (g : Nat) (c : Code), u = .ref a ∧ s.heap.objs.size ≤ a ∧ a < t.heap.objs.size ∧ t.heap.IsGen a g ∧ t.gens[g]? = some (.fresh c) ∧ t.os = s.os ∧ AllBare t.gens ∧ t.heap.NoLimit ∧ (∀ b o, s.heap.get? b = some o → t.heap.get? b = some o) ∧
    ∀ (A : Around) (S C : Addr) (o : Obj) (r : Shared), Room k A → A.frames = some outer → t.heap.objs.size ≤ S → t.heap.objs.size ≤ C → S ≠ C → (∀ b o, t.heap.get? b = some o → r.heap.get? b = some o) → (∃ c, r.heap.get? S = some (lstObj #[] c)) → r.heap.get? C = some o → IsNs C o → r.os = s.os → AllBare r.gens →
      Seg (model P w) A (REd P w outer H s S C a g Q E) (YIt s S C a g) sizeLine r c ((model P w).den c) [] r
structure GFd (P : Program) (w : World) (K : PySem.W.Frag) (mg : PySem.Str → Option Value) (base : Heap) (k : Nat) (f : Addr) (fd : FuncData) (ps : List PySem.Str) (sp : SpG) : Prop where
  len : ∀ vs H Q E, sp vs H Q E → vs.length = ps.length
  run : ∀ (A : Around) (outer : List Env) (s : Shared) (H : Hp) (args : Args) (us : List Value) (vs : List V) (Q : List V → Hp → Prop) (E : XK), Room k A → Env0 P w K mg base A outer s H → BindsTo s fd args (ps.zip us) → Vals vs us → sp vs H Q E →
    codeAny (model P w) A (.call (.ref f) args) (fun r t => match r with | .ok (.ret u) => GMd P w k outer H s Q E u t | _ => False) s
def GFdR (P : Program) (w : World) (K : PySem.W.Frag) (mg : PySem.Str → Option Value) (base : Heap) (k : Nat) (f : Addr) (sp : SpG) : Prop :=
  ∀ (A : Around) (outer : List Env) (s : Shared) (H : Hp) (us : List Value) (vs : List V) (Q : List V → Hp → Prop) (E : XK), Room k A → Env0 P w K mg base A outer s H → Vals vs us → sp vs H Q E →
    codeAny (model P w) A (.call (.ref f) ⟨us, []⟩) (fun r t => match r with | .ok (.ret u) => GMd P w k outer H s Q E u t | _ => False) s
theorem GFd.raw {P : Program} {w : World} {K : PySem.W.Frag} {mg : PySem.Str → Option Value} {base : Heap} {k : Nat} {f : Addr} {fd : FuncData} {ps : List PySem.Str} {sp : SpG} (F : GFd P w K mg base k f fd ps sp) (hb : Binds K fd ps []) : GFdR P w K mg base k f sp :=
  fun A outer s H us vs Q E hr e0 r h => by
    have b2 := hb s us (e0.mod.kin.keeps fun b o e => (e0.bs b o e).1) (by rw [List.append_nil, ← r.length]; exact F.len _ _ _ _ h)
    rw [List.append_nil] at b2
    exact F.run A outer s H ⟨us, []⟩ us vs Q E hr e0 b2 r h
end Tf
end
section
set_option Elab.async false
set_option linter.all false
set_option maxRecDepth 100000
namespace Tf
open PySem PySem.Spec PyProof.Rows L2
def PostG (T : Tb) (RX : XR) (P F : Hp) (lv : List V) (Q : List V → Hp → Prop) (E : XK) : CR → Prop
  | .ret (.d (.lst ds)) ls => ∀ F1 H1 us, Same F F1 → RDs T F1 ds us → ds.length ≤ lineN → (∃ B, ROs T F1 H1 ls lv B ∧ Own P F1 H1 B) → Q us H1
  | .exc x ls => ∀ F1 H1 c d, Same F F1 → (∃ B, ROs T F1 H1 ls lv B ∧ Own P F1 H1 B) → RX F1 H1 x c d → E c d H1
  | _ => False
def spG (T : Tb) (RX : XR) (cl : Call) (f : Nat) : SpG := fun vs H Q E => ∃ P F ss B, RSl T F H (ss.map some) (vs.map some) B ∧ Own P F H B ∧ PostG T RX P F (lentV ss vs) Q E (cl f ss)
end Tf
end
section
set_option Elab.async false
set_option linter.all false
set_option maxRecDepth 100000
namespace Tf
open PySem PySem.Spec PyProof.Rows L2
structure Txt (P : Program) (w : World) (K : PySem.W.Frag) (mg : PySem.Str → Option Value) (base : Heap) (N : Nm) (G : Prog) (cl : Call) (k : Nat) : Prop where
  st : N.stc G = true
  ck : N.chk P G K = true
  kin : K.In base
  mgl : base.Ns mainGlobals mg
  fn : ∀ f, f < N.fds.length → FnR P w K mg base (L2.CX P w) k (N.fA K f) (spD (N.T K) (RXc (N.T K) N.xs N.xn) cl f)
  fk : ∀ i, i < N.kws.length → FnRK P w K mg base (L2.CX P w) k (N.kA K i) (N.kn i) (spD (N.T K) (RXc (N.T K) N.xs N.xn) cl (N.fds.length + i))
  fx : ∀ f, f ∈ N.nox → FnR P w K mg base (L2N.CX P w) k (N.fA K f) (spD (N.T K) (RXc (N.T K) N.xs N.xn) cl f)
  gn : ∀ i f, N.gns[i]? = some f → GFdR P w K mg base k (N.fA K f) (spG (N.T K) (RXc (N.T K) N.xs N.xn) cl (N.fds.length + N.kws.length + i))
  refl : Refl G cl
  xc : ∀ p, p ∈ N.xcs → XcF P K (He.ga K (N.c p.1)) (p.2.1.at_.a K) p.2.1 p.2.2
theorem all_range {n : Nat} {f : Nat → Bool} (h : (List.range n).all f = true) {i : Nat} (hi : i < n) : f i = true := List.all_eq_true.mp h i (List.mem_range.mpr hi)
theorem mem_lkp {α β : Type} [BEq α] [LawfulBEq α] {k : α} {v : β} : ∀ {l : List (α × β)}, l.lookup k = some v → (k, v) ∈ l
  | [], h => by cases h
  | (j, u) :: r, h => by
    rw [List.lookup_cons] at h
    cases e : (k == j) with
    | true =>
      rw [e] at h
      cases h
      rw [eq_of_beq e]
      exact List.mem_cons_self
    | false =>
      rw [e] at h
      exact List.mem_cons_of_mem _ (mem_lkp h)
theorem lt_b {a b : Nat} (h : Nat.blt a b = true) : a < b := Nat.blt_eq.mp h
theorem getD_of {α : Type} {l : List α} {i : Nat} {x d : α} (h : l[i]? = some x) : l.getD i d = x := by
  rw [List.getD_eq_getElem?_getD, h]
  rfl
section
variable {P : Program} {w : World} {K : PySem.W.Frag} {mg : PySem.Str → Option Value} {base : Heap} {N : Nm} {G : Prog} {cl : Call} {k : Nat} (C : Txt P w K mg base N G cl k)
include C
theorem Txt.parts : ((List.range N.nc).all fun c => N.clB K c) = true ∧ ((List.range N.nc).all fun c => N.meB G K c) = true ∧ N.kiB K = true ∧ N.apB K = true ∧ (N.cn.all fun x => (He.Fa.glo x).ok K) = true ∧ (N.fds.all fun d => Nm.gfB K d) = true ∧ (N.free.all fun x => (He.Fa.free x).ok K) = true ∧
    (N.exB K && (N.gsB K && N.isB K)) = true ∧ (He.Fa.free "super").ok K = true ∧ (N.glo.all fun g => gloB K g.1 g.2) = true := by
  obtain ⟨h1, h⟩ := He.ba C.ck
  obtain ⟨h2, h⟩ := He.ba h
  obtain ⟨h3, h⟩ := He.ba h
  obtain ⟨h4, h⟩ := He.ba h
  obtain ⟨h5, h⟩ := He.ba h
  obtain ⟨h6, h⟩ := He.ba h
  obtain ⟨h7, h⟩ := He.ba h
  obtain ⟨h8, h⟩ := He.ba h
  obtain ⟨h9, h⟩ := He.ba h
  obtain ⟨h10, h⟩ := He.ba h
  obtain ⟨h11, h12⟩ := He.ba h
  exact ⟨h1, h2, h3, h4, h5, (He.ba h6).1, h7, h9, h10, h12⟩
theorem Txt.cl_ {c : Nat} (hc : c < N.nc) : Cls K (He.ga K (N.c c)) ∧ (∀ f, f ∈ N.fld → NoAttr K (He.ga K (N.c c)) f) ∧ Mk K (He.ga K (N.c c)) (He.ma K (He.ga K (N.c c)) "__init__") ∧ TyC K (He.ga K (N.c c)) ∧ nfB K (N.T K) (He.ga K (N.c c)) = true ∧ PySem.W.selfFirst K (He.ga K (N.c c)) = true ∧ (K.lookup (He.ga K (N.c c))).isSome = true ∧ raB K (He.ga K (N.c c)) = true := by
  have h := all_range C.parts.1 hc
  obtain ⟨h1, h⟩ := He.ba h
  obtain ⟨h2, h⟩ := He.ba h
  obtain ⟨h3, h⟩ := He.ba h
  obtain ⟨h4, h⟩ := He.ba h
  obtain ⟨h5, h⟩ := He.ba h
  obtain ⟨h6, h⟩ := He.ba h
  obtain ⟨h7, h8⟩ := He.ba h
  exact ⟨He.cls_ok h1, fun f hf => He.noat_ok (List.all_eq_true.mp h2 f hf), He.mkr_ok h3, tyB_ok h4, h5, h6, h7, h8⟩
theorem Txt.sts : N.mn.take 12 = dunders ∧ N.fds.length + N.kws.length + N.gns.length = G.defs.length ∧ (∀ f, f ∈ N.fld → ∀ m, m ∈ N.mn → f ≠ m) ∧ N.fld.Nodup ∧ N.xs.Nodup ∧ ∀ c, c < N.nc → ∃ D, G.clss[c]? = some D ∧ (N.fds[D.init]?).map (·.at_) = some (.met (N.c c) "__init__") ∧
    (∀ p, p ∈ D.meths → (N.fds[p.2]?).map (·.at_) = some (.met (N.c c) (N.m p.1))) ∧ ∀ p, p ∈ D.cms → (N.fds[p.2]?).map (·.at_) = some (.cm (N.c c) (N.m p.1)) := by
  obtain ⟨h1, h⟩ := He.ba C.st
  obtain ⟨h2, h⟩ := He.ba h
  obtain ⟨h3, h⟩ := He.ba h
  obtain ⟨h4, h⟩ := He.ba h
  obtain ⟨h5, h6⟩ := He.ba h
  refine ⟨of_decide_eq_true h1, of_decide_eq_true h2, fun f hf m hm => of_decide_eq_true (List.all_eq_true.mp (List.all_eq_true.mp h3 f hf) m hm), of_decide_eq_true h4, of_decide_eq_true h5, fun c hc => ?_⟩
  have q := all_range h6 hc
  cases e : G.clss[c]? with
  | none => rw [e] at q; cases q
  | some D =>
    rw [e] at q
    obtain ⟨q1, q⟩ := He.ba q
    obtain ⟨q2, q3⟩ := He.ba q
    exact ⟨D, rfl, of_decide_eq_true q1, fun p hp => of_decide_eq_true (List.all_eq_true.mp q2 p hp), fun p hp => of_decide_eq_true (List.all_eq_true.mp q3 p hp)⟩
theorem Txt.tb : TbOk K (N.T K) := ⟨fun c hc => (C.cl_ hc).1, fun c f hc hf => by
    have hf' : f < N.fld.length := hf
    have e : (N.T K).fN f = N.fld[f] := getD_of (List.getElem?_eq_getElem hf')
    rw [e]
    exact (C.cl_ hc).2.1 _ (List.getElem_mem hf'), fun f g hf hg e => by
    have hf' : f < N.fld.length := hf
    have hg' : g < N.fld.length := hg
    have e1 : (N.T K).fN f = N.fld[f] := getD_of (List.getElem?_eq_getElem hf')
    have e2 : (N.T K).fN g = N.fld[g] := getD_of (List.getElem?_eq_getElem hg')
    rw [e1, e2] at e
    exact (List.getElem_inj C.sts.2.2.2.1).mp e⟩
theorem Txt.gcls {c : Nat} {x : PySem.Str} (h : N.cn[c]? = some x) : mg x = some (.ref ((N.T K).cA c)) := by
  have e : N.c c = x := getD_of h
  show mg x = some (.ref (He.ga K (N.c c)))
  rw [e]
  exact He.glo_ok C.kin C.mgl (List.all_eq_true.mp C.parts.2.2.2.2.1 x (List.mem_of_getElem? h))
theorem Txt.gfn {f : Nat} {x : PySem.Str} (h : (N.fds[f]?).map (·.at_) = some (.glo x)) : mg x = some (.ref (N.fA K f)) ∧ PySem.W.keepIn K (.ref (N.fA K f)) = true := by
  obtain ⟨d, e, ed⟩ := Option.map_eq_some_iff.mp h
  have q := List.all_eq_true.mp C.parts.2.2.2.2.2.1 d (List.mem_of_getElem? e)
  have ea : N.fA K f = He.ga K x := by
    unfold Nm.fA
    rw [e]
    show d.at_.a K = _
    rw [ed]
    rfl
  rw [ea]
  unfold Nm.gfB at q
  rw [ed] at q
  obtain ⟨_, q⟩ := He.ba q
  obtain ⟨q1, q2⟩ := He.ba q
  exact ⟨He.glo_ok C.kin C.mgl q1, q2⟩
theorem Txt.gfree {i : Nat} {x : PySem.Str} (h : N.free[i]? = some x) : mg x = none := He.free_ok C.kin C.mgl (List.all_eq_true.mp C.parts.2.2.2.2.2.2.1 x (List.mem_of_getElem? h))
theorem Txt.gsup : mg "super" = none := He.free_ok C.kin C.mgl C.parts.2.2.2.2.2.2.2.2.1
theorem Txt.fi {f : Nat} (hf : f < N.fds.length) : PySem.W.fnIn K (N.fA K f) = true := by
  have e : N.fds[f]? = some N.fds[f] := List.getElem?_eq_getElem hf
  have q := List.all_eq_true.mp C.parts.2.2.2.2.2.1 _ (List.mem_of_getElem? e)
  obtain ⟨q, _⟩ := He.ba q
  have ea : N.fA K f = N.fds[f].at_.a K := by
    unfold Nm.fA
    rw [e]
  rw [ea]
  unfold codeB at q
  unfold PySem.W.fnIn
  cases z : K.lookup (N.fds[f].at_.a K) with
  | none => rw [z] at q; cases q
  | some o =>
    obtain ⟨c1, c2, dt, c3⟩ := o
    rw [z] at q
    cases dt <;> first | rfl | cases q
theorem Txt.meth_at {c m f : Nat} (hc : c < N.nc) (e : G.meth c m = some f) : f < N.fds.length ∧ Meth K ((N.T K).cA c) (N.m m) (N.fA K f) := by
  obtain ⟨D, eD, _, hm, _⟩ := C.sts.2.2.2.2.2 c hc
  have q := all_range C.parts.2.1 hc
  unfold Nm.meB at q
  unfold Prog.meth at e
  rw [eD] at e q
  have e' : D.meths.lookup m = some f := e
  have mem : (m, f) ∈ D.meths := mem_lkp e'
  have e2 := hm _ mem
  obtain ⟨d, e3, e4⟩ := Option.map_eq_some_iff.mp e2
  obtain ⟨q1, _⟩ := He.ba q
  have z := He.meth_ok (List.all_eq_true.mp q1 _ mem)
  have ea : N.fA K f = He.ma K (He.ga K (N.c c)) (N.m m) := by
    unfold Nm.fA
    rw [show N.fds[f]? = some d from e3]
    show d.at_.a K = _
    rw [e4]
    rfl
  refine ⟨(List.getElem?_eq_some_iff.mp (show N.fds[f]? = some d from e3)).1, ?_⟩
  rw [ea]
  exact z
theorem Txt.init_at {c : Nat} {D : ClsI} (hc : c < N.nc) (eD : G.clss[c]? = some D) : D.init < N.fds.length ∧ Mk K ((N.T K).cA c) (N.fA K D.init) := by
  obtain ⟨D', eD', h, _⟩ := C.sts.2.2.2.2.2 c hc
  rw [eD] at eD'
  cases eD'
  obtain ⟨d, e3, e4⟩ := Option.map_eq_some_iff.mp h
  have ea : N.fA K D.init = He.ma K (He.ga K (N.c c)) "__init__" := by
    unfold Nm.fA
    rw [show N.fds[D.init]? = some d from e3]
    show d.at_.a K = _
    rw [e4]
    rfl
  refine ⟨(List.getElem?_eq_some_iff.mp (show N.fds[D.init]? = some d from e3)).1, ?_⟩
  rw [ea]
  exact (C.cl_ hc).2.2.1
theorem Txt.isok : ∀ c : Cs, (∀ j, c = .own j → j < N.nc) → IsOk K (N.T K) c := fun c hc => by
  obtain ⟨h0, h⟩ := He.ba C.parts.2.2.1
  obtain ⟨h1, h⟩ := He.ba h
  obtain ⟨h2, h⟩ := He.ba h
  obtain ⟨h3, h⟩ := He.ba h
  obtain ⟨h4, h5⟩ := He.ba h
  have ty : ∀ k, k < (N.T K).nc → TyC K ((N.T K).cA k) := fun k hk => (C.cl_ hk).2.2.2.1
  cases c with
  | own j => exact kitB_ok (all_range h0 (hc j rfl)) ty
  | int => exact kitB_ok h1 ty
  | bool => exact kitB_ok h2 ty
  | str => exact kitB_ok h3 ty
  | list => exact kitB_ok h4 ty
  | tuple => exact kitB_ok h5 ty
theorem Txt.exm : ExmOk K (N.T K) N.xs := fun c c' hc hc' => of_decide_eq_true (List.all_eq_true.mp (List.all_eq_true.mp (He.ba C.parts.2.2.2.2.2.2.2.1).1 c hc) c' hc')
end
section
variable {X : Cx} {N : Nm} {G : Prog} {cl : Call} {k : Nat} (C : Txt X.prog X.w X.K X.mg X.base N G cl k)
include C
theorem Txt.F (f : Nat) (hf : f < N.fds.length) : FnD X (N.T X.K) (RXc (N.T X.K) N.xs N.xn) cl k (N.fA X.K f) f := C.fn f hf
theorem Txt.M {m : Nat} {x : PySem.Str} (h : N.mn[m]? = some x) : MethOk X (N.T X.K) (RXc (N.T X.K) N.xs N.xn) G cl k (N.fA X.K) m x where
  no := fun f hf e => by
    have hf' : f < N.fld.length := hf
    have e1 : (N.T X.K).fN f = N.fld[f] := getD_of (List.getElem?_eq_getElem hf')
    rw [e1] at e
    exact C.sts.2.2.1 _ (List.getElem_mem hf') x (List.mem_of_getElem? h) e
  at_ := fun c f hc e => by
    obtain ⟨h1, h2⟩ := C.meth_at hc e
    rw [show N.m m = x from getD_of h] at h2
    exact ⟨h2, C.F f h1⟩
theorem Txt.MK : MkOk X (N.T X.K) (RXc (N.T X.K) N.xs N.xn) G cl k (N.fA X.K) where
  at_ := fun c D hc e => by
    obtain ⟨h1, h2⟩ := C.init_at hc e
    exact ⟨h2, C.F _ h1⟩
theorem dn_at (h : N.mn.take 12 = dunders) {i : Nat} {x : PySem.Str} (hi : i < 12) (hx : dunders[i]? = some x) : N.m i = x := by
  refine getD_of ?_
  rw [← h, List.getElem?_take_of_lt hi] at hx
  exact hx
theorem Txt.bin {m : Nat} {nm : String} (hm : m < 12) (hd : dunders[m]? = some (PySem.dunder nm)) (hn : nm ∈ (["add", "sub", "mul", "and", "or"] : List String) := by decide) : OwnBin X (N.T X.K) (RXc (N.T X.K) N.xs N.xn) G cl k (N.fA X.K) m nm := fun c f hc e => by
  obtain ⟨h1, h2⟩ := C.meth_at hc e
  rw [dn_at C C.sts.1 hm hd] at h2
  exact ⟨h2.at_, h2.fn, (C.cl_ hc).2.2.2.2.2.1, C.F f h1, He.eqO_ok (List.all_eq_true.mp (C.cl_ hc).2.2.2.2.2.2.2 nm hn), fun c' hc' => nfB_ok (C.cl_ hc).2.2.2.2.1 (.ins c' []) _ hc' rfl⟩
theorem Txt.un {m : Nat} {nm : PySem.Str} (hm : m < 12) (hd : dunders[m]? = some nm) : OwnUn X (N.T X.K) (RXc (N.T X.K) N.xs N.xn) G cl k (N.fA X.K) m nm := fun c f hc e => by
  obtain ⟨h1, h2⟩ := C.meth_at hc e
  rw [dn_at C C.sts.1 hm hd] at h2
  exact ⟨h2.at_, h2.fn, C.F f h1⟩
theorem Txt.add : OwnBin X (N.T X.K) (RXc (N.T X.K) N.xs N.xn) G cl k (N.fA X.K) m_add "add" := C.bin (by decide) (by decide +kernel)
theorem Txt.sub : OwnBin X (N.T X.K) (RXc (N.T X.K) N.xs N.xn) G cl k (N.fA X.K) m_sub "sub" := C.bin (by decide) (by decide +kernel)
theorem Txt.mul : OwnBin X (N.T X.K) (RXc (N.T X.K) N.xs N.xn) G cl k (N.fA X.K) m_mul "mul" := C.bin (by decide) (by decide +kernel)
theorem Txt.neg : OwnUn X (N.T X.K) (RXc (N.T X.K) N.xs N.xn) G cl k (N.fA X.K) m_neg "__neg__" := C.un (by decide) (by decide +kernel)
theorem Txt.boo : OwnUn X (N.T X.K) (RXc (N.T X.K) N.xs N.xn) G cl k (N.fA X.K) m_bool "__bool__" := C.un (by decide) (by decide +kernel)
theorem Txt.sto : OwnUn X (N.T X.K) (RXc (N.T X.K) N.xs N.xn) G cl k (N.fA X.K) m_str "__str__" := C.un (by decide) (by decide +kernel)
theorem Txt.len : OwnUn X (N.T X.K) (RXc (N.T X.K) N.xs N.xn) G cl k (N.fA X.K) m_len "__len__" := C.un (by decide) (by decide +kernel)
theorem Txt.eq : EqOk X (N.T X.K) (RXc (N.T X.K) N.xs N.xn) G cl k (N.fA X.K) where
  at_ := fun c f hc e => by
    obtain ⟨h1, h2⟩ := C.meth_at hc e
    rw [dn_at C C.sts.1 (i := m_eq) (x := "__eq__") (by decide) (by decide +kernel)] at h2
    exact ⟨h2.at_, h2.fn, C.F f h1, fun y t hv et => nfB_ok (C.cl_ hc).2.2.2.2.1 y t hv et⟩
  neq := fun c hc => ⟨(C.cl_ hc).2.2.2.1.ne, (C.cl_ hc).2.2.2.1.hm, (C.cl_ hc).2.2.2.1.nn⟩
  refl := C.refl
  one := fun pins z F H s I sF => {
    c := fun c c' hc hc' e => by
      have q := all_range (all_range C.parts.2.2.2.1 hc) hc'
      rcases Bool.or_eq_true_iff.mp q with q | q
      · exact of_decide_eq_true q
      · exact absurd e (of_decide_eq_true q)
    f := C.tb.inj
    n := fun c hc => by
      obtain ⟨o, ho⟩ := Option.isSome_iff_exists.mp (C.cl_ hc).2.2.2.2.2.2.1
      have hn := (I.bs _ _ (C.kin _ _ ho)).2
      cases e : F ((N.T X.K).cA c) with
      | none => rfl
      | some q =>
        have z := sF _ _ e
        rw [show H ((N.T X.K).cA c) = none from hn] at z
        cases z
    x := fun c c' hc hc' e => by
      have q1 := C.exm c c hc hc
      have q2 := C.exm c c' hc hc'
      rw [← e, q1] at q2
      simpa using q2 }
end
end Tf
end
section
set_option Elab.async false
set_option linter.all false
set_option maxRecDepth 100000
namespace Tf
open PySem PySem.Spec PyProof.Rows L2
end Tf
end
section
set_option Elab.async false
set_option linter.all false
set_option maxRecDepth 100000
namespace Tf
open PySem PySem.Spec PyProof.Rows L2
def BindsX (d : Fd) (ps : List PySem.Str) : Prop := ∀ kV doc pm an cdv ct cc, ∀ us : List Value, us.length = ps.length → bindArgs (PySem.W.ksFn "__init__" d.qual (defArgs d.st) (defBody d.st) (defScope d.st) .none kV doc pm an cdv ct cc) ⟨us, []⟩ = pure (ps.zip us)
theorem ExcI.binds {P : Program} {K : PySem.W.Frag} {C a : Addr} {d : Fd} {fd : FuncData} {ps : List PySem.Str} (EI : ExcI P K C a d.qual (defArgs d.st) (defBody d.st) (defScope d.st) fd) (hb : BindsX d ps) : Binds K fd ps [] := by
  obtain ⟨oc, od, kV, doc, pm, an, cda, ct, cc, osl, cl, cld, csl, ccl, cdd, vs', ccs, file, tf, efd, _⟩ := EI.fn
  subst efd
  exact Binds.all fun us hl => hb _ _ _ _ _ _ _ us hl
section
variable {X : Cx} {N : Nm} {G : Prog} {cl : Call} {k c : Nat} {W : WX} {d : Fd} {x y cn : PySem.Str} {e e2 : Expr} {as : Es} {p pos : Pos} {p0 p1 p2 p3 p4 q1 q2 q3 q4 q5 r1 r2 r3 r4 r5 : Pos}
theorem Txt.mk1 (C : Txt X.prog X.w X.K X.mg X.base N G cl k) (hp : N.xcs.lookup c = some (d, [x])) (hn : N.cn[c]? = some cn) (hr : Room (k + 2) X.A) (tk : Takes X W) (hg : Gl X cn) (ha : PA X [e] (RV (N.T X.K) (RXc (N.T X.K) N.xs N.xn) W (evs G cl as)))
    (hbody : defBody d.st = [.Expr (.Call (.Attribute (.Call (.Name "super" p0) [] [] p1) "__init__" p2) [.Name x q1] [] p3) p4, .Assign [.Attribute (.Name "self" q2) x q3] (.Name x q4) q5] := by rfl)
    (S : ScopeX ["self", x] ["self", x] (defScope d.st) := by exact ⟨rfl, rfl, rfl, by decide +kernel, by decide +kernel, by decide +kernel, by decide +kernel, rfl, rfl⟩)
    (hself : ∃ ar, ((defArgs d.st).posonlyargs ++ (defArgs d.st).args).head? = some ar ∧ ar.arg = "self" := by exact ⟨_, rfl, rfl⟩) (hb : BindsX d ["self", x] := by exact fun _ _ _ _ _ _ _ us hl => match us, hl with | [_, _], _ => rfl)
    (hl : (p2.endLine == p3.line) = true := by rfl) (hd : (x == ("__debug__" : PySem.Str)) = false := by rfl) (hcd : (x == ("__classdict__" : PySem.Str)) = false := by rfl) (hdb : (cn == ("__debug__" : PySem.Str)) = false := by rfl) (hs : isStar e = false := by rfl) :
    PMk X (.Call (.Name cn p) [e] [] pos) (tXs (N.T X.K) (N.xn c) ((N.T X.K).cA c) (RV (N.T X.K) (RXc (N.T X.K) N.xs N.xn) W (evs G cl as))) := by
  have F := C.xc _ (mem_lkp hp)
  obtain ⟨fd, EI⟩ := F.ex
  have hb2 := EI.binds hb
  rw [hbody] at EI
  have en : N.xn c = [x] := by
    unfold Nm.xn
    rw [hp]
  rw [en]
  exact pmk_x1 EI.ox EI.iC EI.tI (fn_ex1 (k := k) EI S hself C.gsup hl (F.no x (by simp)) hd hcd) (hr := hr.mono (by omega)) hb2 tk hg (C.gcls hn) hdb ha hs
end
def Es.fixed : Es → Option Nat
  | .nil => some 0
  | .cons false _ r => (Es.fixed r).map (· + 1)
  | .cons true _ _ => none
theorem evs_len {G : Prog} {cl : Call} : ∀ {as : Es} {n : Nat}, as.fixed = some n → ∀ (σ : Fr) (os : List O) (σ1 : Fr), evs G cl as σ = .ok os σ1 → os.length = n
  | .nil, n, h, σ, os, σ1, e => by
    cases h
    have e' : Res.ok ([] : List O) σ = .ok os σ1 := by unfold evs at e; exact e
    cases e'
    rfl
  | .cons false a r, n, h, σ, os, σ1, e => by
    obtain ⟨m, hm, rfl⟩ := Option.map_eq_some_iff.mp (show (Es.fixed r).map (· + 1) = some n from h)
    have e' : (Tf.ev G cl .val a σ).bind (fun v σ => opt (asO v) fun o => (evs G cl r σ).map fun os => o :: os) = .ok os σ1 := by unfold evs at e; exact e
    obtain ⟨v, σ2, _, e'⟩ := Res.bind_ok e'
    obtain ⟨o, _, e'⟩ := opt_ok e'
    obtain ⟨os', σ3, e3, e'⟩ := Res.bind_ok e'
    cases e'
    rw [List.length_cons, evs_len hm _ _ _ e3]
  | .cons true a r, n, h, _, _, _, _ => by cases h
def isVal : Mode → Bool
  | .val => true
  | .lend => false
theorem evAs_val {G : Prog} {cl : Call} : ∀ {as : Es} {ms : List Mode}, ms.all isVal = true → ∀ σ, evAs G cl ms as σ = evAs G cl [] as σ
  | .nil, ms, h, σ => by unfold evAs; rfl
  | .cons true e r, ms, h, σ => by unfold evAs; rfl
  | .cons false e r, [], h, σ => rfl
  | .cons false e r, .val :: ms, h, σ => by
    have ih := fun σ => evAs_val (G := G) (cl := cl) (as := r) (ms := ms) (by simpa [List.all_cons, isVal] using h) σ
    rw [evAs, evAs]
    simp only [ih]
  | .cons false e r, .lend :: ms, h, σ => by simp [List.all_cons, isVal] at h
section
variable {X : Cx} {T : Tb} {RX : XR} {W : WX} {G : Prog} {cl : Call} {es : List Expr} {as : Es} {ms : List Mode}
theorem PArgs.val (hm : ms.all isVal = true) (h : PArgs X es (RA T RX W (evAs G cl [] as))) : PArgs X es (RA T RX W (evAs G cl ms as)) := by
  rw [show evAs G cl ms as = evAs G cl [] as from funext (evAs_val hm)]
  exact h
theorem PA.val (hm : ms.all isVal = true) (h : PA X es (RA T RX W (evAs G cl [] as))) : PA X es (RA T RX W (evAs G cl ms as)) := by
  rw [show evAs G cl ms as = evAs G cl [] as from funext (evAs_val hm)]
  exact h
end
def blkB (N : List PySem.Str) (sc scope : Scope) (own : List (PySem.Str × Nat)) : Bool := decide (scope.kind = .function) && ((scope.names.all fun y => decide (scope.names.lookup y.1 = some y.2)) && ((own.all fun p => decide (N[p.2]? = some p.1)) &&
  ((scope.names.all fun y => !decide (y.2 = .free) || (decide (sc.names.lookup y.1 = some .cell) || decide (sc.names.lookup y.1 = some .free))) && scope.names.all fun y => !(decide (y.2 = .local) || decide (y.2 = .cell)) || (decide (y.1 ∈ own.map (·.1)) || decide (y.1 ∉ N)))))
theorem blk_ok {N : List PySem.Str} {sc scope : Scope} {own : List (PySem.Str × Nat)} (h : blkB N sc scope own = true) : BlkOk N sc scope own := by
  obtain ⟨h1, h⟩ := He.ba h
  obtain ⟨h2, h⟩ := He.ba h
  obtain ⟨h3, h⟩ := He.ba h
  obtain ⟨h4, h5⟩ := He.ba h
  refine ⟨of_decide_eq_true h1, fun y hy => of_decide_eq_true (List.all_eq_true.mp h2 y hy), fun p hp => of_decide_eq_true (List.all_eq_true.mp h3 p hp), fun y hy e => ?_, fun y hy e => ?_⟩
  · have q := List.all_eq_true.mp h4 y hy
    simp only [e, decide_true, Bool.not_true, Bool.false_or, Bool.or_eq_true, decide_eq_true_eq] at q
    exact q
  · have q := List.all_eq_true.mp h5 y hy
    rcases e with e | e <;> simp only [e, decide_true, Bool.true_or, Bool.or_true, Bool.not_true, Bool.false_or, Bool.or_eq_true, decide_eq_true_eq] at q <;> exact q
theorem wipe_set {x : Option V} {i : Nat} : ∀ {vs : List Nat} {z : L2.St}, vs.contains i = true → wipe (z.set i x) vs = wipe z vs := by
  intro vs
  induction vs with
  | nil => intro z h; cases h
  | cons v vs ih =>
    intro z h
    show (wipe (z.set i x) vs).set v none = (wipe z vs).set v none
    by_cases hv : vs.contains i = true
    · rw [ih hv]
    · have e : i = v := by
        simp only [List.contains_cons, Bool.or_eq_true] at h
        rcases h with h | h
        · exact eq_of_beq h
        · exact absurd h hv
      subst e
      apply List.ext_getElem?
      intro j
      have hn : ∀ (vs : List Nat) (z : L2.St), (wipe z vs).length = z.length := fun vs z => wipe_length z vs
      by_cases hj : j = i
      · subst hj
        by_cases hl : j < z.length
        · rw [List.getElem?_set_self (by rw [hn]; simpa using hl), List.getElem?_set_self (by rw [hn]; exact hl)]
        · rw [List.getElem?_eq_none (by simp [hn]; omega), List.getElem?_eq_none (by simp [hn]; omega)]
      · rw [List.getElem?_set_ne (Ne.symm hj), List.getElem?_set_ne (Ne.symm hj)]
        have key : ∀ (vs : List Nat) (z : L2.St), (wipe (z.set i x) vs)[j]? = (wipe z vs)[j]? := by
          intro vs
          induction vs with
          | nil => intro z; exact List.getElem?_set_ne (Ne.symm hj)
          | cons v vs ih2 =>
            intro z
            show ((wipe (z.set i x) vs).set v none)[j]? = ((wipe z vs).set v none)[j]?
            rw [List.getElem?_set, List.getElem?_set, ih2 z, hn, hn, List.length_set]
        exact key vs z
theorem tgW {T : Tb} {vs : List Nat} {z : L2.St} {i : Nat} (h : vs.contains i = true) : TgR T (gName i) (fun z' => wipe z' vs = wipe z vs) (asg (.var i)) := tg_var fun z1 u e => by rw [wipe_set h, e]
theorem tgK {T : Tb} {lm : List Nat} {z0 : L2.St} {i : Nat} (h : i ∉ lm) : TgR T (gName i) (Keep lm z0) (asg (.var i)) := tg_var fun z u k => k.set h
theorem pgSeq {X : Cx} {es : List Expr} {k : Nat} {t : TGs} {n : Nat} {pos : Pos} (hc : X.calm = true) (h : PGs X es t) (hn : (assignEach es X.env).length = n) (hst : (assignEach es X.env).findIdx? (·.1) = none) : PG X (.Tuple es k pos) (gSeq X.K n t) := PG.or (pg_tup hc h hn hst) (pg_unl hc h hn hst)
end Tf
namespace Tf
open PySem PySem.Spec PyProof.Rows L2
section
variable {P : Program} {w : World} {K : PySem.W.Frag} {mg : PySem.Str → Option Value} {base : Heap} {N : Nm} {G : Prog} {cl : Call} {k : Nat} (C : Txt P w K mg base N G cl k)
include C
theorem Txt.xf {c : Nat} {p : Fd × List PySem.Str} (h : N.xcs.lookup c = some p) : XfC K ((N.T K).cA c) := (C.xc _ (mem_lkp h)).xf
theorem Txt.xno {c : Nat} {p : Fd × List PySem.Str} {f : PySem.Str} (h : N.xcs.lookup c = some p) (hf : f ∈ p.2) : PySem.W.findIn K (.ref ((N.T K).cA c)) f = some none := (C.xc _ (mem_lkp h)).no f hf
end
end Tf
end
section
set_option Elab.async false
set_option linter.all false
set_option maxRecDepth 100000
set_option maxHeartbeats 4000000
namespace Tf
open PySem PySem.Spec PyProof.Rows L2
def rfE : E → Bool
  | .cmp .eq (.fld (.var 0) i) (.fld (.var 1) j) => i == j
  | .and a b => rfE a && rfE b
  | _ => false
def rfS (c : Nat) : Ss → Bool
  | .cons (.ret (.and (.isin (.var 1) (.own k)) e)) .nil => k == c && rfE e
  | _ => false
def rfB (G : Prog) : Bool := (List.range G.clss.length).all fun c => match G.meth c m_eq with
  | some f => (match G.defs[f]? with
    | some D => decide (D.np = 2) && (decide (D.modes = [.val, .val]) && (!D.star && rfS c D.body))
    | none => true)
  | none => true
theorem fld_ev {G : Prog} {cl : Call} {x : D} {r : Fr} {i k : Nat} {v : Val} {σ' : Fr} {md : Md} (hm : md = .val ∨ md = .pk) (hk : k = 0 ∨ k = 1) (h : ev G cl md (.fld (.var k) i) (some (owned x) :: some (owned x) :: r) = .ok v σ') :
    σ' = some (owned x) :: some (owned x) :: r ∧ ∃ c fs y, x = .ins c fs ∧ fs.lookup i = some y ∧ v = .d y := by
  have g : getVar .pk k (some (owned x) :: some (owned x) :: r) = .ok (.d x) (some (owned x) :: some (owned x) :: r) := by
    rcases hk with rfl | rfl <;> rfl
  have h : (((getVar .pk k (some (owned x) :: some (owned x) :: r)).bind fun v σ => opt (fldV v i) fun v => .ok v σ).bind (fin md)) = .ok v σ' := h
  rw [g] at h
  have h : (opt (fldV (.d x) i) fun v => Res.ok v (some (owned x) :: some (owned x) :: r)).bind (fin md) = .ok v σ' := h
  cases x with
  | ins c fs =>
    cases e : fs.lookup i with
    | none =>
      have e2 : fldV (.d (.ins c fs)) i = none := by
        show (fs.lookup i).map Val.d = none
        rw [e]
        rfl
      rw [e2] at h
      cases h
    | some y =>
      have e2 : fldV (.d (.ins c fs)) i = some (.d y) := by
        show (fs.lookup i).map Val.d = some (.d y)
        rw [e]
        rfl
      rw [e2] at h
      have h : fin md (.d y) (some (owned (.ins c fs)) :: some (owned (.ins c fs)) :: r) = .ok v σ' := h
      rcases hm with rfl | rfl
      · cases h
        exact ⟨rfl, c, fs, y, rfl, e, rfl⟩
      · cases h
        exact ⟨rfl, c, fs, y, rfl, e, rfl⟩
  | _ => cases h
theorem rfE_ok {G : Prog} {cl : Call} (hr : Refl G cl) {x : D} {r : Fr} : ∀ {e : E}, rfE e = true → ∀ {md : Md} {v : Val} {σ' : Fr}, md = .val ∨ md = .pk → ev G cl md e (some (owned x) :: some (owned x) :: r) = .ok v σ' → v = .d (.bl true) ∧ σ' = some (owned x) :: some (owned x) :: r
  | .cmp .eq (.fld (.var 0) i) (.fld (.var 1) j), h, md, v, σ', hm, q => by
    have ij : i = j := eq_of_beq h
    subst ij
    obtain ⟨v1, σ1, e1, q⟩ := Res.bind_ok q
    obtain ⟨v2, σ2, e2, e1⟩ := Res.bind_ok e1
    obtain ⟨hs, c, fs, y, hx, hl, hv⟩ := fld_ev (.inl rfl) (.inl rfl) e2
    subst hs hv
    obtain ⟨x1, ex, e1⟩ := opt_ok e1
    cases ex
    obtain ⟨v3, σ3, e3, e1⟩ := Res.bind_ok e1
    obtain ⟨hs, c', fs', y', hx', hl', hv⟩ := fld_ev (.inr rfl) (.inr rfl) e3
    subst hs hv
    rw [hx] at hx'
    cases hx'
    rw [hl] at hl'
    cases hl'
    obtain ⟨b, eb, e1⟩ := opt_ok e1
    cases e1
    have eb' : eqD G cl eqN y y = some b := eb
    have hb := eqD_refl hr eqN y b eb'
    subst hb
    rcases hm with rfl | rfl
    · cases q; exact ⟨rfl, rfl⟩
    · cases q; exact ⟨rfl, rfl⟩
  | .and a b, h, md, v, σ', hm, q => by
    obtain ⟨h1, h2⟩ := Bool.and_eq_true_iff.mp h
    obtain ⟨v1, σ1, e1, q⟩ := Res.bind_ok q
    obtain ⟨ev1, es⟩ := rfE_ok hr h1 hm e1
    subst ev1 es
    exact rfE_ok hr h2 hm q
theorem rfS_inv {c : Nat} {b : Ss} (h : rfS c b = true) : ∃ e, b = .cons (.ret (.and (.isin (.var 1) (.own c)) e)) .nil ∧ rfE e = true := by
  unfold rfS at h
  split at h
  · rename_i k e
    obtain ⟨h1, h2⟩ := Bool.and_eq_true_iff.mp h
    have e1 := eq_of_beq h1
    subst e1
    exact ⟨e, rfl, h2⟩
  · cases h
theorem refl_step {G : Prog} (hG : rfB G = true) {wt n : Nat} (hr : Refl G (callD G wt n)) : Refl G (callD G wt (n + 1)) := fun c fs f b hm h => by
  have hc : c < G.clss.length := by
    unfold Prog.meth at hm
    obtain ⟨C, eC, _⟩ := Option.bind_eq_some_iff.mp hm
    exact (List.getElem?_eq_some_iff.mp eC).1
  have q := List.all_eq_true.mp hG c (List.mem_range.mpr hc)
  rw [hm] at q
  dsimp only at q
  have hr1 := ansB_some h
  unfold callD at hr1
  cases eD : G.defs[f]? with
  | none =>
    rw [eD] at hr1
    cases hr1
  | some D =>
    rw [eD] at q hr1
    obtain ⟨q1, q⟩ := Bool.and_eq_true_iff.mp q
    obtain ⟨q2, q⟩ := Bool.and_eq_true_iff.mp q
    obtain ⟨q3, q4⟩ := Bool.and_eq_true_iff.mp q
    have np := of_decide_eq_true q1
    have ms := of_decide_eq_true q2
    have st : D.star = false := by simpa using q3
    have pk : packed D [owned (.ins c fs), owned (.ins c fs)] = some [owned (.ins c fs), owned (.ins c fs)] := by
      unfold packed
      rw [st]
    dsimp only at hr1
    rw [pk] at hr1
    dsimp only at hr1
    rw [if_pos ⟨by rw [np]; rfl, by rw [ms]; rfl⟩] at hr1
    obtain ⟨np', star, modes, ns, own, body, sel_⟩ := D
    dsimp only at np ms st q4 hr1
    subst ms st np
    obtain ⟨e, eb, g2⟩ := rfS_inv q4
    subst eb
    · generalize hr' : List.replicate (ns - 2) (none : Option Sl) = rest at hr1
      have hb : ∀ v σ, ev G (callD G wt n) .val (.and (.isin (.var 1) (.own c)) e) (some (owned (.ins c fs)) :: some (owned (.ins c fs)) :: rest) = .ok v σ → v = .d (.bl true) := fun v σ hq => by
        obtain ⟨v1, σ1, e1, hq⟩ := Res.bind_ok hq
        have e1' : Res.ok (.d (.bl (c == c))) (some (owned (.ins c fs)) :: some (owned (.ins c fs)) :: rest) = .ok v1 σ1 := e1
        rw [beq_self_eq_true] at e1'
        cases e1'
        exact (rfE_ok hr g2 (.inl rfl) hq).1
      have hr2 : finish ⟨2, false, [.val, .val], ns, own, .cons (.ret (.and (.isin (.var 1) (.own c)) e)) .nil, sel_⟩ (exSs G (callD G wt n) wt (.cons (.ret (.and (.isin (.var 1) (.own c)) e)) .nil) (some (owned (.ins c fs)) :: some (owned (.ins c fs)) :: rest)) = .ret (.d (.bl b)) [] := hr1
      have ex : exSs G (callD G wt n) wt (.cons (.ret (.and (.isin (.var 1) (.own c)) e)) .nil) (some (owned (.ins c fs)) :: some (owned (.ins c fs)) :: rest) =
          (match (ev G (callD G wt n) .val (.and (.isin (.var 1) (.own c)) e) (some (owned (.ins c fs)) :: some (owned (.ins c fs)) :: rest)).st fun v σ => .ret v σ with | .next σ => .next σ | z => z) := rfl
      rw [ex] at hr2
      cases eq : ev G (callD G wt n) .val (.and (.isin (.var 1) (.own c)) e) (some (owned (.ins c fs)) :: some (owned (.ins c fs)) :: rest) with
      | ok v σ =>
        rw [eq] at hr2
        have hv := hb v σ eq
        subst hv
        have hr3 : (match retV own (.d (.bl true)), lentsOf σ [.val, .val] with | some v, some ls => CR.ret v ls | _, _ => .bad) = .ret (.d (.bl b)) [] := hr2
        have rv : retV own (.d (.bl true)) = some (.d (.bl true)) := by cases own <;> rfl
        rw [rv] at hr3
        cases el : lentsOf σ [.val, .val] with
        | none => rw [el] at hr3; cases hr3
        | some ls =>
          rw [el] at hr3
          injection hr3 with h1 h2
          injection h1 with h1
          injection h1 with h1
          exact h1.symm
      | exc x σ =>
        rw [eq] at hr2
        have hr3 : (match lentsOf σ [.val, .val] with | some ls => CR.exc x ls | none => .bad) = .ret (.d (.bl b)) [] := hr2
        split at hr3 <;> cases hr3
      | bad =>
        rw [eq] at hr2
        cases hr2
theorem refl_all {G : Prog} (hG : rfB G = true) (wt : Nat) : ∀ n : Nat, Refl G (callD G wt n)
  | 0 => fun c fs f b _ h => by cases h
  | n + 1 => refl_step hG (refl_all hG wt n)
end Tf
end
section
set_option Elab.async false
set_option linter.all false
set_option maxRecDepth 100000
namespace Tf
open PySem PySem.Spec PyProof.Rows L2
section
variable {N : Nm} {P : Program} {G : Prog} {K : PySem.W.Frag} (c : obsX N P G K = valX N)
include c
theorem say_chk : N.chk P G K = true ∧ noLst K = true := He.ba (congrArg (fun z : AlX => z.1) c)
theorem map_at {α β : Type} {l : List α} {f g : α → β} (h : l.map f = l.map g) {i : Nat} {x : α} (e : l[i]? = some x) : f x = g x := by
  have e2 : (l.map f)[i]? = (l.map g)[i]? := by rw [h]
  rw [List.getElem?_map, List.getElem?_map, e] at e2
  exact Option.some.inj e2
theorem say_fn {i : Nat} {d : Fd} (e : N.fds[i]? = some d) : fnV K (d.at_.a K) = d.val [] ∧ codeB K (d.at_.a K) d.qual = true := by
  refine ⟨map_at c (congrArg (fun z : AlX => z.2.1) c) (i := i) (by unfold Nm.all; rw [List.getElem?_append_left (List.getElem?_eq_some_iff.mp e).1]; exact e), ?_⟩
  obtain ⟨_, h⟩ := He.ba (say_chk c).1
  obtain ⟨_, h⟩ := He.ba h
  obtain ⟨_, h⟩ := He.ba h
  obtain ⟨_, h⟩ := He.ba h
  obtain ⟨_, h⟩ := He.ba h
  obtain ⟨h6, _⟩ := He.ba h
  exact (He.ba (List.all_eq_true.mp (He.ba h6).1 d (List.mem_of_getElem? e))).1
theorem say_kw {i : Nat} {q : Kw} (e : N.kws[i]? = some q) : fnV K (q.fd.at_.a K) = q.fd.val [] ∧ codeB K (q.fd.at_.a K) q.fd.qual = true ∧ ∀ m ∈ q.ms, kdB K (q.fd.at_.a K) m = true := by
  obtain ⟨_, h⟩ := He.ba (say_chk c).1
  obtain ⟨_, h⟩ := He.ba h
  obtain ⟨_, h⟩ := He.ba h
  obtain ⟨_, h⟩ := He.ba h
  obtain ⟨_, h⟩ := He.ba h
  obtain ⟨h6, _⟩ := He.ba h
  obtain ⟨g1, g2⟩ := He.ba (List.all_eq_true.mp (He.ba h6).2 q (List.mem_of_getElem? e))
  refine ⟨map_at c (congrArg (fun z : AlX => z.2.1) c) (i := N.fds.length + i) (x := q.fd) (by
    unfold Nm.all
    rw [List.getElem?_append_right (by omega), show N.fds.length + i - N.fds.length = i by omega, List.getElem?_map, e]
    rfl), (He.ba g1).1, List.all_eq_true.mp g2⟩
theorem say_xc (hn : ∀ p, p ∈ N.xcs → p.2.1.name = "__init__") (top : (P.main.scope.names.lookup ("super" : PySem.Str)).isSome = false) (p : Nat × Fd × List PySem.Str) (hp : p ∈ N.xcs) : XcF P K (He.ga K (N.c p.1)) (p.2.1.at_.a K) p.2.1 p.2.2 := by
  obtain ⟨i, hi, e⟩ := List.mem_iff_getElem.mp hp
  have e1 := map_at c (congrArg (fun z : AlX => z.2.2) c) (show N.xcs[i]? = some p by rw [List.getElem?_eq_getElem hi, e])
  obtain ⟨_, h⟩ := He.ba (say_chk c).1
  obtain ⟨_, h⟩ := He.ba h
  obtain ⟨_, h⟩ := He.ba h
  obtain ⟨_, h⟩ := He.ba h
  obtain ⟨_, h⟩ := He.ba h
  obtain ⟨_, h⟩ := He.ba h
  obtain ⟨_, h⟩ := He.ba h
  obtain ⟨h8, h⟩ := He.ba h
  obtain ⟨_, h⟩ := He.ba h
  obtain ⟨h10, h⟩ := He.ba h
  obtain ⟨h11, _⟩ := He.ba h
  exact xcB_ok (hn p hp) e1 (List.all_eq_true.mp h8 p hp) (He.eqO_ok h10) (He.eqO_ok h11) top
theorem txt_all {w : World} {mg : PySem.Str → Option Value} {base : Heap} {wt : Nat} (st : N.stc G = true) (hr : rfB G = true) (hn : ∀ p, p ∈ N.xcs → p.2.1.name = "__init__") (top : (P.main.scope.names.lookup ("super" : PySem.Str)).isSome = false) (kin : K.In base) (mgl : base.Ns mainGlobals mg)
    (step : ∀ (n : Nat), Txt P w K mg base N G (callD G wt n) (9 * n) → ∀ f, f < N.fds.length → FnR P w K mg base (L2.CX P w) (9 * n + 9) (N.fA K f) (spD (N.T K) (RXc (N.T K) N.xs N.xn) (callD G wt (n + 1)) f))
    (stepk : ∀ (n : Nat), Txt P w K mg base N G (callD G wt n) (9 * n) → ∀ i, i < N.kws.length → FnRK P w K mg base (L2.CX P w) (9 * n + 9) (N.kA K i) (N.kn i) (spD (N.T K) (RXc (N.T K) N.xs N.xn) (callD G wt (n + 1)) (N.fds.length + i)))
    (stepx : ∀ (n : Nat), Txt P w K mg base N G (callD G wt n) (9 * n) → ∀ f, f ∈ N.nox → FnR P w K mg base (L2N.CX P w) (9 * n + 9) (N.fA K f) (spD (N.T K) (RXc (N.T K) N.xs N.xn) (callD G wt (n + 1)) f))
    (stepg : ∀ (n : Nat), Txt P w K mg base N G (callD G wt n) (9 * n) → ∀ i f, N.gns[i]? = some f → GFdR P w K mg base (9 * n + 9) (N.fA K f) (spG (N.T K) (RXc (N.T K) N.xs N.xn) (callD G wt (n + 1)) (N.fds.length + N.kws.length + i))) :
    ∀ n : Nat, Txt P w K mg base N G (callD G wt n) (9 * n)
  | 0 => ⟨st, (say_chk c).1, kin, mgl, fun f hf A outer s H us vs Q E hroom e0 r ⟨P', F', ss, B, _, _, q⟩ => False.elim q, fun i hi A outer s H us ws vs zs Q E hroom e0 l1 r1 r2 ⟨P', F', ss, B, _, _, q⟩ => False.elim q, fun f hf A outer s H us vs Q E hroom e0 r ⟨P', F', ss, B, _, _, q⟩ => False.elim q, fun i f hf A outer s H us vs Q E hroom e0 r ⟨P', F', ss, B, _, _, q⟩ => False.elim q, refl_all hr wt 0, say_xc c hn top⟩
  | n + 1 => ⟨st, (say_chk c).1, kin, mgl, fun f hf => step n (txt_all st hr hn top kin mgl step stepk stepx stepg n) f hf, fun i hi => stepk n (txt_all st hr hn top kin mgl step stepk stepx stepg n) i hi, fun f hf => stepx n (txt_all st hr hn top kin mgl step stepk stepx stepg n) f hf, fun i f hf => stepg n (txt_all st hr hn top kin mgl step stepk stepx stepg n) i f hf, refl_all hr wt (n + 1), say_xc c hn top⟩
end
def spL (T : Tb) (RX : XR) (G : Prog) (n f : Nat) : Sp := fun vs H Q E => ∃ wt, spD T RX (callD G wt n) f vs H Q E
theorem fnL {P : Program} {w : World} {K : PySem.W.Frag} {mg : PySem.Str → Option Value} {base : Heap} {k : Nat} {fa : Addr} {fd : FuncData} {ps : List PySem.Str} {T : Tb} {RX : XR} {G : Prog} {n f : Nat} (h : ∀ wt, FnOk P w K mg base (L2.CX P w) k fa fd ps (spD T RX (callD G wt n) f)) :
    FnOk P w K mg base (L2.CX P w) k fa fd ps (spL T RX G n f) :=
  ⟨fun vs H Q E ⟨wt, q⟩ => (h wt).len vs H Q E q, fun A outer s H args us vs Q E hr e0 hb r ⟨wt, q⟩ => (h wt).run A outer s H args us vs Q E hr e0 hb r q⟩
theorem law_sp {T : Tb} {RX : XR} {G : Prog} {n f wt : Nat} {K : PySem.W.Frag} {H : Hp} {a : Addr} {ns : List Int} (hK : noLst K = true) (hO : Only H) (hS : SqL K H a (ns.map V.int)) (h : callD G wt n f [owned (.scr ns)] = .ret (.d (.bl true)) []) :
    spL T RX G n f [.ref a] H (fun v _ => v = .bl true) fun _ _ _ => False := by
  refine ⟨wt, fun _ => none, H, [owned (.scr ns)], [], ?_, ?_, ?_⟩
  · have key : ∃ o, H a = some (.frz o (.lst (ns.map V.int))) := by
      rcases hS with (h1 | h1) | ⟨o, its, m, h1, h2, _⟩
      · rcases hO a with z | ⟨o, xs, z⟩
        · rw [z] at h1; cases h1
        · rw [z] at h1; cases h1
      · exact h1
      · have q := List.all_eq_true.mp hK _ (mem_lkp h1)
        simp [h2] at q
    obtain ⟨o, e⟩ := key
    exact ⟨_, [], [], [], rfl, rfl, ⟨rfl, a, o, rfl, e⟩, rfl, rfl⟩
  · exact ⟨fun _ => (by simp), fun _ m => (by cases m), fun _ m => (by cases m), fun _ _ e => (by cases e), fun _ _ e => e, fun _ _ e => (by cases e)⟩
  · rw [h]
    intro F1 H1 u s ⟨o, B, C, e, r, _⟩
    cases e
    exact r.2
theorem cx_none {P : Program} {w : World} {H : Hp} {s : Shared} {e : Value} {s' : Shared} (h : L2.CX P w [] H s (fun _ _ _ => False) e s') : False := by
  obtain ⟨_, _, _, _, _, _, _, _, _, _, _, _, q⟩ := h
  exact q
def CXW (P : Program) : CXT := fun outer H s E u s' => ∃ w, L2.CX P w outer H s E u s'
theorem fnW {P : Program} {w : World} {K : PySem.W.Frag} {mg : PySem.Str → Option Value} {base : Heap} {k : Nat} {fa : Addr} {fd : FuncData} {ps : List PySem.Str} {sp : Sp} (h : FnOk P w K mg base (L2.CX P w) k fa fd ps sp) : FnOk P w K mg base (CXW P) k fa fd ps sp :=
  ⟨h.len, fun A outer s H args us vs Q E hr e0 hb r q => codeAny_mono (h.run A outer s H args us vs Q E hr e0 hb r q) fun r s' z => by
    cases r with
    | ok fl => cases fl <;> exact z
    | error e => exact ⟨w, z⟩⟩
theorem cxw_none {P : Program} {H : Hp} {s : Shared} {e : Value} {s' : Shared} (h : CXW P [] H s (fun _ _ _ => False) e s') : False := by
  obtain ⟨w, h⟩ := h
  exact cx_none h
end Tf
end
section
set_option Elab.async false
set_option linter.all false
set_option maxRecDepth 100000
set_option maxHeartbeats 400000
namespace Tf
open PySem PySem.Spec PyProof.Rows L2 L2H HotX
end Tf
end
section
set_option Elab.async false
set_option linter.all false
set_option maxRecDepth 100000
namespace Tf
open PySem PySem.Spec PyProof.Rows L2 L2H HotX
section
variable {X : Cx} {N : Nm} {G : Prog} {cl : Call} {k c : Nat} {W : WX} {d : Fd} {x cn : PySem.Str} {e : Expr} {as : Es} {p pos : Pos} {p0 p1 p2 p3 p4 q1 q2 q3 q4 q5 : Pos}
theorem RHs.mono {T : Tb} {xs : List Nat} {xn : Nat → List PySem.Str} {x : Xv} {i : Nat} {nm : Bool} {a : Addr} {cls : Value} {d : Option Addr} {m : Fr → Option (List D)} (z : L2.St) (H : Hp) (Q Q2 : List V → Hp → Prop) (h : RHs T xs xn x i nm a cls d m z H Q) (k : ∀ vs H1, Q vs H1 → Q2 vs H1) : RHs T xs xn x i nm a cls d m z H Q2 := by
  obtain ⟨P, F, σ, ys, rel, rx, hn, e, q⟩ := h
  exact ⟨P, F, σ, ys, rel, rx, hn, e, fun F' H' us s1 s2 r1 r2 => k _ _ (q F' H' us s1 s2 r1 r2)⟩
end
end Tf
end
section
set_option Elab.async false
set_option linter.all false
set_option maxRecDepth 100000
namespace Tf
open PySem PySem.Spec PyProof.Rows L2
end Tf
end
section
set_option Elab.async false
set_option linter.all false
set_option maxRecDepth 100000
namespace Tf
open PySem PySem.Spec PyProof.Rows L2
end Tf
end
section
set_option Elab.async false
set_option linter.all false
set_option maxRecDepth 100000
namespace Tf
open PySem PySem.Spec PyProof.Rows L2
end Tf
end
section
set_option Elab.async false
set_option linter.all false
set_option maxRecDepth 100000
namespace Tf
open PySem PySem.Spec PyProof.Rows L2
end Tf
end
section
set_option Elab.async false
set_option linter.all false
set_option maxRecDepth 100000
namespace Tf
open PySem PySem.Spec PyProof.Rows L2
end Tf
end
section
set_option Elab.async false
set_option linter.all false
set_option maxRecDepth 100000
set_option maxHeartbeats 1000000
namespace Tf
open PySem PySem.Spec PyProof.Rows L2 GenW
end Tf
end
section
set_option Elab.async false
set_option linter.all false
set_option maxRecDepth 100000
set_option maxHeartbeats 1000000
namespace Tf
open PySem PySem.Spec PyProof.Rows L2 GenW
abbrev TGd := L2.St → Hp → (List V → Hp → Prop) → XK → Prop
structure PGd (X : Cx) (k : Nat) (e : Expr) (tg : TGd) : Prop where
  run : ∀ (pins : List (Addr × Obj)) (s : Shared) (z : L2.St) (H : Hp) (cont : List V → Hp → Prop) (E : XK), Inv X pins z H s → tg z H cont E → wpAny (model X.prog X.w) X.A (eval e X.env)
    (fun u t => ∃ H1 sc, Inv X pins z H1 sc ∧ GMd X.prog X.w k X.stack H1 sc cont E u t) X.xe s
end Tf
end
section
set_option Elab.async false
set_option linter.all false
set_option maxRecDepth 100000
namespace Tf
open PySem PySem.Spec PyProof.Rows L2
end Tf
end
section
set_option Elab.async false
set_option linter.all false
set_option maxRecDepth 100000
namespace Tf
open PySem PySem.Spec PyProof.Rows L2 GenW
def PostY (T : Tb) (P F : Hp) (ys : List V) (Q : List V → L2.St → Hp → Prop) : Res (List D) → Prop
  | .ok ds σ => ys.length + ds.length ≤ lineN ∧ ∀ F1 H1 z1 us, Same F F1 → Rel T P F1 H1 σ z1 → RDs T F1 ds us → Q (ys ++ us) z1 H1
  | _ => False
theorem PostY.later {T : Tb} {P F F1 : Hp} {ys : List V} {Q : List V → L2.St → Hp → Prop} {r : Res (List D)} (s : Same F F1) (h : PostY T P F ys Q r) : PostY T P F1 ys Q r := by
  cases r with
  | ok ds σ => exact ⟨h.1, fun F2 H2 z2 us s2 => h.2 F2 H2 z2 us (s.trans s2)⟩
  | exc x σ => exact h
  | bad => exact h
theorem GT.imp {X : Cx} {st : Stmt} {t t' : TGq} (h : GT X st t) (k : ∀ Q ys z H, t' Q ys z H → t Q ys z H) : GT X st t' :=
  ⟨fun A S C ip R n ys s₀ c fs K J gd lv s z H D g hn kk hJ ht => h.run A S C ip R n ys s₀ c fs K J gd lv s z H D g hn kk hJ (k D ys z H ht)⟩
end Tf
end
section
set_option Elab.async false
set_option linter.all false
set_option maxRecDepth 100000
set_option maxHeartbeats 1000000
namespace Tf
open PySem PySem.Spec PyProof.Rows L2 GenW
end Tf
end
section
set_option Elab.async false
set_option linter.all false
set_option maxRecDepth 100000
namespace Tf
open PySem PySem.Spec PyProof.Rows L2 GenW
end Tf
end
section
set_option Elab.async false
set_option linter.all false
set_option maxRecDepth 100000
namespace Tf
open PySem PySem.Spec PyProof.Rows L2
end Tf
end
section
set_option Elab.async false
set_option linter.all false
set_option maxRecDepth 100000
namespace Tf
open PySem PySem.Spec PyProof.Rows L2
section
variable {T : Tb} {RX : XR} {W : WX} {X : Cx} {G : Prog} {cl : Call} {lm : List Nat} {z0 : L2.St} {w : Nat}
theorem Rel.free {P F H : Hp} {σ : Fr} {z : L2.St} {i : Nat} (h : Rel T P F H σ z) (e : σ[i]? = some none) (x : Option V) : Rel T P F H σ (z.set i x) := by
  obtain ⟨A, k⟩ := h
  exact ⟨A, k.s.free e, k.nd, k.nP, k.nF, k.pH, k.fH, k.pF⟩
end
end Tf
end
section
set_option Elab.async false
set_option linter.all false
set_option maxRecDepth 100000
namespace Tf
open PySem PySem.Spec PyProof.Rows L2
section
variable {T : Tb} {RX : XR} {W : WX} {X : Cx} {G : Prog} {cl : Call} {md : Md} {lm : List Nat} {z0 : L2.St} {w : Nat}
def AtX (H H' : Hp) (A B : List Addr) : Prop := ∀ a, a ∈ A → a ∉ B → ∀ q, H a = some q → H' a = some q
theorem cnt_in {A : List Addr} {a : Addr} (h : a ∈ A) : 1 ≤ A.count a := List.count_pos_iff.mpr h
theorem AtX.r {H H' : Hp} {A1 A2 B : List Addr} (h : AtX H H' (A1 ++ A2) B) (nd : ∀ a, (A1 ++ A2).count a ≤ 1) (hb : ∀ a, B.count a ≤ A1.count a) : AtA H H' A2 := fun a m q e => h a (List.mem_append_right _ m) (fun m' => by
  have k1 := cnt_in m
  have k2 := cnt_in m'
  have k3 := nd a
  have k4 := hb a
  rw [List.count_append] at k3
  omega) q e
theorem AtX.l {H H' : Hp} {A1 A2 B : List Addr} (h : AtX H H' (A1 ++ A2) B) (nd : ∀ a, (A1 ++ A2).count a ≤ 1) (hb : ∀ a, B.count a ≤ A2.count a) : AtA H H' A1 := fun a m q e => h a (List.mem_append_left _ m) (fun m' => by
  have k1 := cnt_in m
  have k2 := cnt_in m'
  have k3 := nd a
  have k4 := hb a
  rw [List.count_append] at k3
  omega) q e
theorem nd_r {A1 A2 : List Addr} (nd : ∀ a, (A1 ++ A2).count a ≤ 1) : ∀ a, A2.count a ≤ 1 := fun a => by
  have := nd a
  rw [List.count_append] at this
  omega
theorem AtX.r' {H H' : Hp} {A1 A2 B : List Addr} (h : AtX H H' (A1 ++ A2) B) : AtX H H' A2 B := fun a m => h a (List.mem_append_right _ m)
theorem ROs.hole {F H : Hp} : ∀ {xs : List O} {us : List V} {A : List Addr} {j : Nat} {x : O}, ROs T F H xs us A → xs[j]? = some x → ∃ u B, us[j]? = some u ∧ RO T F H x u B ∧ (∀ a, B.count a ≤ A.count a) ∧
    ∀ {F' H' : Hp} {y : O} {B' : List Addr}, Same F F' → (∀ a, A.count a ≤ 1) → AtX H H' A B → RO T F' H' y u B' → ∃ A', ROs T F' H' (xs.set j y) us A' ∧ ∀ a, A'.count a + B.count a ≤ A.count a + B'.count a
  | [], _, _, _, _, _, e => by simp at e
  | x0 :: xs, _, _, 0, x, r, e => by
    obtain ⟨v, s, A1, A2, ev, eA, r1, r2⟩ := r
    subst ev eA
    have e : x0 = x := by simpa using e
    subst e
    refine ⟨v, A1, rfl, r1, fun a => by rw [List.count_append]; omega, fun {F' H' y B'} sF nd h ry => ⟨B' ++ A2, ⟨v, s, B', A2, rfl, rfl, ry, r2.mono sF (h.r nd fun _ => Nat.le_refl _)⟩, fun a => by rw [List.count_append, List.count_append]; omega⟩⟩
  | x0 :: xs, _, _, j + 1, x, r, e => by
    obtain ⟨v, s, A1, A2, ev, eA, r1, r2⟩ := r
    subst ev eA
    obtain ⟨u, B, eu, ru, hb, hole⟩ := ROs.hole (j := j) (x := x) r2 (by simpa using e)
    refine ⟨u, B, by simpa using eu, ru, fun a => by have := hb a; rw [List.count_append]; omega, fun {F' H' y B'} sF nd h ry => ?_⟩
    obtain ⟨A', k, ct⟩ := hole sF (nd_r nd) h.r' ry
    exact ⟨A1 ++ A', ⟨v, s, A1, A', rfl, rfl, r1.mono sF (h.l nd hb), k⟩, fun a => by have := ct a; rw [List.count_append, List.count_append]; omega⟩
theorem ROf.hole (ok : ∀ f g, f < T.nf → g < T.nf → T.fN f = T.fN g → f = g) {f : Nat} (hf : f < T.nf) {F H : Hp} : ∀ {xs : List (Nat × O)} {us : List (PySem.Str × V)} {A : List Addr} {x : O}, ROf T F H xs us A → xs.lookup f = some x → ∃ u B, us.lookup (T.fN f) = some u ∧ RO T F H x u B ∧ (∀ a, B.count a ≤ A.count a) ∧
    ∀ {F' H' : Hp} {y : O} {B' : List Addr}, Same F F' → (∀ a, A.count a ≤ 1) → AtX H H' A B → RO T F' H' y u B' → ∃ A', ROf T F' H' (putN f y xs) us A' ∧ ∀ a, A'.count a + B.count a ≤ A.count a + B'.count a
  | [], _, _, _, _, e => by simp at e
  | (k0, x0) :: xs, _, _, x, r, e => by
    obtain ⟨v, s, A1, A2, hk, ev, eA, r1, r2⟩ := r
    subst ev eA
    by_cases c : k0 = f
    · subst c
      have e : x0 = x := by simpa [List.lookup_cons] using e
      subst e
      refine ⟨v, A1, by simp [List.lookup_cons], r1, fun a => by rw [List.count_append]; omega, fun {F' H' y B'} sF nd h ry => ⟨B' ++ A2, ?_, fun a => by rw [List.count_append, List.count_append]; omega⟩⟩
      have e1 : putN k0 y ((k0, x0) :: xs) = (k0, y) :: xs := by simp [putN]
      rw [e1]
      exact ⟨v, s, B', A2, hk, rfl, rfl, ry, r2.mono sF (h.r nd fun _ => Nat.le_refl _)⟩
    · have c' : ¬ T.fN f = T.fN k0 := fun q => c (ok _ _ hf hk q).symm
      have c2 : (f == k0) = false := by simpa using fun q => c (Eq.symm q)
      have c3 : (T.fN f == T.fN k0) = false := by simpa using c'
      rw [List.lookup_cons, c2] at e
      obtain ⟨u, B, eu, ru, hb, hole⟩ := ROf.hole ok hf (x := x) r2 e
      refine ⟨u, B, by rw [List.lookup_cons, c3]; exact eu, ru, fun a => by have := hb a; rw [List.count_append]; omega, fun {F' H' y B'} sF nd h ry => ?_⟩
      obtain ⟨A', k, ct⟩ := hole sF (nd_r nd) h.r' ry
      have e1 : putN f y ((k0, x0) :: xs) = (k0, x0) :: putN f y xs := by simp [putN, c]
      refine ⟨A1 ++ A', ?_, fun a => by have := ct a; rw [List.count_append, List.count_append]; omega⟩
      rw [e1]
      exact ⟨v, s, A1, A', hk, rfl, rfl, r1.mono sF (h.l nd hb), k⟩
theorem ROi.hole {i : Int} {F H : Hp} : ∀ {xs : List (Int × O)} {us : List (Key × V)} {A : List Addr} {x : O}, ROi T F H xs us A → xs.lookup i = some x → ∃ u B, valV us (.inl i) = some u ∧ RO T F H x u B ∧ (∀ a, B.count a ≤ A.count a) ∧
    ∀ {F' H' : Hp} {y : O} {B' : List Addr}, Same F F' → (∀ a, A.count a ≤ 1) → AtX H H' A B → RO T F' H' y u B' → ∃ A', ROi T F' H' (setPl i y xs) us A' ∧ ∀ a, A'.count a + B.count a ≤ A.count a + B'.count a
  | [], _, _, _, _, e => by simp at e
  | (k0, x0) :: xs, _, _, x, r, e => by
    obtain ⟨v, s, A1, A2, ev, eA, r1, r2⟩ := r
    subst ev eA
    by_cases c : k0 = i
    · subst c
      have e : x0 = x := by simpa [List.lookup_cons] using e
      subst e
      refine ⟨v, A1, valV_pos rfl, r1, fun a => by rw [List.count_append]; omega, fun {F' H' y B'} sF nd h ry => ⟨B' ++ A2, ?_, fun a => by rw [List.count_append, List.count_append]; omega⟩⟩
      have e1 : setPl k0 y ((k0, x0) :: xs) = (k0, y) :: xs := by simp [setPl]
      rw [e1]
      exact ⟨v, s, B', A2, rfl, rfl, ry, r2.mono sF (h.r nd fun _ => Nat.le_refl _)⟩
    · have c2 : (i == k0) = false := by simpa using fun q => c (Eq.symm q)
      rw [List.lookup_cons, c2] at e
      obtain ⟨u, B, eu, ru, hb, hole⟩ := ROi.hole (x := x) r2 e
      refine ⟨u, B, by rw [valV_neg (by simpa using c)]; exact eu, ru, fun a => by have := hb a; rw [List.count_append]; omega, fun {F' H' y B'} sF nd h ry => ?_⟩
      obtain ⟨A', k, ct⟩ := hole sF (nd_r nd) h.r' ry
      have e1 : setPl i y ((k0, x0) :: xs) = (k0, x0) :: setPl i y xs := by simp [setPl, c]
      refine ⟨A1 ++ A', ?_, fun a => by have := ct a; rw [List.count_append, List.count_append]; omega⟩
      rw [e1]
      exact ⟨v, s, A1, A', rfl, rfl, r1.mono sF (h.l nd hb), k⟩
theorem key_inj {k l : List Int} (h : k.map (Sum.inl : Int → Key) = l.map Sum.inl) : k = l := List.map_inj_right (fun _ _ e => Sum.inl.inj e) |>.mp h
theorem ROt.hole {i : List Int} {F H : Hp} : ∀ {xs : List (List Int × O)} {us : List (List Key × V)} {A : List Addr} {x : O}, ROt T F H xs us A → xs.lookup i = some x → ∃ u B, valV us (i.map Sum.inl) = some u ∧ RO T F H x u B ∧ (∀ a, B.count a ≤ A.count a) ∧
    ∀ {F' H' : Hp} {y : O} {B' : List Addr}, Same F F' → (∀ a, A.count a ≤ 1) → AtX H H' A B → RO T F' H' y u B' → ∃ A', ROt T F' H' (setPT i y xs) us A' ∧ ∀ a, A'.count a + B.count a ≤ A.count a + B'.count a
  | [], _, _, _, _, e => by simp at e
  | (k0, x0) :: xs, _, _, x, r, e => by
    obtain ⟨v, s, A1, A2, ev, eA, r1, r2⟩ := r
    subst ev eA
    by_cases c : k0 = i
    · subst c
      have e : x0 = x := by simpa [List.lookup_cons] using e
      subst e
      refine ⟨v, A1, valV_pos rfl, r1, fun a => by rw [List.count_append]; omega, fun {F' H' y B'} sF nd h ry => ⟨B' ++ A2, ?_, fun a => by rw [List.count_append, List.count_append]; omega⟩⟩
      have e1 : setPT k0 y ((k0, x0) :: xs) = (k0, y) :: xs := by simp [setPT]
      rw [e1]
      exact ⟨v, s, B', A2, rfl, rfl, ry, r2.mono sF (h.r nd fun _ => Nat.le_refl _)⟩
    · have c2 : (i == k0) = false := by simpa using fun q => c (Eq.symm q)
      rw [List.lookup_cons, c2] at e
      obtain ⟨u, B, eu, ru, hb, hole⟩ := ROt.hole (x := x) r2 e
      refine ⟨u, B, by rw [valV_neg (fun q => c (key_inj q))]; exact eu, ru, fun a => by have := hb a; rw [List.count_append]; omega, fun {F' H' y B'} sF nd h ry => ?_⟩
      obtain ⟨A', k, ct⟩ := hole sF (nd_r nd) h.r' ry
      have e1 : setPT i y ((k0, x0) :: xs) = (k0, x0) :: setPT i y xs := by simp [setPT, c]
      refine ⟨A1 ++ A', ?_, fun a => by have := ct a; rw [List.count_append, List.count_append]; omega⟩
      rw [e1]
      exact ⟨v, s, A1, A', rfl, rfl, r1.mono sF (h.l nd hb), k⟩
def Fol1 (T : Tb) (H : Hp) (v : V) (k : Ky) (u : V) : Prop := match k with
  | .fld f => ∃ p C dx gs, v = .ref p ∧ H p = some (.ins C dx gs) ∧ gs.lookup (T.fN f) = some u
  | .key (.int i) => (∃ p us j, v = .ref p ∧ H p = some (.lst us) ∧ place us.length i = some j ∧ us[j]? = some u) ∨ ∃ p ws, v = .ref p ∧ H p = some (.dK ws) ∧ valV ws (.inl i) = some u
  | .key (.tup ds) => ∃ p ws k, v = .ref p ∧ D.ints ds = some k ∧ H p = some (.dT ws) ∧ valV ws (k.map Sum.inl) = some u
  | .key _ => False
def Fol (T : Tb) (H : Hp) : V → List Ky → V → Prop
  | v, [], u => u = v
  | v, k :: ks, u => ∃ x, Fol1 T H v k x ∧ Fol T H x ks u
theorem Fol1.det {H : Hp} {v u u' : V} {k : Ky} (h : Fol1 T H v k u) (h' : Fol1 T H v k u') : u = u' := by
  cases k with
  | fld f =>
    obtain ⟨p, C, dx, gs, e1, e2, e3⟩ := h
    obtain ⟨p', C', dx', gs', e1', e2', e3'⟩ := h'
    subst e1
    cases e1'
    rw [e2] at e2'
    cases e2'
    rw [e3] at e3'
    exact Option.some.inj e3'
  | key d =>
    cases d with
    | int i =>
      rcases h with ⟨p, us, j, e1, e2, e3, e4⟩ | ⟨p, ws, e1, e2, e3⟩
      · rcases h' with ⟨p', us', j', e1', e2', e3', e4'⟩ | ⟨p', ws', e1', e2', e3'⟩
        · subst e1
          cases e1'
          rw [e2] at e2'
          cases e2'
          rw [e3] at e3'
          cases e3'
          rw [e4] at e4'
          exact Option.some.inj e4'
        · subst e1
          cases e1'
          rw [e2] at e2'
          cases e2'
      · rcases h' with ⟨p', us', j', e1', e2', e3', e4'⟩ | ⟨p', ws', e1', e2', e3'⟩
        · subst e1
          cases e1'
          rw [e2] at e2'
          cases e2'
        · subst e1
          cases e1'
          rw [e2] at e2'
          cases e2'
          rw [e3] at e3'
          exact Option.some.inj e3'
    | tup ds =>
      obtain ⟨p, ws, k, e1, e2, e3, e4⟩ := h
      obtain ⟨p', ws', k', e1', e2', e3', e4'⟩ := h'
      subst e1
      cases e1'
      rw [e2] at e2'
      cases e2'
      rw [e3] at e3'
      cases e3'
      rw [e4] at e4'
      exact Option.some.inj e4'
    | _ => exact h.elim
theorem Fol.det {H : Hp} : ∀ {ks : List Ky} {v u u' : V}, Fol T H v ks u → Fol T H v ks u' → u = u'
  | [], _, _, _, h, h' => by rw [show _ = _ from h, show _ = _ from h']
  | k :: ks, _, _, _, ⟨x, h1, h2⟩, ⟨x', h1', h2'⟩ => by
    have := h1.det h1'
    subst this
    exact h2.det h2'
theorem sub_ok (ok : ∀ f g, f < T.nf → g < T.nf → T.fN f = T.fN g → f = g) {F H : Hp} {o x : O} {v : V} {A : List Addr} {k : Ky} (r : RO T F H o v A) (hk : ∀ f, k = .fld f → f < T.nf) (e : o.sub k = some x) : ∃ u B, Fol1 T H v k u ∧ RO T F H x u B ∧ (∀ a, B.count a ≤ A.count a) ∧
    (∀ {H' : Hp}, AtA H H' A → Fol1 T H' v k u) ∧
    ∀ {F' H' : Hp} {y o' : O} {B' : List Addr}, Same F F' → (∀ a, A.count a ≤ 1) → AtX H H' A B → RO T F' H' y u B' → o.rep k y = some o' → ∃ A', RO T F' H' o' v A' ∧ ∀ a, A'.count a + B.count a ≤ A.count a + B'.count a := by
  have nb : ∀ {a : Addr} {A B : List Addr}, (∀ b, (a :: A).count b ≤ 1) → (∀ b, B.count b ≤ A.count b) → a ∉ B := fun {a A B} nd hb m => by
    have k1 := nd a
    have k2 := cnt_in m
    have k3 := hb a
    rw [List.count_cons_self] at k1
    omega
  have tl : ∀ {a : Addr} {A : List Addr}, (∀ b, (a :: A).count b ≤ 1) → ∀ b, A.count b ≤ 1 := fun {a A} nd b => by
    have := nd b
    rw [List.count_cons] at this
    omega
  cases o with
  | d d0 => cases k <;> cases e
  | ins c fs =>
    cases k with
    | fld f =>
      obtain ⟨a, dx, gs, B0, hc, ev, eA, ea, rf⟩ := r
      subst ev eA
      obtain ⟨u, B, eu, ru, hb, hole⟩ := ROf.hole ok (hk f rfl) rf e
      refine ⟨u, B, ⟨a, _, dx, gs, rfl, ea, eu⟩, ru, fun b => by have := hb b; rw [List.count_cons]; omega, fun {H'} h => ⟨a, _, dx, gs, rfl, h.head ea, eu⟩, fun {F' H' y o' B'} sF nd h ry er => ?_⟩
      cases er
      obtain ⟨A', k', ct⟩ := hole sF (tl nd) (fun b m => h b (List.mem_cons_of_mem _ m)) ry
      exact ⟨a :: A', ⟨a, dx, gs, A', hc, rfl, rfl, h a List.mem_cons_self (nb nd hb) _ ea, k'⟩, fun b => by have := ct b; rw [List.count_cons, List.count_cons]; omega⟩
    | key d => cases d <;> cases e
  | lst xs =>
    cases k with
    | fld f => cases e
    | key d =>
      cases d with
      | int i =>
        obtain ⟨a, us, B0, ev, eA, ea, rs⟩ := r
        subst ev eA
        obtain ⟨j, ej, ex⟩ := Option.bind_eq_some_iff.mp (show ((place xs.length i).bind fun j => xs[j]?) = some x from e)
        obtain ⟨u, B, eu, ru, hb, hole⟩ := ROs.hole rs ex
        have ej' : place us.length i = some j := by rw [← rs.len]; exact ej
        refine ⟨u, B, .inl ⟨a, us, j, rfl, ea, ej', eu⟩, ru, fun b => by have := hb b; rw [List.count_cons]; omega, fun {H'} h => .inl ⟨a, us, j, rfl, h.head ea, ej', eu⟩, fun {F' H' y o' B'} sF nd h ry er => ?_⟩
        obtain ⟨j', ej2, er⟩ := Option.map_eq_some_iff.mp (show ((place xs.length i).map fun j => O.lst (xs.set j y)) = some o' from er)
        rw [ej] at ej2
        cases ej2
        subst er
        obtain ⟨A', k', ct⟩ := hole sF (tl nd) (fun b m => h b (List.mem_cons_of_mem _ m)) ry
        exact ⟨a :: A', ⟨a, us, A', rfl, rfl, h a List.mem_cons_self (nb nd hb) _ ea, k'⟩, fun b => by have := ct b; rw [List.count_cons, List.count_cons]; omega⟩
      | _ => cases e
  | dcI kvs =>
    cases k with
    | fld f => cases e
    | key d =>
      cases d with
      | int i =>
        obtain ⟨a, ws, B0, ev, eA, ea, rs⟩ := r
        subst ev eA
        obtain ⟨u, B, eu, ru, hb, hole⟩ := ROi.hole (i := i) rs e
        refine ⟨u, B, .inr ⟨a, ws, rfl, ea, eu⟩, ru, fun b => by have := hb b; rw [List.count_cons]; omega, fun {H'} h => .inr ⟨a, ws, rfl, h.head ea, eu⟩, fun {F' H' y o' B'} sF nd h ry er => ?_⟩
        cases er
        obtain ⟨A', k', ct⟩ := hole sF (tl nd) (fun b m => h b (List.mem_cons_of_mem _ m)) ry
        exact ⟨a :: A', ⟨a, ws, A', rfl, rfl, h a List.mem_cons_self (nb nd hb) _ ea, k'⟩, fun b => by have := ct b; rw [List.count_cons, List.count_cons]; omega⟩
      | _ => cases e
  | dcT kvs =>
    cases k with
    | fld f => cases e
    | key d =>
      cases d with
      | tup ds =>
        obtain ⟨a, ws, B0, ev, eA, ea, rs⟩ := r
        subst ev eA
        obtain ⟨k, ek, ex⟩ := Option.bind_eq_some_iff.mp (show ((D.ints ds).bind fun k => kvs.lookup k) = some x from e)
        obtain ⟨u, B, eu, ru, hb, hole⟩ := ROt.hole rs ex
        refine ⟨u, B, ⟨a, ws, k, rfl, ek, ea, eu⟩, ru, fun b => by have := hb b; rw [List.count_cons]; omega, fun {H'} h => ⟨a, ws, k, rfl, ek, h.head ea, eu⟩, fun {F' H' y o' B'} sF nd h ry er => ?_⟩
        obtain ⟨k2, ek2, er⟩ := Option.map_eq_some_iff.mp (show ((D.ints ds).map fun k => O.dcT (setPT k y kvs)) = some o' from er)
        rw [ek] at ek2
        cases ek2
        subst er
        obtain ⟨A', k', ct⟩ := hole sF (tl nd) (fun b m => h b (List.mem_cons_of_mem _ m)) ry
        exact ⟨a :: A', ⟨a, ws, A', rfl, rfl, h a List.mem_cons_self (nb nd hb) _ ea, k'⟩, fun b => by have := ct b; rw [List.count_cons, List.count_cons]; omega⟩
      | _ => cases e
def kyOk (T : Tb) (ks : List Ky) : Prop := ∀ k ∈ ks, ∀ f, k = Ky.fld f → f < T.nf
theorem subs_ok (ok : ∀ f g, f < T.nf → g < T.nf → T.fN f = T.fN g → f = g) {F H : Hp} : ∀ {ks : List Ky} {o x : O} {v : V} {A : List Addr}, RO T F H o v A → kyOk T ks → subs o ks = some x → ∃ u B, Fol T H v ks u ∧ RO T F H x u B ∧ (∀ a, B.count a ≤ A.count a) ∧ ∀ {H' : Hp}, AtA H H' A → Fol T H' v ks u
  | [], o, x, v, A, r, _, e => by
    cases e
    exact ⟨v, A, rfl, r, fun _ => Nat.le_refl _, fun _ => rfl⟩
  | k :: ks, o, x, v, A, r, hk, e => by
    obtain ⟨y, ey, e⟩ := Option.bind_eq_some_iff.mp (show ((o.sub k).bind fun x => subs x ks) = some x from e)
    obtain ⟨u, B, f1, r1, hb, st, _⟩ := sub_ok ok r (hk k List.mem_cons_self) ey
    obtain ⟨u2, B2, f2, r2, hb2, st2⟩ := subs_ok ok r1 (fun k' m => hk k' (List.mem_cons_of_mem _ m)) e
    exact ⟨u2, B2, ⟨u, f1, f2⟩, r2, fun a => Nat.le_trans (hb2 a) (hb a), fun {H'} h => ⟨u, st h, st2 fun a m => h a (mem_le hb a m)⟩⟩
end
end Tf
end
section
set_option Elab.async false
set_option linter.all false
set_option maxRecDepth 100000
namespace Tf
open PySem PySem.Spec PyProof.Rows L2
section
variable {T : Tb} {RX : XR} {W : WX} {X : Cx} {G : Prog} {cl : Call} {md : Md} {lm : List Nat} {z0 : L2.St} {w : Nat}
theorem KT.keys {H : Hp} {kvs : List (List Key × V)} {xs : List (List Key × Addr × Value)} (r : KT H kvs xs) : kvs.map (·.1) = xs.map (·.1) := by
  induction r with
  | nil => rfl
  | cons h t ih => rw [List.map_cons, List.map_cons, ih, h.1]
theorem PSet.or {t t' : TSet} (h : PSet X t) (h' : PSet X t') : PSet X (fun o i v H Q => t o i v H Q ∨ t' o i v H Q) := fun pins s σ H o i v ov iv u Q I ro ri rv q => q.elim (h pins s σ H o i v ov iv u Q I ro ri rv) (h' pins s σ H o i v ov iv u Q I ro ri rv)
def AtPl (T : Tb) (P F H : Hp) (σ : Fr) (z : L2.St) (a : Nat) (ks : List Ky) (u : V) : Prop := Rel T P F H σ z ∧ kyOk T ks ∧ ∃ (o0 : O) (l : Bool) (v0 : V) (x : O), σ[a]? = some (some (if l then .lent o0 else .own o0)) ∧ z[a]? = some (some v0) ∧ subs o0 ks = some x ∧ Fol T H v0 ks u
def RPl (T : Tb) (RX : XR) (W : WX) (a : Nat) (m : Fr → Res (List Ky)) : TE := fun z H Q => ∃ P F σ, Rel T P F H σ z ∧ PostA T RX W P z F (fun F1 H1 σ1 ks u => AtPl T P F1 H1 σ1 z a ks u) Q (m σ)
theorem RPl.mono {a : Nat} {m : Fr → Res (List Ky)} {z : L2.St} {H : Hp} {Q Q' : VK} (h : RPl T RX W a m z H Q) (k : ∀ u H, Q u H → Q' u H) : RPl T RX W a m z H Q' := by
  obtain ⟨P, F, σ, rel, q⟩ := h
  exact ⟨P, F, σ, rel, PostA.mono q fun b H => k b H⟩
theorem RPl.stL {a : Nat} {m : Fr → Res (List Ky)} {f : List Ky → Fr → RS} {z : L2.St} {H : Hp} {D : Ends} {P P' F : Hp} {σ : Fr} (rel : Rel T P' F H σ z) (kp : Keep lm z0 z) (h : PostS T RX W lm z0 P F D ((m σ).st f)) (hx : ∀ F2 H2 σ2, Same F F2 → Rel T P' F2 H2 σ2 z → Rel T P F2 H2 σ2 z) :
    RPl T RX W a m z H fun u H1 => ∃ F1 σ1 ks, Same F F1 ∧ AtPl T P' F1 H1 σ1 z a ks u ∧ PostS T RX W lm z0 P F1 D (f ks σ1) := by
  refine ⟨P', F, σ, rel, ?_⟩
  revert h
  generalize m σ = r
  intro h
  cases r with
  | ok v σ1 => exact fun F1 H1 u s k => ⟨F1, σ1, v, s, k, PostS.later s h⟩
  | exc x σ1 => exact fun F1 H1 c d s k rx => h F1 H1 z c d s (hx F1 H1 σ1 s k) kp rx
  | bad => exact h
theorem PostA.opt {α β γ : Type} {P : Hp} {z : L2.St} {F : Hp} {Rl : Hp → Hp → Fr → α → β → Prop} {Q : β → Hp → Prop} {o : Option γ} {f : γ → Res α} (h : PostA T RX W P z F Rl Q (Tf.opt o f)) : ∃ a, o = some a ∧ PostA T RX W P z F Rl Q (f a) := by
  cases o with
  | none => exact h.elim
  | some a => exact ⟨a, rfl, h⟩
theorem plOk_at {σ : Fr} {a : Nat} {ks : List Ky} {o0 x : O} {l : Bool} (e : σ[a]? = some (some (if l then .lent o0 else .own o0))) (h : plOk σ a ks = some x) : subs o0 ks = some x := by
  unfold plOk rootO lentAt Fr.get at h
  rw [e] at h
  cases l <;> exact h
theorem AtPl.thing {P F H : Hp} {σ : Fr} {z : L2.St} {a : Nat} {ks : List Ky} {u : V} (ok : ∀ f g, f < T.nf → g < T.nf → T.fN f = T.fN g → f = g) (h : AtPl T P F H σ z a ks u) : ∃ (o0 : O) (l : Bool) (v0 : V) (x : O) (Ai B : List Addr), σ[a]? = some (some (if l then .lent o0 else .own o0)) ∧ z[a]? = some (some v0) ∧ subs o0 ks = some x ∧ Fol T H v0 ks u ∧ RO T F H o0 v0 Ai ∧ Own P F H Ai ∧ RO T F H x u B ∧ (∀ b, B.count b ≤ Ai.count b) ∧ ∀ {H' : Hp}, AtA H H' Ai → Fol T H' v0 ks u := by
  obtain ⟨rel, hk, o0, l, v0, x, e1, e2, e3, fo⟩ := h
  obtain ⟨v, Ai, ez, ro, oA, _⟩ := lend_at rel e1
  rw [e2] at ez
  cases ez
  obtain ⟨u', B, fo', rx, hb, st⟩ := subs_ok ok ro hk e3
  have := fo.det fo'
  subst this
  exact ⟨o0, l, v0, x, Ai, B, e1, e2, e3, fo, ro, oA, rx, hb, st⟩
end
end Tf
end
section
set_option Elab.async false
set_option linter.all false
set_option maxRecDepth 100000
namespace Tf
open PySem PySem.Spec PyProof.Rows L2
section
variable {T : Tb} {RX : XR} {W : WX} {X : Cx} {G : Prog} {cl : Call} {md : Md} {lm : List Nat} {z0 : L2.St} {w : Nat}
theorem putK_same {κ : Type} [DecidableEq κ] {k : κ} {v u : V} {r : List (κ × V)} (h : k ∉ r.map (·.1)) : putK ((k, v) :: r) k u = (k, u) :: r := by
  unfold putK
  have e : ∀ p ∈ r, (if p.1 = k then (p.1, u) else p) = p := fun p m => if_neg fun e => h (List.mem_map.mpr ⟨p, m, e⟩)
  simp only [List.any_cons, decide_true, Bool.true_or, if_true, List.map_cons]
  rw [List.map_congr_left e]
  simp
theorem putK_other {κ : Type} [DecidableEq κ] {j k : κ} {v u : V} {r : List (κ × V)} (h : ¬ j = k) : putK ((j, v) :: r) k u = (j, v) :: putK r k u := by
  unfold putK
  simp only [List.any_cons, decide_eq_false h, Bool.false_or, List.map_cons, if_neg h, List.cons_append]
  split <;> rfl
theorem ROt.put {F H : Hp} {k : List Int} {o : O} {u : V} {C : List Addr} (ro : RO T F H o u C) : ∀ {kvs : List (List Int × O)} {ws : List (List Key × V)} {B : List Addr}, ROt T F H kvs ws B → (ws.map (·.1)).Nodup → ∃ B', ROt T F H (setPT k o kvs) (putK ws (k.map Sum.inl) u) B' ∧ ∀ a, B'.count a ≤ B.count a + C.count a
  | [], _, _, r, _ => by
    obtain ⟨e, eA⟩ := r
    subst e eA
    exact ⟨C, ⟨u, [], C, [], rfl, by simp, ro, rfl, rfl⟩, fun a => by simp⟩
  | (j, x) :: r, _, _, rr, nd => by
    obtain ⟨v, s, A1, A2, e, eA, r1, r2⟩ := rr
    subst e eA
    rw [List.map_cons, List.nodup_cons] at nd
    by_cases c : j = k
    · subst c
      rw [putK_same nd.1]
      have e1 : setPT j o ((j, x) :: r) = (j, o) :: r := by simp [setPT]
      rw [e1]
      exact ⟨C ++ A2, ⟨u, s, C, A2, rfl, rfl, ro, r2⟩, fun a => by rw [List.count_append, List.count_append]; omega⟩
    · rw [putK_other (fun q => c (key_inj q))]
      have e1 : setPT k o ((j, x) :: r) = (j, x) :: setPT k o r := by simp [setPT, c]
      rw [e1]
      obtain ⟨B', h, ct⟩ := ROt.put ro r2 nd.2
      exact ⟨A1 ++ B', ⟨v, _, A1, B', rfl, rfl, r1, h⟩, fun a => by have := ct a; rw [List.count_append, List.count_append]; omega⟩
theorem ROi.put {F H : Hp} {k : Int} {o : O} {u : V} {C : List Addr} (ro : RO T F H o u C) : ∀ {kvs : List (Int × O)} {ws : List (Key × V)} {B : List Addr}, ROi T F H kvs ws B → (ws.map (·.1)).Nodup → ∃ B', ROi T F H (setPl k o kvs) (putK ws (.inl k) u) B' ∧ ∀ a, B'.count a ≤ B.count a + C.count a
  | [], _, _, r, _ => by
    obtain ⟨e, eA⟩ := r
    subst e eA
    exact ⟨C, ⟨u, [], C, [], rfl, by simp, ro, rfl, rfl⟩, fun a => by simp⟩
  | (j, x) :: r, _, _, rr, nd => by
    obtain ⟨v, s, A1, A2, e, eA, r1, r2⟩ := rr
    subst e eA
    rw [List.map_cons, List.nodup_cons] at nd
    by_cases c : j = k
    · subst c
      rw [putK_same nd.1]
      have e1 : setPl j o ((j, x) :: r) = (j, o) :: r := by simp [setPl]
      rw [e1]
      exact ⟨C ++ A2, ⟨u, s, C, A2, rfl, rfl, ro, r2⟩, fun a => by rw [List.count_append, List.count_append]; omega⟩
    · rw [putK_other (fun q => c (Sum.inl.inj q))]
      have e1 : setPl k o ((j, x) :: r) = (j, x) :: setPl k o r := by simp [setPl, c]
      rw [e1]
      obtain ⟨B', h, ct⟩ := ROi.put ro r2 nd.2
      exact ⟨A1 ++ B', ⟨v, _, A1, B', rfl, rfl, r1, h⟩, fun a => by have := ct a; rw [List.count_append, List.count_append]; omega⟩
theorem ROt.len {F H : Hp} : ∀ {xs : List (List Int × O)} {vs : List (List Key × V)} {A : List Addr}, ROt T F H xs vs A → xs.length = vs.length
  | [], _, _, h => by rw [h.1]; rfl
  | (_, x) :: xs, _, _, h => by
    obtain ⟨v, r, A1, A2, e, _, _, h2⟩ := h
    rw [e, List.length_cons, List.length_cons, ROt.len h2]
theorem ROs.ext {F H : Hp} {ys : List D} {vs : List V} (r : RDs T F ys vs) : ∀ {os : List O} {us : List V} {B : List Addr}, ROs T F H os us B → ROs T F H (os ++ ys.map O.d) (us ++ vs) B
  | [], _, _, h => by
    obtain ⟨e, eA⟩ := h
    subst e eA
    exact go r
  | x :: xs, _, _, h => by
    obtain ⟨v, s, A1, A2, e, eA, r1, r2⟩ := h
    subst e eA
    exact ⟨v, s ++ vs, A1, A2, rfl, rfl, r1, ROs.ext r r2⟩
where
  go : ∀ {ys : List D} {vs : List V}, RDs T F ys vs → ROs T F H (ys.map O.d) vs []
    | [], _, r => by
      have r' : _ = [] := r
      subst r'
      exact ⟨rfl, rfl⟩
    | y :: ys, _, r => by
      obtain ⟨v, s, e, r1, r2⟩ := r
      subst e
      exact ⟨v, s, [], [], rfl, rfl, ⟨rfl, r1⟩, go r2⟩
theorem ROs.dropLast {F H : Hp} : ∀ {os : List O} {us : List V} {B : List Addr}, ROs T F H os us B → ∃ B', ROs T F H os.dropLast us.dropLast B' ∧ ∀ a, B'.count a ≤ B.count a
  | [], _, _, h => by
    obtain ⟨e, eA⟩ := h
    subst e eA
    exact ⟨[], ⟨rfl, rfl⟩, fun _ => Nat.le_refl _⟩
  | [x], _, _, h => by
    obtain ⟨v, s, A1, A2, e, eA, r1, r2⟩ := h
    subst e eA
    obtain ⟨e, eA⟩ := r2
    subst e eA
    exact ⟨[], ⟨rfl, rfl⟩, fun a => by simp⟩
  | x :: y :: xs, _, _, h => by
    obtain ⟨v, s, A1, A2, e, eA, r1, r2⟩ := h
    subst e eA
    obtain ⟨B', h', ct⟩ := ROs.dropLast r2
    have hs : s ≠ [] := by
      obtain ⟨v', s', _, _, e, _⟩ := r2
      rw [e]
      simp
    rw [List.dropLast_cons_of_ne_nil (by simp), List.dropLast_cons_of_ne_nil hs]
    exact ⟨A1 ++ B', ⟨v, _, A1, B', rfl, rfl, r1, h'⟩, fun a => by have := ct a; rw [List.count_append, List.count_append]; omega⟩
end
end Tf
end
section
set_option Elab.async false
set_option linter.all false
set_option maxRecDepth 100000
namespace Tf
open PySem PySem.Spec PyProof.Rows L2
section
variable {T : Tb} {RX : XR} {W : WX} {X : Cx} {G : Prog} {cl : Call} {md : Md} {lm : List Nat} {z0 : L2.St} {w : Nat}
theorem AtPl.lst {P F H : Hp} {σ : Fr} {z : L2.St} {a : Nat} {ks : List Ky} {u : V} {xs : List O} (ok : ∀ f g, f < T.nf → g < T.nf → T.fN f = T.fN g → f = g) (h : AtPl T P F H σ z a ks u) (e : plOk σ a ks = some (.lst xs)) : ∃ p us, u = .ref p ∧ H p = some (.lst us) := by
  obtain ⟨o0, l, v0, x, Ai, B, e1, e2, e3, fo, ro, oA, rx, hB, st⟩ := h.thing ok
  have e := plOk_at e1 e
  rw [e3] at e
  cases e
  obtain ⟨p, us, B1, eu, eB, ep, rs⟩ := rx
  exact ⟨p, us, eu, ep⟩
end
end Tf
end
section
set_option Elab.async false
set_option linter.all false
set_option maxRecDepth 100000
namespace Tf
open PySem PySem.Spec PyProof.Rows L2
section
variable {T : Tb} {RX : XR} {W : WX} {X : Cx} {G : Prog} {cl : Call} {lm : List Nat} {z0 : L2.St} {w : Nat}
def tCallQ (T : Tb) (RX : XR) (W : WX) (cl : Call) (f : Nat) (te : TE) (ta : TA) : TE := fun z H Q => te z H fun u H1 => ta z H1 fun vs H2 => spD T RX cl f (u :: vs) H2 Q fun c d H' => W c d z H'
theorem spD_mono {f : Nat} {vs : List V} {H : Hp} {Q Q' : VK} {E : XK} (h : spD T RX cl f vs H Q E) (k : ∀ u H, Q u H → Q' u H) : spD T RX cl f vs H Q' E := by
  obtain ⟨P, F, ss, B, h1, h2, h3⟩ := h
  refine ⟨P, F, ss, B, h1, h2, ?_⟩
  revert h3
  cases cl f ss with
  | ret v ls => exact fun h3 F1 H1 u s r => k u H1 (h3 F1 H1 u s r)
  | exc x ls => exact fun h3 => h3
  | bad => exact fun h3 => h3
theorem tCallQ.mono {f : Nat} {K : PySem.W.Frag} {a : Nat} {y : PySem.Str} {m : Fr → Res Val} {as : Es} {z : L2.St} {H : Hp} {Q Q' : VK} (h : tCallQ T RX W cl f (tOp (rIxL K) (tFld K (tVar a) y) (R T RX W m)) (RA T RX W (evAs G cl [] as)) z H Q) (k : ∀ u H, Q u H → Q' u H) : tCallQ T RX W cl f (tOp (rIxL K) (tFld K (tVar a) y) (R T RX W m)) (RA T RX W (evAs G cl [] as)) z H Q' := by
  obtain ⟨v, ev, b, C, dx, fs, v2, e1, e2, h1, h2, h3, h4⟩ := h
  refine ⟨v, ev, b, C, dx, fs, v2, e1, e2, h1, h2, h3, R.mono h4 fun u1 H1 ⟨p, xs, i, u, g1, g2, g3, g4, g5⟩ => ⟨p, xs, i, u, g1, g2, g3, g4, RA.mono g5 fun vs H2 q => spD_mono q k⟩⟩
theorem ArgR.owned {P F H : Hp} {σ : Fr} {z : L2.St} {p : List Sl × List (Option (Nat × Bool))} {vs : List V} {x : D} {u : V} (h : ArgR T P z F H σ p vs) (rd : RD T F x u) : ArgR T P z F H σ (Tf.owned x :: p.1, p.2) (u :: vs) := by
  obtain ⟨A, B, h1, h2, ow, bk⟩ := h
  exact ⟨A, B, h1, RSl.cons_iff.mpr ⟨_, _, [], B, rfl, rfl, ⟨u, rfl, rfl, rd⟩, h2⟩, ow, bk⟩
end
end Tf
end
section
set_option Elab.async false
set_option linter.all false
set_option maxRecDepth 100000
namespace Tf
open PySem PySem.Spec PyProof.Rows L2
end Tf
end
section
set_option Elab.async false
set_option linter.all false
set_option maxRecDepth 100000
namespace Tf
open PySem PySem.Spec PyProof.Rows L2 L2H HotX
end Tf
end
section
set_option Elab.async false
set_option linter.all false
set_option maxRecDepth 100000
set_option maxHeartbeats 1000000
namespace Tf
open PySem PySem.Spec PyProof.Rows L2 L2H HotX
end Tf
end
section
set_option Elab.async false
set_option linter.all false
set_option maxRecDepth 100000
set_option maxHeartbeats 1000000
namespace Tf
open PySem PySem.Spec PyProof.Rows L2 L2H HotX
end Tf
end
section
set_option Elab.async false
set_option linter.all false
set_option maxRecDepth 100000
namespace Tf
open PySem PySem.Spec PyProof.Rows L2 L2H HotX
end Tf
end
section
set_option Elab.async false
set_option linter.all false
set_option maxRecDepth 100000
namespace Tf
open PySem PySem.Spec PyProof.Rows L2
end Tf
end
section
set_option Elab.async false
set_option linter.all false
set_option maxRecDepth 100000
namespace Tf
open PySem PySem.Spec PyProof.Rows L2
end Tf
end
section
set_option Elab.async false
set_option linter.all false
set_option maxRecDepth 100000
namespace Tf
open PySem PySem.Spec PyProof.Rows L2
end Tf
end
section
set_option Elab.async false
set_option linter.all false
set_option maxRecDepth 100000
namespace Tf
open PySem PySem.Spec PyProof.Rows L2
end Tf
end
section
set_option Elab.async false
set_option linter.all false
set_option maxRecDepth 100000
namespace Tf
open PySem PySem.Spec PyProof.Rows L2
end Tf
end
section
set_option Elab.async false
set_option linter.all false
set_option maxRecDepth 100000
namespace PySem
open Sem (wp)
end PySem
namespace Tf
open PySem PySem.Spec PyProof.Rows L2
end Tf
end
section
set_option Elab.async false
set_option linter.all false
set_option maxRecDepth 100000
namespace PySem
open Sem (wp)
end PySem
namespace Tf
open PySem PySem.Spec PyProof.Rows L2
end Tf
end
section
set_option Elab.async false
set_option linter.all false
set_option maxRecDepth 100000
namespace Tf
open PySem PySem.Spec PyProof.Rows L2
section
variable {T : Tb} {RX : XR} {W : WX} {X : Cx} {G : Prog} {cl : Call} {md : Md}
theorem RI.two {m1 m2 : Fr → Res Val} {k : D → D → Fr → Res (List D)} {z : L2.St} {H : Hp} {Q : L2.It → Hp → Prop} {P F : Hp} {σ : Fr} (rel : Rel T P F H σ z)
    (h : PostA T RX W P z F (fun F1 H1 σ1 xs J => Rel T P F1 H1 σ1 z ∧ ItOk T F1 J xs) Q ((m1 σ).bind fun v σ => opt (toD v) fun x => (m2 σ).bind fun u σ => opt (toD u) fun y => k x y σ)) :
    R T RX W m1 z H fun u1 H1 => R T RX W m2 z H1 fun u2 H2 => ∃ F2 σ2 x y, Rel T P F2 H2 σ2 z ∧ RD T F2 x u1 ∧ RD T F2 y u2 ∧ PostA T RX W P z F2 (fun F1 H1 σ1 xs J => Rel T P F1 H1 σ1 z ∧ ItOk T F1 J xs) Q (k x y σ2) := by
  refine ⟨P, F, σ, rel, ?_⟩
  revert h
  generalize m1 σ = r
  intro h
  cases r with
  | exc x σ1 => exact h
  | bad => exact h
  | ok v σ1 =>
    intro F1 H1 u1 s1 rv
    have h : PostA T RX W P z F (fun F1 H1 σ1 xs J => Rel T P F1 H1 σ1 z ∧ ItOk T F1 J xs) Q (opt (toD v) fun x => (m2 σ1).bind fun u σ => opt (toD u) fun y => k x y σ) := h
    cases e : toD v with
    | none => rw [e] at h; exact h.elim
    | some x =>
      rw [e] at h
      obtain ⟨F2, s2, rel2, rx⟩ := rv.toD e
      refine ⟨P, F2, σ1, rel2, ?_⟩
      have h : PostA T RX W P z F (fun F1 H1 σ1 xs J => Rel T P F1 H1 σ1 z ∧ ItOk T F1 J xs) Q ((m2 σ1).bind fun u σ => opt (toD u) fun y => k x y σ) := h
      have h := h.later (s1.trans s2)
      revert h
      generalize m2 σ1 = r
      intro h
      cases r with
      | exc x σ1 => exact h
      | bad => exact h
      | ok w σ2 =>
        intro F3 H3 u2 s3 rw'
        have h : PostA T RX W P z F2 (fun F1 H1 σ1 xs J => Rel T P F1 H1 σ1 z ∧ ItOk T F1 J xs) Q (opt (toD w) fun y => k x y σ2) := h
        cases e2 : toD w with
        | none => rw [e2] at h; exact h.elim
        | some y =>
          rw [e2] at h
          obtain ⟨F4, s4, rel4, ry⟩ := rw'.toD e2
          exact ⟨F4, σ2, x, y, rel4, rx.mono (s3.trans s4), ry, PostA.later (s3.trans s4) (show PostA T RX W P z F2 (fun F1 H1 σ1 xs J => Rel T P F1 H1 σ1 z ∧ ItOk T F1 J xs) Q (k x y σ2) from h)⟩
end
end Tf
end
section
set_option Elab.async false
set_option linter.all false
set_option maxRecDepth 100000
namespace Tf
open PySem PySem.Spec PyProof.Rows L2
end Tf
end
section
set_option Elab.async false
set_option linter.all false
set_option maxRecDepth 100000
namespace Tf
open PySem PySem.Spec PyProof.Rows L2
section
variable {T : Tb} {RX : XR} {W : WX} {X : Cx} {G : Prog} {cl : Call} {md : Md} {lm : List Nat} {z0 : L2.St} {w : Nat}
def isDO : HO → Bool
  | .dT _ => true
  | .dK _ => true
  | _ => false
def LkC (H F' : Hp) (A : List Addr) : Prop := ∀ a ∈ A, ∀ o, H a = some o → (isDO o = false → F' a = some o) ∧ (isDO o = true → ∃ od, F' a = some (.frz od o))
theorem LkC.left {H F' : Hp} {A B : List Addr} (h : LkC H F' (A ++ B)) : LkC H F' A := fun a m => h a (List.mem_append_left _ m)
theorem LkC.right {H F' : Hp} {A B : List Addr} (h : LkC H F' (A ++ B)) : LkC H F' B := fun a m => h a (List.mem_append_right _ m)
theorem LkC.tail {H F' : Hp} {a : Addr} {B : List Addr} (h : LkC H F' (a :: B)) : LkC H F' B := fun b m => h b (List.mem_cons_of_mem _ m)
mutual
theorem RO.lkd {F H : Hp} : ∀ {x : O} {v : V} {A : List Addr}, RO T F H x v A → ∀ {F' : Hp}, Same F F' → LkC H F' A → RD T F' x.lkd v
  | .d x, _, _, r, _, h, _ => RD.mono h r.2
  | .lst os, _, _, r, _, h, k => by
    obtain ⟨a, vs, B, e, eA, e2, r⟩ := r
    subst eA
    exact ⟨a, vs, e, (k a List.mem_cons_self _ e2).1 rfl, ROs.lkd r h k.tail⟩
  | .ins c fs, _, _, r, _, h, k => by
    obtain ⟨a, dx, gs, B, hc, e, eA, e2, r⟩ := r
    subst eA
    exact ⟨a, dx, gs, hc, e, (k a List.mem_cons_self _ e2).1 rfl, ROf.lkd r h k.tail⟩
  | .dcI kvs, _, _, r, _, h, k => by
    obtain ⟨a, ws, B, e, eA, e2, r⟩ := r
    subst eA
    exact ⟨a, ws, e, (k a List.mem_cons_self _ e2).2 rfl, ROi.lkd r h k.tail⟩
  | .dcT kvs, _, _, r, _, h, k => by
    obtain ⟨a, ws, B, e, eA, e2, r⟩ := r
    subst eA
    exact ⟨a, ws, e, (k a List.mem_cons_self _ e2).2 rfl, ROt.lkd r h k.tail⟩
theorem ROs.lkd {F H : Hp} : ∀ {xs : List O} {vs : List V} {A : List Addr}, ROs T F H xs vs A → ∀ {F' : Hp}, Same F F' → LkC H F' A → RDs T F' (O.lkdL xs) vs
  | [], _, _, r, _, _, _ => r.1
  | x :: xs, _, _, r, _, h, k => by
    obtain ⟨v, s, A1, A2, e, eA, r1, r2⟩ := r
    subst eA
    exact ⟨v, s, e, RO.lkd r1 h k.left, ROs.lkd r2 h k.right⟩
theorem ROf.lkd {F H : Hp} : ∀ {xs : List (Nat × O)} {vs : List (PySem.Str × V)} {A : List Addr}, ROf T F H xs vs A → ∀ {F' : Hp}, Same F F' → LkC H F' A → RDf T F' (O.lkdF xs) vs
  | [], _, _, r, _, _, _ => r.1
  | (_, x) :: xs, _, _, r, _, h, k => by
    obtain ⟨v, s, A1, A2, hk, e, eA, r1, r2⟩ := r
    subst eA
    exact ⟨v, s, hk, e, RO.lkd r1 h k.left, ROf.lkd r2 h k.right⟩
theorem ROi.lkd {F H : Hp} : ∀ {xs : List (Int × O)} {vs : List (Key × V)} {A : List Addr}, ROi T F H xs vs A → ∀ {F' : Hp}, Same F F' → LkC H F' A → RDi T F' (O.lkdI xs) vs
  | [], _, _, r, _, _, _ => r.1
  | (_, x) :: xs, _, _, r, _, h, k => by
    obtain ⟨v, s, A1, A2, e, eA, r1, r2⟩ := r
    subst eA
    exact ⟨v, s, e, RO.lkd r1 h k.left, ROi.lkd r2 h k.right⟩
theorem ROt.lkd {F H : Hp} : ∀ {xs : List (List Int × O)} {vs : List (List Key × V)} {A : List Addr}, ROt T F H xs vs A → ∀ {F' : Hp}, Same F F' → LkC H F' A → RDt T F' (O.lkdT xs) vs
  | [], _, _, r, _, _, _ => r.1
  | (_, x) :: xs, _, _, r, _, h, k => by
    obtain ⟨v, s, A1, A2, e, eA, r1, r2⟩ := r
    subst eA
    exact ⟨v, s, e, RO.lkd r1 h k.left, ROt.lkd r2 h k.right⟩
end
end
end Tf
end
section
set_option Elab.async false
set_option linter.all false
set_option maxRecDepth 100000
set_option pp.maxSteps 200
namespace Tf
open PySem PySem.Spec PyProof.Rows L2
end Tf
end
section
set_option Elab.async false
set_option linter.all false
set_option maxRecDepth 100000
namespace Tf
open PySem PySem.Spec PyProof.Rows L2
section
variable {T : Tb} {RX : XR} {W : WX} {X : Cx} {G : Prog} {cl : Call} {md : Md} {lm : List Nat} {z0 : L2.St} {w : Nat}
structure ItP (T : Tb) (P F : Hp) (J : L2.It) (xs : List D) : Prop where
  go : ∀ i F1 H, i < xs.length → Same F F1 → Same P H → Same F1 H → J.go i H
  yld : ∀ i F1 H x H', J.yld i H x H' → i < xs.length → Same F F1 → Same P H → ∀ P' σ z, Rel T P' F1 H σ z → ∃ F2 y, xs[i]? = some y ∧ Same F1 F2 ∧ Rel T P' F2 H' σ z ∧ RD T F2 y x
  stop : ∀ i F1 H, i = xs.length → Same F F1 → Same P H → Same F1 H → J.stop i H
theorem ItOk.p {P F : Hp} {J : L2.It} {xs : List D} (h : ItOk T F J xs) : ItP T P F J xs :=
  ⟨fun i F1 H a b _ d => h.go i F1 H a b d, fun i F1 H x H' a b c _ => h.yld i F1 H x H' a b c, fun i F1 H a b _ d => h.stop i F1 H a b d⟩
end
end Tf
end
section
set_option Elab.async false
set_option linter.all false
set_option maxRecDepth 100000
namespace Tf
open PySem PySem.Spec PyProof.Rows L2
section
variable {T : Tb} {RX : XR} {W : WX} {X : Cx} {G : Prog} {cl : Call} {md : Md} {lm : List Nat} {z0 : L2.St} {w : Nat}
theorem ROt.at {F H : Hp} : ∀ {xs : List (List Int × O)} {us : List (List Key × V)} {A : List Addr} {i : Nat} {k : List Key} {v : V}, ROt T F H xs us A → us[i]? = some (k, v) → ∃ k0 x, xs[i]? = some (k0, x) ∧ k = k0.map Sum.inl
  | [], _, _, _, _, _, r, e => by rw [r.1] at e; simp at e
  | (k0, x0) :: xs, _, _, 0, k, v, r, e => by
    obtain ⟨v', s, A1, A2, ev, eA, r1, r2⟩ := r
    subst ev
    have e : (k0.map Sum.inl, v') = (k, v) := by simpa using e
    injection e with e1 e2
    exact ⟨k0, x0, rfl, e1.symm⟩
  | (k0, x0) :: xs, _, _, i + 1, k, v, r, e => by
    obtain ⟨v', s, A1, A2, ev, eA, r1, r2⟩ := r
    subst ev
    obtain ⟨k1, x1, h1, h2⟩ := ROt.at (i := i) r2 (by simpa using e)
    exact ⟨k1, x1, by simpa using h1, h2⟩
theorem ROi.at {F H : Hp} : ∀ {xs : List (Int × O)} {us : List (Key × V)} {A : List Addr} {i : Nat} {k : Key} {v : V}, ROi T F H xs us A → us[i]? = some (k, v) → ∃ k0 x, xs[i]? = some (k0, x) ∧ k = .inl k0
  | [], _, _, _, _, _, r, e => by rw [r.1] at e; simp at e
  | (k0, x0) :: xs, _, _, 0, k, v, r, e => by
    obtain ⟨v', s, A1, A2, ev, eA, r1, r2⟩ := r
    subst ev
    have e : ((Sum.inl k0 : Key), v') = (k, v) := by simpa using e
    injection e with e1 e2
    exact ⟨k0, x0, rfl, e1.symm⟩
  | (k0, x0) :: xs, _, _, i + 1, k, v, r, e => by
    obtain ⟨v', s, A1, A2, ev, eA, r1, r2⟩ := r
    subst ev
    obtain ⟨k1, x1, h1, h2⟩ := ROi.at (i := i) r2 (by simpa using e)
    exact ⟨k1, x1, by simpa using h1, h2⟩
end
end Tf
end
section
set_option Elab.async false
set_option linter.all false
set_option maxRecDepth 100000
namespace Tf
open PySem PySem.Spec PyProof.Rows L2
end Tf
end
section
set_option Elab.async false
set_option linter.all false
set_option maxRecDepth 100000
namespace Tf
open PySem PySem.Spec PyProof.Rows L2
section
variable {T : Tb} {RX : XR} {W : WX} {X : Cx} {G : Prog} {cl : Call} {md : Md} {lm : List Nat} {z0 : L2.St} {w : Nat}
theorem RDt.at {F : Hp} : ∀ {xs : List (List Int × D)} {us : List (List Key × V)} {i : Nat} {k : List Key} {v : V}, RDt T F xs us → us[i]? = some (k, v) → ∃ k0 x, xs[i]? = some (k0, x) ∧ k = k0.map Sum.inl ∧ RD T F x v
  | [], _, _, _, _, r, e => by rw [show _ = [] from r] at e; simp at e
  | (k0, x0) :: xs, _, 0, k, v, r, e => by
    obtain ⟨v', s, ev, r1, r2⟩ := r
    subst ev
    have e : (k0.map Sum.inl, v') = (k, v) := by simpa using e
    injection e with e1 e2
    subst e2
    exact ⟨k0, x0, rfl, e1.symm, r1⟩
  | (k0, x0) :: xs, _, i + 1, k, v, r, e => by
    obtain ⟨v', s, ev, r1, r2⟩ := r
    subst ev
    obtain ⟨k1, x1, h1, h2, h3⟩ := RDt.at (i := i) r2 (by simpa using e)
    exact ⟨k1, x1, by simpa using h1, h2, h3⟩
theorem RDi.at {F : Hp} : ∀ {xs : List (Int × D)} {us : List (Key × V)} {i : Nat} {k : Key} {v : V}, RDi T F xs us → us[i]? = some (k, v) → ∃ k0 x, xs[i]? = some (k0, x) ∧ k = .inl k0 ∧ RD T F x v
  | [], _, _, _, _, r, e => by rw [show _ = [] from r] at e; simp at e
  | (k0, x0) :: xs, _, 0, k, v, r, e => by
    obtain ⟨v', s, ev, r1, r2⟩ := r
    subst ev
    have e : ((Sum.inl k0 : Key), v') = (k, v) := by simpa using e
    injection e with e1 e2
    subst e2
    exact ⟨k0, x0, rfl, e1.symm, r1⟩
  | (k0, x0) :: xs, _, i + 1, k, v, r, e => by
    obtain ⟨v', s, ev, r1, r2⟩ := r
    subst ev
    obtain ⟨k1, x1, h1, h2, h3⟩ := RDi.at (i := i) r2 (by simpa using e)
    exact ⟨k1, x1, by simpa using h1, h2, h3⟩
theorem RDt.len {F : Hp} : ∀ {xs : List (List Int × D)} {vs : List (List Key × V)}, RDt T F xs vs → xs.length = vs.length
  | [], _, h => by have h' : _ = [] := h; rw [h']; rfl
  | (_, x) :: xs, _, h => by
    obtain ⟨v, r, e, _, h2⟩ := h
    rw [e, List.length_cons, List.length_cons, RDt.len h2]
theorem RI.data {ea : E} {f : D → Option (List D)} {z : L2.St} {H : Hp} {Q : L2.It → Hp → Prop} {P F : Hp} {σ : Fr} {Q2 : VK} (rel : Rel T P F H σ z) (q : PostA T RX W P z F (fun F1 H1 σ1 xs J => Rel T P F1 H1 σ1 z ∧ ItOk T F1 J xs) Q ((ev G cl .val ea σ).bind fun v σ => opt ((toD v).bind f) fun xs => .ok xs σ))
    (h : ∀ F2 H1 x xs u, f x = some xs → RD T F2 x u → Same F2 H1 → (∀ J, ItOk T F2 J xs → Q J H1) → Q2 u H1) : R T RX W (ev G cl .val ea) z H Q2 := by
  refine ⟨P, F, σ, rel, ?_⟩
  revert q
  generalize ev G cl .val ea σ = r
  intro q
  cases r with
  | exc x σ1 => exact q
  | bad => exact q
  | ok v σ1 =>
    intro F1 H1 u s rv
    obtain ⟨xs, ex, q⟩ := PostA.opt (show PostA T RX W P z F (fun F1 H1 σ1 xs J => Rel T P F1 H1 σ1 z ∧ ItOk T F1 J xs) Q (opt ((toD v).bind f) fun xs => .ok xs σ1) from q)
    obtain ⟨x, e1, e2⟩ := Option.bind_eq_some_iff.mp ex
    obtain ⟨F2, s2, rel2, rd⟩ := rv.toD e1
    obtain ⟨A, k⟩ := id rel2
    exact h F2 H1 x xs u e2 rd k.fH fun J iok => q F2 H1 J (s.trans s2) ⟨rel2, iok⟩
theorem RDt.vals {F : Hp} : ∀ {xs : List (List Int × D)} {us : List (List Key × V)}, RDt T F xs us → RDs T F (xs.map (·.2)) (us.map (·.2))
  | [], _, r => by rw [show _ = [] from r]; rfl
  | (k0, x0) :: xs, _, r => by
    obtain ⟨v', s, ev, r1, r2⟩ := r
    subst ev
    exact ⟨v', _, rfl, r1, RDt.vals r2⟩
end
end Tf
end
section
set_option Elab.async false
set_option linter.all false
set_option maxRecDepth 100000
namespace PySem
open Sem (wp)
end PySem
end
section
set_option Elab.async false
set_option linter.all false
set_option maxRecDepth 100000
namespace Tf
open PySem PySem.Spec PyProof.Rows L2
end Tf
end
section
set_option Elab.async false
set_option linter.all false
set_option maxRecDepth 100000
namespace Tf
open PySem PySem.Spec PyProof.Rows L2
section
variable {T : Tb} {RX : XR} {W : WX} {X : Cx} {G : Prog} {cl : Call} {md : Md} {lm : List Nat} {z0 : L2.St} {w : Nat}
theorem RDt.put {F : Hp} {k : List Int} {o : D} {u : V} (ro : RD T F o u) : ∀ {kvs : List (List Int × D)} {ws : List (List Key × V)}, RDt T F kvs ws → (ws.map (·.1)).Nodup → RDt T F (setPT k o kvs) (putK ws (k.map Sum.inl) u)
  | [], _, r, _ => by
    rw [show _ = [] from r]
    exact ⟨u, [], by simp [putK], ro, rfl⟩
  | (j, x) :: r, _, rr, nd => by
    obtain ⟨v, s, e, r1, r2⟩ := rr
    subst e
    rw [List.map_cons, List.nodup_cons] at nd
    by_cases c : j = k
    · subst c
      rw [putK_same nd.1]
      have e1 : setPT j o ((j, x) :: r) = (j, o) :: r := by simp [setPT]
      rw [e1]
      exact ⟨u, s, rfl, ro, r2⟩
    · rw [putK_other (fun q => c (dky_inj q))]
      have e1 : setPT k o ((j, x) :: r) = (j, x) :: setPT k o r := by simp [setPT, c]
      rw [e1]
      exact ⟨v, _, rfl, r1, RDt.put ro r2 nd.2⟩
theorem RDt.own {F H : Hp} : ∀ {m : List (List Int × D)} {ws : List (List Key × V)}, RDt T F m ws → ROt T F H (m.map fun p => (p.1, O.d p.2)) ws []
  | [], _, r => ⟨r, rfl⟩
  | (k, x) :: m, _, r => by
    obtain ⟨v, s, e, rx, r2⟩ := r
    subst e
    exact ⟨v, s, [], [], rfl, rfl, ⟨rfl, rx⟩, RDt.own r2⟩
end
end Tf
end
section
set_option Elab.async false
set_option linter.all false
set_option maxRecDepth 100000
namespace Tf
open PySem PySem.Spec PyProof.Rows L2
end Tf
end
section
set_option Elab.async false
set_option linter.all false
set_option maxRecDepth 100000
namespace Tf
open PySem PySem.Spec PyProof.Rows L2
end Tf
end
section
set_option Elab.async false
set_option linter.all false
set_option maxRecDepth 100000
namespace Tf
open PySem PySem.Spec PyProof.Rows L2
end Tf
end
section
set_option Elab.async false
set_option linter.all false
set_option maxRecDepth 100000
namespace Tf
open PySem PySem.Spec PyProof.Rows L2
section
variable {T : Tb} {RX : XR} {W : WX} {X : Cx} {G : Prog} {cl : Call} {md : Md}
theorem plain_no {F : Hp} {y : D} {b : Addr} {od : Obj} {u : HO} (h : RD T F y (.ref b)) (hp : y.plain = true) (e : F b = some (.frz od u)) : False := by
  cases y with
  | non => cases (show V.ref b = .non from h)
  | bl c => cases (show V.ref b = .bl c from h)
  | int i => cases (show V.ref b = .int i from h)
  | str s => cases (show V.ref b = .str s from h)
  | tup xs => obtain ⟨a, vs, e1, e2, _⟩ := h; cases e1; rw [e] at e2; cases e2
  | lst xs => obtain ⟨a, vs, e1, e2, _⟩ := h; cases e1; rw [e] at e2; cases e2
  | ins c fs => obtain ⟨a, dx, gs, _, e1, e2, _⟩ := h; cases e1; rw [e] at e2; cases e2
  | dcI kvs => cases hp
  | dcT kvs => cases hp
  | cls c => cases hp
  | scr ns => cases hp
  | lkI kvs => cases hp
  | lkT kvs => cases hp
  | exn c fs => cases hp
theorem pl_cons {x : D} {xs : List D} (h : D.plainL (x :: xs) = true) : x.plain = true ∧ D.plainL xs = true := by
  rwa [D.plainL, Bool.and_eq_true] at h
theorem pf_cons {k : Nat} {x : D} {xs : List (Nat × D)} (h : D.plainF ((k, x) :: xs) = true) : x.plain = true ∧ D.plainF xs = true := by
  rwa [D.plainF, Bool.and_eq_true] at h
section
variable {F1 F3 : Hp} {b : Addr} {B : List Addr} {v1 : V} {vs1 : List V} (hB : ∀ a ∈ B, ∃ od u, F1 a = some (.frz od u)) (hb : F1 b = some (.lst (v1 :: vs1))) (h1 : ∃ b1 ∈ B, v1 = .ref b1) (h3 : ∀ a, a ∉ b :: B → F3 a = F1 a)
include hB hb h1 h3
mutual
theorem RD.unfz : ∀ {y : D} {v : V}, y.plain = true → RD T F1 y v → RD T F3 y v
  | .non, _, _, r => r
  | .bl _, _, _, r => r
  | .int _, _, _, r => r
  | .str _, _, _, r => r
  | .tup xs, _, hp, r => by
    obtain ⟨a, vs, e, e2, r⟩ := r
    refine ⟨a, vs, e, ?_, RDs.unfz (by rw [D.plain] at hp; exact hp) r⟩
    rw [h3 a, e2]
    intro m
    rcases List.mem_cons.mp m with m | m
    · rw [m, hb] at e2; cases e2
    · obtain ⟨od, u, e3⟩ := hB a m; rw [e3] at e2; cases e2
  | .lst xs, _, hp, r => by
    obtain ⟨a, vs, e, e2, r⟩ := r
    have hp : D.plainL xs = true := by rw [D.plain] at hp; exact hp
    refine ⟨a, vs, e, ?_, RDs.unfz hp r⟩
    rw [h3 a, e2]
    intro m
    rcases List.mem_cons.mp m with m | m
    · rw [m, hb] at e2
      have e2 := HO.lst.inj (Option.some.inj e2)
      subst e2
      cases xs with
      | nil => cases (show v1 :: vs1 = [] from r)
      | cons x xs =>
        obtain ⟨v, s, e4, r1, _⟩ := r
        injection e4 with e4 _
        subst e4
        obtain ⟨b1, mb, e5⟩ := h1
        subst e5
        obtain ⟨od, u, e3⟩ := hB b1 mb
        exact plain_no r1 (pl_cons hp).1 e3
    · obtain ⟨od, u, e3⟩ := hB a m; rw [e3] at e2; cases e2
  | .ins c fs, _, hp, r => by
    obtain ⟨a, dx, gs, hc, e, e2, r⟩ := r
    refine ⟨a, dx, gs, hc, e, ?_, RDf.unfz (by rw [D.plain] at hp; exact hp) r⟩
    rw [h3 a, e2]
    intro m
    rcases List.mem_cons.mp m with m | m
    · rw [m, hb] at e2; cases e2
    · obtain ⟨od, u, e3⟩ := hB a m; rw [e3] at e2; cases e2
  | .dcI kvs, _, hp, _ => by cases hp
  | .dcT kvs, _, hp, _ => by cases hp
  | .cls c, _, hp, _ => by cases hp
  | .scr ns, _, hp, _ => by cases hp
  | .lkI kvs, _, hp, _ => by cases hp
  | .lkT kvs, _, hp, _ => by cases hp
  | .exn c fs, _, hp, _ => by cases hp
theorem RDs.unfz : ∀ {ys : List D} {vs : List V}, D.plainL ys = true → RDs T F1 ys vs → RDs T F3 ys vs
  | [], _, _, r => r
  | y :: ys, _, hp, r => by
    obtain ⟨v, s, e, r1, r2⟩ := r
    exact ⟨v, s, e, RD.unfz (pl_cons hp).1 r1, RDs.unfz (pl_cons hp).2 r2⟩
theorem RDf.unfz : ∀ {ys : List (Nat × D)} {vs : List (PySem.Str × V)}, D.plainF ys = true → RDf T F1 ys vs → RDf T F3 ys vs
  | [], _, _, r => r
  | (k, y) :: ys, _, hp, r => by
    obtain ⟨v, s, hk, e, r1, r2⟩ := r
    exact ⟨v, s, hk, e, RD.unfz (pf_cons hp).1 r1, RDf.unfz (pf_cons hp).2 r2⟩
end
end
end
end Tf
end
section
set_option Elab.async false
set_option linter.all false
set_option maxRecDepth 100000
namespace Tf
open PySem PySem.Spec PyProof.Rows L2
section
variable {T : Tb} {RX : XR} {W : WX} {X : Cx} {G : Prog} {cl : Call} {md : Md}
theorem RDi.own {F H : Hp} : ∀ {kvs : List (Int × D)} {ws : List (Key × V)}, RDi T F kvs ws → ROi T F H (kvs.map fun p => (p.1, O.d p.2)) ws []
  | [], _, r => ⟨r, rfl⟩
  | (k, x) :: kvs, _, r => by
    obtain ⟨v, s, e, r1, r2⟩ := r
    exact ⟨v, s, [], [], e, rfl, ⟨rfl, r1⟩, RDi.own r2⟩
end
end Tf
end
section
set_option Elab.async false
set_option linter.all false
set_option maxRecDepth 100000
namespace Tf
open PySem PySem.Spec PyProof.Rows L2
end Tf
end
section
set_option Elab.async false
set_option linter.all false
set_option maxRecDepth 100000
namespace Tf
open PySem PySem.Spec PyProof.Rows L2
section
variable {T : Tb} {RX : XR} {W : WX} {X : Cx} {G : Prog} {cl : Call} {md : Md} {lm : List Nat} {z0 : L2.St} {w : Nat}
section
variable {F1 F3 : Hp} {B : List Addr} (hB : ∀ a ∈ B, ∃ vs, F1 a = some (.lst vs)) (h3 : ∀ a, a ∉ B → F3 a = F1 a)
include hB h3
theorem noL_at {a : Addr} {o : HO} (e : F1 a = some o) (h : ∀ vs, o ≠ .lst vs) : F3 a = some o := by
  rw [h3 a, e]
  intro m
  obtain ⟨vs, e2⟩ := hB a m
  rw [e] at e2
  exact h vs (Option.some.inj e2)
theorem nls_cons {x : D} {xs : List D} (h : D.noLs (x :: xs) = true) : x.noL = true ∧ D.noLs xs = true := by rwa [D.noLs, Bool.and_eq_true] at h
theorem nlf_cons {k : Nat} {x : D} {xs : List (Nat × D)} (h : D.noLf ((k, x) :: xs) = true) : x.noL = true ∧ D.noLf xs = true := by rwa [D.noLf, Bool.and_eq_true] at h
theorem nli_cons {k : Int} {x : D} {xs : List (Int × D)} (h : D.noLi ((k, x) :: xs) = true) : x.noL = true ∧ D.noLi xs = true := by rwa [D.noLi, Bool.and_eq_true] at h
theorem nlt_cons {k : List Int} {x : D} {xs : List (List Int × D)} (h : D.noLt ((k, x) :: xs) = true) : x.noL = true ∧ D.noLt xs = true := by rwa [D.noLt, Bool.and_eq_true] at h
mutual
theorem RD.unl : ∀ {y : D} {v : V}, y.noL = true → RD T F1 y v → RD T F3 y v
  | .non, _, _, r => r
  | .bl _, _, _, r => r
  | .int _, _, _, r => r
  | .str _, _, _, r => r
  | .cls _, _, _, r => r
  | .tup xs, _, hp, r => by
    obtain ⟨a, vs, e, e2, r⟩ := r
    exact ⟨a, vs, e, noL_at hB h3 e2 (fun _ h => nomatch h), RDs.unl (by rw [D.noL] at hp; exact hp) r⟩
  | .lst xs, _, hp, _ => by cases hp
  | .ins c fs, _, hp, r => by
    obtain ⟨a, dx, gs, hc, e, e2, r⟩ := r
    exact ⟨a, dx, gs, hc, e, noL_at hB h3 e2 (fun _ h => nomatch h), RDf.unl (by rw [D.noL] at hp; exact hp) r⟩
  | .dcI kvs, _, hp, r => by
    obtain ⟨a, ws, e, e2, r⟩ := r
    exact ⟨a, ws, e, noL_at hB h3 e2 (fun _ h => nomatch h), RDi.unl (by rw [D.noL] at hp; exact hp) r⟩
  | .dcT kvs, _, hp, r => by
    obtain ⟨a, ws, e, e2, r⟩ := r
    exact ⟨a, ws, e, noL_at hB h3 e2 (fun _ h => nomatch h), RDt.unl (by rw [D.noL] at hp; exact hp) r⟩
  | .scr ns, _, _, r => by
    obtain ⟨a, ob, e, e2⟩ := r
    exact ⟨a, ob, e, noL_at hB h3 e2 (fun _ h => nomatch h)⟩
  | .lkI kvs, _, hp, r => by
    obtain ⟨a, ws, e, ⟨ob, e2⟩, r⟩ := r
    exact ⟨a, ws, e, ⟨ob, noL_at hB h3 e2 (fun _ h => nomatch h)⟩, RDi.unl (by rw [D.noL] at hp; exact hp) r⟩
  | .exn c fs, _, hp, _ => by rw [D.noL] at hp; cases hp
  | .lkT kvs, _, hp, r => by
    obtain ⟨a, ws, e, ⟨ob, e2⟩, r⟩ := r
    exact ⟨a, ws, e, ⟨ob, noL_at hB h3 e2 (fun _ h => nomatch h)⟩, RDt.unl (by rw [D.noL] at hp; exact hp) r⟩
theorem RDs.unl : ∀ {ys : List D} {vs : List V}, D.noLs ys = true → RDs T F1 ys vs → RDs T F3 ys vs
  | [], _, _, r => r
  | y :: ys, _, hp, r => by
    obtain ⟨v, s, e, r1, r2⟩ := r
    exact ⟨v, s, e, RD.unl (nls_cons hB h3 hp).1 r1, RDs.unl (nls_cons hB h3 hp).2 r2⟩
theorem RDf.unl : ∀ {ys : List (Nat × D)} {vs : List (PySem.Str × V)}, D.noLf ys = true → RDf T F1 ys vs → RDf T F3 ys vs
  | [], _, _, r => r
  | (k, y) :: ys, _, hp, r => by
    obtain ⟨v, s, hk, e, r1, r2⟩ := r
    exact ⟨v, s, hk, e, RD.unl (nlf_cons hB h3 hp).1 r1, RDf.unl (nlf_cons hB h3 hp).2 r2⟩
theorem RDi.unl : ∀ {ys : List (Int × D)} {vs : List (Key × V)}, D.noLi ys = true → RDi T F1 ys vs → RDi T F3 ys vs
  | [], _, _, r => r
  | (k, y) :: ys, _, hp, r => by
    obtain ⟨v, s, e, r1, r2⟩ := r
    exact ⟨v, s, e, RD.unl (nli_cons hB h3 hp).1 r1, RDi.unl (nli_cons hB h3 hp).2 r2⟩
theorem RDt.unl : ∀ {ys : List (List Int × D)} {vs : List (List Key × V)}, D.noLt ys = true → RDt T F1 ys vs → RDt T F3 ys vs
  | [], _, _, r => r
  | (k, y) :: ys, _, hp, r => by
    obtain ⟨v, s, e, r1, r2⟩ := r
    exact ⟨v, s, e, RD.unl (nlt_cons hB h3 hp).1 r1, RDt.unl (nlt_cons hB h3 hp).2 r2⟩
end
end
inductive SaE (X : Cx) (T : Tb) (i : Nat) : List Sa → List Expr → Prop
  | nil : SaE X T i [] []
  | fld {f : Nat} {n x : PySem.Str} {as : List Sa} {es : List Expr} {p1 p2 : Pos} (hN : X.N[i]? = some n) (hv : Vis X.env.scope n) (hd : (n == ("__debug__" : PySem.Str)) = false) (hcd : (n == ("__classdict__" : PySem.Str)) = false) (hx : T.fN f = x) (hb : attributeBase (.Name n p1) x X.env (eval (.Name n p1) X.env) = eval (.Name n p1) X.env) (h : SaE X T i as es) : SaE X T i (.fld f :: as) (.Attribute (.Name n p1) x p2 :: es)
  | own {f : Nat} {n x : PySem.Str} {as : List Sa} {es : List Expr} {p1 p2 : Pos} (hN : X.N[i]? = some n) (hv : Vis X.env.scope n) (hd : (n == ("__debug__" : PySem.Str)) = false) (hcd : (n == ("__classdict__" : PySem.Str)) = false) (hx : T.fN f = x) (hb : attributeBase (.Name n p1) x X.env (eval (.Name n p1) X.env) = eval (.Name n p1) X.env) (h : SaE X T i as es) : SaE X T i (.own f :: as) (.Attribute (.Name n p1) x p2 :: es)
  | var {j : Nat} {y : PySem.Str} {as : List Sa} {es : List Expr} {p1 : Pos} (hN : X.N[j]? = some y) (hv : Vis X.env.scope y) (hd : (y == ("__debug__" : PySem.Str)) = false) (hcd : (y == ("__classdict__" : PySem.Str)) = false) (h : SaE X T i as es) : SaE X T i (.var j :: as) (.Name y p1 :: es)
end
end Tf
end
section
set_option Elab.async false
set_option linter.all false
set_option maxRecDepth 100000
namespace Tf
open PySem PySem.Spec PyProof.Rows L2
section
variable {T : Tb} {RX : XR} {W : WX} {X : Cx} {G : Prog} {cl : Call} {md : Md} {lm : List Nat} {z0 : L2.St} {w : Nat}
theorem RD.sca {F1 F3 : Hp} : ∀ {y : D} {v : V}, y.sca = true → RD T F1 y v → RD T F3 y v
  | .non, _, _, r => r
  | .bl _, _, _, r => r
  | .int _, _, _, r => r
  | .str _, _, _, r => r
  | .cls _, _, h, _ => by cases h
  | .tup _, _, h, _ => by cases h
  | .lst _, _, h, _ => by cases h
  | .ins _ _, _, h, _ => by cases h
  | .dcI _, _, h, _ => by cases h
  | .dcT _, _, h, _ => by cases h
  | .scr _, _, h, _ => by cases h
  | .lkI _, _, h, _ => by cases h
  | .lkT _, _, h, _ => by cases h
  | .exn _ _, _, h, _ => by cases h
end
end Tf
end
section
set_option Elab.async false
set_option linter.all false
set_option maxRecDepth 100000
namespace Tf
open PySem PySem.Spec PyProof.Rows L2
end Tf
end
section
set_option Elab.async false
set_option linter.all false
set_option maxRecDepth 100000
namespace Tf
open PySem PySem.Spec PyProof.Rows L2
end Tf
end
section
set_option Elab.async false
set_option linter.all false
set_option maxRecDepth 100000
namespace Tf
open PySem PySem.Spec PyProof.Rows L2
end Tf
end
section
set_option Elab.async false
set_option linter.all false
set_option maxRecDepth 100000
namespace Tf
open PySem PySem.Spec PyProof.Rows L2
end Tf
end
section
set_option Elab.async false
set_option linter.all false
set_option maxRecDepth 100000
namespace Tf
open PySem PySem.Spec PyProof.Rows L2
end Tf
end
section
set_option Elab.async false
set_option linter.all false
set_option maxRecDepth 100000
namespace Tf
open PySem PySem.Spec PyProof.Rows L2
section
variable {X : Cx} {N : Nm} {G : Prog} {cl : Call} {k : Nat} (C : Txt X.prog X.w X.K X.mg X.base N G cl k)
include C
theorem Txt.band : OwnBin X (N.T X.K) (RXc (N.T X.K) N.xs N.xn) G cl k (N.fA X.K) m_and "and" := C.bin (by decide) (by decide +kernel)
theorem Txt.bor : OwnBin X (N.T X.K) (RXc (N.T X.K) N.xs N.xn) G cl k (N.fA X.K) m_or "or" := C.bin (by decide) (by decide +kernel)
end
end Tf
end
section
set_option Elab.async false
set_option linter.all false
set_option maxRecDepth 100000
namespace Tf
open PySem PySem.Spec PyProof.Rows L2
section
variable {T : Tb} {RX : XR} {W : WX} {X : Cx} {G : Prog} {cl : Call} {md : Md}
section
variable {F1 F3 : Hp} {B : List Addr} (hB : ∀ a ∈ B, ∃ vs, F1 a = some (.lst vs)) (h3 : ∀ a, a ∉ B → F3 a = F1 a)
include hB h3
mutual
theorem RO.unl {H : Hp} : ∀ {x : O} {v : V} {A : List Addr}, x.cln = true → RO T F1 H x v A → RO T F3 H x v A
  | .d x, _, _, h, r => ⟨r.1, RD.unl hB h3 h r.2⟩
  | .lst os, _, _, h, r => by
    obtain ⟨a, vs, C, e, eA, e2, r⟩ := r
    exact ⟨a, vs, C, e, eA, e2, ROs.unl h r⟩
  | .dcT kvs, _, _, h, r => by
    obtain ⟨a, ws, C, e, eA, e2, r⟩ := r
    exact ⟨a, ws, C, e, eA, e2, ROt.unl h r⟩
  | .ins _ _, _, _, h, _ => by cases h
  | .dcI _, _, _, h, _ => by cases h
theorem ROs.unl {H : Hp} : ∀ {xs : List O} {vs : List V} {A : List Addr}, O.clnL xs = true → ROs T F1 H xs vs A → ROs T F3 H xs vs A
  | [], _, _, _, r => r
  | x :: xs, _, _, h, r => by
    obtain ⟨v, t, A1, A2, e, eA, r1, r2⟩ := r
    have h : (x.cln && O.clnL xs) = true := h
    rw [Bool.and_eq_true] at h
    exact ⟨v, t, A1, A2, e, eA, RO.unl h.1 r1, ROs.unl h.2 r2⟩
theorem ROt.unl {H : Hp} : ∀ {xs : List (List Int × O)} {vs : List (List Key × V)} {A : List Addr}, O.clnT xs = true → ROt T F1 H xs vs A → ROt T F3 H xs vs A
  | [], _, _, _, r => r
  | (k, x) :: xs, _, _, h, r => by
    obtain ⟨v, t, A1, A2, e, eA, r1, r2⟩ := r
    have h : (x.cln && O.clnT xs) = true := h
    rw [Bool.and_eq_true] at h
    exact ⟨v, t, A1, A2, e, eA, RO.unl h.1 r1, ROt.unl h.2 r2⟩
end
end
end
end Tf
end
section
set_option Elab.async false
set_option linter.all false
namespace Tf
open PySem PySem.Spec PyProof.Rows L2
end Tf
end
section
set_option Elab.async false
set_option linter.all false
set_option maxRecDepth 100000
set_option maxHeartbeats 4000000
namespace Tf
open PySem PySem.Spec PyProof.Rows L2
def exHp (H1 : Hp) (C a : Addr) (t1 : Addr) (dg : Option (Addr × List (PySem.Str × V))) : Hp := match dg with
  | none => upd H1 a (.frz (exB C none t1) (exo a C none))
  | some (d, gs) => upd (upd H1 a (.frz (exB C (some d) t1) (exo a C (some d)))) d (.xd gs)
def tXv (ps : List PySem.Str) (C : Addr) (ta : TA) : TE := fun z H Q => ta z H fun vs H1 => vs.length = ps.length ∧ ((ps = [] ∧ ∀ a t1, H1 a = none → Q (.ref a) (exHp H1 C a t1 none)) ∨ (ps ≠ [] ∧ ∀ a d t1, H1 a = none → H1 d = none → d ≠ a → Q (.ref a) (exHp H1 C a t1 (some (d, (ps.zip vs).reverse)))))
section
variable {X : Cx} {T : Tb} {RX : XR} {W : WX} {G : Prog} {cl : Call} {fI C : Addr} {k : Nat} {fd : FuncData} {e : Expr} {es : List Expr} {as : Es} {p pos : Pos} {cn : PySem.Str}
theorem view_frz {pins : List (Addr × Obj)} {z : L2.St} {H : Hp} {s : Shared} {a C : Addr} {od : Option Addr} (I : Inv X pins z H s) (e : H a = some (exo a C od)) : ∃ t1, Inv X pins z (upd H a (.frz (exB C od t1) (exo a C od))) s := by
  obtain ⟨t1, ho⟩ := exo_at I.hok e
  refine ⟨t1, I.write (t' := s.toks) (h' := s.heap) (x := a) (e := a) (o := .frz (exB C od t1) (exo a C od)) (by rw [e]; exact True.intro) (.inl rfl) (fun _ _ _ q => q) ⟨_, ho⟩ ⟨ho, ?_⟩⟩
  exact exo_ok ho
theorem view_xd {pins : List (Addr × Obj)} {z : L2.St} {H : Hp} {s : Shared} {d : Addr} {gs : List (PySem.Str × V)} (I : Inv X pins z H s) (e : H d = some (exd d gs)) : Inv X pins z (upd H d (.xd gs)) s := by
  obtain ⟨mA, hn, r⟩ := exd_at I.hok e
  have hd : ∃ u, s.heap.get? d = some u := by
    obtain ⟨o, _, _, e', _⟩ := id hn
    exact ⟨o, e'⟩
  exact I.write (t' := s.toks) (h' := s.heap) (x := d) (e := d) (o := .xd gs) (by rw [e]; exact True.intro) (.inl rfl) (fun _ _ _ q => q) hd ⟨mA, hn, r⟩
def tMkV (C : Addr) (sp : Sp) (ta : TA) : TE := fun z H Q => ta z H fun vs H1 => vs.length ≤ 1000 ∧ ∀ a, H1 a = none → sp (.ref a :: vs) (upd H1 a (exo a C none)) (fun v H2 => v = .non ∧
  ((H2 a = some (exo a C none) ∧ ∀ t1, Q (.ref a) (upd H2 a (.frz (exB C none t1) (exo a C none)))) ∨
    ∃ (d : Addr) (gs : List (PySem.Str × V)), H2 a = some (exo a C (some d)) ∧ H2 d = some (exd d gs) ∧ d ≠ a ∧ ∀ t1, Q (.ref a) (upd (upd H2 a (.frz (exB C (some d) t1) (exo a C (some d)))) d (.xd gs)))) (fun _ _ _ => False)
theorem mkv_end {pins : List (Addr × Obj)} {z : L2.St} {H2 : Hp} {s : Shared} {a : Addr} {Q : VK} (I : Inv X pins z H2 s) (h : (H2 a = some (exo a C none) ∧ ∀ t1, Q (.ref a) (upd H2 a (.frz (exB C none t1) (exo a C none)))) ∨
    ∃ (d : Addr) (gs : List (PySem.Str × V)), H2 a = some (exo a C (some d)) ∧ H2 d = some (exd d gs) ∧ d ≠ a ∧ ∀ t1, Q (.ref a) (upd (upd H2 a (.frz (exB C (some d) t1) (exo a C (some d)))) d (.xd gs))) : ∃ H3, Inv X pins z H3 s ∧ Q (.ref a) H3 := by
  rcases h with ⟨e, q⟩ | ⟨d, gs, e, ed, ne, q⟩
  · obtain ⟨t1, I3⟩ := view_frz I e
    exact ⟨_, I3, q t1⟩
  · obtain ⟨t1, I3⟩ := view_frz I e
    exact ⟨_, view_xd I3 ((upd_ne ne).trans ed), q t1⟩
theorem pe_mkv {sp : Sp} {ps : List PySem.Str} (T : OexC X.K C) (iC : PySem.W.findIn X.K (.ref C) "__init__" = some (some (.ref fI))) (tI : PySem.W.typeIn X.K (.ref fI) = some (.type "function"))
    (F1 : FnOk X.prog X.w X.K X.mg X.base (L2.CX X.prog X.w) k fI fd ps sp) (hr : Room (k + 1) X.A) (hb : Binds X.K fd ps []) (hx : Passes (L2.CX X.prog X.w) X (fun _ _ _ => False)) (hg : Gl X cn) (hm : X.mg cn = some (.ref C)) {ta : TA} (ha : PA X (e :: es) ta)
    (hdb : (cn == ("__debug__" : PySem.Str)) = false := by decide) (he : starEach (e :: es) X.env = (false, eval e X.env) :: starEach es X.env := by rfl) (hpl : (backTo pos (starEach es X.env)).any (·.1) = false := by rfl) :
    PE X (.Call (.Name cn p) (e :: es) [] pos) (tMkV C sp ta) := by
  refine ⟨fun pins s σ H Q I h => ?_⟩
  obtain ⟨nm, q, N, bs, bm, sn, sub, ab, col, dd, k0, k1, k2, k3, k5, hC, hbm⟩ := T.cls
  refine wpAny_Call_Name_kw (ld_glob I hg hm ?_ hdb)
  refine PySem.W.callWith_K (h₀ := X.base) I.ok.mod.kin T.kC (thn (ha.run pos pins s σ H _ I h) fun us s1 ⟨vs, H1, I1, r1, hz, q1⟩ => ⟨I1.kIn, ?_⟩) he hpl
  show wpAny _ _ (call (.ref C) us) _ _ _
  obtain ⟨hp, g, dr, tk, os⟩ := s1
  have hsz : hp.objs.size ≤ hp.objs.size + 1 := Nat.le_succ _
  have hn : H1 (hp.objs.size + 1) = none := I1.hok.fresh hsz
  have hq := q1 (hp.objs.size + 1) hn
  have kk : ∀ b o, hp.get? b = some o → ((hp.push (PySem.W.kdv_tup us)).push (PySem.HandSPX.excO C hp.objs.size)).get? b = some o := fun b o e => Heap.get?_push_of_some _ (Heap.get?_push_of_some _ e)
  have hget : ((hp.push (PySem.W.kdv_tup us)).push (PySem.HandSPX.excO C hp.objs.size)).get? (hp.objs.size + 1) = some (PySem.HandSPX.excO C hp.objs.size) := by heap_get
  have I2 : Inv X pins σ (upd H1 (hp.objs.size + 1) (exo (hp.objs.size + 1) C none)) ⟨(hp.push (PySem.W.kdv_tup us)).push (PySem.HandSPX.excO C hp.objs.size), g, dr, tk, os⟩ :=
    I1.laid (t' := tk) (a := hp.objs.size + 1) (o := exo (hp.objs.size + 1) C none) (h' := (hp.push (PySem.W.kdv_tup us)).push (PySem.HandSPX.excO C hp.objs.size)) kk hsz (exo_ok hget)
  have r2 : Vals (V.ref (hp.objs.size + 1) :: vs) (Value.ref (hp.objs.size + 1) :: us) := .cons rfl r1
  have hl : (Value.ref (hp.objs.size + 1) :: us ++ []).length = ps.length := by
    have e := r2.length
    rw [F1.len _ _ _ _ hq] at e
    rw [List.append_nil]
    exact e.symm
  have hus : us.length ≤ sizeLine := by
    rw [← Paired.length r1, sizeLine_eq]
    omega
  have bd := hb _ (Value.ref (hp.objs.size + 1) :: us) I2.kIn hl
  rw [List.append_nil] at bd
  refine wpAny_call (PySem.HandSPX.call_own F.excBase_ValueError (fun Y => PySem.HandSPX.refsVE_contains Y bm hbm) (I1.kIn _ _ hC) (PySem.W.looks_findIn I1.kIn iC) (fun self => PySem.W.bind_fn I1.kIn self tI) hus
    (codeAny_mono (F1.run _ X.stack _ _ ⟨Value.ref (hp.objs.size + 1) :: us, []⟩ (Value.ref (hp.objs.size + 1) :: us) _ _ (fun _ _ _ => False) (hr.make C us []) (I2.env0.make C us []) bd r2 hq) fun r s' hq' => ?_))
  cases r with
  | error er => exact hx pins σ _ _ er s' I2 hq'
  | ok fl =>
    cases fl with
    | ret u =>
      obtain ⟨v, H2, os2, bare2, un2, hok2, rv, ev, fin⟩ := hq'
      subst ev
      obtain ⟨h2, g2, d2, t2, os'⟩ := s'
      have J : Inv X pins σ H2 ⟨h2, g2, d2, t2, os'⟩ := I2.call' (ch := []) os2 un2 hok2 bare2 (fun b z => absurd z (by simp))
      obtain ⟨H3, J3, q3⟩ := mkv_end J fin
      exact ⟨rv, .ref (hp.objs.size + 1), H3, J3, rfl, q3⟩
    | next => exact False.elim hq'
    | brk => exact False.elim hq'
    | cont => exact False.elim hq'
theorem exHp_one {H1 : Hp} {C a d t1 : Addr} {gs0 gs : List (PySem.Str × V)} (na : H1 a = none) (ne : d ≠ a) : upd (upd (upd (upd (upd H1 a (exo a C none)) d (exd d gs0)) a (exo a C (some d))) a (.frz (exB C (some d) t1) (exo a C (some d)))) d (.xd gs) = exHp H1 C a t1 (some (d, gs)) := by
  show _ = upd (upd H1 a (.frz (exB C (some d) t1) (exo a C (some d)))) d (.xd gs)
  funext b
  by_cases hb : b = d
  · rw [hb, upd_same, upd_same]
  · rw [upd_ne hb, upd_ne hb]
    by_cases hba : b = a
    · rw [hba, upd_same, upd_same]
    · rw [upd_ne hba, upd_ne hba, upd_ne hb, upd_ne hba, upd_ne hba]
theorem pe_v1 {x : PySem.Str} (ox : OexC X.K C) (iC : PySem.W.findIn X.K (.ref C) "__init__" = some (some (.ref fI))) (tI : PySem.W.typeIn X.K (.ref fI) = some (.type "function")) (F1 : FnOk X.prog X.w X.K X.mg X.base (L2.CX X.prog X.w) k fI fd ["self", x] (spE1 C x)) (hr : Room (k + 1) X.A)
    (hb : Binds X.K fd ["self", x] []) (tk : Takes X W) (hg : Gl X cn) (hm : X.mg cn = some (.ref C)) (hdb : (cn == ("__debug__" : PySem.Str)) = false) (ha : PA X [e] (RV T RX W (evs G cl as))) (hs : isStar e = false) : PE X (.Call (.Name cn p) [e] [] pos) (tXv [x] C (RV T RX W (evs G cl as))) := by
  refine impE (pe_mkv ox iC tI F1 hr hb (pass_none tk) hg hm ha hdb (star_of hs) rfl) fun z H Q q => RV.mono q fun vs H1 ⟨hl, q⟩ => ?_
  rcases q with ⟨h, _⟩ | ⟨_, q⟩
  · cases h
  match vs, hl with
  | [v], _ =>
    refine ⟨by simp, fun a na => ⟨a, v, rfl, upd_same, fun d nd ne => ⟨rfl, .inr ⟨d, [(x, v)], upd_same, (upd_ne ne).trans upd_same, ne, fun t1 => ?_⟩⟩⟩⟩
    rw [upd_ne ne] at nd
    rw [exHp_one na ne]
    exact q a d t1 na nd ne
theorem pe_v2 {x y : PySem.Str} {e2 : Expr} (ox : OexC X.K C) (iC : PySem.W.findIn X.K (.ref C) "__init__" = some (some (.ref fI))) (tI : PySem.W.typeIn X.K (.ref fI) = some (.type "function")) (F1 : FnOk X.prog X.w X.K X.mg X.base (L2.CX X.prog X.w) k fI fd ["self", x, y] (spE2 C x y)) (hr : Room (k + 1) X.A)
    (hb : Binds X.K fd ["self", x, y] []) (tk : Takes X W) (hg : Gl X cn) (hm : X.mg cn = some (.ref C)) (hdb : (cn == ("__debug__" : PySem.Str)) = false) (ha : PA X [e, e2] (RV T RX W (evs G cl as))) (hs : isStar e = false) (hs2 : isStar e2 = false) : PE X (.Call (.Name cn p) [e, e2] [] pos) (tXv [x, y] C (RV T RX W (evs G cl as))) := by
  refine impE (pe_mkv ox iC tI F1 hr hb (pass_none tk) hg hm ha hdb (star_of hs) (any_star (by simp [hs2]))) fun z H Q q => RV.mono q fun vs H1 ⟨hl, q⟩ => ?_
  rcases q with ⟨h, _⟩ | ⟨_, q⟩
  · cases h
  match vs, hl with
  | [v, u], _ =>
    refine ⟨by simp, fun a na => ⟨a, v, u, rfl, upd_same, fun d nd ne => ⟨rfl, .inr ⟨d, [(y, u), (x, v)], (upd_ne (Ne.symm ne)).trans upd_same, upd_same, ne, fun t1 => ?_⟩⟩⟩⟩
    rw [upd_ne ne] at nd
    have e3 : upd (upd (upd (upd (upd (upd H1 a (exo a C none)) d (exd d [(x, v)])) a (exo a C (some d))) d (exd d [(y, u), (x, v)])) a (.frz (exB C (some d) t1) (exo a C (some d)))) d (.xd [(y, u), (x, v)]) = exHp H1 C a t1 (some (d, [(y, u), (x, v)])) := by
      show _ = upd (upd H1 a (.frz (exB C (some d) t1) (exo a C (some d)))) d (.xd [(y, u), (x, v)])
      funext b
      by_cases hb : b = d
      · rw [hb, upd_same, upd_same]
      · rw [upd_ne hb, upd_ne hb]
        by_cases hba : b = a
        · rw [hba, upd_same, upd_same]
        · rw [upd_ne hba, upd_ne hba, upd_ne hb, upd_ne hba, upd_ne hb, upd_ne hba]
    rw [e3]
    exact q a d t1 na nd ne
theorem pe_v0 (ox : OexC X.K C) (iC : PySem.W.findIn X.K (.ref C) "__init__" = some (some (.ref fI))) (tI : PySem.W.typeIn X.K (.ref fI) = some (.type "function")) (F1 : FnOk X.prog X.w X.K X.mg X.base (L2.CX X.prog X.w) k fI fd ["self"] (spE0 C)) (hr : Room (k + 1) X.A)
    (hb : Binds X.K fd ["self"] []) (tk : Takes X W) (hg : Gl X cn) (hm : X.mg cn = some (.ref C)) (hdb : (cn == ("__debug__" : PySem.Str)) = false) : PE X (.Call (.Name cn p) [] [] pos) (tXv [] C (RV T RX W (evs G cl .nil))) := by
  refine ⟨fun pins s z H Q I ⟨P, F9, σ, rel, q⟩ => ?_⟩
  have q0 : ∀ a t1, H a = none → Q (.ref a) (exHp H C a t1 none) := by
    have q := q F9 H [] (Same.refl _) (.nil rel)
    rcases q.2 with ⟨_, h⟩ | ⟨h, _⟩
    · exact h
    · exact absurd rfl h
  obtain ⟨nm, qn, NN, bs, bm, sn, sub, ab, col, dd, k0, k1, k2, k3, k5, inK, refs⟩ := ox.cls
  have hx := pass_none (X := X) tk
  refine wpAny_Call_Name_kw (ld_glob I hg hm ?_ hdb)
  refine PySem.W.callWith_K0 I.kIn ox.kC ?_
  show wpAny _ _ (call (.ref C) []) _ _ _
  obtain ⟨hp, g, dr, tt, os⟩ := s
  let a : Addr := hp.objs.size + 1
  have le : hp.objs.size ≤ a := Nat.le_succ _
  have nH : H a = none := I.hok.fresh le
  let hq : Heap := (hp.push (PySem.W.kdv_tup [])).push (PySem.HandSPX.excO C hp.objs.size)
  have kk : ∀ b o, hp.get? b = some o → hq.get? b = some o := fun b o e => Heap.get?_push_of_some _ (Heap.get?_push_of_some _ e)
  have ga : hq.get? a = some (PySem.HandSPX.excO C hp.objs.size) := by
    show ((hp.push (PySem.W.kdv_tup [])).push (PySem.HandSPX.excO C hp.objs.size)).get? (hp.objs.size + 1) = _
    heap_get
  have I2 : Inv X pins z (upd H a (exo a C none)) ⟨hq, g, dr, tt, os⟩ := I.laid (t' := tt) (a := a) (o := exo a C none) (h' := hq) kk le (exo_ok ga)
  have hv : Vals [V.ref a] [Value.ref a] := .cons rfl .nil
  have sp : spE0 C [V.ref a] (upd H a (exo a C none)) (fun v H2 => v = .non ∧ H2 = upd H a (exo a C none)) (fun _ _ _ => False) := ⟨a, rfl, upd_same, rfl, rfl⟩
  have bd := hb _ [Value.ref a] I2.kIn rfl
  refine wpAny_call (PySem.HandSPX.call_own F.excBase_ValueError (fun Y => PySem.HandSPX.refsVE_contains Y bm refs) (I.kIn _ _ inK) (PySem.W.looks_findIn I.kIn iC)
    (fun self => PySem.W.bind_fn I.kIn self tI) (by rw [sizeLine_eq]; exact Nat.zero_le _)
    (codeAny_mono (F1.run _ X.stack _ _ ⟨[Value.ref a], []⟩ [Value.ref a] _ _ (fun _ _ _ => False) (hr.make C [] []) (I2.env0.make C [] []) bd hv sp) fun r s' got => ?_))
  cases r with
  | error er => exact hx pins z _ _ er s' I2 got
  | ok fl =>
    cases fl with
    | ret u =>
      obtain ⟨v, H2, os2, bare2, un2, ok2, rv, ev, eH⟩ := got
      subst ev eH
      obtain ⟨h2, g2, d2, t2, os'⟩ := s'
      have J : Inv X pins z (upd H a (exo a C none)) ⟨h2, g2, d2, t2, os'⟩ := I2.call' (ch := []) os2 un2 ok2 bare2 (fun b z => absurd z (by simp))
      obtain ⟨H3, J3, q3⟩ := mkv_end (Q := Q) (a := a) (C := C) J (.inl ⟨upd_same, fun t1 => by
        have e : upd (upd H a (exo a C none)) a (.frz (exB C none t1) (exo a C none)) = exHp H C a t1 none := by
          show _ = upd H a (.frz (exB C none t1) (exo a C none))
          funext b
          by_cases hba : b = a
          · rw [hba, upd_same, upd_same]
          · rw [upd_ne hba, upd_ne hba, upd_ne hba]
        rw [e]
        exact q0 a t1 nH⟩)
      exact ⟨rv, .ref a, H3, J3, rfl, q3⟩
    | next => exact got.elim
    | brk => exact got.elim
    | cont => exact got.elim
theorem RDf.app {F : Hp} : ∀ {xs ys : List (Nat × D)} {us vs : List (PySem.Str × V)}, RDf T F xs us → RDf T F ys vs → RDf T F (xs ++ ys) (us ++ vs)
  | [], _, _, _, h, k => by
    rw [show _ = [] from h]
    exact k
  | (i, x) :: xs, _, _, _, h, k => by
    obtain ⟨v, s, hk, e, r1, r2⟩ := h
    subst e
    exact ⟨v, _, hk, rfl, r1, RDf.app r2 k⟩
theorem rdf_zip {F : Hp} : ∀ {ks : List Nat} {ds : List D} {vs : List V}, (∀ k ∈ ks, k < T.nf) → ds.length = ks.length → RDs T F ds vs → RDf T F (ks.zip ds).reverse (((ks.map T.fN).zip vs).reverse)
  | [], _, _, _, _, _ => by simp [RDf]
  | k :: ks, [], _, _, h, _ => by cases h
  | k :: ks, d :: ds, _, hk, hl, r => by
    obtain ⟨v, s, e, r1, r2⟩ := r
    subst e
    rw [List.zip_cons_cons, List.reverse_cons, List.map_cons, List.zip_cons_cons, List.reverse_cons]
    refine RDf.app (rdf_zip (fun k m => hk k (List.mem_cons_of_mem _ m)) (by simpa using hl) r2) ?_
    exact ⟨v, [], hk k List.mem_cons_self, rfl, r1, rfl⟩
theorem se_exm {c : Nat} {ks : List Nat} {ps : List PySem.Str} (hc : c ∈ T.xs) (hk : ∀ k ∈ ks, k < T.nf) (hps : ks.map T.fN = ps) (pm : PE X (.Call (.Name cn p) es [] pos) (tXv ps (T.cA c) (RV T RX W (evs G cl as)))) : SE T RX W G cl X (.Call (.Name cn p) es [] pos) (.exm c ks as) :=
  SE.of (fun _ => rfl) (fun _ _ => rfl) (impE pm fun z H Q ⟨P, F, σ, rel, q⟩ => by
    subst hps
    refine (fun (h : RV T RX W (evs G cl as) z H fun us H1 => ∃ F1 σ1 os, Same F F1 ∧ EvR T P z F1 H1 σ1 os us ∧ Post T RX W P z F1 Q (if os.length = ks.length then .ok (.d (.exn c (ks.zip (O.frzL os)).reverse)) σ1 else .bad)) => ?_) (RV.bind rel q)
    obtain ⟨P', F', σ', rel', q'⟩ := h
    refine ⟨P', F', σ', rel', ?_⟩
    revert q'
    generalize evs G cl as σ' = r
    intro q'
    cases r with
    | exc x σ1 => exact q'
    | bad => exact q'
    | ok os σ1 =>
      intro F2 H2 us s2 ev2
      obtain ⟨F1, σ1, os, s, ev1, q1⟩ := q' F2 H2 us s2 ev2
      by_cases hl : os.length = ks.length
      · rw [if_pos hl] at q1
        obtain ⟨F', s, rel, rs⟩ := ev1.frz
        have hu : us.length = (ks.map T.fN).length := by rw [List.length_map, ← hl, ev1.len]
        have hf : (O.frzL os).length = ks.length := by rw [ROs_frz_len]; exact hl
        refine ⟨hu, ?_⟩
        by_cases hn : ks.map T.fN = []
        · have hk0 : ks = [] := List.map_eq_nil_iff.mp hn
          refine .inl ⟨hn, fun a t1 na => ?_⟩
          obtain ⟨s2, rel2⟩ := rel.newF (o := .frz (exB (T.cA c) none t1) (exo a (T.cA c) none)) na
          refine q1 _ _ (.ref a) (s.trans s2) ⟨rel2, a, none, t1, [], hc, rfl, upd_same, .inl ⟨rfl, rfl⟩, ?_⟩
          rw [hk0]
          rfl
        · refine .inr ⟨hn, fun a d t1 na nd ne => ?_⟩
          obtain ⟨s2, rel2⟩ := rel.newF (o := .frz (exB (T.cA c) (some d) t1) (exo a (T.cA c) (some d))) na
          obtain ⟨s3, rel3⟩ := rel2.newF (p := d) (o := .xd (((ks.map T.fN).zip us).reverse)) ((upd_ne ne).trans nd)
          exact q1 _ _ (.ref a) (s.trans (s2.trans s3)) ⟨rel3, a, some d, t1, _, hc, rfl, (upd_ne (Ne.symm ne)).trans upd_same, .inr ⟨d, rfl, upd_same⟩, rdf_zip hk hf (rs.mono (s2.trans s3))⟩
      · rw [if_neg hl] at q1
        exact q1.elim)
end
end Tf
end
section
set_option Elab.async false
set_option linter.all false
set_option maxRecDepth 100000
set_option maxHeartbeats 4000000
namespace Tf
open PySem PySem.Spec PyProof.Rows L2
section
variable {X : Cx} {T : Tb} {RX : XR} {W : WX} {G : Prog} {cl : Call} {C : Addr} {n : PySem.Str} {e a b : Expr} {te : TE} {ea : E} {p pos : Pos}
theorem exn_at {pins : List (Addr × Obj)} {z : L2.St} {H : Hp} {s : Shared} {a C t1 : Addr} {od : Option Addr} {u : HO} (I : Inv X pins z H s) (e : H a = some (.frz (exB C od t1) u)) : s.heap.get? a = some (exB C od t1) := (show ObjOk X.prog X.w H s.heap a (.frz (exB C od t1) u) from I.hok a _ e).1
def tXfv (C : Addr) (n : PySem.Str) (te : TE) : TE := fun z H Q => te z H fun x H1 => ∃ a dd t1 u fs v, x = .ref a ∧ H1 a = some (.frz (exB C (some dd) t1) u) ∧ H1 dd = some (.xd fs) ∧ fs.lookup n = some v ∧ Q v H1
theorem pe_xfv (TX : XfC X.K C) (hno : PySem.W.findIn X.K (.ref C) n = some none) (he : PE X e te) (hb : attributeBase e n X.env (eval e X.env) = eval e X.env := by rfl) : PE X (.Attribute e n pos) (tXfv C n te) := by
  refine ⟨fun pins s σ H Q I h => ?_⟩
  refine attr_of hb (thn (he.run pins s σ H _ I h) fun u s1 hh => ?_)
  obtain ⟨x, H1, I1, rx, a, dd, t1, u1, fs, v, ex, e1, ea, l, q⟩ := hh
  subst ex
  obtain rfl : u = Value.ref a := rx
  have ha := exn_at I1 e1
  have hx : ObjOk X.prog X.w H1 s1.heap dd (.xd fs) := I1.hok dd _ ea
  obtain ⟨mA, hns, hr⟩ := hx
  obtain ⟨od, ho, hl⟩ := lookIn_ns hns
  obtain ⟨u, hu, ru⟩ := RelO.some_of (v := v) (o := mA n) (by rw [← l]; exact hr n)
  have J : PySem.W.InstAt s1.heap a (exB C (some dd) t1) C (some od) := ⟨ha, rfl, by unfold PySem.W.notCls exB; rfl, ho⟩
  exact HandSPX.exc_get I1.kIn J TX.ga TX.gg TX.exC (PySem.W.findObj_own TX.hdC hno rfl (by rw [hl, hu])) (handed_of ru) ⟨v, H1, I1.tok _, ru, q⟩
theorem se_fldx {c f : Nat} (ok : TbOk X.K T) (TX : XfC X.K (T.cA c)) (hf : f < T.nf) (hx : T.fN f = n) (hno : PySem.W.findIn X.K (.ref (T.cA c)) n = some none) (ha : SE T RX W G cl X a ea) (hb : attributeBase a n X.env (eval a X.env) = eval a X.env) :
    SE T RX W G cl X (.Attribute a n pos) (.fldx ea c f) :=
  SE.of (fun _ => rfl) (fun _ _ => rfl) (impE (pe_xfv TX hno ha.v hb) fun z H Q ⟨P, F, σ, rel, q⟩ => by
    refine R.mono (R.bind rel q) fun u H1 ⟨F1, σ1, v, s, rv, q1⟩ => ?_
    obtain ⟨w, ew, q2⟩ := Post.opt q1
    clear q q1
    cases v with
    | d x =>
      obtain ⟨rel1, r⟩ := rv
      cases x with
      | exn k fs =>
        by_cases hk : k = c
        · subst hk
          have ew : fs.lookup f = some w := by
            have : (if k = k then fs.lookup f else none) = some w := ew
            rwa [if_pos rfl] at this
          obtain ⟨a, od, t1, gs, hc, e1, e2, e3, r⟩ := r
          obtain ⟨y', l, ry⟩ := RDf.get ok.inj hf r ew
          obtain ⟨A, k1⟩ := id rel1
          rcases e3 with ⟨g1, _⟩ | ⟨d, g1, g2⟩
          · rw [g1] at l
            cases l
          · subst g1
            exact ⟨a, d, t1, _, gs, y', e1, k1.fH _ _ e2, k1.fH _ _ g2, hx ▸ l, q2 F1 H1 y' (Same.refl _) ⟨rel1, ry⟩⟩
        · have ew : (if k = c then fs.lookup f else none) = some w := ew
          rw [if_neg hk] at ew
          cases ew
      | _ => cases ew
    | b i o => cases ew
    | o o => cases ew)
structure IsxOk (K : PySem.W.Frag) (T : Tb) (cv : Value) (cs : List Nat) : Prop where
  ex : ∀ c ∈ T.xs, ExcC K (T.cA c)
  kit : ∀ c ∈ T.xs, PySem.W.kitOne K (.ref (T.cA c)) cv = some (cs.contains c)
theorem se_isx {cs : List Nat} {vc : V} {cv : Value} (ok : IsxOk X.K T cv cs) (ha : SE T RX W G cl X a ea) (hs : isStar a = false) (hb : PE X b (tC vc)) (hbs : isStar b = false) (hvc : ∀ v, L2.RelV vc v → v = cv) (hg : Gl X "isinstance") (hm : X.mg "isinstance" = none) :
    SE T RX W G cl X (.Call (.Name "isinstance" p) [a, b] [] pos) (.isx ea cs) :=
  SE.of (fun _ => rfl) (fun _ _ => rfl) ⟨fun pins s z H Q I ⟨P, F, σ, rel, q⟩ => by
    refine wpAny_Call_Name_kw (ld_blt I hg hm (by decide +kernel : bootBuiltins "isinstance" = some (.builtin "isinstance")) ?_ (by decide) (by decide))
    have pa : PA X [a, b] (tCons (R T RX W (ev G cl .val ea)) (tCons (tC vc) tNil)) := pa_cons ha.v (pa_1 hb hbs) (star_of hs)
    have run := thn (pa.run pos pins s z H (fun us H1 => ∃ u F1 σ1 v, us = [u, vc] ∧ Same F F1 ∧ RelV T P F1 H1 σ1 z v u ∧ Post T RX W P z F1 Q (opt (exiV v cs) fun b => .ok (bl b) σ1)) I (R.mono (R.bind rel q) fun u H1 ⟨F1, σ1, v, h1, h2, h3⟩ => ⟨u, F1, σ1, v, rfl, h1, h2, h3⟩))
      (Q' := fun us s₁ => wpAny (model X.prog X.w) X.A (call (.builtin "isinstance") us) (EP X pins z Q) X.xe s₁) fun us s1 ⟨vs, H1, I1, r, u, F1, σ1, v, eu, sF, rv, q1⟩ => by
        subst eu
        obtain ⟨v1, w', e1, r1, r2⟩ := vals2 r
        subst e1
        rw [hvc w' r2]
        obtain ⟨b, eb, q2⟩ := Post.opt q1
        clear q1
        cases v with
        | d x =>
          obtain ⟨rel1, rx⟩ := rv
          cases x with
          | exn c fs =>
            obtain ⟨a0, od, t1, gs, hc, e1, e2, e3, _⟩ := rx
            subst e1
            obtain rfl : v1 = Value.ref a0 := r1
            obtain ⟨A, k1⟩ := id rel1
            have hat := exn_at I1 (k1.fH _ _ e2)
            have J : ∃ oo, PySem.W.InstAt s1.heap a0 (exB (T.cA c) od t1) (T.cA c) oo := by
              rcases e3 with ⟨_, g2⟩ | ⟨d, g1, g2⟩
              · subst g2
                exact ⟨none, hat, rfl, by unfold PySem.W.notCls exB; rfl, trivial⟩
              · subst g1
                have hx : ObjOk X.prog X.w H1 s1.heap d (.xd gs) := I1.hok d _ (k1.fH _ _ g2)
                obtain ⟨mA, hns, _⟩ := hx
                obtain ⟨od, ho, _⟩ := lookIn_ns hns
                exact ⟨some od, hat, rfl, by unfold PySem.W.notCls exB; rfl, ho⟩
            obtain ⟨oo, J⟩ := J
            have E := ok.ex c hc
            obtain ⟨cd, hcd, _⟩ := PySem.W.any_some E.hd
            have eb : some (cs.contains c) = some b := eb
            cases eb
            exact PySem.W.kia_one (PySem.W.kitx_exc (by rw [hcd]; rfl) E.hg E.hk E.hs E.ha E.hn E.ht E.hm) I1.kIn J (ok.kit c hc) (fun z => nomatch z) fun tk => ⟨.bl (cs.contains c), H1, I1.tok _, rfl, post_bl rel1 q2⟩
          | _ => cases eb
        | b i o => cases eb
        | o o => cases eb
    refine PyProof.Rows.callWith_builtin1 run (star_of hs) ?_
    rw [star_of hbs]
    rfl⟩
end
end Tf
end
section
set_option Elab.async false
set_option linter.all false
set_option maxRecDepth 100000
namespace Tf
open PySem PySem.Spec PyProof.Rows L2
section
variable {X : Cx} {N : Nm} {G : Prog} {cl : Call} {k c : Nat} {W : WX} {d : Fd} {cn x y : PySem.Str} {as : Es} {e e2 : Expr} {p p0 p1 p2 p3 p4 q1 q2 q3 q4 q5 r1 r2 r3 r4 r5 pos : Pos}
theorem Txt.mv0 (C : Txt X.prog X.w X.K X.mg X.base N G cl k) (hp : N.xcs.lookup c = some (d, [])) (hn : N.cn[c]? = some cn) (hr : Room (k + 2) X.A) (tk : Takes X W) (hg : Gl X cn) (_ha : PA X [] (RV (N.T X.K) (RXc (N.T X.K) N.xs N.xn) W (evs G cl .nil)))
    (hbody : defBody d.st = [.Expr (.Call (.Attribute (.Call (.Name "super" p0) [] [] p1) "__init__" p2) [] [] p3) p4] := by rfl)
    (S : ScopeX ["self"] ["self"] (defScope d.st) := by exact ⟨rfl, rfl, rfl, by decide +kernel, by decide +kernel, by decide +kernel, by decide +kernel, rfl, rfl⟩)
    (hself : ∃ ar, ((defArgs d.st).posonlyargs ++ (defArgs d.st).args).head? = some ar ∧ ar.arg = "self" := by exact ⟨_, rfl, rfl⟩) (hb : BindsX d ["self"] := by exact fun _ _ _ _ _ _ _ us hl => match us, hl with | [_], _ => rfl)
    (hl : (p2.endLine == p3.line) = true := by rfl) (hdb : (cn == ("__debug__" : PySem.Str)) = false := by rfl) :
    PE X (.Call (.Name cn p) [] [] pos) (tXv [] ((N.T X.K).cA c) (RV (N.T X.K) (RXc (N.T X.K) N.xs N.xn) W (evs G cl .nil))) := by
  have F := C.xc _ (mem_lkp hp)
  obtain ⟨fd, EI⟩ := F.ex
  have hb2 := EI.binds hb
  rw [hbody] at EI
  exact pe_v0 EI.ox EI.iC EI.tI (fn_ex0 (k := k) EI S hself C.gsup hl) (hr := hr.mono (by omega)) hb2 tk hg (C.gcls hn) hdb
theorem Txt.mv1 (C : Txt X.prog X.w X.K X.mg X.base N G cl k) (hp : N.xcs.lookup c = some (d, [x])) (hn : N.cn[c]? = some cn) (hr : Room (k + 2) X.A) (tk : Takes X W) (hg : Gl X cn) (ha : PA X [e] (RV (N.T X.K) (RXc (N.T X.K) N.xs N.xn) W (evs G cl as)))
    (hbody : defBody d.st = [.Expr (.Call (.Attribute (.Call (.Name "super" p0) [] [] p1) "__init__" p2) [.Name x q1] [] p3) p4, .Assign [.Attribute (.Name "self" q2) x q3] (.Name x q4) q5] := by rfl)
    (S : ScopeX ["self", x] ["self", x] (defScope d.st) := by exact ⟨rfl, rfl, rfl, by decide +kernel, by decide +kernel, by decide +kernel, by decide +kernel, rfl, rfl⟩)
    (hself : ∃ ar, ((defArgs d.st).posonlyargs ++ (defArgs d.st).args).head? = some ar ∧ ar.arg = "self" := by exact ⟨_, rfl, rfl⟩) (hb : BindsX d ["self", x] := by exact fun _ _ _ _ _ _ _ us hl => match us, hl with | [_, _], _ => rfl)
    (hl : (p2.endLine == p3.line) = true := by rfl) (hd : (x == ("__debug__" : PySem.Str)) = false := by rfl) (hcd : (x == ("__classdict__" : PySem.Str)) = false := by rfl) (hdb : (cn == ("__debug__" : PySem.Str)) = false := by rfl) (hs : isStar e = false := by rfl) :
    PE X (.Call (.Name cn p) [e] [] pos) (tXv [x] ((N.T X.K).cA c) (RV (N.T X.K) (RXc (N.T X.K) N.xs N.xn) W (evs G cl as))) := by
  have F := C.xc _ (mem_lkp hp)
  obtain ⟨fd, EI⟩ := F.ex
  have hb2 := EI.binds hb
  rw [hbody] at EI
  exact pe_v1 EI.ox EI.iC EI.tI (fn_ex1 (k := k) EI S hself C.gsup hl (F.no x (by simp)) hd hcd) (hr := hr.mono (by omega)) hb2 tk hg (C.gcls hn) hdb ha hs
theorem Txt.mv2 (C : Txt X.prog X.w X.K X.mg X.base N G cl k) (hp : N.xcs.lookup c = some (d, [x, y])) (hn : N.cn[c]? = some cn) (hr : Room (k + 2) X.A) (tk : Takes X W) (hg : Gl X cn) (ha : PA X [e, e2] (RV (N.T X.K) (RXc (N.T X.K) N.xs N.xn) W (evs G cl as)))
    (hbody : defBody d.st = [.Expr (.Call (.Attribute (.Call (.Name "super" p0) [] [] p1) "__init__" p2) [.Name x q1, .Name y r1] [] p3) p4, .Assign [.Attribute (.Name "self" q2) x q3] (.Name x q4) q5, .Assign [.Attribute (.Name "self" r2) y r3] (.Name y r4) r5] := by rfl)
    (S : ScopeX ["self", x, y] ["self", x, y] (defScope d.st) := by exact ⟨rfl, rfl, rfl, by decide +kernel, by decide +kernel, by decide +kernel, by decide +kernel, rfl, rfl⟩)
    (hself : ∃ ar, ((defArgs d.st).posonlyargs ++ (defArgs d.st).args).head? = some ar ∧ ar.arg = "self" := by exact ⟨_, rfl, rfl⟩) (hb : BindsX d ["self", x, y] := by exact fun _ _ _ _ _ _ _ us hl => match us, hl with | [_, _, _], _ => rfl)
    (hl : (p2.endLine == p3.line) = true := by rfl) (hd : (x == ("__debug__" : PySem.Str)) = false := by rfl) (hcd : (x == ("__classdict__" : PySem.Str)) = false := by rfl) (hd2 : (y == ("__debug__" : PySem.Str)) = false := by rfl) (hcd2 : (y == ("__classdict__" : PySem.Str)) = false := by rfl)
    (hdb : (cn == ("__debug__" : PySem.Str)) = false := by rfl) (hs : isStar e = false := by rfl) (hs2 : isStar e2 = false := by rfl) :
    PE X (.Call (.Name cn p) [e, e2] [] pos) (tXv [x, y] ((N.T X.K).cA c) (RV (N.T X.K) (RXc (N.T X.K) N.xs N.xn) W (evs G cl as))) := by
  have F := C.xc _ (mem_lkp hp)
  obtain ⟨fd, EI⟩ := F.ex
  have hb2 := EI.binds hb
  rw [hbody] at EI
  exact pe_v2 EI.ox EI.iC EI.tI (fn_ex2 (k := k) EI S hself C.gsup hl (F.no x (by simp)) (F.no y (by simp)) hd hcd hd2 hcd2) (hr := hr.mono (by omega)) hb2 tk hg (C.gcls hn) hdb ha hs hs2
end
section
variable {P : Program} {w : World} {K : PySem.W.Frag} {mg : PySem.Str → Option Value} {base : Heap} {N : Nm} {G : Prog} {cl : Call} {k c : Nat}
theorem Txt.isx (C : Txt P w K mg base N G cl k) {i : Nat} {p : Option Nat × String × List Nat} (h : N.ist[i]? = some p) : IsxOk K (N.T K) (N.isV K p) p.2.2 := by
  have q : N.isB K = true := (He.ba (He.ba C.parts.2.2.2.2.2.2.2.1).2).2
  have m := List.mem_of_getElem? h
  unfold Nm.isB at q
  have hne : N.ist.isEmpty = false := by
    cases e : N.ist with
    | nil => rw [e] at m; cases m
    | cons a b => rfl
  rw [hne, Bool.false_or] at q
  constructor
  · intro c hc
    obtain ⟨h1, _⟩ := He.ba (List.all_eq_true.mp q c hc)
    have ty := tyB_ok h1
    obtain ⟨pr, hpr, hpc⟩ := List.mem_map.mp (show c ∈ N.xcs.map (·.1) from hc)
    subst hpc
    have xf := (C.xc _ hpr).xf
    exact ⟨xf.ga, xf.gg, xf.exC, xf.hdC, ty.ha, ty.hn, ty.htk, ty.hm⟩
  · intro c hc
    obtain ⟨_, h2⟩ := He.ba (List.all_eq_true.mp q c hc)
    exact of_decide_eq_true (List.all_eq_true.mp h2 p m)
theorem Txt.xsm (C : Txt P w K mg base N G cl k) (h : c ∈ N.xs) : c ∈ (N.T K).xs := h
theorem Txt.ksm (C : Txt P w K mg base N G cl k) {ks : List Nat} (h : ∀ i ∈ ks, i < N.fld.length) : ∀ i ∈ ks, i < (N.T K).nf := h
end
end Tf
end
section
set_option Elab.async false
set_option linter.all false
set_option maxRecDepth 100000
set_option maxHeartbeats 4000000
namespace Tf.P
open Tf PySem PySem.Spec PyProof.Rows L2
section
variable {w : World} {K : PySem.W.Frag} {mg : PySem.Str → Option Value} {base : Heap} {cl : Call} {k : Nat}
abbrev RXP (K : PySem.W.Frag) : XR := RXc (N.T K) N.xs N.xn
def OkF (w : World) (K : PySem.W.Frag) (mg : PySem.Str → Option Value) (base : Heap) (cl : Call) (k : Nat) (Nn : List PySem.Str) (q : PySem.Str) (st : Stmt) (D : DefI) : Prop :=
  ∀ (C : Txt pg w K mg base N G cl k) (O : OwnIts pg w K mg (N.T K) G) (wt : Nat) {fa : Addr} {cdv : Value} (A : Around) (outer : List Env) (s : Shared) (H : Hp) (E : XK) (z0 : L2.St) (hr : Room (k + 8) (A.deeper (envOfC q (defScope st) s.heap.objs.size fa cdv))),
    SSs (N.T K) (RXP K) (fun c d _ H => E c d H) (lendIx D.modes) z0 G cl wt (cxOf (L2.CX pg w) pg w K mg base Nn q (defScope st) fa cdv A outer s H E) (defBody st) D.body
theorem okF {Nn ps : List PySem.Str} {q : PySem.Str} {st : Stmt} {D : DefI} (sc : FnScope Nn ps (defScope st)) (h : ∀ (C : Txt pg w K mg base N G cl k) (O : OwnIts pg w K mg (N.T K) G) (wt : Nat) (fa : Addr) (cdv : Value) (A : Around) (outer : List Env) (s : Shared) (H : Hp) (E : XK) (z0 : L2.St),
      Room (k + 8) (A.deeper (envOfC q (defScope st) s.heap.objs.size fa cdv)) → Nn.Nodup → Room k (A.deeper (envOfC q (defScope st) s.heap.objs.size fa cdv)) → Room (k + 1) (A.deeper (envOfC q (defScope st) s.heap.objs.size fa cdv)) → Room (k + 2) (A.deeper (envOfC q (defScope st) s.heap.objs.size fa cdv)) → Room (k + 3) (A.deeper (envOfC q (defScope st) s.heap.objs.size fa cdv)) → Room (k + 6) (A.deeper (envOfC q (defScope st) s.heap.objs.size fa cdv)) → Room (k + 7) (A.deeper (envOfC q (defScope st) s.heap.objs.size fa cdv)) →
      Takes (cxOf (L2.CX pg w) pg w K mg base Nn q (defScope st) fa cdv A outer s H E) (fun c d _ H => E c d H) → PassesOwn (model pg w) (A.deeper (envOfC q (defScope st) s.heap.objs.size fa cdv)) (envOfC q (defScope st) s.heap.objs.size fa cdv) (cxOf (L2.CX pg w) pg w K mg base Nn q (defScope st) fa cdv A outer s H E).xe →
      SSs (N.T K) (RXP K) (fun c d _ H => E c d H) (lendIx D.modes) z0 G cl wt (cxOf (L2.CX pg w) pg w K mg base Nn q (defScope st) fa cdv A outer s H E) (defBody st) D.body) : OkF w K mg base cl k Nn q st D :=
  fun C O wt _ _ A outer s H E z0 hr => h C O wt _ _ A outer s H E z0 hr sc.nd (hr.mono (by omega)) (hr.mono (by omega)) (hr.mono (by omega)) (hr.mono (by omega)) (hr.mono (by omega)) (hr.mono (by omega)) (takes_of rfl rfl rfl rfl) PassesOwn.leaving
theorem stepF {n wt i : Nat} {d : Fd} {D : DefI} {Nn ps : List PySem.Str} (sc : FnScope Nn ps (defScope d.st)) (e1 : G.defs[i]? = some D) (e2 : D.star = false) (e3 : D.np = ps.length) (e4 : D.ns = Nn.length) (ea : N.fA K i = d.at_.a K)
    (hb : ∀ (kV doc pm cdv ct : Value) (an : Option Addr) (us : List Value), us.length = ps.length → bindArgs (PySem.W.fnOf d.name d.qual (defArgs d.st) (defBody d.st) (defScope d.st) .none kV doc pm an cdv ct) ⟨us, []⟩ = pure (ps.zip us)) (ok : OkF w K mg base (callD G wt n) k Nn d.qual d.st D)
    (C : Txt pg w K mg base N G (callD G wt n) k) (O : OwnIts pg w K mg (N.T K) G) (h : fnV K (d.at_.a K) = d.val [] ∧ codeB K (d.at_.a K) d.qual = true) : FnR pg w K mg base (L2.CX pg w) (k + 9) (N.fA K i) (spD (N.T K) (RXP K) (callD G wt (n + 1)) i) := by
  obtain ⟨oc, od, osl, kV, doc, pm, an, cdv, ct, lk, hc⟩ := fnV_ok h.1 h.2
  rw [← ea] at lk
  have F0 := fn_stepO (k := k + 8) lk hc sc e1 e2 e3 e4 fun A outer s H E z0 hr => ok C O wt A outer s H E z0 hr
  have F1 := F0.raw (Binds.all (hb kV doc pm cdv ct an)) .nil
  exact F1.imp fun vs H Q E h => by rw [List.append_nil]; exact h
theorem se_v {T : Tb} {RX : XR} {W : WX} {X : Cx} {cl : Call} {i : Nat} {x : PySem.Str} {pos : Pos} (h : (X.N[i]?, X.env.scope.names.lookup x, x == ("__debug__" : PySem.Str), x == ("__classdict__" : PySem.Str)) = (some x, some .local, false, false)) : SE T RX W G cl X (.Name x pos) (.var i) :=
  se_var (congrArg (·.1) h) (.inl (congrArg (·.2.1) h)) (congrArg (·.2.2.1) h) (congrArg (·.2.2.2) h)
theorem f0_sc : FnScope f0_N ["a", "b"] (defScope (topS 12)) := ⟨rfl, rfl, rfl, by decide +kernel, rfl, by decide +kernel, by decide +kernel⟩
theorem f0_ok : OkF w K mg base cl k f0_N f0_d.qual (topS 12) f0 :=
  okF f0_sc fun C O wt _ _ A outer s H E z0 hr nd h0 h1 h2 h3 h6 h7 tk hp => (sss_cons (ss_par rfl nd rfl rfl (by decide) rfl rfl (pv_cons (se_bi rfl (se_v rfl) rfl rfl (C.gfree (i := 1) rfl) (by kernel_rfl) (by decide) rfl) (pv_cons (se_bi rfl (se_v rfl) rfl rfl (C.gfree (i := 1) rfl) (by kernel_rfl) (by decide) rfl) pv_nil rfl) rfl) rfl rfl (by decide) (by decide))
    (sss_cons (ss_whl hp (se_cmp (co_ne C.eq h6) (se_v rfl) (se_cst rfl) rfl) (sss_cons (ss_par rfl nd rfl rfl (by decide) rfl rfl (pv_cons (se_v rfl) (pv_cons (se_bin bo_mod (se_v rfl) (se_v rfl)) pv_nil rfl) rfl) rfl rfl (by decide) (by decide))
    sss_nil))
    (sss_cons (ss_ret (se_v rfl))
    sss_nil)))
theorem f1_sc : FnScope f1_N ["self", "top", "bottom"] (defScope (metS 15 0)) := ⟨rfl, rfl, rfl, by decide +kernel, rfl, by decide +kernel, by decide +kernel⟩
theorem f1_ok : OkF w K mg base cl k f1_N f1_d.qual (metS 15 0) f1 :=
  okF f1_sc fun C O wt _ _ A outer s H E z0 hr nd h0 h1 h2 h3 h6 h7 tk hp => (sss_cons (ss_ife (se_cmp (co_eq C.eq h6) (se_v rfl) (se_cst rfl) rfl)
    (sss_cons (ss_raise (by decide) rfl tk (C.mk1 rfl rfl h2 tk rfl (pv_cons (se_cst rfl) pv_nil rfl)) (evs_len rfl))
    sss_nil)
    sss_nil)
    (sss_cons (ss_asg (se_call (C.F 0 (lt_b rfl)) h0 tk (C.gfn (f := 0) rfl).2 rfl (C.gfn (f := 0) rfl).1 rfl (parg_cons rfl (pa_consV (se_v rfl) (pa_consV (se_v rfl) pa_nilR (.inl ⟨_, rfl, rfl⟩) (star_of rfl)) (.inl ⟨_, rfl, rfl⟩) (star_of rfl)))) nd rfl (.inl rfl) (by decide) rfl (.inl rfl))
    (sss_cons (ss_ife (se_cmp co_lt (se_v rfl) (se_cst rfl) rfl)
    (sss_cons (ss_asg (se_neg h0 tk C.neg (se_v rfl)) nd rfl (.inl rfl) (by decide) rfl (.inl rfl))
    sss_nil)
    sss_nil)
    (sss_cons (ss_sfld C.tb (lt_b rfl) rfl (se_bin bo_fdiv (se_v rfl) (se_v rfl)) rfl (.inl rfl) rfl rfl rfl)
    (sss_cons (ss_sfld C.tb (lt_b rfl) rfl (se_bin bo_fdiv (se_v rfl) (se_v rfl)) rfl (.inl rfl) rfl rfl rfl)
    sss_nil)))))
theorem f2_sc : FnScope f2_N ["self", "other"] (defScope (metS 15 3)) := ⟨rfl, rfl, rfl, by decide +kernel, rfl, by decide +kernel, by decide +kernel⟩
theorem f2_ok : OkF w K mg base cl k f2_N f2_d.qual (metS 15 3) f2 :=
  okF f2_sc fun C O wt _ _ A outer s H E z0 hr nd h0 h1 h2 h3 h6 h7 tk hp => (sss_cons (ss_ret (se_make (lt_b rfl) rfl (C.init_at (c := 0) (lt_b rfl) rfl).2 (C.F 1 (lt_b rfl)) h1 tk rfl (C.gcls rfl) rfl (parg_cons rfl (pa_consV (se_bin (bo_add h0 tk C.add) (se_bin (bo_mul h0 tk C.mul) (se_fld C.tb (se_v rfl) (lt_b rfl) rfl rfl) (se_fld C.tb (se_v rfl) (lt_b rfl) rfl rfl)) (se_bin (bo_mul h0 tk C.mul) (se_fld C.tb (se_v rfl) (lt_b rfl) rfl rfl) (se_fld C.tb (se_v rfl) (lt_b rfl) rfl rfl))) (pa_consV (se_bin (bo_mul h0 tk C.mul) (se_fld C.tb (se_v rfl) (lt_b rfl) rfl rfl) (se_fld C.tb (se_v rfl) (lt_b rfl) rfl rfl)) pa_nilR (.inl ⟨_, rfl, rfl⟩) (star_of rfl)) (.inl ⟨_, rfl, rfl⟩) (star_of rfl)))))
    sss_nil)
theorem f3_sc : FnScope f3_N ["self", "other"] (defScope (metS 15 4)) := ⟨rfl, rfl, rfl, by decide +kernel, rfl, by decide +kernel, by decide +kernel⟩
theorem f3_ok : OkF w K mg base cl k f3_N f3_d.qual (metS 15 4) f3 :=
  okF f3_sc fun C O wt _ _ A outer s H E z0 hr nd h0 h1 h2 h3 h6 h7 tk hp => (sss_cons (ss_ret (se_make (lt_b rfl) rfl (C.init_at (c := 0) (lt_b rfl) rfl).2 (C.F 1 (lt_b rfl)) h1 tk rfl (C.gcls rfl) rfl (parg_cons rfl (pa_consV (se_bin (bo_sub h0 tk C.sub) (se_bin (bo_mul h0 tk C.mul) (se_fld C.tb (se_v rfl) (lt_b rfl) rfl rfl) (se_fld C.tb (se_v rfl) (lt_b rfl) rfl rfl)) (se_bin (bo_mul h0 tk C.mul) (se_fld C.tb (se_v rfl) (lt_b rfl) rfl rfl) (se_fld C.tb (se_v rfl) (lt_b rfl) rfl rfl))) (pa_consV (se_bin (bo_mul h0 tk C.mul) (se_fld C.tb (se_v rfl) (lt_b rfl) rfl rfl) (se_fld C.tb (se_v rfl) (lt_b rfl) rfl rfl)) pa_nilR (.inl ⟨_, rfl, rfl⟩) (star_of rfl)) (.inl ⟨_, rfl, rfl⟩) (star_of rfl)))))
    sss_nil)
theorem f4_sc : FnScope f4_N ["self"] (defScope (metS 15 5)) := ⟨rfl, rfl, rfl, by decide +kernel, rfl, by decide +kernel, by decide +kernel⟩
theorem f4_ok : OkF w K mg base cl k f4_N f4_d.qual (metS 15 5) f4 :=
  okF f4_sc fun C O wt _ _ A outer s H E z0 hr nd h0 h1 h2 h3 h6 h7 tk hp => (sss_cons (ss_ret (se_make (lt_b rfl) rfl (C.init_at (c := 0) (lt_b rfl) rfl).2 (C.F 1 (lt_b rfl)) h1 tk rfl (C.gcls rfl) rfl (parg_cons rfl (pa_consV (se_neg h0 tk C.neg (se_fld C.tb (se_v rfl) (lt_b rfl) rfl rfl)) (pa_consV (se_fld C.tb (se_v rfl) (lt_b rfl) rfl rfl) pa_nilR (.inl ⟨_, rfl, rfl⟩) (star_of rfl)) (.inl ⟨_, rfl, rfl⟩) (star_of rfl)))))
    sss_nil)
theorem f5_sc : FnScope f5_N ["self", "other"] (defScope (metS 15 6)) := ⟨rfl, rfl, rfl, by decide +kernel, rfl, by decide +kernel, by decide +kernel⟩
theorem f5_ok : OkF w K mg base cl k f5_N f5_d.qual (metS 15 6) f5 :=
  okF f5_sc fun C O wt _ _ A outer s H E z0 hr nd h0 h1 h2 h3 h6 h7 tk hp => (sss_cons (ss_ret (se_make (lt_b rfl) rfl (C.init_at (c := 0) (lt_b rfl) rfl).2 (C.F 1 (lt_b rfl)) h1 tk rfl (C.gcls rfl) rfl (parg_cons rfl (pa_consV (se_bin (bo_mul h0 tk C.mul) (se_fld C.tb (se_v rfl) (lt_b rfl) rfl rfl) (se_fld C.tb (se_v rfl) (lt_b rfl) rfl rfl)) (pa_consV (se_bin (bo_mul h0 tk C.mul) (se_fld C.tb (se_v rfl) (lt_b rfl) rfl rfl) (se_fld C.tb (se_v rfl) (lt_b rfl) rfl rfl)) pa_nilR (.inl ⟨_, rfl, rfl⟩) (star_of rfl)) (.inl ⟨_, rfl, rfl⟩) (star_of rfl)))))
    sss_nil)
theorem f6_sc : FnScope f6_N ["self", "other"] (defScope (metS 15 7)) := ⟨rfl, rfl, rfl, by decide +kernel, rfl, by decide +kernel, by decide +kernel⟩
theorem f6_ok : OkF w K mg base cl k f6_N f6_d.qual (metS 15 7) f6 :=
  okF f6_sc fun C O wt _ _ A outer s H E z0 hr nd h0 h1 h2 h3 h6 h7 tk hp => (sss_cons (ss_ret (SW.se (sw_and (se_isin C.tb (C.isok (.own 0) (fun j e => by cases e; exact lt_b rfl)) (se_v rfl) rfl (pe_glob (v := .ref ((P.N.T _).cA 0)) rfl (C.gcls rfl) rfl rfl) rfl (fun _ h => h) rfl (C.gfree (i := 15) rfl)) (sw_and (se_cmp (co_eq C.eq h6) (se_fld C.tb (se_v rfl) (lt_b rfl) rfl rfl) (se_fld C.tb (se_v rfl) (lt_b rfl) rfl rfl) rfl) (sw_and1 (se_cmp (co_eq C.eq h6) (se_fld C.tb (se_v rfl) (lt_b rfl) rfl rfl) (se_fld C.tb (se_v rfl) (lt_b rfl) rfl rfl) rfl))))))
    sss_nil)
theorem f7_sc : FnScope f7_N ["_law_cell"] (defScope (topS 17)) := ⟨rfl, rfl, rfl, by decide +kernel, rfl, by decide +kernel, by decide +kernel⟩
theorem f7_ok : OkF w K mg base cl k f7_N f7_d.qual (topS 17) f7 :=
  okF f7_sc fun C O wt _ _ A outer s H E z0 hr nd h0 h1 h2 h3 h6 h7 tk hp => (sss_cons (ss_ret (se_lst (pv_cons (se_bi rfl (se_v rfl) rfl rfl (C.gfree (i := 1) rfl) (by kernel_rfl) (by decide) rfl) (pv_cons (se_cst rfl) (pv_cons (se_cmp co_ge (se_bi rfl (se_v rfl) rfl rfl (C.gfree (i := 1) rfl) (by kernel_rfl) (by decide) rfl) (se_bin bo_pow (se_cst rfl) (se_cst rfl)) rfl) pv_nil rfl) rfl) rfl)))
    sss_nil)
theorem f8_sc : FnScope f8_N ["_law_pool", "_law_limit"] (defScope (topS 18)) := ⟨rfl, rfl, rfl, by decide +kernel, rfl, by decide +kernel, by decide +kernel⟩
theorem f8_ok : OkF w K mg base cl k f8_N f8_d.qual (topS 18) f8 :=
  okF f8_sc fun C O wt _ _ A outer s H E z0 hr nd h0 h1 h2 h3 h6 h7 tk hp => (sss_cons (ss_sidx (se_bin (bo_add h0 tk C.add) (se_idx (hu_of h0) (se_v rfl) (se_cst rfl) (fun _ _ => rfl)) (se_cst rfl)) (se_cst rfl) rfl (.inl rfl) rfl rfl rfl rfl (fun _ => rfl))
    (sss_cons (ss_ife (se_idx (hu_of h0) (se_v rfl) (se_cst rfl) (fun _ _ => rfl))
    (sss_cons (ss_asg (se_bin bo_mod (se_bi rfl (se_idx (hu_of h0) (se_v rfl) (se_cst rfl) (fun _ _ => rfl)) rfl rfl (C.gfree (i := 2) rfl) (by kernel_rfl) (by decide) rfl) (se_v rfl)) nd rfl (.inl rfl) (by decide) rfl (.inl rfl))
    (sss_cons (ss_sidx (se_bin bo_fdiv (se_bi rfl (se_idx (hu_of h0) (se_v rfl) (se_cst rfl) (fun _ _ => rfl)) rfl rfl (C.gfree (i := 2) rfl) (by kernel_rfl) (by decide) rfl) (se_v rfl)) (se_cst rfl) rfl (.inl rfl) rfl rfl rfl rfl (fun _ => rfl))
    (sss_cons (ss_ret (se_v rfl))
    sss_nil)))
    sss_nil)
    (sss_cons (ss_asg (se_bin bo_mod (se_bin bo_pow (se_bi rfl (se_bin (bo_add h0 tk C.add) (se_bin (bo_add h0 tk C.add) (se_bin (bo_mul h0 tk C.mul) (se_bin bo_mod (se_bi rfl (se_idx (hu_of h0) (se_v rfl) (se_cst rfl) (fun _ _ => rfl)) rfl rfl (C.gfree (i := 2) rfl) (by kernel_rfl) (by decide) rfl) (se_cst rfl)) (se_cst rfl)) (se_bin (bo_mul h0 tk C.mul) (se_idx (hu_of h0) (se_v rfl) (se_cst rfl) (fun _ _ => rfl)) (se_cst rfl))) (se_cst rfl)) rfl rfl (C.gfree (i := 2) rfl) (by kernel_rfl) (by decide) rfl) (se_cst rfl)) (se_cst rfl)) nd rfl (.inl rfl) (by decide) rfl (.inl rfl))
    (sss_cons (ss_asg (se_bin bo_mod (se_bin bo_pow (se_bi rfl (se_bin (bo_add h0 tk C.add) (se_bin (bo_add h0 tk C.add) (se_bin (bo_mul h0 tk C.mul) (se_v rfl) (se_cst rfl)) (se_bin (bo_mul h0 tk C.mul) (se_idx (hu_of h0) (se_v rfl) (se_cst rfl) (fun _ _ => rfl)) (se_cst rfl))) (se_cst rfl)) rfl rfl (C.gfree (i := 2) rfl) (by kernel_rfl) (by decide) rfl) (se_cst rfl)) (se_cst rfl)) nd rfl (.inl rfl) (by decide) rfl (.inl rfl))
    (sss_cons (ss_ret (se_bin bo_mod (se_bin bo_fdiv (se_v rfl) (se_cst rfl)) (se_v rfl)))
    sss_nil)))))
theorem f9_sc : FnScope f9_N ["_law_script", "_law_k"] (defScope (topS 19)) := ⟨rfl, rfl, rfl, by decide +kernel, rfl, by decide +kernel, by decide +kernel⟩
theorem f9_ok : OkF w K mg base cl k f9_N f9_d.qual (topS 19) f9 :=
  okF f9_sc fun C O wt _ _ A outer s H E z0 hr nd h0 h1 h2 h3 h6 h7 tk hp => (sss_cons (ss_ife (se_cmp co_lt (se_v rfl) (se_bi rfl (se_v rfl) rfl rfl (C.gfree (i := 0) rfl) (by kernel_rfl) (by decide) rfl) rfl)
    (sss_cons (ss_ret (se_idx (hu_of h0) (se_v rfl) (se_v rfl) (fun _ _ => rfl)))
    sss_nil)
    sss_nil)
    (sss_cons (ss_ret (se_cst rfl))
    sss_nil))
theorem f10_sc : FnScope f10_N ["_law_e"] (defScope (topS 20)) := ⟨rfl, rfl, rfl, by decide +kernel, rfl, by decide +kernel, by decide +kernel⟩
theorem f10_ok : OkF w K mg base cl k f10_N f10_d.qual (topS 20) f10 :=
  okF f10_sc fun C O wt _ _ A outer s H E z0 hr nd h0 h1 h2 h3 h6 h7 tk hp => (sss_cons (ss_asg (se_lst (pv_cons (se_isx (C.isx (i := 0) rfl) (se_v rfl) rfl (pe_glob (v := .ref ((P.N.T _).cA 2)) rfl (C.gcls rfl) rfl rfl) rfl (fun _ h => h) rfl (C.gfree (i := 15) rfl)) (pv_cons (se_isx (C.isx (i := 1) rfl) (se_v rfl) rfl (pe_glob (v := .ref ((P.N.T _).cA 3)) rfl (C.gcls rfl) rfl rfl) rfl (fun _ h => h) rfl (C.gfree (i := 15) rfl)) (pv_cons (se_isx (C.isx (i := 2) rfl) (se_v rfl) rfl (pe_glob (v := .ref ((P.N.T _).cA 4)) rfl (C.gcls rfl) rfl rfl) rfl (fun _ h => h) rfl (C.gfree (i := 15) rfl)) (pv_cons (se_isx (C.isx (i := 3) rfl) (se_v rfl) rfl (pe_glob (v := .ref ((P.N.T _).cA 5)) rfl (C.gcls rfl) rfl rfl) rfl (fun _ h => h) rfl (C.gfree (i := 15) rfl)) pv_nil rfl) rfl) rfl) rfl)) nd rfl (.inl rfl) (by decide) rfl (.inl rfl))
    (sss_cons (ss_ret (se_bin (bo_add h0 tk C.add) (se_v rfl) (se_lst (pv_cons (se_isx (C.isx (i := 4) rfl) (se_v rfl) rfl (pe_glob (v := .ref ((P.N.T _).cA 6)) rfl (C.gcls rfl) rfl rfl) rfl (fun _ h => h) rfl (C.gfree (i := 15) rfl)) (pv_cons (se_isx (C.isx (i := 5) rfl) (se_v rfl) rfl (pe_glob (v := .ref ((P.N.T _).cA 7)) rfl (C.gcls rfl) rfl rfl) rfl (fun _ h => h) rfl (C.gfree (i := 15) rfl)) (pv_cons (se_isx (C.isx (i := 6) rfl) (se_v rfl) rfl (pe_glob (v := .ref ((P.N.T _).cA 8)) rfl (C.gcls rfl) rfl rfl) rfl (fun _ h => h) rfl (C.gfree (i := 15) rfl)) pv_nil rfl) rfl) rfl))))
    sss_nil))
theorem f11_sc : FnScope f11_N ["_law_which", "_law_n", "_law_more"] (defScope (topS 21)) := ⟨rfl, rfl, rfl, by decide +kernel, rfl, by decide +kernel, by decide +kernel⟩
theorem f11_ok : OkF w K mg base cl k f11_N f11_d.qual (topS 21) f11 :=
  okF f11_sc fun C O wt _ _ A outer s H E z0 hr nd h0 h1 h2 h3 h6 h7 tk hp => (sss_cons (ss_ife (se_cmp (co_eq C.eq h6) (se_v rfl) (se_cst rfl) rfl)
    (sss_cons (ss_asg (se_exm (ps := ["n"]) (C.xsm (by decide)) (C.ksm (by decide)) rfl (C.mv1 rfl rfl h2 tk rfl (pv_cons (se_v rfl) pv_nil rfl))) nd rfl (.inl rfl) (by decide) rfl (.inl rfl))
    (sss_cons (ss_ret (se_lst (pv_cons (se_v rfl) (pv_cons (se_cmp (co_eq C.eq h6) (se_fldx C.tb (C.xf (c := 2) rfl) (lt_b rfl) rfl (C.xno (c := 2) rfl (by decide)) (se_v rfl) rfl) (se_v rfl) rfl) pv_nil rfl) rfl)))
    sss_nil))
    sss_nil)
    (sss_cons (ss_ife (se_cmp (co_eq C.eq h6) (se_v rfl) (se_cst rfl) rfl)
    (sss_cons (ss_asg (se_exm (ps := ["at"]) (C.xsm (by decide)) (C.ksm (by decide)) rfl (C.mv1 rfl rfl h2 tk rfl (pv_cons (se_v rfl) pv_nil rfl))) nd rfl (.inl rfl) (by decide) rfl (.inl rfl))
    (sss_cons (ss_ret (se_lst (pv_cons (se_v rfl) (pv_cons (se_cmp (co_eq C.eq h6) (se_fldx C.tb (C.xf (c := 3) rfl) (lt_b rfl) rfl (C.xno (c := 3) rfl (by decide)) (se_v rfl) rfl) (se_v rfl) rfl) pv_nil rfl) rfl)))
    sss_nil))
    sss_nil)
    (sss_cons (ss_ife (se_cmp (co_eq C.eq h6) (se_v rfl) (se_cst rfl) rfl)
    (sss_cons (ss_asg (se_exm (ps := ["kind"]) (C.xsm (by decide)) (C.ksm (by decide)) rfl (C.mv1 rfl rfl h2 tk rfl (pv_cons (se_v rfl) pv_nil rfl))) nd rfl (.inl rfl) (by decide) rfl (.inl rfl))
    (sss_cons (ss_ret (se_lst (pv_cons (se_v rfl) (pv_cons (se_cmp (co_eq C.eq h6) (se_fldx C.tb (C.xf (c := 4) rfl) (lt_b rfl) rfl (C.xno (c := 4) rfl (by decide)) (se_v rfl) rfl) (se_v rfl) rfl) pv_nil rfl) rfl)))
    sss_nil))
    sss_nil)
    (sss_cons (ss_ife (se_cmp (co_eq C.eq h6) (se_v rfl) (se_cst rfl) rfl)
    (sss_cons (ss_asg (se_exm (ps := ["outcome"]) (C.xsm (by decide)) (C.ksm (by decide)) rfl (C.mv1 rfl rfl h2 tk rfl (pv_cons (se_v rfl) pv_nil rfl))) nd rfl (.inl rfl) (by decide) rfl (.inl rfl))
    (sss_cons (ss_ret (se_lst (pv_cons (se_v rfl) (pv_cons (se_cmp (co_eq C.eq h6) (se_fldx C.tb (C.xf (c := 5) rfl) (lt_b rfl) rfl (C.xno (c := 5) rfl (by decide)) (se_v rfl) rfl) (se_v rfl) rfl) pv_nil rfl) rfl)))
    sss_nil))
    sss_nil)
    (sss_cons (ss_ife (se_cmp (co_eq C.eq h6) (se_v rfl) (se_cst rfl) rfl)
    (sss_cons (ss_asg (se_exm (ps := ["first", "second"]) (C.xsm (by decide)) (C.ksm (by decide)) rfl (C.mv2 rfl rfl h2 tk rfl (pv_cons (se_v rfl) (pv_cons (se_v rfl) pv_nil rfl) rfl))) nd rfl (.inl rfl) (by decide) rfl (.inl rfl))
    (sss_cons (ss_ret (se_lst (pv_cons (se_v rfl) (pv_cons (SW.se (sw_and (se_cmp (co_eq C.eq h6) (se_fldx C.tb (C.xf (c := 6) rfl) (lt_b rfl) rfl (C.xno (c := 6) rfl (by decide)) (se_v rfl) rfl) (se_v rfl) rfl) (sw_and1 (se_cmp (co_eq C.eq h6) (se_fldx C.tb (C.xf (c := 6) rfl) (lt_b rfl) rfl (C.xno (c := 6) rfl (by decide)) (se_v rfl) rfl) (se_v rfl) rfl)))) pv_nil rfl) rfl)))
    sss_nil))
    sss_nil)
    (sss_cons (ss_ret (se_lst (pv_cons (se_idx (hu_of h0) (se_lst (pv_cons (se_exm (ps := []) (C.xsm (by decide)) (C.ksm (by decide)) rfl (C.mv0 rfl rfl h2 tk rfl pv_nil)) (pv_cons (se_exm (ps := []) (C.xsm (by decide)) (C.ksm (by decide)) rfl (C.mv0 rfl rfl h2 tk rfl pv_nil)) pv_nil rfl) rfl)) (se_bin (bo_sub h0 tk C.sub) (se_v rfl) (se_cst rfl)) (fun _ _ => rfl)) (pv_cons (se_cst rfl) pv_nil rfl) rfl)))
    sss_nil))))))
theorem f12_sc : FnScope f12_N ["_law_script"] (defScope (topS 22)) := ⟨rfl, rfl, rfl, by decide +kernel, rfl, by decide +kernel, by decide +kernel⟩
theorem f12_ok : OkF w K mg base cl k f12_N f12_d.qual (topS 22) f12 :=
  okF f12_sc fun C O wt _ _ A outer s H E z0 hr nd h0 h1 h2 h3 h6 h7 tk hp => (sss_cons (ss_asg (se_call (C.F 7 (lt_b rfl)) h0 tk (C.gfn (f := 7) rfl).2 rfl (C.gfn (f := 7) rfl).1 rfl (parg_cons rfl (pa_consV (se_call (C.F 9 (lt_b rfl)) h0 tk (C.gfn (f := 9) rfl).2 rfl (C.gfn (f := 9) rfl).1 rfl (parg_cons rfl (pa_consV (se_v rfl) (pa_consV (se_cst rfl) pa_nilR (.inl ⟨_, rfl, rfl⟩) (star_of rfl)) (.inl ⟨_, rfl, rfl⟩) (star_of rfl)))) pa_nilR (.inl ⟨_, rfl, rfl⟩) (star_of rfl)))) nd rfl (.inl rfl) (by decide) rfl (.inl rfl))
    (sss_cons (ss_asg (se_idx (hu_of h0) (se_lst (pv_cons (se_bin (bo_sub h0 tk C.sub) (se_call (C.F 8 (lt_b rfl)) h0 tk (C.gfn (f := 8) rfl).2 rfl (C.gfn (f := 8) rfl).1 rfl (parg_cons rfl (pa_consL rfl (.inl rfl) rfl rfl (pa_consV (se_cst rfl) pa_nilR (.inl ⟨_, rfl, rfl⟩) (star_of rfl))))) (se_cst rfl)) (pv_cons (se_bin bo_mod (se_bi rfl (se_call (C.F 9 (lt_b rfl)) h0 tk (C.gfn (f := 9) rfl).2 rfl (C.gfn (f := 9) rfl).1 rfl (parg_cons rfl (pa_consV (se_v rfl) (pa_consV (se_cst rfl) pa_nilR (.inl ⟨_, rfl, rfl⟩) (star_of rfl)) (.inl ⟨_, rfl, rfl⟩) (star_of rfl)))) rfl rfl (C.gfree (i := 2) rfl) (by kernel_rfl) (by decide) rfl) (se_bin bo_pow (se_cst rfl) (se_cst rfl))) (pv_cons (se_make (lt_b rfl) rfl (C.init_at (c := 0) (lt_b rfl) rfl).2 (C.F 1 (lt_b rfl)) h1 tk rfl (C.gcls rfl) rfl (parg_cons rfl (pa_consV (se_call (C.F 8 (lt_b rfl)) h0 tk (C.gfn (f := 8) rfl).2 rfl (C.gfn (f := 8) rfl).1 rfl (parg_cons rfl (pa_consL rfl (.inl rfl) rfl rfl (pa_consV (se_cst rfl) pa_nilR (.inl ⟨_, rfl, rfl⟩) (star_of rfl))))) (pa_consV (se_cst rfl) pa_nilR (.inl ⟨_, rfl, rfl⟩) (star_of rfl)) (.inl ⟨_, rfl, rfl⟩) (star_of rfl)))) pv_nil rfl) rfl) rfl)) (se_call (C.F 8 (lt_b rfl)) h0 tk (C.gfn (f := 8) rfl).2 rfl (C.gfn (f := 8) rfl).1 rfl (parg_cons rfl (pa_consL rfl (.inl rfl) rfl rfl (pa_consV (se_cst rfl) pa_nilR (.inl ⟨_, rfl, rfl⟩) (star_of rfl))))) (fun _ _ => rfl)) nd rfl (.inl rfl) (by decide) rfl (.inl rfl))
    (sss_cons (ss_asg (se_idx (hu_of h0) (se_lst (pv_cons (se_tup (pv_cons (se_cst rfl) (pv_cons (se_cst rfl) pv_nil rfl) rfl)) (pv_cons (se_cst rfl) (pv_cons (se_neg h0 tk C.neg (se_cst rfl)) pv_nil rfl) rfl) rfl)) (se_call (C.F 8 (lt_b rfl)) h0 tk (C.gfn (f := 8) rfl).2 rfl (C.gfn (f := 8) rfl).1 rfl (parg_cons rfl (pa_consL rfl (.inl rfl) rfl rfl (pa_consV (se_cst rfl) pa_nilR (.inl ⟨_, rfl, rfl⟩) (star_of rfl))))) (fun _ _ => rfl)) nd rfl (.inl rfl) (by decide) rfl (.inl rfl))
    (sss_cons (ss_for hp rfl (pi_rng1R rfl (C.gfree (i := 14) rfl) (pv_cons (se_cst rfl) pv_nil rfl) rfl (evs_len rfl)) (pg_name (i := 4) nd rfl (.inr rfl) (.inl rfl)) (tgK (by decide))
    (sss_cons (ss_asgT (se_call (C.F 11 (lt_b rfl)) h0 tk (C.gfn (f := 11) rfl).2 rfl (C.gfn (f := 11) rfl).1 rfl (parg_cons rfl (pa_consV (se_var rfl (.inr (.inl rfl)) rfl rfl) (pa_consV (se_v rfl) (pa_consV (se_v rfl) pa_nilR (.inl ⟨_, rfl, rfl⟩) (star_of rfl)) (.inl ⟨_, rfl, rfl⟩) (star_of rfl)) (.inl ⟨_, rfl, rfl⟩) (star_of rfl)))) (pgSeq rfl (pgs_cons (pg_name (i := 5) nd rfl (.inl rfl) (.inl rfl)) (pgs_cons (pg_name (i := 6) nd rfl (.inl rfl) (.inl rfl)) pgs_nil rfl) rfl) rfl rfl) (tg_tup (tgs_cons (tgK (by decide)) (tgs_cons (tgK (by decide)) tgs_nil))) rfl rfl rfl)
    (sss_cons (ss_ife (SW.se (sw_or (se_not (se_v rfl)) (sw_or1 (se_cmp (co_ne C.eq h6) (se_call (C.F 10 (lt_b rfl)) h0 tk (C.gfn (f := 10) rfl).2 rfl (C.gfn (f := 10) rfl).1 rfl (parg_cons rfl (pa_consV (se_v rfl) pa_nilR (.inl ⟨_, rfl, rfl⟩) (star_of rfl)))) (se_comp rfl nd (ow := [("_law_k", 7)]) (pi_rng1R rfl (C.gfree (i := 14) rfl) (pv_cons (se_cst rfl) pv_nil rfl) rfl (evs_len rfl)) (blk_ok (by kernel_rfl)) (fun _ _ _ _ _ => (pg_name (i := 7) nd rfl (.inl rfl) (.inr rfl))) (fun _ => (tgW rfl)) (fun _ _ _ _ _ => pts_nilR) (fun _ _ _ _ _ => (se_cmp (co_eq C.eq h6) (se_v rfl) (se_var rfl (.inr (.inl rfl)) rfl rfl) rfl)) (fun _ => rfl)) rfl))))
    (sss_cons (ss_ret (se_cst rfl))
    sss_nil)
    sss_nil)
    (sss_cons (ss_ife (SW.se (sw_or (se_not (se_isx (C.isx (i := 7) rfl) (se_v rfl) rfl (pe_glob (v := .ref ((P.N.T _).cA 1)) rfl (C.gcls rfl) rfl rfl) rfl (fun _ h => h) rfl (C.gfree (i := 15) rfl))) (sw_or1 (se_not (se_isx (C.isx (i := 8) rfl) (se_v rfl) rfl (pe_bltn (v := .ty "ValueError") rfl (C.gfree (i := 13) rfl) (by kernel_rfl) rfl (by decide) rfl) rfl (fun _ h => h) rfl (C.gfree (i := 15) rfl))))))
    (sss_cons (ss_ret (se_cst rfl))
    sss_nil)
    sss_nil)
    sss_nil))) (fun _ => rfl))
    (sss_cons (ss_ret (se_cst rfl))
    sss_nil)))))
variable {n wt : Nat}
theorem f12_stepO (C : Txt pg w K mg base N G (callD G wt n) k) (O : OwnIts pg w K mg (N.T K) G) {oc cdv kV doc pm ct : Value} {od an : Option Addr} {osl : Array (Option Value)} (lk : K.lookup (N.fA K 12) = some ⟨oc, od, .func (PySem.W.fnOf f12_d.name f12_d.qual (defArgs f12_d.st) (defBody f12_d.st) (defScope f12_d.st) .none kV doc pm an cdv ct), osl⟩) (hc : PySem.W.codeIn K cdv f12_d.qual = true) :
    FnOk pg w K mg base (L2.CX pg w) (k + 9) (N.fA K 12) (PySem.W.fnOf f12_d.name f12_d.qual (defArgs f12_d.st) (defBody f12_d.st) (defScope f12_d.st) .none kV doc pm an cdv ct) ["_law_script"] (spD (N.T K) (RXP K) (callD G wt (n + 1)) 12) :=
  fn_stepO (k := k + 8) lk hc f12_sc rfl rfl rfl rfl fun A outer s H E z0 hr => f12_ok C O wt A outer s H E z0 hr
theorem own_all (hv : ∀ (i : Nat) (d : Fd), N.fds[i]? = some d → fnV K (d.at_.a K) = d.val [] ∧ codeB K (d.at_.a K) d.qual = true) (C : Txt pg w K mg base N G cl k) : OwnIts pg w K mg (N.T K) G := ⟨C.tb.inj, fun c f hc e => match c, hc, e with
  | 0, _, e => absurd (show none = some f from e) (by simp)
  | m + 1, h, _ => absurd (show m + 1 < 1 from h) (by omega)⟩
theorem steps (hv : ∀ (i : Nat) (d : Fd), N.fds[i]? = some d → fnV K (d.at_.a K) = d.val [] ∧ codeB K (d.at_.a K) d.qual = true) (C : Txt pg w K mg base N G (callD G wt n) k) : ∀ f, f < N.fds.length → FnR pg w K mg base (L2.CX pg w) (k + 9) (N.fA K f) (spD (N.T K) (RXP K) (callD G wt (n + 1)) f)
  | 0, _ => stepF (d := f0_d) f0_sc rfl rfl rfl rfl rfl (fun _ _ _ _ _ _ us hl => match us, hl with | [_, _], _ => rfl) f0_ok C (own_all hv C) (hv 0 _ rfl)
  | 1, _ => stepF (d := f1_d) f1_sc rfl rfl rfl rfl rfl (fun _ _ _ _ _ _ us hl => match us, hl with | [_, _, _], _ => rfl) f1_ok C (own_all hv C) (hv 1 _ rfl)
  | 2, _ => stepF (d := f2_d) f2_sc rfl rfl rfl rfl rfl (fun _ _ _ _ _ _ us hl => match us, hl with | [_, _], _ => rfl) f2_ok C (own_all hv C) (hv 2 _ rfl)
  | 3, _ => stepF (d := f3_d) f3_sc rfl rfl rfl rfl rfl (fun _ _ _ _ _ _ us hl => match us, hl with | [_, _], _ => rfl) f3_ok C (own_all hv C) (hv 3 _ rfl)
  | 4, _ => stepF (d := f4_d) f4_sc rfl rfl rfl rfl rfl (fun _ _ _ _ _ _ us hl => match us, hl with | [_], _ => rfl) f4_ok C (own_all hv C) (hv 4 _ rfl)
  | 5, _ => stepF (d := f5_d) f5_sc rfl rfl rfl rfl rfl (fun _ _ _ _ _ _ us hl => match us, hl with | [_, _], _ => rfl) f5_ok C (own_all hv C) (hv 5 _ rfl)
  | 6, _ => stepF (d := f6_d) f6_sc rfl rfl rfl rfl rfl (fun _ _ _ _ _ _ us hl => match us, hl with | [_, _], _ => rfl) f6_ok C (own_all hv C) (hv 6 _ rfl)
  | 7, _ => stepF (d := f7_d) f7_sc rfl rfl rfl rfl rfl (fun _ _ _ _ _ _ us hl => match us, hl with | [_], _ => rfl) f7_ok C (own_all hv C) (hv 7 _ rfl)
  | 8, _ => stepF (d := f8_d) f8_sc rfl rfl rfl rfl rfl (fun _ _ _ _ _ _ us hl => match us, hl with | [_, _], _ => rfl) f8_ok C (own_all hv C) (hv 8 _ rfl)
  | 9, _ => stepF (d := f9_d) f9_sc rfl rfl rfl rfl rfl (fun _ _ _ _ _ _ us hl => match us, hl with | [_, _], _ => rfl) f9_ok C (own_all hv C) (hv 9 _ rfl)
  | 10, _ => stepF (d := f10_d) f10_sc rfl rfl rfl rfl rfl (fun _ _ _ _ _ _ us hl => match us, hl with | [_], _ => rfl) f10_ok C (own_all hv C) (hv 10 _ rfl)
  | 11, _ => stepF (d := f11_d) f11_sc rfl rfl rfl rfl rfl (fun _ _ _ _ _ _ us hl => match us, hl with | [_, _, _], _ => rfl) f11_ok C (own_all hv C) (hv 11 _ rfl)
  | 12, _ => stepF (d := f12_d) f12_sc rfl rfl rfl rfl rfl (fun _ _ _ _ _ _ us hl => match us, hl with | [_], _ => rfl) f12_ok C (own_all hv C) (hv 12 _ rfl)
  | m + 13, h => absurd (show m + 13 < 13 from h) (by omega)
theorem stepsk (hv : ∀ (i : Nat) (d : Fd), N.fds[i]? = some d → fnV K (d.at_.a K) = d.val [] ∧ codeB K (d.at_.a K) d.qual = true) (hw : ∀ (i : Nat) (q : Kw), N.kws[i]? = some q → fnV K (q.fd.at_.a K) = q.fd.val [] ∧ codeB K (q.fd.at_.a K) q.fd.qual = true ∧ ∀ m ∈ q.ms, kdB K (q.fd.at_.a K) m = true) (C : Txt pg w K mg base N G (callD G wt n) k) : ∀ i, i < N.kws.length → FnRK pg w K mg base (L2.CX pg w) (k + 9) (N.kA K i) (N.kn i) (spD (N.T K) (RXP K) (callD G wt (n + 1)) (N.fds.length + i))
  | m, h => absurd (show m < 0 from h) (by omega)
theorem stepsx (hv : ∀ (i : Nat) (d : Fd), N.fds[i]? = some d → fnV K (d.at_.a K) = d.val [] ∧ codeB K (d.at_.a K) d.qual = true) (C : Txt pg w K mg base N G (callD G wt n) k) : ∀ f, f ∈ N.nox → FnR pg w K mg base (L2N.CX pg w) (k + 9) (N.fA K f) (spD (N.T K) (RXP K) (callD G wt (n + 1)) f) := fun f h0 => by
  exact absurd (show f ∈ ([] : List Nat) from h0) List.not_mem_nil
theorem stepsg (hv : ∀ (i : Nat) (d : Fd), N.fds[i]? = some d → fnV K (d.at_.a K) = d.val [] ∧ codeB K (d.at_.a K) d.qual = true) (C : Txt pg w K mg base N G (callD G wt n) k) : ∀ i f, N.gns[i]? = some f → GFdR pg w K mg base (k + 9) (N.fA K f) (spG (N.T K) (RXP K) (callD G wt (n + 1)) (N.fds.length + N.kws.length + i))
  | m, f, h => by exact absurd (show none = some f from h) (by simp)
end
end Tf.P
end
section
set_option Elab.async false
set_option linter.all false
set_option maxRecDepth 100000
set_option maxHeartbeats 0
namespace Tf.P
open PySem PySem.Spec PyProof.Rows L2
theorem facts {w : World} {K : PySem.W.Frag} {h : Heap} {mg : PySem.Str → Option Value} {fa : Addr} (D : Nat) (X : K.In h) (G0 : h.Ns mainGlobals mg) (hfa : mg ("law" : PySem.Str) = some (.ref fa)) (c : obsX N pg G K = valX N) :
    ∃ fd : FuncData, (∀ (s : Shared) (v : Value), BindsTo s fd ⟨[v], []⟩ [("_law_script", v)]) ∧ ∀ base : Heap, K.In base → base.Ns mainGlobals mg → FnOk pg w K mg base (CXW pg) (9 * D + 9) fa fd ["_law_script"] (spL (N.T K) (RXP K) G (D + 1) 12) := by
  have hv := say_fn c (i := 12) (d := f12_d) rfl
  obtain ⟨oc, od, osl, kV, doc, pm, an, cdv, ct, lk, hc⟩ := fnV_ok hv.1 hv.2
  have T0 : ∀ (base : Heap), K.In base → base.Ns mainGlobals mg → ∀ wt n, Txt pg w K mg base N G (callD G wt n) (9 * n) := fun base kin mgl wt n =>
    txt_all c (by decide +kernel) (by decide +kernel) (by decide +kernel) (by decide +kernel) kin mgl (fun n C => steps (fun i d e => say_fn c e) C) (fun n C => stepsk (fun i d e => say_fn c e) (fun i q e => say_kw c e) C) (fun n C => stepsx (fun i d e => say_fn c e) C) (fun n C => stepsg (fun i d e => say_fn c e) C) n
  have ea : N.fA K 12 = fa := by
    have q := (Txt.gfn (T0 h X G0 0 0) (f := 12) (x := "law") rfl).1
    rw [hfa] at q
    injection q with q
    injection q with q
    exact q.symm
  subst ea
  exact ⟨_, fun s v => .of_eq rfl, fun base kin mgl => fnW (fnL fun wt => f12_stepO (T0 base kin mgl wt D) (own_all (fun i d e => say_fn c e) (T0 base kin mgl wt D)) lk hc)⟩
theorem law_of (D : Nat) (hD : Room (9 * D + 9) callerA) (H : ∀ ns : List Int, ns.length ≤ 63 → ∃ wt, callD G wt (D + 1) 12 [owned (.scr ns)] = .ret (.d (.bl true)) []) : PySem.Challenge.rw_truthfees_k01_errors_by_class.Holds := by
  open PySem.W PySem.Calls in
  (w_on; o_law
   refine HandSHeadRun.head_any (r := rw_) (q := view rw_.prog [22]) (H := hk) (ob := ob) (M := 20000) (loose := names) (d := HandSHeadRun.topDef rw_.prog 22) (kwd := []) ob_eq
     (by kernel_rfl) (fun s => by kernel_rfl) run (by kernel_rfl) (by kernel_rfl) (by kernel_rfl) (by rfl) (by first | assumption | decide +kernel) (by decide +kernel) ⟨rfl, rfl, rfl, rfl, rfl, by decide +kernel⟩ ?hw ?hc
   case hw => w_witness2
   case hc =>
     refine L2.walk_ofE (l := PySem.Challenge.rw_truthfees_k01_errors_by_class) (n := 63) (k := 9 * D + 9) (x := "_law_script") (CX := CXW pg) rfl (by decide) (by kernel_rfl) hD ?F (fun _ _ _ _ z => cxw_none z)
     intro w mg fa h Y G0 hmg0
     obtain ⟨K, KX, c⟩ := Y
     have hmg : mg ("law" : PySem.Str) = some (.ref fa) := by
       have e : (HandSHeadRun.topDef rw_.prog 22).name = ("law" : PySem.Str) := by kernel_rfl
       rw [← e]
       exact hmg0
     obtain ⟨fd, hb, hF⟩ := facts (w := w) D KX G0 hmg c
     refine ⟨K, fd, _, KX, hb, fun Hp a ns hl hO hS => ?_, hF⟩
     obtain ⟨wt, e⟩ := H ns hl
     exact law_sp (say_chk c).2 hO hS e)
end Tf.P
end
section
set_option Elab.async false
set_option linter.all false
namespace Tf
def RS.nxt (r : RS) (f : Fr → RS) : RS := match r with
  | .next σ => f σ
  | z => z
theorem nr {α : Sort _} {a b : α} (h : a = b) : a = b := h
@[simp ↓] theorem nxt_next (σ : Fr) (f : Fr → RS) : (RS.next σ).nxt f = f σ := nr rfl
@[simp ↓] theorem nxt_ret (v : Val) (σ : Fr) (f : Fr → RS) : (RS.ret v σ).nxt f = .ret v σ := nr rfl
@[simp ↓] theorem nxt_exc (v : Xv) (σ : Fr) (f : Fr → RS) : (RS.exc v σ).nxt f = .exc v σ := nr rfl
@[simp ↓] theorem nxt_brk (σ : Fr) (f : Fr → RS) : (RS.brk σ).nxt f = .brk σ := nr rfl
@[simp ↓] theorem nxt_cont (σ : Fr) (f : Fr → RS) : (RS.cont σ).nxt f = .cont σ := nr rfl
@[simp] theorem nxt_ite {c : Prop} [Decidable c] (a b : RS) (f : Fr → RS) : (if c then a else b).nxt f = if c then a.nxt f else b.nxt f := by split <;> rfl
section
variable {α β : Type}
@[simp ↓] theorem bind_ok (a : α) (σ : Fr) (f : α → Fr → Res β) : (Res.ok a σ).bind f = f a σ := nr rfl
@[simp ↓] theorem bind_exc (a : Xv) (σ : Fr) (f : α → Fr → Res β) : (Res.exc a σ).bind f = .exc a σ := nr rfl
@[simp ↓] theorem bind_bad (f : α → Fr → Res β) : (Res.bad).bind f = .bad := nr rfl
@[simp ↓] theorem map_ok (a : α) (σ : Fr) (f : α → β) : (Res.ok a σ).map f = .ok (f a) σ := nr rfl
@[simp ↓] theorem map_exc (a : Xv) (σ : Fr) (f : α → β) : (Res.exc a σ).map f = .exc a σ := nr rfl
@[simp ↓] theorem opt_some (a : α) (f : α → Res β) : opt (some a) f = f a := nr rfl
@[simp ↓] theorem opt_none (f : α → Res β) : opt none f = .bad := nr rfl
@[simp ↓] theorem optS_some (a : α) (f : α → RS) : optS (some a) f = f a := nr rfl
@[simp ↓] theorem optS_none (f : α → RS) : optS none f = .bad := nr rfl
@[simp ↓] theorem st_ok (a : α) (σ : Fr) (f : α → Fr → RS) : (Res.ok a σ).st f = f a σ := nr rfl
@[simp ↓] theorem st_exc (a : Xv) (σ : Fr) (f : α → Fr → RS) : (Res.exc a σ).st f = .exc a σ := nr rfl
@[simp ↓] theorem nox_ok (a : α) (σ : Fr) : (Res.ok a σ).nox = .ok a σ := nr rfl
@[simp] theorem bind_ite {c : Prop} [Decidable c] (a b : Res α) (f : α → Fr → Res β) : (if c then a else b).bind f = if c then a.bind f else b.bind f := by split <;> rfl
@[simp] theorem opt_ite {c : Prop} [Decidable c] (a b : Option α) (f : α → Res β) : opt (if c then a else b) f = if c then opt a f else opt b f := by split <;> rfl
@[simp] theorem st_ite {c : Prop} [Decidable c] (a b : Res α) (f : α → Fr → RS) : (if c then a else b).st f = if c then a.st f else b.st f := by split <;> rfl
end
@[simp] theorem get_zero (s : Option Sl) (σ : Fr) : Fr.get (s :: σ) 0 = s := nr rfl
@[simp] theorem get_succ (s : Option Sl) (σ : Fr) (i : Nat) : Fr.get (s :: σ) (i + 1) = Fr.get σ i := nr rfl
@[simp] theorem put_zero (s t : Option Sl) (σ : Fr) : Fr.put (s :: σ) 0 t = t :: σ := nr rfl
@[simp] theorem put_succ (s t : Option Sl) (σ : Fr) (i : Nat) : Fr.put (s :: σ) (i + 1) t = s :: Fr.put σ i t := nr rfl
abbrev sv (x : D) : Option Sl := some (.own (.d x))
@[simp] theorem asO_d (x : D) : asO (.d x) = some (.d x) := nr rfl
@[simp] theorem asO_o (x : O) : asO (.o x) = some x := nr rfl
@[simp] theorem toD_d (x : D) : toD (.d x) = some x := nr rfl
@[simp] theorem toF_b (r : Nat) (x : O) : toF (.b r x) = some x.frz := nr rfl
@[simp] theorem toD_o (x : O) : toD (.o x) = some x.frz := nr rfl
@[simp] theorem frzL_nil : O.frzL [] = [] := by rw [O.frzL]
@[simp] theorem frzL_cons (x : O) (xs : List O) : O.frzL (x :: xs) = x.frz :: O.frzL xs := by rw [O.frzL]
@[simp] theorem frz_d (x : D) : (O.d x).frz = x := by rw [O.frz]
@[simp] theorem frz_lst (xs : List O) : (O.lst xs).frz = .lst (O.frzL xs) := by rw [O.frz]
@[simp] theorem frz_ins (c : Nat) (xs : List (Nat × O)) : (O.ins c xs).frz = .ins c (O.frzF xs) := by rw [O.frz]
@[simp] theorem frzF_nil : O.frzF [] = [] := by rw [O.frzF]
@[simp] theorem frzF_cons (k : Nat) (x : O) (xs : List (Nat × O)) : O.frzF ((k, x) :: xs) = (k, x.frz) :: O.frzF xs := by rw [O.frzF]
def Free (s : Option Sl) : Bool := match s with
  | some (.lent _) => false
  | _ => true
@[simp] theorem free_n : Free none = true := rfl
@[simp] theorem free_o (o : O) : Free (some (.own o)) = true := rfl
def okSl {α : Type} (s : Option (Option Sl)) (x : Option α) : Option α := match s with
  | some (some (.lent _)) => none
  | some _ => x
  | none => none
section
variable {α : Type} {x : Option α}
@[simp] theorem okSl_n : okSl (some none) x = x := nr rfl
@[simp] theorem okSl_o (o : O) : okSl (some (some (.own o))) x = x := nr rfl
@[simp] theorem okSl_l (o : O) : okSl (some (some (.lent o))) x = none := nr rfl
@[simp] theorem okSl_x : okSl none x = none := nr rfl
@[simp] theorem okSl_f {s : Option Sl} (h : Free s = true) : okSl (some s) x = x := by
  match s, h with
  | none, _ => rfl
  | some (.own _), _ => rfl
end
@[simp] theorem asgV_eq (i : Nat) (v : Val) (σ : Fr) : asgV i v σ = okSl σ[i]? ((asO v).map fun o => σ.put i (some (.own o))) := by
  unfold asgV okSl
  generalize σ[i]? = q
  rcases q with _ | _ | _ | _ <;> rfl
@[simp] theorem asg_v (i : Nat) (v : D) (σ : Fr) : Tf.asg (.var i) v σ = okSl σ[i]? (some (σ.put i (sv v))) := by
  unfold Tf.asg okSl
  generalize σ[i]? = q
  rcases q with _ | _ | _ | _ <;> rfl
@[simp] theorem asg_t (ts : List Tg) (v : D) (σ : Fr) : Tf.asg (.tup ts) v σ = (itemsD v).bind fun xs => asg.asgs ts xs σ := by rw [Tf.asg]
@[simp] theorem asgs_nil (σ : Fr) : asg.asgs [] [] σ = some σ := by rw [asg.asgs]
@[simp] theorem asgs_cons (t : Tg) (ts : List Tg) (x : D) (xs : List D) (σ : Fr) : asg.asgs (t :: ts) (x :: xs) σ = (Tf.asg t x σ).bind fun σ => asg.asgs ts xs σ := by rw [asg.asgs]
@[simp] theorem chg_eq (σ : Fr) (a : Nat) (f : O → Option O) : chg σ a f = match σ.get a with
  | some (.own o) => (f o).map fun o => σ.put a (some (.own o))
  | some (.lent o) => (f o).map fun o => σ.put a (some (.lent o))
  | _ => none := rfl
@[simp] theorem lentAt_eq (σ : Fr) (i : Nat) : lentAt σ i = match σ.get i with
  | some (.own o) => some (o, false)
  | some (.lent o) => some (o, true)
  | none => none := rfl
section
variable {G : Prog} {cl : Call} {md : Md} {w : Nat}
def asgK (i : Nat) (v : Val) (σ : Fr) : RS := optS (asgV i v σ) .next
@[simp] theorem asgK_eq (i : Nat) (v : Val) (σ : Fr) : asgK i v σ = optS (asgV i v σ) .next := nr rfl
def asgTK (ts : List Tg) (v : Val) (σ : Fr) : RS := optS ((toD v).bind fun x => Tf.asg (.tup ts) x σ) .next
@[simp] theorem asgTK_d (ts : List Tg) (x : D) (σ : Fr) : asgTK ts (.d x) σ = optS (Tf.asg (.tup ts) x σ) .next := nr rfl
def parK (i j : Nat) (os : List O) (σ : Fr) : RS := match os with
    | [o1, o2] => optS ((asgV i (.o o1) σ).bind fun σ => asgV j (.o o2) σ) .next
    | _ => .bad
@[simp] theorem parK_eq (i j : Nat) (o1 o2 : O) (σ : Fr) : parK i j [o1, o2] σ = optS ((asgV i (.o o1) σ).bind fun σ => asgV j (.o o2) σ) .next := nr rfl
def sfldK (a f : Nat) (v : Val) (σ : Fr) : RS := optS ((asO v).bind fun o => chg σ a fun z => setF z f o) .next
@[simp] theorem sfldK_eq (a f : Nat) (v : Val) (σ : Fr) : sfldK a f v σ = optS ((asO v).bind fun o => chg σ a fun z => setF z f o) .next := nr rfl
def sidxK2 (a : Nat) (o : O) (k : Val) (σ : Fr) : RS := optS ((toD k).bind fun k => chg σ a fun z => setO z k o) .next
@[simp] theorem sidxK2_d (a : Nat) (o : O) (k : D) (σ : Fr) : sidxK2 a o (.d k) σ = optS (chg σ a fun z => setO z k o) .next := nr rfl
def sidxK (G : Prog) (cl : Call) (a : Nat) (i : E) (v : Val) (σ : Fr) : RS := optS (asO v) fun o => optS (lentAt σ a) fun _ => (ev G cl .val i σ).st (sidxK2 a o)
@[simp] theorem sidxK_d (a : Nat) (i : E) (x : D) (σ : Fr) : sidxK G cl a i (.d x) σ = optS (lentAt σ a) fun _ => (ev G cl .val i σ).st (sidxK2 a (.d x)) := nr rfl
def bwK (a : Nat) (m : Bw) (vs : List O) (σ : Fr) : RS := optS (chg σ a fun z => bwO m z vs) .next
@[simp] theorem bwK_eq (a : Nat) (m : Bw) (vs : List O) (σ : Fr) : bwK a m vs σ = optS (chg σ a fun z => bwO m z vs) .next := nr rfl
def bwK0 (G : Prog) (cl : Call) (a : Nat) (m : Bw) (as : Es) (σ : Fr) (p : O × Bool) : RS := match p.1 with
    | .lst _ => (evs G cl as σ).st (bwK a m)
    | _ => .bad
@[simp] theorem bwK0_l (a : Nat) (m : Bw) (as : Es) (σ : Fr) (xs : List O) (b : Bool) : bwK0 G cl a m as σ (.lst xs, b) = (evs G cl as σ).st (bwK a m) := nr rfl
def exprK (_ : Val) (σ : Fr) : RS := .next σ
@[simp] theorem exprK_eq (v : Val) (σ : Fr) : exprK v σ = .next σ := nr rfl
def retK (v : Val) (σ : Fr) : RS := .ret v σ
@[simp] theorem retK_eq (v : Val) (σ : Fr) : retK v σ = .ret v σ := nr rfl
def iteK (a b : Fr → RS) (v : Val) (σ : Fr) : RS := match v with
  | .d (.bl true) => a σ
  | .d (.bl false) => b σ
  | _ => .bad
@[simp ↓] theorem iteK_t (a b : Fr → RS) (σ : Fr) : iteK a b (.d (.bl true)) σ = a σ := nr rfl
@[simp ↓] theorem iteK_f (a b : Fr → RS) (σ : Fr) : iteK a b (.d (.bl false)) σ = b σ := nr rfl
def raiK (c : Nat) (os : List O) (σ : Fr) : RS := .exc ⟨c, O.frzL os⟩ σ
@[simp] theorem raiK_eq (c : Nat) (os : List O) (σ : Fr) : raiK c os σ = .exc ⟨c, O.frzL os⟩ σ := nr rfl
def forT (tg : Tg) (b : Fr → RS) (x : D) (σ : Fr) : RS := optS (Tf.asg tg x σ) b
def forK (tg : Tg) (b : Fr → RS) (xs : List D) (σ : Fr) : RS := forLoop (forT tg b) xs σ
@[simp] theorem forK_eq (tg : Tg) (b : Fr → RS) (xs : List D) (σ : Fr) : forK tg b xs σ = forLoop (forT tg b) xs σ := nr rfl
def RS.hnd (r : RS) (hs : Hs) : RS := match r with
  | .exc x σ => handle x σ hs
  | r => r
@[simp] theorem hnd_next (σ : Fr) (hs : Hs) : (RS.next σ).hnd hs = .next σ := nr rfl
@[simp] theorem hnd_ret (v : Val) (σ : Fr) (hs : Hs) : (RS.ret v σ).hnd hs = .ret v σ := nr rfl
@[simp] theorem hnd_exc (v : Xv) (σ : Fr) (hs : Hs) : (RS.exc v σ).hnd hs = handle v σ hs := nr rfl
@[simp] theorem x_nil (σ : Fr) : exSs G cl w .nil σ = .next σ := by rw [exSs]
@[simp] theorem x_cons (s : S) (r : Ss) (σ : Fr) : exSs G cl w (.cons s r) σ = (exS G cl w s σ).nxt (exSs G cl w r) := by rw [exSs]; rfl
@[simp] theorem x_asg (i : Nat) (e : E) (σ : Fr) : exS G cl w (.asg i e) σ = (ev G cl .val e σ).st (asgK i) := by rw [exS]; rfl
@[simp] theorem x_asgT (ts : List Tg) (e : E) (σ : Fr) : exS G cl w (.asgT ts e) σ = (ev G cl .val e σ).st (asgTK ts) := by rw [exS]; rfl
@[simp] theorem x_par (i j : Nat) (a b : E) (σ : Fr) : exS G cl w (.par i j a b) σ = (evs G cl (.cons false a (.cons false b .nil)) σ).st (parK i j) := by rw [exS]; rfl
@[simp] theorem x_sfld (a f : Nat) (e : E) (σ : Fr) : exS G cl w (.sfld a f e) σ = (ev G cl .val e σ).st (sfldK a f) := by rw [exS]; rfl
@[simp] theorem x_sidx (a : Nat) (i e : E) (σ : Fr) : exS G cl w (.sidx a i e) σ = (ev G cl .val e σ).st (sidxK G cl a i) := by rw [exS]; rfl
@[simp] theorem x_bw (a : Nat) (m : Bw) (as : Es) (σ : Fr) : exS G cl w (.bw a m as) σ = optS (lentAt σ a) (bwK0 G cl a m as σ) := by
  rw [exS]
  cases lentAt σ a with
  | none => rfl
  | some p => obtain ⟨o, b⟩ := p; cases o <;> rfl
@[simp] theorem x_expr (e : E) (σ : Fr) : exS G cl w (.expr e) σ = (ev G cl .val e σ).st exprK := by rw [exS]; rfl
@[simp] theorem x_ret (e : E) (σ : Fr) : exS G cl w (.ret e) σ = (ev G cl .val e σ).st retK := by rw [exS]; rfl
@[simp] theorem x_retv (i : Nat) (σ : Fr) : exS G cl w (.retv i) σ = match σ.get i with
    | some (.own o) => .ret (.o o) (σ.put i none)
    | _ => .bad := by rw [exS] <;> rfl
@[simp] theorem x_retN (σ : Fr) : exS G cl w .retN σ = .ret (.d .non) σ := by rw [exS]
@[simp] theorem x_ife (c : E) (a b : Ss) (σ : Fr) : exS G cl w (.ife c a b) σ = (ev G cl .tst c σ).st (iteK (exSs G cl w a) (exSs G cl w b)) := by rw [exS]; rfl
@[simp] theorem x_whl (c : E) (b : Ss) (σ : Fr) : exS G cl w (.whl c b) σ = whlLoop (ev G cl .tst c) (exSs G cl w b) w σ := by rw [exS]
@[simp] theorem x_for (tg : Tg) (it : It) (b : Ss) (σ : Fr) : exS G cl w (.for_ tg it b) σ = (evIt G cl it σ).st (forK tg (exSs G cl w b)) := by rw [exS]; rfl
@[simp] theorem x_raise (c : Nat) (as : Es) (σ : Fr) : exS G cl w (.raise c as) σ = (evs G cl as σ).st (raiK c) := by rw [exS]; rfl
@[simp] theorem x_brk (σ : Fr) : exS G cl w .brk σ = .brk σ := by rw [exS]
@[simp] theorem x_cont (σ : Fr) : exS G cl w .cont σ = .cont σ := by rw [exS]
@[simp] theorem x_pass (σ : Fr) : exS G cl w .pass σ = .next σ := by rw [exS]
@[simp] theorem x_try (b : Ss) (hs : Hs) (σ : Fr) : exS G cl w (.tryc b hs) σ = (exSs G cl w b σ).hnd hs := by rw [exS]; rfl
def fldK (f : Nat) (v : Val) (σ : Fr) : Res Val := opt (fldV v f) fun v => .ok v σ
@[simp] theorem fldK_i (f c : Nat) (fs : List (Nat × D)) (σ : Fr) : fldK f (.d (.ins c fs)) σ = opt ((fs.lookup f).map Val.d) fun v => .ok v σ := nr rfl
def selK (v k : Val) (σ : Fr) : Res Val := opt ((toD k).bind fun k => selV v k) fun v => .ok v σ
@[simp] theorem selK_d (v : Val) (k : D) (σ : Fr) : selK v (.d k) σ = opt (selV v k) fun v => .ok v σ := nr rfl
def idxK (G : Prog) (cl : Call) (i : E) (v : Val) (σ : Fr) : Res Val := match v with
  | .b r _ => (hidden r σ (ev G cl .val i)).bind (selK v)
  | .o _ => .bad
  | .d _ => (ev G cl .val i σ).bind (selK v)
@[simp] theorem idxK_d (i : E) (x : D) (σ : Fr) : idxK G cl i (.d x) σ = (ev G cl .val i σ).bind (selK (.d x)) := nr rfl
@[simp] theorem idxK_b (i : E) (r : Nat) (o : O) (σ : Fr) : idxK G cl i (.b r o) σ = (hidden r σ (ev G cl .val i)).bind (selK (.b r o)) := nr rfl
def sl2K (G : Prog) (cl : Call) (hi : Eo) (l : Option Int) (σ : Fr) : Res (Option Int × Option Int) := (evO G cl hi σ).map fun h => (l, h)
@[simp] theorem sl2K_eq (hi : Eo) (l : Option Int) (σ : Fr) : sl2K G cl hi l σ = (evO G cl hi σ).map fun h => (l, h) := nr rfl
def sl3K (v : Val) (lh : Option Int × Option Int) (σ : Fr) : Res Val := opt (slcV v lh.1 lh.2) fun v => .ok v σ
@[simp] theorem sl3K_eq (v : Val) (l h : Option Int) (σ : Fr) : sl3K v (l, h) σ = opt (slcV v l h) fun v => .ok v σ := nr rfl
def sl1 (G : Prog) (cl : Call) (lo hi : Eo) (σ : Fr) : Res (Option Int × Option Int) := (evO G cl lo σ).bind (sl2K G cl hi)
@[simp] theorem sl1_eq (lo hi : Eo) (σ : Fr) : sl1 G cl lo hi σ = (evO G cl lo σ).bind (sl2K G cl hi) := nr rfl
def slcK (G : Prog) (cl : Call) (lo hi : Eo) (v : Val) (σ : Fr) : Res Val := match v with
  | .b r _ => (hidden r σ (sl1 G cl lo hi)).bind (sl3K v)
  | .o _ => .bad
  | .d _ => (sl1 G cl lo hi σ).bind (sl3K v)
@[simp] theorem slcK_d (lo hi : Eo) (x : D) (σ : Fr) : slcK G cl lo hi (.d x) σ = (sl1 G cl lo hi σ).bind (sl3K (.d x)) := nr rfl
def tupK (os : List O) (σ : Fr) : Res Val := if os.length ≤ lineN then .ok (.d (.tup (O.frzL os))) σ else .bad
@[simp] theorem tupK_eq (os : List O) (σ : Fr) : tupK os σ = if os.length ≤ lineN then .ok (.d (.tup (O.frzL os))) σ else .bad := nr rfl
def lstK (own : Bool) (os : List O) (σ : Fr) : Res Val := if os.length ≤ lineN then .ok (lstV own os) σ else .bad
@[simp] theorem lstK_eq (own : Bool) (os : List O) (σ : Fr) : lstK own os σ = if os.length ≤ lineN then .ok (lstV own os) σ else .bad := nr rfl
@[simp] theorem lstV_t (os : List O) : lstV true os = .o (.lst os) := nr rfl
@[simp] theorem lstV_f (os : List O) : lstV false os = .d (.lst (O.frzL os)) := nr rfl
def negK (G : Prog) (cl : Call) (v : Val) (σ : Fr) : Res Val := opt (toD v) fun x => negV G cl x σ
@[simp] theorem negK_d (x : D) (σ : Fr) : negK G cl (.d x) σ = negV G cl x σ := nr rfl
@[simp] theorem negV_i (i : Int) (σ : Fr) : negV G cl (.int i) σ = .ok (.d (.int (-i))) σ := nr rfl
@[simp] theorem negV_o (c : Nat) (fs : List (Nat × D)) (σ : Fr) : negV G cl (.ins c fs) σ = opt (G.meth c m_neg) fun f => after (cl f [owned (.ins c fs)]) [] σ := nr rfl
def binK2 (G : Prog) (cl : Call) (op : Bop) (x : D) (u : Val) (σ : Fr) : Res Val := opt (toD u) fun y => binV G cl op x y σ
@[simp] theorem binK2_d (op : Bop) (x y : D) (σ : Fr) : binK2 G cl op x (.d y) σ = binV G cl op x y σ := nr rfl
def binK (G : Prog) (cl : Call) (op : Bop) (b : E) (v : Val) (σ : Fr) : Res Val := opt (toD v) fun x => (ev G cl .val b σ).bind (binK2 G cl op x)
@[simp] theorem binK_d (op : Bop) (b : E) (x : D) (σ : Fr) : binK G cl op b (.d x) σ = (ev G cl .val b σ).bind (binK2 G cl op x) := nr rfl
@[simp] theorem binV_add (i j : Int) (σ : Fr) : binV G cl .add (.int i) (.int j) σ = .ok (.d (.int (i + j))) σ := nr rfl
@[simp] theorem binV_sub (i j : Int) (σ : Fr) : binV G cl .sub (.int i) (.int j) σ = .ok (.d (.int (i - j))) σ := nr rfl
@[simp] theorem binV_mul (i j : Int) (σ : Fr) : binV G cl .mul (.int i) (.int j) σ = if mulOk i j = true then .ok (.d (.int (i * j))) σ else .bad := by
  show opt ((if mulOk i j = true then some (i * j) else none).map D.int) _ = _
  split <;> rfl
@[simp] theorem binV_fdiv (i j : Int) (σ : Fr) : binV G cl .fdiv (.int i) (.int j) σ = if j ≠ 0 ∧ j.natAbs.log2 < 9000 then .ok (.d (.int (i.fdiv j))) σ else .bad := by
  show opt ((if j ≠ 0 ∧ j.natAbs.log2 < 9000 then some (i.fdiv j) else none).map D.int) _ = _
  split <;> rfl
@[simp] theorem binV_mod (i j : Int) (σ : Fr) : binV G cl .mod (.int i) (.int j) σ = if 0 < j then .ok (.d (.int (i % j))) σ else .bad := by
  show opt ((if 0 < j then some (i % j) else none).map D.int) _ = _
  split <;> rfl
@[simp] theorem binV_pow (i j : Int) (σ : Fr) : binV G cl .pow (.int i) (.int j) σ = if 0 ≤ j ∧ j ≤ 1000000 ∧ i.natAbs < 18446744073709551616 then .ok (.d (.int (i ^ j.toNat))) σ else .bad := by
  show opt ((if 0 ≤ j ∧ j ≤ 1000000 ∧ i.natAbs < 18446744073709551616 then some (i ^ j.toNat) else none).map D.int) _ = _
  split <;> rfl
@[simp] theorem binV_o (op : Bop) (c c' : Nat) (fs fs' : List (Nat × D)) (σ : Fr) : binV G cl op (.ins c fs) (.ins c' fs') σ = if c = c' then opt (opm op) fun m => opt (G.meth c m) fun f => after (cl f [owned (.ins c fs), owned (.ins c' fs')]) [] σ else opt (opm op) fun m => opt (G.meth c' m) fun _ => opt (G.meth c m) fun f => after (cl f [owned (.ins c fs), owned (.ins c' fs')]) [] σ := nr rfl
@[simp] theorem binV_lst (xs ys : List D) (σ : Fr) : binV G cl .add (.lst xs) (.lst ys) σ = if xs.length + ys.length ≤ lineN then .ok (.d (.lst (xs ++ ys))) σ else .bad := by
  show opt (if xs.length + ys.length ≤ lineN then some (D.lst (xs ++ ys)) else none) _ = _
  split <;> rfl
@[simp] theorem binV_rep (xs : List D) (n : Int) (σ : Fr) : binV G cl .mul (.lst xs) (.int n) σ = if n < 9223372036854775808 ∧ -9223372036854775808 ≤ n ∧ xs.length * n.toNat ≤ lineN then .ok (.d (.lst ((List.replicate n.toNat xs).flatten))) σ else .bad := by
  show opt (if n < 9223372036854775808 ∧ -9223372036854775808 ≤ n ∧ xs.length * n.toNat ≤ lineN then some (D.lst ((List.replicate n.toNat xs).flatten)) else none) _ = _
  split <;> rfl
def cmpK2 (G : Prog) (cl : Call) (op : Cop) (x : D) (u : Val) (σ : Fr) : Res Val := opt (cmpV G cl op x u) fun c => .ok (bl c) σ
@[simp] theorem cmpK2_eq (op : Cop) (x : D) (u : Val) (σ : Fr) : cmpK2 G cl op x u σ = opt (cmpV G cl op x u) fun c => .ok (.d (.bl c)) σ := nr rfl
def cmpK (G : Prog) (cl : Call) (op : Cop) (b : E) (v : Val) (σ : Fr) : Res Val := opt (toD v) fun x => (ev G cl .pk b σ).bind (cmpK2 G cl op x)
@[simp] theorem cmpK_d (op : Cop) (b : E) (x : D) (σ : Fr) : cmpK G cl op b (.d x) σ = (ev G cl .pk b σ).bind (cmpK2 G cl op x) := nr rfl
def chnK3 (G : Prog) (cl : Call) (q : Cop) (y : D) (w : Val) (σ : Fr) : Res Val := opt (toD w) fun z => opt (cmpD G cl q y z) fun k => .ok (bl k) σ
@[simp] theorem chnK3_d (q : Cop) (y z : D) (σ : Fr) : chnK3 G cl q y (.d z) σ = opt (cmpD G cl q y z) fun k => .ok (.d (.bl k)) σ := nr rfl
def chnK2 (G : Prog) (cl : Call) (p q : Cop) (c : E) (x : D) (u : Val) (σ : Fr) : Res Val := opt (toD u) fun y => opt (cmpD G cl p x y) fun k => if k = true then (ev G cl .val c σ).bind (chnK3 G cl q y) else .ok (.d (.bl false)) σ
@[simp] theorem chnK2_d (p q : Cop) (c : E) (x y : D) (σ : Fr) : chnK2 G cl p q c x (.d y) σ = opt (cmpD G cl p x y) fun k => if k = true then (ev G cl .val c σ).bind (chnK3 G cl q y) else .ok (.d (.bl false)) σ := nr rfl
def chnK (G : Prog) (cl : Call) (p q : Cop) (b c : E) (v : Val) (σ : Fr) : Res Val := opt (toD v) fun x => (ev G cl .val b σ).bind (chnK2 G cl p q c x)
@[simp] theorem chnK_d (p q : Cop) (b c : E) (x : D) (σ : Fr) : chnK G cl p q b c (.d x) σ = (ev G cl .val b σ).bind (chnK2 G cl p q c x) := nr rfl
def notK (v : Val) (σ : Fr) : Res Val := opt (truthV v) fun b => .ok (bl (!b)) σ
@[simp] theorem notK_eq (v : Val) (σ : Fr) : notK v σ = opt (truthV v) fun b => .ok (.d (.bl (!b))) σ := nr rfl
def tstK (a b : Fr → Res Val) (v : Val) (σ : Fr) : Res Val := match v with
  | .d (.bl true) => a σ
  | .d (.bl false) => b σ
  | _ => .bad
@[simp ↓] theorem tstK_t (a b : Fr → Res Val) (σ : Fr) : tstK a b (.d (.bl true)) σ = a σ := nr rfl
@[simp ↓] theorem tstK_f (a b : Fr → Res Val) (σ : Fr) : tstK a b (.d (.bl false)) σ = b σ := nr rfl
def callK (cl : Call) (f : Nat) (p : List Sl × List (Option (Nat × Bool))) (σ : Fr) : Res Val := after (cl f p.1) p.2 σ
@[simp] theorem callK_eq (f : Nat) (ss : List Sl) (bk : List (Option (Nat × Bool))) (σ : Fr) : callK cl f (ss, bk) σ = after (cl f ss) bk σ := nr rfl
def makeK (G : Prog) (cl : Call) (c : Nat) (p : List Sl × List (Option (Nat × Bool))) (σ : Fr) : Res Val := makeV G cl c p.1 p.2 σ
@[simp] theorem makeK_eq (c : Nat) (ss : List Sl) (bk : List (Option (Nat × Bool))) (σ : Fr) : makeK G cl c (ss, bk) σ = makeV G cl c ss bk σ := nr rfl
def callvK (G : Prog) (cl : Call) (as : Es) (v : Val) (σ : Fr) : Res Val := match v with
  | .d (.cls c) => opt G.clss[c]? fun C => (evAs G cl (modesOf G C.init).tail as σ).bind (makeK G cl c)
  | _ => .bad
@[simp] theorem callvK_c (as : Es) (c : Nat) (σ : Fr) : callvK G cl as (.d (.cls c)) σ = opt G.clss[c]? fun C => (evAs G cl (modesOf G C.init).tail as σ).bind (makeK G cl c) := nr rfl
def callK1 (cl : Call) (f : Nat) (s : Sl) (p : List Sl × List (Option (Nat × Bool))) (σ : Fr) : Res Val := after (cl f (s :: p.1)) p.2 σ
@[simp] theorem callK1_eq (f : Nat) (s : Sl) (ss : List Sl) (bk : List (Option (Nat × Bool))) (σ : Fr) : callK1 cl f s (ss, bk) σ = after (cl f (s :: ss)) bk σ := nr rfl
def isValH : Option Mode → Bool
  | some .val => true
  | _ => false
def methK (G : Prog) (cl : Call) (m : Nat) (as : Es) (v : Val) (σ : Fr) : Res Val := opt (toD v) fun x => match x with
  | .ins c fs => opt (G.meth c m) fun f => if isValH (modesOf G f).head? = true then (evAs G cl (modesOf G f).tail as σ).bind (callK1 cl f (owned (.ins c fs))) else .bad
  | _ => .bad
@[simp] theorem methK_i (m : Nat) (as : Es) (c : Nat) (fs : List (Nat × D)) (σ : Fr) : methK G cl m as (.d (.ins c fs)) σ = opt (G.meth c m) fun f => if isValH (modesOf G f).head? = true then (evAs G cl (modesOf G f).tail as σ).bind (callK1 cl f (owned (.ins c fs))) else .bad := nr rfl
def cmethK (G : Prog) (cl : Call) (m : Nat) (as : Es) (v : Val) (σ : Fr) : Res Val := match v with
  | .d (.cls c) => opt (G.cmeth c m) fun f => (evAs G cl (modesOf G f).tail as σ).bind (callK1 cl f (owned (.cls c)))
  | _ => .bad
@[simp] theorem cmethK_c (m : Nat) (as : Es) (c : Nat) (σ : Fr) : cmethK G cl m as (.d (.cls c)) σ = opt (G.cmeth c m) fun f => (evAs G cl (modesOf G f).tail as σ).bind (callK1 cl f (owned (.cls c))) := nr rfl
def biK (b : Bi) (v : Val) (σ : Fr) : Res Val := opt (biV b v) fun x => .ok (.d x) σ
@[simp] theorem biK_eq (b : Bi) (v : Val) (σ : Fr) : biK b v σ = opt (biV b v) fun x => .ok (.d x) σ := nr rfl
def booK (G : Prog) (cl : Call) (v : Val) (σ : Fr) : Res Val := opt (toD v) fun x => booV G cl x σ
@[simp] theorem booK_d (x : D) (σ : Fr) : booK G cl (.d x) σ = booV G cl x σ := nr rfl
def isinK (c : Cs) (v : Val) (σ : Fr) : Res Val := opt (toD v) fun x => opt (isinD x c) fun b => .ok (bl b) σ
@[simp] theorem isinK_d (c : Cs) (x : D) (σ : Fr) : isinK c (.d x) σ = opt (isinD x c) fun b => .ok (.d (.bl b)) σ := nr rfl
@[simp] theorem e_cst (d : D) (σ : Fr) : ev G cl md (.cst d) σ = fin md (.d d) σ := by rw [ev]
@[simp] theorem e_var (i : Nat) (σ : Fr) : ev G cl md (.var i) σ = getVar md i σ := by rw [ev]
@[simp] theorem e_clsv (c : Nat) (σ : Fr) : ev G cl md (.clsv c) σ = fin md (.d (.cls c)) σ := by rw [ev]
@[simp] theorem e_glo (x : Nat) (σ : Fr) : ev G cl md (.glo x) σ = opt G.glos[x]? fun d => fin md (.d d) σ := by rw [ev]
@[simp] theorem e_fld (a : E) (f : Nat) (σ : Fr) : ev G cl md (.fld a f) σ = ((ev G cl .pk a σ).bind (fldK f)).bind (fin md) := by rw [ev]; rfl
@[simp] theorem e_idx (a i : E) (σ : Fr) : ev G cl md (.idx a i) σ = ((ev G cl .pk a σ).bind (idxK G cl i)).bind (fin md) := by rw [ev]; rfl
@[simp] theorem e_slc (a : E) (lo hi : Eo) (σ : Fr) : ev G cl md (.slc a lo hi) σ = ((ev G cl .pk a σ).bind (slcK G cl lo hi)).bind (fin md) := by rw [ev]; rfl
@[simp] theorem e_tup (es : Es) (σ : Fr) : ev G cl md (.tup es) σ = ((evs G cl es σ).bind tupK).bind (fin md) := by rw [ev]; rfl
@[simp] theorem e_lst (own : Bool) (es : Es) (σ : Fr) : ev G cl md (.lst own es) σ = ((evs G cl es σ).bind (lstK own)).bind (fin md) := by rw [ev]; rfl
@[simp] theorem e_neg (a : E) (σ : Fr) : ev G cl md (.neg a) σ = ((ev G cl .val a σ).bind (negK G cl)).bind (fin md) := by rw [ev]; rfl
@[simp] theorem e_bin (op : Bop) (a b : E) (σ : Fr) : ev G cl md (.bin op a b) σ = ((ev G cl .val a σ).bind (binK G cl op b)).bind (fin md) := by rw [ev]; rfl
@[simp] theorem e_cmp (op : Cop) (a b : E) (σ : Fr) : ev G cl md (.cmp op a b) σ = ((ev G cl .val a σ).bind (cmpK G cl op b)).bind (fin md) := by rw [ev]; rfl
@[simp] theorem e_chn (p q : Cop) (a b c : E) (σ : Fr) : ev G cl md (.chn p q a b c) σ = ((ev G cl .val a σ).bind (chnK G cl p q b c)).bind (fin md) := by
  rw [ev]
  congr 2
  funext v σ
  unfold chnK
  congr 1
  funext x
  congr 1
  funext u σ
  unfold chnK2
  congr 1
  funext y
  congr 1
  funext k
  cases k <;> rfl
@[simp] theorem e_not (a : E) (σ : Fr) : ev G cl md (.not a) σ = (ev G cl md a σ).bind notK := by rw [ev]; rfl
@[simp] theorem e_and (a b : E) (σ : Fr) : ev G cl md (.and a b) σ = (ev G cl md a σ).bind (tstK (ev G cl md b) (fin md (.d (.bl false)))) := by rw [ev]; rfl
@[simp] theorem e_or (a b : E) (σ : Fr) : ev G cl md (.or a b) σ = (ev G cl md a σ).bind (tstK (fin md (.d (.bl true))) (ev G cl md b)) := by rw [ev]; rfl
@[simp] theorem e_ife (c a b : E) (σ : Fr) : ev G cl md (.ife c a b) σ = (ev G cl .tst c σ).bind (tstK (ev G cl md a) (ev G cl md b)) := by rw [ev]; rfl
@[simp] theorem e_call (f : Nat) (as : Es) (σ : Fr) : ev G cl md (.call f as) σ = ((evAs G cl (modesOf G f) as σ).bind (callK cl f)).bind (fin md) := by rw [ev]; rfl
@[simp] theorem e_make (c : Nat) (as : Es) (σ : Fr) : ev G cl md (.make c as) σ = (opt G.clss[c]? fun C => (evAs G cl (modesOf G C.init).tail as σ).bind (makeK G cl c)).bind (fin md) := by rw [ev]; rfl
@[simp] theorem e_callv (a : E) (as : Es) (σ : Fr) : ev G cl md (.callv a as) σ = ((ev G cl .val a σ).bind (callvK G cl as)).bind (fin md) := by rw [ev]; rfl
@[simp] theorem e_meth (a : E) (m : Nat) (as : Es) (σ : Fr) : ev G cl md (.meth a m as) σ = ((ev G cl .val a σ).bind (methK G cl m as)).bind (fin md) := by
  rw [ev]
  congr 2
  funext v σ
  unfold methK
  congr 1
  funext x
  cases x with
  | ins c fs =>
    show opt _ _ = opt _ _
    congr 1
    funext f
    cases (modesOf G f).head? with
    | none => rfl
    | some m => cases m <;> rfl
  | _ => rfl
@[simp] theorem e_cmeth (a : E) (m : Nat) (as : Es) (σ : Fr) : ev G cl md (.cmeth a m as) σ = ((ev G cl .val a σ).bind (cmethK G cl m as)).bind (fin md) := by rw [ev]; rfl
@[simp] theorem e_bi (b : Bi) (a : E) (σ : Fr) : ev G cl md (.bi b a) σ = ((ev G cl .pk a σ).bind (biK b)).bind (fin md) := by rw [ev]; rfl
@[simp] theorem e_boo (a : E) (σ : Fr) : ev G cl md (.boo a) σ = ((ev G cl .val a σ).bind (booK G cl)).bind (fin md) := by rw [ev]; rfl
@[simp] theorem e_isin (a : E) (c : Cs) (σ : Fr) : ev G cl md (.isin a c) σ = ((ev G cl .val a σ).bind (isinK c)).bind (fin md) := by rw [ev]; rfl
def stoK (G : Prog) (cl : Call) (v : Val) (σ : Fr) : Res Val := opt (toD v) fun x => stoV G cl x σ
@[simp] theorem stoK_d (x : D) (σ : Fr) : stoK G cl (.d x) σ = stoV G cl x σ := nr rfl
@[simp] theorem e_sto (a : E) (σ : Fr) : ev G cl md (.sto a) σ = ((ev G cl .val a σ).bind (stoK G cl)).bind (fin md) := by rw [ev]; rfl
@[simp] theorem stoV_i (i : Int) (σ : Fr) : stoV G cl (.int i) σ = if i.natAbs.log2 < 1920 then .ok (.d (.str (PySem.Str.ofString (toString i)))) σ else .bad := by
  show opt (if i.natAbs.log2 < 1920 then some (D.str (PySem.Str.ofString (toString i))) else none) _ = _
  split <;> rfl
def fmtK2 (p : Str) (u : Val) (σ : Fr) : Res Val := opt (toD u) fun y => opt (fmtB p y) fun z => .ok (.d z) σ
@[simp] theorem fmtK2_d (p : Str) (y : D) (σ : Fr) : fmtK2 p (.d y) σ = opt (fmtB p y) fun z => .ok (.d z) σ := nr rfl
def fmtK (G : Prog) (cl : Call) (s : Str) (b : E) (v : Val) (σ : Fr) : Res Val := opt (toD v) fun x => opt (fmtA x s) fun p => (ev G cl .val b σ).bind (fmtK2 p)
@[simp] theorem fmtK_d (s : Str) (b : E) (x : D) (σ : Fr) : fmtK G cl s b (.d x) σ = opt (fmtA x s) fun p => (ev G cl .val b σ).bind (fmtK2 p) := nr rfl
@[simp] theorem e_fmt (a b : E) (s : Str) (σ : Fr) : ev G cl md (.fmt a s b) σ = ((ev G cl .val a σ).bind (fmtK G cl s b)).bind (fin md) := by rw [ev]; rfl
def mxK2 (mx : Bool) (x : D) (u : Val) (σ : Fr) : Res Val := opt (toD u) fun y => opt (mxV mx x y) fun z => .ok (.d z) σ
@[simp] theorem mxK2_d (mx : Bool) (x y : D) (σ : Fr) : mxK2 mx x (.d y) σ = opt (mxV mx x y) fun z => .ok (.d z) σ := nr rfl
def mxK (G : Prog) (cl : Call) (mx : Bool) (b : E) (v : Val) (σ : Fr) : Res Val := opt (toD v) fun x => (ev G cl .val b σ).bind (mxK2 mx x)
@[simp] theorem mxK_d (mx : Bool) (b : E) (x : D) (σ : Fr) : mxK G cl mx b (.d x) σ = (ev G cl .val b σ).bind (mxK2 mx x) := nr rfl
@[simp] theorem e_mxm (mx : Bool) (a b : E) (σ : Fr) : ev G cl md (.mxm mx a b) σ = ((ev G cl .val a σ).bind (mxK G cl mx b)).bind (fin md) := by rw [ev]; rfl
@[simp] theorem mxV_i (mx : Bool) (i j : Int) : mxV mx (.int i) (.int j) = some (.int (if mx then (if j > i then j else i) else (if j < i then j else i))) := nr rfl
def revK (v : Val) (σ : Fr) : Res Val := opt (toD v) fun x => opt (revV x) fun z => .ok (.d z) σ
@[simp] theorem revK_l (xs : List D) (σ : Fr) : revK (.d (.lst xs)) σ = .ok (.d (.lst xs.reverse)) σ := nr rfl
@[simp] theorem e_rev (a : E) (σ : Fr) : ev G cl md (.rev a) σ = ((ev G cl .val a σ).bind revK).bind (fin md) := by rw [ev]; rfl
def bmK2 (m : Bm) (x : Str) (u : Val) (σ : Fr) : Res Val := opt (toD u) fun y => opt (bmV m x y) fun z => .ok (.d z) σ
@[simp] theorem bmK2_d (m : Bm) (x : Str) (y : D) (σ : Fr) : bmK2 m x (.d y) σ = opt (bmV m x y) fun z => .ok (.d z) σ := nr rfl
def bmK (G : Prog) (cl : Call) (m : Bm) (b : E) (v : Val) (σ : Fr) : Res Val := opt (txtV v) fun x => (ev G cl .val b σ).bind (bmK2 m x)
@[simp] theorem bmK_d (m : Bm) (b : E) (x : Str) (σ : Fr) : bmK G cl m b (.d (.str x)) σ = (ev G cl .val b σ).bind (bmK2 m x) := nr rfl
@[simp] theorem e_bm (a : E) (m : Bm) (b : E) (σ : Fr) : ev G cl md (.bm a m b) σ = ((ev G cl .val a σ).bind (bmK G cl m b)).bind (fin md) := by rw [ev]; rfl
@[simp] theorem binV_str (x y : Str) (σ : Fr) : binV G cl .add (.str x) (.str y) σ = if x.length + y.length ≤ lineN then .ok (.d (.str (x ++ y))) σ else .bad := by
  show opt (if x.length + y.length ≤ lineN then some (D.str (x ++ y)) else none) _ = _
  split <;> rfl
def lsiK (G : Prog) (cl : Call) (v : Val) (σ : Fr) : Res Val := lsiV G cl v σ
@[simp] theorem lsiK_l (xs : List D) (σ : Fr) : lsiK G cl (.d (.lst xs)) σ = .ok (.d (.lst xs)) σ := nr rfl
@[simp] theorem lsiK_t (xs : List D) (σ : Fr) : lsiK G cl (.d (.tup xs)) σ = .ok (.d (.lst xs)) σ := nr rfl
@[simp] theorem lsiK_s (xs : List Int) (σ : Fr) : lsiK G cl (.d (.scr xs)) σ = .ok (.d (.lst (xs.map D.int))) σ := nr rfl
@[simp] theorem lsiK_b (i : Nat) (o : O) (σ : Fr) : lsiK G cl (.b i o) σ = opt (biV .list (.b i o)) fun x => .ok (.d x) σ := nr rfl
@[simp] theorem e_lsi (a : E) (σ : Fr) : ev G cl md (.lsi a) σ = ((ev G cl .pk a σ).bind (lsiK G cl)).bind (fin md) := by rw [ev]; rfl
def leniK (G : Prog) (cl : Call) (v : Val) (σ : Fr) : Res Val := leniV G cl v σ
@[simp] theorem leniK_l (xs : List D) (σ : Fr) : leniK G cl (.d (.lst xs)) σ = .ok (.d (.int xs.length)) σ := nr rfl
@[simp] theorem leniK_t (xs : List D) (σ : Fr) : leniK G cl (.d (.tup xs)) σ = .ok (.d (.int xs.length)) σ := nr rfl
@[simp] theorem leniK_s (xs : List Int) (σ : Fr) : leniK G cl (.d (.scr xs)) σ = .ok (.d (.int xs.length)) σ := nr rfl
@[simp] theorem leniK_z (z : Str) (σ : Fr) : leniK G cl (.d (.str z)) σ = opt (biV .len (.d (.str z))) fun x => .ok (.d x) σ := nr rfl
@[simp] theorem leniK_b (i : Nat) (xs : List O) (σ : Fr) : leniK G cl (.b i (.lst xs)) σ = .ok (.d (.int xs.length)) σ := nr rfl
@[simp] theorem e_leni (a : E) (σ : Fr) : ev G cl md (.leni a) σ = ((ev G cl .pk a σ).bind (leniK G cl)).bind (fin md) := by rw [ev]; rfl
def lstoK (v : Val) (σ : Fr) : Res Val := opt (itemsV v) fun xs => .ok (.o (.lst (xs.map O.d))) σ
@[simp] theorem lstoK_eq (v : Val) (σ : Fr) : lstoK v σ = opt (itemsV v) fun xs => .ok (.o (.lst (xs.map O.d))) σ := nr rfl
@[simp] theorem e_lsto (a : E) (σ : Fr) : ev G cl md (.lsto a) σ = ((ev G cl .pk a σ).bind lstoK).bind (fin md) := by rw [ev]; rfl
def idxmK2 (xs : List D) (u : Val) (σ : Fr) : Res Val := opt (toD u) fun y => opt (idxmV xs y) fun z => .ok (.d z) σ
@[simp] theorem idxmK2_d (xs : List D) (y : D) (σ : Fr) : idxmK2 xs (.d y) σ = opt (idxmV xs y) fun z => .ok (.d z) σ := nr rfl
def idxmK (G : Prog) (cl : Call) (b : E) (v : Val) (σ : Fr) : Res Val := opt ((toD v).bind lstD) fun xs => (ev G cl .val b σ).bind (idxmK2 xs)
@[simp] theorem idxmK_l (b : E) (xs : List D) (σ : Fr) : idxmK G cl b (.d (.lst xs)) σ = (ev G cl .val b σ).bind (idxmK2 xs) := nr rfl
@[simp] theorem e_idxm (a b : E) (σ : Fr) : ev G cl md (.idxm a b) σ = ((ev G cl .val a σ).bind (idxmK G cl b)).bind (fin md) := by rw [ev]; rfl
@[simp] theorem e_calli (a : E) (as : Es) (σ : Fr) : ev G cl md (.calli a as) σ = ((ev G cl .val a σ).bind (methK G cl m_call as)).bind (fin md) := by
  rw [ev]
  congr 2
  funext v σ
  unfold methK
  congr 1
  funext x
  cases x with
  | ins c fs =>
    show opt _ _ = opt _ _
    congr 1
    funext f
    cases (modesOf G f).head? with
    | none => rfl
    | some m => cases m <;> rfl
  | _ => rfl
def eltK (v : Val) (σ : Fr) : Res (Option O) := opt (asO v) fun o => .ok (some o) σ
@[simp] theorem eltK_eq (v : Val) (σ : Fr) : eltK v σ = opt (asO v) fun o => .ok (some o) σ := nr rfl
def okK (G : Prog) (cl : Call) (elt : E) (ok : Bool) (σ : Fr) : Res (Option O) := match ok with
  | true => (ev G cl .val elt σ).bind eltK
  | false => .ok none σ
@[simp ↓] theorem okK_t (elt : E) (σ : Fr) : okK G cl elt true σ = (ev G cl .val elt σ).bind eltK := nr rfl
@[simp ↓] theorem okK_f (elt : E) (σ : Fr) : okK G cl elt false σ = .ok none σ := nr rfl
def cTurn (G : Prog) (cl : Call) (elt : E) (tg : Tg) (cs : Es) (vs : List Nat) (x : D) (σ : Fr) : Res (Option O) := opt (Tf.asg tg x (wiped vs σ)) fun σ => (evCs G cl cs σ).bind (okK G cl elt)
def compK2 (own : Bool) (σ : Fr) (vs : List Nat) (r : List O) (σ' : Fr) : Res Val := if r.length ≤ lineN then .ok (lstV own r) (restored σ vs σ') else .bad
@[simp] theorem compK2_eq (own : Bool) (σ : Fr) (vs : List Nat) (r : List O) (σ' : Fr) : compK2 own σ vs r σ' = if r.length ≤ lineN then .ok (lstV own r) (restored σ vs σ') else .bad := nr rfl
def compK (own : Bool) (turn : D → Fr → Res (Option O)) (vs : List Nat) (xs : List D) (σ : Fr) : Res Val := (compLoop turn xs (wiped vs σ)).nox.bind (compK2 own σ vs)
@[simp] theorem compK_eq (own : Bool) (turn : D → Fr → Res (Option O)) (vs : List Nat) (xs : List D) (σ : Fr) : compK own turn vs xs σ = (compLoop turn xs (wiped vs σ)).nox.bind (compK2 own σ vs) := nr rfl
@[simp] theorem e_comp (own : Bool) (elt : E) (tg : Tg) (it : It) (cs : Es) (vs : List Nat) (σ : Fr) : ev G cl md (.comp own elt tg it cs vs) σ = ((evIt G cl it σ).bind (compK own (cTurn G cl elt tg cs vs) vs)).bind (fin md) := by
  rw [ev]
  congr 2
def innK (G : Prog) (cl : Call) (elt : E) (tg2 : Tg) (cs2 : Es) (vs2 : List Nat) (ys : List D) (σ : Fr) : Res (List O) := compLoop (cTurn G cl elt tg2 cs2 vs2) ys σ
@[simp] theorem innK_eq (elt : E) (tg2 : Tg) (cs2 : Es) (vs2 : List Nat) (ys : List D) (σ : Fr) : innK G cl elt tg2 cs2 vs2 ys σ = compLoop (cTurn G cl elt tg2 cs2 vs2) ys σ := nr rfl
def okK2 (G : Prog) (cl : Call) (elt : E) (tg2 : Tg) (it2 : It) (cs2 : Es) (vs2 : List Nat) (ok : Bool) (σ : Fr) : Res (List O) := match ok with
  | true => (evIt G cl it2 σ).bind (innK G cl elt tg2 cs2 vs2)
  | false => .ok [] σ
@[simp ↓] theorem okK2_t (elt : E) (tg2 : Tg) (it2 : It) (cs2 : Es) (vs2 : List Nat) (σ : Fr) : okK2 G cl elt tg2 it2 cs2 vs2 true σ = (evIt G cl it2 σ).bind (innK G cl elt tg2 cs2 vs2) := nr rfl
@[simp ↓] theorem okK2_f (elt : E) (tg2 : Tg) (it2 : It) (cs2 : Es) (vs2 : List Nat) (σ : Fr) : okK2 G cl elt tg2 it2 cs2 vs2 false σ = .ok [] σ := nr rfl
def cTurn2 (G : Prog) (cl : Call) (elt : E) (tg : Tg) (cs : Es) (tg2 : Tg) (it2 : It) (cs2 : Es) (vs vs2 : List Nat) (x : D) (σ : Fr) : Res (List O) := opt (Tf.asg tg x (wiped vs σ)) fun σ => (evCs G cl cs σ).bind (okK2 G cl elt tg2 it2 cs2 vs2)
def comp2K (own : Bool) (turn : D → Fr → Res (List O)) (vs : List Nat) (xs : List D) (σ : Fr) : Res Val := (compLoop2 turn xs (wiped vs σ)).nox.bind (compK2 own σ vs)
@[simp] theorem comp2K_eq (own : Bool) (turn : D → Fr → Res (List O)) (vs : List Nat) (xs : List D) (σ : Fr) : comp2K own turn vs xs σ = (compLoop2 turn xs (wiped vs σ)).nox.bind (compK2 own σ vs) := nr rfl
@[simp] theorem e_nox (e : E) (σ : Fr) : ev G cl md (.nox e) σ = noxR (ev G cl md e σ) := by rw [ev]
@[simp] theorem noxR_ok (v : Val) (σ : Fr) : noxR (.ok v σ) = .ok v σ := nr rfl
@[simp] theorem e_comp2 (own : Bool) (elt : E) (tg : Tg) (it : It) (cs : Es) (tg2 : Tg) (it2 : It) (cs2 : Es) (vs vs2 : List Nat) (σ : Fr) : ev G cl md (.comp2 own elt tg it cs tg2 it2 cs2 vs vs2) σ = ((evIt G cl it σ).bind (comp2K own (cTurn2 G cl elt tg cs tg2 it2 cs2 vs vs2) vs)).bind (fin md) := by
  rw [ev]
  congr 2
@[simp] theorem o_none (σ : Fr) : evO G cl .none σ = .ok none σ := by rw [evO]
def asInt (v : Val) (σ : Fr) : Res (Option Int) := match v with
  | .d (.int i) => .ok (some i) σ
  | _ => .bad
@[simp] theorem asInt_i (i : Int) (σ : Fr) : asInt (.d (.int i)) σ = .ok (some i) σ := nr rfl
@[simp] theorem o_some (e : E) (σ : Fr) : evO G cl (.some e) σ = (ev G cl .val e σ).bind asInt := by rw [evO]; rfl
def evsK (G : Prog) (cl : Call) (r : Es) (v : Val) (σ : Fr) : Res (List O) := opt (asO v) fun o => (evs G cl r σ).map fun os => o :: os
@[simp] theorem evsK_d (r : Es) (x : D) (σ : Fr) : evsK G cl r (.d x) σ = (evs G cl r σ).map (O.d x :: ·) := nr rfl
@[simp] theorem evsK_o (r : Es) (x : O) (σ : Fr) : evsK G cl r (.o x) σ = (evs G cl r σ).map (x :: ·) := nr rfl
@[simp] theorem s_nil (σ : Fr) : evs G cl .nil σ = .ok [] σ := by rw [evs]
@[simp] theorem s_cons (e : E) (r : Es) (σ : Fr) : evs G cl (.cons false e r) σ = (ev G cl .val e σ).bind (evsK G cl r) := by rw [evs]; rfl
def evsK2 (G : Prog) (cl : Call) (r : Es) (v : Val) (σ : Fr) : Res (List O) := opt (itemsV v) fun xs => (evs G cl r σ).map fun os => xs.map O.d ++ os
@[simp] theorem evsK2_eq (r : Es) (v : Val) (σ : Fr) : evsK2 G cl r v σ = opt (itemsV v) fun xs => (evs G cl r σ).map fun os => xs.map O.d ++ os := nr rfl
@[simp] theorem s_star (e : E) (r : Es) (σ : Fr) : evs G cl (.cons true e r) σ = (ev G cl .pk e σ).bind (evsK2 G cl r) := by rw [evs]; rfl
@[simp] theorem c_nil (σ : Fr) : evCs G cl .nil σ = .ok true σ := by rw [evCs]
def asB (v : Val) (σ : Fr) : Res Bool := match v with
  | .d (.bl b) => .ok b σ
  | _ => .bad
@[simp] theorem asB_b (b : Bool) (σ : Fr) : asB (.d (.bl b)) σ = .ok b σ := nr rfl
@[simp] theorem c_one (b : Bool) (e : E) (σ : Fr) : evCs G cl (.cons b e .nil) σ = (ev G cl .tst e σ).bind asB := by rw [evCs]; rfl
def evAK (G : Prog) (cl : Call) (ms : List Mode) (r : Es) (v : Val) (σ : Fr) : Res (List Sl × List (Option (Nat × Bool))) := opt (toD v) fun x => (evAs G cl ms r σ).map fun p => (owned x :: p.1, p.2)
@[simp] theorem evAK_d (ms : List Mode) (r : Es) (x : D) (σ : Fr) : evAK G cl ms r (.d x) σ = (evAs G cl ms r σ).map fun p => (owned x :: p.1, p.2) := nr rfl
@[simp] theorem evAK_o (ms : List Mode) (r : Es) (x : O) (σ : Fr) : evAK G cl ms r (.o x) σ = (evAs G cl ms r σ).map fun p => (owned x.frz :: p.1, p.2) := nr rfl
@[simp] theorem a_nil (ms : List Mode) (σ : Fr) : evAs G cl ms .nil σ = .ok ([], []) σ := by rw [evAs]
def evASK (G : Prog) (cl : Call) (r : Es) (v : Val) (σ : Fr) : Res (List Sl × List (Option (Nat × Bool))) := opt (itemsV v) fun xs => (evAs G cl [] r σ).map fun p => (xs.map owned ++ p.1, p.2)
@[simp] theorem evASK_eq (r : Es) (v : Val) (σ : Fr) : evASK G cl r v σ = opt (itemsV v) fun xs => (evAs G cl [] r σ).map fun p => (xs.map owned ++ p.1, p.2) := nr rfl
@[simp] theorem a_star (ms : List Mode) (e : E) (r : Es) (σ : Fr) : evAs G cl ms (.cons true e r) σ = (ev G cl .pk e σ).bind (evASK G cl r) := by rw [evAs]; rfl
@[simp] theorem a_val (ms : List Mode) (e : E) (r : Es) (σ : Fr) : evAs G cl (.val :: ms) (.cons false e r) σ = (ev G cl .val e σ).bind (evAK G cl ms r) := by rw [evAs]; rfl
@[simp] theorem a_no (e : E) (r : Es) (σ : Fr) : evAs G cl [] (.cons false e r) σ = (ev G cl .val e σ).bind (evAK G cl [] r) := by rw [evAs]; rfl
def lendK (i : Nat) (p : List Sl × List (Option (Nat × Bool))) (σ : Fr) : Res (List Sl × List (Option (Nat × Bool))) := opt (lentAt σ i) fun ol => .ok (.lent ol.1 :: p.1, some (i, ol.2) :: p.2) (σ.put i none)
@[simp] theorem lendK_eq (i : Nat) (p : List Sl × List (Option (Nat × Bool))) (σ : Fr) : lendK i p σ = opt (lentAt σ i) fun ol => .ok (.lent ol.1 :: p.1, some (i, ol.2) :: p.2) (σ.put i none) := nr rfl
@[simp] theorem a_lend (ms : List Mode) (i : Nat) (r : Es) (σ : Fr) : evAs G cl (.lend :: ms) (.cons false (.var i) r) σ = opt (lentAt σ i) fun _ => (evAs G cl ms r σ).bind (lendK i) := by rw [evAs]; rfl
def itK (G : Prog) (v : Val) (σ : Fr) : Res (List D) := opt ((toD v).bind (itemsI G)) fun xs => .ok xs σ
@[simp] theorem itK_d (G : Prog) (x : D) (σ : Fr) : itK G (.d x) σ = opt (itemsI G x) fun xs => .ok xs σ := nr rfl
@[simp] theorem itemsI_lst (G : Prog) (xs : List D) : itemsI G (.lst xs) = some xs := nr rfl
@[simp] theorem itemsI_tup (G : Prog) (xs : List D) : itemsI G (.tup xs) = some xs := nr rfl
@[simp] theorem itemsI_scr (G : Prog) (xs : List Int) : itemsI G (.scr xs) = some (xs.map D.int) := nr rfl
@[simp] theorem itemsI_str (G : Prog) (z : Str) : itemsI G (.str z) = some (signs z) := nr rfl
@[simp] theorem iterD_lst (xs : List D) : iterD (.lst xs) = some xs := nr rfl
@[simp] theorem iterD_tup (xs : List D) : iterD (.tup xs) = some xs := nr rfl
@[simp] theorem iterD_scr (xs : List Int) : iterD (.scr xs) = some (xs.map D.int) := nr rfl
@[simp] theorem iterD_str (z : Str) : iterD (.str z) = some (signs z) := nr rfl
def rngK (os : List O) (σ : Fr) : Res (List D) := opt (rngOf (O.frzL os)) fun xs => .ok xs σ
@[simp] theorem rngK_eq (os : List O) (σ : Fr) : rngK os σ = opt (rngOf (O.frzL os)) fun xs => .ok xs σ := by unfold rngK; exact rfl
def enumK (G : Prog) (v : Val) (σ : Fr) : Res (List D) := opt ((toD v).bind (enumD G)) fun xs => .ok (enumL 0 xs) σ
@[simp] theorem lstD_lst (xs : List D) : lstD (.lst xs) = some xs := nr rfl
@[simp] theorem enumK_d (x : D) (σ : Fr) : enumK G (.d x) σ = opt (enumD G x) fun xs => .ok (enumL 0 xs) σ := nr rfl
@[simp] theorem enumD_l (xs : List D) : enumD G (.lst xs) = some xs := nr rfl
@[simp] theorem enumD_t (xs : List D) : enumD G (.tup xs) = some xs := nr rfl
@[simp] theorem enumD_s (ns : List Int) : enumD G (.scr ns) = some (ns.map D.int) := nr rfl
@[simp] theorem enumD_i (c : Nat) (fs : List (Nat × D)) : enumD G (.ins c fs) = itemsI G (.ins c fs) := nr rfl
def zipK2 (x : D) (u : Val) (σ : Fr) : Res (List D) := opt (toD u) fun y => opt (zipD x y) fun xs => .ok xs σ
@[simp] theorem zipK2_d (x y : D) (σ : Fr) : zipK2 x (.d y) σ = opt (zipD x y) fun xs => .ok xs σ := nr rfl
def zipK (G : Prog) (cl : Call) (b : E) (v : Val) (σ : Fr) : Res (List D) := opt (toD v) fun x => (ev G cl .val b σ).bind (zipK2 x)
@[simp] theorem zipK_d (b : E) (x : D) (σ : Fr) : zipK G cl b (.d x) σ = (ev G cl .val b σ).bind (zipK2 x) := nr rfl
@[simp] theorem i_seq (e : E) (σ : Fr) : evIt G cl (.seq e) σ = (ev G cl .val e σ).bind (itK G) := by rw [evIt]; rfl
@[simp] theorem i_rng (as : Es) (σ : Fr) : evIt G cl (.rng as) σ = (evs G cl as σ).bind rngK := by rw [evIt]; rfl
@[simp] theorem i_enum (e : E) (σ : Fr) : evIt G cl (.enum e) σ = (ev G cl .val e σ).bind (enumK G) := by rw [evIt]; rfl
@[simp] theorem i_zip (a b : E) (σ : Fr) : evIt G cl (.zip a b) σ = (ev G cl .val a σ).bind (zipK G cl b) := by rw [evIt]; rfl
end
@[simp] theorem fin_val (x : D) (σ : Fr) : fin .val (.d x) σ = .ok (.d x) σ := nr rfl
@[simp] theorem fin_valo (x : O) (σ : Fr) : fin .val (.o x) σ = .ok (.o x) σ := nr rfl
@[simp] theorem fin_pk' (v : Val) (σ : Fr) : fin .pk v σ = .ok v σ := nr rfl
@[simp] theorem fin_tst' (v : Val) (σ : Fr) : fin .tst v σ = opt (truthV v) fun b => .ok (.d (.bl b)) σ := nr rfl
@[simp] theorem getVar_eq (md : Md) (i : Nat) (σ : Fr) : getVar md i σ = match σ.get i with
  | some (.own o) => getO md i o .own σ
  | some (.lent o) => getO md i o .lent σ
  | none => .bad := rfl
@[simp] theorem getO_d (md : Md) (i : Nat) (x : D) (mk : O → Sl) (σ : Fr) : getO md i (.d x) mk σ = fin md (.d x) σ := nr rfl
@[simp] theorem getO_lst (i : Nat) (x : List O) (mk : O → Sl) (σ : Fr) : getO .val i (.lst x) mk σ = .ok (.d (.lst (O.frzL x))) (σ.put i (some (mk (.d (.lst (O.frzL x)))))) := by
  show Res.ok (Val.d (O.lst x).frz) (σ.put i (some (mk (.d (O.lst x).frz)))) = _
  rw [frz_lst]
@[simp] theorem getO_lstp (i : Nat) (x : List O) (mk : O → Sl) (σ : Fr) : getO .pk i (.lst x) mk σ = .ok (.b i (.lst x)) σ := nr rfl
@[simp] theorem truthV_d (x : D) : truthV (.d x) = truthD x := nr rfl
@[simp] theorem truth_bl (b : Bool) : truthD (.bl b) = some b := nr rfl
@[simp] theorem truth_int (i : Int) : truthD (.int i) = some (decide (¬ i = 0)) := by show some (i != 0) = _; by_cases h : i = 0 <;> simp [h]
@[simp] theorem cmpV_ne (G : Prog) (cl : Call) (i j : Int) : cmpV G cl .ne (.int i) (.d (.int j)) = some (decide (¬ i = j)) := by show some (i != j) = _; by_cases h : i = j <;> simp [h]
@[simp] theorem cmpV_eq (G : Prog) (cl : Call) (i j : Int) : cmpV G cl .eq (.int i) (.d (.int j)) = some (decide (i = j)) := by show some (i == j) = _; by_cases h : i = j <;> simp [h]
@[simp] theorem cmpV_lt (G : Prog) (cl : Call) (i j : Int) : cmpV G cl .lt (.int i) (.d (.int j)) = some (decide (i < j)) := nr rfl
@[simp] theorem cmpV_le (G : Prog) (cl : Call) (i j : Int) : cmpV G cl .le (.int i) (.d (.int j)) = some (decide (i ≤ j)) := nr rfl
@[simp] theorem cmpV_gt (G : Prog) (cl : Call) (i j : Int) : cmpV G cl .gt (.int i) (.d (.int j)) = some (decide (j < i)) := nr rfl
@[simp] theorem cmpV_ge (G : Prog) (cl : Call) (i j : Int) : cmpV G cl .ge (.int i) (.d (.int j)) = some (decide (j ≤ i)) := nr rfl
@[simp] theorem cmpD_lt (G : Prog) (cl : Call) (i j : Int) : cmpD G cl .lt (.int i) (.int j) = some (decide (i < j)) := nr rfl
@[simp] theorem cmpD_le (G : Prog) (cl : Call) (i j : Int) : cmpD G cl .le (.int i) (.int j) = some (decide (i ≤ j)) := nr rfl
@[simp] theorem cmpV_bb (G : Prog) (cl : Call) (i j : Bool) : cmpV G cl .eq (.bl i) (.d (.bl j)) = some (i == j) := nr rfl
@[simp] theorem cmpV_bn (G : Prog) (cl : Call) (i j : Bool) : cmpV G cl .ne (.bl i) (.d (.bl j)) = some (!(i == j)) := nr rfl
@[simp] theorem selV_lst (xs : List D) (i : Int) : selV (.d (.lst xs)) (.int i) = ((place xs.length i).bind fun k => xs[k]?).map Val.d := nr rfl
@[simp] theorem selV_tup (xs : List D) (i : Int) : selV (.d (.tup xs)) (.int i) = ((place xs.length i).bind fun k => xs[k]?).map Val.d := nr rfl
@[simp] theorem selV_scr (ns : List Int) (i : Int) : selV (.d (.scr ns)) (.int i) = (((place ns.length i).bind fun k => ns[k]?).map D.int).map Val.d := by
  show ((place ns.length i).bind fun k => (ns[k]?).map D.int).map Val.d = _
  cases place ns.length i <;> rfl
@[simp] theorem selV_b (r : Nat) (xs : List O) (i : Int) : selV (.b r (.lst xs)) (.int i) = ((place xs.length i).bind fun k => xs[k]?).map (Val.ofO r) := nr rfl
@[simp] theorem ofO_d (r : Nat) (x : D) : Val.ofO r (.d x) = .d x := nr rfl
@[simp] theorem itemsD_lst (xs : List D) : itemsD (.lst xs) = some xs := nr rfl
@[simp] theorem itemsD_tup (xs : List D) : itemsD (.tup xs) = some xs := nr rfl
@[simp] theorem itemsV_d (x : D) : itemsV (.d x) = itemsD x := nr rfl
@[simp] theorem after_ret (v : Val) (ls : List O) (bk : List (Option (Nat × Bool))) (σ : Fr) : after (.ret v ls) bk σ = opt (giveBack σ bk ls) fun σ => .ok v σ := nr rfl
@[simp] theorem after_exc (v : Xv) (ls : List O) (bk : List (Option (Nat × Bool))) (σ : Fr) : after (.exc v ls) bk σ = opt (giveBack σ bk ls) fun σ => .exc v σ := nr rfl
@[simp] theorem gb_nil (σ : Fr) : giveBack σ [] [] = some σ := by rw [giveBack]
@[simp] theorem gb_cons (σ : Fr) (i : Nat) (l : Bool) (bk : List (Option (Nat × Bool))) (o : O) (os : List O) : giveBack σ (some (i, l) :: bk) (o :: os) = giveBack (σ.put i (some (if l then .lent o else .own o))) bk os := by rw [giveBack]
@[simp] theorem hidden_eq {α : Type} (i : Nat) (σ : Fr) (f : Fr → Res α) (s : Sl) (h : σ[i]? = some (some s)) : hidden i σ f = match f (σ.put i none) with
      | .ok a σ' => .ok a (σ'.put i (some s))
      | .exc x σ' => .exc x (σ'.put i (some s))
      | .bad => .bad := by
  unfold hidden
  rw [h] <;> rfl
@[simp] theorem finish_ret (D : DefI) (v : Val) (σ : Fr) : finish D (.ret v σ) = match retV D.own v, lentsOf σ D.modes with
    | some v, some ls => .ret v ls
    | _, _ => .bad := rfl
@[simp] theorem finish_next (D : DefI) (σ : Fr) : finish D (.next σ) = match lentsOf σ D.modes with
    | some ls => .ret (.d .non) ls
    | none => .bad := rfl
@[simp] theorem finish_exc (D : DefI) (x : Xv) (σ : Fr) : finish D (.exc x σ) = match lentsOf σ D.modes with
    | some ls => .exc x ls
    | none => .bad := rfl
@[simp] theorem retV_f (x : D) : retV false (.d x) = some (.d x) := nr rfl
@[simp] theorem retV_t (x : D) : retV true (.d x) = some (.d x) := nr rfl
@[simp] theorem retV_fo (x : O) : retV false (.o x) = some (.d x.frz) := nr rfl
@[simp] theorem retV_to (x : O) : retV true (.o x) = some (.o x) := nr rfl
@[simp] theorem lo_nil (σ : Fr) : lentsOf σ [] = some [] := by cases σ <;> rw [lentsOf]
@[simp] theorem lo_val (s : Option Sl) (σ : Fr) (ms : List Mode) : lentsOf (s :: σ) (.val :: ms) = lentsOf σ ms := by
  cases s with
  | none => rw [lentsOf]
  | some s => cases s <;> rw [lentsOf]
@[simp] theorem lo_lend (o : O) (σ : Fr) (ms : List Mode) : lentsOf (some (.lent o) :: σ) (.lend :: ms) = (lentsOf σ ms).map (o :: ·) := by rw [lentsOf]
theorem call_eq {G : Prog} {wt n f : Nat} {D : DefI} {ss : List Sl} (hD : G.defs[f]? = some D) (hs : D.star = false) (hl : ss.length = D.np) (hm : modesOk ss D.modes = true) :
    callD G wt (n + 1) f ss = finish D (exSs G (callD G wt n) wt D.body (ss.map some ++ List.replicate (D.ns - D.np) none)) := by
  unfold callD
  rw [hD]
  have hp : packed D ss = some ss := by unfold packed; rw [hs]
  dsimp only
  rw [hp]
  dsimp only
  rw [if_pos ⟨hl, hm⟩]
section
variable {α β : Type}
@[simp] theorem map_ite {c : Prop} [Decidable c] (a b : Res α) (f : α → β) : (if c then a else b).map f = if c then a.map f else b.map f := by split <;> rfl
@[simp ↓] theorem map_bad (f : α → β) : (Res.bad : Res α).map f = .bad := nr rfl
@[simp ↓] theorem st_bad (f : α → Fr → RS) : (Res.bad : Res α).st f = .bad := nr rfl
@[simp ↓] theorem nxt_bad (f : Fr → RS) : RS.bad.nxt f = .bad := nr rfl
end
def RS.lp (r : RS) (f : Fr → RS) : RS := match r with
  | .next σ => f σ
  | .cont σ => f σ
  | .brk σ => .next σ
  | r => r
@[simp ↓] theorem lp_next (σ : Fr) (f : Fr → RS) : (RS.next σ).lp f = f σ := nr rfl
@[simp ↓] theorem lp_cont (σ : Fr) (f : Fr → RS) : (RS.cont σ).lp f = f σ := nr rfl
@[simp ↓] theorem lp_brk (σ : Fr) (f : Fr → RS) : (RS.brk σ).lp f = .next σ := nr rfl
@[simp ↓] theorem lp_ret (v : Val) (σ : Fr) (f : Fr → RS) : (RS.ret v σ).lp f = .ret v σ := nr rfl
@[simp ↓] theorem lp_exc (v : Xv) (σ : Fr) (f : Fr → RS) : (RS.exc v σ).lp f = .exc v σ := nr rfl
def whlK (test : Fr → Res Val) (body : Fr → RS) (n : Nat) (v : Val) (σ : Fr) : RS := match v with
    | .d (.bl false) => .next σ
    | .d (.bl true) => (body σ).lp (whlLoop test body n)
    | _ => .bad
@[simp ↓] theorem whlK_t (test : Fr → Res Val) (body : Fr → RS) (n : Nat) (σ : Fr) : whlK test body n (.d (.bl true)) σ = (body σ).lp (whlLoop test body n) := nr rfl
@[simp ↓] theorem whlK_f (test : Fr → Res Val) (body : Fr → RS) (n : Nat) (σ : Fr) : whlK test body n (.d (.bl false)) σ = .next σ := nr rfl
theorem whl_succ (test : Fr → Res Val) (body : Fr → RS) (n : Nat) (σ : Fr) : whlLoop test body (n + 1) σ = (test σ).st (whlK test body n) := by
  rw [whlLoop]
  congr 1
theorem whl_run {α : Type} {test : Fr → Res Val} {body : Fr → RS} (enc : α → Fr) (c : α → Bool) (I : α → Prop) (m : α → Nat) (ht : ∀ a, I a → test (enc a) = .ok (.d (.bl (c a))) (enc a))
    (hb : ∀ a, I a → c a = true → ∃ a', body (enc a) = .next (enc a') ∧ I a' ∧ m a' < m a) : ∀ (w : Nat) (a : α), I a → m a < w → ∃ b, I b ∧ c b = false ∧ whlLoop test body w (enc a) = .next (enc b)
  | 0, a, _, h => by omega
  | w + 1, a, hI, hm => by
    rw [whl_succ, ht a hI]
    cases hc : c a with
    | false => exact ⟨a, hI, hc, by simp⟩
    | true =>
      obtain ⟨a', e, hI', hm'⟩ := hb a hI hc
      obtain ⟨b, h1, h2, h3⟩ := whl_run enc c I m ht hb w a' hI' (by omega)
      refine ⟨b, h1, h2, ?_⟩
      simp [e, h3]
@[simp] theorem for_nil (turn : D → Fr → RS) (σ : Fr) : forLoop turn [] σ = .next σ := nr rfl
@[simp] theorem for_cons (turn : D → Fr → RS) (x : D) (xs : List D) (σ : Fr) : forLoop turn (x :: xs) σ = (turn x σ).lp (forLoop turn xs) := by
  rw [forLoop]
  cases turn x σ <;> rfl
@[simp] theorem forT_eq (tg : Tg) (b : Fr → RS) (x : D) (σ : Fr) : forT tg b x σ = optS (Tf.asg tg x σ) b := nr rfl
@[simp] theorem comp_nil (turn : D → Fr → Res (Option O)) (σ : Fr) : compLoop turn [] σ = .ok [] σ := nr rfl
theorem comp_cons (turn : D → Fr → Res (Option O)) (x : D) (xs : List D) (σ : Fr) : compLoop turn (x :: xs) σ = (turn x σ).bind fun r σ => (compLoop turn xs σ).map fun vs => match r with | some v => v :: vs | none => vs := nr rfl
@[simp] theorem comp2_nil (turn : D → Fr → Res (List O)) (σ : Fr) : compLoop2 turn [] σ = .ok [] σ := nr rfl
@[simp] theorem lkp {α : Type} (a k : Nat) (x : α) (r : List (Nat × α)) : List.lookup a ((k, x) :: r) = if a = k then some x else List.lookup a r := by
  rw [List.lookup_cons]
  by_cases h : a = k
  · subst h
    simp
  · rw [show (a == k) = false from by simpa using h, if_neg h]
@[simp] theorem cmpV_se (G : Prog) (cl : Call) (x y : Str) : cmpV G cl .eq (.str x) (.d (.str y)) = some (decide (x = y)) := by show some (x == y) = _; by_cases h : x = y <;> simp [h]
@[simp] theorem cmpV_sn (G : Prog) (cl : Call) (x y : Str) : cmpV G cl .ne (.str x) (.d (.str y)) = some (decide (¬ x = y)) := by show some (!(x == y)) = _; by_cases h : x = y <;> simp [h]
end Tf
end
section
set_option Elab.async false
set_option linter.all false
namespace Tf
def szI (i : Int) : Nat := i.natAbs.log2 + 1
theorem szI_lt {i : Int} {k : Nat} : szI i ≤ k ↔ k ≠ 0 ∧ i.natAbs < 2 ^ k := by
  unfold szI
  constructor
  · intro h
    refine ⟨by omega, ?_⟩
    by_cases hi : i.natAbs = 0
    · rw [hi]; exact Nat.pos_of_ne_zero (by simp)
    · have : i.natAbs.log2 < k := by omega
      exact (Nat.log2_lt hi).mp this
  · intro ⟨h0, h⟩
    by_cases hi : i.natAbs = 0
    · rw [hi]
      have : Nat.log2 0 = 0 := by decide
      omega
    · have := (Nat.log2_lt hi).mpr h
      omega
theorem szI_self (i : Int) : i.natAbs < 2 ^ szI i := (szI_lt.mp (Nat.le_refl _)).2
theorem szI_pos (i : Int) : 1 ≤ szI i := by unfold szI; omega
theorem szI_le {i j : Int} (h : i.natAbs ≤ j.natAbs) : szI i ≤ szI j := by
  have := szI_self j
  have := szI_pos j
  exact szI_lt.mpr ⟨by omega, by omega⟩
theorem szI_mul (i j : Int) : szI (i * j) ≤ szI i + szI j := by
  have h1 := szI_self i
  have h2 := szI_self j
  have := szI_pos i
  refine szI_lt.mpr ⟨by omega, ?_⟩
  rw [Int.natAbs_mul, Nat.pow_add]
  exact Nat.mul_lt_mul'' h1 h2
theorem szI_add (i j : Int) : szI (i + j) ≤ max (szI i) (szI j) + 1 := by
  have h1 := szI_self i
  have h2 := szI_self j
  refine szI_lt.mpr ⟨by omega, ?_⟩
  have a1 : 2 ^ szI i ≤ 2 ^ max (szI i) (szI j) := Nat.pow_le_pow_right (by decide) (by omega)
  have a2 : 2 ^ szI j ≤ 2 ^ max (szI i) (szI j) := Nat.pow_le_pow_right (by decide) (by omega)
  have := Int.natAbs_add_le i j
  rw [Nat.pow_succ]
  omega
theorem szI_neg (i : Int) : szI (-i) = szI i := by unfold szI; rw [Int.natAbs_neg]
theorem szI_sub (i j : Int) : szI (i - j) ≤ max (szI i) (szI j) + 1 := by
  rw [Int.sub_eq_add_neg]
  have := szI_add i (-j)
  rwa [szI_neg] at this
theorem mulOk_sz {i j : Int} (h : szI i + szI j ≤ 1000001) : mulOk i j = true := by
  unfold mulOk szI at *
  have : i.natAbs.log2 + j.natAbs.log2 < 1000000 := by omega
  simp [this]
theorem divInt_sz {t b : Int} (hb : b ≠ 0) : szI (Rat.divInt t b).num ≤ szI t ∧ szI ((Rat.divInt t b).den : Int) ≤ szI b := by
  constructor
  · refine szI_le ?_
    rw [Rat.num_divInt]
    have hg : (b.gcd t : Int) ∣ b.sign * t := Int.dvd_mul_of_dvd_right (Int.gcd_dvd_right ..)
    have e : (b.sign * t / (b.gcd t : Int)).natAbs = (b.sign * t).natAbs / b.gcd t := by
      rw [Int.natAbs_ediv_of_dvd hg]
      simp
    rw [e, Int.natAbs_mul, Int.natAbs_sign_of_ne_zero hb, Nat.one_mul]
    exact Nat.div_le_self _ _
  · refine szI_le ?_
    rw [Rat.den_divInt, if_neg hb]
    simp
    exact Nat.div_le_self _ _
end Tf
end
section
set_option Elab.async false
set_option linter.all false
set_option maxRecDepth 100000
namespace Tf
open PySem
abbrev ow (x : D) : Sl := .own (.d x)
def oS : Option D → Option Sl
  | none => none
  | some x => sv x
@[simp] theorem oS_n : oS none = none := rfl
@[simp] theorem oS_s (x : D) : oS (some x) = sv x := rfl
inductive All2 {α β : Type} (R : α → β → Prop) : List α → List β → Prop
  | nil : All2 R [] []
  | cons {a : α} {b : β} {l : List α} {m : List β} (h : R a b) (t : All2 R l m) : All2 R (a :: l) (b :: m)
theorem mixL_len' {α : Type} {p : Nat → Bool} : ∀ {as bs : List α} {i : Nat}, as.length = bs.length → (mixL p i as bs).length = bs.length
  | [], [], _, _ => rfl
  | a :: as, b :: bs, i, h => by
    show ((if p i then a else b) :: mixL p (i + 1) as bs).length = _
    rw [List.length_cons, List.length_cons, mixL_len' (by simpa using h)]
  | [], _ :: _, _, h => by cases h
  | _ :: _, [], _, h => by cases h
theorem mix_three {α : Type} {p : Nat → Bool} : ∀ {as bs cs : List α} {i : Nat}, as.length = cs.length → bs.length = cs.length → mixL p i as (mixL p i bs cs) = mixL p i as cs
  | [], [], [], _, _, _ => rfl
  | a :: as, b :: bs, c :: cs, i, h, h' => by
    show (if p i then a else (if p i then b else c)) :: mixL p (i + 1) as (mixL p (i + 1) bs cs) = (if p i then a else c) :: mixL p (i + 1) as cs
    rw [mix_three (by simpa using h) (by simpa using h')]
    cases p i <;> rfl
  | [], _ :: _, [], _, _, h => by cases h
  | _, [], _ :: _, _, _, h => by cases h
  | [], _, _ :: _, _, h, _ => by cases h
  | _ :: _, _, [], _, h, _ => by cases h
theorem mix_self {α : Type} {p : Nat → Bool} : ∀ {as : List α} {i : Nat}, mixL p i as as = as
  | [], _ => rfl
  | a :: as, i => by
    show (if p i then a else a) :: mixL p (i + 1) as as = _
    rw [mix_self]
    cases p i <;> rfl
theorem wiped_len (vs : List Nat) (σ : Fr) : (wiped vs σ).length = σ.length := mixL_len' (by simp)
theorem wiped_twice (vs : List Nat) (σ : Fr) : wiped vs (wiped vs σ) = wiped vs σ := by
  unfold wiped
  rw [show (mixL (fun i => vs.contains i) 0 (List.replicate σ.length none) σ).length = σ.length from mixL_len' (by simp)]
  exact mix_three (by simp) (by simp)
theorem restored_wiped (vs : List Nat) (σ0 σ : Fr) (h : σ0.length = σ.length) : restored σ0 vs (wiped vs σ) = restored σ0 vs σ := mix_three h (by simp)
theorem restored_self (vs : List Nat) (σ : Fr) : restored σ vs σ = σ := mix_self
theorem len_of_wiped {vs : List Nat} {σ σ' : Fr} (h : wiped vs σ' = wiped vs σ) : σ'.length = σ.length := by
  have := congrArg List.length h
  rwa [wiped_len, wiped_len] at this
section
variable {G : Prog} {cl : Call} {md : Md}
theorem cTurn_w (elt : E) (tg : Tg) (cs : Es) (vs : List Nat) (x : D) {σ σ' : Fr} (h : wiped vs σ' = wiped vs σ) : cTurn G cl elt tg cs vs x σ' = cTurn G cl elt tg cs vs x σ := by
  unfold cTurn
  rw [h]
theorem loop_pure {β : Type} {elt : E} {tg : Tg} {cs : Es} {vs : List Nat} {dec : β → D} {g : β → Option O} {σ : Fr} : ∀ (l : List β) (σ1 : Fr), wiped vs σ1 = wiped vs σ → (∀ b ∈ l, ∃ σ', cTurn G cl elt tg cs vs (dec b) σ = .ok (g b) σ' ∧ wiped vs σ' = wiped vs σ) →
    ∃ σ', compLoop (cTurn G cl elt tg cs vs) (l.map dec) σ1 = .ok (l.filterMap g) σ' ∧ wiped vs σ' = wiped vs σ
  | [], σ1, h1, _ => ⟨σ1, rfl, h1⟩
  | b :: l, σ1, h1, h => by
    obtain ⟨σ2, e, h2⟩ := h b List.mem_cons_self
    obtain ⟨σ3, e3, h3⟩ := loop_pure l σ2 h2 fun b hb => h b (List.mem_cons_of_mem _ hb)
    refine ⟨σ3, ?_, h3⟩
    rw [List.map_cons, comp_cons, cTurn_w elt tg cs vs (dec b) h1, e]
    show (compLoop _ _ σ2).map _ = _
    rw [e3]
    cases q : g b with
    | none => rw [List.filterMap_cons, q] <;> rfl
    | some o => rw [List.filterMap_cons, q] <;> rfl
theorem comp_run {β : Type} {own : Bool} {elt : E} {tg : Tg} {it : It} {cs : Es} {vs : List Nat} {σ : Fr} (l : List β) (dec : β → D) (g : β → Option O) (hit : evIt G cl it σ = .ok (l.map dec) σ) (hl : l.length ≤ lineN)
    (h : ∀ b ∈ l, ∃ σ', cTurn G cl elt tg cs vs (dec b) σ = .ok (g b) σ' ∧ wiped vs σ' = wiped vs σ) : ev G cl md (.comp own elt tg it cs vs) σ = fin md (lstV own (l.filterMap g)) σ := by
  obtain ⟨σ', e, hw⟩ := loop_pure (G := G) (cl := cl) (elt := elt) (tg := tg) (cs := cs) l (wiped vs σ) (wiped_twice vs σ) h
  rw [e_comp, hit, bind_ok, compK_eq, e, nox_ok, bind_ok, compK2_eq, if_pos (Nat.le_trans (List.length_filterMap_le ..) hl), bind_ok]
  congr 1
  rw [← restored_wiped vs σ σ' (len_of_wiped hw).symm, hw, restored_wiped vs σ σ rfl, restored_self]
theorem frzL_d {β : Type} (l : List β) (v : β → D) : O.frzL (l.map fun b => O.d (v b)) = l.map v := by
  induction l with
  | nil => simp
  | cons b l ih => simp [ih]
theorem fm_some {α β : Type} (l : List α) (v : α → β) : l.filterMap (fun b => some (v b)) = l.map v := by
  induction l with
  | nil => rfl
  | cons b l ih => simp [ih]
theorem comp_mapD {β : Type} {elt : E} {tg : Tg} {it : It} {vs : List Nat} {σ : Fr} (l : List β) (dec : β → D) (v : β → D) (hit : evIt G cl it σ = .ok (l.map dec) σ) (hl : l.length ≤ lineN)
    (h : ∀ b ∈ l, ∃ σ', cTurn G cl elt tg .nil vs (dec b) σ = .ok (some (.d (v b))) σ' ∧ wiped vs σ' = wiped vs σ) : ev G cl md (.comp false elt tg it .nil vs) σ = fin md (.d (.lst (l.map v))) σ := by
  rw [comp_run l dec (fun b => some (.d (v b))) hit hl h, fm_some, lstV_f, frzL_d]
end
theorem place_nat {n k : Nat} (h : k < n) : place n (k : Int) = some k := by
  unfold place
  rw [if_pos (by omega), if_pos (by omega)]
  simp
theorem rng_nat {n : Nat} (h : n ≤ 4000000000) : rngOf [.int (n : Int)] = some ((List.range n).map fun (k : Nat) => D.int k) := by
  show (if -4611686018427387904 ≤ (n : Int) ∧ (n : Int) < 4611686018427387904 then some ((List.range (n : Int).toNat).map fun (k : Nat) => D.int k) else none) = _
  rw [if_pos (by omega)]
  rfl
def li (r : List Int) : D := .lst (r.map D.int)
def tb (rows : List (List Int)) : D := .lst (rows.map li)
theorem eqL_map {α : Type} [DecidableEq α] {rec : D → D → Option Bool} (dec : α → D) : ∀ (xs ys : List α), (∀ x ∈ xs, ∀ y ∈ ys, rec (dec x) (dec y) = some (decide (x = y))) → xs.length = ys.length → eqL rec (xs.map dec) (ys.map dec) = some (decide (xs = ys))
  | [], [], _, _ => by simp [eqL]
  | [], _ :: _, _, h => by cases h
  | _ :: _, [], _, h => by cases h
  | x :: xs, y :: ys, hr, hl => by
    have ih := eqL_map dec xs ys (fun a ha b hb => hr a (List.mem_cons_of_mem _ ha) b (List.mem_cons_of_mem _ hb)) (by simpa using hl)
    rw [List.map_cons, List.map_cons, eqL, hr x List.mem_cons_self y List.mem_cons_self]
    by_cases h : x = y
    · subst h
      simp [ih]
    · simp [h]
theorem eqL_map' {α : Type} [DecidableEq α] {rec : D → D → Option Bool} (dec : α → D) (xs ys : List α) (hr : ∀ x ∈ xs, ∀ y ∈ ys, rec (dec x) (dec y) = some (decide (x = y))) : (if (xs.map dec).length = (ys.map dec).length then eqL rec (xs.map dec) (ys.map dec) else some false) = some (decide (xs = ys)) := by
  by_cases hl : xs.length = ys.length
  · rw [if_pos (by simpa using hl), eqL_map dec xs ys hr hl]
  · rw [if_neg (by simpa using hl)]
    have : ¬ xs = ys := fun h => hl (by rw [h])
    simp [this]
section
variable {G : Prog} {cl : Call}
theorem eqD_int (k : Nat) (i j : Int) : eqD G cl k (.int i) (.int j) = some (decide (i = j)) := by
  cases k <;> (show some (i == j) = _; by_cases h : i = j <;> simp [h])
theorem eqD_bl (k : Nat) (i j : Bool) : eqD G cl k (.bl i) (.bl j) = some (decide (i = j)) := by
  cases k <;> (show some (i == j) = _; by_cases h : i = j <;> simp [h])
theorem eqD_map {α : Type} [DecidableEq α] (k : Nat) (dec : α → D) (xs ys : List α) (h : ∀ x ∈ xs, ∀ y ∈ ys, eqD G cl k (dec x) (dec y) = some (decide (x = y))) : eqD G cl (k + 1) (.lst (xs.map dec)) (.lst (ys.map dec)) = some (decide (xs = ys)) := eqL_map' dec xs ys h
theorem cmp_eqD (x y : D) : cmpV G cl .eq x (.d y) = eqD G cl 5 x y := rfl
theorem cmp_neD (x y : D) : cmpV G cl .ne x (.d y) = (eqD G cl 5 x y).map not := rfl
@[simp] theorem is_nn : cmpV G cl .is_ .non (.d .non) = some true := nr rfl
@[simp] theorem is_nt (xs : List D) : cmpV G cl .is_ (.tup xs) (.d .non) = some false := nr rfl
@[simp] theorem is_ni (i : Int) : cmpV G cl .is_ (.int i) (.d .non) = some false := nr rfl
@[simp] theorem is_no (c : Nat) (fs : List (Nat × D)) : cmpV G cl .is_ (.ins c fs) (.d .non) = some false := nr rfl
@[simp] theorem is_nl (xs : List D) : cmpV G cl .is_ (.lst xs) (.d .non) = some false := nr rfl
@[simp] theorem isnot_n : cmpV G cl .isnot .non (.d .non) = some false := nr rfl
@[simp] theorem isnot_i (i : Int) : cmpV G cl .isnot (.int i) (.d .non) = some true := nr rfl
@[simp] theorem isnot_o (c : Nat) (fs : List (Nat × D)) : cmpV G cl .isnot (.ins c fs) (.d .non) = some true := nr rfl
end
def NR (M : Nat) (l : List Nat) : Prop := ∀ i n, i + n ≤ l.length → (∀ j, i ≤ j → j < i + n → l[j]? ≠ some 32) → n ≤ M
theorem NR.mono {M N : Nat} {l : List Nat} (h : NR M l) (hm : M ≤ N) : NR N l := fun i n h1 h2 => Nat.le_trans (h i n h1 h2) hm
theorem NR.app {M N : Nat} {a b : List Nat} (h : NR M a) (h' : NR N b) : NR (M + N) (a ++ b) := by
  intro i n h1 h2
  rw [List.length_append] at h1
  by_cases c1 : i + n ≤ a.length
  · have := h i n c1 fun j hj hj2 => by
      have := h2 j hj hj2
      rwa [List.getElem?_append_left (by omega)] at this
    omega
  · by_cases c2 : a.length ≤ i
    · have := h' (i - a.length) n (by omega) fun j hj hj2 => by
        have := h2 (j + a.length) (by omega) (by omega)
        rwa [List.getElem?_append_right (by omega), Nat.add_sub_cancel] at this
      omega
    · have k1 := h i (a.length - i) (by omega) fun j hj hj2 => by
        have := h2 j hj (by omega)
        rwa [List.getElem?_append_left (by omega)] at this
      have k2 := h' 0 (i + n - a.length) (by omega) fun j hj hj2 => by
        have := h2 (j + a.length) (by omega) (by omega)
        rwa [List.getElem?_append_right (by omega), Nat.add_sub_cancel] at this
      omega
theorem NR.cut {M : Nat} {l : List Nat} (h : NR M l) (a b : Nat) : NR M ((l.drop a).take b) := by
  intro i n h1 h2
  rw [List.length_take, List.length_drop] at h1
  by_cases hn : n = 0
  · omega
  · exact h (a + i) n (by omega) fun j hj hj2 => by
      have := h2 (j - a) (by omega) (by omega)
      rw [List.getElem?_take_of_lt (by omega), List.getElem?_drop] at this
      rwa [show a + (j - a) = j by omega] at this
theorem NR.tk {M : Nat} {l : List Nat} (h : NR M l) (b : Nat) : NR M (l.take b) := by
  have := h.cut 0 b
  rwa [List.drop_zero] at this
theorem NR.dr {M : Nat} {l : List Nat} (h : NR M l) (a : Nat) : NR M (l.drop a) := by
  have := h.cut a (l.drop a).length
  rwa [List.take_length] at this
theorem NR.app_blank {M : Nat} {a b : List Nat} (h : NR M (a ++ [32])) (h' : NR M b) : NR M (a ++ 32 :: b) := by
  intro i n h1 h2
  rw [List.length_append, List.length_cons] at h1
  have hb : (a ++ 32 :: b)[a.length]? = some 32 := by rw [List.getElem?_append_right (Nat.le_refl _)]; simp
  by_cases c1 : i + n ≤ a.length
  · exact h i n (by simp; omega) fun j hj hj2 => by
      have := h2 j hj hj2
      rw [List.getElem?_append_left (by omega)] at this
      rw [List.getElem?_append_left (by omega)]
      exact this
  · by_cases c2 : i ≤ a.length
    · by_cases hn : n = 0
      · omega
      · exact absurd hb (h2 a.length c2 (by omega))
    · exact h' (i - a.length - 1) n (by omega) fun j hj hj2 => by
        have := h2 (j + a.length + 1) (by omega) (by omega)
        rw [List.getElem?_append_right (by omega)] at this
        rw [show j + a.length + 1 - a.length = j + 1 by omega, List.getElem?_cons_succ] at this
        exact this
theorem NR.len {M : Nat} {l : List Nat} (h : NR M l) (hb : 32 ∉ l) : l.length ≤ M := h 0 l.length (by omega) fun j _ _ e => hb (List.mem_of_getElem? e)
theorem NR.triv (l : List Nat) : NR l.length l := fun i n h _ => by omega
theorem NR.join {M : Nat} {s : Option Nat} : ∀ {ws : List (List Nat)}, (∀ w ∈ ws, NR M w) → NR (M + 1) (TL.joinL (s.toList ++ [32]) ws)
  | [], _ => fun i n h _ => by
    have : TL.joinL (s.toList ++ [32]) [] = [] := rfl
    rw [this] at h
    simp at h
    omega
  | [w], h => (h w (by simp)).mono (by omega)
  | w :: u :: r, h => by
    have ih := NR.join (s := s) (ws := u :: r) fun w hw => h w (List.mem_cons_of_mem _ hw)
    have e : TL.joinL (s.toList ++ [32]) (w :: u :: r) = (w ++ s.toList) ++ 32 :: TL.joinL (s.toList ++ [32]) (u :: r) := by
      show w ++ ((s.toList ++ [32]) ++ _) = _
      simp
    rw [e]
    refine NR.app_blank ?_ ih
    have h1 := h w (by simp)
    have h2 : NR (s.toList.length) s.toList := NR.triv _
    have h3 : s.toList.length ≤ 1 := by cases s <;> simp
    intro i n k1 k2
    by_cases c : i + n ≤ (w ++ s.toList).length
    · have := (h1.app h2) i n c fun j hj hj2 => by
        have := k2 j hj hj2
        rwa [List.getElem?_append_left (by omega)] at this
      omega
    · have hl : (w ++ s.toList ++ [32]).length = (w ++ s.toList).length + 1 := by simp; omega
      by_cases hn : n = 0
      · omega
      · by_cases ci : i ≤ (w ++ s.toList).length
        · refine absurd ?_ (k2 (w ++ s.toList).length ci (by omega))
          rw [List.getElem?_append_right (Nat.le_refl _)]
          simp
        · omega
theorem mulOk_r {i j : Int} (h : j.natAbs < 18446744073709551616) : mulOk i j = true := by unfold mulOk; simp [h]
theorem s_one {G : Prog} {cl : Call} {e : E} {σ σ' : Fr} {d : D} {β : Type} (he : ev G cl .val e σ = .ok (.d d) σ') (f : List O → Fr → Res β) : (evs G cl (.cons false e .nil) σ).bind f = f [O.d d] σ' := by
  rw [s_cons, he, Res.bind, evsK_d, s_nil]
  rfl
theorem rngK_of {d : D} {xs : List D} (σ : Fr) (h : rngOf [d] = some xs) : rngK [O.d d] σ = .ok xs σ := by
  have e : O.frzL [O.d d] = [d] := by simp
  rw [rngK_eq, e, h]
  rfl
theorem it_rng1 {G : Prog} {cl : Call} {e : E} {σ σ' : Fr} {n : Nat} (he : ev G cl .val e σ = .ok (.d (.int (n : Int))) σ') (hn : n ≤ 4000000000) : evIt G cl (.rng (.cons false e .nil)) σ = .ok ((List.range n).map fun k : Nat => D.int k) σ' := by
  rw [i_rng, s_one he]
  exact rngK_of σ' (rng_nat hn)
theorem for_rng1 {G : Prog} {cl : Call} {w : Nat} {t : Tg} {e : E} {b : Ss} {σ σ' : Fr} {n : Nat} (he : ev G cl .val e σ = .ok (.d (.int (n : Int))) σ') (hn : n ≤ 4000000000) : exS G cl w (.for_ t (.rng (.cons false e .nil)) b) σ = forLoop (forT t (exSs G cl w b)) ((List.range n).map fun k : Nat => D.int k) σ' := by
  rw [x_for, it_rng1 he hn]
  rfl
end Tf
end
section
set_option Elab.async false
set_option linter.all false
set_option maxRecDepth 100000
namespace Tf.P
open Tf PySem
@[simp] theorem owned_eq (x : D) : owned x = .own (.d x) := rfl
@[simp] theorem mo_0 : modesOf G 0 = f0.modes := rfl
@[simp] theorem mo_1 : modesOf G 1 = f1.modes := rfl
@[simp] theorem mo_2 : modesOf G 2 = f2.modes := rfl
@[simp] theorem mo_3 : modesOf G 3 = f3.modes := rfl
@[simp] theorem mo_4 : modesOf G 4 = f4.modes := rfl
@[simp] theorem mo_5 : modesOf G 5 = f5.modes := rfl
@[simp] theorem mo_6 : modesOf G 6 = f6.modes := rfl
@[simp] theorem mo_7 : modesOf G 7 = f7.modes := rfl
@[simp] theorem mo_8 : modesOf G 8 = f8.modes := rfl
@[simp] theorem mo_9 : modesOf G 9 = f9.modes := rfl
@[simp] theorem mo_10 : modesOf G 10 = f10.modes := rfl
@[simp] theorem mo_11 : modesOf G 11 = f11.modes := rfl
@[simp] theorem mo_12 : modesOf G 12 = f12.modes := rfl
@[simp] theorem cls_0 : G.clss[0]? = some { frz := true, init := 1, meths := [(1, 2), (2, 3), (4, 4), (3, 5), (0, 6)], cms := [], exn := none } := rfl
@[simp] theorem me_0_1 : G.meth 0 m_add = some 2 := rfl
@[simp] theorem me_0_2 : G.meth 0 m_sub = some 3 := rfl
@[simp] theorem me_0_4 : G.meth 0 m_neg = some 4 := rfl
@[simp] theorem me_0_3 : G.meth 0 m_mul = some 5 := rfl
@[simp] theorem me_0_0 : G.meth 0 m_eq = some 6 := rfl
@[simp] theorem cls_1 : G.clss[1]? = some { frz := true, init := 0, meths := [], cms := [], exn := some 0 } := rfl
@[simp] theorem cls_2 : G.clss[2]? = some { frz := true, init := 0, meths := [], cms := [], exn := some 1 } := rfl
@[simp] theorem cls_3 : G.clss[3]? = some { frz := true, init := 0, meths := [], cms := [], exn := some 1 } := rfl
@[simp] theorem cls_4 : G.clss[4]? = some { frz := true, init := 0, meths := [], cms := [], exn := some 1 } := rfl
@[simp] theorem cls_5 : G.clss[5]? = some { frz := true, init := 0, meths := [], cms := [], exn := some 1 } := rfl
@[simp] theorem cls_6 : G.clss[6]? = some { frz := true, init := 0, meths := [], cms := [], exn := some 2 } := rfl
@[simp] theorem cls_7 : G.clss[7]? = some { frz := true, init := 0, meths := [], cms := [], exn := some 0 } := rfl
@[simp] theorem cls_8 : G.clss[8]? = some { frz := true, init := 0, meths := [], cms := [], exn := some 0 } := rfl
end Tf.P
end
section
set_option Elab.async false
set_option linter.all false
set_option maxRecDepth 100000
set_option maxHeartbeats 0
namespace Tf.P
open Tf
def szMax : Nat := 9000
def Fu (wt : Nat) : Prop := 2 ^ szMax ≤ wt
def rD (q : Rat) : D := .ins 0 [(0, .int q.num), (1, .int q.den)]
theorem emod_gcd (a b : Int) : Int.gcd b (a % b) = Int.gcd a b := by
  rw [Int.gcd_comm a b]
  refine Int.gcd_right_eq_iff.mpr fun c hc => ?_
  rw [Int.emod_def]
  constructor
  · intro h
    have := Int.dvd_add h (Int.dvd_mul_of_dvd_left (c := a / b) hc)
    simpa using this
  · intro h
    exact Int.dvd_sub h (Int.dvd_mul_of_dvd_left hc)
theorem run_common (n wt : Nat) (a b : Int) (h : b.natAbs < wt) : callD G wt (n + 1) 0 [ow (.int a), ow (.int b)] = .ret (.d (.int (Int.gcd a b))) [] := by
  rw [call_eq (D := f0) rfl rfl rfl rfl]
  have key := whl_run (test := ev G (callD G wt n) .tst (.cmp .ne (.var 3) (.cst (.int 0)))) (body := exSs G (callD G wt n) wt (.cons (.par 2 3 (.var 3) (.bin .mod (.var 2) (.var 3))) .nil))
    (enc := fun (p : Int × Int) => [sv (.int a), sv (.int b), sv (.int p.1), sv (.int p.2)]) (c := fun p => decide (¬ p.2 = 0)) (I := fun p => 0 ≤ p.1 ∧ 0 ≤ p.2 ∧ Int.gcd p.1 p.2 = Int.gcd a b) (m := fun p => p.2.toNat)
    (by intro p hI; simp) (by
      intro p ⟨h1, h2, h3⟩ hc
      have h4 : 0 < p.2 := by
        have : p.2 ≠ 0 := by simpa using hc
        omega
      refine ⟨(p.2, p.1 % p.2), by simp [h4], ⟨h2, Int.emod_nonneg _ (by omega), ?_⟩, ?_⟩
      · rw [← h3]
        exact emod_gcd _ _
      · have := Int.emod_lt_of_pos p.1 h4
        have := Int.emod_nonneg p.1 (show p.2 ≠ 0 by omega)
        show (p.1 % p.2).toNat < p.2.toNat
        omega) wt ((if a < 0 then -a else a), (if b < 0 then -b else b)) ⟨by dsimp only; split <;> omega, by dsimp only; split <;> omega, by dsimp only; split <;> split <;> simp [Int.gcd_neg, Int.neg_gcd]⟩ (by dsimp only; split <;> omega)
  obtain ⟨⟨x, y⟩, ⟨h1, h2, h3⟩, hc, e⟩ := key
  have hy : y = 0 := by simpa using hc
  subst hy
  have hx : x = Int.gcd a b := by
    rw [← h3]
    simp
    omega
  subst hx
  simp [f0, f0_body, f0_s1, f0_l1, biV, owned] at e ⊢
  rw [e]
  simp
theorem num_fdiv {t b : Int} (hb : b ≠ 0) : t.fdiv (if b < 0 then -(Int.gcd t b : Int) else Int.gcd t b) = (Rat.divInt t b).num := by
  have hg : (Int.gcd t b : Int) ≠ 0 := by
    have := Int.gcd_pos_of_ne_zero_right t hb
    omega
  have hd : (Int.gcd t b : Int) ∣ t := Int.gcd_dvd_left ..
  rw [Rat.num_divInt, Int.gcd_comm b t]
  split
  · rename_i h
    rw [Int.fdiv_eq_ediv_of_dvd (by rw [Int.neg_dvd]; exact hd), Int.ediv_neg, Int.sign_eq_neg_one_of_neg h]
    rw [show (-1 : Int) * t = -t by omega, Int.neg_ediv_of_dvd hd]
  · rename_i h
    rw [Int.fdiv_eq_ediv_of_dvd hd, Int.sign_eq_one_of_pos (by omega), Int.one_mul]
theorem den_fdiv {t b : Int} (hb : b ≠ 0) : b.fdiv (if b < 0 then -(Int.gcd t b : Int) else Int.gcd t b) = (Rat.divInt t b).den := by
  have hd : (Int.gcd t b : Int) ∣ b := Int.gcd_dvd_right ..
  rw [Rat.den_divInt, if_neg hb, Int.gcd_comm b t]
  have e : ((b.natAbs / t.gcd b : Nat) : Int) = (b.natAbs : Int) / (t.gcd b : Int) := by simp
  rw [e]
  split
  · rename_i h
    rw [Int.fdiv_eq_ediv_of_dvd (by rw [Int.neg_dvd]; exact hd), Int.ediv_neg, ← Int.neg_ediv_of_dvd hd]
    congr 1
    omega
  · rename_i h
    rw [Int.fdiv_eq_ediv_of_dvd hd]
    congr 1
    omega
theorem run_init (n wt : Nat) (t b : Int) (hb : b ≠ 0) (h : b.natAbs < wt) (hs : szI b ≤ 9000) :
    callD G wt (n + 2) 1 [.lent (.ins 0 []), ow (.int t), ow (.int b)] = .ret (.d .non) [.ins 0 [(0, .d (.int (Rat.divInt t b).num)), (1, .d (.int (Rat.divInt t b).den))]] := by
  rw [call_eq (D := f1) rfl rfl rfl rfl]
  have hc := run_common n wt t b h
  have hg : (Int.gcd t b : Int) ≠ 0 := by
    have := Int.gcd_pos_of_ne_zero_right t hb
    omega
  have hl : (Int.gcd t b).log2 < 9000 := by
    have h1 : Int.gcd t b ≤ b.natAbs := Int.gcd_le_natAbs_right t hb
    have h2 : szI (Int.gcd t b : Int) ≤ szI b := szI_le (by simpa using h1)
    unfold szI at h2 hs
    simp at h2
    omega
  have n1 := num_fdiv (t := t) hb
  have n2 := den_fdiv (t := t) hb
  by_cases hneg : b < 0
  · rw [if_pos hneg] at n1 n2
    simp [f1, f1_body, hb, hc, f0, hneg, setF, putN, hg, hl, n1, n2, owned]
  · rw [if_neg hneg] at n1 n2
    simp [f1, f1_body, hb, hc, f0, hneg, setF, putN, hg, hl, n1, n2, owned]
theorem fuel {wt : Nat} (hw : Fu wt) {b : Int} (h : szI b ≤ 9000) : b.natAbs < wt := Nat.lt_of_lt_of_le ((szI_lt (k := szMax)).mp h).2 hw
def Sm (k : Nat) (q : Rat) : Prop := szI q.num ≤ k ∧ szI (q.den : Int) ≤ k
theorem Sm.le {a b : Nat} {q : Rat} (h : Sm a q) (hab : a ≤ b) : Sm b q := ⟨by have := h.1; omega, by have := h.2; omega⟩
theorem Sm_div {k : Nat} {t b : Int} (ht : szI t ≤ k) (hs : szI b ≤ k) (hb : b ≠ 0) : Sm k (Rat.divInt t b) := by
  have := divInt_sz (t := t) hb
  exact ⟨by omega, by omega⟩
theorem den_ne (q : Rat) : (q.den : Int) ≠ 0 := by have := q.den_pos; omega
theorem add_div (p q : Rat) : p + q = Rat.divInt (p.num * q.den + q.num * p.den) (p.den * q.den) := by
  rw [Rat.add_def', ← Rat.divInt_ofNat]
  simp
theorem sub_div (p q : Rat) : p - q = Rat.divInt (p.num * q.den - q.num * p.den) (p.den * q.den) := by
  rw [Rat.sub_def', ← Rat.divInt_ofNat]
  simp
theorem mul_div (p q : Rat) : p * q = Rat.divInt (p.num * q.num) (p.den * q.den) := by
  rw [Rat.mul_def', ← Rat.divInt_ofNat]
  simp
theorem eq_parts (p q : Rat) : p = q ↔ p.num = q.num ∧ p.den = q.den := ⟨fun h => by simp [h], fun h => Rat.ext h.1 h.2⟩
theorem mul_ne {a b : Int} (ha : a ≠ 0) (hb : b ≠ 0) : a * b ≠ 0 := Int.mul_ne_zero ha hb
theorem Sm.add {a b : Nat} {p q : Rat} (hp : Sm a p) (hq : Sm b q) : Sm (a + b + 1) (p + q) := by
  rw [add_div]
  have h1 := szI_add (p.num * q.den) (q.num * p.den)
  have h2 := szI_mul p.num q.den
  have h3 := szI_mul q.num p.den
  have h4 := szI_mul p.den q.den
  have := hp.1; have := hp.2; have := hq.1; have := hq.2
  exact Sm_div (by omega) (by omega) (mul_ne (den_ne p) (den_ne q))
theorem Sm.sub {a b : Nat} {p q : Rat} (hp : Sm a p) (hq : Sm b q) : Sm (a + b + 1) (p - q) := by
  rw [sub_div]
  have h1 := szI_sub (p.num * q.den) (q.num * p.den)
  have h2 := szI_mul p.num q.den
  have h3 := szI_mul q.num p.den
  have h4 := szI_mul p.den q.den
  have := hp.1; have := hp.2; have := hq.1; have := hq.2
  exact Sm_div (by omega) (by omega) (mul_ne (den_ne p) (den_ne q))
theorem Sm.mul {a b : Nat} {p q : Rat} (hp : Sm a p) (hq : Sm b q) : Sm (a + b) (p * q) := by
  rw [mul_div]
  have h2 := szI_mul p.num q.num
  have h4 := szI_mul p.den q.den
  have := hp.1; have := hp.2; have := hq.1; have := hq.2
  exact Sm_div (by omega) (by omega) (mul_ne (den_ne p) (den_ne q))
section
variable {wt d : Nat}
theorem mk_run (hw : Fu wt) (hd : 2 ≤ d) {t b : Int} (hb : b ≠ 0) (hs : szI b ≤ 9000) (σ : Fr) : makeV G (callD G wt d) 0 [ow (.int t), ow (.int b)] [] σ = .ok (.d (rD (Rat.divInt t b))) σ := by
  obtain ⟨n, rfl⟩ : ∃ n, d = n + 2 := ⟨d - 2, by omega⟩
  unfold makeV
  rw [cls_0]
  dsimp only
  rw [run_init n wt t b hb (fuel hw hs) hs]
  simp [rD]
theorem run_add (hw : Fu wt) (hd : 3 ≤ d) {p q : Rat} (hp : Sm 4000 p) (hq : Sm 4000 q) : callD G wt d 2 [ow (rD p), ow (rD q)] = .ret (.d (rD (p + q))) [] := by
  obtain ⟨n, rfl⟩ : ∃ n, d = n + 1 := ⟨d - 1, by omega⟩
  rw [call_eq (D := f2) rfl rfl rfl rfl]
  have h1 := szI_mul p.den q.den
  have := hp.1; have := hp.2; have := hq.1; have := hq.2
  have hm := fun σ => mk_run (wt := wt) (d := n) hw (by omega) (t := p.num * q.den + q.num * p.den) (b := p.den * q.den) (mul_ne (den_ne p) (den_ne q)) (by omega) σ
  rw [← add_div] at hm
  have m1 : mulOk p.num q.den = true := mulOk_sz (by omega)
  have m2 : mulOk q.num p.den = true := mulOk_sz (by omega)
  have m3 : mulOk p.den q.den = true := mulOk_sz (by omega)
  simp [f2, f2_body, f1, owned, hm, m1, m2, m3, rD]
theorem run_sub (hw : Fu wt) (hd : 3 ≤ d) {p q : Rat} (hp : Sm 4000 p) (hq : Sm 4000 q) : callD G wt d 3 [ow (rD p), ow (rD q)] = .ret (.d (rD (p - q))) [] := by
  obtain ⟨n, rfl⟩ : ∃ n, d = n + 1 := ⟨d - 1, by omega⟩
  rw [call_eq (D := f3) rfl rfl rfl rfl]
  have h1 := szI_mul p.den q.den
  have := hp.1; have := hp.2; have := hq.1; have := hq.2
  have hm := fun σ => mk_run (wt := wt) (d := n) hw (by omega) (t := p.num * q.den - q.num * p.den) (b := p.den * q.den) (mul_ne (den_ne p) (den_ne q)) (by omega) σ
  rw [← sub_div] at hm
  have m1 : mulOk p.num q.den = true := mulOk_sz (by omega)
  have m2 : mulOk q.num p.den = true := mulOk_sz (by omega)
  have m3 : mulOk p.den q.den = true := mulOk_sz (by omega)
  simp [f3, f3_body, f1, owned, hm, m1, m2, m3, rD]
theorem run_eq (hd : 1 ≤ d) (p q : Rat) : callD G wt d 6 [ow (rD p), ow (rD q)] = .ret (.d (.bl (decide (p = q)))) [] := by
  obtain ⟨n, rfl⟩ : ∃ n, d = n + 1 := ⟨d - 1, by omega⟩
  rw [call_eq (D := f6) rfl rfl rfl rfl]
  by_cases h1 : p.num = q.num <;> by_cases h2 : p.den = q.den <;> simp [f6, f6_body, owned, rD, isinD, h1, h2, eq_parts, Int.natCast_inj]
end
end Tf.P
end
section
set_option Elab.async false
set_option linter.all false
namespace Tf
section
variable {G : Prog} {cl : Call} {md : Md} {w : Nat}
def psetK3 (a : Nat) (o : O) (ks : List Ky) (kv : Val) (σ : Fr) : RS := optS ((toD kv).bind fun k => chg σ a fun z => repAt (setC o k) z ks) .next
@[simp] theorem psetK3_d (a : Nat) (o : O) (ks : List Ky) (k : D) (σ : Fr) : psetK3 a o ks (.d k) σ = optS (chg σ a fun z => repAt (setC o k) z ks) .next := nr rfl
def psetK2 (G : Prog) (cl : Call) (a : Nat) (k : E) (o : O) (ks : List Ky) (σ : Fr) : RS := (hidden a σ (ev G cl .val k)).st (psetK3 a o ks)
@[simp] theorem psetK2_eq (a : Nat) (k : E) (o : O) (ks : List Ky) (σ : Fr) : psetK2 G cl a k o ks σ = (hidden a σ (ev G cl .val k)).st (psetK3 a o ks) := nr rfl
def psetK (G : Prog) (cl : Call) (a : Nat) (p : Pl) (k : E) (v : Val) (σ : Fr) : RS := optS (asO v) fun o => (evPl G cl a p σ).st (psetK2 G cl a k o)
@[simp] theorem psetK_d (a : Nat) (p : Pl) (k : E) (x : D) (σ : Fr) : psetK G cl a p k (.d x) σ = (evPl G cl a p σ).st (psetK2 G cl a k (.d x)) := nr rfl
@[simp] theorem psetK_o (a : Nat) (p : Pl) (k : E) (x : O) (σ : Fr) : psetK G cl a p k (.o x) σ = (evPl G cl a p σ).st (psetK2 G cl a k x) := nr rfl
@[simp] theorem x_pset (a : Nat) (p : Pl) (k e : E) (σ : Fr) : exS G cl w (.pset a p k e) σ = (ev G cl .val e σ).st (psetK G cl a p k) := by rw [exS]; rfl
def pappK2 (a : Nat) (ks : List Ky) (v : Val) (σ : Fr) : RS := optS ((asO v).bind fun o => chg σ a fun z => repAt (appC o) z ks) .next
@[simp] theorem pappK2_d (a : Nat) (ks : List Ky) (x : D) (σ : Fr) : pappK2 a ks (.d x) σ = optS (chg σ a fun z => repAt (appC (.d x)) z ks) .next := nr rfl
@[simp] theorem pappK2_o (a : Nat) (ks : List Ky) (x : O) (σ : Fr) : pappK2 a ks (.o x) σ = optS (chg σ a fun z => repAt (appC x) z ks) .next := nr rfl
def pappK (G : Prog) (cl : Call) (a : Nat) (e : E) (ks : List Ky) (σ : Fr) : RS := optS ((plOk σ a ks).bind lstO) fun _ => (hidden a σ (ev G cl .val e)).st (pappK2 a ks)
@[simp] theorem pappK_eq (a : Nat) (e : E) (ks : List Ky) (σ : Fr) : pappK G cl a e ks σ = optS ((plOk σ a ks).bind lstO) fun _ => (hidden a σ (ev G cl .val e)).st (pappK2 a ks) := nr rfl
@[simp] theorem x_papp (a : Nat) (p : Pl) (e : E) (σ : Fr) : exS G cl w (.papp a p e) σ = (evPl G cl a p σ).st (pappK G cl a e) := by rw [exS]; rfl
def pextK2 (a : Nat) (ks : List Ky) (v : Val) (σ : Fr) : RS := optS (((toD v).bind lst1).bind fun xs => chg σ a fun z => repAt (extC xs) z ks) .next
@[simp] theorem pextK2_d (a : Nat) (ks : List Ky) (xs : List D) (σ : Fr) : pextK2 a ks (.d (.lst xs)) σ = optS (chg σ a fun z => repAt (extC xs) z ks) .next := nr rfl
@[simp] theorem pextK2_o (a : Nat) (ks : List Ky) (xs : List O) (σ : Fr) : pextK2 a ks (.o (.lst xs)) σ = optS (chg σ a fun z => repAt (extC (O.frzL xs)) z ks) .next := by
  unfold pextK2
  simp [lst1]
def pextK (G : Prog) (cl : Call) (a : Nat) (e : E) (ks : List Ky) (σ : Fr) : RS := optS ((plOk σ a ks).bind lstO) fun _ => (hidden a σ (ev G cl .val e)).st (pextK2 a ks)
@[simp] theorem pextK_eq (a : Nat) (e : E) (ks : List Ky) (σ : Fr) : pextK G cl a e ks σ = optS ((plOk σ a ks).bind lstO) fun _ => (hidden a σ (ev G cl .val e)).st (pextK2 a ks) := nr rfl
@[simp] theorem x_pext (a : Nat) (p : Pl) (e : E) (σ : Fr) : exS G cl w (.pext a p e) σ = (evPl G cl a p σ).st (pextK G cl a e) := by rw [exS]; rfl
def ppopK (a : Nat) (ks : List Ky) (σ : Fr) : RS := optS (chg σ a fun z => repAt popC z ks) .next
@[simp] theorem ppopK_eq (a : Nat) (ks : List Ky) (σ : Fr) : ppopK a ks σ = optS (chg σ a fun z => repAt popC z ks) .next := nr rfl
@[simp] theorem x_ppop (a : Nat) (p : Pl) (σ : Fr) : exS G cl w (.ppop a p) σ = (evPl G cl a p σ).st (ppopK a) := by rw [exS]; rfl
def pclrK (a : Nat) (ks : List Ky) (σ : Fr) : RS := optS (chg σ a fun z => repAt clrC z ks) .next
@[simp] theorem pclrK_eq (a : Nat) (ks : List Ky) (σ : Fr) : pclrK a ks σ = optS (chg σ a fun z => repAt clrC z ks) .next := nr rfl
@[simp] theorem x_pclr (a : Nat) (p : Pl) (σ : Fr) : exS G cl w (.pclr a p) σ = (evPl G cl a p σ).st (pclrK a) := by rw [exS]; rfl
def tappK (G : Prog) (cl : Call) (e : E) (v : Val) (σ : Fr) : RS := match v with
    | .o (.lst xs) => if xs.length < lineN then (ev G cl .val e σ).st fun w σ => optS (asO w) fun _ => .next σ else .bad
    | _ => .bad
@[simp] theorem tappK_o (e : E) (xs : List O) (σ : Fr) : tappK G cl e (.o (.lst xs)) σ = if xs.length < lineN then (ev G cl .val e σ).st fun w σ => optS (asO w) fun _ => .next σ else .bad := nr rfl
@[simp] theorem x_tapp (a e : E) (σ : Fr) : exS G cl w (.tapp a e) σ = (ev G cl .val a σ).st (tappK G cl e) := by rw [exS]; rfl
@[simp] theorem plOk_eq (σ : Fr) (a : Nat) (ks : List Ky) : plOk σ a ks = ((lentAt σ a).map (·.1)).bind fun o => subs o ks := nr rfl
@[simp] theorem pl_rt (a : Nat) (σ : Fr) : evPl G cl a .root σ = opt (plOk σ a []) fun _ => .ok [] σ := nr rfl
def plFK (a : Nat) (f : Nat) (ks : List Ky) (σ : Fr) : Res (List Ky) := opt (plOk σ a (ks ++ [.fld f])) fun _ => .ok (ks ++ [.fld f]) σ
@[simp] theorem plFK_eq (a f : Nat) (ks : List Ky) (σ : Fr) : plFK a f ks σ = opt (plOk σ a (ks ++ [.fld f])) fun _ => .ok (ks ++ [.fld f]) σ := nr rfl
@[simp] theorem pl_fd (a : Nat) (p : Pl) (f : Nat) (σ : Fr) : evPl G cl a (.fld p f) σ = (evPl G cl a p σ).bind (plFK a f) := nr rfl
def plIK2 (a : Nat) (ks : List Ky) (v : Val) (σ : Fr) : Res (List Ky) := opt (toD v) fun d => opt (plOk σ a (ks ++ [.key d])) fun _ => .ok (ks ++ [.key d]) σ
@[simp] theorem plIK2_d (a : Nat) (ks : List Ky) (d : D) (σ : Fr) : plIK2 a ks (.d d) σ = opt (plOk σ a (ks ++ [.key d])) fun _ => .ok (ks ++ [.key d]) σ := nr rfl
def plIK (G : Prog) (cl : Call) (a : Nat) (e : E) (ks : List Ky) (σ : Fr) : Res (List Ky) := (hidden a σ (ev G cl .val e)).bind (plIK2 a ks)
@[simp] theorem plIK_eq (a : Nat) (e : E) (ks : List Ky) (σ : Fr) : plIK G cl a e ks σ = (hidden a σ (ev G cl .val e)).bind (plIK2 a ks) := nr rfl
@[simp] theorem pl_idx (a : Nat) (p : Pl) (e : E) (σ : Fr) : evPl G cl a (.ix p e) σ = (evPl G cl a p σ).bind (plIK G cl a e) := nr rfl
@[simp] theorem sub_nil (o : O) : subs o [] = some o := nr rfl
@[simp] theorem sub_cons (o : O) (k : Ky) (ks : List Ky) : subs o (k :: ks) = (o.sub k).bind fun x => subs x ks := nr rfl
@[simp] theorem rep_nil (f : O → Option O) (o : O) : repAt f o [] = f o := nr rfl
@[simp] theorem rep_cons (f : O → Option O) (o : O) (k : Ky) (ks : List Ky) : repAt f o (k :: ks) = (o.sub k).bind fun x => (repAt f x ks).bind fun y => o.rep k y := nr rfl
@[simp] theorem sub_lst (xs : List O) (i : Int) : O.sub (.lst xs) (.key (.int i)) = (place xs.length i).bind fun j => xs[j]? := nr rfl
@[simp] theorem sub_ins (c : Nat) (fs : List (Nat × O)) (f : Nat) : O.sub (.ins c fs) (.fld f) = fs.lookup f := nr rfl
@[simp] theorem rep_lst (xs : List O) (i : Int) (x : O) : O.rep (.lst xs) (.key (.int i)) x = (place xs.length i).map fun j => .lst (xs.set j x) := nr rfl
@[simp] theorem rep_ins (c : Nat) (fs : List (Nat × O)) (f : Nat) (x : O) : O.rep (.ins c fs) (.fld f) x = some (.ins c (putN f x fs)) := nr rfl
@[simp] theorem setC_lst (v : O) (xs : List O) (i : Int) : setC v (.int i) (.lst xs) = (place xs.length i).map fun j => .lst (xs.set j v) := nr rfl
@[simp] theorem appC_lst (v : O) (xs : List O) : appC v (.lst xs) = if xs.length < lineN then some (.lst (xs ++ [v])) else none := nr rfl
@[simp] theorem extC_lst (ys : List D) (xs : List O) : extC ys (.lst xs) = if xs.length + ys.length ≤ lineN then some (.lst (xs ++ ys.map O.d)) else none := nr rfl
@[simp] theorem lstO_lst (xs : List O) : lstO (.lst xs) = some () := nr rfl
def cmvK (G : Prog) (cl : Call) (op : Cop) (x : D) (u : Val) (σ : Fr) : Res Val := opt (toD u) fun y => opt (cmpV G cl op x (.d y)) fun c => .ok (bl c) σ
@[simp] theorem cmvK_d (op : Cop) (x y : D) (σ : Fr) : cmvK G cl op x (.d y) σ = opt (cmpV G cl op x (.d y)) fun c => .ok (.d (.bl c)) σ := nr rfl
@[simp] theorem cmvK_o (op : Cop) (x : D) (y : O) (σ : Fr) : cmvK G cl op x (.o y) σ = opt (cmpV G cl op x (.d y.frz)) fun c => .ok (.d (.bl c)) σ := nr rfl
def cmvK0 (G : Prog) (cl : Call) (op : Cop) (i : Nat) (b : E) (σ : Fr) (p : O × Bool) : Res Val := (hidden i σ (ev G cl .val b)).bind (cmvK G cl op p.1.frz)
@[simp] theorem cmvK0_eq (op : Cop) (i : Nat) (b : E) (σ : Fr) (p : O × Bool) : cmvK0 G cl op i b σ p = (hidden i σ (ev G cl .val b)).bind (cmvK G cl op p.1.frz) := nr rfl
@[simp] theorem e_cmpv (op : Cop) (i : Nat) (b : E) (σ : Fr) : ev G cl md (.cmpv op i b) σ = (opt (lentAt σ i) (cmvK0 G cl op i b σ)).bind (fin md) := by
  rw [ev]
  cases lentAt σ i with
  | none => rfl
  | some p => rfl
end
end Tf
end
section
set_option Elab.async false
set_option linter.all false
namespace Tf
open PySem
section
variable {G : Prog} {cl : Call} {md : Md} {w : Nat}
theorem for_allI {α β : Type} {turn : D → Fr → RS} (enc : α → Fr) (dec : β → D) (I : α → Prop) : ∀ (l : List β) (a : α), I a → (∀ x ∈ l, ∀ a, I a → ∃ a', turn (dec x) (enc a) = .next (enc a') ∧ I a') → ∃ a', forLoop turn (l.map dec) (enc a) = .next (enc a') ∧ I a'
  | [], a, i, _ => ⟨a, rfl, i⟩
  | x :: l, a, i, h => by
    obtain ⟨a1, e, i1⟩ := h x List.mem_cons_self a i
    obtain ⟨a2, e2, i2⟩ := for_allI enc dec I l a1 i1 fun y hy => h y (List.mem_cons_of_mem _ hy)
    exact ⟨a2, by rw [List.map_cons, for_cons, e, lp_next]; exact e2, i2⟩
def liO (r : List Int) : O := .lst (r.map fun i => O.d (.int i))
def tbO (rows : List (List Int)) : O := .lst (rows.map liO)
theorem liO_frz (r : List Int) : (liO r).frz = li r := by
  unfold liO li
  rw [frz_lst, frzL_d]
theorem tbO_frzL (rows : List (List Int)) : O.frzL (rows.map liO) = rows.map li := by
  induction rows with
  | nil => simp
  | cons r rs ih => rw [List.map_cons, frzL_cons, liO_frz, ih, List.map_cons]
@[simp] theorem get_tbO (i : Nat) (rows : List (List Int)) (mk : O → Sl) (σ : Fr) : getO .val i (tbO rows) mk σ = .ok (.d (tb rows)) (σ.put i (some (mk (.d (tb rows))))) := by
  unfold tbO tb
  rw [getO_lst, tbO_frzL]
end
end Tf
end
section
set_option Elab.async false
set_option linter.all false
namespace Tf.P
open Tf PySem
def poolO (c : Int) (k : Nat) (f : Bool) : O := .lst [.d (.int c), .d (.int k), .d (.bl f)]
end Tf.P
end
section
set_option Elab.async false
set_option linter.all false
set_option maxRecDepth 100000
namespace Tf.P
open Tf PySem
section
variable {wt d : Nat}
theorem run_bag (hd : 1 ≤ d) (c : Int) : ∃ c' f, callD G wt d 7 [ow (.int c)] = .ret (.o (poolO c' 0 f)) [] := by
  obtain ⟨n, rfl⟩ : ∃ n, d = n + 1 := ⟨d - 1, by omega⟩
  refine ⟨if c < 0 then -c else c, decide (1000000000000000000 ≤ (if c < 0 then -c else c)), ?_⟩
  rw [call_eq (D := f7) rfl rfl rfl rfl]
  simp [f7, f7_body, poolO, lineN, biV]
theorem run_draw (hd : 1 ≤ d) (c : Int) (k : Nat) (f : Bool) (L : Int) (hk : k ≤ 1000000000) (hL : 0 < L) (hs : L.natAbs.log2 < 9000) : ∃ r c', 0 ≤ r ∧ r < L ∧ callD G wt d 8 [.lent (poolO c k f), ow (.int L)] = .ret (.d (.int r)) [poolO c' (k + 1) f] := by
  obtain ⟨n, rfl⟩ : ∃ n, d = n + 1 := ⟨d - 1, by omega⟩
  have p0 : place 3 0 = some 0 := by decide
  have p1 : place 3 1 = some 1 := by decide
  have p2 : place 3 2 = some 2 := by decide
  have hL0 : L ≠ 0 := by omega
  cases f with
  | true =>
    refine ⟨c % L, c.fdiv L, Int.emod_nonneg _ hL0, Int.emod_lt_of_pos _ hL, ?_⟩
    rw [call_eq (D := f8) rfl rfl rfl rfl]
    simp [f8, f8_body, poolO, lineN, p0, p1, p2, biV, hL, hL0, hs, setO]
  | false =>
    have m1 : ∀ i, mulOk i 48271 = true := fun i => mulOk_r (by decide)
    have m2 : ∀ i, mulOk i 69621 = true := fun i => mulOk_r (by decide)
    have m3 : ∀ i, mulOk i 40692 = true := fun i => mulOk_r (by decide)
    have m4 : ∀ i, mulOk i 16811 = true := fun i => mulOk_r (by decide)
    have h1 : (c % 2147483647 * 48271 + ((k : Int) + 1) * 69621 + 11).natAbs < 18446744073709551616 := by omega
    generalize hA : (c % 2147483647 * 48271 + ((k : Int) + 1) * 69621 + 11) ^ 5 % 2147483647 = A
    have hA0 : 0 ≤ A := by rw [← hA]; exact Int.emod_nonneg _ (by decide)
    have hA1 : A < 2147483647 := by rw [← hA]; exact Int.emod_lt_of_pos _ (by decide)
    have h2 : (A * 40692 + ((k : Int) + 1) * 16811 + 7).natAbs < 18446744073709551616 := by omega
    refine ⟨(((A * 40692 + ((k : Int) + 1) * 16811 + 7) ^ 3 % 2147483629).fdiv 32) % L, c, Int.emod_nonneg _ hL0, Int.emod_lt_of_pos _ hL, ?_⟩
    rw [call_eq (D := f8) rfl rfl rfl rfl]
    have l32 : Nat.log2 32 < 9000 := by decide
    simp [f8, f8_body, poolO, lineN, p0, p1, p2, biV, hL, hL0, hs, setO, m1, m2, m3, m4, h1, hA, h2, l32]
theorem run_drawN (hd : 1 ≤ d) (c : Int) (k : Nat) (f : Bool) (L : Nat) (hk : k ≤ 1000000000) (hL : 0 < L) (hs : L < 2 ^ 8000) : ∃ (r : Nat) (c' : Int), r < L ∧ callD G wt d 8 [.lent (poolO c k f), ow (.int L)] = .ret (.d (.int r)) [poolO c' (k + 1) f] := by
  obtain ⟨r, c', h0, h1, e⟩ := run_draw (wt := wt) hd c k f L hk (by omega) (by
    show Nat.log2 L < 9000
    have : Nat.log2 L < 8000 := (Nat.log2_lt (by omega)).mpr hs
    omega)
  obtain ⟨y, rfl⟩ := Int.eq_ofNat_of_zero_le h0
  exact ⟨y, c', by omega, e⟩
theorem run_at (hd : 1 ≤ d) (ns : List Int) (k : Nat) : ∃ i, callD G wt d 9 [ow (.scr ns), ow (.int k)] = .ret (.d (.int i)) [] := by
  obtain ⟨n, rfl⟩ : ∃ n, d = n + 1 := ⟨d - 1, by omega⟩
  by_cases h : k < ns.length
  · refine ⟨ns[k], ?_⟩
    rw [call_eq (D := f9) rfl rfl rfl rfl]
    have pl : place ns.length k = some k := place_nat h
    have gk : ns[k]? = some ns[k] := List.getElem?_eq_getElem h
    simp [f9, f9_body, biV, lenV, h, pl, gk]
  · refine ⟨0, ?_⟩
    rw [call_eq (D := f9) rfl rfl rfl rfl]
    simp [f9, f9_body, biV, lenV, h]
end
end Tf.P
end
section
set_option Elab.async false
set_option linter.all false
namespace Tf
section
variable {G : Prog} {cl : Call} {md : Md}
def dgetK2 (v k : Val) (σ : Fr) : Res Val := opt ((toD k).bind fun k => getV v k) fun v => .ok v σ
@[simp] theorem dgetK2_d (v : Val) (k : D) (σ : Fr) : dgetK2 v (.d k) σ = opt (getV v k) fun v => .ok v σ := nr rfl
def dgetK (G : Prog) (cl : Call) (i : E) (v : Val) (σ : Fr) : Res Val := opt (dcV v) fun _ => match v with
  | .b r _ => (hidden r σ (ev G cl .val i)).bind (dgetK2 v)
  | .o _ => .bad
  | .d _ => (ev G cl .val i σ).bind (dgetK2 v)
@[simp] theorem dgetK_d (i : E) (x : D) (σ : Fr) : dgetK G cl i (.d x) σ = opt (dcV (.d x)) fun _ => (ev G cl .val i σ).bind (dgetK2 (.d x)) := nr rfl
@[simp] theorem dgetK_b (i : E) (r : Nat) (o : O) (σ : Fr) : dgetK G cl i (.b r o) σ = opt (dcV (.b r o)) fun _ => (hidden r σ (ev G cl .val i)).bind (dgetK2 (.b r o)) := nr rfl
@[simp] theorem e_dget (a i : E) (σ : Fr) : ev G cl md (.dget a i) σ = ((ev G cl .pk a σ).bind (dgetK G cl i)).bind (fin md) := by
  rw [ev]
  congr 1
end
@[simp] theorem lkd_d (x : D) : (O.d x).lkd = x := by rw [O.lkd]
@[simp] theorem lkd_lst (xs : List O) : (O.lst xs).lkd = .lst (O.lkdL xs) := by rw [O.lkd]
@[simp] theorem lkd_ins (c : Nat) (fs : List (Nat × O)) : (O.ins c fs).lkd = .ins c (O.lkdF fs) := by rw [O.lkd]
@[simp] theorem lkd_dcT (fs : List (List Int × O)) : (O.dcT fs).lkd = .lkT (O.lkdT fs) := by rw [O.lkd]
@[simp] theorem lkd_dcI (fs : List (Int × O)) : (O.dcI fs).lkd = .lkI (O.lkdI fs) := by rw [O.lkd]
@[simp] theorem lkdF_nil : O.lkdF [] = [] := by rw [O.lkdF]
@[simp] theorem lkdF_cons (k : Nat) (x : O) (xs : List (Nat × O)) : O.lkdF ((k, x) :: xs) = (k, x.lkd) :: O.lkdF xs := by rw [O.lkdF]
section
variable {G : Prog} {cl : Call} {md : Md} {w : Nat}
def lkK (v : Val) (σ : Fr) : Res Val := opt (lkV v) fun x => .ok (.d x) σ
@[simp] theorem lkK_d (x : D) (σ : Fr) : lkK (.d x) σ = .ok (.d x) σ := nr rfl
@[simp] theorem lkK_o (x : O) (σ : Fr) : lkK (.o x) σ = .ok (.d x.lkd) σ := nr rfl
@[simp] theorem e_lk (e : E) (σ : Fr) : ev G cl md (.lk e) σ = ((ev G cl .val e σ).bind lkK).bind (fin md) := by rw [ev]; rfl
def lkvK (i : Nat) (σ : Fr) (ol : O × Bool) : Res Val := .ok (.d ol.1.lkd) (σ.put i (some (if ol.2 then .lent (.d ol.1.lkd) else .own (.d ol.1.lkd))))
@[simp] theorem lkvK_f (i : Nat) (σ : Fr) (o : O) : lkvK i σ (o, false) = .ok (.d o.lkd) (σ.put i (some (.own (.d o.lkd)))) := nr rfl
@[simp] theorem lkvK_t (i : Nat) (σ : Fr) (o : O) : lkvK i σ (o, true) = .ok (.d o.lkd) (σ.put i (some (.lent (.d o.lkd)))) := nr rfl
@[simp] theorem e_lkv (i : Nat) (σ : Fr) : ev G cl md (.lkv i) σ = (opt (lentAt σ i) (lkvK i σ)).bind (fin md) := by rw [ev]; rfl
@[simp] theorem e_dnew (t : Bool) (σ : Fr) : ev G cl md (.dnew t) σ = fin md (.o (dEmp t)) σ := by rw [ev]
@[simp] theorem dEmp_t : dEmp true = .dcT [] := nr rfl
@[simp] theorem dEmp_f : dEmp false = .dcI [] := nr rfl
def mmvK (mx : Bool) (v : Val) (σ : Fr) : Res Val := opt ((toD v).bind valsD) fun xs => opt (biV (if mx then .max else .min) (.d (.lst xs))) fun x => .ok (.d x) σ
@[simp] theorem mmvK_l (mx : Bool) (kvs : List (List Int × D)) (σ : Fr) : mmvK mx (.d (.lkT kvs)) σ = opt (biV (if mx then .max else .min) (.d (.lst (kvs.map (·.2))))) fun x => .ok (.d x) σ := nr rfl
@[simp] theorem e_mmv (mx : Bool) (a : E) (σ : Fr) : ev G cl md (.mmv mx a) σ = ((ev G cl .val a σ).bind (mmvK mx)).bind (fin md) := by rw [ev]; rfl
def lkK1 (f : D → Option (List D)) (v : Val) (σ : Fr) : Res (List D) := opt ((toD v).bind f) fun xs => .ok xs σ
@[simp] theorem lkK1_k (kvs : List (List Int × D)) (σ : Fr) : lkK1 lkKeys (.d (.lkT kvs)) σ = .ok (kvs.map fun p => keyT p.1) σ := nr rfl
@[simp] theorem lkK1_v (kvs : List (List Int × D)) (σ : Fr) : lkK1 lkVals (.d (.lkT kvs)) σ = .ok (kvs.map fun p => p.2) σ := nr rfl
@[simp] theorem lkK1_i (kvs : List (List Int × D)) (σ : Fr) : lkK1 lkItems (.d (.lkT kvs)) σ = .ok (kvs.map fun p => D.tup [keyT p.1, p.2]) σ := nr rfl
@[simp] theorem it_keys (e : E) (σ : Fr) : evIt G cl (.keys e) σ = (ev G cl .val e σ).bind (lkK1 lkKeys) := by rw [evIt]; rfl
@[simp] theorem it_vals (e : E) (σ : Fr) : evIt G cl (.vals e) σ = (ev G cl .val e σ).bind (lkK1 lkVals) := by rw [evIt]; rfl
@[simp] theorem it_items (e : E) (σ : Fr) : evIt G cl (.items e) σ = (ev G cl .val e σ).bind (lkK1 lkItems) := by rw [evIt]; rfl
def isLendH : Option Mode → Bool
  | some .lend => true
  | _ => false
def methLK2 (cl : Call) (f i : Nat) (p : List Sl × List (Option (Nat × Bool))) (σ : Fr) : Res Val := opt (lentAt σ i) fun ol => after (cl f (.lent ol.1 :: p.1)) (some (i, ol.2) :: p.2) (σ.put i none)
@[simp] theorem methLK2_eq (f i : Nat) (ss : List Sl) (bk : List (Option (Nat × Bool))) (σ : Fr) : methLK2 cl f i (ss, bk) σ = opt (lentAt σ i) fun ol => after (cl f (.lent ol.1 :: ss)) (some (i, ol.2) :: bk) (σ.put i none) := nr rfl
def methLK (G : Prog) (cl : Call) (i m : Nat) (as : Es) (σ : Fr) (ol : O × Bool) : Res Val := opt ((classO ol.1).bind fun c => G.meth c m) fun f => if isLendH (modesOf G f).head? = true then (evAs G cl (modesOf G f).tail as σ).bind (methLK2 cl f i) else .bad
@[simp] theorem e_methL (i m : Nat) (as : Es) (σ : Fr) : ev G cl md (.methL i m as) σ = (opt (lentAt σ i) (methLK G cl i m as σ)).bind (fin md) := by
  rw [ev]
  congr 2
  funext p
  unfold methLK
  congr 1
  funext f
  cases (modesOf G f).head? with
  | none => rfl
  | some q => cases q <;> rfl
def vK (k : D) (v : Val) (σ : Fr) : Res (Option (D × O)) := opt (asO v) fun o => .ok (some (k, o)) σ
@[simp] theorem vK_eq (k : D) (v : Val) (σ : Fr) : vK k v σ = opt (asO v) fun o => .ok (some (k, o)) σ := nr rfl
def kK (G : Prog) (cl : Call) (vx : E) (k : Val) (σ : Fr) : Res (Option (D × O)) := opt (toD k) fun k => (ev G cl .val vx σ).bind (vK k)
@[simp] theorem kK_d (vx : E) (k : D) (σ : Fr) : kK G cl vx (.d k) σ = (ev G cl .val vx σ).bind (vK k) := nr rfl
def dokK (G : Prog) (cl : Call) (kx vx : E) (ok : Bool) (σ : Fr) : Res (Option (D × O)) := match ok with
  | true => (ev G cl .val kx σ).bind (kK G cl vx)
  | false => .ok none σ
@[simp ↓] theorem dokK_t (kx vx : E) (σ : Fr) : dokK G cl kx vx true σ = (ev G cl .val kx σ).bind (kK G cl vx) := nr rfl
@[simp ↓] theorem dokK_f (kx vx : E) (σ : Fr) : dokK G cl kx vx false σ = .ok none σ := nr rfl
end
@[simp] theorem sel_lkT (kvs : List (List Int × D)) (ks : List D) : selV (.d (.lkT kvs)) (.tup ks) = ((D.ints ks).bind fun k => kvs.lookup k).map .d := nr rfl
@[simp] theorem sel_bT (r : Nat) (kvs : List (List Int × O)) (ks : List D) : selV (.b r (.dcT kvs)) (.tup ks) = (D.ints ks).bind fun k => (kvs.lookup k).map (Val.ofO r) := nr rfl
@[simp] theorem setC_T (v : O) (kvs : List (List Int × O)) (ds : List D) : setC v (.tup ds) (.dcT kvs) = if kvs.length < lineN then (D.ints ds).map fun k => .dcT (setPT k v kvs) else none := nr rfl
def kT (p : Nat × Nat) : List Int := [(p.1 : Int), (p.2 : Int)]
def dT {α : Type} (ks : List (Nat × Nat)) (f : Nat → Nat → α) : List (List Int × α) := ks.map fun p => (kT p, f p.1 p.2)
end Tf
end
section
set_option Elab.async false
set_option linter.all false
namespace Tf
section
variable {G : Prog} {cl : Call} {md : Md}
@[simp] theorem slDs_nil : slDs [] = some [] := nr rfl
@[simp] theorem slDs_cons (x : D) (r : List Sl) : slDs (ow x :: r) = (slDs r).map (x :: ·) := nr rfl
def ckK2 (cl : Call) (f : Nat) (xs : List D) (q : List Sl × List (Option (Nat × Bool))) (σ : Fr) : Res Val := after (cl f (xs.map owned ++ q.1)) q.2 σ
@[simp] theorem ckK2_eq (f : Nat) (xs : List D) (ss : List Sl) (bk : List (Option (Nat × Bool))) (σ : Fr) : ckK2 cl f xs (ss, bk) σ = after (cl f (xs.map owned ++ ss)) bk σ := nr rfl
def ckK1 (G : Prog) (cl : Call) (f : Nat) (ks : Es) (p : List Sl × List (Option (Nat × Bool))) (σ : Fr) : Res Val := opt (slDs p.1) fun xs => (evAs G cl [] ks σ).bind (ckK2 cl f xs)
@[simp] theorem ckK1_eq (f : Nat) (ks : Es) (ss : List Sl) (bk : List (Option (Nat × Bool))) (σ : Fr) : ckK1 G cl f ks (ss, bk) σ = opt (slDs ss) fun xs => (evAs G cl [] ks σ).bind (ckK2 cl f xs) := nr rfl
@[simp] theorem e_callk (f : Nat) (as ks : Es) (σ : Fr) : ev G cl md (.callk f as ks) σ = ((evAs G cl [] as σ).bind (ckK1 G cl f ks)).bind (fin md) := by rw [ev]; rfl
end
end Tf
end
section
set_option Elab.async false
set_option linter.all false
namespace Tf
section
variable {G : Prog} {cl : Call} {md : Md} {w : Nat}
def ldkK (v : Val) (σ : Fr) : Res Val := opt (keysV v) fun xs => .ok (.d (.lst xs)) σ
@[simp] theorem ldkK_eq (v : Val) (σ : Fr) : ldkK v σ = opt (keysV v) fun xs => .ok (.d (.lst xs)) σ := nr rfl
@[simp] theorem e_ldk (a : E) (σ : Fr) : ev G cl md (.ldk a) σ = ((ev G cl .pk a σ).bind ldkK).bind (fin md) := by rw [ev]; rfl
def dcpyK (v : Val) (σ : Fr) : Res Val := opt (cpyV v) fun o => .ok (.o o) σ
@[simp] theorem dcpyK_eq (v : Val) (σ : Fr) : dcpyK v σ = opt (cpyV v) fun o => .ok (.o o) σ := nr rfl
@[simp] theorem e_dcpy (a : E) (σ : Fr) : ev G cl md (.dcpy a) σ = ((ev G cl .pk a σ).bind dcpyK).bind (fin md) := by rw [ev]; rfl
def cntK (i : Nat) (v : Val) (σ : Fr) : Res Val := opt (toD v) fun y => opt (cntO (lentAt σ i) y) fun x => .ok (.d x) σ
@[simp] theorem cntK_d (i : Nat) (y : D) (σ : Fr) : cntK i (.d y) σ = opt (cntO (lentAt σ i) y) fun x => .ok (.d x) σ := nr rfl
@[simp] theorem e_cntv (i : Nat) (b : E) (σ : Fr) : ev G cl md (.cntv i b) σ = (opt (lstAt (lentAt σ i)) fun _ => (ev G cl .val b σ).bind (cntK i)).bind (fin md) := by rw [ev]; rfl
def callfK (cl : Call) (f i : Nat) (σ : Fr) : Res Val := match lentAt σ i with
  | some (o, _) => opt (scdO o) fun x => callfR (cl f [owned x]) σ
  | none => .bad
@[simp] theorem e_callf (f i : Nat) (σ : Fr) : ev G cl md (.callf f i) σ = (callfK cl f i σ).bind (fin md) := by rw [ev]; rfl
def par3K (i j l : Nat) (os : List O) (σ : Fr) : RS := match os with
  | [o1, o2, o3] => optS (((asgV i (.o o1) σ).bind fun σ => asgV j (.o o2) σ).bind fun σ => asgV l (.o o3) σ) .next
  | _ => .bad
@[simp] theorem par3K_eq (i j l : Nat) (o1 o2 o3 : O) (σ : Fr) : par3K i j l [o1, o2, o3] σ = optS (((asgV i (.o o1) σ).bind fun σ => asgV j (.o o2) σ).bind fun σ => asgV l (.o o3) σ) .next := nr rfl
@[simp] theorem x_par3 (i j l : Nat) (a b c : E) (σ : Fr) : exS G cl w (.par3 i j l a b c) σ = (evs G cl (.cons false a (.cons false b (.cons false c .nil))) σ).st (par3K i j l) := by rw [exS]; rfl
end
end Tf
end
section
set_option Elab.async false
set_option linter.all false
namespace Tf
section
variable {G : Prog} {cl : Call} {md : Md} {w : Nat}
def lrgK (v : Val) (σ : Fr) : Res Val := match v with
  | .d (.int n) => if 0 ≤ n ∧ n ≤ lineN then .ok (.o (.lst ((List.range n.toNat).map fun (k : Nat) => O.d (.int k)))) σ else .bad
  | _ => .bad
@[simp] theorem e_lrg (a : E) (σ : Fr) : ev G cl md (.lrg a) σ = ((ev G cl .val a σ).bind lrgK).bind (fin md) := by rw [ev]; rfl
@[simp] theorem e_lsio (a : E) (σ : Fr) : ev G cl md (.lsio a) σ = ((ev G cl .pk a σ).bind (lsioV G cl)).bind (fin md) := by rw [ev]
@[simp] theorem e_idxq (a f k : Nat) (σ : Fr) : ev G cl md (.idxq a f k) σ = (opt (idxqAt σ a f k) fun x => .ok (.d x) σ).bind (fin md) := by rw [ev]
def parsK3 (b : Nat) (y : D) (v : Val) (σ : Fr) : RS := optS ((toD v).bind fun k => chg σ b fun z => setO z k (.d y)) .next
def parsK2 (G : Prog) (cl : Call) (a b : Nat) (j : E) (x y : D) (v : Val) (σ : Fr) : RS := optS ((toD v).bind fun k => chg σ a fun z => setO z k (.d x)) fun σ => optS (lentAt σ b) fun _ => (ev G cl .val j σ).st (parsK3 b y)
def parsK (G : Prog) (cl : Call) (a : Nat) (i : E) (b : Nat) (j : E) (os : List O) (σ : Fr) : RS := match os with
  | [.d x, .d y] => optS (lentAt σ a) fun _ => (ev G cl .val i σ).st (parsK2 G cl a b j x y)
  | _ => .bad
@[simp] theorem parsK3_d (b : Nat) (y k : D) (σ : Fr) : parsK3 b y (.d k) σ = optS (chg σ b fun z => setO z k (.d y)) .next := nr rfl
@[simp] theorem parsK2_d (a b : Nat) (j : E) (x y k : D) (σ : Fr) : parsK2 G cl a b j x y (.d k) σ = optS (chg σ a fun z => setO z k (.d x)) fun σ => optS (lentAt σ b) fun _ => (ev G cl .val j σ).st (parsK3 b y) := nr rfl
@[simp] theorem parsK_d (a : Nat) (i : E) (b : Nat) (j : E) (x y : D) (σ : Fr) : parsK G cl a i b j [.d x, .d y] σ = optS (lentAt σ a) fun _ => (ev G cl .val i σ).st (parsK2 G cl a b j x y) := nr rfl
@[simp] theorem x_pars (a : Nat) (i : E) (b : Nat) (j e f : E) (σ : Fr) : exS G cl w (.pars a i b j e f) σ = (evs G cl (.cons false e (.cons false f .nil)) σ).st (parsK G cl a i b j) := by rw [exS]; rfl
end
end Tf
end
section
set_option Elab.async false
set_option linter.all false
namespace Tf
section
variable {G : Prog} {cl : Call} {md : Md} {w : Nat}
def cmwK2 (G : Prog) (cl : Call) (op : Cop) (x : D) (σ : Fr) (p : O × Bool) : Res Val := opt (cmpV G cl op x (.d p.1.frz)) fun c => .ok (bl c) σ
@[simp] theorem cmwK2_eq (op : Cop) (x : D) (σ : Fr) (o : O) (l : Bool) : cmwK2 G cl op x σ (o, l) = opt (cmpV G cl op x (.d o.frz)) fun c => .ok (.d (.bl c)) σ := nr rfl
def cmwK (G : Prog) (cl : Call) (op : Cop) (i : Nat) (u : Val) (σ : Fr) : Res Val := opt (toD u) fun x => opt (lentAt σ i) (cmwK2 G cl op x σ)
@[simp] theorem cmwK_d (op : Cop) (i : Nat) (x : D) (σ : Fr) : cmwK G cl op i (.d x) σ = opt (lentAt σ i) (cmwK2 G cl op x σ) := nr rfl
@[simp] theorem cmwK_o (op : Cop) (i : Nat) (x : O) (σ : Fr) : cmwK G cl op i (.o x) σ = opt (lentAt σ i) (cmwK2 G cl op x.frz σ) := nr rfl
@[simp] theorem e_cmpw (op : Cop) (a : E) (i : Nat) (σ : Fr) : ev G cl md (.cmpw op a i) σ = ((ev G cl .val a σ).bind (cmwK G cl op i)).bind (fin md) := by
  rw [ev]
  congr 2
  funext u σ
  unfold cmwK
  congr 1
  funext x
  cases lentAt σ i with
  | none => rfl
  | some p => rfl
def frznK (G : Prog) (cl : Call) (e : E) (σ : Fr) : Res Val := frzR2 (ev G cl .val e (σ.map frzSl)) σ
@[simp] theorem e_frzn (e : E) (σ : Fr) : ev G cl md (.frzn e) σ = (frznK G cl e σ).bind (fin md) := by rw [ev]; rfl
end
end Tf
end
section
set_option Elab.async false
set_option linter.all false
namespace Tf
section
variable {G : Prog} {cl : Call} {md : Md} {w : Nat}
def exmK (c : Nat) (ks : List Nat) (os : List O) (σ : Fr) : Res Val := if os.length = ks.length then .ok (.d (.exn c (ks.zip (O.frzL os)).reverse)) σ else .bad
@[simp] theorem exmK_0 (c : Nat) (σ : Fr) : exmK c [] [] σ = .ok (.d (.exn c [])) σ := nr rfl
@[simp] theorem exmK_1 (c k : Nat) (x : D) (σ : Fr) : exmK c [k] [.d x] σ = .ok (.d (.exn c [(k, x)])) σ := nr rfl
@[simp] theorem exmK_2 (c k l : Nat) (x y : D) (σ : Fr) : exmK c [k, l] [.d x, .d y] σ = .ok (.d (.exn c [(l, y), (k, x)])) σ := nr rfl
@[simp] theorem e_exm (c : Nat) (ks : List Nat) (as : Es) (σ : Fr) : ev G cl md (.exm c ks as) σ = ((evs G cl as σ).bind (exmK c ks)).bind (fin md) := by rw [ev]; rfl
def fldxK (c f : Nat) (v : Val) (σ : Fr) : Res Val := opt (exfV v c f) fun x => .ok (.d x) σ
@[simp] theorem fldxK_d (c k f : Nat) (fs : List (Nat × D)) (σ : Fr) : fldxK c f (.d (.exn k fs)) σ = opt (if k = c then fs.lookup f else none) fun x => .ok (.d x) σ := nr rfl
@[simp] theorem e_fldx (a : E) (c f : Nat) (σ : Fr) : ev G cl md (.fldx a c f) σ = ((ev G cl .val a σ).bind (fldxK c f)).bind (fin md) := by rw [ev]; rfl
def isxK (cs : List Nat) (v : Val) (σ : Fr) : Res Val := opt (exiV v cs) fun b => .ok (bl b) σ
@[simp] theorem isxK_d (cs : List Nat) (k : Nat) (fs : List (Nat × D)) (σ : Fr) : isxK cs (.d (.exn k fs)) σ = .ok (.d (.bl (cs.contains k))) σ := nr rfl
@[simp] theorem e_isx (a : E) (cs : List Nat) (σ : Fr) : ev G cl md (.isx a cs) σ = ((ev G cl .val a σ).bind (isxK cs)).bind (fin md) := by rw [ev]; rfl
end
end Tf
end
section
set_option Elab.async false
set_option linter.all false
set_option maxRecDepth 100000
set_option maxHeartbeats 0
namespace Tf.P
open Tf PySem
def exV (k : Nat) (n m : D) : D := match k with
  | 0 => .exn 2 [(2, n)]
  | 1 => .exn 3 [(3, n)]
  | 2 => .exn 4 [(4, n)]
  | 3 => .exn 5 [(5, n)]
  | 4 => .exn 6 [(7, m), (6, n)]
  | 5 => .exn 7 []
  | _ => .exn 8 []
def blz (k : Nat) : D := .lst ((List.range 7).map fun i : Nat => D.bl (decide (i = k)))
section
variable {wt d w : Nat} {cl : Call} {md : Md}
theorem run_made (hd : 1 ≤ d) {n m : D} (en : ∀ d, 1 ≤ d → cmpV G (callD G wt d) .eq n (.d n) = some true) (em : ∀ d, cmpV G (callD G wt d) .eq m (.d m) = some true) (k : Nat) (hk : k < 7) (h2 : 2 ≤ d) : callD G wt d 11 [ow (.int k), ow n, ow m] = .ret (.d (.lst [exV k n m, .bl true])) [] := by
  obtain ⟨d', rfl⟩ : ∃ n, d = n + 1 := ⟨d - 1, by omega⟩
  have en := en d' (by omega)
  have em := em d'
  rw [call_eq (D := f11) rfl rfl rfl rfl]
  have l2 : 2 ≤ lineN := by decide
  have l1 : 1 ≤ lineN := by decide
  have p0 : place 2 0 = some 0 := by decide
  have p1 : place 2 1 = some 1 := by decide
  match k, hk with
  | 0, _ => simp [f11, f11_body, exV, en, em, l2, l1]
  | 1, _ => simp [f11, f11_body, exV, en, em, l2, l1]
  | 2, _ => simp [f11, f11_body, exV, en, em, l2, l1]
  | 3, _ => simp [f11, f11_body, exV, en, em, l2, l1]
  | 4, _ => simp [f11, f11_body, exV, en, em, l2, l1]
  | 5, _ => simp [f11, f11_body, exV, en, em, l2, l1, p0, p1]
  | 6, _ => simp [f11, f11_body, exV, en, em, l2, l1, p0, p1]
theorem run_sorts (hd : 1 ≤ d) (n m : D) (k : Nat) (hk : k < 7) : callD G wt d 10 [ow (exV k n m)] = .ret (.d (blz k)) [] := by
  obtain ⟨d', rfl⟩ : ∃ n, d = n + 1 := ⟨d - 1, by omega⟩
  rw [call_eq (D := f10) rfl rfl rfl rfl]
  have l4 : 4 ≤ lineN := by decide
  have l3 : 3 ≤ lineN := by decide
  have l7 : 7 ≤ lineN := by decide
  have AD : ∀ (a b : List D), a.length + b.length ≤ 100 → ∀ σ, binV G (callD G wt d') .add (.lst a) (.lst b) σ = .ok (.d (.lst (a ++ b))) σ := fun a b h σ => by
    show opt (if a.length + b.length ≤ lineN then some (D.lst (a ++ b)) else none) _ = _
    rw [if_pos (by unfold lineN; omega)]
    rfl
  match k, hk with
  | 0, _ => simp [f10, f10_body, exV, blz, l4, l3, AD]; rfl
  | 1, _ => simp [f10, f10_body, exV, blz, l4, l3, AD]; rfl
  | 2, _ => simp [f10, f10_body, exV, blz, l4, l3, AD]; rfl
  | 3, _ => simp [f10, f10_body, exV, blz, l4, l3, AD]; rfl
  | 4, _ => simp [f10, f10_body, exV, blz, l4, l3, AD]; rfl
  | 5, _ => simp [f10, f10_body, exV, blz, l4, l3, AD]; rfl
  | 6, _ => simp [f10, f10_body, exV, blz, l4, l3, AD]; rfl
theorem l_c1 (k : Nat) (s0 s1 s2 s3 s5 s6 s7 : Option Sl) : ev G cl md f12_c1 [s0, s1, s2, s3, sv (.int k), s5, s6, s7] = fin md (.d (blz k)) [s0, s1, s2, s3, sv (.int k), s5, s6, s7] := by
  have := comp_mapD (G := G) (cl := cl) (md := md) (elt := .cmp .eq (.var 7) (.var 4)) (tg := .var 7) (it := .rng (.cons false (.cst (.int 7)) .nil)) (vs := [7]) (σ := [s0, s1, s2, s3, sv (.int k), s5, s6, s7]) (List.range 7) (fun k : Nat => D.int k) (fun i => D.bl (decide (i = k))) (it_rng1 (n := 7) (by simp) (by decide)) (by decide) fun i _ => ⟨[s0, s1, s2, s3, sv (.int k), s5, s6, sv (.int i)], by
    have e : cmpV G cl .eq (.int i) (.d (.int k)) = some (decide (i = k)) := by
      rw [cmp_eqD, eqD_int]
      simp only [Int.ofNat_inj]
    simp [cTurn, wiped, mixL, e], by simp [wiped, mixL]⟩
  exact this
theorem ne_blz (k : Nat) : cmpV G cl .ne (blz k) (.d (blz k)) = some false := by
  unfold blz
  rw [cmp_neD]
  have := eqD_map (G := G) (cl := cl) 4 D.bl ((List.range 7).map fun i : Nat => decide (i = k)) ((List.range 7).map fun i : Nat => decide (i = k)) fun x _ y _ => eqD_bl _ _ _
  rw [List.map_map] at this
  have e : (D.bl ∘ fun i : Nat => decide (i = k)) = fun i : Nat => D.bl (decide (i = k)) := rfl
  rw [e] at this
  rw [this]
  simp
theorem is_all (n m : D) (k : Nat) (hk : k < 7) (σ : Fr) : isxK [2, 3, 4, 5, 6, 7, 8] (.d (exV k n m)) σ = .ok (.d (.bl true)) σ := by
  match k, hk with
  | 0, _ => rw [exV, isxK_d]; rfl
  | 1, _ => rw [exV, isxK_d]; rfl
  | 2, _ => rw [exV, isxK_d]; rfl
  | 3, _ => rw [exV, isxK_d]; rfl
  | 4, _ => rw [exV, isxK_d]; rfl
  | 5, _ => rw [exV, isxK_d]; rfl
  | 6, _ =>
    have e : exV 6 n m = .exn 8 [] := rfl
    rw [e, isxK_d]; rfl
set_option maxHeartbeats 400000 in
theorem l_turn (hd : 2 ≤ d) {n m : D} (en : ∀ d, 1 ≤ d → cmpV G (callD G wt d) .eq n (.d n) = some true) (em : ∀ d, cmpV G (callD G wt d) .eq m (.d m) = some true) (s0 s1 s4 s5 s6 s7 : Option Sl) (g4 : Free s4 = true) (g5 : Free s5 = true) (g6 : Free s6 = true) (k : Nat) (hk : k < 7) :
    forT (.var 4) (exSs G (callD G wt d) w f12_l1) (.int k) [s0, s1, sv n, sv m, s4, s5, s6, s7] = .next [s0, s1, sv n, sv m, sv (.int k), sv (exV k n m), sv (.bl true), s7] := by
  have M := run_made (wt := wt) (d := d) (by omega) en em k hk hd
  have S := run_sorts (wt := wt) (d := d) (by omega) n m k hk
  have N := ne_blz (cl := callD G wt d) k
  have C := fun s6 => l_c1 (cl := callD G wt d) (md := .pk) k s0 s1 (sv n) (sv m) (sv (exV k n m)) s6 s7
  simp only [fin_pk'] at C
  have I := fun σ => is_all n m k hk σ
  have l2 : 2 ≤ lineN := by decide
  unfold f12_l1
  generalize f12_c1 = c1 at *
  generalize blz k = bz at *
  generalize exV k n m = e at *
  simp [forT, f11, f10, g4, g5, g6, M, S, N, C, I, l2]
end
end Tf.P
end
section
set_option Elab.async false
set_option linter.all false
set_option maxRecDepth 100000
set_option maxHeartbeats 0
namespace Tf.P
open Tf PySem
section
variable {wt d w : Nat} {cl : Call} {md : Md}
@[simp] theorem fld_top (p : Rat) (σ : Fr) : fldK 0 (.d (rD p)) σ = .ok (.d (.int p.num)) σ := rfl
@[simp] theorem fld_bot (p : Rat) (σ : Fr) : fldK 1 (.d (rD p)) σ = .ok (.d (.int p.den)) σ := rfl
theorem eqd_R (hd : 1 ≤ d) (k : Nat) (p q : Rat) : eqD G (callD G wt d) k (rD p) (rD q) = some (decide (p = q)) := by
  have h := run_eq (wt := wt) hd p q
  cases k <;> (unfold eqD eqA; simp [rD, owned, eqTo] at h ⊢; simp [h, ansB])
theorem cmp_R (hd : 1 ≤ d) (p q : Rat) : cmpV G (callD G wt d) .eq (rD p) (.d (rD q)) = some (decide (p = q)) := eqd_R hd 5 p q
theorem op_add (hw : Fu wt) (hd : 3 ≤ d) {p q : Rat} (hp : Sm 4000 p) (hq : Sm 4000 q) (σ : Fr) : binV G (callD G wt d) .add (rD p) (rD q) σ = .ok (.d (rD (p + q))) σ := by
  have h := run_add (wt := wt) hw hd hp hq
  simp [rD, opm, owned] at h ⊢
  simp [h]
theorem op_sub (hw : Fu wt) (hd : 3 ≤ d) {p q : Rat} (hp : Sm 4000 p) (hq : Sm 4000 q) (σ : Fr) : binV G (callD G wt d) .sub (rD p) (rD q) σ = .ok (.d (rD (p - q))) σ := by
  have h := run_sub (wt := wt) hw hd hp hq
  simp [rD, opm, owned] at h ⊢
  simp [h]
end
end Tf.P
end
section
set_option Elab.async false
set_option linter.all false
set_option maxRecDepth 100000
set_option maxHeartbeats 1000000
namespace Tf.P
open Tf PySem
section
variable {wt d w : Nat} {cl : Call} {md : Md}
theorem eq_int (i : Int) : cmpV G cl .eq (.int i) (.d (.int i)) = some true := by
  rw [cmp_eqD, eqD_int]
  simp
theorem eq_tup (i j : Int) : cmpV G cl .eq (.tup [.int i, .int j]) (.d (.tup [.int i, .int j])) = some true := by
  have := eqD_map (G := G) (cl := cl) 4 D.int [i, j] [i, j] fun x _ y _ => eqD_int _ _ _
  rw [cmp_eqD]
  show ((eqL (eqD G cl 4) [.int i, .int j] [.int i, .int j]).map fun b => b && decide ([D.int i, D.int j].length = [D.int i, D.int j].length)) = _
  simp [eqL, eqD_int]
theorem pick_n (a b c : D) (h1 : ∀ d, 1 ≤ d → cmpV G (callD G wt d) .eq a (.d a) = some true) (h2 : ∀ d, 1 ≤ d → cmpV G (callD G wt d) .eq b (.d b) = some true) (h3 : ∀ d, 1 ≤ d → cmpV G (callD G wt d) .eq c (.d c) = some true) (r : Nat) (hr : r < 3) :
    ∃ n, selV (.d (.lst [a, b, c])) (.int r) = some (.d n) ∧ ∀ d, 1 ≤ d → cmpV G (callD G wt d) .eq n (.d n) = some true := by
  match r, hr with
  | 0, _ => exact ⟨a, rfl, h1⟩
  | 1, _ => exact ⟨b, rfl, h2⟩
  | 2, _ => exact ⟨c, rfl, h3⟩
theorem run_law (hw : Fu wt) (hd : 4 ≤ d) (ns : List Int) : callD G wt d 12 [ow (.scr ns)] = .ret (.d (.bl true)) [] := by
  obtain ⟨n, rfl⟩ : ∃ n, d = n + 1 := ⟨d - 1, by omega⟩
  obtain ⟨i0, A0⟩ := run_at (wt := wt) (d := n) (by omega) ns 0
  obtain ⟨i1, A1⟩ := run_at (wt := wt) (d := n) (by omega) ns 1
  have A0 : callD G wt n 9 [ow (.scr ns), ow (.int 0)] = .ret (.d (.int i0)) [] := A0
  have A1 : callD G wt n 9 [ow (.scr ns), ow (.int 1)] = .ret (.d (.int i1)) [] := A1
  obtain ⟨c0, f, B0⟩ := run_bag (wt := wt) (d := n) (by omega) i0
  obtain ⟨r1, c1, h1, D1⟩ := run_drawN (wt := wt) (d := n) (by omega) c0 0 f 40 (by omega) (by omega) (by decide)
  obtain ⟨r2, c2, h2, D2⟩ := run_drawN (wt := wt) (d := n) (by omega) c1 1 f 9 (by omega) (by omega) (by decide)
  obtain ⟨r3, c3, h3, D3⟩ := run_drawN (wt := wt) (d := n) (by omega) c2 2 f 3 (by omega) (by omega) (by decide)
  obtain ⟨r4, c4, h4, D4⟩ := run_drawN (wt := wt) (d := n) (by omega) c3 3 f 3 (by omega) (by omega) (by decide)
  simp only [Int.cast_ofNat_Int] at D1 D2 D3 D4
  have MK := fun σ => mk_run (wt := wt) (d := n) hw (by omega) (t := (r2 : Int)) (b := 7) (by decide) (by decide) σ
  obtain ⟨nn, S1, en⟩ := pick_n (wt := wt) (.int ((r1 : Int) - 9)) (.int (i1 % (10 ^ 40))) (rD (Rat.divInt (r2 : Int) 7)) (fun d _ => eq_int _) (fun d _ => eq_int _) (fun d hd => by rw [cmp_R hd]; simp) r3 h3
  obtain ⟨mm, S2, em⟩ := pick_n (wt := wt) (.tup [.int 1, .int 2]) (.int 0) (.int (-3)) (fun d _ => eq_tup _ _) (fun d _ => eq_int _) (fun d _ => eq_int _) r4 h4
  obtain ⟨⟨q4, q5, q6⟩, e, g4, g5, g6⟩ := for_allI (turn := forT (.var 4) (exSs G (callD G wt n) wt f12_l1)) (fun q : Option Sl × Option Sl × Option Sl => [sv (.scr ns), some (.own (poolO c4 4 f)), sv nn, sv mm, q.1, q.2.1, q.2.2, none]) (fun k : Nat => D.int k) (fun q => Free q.1 = true ∧ Free q.2.1 = true ∧ Free q.2.2 = true) (List.range 7) (none, none, none) ⟨rfl, rfl, rfl⟩ (by
    rintro k hk ⟨a4, a5, a6⟩ ⟨f4, f5, f6⟩
    exact ⟨(sv (.int k), sv (exV k nn mm), sv (.bl true)), l_turn (wt := wt) (by omega) en (fun d => by
      cases d with
      | zero =>
        match r4, h4 with
        | 0, _ => cases S2; exact eq_tup _ _
        | 1, _ => cases S2; exact eq_int _
        | 2, _ => cases S2; exact eq_int _
      | succ d => exact em (d + 1) (by omega)) _ _ a4 a5 a6 none f4 f5 f6 k (List.mem_range.mp hk), rfl, rfl, rfl⟩)
  have S3 : exS G (callD G wt n) wt f12_s1 [sv (.scr ns), some (.own (poolO c4 4 f)), sv nn, sv mm, none, none, none, none] = .next [sv (.scr ns), some (.own (poolO c4 4 f)), sv nn, sv mm, q4, q5, q6, none] := by
    rw [← e]
    unfold f12_s1
    rw [for_rng1 (n := 7) (σ' := [sv (.scr ns), some (.own (poolO c4 4 f)), sv nn, sv mm, none, none, none, none]) (by simp) (by decide)]
  have S3 : exS G (callD G wt n) wt f12_s1 [some (ow (.scr ns)), some (.own (poolO c4 4 f)), some (.own (.d nn)), some (.own (.d mm)), none, none, none, none] = .next [sv (.scr ns), some (.own (poolO c4 4 f)), sv nn, sv mm, q4, q5, q6, none] := S3
  rw [call_eq (D := f12) rfl rfl rfl rfl]
  have l3 : 3 ≤ lineN := by decide
  have l2 : 2 ≤ lineN := by decide
  have bI : ∀ i, biV .int (.d (.int i)) = some (.int i) := fun i => rfl
  clear e em en
  generalize rD (Rat.divInt (r2 : Int) 7) = rr at *
  generalize poolO c0 0 f = p0 at *
  generalize poolO c1 (0 + 1) f = p1 at *
  generalize poolO c2 (1 + 1) f = p2 at *
  generalize poolO c3 (2 + 1) f = p3 at *
  generalize poolO c4 (3 + 1) f = p4 at *
  simp only [Int.reducePow] at S1
  simp [f12, f12_body, f9, f7, f8, f1, A0, A1, B0, D1, D2, D3, D4, MK, S1, S2, S3, l3, l2, bI]
end
theorem pure_law : ∀ ns : List Int, ns.length ≤ 63 → ∃ wt, callD G wt 5 12 [owned (.scr ns)] = .ret (.d (.bl true)) [] := fun ns _ => ⟨2 ^ szMax, run_law (d := 5) (Nat.le_refl _) (by decide) ns⟩
end Tf.P
end
set_option Elab.async false
set_option linter.all false
theorem PySem.Challenge.cw_truthfees_k01_errors_by_class_holds : PySem.Challenge.rw_truthfees_k01_errors_by_class.Holds := by
  exact Tf.P.law_of 4 ⟨rfl, by decide, by decide⟩ Tf.P.pure_law
