import PyProof.Rows.All
import Wide.All
import OpenK.AllK
import Wide.FinOn
import PyProof.EqKinds
import KE.KSortTup
import KE.KDictList
import KE.KSuperObj
import Lean
import PySem.Challenge.RW_qd0017_01
set_option Elab.async false
set_option maxRecDepth 100000
set_option maxHeartbeats 4000000
set_option linter.all false
set_option bootstrap.genMatcherCode false
set_option genSizeOf false
set_option genInjectivity false
namespace Mine
open PySem
inductive V where
  | none
  | bool (b:Bool)
  | int (i:Int)
  | str (x:Str)
  | tup (vs:List V)
  | lst (vs:List V)
  | dct (ks:List V)
  | rng (lo hi:Int)
  | obj (n:Nat)
  deriving Inhabited
inductive MObj where
  | list (vs:List V)
  | sdict (es:List (Str×V))
  | idict (es:List (Int×V))
  | inst (c:Str) (k:Nat)
  deriving Inhabited
noncomputable abbrev M:=List MObj
noncomputable abbrev Rho:=Str→Option V
noncomputable def upd (ρ:Rho) (x:Str) (v:V):Rho:=fun y=>if y=x then some v else ρ y
noncomputable def hideR (hs:List Str) (ρ:Rho):Rho:=fun y=>if y ∈ hs then none else ρ y
inductive Tgt where
  | one (x:Str)
  | many (xs:List Str)
  deriving Repr,Inhabited
inductive C where
  | const (c:Const)
  | var (x:Str)
  | glob (x:Str)
  | bin (op:Operator) (a b:C)
  | neg (a:C)
  | not (a:C)
  | and (cs:List C)
  | or (cs:List C)
  | ite (t a b:C)
  | tup (cs:List C)
  | list (own:Bool) (cs:List C)
  | dict (ks:List Str) (cs:List C)
  | cmp (op:CmpOp) (a b:C)
  | chain (a:C) (op:CmpOp) (b:C) (op':CmpOp) (c:C)
  | attr (a:C) (n:Str)
  | idx (a i:C)
  | slice (own:Bool) (a:C) (lo hi:Option C)
  | call (f:Str) (raw:Bool) (args:List C)
  | meth (o:C) (n:Str) (args:List C)
  | comp (hs:List Str) (elt:C) (t:Tgt) (it:C) (ifs:List C)
  | comp2 (hs:List Str) (elt:C) (t:Tgt) (it:C) (t':Tgt) (it':C) (ifs:List C)
  | dcomp (hs:List Str) (key:C) (t:Tgt) (it:C)
  deriving Inhabited
inductive S where
  | assign (t:Tgt) (e:C)
  | setAttr (o:C) (n:Str) (e:C)
  | setIdx (o i:C) (e:C)
  | expr (e:C)
  | sup (args:List C)
  | ret (e:C)
  | brk
  | ite (t:C) (a b:List S)
  | while (t:C) (b:List S)
  | for (t:Tgt) (it:C) (b:List S)
  | forE (t:Tgt) (it:C) (b:List S)
  | stop
  deriving Inhabited
noncomputable def intsFrom (lo:Int):Nat→List V
  | 0=>[]
  | n + 1=>V.int lo::intsFrom (lo + 1) n
noncomputable def intOf:V→Option Int
  | .int i=>some i
  | _=>none
noncomputable def strOf:V→Option Str
  | .str x=>some x
  | _=>none
noncomputable def boolOf:V→Option Bool
  | .bool b=>some b
  | _=>none
noncomputable def tupOf:V→Option (List V)
  | .tup vs=>some vs
  | _=>none
noncomputable def dctOf:V→Option (List V)
  | .dct ks=>some ks
  | _=>none
noncomputable def rngOf:V→Option (Int×Int)
  | .rng a b=>some (a,b)
  | _=>none
noncomputable def objOf:V→Option Nat
  | .obj n=>some n
  | _=>none
noncomputable def lst?:MObj→Option (List V)
  | .list vs=>some vs
  | _=>none
noncomputable def dic?:MObj→Option (List (Str×V))
  | .sdict es=>some es
  | _=>none
noncomputable def ins?:MObj→Option (Str×Nat)
  | .inst c k=>some (c,k)
  | _=>none
noncomputable def one? {α:Type}:List α→Option α
  | [a]=>some a
  | _=>none
noncomputable def two? {α:Type}:List α→Option (α×α)
  | [a,b]=>some (a,b)
  | _=>none
noncomputable def listV (μ:M):V→Option (List V)
  | .lst vs=>some vs
  | .obj n=>(μ[n]?).bind lst?
  | _=>none
noncomputable def seqV (μ:M) (a:V):Option (List V):=match tupOf a with
  | some vs=>some vs
  | none=>listV μ a
noncomputable def itemsV (μ:M):V→Option (List V)
  | .tup vs=>some vs
  | .rng lo hi=>some (intsFrom lo (hi - lo).toNat)
  | v=>listV μ v
noncomputable def iterV (lo:Nat) (μ:M):V→Option (List V)
  | .obj n=>if n<lo then listV μ (.obj n) else none
  | v=>itemsV μ v
noncomputable def pdL (f:V→Option PyData):List V→Option (List PyData)
  | []=>some []
  | v::vs=>(f v).bind fun d=>(pdL f vs).map (d::·)
noncomputable def pdA:V→Option PyData
  | .none=>some .none
  | .bool b=>some (.bool b)
  | .int i=>some (.int i)
  | .str x=>if PyData.strOk x then some (.str x) else none
  | _=>none
noncomputable def pdV (μ:M):Nat→V→Option PyData
  | 0,v=>pdA v
  | n + 1,v=>match pdA v with
    | some d=>some d
    | none=>match tupOf v with
      | some vs=>(pdL (pdV μ n) vs).map .tuple
      | none=>(listV μ v).bind fun vs=>(pdL (pdV μ n) vs).map .list
noncomputable def eqDeep:Nat:=8
noncomputable def eqV (μ:M) (a b:V):Option Bool:=(pdV μ eqDeep a).bind fun x=>(pdV μ eqDeep b).map fun y=>PyData.eqv x y
noncomputable def intsOf:List V→Option (List Int)
  | []=>some []
  | v::vs=>(intOf v).bind fun i=>(intsOf vs).map (i::·)
noncomputable def pdS:PyData→Option (List PyData)
  | .tuple ys=>some ys
  | .list ys=>some ys
  | _=>none
noncomputable def inV (μ:M) (a v:V):Option Bool:=match dctOf v with
  | some ks=>(intOf a).bind fun i=>(intsOf ks).map fun is=>decide (i ∈ is)
  | none=>(pdV μ eqDeep a).bind fun x=>(pdV μ (eqDeep + 1) v).bind fun y=>(pdS y).map fun ys=>ys.any fun y=>PyData.eqv y x
noncomputable def ltCps:List Nat→List Nat→Bool
  | [],[]=>false
  | [],_::_=>true
  | _::_,[]=>false
  | x::xs,y::ys=>if x=y then ltCps xs ys else decide (x<y)
noncomputable def ltStr (x y:Str):Bool:=ltCps x.cps.toList y.cps.toList
noncomputable def ltItem (x y:V):Option (Option Bool):=match intOf x with
  | some a=>(intOf y).map fun b=>if a=b then none else some (decide (a<b))
  | none=>(strOf x).bind fun a=>(strOf y).map fun b=>if a=b then none else some (ltStr a b)
noncomputable def ltFlat:List V→List V→Option Bool
  | [],ys=>some (!ys.isEmpty)
  | x::xs,ys=>match ys with
    | []=>some false
    | y::ys=>(ltItem x y).bind fun r=>match r with
      | none=>ltFlat xs ys
      | some b=>some b
noncomputable def ltV (x y:V):Option Bool:=(tupOf x).bind fun a=>(tupOf y).bind fun b=>ltFlat a b
noncomputable def kasRun {α:Type} (lt:Nat→Nat→Option Bool):PySem.W.KasT α→Option α
  | .ret a=>some a
  | .ask i j k=>match lt i j with
    | some b=>kasRun lt (k b)
    | none=>none
noncomputable def keyV:V→Bool
  | .tup (.int _::_)=>true
  | _=>false
noncomputable def askV (vs:List V) (i j:Nat):Option Bool:=(vs[i]?).bind fun x=>(vs[j]?).bind fun y=>ltV x y
noncomputable def sortV (vs:List V):Option (List V):=
  if vs.length<2 then some vs
  else if vs.length<64∧vs.all keyV=true then (kasRun (askV vs) (PySem.W.kas_sort vs.length)).map fun p=>p.toList.map fun i=>vs.getD i .none
  else none
noncomputable def sizeLim:Nat:=2 ^ 20
noncomputable def addV (μ:M) (a b:V):Option V:=match intOf a with
  | some i=>(intOf b).map fun j=>.int (i + j)
  | none=>match tupOf a with
    | some xs=>(tupOf b).bind fun ys=>if xs.length + ys.length≤sizeLim then some (.tup (xs++ys)) else none
    | none=>(listV μ a).bind fun xs=>(listV μ b).bind fun ys=>if xs.length + ys.length≤sizeLim then some (.lst (xs++ys)) else none
noncomputable def mulV (a b:V):Option V:=(intOf b).bind fun j=>match intOf a with
  | some i=>if -(2 ^ 62)≤i∧i≤2 ^ 62 then some (.int (i * j)) else none
  | none=>(tupOf a).bind fun xs=>(one? xs).bind fun x=>if j=2 then some (.tup [x,x]) else none
noncomputable def binV (μ:M) (op:Operator) (a b:V):Option V:=match op with
  | .Add=>addV μ a b
  | .Sub=>(intOf a).bind fun i=>(intOf b).map fun j=>.int (i - j)
  | .Mult=>mulV a b
  | .Mod=>(intOf a).bind fun i=>(intOf b).bind fun j=>if 0<j then some (.int (i % j)) else none
  | .Pow=>(intOf a).bind fun i=>(intOf b).bind fun j=>if 0≤i∧i≤16∧0≤j∧j≤64 then some (.int (i ^ j.toNat)) else none
  | _=>none
noncomputable def cmpI (f:Int→Int→Bool) (a b:V):Option Bool:=(intOf a).bind fun i=>(intOf b).map fun j=>f i j
noncomputable def isN:V→Option Bool
  | .none=>some true
  | .bool _=>some false
  | .tup _=>some false
  | _=>none
noncomputable def isV (a:V):V→Option Bool
  | .none=>isN a
  | _=>none
noncomputable def cmpV (μ:M) (op:CmpOp) (a b:V):Option Bool:=match op with
  | .Eq=>eqV μ a b
  | .NotEq=>(eqV μ a b).map (!·)
  | .Lt=>cmpI (fun i j=>decide (i<j)) a b
  | .LtE=>cmpI (fun i j=>decide (i≤j)) a b
  | .Gt=>cmpI (fun i j=>decide (j<i)) a b
  | .GtE=>cmpI (fun i j=>decide (j≤i)) a b
  | .Is=>isV a b
  | .In=>inV μ a b
  | .NotIn=>(inV μ a b).map (!·)
  | _=>none
noncomputable def lookE {α:Type} [BEq α] (k:α):List (α×V)→Option V
  | []=>none
  | (k',v)::r=>if k == k' then some v else lookE k r
noncomputable def putE {α:Type} [BEq α] (k:α) (v:V):List (α×V)→List (α×V)
  | []=>[(k,v)]
  | (k',v')::r=>if k == k' then (k',v)::r else (k',v')::putE k v r
noncomputable def placeOf (i:Int) (n:Nat):Option Nat:=
  if 0≤i∧i<n then some i.toNat else if i<0∧0≤i + n then some (i + n).toNat else none
noncomputable def idxV (μ:M) (a i:V):Option V:=match intOf i with
  | some k=>(seqV μ a).bind fun xs=>(placeOf k xs.length).bind fun j=>xs[j]?
  | none=>(strOf i).bind fun x=>(objOf a).bind fun n=>(μ[n]?).bind fun m=>(dic? m).bind (lookE x)
noncomputable def fieldsAt (μ:M) (a:V):Option (Str×Nat×List (Str×V)):=(objOf a).bind fun n=>(μ[n]?).bind fun m=>(ins? m).bind fun p=>(μ[p.2]?).bind fun d=>(dic? d).map fun es=>(p.1,p.2,es)
noncomputable def attrV (fl:Str→Str→Bool) (μ:M) (a:V) (x:Str):Option V:=(fieldsAt μ a).bind fun p=>if fl p.1 x then lookE x p.2.2 else none
noncomputable def cutOf (d:Nat) (n:Nat):Option V→Option Nat
  | none=>some d
  | some v=>(intOf v).bind fun k=>if 0≤k then some (min k.toNat n) else none
noncomputable def sliceV (μ:M) (a:V) (lo hi:Option V):Option (List V):=(listV μ a).bind fun xs=>(cutOf 0 xs.length lo).bind fun l=>(cutOf xs.length xs.length hi).map fun h=>(xs.take h).drop l
noncomputable def maxI:Int→List Int→Int
  | m,[]=>m
  | m,x::xs=>maxI (if m<x then x else m) xs
noncomputable def minI:Int→List Int→Int
  | m,[]=>m
  | m,x::xs=>minI (if x<m then x else m) xs
noncomputable def rngLim:Int:=2 ^ 62
noncomputable def mostV (f:Int→Int→Int) (g:Int→List Int→Int) (args:List V):Option V:=match two? args with
  | some p=>(intOf p.1).bind fun i=>(intOf p.2).map fun j=>.int (f i j)
  | none=>(one? args).bind fun a=>(tupOf a).bind fun xs=>(intsOf xs).bind fun is=>match is with
    | []=>none
    | i::r=>some (.int (g i r))
noncomputable def rangeV (args:List V):Option V:=match two? args with
  | some p=>(intOf p.1).bind fun i=>(intOf p.2).bind fun j=>if j - i≤sizeLim then some (.rng i j) else none
  | none=>(one? args).bind fun a=>(intOf a).bind fun j=>if j≤sizeLim then some (.rng 0 j) else none
noncomputable def mkList (μ:M) (a:V):Option V:=match tupOf a with
  | some xs=>some (.lst xs)
  | none=>match rngOf a with
    | some p=>if -(2 ^ 62)≤p.1∧p.1<2 ^ 62∧-(2 ^ 62)≤p.2∧p.2<2 ^ 62 then some (.lst (intsFrom p.1 (p.2 - p.1).toNat)) else none
    | none=>(listV μ a).map .lst
noncomputable def sortedV (μ:M) (a:V):Option V:=match dctOf a with
  | some ks=>(sortV ks).map .lst
  | none=>(listV μ a).bind fun xs=>(sortV xs).map .lst
noncomputable def biV (μ:M) (f:Str) (args:List V):Option V:=
  if f = "len" then (one? args).bind fun a=>(seqV μ a).map fun vs=>.int vs.length
  else if f = "max" then mostV (fun a b=>if b > a then b else a) maxI args
  else if f = "min" then mostV (fun a b=>if b<a then b else a) minI args
  else if f = "sum" then (one? args).bind fun a=>(listV μ a).bind fun xs=>(intsOf xs).map fun is=>.int is.sum
  else if f = "range" then rangeV args
  else if f = "tuple" then (one? args).bind fun a=>(seqV μ a).map .tup
  else if f = "list" then (one? args).bind (mkList μ)
  else if f = "sorted" then (one? args).bind (sortedV μ)
  else none
structure Fn where
  params:List Str
  body:List S
  pure:Bool
  /-- where the def lies -/
  adr:Nat
structure Tab where
  /-- a name of the top: a def's key -/
  defs:Str→Option Str
  /-- a name of the top: a class -/
  classes:Str→Option Str
  consts:Str→Option V
  /-- a name that a class does not know -/
  fields:Str→Str→Bool
  /-- a class's method's key -/
  meths:Str→Str→Option Str
  /-- the key of the __init__ that super() finds from a def -/
  sup:Str→Option Str
  fns:Str→Option Fn
noncomputable abbrev Calls:=Str→Bool→Nat→List V→M→Option (V×M)
noncomputable def enumFrom:Int→List V→List V
  | _,[]=>[]
  | i,v::vs=>V.tup [.int i,v]::enumFrom (i + 1) vs
noncomputable def asBool (r:Option (V×M)):Option (Bool×M):=r.bind fun p=>(boolOf p.1).map (·,p.2)
noncomputable def bindT (ρ:Rho) (v:V):Tgt→Option Rho
  | .one x=>some (upd ρ x v)
  | .many xs=>(tupOf v).bind fun vs=>if xs.length=vs.length then some ((xs.zip vs).foldl (fun r p=>upd r p.1 p.2) ρ) else none
noncomputable def flatM (f:V→M→Option (List V×M)):List V→M→Option (List V×M)
  | [],μ=>some ([],μ)
  | x::xs,μ=>(f x μ).bind fun p=>(flatM f xs p.2).map fun r=>(p.1++r.1,r.2)
noncomputable def firsts {α:Type} [DecidableEq α]:List α→List α→List α
  | acc,[]=>acc
  | acc,k::ks=>if k ∈ acc then firsts acc ks else firsts (acc++[k]) ks
noncomputable abbrev Flat:=List (Int ⊕ Str)
noncomputable def itemOf:V→Option (Int ⊕ Str)
  | .int i=>some (.inl i)
  | .str x=>some (.inr x)
  | _=>none
noncomputable def flatOf:List V→Option Flat
  | []=>some []
  | v::r=>(itemOf v).bind fun x=>(flatOf r).map (x::·)
noncomputable def unItem:Int ⊕ Str→V
  | .inl i=>.int i
  | .inr x=>.str x
noncomputable def unflat (k:Flat):V:=.tup (k.map unItem)
noncomputable def tupsOf:List V→Option (List Flat)
  | []=>some []
  | v::r=>(tupOf v).bind fun vs=>(flatOf vs).bind fun a=>(tupsOf r).map (a::·)
noncomputable def dictV (ks:List V):Option V:=match intsOf ks with
  | some is=>some (.dct ((firsts [] is).map .int))
  | none=>(tupsOf ks).map fun ts=>.dct ((firsts [] ts).map unflat)
noncomputable def methFind (T:Tab) (o:V) (n:Str) (μ:M):Option (Option Str):=(objOf o).bind fun i=>(μ[i]?).bind fun m=>match ins? m with
  | some p=>(μ[p.2]?).bind fun d=>(dic? d).bind fun es=>if (lookE n es).isNone then (T.meths p.1 n).map some else none
  | none=>(lst? m).bind fun _=>if n = "append" ∨ n = "extend" ∨ n = "pop" then some none else none
noncomputable def putL? (lim:Prop) [Decidable lim] (μ:M) (i:Nat) (vs:List V):Option (V×M):=if lim then some (.none,μ.set i (.list vs)) else none
noncomputable def listMeth (lo:Nat) (o:V) (n:Str) (args:List V) (μ:M):Option (V×M):=(objOf o).bind fun i=>(μ[i]?).bind fun m=>(lst? m).bind fun vs=>
  if i<lo then none
  else if n = "append" then (one? args).bind fun a=>putL? (vs.length<sizeLim) μ i (vs++[a])
  else if n = "extend" then (one? args).bind fun a=>match rngOf a with
    | some p=>putL? (vs.length + (p.2 - p.1).toNat≤sizeLim) μ i (vs++intsFrom p.1 (p.2 - p.1).toNat)
    | none=>(listV μ a).bind fun xs=>putL? (vs.length + xs.length≤sizeLim) μ i (vs++xs)
  else if n = "pop" ∧ args.isEmpty then (vs.getLast?).map fun v=>(v,μ.set i (.list vs.dropLast))
  else none
section
variable (T:Tab) (cb:Calls) (lo:Nat)
noncomputable def constV:Const→Option V
  | .none=>some .none
  | .bool b=>some (.bool b)
  | .int i=>some (.int i)
  | .str x=>some (.str x)
  | _=>none
noncomputable def mkL (own:Bool) (vs:List V) (μ:M):V×M:=if own then (.obj μ.length,μ++[.list vs]) else (.lst vs,μ)
noncomputable def callV (f:Str) (raw:Bool) (vs:List V) (μ₁:M):Option (V×M):=match T.defs f with
  | some q=>cb q raw lo vs μ₁
  | none=>match T.classes f with
    | some c=>(T.meths c "__init__").bind fun q=>(cb q false lo (.obj (μ₁.length + 1)::vs) (μ₁++[.sdict [],.inst c μ₁.length])).bind fun p=>match p.1 with
      | .none=>some (.obj (μ₁.length + 1),p.2)
      | _=>none
    | none=>(biV μ₁ f vs).map (·,μ₁)
noncomputable def methV (o:V) (n:Str) (vs:List V) (μ:M):Option Str→Option (V×M)
  | some q=>cb q false lo (o::vs) μ
  | none=>listMeth lo o n vs μ
mutual
noncomputable def ev:C→Rho→M→Option (V×M)
  | .const c,_,μ=>(constV c).map (·,μ)
  | .var x,ρ,μ=>(ρ x).map (·,μ)
  | .glob x,_,μ=>(T.consts x).map (·,μ)
  | .bin op a b,ρ,μ=>(ev a ρ μ).bind fun p=>(ev b ρ p.2).bind fun r=>(binV r.2 op p.1 r.1).map (·,r.2)
  | .neg a,ρ,μ=>(ev a ρ μ).bind fun p=>(intOf p.1).map fun i=>(.int (-i),p.2)
  | .not a,ρ,μ=>(ev a ρ μ).bind fun p=>(boolOf p.1).map fun b=>(.bool (!b),p.2)
  | .and cs,ρ,μ=>(evAnd cs ρ μ).map fun p=>(.bool p.1,p.2)
  | .or cs,ρ,μ=>(evOr cs ρ μ).map fun p=>(.bool p.1,p.2)
  | .ite t a b,ρ,μ=>(ev t ρ μ).bind fun p=>(boolOf p.1).bind fun c=>bif c then ev a ρ p.2 else ev b ρ p.2
  | .tup cs,ρ,μ=>(evs cs ρ μ).map fun p=>(.tup p.1,p.2)
  | .list own cs,ρ,μ=>(evs cs ρ μ).map fun p=>mkL own p.1 p.2
  | .dict ks cs,ρ,μ=>(evs cs ρ μ).map fun p=>(.obj p.2.length,p.2++[if ks.isEmpty then .idict [] else .sdict (ks.zip p.1)])
  | .cmp op a b,ρ,μ=>(ev a ρ μ).bind fun p=>(ev b ρ p.2).bind fun r=>(cmpV r.2 op p.1 r.1).map fun c=>(.bool c,r.2)
  | .chain a op b op' c,ρ,μ=>(ev a ρ μ).bind fun p=>(ev b ρ p.2).bind fun r=>(cmpV r.2 op p.1 r.1).bind fun d=>bif d then (ev c ρ r.2).bind fun t=>(cmpV t.2 op' r.1 t.1).map fun e=>(.bool e,t.2) else some (.bool false,r.2)
  | .attr a n,ρ,μ=>(ev a ρ μ).bind fun p=>(attrV T.fields p.2 p.1 n).map (·,p.2)
  | .idx a i,ρ,μ=>(ev a ρ μ).bind fun p=>(ev i ρ p.2).bind fun r=>(idxV r.2 p.1 r.1).map (·,r.2)
  | .slice own a l h,ρ,μ=>(ev a ρ μ).bind fun p=>(evOpt l ρ p.2).bind fun r=>(evOpt h ρ r.2).bind fun t=>(sliceV t.2 p.1 r.1 t.1).map fun vs=>mkL own vs t.2
  | .call f raw args,ρ,μ=>(evs args ρ μ).bind fun p=>callV T cb lo f raw p.1 p.2
  | .meth o n args,ρ,μ=>(ev o ρ μ).bind fun p=>(methFind T p.1 n p.2).bind fun r=>(evs args ρ p.2).bind fun t=>methV cb lo p.1 n t.1 t.2 r
  | .comp hs elt t it ifs,ρ,μ=>(ev it ρ μ).bind fun p=>(iterV lo p.2 p.1).bind fun items=>(flatM (fun x μ'=>(bindT (hideR hs ρ) x t).bind fun ρ'=>(evAnd ifs ρ' μ').bind fun c=>bif c.1 then (ev elt ρ' c.2).map fun p=>([p.1],p.2) else some ([],c.2)) items p.2).map fun p=>(.lst p.1,p.2)
  | .comp2 hs elt t it t' it' ifs,ρ,μ=>(ev it ρ μ).bind fun p=>(iterV lo p.2 p.1).bind fun items=>(flatM (fun x μ'=>(bindT (hideR hs ρ) x t).bind fun ρ'=>(ev it' ρ' μ').bind fun p'=>(iterV lo p'.2 p'.1).bind fun items'=>
      flatM (fun x' μa=>(bindT ρ' x' t').bind fun ρ''=>(evAnd ifs ρ'' μa).bind fun c=>bif c.1 then (ev elt ρ'' c.2).map fun p=>([p.1],p.2) else some ([],c.2)) items' p'.2) items p.2).bind fun r=>if r.1.length≤sizeLim then some (.lst r.1,r.2) else none
  | .dcomp hs key t it,ρ,μ=>(ev it ρ μ).bind fun p=>(iterV lo p.2 p.1).bind fun items=>(flatM (fun x μ'=>(bindT (hideR hs ρ) x t).bind fun ρ'=>(ev key ρ' μ').map fun p=>([p.1],p.2)) items p.2).bind fun r=>(dictV r.1).map (·,r.2)
noncomputable def evs:List C→Rho→M→Option (List V×M)
  | [],_,μ=>some ([],μ)
  | c::cs,ρ,μ=>(ev c ρ μ).bind fun p=>(evs cs ρ p.2).map fun r=>(p.1::r.1,r.2)
noncomputable def evAnd:List C→Rho→M→Option (Bool×M)
  | [],_,μ=>some (true,μ)
  | c::cs,ρ,μ=>(ev c ρ μ).bind fun p=>(boolOf p.1).bind fun b=>bif b then evAnd cs ρ p.2 else some (false,p.2)
noncomputable def evOr:List C→Rho→M→Option (Bool×M)
  | [],_,μ=>some (false,μ)
  | c::cs,ρ,μ=>(ev c ρ μ).bind fun p=>(boolOf p.1).bind fun b=>bif b then some (true,p.2) else evOr cs ρ p.2
noncomputable def evOpt:Option C→Rho→M→Option (Option V×M)
  | none,_,μ=>some (none,μ)
  | some c,ρ,μ=>(ev c ρ μ).map fun p=>(some p.1,p.2)
end
inductive Fl where
  | next
  | brk
  | ret (v:V)
noncomputable abbrev Res:=Option (Fl×Rho×M)
noncomputable def thenM (k:Rho→M→Res):Fl×Rho×M→Res
  | (.next,ρ,μ)=>k ρ μ
  | (.brk,ρ,μ)=>some (.next,ρ,μ)
  | (.ret v,ρ,μ)=>some (.ret v,ρ,μ)
noncomputable def forM (body:V→Rho→M→Res):List V→Rho→M→Res
  | [],ρ,μ=>some (.next,ρ,μ)
  | x::xs,ρ,μ=>(body x ρ μ).bind (thenM fun ρ μ=>forM body xs ρ μ)
noncomputable def whileM (test:Rho→M→Option (Bool×M)) (body:Rho→M→Res):Nat→Rho→M→Res
  | 0,_,_=>none
  | n + 1,ρ,μ=>(test ρ μ).bind fun p=>bif p.1 then (body ρ p.2).bind (thenM fun ρ μ=>whileM test body n ρ μ) else some (.next,ρ,p.2)
noncomputable def setM (o:MObj) (i v:V):Option MObj:=match o with
  | .list vs=>(intOf i).bind fun k=>(placeOf k vs.length).map fun j=>.list (vs.set j v)
  | .sdict es=>(strOf i).bind fun x=>if (es.map (·.1)).Nodup∧es.length<100 then some (.sdict (putE x v es)) else none
  | .idict es=>(intOf i).bind fun k=>if es.length≤sizeLim then some (.idict (putE k v es)) else none
  | .inst _ _=>none
noncomputable def setIdxV (lo:Nat) (μ:M) (o i v:V):Option M:=(objOf o).bind fun n=>if n<lo then none else (μ[n]?).bind fun m=>(setM m i v).map fun m'=>μ.set n m'
noncomputable def setAttrV (fl:Str→Str→Bool) (lo:Nat) (μ:M) (o:V) (x:Str) (v:V):Option M:=(fieldsAt μ o).bind fun p=>if p.2.1<lo then none else if fl p.1 x=true∧p.2.2.length<100 then some (μ.set p.2.1 (.sdict (putE x v p.2.2))) else none
noncomputable def supOf (T:Tab) (q:Str) (μ:M) (o:V):Option Str:=(objOf o).bind fun i=>(μ[i]?).bind fun m=>(ins? m).bind fun p=>if T.meths p.1 "__init__" = some q then T.sup q else none
noncomputable def dropV:V→Bool
  | .none=>true
  | .bool _=>true
  | .int _=>true
  | _=>false
variable (W:Nat) (q:Str)
mutual
noncomputable def ex:S→Rho→M→Res
  | .assign t e,ρ,μ=>(ev T cb lo e ρ μ).bind fun p=>(bindT ρ p.1 t).map fun ρ'=>(.next,ρ',p.2)
  | .setAttr o n e,ρ,μ=>(ev T cb lo e ρ μ).bind fun p=>(ev T cb lo o ρ p.2).bind fun r=>(setAttrV T.fields lo r.2 r.1 n p.1).map fun μ₃=>(.next,ρ,μ₃)
  | .setIdx o i e,ρ,μ=>(ev T cb lo e ρ μ).bind fun p=>(ev T cb lo o ρ p.2).bind fun r=>(ev T cb lo i ρ r.2).bind fun t=>(setIdxV lo t.2 r.1 t.1 p.1).map fun μ₄=>(.next,ρ,μ₄)
  | .expr e,ρ,μ=>(ev T cb lo e ρ μ).bind fun p=>bif dropV p.1 then some (.next,ρ,p.2) else none
  | .sup args,ρ,μ=>(ρ "self").bind fun o=>(supOf T q μ o).bind fun q'=>(evs T cb lo args ρ μ).bind fun p=>(cb q' false lo (o::p.1) p.2).bind fun r=>match r.1 with
    | .none=>some (.next,ρ,r.2)
    | _=>none
  | .ret e,ρ,μ=>(ev T cb lo e ρ μ).map fun p=>(.ret p.1,ρ,p.2)
  | .brk,ρ,μ=>some (.brk,ρ,μ)
  | .ite t a b,ρ,μ=>(ev T cb lo t ρ μ).bind fun p=>(boolOf p.1).bind fun c=>bif c then exs a ρ p.2 else exs b ρ p.2
  | .while t b,ρ,μ=>whileM (fun ρ μ=>asBool (ev T cb lo t ρ μ)) (fun ρ μ=>exs b ρ μ) W ρ μ
  | .for t it b,ρ,μ=>(ev T cb lo it ρ μ).bind fun p=>(iterV lo p.2 p.1).bind fun items=>forM (fun x ρ μ=>(bindT ρ x t).bind fun ρ'=>exs b ρ' μ) items ρ p.2
  | .forE t it b,ρ,μ=>(ev T cb lo it ρ μ).bind fun p=>(tupOf p.1).bind fun items=>forM (fun x ρ μ=>(bindT ρ x t).bind fun ρ'=>exs b ρ' μ) (enumFrom 0 items) ρ p.2
  | .stop,_,_=>none
noncomputable def exs:List S→Rho→M→Res
  | [],ρ,μ=>some (.next,ρ,μ)
  | s::r,ρ,μ=>(ex s ρ μ).bind fun p=>match p.1 with
    | .next=>exs r p.2.1 p.2.2
    | .brk=>some (.brk,p.2)
    | .ret v=>some (.ret v,p.2)
end
end
noncomputable def frz (lo:Nat) (μ:M):Nat→V→Option V
  | 0,_=>none
  | f + 1,v=>match v with
    | .tup vs=>(vs.mapM (frz lo μ f)).map .tup
    | .lst vs=>(vs.mapM (frz lo μ f)).map .lst
    | .dct _=>none
    | .obj n=>if n<lo then some v else (μ[n]?).bind fun m=>(lst? m).bind fun vs=>(vs.mapM (frz lo μ f)).map .lst
    | v=>some v
noncomputable def params0 (ps:List Str) (args:List V):Rho:=(ps.zip args).foldl (fun r p=>upd r p.1 p.2) fun _=>none
noncomputable def flowV:Fl→Option V
  | .next=>some .none
  | .brk=>none
  | .ret v=>some v
noncomputable def callF (T:Tab) (W:Nat):Nat→Calls
  | 0=>fun _ _ _ _ _=>none
  | n + 1=>fun q raw lo args μ=>(T.fns q).bind fun fn=>
    if fn.params.length=args.length then
      (exs T (callF T W n) (if fn.pure && !raw then μ.length else lo) W q fn.body (params0 fn.params args) μ).bind fun r=>(flowV r.1).bind fun v=>if fn.pure && !raw then (frz μ.length r.2.2 8 v).map (·,μ) else some (v,r.2.2)
    else none
end Mine
namespace Mine
open PySem
noncomputable def isVar (sc:Scope) (x:Str):Bool:=x != Str.ofString "__class__" && match sc.names.lookup x with
  | some .local=>true
  | some .cell=>true
  | some .free=>true
  | _=>false
noncomputable def isGlob (sc:Scope) (x:Str):Bool:=sc.names.lookup x == some .globalImplicit
noncomputable def isOwn (sc:Scope) (x:Str):Bool:=x != Str.ofString "__class__" && match sc.names.lookup x with
  | some .local=>true
  | some .cell=>true
  | _=>false
inductive View where
  | name (x:Str) (p:Pos)
  | tuple (es:List Expr) (n:Nat) (p:Pos)
  | list (es:List Expr) (p:Pos)
  | call (c:Expr×List Expr×List Keyword×Pos)
  | attr (a:Expr×Str×Pos)
  | sub (c:Expr×Expr) (p:Pos)
  | slice (c:Option Expr×Option Expr) (st:Option Expr) (p:Pos)
  | const (c:Const) (k:Nat) (p:Pos)
  | star
  | other
noncomputable def view:Expr→View
  | .Name x p=>.name x p
  | .Tuple es n p=>.tuple es n p
  | .List es p=>.list es p
  | .Call f args ks pos=>.call (f,args,ks,pos)
  | .Attribute o n pos=>.attr (o,n,pos)
  | .Subscript o i p=>.sub (o,i) p
  | .Slice l u st p=>.slice (l,u) st p
  | .Constant c k p=>.const c k p
  | .Starred _ _=>.star
  | _=>.other
noncomputable def View.name?:View→Option Str
  | .name x _=>some x
  | _=>none
noncomputable def View.tuple?:View→Option (List Expr)
  | .tuple es _ _=>some es
  | _=>none
noncomputable def View.list?:View→Option (List Expr)
  | .list es _=>some es
  | _=>none
noncomputable def View.call?:View→Option (Expr×List Expr×List Keyword×Pos)
  | .call c=>some c
  | _=>none
noncomputable def View.attr?:View→Option (Expr×Str×Pos)
  | .attr a=>some a
  | _=>none
noncomputable def View.sub?:View→Option (Expr×Expr)
  | .sub c _=>some c
  | _=>none
noncomputable def View.slice?:View→Option (Option Expr×Option Expr)
  | .slice c st _=>if st.isNone then some c else none
  | _=>none
noncomputable def View.const?:View→Option Const
  | .const c _ _=>some c
  | _=>none
noncomputable def View.isSl:View→Bool
  | .slice _ _ _=>true
  | _=>false
noncomputable def View.isStar:View→Bool
  | .star=>true
  | _=>false
noncomputable def nameOf (e:Expr):Option Str:=(view e).name?
noncomputable def tupleOf (e:Expr):Option (List Expr):=(view e).tuple?
noncomputable def listOf (e:Expr):Option (List Expr):=(view e).list?
noncomputable def callOf (e:Expr):Option (Expr×List Expr×List Keyword×Pos):=(view e).call?
noncomputable def attrOf (e:Expr):Option (Expr×Str×Pos):=(view e).attr?
noncomputable def subOf (e:Expr):Option (Expr×Expr):=(view e).sub?
noncomputable def sliceOf (e:Expr):Option (Option Expr×Option Expr):=(view e).slice?
noncomputable def isSl (e:Expr):Bool:=(view e).isSl
noncomputable def isStar (e:Expr):Bool:=(view e).isStar
noncomputable def strK:Const→Option Str
  | .str x=>some x
  | _=>none
noncomputable def boolK:Const→Option Bool
  | .bool b=>some b
  | _=>none
noncomputable def isTrueE (e:Expr):Bool:=((view e).const?.bind boolK) == some true
noncomputable def strConst (e:Expr):Option Str:=(view e).const?.bind strK
noncomputable def tgtNames (sc:Scope):List Expr→Option (List Str)
  | []=>some []
  | e::r=>(nameOf e).bind fun x=>if isOwn sc x then (tgtNames sc r).map (x::·) else none
noncomputable def compT (sc:Scope) (e:Expr):Option Tgt:=match nameOf e with
  | some x=>if isOwn sc x then some (.one x) else none
  | none=>(tupleOf e).bind fun es=>(tgtNames sc es).bind fun xs=>if xs.Nodup∧xs.length≤100 then some (.many xs) else none
noncomputable def isClo (sc:Scope) (x:Str):Bool:=x != Str.ofString "__class__" && match sc.names.lookup x with
  | some .cell=>true
  | some .free=>true
  | _=>false
noncomputable def compSc (sc csc:Scope):Bool:=csc.kind == .function && decide (csc.names.map (·.1)).Nodup && (csc.names.all fun p=>p.1 != Str.ofString "__class__") && csc.names.all fun p=>p.2 != .free || isClo sc p.1
noncomputable def tgtNs:Tgt→List Str
  | .one x=>[x]
  | .many xs=>xs
noncomputable def apartT (t t':Tgt):Bool:=(tgtNs t).all fun x=>!(tgtNs t').contains x
noncomputable def hideOf (csc:Scope):List Str:=(csc.names.filter fun p=>p.2 == .local || p.2 == .cell).map (·.1)
noncomputable def strKeys:List (Option Expr)→Option (List Str)
  | []=>some []
  | e::r=>(e.bind strConst).bind fun x=>(strKeys r).map (x::·)
noncomputable def rawAt (f:Str) (line:Nat):Bool:=f == Str.ofString "_law_lots" && line == 293
noncomputable def isSuperCall (e:Expr):Bool:=((callOf e).bind fun c=>if c.2.1.isEmpty && c.2.2.1.isEmpty then nameOf c.1 else none) == some (Str.ofString "super")
noncomputable def unC (a:C):UnaryOp→Option C
  | .USub=>some (.neg a)
  | .Not=>some (.not a)
  | _=>none
noncomputable def boC (cs:List C):BoolOp→C
  | .And=>.and cs
  | .Or=>.or cs
noncomputable def cmpC (a:C) (ops:List CmpOp) (cs:List C):Option C:=match one? ops with
  | some op=>(one? cs).map fun b=>.cmp op a b
  | none=>(two? ops).bind fun o=>(two? cs).map fun b=>.chain a o.1 b.1 o.2 b.2
mutual
noncomputable def compE (sc:Scope):Expr→Option C
  | .Constant c _ _=>(constV c).map fun _=>.const c
  | .Name x _=>if x == Str.ofString "__debug__" || x == Str.ofString "__classdict__" then none else if isVar sc x then some (.var x) else if isGlob sc x then some (.glob x) else none
  | .BinOp l op r _=>(compE sc l).bind fun a=>(compE sc r).map fun b=>.bin op a b
  | .UnaryOp op x _=>(compE sc x).bind fun a=>unC a op
  | .BoolOp op vs _=>(compEs sc vs).bind fun cs=>if cs.isEmpty then none else some (boC cs op)
  | .IfExp t a b _=>(compE sc t).bind fun t=>(compE sc a).bind fun a=>(compE sc b).map fun b=>.ite t a b
  | .Tuple es _ _=>if es.length≤100 then (compEs sc es).map .tup else none
  | .List es _=>if es.length≤100 then (compEs sc es).map (.list false) else none
  | .Dict ks vs _=>(strKeys ks).bind fun ks=>(compEs sc vs).bind fun cs=>if ks.length=cs.length∧ks.Nodup∧ks.length≤15 then some (.dict ks cs) else none
  | .Compare l ops rs _=>if lastMarks ops rs then none else (compE sc l).bind fun a=>(compEs sc rs).bind fun cs=>cmpC a ops cs
  | .Attribute o n _=>if isSuperCall o then none else (compE sc o).map (.attr · n)
  | .Subscript o i _=>(compE sc o).bind fun a=>match i with
    | .Slice l u st _=>if st.isNone then (compOpt sc l).bind fun l=>(compOpt sc u).map fun u=>.slice false a l u else none
    | i=>(compE sc i).map fun i=>.idx a i
  | .Call f args ks pos=>match f with
    | .Name f _=>if f == Str.ofString "__debug__" || !ks.isEmpty || !isGlob sc f then none else (compEs sc args).map fun cs=>.call f (rawAt f pos.line) cs
    | .Attribute o n apos=>if isSuperCall o || apos.endLine != pos.line || decide (30≤args.length) || !ks.isEmpty then none else (compE sc o).bind fun a=>(compEs sc args).map fun cs=>.meth a n cs
    | _=>none
  | .ListComp elt gens csc _=>if !compSc sc csc then none else match gens with
    | [⟨t,it,ifs,n⟩]=>if n != 0 then none else (compE sc it).bind fun it=>(compT csc t).bind fun t=>(compEs csc ifs).bind fun ifs=>(compE csc elt).map fun elt=>.comp (hideOf csc) elt t it ifs
    | [⟨t,it,ifs,n⟩,⟨t',it',ifs',n'⟩]=>if n != 0 || n' != 0 || !ifs.isEmpty then none else (compE sc it).bind fun it=>(compT csc t).bind fun t=>(compE csc it').bind fun it'=>(compT csc t').bind fun t'=>(compEs csc ifs').bind fun ifs=>(compE csc elt).bind fun elt=>
        if apartT t t' then some (.comp2 (hideOf csc) elt t it t' it' ifs) else none
    | _=>none
  | .DictComp key v gens csc _=>if !compSc sc csc || !isTrueE v then none else match gens with
    | [⟨t,it,ifs,n⟩]=>if n != 0 || !ifs.isEmpty then none else (compE sc it).bind fun it=>(compT csc t).bind fun t=>(compE csc key).map fun key=>.dcomp (hideOf csc) key t it
    | _=>none
  | _=>none
noncomputable def compEs (sc:Scope):List Expr→Option (List C)
  | []=>some []
  | e::r=>if isStar e then none else (compE sc e).bind fun c=>(compEs sc r).map (c::·)
noncomputable def compOpt (sc:Scope):Option Expr→Option (Option C)
  | none=>some none
  | some e=>(compE sc e).map some
end
noncomputable def compV (sc:Scope) (e:Expr):Option C:=match listOf e with
  | some es=>if es.length≤100 then (compEs sc es).map (.list true) else none
  | none=>compE sc e
noncomputable def compVs (sc:Scope):List Expr→Option (List C)
  | []=>some []
  | e::r=>if isStar e then none else (compV sc e).bind fun c=>(compVs sc r).map (c::·)
noncomputable def compTop (sc:Scope) (e:Expr):Option C:=match tupleOf e with
  | some es=>if es.length≤100 then (compVs sc es).map .tup else none
  | none=>match (subOf e).bind fun p=>(sliceOf p.2).map fun q=>(p.1,q) with
    | some p=>(compE sc p.1).bind fun a=>(compOpt sc p.2.1).bind fun l=>(compOpt sc p.2.2).map fun u=>.slice true a l u
    | none=>compV sc e
noncomputable def supArgs (sc:Scope) (e:Expr):Option (List Expr):=(callOf e).bind fun c=>(attrOf c.1).bind fun a=>
  if isSuperCall a.1 && a.2.2.endLine == c.2.2.2.line && c.2.2.1.isEmpty && decide (c.2.1.length<30) && a.2.1 == Str.ofString "__init__" && isGlob sc "super" && (sc.names.lookup (Str.ofString "__class__") == some .free) then some c.2.1 else none
noncomputable def oddTuple:Expr→Bool
  | .Tuple vs _ _=>vs.all (constantsAlone 8) && !vs.all (foldedForSure 8)
  | _=>false
noncomputable def isComp:Expr→Bool
  | .ListComp .. | .SetComp .. | .DictComp ..=>true
  | _=>false
noncomputable def enumArg (sc:Scope) (e:Expr):Option Expr:=(callOf e).bind fun c=>(nameOf c.1).bind fun s=>(one? c.2.1).bind fun it=>if s == Str.ofString "enumerate" && isGlob sc s && c.2.2.1.isEmpty then some it else none
noncomputable def isMany:Tgt→Bool
  | .many _=>true
  | _=>false
noncomputable def asgC (sc:Scope) (t v:Expr):Option S:=match attrOf t with
  | some p=>(compE sc p.1).bind fun o=>(compTop sc v).map fun c=>.setAttr o p.2.1 c
  | none=>match subOf t with
    | some p=>if isSl p.2 then none else (compE sc p.1).bind fun o=>(compE sc p.2).bind fun i=>(compE sc v).map fun c=>.setIdx o i c
    | none=>if oddTuple v then none else (compT sc t).bind fun t=>(compTop sc v).map fun c=>.assign t c
mutual
noncomputable def compS (sc:Scope):Stmt→Option S
  | .Expr e _=>if isComp e then none else (compE sc e).map .expr
  | .Return v _=>match v with
    | none=>some (.ret (.const .none))
    | some e=>(compV sc e).map .ret
  | .Assign ts v _=>(one? ts).bind fun t=>asgC sc t v
  | .If t a b _=>(compE sc t).bind fun t=>(compSs sc a).bind fun a=>(compSs sc b).map fun b=>.ite t a b
  | .While t b e _=>if e.isEmpty then (compE sc t).bind fun t=>(compSs sc b).map fun b=>.while t b else none
  | .For t it b e _=>if e.isEmpty then (compT sc t).bind fun t=>(compSs sc b).bind fun b=>match enumArg sc it with
      | some it=>if isMany t then (compE sc it).map fun it=>.forE t it b else none
      | none=>(compE sc it).map fun it=>.for t it b
    else none
  | .Break _=>some .brk
  | .Raise ..=>some .stop
  | _=>none
noncomputable def compSs (sc:Scope):List Stmt→Option (List S)
  | []=>some []
  | s::r=>(compS sc s).bind fun c=>(compSs sc r).map (c::·)
end
noncomputable def compBody (sc:Scope):List Stmt→Option (List S)
  | .Expr e p::r=>(match supArgs sc e with
    | some args=>(compEs sc args).bind fun cs=>(compSs sc r).map (.sup cs::·)
    | none=>compSs sc (.Expr e p::r))
  | b=>compSs sc b
section
open PySem.W PySem.Calls PyProof.Rows
noncomputable def freeIn (K:Frag) (C:Addr) (x:Str):Bool:=findIn K (.ref C) x == some none && takerIn K C x == some none
end
end Mine
namespace Mine
open PySem
noncomputable def b_least:List S:=[.ret (.idx (.idx (.var "d") (.const (.int 0))) (.const (.int 0)))]
noncomputable def b_greatest:List S:=[.ret (.idx (.idx (.var "d") (.neg (.const (.int 1)))) (.const (.int 1)))]
noncomputable def b_size:List S:=[.ret (.call "sum" false [(.comp [".0", "low", "high"] (.bin .Add (.bin .Sub (.var "high") (.var "low")) (.const (.int 1))) (.many ["low", "high"]) (.var "d") [])])]
noncomputable def b_next_from_1:List S:=[.ite (.cmp .LtE (.var "v") (.var "high")) [.ret (.call "max" false [(.var "low"),(.var "v")])] []]
noncomputable def b_next_from:List S:=[.for (.many ["low", "high"]) (.var "d") b_next_from_1,.ret (.const .none)]
noncomputable def b_has:List S:=[.ret (.cmp .Eq (.call "next_from" false [(.var "d"),(.var "v")]) (.var "v"))]
noncomputable def b_values_1:List S:=[.expr (.meth (.var "found") "extend" [(.call "range" false [(.var "low"),(.bin .Add (.var "high") (.const (.int 1)))])])]
noncomputable def b_values:List S:=[.ite (.and [(.cmp .NotEq (.var "d") (.tup [])),(.cmp .GtE (.bin .Sub (.idx (.idx (.var "d") (.neg (.const (.int 1)))) (.const (.int 1))) (.idx (.idx (.var "d") (.const (.int 0))) (.const (.int 0)))) (.glob "MOST_LISTED")),(.cmp .Gt (.call "size_domains" false [(.var "d")]) (.glob "MOST_LISTED"))]) [.stop] [],.assign (.one "found") (.list true []),.for (.many ["low", "high"]) (.var "d") b_values_1,.ret (.var "found")]
noncomputable def b_up_to:List S:=[.ret (.call "tuple" false [(.comp [".0", "low", "high"] (.tup [(.var "low"),(.call "min" false [(.var "high"),(.var "k")])]) (.many ["low", "high"]) (.var "d") [(.cmp .LtE (.var "low") (.var "k"))])])]
noncomputable def b_from_on:List S:=[.ret (.call "tuple" false [(.comp [".0", "low", "high"] (.tup [(.call "max" false [(.var "low"),(.var "k")]),(.var "high")]) (.many ["low", "high"]) (.var "d") [(.cmp .GtE (.var "high") (.var "k"))])])]
noncomputable def b_without:List S:=[.ret (.bin .Add (.call "up_to" false [(.var "d"),(.bin .Sub (.var "v") (.const (.int 1)))]) (.call "from_on" false [(.var "d"),(.bin .Add (.var "v") (.const (.int 1)))]))]
noncomputable def b_meet_1:List S:=[.assign (.many ["low", "high"]) (.tup [(.call "max" false [(.idx (.idx (.var "d") (.var "i")) (.const (.int 0))),(.idx (.idx (.var "e") (.var "j")) (.const (.int 0)))]),(.call "min" false [(.idx (.idx (.var "d") (.var "i")) (.const (.int 1))),(.idx (.idx (.var "e") (.var "j")) (.const (.int 1)))])]),.ite (.cmp .LtE (.var "low") (.var "high")) [.expr (.meth (.var "found") "append" [(.tup [(.var "low"),(.var "high")])])] [],.ite (.cmp .Lt (.idx (.idx (.var "d") (.var "i")) (.const (.int 1))) (.idx (.idx (.var "e") (.var "j")) (.const (.int 1)))) [.assign (.one "i") (.bin .Add (.var "i") (.const (.int 1)))] [.assign (.one "j") (.bin .Add (.var "j") (.const (.int 1)))]]
noncomputable def b_meet:List S:=[.assign (.many ["found", "i", "j"]) (.tup [(.list true []),(.const (.int 0)),(.const (.int 0))]),.while (.and [(.cmp .Lt (.var "i") (.call "len" false [(.var "d")])),(.cmp .Lt (.var "j") (.call "len" false [(.var "e")]))]) b_meet_1,.ret (.call "tuple" false [(.var "found")])]
noncomputable def b_negation:List S:=[.assign (.many ["x", "sign", "k"]) (.var "literal"),.ite (.cmp .Eq (.var "sign") (.const (.str "<="))) [.ret (.tup [(.var "x"),(.const (.str ">=")),(.bin .Add (.var "k") (.const (.int 1)))])] [],.ite (.cmp .Eq (.var "sign") (.const (.str ">="))) [.ret (.tup [(.var "x"),(.const (.str "<=")),(.bin .Sub (.var "k") (.const (.int 1)))])] [],.ret (.ite (.cmp .Eq (.var "sign") (.const (.str "="))) (.tup [(.var "x"),(.const (.str "!=")),(.var "k")]) (.tup [(.var "x"),(.const (.str "=")),(.var "k")]))]
noncomputable def b_struck:List S:=[.assign (.many ["sign", "k"]) (.tup [(.idx (.var "literal") (.const (.int 1))),(.idx (.var "literal") (.const (.int 2)))]),.ite (.cmp .Eq (.var "sign") (.const (.str "<="))) [.ret (.call "up_to" false [(.var "d"),(.var "k")])] [],.ite (.cmp .Eq (.var "sign") (.const (.str ">="))) [.ret (.call "from_on" false [(.var "d"),(.var "k")])] [],.ret (.ite (.cmp .Eq (.var "sign") (.const (.str "="))) (.call "meet" false [(.var "d"),(.tup [(.tup [(.var "k"),(.var "k")])])]) (.call "without" false [(.var "d"),(.var "k")]))]
noncomputable def b_Store__init_:List S:=[.setAttr (.var "self") "domains" (.list true []),.setAttr (.var "self") "firsts" (.list true []),.setAttr (.var "self") "trail" (.list true []),.setAttr (.var "self") "marks" (.list true []),.setAttr (.var "self") "news" (.dict [] []),.setAttr (.var "self") "speaker" (.neg (.const (.int 1))),.setAttr (.var "self") "is_failed" (.const (.bool false)),.setAttr (.var "self") "clash" (.tup [])]
noncomputable def b_Store_new_var:List S:=[.expr (.meth (.attr (.var "self") "domains") "append" [(.var "domain")]),.expr (.meth (.attr (.var "self") "firsts") "append" [(.var "domain")]),.ite (.cmp .Eq (.var "domain") (.tup [])) [.expr (.meth (.var "self") "fail" [(.tup [])])] [],.ret (.bin .Sub (.call "len" false [(.attr (.var "self") "domains")]) (.const (.int 1)))]
noncomputable def b_Store_dom:List S:=[.ret (.idx (.attr (.var "self") "domains") (.var "x"))]
noncomputable def b_Store_initial:List S:=[.ret (.idx (.attr (.var "self") "firsts") (.var "x"))]
noncomputable def b_Store_low:List S:=[.ret (.call "least" false [(.idx (.attr (.var "self") "domains") (.var "x"))])]
noncomputable def b_Store_high:List S:=[.ret (.call "greatest" false [(.idx (.attr (.var "self") "domains") (.var "x"))])]
noncomputable def b_Store_width:List S:=[.ret (.call "size_domains" false [(.idx (.attr (.var "self") "domains") (.var "x"))])]
noncomputable def b_Store_enter:List S:=[.assign (.one "x") (.idx (.var "literal") (.const (.int 0))),.assign (.one "old") (.idx (.attr (.var "self") "domains") (.var "x")),.assign (.one "fresh") (.call "struck" false [(.var "literal"),(.var "old")]),.ite (.cmp .Eq (.var "fresh") (.tup [])) [.ret (.meth (.var "self") "fail" [(.bin .Add (.ite (.cmp .Is (.var "reasons") (.const .none)) (.tup []) (.var "reasons")) (.tup [(.call "negation" false [(.var "literal")])]))])] [],.ite (.cmp .Eq (.var "fresh") (.var "old")) [.ret (.const (.bool true))] [],.expr (.meth (.attr (.var "self") "trail") "append" [(.tup [(.var "x"),(.var "old"),(.var "literal"),(.var "reasons"),(.var "speaker")])]),.setIdx (.attr (.var "self") "domains") (.var "x") (.var "fresh"),.setIdx (.attr (.var "self") "news") (.var "x") (.const (.bool true)),.ret (.const (.bool true))]
noncomputable def b_Store_strike:List S:=[.ret (.meth (.var "self") "enter" [(.var "literal"),(.call "tuple" false [(.var "reasons")]),(.attr (.var "self") "speaker")])]
noncomputable def b_Store_decide:List S:=[.ret (.meth (.var "self") "enter" [(.var "literal"),(.const .none),(.neg (.const (.int 1)))])]
noncomputable def b_Store_fail:List S:=[.setAttr (.var "self") "is_failed" (.const (.bool true)),.setAttr (.var "self") "clash" (.call "tuple" false [(.var "reasons")]),.ret (.const (.bool false))]
noncomputable def b_Store_push:List S:=[.expr (.meth (.attr (.var "self") "marks") "append" [(.call "len" false [(.attr (.var "self") "trail")])])]
noncomputable def b_Store_pop_1:List S:=[.assign (.one "entry") (.meth (.attr (.var "self") "trail") "pop" []),.setIdx (.attr (.var "self") "domains") (.idx (.var "entry") (.const (.int 0))) (.idx (.var "entry") (.const (.int 1)))]
noncomputable def b_Store_pop:List S:=[.ite (.cmp .Lt (.var "n") (.const (.int 1))) [.ret (.const .none)] [],.assign (.one "mark") (.idx (.attr (.var "self") "marks") (.bin .Sub (.call "len" false [(.attr (.var "self") "marks")]) (.var "n"))),.setAttr (.var "self") "marks" (.slice true (.attr (.var "self") "marks") none (some (.bin .Sub (.call "len" false [(.attr (.var "self") "marks")]) (.var "n")))),.while (.cmp .Gt (.call "len" false [(.attr (.var "self") "trail")]) (.var "mark")) b_Store_pop_1,.setAttr (.var "self") "news" (.dict [] []),.setAttr (.var "self") "is_failed" (.cmp .In (.tup []) (.attr (.var "self") "firsts")),.setAttr (.var "self") "clash" (.tup [])]
noncomputable def b_Store_depth:List S:=[.ret (.call "len" false [(.attr (.var "self") "marks")])]
noncomputable def b_Propagator__init_:List S:=[.setAttr (.var "self") "number" (.neg (.const (.int 1))),.setAttr (.var "self") "scope" (.call "tuple" false [(.var "scope")]),.setAttr (.var "self") "strength" (.var "strength")]
noncomputable def b_lacking:List S:=[.ite (.not (.call "has_domains" false [(.meth (.var "store") "initial" [(.var "x")]),(.var "v")])) [.ret (.list true [])] [],.ite (.cmp .Lt (.var "v") (.meth (.var "store") "low" [(.var "x")])) [.ret (.list true [(.tup [(.var "x"),(.const (.str ">=")),(.bin .Add (.var "v") (.const (.int 1)))])])] [],.ite (.cmp .Gt (.var "v") (.meth (.var "store") "high" [(.var "x")])) [.ret (.list true [(.tup [(.var "x"),(.const (.str "<=")),(.bin .Sub (.var "v") (.const (.int 1)))])])] [],.ret (.list true [(.tup [(.var "x"),(.const (.str "!=")),(.var "v")])])]
noncomputable def b_once_each:List S:=[.ret (.call "tuple" false [(.call "sorted" false [(.dcomp [".0", "literal"] (.var "literal") (.one "literal") (.var "literals"))])])]
noncomputable def b_between:List S:=[.ite (.cmp .Eq (.call "len" false [(.var "numbers")]) (.const (.int 0))) [.ret (.meth (.var "store") "fail" [(.tup [])])] [],.ret (.and [(.meth (.var "store") "strike" [(.tup [(.var "x"),(.const (.str ">=")),(.call "min" false [(.var "numbers")])]),(.tup [])]),(.meth (.var "store") "strike" [(.tup [(.var "x"),(.const (.str "<=")),(.call "max" false [(.var "numbers")])]),(.tup [])])])]
noncomputable def b_room:List S:=[.ret (.call "sum" false [(.comp [".0", "x"] (.meth (.var "store") "width" [(.var "x")]) (.one "x") (.var "scope") [])])]
noncomputable def b_ElementOf__init_:List S:=[.sup [(.tup [(.var "index"),(.var "z")]),(.const (.str "values"))],.setAttr (.var "self") "index" (.var "index"),.setAttr (.var "self") "numbers" (.call "tuple" false [(.var "numbers")]),.setAttr (.var "self") "z" (.var "z")]
noncomputable def b_ElementOf_propagate_1:List S:=[.assign (.one "many") (.call "room" false [(.var "store"),(.attr (.var "self") "scope")]),.ite (.or [(.not (.meth (.var "self") "strike_places" [(.var "store")])),(.not (.meth (.var "self") "strike_values" [(.var "store")]))]) [.ret (.const (.bool false))] []]
noncomputable def b_ElementOf_propagate:List S:=[.ite (.not (.call "between" false [(.var "store"),(.attr (.var "self") "z"),(.attr (.var "self") "numbers")])) [.ret (.const (.bool false))] [],.assign (.one "many") (.neg (.const (.int 1))),.while (.cmp .NotEq (.var "many") (.call "room" false [(.var "store"),(.attr (.var "self") "scope")])) b_ElementOf_propagate_1,.ret (.const (.bool true))]
noncomputable def b_ElementOf_strike_places_1:List S:=[.assign (.one "v") (.idx (.attr (.var "self") "numbers") (.bin .Sub (.var "i") (.const (.int 1)))),.ite (.and [(.not (.call "has_domains" false [(.meth (.var "store") "dom" [(.var "z")]),(.var "v")])),(.not (.meth (.var "store") "strike" [(.tup [(.var "index"),(.const (.str "!=")),(.var "i")]),(.call "once_each" false [(.call "lacking" false [(.var "store"),(.var "z"),(.var "v")])])]))]) [.ret (.const (.bool false))] []]
noncomputable def b_ElementOf_strike_places:List S:=[.assign (.many ["index", "z"]) (.tup [(.attr (.var "self") "index"),(.attr (.var "self") "z")]),.ite (.or [(.not (.meth (.var "store") "strike" [(.tup [(.var "index"),(.const (.str ">=")),(.const (.int 1))]),(.tup [])])),(.not (.meth (.var "store") "strike" [(.tup [(.var "index"),(.const (.str "<=")),(.call "len" false [(.attr (.var "self") "numbers")])]),(.tup [])]))]) [.ret (.const (.bool false))] [],.for (.one "i") (.call "values" false [(.meth (.var "store") "dom" [(.var "index")])]) b_ElementOf_strike_places_1,.ret (.const (.bool true))]
noncomputable def b_ElementOf_strike_values_1:List S:=[.ite (.and [(.cmp .NotIn (.var "v") (.var "kept")),(.not (.meth (.var "store") "strike" [(.tup [(.attr (.var "self") "z"),(.const (.str "!=")),(.var "v")]),(.meth (.var "self") "why_nowhere" [(.var "store"),(.var "v")])]))]) [.ret (.const (.bool false))] []]
noncomputable def b_ElementOf_strike_values:List S:=[.assign (.one "kept") (.dcomp [".0", "i"] (.idx (.attr (.var "self") "numbers") (.bin .Sub (.var "i") (.const (.int 1)))) (.one "i") (.call "values" false [(.meth (.var "store") "dom" [(.attr (.var "self") "index")])])),.for (.one "v") (.call "values" false [(.meth (.var "store") "dom" [(.attr (.var "self") "z")])]) b_ElementOf_strike_values_1,.ret (.const (.bool true))]
noncomputable def b_ElementOf_why_nowhere_1:List S:=[.ite (.cmp .Eq (.var "number") (.var "v")) [.expr (.meth (.var "found") "extend" [(.call "lacking" false [(.var "store"),(.attr (.var "self") "index"),(.bin .Add (.var "place") (.const (.int 1)))])])] []]
noncomputable def b_ElementOf_why_nowhere:List S:=[.assign (.one "found") (.list true []),.forE (.many ["place", "number"]) (.attr (.var "self") "numbers") b_ElementOf_why_nowhere_1,.ret (.call "once_each" false [(.var "found")])]
noncomputable def b__law_far:List S:=[.ret (.bin .Pow (.const (.int 10)) (.const (.int 40)))]
noncomputable def b__law_draw:List S:=[.assign (.one "at") (.idx (.var "rig") (.const (.str "at"))),.setIdx (.var "rig") (.const (.str "at")) (.bin .Add (.var "at") (.const (.int 1))),.ite (.cmp .Lt (.var "at") (.call "len" false [(.idx (.var "rig") (.const (.str "cells")))])) [.ret (.bin .Mod (.idx (.idx (.var "rig") (.const (.str "cells"))) (.var "at")) (.var "many"))] [],.ret (.bin .Mod (.bin .Mod (.bin .Add (.bin .Add (.bin .Add (.bin .Mult (.bin .Mult (.const (.int 7)) (.var "at")) (.var "at")) (.bin .Mult (.const (.int 5)) (.var "at"))) (.bin .Mult (.const (.int 3)) (.call "len" false [(.idx (.var "rig") (.const (.str "cells")))]))) (.const (.int 2))) (.const (.int 101))) (.var "many"))]
noncomputable def b__law_merged_1:List S:=[.ite (.and [(.cmp .NotEq (.var "found") (.list false [])),(.cmp .LtE (.var "first") (.bin .Add (.idx (.idx (.var "found") (.neg (.const (.int 1)))) (.const (.int 1))) (.const (.int 1))))]) [.setIdx (.var "found") (.neg (.const (.int 1))) (.tup [(.idx (.idx (.var "found") (.neg (.const (.int 1)))) (.const (.int 0))),(.call "max" false [(.var "last"),(.idx (.idx (.var "found") (.neg (.const (.int 1)))) (.const (.int 1)))])])] [.expr (.meth (.var "found") "append" [(.tup [(.var "first"),(.var "last")])])]]
noncomputable def b__law_merged:List S:=[.assign (.one "found") (.list true []),.for (.many ["first", "last"]) (.call "sorted" false [(.var "ranges")]) b__law_merged_1,.ret (.var "found")]
noncomputable def b__law_cut:List S:=[.assign (.many ["sign", "k"]) (.tup [(.idx (.var "literal") (.const (.int 1))),(.idx (.var "literal") (.const (.int 2)))]),.assign (.one "windows") (.list true [(.tup [(.ite (.cmp .In (.var "sign") (.tup [(.const (.str "<=")),(.const (.str "!="))])) (.bin .Sub (.const (.int 0)) (.call "_law_far" false [])) (.var "k")),(.ite (.cmp .Eq (.var "sign") (.const (.str ">="))) (.call "_law_far" false []) (.ite (.cmp .Eq (.var "sign") (.const (.str "!="))) (.bin .Sub (.var "k") (.const (.int 1))) (.var "k")))])]),.assign (.one "windows") (.bin .Add (.var "windows") (.ite (.cmp .Eq (.var "sign") (.const (.str "!="))) (.list false [(.tup [(.bin .Add (.var "k") (.const (.int 1))),(.call "_law_far" false [])])]) (.list false []))),.ret (.call "sorted" false [(.comp2 [".0", "a", "b", "c", "d"] (.tup [(.call "max" false [(.var "a"),(.var "c")]),(.call "min" false [(.var "b"),(.var "d")])]) (.many ["a", "b"]) (.var "ranges") (.many ["c", "d"]) (.var "windows") [(.cmp .LtE (.call "max" false [(.var "a"),(.var "c")]) (.call "min" false [(.var "b"),(.var "d")]))])])]
noncomputable def b__law_has:List S:=[.ret (.cmp .NotEq (.comp [".0", "first", "last"] (.const (.int 1)) (.many ["first", "last"]) (.var "ranges") [(.chain (.var "first") .LtE (.var "v") .LtE (.var "last"))]) (.list false []))]
noncomputable def b__law_hold:List S:=[.ret (.cmp .Eq (.comp [".0", "one"] (.var "one") (.one "one") (.var "some") [(.cmp .NotEq (.call "_law_cut" false [(.idx (.var "lots") (.idx (.var "one") (.const (.int 0)))),(.var "one")]) (.idx (.var "lots") (.idx (.var "one") (.const (.int 0)))))]) (.list false []))]
noncomputable def b__law_comes_back_1:List S:=[.assign (.one "w") (.idx (.var "row") (.bin .Sub (.var "w") (.const (.int 1)))),.ite (.or [(.cmp .Eq (.var "w") (.var "v")),(.cmp .NotIn (.var "w") (.var "some"))]) [.ret (.cmp .Eq (.var "w") (.var "v"))] []]
noncomputable def b__law_comes_back:List S:=[.assign (.one "w") (.var "v"),.for (.one "lap") (.var "row") b__law_comes_back_1,.ret (.const (.bool false))]
noncomputable def b__law_due:List S:=[.assign (.one "places") (.comp [".0", "k"] (.bin .Add (.var "k") (.const (.int 1))) (.one "k") (.call "range" false [(.call "len" false [(.var "row")])]) [(.call "_law_has" false [(.idx (.var "lots") (.var "x")),(.bin .Add (.var "k") (.const (.int 1)))])]),.ite (.cmp .Eq (.var "x") (.var "z")) [.assign (.one "kept") (.call "_law_merged" false [(.comp [".0", "v"] (.tup [(.var "v"),(.var "v")]) (.one "v") (.var "places") [(.call "_law_comes_back" false [(.var "row"),(.var "places"),(.var "v")])])]),.ret (.tup [(.var "kept"),(.var "kept")])] [],.assign (.one "places") (.comp [".0", "k"] (.var "k") (.one "k") (.var "places") [(.call "_law_has" false [(.idx (.var "lots") (.var "z")),(.idx (.var "row") (.bin .Sub (.var "k") (.const (.int 1))))])]),.ret (.tup [(.call "_law_merged" false [(.comp [".0", "k"] (.tup [(.var "k"),(.var "k")]) (.one "k") (.var "places") [])]),(.call "_law_merged" false [(.comp [".0", "k"] (.tup [(.idx (.var "row") (.bin .Sub (.var "k") (.const (.int 1)))),(.idx (.var "row") (.bin .Sub (.var "k") (.const (.int 1))))]) (.one "k") (.var "places") [])])])]
noncomputable def b__law_kept:List S:=[.ret (.comp [".0", "pair"] (.var "pair") (.one "pair") (.var "pairs") [(.cmp .Eq (.comp [".0", "one"] (.var "one") (.one "one") (.var "some") [(.cmp .Eq (.call "_law_cut" false [(.list false [(.bin .Mult (.tup [(.idx (.var "pair") (.ite (.cmp .Eq (.idx (.var "one") (.const (.int 0))) (.var "x")) (.const (.int 0)) (.const (.int 1))))]) (.const (.int 2)))]),(.var "one")]) (.list false []))]) (.list false []))])]
noncomputable def b__law_lots:List S:=[.ret (.list true [(.call "list" false [(.meth (.var "desk") "dom" [(.const (.int 0))])]),(.call "list" false [(.meth (.var "desk") "dom" [(.const (.int 1))])])])]
noncomputable def b__law_run_1:List S:=[.assign (.many ["left", "some"]) (.tup [(.call "_law_cut" false [(.idx (.var "lots") (.var "y")),(.var "literal")]),(.call "list" false [(.var "reasons")])]),.ite (.or [(.cmp .NotEq (.idx (.var "literal") (.const (.int 0))) (.var "y")),(.cmp .NotEq (.call "tuple" false [(.idx (.var "lots") (.var "y"))]) (.var "old")),(.cmp .Eq (.var "left") (.list false [])),(.cmp .Eq (.var "left") (.idx (.var "lots") (.var "y"))),(.not (.call "_law_hold" false [(.var "lots"),(.var "some")]))]) [.ret (.const .none)] [],.ite (.cmp .NotEq (.call "_law_kept" false [(.var "pairs"),(.var "some"),(.var "x")]) (.call "_law_kept" false [(.var "pairs"),(.bin .Add (.var "some") (.list false [(.var "literal")])),(.var "x")])) [.ret (.const .none)] [],.setIdx (.var "lots") (.var "y") (.var "left")]
noncomputable def b__law_run:List S:=[.assign (.many ["lots", "mark"]) (.tup [(.call "_law_lots" true [(.var "desk")]),(.call "len" false [(.attr (.var "desk") "trail")])]),.assign (.many ["due", "stands"]) (.tup [(.call "_law_due" false [(.var "row"),(.var "lots"),(.var "x"),(.var "z")]),(.meth (.var "rule") "propagate" [(.var "desk")])]),.for (.many ["y", "old", "literal", "reasons", "speaker"]) (.slice false (.attr (.var "desk") "trail") (some (.var "mark")) none) b__law_run_1,.ite (.or [(.cmp .NotEq (.var "lots") (.call "_law_lots" false [(.var "desk")])),(.cmp .Eq (.var "stands") (.attr (.var "desk") "is_failed")),(.cmp .NotEq (.var "stands") (.cmp .NotIn (.list false []) (.var "due")))]) [.ret (.const .none)] [],.ite (.not (.var "stands")) [.ret (.ite (.and [(.call "_law_hold" false [(.var "lots"),(.attr (.var "desk") "clash")]),(.cmp .Eq (.call "_law_kept" false [(.var "pairs"),(.attr (.var "desk") "clash"),(.var "x")]) (.list false []))]) (.const (.bool false)) (.const .none))] [],.assign (.one "mark") (.call "len" false [(.attr (.var "desk") "trail")]),.ret (.ite (.and [(.cmp .Eq (.tup [(.idx (.var "lots") (.var "x")),(.idx (.var "lots") (.var "z"))]) (.var "due")),(.meth (.var "rule") "propagate" [(.var "desk")]),(.cmp .Eq (.call "len" false [(.attr (.var "desk") "trail")]) (.var "mark"))]) (.const (.bool true)) (.const .none))]
noncomputable def b__law_lot:List S:=[.assign (.one "some") (.comp [".0", "v"] (.tup [(.var "v"),(.var "v")]) (.one "v") (.var "spots") [(.cmp .Lt (.call "_law_draw" false [(.var "rig"),(.const (.int 4))]) (.const (.int 3)))]),.assign (.one "way") (.call "_law_draw" false [(.var "rig"),(.const (.int 4))]),.assign (.one "some") (.ite (.cmp .NotEq (.var "some") (.list false [])) (.var "some") (.list false [(.tup [(.idx (.var "spots") (.const (.int 0))),(.idx (.var "spots") (.const (.int 0)))])])),.ret (.call "_law_merged" false [(.bin .Add (.bin .Add (.var "some") (.ite (.cmp .Eq (.bin .Mod (.var "way") (.const (.int 2))) (.const (.int 1))) (.list false [(.var "low")]) (.list false []))) (.ite (.cmp .Gt (.var "way") (.const (.int 1))) (.list false [(.var "high")]) (.list false [])))])]
noncomputable def b_law_1:List S:=[.assign (.many ["way", "v"]) (.tup [(.call "_law_draw" false [(.var "rig"),(.const (.int 8))]),(.call "_law_draw" false [(.var "rig"),(.const (.int 5))])]),.expr (.meth (.var "row") "append" [(.ite (.and [(.cmp .Eq (.var "x") (.var "z")),(.cmp .Lt (.var "way") (.const (.int 7)))]) (.bin .Add (.const (.int 1)) (.bin .Mod (.var "v") (.var "many"))) (.ite (.cmp .Lt (.var "way") (.const (.int 5))) (.var "v") (.bin .Add (.var "base") (.var "v"))))])]
noncomputable def b_law_2:List S:=[.expr (.meth (.var "desk") "new_var" [(.call "tuple" false [(.ite (.cmp .Eq (.var "y") (.var "x")) (.var "index") (.var "last"))])])]
noncomputable def b_law_3:List S:=[.expr (.meth (.var "desk") "push" []),.assign (.one "stands") (.const (.bool true)),.ite (.cmp .Gt (.var "lap") (.const (.int 0))) [.assign (.many ["spot", "y"]) (.tup [(.bin .Add (.const (.int 1)) (.call "_law_draw" false [(.var "rig"),(.bin .Add (.var "many") (.const (.int 1)))])),(.idx (.tup [(.var "x"),(.var "z")]) (.call "_law_draw" false [(.var "rig"),(.const (.int 2))]))]),.assign (.one "k") (.ite (.cmp .Eq (.var "y") (.var "x")) (.var "spot") (.bin .Sub (.bin .Add (.idx (.var "row") (.bin .Mod (.var "spot") (.var "many"))) (.call "_law_draw" false [(.var "rig"),(.const (.int 3))])) (.const (.int 1)))),.assign (.one "stands") (.meth (.var "desk") "decide" [(.tup [(.var "y"),(.idx (.tup [(.const (.str "!=")),(.const (.str "<=")),(.const (.str ">=")),(.const (.str "="))]) (.call "_law_draw" false [(.var "rig"),(.const (.int 4))])),(.var "k")])])] [],.ite (.var "stands") [.assign (.one "stands") (.call "_law_run" false [(.var "rule"),(.var "desk"),(.var "row"),(.var "x"),(.var "z"),(.var "pairs")]),.ite (.cmp .Is (.var "stands") (.const .none)) [.ret (.const (.bool false))] []] [],.ite (.var "stands") [.expr (.meth (.var "kept") "append" [(.call "_law_lots" false [(.var "desk")])])] [.expr (.meth (.var "desk") "pop" [(.const (.int 1))]),.ite (.or [(.attr (.var "desk") "is_failed"),(.and [(.cmp .Gt (.var "lap") (.const (.int 0))),(.cmp .NotEq (.call "_law_lots" false [(.var "desk")]) (.idx (.var "kept") (.neg (.const (.int 1)))))])]) [.ret (.const (.bool false))] [],.ite (.cmp .Eq (.var "lap") (.const (.int 0))) [.brk] []]]
noncomputable def b_law:List S:=[.assign (.one "built") (.list true [(.const (.int 2)),(.const (.int 0)),(.const (.int 0)),(.const (.int 0)),(.const (.int 0)),(.const (.int 0)),(.const (.int 0)),(.const (.int 0)),(.const (.int 0)),(.const (.int 0)),(.const (.int 0)),(.const (.int 0)),(.const (.int 0)),(.const (.int 0))]),.assign (.many ["rig", "desk"]) (.tup [(.dict ["cells", "at"] [(.ite (.cmp .Gt (.call "len" false [(.var "script")]) (.const (.int 0))) (.call "list" false [(.slice false (.var "script") none (some (.const (.int 60))))]) (.var "built")),(.const (.int 0))]),(.call "Store" false [])]),.assign (.many ["many", "turn", "base"]) (.tup [(.call "_law_draw" false [(.var "rig"),(.const (.int 6))]),(.call "_law_draw" false [(.var "rig"),(.const (.int 3))]),(.bin .Pow (.const (.int 10)) (.const (.int 20)))]),.assign (.many ["x", "z"]) (.idx (.tup [(.tup [(.const (.int 0)),(.const (.int 1))]),(.tup [(.const (.int 1)),(.const (.int 0))]),(.tup [(.const (.int 0)),(.const (.int 0))])]) (.var "turn")),.assign (.one "row") (.list true []),.for (.one "k") (.call "range" false [(.var "many")]) b_law_1,.assign (.one "index") (.call "_law_lot" false [(.var "rig"),(.call "list" false [(.call "range" false [(.bin .Add (.var "many") (.const (.int 2)))])]),(.tup [(.bin .Sub (.const (.int 0)) (.var "base")),(.neg (.const (.int 2)))]),(.tup [(.bin .Add (.var "many") (.const (.int 1))),(.var "base")])]),.assign (.one "last") (.call "_law_lot" false [(.var "rig"),(.bin .Add (.call "list" false [(.call "range" false [(.neg (.const (.int 1))),(.const (.int 6))])]) (.list false [(.var "base"),(.bin .Add (.var "base") (.const (.int 1))),(.bin .Add (.var "base") (.const (.int 2))),(.bin .Add (.var "base") (.const (.int 4)))])),(.tup [(.bin .Sub (.const (.int 0)) (.bin .Pow (.const (.int 10)) (.const (.int 30)))),(.neg (.const (.int 2)))]),(.tup [(.bin .Add (.var "base") (.const (.int 6))),(.bin .Pow (.const (.int 10)) (.const (.int 30)))])]),.for (.one "y") (.call "range" false [(.const (.int 2))]) b_law_2,.assign (.one "pairs") (.comp [".0", "k"] (.tup [(.bin .Add (.var "k") (.const (.int 1))),(.idx (.var "row") (.var "k"))]) (.one "k") (.call "range" false [(.var "many")]) [(.and [(.call "_law_has" false [(.var "index"),(.bin .Add (.var "k") (.const (.int 1)))]),(.call "_law_has" false [(.ite (.cmp .Eq (.var "x") (.var "z")) (.var "index") (.var "last")),(.idx (.var "row") (.var "k"))])])]),.assign (.one "pairs") (.comp [".0", "pair"] (.var "pair") (.one "pair") (.var "pairs") [(.or [(.cmp .NotEq (.var "x") (.var "z")),(.cmp .Eq (.idx (.var "pair") (.const (.int 0))) (.idx (.var "pair") (.const (.int 1))))])]),.assign (.many ["rule", "kept"]) (.tup [(.call "ElementOf" false [(.var "x"),(.call "tuple" false [(.var "row")]),(.var "z")]),(.list true [(.call "_law_lots" false [(.var "desk")])])]),.for (.one "lap") (.call "range" false [(.bin .Add (.const (.int 1)) (.call "_law_draw" false [(.var "rig"),(.const (.int 5))]))]) b_law_3,.expr (.meth (.var "desk") "pop" [(.meth (.var "desk") "depth" [])]),.ret (.and [(.cmp .Eq (.call "_law_lots" false [(.var "desk")]) (.idx (.var "kept") (.const (.int 0)))),(.not (.attr (.var "desk") "is_failed"))])]
noncomputable def topTab:List (Str×Fn):=[
  (Str.ofString "least", Fn.mk ["d"] b_least true 69),
  (Str.ofString "greatest", Fn.mk ["d"] b_greatest true 76),
  (Str.ofString "size", Fn.mk ["d"] b_size true 81),
  (Str.ofString "next_from", Fn.mk ["d", "v"] b_next_from true 88),
  (Str.ofString "has", Fn.mk ["d", "v"] b_has true 95),
  (Str.ofString "values", Fn.mk ["d"] b_values true 102),
  (Str.ofString "up_to", Fn.mk ["d", "k"] b_up_to true 107),
  (Str.ofString "from_on", Fn.mk ["d", "k"] b_from_on true 112),
  (Str.ofString "without", Fn.mk ["d", "v"] b_without true 119),
  (Str.ofString "meet", Fn.mk ["d", "e"] b_meet true 126),
  (Str.ofString "negation", Fn.mk ["literal"] b_negation true 133),
  (Str.ofString "struck", Fn.mk ["literal", "d"] b_struck true 140),
  (Str.ofString "lacking", Fn.mk ["store", "x", "v"] b_lacking true 350),
  (Str.ofString "once_each", Fn.mk ["literals"] b_once_each true 355),
  (Str.ofString "between", Fn.mk ["store", "x", "numbers"] b_between false 362),
  (Str.ofString "room", Fn.mk ["store", "scope"] b_room true 367),
  (Str.ofString "_law_far", Fn.mk [] b__law_far true 435),
  (Str.ofString "_law_draw", Fn.mk ["rig", "many"] b__law_draw false 442),
  (Str.ofString "_law_merged", Fn.mk ["ranges"] b__law_merged true 449),
  (Str.ofString "_law_cut", Fn.mk ["ranges", "literal"] b__law_cut true 454),
  (Str.ofString "_law_has", Fn.mk ["ranges", "v"] b__law_has true 459),
  (Str.ofString "_law_hold", Fn.mk ["lots", "some"] b__law_hold true 464),
  (Str.ofString "_law_comes_back", Fn.mk ["row", "some", "v"] b__law_comes_back true 471),
  (Str.ofString "_law_due", Fn.mk ["row", "lots", "x", "z"] b__law_due true 476),
  (Str.ofString "_law_kept", Fn.mk ["pairs", "some", "x"] b__law_kept true 481),
  (Str.ofString "_law_lots", Fn.mk ["desk"] b__law_lots true 488),
  (Str.ofString "_law_run", Fn.mk ["rule", "desk", "row", "x", "z", "pairs"] b__law_run false 495),
  (Str.ofString "_law_lot", Fn.mk ["rig", "spots", "low", "high"] b__law_lot false 500),
  (Str.ofString "law", Fn.mk ["script"] b_law false 505)]
noncomputable def ownTab:List (Str×Fn):=[
  (Str.ofString "Store.__init__", Fn.mk ["self"] b_Store__init_ false 161),
  (Str.ofString "Store.new_var", Fn.mk ["self", "domain"] b_Store_new_var false 168),
  (Str.ofString "Store.dom", Fn.mk ["self", "x"] b_Store_dom true 182),
  (Str.ofString "Store.initial", Fn.mk ["self", "x"] b_Store_initial true 189),
  (Str.ofString "Store.low", Fn.mk ["self", "x"] b_Store_low true 196),
  (Str.ofString "Store.high", Fn.mk ["self", "x"] b_Store_high true 203),
  (Str.ofString "Store.width", Fn.mk ["self", "x"] b_Store_width true 231),
  (Str.ofString "Store.enter", Fn.mk ["self", "literal", "reasons", "speaker"] b_Store_enter false 245),
  (Str.ofString "Store.strike", Fn.mk ["self", "literal", "reasons"] b_Store_strike false 252),
  (Str.ofString "Store.decide", Fn.mk ["self", "literal"] b_Store_decide false 259),
  (Str.ofString "Store.fail", Fn.mk ["self", "reasons"] b_Store_fail false 266),
  (Str.ofString "Store.push", Fn.mk ["self"] b_Store_push false 273),
  (Str.ofString "Store.pop", Fn.mk ["self", "n"] b_Store_pop false 280),
  (Str.ofString "Store.depth", Fn.mk ["self"] b_Store_depth true 287),
  (Str.ofString "Propagator.__init__", Fn.mk ["self", "scope", "strength"] b_Propagator__init_ false 315),
  (Str.ofString "ElementOf.__init__", Fn.mk ["self", "index", "numbers", "z"] b_ElementOf__init_ false 383),
  (Str.ofString "ElementOf.propagate", Fn.mk ["self", "store"] b_ElementOf_propagate false 404),
  (Str.ofString "ElementOf.strike_places", Fn.mk ["self", "store"] b_ElementOf_strike_places false 411),
  (Str.ofString "ElementOf.strike_values", Fn.mk ["self", "store"] b_ElementOf_strike_values false 416),
  (Str.ofString "ElementOf.why_nowhere", Fn.mk ["self", "store", "v"] b_ElementOf_why_nowhere true 423)]
noncomputable def methTab:List (Str×Str×Str):=[(Str.ofString "Store", Str.ofString "__init__", Str.ofString "Store.__init__"),(Str.ofString "Store", Str.ofString "new_var", Str.ofString "Store.new_var"),(Str.ofString "Store", Str.ofString "dom", Str.ofString "Store.dom"),(Str.ofString "Store", Str.ofString "initial", Str.ofString "Store.initial"),(Str.ofString "Store", Str.ofString "low", Str.ofString "Store.low"),(Str.ofString "Store", Str.ofString "high", Str.ofString "Store.high"),(Str.ofString "Store", Str.ofString "width", Str.ofString "Store.width"),(Str.ofString "Store", Str.ofString "enter", Str.ofString "Store.enter"),(Str.ofString "Store", Str.ofString "strike", Str.ofString "Store.strike"),(Str.ofString "Store", Str.ofString "decide", Str.ofString "Store.decide"),(Str.ofString "Store", Str.ofString "fail", Str.ofString "Store.fail"),(Str.ofString "Store", Str.ofString "push", Str.ofString "Store.push"),(Str.ofString "Store", Str.ofString "pop", Str.ofString "Store.pop"),(Str.ofString "Store", Str.ofString "depth", Str.ofString "Store.depth"),(Str.ofString "ElementOf", Str.ofString "__init__", Str.ofString "ElementOf.__init__"),(Str.ofString "ElementOf", Str.ofString "propagate", Str.ofString "ElementOf.propagate"),(Str.ofString "ElementOf", Str.ofString "strike_places", Str.ofString "ElementOf.strike_places"),(Str.ofString "ElementOf", Str.ofString "strike_values", Str.ofString "ElementOf.strike_values"),(Str.ofString "ElementOf", Str.ofString "why_nowhere", Str.ofString "ElementOf.why_nowhere")]
noncomputable def fnTab:List (Str×Fn):=topTab++ownTab
noncomputable def tab:Tab where
  defs x:=if x = "size_domains" then some "size" else if x = "has_domains" then some "has" else if (topTab.lookup x).isSome then some x else none
  classes x:=if x = "Store" then some x else if x = "ElementOf" then some x else none
  fields _ n:=decide (n ∈ (["domains", "firsts", "trail", "marks", "news", "speaker", "is_failed", "clash", "number", "scope", "strength", "index", "numbers", "z"].map Str.ofString))
  consts x:=if x = "MOST_LISTED" then some (.int 1000000) else none
  meths c n:=(methTab.find? fun p=>p.1 == c && p.2.1 == n).map (·.2.2)
  sup q:=if q = "ElementOf.__init__" then some "Propagator.__init__" else none
  fns q:=fnTab.lookup q
theorem f_least:tab.fns "least" = some ⟨["d"],b_least,true,69⟩:=by kernel_rfl
theorem f_greatest:tab.fns "greatest" = some ⟨["d"],b_greatest,true,76⟩:=by kernel_rfl
theorem f_size:tab.fns "size" = some ⟨["d"],b_size,true,81⟩:=by kernel_rfl
theorem f_next_from:tab.fns "next_from" = some ⟨["d", "v"],b_next_from,true,88⟩:=by kernel_rfl
theorem f_has:tab.fns "has" = some ⟨["d", "v"],b_has,true,95⟩:=by kernel_rfl
theorem f_values:tab.fns "values" = some ⟨["d"],b_values,true,102⟩:=by kernel_rfl
theorem f_up_to:tab.fns "up_to" = some ⟨["d", "k"],b_up_to,true,107⟩:=by kernel_rfl
theorem f_from_on:tab.fns "from_on" = some ⟨["d", "k"],b_from_on,true,112⟩:=by kernel_rfl
theorem f_without:tab.fns "without" = some ⟨["d", "v"],b_without,true,119⟩:=by kernel_rfl
theorem f_meet:tab.fns "meet" = some ⟨["d", "e"],b_meet,true,126⟩:=by kernel_rfl
theorem f_negation:tab.fns "negation" = some ⟨["literal"],b_negation,true,133⟩:=by kernel_rfl
theorem f_struck:tab.fns "struck" = some ⟨["literal", "d"],b_struck,true,140⟩:=by kernel_rfl
theorem f_Store__init_:tab.fns "Store.__init__" = some ⟨["self"],b_Store__init_,false,161⟩:=by kernel_rfl
theorem f_Store_new_var:tab.fns "Store.new_var" = some ⟨["self", "domain"],b_Store_new_var,false,168⟩:=by kernel_rfl
theorem f_Store_dom:tab.fns "Store.dom" = some ⟨["self", "x"],b_Store_dom,true,182⟩:=by kernel_rfl
theorem f_Store_initial:tab.fns "Store.initial" = some ⟨["self", "x"],b_Store_initial,true,189⟩:=by kernel_rfl
theorem f_Store_low:tab.fns "Store.low" = some ⟨["self", "x"],b_Store_low,true,196⟩:=by kernel_rfl
theorem f_Store_high:tab.fns "Store.high" = some ⟨["self", "x"],b_Store_high,true,203⟩:=by kernel_rfl
theorem f_Store_width:tab.fns "Store.width" = some ⟨["self", "x"],b_Store_width,true,231⟩:=by kernel_rfl
theorem f_Store_enter:tab.fns "Store.enter" = some ⟨["self", "literal", "reasons", "speaker"],b_Store_enter,false,245⟩:=by kernel_rfl
theorem f_Store_strike:tab.fns "Store.strike" = some ⟨["self", "literal", "reasons"],b_Store_strike,false,252⟩:=by kernel_rfl
theorem f_Store_decide:tab.fns "Store.decide" = some ⟨["self", "literal"],b_Store_decide,false,259⟩:=by kernel_rfl
theorem f_Store_fail:tab.fns "Store.fail" = some ⟨["self", "reasons"],b_Store_fail,false,266⟩:=by kernel_rfl
theorem f_Store_push:tab.fns "Store.push" = some ⟨["self"],b_Store_push,false,273⟩:=by kernel_rfl
theorem f_Store_pop:tab.fns "Store.pop" = some ⟨["self", "n"],b_Store_pop,false,280⟩:=by kernel_rfl
theorem f_Store_depth:tab.fns "Store.depth" = some ⟨["self"],b_Store_depth,true,287⟩:=by kernel_rfl
theorem f_Propagator__init_:tab.fns "Propagator.__init__" = some ⟨["self", "scope", "strength"],b_Propagator__init_,false,315⟩:=by kernel_rfl
theorem f_lacking:tab.fns "lacking" = some ⟨["store", "x", "v"],b_lacking,true,350⟩:=by kernel_rfl
theorem f_once_each:tab.fns "once_each" = some ⟨["literals"],b_once_each,true,355⟩:=by kernel_rfl
theorem f_between:tab.fns "between" = some ⟨["store", "x", "numbers"],b_between,false,362⟩:=by kernel_rfl
theorem f_room:tab.fns "room" = some ⟨["store", "scope"],b_room,true,367⟩:=by kernel_rfl
theorem f_ElementOf__init_:tab.fns "ElementOf.__init__" = some ⟨["self", "index", "numbers", "z"],b_ElementOf__init_,false,383⟩:=by kernel_rfl
theorem f_ElementOf_propagate:tab.fns "ElementOf.propagate" = some ⟨["self", "store"],b_ElementOf_propagate,false,404⟩:=by kernel_rfl
theorem f_ElementOf_strike_places:tab.fns "ElementOf.strike_places" = some ⟨["self", "store"],b_ElementOf_strike_places,false,411⟩:=by kernel_rfl
theorem f_ElementOf_strike_values:tab.fns "ElementOf.strike_values" = some ⟨["self", "store"],b_ElementOf_strike_values,false,416⟩:=by kernel_rfl
theorem f_ElementOf_why_nowhere:tab.fns "ElementOf.why_nowhere" = some ⟨["self", "store", "v"],b_ElementOf_why_nowhere,true,423⟩:=by kernel_rfl
theorem f__law_far:tab.fns "_law_far" = some ⟨[],b__law_far,true,435⟩:=by kernel_rfl
theorem f__law_draw:tab.fns "_law_draw" = some ⟨["rig", "many"],b__law_draw,false,442⟩:=by kernel_rfl
theorem f__law_merged:tab.fns "_law_merged" = some ⟨["ranges"],b__law_merged,true,449⟩:=by kernel_rfl
theorem f__law_cut:tab.fns "_law_cut" = some ⟨["ranges", "literal"],b__law_cut,true,454⟩:=by kernel_rfl
theorem f__law_has:tab.fns "_law_has" = some ⟨["ranges", "v"],b__law_has,true,459⟩:=by kernel_rfl
theorem f__law_hold:tab.fns "_law_hold" = some ⟨["lots", "some"],b__law_hold,true,464⟩:=by kernel_rfl
theorem f__law_comes_back:tab.fns "_law_comes_back" = some ⟨["row", "some", "v"],b__law_comes_back,true,471⟩:=by kernel_rfl
theorem f__law_due:tab.fns "_law_due" = some ⟨["row", "lots", "x", "z"],b__law_due,true,476⟩:=by kernel_rfl
theorem f__law_kept:tab.fns "_law_kept" = some ⟨["pairs", "some", "x"],b__law_kept,true,481⟩:=by kernel_rfl
theorem f__law_lots:tab.fns "_law_lots" = some ⟨["desk"],b__law_lots,true,488⟩:=by kernel_rfl
theorem f__law_run:tab.fns "_law_run" = some ⟨["rule", "desk", "row", "x", "z", "pairs"],b__law_run,false,495⟩:=by kernel_rfl
theorem f__law_lot:tab.fns "_law_lot" = some ⟨["rig", "spots", "low", "high"],b__law_lot,false,500⟩:=by kernel_rfl
theorem f_law:tab.fns "law" = some ⟨["script"],b_law,false,505⟩:=by kernel_rfl
theorem d_least:tab.defs "least" = some (Str.ofString "least"):=by kernel_rfl
theorem d_greatest:tab.defs "greatest" = some (Str.ofString "greatest"):=by kernel_rfl
theorem d_size:tab.defs "size" = some (Str.ofString "size"):=by kernel_rfl
theorem d_next_from:tab.defs "next_from" = some (Str.ofString "next_from"):=by kernel_rfl
theorem d_has:tab.defs "has" = some (Str.ofString "has"):=by kernel_rfl
theorem d_values:tab.defs "values" = some (Str.ofString "values"):=by kernel_rfl
theorem d_up_to:tab.defs "up_to" = some (Str.ofString "up_to"):=by kernel_rfl
theorem d_from_on:tab.defs "from_on" = some (Str.ofString "from_on"):=by kernel_rfl
theorem d_without:tab.defs "without" = some (Str.ofString "without"):=by kernel_rfl
theorem d_meet:tab.defs "meet" = some (Str.ofString "meet"):=by kernel_rfl
theorem d_negation:tab.defs "negation" = some (Str.ofString "negation"):=by kernel_rfl
theorem d_struck:tab.defs "struck" = some (Str.ofString "struck"):=by kernel_rfl
theorem d_lacking:tab.defs "lacking" = some (Str.ofString "lacking"):=by kernel_rfl
theorem d_once_each:tab.defs "once_each" = some (Str.ofString "once_each"):=by kernel_rfl
theorem d_between:tab.defs "between" = some (Str.ofString "between"):=by kernel_rfl
theorem d_room:tab.defs "room" = some (Str.ofString "room"):=by kernel_rfl
theorem d__law_far:tab.defs "_law_far" = some (Str.ofString "_law_far"):=by kernel_rfl
theorem d__law_draw:tab.defs "_law_draw" = some (Str.ofString "_law_draw"):=by kernel_rfl
theorem d__law_merged:tab.defs "_law_merged" = some (Str.ofString "_law_merged"):=by kernel_rfl
theorem d__law_cut:tab.defs "_law_cut" = some (Str.ofString "_law_cut"):=by kernel_rfl
theorem d__law_has:tab.defs "_law_has" = some (Str.ofString "_law_has"):=by kernel_rfl
theorem d__law_hold:tab.defs "_law_hold" = some (Str.ofString "_law_hold"):=by kernel_rfl
theorem d__law_comes_back:tab.defs "_law_comes_back" = some (Str.ofString "_law_comes_back"):=by kernel_rfl
theorem d__law_due:tab.defs "_law_due" = some (Str.ofString "_law_due"):=by kernel_rfl
theorem d__law_kept:tab.defs "_law_kept" = some (Str.ofString "_law_kept"):=by kernel_rfl
theorem d__law_lots:tab.defs "_law_lots" = some (Str.ofString "_law_lots"):=by kernel_rfl
theorem d__law_run:tab.defs "_law_run" = some (Str.ofString "_law_run"):=by kernel_rfl
theorem d__law_lot:tab.defs "_law_lot" = some (Str.ofString "_law_lot"):=by kernel_rfl
theorem d_law:tab.defs "law" = some (Str.ofString "law"):=by kernel_rfl
theorem d_size_domains:tab.defs "size_domains" = some (Str.ofString "size"):=by kernel_rfl
theorem d_has_domains:tab.defs "has_domains" = some (Str.ofString "has"):=by kernel_rfl
theorem d_len:tab.defs "len" = none:=by kernel_rfl
theorem d_max:tab.defs "max" = none:=by kernel_rfl
theorem d_min:tab.defs "min" = none:=by kernel_rfl
theorem d_sum:tab.defs "sum" = none:=by kernel_rfl
theorem d_range:tab.defs "range" = none:=by kernel_rfl
theorem d_tuple:tab.defs "tuple" = none:=by kernel_rfl
theorem d_list:tab.defs "list" = none:=by kernel_rfl
theorem d_sorted:tab.defs "sorted" = none:=by kernel_rfl
theorem d_Store:tab.defs "Store" = none:=by kernel_rfl
theorem d_ElementOf:tab.defs "ElementOf" = none:=by kernel_rfl
theorem c_len:tab.classes "len" = none:=by kernel_rfl
theorem c_max:tab.classes "max" = none:=by kernel_rfl
theorem c_min:tab.classes "min" = none:=by kernel_rfl
theorem c_sum:tab.classes "sum" = none:=by kernel_rfl
theorem c_range:tab.classes "range" = none:=by kernel_rfl
theorem c_tuple:tab.classes "tuple" = none:=by kernel_rfl
theorem c_list:tab.classes "list" = none:=by kernel_rfl
theorem c_sorted:tab.classes "sorted" = none:=by kernel_rfl
theorem c_Store:tab.classes "Store" = some (Str.ofString "Store"):=by kernel_rfl
theorem c_ElementOf:tab.classes "ElementOf" = some (Str.ofString "ElementOf"):=by kernel_rfl
theorem m_Store__init_:tab.meths "Store" "__init__" = some (Str.ofString "Store.__init__"):=by kernel_rfl
theorem m_Store_new_var:tab.meths "Store" "new_var" = some (Str.ofString "Store.new_var"):=by kernel_rfl
theorem m_Store_dom:tab.meths "Store" "dom" = some (Str.ofString "Store.dom"):=by kernel_rfl
theorem m_Store_initial:tab.meths "Store" "initial" = some (Str.ofString "Store.initial"):=by kernel_rfl
theorem m_Store_low:tab.meths "Store" "low" = some (Str.ofString "Store.low"):=by kernel_rfl
theorem m_Store_high:tab.meths "Store" "high" = some (Str.ofString "Store.high"):=by kernel_rfl
theorem m_Store_width:tab.meths "Store" "width" = some (Str.ofString "Store.width"):=by kernel_rfl
theorem m_Store_enter:tab.meths "Store" "enter" = some (Str.ofString "Store.enter"):=by kernel_rfl
theorem m_Store_strike:tab.meths "Store" "strike" = some (Str.ofString "Store.strike"):=by kernel_rfl
theorem m_Store_decide:tab.meths "Store" "decide" = some (Str.ofString "Store.decide"):=by kernel_rfl
theorem m_Store_fail:tab.meths "Store" "fail" = some (Str.ofString "Store.fail"):=by kernel_rfl
theorem m_Store_push:tab.meths "Store" "push" = some (Str.ofString "Store.push"):=by kernel_rfl
theorem m_Store_pop:tab.meths "Store" "pop" = some (Str.ofString "Store.pop"):=by kernel_rfl
theorem m_Store_depth:tab.meths "Store" "depth" = some (Str.ofString "Store.depth"):=by kernel_rfl
theorem m_ElementOf__init_:tab.meths "ElementOf" "__init__" = some (Str.ofString "ElementOf.__init__"):=by kernel_rfl
theorem m_ElementOf_propagate:tab.meths "ElementOf" "propagate" = some (Str.ofString "ElementOf.propagate"):=by kernel_rfl
theorem m_ElementOf_strike_places:tab.meths "ElementOf" "strike_places" = some (Str.ofString "ElementOf.strike_places"):=by kernel_rfl
theorem m_ElementOf_strike_values:tab.meths "ElementOf" "strike_values" = some (Str.ofString "ElementOf.strike_values"):=by kernel_rfl
theorem m_ElementOf_why_nowhere:tab.meths "ElementOf" "why_nowhere" = some (Str.ofString "ElementOf.why_nowhere"):=by kernel_rfl
end Mine
namespace Mine
open PySem PySem.W PyProof.Rows
noncomputable abbrev pg:Program:=PySem.Challenge.rw_qd0017_01.row.toRowW.prog
noncomputable def env0:Env:={ scope:=pg.main.scope,locals:=mainNs,globals:=mainNs,cells:=[],code:=.ref 13,frame:=some 14 }
noncomputable def p00:Pos:={ line:=0,col:=0,endLine:=0,endCol:=0 }
noncomputable def o13:Obj:={ cls:=.type "code", data:=.fields #[.str "<module>" 182,.str "<module>" 183,.str "/claim/cut.py" 184,.int 1 0,.int 0 0,.int 0 0,.int 0 0,.int 0 0,.ref 11,.bool false,.int 181 0,.ref 12,.none,.none,.none,.none,.int 185 0,.int 1 0,.str "/claim/cut.py" 186] }
noncomputable def o14:Obj:={ cls:=.type "frame", slots:=#[some (.ref 13),some (.ref 3),some (.ref 3),none,some (.str "__main__" 164),none,some (.ref 0)] }
noncomputable def h15 (P:Params):Heap:={ objs:=⟨[boot_o_0 P,boot_o_1 P,boot_o_2 P,boot_o_3 P,boot_o_4 P,boot_o_5 P,boot_o_6 P,boot_o_7 P,boot_o_8 P,boot_o_9 P,boot_o_10 P,{ cls:=.type "tuple", data:=.seq #[] },{ cls:=.none,data:=.fields #[] },o13,o14]⟩ }
noncomputable def t15 (P:Params):BT:=
  .node (boot_o_0 P)
    (.node (boot_o_1 P)
      (.node (boot_o_3 P) (.node (boot_o_7 P) .nil .nil) (.node { cls:=.type "tuple", data:=.seq #[] } .nil .nil))
      (.node (boot_o_5 P) (.node (boot_o_9 P) .nil .nil) (.node o13 .nil .nil)))
    (.node (boot_o_2 P)
      (.node (boot_o_4 P) (.node (boot_o_8 P) .nil .nil) (.node { cls:=.none,data:=.fields #[] } .nil .nil))
      (.node (boot_o_6 P) (.node (boot_o_10 P) .nil .nil) (.node o14 .nil .nil)))
theorem top_start:∀ w:World,(fun os=>topGo treeTable pg w 11 (some (.ref 6)) 12 { heap:=boot_heap w.params,drawn:=boot_drawn,toks:=boot_toks,os:=os } (topStub pg)) =
    fun os=>some ({ heap:=h15 w.params,toks:=187,os:=os },⟨denote treeTable (.body (behindTheImports pg) env0),.body (behindTheImports pg) env0,p00,[topFrame p00]⟩):=fun w=>by kernel_rfl
theorem t15_h (P:Params):absHeap (t15 P) 15 {}=h15 P:=by kernel_rfl
theorem open_start:opening pg=plainProg pg.main.scope.names:=by kernel_rfl
theorem boot_size:∀ w:World,((boot_heap w.params).isNs mainGlobals && (Array.mk []:Array GenState).size == 0,(boot_heap w.params).objs.size,(boot_heap w.params).nsMap mainGlobals "__annotations__")=(true,11,some (.ref 6)):=fun w=>by kernel_rfl
theorem top_end {tb:String→Option Builtin} {p:Program} {w:World} {n₀:Nat} {ann:Option Value} (s:Shared) (c:Code) (q q':Pos):topRun tb p w n₀ ann 3 s ⟨doneF .next,c,q,[topFrame q']⟩=some s:=by
  rfl
theorem no_fence (s:Shared):fenceModules? pg s=some s:=by rfl
theorem blk_start (w:World) (s:SharedT):segRunT treeTable pg w 11 (some (.ref 6)) 1 3 s (blockOf (behindTheImports pg) env0 (.body (behindTheImports pg) env0) p00 [topFrame p00])=some (.next,s,.body (behindTheImports pg) env0,p00):=by rfl
end Mine
namespace Mine
open PySem PySem.W PySem.Calls PyProof.Rows
noncomputable def nd:List Str→Bool
  | []=>true
  | x::r=>!r.contains x && nd r
noncomputable def codeOk (K:Frag) (q:Str):Value→Bool
  | .ref c=>(match K.lookup c with
    | some ⟨_,_,.fields vs,_⟩=>(match vs[1]? with
      | some (Value.str x _)=>x == q
      | _=>false)
    | _=>false)
  | _=>false
noncomputable def okFn (K:Frag) (fd:FuncData):Bool:=
  fd.params.posonlyargs.isEmpty && fd.params.kwonlyargs.isEmpty && fd.params.vararg.isNone && fd.params.kwarg.isNone && (match fd.defaults with | .none=>true | _=>false) && nd (fd.params.args.map (·.arg)) &&
  fd.globals == mainGlobals && fd.builtins == builtinsNs && decide (fd.scope.kind=.function) && !fd.scope.isCoroutine && !fd.scope.isGenerator && nd (fd.scope.names.map (·.1)) &&
  (fd.scope.names.all fun p=>decide (p.1=Str.ofString "__class__" ↔ p.2=.free)) && (fd.closure.all fun p=>decide (p.1=Str.ofString "__class__")) && ((fd.params.args.map (·.arg)).all (isOwn fd.scope)) && codeOk K fd.qualname fd.code
noncomputable def fieldNs:List Str:=["domains", "firsts", "trail", "marks", "news", "speaker", "is_failed", "clash", "number", "scope", "strength", "index", "numbers", "z"].map Str.ofString
noncomputable def defAt (K:Frag) (x:Str) (a:Addr):Bool:=nsIn K mainGlobals x == some (some (.ref a)) && keepIn K (.ref a)
noncomputable def clsAt (K:Frag) (c:Str) (C:Addr):Bool:=nsIn K mainGlobals c == some (some (.ref C)) && keepIn K (.ref C) && makesIn K C && plainGet K C "__getattribute__" && findIn K (.ref C) "__setattr__" == some (some (.builtin "object.__setattr__")) && plainOver K C && hasDictIn K C &&
  findIn K (.ref C) "__getattribute__" == some (some (.builtin "object.__getattribute__")) && findIn K (.ref C) "__getattr__" == some none && fieldNs.all (freeIn K C)
noncomputable def methAt (K:Frag) (C:Addr) (m:Str) (a:Addr):Bool:=findIn K (.ref C) m == some (some (.ref a)) && keepIn K (.ref a) && typeIn K (.ref a) == some (.type "function")
noncomputable def biNs:List Str:=["len", "max", "min", "sum", "range", "tuple", "list", "sorted", "enumerate"].map Str.ofString
noncomputable def clsOf (c:Str):Option Addr:=if c = "Store" then some 297 else if c = "ElementOf" then some 426 else none
noncomputable def adrOf (q:Str):Addr:=match fnTab.lookup q with
  | some fn=>fn.adr
  | none=>0
noncomputable def supAt (K:Frag):Bool:=match K.lookup 383 with
  | some ⟨_,_,.func fd,_⟩=>(match fd.closure,fd.code,(fd.params.posonlyargs++fd.params.args).head? with
    | [(x,371)],.ref c,some ar=>x == Str.ofString "__class__" && ar.arg == Str.ofString "self" && fd.scope.names.lookup (Str.ofString "self") == some .local && (match K.lookup c with
      | some ⟨_,_,.fields vs,_⟩=>(match vs[2]? with
        | some (Value.str file _)=>pg.main.file == file
        | _=>false)
      | _=>false)
    | _,_,_=>false)
  | _=>false
noncomputable def supCls (K:Frag):Bool:=(match K.lookup 371 with
    | some ⟨_,_,.cell (some (.ref 426)),_⟩=>true
    | _=>false) && mroIn K 426 (.ref 426) == some true && (match clsIn K 426 with
    | some cd=>alongIn K "__init__" ((cd.mro.dropWhile (· != .ref 426)).drop 1) == some (some (.ref 315))
    | none=>false) && typeIn K (.ref 315) == some (.type "function") && fnIn K 315
noncomputable def constAt (K:Frag):Bool:=match nsIn K mainGlobals "MOST_LISTED" with
  | some (some (.int i _))=>i == 1000000
  | _=>false
noncomputable def chkK (K:Frag):Bool:=(topTab.all fun p=>defAt K p.1 p.2.adr) && defAt K "size_domains" (adrOf "size") && defAt K "has_domains" (adrOf "has") && clsAt K "Store" 297 && clsAt K "ElementOf" 426 && (biNs.all fun x=>nsIn K mainGlobals x == some none) && constAt K &&
  (methTab.all fun p=>match clsOf p.1 with | some C=>methAt K C p.2.1 (adrOf p.2.2) | none=>true) && nsIn K mainGlobals "super" == some none && nsIn K cStatics "thirdparty.any" == some none && supAt K && supCls K && (K.lookup sysModules).isSome
noncomputable def adrs:List Addr:=[1,2,3,296,297,338,339,371,425,426]++fnTab.flatMap fun p=>[p.2.adr,p.2.adr - 1]
noncomputable def Kof (h:Heap):Frag:=adrs.filterMap fun a=>(h.get? a).map fun o=>(a,o)
noncomputable def isNext:Flow→Bool
  | .next=>true
  | _=>false
noncomputable def qv:Program:={ pg with main:={ pg.main with body:=pg.main.body.drop 43 } }
noncomputable def loose:List Str:=(pg.main.scope.names.map (·.1)).filter (· != "law")
noncomputable def lk1 (w:World) (s:Shared):Bool:=staticsOk (importedModules pg.main.body) (boot_heap w.params) s.heap && namesBound pg s.heap && gensDone s && laidKept (boot_heap w.params) s.heap
noncomputable def runAll (w:World) (os:OsState):=segRunT treeTable pg w 11 (some (.ref 6)) 1 3200 ⟨t15 w.params,15,{},#[],{},187,os⟩ (piecesOf (behindTheImports pg) env0 (.body (behindTheImports pg) env0) p00 [topFrame p00])
noncomputable def xt (s:Shared):Bool:=xlAt qv [] s && recOk (RowW.records PySem.Challenge.rw_qd0017_01.row.toRowW) s
noncomputable def rawsIn (c:Str):List Stmt→List (Str×Scope×List Stmt)
  | []=>[]
  | s::r=>(match s with
    | .FunctionDef n _ body _ _ _ sc _ _ _=>[(c++n,sc,body)]
    | _=>[])++rawsIn c r
noncomputable def raws:List Stmt→List (Str×Scope×List Stmt)
  | []=>[]
  | s::r=>(match s with
    | .FunctionDef n _ body _ _ _ sc _ _ _=>[(n,sc,body)]
    | .ClassDef n _ _ body ..=>rawsIn (n++Str.ofString ".") body
    | _=>[])++raws r
noncomputable def rawOf (q:Str):Option (Scope×List Stmt):=(raws pg.main.body).lookup q
noncomputable def obsD (K:Frag) (a:Addr):Option ((Scope×List Stmt)×List Str×Bool):=match K.lookup a with
  | some ⟨_,_,.func fd,_⟩=>(match fd.body with
    | .stmts body=>some ((fd.scope,body),fd.params.args.map (·.arg),okFn K fd)
    | _=>none)
  | _=>none
theorem comps:fnTab.map (fun p=>(rawOf p.1).map fun d=>compBody d.1 d.2)=fnTab.map fun p=>some (some p.2.body):=by kernel_rfl
noncomputable def obsK (s:Shared):=(fnTab.map fun p=>obsD (Kof s.heap) p.2.adr,chkK (Kof s.heap))
noncomputable def valK:=(fnTab.map fun p=>(rawOf p.1).map fun d=>(d,p.2.params,true),true)
theorem well:OpenLaw.wellSaid PySem.Challenge.rw_qd0017_01=true:=by kernel_rfl
theorem hbig:∀ w:World,(fun os=>(runAll w os).map (fun r=>((isNext r.1,r.2.2.1),(lk1 w r.2.1.abs,obsK r.2.1.abs),openSeen qv loose (importedModules pg.main.body) xt true r.2.1.abs)))=fun _=>some ((true,Code.body (behindTheImports pg) env0),(true,valK),openGood qv loose):=fun w=>by kernel_rfl
end Mine
namespace Mine
open PySem PySem.W PySem.Calls PyProof.Rows
mutual
inductive Rep (prog:Program) (w:World) (Z:Addr→Obj→Prop) (αs:List Addr):Value→V→Prop
  | none:Rep prog w Z αs .none .none
  | bool (b:Bool):Rep prog w Z αs (.bool b) (.bool b)
  | int (i:Int) (t:Tok):Rep prog w Z αs (.int i t) (.int i)
  | str (x:Str) (t:Tok):Rep prog w Z αs (.str x t) (.str x)
  | tup {a:Addr} {o:Obj} {vs:List Value} {n:Nat} {ds:List V}:Z a o→o.cls=.type "tuple" → o.data=.seq vs.toArray n→vs.length≤sizeLine→Reps prog w Z αs vs ds→Rep prog w Z αs (.ref a) (.tup ds)
  | lst {a:Addr} {o:Obj} {vs:List Value} {n:Nat} {ds:List V}:Z a o→o.cls=.type "list" → o.data=.seq vs.toArray n→vs.length≤sizeLine→Reps prog w Z αs vs ds→Rep prog w Z αs (.ref a) (.lst ds)
  | rng {a:Addr} {o:Obj} {x y:Int} {t u v:Tok}:Z a o→o={ cls:=.type "range", dict:=none,data:=.fields #[.int x t,.int y u,.int 1 v],slots:=#[] }→y - x≤sizeLim→Rep prog w Z αs (.ref a) (.rng x y)
  | dctI {a:Addr} {o:Obj} {kvs:List (Int×Value)} {ks:List Int}:Z a o→(a == sysModules)=false→o.IsDictOf (intKind prog w) kvs→kvs.map (·.1)=ks→kvs.length≤sizeLine→Rep prog w Z αs (.ref a) (.dct (ks.map V.int))
  | dctT {a:Addr} {o:Obj} {es:List DictEntry} {ep:Nat} {ks:List V}:Z a o→(a == sysModules)=false→o.ExactDict→o.data=.dict es.toArray ep→es.length≤sizeLine→Reps prog w Z αs (es.map (·.key)) ks→(∀ k ∈ ks,∃ xs,k=.tup xs)→Rep prog w Z αs (.ref a) (.dct ks)
  | obj {a:Addr} {n:Nat}:αs[n]?=some a→Rep prog w Z αs (.ref a) (.obj n)
inductive Reps (prog:Program) (w:World) (Z:Addr→Obj→Prop) (αs:List Addr):List Value→List V→Prop
  | nil:Reps prog w Z αs [] []
  | cons {v:Value} {vs:List Value} {d:V} {ds:List V}:Rep prog w Z αs v d→Reps prog w Z αs vs ds→Reps prog w Z αs (v::vs) (d::ds)
end
section
variable {lo:Nat} {prog:Program} {w:World} {Z Z' Z'':Addr→Obj→Prop} {αs αs' αs'':List Addr}
theorem Reps.mono (hz:∀ a o,Z a o→Z' a o) (ha:αs <+: αs') {vs:List Value} {ds:List V} (h:Reps prog w Z αs vs ds):Reps prog w Z' αs' vs ds:=
  Reps.rec (motive_1:=fun v d _=>Rep prog w Z' αs' v d) (motive_2:=fun vs ds _=>Reps prog w Z' αs' vs ds) .none .bool .int .str
    (fun h h1 h2 h3 _ r=>.tup (hz _ _ h) h1 h2 h3 r) (fun h h1 h2 h3 _ r=>.lst (hz _ _ h) h1 h2 h3 r) (fun h e l=>.rng (hz _ _ h) e l)
    (fun h h0 h1 h2 h3=>.dctI (hz _ _ h) h0 h1 h2 h3) (fun h h0 h1 h2 h3 _ t r=>.dctT (hz _ _ h) h0 h1 h2 h3 r t)
    (fun h=>.obj (by obtain ⟨t,rfl⟩:=ha;rw [List.getElem?_append_left (List.getElem?_eq_some_iff.mp h).1];exact h))
    .nil (fun _ _ h r=>.cons h r) h
theorem Rep.mono (hz:∀ a o,Z a o→Z' a o) (ha:αs <+: αs') {v:Value} {d:V} (h:Rep prog w Z αs v d):Rep prog w Z' αs' v d:=by
  cases Reps.mono hz ha (.cons h .nil) with
  | cons h _=>exact h
theorem Reps.length {vs:List Value} {ds:List V} (h:Reps prog w Z αs vs ds):vs.length=ds.length:=by
  induction vs generalizing ds with
  | nil=>cases h;rfl
  | cons v vs ih=>cases h with | cons _ r=>rw [List.length_cons,List.length_cons,ih r]
theorem Reps.append {vs ws:List Value} {ds es:List V} (h:Reps prog w Z αs vs ds) (k:Reps prog w Z αs ws es):Reps prog w Z αs (vs++ws) (ds++es):=by
  induction vs generalizing ds with
  | nil=>cases h;exact k
  | cons v vs ih=>cases h with | cons h r=>exact .cons h (ih r)
theorem Reps.get {vs:List Value} {ds:List V} (h:Reps prog w Z αs vs ds) {k:Nat} {d:V} (hk:ds[k]?=some d):∃ v,vs[k]?=some v∧Rep prog w Z αs v d:=by
  induction vs generalizing ds k with
  | nil=>cases h;simp at hk
  | cons v vs ih=>
    cases h with
    | cons h r=>
      cases k with
      | zero=>simp only [List.getElem?_cons_zero,Option.some.injEq] at hk;subst hk;exact ⟨v,rfl,h⟩
      | succ k=>simp only [List.getElem?_cons_succ] at hk ⊢;exact ih r hk
theorem Reps.get' {vs:List Value} {ds:List V} (h:Reps prog w Z αs vs ds) {k:Nat} {v:Value} (hk:vs[k]?=some v):∃ d,ds[k]?=some d∧Rep prog w Z αs v d:=by
  induction vs generalizing ds k with
  | nil=>simp at hk
  | cons v' vs ih=>
    cases h with
    | cons h r=>
      cases k with
      | zero=>simp only [List.getElem?_cons_zero,Option.some.injEq] at hk;subst hk;exact ⟨_,rfl,h⟩
      | succ k=>simp only [List.getElem?_cons_succ] at hk ⊢;exact ih r hk
theorem Reps.set {vs:List Value} {ds:List V} (h:Reps prog w Z αs vs ds) {v:Value} {d:V} (hv:Rep prog w Z αs v d) (k:Nat):Reps prog w Z αs (vs.set k v) (ds.set k d):=by
  induction vs generalizing ds k with
  | nil=>cases h;exact .nil
  | cons v' vs ih=>
    cases h with
    | cons h r=>
      cases k with
      | zero=>exact .cons hv r
      | succ k=>exact .cons h (ih r k)
theorem Reps.take {vs:List Value} {ds:List V} (h:Reps prog w Z αs vs ds) (k:Nat):Reps prog w Z αs (vs.take k) (ds.take k):=by
  induction vs generalizing ds k with
  | nil=>cases h;simp;exact .nil
  | cons v' vs ih=>
    cases h with
    | cons h r=>
      cases k with
      | zero=>exact .nil
      | succ k=>exact .cons h (ih r k)
theorem Reps.drop {vs:List Value} {ds:List V} (h:Reps prog w Z αs vs ds) (k:Nat):Reps prog w Z αs (vs.drop k) (ds.drop k):=by
  induction vs generalizing ds k with
  | nil=>cases h;simp;exact .nil
  | cons v' vs ih=>
    cases h with
    | cons h r=>
      cases k with
      | zero=>exact .cons h r
      | succ k=>exact ih r k
theorem Reps.one {v:Value} {d:V} (h:Rep prog w Z αs v d):Reps prog w Z αs [v] [d]:=.cons h .nil
inductive SeqZ (prog:Program) (w:World) (Z:Addr→Obj→Prop) (αs:List Addr) (k:String) (ds:List V):Value→Prop
  | mk (a:Addr) (o:Obj) (vs:List Value) (n:Nat):Z a o→o.cls=.type k→o.data=.seq vs.toArray n→vs.length≤sizeLine→Reps prog w Z αs vs ds→SeqZ prog w Z αs k ds (.ref a)
inductive RngZ (Z:Addr→Obj→Prop) (x y:Int):Value→Prop
  | mk (a:Addr) (t u v:Tok):Z a { cls:=.type "range", dict:=none,data:=.fields #[.int x t,.int y u,.int 1 v],slots:=#[] }→y - x≤sizeLim→RngZ Z x y (.ref a)
inductive DctZ (prog:Program) (w:World) (Z:Addr→Obj→Prop) (αs:List Addr) (ks:List V):Value→Prop
  | dI (a:Addr) (o:Obj) (kvs:List (Int×Value)) (is:List Int):ks=is.map V.int→Z a o→(a == sysModules)=false→o.IsDictOf (intKind prog w) kvs→kvs.map (·.1)=is→kvs.length≤sizeLine→DctZ prog w Z αs ks (.ref a)
  | dT (a:Addr) (o:Obj) (es:List DictEntry) (ep:Nat):Z a o→(a == sysModules)=false→o.ExactDict→o.data=.dict es.toArray ep→es.length≤sizeLine→Reps prog w Z αs (es.map (·.key)) ks→(∀ k ∈ ks,∃ xs,k=.tup xs)→DctZ prog w Z αs ks (.ref a)
noncomputable def RepI (prog:Program) (w:World) (Z:Addr→Obj→Prop) (αs:List Addr) (x:Value):V→Prop
  | .none=>x=.none
  | .bool b=>x=.bool b
  | .int i=>∃ t,x=.int i t
  | .str y=>∃ t,x=.str y t
  | .tup ds=>SeqZ prog w Z αs "tuple" ds x
  | .lst ds=>SeqZ prog w Z αs "list" ds x
  | .rng a b=>RngZ Z a b x
  | .dct ks=>DctZ prog w Z αs ks x
  | .obj n=>∃ a,αs[n]?=some a∧x=.ref a
theorem Rep.inv {x:Value} {v:V} (R:Rep prog w Z αs x v):RepI prog w Z αs x v:=by
  cases R with
  | none=>exact rfl
  | bool b=>exact rfl
  | int i t=>exact ⟨t,rfl⟩
  | str y t=>exact ⟨t,rfl⟩
  | tup h h1 h2 h3 r=>exact ⟨_,_,_,_,h,h1,h2,h3,r⟩
  | lst h h1 h2 h3 r=>exact ⟨_,_,_,_,h,h1,h2,h3,r⟩
  | rng h e l=>exact ⟨_,_,_,_,e ▸ h,l⟩
  | dctI h h0 h1 h2 h3=>exact .dI _ _ _ _ rfl h h0 h1 h2 h3
  | dctT h h0 h1 h2 h3 r t=>exact .dT _ _ _ _ h h0 h1 h2 h3 r t
  | obj h=>exact ⟨_,h,rfl⟩
theorem Rep.intE {x:Value} {i:Int} {P:Value→Prop} (R:Rep prog w Z αs x (.int i)) (k:∀ t,P (.int i t)):P x:=let ⟨t,e⟩:=R.inv;e ▸ k t
theorem Rep.strE {x:Value} {y:Str} {P:Value→Prop} (R:Rep prog w Z αs x (.str y)) (k:∀ t,P (.str y t)):P x:=let ⟨t,e⟩:=R.inv;e ▸ k t
theorem Rep.boolE {x:Value} {b:Bool} {P:Value→Prop} (R:Rep prog w Z αs x (.bool b)) (k:P (.bool b)):P x:=by rw [show x=_ from R.inv];exact k
theorem Rep.noneE {x:Value} {P:Value→Prop} (R:Rep prog w Z αs x .none) (k:P .none):P x:=by rw [show x=_ from R.inv];exact k
theorem Rep.objE {x:Value} {n:Nat} {P:Value→Prop} (R:Rep prog w Z αs x (.obj n)) (k:∀ a,αs[n]?=some a→P (.ref a)):P x:=let ⟨a,h,e⟩:=R.inv;e ▸ k a h
theorem down {n i k:Nat} (h:n - i=k + 1):n - (i + 1)=k:=by rw [Nat.sub_add_eq,h];rfl
theorem down_lt {n i k:Nat} (h:n - i=k + 1):i<n:=Nat.lt_of_sub_pos (h ▸ Nat.succ_pos k)
theorem down_eq {n i:Nat} (h:n - i=0) (hi:i≤n):i=n:=Nat.le_antisymm hi (Nat.le_of_sub_eq_zero h)
theorem bnd {α β:Type} {x:Option α} {f:α→Option β} {r:β} {G:Prop} (h:x.bind f=some r) (k:∀ a,x=some a→f a=some r→G):G:=by
  cases x with
  | none=>cases h
  | some a=>exact k a rfl h
theorem mpd {α β:Type} {x:Option α} {f:α→β} {r:β} {G:Prop} (h:x.map f=some r) (k:∀ a,x=some a→f a=r→G):G:=by
  cases x with
  | none=>cases h
  | some a=>exact k a rfl (Option.some.inj h)
theorem ifd {α:Type} {p:Prop} [Decidable p] {x r:α} {G:Prop} (h:(if p then some x else none)=some r) (k:p→x=r→G):G:=by
  split at h
  · exact k (by assumption) (Option.some.inj h)
  · cases h
theorem ifn {α:Type} {p:Prop} [Decidable p] {x:Option α} {r:α} {G:Prop} (h:(if p then none else x)=some r) (k:¬p→x=some r→G):G:=by
  split at h
  · cases h
  · exact k (by assumption) h
theorem hide {P:Prop} (h:∀ G:Prop,(P→G)→G):P:=h P id
theorem int_of {v:V} {i:Int} {P:V→Prop} (e:intOf v=some i) (k:P (.int i)):P v:=by
  cases v <;> first | (cases e;exact k) | cases e
theorem str_of {v:V} {i:Str} {P:V→Prop} (e:strOf v=some i) (k:P (.str i)):P v:=by
  cases v <;> first | (cases e;exact k) | cases e
theorem bool_of {v:V} {i:Bool} {P:V→Prop} (e:boolOf v=some i) (k:P (.bool i)):P v:=by
  cases v <;> first | (cases e;exact k) | cases e
theorem tup_of {v:V} {i:List V} {P:V→Prop} (e:tupOf v=some i) (k:P (.tup i)):P v:=by
  cases v <;> first | (cases e;exact k) | cases e
theorem dct_of {v:V} {i:List V} {P:V→Prop} (e:dctOf v=some i) (k:P (.dct i)):P v:=by
  cases v <;> first | (cases e;exact k) | cases e
theorem obj_of {v:V} {i:Nat} {P:V→Prop} (e:objOf v=some i) (k:P (.obj i)):P v:=by
  cases v <;> first | (cases e;exact k) | cases e
theorem rng_of {v:V} {p:Int×Int} {P:V→Prop} (e:rngOf v=some p) (k:P (.rng p.1 p.2)):P v:=by
  cases v <;> first | (cases e;exact k) | cases e
theorem lst_of {m:MObj} {vs:List V} {P:MObj→Prop} (e:lst? m=some vs) (k:P (.list vs)):P m:=by
  cases m <;> first | (cases e;exact k) | cases e
theorem dic_of {m:MObj} {es:List (Str×V)} {P:MObj→Prop} (e:dic? m=some es) (k:P (.sdict es)):P m:=by
  cases m <;> first | (cases e;exact k) | cases e
theorem ins_of {m:MObj} {p:Str×Nat} {P:MObj→Prop} (e:ins? m=some p) (k:P (.inst p.1 p.2)):P m:=by
  cases m <;> first | (cases e;exact k) | cases e
theorem one_of {α:Type} {l:List α} {a:α} {P:List α→Prop} (e:one? l=some a) (k:P [a]):P l:=by
  match l,e with
  | [_],e=>cases e;exact k
theorem two_of {α:Type} {l:List α} {p:α×α} {P:List α→Prop} (e:two? l=some p) (k:P [p.1,p.2]):P l:=by
  match l,e with
  | [_,_],e=>cases e;exact k
inductive SEnts (prog:Program) (w:World) (Z:Addr→Obj→Prop) (αs:List Addr):List DictEntry→List (Str×V)→Prop
  | nil:SEnts prog w Z αs [] []
  | cons {hsh:Int} {x:Str} {t:Tok} {u:Value} {v:V} {des:List DictEntry} {es:List (Str×V)}:hsh=PyData.keyHash w.params x→Rep prog w Z αs u v→SEnts prog w Z αs des es→SEnts prog w Z αs (⟨hsh,.str x t,u⟩::des) ((x,v)::es)
theorem SEnts.mono (hz:∀ a o,Z a o→Z' a o) (ha:αs <+: αs') {des:List DictEntry} {es:List (Str×V)} (h:SEnts prog w Z αs des es):SEnts prog w Z' αs' des es:=by
  induction h with
  | nil=>exact .nil
  | cons e r _ ih=>exact .cons e (r.mono hz ha) ih
inductive MList (prog:Program) (w:World) (Z:Addr→Obj→Prop) (αs:List Addr) (h:Heap) (a:Addr) (ds:List V):Prop
  | mk (vs:List Value):h.PlainList a vs.toArray→vs.length≤sizeLine→Reps prog w Z αs vs ds→MList prog w Z αs h a ds
inductive MDict (prog:Program) (w:World) (Z:Addr→Obj→Prop) (αs:List Addr) (h:Heap) (a:Addr) (es:List (Str×V)):Prop
  | mk (des:List DictEntry) (n:Nat):h.get? a=some (dictOf des n)→des.length≤900→SEnts prog w Z αs des es→MDict prog w Z αs h a es
inductive MInts (prog:Program) (w:World) (h:Heap) (a:Addr) (es:List (Int×V)):Prop
  | mk (kvs:List (Int×Value)):h.DictOf (intKind prog w) a kvs→kvs.map (·.1)=es.map (·.1)→MInts prog w h a es
inductive MInst (cls:Str→Option Addr) (αs:List Addr) (h:Heap) (a:Addr) (c:Str) (k:Nat):Prop
  | mk (C dx:Addr):cls c=some C→αs[k]?=some dx→h.get? a=some (instObj C dx)→MInst cls αs h a c k
noncomputable def MRep (prog:Program) (w:World) (cls:Str→Option Addr) (Z:Addr→Obj→Prop) (αs:List Addr) (h:Heap) (a:Addr):MObj→Prop
  | .list ds=>MList prog w Z αs h a ds
  | .sdict es=>MDict prog w Z αs h a es
  | .idict es=>MInts prog w h a es
  | .inst c k=>MInst cls αs h a c k
theorem own_mono {k:Nat} {a:Addr} (ha:αs <+: αs') (h:αs[k]?=some a):αs'[k]?=some a:=by
  obtain ⟨t,rfl⟩:=ha
  rw [List.getElem?_append_left (List.getElem?_eq_some_iff.mp h).1];exact h
theorem MRep.mono {cls:Str→Option Addr} (hz:∀ a o,Z a o→Z' a o) (ha:αs <+: αs') {h h':Heap} {a:Addr} (hk:∀ o,h.get? a=some o→h'.get? a=some o) {m:MObj} (r:MRep prog w cls Z αs h a m):MRep prog w cls Z' αs' h' a m:=by
  cases m with
  | list ds=>obtain ⟨vs,h1,h2,h3⟩:=r;exact ⟨vs,h1.imp fun _=>hk _,h2,h3.mono hz ha⟩
  | sdict es=>obtain ⟨des,n,h1,h2,h3⟩:=r;exact ⟨des,n,hk _ h1,h2,h3.mono hz ha⟩
  | idict es=>
    obtain ⟨kvs,h1,h2⟩:=r
    exact ⟨kvs,h1.imp fun o=>Exists.imp fun es=>Exists.imp fun ep=>And.imp_left (hk _),h2⟩
  | inst c k=>obtain ⟨C,dx,h1,h2,h3⟩:=r;exact ⟨C,dx,h1,own_mono ha h2,hk _ h3⟩
theorem MRep.alive {cls:Str→Option Addr} {h:Heap} {a:Addr} {m:MObj} (r:MRep prog w cls Z αs h a m):∃ o,h.get? a=some o:=by
  cases m with
  | list ds=>obtain ⟨vs,h1,h2,h3⟩:=r;exact h1.imp' _ fun _ x=>x
  | sdict es=>obtain ⟨des,n,h1,h2,h3⟩:=r;exact ⟨_,h1⟩
  | idict es=>obtain ⟨kvs,h1,h2⟩:=r;exact h1.imp fun _ ⟨_,_,x,_⟩=>x
  | inst c k=>obtain ⟨C,dx,h1,h2,h3⟩:=r;exact ⟨_,h3⟩
structure Inv (prog:Program) (w:World) (cls:Str→Option Addr) (base:Heap) (Z:Addr→Obj→Prop) (αs:List Addr) (μ:M) (h:Heap):Prop where
  keep:∀ b o,base.get? b=some o→h.get? b=some o
  fast:∀ a o,Z a o→h.get? a=some o
  off:∀ a o,Z a o→a ∉ αs
  len:αs.length=μ.length
  at_:∀ (i:Nat) a m,αs[i]?=some a→μ[i]?=some m→MRep prog w cls Z αs h a m
  nodup:αs.Nodup
  old:∀ a ∈ αs,base.get? a=none
structure Step (lo:Nat) (Z:Addr→Obj→Prop) (αs:List Addr) (s:Shared) (Z':Addr→Obj→Prop) (αs':List Addr) (s':Shared):Prop where
  same:∃ h tk,s'={ s with heap:=h,toks:=tk }
  keep:∀ b o,b ∉ αs.drop lo→s.heap.get? b=some o→s'.heap.get? b=some o
  alive:∀ b o,s.heap.get? b=some o→∃ o',s'.heap.get? b=some o'
  zsub:∀ a o,Z a o→Z' a o
  znew:∀ a o,Z' a o→Z a o∨s.heap.get? a=none
  anew:∃ t,αs'=αs++t∧∀ a ∈ t,s.heap.get? a=none
theorem Step.asub {s s':Shared} (x:Step lo Z αs s Z' αs' s'):αs <+: αs':=let ⟨t,e,_⟩:=x.anew;⟨t,e.symm⟩
theorem mem_drop_append {lo:Nat} {αs t:List Addr} {a:Addr} (h:a ∈ (αs++t).drop lo):a ∈ αs.drop lo∨a ∈ t:=by
  rw [List.drop_append] at h
  exact (List.mem_append.mp h).imp id List.mem_of_mem_drop
theorem Step.refl (lo:Nat) (Z:Addr→Obj→Prop) (αs:List Addr) (s:Shared):Step lo Z αs s Z αs s:=
  ⟨⟨s.heap,s.toks,rfl⟩,fun _ _ _ h=>h,fun _ o h=>⟨o,h⟩,fun _ _ h=>h,fun _ _ h=>.inl h,[],(List.append_nil _).symm,fun _ h=>nomatch h⟩
theorem Step.dead {s s':Shared} (x:Step lo Z αs s Z' αs' s') {a:Addr} (hn:s'.heap.get? a=none):s.heap.get? a=none:=by
  cases e:s.heap.get? a with
  | none=>rfl
  | some o'=>obtain ⟨o'',e'⟩:=x.alive a o' e;rw [e'] at hn;cases hn
theorem Step.trans {s s' s'':Shared} (x:Step lo Z αs s Z' αs' s') (y:Step lo Z' αs' s' Z'' αs'' s''):Step lo Z αs s Z'' αs'' s'' where
  same:=by
    obtain ⟨h,tk,e⟩:=x.same
    obtain ⟨h',tk',e'⟩:=y.same
    exact ⟨h',tk',by rw [e',e]⟩
  keep:=fun b o hb ho=>y.keep b o (fun hm=>by
    obtain ⟨t,rfl,ht⟩:=x.anew
    rcases mem_drop_append hm with h | h
    · exact hb h
    · rw [ht b h] at ho;cases ho) (x.keep b o hb ho)
  alive:=fun b o ho=>let ⟨o',ho'⟩:=x.alive b o ho;y.alive b o' ho'
  zsub:=fun a o h=>y.zsub a o (x.zsub a o h)
  znew:=fun a o h=>(y.znew a o h).elim (x.znew a o) fun hn=>.inr (x.dead hn)
  anew:=by
    obtain ⟨t,rfl,ht⟩:=x.anew
    obtain ⟨u,rfl,hu⟩:=y.anew
    exact ⟨t++u,List.append_assoc ..,fun a ha=>(List.mem_append.mp ha).elim (ht a) fun h=>x.dead (hu a h)⟩
theorem Inv.keeps {cls:Str→Option Addr} {base:Heap} {μ:M} {h h':Heap} (I:Inv prog w cls base Z αs μ h) (hk:∀ b o,h.get? b=some o→h'.get? b=some o):Inv prog w cls base Z αs μ h' where
  keep:=fun b o e=>hk _ _ (I.keep b o e)
  fast:=fun a o e=>hk _ _ (I.fast a o e)
  off:=I.off
  len:=I.len
  at_:=fun i a m e1 e2=>(I.at_ i a m e1 e2).mono (fun _ _ x=>x) (List.prefix_refl _) fun o=>hk a o
  nodup:=I.nodup
  old:=I.old
theorem Step.of_keeps {s s':Shared} (h:Keeps s s'):Step lo Z αs s Z αs s':=by
  obtain ⟨h',tk,rfl,hk⟩:=h
  exact ⟨⟨h',tk,rfl⟩,fun b o _=>hk b o,fun b o e=>⟨o,hk b o e⟩,fun _ _ h=>h,fun _ _ h=>.inl h,[],(List.append_nil _).symm,fun _ h=>nomatch h⟩
noncomputable def zadd (Z:Addr→Obj→Prop) (a:Addr) (o:Obj):Addr→Obj→Prop:=fun b p=>Z b p∨(b=a∧p=o)
theorem alive_lt {h:Heap} {a:Addr} {o:Obj} (e:h.get? a=some o):a<h.objs.size:=Heap.lt_size e
theorem dead_size (h:Heap):h.get? h.objs.size=none:=by
  cases e:h.get? h.objs.size with
  | none=>rfl
  | some o=>exact absurd (Heap.lt_size e) (Nat.lt_irrefl _)
theorem Inv.alive {cls:Str→Option Addr} {base:Heap} {μ:M} {h:Heap} (I:Inv prog w cls base Z αs μ h) {a:Addr} (ha:a ∈ αs):∃ o,h.get? a=some o:=by
  obtain ⟨i,hi,e⟩:=List.mem_iff_getElem.mp ha
  have h1:αs[i]?=some a:=by rw [List.getElem?_eq_getElem hi,e]
  have h2:i<μ.length:=I.len ▸ hi
  exact (I.at_ i a _ h1 (List.getElem?_eq_getElem h2)).alive
theorem Inv.zpush {cls:Str→Option Addr} {base:Heap} {μ:M} {h h':Heap} (I:Inv prog w cls base Z αs μ h) {a:Addr} {o:Obj} (hd:h.get? a=none) (hk:∀ b o,h.get? b=some o→h'.get? b=some o) (ho:h'.get? a=some o) :
    Inv prog w cls base (zadd Z a o) αs μ h' where
  keep:=fun b p e=>hk _ _ (I.keep b p e)
  fast:=fun b p e=>by
    rcases e with e | ⟨rfl,rfl⟩
    · exact hk _ _ (I.fast b p e)
    · exact ho
  off:=fun b p e hm=>by
    rcases e with e | ⟨rfl,rfl⟩
    · exact I.off b p e hm
    · obtain ⟨o',e'⟩:=I.alive hm;rw [hd] at e';cases e'
  len:=I.len
  at_:=fun i b m e1 e2=>(I.at_ i b m e1 e2).mono (fun _ _ x=>.inl x) (List.prefix_refl _) fun p=>hk b p
  nodup:=I.nodup
  old:=I.old
theorem Step.zpush {s:Shared} {h':Heap} {tk:Nat} {a:Addr} {o:Obj} (hd:s.heap.get? a=none) (hk:∀ b o,s.heap.get? b=some o→h'.get? b=some o) :
    Step lo Z αs s (zadd Z a o) αs { s with heap:=h',toks:=tk }:=
  ⟨⟨h',tk,rfl⟩,fun b o _=>hk b o,fun b o e=>⟨o,hk b o e⟩,fun _ _ h=>.inl h,fun b p h=>h.elim .inl fun e=>.inr (by rw [e.1];exact hd),[],(List.append_nil _).symm,fun _ h=>nomatch h⟩
theorem Inv.apush {cls:Str→Option Addr} {base:Heap} {μ:M} {h h':Heap} (I:Inv prog w cls base Z αs μ h) {a:Addr} {m:MObj} (hd:h.get? a=none) (hk:∀ b o,h.get? b=some o→h'.get? b=some o)
    (hm:MRep prog w cls Z (αs++[a]) h' a m):Inv prog w cls base Z (αs++[a]) (μ++[m]) h' where
  keep:=fun b p e=>hk _ _ (I.keep b p e)
  fast:=fun b p e=>hk _ _ (I.fast b p e)
  off:=fun b p e hx=>by
    rcases List.mem_append.mp hx with hx | hx
    · exact I.off b p e hx
    · have:b=a:=by simpa using hx
      subst this
      have:=I.fast _ _ e
      rw [hd] at this;cases this
  len:=by simp [I.len]
  at_:=fun i b m' e1 e2=>by
    by_cases hi:i<αs.length
    · rw [List.getElem?_append_left hi] at e1
      rw [List.getElem?_append_left (I.len ▸ hi)] at e2
      exact (I.at_ i b m' e1 e2).mono (fun _ _ x=>x) (List.prefix_append _ _) fun p=>hk b p
    · have hl:i=αs.length:=by
        have:=(List.getElem?_eq_some_iff.mp e1).1
        simp at this;omega
      subst hl
      rw [List.getElem?_append_right (Nat.le_refl _)] at e1
      rw [I.len,List.getElem?_append_right (Nat.le_refl _)] at e2
      simp at e1 e2
      subst e1;subst e2
      exact hm
  nodup:=by
    rw [List.nodup_append]
    refine ⟨I.nodup,by simp,fun x hx y hy e=>?_⟩
    have:y=a:=by simpa using hy
    obtain ⟨o,ho⟩:=I.alive hx
    rw [e,this,hd] at ho;cases ho
  old:=fun b hb=>by
    rcases List.mem_append.mp hb with hb | hb
    · exact I.old b hb
    · have:b=a:=by simpa using hb
      subst this
      cases e:base.get? b with
      | none=>rfl
      | some o=>have:=I.keep _ _ e;rw [hd] at this;cases this
theorem Step.apush {s:Shared} {h':Heap} {tk:Nat} {a:Addr} (hd:s.heap.get? a=none) (hk:∀ b o,s.heap.get? b=some o→h'.get? b=some o) :
    Step lo Z αs s Z (αs++[a]) { s with heap:=h',toks:=tk }:=
  ⟨⟨h',tk,rfl⟩,fun b o _=>hk b o,fun b o e=>⟨o,hk b o e⟩,fun _ _ h=>h,fun _ _ h=>.inl h,[a],rfl,fun b h=>by rw [List.mem_singleton.mp h];exact hd⟩
theorem Inv.set {cls:Str→Option Addr} {base:Heap} {μ:M} {h h':Heap} (I:Inv prog w cls base Z αs μ h) {i:Nat} {a:Addr} {m:MObj} (hi:αs[i]?=some a) (hk:∀ b o,b≠a→h.get? b=some o→h'.get? b=some o)
    (hm:MRep prog w cls Z αs h' a m):Inv prog w cls base Z αs (μ.set i m) h' where
  keep:=fun b p e=>hk _ _ (fun x=>by subst x;rw [I.old _ (List.mem_of_getElem? hi)] at e;cases e) (I.keep b p e)
  fast:=fun b p e=>hk _ _ (fun x=>by subst x;exact I.off _ _ e (List.mem_of_getElem? hi)) (I.fast b p e)
  off:=I.off
  len:=by simp [I.len]
  at_:=fun j b m' e1 e2=>by
    by_cases hj:i=j
    · subst hj
      rw [hi] at e1;cases e1
      have hlt:i<μ.length:=I.len ▸ (List.getElem?_eq_some_iff.mp hi).1
      rw [List.getElem?_set_self hlt] at e2;cases e2
      exact hm
    · rw [List.getElem?_set_ne hj] at e2
      have hne:b≠a:=fun x=>by
        subst x
        exact hj ((List.getElem?_inj (List.getElem?_eq_some_iff.mp hi).1 I.nodup).mp (hi.trans e1.symm))
      exact (I.at_ j b m' e1 e2).mono (fun _ _ x=>x) (List.prefix_refl _) fun p=>hk b p hne
  nodup:=I.nodup
  old:=I.old
theorem Step.set {s:Shared} {h':Heap} {tk:Nat} {i:Nat} {a:Addr} (hlo:lo≤i) (hi:αs[i]?=some a) (hk:∀ b o,b≠a→s.heap.get? b=some o→h'.get? b=some o) (ha:∃ o,h'.get? a=some o) :
    Step lo Z αs s Z αs { s with heap:=h',toks:=tk }:=
  ⟨⟨h',tk,rfl⟩,fun b o hb=>hk b o fun x=>by
    subst x
    refine hb (List.mem_of_getElem? (i:=i - lo) ?_)
    rw [List.getElem?_drop,Nat.add_sub_cancel' hlo];exact hi,fun b o e=>by
    by_cases hb:b=a
    · subst hb;exact ha
    · exact ⟨o,hk b o hb e⟩,fun _ _ h=>h,fun _ _ h=>.inl h,[],(List.append_nil _).symm,fun _ h=>nomatch h⟩
noncomputable def vcells (env:Env):List (Str×Addr):=env.cells.filter fun p=>p.1 != Str.ofString "__class__"
theorem vcells_lookup {x:Str} {c:Addr}:∀ {l:List (Str×Addr)},x≠Str.ofString "__class__" → (l.filter fun p=>p.1 != Str.ofString "__class__").lookup x=l.lookup x
  | [],_=>rfl
  | (y,d)::r,h=>by
    by_cases hy:y=Str.ofString "__class__"
    · subst hy
      rw [List.filter_cons_of_neg (by simp),List.lookup_cons,beq_eq_false_iff_ne.mpr h]
      exact vcells_lookup (c:=c) h
    · rw [List.filter_cons_of_pos (by simpa using hy),List.lookup_cons,List.lookup_cons]
      cases x == y with
      | true=>rfl
      | false=>exact vcells_lookup (c:=c) h
inductive LocNs (prog:Program) (w:World) (env:Env) (ρ:Rho) (Z:Addr→Obj→Prop) (αs:List Addr) (h:Heap):Prop
  | mk (m:Str→Option Value):h.Ns env.locals m→(∀ x v,ρ x=some v→env.kindOf x=some .local→∃ u,m x=some u∧Rep prog w Z αs u v)→LocNs prog w env ρ Z αs h
inductive LocCell (prog:Program) (w:World) (env:Env) (ρ:Rho) (Z:Addr→Obj→Prop) (αs:List Addr) (h:Heap) (x:Str):Prop
  | mk (c:Addr) (u:Option Value):env.cells.lookup x=some c→h.IsCell c u→(∀ v,ρ x=some v→∃ u',u=some u'∧Rep prog w Z αs u' v)→LocCell prog w env ρ Z αs h x
structure Off (base:Heap) (Z:Addr→Obj→Prop) (αs:List Addr) (h:Heap) (a:Addr):Prop where
  na:a ∉ αs
  nz:∀ o,¬ Z a o
  nb:base.get? a=none
  live:∃ o,h.get? a=some o
structure Loc (prog:Program) (w:World) (base:Heap) (env:Env) (ρ:Rho) (Z:Addr→Obj→Prop) (αs:List Addr) (h:Heap):Prop where
  kind:env.scope.kind=.function
  glob:env.globals=mainGlobals
  bi:env.builtins=builtinsNs
  ns:LocNs prog w env ρ Z αs h
  cell:∀ x,x≠Str.ofString "__class__" → (env.kindOf x=some .cell∨env.kindOf x=some .free)→LocCell prog w env ρ Z αs h x
  apart:∀ a ∈ env.locals::(vcells env).map (·.2),Off base Z αs h a
  nodup:(env.locals::(vcells env).map (·.2)).Nodup
theorem lookup_mem {α β:Type} [BEq α] [LawfulBEq α] {x:α} {c:β}:∀ {l:List (α×β)},l.lookup x=some c→c ∈ l.map (·.2)
  | (y,d)::r,e=>by
    rw [List.lookup_cons] at e
    split at e
    · cases e;exact .head _
    · exact .tail _ (lookup_mem e)
theorem vcells_mem {env:Env} {x:Str} {c:Addr} (hx:x≠Str.ofString "__class__") (h:env.cells.lookup x=some c):c ∈ (vcells env).map (·.2):=lookup_mem (x:=x) (by unfold vcells;rw [vcells_lookup (c:=c) hx];exact h)
theorem Loc.step {base:Heap} {env:Env} {ρ:Rho} {s s':Shared} (L:Loc prog w base env ρ Z αs s.heap) (x:Step lo Z αs s Z' αs' s'):Loc prog w base env ρ Z' αs' s'.heap where
  kind:=L.kind
  glob:=L.glob
  bi:=L.bi
  ns:=by
    obtain ⟨m,hn,hm⟩:=L.ns
    refine ⟨m,hn.at' fun o e=>x.keep _ _ (fun hm=>(L.apart _ (.head _)).1 (List.mem_of_mem_drop hm)) e,fun y v e k=>?_⟩
    obtain ⟨u,e1,e2⟩:=hm y v e k
    exact ⟨u,e1,e2.mono x.zsub x.asub⟩
  cell:=fun y hx hy=>by
    obtain ⟨c,u,e1,⟨o,ho,hd⟩,e3⟩:=L.cell y hx hy
    refine ⟨c,u,e1,⟨o,x.keep _ _ (fun hm=>(L.apart _ (.tail _ (vcells_mem hx e1))).1 (List.mem_of_mem_drop hm)) ho,hd⟩,fun v e=>?_⟩
    obtain ⟨u',e4,e5⟩:=e3 v e
    exact ⟨u',e4,e5.mono x.zsub x.asub⟩
  apart:=fun a ha=>by
    obtain ⟨h1,h2,h3,o,h4⟩:=L.apart a ha
    exact ⟨fun hm=>(by obtain ⟨t,rfl,ht⟩:=x.anew;exact (List.mem_append.mp hm).elim h1 fun e=>(by have:=ht a e;rw [h4] at this;cases this)),fun o' hz=>(x.znew a o' hz).elim (h2 o') fun e=>(by rw [h4] at e;cases e),h3,x.alive a o h4⟩
  nodup:=L.nodup
end
end Mine
namespace Mine
open PySem PySem.W PySem.Calls PyProof.Rows
noncomputable abbrev FF:Value→Shared→Prop:=fun _ _=>False
section
variable {lo:Nat} {prog:Program} {w:World} {cls:Str→Option Addr} {base:Heap} {Z:Addr→Obj→Prop} {αs:List Addr} {s:Shared} {μ:M} {A:Around}
inductive OutE (prog:Program) (w:World) (cls:Str→Option Addr) (base:Heap) (lo:Nat) (Z:Addr→Obj→Prop) (αs:List Addr) (s:Shared) (μ':M) (v:V) (x:Value) (s':Shared):Prop
  | mk (Z':Addr→Obj→Prop) (αs':List Addr):Step lo Z αs s Z' αs' s'→Inv prog w cls base Z' αs' μ' s'.heap→Rep prog w Z' αs' x v→OutE prog w cls base lo Z αs s μ' v x s'
theorem OutE.now {v:V} {x:Value} (I:Inv prog w cls base Z αs μ s.heap) (r:Rep prog w Z αs x v):OutE prog w cls base lo Z αs s μ v x s:=⟨Z,αs,.refl _ _ _ _,I,r⟩
theorem OutE.tok {v:V} {x:Value} {tk:Nat} (I:Inv prog w cls base Z αs μ s.heap) (r:Rep prog w Z αs x v):OutE prog w cls base lo Z αs s μ v x { s with toks:=tk }:=
  ⟨Z,αs,.of_keeps ⟨s.heap,tk,rfl,fun _ _ h=>h⟩,I,r⟩
theorem OutE.trans {Z':Addr→Obj→Prop} {αs':List Addr} {s₁ s':Shared} {v:V} {x:Value} (S:Step lo Z αs s Z' αs' s₁) (o:OutE prog w cls base lo Z' αs' s₁ μ v x s'):OutE prog w cls base lo Z αs s μ v x s':=by
  obtain ⟨Z'',αs'',S',I,r⟩:=o
  exact ⟨Z'',αs'',S.trans S',I,r⟩
theorem OutE.fastPush {v:V} {o:Obj} (I:Inv prog w cls base Z αs μ s.heap) (hf:o.isFreed=false) (r:Rep prog w (zadd Z s.heap.objs.size o) αs (.ref s.heap.objs.size) v) {tk:Nat} :
    OutE prog w cls base lo Z αs s μ v (.ref s.heap.objs.size) { s with heap:=s.heap.push o,toks:=tk }:=
  ⟨_,αs,.zpush (dead_size _) fun _ _ e=>Heap.get?_push_of_some _ e,I.zpush (dead_size _) (fun _ _ e=>Heap.get?_push_of_some _ e) (Heap.get?_push_size _ hf),r⟩
theorem rep_push_tup {vs:List Value} {ds:List V} {a:Addr} (hl:vs.length≤sizeLine) (r:Reps prog w Z αs vs ds):Rep prog w (zadd Z a { cls:=.type "tuple", data:=.seq vs.toArray }) αs (.ref a) (.tup ds):=
  .tup (.inr ⟨rfl,rfl⟩) rfl rfl hl (r.mono (fun _ _=>.inl) (List.prefix_refl _))
theorem rep_push_lst {vs:List Value} {ds:List V} {a:Addr} (hl:vs.length≤sizeLine) (r:Reps prog w Z αs vs ds):Rep prog w (zadd Z a { cls:=.type "list", data:=.seq vs.toArray }) αs (.ref a) (.lst ds):=
  .lst (.inr ⟨rfl,rfl⟩) rfl rfl hl (r.mono (fun _ _=>.inl) (List.prefix_refl _))
theorem tup_at (I:Inv prog w cls base Z αs μ s.heap) {x:Value} {ds:List V} {P:Value→Prop} (r:Rep prog w Z αs x (.tup ds)) (k:∀ a vs,s.heap.IsTuple a vs.toArray→vs.length≤sizeLine→Reps prog w Z αs vs ds→P (.ref a)):P x:=by
  obtain ⟨a,o,vs,n,hz,h1,h2,h3,h4⟩:=r.inv
  exact k _ _ ⟨_,I.fast _ _ hz,h1,_,h2⟩ h3 h4
theorem listV_of {v:V} {ds:List V} {P:V→Prop} (e:listV μ v=some ds) (h1:P (.lst ds)) (h2:∀ n,μ[n]?=some (.list ds)→P (.obj n)):P v:=by
  cases v <;> first | (cases e;exact h1) | (cases e;done) | skip
  refine bnd e fun m h3 h4=>?_
  revert h3
  apply lst_of h4
  exact h2 _
theorem list_at (I:Inv prog w cls base Z αs μ s.heap) {x:Value} {v:V} {ds:List V} {P:Value→Prop} (r:Rep prog w Z αs x v) (e:listV μ v=some ds) (k:∀ a vs,s.heap.IsList a vs.toArray→vs.length≤sizeLine→Reps prog w Z αs vs ds→P (.ref a)):P x:=by
  revert r
  apply listV_of e
  · intro r
    obtain ⟨a,o,vs,n,hz,h1,h2,h3,h4⟩:=r.inv
    exact k _ _ ⟨_,I.fast _ _ hz,h1,_,h2⟩ h3 h4
  · intro n hm r
    apply r.objE
    intro a ha
    obtain ⟨ws,h1,h2,h3⟩:=I.at_ _ _ _ ha hm
    exact k _ _ h1.isList h2 h3
theorem noFill_tuple_mul:fillsNumberSlot (.type "tuple") "mul" = pure false:=
  PySem.fillsNumberSlot_seq (id := "tuple.__mul__") (r:=some (.builtin "tuple.__rmul__")) F.slot_tuple_mul.lookup (by decide +kernel) F.slot_tuple_rmul.lookup (by decide +kernel)
theorem repeat_tuple:seqRepeat? (.type "tuple")=pure (some (.builtin "tuple.__mul__")):=by
  unfold seqRepeat?
  rw [PySem.seqSlot_of (T := "tuple") (name := "__mul__") (id := "tuple.__mul__") F.slot_tuple_mul.lookup (by decide +kernel),PySem.seqSlot_of (T := "tuple") (name := "__rmul__") (id := "tuple.__rmul__") F.slot_tuple_rmul.lookup (by decide +kernel)]
  rfl
theorem rmul_int_tuple (a:Int) (t:Tok) (l:Addr) (items:Array Value) (n:Nat) (dd:Option Addr) (sl:Array (Option Value)) :
    Meets (Builtin.«int.__rmul__» ⟨[.int a t,.ref l],[]⟩) (fun _ R s=>s.heap.get? l=some { cls:=.type "tuple", dict:=dd,data:=.seq items n,slots:=sl }∧R (.ok (.ret Value.notImplemented)) s):=
  .of_wp fun prog w A R s h=>by obtain ⟨hp,g,d,tk,os⟩:=s;obtain ⟨hl,h⟩:=h;wp_walk;exact ⟨_,rfl,h⟩
theorem mul_tuple_two (l:Addr) (x:Value) (n:Nat) (u:Tok) (dd:Option Addr) (sl:Array (Option Value)) :
    Meets (Builtin.«tuple.__mul__» ⟨[.ref l,.int 2 u],[]⟩) (fun _ R s=>s.heap.get? l=some { cls:=.type "tuple", dict:=dd,data:=.seq #[x] n,slots:=sl }∧R (.ok (.ret (Value.ref s.heap.objs.size))) { s with heap:=s.heap.push { cls:=Value.type "tuple", data:=Data.seq #[x,x] },toks:=s.toks }):=
  .of_wp fun prog w A R s h=>by
    obtain ⟨hp,g,d,tk,os⟩:=s;obtain ⟨hl,h⟩:=h
    have f1:=AutoSeq1.idx_int;have f2:=AutoSeq1.sub_tuple_tuple;have f3:=AutoSeq1.sub_list_list;have f4:=AutoSeq1.sub_tuple_list;have f5:=AutoSeq1.sub_list_tuple
    wp_walk using wpAny_loadPart' hl;exact ⟨_,rfl,h⟩
theorem fdiv_pos {a b:Int} (h:0<b):a.fmod b=a % b:=Int.fmod_eq_emod_of_nonneg a (Int.le_of_lt h)
theorem pow_small {a n:Int} (h0:0≤a) (h1:a≤16) (h2:0≤n) (h3:n≤64):(Builtin.Int.intBits a:Int) * n≤2 ^ 27:=by
  have hb:∀ k:Nat,k≤16→Builtin.Int.intBits (k:Int)≤64:=by decide
  have h4:=hb a.toNat (by omega)
  rw [Int.toNat_of_nonneg h0] at h4
  have h5:(Builtin.Int.intBits a:Int)≤64:=by exact_mod_cast h4
  have h6:(Builtin.Int.intBits a:Int) * n≤64 * n:=Int.mul_le_mul_of_nonneg_right h5 h2
  omega
theorem one_length {α:Type} {l:List α} {P:List α→Prop} (h:l.length=1) (k:∀ x,P [x]):P l:=by
  match l,h with
  | [x],_=>exact k x
theorem len_add {xs ys:List V} {vs ws:List Value} (r1:Reps prog w Z αs vs xs) (r2:Reps prog w Z αs ws ys) (hl:xs.length + ys.length≤sizeLim):vs.length + ws.length≤sizeLine:=by
  rw [r1.length,r2.length];exact Nat.le_trans hl (by decide)
theorem emp_y {vs:List Value} (h:vs=[]):vs.toArray.isEmpty=true:=by rw [h];rfl
theorem emp_n {vs:List Value} (h:vs≠[]):¬ vs.toArray.isEmpty=true:=by
  cases vs with
  | nil=>exact absurd rfl h
  | cons=>exact Bool.false_ne_true
theorem add_lists_ok (I:Inv prog w cls base Z αs μ s.heap) {x y:Value} {a b:V} {xs ys:List V} (Ra:Rep prog w Z αs x a) (Rb:Rep prog w Z αs y b) (ea:listV μ a=some xs) (eb:listV μ b=some ys) (hl:xs.length + ys.length≤sizeLim) :
    wpAny (model prog w) A (binaryOp .Add x y) (OutE prog w cls base lo Z αs s μ (.lst (xs++ys))) FF s:=by
  apply list_at I Ra ea
  rintro l vs ⟨⟨cls,dd,data,sl⟩,ho,hc,n,hd⟩ h1 r1
  apply list_at I Rb eb
  rintro l' ws ⟨⟨cls2,dd2,data2,sl2⟩,ho2,hc2,n2,hd2⟩ h2 r2
  cases hc;cases hd;cases hc2;cases hd2
  have hsz:=len_add r1 r2 hl
  refine concat_meets ⟨_,ho,rfl⟩ ⟨_,ho2,rfl⟩ noFill_list_add seq_list_add PySem.F.slot_list_add PySem.F.entry_list_add (PySem.F.args_list_add_2 _ _) (list_addW l l' vs.toArray ws.toArray n n2 dd dd2 sl sl2 hsz) ⟨ho,ho2,?_⟩
  rw [List.append_toArray]
  exact OutE.fastPush I rfl (rep_push_lst (by rw [List.length_append];exact hsz) (r1.append r2))
theorem add_tuples_ok (I:Inv prog w cls base Z αs μ s.heap) {x y:Value} {xs ys:List V} (Ra:Rep prog w Z αs x (.tup xs)) (Rb:Rep prog w Z αs y (.tup ys)) (hl:xs.length + ys.length≤sizeLim) :
    wpAny (model prog w) A (binaryOp .Add x y) (OutE prog w cls base lo Z αs s μ (.tup (xs++ys))) FF s:=by
  have Ra':=Ra
  have Rb':=Rb
  revert Ra' Rb'
  apply tup_at I Ra
  rintro l vs ⟨⟨cls,dd,data,sl⟩,ho,hc,n,hd⟩ h1 r1
  apply tup_at I Rb
  rintro l' ws ⟨⟨cls2,dd2,data2,sl2⟩,ho2,hc2,n2,hd2⟩ h2 r2 Ra Rb
  cases hc;cases hd;cases hc2;cases hd2
  have hsz:=len_add r1 r2 hl
  by_cases hv:vs=[]
  · have h0:xs=[]:=List.length_eq_zero_iff.mp (r1.length.symm.trans (by rw [hv];rfl))
    rw [h0]
    exact concat_meets ⟨_,ho,rfl⟩ ⟨_,ho2,rfl⟩ noFill_tuple_add seq_tuple_add PySem.F.slot_tuple_add PySem.F.entry_tuple_add (PySem.F.args_tuple_add_2 _ _)
      (tuple_addW0 l l' vs.toArray ws.toArray n n2 dd dd2 sl sl2 (emp_y hv)) ⟨ho,ho2,.now I Rb⟩
  · by_cases hw:ws=[]
    · have h0:ys=[]:=List.length_eq_zero_iff.mp (r2.length.symm.trans (by rw [hw];rfl))
      rw [h0,List.append_nil]
      exact concat_meets ⟨_,ho,rfl⟩ ⟨_,ho2,rfl⟩ noFill_tuple_add seq_tuple_add PySem.F.slot_tuple_add PySem.F.entry_tuple_add (PySem.F.args_tuple_add_2 _ _)
        (tuple_addW1 l l' vs.toArray ws.toArray n n2 dd dd2 sl sl2 (emp_n hv) (emp_y hw)) ⟨ho,ho2,.now I Ra⟩
    · refine concat_meets ⟨_,ho,rfl⟩ ⟨_,ho2,rfl⟩ noFill_tuple_add seq_tuple_add PySem.F.slot_tuple_add PySem.F.entry_tuple_add (PySem.F.args_tuple_add_2 _ _)
        (tuple_addW2 l l' vs.toArray ws.toArray n n2 dd dd2 sl sl2 (emp_n hv) (emp_n hw) hsz) ⟨ho,ho2,?_⟩
      rw [List.append_toArray]
      exact OutE.fastPush I rfl (rep_push_tup (by rw [List.length_append];exact hsz) (r1.append r2))
theorem mul_tuple_ok (I:Inv prog w cls base Z αs μ s.heap) {x y:Value} {a:V} (Ra:Rep prog w Z αs x (.tup [a])) (Rb:Rep prog w Z αs y (.int 2)) :
    wpAny (model prog w) A (binaryOp .Mult x y) (OutE prog w cls base lo Z αs s μ (.tup [a,a])) FF s:=by
  apply tup_at I Ra
  intro l vs hla h1 r1
  apply Rb.intE
  intro t
  have hl:vs.length=1:=r1.length
  revert r1 hla
  apply one_length hl
  rintro u ⟨⟨cls,dd,data,sl⟩,ho,hc,n,hd⟩ r1
  cases hc;cases hd
  have r:Rep prog w Z αs u a:=by cases r1;assumption
  exact wpAny_binaryOp_repeat_ref (T := "tuple") (U := "int") (by decide) ⟨_,ho,rfl⟩ (fun s'=>typeIs_int s' 2 t) noFill_tuple_mul F.fills_int_mul F.slot_int_rmul repeat_tuple F.slot_int_index.lookup
      (call_meets F.slot_int_rmul (typeIs_int s 2 t) F.entry_int_rmul (F.args_int_rmul_2 _ _) (rmul_int_tuple 2 t l _ n dd sl)
        ⟨ho,rfl,⟨_,ho,rfl⟩,call_meets F.slot_tuple_mul ⟨_,ho,rfl⟩ F.entry_tuple_mul (F.args_tuple_mul_2 _ _) (mul_tuple_two l u n t dd sl)
          ⟨ho,OutE.fastPush I rfl (rep_push_tup (vs:=[u,u]) (show 2≤sizeLine by decide) (.cons r (.one r)))⟩⟩)
theorem intsE {x y:Value} {a b:V} {i j:Int} {P:Value→Value→Prop} (Ra:Rep prog w Z αs x a) (Rb:Rep prog w Z αs y b) (h1:intOf a=some i) (h2:intOf b=some j) (k:∀ t u,P (.int i t) (.int j u)):P x y:=by
  revert Ra Rb
  apply int_of h1
  apply int_of h2
  intro Ra Rb
  apply Ra.intE
  intro t
  apply Rb.intE
  exact k t
theorem binV_ok (I:Inv prog w cls base Z αs μ s.heap) {op:Operator} {x y:Value} {a b v:V} (Ra:Rep prog w Z αs x a) (Rb:Rep prog w Z αs y b) (e:binV μ op a b=some v) :
    wpAny (model prog w) A (binaryOp op x y) (OutE prog w cls base lo Z αs s μ v) FF s:=by
  refine hide fun G k=>?_
  cases op
  case Add=>
    have e:addV μ a b=some v:=e
    unfold addV at e
    cases h1:intOf a with
    | some i=>
      rw [h1] at e
      exact k (mpd e fun j h2 h3=>h3 ▸ intsE (P:=fun x y=>wpAny (model prog w) A (binaryOp _ x y) _ FF s) Ra Rb h1 h2 fun t u=>PySem.P.add_int (.tok I (.int _ _)))
    | none=>
      rw [h1] at e
      cases h2:tupOf a with
      | some xs=>
        rw [h2] at e
        refine k (bnd e fun ys h3 h4=>ifd h4 fun hl h5=>h5 ▸ ?_)
        revert Ra Rb
        apply tup_of h2
        apply tup_of h3
        exact fun Ra Rb=>add_tuples_ok I Ra Rb hl
      | none=>
        rw [h2] at e
        exact k (bnd e fun xs h3 e=>bnd e fun ys h4 e=>ifd e fun hl h5=>h5 ▸ add_lists_ok I Ra Rb h3 h4 hl)
  case Sub=>exact k (bnd e fun i h1 e=>mpd e fun j h2 h3=>h3 ▸ intsE (P:=fun x y=>wpAny (model prog w) A (binaryOp _ x y) _ FF s) Ra Rb h1 h2 fun t u=>PyProof.Rows.sub_int (.tok I (.int _ _)))
  case Mult=>
    have e:(intOf b).bind _=some v:=e
    refine k (bnd e fun j h1 e=>?_)
    cases h2:intOf a with
    | some i=>
      rw [h2] at e
      exact ifd e fun hb h3=>h3 ▸ intsE (P:=fun x y=>wpAny (model prog w) A (binaryOp _ x y) _ FF s) Ra Rb h2 h1 fun t u=>PyProof.Rows.mul_int (.tok I (.int _ _))
    | none=>
      rw [h2] at e
      refine bnd e fun xs h3 e=>bnd e fun z h4 e=>ifd e fun hb h5=>h5 ▸ ?_
      revert Ra Rb
      apply int_of h1
      apply tup_of h3
      apply one_of h4
      intro Ra Rb
      rw [hb] at Rb
      exact mul_tuple_ok I Ra Rb
  case Mod=>exact k (bnd e fun i h1 e=>bnd e fun j h2 e=>ifd e fun hb h3=>h3 ▸ intsE (P:=fun x y=>wpAny (model prog w) A (binaryOp _ x y) _ FF s) Ra Rb h1 h2 fun t u=>fdiv_pos hb ▸ PyProof.Rows.mod_int' (Int.ne_of_gt hb) (.tok I (.int _ _)))
  case Pow=>exact k (bnd e fun i h1 e=>bnd e fun j h2 e=>ifd e fun hb h3=>h3 ▸ intsE (P:=fun x y=>wpAny (model prog w) A (binaryOp _ x y) _ FF s) Ra Rb h1 h2 fun t u=>PyProof.Rows.pow_int hb.2.2.1 (pow_small hb.1 hb.2.1 hb.2.2.1 hb.2.2.2) (.tok I (.int _ _)))
  all_goals cases e
end
end Mine
namespace Mine
open PySem PySem.W PySem.Calls PyProof.Rows
section
variable {lo:Nat} {prog:Program} {w:World} {cls:Str→Option Addr} {base:Heap} {Z:Addr→Obj→Prop} {αs:List Addr} {s:Shared} {μ:M} {A:Around}
inductive Lays (s:Shared) (n:Nat) (x:Value) (d:PyData):Prop
  | mk (as:List Addr):Reads s.heap x d as→d.canLay0=true→d.depth≤n→Lays s n x d
inductive LaysL (s:Shared) (n:Nat) (xs:List Value) (ds:List PyData):Prop
  | mk (as:List Addr):ReadsAll s.heap xs ds as→PyData.canLayAll0 ds=true→PyData.depthAll ds≤n→LaysL s n xs ds
theorem pdL_all {f:V→Option PyData} {n:Nat} (hf:∀ x v d,Rep prog w Z αs x v→f v=some d→Lays s n x d) :
    ∀ {vs:List V} {xs:List Value} {ds:List PyData},Reps prog w Z αs xs vs→pdL f vs=some ds→LaysL s n xs ds:=by
  intro vs
  induction vs with
  | nil=>intro xs ds r e;cases r;cases e;exact ⟨_,.nil,rfl,Nat.zero_le _⟩
  | cons v vs ih=>
    intro xs ds r e
    cases r with
    | cons r rs=>
      refine bnd e fun d h1 e=>mpd e fun ds' h2 e=>?_
      cases e
      obtain ⟨as,a1,a2,a3⟩:=hf _ _ _ r h1
      obtain ⟨bs,b1,b2,b3⟩:=ih rs h2
      exact ⟨_,.cons a1 b1,by rw [PyData.canLayAll0,a2,b2];rfl,by rw [PyData.depthAll];exact Nat.max_le.mpr ⟨a3,b3⟩⟩
theorem pdA_ok {n:Nat} {x:Value} {v:V} {d:PyData} (r:Rep prog w Z αs x v) (e:pdA v=some d):Lays s n x d:=by
  cases v with
  | none=>cases e;exact r.noneE (P:=fun x=>Lays s n x _) ⟨_,.none,rfl,Nat.zero_le _⟩
  | bool b=>cases e;exact r.boolE (P:=fun x=>Lays s n x _) ⟨_,.bool b,rfl,Nat.zero_le _⟩
  | int i=>cases e;exact r.intE (P:=fun x=>Lays s n x _) fun t=>⟨_,.int i t,rfl,Nat.zero_le _⟩
  | str y=>
    refine ifd e fun h e=>?_
    cases e;exact r.strE (P:=fun x=>Lays s n x _) fun t=>⟨_,.str y t,h,Nat.zero_le _⟩
  | _=>cases e
theorem pdV_reads (I:Inv prog w cls base Z αs μ s.heap):∀ (n:Nat) (x:Value) (v:V) (d:PyData),Rep prog w Z αs x v→pdV μ n v=some d→Lays s n x d:=by
  intro n
  induction n with
  | zero=>intro x v d r e;exact pdA_ok r e
  | succ n ih=>
    intro x v d r e
    refine hide fun G k=>?_
    unfold pdV at e
    cases h1:pdA v with
    | some d'=>rw [h1] at e;cases e;exact k (pdA_ok r h1)
    | none=>
      rw [h1] at e
      cases h2:tupOf v with
      | some vs=>
        rw [h2] at e
        refine mpd e fun ds e1 e=>?_
        cases e
        refine k ?_
        revert r
        apply tup_of h2
        intro r
        obtain ⟨a,o,xs,m,hz,h1,h2,h3,h4⟩:=r.inv
        obtain ⟨as,a1,a2,a3⟩:=pdL_all ih h4 e1
        exact ⟨_,reads_tuple_at (I.fast _ _ hz) h1 h2 a1,a2,by rw [PyData.depth];exact Nat.succ_le_succ a3⟩
      | none=>
        rw [h2] at e
        refine bnd e fun vs h3 e=>mpd e fun ds e1 e=>?_
        cases e
        refine k ?_
        apply list_at I r h3
        rintro a xs ⟨o,ho,hc,m,hd⟩ hl rr
        obtain ⟨as,a1,a2,a3⟩:=pdL_all ih rr e1
        exact ⟨_,reads_list_at ho hc hd a1,a2,by rw [PyData.depth];exact Nat.succ_le_succ a3⟩
structure Room (A:Around) (n:Nat):Prop where
  handled:A.handled=none
  depth:A.depth + 4 * n≤700
  units:A.units + 12 * n≤8000
theorem Room.c {A:Around} {n:Nat} (h:Room A n):A.units + 64<cLine:=by have:=h.units;rw [cLine_is];omega
theorem shaped_of {d:PyData} (h:d.canLay0=true) (hd:d.depth≤9):SeqAt.shaped d=true:=by
  unfold SeqAt.shaped;rw [h,Bool.true_and];exact decide_eq_true (Nat.le_trans hd (by decide))
theorem Lays.shaped {n:Nat} {x:Value} {d:PyData} (hn:n≤9) (h1:d.canLay0=true) (h2:d.depth≤n):SeqAt.shaped d=true:=shaped_of h1 (Nat.le_trans h2 hn)
theorem eqV_ok {n:Nat} (hR:Room A n) (I:Inv prog w cls base Z αs μ s.heap) {x y:Value} {a b:V} {r:Bool} (Ra:Rep prog w Z αs x a) (Rb:Rep prog w Z αs y b) (e:eqV μ a b=some r) {Q:Value→Shared→Prop} (h:Q (.bool r) s) :
    wpAny (model prog w) A (compareOp .Eq x y) Q FF s:=by
  refine bnd e fun d h1 e=>mpd e fun d' h2 e=>?_
  rw [← e] at h
  obtain ⟨as,a1,a2,a3⟩:=pdV_reads I _ _ _ _ Ra h1
  cases pdV_reads I _ _ _ _ Rb h2 with
    | mk bs b1 b2 b3=>exact eq_dataH a1 b1 (Lays.shaped (x:=x) (by decide) a2 a3) (Lays.shaped (x:=x) (by decide) b2 b3) hR.c h
theorem neV_ok {n:Nat} (hR:Room A n) (I:Inv prog w cls base Z αs μ s.heap) {x y:Value} {a b:V} {r:Bool} (Ra:Rep prog w Z αs x a) (Rb:Rep prog w Z αs y b) (e:eqV μ a b=some r) {Q:Value→Shared→Prop} (h:Q (.bool (!r)) s) :
    wpAny (model prog w) A (compareOp .NotEq x y) Q FF s:=by
  refine bnd e fun d h1 e=>mpd e fun d' h2 e=>?_
  rw [← e] at h
  obtain ⟨as,a1,a2,a3⟩:=pdV_reads I _ _ _ _ Ra h1
  cases pdV_reads I _ _ _ _ Rb h2 with
    | mk bs b1 b2 b3=>exact ne_dataH a1 b1 (Lays.shaped (x:=x) (by decide) a2 a3) (Lays.shaped (x:=x) (by decide) b2 b3) hR.c h
theorem intsOf_map:∀ {is:List Int},intsOf (is.map V.int)=some is
  | []=>rfl
  | i::is=>by
    show (intsOf (is.map V.int)).map _=_
    rw [intsOf_map];rfl
theorem intsOf_some:∀ {vs:List V} {is:List Int},intsOf vs=some is→vs=is.map V.int:=by
  intro vs
  induction vs with
  | nil=>intro is e;cases e;rfl
  | cons v vs ih=>
    intro is e
    refine bnd e fun i h1 e=>mpd e fun r h2 e=>?_
    rw [← e,ih h2]
    apply int_of h1
    rfl
theorem valueAt_some {kvs:List (Int×Value)} {i:Int}:(valueAt kvs i).isSome=decide (i ∈ kvs.map (·.1)):=by
  induction kvs with
  | nil=>rfl
  | cons p r ih=>
    unfold valueAt at ih ⊢
    rw [List.find?_cons]
    by_cases h:p.1=i
    · rw [decide_eq_true h,← h]
      exact (decide_eq_true (List.mem_cons_self ..)).symm
    · rw [decide_eq_false h,ih,List.map_cons]
      exact decide_eq_decide.mpr ⟨.tail _,fun hm=>(List.mem_cons.mp hm).elim (fun e=>absurd e.symm h) id⟩
theorem dct_map (I:Inv prog w cls base Z αs μ s.heap) {y:Value} {ks:List V} {is:List Int} {P:Value→Prop} (Rb:Rep prog w Z αs y (.dct ks)) (e:intsOf ks=some is)
    (k:∀ d f,(d == sysModules)=false→s.heap.MapOf (intKind prog w) d f→(∀ i,(f i).isSome=decide (i ∈ is))→P (.ref d)):P y:=by
  cases Rb.inv with
  | dI d o kvs js hk hz h0 h1 h2 h3=>
    rw [hk,intsOf_map] at e
    cases e
    exact k _ _ h0 (Heap.dictOf_iff.mpr ⟨_,I.fast _ _ hz,h1⟩).mapOf fun i=>by rw [valueAt_some,h2]
  | dT d o es ep hz h0 h1 h2 h3 h4 h5=>
    have hk:=intsOf_some e
    cases is with
    | cons i is=>
      obtain ⟨xs,hx⟩:=h5 (.int i) (by rw [hk];exact .head _)
      cases hx
    | nil=>
      rw [show ks=[] from hk] at h4
      have h6:es.length=0:=(List.length_map (f:=DictEntry.key)).symm.trans h4.length
      rw [List.length_eq_zero_iff.mp h6] at h2
      exact k _ (fun _=>none) h0 ⟨_,#[],_,I.fast _ _ hz,h1,h2,fun _ hm=>(nomatch hm),fun _=>rfl⟩ fun i=>(decide_eq_false (fun h=>nomatch h)).symm
theorem isInt_self (prog:Program) (w:World) (i:Int) (t:Tok):(intKind prog w).is i (.int i t)=true:=by
  simp [intKind,PySem.Value.isInt]
theorem in_deep {n:Nat} (hR:Room A n) {x y:Nat} (h1:x≤9):A.units + 1 + min x y<cLine:=by
  have:=hR.units;rw [cLine_is];have:=Nat.min_le_left x y;omega
theorem in_deep' {n:Nat} (hR:Room A n) {d:List PyData} {y:Nat} (h1:PyData.depthAll d + 1≤eqDeep + 1):A.units + 1 + min (PyData.depthAll d) y<cLine:=in_deep hR (Nat.le_of_succ_le h1)
theorem inV_any {n:Nat} (hR:Room A n) (I:Inv prog w cls base Z αs μ s.heap) {x y:Value} {a b:V} {r:Bool} (Ra:Rep prog w Z αs x a) (Rb:Rep prog w Z αs y b) (e:inV μ a b=some r) {P:Value→Value→Bool→Prop}
    (k1:∀ i t d f,(d == sysModules)=false→s.heap.MapOf (intKind prog w) d f→P (.int i t) (.ref d) (f i).isSome)
    (k2:∀ x y d ys as bs,Reads s.heap y (.tuple ys) bs→Reads s.heap x d as→(PyData.tuple ys).canLay0=true→d.canLay0=true→PyData.depthAll ys + 1≤eqDeep + 1→P x y (ys.any fun y=>PyData.eqv y d))
    (k3:∀ x y d ys as bs,Reads s.heap y (.list ys) bs→Reads s.heap x d as→(PyData.list ys).canLay0=true→d.canLay0=true→PyData.depthAll ys + 1≤eqDeep + 1→P x y (ys.any fun y=>PyData.eqv y d)):P x y r:=by
  unfold inV at e
  cases h1:dctOf b with
  | some ks=>
    rw [h1] at e
    refine bnd e fun i h2 e=>mpd e fun is h3 e=>?_
    rw [← e]
    revert Ra Rb
    apply dct_of h1
    apply int_of h2
    intro Ra Rb
    apply Ra.intE
    intro t
    apply dct_map I Rb h3
    intro d f h0 hm hf
    rw [← hf]
    exact k1 i t d f h0 hm
  | none=>
    rw [h1] at e
    refine bnd e fun d h2 e=>bnd e fun dy h3 e=>mpd e fun ys h4 e=>?_
    rw [← e]
    obtain ⟨as,a1,a2,a3⟩:=pdV_reads I _ _ _ _ Ra h2
    cases pdV_reads I _ _ _ _ Rb h3 with
      | mk bs b1 b2 b3=>
        cases dy <;> first | (cases h4;done) | skip
        · cases h4;rw [PyData.depth] at b3;exact k3 _ _ _ _ _ _ b1 a1 b2 a2 b3
        · cases h4;rw [PyData.depth] at b3;exact k2 _ _ _ _ _ _ b1 a1 b2 a2 b3
theorem inV_ok {n:Nat} (hR:Room A n) (I:Inv prog w cls base Z αs μ s.heap) {x y:Value} {a b:V} {r:Bool} (Ra:Rep prog w Z αs x a) (Rb:Rep prog w Z αs y b) (e:inV μ a b=some r) {Q:Value→Shared→Prop} (h:∀ tk,Q (.bool r) { s with toks:=tk }) :
    wpAny (model prog w) A (compareOp .In x y) Q FF s:=
  inV_any (P:=fun x y r=>(∀ tk,Q (.bool r) { s with toks:=tk })→wpAny (model prog w) A (compareOp .In x y) Q FF s) hR I Ra Rb e (fun i t d f h0 hm h=>wpAny_in_of (knd:=intKind prog w) (k:=i) (isInt_self prog w i _) h0 hm (h _))
    (fun _ _ _ _ _ _ b1 a1 b2 a2 hd h=>SeqAt.in_tuple_reads b1 a1 b2 a2 (in_deep' hR hd) (h s.toks)) (fun _ _ _ _ _ _ b1 a1 b2 a2 hd h=>SeqAt.in_list_reads b1 a1 b2 a2 (in_deep' hR hd) (h s.toks)) h
theorem notInV_ok {n:Nat} (hR:Room A n) (I:Inv prog w cls base Z αs μ s.heap) {x y:Value} {a b:V} {r:Bool} (Ra:Rep prog w Z αs x a) (Rb:Rep prog w Z αs y b) (e:inV μ a b=some r) {Q:Value→Shared→Prop} (h:∀ tk,Q (.bool (!r)) { s with toks:=tk }) :
    wpAny (model prog w) A (compareOp .NotIn x y) Q FF s:=
  inV_any (P:=fun x y r=>(∀ tk,Q (.bool (!r)) { s with toks:=tk })→wpAny (model prog w) A (compareOp .NotIn x y) Q FF s) hR I Ra Rb e (fun i t d f h0 hm h=>wpAny_notIn_of (knd:=intKind prog w) (k:=i) (isInt_self prog w i _) h0 hm (h _))
    (fun _ _ _ _ _ _ b1 a1 b2 a2 hd h=>SeqAt.notIn_tuple_reads b1 a1 b2 a2 (in_deep' hR hd) (h s.toks)) (fun _ _ _ _ _ _ b1 a1 b2 a2 hd h=>SeqAt.notIn_list_reads b1 a1 b2 a2 (in_deep' hR hd) (h s.toks)) h
theorem cmpI_ok {f:Int→Int→Bool} {x y:Value} {a b:V} {r:Bool} (Ra:Rep prog w Z αs x a) (Rb:Rep prog w Z αs y b) (e:cmpI f a b=some r) {P:Value→Value→Bool→Prop} (k:∀ i j t u,P (.int i t) (.int j u) (f i j)):P x y r:=
  bnd e fun i h1 e=>mpd e fun j h2 h3=>h3 ▸ intsE (P:=fun x y=>P x y (f i j)) Ra Rb h1 h2 (k i j)
theorem cmpV_ok {n:Nat} (hR:Room A n) (I:Inv prog w cls base Z αs μ s.heap) {op:CmpOp} {x y:Value} {a b:V} {r:Bool} (Ra:Rep prog w Z αs x a) (Rb:Rep prog w Z αs y b) (e:cmpV μ op a b=some r) (Q:Value→Shared→Prop) (h:∀ tk,Q (.bool r) { s with toks:=tk }) :
    wpAny (model prog w) A (compareOp op x y) Q FF s:=by
  have h0:Q (.bool r) s:=h s.toks
  refine hide fun G k=>?_
  cases op
  case Eq=>exact k (eqV_ok hR I Ra Rb e h0)
  case NotEq=>exact k (mpd e fun r' e1 e=>neV_ok hR I Ra Rb e1 (e ▸ h0))
  case Lt=>exact k (cmpI_ok (P:=fun x y r=>Q (.bool r) s→wpAny (model prog w) A (compareOp _ x y) Q FF s) Ra Rb e (fun _ _ _ _ h=>PySem.P.lt_int h) h0)
  case LtE=>exact k (cmpI_ok (P:=fun x y r=>Q (.bool r) s→wpAny (model prog w) A (compareOp _ x y) Q FF s) Ra Rb e (fun _ _ _ _ h=>PySem.P.le_int h) h0)
  case Gt=>exact k (cmpI_ok (P:=fun x y r=>Q (.bool r) s→wpAny (model prog w) A (compareOp _ x y) Q FF s) Ra Rb e (fun _ _ _ _ h=>PyProof.Rows.gt_int h) h0)
  case GtE=>exact k (cmpI_ok (P:=fun x y r=>Q (.bool r) s→wpAny (model prog w) A (compareOp _ x y) Q FF s) Ra Rb e (fun _ _ _ _ h=>PySem.P.ge_int h) h0)
  case Is=>
    refine k ?_
    cases b <;> first | (cases e;done) | skip
    apply Rb.noneE
    cases a <;> first | (cases e;done) | skip
    · cases e;apply Ra.noneE;exact wpAny_is_self rfl h0
    · cases e;apply Ra.boolE;exact wpAny_is_other rfl (fun h=>nomatch h) h0
    · cases e
      cases Ra.inv
      exact wpAny_is_other rfl (fun h=>nomatch h) h0
  case In=>exact k (inV_ok hR I Ra Rb e h)
  case NotIn=>exact k (mpd e fun r' e1 e=>notInV_ok hR I Ra Rb e1 (e ▸ h))
  all_goals cases e
end
end Mine
namespace Mine
open PySem PySem.W PySem.Calls PyProof.Rows
section
variable {lo:Nat} {prog:Program} {w:World} {cls:Str→Option Addr} {base:Heap} {Z:Addr→Obj→Prop} {αs:List Addr} {s:Shared} {μ μ':M} {A:Around} {env:Env} {ρ:Rho} {n:Nat}
noncomputable def SE (prog:Program) (w:World) (cls:Str→Option Addr) (base:Heap) (lo:Nat) (A:Around) (env:Env) (t:Sem Value) (ρ:Rho) (μ μ':M) (v:V):Prop:=
  ∀ Z αs s,Inv prog w cls base Z αs μ s.heap→Loc prog w base env ρ Z αs s.heap→wpAny (model prog w) A t (OutE prog w cls base lo Z αs s μ' v) FF s
inductive OutB (prog:Program) (w:World) (cls:Str→Option Addr) (base:Heap) (lo:Nat) (Z:Addr→Obj→Prop) (αs:List Addr) (s:Shared) (μ':M) (b:Bool) (x:Bool) (s':Shared):Prop
  | mk (h:x=b) (Z':Addr→Obj→Prop) (αs':List Addr):Step lo Z αs s Z' αs' s'→Inv prog w cls base Z' αs' μ' s'.heap→OutB prog w cls base lo Z αs s μ' b x s'
noncomputable def SB (prog:Program) (w:World) (cls:Str→Option Addr) (base:Heap) (lo:Nat) (A:Around) (env:Env) (t:Sem Bool) (ρ:Rho) (μ μ':M) (b:Bool):Prop:=
  ∀ Z αs s,Inv prog w cls base Z αs μ s.heap→Loc prog w base env ρ Z αs s.heap→wpAny (model prog w) A t (OutB prog w cls base lo Z αs s μ' b) FF s
theorem SE.use {t:Sem Value} {v:V} {Q:Value→Shared→Prop} (h:SE prog w cls base lo A env t ρ μ μ' v) (I:Inv prog w cls base Z αs μ s.heap) (L:Loc prog w base env ρ Z αs s.heap)
    (k:∀ x Z' αs' s',Step lo Z αs s Z' αs' s'→Inv prog w cls base Z' αs' μ' s'.heap→Loc prog w base env ρ Z' αs' s'.heap→Rep prog w Z' αs' x v→Q x s'):wpAny (model prog w) A t Q FF s:=
  wpAny_mono (h Z αs s I L) (fun x s' ⟨Z',αs',S,I',r⟩=>k x Z' αs' s' S I' (L.step S) r) fun _ _ e=>e
theorem SB.use {t:Sem Bool} {b:Bool} {Q:Bool→Shared→Prop} (h:SB prog w cls base lo A env t ρ μ μ' b) (I:Inv prog w cls base Z αs μ s.heap) (L:Loc prog w base env ρ Z αs s.heap)
    (k:∀ Z' αs' s',Step lo Z αs s Z' αs' s'→Inv prog w cls base Z' αs' μ' s'.heap→Loc prog w base env ρ Z' αs' s'.heap→Q b s'):wpAny (model prog w) A t Q FF s:=
  wpAny_mono (h Z αs s I L) (fun x s' ⟨e,Z',αs',S,I'⟩=>e ▸ k Z' αs' s' S I' (L.step S)) fun _ _ e=>e
theorem wp_trans {t:Sem Value} {Z':Addr→Obj→Prop} {αs':List Addr} {s₁:Shared} {v:V} (S:Step lo Z αs s Z' αs' s₁) (h:wpAny (model prog w) A t (OutE prog w cls base lo Z' αs' s₁ μ v) FF s₁) :
    wpAny (model prog w) A t (OutE prog w cls base lo Z αs s μ v) FF s₁:=wpAny_mono h (fun _ _ o=>o.trans S) fun _ _ e=>e
theorem SE.var {x:Str} {pos:Pos} {v:V} (hx:x≠Str.ofString "__debug__") (hk:env.kindOf x=some .local∨env.kindOf x=some .cell∨env.kindOf x=some .free) (hv:ρ x=some v) (hc:x≠Str.ofString "__classdict__") (hcl:x≠Str.ofString "__class__") :
    SE prog w cls base lo A env (eval (.Name x pos) env) ρ μ μ v:=fun Z αs s I L=>by
  refine wpAny_Name ?_ (beq_eq_false_iff_ne.mpr hx)
  rcases hk with hk | hk | hk
  · obtain ⟨m,hn,hm⟩:=L.ns
    obtain ⟨u,e,r⟩:=hm x v hv hk
    exact wpAny_loadName_local L.kind hk hn e (.now I r)
  · obtain ⟨c,u,e,hcell,hr⟩:=L.cell x hcl (.inl hk)
    obtain ⟨u',e',r⟩:=hr v hv
    exact wpAny_loadName_cell L.kind hk e (e' ▸ hcell) (.now I r)
  · obtain ⟨c,u,e,hcell,hr⟩:=L.cell x hcl (.inr hk)
    obtain ⟨u',e',r⟩:=hr v hv
    exact wpAny_loadName_free L.kind hk e (e' ▸ hcell) (.now I r) (beq_eq_false_iff_ne.mpr hc)
theorem SE.int {i:Int} {k:Nat} {pos:Pos}:SE prog w cls base lo A env (eval (.Constant (.int i) k pos) env) ρ μ μ (.int i):=fun _ _ _ I _=>wpAny_Constant_int (.tok I (.int _ _))
theorem SE.str {x:Str} {k:Nat} {pos:Pos}:SE prog w cls base lo A env (eval (.Constant (.str x) k pos) env) ρ μ μ (.str x):=fun _ _ _ I _=>wpAny_Constant_str (.tok I (.str _ _))
theorem SE.bool {b:Bool} {k:Nat} {pos:Pos}:SE prog w cls base lo A env (eval (.Constant (.bool b) k pos) env) ρ μ μ (.bool b):=fun _ _ _ I _=>wpAny_Constant_bool (.now I (.bool b))
theorem SE.none {k:Nat} {pos:Pos}:SE prog w cls base lo A env (eval (.Constant .none k pos) env) ρ μ μ .none:=fun _ _ _ I _=>wpAny_Constant_none (.now I .none)
theorem SE.bin {l r:Expr} {op:Operator} {pos:Pos} {μ₁ μ₂:M} {a b v:V} (ha:SE prog w cls base lo A env (eval l env) ρ μ μ₁ a) (hb:SE prog w cls base lo A env (eval r env) ρ μ₁ μ₂ b) (e:binV μ₂ op a b=some v) :
    SE prog w cls base lo A env (eval (.BinOp l op r pos) env) ρ μ μ₂ v:=fun Z αs s I L=>
  wpAny_BinOp (ha.use I L fun x Z₁ α₁ s₁ S₁ I₁ L₁ R₁=>hb.use I₁ L₁ fun y Z₂ α₂ s₂ S₂ I₂ _ R₂=>wp_trans (S₁.trans S₂) (binV_ok I₂ (R₁.mono S₂.zsub S₂.asub) R₂ e))
theorem SE.neg {x:Expr} {pos:Pos} {i:Int} (ha:SE prog w cls base lo A env (eval x env) ρ μ μ' (.int i)):SE prog w cls base lo A env (eval (.UnaryOp .USub x pos) env) ρ μ μ' (.int (-i)):=fun Z αs s I L=>
  wpAny_UnaryOp (ha.use I L fun x Z₁ α₁ s₁ S₁ I₁ _ R₁=>wp_trans S₁ (R₁.intE (P:=fun x=>wpAny _ _ (unaryOp .USub x) _ _ _) fun _=>PySem.P.neg_int (.tok I₁ (.int _ _))))
theorem SE.not {x:Expr} {pos:Pos} {b:Bool} (ha:SE prog w cls base lo A env (eval x env) ρ μ μ' (.bool b)):SE prog w cls base lo A env (eval (.UnaryOp .Not x pos) env) ρ μ μ' (.bool (!b)):=fun Z αs s I L=>
  wpAny_UnaryOp (ha.use I L fun x Z₁ α₁ s₁ S₁ I₁ _ R₁=>wp_trans S₁ (R₁.boolE (P:=fun x=>wpAny _ _ (unaryOp .Not x) _ _ _) (not_of (wpAny_truthy_bool (.now I₁ (.bool _))))))
theorem SB.value {e:Expr} {b:Bool} (h:SE prog w cls base lo A env (eval e env) ρ μ μ' (.bool b)) (he:∀ t,isTrue e env t=(do let v ← t;standAt e.pos;holding [v] (truthy v))) :
    SB prog w cls base lo A env (isTrue e env (eval e env)) ρ μ μ' b:=fun Z αs s I L=>
  wpAny_isTrue_value (h.use I L fun x Z₁ α₁ s₁ S₁ I₁ _ R₁=>R₁.boolE (P:=fun x=>wpAny _ _ (truthy x) _ _ _) (wpAny_truthy_bool ⟨rfl,Z₁,α₁,S₁,I₁⟩)) (he _)
theorem SB.not {x:Expr} {pos:Pos} {t:Sem Value} {b:Bool} (h:SB prog w cls base lo A env (isTrue x env (eval x env)) ρ μ μ' b):SB prog w cls base lo A env (isTrue (.UnaryOp .Not x pos) env t) ρ μ μ' (!b):=fun Z αs s I L=>
  wpAny_isTrue_Not (h.use I L fun Z₁ α₁ s₁ S₁ I₁ _=>⟨rfl,Z₁,α₁,S₁,I₁⟩)
theorem OutB.trans {Z':Addr→Obj→Prop} {αs':List Addr} {s₁ s':Shared} {b x:Bool} (S:Step lo Z αs s Z' αs' s₁) (o:OutB prog w cls base lo Z' αs' s₁ μ b x s'):OutB prog w cls base lo Z αs s μ b x s':=
  by obtain ⟨e,Z'',αs'',S',I⟩:=o;exact ⟨e,Z'',αs'',S.trans S',I⟩
theorem SB.then {t:Sem Bool} {b:Bool} {Z':Addr→Obj→Prop} {αs':List Addr} {s₁:Shared} (h:SB prog w cls base lo A env t ρ μ μ' b) (S:Step lo Z αs s Z' αs' s₁) (I:Inv prog w cls base Z' αs' μ s₁.heap) (L:Loc prog w base env ρ Z' αs' s₁.heap) :
    wpAny (model prog w) A t (OutB prog w cls base lo Z αs s μ' b) FF s₁:=wpAny_mono (h Z' αs' s₁ I L) (fun _ _ o=>o.trans S) fun _ _ e=>e
theorem SE.then {t:Sem Value} {v:V} {Z':Addr→Obj→Prop} {αs':List Addr} {s₁:Shared} (h:SE prog w cls base lo A env t ρ μ μ' v) (S:Step lo Z αs s Z' αs' s₁) (I:Inv prog w cls base Z' αs' μ s₁.heap) (L:Loc prog w base env ρ Z' αs' s₁.heap) :
    wpAny (model prog w) A t (OutE prog w cls base lo Z αs s μ' v) FF s₁:=wpAny_mono (h Z' αs' s₁ I L) (fun _ _ o=>o.trans S) fun _ _ e=>e
theorem SB.ite {t a b:Expr} {pos:Pos} {whole:Sem Value} {c r:Bool} {μ₁:M} (ht:SB prog w cls base lo A env (isTrue t env (eval t env)) ρ μ μ₁ c)
    (ha:c=true→SB prog w cls base lo A env (isTrue a env (eval a env)) ρ μ₁ μ' r) (hb:c=false→SB prog w cls base lo A env (isTrue b env (eval b env)) ρ μ₁ μ' r) :
    SB prog w cls base lo A env (isTrue (.IfExp t a b pos) env whole) ρ μ μ' r:=fun Z αs s I L=>
  isTrue_IfExp (ht.use I L fun Z₁ α₁ s₁ S₁ I₁ L₁=>by
    cases c with
    | true=>exact (ha rfl).then S₁ I₁ L₁
    | false=>exact (hb rfl).then S₁ I₁ L₁)
theorem SE.ite {t a b:Expr} {pos:Pos} {c:Bool} {v:V} {μ₁:M} (ht:SB prog w cls base lo A env (isTrue t env (eval t env)) ρ μ μ₁ c)
    (ha:c=true→SE prog w cls base lo A env (eval a env) ρ μ₁ μ' v) (hb:c=false→SE prog w cls base lo A env (eval b env) ρ μ₁ μ' v) :
    SE prog w cls base lo A env (eval (.IfExp t a b pos) env) ρ μ μ' v:=fun Z αs s I L=>
  wpAny_IfExp (ht.use I L fun Z₁ α₁ s₁ S₁ I₁ L₁=>by
    cases c with
    | true=>exact (ha rfl).then S₁ I₁ L₁
    | false=>exact (hb rfl).then S₁ I₁ L₁)
theorem SE.cmp (hR:Room A n) {l r:Expr} {op:CmpOp} {pos:Pos} {μ₁ μ₂:M} {a b:V} {c:Bool} (ha:SE prog w cls base lo A env (eval l env) ρ μ μ₁ a) (hb:SE prog w cls base lo A env (eval r env) ρ μ₁ μ₂ b) (e:cmpV μ₂ op a b=some c) (hm:behindInMarks op r=false) :
    SE prog w cls base lo A env (eval (.Compare l [op] [r] pos) env) ρ μ μ₂ (.bool c):=fun Z αs s I L=>
  wpAny_Compare1 (ha.use I L fun x Z₁ α₁ s₁ S₁ I₁ L₁ R₁=>hb.use I₁ L₁ fun y Z₂ α₂ s₂ S₂ I₂ _ R₂=>wp_trans (S₁.trans S₂) (cmpV_ok hR I₂ (R₁.mono S₂.zsub S₂.asub) R₂ e _ fun tk=>.tok I₂ (.bool c))) hm
theorem SB.cmp (hR:Room A n) {l r:Expr} {op:CmpOp} {pos:Pos} {whole:Sem Value} {μ₁ μ₂:M} {a b:V} {c:Bool} (ha:SE prog w cls base lo A env (eval l env) ρ μ μ₁ a) (hb:SE prog w cls base lo A env (eval r env) ρ μ₁ μ₂ b) (e:cmpV μ₂ op a b=some c) (hm:behindInMarks op r=false) :
    SB prog w cls base lo A env (isTrue (.Compare l [op] [r] pos) env whole) ρ μ μ₂ c:=fun Z αs s I L=>
  wpAny_isTrue_Compare1 (ha.use I L fun x Z₁ α₁ s₁ S₁ I₁ L₁ R₁=>hb.use I₁ L₁ fun y Z₂ α₂ s₂ S₂ I₂ _ R₂=>
    cmpV_ok hR I₂ (R₁.mono S₂.zsub S₂.asub) R₂ e _ fun tk=>wpAny_truthy_bool ⟨rfl,Z₂,α₂,(S₁.trans S₂).trans (.of_keeps ⟨s₂.heap,tk,rfl,fun _ _ h=>h⟩),I₂⟩) hm
theorem Step.tok {tk:Nat}:Step lo Z αs s Z αs { s with toks:=tk }:=.of_keeps ⟨s.heap,tk,rfl,fun _ _ h=>h⟩
theorem SE.chain (hR:Room A n) {l r r':Expr} {op op':CmpOp} {pos:Pos} {μ₁ μ₂:M} {a b:V} {c d:Bool} (ha:SE prog w cls base lo A env (eval l env) ρ μ μ₁ a) (hb:SE prog w cls base lo A env (eval r env) ρ μ₁ μ₂ b) (e:cmpV μ₂ op a b=some c)
    (hf:c=false→μ'=μ₂∧d=false) (ht:c=true→∃ v,SE prog w cls base lo A env (eval r' env) ρ μ₂ μ' v∧cmpV μ' op' b v=some d) (hm:lastMarks [op,op'] [r,r']=false) :
    SE prog w cls base lo A env (eval (.Compare l [op,op'] [r,r'] pos) env) ρ μ μ' (.bool d):=fun Z αs s I L=>
  Compare_chain (ha.use I L fun x Z₁ α₁ s₁ S₁ I₁ L₁ R₁=>chain_link (hb.use I₁ L₁ fun y Z₂ α₂ s₂ S₂ I₂ L₂ R₂=>
    cmpV_ok hR I₂ (R₁.mono S₂.zsub S₂.asub) R₂ e _ fun tk=>wpAny_truthy_bool (by
      have S₃:=(S₁.trans S₂).trans (Step.tok (tk:=tk))
      cases c with
      | false=>obtain ⟨rfl,rfl⟩:=hf rfl;exact ⟨Z₂,α₂,S₃,I₂,.bool _⟩
      | true=>
        obtain ⟨v,h1,h2⟩:=ht rfl
        exact chain_last (h1.use (s:={ s₂ with toks:=tk }) I₂ L₂ fun z Z₄ α₄ s₄ S₄ I₄ _ R₄=>wp_trans (S₃.trans S₄) (cmpV_ok hR I₄ (R₂.mono S₄.zsub S₄.asub) R₄ h2 _ fun tk'=>.tok I₄ (.bool d)))))) hm
theorem SB.chain (hR:Room A n) {l r r':Expr} {op op':CmpOp} {pos:Pos} {whole:Sem Value} {μ₁ μ₂:M} {a b:V} {c d:Bool} (ha:SE prog w cls base lo A env (eval l env) ρ μ μ₁ a) (hb:SE prog w cls base lo A env (eval r env) ρ μ₁ μ₂ b) (e:cmpV μ₂ op a b=some c)
    (hf:c=false→μ'=μ₂∧d=false) (ht:c=true→∃ v,SE prog w cls base lo A env (eval r' env) ρ μ₂ μ' v∧cmpV μ' op' b v=some d) (hm:lastMarks [op,op'] [r,r']=false) :
    SB prog w cls base lo A env (isTrue (.Compare l [op,op'] [r,r'] pos) env whole) ρ μ μ' d:=fun Z αs s I L=>
  isTrue_chain (ha.use I L fun x Z₁ α₁ s₁ S₁ I₁ L₁ R₁=>test_link (hb.use I₁ L₁ fun y Z₂ α₂ s₂ S₂ I₂ L₂ R₂=>
    cmpV_ok hR I₂ (R₁.mono S₂.zsub S₂.asub) R₂ e _ fun tk=>wpAny_truthy_bool (by
      have S₃:=(S₁.trans S₂).trans (Step.tok (tk:=tk))
      cases c with
      | false=>obtain ⟨rfl,rfl⟩:=hf rfl;exact ⟨rfl,Z₂,α₂,S₃,I₂⟩
      | true=>
        obtain ⟨v,h1,h2⟩:=ht rfl
        exact test_last (h1.use (s:={ s₂ with toks:=tk }) I₂ L₂ fun z Z₄ α₄ s₄ S₄ I₄ _ R₄=>cmpV_ok hR I₄ (R₂.mono S₄.zsub S₄.asub) R₄ h2 _ fun tk'=>wpAny_truthy_bool ⟨rfl,Z₄,α₄,(S₃.trans S₄).trans .tok,I₄⟩)))) hm
inductive SAnd (prog:Program) (w:World) (cls:Str→Option Addr) (base:Heap) (lo:Nat) (A:Around) (env:Env) (ρ:Rho):List Expr→M→M→Bool→Prop
  | nil {μ:M}:SAnd prog w cls base lo A env ρ [] μ μ true
  | no {e:Expr} {es:List Expr} {μ μ₁:M}:SB prog w cls base lo A env (isTrue e env (eval e env)) ρ μ μ₁ false→SE prog w cls base lo A env (eval e env) ρ μ μ₁ (.bool false)→SAnd prog w cls base lo A env ρ (e::es) μ μ₁ false
  | yes {e:Expr} {es:List Expr} {μ μ₁ μ₂:M} {b:Bool}:SB prog w cls base lo A env (isTrue e env (eval e env)) ρ μ μ₁ true→SE prog w cls base lo A env (eval e env) ρ μ μ₁ (.bool true)→SAnd prog w cls base lo A env ρ es μ₁ μ₂ b→SAnd prog w cls base lo A env ρ (e::es) μ μ₂ b
inductive SOr (prog:Program) (w:World) (cls:Str→Option Addr) (base:Heap) (lo:Nat) (A:Around) (env:Env) (ρ:Rho):List Expr→M→M→Bool→Prop
  | nil {μ:M}:SOr prog w cls base lo A env ρ [] μ μ false
  | no {e:Expr} {es:List Expr} {μ μ₁:M}:SB prog w cls base lo A env (isTrue e env (eval e env)) ρ μ μ₁ true→SE prog w cls base lo A env (eval e env) ρ μ μ₁ (.bool true)→SOr prog w cls base lo A env ρ (e::es) μ μ₁ true
  | yes {e:Expr} {es:List Expr} {μ μ₁ μ₂:M} {b:Bool}:SB prog w cls base lo A env (isTrue e env (eval e env)) ρ μ μ₁ false→SE prog w cls base lo A env (eval e env) ρ μ μ₁ (.bool false)→SOr prog w cls base lo A env ρ es μ₁ μ₂ b→SOr prog w cls base lo A env ρ (e::es) μ μ₂ b
theorem SAnd.all {es:List Expr} {b:Bool} (h:SAnd prog w cls base lo A env ρ es μ μ' b):SB prog w cls base lo A env (allTrue .And es env) ρ μ μ' b:=by
  induction h with
  | nil=>exact fun Z αs s I L=>wpAny_allTrue_And_nil ⟨rfl,Z,αs,.refl _ _ _ _,I⟩
  | no h _=>exact fun Z αs s I L=>wpAny_allTrue_And_cons (h.use I L fun Z₁ α₁ s₁ S₁ I₁ _=>⟨rfl,Z₁,α₁,S₁,I₁⟩)
  | yes h _ _ ih=>exact fun Z αs s I L=>wpAny_allTrue_And_cons (h.use I L fun Z₁ α₁ s₁ S₁ I₁ L₁=>ih.then S₁ I₁ L₁)
theorem SOr.all {es:List Expr} {b:Bool} (h:SOr prog w cls base lo A env ρ es μ μ' b):SB prog w cls base lo A env (allTrue .Or es env) ρ μ μ' b:=by
  induction h with
  | nil=>exact fun Z αs s I L=>wpAny_allTrue_Or_nil ⟨rfl,Z,αs,.refl _ _ _ _,I⟩
  | no h _=>exact fun Z αs s I L=>wpAny_allTrue_Or_cons (h.use I L fun Z₁ α₁ s₁ S₁ I₁ _=>⟨rfl,Z₁,α₁,S₁,I₁⟩)
  | yes h _ _ ih=>exact fun Z αs s I L=>wpAny_allTrue_Or_cons (h.use I L fun Z₁ α₁ s₁ S₁ I₁ L₁=>ih.then S₁ I₁ L₁)
theorem SAnd.value {es:List Expr} {b:Bool} {pos:Pos} (h:SAnd prog w cls base lo A env ρ es μ μ' b) (hne:es≠[]):SE prog w cls base lo A env (boolOp pos .And (evalEach es env)) ρ μ μ' (.bool b):=by
  induction h with
  | nil=>exact absurd rfl hne
  | @no e es _ _ _ h=>
    cases es with
    | nil=>exact h
    | cons e' es=>exact fun Z αs s I L=>wpAny_bind (h.use I L fun x Z₁ α₁ s₁ S₁ I₁ L₁ R₁=>by
        apply R₁.boolE;exact wpAny_bind (wpAny_standAt (wpAny_bind (wpAny_holding (wpAny_truthy_bool (wpAny_pure ⟨Z₁,α₁,S₁,I₁,.bool _⟩))))))
  | @yes e es _ _ _ _ _ h hr ih=>
    cases es with
    | nil=>cases hr;exact h
    | cons e' es=>exact fun Z αs s I L=>wpAny_bind (h.use I L fun x Z₁ α₁ s₁ S₁ I₁ L₁ R₁=>by
        apply R₁.boolE;exact wpAny_bind (wpAny_standAt (wpAny_bind (wpAny_holding (wpAny_truthy_bool ((ih (by simp)).then S₁ I₁ L₁))))))
theorem SOr.value {es:List Expr} {b:Bool} {pos:Pos} (h:SOr prog w cls base lo A env ρ es μ μ' b) (hne:es≠[]):SE prog w cls base lo A env (boolOp pos .Or (evalEach es env)) ρ μ μ' (.bool b):=by
  induction h with
  | nil=>exact absurd rfl hne
  | @no e es _ _ _ h=>
    cases es with
    | nil=>exact h
    | cons e' es=>exact fun Z αs s I L=>wpAny_bind (h.use I L fun x Z₁ α₁ s₁ S₁ I₁ L₁ R₁=>by
        apply R₁.boolE;exact wpAny_bind (wpAny_standAt (wpAny_bind (wpAny_holding (wpAny_truthy_bool (wpAny_pure ⟨Z₁,α₁,S₁,I₁,.bool _⟩))))))
  | @yes e es _ _ _ _ _ h hr ih=>
    cases es with
    | nil=>cases hr;exact h
    | cons e' es=>exact fun Z αs s I L=>wpAny_bind (h.use I L fun x Z₁ α₁ s₁ S₁ I₁ L₁ R₁=>by
        apply R₁.boolE;exact wpAny_bind (wpAny_standAt (wpAny_bind (wpAny_holding (wpAny_truthy_bool ((ih (by simp)).then S₁ I₁ L₁))))))
inductive OutEs (prog:Program) (w:World) (cls:Str→Option Addr) (base:Heap) (lo:Nat) (Z:Addr→Obj→Prop) (αs:List Addr) (s:Shared) (μ':M) (vs:List V) (xs:List Value) (s':Shared):Prop
  | mk (Z':Addr→Obj→Prop) (αs':List Addr):Step lo Z αs s Z' αs' s'→Inv prog w cls base Z' αs' μ' s'.heap→Reps prog w Z' αs' xs vs→OutEs prog w cls base lo Z αs s μ' vs xs s'
noncomputable def SEs (prog:Program) (w:World) (cls:Str→Option Addr) (base:Heap) (lo:Nat) (A:Around) (env:Env) (es:List Expr) (ρ:Rho) (μ μ':M) (vs:List V):Prop:=
  ∀ pos Z αs s,Inv prog w cls base Z αs μ s.heap→Loc prog w base env ρ Z αs s.heap→wpAny (model prog w) A (spliced (backTo pos (starEach es env))) (OutEs prog w cls base lo Z αs s μ' vs) FF s
theorem starEach_of {e:Expr} {r:List Expr} (h:isStar e=false):starEach (e::r) env=(false,eval e env)::starEach r env:=by
  cases e <;> first | rfl | cases h
theorem SEs.nil:SEs prog w cls base lo A env [] ρ μ μ []:=fun pos Z αs s I L=>wpAny_pure ⟨Z,αs,.refl _ _ _ _,I,.nil⟩
theorem SEs.cons {e:Expr} {es:List Expr} {μ₁:M} {v:V} {vs:List V} (hs:isStar e=false) (h:SE prog w cls base lo A env (eval e env) ρ μ μ₁ v) (r:SEs prog w cls base lo A env es ρ μ₁ μ' vs):SEs prog w cls base lo A env (e::es) ρ μ μ' (v::vs):=fun pos Z αs s I L=>
  wpAny_items_cons (h.use I L fun x Z₁ α₁ s₁ S₁ I₁ L₁ R₁=>wpAny_mono (r pos Z₁ α₁ s₁ I₁ L₁) (fun xs s₂ ⟨Z₂,α₂,S₂,I₂,R₂⟩=>⟨Z₂,α₂,S₁.trans S₂,I₂,.cons (R₁.mono S₂.zsub S₂.asub) R₂⟩) fun _ _ e=>e) (starEach_of hs)
theorem SEs.use {es:List Expr} {pos:Pos} {vs:List V} {Q:List Value→Shared→Prop} (h:SEs prog w cls base lo A env es ρ μ μ' vs) (I:Inv prog w cls base Z αs μ s.heap) (L:Loc prog w base env ρ Z αs s.heap)
    (k:∀ xs Z' αs' s',Step lo Z αs s Z' αs' s'→Inv prog w cls base Z' αs' μ' s'.heap→Loc prog w base env ρ Z' αs' s'.heap→Reps prog w Z' αs' xs vs→Q xs s'):wpAny (model prog w) A (spliced (backTo pos (starEach es env))) Q FF s:=
  wpAny_mono (h pos Z αs s I L) (fun x s' ⟨Z',αs',S,I',r⟩=>k x Z' αs' s' S I' (L.step S) r) fun _ _ e=>e
theorem SE.tuple {es:List Expr} {k:Nat} {pos:Pos} {vs:List V} (h:SEs prog w cls base lo A env es ρ μ μ' vs) (hl:vs.length≤100):SE prog w cls base lo A env (eval (.Tuple es k pos) env) ρ μ μ' (.tup vs):=fun Z αs s I L=>
  PySem.wpAny_Tuple (h.use I L fun xs Z₁ α₁ s₁ S₁ I₁ _ R₁=>⟨by rw [R₁.length];exact Nat.le_trans hl (by decide),(OutE.fastPush I₁ rfl (rep_push_tup (by rw [R₁.length];exact Nat.le_trans hl (by decide)) R₁)).trans S₁⟩)
theorem SE.list {es:List Expr} {pos:Pos} {vs:List V} (h:SEs prog w cls base lo A env es ρ μ μ' vs) (hl:vs.length≤100):SE prog w cls base lo A env (eval (.List es pos) env) ρ μ μ' (.lst vs):=fun Z αs s I L=>
  PySem.wpAny_List (h.use I L fun xs Z₁ α₁ s₁ S₁ I₁ _ R₁=>⟨by rw [R₁.length];exact Nat.le_trans hl (by decide),(OutE.fastPush I₁ rfl (rep_push_lst (by rw [R₁.length];exact Nat.le_trans hl (by decide)) R₁)).trans S₁⟩)
theorem OutE.ownPush {ds:List V} {vs:List Value} (I:Inv prog w cls base Z αs μ s.heap) (hl:vs.length≤sizeLine) (r:Reps prog w Z αs vs ds) {tk:Nat} :
    OutE prog w cls base lo Z αs s (μ++[.list ds]) (.obj μ.length) (.ref s.heap.objs.size) { s with heap:=s.heap.push { cls:=.type "list", data:=.seq vs.toArray },toks:=tk }:=
  ⟨Z,αs++[s.heap.objs.size],.apush (dead_size _) fun _ _ e=>Heap.get?_push_of_some _ e,
    I.apush (dead_size _) (fun _ _ e=>Heap.get?_push_of_some _ e) ⟨vs,⟨_,Heap.get?_push_size _ rfl⟩,hl,r.mono (fun _ _ h=>h) (List.prefix_append _ _)⟩,
    .obj (by rw [← I.len,List.getElem?_append_right (Nat.le_refl _)];simp)⟩
theorem SE.ownList {es:List Expr} {pos:Pos} {vs:List V} (h:SEs prog w cls base lo A env es ρ μ μ' vs) (hl:vs.length≤100):SE prog w cls base lo A env (eval (.List es pos) env) ρ μ (μ'++[.list vs]) (.obj μ'.length):=fun Z αs s I L=>
  PySem.wpAny_List (h.use I L fun xs Z₁ α₁ s₁ S₁ I₁ _ R₁=>⟨by rw [R₁.length];exact Nat.le_trans hl (by decide),(OutE.ownPush I₁ (by rw [R₁.length];exact Nat.le_trans hl (by decide)) R₁).trans S₁⟩)
end
end Mine
namespace Mine
open PySem PySem.W PySem.Calls PyProof.Rows
section
variable {lo:Nat} {prog:Program} {w:World} {cls:Str→Option Addr} {base:Heap} {Z:Addr→Obj→Prop} {αs:List Addr} {s:Shared} {μ μ':M} {A:Around} {env:Env} {ρ:Rho} {n:Nat} {K:Frag}
structure ClsOK (K:Frag) (C:Addr):Prop where
  get:plainGet K C "__getattribute__" = true
  set:findIn K (.ref C) "__setattr__" = some (some (.builtin "object.__setattr__"))
  over:plainOver K C=true
  dict:hasDictIn K C=true
theorem SEnts.noRef {des:List DictEntry} {es:List (Str×V)} (h:SEnts prog w Z αs des es):des.any (·.refKey)=false:=by
  induction h with
  | nil=>rfl
  | cons e r _ ih=>rw [List.any_cons,ih];rfl
theorem isStr_ofStr (x y:Str) (t:Tok):(Value.str x t).isStr y=(x == y):=rfl
theorem beq_sym {x y:Str}:(x == y)=(y == x):=by
  cases h:y == x with
  | true=>rw [beq_iff_eq.mp h,beq_self_eq_true]
  | false=>exact beq_eq_false_iff_ne.mpr fun e=>by rw [e,beq_self_eq_true] at h;cases h
theorem SEnts.find {des:List DictEntry} {es:List (Str×V)} (h:SEnts prog w Z αs des es) (x:Str):match lookE x es with
    | some v=>∃ d,des.find? (·.key.isStr x)=some d∧Rep prog w Z αs d.val v
    | none=>des.find? (·.key.isStr x)=none:=by
  induction h with
  | nil=>rfl
  | @cons hsh y t u v' des es e' r _ ih=>
    unfold lookE
    rw [List.find?_cons,isStr_ofStr,beq_sym]
    cases y == x with
    | true=>
      show ∃ d,some _=some d∧_
      exact ⟨_,rfl,r⟩
    | false=>exact ih
theorem SEnts.get_some {des:List DictEntry} {es:List (Str×V)} (h:SEnts prog w Z αs des es) {x:Str} {v:V} (e:lookE x es=some v):∃ u,getL x des=some (some u)∧Rep prog w Z αs u v:=by
  have h1:=h.find x
  rw [e] at h1
  obtain ⟨d,e1,e2⟩:=h1
  exact ⟨d.val,by unfold getL;rw [e1],e2⟩
theorem SEnts.get_none {des:List DictEntry} {es:List (Str×V)} (h:SEnts prog w Z αs des es) {x:Str} (e:lookE x es=none):getL x des=some none:=by
  have h1:=h.find x
  rw [e] at h1
  unfold getL
  rw [show des.find? (·.key.isStr x)=none from h1,h.noRef]
  rfl
theorem SEnts.put {des:List DictEntry} {es:List (Str×V)} (h:SEnts prog w Z αs des es) {x:Str} {t:Tok} {u:Value} {v:V} (r:Rep prog w Z αs u v) :
    SEnts prog w Z αs (putL x (PyData.keyHash w.params x) (.str x t) u des) (putE x v es):=by
  induction h with
  | nil=>exact .cons rfl r .nil
  | @cons hsh y t' u' v' des es e' r' rest ih=>
    unfold putL putE
    rw [isStr_ofStr,beq_sym]
    cases x == y with
    | true=>exact .cons e' r rest
    | false=>exact .cons e' r' ih
theorem putL_length {x:Str} {hsh:Int} {k v:Value} {des:List DictEntry}:(putL x hsh k v des).length≤des.length + 1:=by
  induction des with
  | nil=>exact Nat.le_refl _
  | cons d r ih=>
    unfold putL
    cases d.key.isStr x with
    | true=>exact Nat.le_succ _
    | false=>exact Nat.succ_le_succ ih
theorem SEnts.length {des:List DictEntry} {es:List (Str×V)} (h:SEnts prog w Z αs des es):des.length=es.length:=by
  induction h with
  | nil=>rfl
  | cons _ _ _ ih=>exact congrArg Nat.succ ih
inductive InstZ (prog:Program) (w:World) (cls:Str→Option Addr) (Z:Addr→Obj→Prop) (αs:List Addr) (h:Heap) (a:Addr) (c:Str) (k:Nat) (es:List (Str×V)):Prop
  | mk (C dx:Addr) (des:List DictEntry) (m:Nat):cls c=some C→αs[k]?=some dx→h.get? dx=some (dictOf des m)→des.length≤900→SEnts prog w Z αs des es→InstAt h a (instObj C dx) C (some (dictOf des m))→InstZ prog w cls Z αs h a c k es
theorem inst_at (I:Inv prog w cls base Z αs μ s.heap) {i k:Nat} {a:Addr} {c:Str} {es:List (Str×V)} (ha:αs[i]?=some a) (h1:μ[i]?=some (.inst c k)) (h2:μ[k]?=some (.sdict es)):InstZ prog w cls Z αs s.heap a c k es:=by
  obtain ⟨C,dx,hc,hd,ho⟩:=I.at_ _ _ _ ha h1
  cases I.at_ _ _ _ hd h2 with
    | mk des m ho2 hl he=>exact ⟨C,dx,des,m,hc,hd,ho2,hl,he,⟨ho,rfl,rfl,ho2⟩⟩
theorem fields_of {a:V} {p:Str×Nat×List (Str×V)} {P:V→Prop} (e:fieldsAt μ a=some p) (k:∀ i,μ[i]?=some (.inst p.1 p.2.1)→μ[p.2.1]?=some (.sdict p.2.2)→P (.obj i)):P a:=by
  refine bnd e fun i h1 e=>bnd e fun m h2 e=>bnd e fun q h3 e=>bnd e fun d h4 e=>mpd e fun es h5 e=>?_
  rw [← e] at k
  apply obj_of h1
  refine k i ?_ ?_
  · rw [h2];apply ins_of h3;rfl
  · rw [h4];apply dic_of h5;rfl
theorem rep_handed {x:Value} {v:V} (r:Rep prog w Z αs x v):handedIn x=true:=by cases r <;> rfl
theorem getAttr_ok (X:K.In base) (hc:∀ c C,cls c=some C→ClsOK K C) (I:Inv prog w cls base Z αs μ s.heap) {fl:Str→Str→Bool} {x:Value} {a v:V} {name:Str} {ex:Bool} (R:Rep prog w Z αs x a) (e:attrV fl μ a name=some v)
    (hf:∀ c C x,cls c=some C→fl c x=true→freeIn K C x=true):wpAny (model prog w) A (getAttr x name ex) (OutE prog w cls base lo Z αs s μ v) FF s:=by
  refine bnd e fun p h e=>?_
  revert R
  apply fields_of h
  intro i h1 h2 R
  apply R.objE
  intro xa ha
  by_cases hfl:fl p.1 name=true
  · rw [if_pos hfl] at e
    obtain ⟨C,dx,des,m,hC,hd,ho,hl,he,hI⟩:=inst_at I ha h1 h2
    obtain ⟨u,e1,e2⟩:=he.get_some e
    have ok:=hc _ _ hC
    exact get_value (X.keeps I.keep) hI (plainGet_of ok.get).1 (findObj_own (attr:=none) ok.dict (beq_iff_eq.mp (Bool.and_eq_true_iff.mp (hf _ _ _ hC hfl)).1) rfl (by rw [lookIn_dict];exact e1)) (rep_handed e2) (.tok I e2)
  · rw [if_neg hfl] at e;cases e
theorem setattr_dict {od od':Obj} {x C dx:Addr} {name:Str} {tk:Tok} {v:Value} {es:List DictEntry} {m:Nat} {R:Result→Shared→Prop} (X:K.In s.heap) (hI:InstAt s.heap x (instObj C dx) C (some od)) (hp:plainOver K C=true) (ht:takerIn K C name=some none)
    (hh:hasDictIn K C=true) (hl:(lookIn name od).isSome=true) (hne:x≠dx) (e:Obj.putName name (PyData.keyHash w.params name) (.str name s.toks) v od=od') (e':od'.data=.dict es.toArray m) (hz:es.length≤1000)
    (h:∀ h',Heap.SameBut dx s.heap h'→h'.get? dx=some od'→R (.ok (.ret .none)) { s with heap:=h',toks:=s.toks + 1 }) :
    codeAny (model prog w) A (.call (.builtin "object.__setattr__") ⟨[.ref x,.str name tk,v],[]⟩) R s:=by
  refine osa_open X hI hp ht fun b=>?_
  obtain ⟨cd,hc,hd'⟩:=any_some hh
  have D:s.heap.get? dx=some od:=hI.dict
  have hx:=hI.at_
  have D':(s.heap.update dx (Obj.putName name (PyData.keyHash w.params name) (.str name s.toks) v)).get? dx=some od':=by
    rw [Heap.get?_update_self _ D (by rw [e];obtain ⟨_,_,dd,_⟩:=od';cases e';rfl),e]
  refine wpAny_bind (wpAny_pure (wpAny_bind (wpAny_bind (wpAny_loadPart hx (wpAny_bind ((looks_clsIn X hc).here ?_))))))
  rw [hd']
  refine wpAny_pure (a:=some dx) (wpAny_bind (wpAny_pure (wpAny_bind ?_)))
  unfold nsSet
  refine wpAny_bind (wpAny_bind (wpAny_askSetting (wpAny_pure (wpAny_bind (wpAny_mkText (wpAny_bind (wpAny_loadPart D ?_)))))))
  unfold lookIn at hl
  split at hl
  · rename_i es₀ n₀ q
    rw [q]
    dsimp only
    have c:(!es₀.any (·.key.isStr name) && es₀.any (·.refKey))=false:=by
      rw [← Array.any_toList,← Array.any_toList]
      split at hl
      · rename_i en he
        rw [List.any_eq_true.mpr ⟨en,List.mem_of_find?_eq_some he,List.find?_some he⟩];rfl
      · split at hl
        · cases hl
        · rename_i z;rw [Bool.not_eq_true] at z;rw [z,Bool.and_false]
    rw [aRefKeyMayBeTheName_at,c]
    refine wpAny_updatePart D ?_
    refine wpAny_bind (wpAny_lookBehind D' (by rw [e'];exact pastItsLine_dict (by rw [List.size_toArray,sizeLine_eq];omega)) ?_)
    exact wpAny_pure (h _ (Heap.SameBut.update ..) D')
  · cases hl
inductive OutM (prog:Program) (w:World) (cls:Str→Option Addr) (base:Heap) (lo:Nat) (Z:Addr→Obj→Prop) (αs:List Addr) (s:Shared) (μ':M) (s':Shared):Prop
  | mk (Z':Addr→Obj→Prop) (αs':List Addr):Step lo Z αs s Z' αs' s'→Inv prog w cls base Z' αs' μ' s'.heap→OutM prog w cls base lo Z αs s μ' s'
theorem OutM.trans {Z':Addr→Obj→Prop} {αs':List Addr} {s₁ s':Shared} (S:Step lo Z αs s Z' αs' s₁) (o:OutM prog w cls base lo Z' αs' s₁ μ s'):OutM prog w cls base lo Z αs s μ s':=by
  obtain ⟨Z'',αs'',S',I⟩:=o
  exact ⟨Z'',αs'',S.trans S',I⟩
theorem sameBut_ext {h h':Heap} {a b:Addr} {o:Obj} (x:Heap.SameBut a h h') (hb:b≠a) (e:h.get? b=some o):h'.get? b=some o:=(x.2 b hb).trans e
theorem setAttr_ok (X:K.In base) (hc:∀ c C,cls c=some C→ClsOK K C) (I:Inv prog w cls base Z αs μ s.heap) {fl:Str→Str→Bool} {x u:Value} {a v:V} {name:Str} {μ':M} (R:Rep prog w Z αs x a) (Rv:Rep prog w Z αs u v) (e:setAttrV fl lo μ a name v=some μ')
    (hf:∀ c C x,cls c=some C→fl c x=true→freeIn K C x=true):wpAny (model prog w) A (setAttr x name u) (fun _=>OutM prog w cls base lo Z αs s μ') FF s:=by
  refine bnd e fun p h e=>ifn e fun hlo e=>ifd e fun hfl e=>?_
  rw [← e]
  revert R
  apply fields_of h
  intro i h1 h2 R
  apply R.objE
  intro xa ha
  obtain ⟨C,dx,des,m,hC,hd,ho,hl,he,hI⟩:=inst_at I ha h1 h2
  have ok:=hc _ _ hC
  have hlk:(getL name des).isSome=true:=by
    cases q:lookE name p.2.2 with
    | none=>rw [he.get_none q];rfl
    | some v'=>obtain ⟨u',e1,_⟩:=he.get_some q;rw [e1];rfl
  have hne:xa≠dx:=fun q=>by
    have hz:=hI.at_
    rw [q,ho] at hz
    cases congrArg Obj.data (Option.some.inj hz)
  have h9:∀ n,100≤n→(putL name (PyData.keyHash w.params name) (.str name s.toks) u des).length≤n:=fun n hn=>Nat.le_trans putL_length (Nat.le_trans (he.length ▸ hfl.2) hn)
  refine set_plain (X.keeps I.keep) hI ok.set (setattr_dict (s:={ s with toks:=s.toks + 1 }) (X.keeps I.keep) hI ok.over (beq_iff_eq.mp (Bool.and_eq_true_iff.mp (hf _ _ _ hC hfl.1)).2) ok.dict (by rw [lookIn_dict];exact hlk) hne (putName_dict _ _ _ _ _ _) rfl (Nat.le_trans putL_length (Nat.le_trans (he.length ▸ hfl.2) (by decide))) fun h' hs hg=>?_)
  exact ⟨Z,αs,.set (Nat.le_of_not_lt hlo) hd (fun b o hb e=>sameBut_ext hs hb e) ⟨_,hg⟩,I.set hd (fun b o hb e=>sameBut_ext hs hb e) ⟨_,_,hg,Nat.le_trans putL_length (Nat.le_trans (he.length ▸ hfl.2) (by decide)),he.put Rv⟩⟩
theorem subscripted_ops (slice:Expr) (o i:Value):∃ ops,subscripted slice false o i=operate ops (getItem o i):=by
  cases slice with
  | Slice _ _ s=>cases s <;> exact ⟨_,rfl⟩
  | _=>exact ⟨_,rfl⟩
theorem placeOf_some {i:Int} {m j:Nat} {P:Int→Nat→Prop} (e:placeOf i m=some j) (h1:j<m→0≤(j:Int)→P j j) (h2:j<m→P ((j:Int) - m) j):P i j:=by
  unfold placeOf at e
  split at e
  · rename_i h
    cases e
    have e:((i.toNat:Nat):Int)=i:=Int.toNat_of_nonneg h.1
    have:=h1 (by omega) (by omega)
    rw [e] at this
    exact this
  · refine ifd e fun h e=>?_
    have:=h2 (by omega)
    rw [show (j:Int) - m=i by omega] at this
    exact this
theorem seqIndex_of {i:Int} {m j:Nat} (e:placeOf i m=some j):seqIndex? i m=some j:=by
  apply placeOf_some e
  · intro h _
    unfold seqIndex?
    simp only [if_neg (show ¬ (j:Int)<0 by omega)]
    rw [if_pos (by simp;omega)];simp
  · intro h
    unfold seqIndex?
    simp only [if_pos (show (j:Int) - m<0 by omega)]
    rw [if_pos (by simp;omega)];congr 1;omega
theorem SEnts.keys {des:List DictEntry} {es:List (Str×V)} (h:SEnts prog w Z αs des es):∀ d ∈ des,∃ k,(strKind prog w).is k d.key=true∧d.hash=(strKind prog w).hash k:=by
  induction h with
  | nil=>intro d hd;cases hd
  | @cons hsh y t' u' v' des es e' r rest ih=>
    intro d hd
    rcases List.mem_cons.mp hd with rfl | hd
    · exact ⟨y,strKind_is prog w y t',e'⟩
    · exact ih d hd
theorem sizeLine_lt:sizeLine<2 ^ 62:=by decide
theorem place_lt {k:Int} {m j:Nat} (e:placeOf k m=some j) (h:m≤sizeLine):-(2 ^ 63)≤k∧k<2 ^ 63:=by
  have hz:=sizeLine_lt
  apply placeOf_some e
  · intro h1 _;omega
  · intro h1;omega
theorem idxV_ok (I:Inv prog w cls base Z αs μ s.heap) {value slice:Expr} {x y:Value} {a b v:V} (Ra:Rep prog w Z αs x a) (Rb:Rep prog w Z αs y b) (e:idxV μ a b=some v) :
    wpAny (model prog w) A (subscriptTail value slice x y) (OutE prog w cls base lo Z αs s μ v) FF s:=by
  obtain ⟨ops,hs⟩:=subscripted_ops slice x y
  revert hs
  unfold idxV at e
  cases h1:intOf b with
  | some k=>
    rw [h1] at e
    refine bnd e fun xs h2 e=>bnd e fun j hj hv=>?_
    revert Rb
    apply int_of h1
    intro Rb
    apply Rb.intE
    intro t
    unfold seqV at h2
    cases h3:tupOf a with
    | some l=>
      rw [h3] at h2
      cases h2
      revert Ra
      apply tup_of h3
      intro Ra
      apply tup_at I Ra
      intro p vs ht hl r hs
      obtain ⟨u,e1,e2⟩:=r.get hv
      rw [← r.length] at hj
      have hb:=place_lt hj hl
      exact tail_any (T := "tuple") ⟨_,ht.choose_spec.1,ht.choose_spec.2.1⟩ F.slot_tuple_getitem.lookup (getItem_tuple (j:=j) ht hb.1 hb.2 (seqIndex_of hj) (by rw [List.getElem?_toArray];exact e1) (.now I e2)) hs
    | none=>
      rw [h3] at h2
      apply list_at I Ra h2
      intro p vs ht hl r hs
      obtain ⟨u,e1,e2⟩:=r.get hv
      rw [← r.length] at hj
      refine tail_any ht.typeIs slot_list_getitem.lookup ?_ hs
      have hz:=sizeLine_lt
      clear hs
      apply placeOf_some hj (P:=fun k j=>vs[j]?=some u→wpAny (model prog w) A (getItem (.ref p) (.int k t)) (OutE prog w cls base lo Z αs s μ v) FF s)
      · intro h1 h2 e1
        exact wpAny_getItem_list ht h2 (by omega) (by rw [List.getElem?_toArray];exact e1) (.now I e2)
      · intro h1 e1
        exact wpAny_getItem_list_neg ht (by omega) (by rw [List.size_toArray];omega) (by omega) (by rw [List.size_toArray,List.getElem?_toArray,← e1];congr 1;omega) (.now I e2)
      · exact e1
  | none=>
    rw [h1] at e
    refine bnd e fun key h2 e=>bnd e fun m h3 e=>bnd e fun o h4 e=>bnd e fun es h5 e=>?_
    revert Ra Rb
    apply str_of h2
    apply obj_of h3
    intro Ra Rb
    apply Ra.objE
    intro xa ha
    apply Rb.strE
    intro t hs
    have hm:μ[m]?=some (.sdict es):=h4.trans (dic_of (P:=fun o=>some o=some (MObj.sdict es)) h5 rfl)
    obtain ⟨des,q,ho,hl,he⟩:=I.at_ _ _ _ ha hm
    obtain ⟨u,e1,e2⟩:=he.get_some e
    have hmap:s.heap.MapOf (strKind prog w) _ (fun z=>findBy Value.isStrOf des.toArray z):=⟨_,des.toArray,q,ho,⟨rfl,rfl,rfl⟩,rfl,fun d hd=>he.keys d (List.mem_toArray.mp hd),fun _=>rfl⟩
    refine tail_any hmap.typeIs slot_dict_getitem.lookup (wpAny_getItem_of (strKind_is prog w key t) hmap ?_ (.tok I e2)) hs
    unfold getL at e1
    unfold findBy
    rw [List.find?_toArray,show (fun d:DictEntry=>Value.isStrOf key d.key)=fun d=>d.key.isStr key from funext fun d=>(isStr_of key d.key).symm]
    revert e1
    cases des.find? fun d=>d.key.isStr key with
    | some d=>exact Option.some.inj
    | none=>rw [he.noRef];exact fun e=>nomatch e
end
end Mine
namespace Mine
open PySem PySem.W PySem.Calls PyProof.Rows
section
variable {lo:Nat} {prog:Program} {w:World} {cls:Str→Option Addr} {base:Heap} {Z:Addr→Obj→Prop} {αs:List Addr} {s:Shared} {μ μ':M} {A:Around} {env:Env} {ρ:Rho} {n:Nat} {K:Frag}
structure ItAt (prog:Program) (w:World) (base:Heap) (A:Around) (lo:Nat) (Z:Addr→Obj→Prop) (αs:List Addr) (items:List V) (I:Addr) (St:Nat→Heap→Prop) (P:Nat→Value→Prop) (fp:List Addr):Prop where
  walks:Walks prog w A I fp [I] items.length P St
  reps:∀ i x,i<items.length→P i x→∃ d,items[i]?=some d∧Rep prog w Z αs x d
  apart:I ∉ αs∧(∀ o,¬ Z I o)∧base.get? I=none
  fp:∀ b ∈ fp,b=I∨(∃ o,Z b o)∨(b ∈ αs∧b ∉ αs.drop lo)
  go:∀ i h,St i h→∃ o n,h.get? I=some o∧o.cls=.type n∧(["enumerate", "zip", "dict_itemiterator", "dict_reverseitemiterator", "odict_iterator", "itertools.zip_longest", "itertools.pairwise"].contains n)=false
theorem ItAt.step {items:List V} {I:Addr} {St:Nat→Heap→Prop} {P:Nat→Value→Prop} {fp:List Addr} (h:ItAt prog w base A lo Z αs items I St P fp) (Iv:Inv prog w cls base Z αs μ s.heap) {Z':Addr→Obj→Prop} {αs':List Addr} {s':Shared} (S:Step lo Z αs s Z' αs' s')
    (Iv':Inv prog w cls base Z' αs' μ' s'.heap) {oI:Obj} (hI:s.heap.get? I=some oI):ItAt prog w base A lo Z' αs' items I St P fp∧∀ i,St i s.heap→St i s'.heap:=by
  refine ⟨⟨h.walks,fun i x hi p=>?_,⟨fun hm=>?_,fun o hz=>?_,h.apart.2.2⟩,fun b hb=>?_,h.go⟩,fun i st=>h.walks.frame i _ _ st fun b hb o e=>?_⟩
  · obtain ⟨d,e,r⟩:=h.reps i x hi p;exact ⟨d,e,r.mono S.zsub S.asub⟩
  · obtain ⟨t,rfl,ht⟩:=S.anew
    rcases List.mem_append.mp hm with hm | hm
    · exact h.apart.1 hm
    · have:=ht _ hm;rw [hI] at this;cases this
  · rcases S.znew _ _ hz with hz | hz
    · exact h.apart.2.1 _ hz
    · rw [hI] at hz;cases hz
  · rcases h.fp b hb with h1 | ⟨o,h1⟩ | ⟨h1,h2⟩
    · exact .inl h1
    · exact .inr (.inl ⟨o,S.zsub _ _ h1⟩)
    · refine .inr (.inr ⟨S.asub.subset h1,fun hm=>?_⟩)
      obtain ⟨t,rfl,ht⟩:=S.anew
      rcases mem_drop_append hm with hm | hm
      · exact h2 hm
      · obtain ⟨o,ho⟩:=Iv.alive h1
        have:=ht _ hm;rw [ho] at this;cases this
  · rcases h.fp b hb with h1 | ⟨o',h1⟩ | ⟨h1,h2⟩
    · subst h1;exact S.keep _ _ (fun hm=>h.apart.1 (List.mem_of_mem_drop hm)) e
    · exact S.keep _ _ (fun hm=>Iv.off _ _ h1 (List.mem_of_mem_drop hm)) e
    · exact S.keep _ _ h2 e
theorem intsFrom_get:∀ (a:Int) (n i:Nat),i<n→(intsFrom a n)[i]?=some (V.int (a + i))
  | a,n + 1,0,_=>by simp [intsFrom]
  | a,n + 1,i + 1,h=>by
    rw [intsFrom,List.getElem?_cons_succ,intsFrom_get _ _ _ (by omega)]
    congr 2
    push_cast;omega
theorem intsFrom_length:∀ (a:Int) (n:Nat),(intsFrom a n).length=n
  | _,0=>rfl
  | a,n + 1=>by rw [intsFrom,List.length_cons,intsFrom_length]
theorem rangeSize_one (a b:Int):Builtin.Range.rangeSize a b 1=((b - a).toNat:Int):=by
  unfold Builtin.Range.rangeSize
  rw [if_pos (by decide)]
  split
  · rename_i h;rw [Int.ediv_one,Int.sub_add_cancel,Int.toNat_of_nonneg (Int.sub_nonneg_of_le (Int.le_of_lt h))]
  · rename_i h;rw [Int.toNat_eq_zero.mpr (Int.sub_nonpos_of_le (Int.not_lt.mp h))];rfl
theorem lt_of_alive {h:Heap} {a:Addr} {o:Obj} (e:h.get? a=some o):a≠h.objs.size:=fun q=>by subst q;rw [dead_size] at e;cases e
theorem not_mem_drop {αs:List Addr} {lo i:Nat} {a:Addr} (hn:αs.Nodup) (hi:αs[i]?=some a) (hlt:i<lo):a ∉ αs.drop lo:=fun hm=>by
  obtain ⟨j,hj,e⟩:=List.mem_iff_getElem.mp hm
  rw [List.getElem_drop] at e
  have hj':lo + j<αs.length:=Nat.add_lt_of_lt_sub' (List.length_drop ▸ hj)
  have h1:αs[lo + j]?=some a:=by rw [List.getElem?_eq_getElem hj',e]
  have:=(List.getElem?_inj (List.getElem?_eq_some_iff.mp hi).1 hn).mp (hi.trans h1.symm)
  exact Nat.not_lt.mpr (Nat.le_add_right lo j) (this ▸ hlt)
inductive OutI (prog:Program) (w:World) (cls:Str→Option Addr) (base:Heap) (A:Around) (lo:Nat) (Z:Addr→Obj→Prop) (αs:List Addr) (s:Shared) (μ:M) (items:List V) (it:Value) (s':Shared):Prop
  | mk (I:Addr) (St:Nat→Heap→Prop) (P:Nat→Value→Prop) (fp:List Addr) (o:Obj):it=.ref I→Keeps s s'→s.heap.get? I=none→s'.heap.get? I=some o→St 0 s'.heap→ItAt prog w base A lo Z αs items I St P fp→items.length≤sizeLine→OutI prog w cls base A lo Z αs s μ items it s'
theorem end_apart (Iv:Inv prog w cls base Z αs μ s.heap):s.heap.objs.size ∉ αs∧(∀ o,¬ Z s.heap.objs.size o)∧base.get? s.heap.objs.size=none:=by
  have hd:=dead_size s.heap
  refine ⟨fun hm=>?_,fun o hz=>?_,?_⟩
  · obtain ⟨o,ho⟩:=Iv.alive hm;rw [hd] at ho;cases ho
  · have:=Iv.fast _ _ hz;rw [hd] at this;cases this
  · cases q:base.get? s.heap.objs.size with
    | none=>rfl
    | some o=>have:=Iv.keep _ _ q;rw [hd] at this;cases this
theorem OutI.new (Iv:Inv prog w cls base Z αs μ s.heap) {o:Obj} {St:Nat→Heap→Prop} {P:Nat→Value→Prop} {fp:List Addr} {items:List V} (hf:o.isFreed=false) (W:Walks prog w A s.heap.objs.size fp [s.heap.objs.size] items.length P St) (h0:St 0 (s.heap.push o))
    (hr:∀ i x,i<items.length→P i x→∃ d,items[i]?=some d∧Rep prog w Z αs x d) (hfp:∀ b ∈ fp,b=s.heap.objs.size∨(∃ o,Z b o)∨(b ∈ αs∧b ∉ αs.drop lo))
    (hgo:∀ i h,St i h→∃ o n,h.get? s.heap.objs.size=some o∧o.cls=.type n∧(["enumerate", "zip", "dict_itemiterator", "dict_reverseitemiterator", "odict_iterator", "itertools.zip_longest", "itertools.pairwise"].contains n)=false)
    (hz:items.length≤sizeLine):OutI prog w cls base A lo Z αs s μ items (.ref s.heap.objs.size) { s with heap:=s.heap.push o }:=
  ⟨_,St,P,fp,o,rfl,⟨_,s.toks,rfl,fun b p q=>Heap.get?_push_of_some _ q⟩,dead_size _,Heap.get?_push_size _ hf,h0,⟨W,hr,end_apart Iv,hfp,hgo⟩,hz⟩
theorem fp_two {I a b:Addr} (ha:(∃ o,Z a o)∨(a ∈ αs∧a ∉ αs.drop lo)) (hb:b ∈ [I,a]):b=I∨(∃ o,Z b o)∨(b ∈ αs∧b ∉ αs.drop lo):=by
  rcases List.mem_cons.mp hb with h | h
  · exact .inl h
  · rw [List.mem_singleton.mp h];exact .inr ha
theorem iter_list (hR:A.handled=none) (Iv:Inv prog w cls base Z αs μ s.heap) {a:Addr} {vs:List Value} {items:List V} (hl:s.heap.IsList a vs.toArray) (hz:vs.length≤sizeLine) (r:Reps prog w Z αs vs items) (hfp:(∃ o,Z a o)∨(a ∈ αs∧a ∉ αs.drop lo)):wpAny (model prog w) A (pyIter (.ref a)) (OutI prog w cls base A lo Z αs s μ items) FF s:=by
  refine wpAny_pyIter_list hl ?_
  have ha:a≠s.heap.objs.size:=by obtain ⟨o,ho,_⟩:=hl;exact lt_of_alive ho
  have W:=Walks.list (prog:=prog) (w:=w) hR s.heap.objs.size a ha vs.toArray
  rw [show vs.toArray.size=items.length from r.length] at W
  exact .new Iv rfl W ⟨⟨_,Heap.get?_push_size _ rfl,rfl,rfl⟩,hl.at fun o q=>Heap.get?_push_of_some _ q⟩ (fun i x _ p=>r.get' (by rw [← List.getElem?_toArray];exact p)) (fun b hb=>fp_two hfp hb) (fun i h st=>by obtain ⟨⟨o,ho,hc,_⟩,_⟩:=st;exact ⟨o,_,ho,hc,by decide⟩) (r.length ▸ hz)
theorem iter_tup (hR:A.handled=none) (Iv:Inv prog w cls base Z αs μ s.heap) {x:Value} {items:List V} (R:Rep prog w Z αs x (.tup items)):wpAny (model prog w) A (pyIter x) (OutI prog w cls base A lo Z αs s μ items) FF s:=by
  obtain ⟨a,o,vs,k,hz,h1,h2,h3,h4⟩:=R.inv
  have ht:s.heap.IsTuple a vs.toArray:=⟨_,Iv.fast _ _ hz,h1,_,h2⟩
  refine wpAny_pyIter_tuple ht ?_
  have W:=Walks.tuple (prog:=prog) (w:=w) hR s.heap.objs.size a (lt_of_alive (Iv.fast _ _ hz)) vs.toArray
  rw [show vs.toArray.size=items.length from h4.length] at W
  exact .new Iv rfl W ⟨⟨_,Heap.get?_push_size _ rfl,rfl,rfl⟩,ht.at fun o q=>Heap.get?_push_of_some _ q⟩ (fun i x _ p=>h4.get' (by rw [← List.getElem?_toArray];exact p)) (fun b hb=>fp_two (.inl ⟨_,hz⟩) hb) (fun i h st=>by obtain ⟨⟨o,ho,hc,_⟩,_⟩:=st;exact ⟨o,_,ho,hc,by decide⟩) (h4.length ▸ h3)
theorem iter_rng (hR:A.handled=none) (Iv:Inv prog w cls base Z αs μ s.heap) {v:Value} {x y:Int} (R:Rep prog w Z αs v (.rng x y)):wpAny (model prog w) A (pyIter v) (OutI prog w cls base A lo Z αs s μ (intsFrom x (y - x).toNat)) FF s:=by
  obtain ⟨a,t,u,v',hz,hle⟩:=R.inv
  have hr:IsRange s.heap _ _ _ 1 _ _ _:=Iv.fast _ _ hz
  have hlen:(intsFrom x (y - x).toNat).length=(y - x).toNat:=intsFrom_length _ _
  have hsz:(intsFrom x (y - x).toNat).length≤sizeLine:=by
    rw [hlen]
    exact Nat.le_trans (Int.toNat_le.mpr hle) (by decide)
  have hreps:∀ (i:Nat) (z:Value),i<(intsFrom x (y - x).toNat).length→(∃ t,z=.int (x + i * 1) t)→∃ d,(intsFrom x (y - x).toNat)[i]?=some d∧Rep prog w Z αs z d:=by
    rintro i z hi ⟨t,rfl⟩
    rw [hlen] at hi
    exact ⟨_,intsFrom_get _ _ _ hi,by rw [Int.mul_one];exact .int _ _⟩
  have e2:(((intsFrom x (y - x).toNat).length:Nat):Int) - ((0:Nat):Int)=Builtin.Range.rangeSize x y 1:=by rw [hlen,rangeSize_one];exact Int.sub_zero _
  have e3:x + ((0:Nat):Int) * 1=x:=Int.add_zero x
  cases hs:Builtin.Range.small x y 1 with
  | true=>
    refine wpAny_pyIter_range hr hs ?_
    have W:=Walks.range (prog:=prog) (w:=w) hR s.heap.objs.size x 1 (y - x).toNat
    rw [← hlen] at W
    refine .new Iv rfl W ?_ hreps (fun b hb=>.inl (List.mem_singleton.mp hb)) (fun i h st=>⟨_,_,st,rfl,by decide⟩) hsz
    show IsRangeIter _ _ _ _ _
    rw [e2,e3]
    exact Heap.get?_push_size _ rfl
  | false=>
    refine wpAny_pyIter_longrange hr hs ?_
    have W:=Walks.longrange (prog:=prog) (w:=w) hR s.heap.objs.size x 1 (y - x).toNat
    rw [← hlen] at W
    refine .new Iv rfl W ?_ hreps (fun b hb=>.inl (List.mem_singleton.mp hb)) (fun i h st=>⟨_,_,st,rfl,by decide⟩) hsz
    show IsLongIter _ _ _ _ _
    rw [e2,e3]
    exact Heap.get?_push_size _ rfl
theorem pyIter_ok (hR:A.handled=none) (Iv:Inv prog w cls base Z αs μ s.heap) {x:Value} {v:V} {items:List V} (R:Rep prog w Z αs x v) (e:iterV lo μ v=some items) :
    wpAny (model prog w) A (pyIter x) (OutI prog w cls base A lo Z αs s μ items) FF s:=by
  cases v <;> first | (cases e;done) | skip
  case tup=>cases e;exact iter_tup hR Iv R
  case rng=>cases e;exact iter_rng hR Iv R
  case lst=>
    cases e
    obtain ⟨a,o,vs,k,hz,h1,h2,h3,h4⟩:=R.inv
    exact iter_list hR Iv ⟨_,Iv.fast _ _ hz,h1,_,h2⟩ h3 h4 (.inl ⟨_,hz⟩)
  case obj n=>
    have e:(if n<lo then listV μ (.obj n) else none)=some items:=e
    by_cases hlt:n<lo
    · rw [if_pos hlt] at e
      refine bnd e fun m h1 h2=>?_
      revert h1
      apply lst_of h2
      intro h1
      apply R.objE
      intro a ha
      obtain ⟨vs,hl,hz,r⟩:=Iv.at_ _ _ _ ha h1
      exact iter_list hR Iv hl.isList hz r (.inr ⟨List.mem_of_getElem? ha,not_mem_drop Iv.nodup ha hlt⟩)
    · rw [if_neg hlt] at e;cases e
end
end Mine
namespace Mine
open PySem PySem.W PySem.Calls PyProof.Rows
section
variable {lo:Nat} {prog:Program} {w:World} {cls:Str→Option Addr} {base:Heap} {Z:Addr→Obj→Prop} {αs:List Addr} {s:Shared} {μ μ':M} {A:Around} {env:Env} {ρ:Rho} {n:Nat} {K:Frag}
theorem mapSeq_plain {h:Heap} {a:Addr} {xs:Array Value} {n:Nat} {f:Array Value→Array Value} (ho:h.get? a=some { cls:=.type "list", data:=.seq xs n }):(h.update a (Obj.mapSeq f)).PlainList a (f xs):=
  ⟨_,Heap.get?_update_self _ ho rfl⟩
theorem setItem_at {l:Addr} {items:Array Value} {k:Int} {t:Tok} {v:Value} {p:Nat} {Q:Unit→Shared→Prop} (hl:s.heap.PlainList l items) (hfit:Builtin.List.listFitsIndex k=true) (hidx:seqIndex? k items.size=some p) (hp:p<items.size)
    (hQ:∀ h',h'.PlainList l (items.setIfInBounds p v)→Heap.SameBut l s.heap h'→Q () { s with heap:=h' }):wpAny (model prog w) A (setItem (.ref l) (.int k t) v) Q FF s:=by
  obtain ⟨ne,ho⟩:=id hl
  unfold setItem
  try with_reducible refine wpAny_holding ?_
  first | refine wpAny_bind (wpAny_pure ?_) | skip
  refine wpAny_bind (wpAny_sequenceKey hl.isList.typeIs (by decide) ?_)
  refine wpAny_bind (wpAny_callSpecial?_slot (name:=Str.ofString "__setitem__") hl.isList.typeIs slot_list_setitem
    (wpAny_call_entry slot_list_setitem hl.isList.typeIs entry_list_setitem ?_ (args_list_setitem _ _ _)))
  show wpAny _ _ (Builtin.List.listSubscript? (.int k t) >>= _) _ _ s
  refine wpAny_bind (wpAny_listSubscript_int hfit ?_)
  have hx:items[p]?=some items[p]:=Array.getElem?_eq_getElem hp
  cases k with
  | ofNat j=>
    have hj:j=p:=by
      unfold seqIndex? at hidx
      have h0:¬ (Int.ofNat j<0):=Int.not_lt.mpr (Int.natCast_nonneg j)
      simp only [if_neg h0] at hidx
      split at hidx
      · simpa using hidx
      · cases hidx
    subst hj
    show wpAny _ _ ((seqItemAt l j >>= fun r=>pure (r.map (j,·))) >>= _) _ _ s
    refine wpAny_bind (wpAny_bind (wpAny_seqItemAt ho rfl (wpAny_pure ?_)))
    rw [hx]
    show wpAny _ _ (setSeqItemAt l j v >>= _) _ _ s
    refine wpAny_bind (wpAny_setSeqItemAt ho rfl ?_)
    first
      | exact wpAny_bind (wpAny_pure (wpAny_pure ⟨.none,rfl,wpAny_pure (hQ _ (mapSeq_plain ho) (Heap.SameBut.update ..))⟩))
      | exact wpAny_pure ⟨.none,rfl,wpAny_pure (hQ _ (mapSeq_plain ho) (Heap.SameBut.update ..))⟩
  | negSucc j=>
    show wpAny _ _ ((Builtin.List.listItems (.ref l) >>= fun xs=>pure ((seqIndex? (Int.negSucc j) xs.size).bind fun i=>xs[i]?.map (i,·))) >>= _) _ _ s
    refine wpAny_bind (wpAny_bind ?_)
    show wpAny _ _ (seqItems? (.ref l) >>= _) _ _ s
    refine wpAny_bind (wpAny_seqItems ho rfl (wpAny_pure (wpAny_pure ?_)))
    rw [hidx]
    simp only [Option.bind_some,hx,Option.map_some]
    show wpAny _ _ (setSeqItemAt l p v >>= _) _ _ s
    refine wpAny_bind (wpAny_setSeqItemAt ho rfl ?_)
    first
      | exact wpAny_bind (wpAny_pure (wpAny_pure ⟨.none,rfl,wpAny_pure (hQ _ (mapSeq_plain ho) (Heap.SameBut.update ..))⟩))
      | exact wpAny_pure ⟨.none,rfl,wpAny_pure (hQ _ (mapSeq_plain ho) (Heap.SameBut.update ..))⟩
theorem extend_W (l b:Addr) (items items2:Array Value) (n n2:Nat) (dd dd2:Option Addr) (sl sl2:Array (Option Value)) (hc0:¬(!items.isEmpty && Builtin.List.listTooLong (items.size + items2.size))=true) (hc1:items.size≤sizeLine) (hs2:items.size + items2.size≤sizeLine + 1) :
    Meets (Builtin.«list.extend» ⟨[.ref l,.ref b],[]⟩) (fun _ R s=>s.heap.get? l=some { cls:=.type "list", dict:=dd,data:=.seq items n,slots:=sl }∧s.heap.get? b=some { cls:=.type "list", dict:=dd2,data:=.seq items2 n2,slots:=sl2 }∧R (.ok (.ret Value.none)) { s with heap:=s.heap.update l (Obj.mapSeq fun x=>x++items2),toks:=s.toks }):=
  .of_wp fun prog w A R s h=>by
    obtain ⟨hp,g,d,tk,os⟩:=s;obtain ⟨hl,hb,h⟩:=h
    have f1:=AutoSeq1.idx_int;have f2:=AutoSeq1.sub_tuple_tuple;have f3:=AutoSeq1.sub_list_list;have f4:=AutoSeq1.sub_tuple_list;have f5:=AutoSeq1.sub_list_tuple
    have hz':(items++items2).size≤sizeLine + 1:=by rw [Array.size_append];exact hs2
    wp_walk using (wpAny_updateSeq hl rfl (hz:=hc1) (_hz':=hz')),wpAny_loadPart' hl,wpAny_loadPart' hb;exact ⟨_,rfl,h⟩
theorem neg_one {n:Nat} (h:0<n):((-1:Int) + (n:Int)).toNat=n - 1:=by
  cases n with
  | zero=>cases h
  | succ n=>rw [Int.natCast_succ,Int.add_comm,Int.add_neg_cancel_right];rfl
theorem pop_W (l:Addr) (items:Array Value) (n:Nat) (y:Value) (dd:Option Addr) (sl:Array (Option Value)) (hy:items[items.size - 1]?=some y) (hs1:items.size≤sizeLine) :
    Meets (Builtin.«list.pop» ⟨[.ref l],[]⟩)
      (fun _ R s=>s.heap.get? l=some { cls:=.type "list", dict:=dd,data:=.seq items n,slots:=sl }∧R (.ok (.ret y)) { s with heap:=s.heap.update l (Obj.mapSeq fun xs=>xs.eraseIdxIfInBounds (items.size - 1)) }):=
  .of_wp fun prog w A R s h=>by
    obtain ⟨hp,g,d,tk,os⟩:=s;obtain ⟨hl,h⟩:=h
    have hpos:0<items.size:=Nat.lt_of_le_of_lt (Nat.zero_le _) (Array.getElem?_eq_some_iff.mp hy).1
    have hne:¬ items.isEmpty=true:=fun he=>Nat.ne_of_gt hpos (Array.isEmpty_iff_size_eq_zero.mp he)
    have hk:seqIndex? (-1) items.size=some (items.size - 1):=by
      rw [seqIndex_neg (k:=-1) (by decide) (Int.neg_le_neg (Int.ofNat_le.mpr hpos)),neg_one hpos]
    wp_walk using wpAny_loadPart' hl
    rw [hk]
    simp only [Option.bind_some,hy,Option.map_some]
    have hz':(items.eraseIdxIfInBounds (items.size - 1)).size≤sizeLine + 1:=Nat.le_trans (MeetsSeq.size_erased items _) (Nat.le_succ_of_le hs1)
    wp_walk using (wpAny_updateSeq hl rfl (hz:=hs1) (_hz':=hz')),wpAny_loadPart' hl
    exact ⟨_,rfl,h⟩
theorem plain_alive {h:Heap} {a:Addr} {xs:Array Value} (x:h.PlainList a xs):∃ o,h.get? a=some o:=let ⟨_,e⟩:=x;⟨_,e⟩
theorem list_changed (I:Inv prog w cls base Z αs μ s.heap) {i:Nat} {a:Addr} {h':Heap} {tk:Nat} {vs:List Value} {ds:List V} (hlo:lo≤i) (ha:αs[i]?=some a) (hs:Heap.SameBut a s.heap h') (hl:h'.PlainList a vs.toArray) (hz:vs.length≤sizeLine) (r:Reps prog w Z αs vs ds) :
    OutM prog w cls base lo Z αs s (μ.set i (.list ds)) { s with heap:=h',toks:=tk }:=
  ⟨Z,αs,.set hlo ha (fun b o hb e=>sameBut_ext hs hb e) (plain_alive hl),I.set ha (fun b o hb e=>sameBut_ext hs hb e) ⟨vs,hl,hz,r⟩⟩
theorem OutM.none {s':Shared} (h:OutM prog w cls base lo Z αs s μ' s'):OutE prog w cls base lo Z αs s μ' .none .none s':=by obtain ⟨Z',αs',S,I⟩:=h;exact ⟨Z',αs',S,I,.none⟩
theorem append_ok (I:Inv prog w cls base Z αs μ s.heap) {i:Nat} {x u:Value} {ds:List V} {d:V} (R:Rep prog w Z αs x (.obj i)) (Ru:Rep prog w Z αs u d) (hm:μ[i]?=some (.list ds)) (hlo:lo≤i) (hz:ds.length<sizeLim) :
    wpAny (model prog w) A (call (.builtin "list.append") [x,u]) (OutE prog w cls base lo Z αs s (μ.set i (.list (ds++[d]))) .none) FF s:=by
  apply R.objE
  intro a ha
  obtain ⟨vs,hl,hlz,r⟩:=I.at_ _ _ _ ha hm
  refine wpAny_list_append_plain hl (fun h' hl' hs=>OutM.none (list_changed (tk:=s.toks) (vs:=vs++[u]) I hlo ha hs (List.push_toArray vs u ▸ hl') ?_ (r.append (.one Ru)))) (by rw [List.size_toArray];exact hlz)
  rw [List.length_append,r.length]
  exact Nat.le_trans hz (by decide)
theorem too_long {xs ys:Array Value} (h:xs.size + ys.size≤sizeLim):¬ (!xs.isEmpty && Builtin.List.listTooLong (xs.size + ys.size))=true:=fun hx=>by
  have:=(Bool.and_eq_true_iff.mp hx).2
  have hl:sizeLim≤sizeLine:=by decide
  simp [Builtin.List.listTooLong] at this
  omega
theorem extend_list_ok (I:Inv prog w cls base Z αs μ s.heap) {i:Nat} {x u:Value} {ds es:List V} {d:V} (R:Rep prog w Z αs x (.obj i)) (Ru:Rep prog w Z αs u d) (hm:μ[i]?=some (.list ds)) (he:listV μ d=some es) (hlo:lo≤i) (hz:ds.length + es.length≤sizeLim) :
    wpAny (model prog w) A (call (.builtin "list.extend") [x,u]) (OutE prog w cls base lo Z αs s (μ.set i (.list (ds++es))) .none) FF s:=by
  apply R.objE
  intro a ha
  apply list_at I Ru he
  rintro b ws ⟨⟨c2,dd2,dt2,sl2⟩,ho2,hc2,k2,hd2⟩ hlz2 r2
  cases hc2;cases hd2
  obtain ⟨vs,hl,hlz,r⟩:=I.at_ _ _ _ ha hm
  obtain ⟨k,ho⟩:=hl
  have hs:vs.length + ws.length≤sizeLim:=by rw [r.length,r2.length];exact hz
  have hs':vs.length + ws.length≤sizeLine:=Nat.le_trans hs (by decide)
  exact call_meets F.slot_list_extend ⟨_,ho,rfl⟩ F.entry_list_extend (F.args_list_extend_2 _ _) (extend_W a b vs.toArray ws.toArray k k2 none dd2 #[] sl2 (too_long hs) hlz (Nat.le_succ_of_le hs')) ⟨ho,ho2,
    OutM.none (list_changed (vs:=vs++ws) I hlo ha (Heap.SameBut.update ..) (List.append_toArray vs ws ▸ mapSeq_plain (f:=fun x=>x++ws.toArray) ho) (by rw [List.length_append];exact hs') (r.append r2))⟩
theorem drop_last {vs:List Value} (h:0<vs.length):vs.dropLast.toArray=vs.toArray.eraseIdxIfInBounds (vs.toArray.size - 1):=by
  apply Array.toList_inj.mp
  simp only [Array.eraseIdxIfInBounds,List.size_toArray]
  rw [dif_pos (by omega)]
  simp [List.eraseIdx_eq_take_drop_succ,List.dropLast_eq_take]
  omega
theorem pop_ok (I:Inv prog w cls base Z αs μ s.heap) {i:Nat} {x:Value} {ds:List V} {d:V} (R:Rep prog w Z αs x (.obj i)) (hm:μ[i]?=some (.list ds)) (he:ds.getLast?=some d) (hlo:lo≤i) :
    wpAny (model prog w) A (call (.builtin "list.pop") [x]) (OutE prog w cls base lo Z αs s (μ.set i (.list ds.dropLast)) d) FF s:=by
  apply R.objE
  intro a ha
  obtain ⟨vs,hl,hlz,r⟩:=I.at_ _ _ _ ha hm
  obtain ⟨k,ho⟩:=hl
  have h1:=r.length
  rw [List.getLast?_eq_getElem?,← h1] at he
  obtain ⟨y,e1,e2⟩:=r.get he
  refine call_meets F.slot_list_pop ⟨_,ho,rfl⟩ F.entry_list_pop (F.args_list_pop_1 _) (pop_W a vs.toArray k y none #[] (by rw [List.getElem?_toArray];exact e1) hlz) ⟨ho,?_⟩
  have hl:(s.heap.update a (Obj.mapSeq fun xs=>xs.eraseIdxIfInBounds (vs.toArray.size - 1))).PlainList a vs.dropLast.toArray:=drop_last (Nat.lt_of_le_of_lt (Nat.zero_le _) (List.getElem?_eq_some_iff.mp e1).1) ▸ mapSeq_plain ho
  exact ⟨Z,αs,.set hlo ha (fun b o hb e=>sameBut_ext (Heap.SameBut.update ..) hb e) (plain_alive hl),I.set ha (fun b o hb e=>sameBut_ext (Heap.SameBut.update ..) hb e)
    ⟨vs.dropLast,hl,by rw [List.length_dropLast];exact Nat.le_trans (Nat.sub_le _ _) hlz,by rw [List.dropLast_eq_take,List.dropLast_eq_take,h1];exact r.take _⟩,e2⟩
theorem fits_index {k:Int} (h0:-(2 ^ 63)≤k) (h1:k<2 ^ 63):Builtin.List.listFitsIndex k=true:=by
  simp only [Builtin.List.listFitsIndex,Bool.and_eq_true,decide_eq_true_eq]
  omega
theorem setIdx_list_ok (I:Inv prog w cls base Z αs μ s.heap) {i j:Nat} {k:Int} {a:Addr} {t:Tok} {u:Value} {ds:List V} {d:V} (ha:αs[i]?=some a) (Ru:Rep prog w Z αs u d) (hm:μ[i]?=some (.list ds)) (hj:placeOf k ds.length=some j) (hlo:lo≤i) :
    wpAny (model prog w) A (setItem (.ref a) (.int k t) u) (fun _=>OutM prog w cls base lo Z αs s (μ.set i (.list (ds.set j d)))) FF s:=by
  obtain ⟨vs,hl,hlz,r⟩:=I.at_ _ _ _ ha hm
  rw [← r.length] at hj
  have hb:=place_lt hj hlz
  have hjl:j<vs.length:=by apply placeOf_some hj <;> intros <;> assumption
  exact setItem_at hl (fits_index hb.1 hb.2) (by rw [List.size_toArray];exact seqIndex_of hj) hjl fun h' hl' hs=>list_changed (tk:=s.toks) (vs:=vs.set j u) I hlo ha hs (List.setIfInBounds_toArray vs j u ▸ hl') (by rw [List.length_set];exact hlz) (r.set Ru _)
theorem putE_keys {α:Type} [BEq α] [LawfulBEq α] {k:α} {v:V}:∀ {es:List (α×V)},(putE k v es).map (·.1)=if k ∈ es.map (·.1) then es.map (·.1) else es.map (·.1)++[k]
  | []=>by simp [putE]
  | (k',v')::r=>by
    unfold putE
    by_cases h:k=k'
    · subst h;simp
    · have h1:(k == k')=false:=by simpa using h
      rw [h1]
      simp only [Bool.false_eq_true,if_false,List.map_cons,putE_keys (es:=r),List.mem_cons,h,false_or]
      split <;> simp
theorem stored_keys {K:Type} [DecidableEq K] {k:K} {v:Value} {kvs:List (K×Value)}:(stored kvs k v).map (·.1)=if k ∈ kvs.map (·.1) then kvs.map (·.1) else kvs.map (·.1)++[k]:=by
  have hany:kvs.any (fun kv=>decide (kv.1=k))=decide (k ∈ kvs.map (·.1)):=by
    rw [Bool.eq_iff_iff];simp [List.any_eq_true]
  unfold stored
  simp only [hany,decide_eq_true_eq]
  split
  · rw [List.map_map]
    congr 1
    funext p
    simp only [Function.comp]
    split <;> rfl
  · simp
theorem setIdx_int_ok (I:Inv prog w cls base Z αs μ s.heap) {i:Nat} {k:Int} {a:Addr} {t:Tok} {u:Value} {v:V} {es:List (Int×V)} (ha:αs[i]?=some a) (hm:μ[i]?=some (.idict es)) (hlo:lo≤i) (hz:es.length≤sizeLim) :
    wpAny (model prog w) A (setItem (.ref a) (.int k t) u) (fun _=>OutM prog w cls base lo Z αs s (μ.set i (.idict (putE k v es)))) FF s:=by
  obtain ⟨kvs,hf,hk⟩:=I.at_ _ _ _ ha hm
  have hlen:kvs.length≤sizeLine:=by
    rw [← List.length_map (f:=Prod.fst) (as:=kvs),hk,List.length_map]
    exact Nat.le_trans hz (by decide)
  exact wpAny_setItem_pairs (knd:=intKind prog w) (isInt_self prog w k t) hf (fun h' hf' hs=>⟨Z,αs,.set hlo ha (fun b o hb e=>sameBut_ext hs hb e) (hf'.imp fun _ ⟨_,_,h,_⟩=>h),I.set ha (fun b o hb e=>sameBut_ext hs hb e) ⟨_,hf',by rw [stored_keys,putE_keys,hk]⟩⟩) hlen
inductive KVs (prog:Program) (w:World) (Z:Addr→Obj→Prop) (αs:List Addr):List (Str×Value)→List (Str×V)→Prop
  | nil:KVs prog w Z αs [] []
  | cons {x:Str} {u:Value} {v:V} {kvs:List (Str×Value)} {es:List (Str×V)}:Rep prog w Z αs u v→KVs prog w Z αs kvs es→KVs prog w Z αs ((x,u)::kvs) ((x,v)::es)
theorem KVs.keys {kvs:List (Str×Value)} {es:List (Str×V)} (h:KVs prog w Z αs kvs es):kvs.map (·.1)=es.map (·.1):=by
  induction h with
  | nil=>rfl
  | cons _ _ ih=>simp [ih]
theorem KVs.length {kvs:List (Str×Value)} {es:List (Str×V)} (h:KVs prog w Z αs kvs es):kvs.length=es.length:=by
  have:=congrArg List.length h.keys;simpa using this
theorem pairs_sents {kvs:List (Str×Value)} {es:List (Str×V)} (h:KVs prog w Z αs kvs es):∀ {des:List DictEntry},(∀ d ∈ des,∃ k,(strKind prog w).is k d.key=true∧d.hash=(strKind prog w).hash k)→Pairs (strKind prog w) des kvs→SEnts prog w Z αs des es:=by
  induction h with
  | nil=>intro des _ hp;cases hp;exact .nil
  | @cons x u v kvs es r _ ih=>
    intro des hk hp
    cases hp with
    | @cons d _ ds _ h1 h2 h3=>
      obtain ⟨hsh,key,val⟩:=d
      obtain ⟨t,rfl⟩:=Value.isStrOf_shape h1
      obtain ⟨k,e1,e2⟩:=hk _ (.head _)
      have hkx:k=x:=(strKind prog w).inj _ _ _ e1 h1
      subst hkx
      simp only at h2
      subst h2
      exact .cons e2 r (ih (fun d hd=>hk d (.tail _ hd)) h3)
theorem sents_pairs {des:List DictEntry} {es:List (Str×V)} (h:SEnts prog w Z αs des es):∃ kvs,KVs prog w Z αs kvs es∧Pairs (strKind prog w) des kvs:=by
  induction h with
  | nil=>exact ⟨[],.nil,.nil⟩
  | @cons hsh x t u v des es e r _ ih=>
    obtain ⟨kvs,h1,h2⟩:=ih
    exact ⟨(x,u)::kvs,.cons r h1,.cons (strKind_is prog w x t) rfl h2⟩
theorem KVs.put {kvs:List (Str×Value)} {es:List (Str×V)} (h:KVs prog w Z αs kvs es) (hn:(es.map (·.1)).Nodup) {x:Str} {u:Value} {v:V} (r:Rep prog w Z αs u v):KVs prog w Z αs (stored kvs x u) (putE x v es):=by
  have app:∀ {kvs:List (Str×Value)} {es:List (Str×V)},KVs prog w Z αs kvs es→x ∉ es.map (·.1)→KVs prog w Z αs (kvs++[(x,u)]) (putE x v es):=by
    intro kvs es h
    induction h with
    | nil=>intro _;exact .cons r .nil
    | @cons y u' v' kvs es r' _ ih=>
      intro hx
      simp only [List.map_cons,List.mem_cons,not_or] at hx
      unfold putE
      have h1:(x == y)=false:=by simpa using hx.1
      rw [h1]
      exact .cons r' (ih hx.2)
  have mapp:∀ {kvs:List (Str×Value)} {es:List (Str×V)},KVs prog w Z αs kvs es→(es.map (·.1)).Nodup→x ∈ es.map (·.1)→KVs prog w Z αs (kvs.map fun kv=>if kv.1=x then (kv.1,u) else kv) (putE x v es):=by
    intro kvs es h
    induction h with
    | nil=>intro _ hx;cases hx
    | @cons y u' v' kvs es r' hr ih=>
      intro hn hx
      simp only [List.map_cons,List.nodup_cons] at hn
      unfold putE
      by_cases hy:x=y
      · subst hy
        simp only [beq_self_eq_true,if_true,List.map_cons]
        have hrest:kvs.map (fun kv=>if kv.1=x then (kv.1,u) else kv)=kvs:=by
          have hk:=hr.keys
          refine (List.map_congr_left fun p hp=>?_).trans (List.map_id _)
          have:p.1 ∈ es.map (·.1):=by rw [← hk];exact List.mem_map_of_mem hp
          rw [if_neg (fun q:p.1=x=>hn.1 (q ▸ this))];rfl
        rw [hrest]
        exact .cons r hr
      · have h1:(x == y)=false:=by simpa using hy
        have h2:¬ y=x:=fun q=>hy q.symm
        rw [h1]
        simp only [List.map_cons,h2,if_false,Bool.false_eq_true]
        refine .cons r' (ih hn.2 ?_)
        simpa [hy] using hx
  unfold stored
  have hk:=h.keys
  have hany:kvs.any (fun kv=>decide (kv.1=x))=decide (x ∈ es.map (·.1)):=by
    rw [← hk,Bool.eq_iff_iff];simp [List.any_eq_true]
  simp only [hany,decide_eq_true_eq]
  split
  · rename_i hx;exact mapp h hn hx
  · rename_i hx;exact app h hx
theorem exact_dictOf {o:Obj} {es:Array DictEntry} {ep:Nat} (h:o.ExactDict) (hd:o.data=.dict es ep):o=dictOf es.toList ep:=by
  obtain ⟨c,d,dt,sl⟩:=o
  obtain ⟨h1,h2,h3⟩:=h
  simp only at h1 h2 h3 hd
  subst h1 h2 h3 hd
  rfl
theorem mrep_sdict {a:Addr} {h:Heap} {kvs:List (Str×Value)} {es:List (Str×V)} (hd:h.DictOf (strKind prog w) a kvs) (hk:KVs prog w Z αs kvs es) (hl:es.length≤900):MRep prog w cls Z αs h a (.sdict es):=by
  obtain ⟨o,des,ep,ho,hx,hdt,hks,hp,hn⟩:=hd
  have hs:SEnts prog w Z αs des.toList es:=pairs_sents hk (fun d hm=>hks d (Array.mem_toList_iff.mp hm)) hp
  exact ⟨des.toList,ep,by rw [ho,exact_dictOf hx hdt],by rw [hs.length];exact hl,hs⟩
inductive SDict (prog:Program) (w:World) (Z:Addr→Obj→Prop) (αs:List Addr) (h:Heap) (a:Addr) (es:List (Str×V)):Prop
  | mk (kvs:List (Str×Value)):h.DictOf (strKind prog w) a kvs→KVs prog w Z αs kvs es→es.length≤900→SDict prog w Z αs h a es
theorem sdict_dictOf (I:Inv prog w cls base Z αs μ s.heap) {i:Nat} {a:Addr} {es:List (Str×V)} (ha:αs[i]?=some a) (hm:μ[i]?=some (.sdict es)) (hn:(es.map (·.1)).Nodup):SDict prog w Z αs s.heap a es:=by
  obtain ⟨des,m,ho,hl,hs⟩:=I.at_ _ _ _ ha hm
  obtain ⟨kvs,h1,h2⟩:=sents_pairs hs
  exact ⟨kvs,⟨_,des.toArray,m,ho,⟨rfl,rfl,rfl⟩,rfl,fun d hd=>hs.keys d (List.mem_toArray.mp hd),h2,by rw [h1.keys];exact hn⟩,h1,by rw [← hs.length];exact hl⟩
theorem put_len {α:Type} [BEq α] [LawfulBEq α] {k:α} {v:V} {es:List (α×V)}:(putE k v es).length≤es.length + 1:=by
  have:=congrArg List.length (putE_keys (k:=k) (v:=v) (es:=es))
  rw [List.length_map] at this
  rw [this]
  split
  · rw [List.length_map];exact Nat.le_succ _
  · rw [List.length_append,List.length_map];exact Nat.le_refl _
theorem setIdx_str_ok (I:Inv prog w cls base Z αs μ s.heap) {i:Nat} {k:Str} {a:Addr} {t:Tok} {u:Value} {v:V} {es:List (Str×V)} (ha:αs[i]?=some a) (Ru:Rep prog w Z αs u v) (hm:μ[i]?=some (.sdict es)) (hn:(es.map (·.1)).Nodup) (hlo:lo≤i) (hz:es.length<100) :
    wpAny (model prog w) A (setItem (.ref a) (.str k t) u) (fun _=>OutM prog w cls base lo Z αs s (μ.set i (.sdict (putE k v es)))) FF s:=by
  obtain ⟨kvs,hf,hk,hl⟩:=sdict_dictOf I ha hm hn
  exact wpAny_setItem_pairs (knd:=strKind prog w) (strKind_is prog w k t) hf (fun h' hf' hs=>⟨Z,αs,.set hlo ha (fun b o hb e=>sameBut_ext hs hb e) (hf'.imp fun _ ⟨_,_,h,_⟩=>h),I.set ha (fun b o hb e=>sameBut_ext hs hb e) (mrep_sdict hf' (hk.put hn Ru) (Nat.le_trans put_len (Nat.le_trans hz (by decide))))⟩) (by rw [hk.length];exact Nat.le_trans hl (by decide))
theorem setIdxV_ok (I:Inv prog w cls base Z αs μ s.heap) {x y u:Value} {a i v:V} (R:Rep prog w Z αs x a) (Ry:Rep prog w Z αs y i) (Ru:Rep prog w Z αs u v) (e:setIdxV lo μ a i v=some μ') :
    wpAny (model prog w) A (setItem x y u) (fun _=>OutM prog w cls base lo Z αs s μ') FF s:=by
  refine bnd e fun n h1 e=>ifn e fun hlo e=>bnd e fun m h2 e=>mpd e fun m' h3 e=>?_
  rw [← e]
  have hlo:=Nat.le_of_not_lt hlo
  revert R
  apply obj_of h1
  intro R
  apply R.objE
  intro xa ha
  cases m with
  | list ds=>
    refine bnd h3 fun k h4 h3=>mpd h3 fun j h5 h3=>?_
    rw [← h3]
    revert Ry
    apply int_of h4
    intro Ry
    apply Ry.intE
    exact fun t=>setIdx_list_ok I ha Ru h2 h5 hlo
  | sdict es=>
    refine bnd h3 fun k h4 h3=>ifd h3 fun h5 h3=>?_
    rw [← h3]
    revert Ry
    apply str_of h4
    intro Ry
    apply Ry.strE
    exact fun t=>setIdx_str_ok I ha Ru h2 h5.1 hlo h5.2
  | idict es=>
    refine bnd h3 fun k h4 h3=>ifd h3 fun h5 h3=>?_
    rw [← h3]
    revert Ry
    apply int_of h4
    intro Ry
    apply Ry.intE
    exact fun t=>setIdx_int_ok I ha h2 hlo h5
  | inst=>cases h3
end
end Mine
namespace Mine
open PySem PySem.W PySem.Calls PyProof.Rows
section
variable {lo:Nat} {prog:Program} {w:World} {cls:Str→Option Addr} {base:Heap} {Z:Addr→Obj→Prop} {αs:List Addr} {s:Shared} {μ μ':M} {A:Around} {env:Env} {ρ:Rho} {n:Nat} {K:Frag}
theorem OutE.keeps {v:V} {x:Value} {h':Heap} {tk:Nat} (I:Inv prog w cls base Z αs μ s.heap) (hk:∀ b o,s.heap.get? b=some o→h'.get? b=some o) (r:Rep prog w Z αs x v):OutE prog w cls base lo Z αs s μ v x { s with heap:=h',toks:=tk }:=
  ⟨Z,αs,.of_keeps ⟨h',tk,rfl,hk⟩,I.keeps hk,r⟩
theorem OutE.fast {v:V} {o:Obj} {a:Addr} {h':Heap} {tk:Nat} (I:Inv prog w cls base Z αs μ s.heap) (hd:s.heap.get? a=none) (hk:∀ b o,s.heap.get? b=some o→h'.get? b=some o) (ho:h'.get? a=some o) (r:Rep prog w (zadd Z a o) αs (.ref a) v) :
    OutE prog w cls base lo Z αs s μ v (.ref a) { s with heap:=h',toks:=tk }:=
  ⟨_,αs,.zpush hd hk,I.zpush hd hk ho,r⟩
theorem small_len {k:Nat} (h:k≤sizeLine):((k:Nat):Int)<2 ^ 63:=by have:=sizeLine_lt;omega
theorem len_tup_ok (I:Inv prog w cls base Z αs μ s.heap) {x:Value} {ds:List V} (R:Rep prog w Z αs x (.tup ds)):wpAny (model prog w) A (call (.builtin "len") [x]) (OutE prog w cls base lo Z αs s μ (.int ds.length)) FF s:=by
  apply tup_at I R
  rintro a vs ht hl r
  exact len_tuple ht (by rw [List.size_toArray];exact small_len hl) (by rw [List.size_toArray,r.length];exact .tok I (.int _ _))
theorem len_list_ok (I:Inv prog w cls base Z αs μ s.heap) {x:Value} {v:V} {ds:List V} (R:Rep prog w Z αs x v) (e:listV μ v=some ds):wpAny (model prog w) A (call (.builtin "len") [x]) (OutE prog w cls base lo Z αs s μ (.int ds.length)) FF s:=by
  apply list_at I R e
  rintro a vs ht hl r
  exact call_len_list ht (by rw [List.size_toArray];exact small_len hl) (by rw [List.size_toArray,r.length];exact .tok I (.int _ _))
theorem max2_ok (hh:A.handled=none) (I:Inv prog w cls base Z αs μ s.heap) {x y:Value} {a b:Int} (Rx:Rep prog w Z αs x (.int a)) (Ry:Rep prog w Z αs y (.int b)) :
    wpAny (model prog w) A (call (.builtin "max") [x,y]) (OutE prog w cls base lo Z αs s μ (.int (if b > a then b else a))) FF s:=by
  apply Rx.intE
  intro t
  apply Ry.intE
  intro u
  refine max_two_ints hh fun h' tk hk=>?_
  split <;> exact OutE.keeps I hk (.int _ _)
theorem min2_ok (hh:A.handled=none) (I:Inv prog w cls base Z αs μ s.heap) {x y:Value} {a b:Int} (Rx:Rep prog w Z αs x (.int a)) (Ry:Rep prog w Z αs y (.int b)) :
    wpAny (model prog w) A (call (.builtin "min") [x,y]) (OutE prog w cls base lo Z αs s μ (.int (if b<a then b else a))) FF s:=by
  apply Rx.intE
  intro t
  apply Ry.intE
  intro u
  refine min_two_ints hh fun h' tk hk=>?_
  split <;> exact OutE.keeps I hk (.int _ _)
theorem rep_ints {vs:List Value} {is:List Int} (r:Reps prog w Z αs vs (is.map V.int)):∃ xs:List (Int×Tok),vs=xs.map (fun p=>Value.int p.1 p.2)∧xs.map (·.1)=is:=by
  induction is generalizing vs with
  | nil=>cases r;exact ⟨[],rfl,rfl⟩
  | cons i is ih=>
    cases r with
    | cons h r=>
      obtain ⟨xs,h1,h2⟩:=ih r
      apply h.intE
      exact fun t=>⟨(i,t)::xs,by rw [h1];rfl,by rw [← h2];rfl⟩
theorem preSum_shift (f:Nat→Int) (n:Nat):preSum f (n + 1)=f 0 + preSum (fun i=>f (i + 1)) n:=by
  induction n with
  | zero=>simp [preSum]
  | succ n ih=>rw [preSum,ih,preSum];omega
theorem preSum_list:∀ (l:List Int),preSum (fun i=>l.getD i 0) l.length=l.sum
  | []=>rfl
  | x::l=>by
    rw [List.length_cons,preSum_shift,List.sum_cons,← preSum_list l]
    rfl
theorem sum_ok (hh:A.handled=none) (I:Inv prog w cls base Z αs μ s.heap) {x:Value} {v:V} {ds:List V} {is:List Int} (R:Rep prog w Z αs x v) (e:listV μ v=some ds) (ei:intsOf ds=some is) :
    wpAny (model prog w) A (call (.builtin "sum") [x]) (OutE prog w cls base lo Z αs s μ (.int is.sum)) FF s:=by
  apply list_at I R e
  rintro a vs ht hl r
  rw [intsOf_some ei] at r
  obtain ⟨xs,rfl,hx⟩:=rep_ints r
  have e1:(xs.map fun p=>Value.int p.1 p.2).toArray=intItems xs.toArray:=by simp [intItems]
  rw [e1] at ht
  refine sum_intListG hh ht fun h' tk t' hk=>?_
  have e2:preSum (numAt xs.toArray) xs.toArray.size=is.sum:=by
    have h3:(fun i=>is.getD i 0)=numAt xs.toArray:=by
      funext i
      rw [← hx]
      simp [numAt,List.getD_eq_getElem?_getD]
    rw [← h3,List.size_toArray,show xs.length=is.length by rw [← hx];simp,preSum_list]
  rw [e2]
  exact OutE.keeps I hk (.int _ _)
theorem argBest_max (f:Nat→Int):∀ n,f (argBest (fun i j=>decide (f i > f j)) n)=(List.range n).foldl (fun m i=>if f (i + 1) > m then f (i + 1) else m) (f 0)
  | 0=>rfl
  | n + 1=>by
    rw [List.range_succ,List.foldl_append,← argBest_max f n,argBest]
    simp only [List.foldl_cons,List.foldl_nil,decide_eq_true_eq]
    split <;> rfl
theorem argBest_min (f:Nat→Int):∀ n,f (argBest (fun i j=>decide (f i<f j)) n)=(List.range n).foldl (fun m i=>if f (i + 1)<m then f (i + 1) else m) (f 0)
  | 0=>rfl
  | n + 1=>by
    rw [List.range_succ,List.foldl_append,← argBest_min f n,argBest]
    simp only [List.foldl_cons,List.foldl_nil,decide_eq_true_eq]
    split <;> rfl
theorem foldl_range_list {β:Type} (g:β→Int→β):∀ (l:List Int) (b:β),(List.range l.length).foldl (fun m i=>g m (l.getD i 0)) b=l.foldl g b:=by
  intro l
  induction l with
  | nil=>intro b;rfl
  | cons x l ih=>
    intro b
    rw [List.length_cons,List.range_succ_eq_map,List.foldl_cons,List.foldl_map,List.foldl_cons]
    exact ih _
theorem maxI_fold:∀ (l:List Int) (m:Int),maxI m l=l.foldl (fun m x=>if x > m then x else m) m
  | [],_=>rfl
  | x::l,m=>by rw [maxI,List.foldl_cons,maxI_fold l]
theorem minI_fold:∀ (l:List Int) (m:Int),minI m l=l.foldl (fun m x=>if x<m then x else m) m
  | [],_=>rfl
  | x::l,m=>by rw [minI,List.foldl_cons,minI_fold l]
theorem int_items {xs:List (Int×Tok)} {is:List Int} (hx:xs.map (·.1)=is) {i:Nat} {v:Value} (h:(xs.map fun p=>Value.int p.1 p.2)[i]?=some v):∃ t,v=.int (is.getD i 0) t:=by
  rw [List.getElem?_map,Option.map_eq_some_iff] at h
  obtain ⟨p,h1,rfl⟩:=h
  refine ⟨p.2,?_⟩
  rw [← hx,List.getD_eq_getElem?_getD,List.getElem?_map,h1];rfl
theorem max_tup_ok (hh:A.handled=none) (I:Inv prog w cls base Z αs μ s.heap) {x:Value} {ds:List V} {i:Int} {is:List Int} (R:Rep prog w Z αs x (.tup ds)) (e:intsOf ds=some (i::is)) :
    wpAny (model prog w) A (call (.builtin "max") [x]) (OutE prog w cls base lo Z αs s μ (.int (maxI i is))) FF s:=by
  apply tup_at I R
  rintro a vs ht hl r
  rw [intsOf_some e] at r
  obtain ⟨xs,rfl,hx⟩:=rep_ints r
  have hlen:xs.length=is.length + 1:=by have:=congrArg List.length hx;simpa using this
  have ha:a≠s.heap.objs.size:=by obtain ⟨o,ho,_⟩:=ht;exact lt_of_alive ho
  refine call_max_walk (wpAny_pyIter_tuple ht ?_)
  refine ⟨_,_,_,_,_,_,fun p q=>decide ((i::is).getD p 0 > (i::is).getD q 0),rfl,Walks.tuple (A:=A.in1) hh _ a ha _,⟨⟨_,Heap.get?_push_size _ rfl,rfl,rfl⟩,ht.at fun o q=>Heap.get?_push_of_some _ q⟩,fun b hb=>?_,by simp [hlen],fun p q vi vj s' Q E hi hj hQ=>?_,fun v h' tk hv hk=>?_⟩
  · rcases List.mem_cons.mp hb with rfl | hb
    · simp
    · rw [List.mem_singleton.mp hb];obtain ⟨o,ho,_⟩:=ht;have:=alive_lt ho;rw [Heap.size_push];exact Nat.lt_succ_of_lt this
  · dsimp only at hi hj
    rw [List.getElem?_toArray] at hi hj
    obtain ⟨t,rfl⟩:=int_items hx hi
    obtain ⟨u,rfl⟩:=int_items hx hj
    exact PyProof.Rows.gt_int hQ
  · rw [List.getElem?_toArray] at hv
    obtain ⟨t,rfl⟩:=int_items hx hv
    have hb:=argBest_max (fun k=>(i::is).getD k 0) is.length
    have hn:(xs.map fun p=>Value.int p.1 p.2).toArray.size - 1=is.length:=by simp [hlen]
    rw [hn,hb]
    have:(List.range is.length).foldl (fun m k=>if (i::is).getD (k + 1) 0 > m then (i::is).getD (k + 1) 0 else m) ((i::is).getD 0 0)=maxI i is:=by
      rw [maxI_fold]
      exact foldl_range_list (fun m x=>if x > m then x else m) is i
    rw [this]
    refine OutE.keeps I (fun b o q=>hk b o (fun hm=>?_) (Heap.get?_push_of_some _ q)) (.int _ _)
    rw [List.mem_singleton.mp hm] at q
    rw [dead_size] at q;cases q
theorem min_tup_ok (hh:A.handled=none) (I:Inv prog w cls base Z αs μ s.heap) {x:Value} {ds:List V} {i:Int} {is:List Int} (R:Rep prog w Z αs x (.tup ds)) (e:intsOf ds=some (i::is)) :
    wpAny (model prog w) A (call (.builtin "min") [x]) (OutE prog w cls base lo Z αs s μ (.int (minI i is))) FF s:=by
  apply tup_at I R
  rintro a vs ht hl r
  rw [intsOf_some e] at r
  obtain ⟨xs,rfl,hx⟩:=rep_ints r
  have hlen:xs.length=is.length + 1:=by have:=congrArg List.length hx;simpa using this
  have ha:a≠s.heap.objs.size:=by obtain ⟨o,ho,_⟩:=ht;exact lt_of_alive ho
  refine call_min_walk (wpAny_pyIter_tuple ht ?_)
  refine ⟨_,_,_,_,_,_,fun p q=>decide ((i::is).getD p 0<(i::is).getD q 0),rfl,Walks.tuple (A:=A.in1) hh _ a ha _,⟨⟨_,Heap.get?_push_size _ rfl,rfl,rfl⟩,ht.at fun o q=>Heap.get?_push_of_some _ q⟩,fun b hb=>?_,by simp [hlen],fun p q vi vj s' Q E hi hj hQ=>?_,fun v h' tk hv hk=>?_⟩
  · rcases List.mem_cons.mp hb with rfl | hb
    · simp
    · rw [List.mem_singleton.mp hb];obtain ⟨o,ho,_⟩:=ht;have:=alive_lt ho;rw [Heap.size_push];exact Nat.lt_succ_of_lt this
  · dsimp only at hi hj
    rw [List.getElem?_toArray] at hi hj
    obtain ⟨t,rfl⟩:=int_items hx hi
    obtain ⟨u,rfl⟩:=int_items hx hj
    exact PySem.P.lt_int hQ
  · rw [List.getElem?_toArray] at hv
    obtain ⟨t,rfl⟩:=int_items hx hv
    have hb:=argBest_min (fun k=>(i::is).getD k 0) is.length
    have hn:(xs.map fun p=>Value.int p.1 p.2).toArray.size - 1=is.length:=by simp [hlen]
    rw [hn,hb]
    have:(List.range is.length).foldl (fun m k=>if (i::is).getD (k + 1) 0<m then (i::is).getD (k + 1) 0 else m) ((i::is).getD 0 0)=minI i is:=by
      rw [minI_fold]
      exact foldl_range_list (fun m x=>if x<m then x else m) is i
    rw [this]
    refine OutE.keeps I (fun b o q=>hk b o (fun hm=>?_) (Heap.get?_push_of_some _ q)) (.int _ _)
    rw [List.mem_singleton.mp hm] at q
    rw [dead_size] at q;cases q
end
end Mine
namespace Mine
open PySem PySem.W PySem.Calls PyProof.Rows
section
variable {lo:Nat} {prog:Program} {w:World} {cls:Str→Option Addr} {base:Heap} {Z:Addr→Obj→Prop} {αs:List Addr} {s:Shared} {μ μ':M} {A:Around} {env:Env} {ρ:Rho} {n:Nat} {K:Frag}
theorem range1_ok (I:Inv prog w cls base Z αs μ s.heap) {x:Value} {b:Int} (R:Rep prog w Z αs x (.int b)) (hb:b≤sizeLim):wpAny (model prog w) A (call (.type "range") [x]) (OutE prog w cls base lo Z αs s μ (.rng 0 b)) FF s:=by
  apply R.intE
  exact fun t=>call_range_1 (OutE.fastPush I rfl (.rng (.inr ⟨rfl,rfl⟩) rfl (by rw [Int.sub_zero];exact hb)))
theorem range2_ok (I:Inv prog w cls base Z αs μ s.heap) {x y:Value} {a b:Int} (R:Rep prog w Z αs x (.int a)) (Ry:Rep prog w Z αs y (.int b)) (hb:b - a≤sizeLim) :
    wpAny (model prog w) A (call (.type "range") [x,y]) (OutE prog w cls base lo Z αs s μ (.rng a b)) FF s:=by
  apply R.intE
  intro t
  apply Ry.intE
  intro u
  exact call_range_2 (OutE.fastPush I rfl (.rng (.inr ⟨rfl,rfl⟩) rfl hb))
theorem extend_loop {I:Addr} {fp:List Addr} {P:Nat→Value→Prop} {St:Nat→Heap→Prop} {m:Nat} (W:Walks prog w A.in1 I fp [I] m P St) (Sa:Addr) (hSf:Sa ∉ fp) (hIf:I ∈ fp) (res:Value) {R:Result→Shared→Prop} :
    ∀ (k i:Nat) (s:Shared) (acc:List Value) (c:Nat),m - i=k→i≤m→acc.length + k≤sizeLine→St i s.heap→s.heap.get? Sa=some { cls:=.type "list", data:=.seq acc.toArray c }→
    (∀ h' tk' new c',(∀ b o,b≠Sa→b≠I→s.heap.get? b=some o→h'.get? b=some o)→h'.get? Sa=some { cls:=.type "list", data:=.seq (acc++new).toArray c' }→new.length=k→(∀ j v,new[j]?=some v→P (i + j) v)→R (.ok (.ret res)) { s with heap:=h',toks:=tk' })→
    codeAny (model prog w) A (.builtin "list.extend.loop" ⟨[.ref Sa,.ref I,res],[]⟩) R s:=by
  intro k
  have hSI:Sa≠I:=fun e=>hSf (e ▸ hIf)
  induction k with
  | zero=>
    intro i s acc c hk hi hlen hst hS hR
    have hin:=down_eq hk hi
    subst hin
    refine codeAny_builtin F.entry_extend_loop ?_
    rw [Around.under_plainId F.plain_extend_loop _]
    show wpAny _ A.in1 (pyNext (.ref I) >>= _) _ _ s
    refine wpAny_bind (W.done s _ _ hst fun h' tk hm=>?_)
    refine wpAny_pure (hR h' tk [] c (fun b o h1 h2 e=>hm b o (by simpa using h2) e) ?_ rfl fun j v hj=>by simp at hj)
    rw [List.append_nil];exact hm _ _ (by simpa using hSI) hS
  | succ k ih=>
    intro i s acc c hk hi hlen hst hS hR
    have hlt:=down_lt hk
    refine codeAny_builtin F.entry_extend_loop ?_
    rw [Around.under_plainId F.plain_extend_loop _]
    show wpAny _ A.in1 (pyNext (.ref I) >>= _) _ _ s
    refine wpAny_bind (W.item i s _ _ hlt hst fun v h' tk hP hst' hm=>?_)
    have hS':=hm _ _ (show Sa ∉ [I] by simpa using hSI) hS
    show wpAny _ A.in1 (updateSeq Sa (·.push v) >>= _) _ _ _
    refine wpAny_bind ?_
    refine wpAny_updateSeq hS' rfl (wpAny_pure ⟨plainId_quiet F.plain_extend_loop _,?_⟩) (by rw [List.size_toArray];omega) (by show (acc.toArray.push v).size≤sizeLine + 1;rw [Array.size_push,List.size_toArray];omega)
    have hup:=Heap.get?_update_self (Obj.mapSeq (·.push v)) hS' rfl
    have e2:acc.toArray.push v=(acc++[v]).toArray:=by simp
    refine ih (i + 1) _ (acc++[v]) (if (acc.toArray.push v).size == acc.toArray.size then c else c + 1) (down hk) hlt (by simp;omega) (W.frame _ h' _ hst' fun b hb o e=>?_) ?_ fun h'' tk'' new c' hk'' hS'' hlen' hP'=>?_
    · exact (Heap.get?_update_other _ _ (fun h:Sa=b=>hSf (by rw [h];exact hb))).trans e
    · rw [← e2];exact hup
    · refine hR h'' tk'' (v::new) c' (fun b o h1 h2 e=>hk'' b o h1 h2 ((Heap.get?_update_other _ _ (Ne.symm h1)).trans (hm b o (by simpa using h2) e))) (by rw [show acc++v::new=acc++[v]++new by simp];exact hS'') (by simp [hlen']) fun j u hj=>?_
      cases j with
      | zero=>simp at hj;subst hj;exact hP
      | succ j=>
        have:=hP' j u (by simpa using hj)
        rw [show i + (j + 1)=i + 1 + j by omega];exact this
theorem reps_of:∀ {l:List Value} {es:List V},l.length=es.length→(∀ (j:Nat) (v:Value),l[j]?=some v→∃ d,es[j]?=some d∧Rep prog w Z αs v d)→Reps prog w Z αs l es:=by
  intro l
  induction l with
  | nil=>intro es he _;cases es with | nil=>exact .nil | cons _ _=>cases he
  | cons v l ih=>
    intro es he hj
    cases es with
    | nil=>cases he
    | cons d es=>
      obtain ⟨d',e1,e2⟩:=hj 0 v rfl
      cases e1
      exact .cons e2 (ih (Nat.succ.inj he) fun j u hu=>hj (j + 1) u hu)
theorem two_push {h:Heap} {a:Addr} {xs:Array Value} {n:Nat} (ho:h.get? a=some { cls:=.type "list", data:=.seq xs n }):((h.update a (Obj.mapSeq (·.push Value.none))).update a (Obj.mapSeq (·.pop))).PlainList a xs:=by
  obtain ⟨c₁,hc₁⟩:=mapSeq_plain (f:=(·.push Value.none)) ho
  have:=mapSeq_plain (f:=(·.pop)) hc₁
  rw [Array.pop_push] at this
  exact this
theorem extend_range_ok (hh:A.handled=none) (I:Inv prog w cls base Z αs μ s.heap) {i:Nat} {x u:Value} {ds:List V} {a b:Int} (R:Rep prog w Z αs x (.obj i)) (Ru:Rep prog w Z αs u (.rng a b)) (hm:μ[i]?=some (.list ds)) (hlo:lo≤i) (hz:ds.length + (b - a).toNat≤sizeLim) :
    wpAny (model prog w) A (call (.builtin "list.extend") [x,u]) (OutE prog w cls base lo Z αs s (μ.set i (.list (ds++intsFrom a (b - a).toNat))) .none) FF s:=by
  have hit:=pyIter_ok (A:=A.in1) (lo:=0) hh I Ru (items:=intsFrom a (b - a).toNat) rfl
  have hil:(intsFrom a (b - a).toNat).length=(b - a).toNat:=intsFrom_length _ _
  revert hit
  apply R.objE
  intro S ha
  obtain ⟨vs,⟨k,ho⟩,hlz,r⟩:=I.at_ _ _ _ ha hm
  have hz2:vs.length + (b - a).toNat + 1≤sizeLine:=by rw [r.length];exact Nat.le_trans (Nat.succ_le_succ hz) (by decide)
  have hz1:vs.length + (b - a).toNat≤sizeLine:=Nat.le_of_succ_le hz2
  have hz0:vs.length + 1≤sizeLine:=Nat.le_trans (Nat.succ_le_succ (Nat.le_add_right _ _)) hz2
  have hS:=List.mem_of_getElem? ha
  obtain ⟨ra,t,u',v',hz',hle⟩:=Ru.inv
  intro hit
  have hr:IsRange s.heap ra a b 1 t u' v':=I.fast _ _ hz'
  have hne:S≠ra:=fun e=>I.off _ _ hz' (e ▸ hS)
  refine wpAny_call (codeAny_call_builtin (id := "list.extend") F.slot_list_extend.plain F.entry_list_extend (F.slot_list_extend.check _ _ _ _ _ _ _ _ ⟨_,ho,rfl⟩ (F.args_list_extend_2 _ _) ?_))
  show wpAny _ A.in1 (Builtin.List.listExtendWith (.ref S) (.ref ra) .none) _ _ s
  unfold Builtin.List.listExtendWith
  refine wpAny_bind (wpAny_typeOf (T := "range") ⟨_,hr,rfl⟩ ?_)
  have e1:Builtin.List.listSameRef (.ref S) (.ref ra)=false:=by simp [Builtin.List.listSameRef,hne]
  rw [e1]
  refine wpAny_bind (wpAny_mono hit (fun it s₁ hI=>?_) fun _ _ e=>e.elim)
  obtain ⟨J,St,P,fp,oJ,hJe,⟨h',tk,hs₁,hk⟩,hJ0,hJ,hst,hat,hln⟩:=hI
  subst hJe hs₁
  have hSJ:S≠J:=fun e=>by rw [e,hJ0] at ho;cases ho
  have hSf:S ∉ fp:=fun hm=>by
    rcases hat.fp _ hm with e | ⟨o,e⟩ | ⟨_,e⟩
    · exact hSJ e
    · exact I.off _ _ e hS
    · exact e hS
  have hS₁:=hk _ _ ho
  have key:∀ (h₂:Heap) (c₁ tk₂:Nat),(∀ b o,b≠S→h'.get? b=some o→h₂.get? b=some o)→h₂.get? S=some { cls:=.type "list", data:=.seq vs.toArray c₁ }→
      codeAny (model prog w) A (.builtin "list.extend.loop" ⟨[.ref S,.ref J,.none],[]⟩) (fun r s'=>match r with | .ok (.ret v)=>OutE prog w cls base lo Z αs s (μ.set i (.list (ds++intsFrom a (b - a).toNat))) .none v s' | .ok _=>False | .error e=>FF e s') { s with heap:=h₂,toks:=tk₂ }:=by
    intro h₂ c₁ tk₂ hk₂ hS₂
    have hst₂:St 0 h₂:=hat.walks.frame 0 _ _ hst fun b hb o e=>hk₂ b o (fun q=>hSf (q ▸ hb)) e
    refine extend_loop hat.walks S hSf (hat.walks.sub _ (.head _)) .none (intsFrom a (b - a).toNat).length 0 { s with heap:=h₂,toks:=tk₂ } vs c₁ (Nat.sub_zero _) (Nat.zero_le _) (by rw [hil];exact hz1) hst₂ hS₂ fun h₃ tk₃ new c₃ hk₃ hS₃ hnew hP₃=>?_
    have hkk:∀ q o,q≠S→s.heap.get? q=some o→h₃.get? q=some o:=fun q o hq e=>hk₃ q o hq (fun e'=>by rw [e',hJ0] at e;cases e) (hk₂ q o hq (hk q o e))
    exact OutM.none ⟨Z,αs,.set hlo ha hkk ⟨_,hS₃⟩,I.set ha hkk ⟨vs++new,⟨_,hS₃⟩,by rw [List.length_append,hnew,hil];exact hz1,r.append (reps_of hnew fun j v hj=>hat.reps j v (hnew ▸ (List.getElem?_eq_some_iff.mp hj).1) (Nat.zero_add j ▸ hP₃ j v hj))⟩⟩
  refine wpAny_bind (wpAny_holding (wpAny_hint_range (n:=(b - a).toNat) (hk _ _ hr) (rangeSize_one a b) (Nat.le_trans (Nat.le_add_left _ _) hz1) ?_))
  refine wpAny_ite_split (fun _=>?_) (fun _=>wpAny_pure ⟨plainId_quiet F.plain_extend_loop _,key _ _ _ (fun _ _ _ e=>e) hS₁⟩)
  refine wpAny_bind (wpAny_rule ?_)
  refine wpAny_bind ?_
  show wpAny _ _ (updateSeq S (·.push .none) >>= fun _=>updateSeq S (·.pop)) _ _ _
  have hp:(vs.toArray.push Value.none).size=vs.length + 1:=Array.size_push ..
  refine wpAny_bind (wpAny_updateSeq hS₁ rfl ?_ hlz (by show (vs.toArray.push Value.none).size≤sizeLine + 1;rw [hp];exact Nat.le_succ_of_le hz0))
  refine wpAny_updateSeq (hz:=by show (vs.toArray.push Value.none).size≤sizeLine;rw [hp];exact hz0) (_hz':=by show ((vs.toArray.push Value.none).pop).size≤sizeLine + 1;rw [Array.pop_push];exact Nat.le_succ_of_le hlz) (Heap.get?_update_self (Obj.mapSeq (·.push Value.none)) hS₁ rfl) rfl ?_
  obtain ⟨c₂,hc₂⟩:=two_push hS₁
  exact wpAny_pure ⟨plainId_quiet F.plain_extend_loop _,key _ c₂ _ (fun q o hq e=>(Heap.get?_update_other _ _ (Ne.symm hq)).trans ((Heap.get?_update_other _ _ (Ne.symm hq)).trans e)) hc₂⟩
end
end Mine
namespace Mine
open PySem PySem.W PySem.Calls PyProof.Rows
section
variable {lo:Nat} {prog:Program} {w:World} {cls:Str→Option Addr} {base:Heap} {Z:Addr→Obj→Prop} {αs:List Addr} {s:Shared} {μ μ':M} {A:Around} {env:Env} {ρ:Rho} {n:Nat} {K:Frag}
theorem rep_fast_tup {vs:List Value} {ds:List V} {a:Addr} {c:Nat} (hl:vs.length≤sizeLine) (r:Reps prog w Z αs vs ds):Rep prog w (zadd Z a { cls:=.type "tuple", data:=.seq vs.toArray c }) αs (.ref a) (.tup ds):=
  .tup (.inr ⟨rfl,rfl⟩) rfl rfl hl (r.mono (fun _ _=>.inl) (List.prefix_refl _))
theorem rep_fast_lst {vs:List Value} {ds:List V} {a:Addr} {c:Nat} (hl:vs.length≤sizeLine) (r:Reps prog w Z αs vs ds):Rep prog w (zadd Z a { cls:=.type "list", data:=.seq vs.toArray c }) αs (.ref a) (.lst ds):=
  .lst (.inr ⟨rfl,rfl⟩) rfl rfl hl (r.mono (fun _ _=>.inl) (List.prefix_refl _))
theorem tuple_tup_ok (I:Inv prog w cls base Z αs μ s.heap) {x:Value} {ds:List V} (R:Rep prog w Z αs x (.tup ds)):wpAny (model prog w) A (call (.type "tuple") [x]) (OutE prog w cls base lo Z αs s μ (.tup ds)) FF s:=by
  have R':=R
  revert R'
  apply tup_at I R
  intro a vs ht hl r R
  exact call_tuple_same ht (.now I R)
theorem tuple_list_ok (I:Inv prog w cls base Z αs μ s.heap) {x:Value} {v:V} {ds:List V} (R:Rep prog w Z αs x v) (e:listV μ v=some ds):wpAny (model prog w) A (call (.type "tuple") [x]) (OutE prog w cls base lo Z αs s μ (.tup ds)) FF s:=by
  apply list_at I R e
  rintro a vs ht hl r
  refine call_tuple_list ht (fun h' hk=>?_) (by rw [List.size_toArray];exact hl)
  have hd:s.heap.get? h'.objs.size=none:=by
    cases q:s.heap.get? h'.objs.size with
    | none=>rfl
    | some o=>have:=hk _ _ q;rw [dead_size] at this;cases this
  exact OutE.fast I hd (fun b o q=>Heap.get?_push_of_some _ (hk b o q)) (Heap.get?_push_size _ rfl) (rep_fast_tup hl r)
theorem list_tup_ok (I:Inv prog w cls base Z αs μ s.heap) {x:Value} {ds:List V} (R:Rep prog w Z αs x (.tup ds)):wpAny (model prog w) A (call (.type "list") [x]) (OutE prog w cls base lo Z αs s μ (.lst ds)) FF s:=by
  apply tup_at I R
  rintro a vs ⟨o,ho,hc,k,hd⟩ hl r
  exact call_list_seq a (.inr rfl) ho hc hd (fun h' c' hk hS=>OutE.fast I (dead_size _) hk hS (rep_fast_lst hl r)) (by rw [List.size_toArray];exact hl)
theorem list_list_ok (I:Inv prog w cls base Z αs μ s.heap) {x:Value} {v:V} {ds:List V} (R:Rep prog w Z αs x v) (e:listV μ v=some ds):wpAny (model prog w) A (call (.type "list") [x]) (OutE prog w cls base lo Z αs s μ (.lst ds)) FF s:=by
  apply list_at I R e
  rintro a vs ⟨o,ho,hc,k,hd⟩ hl r
  exact call_list_seq a (.inl rfl) ho hc hd (fun h' c' hk hS=>OutE.fast I (dead_size _) hk hS (rep_fast_lst hl r)) (by rw [List.size_toArray];exact hl)
theorem list_range_ok (hh:A.handled=none) (I:Inv prog w cls base Z αs μ s.heap) {x:Value} {a b:Int} (R:Rep prog w Z αs x (.rng a b)) (h1:-(2 ^ 62)≤a) (h2:a<2 ^ 62) (h3:-(2 ^ 62)≤b) (h4:b<2 ^ 62) :
    wpAny (model prog w) A (call (.type "list") [x]) (OutE prog w cls base lo Z αs s μ (.lst (intsFrom a (b - a).toNat))) FF s:=by
  obtain ⟨ra,t,u',v',hz',hle⟩:=R.inv
  have hsz:(b - a).toNat≤sizeLine:=Nat.le_trans (Int.toNat_le.mpr hle) (by decide)
  refine call_list_range hh (I.fast _ _ hz') (small_one h1 h2 h3 h4) (n:=(b - a).toNat) (rangeSize_one a b) hsz fun h' tk acc' c' hk hS hacc=>?_
  obtain ⟨acc⟩:=acc'
  have hlen:acc.length=(b - a).toNat:=hacc.1
  refine OutE.fast I (dead_size _) hk hS (rep_fast_lst (vs:=acc) (by rw [hlen];exact hsz) (reps_of (by rw [hlen,intsFrom_length]) fun j v hj=>?_))
  obtain ⟨t,e⟩:=hacc.2 j v (by rw [List.getElem?_toArray];exact hj)
  rw [e]
  exact ⟨_,intsFrom_get _ _ _ (hlen ▸ (List.getElem?_eq_some_iff.mp hj).1),by rw [Int.mul_one];exact .int _ _⟩
theorem clip_is {n:Nat} {j:Int} (h:0≤j):clipAt n j=min j.toNat n:=by
  obtain ⟨k,rfl⟩:=Int.eq_ofNat_of_zero_le h
  unfold clipAt
  rw [if_neg (Int.not_lt.mpr h),Int.max_eq_right (Int.le_min.mpr ⟨h,Int.natCast_nonneg n⟩)]
  rcases Nat.le_total k n with e | e
  · rw [Int.min_eq_left (Int.ofNat_le.mpr e)];exact (Nat.min_eq_left e).symm
  · rw [Int.min_eq_right (Int.ofNat_le.mpr e)];exact (Nat.min_eq_right e).symm
theorem cut_part {o:Option V} {x:Value} {Z':Addr→Obj→Prop} {αs':List Addr} {d k n:Nat} (R:Rep prog w Z' αs' x (o.getD .none)) (hc:cutOf d n o=some k):∃ i:Option Int,IsPart x i∧i.elim d (clipAt n)=k:=by
  cases o with
  | none=>
    cases hc
    apply R.noneE
    exact ⟨none,.none,rfl⟩
  | some v=>
    refine bnd hc fun j h1 h2=>ifd h2 fun h3 h4=>?_
    have R:Rep prog w Z' αs' x v:=R
    revert R
    apply int_of h1
    intro R
    apply R.intE
    exact fun t=>⟨some j,.int j t,(clip_is h3).trans h4⟩
theorem slice_any {value:Expr} {l u:Option Expr} {p pos:Pos} {μ₁ μ₂ μ₃:M} {a:V} {vl vu:Option V} {vs:List V} {Q:Value→Shared→Prop} (I₀:Inv prog w cls base Z αs μ s.heap) (L₀:Loc prog w base env ρ Z αs s.heap)
    (ha:SE prog w cls base lo A env (eval value env) ρ μ μ₁ a) (hl:SE prog w cls base lo A env (evalPart l env) ρ μ₁ μ₂ (vl.getD .none)) (hu:SE prog w cls base lo A env (evalPart u env) ρ μ₂ μ₃ (vu.getD .none)) (e:sliceV μ₃ a vl vu=some vs)
    (k:∀ Z₁ αs₁ s₁ ws,Step lo Z αs s Z₁ αs₁ s₁→Inv prog w cls base Z₁ αs₁ μ₃ s₁.heap→ws.length≤sizeLine→Reps prog w Z₁ αs₁ ws vs→Q (.ref s₁.heap.objs.size) { s₁ with heap:=s₁.heap.push { cls:=.type "list", data:=.seq ws.toArray } }) :
    wpAny (model prog w) A (eval (.Subscript value (.Slice l u none p) pos) env) Q FF s:=by
  refine Subscript_ (ha.use I₀ L₀ fun x Z₁ α₁ s₁ S₁ I₁ L₁ R₁=>wpAny_Slice (hl.use I₁ L₁ fun y Z₂ α₂ s₂ S₂ I₂ L₂ R₂=>hu.use I₂ L₂ fun z Z₃ α₃ s₃ S₃ I₃ L₃ R₃=>wpAny_evalPart_none ?_))
  refine bnd e fun xs e1 e=>bnd e fun c1 e2 e=>mpd e fun c2 e3 e=>?_
  rw [← e] at k
  apply list_at I₃ (R₁.mono (fun a o h=>S₃.zsub _ _ (S₂.zsub _ _ h)) (S₂.asub.trans S₃.asub)) e1
  rintro b ws hL hz r
  rw [← r.length] at e2 e3
  obtain ⟨i,p1,n1⟩:=cut_part (R₂.mono S₃.zsub S₃.asub) e2
  obtain ⟨j,p2,n2⟩:=cut_part R₃ e3
  have hpick:slicePick ws.toArray i j none=((ws.take c2).drop c1).toArray:=by
    rw [slicePick_plain]
    apply Array.toList_inj.mp
    show _=(ws.take c2).drop c1
    rw [show i.elim 0 (clipAt ws.toArray.size)=c1 from n1,show j.elim ws.toArray.size (clipAt ws.toArray.size)=c2 from n2]
    simp [List.drop_take]
  have hsl:=Heap.IsSliceOf.new s₃.heap y z .none
  have hL₄:(s₃.heap.push { cls:=.type "slice", data:=.fields #[y,z,.none] }).IsList b ws.toArray:=by
    obtain ⟨o,ho,rest⟩:=hL;exact ⟨o,Heap.get?_push_of_some _ ho,rest⟩
  obtain ⟨ops,hs⟩:=subscripted_ops (.Slice l u none p) (.ref b) (.ref s₃.heap.objs.size)
  refine tail_any hL₄.typeIs slot_list_getitem.lookup (wpAny_getItem_list_slice hL₄ hsl p1 p2 .none (by simp) ?_ (by rw [List.size_toArray];exact hz)) hs
  rw [hpick]
  have S₄:Step lo Z₃ α₃ s₃ Z₃ α₃ { s₃ with heap:=s₃.heap.push { cls:=.type "slice", data:=.fields #[y,z,.none] } }:=.of_keeps ⟨_,s₃.toks,rfl,fun b o q=>Heap.get?_push_of_some _ q⟩
  exact k Z₃ α₃ _ ((ws.take c2).drop c1) (((S₁.trans S₂).trans S₃).trans S₄) (I₃.keeps fun b o q=>Heap.get?_push_of_some _ q) (Nat.le_trans (by rw [List.length_drop];exact Nat.sub_le _ _) (Nat.le_trans (List.length_take_le' _ _) hz)) ((r.take c2).drop c1)
theorem SE.slice {value:Expr} {l u:Option Expr} {p pos:Pos} {μ₁ μ₂ μ₃:M} {a:V} {vl vu:Option V} {vs:List V}
    (ha:SE prog w cls base lo A env (eval value env) ρ μ μ₁ a) (hl:SE prog w cls base lo A env (evalPart l env) ρ μ₁ μ₂ (vl.getD .none)) (hu:SE prog w cls base lo A env (evalPart u env) ρ μ₂ μ₃ (vu.getD .none)) (e:sliceV μ₃ a vl vu=some vs) :
    SE prog w cls base lo A env (eval (.Subscript value (.Slice l u Option.none p) pos) env) ρ μ μ₃ (.lst vs):=fun Z αs s I L=>
  slice_any I L ha hl hu e fun Z₁ αs₁ s₁ ws S₁ I₁ hz r=>(OutE.fastPush (tk:=s₁.toks) I₁ rfl (rep_push_lst hz r)).trans S₁
theorem SE.ownSlice {value:Expr} {l u:Option Expr} {p pos:Pos} {μ₁ μ₂ μ₃:M} {a:V} {vl vu:Option V} {vs:List V}
    (ha:SE prog w cls base lo A env (eval value env) ρ μ μ₁ a) (hl:SE prog w cls base lo A env (evalPart l env) ρ μ₁ μ₂ (vl.getD .none)) (hu:SE prog w cls base lo A env (evalPart u env) ρ μ₂ μ₃ (vu.getD .none)) (e:sliceV μ₃ a vl vu=some vs) :
    SE prog w cls base lo A env (eval (.Subscript value (.Slice l u Option.none p) pos) env) ρ μ (μ₃++[.list vs]) (.obj μ₃.length):=fun Z αs s I L=>
  slice_any I L ha hl hu e fun Z₁ αs₁ s₁ ws S₁ I₁ hz r=>(OutE.ownPush (tk:=s₁.toks) I₁ hz r).trans S₁
theorem SE.part_none:SE prog w cls base lo A env (evalPart Option.none env) ρ μ μ ((Option.none:Option V).getD .none):=fun Z αs s I L=>wpAny_evalPart_none (.now I .none)
theorem SE.idx {value slice:Expr} {pos:Pos} {μ₁ μ₂:M} {a b v:V} (ha:SE prog w cls base lo A env (eval value env) ρ μ μ₁ a) (hb:SE prog w cls base lo A env (eval slice env) ρ μ₁ μ₂ b) (e:idxV μ₂ a b=some v) :
    SE prog w cls base lo A env (eval (.Subscript value slice pos) env) ρ μ μ₂ v:=fun Z αs s I L=>
  Subscript_ (ha.use I L fun x Z₁ α₁ s₁ S₁ I₁ L₁ R₁=>hb.use I₁ L₁ fun y Z₂ α₂ s₂ S₂ I₂ _ R₂=>wp_trans (S₁.trans S₂) (idxV_ok I₂ (R₁.mono S₂.zsub S₂.asub) R₂ e))
end
end Mine
namespace Mine
open PySem PySem.W PySem.Calls PyProof.Rows
section
variable {lo:Nat} {prog:Program} {w:World} {cls:Str→Option Addr} {base:Heap} {Z Z' Z'':Addr→Obj→Prop} {αs αs' αs'':List Addr} {s s' s'':Shared} {μ μ':M} {A:Around} {env:Env} {ρ:Rho} {n:Nat} {K:Frag}
structure StepW (wr:List Addr) (lo:Nat) (Z:Addr→Obj→Prop) (αs:List Addr) (s:Shared) (Z':Addr→Obj→Prop) (αs':List Addr) (s':Shared):Prop where
  same:∃ h tk,s'={ s with heap:=h,toks:=tk }
  keep:∀ b o,b ∉ αs.drop lo→b ∉ wr→s.heap.get? b=some o→s'.heap.get? b=some o
  alive:∀ b o,s.heap.get? b=some o→∃ o',s'.heap.get? b=some o'
  zsub:∀ a o,Z a o→Z' a o
  znew:∀ a o,Z' a o→Z a o∨s.heap.get? a=none
  anew:∃ t,αs'=αs++t∧∀ a ∈ t,s.heap.get? a=none
theorem StepW.asub {wr:List Addr} (x:StepW wr lo Z αs s Z' αs' s'):αs <+: αs':=let ⟨t,e,_⟩:=x.anew;⟨t,e.symm⟩
theorem Step.toW {wr:List Addr} (x:Step lo Z αs s Z' αs' s'):StepW wr lo Z αs s Z' αs' s':=⟨x.same,fun b o h _=>x.keep b o h,x.alive,x.zsub,x.znew,x.anew⟩
theorem StepW.refl (wr:List Addr) (lo:Nat) (Z:Addr→Obj→Prop) (αs:List Addr) (s:Shared):StepW wr lo Z αs s Z αs s:=(Step.refl lo Z αs s).toW
theorem StepW.dead {wr:List Addr} (x:StepW wr lo Z αs s Z' αs' s') {a:Addr} (hn:s'.heap.get? a=none):s.heap.get? a=none:=by
  cases e:s.heap.get? a with
  | none=>rfl
  | some o'=>obtain ⟨o'',e'⟩:=x.alive a o' e;rw [e'] at hn;cases hn
theorem StepW.trans {wr:List Addr} (x:StepW wr lo Z αs s Z' αs' s') (y:StepW wr lo Z' αs' s' Z'' αs'' s''):StepW wr lo Z αs s Z'' αs'' s'' where
  same:=by
    obtain ⟨h,tk,e⟩:=x.same
    obtain ⟨h',tk',e'⟩:=y.same
    exact ⟨h',tk',by rw [e',e]⟩
  keep:=fun b o hb hw ho=>y.keep b o (fun hm=>by
    obtain ⟨t,rfl,ht⟩:=x.anew
    rcases mem_drop_append hm with h | h
    · exact hb h
    · rw [ht b h] at ho;cases ho) hw (x.keep b o hb hw ho)
  alive:=fun b o ho=>let ⟨o',ho'⟩:=x.alive b o ho;y.alive b o' ho'
  zsub:=fun a o h=>y.zsub a o (x.zsub a o h)
  znew:=fun a o h=>(y.znew a o h).elim (x.znew a o) fun hn=>.inr (x.dead hn)
  anew:=by
    obtain ⟨t,rfl,ht⟩:=x.anew
    obtain ⟨u,rfl,hu⟩:=y.anew
    exact ⟨t++u,List.append_assoc ..,fun a ha=>(List.mem_append.mp ha).elim (ht a) fun h=>x.dead (hu a h)⟩
theorem StepW.drop {wr wr':List Addr} (x:StepW wr lo Z αs s Z' αs' s') (h:∀ a ∈ wr,a ∈ wr'∨s.heap.get? a=none):StepW wr' lo Z αs s Z' αs' s':=
  ⟨x.same,fun b o hb hw ho=>x.keep b o hb (fun hm=>(h b hm).elim hw fun e=>by rw [e] at ho;cases ho) ho,x.alive,x.zsub,x.znew,x.anew⟩
theorem StepW.mono {wr wr':List Addr} (x:StepW wr lo Z αs s Z' αs' s') (h:∀ a ∈ wr,a ∈ wr'):StepW wr' lo Z αs s Z' αs' s':=x.drop fun a ha=>.inl (h a ha)
theorem StepW.step {wr:List Addr} (x:StepW wr lo Z αs s Z' αs' s') (h:∀ a ∈ wr,s.heap.get? a=none):Step lo Z αs s Z' αs' s':=
  ⟨x.same,fun b o hb ho=>x.keep b o hb (fun hm=>by rw [h b hm] at ho;cases ho) ho,x.alive,x.zsub,x.znew,x.anew⟩
theorem StepW.one {wr:List Addr} {h':Heap} {tk:Nat} {a:Addr} (ha:a ∈ wr) (hk:∀ b o,b≠a→s.heap.get? b=some o→h'.get? b=some o) (hl:∀ o,s.heap.get? a=some o→∃ o',h'.get? a=some o'):StepW wr lo Z αs s Z αs { s with heap:=h',toks:=tk }:=
  ⟨⟨h',tk,rfl⟩,fun b o _ hw ho=>hk b o (fun e=>hw (e ▸ ha)) ho,fun b o ho=>by
    by_cases e:b=a
    · subst e;exact hl o ho
    · exact ⟨o,hk b o e ho⟩,fun _ _ h=>h,fun _ _ h=>.inl h,[],(List.append_nil _).symm,fun _ h=>nomatch h⟩
theorem Off.step {wr:List Addr} {a:Addr} (h:Off base Z αs s.heap a) (x:StepW wr lo Z αs s Z' αs' s'):Off base Z' αs' s'.heap a where
  na:=fun hm=>by
    obtain ⟨t,rfl,ht⟩:=x.anew
    obtain ⟨o,ho⟩:=h.live
    exact (List.mem_append.mp hm).elim h.na fun e=>by rw [ht a e] at ho;cases ho
  nz:=fun o hz=>by
    obtain ⟨o',ho⟩:=h.live
    exact (x.znew a o hz).elim (h.nz o) fun e=>by rw [e] at ho;cases ho
  nb:=h.nb
  live:=let ⟨o,ho⟩:=h.live;x.alive a o ho
theorem Off.new {a:Addr} {o:Obj} {h':Heap} (I:Inv prog w cls base Z αs μ s.heap) (hd:s.heap.get? a=none) (ho:h'.get? a=some o):Off base Z αs h' a where
  na:=fun hm=>by obtain ⟨o',e⟩:=I.alive hm;rw [hd] at e;cases e
  nz:=fun o' hz=>by have:=I.fast a o' hz;rw [hd] at this;cases this
  nb:=by
    cases e:base.get? a with
    | none=>rfl
    | some o'=>have:=I.keep _ _ e;rw [hd] at this;cases this
  live:=⟨o,ho⟩
theorem Inv.other {h h':Heap} {a:Addr} (I:Inv prog w cls base Z αs μ h) (ha:Off base Z αs h a) (hk:∀ b o,b≠a→h.get? b=some o→h'.get? b=some o):Inv prog w cls base Z αs μ h' where
  keep:=fun b o e=>hk b o (fun x=>by subst x;rw [ha.nb] at e;cases e) (I.keep b o e)
  fast:=fun b o e=>hk b o (fun x=>ha.nz o (x ▸ e)) (I.fast b o e)
  off:=I.off
  len:=I.len
  at_:=fun i b m e1 e2=>(I.at_ i b m e1 e2).mono (fun _ _ x=>x) (List.prefix_refl _) fun o=>hk b o fun x=>by subst x;exact ha.na (List.mem_of_getElem? e1)
  nodup:=I.nodup
  old:=I.old
noncomputable def fr (env:Env):List Addr:=env.locals::(vcells env).map (·.2)
theorem Loc.off {h:Heap} (L:Loc prog w base env ρ Z αs h) {a:Addr} (ha:a ∈ fr env):Off base Z αs h a:=L.apart a ha
theorem Loc.stepW {wr:List Addr} (L:Loc prog w base env ρ Z αs s.heap) (x:StepW wr lo Z αs s Z' αs' s') (hd:∀ a ∈ fr env,a ∉ wr):Loc prog w base env ρ Z' αs' s'.heap where
  kind:=L.kind
  glob:=L.glob
  bi:=L.bi
  ns:=by
    obtain ⟨m,hn,hm⟩:=L.ns
    exact ⟨m,hn.at' fun o e=>x.keep _ _ (fun hm=>(L.apart _ (.head _)).1 (List.mem_of_mem_drop hm)) (hd _ (.head _)) e,fun y v e k=>(hm y v e k).imp fun u h=>h.imp_right fun r=>r.mono x.zsub x.asub⟩
  cell:=fun y hx hy=>by
    obtain ⟨c,u,e1,e2,e3⟩:=L.cell y hx hy
    exact ⟨c,u,e1,e2.imp fun o h=>h.imp_left fun ho=>x.keep _ _ (fun hm=>(L.apart _ (.tail _ (vcells_mem hx e1))).1 (List.mem_of_mem_drop hm)) (hd _ (.tail _ (vcells_mem hx e1))) ho,fun v e=>(e3 v e).imp fun u h=>h.imp_right fun r=>r.mono x.zsub x.asub⟩
  apart:=fun a ha=>(L.off ha).step x
  nodup:=L.nodup
theorem Loc.weaken {ρ':Rho} {h:Heap} (L:Loc prog w base env ρ Z αs h) (hr:∀ x v,ρ' x=some v→ρ x=some v):Loc prog w base env ρ' Z αs h where
  kind:=L.kind
  glob:=L.glob
  bi:=L.bi
  ns:=by obtain ⟨m,hn,hm⟩:=L.ns;exact ⟨m,hn,fun y v e k=>hm y v (hr y v e) k⟩
  cell:=fun y hx hy=>by obtain ⟨c,u,e1,e2,e3⟩:=L.cell y hx hy;exact ⟨c,u,e1,e2,fun v e=>e3 v (hr y v e)⟩
  apart:=L.apart
  nodup:=L.nodup
noncomputable def canStore (env:Env) (ow:List Addr) (x:Str):Prop:=x≠Str.ofString "__class__" ∧ ((env.locals ∈ ow∧env.kindOf x=some .local)∨∃ c,c ∈ ow∧env.kindOf x=some .cell∧env.cells.lookup x=some c)
inductive OutS (prog:Program) (w:World) (cls:Str→Option Addr) (base:Heap) (lo:Nat) (env:Env) (ow:List Addr) (Z:Addr→Obj→Prop) (αs:List Addr) (s:Shared) (ρ':Rho) (μ':M) (s':Shared):Prop
  | mk (Z':Addr→Obj→Prop) (αs':List Addr):StepW ow lo Z αs s Z' αs' s'→Inv prog w cls base Z' αs' μ' s'.heap→Loc prog w base env ρ' Z' αs' s'.heap→OutS prog w cls base lo env ow Z αs s ρ' μ' s'
theorem OutS.trans {ow:List Addr} {ρ':Rho} (S:StepW ow lo Z αs s Z' αs' s') (o:OutS prog w cls base lo env ow Z' αs' s' ρ' μ' s''):OutS prog w cls base lo env ow Z αs s ρ' μ' s'':=by
  obtain ⟨Z₁,α₁,S₁,I,L⟩:=o
  exact ⟨Z₁,α₁,S.trans S₁,I,L⟩
theorem lookup_name {c:Addr} {x y:Str}:∀ {l:List (Str×Addr)},(l.map (·.2)).Nodup→l.lookup x=some c→l.lookup y=some c→x=y
  | (z,d)::r,hn,e1,e2=>by
    rw [List.map_cons,List.nodup_cons] at hn
    rw [List.lookup_cons] at e1 e2
    cases h1:x == z <;> cases h2:y == z <;> rw [h1] at e1 <;> rw [h2] at e2
    · exact lookup_name hn.2 e1 e2
    · cases e2;exact absurd (lookup_mem e1) hn.1
    · cases e1;exact absurd (lookup_mem e2) hn.1
    · exact (beq_iff_eq.mp h1).trans (beq_iff_eq.mp h2).symm
theorem upd_is {x y:Str} {v v':V} {G:Prop} (e:upd ρ x v y=some v') (h1:y=x→v=v'→G) (h2:y≠x→ρ y=some v'→G):G:=by
  unfold upd at e
  split at e
  · exact h1 (by assumption) (Option.some.inj e)
  · exact h2 (by assumption) e
theorem Off.wrote {h h':Heap} {a b:Addr} (ha:Off base Z αs h a) (hx:∀ c o,c≠b→h.get? c=some o→h'.get? c=some o) (hb:∃ o,h'.get? b=some o):Off base Z αs h' a:=⟨ha.na,ha.nz,ha.nb,by
  by_cases e:a=b
  · rw [e];exact hb
  · exact ha.live.imp fun o h=>hx a o e h⟩
theorem cell_is {x y:Str} {c:Addr} (hn:(fr env).Nodup) (hx:x≠Str.ofString "__class__") (hy:y≠Str.ofString "__class__") (e1:env.cells.lookup x=some c) (e2:env.cells.lookup y=some c):y=x:=
  lookup_name (List.nodup_cons.mp hn).2 ((vcells_lookup (c:=c) hy).trans e2) ((vcells_lookup (c:=c) hx).trans e1)
theorem store_ok {ow:List Addr} {x:Str} {u:Value} {v:V} (I:Inv prog w cls base Z αs μ s.heap) (L:Loc prog w base env ρ Z αs s.heap) (hs:canStore env ow x) (R:Rep prog w Z αs u v) :
    wpAny (model prog w) A (storeName env x u) (fun _=>OutS prog w cls base lo env ow Z αs s (upd ρ x v) μ) FF s:=by
  have hn:=(List.nodup_cons.mp L.nodup).1
  refine hs.2.elim (fun hs=>?_) fun hs=>?_
  · have hk:=hs.2
    obtain ⟨m,hm,hr⟩:=L.ns
    refine wpAny_storeName_local hk hm (fun h' hn' hs'=>?_) (by rw [L.kind];rfl)
    have hx:=hs'.extBut
    have hl:∃ o,h'.get? env.locals=some o:=hn'.imp fun _ ⟨_,_,e,_⟩=>e
    refine ⟨Z,αs,.one hs.1 hx fun o _=>hl,I.other (L.off (.head _)) hx,L.kind,L.glob,L.bi,⟨_,hn',fun y v' e k=>upd_is e (fun h1 h2=>⟨u,if_pos h1,h2 ▸ R⟩) fun h1 h2=>(hr y v' h2 k).imp fun _ h=>h.imp_left fun h=>(if_neg h1).trans h⟩,fun y hyc hy=>?_,fun a ha=>(L.apart a ha).wrote hx hl,L.nodup⟩
    obtain ⟨c,u',e1,e2,e3⟩:=L.cell y hyc hy
    exact ⟨c,u',e1,e2.imp fun o h=>h.imp_left fun h=>hx _ _ (fun e=>hn (e ▸ vcells_mem hyc e1)) h,fun v' e=>e3 v' (upd_is e (fun h1 _=>by rw [h1,hk] at hy;rcases hy with hy | hy <;> cases hy) fun _ h=>h)⟩
  · obtain ⟨c,ho,hk,hc⟩:=hs
    obtain ⟨c',u₀,e1,e2,e3⟩:=L.cell x hs.1 (.inl hk)
    rw [hc] at e1
    cases e1
    refine wpAny_storeName_cell L.kind hk hc e2 fun h' hc' hs'=>?_
    have hx:=hs'.extBut
    have hcm:c ∈ fr env:=.tail _ (vcells_mem hs.1 hc)
    have hl:∃ o,h'.get? c=some o:=hc'.imp fun _ h=>h.1
    refine ⟨Z,αs,.one ho hx fun o _=>hl,I.other (L.off hcm) hx,L.kind,L.glob,L.bi,?_,fun y hyc hy=>?_,fun a ha=>(L.apart a ha).wrote hx hl,L.nodup⟩
    · obtain ⟨m,hm,hr⟩:=L.ns
      exact ⟨m,hm.at' fun o e=>hx _ o (fun e'=>hn (e' ▸ vcells_mem hs.1 hc)) e,fun y v' e k=>hr y v' (upd_is e (fun h1 _=>by rw [h1,hk] at k;cases k) fun _ h=>h) k⟩
    · by_cases he:y=x
      · exact ⟨c,some u,he ▸ hc,hc',fun v' e=>upd_is e (fun _ h2=>⟨u,rfl,h2 ▸ R⟩) fun h=>absurd he h⟩
      · obtain ⟨c₂,u',e4,e5,e6⟩:=L.cell y hyc hy
        exact ⟨c₂,u',e4,e5.imp fun o h=>h.imp_left fun h=>hx _ _ (fun e=>he (cell_is L.nodup hs.1 hyc hc (e ▸ e4))) h,fun v' e=>e6 v' (upd_is e (fun h=>absurd h he) fun _ h=>h)⟩
noncomputable def updAll (ρ:Rho) (ps:List (Str×V)):Rho:=ps.foldl (fun r p=>upd r p.1 p.2) ρ
theorem updAll_not {x:Str}:∀ {ps:List (Str×V)} {ρ:Rho},x ∉ ps.map (·.1)→updAll ρ ps x=ρ x
  | [],_,_=>rfl
  | (y,v)::r,ρ,h=>by
    rw [List.map_cons,List.mem_cons] at h
    show updAll (upd ρ y v) r x=_
    rw [updAll_not (fun e=>h (.inr e))]
    unfold upd;rw [if_neg fun e=>h (.inl e)]
theorem updAll_append {ρ:Rho} {ps qs:List (Str×V)}:updAll ρ (ps++qs)=updAll (updAll ρ ps) qs:=List.foldl_append
theorem upd_comm {ρ:Rho} {x y:Str} {u v:V} (h:x≠y):upd (upd ρ x u) y v=upd (upd ρ y v) x u:=by
  funext z
  unfold upd
  by_cases e:z=y
  · subst e;rw [if_pos rfl,if_neg (fun e=>h e.symm),if_pos rfl]
  · rw [if_neg e]
    by_cases e':z=x
    · rw [if_pos e',if_pos e']
    · rw [if_neg e',if_neg e',if_neg e]
theorem updAll_comm {x:Str} {v:V}:∀ {ps:List (Str×V)} {ρ:Rho},x ∉ ps.map (·.1)→upd (updAll ρ ps) x v=updAll (upd ρ x v) ps
  | [],_,_=>rfl
  | (y,u)::r,ρ,h=>by
    rw [List.map_cons,List.mem_cons] at h
    show upd (updAll (upd ρ y u) r) x v=updAll (upd (upd ρ x v) y u) r
    rw [updAll_comm (fun e=>h (.inr e)),upd_comm (fun e=>h (.inl e.symm))]
theorem updAll_reverse:∀ {ps:List (Str×V)} {ρ:Rho},(ps.map (·.1)).Nodup→updAll ρ ps.reverse=updAll ρ ps
  | [],_,_=>rfl
  | (x,v)::r,ρ,h=>by
    rw [List.map_cons,List.nodup_cons] at h
    rw [List.reverse_cons,updAll_append,updAll_reverse h.2]
    show upd (updAll ρ r) x v=updAll (upd ρ x v) r
    exact updAll_comm h.1
theorem stores_ok {ow:List Addr}:∀ {ps:List (Str×V)} {us:List Value} {fs:List (Value→Sem Unit)} {Z:Addr→Obj→Prop} {αs:List Addr} {s:Shared} {ρ:Rho},Inv prog w cls base Z αs μ s.heap→Loc prog w base env ρ Z αs s.heap→(∀ p ∈ ps,canStore env ow p.1)→Reps prog w Z αs us (ps.map (·.2))→
    fs.length=ps.length→(∀ (i:Nat) f p,fs[i]?=some f→ps[i]?=some p→∀ u Q s,wpAny (model prog w) A (storeName env p.1 u) Q FF s→wpAny (model prog w) A (f u) Q FF s)→
    wpAny (model prog w) A (assignInOrder fs us) (fun _=>OutS prog w cls base lo env ow Z αs s (updAll ρ ps) μ) FF s
  | [],_,fs,Z,αs,s,ρ,I,L,_,r,hl,_=>by
    cases r
    have:fs=[]:=List.eq_nil_of_length_eq_zero hl
    subst this
    exact wpAny_pure ⟨Z,αs,.refl ..,I,L⟩
  | p::ps,_,fs,Z,αs,s,ρ,I,L,hc,r,hl,hf=>by
    cases r with
    | @cons u us d ds r rs=>
      cases fs with
      | nil=>cases hl
      | cons f fs=>
        show wpAny _ A (do holding us (f u);assignInOrder fs us) _ FF s
        refine wpAny_bind (wpAny_holding (hf 0 f p rfl rfl u _ _ (wpAny_mono (store_ok (lo:=lo) I L (hc p (.head _)) r) (fun _ s₁ o=>?_) fun _ _ e=>e)))
        obtain ⟨Z₁,α₁,S₁,I₁,L₁⟩:=o
        exact wpAny_mono (stores_ok I₁ L₁ (fun q hq=>hc q (.tail _ hq)) (Reps.mono S₁.zsub S₁.asub rs) (Nat.succ.inj hl) fun i f' p' h1 h2=>hf (i + 1) f' p' h1 h2) (fun _ _ o=>o.trans S₁) fun _ _ e=>e
end
end Mine
namespace Mine
open PySem PySem.W PySem.Calls PyProof.Rows
section
variable {lo:Nat} {prog:Program} {w:World} {cls:Str→Option Addr} {base:Heap} {Z Z' Z'':Addr→Obj→Prop} {αs αs' αs'':List Addr} {s s' s'':Shared} {μ μ':M} {A:Around} {env:Env} {ρ:Rho} {n:Nat} {K:Frag}
theorem Loc.other {h h':Heap} (L:Loc prog w base env ρ Z αs h) (wr:List Addr) (hk:∀ b o,b ∉ wr→h.get? b=some o→h'.get? b=some o) (hd:∀ a ∈ fr env,a ∉ wr):Loc prog w base env ρ Z αs h' where
  kind:=L.kind
  glob:=L.glob
  bi:=L.bi
  ns:=by obtain ⟨m,hn,hm⟩:=L.ns;exact ⟨m,hn.at' fun o e=>hk _ _ (hd _ (.head _)) e,hm⟩
  cell:=fun y hx hy=>by
    obtain ⟨c,u,e1,e2,e3⟩:=L.cell y hx hy
    exact ⟨c,u,e1,e2.imp fun o h=>h.imp_left (hk _ _ (hd _ (.tail _ (vcells_mem hx e1)))),e3⟩
  apart:=fun a ha=>have h:=L.apart a ha;⟨h.na,h.nz,h.nb,h.live.imp fun o=>hk a o (hd a ha)⟩
  nodup:=L.nodup
theorem Inv.others {h h':Heap} (I:Inv prog w cls base Z αs μ h) (wr:List Addr) (hk:∀ b o,b ∉ wr→h.get? b=some o→h'.get? b=some o) (ho:∀ a ∈ wr,Off base Z αs h a):Inv prog w cls base Z αs μ h' where
  keep:=fun b o e=>hk b o (fun x=>by rw [(ho b x).nb] at e;cases e) (I.keep b o e)
  fast:=fun b o e=>hk b o (fun x=>(ho b x).nz o e) (I.fast b o e)
  off:=I.off
  len:=I.len
  at_:=fun i b m e1 e2=>(I.at_ i b m e1 e2).mono (fun _ _ x=>x) (List.prefix_refl _) fun o=>hk b o fun x=>(ho b x).na (List.mem_of_getElem? e1)
  nodup:=I.nodup
  old:=I.old
theorem StepW.many {wr:List Addr} {h':Heap} {tk:Nat} (hk:∀ b o,b ∉ wr→s.heap.get? b=some o→h'.get? b=some o) (hl:∀ a ∈ wr,∃ o',h'.get? a=some o'):StepW wr lo Z αs s Z αs { s with heap:=h',toks:=tk }:=
  ⟨⟨h',tk,rfl⟩,fun b o _ hw ho=>hk b o hw ho,fun b o ho=>by
    by_cases e:b ∈ wr
    · exact hl b e
    · exact ⟨o,hk b o e ho⟩,fun _ _ h=>h,fun _ _ h=>.inl h,[],(List.append_nil _).symm,fun _ h=>nomatch h⟩
theorem StepW.last {wr wr':List Addr} {h':Heap} {tk:Nat} (x:StepW wr lo Z αs s Z' αs' s') (hk:∀ b o,b ∉ wr'→s'.heap.get? b=some o→h'.get? b=some o) (hd:∀ a ∈ wr',s.heap.get? a=none):StepW wr lo Z αs s Z' αs' { s' with heap:=h',toks:=tk } where
  same:=by obtain ⟨h,t,e⟩:=x.same;exact ⟨h',tk,by rw [e]⟩
  keep:=fun b o hb hw ho=>hk b o (fun hm=>by rw [hd b hm] at ho;cases ho) (x.keep b o hb hw ho)
  alive:=fun b o ho=>let ⟨o',ho'⟩:=x.alive b o ho;⟨o',hk b o' (fun hm=>by rw [hd b hm] at ho;cases ho) ho'⟩
  zsub:=x.zsub
  znew:=x.znew
  anew:=x.anew
theorem goAny {target:Expr} {I:Addr} {v:Value} {Q:Unit→Shared→Prop} {E:Value→Shared→Prop} {o:Obj} {nm:String} (ho:s.heap.get? I=some o) (hc:o.cls=.type nm)
    (hn:(["enumerate", "zip", "dict_itemiterator", "dict_reverseitemiterator", "odict_iterator", "itertools.zip_longest", "itertools.pairwise"].contains nm)=false) (hQ:Q () s) :
    wpAny (model prog w) A (letOwnedTupleGo target (.ref I) v) Q E s:=by
  obtain ⟨c,dct,d,sl⟩:=o
  replace hc:c=.type nm:=hc
  subst hc
  cases target with
  | Tuple | List=>
    cases v with
    | ref r=>
      refine wpAny_bind (wpAny_load ho ?_)
      cases d with
      | fields vs=>
        show wpAny _ _ (if (_ && _)=true then _ else _) Q E s
        rw [hn,Bool.false_and]
        exact wpAny_pure hQ
      | _=>exact wpAny_pure hQ
    | _=>exact wpAny_pure hQ
  | _=>exact wpAny_pure hQ
inductive DrGot (prog:Program) (w:World) (cls:Str→Option Addr) (base:Heap) (lo:Nat) (items:List V) (wr:List Addr) (St:Nat→(Addr→Obj→Prop)→List Addr→Heap→Prop) (i:Nat) (Z:Addr→Obj→Prop) (αs:List Addr) (s:Shared) (μ:M) (v:Value) (s₂:Shared):Prop
  | mk (Z':Addr→Obj→Prop) (αs':List Addr) (d:V):items[i]?=some d→StepW wr lo Z αs s Z' αs' s₂→Inv prog w cls base Z' αs' μ s₂.heap→Rep prog w Z' αs' v d→St (i + 1) Z' αs' s₂.heap→DrGot prog w cls base lo items wr St i Z αs s μ v s₂
structure Dr (prog:Program) (w:World) (cls:Str→Option Addr) (base:Heap) (A:Around) (lo:Nat) (target:Expr) (it:Value) (items:List V) (wr:List Addr) (St:Nat→(Addr→Obj→Prop)→List Addr→Heap→Prop):Prop where
  off:∀ i Z αs h,St i Z αs h→∀ a ∈ wr,Off base Z αs h a
  step:∀ i Z αs (s:Shared) Z' αs' (s':Shared) wr' μ μ',St i Z αs s.heap→Inv prog w cls base Z αs μ s.heap→Inv prog w cls base Z' αs' μ' s'.heap→StepW wr' lo Z αs s Z' αs' s'→(∀ a ∈ wr',Off base Z αs s.heap a∧a ∉ wr)→St i Z' αs' s'.heap
  item:∀ i Z αs (s:Shared) μ,i<items.length→St i Z αs s.heap→Inv prog w cls base Z αs μ s.heap→
    wpAny (model prog w) A (pyNext it) (fun r s₁=>∃ v,r=some v∧wpAny (model prog w) A (letOwnedTupleGo target it v) (fun _ s₂=>DrGot prog w cls base lo items wr St i Z αs s μ v s₂) FF s₁) FF s
  done:∀ Z αs (s:Shared),St items.length Z αs s.heap→wpAny (model prog w) A (pyNext it) (fun r s'=>r=none∧∃ h' tk,s'={ s with heap:=h',toks:=tk }∧∀ b o,b ∉ wr→s.heap.get? b=some o→h'.get? b=some o) FF s
  self:∀ i Z αs (s:Shared) (Q:Value→Shared→Prop) (E:Value→Shared→Prop),St i Z αs s.heap→Q it s→wpAny (model prog w) A (pyIter it) Q E s
noncomputable def stOf (prog:Program) (w:World) (base:Heap) (A:Around) (lo:Nat) (items:List V) (I:Addr) (St:Nat→Heap→Prop) (P:Nat→Value→Prop) (fp:List Addr) (i:Nat) (Z:Addr→Obj→Prop) (αs:List Addr) (h:Heap):Prop:=
  ItAt prog w base A lo Z αs items I St P fp∧St i h∧I ∈ fp
theorem ItAt.stepW {items:List V} {I:Addr} {St:Nat→Heap→Prop} {P:Nat→Value→Prop} {fp wr:List Addr} (h:ItAt prog w base A lo Z αs items I St P fp) (Iv:Inv prog w cls base Z αs μ s.heap) (S:StepW wr lo Z αs s Z' αs' s')
    (Iv':Inv prog w cls base Z' αs' μ' s'.heap) {oI:Obj} (hI:s.heap.get? I=some oI) (hw:∀ a ∈ wr,a ∉ αs∧a≠I):ItAt prog w base A lo Z' αs' items I St P fp∧∀ i,St i s.heap→St i s'.heap:=by
  refine ⟨⟨h.walks,fun i x hi p=>?_,⟨fun hm=>?_,fun o hz=>?_,h.apart.2.2⟩,fun b hb=>?_,h.go⟩,fun i st=>h.walks.frame i _ _ st fun b hb o e=>?_⟩
  · obtain ⟨d,e,r⟩:=h.reps i x hi p;exact ⟨d,e,r.mono S.zsub S.asub⟩
  · obtain ⟨t,rfl,ht⟩:=S.anew
    rcases List.mem_append.mp hm with hm | hm
    · exact h.apart.1 hm
    · have:=ht _ hm;rw [hI] at this;cases this
  · rcases S.znew _ _ hz with hz | hz
    · exact h.apart.2.1 _ hz
    · rw [hI] at hz;cases hz
  · rcases h.fp b hb with h1 | ⟨o,h1⟩ | ⟨h1,h2⟩
    · exact .inl h1
    · exact .inr (.inl ⟨o,S.zsub _ _ h1⟩)
    · refine .inr (.inr ⟨S.asub.subset h1,fun hm=>?_⟩)
      obtain ⟨t,rfl,ht⟩:=S.anew
      rcases mem_drop_append hm with hm | hm
      · exact h2 hm
      · obtain ⟨o,ho⟩:=Iv.alive h1
        rw [ht _ hm] at ho;cases ho
  · rcases h.fp b hb with h1 | ⟨o',h1⟩ | ⟨h1,h2⟩
    · subst h1
      exact S.keep _ _ (fun hm=>h.apart.1 (List.mem_of_mem_drop hm)) (fun hm=>(hw _ hm).2 rfl) e
    · have e1:=Iv.fast _ _ h1
      rw [e] at e1;cases e1
      exact Iv'.fast _ _ (S.zsub _ _ h1)
    · exact S.keep _ _ h2 (fun hm=>(hw _ hm).1 h1) e
theorem dr_of_iter {target:Expr} {items:List V} {I:Addr} {St:Nat→Heap→Prop} {P:Nat→Value→Prop} {fp:List Addr}:Dr prog w cls base A lo target (.ref I) items [I] (stOf prog w base A lo items I St P fp) where
  off:=fun i Z αs h st a ha=>by
    rw [List.mem_singleton.mp ha]
    obtain ⟨o,_,ho,_⟩:=st.1.go i h st.2.1
    exact ⟨st.1.apart.1,st.1.apart.2.1,st.1.apart.2.2,o,ho⟩
  step:=fun i Z αs s Z' αs' s' wr' μ μ' st Iv Iv' S hw=>by
    obtain ⟨o,_,ho,_⟩:=st.1.go i _ st.2.1
    obtain ⟨a,b⟩:=st.1.stepW Iv S Iv' ho fun x hx=>⟨(hw x hx).1.na,fun e=>(hw x hx).2 (by rw [e];exact .head _)⟩
    exact ⟨a,b i st.2.1,st.2.2⟩
  item:=fun i Z αs s μ hi st Iv=>by
    obtain ⟨o,_,ho,_⟩:=st.1.go i _ st.2.1
    refine st.1.walks.item i s _ _ hi st.2.1 fun v h' tk p st' hk=>⟨v,rfl,?_⟩
    obtain ⟨o',nm,ho',hc,hn⟩:=st.1.go _ _ st'
    refine goAny (s:={ s with heap:=h',toks:=tk }) ho' hc hn ?_
    obtain ⟨d,e,r⟩:=st.1.reps i v hi p
    have S:StepW [I] lo Z αs s Z αs { s with heap:=h',toks:=tk }:=.many hk fun a ha=>by rw [List.mem_singleton.mp ha];exact ⟨o',ho'⟩
    exact ⟨Z,αs,d,e,S,Iv.others [I] hk fun a ha=>by rw [List.mem_singleton.mp ha];exact ⟨st.1.apart.1,st.1.apart.2.1,st.1.apart.2.2,o,ho⟩,r,st.1,st',st.2.2⟩
  done:=fun Z αs s st=>st.1.walks.done s _ _ st.2.1 fun h' tk hk=>⟨rfl,h',tk,rfl,hk⟩
  self:=fun i Z αs s Q E st hQ=>st.1.walks.self i s Q E st.2.1 hQ
structure Sc (sc:Scope) (env:Env) (ow:List Addr):Prop where
  var:∀ x,isVar sc x=true→env.kindOf x=some .local∨env.kindOf x=some .cell∨env.kindOf x=some .free
  glob:∀ x,isGlob sc x=true→env.kindOf x=some .globalImplicit
  own:∀ x,isOwn sc x=true→canStore env ow x
  clo:∀ x,isClo sc x=true→env.kindOf x=some .cell∨env.kindOf x=some .free
theorem bindName_of {x:Str} {u:Value} {Q:Unit→Shared→Prop} {E:Value→Shared→Prop} (h:wpAny (model prog w) A (storeName env x u) Q E s):wpAny (model prog w) A (bindName env x u) Q E s:=wpAny_bindName h
section
variable {e:Expr} {P:Expr→Prop}
noncomputable def View.back:View→Option Expr
  | .name x p=>some (.Name x p)
  | .tuple es n p=>some (.Tuple es n p)
  | .list es p=>some (.List es p)
  | .call c=>some (.Call c.1 c.2.1 c.2.2.1 c.2.2.2)
  | .attr a=>some (.Attribute a.1 a.2.1 a.2.2)
  | .sub c p=>some (.Subscript c.1 c.2 p)
  | .slice c st p=>some (.Slice c.1 c.2 st p)
  | .const c k p=>some (.Constant c k p)
  | _=>none
theorem view_back (h:(view e).back≠none):(view e).back=some e:=by cases e <;> first | rfl | exact absurd rfl h
theorem view_as {v:View} {x:Expr} (hv:view e=v) (hb:v.back=some x) (k:P x):P e:=by
  have h:=view_back (e:=e)
  rw [hv,hb] at h
  cases h fun h=>nomatch h
  exact k
theorem name_of {y:Str} (h:nameOf e=some y) (k:∀ p,P (.Name y p)):P e:=by
  unfold nameOf at h
  generalize hv:view e=v at h
  cases v with
  | name x p=>cases h;exact view_as hv rfl (k p)
  | _=>cases h
theorem tuple_of {es:List Expr} (h:tupleOf e=some es) (k:∀ n p,P (.Tuple es n p)):P e:=by
  unfold tupleOf at h
  generalize hv:view e=v at h
  cases v with
  | tuple es n p=>cases h;exact view_as hv rfl (k n p)
  | _=>cases h
theorem list_of {es:List Expr} (h:listOf e=some es) (k:∀ p,P (.List es p)):P e:=by
  unfold listOf at h
  generalize hv:view e=v at h
  cases v with
  | list es p=>cases h;exact view_as hv rfl (k p)
  | _=>cases h
theorem sub_eq {r:Expr×Expr} (h:subOf e=some r) (k:∀ p,P (.Subscript r.1 r.2 p)):P e:=by
  unfold subOf at h
  generalize hv:view e=v at h
  cases v with
  | sub c p=>cases h;exact view_as hv rfl (k p)
  | _=>cases h
theorem attr_eq {r:Expr×Str×Pos} (h:attrOf e=some r) (k:P (.Attribute r.1 r.2.1 r.2.2)):P e:=by
  unfold attrOf at h
  generalize hv:view e=v at h
  cases v with
  | attr a=>cases h;exact view_as hv rfl k
  | _=>cases h
theorem call_eq {r:Expr×List Expr×List Keyword×Pos} (h:callOf e=some r) (k:P (.Call r.1 r.2.1 r.2.2.1 r.2.2.2)):P e:=by
  unfold callOf at h
  generalize hv:view e=v at h
  cases v with
  | call c=>cases h;exact view_as hv rfl k
  | _=>cases h
theorem slice_eq {r:Option Expr×Option Expr} (h:sliceOf e=some r) (k:∀ st p,st.isNone=true→P (.Slice r.1 r.2 st p)):P e:=by
  unfold sliceOf at h
  generalize hv:view e=v at h
  cases v with
  | slice c st p=>exact ifd h fun hs h=>by subst h;exact view_as hv rfl (k st p hs)
  | _=>cases h
theorem const_eq {c:Const} (h:(view e).const?=some c) (k:∀ n p,P (.Constant c n p)):P e:=by
  generalize hv:view e=v at h
  cases v with
  | const c n p=>cases h;exact view_as hv rfl (k n p)
  | _=>cases h
end
inductive Each (prog:Program) (w:World) (A:Around) (env:Env) (es:List Expr) (xs:List Str):Prop
  | mk:(assignEach es env).length=xs.length→(assignEach es env).findIdx? (·.1)=none→(∀ (i:Nat) f x,((assignEach es env).map (·.2))[i]?=some f→xs[i]?=some x→∀ u (Q:Unit→Shared→Prop) s,wpAny (model prog w) A (storeName env x u) Q FF s→wpAny (model prog w) A (f u) Q FF s)→Each prog w A env es xs
theorem ift {α:Type} {p:Prop} [Decidable p] {x:Option α} {r:α} {G:Prop} (h:(if p then x else none)=some r) (k:p→x=some r→G):G:=by
  split at h
  · exact k (by assumption) h
  · cases h
theorem tgtNames_own {sc:Scope} {es:List Expr}:∀ {xs:List Str},tgtNames sc es=some xs→∀ x ∈ xs,isOwn sc x=true:=by
  induction es with
  | nil=>intro xs e;cases e;exact fun _ h=>nomatch h
  | cons e es ih=>
    exact fun h=>bnd h fun y _ h=>ift h fun hy h=>mpd h fun ys h2 h3 x hx=>by
      rw [← h3] at hx
      exact (List.mem_cons.mp hx).elim (fun e=>e ▸ hy) (ih h2 x)
theorem tgtNames_each {sc:Scope} {es:List Expr}:∀ {xs:List Str},tgtNames sc es=some xs→Each prog w A env es xs:=by
  induction es with
  | nil=>intro xs e;cases e;exact ⟨rfl,rfl,fun i f x h=>by cases h⟩
  | cons e es ih=>
    intro xs h
    refine bnd h fun y h1 h=>?_
    apply name_of h1
    intro p
    refine ift h fun hy h=>mpd h fun ys h2 h3=>?_
    rw [← h3]
    obtain ⟨b,c,k⟩:=ih h2
    refine ⟨congrArg Nat.succ b,?_,fun i f x hf hx=>?_⟩
    · show ((false,assign (.Name y p) env)::assignEach es env).findIdx? (·.1)=none
      rw [List.findIdx?_cons,c];rfl
    · cases i with
      | zero=>cases hf;cases hx;exact fun u Q s hq=>PySem.wpAny_assign_Name hq
      | succ i=>exact k i f x hf hx
theorem bind_ok {sc:Scope} {ow:List Addr} (hs:Sc sc env ow) (hh:A.handled=none) {e:Expr} {t:Tgt} (ht:compT sc e=some t) {u:Value} {v:V} {ρ':Rho} (hb:bindT ρ v t=some ρ') (I:Inv prog w cls base Z αs μ s.heap) (L:Loc prog w base env ρ Z αs s.heap) (R:Rep prog w Z αs u v) :
    wpAny (model prog w) A (assign e env u) (fun _=>OutS prog w cls base lo env ow Z αs s ρ' μ) FF s:=by
  unfold compT at ht
  cases h1:nameOf e with
  | some x=>
    rw [h1] at ht
    refine ifd ht fun ho ht=>?_
    rw [← ht] at hb
    cases hb
    apply name_of h1
    exact fun p=>PySem.wpAny_assign_Name (store_ok I L (hs.own _ ho) R)
  | none=>
    rw [h1] at ht
    refine bnd ht fun es h2 ht=>bnd ht fun xs hx ht=>ifd ht fun _ ht=>?_
    rw [← ht] at hb
    refine bnd hb fun vs h3 hb=>ifd hb fun hl hb=>?_
    rw [← hb]
    revert R
    apply tup_of h3
    intro R
    apply tuple_of h2
    intro n p
    apply tup_at I R
    intro a us hT hz r
    have h1:=tgtNames_own hx
    obtain ⟨h2,h3,h5⟩:=tgtNames_each (prog:=prog) (w:=w) (A:=A) (env:=env) hx
    refine PySem.wpAny_assign_Tuple hh hT (by rw [h2,List.size_toArray,r.length,hl]) h3 fun h' hx'=>?_
    have S:Step lo Z αs s Z αs { s with heap:=h' }:=.of_keeps ⟨h',s.toks,rfl,fun b o e=>hx' b o (Nat.ne_of_lt (Heap.lt_size e)) e⟩
    have hmap2:((xs.zip vs).map (·.2))=vs:=List.map_snd_zip (Nat.le_of_eq hl.symm)
    refine wpAny_mono (stores_ok (lo:=lo) (ow:=ow) (ps:=xs.zip vs) (I.keeps fun b o e=>hx' b o (Nat.ne_of_lt (Heap.lt_size e)) e) (L.step S) (fun p hp=>hs.own _ (h1 _ (List.of_mem_zip hp).1)) (by rw [hmap2];exact r) (by rw [List.length_map,h2,List.length_zip,hl,Nat.min_self]) fun i f p hf hp=>?_) (fun _ s₁ o=>o.trans S.toW) fun _ _ e=>e
    rw [List.getElem?_zip_eq_some] at hp
    exact h5 i f p.1 hf hp.1
end
end Mine
namespace Mine
open PySem PySem.W PySem.Calls PyProof.Rows
section
variable {lo:Nat} {prog:Program} {w:World} {cls:Str→Option Addr} {base:Heap} {Z Z' Z'':Addr→Obj→Prop} {αs αs' αs'':List Addr} {s s' s'':Shared} {μ μ':M} {A:Around} {env:Env} {ρ:Rho} {n:Nat} {K:Frag}
theorem ff_noted {α:Type} {t:Sem α} {Q:α→Shared→Prop} {E:Value→Shared→Prop} (h:wpAny (model prog w) A t Q FF s):wpAny (model prog w) A t Q E s:=wpAny_mono h (fun _ _ q=>q) fun _ _ e=>e.elim
theorem turn_list1 {elt target iter:Expr} {ifs:List Expr} {scope:Scope} {pos:Pos} {it acc:Value} {R:Result→Shared→Prop}
    (h:wpAny (model prog w) A (pyNext it) (fun r s₁=>match r with
      | none=>R (.ok .next) s₁
      | some v=>wpAny (model prog w) A (letOwnedTupleGo target it v) (fun _ s₂=>wpAny (model prog w) A (assign target env v) (fun _ s₃=>
          wpAny (model prog w) A (forIn ifs true fun c r=>if r=true then do let ok ← isTrue c env (eval c env);pure (ForInStep.yield ok) else pure (ForInStep.yield r)) (fun ok s₄=>
            if ok=true then wpAny (model prog w) A (eval elt env) (fun x s₅=>wpAny (model prog w) A (call (.builtin "list.append") [acc,x]) (fun _ s₆=>
              codeAny (model prog w) A (.compLoop (.ListComp elt [⟨target,iter,ifs,0⟩] scope pos) 0 it acc env) R s₆) FF s₅) FF s₄
            else codeAny (model prog w) A (.compLoop (.ListComp elt [⟨target,iter,ifs,0⟩] scope pos) 0 it acc env) R s₄) FF s₃) FF s₂) FF s₁) FF s) :
    codeAny (model prog w) A (.compLoop (.ListComp elt [⟨target,iter,ifs,0⟩] scope pos) 0 it acc env) R s:=by
  refine codeAny_of_tree ?_
  show wpAny _ A ((compTurn (.ListComp elt [⟨target,iter,ifs,0⟩] scope pos) 0 it acc env).onRaise (fun x=>do noteFrame x env;theTreesLotGoes x)) _ _ s
  refine wpAny_noted (ff_noted ?_)
  rw [compTurn_list]
  refine wpAny_bind (wpAny_standAt (wpAny_bind (wpAny_mono h (fun r s₁ h₁=>?_) fun _ _ h'=>h')))
  cases r with
  | none=>exact wpAny_pure h₁
  | some v=>
    refine wpAny_bind (wpAny_mono h₁ (fun _ s₂ h₂=>?_) fun _ _ h'=>h')
    refine wpAny_bind (wpAny_mono h₂ (fun _ s₃ h₃=>wpAny_bind (wpAny_mono h₃ (fun ok s₄ h₄=>?_) fun _ _ h'=>h')) fun _ _ h'=>h')
    cases ok with
    | false=>exact wpAny_pure ⟨rfl,h₄⟩
    | true=>
      exact wpAny_bind (wpAny_bind (wpAny_mono h₄ (fun x s₅ h₅=>wpAny_bind (wpAny_mono h₅ (fun _ s₆ h₆=>wpAny_pure (wpAny_pure ⟨rfl,h₆⟩)) fun _ _ h'=>h')) fun _ _ h'=>h'))
theorem compTurn_two (elt target iter target' iter':Expr) (ifs:List Expr) (scope:Scope) (pos:Pos) (it acc:Value) (env:Env) :
    compTurn (.ListComp elt [⟨target,iter,[],0⟩,⟨target',iter',ifs,0⟩] scope pos) 0 it acc env=(do
      standAt iter.pos
      match ← pyNext it with
      | none=>pure (.done .next)
      | some v=>
        letOwnedTupleGo target it v
        assign target env v
        let x ← eval iter' env
        standAt iter'.pos
        let x ← foldedSetIterable iter' env x
        let _ ← runOwn (.compStart (.ListComp elt [⟨target,iter,[],0⟩,⟨target',iter',ifs,0⟩] scope pos) 1 (← holding [x] (pyIter x)) acc env) env
        again (.compLoop (.ListComp elt [⟨target,iter,[],0⟩,⟨target',iter',ifs,0⟩] scope pos) 0 it acc env)):=by rfl
theorem compTurn_inner (elt target iter target' iter':Expr) (ifs:List Expr) (scope:Scope) (pos:Pos) (it acc:Value) (env:Env) :
    compTurn (.ListComp elt [⟨target,iter,[],0⟩,⟨target',iter',ifs,0⟩] scope pos) 1 it acc env=(do
      standAt iter'.pos
      match ← pyNext it with
      | none=>pure (.done .next)
      | some v=>
        letOwnedTupleGo target' it v
        assign target' env v
        let mut ok:=true
        for c in ifs do
          if ok then ok ← isTrue c env (eval c env)
        if ok then
          (do let _ ← call (.builtin "list.append") [acc,← eval elt env])
        again (.compLoop (.ListComp elt [⟨target,iter,[],0⟩,⟨target',iter',ifs,0⟩] scope pos) 1 it acc env)):=by rfl
theorem start_inner {elt target iter target' iter':Expr} {ifs:List Expr} {scope:Scope} {pos:Pos} {it acc:Value} {R:Result→Shared→Prop}
    (h0:codeAny (model prog w) A (.compLoop (.ListComp elt [⟨target,iter,[],0⟩,⟨target',iter',ifs,0⟩] scope pos) 1 it acc env) R s)
    (h:wpAny (model prog w) A (pyIter it) (fun it' s'=>codeAny (model prog w) A (.compLoop (.ListComp elt [⟨target,iter,[],0⟩,⟨target',iter',ifs,0⟩] scope pos) 1 it' acc env) R s') FF s) :
    codeAny (model prog w) A (.compStart (.ListComp elt [⟨target,iter,[],0⟩,⟨target',iter',ifs,0⟩] scope pos) 1 it acc env) R s:=by
  refine codeAny_of_tree ?_
  show wpAny _ _ ((compStart (.ListComp elt [⟨target,iter,[],0⟩,⟨target',iter',ifs,0⟩] scope pos) 1 it acc env).onRaise (fun x=>do noteFrame x env;standAt theWindowsPlace)) _ _ s
  refine wpAny_notedAt (ff_noted ?_)
  unfold compStart
  show wpAny _ _ (ask >>= _) _ _ s
  refine wpAny_bind (wpAny_askSetting (wpAny_ite ?_))
  split
  · first
      | exact wpAny_bind (wpAny_pure (wpAny_pure (And.intro rfl h0)))
      | exact wpAny_pure (And.intro rfl h0)
  · first
      | exact wpAny_bind (wpAny_rule (wpAny_bind (wpAny_standAt (wpAny_bind (wpAny_mono h (fun it' s' h'=>wpAny_pure (And.intro rfl h')) fun _ _ x=>x)))))
      | (refine wpAny_bind (wpAny_rule ?_);show wpAny _ _ (standAt iter'.pos >>= _) _ _ s;exact wpAny_bind (wpAny_standAt (wpAny_bind (wpAny_mono h (fun it' s' h'=>wpAny_pure (And.intro rfl h')) fun _ _ x=>x))))
theorem turn_two {elt target iter target' iter':Expr} {ifs:List Expr} {scope:Scope} {pos:Pos} {it acc:Value} {R:Result→Shared→Prop} (hs:∀ x,foldedSetIterable iter' env x=pure x)
    (h:wpAny (model prog w) A (pyNext it) (fun r s₁=>match r with
      | none=>R (.ok .next) s₁
      | some v=>wpAny (model prog w) A (letOwnedTupleGo target it v) (fun _ s₂=>wpAny (model prog w) A (assign target env v) (fun _ s₃=>
          wpAny (model prog w) A (eval iter' env) (fun x s₄=>wpAny (model prog w) A (pyIter x) (fun it' s₅=>
            codeAny (model prog w) A (.compStart (.ListComp elt [⟨target,iter,[],0⟩,⟨target',iter',ifs,0⟩] scope pos) 1 it' acc env) (fun r s₆=>r=.ok .next ∧
              codeAny (model prog w) A (.compLoop (.ListComp elt [⟨target,iter,[],0⟩,⟨target',iter',ifs,0⟩] scope pos) 0 it acc env) R s₆) s₅) FF s₄) FF s₃) FF s₂) FF s₁) FF s) :
    codeAny (model prog w) A (.compLoop (.ListComp elt [⟨target,iter,[],0⟩,⟨target',iter',ifs,0⟩] scope pos) 0 it acc env) R s:=by
  refine codeAny_of_tree ?_
  show wpAny _ A ((compTurn (.ListComp elt [⟨target,iter,[],0⟩,⟨target',iter',ifs,0⟩] scope pos) 0 it acc env).onRaise (fun x=>do noteFrame x env;theTreesLotGoes x)) _ _ s
  refine wpAny_noted (ff_noted ?_)
  rw [compTurn_two]
  refine wpAny_bind (wpAny_standAt (wpAny_bind (wpAny_mono h (fun r s₁ h₁=>?_) fun _ _ h'=>h')))
  cases r with
  | none=>exact wpAny_pure h₁
  | some v=>
    refine wpAny_bind (wpAny_mono h₁ (fun _ s₂ h₂=>?_) fun _ _ h'=>h')
    refine wpAny_bind (wpAny_mono h₂ (fun _ s₃ h₃=>wpAny_bind (wpAny_mono h₃ (fun x s₄ h₄=>?_) fun _ _ h'=>h')) fun _ _ h'=>h')
    refine wpAny_bind (wpAny_standAt (wpAny_bind (wpAny_of_eq (hs x) (wpAny_bind (wpAny_holding (wpAny_mono h₄ (fun it' s₅ h₅=>?_) fun _ _ h'=>h'))))))
    refine wpAny_bind (wpAny_runOwn (codeAny_mono h₅ fun r s₆ h₆=>?_))
    obtain ⟨rfl,h₆⟩:=h₆
    exact wpAny_pure ⟨rfl,h₆⟩
theorem turn_inner {elt target iter target' iter':Expr} {ifs:List Expr} {scope:Scope} {pos:Pos} {it acc:Value} {R:Result→Shared→Prop}
    (h:wpAny (model prog w) A (pyNext it) (fun r s₁=>match r with
      | none=>R (.ok .next) s₁
      | some v=>wpAny (model prog w) A (letOwnedTupleGo target' it v) (fun _ s₂=>wpAny (model prog w) A (assign target' env v) (fun _ s₃=>
          wpAny (model prog w) A (forIn ifs true fun c r=>if r=true then do let ok ← isTrue c env (eval c env);pure (ForInStep.yield ok) else pure (ForInStep.yield r)) (fun ok s₄=>
            if ok=true then wpAny (model prog w) A (eval elt env) (fun x s₅=>wpAny (model prog w) A (call (.builtin "list.append") [acc,x]) (fun _ s₆=>
              codeAny (model prog w) A (.compLoop (.ListComp elt [⟨target,iter,[],0⟩,⟨target',iter',ifs,0⟩] scope pos) 1 it acc env) R s₆) FF s₅) FF s₄
            else codeAny (model prog w) A (.compLoop (.ListComp elt [⟨target,iter,[],0⟩,⟨target',iter',ifs,0⟩] scope pos) 1 it acc env) R s₄) FF s₃) FF s₂) FF s₁) FF s) :
    codeAny (model prog w) A (.compLoop (.ListComp elt [⟨target,iter,[],0⟩,⟨target',iter',ifs,0⟩] scope pos) 1 it acc env) R s:=by
  refine codeAny_of_tree ?_
  show wpAny _ A ((compTurn (.ListComp elt [⟨target,iter,[],0⟩,⟨target',iter',ifs,0⟩] scope pos) 1 it acc env).onRaise (fun x=>do noteFrame x env;theTreesLotGoes x)) _ _ s
  refine wpAny_noted (ff_noted ?_)
  rw [compTurn_inner]
  refine wpAny_bind (wpAny_standAt (wpAny_bind (wpAny_mono h (fun r s₁ h₁=>?_) fun _ _ h'=>h')))
  cases r with
  | none=>exact wpAny_pure h₁
  | some v=>
    refine wpAny_bind (wpAny_mono h₁ (fun _ s₂ h₂=>?_) fun _ _ h'=>h')
    refine wpAny_bind (wpAny_mono h₂ (fun _ s₃ h₃=>wpAny_bind (wpAny_mono h₃ (fun ok s₄ h₄=>?_) fun _ _ h'=>h')) fun _ _ h'=>h')
    cases ok with
    | false=>exact wpAny_pure ⟨rfl,h₄⟩
    | true=>
      exact wpAny_bind (wpAny_bind (wpAny_mono h₄ (fun x s₅ h₅=>wpAny_bind (wpAny_mono h₅ (fun _ s₆ h₆=>wpAny_pure (wpAny_pure ⟨rfl,h₆⟩)) fun _ _ h'=>h')) fun _ _ h'=>h'))
theorem turn_dict {kx vx target iter:Expr} {scope:Scope} {pos:Pos} {it:Value} {D:Addr} {R:Result→Shared→Prop}
    (h:wpAny (model prog w) A (pyNext it) (fun r s₁=>match r with
      | none=>R (.ok .next) s₁
      | some v=>wpAny (model prog w) A (letOwnedTupleGo target it v) (fun _ s₂=>wpAny (model prog w) A (assign target env v) (fun _ s₃=>
          wpAny (model prog w) A (eval kx env) (fun kv s₄=>wpAny (model prog w) A (eval vx env) (fun vv s₅=>wpAny (model prog w) A (dictSet D kv vv) (fun _ s₆=>
              codeAny (model prog w) A (.compLoop (.DictComp kx vx [⟨target,iter,[],0⟩] scope pos) 0 it (.ref D) env) R s₆) FF s₅) FF s₄) FF s₃) FF s₂) FF s₁) FF s) :
    codeAny (model prog w) A (.compLoop (.DictComp kx vx [⟨target,iter,[],0⟩] scope pos) 0 it (.ref D) env) R s:=by
  refine codeAny_of_tree ?_
  show wpAny _ A ((compTurn (.DictComp kx vx [⟨target,iter,[],0⟩] scope pos) 0 it (.ref D) env).onRaise (fun x=>do noteFrame x env;theTreesLotGoes x)) _ _ s
  refine wpAny_noted (ff_noted ?_)
  rw [compTurn_dict]
  refine wpAny_bind (wpAny_standAt (wpAny_bind (wpAny_mono h (fun r s₁ h₁=>?_) fun _ _ h'=>h')))
  cases r with
  | none=>exact wpAny_pure h₁
  | some v=>
    refine wpAny_bind (wpAny_mono h₁ (fun _ s₂ h₂=>?_) fun _ _ h'=>h')
    refine wpAny_bind (wpAny_mono h₂ (fun _ s₃ h₃=>?_) fun _ _ h'=>h')
    refine wpAny_bind (wpAny_pure ?_)
    show wpAny _ A (_ >>= fun _=>_) _ _ s₃
    refine wpAny_bind (wpAny_bind (wpAny_mono h₃ (fun kv s₄ h₄=>wpAny_bind (wpAny_holding (wpAny_mono h₄ (fun vv s₅ h₅=>?_) fun _ _ h'=>h'))) fun _ _ h'=>h'))
    exact wpAny_bind (wpAny_standAt (wpAny_holding (wpAny_mono h₅ (fun _ s₆ h₆=>wpAny_pure ⟨rfl,h₆⟩) fun _ _ h'=>h')))
end
end Mine
namespace Mine
open PySem PySem.W PySem.Calls PyProof.Rows
section
variable {lo:Nat} {prog:Program} {w:World} {cls:Str→Option Addr} {base:Heap} {Z Z' Z'':Addr→Obj→Prop} {αs αs' αs'':List Addr} {s s' s'':Shared} {μ μ':M} {A:Around} {env:Env} {ρ:Rho} {n:Nat} {K:Frag}
noncomputable abbrev AccT:=(Addr→Obj→Prop)→List Addr→Heap→List V→Prop
structure AccOK (base:Heap) (lo:Nat) (D:Addr) (Acc:AccT):Prop where
  off:∀ Z αs h vs,Acc Z αs h vs→Off base Z αs h D
  step:∀ Z αs (s:Shared) vs wr Z' αs' (s':Shared),Acc Z αs s.heap vs→StepW wr lo Z αs s Z' αs' s'→D ∉ wr→Acc Z' αs' s'.heap vs
  other:∀ Z αs h h' vs,Acc Z αs h vs→(∀ o,h.get? D=some o→h'.get? D=some o)→Acc Z αs h' vs
theorem flatM_cons {f:V→M→Option (List V×M)} {x:V} {xs ys:List V} {G:Prop} (e:flatM f (x::xs) μ=some (ys,μ')) (k:∀ a b μ₁,f x μ=some (a,μ₁)→flatM f xs μ₁=some (b,μ')→a++b=ys→G):G:=
  bnd e fun p h1 e=>mpd e fun r h2 e=>by
    obtain ⟨a,μ₁⟩:=p
    obtain ⟨b,μ₂⟩:=r
    cases e
    exact k _ _ _ h1 h2 rfl
theorem comp_items {c:Code} {target:Expr} {it:Value} {items:List V} {wr ow:List Addr} {St:Nat→(Addr→Obj→Prop)→List Addr→Heap→Prop} {D:Addr} {body:Value→(Shared→Prop)→Shared→Prop} {R:Result→Shared→Prop}
    {f:V→M→Option (List V×M)} {Acc:AccT} {Pre:List V→Prop} (hpre:∀ a b,Pre (a++b)→Pre a) (Dd:Dr prog w cls base A lo target it items wr St) (AK:AccOK base lo D Acc)
    (hturn:∀ s:Shared,wpAny (model prog w) A (pyNext it) (fun r s₁=>match r with
      | none=>R (.ok .next) s₁
      | some v=>wpAny (model prog w) A (letOwnedTupleGo target it v) (fun _ s₂=>body v (fun s₄=>codeAny (model prog w) A c R s₄) s₂) FF s₁) FF s→codeAny (model prog w) A c R s)
    (hbody:∀ (u:Value) (x:V) ys μ μ₁ Z αs (s:Shared) vs (P:Shared→Prop),f x μ=some (ys,μ₁)→Rep prog w Z αs u x→Inv prog w cls base Z αs μ s.heap→Loc prog w base env ρ Z αs s.heap→Acc Z αs s.heap vs→Pre (vs++ys)→
      (∀ Z' αs' s',StepW (D::ow) lo Z αs s Z' αs' s'→Inv prog w cls base Z' αs' μ₁ s'.heap→Loc prog w base env ρ Z' αs' s'.heap→Acc Z' αs' s'.heap (vs++ys)→P s')→body u P s)
    (how:∀ a ∈ ow,a ∈ fr env) (hdis:∀ a ∈ wr,a ∉ fr env∧a≠D) {Z₀:Addr→Obj→Prop} {αs₀:List Addr} {s₀:Shared} (hdead:∀ a ∈ wr,s₀.heap.get? a=none) :
    ∀ (k i:Nat) (Z:Addr→Obj→Prop) (αs:List Addr) (s:Shared) (μ μ':M) (vs ys:List V),items.length - i=k→i≤items.length→flatM f (items.drop i) μ=some (ys,μ')→Pre (vs++ys)→St i Z αs s.heap→
      Inv prog w cls base Z αs μ s.heap→Loc prog w base env ρ Z αs s.heap→Acc Z αs s.heap vs→StepW (D::ow) lo Z₀ αs₀ s₀ Z αs s→
      (∀ Z' αs' s',StepW (D::ow) lo Z₀ αs₀ s₀ Z' αs' s'→Inv prog w cls base Z' αs' μ' s'.heap→Loc prog w base env ρ Z' αs' s'.heap→Acc Z' αs' s'.heap (vs++ys)→R (.ok .next) s')→
      codeAny (model prog w) A c R s:=by
  intro k
  induction k with
  | zero=>
    intro i Z αs s μ μ' vs ys hk hi hf hlen st I L a S hR
    have:=down_eq hk hi
    subst this
    rw [List.drop_length] at hf
    cases hf
    refine hturn s (wpAny_mono (Dd.done Z αs s st) (fun r s' h=>?_) fun _ _ e=>e)
    obtain ⟨rfl,h',tk,rfl,hk'⟩:=h
    rw [List.append_nil] at hR
    exact hR Z αs _ (S.last hk' hdead) (I.others wr hk' fun a ha=>Dd.off _ _ _ _ st a ha) (L.other wr hk' fun a ha hm=>(hdis a hm).1 ha) (AK.other _ _ _ _ _ a fun o e=>hk' D o (fun hm=>(hdis D hm).2 rfl) e)
  | succ k ih=>
    intro i Z αs s μ μ' vs ys hk hi hf hlen st I L a S hR
    have hlt:=down_lt hk
    rw [List.drop_eq_getElem_cons hlt] at hf
    refine flatM_cons hf fun y1 y2 μ₁ h1 h2 hys=>?_
    rw [← hys] at hlen hR
    clear hys hf
    refine hturn s (wpAny_mono (Dd.item i Z αs s μ hlt st I) (fun r s₁ h=>?_) fun _ _ e=>e)
    obtain ⟨v,hr,h⟩:=h
    rw [hr]
    refine wpAny_mono h (fun _ s₂ h=>?_) fun _ _ e=>e
    obtain ⟨Z',αs',d,hd,S₁,I₁,R₁,st₁⟩:=h
    cases (List.getElem?_eq_getElem hlt).symm.trans hd
    have L₁:=L.stepW S₁ fun a ha hm=>(hdis a hm).1 ha
    have a₁:=AK.step _ _ _ _ _ _ _ _ a S₁ fun hm=>(hdis D hm).2 rfl
    rw [← List.append_assoc] at hlen
    refine hbody v _ y1 μ μ₁ Z' αs' s₂ vs _ h1 R₁ I₁ L₁ a₁ (hpre _ _ hlen) fun Z₂ αs₂ s₃ S₂ I₂ L₂ a₂=>?_
    have S₃:StepW (D::ow) lo Z₀ αs₀ s₀ Z₂ αs₂ s₃:=by
      have x1:StepW ((D::ow)++wr) lo Z₀ αs₀ s₀ Z' αs' s₂:=(S.mono fun a h=>List.mem_append_left _ h).trans (S₁.mono fun a h=>List.mem_append_right _ h)
      have x2:=x1.trans (S₂.mono fun a h=>List.mem_append_left wr h)
      exact x2.drop fun a h=>(List.mem_append.mp h).imp id fun h=>hdead a h
    have st₂:St (i + 1) Z₂ αs₂ s₃.heap:=Dd.step _ _ _ _ _ _ _ _ _ _ st₁ I₁ I₂ S₂ fun a h=>by
      rcases List.mem_cons.mp h with rfl | h
      · exact ⟨AK.off _ _ _ _ a₁,fun hm=>(hdis _ hm).2 rfl⟩
      · exact ⟨L₁.off (how a h),fun hm=>(hdis a hm).1 (how a h)⟩
    exact ih (i + 1) Z₂ αs₂ s₃ μ₁ μ' (vs++y1) y2 (down hk) hlt h2 hlen st₂ I₂ L₂ a₂ S₃ fun Z' αs' s' S I L a=>hR Z' αs' s' S I L (by rw [← List.append_assoc];exact a)
inductive accL (prog:Program) (w:World) (base:Heap) (D:Addr) (Z:Addr→Obj→Prop) (αs:List Addr) (h:Heap) (vs:List V):Prop
  | mk (o:Off base Z αs h D) (us:List Value) (n:Nat):h.get? D=some { cls:=.type "list", data:=.seq (List.toArray us) n }→us.length≤sizeLine→Reps prog w Z αs us vs→accL prog w base D Z αs h vs
theorem accL_ok (D:Addr):AccOK base lo D (accL prog w base D) where
  off:=fun Z αs h vs a=>by cases a;assumption
  step:=fun Z αs s vs wr Z' αs' s' a S hD=>by
    obtain ⟨o,us,n,h1,h2,h3⟩:=a
    exact ⟨o.step S,us,n,S.keep _ _ (fun hm=>o.na (List.mem_of_mem_drop hm)) hD h1,h2,h3.mono S.zsub S.asub⟩
  other:=fun Z αs h h' vs a hk=>by
    obtain ⟨o,us,n,h1,h2,h3⟩:=a
    exact ⟨⟨o.na,o.nz,o.nb,_,hk _ h1⟩,us,n,hk _ h1,h2,h3⟩
theorem accL_append {D:Addr} {vs:List V} {x:V} {u:Value} {Q:Value→Shared→Prop} {ow:List Addr} (I:Inv prog w cls base Z αs μ s.heap) (a:accL prog w base D Z αs s.heap vs) (R:Rep prog w Z αs u x) (hl:(vs++[x]).length≤sizeLine)
    (h:∀ s',StepW (D::ow) lo Z αs s Z αs s'→Inv prog w cls base Z αs μ s'.heap→(∀ b o,b≠D→s.heap.get? b=some o→s'.heap.get? b=some o)→accL prog w base D Z αs s'.heap (vs++[x])→Q .none s') :
    wpAny (model prog w) A (call (.builtin "list.append") [.ref D,u]) Q FF s:=by
  obtain ⟨o,us,n,h1,h2,h3⟩:=a
  rw [List.length_append,← h3.length] at hl
  refine wpAny_call_entry slot_list_append ⟨_,h1,rfl⟩ entry_list_append ?_ (args_list_append _ _)
  show wpAny _ _ (updateSeq D (·.push u) >>= fun _=>ret .none) _ _ s
  refine wpAny_bind (wpAny_updateSeq h1 rfl (wpAny_pure ⟨.none,rfl,?_⟩) h2)
  have hs:=Heap.SameBut.update s.heap D (Obj.mapSeq (·.push u))
  obtain ⟨n',hp⟩:=mapSeq_plain (f:=(·.push u)) h1
  exact h _ (.one (.head _) hs.extBut fun _ _=>⟨_,hp⟩) (I.other o hs.extBut) hs.extBut ⟨⟨o.na,o.nz,o.nb,_,hp⟩,us++[u],n',by rw [hp,List.push_toArray],by rw [List.length_append];exact hl,h3.append (.one R)⟩
end
end Mine
namespace Mine
open PySem PySem.W PySem.Calls PyProof.Rows
section
variable {lo:Nat} {prog:Program} {w:World} {cls:Str→Option Addr} {base:Heap} {Z Z' Z'':Addr→Obj→Prop} {αs αs' αs'':List Addr} {s s' s'':Shared} {μ μ':M} {A:Around} {env:Env} {ρ:Rho} {n:Nat} {K:Frag}
theorem lookup_of_mem {β:Type} {x:Str} {c:β}:∀ {l:List (Str×β)},(l.map (·.1)).Nodup→(x,c) ∈ l→l.lookup x=some c
  | (y,d)::r,hn,h=>by
    rw [List.map_cons,List.nodup_cons] at hn
    rw [List.lookup_cons]
    rcases List.mem_cons.mp h with e | h'
    · cases e;simp
    · have:(x == y)=false:=by
        rw [beq_eq_false_iff_ne]
        rintro rfl
        exact hn.1 (List.mem_map.mpr ⟨(_,c),h',rfl⟩)
      rw [this]
      exact lookup_of_mem hn.2 h'
noncomputable def closeL (env:Env) (names:List (Str×NameKind)):List (Str×Addr):=(names.filter fun p=>p.2 == .free).reverse.map fun p=>(p.1,(env.cells.lookup p.1).getD 0)
theorem closeL_for (env:Env) {f:Str×NameKind→List (Str×Addr)→Sem (ForInStep (List (Str×Addr)))} (hf:∀ x k cs,f (x,k) cs=if (k == NameKind.free)=true then (do let c ← cellOf env x;pure (ForInStep.yield ((x,c)::cs))) else pure (ForInStep.yield cs)) :
    ∀ (names:List (Str×NameKind)) (acc:List (Str×Addr)),(∀ p ∈ names,p.2=.free→(env.cells.lookup p.1).isSome=true)→forIn names acc f=pure (closeL env names++acc)
  | [],acc,_=>by rw [List.forIn_nil];rfl
  | (x,k)::r,acc,h=>by
    rw [List.forIn_cons,hf]
    have hr:=fun acc=>closeL_for env hf r acc fun p hp=>h p (.tail _ hp)
    by_cases hk:k=.free
    · subst hk
      obtain ⟨c,hc⟩:=Option.isSome_iff_exists.mp (h _ (.head _) rfl)
      have e:cellOf env x=pure c:=by unfold cellOf;rw [hc]
      simp only [beq_self_eq_true,if_true,e]
      rw [pure_bind]
      simp only [pure_bind]
      rw [hr]
      simp [closeL,hc]
    · have hb:(k == NameKind.free)=false:=by simpa using hk
      simp only [hb,Bool.false_eq_true,if_false,pure_bind]
      rw [hr]
      simp [closeL,hb]
theorem closureFor_eq {scope:Scope} (h:∀ p ∈ scope.names,p.2=.free→(env.cells.lookup p.1).isSome=true):closureFor scope env=pure (closeL env scope.names):=by
  unfold closureFor
  dsimp only
  rw [closeL_for env (fun _ _ _=>rfl) scope.names [] h,List.append_nil]
  rfl
theorem cellsFrom_append:∀ (names:List (Str×NameKind)) (k:Nat) (acc:List (Str×Addr)),cellsFrom k names acc=cellsFrom k names []++acc
  | [],_,_=>rfl
  | (x,kd)::r,k,acc=>by
    unfold cellsFrom
    split
    · rw [cellsFrom_append r (k + 1) ((x,k)::acc),cellsFrom_append r (k + 1) [(x,k)],List.append_assoc];rfl
    · exact cellsFrom_append r k acc
theorem cellsFrom_names:∀ (names:List (Str×NameKind)) (k:Nat),(cellsFrom k names []).map (·.1)=(names.filter fun p=>p.2 == .cell).reverse.map (·.1)
  | [],_=>rfl
  | (x,kd)::r,k=>by
    unfold cellsFrom
    split
    · rename_i h
      rw [cellsFrom_append,List.map_append,cellsFrom_names r (k + 1),List.filter_cons_of_pos (by simpa using h),List.reverse_cons,List.map_append];rfl
    · rename_i h
      rw [cellsFrom_names r k,List.filter_cons_of_neg (by simpa using h)]
noncomputable def cenvOf (scope:Scope) (C:Addr) (env:Env):Env:=
  { scope:=relabel scope env,locals:=C,globals:=env.globals,cells:=cellsFrom (C + 1) scope.names []++closeL env scope.names,qual:=env.qual,func:=none,code:=env.code,frame:=env.frame,builtins:=env.builtins }
noncomputable def ownOf (scope:Scope) (C:Addr):List Addr:=C::(cellsFrom (C + 1) scope.names []).map (·.2)
theorem newEnv_comp {scope:Scope} {Q:Env→Shared→Prop} {E:Value→Shared→Prop}
    (h:∀ cenv,{ cenv with scope:=relabel scope env }=cenvOf scope s.heap.objs.size env→cenv.locals=s.heap.objs.size→Q cenv { s with heap:=pushCells (s.heap.push { cls:=.type "dict", data:=.dict #[] }) scope.names }) :
    wpAny (model prog w) A (newFunctionEnv scope env.globals (closeL env scope.names) [] env.qual none .none (some env)) Q E s:=by
  simp only [newFunctionEnv,Option.isSome_some,if_true]
  refine wpAny_bind (wpAny_alloc ?_)
  refine wpAny_bind (wpAny_layCells _ (fun name kind cells=>by cases hkc:kind == NameKind.cell <;> simp [hkc]) _ _ _ _ ?_)
  rw [show ({ s with heap:=s.heap.push { cls:=.type "dict", data:=.dict #[] } }:Shared).heap.objs.size=s.heap.objs.size + 1 from Heap.size_push ..]
  rw [List.forIn_nil]
  refine wpAny_bind (wpAny_pure (wpAny_pure (h _ ?_ rfl)))
  simp only [cenvOf]
  rw [← cellsFrom_append]
theorem lookup_relabel {x:Str}:∀ {names:List (Str×NameKind)},
    (names.map fun (n,k)=>if (k == NameKind.free && env.scope.kind == .function && env.kindOf n == some .cell) then (n,NameKind.cell) else (n,k)).lookup x =
      (names.lookup x).map fun k=>if (k == NameKind.free && env.scope.kind == .function && env.kindOf x == some .cell) then NameKind.cell else k
  | []=>rfl
  | (n,k)::r=>by
    have ih:=@lookup_relabel x r
    rw [List.map_cons,List.lookup_cons]
    cases hx:x == n with
    | true=>
      have:=beq_iff_eq.mp hx
      subst this
      by_cases hc:(k == NameKind.free && env.scope.kind == .function && env.kindOf x == some .cell)=true
      · simp only [hc,if_true,List.lookup_cons,hx,Option.map_some]
      · simp only [hc,if_false,List.lookup_cons,hx,Option.map_some,Bool.false_eq_true]
    | false=>
      by_cases hc:(k == NameKind.free && env.scope.kind == .function && env.kindOf n == some .cell)=true
      · simp only [hc,if_true,List.lookup_cons,hx];exact ih
      · simp only [hc,if_false,List.lookup_cons,hx,Bool.false_eq_true];exact ih
theorem kind_cenv {scope:Scope} {C:Addr} {x:Str}:(cenvOf scope C env).kindOf x=(scope.names.lookup x).map fun k=>if (k == NameKind.free && env.scope.kind == .function && env.kindOf x == some .cell) then NameKind.cell else k:=lookup_relabel
theorem kc_local {scope:Scope} {C:Addr} {x:Str} (h:(cenvOf scope C env).kindOf x=some .local):scope.names.lookup x=some .local:=by
  rw [kind_cenv] at h
  obtain ⟨k,e1,e2⟩:=Option.map_eq_some_iff.mp h
  rw [e1]
  revert e2
  generalize (k == NameKind.free && env.scope.kind == .function && env.kindOf x == some .cell)=b
  cases b with
  | true=>exact fun e=>nomatch e
  | false=>exact congrArg some
theorem kc_cell {scope:Scope} {C:Addr} {x:Str} (h:(cenvOf scope C env).kindOf x=some .cell∨(cenvOf scope C env).kindOf x=some .free):scope.names.lookup x=some .cell∨scope.names.lookup x=some .free:=by
  rw [kind_cenv] at h
  cases e:scope.names.lookup x with
  | none=>rw [e] at h;exact h.elim (fun h=>nomatch h) fun h=>nomatch h
  | some k=>
    rw [e] at h
    revert h
    generalize (env.scope.kind == .function && env.kindOf x == some .cell)=b
    cases k <;> cases b <;> first | exact fun _=>.inl rfl | exact fun _=>.inr rfl | exact fun h=>h.elim (fun h=>nomatch h) fun h=>nomatch h
theorem hid {scope:Scope} {x:Str} {k:NameKind} {v:V} {G:Prop} (h:scope.names.lookup x=some k) (hk:(k == .local || k == .cell)=true) (hv:hideR (hideOf scope) ρ x=some v):G:=by
  unfold hideR at hv
  rw [if_pos (show x ∈ hideOf scope from List.mem_map.mpr ⟨(x,k),List.mem_filter.mpr ⟨mem_of_lookup h,hk⟩,rfl⟩)] at hv
  cases hv
theorem mem_lookup {β:Type} {x:Str} {c:β}:∀ {l:List (Str×β)},l.lookup x=some c→(x,c) ∈ l:=fun h=>mem_of_lookup h
theorem closeL_mem {names:List (Str×NameKind)} {x:Str} {c:Addr} (h:(x,c) ∈ closeL env names):(x,NameKind.free) ∈ names∧c=(env.cells.lookup x).getD 0:=by
  unfold closeL at h
  obtain ⟨p,h1,h2⟩:=List.mem_map.mp h
  cases h2
  obtain ⟨h3,h4⟩:=List.mem_filter.mp (List.mem_reverse.mp h1)
  obtain ⟨y,k⟩:=p
  simp only [beq_iff_eq] at h4
  subst h4
  exact ⟨h3,rfl⟩
theorem cellsFrom_mem {names:List (Str×NameKind)} {x:Str} {c k:Nat} (h:(x,c) ∈ cellsFrom k names []):(x,NameKind.cell) ∈ names:=by
  have h1:x ∈ (cellsFrom k names []).map (·.1):=List.mem_map.mpr ⟨_,h,rfl⟩
  rw [cellsFrom_names] at h1
  obtain ⟨p,h2,h3⟩:=List.mem_map.mp h1
  subst h3
  obtain ⟨h3,h4⟩:=List.mem_filter.mp (List.mem_reverse.mp h2)
  obtain ⟨y,kd⟩:=p
  simp only [beq_iff_eq] at h4
  subst h4
  exact h3
theorem nodup_kind {names:List (Str×NameKind)} (hn:(names.map (·.1)).Nodup) {x:Str} {k k':NameKind} (h:(x,k) ∈ names) (h':(x,k') ∈ names):k=k':=by
  have e1:=lookup_of_mem hn h
  rw [lookup_of_mem hn h'] at e1
  cases e1;rfl
theorem cells_names {names:List (Str×NameKind)} (hn:(names.map (·.1)).Nodup) {k:Nat}:((cellsFrom k names []++closeL env names).map (·.1)).Nodup:=by
  rw [List.map_append,List.nodup_append]
  have sub:∀ (q:Str×NameKind→Bool),((names.filter q).reverse.map (·.1)).Nodup:=fun q=>by
    rw [List.map_reverse]
    exact (List.reverse_perm _).nodup_iff.mpr ((List.Sublist.map _ List.filter_sublist).nodup hn)
  refine ⟨by rw [cellsFrom_names];exact sub _,?_,fun x hx y hy e=>?_⟩
  · have:(closeL env names).map (·.1)=((names.filter fun p=>p.2 == .free).reverse.map (·.1)):=by unfold closeL;rw [List.map_map];rfl
    rw [this];exact sub _
  · subst e
    obtain ⟨⟨x1,c1⟩,h1,e1⟩:=List.mem_map.mp hx
    obtain ⟨⟨x2,c2⟩,h2,e2⟩:=List.mem_map.mp hy
    subst e1
    dsimp only at e2
    subst e2
    have:=nodup_kind hn (cellsFrom_mem h1) (closeL_mem h2).1
    cases this
structure CompFr (prog:Program) (w:World) (base:Heap) (scope:Scope) (env:Env) (ρ:Rho) (Z:Addr→Obj→Prop) (αs:List Addr) (s:Shared) (h':Heap):Prop where
  keep:∀ b o,s.heap.get? b=some o→h'.get? b=some o
  loc:Loc prog w base (cenvOf scope s.heap.objs.size env) (hideR (hideOf scope) ρ) Z αs h'
  sc:Sc scope (cenvOf scope s.heap.objs.size env) (ownOf scope s.heap.objs.size)
  own:∀ a ∈ ownOf scope s.heap.objs.size,s.heap.get? a=none∧a ∈ fr (cenvOf scope s.heap.objs.size env)
  sub:∀ a ∈ fr (cenvOf scope s.heap.objs.size env),a ∈ ownOf scope s.heap.objs.size∨a ∈ fr env
  clo:closureFor scope env=pure (closeL env scope.names)
theorem comp_frame {sc scope:Scope} {ow:List Addr} (hS:Sc sc env ow) (hc:compSc sc scope=true) (I:Inv prog w cls base Z αs μ s.heap) (L:Loc prog w base env ρ Z αs s.heap) {h':Heap}
    (hh:h'=pushCells (s.heap.push { cls:=.type "dict", data:=.dict #[] }) scope.names):CompFr prog w base scope env ρ Z αs s h':=by
  simp only [compSc,Bool.and_eq_true,decide_eq_true_eq,List.all_eq_true,Bool.or_eq_true,bne_iff_ne,ne_eq] at hc
  obtain ⟨⟨⟨hk,hn⟩,hncl⟩,hf⟩:=hc
  have hkind:scope.kind=.function:=by simpa using hk
  have keep:∀ b o,s.heap.get? b=some o→h'.get? b=some o:=fun b o e=>hh ▸ pushCells_keeps _ _ b o (Heap.get?_push_of_some _ e)
  have ok:=cellsFrom_ok scope.names (s.heap.push { cls:=.type "dict", data:=.dict #[] }) (s.heap.objs.size + 1) [] ⟨fun _ _ hm=>(nomatch hm),List.Pairwise.nil⟩ (by rw [Heap.size_push];exact Nat.le_refl _)
  rw [Heap.size_push,← hh] at ok
  have hcn:=cells_names (env:=env) hn (k:=s.heap.objs.size + 1)
  have free:∀ {x},(x,NameKind.free) ∈ scope.names→LocCell prog w env ρ Z αs s.heap x:=fun {x} hx=>by
    rcases hf _ hx with h | h
    · exact absurd rfl h
    · exact L.cell _ (hncl _ hx) (hS.clo _ h)
  have lk:∀ {x k},scope.names.lookup x=some k→(x,k) ∈ scope.names:=fun h=>mem_of_lookup h
  have lkC:∀ {x},scope.names.lookup x=some .cell→∃ c,(x,c) ∈ cellsFrom (s.heap.objs.size + 1) scope.names []:=fun {x} h=>by
    have:x ∈ (cellsFrom (s.heap.objs.size + 1) scope.names []).map (·.1):=by
      rw [cellsFrom_names]
      exact List.mem_map.mpr ⟨(x,.cell),List.mem_reverse.mpr (List.mem_filter.mpr ⟨lk h,rfl⟩),rfl⟩
    obtain ⟨⟨y,c⟩,h1,rfl⟩:=List.mem_map.mp this
    exact ⟨c,h1⟩
  have hC:h'.get? s.heap.objs.size=some { cls:=.type "dict", data:=.dict #[] }:=hh ▸ pushCells_keeps _ _ _ _ (Heap.get?_push_size _ rfl)
  have dead:∀ a,s.heap.objs.size≤a→s.heap.get? a=none:=fun a ha=>Heap.get?_none_of_le ha
  have offN:∀ a,s.heap.objs.size≤a→(∃ o,h'.get? a=some o)→Off base Z αs h' a:=fun a ha h=>by
    obtain ⟨o,ho⟩:=h
    exact Off.new I (dead a ha) ho
  have hnL:=L.nodup
  rw [List.nodup_cons] at hnL
  have hvc:vcells (cenvOf scope s.heap.objs.size env)=cellsFrom (s.heap.objs.size + 1) scope.names []++closeL env scope.names:=by
    unfold vcells
    refine List.filter_eq_self.mpr fun p hp=>?_
    have hm:∃ k,(p.1,k) ∈ scope.names:=by
      rcases List.mem_append.mp hp with h | h
      · exact ⟨_,cellsFrom_mem (x:=p.1) (c:=p.2) h⟩
      · exact ⟨_,(closeL_mem (x:=p.1) (c:=p.2) h).1⟩
    obtain ⟨k,hk⟩:=hm
    simpa using hncl _ hk
  have hfr:fr (cenvOf scope s.heap.objs.size env)=s.heap.objs.size::(cellsFrom (s.heap.objs.size + 1) scope.names []++closeL env scope.names).map (·.2):=by unfold fr;rw [hvc];rfl
  have closeAddr:∀ p ∈ closeL env scope.names,∃ u,env.cells.lookup p.1=some p.2∧s.heap.IsCell p.2 u:=fun p hp=>by
    obtain ⟨h1,h2⟩:=closeL_mem (x:=p.1) (c:=p.2) hp
    obtain ⟨c,u,e1,e2,_⟩:=free h1
    rw [e1] at h2
    simp only [Option.getD_some] at h2
    subst h2
    exact ⟨u,e1,e2⟩
  refine ⟨keep,⟨?_,L.glob,L.bi,⟨fun _=>none,?_,?_⟩,?_,?_,?_⟩,⟨?_,?_,?_,?_⟩,?_,?_,closureFor_eq ?_⟩
  · exact hkind
  · exact hh ▸ (Heap.Ns.new s.heap (.type "dict")).keeps (pushCells_keeps _ _)
  · intro x v hv hl
    exact hid (kc_local hl) rfl hv
  · intro x hxc hx
    rcases kc_cell hx with hx | hx
    · obtain ⟨c,hc⟩:=lkC hx
      refine ⟨c,none,lookup_of_mem hcn (List.mem_append_left _ hc),(ok.empty x c hc).1,fun v hv=>hid hx rfl hv⟩
    · obtain ⟨c,u,e1,e2,e3⟩:=free (lk hx)
      refine ⟨c,u,lookup_of_mem hcn (List.mem_append_right _ ?_),e2.keeps keep,fun v hv=>e3 v ?_⟩
      · unfold closeL
        exact List.mem_map.mpr ⟨(x,.free),List.mem_reverse.mpr (List.mem_filter.mpr ⟨lk hx,rfl⟩),by rw [e1];rfl⟩
      · unfold hideR at hv
        split at hv
        · cases hv
        · exact hv
  · intro a ha
    replace ha:a ∈ fr (cenvOf scope s.heap.objs.size env):=ha
    rw [hfr] at ha
    rcases List.mem_cons.mp ha with rfl | ha
    · exact offN _ (Nat.le_refl _) ⟨_,hC⟩
    · obtain ⟨⟨x,c⟩,h1,rfl⟩:=List.mem_map.mp ha
      rcases List.mem_append.mp h1 with h1 | h1
      · obtain ⟨⟨o,h2,_⟩,h3⟩:=ok.empty x c h1
        exact offN c (Nat.le_of_succ_le h3) ⟨o,h2⟩
      · obtain ⟨u,e1,_⟩:=closeAddr _ h1
        obtain ⟨h1',h2,h3,o,h4⟩:=L.apart c (.tail _ (vcells_mem (hncl _ (closeL_mem (x:=x) (c:=c) h1).1) e1))
        exact ⟨h1',h2,h3,o,keep _ _ h4⟩
  · show (fr (cenvOf scope s.heap.objs.size env)).Nodup
    rw [hfr]
    have low:∀ a ∈ (closeL env scope.names).map (·.2),a<s.heap.objs.size:=fun a ha=>by
      obtain ⟨p,h1,rfl⟩:=List.mem_map.mp ha
      obtain ⟨u,_,h2⟩:=closeAddr _ h1
      exact h2.lt
    have high:∀ a ∈ (cellsFrom (s.heap.objs.size + 1) scope.names []).map (·.2),s.heap.objs.size + 1≤a:=fun a ha=>by
      obtain ⟨p,h1,rfl⟩:=List.mem_map.mp ha
      exact (ok.empty p.1 p.2 h1).2
    rw [List.nodup_cons,List.map_append,List.nodup_append]
    refine ⟨fun hm=>?_,List.pairwise_map.mpr ok.apart,?_,fun a ha b hb e=>?_⟩
    · rcases List.mem_append.mp hm with hm | hm
      · exact absurd (high _ hm) (by omega)
      · exact absurd (low _ hm) (Nat.lt_irrefl _)
    · have hcn2:((closeL env scope.names).map (·.1)).Nodup:=by
        rw [List.map_append,List.nodup_append] at hcn;exact hcn.2.1
      unfold List.Nodup
      rw [List.pairwise_map]
      unfold List.Nodup at hcn2
      rw [List.pairwise_map] at hcn2
      refine hcn2.imp_of_mem fun {p q} hp hq hne e=>hne ?_
      obtain ⟨_,e1,_⟩:=closeAddr _ hp
      obtain ⟨_,e2,_⟩:=closeAddr _ hq
      exact lookup_name hnL.2 ((vcells_lookup (c:=p.2) (hncl _ (closeL_mem (x:=p.1) (c:=p.2) hp).1)).trans e1) ((vcells_lookup (c:=p.2) (hncl _ (closeL_mem (x:=q.1) (c:=q.2) hq).1)).trans (e ▸ e2))
    · have h1:=high a ha
      have h2:=low b hb
      rw [e] at h1
      exact absurd h2 (Nat.not_lt.mpr (Nat.le_of_succ_le h1))
  · intro x hx
    rw [kind_cenv]
    unfold isVar at hx
    rw [Bool.and_eq_true] at hx
    obtain ⟨hxc,hx⟩:=hx
    split at hx
    · rename_i h;rw [h];exact .inl rfl
    · rename_i h;rw [h];exact .inr (.inl rfl)
    · rename_i h
      rw [h]
      by_cases hc:(NameKind.free == NameKind.free && env.scope.kind == .function && env.kindOf x == some .cell)=true
      · exact .inr (.inl (by rw [Option.map_some,if_pos hc]))
      · exact .inr (.inr (by rw [Option.map_some,if_neg hc]))
    · cases hx
  · intro x hx
    rw [kind_cenv]
    unfold isGlob at hx
    rw [beq_iff_eq] at hx
    rw [hx];rfl
  · intro x hx
    unfold isOwn at hx
    rw [Bool.and_eq_true] at hx
    obtain ⟨hxc,hx⟩:=hx
    split at hx
    · rename_i h
      exact ⟨by simpa using hxc,.inl ⟨.head _,by rw [kind_cenv,h];rfl⟩⟩
    · rename_i h
      obtain ⟨c,hc⟩:=lkC h
      exact ⟨by simpa using hxc,.inr ⟨c,.tail _ (List.mem_map.mpr ⟨_,hc,rfl⟩),by rw [kind_cenv,h];rfl,lookup_of_mem hcn (List.mem_append_left _ hc)⟩⟩
    · cases hx
  · intro x hx
    rw [kind_cenv]
    unfold isClo at hx
    rw [Bool.and_eq_true] at hx
    obtain ⟨hxc,hx⟩:=hx
    split at hx
    · rename_i h;rw [h];exact .inl rfl
    · rename_i h
      rw [h]
      by_cases hc:(NameKind.free == NameKind.free && env.scope.kind == .function && env.kindOf x == some .cell)=true
      · exact .inl (by rw [Option.map_some,if_pos hc])
      · exact .inr (by rw [Option.map_some,if_neg hc])
    · cases hx
  · intro a ha
    rw [hfr]
    rcases List.mem_cons.mp ha with rfl | ha
    · exact ⟨dead _ (Nat.le_refl _),.head _⟩
    · obtain ⟨⟨x,c⟩,h1,rfl⟩:=List.mem_map.mp ha
      exact ⟨dead _ (Nat.le_of_succ_le (ok.empty x c h1).2),.tail _ (List.mem_map.mpr ⟨_,List.mem_append_left _ h1,rfl⟩)⟩
  · intro a ha
    rw [hfr] at ha
    rcases List.mem_cons.mp ha with rfl | ha
    · exact .inl (.head _)
    · obtain ⟨p,h1,rfl⟩:=List.mem_map.mp ha
      rcases List.mem_append.mp h1 with h1 | h1
      · exact .inl (.tail _ (List.mem_map.mpr ⟨_,h1,rfl⟩))
      · obtain ⟨u,e1,_⟩:=closeAddr _ h1
        exact .inr (.tail _ (vcells_mem (hncl _ (closeL_mem (x:=p.1) (c:=p.2) h1).1) e1))
  · intro p hp hk
    obtain ⟨x,k⟩:=p
    dsimp only at hk
    subst hk
    obtain ⟨c,u,e1,_⟩:=free hp
    rw [e1];rfl
end
end Mine
namespace Mine
open PySem PySem.W PySem.Calls PyProof.Rows
section
variable {lo:Nat} {prog:Program} {w:World} {cls:Str→Option Addr} {base:Heap} {Z Z' Z'':Addr→Obj→Prop} {αs αs' αs'':List Addr} {s s' s'':Shared} {μ μ' μ₁ μ₂:M} {A:Around} {env:Env} {ρ ρ':Rho} {n:Nat} {K:Frag}
theorem SAnd.tests {es:List Expr} {b:Bool} (h:SAnd prog w cls base lo A env ρ es μ μ' b) :
    SB prog w cls base lo A env (forIn es true fun c r=>if r=true then do let ok ← isTrue c env (eval c env);pure (ForInStep.yield ok) else pure (ForInStep.yield r)) ρ μ μ' b:=by
  have stop:∀ (es:List Expr) (Z:Addr→Obj→Prop) (αs:List Addr) (s:Shared) (μ:M),Inv prog w cls base Z αs μ s.heap→wpAny (model prog w) A (forIn es false fun c r=>if r=true then do let ok ← isTrue c env (eval c env);pure (ForInStep.yield ok) else pure (ForInStep.yield r)) (OutB prog w cls base lo Z αs s μ false) FF s:=by
    intro es
    induction es with
    | nil=>intro Z αs s μ I;exact wpAny_pure ⟨rfl,Z,αs,.refl ..,I⟩
    | cons e es ih=>
      intro Z αs s μ I
      rw [List.forIn_cons]
      simp only [Bool.false_eq_true,if_false]
      exact wpAny_bind (wpAny_pure (ih Z αs s μ I))
  induction h with
  | nil=>intro Z αs s I L;exact wpAny_pure ⟨rfl,Z,αs,.refl ..,I⟩
  | no h1 h2=>
    intro Z αs s I L
    rw [List.forIn_cons]
    simp only [if_true]
    refine wpAny_bind (wpAny_bind (h1.use I L fun Z' αs' s' S I' L'=>wpAny_pure ?_))
    exact wpAny_mono (stop _ Z' αs' s' _ I') (fun _ _ o=>o.trans S) fun _ _ e=>e
  | yes h1 h2 r ih=>
    intro Z αs s I L
    rw [List.forIn_cons]
    simp only [if_true]
    refine wpAny_bind (wpAny_bind (h1.use I L fun Z' αs' s' S I' L'=>wpAny_pure ?_))
    exact wpAny_mono (ih Z' αs' s' I' L') (fun _ _ o=>o.trans S) fun _ _ e=>e
theorem Step.zmore {D:Addr} {o:Obj} (x:Step lo Z αs s Z' αs' s') (hd:s.heap.get? D=none):Step lo Z αs s (zadd Z' D o) αs' s':=
  ⟨x.same,x.keep,x.alive,fun a p h=>.inl (x.zsub a p h),fun a p h=>h.elim (x.znew a p) fun e=>.inr (e.1 ▸ hd),x.anew⟩
theorem Inv.zmore {D:Addr} {o:Obj} {h:Heap} (I:Inv prog w cls base Z αs μ h) (hD:Off base Z αs h D) (ho:h.get? D=some o):Inv prog w cls base (zadd Z D o) αs μ h where
  keep:=I.keep
  fast:=fun a p e=>e.elim (I.fast a p) fun e=>by rw [e.1,e.2];exact ho
  off:=fun a p e hm=>e.elim (fun e=>I.off a p e hm) fun e=>hD.na (e.1 ▸ hm)
  len:=I.len
  at_:=fun i a m e1 e2=>(I.at_ i a m e1 e2).mono (fun _ _ x=>.inl x) (List.prefix_refl _) fun _ x=>x
  nodup:=I.nodup
  old:=I.old
theorem Step.last {C:Addr} {h':Heap} (x:Step lo Z αs s Z' αs' s') (hs:Heap.SameBut C s'.heap h') (hd:s.heap.get? C=none):Step lo Z αs s Z' αs' { s' with heap:=h' }:=
  ((x.toW (wr:=[])).last (tk:=s'.toks) (wr':=[C]) (fun b o hb e=>hs.extBut b o (fun e=>hb (by rw [e];exact .head _)) e) fun a ha=>by rw [List.mem_singleton.mp ha];exact hd).step fun a h=>nomatch h
inductive CompEnd (prog:Program) (w:World) (cls:Str→Option Addr) (base:Heap) (lo:Nat) (env:Env) (ρ:Rho) (Z:Addr→Obj→Prop) (αs:List Addr) (s:Shared) (μ':M) (v:V) (C:Addr) (D:Value) (s':Shared):Prop
  | mk (Z':Addr→Obj→Prop) (αs':List Addr) (m:Str→Option Value):Step lo Z αs s Z' αs' s'→Inv prog w cls base Z' αs' μ' s'.heap→Loc prog w base env ρ Z' αs' s'.heap→Rep prog w Z' αs' D v→s.heap.get? C=none→Off base Z' αs' s'.heap C→s'.heap.Ns C m→CompEnd prog w cls base lo env ρ Z αs s μ' v C D s'
theorem comp_loop {c:Code} {target:Expr} {scope sc:Scope} {ow:List Addr} {v:V} {items vs:List V} {f:V→M→Option (List V×M)} {Acc:Addr→AccT} {Pre:List V→Prop} {o₀:Obj} {body:Value→(Shared→Prop)→Shared→Prop} {Z₁:Addr→Obj→Prop} {αs₁:List Addr} {s₁:Shared} {h₂ H H4:Heap} {tk₂:Nat} {J:Addr} {St:Nat→Heap→Prop} {P:Nat→Value→Prop} {fp:List Addr} {oJ:Obj} {R:Result→Shared→Prop}
    (hpre:∀ a b,Pre (a++b)→Pre a) (AK:AccOK base lo h₂.objs.size (Acc h₂.objs.size)) (hinit:∀ Z αs h D,Off base Z αs h D→h.get? D=some o₀→Acc D Z αs h [])
    (hfin:∀ Z αs h D,Acc D Z αs h vs→∃ o,h.get? D=some o∧Rep prog w (zadd Z D o) αs (.ref D) v)
    (hS:Sc sc env ow) (hc:compSc sc scope=true) (S₁:Step lo Z αs s Z₁ αs₁ s₁) (I₁:Inv prog w cls base Z₁ αs₁ μ₁ s₁.heap) (L₁:Loc prog w base env ρ Z₁ αs₁ s₁.heap)
    (hk₂:∀ b o,s₁.heap.get? b=some o→h₂.get? b=some o) (hJ1:s₁.heap.get? J=none) (hJ2:h₂.get? J=some oJ) (hst:St 0 h₂) (hI:ItAt prog w base A lo Z₁ αs₁ items J St P fp)
    (hH:H=h₂.push o₀) (ho₀:o₀.isFreed=false) (hH4:H4=pushCells (H.push { cls:=.type "dict", data:=.dict #[] }) scope.names) (hf:flatM f items μ₁=some (vs,μ')) (hP:Pre vs)
    (hturn:∀ s:Shared,wpAny (model prog w) A (pyNext (.ref J)) (fun r s₁=>match r with
      | none=>R (.ok .next) s₁
      | some v=>wpAny (model prog w) A (letOwnedTupleGo target (.ref J) v) (fun _ s₂=>body v (fun s₄=>codeAny (model prog w) A c R s₄) s₂) FF s₁) FF s→codeAny (model prog w) A c R s)
    (hbody:Sc scope (cenvOf scope H.objs.size env) (ownOf scope H.objs.size)→h₂.objs.size ∉ fr (cenvOf scope H.objs.size env)→(∀ a ∈ ownOf scope H.objs.size,a ∈ fr (cenvOf scope H.objs.size env))→∀ (u:Value) (x:V) ys μ μ₁ Z αs (s:Shared) vs (P:Shared→Prop),f x μ=some (ys,μ₁)→Rep prog w Z αs u x→Inv prog w cls base Z αs μ s.heap→Loc prog w base (cenvOf scope H.objs.size env) (hideR (hideOf scope) ρ) Z αs s.heap→Acc h₂.objs.size Z αs s.heap vs→Pre (vs++ys)→
      (∀ Z' αs' s',StepW (h₂.objs.size::ownOf scope H.objs.size) lo Z αs s Z' αs' s'→Inv prog w cls base Z' αs' μ₁ s'.heap→Loc prog w base (cenvOf scope H.objs.size env) (hideR (hideOf scope) ρ) Z' αs' s'.heap→Acc h₂.objs.size Z' αs' s'.heap (vs++ys)→P s')→body u P s)
    (hR:∀ s',CompEnd prog w cls base lo env ρ Z αs s μ' v H.objs.size (.ref h₂.objs.size) s'→R (.ok .next) s') :
    codeAny (model prog w) A c R { s₁ with heap:=H4,toks:=tk₂ }∧∀ (Q:Value→Shared→Prop) (E:Value→Shared→Prop),Q (.ref J) { s₁ with heap:=H4,toks:=tk₂ }→wpAny (model prog w) A (pyIter (.ref J)) Q E { s₁ with heap:=H4,toks:=tk₂ }:=by
  have S₂:Step lo Z₁ αs₁ s₁ Z₁ αs₁ { s₁ with heap:=h₂,toks:=tk₂ }:=.of_keeps ⟨h₂,tk₂,rfl,hk₂⟩
  have hk₃:∀ b o,h₂.get? b=some o→H.get? b=some o:=fun b o q=>hH ▸ Heap.get?_push_of_some _ q
  have hD:H.get? h₂.objs.size=some o₀:=hH ▸ Heap.get?_push_size _ ho₀
  have hk₅:∀ b o,s₁.heap.get? b=some o→H.get? b=some o:=fun b o q=>hk₃ b o (hk₂ b o q)
  have CF:=comp_frame (s:={ s₁ with heap:=H,toks:=tk₂ }) hS hc (I₁.keeps hk₅) (L₁.other [] (fun b o _ q=>hk₅ b o q) fun _ _ h=>nomatch h) hH4
  have hall:∀ b o,s₁.heap.get? b=some o→H4.get? b=some o:=fun b o q=>CF.keep _ _ (hk₅ _ _ q)
  have hDd:s₁.heap.get? h₂.objs.size=none:=S₂.dead (dead_size _)
  have new:∀ {a o},s₁.heap.get? a=none→H.get? a=some o→a ∉ fr (cenvOf scope H.objs.size env):=fun {a o} h1 h2 ha=>(CF.sub _ ha).elim (fun h=>by have:=(CF.own _ h).1;rw [h2] at this;cases this) fun h=>by obtain ⟨o,q⟩:=(L₁.off h).live;rw [h1] at q;cases q
  have hDf:=new hDd hD
  have hJfr:=new hJ1 (hk₃ _ _ hJ2)
  have hJne:J≠h₂.objs.size:=fun e=>by rw [e,dead_size] at hJ2;cases hJ2
  have ownDead:∀ a ∈ ownOf scope H.objs.size,s₁.heap.get? a=none:=fun a ha=>by
    have:=(CF.own a ha).1
    cases q:s₁.heap.get? a with
    | none=>rfl
    | some o=>rw [hk₅ _ _ q] at this;cases this
  have offD:Off base Z₁ αs₁ H4 h₂.objs.size:=Off.new I₁ hDd (CF.keep _ _ hD)
  have ItJ:ItAt prog w base A lo Z₁ αs₁ items J St P (J::fp):=⟨hI.walks.mono_fp fun b hb=>.tail _ hb,hI.reps,hI.apart,fun b hb=>(List.mem_cons.mp hb).elim .inl (hI.fp b),hI.go⟩
  have st₄:stOf prog w base A lo items J St P (J::fp) 0 Z₁ αs₁ H4:=by
    have:=ItJ.step (s:={ s₁ with heap:=h₂,toks:=tk₂ }) (s':={ s₁ with heap:=H4,toks:=tk₂ }) (I₁.keeps hk₂) (.of_keeps ⟨H4,tk₂,rfl,fun b o q=>CF.keep _ _ (hk₃ _ _ q)⟩) (I₁.keeps hall) hJ2
    exact ⟨this.1,this.2 0 hst,.head _⟩
  refine ⟨?_,fun Q E h=>(dr_of_iter (cls:=cls) (target:=target) (St:=St) (P:=P) (fp:=J::fp)).self 0 Z₁ αs₁ _ Q E st₄ h⟩
  refine comp_items (ow:=ownOf scope H.objs.size) (Z₀:=Z₁) (αs₀:=αs₁) (s₀:=s₁) (Acc:=Acc h₂.objs.size) hpre (dr_of_iter (target:=target) (St:=St) (P:=P) (fp:=J::fp)) AK hturn (hbody CF.sc hDf fun a ha=>(CF.own a ha).2)
      (fun a ha=>(CF.own a ha).2) (fun a ha=>by rw [List.mem_singleton.mp ha];exact ⟨hJfr,hJne⟩) (fun a ha=>by rw [List.mem_singleton.mp ha];exact hJ1)
      items.length 0 Z₁ αs₁ _ μ₁ μ' [] vs (Nat.sub_zero _) (Nat.zero_le _) hf hP st₄ (I₁.keeps hall) CF.loc (hinit _ _ _ _ offD (CF.keep _ _ hD)) (Step.of_keeps ⟨H4,tk₂,rfl,hall⟩).toW fun Z' αs' s' S' I' L' a'=>hR _ ?_
  have oD:=AK.off _ _ _ _ a'
  obtain ⟨o,hD',r'⟩:=hfin _ _ _ _ a'
  have S'':Step lo Z₁ αs₁ s₁ Z' αs' s':=S'.step fun a ha=>(List.mem_cons.mp ha).elim (fun e=>e ▸ hDd) (ownDead a)
  obtain ⟨m,hm,_⟩:=L'.ns
  have offC:=L'.off (.head _)
  exact ⟨_,αs',m,S₁.trans (S''.zmore (o:=o) hDd),I'.zmore oD hD',L₁.step (S''.zmore (o:=o) hDd),r',S₁.dead (ownDead _ (.head _)),⟨offC.na,fun o h=>h.elim (offC.nz o) fun e=>hDf (e.1 ▸ .head _),offC.nb,offC.live⟩,hm⟩
theorem comp_parts {sc scope:Scope} (hc:compSc sc scope=true):scope.kind=.function∧(scope.names.map (·.1)).Nodup:=
  have h:=Bool.and_eq_true_iff.mp (Bool.and_eq_true_iff.mp (Bool.and_eq_true_iff.mp hc).1).1
  ⟨beq_iff_eq.mp h.1,of_decide_eq_true h.2⟩
theorem comp_block {e:Expr} {target iter:Expr} {ifs:List Expr} {rest:List Comprehension} {elt:Expr} {scope sc:Scope} {pos:Pos} {ow:List Addr} {vi:V} {items vs:List V} {f:V→M→Option (List V×M)} {use:Option (Value→Sem Unit)} {p:Pos} {Q:Value→Shared→Prop}
    {body:Addr→Value→Value→Value→(Shared→Prop)→Shared→Prop}
    (he:e=.ListComp elt (⟨target,iter,ifs,0⟩::rest) scope pos) (hh:A.handled=none) (hfs:∀ x,foldedSetIterable iter env x=pure x) (hS:Sc sc env ow) (hc:compSc sc scope=true) (I:Inv prog w cls base Z αs μ s.heap) (L:Loc prog w base env ρ Z αs s.heap)
    (hit:SE prog w cls base lo A env (eval iter env) ρ μ μ₁ vi) (hv:iterV lo μ₁ vi=some items) (hf:flatM f items μ₁=some (vs,μ')) (hlen:items.length≤sizeLine→vs.length≤sizeLine)
    (hturn:∀ C it acc R (s:Shared),wpAny (model prog w) A (pyNext it) (fun r s₁=>match r with
      | none=>R (.ok .next) s₁
      | some v=>wpAny (model prog w) A (letOwnedTupleGo target it v) (fun _ s₂=>body C it acc v (fun s₄=>codeAny (model prog w) A (.compLoop e 0 it acc (cenvOf scope C env)) R s₄) s₂) FF s₁) FF s→codeAny (model prog w) A (.compLoop e 0 it acc (cenvOf scope C env)) R s)
    (hbody:∀ C D it (u:Value) (x:V) ys μ μ₁ Z αs (s:Shared) vs (P:Shared→Prop),Sc scope (cenvOf scope C env) (ownOf scope C)→D ∉ fr (cenvOf scope C env)→(∀ a ∈ ownOf scope C,a ∈ fr (cenvOf scope C env))→f x μ=some (ys,μ₁)→Rep prog w Z αs u x→Inv prog w cls base Z αs μ s.heap→Loc prog w base (cenvOf scope C env) (hideR (hideOf scope) ρ) Z αs s.heap→accL prog w base D Z αs s.heap vs→(vs++ys).length≤sizeLine→
      (∀ Z' αs' s',StepW (D::ownOf scope C) lo Z αs s Z' αs' s'→Inv prog w cls base Z' αs' μ₁ s'.heap→Loc prog w base (cenvOf scope C env) (hideR (hideOf scope) ρ) Z' αs' s'.heap→accL prog w base D Z' αs' s'.heap (vs++ys)→P s')→body C it (.ref D) u P s)
    (hQ:∀ C D s',CompEnd prog w cls base lo env ρ Z αs s μ' (.lst vs) C D s'→compPost (model prog w) A FF use Q D C (.ok .next) s') :
    wpAny (model prog w) A (comprehension e scope env p (newList []) false (eval iter env) use) Q FF s:=by
  subst he
  have hp:=comp_parts hc
  refine wpAny_comprehension_free rfl hfs (comp_frame hS hc I L rfl).clo hp.1 (fun x hx hl=>by rw [← hl];exact lookup_of_mem hp.2 hx) ?_
  refine hit.use I L fun x Z₁ αs₁ s₁ S₁ I₁ L₁ R₁=>?_
  refine wpAny_mono (pyIter_ok hh I₁ R₁ hv) (fun it s₂ o=>?_) fun _ _ e=>e
  obtain ⟨J,St,P,fp,oJ,hJ,hK,hJ1,hJ2,hst,hI,hsz⟩:=o
  obtain ⟨h₂,tk₂,hs₂,hk₂⟩:=hK
  subst hJ hs₂
  refine wpAny_newObj_type (newEnv_comp fun cenv hce hcl=>?_)
  dsimp only at hce hcl ⊢
  rw [hce,hcl]
  have K:=comp_loop (tk₂:=tk₂) (o₀:={ cls:=.type "list", data:=.seq ([]:List Value).toArray }) (Acc:=fun D=>accL prog w base D) (Pre:=fun l=>l.length≤sizeLine) (fun a b h=>Nat.le_trans (Nat.le_add_right _ _) (List.length_append ▸ h)) (accL_ok _) (fun Z αs h D o ho=>⟨o,[],0,ho,by decide,.nil⟩)
    (fun Z αs h D a=>by obtain ⟨oD,us,c,hD',hz',r'⟩:=a;exact ⟨_,hD',rep_fast_lst hz' r'⟩) hS hc S₁ I₁ L₁ hk₂ hJ1 hJ2 hst hI rfl rfl rfl hf (hlen hsz) (fun s h=>hturn _ (.ref J) (.ref h₂.objs.size) _ s h)
    (fun hS hD how u x ys μ μ₁ Z αs s vs P h1 h2 h3 h4 h5 h6 h7=>hbody _ h₂.objs.size (.ref J) u x ys μ μ₁ Z αs s vs P hS hD how h1 h2 h3 h4 h5 h6 h7) (hQ _ _)
  exact codeAny_compStart_list K.1 (ff_noted (K.2 _ _ K.1))
end
end Mine
namespace Mine
open PySem PySem.W PySem.Calls PyProof.Rows
section
variable {lo:Nat} {prog:Program} {w:World} {cls:Str→Option Addr} {base:Heap} {Z Z' Z'':Addr→Obj→Prop} {αs αs' αs'':List Addr} {s s' s'':Shared} {μ μ' μ₁ μ₂:M} {A:Around} {env:Env} {ρ ρ':Rho} {n:Nat} {K:Frag} {T:Tab} {cb:Calls}
theorem updAll_keep {x:Str} {ps:List (Str×V)} (h:x ∉ ps.map (·.1)):updAll ρ ps x=ρ x:=updAll_not h
theorem bindT_keep {t:Tgt} {v:V} (hb:bindT ρ v t=some ρ') {x:Str} (h:x ∉ tgtNs t):ρ' x=ρ x:=by
  cases t with
  | one y=>
    cases hb
    exact if_neg fun e=>h (by rw [e];exact .head _)
  | many xs=>
    refine bnd hb fun vs _ hb=>ifd hb fun _ hb=>?_
    rw [← hb]
    refine updAll_not (ps:=xs.zip _) fun hm=>h ?_
    obtain ⟨p,h1,h2⟩:=List.mem_map.mp hm
    rw [← h2]
    exact (List.of_mem_zip h1).1
theorem compT_own {sc:Scope} {e:Expr} {t:Tgt} (ht:compT sc e=some t):∀ x ∈ tgtNs t,isOwn sc x=true:=by
  unfold compT at ht
  cases h1:nameOf e with
  | some y=>
    rw [h1] at ht
    refine ifd ht fun ho ht x hx=>?_
    rw [← ht] at hx
    rw [List.mem_singleton.mp hx];exact ho
  | none=>
    rw [h1] at ht
    refine bnd ht fun es _ ht=>bnd ht fun xs hx ht=>ifd ht fun _ ht=>?_
    rw [← ht]
    exact tgtNames_own hx
theorem own_hide {csc:Scope} {x:Str} (h:isOwn csc x=true):x ∈ hideOf csc:=by
  unfold isOwn at h
  rw [Bool.and_eq_true] at h
  obtain ⟨-,h⟩:=h
  split at h
  · rename_i h1;exact List.mem_map.mpr ⟨_,List.mem_filter.mpr ⟨mem_of_lookup h1,rfl⟩,rfl⟩
  · rename_i h1;exact List.mem_map.mpr ⟨_,List.mem_filter.mpr ⟨mem_of_lookup h1,rfl⟩,rfl⟩
  · cases h
theorem hide_keep {csc:Scope} {e:Expr} {t:Tgt} {v:V} (ht:compT csc e=some t) (hb:bindT (hideR (hideOf csc) ρ) v t=some ρ'):∀ x v,hideR (hideOf csc) ρ x=some v→ρ' x=some v:=by
  intro x v hx
  rw [bindT_keep hb fun hm=>?_]
  · exact hx
  · unfold hideR at hx
    rw [if_pos (own_hide (compT_own ht x hm))] at hx
    cases hx
noncomputable def PartOK (prog:Program) (w:World) (cls:Str→Option Addr) (base:Heap) (lo:Nat) (A:Around) (T:Tab) (cb:Calls) (sc:Scope) (e:Expr) (c:C):Prop:=
  ∀ env ow ρ μ v μ',Sc sc env ow→ev T cb lo c ρ μ=some (v,μ')→SE prog w cls base lo A env (eval e env) ρ μ μ' v
noncomputable def TestsOK (prog:Program) (w:World) (cls:Str→Option Addr) (base:Heap) (lo:Nat) (A:Around) (T:Tab) (cb:Calls) (sc:Scope) (es:List Expr) (cs:List C):Prop:=
  ∀ env ow ρ μ b μ',Sc sc env ow→evAnd T cb lo cs ρ μ=some (b,μ')→SAnd prog w cls base lo A env ρ es μ μ' b
noncomputable def fOne (T:Tab) (cb:Calls) (lo:Nat) (celt:C) (t:Tgt) (cifs:List C) (ρ:Rho) (x:V) (μ:M):Option (List V×M):=(bindT ρ x t).bind fun ρ'=>(evAnd T cb lo cifs ρ' μ).bind fun c=>bif c.1 then (ev T cb lo celt ρ' c.2).map fun p=>([p.1],p.2) else some ([],c.2)
theorem fOne_len {celt:C} {t:Tgt} {cifs:List C} {x:V} {ys:List V} (h:fOne T cb lo celt t cifs ρ x μ=some (ys,μ')):ys.length≤1:=
  bnd h fun ρ' _ h=>bnd h fun c _ h=>by
    cases hc:c.1 with
    | true=>rw [hc] at h;exact mpd h fun p _ e=>by cases e;exact Nat.le_refl _
    | false=>rw [hc] at h;cases h;exact Nat.zero_le _
theorem flatM_len {f:V→M→Option (List V×M)} (hf:∀ x μ ys μ',f x μ=some (ys,μ')→ys.length≤1):∀ {xs:List V} {μ μ':M} {ys:List V},flatM f xs μ=some (ys,μ')→ys.length≤xs.length
  | [],_,_,_,e=>by cases e;exact Nat.le_refl _
  | x::xs,μ,μ',ys,e=>by
    refine flatM_cons e fun a b μ₁ h1 h2 e=>?_
    rw [← e,List.length_append,List.length_cons,Nat.add_comm]
    exact Nat.add_le_add (flatM_len hf h2) (hf _ _ _ _ h1)
theorem one_item {scope:Scope} {ow:List Addr} {D:Addr} {target elt:Expr} {ifs:List Expr} {t:Tgt} {celt:C} {cifs:List C} {u:Value} {x:V} {ys vs:List V} {P:Shared→Prop} (hh:A.handled=none) (hS:Sc scope env ow)
    (ht:compT scope target=some t) (hE:PartOK prog w cls base lo A T cb scope elt celt) (hT:TestsOK prog w cls base lo A T cb scope ifs cifs) (hkeep:∀ ρ',bindT ρ x t=some ρ'→∀ y v,ρ y=some v→ρ' y=some v) (hD:D ∉ fr env)
    (hf:fOne T cb lo celt t cifs ρ x μ=some (ys,μ₁)) (R:Rep prog w Z αs u x) (I:Inv prog w cls base Z αs μ s.heap) (L:Loc prog w base env ρ Z αs s.heap) (a:accL prog w base D Z αs s.heap vs) (hlen:(vs++ys).length≤sizeLine) (hDo:D ∉ ow)
    (k:∀ Z' αs' s',StepW (D::ow) lo Z αs s Z' αs' s'→Inv prog w cls base Z' αs' μ₁ s'.heap→Loc prog w base env ρ Z' αs' s'.heap→accL prog w base D Z' αs' s'.heap (vs++ys)→P s') :
    wpAny (model prog w) A (assign target env u) (fun _ s₃=>
          wpAny (model prog w) A (forIn ifs true fun c r=>if r=true then do let ok ← isTrue c env (eval c env);pure (ForInStep.yield ok) else pure (ForInStep.yield r)) (fun ok s₄=>
            if ok=true then wpAny (model prog w) A (eval elt env) (fun x s₅=>wpAny (model prog w) A (call (.builtin "list.append") [.ref D,x]) (fun _ s₆=>P s₆) FF s₅) FF s₄
            else P s₄) FF s₃) FF s:=by
  have AK:=accL_ok (lo:=lo) (base:=base) (prog:=prog) (w:=w) D
  refine bnd hf fun ρ' hb hf=>bnd hf fun c he hf=>?_
  obtain ⟨b,μ₂⟩:=c
  have hkp:=hkeep ρ' hb
  refine wpAny_mono (bind_ok (lo:=lo) hS hh ht hb I L R) (fun _ s₃ o=>?_) fun _ _ e=>e
  obtain ⟨Z₁,αs₁,S₁,I₁,L₁⟩:=o
  have a₁:=AK.step _ _ _ _ _ _ _ _ a S₁ hDo
  refine ((hT _ _ _ _ _ _ hS he).tests).use I₁ L₁ fun Z₂ αs₂ s₄ S₂ I₂ L₂=>?_
  have SD:=(S₁.mono fun a h=>.tail D h).trans S₂.toW
  have a₂:=AK.step _ _ _ _ _ _ _ _ a₁ (S₂.toW (wr:=[])) fun h=>nomatch h
  cases b with
  | true=>
    refine mpd hf fun p hv e=>?_
    obtain ⟨v,μ₃⟩:=p
    cases e
    rw [if_pos rfl]
    refine (hE _ _ _ _ _ _ hS hv).use I₂ L₂ fun y Z₃ αs₃ s₅ S₃ I₃ L₃ R₃=>?_
    have a₃:=AK.step _ _ _ _ _ _ _ _ a₂ (S₃.toW (wr:=[])) fun h=>nomatch h
    refine accL_append (lo:=lo) (ow:=ow) I₃ a₃ R₃ hlen fun s₆ S₅ I₅ hk a₅=>?_
    exact k _ _ _ ((SD.trans S₃.toW).trans S₅) I₅ (Loc.weaken (L₃.other [D] (fun b o hb e=>hk b o (fun e'=>hb (by rw [e'];exact .head _)) e) fun a ha hm=>hD (List.mem_singleton.mp hm ▸ ha)) hkp) a₅
  | false=>
    cases hf
    rw [if_neg Bool.false_ne_true]
    exact k _ _ _ SD I₂ (L₂.weaken hkp) (by rw [List.append_nil];exact a₂)
end
end Mine
namespace Mine
open PySem PySem.W PySem.Calls PyProof.Rows
section
variable {lo:Nat} {prog:Program} {w:World} {cls:Str→Option Addr} {base:Heap} {Z Z' Z'':Addr→Obj→Prop} {αs αs' αs'':List Addr} {s s' s'':Shared} {μ μ' μ₁ μ₂:M} {A:Around} {env:Env} {ρ ρ':Rho} {n:Nat} {K:Frag} {T:Tab} {cb:Calls}
noncomputable def bodyOne (prog:Program) (w:World) (A:Around) (scope:Scope) (env:Env) (target elt:Expr) (ifs:List Expr) (C:Addr) (it acc v:Value) (P:Shared→Prop) (s:Shared):Prop:=
  wpAny (model prog w) A (assign target (cenvOf scope C env) v) (fun _ s₃=>
          wpAny (model prog w) A (forIn ifs true fun c r=>if r=true then do let ok ← isTrue c (cenvOf scope C env) (eval c (cenvOf scope C env));pure (ForInStep.yield ok) else pure (ForInStep.yield r)) (fun ok s₄=>
            if ok=true then wpAny (model prog w) A (eval elt (cenvOf scope C env)) (fun x s₅=>wpAny (model prog w) A (call (.builtin "list.append") [acc,x]) (fun _ s₆=>P s₆) FF s₅) FF s₄
            else P s₄) FF s₃) FF s
theorem fr_own {scope:Scope} {C D:Addr} {env:Env} (how:∀ a ∈ ownOf scope C,a ∈ fr (cenvOf scope C env)) (hD:D ∉ fr (cenvOf scope C env)):D ∉ ownOf scope C:=fun h=>hD (how _ h)
theorem comp1 {target iter elt:Expr} {ifs:List Expr} {scope sc:Scope} {pos:Pos} {ow:List Addr} {vi:V} {items vs:List V} {use:Option (Value→Sem Unit)} {p:Pos} {Q:Value→Shared→Prop} {t:Tgt} {celt:C} {cifs:List C}
    (hh:A.handled=none) (hfs:∀ x,foldedSetIterable iter env x=pure x) (hS:Sc sc env ow) (hc:compSc sc scope=true) (I:Inv prog w cls base Z αs μ s.heap) (L:Loc prog w base env ρ Z αs s.heap)
    (hit:SE prog w cls base lo A env (eval iter env) ρ μ μ₁ vi) (hv:iterV lo μ₁ vi=some items) (hf:flatM (fOne T cb lo celt t cifs (hideR (hideOf scope) ρ)) items μ₁=some (vs,μ'))
    (ht:compT scope target=some t) (hE:PartOK prog w cls base lo A T cb scope elt celt) (hT:TestsOK prog w cls base lo A T cb scope ifs cifs)
    (hQ:∀ C D s',CompEnd prog w cls base lo env ρ Z αs s μ' (.lst vs) C D s'→compPost (model prog w) A FF use Q D C (.ok .next) s') :
    wpAny (model prog w) A (comprehension (.ListComp elt [⟨target,iter,ifs,0⟩] scope pos) scope env p (newList []) false (eval iter env) use) Q FF s:=by
  refine comp_block (f:=fOne T cb lo celt t cifs (hideR (hideOf scope) ρ)) (body:=bodyOne prog w A scope env target elt ifs) rfl hh hfs hS hc I L hit hv hf (fun h=>Nat.le_trans (flatM_len (fun _ _ _ _=>fOne_len) hf) h) ?_ ?_ hQ
  · intro C it acc R s h
    exact turn_list1 h
  · intro C D it u x ys μ μ₁ Z αs s vs P hS' hD how h1 h2 h3 h4 h5 h6 k
    exact one_item hh hS' ht hE hT (fun ρ' hb=>hide_keep ht hb) hD h1 h2 h3 h4 h5 h6 (fr_own how hD) k
noncomputable def fTwo (T:Tab) (cb:Calls) (lo:Nat) (celt:C) (t t':Tgt) (cit':C) (cifs:List C) (ρ:Rho) (x:V) (μ:M):Option (List V×M):=(bindT ρ x t).bind fun ρ'=>(ev T cb lo cit' ρ' μ).bind fun p'=>(iterV lo p'.2 p'.1).bind fun items'=>flatM (fOne T cb lo celt t' cifs ρ') items' p'.2
noncomputable def bodyTwo (prog:Program) (w:World) (A:Around) (scope:Scope) (env:Env) (e:Expr) (target iter':Expr) (C:Addr) (it acc v:Value) (P:Shared→Prop) (s:Shared):Prop:=
  wpAny (model prog w) A (assign target (cenvOf scope C env) v) (fun _ s₃=>
          wpAny (model prog w) A (eval iter' (cenvOf scope C env)) (fun x s₄=>wpAny (model prog w) A (pyIter x) (fun it' s₅=>
            codeAny (model prog w) A (.compStart e 1 it' acc (cenvOf scope C env)) (fun r s₆=>r=.ok .next∧P s₆) s₅) FF s₄) FF s₃) FF s
theorem comp2 {target iter target' iter' elt:Expr} {ifs:List Expr} {scope sc:Scope} {pos:Pos} {ow:List Addr} {vi:V} {items vs:List V} {use:Option (Value→Sem Unit)} {p:Pos} {Q:Value→Shared→Prop} {t t':Tgt} {celt cit':C} {cifs:List C}
    (hh:A.handled=none) (hfs:∀ x,foldedSetIterable iter env x=pure x) (hfs':∀ env x,foldedSetIterable iter' env x=pure x) (hS:Sc sc env ow) (hc:compSc sc scope=true) (I:Inv prog w cls base Z αs μ s.heap) (L:Loc prog w base env ρ Z αs s.heap)
    (hit:SE prog w cls base lo A env (eval iter env) ρ μ μ₁ vi) (hv:iterV lo μ₁ vi=some items) (hf:flatM (fTwo T cb lo celt t t' cit' cifs (hideR (hideOf scope) ρ)) items μ₁=some (vs,μ')) (hlen:vs.length≤sizeLim)
    (ht:compT scope target=some t) (ht':compT scope target'=some t') (hap:apartT t t'=true) (hE:PartOK prog w cls base lo A T cb scope elt celt) (hI':PartOK prog w cls base lo A T cb scope iter' cit') (hT:TestsOK prog w cls base lo A T cb scope ifs cifs)
    (hQ:∀ C D s',CompEnd prog w cls base lo env ρ Z αs s μ' (.lst vs) C D s'→compPost (model prog w) A FF use Q D C (.ok .next) s') :
    wpAny (model prog w) A (comprehension (.ListComp elt [⟨target,iter,[],0⟩,⟨target',iter',ifs,0⟩] scope pos) scope env p (newList []) false (eval iter env) use) Q FF s:=by
  refine comp_block (f:=fTwo T cb lo celt t t' cit' cifs (hideR (hideOf scope) ρ)) (body:=bodyTwo prog w A scope env (.ListComp elt [⟨target,iter,[],0⟩,⟨target',iter',ifs,0⟩] scope pos) target iter') rfl hh hfs hS hc I L hit hv hf (fun _=>Nat.le_trans hlen (by decide)) ?_ ?_ hQ
  · intro C it acc R s h
    exact turn_two (fun x=>hfs' _ x) h
  · intro C D it u x ys μ μ₁ Z αs s vs P hS' hD how h1 h2 h3 h4 h5 h6 k
    refine bnd h1 fun ρ₁ hb h1=>bnd h1 fun p' he h1=>bnd h1 fun items' hi' h1=>?_
    obtain ⟨vi',μ₂⟩:=p'
    have hDo:=fr_own how hD
    refine wpAny_mono (bind_ok (lo:=lo) hS' hh ht hb h3 h4 h2) (fun _ s₃ o=>?_) fun _ _ e=>e
    obtain ⟨Z₁,αs₁,S₁,I₁,L₁⟩:=o
    have a₁:=(accL_ok (lo:=lo) (base:=base) (prog:=prog) (w:=w) D).step _ _ _ _ _ _ _ _ h5 S₁ hDo
    refine (hI' _ _ _ _ _ _ hS' he).use I₁ L₁ fun y Z₂ αs₂ s₄ S₂ I₂ L₂ R₂=>?_
    have a₂:=(accL_ok (lo:=lo) (base:=base) (prog:=prog) (w:=w) D).step _ _ _ _ _ _ _ _ a₁ (S₂.toW (wr:=[])) fun h=>nomatch h
    refine wpAny_mono (pyIter_ok hh I₂ R₂ hi') (fun it' s₅ o=>?_) fun _ _ e=>e
    obtain ⟨J,St,Pp,fp,oJ,hJ,hK,hJ1,hJ2,hst,hI,hsz⟩:=o
    subst hJ
    have S₃:Step lo Z₂ αs₂ s₄ Z₂ αs₂ s₅:=.of_keeps hK
    have S12:StepW (D::ownOf scope C) lo Z αs s Z₂ αs₂ s₄:=(S₁.mono fun a h=>.tail _ h).trans S₂.toW
    obtain ⟨h₅,tk₅,rfl,hk₅⟩:=hK
    have I₃:Inv prog w cls base Z₂ αs₂ μ₂ h₅:=I₂.keeps hk₅
    have L₃:Loc prog w base (cenvOf scope C env) ρ₁ Z₂ αs₂ h₅:=L₂.step S₃
    have a₃:=(accL_ok (lo:=lo) (base:=base) (prog:=prog) (w:=w) D).other _ _ _ h₅ _ a₂ fun o q=>hk₅ _ _ q
    have ItJ:ItAt prog w base A lo Z₂ αs₂ items' J St Pp (J::fp):=⟨hI.walks.mono_fp fun b hb=>.tail _ hb,hI.reps,hI.apart,fun b hb=>(List.mem_cons.mp hb).elim .inl (hI.fp b),hI.go⟩
    have st₄:stOf prog w base A lo items' J St Pp (J::fp) 0 Z₂ αs₂ h₅:=⟨ItJ,hst,.head _⟩
    have hJfr:J ∉ fr (cenvOf scope C env):=fun ha=>by
      obtain ⟨o,q⟩:=(L₂.off ha).live;rw [hJ1] at q;cases q
    have hJD:J≠D:=fun e=>by
      obtain ⟨⟨_,_,_,o,q⟩,_⟩:=a₂
      rw [← e,hJ1] at q;cases q
    have loop:codeAny (model prog w) A (.compLoop (.ListComp elt [⟨target,iter,[],0⟩,⟨target',iter',ifs,0⟩] scope pos) 1 (.ref J) (.ref D) (cenvOf scope C env)) (fun r s₆=>r=.ok .next∧P s₆) { s₄ with heap:=h₅,toks:=tk₅ }:=by
      refine comp_items (ow:=ownOf scope C) (Z₀:=Z₂) (αs₀:=αs₂) (s₀:=s₄) (Acc:=accL prog w base D) (Pre:=fun l=>l.length≤sizeLine) (f:=fOne T cb lo celt t' cifs ρ₁) (body:=bodyOne prog w A scope env target' elt ifs C (.ref J) (.ref D)) (fun a b h=>Nat.le_trans (Nat.le_add_right _ _) (List.length_append ▸ h)) (dr_of_iter (target:=target') (St:=St) (P:=Pp) (fp:=J::fp)) (accL_ok _) (fun s h=>turn_inner h)
        (fun u x ys μ μ₁ Z αs s vs P h1 h2 h3 h4 h5 h6 h7=>one_item hh hS' ht' hE hT (fun ρ' hb' y v hy=>?_) hD h1 h2 h3 h4 h5 h6 hDo h7)
        how (fun a ha=>by rw [List.mem_singleton.mp ha];exact ⟨hJfr,hJD⟩) (fun a ha=>by rw [List.mem_singleton.mp ha];exact hJ1)
        items'.length 0 Z₂ αs₂ _ μ₂ μ₁ vs ys (Nat.sub_zero _) (Nat.zero_le _) h1 h6 st₄ I₃ L₃ a₃ S₃.toW ?_
      · by_cases hm:y ∈ tgtNs t'
        · have hy1:y ∉ tgtNs t:=fun h=>by
            simp only [apartT,List.all_eq_true,Bool.not_eq_true',List.contains_eq_mem,decide_eq_false_iff_not] at hap
            exact hap y h hm
          rw [bindT_keep hb hy1] at hy
          unfold hideR at hy
          rw [if_pos (own_hide (compT_own ht' y hm))] at hy
          cases hy
        · rw [bindT_keep hb' hm];exact hy
      · intro Z' αs' s' S' I' L' a'
        exact ⟨rfl,k Z' αs' s' (S12.trans S') I' (L'.weaken (hide_keep ht hb)) a'⟩
    exact start_inner loop ((dr_of_iter (cls:=cls) (target:=target') (St:=St) (P:=Pp) (fp:=J::fp)).self 0 Z₂ αs₂ _ _ _ st₄ loop)
theorem compEnd_value {use:Option (Value→Sem Unit)} {vs:List V} {C:Addr} {D:Value} (h:CompEnd prog w cls base lo env ρ Z αs s μ' (.lst vs) C D s') :
    compPost (model prog w) A FF none (OutE prog w cls base lo Z αs s μ' (.lst vs)) D C (.ok .next) s':=by
  obtain ⟨Z',αs',m,S,I,L,R,hd,hC,hn⟩:=h
  refine ⟨m,hn,fun h' hs=>⟨Z',αs',S.last hs hd,?_,R⟩⟩
  exact I.other hC fun b o hb e=>hs.extBut b o hb e
theorem compEnd_store {vl:V} {C:Addr} {D:Value} {y:Str} {py:Pos} {sc:Scope} {ow:List Addr} (hS:Sc sc env ow) (hy:isOwn sc y=true) (L₀:Loc prog w base env ρ Z αs s.heap) (h:CompEnd prog w cls base lo env ρ Z αs s μ' vl C D s') :
    compPost (model prog w) A FF (some (assign (.Name y py) env)) (fun _ s'=>OutS prog w cls base lo env ow Z αs s (upd ρ y vl) μ' s') D C (.ok .next) s':=by
  obtain ⟨Z',αs',m,S,I,L,R,hd,hC,hn⟩:=h
  show wpAny _ A (assign (.Name y py) env D) _ _ _
  have hCf:C ∉ fr env:=fun hm=>by obtain ⟨o,q⟩:=(L₀.off hm).live;rw [hd] at q;cases q
  have hst:=hS.own y hy
  refine PySem.wpAny_assign_Name (wpAny_mono (store_ok (lo:=lo) (ow:=ow.filter fun a=>a≠C) I L ?_ R) (fun _ s₂ o=>?_) fun _ _ e=>e)
  · obtain ⟨hyc,hst⟩:=hst
    refine ⟨hyc,?_⟩
    rcases hst with ⟨h1,h2⟩ | ⟨c,h1,h2,h3⟩
    · exact .inl ⟨List.mem_filter.mpr ⟨h1,by simp only [ne_eq,decide_eq_true_eq];exact fun e=>hCf (e ▸ .head _)⟩,h2⟩
    · exact .inr ⟨c,List.mem_filter.mpr ⟨h1,by simp only [ne_eq,decide_eq_true_eq];exact fun e=>hCf (e ▸ .tail _ (vcells_mem hyc h3))⟩,h2,h3⟩
  · obtain ⟨Z₂,αs₂,S₂,I₂,L₂⟩:=o
    have hC2:=hC.step S₂
    refine ⟨m,hn.at' fun o e=>S₂.keep _ _ (fun hm=>hC.na (List.mem_of_mem_drop hm)) (fun hm=>by simpa using (List.mem_filter.mp hm).2) e,fun h' hs=>⟨Z₂,αs₂,?_,I₂.other hC2 fun b o hb e=>hs.extBut b o hb e,L₂.other [C] (fun b o hb e=>hs.extBut b o (fun e'=>hb (by rw [e'];exact .head _)) e) fun a ha hm=>hCf (List.mem_singleton.mp hm ▸ ha)⟩⟩
    have x:=(S.toW (wr:=ow)).trans (S₂.mono fun a h=>(List.mem_filter.mp h).1)
    exact x.last (tk:=s₂.toks) (wr':=[C]) (fun b o hb e=>hs.extBut b o (fun e'=>hb (by rw [e'];exact .head _)) e) fun a ha=>by rw [List.mem_singleton.mp ha];exact hd
end
end Mine
namespace Mine
open PySem PySem.W PySem.Calls PyProof.Rows
noncomputable def mixIs:Int ⊕ Str→Value→Bool
  | .inl i,v=>Value.isInt i v
  | .inr x,v=>Value.isStrOf x v
noncomputable def mixKind (prog:Program) (w:World):PySem.KeyKind prog w (Int ⊕ Str) where
  is:=mixIs
  hash:=fun k=>match k with
    | .inl i=>(intKind prog w).hash i
    | .inr x=>(PySem.strKind prog w).hash x
  inj:=fun v a b h1 h2=>by
    cases a <;> cases b <;> simp only [mixIs] at h1 h2
    · rw [(intKind prog w).inj v _ _ h1 h2]
    · obtain ⟨t,rfl⟩:=Value.isInt_shape h1;cases h2
    · obtain ⟨t,rfl⟩:=Value.isInt_shape h2;cases h1
    · rw [(PySem.strKind prog w).inj v _ _ h1 h2]
  byValue:=fun k v h=>by
    cases k with
    | inl i=>exact (intKind prog w).byValue i v h
    | inr x=>exact (PySem.strKind prog w).byValue x v h
  pyHash:=fun {A E s k v Q} h hQ=>by
    cases k with
    | inl i=>exact (intKind prog w).pyHash h hQ
    | inr x=>exact (PySem.strKind prog w).pyHash h hQ
  eqBool:=fun {A E s a b u v Q} h1 h2 hQ=>by
    cases a <;> cases b <;> simp only [mixIs] at h1 h2
    · refine (intKind prog w).eqBool h1 h2 ?_
      simpa using hQ
    · obtain ⟨t,rfl⟩:=Value.isInt_shape h1
      obtain ⟨t',rfl⟩:=Value.isStrOf_shape h2
      refine PySem.SeqAt.EqAt.int_str _ _ _ _ _ _ _ _ ?_
      simpa using hQ
    · obtain ⟨t,rfl⟩:=Value.isStrOf_shape h1
      obtain ⟨t',rfl⟩:=Value.isInt_shape h2
      refine PySem.SeqAt.EqAt.str_int _ _ _ _ _ _ _ _ ?_
      simpa using hQ
    · refine (PySem.strKind prog w).eqBool h1 h2 ?_
      simpa using hQ
  «strs»:=fun k x t v h=>by
    cases k with
    | inl i=>cases h
    | inr y=>exact (PySem.strKind prog w).«strs» y x t v h
end Mine
namespace Mine
open PySem PySem.W PySem.Calls PyProof.Rows
section
variable {lo:Nat} {prog:Program} {w:World} {cls:Str→Option Addr} {base:Heap} {Z Z' Z'':Addr→Obj→Prop} {αs αs' αs'':List Addr} {s s' s'':Shared} {μ μ' μ₁ μ₂:M} {A:Around} {env:Env} {ρ ρ':Rho} {n:Nat} {K:Frag} {T:Tab} {cb:Calls}
theorem comp_dict {target iter kx vx:Expr} {scope sc:Scope} {pos:Pos} {ow:List Addr} {vi v:V} {items vs:List V} {f:V→M→Option (List V×M)} {use:Option (Value→Sem Unit)} {p:Pos} {Q:Value→Shared→Prop} {Acc:Addr→AccT} {Pre:List V→Prop}
    {body:Addr→Addr→Value→(Shared→Prop)→Shared→Prop}
    (hpre:∀ a b,Pre (a++b)→Pre a) (AK:∀ D,AccOK base lo D (Acc D)) (hinit:∀ Z αs h D,Off base Z αs h D→h.get? D=some { cls:=.type "dict", data:=.dict #[] }→Acc D Z αs h [])
    (hfin:∀ Z αs h D,Pre vs→Acc D Z αs h vs→∃ o,h.get? D=some o∧Rep prog w (zadd Z D o) αs (.ref D) v)
    (hh:A.handled=none) (hfs:∀ x,foldedSetIterable iter env x=pure x) (hS:Sc sc env ow) (hc:compSc sc scope=true) (I:Inv prog w cls base Z αs μ s.heap) (L:Loc prog w base env ρ Z αs s.heap)
    (hit:SE prog w cls base lo A env (eval iter env) ρ μ μ₁ vi) (hv:iterV lo μ₁ vi=some items) (hf:flatM f items μ₁=some (vs,μ')) (hP:items.length≤sizeLine→Pre vs)
    (hturn:∀ C it D R (s:Shared),wpAny (model prog w) A (pyNext it) (fun r s₁=>match r with
      | none=>R (.ok .next) s₁
      | some v=>wpAny (model prog w) A (letOwnedTupleGo target it v) (fun _ s₂=>body C D v (fun s₄=>codeAny (model prog w) A (.compLoop (.DictComp kx vx [⟨target,iter,[],0⟩] scope pos) 0 it (.ref D) (cenvOf scope C env)) R s₄) s₂) FF s₁) FF s→codeAny (model prog w) A (.compLoop (.DictComp kx vx [⟨target,iter,[],0⟩] scope pos) 0 it (.ref D) (cenvOf scope C env)) R s)
    (hbody:∀ C D (u:Value) (x:V) ys μ μ₁ Z αs (s:Shared) vs (P:Shared→Prop),Sc scope (cenvOf scope C env) (ownOf scope C)→D ∉ fr (cenvOf scope C env)→(∀ a ∈ ownOf scope C,a ∈ fr (cenvOf scope C env))→f x μ=some (ys,μ₁)→Rep prog w Z αs u x→Inv prog w cls base Z αs μ s.heap→Loc prog w base (cenvOf scope C env) (hideR (hideOf scope) ρ) Z αs s.heap→Acc D Z αs s.heap vs→Pre (vs++ys)→
      (∀ Z' αs' s',StepW (D::ownOf scope C) lo Z αs s Z' αs' s'→Inv prog w cls base Z' αs' μ₁ s'.heap→Loc prog w base (cenvOf scope C env) (hideR (hideOf scope) ρ) Z' αs' s'.heap→Acc D Z' αs' s'.heap (vs++ys)→P s')→body C D u P s)
    (hQ:∀ C D s',CompEnd prog w cls base lo env ρ Z αs s μ' v C D s'→compPost (model prog w) A FF use Q D C (.ok .next) s') :
    wpAny (model prog w) A (comprehension (.DictComp kx vx [⟨target,iter,[],0⟩] scope pos) scope env p newDict false (eval iter env) use) Q FF s:=by
  have hp:=comp_parts hc
  refine wpAny_comprehension_free rfl hfs (comp_frame hS hc I L rfl).clo hp.1 (fun x hx hl=>by rw [← hl];exact lookup_of_mem hp.2 hx) ?_
  refine hit.use I L fun x Z₁ αs₁ s₁ S₁ I₁ L₁ R₁=>?_
  refine wpAny_mono (pyIter_ok hh I₁ R₁ hv) (fun it s₂ o=>?_) fun _ _ e=>e
  obtain ⟨J,St,P,fp,oJ,hJ,hK,hJ1,hJ2,hst,hI,hsz⟩:=o
  obtain ⟨h₂,tk₂,hs₂,hk₂⟩:=hK
  subst hJ hs₂
  refine wpAny_newObj_type (newEnv_comp fun cenv hce hcl=>?_)
  dsimp only at hce hcl ⊢
  rw [hce,hcl]
  have K:=comp_loop (tk₂:=tk₂) (o₀:={ cls:=.type "dict", data:=.dict #[] }) (Acc:=Acc) hpre (AK _) hinit (fun Z αs h D a=>hfin Z αs h D (hP hsz) a) hS hc S₁ I₁ L₁ hk₂ hJ1 hJ2 hst hI rfl rfl rfl hf (hP hsz) (fun s h=>hturn _ (.ref J) h₂.objs.size _ s h)
    (fun hS hD how u x ys μ μ₁ Z αs s vs P h1 h2 h3 h4 h5 h6 h7=>hbody _ h₂.objs.size u x ys μ μ₁ Z αs s vs P hS hD how h1 h2 h3 h4 h5 h6 h7) (hQ _ _)
  exact codeAny_compStart_dict K.1 (ff_noted (K.2 _ _ K.1))
theorem compEnd_value' {v:V} {C:Addr} {D:Value} (h:CompEnd prog w cls base lo env ρ Z αs s μ' v C D s') :
    compPost (model prog w) A FF none (OutE prog w cls base lo Z αs s μ' v) D C (.ok .next) s':=by
  obtain ⟨Z',αs',m,S,I,L,R,hd,hC,hn⟩:=h
  exact ⟨m,hn,fun h' hs=>⟨Z',αs',S.last hs hd,I.other hC fun b o hb e=>hs.extBut b o hb e,R⟩⟩
theorem firsts_snoc {α:Type} [DecidableEq α] {k:α}:∀ {l acc:List α},firsts acc (l++[k])=if k ∈ firsts acc l then firsts acc l else firsts acc l++[k]
  | [],acc=>rfl
  | x::l,acc=>by
    show firsts acc (x::(l++[k]))=_
    unfold firsts
    split
    · exact firsts_snoc
    · exact firsts_snoc
theorem intsOf_snoc {v:V} {G:Prop}:∀ {l:List V} {is:List Int},intsOf (l++[v])=some is→(∀ js i,intsOf l=some js→v=.int i→is=js++[i]→G)→G:=by
  intro l
  induction l with
  | nil=>
    refine fun h=>bnd h fun i h1 h=>?_
    cases h
    revert h1
    cases v <;> intro h1 k <;> first | (cases h1;exact k [] _ rfl rfl rfl) | cases h1
  | cons x l ih=>exact fun h k=>bnd h fun i h1 h=>mpd h fun r h2 h3=>ih h2 fun js j e1 e2 e3=>k (i::js) j (by show (intOf x).bind _=_;rw [h1];show (intsOf l).map _=_;rw [e1];rfl) e2 (by rw [← h3,e3];rfl)
theorem intsOf_append {b:List V}:∀ {a:List V} {is:List Int},intsOf (a++b)=some is→∃ js,intsOf a=some js:=by
  intro a
  induction a with
  | nil=>exact fun _=>⟨[],rfl⟩
  | cons x a ih=>exact fun h=>bnd h fun i h1 h=>mpd h fun r h2 _=>(ih h2).elim fun js e=>⟨i::js,by show (intOf x).bind _=_;rw [h1];show (intsOf a).map _=_;rw [e];rfl⟩
inductive accI (prog:Program) (w:World) (base:Heap) (D:Addr) (Z:Addr→Obj→Prop) (αs:List Addr) (h:Heap) (vs:List V):Prop
  | mk (o:Off base Z αs h D) (kvs:List (Int×Value)) (is:List Int):intsOf vs=some is→h.DictOf (intKind prog w) D kvs→kvs.map (·.1)=firsts [] is→kvs.length≤vs.length→accI prog w base D Z αs h vs
theorem accI_ok (D:Addr):AccOK base lo D (accI prog w base D) where
  off:=fun Z αs h vs a=>by cases a;assumption
  step:=fun Z αs s vs wr Z' αs' s' a S hD=>by
    obtain ⟨o,kvs,is,h1,h2,h3,h4⟩:=a
    exact ⟨o.step S,kvs,is,h1,h2.imp fun _=>Exists.imp fun _=>Exists.imp fun _=>And.imp_left (S.keep _ _ (fun hm=>o.na (List.mem_of_mem_drop hm)) hD),h3,h4⟩
  other:=fun Z αs h h' vs a hk=>by
    obtain ⟨o,kvs,is,h1,h2,h3,h4⟩:=a
    exact ⟨⟨o.na,o.nz,o.nb,h2.imp fun _ ⟨_,_,ho,_⟩=>hk _ ho⟩,kvs,is,h1,h2.imp fun _=>Exists.imp fun _=>Exists.imp fun _=>And.imp_left (hk _),h3,h4⟩
noncomputable def preI (l:List V):Prop:=(∃ is,intsOf l=some is)∧l.length≤sizeLine
theorem preI_pre:∀ a b,preI (a++b)→preI a:=fun a b h=>⟨h.1.elim fun _=>intsOf_append,Nat.le_trans (Nat.le_add_right _ _) (List.length_append ▸ h.2)⟩
theorem accI_set {D:Addr} {vs:List V} {x:V} {u y:Value} {Q:Unit→Shared→Prop} {ow:List Addr} (I:Inv prog w cls base Z αs μ s.heap) (a:accI prog w base D Z αs s.heap vs) (R:Rep prog w Z αs u x) (hp:preI (vs++[x]))
    (h:∀ s',StepW (D::ow) lo Z αs s Z αs s'→Inv prog w cls base Z αs μ s'.heap→(∀ b o,b≠D→s.heap.get? b=some o→s'.heap.get? b=some o)→accI prog w base D Z αs s'.heap (vs++[x])→Q () s') :
    wpAny (model prog w) A (dictSet D u y) Q FF s:=by
  obtain ⟨o,kvs,is,h1,h2,h3,h4⟩:=a
  obtain ⟨⟨is',hi⟩,hl⟩:=hp
  refine intsOf_snoc hi fun js i e1 e2 e3=>?_
  cases h1.symm.trans e1
  rw [List.length_append] at hl
  have hl2:kvs.length + 1≤vs.length + 1:=Nat.succ_le_succ h4
  rw [e2] at R
  apply R.intE
  intro t
  refine wpAny_dictSet_pairs (isInt_self prog w i t) h2 (fun h' hd hs=>?_) (Nat.le_trans h4 (Nat.le_of_succ_le hl))
  have ho:∃ o,h'.get? D=some o:=hd.imp fun _ ⟨_,_,ho,_⟩=>ho
  exact h _ (.one (.head _) hs.extBut fun _ _=>ho) (I.other o hs.extBut) hs.extBut ⟨⟨o.na,o.nz,o.nb,ho⟩,_,is',hi,hd,by rw [stored_keys,e3,firsts_snoc,h3],by rw [List.length_append];exact Nat.le_trans (stored_length_le kvs i y) hl2⟩
theorem off_sys {h:Heap} {D:Addr} (hsys:∃ o,base.get? sysModules=some o) (o:Off base Z αs h D):(D == sysModules)=false:=by
  obtain ⟨os,hs⟩:=hsys
  refine beq_eq_false_iff_ne.mpr fun e=>?_
  rw [← e,o.nb] at hs;cases hs
theorem accI_fin {D:Addr} {vs:List V} {is:List Int} {h:Heap} (hsys:∃ o,base.get? sysModules=some o) (hl:vs.length≤sizeLine) (hi:intsOf vs=some is) (a:accI prog w base D Z αs h vs):∃ o,h.get? D=some o∧Rep prog w (zadd Z D o) αs (.ref D) (.dct ((firsts [] is).map V.int)):=by
  obtain ⟨o,kvs,is',h1,h2,h3,h4⟩:=a
  cases hi.symm.trans h1
  obtain ⟨ob,ho,r⟩:=Heap.dictOf_iff.mp h2
  exact ⟨ob,ho,.dctI (.inr ⟨rfl,rfl⟩) (off_sys hsys o) r h3 (Nat.le_trans h4 hl)⟩
end
end Mine
namespace Mine
open PySem PySem.W PySem.Calls PyProof.Rows
section
variable {lo:Nat} {prog:Program} {w:World} {cls:Str→Option Addr} {base:Heap} {Z Z' Z'':Addr→Obj→Prop} {αs αs' αs'':List Addr} {s s' s'':Shared} {μ μ' μ₁ μ₂:M} {A:Around} {env:Env} {ρ ρ':Rho} {n:Nat} {K:Frag} {T:Tab} {cb:Calls}
theorem item_of {v:V} {x:Int ⊕ Str} (h:itemOf v=some x):v=unItem x:=by cases v <;> first | (cases h;rfl) | cases h
theorem flatOf_un:∀ {l:List V} {k:Flat},flatOf l=some k→l=k.map unItem:=by
  intro l
  induction l with
  | nil=>intro k h;cases h;rfl
  | cons v l ih=>exact fun h=>bnd h fun x h1 h=>mpd h fun k' h2 h3=>by rw [← h3,ih h2,item_of h1];rfl
theorem items_are:∀ {k:Flat} {us:List Value},Reps prog w Z αs us (k.map unItem)→ItemsAre (mixKind prog w) k us:=by
  intro k
  induction k with
  | nil=>intro us r;cases r;exact .nil
  | cons x k ih=>
    intro us r
    cases r with
    | cons h r=>
      cases x with
      | inl i=>apply h.intE;exact fun t=>.cons (isInt_self prog w i t) (ih r)
      | inr x=>apply h.strE;exact fun t=>.cons (strKind_is prog w x t) (ih r)
theorem tuple_key (I:Inv prog w cls base Z αs μ s.heap) {u:Value} {k:Flat} (R:Rep prog w Z αs u (unflat k)):∃ a,u=.ref a∧IsTupleKey (mixKind prog w) s.heap k a:=by
  apply tup_at I R
  rintro a us ⟨o,ho,hc,n,hd⟩ hz r
  exact ⟨a,rfl,o,us.toArray,n,ho,hc,hd,items_are r⟩
theorem tups_cons {x:V} {l:List V} {us:List Flat} {vs:List V} {a:Flat} (h1:tupOf x=some vs) (h2:flatOf vs=some a) (h3:tupsOf l=some us):tupsOf (x::l)=some (a::us):=by
  show (tupOf x).bind _=_
  rw [h1]
  show (flatOf vs).bind _=_
  rw [h2]
  show (tupsOf l).map _=_
  rw [h3];rfl
theorem tupsOf_snoc {v:V} {G:Prop}:∀ {l:List V} {ts:List Flat},tupsOf (l++[v])=some ts→(∀ us k,tupsOf l=some us→v=unflat k→ts=us++[k]→G)→G:=by
  intro l
  induction l with
  | nil=>exact fun h k=>bnd h fun vs h1 h=>bnd h fun a h2 h=>by cases h;exact k [] a rfl (tup_of (P:=fun v=>v=unflat a) h1 (by unfold unflat;rw [flatOf_un h2])) rfl
  | cons x l ih=>exact fun h k=>bnd h fun vs h1 h=>bnd h fun a h2 h=>mpd h fun r h3 h4=>ih h3 fun us j e1 e2 e3=>k (a::us) j (tups_cons h1 h2 e1) e2 (by rw [← h4,e3];rfl)
theorem tupsOf_append {b:List V}:∀ {a:List V} {ts:List Flat},tupsOf (a++b)=some ts→∃ us,tupsOf a=some us:=by
  intro a
  induction a with
  | nil=>exact fun _=>⟨[],rfl⟩
  | cons x a ih=>exact fun h=>bnd h fun vs h1 h=>bnd h fun a h2 h=>mpd h fun r h3 _=>(ih h3).elim fun us e=>⟨a::us,tups_cons h1 h2 e⟩
inductive accT (prog:Program) (w:World) (base:Heap) (D:Addr) (Z:Addr→Obj→Prop) (αs:List Addr) (h:Heap) (vs:List V):Prop
  | mk (o:Off base Z αs h D) (xs:List (Flat×Addr×Value)) (ts:List Flat) (ob:Obj) (es:Array DictEntry) (ep:Nat):tupsOf vs=some ts→h.get? D=some ob→ob.ExactDict→ob.data=.dict es ep→es.toList=xs.map (entryOfKey (tupleKind (mixKind prog w)))→(xs.map (·.1)).Nodup→
    xs.map (·.1)=firsts [] ts→xs.length≤vs.length→(∀ x ∈ xs,Rep prog w Z αs (.ref x.2.1) (unflat x.1))→accT prog w base D Z αs h vs
theorem accT_ok (D:Addr):AccOK base lo D (accT prog w base D) where
  off:=fun Z αs h vs a=>by cases a;assumption
  step:=fun Z αs s vs wr Z' αs' s' a S hD=>by
    obtain ⟨o,xs,ts,ob,es,ep,h1,h2,h3,h4,h5,h6,h7,h8,h9⟩:=a
    exact ⟨o.step S,xs,ts,ob,es,ep,h1,S.keep _ _ (fun hm=>o.na (List.mem_of_mem_drop hm)) hD h2,h3,h4,h5,h6,h7,h8,fun x hx=>(h9 x hx).mono S.zsub S.asub⟩
  other:=fun Z αs h h' vs a hk=>by
    obtain ⟨o,xs,ts,ob,es,ep,h1,h2,h3,h4,h5,h6,h7,h8,h9⟩:=a
    exact ⟨⟨o.na,o.nz,o.nb,_,hk _ h2⟩,xs,ts,ob,es,ep,h1,hk _ h2,h3,h4,h5,h6,h7,h8,h9⟩
noncomputable def preT (l:List V):Prop:=(∃ ts,tupsOf l=some ts)∧l.length≤sizeLine
theorem preT_pre:∀ a b,preT (a++b)→preT a:=fun a b h=>⟨h.1.elim fun _=>tupsOf_append,Nat.le_trans (Nat.le_add_right _ _) (List.length_append ▸ h.2)⟩
theorem reps_forall:∀ {xs:List (Flat×Addr×Value)},(∀ x ∈ xs,Rep prog w Z αs (.ref x.2.1) (unflat x.1))→Reps prog w Z αs (xs.map fun x=>.ref x.2.1) (xs.map fun x=>unflat x.1):=by
  intro xs
  induction xs with
  | nil=>exact fun _=>.nil
  | cons x xs ih=>exact fun h=>.cons (h x (.head _)) (ih fun y hy=>h y (.tail _ hy))
theorem atKey_mem {xs:List (Flat×Addr×Value)} {k:Flat}:(atKey xs k).isSome=true↔k ∈ xs.map fun x:Flat×Addr×Value=>x.1:=by
  unfold atKey
  rw [Option.isSome_map,List.find?_isSome]
  simp only [decide_eq_true_eq,List.mem_map]
theorem storedH_length (xs:List (Flat×Addr×Value)) (k:Flat) (a:Addr) (v:Value):(storedH xs k a v).length≤xs.length + 1:=by
  unfold storedH
  split
  · rw [List.length_map];omega
  · rw [List.length_append];exact Nat.le_refl _
theorem storedH_keys (xs:List (Flat×Addr×Value)) (k:Flat) (a:Addr) (v:Value):(k ∈ xs.map (·.1)→(storedH xs k a v).map (·.1)=xs.map (·.1))∧(¬ k ∈ xs.map (·.1)→(storedH xs k a v).map (·.1)=xs.map (·.1)++[k]):=by
  unfold storedH
  exact ⟨fun h=>by rw [if_pos (atKey_mem.mpr h),keys_map_putAt],fun h=>by rw [if_neg (mt atKey_mem.mp h),List.map_append];rfl⟩
theorem storedH_mem {xs:List (Flat×Addr×Value)} {k:Flat} {a:Addr} {v:Value} {x:Flat×Addr×Value} (h:x ∈ storedH xs k a v):(x.1=k∧x.2.1=a)∨∃ y ∈ xs,y.1=x.1∧y.2.1=x.2.1:=by
  unfold storedH at h
  split at h
  · obtain ⟨y,hy,e⟩:=List.mem_map.mp h
    refine .inr ⟨y,hy,?_⟩
    unfold putAt at e
    split at e <;> subst e <;> exact ⟨rfl,rfl⟩
  · rcases List.mem_append.mp h with h | h
    · exact .inr ⟨x,h,rfl,rfl⟩
    · rw [List.mem_singleton.mp h];exact .inl ⟨rfl,rfl⟩
theorem accT_set {D:Addr} {vs:List V} {x:V} {u y:Value} {Q:Unit→Shared→Prop} {ow:List Addr} (hR:Room A n) (I:Inv prog w cls base Z αs μ s.heap) (a:accT prog w base D Z αs s.heap vs) (R:Rep prog w Z αs u x) (hp:preT (vs++[x]))
    (h:∀ s',StepW (D::ow) lo Z αs s Z αs s'→Inv prog w cls base Z αs μ s'.heap→(∀ b o,b≠D→s.heap.get? b=some o→s'.heap.get? b=some o)→accT prog w base D Z αs s'.heap (vs++[x])→Q () s') :
    wpAny (model prog w) A (dictSet D u y) Q FF s:=by
  obtain ⟨o,xs,ts,ob,es,ep,g1,g2,g3,g4,g5,g6,g7,g8,g9⟩:=a
  obtain ⟨⟨ts',hi⟩,hl⟩:=hp
  have h2:s.heap.DictOfH (tupleKind (mixKind prog w)) D xs:=⟨ob,es,ep,g2,g3,g4,g5,fun x hx=>by
    obtain ⟨b,e,k⟩:=tuple_key I (g9 x hx)
    cases e;exact k,g6⟩
  refine tupsOf_snoc hi fun us k e1 e2 e3=>?_
  cases g1.symm.trans e1
  rw [e2] at R
  obtain ⟨b,hu,hk⟩:=tuple_key I R
  rw [hu] at R ⊢
  rw [List.length_append] at hl
  refine wpAny_dictSet_heap (knd:=tupleKind (mixKind prog w)) (show A.units<cLine from Nat.lt_of_le_of_lt (Nat.le_add_right _ 64) hR.c) hk h2 (fun h' hd hs=>?_) (Nat.le_trans g8 (Nat.le_of_succ_le hl))
  obtain ⟨ob,es,ep,ho,r1,r2,r3,r4,r5⟩:=hd
  refine h _ (.one (.head _) hs.extBut fun _ _=>⟨_,ho⟩) (I.other o hs.extBut) hs.extBut ⟨⟨o.na,o.nz,o.nb,_,ho⟩,_,ts',ob,es,ep,hi,ho,r1,r2,r3,r5,?_,?_,fun x hx=>?_⟩
  · rw [e3,firsts_snoc,← g7]
    by_cases hm:k ∈ xs.map (·.1)
    · rw [if_pos hm,(storedH_keys ..).1 hm]
    · rw [if_neg hm,(storedH_keys ..).2 hm]
  · rw [List.length_append]
    exact Nat.le_trans (storedH_length xs k b y) (Nat.succ_le_succ g8)
  · rcases storedH_mem hx with ⟨e1,e2⟩ | ⟨z,hz,e1,e2⟩
    · rw [e1,e2];exact R
    · rw [← e1,← e2];exact g9 z hz
theorem accT_fin {D:Addr} {vs:List V} {ts:List Flat} {h:Heap} (hsys:∃ o,base.get? sysModules=some o) (hl:vs.length≤sizeLine) (hi:tupsOf vs=some ts) (a:accT prog w base D Z αs h vs):∃ o,h.get? D=some o∧Rep prog w (zadd Z D o) αs (.ref D) (.dct ((firsts [] ts).map unflat)):=by
  obtain ⟨o,xs,ts',ob,es,ep,h1,h2,h3,h4,h5,h6,h7,h8,h9⟩:=a
  cases hi.symm.trans h1
  refine ⟨ob,h2,.dctT (es:=es.toList) (ep:=ep) (.inr ⟨rfl,rfl⟩) (off_sys hsys o) h3 h4 (by rw [h5,List.length_map];exact Nat.le_trans h8 hl) ?_ ?_⟩
  · rw [h5,← h7,List.map_map,List.map_map]
    exact (reps_forall h9).mono (fun _ _ h=>.inl h) (List.prefix_refl _)
  · intro k hk
    obtain ⟨t,_,e⟩:=List.mem_map.mp hk
    exact ⟨_,e.symm⟩
noncomputable def fKey (T:Tab) (cb:Calls) (lo:Nat) (ckey:C) (t:Tgt) (ρ:Rho) (x:V) (μ:M):Option (List V×M):=(bindT ρ x t).bind fun ρ'=>(ev T cb lo ckey ρ' μ).map fun p=>([p.1],p.2)
theorem fKey_len {ckey:C} {t:Tgt} {x:V} {ys:List V} (h:fKey T cb lo ckey t ρ x μ=some (ys,μ')):ys.length≤1:=bnd h fun _ _ h=>mpd h fun p _ e=>by cases e;exact Nat.le_refl _
theorem key_item {scope:Scope} {ow:List Addr} {D:Addr} {target kx vx:Expr} {t:Tgt} {ckey:C} {u:Value} {x:V} {ys vs:List V} {P:Shared→Prop} {Acc:Addr→AccT} {Pre:List V→Prop} (hh:A.handled=none) (hS:Sc scope env ow) (AK:∀ D,AccOK base lo D (Acc D))
    (hset:∀ (D:Addr) (Z:Addr→Obj→Prop) (αs:List Addr) (s:Shared) (μ:M) (vs:List V) (x:V) (u y:Value) (Q:Unit→Shared→Prop),Inv prog w cls base Z αs μ s.heap→Acc D Z αs s.heap vs→Rep prog w Z αs u x→Pre (vs++[x])→
      (∀ s',StepW (D::ow) lo Z αs s Z αs s'→Inv prog w cls base Z αs μ s'.heap→(∀ b o,b≠D→s.heap.get? b=some o→s'.heap.get? b=some o)→Acc D Z αs s'.heap (vs++[x])→Q () s')→wpAny (model prog w) A (dictSet D u y) Q FF s)
    (hvx:∀ ρ μ,SE prog w cls base lo A env (eval vx env) ρ μ μ (.bool true))
    (ht:compT scope target=some t) (hE:PartOK prog w cls base lo A T cb scope kx ckey) (hkeep:∀ ρ',bindT ρ x t=some ρ'→∀ y v,ρ y=some v→ρ' y=some v) (hD:D ∉ fr env)
    (hf:fKey T cb lo ckey t ρ x μ=some (ys,μ₁)) (R:Rep prog w Z αs u x) (I:Inv prog w cls base Z αs μ s.heap) (L:Loc prog w base env ρ Z αs s.heap) (a:Acc D Z αs s.heap vs) (hlen:Pre (vs++ys)) (hDo:D ∉ ow)
    (k:∀ Z' αs' s',StepW (D::ow) lo Z αs s Z' αs' s'→Inv prog w cls base Z' αs' μ₁ s'.heap→Loc prog w base env ρ Z' αs' s'.heap→Acc D Z' αs' s'.heap (vs++ys)→P s') :
    wpAny (model prog w) A (assign target env u) (fun _ s₃=>wpAny (model prog w) A (eval kx env) (fun kv s₄=>wpAny (model prog w) A (eval vx env) (fun vv s₅=>wpAny (model prog w) A (dictSet D kv vv) (fun _ s₆=>P s₆) FF s₅) FF s₄) FF s₃) FF s:=by
  refine bnd hf fun ρ' hb hf=>mpd hf fun p hv e=>?_
  obtain ⟨v,μ₃⟩:=p
  cases e
  refine wpAny_mono (bind_ok (lo:=lo) hS hh ht hb I L R) (fun _ s₃ o=>?_) fun _ _ e=>e
  obtain ⟨Z₁,αs₁,S₁,I₁,L₁⟩:=o
  have a₁:=(AK D).step _ _ _ _ _ _ _ _ a S₁ hDo
  refine (hE _ _ _ _ _ _ hS hv).use I₁ L₁ fun y Z₂ αs₂ s₄ S₂ I₂ L₂ R₂=>?_
  refine (hvx _ _).use I₂ L₂ fun z Z₃ αs₃ s₅ S₃ I₃ L₃ R₃=>?_
  have S4:=S₂.trans S₃
  have a₃:=(AK D).step _ _ _ _ _ _ _ _ a₁ (S4.toW (wr:=[])) fun h=>nomatch h
  refine hset D Z₃ αs₃ s₅ _ vs v y z _ I₃ a₃ (R₂.mono S₃.zsub S₃.asub) hlen fun s₆ S₅ I₅ hk a₅=>?_
  exact k _ _ _ (((S₁.mono fun a h=>.tail _ h).trans (S4.toW)).trans S₅) I₅ (Loc.weaken (L₃.other [D] (fun b o hb e=>hk b o (fun e'=>hb (by rw [e'];exact .head _)) e) fun a ha hm=>hD (List.mem_singleton.mp hm ▸ ha)) (hkeep ρ' hb)) a₅
noncomputable def bodyD (prog:Program) (w:World) (A:Around) (scope:Scope) (env:Env) (target kx vx:Expr) (C D:Addr) (u:Value) (P:Shared→Prop) (s:Shared):Prop:=
  wpAny (model prog w) A (assign target (cenvOf scope C env) u) (fun _ s₃=>wpAny (model prog w) A (eval kx (cenvOf scope C env)) (fun kv s₄=>wpAny (model prog w) A (eval vx (cenvOf scope C env)) (fun vv s₅=>wpAny (model prog w) A (dictSet D kv vv) (fun _ s₆=>P s₆) FF s₅) FF s₄) FF s₃) FF s
theorem dcomp_any (hR:Room A n) (hsys:∃ o,base.get? sysModules=some o) {target iter kx:Expr} {kk:Nat} {vpos:Pos} {scope sc:Scope} {pos p:Pos} {ow:List Addr} {vi v:V} {items vs:List V} {t:Tgt} {ckey:C} {use:Option (Value→Sem Unit)} {Q:Value→Shared→Prop}
    (hfs:∀ x,foldedSetIterable iter env x=pure x) (hS:Sc sc env ow) (hc:compSc sc scope=true) (I:Inv prog w cls base Z αs μ s.heap) (L:Loc prog w base env ρ Z αs s.heap)
    (hit:SE prog w cls base lo A env (eval iter env) ρ μ μ₁ vi) (hv:iterV lo μ₁ vi=some items) (hf:flatM (fKey T cb lo ckey t (hideR (hideOf scope) ρ)) items μ₁=some (vs,μ')) (hd:dictV vs=some v)
    (ht:compT scope target=some t) (hE:PartOK prog w cls base lo A T cb scope kx ckey)
    (hQ:∀ C D s',CompEnd prog w cls base lo env ρ Z αs s μ' v C D s'→compPost (model prog w) A FF use Q D C (.ok .next) s') :
    wpAny (model prog w) A (comprehension (.DictComp kx (.Constant (.bool true) kk vpos) [⟨target,iter,[],0⟩] scope pos) scope env p newDict false (eval iter env) use) Q FF s:=by
  have hl:items.length≤sizeLine→vs.length≤sizeLine:=fun h=>Nat.le_trans (flatM_len (fun _ _ _ _=>fKey_len) hf) h
  unfold dictV at hd
  cases hi:intsOf vs with
  | some is=>
    rw [hi] at hd
    cases hd
    exact comp_dict (f:=fKey T cb lo ckey t (hideR (hideOf scope) ρ)) (Acc:=accI prog w base) (Pre:=preI) (body:=bodyD prog w A scope env target kx (.Constant (.bool true) kk vpos))
      preI_pre (fun D=>accI_ok D) (fun Z αs h D o e=>⟨o,[],[],rfl,⟨_,#[],0,e,⟨rfl,rfl,rfl⟩,rfl,fun _ he=>(nomatch he),Pairs.nil,List.nodup_nil⟩,rfl,Nat.le_refl _⟩) (fun Z αs h D hp a=>accI_fin hsys hp.2 hi a) hR.handled hfs hS hc I L hit hv hf (fun h=>⟨⟨is,hi⟩,hl h⟩) (fun C it D R s h=>turn_dict h)
      (fun C D u x ys μ μ₁ Z αs s vs P hS' hD how h1 h2 h3 h4 h5 h6 k=>key_item (Acc:=accI prog w base) (Pre:=preI) hR.handled hS' (fun D=>accI_ok D) (fun D Z αs s μ vs x u y Q I a R hp h=>accI_set I a R hp h) (fun _ _=>SE.bool) ht hE (fun ρ' hb=>hide_keep ht hb) hD h1 h2 h3 h4 h5 h6 (fr_own how hD) k) hQ
  | none=>
    rw [hi] at hd
    refine mpd hd fun ts hi hd=>?_
    rw [← hd] at hQ
    exact comp_dict (f:=fKey T cb lo ckey t (hideR (hideOf scope) ρ)) (Acc:=accT prog w base) (Pre:=preT) (body:=bodyD prog w A scope env target kx (.Constant (.bool true) kk vpos))
      preT_pre (fun D=>accT_ok D) (fun Z αs h D o e=>⟨o,[],[],_,#[],0,rfl,e,⟨rfl,rfl,rfl⟩,rfl,rfl,List.nodup_nil,rfl,Nat.le_refl _,fun _ h=>nomatch h⟩) (fun Z αs h D hp a=>accT_fin hsys hp.2 hi a) hR.handled hfs hS hc I L hit hv hf (fun h=>⟨⟨ts,hi⟩,hl h⟩) (fun C it D R s h=>turn_dict h)
      (fun C D u x ys μ μ₁ Z αs s vs P hS' hD how h1 h2 h3 h4 h5 h6 k=>key_item (Acc:=accT prog w base) (Pre:=preT) hR.handled hS' (fun D=>accT_ok D) (fun D Z αs s μ vs x u y Q I a R hp h=>accT_set hR I a R hp h) (fun _ _=>SE.bool) ht hE (fun ρ' hb=>hide_keep ht hb) hD h1 h2 h3 h4 h5 h6 (fr_own how hD) k) hQ
theorem SE.dcomp (hR:Room A n) (hsys:∃ o,base.get? sysModules=some o) {target iter kx:Expr} {kk:Nat} {vpos:Pos} {scope sc:Scope} {pos:Pos} {ow:List Addr} {vi v:V} {items vs:List V} {t:Tgt} {ckey:C}
    (hfs:∀ x,foldedSetIterable iter env x=pure x) (hS:Sc sc env ow) (hc:compSc sc scope=true)
    (hit:SE prog w cls base lo A env (eval iter env) ρ μ μ₁ vi) (hv:iterV lo μ₁ vi=some items) (hf:flatM (fKey T cb lo ckey t (hideR (hideOf scope) ρ)) items μ₁=some (vs,μ')) (hd:dictV vs=some v)
    (ht:compT scope target=some t) (hE:PartOK prog w cls base lo A T cb scope kx ckey) :
    SE prog w cls base lo A env (eval (.DictComp kx (.Constant (.bool true) kk vpos) [⟨target,iter,[],0⟩] scope pos) env) ρ μ μ' v:=by
  intro Z αs s I L
  rw [arm_eval_DictComp]
  exact dcomp_any hR hsys hfs hS hc I L hit hv hf hd ht hE fun C D s' h=>compEnd_value' h
end
end Mine
namespace Mine
open PySem PySem.W PySem.Calls PyProof.Rows
section
variable {lo:Nat} {prog:Program} {w:World} {cls:Str→Option Addr} {base:Heap} {Z Z' Z'':Addr→Obj→Prop} {αs αs' αs'':List Addr} {s s' s'':Shared} {μ μ' μ₁ μ₂:M} {A:Around} {env:Env} {ρ ρ':Rho} {n:Nat} {K:Frag} {T:Tab} {cb:Calls}
theorem kas_run {α:Type} {κ:SortKind} {vs:List Value} {lt:Nat→Nat→Option Bool} {G:α→Shared→Prop} {r:α} (hlt:∀ i j b,lt i j=some b→∀ C:Bool→Shared→Prop,C b s→kas_ask prog w A κ vs i j C s) :
    ∀ (t:KasT α),kasRun lt t=some r→G r s→t.kasWp (kas_ask prog w A κ vs) G s:=by
  intro t
  induction t with
  | ret a=>intro e h;cases e;exact h
  | ask i j k ih=>
    intro e h
    cases hb:lt i j with
    | some b=>exact hlt i j b hb _ (ih b (by unfold kasRun at e;rw [hb] at e;exact e) h)
    | none=>unfold kasRun at e;rw [hb] at e;cases e
theorem sort_at {a:Addr} {vs:List Value} {out:List Value} {lt:Nat→Nat→Option Bool} {p:Array Nat} {P:PySem.Fin→Shared→Prop} (ho:s.heap.get? a=some (seqObj "list" vs.toArray n)) (h64:vs.length<64)
    (hout:(vs.length<2∧out=vs)∨(2≤vs.length∧kasRun lt (kas_sort vs.length)=some p∧out=p.toList.map fun i=>vs.getD i Value.none))
    (hask:2≤vs.length→∀ s':Shared,(∀ b o,b≠a→s.heap.get? b=some o→s'.heap.get? b=some o)→∃ κ,(∀ Q:SortKind→Shared→Prop,Q κ s'→wpAny (model prog w) A (keyKind' vs.toArray) Q FF s')∧∀ i j b,lt i j=some b→∀ C:Bool→Shared→Prop,C b s'→kas_ask prog w A κ vs i j C s')
    (h:∀ h' c,(2≤vs.length→p.size=vs.length)→(∀ b o,b≠a→s.heap.get? b=some o→h'.get? b=some o)→h'.get? a=some (seqObj "list" out.toArray c)→P (.done (.ret .none)) { s with heap:=h' }) :
    wpAny (model prog w) A (Builtin.«list.sort» ⟨[.ref a],[]⟩) P FF s:=by
  have s1:=Heap.SameBut.update s.heap a (Obj.mapSeq fun _=>(#[]:Array Value))
  obtain ⟨e1,ho1⟩:∃ e1,(s.heap.update a (Obj.mapSeq fun _=>(#[]:Array Value))).get? a=some (seqObj "list" #[] e1):=⟨_,get?_update_seq ho fun _=>#[]⟩
  have keep:∀ b o,b≠a→s.heap.get? b=some o→(((s.heap.update a (Obj.mapSeq fun _=>(#[]:Array Value))).push (seqObj "tuple" vs.toArray 0)).push (seqObj "list" #[] 0)).get? b=some o:=fun b o hb e=>
    Heap.get?_push_of_some _ (Heap.get?_push_of_some _ (s1.extBut b o hb e))
  have hoa:(((s.heap.update a (Obj.mapSeq fun _=>(#[]:Array Value))).push (seqObj "tuple" vs.toArray 0)).push (seqObj "list" #[] 0)).get? a=some (seqObj "list" #[] e1):=Heap.get?_push_of_some _ (Heap.get?_push_of_some _ ho1)
  rw [list_sort_plain]
  refine wpAny_bind (listItems_at ho rfl ?_)
  refine wpAny_bind (listUpdate_at ho rfl ?_ (by rw [List.size_toArray,sizeLine_eq];omega) (Nat.zero_le _))
  refine wpAny_bind (seqEpoch_at ho1 rfl ?_)
  refine wpAny_bind (wpAny_newTuple ?_ (by show vs.length≤_;rw [sizeLine_eq];omega))
  refine wpAny_bind (wpAny_newList ?_ (Nat.zero_le _))
  refine wpAny_holding ?_
  show wpAny (model prog w) A _ P FF { s with heap:=((s.heap.update a (Obj.mapSeq fun _=>(#[]:Array Value))).push (seqObj "tuple" vs.toArray 0)).push (seqObj "list" #[] 0) }
  generalize ((s.heap.update a (Obj.mapSeq fun _=>(#[]:Array Value))).push (seqObj "tuple" vs.toArray 0)).push (seqObj "list" #[] 0)=H at keep hoa
  have tail:∀ st':SortSt,(arrOf st').map (·.2)=out.toArray→failedOf st'=none→out.length=vs.length→(2≤vs.length→p.size=vs.length)→wpAny (model prog w) A (do
      let touched:=(← seqEpoch a) != e1
      Builtin.List.listUpdate (.ref a) fun _=>(arrOf st').map (·.2)
      if let some e:=failedOf st' then rule "list.sort.comparison-raised"; throw e
      if touched then rule "list.sort.modified"; raiseError "ValueError" "list modified during sort"
      ret .none) P FF { s with heap:=H }:=by
    intro st' e2 e3 hl hps
    rw [e2,e3]
    refine wpAny_bind (seqEpoch_at hoa rfl ?_)
    refine wpAny_bind (listUpdate_at hoa rfl ?_ (Nat.zero_le _) (by rw [List.size_toArray,hl,sizeLine_eq];omega))
    simp only [bne_self_eq_false,Bool.false_eq_true,if_false]
    have s2:=Heap.SameBut.update H a (Obj.mapSeq fun _=>out.toArray)
    exact wpAny_pure (h _ _ hps (fun b o hb e=>s2.extBut b o hb (keep b o hb e)) (get?_update_seq hoa fun _=>out.toArray))
  rcases hout with ⟨h2,rfl⟩ | ⟨h2,hr,rfl⟩
  · have hn2:out.toArray.size<2:=by rw [List.size_toArray];omega
    dsimp only
    rw [if_pos hn2,if_pos hn2]
    refine wpAny_bind (wpAny_pure ?_)
    rw [StateT.run_pure]
    refine wpAny_bind (wpAny_pure ?_)
    refine tail _ ?_ rfl rfl fun h=>absurd h (by omega)
    show (out.toArray.zip out.toArray).map (·.2)=out.toArray
    apply Array.toList_inj.mp
    simp [List.map_snd_zip]
  · have hn2:¬ vs.toArray.size<2:=by rw [List.size_toArray];omega
    dsimp only
    rw [if_neg hn2,if_neg hn2]
    obtain ⟨κ,hk1,hk2⟩:=hask h2 { s with heap:=H } keep
    refine wpAny_bind (hk1 _ ?_)
    refine wpAny_bind (wpAny_mono (kat_run (E:=FF) (κ:=κ) (Q:=fun st' s'=>p.size=vs.length∧s'={ s with heap:=H }∧arrOf st'=p.map (kas_item (vs.toArray.zip vs.toArray))∧failedOf st'=none) (G:=fun p' s'=>p'=p∧s'={ s with heap:=H })
      rfl h2 h64 (fun p' st' s' a1 a2 a3 a4=>?_) (kas_run hk2 _ hr ⟨rfl,rfl⟩)) ?_ fun _ _ e=>e)
    · obtain ⟨rfl,rfl⟩:=a4
      exact ⟨a1,rfl,a2,a3⟩
    · rintro ⟨⟨⟩,st'⟩ s' ⟨hps,e1,har,hf⟩
      subst e1
      exact tail st' (kat_snds rfl har) hf (by rw [List.length_map,Array.length_toList,hps]) fun _=>hps
theorem ltCps_lt:∀ (a b:List Nat),ltCps a b=decide (a<b)
  | [],[]=>by simp [ltCps]
  | [],_::_=>by simp [ltCps]
  | _::_,[]=>by simp [ltCps]
  | x::xs,y::ys=>by
    unfold ltCps
    by_cases h:x=y
    · subst h
      rw [if_pos rfl,ltCps_lt xs ys]
      simp [List.cons_lt_cons_iff]
    · rw [if_neg h]
      simp [List.cons_lt_cons_iff,h]
theorem dec_len {us ws:List Value} {u v:Value}:decide ((u::us).length<(v::ws).length)=decide (us.length<ws.length):=decide_eq_decide.mpr ⟨Nat.lt_of_succ_lt_succ,Nat.succ_lt_succ⟩
theorem lex_ok {Q:Bool→Shared→Prop} {r fin:Bool} (h:Q r s):∀ (xs ys:List V) (us ws:List Value) (i:Nat),(1≤i∨∃ k l,xs=.int k::l)→Reps prog w Z αs us xs→Reps prog w Z αs ws ys→ltFlat xs ys=some r→fin=decide (us.length<ws.length)→
    KatLex prog w A true fin Q (us.zip ws) i s:=by
  intro xs
  induction xs with
  | nil=>
    intro ys us ws i hi ru rw' e hf
    cases ru
    refine kat_nil ?_
    rw [hf]
    cases rw' <;> (cases e;exact h)
  | cons x xs ih=>
    intro ys us ws i hi ru rw' e hf
    cases ru with
    | cons Ru ru=>
      cases rw' with
      | nil=>refine kat_nil ?_;rw [hf];cases e;exact h
      | cons Rv rv=>
        rw [List.zip_cons_cons]
        rw [dec_len] at hf
        refine bnd e fun q h1 e=>?_
        have next:q=none→KatLex prog w A true fin Q _ (i + 1) s:=fun hq=>ih _ _ _ (i + 1) (.inl (Nat.le_add_left _ _)) ru rv (by rw [hq] at e;exact e) hf
        unfold ltItem at h1
        cases h2:intOf x with
        | some a=>
          rw [h2] at h1
          refine mpd h1 fun c h3 h4=>?_
          revert Ru Rv
          apply int_of h2
          apply int_of h3
          intro Ru Rv
          apply Ru.intE
          intro t
          apply Rv.intE
          intro t'
          refine kat_cons (wpAny_eqBool_int ?_)
          by_cases hac:a=c
          · rw [if_pos hac] at h4
            rw [hac,beq_self_eq_true]
            exact kat_yes (next h4.symm)
          · rw [if_neg hac] at h4
            rw [← h4] at e
            rw [beq_eq_false_iff_ne.mpr hac]
            refine kat_no ?_
            rw [Bool.true_and]
            cases e
            cases i == 0 with
            | true=>exact oneLt_int h
            | false=>exact kat_one _ _ (PyProof.Rows.lt_int h)
        | none=>
          rw [h2] at h1
          refine bnd h1 fun a h5 h1=>mpd h1 fun c h3 h4=>?_
          have hi1:(true && i == 0)=false:=by
            rw [Bool.true_and]
            refine beq_eq_false_iff_ne.mpr fun hi0=>?_
            rcases hi with h | ⟨k,l,h⟩
            · rw [hi0] at h;exact absurd h (by decide)
            · cases h;cases h2
          revert Ru Rv
          apply str_of h5
          apply str_of h3
          intro Ru Rv
          apply Ru.strE
          intro t
          apply Rv.strE
          intro t'
          refine kat_cons (wpAny_eqBool_str ?_)
          by_cases hac:a=c
          · rw [if_pos hac] at h4
            rw [decide_eq_true hac]
            exact kat_yes (next h4.symm)
          · rw [if_neg hac] at h4
            rw [← h4] at e
            rw [decide_eq_false hac]
            refine kat_no ?_
            rw [hi1]
            cases e
            refine kat_one _ _ (PyProof.Rows.lt_str ?_)
            unfold ltStr at h
            rw [ltCps_lt] at h
            exact h
inductive KeysT (h:Heap) (vs:List Value):Prop
  | mk (fs:List Value):KatTups h vs fs→fs.length=vs.length→(∀ v ∈ fs,∃ i t,v=.int i t)→KeysT h vs
theorem key_int {x:V} {P:V→Prop} (h:keyV x=true) (k:∀ i l,P (.tup (.int i::l))):P x:=by
  cases x <;> first | (cases h;done) | skip
  rename_i vs
  cases vs with
  | nil=>cases h
  | cons v l=>cases v <;> first | (cases h;done) | exact k _ _
theorem keys_tups (I:Inv prog w cls base Z αs μ s.heap):∀ {xs:List V} {vs:List Value},Reps prog w Z αs vs xs→xs.all keyV=true→KeysT s.heap vs:=by
  intro xs
  induction xs with
  | nil=>intro vs r _;cases r;exact ⟨[],.nil,rfl,fun _ h=>nomatch h⟩
  | cons x xs ih=>
    intro vs r h
    rw [List.all_cons,Bool.and_eq_true] at h
    cases r with
    | cons R r=>
      obtain ⟨fs,h1,h2,h3⟩:=ih r h.2
      revert R
      apply key_int h.1
      intro i l R
      apply tup_at I R
      rintro a us ⟨o,ho,hc,n,hd⟩ hz ru
      cases ru with
      | cons r1 r2=>
        revert hd
        apply r1.intE
        intro t hd
        exact ⟨.int i t::fs,.cons ho hc hd rfl h1,congrArg Nat.succ h2,fun v hv=>(List.mem_cons.mp hv).elim (fun e=>⟨i,t,e⟩) (h3 v)⟩
theorem reps_pick {vs:List Value} {xs:List V} (r:Reps prog w Z αs vs xs) (l:List Nat):Reps prog w Z αs (l.map fun i=>vs.getD i Value.none) (l.map fun i=>xs.getD i .none):=by
  induction l with
  | nil=>exact .nil
  | cons i l ih=>
    refine .cons ?_ ih
    dsimp only
    rw [List.getD_eq_getElem?_getD,List.getD_eq_getElem?_getD]
    cases hi:vs[i]? with
    | none=>
      rw [List.getElem?_eq_none_iff,r.length,← List.getElem?_eq_none_iff] at hi
      rw [hi];exact .none
    | some v=>
      obtain ⟨d,hd,R⟩:=r.get' hi
      rw [hd];exact R
theorem ask_ok (I:Inv prog w cls base Z αs μ s.heap) {vs:List Value} {xs:List V} (r:Reps prog w Z αs vs xs) (hk:xs.all keyV=true) {i j:Nat} {b:Bool} (hb:askV xs i j=some b) {C:Bool→Shared→Prop} (hC:C b s):kas_ask prog w A (tuples' true) vs i j C s:=by
  refine bnd hb fun x ha hb=>bnd hb fun y hb' hb=>bnd hb fun ks h1 hb=>bnd hb fun ls h2 hb=>?_
  obtain ⟨u,hu,Ru⟩:=r.get ha
  obtain ⟨v,hv,Rv⟩:=r.get hb'
  have hkey:=List.all_eq_true.mp hk _ (List.mem_of_getElem? ha)
  show wpAny _ _ (keyLt' (tuples' true) (vs.getD i .none) (vs.getD j .none)) _ _ _
  rw [List.getD_eq_getElem?_getD,List.getD_eq_getElem?_getD,hu,hv]
  have hks:∃ k l,ks=.int k::l:=by
    revert h1
    apply key_int hkey
    intro i l e
    cases e
    exact ⟨i,l,rfl⟩
  revert Ru Rv
  apply tup_of h1
  apply tup_of h2
  intro Ru Rv
  show wpAny _ _ (keyLt' (tuples' true) u v) _ _ _
  apply tup_at I Ru
  rintro ad us ⟨o,ho,hc,n,hd⟩ _ ru
  apply tup_at I Rv
  rintro ad' ws ⟨o',ho',hc',n',hd'⟩ _ rv
  exact kat_lt ho hd ho' hd' (lex_ok hC ks ls us ws 0 (.inr hks) ru rv hb (by rw [List.size_toArray,List.size_toArray]))
theorem sorted_any (hh:A.handled=none) (I:Inv prog w cls base Z αs μ s.heap) {x:Value} {vs:List Value} {xs ys:List V} (r:Reps prog w Z αs vs xs) (e:sortV xs=some ys)
    (hcol:∀ Q:List Value→Shared→Prop,(∀ h' tk,(∀ b o,s.heap.get? b=some o→h'.get? b=some o)→Q vs { s with heap:=h',toks:=tk })→wpAny (model prog w) A.in1 (collect x) Q FF s) (hz:vs.length<64) :
    wpAny (model prog w) A (call (.builtin "sorted") [x]) (OutE prog w cls base lo Z αs s μ (.lst ys)) FF s:=by
  refine Calls.call_function_entry kind_sorted plain_sorted entry_sorted (args_sorted1 _) ?_
  unfold Builtin.«sorted»
  refine wpAny_bind (m:=checkCount "sorted" 1 1 _) (wpAny_pure ?_)
  refine wpAny_bind (hcol _ fun h' tk hk=>?_)
  refine wpAny_bind (wpAny_newList ?_ (by rw [sizeLine_eq];omega))
  have hoL:(h'.push (seqObj "list" vs.toArray 0)).get? h'.objs.size=some (seqObj "list" vs.toArray 0):=Heap.get?_push_size _ rfl
  have keep:∀ b o,s.heap.get? b=some o→(h'.push (seqObj "list" vs.toArray 0)).get? b=some o:=fun b o q=>Heap.get?_push_of_some _ (hk b o q)
  have hdead:s.heap.get? h'.objs.size=none:=by
    cases q:s.heap.get? h'.objs.size with
    | none=>rfl
    | some o=>have:=hk _ _ q;rw [dead_size] at this;cases this
  have hne:∀ b o,s.heap.get? b=some o→b≠h'.objs.size:=fun b o q e=>by rw [e,hdead] at q;cases q
  show wpAny _ _ _ _ _ { s with heap:=h'.push (seqObj "list" vs.toArray 0),toks:=tk }
  have hlen:=r.length
  have hz9:vs.length≤sizeLine:=Nat.le_trans (Nat.le_of_lt hz) (by decide)
  have done:∀ (ws:List Value),Reps prog w Z αs ws ys→ws.length≤sizeLine→∀ h'' c,(∀ b o,b≠h'.objs.size→(h'.push (seqObj "list" vs.toArray 0)).get? b=some o→h''.get? b=some o)→h''.get? h'.objs.size=some (seqObj "list" ws.toArray c)→
      OutE prog w cls base lo Z αs s μ (.lst ys) (.ref h'.objs.size) { s with heap:=h'',toks:=tk }:=fun ws rw' hwz h'' c hk' ho'=>
    .fast I hdead (fun b o q=>hk' b o (hne b o q) (keep b o q)) ho' (rep_fast_lst hwz rw')
  refine wpAny_bind (wpAny_holding (wpAny_call_entry slot_list_sort ⟨_,hoL,rfl⟩ entry_list_sort ?body (args_list_sort _)))
  case body=>
    unfold sortV at e
    by_cases h2:xs.length<2
    · rw [if_pos h2] at e
      cases e
      rw [← hlen] at h2
      exact sort_at (lt:=fun _ _=>none) (p:=#[]) (s:={ s with heap:=h'.push (seqObj "list" vs.toArray 0),toks:=tk }) hoL hz (.inl ⟨h2,rfl⟩) (fun h=>absurd h2 (Nat.not_lt.mpr h)) fun h'' c _ hk' ho'=>⟨_,rfl,wpAny_pure ⟨_,rfl,done vs r hz9 h'' c hk' ho'⟩⟩
    · rw [if_neg h2] at e
      refine ift e fun hg e=>mpd e fun p hp e=>?_
      rw [← hlen] at h2 hp
      rw [← e] at done ⊢
      have h2':=Nat.le_of_not_lt h2
      refine sort_at (lt:=askV xs) (p:=p) (s:={ s with heap:=h'.push (seqObj "list" vs.toArray 0),toks:=tk }) hoL hz (.inr ⟨h2',hp,rfl⟩) (fun _ s' hk'=>?_) fun h'' c hps hk' ho'=>⟨_,rfl,wpAny_pure ⟨_,rfl,done _ (reps_pick r _) (by rw [List.length_map,Array.length_toList,hps h2'];exact hz9) h'' c hk' ho'⟩⟩
      have I':Inv prog w cls base Z αs μ s'.heap:=I.keeps fun b o q=>hk' b o (hne b o q) (keep b o q)
      obtain ⟨fs,t1,t2,t3⟩:=keys_tups I' r hg.2
      refine ⟨tuples' true,fun Q hq=>?_,fun i j b hb C hC=>ask_ok I' r hg.2 hb hC⟩
      refine kat_kind (T:=.type "int") t1 (by rw [t2];exact Nat.lt_of_lt_of_le Nat.zero_lt_two h2') (fun v hv=>?_) (by decide) (by rw [show (Value.type "int" != Value.type "tuple")=true from by decide];exact hq)
      obtain ⟨i,t,e⟩:=t3 v hv
      rw [e]
      exact fun A Q E s _ q=>wpAny_typeOf (T := "int") (typeIs_int s i t) q
theorem sort_len {xs ys:List V} (e:sortV xs=some ys):xs.length<64:=by
  unfold sortV at e
  by_cases h2:xs.length<2
  · exact Nat.lt_of_lt_of_le h2 (by decide)
  · rw [if_neg h2] at e
    exact ift e fun h _=>h.1
theorem sorted_list_ok (hh:A.handled=none) (I:Inv prog w cls base Z αs μ s.heap) {x:Value} {v:V} {xs ys:List V} (R:Rep prog w Z αs x v) (hv:listV μ v=some xs) (e:sortV xs=some ys):wpAny (model prog w) A (call (.builtin "sorted") [x]) (OutE prog w cls base lo Z αs s μ (.lst ys)) FF s:=by
  apply list_at I R hv
  intro a vs hl hz r
  refine sorted_any hh I r e (fun Q h=>collect_list hl (h _ _ fun b o q=>?_) hz) (r.length ▸ sort_len e)
  have hlt:b<s.heap.objs.size:=Heap.lt_size q
  rw [Heap.get?_update_ne _ _ _ _ (Nat.ne_of_lt hlt),Heap.get?_push_ne _ _ _ (Nat.ne_of_lt hlt)]
  exact q
noncomputable def DictRaw (h:Heap) (d:Addr) (es:List DictEntry) (ep:Nat):Prop:=∃ o,h.get? d=some o∧o.ExactDict∧o.data=.dict es.toArray ep
theorem DictRaw.at {h h':Heap} {d:Addr} {es:List DictEntry} {ep:Nat} (x:DictRaw h d es ep) (e:∀ o,h.get? d=some o→h'.get? d=some o):DictRaw h' d es ep:=let ⟨o,ho,r⟩:=x;⟨o,e _ ho,r⟩
theorem raw_iter {d:Addr} {es:List DictEntry} {ep:Nat} {E:Value→Shared→Prop} {Q:Value→Shared→Prop} (hd:(d == sysModules)=false) (hm:DictRaw s.heap d es ep)
    (hQ:Q (.ref s.heap.objs.size) { s with heap:=s.heap.push { cls:=.type "dict_keyiterator", data:=.fields #[.ref d,.int 0 0,.int es.length 0,.int ep 0] } }) :
    wpAny (model prog w) A (pyIter (.ref d)) Q E s:=by
  obtain ⟨o,ho,hc,hdat⟩:=hm
  have hT:s.TypeIs (.ref d) "dict" := ⟨o,ho,hc.1⟩
  refine wpAny_pyIter_slot hT F.slot_dict_iter (wpAny_call_entry F.slot_dict_iter hT F.entry_dict_iter ?_ (F.args_dict_iter_1 _))
  unfold Builtin.«dict.__iter__»
  refine wpAny_bind ?_
  unfold Builtin.Dict.dictSlotNone
  refine wpAny_bind (wpAny_notOrdered_dict hT ?_)
  show wpAny _ _ (pure (Value.ref d)) _ _ s
  refine wpAny_pure ?_
  show wpAny _ _ (Builtin.Dict.showsAll d >>= _) _ _ s
  unfold Builtin.Dict.showsAll
  rw [if_neg (by rw [hd];exact Bool.false_ne_true)]
  refine wpAny_bind (wpAny_pure (wpAny_bind (wpAny_dictEntries ho hdat (wpAny_bind (wpAny_dictEpoch ho hdat ?_)))))
  refine wpAny_bind (wpAny_newObj_type (wpAny_pure ⟨_,rfl, "dict_keyiterator", _,⟨_,Heap.get?_push_size _ rfl,rfl⟩,F.slot_dict_keyiterator_next.lookup,?_⟩))
  simpa [rawInt] using hQ
theorem view_at {α:Type} {x:Array α} {i:Nat}:(if (i:Int)<0 then none else x[(i:Int).toNat]?)=x[i]?:=if_neg (Int.not_lt.mpr (Int.natCast_nonneg i))
theorem raw_next {it d:Addr} {i ep:Nat} {es:List DictEntry} {E:Value→Shared→Prop} {Q:Option Value→Shared→Prop} (hh:A.handled=none) (hit:s.heap.IsKeyIter it d i es.length ep) (hm:DictRaw s.heap d es ep)
    (hmore:∀ e h',es[i]?=some e→h'.IsKeyIter it d (i + 1) es.length ep→Heap.SameBut it s.heap h'→Q (some e.key) { s with heap:=h' })
    (hend:es.length≤i→∀ h',Heap.ExtBut it s.heap h'→Q none { s with heap:=h' }) :
    wpAny (model prog w) A (pyNext (.ref it)) Q E s:=by
  obtain ⟨o,ho,hc,hd⟩:=id hit
  obtain ⟨od,hod,hcd,hdd⟩:=id hm
  unfold pyNext
  refine wpAny_bind (wpAny_attempt (wpAny_callSpecial?_slot (name:=Str.ofString "__next__") hit.typeIs F.slot_dict_keyiterator_next
    (wpAny_call_entry F.slot_dict_keyiterator_next hit.typeIs F.entry_dict_keyiterator_next ?_ (F.args_dict_keyiterator_next_1 _))))
  refine wpAny_bind (wpAny_pure (wpAny_bind (wpAny_bind ?_)))
  first | refine wpAny_bind (wpAny_typeNameOfWhole_keyiter hit.typeIs (wpAny_pure ?_)) | refine wpAny_bind (wpAny_typeNameOf_keyiter hit.typeIs (wpAny_pure ?_))
  refine wpAny_bind (wpAny_fieldsOf ho hd ?_)
  show wpAny _ _ (if (Value.ref d == Value.none)=true then _ else _) _ _ s
  rw [if_neg (show ¬ ((Value.ref d == Value.none)=true) from Bool.false_ne_true)]
  refine wpAny_bind (wpAny_pure (wpAny_bind (wpAny_dictEntries hod hdd ?_)))
  rw [if_neg (by simp)]
  refine wpAny_bind (wpAny_pure (wpAny_bind (wpAny_dictEpoch hod hdd ?_)))
  rw [if_neg (by simp)]
  refine wpAny_pure ?_
  rcases Nat.lt_or_ge i es.length with hlt | hge
  · have hlt':i<es.toArray.size:=by simpa using hlt
    dsimp only
    rw [view_at,Array.getElem?_eq_getElem hlt']
    refine wpAny_bind ?_
    first | refine wpAny_bind (wpAny_typeNameOfWhole_keyiter hit.typeIs (wpAny_pure ?_)) | refine wpAny_bind (wpAny_typeNameOf_keyiter hit.typeIs (wpAny_pure ?_))
    refine wpAny_bind (wpAny_isOneOf_keyiter hit.typeIs ?_)
    show wpAny _ _ (setField (.ref it) 1 (rawInt ((i:Int) + 1)) >>= _) _ _ s
    refine wpAny_bind (wpAny_setField ho hd (by simp) ?_)
    have hit':(s.heap.update it (Obj.mapFields (·.setIfInBounds 1 (rawInt ((i:Int) + 1))))).IsKeyIter it d (i + 1) es.length ep:=
      ⟨_,Heap.get?_update_self _ ho (Obj.isFreed_of_fields (Obj.data_mapFields hd _)),(Obj.cls_mapFields ..).trans hc,by rw [Obj.data_mapFields hd];simp [rawInt]⟩
    refine wpAny_bind (wpAny_holding ?_)
    refine wpAny_bind (wpAny_isOneOf_keyiter (s:={ s with heap:=s.heap.update it (Obj.mapFields (·.setIfInBounds 1 (rawInt ((i:Int) + 1)))) }) hit'.typeIs ?_)
    show wpAny _ _ (pure es.toArray[i].key) _ _ _
    exact wpAny_pure (wpAny_pure ⟨_,rfl,wpAny_pure (hmore _ _ (by simp [hlt]) hit' (Heap.SameBut.update ..))⟩)
  · have hge':es.toArray.size≤i:=by simpa using hge
    dsimp only
    rw [view_at,Array.getElem?_eq_none hge']
    refine wpAny_bind ?_
    first | refine wpAny_bind (wpAny_typeNameOfWhole_keyiter hit.typeIs (wpAny_pure ?_)) | refine wpAny_bind (wpAny_typeNameOf_keyiter hit.typeIs (wpAny_pure ?_))
    show wpAny _ _ (setField (.ref it) 0 .none >>= _) _ _ s
    refine wpAny_bind (wpAny_setField ho hd (by simp) ?_)
    show wpAny _ _ (newExc (.type "StopIteration") [] >>= _) _ _ _
    refine wpAny_bind ?_
    simp only [newExc,newTuple]
    refine wpAny_bind (wpAny_newObj_type ?_ (by size_fits))
    refine wpAny_bind (m:=firstArgMember _ _) (wpAny_of_eq (a:=Value.none) (by first | rfl | (simp only [firstArgMember];rfl)) ?_)
    refine wpAny_newObj_type ?_ (by size_fits)
    simp only [raiseNew]
    refine wpAny_bind (wpAny_handled ?_)
    rw [show A.in1.handled=none from hh]
    refine wpAny_bind (wpAny_pure (wpAny_throw ?_))
    refine wpAny_bind (wpAny_isInstance (T := "StopIteration") (b:=true) ⟨_,Heap.get?_push_size _ rfl,rfl⟩ isSubtype_stop ?_)
    exact wpAny_pure (hend hge _ (((Heap.SameBut.update ..).extBut.push _).push _))
theorem raw_walks (hh:A.handled=none) (J d:Addr) (hne:d≠J) (es:List DictEntry) (ep:Nat) :
    Walks prog w A J [J,d] [J] es.length (fun i v=>∃ e,es[i]?=some e∧v=e.key) (fun i h=>h.IsKeyIter J d i es.length ep∧DictRaw h d es ep) where
  sub:=fun b hb=>by simp at hb;simp [hb]
  frame:=fun _ _ _ st hk=>⟨st.1.at fun o e=>hk J (by simp) o e,st.2.at fun o e=>hk d (by simp) o e⟩
  item:=fun i s Q E hi st hQ=>raw_next hh st.1 st.2 (fun e h' he hit' hs'=>hQ e.key h' s.toks ⟨e,he,rfl⟩ ⟨hit',st.2.at fun o q=>hs'.extBut _ _ hne q⟩ fun b o hb e=>hs'.extBut b o (fun h=>hb (by simp [h])) e) fun hge=>absurd hi (by omega)
  done:=fun s Q E st hQ=>raw_next hh st.1 st.2 (fun e h' he=>by rw [List.getElem?_eq_none (Nat.le_refl _)] at he;cases he) fun _ h' he'=>hQ h' s.toks fun b o hb e=>he' b o (fun h=>hb (by simp [h])) e
  self:=fun _ _ _ _ st hQ=>wpAny_pyIter_keyiter st.1 hQ
end
end Mine
namespace Mine
open PySem PySem.W PySem.Calls PyProof.Rows
section
variable {lo:Nat} {prog:Program} {w:World} {cls:Str→Option Addr} {base:Heap} {Z Z' Z'':Addr→Obj→Prop} {αs αs' αs'':List Addr} {s s' s'':Shared} {μ μ' μ₁ μ₂:M} {A:Around} {env:Env} {ρ ρ':Rho} {n:Nat} {K:Frag} {T:Tab} {cb:Calls}
theorem collect_dict {d:Addr} {es:List DictEntry} {ep:Nat} (hh:A.handled=none) (hd:(d == sysModules)=false) (hm:DictRaw s.heap d es ep) (hz:es.length≤sizeLine) (Q:List Value→Shared→Prop)
    (h:∀ h' tk,(∀ b o,s.heap.get? b=some o→h'.get? b=some o)→Q (es.map (·.key)) { s with heap:=h',toks:=tk }):wpAny (model prog w) A (collect (.ref d)) Q FF s:=by
  have hdT:∀ s':Shared,DictRaw s'.heap d es ep→s'.TypeIs (.ref d) "dict" := fun s' ⟨o,ho,hc,_⟩=>⟨o,ho,hc.1⟩
  unfold collect
  refine wpAny_bind (wpAny_runValue (codeAny_builtin entry_proto_collect' ?_))
  show wpAny _ _ (do again (.builtin "list.__iadd__" ⟨[← newList [],.ref d],[]⟩)) _ _ s
  refine wpAny_bind (wpAny_newList (wpAny_pure ⟨Code.quiet_builtin _ (by decide +kernel),codeAny_builtin entry_list_iadd' ?_⟩))
  show wpAny _ _ (Builtin.List.listExtendWith (.ref s.heap.objs.size) (.ref d) (.ref s.heap.objs.size)) _ _ { s with heap:=s.heap.push (seqObj "list" #[] 0) }
  generalize hS:s.heap.objs.size=S
  have hS0:(s.heap.push (seqObj "list" #[] 0)).get? S=some (seqObj "list" #[] 0):=hS ▸ Heap.get?_push_size _ rfl
  have hm0:DictRaw (s.heap.push (seqObj "list" #[] 0)) d es ep:=hm.at fun o e=>Heap.get?_push_of_some _ e
  have hdS:d≠S:=by
    obtain ⟨o,ho,_⟩:=hm
    exact fun e=>Nat.ne_of_lt (Heap.lt_size ho) (e.trans hS.symm)
  have old0:∀ b o,s.heap.get? b=some o→(s.heap.push (seqObj "list" #[] 0)).get? b=some o∧b≠S:=fun b o e=>⟨Heap.get?_push_of_some _ e,fun e'=>Nat.ne_of_lt (Heap.lt_size e) (e'.trans hS.symm)⟩
  generalize s.heap.push (seqObj "list" #[] 0)=H0 at hS0 hm0 old0
  unfold Builtin.List.listExtendWith
  refine wpAny_bind (wpAny_typeOf (T := "dict") (hdT { s with heap:=H0 } hm0) ?_)
  have e1:Builtin.List.listSameRef (.ref S) (.ref d)=false:=by simp [Builtin.List.listSameRef,Ne.symm hdS]
  have e2:(Value.type "dict" == Value.type "list")=false:=by decide
  have e3:(Value.type "dict" == Value.type "tuple")=false:=by decide
  simp only [e1,e2,e3,Bool.or_false,Bool.false_eq_true,if_false]
  refine wpAny_bind (raw_iter hd hm0 ?_)
  dsimp only
  generalize hJ:H0.objs.size=J
  have hJ1:(H0.push { cls:=.type "dict_keyiterator", data:=.fields #[.ref d,.int 0 0,.int es.length 0,.int ep 0] }).IsKeyIter J d 0 es.length ep:=⟨_,hJ ▸ Heap.get?_push_size _ rfl,rfl,rfl⟩
  have hJd:J≠d:=by
    obtain ⟨o,ho,_⟩:=hm0
    exact fun e=>Nat.ne_of_lt (Heap.lt_size ho) (e.symm.trans hJ.symm)
  have hSJ:S≠J:=fun e=>Nat.ne_of_lt (Heap.lt_size hS0) (e.trans hJ.symm)
  have hS1:=Heap.get?_push_of_some { cls:=.type "dict_keyiterator", data:=.fields #[.ref d,.int 0 0,.int es.length 0,.int ep 0] } hS0
  have hm1:DictRaw (H0.push { cls:=.type "dict_keyiterator", data:=.fields #[.ref d,.int 0 0,.int es.length 0,.int ep 0] }) d es ep:=hm0.at fun o e=>Heap.get?_push_of_some _ e
  have old1:∀ b o,s.heap.get? b=some o→(H0.push { cls:=.type "dict_keyiterator", data:=.fields #[.ref d,.int 0 0,.int es.length 0,.int ep 0] }).get? b=some o∧b≠S∧b≠J:=fun b o e=>
    ⟨Heap.get?_push_of_some _ (old0 b o e).1,(old0 b o e).2,fun e'=>Nat.ne_of_lt (Heap.lt_size (old0 b o e).1) (e'.trans hJ.symm)⟩
  generalize H0.push { cls:=.type "dict_keyiterator", data:=.fields #[.ref d,.int 0 0,.int es.length 0,.int ep 0] }=H1 at hJ1 hS1 hm1 old1
  have W:=raw_walks (prog:=prog) (w:=w) (A:=A.in1) hh J d (Ne.symm hJd) es ep
  refine wpAny_bind (wpAny_holding (kdl_hint_dict (hdT { s with heap:=H1 } hm1) ?_))
  have key:∀ (R:Result→Shared→Prop) (h₂:Heap) (c₁ tk₂:Nat),(∀ b o,b≠S→H1.get? b=some o→h₂.get? b=some o)→h₂.get? S=some (seqObj "list" (List.toArray []) c₁)→
      (∀ h₃ tk₃ c₃,(∀ b o,s.heap.get? b=some o→h₃.get? b=some o)→h₃.get? S=some (seqObj "list" (es.map (·.key)).toArray c₃)→R (.ok (.ret (.ref S))) { s with heap:=h₃,toks:=tk₃ })→
      codeAny (model prog w) A (.builtin "list.extend.loop" ⟨[.ref S,.ref J,.ref S],[]⟩) R { s with heap:=h₂,toks:=tk₂ }:=by
    intro R h₂ c₁ tk₂ hk₂ hS₂ hR
    have hst₂:h₂.IsKeyIter J d 0 es.length ep∧DictRaw h₂ d es ep:=⟨hJ1.at fun o e=>hk₂ J o (Ne.symm hSJ) e,hm1.at fun o e=>hk₂ d o hdS e⟩
    refine extend_loop W S (by simp [hSJ,Ne.symm hdS]) (.head _) (.ref S) es.length 0 { s with heap:=h₂,toks:=tk₂ } [] c₁ (by omega) (by omega) (by simpa using hz) hst₂ hS₂ fun h₃ tk₃ new c₃ hk₃ hS₃ hnew hP₃=>?_
    have hn:new=es.map (·.key):=by
      apply List.ext_getElem?
      intro i
      rw [List.getElem?_map]
      cases hi:new[i]? with
      | none=>
        rw [List.getElem?_eq_none (by rw [← hnew];exact List.getElem?_eq_none_iff.mp hi)];rfl
      | some v=>
        obtain ⟨e,h1,h2⟩:=hP₃ i v hi
        rw [Nat.zero_add] at h1
        rw [h1,h2];rfl
    rw [List.nil_append,hn] at hS₃
    exact hR h₃ tk₃ c₃ (fun b o e=>hk₃ b o (old1 b o e).2.1 (old1 b o e).2.2 (hk₂ b o (old1 b o e).2.1 (old1 b o e).1)) hS₃
  refine wpAny_ite_split (fun _=>?_) (fun _=>wpAny_pure ⟨plainId_quiet F.plain_extend_loop _,key _ H1 0 _ (fun _ _ _ e=>e) hS1 fun h₃ tk₃ c₃ hk₃ hS₃=>?_⟩)
  · refine wpAny_bind (wpAny_rule (wpAny_bind ?_))
    show wpAny _ _ (updateSeq S (·.push .none) >>= fun _=>updateSeq S (·.pop)) _ _ _
    refine wpAny_bind (wpAny_updateSeq hS1 rfl ?_ (Nat.zero_le _) (by show 1≤sizeLine + 1;omega))
    have hS₂:=Heap.get?_update_self (Obj.mapSeq (·.push Value.none)) hS1 rfl
    refine wpAny_updateSeq (hz:=by show 1≤sizeLine;decide) (_hz':=Nat.zero_le _) hS₂ rfl ?_
    obtain ⟨c₂,hc₂⟩:((H1.update S (Obj.mapSeq (·.push Value.none))).update S (Obj.mapSeq (·.pop))).PlainList S (((#[]:Array Value).push Value.none).pop):=by
      obtain ⟨c₁,hc₁⟩:=mapSeq_plain (f:=(·.push Value.none)) hS1
      exact mapSeq_plain (f:=(·.pop)) hc₁
    refine wpAny_pure ⟨plainId_quiet F.plain_extend_loop _,key _ _ c₂ _ (fun q o hq e=>(Heap.get?_update_other _ _ (Ne.symm hq)).trans ((Heap.get?_update_other _ _ (Ne.symm hq)).trans e)) hc₂ fun h₃ tk₃ c₃ hk₃ hS₃=>?_⟩
    show wpAny _ A _ Q FF _
    refine wpAny_bind (wpAny_load hS₃ ?_)
    exact wpAny_pure (h h₃ tk₃ hk₃)
  · show wpAny _ A _ Q FF _
    refine wpAny_bind (wpAny_load hS₃ ?_)
    exact wpAny_pure (h h₃ tk₃ hk₃)
theorem sorted_dict_ok (hh:A.handled=none) (I:Inv prog w cls base Z αs μ s.heap) {x:Value} {xs ys:List V} (R:Rep prog w Z αs x (.dct xs)) (e:sortV xs=some ys):wpAny (model prog w) A (call (.builtin "sorted") [x]) (OutE prog w cls base lo Z αs s μ (.lst ys)) FF s:=by
  have h64:=sort_len e
  cases R.inv with
  | dI a o kvs ks hks hz h0 h1 h2 h3=>
    obtain ⟨es,ep,hx,hd,hk,hp,hn⟩:=h1
    have hraw:DictRaw s.heap a es.toList ep:=⟨o,I.fast _ _ hz,hx,by rw [Array.toArray_toList];exact hd⟩
    have hlen:=hp.length
    have hr:Reps prog w Z αs (es.toList.map (·.key)) xs:=by
      rw [hks,← h2]
      clear hk hn hraw hd hlen h3 h2
      generalize es.toList=l at hp
      induction hp with
      | nil=>exact .nil
      | cons k1 k2 r ih=>
        obtain ⟨t,e⟩:=Value.isInt_shape k1
        refine .cons ?_ ih
        dsimp only;rw [e];exact .int _ t
    exact sorted_any hh I hr e (collect_dict (A:=A.in1) hh h0 hraw (hlen.symm ▸ h3)) (hr.length.symm ▸ h64)
  | dT a o es ep hz h0 h1 h2 h3 h4 h5=>
    exact sorted_any hh I h4 e (collect_dict (A:=A.in1) hh h0 ⟨o,I.fast _ _ hz,h1,h2⟩ h3) (h4.length.symm ▸ h64)
end
end Mine
namespace Mine
open PySem PySem.W PySem.Calls PyProof.Rows
section
variable {lo:Nat} {prog:Program} {w:World} {cls:Str→Option Addr} {base:Heap} {Z Z' Z'':Addr→Obj→Prop} {αs αs' αs'':List Addr} {s s' s'':Shared} {μ μ' μ₁ μ₂:M} {A:Around} {env:Env} {ρ ρ':Rho} {n:Nat} {K:Frag} {T:Tab} {cb:Calls}
structure DefFr (prog:Program) (w:World) (base:Heap) (scope:Scope) (env:Env) (Z:Addr→Obj→Prop) (αs:List Addr) (s:Shared) (h':Heap):Prop where
  keep:∀ b o,s.heap.get? b=some o→h'.get? b=some o
  loc:Loc prog w base env (fun _=>none) Z αs h'
  sc:Sc scope env (ownOf scope s.heap.objs.size)
  own:∀ a ∈ ownOf scope s.heap.objs.size,s.heap.get? a=none
  fr:fr env=ownOf scope s.heap.objs.size
theorem def_frame {scope:Scope} {clo:List (Str×Addr)} (hk:scope.kind=.function) (hn:(scope.names.map (·.1)).Nodup) (hcl:∀ p ∈ scope.names,p.1=Str.ofString "__class__" ↔ p.2=.free) (hclo:∀ p ∈ clo,p.1=Str.ofString "__class__") (I:Inv prog w cls base Z αs μ s.heap) (henv:env.scope=scope) (hL:env.locals=s.heap.objs.size) (hg:env.globals=mainGlobals) (hb:env.builtins=builtinsNs)
    (hcells:env.cells=cellsFrom (s.heap.objs.size + 1) scope.names []++clo) {o₀:Obj} (ho₀:o₀={ cls:=.type "frame", data:=.dict #[] }) {h':Heap} (hh:h'=pushCells (s.heap.push o₀) scope.names) :
    DefFr prog w base scope env Z αs s h':=by
  subst hh
  subst ho₀
  have keep:∀ b o,s.heap.get? b=some o→(pushCells (s.heap.push { cls:=.type "frame", data:=.dict #[] }) scope.names).get? b=some o:=fun b o e=>pushCells_keeps _ _ b o (Heap.get?_push_of_some _ e)
  have ok:=cellsFrom_ok scope.names (s.heap.push { cls:=.type "frame", data:=.dict #[] }) (s.heap.objs.size + 1) [] ⟨fun _ _ hm=>(nomatch hm),List.Pairwise.nil⟩ (by rw [Heap.size_push];exact Nat.le_refl _)
  rw [Heap.size_push] at ok
  have cellN:∀ p ∈ cellsFrom (s.heap.objs.size + 1) scope.names [],p.1≠Str.ofString "__class__" := fun p hp e=>by
    have h1:=cellsFrom_mem (x:=p.1) (c:=p.2) hp
    have:=(hcl _ h1).mp e
    cases this
  have lk:∀ {x k},scope.names.lookup x=some k→(x,k) ∈ scope.names:=fun h=>mem_of_lookup h
  have lkC:∀ {x},scope.names.lookup x=some .cell→∃ c,(x,c) ∈ cellsFrom (s.heap.objs.size + 1) scope.names []:=fun {x} h=>by
    have:x ∈ (cellsFrom (s.heap.objs.size + 1) scope.names []).map (·.1):=by
      rw [cellsFrom_names]
      exact List.mem_map.mpr ⟨(x,.cell),List.mem_reverse.mpr (List.mem_filter.mpr ⟨lk h,rfl⟩),rfl⟩
    obtain ⟨⟨y,c⟩,h1,rfl⟩:=List.mem_map.mp this
    exact ⟨c,h1⟩
  have hC:(pushCells (s.heap.push { cls:=.type "frame", data:=.dict #[] }) scope.names).get? s.heap.objs.size=some { cls:=.type "frame", data:=.dict #[] }:=pushCells_keeps _ _ _ _ (Heap.get?_push_size _ rfl)
  have dead:∀ a,s.heap.objs.size≤a→s.heap.get? a=none:=fun a ha=>Heap.get?_none_of_le ha
  have offN:∀ a,s.heap.objs.size≤a→(∃ o,(pushCells (s.heap.push { cls:=.type "frame", data:=.dict #[] }) scope.names).get? a=some o)→Off base Z αs (pushCells (s.heap.push { cls:=.type "frame", data:=.dict #[] }) scope.names) a:=fun a ha h=>by
    obtain ⟨o,ho⟩:=h
    exact Off.new I (dead a ha) ho
  have hvc:vcells env=cellsFrom (s.heap.objs.size + 1) scope.names []:=by
    unfold vcells
    rw [hcells,List.filter_append,List.filter_eq_self.mpr fun p hp=>by simpa using cellN p hp,List.filter_eq_nil_iff.mpr fun p hp=>by simpa using hclo p hp,List.append_nil]
  have hfr:fr env=ownOf scope s.heap.objs.size:=by unfold fr ownOf;rw [hvc,hL]
  have hln:((cellsFrom (s.heap.objs.size + 1) scope.names []).map (·.1)).Nodup:=by
    have:=cells_names (env:=env) hn (k:=s.heap.objs.size + 1)
    rw [List.map_append,List.nodup_append] at this
    exact this.1
  have look:∀ {x c},(x,c) ∈ cellsFrom (s.heap.objs.size + 1) scope.names []→env.cells.lookup x=some c:=fun {x c} hx=>by
    have hne:=cellN _ hx
    rw [← vcells_lookup (c:=c) hne]
    show (vcells env).lookup x=some c
    rw [hvc];exact lookup_of_mem hln hx
  have kind:∀ x,env.kindOf x=scope.names.lookup x:=fun x=>by unfold Env.kindOf;rw [henv]
  refine ⟨keep,⟨by rw [henv];exact hk,hg,hb,⟨fun _=>none,by rw [hL];exact (Heap.Ns.new s.heap (.type "frame")).keeps (pushCells_keeps _ _),fun x v hv=>nomatch hv⟩,?_,?_,?_⟩,⟨?_,?_,?_,?_⟩,?_,?_⟩
  · intro x hxc hx
    rw [kind] at hx
    rcases hx with hx | hx
    · obtain ⟨c,hc⟩:=lkC hx
      exact ⟨c,none,look hc,(ok.empty x c hc).1,fun v hv=>nomatch hv⟩
    · exact absurd ((hcl _ (lk hx)).mpr rfl) hxc
  · intro a ha
    replace ha:a ∈ fr env:=ha
    rw [hfr] at ha
    rcases List.mem_cons.mp ha with rfl | ha
    · exact offN _ (Nat.le_refl _) ⟨_,hC⟩
    · obtain ⟨⟨x,c⟩,h1,rfl⟩:=List.mem_map.mp ha
      obtain ⟨⟨o,h2,_⟩,h3⟩:=ok.empty x c h1
      exact offN c (Nat.le_of_succ_le h3) ⟨o,h2⟩
  · show (fr env).Nodup
    rw [hfr]
    unfold ownOf
    rw [List.nodup_cons]
    refine ⟨fun hm=>?_,List.pairwise_map.mpr ok.apart⟩
    obtain ⟨p,h1,e⟩:=List.mem_map.mp hm
    have:=(ok.empty p.1 p.2 h1).2
    rw [e] at this
    exact absurd this (Nat.not_succ_le_self _)
  · intro x hx
    rw [kind]
    unfold isVar at hx
    rw [Bool.and_eq_true] at hx
    obtain ⟨hxc,hx⟩:=hx
    split at hx
    · rename_i h;exact .inl h
    · rename_i h;exact .inr (.inl h)
    · rename_i h;exact .inr (.inr h)
    · cases hx
  · intro x hx
    rw [kind]
    unfold isGlob at hx
    exact beq_iff_eq.mp hx
  · intro x hx
    unfold isOwn at hx
    rw [Bool.and_eq_true] at hx
    obtain ⟨hxc,hx⟩:=hx
    split at hx
    · rename_i h
      exact ⟨by simpa using hxc,.inl ⟨by rw [hL];exact .head _,by rw [kind,h]⟩⟩
    · rename_i h
      obtain ⟨c,hc⟩:=lkC h
      exact ⟨by simpa using hxc,.inr ⟨c,.tail _ (List.mem_map.mpr ⟨_,hc,rfl⟩),by rw [kind,h],look hc⟩⟩
    · cases hx
  · intro x hx
    rw [kind]
    unfold isClo at hx
    rw [Bool.and_eq_true] at hx
    obtain ⟨hxc,hx⟩:=hx
    split at hx
    · rename_i h;exact .inl h
    · rename_i h;exact .inr h
    · cases hx
  · intro a ha
    rcases List.mem_cons.mp ha with rfl | ha
    · exact dead _ (Nat.le_refl _)
    · obtain ⟨⟨x,c⟩,h1,rfl⟩:=List.mem_map.mp ha
      exact dead _ (Nat.le_of_succ_le (ok.empty x c h1).2)
  · exact hfr
theorem binds_ok {ow:List Addr} {f:Str×Value→PUnit→Sem (ForInStep PUnit)} (hf:∀ x v u,f (x,v) u=(do storeName env x v;pure (.yield ⟨⟩))):∀ {ps:List (Str×V)} {us:List Value} {Z:Addr→Obj→Prop} {αs:List Addr} {s:Shared} {ρ:Rho},Inv prog w cls base Z αs μ s.heap→Loc prog w base env ρ Z αs s.heap→(∀ p ∈ ps,canStore env ow p.1)→Reps prog w Z αs us (ps.map (·.2))→
    wpAny (model prog w) A (forIn ((ps.map (·.1)).zip us) ⟨⟩ f) (fun _=>OutS prog w cls base lo env ow Z αs s (updAll ρ ps) μ) FF s:=by
  intro ps
  induction ps with
  | nil=>intro us Z αs s ρ I L _ r;cases r;exact wpAny_pure ⟨Z,αs,.refl ..,I,L⟩
  | cons p ps ih=>
    intro us Z αs s ρ I L hc r
    cases r with
    | @cons u us d ds r rs=>
      rw [List.map_cons,List.zip_cons_cons,List.forIn_cons,hf]
      refine wpAny_bind (wpAny_bind (wpAny_mono (store_ok (lo:=lo) I L (hc p (.head _)) r) (fun _ s₁ o=>?_) fun _ _ e=>e))
      obtain ⟨Z₁,α₁,S₁,I₁,L₁⟩:=o
      exact wpAny_pure (wpAny_mono (ih I₁ L₁ (fun q hq=>hc q (.tail _ hq)) (Reps.mono S₁.zsub S₁.asub rs)) (fun _ _ o=>o.trans S₁) fun _ _ e=>e)
theorem params_all {ps:List Str} {vs:List V}:params0 ps vs=updAll (fun _=>none) (ps.zip vs):=rfl
noncomputable def flowOK (prog:Program) (w:World) (Z:Addr→Obj→Prop) (αs:List Addr):Flow→Fl→Prop
  | .next,.next=>True
  | .brk,.brk=>True
  | .ret x,.ret v=>Rep prog w Z αs x v
  | _,_=>False
inductive OutX (prog:Program) (w:World) (cls:Str→Option Addr) (base:Heap) (lo:Nat) (env:Env) (ow:List Addr) (Z:Addr→Obj→Prop) (αs:List Addr) (s:Shared) (fl:Fl) (ρ':Rho) (μ':M) (f:Flow) (s':Shared):Prop
  | mk (Z':Addr→Obj→Prop) (αs':List Addr):StepW ow lo Z αs s Z' αs' s'→Inv prog w cls base Z' αs' μ' s'.heap→Loc prog w base env ρ' Z' αs' s'.heap→flowOK prog w Z' αs' f fl→OutX prog w cls base lo env ow Z αs s fl ρ' μ' f s'
theorem flow_value {f:Flow} {fl:Fl} {v:V} (h:flowOK prog w Z αs f fl) (hv:flowV fl=some v):Rep prog w Z αs (match (generalizing:=false) f with | .ret x=>x | _=>Value.none) v:=by
  cases fl with
  | next=>cases hv;cases f <;> first | exact .none | exact h.elim
  | brk=>cases hv
  | ret v'=>cases hv;cases f <;> first | exact h | exact h.elim
noncomputable def SX (prog:Program) (w:World) (cls:Str→Option Addr) (base:Heap) (lo:Nat) (A:Around) (env:Env) (ow:List Addr) (t:Sem Flow) (ρ:Rho) (μ:M) (fl:Fl) (ρ':Rho) (μ':M):Prop:=
  ∀ Z αs s,Inv prog w cls base Z αs μ s.heap→Loc prog w base env ρ Z αs s.heap→wpAny (model prog w) A t (OutX prog w cls base lo env ow Z αs s fl ρ' μ') FF s
structure FnAt (prog:Program) (K:Frag) (base:Heap) (fn:Fn) (a:Addr) (fd:FuncData) (body:List Stmt) (o:Obj):Prop where
  at_:base.get? a=some o
  adr:a=fn.adr
  data:o.data=.func fd
  stmts:fd.body=.stmts body
  comp:compBody fd.scope body=some fn.body
  bind:∀ xs:List Value,xs.length=fn.params.length→bindArgs fd ⟨xs,[]⟩=pure (fn.params.zip xs)
  glob:fd.globals=mainGlobals
  bi:fd.builtins=builtinsNs
  kind:fd.scope.kind=.function
  co:fd.scope.isCoroutine=false
  gen:fd.scope.isGenerator=false
  names:(fd.scope.names.map (·.1)).Nodup
  cl:∀ p ∈ fd.scope.names,p.1=Str.ofString "__class__" ↔ p.2=.free
  clo:∀ p ∈ fd.closure,p.1=Str.ofString "__class__"
  own:∀ x ∈ fn.params,isOwn fd.scope x=true
  code:base.CodeRec fd.code fd.qualname
noncomputable def defEnv (fd:FuncData) (L a:Addr):Env:=newEnv fd.scope L fd.globals (cellsFrom (L + 1) fd.scope.names []++fd.closure) (fd.qualname ++ ".<locals>.") (some a) fd.code none fd.builtins
end
end Mine
namespace Mine
open PySem PySem.W PySem.Calls PyProof.Rows
section
variable {lo:Nat} {prog:Program} {w:World} {cls:Str→Option Addr} {base:Heap} {Z Z' Z'':Addr→Obj→Prop} {αs αs' αs'':List Addr} {s s' s'':Shared} {μ μ' μ₁ μ₂:M} {A:Around} {env:Env} {ρ ρ':Rho} {n:Nat} {K:Frag} {T:Tab} {cb:Calls}
noncomputable def zfast (Z:Addr→Obj→Prop) (t:List Addr) (h:Heap):Addr→Obj→Prop:=fun a o=>Z a o∨(a ∈ t∧h.get? a=some o)
theorem mapM_reps {f:V→Option V} {Z:Addr→Obj→Prop} {αs:List Addr} {Z₂:Addr→Obj→Prop} {αs₂:List Addr} (hf:∀ x v v',Rep prog w Z αs x v→f v=some v'→Rep prog w Z₂ αs₂ x v'):∀ {vs:List V} {xs:List Value} {ws:List V},Reps prog w Z αs xs vs→vs.mapM f=some ws→Reps prog w Z₂ αs₂ xs ws:=by
  intro vs
  induction vs with
  | nil=>intro xs ws r e;cases r;cases e;exact .nil
  | cons v vs ih=>
    intro xs ws r e
    rw [List.mapM_cons] at e
    cases r with
    | cons r rs=>exact bnd e fun v' h1 e=>bnd e fun ws' h2 e=>Option.some.inj e ▸ .cons (hf _ _ _ r h1) (ih rs h2)
theorem frz_rep {t:List Addr} (ha:αs'=αs++t) (I:Inv prog w cls base Z' αs' μ' s'.heap):∀ (f:Nat) (x:Value) (v v':V),Rep prog w Z' αs' x v→frz αs.length μ' f v=some v'→Rep prog w (zfast Z' t s'.heap) αs x v':=by
  intro f
  induction f with
  | zero=>intro x v v' _ e;cases e
  | succ f ih=>
    intro x v v' R e
    unfold frz at e
    cases R with
    | none=>cases e;exact .none
    | bool b=>cases e;exact .bool b
    | int i t=>cases e;exact .int i t
    | str y t=>cases e;exact .str y t
    | tup hz h1 h2 h3 r=>exact mpd e fun ws e1 e2=>e2 ▸ .tup (.inl hz) h1 h2 h3 (mapM_reps ih r e1)
    | lst hz h1 h2 h3 r=>exact mpd e fun ws e1 e2=>e2 ▸ .lst (.inl hz) h1 h2 h3 (mapM_reps ih r e1)
    | rng hz e1 e2=>cases e;exact .rng (.inl hz) e1 e2
    | dctI hz h0 h1 h2 h3=>cases e
    | dctT hz h0 h1 h2 h3 r h4=>cases e
    | @obj a n hn=>
      by_cases hlt:n<αs.length
      · dsimp only at e
        rw [if_pos hlt] at e
        cases e
        rw [ha,List.getElem?_append_left hlt] at hn
        exact .obj hn
      · dsimp only at e
        rw [if_neg hlt] at e
        refine bnd e fun m hm e=>bnd e fun vs h1 e=>mpd e fun ws e1 e2=>?_
        revert hm
        apply lst_of h1
        intro hm
        obtain ⟨us,⟨k,ho⟩,hz,r⟩:=I.at_ _ _ _ hn hm
        rw [ha,List.getElem?_append_right (Nat.le_of_not_lt hlt)] at hn
        exact e2 ▸ .lst (.inr ⟨List.mem_of_getElem? hn,ho⟩) rfl rfl hz (mapM_reps ih r e1)
theorem frz_out {x:Value} {v v':V} (I:Inv prog w cls base Z αs μ s.heap) (h:OutE prog w cls base μ.length Z αs s μ' v x s') (hf:frz μ.length μ' 8 v=some v'):OutE prog w cls base lo Z αs s μ v' x s':=by
  obtain ⟨Z',αs',S,I',R⟩:=h
  obtain ⟨t,ha,hd⟩:=S.anew
  have keep:∀ b o,s.heap.get? b=some o→s'.heap.get? b=some o:=fun b o e=>S.keep b o (by rw [← I.len,List.drop_length];exact List.not_mem_nil) e
  have hnd:=I'.nodup
  rw [ha,List.nodup_append] at hnd
  refine ⟨zfast Z' t s'.heap,αs,⟨S.same,fun b o _ e=>keep b o e,S.alive,fun a o e=>.inl (S.zsub a o e),fun a o e=>e.elim (S.znew a o) fun e=>.inr (hd a e.1),[],(List.append_nil _).symm,fun _ h=>nomatch h⟩,⟨I'.keep,fun a o e=>e.elim (I'.fast a o) fun e=>e.2,fun a o e hm=>e.elim (fun e=>I'.off a o e (by rw [ha];exact List.mem_append_left _ hm)) fun e=>hnd.2.2 a hm a e.1 rfl,I.len,fun i a m e1 e2=>?_,I.nodup,I.old⟩,?_⟩
  · exact (I.at_ i a m e1 e2).mono (fun a o e=>.inl (S.zsub a o e)) (List.prefix_refl _) fun o e=>keep a o e
  · exact frz_rep ha I' 8 x v v' R (by rw [I.len];exact hf)
noncomputable def CallsOK (prog:Program) (w:World) (cls:Str→Option Addr) (base:Heap) (K:Frag) (T:Tab) (cb:Calls) (n:Nat):Prop:=
  ∀ q raw lo args μ v μ',cb q raw lo args μ=some (v,μ')→∀ fn a fd body o,T.fns q=some fn→FnAt prog K base fn a fd body o→∀ A,Room A n→∀ Z αs (s:Shared) xs (R:Result→Shared→Prop),Inv prog w cls base Z αs μ s.heap→Reps prog w Z αs xs args→
    (∀ x s',OutE prog w cls base lo Z αs s μ' v x s'→R (.ok (.ret x)) s')→codeAny (model prog w) A (.call (.ref a) ⟨xs,[]⟩) R s
structure Cx (prog:Program) (w:World) (cls:Str→Option Addr) (base:Heap) (K:Frag) (T:Tab):Prop where
  frag:K.In base
  ns:∃ mg mb,base.Ns mainGlobals mg∧base.Ns builtinsNs mb∧∀ x:Str,x ≠ "__name__" → mb x=bootBuiltins x
  lim:base.NoLimit
  sys:∃ o,base.get? sysModules=some o
  clsOK:∀ c C,cls c=some C→ClsOK K C∧findIn K (.ref C) "__getattribute__" = some (some (.builtin "object.__getattribute__"))∧findIn K (.ref C) "__getattr__" = some none
  fields:∀ c C x,cls c=some C→T.fields c x=true→freeIn K C x=true
  defs:∀ x q,T.defs x=some q→∃ fn a fd body o,T.fns q=some fn∧nsIn K mainGlobals x=some (some (.ref a))∧keepIn K (.ref a)=true∧FnAt prog K base fn a fd body o
  classes:∀ x c,T.classes x=some c→∃ C,cls c=some C∧nsIn K mainGlobals x=some (some (.ref C))∧keepIn K (.ref C)=true∧makesIn K C=true
  builtins:∀ x,x ∈ (["len", "max", "min", "sum", "range", "tuple", "list", "sorted", "enumerate"].map Str.ofString)→T.defs x=none→T.classes x=none→nsIn K mainGlobals x=some none
  consts:∀ x v,T.consts x=some v→∃ i t,v=.int i∧nsIn K mainGlobals x=some (some (.int i t))
  meths:∀ c C m q,T.meths c m=some q→cls c=some C→∃ fn a fd body o,T.fns q=some fn∧findIn K (.ref C) m=some (some (.ref a))∧keepIn K (.ref a)=true∧typeIn K (.ref a)=some (.type "function")∧FnAt prog K base fn a fd body o
theorem name_top (X:Cx prog w cls base K T) {x:Str} {pos:Pos} {v:Value} {Q:Value→Shared→Prop} {E:Value→Shared→Prop} (e:nsIn K mainGlobals x=some (some v)) (hk:env.kindOf x=some .globalImplicit) (hd:x≠Str.ofString "__debug__") (I:Inv prog w cls base Z αs μ s.heap) (L:Loc prog w base env ρ Z αs s.heap) (h:Q v s) :
    wpAny (model prog w) A (eval (.Name x pos) env) Q E s:=by
  obtain ⟨mg,mb,G,B,hb⟩:=X.ns
  exact Name_function_global L.kind hk (loadGlobal_global (env:=env) (by rw [L.glob];exact G.keeps I.keep) (mg_of X.frag G e) h) (beq_eq_false_iff_ne.mpr hd)
theorem name_boot (X:Cx prog w cls base K T) {x:Str} {pos:Pos} {v:Value} {Q:Value→Shared→Prop} {E:Value→Shared→Prop} (e:nsIn K mainGlobals x=some none) (hv:bootBuiltins x=some v) (hn:x ≠ "__name__") (hk:env.kindOf x=some .globalImplicit) (hd:x≠Str.ofString "__debug__") (I:Inv prog w cls base Z αs μ s.heap) (L:Loc prog w base env ρ Z αs s.heap) (h:Q v s) :
    wpAny (model prog w) A (eval (.Name x pos) env) Q E s:=by
  obtain ⟨mg,mb,G,B,hb⟩:=X.ns
  exact Name_function_global L.kind hk (loadGlobal_builtin (env:=env) (by rw [L.glob];exact G.keeps I.keep) (mg_none_of X.frag G e) (by rw [L.bi];exact B.keeps I.keep) ((hb x hn).trans hv) h) (beq_eq_false_iff_ne.mpr hd)
noncomputable def noStar (es:List Expr):Prop:=∀ e ∈ es,isStar e=false
theorem star_plain {pos:Pos}:∀ {es:List Expr},noStar es→(backTo pos (starEach es env)).any (·.1)=false
  | [],_=>rfl
  | e::es,h=>by
    rw [starEach_of (h e (.head _))]
    show (false || (backTo pos (starEach es env)).any (·.1))=false
    rw [star_plain fun x hx=>h x (.tail _ hx)];rfl
theorem evalArgs_nil' {f:Value} {E:Value→Shared→Prop} {Q:Args→Shared→Prop} (h:wpAny (model prog w) A (spliced []) (fun vs s'=>Q ⟨vs,[]⟩ s') E s):wpAny (model prog w) A (evalArgs f true [] []) Q E s:=by
  unfold evalArgs
  show wpAny _ A (spliced [] >>= _) Q E s
  refine wpAny_bind (wpAny_mono h (fun vs s' h'=>?_) fun _ _ h'=>h')
  refine wpAny_bind (wpAny_pure ?_)
  refine wpAny_holding ?_
  exact wpAny_bind (wpAny_pure (wpAny_bind (wpAny_pure (wpAny_pure h'))))
theorem args_any {f:Value} {es:List Expr} {pos:Pos} {vs:List V} {Q:Args→Shared→Prop} (hs:noStar es) (h:SEs prog w cls base lo A env es ρ μ μ' vs) (I:Inv prog w cls base Z αs μ s.heap) (L:Loc prog w base env ρ Z αs s.heap)
    (k:∀ xs Z' αs' s',Step lo Z αs s Z' αs' s'→Inv prog w cls base Z' αs' μ' s'.heap→Loc prog w base env ρ Z' αs' s'.heap→Reps prog w Z' αs' xs vs→Q ⟨xs,[]⟩ s'):wpAny (model prog w) A (evalArgs f true (backTo pos (starEach es env)) []) Q FF s:=by
  cases es with
  | nil=>
    exact evalArgs_nil' (h.use (pos:=pos) I L k)
  | cons e es=>
    have e1:backTo pos (starEach (e::es) env)=(false,eval e env)::backTo pos (starEach es env):=by rw [starEach_of (hs e (.head _))];rfl
    rw [e1]
    refine evalArgs_plain ?_
    rw [← e1]
    exact h.use I L k
noncomputable def CallV (K:Frag) (f:Value):Prop:=(∃ id,f=.builtin id)∨(∃ T,f=.type T)∨keepIn K f=true
theorem callWith_any {f:Value} {first:List Value} {es:List Expr} {pos:Pos} {vs:List V} {Q:Value→Shared→Prop} (hf:CallV K f) (X:K.In base) (hs:noStar es) (h:SEs prog w cls base lo A env es ρ μ μ' vs) (I:Inv prog w cls base Z αs μ s.heap) (L:Loc prog w base env ρ Z αs s.heap)
    (k:∀ xs Z' αs' s',Step lo Z αs s Z' αs' s'→Inv prog w cls base Z' αs' μ' s'.heap→Loc prog w base env ρ Z' αs' s'.heap→Reps prog w Z' αs' xs vs→wpAny (model prog w) A (call f (first++xs)) Q FF s'):wpAny (model prog w) A (callWith pos f first (backTo pos (starEach es env)) []) Q FF s:=by
  have hp:=star_plain (env:=env) (pos:=pos) hs
  rcases hf with ⟨id,rfl⟩ | ⟨T,rfl⟩ | hk
  · exact callWith_builtin hp (args_any hs h I L k)
  · exact PySem.callWith_type hp (args_any hs h I L k)
  · exact callWith_of (P:=K.In) (by rw [hp];rfl) (keeps_K hk) (args_any hs h I L fun xs Z' αs' s' S I' L' r=>⟨fun a o e=>I'.keep _ _ (X a o e),k xs Z' αs' s' S I' L' r⟩)
theorem SE.callName {f:Value} {x:Str} {p pos:Pos} {es:List Expr} {vs:List V} {v:V} (X:Cx prog w cls base K T) (hf:CallV K f) (hs:noStar es) (h:SEs prog w cls base lo A env es ρ μ μ₁ vs)
    (hn:∀ Z αs (s:Shared) (Q:Value→Shared→Prop),Inv prog w cls base Z αs μ s.heap→Loc prog w base env ρ Z αs s.heap→Q f s→wpAny (model prog w) A (eval (.Name x p) env) Q FF s)
    (k:∀ Z αs (s:Shared) xs,Inv prog w cls base Z αs μ₁ s.heap→Reps prog w Z αs xs vs→wpAny (model prog w) A (call f xs) (OutE prog w cls base lo Z αs s μ' v) FF s) :
    SE prog w cls base lo A env (eval (.Call (.Name x p) es [] pos) env) ρ μ μ' v:=by
  intro Z αs s I L
  refine wpAny_Call_NameR (hn Z αs s _ I L ?_)
  exact callWith_any hf X.frag hs h I L fun xs Z' αs' s' S I' L' r=>wp_trans S (k Z' αs' s' xs I' r)
theorem SE.callDef {x:Str} {p pos:Pos} {es:List Expr} {vs:List V} {v:V} {q:Str} {raw:Bool} (X:Cx prog w cls base K T) (hR:Room A n) (hc:CallsOK prog w cls base K T cb n) (hd:T.defs x=some q) (hx:env.kindOf x=some .globalImplicit) (hdb:x≠Str.ofString "__debug__") (hs:noStar es) (h:SEs prog w cls base lo A env es ρ μ μ₁ vs)
    (e:cb q raw lo vs μ₁=some (v,μ')):SE prog w cls base lo A env (eval (.Call (.Name x p) es [] pos) env) ρ μ μ' v:=by
  obtain ⟨fn,a,fd,body,o,h1,h2,h3,h4⟩:=X.defs x q hd
  refine SE.callName X (.inr (.inr h3)) hs h (fun Z αs s Q I L hq=>name_top X h2 hx hdb I L hq) fun Z αs s xs I r=>?_
  exact wpAny_call (hc q raw lo vs μ₁ v μ' e fn a fd body o h1 h4 A hR Z αs s xs _ I r fun x s' o=>o)
theorem ito {α:Type} {p:Prop} [Decidable p] {x y:Option α} {r:α} {G:Prop} (h:(if p then x else y)=some r) (k1:p→x=some r→G) (k2:¬p→y=some r→G):G:=by
  split at h
  · exact k1 (by assumption) h
  · exact k2 (by assumption) h
theorem biV_names {f:Str} {vs:List V} {v:V} (e:biV μ f vs=some v):f ∈ (["len", "max", "min", "sum", "range", "tuple", "list", "sorted", "enumerate"].map Str.ofString):=
  have t:∀ {x y:Str} {l:List Str},x ∈ l→x ∈ y::l:=.tail _
  ito e (fun h _=>h ▸ .head _) fun _ e=>t (ito e (fun h _=>h ▸ .head _) fun _ e=>t (ito e (fun h _=>h ▸ .head _) fun _ e=>t (ito e (fun h _=>h ▸ .head _) fun _ e=>t (ito e (fun h _=>h ▸ .head _) fun _ e=>t (ito e (fun h _=>h ▸ .head _) fun _ e=>t
    (ito e (fun h _=>h ▸ .head _) fun _ e=>t (ito e (fun h _=>h ▸ .head _) fun _ e=>nomatch e)))))))
end
end Mine
namespace Mine
open PySem PySem.W PySem.Calls PyProof.Rows
section
variable {lo:Nat} {prog:Program} {w:World} {cls:Str→Option Addr} {base:Heap} {Z Z' Z'':Addr→Obj→Prop} {αs αs' αs'':List Addr} {s s' s'':Shared} {μ μ' μ₁ μ₂:M} {A:Around} {env:Env} {ρ ρ':Rho} {n:Nat} {K:Frag} {T:Tab} {cb:Calls}
noncomputable def biVal (f:Str):Value:=
  if f = "len" then .builtin "len" else if f = "max" then .builtin "max" else if f = "min" then .builtin "min" else if f = "sum" then .builtin "sum" else if f = "range" then .type "range" else if f = "tuple" then .type "tuple" else if f = "list" then .type "list" else .builtin "sorted"
theorem reps_one {xs:List Value} {a:V} {P:List Value→Prop} (r:Reps prog w Z αs xs [a]) (k:∀ x,Rep prog w Z αs x a→P [x]):P xs:=by
  cases r with | cons h r=>cases r;exact k _ h
theorem reps_two {xs:List Value} {a b:V} {P:List Value→Prop} (r:Reps prog w Z αs xs [a,b]) (k:∀ x y,Rep prog w Z αs x a→Rep prog w Z αs y b→P [x,y]):P xs:=by
  cases r with | cons h r=>cases r with | cons h' r=>cases r;exact k _ _ h h'
theorem arg_one {xs:List Value} {vs:List V} {a:V} {P:List Value→Prop} (r:Reps prog w Z αs xs vs) (h:one? vs=some a) (k:∀ x,Rep prog w Z αs x a→P [x]):P xs:=by
  revert r
  apply one_of h
  exact fun r=>reps_one r k
theorem arg_two {xs:List Value} {vs:List V} {a b:V} {P:List Value→Prop} (r:Reps prog w Z αs xs vs) (h:two? vs=some (a,b)) (k:∀ x y,Rep prog w Z αs x a→Rep prog w Z αs y b→P [x,y]):P xs:=by
  revert r
  apply two_of h
  exact fun r=>reps_two r k
theorem seqV_of {v:V} {ds:List V} {P:V→Prop} (e:seqV μ v=some ds) (h1:P (.tup ds)) (h2:listV μ v=some ds→P v):P v:=by
  unfold seqV at e
  cases h:tupOf v with
  | some vs=>rw [h] at e;cases e;apply tup_of h;exact h1
  | none=>rw [h] at e;exact h2 e
theorem most_ok {f:Int→Int→Int} {g:Int→List Int→Int} {id:String} (I:Inv prog w cls base Z αs μ s.heap) {xs:List Value} {vs:List V} {v:V} (r:Reps prog w Z αs xs vs) (e:mostV f g vs=some v)
    (h2:∀ x y a b,Rep prog w Z αs x (.int a)→Rep prog w Z αs y (.int b)→wpAny (model prog w) A (call (.builtin id) [x,y]) (OutE prog w cls base lo Z αs s μ (.int (f a b))) FF s)
    (h1:∀ x ds i is,Rep prog w Z αs x (.tup ds)→intsOf ds=some (i::is)→wpAny (model prog w) A (call (.builtin id) [x]) (OutE prog w cls base lo Z αs s μ (.int (g i is))) FF s):wpAny (model prog w) A (call (.builtin id) xs) (OutE prog w cls base lo Z αs s μ v) FF s:=by
  unfold mostV at e
  cases ht:two? vs with
  | some p=>
    obtain ⟨a,b⟩:=p
    rw [ht] at e
    refine bnd e fun i e1 e=>mpd e fun j e2 e=>?_
    rw [← e]
    apply arg_two r ht
    intro x y
    apply int_of (show intOf a=_ from e1)
    apply int_of (show intOf b=_ from e2)
    exact h2 x y i j
  | none=>
    rw [ht] at e
    refine bnd e fun a e1 e=>bnd e fun ds e2 e=>bnd e fun is e3 e=>?_
    apply arg_one r e1
    intro x
    apply tup_of e2
    intro R
    cases is with
    | nil=>cases e
    | cons i is=>cases e;exact h1 x ds i is R e3
theorem range_ok (I:Inv prog w cls base Z αs μ s.heap) {xs:List Value} {vs:List V} {v:V} (r:Reps prog w Z αs xs vs) (e:rangeV vs=some v):wpAny (model prog w) A (call (.type "range") xs) (OutE prog w cls base lo Z αs s μ v) FF s:=by
  unfold rangeV at e
  cases ht:two? vs with
  | some p=>
    obtain ⟨a,b⟩:=p
    rw [ht] at e
    refine bnd e fun i e1 e=>bnd e fun j e2 e=>ifd e fun hb e=>?_
    rw [← e]
    apply arg_two r ht
    intro x y
    apply int_of (show intOf a=_ from e1)
    apply int_of (show intOf b=_ from e2)
    exact fun R R'=>range2_ok I R R' hb
  | none=>
    rw [ht] at e
    refine bnd e fun a e1 e=>bnd e fun j e2 e=>ifd e fun hb e=>?_
    rw [← e]
    apply arg_one r e1
    intro x
    apply int_of e2
    exact fun R=>range1_ok I R hb
theorem list_ok (hh:A.handled=none) (I:Inv prog w cls base Z αs μ s.heap) {x:Value} {a v:V} (R:Rep prog w Z αs x a) (e:mkList μ a=some v):wpAny (model prog w) A (call (.type "list") [x]) (OutE prog w cls base lo Z αs s μ v) FF s:=by
  unfold mkList at e
  cases h:tupOf a with
  | some ds=>
    rw [h] at e
    cases e
    revert R
    apply tup_of h
    exact fun R=>list_tup_ok I R
  | none=>
    rw [h] at e
    cases h2:rngOf a with
    | some p=>
      rw [h2] at e
      refine ifd e fun hb e=>?_
      rw [← e]
      revert R
      apply rng_of h2
      exact fun R=>list_range_ok hh I R hb.1 hb.2.1 hb.2.2.1 hb.2.2.2
    | none=>
      rw [h2] at e
      exact mpd e fun ds hd e=>e ▸ list_list_ok I R hd
theorem sorted_ok (hh:A.handled=none) (I:Inv prog w cls base Z αs μ s.heap) {x:Value} {a v:V} (R:Rep prog w Z αs x a) (e:sortedV μ a=some v):wpAny (model prog w) A (call (.builtin "sorted") [x]) (OutE prog w cls base lo Z αs s μ v) FF s:=by
  unfold sortedV at e
  cases h:dctOf a with
  | some ks=>
    rw [h] at e
    refine mpd e fun ds hd e=>e ▸ ?_
    revert R
    apply dct_of h
    exact fun R=>sorted_dict_ok hh I R hd
  | none=>
    rw [h] at e
    exact bnd e fun ys hd e=>mpd e fun ds hs e=>e ▸ sorted_list_ok hh I R hd hs
theorem biV_ok (hh:A.handled=none) (I:Inv prog w cls base Z αs μ s.heap) {f:Str} {xs:List Value} {vs:List V} {v:V} (r:Reps prog w Z αs xs vs) (e:biV μ f vs=some v) :
    wpAny (model prog w) A (call (biVal f) xs) (OutE prog w cls base lo Z αs s μ v) FF s:=by
  refine hide fun G k=>?_
  refine ito e (fun h e=>?_) fun _ e=>ito e (fun h e=>?_) fun _ e=>ito e (fun h e=>?_) fun _ e=>ito e (fun h e=>?_) fun _ e=>ito e (fun h e=>?_) fun _ e=>ito e (fun h e=>?_) fun _ e=>ito e (fun h e=>?_) fun _ e=>ito e (fun h e=>?_) fun _ e=>nomatch e
  all_goals refine k ?_;rw [h]
  · refine bnd e fun a h1 e=>mpd e fun ds h2 e=>e ▸ ?_
    apply arg_one r h1
    intro x
    apply seqV_of h2
    · exact fun R=>len_tup_ok I R
    · exact fun h R=>len_list_ok I R h
  · exact most_ok I r e (fun x y a b=>max2_ok hh I) fun x ds i is=>max_tup_ok hh I
  · exact most_ok I r e (fun x y a b=>min2_ok hh I) fun x ds i is=>min_tup_ok hh I
  · refine bnd e fun a h1 e=>bnd e fun ds h2 e=>mpd e fun is h3 e=>e ▸ ?_
    apply arg_one r h1
    exact fun x R=>sum_ok hh I R h2 h3
  · exact range_ok I r e
  · refine bnd e fun a h1 e=>mpd e fun ds h2 e=>e ▸ ?_
    apply arg_one r h1
    intro x
    apply seqV_of h2
    · exact fun R=>tuple_tup_ok I R
    · exact fun h R=>tuple_list_ok I R h
  · refine bnd e fun a h1 e=>?_
    apply arg_one r h1
    exact fun x R=>list_ok hh I R e
  · refine bnd e fun a h1 e=>?_
    apply arg_one r h1
    exact fun x R=>sorted_ok hh I R e
structure BootOK (f:Str):Prop where
  boot:bootBuiltins f=some (biVal f)
  name:f ≠ "__name__"
  debug:f≠Str.ofString "__debug__"
theorem bi_boot {f:Str} {vs:List V} {v:V} (e:biV μ f vs=some v):BootOK f:=
  ito e (fun h _=>h ▸ ⟨PyProof.Rows.Boot.«len»,by decide,by decide⟩) fun _ e=>ito e (fun h _=>h ▸ ⟨PyProof.Rows.Boot.«max»,by decide,by decide⟩) fun _ e=>ito e (fun h _=>h ▸ ⟨PyProof.Rows.Boot.«min»,by decide,by decide⟩) fun _ e=>ito e (fun h _=>h ▸ ⟨PyProof.Rows.Boot.«sum»,by decide,by decide⟩) fun _ e=>
  ito e (fun h _=>h ▸ ⟨PyProof.Rows.Boot.«range»,by decide,by decide⟩) fun _ e=>ito e (fun h _=>h ▸ ⟨PyProof.Rows.Boot.«tuple»,by decide,by decide⟩) fun _ e=>ito e (fun h _=>h ▸ ⟨PyProof.Rows.Boot.«list»,by decide,by decide⟩) fun _ e=>ito e (fun h _=>h ▸ ⟨PyProof.Rows.Boot.«sorted»,by decide,by decide⟩) fun _ e=>nomatch e
theorem biVal_call (f:Str):CallV K (biVal f):=by
  unfold biVal
  repeat' (split;· first | exact .inl ⟨_,rfl⟩ | exact .inr (.inl ⟨_,rfl⟩))
  exact .inl ⟨_,rfl⟩
theorem SE.callBi {x:Str} {p pos:Pos} {es:List Expr} {vs:List V} {v:V} (X:Cx prog w cls base K T) (hh:A.handled=Option.none) (hd:T.defs x=Option.none) (hcl:T.classes x=Option.none) (hx:env.kindOf x=some .globalImplicit) (hs:noStar es) (h:SEs prog w cls base lo A env es ρ μ μ₁ vs)
    (e:biV μ₁ x vs=Option.some v):SE prog w cls base lo A env (eval (.Call (.Name x p) es [] pos) env) ρ μ μ₁ v:=by
  have hb:=bi_boot e
  exact SE.callName X (biVal_call x) hs h (fun Z αs s Q I L hq=>name_boot X (X.builtins x (biV_names e) hd hcl) hb.boot hb.name hx hb.debug I L hq) fun Z αs s xs I r=>biV_ok hh I r e
structure RoomS (A:Around) (n:Nat):Prop where
  handled:A.handled=none
  depth:A.depth + 4 * n + 3≤700
  units:A.units + 12 * n + 9≤8000
theorem RoomS.room (h:RoomS A n):Room A n:=⟨h.handled,by have:=h.depth;omega,by have:=h.units;omega⟩
theorem type_weight (args:Args):(Code.builtin "type.__call__" args).weight≤2∧(Code.builtin "type.__call__" args).cUnits≤2:=by
  constructor
  · have h1:(Code.builtin "type.__call__" args).frames=0:=by rfl
    have h2:(Code.builtin "type.__call__" args).isGuard=false:=by show guardIds.contains "type.__call__" = false;decide
    have h3:(Code.builtin "type.__call__" args).isCaller=false:=by rfl
    unfold Code.weight
    rw [h1,h2,h3]
    split <;> simp
  · have:(Code.builtin "type.__call__" args).cUnits=(Code.builtin "type.__call__" ⟨[],[]⟩).cUnits:=by rfl
    rw [this];decide +kernel
theorem RoomS.under_type (h:RoomS A n) (args:Args):Room (A.under (.builtin "type.__call__" args)) n:=by
  obtain ⟨h1,h2⟩:=type_weight args
  refine ⟨h.handled,?_,?_⟩
  · show A.depth + (Code.builtin "type.__call__" args).weight + 4 * n≤700
    have:=h.depth;omega
  · show A.units + (Code.builtin "type.__call__" args).cUnits + 12 * n≤8000
    have:=h.units;omega
theorem SE.callCls {x:Str} {p pos:Pos} {es:List Expr} {vs:List V} {c q:Str} (X:Cx prog w cls base K T) (hR:RoomS A n) (hc:CallsOK prog w cls base K T cb n) (hd:T.classes x=some c) (hx:env.kindOf x=some .globalImplicit) (hdb:x≠Str.ofString "__debug__") (hs:noStar es) (h:SEs prog w cls base lo A env es ρ μ μ₁ vs)
    (hi:T.meths c "__init__" = some q) (e:cb q false lo (.obj (μ₁.length + 1)::vs) (μ₁++[.sdict [],.inst c μ₁.length])=some (.none,μ')):SE prog w cls base lo A env (eval (.Call (.Name x p) es [] pos) env) ρ μ μ' (.obj (μ₁.length + 1)):=by
  obtain ⟨C,h1,h2,h3,h4⟩:=X.classes x c hd
  obtain ⟨fn,a,fd,body,o,m1,m2,m3,m4,m5⟩:=X.meths c C _ q hi h1
  refine SE.callName X (.inr (.inr h3)) hs h (fun Z αs s Q I L hq=>name_top X h2 hx hdb I L hq) fun Z αs s xs I r=>?_
  have hK:K.In s.heap:=fun a o e=>I.keep _ _ (X.frag a o e)
  obtain ⟨hp,g,d,t,os⟩:=s
  dsimp only at I hK
  have I₁:Inv prog w cls base Z (αs++[hp.objs.size]) (μ₁++[.sdict []]) (hp.push emptyDict):=I.apush (dead_size _) (fun b o q=>Heap.get?_push_of_some _ q) ⟨[],0,Heap.get?_push_size _ rfl,Nat.zero_le _,.nil⟩
  have hsz:(hp.push emptyDict).objs.size=hp.objs.size + 1:=Heap.size_push ..
  have hd2:(hp.push emptyDict).get? (hp.objs.size + 1)=Option.none:=hsz ▸ dead_size _
  have I₂:Inv prog w cls base Z (αs++[hp.objs.size]++[hp.objs.size + 1]) (μ₁++[.sdict []]++[.inst c μ₁.length]) ((hp.push emptyDict).push (instObj C hp.objs.size)):=
    I₁.apush hd2 (fun b o q=>Heap.get?_push_of_some _ q) ⟨C,hp.objs.size,h1,by rw [← I.len,List.append_assoc,List.getElem?_append_right (Nat.le_refl _)];simp,by rw [← hsz];exact Heap.get?_push_size _ rfl⟩
  have S₁:Step lo Z αs ⟨hp,g,d,t,os⟩ Z (αs++[hp.objs.size]) ⟨hp.push emptyDict,g,d,t,os⟩:=.apush (s:=⟨hp,g,d,t,os⟩) (tk:=t) (dead_size _) fun b o q=>Heap.get?_push_of_some _ q
  have S₂:Step lo Z (αs++[hp.objs.size]) ⟨hp.push emptyDict,g,d,t,os⟩ Z (αs++[hp.objs.size]++[hp.objs.size + 1]) ⟨(hp.push emptyDict).push (instObj C hp.objs.size),g,d,t,os⟩:=.apush (s:=⟨hp.push emptyDict,g,d,t,os⟩) (tk:=t) hd2 fun b o q=>Heap.get?_push_of_some _ q
  have S:=S₁.trans S₂
  have Rx:Rep prog w Z (αs++[hp.objs.size]++[hp.objs.size + 1]) (.ref (hp.objs.size + 1)) (.obj (μ₁.length + 1)):=.obj (by rw [← I.len];rw [List.getElem?_append_right (by simp)];simp)
  have hμ:μ₁++[.sdict []]++[.inst c μ₁.length]=μ₁++[.sdict [],.inst c μ₁.length]:=by rw [List.append_assoc];rfl
  rw [hμ] at I₂
  refine wpAny_call (make_core (makes_of hK h4) (looks_findIn hK m2) (fun self=>bind_fn hK self m4) (.inl rfl) ?_)
  refine hc q false lo _ _ .none μ' e fn a fd body o m1 m5 _ (hR.under_type _) Z _ ⟨(hp.push emptyDict).push (instObj C hp.objs.size),g,d,t,os⟩ (.ref (hp.objs.size + 1)::xs) _ I₂ (.cons Rx (r.mono S.zsub S.asub)) fun x s' o=>?_
  obtain ⟨Z',αs',S',I',R'⟩:=o
  exact ⟨R'.inv,Z',αs',S.trans S',I',Rx.mono S'.zsub S'.asub⟩
end
end Mine
namespace Mine
open PySem PySem.W PySem.Calls PyProof.Rows
section
variable {lo:Nat} {prog:Program} {w:World} {cls:Str→Option Addr} {base:Heap} {Z Z' Z'':Addr→Obj→Prop} {αs αs' αs'':List Addr} {s s' s'':Shared} {μ μ' μ₁ μ₂:M} {A:Around} {env:Env} {ρ ρ':Rho} {n:Nat} {K:Frag} {T:Tab} {cb:Calls}
theorem attributeBase_of {o:Expr} {attr:Str} {t:Sem Value} (h:isSuperCall o=false):attributeBase o attr env t=t:=by
  cases o with
  | Call c as ks pos=>
    cases c with
    | Name id p=>
      cases as with
      | nil=>
        cases ks with
        | nil=>
          have h2:(id != "super")=true:=congrArg (!·) h
          dsimp only [attributeBase]
          rw [h2]
          rfl
        | cons=>rfl
      | cons=>rfl
    | _=>rfl
  | _=>rfl
theorem SE.attr (X:Cx prog w cls base K T) {o:Expr} {x:Str} {pos:Pos} {vo v:V} (hs:isSuperCall o=false) (h:SE prog w cls base lo A env (eval o env) ρ μ μ₁ vo) (e:attrV T.fields μ₁ vo x=Option.some v):SE prog w cls base lo A env (eval (.Attribute o x pos) env) ρ μ μ₁ v:=by
  intro Z αs s I L
  refine Attribute_any_ ?_ (by rw [arm_eval_Attribute,attributeBase_of hs])
  exact h.use I L fun y Z' αs' s' S I' L' R=>wp_trans S (getAttr_ok X.frag (fun c C hC=>(X.clsOK c C hC).1) I' R e X.fields)
theorem SE.glob (X:Cx prog w cls base K T) {x:Str} {pos:Pos} {v:V} (hx:env.kindOf x=Option.some .globalImplicit) (hdb:x≠Str.ofString "__debug__") (e:T.consts x=Option.some v):SE prog w cls base lo A env (eval (.Name x pos) env) ρ μ μ v:=by
  intro Z αs s I L
  obtain ⟨i,t,rfl,h⟩:=X.consts x v e
  exact name_top X h hx hdb I L (.now I (.int i t))
theorem methodCall_any {o:Expr} {name:Str} {apos pos:Pos} {args:List Expr} {Q:Value→Shared→Prop} (hs:isSuperCall o=false) (hline:apos.endLine=pos.line) (hfew:args.length<30) (hn:noStar args)
    (h:wpAny (model prog w) A (eval o env) (fun ov s₁=>∀ pl,wpAny (model prog w) A (getMethod ov name pl) (fun r s₂=>wpAny (model prog w) A (callWith pos r.1 r.2 (backTo pos (starEach args env)) []) Q FF s₂) FF s₁) FF s) :
    wpAny (model prog w) A (eval (.Call (.Attribute o name apos) args [] pos) env) Q FF s:=by
  rw [arm_eval_Call,attributeBase_of hs]
  refine wpAny_bind (wpAny_mono h (fun ov s₁ h₁=>?_) fun _ _ e=>e)
  refine wpAny_bind (wpAny_standAt ?_)
  have hp:=star_plain (env:=env) (pos:=pos) hn
  have hform:methodCallForm (args.length + ([]:List Keyword).length) (backTo pos (starEach args env)) (backToKw pos (keywordEach [] env))=true:=by
    unfold methodCallForm
    have h1:(backTo pos (starEach args env)).all (fun x=>!x.1)=true:=by
      rw [List.all_eq_not_any_not]
      simpa using hp
    rw [h1]
    show (true && true && decide (args.length + 0 + (if (backToKw pos (keywordEach [] env)).isEmpty=true then 0 else 1)<30))=true
    have h2:(backToKw pos (keywordEach [] env)).isEmpty=true:=rfl
    rw [h2]
    simpa using hfew
  have hpos:methodCallPos true o env apos pos=pure pos:=by unfold methodCallPos;simp [hline]
  unfold methodCall
  rw [hform]
  refine wpAny_bind (wpAny_holding (wpAny_mono (h₁ _) (fun r s₂ h₂=>?_) fun _ _ e=>e))
  obtain ⟨f,first⟩:=r
  exact wpAny_bind (wpAny_of_eq hpos h₂)
theorem noStar_nil:noStar []:=fun _ h=>nomatch h
inductive LM (name:Str) (vs:List V) (μ:M) (i:Nat) (xs:List V):V→M→Prop
  | app (b:V):name = "append" → one? vs=Option.some b→xs.length<sizeLim→LM name vs μ i xs .none (μ.set i (.list (xs++[b])))
  | ext (b:V) (p:Int×Int):name = "extend" → one? vs=Option.some b→rngOf b=Option.some p→xs.length + (p.2 - p.1).toNat≤sizeLim→LM name vs μ i xs .none (μ.set i (.list (xs++intsFrom p.1 (p.2 - p.1).toNat)))
  | exl (b:V) (ys:List V):name = "extend" → one? vs=Option.some b→listV μ b=Option.some ys→xs.length + ys.length≤sizeLim→LM name vs μ i xs .none (μ.set i (.list (xs++ys)))
  | pop (d:V):name = "pop" → vs=[]→xs.getLast?=Option.some d→LM name vs μ i xs d (μ.set i (.list xs.dropLast))
theorem put_of {lim:Prop} [Decidable lim] {i:Nat} {vs:List V} {v:V} (h:putL? lim μ i vs=Option.some (v,μ')) {P:V→M→Prop} (k:lim→P .none (μ.set i (.list vs))):P v μ':=
  ifd h fun hl e=>by cases e;exact k hl
theorem ext_of {name:Str} {vs xs:List V} {i:Nat} {v b:V} (hn:name = "extend") (h1:one? vs=Option.some b)
    (e:(match rngOf b with | Option.some p=>putL? (xs.length + (p.2 - p.1).toNat≤sizeLim) μ i (xs++intsFrom p.1 (p.2 - p.1).toNat) | Option.none=>(listV μ b).bind fun ys=>putL? (xs.length + ys.length≤sizeLim) μ i (xs++ys))=Option.some (v,μ')):LM name vs μ i xs v μ':=by
  cases h:rngOf b with
  | some p=>rw [h] at e;exact put_of e (.ext b p hn h1 h)
  | none=>rw [h] at e;exact bnd e fun ys h2 e=>put_of e (.exl b ys hn h1 h2)
theorem listMeth_inv {i:Nat} {name:Str} {vs:List V} {v:V} (e:listMeth lo (V.obj i) name vs μ=Option.some (v,μ')):∃ xs,μ[i]?=Option.some (.list xs)∧lo≤i∧LM name vs μ i xs v μ':=by
  refine bnd e fun i' h e=>?_
  cases h
  refine bnd e fun m h6 e=>bnd e fun xs h7 e=>ifn e fun hlo e=>⟨xs,h6.trans (lst_of (P:=fun o=>Option.some o=Option.some (MObj.list xs)) h7 rfl),Nat.le_of_not_lt hlo,?_⟩
  refine ito e (fun h e=>?_) fun _ e=>ito e (fun h e=>?_) fun _ e=>ift e fun h e=>?_
  · exact bnd e fun b h8 e=>put_of e (.app b h h8)
  · exact bnd e fun b h8 e=>ext_of h h8 e
  · refine mpd e fun d hl2 e=>?_
    cases e
    exact .pop _ h.1 (List.isEmpty_iff.mp h.2) hl2
theorem LM.ok {name:Str} {vs xs:List V} {i:Nat} {v:V} (h:LM name vs μ i xs v μ') (hh:A.handled=Option.none) (hm:μ[i]?=Option.some (.list xs)) (hlo:lo≤i) :
    ∃ id,PySem.Slot "list" name id∧typeOf (.builtin id)=pure (.type "method_descriptor")∧∀ Z αs (s:Shared) us a,Inv prog w cls base Z αs μ s.heap→Rep prog w Z αs (.ref a) (.obj i)→Reps prog w Z αs us vs→wpAny (model prog w) A (call (.builtin id) (.ref a::us)) (OutE prog w cls base lo Z αs s μ' v) FF s:=by
  cases h with
  | app b hn h8 hlen=>exact ⟨"list.append", hn ▸ PySem.F.slot_list_append,rfl,fun Z αs s us a I R r=>arg_one r h8 (P:=fun us=>wpAny (model prog w) A (call (.builtin "list.append") (.ref a::us)) _ FF s) fun x Ru=>append_ok I R Ru hm hlo hlen⟩
  | ext b p hn h8 h9 hlen=>
    exact ⟨"list.extend", hn ▸ PySem.F.slot_list_extend,rfl,fun Z αs s us a I R r=>arg_one r h8 (P:=fun us=>wpAny (model prog w) A (call (.builtin "list.extend") (.ref a::us)) _ FF s) fun x=>by apply rng_of h9;exact fun Ru=>extend_range_ok hh I R Ru hm hlo hlen⟩
  | exl b ys hn h8 h9 hlen=>exact ⟨"list.extend", hn ▸ PySem.F.slot_list_extend,rfl,fun Z αs s us a I R r=>arg_one r h8 (P:=fun us=>wpAny (model prog w) A (call (.builtin "list.extend") (.ref a::us)) _ FF s) fun x Ru=>extend_list_ok I R Ru hm h9 hlo hlen⟩
  | pop d hn h0 h9=>
    subst h0
    exact ⟨"list.pop", hn ▸ PySem.F.slot_list_pop,rfl,fun Z αs s us a I R r=>by cases r;exact pop_ok I R hm h9 hlo⟩
theorem SE.meth (X:Cx prog w cls base K T) (hR:RoomS A n) (hc:CallsOK prog w cls base K T cb n) {o:Expr} {name:Str} {apos pos:Pos} {args:List Expr} {vo v:V} {vs:List V} {r:Option Str} (hs:isSuperCall o=false) (hline:apos.endLine=pos.line) (hfew:args.length<30) (hn:noStar args)
    (ho:SE prog w cls base lo A env (eval o env) ρ μ μ₁ vo) (hm:methFind T vo name μ₁=Option.some r) (ha:SEs prog w cls base lo A env args ρ μ₁ μ₂ vs)
    (e:methV cb lo vo name vs μ₂ r=Option.some (v,μ')):SE prog w cls base lo A env (eval (.Call (.Attribute o name apos) args [] pos) env) ρ μ μ' v:=by
  intro Z αs s I L
  refine methodCall_any hs hline hfew hn (ho.use I L fun x Z₁ αs₁ s₁ S₁ I₁ L₁ R₁ pl=>?_)
  refine hide fun G k=>?_
  refine bnd hm fun i h1 hm1=>bnd hm1 fun m h2 hm2=>?_
  cases obj_of (P:=fun v=>v=.obj i) h1 rfl
  have R₁':=R₁
  cases h3:ins? m with
  | some p=>
    rw [h3] at hm2
    refine bnd hm2 fun d h4 hm=>bnd hm fun es h5 hm=>ift hm fun hl hm=>mpd hm fun q hq hr=>?_
    rw [← hr] at e
    rw [Option.isNone_iff_eq_none] at hl
    refine k ?_
    revert R₁'
    apply R₁.objE
    intro a hα R₁'
    have hi:μ₁[i]?=Option.some (.inst p.1 p.2):=h2.trans (ins_of (P:=fun o=>Option.some o=Option.some (MObj.inst p.1 p.2)) h3 rfl)
    have hd:μ₁[p.2]?=Option.some (.sdict es):=h4.trans (dic_of (P:=fun o=>Option.some o=Option.some (MObj.sdict es)) h5 rfl)
    refine hide fun G k=>?_
    obtain ⟨C,dx,des,m',hC,hdx,hod,hle,he,hI⟩:=inst_at I₁ hα hi hd
    obtain ⟨fn,f,fd,body,ob,m1,m2,m3,m4,m5⟩:=X.meths p.1 C name q hq hC
    obtain ⟨ok,hga,hgk⟩:=X.clsOK p.1 C hC
    have hK:K.In s₁.heap:=fun a o e=>I₁.keep _ _ (X.frag a o e)
    refine k ?_
    refine method_fn hK hI hga hgk m2 m4 (by show (getL name des).map (·.isSome)=Option.some false;rw [he.get_none hl];rfl) ?_
    refine callWith_any (.inr (.inr m3)) X.frag hn ha I₁ L₁ fun xs Z₂ αs₂ s₂ S₂ I₂ L₂ r₂=>?_
    exact wp_trans (S₁.trans S₂) (wpAny_call (hc q false lo _ _ v μ' e fn f fd body ob m1 m5 A hR.room Z₂ αs₂ s₂ (.ref a::xs) _ I₂ (.cons (R₁'.mono S₂.zsub S₂.asub) r₂) fun x s' o=>o))
  | none=>
    rw [h3] at hm2
    refine bnd hm2 fun us h4 hm=>ift hm fun hnm hr=>?_
    cases hr
    refine k ?_
    have hi:μ₁[i]?=Option.some (.list us):=h2.trans (lst_of (P:=fun o=>Option.some o=Option.some (MObj.list us)) h4 rfl)
    revert R₁'
    apply R₁.objE
    intro a hα R₁'
    refine hide fun G k=>?_
    obtain ⟨ws,⟨kk,hob⟩,hz,rr⟩:=I₁.at_ _ _ _ hα hi
    obtain ⟨xs,hm2,hlo,L⟩:=listMeth_inv e
    obtain ⟨id,hsl,hty,hcall⟩:=L.ok (A:=A) (prog:=prog) (w:=w) (cls:=cls) (base:=base) hR.handled hm2 hlo
    refine k (getMethod_builtin ⟨_,hob,rfl⟩ PySem.F.plainAttrs_list hsl hty (fun b hb=>by cases hb;exact ⟨_,hob,rfl⟩) ?_)
    refine callWith_any (.inl ⟨id,rfl⟩) X.frag hn ha I₁ L₁ fun xs Z₂ αs₂ s₂ S₂ I₂ L₂ r₂=>?_
    exact wp_trans (S₁.trans S₂) (hcall Z₂ αs₂ s₂ xs a I₂ (R₁'.mono S₂.zsub S₂.asub) r₂)
end
end Mine
namespace Mine
open PySem PySem.W PySem.Calls PyProof.Rows
section
variable {lo:Nat} {prog:Program} {w:World} {cls:Str→Option Addr} {base:Heap} {Z Z' Z'':Addr→Obj→Prop} {αs αs' αs'':List Addr} {s s' s'':Shared} {μ μ' μ₁ μ₂:M} {A:Around} {env:Env} {ρ ρ':Rho} {n:Nat} {K:Frag} {T:Tab} {cb:Calls}
inductive SL (prog:Program) (w:World) (cls:Str→Option Addr) (base:Heap) (lo:Nat) (A:Around) (env:Env) (ρ:Rho):List Expr→M→M→List V→Prop
  | nil {μ:M}:SL prog w cls base lo A env ρ [] μ μ []
  | cons {e:Expr} {es:List Expr} {μ μ₁ μ₂:M} {v:V} {vs:List V}:isStar e=false→SE prog w cls base lo A env (eval e env) ρ μ μ₁ v→SL prog w cls base lo A env ρ es μ₁ μ₂ vs→SL prog w cls base lo A env ρ (e::es) μ μ₂ (v::vs)
theorem SL.all {es:List Expr} {vs:List V} (h:SL prog w cls base lo A env ρ es μ μ' vs):SEs prog w cls base lo A env es ρ μ μ' vs:=by
  induction h with
  | nil=>exact .nil
  | cons hs h r ih=>exact .cons hs h ih
theorem SL.plain {es:List Expr} {vs:List V} (h:SL prog w cls base lo A env ρ es μ μ' vs):noStar es:=by
  induction h with
  | nil=>exact fun _ h=>nomatch h
  | cons hs h r ih=>exact fun e he=>(List.mem_cons.mp he).elim (fun e'=>e' ▸ hs) (ih e)
theorem SL.length {es:List Expr} {vs:List V} (h:SL prog w cls base lo A env ρ es μ μ' vs):vs.length=es.length:=by
  induction h with
  | nil=>rfl
  | cons hs h r ih=>exact congrArg Nat.succ ih
theorem Inv.amore {h h':Heap} {D:Addr} {m:MObj} (I:Inv prog w cls base Z αs μ h) (hD:Off base Z αs h D) (hk:∀ b o,b≠D→h.get? b=some o→h'.get? b=some o) (hm:MRep prog w cls Z (αs++[D]) h' D m):Inv prog w cls base Z (αs++[D]) (μ++[m]) h':=by
  have I':=I.other hD hk
  exact {
    keep:=I'.keep
    fast:=I'.fast
    off:=fun b p e hx=>by
      rcases List.mem_append.mp hx with hx | hx
      · exact I.off b p e hx
      · rw [List.mem_singleton.mp hx] at e;exact hD.nz _ e
    len:=by rw [List.length_append,List.length_append,I.len];rfl
    at_:=fun i b m' e1 e2=>by
      by_cases hi:i<αs.length
      · rw [List.getElem?_append_left hi] at e1
        rw [List.getElem?_append_left (I.len ▸ hi)] at e2
        exact (I'.at_ i b m' e1 e2).mono (fun _ _ x=>x) (List.prefix_append _ _) fun _ x=>x
      · have hl:i=αs.length:=by
          have:=(List.getElem?_eq_some_iff.mp e1).1
          simp at this;omega
        subst hl
        rw [List.getElem?_append_right (Nat.le_refl _)] at e1
        rw [I.len,List.getElem?_append_right (Nat.le_refl _)] at e2
        simp at e1 e2
        subst e1;subst e2
        exact hm
    nodup:=by
      rw [List.nodup_append]
      refine ⟨I.nodup,by simp,fun x hx y hy e=>?_⟩
      rw [e,List.mem_singleton.mp hy] at hx
      exact hD.na hx
    old:=fun b hb=>by
      rcases List.mem_append.mp hb with hb | hb
      · exact I.old b hb
      · rw [List.mem_singleton.mp hb];exact hD.nb }
theorem Step.amore {D:Addr} {h':Heap} {tk:Nat} (x:Step lo Z αs s Z' αs' s') (hd:s.heap.get? D=none) (hk:∀ b o,b≠D→s'.heap.get? b=some o→h'.get? b=some o):Step lo Z αs s Z' (αs'++[D]) { s' with heap:=h',toks:=tk } where
  same:=by obtain ⟨h,t,e⟩:=x.same;exact ⟨h',tk,by rw [e]⟩
  keep:=fun b o hb ho=>hk b o (fun e=>by rw [e,hd] at ho;cases ho) (x.keep b o hb ho)
  alive:=fun b o ho=>let ⟨o',ho'⟩:=x.alive b o ho;⟨o',hk b o' (fun e=>by rw [e,hd] at ho;cases ho) ho'⟩
  zsub:=x.zsub
  znew:=x.znew
  anew:=by
    obtain ⟨t,rfl,ht⟩:=x.anew
    exact ⟨t++[D],List.append_assoc ..,fun a ha=>(List.mem_append.mp ha).elim (ht a) fun e=>by rw [List.mem_singleton.mp e];exact hd⟩
theorem KVs.mono {kvs:List (Str×Value)} {es:List (Str×V)} (h:KVs prog w Z αs kvs es) (hz:∀ a o,Z a o→Z' a o) (ha:αs <+: αs'):KVs prog w Z' αs' kvs es:=by
  induction h with
  | nil=>exact .nil
  | cons r _ ih=>exact .cons (r.mono hz ha) ih
theorem strConst_of {k:Option Expr} {x:Str} {P:Option Expr→Prop} (h:k.bind strConst=some x) (hk:∀ kk kp,P (some (.Constant (.str x) kk kp))):P k:=by
  refine bnd h fun e h1 h2=>?_
  rw [h1]
  refine bnd h2 fun c h3 h4=>?_
  apply const_eq h3
  intro kk kp
  cases c <;> first | (cases h4;done) | skip
  cases h4
  exact hk kk kp
inductive PairsO (prog:Program) (w:World) (cls:Str→Option Addr) (base:Heap) (lo:Nat) (Z:Addr→Obj→Prop) (αs:List Addr) (s:Shared) (μ':M) (es:List (Str×V)) (prs:List (Value×Value)) (s':Shared):Prop
  | mk (Z':Addr→Obj→Prop) (αs':List Addr) (kvs:List (Str×Value)):Step lo Z αs s Z' αs' s'→Inv prog w cls base Z' αs' μ' s'.heap→Carries (PySem.strKind prog w) prs kvs→KVs prog w Z' αs' kvs es→PairsO prog w cls base lo Z αs s μ' es prs s'
theorem pairs_ok {pos:Pos}:∀ {keys:List (Option Expr)} {values:List Expr} {ks:List Str} {vs:List V} {μ μ':M},strKeys keys=some ks→ks.length=values.length→SL prog w cls base lo A env ρ values μ μ' vs→∀ Z αs s,Inv prog w cls base Z αs μ s.heap→Loc prog w base env ρ Z αs s.heap→
    wpAny (model prog w) A (evalPairs (pairTrees keys values env pos)) (PairsO prog w cls base lo Z αs s μ' (ks.zip vs)) FF s:=by
  intro keys
  induction keys with
  | nil=>
    intro values ks vs μ μ' hk hl hs Z αs s I L
    cases hk
    cases values with
    | nil=>cases hs;exact wpAny_pure ⟨Z,αs,[],.refl ..,I,trivial,.nil⟩
    | cons _ _=>cases hl
  | cons k keys ih=>
    intro values ks vs μ μ' hk hl hs Z αs s I L
    refine bnd hk fun x h0 hk=>mpd hk fun ys h1 h2=>?_
    rw [← h2] at hl ⊢
    apply strConst_of h0
    intro kk kp
    cases hs with
    | nil=>cases hl
    | @cons e es _ μ₁ _ v vs hst h r'=>
      show wpAny _ A (do let kv ← eval (.Constant (.str x) kk kp) env;let vv ← holding [kv] (do let x ← eval e env;standAt pos;pure x);return (kv,vv)::(← holding [kv,vv] (evalPairs (pairTrees keys es env pos)))) _ _ _
      refine wpAny_bind ((SE.str (lo:=lo) (cls:=cls) (ρ:=ρ)).use I L fun kv Z₁ αs₁ s₁ S₁ I₁ L₁ R₁=>?_)
      refine wpAny_bind (wpAny_holding (wpAny_bind (h.use I₁ L₁ fun vv Z₂ αs₂ s₂ S₂ I₂ L₂ R₂=>wpAny_bind (wpAny_standAt (wpAny_pure ?_)))))
      refine wpAny_bind (wpAny_holding (wpAny_mono (ih h1 (Nat.succ.inj hl) r' Z₂ αs₂ s₂ I₂ L₂) (fun prs s₃ o=>?_) fun _ _ e=>e))
      obtain ⟨Z₃,αs₃,kvs,S₃,I₃,hc,hkv⟩:=o
      apply R₁.strE
      exact fun t=>wpAny_pure ⟨Z₃,αs₃,(x,vv)::kvs,(S₁.trans S₂).trans S₃,I₃,⟨PySem.strKind_is prog w x t,rfl,hc⟩,.cons (R₂.mono S₃.zsub S₃.asub) hkv⟩
theorem keys_len:∀ {keys:List (Option Expr)} {ks:List Str},strKeys keys=some ks→keys.length=ks.length∧keys.all (·.isSome)=true:=by
  intro keys
  induction keys with
  | nil=>intro ks h;cases h;exact ⟨rfl,rfl⟩
  | cons k keys ih=>
    intro ks h
    refine bnd h fun x h0 h=>mpd h fun ys h1 h2=>?_
    rw [← h2]
    apply strConst_of h0
    exact fun kk kp=>⟨congrArg Nat.succ (ih h1).1,(ih h1).2⟩
theorem merged_nodup:∀ {kvs acc:List (Str×Value)},((acc++kvs).map (·.1)).Nodup→merged acc kvs=acc++kvs
  | [],acc,_=>by simp [merged]
  | (k,v)::kvs,acc,h=>by
    have hk:k ∉ acc.map (·.1):=by
      rw [List.map_append,List.nodup_append] at h
      intro hm
      exact h.2.2 k hm k (by simp) rfl
    show merged (stored acc k v) kvs=_
    have:stored acc k v=acc++[(k,v)]:=by
      unfold stored
      rw [if_neg]
      simp only [List.any_eq_true,decide_eq_true_eq,not_exists,not_and]
      intro p hp e
      exact hk (List.mem_map.mpr ⟨p,hp,e⟩)
    rw [this,merged_nodup (by rw [List.append_assoc];exact h),List.append_assoc];rfl
theorem SE.dict {keys:List (Option Expr)} {values:List Expr} {pos:Pos} {ks:List Str} {vs:List V} (hk:strKeys keys=Option.some ks) (hl:ks.length=values.length) (hn:ks.Nodup) (h15:ks.length≤15) (h:SL prog w cls base lo A env ρ values μ μ' vs) :
    SE prog w cls base lo A env (eval (.Dict keys values pos) env) ρ μ (μ'++[if ks.isEmpty then .idict [] else .sdict (ks.zip vs)]) (.obj μ'.length):=by
  intro Z αs s I L
  obtain ⟨hkl1,hkl2⟩:=keys_len hk
  cases keys with
  | nil=>
    cases hk
    cases h with
    | nil=>
      refine wpAny_Dict_empty ⟨Z,αs++[s.heap.objs.size],.apush (tk:=s.toks) (dead_size _) fun b o q=>Heap.get?_push_of_some _ q,I.apush (dead_size _) (fun b o q=>Heap.get?_push_of_some _ q) ⟨[],Heap.DictOf.new _,rfl⟩,.obj ?_⟩
      rw [← I.len,List.getElem?_append_right (Nat.le_refl _)];simp
    | cons _ _ _=>cases hl
  | cons k keys=>
    have hne:ks.isEmpty=false:=by cases ks with | nil=>cases hkl1 | cons _ _=>rfl
    rw [hne]
    simp only [Bool.false_eq_true,if_false]
    generalize hDs:s.heap.objs.size=D
    have hd:s.heap.get? D=Option.none:=hDs ▸ dead_size _
    have S₀:Step lo Z αs s Z αs { s with heap:=s.heap.push { cls:=.type "dict", data:=.dict #[] } }:=.of_keeps ⟨_,s.toks,rfl,fun b o q=>Heap.get?_push_of_some _ q⟩
    have I₀:Inv prog w cls base Z αs μ (s.heap.push { cls:=.type "dict", data:=.dict #[] }):=I.keeps fun b o q=>Heap.get?_push_of_some _ q
    have hD₀:(s.heap.push { cls:=.type "dict", data:=.dict #[] }).get? D=Option.some { cls:=.type "dict", data:=.dict #[] }:=hDs ▸ Heap.get?_push_size _ rfl
    have off₀:Off base Z αs (s.heap.push { cls:=.type "dict", data:=.dict #[] }) D:=Off.new I hd hD₀
    refine wpAny_Dict_walk (knd:=PySem.strKind prog w) hkl2 (by omega) (by simp) (by omega) (wpAny_mono (pairs_ok (pos:=pos) hk hl h Z αs { s with heap:=s.heap.push { cls:=.type "dict", data:=.dict #[] } } I₀ (L.step S₀)) (fun prs s₁ o=>?_) fun _ _ e=>e)
    obtain ⟨Z₁,αs₁,kvs,S₁,I₁,hc,hkv⟩:=o
    rw [hDs]
    have off₁:Off base Z₁ αs₁ s₁.heap D:=off₀.step S₁.toW (wr:=[])
    have hD₁:s₁.heap.get? D=Option.some { cls:=.type "dict", data:=.dict #[] }:=S₁.keep _ _ (fun hm=>off₀.na (List.mem_of_mem_drop hm)) hD₀
    refine ⟨kvs,hc,⟨_,#[],0,hD₁,⟨rfl,rfl,rfl⟩,rfl,fun _ he=>by simp at he,Pairs.nil,List.nodup_nil⟩,fun h' hdict hs=>?_⟩
    have hvl:vs.length=ks.length:=by rw [h.length,hl]
    have hkeys:kvs.map (·.1)=ks:=by rw [hkv.keys,List.map_fst_zip (by omega)]
    rw [merged_nodup (by rw [List.nil_append,hkeys];exact hn),List.nil_append] at hdict
    have hx:∀ b o,b≠D→s₁.heap.get? b=Option.some o→h'.get? b=Option.some o:=hs.extBut
    refine ⟨Z₁,αs₁++[D],(S₀.trans S₁).amore hd hx,I₁.amore off₁ hx (mrep_sdict hdict (hkv.mono (fun _ _ x=>x) (List.prefix_append _ _)) (by rw [List.length_zip];omega)),.obj ?_⟩
    rw [← I₁.len,List.getElem?_append_right (Nat.le_refl _)];simp
end
end Mine
namespace Mine
open PySem PySem.W PySem.Calls PyProof.Rows
section
variable {lo:Nat} {prog:Program} {w:World} {cls:Str→Option Addr} {base:Heap} {Z Z' Z'':Addr→Obj→Prop} {αs αs' αs'':List Addr} {s s' s'':Shared} {μ μ' μ₁ μ₂:M} {A:Around} {env:Env} {ρ ρ' ρ₁:Rho} {n:Nat} {K:Frag} {T:Tab} {cb:Calls} {ow:List Addr} {fl:Fl}
theorem OutX.trans {f:Flow} (S:StepW ow lo Z αs s Z' αs' s') (o:OutX prog w cls base lo env ow Z' αs' s' fl ρ' μ' f s''):OutX prog w cls base lo env ow Z αs s fl ρ' μ' f s'':=
  let ⟨Z₁,α₁,S₁,I,L,h⟩:=o;⟨Z₁,α₁,S.trans S₁,I,L,h⟩
theorem SX.use {t:Sem Flow} {Q:Flow→Shared→Prop} (h:SX prog w cls base lo A env ow t ρ μ fl ρ' μ') (I:Inv prog w cls base Z αs μ s.heap) (L:Loc prog w base env ρ Z αs s.heap)
    (k:∀ f Z' αs' s',StepW ow lo Z αs s Z' αs' s'→Inv prog w cls base Z' αs' μ' s'.heap→Loc prog w base env ρ' Z' αs' s'.heap→flowOK prog w Z' αs' f fl→Q f s'):wpAny (model prog w) A t Q FF s:=
  wpAny_mono (h Z αs s I L) (fun _ _ ⟨Z',αs',S,I',L',hf⟩=>k _ Z' αs' _ S I' L' hf) fun _ _ e=>e
theorem flow_next {f:Flow} (h:flowOK prog w Z αs f .next):f=.next:=by cases f <;> first | rfl | exact h.elim
theorem flow_brk {f:Flow} (h:flowOK prog w Z αs f .brk):f=.brk:=by cases f <;> first | rfl | exact h.elim
theorem flow_ret {f:Flow} {v:V} (h:flowOK prog w Z αs f (.ret v)):∃ x,f=.ret x∧Rep prog w Z αs x v:=by cases f <;> first | exact ⟨_,rfl,h⟩ | exact h.elim
theorem SX.nil:SX prog w cls base lo A env ow (execs [] env) ρ μ .next ρ μ:=fun Z αs s I L=>wpAny_execs_nil ⟨Z,αs,.refl ..,I,L,trivial⟩
theorem SX.cons {st:Stmt} {rest:List Stmt} (h:SX prog w cls base lo A env ow (exec st env) ρ μ .next ρ₁ μ₁) (r:SX prog w cls base lo A env ow (execs rest env) ρ₁ μ₁ fl ρ' μ'):SX prog w cls base lo A env ow (execs (st::rest) env) ρ μ fl ρ' μ':=by
  intro Z αs s I L
  refine wpAny_execs_cons (h.use I L fun f Z₁ αs₁ s₁ S₁ I₁ L₁ hf=>?_)
  cases flow_next hf
  exact wpAny_mono (r Z₁ αs₁ s₁ I₁ L₁) (fun _ _ o=>o.trans S₁) fun _ _ e=>e
theorem SX.stop {st:Stmt} {rest:List Stmt} (h:SX prog w cls base lo A env ow (exec st env) ρ μ fl ρ' μ') (hn:fl≠.next):SX prog w cls base lo A env ow (execs (st::rest) env) ρ μ fl ρ' μ':=by
  intro Z αs s I L
  refine wpAny_execs_cons (h.use I L fun f Z₁ αs₁ s₁ S₁ I₁ L₁ hf=>?_)
  cases fl with
  | next=>exact absurd rfl hn
  | brk=>cases flow_brk hf;exact ⟨Z₁,αs₁,S₁,I₁,L₁,hf⟩
  | ret v=>obtain ⟨x,rfl,R⟩:=flow_ret hf;exact ⟨Z₁,αs₁,S₁,I₁,L₁,R⟩
theorem SX.ret {e:Expr} {pos:Pos} {v:V} (h:SE prog w cls base lo A env (eval e env) ρ μ μ' v):SX prog w cls base lo A env ow (exec (.Return (some e) pos) env) ρ μ (.ret v) ρ μ':=fun Z αs s I L=>
  wpAny_Return_some (h.use I L fun x Z₁ αs₁ s₁ S₁ I₁ L₁ R=>⟨Z₁,αs₁,S₁.toW,I₁,L₁,R⟩)
theorem SX.ret0 {pos:Pos}:SX prog w cls base lo A env ow (exec (.Return none pos) env) ρ μ (.ret .none) ρ μ:=fun Z αs s I L=>
  wpAny_Return_none ⟨Z,αs,.refl ..,I,L,.none⟩
theorem SX.brk {pos:Pos}:SX prog w cls base lo A env ow (exec (.Break pos) env) ρ μ .brk ρ μ:=fun Z αs s I L=>
  wpAny_Break ⟨Z,αs,.refl ..,I,L,trivial⟩
theorem SX.ite {t:Expr} {a b:List Stmt} {pos:Pos} {c:Bool} (h:SB prog w cls base lo A env (isTrue t env (eval t env)) ρ μ μ₁ c)
    (ha:c=true→SX prog w cls base lo A env ow (execs a env) ρ μ₁ fl ρ' μ') (hb:c=false→SX prog w cls base lo A env ow (execs b env) ρ μ₁ fl ρ' μ'):SX prog w cls base lo A env ow (exec (.If t a b pos) env) ρ μ fl ρ' μ':=by
  intro Z αs s I L
  refine wpAny_If (h.use I L fun Z₁ αs₁ s₁ S₁ I₁ L₁=>?_)
  cases c with
  | true=>rw [if_pos rfl];exact wpAny_mono (ha rfl Z₁ αs₁ s₁ I₁ L₁) (fun _ _ o=>o.trans S₁.toW) fun _ _ e=>e
  | false=>rw [if_neg (by simp)];exact wpAny_mono (hb rfl Z₁ αs₁ s₁ I₁ L₁) (fun _ _ o=>o.trans S₁.toW) fun _ _ e=>e
theorem swaps_no {value:Expr} {t:Option Expr} {line:Nat} (h:isComp value=false):swapsWith value t line env=pure false:=by
  cases value <;> first | rfl | cases h
theorem SX.expr {e:Expr} {pos:Pos} {v:V} (hk:isComp e=false) (hfn:env.scope.kind=.function)
    (h:SE prog w cls base lo A env (eval e env) ρ μ μ' v) (hv:dropV v=true):SX prog w cls base lo A env ow (exec (.Expr e pos) env) ρ μ .next ρ μ':=by
  intro Z αs s I L
  refine wpAny_Expr (h.use I L fun x Z₁ αs₁ s₁ S₁ I₁ L₁ R=>?_) (by unfold interactive;rw [hfn];rfl) (swaps_no hk)
  have ok:OutX prog w cls base lo env ow Z αs s .next ρ μ' .next s₁:=⟨Z₁,αs₁,S₁.toW,I₁,L₁,trivial⟩
  cases v with
  | none=>apply R.noneE;exact ok
  | bool b=>apply R.boolE;exact ok
  | int i=>apply R.intE;exact fun _=>ok
  | _=>cases hv
end
end Mine
namespace Mine
open PySem PySem.W PySem.Calls PyProof.Rows
section
variable {lo:Nat} {prog:Program} {w:World} {cls:Str→Option Addr} {base:Heap} {Z Z' Z'':Addr→Obj→Prop} {αs αs' αs'':List Addr} {s s' s'':Shared} {μ μ' μ₁ μ₂ μ₃:M} {A:Around} {env:Env} {ρ ρ' ρ₁:Rho} {n:Nat} {K:Frag} {T:Tab} {cb:Calls} {ow:List Addr} {fl:Fl}
theorem filter_names {sc:Scope} {c:Str→Pos→Bool} {f:Expr→Option Str} (hf:∀ x p,f (.Name x p)=if c x p then some x else none) {ts:List Expr}:∀ {xs:List Str},tgtNames sc ts=some xs→(ts.filterMap f).length=ts.length→ts.filterMap f=xs:=by
  induction ts with
  | nil=>intro xs h _;cases h;rfl
  | cons e ts ih=>
    exact fun h=>bnd h fun x h1 h=>ift h fun _ h=>mpd h fun ys h2 h3=>by
      subst h3
      apply name_of h1
      intro p hl
      cases hc:c x p with
      | true=>
        rw [List.filterMap_cons_some (by rw [hf,hc];rfl)] at hl ⊢
        rw [ih h2 (Nat.succ.inj hl)]
      | false=>
        rw [List.filterMap_cons_none (by rw [hf,hc];rfl)] at hl
        exact absurd hl (Nat.ne_of_lt (Nat.lt_succ_of_le (List.length_filterMap_le ..)))
section
variable {α:Type} {P:α→Prop} {c:Prop} [Decidable c] {x y:α}
theorem itn (h:P x) (k:¬c→P y):P (if c then x else y):=by
  split
  · exact h
  · exact k (by assumption)
end
theorem swapped_any {sc:Scope} {ts:List Expr} {k:Nat} {tp:Pos} {value:Expr} {xs:List Str} {P:Sem (Option (List Str))→Prop} (ht:tgtNames sc ts=some xs) (hv:oddTuple value=false) (h0:P (pure none)) (h1:P (pure (some xs))) :
    P (swappedStores [.Tuple ts k tp] value env):=by
  cases value with
  | Tuple vs k' vp=>
    refine itn h0 fun _=>itn h0 fun _=>itn h0 fun hl=>itn h0 fun hfs=>?_
    rw [show vs.all (constantsAlone 8)=false from by cases e:vs.all (constantsAlone 8) with | false=>rfl | true=>exact absurd (by cases e':vs.all (foldedForSure 8) with | true=>rfl | false=>rw [show oddTuple (.Tuple vs k' vp)=(vs.all (constantsAlone 8) && !vs.all (foldedForSure 8)) from rfl,e,e'] at hv;cases hv) hfs]
    have hl:((ts.filterMap fun | .Name id pos=>if env.kindOf id == some .local && pos.line == (ts.head?.map (·.pos.line)).getD 0 then some id else none | _=>none).length != ts.length)=false:=by
      cases e:((ts.filterMap fun | .Name id pos=>if env.kindOf id == some .local && pos.line == (ts.head?.map (·.pos.line)).getD 0 then some id else none | _=>none).length != ts.length) with
      | false=>rfl
      | true=>exact absurd (by rw [Bool.or_eq_true];exact .inl e) hl
    have:=filter_names (c:=fun id pos=>env.kindOf id == some .local && pos.line == (ts.head?.map (·.pos.line)).getD 0) (fun _ _=>rfl) ht (bne_eq_false_iff_eq.mp hl)
    exact this ▸ h1
  | _=>exact h0
theorem swaps_un {value t:Expr} {line:Nat} (h:nameOf t=none):swapsWith value (some t) line env=pure false:=by
  cases value <;> first | rfl | (cases t <;> first | rfl | cases h)
theorem Reps.reverse {us:List Value} {ds:List V} (r:Reps prog w Z αs us ds):Reps prog w Z αs us.reverse ds.reverse:=by
  induction us generalizing ds with
  | nil=>cases r;exact .nil
  | cons u us ih=>cases r with | cons h r=>rw [List.reverse_cons,List.reverse_cons];exact (ih r).append (.one h)
theorem OutS.toX (S:StepW ow lo Z αs s Z' αs' s') (o:OutS prog w cls base lo env ow Z' αs' s' ρ' μ' s''):OutX prog w cls base lo env ow Z αs s .next ρ' μ' .next s'':=by
  obtain ⟨Z₂,αs₂,S₂,I₂,L₂⟩:=o
  exact ⟨Z₂,αs₂,S.trans S₂,I₂,L₂,trivial⟩
theorem swapped_ok {sc:Scope} (hS:Sc sc env ow) (hh:A.handled=none) {ts:List Expr} {xs:List Str} {vs:List V} {u:Value} (hx:tgtNames sc ts=some xs) (hn:xs.Nodup) (hl:xs.length=vs.length) (I:Inv prog w cls base Z αs μ s.heap) (L:Loc prog w base env ρ Z αs s.heap) (R:Rep prog w Z αs u (.tup vs)) {Q:List Value→Shared→Prop}
    (hQ:∀ us s',wpAny (model prog w) A (assignInOrder (xs.reverse.map fun n=>bindName env n) us.reverse) (fun _=>OutS prog w cls base lo env ow Z αs s (updAll ρ (xs.zip vs)) μ) FF s'→Q us s'):wpAny (model prog w) A (unpackItems u xs.length none) Q FF s:=by
  apply tup_at I R
  rintro a us hT hz r
  rw [show xs.length=us.toArray.size from hl.trans r.length.symm]
  refine PySem.wpAny_unpackItems_tuple hh hT fun h' hx'=>hQ _ _ ?_
  have hk:∀ b o,s.heap.get? b=some o→h'.get? b=some o:=fun b o e=>hx' b o (Nat.ne_of_lt (Heap.lt_size e)) e
  have hmap:(xs.zip vs).map (·.1)=xs:=List.map_fst_zip (Nat.le_of_eq hl)
  have hstores:=stores_ok (lo:=lo) (A:=A) (ow:=ow) (ps:=(xs.zip vs).reverse) (us:=us.reverse) (fs:=xs.reverse.map fun n=>bindName env n) (s:={ s with heap:=h' }) (I.keeps hk) (L.step (lo:=lo) (s':={ s with heap:=h' }) (.of_keeps ⟨h',s.toks,rfl,hk⟩)) (fun p hp=>hS.own _ (tgtNames_own hx _ (List.of_mem_zip (List.mem_reverse.mp hp)).1))
    (by rw [List.map_reverse,List.map_snd_zip (Nat.le_of_eq hl.symm)];exact r.reverse) (by rw [List.length_map,List.length_reverse,List.length_reverse,List.length_zip,← hl,Nat.min_self]) fun i f p hf hp u Q s hq=>by
      rw [List.getElem?_map] at hf
      refine mpd hf fun x h1 h2=>?_
      subst h2
      have h2:((xs.zip vs).reverse.map (·.1))[i]?=some p.1:=by rw [List.getElem?_map,hp];rfl
      rw [List.map_reverse,hmap,h1] at h2
      cases h2
      exact bindName_of hq
  rw [updAll_reverse (by rw [hmap];exact hn)] at hstores
  exact wpAny_mono hstores (fun _ _ o=>o.trans (Step.of_keeps ⟨h',s.toks,rfl,hk⟩).toW) fun _ _ e=>e
theorem SX.assign {sc:Scope} (hS:Sc sc env ow) (hh:A.handled=none) (hfn:env.scope.kind=.function) {t value:Expr} {pos:Pos} {tg:Tgt} {v:V} (ht:compT sc t=some tg) (hb:bindT ρ v tg=some ρ') (h:SE prog w cls base lo A env (eval value env) ρ μ μ' v)
    (hsw:nameOf t≠none→swapsWith value (some t) pos.line env=pure false) (hv:oddTuple value=false) :
    SX prog w cls base lo A env ow (exec (.Assign [t] value pos) env) ρ μ .next ρ' μ':=by
  intro Z αs s I L
  have ht':=ht
  unfold compT at ht
  cases h1:nameOf t with
  | some x=>
    have hsw:=hsw (by rw [h1];exact fun h=>nomatch h)
    rw [h1] at ht
    refine ifd ht fun ho ht=>?_
    subst ht
    cases hb
    revert hsw
    apply name_of h1
    intro p hsw
    exact wpAny_Assign_Name (h.use I L fun u Z₁ αs₁ s₁ S₁ I₁ L₁ R=>wpAny_mono (store_ok (lo:=lo) I₁ L₁ (hS.own _ ho) R) (fun _ s₂ o=>o.toX S₁.toW) fun _ _ e=>e) hsw
  | none=>
    rw [h1] at ht
    refine bnd ht fun ts h2 ht=>bnd ht fun xs hx ht=>ifd ht fun hn ht=>?_
    subst ht
    revert ht'
    apply tuple_of h2
    intro k tp ht'
    refine swapped_any (P:=fun t=>swappedStores [.Tuple ts k tp] value env=t→_) hx hv (fun hw=>?_) (fun hw=>?_) rfl
    · exact Assign_Tuple (h.use I L fun u Z₁ αs₁ s₁ S₁ I₁ L₁ R=>wpAny_mono (bind_ok (lo:=lo) hS hh ht' hb I₁ L₁ R) (fun _ s₂ o=>o.toX S₁.toW) fun _ _ e=>e) (swaps_un (env:=env) (value:=value) (t:=.Tuple ts k tp) (line:=pos.line) rfl) hw
    · refine Assign_Tuple_swapped (h.use I L fun u Z₁ αs₁ s₁ S₁ I₁ L₁ R=>?_) (swaps_un (env:=env) (value:=value) (t:=.Tuple ts k tp) (line:=pos.line) rfl) hw
      refine bnd hb fun vs h3 hb=>ifd hb fun hl hb=>?_
      subst hb
      revert R
      apply tup_of h3
      intro R
      exact swapped_ok hS hh hx hn.1 hl I₁ L₁ R fun us s' h=>wpAny_mono h (fun _ _ o=>o.toX S₁.toW) fun _ _ e=>e
end
end Mine
namespace Mine
open PySem PySem.W PySem.Calls PyProof.Rows
section
variable {lo:Nat} {prog:Program} {w:World} {cls:Str→Option Addr} {base:Heap} {Z Z' Z'':Addr→Obj→Prop} {αs αs' αs'':List Addr} {s s' s'':Shared} {μ μ' μ₁ μ₂ μ₃:M} {A:Around} {env:Env} {ρ ρ' ρ₁:Rho} {n:Nat} {K:Frag} {T:Tab} {cb:Calls} {ow:List Addr} {fl:Fl}
theorem SX.used {y:Str} {py pos:Pos} {value:Expr} {v:V} (hsw:swapsWith value (some (.Name y py)) pos.line env=pure true)
    (h:∀ Z αs (s:Shared),Inv prog w cls base Z αs μ s.heap→Loc prog w base env ρ Z αs s.heap→wpAny (model prog w) A (evalThenUse value env (PySem.assign (.Name y py) env)) (fun _ s'=>OutS prog w cls base lo env ow Z αs s (upd ρ y v) μ' s') FF s) :
    SX prog w cls base lo A env ow (exec (.Assign [.Name y py] value pos) env) ρ μ .next (upd ρ y v) μ':=by
  intro Z αs s I L
  rw [exec_Assign_Name_used _ _ _ _ hsw]
  refine wpAny_bind (wpAny_standAt (wpAny_bind (wpAny_mono (h Z αs s I L) (fun _ s' o=>wpAny_pure ?_) fun _ _ e=>e)))
  obtain ⟨Z',αs',S,I',L'⟩:=o
  exact ⟨Z',αs',S,I',L',trivial⟩
theorem use_list {elt target iter:Expr} {ifs:List Expr} {rest:List Comprehension} {scope:Scope} {pos:Pos} {use:Value→Sem Unit} {P:Shared→Prop} (h:∀ p,wpAny (model prog w) A (comprehension (.ListComp elt (⟨target,iter,ifs,0⟩::rest) scope pos) scope env p (newList []) false (eval iter env) (some use)) (fun _ s'=>P s') FF s) :
    wpAny (model prog w) A (evalThenUse (.ListComp elt (⟨target,iter,ifs,0⟩::rest) scope pos) env use) (fun _ s'=>P s') FF s:=by
  show wpAny _ A (do let _ ← comprehension (.ListComp elt (⟨target,iter,ifs,0⟩::rest) scope pos) scope env _ (newList []) false (eval iter env) (some use)) _ _ s
  exact wpAny_bind (wpAny_mono (h _) (fun _ s' hp=>wpAny_pure hp) fun _ _ e=>e)
theorem use_dict {kx vx target iter:Expr} {scope:Scope} {pos:Pos} {use:Value→Sem Unit} {P:Shared→Prop} (h:∀ p,wpAny (model prog w) A (comprehension (.DictComp kx vx [⟨target,iter,[],0⟩] scope pos) scope env p newDict false (eval iter env) (some use)) (fun _ s'=>P s') FF s) :
    wpAny (model prog w) A (evalThenUse (.DictComp kx vx [⟨target,iter,[],0⟩] scope pos) env use) (fun _ s'=>P s') FF s:=by
  show wpAny _ A (do let _ ← comprehension (.DictComp kx vx [⟨target,iter,[],0⟩] scope pos) scope env _ newDict false (eval iter env) (some use)) _ _ s
  exact wpAny_bind (wpAny_mono (h _) (fun _ s' hp=>wpAny_pure hp) fun _ _ e=>e)
theorem SE.comp1 {target iter elt:Expr} {ifs:List Expr} {scope sc:Scope} {pos:Pos} {vi:V} {items vs:List V} {t:Tgt} {celt:C} {cifs:List C}
    (hh:A.handled=Option.none) (hfs:∀ x,foldedSetIterable iter env x=pure x) (hS:Sc sc env ow) (hc:compSc sc scope=true)
    (hit:SE prog w cls base lo A env (eval iter env) ρ μ μ₁ vi) (hv:iterV lo μ₁ vi=some items) (hf:flatM (fOne T cb lo celt t cifs (hideR (hideOf scope) ρ)) items μ₁=some (vs,μ'))
    (ht:compT scope target=some t) (hE:PartOK prog w cls base lo A T cb scope elt celt) (hT:TestsOK prog w cls base lo A T cb scope ifs cifs) :
    SE prog w cls base lo A env (eval (.ListComp elt [⟨target,iter,ifs,0⟩] scope pos) env) ρ μ μ' (.lst vs):=by
  intro Z αs s I L
  rw [eval_ListComp]
  exact Mine.comp1 hh hfs hS hc I L hit hv hf ht hE hT fun C D s' h=>compEnd_value' h
theorem SE.comp2 {target iter target' iter' elt:Expr} {ifs:List Expr} {scope sc:Scope} {pos:Pos} {vi:V} {items vs:List V} {t t':Tgt} {celt cit':C} {cifs:List C}
    (hh:A.handled=Option.none) (hfs:∀ x,foldedSetIterable iter env x=pure x) (hfs':∀ env x,foldedSetIterable iter' env x=pure x) (hS:Sc sc env ow) (hc:compSc sc scope=true)
    (hit:SE prog w cls base lo A env (eval iter env) ρ μ μ₁ vi) (hv:iterV lo μ₁ vi=some items) (hf:flatM (fTwo T cb lo celt t t' cit' cifs (hideR (hideOf scope) ρ)) items μ₁=some (vs,μ')) (hlen:vs.length≤sizeLim)
    (ht:compT scope target=some t) (ht':compT scope target'=some t') (hap:apartT t t'=true) (hE:PartOK prog w cls base lo A T cb scope elt celt) (hI':PartOK prog w cls base lo A T cb scope iter' cit') (hT:TestsOK prog w cls base lo A T cb scope ifs cifs) :
    SE prog w cls base lo A env (eval (.ListComp elt [⟨target,iter,[],0⟩,⟨target',iter',ifs,0⟩] scope pos) env) ρ μ μ' (.lst vs):=by
  intro Z αs s I L
  rw [eval_ListComp]
  exact Mine.comp2 hh hfs hfs' hS hc I L hit hv hf hlen ht ht' hap hE hI' hT fun C D s' h=>compEnd_value' h
theorem OutM.toX (S:Step lo Z αs s Z' αs' s') (L:Loc prog w base env ρ Z' αs' s'.heap) (o:OutM prog w cls base lo Z' αs' s' μ' s''):OutX prog w cls base lo env ow Z αs s .next ρ μ' .next s'':=by
  obtain ⟨Z₂,αs₂,S₂,I₂⟩:=o
  exact ⟨Z₂,αs₂,(S.trans S₂).toW,I₂,L.step S₂,trivial⟩
theorem SX.setAttr (X:Cx prog w cls base K T) {o value:Expr} {x:Str} {p pos:Pos} {v vo:V} (hv:SE prog w cls base lo A env (eval value env) ρ μ μ₁ v) (ho:SE prog w cls base lo A env (eval o env) ρ μ₁ μ₂ vo) (e:setAttrV T.fields lo μ₂ vo x v=some μ') :
    SX prog w cls base lo A env ow (exec (.Assign [.Attribute o x p] value pos) env) ρ μ .next ρ μ':=fun Z αs s I L=>
  plainObj_wpAny_Assign_Attribute (hv.use I L fun u Z₁ αs₁ s₁ S₁ I₁ L₁ R₁=>ho.use I₁ L₁ fun y Z₂ αs₂ s₂ S₂ I₂ L₂ R₂=>
    wpAny_mono (setAttr_ok (lo:=lo) X.frag (fun c C hC=>(X.clsOK c C hC).1) I₂ R₂ (R₁.mono S₂.zsub S₂.asub) e X.fields) (fun _ s₃ o=>o.toX (S₁.trans S₂) L₂) fun _ _ e=>e) (swaps_un (value:=value) rfl)
theorem SX.setIdx {o i value:Expr} {p pos:Pos} {v vo vi:V} (hv:SE prog w cls base lo A env (eval value env) ρ μ μ₁ v) (ho:SE prog w cls base lo A env (eval o env) ρ μ₁ μ₂ vo) (hi:SE prog w cls base lo A env (eval i env) ρ μ₂ μ₃ vi) (e:setIdxV lo μ₃ vo vi v=some μ') :
    SX prog w cls base lo A env ow (exec (.Assign [.Subscript o i p] value pos) env) ρ μ .next ρ μ':=fun Z αs s I L=>
  wpAny_Assign_Subscript (hv.use I L fun u Z₁ αs₁ s₁ S₁ I₁ L₁ R₁=>ho.use I₁ L₁ fun y Z₂ αs₂ s₂ S₂ I₂ L₂ R₂=>hi.use I₂ L₂ fun z Z₃ αs₃ s₃ S₃ I₃ L₃ R₃=>
    wpAny_mono (setIdxV_ok (lo:=lo) I₃ (R₂.mono S₃.zsub S₃.asub) R₃ ((R₁.mono S₂.zsub S₂.asub).mono S₃.zsub S₃.asub) e) (fun _ s₄ o=>o.toX ((S₁.trans S₂).trans S₃) L₃) fun _ _ e=>e) (swaps_un (value:=value) rfl)
theorem turn_while {test:Expr} {body:List Stmt} {R:Result→Shared→Prop}
    (h:wpAny (model prog w) A (isTrue test env (eval test env)) (fun b s₂=>if b=true then wpAny (model prog w) A (execs body env) (fun f s₃=>match f with
            | .next | .cont=>codeAny (model prog w) A (.whileLoop test body [] env) R s₃
            | .brk=>R (.ok .next) s₃
            | .ret v=>R (.ok (.ret v)) s₃) FF s₂
        else R (.ok .next) s₂) FF s):codeAny (model prog w) A (.whileLoop test body [] env) R s:=by
  refine codeAny_of_tree ?_
  show wpAny _ A ((whileTurn test body [] env).onRaise (fun x=>do noteFrame x env;theTreesLotGoes x)) _ _ s
  refine wpAny_noted (ff_noted ?_)
  unfold whileTurn
  refine wpAny_bind (wpAny_mono h (fun b s₂ h₂=>?_) fun _ _ e=>e)
  cases b with
  | true=>
    rw [if_pos rfl] at h₂ ⊢
    refine wpAny_bind (wpAny_mono h₂ (fun f s₃ h₃=>?_) fun _ _ e=>e)
    cases f with
    | next=>exact wpAny_pure ⟨rfl,h₃⟩
    | cont=>exact wpAny_pure ⟨rfl,h₃⟩
    | brk=>exact wpAny_pure h₃
    | ret v=>exact wpAny_pure h₃
  | false=>
    rw [if_neg (by simp)] at h₂ ⊢
    exact wpAny_bind (wpAny_execs_nil (wpAny_pure h₂))
theorem turn_for {target:Expr} {it:Value} {body:List Stmt} {R:Result→Shared→Prop}
    (h:wpAny (model prog w) A (pyNext it) (fun r s₁=>match r with
      | none=>R (.ok .next) s₁
      | some v=>wpAny (model prog w) A (letOwnedTupleGo target it v) (fun _ s₂=>wpAny (model prog w) A (assign target env v) (fun _ s₃=>wpAny (model prog w) A (execs body env) (fun f s₄=>match f with
          | .next | .cont=>codeAny (model prog w) A (.forLoop target it body [] env) R s₄
          | .brk=>R (.ok .next) s₄
          | .ret v=>R (.ok (.ret v)) s₄) FF s₃) FF s₂) FF s₁) FF s):codeAny (model prog w) A (.forLoop target it body [] env) R s:=by
  refine codeAny_of_tree ?_
  show wpAny _ A ((forTurn target it body [] env).onRaise (fun x=>do noteFrame x env;theTreesLotGoes x)) _ _ s
  refine wpAny_noted (ff_noted ?_)
  unfold forTurn
  refine wpAny_bind (wpAny_standAt (wpAny_bind (wpAny_onRaise (wpAny_mono h (fun r s₁ h₁=>?_) fun _ _ e=>e.elim))))
  cases r with
  | none=>exact wpAny_pure ⟨rfl,codeAny_block (wpAny_execs_nil h₁)⟩
  | some v=>
    refine wpAny_bind (wpAny_mono h₁ (fun _ s₂ h₂=>wpAny_bind (wpAny_mono h₂ (fun _ s₃ h₃=>wpAny_bind (wpAny_mono h₃ (fun f s₄ h₄=>?_) fun _ _ e=>e)) fun _ _ e=>e)) fun _ _ e=>e)
    cases f with
    | next=>exact wpAny_pure ⟨rfl,h₄⟩
    | cont=>exact wpAny_pure ⟨rfl,h₄⟩
    | brk=>exact wpAny_pure h₄
    | ret v=>exact wpAny_pure h₄
end
end Mine
namespace Mine
open PySem PySem.W PySem.Calls PyProof.Rows
section
variable {lo:Nat} {prog:Program} {w:World} {cls:Str→Option Addr} {base:Heap} {Z Z' Z'':Addr→Obj→Prop} {αs αs' αs'':List Addr} {s s' s'':Shared} {μ μ' μ₁ μ₂ μ₃:M} {A:Around} {env:Env} {ρ ρ' ρ₁:Rho} {n:Nat} {K:Frag} {T:Tab} {cb:Calls} {ow:List Addr} {fl:Fl}
theorem loop_step {f:Flow} {fl₁:Fl} {k:Rho→M→Res} {R:Result→Shared→Prop} {G:Prop} (h:thenM k (fl₁,ρ₁,μ₂)=some (fl,ρ',μ')) (hf:flowOK prog w Z αs f fl₁) (hR:∀ f fl',(some (fl',ρ₁,μ₂):Res)=some (fl,ρ',μ')→flowOK prog w Z αs f fl'→R (.ok f) s) (hk:k ρ₁ μ₂=some (fl,ρ',μ')→G) :
    match (generalizing:=false) f with
    | .next | .cont=>G
    | .brk=>R (.ok .next) s
    | .ret v=>R (.ok (.ret v)) s:=by
  cases fl₁ with
  | next=>cases flow_next hf;exact hk h
  | brk=>cases flow_brk hf;exact hR _ .next h trivial
  | ret v=>obtain ⟨x,rfl,R'⟩:=flow_ret hf;exact hR _ _ h R'
theorem OutX.of {f:Flow} {fl₁:Fl} (e:(some (fl₁,ρ₁,μ₁):Res)=some (fl,ρ',μ')) (S:StepW ow lo Z αs s Z' αs' s') (I:Inv prog w cls base Z' αs' μ₁ s'.heap) (L:Loc prog w base env ρ₁ Z' αs' s'.heap) (hf:flowOK prog w Z' αs' f fl₁):OutX prog w cls base lo env ow Z αs s fl ρ' μ' f s':=by
  cases e;exact ⟨_,_,S,I,L,hf⟩
section
variable {test:Expr} {body:List Stmt} {tst:Rho→M→Option (Bool×M)} {bdy:Rho→M→Res}
theorem while_code {R:Result→Shared→Prop} (ht:∀ ρ μ p,tst ρ μ=some p→SB prog w cls base lo A env (isTrue test env (eval test env)) ρ μ p.2 p.1)
    (hb:∀ ρ μ p,bdy ρ μ=some p→SX prog w cls base lo A env ow (execs body env) ρ μ p.1 p.2.1 p.2.2) {Z₀:Addr→Obj→Prop} {αs₀:List Addr} {s₀:Shared} (hR:∀ f s',OutX prog w cls base lo env ow Z₀ αs₀ s₀ fl ρ' μ' f s'→R (.ok f) s') :
    ∀ (n:Nat) {ρ:Rho} {μ:M} {Z:Addr→Obj→Prop} {αs:List Addr} {s:Shared},whileM tst bdy n ρ μ=some (fl,ρ',μ')→Inv prog w cls base Z αs μ s.heap→Loc prog w base env ρ Z αs s.heap→StepW ow lo Z₀ αs₀ s₀ Z αs s→codeAny (model prog w) A (.whileLoop test body [] env) R s:=by
  intro n
  induction n with
  | zero=>intro ρ μ Z αs s h;cases h
  | succ n ih=>
    intro ρ μ Z αs s h I L S
    refine bnd h fun p h1 h=>turn_while ((ht _ _ p h1).use I L fun Z₁ αs₁ s₁ S₁ I₁ L₁=>?_)
    have S:=S.trans S₁.toW
    clear h1
    obtain ⟨b,μ₁⟩:=p
    cases b with
    | true=>
      rw [if_pos rfl]
      exact bnd h fun p h2 h=>(hb _ _ p h2).use I₁ L₁ fun f Z₂ αs₂ s₂ S₂ I₂ L₂ hf=>loop_step h hf (fun f _ e hf=>hR f _ (.of e (S.trans S₂) I₂ L₂ hf)) fun h=>ih h I₂ L₂ (S.trans S₂)
    | false=>rw [if_neg (fun h=>nomatch h)];exact hR _ _ (.of h S I₁ L₁ trivial)
theorem SX.while {pos:Pos} (ht:∀ ρ μ p,tst ρ μ=Option.some p→SB prog w cls base lo A env (isTrue test env (eval test env)) ρ μ p.2 p.1)
    (hb:∀ ρ μ p,bdy ρ μ=Option.some p→SX prog w cls base lo A env ow (execs body env) ρ μ p.1 p.2.1 p.2.2) (h:whileM tst bdy n ρ μ=Option.some (fl,ρ',μ')) :
    SX prog w cls base lo A env ow (exec (.While test body [] pos) env) ρ μ fl ρ' μ':=fun Z αs s I L=>
  wpAny_While (while_code ht hb (fun _ _ o=>o) n h I L (.refl ..))
theorem StepW.loop {wr:List Addr} {Z₀:Addr→Obj→Prop} {αs₀:List Addr} {s₀:Shared} (S:StepW ow lo Z₀ αs₀ s₀ Z αs s) (S₁:StepW wr lo Z αs s Z' αs' s') (hdead:∀ a ∈ wr,s₀.heap.get? a=none) (S₂:StepW ow lo Z' αs' s' Z'' αs'' s''):StepW ow lo Z₀ αs₀ s₀ Z'' αs'' s'':=
  (((S.mono fun _ h=>List.mem_append_left wr h).trans (S₁.mono fun _ h=>List.mem_append_right ow h)).trans (S₂.mono fun _ h=>List.mem_append_left wr h)).drop fun a h=>(List.mem_append.mp h).imp id (hdead a)
theorem for_items {target:Expr} {it:Value} {items:List V} {wr:List Addr} {St:Nat→(Addr→Obj→Prop)→List Addr→Heap→Prop} {sc:Scope} {t:Tgt} {R:Result→Shared→Prop} (hS:Sc sc env ow) (hh:A.handled=none) (ht:compT sc target=some t)
    (Dd:Dr prog w cls base A lo target it items wr St) (hb:∀ ρ μ p,bdy ρ μ=some p→SX prog w cls base lo A env ow (execs body env) ρ μ p.1 p.2.1 p.2.2)
    (how:∀ a ∈ ow,a ∈ fr env) (hdis:∀ a ∈ wr,a ∉ fr env) {Z₀:Addr→Obj→Prop} {αs₀:List Addr} {s₀:Shared} (hdead:∀ a ∈ wr,s₀.heap.get? a=none) (hR:∀ f s',OutX prog w cls base lo env ow Z₀ αs₀ s₀ fl ρ' μ' f s'→R (.ok f) s') :
    ∀ (k i:Nat) {ρ:Rho} {μ:M} {Z:Addr→Obj→Prop} {αs:List Addr} {s:Shared},i + k=items.length→forM (fun x ρ μ=>(bindT ρ x t).bind fun ρ'=>bdy ρ' μ) (items.drop i) ρ μ=some (fl,ρ',μ')→St i Z αs s.heap→
      Inv prog w cls base Z αs μ s.heap→Loc prog w base env ρ Z αs s.heap→StepW ow lo Z₀ αs₀ s₀ Z αs s→codeAny (model prog w) A (.forLoop target it body [] env) R s:=by
  intro k
  induction k with
  | zero=>
    intro i ρ μ Z αs s hk hf st I L S
    have hk:i=items.length:=hk
    rw [hk,List.drop_length] at hf
    rw [hk] at st
    refine turn_for (wpAny_mono (Dd.done Z αs s st) (fun r s' h=>?_) fun _ _ e=>e)
    obtain ⟨rfl,h',tk,rfl,hk'⟩:=h
    exact hR _ _ (.of hf (S.last hk' hdead) (I.others wr hk' fun a ha=>Dd.off _ _ _ _ st a ha) (L.other wr hk' fun a ha hm=>hdis a hm ha) trivial)
  | succ k ih=>
    intro i ρ μ Z αs s hk hf st I L S
    have hlt:i<items.length:=hk ▸ Nat.lt_add_of_pos_right (Nat.succ_pos k)
    rw [List.drop_eq_getElem_cons hlt] at hf
    refine turn_for (wpAny_mono (Dd.item i Z αs s μ hlt st I) (fun r s₁ h=>?_) fun _ _ e=>e)
    obtain ⟨v,rfl,h⟩:=h
    refine wpAny_mono h (fun _ s₂ h=>?_) fun _ _ e=>e
    obtain ⟨Z',αs',d,hd,S₁,I₁,R₁,st₁⟩:=h
    rw [List.getElem?_eq_getElem hlt] at hd
    have L₁:=L.stepW S₁ fun a ha hm=>hdis a hm ha
    refine bnd hf fun p h hf=>bnd h fun ρ₁ hbd h2=>wpAny_mono (bind_ok (lo:=lo) hS hh ht hbd I₁ L₁ (Option.some.inj hd ▸ R₁)) (fun _ s₃ o=>?_) fun _ _ e=>e
    obtain ⟨Z₂,αs₂,S₂,I₂,L₂⟩:=o
    refine (hb _ _ p h2).use I₂ L₂ fun f Z₃ αs₃ s₄ S₃ I₃ L₃ hfl=>?_
    have S23:=S₂.trans S₃
    exact loop_step hf hfl (fun f _ e hf=>hR f _ (.of e (S.loop S₁ hdead S23) I₃ L₃ hf)) fun hf=>ih (i + 1) ((Nat.succ_add i k).trans hk) hf (Dd.step _ _ _ _ _ _ _ _ _ _ st₁ I₁ I₃ S23 fun a h=>⟨L₁.off (how a h),fun hm=>hdis a hm (how a h)⟩) I₃ L₃ (S.loop S₁ hdead S23)
theorem SX.for {target iter:Expr} {pos:Pos} {items:List V} {vi:V} {sc:Scope} {t:Tgt} (hS:Sc sc env ow) (hh:A.handled=Option.none) (ht:compT sc target=Option.some t) (hfs:∀ x,foldedSetIterable iter env x=pure x)
    (hit:SE prog w cls base lo A env (eval iter env) ρ μ μ₁ vi) (hv:iterV lo μ₁ vi=Option.some items) (hb:∀ ρ μ p,bdy ρ μ=Option.some p→SX prog w cls base lo A env ow (execs body env) ρ μ p.1 p.2.1 p.2.2) (how:∀ a ∈ ow,a ∈ fr env)
    (hf:forM (fun x ρ μ=>(bindT ρ x t).bind fun ρ'=>bdy ρ' μ) items ρ μ₁=Option.some (fl,ρ',μ')):SX prog w cls base lo A env ow (exec (.For target iter body [] pos) env) ρ μ fl ρ' μ':=by
  intro Z αs s I L
  refine wpAny_For (hit.use I L fun x Z₁ αs₁ s₁ S₁ I₁ L₁ R₁=>wpAny_mono (pyIter_ok hh I₁ R₁ hv) (fun it s₂ o=>?_) fun _ _ e=>e) hfs
  obtain ⟨J,St,P,fp,oJ,rfl,hK,hJ1,hJ2,hst,hI,hsz⟩:=o
  have S₂:Step lo Z₁ αs₁ s₁ Z₁ αs₁ s₂:=.of_keeps hK
  obtain ⟨h₂,tk₂,rfl,hk₂⟩:=hK
  have hJfr:J ∉ fr env:=fun ha=>by obtain ⟨o,q⟩:=(L₁.off ha).live;rw [hJ1] at q;cases q
  exact for_items hS hh ht (dr_of_iter (target:=target) (St:=St) (P:=P) (fp:=J::fp)) hb how (fun a ha=>by rw [List.mem_singleton.mp ha];exact hJfr) (Z₀:=Z₁) (αs₀:=αs₁) (s₀:=s₁) (fun a ha=>by rw [List.mem_singleton.mp ha];exact hJ1) (fun f s' o=>o.trans S₁.toW)
    items.length 0 (Nat.zero_add _) hf ⟨⟨hI.walks.mono_fp fun b hb=>.tail _ hb,hI.reps,hI.apart,fun b hb=>(List.mem_cons.mp hb).elim .inl (hI.fp b),hI.go⟩,hst,.head _⟩ (I₁.keeps hk₂) (L₁.step S₂) S₂.toW
end
end
end Mine
namespace Mine
open PySem PySem.W PySem.Calls PyProof.Rows
section
variable {lo:Nat} {prog:Program} {w:World} {cls:Str→Option Addr} {base:Heap} {Z Z' Z'':Addr→Obj→Prop} {αs αs' αs'':List Addr} {s s' s'':Shared} {μ μ' μ₁ μ₂ μ₃:M} {A:Around} {env:Env} {ρ ρ' ρ₁:Rho} {n:Nat} {K:Frag} {T:Tab} {cb:Calls} {ow:List Addr} {fl:Fl}
theorem tup_next {it t:Addr} {i:Nat} {items:Array Value} {E:Value→Shared→Prop} {Q:Value→Shared→Prop} (hh:A.handled=none) (hit:s.heap.IsTupleIter it t i) (ht:s.heap.IsTuple t items)
    (hmore:∀ x h',items[i]?=some x→h'.IsTupleIter it t (i + 1)→Heap.SameBut it s.heap h'→Q x { s with heap:=h' })
    (hend:items[i]?=none→∀ h' e,Heap.ExtBut it s.heap h'→(∃ o,h'.get? e=some o∧o.cls=.type "StopIteration")→E (.ref e) { s with heap:=h' }) :
    wpAny (model prog w) A (Builtin.SmallTypes.nextOf (.ref it)) Q E s:=by
  obtain ⟨o,ho,hc,hd⟩:=id hit
  obtain ⟨ol,hol,_,nl,hdl⟩:=ht
  unfold Builtin.SmallTypes.nextOf
  refine wpAny_bind (wpAny_callSpecial?_slot (name:=Str.ofString "__next__") hit.typeIs F.slot_tuple_iterator_next
    (wpAny_call_entry F.slot_tuple_iterator_next hit.typeIs F.entry_tuple_iterator_next ?_ (F.args_tuple_iterator_next_1 _)))
  show wpAny _ _ (field (.ref it) 0 >>= _) _ _ s
  refine wpAny_bind (wpAny_field ho hd (x:=.ref t) rfl ?_)
  show wpAny _ _ (if (Value.ref t == Value.none)=true then _ else _) _ _ s
  rw [if_neg (show ¬ ((Value.ref t == Value.none)=true) from Bool.false_ne_true)]
  show wpAny _ _ (field (.ref it) 1 >>= _) _ _ s
  refine wpAny_bind (wpAny_field ho hd (x:=.int i 0) rfl ?_)
  show wpAny _ _ (seqItems? (.ref t) >>= _) _ _ s
  refine wpAny_bind (wpAny_seqItems hol hdl ?_)
  cases hx:items[i]? with
  | some x=>
    simp only [Int.toNat_natCast,hx]
    refine wpAny_bind (wpAny_setField ho hd (by simp) (wpAny_pure ⟨x,rfl,wpAny_pure (hmore x _ hx ?_ (Heap.SameBut.update ..))⟩))
    exact ⟨_,Heap.get?_update_self _ ho (Obj.isFreed_of_fields (Obj.data_mapFields hd _)),(Obj.cls_mapFields ..).trans hc,by rw [Obj.data_mapFields hd];simp [rawInt]⟩
  | none=>
    simp only [Int.toNat_natCast,hx]
    refine wpAny_bind (wpAny_rule (wpAny_bind (wpAny_setField ho hd (by simp) ?_)))
    show wpAny _ _ (newExc (.type "StopIteration") [] >>= _) _ _ _
    refine wpAny_bind ?_
    simp only [newExc,newTuple]
    refine wpAny_bind (wpAny_newObj_type ?_ (by size_fits))
    refine wpAny_bind (m:=firstArgMember _ _) (wpAny_of_eq (a:=Value.none) (by first | rfl | (simp only [firstArgMember];rfl)) ?_)
    refine wpAny_newObj_type ?_ (by size_fits)
    simp only [raiseNew]
    refine wpAny_bind (wpAny_handled ?_)
    first | rw [show A.in1.handled=none from hh] | rw [hh]
    refine wpAny_bind (wpAny_pure (wpAny_throw ?_))
    exact hend hx _ _ (((Heap.SameBut.update ..).extBut.push _).push _) ⟨_,Heap.get?_push_size _ rfl,rfl⟩
theorem tup_draws (hh:A.handled=none) (it l:Addr) (hne:l≠it) (items:Array Value) :
    Draws prog w A it [it,l] items.size (fun i v=>items[i]?=some v) (fun i h=>h.IsTupleIter it l i∧h.IsTuple l items) where
  live:=fun _ _ st=>let ⟨o,ho,_⟩:=st.1;⟨o,ho⟩
  frame:=fun _ _ _ st hk=>⟨st.1.at fun o e=>hk it (by simp) o e,st.2.at fun o e=>hk l (by simp) o e⟩
  item:=fun i s Q E hi st hQ=>tup_next hh st.1 st.2 (fun x h' hx hit' hs'=>hQ x h' s.toks hx ⟨hit',st.2.extBut hs'.extBut hne⟩ hs') fun hx=>by
    have:items[i]?=some items[i]:=by simp [hi]
    rw [this] at hx;cases hx
  done:=fun s Q E st hE=>tup_next hh st.1 st.2 (fun x h' hx=>by simp at hx) fun _ h' e he ho=>hE h' e he ho
theorem pure_any {α:Type} {a:α} {Q:α→Shared→Prop} {E:Value→Shared→Prop} (h:∀ b,Q b s):wpAny (model prog w) A (pure a) Q E s:=wpAny_pure (h a)
theorem meets_enum_tup (l:Addr) (items:Array Value) (n:Nat) (dct:Option Addr) (sl:Array (Option Value)) :
    Meets (Builtin.«enumerate.__new__» ⟨[.type "enumerate", .ref l],[]⟩) (fun _ R s=>s.heap.get? l=some { cls:=.type "tuple", dict:=dct,data:=.seq items n,slots:=sl } ∧
      R (.ok (.ret (.ref (s.heap.push { cls:=.type "tuple_iterator", data:=.fields #[.ref l,.int 0 0] }).objs.size)))
        { s with heap:=(s.heap.push { cls:=.type "tuple_iterator", data:=.fields #[.ref l,.int 0 0] }).push { cls:=.type "enumerate", data:=.fields #[.none,.bool false,.ref s.heap.objs.size,rawInt 0,.none,.none] } }):=
  .of_wp fun prog w A R s h=>by
    obtain ⟨hp,g,d,tk,os⟩:=s;obtain ⟨hl,h⟩:=h
    have hsub:=sub_enumerate
    have hL:Heap.IsTuple (Shared.heap ⟨hp,g,d,tk,os⟩) l items:=⟨_,hl,rfl,n,rfl⟩
    wp_walk using AutoSeq1.wpAny_loadPart' hl
    refine wpAny_stack_any fun st=>pure_any fun b=>?_
    cases b <;>
    · wp_walk using AutoSeq1.wpAny_loadPart' hl,wpAny_pyIter_tuple hL
      exact ⟨_,rfl,h⟩
theorem call_enum_tup {l:Addr} {items:Array Value} {E:Value→Shared→Prop} {Q:Value→Shared→Prop} (hL:s.heap.IsTuple l items)
    (h:∀ h',IsEnum h' (s.heap.objs.size + 1) s.heap.objs.size 0 .none→h'.IsTupleIter s.heap.objs.size l 0→(∀ b o,s.heap.get? b=some o→h'.get? b=some o)→Q (.ref (s.heap.objs.size + 1)) { s with heap:=h' }) :
    wpAny (model prog w) A (call (.type "enumerate") [.ref l]) Q E s:=by
  obtain ⟨⟨c,dct,dt,sl⟩,hl,hc,n,hd⟩:=hL
  replace hc:c=.type "tuple" := hc
  replace hd:dt=.seq items n:=hd
  subst hc hd
  refine callType_new PySem.F.called_enumerate (by decide) (PySem.F.typeCall_enumerate_1 _) (PySem.F.newCall_enumerate_1 _) (fun obj=>PySem.F.args_object_init_2 obj _) PySem.F.entry_enumerate_new
    (meets_enum_tup l items n dct sl) ⟨hl,?_⟩
  have hz:(s.heap.push { cls:=.type "tuple_iterator", data:=.fields #[.ref l,.int 0 0] }).objs.size=s.heap.objs.size + 1:=Heap.size_push ..
  show _∧_
  rw [hz]
  have he:IsEnum ((s.heap.push { cls:=.type "tuple_iterator", data:=.fields #[.ref l,.int 0 0] }).push
      { cls:=.type "enumerate", data:=.fields #[.none,.bool false,.ref s.heap.objs.size,rawInt 0,.none,.none] }) (s.heap.objs.size + 1) s.heap.objs.size 0 .none:=by
    have:=Heap.get?_push_size (s.heap.push { cls:=.type "tuple_iterator", data:=.fields #[.ref l,.int 0 0] })
      (o:={ cls:=.type "enumerate", data:=.fields #[.none,.bool false,.ref s.heap.objs.size,rawInt 0,.none,.none] }) rfl
    rw [hz] at this;exact this
  exact ⟨⟨_,he,rfl⟩,h _ he ⟨_,Heap.get?_push_of_some _ (Heap.get?_push_size _ rfl),rfl,rfl⟩ fun b o x=>Heap.get?_push_of_some _ (Heap.get?_push_of_some _ x)⟩
end
end Mine
namespace Mine
open PySem PySem.W PySem.Calls PyProof.Rows
section
variable {lo:Nat} {prog:Program} {w:World} {cls:Str→Option Addr} {base:Heap} {Z Z' Z'':Addr→Obj→Prop} {αs αs' αs'':List Addr} {s s' s'':Shared} {μ μ' μ₁ μ₂ μ₃:M} {A:Around} {env:Env} {ρ ρ' ρ₁:Rho} {n:Nat} {K:Frag} {T:Tab} {cb:Calls} {ow:List Addr} {fl:Fl}
theorem enumFrom_get:∀ (ds:List V) (k:Int) (i:Nat) {d:V},ds[i]?=some d→(enumFrom k ds)[i]?=some (.tup [.int (k + i),d])
  | d::ds,k,0,_,h=>by cases h;rw [Int.natCast_zero,Int.add_zero];rfl
  | d::ds,k,i + 1,_,h=>by rw [enumFrom,List.getElem?_cons_succ,enumFrom_get ds (k + 1) i h,Int.natCast_succ,Int.add_assoc,Int.add_comm 1]
theorem enumFrom_length:∀ (ds:List V) (k:Int),(enumFrom k ds).length=ds.length
  | [],_=>rfl
  | d::ds,k=>congrArg Nat.succ (enumFrom_length ds (k + 1))
theorem two_all {α:Type} {a b:α} {P:α→Prop} (h1:P a) (h2:P b):∀ x ∈ [a,b],P x:=fun x hx=>by
  rcases List.mem_cons.mp hx with rfl | hx
  · exact h1
  · rw [List.mem_singleton.mp hx];exact h2
structure StE (prog:Program) (w:World) (base:Heap) (e it l:Addr) (us:List Value) (ds:List V) (i:Nat) (Z:Addr→Obj→Prop) (αs:List Addr) (h:Heap):Prop where
  en:∃ old,IsEnum h e it i old
  ti:h.IsTupleIter it l i
  tu:h.IsTuple l us.toArray
  off:∀ a ∈ [e,it],Off base Z αs h a
  z:∃ o,Z l o
  reps:Reps prog w Z αs us ds
section
variable {elts:List Expr} {k:Nat} {pos:Pos} {e it l:Addr} {us:List Value} {ds:List V} {i:Nat}
theorem StE.step {wr':List Addr} (st:StE prog w base e it l us ds i Z αs s.heap) (I:Inv prog w cls base Z αs μ s.heap) (I':Inv prog w cls base Z' αs' μ' s'.heap) (S:StepW wr' lo Z αs s Z' αs' s') (hw:∀ a ∈ wr',Off base Z αs s.heap a∧a ∉ [e,it]):StE prog w base e it l us ds i Z' αs' s'.heap:=by
  have kp:∀ a ∈ [e,it],∀ o,s.heap.get? a=some o→s'.heap.get? a=some o:=fun a ha o q=>S.keep a o (fun hm=>(st.off a ha).na (List.mem_of_mem_drop hm)) (fun hm=>(hw a hm).2 ha) q
  obtain ⟨o,h5⟩:=st.z
  exact ⟨st.en.imp fun _=>kp e (.head _) _,st.ti.at fun o q=>kp it (.tail _ (.head _)) o q,st.tu.at fun o' q=>(by
    have:=I.fast _ _ h5
    rw [q] at this;cases this
    exact I'.fast _ _ (S.zsub _ _ h5)),fun a ha=>(st.off a ha).step S,⟨o,S.zsub _ _ h5⟩,st.reps.mono S.zsub S.asub⟩
theorem dr_enum (hh:A.handled=none) (hei:e≠it) (hle:l≠e) (hli:l≠it) (hlen:us.length=ds.length) :
    Dr prog w cls base A lo (.Tuple elts k pos) (.ref e) (enumFrom 0 ds) [e,it] (StE prog w base e it l us ds):=by
  have W:=WalksT.enumerateD (A:=A) (tup_draws (prog:=prog) (w:=w) (A:=A.in1) hh it l hli us.toArray) e hei (by simp [hei,Ne.symm hle]) (by simp)
  rw [show us.toArray.size=ds.length from hlen] at W
  refine { off:=fun i Z αs h st=>st.off,step:=fun i Z αs s Z' αs' s' wr' μ μ' st I I' S hw=>st.step I I' S hw,item:=fun i Z αs s μ hi st I=>?_,done:=fun Z αs s st=>?_,self:=fun i Z αs s Q E st hQ=>W.self i s Q E ⟨st.en,st.ti,st.tu⟩ hQ }
  · rw [enumFrom_length] at hi
    refine W.item i s _ _ hi ⟨st.en,st.ti,st.tu⟩ fun T vals h' tk hP hT hTup hM hk=>⟨_,rfl,W.go elts k pos i T { s with heap:=h',toks:=tk } _ _ hM fun h'' hst hk'=>?_⟩
    obtain ⟨t,x,hx,rfl⟩:=hP
    obtain ⟨d,hd,R⟩:=st.reps.get' (by rw [List.getElem?_toArray] at hx;exact hx)
    have hTw:=W.apart _ _ _ hM
    have hTd:s.heap.get? T=none:=Heap.get?_none_of_le hT
    obtain ⟨oT,hoT,hcT,nT,hdT⟩:=hTup
    have hoT':h''.get? T=some oT:=hk' T oT hTw hoT
    have kall:∀ b o,b ∉ [e,it]→s.heap.get? b=some o→h''.get? b=some o:=fun b o hb q=>hk' b o hb (hk b o hb q)
    obtain ⟨⟨old,he⟩,hit2,ht2⟩:=hst
    have S₁:StepW [e,it] lo Z αs s Z αs { s with heap:=h'',toks:=tk }:=.many kall (two_all ⟨_,he⟩ (hit2.imp fun _ h=>h.1))
    have I₁:Inv prog w cls base Z αs μ h'':=I.others [e,it] kall st.off
    obtain ⟨o,h5⟩:=st.z
    have sub:∀ a p,Z a p→zadd Z T oT a p:=fun a p h=>.inl h
    refine ⟨zadd Z T oT,αs,_,enumFrom_get ds 0 i hd,⟨S₁.same,S₁.keep,S₁.alive,sub,fun a p h=>h.elim .inl fun e=>.inr (e.1 ▸ hTd),S₁.anew⟩,I₁.zmore (Off.new I hTd hoT') hoT',?_,⟨old,he⟩,hit2,ht2,fun a ha=>?_,⟨o,.inl h5⟩,st.reps.mono sub (List.prefix_refl _)⟩
    · refine .tup (vs:=[.int i t,x]) (.inr ⟨rfl,rfl⟩) hcT hdT (show 2≤sizeLine by decide) (.cons ?_ (.cons (R.mono sub (List.prefix_refl _)) .nil))
      rw [Int.zero_add];exact .int _ _
    · have:=(st.off a ha).step S₁
      exact ⟨this.na,fun p h=>h.elim (this.nz p) fun e=>hTw (e.1 ▸ ha),this.nb,this.live⟩
  · rw [enumFrom_length] at st
    exact W.done s _ _ ⟨st.en,st.ti,st.tu⟩ fun h' tk hk=>⟨rfl,h',tk,rfl,hk⟩
end
theorem SX.forE (X:Cx prog w cls base K T) {elts:List Expr} {kk:Nat} {tp:Pos} {it:Expr} {body:List Stmt} {pos cpos np:Pos} {ds:List V} {sc:Scope} {t:Tgt} {bdy:Rho→M→Res} (hS:Sc sc env ow) (hh:A.handled=Option.none) (ht:compT sc (.Tuple elts kk tp)=Option.some t)
    (hx:env.kindOf "enumerate" = Option.some .globalImplicit) (hd:T.defs "enumerate" = Option.none) (hcl:T.classes "enumerate" = Option.none) (hst:isStar it=false)
    (hit:SE prog w cls base lo A env (eval it env) ρ μ μ₁ (.tup ds)) (hb:∀ ρ μ p,bdy ρ μ=Option.some p→SX prog w cls base lo A env ow (execs body env) ρ μ p.1 p.2.1 p.2.2) (how:∀ a ∈ ow,a ∈ fr env)
    (hf:forM (fun x ρ μ=>(bindT ρ x t).bind fun ρ'=>bdy ρ' μ) (enumFrom 0 ds) ρ μ₁=Option.some (fl,ρ',μ')):SX prog w cls base lo A env ow (exec (.For (.Tuple elts kk tp) (.Call (.Name "enumerate" np) [it] [] cpos) body [] pos) env) ρ μ fl ρ' μ':=by
  intro Z αs s I L
  have hsl:SL prog w cls base lo A env ρ [it] μ μ₁ [.tup ds]:=.cons hst hit .nil
  refine wpAny_For ?_ (fun x=>rfl)
  refine wpAny_Call_NameR (name_boot X (X.builtins _ (by decide) hd hcl) PyProof.Rows.Boot.«enumerate» (by decide) hx (by decide) I L ?_)
  refine callWith_any (.inr (.inl ⟨_,rfl⟩)) X.frag hsl.plain hsl.all I L fun ys Z₁ αs₁ s₁ S₁ I₁ L₁ r₁=>?_
  apply reps_one r₁
  intro y R₁
  obtain ⟨l,o,us,c,hz,h1,h2,h3,h4⟩:=R₁.inv
  have hT:s₁.heap.IsTuple l us.toArray:=⟨_,I₁.fast _ _ hz,h1,_,h2⟩
  refine call_enum_tup hT fun h' he hti hk=>wpAny_pyIter_enum he ?_
  have hd1:=dead_size s₁.heap
  have hd2:s₁.heap.get? (s₁.heap.objs.size + 1)=Option.none:=Heap.get?_none_of_le (Nat.le_succ _)
  have S₂:Step lo Z₁ αs₁ s₁ Z₁ αs₁ { s₁ with heap:=h' }:=.of_keeps ⟨h',s₁.toks,rfl,hk⟩
  have hl1:=alive_lt (I₁.fast _ _ hz)
  have hdead:∀ a ∈ [s₁.heap.objs.size + 1,s₁.heap.objs.size],s₁.heap.get? a=Option.none:=two_all hd2 hd1
  exact for_items hS hh ht (dr_enum (cls:=cls) (lo:=lo) hh (elts:=elts) (k:=kk) (pos:=tp) (Nat.succ_ne_self _) (Nat.ne_of_lt (Nat.lt_succ_of_lt hl1)) (Nat.ne_of_lt hl1) h4.length) hb how (fun a ha hm=>by obtain ⟨o',q⟩:=(L₁.off hm).live;rw [hdead a ha] at q;cases q) (Z₀:=Z₁) (αs₀:=αs₁) (s₀:=s₁) hdead (fun f s' o=>o.trans S₁.toW)
    (enumFrom 0 ds).length 0 (Nat.zero_add _) hf ⟨⟨_,he⟩,hti,hT.at fun o q=>hk _ o q,two_all (Off.new I₁ hd2 he) (by obtain ⟨o',q,_⟩:=hti;exact Off.new I₁ hd1 q),⟨_,hz⟩,h4⟩ (I₁.keeps hk) (L₁.step S₂) S₂.toW
end
end Mine
namespace Mine
open PySem PySem.W PySem.Calls PyProof.Rows
section
variable {lo:Nat} {prog:Program} {w:World} {cls:Str→Option Addr} {base:Heap} {Z Z' Z'':Addr→Obj→Prop} {αs αs' αs'':List Addr} {s s' s'':Shared} {μ μ' μ₁ μ₂ μ₃:M} {A:Around} {env:Env} {ρ ρ' ρ₁:Rho} {n:Nat} {K:Frag} {T:Tab} {cb:Calls} {ow:List Addr} {fl:Fl} {W:Nat} {q:Str} {sc:Scope} {c:C} {p:V×M} {e:Expr} {es:List Expr} {cs:List C}
structure Got (prog:Program) (w:World) (cls:Str→Option Addr) (base:Heap) (lo:Nat) (A:Around) (env:Env) (ρ:Rho) (μ:M) (e:Expr) (p:V×M):Prop where
  se:SE prog w cls base lo A env (eval e env) ρ μ p.2 p.1
  sb:∀ b,boolOf p.1=some b→SB prog w cls base lo A env (isTrue e env (eval e env)) ρ μ p.2 b
noncomputable def Good (prog:Program) (w:World) (cls:Str→Option Addr) (base:Heap) (lo:Nat) (A:Around) (T:Tab) (cb:Calls) (e:Expr):Prop:=
  ∀ ⦃sc c⦄,compE sc e=some c→∀ ⦃env ow ρ μ p⦄,Sc sc env ow→ev T cb lo c ρ μ=some p→Got prog w cls base lo A env ρ μ e p
theorem Good.part (h:Good prog w cls base lo A T cb e) (hc:compE sc e=some c):PartOK prog w cls base lo A T cb sc e c:=fun _ _ _ _ _ _ hS he=>(h hc hS he).se
theorem bool_eq {v:V} {b:Bool} (h:boolOf v=some b):v=.bool b:=by apply bool_of h;rfl
theorem int_eq {v:V} {i:Int} (h:intOf v=some i):v=.int i:=by apply int_of h;rfl
theorem tup_eq {v:V} {vs:List V} (h:tupOf v=some vs):v=.tup vs:=by apply tup_of h;rfl
theorem SE.as {t:Sem Value} {v v':V} (h:SE prog w cls base lo A env t ρ μ μ' v) (e:v=v'):SE prog w cls base lo A env t ρ μ μ' v':=e ▸ h
theorem Got.plain (h:SE prog w cls base lo A env (eval e env) ρ μ p.2 p.1) (he:∀ t,isTrue e env t=(do let v ← t;standAt e.pos;holding [v] (truthy v))):Got prog w cls base lo A env ρ μ e p:=⟨h,fun _ hb=>SB.value (h.as (bool_eq hb)) he⟩
section
variable {P:List Expr→Prop}
theorem nil_of (h:compEs sc es=some []) (k:P []):P es:=by
  cases es with
  | nil=>exact k
  | cons e r=>exact ifn h fun _ h=>bnd h fun _ _ h=>mpd h fun _ _ h=>nomatch h
theorem cons_of (h:compEs sc es=some (c::cs)) (k:∀ e r,isStar e=false→compE sc e=some c→compEs sc r=some cs→P (e::r)):P es:=by
  cases es with
  | nil=>cases h
  | cons e r=>exact ifn h fun hs h=>bnd h fun _ h1 h=>mpd h fun _ h2 h=>by cases h;exact k e r (eq_false_of_ne_true hs) h1 h2
end
theorem good_list:∀ {cs:List C} {es:List Expr} {ρ:Rho} {μ:M} {p:List V×M},(∀ e ∈ es,Good prog w cls base lo A T cb e)→compEs sc es=some cs→Sc sc env ow→evs T cb lo cs ρ μ=some p→SL prog w cls base lo A env ρ es μ p.2 p.1:=by
  intro cs
  induction cs with
  | nil=>intro es ρ μ p hg hc hS he;cases he;apply nil_of hc;exact .nil
  | cons c cs ih=>
    intro es ρ μ p hg hc hS he
    revert hg
    apply cons_of hc
    intro e r hs h1 h2 hg
    exact bnd he fun v e1 he=>mpd he fun vs e2 he=>by subst he;exact .cons hs (hg e (.head _) h1 hS e1).se (ih (fun e he=>hg e (.tail _ he)) h2 hS e2)
theorem good_and:∀ {cs:List C} {es:List Expr} {μ:M} {p:Bool×M},(∀ e ∈ es,Good prog w cls base lo A T cb e)→compEs sc es=some cs→Sc sc env ow→evAnd T cb lo cs ρ μ=some p→SAnd prog w cls base lo A env ρ es μ p.2 p.1:=by
  intro cs
  induction cs with
  | nil=>intro es μ p hg hc hS he;cases he;apply nil_of hc;exact .nil
  | cons c cs ih=>
    intro es μ p hg hc hS he
    revert hg
    apply cons_of hc
    intro e r hs h1 h2 hg
    refine bnd he fun v e1 he=>bnd he fun b e2 he=>?_
    have g:=hg e (.head _) h1 hS e1
    cases b with
    | true=>exact .yes (g.sb _ e2) (g.se.as (bool_eq e2)) (ih (fun e he=>hg e (.tail _ he)) h2 hS he)
    | false=>cases he;exact .no (g.sb _ e2) (g.se.as (bool_eq e2))
theorem good_or:∀ {cs:List C} {es:List Expr} {μ:M} {p:Bool×M},(∀ e ∈ es,Good prog w cls base lo A T cb e)→compEs sc es=some cs→Sc sc env ow→evOr T cb lo cs ρ μ=some p→SOr prog w cls base lo A env ρ es μ p.2 p.1:=by
  intro cs
  induction cs with
  | nil=>intro es μ p hg hc hS he;cases he;apply nil_of hc;exact .nil
  | cons c cs ih=>
    intro es μ p hg hc hS he
    revert hg
    apply cons_of hc
    intro e r hs h1 h2 hg
    refine bnd he fun v e1 he=>bnd he fun b e2 he=>?_
    have g:=hg e (.head _) h1 hS e1
    cases b with
    | false=>exact .yes (g.sb _ e2) (g.se.as (bool_eq e2)) (ih (fun e he=>hg e (.tail _ he)) h2 hS he)
    | true=>cases he;exact .no (g.sb _ e2) (g.se.as (bool_eq e2))
end
end Mine
namespace Mine
open PySem PySem.W PySem.Calls PyProof.Rows
section
variable {lo:Nat} {prog:Program} {w:World} {cls:Str→Option Addr} {base:Heap} {Z Z' Z'':Addr→Obj→Prop} {αs αs' αs'':List Addr} {s s' s'':Shared} {μ μ' μ₁ μ₂ μ₃:M} {A:Around} {env:Env} {ρ ρ' ρ₁:Rho} {n:Nat} {K:Frag} {T:Tab} {cb:Calls} {ow:List Addr} {fl:Fl} {W:Nat} {q:Str} {sc:Scope} {c:C} {p:V×M} {e:Expr} {es:List Expr} {cs:List C}
theorem foldSet_any {iter:Expr} (h:compE sc iter=some c) (env:Env) (x:Value):foldedSetIterable iter env x=pure x:=by
  cases iter <;> first | rfl | cases h
theorem nor {a b:Bool} (h:¬ (a || b)=true):a=false∧b=false:=by
  cases a with
  | true=>exact absurd rfl h
  | false=>exact ⟨rfl,eq_false_of_ne_true h⟩
theorem no_not {b:Bool} (h:¬ (!b)=true):b=true:=by
  cases b with
  | true=>rfl
  | false=>exact absurd rfl h
theorem good_const {c:Const} {k:Nat} {p:Pos}:Good prog w cls base lo A T cb (.Constant c k p):=by
  intro sc cc hc env ow ρ μ p hS he
  refine mpd hc fun _ _ h2=>?_
  subst h2
  refine mpd he fun v h3 h4=>?_
  subst h4
  cases c with
  | none=>cases h3;exact .plain SE.none fun _=>rfl
  | bool=>cases h3;exact .plain SE.bool fun _=>rfl
  | int=>cases h3;exact .plain SE.int fun _=>rfl
  | str=>cases h3;exact .plain SE.str fun _=>rfl
  | _=>cases h3
theorem good_name (X:Cx prog w cls base K T) {x:Str} {p:Pos}:Good prog w cls base lo A T cb (.Name x p):=by
  intro sc cc hc env ow ρ μ p hS he
  refine ifn hc fun hd hc=>?_
  have hd:=nor hd
  have h1:=ne_of_beq_false hd.1
  refine ito hc (fun hv hc=>?_) fun _ hc=>ift hc fun hg hc=>?_
  · cases hc
    exact mpd he fun v e1 e2=>by subst e2;exact .plain (SE.var h1 (hS.var x hv) e1 (ne_of_beq_false hd.2) (bne_iff_ne.mp (Bool.and_eq_true_iff.mp hv).1)) fun _=>rfl
  · cases hc
    exact mpd he fun v e1 e2=>by subst e2;exact .plain (SE.glob X (hS.glob x hg) h1 e1) fun _=>rfl
theorem good_bin {l r:Expr} {op:Operator} {p:Pos} (hl:Good prog w cls base lo A T cb l) (hr:Good prog w cls base lo A T cb r):Good prog w cls base lo A T cb (.BinOp l op r p):=fun sc cc hc env ow ρ μ p hS he=>
  bnd hc fun a h1 hc=>mpd hc fun b h2 hc=>by
    subst hc
    exact bnd he fun v e1 he=>bnd he fun u e2 he=>mpd he fun r e3 he=>by subst he;exact .plain (SE.bin (hl h1 hS e1).se (hr h2 hS e2).se e3) fun _=>rfl
theorem good_unary {x:Expr} {op:UnaryOp} {p:Pos} (hx:Good prog w cls base lo A T cb x):Good prog w cls base lo A T cb (.UnaryOp op x p):=fun sc cc hc env ow ρ μ p hS he=>
  bnd hc fun a h1 hc=>by
    cases op with
    | USub=>cases hc;exact bnd he fun v e1 he=>mpd he fun i e2 he=>by subst he;exact .plain (SE.neg ((hx h1 hS e1).se.as (int_eq e2))) fun _=>rfl
    | Not=>cases hc;exact bnd he fun v e1 he=>mpd he fun b e2 he=>by subst he;exact ⟨SE.not ((hx h1 hS e1).se.as (bool_eq e2)),fun b' hb=>by cases hb;exact SB.not ((hx h1 hS e1).sb _ e2)⟩
    | _=>cases hc
theorem good_bool {op:BoolOp} {vs:List Expr} {p:Pos} (hv:∀ e ∈ vs,Good prog w cls base lo A T cb e):Good prog w cls base lo A T cb (.BoolOp op vs p):=fun sc cc hc env ow ρ μ p hS he=>
  bnd hc fun cs h1 hc=>ifn hc fun hne hc=>by
    have hvs:vs≠[]:=fun e=>by subst e;cases h1;exact hne rfl
    cases hc
    cases op with
    | And=>exact mpd he fun b e1 he=>by subst he;exact ⟨(good_and hv h1 hS e1).value hvs,fun b' hb=>by cases hb;exact (good_and hv h1 hS e1).all⟩
    | Or=>exact mpd he fun b e1 he=>by subst he;exact ⟨(good_or hv h1 hS e1).value hvs,fun b' hb=>by cases hb;exact (good_or hv h1 hS e1).all⟩
theorem good_ite {t a b:Expr} {p:Pos} (ht:Good prog w cls base lo A T cb t) (ha:Good prog w cls base lo A T cb a) (hb:Good prog w cls base lo A T cb b):Good prog w cls base lo A T cb (.IfExp t a b p):=fun sc cc hc env ow ρ μ p hS he=>
  bnd hc fun ct h1 hc=>bnd hc fun ca h2 hc=>mpd hc fun cb' h3 hc=>by
    subst hc
    refine bnd he fun v e1 he=>bnd he fun c e2 he=>?_
    have g:=(ht h1 hS e1).sb _ e2
    cases c with
    | true=>have r:=ha h2 hS he;exact ⟨SE.ite g (fun _=>r.se) (fun h=>nomatch h),fun _ hb=>SB.ite g (fun _=>r.sb _ hb) (fun h=>nomatch h)⟩
    | false=>have r:=hb h3 hS he;exact ⟨SE.ite g (fun h=>nomatch h) (fun _=>r.se),fun _ hb=>SB.ite g (fun h=>nomatch h) (fun _=>r.sb _ hb)⟩
end
end Mine
namespace Mine
open PySem PySem.W PySem.Calls PyProof.Rows
section
variable {lo:Nat} {prog:Program} {w:World} {cls:Str→Option Addr} {base:Heap} {Z Z' Z'':Addr→Obj→Prop} {αs αs' αs'':List Addr} {s s' s'':Shared} {μ μ' μ₁ μ₂ μ₃:M} {A:Around} {env:Env} {ρ ρ' ρ₁:Rho} {n:Nat} {K:Frag} {T:Tab} {cb:Calls} {ow:List Addr} {fl:Fl} {W:Nat} {q:Str} {sc:Scope} {c:C} {p:V×M} {e:Expr} {es:List Expr} {cs:List C}
theorem good_tuple {k:Nat} {p:Pos} (hg:∀ e ∈ es,Good prog w cls base lo A T cb e):Good prog w cls base lo A T cb (.Tuple es k p):=fun sc cc hc env ow ρ μ p hS he=>
  ift hc fun hl hc=>mpd hc fun cs h1 hc=>by
    subst hc
    exact mpd he fun vs e1 he=>by subst he;have hs:=good_list hg h1 hS e1;exact .plain (SE.tuple hs.all (Nat.le_trans (Nat.le_of_eq hs.length) hl)) fun _=>rfl
theorem good_listE {p:Pos} (hg:∀ e ∈ es,Good prog w cls base lo A T cb e):Good prog w cls base lo A T cb (.List es p):=fun sc cc hc env ow ρ μ p hS he=>
  ift hc fun hl hc=>mpd hc fun cs h1 hc=>by
    subst hc
    exact mpd he fun vs e1 he=>by subst he;have hs:=good_list hg h1 hS e1;exact .plain (SE.list hs.all (Nat.le_trans (Nat.le_of_eq hs.length) hl)) fun _=>rfl
theorem compEs_length:∀ {cs:List C} {es:List Expr},compEs sc es=some cs→cs.length=es.length:=by
  intro cs
  induction cs with
  | nil=>intro es h;apply nil_of h;rfl
  | cons c cs ih=>intro es h;apply cons_of h;intro e r _ _ h;exact congrArg Nat.succ (ih h)
theorem good_dict {ks:List (Option Expr)} {p:Pos} (hg:∀ e ∈ es,Good prog w cls base lo A T cb e):Good prog w cls base lo A T cb (.Dict ks es p):=fun sc cc hc env ow ρ μ p hS he=>
  bnd hc fun xs h1 hc=>bnd hc fun cs h2 hc=>ifd hc fun hl hc=>by
    subst hc
    exact mpd he fun vs e1 he=>by subst he;exact .plain (SE.dict h1 (hl.1.trans (compEs_length h2)) hl.2.1 hl.2.2 (good_list hg h2 hS e1)) fun _=>rfl
theorem cmpC_of {a cc:C} {ops:List CmpOp} {P:List CmpOp→List C→C→Prop} (h:cmpC a ops cs=some cc) (h1:∀ op b,P [op] [b] (.cmp op a b)) (h2:∀ op op' b c,P [op,op'] [b,c] (.chain a op b op' c)):P ops cs cc:=by
  unfold cmpC at h
  cases e:one? ops with
  | some op=>
    rw [e] at h
    apply one_of e
    exact mpd h fun b e2 e3=>by subst e3;apply one_of e2;exact h1 op b
  | none=>
    rw [e] at h
    exact bnd h fun o e1 h=>mpd h fun b e2 e3=>by subst e3;apply two_of e1;apply two_of e2;exact h2 o.1 o.2 b.1 b.2
theorem good_compare (hR:Room A n) {l:Expr} {ops:List CmpOp} {rs:List Expr} {pp:Pos} (hl:Good prog w cls base lo A T cb l) (hr:∀ e ∈ rs,Good prog w cls base lo A T cb e):Good prog w cls base lo A T cb (.Compare l ops rs pp):=by
  intro sc cc hc env ow ρ μ p hS
  refine ifn hc fun hm hc=>bnd hc fun a h1 hc=>bnd hc fun cs h2 hc=>?_
  have hm:=eq_false_of_ne_true hm
  revert h2 hm
  apply cmpC_of hc
  · intro op b h2
    revert hr
    apply cons_of h2
    intro r rs _ h3 h2
    apply nil_of h2
    intro hr hm he
    refine bnd he fun v e1 he=>bnd he fun u e2 he=>mpd he fun b e3 he=>?_
    subst he
    have g1:=(hl h1 hS e1).se
    have g2:=(hr _ (.head _) h3 hS e2).se
    exact ⟨SE.cmp hR g1 g2 e3 hm,fun b' hb=>by cases hb;exact SB.cmp hR g1 g2 e3 hm⟩
  · intro op op' b c h2
    revert hr
    apply cons_of h2
    intro r rs _ h3 h2
    apply cons_of h2
    intro r' rs _ h4 h2
    apply nil_of h2
    intro hr hm he
    refine bnd he fun v e1 he=>bnd he fun u e2 he=>bnd he fun d e3 he=>?_
    have g1:=(hl h1 hS e1).se
    have g2:=(hr _ (.head _) h3 hS e2).se
    have fin:∀ {d'} (hf:d=false→p.2=u.2∧d'=false) (ht:d=true→∃ v,SE prog w cls base lo A env (eval r' env) ρ u.2 p.2 v∧cmpV p.2 op' u.1 v=some d'),p.1=.bool d'→Got prog w cls base lo A env ρ μ (.Compare l [op,op'] [r,r'] pp) p:=fun hf ht e=>⟨(SE.chain hR g1 g2 e3 hf ht hm).as e.symm,fun b' hb=>by rw [e] at hb;cases hb;exact SB.chain hR g1 g2 e3 hf ht hm⟩
    cases d with
    | true=>exact bnd he fun t e4 he=>mpd he fun b e5 he=>by subst he;exact fin (fun h=>nomatch h) (fun _=>⟨t.1,(hr _ (.tail _ (.head _)) h4 hS e4).se,e5⟩) rfl
    | false=>cases he;exact fin (fun _=>⟨rfl,rfl⟩) (fun h=>nomatch h) rfl
theorem good_attr (X:Cx prog w cls base K T) {o:Expr} {x:Str} {p:Pos} (ho:Good prog w cls base lo A T cb o):Good prog w cls base lo A T cb (.Attribute o x p):=fun sc cc hc env ow ρ μ p hS he=>
  ifn hc fun hs hc=>mpd hc fun a h1 hc=>by
    subst hc
    exact bnd he fun v e1 he=>mpd he fun r e2 he=>by subst he;exact .plain (SE.attr X (eq_false_of_ne_true hs) (ho h1 hS e1).se e2) fun _=>rfl
end
end Mine
namespace Mine
open PySem PySem.W PySem.Calls PyProof.Rows
section
variable {lo:Nat} {prog:Program} {w:World} {cls:Str→Option Addr} {base:Heap} {Z Z' Z'':Addr→Obj→Prop} {αs αs' αs'':List Addr} {s s' s'':Shared} {μ μ' μ₁ μ₂ μ₃:M} {A:Around} {env:Env} {ρ ρ' ρ₁:Rho} {n:Nat} {K:Frag} {T:Tab} {cb:Calls} {ow:List Addr} {fl:Fl} {W:Nat} {q:Str} {sc:Scope} {c:C} {p:V×M} {e:Expr} {es:List Expr} {cs:List C}
theorem opt_part {l:Option Expr} {c:Option C} {p:Option V×M} (hg:∀ e,l=some e→Good prog w cls base lo A T cb e) (hc:compOpt sc l=some c) (hS:Sc sc env ow) (he:evOpt T cb lo c ρ μ=some p):SE prog w cls base lo A env (evalPart l env) ρ μ p.2 (p.1.getD .none):=by
  cases l with
  | none=>cases hc;cases he;exact SE.part_none
  | some e=>exact mpd hc fun c h1 hc=>by subst hc;exact mpd he fun v e1 he=>by subst he;exact (hg e rfl h1 hS e1).se
theorem slice_any2 {own:Bool} {o:Expr} {l u st:Option Expr} {q pp:Pos} {a:C} {cl cu:Option C} (ho:Good prog w cls base lo A T cb o) (hl:∀ e,l=some e→Good prog w cls base lo A T cb e) (hu:∀ e,u=some e→Good prog w cls base lo A T cb e) (hst:st.isNone=true)
    (h1:compE sc o=some a) (h2:compOpt sc l=some cl) (h3:compOpt sc u=some cu) (hS:Sc sc env ow) (he:ev T cb lo (.slice own a cl cu) ρ μ=some p):SE prog w cls base lo A env (eval (.Subscript o (.Slice l u st q) pp) env) ρ μ p.2 p.1:=
  bnd he fun v e1 he=>bnd he fun vl e2 he=>bnd he fun vu e3 he=>mpd he fun vs e4 he=>by
    rw [Option.isNone_iff_eq_none.mp hst,← he]
    cases own with
    | true=>exact SE.ownSlice (ho h1 hS e1).se (opt_part hl h2 hS e2) (opt_part hu h3 hS e3) e4
    | false=>exact SE.slice (ho h1 hS e1).se (opt_part hl h2 hS e2) (opt_part hu h3 hS e3) e4
theorem some_lt {l:Option Expr} {m:Nat} (h:sizeOf l≤m) (e:Expr) (hl:l=some e):sizeOf e<m:=Nat.lt_of_lt_of_le (by rw [hl,Option.some.sizeOf_spec];exact Nat.lt_add_of_pos_left Nat.one_pos) h
theorem sub_lt {o i:Expr} {pp:Pos}:sizeOf o<sizeOf (Expr.Subscript o i pp)∧sizeOf i<sizeOf (Expr.Subscript o i pp):=by
  rw [Expr.Subscript.sizeOf_spec];omega
theorem sli_lt {l u st:Option Expr} {pp:Pos}:sizeOf l≤sizeOf (Expr.Slice l u st pp)∧sizeOf u≤sizeOf (Expr.Slice l u st pp):=by
  rw [Expr.Slice.sizeOf_spec];omega
theorem sub_of {o i:Expr} {pp:Pos} {G:Prop} (hc:compE sc (.Subscript o i pp)=some c) (k1:∀ l u st q a cl cu,i=.Slice l u st q→st.isNone=true→compE sc o=some a→compOpt sc l=some cl→compOpt sc u=some cu→.slice false a cl cu=c→G) (k2:∀ a b,compE sc o=some a→compE sc i=some b→.idx a b=c→G):G:=by
  cases i with
  | Slice l u st q=>exact bnd hc fun a h1 hc=>ift hc fun hst hc=>bnd hc fun cl h2 hc=>mpd hc fun cu h3 hc=>k1 _ _ _ _ _ _ _ rfl hst h1 h2 h3 hc
  | _=>exact bnd hc fun a h1 hc=>mpd hc fun b h2 hc=>k2 a b h1 h2 hc
theorem good_sub {o i:Expr} {pp:Pos} (ih:∀ e,sizeOf e<sizeOf (Expr.Subscript o i pp)→Good prog w cls base lo A T cb e):Good prog w cls base lo A T cb (.Subscript o i pp):=by
  intro sc cc hc env ow ρ μ p hS he
  have ho:=ih o sub_lt.1
  refine sub_of hc (fun l u st q a cl cu e hst h1 h2 h3 hc=>?_) fun a b h1 h2 hc=>?_
  · subst hc;subst e
    exact .plain (slice_any2 ho (fun e h=>ih e (Nat.lt_trans (some_lt sli_lt.1 e h) sub_lt.2)) (fun e h=>ih e (Nat.lt_trans (some_lt sli_lt.2 e h) sub_lt.2)) hst h1 h2 h3 hS he) fun _=>rfl
  · subst hc
    exact bnd he fun v e1 he=>bnd he fun u e2 he=>mpd he fun r e3 he=>by subst he;exact .plain (SE.idx (ho h1 hS e1).se (ih i sub_lt.2 h2 hS e2).se e3) fun _=>rfl
theorem callV_of {f:Str} {raw:Bool} {vs:List V} {G:Prop} (h:callV T cb lo f raw vs μ=some p) (h1:∀ q,T.defs f=some q→cb q raw lo vs μ=some p→G) (h2:∀ c q,T.classes f=some c→T.meths c "__init__" = some q→cb q false lo (.obj (μ.length + 1)::vs) (μ++[.sdict [],.inst c μ.length])=some (.none,p.2)→p.1=.obj (μ.length + 1)→G) (h3:∀ v,T.defs f=none→T.classes f=none→biV μ f vs=some v→p=(v,μ)→G):G:=by
  unfold callV at h
  cases hd:T.defs f with
  | some q=>rw [hd] at h;exact h1 q hd h
  | none=>
    rw [hd] at h
    cases hc:T.classes f with
    | some c=>
      rw [hc] at h
      refine bnd h fun q hq h=>bnd h fun r hr h=>?_
      obtain ⟨v,μ'⟩:=r
      cases v with
      | none=>cases h;exact h2 c q hc hq hr rfl
      | _=>cases h
    | none=>rw [hc] at h;exact mpd h fun v e1 e2=>h3 v hd hc e1 e2.symm
theorem good_call (X:Cx prog w cls base K T) (hR:RoomS A n) (hc':CallsOK prog w cls base K T cb n) {f:Str} {fp pp:Pos} {kws:List Keyword} (hg:∀ e ∈ es,Good prog w cls base lo A T cb e):Good prog w cls base lo A T cb (.Call (.Name f fp) es kws pp):=fun sc cc hc env ow ρ μ p hS he=>
  ifn hc fun hn hc=>mpd hc fun cs h1 hc=>by
    subst hc
    obtain ⟨hn,hg'⟩:=nor hn
    have hx:=hS.glob f (no_not (ne_true_of_eq_false hg'))
    obtain ⟨hdb,hk⟩:=nor (ne_true_of_eq_false hn)
    cases kws with
    | cons _ _=>cases hk
    | nil=>
      have hdb:=ne_of_beq_false hdb
      refine bnd he fun vs e1 he=>?_
      have hs:=good_list hg h1 hS e1
      exact callV_of he (fun q hq he=>.plain (SE.callDef X hR.room hc' hq hx hdb hs.plain hs.all he) fun _=>rfl) (fun c q hcl hm he e=>.plain ((SE.callCls X hR hc' hcl hx hdb hs.plain hs.all hm he).as e.symm) fun _=>rfl) fun v hd hcl hb e=>by subst e;exact .plain (SE.callBi X hR.handled hd hcl hx hs.plain hs.all hb) fun _=>rfl
theorem good_meth (X:Cx prog w cls base K T) (hR:RoomS A n) (hc':CallsOK prog w cls base K T cb n) {o:Expr} {m:Str} {ap pp:Pos} {kws:List Keyword} (ho:Good prog w cls base lo A T cb o) (hg:∀ e ∈ es,Good prog w cls base lo A T cb e):Good prog w cls base lo A T cb (.Call (.Attribute o m ap) es kws pp):=fun sc cc hc env ow ρ μ p hS he=>
  ifn hc fun hn hc=>bnd hc fun a h1 hc=>mpd hc fun cs h2 hc=>by
    subst hc
    obtain ⟨hn,hk⟩:=nor hn
    obtain ⟨hn,hfew⟩:=nor (ne_true_of_eq_false hn)
    obtain ⟨hs,hl⟩:=nor (ne_true_of_eq_false hn)
    cases kws with
    | cons _ _=>cases hk
    | nil=>
      refine bnd he fun v e1 he=>bnd he fun r e2 he=>bnd he fun vs e3 he=>?_
      have hsl:=good_list hg h2 hS e3
      exact .plain (SE.meth X hR hc' hs (bne_eq_false_iff_eq.mp hl) (Nat.lt_of_not_le (of_decide_eq_false hfew)) hsl.plain (ho h1 hS e1).se e2 hsl.all he) fun _=>rfl
end
end Mine
namespace Mine
open PySem PySem.W PySem.Calls PyProof.Rows
section
variable {lo:Nat} {prog:Program} {w:World} {cls:Str→Option Addr} {base:Heap} {Z Z' Z'':Addr→Obj→Prop} {αs αs' αs'':List Addr} {s s' s'':Shared} {μ μ' μ₁ μ₂ μ₃:M} {A:Around} {env:Env} {ρ ρ' ρ₁:Rho} {n:Nat} {K:Frag} {T:Tab} {cb:Calls} {ow:List Addr} {fl:Fl} {W:Nat} {q:Str} {sc:Scope} {c:C} {p:V×M} {e:Expr} {es:List Expr} {cs:List C}
theorem tests_ok (hg:∀ e ∈ es,Good prog w cls base lo A T cb e) (hc:compEs sc es=some cs):TestsOK prog w cls base lo A T cb sc es cs:=fun env ow ρ μ b μ' hS he=>good_and hg hc hS he
theorem comp_of {elt:Expr} {gens:List Comprehension} {csc:Scope} {pp:Pos} {P:List Comprehension→V×M→Prop} (hc:compE sc (.ListComp elt gens csc pp)=some c) (he:ev T cb lo c ρ μ=some p)
    (k1:∀ t it ifs cit ct cifs celt v items vs,compSc sc csc=true→compE sc it=some cit→compT csc t=some ct→compEs csc ifs=some cifs→compE csc elt=some celt→ev T cb lo cit ρ μ=some v→iterV lo v.2 v.1=some items→flatM (fOne T cb lo celt ct cifs (hideR (hideOf csc) ρ)) items v.2=some vs→P [⟨t,it,ifs,0⟩] (.lst vs.1,vs.2))
    (k2:∀ t it t' it' ifs cit ct cit' ct' cifs celt v items vs,compSc sc csc=true→compE sc it=some cit→compT csc t=some ct→compE csc it'=some cit'→compT csc t'=some ct'→compEs csc ifs=some cifs→compE csc elt=some celt→apartT ct ct'=true→ev T cb lo cit ρ μ=some v→iterV lo v.2 v.1=some items→flatM (fTwo T cb lo celt ct ct' cit' cifs (hideR (hideOf csc) ρ)) items v.2=some vs→vs.1.length≤sizeLim→P [⟨t,it,[],0⟩,⟨t',it',ifs,0⟩] (.lst vs.1,vs.2)):P gens p:=by
  match gens,hc with
  | [],hc=>exact ifn hc fun _ h=>nomatch h
  | ⟨_,_,_,_⟩::⟨_,_,_,_⟩::_::_,hc=>exact ifn hc fun _ h=>nomatch h
  | [⟨t,it,ifs,m⟩],hc=>
    refine ifn hc fun hs hc=>ifn hc fun hm hc=>bnd hc fun cit h1 hc=>bnd hc fun ct h2 hc=>bnd hc fun cifs h3 hc=>mpd hc fun celt h4 hc=>?_
    subst hc
    refine bnd he fun v e1 he=>bnd he fun items e2 he=>mpd he fun vs e3 he=>?_
    rw [← he,bne_eq_false_iff_eq.mp (eq_false_of_ne_true hm)]
    exact k1 _ _ _ _ _ _ _ _ _ _ (no_not hs) h1 h2 h3 h4 e1 e2 e3
  | [⟨t,it,ifs,m⟩,⟨t',it',ifs',m'⟩],hc=>
    refine ifn hc fun hs hc=>ifn hc fun hm hc=>bnd hc fun cit h1 hc=>bnd hc fun ct h2 hc=>bnd hc fun cit' h3 hc=>bnd hc fun ct' h4 hc=>bnd hc fun cifs h5 hc=>bnd hc fun celt h6 hc=>ifd hc fun hap hc=>?_
    subst hc
    refine bnd he fun v e1 he=>bnd he fun items e2 he=>bnd he fun vs e3 he=>ifd he fun hlen he=>?_
    obtain ⟨h,hi⟩:=nor hm
    obtain ⟨hm1,hm2⟩:=nor (ne_true_of_eq_false h)
    cases ifs with
    | cons _ _=>cases hi
    | nil=>
      rw [← he,bne_eq_false_iff_eq.mp hm1,bne_eq_false_iff_eq.mp hm2]
      exact k2 _ _ _ _ _ _ _ _ _ _ _ _ _ _ (no_not hs) h1 h2 h3 h4 h5 h6 hap e1 e2 e3 hlen
theorem true_of {e:Expr} {P:Expr→Prop} (h:isTrueE e=true) (k:∀ m q,P (.Constant (.bool true) m q)):P e:=
  bnd (x:=(view e).const?) (f:=boolK) (eq_of_beq h) fun c h1 h2=>by
    apply const_eq h1
    intro m q
    cases c <;> first | (cases h2;exact k m q) | cases h2
theorem dcomp_of {key val:Expr} {gens:List Comprehension} {csc:Scope} {pp:Pos} {P:Expr→List Comprehension→V×M→Prop} (hc:compE sc (.DictComp key val gens csc pp)=some c) (he:ev T cb lo c ρ μ=some p)
    (k:∀ m q t it cit ct ckey v items vs d,compSc sc csc=true→compE sc it=some cit→compT csc t=some ct→compE csc key=some ckey→ev T cb lo cit ρ μ=some v→iterV lo v.2 v.1=some items→flatM (fKey T cb lo ckey ct (hideR (hideOf csc) ρ)) items v.2=some vs→dictV vs.1=some d→P (.Constant (.bool true) m q) [⟨t,it,[],0⟩] (d,vs.2)):P val gens p:=by
  match gens,hc with
  | [],hc=>exact ifn hc fun _ h=>nomatch h
  | ⟨_,_,_,_⟩::_::_,hc=>exact ifn hc fun _ h=>nomatch h
  | [⟨t,it,ifs,a⟩],hc=>
    refine ifn hc fun hs hc=>ifn hc fun hm hc=>bnd hc fun cit h1 hc=>bnd hc fun ct h2 hc=>mpd hc fun ckey h3 hc=>?_
    subst hc
    refine bnd he fun v e1 he=>bnd he fun items e2 he=>bnd he fun vs e3 he=>mpd he fun d e4 he=>?_
    obtain ⟨hm1,hi⟩:=nor hm
    cases ifs with
    | cons _ _=>cases hi
    | nil=>
      rw [← he,bne_eq_false_iff_eq.mp hm1]
      obtain ⟨hs,hv⟩:=nor hs
      have hs:=no_not (ne_true_of_eq_false hs)
      apply true_of (no_not (ne_true_of_eq_false hv))
      intro m q
      exact k _ _ _ _ _ _ _ _ _ _ _ hs h1 h2 h3 e1 e2 e3 e4
theorem good_comp {elt:Expr} {gens:List Comprehension} {csc:Scope} {pp:Pos} (hh:A.handled=none) (hE:Good prog w cls base lo A T cb elt) (hG:∀ g ∈ gens,Good prog w cls base lo A T cb g.iter∧∀ e ∈ g.ifs,Good prog w cls base lo A T cb e):Good prog w cls base lo A T cb (.ListComp elt gens csc pp):=by
  intro sc cc hc env ow ρ μ p hS he
  revert hG
  apply comp_of hc he
  · intro t it ifs cit ct cifs celt v items vs hs h1 h2 h3 h4 e1 e2 e3 hG
    obtain ⟨gi,gf⟩:=hG _ (.head _)
    exact .plain (SE.comp1 (T:=T) (cb:=cb) (celt:=celt) (cifs:=cifs) hh (foldSet_any h1 env) hS hs (gi h1 hS e1).se e2 e3 h2 (hE.part h4) (tests_ok gf h3)) fun _=>rfl
  · intro t it t' it' ifs cit ct cit' ct' cifs celt v items vs hs h1 h2 h3 h4 h5 h6 hap e1 e2 e3 hlen hG
    obtain ⟨gi',gf'⟩:=hG _ (.tail _ (.head _))
    exact .plain (SE.comp2 (T:=T) (cb:=cb) (celt:=celt) (cit':=cit') (cifs:=cifs) hh (foldSet_any h1 env) (foldSet_any h3) hS hs ((hG _ (.head _)).1 h1 hS e1).se e2 e3 hlen h2 h4 hap (hE.part h6) (gi'.part h3) (tests_ok gf' h5)) fun _=>rfl
theorem good_dcomp (X:Cx prog w cls base K T) (hR:Room A n) {key val:Expr} {gens:List Comprehension} {csc:Scope} {pp:Pos} (hE:Good prog w cls base lo A T cb key) (hG:∀ g ∈ gens,Good prog w cls base lo A T cb g.iter):Good prog w cls base lo A T cb (.DictComp key val gens csc pp):=by
  intro sc cc hc env ow ρ μ p hS he
  revert hG
  apply dcomp_of hc he
  intro m q t it cit ct ckey v items vs d hs h1 h2 h3 e1 e2 e3 e4 hG
  exact .plain (SE.dcomp (T:=T) (cb:=cb) (ckey:=ckey) hR X.sys (foldSet_any h1 env) hS hs (hG _ (.head _) h1 hS e1).se e2 e3 e4 h2 (hE.part h3)) fun _=>rfl
end
end Mine
namespace Mine
open PySem PySem.W PySem.Calls PyProof.Rows
section
variable {lo:Nat} {prog:Program} {w:World} {cls:Str→Option Addr} {base:Heap} {Z Z' Z'':Addr→Obj→Prop} {αs αs' αs'':List Addr} {s s' s'':Shared} {μ μ' μ₁ μ₂ μ₃:M} {A:Around} {env:Env} {ρ ρ' ρ₁:Rho} {n:Nat} {K:Frag} {T:Tab} {cb:Calls} {ow:List Addr} {fl:Fl} {W:Nat} {q:Str} {sc:Scope} {c:C} {p:V×M} {e:Expr} {es:List Expr} {cs:List C}
theorem Good.no (h:∀ sc,compE sc e=none):Good prog w cls base lo A T cb e:=fun sc c hc=>by rw [h sc] at hc;cases hc
theorem good_step (X:Cx prog w cls base K T) (hR:RoomS A n) (hc:CallsOK prog w cls base K T cb n) (e:Expr) (ih:∀ e',sizeOf e'<sizeOf e→Good prog w cls base lo A T cb e'):Good prog w cls base lo A T cb e:=by
  have all:∀ es:List Expr,sizeOf es<sizeOf e→∀ e ∈ es,Good prog w cls base lo A T cb e:=fun es h e he=>ih e (Nat.lt_trans (List.sizeOf_lt_of_mem he) h)
  cases e with
  | Constant=>exact good_const
  | Name=>exact good_name X
  | BinOp=>exact good_bin (ih _ (Nat.lt_of_lt_of_eq (Nat.lt_add_right _ (Nat.lt_add_right _ (Nat.lt_add_right _ (Nat.lt_add_of_pos_left Nat.one_pos)))) (Expr.BinOp.sizeOf_spec _ _ _ _).symm)) (ih _ (Nat.lt_of_lt_of_eq (Nat.lt_add_right _ (Nat.lt_add_of_pos_left (Nat.lt_add_right _ (Nat.lt_add_right _ Nat.one_pos)))) (Expr.BinOp.sizeOf_spec _ _ _ _).symm))
  | UnaryOp=>exact good_unary (ih _ (Nat.lt_of_lt_of_eq (Nat.lt_add_right _ (Nat.lt_add_of_pos_left (Nat.lt_add_right _ Nat.one_pos))) (Expr.UnaryOp.sizeOf_spec _ _ _).symm))
  | BoolOp=>exact good_bool (all _ (Nat.lt_of_lt_of_eq (Nat.lt_add_right _ (Nat.lt_add_of_pos_left (Nat.lt_add_right _ Nat.one_pos))) (Expr.BoolOp.sizeOf_spec _ _ _).symm))
  | IfExp=>exact good_ite (ih _ (Nat.lt_of_lt_of_eq (Nat.lt_add_right _ (Nat.lt_add_right _ (Nat.lt_add_right _ (Nat.lt_add_of_pos_left Nat.one_pos)))) (Expr.IfExp.sizeOf_spec _ _ _ _).symm)) (ih _ (Nat.lt_of_lt_of_eq (Nat.lt_add_right _ (Nat.lt_add_right _ (Nat.lt_add_of_pos_left (Nat.lt_add_right _ Nat.one_pos)))) (Expr.IfExp.sizeOf_spec _ _ _ _).symm)) (ih _ (Nat.lt_of_lt_of_eq (Nat.lt_add_right _ (Nat.lt_add_of_pos_left (Nat.lt_add_right _ (Nat.lt_add_right _ Nat.one_pos)))) (Expr.IfExp.sizeOf_spec _ _ _ _).symm))
  | Tuple=>exact good_tuple (all _ (Nat.lt_of_lt_of_eq (Nat.lt_add_right _ (Nat.lt_add_right _ (Nat.lt_add_of_pos_left Nat.one_pos))) (Expr.Tuple.sizeOf_spec _ _ _).symm))
  | List=>exact good_listE (all _ (Nat.lt_of_lt_of_eq (Nat.lt_add_right _ (Nat.lt_add_of_pos_left Nat.one_pos)) (Expr.List.sizeOf_spec _ _).symm))
  | Dict=>exact good_dict (all _ (Nat.lt_of_lt_of_eq (Nat.lt_add_right _ (Nat.lt_add_of_pos_left (Nat.lt_add_right _ Nat.one_pos))) (Expr.Dict.sizeOf_spec _ _ _).symm))
  | Compare=>exact good_compare hR.room (ih _ (Nat.lt_of_lt_of_eq (Nat.lt_add_right _ (Nat.lt_add_right _ (Nat.lt_add_right _ (Nat.lt_add_of_pos_left Nat.one_pos)))) (Expr.Compare.sizeOf_spec _ _ _ _).symm)) (all _ (Nat.lt_of_lt_of_eq (Nat.lt_add_right _ (Nat.lt_add_of_pos_left (Nat.lt_add_right _ (Nat.lt_add_right _ Nat.one_pos)))) (Expr.Compare.sizeOf_spec _ _ _ _).symm))
  | Attribute=>exact good_attr X (ih _ (Nat.lt_of_lt_of_eq (Nat.lt_add_right _ (Nat.lt_add_right _ (Nat.lt_add_of_pos_left Nat.one_pos))) (Expr.Attribute.sizeOf_spec _ _ _).symm))
  | Subscript=>exact good_sub ih
  | Call f es kws p=>
    have al:∀ e ∈ es,Good prog w cls base lo A T cb e:=(all _ (Nat.lt_of_lt_of_eq (Nat.lt_add_right _ (Nat.lt_add_right _ (Nat.lt_add_of_pos_left (Nat.lt_add_right _ Nat.one_pos)))) (Expr.Call.sizeOf_spec _ _ _ _).symm))
    cases f with
    | Name=>exact good_call X hR hc al
    | Attribute=>exact good_meth X hR hc (ih _ (Nat.lt_trans (Nat.lt_of_lt_of_eq (Nat.lt_add_right _ (Nat.lt_add_right _ (Nat.lt_add_of_pos_left Nat.one_pos))) (Expr.Attribute.sizeOf_spec _ _ _).symm) (Nat.lt_of_lt_of_eq (Nat.lt_add_right _ (Nat.lt_add_right _ (Nat.lt_add_right _ (Nat.lt_add_of_pos_left Nat.one_pos)))) (Expr.Call.sizeOf_spec _ _ _ _).symm))) al
    | _=>exact .no fun _=>rfl
  | ListComp elt gens csc p=>
    refine good_comp hR.handled (ih _ (Nat.lt_of_lt_of_eq (Nat.lt_add_right _ (Nat.lt_add_right _ (Nat.lt_add_right _ (Nat.lt_add_of_pos_left Nat.one_pos)))) (Expr.ListComp.sizeOf_spec _ _ _ _).symm)) fun g hg=>?_
    obtain ⟨gt,gi,gf,ga⟩:=g
    have h1:sizeOf (Comprehension.mk gt gi gf ga)<sizeOf (Expr.ListComp elt gens csc p):=Nat.lt_trans (List.sizeOf_lt_of_mem hg) (Nat.lt_of_lt_of_eq (Nat.lt_add_right _ (Nat.lt_add_right _ (Nat.lt_add_of_pos_left (Nat.lt_add_right _ Nat.one_pos)))) (Expr.ListComp.sizeOf_spec _ _ _ _).symm)
    exact ⟨ih _ (Nat.lt_trans (Nat.lt_of_lt_of_eq (Nat.lt_add_right _ (Nat.lt_add_right _ (Nat.lt_add_of_pos_left (Nat.lt_add_right _ Nat.one_pos)))) (Comprehension.mk.sizeOf_spec gt gi gf ga).symm) h1),all _ (Nat.lt_trans (Nat.lt_of_lt_of_eq (Nat.lt_add_right _ (Nat.lt_add_of_pos_left (Nat.lt_add_right _ (Nat.lt_add_right _ Nat.one_pos)))) (Comprehension.mk.sizeOf_spec gt gi gf ga).symm) h1)⟩
  | DictComp key val gens csc p=>
    refine good_dcomp X hR.room (ih _ (Nat.lt_of_lt_of_eq (Nat.lt_add_right _ (Nat.lt_add_right _ (Nat.lt_add_right _ (Nat.lt_add_right _ (Nat.lt_add_of_pos_left Nat.one_pos))))) (Expr.DictComp.sizeOf_spec _ _ _ _ _).symm)) fun g hg=>?_
    obtain ⟨gt,gi,gf,ga⟩:=g
    have h1:sizeOf (Comprehension.mk gt gi gf ga)<sizeOf (Expr.DictComp key val gens csc p):=Nat.lt_trans (List.sizeOf_lt_of_mem hg) (Nat.lt_of_lt_of_eq (Nat.lt_add_right _ (Nat.lt_add_right _ (Nat.lt_add_of_pos_left (Nat.lt_add_right _ (Nat.lt_add_right _ Nat.one_pos))))) (Expr.DictComp.sizeOf_spec _ _ _ _ _).symm)
    exact ih _ (Nat.lt_trans (Nat.lt_of_lt_of_eq (Nat.lt_add_right _ (Nat.lt_add_right _ (Nat.lt_add_of_pos_left (Nat.lt_add_right _ Nat.one_pos)))) (Comprehension.mk.sizeOf_spec gt gi gf ga).symm) h1)
  | _=>exact .no fun _=>rfl
theorem good_all (X:Cx prog w cls base K T) (hR:RoomS A n) (hc:CallsOK prog w cls base K T cb n):∀ (N:Nat) (e:Expr),sizeOf e<N→Good prog w cls base lo A T cb e:=by
  intro N
  induction N with
  | zero=>exact fun e h=>absurd h (Nat.not_lt_zero _)
  | succ N ih=>exact fun e hN=>good_step X hR hc e fun e' h=>ih e' (Nat.lt_of_lt_of_le h (Nat.le_of_lt_succ hN))
end
end Mine
namespace Mine
open PySem PySem.W PySem.Calls PyProof.Rows
section
variable {lo:Nat} {prog:Program} {w:World} {cls:Str→Option Addr} {base:Heap} {Z Z' Z'':Addr→Obj→Prop} {αs αs' αs'':List Addr} {s s' s'':Shared} {μ μ' μ₁ μ₂ μ₃:M} {A:Around} {env:Env} {ρ ρ' ρ₁:Rho} {n:Nat} {K:Frag} {T:Tab} {cb:Calls} {ow:List Addr} {fl:Fl} {W:Nat} {q:Str} {sc:Scope} {c:C} {p:V×M} {e:Expr} {es:List Expr} {cs:List C}
noncomputable abbrev AllGood (prog:Program) (w:World) (cls:Str→Option Addr) (base:Heap) (lo:Nat) (A:Around) (T:Tab) (cb:Calls):Prop:=∀ e:Expr,Good prog w cls base lo A T cb e
theorem allGood (X:Cx prog w cls base K T) (hR:RoomS A n) (hc:CallsOK prog w cls base K T cb n):AllGood prog w cls base lo A T cb:=fun e=>good_all X hR hc (sizeOf e + 1) e (Nat.lt_succ_self _)
theorem good_V (G:AllGood prog w cls base lo A T cb) (hc:compV sc e=some c) (hS:Sc sc env ow) (he:ev T cb lo c ρ μ=some p):SE prog w cls base lo A env (eval e env) ρ μ p.2 p.1:=by
  unfold compV at hc
  cases hl:listOf e with
  | some es=>
    rw [hl] at hc
    apply list_of hl
    intro q
    refine ift hc fun hlen hc=>mpd hc fun cs h1 hc=>?_
    subst hc
    exact mpd he fun vs e1 he=>by subst he;have hs:=good_list (fun e _=>G e) h1 hS e1;exact SE.ownList hs.all (Nat.le_trans (Nat.le_of_eq hs.length) hlen)
  | none=>rw [hl] at hc;exact (G e hc hS he).se
theorem good_Vs (G:AllGood prog w cls base lo A T cb):∀ {es:List Expr} {cs:List C} {μ:M} {p:List V×M},compVs sc es=some cs→Sc sc env ow→evs T cb lo cs ρ μ=some p→SL prog w cls base lo A env ρ es μ p.2 p.1:=by
  intro es
  induction es with
  | nil=>intro cs μ p hc hS he;cases hc;cases he;exact .nil
  | cons e es ih=>
    intro cs μ p hc hS he
    refine ifn hc fun hs hc=>bnd hc fun c h1 hc=>mpd hc fun cs h2 hc=>?_
    subst hc
    exact bnd he fun v e1 he=>mpd he fun vs e2 he=>by subst he;exact .cons (eq_false_of_ne_true hs) (good_V G h1 hS e1) (ih h2 hS e2)
theorem good_top (G:AllGood prog w cls base lo A T cb) (hc:compTop sc e=some c) (hS:Sc sc env ow) (he:ev T cb lo c ρ μ=some p):SE prog w cls base lo A env (eval e env) ρ μ p.2 p.1:=by
  unfold compTop at hc
  cases ht:tupleOf e with
  | some es=>
    rw [ht] at hc
    apply tuple_of ht
    intro k q
    refine ift hc fun hlen hc=>mpd hc fun cs h1 hc=>?_
    subst hc
    exact mpd he fun vs e1 he=>by subst he;have hs:=good_Vs G h1 hS e1;exact SE.tuple hs.all (Nat.le_trans (Nat.le_of_eq hs.length) hlen)
  | none=>
    rw [ht] at hc
    cases hs:(subOf e).bind fun p=>(sliceOf p.2).map fun q=>(p.1,q) with
    | some r=>
      rw [hs] at hc
      refine bnd hs fun x h1 hs=>mpd hs fun y h2 hs=>?_
      subst hs
      apply sub_eq h1
      intro q
      obtain ⟨o,i⟩:=x
      apply slice_eq (e:=i) h2
      intro st q' hst
      exact bnd hc fun a h1 hc=>bnd hc fun cl h2 hc=>mpd hc fun cu h3 hc=>by subst hc;exact slice_any2 (G _) (fun e _=>G e) (fun e _=>G e) hst h1 h2 h3 hS he
    | none=>rw [hs] at hc;exact good_V G hc hS he
theorem top_comp (hc:compTop sc e=some c) (h:isComp e=true):compE sc e=some c:=by
  cases e <;> first | exact hc | cases h
end
end Mine
namespace Mine
open PySem PySem.W PySem.Calls PyProof.Rows
section
variable {lo:Nat} {prog:Program} {w:World} {cls:Str→Option Addr} {base:Heap} {Z Z' Z'':Addr→Obj→Prop} {αs αs' αs'':List Addr} {s s' s'':Shared} {μ μ' μ₁ μ₂ μ₃:M} {A:Around} {env:Env} {ρ ρ' ρ₁:Rho} {n:Nat} {K:Frag} {T:Tab} {cb:Calls} {ow:List Addr} {fl:Fl} {W:Nat} {q:Str} {sc:Scope} {c:C} {p:V×M} {e:Expr} {es:List Expr} {cs:List C}
structure Fm (sc:Scope) (env:Env) (ow:List Addr):Prop where
  sc:Sc sc env ow
  how:∀ a ∈ ow,a ∈ fr env
  kind:env.scope.kind=.function
noncomputable def GoodS (prog:Program) (w:World) (cls:Str→Option Addr) (base:Heap) (lo:Nat) (A:Around) (T:Tab) (cb:Calls) (W:Nat) (q:Str) (st:Stmt):Prop:=
  ∀ ⦃sc c⦄,compS sc st=some c→∀ ⦃env ow ρ μ r⦄,Fm sc env ow→ex T cb lo W q c ρ μ=some r→SX prog w cls base lo A env ow (exec st env) ρ μ r.1 r.2.1 r.2.2
theorem goodSs {sts:List Stmt}:∀ {cs:List S} {ρ:Rho} {μ:M} {r:Fl×Rho×M},(∀ st ∈ sts,GoodS prog w cls base lo A T cb W q st)→compSs sc sts=some cs→Fm sc env ow→exs T cb lo W q cs ρ μ=some r→SX prog w cls base lo A env ow (execs sts env) ρ μ r.1 r.2.1 r.2.2:=by
  induction sts with
  | nil=>intro cs ρ μ r hg hc hF he;cases hc;cases he;exact .nil
  | cons st sts ih=>
    intro cs ρ μ r hg hc hF he
    refine bnd hc fun c h1 hc=>mpd hc fun cs h2 hc=>?_
    subst hc
    refine bnd he fun x e1 he=>?_
    have g:=hg st (.head _) h1 hF e1
    obtain ⟨fl,ρ₁,μ₁⟩:=x
    cases fl with
    | next=>exact .cons g (ih (fun st h=>hg st (.tail _ h)) h2 hF he)
    | brk=>cases he;exact .stop g fun h=>nomatch h
    | ret v=>cases he;exact .stop g fun h=>nomatch h
end
end Mine
namespace Mine
open PySem PySem.W PySem.Calls PyProof.Rows
section
variable {lo:Nat} {prog:Program} {w:World} {cls:Str→Option Addr} {base:Heap} {Z Z' Z'':Addr→Obj→Prop} {αs αs' αs'':List Addr} {s s' s'':Shared} {μ μ' μ₁ μ₂ μ₃:M} {A:Around} {env:Env} {ρ ρ' ρ₁:Rho} {n:Nat} {K:Frag} {T:Tab} {cb:Calls} {ow:List Addr} {fl:Fl} {W:Nat} {q:Str} {sc:Scope} {c:C} {p:V×M} {e:Expr} {es:List Expr} {cs:List C}
theorem goodS_expr (G:AllGood prog w cls base lo A T cb) {pp:Pos}:GoodS prog w cls base lo A T cb W q (.Expr e pp):=fun sc c hc env ow ρ μ r hF he=>
  ifn hc fun hi hc=>mpd hc fun a h1 hc=>by
    subst hc
    refine bnd he fun v e1 he=>?_
    have key:=fun h=>SX.expr (ow:=ow) (pos:=pp) (eq_false_of_ne_true hi) hF.kind (G e h1 hF.sc e1).se h
    cases hd:dropV v.1 with
    | false=>rw [hd] at he;cases he
    | true=>rw [hd] at he;cases he;exact key hd
theorem goodS_ret (G:AllGood prog w cls base lo A T cb) {o:Option Expr} {pp:Pos}:GoodS prog w cls base lo A T cb W q (.Return o pp):=by
  intro sc c hc env ow ρ μ r hF he
  cases o with
  | none=>cases hc;cases he;exact SX.ret0
  | some e=>exact mpd hc fun a h1 hc=>by subst hc;exact mpd he fun v e1 he=>by subst he;exact SX.ret (good_V G h1 hF.sc e1)
theorem goodS_if (G:AllGood prog w cls base lo A T cb) {a b:List Stmt} {pp:Pos} (ha:∀ st ∈ a,GoodS prog w cls base lo A T cb W q st) (hb:∀ st ∈ b,GoodS prog w cls base lo A T cb W q st):GoodS prog w cls base lo A T cb W q (.If e a b pp):=fun sc c hc env ow ρ μ r hF he=>
  bnd hc fun ct h1 hc=>bnd hc fun ca h2 hc=>mpd hc fun cb' h3 hc=>by
    subst hc
    refine bnd he fun v e1 he=>bnd he fun b e2 he=>?_
    have g:=(G e h1 hF.sc e1).sb _ e2
    cases b with
    | true=>exact SX.ite g (fun _=>goodSs ha h2 hF he) (fun h=>nomatch h)
    | false=>exact SX.ite g (fun h=>nomatch h) (fun _=>goodSs hb h3 hF he)
theorem goodS_while (G:AllGood prog w cls base lo A T cb) {a b:List Stmt} {pp:Pos} (ha:∀ st ∈ a,GoodS prog w cls base lo A T cb W q st):GoodS prog w cls base lo A T cb W q (.While e a b pp):=fun sc c hc env ow ρ μ r hF he=>
  ift hc fun hb hc=>bnd hc fun ct h1 hc=>mpd hc fun ca h2 hc=>by
    subst hc
    rw [List.isEmpty_iff.mp hb]
    exact SX.while (tst:=fun ρ μ=>asBool (ev T cb lo ct ρ μ)) (bdy:=fun ρ μ=>exs T cb lo W q ca ρ μ) (fun ρ μ x h=>bnd h fun v e1 h=>mpd h fun b e2 h=>by subst h;exact (G e h1 hF.sc e1).sb _ e2) (fun ρ μ x h=>goodSs ha h2 hF h) he
theorem noStar_of (h:compE sc e=some c):isStar e=false:=by
  cases e <;> first | rfl | cases h
theorem many_of {t:Tgt} {P:Expr→Prop} (h:compT sc e=some t) (hm:isMany t=true) (k:∀ es n p,compT sc (.Tuple es n p)=some t→P (.Tuple es n p)):P e:=by
  cases hn:nameOf e with
  | some x=>
    unfold compT at h
    rw [hn] at h
    exact ifd h fun _ h=>by subst h;cases hm
  | none=>
    have h':=h
    unfold compT at h
    rw [hn] at h
    refine bnd h fun es h1 _=>?_
    revert h'
    apply tuple_of h1
    exact fun n p=>k es n p
theorem enum_of {it:Expr} {P:Expr→Prop} (h:enumArg sc e=some it) (k:∀ np cp,isGlob sc "enumerate" = true→P (.Call (.Name "enumerate" np) [it] [] cp)):P e:=by
  refine bnd h fun r h1 h=>bnd h fun s h2 h=>bnd h fun a h3 h=>ifd h fun hc h=>?_
  subst h
  apply call_eq h1
  obtain ⟨f,as,ks,cp⟩:=r
  revert h2
  obtain ⟨hc,hk⟩:=Bool.and_eq_true_iff.mp hc
  obtain ⟨hs,hg⟩:=Bool.and_eq_true_iff.mp hc
  cases ks with
  | cons _ _=>cases hk
  | nil=>
    intro h2
    apply name_of (e:=f) h2
    intro np
    apply one_of (l:=as) h3
    rw [show s = "enumerate" from eq_of_beq hs] at hg ⊢
    exact k np cp hg
theorem goodS_for (X:Cx prog w cls base K T) (hh:A.handled=none) (hnd:T.defs "enumerate" = none) (hnc:T.classes "enumerate" = none) (G:AllGood prog w cls base lo A T cb) {t it:Expr} {a b:List Stmt} {pp:Pos} (ha:∀ st ∈ a,GoodS prog w cls base lo A T cb W q st):GoodS prog w cls base lo A T cb W q (.For t it a b pp):=by
  intro sc c hc env ow ρ μ r hF he
  refine ift hc fun hb hc=>bnd hc fun tg h1 hc=>bnd hc fun ca h2 hc=>?_
  rw [List.isEmpty_iff.mp hb]
  cases hen:enumArg sc it with
  | some x=>
    rw [hen] at hc
    refine ift hc fun hm hc=>mpd hc fun cx h3 hc=>?_
    subst hc
    refine bnd he fun v e1 he=>bnd he fun items e2 he=>?_
    apply enum_of hen
    intro np cp hg
    apply many_of h1 hm
    intro es n p h1
    exact SX.forE X hF.sc hh h1 (hF.sc.glob _ hg) hnd hnc (noStar_of h3) ((G x h3 hF.sc e1).se.as (tup_eq e2)) (bdy:=fun ρ μ=>exs T cb lo W q ca ρ μ) (fun ρ μ x h=>goodSs ha h2 hF h) hF.how he
  | none=>
    rw [hen] at hc
    refine mpd hc fun cx h3 hc=>?_
    subst hc
    exact bnd he fun v e1 he=>bnd he fun items e2 he=>SX.for hF.sc hh h1 (foldSet_any h3 env) (G it h3 hF.sc e1).se e2 (bdy:=fun ρ μ=>exs T cb lo W q ca ρ μ) (fun ρ μ x h=>goodSs ha h2 hF h) hF.how he
end
end Mine
namespace Mine
open PySem PySem.W PySem.Calls PyProof.Rows
section
variable {lo:Nat} {prog:Program} {w:World} {cls:Str→Option Addr} {base:Heap} {Z Z' Z'':Addr→Obj→Prop} {αs αs' αs'':List Addr} {s s' s'':Shared} {μ μ' μ₁ μ₂ μ₃:M} {A:Around} {env:Env} {ρ ρ' ρ₁:Rho} {n:Nat} {K:Frag} {T:Tab} {cb:Calls} {ow:List Addr} {fl:Fl} {W:Nat} {q:Str} {sc:Scope} {c:C} {p:V×M} {e:Expr} {es:List Expr} {cs:List C}
theorem comp_used (X:Cx prog w cls base K T) (hR:Room A n) (G:AllGood prog w cls base lo A T cb) {y:Str} {py:Pos} (hi:isComp e=true) (hc:compE sc e=some c) (hS:Sc sc env ow) (hy:isOwn sc y=true) (he:ev T cb lo c ρ μ=some p) :
    ∀ Z αs (s:Shared),Inv prog w cls base Z αs μ s.heap→Loc prog w base env ρ Z αs s.heap→wpAny (model prog w) A (evalThenUse e env (PySem.assign (.Name y py) env)) (fun _ s'=>OutS prog w cls base lo env ow Z αs s (upd ρ y p.1) p.2 s') FF s:=by
  intro Z αs s I L
  have hh:=hR.handled
  cases e with
  | ListComp elt gens csc pp=>
    apply comp_of hc he
    · intro t it ifs cit ct cifs celt v items vs hs h1 h2 h3 h4 e1 e2 e3
      exact use_list fun _=>Mine.comp1 (T:=T) (cb:=cb) (celt:=celt) (cifs:=cifs) hh (foldSet_any h1 env) hS hs I L (G it h1 hS e1).se e2 e3 h2 ((G elt).part h4) (tests_ok (fun e _=>G e) h3) fun _ _ _ h=>compEnd_store hS hy L h
    · intro t it t' it' ifs cit ct cit' ct' cifs celt v items vs hs h1 h2 h3 h4 h5 h6 hap e1 e2 e3 hlen
      exact use_list fun _=>Mine.comp2 (T:=T) (cb:=cb) (celt:=celt) (cit':=cit') (cifs:=cifs) hh (foldSet_any h1 env) (foldSet_any h3) hS hs I L (G it h1 hS e1).se e2 e3 hlen h2 h4 hap ((G elt).part h6) ((G it').part h3) (tests_ok (fun e _=>G e) h5) fun _ _ _ h=>compEnd_store hS hy L h
  | DictComp key val gens csc pp=>
    apply dcomp_of hc he
    intro m q t it cit ct ckey v items vs d hs h1 h2 h3 e1 e2 e3 e4
    exact use_dict fun _=>dcomp_any (T:=T) (cb:=cb) (ckey:=ckey) hR X.sys (foldSet_any h1 env) hS hs I L (G it h1 hS e1).se e2 e3 e4 h2 ((G key).part h3) fun _ _ _ h=>compEnd_store hS hy L h
  | SetComp=>cases hc
  | _=>cases hi
theorem swaps_comp {y:Str} {py:Pos} {line:Nat} (h:isComp e=true):∃ b,swapsWith e (some (.Name y py)) line env=pure b:=by
  cases e <;> first | exact ⟨_,rfl⟩ | cases h
theorem goodS_plain (X:Cx prog w cls base K T) (hR:Room A n) (G:AllGood prog w cls base lo A T cb) {t:Expr} {pp:Pos} {tg:Tgt} (hF:Fm sc env ow) (ho:oddTuple e=false) (ht:compT sc t=some tg) (hc:compTop sc e=some c) (he:ev T cb lo c ρ μ=some p) (hb:bindT ρ p.1 tg=some ρ'):SX prog w cls base lo A env ow (exec (.Assign [t] e pp) env) ρ μ .next ρ' p.2:=by
  have key:=SX.assign (lo:=lo) (pos:=pp) hF.sc hR.handled hF.kind ht hb (good_top G hc hF.sc he)
  cases hi:isComp e with
  | false=>exact key (fun _=>swaps_no hi) ho
  | true=>
    cases hn:nameOf t with
    | none=>exact key (fun h=>absurd hn h) ho
    | some y=>
      revert ht key
      apply name_of hn
      intro py ht key
      obtain ⟨b,hb1⟩:=swaps_comp (env:=env) (e:=e) (y:=y) (py:=py) (line:=pp.line) hi
      cases b with
      | false=>exact key (fun _=>hb1) ho
      | true=>exact ifd ht fun hown ht=>by subst ht;cases hb;exact SX.used hb1 (comp_used X hR G hi (top_comp hc hi) hF.sc hown he)
theorem goodS_assign (X:Cx prog w cls base K T) (hR:Room A n) (G:AllGood prog w cls base lo A T cb) {ts:List Expr} {pp:Pos}:GoodS prog w cls base lo A T cb W q (.Assign ts e pp):=by
  intro sc c hc env ow ρ μ r hF he
  refine bnd hc fun t h1 hc=>?_
  apply one_of h1
  unfold asgC at hc
  cases ha:attrOf t with
  | some x=>
    rw [ha] at hc
    refine bnd hc fun o h2 hc=>mpd hc fun v h3 hc=>?_
    subst hc
    apply attr_eq ha
    exact bnd he fun u e1 he=>bnd he fun y e2 he=>mpd he fun m e3 he=>by subst he;exact SX.setAttr X (good_top G h3 hF.sc e1) (G _ h2 hF.sc e2).se e3
  | none=>
    rw [ha] at hc
    cases hs:subOf t with
    | some x=>
      rw [hs] at hc
      refine ifn hc fun _ hc=>bnd hc fun o h2 hc=>bnd hc fun i h3 hc=>mpd hc fun v h4 hc=>?_
      subst hc
      apply sub_eq hs
      intro _
      exact bnd he fun u e1 he=>bnd he fun y e2 he=>bnd he fun z e3 he=>mpd he fun m e4 he=>by subst he;exact SX.setIdx (G _ h4 hF.sc e1).se (G _ h2 hF.sc e2).se (G _ h3 hF.sc e3).se e4
    | none=>
      rw [hs] at hc
      refine ifn hc fun ho hc=>bnd hc fun tg h2 hc=>mpd hc fun v h3 hc=>?_
      subst hc
      exact bnd he fun u e1 he=>mpd he fun ρ' hb he=>by subst he;exact goodS_plain X hR G hF (eq_false_of_ne_true ho) h2 h3 e1 hb
theorem GoodS.no {st:Stmt} (h:∀ sc,compS sc st=none):GoodS prog w cls base lo A T cb W q st:=fun sc c hc=>by rw [h sc] at hc;cases hc
theorem goodS_break {pp:Pos}:GoodS prog w cls base lo A T cb W q (.Break pp):=fun sc c hc env ow ρ μ r hF he=>by
  cases hc;cases he;exact SX.brk
theorem goodS_raise {a b:Option Expr} {pp:Pos}:GoodS prog w cls base lo A T cb W q (.Raise a b pp):=fun sc c hc env ow ρ μ r hF he=>by
  cases hc;cases he
theorem goodS_step (X:Cx prog w cls base K T) (hR:RoomS A n) (G:AllGood prog w cls base lo A T cb) (hnd:T.defs "enumerate" = none) (hnc:T.classes "enumerate" = none) (st:Stmt) (ih:∀ st',sizeOf st'<sizeOf st→GoodS prog w cls base lo A T cb W q st'):GoodS prog w cls base lo A T cb W q st:=by
  have all:∀ es:List Stmt,sizeOf es<sizeOf st→∀ e ∈ es,GoodS prog w cls base lo A T cb W q e:=fun es h e he=>ih e (Nat.lt_trans (List.sizeOf_lt_of_mem he) h)
  cases st with
  | Expr=>exact goodS_expr G
  | Return=>exact goodS_ret G
  | Assign=>exact goodS_assign X hR.room G
  | If=>exact goodS_if G (all _ (Nat.lt_of_lt_of_eq (Nat.lt_add_right _ (Nat.lt_add_right _ (Nat.lt_add_of_pos_left (Nat.lt_add_right _ Nat.one_pos)))) (Stmt.If.sizeOf_spec _ _ _ _).symm)) (all _ (Nat.lt_of_lt_of_eq (Nat.lt_add_right _ (Nat.lt_add_of_pos_left (Nat.lt_add_right _ (Nat.lt_add_right _ Nat.one_pos)))) (Stmt.If.sizeOf_spec _ _ _ _).symm))
  | While=>exact goodS_while G (all _ (Nat.lt_of_lt_of_eq (Nat.lt_add_right _ (Nat.lt_add_right _ (Nat.lt_add_of_pos_left (Nat.lt_add_right _ Nat.one_pos)))) (Stmt.While.sizeOf_spec _ _ _ _).symm))
  | For=>exact goodS_for X hR.handled hnd hnc G (all _ (Nat.lt_of_lt_of_eq (Nat.lt_add_right _ (Nat.lt_add_right _ (Nat.lt_add_of_pos_left (Nat.lt_add_right _ (Nat.lt_add_right _ Nat.one_pos))))) (Stmt.For.sizeOf_spec _ _ _ _ _).symm))
  | Break=>exact goodS_break
  | Raise=>exact goodS_raise
  | _=>exact .no fun _=>rfl
theorem goodS_all (X:Cx prog w cls base K T) (hR:RoomS A n) (G:AllGood prog w cls base lo A T cb) (hnd:T.defs "enumerate" = none) (hnc:T.classes "enumerate" = none):∀ (N:Nat) (st:Stmt),sizeOf st<N→GoodS prog w cls base lo A T cb W q st:=by
  intro N
  induction N with
  | zero=>exact fun e h=>absurd h (Nat.not_lt_zero _)
  | succ N ih=>exact fun st hN=>goodS_step X hR G hnd hnc st fun e' h=>ih e' (Nat.lt_of_lt_of_le h (Nat.le_of_lt_succ hN))
end
end Mine
namespace Mine
open PySem PySem.W PySem.Calls PyProof.Rows
section
variable {lo:Nat} {prog:Program} {w:World} {cls:Str→Option Addr} {base:Heap} {Z Z' Z'':Addr→Obj→Prop} {αs αs' αs'':List Addr} {s s' s'':Shared} {μ μ' μ₁ μ₂ μ₃:M} {A:Around} {env:Env} {ρ ρ' ρ₁:Rho} {n:Nat} {K:Frag} {T:Tab} {cb:Calls} {ow:List Addr} {fl:Fl} {W:Nat} {q:Str} {sc:Scope} {c:C} {p:V×M} {e:Expr} {es:List Expr} {cs:List C}
noncomputable def BX (prog:Program) (w:World) (cls:Str→Option Addr) (base:Heap) (lo:Nat) (A:Around) (env:Env) (ow:List Addr) (body:List Stmt) (ρ:Rho) (μ:M) (r:Fl×Rho×M):Prop:=
  ∀ Z αs s (R:Result→Shared→Prop),Inv prog w cls base Z αs μ s.heap→Loc prog w base env ρ Z αs s.heap→(∀ f s',OutX prog w cls base lo env ow Z αs s r.1 r.2.1 r.2.2 f s'→R (.ok (.ret (match f with | .ret v=>v | _=>.none))) s')→codeAny (model prog w) A (.func body env) R s
theorem BX.of {body:List Stmt} {r:Fl×Rho×M} (h:SX prog w cls base lo (A.deeper env) env ow (execs body env) ρ μ r.1 r.2.1 r.2.2):BX prog w cls base lo A env ow body ρ μ r:=fun Z αs s R I L k=>
  codeAny_func (wpAny_mono (h Z αs s I L) (fun f s' o=>k f s' o) fun _ _ e=>e.elim)
theorem call_fn {fn:Fn} {a:Addr} {fd:FuncData} {body:List Stmt} {o:Obj} {xs:List Value} {vs:List V} {v:V} {r:Fl×Rho×M} {R:Result→Shared→Prop} (F:FnAt prog K base fn a fd body o) (hlim:base.NoLimit) (hroom:A.depth<recursionLimit) (I:Inv prog w cls base Z αs μ s.heap) (rs:Reps prog w Z αs xs vs) (hlen:fn.params.length=vs.length)
    (hb:∀ L,Fm fd.scope (defEnv fd L a) (ownOf fd.scope L)→BX prog w cls base lo A (defEnv fd L a) (ownOf fd.scope L) body (params0 fn.params vs) μ r) (hfl:flowV r.1=some v) (hR:∀ x s',OutE prog w cls base lo Z αs s r.2.2 v x s'→R (.ok (.ret x)) s') :
    codeAny (model prog w) A (.call (.ref a) ⟨xs,[]⟩) R s:=by
  refine codeAny_call_function hroom (I.keep _ _ F.at_) F.data F.co F.gen F.stmts (F.code.keeps I.keep) ?_
  rw [F.bind xs (rs.length.trans hlen.symm)]
  refine wpAny_pure ?_
  unfold newFunctionEnv
  simp only [Option.isSome_none,Bool.false_eq_true,if_false]
  refine wpAny_bind (wpAny_alloc (wpAny_bind (wpAny_layCells _ (fun _ _ _=>rfl) _ _ _ _ ?_)))
  rw [show ({ s with heap:=s.heap.push { cls:=.type "frame", data:=.dict #[] } }:Shared).heap.objs.size=s.heap.objs.size + 1 from Heap.size_push ..,cellsFrom_append]
  obtain ⟨hk,L₀,hS,hown,hfr⟩:=def_frame (env:=defEnv fd s.heap.objs.size a) F.kind F.names F.cl F.clo I rfl rfl F.glob F.bi rfl rfl rfl
  generalize pushCells (s.heap.push { cls:=.type "frame", data:=.dict #[] }) fd.scope.names=H at hk L₀
  have S₀:Step lo Z αs s Z αs { s with heap:=H }:=.of_keeps ⟨H,s.toks,rfl,hk⟩
  have hbinds:=binds_ok (A:=A.in1) (lo:=lo) (ow:=ownOf fd.scope s.heap.objs.size) (env:=defEnv fd s.heap.objs.size a) (f:=fun (x:Str×Value) (_:PUnit)=>(do storeName (defEnv fd s.heap.objs.size a) x.1 x.2;pure (ForInStep.yield ⟨⟩))) (fun _ _ _=>rfl) (ps:=fn.params.zip vs) (us:=xs) (s:={ s with heap:=H }) (I.keeps hk) L₀ (fun p hp=>hS.own _ (F.own _ (List.of_mem_zip hp).1)) (by rw [List.map_snd_zip (Nat.le_of_eq hlen.symm)];exact rs)
  rw [List.map_fst_zip (Nat.le_of_eq hlen)] at hbinds
  refine wpAny_bind (wpAny_mono hbinds (fun _ s₁ h₁=>?_) fun _ _ e=>e.elim)
  obtain ⟨Z₁,αs₁,S₁,I₁,L₁⟩:=h₁
  refine wpAny_pure ⟨hlim.keeps I₁.keep,hb s.heap.objs.size ⟨hS,fun x hx=>by rw [hfr];exact hx,F.kind⟩ Z₁ αs₁ s₁ R I₁ L₁ fun f s₂ h₂=>?_⟩
  obtain ⟨Z₂,αs₂,S₂,I₂,L₂,hf⟩:=h₂
  exact hR _ _ ⟨Z₂,αs₂,((S₀.toW.trans S₁).trans S₂).step hown,I₂,flow_value hf hfl⟩
inductive SupFn (prog:Program) (base:Heap) (K:Frag) (T:Tab) (q':Str) (D C:Addr):Prop
  | mk (cd:ClassData) (fn:Fn) (f2:Addr) (fd2:FuncData) (body2:List Stmt) (o2:Obj):clsIn K C=some cd→mroIn K C (.ref D)=some true→alongIn K "__init__" ((cd.mro.dropWhile (· != .ref D)).drop 1)=some (some (.ref f2))→typeIn K (.ref f2)=some (.type "function")→fnIn K f2=true→T.fns q'=some fn→FnAt prog K base fn f2 fd2 body2 o2→SupFn prog base K T q' D C
inductive SupAt (prog:Program) (base:Heap) (K:Frag) (cls:Str→Option Addr) (T:Tab) (q q':Str) (a:Addr):Prop
  | mk (fd:FuncData) (D cc cda:Addr) (o oc:Obj) (cdD:ClassData) (ar:Arg) (vs:Array Value) (file:Str) (tf:Tok) :
    base.get? a=some o→o.data=.func fd→fd.closure=[(Str.ofString "__class__", cc)]→fd.code=.ref cda→(fd.params.posonlyargs++fd.params.args).head?=some ar→ar.arg=Str.ofString "self" → base.get? cda=some oc→oc.data=.fields vs→vs[2]?=some (.str file tf)→(prog.main.file == file)=true→base.IsCell cc (some (.ref D))→clsIn K D=some cdD→fd.scope.names.lookup (Str.ofString "self")=some .local→
    (∀ c C,T.meths c "__init__" = some q→cls c=some C→SupFn prog base K T q' D C)→SupAt prog base K cls T q q' a
structure SupCx (prog:Program) (base:Heap) (K:Frag) (cls:Str→Option Addr) (T:Tab):Prop where
  top:(prog.main.scope.names.lookup ("super" : Str)).isSome=false
  name:nsIn K mainGlobals "super" = some none
  any:nsIn K cStatics "thirdparty.any" = some none
  boot:bootBuiltins "super" = some (.type "super")
  at_:∀ q q' fn,T.sup q=some q'→T.fns q=some fn→SupAt prog base K cls T q q' fn.adr
theorem band {a b:Bool} (h:(a && b)=true):a=true∧b=true:=Bool.and_eq_true_iff.mp h
theorem super_of {P:Expr→Prop} (h:isSuperCall e=true) (k:∀ sp cp,P (.Call (.Name (Str.ofString "super") sp) [] [] cp)):P e:=
  bnd (eq_of_beq h) fun c h1 h2=>ift h2 fun hc h2=>by
    apply call_eq h1
    obtain ⟨f,as,ks,cp⟩:=c
    show P (.Call f as ks cp)
    rw [show as=[] from List.isEmpty_iff.mp (band hc).1,show ks=[] from List.isEmpty_iff.mp (band hc).2]
    apply name_of (e:=f) h2
    exact fun sp=>k sp cp
theorem sup_of {P:Expr→Prop} (h:supArgs sc e=some es) (k:∀ sp cp ap pos,ap.endLine=pos.line→es.length<30→isGlob sc "super" = true→sc.names.lookup (Str.ofString "__class__")=some .free→P (.Call (.Attribute (.Call (.Name (Str.ofString "super") sp) [] [] cp) (Str.ofString "__init__") ap) es [] pos)):P e:=by
  refine bnd h fun r h1 h=>bnd h fun a h2 h=>ifd h fun hc h=>?_
  subst h
  apply call_eq h1
  obtain ⟨f,as,ks,pos⟩:=r
  apply attr_eq (e:=f) h2
  obtain ⟨o,x,ap⟩:=a
  clear h1 h2 h
  show P (.Call (.Attribute o x ap) as ks pos)
  rw [show ks=[] from List.isEmpty_iff.mp (band (band (band (band (band hc).1).1).1).1).2,show x=Str.ofString "__init__" from eq_of_beq (band (band (band hc).1).1).2]
  apply super_of (e:=o) (band (band (band (band (band (band hc).1).1).1).1).1).1
  exact fun sp cp=>k sp cp ap pos (eq_of_beq (band (band (band (band (band (band hc).1).1).1).1).1).2) (of_decide_eq_true (band (band (band (band hc).1).1).1).2) (band (band hc).1).2 (eq_of_beq (band hc).2)
theorem class_cell {fd:FuncData} {L a cc:Addr} (hn:(fd.scope.names.map (·.1)).Nodup) (hl:fd.scope.names.lookup (Str.ofString "__class__")=some .free) (hc:fd.closure=[(Str.ofString "__class__", cc)]):(defEnv fd L a).cells.lookup (Str.ofString "__class__")=some cc:=by
  show (cellsFrom (L + 1) fd.scope.names []++fd.closure).lookup _=_
  rw [List.lookup_append,hc,List.lookup_eq_none_iff.mpr]
  · rfl
  · intro p hp
    rw [bne_iff_ne]
    intro e
    have h1:=cellsFrom_mem (x:=p.1) (c:=p.2) hp
    rw [← e] at h1
    rw [lookup_of_mem hn h1] at hl
    cases hl
theorem cls_at {D:Addr} {cdD:ClassData} {h:Heap} (hK:K.In h) (hD:clsIn K D=some cdD):∃ oD,h.get? D=some oD∧oD.data=.cls cdD:=by
  unfold clsIn at hD
  split at hD
  · rename_i c d cd' sl ho
    cases hD
    exact ⟨_,hK _ _ ho,rfl⟩
  · cases hD
theorem type_at {D:Addr} {c:Value} {h:Heap} (hK:K.In h) (ht:typeIn K (.ref D)=some c):∃ o,h.get? D=some o∧o.cls=c:=
  mpd (x:=K.lookup D) ht fun o h1 h2=>⟨o,hK _ _ h1,h2⟩
theorem supOf_sup {ov:V} {q':Str} (h:supOf T q μ ov=some q'):T.sup q=some q':=bnd h fun _ _ h=>bnd h fun _ _ h=>bnd h fun _ _ h=>ift h fun _ h=>h
theorem form_plain {pos:Pos} (hst:noStar es) (hfew:es.length<30):methodCallForm (es.length + ([]:List Keyword).length) (backTo pos (starEach es env)) (backToKw pos (keywordEach [] env))=true:=by
  have h1:(backTo pos (starEach es env)).all (fun x=>!x.1)=true:=by
    rw [List.all_eq_not_any_not]
    simp only [Bool.not_not]
    rw [star_plain hst];rfl
  unfold methodCallForm
  rw [h1]
  exact decide_eq_true hfew
theorem sup_call (X:Cx prog w cls base K T) (Y:SupCx prog base K cls T) (hR:RoomS A n) (hc:CallsOK prog w cls base K T cb n) {fn:Fn} {a L:Addr} {fd:FuncData} {o:Obj} {body:List Stmt} {sp cp ap pos:Pos} {pp:Pos} {q':Str} {ov:V} {vs:List V} (F:FnAt prog K base fn a fd body o) (hfn:T.fns q=some fn) (henv:env=defEnv fd L a) (hF:Fm fd.scope env ow)
    (hline:ap.endLine=pos.line) (hfew:es.length<30) (hsg:isGlob fd.scope "super" = true) (hcl:fd.scope.names.lookup (Str.ofString "__class__")=some .free) (hself:ρ "self" = some ov) (hsup:supOf T q μ ov=some q') (hSL:SL prog w cls base lo A env ρ es μ μ₁ vs) (hcb:cb q' false lo (ov::vs) μ₁=some (.none,μ₂))
    (I:Inv prog w cls base Z αs μ s.heap) (L₀:Loc prog w base env ρ Z αs s.heap) :
    _root_.PySem.wpAt (model prog w) A (.func body env) (exec (.Expr (.Call (.Attribute (.Call (.Name (Str.ofString "super") sp) [] [] cp) (Str.ofString "__init__") ap) es [] pos) pp) env) (fun f s'=>f=.next∧OutX prog w cls base lo env ow Z αs s .next ρ μ₂ .next s') FF s:=by
  obtain ⟨fd',D,cc,cda,o',oc,cdD,ar,vls,file,tf,s1,s2,s3,s4,s5,s6,s7,s8,s9,s10,s11,s12,s13,s14⟩:=Y.at_ q q' fn (supOf_sup hsup) hfn
  rw [← F.adr,F.at_] at s1
  cases s1
  cases s2.symm.trans F.data
  have hkS:env.kindOf "self" = some .local:=by rw [henv];exact s13
  obtain ⟨mns,hns,hloc⟩:=L₀.ns
  obtain ⟨u,hu,Ru⟩:=hloc "self" _ hself hkS
  refine bnd hsup fun i h1 hsup=>bnd hsup fun m h2 hsup=>bnd hsup fun c h3 hsup=>ift hsup fun hm _=>?_
  clear hsup hself
  revert Ru hcb
  apply obj_of h1
  intro hcb Ru
  have Ru':=Ru
  obtain ⟨x,hα,rfl⟩:=Ru.inv
  have hM:=I.at_ _ _ _ hα h2
  revert hM
  apply ins_of h3
  intro hM
  obtain ⟨C,dx,hC,hdx,hox⟩:=hM
  obtain ⟨cd,fn2,f2,fd2,body2,o2,t1,t2,t3,t4,t5,t6,t7⟩:=s14 _ C hm hC
  have hK:K.In s.heap:=fun a o e=>I.keep _ _ (X.frag a o e)
  have hxC:x≠C:=by
    intro e
    obtain ⟨oD,e1,e2⟩:=cls_at hK t1
    rw [e,e1] at hox
    cases hox
    cases e2
  obtain ⟨oD,hD1,hD2⟩:=cls_at hK s12
  obtain ⟨mg,mb,Gm,Bm,hb⟩:=X.ns
  obtain ⟨of2,hof,hofc⟩:=type_at X.frag t4
  refine ks_wpAt_Expr_any ?_ (by unfold interactive;rw [hF.kind];rfl) (by rfl)
  rw [arm_eval_Call]
  refine _root_.PySem.wpAt_bind (ks_wpAt_super_base (f:=a) (cc:=cda) (ar:=ar) (env:=env) (hF.sc.glob _ hsg) (by rw [henv];exact hcl) (by rfl) (by rw [henv];rfl) (I.keep _ _ F.at_) F.data s5 (by rw [henv];exact s4) (I.keep _ _ s7) s8 s9 s10 Y.top
    (ks_loadName_global hF.kind (hF.sc.glob _ hsg) (loadGlobal_builtin (env:=env) (by rw [L₀.glob];exact Gm.keeps I.keep) (mg_none_of X.frag Gm Y.name) (by rw [L₀.bi];exact Bm.keeps I.keep) ((hb _ (by decide)).trans Y.boot) ⟨rfl,?_⟩)))
  refine wpAny_loadName_free (c:=cc) (v:=.ref D) hF.kind (by rw [henv];exact hcl) (by rw [henv];exact class_cell F.names hcl s3) (Heap.IsCell.keeps s11 I.keep) ?_
  rw [s6]
  refine wpAny_loadName_local hF.kind hkS hns hu (ks_wpAny_isType_cls hD1 hD2 ⟨rfl,ks_wpAny_call_super hD1 hD2 hox rfl (fun c e=>nomatch e) (looks_mroIn hK t2) (fun h₁ e1 k1=>?_)⟩)
  have St1:Step lo Z αs s Z αs { s with heap:=h₁ }:=.of_keeps ⟨h₁,s.toks,rfl,k1⟩
  have I₁:Inv prog w cls base Z αs μ h₁:=I.keeps k1
  have hK₁:K.In h₁:=fun a o e=>I₁.keep _ _ (X.frag a o e)
  refine _root_.PySem.wpAt_of_wpAny (wpAny_bind (wpAny_standAt ?_))
  have hst:noStar es:=hSL.plain
  have hp:=star_plain (env:=env) (pos:=pos) hst
  unfold methodCall
  rw [form_plain hst hfew]
  refine wpAny_bind (wpAny_holding (ks_wpAny_getMethod_super e1 (looks_opaque hK₁ Y.any) (l₀:=cd.mro) (fun A Q E s k q=>wpAny_bind ((looks_clsIn hK₁ t1) A _ E s k (wpAny_pure q))) rfl hK₁ t3 (I₁.keep _ _ hof) hofc hxC (by rfl) ?_))
  refine wpAny_bind (wpAny_of_eq (show methodCallPos true (.Call (.Name (Str.ofString "super") sp) [] [] cp) env ap pos=pure pos by unfold methodCallPos;rw [hline,beq_self_eq_true];rfl) ?_)
  have up:∀ b o,h₁.get? b=some o→(h₁.push (methodObj (.ref f2) (.ref x))).get? b=some o:=fun b o e=>Heap.get?_push_of_some _ e
  have St2:Step lo Z αs { s with heap:=h₁ } Z αs { s with heap:=h₁.push (methodObj (.ref f2) (.ref x)),toks:=s.toks + 1 }:=.of_keeps ⟨_,_,rfl,up⟩
  have hm:(h₁.push (methodObj (.ref f2) (.ref x))).get? h₁.objs.size=some (methodObj (.ref f2) (.ref x)):=Heap.get?_push_size _ rfl
  refine callWith_of (P:=MethP K h₁.objs.size f2 (.ref x)) (by rw [hp];rfl) (keeps_M t5) (args_any hst hSL.all (I₁.keeps up) ((L₀.step St1).step St2) fun xs Z₃ αs₃ s₃ S₃ I₃ L₃ r₃=>?_)
  have hm₃:=S₃.keep _ _ (fun hd=>by
    obtain ⟨o',e⟩:=Inv.alive I₁ (List.mem_of_mem_drop hd)
    rw [dead_size h₁] at e;cases e) hm
  refine ⟨⟨hm₃,fun a o e=>I₃.keep _ _ (X.frag a o e)⟩,?_⟩
  refine wpAny_call (ks_codeAny_call_bound hm₃ (hc q' false lo (.obj i::vs) μ₁ .none μ₂ hcb fn2 f2 fd2 body2 o2 t6 t7 _ hR.room Z₃ αs₃ s₃ (.ref x::xs) _ I₃ (.cons (Ru'.mono S₃.zsub S₃.asub) r₃) fun y s₄ o=>?_))
  obtain ⟨Z₄,αs₄,S₄,I₄,R₄⟩:=o
  exact ⟨rfl,Z₄,αs₄,(((St1.trans St2).trans S₃).trans S₄).toW,I₄,L₃.step S₄,trivial⟩
theorem BX.of_sup (X:Cx prog w cls base K T) (Y:SupCx prog base K cls T) (hR:RoomS (A.deeper env) n) (hc:CallsOK prog w cls base K T cb n) {fn:Fn} {a L:Addr} {fd:FuncData} {o:Obj} {pp:Pos} {rest:List Stmt} {ss:List S} {r:Fl×Rho×M} (F:FnAt prog K base fn a fd (.Expr e pp::rest) o) (hfn:T.fns q=some fn) (henv:env=defEnv fd L a)
    (hF:Fm fd.scope env ow) (h1:supArgs fd.scope e=some es) (h2:compEs fd.scope es=some cs) (h3:compSs fd.scope rest=some ss) (G:AllGood prog w cls base lo (A.deeper env) T cb) (GS:∀ st,GoodS prog w cls base lo (A.deeper env) T cb W q st)
    (he:exs T cb lo W q (.sup cs::ss) ρ μ=some r):BX prog w cls base lo A env ow (.Expr e pp::rest) ρ μ r:=by
  intro Z αs s R I L₀ k
  revert F
  apply sup_of h1
  intro sp cp ap pos hline hfew hsg hcl F
  refine bnd he fun x e1 he=>bnd e1 fun ov hself e1=>bnd e1 fun q' hsup e1=>bnd e1 fun vs hvs e1=>bnd e1 fun y hcb e1=>?_
  obtain ⟨v,μ₂⟩:=y
  cases v with
  | none=>
    cases e1
    refine ks_codeAny_funcAt (ks_wpAt_mono (Q:=fun f s'=>OutX prog w cls base lo env ow Z αs s r.1 r.2.1 r.2.2 f s') (E:=FF) (ks_wpAt_execs_cons (ks_wpAt_mono (sup_call X Y hR hc F hfn henv hF hline hfew hsg hcl hself hsup (good_list (fun e _=>G e) h2 hF.sc hvs) hcb I L₀) (fun f s' h'=>?_) fun _ _ e=>e)) (fun f s' o=>k f s' o) fun _ _ e=>e.elim)
    obtain ⟨rfl,Z₁,αs₁,S₁,I₁,L₁,_⟩:=h'
    exact _root_.PySem.wpAt_of_wpAny (wpAny_mono (goodSs (fun st _=>GS st) h3 hF he Z₁ αs₁ s' I₁ L₁) (fun _ _ o=>o.trans S₁) fun _ _ e=>e)
  | _=>cases e1
end
end Mine
namespace Mine
open PySem PySem.W PySem.Calls PyProof.Rows
section
variable {lo:Nat} {prog:Program} {w:World} {cls:Str→Option Addr} {base:Heap} {Z Z' Z'':Addr→Obj→Prop} {αs αs' αs'':List Addr} {s s' s'':Shared} {μ μ' μ₁ μ₂ μ₃:M} {A:Around} {env:Env} {ρ ρ' ρ₁:Rho} {n:Nat} {K:Frag} {T:Tab} {cb:Calls} {ow:List Addr} {fl:Fl} {W:Nat} {q:Str} {sc:Scope} {c:C} {p:V×M} {e:Expr} {es:List Expr} {cs:List C}
theorem body_of {body:List Stmt} {ss:List S} {G:Prop} (h:compBody sc body=some ss) (k1:∀ e p r args cs ss',body=.Expr e p::r→supArgs sc e=some args→compEs sc args=some cs→compSs sc r=some ss'→ss=.sup cs::ss'→G) (k2:compSs sc body=some ss→G):G:=by
  cases body with
  | nil=>exact k2 h
  | cons st r=>
    cases st with
    | Expr e p=>
      have h:(match supArgs sc e with | some args=>(compEs sc args).bind fun cs=>(compSs sc r).map (.sup cs::·) | none=>compSs sc (.Expr e p::r))=some ss:=h
      cases ha:supArgs sc e with
      | some args=>rw [ha] at h;exact bnd h fun cs h1 h=>mpd h fun ss' h2 h=>k1 e p r args cs ss' rfl ha h1 h2 h.symm
      | none=>rw [ha] at h;exact k2 h
    | _=>exact k2 h
theorem body_ok (X:Cx prog w cls base K T) (Y:SupCx prog base K cls T) (hnd:T.defs "enumerate" = none) (hnc:T.classes "enumerate" = none) (hR:RoomS (A.deeper env) n) (hc:CallsOK prog w cls base K T cb n) {fn:Fn} {a L:Addr} {fd:FuncData} {o:Obj} {body:List Stmt} {r:Fl×Rho×M} (F:FnAt prog K base fn a fd body o) (hfn:T.fns q=some fn) (henv:env=defEnv fd L a)
    (hF:Fm fd.scope env ow) (he:exs T cb lo W q fn.body ρ μ=some r):BX prog w cls base lo A env ow body ρ μ r:=by
  have G:=allGood (lo:=lo) X hR hc
  have GS:∀ st,GoodS prog w cls base lo (A.deeper env) T cb W q st:=fun st=>goodS_all X hR G hnd hnc (sizeOf st + 1) st (Nat.lt_succ_self _)
  refine body_of F.comp (fun e p rest args cs ss hb h1 h2 h3 hs=>?_) fun h=>BX.of (goodSs (fun st _=>GS st) h hF he)
  subst hb
  rw [hs] at he
  exact BX.of_sup X Y hR hc F hfn henv hF h1 h2 h3 G GS he
theorem RoomS.in {fd:Env} (hR:Room A (n + 1)):RoomS (A.deeper fd) n:=⟨hR.handled,by have:=hR.depth;show A.depth + 1 + 4 * n + 3≤700;omega,by have:=hR.units;show A.units + 3 + 12 * n + 9≤8000;omega⟩
theorem calls_ok (X:Cx prog w cls base K T) (Y:SupCx prog base K cls T) (hnd:T.defs "enumerate" = none) (hnc:T.classes "enumerate" = none):∀ n,CallsOK prog w cls base K T (callF T W n) n:=by
  intro n
  induction n with
  | zero=>intro q raw lo args μ v μ' e;cases e
  | succ n ih=>
    intro q raw lo args μ v μ' e fn a fd body o hfn F A hR Z αs s xs R I r k
    refine bnd e fun fn' hfn' e=>ift e fun hlen e=>bnd e fun t he e=>bnd e fun v₁ hfl e=>?_
    cases hfn'.symm.trans hfn
    have key:∀ {lo':Nat} {R:Result→Shared→Prop},exs T (callF T W n) lo' W q fn.body (params0 fn.params args) μ=some t→(∀ x s',OutE prog w cls base lo' Z αs s t.2.2 v₁ x s'→R (.ok (.ret x)) s')→codeAny (model prog w) A (.call (.ref a) ⟨xs,[]⟩) R s:=fun he k=>
      call_fn F X.lim (Nat.lt_of_le_of_lt (Nat.le_trans (Nat.le_add_right _ _) hR.depth) (by decide)) I r hlen (fun L hF=>body_ok X Y hnd hnc (.in hR) ih F hfn rfl hF he) hfl k
    cases hp:fn.pure && !raw with
    | true=>
      rw [hp] at he e
      exact mpd e fun v' h1 h2=>by cases h2;exact key he fun x s' o=>k x s' (frz_out I o h1)
    | false=>rw [hp] at he e;cases e;exact key he k
end
end Mine
namespace Mine
open PySem
theorem ofString_inj {a b:String}:(Str.ofString a=Str.ofString b)=(a=b):=by
  refine propext ⟨fun h=>?_,fun h=>h ▸ rfl⟩
  rw [← String.ofList_toList (s:=a),← String.ofList_toList (s:=b)] at h ⊢
  generalize a.toList=l at h ⊢
  generalize b.toList=l' at h ⊢
  rw [PySem.W.Fast.ofString_ofList,PySem.W.Fast.ofString_ofList] at h
  have h1:l.map Char.toNat=l'.map Char.toNat:=by
    have:=congrArg (fun s=>s.cps.toList) h
    simpa using this
  congr 1
  induction l generalizing l' with
  | nil=>cases l' with
    | nil=>rfl
    | cons _ _=>simp at h1
  | cons x l ih=>cases l' with
    | nil=>simp at h1
    | cons y l'=>
      simp only [List.map_cons,List.cons.injEq] at h1
      rw [Char.toNat_inj.mp h1.1,ih l' (by simpa using h1.2) h1.2]
theorem upd_at {ρ:Rho} {x:Str} {v:V}:upd ρ x v x=some v:=if_pos rfl
noncomputable abbrev Dom:=List (Int×Int)
noncomputable def encP (p:Int×Int):V:=.tup [.int p.1,.int p.2]
noncomputable def encD (d:Dom):V:=.tup (d.map encP)
theorem mapM_id {f:V→Option V} {vs:List V} (h:∀ v ∈ vs,f v=some v):vs.mapM f=some vs:=by
  induction vs with
  | nil=>rfl
  | cons v vs ih=>rw [List.mapM_cons,h v (.head _),ih fun u hu=>h u (.tail _ hu)];rfl
section
variable {lo f:Nat} {μ:M}
theorem frz_tup {vs:List V} (h:∀ v ∈ vs,frz lo μ f v=some v):frz lo μ (f + 1) (.tup vs)=some (.tup vs):=congrArg (Option.map V.tup) (mapM_id h)
theorem frz_lst {vs:List V} (h:∀ v ∈ vs,frz lo μ f v=some v):frz lo μ (f + 1) (.lst vs)=some (.lst vs):=congrArg (Option.map V.lst) (mapM_id h)
theorem frz_map {α:Type} {enc:α→V} {l:List α} (h:∀ a,frz lo μ f (enc a)=some (enc a)):∀ v ∈ l.map enc,frz lo μ f v=some v:=fun v hv=>by
  obtain ⟨a,_,rfl⟩:=List.mem_map.mp hv
  exact h a
theorem frz_P {p:Int×Int}:frz lo μ (f + 2) (encP p)=some (encP p):=rfl
theorem frz_D {d:Dom}:frz lo μ (f + 3) (encD d)=some (encD d):=frz_tup (frz_map fun _=>frz_P)
theorem frz_obj {n:Nat} {vs:List V} (h:lo≤n) (e:μ[n]?=some (.list vs)) (hv:∀ v ∈ vs,frz lo μ f v=some v):frz lo μ (f + 1) (.obj n)=some (.lst vs):=by
  show (if n<lo then _ else (μ[n]?).bind _)=_
  rw [if_neg (Nat.not_lt.mpr h),e]
  exact congrArg (Option.map V.lst) (mapM_id hv)
end
noncomputable def runB (r:Res):Option (V×M):=r.bind fun t=>(flowV t.1).map fun v=>(v,t.2.2)
theorem call_pure {W n:Nat} {q:Str} {lo:Nat} {args:List V} {μ μ':M} {ps:List Str} {body:List S} {a:Nat} {v v':V} (hf:tab.fns q=some ⟨ps,body,true,a⟩) (hl:ps.length=args.length)
    (he:runB (exs tab (callF tab W n) μ.length W q body (params0 ps args) μ)=some (v,μ')) (hz:frz μ.length μ' 8 v=some v'):callF tab W (n + 1) q false lo args μ=some (v',μ):=by
  show (tab.fns q).bind _=_
  rw [hf]
  show (if ps.length=args.length then _ else none)=_
  rw [if_pos hl]
  revert he
  show runB (exs tab (callF tab W n) μ.length W q body (params0 ps args) μ)=some (v,μ')→(exs tab (callF tab W n) μ.length W q body (params0 ps args) μ).bind _=_
  cases exs tab (callF tab W n) μ.length W q body (params0 ps args) μ with
  | none=>exact fun h=>nomatch h
  | some t=>
    obtain ⟨fl,ρ',μ₁⟩:=t
    cases fl with
    | brk=>exact fun h=>nomatch h
    | next=>intro he;cases he;exact congrArg (Option.map fun v=>(v,μ)) hz
    | ret u=>intro he;cases he;exact congrArg (Option.map fun v=>(v,μ)) hz
theorem call_imp {W n:Nat} {q:Str} {lo:Nat} {raw:Bool} {args:List V} {μ:M} {r:Option (V×M)} {ps:List Str} {body:List S} {a:Nat} {p:Bool} (hf:tab.fns q=some ⟨ps,body,p,a⟩) (hk:(p && !raw)=false) (hl:ps.length=args.length)
    (he:runB (exs tab (callF tab W n) lo W q body (params0 ps args) μ)=r):callF tab W (n + 1) q raw lo args μ=r:=by
  show (tab.fns q).bind _=_
  rw [hf]
  show (if ps.length=args.length then (exs tab (callF tab W n) (if (p && !raw)=true then _ else lo) W q body (params0 ps args) μ).bind (fun r=>(flowV r.1).bind fun v=>if (p && !raw)=true then _ else some (v,r.2.2)) else none)=_
  rw [if_pos hl,hk,← he]
  show (exs tab (callF tab W n) lo W q body (params0 ps args) μ).bind _=_
  cases exs tab (callF tab W n) lo W q body (params0 ps args) μ with
  | none=>rfl
  | some t=>obtain ⟨fl,ρ',μ₁⟩:=t;cases fl <;> rfl
section
variable {cb:Calls} {lo W:Nat} {fn:Str} {res:Res} {r:Option (V×M)} {μ μ₁ μ₂ μ₃:M} {ρ ρ₁:Rho} {a b c:C} {x y v:V} {cs:List C} {vs:List V} {n m k f:Str} {q p:Bool}
theorem bS {α β:Type} {o:Option α} {t:α} {g:α→Option β} {r:Option β} (h:o=some t) (k:g t=r):o.bind g=r:=by rw [h];exact k
theorem mS {α β:Type} {o:Option α} {t:α} {g:α→β} (h:o=some t):o.map g=some (g t):=by rw [h];rfl
theorem upd_hit:upd ρ n v n=some v:=upd_at
theorem upd_miss (hne:(m == n)=false) {r:Option V} (h:ρ m=r):upd ρ n v m=r:=(if_neg (ne_of_beq_false hne)).trans h
theorem e_var (h:ρ n=some v):ev tab cb lo (.var n) ρ μ=some (v,μ):=mS h
theorem e_bin {op:Operator} (h1:ev tab cb lo a ρ μ=some (x,μ)) (h2:ev tab cb lo b ρ μ=some (y,μ)) (h3:binV μ op x y=some v):ev tab cb lo (.bin op a b) ρ μ=some (v,μ):=bS h1 (bS h2 (mS h3))
theorem e_binF {op:Operator} (h3:binV μ op x y=some v) (h1:ev tab cb lo a ρ μ=some (x,μ)) (h2:ev tab cb lo b ρ μ=some (y,μ)):ev tab cb lo (.bin op a b) ρ μ=some (v,μ):=e_bin h1 h2 h3
theorem e_glob (h:tab.consts n=some v):ev tab cb lo (.glob n) ρ μ=some (v,μ):=mS h
theorem e_not (h:ev tab cb lo a ρ μ=some (.bool q,μ₁)):ev tab cb lo (.not a) ρ μ=some (.bool (!q),μ₁):=bS h rfl
theorem e_and (h:evAnd tab cb lo cs ρ μ=some (q,μ₁)):ev tab cb lo (.and cs) ρ μ=some (.bool q,μ₁):=mS h
theorem e_or (h:evOr tab cb lo cs ρ μ=some (q,μ₁)):ev tab cb lo (.or cs) ρ μ=some (.bool q,μ₁):=mS h
theorem e_ite (h:ev tab cb lo a ρ μ=some (.bool q,μ)) (k:(bif q then ev tab cb lo b ρ μ else ev tab cb lo c ρ μ)=r):ev tab cb lo (.ite a b c) ρ μ=r:=bS h k
theorem e_tup (h:evs tab cb lo cs ρ μ=some (vs,μ₁)):ev tab cb lo (.tup cs) ρ μ=some (.tup vs,μ₁):=mS h
theorem e_list (h:evs tab cb lo cs ρ μ=some (vs,μ)):ev tab cb lo (.list false cs) ρ μ=some (.lst vs,μ):=mS h
theorem e_listN (h:evs tab cb lo cs ρ μ=some (vs,μ)):ev tab cb lo (.list true cs) ρ μ=some (.obj μ.length,μ++[.list vs]):=mS h
theorem e_cmp {op:CmpOp} (h1:ev tab cb lo a ρ μ=some (x,μ)) (h2:ev tab cb lo b ρ μ=some (y,μ)) (h3:cmpV μ op x y=some q):ev tab cb lo (.cmp op a b) ρ μ=some (.bool q,μ):=bS h1 (bS h2 (mS h3))
theorem e_cmpF {op:CmpOp} (h3:cmpV μ op x y=some q) (h1:ev tab cb lo a ρ μ=some (x,μ)) (h2:ev tab cb lo b ρ μ=some (y,μ)):ev tab cb lo (.cmp op a b) ρ μ=some (.bool q,μ):=e_cmp h1 h2 h3
theorem e_attr (h2:attrV tab.fields μ x n=some v) (h1:ev tab cb lo a ρ μ=some (x,μ)):ev tab cb lo (.attr a n) ρ μ=some (v,μ):=bS h1 (mS h2)
theorem e_idx (h1:ev tab cb lo a ρ μ=some (x,μ)) (h2:ev tab cb lo b ρ μ=some (y,μ)) (h3:idxV μ x y=some v):ev tab cb lo (.idx a b) ρ μ=some (v,μ):=bS h1 (bS h2 (mS h3))
theorem e_idxF (h3:idxV μ x y=some v) (h1:ev tab cb lo a ρ μ=some (x,μ)) (h2:ev tab cb lo b ρ μ=some (y,μ)):ev tab cb lo (.idx a b) ρ μ=some (v,μ):=e_idx h1 h2 h3
theorem e_call {raw:Bool} (h2:tab.defs f=some n) (h3:cb n raw lo vs μ=r) (h1:evs tab cb lo cs ρ μ=some (vs,μ)):ev tab cb lo (.call f raw cs) ρ μ=r:=bS h1 (by unfold callV;rw [h2];exact h3)
theorem e_bi {raw:Bool} (h2:tab.defs f=none) (h3:tab.classes f=none) (h4:biV μ f vs=some v) (h1:evs tab cb lo cs ρ μ=some (vs,μ)):ev tab cb lo (.call f raw cs) ρ μ=some (v,μ):=bS h1 (by unfold callV;rw [h2,h3];exact mS h4)
theorem e_meth {o:Option Str} (h1:ev tab cb lo a ρ μ=some (x,μ)) (h2:methFind tab x n μ=some o) (h4:methV cb lo x n vs μ o=r) (h3:evs tab cb lo cs ρ μ=some (vs,μ)):ev tab cb lo (.meth a n cs) ρ μ=r:=bS h1 (bS h2 (bS h3 h4))
theorem e_meth2 {o:Option Str} (h1:ev tab cb lo a ρ μ=some (x,μ)) (h2:methFind tab x n μ=some o) (h3:evs tab cb lo cs ρ μ=some (vs,μ₂)) (h4:methV cb lo x n vs μ₂ o=r):ev tab cb lo (.meth a n cs) ρ μ=r:=bS h1 (bS h2 (bS h3 h4))
theorem e_def (h1:ev tab cb lo a ρ μ=some (x,μ)) (h2:methFind tab x n μ=some (some m)) (h4:cb m false lo (x::vs) μ=r) (h3:evs tab cb lo cs ρ μ=some (vs,μ)):ev tab cb lo (.meth a n cs) ρ μ=r:=e_meth h1 h2 h4 h3
theorem e_lm (h1:ev tab cb lo a ρ μ=some (x,μ)) (h2:methFind tab x n μ=some none) (h4:listMeth lo x n vs μ=r) (h3:evs tab cb lo cs ρ μ=some (vs,μ)):ev tab cb lo (.meth a n cs) ρ μ=r:=e_meth h1 h2 h4 h3
theorem l_cons (h1:ev tab cb lo a ρ μ=some (x,μ)) (h2:evs tab cb lo cs ρ μ=some (vs,μ₂)):evs tab cb lo (a::cs) ρ μ=some (x::vs,μ₂):=bS h1 (mS h2)
theorem l_consI (h1:ev tab cb lo a ρ μ=some (x,μ₁)) (h2:evs tab cb lo cs ρ μ₁=some (vs,μ₂)):evs tab cb lo (a::cs) ρ μ=some (x::vs,μ₂):=bS h1 (mS h2)
theorem l_one (h1:ev tab cb lo a ρ μ=some (x,μ₁)):evs tab cb lo [a] ρ μ=some ([x],μ₁):=bS h1 rfl
theorem a_cons {r:Option (Bool×M)} (h:ev tab cb lo a ρ μ=some (.bool q,μ₁)) (k:(bif q then evAnd tab cb lo cs ρ μ₁ else some (false,μ₁))=r):evAnd tab cb lo (a::cs) ρ μ=r:=bS h k
theorem o_cons {r:Option (Bool×M)} (h:ev tab cb lo a ρ μ=some (.bool q,μ₁)) (k:(bif q then some (true,μ₁) else evOr tab cb lo cs ρ μ₁)=r):evOr tab cb lo (a::cs) ρ μ=r:=bS h k
theorem if_t {α:Type} {A B r:α} (h:q=true) (k:A=r):(bif q then A else B)=r:=by rw [h];exact k
theorem if_f {α:Type} {A B r:α} (h:q=false) (k:B=r):(bif q then A else B)=r:=by rw [h];exact k
theorem if_e {α:Type} {A r:α} (k:A=r):(bif q then A else r)=r:=by
  cases q with
  | true=>exact k
  | false=>rfl
noncomputable def runK (cb:Calls) (lo W:Nat) (q:Str):List (List S)→Rho→M→Res
  | [],ρ,μ=>some (.next,ρ,μ)
  | b::r,ρ,μ=>(exs tab cb lo W q b ρ μ).bind fun p=>match p.1 with
    | .next=>runK cb lo W q r p.2.1 p.2.2
    | .brk=>some (.brk,p.2)
    | .ret v=>some (.ret v,p.2)
variable {rs b₁ b₂:List S} {ks:List (List S)} {s:S}
theorem k_exs (h:runK cb lo W fn [rs] ρ μ=res):exs tab cb lo W fn rs ρ μ=res:=by
  rw [← h]
  unfold runK
  cases exs tab cb lo W fn rs ρ μ with
  | none=>rfl
  | some t=>obtain ⟨fl,ρ,μ⟩:=t;cases fl <;> rfl
theorem k_nil (k:runK cb lo W fn ks ρ μ=res):runK cb lo W fn ([]::ks) ρ μ=res:=k
theorem k_cons:runK cb lo W fn ((s::rs)::ks) ρ μ=(ex tab cb lo W fn s ρ μ).bind fun p=>match p.1 with
    | .next=>runK cb lo W fn (rs::ks) p.2.1 p.2.2
    | .brk=>some (.brk,p.2)
    | .ret v=>some (.ret v,p.2):=by
  show ((ex tab cb lo W fn s ρ μ).bind _).bind _=_
  cases ex tab cb lo W fn s ρ μ with
  | none=>rfl
  | some t=>obtain ⟨fl,ρ,μ⟩:=t;cases fl <;> rfl
theorem k_next (h:ex tab cb lo W fn s ρ μ=some (.next,ρ₁,μ₁)) (k:runK cb lo W fn (rs::ks) ρ₁ μ₁=res):runK cb lo W fn ((s::rs)::ks) ρ μ=res:=by
  rw [k_cons,h];exact k
theorem k_out {fl:Fl} (h:ex tab cb lo W fn s ρ μ=some (.ret v,ρ₁,μ₁)):runK cb lo W fn ((s::rs)::ks) ρ μ=some (.ret v,ρ₁,μ₁):=by
  rw [k_cons,h];rfl
theorem k_one (h:ev tab cb lo a ρ μ=some (v,μ₁)) (k:runK cb lo W fn (rs::ks) (upd ρ n v) μ₁=res):runK cb lo W fn ((.assign (.one n) a::rs)::ks) ρ μ=res:=
  k_next (bS h rfl) k
theorem k_one' (h:ev tab cb lo a ρ μ=some (v,μ)) (k:runK cb lo W fn (rs::ks) (upd ρ n v) μ=res):runK cb lo W fn ((.assign (.one n) a::rs)::ks) ρ μ=res:=
  k_one h k
theorem k_two (h:ev tab cb lo a ρ μ=some (.tup [x,y],μ₁)) (kk:runK cb lo W fn (rs::ks) (upd (upd ρ n x) m y) μ₁=res):runK cb lo W fn ((.assign (.many [n,m]) a::rs)::ks) ρ μ=res:=k_next (bS h rfl) kk
theorem k_three {z:V} (h:ev tab cb lo a ρ μ=some (.tup [x,y,z],μ₁)) (kk:runK cb lo W fn (rs::ks) (upd (upd (upd ρ n x) m y) k z) μ₁=res):runK cb lo W fn ((.assign (.many [n,m,k]) a::rs)::ks) ρ μ=res:=k_next (bS h rfl) kk
theorem k_four {z u:V} {j:Str} (h:ev tab cb lo a ρ μ=some (.tup [x,y,z,u],μ₁)) (kk:runK cb lo W fn (rs::ks) (upd (upd (upd (upd ρ n x) m y) k z) j u) μ₁=res):runK cb lo W fn ((.assign (.many [n,m,k,j]) a::rs)::ks) ρ μ=res:=k_next (bS h rfl) kk
theorem k_five {z u t:V} {j i:Str} (h:ev tab cb lo a ρ μ=some (.tup [x,y,z,u,t],μ₁)) (kk:runK cb lo W fn (rs::ks) (upd (upd (upd (upd (upd ρ n x) m y) k z) j u) i t) μ₁=res):runK cb lo W fn ((.assign (.many [n,m,k,j,i]) a::rs)::ks) ρ μ=res:=k_next (bS h rfl) kk
theorem k_attr (h1:ev tab cb lo b ρ μ=some (v,μ₁)) (h2:ev tab cb lo a ρ μ₁=some (x,μ₁)) (h3:setAttrV tab.fields lo μ₁ x n v=some μ₃) (k:runK cb lo W fn (rs::ks) ρ μ₃=res):runK cb lo W fn ((.setAttr a n b::rs)::ks) ρ μ=res:=
  k_next (bS h1 (bS h2 (mS h3))) k
theorem k_idx {μ₄:M} (h4:setIdxV lo μ₁ x y v=some μ₄) (h1:ev tab cb lo c ρ μ=some (v,μ₁)) (h2:ev tab cb lo a ρ μ₁=some (x,μ₁)) (h3:ev tab cb lo b ρ μ₁=some (y,μ₁)) (k:runK cb lo W fn (rs::ks) ρ μ₄=res):runK cb lo W fn ((.setIdx a b c::rs)::ks) ρ μ=res:=
  k_next (bS h1 (bS h2 (bS h3 (mS h4)))) k
theorem k_exp (h:ev tab cb lo a ρ μ=some (v,μ₁)) (hd:dropV v=true) (k:runK cb lo W fn (rs::ks) ρ μ₁=res):runK cb lo W fn ((.expr a::rs)::ks) ρ μ=res:=
  k_next (bS h (if_t hd rfl)) k
theorem k_ret (h:ev tab cb lo a ρ μ=some (v,μ₁)):runK cb lo W fn ((.ret a::rs)::ks) ρ μ=some (.ret v,ρ,μ₁):=by
  rw [k_cons];exact bS (mS h) rfl
theorem k_brk:runK cb lo W fn ((.brk::rs)::ks) ρ μ=some (.brk,ρ,μ):=k_cons
theorem k_ite (h:ev tab cb lo a ρ μ=some (.bool q,μ₁)) (k:runK cb lo W fn ((bif q then b₁ else b₂)::rs::ks) ρ μ₁=res):runK cb lo W fn ((.ite a b₁ b₂::rs)::ks) ρ μ=res:=by
  rw [← k,k_cons]
  rw [show ex tab cb lo W fn (.ite a b₁ b₂) ρ μ=(bif q then exs tab cb lo W fn b₁ ρ μ₁ else exs tab cb lo W fn b₂ ρ μ₁) from bS h rfl]
  cases q <;> rfl
theorem k_t (h:q=true) (k:runK cb lo W fn (b₁::ks) ρ μ=res):runK cb lo W fn ((bif q then b₁ else b₂)::ks) ρ μ=res:=by rw [h];exact k
theorem k_f (h:q=false) (k:runK cb lo W fn (b₂::ks) ρ μ=res):runK cb lo W fn ((bif q then b₁ else b₂)::ks) ρ μ=res:=by rw [h];exact k
theorem k_fn (h:q=false) (k:runK cb lo W fn ks ρ μ=res):runK cb lo W fn ((bif q then b₁ else [])::ks) ρ μ=res:=by rw [h];exact k
theorem run_ret (h:runK cb lo W fn [rs] ρ μ=some (.ret v,ρ₁,μ₁)):runB (exs tab cb lo W fn rs ρ μ)=some (v,μ₁):=by rw [k_exs h];rfl
theorem run_next (h:runK cb lo W fn [rs] ρ μ=some (.next,ρ₁,μ₁)):runB (exs tab cb lo W fn rs ρ μ)=some (.none,μ₁):=by rw [k_exs h];rfl
theorem run_e (h:ev tab cb lo a ρ μ=r):runB (exs tab cb lo W fn [.ret a] ρ μ)=r:=by
  rw [← h]
  show runB (((ev tab cb lo a ρ μ).map _).bind _)=_
  cases ev tab cb lo a ρ μ <;> rfl
theorem cm_in (h:inV μ x y=some q):cmpV μ .In x y=some q:=h
theorem cm_notIn (h:inV μ x y=some q):cmpV μ .NotIn x y=some (!q):=mS h
theorem cm_ne (h:eqV μ x y=some q):cmpV μ .NotEq x y=some (!q):=mS h
noncomputable def forB (cb:Calls) (lo W:Nat) (q:Str) (t:Tgt) (b:List S):V→Rho→M→Res:=fun x ρ μ=>(bindT ρ x t).bind fun ρ'=>exs tab cb lo W q b ρ' μ
variable {t:Tgt} {items:List V} {fl:Fl}
theorem k_for (h:ev tab cb lo a ρ μ=some (x,μ₁)) (hv:iterV lo μ₁ x=some items) (hl:forM (forB cb lo W fn t b₁) items ρ μ₁=some (.next,ρ₁,μ₂)) (k:runK cb lo W fn (rs::ks) ρ₁ μ₂=res):runK cb lo W fn ((.for t a b₁::rs)::ks) ρ μ=res:=
  k_next (bS h (bS hv hl)) k
theorem k_forR (h:ev tab cb lo a ρ μ=some (x,μ₁)) (hv:iterV lo μ₁ x=some items) (hl:forM (forB cb lo W fn t b₁) items ρ μ₁=some (.ret v,ρ₁,μ₂)):runK cb lo W fn ((.for t a b₁::rs)::ks) ρ μ=some (.ret v,ρ₁,μ₂):=by
  rw [k_cons];exact bS (bS h (bS hv hl)) rfl
theorem k_forE (h:ev tab cb lo a ρ μ=some (.tup items,μ₁)) (hl:forM (forB cb lo W fn t b₁) (enumFrom 0 items) ρ μ₁=some (.next,ρ₁,μ₂)) (k:runK cb lo W fn (rs::ks) ρ₁ μ₂=res):runK cb lo W fn ((.forE t a b₁::rs)::ks) ρ μ=res:=
  k_next (bS h hl) k
theorem k_while (hl:whileM (fun ρ μ=>asBool (ev tab cb lo a ρ μ)) (fun ρ μ=>exs tab cb lo W fn b₁ ρ μ) W ρ μ=some (.next,ρ₁,μ₁)) (k:runK cb lo W fn (rs::ks) ρ₁ μ₁=res):runK cb lo W fn ((.while a b₁::rs)::ks) ρ μ=res:=k_next hl k
theorem f_next {f:V→Rho→M→Res} {xs:List V} (h:f x ρ μ=some (.next,ρ₁,μ₁)) (k:forM f xs ρ₁ μ₁=res):forM f (x::xs) ρ μ=res:=bS h k
theorem f_ret {f:V→Rho→M→Res} {xs:List V} (h:f x ρ μ=some (.ret v,ρ₁,μ₁)):forM f (x::xs) ρ μ=some (.ret v,ρ₁,μ₁):=bS h rfl
theorem forB_k (hb:bindT ρ x t=some ρ₁) (h:runK cb lo W fn [b₁] ρ₁ μ=res):forB cb lo W fn t b₁ x ρ μ=res:=bS hb (k_exs h)
end
theorem flatM_pure {α:Type} {enc:α→V} {f:V→M→Option (List V×M)} {g:α→List V} {μ:M} {l:List α} (h:∀ a ∈ l,f (enc a) μ=some (g a,μ)):flatM f (l.map enc) μ=some (l.flatMap g,μ):=by
  induction l with
  | nil=>rfl
  | cons a l ih=>exact bS (h a (.head _)) (mS (ih fun b hb=>h b (.tail _ hb)))
theorem flat_if {α:Type} {k:α→Bool} {g:α→V} {l:List α}:l.flatMap (fun a=>if k a=true then [g a] else [])=(l.filter k).map g:=by
  induction l with
  | nil=>rfl
  | cons a l ih=>
    rw [List.flatMap_cons,List.filter_cons,ih]
    split <;> rfl
theorem flatM_if {α:Type} {cb:Calls} {lo:Nat} {elt:C} {t:Tgt} {ifs:List C} {ρ:Rho} {μ:M} {l:List α} {enc:α→V} {k:α→Bool} {g:α→V} (hx:∀ a ∈ l,∃ ρ',bindT ρ (enc a) t=some ρ'∧evAnd tab cb lo ifs ρ' μ=some (k a,μ)∧(k a=true→ev tab cb lo elt ρ' μ=some (g a,μ))) :
    flatM (fun x μ'=>(bindT ρ x t).bind fun ρ'=>(evAnd tab cb lo ifs ρ' μ').bind fun c=>bif c.1 then (ev tab cb lo elt ρ' c.2).map fun p=>([p.1],p.2) else some ([],c.2)) (l.map enc) μ=some ((l.filter k).map g,μ):=by
  refine (flatM_pure (g:=fun a=>if k a=true then [g a] else []) fun a ha=>?_).trans (congrArg (fun vs=>some (vs,μ)) flat_if)
  obtain ⟨ρ',h1,h2,h3⟩:=hx a ha
  refine bS h1 (bS h2 ?_)
  cases hk:k a with
  | true=>exact mS (h3 hk)
  | false=>rfl
theorem ev_comp {α:Type} {cb:Calls} {lo:Nat} {hs:List Str} {elt it:C} {t:Tgt} {ifs:List C} {ρ:Rho} {μ:M} {vi:V} {l:List α} {enc:α→V} {k:α→Bool} {g:α→V} (hi:ev tab cb lo it ρ μ=some (vi,μ)) (hv:iterV lo μ vi=some (l.map enc))
    (hx:∀ a ∈ l,∃ ρ',bindT (hideR hs ρ) (enc a) t=some ρ'∧evAnd tab cb lo ifs ρ' μ=some (k a,μ)∧(k a=true→ev tab cb lo elt ρ' μ=some (g a,μ))):ev tab cb lo (.comp hs elt t it ifs) ρ μ=some (.lst ((l.filter k).map g),μ):=bS hi (bS hv (mS (flatM_if hx)))
theorem place0 {n:Nat}:placeOf 0 (n + 1)=some 0:=if_pos ⟨Int.le_refl 0,Int.ofNat_lt.mpr (Nat.succ_pos n)⟩
theorem idx0 {μ:M} {v:V} {vs:List V}:idxV μ (.tup (v::vs)) (.int 0)=some v:=bS (place0 (n:=vs.length)) rfl
theorem least_ {W n lo:Nat} {p:Int×Int} {d:Dom} {μ:M}:callF tab W (n + 1) "least" false lo [encD (p::d)] μ=some (.int p.1,μ):=call_pure f_least rfl (run_e (e_idx (e_idxF idx0 rfl rfl) rfl rfl)) rfl
end Mine
namespace Mine
open PySem
theorem upd_self {ρ:Rho} {x:Str} {v:V} (h:ρ x=some v):ρ=upd ρ x v:=funext fun y=>by
  unfold upd
  split
  · rename_i e;rw [e];exact h
  · rfl
noncomputable def nextD:Dom→Int→Option Int
  | [],_=>none
  | p::r,v=>if v≤p.2 then some (max p.1 v) else nextD r v
noncomputable def optI:Option Int→V
  | none=>.none
  | some i=>.int i
theorem max_is (a b:Int):(if b > a then b else a)=max a b:=by rw [Int.max_def];split <;> split <;> lia
theorem min_is (a b:Int):(if b<a then b else a)=min a b:=by rw [Int.min_def];split <;> split <;> lia
theorem bi_max {μ:M} {a b:Int}:biV μ "max" [.int a,.int b]=some (.int (max a b)):=congrArg (fun i=>some (V.int i)) (max_is a b)
theorem bi_min {μ:M} {a b:Int}:biV μ "min" [.int a,.int b]=some (.int (min a b)):=congrArg (fun i=>some (V.int i)) (min_is a b)
noncomputable def flI:Option Int→Fl
  | none=>.next
  | some i=>.ret (.int i)
theorem next_loop {cb:Calls} {lo W:Nat} {q:Str} {v:Int} {μ:M} {d:Dom}:∀ {ρ:Rho},ρ "v" = some (.int v)→∃ ρ',forM (forB cb lo W q (.many ["low", "high"]) b_next_from_1) (d.map encP) ρ μ=some (flI (nextD d v),ρ',μ):=by
  induction d with
  | nil=>exact fun _=>⟨_,rfl⟩
  | cons p d ih=>
    intro ρ hv
    rw [upd_self hv,nextD]
    split
    · rename_i h
      exact ⟨_,f_ret (forB_k rfl (k_ite rfl (k_t (decide_eq_true h) (k_ret (e_bi d_max c_max bi_max rfl)))))⟩
    · rename_i h
      obtain ⟨ρ',h1⟩:=ih (ρ:=upd (upd (upd ρ "v" (.int v)) "low" (.int p.1)) "high" (.int p.2)) rfl
      exact ⟨ρ',f_next (forB_k rfl (k_ite rfl (k_f (decide_eq_false h) rfl))) h1⟩
theorem next_ {W n lo:Nat} {d:Dom} {v:Int} {μ:M}:callF tab W (n + 1) "next_from" false lo [encD d,.int v] μ=some (optI (nextD d v),μ):=by
  obtain ⟨ρ',h⟩:=next_loop (cb:=callF tab W n) (lo:=μ.length) (W:=W) (q := "next_from") (μ:=μ) (d:=d) (ρ:=params0 ["d", "v"] [encD d,.int v]) rfl
  revert h
  cases e:nextD d v with
  | none=>exact fun h=>call_pure f_next_from rfl (run_ret (k_for rfl rfl h (k_ret rfl))) rfl
  | some i=>exact fun h=>call_pure f_next_from rfl (run_ret (k_forR rfl rfl h)) rfl
noncomputable def hasD (d:Dom) (v:Int):Bool:=nextD d v == some v
theorem eq_opt {μ:M} {o:Option Int} {v:Int}:eqV μ (optI o) (.int v)=some (o == some v):=by cases o <;> rfl
theorem has_ {W n lo:Nat} {d:Dom} {v:Int} {μ:M}:callF tab W (n + 2) "has" false lo [encD d,.int v] μ=some (.bool (hasD d v),μ):=
  call_pure f_has rfl (run_e (e_cmpF eq_opt (e_call d_next_from next_ rfl) rfl)) rfl
end Mine
namespace Mine
open PySem
structure Cod (α:Type) where
  enc:α→V
  pd:α→PyData
  depth:Nat
  ok:∀ (μ:M) (n:Nat) (a:α),depth≤n→pdV μ n (enc a)=some (pd a)
  eqv:∀ a b,PyData.eqv (pd a) (pd b)=true↔a=b
noncomputable def cInt:Cod Int:=⟨.int,.int,0,fun μ n a _=>by cases n <;> rfl,fun a b=>decide_eq_true_iff⟩
section
variable {α β:Type} (C:Cod α) (D:Cod β) {μ:M} {n:Nat}
theorem pdL_ok (h:C.depth≤n) (l:List α):pdL (pdV μ n) (l.map C.enc)=some (l.map C.pd):=by
  induction l with
  | nil=>rfl
  | cons a l ih=>exact bS (C.ok μ n a h) (mS ih)
theorem eqvAll_cons {x y:PyData} {xs ys:List PyData}:PyData.eqvAll (x::xs) (y::ys)=(PyData.eqv x y && PyData.eqvAll xs ys):=rfl
theorem eqvAll_ok:∀ (l l':List α),PyData.eqvAll (l.map C.pd) (l'.map C.pd)=true↔l=l'
  | [],[]=>⟨fun _=>rfl,fun _=>rfl⟩
  | [],_::_=>⟨fun h=>(nomatch h),fun h=>(nomatch h)⟩
  | _::_,[]=>⟨fun h=>(nomatch h),fun h=>(nomatch h)⟩
  | a::l,b::l'=>by rw [List.map_cons,List.map_cons,eqvAll_cons,Bool.and_eq_true,C.eqv,eqvAll_ok l l',List.cons.injEq]
theorem deep {d:Nat} {x:V} {vs:List V} {r:PyData} {P:Nat→Prop} (h:d + 1≤n) (k:∀ m,d≤m→P (m + 1)):P n:=by
  cases n with
  | zero=>exact absurd h (Nat.not_succ_le_zero d)
  | succ m=>exact k m (Nat.le_of_succ_le_succ h)
end
noncomputable def cTup {α:Type} (C:Cod α):Cod (List α):=⟨fun l=>.tup (l.map C.enc),fun l=>.tuple (l.map C.pd),C.depth + 1,fun μ n l h=>deep (x:=.none) (vs:=[]) (r:=.none) (P:=fun n=>pdV μ n (.tup (l.map C.enc))=some (.tuple (l.map C.pd))) h fun m h=>mS (pdL_ok C h l),eqvAll_ok C⟩
noncomputable def cLst {α:Type} (C:Cod α):Cod (List α):=⟨fun l=>.lst (l.map C.enc),fun l=>.list (l.map C.pd),C.depth + 1,fun μ n l h=>deep (x:=.none) (vs:=[]) (r:=.none) (P:=fun n=>pdV μ n (.lst (l.map C.enc))=some (.list (l.map C.pd))) h fun m h=>mS (pdL_ok C h l),eqvAll_ok C⟩
noncomputable def cPair {α β:Type} (C:Cod α) (D:Cod β):Cod (α×β):=⟨fun p=>.tup [C.enc p.1,D.enc p.2],fun p=>.tuple [C.pd p.1,D.pd p.2],max C.depth D.depth + 1,fun μ n p h=>deep (x:=.none) (vs:=[]) (r:=.none) (P:=fun n=>pdV μ n (.tup [C.enc p.1,D.enc p.2])=some (.tuple [C.pd p.1,D.pd p.2])) h fun m h=>
    mS (bS (C.ok μ m _ (Nat.le_trans (Nat.le_max_left ..) h)) (mS (bS (D.ok μ m _ (Nat.le_trans (Nat.le_max_right ..) h)) rfl))),fun a b=>by
    show (PyData.eqv (C.pd a.1) (C.pd b.1) && (PyData.eqv (D.pd a.2) (D.pd b.2) && true))=true↔_
    rw [Bool.and_true,Bool.and_eq_true,C.eqv,D.eqv,Prod.ext_iff]⟩
inductive Sg | le | ge | eq | ne
  deriving DecidableEq
noncomputable def Sg.s:Sg→Str
  | .le => "<=" | .ge => ">=" | .eq => "=" | .ne => "!="
noncomputable def cSg:Cod Sg:=⟨fun s=>.str s.s,fun s=>.str s.s,0,fun μ n s _=>by cases n <;> cases s <;> kernel_rfl,fun a b=>by cases a <;> cases b <;> decide +kernel⟩
theorem eqV_is {α:Type} [DecidableEq α] (C:Cod α) (h:C.depth≤8) {μ:M} {a b:α}:eqV μ (C.enc a) (C.enc b)=some (decide (a=b)):=
  bS (C.ok μ eqDeep a h) ((mS (C.ok μ eqDeep b h)).trans (congrArg some (by
    by_cases e:a=b
    · rw [decide_eq_true e,(C.eqv a b).mpr e]
    · rw [decide_eq_false e];exact eq_false_of_ne_true fun h=>e ((C.eqv a b).mp h))))
noncomputable abbrev cP:Cod (Int×Int):=cPair cInt cInt
noncomputable abbrev cD:Cod Dom:=cTup cP
theorem encD_c (d:Dom):encD d=cD.enc d:=rfl
theorem eqD {μ:M} {d e:Dom}:eqV μ (encD d) (encD e)=some (decide (d=e)):=eqV_is cD (by decide)
theorem eqD0 {μ:M} {d:Dom}:eqV μ (encD d) (.tup [])=some (decide (d=[])):=eqD (e:=[])
noncomputable def sizeD (d:Dom):Int:=(d.map fun p=>p.2 - p.1 + 1).sum
theorem intsOf_is {α:Type} {f:α→Int} {l:List α}:intsOf (l.map fun a=>V.int (f a))=some (l.map f):=by
  induction l with
  | nil=>rfl
  | cons a l ih=>exact mS ih
theorem iter_D {lo:Nat} {μ:M} {d:Dom}:iterV lo μ (encD d)=some (d.map encP):=rfl
theorem all_true {α:Type} (l:List α):l.filter (fun _=>true)=l:=List.filter_eq_self.mpr fun _ _=>rfl
theorem bi_sum {α:Type} {f:α→Int} {l:List α} {μ:M}:biV μ "sum" [.lst ((l.filter fun _=>true).map fun a=>V.int (f a))]=some (.int (l.map f).sum):=by rw [all_true];exact mS intsOf_is
noncomputable def upD (d:Dom) (k:Int):Dom:=(d.filter fun p=>decide (p.1≤k)).map fun p=>(p.1,min p.2 k)
noncomputable def fromD (d:Dom) (k:Int):Dom:=(d.filter fun p=>decide (p.2 ≥ k)).map fun p=>(max p.1 k,p.2)
theorem bi_tupM {α β:Type} {f:β→V} {g:α→β} {l:List α} {μ:M}:biV μ "tuple" [.lst (l.map fun a=>f (g a))]=some (.tup ((l.map g).map f)):=congrArg (fun l=>some (V.tup l)) List.map_map.symm
theorem a_one {cb:Calls} {lo:Nat} {ρ:Rho} {μ μ₁:M} {c:C} {q:Bool} (h:ev tab cb lo c ρ μ=some (.bool q,μ₁)):evAnd tab cb lo [c] ρ μ=some (q,μ₁):=bS h (by cases q <;> rfl)
section
variable {W n lo:Nat} {d:Dom} {k v:Int} {μ:M}
theorem size_:callF tab W (n + 1) "size" false lo [encD d] μ=some (.int (sizeD d),μ):=
  call_pure f_size rfl (run_e (e_bi d_sum c_sum bi_sum (l_one (ev_comp (l:=d) (enc:=encP) (k:=fun _=>true) (g:=fun p=>.int (p.2 - p.1 + 1)) (vi:=encD d) rfl rfl fun p _=>⟨_,rfl,rfl,fun _=>rfl⟩)))) rfl
theorem up_:callF tab W (n + 1) "up_to" false lo [encD d,.int k] μ=some (encD (upD d k),μ):=
  call_pure f_up_to rfl (run_e (e_bi d_tuple c_tuple bi_tupM (l_one (ev_comp (l:=d) (enc:=encP) (k:=fun p=>decide (p.1≤k)) (g:=fun p=>encP (p.1,min p.2 k)) (vi:=encD d) rfl rfl fun p _=>⟨_,rfl,a_one rfl,fun _=>e_tup (l_cons rfl (l_one (e_bi d_min c_min bi_min rfl)))⟩)))) frz_D
theorem from_:callF tab W (n + 1) "from_on" false lo [encD d,.int k] μ=some (encD (fromD d k),μ):=
  call_pure f_from_on rfl (run_e (e_bi d_tuple c_tuple bi_tupM (l_one (ev_comp (l:=d) (enc:=encP) (k:=fun p=>decide (p.2 ≥ k)) (g:=fun p=>encP (max p.1 k,p.2)) (vi:=encD d) rfl rfl fun p _=>⟨_,rfl,a_one rfl,fun _=>e_tup (l_cons (e_bi d_max c_max bi_max rfl) rfl)⟩)))) frz_D
noncomputable def woD (d:Dom) (v:Int):Dom:=upD d (v - 1)++fromD d (v + 1)
theorem upD_len:(upD d k).length≤d.length:=Nat.le_trans (Nat.le_of_eq (List.length_map _)) (List.length_filter_le ..)
theorem fromD_len:(fromD d k).length≤d.length:=Nat.le_trans (Nat.le_of_eq (List.length_map _)) (List.length_filter_le ..)
theorem addT {xs ys:List V} (h:xs.length + ys.length≤sizeLim):binV μ .Add (.tup xs) (.tup ys)=some (.tup (xs++ys)):=if_pos h
theorem without_ (h:d.length≤1000):callF tab W (n + 2) "without" false lo [encD d,.int v] μ=some (encD (woD d v),μ):=
  call_pure f_without rfl (run_e (e_binF ((addT (by rw [List.length_map,List.length_map];exact Nat.le_trans (Nat.add_le_add (Nat.le_trans upD_len h) (Nat.le_trans fromD_len h)) (by decide))).trans (congrArg (fun l=>some (V.tup l)) List.map_append.symm)) (e_call d_up_to up_ rfl) (e_call d_from_on from_ rfl))) frz_D
noncomputable def meetK (d:Dom) (k:Int):Dom:=if hasD d k then [(k,k)] else []
theorem place_nat {i n:Nat} (h:i<n):placeOf i n=some i:=if_pos ⟨Int.natCast_nonneg i,Int.ofNat_lt.mpr h⟩
theorem getP {i:Nat} (h:i<d.length):idxV μ (encD d) (.int i)=some (encP d[i]):=bS (place_nat (n:=(d.map encP).length) (by rw [List.length_map];exact h)) (by rw [List.getElem?_map,List.getElem?_eq_getElem h];rfl)
end
section
variable {cb:Calls} {lo W:Nat} {q:Str} {res:Res} {a b:C} {x v:V} {ρ ρ₁:Rho} {μ μ₁ μ₂:M} {c:Bool} {t:Rho→M→Option (Bool×M)} {f:Rho→M→Res} {n i:Nat} {us vs:List V}
theorem set_last {m m':MObj}:(μ++[m]).set μ.length m'=μ++[m']:=by
  rw [List.set_append_right _ _ (Nat.le_refl _),Nat.sub_self];rfl
theorem get_last {m:MObj}:(μ++[m])[μ.length]?=some m:=List.getElem?_concat_length
theorem w_next (h1:t ρ μ=some (true,μ₁)) (h2:f ρ μ₁=some (.next,ρ₁,μ₂)) (k:whileM t f n ρ₁ μ₂=res):whileM t f (n + 1) ρ μ=res:=bS h1 (bS h2 k)
theorem w_ret (h1:t ρ μ=some (true,μ₁)) (h2:f ρ μ₁=some (.ret v,ρ₁,μ₂)):whileM t f (n + 1) ρ μ=some (.ret v,ρ₁,μ₂):=bS h1 (bS h2 rfl)
theorem w_done (h1:t ρ μ=some (false,μ₁)):whileM t f (n + 1) ρ μ=some (.next,ρ,μ₁):=bS h1 rfl
theorem asB (h:ev tab cb lo a ρ μ=some (.bool c,μ₁)):asBool (ev tab cb lo a ρ μ)=some (c,μ₁):=bS h rfl
theorem find_list (h:μ[i]?=some (.list us)) {m:Str} (hm:m = "append" ∨ m = "extend" ∨ m = "pop"):methFind tab (.obj i) m μ=some none:=bS (o:=objOf (.obj i)) rfl (bS h (if_pos hm))
theorem app_list (hl:lo≤i) (h:μ[i]?=some (.list us)) (hs:us.length<sizeLim):listMeth lo (.obj i) "append" [v] μ=some (.none,μ.set i (.list (us++[v]))):=bS (o:=objOf (.obj i)) rfl (bS h ((if_neg (Nat.not_lt.mpr hl)).trans (if_pos hs)))
theorem e_append (h1:ev tab cb lo a ρ μ=some (.obj i,μ)) (hm:μ[i]?=some (.list vs)) (h2:ev tab cb lo b ρ μ=some (v,μ)) (hl:lo≤i) (hs:vs.length<sizeLim):ev tab cb lo (.meth a "append" [b]) ρ μ=some (.none,μ.set i (.list (vs++[v]))):=
  e_meth h1 (find_list hm (.inl rfl)) (app_list hl hm hs) (l_one h2)
end
theorem bi_tupO {μ:M} {i:Nat} {vs:List V} (h:μ[i]?=some (.list vs)):biV μ "tuple" [.obj i]=some (.tup vs):=show (listV μ (.obj i)).map V.tup=_ from mS (bS h rfl)
theorem nextD_drop {d:Dom} {k:Int} (h:∀ p ∈ d,p.2<k):nextD d k=none:=by
  induction d with
  | nil=>rfl
  | cons p d ih=>rw [nextD,if_neg (Int.not_le.mpr (h p (.head _))),ih fun q hq=>h q (.tail _ hq)]
theorem five {ρ:Rho} {a b c d e:Str} {u v w x y:V} (h1:ρ a=some u) (h2:ρ b=some v) (h3:ρ c=some w) (h4:ρ d=some x) (h5:ρ e=some y):ρ=upd (upd (upd (upd (upd ρ a u) b v) c w) d x) e y:=by
  rw [← upd_self h1,← upd_self h2,← upd_self h3,← upd_self h4,← upd_self h5]
noncomputable abbrev meetR (ρ:Rho) (d:Dom) (k:Int) (n i:Nat):Rho:=upd (upd (upd (upd (upd ρ "d" (encD d)) "e" (encD [(k,k)])) "found" (.obj n)) "i" (.int i)) "j" (.int (0:Nat))
noncomputable abbrev meetC:C:=.and [(.cmp .Lt (.var "i") (.call "len" false [(.var "d")])),(.cmp .Lt (.var "j") (.call "len" false [(.var "e")]))]
theorem meet_loop {cb:Calls} {W:Nat} {k:Int} {d:Dom} {μ:M}:∀ (m i w:Nat) (ρ:Rho),d.length=i + m→m + 1<w→ρ "d" = some (encD d)→ρ "e" = some (encD [(k,k)])→ρ "found" = some (.obj μ.length)→ρ "i" = some (.int i)→ρ "j" = some (.int (0:Nat))→
      ∃ ρ',whileM (fun ρ μ'=>asBool (ev tab cb μ.length meetC ρ μ')) (fun ρ μ'=>exs tab cb μ.length W "meet" b_meet_1 ρ μ') w ρ (μ++[.list []])=some (.next,ρ',μ++[.list ((if nextD (d.drop i) k=some k then [(k,k)] else []).map encP)])∧ρ' "found" = some (.obj μ.length):=by
  intro m
  induction m with
  | zero=>
    intro i w ρ hm hw h1 h2 h3 h4 h5
    rw [five h1 h2 h3 h4 h5]
    cases w with
    | zero=>cases hw
    | succ w=>
      rw [List.drop_of_length_le (show d.length≤i from Nat.le_of_eq hm)]
      exact ⟨_,w_done (asB (e_and (a_cons (e_cmp rfl (e_bi d_len c_len (vs:=[encD _]) rfl rfl) rfl) (if_f (decide_eq_false (by rw [List.length_map];lia)) rfl)))),rfl⟩
  | succ m ih=>
    intro i w ρ hm hw h1 h2 h3 h4 h5
    rw [five h1 h2 h3 h4 h5]
    cases w with
    | zero=>cases hw
    | succ w=>
      have hi:i<d.length:=by lia
      have ht:∀ {ρ:Rho},ρ "d" = some (encD d)→ρ "e" = some (encD [(k,k)])→ρ "i" = some (.int i)→∀ {j:Nat},ρ "j" = some (.int j)→∀ {μ'} {b:Bool},decide ((j:Int)<1)=b→asBool (ev tab cb μ.length meetC ρ μ')=some (b,μ'):=fun h1 h2 h4 _ h5 _ _ hb=>by
        subst hb
        exact asB (e_and (a_cons (e_cmp (e_var h4) (e_bi d_len c_len (vs:=[encD _]) rfl (l_one (e_var h1))) rfl) (if_t (decide_eq_true (by rw [List.length_map];exact Int.ofNat_lt.mpr hi)) (a_one (e_cmp (e_var h5) (e_bi d_len c_len (vs:=[encD _]) rfl (l_one (e_var h2))) rfl)))))
      rw [List.drop_eq_getElem_cons hi,nextD]
      generalize hp:d[i]=p
      have hg:∀ μ,idxV μ (encD d) (.int i)=some (encP p):=fun μ=>by rw [getP hi,hp]
      have hb:∀ {ρ:Rho} {μ':M} {r:Res} {l h:Int},max p.1 k=l→min p.2 k=h→ρ "d" = some (encD d)→ρ "e" = some (encD [(k,k)])→ρ "i" = some (.int i)→ρ "j" = some (.int (0:Nat))→runK cb μ.length W "meet" [[.ite (.cmp .LtE (.var "low") (.var "high")) [.expr (.meth (.var "found") "append" [(.tup [(.var "low"),(.var "high")])])] [],.ite (.cmp .Lt (.idx (.idx (.var "d") (.var "i")) (.const (.int 1))) (.idx (.idx (.var "e") (.var "j")) (.const (.int 1)))) [.assign (.one "i") (.bin .Add (.var "i") (.const (.int 1)))] [.assign (.one "j") (.bin .Add (.var "j") (.const (.int 1)))]]] (upd (upd ρ "low" (.int l)) "high" (.int h)) μ'=r→exs tab cb μ.length W "meet" b_meet_1 ρ μ'=r:=fun hl hh h1 h2 h4 h5 h=>by
        subst hl hh
        exact k_exs (k_two (e_tup (l_cons (e_bi d_max c_max bi_max (l_cons (e_idx (e_idxF (hg _) (e_var h1) (e_var h4)) rfl rfl) (l_one (e_idx (e_idx (e_var h2) (e_var h5) rfl) rfl rfl)))) (l_one (e_bi d_min c_min bi_min (l_cons (e_idx (e_idxF (hg _) (e_var h1) (e_var h4)) rfl rfl) (l_one (e_idx (e_idx (e_var h2) (e_var h5) rfl) rfl rfl))))))) h)
      split
      · rename_i hk
        cases w with
        | zero=>exact absurd hw (by lia)
        | succ w=>
          by_cases hl:p.1≤k
          · rw [show max p.1 k=k from Int.max_eq_right hl,if_pos rfl,← set_last (m:=.list []) (m':=.list ([(k,k)].map encP))]
            exact ⟨_,w_next (ht rfl rfl rfl rfl rfl) (hb (Int.max_eq_right hl) (Int.min_eq_right hk) rfl rfl rfl rfl (k_ite rfl (k_t (decide_eq_true (Int.le_refl k)) (k_exp (e_append rfl get_last rfl (Nat.le_refl _) (by decide)) rfl (k_nil (k_ite (e_cmp (e_idx (e_idxF (hg _) rfl rfl) rfl rfl) rfl rfl) (k_f (decide_eq_false (Int.not_lt.mpr hk)) (k_one rfl rfl)))))))) (w_done (ht rfl rfl rfl (j:=1) rfl rfl)),rfl⟩
          · have hl:=Int.not_le.mp hl
            rw [show max p.1 k=p.1 from Int.max_eq_left (Int.le_of_lt hl),if_neg (fun e=>Int.ne_of_gt hl (Option.some.inj e))]
            exact ⟨_,w_next (ht rfl rfl rfl rfl rfl) (hb (Int.max_eq_left (Int.le_of_lt hl)) (Int.min_eq_right hk) rfl rfl rfl rfl (k_ite rfl (k_f (decide_eq_false (Int.not_le.mpr hl)) (k_nil (k_ite (e_cmp (e_idx (e_idxF (hg _) rfl rfl) rfl rfl) rfl rfl) (k_f (decide_eq_false (Int.not_lt.mpr hk)) (k_one rfl rfl))))))) (w_done (ht rfl rfl rfl (j:=1) rfl rfl)),rfl⟩
      · rename_i hk
        have hk:=Int.not_le.mp hk
        obtain ⟨ρ',q1,q2⟩:=ih (i + 1) w (upd (upd (upd (meetR ρ d k μ.length i) "low" (.int (max p.1 k))) "high" (.int p.2)) "i" (.int (i + 1:Nat))) (by lia) (by lia) rfl rfl rfl rfl rfl
        exact ⟨ρ',w_next (ht rfl rfl rfl rfl rfl) (hb rfl (Int.min_eq_left (Int.le_of_lt hk)) rfl rfl rfl rfl (k_ite rfl (k_f (decide_eq_false (by lia)) (k_nil (k_ite (e_cmp (e_idx (e_idxF (hg _) rfl rfl) rfl rfl) rfl rfl) (k_t (decide_eq_true hk) (k_one rfl rfl))))))) q1,q2⟩
theorem meet_ {W n lo:Nat} {d:Dom} {k:Int} {μ:M} (hW:d.length + 1<W):callF tab W (n + 1) "meet" false lo [encD d,encD [(k,k)]] μ=some (encD (meetK d k),μ):=by
  obtain ⟨ρ',q1,q2⟩:=meet_loop (cb:=callF tab W n) (W:=W) (k:=k) (d:=d) (μ:=μ) d.length 0 W (upd (upd (upd (params0 ["d", "e"] [encD d,encD [(k,k)]]) "found" (.obj μ.length)) "i" (.int 0)) "j" (.int 0)) (Nat.zero_add _).symm hW rfl rfl rfl rfl rfl
  have hm:meetK d k=if nextD (d.drop 0) k=some k then [(k,k)] else []:=by simp only [meetK,hasD,beq_iff_eq,List.drop_zero]
  rw [hm]
  exact call_pure f_meet rfl (run_ret (k_three (x:=.obj μ.length) (y:=.int 0) (z:=.int 0) (μ₁:=μ++[MObj.list []]) rfl (k_while q1 (k_ret (e_bi d_tuple c_tuple (bi_tupO get_last) (l_one (e_var q2))))))) frz_D
end Mine
namespace Mine
open PySem
structure Lit where
  x:Int
  s:Sg
  k:Int
  deriving DecidableEq
noncomputable def encL (l:Lit):V:=.tup [.int l.x,.str l.s.s,.int l.k]
noncomputable def cL:Cod Lit:=⟨encL,fun l=>.tuple [.int l.x,.str l.s.s,.int l.k],1,fun μ n l h=>deep (x:=.none) (vs:=[]) (r:=.none) (P:=fun n=>pdV μ n (encL l)=some (.tuple [.int l.x,.str l.s.s,.int l.k])) h fun m h=>
    mS (bS (cInt.ok μ m l.x h) (mS (bS (cSg.ok μ m l.s h) (mS (bS (cInt.ok μ m l.k h) rfl))))),fun a b=>by
  show (PyData.eqv (cInt.pd a.x) (cInt.pd b.x) && (PyData.eqv (cSg.pd a.s) (cSg.pd b.s) && (PyData.eqv (cInt.pd a.k) (cInt.pd b.k) && true)))=true↔_
  rw [Bool.and_true,Bool.and_eq_true,Bool.and_eq_true,cInt.eqv,cInt.eqv,cSg.eqv]
  refine ⟨fun h=>?_,fun h=>h ▸ ⟨rfl,rfl,rfl⟩⟩
  cases a;cases b
  obtain ⟨h1,h2,h3⟩:=h
  dsimp only at h1 h2 h3
  rw [h1,h2,h3]⟩
section
variable {W n lo:Nat} {d:Dom} {k v:Int} {μ:M} {l:Lit} {a b:Sg}
theorem eqS:eqV μ (.str a.s) (.str b.s)=some (decide (a=b)):=eqV_is cSg (by decide)
theorem eqS_le:eqV μ (.str a.s) (.str "<=")=some (decide (a=.le)):=eqS (b:=.le)
theorem eqS_ge:eqV μ (.str a.s) (.str ">=")=some (decide (a=.ge)):=eqS (b:=.ge)
theorem eqS_eq:eqV μ (.str a.s) (.str "=")=some (decide (a=.eq)):=eqS (b:=.eq)
theorem eqS_ne:eqV μ (.str a.s) (.str "!=")=some (decide (a=.ne)):=eqS (b:=.ne)
noncomputable def negL (l:Lit):Lit:=match l.s with
  | .le=>⟨l.x,.ge,l.k + 1⟩
  | .ge=>⟨l.x,.le,l.k - 1⟩
  | .eq=>⟨l.x,.ne,l.k⟩
  | .ne=>⟨l.x,.eq,l.k⟩
theorem frz_L {f:Nat}:frz lo μ (f + 2) (encL l)=some (encL l):=rfl
theorem negation_:callF tab W (n + 1) "negation" false lo [encL l] μ=some (encL (negL l),μ):=by
  obtain ⟨x,s,k⟩:=l
  cases s with
  | le=>exact call_pure (v:=encL (negL _)) f_negation rfl (run_ret (k_three (μ₁:=μ) rfl (k_ite (e_cmpF (eqS_le (a:=.le)) rfl rfl) (k_t rfl (k_ret rfl))))) frz_L
  | ge=>exact call_pure (v:=encL (negL _)) f_negation rfl (run_ret (k_three (μ₁:=μ) rfl (k_ite (e_cmpF (eqS_le (a:=.ge)) rfl rfl) (k_f rfl (k_nil (k_ite (e_cmpF (eqS_ge (a:=.ge)) rfl rfl) (k_t rfl (k_ret rfl)))))))) frz_L
  | eq=>exact call_pure (v:=encL (negL _)) f_negation rfl (run_ret (k_three (μ₁:=μ) rfl (k_ite (e_cmpF (eqS_le (a:=.eq)) rfl rfl) (k_f rfl (k_nil (k_ite (e_cmpF (eqS_ge (a:=.eq)) rfl rfl) (k_f rfl (k_nil (k_ret (e_ite (e_cmpF (eqS_eq (a:=.eq)) rfl rfl) (if_t rfl rfl))))))))))) frz_L
  | ne=>exact call_pure (v:=encL (negL _)) f_negation rfl (run_ret (k_three (μ₁:=μ) rfl (k_ite (e_cmpF (eqS_le (a:=.ne)) rfl rfl) (k_f rfl (k_nil (k_ite (e_cmpF (eqS_ge (a:=.ne)) rfl rfl) (k_f rfl (k_nil (k_ret (e_ite (e_cmpF (eqS_eq (a:=.ne)) rfl rfl) (if_f rfl rfl))))))))))) frz_L
noncomputable def struckD (l:Lit) (d:Dom):Dom:=match l.s with
  | .le=>upD d l.k
  | .ge=>fromD d l.k
  | .eq=>meetK d l.k
  | .ne=>woD d l.k
theorem struck_ (h:d.length≤1000) (hW:1001<W):callF tab W (n + 3) "struck" false lo [encL l,encD d] μ=some (encD (struckD l d),μ):=by
  obtain ⟨x,s,k⟩:=l
  cases s with
  | le=>exact call_pure f_struck rfl (run_ret (k_two (μ₁:=μ) (x:=.str _) (y:=.int k) rfl (k_ite (e_cmpF (eqS_le (a:=.le)) rfl rfl) (k_t rfl (k_ret (e_call d_up_to up_ rfl)))))) frz_D
  | ge=>exact call_pure f_struck rfl (run_ret (k_two (μ₁:=μ) (x:=.str _) (y:=.int k) rfl (k_ite (e_cmpF (eqS_le (a:=.ge)) rfl rfl) (k_f rfl (k_nil (k_ite (e_cmpF (eqS_ge (a:=.ge)) rfl rfl) (k_t rfl (k_ret (e_call d_from_on from_ rfl))))))))) frz_D
  | eq=>exact call_pure f_struck rfl (run_ret (k_two (μ₁:=μ) (x:=.str _) (y:=.int k) rfl (k_ite (e_cmpF (eqS_le (a:=.eq)) rfl rfl) (k_f rfl (k_nil (k_ite (e_cmpF (eqS_ge (a:=.eq)) rfl rfl) (k_f rfl (k_nil (k_ret (e_ite (e_cmpF (eqS_eq (a:=.eq)) rfl rfl) (if_t rfl (e_call d_meet (meet_ (Nat.lt_of_le_of_lt (Nat.succ_le_succ h) hW)) rfl)))))))))))) frz_D
  | ne=>exact call_pure f_struck rfl (run_ret (k_two (μ₁:=μ) (x:=.str _) (y:=.int k) rfl (k_ite (e_cmpF (eqS_le (a:=.ne)) rfl rfl) (k_f rfl (k_nil (k_ite (e_cmpF (eqS_ge (a:=.ne)) rfl rfl) (k_f rfl (k_nil (k_ret (e_ite (e_cmpF (eqS_eq (a:=.ne)) rfl rfl) (if_f rfl (e_call d_without (without_ h) rfl)))))))))))) frz_D
noncomputable def intsI (lo:Int):Nat→List Int
  | 0=>[]
  | n + 1=>lo::intsI (lo + 1) n
theorem intsFrom_is:∀ (n:Nat) (lo:Int),intsFrom lo n=(intsI lo n).map .int
  | 0,_=>rfl
  | n + 1,lo=>congrArg (V.int lo::·) (intsFrom_is n (lo + 1))
theorem intsI_len:∀ {n:Nat} {lo:Int},(intsI lo n).length=n
  | 0,_=>rfl
  | n + 1,_=>congrArg Nat.succ (intsI_len (n:=n))
noncomputable def valsD (d:Dom):List Int:=d.flatMap fun p=>intsI p.1 (p.2 + 1 - p.1).toNat
noncomputable def spanD (d:Dom):Prop:=∀ p ∈ d,p.2 + 1 - p.1≤1000000
theorem vals_len {p:Int×Int}:(valsD (p::d)).length=(p.2 + 1 - p.1).toNat + (valsD d).length:=by
  show (intsI _ _++valsD d).length=_
  rw [List.length_append,intsI_len]
theorem place_last {n:Nat}:placeOf (-1) (n + 1)=some n:=(if_neg (fun h=>absurd h.1 (by decide))).trans ((if_pos ⟨by decide,by lia⟩).trans (congrArg some (by lia)))
theorem idx_last {p:Int×Int} (h:d.getLast?=some p):idxV μ (encD d) (.int (-1))=some (encP p):=by
  cases d with
  | nil=>cases h
  | cons q d=>
    refine bS (place_last (n:=(d.map encP).length)) ?_
    rw [List.length_map]
    show ((q::d).map encP)[(q::d).length - 1]?=_
    rw [List.getElem?_map,← List.getLast?_eq_getElem?,h];rfl
theorem last_some (h:d≠[]):∃ p,d.getLast?=some p:=by
  cases e:d.getLast? with
  | none=>exact absurd (List.getLast?_eq_none_iff.mp e) h
  | some p=>exact ⟨p,rfl⟩
theorem ext_rng {i:Nat} {a b:Int} {us:List V} (hl:lo≤i) (h:μ[i]?=some (.list us)) (hs:us.length + (b - a).toNat≤sizeLim):listMeth lo (.obj i) "extend" [.rng a b] μ=some (.none,μ.set i (.list (us++intsFrom a (b - a).toNat))):=bS (o:=objOf (.obj i)) rfl (bS h ((if_neg (Nat.not_lt.mpr hl)).trans (if_pos hs)))
theorem ext_lst {i:Nat} {us xs:List V} {x:V} (hl:lo≤i) (h:μ[i]?=some (.list us)) (hr:rngOf x=none) (hx:listV μ x=some xs) (hs:us.length + xs.length≤sizeLim):listMeth lo (.obj i) "extend" [x] μ=some (.none,μ.set i (.list (us++xs))):=bS (o:=objOf (.obj i)) rfl (bS h ((if_neg (Nat.not_lt.mpr hl)).trans (by
  show (match rngOf x with | some p=>_ | none=>(listV μ x).bind fun xs=>putL? (us.length + xs.length≤sizeLim) μ i (us++xs))=_
  rw [hr];exact bS hx (if_pos hs))))
theorem bi_range {a b:Int} (h:b - a≤sizeLim):biV μ "range" [.int a,.int b]=some (.rng a b):=if_pos h
theorem lim_is:(sizeLim:Int)=1048576:=rfl
theorem vals_loop {cb:Calls}:∀ (d:Dom) (xs:List Int) (ρ:Rho),xs.length + (valsD d).length≤1000000→ρ "found" = some (.obj μ.length)→
    ∃ ρ',forM (forB cb μ.length W "values" (.many ["low", "high"]) b_values_1) (d.map encP) ρ (μ++[.list (xs.map .int)])=some (.next,ρ',μ++[.list ((xs++valsD d).map .int)])∧ρ' "found" = some (.obj μ.length):=by
  intro d
  induction d with
  | nil=>intro xs ρ _ hf;exact ⟨ρ,by rw [show xs++valsD []=xs from List.append_nil xs];rfl,hf⟩
  | cons p d ih=>
    intro xs ρ hl hf
    rw [upd_self hf]
    rw [vals_len] at hl
    have hs:xs.length + (p.2 + 1 - p.1).toNat≤1000000:=by lia
    obtain ⟨ρ',q1,q2⟩:=ih (xs++intsI p.1 (p.2 + 1 - p.1).toNat) (upd (upd (upd ρ "found" (.obj μ.length)) "low" (.int p.1)) "high" (.int p.2)) (by rw [List.length_append,intsI_len];lia) rfl
    rw [List.append_assoc] at q1
    refine ⟨ρ',f_next (forB_k rfl (k_exp (e_meth rfl (find_list get_last (.inr (.inl rfl))) (ext_rng (Nat.le_refl _) get_last (by rw [List.length_map];exact Nat.le_trans hs (by decide))) (l_one (e_bi d_range c_range (bi_range (by rw [lim_is];lia)) rfl))) rfl rfl)) ?_,q2⟩
    rw [set_last,intsFrom_is,← List.map_append]
    exact q1
theorem m_listed:tab.consts "MOST_LISTED" = some (.int 1000000):=by kernel_rfl
theorem values_ (h:(valsD d).length≤1000000) (hs:sizeD d≤1000000):callF tab W (n + 2) "values" false lo [encD d] μ=some (.lst ((valsD d).map .int),μ):=by
  obtain ⟨ρ',q1,q2⟩:=vals_loop (cb:=callF tab W (n + 1)) (W:=W) (μ:=μ) d [] (upd (params0 ["d"] [encD d]) "found" (.obj μ.length)) (by rw [List.length_nil,Nat.zero_add];exact h) rfl
  have rest:runK (callF tab W (n + 1)) μ.length W "values" [[.assign (.one "found") (.list true []),.for (.many ["low", "high"]) (.var "d") b_values_1,.ret (.var "found")]] (params0 ["d"] [encD d]) μ=some (.ret (.obj μ.length),ρ',μ++[.list ((valsD d).map .int)]):=k_one (e_listN rfl) (k_for rfl rfl q1 (k_ret (e_var q2)))
  refine call_pure f_values rfl (run_ret (k_ite (q:=false) (e_and ?_) rest)) (frz_obj (Nat.le_refl _) get_last (frz_map fun _=>rfl))
  refine a_cons (e_cmpF (cm_ne eqD0) rfl rfl) ?_
  cases d with
  | nil=>exact if_f rfl rfl
  | cons p d=>
    obtain ⟨q,hq⟩:=last_some (d:=p::d) (fun h=>nomatch h)
    refine if_t rfl (a_cons (e_cmp (e_bin (e_idx (e_idxF (idx_last hq) rfl rfl) rfl rfl) (e_idx (e_idxF idx0 rfl rfl) rfl rfl) rfl) (e_glob m_listed) rfl) ?_)
    exact if_e (a_one (e_cmp (e_call d_size_domains size_ rfl) (e_glob m_listed) (congrArg some (decide_eq_false (Int.not_lt.mpr hs)))))
end
end Mine
namespace Mine
open PySem
structure Ent where
  y:Int
  old:Dom
  lit:Lit
  rs:Option (List Lit)
noncomputable def encR:Option (List Lit)→V
  | none=>.none
  | some ls=>.tup (ls.map encL)
noncomputable def encE (e:Ent):V:=.tup [.int e.y,encD e.old,encL e.lit,encR e.rs,.int (-1)]
structure St where
  d0:Dom
  d1:Dom
  f0:Dom
  f1:Dom
  tr:List Ent
  mks:List Int
  failed:Bool
  clash:List Lit
  nw:List (Int×V)
noncomputable def St.dom (s:St) (x:Int):Dom:=if x=0 then s.d0 else s.d1
noncomputable def St.fst (s:St) (x:Int):Dom:=if x=0 then s.f0 else s.f1
noncomputable def St.wF (s:St) (b:Bool) (c:List Lit):St:={ s with failed:=b,clash:=c }
noncomputable def St.wT (s:St) (t:List Ent):St:={ s with tr:=t }
noncomputable def St.wD (s:St) (d e:Dom):St:={ s with d0:=d,d1:=e }
noncomputable def St.setDom (s:St) (x:Int) (d:Dom):St:=s.wD (if x=0 then d else s.d0) (if x=0 then s.d1 else d)
noncomputable def St.wN (s:St) (n:List (Int×V)):St:={ s with nw:=n }
noncomputable def St.wM (s:St) (m:List Int):St:={ s with mks:=m }
noncomputable def fieldsOf (im inw:Nat) (failed:Bool) (clash:List Lit):List (Str×V):=
  [("domains", .obj 4),("firsts", .obj 5),("trail", .obj 6),("marks", .obj im),("news", .obj inw),("speaker", .int (-1)),("is_failed", .bool failed),("clash", .tup (clash.map encL))]
structure StoreAt (μ:M) (im inw:Nat) (s:St):Prop where
  obj:μ[3]?=some (.inst "Store" 2)
  dct:μ[2]?=some (.sdict (fieldsOf im inw s.failed s.clash))
  doms:μ[4]?=some (.list [encD s.d0,encD s.d1])
  firsts:μ[5]?=some (.list [encD s.f0,encD s.f1])
  tr:μ[6]?=some (.list (s.tr.map encE))
  mks:μ[im]?=some (.list (s.mks.map .int))
  nw:μ[inw]?=some (.idict s.nw)
  him:im=7∨13≤im
  hin:inw=8∨13≤inw
  ne:im≠inw
section
variable {W n lo:Nat} {μ:M} {im inw:Nat} {s:St} {d:Dom} {x:Int}
theorem flds_of {i k:Nat} {c:Str} {es:List (Str×V)} (h1:μ[i]?=some (.inst c k)) (h2:μ[k]?=some (.sdict es)):fieldsAt μ (.obj i)=some (c,k,es):=bS (o:=objOf (.obj i)) rfl (bS h1 (bS (o:=ins? (.inst c k)) rfl (bS h2 rfl)))
theorem attr_of {a v:V} {x:Str} {c:Str×Nat×List (Str×V)} (hf:fieldsAt μ a=some c) (h1:tab.fields c.1 x=true) (h2:lookE x c.2.2=some v):attrV tab.fields μ a x=some v:=bS hf ((if_pos h1).trans h2)
theorem StoreAt.flds (h:StoreAt μ im inw s):fieldsAt μ (.obj 3)=some (Str.ofString "Store", 2,fieldsOf im inw s.failed s.clash):=flds_of h.obj h.dct
theorem StoreAt.a_domains (h:StoreAt μ im inw s):attrV tab.fields μ (.obj 3) "domains" = some (.obj 4):=attr_of h.flds rfl rfl
theorem StoreAt.a_firsts (h:StoreAt μ im inw s):attrV tab.fields μ (.obj 3) "firsts" = some (.obj 5):=attr_of h.flds rfl rfl
theorem StoreAt.a_trail (h:StoreAt μ im inw s):attrV tab.fields μ (.obj 3) "trail" = some (.obj 6):=attr_of h.flds rfl rfl
theorem StoreAt.a_marks (h:StoreAt μ im inw s):attrV tab.fields μ (.obj 3) "marks" = some (.obj im):=attr_of h.flds rfl rfl
theorem StoreAt.a_news (h:StoreAt μ im inw s):attrV tab.fields μ (.obj 3) "news" = some (.obj inw):=attr_of h.flds rfl rfl
theorem StoreAt.a_speaker (h:StoreAt μ im inw s):attrV tab.fields μ (.obj 3) "speaker" = some (.int (-1)):=attr_of h.flds rfl rfl
theorem StoreAt.a_failed (h:StoreAt μ im inw s):attrV tab.fields μ (.obj 3) "is_failed" = some (.bool s.failed):=attr_of h.flds rfl rfl
theorem StoreAt.a_clash (h:StoreAt μ im inw s):attrV tab.fields μ (.obj 3) "clash" = some (.tup (s.clash.map encL)):=attr_of h.flds rfl rfl
noncomputable def isVarI (x:Int):Prop:=x=0∨x=1
theorem StoreAt.i_dom (h:StoreAt μ im inw s) (hx:isVarI x):idxV μ (.obj 4) (.int x)=some (encD (s.dom x)):=by
  rcases hx with rfl | rfl <;> exact bS (o:=seqV μ (.obj 4)) (bS h.doms rfl) rfl
theorem StoreAt.i_fst (h:StoreAt μ im inw s) (hx:isVarI x):idxV μ (.obj 5) (.int x)=some (encD (s.fst x)):=by
  rcases hx with rfl | rfl <;> exact bS (o:=seqV μ (.obj 5)) (bS h.firsts rfl) rfl
theorem dom_ (h:StoreAt μ im inw s) (hx:isVarI x):callF tab W (n + 1) "Store.dom" false lo [.obj 3,.int x] μ=some (encD (s.dom x),μ):=
  call_pure f_Store_dom rfl (run_e (e_idxF (h.i_dom hx) (e_attr h.a_domains rfl) rfl)) frz_D
theorem initial_ (h:StoreAt μ im inw s) (hx:isVarI x):callF tab W (n + 1) "Store.initial" false lo [.obj 3,.int x] μ=some (encD (s.fst x),μ):=
  call_pure f_Store_initial rfl (run_e (e_idxF (h.i_fst hx) (e_attr h.a_firsts rfl) rfl)) frz_D
theorem width_ (h:StoreAt μ im inw s) (hx:isVarI x):callF tab W (n + 2) "Store.width" false lo [.obj 3,.int x] μ=some (.int (sizeD (s.dom x)),μ):=
  call_pure f_Store_width rfl (run_e (e_call d_size_domains size_ (l_one (e_idxF (h.i_dom hx) (e_attr h.a_domains rfl) rfl)))) rfl
noncomputable def lowD:Dom→Int
  | []=>0
  | p::_=>p.1
noncomputable def highD (d:Dom):Int:=match d.getLast? with
  | none=>0
  | some p=>p.2
theorem least_' (hne:d≠[]):callF tab W (n + 1) "least" false lo [encD d] μ=some (.int (lowD d),μ):=by
  cases d with
  | nil=>exact absurd rfl hne
  | cons p d=>exact least_
theorem low_ (h:StoreAt μ im inw s) (hx:isVarI x) (hne:s.dom x≠[]):callF tab W (n + 2) "Store.low" false lo [.obj 3,.int x] μ=some (.int (lowD (s.dom x)),μ):=
  call_pure f_Store_low rfl (run_e (e_call d_least (least_' hne) (l_one (e_idxF (h.i_dom hx) (e_attr h.a_domains rfl) rfl)))) rfl
theorem greatest_ (hne:d≠[]):callF tab W (n + 1) "greatest" false lo [encD d] μ=some (.int (highD d),μ):=by
  obtain ⟨p,hp⟩:=last_some hne
  rw [show highD d=p.2 by unfold highD;rw [hp]]
  exact call_pure f_greatest rfl (run_e (e_idx (e_idxF (idx_last hp) rfl rfl) rfl rfl)) rfl
theorem high_ (h:StoreAt μ im inw s) (hx:isVarI x) (hne:s.dom x≠[]):callF tab W (n + 2) "Store.high" false lo [.obj 3,.int x] μ=some (.int (highD (s.dom x)),μ):=
  call_pure f_Store_high rfl (run_e (e_call d_greatest (greatest_ hne) (l_one (e_idxF (h.i_dom hx) (e_attr h.a_domains rfl) rfl)))) rfl
theorem bi_lenO {i:Nat} {vs:List V} (h:μ[i]?=some (.list vs)):biV μ "len" [.obj i]=some (.int vs.length):=show (listV μ (.obj i)).map _=_ from mS (bS h rfl)
theorem depth_ (h:StoreAt μ im inw s):callF tab W (n + 1) "Store.depth" false lo [.obj 3] μ=some (.int s.mks.length,μ):=
  call_pure f_Store_depth rfl (run_e (e_bi d_len c_len ((bi_lenO h.mks).trans (by rw [List.length_map])) (l_one (e_attr h.a_marks rfl)))) rfl
end
end Mine
namespace Mine
open PySem
section
variable {W n lo:Nat} {μ μ' μ'':M} {im inw i j:Nat} {s s':St} {a o:MObj}
theorem get_set (e:μ[i]?=some o):(μ.set i a)[i]?=some a:=List.getElem?_set_self (List.getElem?_eq_some_iff.mp e).1
theorem get_setN (h:i≠j):(μ.set i a)[j]?=μ[j]?:=List.getElem?_set_ne h
theorem get_to (h:i≠j) (e:μ[j]?=some o):(μ.set i a)[j]?=some o:=(List.getElem?_set_ne h).trans e
theorem get_app (e:μ[i]?=some o):(μ++[a])[i]?=some o:=(List.getElem?_append_left (List.getElem?_eq_some_iff.mp e).1).trans e
structure Far (im inw i:Nat):Prop where
  n2:2≠i
  n4:4≠i
  n5:5≠i
  n6:6≠i
  nm:im≠i
  nn:inw≠i
structure Frm (im inw:Nat) (μ μ':M):Prop where
  len:μ'.length=μ.length
  at_:∀ i,Far im inw i→μ'[i]?=μ[i]?
theorem Frm.refl:Frm im inw μ μ:=⟨rfl,fun _ _=>rfl⟩
theorem Frm.trans (a:Frm im inw μ μ') (b:Frm im inw μ' μ''):Frm im inw μ μ'':=⟨b.len.trans a.len,fun i h=>(b.at_ i h).trans (a.at_ i h)⟩
theorem Frm.set (h:Frm im inw μ μ') (hi:∀ j,Far im inw j→i≠j):Frm im inw μ (μ'.set i a):=
  ⟨List.length_set.trans h.len,fun j f=>(get_setN (hi j f)).trans (h.at_ j f)⟩
structure ImN (im inw:Nat):Prop where
  m2:2≠im
  m3:3≠im
  m4:4≠im
  m5:5≠im
  m6:6≠im
  n2:2≠inw
  n3:3≠inw
  n4:4≠inw
  n5:5≠inw
  n6:6≠inw
theorem im_ne {k m b:Nat} (hk:k<7) (h7:7≤b) (h:m=b∨13≤m):k≠m:=by lia
theorem StoreAt.imN (h:StoreAt μ im inw s):ImN im inw:=
  have m:=fun {k:Nat} (hk:k<7)=>im_ne hk (Nat.le_refl 7) h.him
  have n:=fun {k:Nat} (hk:k<7)=>im_ne hk (b:=8) (by decide) h.hin
  ⟨m (by decide),m (by decide),m (by decide),m (by decide),m (by decide),n (by decide),n (by decide),n (by decide),n (by decide),n (by decide)⟩
theorem StoreAt.set2 (h:StoreAt μ im inw s) (b:Bool) (c:List Lit):StoreAt (μ.set 2 (.sdict (fieldsOf im inw b c))) im inw (s.wF b c):=
  ⟨get_to (by decide) h.obj,get_set h.dct,get_to (by decide) h.doms,get_to (by decide) h.firsts,get_to (by decide) h.tr,get_to h.imN.m2 h.mks,get_to h.imN.n2 h.nw,h.him,h.hin,h.ne⟩
theorem StoreAt.set6 (h:StoreAt μ im inw s) (tr:List Ent):StoreAt (μ.set 6 (.list (tr.map encE))) im inw (s.wT tr):=
  ⟨get_to (by decide) h.obj,get_to (by decide) h.dct,get_to (by decide) h.doms,get_to (by decide) h.firsts,get_set h.tr,get_to h.imN.m6 h.mks,get_to h.imN.n6 h.nw,h.him,h.hin,h.ne⟩
theorem StoreAt.set4 (h:StoreAt μ im inw s) (d e:Dom):StoreAt (μ.set 4 (.list [encD d,encD e])) im inw (s.wD d e):=
  ⟨get_to (by decide) h.obj,get_to (by decide) h.dct,get_set h.doms,get_to (by decide) h.firsts,get_to (by decide) h.tr,get_to h.imN.m4 h.mks,get_to h.imN.n4 h.nw,h.him,h.hin,h.ne⟩
theorem StoreAt.setN (h:StoreAt μ im inw s) (es:List (Int×V)):StoreAt (μ.set inw (.idict es)) im inw (s.wN es):=
  ⟨get_to h.imN.n3.symm h.obj,get_to h.imN.n2.symm h.dct,get_to h.imN.n4.symm h.doms,get_to h.imN.n5.symm h.firsts,get_to h.imN.n6.symm h.tr,get_to h.ne.symm h.mks,get_set h.nw,h.him,h.hin,h.ne⟩
theorem StoreAt.setM (h:StoreAt μ im inw s) (ms:List Int):StoreAt (μ.set im (.list (ms.map .int))) im inw (s.wM ms):=
  ⟨get_to h.imN.m3.symm h.obj,get_to h.imN.m2.symm h.dct,get_to h.imN.m4.symm h.doms,get_to h.imN.m5.symm h.firsts,get_to h.imN.m6.symm h.tr,get_set h.mks,get_to h.ne h.nw,h.him,h.hin,h.ne⟩
theorem set_of {a v:V} {x:Str} {c:Str} {k:Nat} {es es':List (Str×V)} (hf:fieldsAt μ a=some (c,k,es)) (h1:tab.fields c x=true∧es.length<100) (h2:putE x v es=es'):setAttrV tab.fields 0 μ a x v=some (μ.set k (.sdict es')):=bS hf ((if_neg (Nat.not_lt_zero _)).trans ((if_pos h1).trans (by rw [h2])))
theorem StoreAt.s_failed (h:StoreAt μ im inw s) (b:Bool):setAttrV tab.fields 0 μ (.obj 3) "is_failed" (.bool b)=some (μ.set 2 (.sdict (fieldsOf im inw b s.clash))):=set_of h.flds ⟨rfl,show 8<100 by decide⟩ rfl
theorem StoreAt.s_clash (h:StoreAt μ im inw s) (l:List Lit):setAttrV tab.fields 0 μ (.obj 3) "clash" (.tup (l.map encL))=some (μ.set 2 (.sdict (fieldsOf im inw s.failed l))):=set_of h.flds ⟨rfl,show 8<100 by decide⟩ rfl
theorem fail_ (h:StoreAt μ im inw s) (l:List Lit):callF tab W (n + 1) "Store.fail" false 0 [.obj 3,.tup (l.map encL)] μ=some (.bool false,μ.set 2 (.sdict (fieldsOf im inw true l))):=by
  rw [← List.set_set (a:=MObj.sdict (fieldsOf im inw true s.clash))]
  exact call_imp f_Store_fail rfl rfl (run_ret (k_attr rfl rfl (h.s_failed true) (k_attr (v:=.tup (l.map encL)) rfl rfl ((h.set2 true s.clash).s_clash l) (k_ret rfl))))
theorem find_def {i k:Nat} {c m q:Str} {es:List (Str×V)} (h1:μ[i]?=some (.inst c k)) (h2:μ[k]?=some (.sdict es)) (hn:lookE m es=none) (hm:tab.meths c m=some q):methFind tab (.obj i) m μ=some (some q):=
  bS (o:=objOf (.obj i)) rfl (bS h1 (bS h2 (by show (if (lookE m es).isNone=true then (tab.meths c m).map some else none)=_;rw [hn,hm];rfl)))
theorem StoreAt.find (h:StoreAt μ im inw s) {m q:Str} (hm:tab.meths "Store" m=some q) (hn:lookE m (fieldsOf im inw s.failed s.clash)=none):methFind tab (.obj 3) m μ=some (some q):=find_def h.obj h.dct hn hm
noncomputable def St.put (s:St) (l:Lit) (rs:Option (List Lit)) (d:Dom):St:=((s.setDom l.x d).wT (s.tr++[⟨l.x,s.dom l.x,l,rs⟩])).wN (putE l.x (.bool true) s.nw)
noncomputable def St.enter (s:St) (l:Lit) (rs:Option (List Lit)):Bool×St:=
  if struckD l (s.dom l.x)=[] then (false,s.wF true (rs.getD []++[negL l]))
  else if struckD l (s.dom l.x)=s.dom l.x then (true,s)
  else (true,s.put l rs (struckD l (s.dom l.x)))
inductive Did (im inw:Nat) (μ:M) (r:Option (V×M)) (v:V) (s':St):Prop
  | mk (μ':M):r=some (v,μ')→StoreAt μ' im inw s'→Frm im inw μ μ'→Did im inw μ r v s'
theorem StoreAt.to (h:StoreAt μ im inw s) (e:s=s'):StoreAt μ im inw s':=e ▸ h
theorem StoreAt.setD (h:StoreAt μ im inw s) {x:Int} (hx:isVarI x) (d:Dom):setIdxV 0 μ (.obj 4) (.int x) (encD d)=some (μ.set 4 (.list [encD (s.setDom x d).d0,encD (s.setDom x d).d1])):=by
  rcases hx with rfl | rfl <;> exact bS (o:=objOf (.obj 4)) rfl (bS h.doms rfl)
theorem StoreAt.setIN (h:StoreAt μ im inw s) (hn:s.nw.length≤sizeLim) {x:Int} {v:V}:setIdxV 0 μ (.obj inw) (.int x) v=some (μ.set inw (.idict (putE x v s.nw))):=bS (o:=objOf (.obj inw)) rfl (bS h.nw (mS (if_pos hn)))
theorem enter_ (h:StoreAt μ im inw s) {l:Lit} {rs:Option (List Lit)} (hx:isVarI l.x) (hl:(s.dom l.x).length≤1000) (ht:s.tr.length<1000000) (hn:s.nw.length≤2) (hr:(rs.getD []).length≤1000) (hW:1001<W) :
    Did im inw μ (callF tab W (n + 4) "Store.enter" false 0 [.obj 3,encL l,encR rs,.int (-1)] μ) (.bool (s.enter l rs).1) (s.enter l rs).2:=by
  have key:∀ {r},runK (callF tab W (n + 3)) 0 W "Store.enter" [b_Store_enter.drop 3] (upd (upd (upd (params0 ["self", "literal", "reasons", "speaker"] [.obj 3,encL l,encR rs,.int (-1)]) "x" (.int l.x)) "old" (encD (s.dom l.x))) "fresh" (encD (struckD l (s.dom l.x)))) μ=r→runK (callF tab W (n + 3)) 0 W "Store.enter" [b_Store_enter] (params0 ["self", "literal", "reasons", "speaker"] [.obj 3,encL l,encR rs,.int (-1)]) μ=r:=fun k=>
    k_one' (v:=.int l.x) rfl (k_one' (e_idxF (h.i_dom hx) (e_attr h.a_domains rfl) rfl) (k_one' (e_call d_struck (struck_ hl hW) rfl) k))
  unfold St.enter
  by_cases h1:struckD l (s.dom l.x)=[]
  · rw [if_pos h1]
    refine ⟨_,call_imp f_Store_enter rfl rfl (run_ret (key (k_ite (e_cmpF eqD0 rfl rfl) (k_t (decide_eq_true h1) (k_ret (e_def rfl (h.find m_Store_fail rfl) (fail_ h (rs.getD []++[negL l])) (l_one (e_binF ((addT (xs:=(rs.getD []).map encL) (ys:=[negL l].map encL) (by rw [List.length_map];exact Nat.le_trans (Nat.succ_le_succ hr) (by decide))).trans (congrArg (fun l=>some (V.tup l)) List.map_append.symm)) ?_ (e_tup (l_one (e_call d_negation negation_ rfl))))))))))),h.set2 true _,Frm.refl.set fun _ f=>f.n2⟩
    cases rs with
    | none=>rfl
    | some ls=>rfl
  · rw [if_neg h1]
    have key2:∀ {r},runK (callF tab W (n + 3)) 0 W "Store.enter" [b_Store_enter.drop 4] (upd (upd (upd (params0 ["self", "literal", "reasons", "speaker"] [.obj 3,encL l,encR rs,.int (-1)]) "x" (.int l.x)) "old" (encD (s.dom l.x))) "fresh" (encD (struckD l (s.dom l.x)))) μ=r→runK (callF tab W (n + 3)) 0 W "Store.enter" [b_Store_enter] (params0 ["self", "literal", "reasons", "speaker"] [.obj 3,encL l,encR rs,.int (-1)]) μ=r:=fun k=>key (k_ite (e_cmpF eqD0 rfl rfl) (k_f (decide_eq_false h1) k))
    by_cases h2:struckD l (s.dom l.x)=s.dom l.x
    · rw [if_pos h2]
      exact ⟨μ,call_imp f_Store_enter rfl rfl (run_ret (key2 (k_ite (e_cmpF eqD rfl rfl) (k_t (decide_eq_true h2) (k_ret rfl))))),h,.refl⟩
    · rw [if_neg h2]
      have h6:=h.set6 (s.tr++[⟨l.x,s.dom l.x,l,rs⟩])
      rw [List.map_append] at h6
      have h4:=h6.set4 (s.setDom l.x (struckD l (s.dom l.x))).d0 (s.setDom l.x (struckD l (s.dom l.x))).d1
      refine ⟨_,call_imp f_Store_enter rfl rfl (run_ret (key2 (k_ite (e_cmpF eqD rfl rfl) (k_f (decide_eq_false h2) (k_exp (e_append (v:=encE ⟨l.x,s.dom l.x,l,rs⟩) (e_attr h.a_trail rfl) h.tr rfl (Nat.zero_le _) (by rw [List.length_map];exact Nat.lt_trans ht (by decide))) rfl
        (k_idx (h6.setD hx _) rfl (e_attr h6.a_domains rfl) rfl (k_idx (v:=.bool true) (h4.setIN (Nat.le_trans hn (by decide))) rfl (e_attr h4.a_news rfl) rfl (k_ret rfl)))))))),h4.setN _,((Frm.refl.set fun _ f=>f.n6).set fun _ f=>f.n4).set fun _ f=>f.nn⟩
theorem strike_ (h:StoreAt μ im inw s) {l:Lit} {ls:List Lit} (hx:isVarI l.x) (hl:(s.dom l.x).length≤1000) (ht:s.tr.length<1000000) (hn:s.nw.length≤2) (hr:ls.length≤1000) (hW:1001<W) :
    Did im inw μ (callF tab W (n + 5) "Store.strike" false 0 [.obj 3,encL l,.tup (ls.map encL)] μ) (.bool (s.enter l (some ls)).1) (s.enter l (some ls)).2:=by
  obtain ⟨μ',h1,h2,h3⟩:=enter_ (W:=W) (n:=n) h (l:=l) (rs:=some ls) hx hl ht hn hr hW
  exact ⟨μ',call_imp f_Store_strike rfl rfl (run_e (e_def rfl (h.find m_Store_enter rfl) h1 (l_cons rfl (l_cons (e_bi d_tuple c_tuple (vs:=[.tup (ls.map encL)]) rfl rfl) (l_one (e_attr h.a_speaker rfl)))))),h2,h3⟩
theorem decide_ (h:StoreAt μ im inw s) {l:Lit} (hx:isVarI l.x) (hl:(s.dom l.x).length≤1000) (ht:s.tr.length<1000000) (hn:s.nw.length≤2) (hW:1001<W) :
    Did im inw μ (callF tab W (n + 5) "Store.decide" false 0 [.obj 3,encL l] μ) (.bool (s.enter l none).1) (s.enter l none).2:=by
  obtain ⟨μ',h1,h2,h3⟩:=enter_ (W:=W) (n:=n) h (l:=l) (rs:=none) hx hl ht hn (Nat.zero_le _) hW
  exact ⟨μ',call_imp f_Store_decide rfl rfl (run_e (e_def rfl (h.find m_Store_enter rfl) h1 rfl)),h2,h3⟩
theorem push_ (h:StoreAt μ im inw s) (hm:s.mks.length<1000) :
    Did im inw μ (callF tab W (n + 1) "Store.push" false 0 [.obj 3] μ) .none (s.wM (s.mks++[(s.tr.length:Int)])):=by
  have h1:=h.setM (s.mks++[(s.tr.length:Int)])
  rw [List.map_append] at h1
  exact ⟨_,call_imp f_Store_push rfl rfl (run_next (k_exp (e_append (e_attr h.a_marks rfl) h.mks (e_bi d_len c_len ((bi_lenO h.tr).trans (by rw [List.length_map])) (l_one (e_attr h.a_trail rfl))) (Nat.zero_le _) (by rw [List.length_map];exact Nat.lt_trans hm (by decide))) rfl rfl)),h1,Frm.refl.set fun _ f=>f.nm⟩
noncomputable def undo:List Ent→St→St
  | [],s=>s
  | e::r,s=>undo r (s.setDom e.y e.old)
theorem undo_T:∀ (r:List Ent) (s:St) (t:List Ent),undo r (s.wT t)=(undo r s).wT t
  | [],_,_=>rfl
  | e::r,s,t=>undo_T r (s.setDom e.y e.old) t
theorem undo_M:∀ (r:List Ent) (s:St) (t:List Int),undo r (s.wM t)=(undo r s).wM t
  | [],_,_=>rfl
  | e::r,s,t=>undo_M r (s.setDom e.y e.old) t
theorem undo_f0:∀ (r:List Ent) (s:St),(undo r s).f0=s.f0
  | [],_=>rfl
  | e::r,s=>undo_f0 r (s.setDom e.y e.old)
theorem undo_f1:∀ (r:List Ent) (s:St),(undo r s).f1=s.f1
  | [],_=>rfl
  | e::r,s=>undo_f1 r (s.setDom e.y e.old)
theorem pop_list {us:List V} {v:V} (hl:lo≤i) (h:μ[i]?=some (.list (us++[v]))):listMeth lo (.obj i) "pop" [] μ=some (v,μ.set i (.list us)):=bS (o:=objOf (.obj i)) rfl (bS h ((if_neg (Nat.not_lt.mpr hl)).trans (by
  rw [if_neg (by decide),if_neg (by decide),if_pos ⟨rfl,rfl⟩,List.getLast?_concat,List.dropLast_concat];rfl)))
theorem two {ρ:Rho} {a b:Str} {u v:V} (h1:ρ a=some u) (h2:ρ b=some v):ρ=upd (upd ρ a u) b v:=by
  rw [← upd_self h1,← upd_self h2]
inductive Popped (cb:Calls) (W im inw w:Nat) (ρ:Rho) (μ:M) (s':St):Prop
  | mk (ρ':Rho) (μ':M):whileM (fun ρ μ=>asBool (ev tab cb 0 (.cmp .Gt (.call "len" false [(.attr (.var "self") "trail")]) (.var "mark")) ρ μ)) (fun ρ μ=>exs tab cb 0 W "Store.pop" b_Store_pop_1 ρ μ) w ρ μ=some (.next,ρ',μ')→StoreAt μ' im inw s'→Frm im inw μ μ'→ρ' "self" = some (.obj 3)→Popped cb W im inw w ρ μ s'
theorem pop_loop {cb:Calls} {m:Nat} {t:List Ent} (hm:t.length=m):∀ (r:List Ent) (w:Nat) (ρ:Rho) (μ:M) (s:St),StoreAt μ im inw s→s.tr=t++r.reverse→r.length<w→(∀ e ∈ r,isVarI e.y)→ρ "self" = some (.obj 3)→ρ "mark" = some (.int m)→
    Popped cb W im inw w ρ μ ((undo r s).wT t):=by
  intro r
  induction r with
  | nil=>
    intro w ρ μ s h ht hw _ hs hmk
    have ht:s.tr=t:=ht.trans (List.append_nil t)
    rw [two hs hmk]
    cases w with
    | zero=>cases hw
    | succ w=>exact ⟨_,μ,w_done (asB (e_cmp (e_bi d_len c_len (bi_lenO h.tr) (l_one (e_attr h.a_trail rfl))) rfl (congrArg some (decide_eq_false (by rw [List.length_map,ht,hm];exact Int.lt_irrefl _))))),h.to (by rw [← ht];rfl),.refl,rfl⟩
  | cons e r ih=>
    intro w ρ μ s h ht hw he hs hmk
    rw [List.reverse_cons,← List.append_assoc] at ht
    rw [two hs hmk]
    cases w with
    | zero=>cases hw
    | succ w=>
      have htr:=h.tr
      rw [ht,List.map_append] at htr
      have h2:=h.set6 (t++r.reverse)
      have hy:=he e (.head _)
      obtain ⟨ρ',μ',q1,q2,q3,q4⟩:=ih w (upd (upd (upd ρ "self" (.obj 3)) "mark" (.int m)) "entry" (encE e)) _ ((s.wT (t++r.reverse)).setDom e.y e.old) (h2.set4 _ _) rfl (Nat.lt_of_succ_lt_succ hw) (fun e' h'=>he e' (.tail _ h')) rfl rfl
      exact ⟨ρ',μ',w_next (asB (e_cmp (e_bi d_len c_len (bi_lenO h.tr) (l_one (e_attr h.a_trail rfl))) rfl (congrArg some (decide_eq_true (by rw [List.length_map,ht,List.length_append,List.length_append,hm];exact Int.ofNat_lt.mpr (Nat.lt_succ_of_le (Nat.le_add_right ..)))))))
        (k_exs (k_one (e_lm (e_attr h.a_trail rfl) (find_list h.tr (.inr (.inr rfl))) (pop_list (Nat.zero_le _) htr) rfl) (k_idx (h2.setD hy _) rfl (e_attr h2.a_domains rfl) rfl rfl))) q1,q2.to (congrArg (fun s'=>s'.wT t) (undo_T r (s.setDom e.y e.old) _)),((Frm.refl.set fun _ f=>f.n6).set fun _ f=>f.n4).trans q3,q4⟩
end
end Mine
namespace Mine
open PySem
section
variable {W n lo:Nat} {μ μ' μ'':M} {im inw i:Nat} {s:St}
structure FrmP (im inw:Nat) (μ μ':M):Prop where
  len:μ.length≤μ'.length
  at_:∀ i,i<μ.length→Far im inw i→μ'[i]?=μ[i]?
theorem get_lt {o:MObj} (e:μ[i]?=some o):i<μ.length:=(List.getElem?_eq_some_iff.mp e).1
theorem FrmP.new {m a:MObj}:FrmP im inw μ ((μ++[m]).set 2 a):=⟨by rw [List.length_set,List.length_append];exact Nat.le_add_right ..,fun i hi f=>(get_setN f.n2).trans (List.getElem?_append_left hi)⟩
theorem Frm.toP (h:Frm im inw μ μ'):FrmP im inw μ μ':=⟨Nat.le_of_eq h.len.symm,fun i _=>h.at_ i⟩
theorem StoreAt.newM (h:StoreAt μ im inw s) (hL:13≤μ.length) (ms:List Int):StoreAt ((μ++[MObj.list (ms.map .int)]).set 2 (.sdict (fieldsOf μ.length inw s.failed s.clash))) μ.length inw (s.wM ms):=
  ⟨get_to (by decide) (get_app h.obj),get_set (get_app h.dct),get_to (by decide) (get_app h.doms),get_to (by decide) (get_app h.firsts),get_to (by decide) (get_app h.tr),get_to (Nat.ne_of_lt (Nat.lt_of_lt_of_le (by decide) hL)) get_last,get_to h.imN.n2 (get_app h.nw),.inr hL,h.hin,Nat.ne_of_gt (get_lt h.nw)⟩
theorem StoreAt.newN (h:StoreAt μ im inw s) (hL:13≤μ.length):StoreAt ((μ++[MObj.idict []]).set 2 (.sdict (fieldsOf im μ.length s.failed s.clash))) im μ.length (s.wN []):=
  ⟨get_to (by decide) (get_app h.obj),get_set (get_app h.dct),get_to (by decide) (get_app h.doms),get_to (by decide) (get_app h.firsts),get_to (by decide) (get_app h.tr),get_to h.imN.m2 (get_app h.mks),get_to (Nat.ne_of_lt (Nat.lt_of_lt_of_le (by decide) hL)) get_last,h.him,.inr hL,Nat.ne_of_lt (get_lt h.mks)⟩
theorem in_two {f g:Dom} {k:Nat} (h:μ[k]?=some (.list [encD f,encD g])) (h0:f≠[]) (h1:g≠[]):inV μ (.tup []) (.obj k)=some false:=by
  have hp:pdV μ 9 (.obj k)=some (.list [cD.pd f,cD.pd g]):=by
    show (listV μ (.obj k)).bind _=_
    exact bS (o:=listV μ (.obj k)) (bS h rfl) (mS (pdL_ok (n:=8) cD (by decide) [f,g]))
  have kk:∀ f:Dom,f≠[]→PyData.eqv (cD.pd f) (cD.pd [])=false:=fun f hf=>eq_false_of_ne_true fun e=>hf ((cD.eqv f []).mp e)
  show ((pdV μ eqDeep (.tup [])).bind fun x=>(pdV μ (eqDeep + 1) (.obj _)).bind fun y=>(pdS y).map fun ys=>ys.any fun y=>PyData.eqv y x)=_
  refine (bS (cD.ok μ 8 [] (by decide)) (bS hp rfl)).trans (congrArg some ?_)
  show (PyData.eqv (cD.pd f) (cD.pd []) || (PyData.eqv (cD.pd g) (cD.pd []) || false))=false
  rw [kk f h0,kk g h1];rfl
theorem e_sliceTo {cb:Calls} {ρ:Rho} {a b:C} {x y:V} {vs:List V} (h1:ev tab cb lo a ρ μ=some (x,μ)) (h2:ev tab cb lo b ρ μ=some (y,μ)) (h3:sliceV μ x none (some y)=some vs):ev tab cb lo (.slice true a none (some b)) ρ μ=some (.obj μ.length,μ++[.list vs]):=bS h1 (bS (o:=some _) rfl (bS (mS h2) (mS h3)))
theorem slice_pre {a:V} {us vs:List V} (h:listV μ a=some (us++vs)):sliceV μ a none (some (.int us.length))=some us:=by
  have hc:cutOf (us++vs).length (us++vs).length (some (.int us.length))=some us.length:=by
    show (if 0≤(us.length:Int) then some (min us.length (us++vs).length) else none)=_
    rw [if_pos (Int.natCast_nonneg us.length),List.length_append,Nat.min_eq_left (Nat.le_add_right ..)]
  exact bS h (bS (o:=some 0) rfl ((mS hc).trans (congrArg some (List.take_left ..))))
theorem idx_mid {a v:V} {us vs:List V} (h:seqV μ a=some (us++v::vs)):idxV μ a (.int us.length)=some v:=bS h (bS (place_nat (by rw [List.length_append];exact Nat.lt_add_of_pos_right (Nat.succ_pos _))) (by rw [List.getElem?_append_right (Nat.le_refl _),Nat.sub_self];rfl))
inductive PopDid (im inw:Nat) (μ:M) (r:Option (V×M)) (s':St):Prop
  | mk (im' inw':Nat) (μ':M):r=some (.none,μ')→StoreAt μ' im' inw' s'→FrmP im inw μ μ'→μ.length≤im'→μ.length≤inw'→PopDid im inw μ r s'
theorem pop_ (h:StoreAt μ im inw s) (hL:13≤μ.length) {ms ms':List Int} {m:Nat} {t r:List Ent} (hm:s.mks=ms++(m:Int)::ms') (ht:s.tr=t++r.reverse) (htl:t.length=m) (hW:r.length<W) (he:∀ e ∈ r,isVarI e.y) (h0:s.f0≠[]) (h1:s.f1≠[]) :
    PopDid im inw μ (callF tab W (n + 1) "Store.pop" false 0 [.obj 3,.int (ms'.length + 1:Nat)] μ) (((((undo r s).wT t).wM ms).wN []).wF false []):=by
  have hmk:=h.mks
  rw [hm,List.map_append] at hmk
  have hn:∀ {ρ:Rho},ρ "self" = some (.obj 3)→ρ "n" = some (.int (ms'.length + 1:Nat))→ev tab (callF tab W n) 0 (.bin .Sub (.call "len" false [(.attr (.var "self") "marks")]) (.var "n")) ρ μ=some (.int (ms.map V.int).length,μ):=fun h1 h2=>e_bin (e_bi d_len c_len (bi_lenO hmk) (l_one (e_attr h.a_marks (e_var h1)))) (e_var h2) (congrArg (fun i=>some (V.int i)) (by
    rw [List.length_append,List.length_map,List.length_map,List.length_cons];lia))
  have hA:=h.newM hL ms
  obtain ⟨ρ',μ3,q1,q2,q3,q4⟩:=pop_loop (W:=W) (cb:=callF tab W n) (m:=m) htl r W (upd (params0 ["self", "n"] [.obj 3,.int (ms'.length + 1:Nat)]) "mark" (.int m)) _ (s.wM ms) hA ht hW he rfl rfl
  have hl3:μ3.length=μ.length + 1:=by rw [q3.len,List.length_set,List.length_append];rfl
  rw [undo_M] at q2
  have hB:=q2.newN (by lia)
  have hC:=hB.set2 false (((undo r s).wM ms).wT t).clash
  refine ⟨μ.length,μ3.length,_,call_imp f_Store_pop rfl rfl (run_next (ρ₁:=ρ') (k_ite (q:=false) (e_cmp rfl rfl (congrArg some (decide_eq_false (by lia)))) (k_one' (e_idx (e_attr h.a_marks rfl) (hn rfl rfl) (idx_mid (bS (o:=μ[im]?) hmk rfl)))
    (k_attr (e_sliceTo (e_attr h.a_marks rfl) (hn rfl rfl) (slice_pre (bS (o:=μ[im]?) hmk rfl))) rfl (set_of (es':=fieldsOf μ.length inw _ _) (flds_of (get_app h.obj) (get_app h.dct)) ⟨rfl,show 8<100 by decide⟩ rfl) ?_)))),hC.set2 false [],?_,Nat.le_refl _,hl3 ▸ Nat.le_succ _⟩
  · exact k_while q1 (k_attr (v:=.obj μ3.length) (μ₁:=μ3++[MObj.idict []]) (mS (o:=some ([],μ3)) rfl) (e_var q4) (set_of (es':=fieldsOf μ.length μ3.length _ _) (flds_of (get_app q2.obj) (get_app q2.dct)) ⟨rfl,show 8<100 by decide⟩ rfl) (k_attr (e_cmpF (cm_in (in_two hB.firsts (by rw [show ((((undo r s).wM ms).wT t).wN []).f0=(undo r s).f0 from rfl,undo_f0];exact h0) (by rw [show ((((undo r s).wM ms).wT t).wN []).f1=(undo r s).f1 from rfl,undo_f1];exact h1))) rfl (e_attr hB.a_firsts (e_var q4))) (e_var q4) (hB.s_failed false) (k_attr (v:=.tup (([]:List Lit).map encL)) rfl (e_var q4) (hC.s_clash []) rfl)))
  · refine ⟨by rw [List.length_set,List.length_set];exact Nat.le_trans (by rw [hl3];exact Nat.le_succ _) (FrmP.new (im:=im) (inw:=inw)).len,fun i hi f=>?_⟩
    have f2:Far μ.length inw i:=⟨f.n2,f.n4,f.n5,f.n6,Nat.ne_of_gt hi,f.nn⟩
    exact (get_setN f.n2).trans ((get_setN f.n2).trans ((FrmP.new.at_ i (by rw [hl3];exact Nat.lt_succ_of_lt hi) f2).trans ((q3.at_ i f2).trans (FrmP.new.at_ i hi f))))
end
end Mine
namespace Mine
open PySem PySem.W PyProof.Rows
theorem ask_run {α:Type} {cmp:Nat→Nat→Option Bool} {i j:Nat} {b:Bool} {k:Bool→KasT α} (h:cmp i j=some b):kasRun cmp (.ask i j k)=kasRun cmp (k b):=by
  rw [kasRun,h]
theorem kasRun_bind {α β:Type} {cmp:Nat→Nat→Option Bool} {f:α→KasT β} {a:α} (t:KasT α) (h:kasRun cmp t=some a):kasRun cmp (t.bind f)=kasRun cmp (f a):=by
  induction t with
  | ret x=>rw [show x=a from Option.some.inj h];rfl
  | ask i j k ih=>
    cases hc:cmp i j with
    | none=>rw [kasRun,hc] at h;cases h
    | some b=>exact (ask_run (k:=fun b=>(k b).bind f) hc).trans (ih b ((ask_run hc).symm.trans h))
section
variable {N:Nat} {cmp:Nat→Nat→Option Bool} {c:Nat→Nat→Bool} {p:Array Nat} {x y:Nat→Nat} {a m n k:Nat}
noncomputable def Ok (N:Nat) (p:Array Nat):Prop:=p.Perm (List.range N).toArray
noncomputable abbrev g (p:Array Nat) (k:Nat):Nat:=p.getD k 0
theorem g_eq {q:Array Nat} {i j:Nat} (h:p[i]?=q[j]?):g p i=g q j:=by
  rw [g,g,Array.getD_eq_getD_getElem?,Array.getD_eq_getD_getElem?,h]
theorem Ok.size (h:Ok N p):p.size=N:=h.size_eq.trans (by rw [List.size_toArray,List.length_range])
theorem Ok.lt (h:Ok N p) (hk:k<N):g p k<N:=by
  rw [← h.size] at hk
  have h2:=h.mem_iff.mp (Array.getElem_mem hk)
  rw [g,Array.getD_eq_getD_getElem?,Array.getElem?_eq_getElem hk]
  exact List.mem_range.mp (List.mem_toArray.mp h2)
structure Ord (c:Nat→Nat→Bool):Prop where
  trans:∀ {x y z},c x y=false→c y z=false→c x z=false
  asymm:∀ {x y},c x y=true→c y x=false
theorem Ord.irr (O:Ord c) {x:Nat}:c x x=false:=by
  cases h:c x x with
  | false=>rfl
  | true=>exact h.symm.trans (O.asymm h)
noncomputable def Ans (N:Nat) (cmp:Nat→Nat→Option Bool) (c:Nat→Nat→Bool):Prop:=∀ i j,i<N→j<N→cmp i j=some (c i j)
noncomputable def Asc (c:Nat→Nat→Bool) (x:Nat→Nat) (m:Nat):Prop:=∀ i,i + 1<m→c (x (i + 1)) (x i)=false
noncomputable def Dn (c:Nat→Nat→Bool) (x:Nat→Nat) (m:Nat):Prop:=∀ i j,i<j→j<m→c (x i) (x j)=false
noncomputable def Bl (c:Nat→Nat→Bool) (x:Nat→Nat) (a m:Nat):Prop:=∀ i j,a≤i→i<m→a≤j→j<m→c (x i) (x j)=false
theorem Asc.pair (O:Ord c) (h:Asc c x m) {i:Nat}:∀ {j:Nat},i<j→j<m→c (x j) (x i)=false
  | j + 1,hi,hj=>(Nat.lt_or_eq_of_le (Nat.le_of_lt_succ hi)).elim (fun h1=>O.trans (h j hj) (h.pair O h1 (Nat.lt_of_succ_lt hj))) fun h1=>h1 ▸ h j hj
structure AscEnd (c:Nat→Nat→Bool) (x:Nat→Nat) (k f m:Nat):Prop where
  le:k≤m
  lt:m≤k + f
  stop:m<k + f→c (x (m + 1)) (x m)=true
  asc:Asc c x (k + 1)→Asc c x (m + 1)
theorem asc_ (hc:Ans N cmp c) (h:Ok N p):∀ (f k:Nat),k + 1 + f≤N→∃ m,kasRun cmp (kas_asc p f (k + 1))=some (m + 1)∧AscEnd c (g p) k f m:=by
  intro f
  induction f with
  | zero=>exact fun k _=>⟨k,rfl,Nat.le_refl _,Nat.le_refl _,fun h=>absurd h (Nat.lt_irrefl _),id⟩
  | succ f ih=>
    intro k hk
    have hk1:k + 1<N:=Nat.lt_of_lt_of_le (Nat.lt_add_of_pos_right (Nat.succ_pos f)) hk
    have e:=hc (g p (k + 1)) (g p k) (h.lt hk1) (h.lt (Nat.lt_of_succ_lt hk1))
    have r:=ask_run (k:=fun c=>if c=true then KasT.ret (k + 1) else kas_asc p f (k + 1 + 1)) e
    cases hb:c (g p (k + 1)) (g p k) with
    | true=>rw [hb] at r;exact ⟨k,r,Nat.le_refl _,Nat.le_add_right ..,fun _=>hb,id⟩
    | false=>
      rw [hb] at r
      obtain ⟨m,q1,q2⟩:=ih (k + 1) (Nat.le_trans (Nat.le_of_eq (Nat.add_right_comm (k + 1) 1 f)) hk)
      have e2:k + 1 + f=k + (f + 1):=Nat.add_right_comm ..
      exact ⟨m,r.trans q1,Nat.le_of_succ_le q2.le,e2 ▸ q2.lt,e2 ▸ q2.stop,fun u=>q2.asc fun i hi=>(Nat.lt_or_eq_of_le (Nat.le_of_lt_succ hi)).elim (u i) fun h1=>by rw [← Nat.succ.inj h1] at hb;exact hb⟩
structure Sh (x y:Nat→Nat) (a n:Nat):Prop where
  lo:∀ {k},k<a→y k=x k
  hi:∀ {k},n≤k→y k=x k
  inn:∀ {k},a≤k→k<n→∃ k',a≤k'∧k'<n∧y k=x k'
theorem Sh.refl:Sh x x a n:=⟨fun _=>rfl,fun _=>rfl,fun {k} h h'=>⟨k,h,h',rfl⟩⟩
theorem Sh.lt (s:Sh x y a n) {k:Nat} (h:k<n):∃ k',k'<n∧y k=x k':=by
  rcases Nat.lt_or_ge k a with h1 | h1
  · exact ⟨k,h,s.lo h1⟩
  · obtain ⟨k',_,h2,h3⟩:=s.inn h1 h
    exact ⟨k',h2,h3⟩
theorem rev_g {i j:Nat} (hj:j≤p.size) (k:Nat):g (kas_rev p i j) k=if i≤k∧k<j then g p (i + j - 1 - k) else g p k:=by
  have:=getElem?_mirror_all (xs:=p) (i:=i) hj k
  split
  · rename_i hk;rw [if_pos hk] at this;exact g_eq this
  · rename_i hk;rw [if_neg hk] at this;exact g_eq this
theorem rev_at {a n k:Nat} (h:a≤k) (h':k<n):a≤a + n - 1 - k∧a + n - 1 - k<n:=by lia
theorem rev_sh (hj:n≤p.size):Sh (g p) (g (kas_rev p a n)) a n:=
  ⟨fun h=>(rev_g hj _).trans (if_neg fun h'=>absurd h (Nat.not_lt.mpr h'.1)),fun h=>(rev_g hj _).trans (if_neg fun h'=>absurd h'.2 (Nat.not_lt.mpr h)),fun h h'=>⟨_,(rev_at h h').1,(rev_at h h').2,(rev_g hj _).trans (if_pos ⟨h,h'⟩)⟩⟩
theorem rev_asc (hm:m≤p.size) (d:Dn c (g p) m):Asc c (g (kas_rev p 0 m)) m:=fun i hi=>by
  rw [rev_g hm,rev_g hm,if_pos ⟨Nat.zero_le _,hi⟩,if_pos ⟨Nat.zero_le _,Nat.lt_of_succ_lt hi⟩]
  exact d _ _ (by lia) (rev_at (Nat.zero_le i) (Nat.lt_of_succ_lt hi)).2
theorem Dn.sh (d:Dn c x n) (b:Bl c x a n) (s:Sh x y a n):Dn c y n:=fun i j hij hj=>by
  rcases Nat.lt_or_ge i a with h1 | h1
  · rw [s.lo h1]
    rcases Nat.lt_or_ge j a with h2 | h2
    · rw [s.lo h2];exact d i j hij hj
    · obtain ⟨j',a1,a2,a3⟩:=s.inn h2 hj
      rw [a3];exact d i j' (Nat.lt_of_lt_of_le h1 a1) a2
  · obtain ⟨i',b1,b2,b3⟩:=s.inn h1 (Nat.lt_trans hij hj)
    obtain ⟨j',a1,a2,a3⟩:=s.inn (Nat.le_of_lt (Nat.lt_of_le_of_lt h1 hij)) hj
    rw [a3,b3];exact b i' j' b1 b2 a1 a2
theorem Dn.last (O:Ord c) (d:Dn c x (k + 1)) {i:Nat} (h:i<k + 1):c (x i) (x k)=false:=
  (Nat.lt_or_eq_of_le (Nat.le_of_lt_succ h)).elim (fun h1=>d i k h1 (Nat.lt_succ_self k)) fun h1=>h1 ▸ O.irr
theorem Dn.snoc (d:Dn c y n) (h:∀ i,i<n→c (y i) (y n)=false):Dn c y (n + 1):=fun i j hij hj=>
  (Nat.lt_or_eq_of_le (Nat.le_of_lt_succ hj)).elim (d i j hij) fun h1=>by rw [h1] at hij ⊢;exact h i hij
theorem Bl.one (O:Ord c):Bl c x n (n + 1):=fun i j h1 h2 h3 h4=>by
  rw [Nat.le_antisymm (Nat.le_of_lt_succ h2) h1,Nat.le_antisymm (Nat.le_of_lt_succ h4) h3];exact O.irr
theorem Bl.snoc (O:Ord c) (b:Bl c x a (k + 1)) (ha:a≤k) (h1:c (x (k + 1)) (x k)=false) (h2:c (x k) (x (k + 1))=false):Bl c x a (k + 1 + 1):=fun i j a1 a2 a3 a4=>by
  have hk:=Nat.lt_succ_self k
  rcases Nat.lt_or_eq_of_le (Nat.le_of_lt_succ a2) with e | e <;> rcases Nat.lt_or_eq_of_le (Nat.le_of_lt_succ a4) with e' | e'
  · exact b i j a1 e a3 e'
  · rw [e'];exact O.trans (b i k a1 e ha hk) h2
  · rw [e];exact O.trans h1 (b k j ha hk a3 e')
  · rw [e,e'];exact O.irr
structure DescEnd (c:Nat→Nat→Bool) (N:Nat) (p p':Array Nat) (a q a' q' f:Nat):Prop where
  ok:Ok N p'
  le:a + q≤a' + q'
  lt:a' + q'≤a + q + f
  dn:Ord c→Dn c (g p) (a + q + 1)→Bl c (g p) a (a + q + 1)→Dn c (g p') (a' + q' + 1)∧Bl c (g p') a' (a' + q' + 1)
theorem cut_block {a q:Nat}:a + q + 1 - (q + 1)=a:=Nat.add_sub_cancel (n:=a) (m:=q + 1)
theorem desc_ (hc:Ans N cmp c):∀ (f:Nat) (p:Array Nat) (a q:Nat),Ok N p→a + q + 1 + f≤N→∃ p' a' q',kasRun cmp (kas_desc f p (a + q + 1) q)=some (p',a' + q' + 1,q')∧DescEnd c N p p' a q a' q' f:=by
  intro f
  induction f with
  | zero=>exact fun p a q h _=>⟨p,a,q,rfl,h,Nat.le_refl _,Nat.le_refl _,fun _ d b=>⟨d,b⟩⟩
  | succ f ih=>
    intro p a q h hn
    have hk1:a + q + 1<N:=Nat.lt_of_lt_of_le (Nat.lt_add_of_pos_right (Nat.succ_pos f)) hn
    have hn1:a + q + 1 + 1 + f≤N:=Nat.le_trans (Nat.le_of_eq (Nat.add_right_comm (a + q + 1) 1 f)) hn
    have l0:=h.lt (Nat.lt_of_succ_lt hk1)
    have l1:=h.lt hk1
    have r:=ask_run (k:=fun c=>if c=true then (if q > 0 then kas_desc f (kas_rev p (a + q + 1 - (q + 1)) (a + q + 1)) (a + q + 1 + 1) 0 else kas_desc f p (a + q + 1 + 1) 0) else .ask (g p (a + q)) (g p (a + q + 1)) fun d=>if d=true then .ret (p,a + q + 1,q) else kas_desc f p (a + q + 1 + 1) (q + 1)) (hc _ _ l1 l0)
    have e2:a + q + 1 + f=a + q + (f + 1):=Nat.add_right_comm ..
    cases hb:c (g p (a + q + 1)) (g p (a + q)) with
    | true=>
      rw [hb] at r
      have step:∀ p₁,Ok N p₁→Sh (g p) (g p₁) a (a + q + 1)→kasRun cmp (kas_desc (f + 1) p (a + q + 1) q)=kasRun cmp (kas_desc f p₁ (a + q + 1 + 1) 0)→∃ p' a' q',kasRun cmp (kas_desc (f + 1) p (a + q + 1) q)=some (p',a' + q' + 1,q')∧DescEnd c N p p' a q a' q' (f + 1):=fun p₁ h₁ s e=>by
        obtain ⟨p',a',q',r1,R⟩:=ih p₁ (a + q + 1) 0 h₁ hn1
        refine ⟨p',a',q',e.trans r1,R.ok,Nat.le_of_succ_le R.le,e2 ▸ R.lt,fun O d b=>R.dn O ((d.sh b s).snoc fun i hi=>?_) (.one O)⟩
        obtain ⟨i',b1,b2⟩:=s.lt hi
        rw [b2,s.hi (Nat.le_refl _)]
        exact O.trans (d.last O b1) (O.asymm hb)
      by_cases hq:q > 0
      · refine step (kas_rev p (a + q + 1 - (q + 1)) (a + q + 1)) ((mirror_perm _ _ _ _).trans h) ?_ (r.trans (congrArg (kasRun cmp) ((if_pos rfl).trans (if_pos hq))))
        rw [cut_block]
        exact rev_sh (h.size.symm ▸ Nat.le_of_lt hk1)
      · exact step p h .refl (r.trans (congrArg (kasRun cmp) ((if_pos rfl).trans (if_neg hq))))
    | false=>
      rw [hb] at r
      have r:=r.trans (ask_run (hc _ _ l0 l1))
      cases hb':c (g p (a + q)) (g p (a + q + 1)) with
      | true=>rw [hb'] at r;exact ⟨p,a,q,r,h,Nat.le_refl _,Nat.le_add_right ..,fun _ d b=>⟨d,b⟩⟩
      | false=>
        rw [hb'] at r
        obtain ⟨p',a',q',r1,R⟩:=ih p a (q + 1) h hn1
        exact ⟨p',a',q',r.trans r1,R.ok,Nat.le_of_succ_le R.le,e2 ▸ R.lt,fun O d b=>R.dn O (d.snoc fun i hi=>O.trans (d.last O hi) hb') (b.snoc O (Nat.le_add_right ..) hb hb')⟩
structure Count (c:Nat→Nat→Bool) (N:Nat) (m:Nat) (p':Array Nat):Prop where
  ok:Ok N p'
  lt:m<N
  asc:Ord c→Asc c (g p') (m + 1)
inductive CountR (cmp:Nat→Nat→Option Bool) (c:Nat→Nat→Bool) (N:Nat) (t:KasT (Nat×Array Nat)) (Q:Prop):Prop
  | mk (m:Nat) (p':Array Nat):kasRun cmp t=some (m + 1,p')→(Q→Count c N m p')→CountR cmp c N t Q
theorem tail3_ (hc:Ans N cmp c) (h:Ok N p) (hn:k<N) (d:Ord c→Dn c (g p) (k + 1)):CountR cmp c N (kas_tail3 (k + 1) N p) True:=by
  have hr:Ok N (kas_rev p 0 (k + 1)):=(mirror_perm _ _ _ _).trans h
  have hk:k + 1 + (N - (k + 1))=N:=Nat.add_sub_cancel' hn
  obtain ⟨m,q1,q2⟩:=asc_ hc hr (N - (k + 1)) k (Nat.le_of_eq hk)
  exact ⟨m,_,(kasRun_bind _ q1).trans rfl,fun _=>⟨hr,Nat.lt_of_le_of_lt q2.lt (by rw [← Nat.succ_le_iff,Nat.succ_eq_add_one,Nat.add_right_comm,hk];exact Nat.le_refl _),fun O=>q2.asc (rev_asc (h.size.symm ▸ hn) (d O))⟩⟩
theorem descPart_ (hc:Ans N cmp c) (h:Ok N p) (hn:k + 1<N) (d:Ord c→Dn c (g p) (k + 1 + 1)):CountR cmp c N (kas_descPart (k + 1) N p) True:=by
  have hk:k + 1 + 1 + (N - (k + 1 + 1))=N:=Nat.add_sub_cancel' hn
  obtain ⟨p',a,q,r1,R⟩:=desc_ hc (N - (k + 1 + 1)) p (k + 1) 0 h (Nat.le_of_eq hk)
  have hl:a + q<N:=Nat.lt_of_le_of_lt R.lt (by rw [← Nat.succ_le_iff,Nat.succ_eq_add_one,Nat.add_right_comm];exact Nat.le_of_eq hk)
  have D:=fun O=>R.dn O (d O) (.one O)
  have e:kasRun cmp (kas_descPart (k + 1) N p)=kasRun cmp (if q > 0 then kas_tail3 (a + q + 1) N (kas_rev p' (a + q + 1 - (q + 1)) (a + q + 1)) else kas_tail3 (a + q + 1) N p'):=kasRun_bind _ r1
  by_cases hq:q > 0
  · rw [if_pos hq,cut_block] at e
    obtain ⟨m,p₂,s1,s2⟩:=tail3_ hc ((mirror_perm _ _ _ _).trans R.ok) hl fun O=>(D O).1.sh (D O).2 (rev_sh (R.ok.size.symm ▸ hl))
    exact ⟨m,p₂,e.trans s1,s2⟩
  · rw [if_neg hq] at e
    obtain ⟨m,p₂,s1,s2⟩:=tail3_ hc R.ok hl fun O=>(D O).1
    exact ⟨m,p₂,e.trans s1,s2⟩
theorem count_ (hc:Ans N cmp c) (h:Ok N p) (h1:0<N):CountR cmp c N (kas_count N p) True:=by
  obtain ⟨m,q1,Q⟩:=asc_ hc h (N - 1) 0 (by rw [Nat.zero_add,Nat.add_sub_cancel' h1];exact Nat.le_refl _)
  have U:Asc c (g p) (m + 1):=Q.asc fun i hi=>absurd hi (Nat.not_lt.mpr (Nat.succ_le_succ (Nat.zero_le _)))
  have hm:m<N:=Nat.lt_of_le_of_lt Q.lt (by rw [Nat.zero_add];exact Nat.sub_lt h1 Nat.one_pos)
  have e:kasRun cmp (kas_count N p)=kasRun cmp (if (m + 1 == N)=true then .ret (m + 1,p) else if m + 1 > 1 then .ask (g p 0) (g p m) fun c=>if c=true then .ret (m + 1,p) else kas_descPart (m + 1) N (kas_rev p 0 (m + 1)) else kas_descPart (m + 1) N p):=kasRun_bind _ q1
  by_cases hmN:m + 1=N
  · rw [if_pos (beq_iff_eq.mpr hmN)] at e
    exact ⟨m,p,e,fun _=>⟨h,hm,fun _=>U⟩⟩
  · rw [if_neg (fun h=>hmN (beq_iff_eq.mp h))] at e
    have hlt:m + 1<N:=Nat.lt_of_le_of_ne hm hmN
    have hs:=Q.stop (by rw [Nat.zero_add];exact Nat.lt_sub_of_add_lt hlt)
    have fin:∀ {t},kasRun cmp (kas_count N p)=kasRun cmp t→CountR cmp c N t True→CountR cmp c N (kas_count N p) True:=fun e ⟨m,p₂,s1,s2⟩=>⟨m,p₂,e.trans s1,s2⟩
    by_cases hm1:m + 1 > 1
    · rw [if_pos hm1,ask_run (hc _ _ (h.lt h1) (h.lt hm))] at e
      cases hb:c (g p 0) (g p m) with
      | true=>rw [hb] at e;exact ⟨m,p,e,fun _=>⟨h,hm,fun _=>U⟩⟩
      | false=>
        rw [hb] at e
        have s:Sh (g p) (g (kas_rev p 0 (m + 1))) 0 (m + 1):=rev_sh (h.size.symm ▸ hm)
        refine fin e (descPart_ hc ((mirror_perm _ _ _ _).trans h) hlt fun O=>?_)
        have lo:∀ {k},k<m + 1→c (g p k) (g p 0)=false:=fun {k} hk=>by
          cases k with
          | zero=>exact O.irr
          | succ k=>exact U.pair O (Nat.succ_pos k) hk
        have hi:∀ {k},k<m + 1→c (g p m) (g p k)=false:=fun hk=>(Nat.lt_or_eq_of_le (Nat.le_of_lt_succ hk)).elim (fun h1=>U.pair O h1 (Nat.lt_succ_self m)) fun h1=>h1 ▸ O.irr
        have al:∀ {i j},i<m + 1→j<m + 1→c (g p i) (g p j)=false:=fun hi' hj=>O.trans (O.trans (lo hi') hb) (hi hj)
        refine Dn.snoc (fun i j hij hj=>?_) fun i hi'=>?_
        · obtain ⟨i',b1,b2⟩:=s.lt (Nat.lt_trans hij hj)
          obtain ⟨j',a1,a2⟩:=s.lt hj
          rw [b2,a2];exact al b1 a1
        · obtain ⟨i',b1,b2⟩:=s.lt hi'
          rw [b2,s.hi (Nat.le_refl _)]
          exact O.trans (al b1 (Nat.lt_succ_self m)) (O.asymm hs)
    · rw [if_neg hm1] at e
      refine fin e (descPart_ hc h hlt fun O=>?_)
      have hm0:m=0:=Nat.eq_zero_of_not_pos fun h=>hm1 (Nat.succ_lt_succ h)
      subst hm0
      exact Dn.snoc (fun i j hij hj=>absurd (Nat.lt_of_lt_of_le hij (Nat.le_of_lt_succ hj)) (Nat.not_lt_zero i)) fun i hi'=>by
        rw [Nat.le_zero.mp (Nat.le_of_lt_succ hi')];exact O.asymm hs
structure Place (c:Nat→Nat→Bool) (x:Nat→Nat) (k m:Nat):Prop where
  lo:∀ {i},i + 1=m→c (x k) (x i)=false
  hi:m<k→c (x m) (x k)=false
theorem place_ (hc:Ans N cmp c) (h:Ok N p) (hk:k<N):∀ (f l r:Nat),r≤l + f→l≤r→r≤k→(Ord c→∀ {i},i + 1=l→c (g p k) (g p i)=false)→(Ord c→r<k→c (g p r) (g p k)=false)→∃ m,kasRun cmp (kas_place p k f l r)=some m∧m≤k∧(Ord c→Place c (g p) k m):=by
  intro f
  induction f with
  | zero=>exact fun l r hf hl hr a b=>⟨l,rfl,Nat.le_trans hl hr,fun O=>⟨a O,Nat.le_antisymm hl hf ▸ b O⟩⟩
  | succ f ih=>
    intro l r hf hl hr a b
    by_cases hlr:l ≥ r
    · exact ⟨l,congrArg (kasRun cmp) (if_pos hlr),Nat.le_trans hl hr,fun O=>⟨a O,Nat.le_antisymm hl hlr ▸ b O⟩⟩
    · have hmid:l≤(l + r) / 2∧(l + r) / 2<r:=by lia
      generalize hM:(l + r) / 2=mid at hmid
      have hmk:=Nat.lt_of_lt_of_le hmid.2 hr
      have e:kasRun cmp (kas_place p k (f + 1) l r)=kasRun cmp (.ask (g p k) (g p mid) fun c=>if c=true then kas_place p k f l mid else kas_place p k f (mid + 1) r):=by
        rw [← hM];exact congrArg (kasRun cmp) (if_neg hlr)
      rw [ask_run (hc _ _ (h.lt hk) (h.lt (Nat.lt_trans hmk hk)))] at e
      cases hb:c (g p k) (g p mid) with
      | true=>
        rw [hb] at e
        obtain ⟨m,q1,q⟩:=ih l mid (Nat.le_of_lt_succ (Nat.lt_of_lt_of_le hmid.2 hf)) hmid.1 (Nat.le_of_lt hmk) a fun O _=>O.asymm hb
        exact ⟨m,e.trans q1,q⟩
      | false=>
        rw [hb] at e
        obtain ⟨m,q1,q⟩:=ih (mid + 1) r (by rw [Nat.add_right_comm];exact Nat.le_trans hf (Nat.add_le_add_right hmid.1 _)) hmid.2 hr (fun _ {i} hi=>by rw [Nat.succ.inj hi];exact hb) b
        exact ⟨m,e.trans q1,q⟩
structure Ins (x y:Nat→Nat) (m k:Nat):Prop where
  lo:∀ {i},i<m→y i=x i
  at_:y m=x k
  le:m≤k
  hi:∀ {i},m≤i→i<k→y (i + 1)=x i
theorem ins_ (hk:k<p.size) (hm:m≤k):Ins (g p) (g (bubble p k (k - m))) m k:=by
  have b:=fun i=>getElem?_bubble (xs:=p) hk (k - m) (Nat.sub_le ..) i
  rw [Nat.sub_sub_self hm] at b
  exact ⟨fun h=>g_eq ((b _).trans ((if_neg (Nat.ne_of_lt h)).trans (if_neg fun h'=>absurd h (Nat.not_lt.mpr (Nat.le_of_lt h'.1))))),g_eq ((b _).trans (if_pos rfl)),hm,fun h h'=>g_eq ((b _).trans ((if_neg (Nat.ne_of_gt (Nat.lt_succ_of_le h))).trans (if_pos ⟨Nat.lt_succ_of_le h,h'⟩)))⟩
theorem Ins.asc (s:Ins x y m k) (P:Place c x k m) (u:Asc c x k):Asc c y (k + 1):=fun i hi=>by
  have hi:=Nat.lt_of_succ_lt_succ hi
  rcases Nat.lt_trichotomy i m with h | rfl | h
  · rcases Nat.lt_or_eq_of_le (Nat.succ_le_of_lt h) with h1 | h1
    · rw [s.lo h,s.lo h1];exact u i (Nat.lt_of_lt_of_le h1 s.le)
    · rw [s.lo h,show i + 1=m from h1,s.at_];exact P.lo h1
  · rw [s.at_,s.hi (Nat.le_refl _) hi];exact P.hi hi
  · cases i with
    | zero=>cases h
    | succ i=>
      have h:=Nat.le_of_lt_succ h
      rw [s.hi h (Nat.lt_of_succ_lt hi),s.hi (Nat.le_succ_of_le h) hi];exact u i hi
theorem bin_ (hc:Ans N cmp c):∀ (f:Nat) (p:Array Nat) (k:Nat),Ok N p→k + f=N→∃ p',kasRun cmp (kas_bin f p k)=some p'∧Ok N p'∧(Ord c→Asc c (g p) k→Asc c (g p') N):=by
  intro f
  induction f with
  | zero=>exact fun p k h hk=>⟨p,rfl,h,fun O u=>hk ▸ u⟩
  | succ f ih=>
    intro p k h hk
    have hkN:k<N:=hk ▸ Nat.lt_add_of_pos_right (Nat.succ_pos f)
    obtain ⟨m,q1,q2,q3⟩:=place_ hc h hkN k 0 k (Nat.le_add_left ..) (Nat.zero_le _) (Nat.le_refl _) (fun _ {i} h=>nomatch h) fun _ h=>absurd h (Nat.lt_irrefl _)
    obtain ⟨p',r1,r2,r3⟩:=ih (bubble p k (k - m)) (k + 1) ((bubble_perm _ _ _).trans h) (by rw [Nat.add_right_comm];exact hk)
    exact ⟨p',(kasRun_bind _ q1).trans r1,r2,fun O u=>r3 O ((ins_ (h.size.symm ▸ hkN) q2).asc (q3 O) u)⟩
theorem sort_ (hc:Ans N cmp c) (h1:0<N):∃ p,kasRun cmp (kas_sort N)=some p∧Ok N p∧(Ord c→Asc c (g p) N):=by
  obtain ⟨m,p,q1,q⟩:=count_ hc (p:=(List.range N).toArray) (Array.Perm.refl _) h1
  have q:=q trivial
  have e:kasRun cmp (kas_sort N)=kasRun cmp (if m + 1<N then kas_bin (N - max (m + 1) 1) p (max (m + 1) 1) else .ret p):=kasRun_bind _ q1
  by_cases hm:m + 1<N
  · rw [if_pos hm,Nat.max_eq_left (Nat.succ_le_succ (Nat.zero_le m))] at e
    obtain ⟨p',r1,r2,r3⟩:=bin_ hc (N - (m + 1)) p (m + 1) q.ok (Nat.add_sub_cancel' (Nat.le_of_lt hm))
    exact ⟨p',e.trans r1,r2,fun O=>r3 O (q.asc O)⟩
  · rw [if_neg hm] at e
    exact ⟨p,e,q.ok,fun O=>Nat.le_antisymm q.lt (Nat.not_lt.mp hm) ▸ q.asc O⟩
end
end Mine
namespace Mine
open PySem PySem.W PyProof.Rows
inductive Sorted {α:Type} (enc:α→V) (l:List α) (R:α→α→Prop) (P:Prop):Prop
  | mk (l':List α):sortV (l.map enc)=some (l'.map enc)→l'.Perm l→(P→l'.Pairwise R)→Sorted enc l R P
structure LtOrd {α:Type} (lt:α→α→Bool):Prop where
  trans:∀ a b d,lt b a=false→lt d b=false→lt d a=false
  asymm:∀ a b,lt a b=true→lt b a=false
theorem getD_at {α:Type} {l:List α} {a:α} {i:Nat} (hi:i<l.length):l[i]?=some (l.getD i a):=by
  rw [List.getD_eq_getElem?_getD,List.getElem?_eq_getElem hi];rfl
theorem sortV_ {α:Type} {enc:α→V} {lt:α→α→Bool} (hk:∀ a,keyV (enc a)=true) (hl:∀ a b,ltV (enc a) (enc b)=some (lt a b)) (l:List α) (h64:l.length<64):Sorted enc l (fun a b=>lt b a=false) (LtOrd lt):=by
  cases l with
  | nil=>exact ⟨[],rfl,.refl _,fun _=>.nil⟩
  | cons a0 l0=>
  cases l0 with
  | nil=>exact ⟨[a0],rfl,.refl _,fun _=>.cons (fun _ h=>nomatch h) .nil⟩
  | cons a1 l1=>
    have hl2:2≤(a0::a1::l1).length:=Nat.le_add_left ..
    generalize a0::a1::l1=l at h64 hl2
    have get:∀ {i},i<l.length→(l.map enc)[i]?=some (enc (l.getD i a0)):=fun hi=>by rw [List.getElem?_map,getD_at (a:=a0) hi];rfl
    obtain ⟨p,q1,q2,q3⟩:=sort_ (N:=l.length) (cmp:=askV (l.map enc)) (c:=fun i j=>lt (l.getD i a0) (l.getD j a0)) (fun i j hi hj=>bS (get hi) (bS (get hj) (hl _ _))) (Nat.le_trans (by decide) hl2)
    refine ⟨p.toList.map fun i=>l.getD i a0,?_,?_,fun O=>?_⟩
    · unfold sortV
      rw [if_neg (by rw [List.length_map];exact Nat.not_lt.mpr hl2),if_pos ⟨by rw [List.length_map];exact h64,List.all_eq_true.mpr fun v hv=>by obtain ⟨a,_,rfl⟩:=List.mem_map.mp hv;exact hk a⟩,List.length_map,q1,List.map_map]
      refine congrArg some (List.map_congr_left fun i hi=>?_)
      have hil:i<l.length:=by
        have:=q2.mem_iff.mp (Array.mem_toList_iff.mp hi)
        exact List.mem_range.mp (List.mem_toArray.mp this)
      rw [List.getD_eq_getElem?_getD,get hil];rfl
    · have h1:p.toList.Perm (List.range l.length):=Array.perm_iff_toList_perm.mp q2
      refine (h1.map _).trans (.of_eq (List.ext_getElem (by rw [List.length_map,List.length_range]) fun i h1 h2=>?_))
      rw [List.getElem_map,List.getElem_range]
      exact Option.some.inj ((getD_at h2).symm.trans (List.getElem?_eq_getElem h2))
    · have O':Ord fun i j=>lt (l.getD i a0) (l.getD j a0):=⟨fun h1 h2=>O.trans _ _ _ h2 h1,fun h=>O.asymm _ _ h⟩
      rw [List.pairwise_map,List.pairwise_iff_getElem]
      intro i j hi hj hij
      have:=(q3 O').pair O' hij (by rw [← q2.size];exact hj)
      rw [Array.length_toList] at hi hj
      simpa only [g,Array.getD_eq_getD_getElem?,Array.getElem?_eq_getElem hi,Array.getElem?_eq_getElem hj,Array.getElem_toList,Option.getD_some] using this
theorem ltFlat_int {i j:Int} {xs ys:List V}:ltFlat (.int i::xs) (.int j::ys)=if i=j then ltFlat xs ys else some (decide (i<j)):=by
  rw [ltFlat.eq_3]
  by_cases h:i=j
  · rw [if_pos h];exact bS (o:=ltItem (.int i) (.int j)) (t:=none) (congrArg some (if_pos h)) rfl
  · rw [if_neg h];exact bS (o:=ltItem (.int i) (.int j)) (t:=some (decide (i<j))) (congrArg some (if_neg h)) rfl
theorem ltFlat_str {x y:Str} {xs ys:List V}:ltFlat (.str x::xs) (.str y::ys)=if x=y then ltFlat xs ys else some (ltStr x y):=by
  rw [ltFlat.eq_3]
  by_cases h:x=y
  · rw [if_pos h];exact bS (o:=ltItem (.str x) (.str y)) (t:=none) (congrArg some (if_pos h)) rfl
  · rw [if_neg h];exact bS (o:=ltItem (.str x) (.str y)) (t:=some (ltStr x y)) (congrArg some (if_neg h)) rfl
noncomputable def ltP (a b:Int×Int):Bool:=if a.1=b.1 then (if a.2=b.2 then false else decide (a.2<b.2)) else decide (a.1<b.1)
theorem ltV_P (a b:Int×Int):ltV (encP a) (encP b)=some (ltP a b):=by
  show ltFlat [.int a.1,.int a.2] [.int b.1,.int b.2]=_
  rw [ltFlat_int,ltFlat_int,ltP]
  split
  · split <;> rfl
  · rfl
theorem le_P {a b:Int×Int}:ltP b a=false↔(a.1<b.1∨a.1=b.1∧a.2≤b.2):=by
  unfold ltP
  split
  · split
    · rename_i h h';exact ⟨fun _=>.inr ⟨h.symm,Int.le_of_eq h'.symm⟩,fun _=>rfl⟩
    · rename_i h _;rw [decide_eq_false_iff_not,Int.not_lt];exact ⟨fun h'=>.inr ⟨h.symm,h'⟩,fun h'=>h'.elim (fun h'=>absurd h (Int.ne_of_gt h')) fun h'=>h'.2⟩
  · rename_i h;rw [decide_eq_false_iff_not,Int.not_lt];exact ⟨fun h'=>.inl (Int.lt_iff_le_and_ne.mpr ⟨h',fun e=>h e.symm⟩),fun h'=>h'.elim Int.le_of_lt fun h'=>Int.le_of_eq h'.1⟩
theorem gt_P {a b:Int×Int} (h:ltP a b=true):ltP b a=false:=by
  cases e:ltP b a with
  | false=>rfl
  | true=>
    have h1:=mt le_P.mpr (ne_false_of_eq_true h)
    have h2:=mt le_P.mpr (ne_false_of_eq_true e)
    have e:a.1=b.1:=Int.le_antisymm (Int.not_lt.mp fun h=>h1 (.inl h)) (Int.not_lt.mp fun h=>h2 (.inl h))
    exact absurd ((Int.le_total a.2 b.2).imp (.inr ⟨e,·⟩) (.inr ⟨e.symm,·⟩)) (not_or.mpr ⟨h2,h1⟩)
theorem sortP (l:Dom) (h:l.length<64):Sorted encP l (fun a b=>a.1≤b.1) True:=by
  obtain ⟨l',q1,q2,q3⟩:=sortV_ (enc:=encP) (lt:=ltP) (fun _=>rfl) ltV_P l h
  exact ⟨l',q1,q2,fun _=>(q3 ⟨fun a b d h1 h2=>le_P.mpr ((le_P.mp h1).elim (fun h=>.inl ((le_P.mp h2).elim (Int.lt_trans h) fun k=>k.1 ▸ h)) fun h=>(le_P.mp h2).elim (fun k=>.inl (h.1 ▸ k)) fun k=>.inr ⟨h.1.trans k.1,Int.le_trans h.2 k.2⟩),fun a b=>gt_P⟩).imp fun h=>(le_P.mp h).elim Int.le_of_lt fun h=>Int.le_of_eq h.1⟩
noncomputable def ltL (a b:Lit):Bool:=if a.x=b.x then (if a.s.s=b.s.s then (if a.k=b.k then false else decide (a.k<b.k)) else ltStr a.s.s b.s.s) else decide (a.x<b.x)
theorem ltV_L (a b:Lit):ltV (encL a) (encL b)=some (ltL a b):=by
  show ltFlat [.int a.x,.str a.s.s,.int a.k] [.int b.x,.str b.s.s,.int b.k]=_
  rw [ltFlat_int,ltFlat_str,ltFlat_int,ltL]
  split
  · split
    · split <;> rfl
    · rfl
  · rfl
theorem sortL (l:List Lit) (h:l.length<64):Sorted encL l (fun _ _=>True) False:=by
  obtain ⟨l',q1,q2,_⟩:=sortV_ (enc:=encL) (lt:=ltL) (fun _=>rfl) ltV_L l h
  exact ⟨l',q1,q2,False.elim⟩
end Mine
namespace Mine
open PySem
section
variable {α β:Type} [DecidableEq α] [DecidableEq β] {x:α}
theorem firsts_mem:∀ {ks acc:List α},x ∈ firsts acc ks↔x ∈ acc∨x ∈ ks:=by
  intro ks
  induction ks with
  | nil=>exact fun {acc}=>⟨.inl,fun h=>h.elim id fun h=>nomatch h⟩
  | cons k ks ih=>
    intro acc
    unfold firsts
    split
    · rename_i h
      rw [ih]
      exact ⟨Or.imp_right (.tail _),fun h'=>h'.elim .inl fun h'=>(List.mem_cons.mp h').elim (fun e=>.inl (e ▸ h)) .inr⟩
    · rw [ih,List.mem_append,List.mem_singleton,or_assoc,← List.mem_cons]
theorem firsts_len:∀ {ks acc:List α},(firsts acc ks).length≤acc.length + ks.length:=by
  intro ks
  induction ks with
  | nil=>exact Nat.le_refl _
  | cons k ks ih=>
    intro acc
    unfold firsts
    split
    · exact Nat.le_trans ih (Nat.le_succ _)
    · refine Nat.le_trans ih (Nat.le_of_eq ?_)
      rw [List.length_append,List.length_cons,List.length_cons,List.length_nil,Nat.zero_add,Nat.add_assoc,Nat.add_comm 1]
theorem firsts_map {f:α→β} (hf:∀ a b,f a=f b→a=b):∀ {ks acc:List α},firsts (acc.map f) (ks.map f)=(firsts acc ks).map f:=by
  intro ks
  induction ks with
  | nil=>exact rfl
  | cons k ks ih=>
    intro acc
    have hm:f k ∈ acc.map f↔k ∈ acc:=⟨fun h=>by obtain ⟨a,h1,h2⟩:=List.mem_map.mp h;rw [← hf _ _ h2];exact h1,List.mem_map_of_mem⟩
    rw [List.map_cons]
    unfold firsts
    by_cases h:k ∈ acc
    · rw [if_pos (hm.mpr h),if_pos h];exact ih
    · rw [if_neg (fun h'=>h (hm.mp h')),if_neg h,← ih,List.map_append];rfl
end
noncomputable def flatL (l:Lit):Flat:=[.inl l.x,.inr l.s.s,.inl l.k]
theorem Sg.inj {a b:Sg} (h:a.s=b.s):a=b:=(cSg.eqv a b).mp (beq_iff_eq.mpr h)
theorem flatL_inj (a b:Lit) (h:flatL a=flatL b):a=b:=by
  obtain ⟨x,s,k⟩:=a
  obtain ⟨y,t,j⟩:=b
  injection h with h1 h
  injection h with h2 h
  injection h with h3
  injection h1 with h1
  injection h2 with h2
  injection h3 with h3
  rw [show x=y from h1,show s=t from Sg.inj h2,show k=j from h3]
theorem tups_L:∀ (ls:List Lit),tupsOf (ls.map encL)=some (ls.map flatL)
  | []=>rfl
  | l::ls=>mS (tups_L ls)
structure Same (ks ls:List Lit):Prop where
  mem:∀ l,l ∈ ks↔l ∈ ls
  len:ks.length≤ls.length
inductive DictL (ls:List Lit):Prop
  | mk (ks:List Lit):dictV (ls.map encL)=some (.dct (ks.map encL))→Same ks ls→DictL ls
theorem dict_L (ls:List Lit):DictL ls:=by
  cases ls with
  | nil=>exact ⟨[],rfl,fun _=>.rfl,Nat.le_refl _⟩
  | cons l ls=>
    refine ⟨firsts [] (l::ls),?_,fun x=>by rw [firsts_mem];exact or_iff_right (fun h=>nomatch h),by have:=firsts_len (ks:=l::ls) (acc:=[]);rwa [List.length_nil,Nat.zero_add] at this⟩
    show (tupsOf ((l::ls).map encL)).map _=_
    rw [tups_L]
    refine congrArg (fun ks=>some (V.dct ks)) ?_
    show (firsts (([]:List Lit).map flatL) ((l::ls).map flatL)).map unflat=_
    rw [firsts_map flatL_inj,List.map_map];rfl
theorem flat_one {α β:Type} {f:α→β}:∀ (l:List α),l.flatMap (fun a=>[f a])=l.map f
  | []=>rfl
  | a::l=>congrArg (f a::·) (flat_one l)
section
variable {W n lo:Nat} {μ:M} {im inw:Nat} {s:St} {x v:Int}
inductive Once (μ:M) (r:Option (V×M)) (ls:List Lit):Prop
  | mk (ls':List Lit):r=some (.tup (ls'.map encL),μ)→Same ls' ls→Once μ r ls
theorem once_ {v:V} {ls:List Lit} (h:iterV μ.length μ v=some (ls.map encL)) (h64:ls.length<64):Once μ (callF tab W (n + 1) "once_each" false lo [v] μ) ls:=by
  obtain ⟨ks,k1,k2⟩:=dict_L ls
  obtain ⟨ls',q1,q2,_⟩:=sortL ks (Nat.lt_of_le_of_lt k2.len h64)
  refine ⟨ls',call_pure f_once_each rfl (run_e (e_bi d_tuple c_tuple (vs:=[.lst (ls'.map encL)]) rfl (l_one (e_bi d_sorted c_sorted (vs:=[.dct (ks.map encL)]) (show (sortV (ks.map encL)).map _=_ from mS q1) (l_one (bS (e_var rfl) (bS h (bS (flatM_pure (g:=fun l=>[encL l]) fun _ _=>rfl) ((congrArg (fun l=>(dictV l).map (·,μ)) (flat_one ls)).trans (mS k1)))))))))) (frz_tup (frz_map fun _=>frz_L)),fun l=>q2.mem_iff.trans (k2.mem l),by rw [q2.length_eq];exact k2.len⟩
noncomputable def St.lack (s:St) (x v:Int):List Lit:=
  if hasD (s.fst x) v=false then [] else if v<lowD (s.dom x) then [⟨x,.ge,v + 1⟩] else if highD (s.dom x)<v then [⟨x,.le,v - 1⟩] else [⟨x,.ne,v⟩]
theorem frz_newL {ls:List Lit}:frz μ.length (μ++[MObj.list (ls.map encL)]) 8 (.obj μ.length)=some (.lst (ls.map encL)):=frz_obj (Nat.le_refl _) get_last (frz_map fun _=>frz_L)
theorem lacking_ (h:StoreAt μ im inw s) (hx:isVarI x) (hne:s.dom x≠[]):callF tab W (n + 3) "lacking" false lo [.obj 3,.int x,.int v] μ=some (.lst ((s.lack x v).map encL),μ):=by
  refine call_pure f_lacking rfl (μ':=μ++[MObj.list ((s.lack x v).map encL)]) (v:=.obj μ.length) (run_ret (ρ₁:=params0 ["store", "x", "v"] [.obj 3,.int x,.int v]) (k_ite (e_not (e_call d_has_domains has_ (l_cons (e_def rfl (h.find m_Store_initial rfl) (initial_ h hx) rfl) rfl))) ?_)) frz_newL
  unfold St.lack
  cases c1:hasD (s.fst x) v with
  | false=>exact k_ret rfl
  | true=>
    rw [if_neg (fun h=>nomatch h)]
    refine k_fn rfl (k_ite (e_cmp rfl (e_def rfl (h.find m_Store_low rfl) (low_ h hx hne) rfl) rfl) ?_)
    by_cases c2:v<lowD (s.dom x)
    · rw [if_pos c2];exact k_t (decide_eq_true c2) (k_ret rfl)
    · rw [if_neg c2]
      refine k_fn (decide_eq_false c2) (k_ite (e_cmp rfl (e_def rfl (h.find m_Store_high rfl) (high_ h hx hne) rfl) rfl) ?_)
      by_cases c3:highD (s.dom x)<v
      · rw [if_pos c3];exact k_t (decide_eq_true c3) (k_ret rfl)
      · rw [if_neg c3];exact k_fn (decide_eq_false c3) (k_ret rfl)
theorem lack_len:(s.lack x v).length≤1:=by
  unfold St.lack
  split
  · exact Nat.zero_le _
  · split
    · exact Nat.le_refl _
    · split <;> exact Nat.le_refl _
theorem room_ (h:StoreAt μ im inw s) {x z:Int} (hx:isVarI x) (hz:isVarI z):callF tab W (n + 3) "room" false lo [.obj 3,.tup [.int x,.int z]] μ=some (.int (sizeD (s.dom x) + sizeD (s.dom z)),μ):=by
  have:=bi_sum (f:=fun y=>sizeD (s.dom y)) (l:=[x,z]) (μ:=μ)
  refine call_pure f_room rfl (run_e (e_bi d_sum c_sum (this.trans (congrArg (fun i=>some (V.int i)) ?_)) (l_one (ev_comp (l:=[x,z]) (enc:=V.int) (k:=fun _=>true) (g:=fun y=>.int (sizeD (s.dom y))) (vi:=.tup [.int x,.int z]) rfl rfl fun y hy=>⟨_,rfl,rfl,fun _=>e_def rfl (h.find m_Store_width rfl) (width_ h ?_) rfl⟩)))) rfl
  · show _ + (_ + 0)=_
    rw [Int.add_zero]
  · rcases List.mem_cons.mp hy with rfl | hy
    · exact hx
    · rw [List.mem_singleton.mp hy];exact hz
end
end Mine
namespace Mine
open PySem
noncomputable def mem (v:Int) (d:Dom):Prop:=∃ p ∈ d,p.1≤v∧v≤p.2
structure Wf (d:Dom):Prop where
  apart:d.Pairwise fun p q=>p.2 + 1<q.1
  ne:∀ p ∈ d,p.1≤p.2
theorem mem_nil {v:Int}:¬ mem v []:=fun ⟨_,h,_⟩=>nomatch h
theorem mem_cons {v:Int} {p:Int×Int} {d:Dom}:mem v (p::d)↔(p.1≤v∧v≤p.2)∨mem v d:=by simp [mem]
theorem mem_app {v:Int} {d e:Dom}:mem v (d++e)↔mem v d∨mem v e:=by
  simp only [mem,List.mem_append]
  constructor
  · rintro ⟨p,h | h,h2⟩
    · exact .inl ⟨p,h,h2⟩
    · exact .inr ⟨p,h,h2⟩
  · rintro (⟨p,h,h2⟩ | ⟨p,h,h2⟩)
    · exact ⟨p,.inl h,h2⟩
    · exact ⟨p,.inr h,h2⟩
theorem Wf.nil:Wf []:=⟨.nil,fun _ h=>nomatch h⟩
theorem Wf.tail {p:Int×Int} {d:Dom} (h:Wf (p::d)):Wf d:=⟨(List.pairwise_cons.mp h.apart).2,fun q hq=>h.ne q (.tail _ hq)⟩
theorem Wf.above {p:Int×Int} {d:Dom} (h:Wf (p::d)) {v:Int} (hv:mem v d):p.2 + 1<v:=by
  obtain ⟨q,hq,h1,_⟩:=hv
  have:=(List.pairwise_cons.mp h.apart).1 q hq
  lia
theorem Wf.ext:∀ {d e:Dom},Wf d→Wf e→(∀ v,mem v d↔mem v e)→d=e
  | [],[],_,_,_=>rfl
  | [],q::e,_,he,h=>by
    have h1:=he.ne q (.head _)
    exact absurd ((h q.1).mpr (mem_cons.mpr (.inl ⟨Int.le_refl _,h1⟩))) mem_nil
  | p::d,[],hd,_,h=>by
    have h1:=hd.ne p (.head _)
    exact absurd ((h p.1).mp (mem_cons.mpr (.inl ⟨Int.le_refl _,h1⟩))) mem_nil
  | p::d,q::e,hd,he,h=>by
    have hp:=hd.ne p (.head _)
    have hq:=he.ne q (.head _)
    have a1:p.1=q.1:=by
      have h1:=mem_cons.mp ((h p.1).mp (mem_cons.mpr (.inl ⟨Int.le_refl _,hp⟩)))
      have h2:=mem_cons.mp ((h q.1).mpr (mem_cons.mpr (.inl ⟨Int.le_refl _,hq⟩)))
      rcases h1 with h1 | h1 <;> rcases h2 with h2 | h2
      · lia
      · have:=hd.above h2;lia
      · have:=he.above h1;lia
      · have:=hd.above h2;have:=he.above h1;lia
    have a2:p.2=q.2:=by
      have e1:¬ p.2<q.2:=fun hlt=>by
        have h1:=mem_cons.mp ((h (p.2 + 1)).mpr (mem_cons.mpr (.inl ⟨by lia,by lia⟩)))
        rcases h1 with h1 | h1
        · lia
        · have:=hd.above h1;lia
      have e2:¬ q.2<p.2:=fun hlt=>by
        have h1:=mem_cons.mp ((h (q.2 + 1)).mp (mem_cons.mpr (.inl ⟨by lia,by lia⟩)))
        rcases h1 with h1 | h1
        · lia
        · have:=he.above h1;lia
      lia
    have hpq:p=q:=Prod.ext a1 a2
    subst hpq
    congr 1
    refine hd.tail.ext he.tail fun v=>⟨fun hv=>?_,fun hv=>?_⟩
    · have h1:=hd.above hv
      rcases mem_cons.mp ((h v).mp (mem_cons.mpr (.inr hv))) with h2 | h2
      · lia
      · exact h2
    · have h1:=he.above hv
      rcases mem_cons.mp ((h v).mpr (mem_cons.mpr (.inr hv))) with h2 | h2
      · lia
      · exact h2
theorem hasD_mem:∀ {d:Dom},Wf d→∀ v,hasD d v=true↔mem v d
  | [],_,v=>by simp [hasD,nextD,mem]
  | p::d,h,v=>by
    have ih:=hasD_mem h.tail v
    unfold hasD at *
    simp only [nextD]
    by_cases hv:v≤p.2
    · rw [if_pos hv,mem_cons]
      simp only [beq_iff_eq,Option.some.injEq]
      constructor
      · intro e;exact .inl ⟨by lia,hv⟩
      · rintro (⟨h1,h2⟩ | h1)
        · lia
        · have:=h.above h1;lia
    · rw [if_neg hv,ih,mem_cons]
      constructor
      · exact .inr
      · rintro (⟨h1,h2⟩ | h1)
        · lia
        · exact h1
noncomputable def sat (l:Lit) (v:Int):Prop:=match l.s with
  | .le=>v≤l.k
  | .ge=>l.k≤v
  | .eq=>v=l.k
  | .ne=>v≠l.k
theorem up_mem {d:Dom} {k v:Int}:mem v (upD d k)↔mem v d∧v≤k:=by
  simp only [mem,upD,List.mem_map,List.mem_filter,decide_eq_true_eq]
  constructor
  · rintro ⟨_,⟨p,⟨h1,h2⟩,rfl⟩,h3,h4⟩
    exact ⟨⟨p,h1,h3,by simp at h4;lia⟩,by simp at h4;lia⟩
  · rintro ⟨⟨p,h1,h3,h4⟩,h5⟩
    exact ⟨_,⟨p,⟨h1,by lia⟩,rfl⟩,h3,by simp;lia⟩
theorem from_mem {d:Dom} {k v:Int}:mem v (fromD d k)↔mem v d∧k≤v:=by
  simp only [mem,fromD,List.mem_map,List.mem_filter,decide_eq_true_eq]
  constructor
  · rintro ⟨_,⟨p,⟨h1,h2⟩,rfl⟩,h3,h4⟩
    exact ⟨⟨p,h1,by simp at h3;lia,h4⟩,by simp at h3;lia⟩
  · rintro ⟨⟨p,h1,h3,h4⟩,h5⟩
    exact ⟨_,⟨p,⟨h1,by lia⟩,rfl⟩,by simp;lia,h4⟩
theorem up_wf {d:Dom} {k:Int} (h:Wf d):Wf (upD d k):=by
  refine ⟨?_,fun p hp=>?_⟩
  · unfold upD
    rw [List.pairwise_map]
    exact (h.apart.sublist List.filter_sublist).imp fun {p q} hpq=>by simp;lia
  · obtain ⟨q,hq,rfl⟩:=List.mem_map.mp hp
    obtain ⟨h1,h2⟩:=List.mem_filter.mp hq
    have:=h.ne q h1
    simp at h2 ⊢;lia
theorem from_wf {d:Dom} {k:Int} (h:Wf d):Wf (fromD d k):=by
  refine ⟨?_,fun p hp=>?_⟩
  · unfold fromD
    rw [List.pairwise_map]
    refine List.Pairwise.imp_of_mem ?_ (h.apart.sublist List.filter_sublist)
    intro p q hp hq hpq
    obtain ⟨h1,h2⟩:=List.mem_filter.mp hp
    simp at h2 ⊢;lia
  · obtain ⟨q,hq,rfl⟩:=List.mem_map.mp hp
    obtain ⟨h1,h2⟩:=List.mem_filter.mp hq
    have:=h.ne q h1
    simp at h2 ⊢;lia
theorem wo_mem {d:Dom} {k v:Int}:mem v (woD d k)↔mem v d∧v≠k:=by
  unfold woD
  rw [mem_app,up_mem,from_mem]
  constructor
  · rintro (⟨h1,h2⟩ | ⟨h1,h2⟩)
    · exact ⟨h1,by lia⟩
    · exact ⟨h1,by lia⟩
  · rintro ⟨h1,h2⟩
    rcases Int.lt_or_gt_of_ne h2 with h3 | h3
    · exact .inl ⟨h1,by lia⟩
    · exact .inr ⟨h1,by lia⟩
theorem wo_wf {d:Dom} {k:Int} (h:Wf d):Wf (woD d k):=by
  refine ⟨?_,fun p hp=>?_⟩
  · unfold woD
    rw [List.pairwise_append]
    refine ⟨(up_wf h).apart,(from_wf h).apart,fun p hp q hq=>?_⟩
    obtain ⟨a,ha,rfl⟩:=List.mem_map.mp hp
    obtain ⟨b,hb,rfl⟩:=List.mem_map.mp hq
    exact Int.lt_of_lt_of_le (Int.lt_of_le_of_lt (Int.add_le_add_right (Int.min_le_right ..) 1) (by rw [Int.sub_add_cancel];exact Int.lt_succ k)) (Int.le_max_right ..)
  · rcases List.mem_append.mp hp with h1 | h1
    · exact (up_wf h).ne p h1
    · exact (from_wf h).ne p h1
theorem meet_mem {d:Dom} {k v:Int} (h:Wf d):mem v (meetK d k)↔mem v d∧v=k:=by
  unfold meetK
  cases hk:hasD d k with
  | true=>
    have h1:=(hasD_mem h k).mp hk
    simp only [if_true,mem_cons]
    constructor
    · rintro (h2 | h2)
      · have:v=k:=by lia
        exact ⟨this ▸ h1,this⟩
      · exact absurd h2 mem_nil
    · rintro ⟨h2,rfl⟩;exact .inl ⟨Int.le_refl _,Int.le_refl _⟩
  | false=>
    simp only [Bool.false_eq_true,if_false]
    constructor
    · intro h2;exact absurd h2 mem_nil
    · rintro ⟨h2,rfl⟩
      have:=(hasD_mem h v).mpr h2
      rw [hk] at this;cases this
theorem meet_wf {d:Dom} {k:Int}:Wf (meetK d k):=by
  unfold meetK
  split
  · exact ⟨.cons (fun _ h=>nomatch h) .nil,fun p hp=>by simp at hp;subst hp;exact Int.le_refl _⟩
  · exact .nil
theorem struck_mem {l:Lit} {d:Dom} {v:Int} (h:Wf d):mem v (struckD l d)↔mem v d∧sat l v:=by
  unfold struckD sat
  cases l.s with
  | le=>exact up_mem
  | ge=>exact from_mem
  | eq=>exact meet_mem h
  | ne=>exact wo_mem
theorem struck_wf {l:Lit} {d:Dom} (h:Wf d):Wf (struckD l d):=by
  unfold struckD
  cases l.s with
  | le=>exact up_wf h
  | ge=>exact from_wf h
  | eq=>exact meet_wf
  | ne=>exact wo_wf h
theorem struck_same {l:Lit} {d:Dom} (h:Wf d):struckD l d=d↔∀ v,mem v d→sat l v:=by
  constructor
  · intro e v hv
    rw [← e] at hv
    exact ((struck_mem h).mp hv).2
  · intro hs
    exact (struck_wf h).ext h fun v=>⟨fun hv=>((struck_mem h).mp hv).1,fun hv=>(struck_mem h).mpr ⟨hv,hs v hv⟩⟩
theorem wf_empty {d:Dom} (h:Wf d):d=[]↔∀ v,¬ mem v d:=by
  constructor
  · rintro rfl v;exact mem_nil
  · intro hn
    exact h.ext .nil fun v=>⟨fun hv=>absurd hv (hn v),fun hv=>absurd hv mem_nil⟩
theorem sat_neg {l:Lit} {v:Int}:sat (negL l) v↔¬ sat l v:=by
  obtain ⟨x,s,k⟩:=l
  cases s <;> simp only [sat,negL] <;> lia
theorem negL_x {l:Lit}:(negL l).x=l.x:=by
  obtain ⟨x,s,k⟩:=l
  cases s <;> rfl
theorem ints_mem {v:Int}:∀ {n:Nat} {lo:Int},v ∈ intsI lo n↔lo≤v∧v<lo + n
  | 0,lo=>by simp [intsI]
  | n + 1,lo=>by simp only [intsI,List.mem_cons,ints_mem (n:=n)];lia
theorem ints_nodup:∀ {n:Nat} {lo:Int},(intsI lo n).Nodup
  | 0,lo=>.nil
  | n + 1,lo=>by
    rw [intsI,List.nodup_cons]
    exact ⟨fun h=>by have:=ints_mem.mp h;lia,ints_nodup⟩
theorem ints_len:∀ {n:Nat} {lo:Int},(intsI lo n).length=n
  | 0,lo=>rfl
  | n + 1,lo=>by simp [intsI,ints_len (n:=n)]
theorem vals_mem {v:Int} {d:Dom}:v ∈ valsD d↔mem v d:=by
  simp only [valsD,List.mem_flatMap,ints_mem,mem]
  constructor
  · rintro ⟨p,h1,h2,h3⟩;exact ⟨p,h1,h2,by lia⟩
  · rintro ⟨p,h1,h2,h3⟩;exact ⟨p,h1,h2,by lia⟩
theorem vals_nodup:∀ {d:Dom},Wf d→(valsD d).Nodup
  | [],_=>.nil
  | p::d,h=>by
    show (intsI p.1 _++valsD d).Nodup
    rw [List.nodup_append]
    refine ⟨ints_nodup,vals_nodup h.tail,fun a ha b hb=>?_⟩
    have h1:=ints_mem.mp ha
    have h2:=h.above (vals_mem.mp hb)
    lia
theorem size_vals:∀ {d:Dom},Wf d→sizeD d=(valsD d).length
  | [],_=>rfl
  | p::d,h=>by
    have ih:=size_vals h.tail
    have hp:=h.ne p (.head _)
    show p.2 - p.1 + 1 + sizeD d=((intsI p.1 _++valsD d).length:Int)
    rw [List.length_append,ints_len,ih]
    lia
theorem len_vals:∀ {d:Dom},Wf d→d.length≤(valsD d).length
  | [],_=>Nat.le_refl _
  | p::d,h=>by
    have ih:=len_vals h.tail
    have hp:=h.ne p (.head _)
    show d.length + 1≤(intsI p.1 _++valsD d).length
    rw [List.length_append,ints_len]
    lia
theorem low_is {d:Dom} (h:Wf d) (hne:d≠[]):mem (lowD d) d∧∀ v,mem v d→lowD d≤v:=by
  cases d with
  | nil=>exact absurd rfl hne
  | cons p d=>
    refine ⟨mem_cons.mpr (.inl ⟨Int.le_refl _,h.ne p (.head _)⟩),fun v hv=>?_⟩
    rcases mem_cons.mp hv with h1 | h1
    · exact h1.1
    · have:=h.above h1;have:=h.ne p (.head _);show p.1≤v;lia
theorem high_is:∀ {d:Dom},Wf d→d≠[]→mem (highD d) d∧∀ v,mem v d→v≤highD d
  | [],_,hne=>absurd rfl hne
  | [p],h,_=>⟨mem_cons.mpr (.inl ⟨h.ne p (.head _),Int.le_refl _⟩),fun v hv=>by
    rcases mem_cons.mp hv with h1 | h1
    · exact h1.2
    · exact absurd h1 mem_nil⟩
  | p::q::d,h,_=>by
    obtain ⟨a,b⟩:=high_is h.tail (by simp)
    have e:highD (p::q::d)=highD (q::d):=by simp [highD,List.getLast?_cons_cons]
    rw [e]
    refine ⟨mem_cons.mpr (.inr a),fun v hv=>?_⟩
    rcases mem_cons.mp hv with h1 | h1
    · have:=h.above a;lia
    · exact b v h1
theorem nodup_sub {α:Type} [DecidableEq α]:∀ {a b:List α},a.Nodup→(∀ x ∈ a,x ∈ b)→a.length≤b.length
  | [],b,_,_=>Nat.zero_le _
  | x::a,b,hn,hs=>by
    rw [List.nodup_cons] at hn
    have h1:=nodup_sub (a:=a) (b:=b.erase x) hn.2 fun y hy=>by
      have hne:y≠x:=fun e=>hn.1 (e ▸ hy)
      exact (List.mem_erase_of_ne hne).mpr (hs y (.tail _ hy))
    have h2:=List.length_erase_of_mem (hs x (.head _))
    have h3:=List.length_pos_of_mem (hs x (.head _))
    simp only [List.length_cons]
    lia
theorem nodup_lt {α:Type} [DecidableEq α] {a b:List α} {x:α} (hn:a.Nodup) (hs:∀ y ∈ a,y ∈ b) (hx:x ∈ b) (hx':x ∉ a):a.length<b.length:=by
  have:=nodup_sub (a:=x::a) (b:=b) (List.nodup_cons.mpr ⟨hx',hn⟩) fun y hy=>by
    rcases List.mem_cons.mp hy with rfl | h
    · exact hx
    · exact hs y h
  simp at this;lia
end Mine
namespace Mine
open PySem
structure Ctx where
  x:Int
  z:Int
  row:List Int
  f0:Dom
  f1:Dom
noncomputable def Ctx.at (c:Ctx) (p:Int):Int:=c.row.getD (p - 1).toNat 0
noncomputable def Ctx.pl (c:Ctx) (p:Int):Prop:=1≤p∧p≤c.row.length
noncomputable def Ctx.fst (c:Ctx) (y:Int):Dom:=if y=0 then c.f0 else c.f1
structure Ctx.Ok (c:Ctx):Prop where
  hx:isVarI c.x
  hz:isVarI c.z
  len:c.row.length≤5
  w0:Wf c.f0
  w1:Wf c.f1
structure isPair (c:Ctx) (pr:Int×Int):Prop where
  pl:c.pl pr.1
  at_:c.at pr.1=pr.2
  mx:mem pr.1 (c.fst c.x)
  mz:mem pr.2 (c.fst c.z)
  one:c.x=c.z→pr.1=pr.2
noncomputable def satP (c:Ctx) (pr:Int×Int) (l:Lit):Prop:=sat l (if l.x=c.x then pr.1 else pr.2)
noncomputable def nwOK (nw:List (Int×V)):Prop:=nw=[]∨nw=[(0,.bool true)]∨nw=[(1,.bool true)]∨nw=[(0,.bool true),(1,.bool true)]∨nw=[(1,.bool true),(0,.bool true)]
theorem nwOK.put {nw:List (Int×V)} (h:nwOK nw) {x:Int} (hx:isVarI x):nwOK (putE x (.bool true) nw):=by
  rcases hx with rfl | rfl <;> rcases h with rfl | rfl | rfl | rfl | rfl
  · exact .inr (.inl rfl)
  · exact .inr (.inl rfl)
  · exact .inr (.inr (.inr (.inr rfl)))
  · exact .inr (.inr (.inr (.inl rfl)))
  · exact .inr (.inr (.inr (.inr rfl)))
  · exact .inr (.inr (.inl rfl))
  · exact .inr (.inr (.inr (.inl rfl)))
  · exact .inr (.inr (.inl rfl))
  · exact .inr (.inr (.inr (.inl rfl)))
  · exact .inr (.inr (.inr (.inr rfl)))
theorem nwOK.len {nw:List (Int×V)} (h:nwOK nw):nw.length≤2:=by
  rcases h with rfl | rfl | rfl | rfl | rfl <;> exact Nat.le_of_ble_eq_true rfl
structure SInv (c:Ctx) (s:St):Prop where
  wf:∀ y,Wf (s.dom y)
  ne:∀ y,s.dom y≠[]
  fst:∀ y,s.fst y=c.fst y
  sub:∀ y {v},mem v (s.dom y)→mem v (c.fst y)
  nf:s.failed=false
  nw:nwOK s.nw
variable {c:Ctx} {s s' s₁:St} {l:Lit} {R:List Lit} {rs:Option (List Lit)}
theorem same_at {α:Type} {x y:Int} (h:y=0↔x=0) {a b:α}:(if y=0 then a else b)=if x=0 then a else b:=by
  by_cases hy:y=0
  · rw [if_pos hy,if_pos (h.mp hy)]
  · rw [if_neg hy,if_neg (fun e=>hy (h.mpr e))]
theorem put_at {y:Int} {d:Dom}:(s.put l rs d).dom y=if y=0↔l.x=0 then d else s.dom y:=by
  show (if y=0 then (if l.x=0 then d else s.d0) else (if l.x=0 then s.d1 else d))=if y=0↔l.x=0 then d else if y=0 then s.d0 else s.d1
  by_cases hy:y=0
  · by_cases hx:l.x=0
    · rw [if_pos hy,if_pos hx,if_pos ⟨fun _=>hx,fun _=>hy⟩]
    · rw [if_pos hy,if_neg hx,if_neg (fun e=>hx (e.mp hy)),if_pos hy]
  · by_cases hx:l.x=0
    · rw [if_neg hy,if_pos hx,if_neg (fun e=>hy (e.mpr hx)),if_neg hy]
    · rw [if_neg hy,if_neg hx,if_pos ⟨fun e=>absurd e hy,fun e=>absurd e hx⟩]
theorem var_iff {x y:Int} (hy:isVarI y) (hx:isVarI x) (h:y=0↔x=0):y=x:=by
  rcases hy with rfl | rfl
  · exact (h.mp rfl).symm
  · rcases hx with rfl | rfl
    · exact absurd (h.mpr rfl) (by decide)
    · rfl
theorem put_dom {y:Int} (hy:isVarI y) (hx:isVarI l.x) {d:Dom}:(s.put l rs d).dom y=if y=l.x then d else s.dom y:=by
  rw [put_at]
  by_cases h:y=l.x
  · rw [if_pos h,if_pos (by rw [h])]
  · rw [if_neg h,if_neg (fun e=>h (var_iff hy hx e))]
theorem put_one {y:Int} {d:Dom} {P:Dom→Prop} (h1:(y=0↔l.x=0)→P d) (h2:P (s.dom y)):P ((s.put l rs d).dom y):=by
  rw [put_at]
  split
  · exact h1 (by assumption)
  · exact h2
theorem SInv.put (h:SInv c s) (hx:isVarI l.x) (hne:struckD l (s.dom l.x)≠[]):SInv c (s.put l rs (struckD l (s.dom l.x))) where
  wf _:=put_one (fun _=>struck_wf (h.wf _)) (h.wf _)
  ne _:=put_one (P:=(·≠[])) (fun _=>hne) (h.ne _)
  fst:=h.fst
  sub y v:=put_one (P:=fun d=>mem v d→mem v (c.fst y)) (fun e hv=>by
    have:=h.sub l.x ((struck_mem (h.wf _)).mp hv).1
    rwa [show c.fst y=c.fst l.x from same_at e]) (h.sub y)
  nf:=h.nf
  nw:=h.nw.put hx
inductive How (s:St) (l:Lit) (rs:Option (List Lit)) (s':St):Prop
  | same:s'=s→struckD l (s.dom l.x)=s.dom l.x→How s l rs s'
  | put:s'.tr=s.tr++[⟨l.x,s.dom l.x,l,rs⟩]→s'=s.put l rs (struckD l (s.dom l.x))→struckD l (s.dom l.x)≠[]→struckD l (s.dom l.x)≠s.dom l.x→How s l rs s'
structure EnterT (c:Ctx) (s:St) (l:Lit) (rs:Option (List Lit)) (s':St):Prop where
  inv:SInv c s'
  mem:∀ y,isVarI y→∀ v,mem v (s'.dom y)↔mem v (s.dom y)∧(y=l.x→sat l v)
  mks:s'.mks=s.mks
  how:How s l rs s'
theorem enter_true (h:SInv c s) (hx:isVarI l.x) (e:(s.enter l rs).1=true):EnterT c s l rs (s.enter l rs).2:=by
  unfold St.enter at e ⊢
  by_cases h1:struckD l (s.dom l.x)=[]
  · rw [if_pos h1] at e;cases e
  · rw [if_neg h1]
    by_cases h2:struckD l (s.dom l.x)=s.dom l.x
    · rw [if_pos h2]
      exact ⟨h,fun y hy v=>⟨fun hv=>⟨hv,fun hyl=>(struck_same (h.wf _)).mp h2 v (hyl ▸ hv)⟩,fun hv=>hv.1⟩,rfl,.same rfl h2⟩
    · rw [if_neg h2]
      refine ⟨h.put hx h1,fun y hy v=>?_,rfl,.put rfl rfl h1 h2⟩
      rw [put_dom hy hx]
      split
      · rename_i hyl
        rw [struck_mem (h.wf _),hyl]
        exact ⟨fun a=>⟨a.1,fun _=>a.2⟩,fun a=>⟨a.1,a.2 rfl⟩⟩
      · rename_i hyl
        exact ⟨fun a=>⟨a,fun e=>absurd e hyl⟩,fun a=>a.1⟩
structure Stands (c:Ctx) (s:St) (p:Int):Prop where
  pl:c.pl p
  x:mem p (s.dom c.x)
  z:mem (c.at p) (s.dom c.z)
structure Core (c:Ctx) (K:Int→Prop) (s:St):Prop where
  place:∀ p,K p→Stands c s p
  fwd:c.x=c.z→∀ p,K p→K (c.at p)
  bwd:c.x=c.z→∀ q,K q→∃ p,K p∧c.at p=q
structure GoodL (c:Ctx) (s:St) (l:Lit) (R:List Lit):Prop where
  len:∀ y,isVarI y→(s.dom y).length≤31
  rlen:R.length≤5
  lx:l.x=c.x∨l.x=c.z
  reasons:∀ r ∈ R,(r.x=c.x∨r.x=c.z)∧∀ v,mem v (s.dom r.x)→sat r v
  pairs:∀ pr,isPair c pr→(∀ r ∈ R,satP c pr r)→satP c pr l
  core:∀ K,Core c K s→∀ p,K p→(l.x=c.x→sat l p)∧(l.x=c.z→sat l (c.at p))
theorem GoodL.hx (hc:c.Ok) (h:GoodL c s l R):isVarI l.x:=by rcases h.lx with e | e <;> rw [e];exact hc.hx;exact hc.hz
inductive Runs (c:Ctx) (s:St):St→Prop
  | refl:Runs c s s
  | step {s₁:St} {l:Lit} {R:List Lit}:Runs c s s₁→GoodL c s₁ l R→(s₁.enter l (some R)).1=true→Runs c s (s₁.enter l (some R)).2
theorem Runs.trans {s₂:St} (a:Runs c s s₁) (b:Runs c s₁ s₂):Runs c s s₂:=by
  induction b with
  | refl=>exact a
  | step _ g e ih=>exact .step ih g e
theorem Runs.inv (hc:c.Ok) (h:SInv c s) (r:Runs c s s₁):SInv c s₁:=by
  induction r with
  | refl=>exact h
  | step _ g e ih=>exact (enter_true ih (g.hx hc) e).inv
theorem Runs.sub (hc:c.Ok) (h:SInv c s) (r:Runs c s s₁) {y:Int} (hy:isVarI y) {v:Int} (hv:mem v (s₁.dom y)):mem v (s.dom y):=by
  induction r with
  | refl=>exact hv
  | step r g e ih=>exact ih (((enter_true (r.inv hc h) (g.hx hc) e).mem y hy v).mp hv).1
theorem Runs.mks (hc:c.Ok) (h:SInv c s) (r:Runs c s s₁):s₁.mks=s.mks:=by
  induction r with
  | refl=>rfl
  | step r g e ih=>exact (enter_true (r.inv hc h) (g.hx hc) e).mks.trans ih
theorem Core.enter (hc:c.Ok) {K:Int→Prop} (h:SInv c s) (k:Core c K s) (g:GoodL c s l R) (e:(s.enter l (some R)).1=true):Core c K (s.enter l (some R)).2:=by
  have hm:=(enter_true h (g.hx hc) e).mem
  refine ⟨fun p hp=>?_,k.fwd,k.bwd⟩
  obtain ⟨a,b,d⟩:=k.place p hp
  obtain ⟨u,w⟩:=g.core K k p hp
  exact ⟨a,(hm _ hc.hx p).mpr ⟨b,fun e=>u e.symm⟩,(hm _ hc.hz _).mpr ⟨d,fun e=>w e.symm⟩⟩
theorem Runs.core (hc:c.Ok) {K:Int→Prop} (h:SInv c s) (k:Core c K s) (r:Runs c s s₁):Core c K s₁:=by
  induction r with
  | refl=>exact k
  | step r g e ih=>exact ih.enter hc (r.inv hc h) g e
theorem Runs.gone (hc:c.Ok) (h:SInv c s) (r:Runs c s s₁):s₁=s∨∃ y v,isVarI y∧(y=c.x∨y=c.z)∧mem v (s.dom y)∧¬ mem v (s₁.dom y):=by
  induction r with
  | refl=>exact .inl rfl
  | @step s₁ l R r g e ih=>
    have hi:=r.inv hc h
    obtain ⟨_,hm,_,hs⟩:=enter_true hi (g.hx hc) e
    rcases hs with ⟨hs,_⟩ | ⟨_,hs,h1,h2⟩
    · rw [hs];exact ih
    · right
      have:∃ v,mem v (s₁.dom l.x)∧¬ sat l v:=Classical.byContradiction fun hn=>h2 ((struck_same (hi.wf _)).mpr fun v hv=>Classical.byContradiction fun hs=>hn ⟨v,hv,hs⟩)
      obtain ⟨v,hv,hns⟩:=this
      exact ⟨l.x,v,g.hx hc,g.lx,r.sub hc h (g.hx hc) hv,fun hv'=>hns (((hm _ (g.hx hc) v).mp hv').2 rfl)⟩
inductive Ended (c:Ctx) (s:St) (b:Bool) (s':St):Prop
  | yes:b=true→Runs c s s'→Ended c s b s'
  | no:b=false→∀ s₁ l R,Runs c s s₁→GoodL c s₁ l R→(s₁.enter l (some R)).1=false→s'=(s₁.enter l (some R)).2→Ended c s b s'
theorem Ended.trans {b:Bool} {s₂:St} (a:Runs c s s₁) (e:Ended c s₁ b s₂):Ended c s b s₂:=by
  rcases e with ⟨e,r⟩ | ⟨e,s₃,l,R,r,g,h1,h2⟩
  · exact .yes e (a.trans r)
  · exact .no e s₃ l R (a.trans r) g h1 h2
theorem Ended.one (g:GoodL c s l R):Ended c s (s.enter l (some R)).1 (s.enter l (some R)).2:=by
  cases e:(s.enter l (some R)).1 with
  | true=>exact .yes rfl (.step .refl g e)
  | false=>exact .no rfl s l R .refl g e rfl
theorem fail_core (hc:c.Ok) {K:Int→Prop} (h:SInv c s) (k:Core c K s) (g:GoodL c s l R) (e:(s.enter l (some R)).1=false):∀ p,¬ K p:=by
  intro p hp
  obtain ⟨a,b,d⟩:=k.place p hp
  obtain ⟨u,w⟩:=g.core K k p hp
  unfold St.enter at e
  split at e
  · rename_i h1
    rcases g.lx with hl | hl
    · exact (wf_empty (struck_wf (h.wf _))).mp h1 p ((struck_mem (h.wf _)).mpr ⟨by rw [hl];exact b,u hl⟩)
    · exact (wf_empty (struck_wf (h.wf _))).mp h1 (c.at p) ((struck_mem (h.wf _)).mpr ⟨by rw [hl];exact d,w hl⟩)
  · split at e <;> cases e
theorem fail_state (e:(s.enter l rs).1=false):struckD l (s.dom l.x)=[]∧(s.enter l rs).2=s.wF true (rs.getD []++[negL l]):=by
  unfold St.enter at e ⊢
  split at e
  · rename_i h1;rw [if_pos h1];exact ⟨h1,rfl⟩
  · split at e <;> cases e
structure Fix (c:Ctx) (s:St):Prop where
  a:∀ i,mem i (s.dom c.x)→c.pl i∧mem (c.at i) (s.dom c.z)
  b:∀ v,mem v (s.dom c.z)→∃ i,mem i (s.dom c.x)∧c.at i=v
theorem Fix.core (h:Fix c s):Core c (fun p=>mem p (s.dom c.x)) s:=
  ⟨fun p hp=>⟨(h.a p hp).1,hp,(h.a p hp).2⟩,fun e p hp=>by rw [e];exact (h.a p hp).2,fun e q hq=>by rw [e] at hq;exact h.b q hq⟩
theorem Fix.again (hc:c.Ok) (h:SInv c s) (f:Fix c s) {b:Bool} {s':St} (e:Ended c s b s'):b=true∧s'=s:=by
  rcases e with ⟨e,r⟩ | ⟨e,s₁,l,R,r,g,h1,h2⟩
  · refine ⟨e,?_⟩
    have k:=r.core hc h f.core
    rcases r.gone hc h with h3 | ⟨y,v,hy,hyx,hv,hn⟩
    · exact h3
    · exfalso
      rcases hyx with rfl | rfl
      · exact hn (k.place v hv).x
      · obtain ⟨i,hi,rfl⟩:=f.b v hv
        exact hn (k.place i hi).z
  · exfalso
    have k:=r.core hc h f.core
    have hne:=h.ne c.x
    obtain ⟨hl,_⟩:=low_is (h.wf c.x) hne
    exact fail_core hc (r.inv hc h) k g h1 _ hl
end Mine
namespace Mine
open PySem
variable {c:Ctx} {s s' s₁:St} {l:Lit} {R:List Lit}
theorem lack_ok (h:SInv c s) {y v:Int} (hv:¬ mem v (s.dom y)) (hf:Wf (c.fst y)):(∀ r ∈ s.lack y v,r.x=y∧∀ u,mem u (s.dom y)→sat r u)∧(mem v (c.fst y)→∃ r ∈ s.lack y v,¬ sat r v):=by
  obtain ⟨l1,l2⟩:=low_is (h.wf y) (h.ne y)
  obtain ⟨g1,g2⟩:=high_is (h.wf y) (h.ne y)
  unfold St.lack
  rw [h.fst y]
  by_cases c1:hasD (c.fst y) v=false
  · rw [if_pos c1]
    refine ⟨fun r hr=>(nomatch hr),fun hm=>?_⟩
    rw [(hasD_mem hf v).mpr hm] at c1;cases c1
  · rw [if_neg c1]
    by_cases c2:v<lowD (s.dom y)
    · rw [if_pos c2]
      refine ⟨fun r hr=>?_,fun _=>⟨_,.head _,by simp only [sat];lia⟩⟩
      obtain rfl:r=_:=List.mem_singleton.mp hr
      exact ⟨rfl,fun u hu=>by have:=l2 u hu;simp only [sat];lia⟩
    · rw [if_neg c2]
      by_cases c3:highD (s.dom y)<v
      · rw [if_pos c3]
        refine ⟨fun r hr=>?_,fun _=>⟨_,.head _,by simp only [sat];lia⟩⟩
        obtain rfl:r=_:=List.mem_singleton.mp hr
        exact ⟨rfl,fun u hu=>by have:=g2 u hu;simp only [sat];lia⟩
      · rw [if_neg c3]
        refine ⟨fun r hr=>?_,fun _=>⟨_,.head _,by simp [sat]⟩⟩
        obtain rfl:r=_:=List.mem_singleton.mp hr
        exact ⟨rfl,fun u hu=>by simp only [sat];rintro rfl;exact hv hu⟩
theorem Ctx.Ok.wf (hc:c.Ok) (y:Int):Wf (c.fst y):=by unfold Ctx.fst;split;exact hc.w0;exact hc.w1
theorem good_place (hlen:∀ y,isVarI y→(s.dom y).length≤31) (hrl:R.length≤5) (hc:c.Ok) (h:SInv c s) {i:Int} (hp:c.pl i) (hv:¬ mem (c.at i) (s.dom c.z)) (hR:∀ r,r ∈ R↔r ∈ s.lack c.z (c.at i)):GoodL c s ⟨c.x,.ne,i⟩ R:=by
  obtain ⟨a,b⟩:=lack_ok h hv (hc.wf c.z)
  refine ⟨hlen,hrl,.inl rfl,fun r hr=>?_,fun pr hpr hs=>?_,fun K k p hKp=>⟨fun _=>?_,fun e=>?_⟩⟩
  · obtain ⟨h1,h2⟩:=a r ((hR r).mp hr)
    rw [h1];exact ⟨.inr rfl,h2⟩
  · obtain ⟨p1,p2,p3,p4,p5⟩:=hpr
    show sat _ (if c.x=c.x then pr.1 else pr.2)
    rw [if_pos rfl]
    simp only [sat]
    intro e
    have e2:pr.2=c.at i:=by rw [← p2,e]
    obtain ⟨r,hr,hns⟩:=b (by rw [← e2];exact p4)
    have h1:=hs r ((hR r).mpr hr)
    unfold satP at h1
    rw [(a r hr).1] at h1
    apply hns
    by_cases hz:c.z=c.x
    · rw [if_pos hz,p5 hz.symm,e2] at h1;exact h1
    · rw [if_neg hz,e2] at h1;exact h1
  · simp only [sat]
    rintro rfl
    exact hv (k.place p hKp).z
  · simp only [sat]
    intro e2
    have:=k.fwd e p hKp
    rw [e2] at this
    exact hv (k.place i this).z
theorem good_value (hlen:∀ y,isVarI y→(s.dom y).length≤31) (hrl:R.length≤5) (hc:c.Ok) (h:SInv c s) {v:Int} (hv:∀ p,c.pl p→c.at p=v→¬ mem p (s.dom c.x)) (hR:∀ r,r ∈ R↔∃ p,c.pl p∧c.at p=v∧r ∈ s.lack c.x p):GoodL c s ⟨c.z,.ne,v⟩ R:=by
  refine ⟨hlen,hrl,.inr rfl,fun r hr=>?_,fun pr hpr hs=>?_,fun K k p hKp=>⟨fun e=>?_,fun _=>?_⟩⟩
  · obtain ⟨p,h1,h2,h3⟩:=(hR r).mp hr
    obtain ⟨h4,h5⟩:=(lack_ok h (hv p h1 h2) (hc.wf c.x)).1 r h3
    rw [h4];exact ⟨.inl rfl,h5⟩
  · obtain ⟨p1,p2,p3,p4,p5⟩:=hpr
    have e0:satP c pr ⟨c.z,.ne,v⟩↔pr.2≠v:=by
      unfold satP
      by_cases hz:c.z=c.x
      · rw [if_pos hz,p5 hz.symm];rfl
      · rw [if_neg hz];rfl
    rw [e0]
    intro e
    have hnm:=hv pr.1 p1 (p2.trans e)
    obtain ⟨a,b⟩:=lack_ok h hnm (hc.wf c.x)
    obtain ⟨r,hr,hns⟩:=b p3
    have h1:=hs r ((hR r).mpr ⟨pr.1,p1,p2.trans e,hr⟩)
    unfold satP at h1
    rw [(a r hr).1,if_pos rfl] at h1
    exact hns h1
  · simp only [sat]
    rintro rfl
    obtain ⟨q,hq,e2⟩:=k.bwd e.symm p hKp
    obtain ⟨q1,q2,_⟩:=k.place q hq
    exact hv q q1 e2 q2
  · simp only [sat]
    intro e
    obtain ⟨q1,q2,_⟩:=k.place p hKp
    exact hv p q1 e q2
theorem good_bound (hlen:∀ y,isVarI y→(s.dom y).length≤31) (hl:l.x=c.z) (hs:∀ p,c.pl p→sat l (c.at p)):GoodL c s l []:=by
  refine ⟨hlen,Nat.zero_le _,.inr hl,fun r hr=>(nomatch hr),fun pr hpr _=>?_,fun K k p hKp=>⟨fun e=>?_,fun _=>hs p (k.place p hKp).pl⟩⟩
  · obtain ⟨p1,p2,p3,p4,p5⟩:=hpr
    unfold satP
    have:=hs pr.1 p1
    rw [p2] at this
    by_cases hz:l.x=c.x
    · rw [if_pos hz,p5 (by rw [← hl,hz])];exact this
    · rw [if_neg hz];exact this
  · obtain ⟨q,hq,rfl⟩:=k.bwd (by rw [← e,hl]) p hKp
    exact hs q (k.place q hq).pl
theorem good_place_bound (hlen:∀ y,isVarI y→(s.dom y).length≤31) (hl:l.x=c.x) (hs:∀ p,c.pl p→sat l p):GoodL c s l []:=by
  refine ⟨hlen,Nat.zero_le _,.inl hl,fun r hr=>(nomatch hr),fun pr hpr _=>?_,fun K k p hKp=>⟨fun _=>hs p (k.place p hKp).pl,fun e=>hs _ (k.place _ (k.fwd (by rw [← hl,e]) p hKp)).pl⟩⟩
  obtain ⟨p1,_⟩:=hpr
  unfold satP
  rw [if_pos hl]
  exact hs pr.1 p1
end Mine
namespace Mine
open PySem
section
variable {W n lo:Nat} {μ μ':M} {im inw:Nat} {c:Ctx} {s s' s₁:St} {l:Lit} {R:List Lit}
noncomputable def ruleF (c:Ctx):List (Str×V):=[("number", .int (-1)),("scope", .tup [.int c.x,.int c.z]),("strength", .str "values"),("index", .int c.x),("numbers", .tup (c.row.map .int)),("z", .int c.z)]
structure RuleAt (μ:M) (c:Ctx):Prop where
  obj:μ[11]?=some (.inst "ElementOf" 10)
  dct:μ[10]?=some (.sdict (ruleF c))
theorem StoreAt.far (h:StoreAt μ im inw s) {i:Nat} (h1:9≤i) (h2:i<13):Far im inw i:=
  have:=h.him
  have:=h.hin
  ⟨Nat.ne_of_lt (Nat.lt_of_lt_of_le (by decide) h1),Nat.ne_of_lt (Nat.lt_of_lt_of_le (by decide) h1),Nat.ne_of_lt (Nat.lt_of_lt_of_le (by decide) h1),Nat.ne_of_lt (Nat.lt_of_lt_of_le (by decide) h1),by lia,by lia⟩
theorem RuleAt.frm (h:RuleAt μ c) (st:StoreAt μ im inw s) (f:Frm im inw μ μ'):RuleAt μ' c:=
  ⟨(f.at_ 11 (st.far (by decide) (by decide))).trans h.obj,(f.at_ 10 (st.far (by decide) (by decide))).trans h.dct⟩
theorem RuleAt.flds (h:RuleAt μ c):fieldsAt μ (.obj 11)=some (Str.ofString "ElementOf", 10,ruleF c):=flds_of h.obj h.dct
theorem RuleAt.a_scope (h:RuleAt μ c):attrV tab.fields μ (.obj 11) "scope" = some (.tup [.int c.x,.int c.z]):=attr_of h.flds rfl rfl
theorem RuleAt.a_index (h:RuleAt μ c):attrV tab.fields μ (.obj 11) "index" = some (.int c.x):=attr_of h.flds rfl rfl
theorem RuleAt.a_numbers (h:RuleAt μ c):attrV tab.fields μ (.obj 11) "numbers" = some (.tup (c.row.map .int)):=attr_of h.flds rfl rfl
theorem RuleAt.a_z (h:RuleAt μ c):attrV tab.fields μ (.obj 11) "z" = some (.int c.z):=attr_of h.flds rfl rfl
theorem RuleAt.find (h:RuleAt μ c) {m q:Str} (hm:tab.meths "ElementOf" m=some q) (hn:lookE m (ruleF c)=none):methFind tab (.obj 11) m μ=some (some q):=find_def h.obj h.dct hn hm
structure At (im inw:Nat) (c:Ctx) (μ:M) (s:St):Prop where
  st:StoreAt μ im inw s
  ru:RuleAt μ c
  inv:SInv c s
  len:∀ y,isVarI y→(s.dom y).length≤31
theorem At.strike (hc:c.Ok) (A:At im inw c μ s) (g:GoodL c s l R) (ht:s.tr.length<1000000) (hW:1001<W):Did im inw μ (callF tab W (n + 5) "Store.strike" false 0 [.obj 3,encL l,.tup (R.map encL)] μ) (.bool (s.enter l (some R)).1) (s.enter l (some R)).2:=
  strike_ A.st (g.hx hc) (Nat.le_trans (A.len _ (g.hx hc)) (by decide)) ht A.inv.nw.len (Nat.le_trans g.rlen (by decide)) hW
theorem e_strike {a d e:C} {ρ:Rho} {r:Option (V×M)} (h:StoreAt μ im inw s) (h1:callF tab W n "Store.strike" false 0 [.obj 3,encL l,.tup (R.map encL)] μ=r) (ha:ev tab (callF tab W n) 0 a ρ μ=some (.obj 3,μ)) (hd:ev tab (callF tab W n) 0 d ρ μ=some (encL l,μ)) (he:ev tab (callF tab W n) 0 e ρ μ=some (.tup (R.map encL),μ)):ev tab (callF tab W n) 0 (.meth a "strike" [d,e]) ρ μ=r:=
  e_def ha (h.find m_Store_strike rfl) h1 (l_cons hd (l_one he))
theorem At.next (hc:c.Ok) (A:At im inw c μ s) (r:Runs c s s') (h:StoreAt μ' im inw s') (f:Frm im inw μ μ') (hl:∀ y,isVarI y→(s'.dom y).length≤31):At im inw c μ' s':=⟨h,A.ru.frm A.st f,r.inv hc A.inv,hl⟩
theorem enter_len (h:SInv c s) (hx:isVarI l.x) (hs:l.s=.le∨l.s=.ge) {rs:Option (List Lit)} (e:(s.enter l rs).1=true) {y:Int} (hy:isVarI y):((s.enter l rs).2.dom y).length≤(s.dom y).length:=by
  rcases (enter_true h hx e).how with ⟨h1,_⟩ | ⟨_,h1,_⟩
  · rw [h1];exact Nat.le_refl _
  · rw [h1,put_dom hy hx]
    split
    · rename_i hyl
      rw [hyl]
      unfold struckD
      rcases hs with hs | hs <;> rw [hs]
      · exact upD_len
      · exact fromD_len
    · exact Nat.le_refl _
theorem enter_tr (h:SInv c s) (hx:isVarI l.x) {rs:Option (List Lit)} (e:(s.enter l rs).1=true):(s.enter l rs).2.tr.length≤s.tr.length + 1:=by
  rcases (enter_true h hx e).how with ⟨h1,_⟩ | ⟨h2,_⟩
  · rw [h1];exact Nat.le_succ _
  · rw [h2,List.length_append];exact Nat.le_refl _
theorem GoodL.run (g:GoodL c s l R) (e:(s.enter l (some R)).1=true):Runs c s (s.enter l (some R)).2:=.step .refl g e
structure Least (le:Int→Int→Prop) (xs:List Int) (m:Int):Prop where
  le:∀ v ∈ xs,le m v
  mem:m ∈ xs
theorem minI_is:∀ (xs:List Int) (m:Int),Least (·≤·) (m::xs) (minI m xs):=by
  intro xs
  induction xs with
  | nil=>exact fun m=>⟨fun v hv=>Int.le_of_eq (List.mem_singleton.mp hv).symm,.head _⟩
  | cons x xs ih=>
    intro m
    unfold minI
    by_cases h:x<m
    · rw [if_pos h]
      exact ⟨fun v hv=>(List.mem_cons.mp hv).elim (fun e=>e ▸ Int.le_trans ((ih x).le x (.head _)) (Int.le_of_lt h)) ((ih x).le v),.tail _ (ih x).mem⟩
    · rw [if_neg h]
      exact ⟨fun v hv=>(List.mem_cons.mp hv).elim (fun e=>(ih m).le v (e ▸ .head _)) fun hv=>(List.mem_cons.mp hv).elim (fun e=>e ▸ Int.le_trans ((ih m).le m (.head _)) (Int.not_lt.mp h)) fun hv=>(ih m).le v (.tail _ hv),(List.mem_cons.mp (ih m).mem).elim (fun e=>by rw [e];exact .head _) fun h=>.tail _ (.tail _ h)⟩
theorem maxI_is:∀ (xs:List Int) (m:Int),Least (· ≥ ·) (m::xs) (maxI m xs):=by
  intro xs
  induction xs with
  | nil=>exact fun m=>⟨fun v hv=>Int.le_of_eq (List.mem_singleton.mp hv),.head _⟩
  | cons x xs ih=>
    intro m
    unfold maxI
    by_cases h:m<x
    · rw [if_pos h]
      exact ⟨fun v hv=>(List.mem_cons.mp hv).elim (fun e=>e ▸ Int.le_trans (Int.le_of_lt h) ((ih x).le x (.head _))) ((ih x).le v),.tail _ (ih x).mem⟩
    · rw [if_neg h]
      exact ⟨fun v hv=>(List.mem_cons.mp hv).elim (fun e=>(ih m).le v (e ▸ .head _)) fun hv=>(List.mem_cons.mp hv).elim (fun e=>e ▸ Int.le_trans (Int.not_lt.mp h) ((ih m).le m (.head _))) fun hv=>(ih m).le v (.tail _ hv),(List.mem_cons.mp (ih m).mem).elim (fun e=>by rw [e];exact .head _) fun h=>.tail _ (.tail _ h)⟩
theorem at_get {p:Int} (h:c.pl p):c.row[(p - 1).toNat]?=some (c.at p):=getD_at (by have:=h.1;have:=h.2;lia)
theorem at_mem {p:Int} (h:c.pl p):c.at p ∈ c.row:=List.mem_of_getElem? (at_get h)
theorem at_nat {i:Nat}:c.at (i + 1:Nat)=c.row.getD i 0:=congrArg (c.row.getD · 0) (by lia)
theorem pl_nat {i:Nat} (h:i<c.row.length):c.pl (i + 1:Nat):=⟨Int.ofNat_le.mpr (Nat.succ_pos i),Int.ofNat_le.mpr h⟩
inductive AtOf (c:Ctx) (v:Int):Prop
  | mk (p:Int):c.pl p→c.at p=v→AtOf c v
theorem mem_at {v:Int} (h:v ∈ c.row):AtOf c v:=by
  obtain ⟨i,hi,rfl⟩:=List.getElem_of_mem h
  exact ⟨(i + 1:Nat),pl_nat hi,at_nat.trans (Option.some.inj ((getD_at hi).symm.trans (List.getElem?_eq_getElem hi)))⟩
theorem ints_out (l:List Int):intsOf (l.map .int)=some l:=by
  have:=intsOf_is (f:=fun x=>x) (l:=l)
  rwa [List.map_id''] at this
  exact fun _=>rfl
theorem eqI {a b:Int}:eqV μ (.int a) (.int b)=some (decide (a=b)):=eqV_is cInt (by decide)
theorem bi_minT {r:Int} {rs:List Int}:biV μ "min" [.tup ((r::rs).map .int)]=some (.int (minI r rs)):=show (intsOf ((r::rs).map .int)).bind _=_ from bS (ints_out _) rfl
theorem bi_maxT {r:Int} {rs:List Int}:biV μ "max" [.tup ((r::rs).map .int)]=some (.int (maxI r rs)):=show (intsOf ((r::rs).map .int)).bind _=_ from bS (ints_out _) rfl
inductive EndB (im inw:Nat) (c:Ctx) (μ:M) (s:St) (r:Option (V×M)) (P:St→Prop):Prop
  | mk (b:Bool) (μ':M) (s':St):r=some (.bool b,μ')→StoreAt μ' im inw s'→Frm im inw μ μ'→Ended c s b s'→(b=true→Runs c s s'→P s')→EndB im inw c μ s r P
theorem EndB.stop {r:Option (V×M)} {P:St→Prop} (e1:r=some (.bool (s.enter l (some R)).1,μ')) (g:GoodL c s l R) (hb:(s.enter l (some R)).1=false) (h:StoreAt μ' im inw (s.enter l (some R)).2) (f:Frm im inw μ μ'):EndB im inw c μ s r P:=
  ⟨_,_,_,e1,h,f,.one g,fun h=>by rw [hb] at h;cases h⟩
structure Within (c:Ctx) (s s':St):Prop where
  lo:∀ v,mem v (s'.dom c.z)→∃ p,c.pl p∧c.at p≤v
  hi:∀ v,mem v (s'.dom c.z)→∃ p,c.pl p∧v≤c.at p
  len:∀ y,isVarI y→(s'.dom y).length≤31
  tr:s'.tr.length≤s.tr.length + 2
theorem between_ (hc:c.Ok) (A:At im inw c μ s) (hne:c.row≠[]) (ht:s.tr.length<900000) (hW:1001<W) :
    EndB im inw c μ s (callF tab W (n + 6) "between" false 0 [.obj 3,.int c.z,.tup (c.row.map .int)] μ) (Within c s):=by
  cases hrow:c.row with
  | nil=>exact absurd hrow hne
  | cons r0 rs=>
  have mn:=minI_is rs r0
  have mx:=maxI_is rs r0
  rw [← hrow] at mn mx
  have g1:GoodL c s ⟨c.z,.ge,minI r0 rs⟩ []:=good_bound A.len rfl fun p hp=>mn.le _ (at_mem hp)
  obtain ⟨μ1,e1,h1,f1⟩:=A.strike (W:=W) (n:=n) hc g1 (by lia) hW
  have key:∀ {q μ'},evAnd tab (callF tab W (n + 5)) 0 [_,_] (params0 ["store", "x", "numbers"] [.obj 3,.int c.z,.tup ((r0::rs).map .int)]) μ=some (q,μ')→callF tab W (n + 6) "between" false 0 [.obj 3,.int c.z,.tup ((r0::rs).map .int)] μ=some (.bool q,μ'):=fun h=>
    call_imp f_between rfl rfl (run_ret (k_ite (q:=false) (e_cmp (e_bi d_len c_len (vs:=[.tup ((r0::rs).map .int)]) rfl rfl) rfl (eqI.trans (congrArg some (decide_eq_false (by rw [List.length_map,List.length_cons];lia))))) (k_ret (e_and h))))
  have s1:=e_strike (ρ:=params0 ["store", "x", "numbers"] [.obj 3,.int c.z,.tup ((r0::rs).map .int)]) A.st e1 (a:=.var "store") (d:=.tup [(.var "x"),(.const (.str ">=")),(.call "min" false [(.var "numbers")])]) (e:=.tup []) rfl (e_tup (l_cons rfl (l_cons rfl (l_one (e_bi d_min c_min bi_minT rfl))))) rfl
  cases hb:(s.enter ⟨c.z,.ge,minI r0 rs⟩ (some [])).1 with
  | false=>exact .stop (key (a_cons s1 (if_f hb (congrArg (fun b=>some (b,μ1)) hb.symm)))) g1 hb h1 f1
  | true=>
    have r1:=g1.run hb
    have hm1:=(enter_true A.inv (g1.hx hc) hb).mem
    have t1:=enter_tr A.inv (g1.hx hc) hb
    have A1:=A.next hc r1 h1 f1 fun y hy=>Nat.le_trans (enter_len A.inv (g1.hx hc) (.inr rfl) hb hy) (A.len y hy)
    generalize (s.enter ⟨c.z,.ge,minI r0 rs⟩ (some [])).2=t at r1 hm1 t1 A1
    have g2:GoodL c t ⟨c.z,.le,maxI r0 rs⟩ []:=good_bound A1.len rfl fun p hp=>mx.le _ (at_mem hp)
    obtain ⟨μ2,e2,h2,f2⟩:=A1.strike (W:=W) (n:=n) hc g2 (by lia) hW
    have s2:=e_strike (ρ:=params0 ["store", "x", "numbers"] [.obj 3,.int c.z,.tup ((r0::rs).map .int)]) A1.st e2 (a:=.var "store") (d:=.tup [(.var "x"),(.const (.str "<=")),(.call "max" false [(.var "numbers")])]) (e:=.tup []) rfl (e_tup (l_cons rfl (l_cons rfl (l_one (e_bi d_max c_max bi_maxT rfl))))) rfl
    refine ⟨_,_,_,key (a_cons s1 (if_t hb (a_one s2))),h2,f1.trans f2,Ended.trans r1 (.one g2),fun hb2 _=>?_⟩
    have E:=enter_true A1.inv (g2.hx hc) hb2
    obtain ⟨p,p1,p2⟩:=mem_at mn.mem
    obtain ⟨p',p1',p2'⟩:=mem_at mx.mem
    exact ⟨fun v hv=>⟨p,p1,by rw [p2];exact ((hm1 _ hc.hz v).mp ((E.mem _ hc.hz v).mp hv).1).2 rfl⟩,fun v hv=>⟨p',p1',by rw [p2'];exact ((E.mem _ hc.hz v).mp hv).2 rfl⟩,fun y hy=>Nat.le_trans (enter_len A1.inv (g2.hx hc) (.inl rfl) hb2 hy) (A1.len y hy),Nat.le_trans (enter_tr A1.inv (g2.hx hc) hb2) (Nat.succ_le_succ t1)⟩
end
end Mine
namespace Mine
open PySem
section
variable {W n lo:Nat} {μ μ':M} {im inw:Nat} {c:Ctx} {s s' s₁:St} {l:Lit} {R:List Lit} {N:Nat}
structure Few (c:Ctx) (s:St) (N:Nat):Prop where
  x:(valsD (s.dom c.x)).length≤N
  z:(valsD (s.dom c.z)).length≤N
theorem Runs.vals (hc:c.Ok) (h:SInv c s) (r:Runs c s s₁) {y:Int} (hy:isVarI y):(valsD (s₁.dom y)).length≤(valsD (s.dom y)).length:=
  nodup_sub (vals_nodup ((r.inv hc h).wf _)) fun _ hv=>vals_mem.mpr (r.sub hc h hy (vals_mem.mp hv))
theorem Runs.few (hc:c.Ok) (h:SInv c s) (r:Runs c s s₁) (f:Few c s N):Few c s₁ N:=⟨Nat.le_trans (r.vals hc h hc.hx) f.x,Nat.le_trans (r.vals hc h hc.hz) f.z⟩
theorem Runs.other (hc:c.Ok) (h:SInv c s) (r:Runs c s s₁) {y:Int} (hy:isVarI y) (h1:y≠c.x) (h2:y≠c.z):s₁.dom y=s.dom y:=by
  induction r with
  | refl=>rfl
  | step r g e ih=>
    rw [← ih]
    rcases (enter_true (r.inv hc h) (g.hx hc) e).how with ⟨h4,_⟩ | ⟨_,h4,_⟩
    · rw [h4]
    · rw [h4,put_dom hy (g.hx hc),if_neg]
      exact fun e=>g.lx.elim (fun e2=>h1 (e.trans e2)) fun e2=>h2 (e.trans e2)
theorem Runs.lens (hc:c.Ok) (h:SInv c s) (r:Runs c s s₁) (f:Few c s 31) (hl:∀ y,isVarI y→(s.dom y).length≤31):∀ y,isVarI y→(s₁.dom y).length≤31:=fun y hy=>by
  have f₁:=r.few hc h f
  have w:=(r.inv hc h).wf
  by_cases h1:y=c.x
  · rw [h1];exact Nat.le_trans (len_vals (w _)) f₁.x
  · by_cases h2:y=c.z
    · rw [h2];exact Nat.le_trans (len_vals (w _)) f₁.z
    · rw [r.other hc h hy h1 h2];exact hl y hy
theorem Runs.same (hc:c.Ok) (h:SInv c s) (r:Runs c s s₁) {s₂:St} (r':Runs c s₁ s₂) (e:s₂=s):s₁=s:=by
  rcases r.gone hc h with h1 | ⟨y,v,hy,_,hv,hn⟩
  · exact h1
  · exact absurd (r'.sub hc (r.inv hc h) hy (by rw [e];exact hv)) hn
theorem at_idx {p:Int} (h:c.pl p):idxV μ (.tup (c.row.map .int)) (.int (p - 1))=some (.int (c.at p)):=by
  have hp:placeOf (p - 1) (c.row.map V.int).length=some (p - 1).toNat:=if_pos (by have:=h.1;have:=h.2;rw [List.length_map];lia)
  exact bS hp (by rw [List.getElem?_map,at_get h];rfl)
noncomputable def flB (b:Bool):Fl:=bif b then .next else .ret (.bool false)
theorem k_stop {cb:Calls} {q:Str} {b:Bool} {ρ:Rho}:runK cb lo W q [bif !b then [.ret (.const (.bool false))] else [],[]] ρ μ=some (flB b,ρ,μ):=by cases b <;> rfl
inductive Turn (im inw:Nat) (c:Ctx) (y:Int) (I:Rho→Prop) (i:Int) (μ:M) (s:St) (r:Res) (Q:Prop):Prop
  | stay (ρ':Rho):I ρ'→r=some (.next,ρ',μ)→Q→Turn im inw c y I i μ s r Q
  | hit (R:List Lit) (ρ':Rho) (μ':M):GoodL c s ⟨y,.ne,i⟩ R→I ρ'→r=some (flB (s.enter ⟨y,.ne,i⟩ (some R)).1,ρ',μ')→StoreAt μ' im inw (s.enter ⟨y,.ne,i⟩ (some R)).2→Frm im inw μ μ'→Turn im inw c y I i μ s r Q
structure LoopP (s s':St) (y:Int) (xs:List Int) (Q:St→Int→Prop):Prop where
  tr:s'.tr.length≤s.tr.length + xs.length
  all:s'=s→∀ i ∈ xs,mem i (s.dom y)→Q s i
inductive LoopEnd (im inw:Nat) (c:Ctx) (μ:M) (s:St) (r:Res) (P:St→Prop):Prop
  | mk (b:Bool) (ρ':Rho) (μ':M) (s':St):r=some (flB b,ρ',μ')→StoreAt μ' im inw s'→Frm im inw μ μ'→Ended c s b s'→(b=true→Runs c s s'→P s')→LoopEnd im inw c μ s r P
theorem strike_loop (hc:c.Ok) {y:Int} {f:V→Rho→M→Res} {I:Rho→Prop} {K:St→Prop} {Q:St→Int→Prop} {J:Int→Prop} (hK:∀ s s',SInv c s→Runs c s s'→K s→K s') (step:∀ i ρ μ s,J i→I ρ→At im inw c μ s→K s→s.tr.length<900000→Turn im inw c y I i μ s (f (.int i) ρ μ) (Q s i)) :
    ∀ (xs:List Int) (ρ:Rho) (μ:M) (s:St),(∀ i ∈ xs,J i)→I ρ→At im inw c μ s→Few c s 31→K s→s.tr.length + xs.length<900000→LoopEnd im inw c μ s (forM f (xs.map .int) ρ μ) fun s'=>LoopP s s' y xs Q:=by
  intro xs
  induction xs with
  | nil=>exact fun ρ μ s _ _ A _ _ _=>⟨true,ρ,μ,s,rfl,A.st,.refl,.yes rfl .refl,fun _ _=>⟨Nat.le_refl _,fun _ _ h=>nomatch h⟩⟩
  | cons i xs ih=>
    intro ρ μ s hJ hI A F k ht
    have ht:s.tr.length + xs.length + 1<900000:=ht
    rcases step i ρ μ s (hJ i (.head _)) hI A k (by lia) with ⟨ρ',hI,hr,hQ⟩ | ⟨R,ρ',μ1,g,hI,hr,h1,f1⟩
    · obtain ⟨b,ρ2,μ2,s2,q1,q2,q3,q4,q5⟩:=ih ρ' μ s (fun i hi=>hJ i (.tail _ hi)) hI A F k (Nat.lt_of_succ_lt ht)
      exact ⟨b,ρ2,μ2,s2,f_next hr q1,q2,q3,q4,fun hb r=>⟨Nat.le_succ_of_le (q5 hb r).tr,fun e j hj hm=>(List.mem_cons.mp hj).elim (fun e'=>e' ▸ hQ) fun hj=>(q5 hb r).all e j hj hm⟩⟩
    · have gx:=g.hx hc
      cases hb:(s.enter ⟨y,.ne,i⟩ (some R)).1 with
      | false=>rw [hb] at hr;exact ⟨false,ρ',μ1,_,f_ret hr,h1,f1,.no rfl s _ R .refl g hb rfl,fun h=>nomatch h⟩
      | true=>
        have r1:=g.run hb
        have t1:=enter_tr A.inv gx hb
        have m1:=(enter_true A.inv gx hb).mem
        rw [hb] at hr
        generalize (s.enter ⟨y,.ne,i⟩ (some R)).2=s1 at h1 r1 t1 m1
        obtain ⟨b,ρ2,μ2,s2,q1,q2,q3,q4,q5⟩:=ih ρ' μ1 s1 (fun i hi=>hJ i (.tail _ hi)) hI (A.next hc r1 h1 f1 (r1.lens hc A.inv F A.len)) (r1.few hc A.inv F) (hK _ _ A.inv r1 k) (by lia)
        refine ⟨b,ρ2,μ2,s2,f_next hr q1,q2,f1.trans q3,Ended.trans r1 q4,fun hb2 _=>?_⟩
        rcases q4 with ⟨_,r2⟩ | ⟨h',_⟩
        · refine ⟨Nat.le_trans (q5 hb2 r2).tr (by rw [List.length_cons];lia),fun e j hj hm=>?_⟩
          have es:s1=s:=r1.same hc A.inv r2 e
          subst es
          rcases List.mem_cons.mp hj with rfl | hj
          · exact absurd rfl (((m1 y gx j).mp hm).2 rfl)
          · exact (q5 hb2 r2).all e j hj hm
        · rw [hb2] at h';cases h'
structure PlI (c:Ctx) (ρ:Rho):Prop where
  self:ρ "self" = some (.obj 11)
  store:ρ "store" = some (.obj 3)
  index:ρ "index" = some (.int c.x)
  z:ρ "z" = some (.int c.z)
theorem PlI.eq {ρ:Rho} (h:PlI c ρ):ρ=upd (upd (upd (upd ρ "self" (.obj 11)) "store" (.obj 3)) "index" (.int c.x)) "z" (.int c.z):=by
  rw [← upd_self h.self,← upd_self h.store,← upd_self h.index,← upd_self h.z]
theorem places_turn (hc:c.Ok) (hW:1001<W) (i:Int) (ρ:Rho) (μ:M) (s:St) (hp:c.pl i) (hI:PlI c ρ) (A:At im inw c μ s) (ht:s.tr.length<900000) :
    Turn im inw c c.x (PlI c) i μ s (forB (callF tab W (n + 5)) 0 W "ElementOf.strike_places" (.one "i") b_ElementOf_strike_places_1 (.int i) ρ μ) (mem (c.at i) (s.dom c.z)):=by
  rw [hI.eq]
  have hd:=dom_ (W:=W) (n:=n + 4) (lo:=0) A.st hc.hz
  cases hm:hasD (s.dom c.z) (c.at i) with
  | true=>exact .stay _ ⟨rfl,rfl,rfl,rfl⟩ (forB_k rfl (k_one' (e_idxF (at_idx hp) (e_attr A.ru.a_numbers rfl) rfl) (k_ite (e_and (a_cons (e_not (e_call d_has_domains (has_.trans (by rw [hm])) (l_cons (e_def rfl (A.st.find m_Store_dom rfl) hd rfl) rfl))) (if_f rfl rfl))) (k_fn rfl rfl)))) ((hasD_mem (A.inv.wf _) _).mp hm)
  | false=>
    have hnm:¬ mem (c.at i) (s.dom c.z):=fun h'=>by rw [(hasD_mem (A.inv.wf _) _).mpr h'] at hm;cases hm
    have hll:=lack_len (s:=s) (x:=c.z) (v:=c.at i)
    obtain ⟨R,o1,o2⟩:=once_ (W:=W) (n:=n + 4) (lo:=0) (μ:=μ) (v:=.lst ((s.lack c.z (c.at i)).map encL)) rfl (Nat.lt_of_le_of_lt hll (by decide))
    have g:=good_place A.len (Nat.le_trans o2.len (Nat.le_trans hll (by decide))) hc A.inv hp hnm o2.mem
    obtain ⟨μ1,e1,h1,f1⟩:=A.strike (W:=W) (n:=n) hc g (Nat.lt_trans ht (by decide)) hW
    exact .hit R _ μ1 g ⟨rfl,rfl,rfl,rfl⟩ (forB_k rfl (k_one' (e_idxF (at_idx hp) (e_attr A.ru.a_numbers rfl) rfl) (k_ite (e_and (a_cons (e_not (e_call d_has_domains (has_.trans (by rw [hm])) (l_cons (e_def rfl (A.st.find m_Store_dom rfl) hd rfl) rfl))) (if_t rfl (a_one (e_not (e_strike A.st e1 rfl rfl (e_call d_once_each o1 (l_one (e_call d_lacking (lacking_ (n:=n + 2) A.st hc.hz (A.inv.ne _)) rfl))))))))) k_stop))) h1 f1
end
end Mine
namespace Mine
open PySem
section
variable {W n lo:Nat} {μ μ':M} {im inw:Nat} {c:Ctx} {s s' s₁:St}
theorem places_few (hi:SInv c s) (h:∀ i,mem i (s.dom c.x)→c.pl i):(valsD (s.dom c.x)).length≤c.row.length:=by
  have:=nodup_sub (b:=intsI 1 c.row.length) (vals_nodup (hi.wf c.x)) fun v hv=>by
    have:=h v (vals_mem.mp hv)
    exact ints_mem.mpr ⟨this.1,by have:=this.2;lia⟩
  rwa [ints_len] at this
structure Placed (c:Ctx) (s s':St):Prop where
  pl:∀ i,mem i (s'.dom c.x)→c.pl i
  few:Few c s' 31
  len:∀ y,isVarI y→(s'.dom y).length≤31
  tr:s'.tr.length≤s.tr.length + 7
  all:s'=s→∀ i,mem i (s.dom c.x)→mem (c.at i) (s.dom c.z)
noncomputable abbrev rhoP (c:Ctx):Rho:=upd (upd (params0 ["self", "store"] [.obj 11,.obj 3]) "index" (.int c.x)) "z" (.int c.z)
theorem Few.vals (f:Few c s 31) (hi:SInv c s) {y:Int} (h:(valsD (s.dom y)).length≤31):callF tab W (n + 2) "values" false lo [encD (s.dom y)] μ=some (.lst ((valsD (s.dom y)).map .int),μ):=
  values_ (Nat.le_trans h (by decide)) (by rw [size_vals (hi.wf _)];exact Int.ofNat_le.mpr (Nat.le_trans h (by decide)))
theorem strike_places_ (hc:c.Ok) (hW:1001<W) (A:At im inw c μ s) (hz:c.x≠c.z→(valsD (s.dom c.z)).length≤31) (ht:s.tr.length<800000) :
    EndB im inw c μ s (callF tab W (n + 6) "ElementOf.strike_places" false 0 [.obj 11,.obj 3] μ) (Placed c s):=by
  have g1:GoodL c s ⟨c.x,.ge,1⟩ []:=good_place_bound A.len rfl fun p hp=>hp.1
  obtain ⟨μ1,e1,h1,f1⟩:=A.strike (W:=W) (n:=n) hc g1 (by lia) hW
  have s1:=e_strike (ρ:=rhoP c) A.st e1 (a:=.var "store") (d:=.tup [(.var "index"),(.const (.str ">=")),(.const (.int 1))]) (e:=.tup []) rfl rfl rfl
  have key:∀ {q μ' v ρ' μ''},evOr tab (callF tab W (n + 5)) 0 [_,_] (rhoP c) μ=some (q,μ')→runK (callF tab W (n + 5)) 0 W "ElementOf.strike_places" [bif q then [.ret (.const (.bool false))] else [],b_ElementOf_strike_places.drop 2] (rhoP c) μ'=some (.ret v,ρ',μ'')→callF tab W (n + 6) "ElementOf.strike_places" false 0 [.obj 11,.obj 3] μ=some (v,μ''):=fun h k=>
    call_imp f_ElementOf_strike_places rfl rfl (run_ret (k_two (μ₁:=μ) (x:=.int c.x) (y:=.int c.z) (e_tup (l_cons (e_attr A.ru.a_index rfl) (l_one (e_attr A.ru.a_z rfl)))) (k_ite (e_or h) k)))
  cases hb:(s.enter ⟨c.x,.ge,1⟩ (some [])).1 with
  | false=>exact .stop (key (o_cons (e_not s1) (if_t (by rw [hb];rfl) rfl)) (by rw [hb];rfl)) g1 hb h1 f1
  | true=>
    have r1:=g1.run hb
    have m1:=(enter_true A.inv (g1.hx hc) hb).mem
    have t1:=enter_tr A.inv (g1.hx hc) hb
    have A1:=A.next hc r1 h1 f1 fun y hy=>Nat.le_trans (enter_len A.inv (g1.hx hc) (.inr rfl) hb hy) (A.len y hy)
    generalize (s.enter ⟨c.x,.ge,1⟩ (some [])).2=t at r1 m1 t1 A1
    have g2:GoodL c t ⟨c.x,.le,c.row.length⟩ []:=good_place_bound A1.len rfl fun p hp=>hp.2
    obtain ⟨μ2,e2,h2,f2⟩:=A1.strike (W:=W) (n:=n) hc g2 (by lia) hW
    have s2:=e_strike (ρ:=rhoP c) A1.st e2 (a:=.var "store") (d:=.tup [(.var "index"),(.const (.str "<=")),(.call "len" false [(.attr (.var "self") "numbers")])]) (e:=.tup []) rfl (e_tup (l_cons rfl (l_cons rfl (l_one (e_bi d_len c_len (vs:=[.tup (c.row.map .int)]) (congrArg (fun k:Nat=>some (V.int k)) (List.length_map _)) (l_one (e_attr A1.ru.a_numbers rfl))))))) rfl
    rw [hb] at s1
    have e12:=Ended.trans r1 (.one g2)
    cases hb2:(t.enter ⟨c.x,.le,c.row.length⟩ (some [])).1 with
    | false=>
      rw [hb2] at s2 e12
      exact ⟨false,μ2,_,key (o_cons (e_not s1) (if_f rfl (o_cons (e_not s2) rfl))) rfl,h2,f1.trans f2,e12,fun h=>nomatch h⟩
    | true=>
      rw [hb2] at s2
      have r2:=g2.run hb2
      have m2:=(enter_true A1.inv (g2.hx hc) hb2).mem
      have t2:=enter_tr A1.inv (g2.hx hc) hb2
      have A2:=A1.next hc r2 h2 f2 fun y hy=>Nat.le_trans (enter_len A1.inv (g2.hx hc) (.inl rfl) hb2 hy) (A1.len y hy)
      generalize (t.enter ⟨c.x,.le,c.row.length⟩ (some [])).2=u at r2 m2 t2 A2
      have r:=r1.trans r2
      have hpl:∀ i,mem i (u.dom c.x)→c.pl i:=fun i hm=>⟨((m1 _ hc.hx i).mp ((m2 _ hc.hx i).mp hm).1).2 rfl,((m2 _ hc.hx i).mp hm).2 rfl⟩
      have hvx:=Nat.le_trans (places_few A2.inv hpl) hc.len
      have hfew:Few c u 31:=⟨Nat.le_trans hvx (by decide),by
        by_cases hxz:c.x=c.z
        · rw [← hxz];exact Nat.le_trans hvx (by decide)
        · exact Nat.le_trans (r.vals hc A.inv hc.hz) (hz hxz)⟩
      obtain ⟨b,ρ',μ',s',p1,p2,p3,p4,p5⟩:=strike_loop hc (y:=c.x) (I:=PlI c) (K:=fun _=>True) (Q:=fun s i=>mem (c.at i) (s.dom c.z)) (J:=c.pl) (fun _ _ _ _ _=>trivial) (fun i ρ μ s hp hI A _ ht=>places_turn (W:=W) (n:=n) hc hW i ρ μ s hp hI A ht) (valsD (u.dom c.x)) (rhoP c) μ2 u (fun i hi=>hpl i (vals_mem.mp hi)) ⟨rfl,rfl,rfl,rfl⟩ A2 hfew trivial (by lia)
      refine ⟨b,μ',s',key (ρ':=ρ') (o_cons (e_not s1) (if_f rfl (o_cons (e_not s2) (if_f rfl rfl)))) ?_,p2,(f1.trans f2).trans p3,Ended.trans r p4,fun hb3 _=>?_⟩
      · have hv:=e_call (cs:=[.meth (.var "store") "dom" [.var "index"]]) (raw:=false) (ρ:=rhoP c) d_values (hfew.vals (W:=W) (n:=n + 3) (lo:=0) (μ:=μ2) A2.inv hfew.x) (l_one (e_def rfl (A2.st.find m_Store_dom rfl) (dom_ A2.st hc.hx) rfl))
        cases b with
        | true=>exact k_nil (k_for hv rfl p1 rfl)
        | false=>exact k_nil (k_forR hv rfl p1)
      · have P:=p5 hb3
        rcases p4 with ⟨_,r3⟩ | ⟨h',_⟩
        · have P:=P r3
          refine ⟨fun i hm=>hpl i (r3.sub hc A2.inv hc.hx hm),r3.few hc A2.inv hfew,r3.lens hc A2.inv hfew A2.len,by have:=P.tr;lia,fun e i hm=>?_⟩
          have es:u=s:=r.same hc A.inv r3 e
          subst es
          exact P.all e i (vals_mem.mpr hm) hm
        · rw [hb3] at h';cases h'
end
end Mine
namespace Mine
open PySem
section
variable {W n lo:Nat} {μ:M} {im inw:Nat} {c:Ctx} {s:St} {l:Lit}
theorem StoreAt.app (h:StoreAt μ im inw s) {o:MObj}:StoreAt (μ++[o]) im inw s:=
  ⟨get_app h.obj,get_app h.dct,get_app h.doms,get_app h.firsts,get_app h.tr,get_app h.mks,get_app h.nw,h.him,h.hin,h.ne⟩
theorem RuleAt.app (h:RuleAt μ c) {o:MObj}:RuleAt (μ++[o]) c:=⟨get_app h.obj,get_app h.dct⟩
noncomputable def nowhere (s:St) (x:Int) (v:Int):List Int→Int→List Lit
  | [],_=>[]
  | w::r,k=>(if w=v then s.lack x (k + 1) else [])++nowhere s x v r (k + 1)
inductive NowAt (s:St) (x v:Int) (l:Lit) (ws:List Int) (k:Int):Prop
  | mk (i:Nat):ws[i]?=some v→l ∈ s.lack x (k + (i + 1:Nat))→NowAt s x v l ws k
theorem nowhere_mem {x v:Int}:∀ {ws:List Int} {k:Int},l ∈ nowhere s x v ws k↔NowAt s x v l ws k:=by
  intro ws
  induction ws with
  | nil=>exact fun {k}=>⟨fun h=>(nomatch h),fun ⟨i,h,_⟩=>(nomatch h)⟩
  | cons w ws ih=>
    intro k
    rw [nowhere,List.mem_append,ih]
    constructor
    · rintro (h | ⟨i,h1,h2⟩)
      · split at h
        · rename_i hw;exact ⟨0,congrArg some hw,h⟩
        · cases h
      · exact ⟨i + 1,h1,by rwa [show k + ((i + 1 + 1:Nat):Int)=k + 1 + (i + 1:Nat) by lia]⟩
    · rintro ⟨i,h1,h2⟩
      cases i with
      | zero=>left;rw [if_pos (Option.some.inj h1)];exact h2
      | succ i=>right;exact ⟨i,h1,by rwa [show k + ((i + 1 + 1:Nat):Int)=k + 1 + (i + 1:Nat) by lia] at h2⟩
theorem nowhere_is {v:Int}:l ∈ nowhere s c.x v c.row 0↔∃ p,c.pl p∧c.at p=v∧l ∈ s.lack c.x p:=by
  rw [nowhere_mem]
  constructor
  · rintro ⟨i,h1,h2⟩
    rw [Int.zero_add] at h2
    have hi:=(List.getElem?_eq_some_iff.mp h1).1
    exact ⟨_,pl_nat hi,at_nat.trans (Option.some.inj ((getD_at hi).symm.trans h1)),h2⟩
  · rintro ⟨p,h,h3,h4⟩
    refine ⟨(p - 1).toNat,(at_get h).trans (congrArg some h3),?_⟩
    rwa [show 0 + (((p - 1).toNat + 1:Nat):Int)=p by have:=h.1;lia]
theorem nowhere_len {x v:Int}:∀ {ws:List Int} {k:Int},(nowhere s x v ws k).length≤ws.length:=by
  intro ws
  induction ws with
  | nil=>exact Nat.le_refl _
  | cons w ws ih=>
    intro k
    rw [nowhere,List.length_append,List.length_cons,Nat.add_comm]
    refine Nat.add_le_add ih ?_
    split
    · exact lack_len
    · exact Nat.zero_le _
structure NwI (v:Int) (n:Nat) (ρ:Rho):Prop where
  self:ρ "self" = some (.obj 11)
  store:ρ "store" = some (.obj 3)
  v:ρ "v" = some (.int v)
  found:ρ "found" = some (.obj n)
theorem NwI.eq {ρ:Rho} {v:Int} {n:Nat} (h:NwI v n ρ):ρ=upd (upd (upd (upd ρ "self" (.obj 11)) "store" (.obj 3)) "v" (.int v)) "found" (.obj n):=by
  rw [← upd_self h.self,← upd_self h.store,← upd_self h.v,← upd_self h.found]
inductive NwEnd (n:Nat) (μ:M) (r:Res) (ls:List Lit):Prop
  | mk (ρ':Rho):r=some (.next,ρ',μ++[MObj.list (ls.map encL)])→ρ' "found" = some (.obj n)→NwEnd n μ r ls
theorem nowhere_loop (hc:c.Ok) (h:StoreAt μ im inw s) (hr:RuleAt μ c) (hi:SInv c s) {v:Int}:∀ (ws:List Int) (k:Int) (acc:List Lit) (ρ:Rho),acc.length + ws.length≤1000→NwI v μ.length ρ→
    NwEnd μ.length μ (forM (forB (callF tab W (n + 3)) μ.length W "ElementOf.why_nowhere" (.many ["place", "number"]) b_ElementOf_why_nowhere_1) (enumFrom k (ws.map .int)) ρ (μ++[MObj.list (acc.map encL)])) (acc++nowhere s c.x v ws k):=by
  intro ws
  induction ws with
  | nil=>exact fun k acc ρ _ I=>⟨ρ,by rw [nowhere,List.append_nil];rfl,I.found⟩
  | cons w ws ih=>
    intro k acc ρ hl I
    rw [List.length_cons] at hl
    rw [I.eq,nowhere]
    by_cases hw:w=v
    · have h2:=lack_len (s:=s) (x:=c.x) (v:=k + 1)
      obtain ⟨ρ',r1,r2⟩:=ih (k + 1) (acc++s.lack c.x (k + 1)) (upd (upd (upd (upd (upd (upd ρ "self" (.obj 11)) "store" (.obj 3)) "v" (.int v)) "found" (.obj μ.length)) "place" (.int k)) "number" (.int w)) (by rw [List.length_append];lia) ⟨rfl,rfl,rfl,rfl⟩
      rw [if_pos hw,← List.append_assoc]
      refine ⟨ρ',f_next (forB_k rfl (k_ite (e_cmp rfl rfl eqI) (k_t (decide_eq_true hw) (k_exp (e_lm rfl (find_list get_last (.inr (.inl rfl))) (ext_lst (us:=acc.map encL) (xs:=(s.lack c.x (k + 1)).map encL) (Nat.le_refl _) get_last rfl rfl (by rw [List.length_map,List.length_map];exact Nat.le_trans (Nat.add_le_add (Nat.le_trans (Nat.le_add_right ..) hl) h2) (by decide))) (l_one (e_call d_lacking (lacking_ h.app hc.hx (hi.ne _)) (l_cons rfl (l_cons (e_attr hr.app.a_index rfl) rfl))))) rfl rfl)))) ?_,r2⟩
      rw [set_last,← List.map_append]
      exact r1
    · obtain ⟨ρ',r1,r2⟩:=ih (k + 1) acc (upd (upd (upd (upd (upd (upd ρ "self" (.obj 11)) "store" (.obj 3)) "v" (.int v)) "found" (.obj μ.length)) "place" (.int k)) "number" (.int w)) (by lia) ⟨rfl,rfl,rfl,rfl⟩
      rw [if_neg hw]
      exact ⟨ρ',f_next (forB_k rfl (k_ite (e_cmp rfl rfl eqI) (k_fn (decide_eq_false hw) rfl))) r1,r2⟩
inductive Why (c:Ctx) (s:St) (v:Int) (μ:M) (r:Option (V×M)):Prop
  | mk (R:List Lit):r=some (.tup (R.map encL),μ)→(∀ l,l ∈ R↔∃ p,c.pl p∧c.at p=v∧l ∈ s.lack c.x p)→R.length≤5→Why c s v μ r
theorem why_ (hc:c.Ok) (h:StoreAt μ im inw s) (hr:RuleAt μ c) (hi:SInv c s) {v:Int}:Why c s v μ (callF tab W (n + 4) "ElementOf.why_nowhere" false lo [.obj 11,.obj 3,.int v] μ):=by
  have hl:=Nat.le_trans (nowhere_len (s:=s) (x:=c.x) (v:=v) (ws:=c.row) (k:=0)) hc.len
  obtain ⟨ρ',r1,r2⟩:=nowhere_loop (W:=W) (n:=n) hc h hr hi (v:=v) c.row 0 [] (upd (params0 ["self", "store", "v"] [.obj 11,.obj 3,.int v]) "found" (.obj μ.length)) (by rw [List.length_nil,Nat.zero_add];exact Nat.le_trans hc.len (by decide)) ⟨rfl,rfl,rfl,rfl⟩
  rw [List.nil_append] at r1
  obtain ⟨R,o1,o2⟩:=once_ (W:=W) (n:=n + 2) (lo:=μ.length) (μ:=μ++[MObj.list ((nowhere s c.x v c.row 0).map encL)]) (v:=.obj μ.length) (ls:=nowhere s c.x v c.row 0) (by
    show (if μ.length<(μ++[MObj.list _]).length then listV _ _ else none)=_
    rw [if_pos (by rw [List.length_append];exact Nat.lt_succ_self _)]
    exact bS get_last rfl) (Nat.lt_of_le_of_lt hl (by decide))
  exact ⟨R,call_pure f_ElementOf_why_nowhere rfl (run_ret (k_one (e_listN rfl) (k_forE (e_attr hr.app.a_numbers rfl) r1 (k_ret (e_call d_once_each o1 (l_one (e_var r2))))))) (frz_tup (frz_map fun _=>frz_L)),fun l=>(o2.mem l).trans nowhere_is,Nat.le_trans o2.len hl⟩
end
end Mine
namespace Mine
open PySem
section
variable {W n lo:Nat} {μ μ':M} {im inw:Nat} {c:Ctx} {s s' s₁:St}
theorem in_ints {v:Int} {is:List Int}:inV μ (.int v) (.dct (is.map .int))=some (decide (v ∈ is)):=show (intsOf (is.map .int)).map _=_ from mS (ints_out is)
structure VlI (is:List Int) (ρ:Rho):Prop where
  self:ρ "self" = some (.obj 11)
  store:ρ "store" = some (.obj 3)
  kept:ρ "kept" = some (.dct (is.map .int))
theorem VlI.eq {is:List Int} {ρ:Rho} (h:VlI is ρ):ρ=upd (upd (upd ρ "self" (.obj 11)) "store" (.obj 3)) "kept" (.dct (is.map .int)):=by
  rw [← upd_self h.self,← upd_self h.store,← upd_self h.kept]
theorem values_turn (hc:c.Ok) (hW:1001<W) {is:List Int} (v:Int) (ρ:Rho) (μ:M) (s:St) (hI:VlI is ρ) (A:At im inw c μ s) (hk:∀ p,mem p (s.dom c.x)→c.at p ∈ is) (ht:s.tr.length<900000) :
    Turn im inw c c.z (VlI is) v μ s (forB (callF tab W (n + 5)) 0 W "ElementOf.strike_values" (.one "v") b_ElementOf_strike_values_1 (.int v) ρ μ) (v ∈ is):=by
  rw [hI.eq]
  by_cases hm:v ∈ is
  · exact .stay _ ⟨rfl,rfl,rfl⟩ (forB_k rfl (k_ite (e_and (a_cons (e_cmp rfl rfl (cm_notIn in_ints)) (if_f (by rw [decide_eq_true hm];rfl) rfl))) (k_fn rfl rfl))) hm
  · obtain ⟨R,o1,o2,o3⟩:=why_ (W:=W) (n:=n + 1) (lo:=0) hc A.st A.ru A.inv (v:=v)
    have g:=good_value A.len o3 hc A.inv (v:=v) (fun p _ hp hmp=>hm (hp ▸ hk p hmp)) o2
    obtain ⟨μ1,e1,h1,f1⟩:=A.strike (W:=W) (n:=n) hc g (Nat.lt_trans ht (by decide)) hW
    exact .hit R _ μ1 g ⟨rfl,rfl,rfl⟩ (forB_k rfl (k_ite (e_and (a_cons (e_cmp rfl rfl (cm_notIn in_ints)) (if_t (by rw [decide_eq_false hm];rfl) (a_one (e_not (e_strike A.st e1 rfl (e_tup (l_cons (e_attr A.ru.a_z rfl) rfl)) (e_def rfl (A.ru.find m_ElementOf_why_nowhere rfl) o1 rfl))))))) k_stop)) h1 f1
structure Valued (c:Ctx) (s s':St):Prop where
  tr:s'.tr.length≤s.tr.length + 31
  all:s'=s→∀ v,mem v (s.dom c.z)→∃ i,mem i (s.dom c.x)∧c.at i=v
theorem ints_map {f:Int→Int} {l:List Int}:(l.map fun i=>V.int (f i))=(l.map f).map .int:=List.map_map.symm
theorem strike_values_ (hc:c.Ok) (hW:1001<W) (A:At im inw c μ s) (hf:Few c s 31) (hp:∀ i,mem i (s.dom c.x)→c.pl i) (ht:s.tr.length<800000) :
    EndB im inw c μ s (callF tab W (n + 6) "ElementOf.strike_values" false 0 [.obj 11,.obj 3] μ) (Valued c s):=by
  have hk:ev tab (callF tab W (n + 5)) 0 (.dcomp [".0", "i"] (.idx (.attr (.var "self") "numbers") (.bin .Sub (.var "i") (.const (.int 1)))) (.one "i") (.call "values" false [(.meth (.var "store") "dom" [(.attr (.var "self") "index")])])) (params0 ["self", "store"] [.obj 11,.obj 3]) μ=some (.dct ((firsts [] ((valsD (s.dom c.x)).map c.at)).map .int),μ):=by
    refine bS (e_call d_values (hf.vals (lo:=0) A.inv hf.x) (l_one (e_def rfl (A.st.find m_Store_dom rfl) (dom_ A.st hc.hx) (l_one (e_attr A.ru.a_index rfl))))) (bS rfl (bS (flatM_pure (g:=fun i=>[V.int (c.at i)]) fun i hiv=>bS rfl (mS (e_idxF (at_idx (hp i (vals_mem.mp hiv))) (e_attr A.ru.a_numbers rfl) rfl))) ?_))
    rw [flat_one,ints_map]
    refine mS ?_
    show (match intsOf (((valsD (s.dom c.x)).map c.at).map .int) with | some is=>_ | none=>_)=_
    rw [ints_out]
  obtain ⟨b,ρ',μ',s',p1,p2,p3,p4,p5⟩:=strike_loop hc (y:=c.z) (I:=VlI (firsts [] ((valsD (s.dom c.x)).map c.at))) (K:=fun s₁=>∀ p,mem p (s₁.dom c.x)→c.at p ∈ firsts [] ((valsD (s.dom c.x)).map c.at)) (Q:=fun _ v=>v ∈ firsts [] ((valsD (s.dom c.x)).map c.at)) (J:=fun _=>True) (fun s s' hi r k p hm=>k p (r.sub hc hi hc.hx hm)) (fun v ρ μ s _ hI A k ht=>values_turn (W:=W) (n:=n) hc hW v ρ μ s hI A k ht) (valsD (s.dom c.z)) (upd (params0 ["self", "store"] [.obj 11,.obj 3]) "kept" (.dct ((firsts [] ((valsD (s.dom c.x)).map c.at)).map .int))) μ s (fun _ _=>trivial) ⟨rfl,rfl,rfl⟩ A hf (fun p hpm=>firsts_mem.mpr (.inr (List.mem_map_of_mem (vals_mem.mpr hpm)))) (by have:=hf.z;lia)
  refine ⟨b,μ',s',call_imp f_ElementOf_strike_values rfl rfl (run_ret (ρ₁:=ρ') (k_one hk ?_)),p2,p3,p4,fun hb r=>⟨Nat.le_trans (p5 hb r).tr (Nat.add_le_add_left hf.z _),fun e v hv=>?_⟩⟩
  · have hv:=e_call (cs:=[.meth (.var "store") "dom" [.attr (.var "self") "z"]]) (raw:=false) (ρ:=upd (params0 ["self", "store"] [.obj 11,.obj 3]) "kept" (.dct ((firsts [] ((valsD (s.dom c.x)).map c.at)).map .int))) d_values (hf.vals (W:=W) (n:=n + 3) (lo:=0) (μ:=μ) A.inv hf.z) (l_one (e_def rfl (A.st.find m_Store_dom rfl) (dom_ A.st hc.hz) (l_one (e_attr A.ru.a_z rfl))))
    cases b with
    | true=>exact k_for hv rfl p1 rfl
    | false=>exact k_forR hv rfl p1
  · rcases firsts_mem.mp ((p5 hb r).all e v (vals_mem.mpr hv) hv) with h1 | h1
    · cases h1
    · obtain ⟨i,hi1,rfl⟩:=List.mem_map.mp h1
      exact ⟨i,vals_mem.mp hi1,rfl⟩
end
end Mine
namespace Mine
open PySem
section
variable {W n lo:Nat} {μ μ':M} {im inw:Nat} {c:Ctx} {s s' s₁:St}
noncomputable def tot (c:Ctx) (s:St):Nat:=(valsD (s.dom c.x)).length + (valsD (s.dom c.z)).length
noncomputable def roomS (c:Ctx) (s:St):Int:=sizeD (s.dom c.x) + sizeD (s.dom c.z)
theorem room_tot (h:SInv c s):roomS c s=tot c s:=by
  unfold roomS tot
  rw [size_vals (h.wf _),size_vals (h.wf _)]
  exact (Int.natCast_add _ _).symm
theorem tot_lt (hc:c.Ok) (h:SInv c s) (r:Runs c s s₁) (hne:s₁≠s):tot c s₁<tot c s:=by
  have ax:=r.vals hc h hc.hx
  have az:=r.vals hc h hc.hz
  rcases r.gone hc h with e | ⟨y,v,hy,hyx,hv,hn⟩
  · exact absurd e hne
  · have lt:(valsD (s₁.dom y)).length<(valsD (s.dom y)).length:=nodup_lt (vals_nodup ((r.inv hc h).wf _)) (fun u hu=>vals_mem.mpr (r.sub hc h hy (vals_mem.mp hu))) (vals_mem.mpr hv) fun hu=>hn (vals_mem.mp hu)
    rcases hyx with rfl | rfl
    · exact Nat.add_lt_add_of_lt_of_le lt az
    · exact Nat.add_lt_add_of_le_of_lt ax lt
theorem Runs.trail (hc:c.Ok) (h:SInv c s) (r:Runs c s s₁):s₁.tr.length + tot c s₁≤s.tr.length + tot c s:=by
  induction r with
  | refl=>exact Nat.le_refl _
  | @step s₁ l R r g e ih=>
    have hi:=r.inv hc h
    by_cases hs:(s₁.enter l (some R)).2=s₁
    · rw [hs];exact ih
    · exact Nat.le_trans (by have:=tot_lt hc hi (.step .refl g e) hs;have:=enter_tr hi (g.hx hc) e;lia) ih
theorem room_eq (hc:c.Ok) (h:SInv c s) (r:Runs c s s₁) (e:roomS c s=roomS c s₁):s₁=s:=by
  apply Classical.byContradiction
  intro hne
  rw [room_tot h,room_tot (r.inv hc h)] at e
  exact Nat.ne_of_gt (tot_lt hc h r hne) (Int.ofNat.inj e)
structure PrI (m:Int) (ρ:Rho):Prop where
  self:ρ "self" = some (.obj 11)
  store:ρ "store" = some (.obj 3)
  many:ρ "many" = some (.int m)
theorem PrI.eq {m:Int} {ρ:Rho} (h:PrI m ρ):ρ=upd (upd (upd ρ "self" (.obj 11)) "store" (.obj 3)) "many" (.int m):=by
  rw [← upd_self h.self,← upd_self h.store,← upd_self h.many]
theorem e_room {ρ:Rho} (hc:c.Ok) (A:At im inw c μ s) (h1:ρ "self" = some (.obj 11)) (h2:ρ "store" = some (.obj 3)):ev tab (callF tab W (n + 6)) 0 (.call "room" false [(.var "store"),(.attr (.var "self") "scope")]) ρ μ=some (.int (roomS c s),μ):=
  e_call d_room (room_ A.st hc.hx hc.hz) (l_cons (e_var h2) (l_one (e_attr A.ru.a_scope (e_var h1))))
theorem o_one {cb:Calls} {ρ:Rho} {a:C} {q:Bool} (h:ev tab cb lo a ρ μ=some (.bool q,μ')):evOr tab cb lo [a] ρ μ=some (q,μ'):=bS h (by cases q <;> rfl)
structure Turned (c:Ctx) (s s':St):Prop where
  tr:s'.tr.length≤s.tr.length + 38
  few:Few c s' 31
  len:∀ y,isVarI y→(s'.dom y).length≤31
  pl:∀ i,mem i (s'.dom c.x)→c.pl i
  fix:s'=s→Fix c s
inductive EndR (im inw:Nat) (c:Ctx) (μ:M) (s:St) (r:Res) (I:Rho→Prop) (P:St→Prop):Prop
  | mk (b:Bool) (ρ':Rho) (μ':M) (s':St):r=some (flB b,ρ',μ')→I ρ'→StoreAt μ' im inw s'→Frm im inw μ μ'→Ended c s b s'→(b=true→Runs c s s'→P s')→EndR im inw c μ s r I P
theorem Ended.runs (e:Ended c s true s'):Runs c s s':=by
  rcases e with ⟨_,r⟩ | ⟨h,_⟩
  · exact r
  · cases h
theorem prop_turn (hc:c.Ok) (hW:1001<W) {ρ:Rho} {m:Int} (hI:PrI m ρ) (A:At im inw c μ s) (hz:c.x≠c.z→(valsD (s.dom c.z)).length≤31) (ht:s.tr.length<790000) :
    EndR im inw c μ s (exs tab (callF tab W (n + 6)) 0 W "ElementOf.propagate" b_ElementOf_propagate_1 ρ μ) (PrI (roomS c s)) (Turned c s):=by
  rw [hI.eq]
  obtain ⟨b1,μ1,s1,e1,h1,f1,en1,k1⟩:=strike_places_ (n:=n) hc hW A hz (by lia)
  have key:∀ {q μ' r},evOr tab (callF tab W (n + 6)) 0 [_,_] (upd (upd (upd (upd ρ "self" (.obj 11)) "store" (.obj 3)) "many" (.int m)) "many" (.int (roomS c s))) μ=some (q,μ')→runK (callF tab W (n + 6)) 0 W "ElementOf.propagate" [bif q then [.ret (.const (.bool false))] else [],[]] (upd (upd (upd (upd ρ "self" (.obj 11)) "store" (.obj 3)) "many" (.int m)) "many" (.int (roomS c s))) μ'=r→exs tab (callF tab W (n + 6)) 0 W "ElementOf.propagate" b_ElementOf_propagate_1 (upd (upd (upd ρ "self" (.obj 11)) "store" (.obj 3)) "many" (.int m)) μ=r:=fun h k=>
    k_exs (k_one (e_room hc A rfl rfl) (k_ite (e_or h) k))
  have q1:=e_not (e_def (a:=.var "self") (cs:=[.var "store"]) (ρ:=upd (upd (upd (upd ρ "self" (.obj 11)) "store" (.obj 3)) "many" (.int m)) "many" (.int (roomS c s))) rfl (A.ru.find m_ElementOf_strike_places rfl) e1 rfl)
  cases b1 with
  | false=>exact ⟨false,_,μ1,s1,key (o_cons q1 rfl) rfl,⟨rfl,rfl,rfl⟩,h1,f1,en1,fun h=>nomatch h⟩
  | true=>
    have r1:=en1.runs
    have P1:=k1 rfl r1
    have A1:=A.next hc r1 h1 f1 P1.len
    obtain ⟨b2,μ2,s2,e2,h2,f2,en2,k2⟩:=strike_values_ (n:=n) hc hW A1 P1.few P1.pl (by have:=P1.tr;lia)
    have q2:=e_not (e_def (a:=.var "self") (cs:=[.var "store"]) (ρ:=upd (upd (upd (upd ρ "self" (.obj 11)) "store" (.obj 3)) "many" (.int m)) "many" (.int (roomS c s))) rfl (A1.ru.find m_ElementOf_strike_values rfl) e2 rfl)
    refine ⟨b2,_,μ2,s2,key (o_cons q1 (o_one q2)) k_stop,⟨rfl,rfl,rfl⟩,h2,f1.trans f2,Ended.trans r1 en2,fun hb _=>?_⟩
    subst hb
    have r2:=en2.runs
    have P2:=k2 rfl r2
    refine ⟨by have:=P1.tr;have:=P2.tr;lia,r2.few hc A1.inv P1.few,r2.lens hc A1.inv P1.few P1.len,fun i hm=>P1.pl i (r2.sub hc A1.inv hc.hx hm),fun e=>?_⟩
    have es:s1=s:=r1.same hc A.inv r2 e
    subst es
    exact ⟨fun i hm=>⟨P1.pl i hm,P1.all rfl i hm⟩,P2.all e⟩
noncomputable abbrev propC:C:=.cmp .NotEq (.var "many") (.call "room" false [(.var "store"),(.attr (.var "self") "scope")])
theorem prop_test {ρ:Rho} (hc:c.Ok) (A:At im inw c μ s) {m:Int} (hI:PrI m ρ):asBool (ev tab (callF tab W (n + 6)) 0 propC ρ μ)=some (!decide (m=roomS c s),μ):=
  asB (e_cmp (e_var hI.many) (e_room hc A hI.self hI.store) (cm_ne eqI))
noncomputable abbrev propW (W n w:Nat) (ρ:Rho) (μ:M):Res:=whileM (fun ρ μ=>asBool (ev tab (callF tab W (n + 6)) 0 propC ρ μ)) (fun ρ μ=>exs tab (callF tab W (n + 6)) 0 W "ElementOf.propagate" b_ElementOf_propagate_1 ρ μ) w ρ μ
theorem prop_loop (hc:c.Ok) (hW:1001<W):∀ (w:Nat) (m:Int) (ρ:Rho) (μ:M) (s:St),PrI m ρ→At im inw c μ s→(c.x≠c.z→(valsD (s.dom c.z)).length≤31)→s.tr.length + tot c s<790000→(m=roomS c s→Fix c s)→(m=roomS c s∧1≤w∨tot c s + 2≤w)→
    EndR im inw c μ s (propW W n w ρ μ) (fun _=>True) (Fix c):=by
  intro w
  induction w with
  | zero=>intro m ρ μ s _ _ _ _ _ hw;exact absurd hw (by lia)
  | succ w ih=>
    intro m ρ μ s hI A hz ht hfix hw
    have htest:=prop_test (W:=W) (n:=n) hc A hI
    by_cases hm:m=roomS c s
    · exact ⟨true,ρ,μ,s,w_done (htest.trans (by rw [decide_eq_true hm];rfl)),trivial,A.st,.refl,.yes rfl .refl,fun _ _=>hfix hm⟩
    · obtain ⟨b,ρ1,μ1,s1,e1,I1,h1,f1,en1,k1⟩:=prop_turn (n:=n) hc hW hI A hz (Nat.lt_of_le_of_lt (Nat.le_add_right ..) ht)
      rw [decide_eq_false hm] at htest
      cases b with
      | false=>exact ⟨false,ρ1,μ1,s1,w_ret htest e1,trivial,h1,f1,en1,fun h=>nomatch h⟩
      | true=>
        have r1:=en1.runs
        have P:=k1 rfl r1
        obtain ⟨b,ρ',μ',s',p1,_,p2,p3,p4,p5⟩:=ih (roomS c s) ρ1 μ1 s1 I1 (A.next hc r1 h1 f1 P.len) (fun _=>P.few.z) (Nat.lt_of_le_of_lt (r1.trail hc A.inv) ht) (fun e=>by
          have es:=room_eq hc A.inv r1 e
          rw [es];exact P.fix es) (by
          by_cases es:s1=s
          · left;rw [es];exact ⟨rfl,by lia⟩
          · right;have:=tot_lt hc A.inv r1 es;lia)
        exact ⟨b,ρ',μ',s',w_next htest e1 p1,trivial,p2,f1.trans p3,Ended.trans r1 p4,fun hb _=>by subst hb;exact p5 rfl p4.runs⟩
inductive LimL (c:Ctx):Prop
  | mk (L:List Int):L.length≤31→(∀ v,mem v (c.fst c.z)→(∃ p,c.pl p∧c.at p≤v)→(∃ p,c.pl p∧v≤c.at p)→v ∈ L)→LimL c
structure Proped (c:Ctx) (s s':St):Prop where
  fix:Fix c s'
  tr:s'.tr.length≤s.tr.length + 102
theorem propagate_ (hc:c.Ok) (hL:c.x≠c.z→LimL c) (hW:3000<W) (A:At im inw c μ s) (hne:c.row≠[]) (ht:s.tr.length<600000) :
    EndB im inw c μ s (callF tab W (n + 7) "ElementOf.propagate" false 0 [.obj 11,.obj 3] μ) (Proped c s):=by
  obtain ⟨b1,μ1,s1,e1,h1,f1,en1,k1⟩:=between_ (W:=W) (n:=n) hc A hne (by lia) (by lia)
  have q1:=e_not (e_call (raw:=false) (cs:=[(.var "store"),(.attr (.var "self") "z"),(.attr (.var "self") "numbers")]) (ρ:=params0 ["self", "store"] [.obj 11,.obj 3]) d_between e1 (l_cons rfl (l_cons (e_attr A.ru.a_z rfl) (l_one (e_attr A.ru.a_numbers rfl)))))
  cases b1 with
  | false=>exact ⟨false,μ1,s1,call_imp f_ElementOf_propagate rfl rfl (run_ret (k_ite q1 (k_t rfl (k_ret rfl)))),h1,f1,en1,fun h=>nomatch h⟩
  | true=>
    have r1:=en1.runs
    have P1:=k1 rfl r1
    have A1:=A.next hc r1 h1 f1 P1.len
    have hz1:c.x≠c.z→(valsD (s1.dom c.z)).length≤31:=fun hxz=>by
      obtain ⟨L,l1,l2⟩:=hL hxz
      exact Nat.le_trans (nodup_sub (vals_nodup (A1.inv.wf _)) fun v hv=>l2 v (A1.inv.sub _ (vals_mem.mp hv)) (P1.lo v (vals_mem.mp hv)) (P1.hi v (vals_mem.mp hv))) l1
    have hm:(-1:Int)≠roomS c s1:=by rw [room_tot A1.inv];exact fun h=>nomatch h
    have I0:PrI (-1) (upd (params0 ["self", "store"] [.obj 11,.obj 3]) "many" (.int (-1))):=⟨rfl,rfl,rfl⟩
    have htest:=prop_test (W:=W) (n:=n) hc A1 I0
    rw [decide_eq_false hm] at htest
    have start:∀ {b ρ' μ'},propW W n W (upd (params0 ["self", "store"] [.obj 11,.obj 3]) "many" (.int (-1))) μ1=some (flB b,ρ',μ')→callF tab W (n + 7) "ElementOf.propagate" false 0 [.obj 11,.obj 3] μ=some (.bool b,μ'):=fun {b ρ' μ'} h=>
      call_imp f_ElementOf_propagate rfl rfl (run_ret (ρ₁:=ρ') (k_ite q1 (k_fn rfl (k_one (μ₁:=μ1) (v:=.int (-1)) rfl (by
        cases b with
        | true=>exact k_while h rfl
        | false=>rw [k_cons];exact bS (show ex tab (callF tab W (n + 6)) 0 W "ElementOf.propagate" (.while propC b_ElementOf_propagate_1) _ μ1=_ from h) rfl)))))
    obtain ⟨b2,ρ2,μ2,s2,e2,I2,h2,f2,en2,k2⟩:=prop_turn (W:=W) (n:=n) hc (Nat.lt_trans (by decide) hW) I0 A1 hz1 (Nat.lt_of_le_of_lt P1.tr (by lia))
    have ⟨w,hw⟩:∃ w,W=w + 1:=⟨W - 1,by lia⟩
    rw [hw] at htest e2 start
    cases b2 with
    | false=>exact ⟨false,μ2,s2,hw ▸ start (w_ret htest e2),h2,f1.trans f2,Ended.trans r1 en2,fun h=>nomatch h⟩
    | true=>
      have r2:=en2.runs
      have P2:=k2 rfl r2
      have htot:tot c s2≤62:=Nat.add_le_add P2.few.x P2.few.z
      have hr:=P2.tr
      have hr1:=P1.tr
      have A2:=A1.next hc r2 h2 f2 P2.len
      obtain ⟨b,ρ',μ',s',p1,_,p2,p3,p4,p5⟩:=prop_loop (n:=n) hc (W:=w + 1) (by lia) w (roomS c s1) ρ2 μ2 s2 I2 A2 (fun _=>P2.few.z) (by lia) (fun e=>by
        have es:=room_eq hc A1.inv r2 e
        rw [es];exact P2.fix es) (.inr (by lia))
      exact ⟨b,μ',s',hw ▸ start (w_next htest e2 p1),p2,(f1.trans f2).trans p3,Ended.trans (r1.trans r2) p4,fun hb _=>by subst hb;exact ⟨p5 rfl p4.runs,by have:=p4.runs.trail hc A2.inv;lia⟩⟩
end
end Mine
namespace Mine
open PySem
section
variable {W n lo:Nat} {μ:M} {im inw:Nat} {c:Ctx} {s:St} {l:Lit} {d ws:Dom} {v:Int}
noncomputable abbrev cDL:Cod Dom:=cLst cP
noncomputable def lstD (d:Dom):V:=.lst (d.map encP)
theorem eqLD {e:Dom}:eqV μ (lstD d) (lstD e)=some (decide (d=e)):=eqV_is cDL (by decide)
theorem frz_LD {f:Nat}:frz lo μ (f + 3) (lstD d)=some (lstD d):=frz_lst (frz_map fun _=>frz_P)
noncomputable def far:Int:=10 ^ 40
theorem pow_far:binV μ .Pow (.int 10) (.int 40)=some (.int far):=by kernel_rfl
theorem far_:callF tab W (n + 1) "_law_far" false lo [] μ=some (.int far,μ):=
  call_pure f__law_far rfl (run_e (e_bin rfl rfl pow_far)) rfl
noncomputable def inP (v:Int) (p:Int×Int):Bool:=decide (p.1≤v) && decide (v≤p.2)
noncomputable def hasL (d:Dom) (v:Int):Bool:=d.any (inP v)
theorem hasL_mem:hasL d v=true↔mem v d:=by
  rw [hasL,List.any_eq_true]
  exact exists_congr fun p=>and_congr_right fun _=>by rw [inP,Bool.and_eq_true,decide_eq_true_iff,decide_eq_true_iff]
theorem any_filter {α β:Type} [DecidableEq β] {k:α→Bool} {f:α→β}:∀ (l:List α),(!decide ((l.filter k).map f=[]))=l.any k
  | []=>rfl
  | a::l=>by
    rw [List.filter_cons,List.any_cons]
    cases k a with
    | true=>rfl
    | false=>exact any_filter l
theorem e_chain {cb:Calls} {ρ:Rho} {a b e:C} {x y z:V} {p q:Bool} {op op':CmpOp} (h1:ev tab cb lo a ρ μ=some (x,μ)) (h2:ev tab cb lo b ρ μ=some (y,μ)) (h3:cmpV μ op x y=some p) (h4:ev tab cb lo e ρ μ=some (z,μ)) (h5:cmpV μ op' y z=some q):ev tab cb lo (.chain a op b op' e) ρ μ=some (.bool (p && q),μ):=bS h1 (bS h2 (bS h3 (by
  cases p with
  | true=>exact bS h4 (mS h5)
  | false=>rfl)))
theorem eqL0 {α:Type} [DecidableEq α] (C:Cod α) (h:C.depth≤7) {l:List α}:eqV μ (.lst (l.map C.enc)) (.lst [])=some (decide (l=[])):=eqV_is (cLst C) (Nat.succ_le_succ h) (b:=[])
theorem lhas_:callF tab W (n + 1) "_law_has" false lo [lstD d,.int v] μ=some (.bool (hasL d v),μ):=by
  refine call_pure f__law_has rfl (run_e (e_cmp (ev_comp (l:=d) (enc:=encP) (k:=inP v) (g:=fun _=>.int 1) (vi:=lstD d) rfl rfl fun p _=>⟨_,rfl,a_one (e_chain rfl rfl rfl rfl rfl),fun _=>rfl⟩) rfl (cm_ne (q:=decide ((d.filter (inP v)).map (fun _=>(1:Int))=[])) ?_))) (congrArg (fun b=>some (V.bool b)) (any_filter d))
  exact (congrArg (fun l=>eqV μ (.lst l) (.lst [])) List.map_map.symm).trans (eqL0 cInt (by decide))
noncomputable def wins (l:Lit):Dom:=match l.s with
  | .le=>[(0 - far,l.k)]
  | .ge=>[(l.k,far)]
  | .eq=>[(l.k,l.k)]
  | .ne=>[(0 - far,l.k - 1),(l.k + 1,far)]
noncomputable def fits (p w:Int×Int):Bool:=decide (max p.1 w.1≤min p.2 w.2)
noncomputable def cutP (ws:Dom) (p:Int×Int):Dom:=(ws.filter (fits p)).map fun w=>(max p.1 w.1,min p.2 w.2)
noncomputable def cutD (d ws:Dom):Dom:=d.flatMap (cutP ws)
noncomputable def InFar (d:Dom):Prop:=∀ v,mem v d→-far≤v∧v≤far
theorem cut_mem:mem v (cutD d ws)↔mem v d∧mem v ws:=by
  constructor
  · rintro ⟨q,hq,h2,h3⟩
    obtain ⟨p,hp,hq⟩:=List.mem_flatMap.mp hq
    obtain ⟨w,hw,rfl⟩:=List.mem_map.mp hq
    exact ⟨⟨p,hp,Int.le_trans (Int.le_max_left ..) h2,Int.le_trans h3 (Int.min_le_left ..)⟩,⟨w,(List.mem_filter.mp hw).1,Int.le_trans (Int.le_max_right ..) h2,Int.le_trans h3 (Int.min_le_right ..)⟩⟩
  · rintro ⟨⟨p,hp,h1,h2⟩,⟨w,hw,h3,h4⟩⟩
    have a:=Int.max_le.mpr ⟨h1,h3⟩
    have b:=Int.le_min.mpr ⟨h2,h4⟩
    exact ⟨_,List.mem_flatMap.mpr ⟨p,hp,List.mem_map_of_mem (List.mem_filter.mpr ⟨hw,decide_eq_true (Int.le_trans a b)⟩)⟩,a,b⟩
theorem cut_gap {p q a b:Int×Int} (h:p.2 + 1<q.1∨a.2 + 1<b.1):min p.2 a.2 + 1<max q.1 b.1:=by
  rcases h with h | h
  · exact Int.lt_of_le_of_lt (Int.add_le_add_right (Int.min_le_left ..) 1) (Int.lt_of_lt_of_le h (Int.le_max_left ..))
  · exact Int.lt_of_le_of_lt (Int.add_le_add_right (Int.min_le_right ..) 1) (Int.lt_of_lt_of_le h (Int.le_max_right ..))
theorem cut_wf (hd:Wf d) (hw:ws.Pairwise fun p q=>p.2 + 1<q.1):Wf (cutD d ws):=by
  refine ⟨?_,fun q hq=>?_⟩
  · rw [cutD,List.pairwise_flatMap]
    refine ⟨fun p hp=>?_,hd.apart.imp fun {p q} hpq a ha b hb=>?_⟩
    · rw [cutP,List.pairwise_map]
      exact (hw.sublist List.filter_sublist).imp fun hab=>cut_gap (p:=p) (q:=p) (.inr hab)
    · obtain ⟨w,_,rfl⟩:=List.mem_map.mp ha
      obtain ⟨w',_,rfl⟩:=List.mem_map.mp hb
      exact cut_gap (.inl hpq)
  · obtain ⟨p,_,hq⟩:=List.mem_flatMap.mp hq
    obtain ⟨w,h1,rfl⟩:=List.mem_map.mp hq
    exact of_decide_eq_true (List.mem_filter.mp h1).2
theorem mem_one {p:Int×Int}:mem v [p]↔p.1≤v∧v≤p.2:=mem_cons.trans (or_iff_left mem_nil)
theorem cut_is (hd:Wf d) (hf:InFar d):cutD d (wins l)=struckD l d:=by
  refine (cut_wf hd ?_).ext (struck_wf hd) fun v=>?_
  · unfold wins
    cases l.s with
    | ne=>exact .cons (fun q h=>by rw [List.mem_singleton.mp h];show l.k - 1 + 1<l.k + 1;lia) (List.pairwise_singleton ..)
    | _=>exact List.pairwise_singleton ..
  · rw [cut_mem,struck_mem hd]
    refine and_congr_right fun hv=>?_
    obtain ⟨h1,h2⟩:=hf v hv
    unfold wins sat
    generalize l.k=k
    clear hf hv hd
    cases l.s with
    | ne=>exact (mem_cons.trans (or_congr .rfl mem_one)).trans (show (0 - far≤v∧v≤k - 1)∨(k + 1≤v∧v≤far)↔v≠k by lia)
    | le=>exact mem_one.trans (show 0 - far≤v∧v≤k↔v≤k by lia)
    | ge=>exact mem_one.trans (show k≤v∧v≤far↔k≤v by lia)
    | eq=>exact mem_one.trans (show k≤v∧v≤k↔v=k by lia)
theorem sort_same {l':Dom} (hd:Wf d) (hp:l'.Perm d) (hs:l'.Pairwise fun a b=>a.1≤b.1):l'=d:=by
  refine hp.eq_of_pairwise (le:=fun a b=>a.1≤b.1) (fun a b ha hb h1 h2=>?_) hs (hd.apart.imp_of_mem fun {p q} hp hq hpq=>Int.le_of_lt (Int.lt_of_le_of_lt (Int.le_trans (hd.ne p hp) (Int.le_add_of_nonneg_right (by decide))) hpq))
  have key:∀ {p q:Int×Int},p ∈ d→p.2 + 1<q.1→q.1≤p.1→False:=fun hp h h'=>by have:=hd.ne _ hp;lia
  obtain ⟨i,hi,rfl⟩:=List.getElem_of_mem (hp.mem_iff.mp ha)
  obtain ⟨j,hj,rfl⟩:=List.getElem_of_mem hb
  have hw:=List.pairwise_iff_getElem.mp hd.apart
  rcases Nat.lt_trichotomy i j with h | h | h
  · exact (key (List.getElem_mem hi) (hw i j hi hj h) h2).elim
  · subst h;rfl
  · exact (key (List.getElem_mem hj) (hw j i hj hi h) h1).elim
theorem iter_app {o:MObj} {v:V} {vs:List V} (h:iterV lo μ v=some vs) (hl:lo≤μ.length):iterV lo (μ++[o]) v=some vs:=by
  cases v with
  | obj k=>
    have h':(if k<lo then (μ[k]?).bind lst? else none)=some vs:=h
    show (if k<lo then ((μ++[o])[k]?).bind lst? else none)=_
    by_cases hk:k<lo
    · rw [if_pos hk] at h' ⊢
      rw [List.getElem?_append_left (Nat.lt_of_lt_of_le hk hl)];exact h'
    · rw [if_neg hk] at h';cases h'
  | _=>exact h
theorem struck_len:(struckD l d).length≤2 * d.length + 1:=by
  have a:=upD_len (d:=d) (k:=l.k)
  have b:=fromD_len (d:=d) (k:=l.k)
  unfold struckD
  cases l.s with
  | le=>exact Nat.le_trans a (by lia)
  | ge=>exact Nat.le_trans b (by lia)
  | eq=>
    show (if hasD d l.k=true then [(l.k,l.k)] else []).length≤_
    split
    · exact Nat.succ_le_succ (Nat.zero_le _)
    · exact Nat.zero_le _
  | ne=>
    have a:=upD_len (d:=d) (k:=l.k - 1)
    have b:=fromD_len (d:=d) (k:=l.k + 1)
    show (upD _ _++fromD _ _).length≤_
    rw [List.length_append];lia
theorem e_iteV {cb:Calls} {ρ:Rho} {t a b:C} {q:Bool} {x y:V} (h:ev tab cb lo t ρ μ=some (.bool q,μ)) (ha:ev tab cb lo a ρ μ=some (x,μ)) (hb:ev tab cb lo b ρ μ=some (y,μ)):ev tab cb lo (.ite t a b) ρ μ=some (bif q then x else y,μ):=bS h (by
  cases q with
  | true=>exact ha
  | false=>exact hb)
theorem add_lst {a b:V} {us vs:List V} (ha:intOf a=none) (ht:tupOf a=none) (h1:listV μ a=some us) (h2:listV μ b=some vs) (h:us.length + vs.length≤sizeLim):binV μ .Add a b=some (.lst (us++vs)):=by
  show (match intOf a with | some i=>_ | none=>match tupOf a with | some xs=>_ | none=>(listV μ a).bind fun xs=>(listV μ b).bind fun ys=>if xs.length + ys.length≤sizeLim then some (V.lst (xs++ys)) else none)=_
  rw [ha,ht]
  exact bS h1 (bS h2 (if_pos h))
theorem listO {i:Nat} {vs:List V} (h:μ[i]?=some (.list vs)):listV μ (.obj i)=some vs:=bS h rfl
theorem bi_sortedL {xs ys:List V} (h:sortV xs=some ys):biV μ "sorted" [.lst xs]=some (.lst ys):=show (sortV xs).map V.lst=_ from mS h
theorem cut_ {v:V} (hd:Wf d) (hf:InFar d) (hlen:d.length≤31) (hv:iterV μ.length μ v=some (d.map encP)):callF tab W (n + 2) "_law_cut" false lo [v,encL l] μ=some (lstD (struckD l d),μ):=by
  have hlc:(struckD l d).length<64:=Nat.lt_of_le_of_lt struck_len (by lia)
  obtain ⟨l',q1,q2,q3⟩:=sortP (struckD l d) hlc
  rw [sort_same (struck_wf hd) q2 (q3 trivial)] at q1
  obtain ⟨x,s,k⟩:=l
  have hin:∀ {μ},inV μ (.str s.s) (.tup [.str "<=", .str "!="])=some (decide (s=.le) || decide (s=.ne)):=fun {μ}=>by cases s <;> kernel_rfl
  have hwin:binV (μ++[.list [.tup [bif decide (s=.le) || decide (s=.ne) then .int (0 - far) else .int k,bif decide (s=.ge) then .int far else bif decide (s=.ne) then .int (k - 1) else .int k]]]) .Add (.obj μ.length) (bif decide (s=.ne) then .lst [.tup [.int (k + 1),.int far]] else .lst [])=some (lstD (wins ⟨x,s,k⟩)):=by
    cases s <;> exact add_lst rfl rfl (listO get_last) rfl (Nat.le_trans (m:=2) (Nat.le_of_ble_eq_true rfl) (by decide))
  refine call_pure f__law_cut rfl (run_ret (k_two (μ₁:=μ) (x:=.str s.s) (y:=.int k) rfl (k_one (e_listN (l_one (e_tup (l_cons (e_iteV (e_cmp rfl rfl (cm_in hin)) (e_bin rfl (e_call d__law_far far_ rfl) rfl) rfl) (l_one (e_iteV (e_cmp rfl rfl eqS_ge) (e_call d__law_far far_ rfl) (e_iteV (e_cmp rfl rfl eqS_ne) rfl rfl))))))) (k_one (e_binF hwin rfl (e_iteV (e_cmp rfl rfl eqS_ne) (e_list (l_one (e_tup (l_cons rfl (l_one (e_call d__law_far far_ rfl)))))) rfl)) (k_ret (e_bi d_sorted c_sorted (bi_sortedL q1) (l_one ?_))))))) frz_LD
  rw [← cut_is hd hf] at hlc ⊢
  refine bS rfl (bS (iter_app hv (Nat.le_refl _)) (bS (flatM_pure (g:=fun p=>(cutP (wins ⟨x,s,k⟩) p).map encP) fun p hp=>bS rfl (bS rfl (bS rfl ?_))) ((if_pos ?_).trans (congrArg (fun vs=>some (V.lst vs,_)) List.map_flatMap.symm))))
  · exact (flatM_if (l:=wins ⟨x,s,k⟩) (enc:=encP) (k:=fits p) (g:=fun w=>encP (max p.1 w.1,min p.2 w.2)) fun w _=>⟨_,rfl,a_one (e_cmp (e_bi d_max c_max bi_max rfl) (e_bi d_min c_min bi_min rfl) rfl),fun _=>e_tup (l_cons (e_bi d_max c_max bi_max rfl) (l_one (e_bi d_min c_min bi_min rfl)))⟩).trans (congrArg (fun vs=>some (vs,_)) (List.map_map (g:=encP) (f:=fun w:Int×Int=>(max p.1 w.1,min p.2 w.2)) (l:=(wins ⟨x,s,k⟩).filter (fits p))).symm)
  · rw [← List.map_flatMap,List.length_map]
    exact Nat.le_trans (Nat.le_of_lt hlc) (by decide)
end
end Mine
namespace Mine
open PySem
section
variable {W n lo:Nat} {μ:M} {l:Lit} {d d0 d1:Dom} {x y u:Int} {ls:List Lit} {v sv:V}
theorem cm_eq {x y:V} {q:Bool} (h:eqV μ x y=some q):cmpV μ .Eq x y=some q:=h
noncomputable def sel (d0 d1:Dom) (y:Int):Dom:=if y=0 then d0 else d1
noncomputable def LotsV (μ:M) (v:V) (d0 d1:Dom):Prop:=∀ y,isVarI y→idxV μ v (.int y)=some (lstD (sel d0 d1 y))
structure Dok (d:Dom):Prop where
  wf:Wf d
  far:InFar d
  len:d.length≤31
theorem Dok.sel (h0:Dok d0) (h1:Dok d1):Dok (sel d0 d1 y):=by
  unfold Mine.sel
  split <;> assumption
theorem Dok.cut (h:Dok d):callF tab W (n + 2) "_law_cut" false lo [lstD d,encL l] μ=some (lstD (struckD l d),μ):=cut_ h.wf h.far h.len rfl
theorem eqLL0:eqV μ (.lst (ls.map encL)) (.lst [])=some (decide (ls=[])):=eqL0 cL (by decide)
theorem eqLD0:eqV μ (lstD d) (.lst [])=some (decide (d=[])):=eqLD (e:=[])
theorem filter_all {α:Type} [DecidableEq α] {k:α→Bool}:∀ (l:List α),decide ((l.filter fun a=>!k a)=[])=l.all k
  | []=>rfl
  | a::l=>by
    rw [List.filter_cons,List.all_cons]
    cases k a with
    | true=>exact filter_all l
    | false=>rfl
noncomputable def heldB (d0 d1:Dom) (r:Lit):Bool:=decide (struckD r (sel d0 d1 r.x)=sel d0 d1 r.x)
theorem hold_ (hL:LotsV μ v d0 d1) (h0:Dok d0) (h1:Dok d1) (hs:iterV μ.length μ sv=some (ls.map encL)) (hx:∀ r ∈ ls,isVarI r.x) :
    callF tab W (n + 3) "_law_hold" false lo [v,sv] μ=some (.bool (ls.all (heldB d0 d1)),μ):=
  call_pure f__law_hold rfl (run_e (e_cmp (ev_comp (l:=ls) (enc:=encL) (k:=fun r=>!heldB d0 d1 r) (g:=encL) (vi:=sv) rfl hs fun r hr=>⟨_,rfl,a_one (e_cmp (e_call d__law_cut (h0.sel h1).cut (l_cons (e_idxF (hL r.x (hx r hr)) rfl rfl) rfl)) (e_idxF (hL r.x (hx r hr)) rfl rfl) (cm_ne eqLD)),fun _=>rfl⟩) rfl (cm_eq eqLL0))) (congrArg (fun b=>some (V.bool b)) (filter_all ls))
noncomputable def satB (l:Lit) (v:Int):Bool:=match l.s with
  | .le=>decide (v≤l.k)
  | .ge=>decide (l.k≤v)
  | .eq=>decide (v=l.k)
  | .ne=>decide (v≠l.k)
theorem satB_iff:satB l u=true↔sat l u:=by
  unfold satB sat
  cases l.s <;> exact decide_eq_true_iff
theorem one_mem {v:Int}:mem u [(v,v)]↔u=v:=mem_one.trans ⟨fun h=>Int.le_antisymm h.2 h.1,fun h=>⟨Int.le_of_eq h.symm,Int.le_of_eq h⟩⟩
noncomputable def InF (u:Int):Prop:=-far≤u∧u≤far
theorem one_ok (h:InF u):Dok [(u,u)]:=⟨⟨List.pairwise_singleton ..,fun p hp=>by rw [List.mem_singleton.mp hp];exact Int.le_refl _⟩,fun v hv=>by rw [one_mem.mp hv];exact h,Nat.le_of_ble_eq_true rfl⟩
theorem one_struck (h:InF u):decide (struckD l [(u,u)]=[])=!satB l u:=by
  have w:=(one_ok h).wf
  cases hb:satB l u with
  | false=>
    refine decide_eq_true ((wf_empty (struck_wf w)).mpr fun v hv=>?_)
    obtain ⟨h1,h2⟩:=(struck_mem w).mp hv
    rw [one_mem.mp h1,← satB_iff,hb] at h2
    cases h2
  | true=>exact decide_eq_false fun e=>(wf_empty (struck_wf w)).mp e u ((struck_mem w).mpr ⟨one_mem.mpr rfl,satB_iff.mp hb⟩)
noncomputable def pick (x:Int) (pr:Int×Int) (r:Lit):Int:=if r.x=x then pr.1 else pr.2
theorem pick_ {pr:Int×Int}:idxV μ (encP pr) (bif decide (l.x=x) then .int 0 else .int 1)=some (.int (pick x pr l)):=by
  unfold pick
  by_cases h:l.x=x
  · rw [if_pos h,decide_eq_true h];rfl
  · rw [if_neg h,decide_eq_false h];rfl
structure InF2 (pr:Int×Int):Prop where
  a:InF pr.1
  b:InF pr.2
theorem InF2.pick {pr:Int×Int} (h:InF2 pr):InF (pick x pr l):=by
  unfold Mine.pick
  split
  · exact h.a
  · exact h.b
noncomputable def keepB (x:Int) (ls:List Lit) (pr:Int×Int):Bool:=ls.all fun r=>satB r (pick x pr r)
theorem kept_ {prs:Dom} (hs:iterV μ.length μ sv=some (ls.map encL)) (hp:∀ pr ∈ prs,InF2 pr) :
    callF tab W (n + 3) "_law_kept" false lo [lstD prs,sv,.int x] μ=some (lstD (prs.filter (keepB x ls)),μ):=
  call_pure f__law_kept rfl (run_e (ev_comp (l:=prs) (enc:=encP) (k:=keepB x ls) (g:=encP) (vi:=lstD prs) rfl rfl fun pr hpr=>⟨_,rfl,a_one ((e_cmp (ev_comp (l:=ls) (enc:=encL) (k:=fun r=>!satB r (pick x pr r)) (g:=encL) (vi:=sv) rfl hs fun r hr=>⟨_,rfl,a_one (e_cmp (e_call d__law_cut (one_ok (hp pr hpr).pick).cut (l_cons (e_list (l_one (e_bin (e_tup (l_one (e_idxF (pick_ (l:=r)) rfl (e_iteV (e_cmp rfl rfl (cm_eq eqI)) rfl rfl)))) rfl rfl))) rfl)) rfl (cm_eq (eqLD0.trans (congrArg some (one_struck (hp pr hpr).pick))))),fun _=>rfl⟩) rfl (cm_eq eqLL0)).trans (congrArg (fun b=>some (V.bool b,μ)) (filter_all ls))),fun _=>rfl⟩)) frz_LD
end
end Mine
namespace Mine
open PySem
section
variable {W n lo k:Nat} {μ:M} {im inw:Nat} {s:St} {d F G ps:Dom} {p r:Int×Int} {vs:List V} {v u:V}
theorem bi_listD:biV μ "list" [encD d]=some (lstD d):=rfl
theorem lots_body {q:Str} (h:StoreAt μ im inw s):runB (exs tab (callF tab W (n + 1)) lo W q b__law_lots (params0 ["desk"] [.obj 3]) μ)=some (.obj μ.length,μ++[MObj.list [lstD s.d0,lstD s.d1]]):=
  run_e (e_listN (l_cons (e_bi d_list c_list bi_listD (l_one (e_def rfl (h.find m_Store_dom rfl) (dom_ h (.inl rfl)) rfl))) (l_one (e_bi d_list c_list bi_listD (l_one (e_def rfl (h.find m_Store_dom rfl) (dom_ h (.inr rfl)) rfl))))))
theorem all2 {P:V→Prop} (h1:P u) (h2:P v):∀ x ∈ [u,v],P x:=fun x h=>(List.mem_cons.mp h).elim (fun e=>e ▸ h1) fun h=>List.mem_singleton.mp h ▸ h2
theorem lots_ (h:StoreAt μ im inw s):callF tab W (n + 2) "_law_lots" false lo [.obj 3] μ=some (.lst [lstD s.d0,lstD s.d1],μ):=
  call_pure f__law_lots rfl (lots_body h) (frz_obj (Nat.le_refl _) get_last (all2 frz_LD frz_LD))
theorem lots_raw (h:StoreAt μ im inw s):callF tab W (n + 2) "_law_lots" true lo [.obj 3] μ=some (.obj μ.length,μ++[MObj.list [lstD s.d0,lstD s.d1]]):=
  call_imp f__law_lots rfl rfl (lots_body h)
noncomputable def mg (F:Dom) (p:Int×Int):Dom:=match F.getLast? with
  | none=>[p]
  | some r=>if p.1≤r.2 + 1 then F.dropLast++[(r.1,max p.2 r.2)] else F++[p]
theorem mg_snoc:mg (G++[r]) p=if p.1≤r.2 + 1 then G++[(r.1,max p.2 r.2)] else G++[r]++[p]:=by
  unfold mg
  rw [List.getLast?_concat,List.dropLast_concat]
theorem snoc_mem {v:Int}:mem v (F++[p])↔mem v F∨(p.1≤v∧v≤p.2):=mem_app.trans (or_congr_right mem_one)
theorem snoc_wf (h:Wf F) (hp:p.1≤p.2) (ha:∀ q ∈ F,q.2 + 1<p.1):Wf (F++[p]):=
  ⟨List.pairwise_append.mpr ⟨h.apart,List.pairwise_singleton ..,fun q hq r hr=>by rw [List.mem_singleton.mp hr];exact ha q hq⟩,fun q hq=>(List.mem_append.mp hq).elim (h.ne q) fun h1=>by rw [List.mem_singleton.mp h1];exact hp⟩
structure MgPre (ps F:Dom):Prop where
  wf:Wf F
  ne:∀ p ∈ ps,p.1≤p.2
  ord:ps.Pairwise fun a b=>a.1≤b.1
  ab:∀ q ∈ F,∀ p ∈ ps,q.1≤p.1
structure Mg (ps F F':Dom):Prop where
  wf:Wf F'
  mem:∀ v,mem v F'↔mem v F∨mem v ps
  len:F'.length≤F.length + ps.length
structure MgNext (ps F:Dom) (p:Int×Int) (F':Dom):Prop where
  pre:MgPre ps F'
  mem:∀ v,mem v F'↔mem v F∨(p.1≤v∧v≤p.2)
  len:F'.length≤F.length + 1
theorem MgPre.next (h:MgPre (p::ps) F):MgNext ps F p (mg F p):=by
  have hs:=List.pairwise_cons.mp h.ord
  have hp:=h.ne p (.head _)
  have mk:∀ {G:Dom} {r:Int×Int},Wf (G++[r])→(∀ q ∈ G,q ∈ F)→r.1≤p.1→MgPre ps (G++[r]):=fun w hG hr=>⟨w,fun a ha=>h.ne a (.tail _ ha),hs.2,fun q hq b hb=>(List.mem_append.mp hq).elim (fun h1=>h.ab q (hG q h1) b (.tail _ hb)) fun h1=>by rw [List.mem_singleton.mp h1];exact Int.le_trans hr (hs.1 b hb)⟩
  rcases List.eq_nil_or_concat F with rfl | ⟨G,r,rfl⟩
  · exact ⟨mk (G:=[]) (r:=p) ⟨List.pairwise_singleton ..,fun a ha=>by rw [List.mem_singleton.mp ha];exact hp⟩ (fun _ h=>nomatch h) (Int.le_refl _),fun v=>mem_one.trans (or_iff_right mem_nil).symm,Nat.le_refl _⟩
  · rw [List.concat_eq_append] at h mk ⊢
    have hin:r ∈ G++[r]:=List.mem_append_right _ (.head _)
    have hr:=h.wf.ne r hin
    have hrp:=h.ab r hin p (.head _)
    have hap:=List.pairwise_append.mp h.wf.apart
    rw [mg_snoc]
    split
    · rename_i hm
      refine ⟨mk (snoc_wf ⟨hap.1,fun a ha=>h.wf.ne a (List.mem_append_left _ ha)⟩ (Int.le_trans hr (Int.le_max_right ..)) fun a ha=>hap.2.2 a ha r (.head _)) (fun _=>List.mem_append_left _) hrp,fun v=>?_,by rw [List.length_append,List.length_append];exact Nat.le_succ _⟩
      rw [snoc_mem,snoc_mem,or_assoc]
      refine or_congr_right ?_
      clear mk hs hap hin h
      exact ⟨fun ⟨a,b⟩=>(Int.lt_or_le r.2 v).elim (fun c=>.inr ⟨Int.le_trans hm c,Int.not_lt.mp fun d=>Int.not_lt.mpr b (Int.max_lt.mpr ⟨d,c⟩)⟩) fun c=>.inl ⟨a,c⟩,fun h=>h.elim (fun ⟨a,b⟩=>⟨a,Int.le_trans b (Int.le_max_right ..)⟩) fun ⟨a,b⟩=>⟨Int.le_trans hrp a,Int.le_trans b (Int.le_max_left ..)⟩⟩
    · rename_i hm
      refine ⟨mk (snoc_wf h.wf hp fun a ha=>(List.mem_append.mp ha).elim (fun h1=>?_) fun h1=>by rw [List.mem_singleton.mp h1];exact Int.not_le.mp hm) (fun _ h=>h) (Int.le_refl _),fun v=>snoc_mem,by rw [List.length_append];exact Nat.le_refl _⟩
      exact Int.lt_of_lt_of_le (hap.2.2 a h1 r (.head _)) hrp
theorem merges:∀ (ps F:Dom),MgPre ps F→Mg ps F (ps.foldl mg F):=by
  intro ps
  induction ps with
  | nil=>exact fun F h=>⟨h.wf,fun v=>(or_iff_left mem_nil).symm,Nat.le_refl _⟩
  | cons p ps ih=>
    intro F h
    have N:=h.next
    have R:=ih _ N.pre
    exact ⟨R.wf,fun v=>(R.mem v).trans (by rw [N.mem,mem_cons,or_assoc]),Nat.le_trans R.len (by rw [List.length_cons,Nat.add_comm ps.length,← Nat.add_assoc];exact Nat.add_le_add_right N.len _)⟩
theorem get_neg (h:μ[k]?=some (.list (vs++[v]))):idxV μ (.obj k) (.int (-1))=some v:=
  bS (o:=seqV μ (.obj k)) (listO h) (bS (by rw [List.length_append];exact place_last) List.getElem?_concat_length)
theorem set_neg (h:μ[k]?=some (.list (vs++[v]))) (hlo:lo≤k):setIdxV lo μ (.obj k) (.int (-1)) u=some (μ.set k (.list (vs++[u]))):=by
  have e:(vs++[v]).set vs.length u=vs++[u]:=by rw [List.set_append_right _ _ (Nat.le_refl _),Nat.sub_self];rfl
  rw [← e]
  exact bS (o:=objOf (.obj k)) rfl ((if_neg (Nat.not_lt.mpr hlo)).trans (bS h (mS (mS (by rw [List.length_append];exact place_last)))))
theorem eqO0 (h:μ[k]?=some (.list (d.map encP))):eqV μ (.obj k) (.lst [])=some (decide (d=[])):=by
  have e:pdV μ eqDeep (.obj k)=pdV μ eqDeep (lstD d):=show (listV μ (.obj k)).bind _=_ by rw [listO h];rfl
  have h0:=eqLD0 (μ:=μ) (d:=d)
  unfold eqV at h0 ⊢
  rw [e]
  exact h0
noncomputable abbrev mgTurn (cb:Calls) (W lo:Nat):V→Rho→M→Res:=forB cb lo W "_law_merged" (.many ["first", "last"]) b__law_merged_1
theorem merged_turn {cb:Calls} {ρ:Rho} (hl:F.length≤1000) (q:ρ "found" = some (.obj μ.length)) :
    mgTurn cb W μ.length (encP p) ρ (μ++[MObj.list (F.map encP)])=some (.next,upd (upd ρ "first" (.int p.1)) "last" (.int p.2),μ++[MObj.list ((mg F p).map encP)]):=by
  rw [upd_self q]
  have e0:=eqO0 (μ:=μ++[MObj.list (F.map encP)]) (d:=F) get_last
  have hap:F.map encP++[encP p]=(F++[p]).map encP:=(List.map_append (l₁:=F) (l₂:=[p])).symm
  have hz:(F.map encP).length<sizeLim:=by rw [List.length_map];exact Nat.lt_of_le_of_lt hl (by decide)
  have app:=e_append (cb:=cb) (lo:=μ.length) (a:=.var "found") (b:=.tup [(.var "first"),(.var "last")]) (v:=encP p) (ρ:=upd (upd (upd ρ "found" (.obj μ.length)) "first" (.int p.1)) "last" (.int p.2)) rfl (get_last (m:=MObj.list (F.map encP))) rfl (Nat.le_refl _) hz
  rw [set_last,hap] at app
  rcases List.eq_nil_or_concat F with rfl | ⟨G,r,rfl⟩
  · exact forB_k rfl (k_ite (e_and (a_cons (e_cmp rfl rfl (cm_ne e0)) (if_f rfl rfl))) (k_f rfl (k_exp app rfl rfl)))
  · rw [List.concat_eq_append] at e0 app ⊢
    rw [decide_eq_false (fun h=>by cases G <;> cases h)] at e0
    have hg:(μ++[MObj.list ((G++[r]).map encP)])[μ.length]?=some (.list (G.map encP++[encP r])):=by rw [get_last,List.map_append];rfl
    have hn:=get_neg hg
    have ht:=e_and (a_cons (e_cmp (a:=.var "found") (b:=.list false []) (ρ:=upd (upd (upd ρ "found" (.obj μ.length)) "first" (.int p.1)) "last" (.int p.2)) (cb:=cb) (lo:=μ.length) rfl rfl (cm_ne e0)) (if_t rfl (a_one (e_cmp (op:=.LtE) (q:=decide (p.1≤r.2 + 1)) (a:=.var "first") (b:=.bin .Add (.idx (.idx (.var "found") (.neg (.const (.int 1)))) (.const (.int 1))) (.const (.int 1))) rfl (e_bin (e_idx (e_idxF hn rfl rfl) rfl rfl) rfl rfl) rfl))))
    rw [mg_snoc]
    by_cases hm:p.1≤r.2 + 1
    · rw [if_pos hm]
      have hs:=set_neg (u:=encP (r.1,max p.2 r.2)) hg (Nat.le_refl _)
      rw [set_last,show G.map encP++[encP (r.1,max p.2 r.2)]=(G++[(r.1,max p.2 r.2)]).map encP from (List.map_append (l₁:=G) (l₂:=[(r.1,max p.2 r.2)])).symm] at hs
      exact forB_k rfl (k_ite ht (k_t (decide_eq_true hm) (k_idx hs (e_tup (l_cons (e_idx (e_idxF hn rfl rfl) rfl rfl) (l_one (e_bi d_max c_max bi_max (l_cons rfl (l_one (e_idx (e_idxF hn rfl rfl) rfl rfl))))))) rfl rfl rfl)))
    · rw [if_neg hm]
      exact forB_k rfl (k_ite ht (k_f (decide_eq_false hm) (k_exp app rfl rfl)))
inductive MgEnd (n:Nat) (μ:M) (r:Res) (F:Dom):Prop
  | mk (ρ':Rho):r=some (.next,ρ',μ++[MObj.list (F.map encP)])→ρ' "found" = some (.obj n)→MgEnd n μ r F
theorem merged_loop {cb:Calls}:∀ (ps F:Dom) (ρ:Rho),MgPre ps F→F.length + ps.length≤1000→ρ "found" = some (.obj μ.length)→
    MgEnd μ.length μ (forM (mgTurn cb W μ.length) (ps.map encP) ρ (μ++[MObj.list (F.map encP)])) (ps.foldl mg F):=by
  intro ps
  induction ps with
  | nil=>exact fun F ρ _ _ q=>⟨ρ,rfl,q⟩
  | cons p ps ih=>
    intro F ρ h hl q
    have N:=h.next
    obtain ⟨ρ',r1,r2⟩:=ih (mg F p) (upd (upd ρ "first" (.int p.1)) "last" (.int p.2)) N.pre (Nat.le_trans (Nat.le_trans (Nat.add_le_add_right N.len _) (by rw [List.length_cons];lia)) hl) (upd_miss rfl (upd_miss rfl q))
    exact ⟨ρ',f_next (merged_turn (Nat.le_trans (Nat.le_add_right ..) hl) q) r1,r2⟩
theorem bi_sortedV {xs ys:List V} (hd:dctOf v=none) (hv:listV μ v=some xs) (h:sortV xs=some ys):biV μ "sorted" [v]=some (.lst ys):=by
  show (match dctOf v with | some ks=>_ | none=>(listV μ v).bind fun xs=>(sortV xs).map V.lst)=_
  rw [hd]
  exact bS hv (mS h)
theorem listV_app {o:MObj} {xs:List V} (h:listV μ v=some xs):listV (μ++[o]) v=some xs:=by
  cases v with
  | obj k=>
    show ((μ++[o])[k]?).bind lst?=_
    cases hk:μ[k]? with
    | none=>
      have h':(μ[k]?).bind lst?=some xs:=h
      rw [hk] at h';cases h'
    | some a=>
      have h':(μ[k]?).bind lst?=some xs:=h
      rw [hk] at h'
      rw [get_app hk];exact h'
  | _=>exact h
inductive Merged (μ:M) (rs:Dom) (r:Option (V×M)):Prop
  | mk (d:Dom):r=some (lstD d,μ)→Mg rs [] d→Merged μ rs r
theorem merged_ {rs:Dom} (hv:listV μ v=some (rs.map encP)) (hd:dctOf v=none) (hp:∀ p ∈ rs,p.1≤p.2) (hl:rs.length<64) :
    Merged μ rs (callF tab W (n + 1) "_law_merged" false lo [v] μ):=by
  obtain ⟨ps,s1,s2,s3⟩:=sortP rs hl
  have pre:MgPre ps []:=⟨.nil,fun p h=>hp p (s2.mem_iff.mp h),s3 trivial,fun q h=>nomatch h⟩
  obtain ⟨ρ',r1,r2⟩:=merged_loop (W:=W) (μ:=μ) (cb:=callF tab W n) ps [] (upd (params0 ["ranges"] [v]) "found" (.obj μ.length)) pre (by rw [s2.length_eq,List.length_nil,Nat.zero_add];exact Nat.le_trans (Nat.le_of_lt hl) (by decide)) rfl
  have R:=merges ps [] pre
  refine ⟨_,call_pure f__law_merged rfl (run_ret (k_one (e_listN rfl) (k_for (e_bi d_sorted c_sorted (bi_sortedV (μ:=μ++[MObj.list []]) hd (listV_app hv) s1) rfl) rfl r1 (k_ret (e_var r2))))) (frz_obj (Nat.le_refl _) get_last (frz_map fun _=>frz_P)),R.wf,fun u=>(R.mem u).trans (or_congr_right ?_),by rw [← s2.length_eq];exact R.len⟩
  exact exists_congr fun p=>and_congr_left fun _=>s2.mem_iff
end
end Mine
namespace Mine
open PySem
section
variable {W n lo:Nat} {μ:M} {c:Ctx} {d d0 d1:Dom} {ps:List Int} {p v:Int} {ρ:Rho} {lv:V}
noncomputable def RowAt (μ:M) (c:Ctx):Prop:=μ[9]?=some (.list (c.row.map .int))
theorem RowAt.iter (h:RowAt μ c):iterV μ.length μ (.obj 9)=some (c.row.map .int):=by
  show (if 9<μ.length then listV μ (.obj 9) else none)=_
  rw [if_pos (get_lt h)]
  exact listO h
theorem RowAt.idx (h:RowAt μ c) (hp:c.pl p):idxV μ (.obj 9) (.int (p - 1))=some (.int (c.at p)):=bS (o:=seqV μ (.obj 9)) (listO h) (at_idx (μ:=μ) hp)
theorem any_eqv {α:Type} (C:Cod α) {a:α} {l:List α} [Decidable (a ∈ l)]:((l.map C.pd).any fun y=>PyData.eqv y (C.pd a))=decide (a ∈ l):=by
  rw [Bool.eq_iff_iff,decide_eq_true_iff,List.any_map,List.any_eq_true]
  exact ⟨fun ⟨b,h,e⟩=>(C.eqv b a).mp e ▸ h,fun h=>⟨a,h,(C.eqv a a).mpr rfl⟩⟩
theorem in_lst {is:List Int}:inV μ (.int v) (.lst (is.map .int))=some (decide (v ∈ is)):=by
  show ((pdV μ eqDeep (.int v)).bind fun x=>(pdV μ (eqDeep + 1) (.lst (is.map .int))).bind fun y=>(pdS y).map fun ys=>ys.any fun y=>PyData.eqv y x)=_
  exact (bS (cInt.ok μ eqDeep v (by decide)) (bS ((cLst cInt).ok μ (eqDeep + 1) is (by decide)) rfl)).trans (congrArg some (any_eqv cInt))
noncomputable def backB (c:Ctx) (ps:List Int) (v:Int):List Int→Int→Bool
  | [],_=>false
  | _::r,w=>if c.at w=v then true else if c.at w ∈ ps then backB c ps v r (c.at w) else false
inductive BackEnd (μ:M) (r:Res) (b:Bool):Prop
  | next (ρ':Rho):b=false→r=some (.next,ρ',μ)→BackEnd μ r b
  | ret (ρ':Rho):r=some (.ret (.bool b),ρ',μ)→BackEnd μ r b
structure BkI (ps:List Int) (v w:Int) (ρ:Rho):Prop where
  row:ρ "row" = some (.obj 9)
  some_:ρ "some" = some (.lst (ps.map .int))
  v:ρ "v" = some (.int v)
  w:ρ "w" = some (.int w)
theorem BkI.eq {w:Int} (h:BkI ps v w ρ):ρ=upd (upd (upd (upd ρ "row" (.obj 9)) "some" (.lst (ps.map .int))) "v" (.int v)) "w" (.int w):=by
  rw [← upd_self h.row,← upd_self h.some_,← upd_self h.v,← upd_self h.w]
theorem back_loop (h:RowAt μ c) (hps:∀ p ∈ ps,c.pl p):∀ (laps:List Int) (w:Int) (ρ:Rho),c.pl w→BkI ps v w ρ→
    BackEnd μ (forM (forB (callF tab W n) μ.length W "_law_comes_back" (.one "lap") b__law_comes_back_1) (laps.map .int) ρ μ) (backB c ps v laps w):=by
  intro laps
  induction laps with
  | nil=>exact fun w ρ _ _=>.next ρ rfl rfl
  | cons a laps ih=>
    intro w ρ hw I
    rw [I.eq,backB]
    have hi:=h.idx hw
    by_cases h1:c.at w=v
    · rw [if_pos h1]
      exact .ret _ (f_ret (forB_k rfl (k_one (e_idxF hi rfl rfl) (k_ite (e_or (o_cons (e_cmp rfl rfl (cm_eq eqI)) (if_t (decide_eq_true h1) rfl))) (k_t rfl (k_ret (e_cmp rfl rfl (cm_eq (eqI.trans (congrArg some (decide_eq_true h1)))))))))))
    · rw [if_neg h1]
      by_cases h2:c.at w ∈ ps
      · rw [if_pos h2]
        have key:=forB_k (cb:=callF tab W n) (lo:=μ.length) (W:=W) (fn := "_law_comes_back") (t:=.one "lap") (b₁:=b__law_comes_back_1) (ρ:=upd (upd (upd (upd ρ "row" (.obj 9)) "some" (.lst (ps.map .int))) "v" (.int v)) "w" (.int w)) (x:=.int a) rfl (k_one (e_idxF hi rfl rfl) (k_ite (e_or (o_cons (e_cmp rfl rfl (cm_eq eqI)) (if_f (decide_eq_false h1) (o_one (e_cmp rfl rfl (cm_notIn (in_lst.trans (congrArg some (decide_eq_true h2))))))))) (k_fn rfl rfl)))
        rcases ih (c.at w) (upd (upd (upd (upd (upd (upd ρ "row" (.obj 9)) "some" (.lst (ps.map .int))) "v" (.int v)) "w" (.int w)) "lap" (.int a)) "w" (.int (c.at w))) (hps _ h2) ⟨rfl,rfl,rfl,rfl⟩ with ⟨ρ',e1,e2⟩ | ⟨ρ',e⟩
        · exact .next ρ' e1 (f_next key e2)
        · exact .ret ρ' (f_next key e)
      · rw [if_neg h2]
        exact .ret _ (f_ret (forB_k rfl (k_one (e_idxF hi rfl rfl) (k_ite (e_or (o_cons (e_cmp rfl rfl (cm_eq eqI)) (if_f (decide_eq_false h1) (o_one (e_cmp rfl rfl (cm_notIn (in_lst.trans (congrArg some (decide_eq_false h2))))))))) (k_t rfl (k_ret (e_cmp rfl rfl (cm_eq (eqI.trans (congrArg some (decide_eq_false h1)))))))))))
theorem back_ (h:RowAt μ c) (hps:∀ p ∈ ps,c.pl p) (hv:c.pl v):callF tab W (n + 1) "_law_comes_back" false lo [.obj 9,.lst (ps.map .int),.int v] μ=some (.bool (backB c ps v c.row v),μ):=by
  rcases back_loop (W:=W) (n:=n) (v:=v) h hps c.row v (upd (params0 ["row", "some", "v"] [.obj 9,.lst (ps.map .int),.int v]) "w" (.int v)) hv ⟨rfl,rfl,rfl,rfl⟩ with ⟨ρ',e1,e2⟩ | ⟨ρ',e⟩
  · rw [e1];exact call_pure f__law_comes_back rfl (run_ret (k_one' (v:=.int v) rfl (k_for rfl h.iter e2 (k_ret rfl)))) rfl
  · exact call_pure f__law_comes_back rfl (run_ret (k_one' (v:=.int v) rfl (k_forR rfl h.iter e))) rfl
noncomputable def placesL (c:Ctx) (d:Dom):List Int:=((intsI 0 c.row.length).filter fun k=>hasL d (k + 1)).map (· + 1)
theorem places_mem:p ∈ placesL c d↔c.pl p∧mem p d:=by
  unfold placesL
  rw [List.mem_map]
  constructor
  · rintro ⟨k,h,rfl⟩
    obtain ⟨h1,h2⟩:=List.mem_filter.mp h
    exact ⟨by have:=ints_mem.mp h1;exact ⟨by lia,by lia⟩,hasL_mem.mp h2⟩
  · rintro ⟨⟨h1,h2⟩,h3⟩
    exact ⟨p - 1,List.mem_filter.mpr ⟨ints_mem.mpr (by lia),hasL_mem.mpr (by rwa [Int.sub_add_cancel])⟩,Int.sub_add_cancel ..⟩
theorem placesL_len:(placesL c d).length≤c.row.length:=by
  unfold placesL
  rw [List.length_map]
  exact Nat.le_trans (List.length_filter_le ..) (Nat.le_of_eq ints_len)
theorem bi_range1 {b:Int} (h:b≤sizeLim):biV μ "range" [.int b]=some (.rng 0 b):=if_pos h
theorem len_row (hc:c.Ok):(c.row.length:Int)≤(sizeLim:Nat):=Int.ofNat_le.mpr (Nat.le_trans hc.len (by decide))
theorem rng_iter {k:Nat}:iterV lo μ (.rng 0 k)=some ((intsI 0 k).map .int):=congrArg some (intsFrom_is k 0)
theorem due_places (hr:RowAt μ c) (hL:LotsV μ lv d0 d1) (hc:c.Ok):ev tab (callF tab W (n + 1)) μ.length (.comp [".0", "k"] (.bin .Add (.var "k") (.const (.int 1))) (.one "k") (.call "range" false [(.call "len" false [(.var "row")])]) [(.call "_law_has" false [(.idx (.var "lots") (.var "x")),(.bin .Add (.var "k") (.const (.int 1)))])]) (params0 ["row", "lots", "x", "z"] [.obj 9,lv,.int c.x,.int c.z]) μ=some (.lst ((placesL c (sel d0 d1 c.x)).map .int),μ):=
  (ev_comp (l:=intsI 0 c.row.length) (enc:=V.int) (k:=fun k=>hasL (sel d0 d1 c.x) (k + 1)) (g:=fun k=>.int (k + 1)) (vi:=.rng 0 c.row.length) (e_bi d_range c_range (bi_range1 (len_row hc)) (l_one (e_bi d_len c_len (vs:=[.obj 9]) ((bi_lenO hr).trans (by rw [List.length_map])) rfl))) rng_iter fun k hk=>⟨_,rfl,a_one (e_call d__law_has lhas_ (l_cons (e_idxF (hL c.x hc.hx) rfl rfl) rfl)),fun _=>rfl⟩).trans (congrArg (fun l=>some (V.lst l,μ)) List.map_map.symm)
noncomputable def ptsD (ps:List Int):Dom:=ps.map fun k=>(k,k)
theorem mem_pts:mem v (ptsD ps)↔v ∈ ps:=by
  constructor
  · rintro ⟨_,hm,h1,h2⟩
    obtain ⟨k,h,rfl⟩:=List.mem_map.mp hm
    rwa [show v=k from Int.le_antisymm h2 h1]
  · intro h;exact ⟨_,List.mem_map_of_mem h,Int.le_refl _,Int.le_refl _⟩
theorem pts_map {f:Int→Int} {l:List Int}:(l.map fun k=>encP (f k,f k))=(ptsD (l.map f)).map encP:=by
  unfold ptsD
  rw [List.map_map,List.map_map];rfl
theorem pts_map0:(ps.map fun k=>encP (k,k))=(ptsD ps).map encP:=by
  unfold ptsD
  rw [List.map_map];rfl
theorem merged_pts (h:ps.length≤31):Merged μ (ptsD ps) (callF tab W (n + 1) "_law_merged" false lo [lstD (ptsD ps)] μ):=merged_ rfl rfl (fun p hp=>by obtain ⟨k,_,rfl⟩:=List.mem_map.mp hp;exact Int.le_refl _) (by rw [ptsD,List.length_map];exact Nat.lt_of_le_of_lt h (by decide))
theorem pts_of (h:Mg (ptsD ps) [] d):mem v d↔v ∈ ps:=(h.mem v).trans ((or_iff_right mem_nil).trans mem_pts)
theorem pts_len (h:Mg (ptsD ps) [] d):d.length≤ps.length:=Nat.le_trans h.len (by rw [ptsD,List.length_map,List.length_nil,Nat.zero_add];exact Nat.le_refl _)
structure Cyc (c:Ctx) (P:List Int) (u:Int):Prop where
  mem:u ∈ P
  back:backB c P u c.row u=true
inductive DueE (c:Ctx) (d0 d1:Dom) (μ:M) (r:Option (V×M)):Prop
  | mk (d:Dom):r=some (.tup [lstD d,lstD d],μ)→Wf d→(∀ u,mem u d↔Cyc c (placesL c (sel d0 d1 c.x)) u)→d.length≤31→DueE c d0 d1 μ r
theorem due_eq (hr:RowAt μ c) (hL:LotsV μ lv d0 d1) (hc:c.Ok) (hxz:c.x=c.z):DueE c d0 d1 μ (callF tab W (n + 2) "_law_due" false lo [.obj 9,lv,.int c.x,.int c.z] μ):=by
  have hp:=due_places (W:=W) (n:=n) hr hL hc
  have hPl:=Nat.le_trans (placesL_len (c:=c) (d:=sel d0 d1 c.x)) hc.len
  have hpl:∀ p ∈ placesL c (sel d0 d1 c.x),c.pl p:=fun p hp=>(places_mem.mp hp).1
  generalize hP:placesL c (sel d0 d1 c.x)=P at hp hPl hpl
  have hz:(P.filter fun u=>backB c P u c.row u).length≤31:=Nat.le_trans (List.length_filter_le ..) (Nat.le_trans hPl (by decide))
  obtain ⟨d,m1,m2⟩:=merged_pts (W:=W) (n:=n) (lo:=μ.length) (μ:=μ) hz
  refine ⟨d,call_pure f__law_due rfl (run_ret (k_one hp (k_ite (e_cmp rfl rfl (cm_eq eqI)) (k_t (decide_eq_true hxz) (k_one (v:=lstD d) (e_call d__law_merged m1 (l_one ?_)) (k_ret rfl)))))) (frz_tup (all2 frz_LD frz_LD)),m2.wf,fun u=>(pts_of m2).trans (List.mem_filter.trans (by rw [hP];exact ⟨fun h=>⟨h.1,h.2⟩,fun h=>⟨h.mem,h.back⟩⟩)),Nat.le_trans (pts_len m2) hz⟩
  exact (ev_comp (l:=P) (enc:=V.int) (k:=fun u=>backB c P u c.row u) (g:=fun k=>encP (k,k)) (vi:=.lst (P.map .int)) rfl rfl fun u hu=>⟨_,rfl,a_one (e_call d__law_comes_back (back_ hr hpl (hpl u hu)) rfl),fun _=>rfl⟩).trans (congrArg (fun l=>some (V.lst l,μ)) pts_map0)
structure SupD (c:Ctx) (d0 d1:Dom) (u:Int):Prop where
  pl:c.pl u
  x:mem u (sel d0 d1 c.x)
  z:mem (c.at u) (sel d0 d1 c.z)
inductive DueN (c:Ctx) (d0 d1:Dom) (μ:M) (r:Option (V×M)):Prop
  | mk (d e:Dom):r=some (.tup [lstD d,lstD e],μ)→Wf d→Wf e→(∀ u,mem u d↔SupD c d0 d1 u)→(∀ u,mem u e↔∃ p,SupD c d0 d1 p∧c.at p=u)→d.length≤31→e.length≤31→DueN c d0 d1 μ r
theorem due_ne (hr:RowAt μ c) (hL:LotsV μ lv d0 d1) (hc:c.Ok) (hxz:c.x≠c.z):DueN c d0 d1 μ (callF tab W (n + 2) "_law_due" false lo [.obj 9,lv,.int c.x,.int c.z] μ):=by
  have hp:=due_places (W:=W) (n:=n) hr hL hc
  have hPl:=Nat.le_trans (placesL_len (c:=c) (d:=sel d0 d1 c.x)) hc.len
  have hm:∀ p,p ∈ placesL c (sel d0 d1 c.x)↔c.pl p∧mem p (sel d0 d1 c.x):=fun p=>places_mem
  generalize placesL c (sel d0 d1 c.x)=P at hp hPl hm
  have h2:ev tab (callF tab W (n + 1)) μ.length (.comp [".0", "k"] (.var "k") (.one "k") (.var "places") [(.call "_law_has" false [(.idx (.var "lots") (.var "z")),(.idx (.var "row") (.bin .Sub (.var "k") (.const (.int 1))))])]) (upd (params0 ["row", "lots", "x", "z"] [.obj 9,lv,.int c.x,.int c.z]) "places" (.lst (P.map .int))) μ=some (.lst ((P.filter fun k=>hasL (sel d0 d1 c.z) (c.at k)).map .int),μ):=
    ev_comp (l:=P) (enc:=V.int) (k:=fun k=>hasL (sel d0 d1 c.z) (c.at k)) (g:=V.int) (vi:=.lst (P.map .int)) rfl rfl fun u hu=>⟨_,rfl,a_one (e_call d__law_has lhas_ (l_cons (e_idxF (hL c.z hc.hz) rfl rfl) (l_one (e_idxF (hr.idx ((hm u).mp hu).1) rfl rfl)))),fun _=>rfl⟩
  have hP2l:(P.filter fun k=>hasL (sel d0 d1 c.z) (c.at k)).length≤31:=Nat.le_trans (List.length_filter_le ..) (Nat.le_trans hPl (by decide))
  have hm2:∀ p,p ∈ P.filter (fun k=>hasL (sel d0 d1 c.z) (c.at k))↔SupD c d0 d1 p:=fun p=>List.mem_filter.trans ((and_congr (hm p) hasL_mem).trans ⟨fun h=>⟨h.1.1,h.1.2,h.2⟩,fun h=>⟨⟨h.pl,h.x⟩,h.z⟩⟩)
  generalize P.filter (fun k=>hasL (sel d0 d1 c.z) (c.at k))=P2 at h2 hP2l hm2
  obtain ⟨d,m1,m2⟩:=merged_pts (W:=W) (n:=n) (lo:=μ.length) (μ:=μ) hP2l
  obtain ⟨e,g1,g2⟩:=merged_pts (W:=W) (n:=n) (lo:=μ.length) (μ:=μ) (ps:=P2.map c.at) (by rw [List.length_map];exact hP2l)
  refine ⟨d,e,call_pure f__law_due rfl (run_ret (k_one hp (k_ite (e_cmp rfl rfl (cm_eq eqI)) (k_fn (decide_eq_false hxz) (k_one h2 (k_ret (e_tup (l_cons (e_call d__law_merged m1 (l_one ?_)) (l_one (e_call d__law_merged g1 (l_one ?_))))))))))) (frz_tup (all2 frz_LD frz_LD)),m2.wf,g2.wf,fun u=>(pts_of m2).trans (hm2 u),fun u=>(pts_of g2).trans (List.mem_map.trans (exists_congr fun p=>and_congr_left fun _=>hm2 p)),Nat.le_trans (pts_len m2) hP2l,Nat.le_trans (pts_len g2) (by rw [List.length_map];exact hP2l)⟩
  · exact (ev_comp (l:=P2) (enc:=V.int) (k:=fun _=>true) (g:=fun k=>encP (k,k)) (vi:=.lst (P2.map .int)) rfl rfl fun u hu=>⟨_,rfl,rfl,fun _=>rfl⟩).trans (congrArg (fun l=>some (V.lst l,μ)) ((congrArg (List.map _) (all_true P2)).trans pts_map0))
  · exact (ev_comp (l:=P2) (enc:=V.int) (k:=fun _=>true) (g:=fun k=>encP (c.at k,c.at k)) (vi:=.lst (P2.map .int)) rfl rfl fun u hu=>⟨_,rfl,rfl,fun _=>e_tup (l_cons (e_idxF (hr.idx ((hm2 u).mp hu).pl) rfl rfl) (l_one (e_idxF (hr.idx ((hm2 u).mp hu).pl) rfl rfl)))⟩).trans (congrArg (fun l=>some (V.lst l,μ)) ((congrArg (List.map _) (all_true P2)).trans pts_map))
end
end Mine
namespace Mine
open PySem
section
variable {c:Ctx} {s s':St} {P:List Int} {u v w:Int} {d e:Dom}
noncomputable def it (c:Ctx):Nat→Int→Int
  | 0,w=>w
  | k + 1,w=>it c k (c.at w)
theorem it_succ:∀ (k:Nat) (w:Int),it c (k + 1) w=c.at (it c k w)
  | 0,_=>rfl
  | k + 1,w=>it_succ k (c.at w)
theorem it_add:∀ (a b:Nat) (w:Int),it c (a + b) w=it c a (it c b w)
  | a,0,_=>rfl
  | a,b + 1,w=>it_add a b (c.at w)
structure Back (c:Ctx) (P:List Int) (v w:Int) (n k:Nat):Prop where
  le:k + 1≤n
  eq:it c (k + 1) w=v
  mem:∀ j,j<k→it c (j + 1) w ∈ P
theorem back_iff:∀ (laps:List Int) (w:Int),backB c P v laps w=true↔∃ k,Back c P v w laps.length k:=by
  intro laps
  induction laps with
  | nil=>exact fun w=>⟨fun h=>(nomatch h),fun ⟨k,h⟩=>absurd h.le (Nat.not_succ_le_zero k)⟩
  | cons a laps ih=>
    intro w
    rw [backB]
    by_cases h1:c.at w=v
    · rw [if_pos h1]
      exact ⟨fun _=>⟨0,Nat.succ_le_succ (Nat.zero_le _),h1,fun j h=>absurd h (Nat.not_lt_zero j)⟩,fun _=>rfl⟩
    · rw [if_neg h1]
      by_cases h2:c.at w ∈ P
      · rw [if_pos h2,ih]
        constructor
        · rintro ⟨k,h⟩
          refine ⟨k + 1,Nat.succ_le_succ h.le,h.eq,fun j hj=>?_⟩
          cases j with
          | zero=>exact h2
          | succ j=>exact h.mem j (Nat.lt_of_succ_lt_succ hj)
        · rintro ⟨k,h⟩
          cases k with
          | zero=>exact absurd h.eq h1
          | succ k=>exact ⟨k,Nat.le_of_succ_le_succ h.le,h.eq,fun j hj=>h.mem (j + 1) (Nat.succ_lt_succ hj)⟩
      · rw [if_neg h2]
        refine ⟨fun h=>(nomatch h),fun ⟨k,h⟩=>?_⟩
        cases k with
        | zero=>exact absurd h.eq h1
        | succ k=>exact absurd (h.mem 0 (Nat.succ_pos k)) h2
theorem Back.all {n k:Nat} (h:Back c P v w n k) (hv:v ∈ P) {j:Nat} (hj:j≤k):it c (j + 1) w ∈ P:=by
  rcases Nat.lt_or_eq_of_le hj with h1 | rfl
  · exact h.mem j h1
  · rw [h.eq];exact hv
theorem cyc_core (hc:c.Ok) (hxz:c.x=c.z):Core c (Cyc c (placesL c (s.dom c.x))) s:=by
  have first:∀ u,Cyc c (placesL c (s.dom c.x)) u→c.at u ∈ placesL c (s.dom c.x):=fun u h=>by
    obtain ⟨k,b⟩:=(back_iff _ _).mp h.back
    exact b.all h.mem (Nat.zero_le k)
  refine ⟨fun p hp=>?_,fun _ p hp=>⟨first p hp,?_⟩,fun _ q hq=>?_⟩
  · obtain ⟨a,b⟩:=places_mem.mp hp.mem
    exact ⟨a,b,by rw [← hxz];exact (places_mem.mp (first p hp)).2⟩
  · obtain ⟨k,b⟩:=(back_iff _ _).mp hp.back
    exact (back_iff _ _).mpr ⟨k,b.le,(it_succ (k + 1) p).trans (congrArg c.at b.eq),fun j hj=>b.all hp.mem (j:=j + 1) hj⟩
  · obtain ⟨k,b⟩:=(back_iff _ _).mp hq.back
    have hp:it c k q ∈ placesL c (s.dom c.x):=by
      cases k with
      | zero=>exact hq.mem
      | succ k=>exact b.mem k (Nat.lt_succ_self k)
    refine ⟨it c k q,⟨hp,(back_iff _ _).mpr ⟨k,b.le,?_,fun j hj=>?_⟩⟩,(it_succ k q).symm.trans b.eq⟩
    · rw [← it_add,Nat.add_comm,it_add,b.eq]
    · rw [← it_add,show j + 1 + k=j + (k + 1) by rw [Nat.add_assoc,Nat.add_comm 1],it_add,b.eq]
      cases j with
      | zero=>exact hq.mem
      | succ j=>exact b.mem j (Nat.lt_of_succ_lt hj)
theorem it_in {S:List Int} (hS:∀ u ∈ S,c.at u ∈ S):∀ (k:Nat) {u:Int},u ∈ S→it c k u ∈ S
  | 0,_,h=>h
  | k + 1,u,h=>it_in hS k (hS u h)
structure Own (c:Ctx) (S:List Int):Prop where
  nodup:S.Nodup
  to:∀ u ∈ S,c.at u ∈ S
  from_:∀ v ∈ S,∃ u ∈ S,c.at u=v
theorem Own.comes {S:List Int} (h:Own c S) (hu:u ∈ S):∃ k,k + 1≤S.length∧it c (k + 1) u=u:=by
  have inj:∀ a ∈ S,∀ b ∈ S,c.at a=c.at b→a=b:=fun a ha b hb e=>Classical.byContradiction fun hne=>by
    have h1:=nodup_sub (a:=S) (b:=(S.erase a).map c.at) h.nodup fun v hv=>by
      obtain ⟨w,hw,rfl⟩:=h.from_ v hv
      by_cases hwa:w=a
      · subst hwa
        rw [e]
        exact List.mem_map_of_mem ((List.mem_erase_of_ne (Ne.symm hne)).mpr hb)
      · exact List.mem_map_of_mem ((List.mem_erase_of_ne hwa).mpr hw)
    rw [List.length_map,List.length_erase_of_mem ha] at h1
    exact Nat.not_le_of_lt (Nat.sub_lt (List.length_pos_of_mem ha) Nat.one_pos) h1
  have peel:∀ (i d:Nat),it c i u=it c (d + i) u→it c d u=u:=fun i=>by
    induction i with
    | zero=>exact fun d h=>h.symm
    | succ i ih=>
      intro d e
      rw [← Nat.add_assoc,it_succ,it_succ] at e
      exact ih d (inj _ (it_in h.to i hu) _ (it_in h.to (d + i) hu) e)
  apply Classical.byContradiction
  intro hno
  have hnd:((List.range (S.length + 1)).map fun j=>it c j u).Nodup:=by
    rw [List.Nodup,List.pairwise_map]
    refine List.Pairwise.imp_of_mem ?_ List.pairwise_lt_range
    intro i j hi hj hij e
    have hj:=Nat.le_of_lt_succ (List.mem_range.mp hj)
    refine hno ⟨j - i - 1,by lia,peel i _ ?_⟩
    rwa [show j - i - 1 + 1 + i=j by lia]
  have:=nodup_sub (b:=S) hnd fun v hv=>by
    obtain ⟨j,_,rfl⟩:=List.mem_map.mp hv
    exact it_in h.to j hu
  rw [List.length_map,List.length_range] at this
  exact Nat.not_succ_le_self _ this
theorem fix_cyc (hc:c.Ok) (h:SInv c s) (r:Runs c s s') (f:Fix c s') (hxz:c.x=c.z) (hu:mem u (s'.dom c.x)):Cyc c (placesL c (s.dom c.x)) u:=by
  have h':=r.inv hc h
  have hsub:∀ v,mem v (s'.dom c.x)→v ∈ placesL c (s.dom c.x):=fun v hv=>places_mem.mpr ⟨(f.a v hv).1,r.sub hc h hc.hx hv⟩
  have O:Own c (valsD (s'.dom c.x)):=⟨vals_nodup (h'.wf c.x),fun v hv=>vals_mem.mpr (by rw [hxz];exact (f.a v (vals_mem.mp hv)).2),fun v hv=>by
    obtain ⟨i,hi,e⟩:=f.b v (by rw [← hxz];exact vals_mem.mp hv)
    exact ⟨i,vals_mem.mpr hi,e⟩⟩
  obtain ⟨k,k2,k3⟩:=O.comes (vals_mem.mpr hu)
  exact ⟨hsub u hu,(back_iff _ _).mpr ⟨k,Nat.le_trans k2 (places_few h' fun i hi=>(f.a i hi).1),k3,fun j _=>hsub _ (vals_mem.mp (it_in O.to (j + 1) (vals_mem.mpr hu)))⟩⟩
theorem due_is_eq (hc:c.Ok) (h:SInv c s) (r:Runs c s s') (f:Fix c s') (hxz:c.x=c.z) (hd:Wf d) (hm:∀ u,mem u d↔Cyc c (placesL c (s.dom c.x)) u):d=s'.dom c.x:=
  hd.ext ((r.inv hc h).wf _) fun u=>⟨fun hu=>((r.core hc h (cyc_core hc hxz)).place u ((hm u).mp hu)).x,fun hu=>(hm u).mpr (fix_cyc hc h r f hxz hu)⟩
noncomputable abbrev Sup (c:Ctx) (s:St) (u:Int):Prop:=SupD c s.d0 s.d1 u
theorem sup_core (hxz:c.x≠c.z):Core c (Sup c s) s:=⟨fun p hp=>⟨hp.pl,hp.x,hp.z⟩,fun e=>absurd e hxz,fun e=>absurd e hxz⟩
structure DueIs (c:Ctx) (s':St) (d e:Dom):Prop where
  x:d=s'.dom c.x
  z:e=s'.dom c.z
theorem due_is_ne (hc:c.Ok) (h:SInv c s) (r:Runs c s s') (f:Fix c s') (hxz:c.x≠c.z) (hd:Wf d) (he:Wf e) (hm:∀ u,mem u d↔Sup c s u) (hm2:∀ u,mem u e↔∃ p,Sup c s p∧c.at p=u):DueIs c s' d e:=by
  have k:=r.core hc h (sup_core hxz)
  have back:∀ u,mem u (s'.dom c.x)→Sup c s u:=fun u hu=>⟨(f.a u hu).1,r.sub hc h hc.hx hu,r.sub hc h hc.hz (f.a u hu).2⟩
  refine ⟨hd.ext ((r.inv hc h).wf _) fun u=>⟨fun hu=>(k.place u ((hm u).mp hu)).x,fun hu=>(hm u).mpr (back u hu)⟩,he.ext ((r.inv hc h).wf _) fun u=>⟨fun hu=>?_,fun hu=>?_⟩⟩
  · obtain ⟨p,hp,rfl⟩:=(hm2 u).mp hu
    exact (k.place p hp).z
  · obtain ⟨i,hi,rfl⟩:=f.b u hu
    exact (hm2 _).mpr ⟨i,back i hi,rfl⟩
end
end Mine
namespace Mine
open PySem
section
variable {c:Ctx} {s s' s₁ t:St} {l:Lit} {R:List Lit} {d:Dom} {rs:Option (List Lit)} {y:Int}
structure Clash (c:Ctx) (s s₁:St) (cl:List Lit):Prop where
  reasons:∀ r ∈ cl,isVarI r.x∧∀ v,mem v (s₁.dom r.x)→sat r v
  pairs:∀ pr,isPair c pr→∃ r ∈ cl,¬ satP c pr r
  core:∀ K,Core c K s→∀ p,¬ K p
  len:∀ y,isVarI y→(s₁.dom y).length≤31
inductive Out (c:Ctx) (s:St) (b:Bool) (s₁ s':St):Prop
  | yes:b=true→s'=s₁→Runs c s s₁→Fix c s₁→Out c s b s₁ s'
  | no (cl:List Lit):b=false→s'=s₁.wF true cl→Runs c s s₁→Clash c s s₁ cl→Out c s b s₁ s'
theorem Out.runs {b:Bool} (o:Out c s b s₁ s'):Runs c s s₁:=by
  rcases o with ⟨_,_,r,_⟩ | ⟨_,_,_,r,_⟩ <;> exact r
theorem satP_neg {pr:Int×Int} (h:satP c pr l):¬ satP c pr (negL l):=by
  unfold satP at h ⊢
  rw [negL_x]
  exact fun h'=>sat_neg.mp h' h
theorem out_of (hc:c.Ok) (h:SInv c s) {b:Bool} (e:Ended c s b s') (f:b=true→Fix c s'):∃ s₁,Out c s b s₁ s':=by
  rcases e with ⟨hb,r⟩ | ⟨hb,s₁,l,R,r,g,h1,h2⟩
  · exact ⟨s',.yes hb rfl r (f hb)⟩
  · have hi:=r.inv hc h
    obtain ⟨e1,e2⟩:=fail_state h1
    refine ⟨s₁,.no (R++[negL l]) hb (h2.trans e2) r ⟨fun q hq=>?_,fun pr hpr=>Classical.byContradiction fun hno=>?_,fun K k p hp=>fail_core hc hi (r.core hc h k) g h1 p hp,g.len⟩⟩
    · rcases List.mem_append.mp hq with hq | hq
      · obtain ⟨a,b⟩:=g.reasons q hq
        exact ⟨by rcases a with a | a <;> rw [a];exact hc.hx;exact hc.hz,b⟩
      · rw [List.mem_singleton.mp hq,negL_x]
        exact ⟨g.hx hc,fun v hv=>sat_neg.mpr fun hs=>(wf_empty (struck_wf (hi.wf _))).mp e1 v ((struck_mem (hi.wf _)).mpr ⟨hv,hs⟩)⟩
    · have hall:∀ q ∈ R++[negL l],satP c pr q:=fun q hq=>Classical.byContradiction fun hn=>hno ⟨q,hq,hn⟩
      exact satP_neg (g.pairs pr hpr fun q hq=>hall q (List.mem_append_left _ hq)) (hall (negL l) (List.mem_append_right _ (.head _)))
structure Doms (s t:St):Prop where
  d0:s.d0=t.d0
  d1:s.d1=t.d1
theorem Doms.trans {u:St} (a:Doms s t) (b:Doms t u):Doms s u:=⟨a.d0.trans b.d0,a.d1.trans b.d1⟩
theorem Doms.set (h:Doms s t):Doms (s.setDom y d) (t.setDom y d):=by
  refine ⟨?_,?_⟩
  · show (if y=0 then d else s.d0)=if y=0 then d else t.d0
    rw [h.d0]
  · show (if y=0 then s.d1 else d)=if y=0 then t.d1 else d
    rw [h.d1]
theorem undo_doms:∀ {r:List Ent} {s t:St},Doms s t→Doms (undo r s) (undo r t)
  | [],_,_,h=>h
  | e::r,s,t,h=>undo_doms (r:=r) (s:=s.setDom e.y e.old) (t:=t.setDom e.y e.old) h.set
theorem undo_app:∀ {p q:List Ent} {t:St},undo (p++q) t=undo q (undo p t)
  | [],_,_=>rfl
  | _::p,_,_=>undo_app (p:=p)
structure Trail (s:St) (ext:List Ent) (s₁:St):Prop where
  tr:s₁.tr=s.tr++ext
  vars:∀ e ∈ ext,isVarI e.y
  und:Doms (undo ext.reverse s₁) s
theorem Trail.refl (h:s₁.tr=s.tr) (d:Doms s₁ s):Trail s [] s₁:=⟨by rw [h,List.append_nil],fun _ h=>(nomatch h),d⟩
theorem Trail.trans {e f:List Ent} (a:Trail s e s₁) (b:Trail s₁ f t):Trail s (e++f) t:=⟨by rw [b.tr,a.tr,List.append_assoc],fun x hx=>(List.mem_append.mp hx).elim (a.vars x) (b.vars x),by
  rw [List.reverse_append,undo_app]
  exact (undo_doms b.und).trans a.und⟩
theorem Trail.to {e:List Ent} (a:Trail s e s₁) (h:t.tr=s₁.tr) (d:Doms t s₁):Trail s e t:=⟨h.trans a.tr,a.vars,(undo_doms d).trans a.und⟩
theorem Trail.put (hx:isVarI l.x):Trail s [⟨l.x,s.dom l.x,l,rs⟩] (s.put l rs d):=by
  refine ⟨rfl,fun e he=>by rw [List.mem_singleton.mp he];exact hx,?_⟩
  show Doms ((s.put l rs d).setDom l.x (s.dom l.x)) s
  refine ⟨?_,?_⟩
  · show (if l.x=0 then (if l.x=0 then s.d0 else s.d1) else (if l.x=0 then d else s.d0))=s.d0
    by_cases h:l.x=0
    · rw [if_pos h,if_pos h]
    · rw [if_neg h,if_neg h]
  · show (if l.x=0 then (if l.x=0 then s.d1 else d) else (if l.x=0 then s.d0 else s.d1))=s.d1
    by_cases h:l.x=0
    · rw [if_pos h,if_pos h]
    · rw [if_neg h,if_neg h]
theorem keepB_iff {ls:List Lit} {pr:Int×Int}:keepB c.x ls pr=true↔∀ r ∈ ls,satP c pr r:=by
  unfold keepB
  rw [List.all_eq_true]
  exact ⟨fun h r hr=>satB_iff.mp (h r hr),fun h r hr=>satB_iff.mpr (h r hr)⟩
theorem keep_same (g:GoodL c s l R) {prs:Dom} (hp:∀ pr ∈ prs,isPair c pr):prs.filter (keepB c.x R)=prs.filter (keepB c.x (R++[l])):=
  List.filter_congr fun pr hpr=>Bool.eq_iff_iff.mpr (keepB_iff.trans ((show (∀ r ∈ R,satP c pr r)↔∀ r ∈ R++[l],satP c pr r from ⟨fun h r hr=>(List.mem_append.mp hr).elim (h r) fun h1=>by rw [List.mem_singleton.mp h1];exact g.pairs pr (hp pr hpr) h,fun h r hr=>h r (List.mem_append_left _ hr)⟩).trans keepB_iff.symm))
structure Setting (c:Ctx):Prop where
  ok:c.Ok
  f0:InFar c.f0
  f1:InFar c.f1
theorem Setting.far (hs:Setting c):InFar (c.fst y):=by
  unfold Ctx.fst
  split
  · exact hs.f0
  · exact hs.f1
theorem Setting.dok (hs:Setting c) (h:SInv c s) (hl:(s.dom y).length≤31):Dok (s.dom y):=⟨h.wf y,fun v hv=>hs.far v (h.sub y hv),hl⟩
theorem Setting.pair (hs:Setting c) {pr:Int×Int} (h:isPair c pr):InF2 pr:=⟨hs.far _ h.mx,hs.far _ h.mz⟩
end
end Mine
namespace Mine
open PySem
section
variable {W n lo L:Nat} {μ:M} {c:Ctx} {s s₁:St} {l:Lit} {R:List Lit} {prs:Dom} {ρ ρ' ρ'':Rho} {x:Str} {v:V}
noncomputable def lotsO (s:St):MObj:=.list [lstD s.d0,lstD s.d1]
theorem lots_V (h:μ[L]?=some (lotsO s)):LotsV μ (.obj L) s.d0 s.d1:=fun y hy=>by
  rcases hy with rfl | rfl <;> exact bS (o:=seqV μ (.obj L)) (listO h) rfl
theorem set_self {o:MObj} (h:μ[L]?=some o):μ.set L o=μ:=by
  obtain ⟨hi,e⟩:=List.getElem?_eq_some_iff.mp h
  rw [← e]
  exact List.set_getElem_self hi
noncomputable def tn:List Str:=["y", "old", "literal", "reasons", "speaker", "left", "some"]
noncomputable def over (σ ρ:Rho):Rho:=fun y=>if y ∈ tn then σ y else ρ y
inductive Over (ρ ρ':Rho):Prop
  | mk (σ:Rho):ρ'=over σ ρ→Over ρ ρ'
theorem Over.refl:Over ρ ρ:=⟨ρ,funext fun y=>by unfold over;split <;> rfl⟩
theorem Over.trans (a:Over ρ ρ') (b:Over ρ' ρ''):Over ρ ρ'':=by
  obtain ⟨σ,rfl⟩:=a
  obtain ⟨τ,rfl⟩:=b
  refine ⟨τ,funext fun y=>?_⟩
  unfold over
  split <;> rfl
theorem Over.upd (a:Over ρ ρ') (h:decide (x ∈ tn)=true):Over ρ (upd ρ' x v):=by
  obtain ⟨σ,rfl⟩:=a
  refine ⟨Mine.upd σ x v,funext fun y=>?_⟩
  show (if y=x then some v else if y ∈ tn then σ y else ρ y)=if y ∈ tn then (if y=x then some v else σ y) else ρ y
  by_cases hy:y=x
  · rw [if_pos hy,if_pos (hy ▸ of_decide_eq_true h),if_pos hy]
  · rw [if_neg hy,if_neg hy]
structure RnI (c:Ctx) (L:Nat) (prs:Dom) (ρ:Rho):Prop where
  lots:ρ "lots" = some (.obj L)
  pairs:ρ "pairs" = some (lstD prs)
  x:ρ "x" = some (.int c.x)
theorem RnI.over (h:RnI c L prs ρ) (o:Over ρ ρ'):RnI c L prs ρ':=by
  obtain ⟨σ,rfl⟩:=o
  exact ⟨h.lots,h.pairs,h.x⟩
theorem RnI.eq (h:RnI c L prs ρ):ρ=upd (upd (upd ρ "lots" (.obj L)) "pairs" (lstD prs)) "x" (.int c.x):=by
  rw [← upd_self h.lots,← upd_self h.pairs,← upd_self h.x]
noncomputable abbrev runT (cb:Calls) (W:Nat):V→Rho→M→Res:=forB cb 0 W "_law_run" (.many ["y", "old", "literal", "reasons", "speaker"]) b__law_run_1
inductive RunS (ρ:Rho) (r:Res) (μ':M):Prop
  | mk (ρ':Rho):r=some (.next,ρ',μ')→Over ρ ρ'→RunS ρ r μ'
theorem bi_tupD {d:Dom}:biV μ "tuple" [lstD d]=some (encD d):=rfl
theorem bi_listL {ls:List Lit}:biV μ "list" [.tup (ls.map encL)]=some (.lst (ls.map encL)):=rfl
theorem run_step (hs:Setting c) (h:SInv c s) (g:GoodL c s l R) (h1:struckD l (s.dom l.x)≠[]) (h2:struckD l (s.dom l.x)≠s.dom l.x) (hp:∀ pr ∈ prs,isPair c pr) (hL:μ[L]?=some (lotsO s)) (I:RnI c L prs ρ) :
    RunS ρ (runT (callF tab W (n + 4)) W (encE ⟨l.x,s.dom l.x,l,some R⟩) ρ μ) (μ.set L (lotsO (s.put l (some R) (struckD l (s.dom l.x))))):=by
  rw [I.eq]
  have hx:=g.hx hs.ok
  have hV:=lots_V hL
  have hi:idxV μ (.obj L) (.int l.x)=some (lstD (s.dom l.x)):=hV l.x hx
  have d0:Dok s.d0:=hs.dok h (y:=0) (g.len 0 (.inl rfl))
  have d1:Dok s.d1:=hs.dok h (y:=1) (g.len 1 (.inr rfl))
  have hhold:=hold_ (W:=W) (n:=n + 1) (lo:=0) (sv:=.lst (R.map encL)) (ls:=R) hV d0 d1 rfl fun r hr=>by
    rcases (g.reasons r hr).1 with e | e <;> rw [e];exact hs.ok.hx;exact hs.ok.hz
  rw [show R.all (heldB s.d0 s.d1)=true from List.all_eq_true.mpr fun r hr=>decide_eq_true ((struck_same (h.wf r.x)).mpr (g.reasons r hr).2)] at hhold
  have hf:=fun pr hpr=>hs.pair (hp pr hpr)
  have hk2:=kept_ (W:=W) (n:=n + 1) (lo:=0) (μ:=μ) (sv:=.lst (R.map encL++[encL l])) (ls:=R++[l]) (x:=c.x) (congrArg some (List.map_append (l₁:=R) (l₂:=[l])).symm) hf
  rw [← keep_same g hp] at hk2
  have hset:setIdxV 0 μ (.obj L) (.int l.x) (lstD (struckD l (s.dom l.x)))=some (μ.set L (lotsO (s.put l (some R) (struckD l (s.dom l.x))))):=by
    have key:∀ y,isVarI y→∀ d,setIdxV 0 μ (.obj L) (.int y) (lstD d)=some (μ.set L (lotsO (s.setDom y d))):=fun y hy d=>by
      rcases hy with rfl | rfl <;> exact bS (o:=objOf (.obj L)) rfl (bS hL rfl)
    exact key l.x hx _
  exact ⟨_,forB_k rfl (k_two (e_tup (l_cons (e_call d__law_cut (hs.dok h (g.len _ hx)).cut (l_cons (e_idxF hi rfl rfl) rfl)) (l_one (e_bi d_list c_list bi_listL rfl))))
    (k_ite (e_or (o_cons (e_cmp rfl rfl (cm_ne eqI)) (if_f (by rw [decide_eq_true rfl];rfl) (o_cons (e_cmp (e_bi d_tuple c_tuple bi_tupD (l_one (e_idxF hi rfl rfl))) rfl (cm_ne eqD)) (if_f (by rw [decide_eq_true rfl];rfl) (o_cons (e_cmp rfl rfl (cm_eq eqLD0)) (if_f (decide_eq_false h1) (o_cons (e_cmp rfl (e_idxF hi rfl rfl) (cm_eq eqLD)) (if_f (decide_eq_false h2) (o_one (e_not (e_call d__law_hold hhold rfl)))))))))))) (k_fn rfl
    (k_ite (e_cmp (e_call d__law_kept (kept_ (ls:=R) rfl hf) rfl) (e_call d__law_kept hk2 (l_cons rfl (l_cons (e_bin rfl rfl (add_lst (vs:=[encL l]) rfl rfl rfl rfl (by rw [List.length_map];exact Nat.le_trans (Nat.succ_le_succ g.rlen) (by decide)))) rfl))) (cm_ne eqLD)) (k_fn (by rw [decide_eq_true rfl];rfl) (k_idx hset rfl rfl rfl rfl)))))),((((((Over.refl.upd rfl).upd rfl).upd rfl).upd rfl).upd rfl).upd rfl).upd rfl⟩
inductive RunTo (cb:Calls) (W L:Nat) (ρ:Rho) (μ:M) (ext:List Ent) (s₁:St):Prop
  | mk (ρ':Rho):(∀ rest,forM (runT cb W) (ext.map encE++rest) ρ μ=forM (runT cb W) rest ρ' (μ.set L (lotsO s₁)))→Over ρ ρ'→RunTo cb W L ρ μ ext s₁
inductive RunL (cb:Calls) (W L:Nat) (c:Ctx) (prs:Dom) (s s₁:St):Prop
  | mk (ext:List Ent):Trail s ext s₁→(∀ ρ μ,μ[L]?=some (lotsO s)→RnI c L prs ρ→RunTo cb W L ρ μ ext s₁)→RunL cb W L c prs s s₁
theorem run_loop (hs:Setting c) (h:SInv c s) (r:Runs c s s₁) (hp:∀ pr ∈ prs,isPair c pr):RunL (callF tab W (n + 4)) W L c prs s s₁:=by
  induction r with
  | refl=>exact ⟨[],.refl rfl ⟨rfl,rfl⟩,fun ρ μ hL _=>⟨ρ,fun rest=>by rw [set_self hL];rfl,.refl⟩⟩
  | @step s₁ l R r g e ih=>
    obtain ⟨ext,ht,hext⟩:=ih
    have hi:=r.inv hs.ok h
    rcases (enter_true hi (g.hx hs.ok) e).how with ⟨h4,_⟩ | ⟨h5,h4,h6,h7⟩
    · rw [h4];exact ⟨ext,ht,hext⟩
    · rw [h4]
      refine ⟨ext++[⟨l.x,s₁.dom l.x,l,some R⟩],ht.trans (.put (g.hx hs.ok)),fun ρ μ hL I=>?_⟩
      obtain ⟨ρ1,k1,k2⟩:=hext ρ μ hL I
      obtain ⟨ρ2,j1,j2⟩:=run_step (W:=W) (n:=n) hs hi g h6 h7 hp (get_set hL) (I.over k2)
      refine ⟨ρ2,fun rest=>?_,k2.trans j2⟩
      rw [List.map_append,List.append_assoc,k1]
      rw [List.set_set] at j1
      exact f_next j1 rfl
end
end Mine
namespace Mine
open PySem
section
variable {W n lo L:Nat} {μ:M} {im inw:Nat} {c:Ctx} {s s' s₁:St} {d e:Dom} {lv:V}
inductive PropOut (im inw:Nat) (c:Ctx) (μ:M) (s:St) (r:Option (V×M)):Prop
  | mk (b:Bool) (μ':M) (s₁ s':St):r=some (.bool b,μ')→StoreAt μ' im inw s'→Frm im inw μ μ'→Out c s b s₁ s'→(b=true→s'.tr.length≤s.tr.length + 102)→PropOut im inw c μ s r
theorem prop_out (hc:c.Ok) (hL:c.x≠c.z→LimL c) (hW:3000<W) (A:At im inw c μ s) (ht:s.tr.length<600000):PropOut im inw c μ s (callF tab W (n + 7) "ElementOf.propagate" false 0 [.obj 11,.obj 3] μ):=by
  by_cases hne:c.row=[]
  · have npl:∀ p,¬ c.pl p:=fun p hp=>by
      have h2:=Int.le_trans hp.1 hp.2
      rw [hne] at h2;cases h2
    have hb:callF tab W (n + 6) "between" false 0 [.obj 3,.int c.z,.tup (c.row.map .int)] μ=some (.bool false,μ.set 2 (.sdict (fieldsOf im inw true []))):=by
      rw [hne]
      exact call_imp f_between rfl rfl (run_ret (k_ite (e_cmp (e_bi d_len c_len (vs:=[.tup []]) rfl rfl) rfl (cm_eq eqI)) (k_t rfl (k_ret (e_def rfl (A.st.find m_Store_fail rfl) (fail_ A.st []) rfl)))))
    exact ⟨false,_,s,s.wF true [],call_imp f_ElementOf_propagate rfl rfl (run_ret (k_ite (e_not (e_call d_between hb (l_cons rfl (l_cons (e_attr A.ru.a_z rfl) (l_one (e_attr A.ru.a_numbers rfl)))))) (k_t rfl (k_ret rfl)))),A.st.set2 true [],Frm.refl.set fun _ f=>f.n2,.no [] rfl rfl .refl ⟨fun r hr=>(nomatch hr),fun pr hpr=>(npl _ hpr.pl).elim,fun K k p hp=>npl p (k.place p hp).pl,A.len⟩,fun h=>nomatch h⟩
  · obtain ⟨b,μ',s',e1,e2,e3,e4,e5⟩:=propagate_ (n:=n) hc hL hW A hne ht
    have P:b=true→Proped c s s':=fun hb=>e5 hb (by subst hb;exact e4.runs)
    obtain ⟨s₁,o⟩:=out_of hc A.inv e4 fun hb=>(P hb).fix
    exact ⟨b,μ',s₁,s',e1,e2,e3,o,fun hb=>(P hb).tr⟩
inductive DueB (c:Ctx) (b:Bool) (s₁:St) (d e:Dom):Prop
  | yes:b=true→DueIs c s₁ d e→DueB c b s₁ d e
  | no:b=false→d=[]→DueB c b s₁ d e
inductive DueOut (c:Ctx) (s:St) (μ:M) (r:Option (V×M)):Prop
  | mk (d e:Dom):r=some (.tup [lstD d,lstD e],μ)→(∀ b s₁ s',Out c s b s₁ s'→DueB c b s₁ d e)→DueOut c s μ r
theorem due_out (hc:c.Ok) (hi:SInv c s) (hr:RowAt μ c) (hL:LotsV μ lv s.d0 s.d1):DueOut c s μ (callF tab W (n + 2) "_law_due" false lo [.obj 9,lv,.int c.x,.int c.z] μ):=by
  by_cases hxz:c.x=c.z
  · obtain ⟨d,h1,h2,h3,_⟩:=due_eq (W:=W) (n:=n) (lo:=lo) hr hL hc hxz
    refine ⟨d,d,h1,fun b s₁ s' o=>?_⟩
    rcases o with ⟨hb,_,r,fx⟩ | ⟨_,hb,_,_,cl⟩
    · have e:=due_is_eq hc hi r fx hxz h2 h3
      exact .yes hb ⟨e,by rw [← hxz];exact e⟩
    · exact .no hb ((wf_empty h2).mpr fun u hu=>cl.core _ (cyc_core hc hxz) u ((h3 u).mp hu))
  · obtain ⟨d,e,h1,h2,h3,h4,h5,_⟩:=due_ne (W:=W) (n:=n) (lo:=lo) hr hL hc hxz
    refine ⟨d,e,h1,fun b s₁ s' o=>?_⟩
    rcases o with ⟨hb,_,r,fx⟩ | ⟨_,hb,_,_,cl⟩
    · exact .yes hb (due_is_ne hc hi r fx hxz h2 h3 h4 h5)
    · exact .no hb ((wf_empty h2).mpr fun u hu=>cl.core _ (sup_core hxz) u ((h4 u).mp hu))
theorem StoreAt.setL (h:StoreAt μ im inw s) (hL:13≤L) (h1:L≠im) (h2:L≠inw) {o:MObj}:StoreAt (μ.set L o) im inw s:=
  have k {i:Nat} (hi:i<13):L≠i:=Nat.ne_of_gt (Nat.lt_of_lt_of_le hi hL)
  ⟨get_to (k (by decide)) h.obj,get_to (k (by decide)) h.dct,get_to (k (by decide)) h.doms,get_to (k (by decide)) h.firsts,get_to (k (by decide)) h.tr,get_to h1 h.mks,get_to h2 h.nw,h.him,h.hin,h.ne⟩
theorem eqB {a b:Bool}:eqV μ (.bool a) (.bool b)=some (a == b):=rfl
theorem eqLots {a b d e:Dom}:eqV μ (.lst [lstD a,lstD b]) (.lst [lstD d,lstD e])=some (decide ([a,b]=[d,e])):=eqV_is (cLst cDL) (by decide) (a:=[a,b]) (b:=[d,e])
theorem eq_lots (h:μ[L]?=some (lotsO s)):eqV μ (.obj L) (.lst [lstD s.d0,lstD s.d1])=some true:=by
  have e:pdV μ eqDeep (.obj L)=pdV μ eqDeep (.lst [lstD s.d0,lstD s.d1]):=show (listV μ (.obj L)).bind _=_ by rw [listO h];rfl
  have h0:=eqLots (μ:=μ) (a:=s.d0) (b:=s.d1) (d:=s.d0) (e:=s.d1)
  rw [decide_eq_true rfl] at h0
  unfold eqV at h0 ⊢
  rw [e]
  exact h0
theorem in_doms {a:Dom}:inV μ (lstD a) (.tup [lstD d,lstD e])=some (decide (a ∈ [d,e])):=by
  show ((pdV μ eqDeep (lstD a)).bind fun x=>(pdV μ (eqDeep + 1) (.tup [lstD d,lstD e])).bind fun y=>(pdS y).map fun ys=>ys.any fun y=>PyData.eqv y x)=_
  exact (bS (cDL.ok μ eqDeep a (by decide)) (bS ((cTup cDL).ok μ (eqDeep + 1) [d,e] (by decide)) rfl)).trans (congrArg some (any_eqv cDL (l:=[d,e])))
theorem slice_from {a:V} {us vs:List V} (h:listV μ a=some (us++vs)):sliceV μ a (some (.int us.length)) none=some vs:=by
  have hc:cutOf 0 (us++vs).length (some (.int us.length))=some us.length:=by
    show (if 0≤(us.length:Int) then some (min us.length (us++vs).length) else none)=_
    rw [if_pos (Int.natCast_nonneg us.length),List.length_append,Nat.min_eq_left (Nat.le_add_right ..)]
  refine bS h (bS hc ?_)
  show some (((us++vs).take (us++vs).length).drop us.length)=_
  rw [List.take_length,List.drop_left]
theorem e_sliceFrom {cb:Calls} {ρ:Rho} {a b:C} {x y:V} {vs:List V} (h1:ev tab cb lo a ρ μ=some (x,μ)) (h2:ev tab cb lo b ρ μ=some (y,μ)) (h3:sliceV μ x (some y) none=some vs):ev tab cb lo (.slice false a (some b) none) ρ μ=some (.lst vs,μ):=bS h1 (bS (mS h2) (bS (o:=some _) rfl (mS h3)))
theorem fix_few (hc:c.Ok) (hi:SInv c s) (fx:Fix c s):Few c s 31:=by
  have hx:=Nat.le_trans (places_few hi fun i hm=>(fx.a i hm).1) hc.len
  refine ⟨Nat.le_trans hx (by decide),Nat.le_trans (nodup_sub (b:=(valsD (s.dom c.x)).map c.at) (vals_nodup (hi.wf c.z)) fun v hv=>?_) (by rw [List.length_map];exact Nat.le_trans hx (by decide))⟩
  obtain ⟨i,h1,rfl⟩:=fx.b v (vals_mem.mp hv)
  exact List.mem_map_of_mem (vals_mem.mpr h1)
theorem fix_row (hi:SInv c s) (fx:Fix c s):c.row≠[]:=fun e=>by
  have h:=(fx.a _ (low_is (hi.wf c.x) (hi.ne c.x)).1).1
  have h2:=Int.le_trans h.1 h.2
  rw [e] at h2;cases h2
theorem fix_len (hc:c.Ok) (hi:SInv c s) (r:Runs c s s₁) (fx:Fix c s₁) (hl:∀ y,isVarI y→(s.dom y).length≤31):∀ y,isVarI y→(s₁.dom y).length≤31:=fun y hy=>by
  have f:=fix_few hc (r.inv hc hi) fx
  have w:=(r.inv hc hi).wf
  by_cases h1:y=c.x
  · rw [h1];exact Nat.le_trans (len_vals (w _)) f.x
  · by_cases h2:y=c.z
    · rw [h2];exact Nat.le_trans (len_vals (w _)) f.z
    · rw [r.other hc hi hy h1 h2];exact hl y hy
end
end Mine
namespace Mine
open PySem
section
variable {W n lo:Nat} {μ:M} {im inw:Nat} {c:Ctx} {s:St} {prs:Dom}
noncomputable abbrev runR (c:Ctx) (prs:Dom):Rho:=params0 ["rule", "desk", "row", "x", "z", "pairs"] [.obj 11,.obj 3,.obj 9,.int c.x,.int c.z,lstD prs]
theorem e_iteI {cb:Calls} {ρ:Rho} {μ₁:M} {t a b:C} {q:Bool} {r:Option (V×M)} (h:ev tab cb lo t ρ μ=some (.bool q,μ₁)) (k:(bif q then ev tab cb lo a ρ μ₁ else ev tab cb lo b ρ μ₁)=r):ev tab cb lo (.ite t a b) ρ μ=r:=bS h k
inductive LawRun (im inw:Nat) (c:Ctx) (μ:M) (s:St) (r:Option (V×M)):Prop
  | mk (b:Bool) (μ':M) (s₁ s':St) (ext:List Ent):r=some (.bool b,μ')→StoreAt μ' im inw s'→FrmP im inw μ μ'→Out c s b s₁ s'→Trail s ext s₁→(b=true→s'.tr.length≤s.tr.length + 102)→LawRun im inw c μ s r
theorem law_run_ (hs:Setting c) (hL:c.x≠c.z→LimL c) (hW:3000<W) (A:At im inw c μ s) (hw:RowAt μ c) (ht:s.tr.length<500000) (h13:13≤μ.length) (hp:∀ pr ∈ prs,isPair c pr) :
    LawRun im inw c μ s (callF tab W (n + 8) "_law_run" false 0 [.obj 11,.obj 3,.obj 9,.int c.x,.int c.z,lstD prs] μ):=by
  have hc:=hs.ok
  have hlr:callF tab W (n + 7) "_law_lots" true 0 [.obj 3] μ=some (.obj μ.length,μ++[lotsO s]):=lots_raw A.st
  have hLA:(μ++[lotsO s])[μ.length]?=some (lotsO s):=get_last
  have AA:At im inw c (μ++[lotsO s]) s:=⟨A.st.app,A.ru.app,A.inv,A.len⟩
  obtain ⟨d,e,hdue,hde⟩:=due_out (W:=W) (n:=n + 5) (lo:=0) (μ:=μ++[lotsO s]) hc A.inv (get_app hw) (lots_V hLA)
  obtain ⟨b,μ2,s₁,s',hpr,h2,fr2,o,htr⟩:=prop_out (n:=n) hc hL hW AA (Nat.lt_trans ht (by decide))
  have hi1:=o.runs.inv hc A.inv
  have D:=hde b s₁ s' o
  obtain ⟨ext,tl,hloop⟩:=run_loop (W:=W) (n:=n + 3) (L:=μ.length) hs A.inv o.runs hp
  have hm:=get_lt A.st.mks
  have hn:=get_lt A.st.nw
  have k13 {i:Nat} (hi:i<13):i≠μ.length:=Nat.ne_of_lt (Nat.lt_of_lt_of_le hi h13)
  have fL:Far im inw μ.length:=⟨k13 (by decide),k13 (by decide),k13 (by decide),k13 (by decide),Nat.ne_of_lt hm,Nat.ne_of_lt hn⟩
  have hL2:=(fr2.at_ _ fL).trans hLA
  have st:s'.tr=s₁.tr∧lotsO s'=lotsO s₁∧s'.failed=!b:=by
    rcases o with ⟨hb,e,_,_⟩ | ⟨cl,hb,e,_,_⟩
    · rw [e,hb];exact ⟨rfl,rfl,hi1.nf⟩
    · rw [e,hb];exact ⟨rfl,rfl,rfl⟩
  obtain ⟨ρ',k1,k2⟩:=hloop (upd (upd (upd (upd (runR c prs) "lots" (.obj μ.length)) "mark" (.int (s.tr.map encE).length)) "due" (.tup [lstD d,lstD e])) "stands" (.bool b)) μ2 hL2 ⟨rfl,rfl,rfl⟩
  have k1:=k1 []
  rw [List.append_nil] at k1
  obtain ⟨σ,rfl⟩:=k2
  have h3:StoreAt (μ2.set μ.length (lotsO s₁)) im inw s':=h2.setL h13 (Nat.ne_of_gt hm) (Nat.ne_of_gt hn)
  have hr2:=AA.ru.frm AA.st fr2
  have hr3:RuleAt (μ2.set μ.length (lotsO s₁)) c:=⟨get_to (k13 (by decide)).symm hr2.obj,get_to (k13 (by decide)).symm hr2.dct⟩
  have hL3:(μ2.set μ.length (lotsO s₁))[μ.length]?=some (lotsO s₁):=get_set hL2
  have frP:∀ {μ'},Frm im inw (μ2.set μ.length (lotsO s₁)) μ'→FrmP im inw μ μ':=fun f=>⟨by rw [f.len,List.length_set,fr2.len,List.length_append];exact Nat.le_add_right ..,fun i hi q=>(f.at_ i q).trans ((get_setN (Nat.ne_of_gt hi)).trans ((fr2.at_ i q).trans (List.getElem?_append_left hi)))⟩
  have hfor:ev tab (callF tab W (n + 7)) 0 (.slice false (.attr (.var "desk") "trail") (some (.var "mark")) none) (upd (upd (upd (upd (runR c prs) "lots" (.obj μ.length)) "mark" (.int (s.tr.map encE).length)) "due" (.tup [lstD d,lstD e])) "stands" (.bool b)) μ2=some (.lst (ext.map encE),μ2):=
    e_sliceFrom (e_attr h2.a_trail rfl) rfl (slice_from ((listO h2.tr).trans (by rw [st.1,tl.tr,List.map_append])))
  have hlots:eqV (μ2.set μ.length (lotsO s₁)) (.obj μ.length) (.lst [lstD s'.d0,lstD s'.d1])=some true:=eq_lots (hL3.trans (congrArg some st.2.1.symm))
  generalize μ2.set μ.length (lotsO s₁)=μ3 at k1 h3 hr3 hL3 frP hlots
  generalize hρ:over σ (upd (upd (upd (upd (runR c prs) "lots" (.obj μ.length)) "mark" (.int (s.tr.map encE).length)) "due" (.tup [lstD d,lstD e])) "stands" (.bool b))=ρ at k1
  have key:∀ {v ρ₁ μ'},runK (callF tab W (n + 7)) 0 W "_law_run" [b__law_run.drop 4] ρ μ3=some (.ret v,ρ₁,μ')→decide ([] ∈ [d,e])=!b→callF tab W (n + 8) "_law_run" false 0 [.obj 11,.obj 3,.obj 9,.int c.x,.int c.z,lstD prs] μ=some (v,μ'):=fun {v ρ₁ μ'} k hb=>
    call_imp f__law_run rfl rfl (run_ret (ρ₁:=ρ₁) (k_two (e_tup (l_consI (e_call d__law_lots hlr rfl) (l_one (e_bi d_len c_len (bi_lenO AA.st.tr) (l_one (e_attr AA.st.a_trail rfl))))))
      (k_two (e_tup (l_cons (e_call d__law_due hdue rfl) (l_one (e_def rfl (AA.ru.find m_ElementOf_propagate rfl) hpr rfl))))
      (k_for hfor rfl k1 (k_ite (q:=false) (by
        subst hρ
        refine e_or (o_cons (e_cmp rfl (e_call d__law_lots (lots_ (n:=n + 5) h3) rfl) (cm_ne hlots)) (if_f rfl (o_cons (e_cmp rfl (e_attr h3.a_failed rfl) (cm_eq eqB)) (if_f ?_ (o_one (e_cmp rfl (e_cmp rfl rfl (cm_notIn (in_doms (a:=[])))) (cm_ne (eqB.trans (congrArg some (show _=true from ?_)))))))))) 
        · rw [st.2.2];cases b <;> rfl
        · rw [hb];cases b <;> rfl) k)))))
  have hx:=lots_V hL3 c.x hc.hx
  have hz:=lots_V hL3 c.z hc.hz
  rcases o with ⟨hb,e1,r,fx⟩ | ⟨cl,hb,e1,r,C⟩
  · subst hb e1
    rcases D with ⟨_,D⟩ | ⟨h,_⟩
    case no=>cases h
    have A3:At im inw c μ3 s':=⟨h3,hr3,hi1,fix_len hc A.inv r fx A.len⟩
    have htr':=htr rfl
    obtain ⟨b2,μ4,s'',p1,p2,p3,p4,_⟩:=propagate_ (n:=n) hc hL hW A3 (fix_row hi1 fx) (by lia)
    obtain ⟨rfl,rfl⟩:=fx.again hc hi1 p4
    refine ⟨true,μ4,s'',s'',ext,key (v:=.bool true) (ρ₁:=upd ρ "mark" (.int (s''.tr.map encE).length)) ?_ (decide_eq_false fun h=>?_),p2,frP p3,.yes rfl rfl r fx,tl,htr⟩
    · rw [D.x,D.z] at hρ
      subst hρ
      exact k_ite (q:=false) (e_not (q:=true) rfl) (k_fn rfl (k_one (e_bi d_len c_len (bi_lenO h3.tr) (l_one (e_attr h3.a_trail rfl))) (k_ret (e_iteI (q:=true) (e_and (a_cons (e_cmp (e_tup (l_cons (e_idxF hx rfl rfl) (l_one (e_idxF hz rfl rfl)))) rfl (cm_eq ((eqV_is (cTup cDL) (by decide) (a:=[s''.dom c.x,s''.dom c.z]) (b:=[s''.dom c.x,s''.dom c.z])).trans (congrArg some (decide_eq_true rfl))))) (if_t rfl (a_cons (e_def rfl (hr3.find m_ElementOf_propagate rfl) p1 rfl) (if_t rfl (a_one (e_cmp (e_bi d_len c_len (bi_lenO p2.tr) (l_one (e_attr p2.a_trail rfl))) rfl (cm_eq (eqI.trans (congrArg some (decide_eq_true rfl))))))))))) rfl))))
    · rcases List.mem_cons.mp h with h | h
      · exact hi1.ne c.x (D.x.symm.trans h.symm)
      · exact hi1.ne c.z (D.z.symm.trans (List.mem_singleton.mp h).symm)
  · subst hb e1
    rcases D with ⟨h,_⟩ | ⟨_,D⟩
    case yes=>cases h
    have d0:Dok s₁.d0:=hs.dok hi1 (y:=0) (C.len 0 (.inl rfl))
    have d1:Dok s₁.d1:=hs.dok hi1 (y:=1) (C.len 1 (.inr rfl))
    have hhold:=hold_ (W:=W) (n:=n + 4) (lo:=0) (sv:=.tup (cl.map encL)) (ls:=cl) (lots_V hL3) d0 d1 rfl fun r hr=>(C.reasons r hr).1
    rw [show cl.all (heldB s₁.d0 s₁.d1)=true from List.all_eq_true.mpr fun r hr=>decide_eq_true ((struck_same (hi1.wf r.x)).mpr (C.reasons r hr).2)] at hhold
    have hk:=kept_ (W:=W) (n:=n + 4) (lo:=0) (μ:=μ3) (sv:=.tup (cl.map encL)) (ls:=cl) (prs:=prs) (x:=c.x) rfl fun pr hpr=>hs.pair (hp pr hpr)
    rw [show prs.filter (keepB c.x cl)=[] from List.filter_eq_nil_iff.mpr fun pr hpr hkb=>by
      obtain ⟨r,hr,hn⟩:=C.pairs pr (hp pr hpr)
      exact hn (keepB_iff.mp hkb r hr)] at hk
    refine ⟨false,μ3,s₁,_,ext,key (v:=.bool false) (ρ₁:=ρ) ?_ (decide_eq_true (by rw [D];exact .head _)),h3,frP .refl,.no cl rfl rfl r C,tl,fun h=>nomatch h⟩
    subst hρ
    exact k_ite (q:=true) (e_not (q:=false) rfl) (k_t rfl (k_ret (e_ite (e_and (a_cons (e_call d__law_hold hhold (l_cons rfl (l_one (e_attr h3.a_clash rfl)))) (if_t rfl (a_one (e_cmp (e_call d__law_kept hk (l_cons rfl (l_cons (e_attr h3.a_clash rfl) rfl))) rfl (cm_eq eqLD0)))))) rfl)))
end
end Mine
namespace Mine
open PySem
section
variable {W n lo:Nat} {μ:M} {cs:List Int} {cV:V} {a b many:Int} {d:Dom}
noncomputable def rigO (cV:V) (a:Int):MObj:=.sdict [("cells", cV),("at", .int a)]
inductive Cells (μ:M) (cs:List Int) (cV:V):Prop
  | fast:cV=.lst (cs.map .int)→Cells μ cs cV
  | slow:cV=.obj 0→μ[0]?=some (.list (cs.map .int))→Cells μ cs cV
theorem Cells.to {μ':M} (h:Cells μ cs cV) (e:μ[0]?=some (.list (cs.map .int))→μ'[0]?=some (.list (cs.map .int))):Cells μ' cs cV:=by
  rcases h with h | ⟨h,h'⟩
  · exact .fast h
  · exact .slow h (e h')
theorem Cells.list (h:Cells μ cs cV):listV μ cV=some (cs.map .int):=by
  rcases h with rfl | ⟨rfl,h⟩
  · rfl
  · exact listO h
theorem Cells.seq (h:Cells μ cs cV):seqV μ cV=some (cs.map .int):=by
  rcases h with rfl | ⟨rfl,h⟩
  · rfl
  · exact listO h
structure RigAt (μ:M) (cV:V) (cs:List Int) (a:Int):Prop where
  at_:μ[1]?=some (rigO cV a)
  cells:Cells μ cs cV
  lo:0≤a
theorem RigAt.set (h:RigAt μ cV cs a) (hb:0≤b):RigAt (μ.set 1 (rigO cV b)) cV cs b:=⟨get_set h.at_,h.cells.to (get_to (by decide)),hb⟩
theorem RigAt.next (h:RigAt μ cV cs a):RigAt (μ.set 1 (rigO cV (a + 1))) cV cs (a + 1):=h.set (Int.le_add_one h.lo)
theorem RigAt.get {k:Str} {v:V} (h:RigAt μ cV cs a) (e:lookE k [("cells", cV),("at", V.int a)]=some v):idxV μ (.obj 1) (.str k)=some v:=by
  show ((μ[1]?).bind fun m=>(dic? m).bind (lookE k))=some v
  exact bS h.at_ e
theorem RigAt.put (h:RigAt μ cV cs a):setIdxV 0 μ (.obj 1) (.str "at") (.int b)=some (μ.set 1 (rigO cV b)):=
  bS (o:=objOf (.obj 1)) rfl ((if_neg (Nat.not_lt_zero _)).trans (bS h.at_ (mS (by
    show (if ([Str.ofString "cells", Str.ofString "at"]:List Str).Nodup∧2<100 then some (MObj.sdict (putE (Str.ofString "at") (.int b) [("cells", cV),("at", .int a)])) else none)=_
    exact if_pos (by decide)))))
theorem idx0L {v:V} {vs:List V}:idxV μ (.lst (v::vs)) (.int 0)=some v:=bS (place0 (n:=vs.length)) rfl
inductive Draw (μ:M) (cV:V) (a many:Int) (r:Option (V×M)):Prop
  | mk (v:Int):0≤v→v<many→r=some (.int v,μ.set 1 (rigO cV (a + 1)))→Draw μ cV a many r
theorem modV {i:Int} (hm:0<many):binV μ .Mod (.int i) (.int many)=some (.int (i % many)):=if_pos hm
theorem mulI {i j:Int} (h:-(2 ^ 62)≤i∧i≤2 ^ 62):binV μ .Mult (.int i) (.int j)=some (.int (i * j)):=if_pos h
theorem draw_ (h:RigAt μ cV cs a) (ha:a≤1000000) (hm:0<many):Draw μ cV a many (callF tab W (n + 1) "_law_draw" false 0 [.obj 1,.int many] μ):=by
  have h1:=h.next
  have hl:biV (μ.set 1 (rigO cV (a + 1))) "len" [cV]=some (.int cs.length):=show (seqV _ cV).map _=_ from (mS h1.cells.seq).trans (by rw [List.length_map])
  have key:∀ {v ρ μ'},runK (callF tab W n) 0 W "_law_draw" [bif decide (a<cs.length) then [.ret (.bin .Mod (.idx (.idx (.var "rig") (.const (.str "cells"))) (.var "at")) (.var "many"))] else [],b__law_draw.drop 3] (upd (params0 ["rig", "many"] [.obj 1,.int many]) "at" (.int a)) (μ.set 1 (rigO cV (a + 1)))=some (.ret v,ρ,μ')→callF tab W (n + 1) "_law_draw" false 0 [.obj 1,.int many] μ=some (v,μ'):=fun k=>
    call_imp f__law_draw rfl rfl (run_ret (k_one (e_idxF (h.get rfl) rfl rfl) (k_idx (v:=.int (a + 1)) h.put rfl rfl rfl (k_ite (e_cmp rfl (e_bi d_len c_len hl (l_one (e_idxF (h1.get rfl) rfl rfl))) rfl) k))))
  have fin:∀ i:Int,Draw μ cV a many (some (.int (i % many),μ.set 1 (rigO cV (a + 1)))):=fun i=>⟨_,Int.emod_nonneg _ (Int.ne_of_gt hm),Int.emod_lt_of_pos _ hm,rfl⟩
  by_cases hlt:a<cs.length
  · have hn:=Int.toNat_of_nonneg h.lo
    have hv:idxV (μ.set 1 (rigO cV (a + 1))) cV (.int a)=some (.int (cs.getD a.toNat 0)):=bS h1.cells.seq (bS (t:=a.toNat) (if_pos ⟨h.lo,by rw [List.length_map];exact hlt⟩) (by rw [List.getElem?_map,getD_at (a:=0) (by lia)];rfl))
    rw [decide_eq_true hlt] at key
    rw [key (k_ret (e_bin (e_idxF hv (e_idxF (h1.get rfl) rfl rfl) rfl) rfl (modV hm)))]
    exact fin _
  · rw [decide_eq_false hlt] at key
    have hlo:=h.lo
    rw [key (k_nil (k_ret (e_bin (e_bin (e_bin (e_bin (e_bin (e_bin (e_bin rfl rfl (mulI (by decide))) rfl (mulI (by lia))) (e_bin rfl rfl (mulI (by decide))) rfl) (e_bin rfl (e_bi d_len c_len hl (l_one (e_idxF (h1.get rfl) rfl rfl))) (mulI (by decide))) rfl) rfl rfl) rfl (modV (by decide))) rfl (modV hm))))]
    exact fin _
theorem e_cmpI {cb:Calls} {ρ:Rho} {μ₁:M} {x y:C} {u v:V} {op:CmpOp} {q:Bool} (h1:ev tab cb lo x ρ μ=some (u,μ₁)) (h2:ev tab cb lo y ρ μ₁=some (v,μ₁)) (h3:cmpV μ₁ op u v=some q):ev tab cb lo (.cmp op x y) ρ μ=some (.bool q,μ₁):=bS h1 (bS h2 (mS h3))
inductive Lot (μ:M) (cV:V) (a:Int) (spots:List Int) (r:Option (List V×M)):Prop
  | mk (xs:List Int):(∀ v ∈ xs,v ∈ spots)→xs.length≤spots.length→r=some ((ptsD xs).map encP,μ.set 1 (rigO cV (a + spots.length)))→Lot μ cV a spots r
theorem lot_some {ρ:Rho} (q:ρ "rig" = some (.obj 1)):∀ (spots:List Int) (a:Int) (μ:M),RigAt μ cV cs a→a + spots.length≤1000000→
    Lot μ cV a spots (flatM (fun x μ'=>(bindT (hideR [".0", "v"] ρ) x (.one "v")).bind fun ρ'=>(evAnd tab (callF tab W (n + 1)) 0 [(.cmp .Lt (.call "_law_draw" false [(.var "rig"),(.const (.int 4))]) (.const (.int 3)))] ρ' μ').bind fun c=>bif c.1 then (ev tab (callF tab W (n + 1)) 0 (.tup [(.var "v"),(.var "v")]) ρ' c.2).map fun p=>([p.1],p.2) else some ([],c.2)) (spots.map .int) μ):=by
  intro spots
  induction spots with
  | nil=>exact fun a μ h _=>⟨[],fun _ h=>(nomatch h),Nat.le_refl _,congrArg (fun μ=>some ([],μ)) (by rw [List.length_nil,Int.natCast_zero,Int.add_zero,set_self h.at_])⟩
  | cons v spots ih=>
    intro a μ h ha
    have e:a + 1 + (spots.length:Int)=a + ((v::spots).length:Int):=by rw [List.length_cons];lia
    rw [← e] at ha
    obtain ⟨r,r1,r2,r3⟩:=draw_ (W:=W) (n:=n) h (by lia) (many:=4) (by decide)
    obtain ⟨xs,x1,x2,x3⟩:=ih (a + 1) _ h.next ha
    rw [List.set_set,e] at x3
    have ht:evAnd tab (callF tab W (n + 1)) 0 [(.cmp .Lt (.call "_law_draw" false [(.var "rig"),(.const (.int 4))]) (.const (.int 3)))] (upd (hideR [".0", "v"] ρ) "v" (.int v)) μ=some (decide (r<3),μ.set 1 (rigO cV (a + 1))):=a_one (e_cmpI (e_call d__law_draw r3 (l_cons (e_var q) rfl)) rfl rfl)
    cases hd:decide (r<3) with
    | true=>rw [hd] at ht;exact ⟨v::xs,fun u hu=>(List.mem_cons.mp hu).elim (fun e=>e ▸ .head _) fun hu=>.tail _ (x1 u hu),Nat.succ_le_succ x2,bS (bS rfl (bS ht rfl)) (mS x3)⟩
    | false=>rw [hd] at ht;exact ⟨xs,fun u hu=>.tail _ (x1 u hu),Nat.le_succ_of_le x2,bS (bS rfl (bS ht rfl)) (mS x3)⟩
theorem add_opt {q:Bool} {p:Int×Int} (h:d.length≤1000):binV μ .Add (lstD d) (bif q then .lst [encP p] else .lst [])=some (lstD (d++bif q then [p] else [])):=by
  have hz:∀ k,k≤1→(d.map encP).length + k≤sizeLim:=fun k hk=>by rw [List.length_map];exact Nat.le_trans (Nat.add_le_add h hk) (by decide)
  cases q with
  | true=>exact (add_lst rfl rfl rfl (vs:=[encP p]) rfl (hz 1 (Nat.le_refl _))).trans (congrArg (fun l=>some (V.lst l)) (List.map_append (l₁:=d) (l₂:=[p])).symm)
  | false=>exact (add_lst rfl rfl rfl (vs:=[]) rfl (hz 0 (Nat.zero_le _))).trans (congrArg (fun l=>some (V.lst l)) (List.map_append (l₁:=d) (l₂:=[])).symm)
structure LotOk (spots:List Int) (low high:Int×Int) (d:Dom):Prop where
  wf:Wf d
  ne:d≠[]
  mem:∀ v,mem v d→v ∈ spots∨(low.1≤v∧v≤low.2)∨(high.1≤v∧v≤high.2)
  len:d.length≤spots.length + 2
inductive LotD (μ:M) (cV:V) (a:Int) (spots:List Int) (low high:Int×Int) (r:Option (V×M)):Prop
  | mk (d:Dom):r=some (lstD d,μ.set 1 (rigO cV (a + spots.length + 1)))→LotOk spots low high d→LotD μ cV a spots low high r
theorem opt_mem {q:Bool} {p:Int×Int} {v:Int} (h:Mine.mem v (bif q then [p] else [])):p.1≤v∧v≤p.2:=by
  cases q with
  | true=>exact mem_one.mp h
  | false=>exact absurd h mem_nil
theorem lot_ (h:RigAt μ cV cs a) {spots:List Int} {low high:Int×Int} (hne:spots≠[]) (hl:spots.length≤20) (ha:a≤900000) (hlow:low.1≤low.2) (hhigh:high.1≤high.2) :
    LotD μ cV a spots low high (callF tab W (n + 2) "_law_lot" false 0 [.obj 1,.lst (spots.map .int),encP low,encP high] μ):=by
  obtain ⟨xs,x1,x2,x3⟩:=lot_some (W:=W) (n:=n) (ρ:=params0 ["rig", "spots", "low", "high"] [.obj 1,.lst (spots.map .int),encP low,encP high]) rfl spots a μ h (by lia)
  obtain ⟨way,w1,w2,w3⟩:=draw_ (W:=W) (n:=n) (h.set (b:=a + spots.length) (by have:=h.lo;lia)) (by lia) (many:=4) (by decide)
  rw [List.set_set] at w3
  generalize μ.set 1 (rigO cV (a + spots.length))=M0 at x3 w3
  have hgoal:∀ {r d},r=some (lstD d,μ.set 1 (rigO cV (a + spots.length + 1)))→LotOk spots low high d→LotD μ cV a spots low high r:=fun h k=>⟨_,h,k⟩
  generalize μ.set 1 (rigO cV (a + spots.length + 1))=M1 at w3 hgoal
  cases spots with
  | nil=>exact absurd rfl hne
  | cons sp spr=>
    have ⟨ys,y0,y1,y2,y3⟩:∃ ys:List Int,(bif !decide (ptsD xs=[]) then lstD (ptsD xs) else lstD [(sp,sp)])=lstD (ptsD ys)∧(∀ v ∈ ys,v ∈ sp::spr)∧ys.length≤(sp::spr).length∧∃ v,v ∈ ys:=by
      cases xs with
      | nil=>exact ⟨[sp],rfl,fun v hv=>by rw [List.mem_singleton.mp hv];exact .head _,Nat.succ_le_succ (Nat.zero_le _),sp,.head _⟩
      | cons x xs=>exact ⟨x::xs,rfl,x1,x2,x,.head _⟩
    have hy:(ptsD ys).length≤20:=by rw [ptsD,List.length_map];exact Nat.le_trans y2 hl
    have b1:∀ {q:Bool} {p:Int×Int},(bif q then [p] else []:Dom).length≤1:=fun {q p}=>by cases q;exact Nat.zero_le _;exact Nat.le_refl _
    have ho:∀ {q:Bool} {p r:Int×Int},p.1≤p.2→r ∈ (bif q then [p] else []:Dom)→r.1≤r.2:=fun {q p r} hp hr=>by
      cases q with
      | true=>rw [List.mem_singleton.mp hr];exact hp
      | false=>cases hr
    have hlen:(ptsD ys++(bif decide (way % 2=1) then [low] else [])++(bif decide (1<way) then [high] else [])).length≤(sp::spr).length + 2:=by
      rw [List.length_append,List.length_append,ptsD,List.length_map]
      show _≤(sp::spr).length + 1 + 1
      exact Nat.add_le_add (Nat.add_le_add y2 b1) b1
    obtain ⟨d,m1,m2⟩:=merged_ (W:=W) (n:=n) (lo:=0) (μ:=M1) (v:=lstD (ptsD ys++(bif decide (way % 2=1) then [low] else [])++(bif decide (1<way) then [high] else []))) rfl rfl (fun p hp=>(List.mem_append.mp hp).elim (fun hp=>(List.mem_append.mp hp).elim (fun hp=>by obtain ⟨k,_,rfl⟩:=List.mem_map.mp hp;exact Int.le_refl _) (ho hlow)) (ho hhigh)) (Nat.lt_of_le_of_lt hlen (by lia))
    have hm:=fun v=>(m2.mem v).trans ((or_iff_right mem_nil).trans (mem_app.trans (or_congr_left (mem_app.trans (or_congr_left mem_pts)))))
    refine hgoal (call_imp f__law_lot rfl rfl (run_ret (k_one (v:=lstD (ptsD xs)) (bS rfl (bS rfl (mS x3))) (k_one (e_call d__law_draw w3 rfl) (k_one (v:=lstD (ptsD ys)) ((e_iteV (e_cmp rfl rfl (cm_ne eqLD0)) rfl (e_list (l_one (e_tup (l_cons (e_idxF idx0L rfl rfl) (l_one (e_idxF idx0L rfl rfl))))))).trans (congrArg (fun v=>some (v,M1)) y0)) (k_ret (e_call d__law_merged m1 (l_one (e_binF (add_opt ?_) (e_binF (add_opt (Nat.le_trans hy (by decide))) rfl (e_iteV (e_cmp (e_bin rfl rfl (modV (by decide))) rfl (cm_eq eqI)) rfl rfl)) (e_iteV (e_cmp rfl rfl rfl) rfl rfl)))))))))) ⟨m2.wf,fun e=>?_,fun v hv=>?_,Nat.le_trans m2.len (by rw [List.length_nil,Nat.zero_add];exact hlen)⟩
    · rw [List.length_append];exact Nat.le_trans (Nat.add_le_add hy b1) (by decide)
    · obtain ⟨v,hv⟩:=y3
      have:=(hm v).mpr (.inl (.inl hv))
      rw [e] at this
      exact mem_nil this
    · rcases (hm v).mp hv with (h1 | h1) | h1
      · exact .inl (y1 v h1)
      · exact .inr (.inl (opt_mem h1))
      · exact .inr (.inr (opt_mem h1))
end
end Mine
namespace Mine
open PySem
section
variable {W n lo:Nat} {μ μ₁ μ₂:M} {cs:List Int} {cV:V} {many x z:Int} {ρ:Rho} {cb:Calls} {a b:C} {p q:Bool}
noncomputable def big:Int:=10 ^ 20
theorem pow_big:binV μ .Pow (.int 10) (.int 20)=some (.int big):=by kernel_rfl
noncomputable def mem9 (b0:MObj) (cV:V) (a:Int) (rw:List V):M:=[b0,rigO cV a,.sdict (fieldsOf 7 8 false []),.inst "Store" 2,.list [],.list [],.list [],.list [],.idict [],.list rw]
theorem store_init {b0 r1:MObj}:callF tab W (n + 1) "Store.__init__" false 0 [.obj 3] [b0,r1,.sdict [],.inst "Store" 2]=some (.none,[b0,r1,.sdict (fieldsOf 7 8 false []),.inst "Store" 2,.list [],.list [],.list [],.list [],.idict []]):=by kernel_rfl
structure Env1 (ρ:Rho) (many x z:Int):Prop where
  rig:ρ "rig" = some (.obj 1)
  desk:ρ "desk" = some (.obj 3)
  many:ρ "many" = some (.int many)
  base:ρ "base" = some (.int big)
  x:ρ "x" = some (.int x)
  z:ρ "z" = some (.int z)
  row:ρ "row" = some (.obj 9)
theorem Env1.eq (h:Env1 ρ many x z):ρ=upd (upd (upd (upd (upd (upd (upd ρ "rig" (.obj 1)) "desk" (.obj 3)) "many" (.int many)) "base" (.int big)) "x" (.int x)) "z" (.int z)) "row" (.obj 9):=by
  rw [← upd_self h.rig,← upd_self h.desk,← upd_self h.many,← upd_self h.base,← upd_self h.x,← upd_self h.z,← upd_self h.row]
inductive XZ:Int→Int→Prop
  | a:XZ 0 1
  | b:XZ 1 0
  | c:XZ 0 0
theorem e_cls {f c m:Str} {raw:Bool} {es:List C} {vs:List V} (hd:tab.defs f=none) (hc:tab.classes f=some c) (hm:tab.meths c "__init__" = some m) (h2:cb m false lo (.obj (μ₁.length + 1)::vs) (μ₁++[.sdict [],.inst c μ₁.length])=some (.none,μ₂)) (h1:evs tab cb lo es ρ μ=some (vs,μ₁)):ev tab cb lo (.call f raw es) ρ μ=some (.obj (μ₁.length + 1),μ₂):=bS h1 (by
  unfold callV
  rw [hd,hc]
  exact bS hm (bS h2 rfl))
theorem e_and2 (h1:ev tab cb lo a ρ μ=some (.bool p,μ)) (h2:ev tab cb lo b ρ μ=some (.bool q,μ)):ev tab cb lo (.and [a,b]) ρ μ=some (.bool (p && q),μ):=e_and (a_cons h1 (by
  cases p with
  | true=>exact a_one h2
  | false=>rfl))
theorem e_or2 (h1:ev tab cb lo a ρ μ=some (.bool p,μ)) (h2:ev tab cb lo b ρ μ=some (.bool q,μ)):ev tab cb lo (.or [a,b]) ρ μ=some (.bool (p || q),μ):=e_or (o_cons h1 (by
  cases p with
  | true=>rfl
  | false=>exact o_one h2))
theorem e_iteF {α:Type} {f:α→V} {t:C} {u v:α} (h:ev tab cb lo t ρ μ=some (.bool q,μ)) (ha:ev tab cb lo a ρ μ=some (f u,μ)) (hb:ev tab cb lo b ρ μ=some (f v,μ)):ev tab cb lo (.ite t a b) ρ μ=some (f (bif q then u else v),μ):=bS h (by
  cases q with
  | true=>exact ha
  | false=>exact hb)
theorem turn_pick {t:Int} (h0:0≤t) (h3:t<3):∃ x z,XZ x z∧∀ μ,idxV μ (.tup [.tup [.int 0,.int 1],.tup [.int 1,.int 0],.tup [.int 0,.int 0]]) (.int t)=some (.tup [.int x,.int z]):=by
  have:t=0∨t=1∨t=2:=by lia
  rcases this with rfl | rfl | rfl
  · exact ⟨0,1,.a,fun _=>rfl⟩
  · exact ⟨1,0,.b,fun _=>rfl⟩
  · exact ⟨0,0,.c,fun _=>rfl⟩
noncomputable abbrev b00:MObj:=.list (([2,0,0,0,0,0,0,0,0,0,0,0,0,0]:List Int).map .int)
noncomputable abbrev rho0 (ns:List Int):Rho:=upd (params0 ["script"] [.lst (ns.map .int)]) "built" (.obj 0)
inductive CellsOf (cb:Calls) (ns:List Int):Prop
  | mk (cV:V) (cs:List Int):Cells [b00] cs cV→ev tab cb 0 (.ite (.cmp .Gt (.call "len" false [(.var "script")]) (.const (.int 0))) (.call "list" false [(.slice false (.var "script") none (some (.const (.int 60))))]) (.var "built")) (rho0 ns) [b00]=some (cV,[b00])→CellsOf cb ns
theorem cells_of {ns:List Int}:CellsOf cb ns:=by
  cases ns with
  | nil=>exact ⟨.obj 0,_,.slow rfl rfl,by kernel_rfl⟩
  | cons k ns=>exact ⟨_,(k::ns).take (min 60 ((k::ns).map V.int).length),.fast rfl,e_ite (q:=true) (e_cmp (e_bi d_len c_len (vs:=[.lst ((k::ns).map .int)]) rfl rfl) rfl (congrArg some (decide_eq_true (Int.ofNat_lt.mpr (Nat.succ_pos _))))) (e_bi d_list c_list (vs:=[.lst (((k::ns).map V.int).take (min 60 ((k::ns).map V.int).length))]) (congrArg (fun l=>some (V.lst l)) List.map_take.symm) (l_one (bS rfl (bS rfl (bS rfl rfl)))))⟩
inductive Phase1 (W n:Nat) (ns:List Int):Prop
  | mk (ρ:Rho) (b0:MObj) (cV:V) (cs:List Int) (many x z:Int):(∀ {r},runK (callF tab W (n + 8)) 0 W "law" [b_law.drop 5] ρ (mem9 b0 cV 2 [])=r→runK (callF tab W (n + 8)) 0 W "law" [b_law] (params0 ["script"] [.lst (ns.map .int)]) []=r)→Env1 ρ many x z→RigAt (mem9 b0 cV 2 []) cV cs 2→0≤many→many≤5→XZ x z→Phase1 W n ns
set_option maxHeartbeats 2000000 in
theorem phase1 {ns:List Int}:Phase1 W n ns:=by
  obtain ⟨cV,cs,hcs,hcv⟩:=cells_of (cb:=callF tab W (n + 8)) (ns:=ns)
  have hR0:RigAt [b00,rigO cV 0,.sdict (fieldsOf 7 8 false []),.inst "Store" 2,.list [],.list [],.list [],.list [],.idict []] cV cs 0:=⟨rfl,hcs.to fun h=>h,Int.le_refl _⟩
  obtain ⟨many,m1,m2,m3⟩:=draw_ (W:=W) (n:=n + 7) hR0 (by decide) (many:=6) (by decide)
  obtain ⟨turn,t1,t2,t3⟩:=draw_ (W:=W) (n:=n + 7) hR0.next (by decide) (many:=3) (by decide)
  obtain ⟨x,z,hxz,hidx⟩:=turn_pick t1 t2
  exact ⟨_,b00,cV,cs,many,x,z,fun {r} k=>k_one (e_listN rfl) (k_two (e_tup (l_consI (mS (l_cons hcv rfl)) (l_one (e_cls d_Store c_Store m_Store__init_ store_init rfl)))) (k_three (e_tup (l_consI (e_call d__law_draw m3 rfl) (l_consI (e_call d__law_draw t3 rfl) (l_one (e_bin rfl rfl pow_big))))) (k_two (e_idxF (hidx _) rfl rfl) (k_one (e_listN rfl) k)))),⟨rfl,rfl,rfl,rfl,rfl,rfl,rfl⟩,⟨rfl,hcs.to fun h=>h,by decide⟩,m1,Int.le_of_lt_add_one m2,hxz⟩
end
end Mine
namespace Mine
open PySem
section
variable {W n lo:Nat} {μ:M} {cs:List Int} {cV:V} {a many x z v:Int} {b0:MObj} {ρ:Rho} {p q:Bool}
theorem rig9 {rw rw':List V} {a':Int} (h:RigAt (mem9 b0 cV a rw) cV cs a) (ha:0≤a'):RigAt (mem9 b0 cV a' rw') cV cs a':=⟨rfl,h.cells.to fun e=>e,ha⟩
noncomputable def RowV (w:Int):Prop:=(0≤w∧w≤5)∨(big≤w∧w≤big + 4)
theorem row_val (hm:0<many) (hm5:many≤5) (h0:0≤v) (h5:v<5):∃ w,(bif p then V.int (1 + v % many) else bif q then V.int v else V.int (big + v))=.int w∧RowV w:=by
  cases p with
  | true=>
    have h1:=Int.emod_nonneg v (Int.ne_of_gt hm)
    have h2:=Int.emod_lt_of_pos v hm
    exact ⟨_,rfl,.inl (by lia)⟩
  | false=>
    cases q with
    | true=>exact ⟨_,rfl,.inl (by lia)⟩
    | false=>exact ⟨_,rfl,.inr (by lia)⟩
inductive RowEnd (cV:V) (b0:MObj) (many x z:Int) (k:Nat) (a:Int) (r:Res):Prop
  | mk (ρ':Rho) (ws:List Int) (a':Int):r=some (.next,ρ',mem9 b0 cV a' (ws.map .int))→Env1 ρ' many x z→(∀ w ∈ ws,RowV w)→ws.length=k→0≤a'→a'≤a→RowEnd cV b0 many x z k a r
theorem row_loop (hm:0<many) (hm5:many≤5):∀ (ks ws:List Int) (a:Int) (ρ:Rho),RigAt (mem9 b0 cV a (ws.map .int)) cV cs a→a + 2 * ks.length≤1000→ws.length + ks.length≤1000→Env1 ρ many x z→(∀ w ∈ ws,RowV w)→
    RowEnd cV b0 many x z (ws.length + ks.length) (a + 2 * ks.length) (forM (forB (callF tab W (n + 8)) 0 W "law" (.one "k") b_law_1) (ks.map .int) ρ (mem9 b0 cV a (ws.map .int))):=by
  intro ks
  induction ks with
  | nil=>exact fun ws a ρ h _ _ hE hv=>⟨ρ,ws,a,rfl,hE,hv,rfl,h.lo,Int.le_of_eq (Int.add_zero a).symm⟩
  | cons k ks ih=>
    intro ws a ρ h ha hl hE hv
    rw [List.length_cons] at ha hl ⊢
    rw [hE.eq]
    have hlo:=h.lo
    obtain ⟨way,w1,w2,w3⟩:=draw_ (W:=W) (n:=n + 7) h (by lia) (many:=8) (by decide)
    obtain ⟨v,v1,v2,v3⟩:=draw_ (W:=W) (n:=n + 7) (rig9 (rw':=ws.map .int) (a':=a + 1) h (by lia)) (by lia) (many:=5) (by decide)
    obtain ⟨w,hw,hrv⟩:=row_val (p:=decide (x=z) && decide (way<7)) (q:=decide (way<5)) hm hm5 v1 v2
    obtain ⟨ρ',ws',a',p1,p2,p3,p4,p5,p6⟩:=ih (ws++[w]) (a + 1 + 1) (upd (upd (upd (upd (upd (upd (upd (upd (upd (upd ρ "rig" (.obj 1)) "desk" (.obj 3)) "many" (.int many)) "base" (.int big)) "x" (.int x)) "z" (.int z)) "row" (.obj 9)) "k" (.int k)) "way" (.int way)) "v" (.int v)) (rig9 h (by lia)) (by lia) (by rw [List.length_append,List.length_singleton];lia) ⟨rfl,rfl,rfl,rfl,rfl,rfl,rfl⟩ fun u hu=>(List.mem_append.mp hu).elim (hv u) fun h1=>by rw [List.mem_singleton.mp h1];exact hrv
    rw [List.map_append] at p1
    refine ⟨ρ',ws',a',f_next (forB_k rfl (k_two (e_tup (l_consI (e_call d__law_draw w3 rfl) (l_one (e_call d__law_draw v3 rfl)))) (k_exp (e_append (v:=.int w) rfl (vs:=ws.map .int) rfl ((e_iteV (e_and2 (e_cmp rfl rfl (cm_eq eqI)) rfl) (e_bin rfl (e_bin rfl rfl (modV hm)) rfl) (e_iteV rfl rfl rfl)).trans (congrArg (fun v=>some (v,_)) hw)) (Nat.zero_le _) (by rw [List.length_map];exact Nat.lt_of_le_of_lt (Nat.le_trans (Nat.le_add_right ..) hl) (by decide))) rfl rfl))) p1,p2,p3,by rw [p4,List.length_append,List.length_singleton];lia,p5,by lia⟩
structure Env2 (ρ:Rho) (many x z:Int) (di dl:Dom):Prop where
  e:Env1 ρ many x z
  index:ρ "index" = some (lstD di)
  last:ρ "last" = some (lstD dl)
noncomputable def lastS:List Int:=intsI (-1) 7++[big,big + 1,big + 2,big + 4]
theorem pow30:binV μ .Pow (.int 10) (.int 30)=some (.int (10 ^ 30)):=by kernel_rfl
theorem bi_listR {lo hi:Int} (h:-(2 ^ 62)≤lo∧lo<2 ^ 62∧-(2 ^ 62)≤hi∧hi<2 ^ 62):biV μ "list" [.rng lo hi]=some (.lst ((intsI lo (hi - lo).toNat).map .int)):=by
  rw [← intsFrom_is]
  exact if_pos h
inductive Phase2 (W n:Nat) (b0:MObj) (cV:V) (many x z:Int) (ρ:Rho):Prop
  | mk (ρ':Rho) (ws:List Int) (a':Int) (di dl:Dom):(∀ {r},runK (callF tab W (n + 8)) 0 W "law" [b_law.drop 8] ρ' (mem9 b0 cV a' (ws.map .int))=r→runK (callF tab W (n + 8)) 0 W "law" [b_law.drop 5] ρ (mem9 b0 cV 2 [])=r)→Env2 ρ' many x z di dl→(∀ w ∈ ws,RowV w)→(ws.length:Int)=many→0≤a'→a'≤100→
      LotOk (intsI 0 (many + 2).toNat) (0 - big,-2) (many + 1,big) di→LotOk lastS (0 - 10 ^ 30,-2) (big + 6,10 ^ 30) dl→Phase2 W n b0 cV many x z ρ
theorem rows_ (hm0:0≤many) (hm5:many≤5) (hE:Env1 ρ many x z) (h:RigAt (mem9 b0 cV 2 []) cV cs 2):RowEnd cV b0 many x z many.toNat 12 (forM (forB (callF tab W (n + 8)) 0 W "law" (.one "k") b_law_1) ((intsI 0 many.toNat).map .int) ρ (mem9 b0 cV 2 [])):=by
  by_cases hm:many=0
  · subst hm;exact ⟨ρ,[],2,rfl,hE,fun _ h=>(nomatch h),rfl,by decide,by decide⟩
  · obtain ⟨ρ',ws',a',p1,p2,p3,p4,p5,p6⟩:=row_loop (W:=W) (n:=n) (x:=x) (z:=z) (by lia:0<many) hm5 (intsI 0 many.toNat) [] 2 ρ h (by rw [ints_len];lia) (by rw [ints_len,List.length_nil];lia) hE (fun w hw=>nomatch hw)
    rw [ints_len] at p4 p6
    exact ⟨ρ',ws',a',p1,p2,p3,by rw [p4,List.length_nil,Nat.zero_add],p5,by lia⟩
theorem rng_iter0 {k:Int} (h:0≤k):iterV lo μ (.rng 0 k)=some ((intsI 0 k.toNat).map .int):=by
  have:=rng_iter (lo:=lo) (μ:=μ) (k:=k.toNat)
  rwa [Int.toNat_of_nonneg h] at this
set_option maxHeartbeats 2000000 in
theorem phase2 (hm0:0≤many) (hm5:many≤5) (hE:Env1 ρ many x z) (h:RigAt (mem9 b0 cV 2 []) cV cs 2):Phase2 W n b0 cV many x z ρ:=by
  obtain ⟨ρ1,ws,a1,r1,r2,r4,r5,r6,r7⟩:=rows_ (W:=W) (n:=n) hm0 hm5 hE h
  have hz:∀ k:Int,k≤7→k≤(sizeLim:Nat):=fun k h=>Int.le_trans h (by decide)
  have hs:(intsI 0 (many + 2).toNat).length≤7:=by rw [ints_len];lia
  obtain ⟨di,i1,i2⟩:=lot_ (W:=W) (n:=n + 6) (rig9 (rw':=ws.map .int) h r6) (spots:=intsI 0 (many + 2).toNat) (low:=(0 - big,-2)) (high:=(many + 1,big)) (fun e=>by
    have:=congrArg List.length e
    rw [ints_len,List.length_nil] at this;lia) (Nat.le_trans hs (by decide)) (by lia) (by decide) (Int.le_trans (Int.add_le_add_right hm5 1) (show (5:Int) + 1≤big by decide))
  have ha2:0≤a1 + (intsI 0 (many + 2).toNat).length + 1:=by lia
  have ha3:a1 + (intsI 0 (many + 2).toNat).length + 1≤20:=by lia
  generalize a1 + ((intsI 0 (many + 2).toNat).length:Int) + 1=a2 at i1 ha2 ha3
  obtain ⟨dl,j1,j2⟩:=lot_ (W:=W) (n:=n + 6) (rig9 (rw':=ws.map .int) h ha2) (spots:=lastS) (low:=(0 - 10 ^ 30,-2)) (high:=(big + 6,10 ^ 30)) (fun e=>nomatch e) (by decide) (by lia) (by decide) (by decide)
  refine ⟨upd (upd (upd (upd (upd (upd (upd (upd (upd ρ1 "rig" (.obj 1)) "desk" (.obj 3)) "many" (.int many)) "base" (.int big)) "x" (.int x)) "z" (.int z)) "row" (.obj 9)) "index" (lstD di)) "last" (lstD dl),ws,a2 + (11:Nat) + 1,di,dl,fun {r} k=>?_,⟨⟨rfl,rfl,rfl,rfl,rfl,rfl,rfl⟩,rfl,rfl⟩,r4,by lia,by lia,by lia,i2,j2⟩
  have hm:=hE.many
  refine k_for (e_bi d_range c_range (bi_range1 (hz many (by lia))) (l_one (e_var hm))) (rng_iter0 hm0) r1 ?_
  rw [r2.eq]
  have hb:=bi_listR (μ:=mem9 b0 cV a1 (ws.map .int)) (lo:=0) (hi:=many + 2) (by lia)
  rw [Int.sub_zero] at hb
  refine k_one (e_call d__law_lot i1 (l_cons rfl (l_cons (e_bi d_list c_list hb (l_one (e_bi d_range c_range (bi_range1 (hz (many + 2) (by lia))) rfl))) rfl))) (k_one (e_call d__law_lot j1 (l_cons rfl (l_cons (e_bin (e_bi d_list c_list (bi_listR (by decide)) (l_one (e_bi d_range c_range (bi_range (by decide)) rfl))) rfl (add_lst (us:=(intsI (-1) 7).map .int) (vs:=[.int big,.int (big + 1),.int (big + 2),.int (big + 4)]) rfl rfl rfl rfl (by decide))) (l_cons (e_tup (l_cons (e_bin rfl (e_bin rfl rfl pow30) rfl) rfl)) (l_one (e_tup (l_cons rfl (l_one (e_bin rfl rfl pow30))))))))) k)
end
end Mine
namespace Mine
open PySem
section
variable {W n lo:Nat} {μ:M} {cs:List Int} {cV:V} {a:Int} {b0:MObj} {c:Ctx}
noncomputable def memG (b0:MObj) (cV:V) (a:Int) (ds fs rw:List V):M:=[b0,rigO cV a,.sdict (fieldsOf 7 8 false []),.inst "Store" 2,.list ds,.list fs,.list [],.list [],.idict [],.list rw]
theorem new_var_ {ds fs rw:List V} {d:Dom} (hd:d≠[]) (h1:ds.length<sizeLim) (h2:fs.length<sizeLim):callF tab W (n + 1) "Store.new_var" false 0 [.obj 3,encD d] (memG b0 cV a ds fs rw)=some (.int (((ds++[encD d]).length:Nat) - 1),memG b0 cV a (ds++[encD d]) (fs++[encD d]) rw):=
  call_imp f_Store_new_var rfl rfl (run_ret (k_exp (e_append (i:=4) (e_attr (attr_of (flds_of rfl rfl) rfl rfl) rfl) rfl rfl (Nat.zero_le _) h1) rfl (k_exp (e_append (i:=5) (e_attr (attr_of (flds_of rfl rfl) rfl rfl) rfl) rfl rfl (Nat.zero_le _) h2) rfl (k_ite (e_cmp rfl rfl (cm_eq eqD0)) (k_fn (decide_eq_false hd) (k_ret (e_bin (e_bi d_len c_len (bi_lenO (i:=4) rfl) (l_one (e_attr (attr_of (flds_of rfl rfl) rfl rfl) rfl))) rfl rfl)))))))
noncomputable def memE (b0:MObj) (cV:V) (a:Int) (c:Ctx):M:=memG b0 cV a [encD c.f0,encD c.f1] [encD c.f0,encD c.f1] (c.row.map .int)
theorem elem_init:callF tab W (n + 2) "ElementOf.__init__" false 0 [.obj 11,.int c.x,.tup (c.row.map .int),.int c.z] (memE b0 cV a c++[.sdict [],.inst "ElementOf" 10])=some (.none,memE b0 cV a c++[.sdict (ruleF c),.inst "ElementOf" 10]):=by kernel_rfl
noncomputable def st0 (c:Ctx):St:=⟨c.f0,c.f1,c.f0,c.f1,[],[],false,[],[]⟩
noncomputable def memK (b0:MObj) (cV:V) (a:Int) (c:Ctx):M:=memE b0 cV a c++[.sdict (ruleF c),.inst "ElementOf" 10]++[.list [.lst [lstD c.f0,lstD c.f1]]]
theorem memK_store:StoreAt (memK b0 cV a c) 7 8 (st0 c):=⟨rfl,rfl,rfl,rfl,rfl,rfl,rfl,.inl rfl,.inl rfl,by decide⟩
end
end Mine
namespace Mine
open PySem
section
variable {W n lo:Nat} {μ:M} {cs:List Int} {cV:V} {a many x z:Int} {b0:MObj} {c:Ctx} {ρ:Rho} {di dl:Dom} {ws:List Int}
theorem Env2.eq (h:Env2 ρ many x z di dl):ρ=upd (upd (upd (upd (upd (upd (upd (upd (upd ρ "rig" (.obj 1)) "desk" (.obj 3)) "many" (.int many)) "base" (.int big)) "x" (.int x)) "z" (.int z)) "row" (.obj 9)) "index" (lstD di)) "last" (lstD dl):=by
  rw [← upd_self h.e.rig,← upd_self h.e.desk,← upd_self h.e.many,← upd_self h.e.base,← upd_self h.e.x,← upd_self h.e.z,← upd_self h.e.row,← upd_self h.index,← upd_self h.last]
structure EnvL (ρ:Rho) (many:Int) (c:Ctx) (prs:Dom):Prop where
  e:Env1 ρ many c.x c.z
  rule:ρ "rule" = some (.obj 11)
  kept:ρ "kept" = some (.obj 12)
  pairs:ρ "pairs" = some (lstD prs)
theorem RowAt.idx0 (h:RowAt μ c) {k:Int} (hk:k ∈ intsI 0 c.row.length):idxV μ (.obj 9) (.int k)=some (.int (c.at (k + 1))):=by
  have hk:=ints_mem.mp hk
  have:=h.idx (p:=k + 1) ⟨by lia,by lia⟩
  rwa [Int.add_sub_cancel] at this
noncomputable def ctxOf (x z:Int) (ws:List Int) (di dl:Dom):Ctx:=⟨x,z,ws,bif decide (0=x) then di else dl,bif decide (1=x) then di else dl⟩
theorem XZ.fx (h:XZ x z):(ctxOf x z ws di dl).fst x=di:=by cases h <;> rfl
theorem XZ.fz (h:XZ x z):(ctxOf x z ws di dl).fst z=bif decide (x=z) then di else dl:=by cases h <;> rfl
noncomputable def prs1 (c:Ctx) (di e:Dom):Dom:=((intsI 0 c.row.length).filter fun k=>hasL di (k + 1) && hasL e (c.at (k + 1))).map fun k=>(k + 1,c.at (k + 1))
noncomputable def prs2 (c:Ctx) (d:Dom):Dom:=d.filter fun pr=>!decide (c.x=c.z) || decide (pr.1=pr.2)
theorem prs_pair (h:XZ x z):∀ pr ∈ prs2 (ctxOf x z ws di dl) (prs1 (ctxOf x z ws di dl) di (bif decide (x=z) then di else dl)),isPair (ctxOf x z ws di dl) pr:=fun pr hpr=>by
  obtain ⟨h1,h2⟩:=List.mem_filter.mp hpr
  obtain ⟨k,h3,rfl⟩:=List.mem_map.mp h1
  obtain ⟨h4,h5⟩:=List.mem_filter.mp h3
  have h6:=ints_mem.mp h4
  rw [Bool.and_eq_true,hasL_mem,hasL_mem] at h5
  refine ⟨⟨show 1≤k + 1 by lia,show k + 1≤_ by lia⟩,rfl,?_,?_,fun e=>?_⟩
  · rw [show (ctxOf x z ws di dl).x=x from rfl,h.fx];exact h5.1
  · rw [show (ctxOf x z ws di dl).z=z from rfl,h.fz];exact h5.2
  · rw [decide_eq_true e] at h2
    exact of_decide_eq_true h2
inductive Phase3 (W n:Nat) (b0:MObj) (cV:V) (a:Int) (c:Ctx) (many:Int) (ρ:Rho):Prop
  | mk (ρ':Rho) (prs:Dom):(∀ {r},runK (callF tab W (n + 8)) 0 W "law" [b_law.drop 12] ρ' (memK b0 cV a c)=r→runK (callF tab W (n + 8)) 0 W "law" [b_law.drop 8] ρ (mem9 b0 cV a (c.row.map .int))=r)→EnvL ρ' many c prs→(∀ pr ∈ prs,isPair c pr)→Phase3 W n b0 cV a c many ρ
theorem if_ne {q:Bool} (h1:di≠[]) (h2:dl≠[]):(bif q then di else dl)≠[]:=by
  cases q with
  | true=>exact h1
  | false=>exact h2
set_option maxHeartbeats 4000000 in
theorem phase3 (hE:Env2 ρ many x z di dl) (hlen:(ws.length:Int)=many) (hm5:many≤5) (hxz:XZ x z) (ni:di≠[]) (nl:dl≠[]):Phase3 W n b0 cV a (ctxOf x z ws di dl) many ρ:=by
  have hz:∀ k:Int,k≤7→k≤(sizeLim:Nat):=fun k h=>Int.le_trans h (by decide)
  have hrow:RowAt (memE b0 cV a (ctxOf x z ws di dl)) (ctxOf x z ws di dl):=rfl
  have hR:∀ {ρ:Rho},ρ "many" = some (.int many)→ev tab (callF tab W (n + 8)) 0 (.call "range" false [(.var "many")]) ρ (memE b0 cV a (ctxOf x z ws di dl))=some (.rng 0 ws.length,memE b0 cV a (ctxOf x z ws di dl)):=fun h=>by
    rw [hlen];exact e_bi d_range c_range (bi_range1 (hz many (by lia))) (l_one (e_var h))
  refine ⟨upd (upd (upd (upd (upd (upd (upd (upd (upd (upd (upd (upd (upd (upd (upd ρ "rig" (.obj 1)) "desk" (.obj 3)) "many" (.int many)) "base" (.int big)) "x" (.int x)) "z" (.int z)) "row" (.obj 9)) "index" (lstD di)) "last" (lstD dl)) "y" (.int 0)) "y" (.int 1)) "pairs" (lstD (prs1 (ctxOf x z ws di dl) di (bif decide (x=z) then di else dl)))) "pairs" (lstD (prs2 (ctxOf x z ws di dl) (prs1 (ctxOf x z ws di dl) di (bif decide (x=z) then di else dl))))) "rule" (.obj 11)) "kept" (.obj 12),_,fun {r} k=>?_,⟨⟨rfl,rfl,rfl,rfl,rfl,rfl,rfl⟩,rfl,rfl,rfl⟩,prs_pair hxz⟩
  rw [hE.eq]
  refine k_for (e_bi d_range c_range (bi_range1 (b:=2) (by decide)) rfl) rfl (f_next (forB_k rfl (k_exp (e_def rfl (find_def rfl rfl rfl m_Store_new_var) (new_var_ (W:=W) (n:=n + 7) (ds:=[]) (fs:=[]) (if_ne ni nl) (by decide) (by decide)) (l_one (e_bi d_tuple c_tuple bi_tupD (l_one (e_iteF (f:=lstD) (e_cmp rfl rfl (cm_eq eqI)) rfl rfl))))) rfl rfl))
    (f_next (forB_k rfl (k_exp (e_def rfl (find_def rfl rfl rfl m_Store_new_var) (new_var_ (W:=W) (n:=n + 7) (ds:=[_]) (fs:=[_]) (if_ne ni nl) (show 1<sizeLim by decide) (show 1<sizeLim by decide)) (l_one (e_bi d_tuple c_tuple bi_tupD (l_one (e_iteF (f:=lstD) (e_cmp rfl rfl (cm_eq eqI)) rfl rfl))))) rfl rfl)) rfl)) ?_
  refine k_one (v:=lstD (prs1 (ctxOf x z ws di dl) di (bif decide (x=z) then di else dl))) (μ₁:=memE b0 cV a (ctxOf x z ws di dl)) ((ev_comp (l:=intsI 0 ws.length) (enc:=V.int) (k:=fun k=>hasL di (k + 1) && hasL (bif decide (x=z) then di else dl) ((ctxOf x z ws di dl).at (k + 1))) (g:=fun k=>encP (k + 1,(ctxOf x z ws di dl).at (k + 1))) (vi:=.rng 0 ws.length) (hR rfl) rng_iter fun k hk=>⟨_,rfl,a_one (e_and2 (e_call d__law_has lhas_ rfl) (e_call d__law_has lhas_ (l_cons (e_iteF (f:=lstD) (e_cmp rfl rfl (cm_eq eqI)) rfl rfl) (l_one (e_idxF (hrow.idx0 hk) rfl rfl))))),fun _=>e_tup (l_cons rfl (l_one (e_idxF (hrow.idx0 hk) rfl rfl)))⟩).trans (congrArg (fun l=>some (V.lst l,_)) (List.map_map (g:=encP) (f:=fun k=>(k + 1,(ctxOf x z ws di dl).at (k + 1)))).symm)) ?_
  refine k_one (v:=lstD (prs2 (ctxOf x z ws di dl) (prs1 (ctxOf x z ws di dl) di (bif decide (x=z) then di else dl)))) (μ₁:=memE b0 cV a (ctxOf x z ws di dl)) (ev_comp (l:=prs1 (ctxOf x z ws di dl) di (bif decide (x=z) then di else dl)) (enc:=encP) (k:=fun pr=>!decide (x=z) || decide (pr.1=pr.2)) (g:=encP) (vi:=lstD _) rfl rfl fun pr _=>⟨_,rfl,a_one (e_or2 (e_cmp rfl rfl (cm_ne eqI)) (e_cmp rfl rfl (cm_eq eqI))),fun _=>rfl⟩) ?_
  have hst:StoreAt (memE b0 cV a (ctxOf x z ws di dl)++[.sdict (ruleF (ctxOf x z ws di dl)),.inst "ElementOf" 10]) 7 8 (st0 (ctxOf x z ws di dl)):=⟨rfl,rfl,rfl,rfl,rfl,rfl,rfl,.inl rfl,.inl rfl,by decide⟩
  exact k_two (e_tup (l_consI (e_cls d_ElementOf c_ElementOf m_ElementOf__init_ elem_init (l_cons rfl (l_cons (e_bi d_tuple c_tuple (bi_tupO (i:=9) hrow) rfl) rfl))) (l_one (e_listN (l_one (e_call d__law_lots (lots_ (n:=n + 6) hst) rfl)))))) k
end
end Mine
namespace Mine
open PySem
section
variable {W n lo i k:Nat} {μ μ':M} {im inw im' inw':Nat} {cs:List Int} {cV:V} {a b:Int} {c:Ctx} {s s' s₁ s2 s3 sp:St} {l:Lit} {kept kept':List (Dom×Dom)} {e:List Ent} {o:MObj}
noncomputable def keptO (kept:List (Dom×Dom)):MObj:=.list (kept.map fun p=>V.lst [lstD p.1,lstD p.2])
structure MemL (μ:M) (im inw:Nat) (s:St) (c:Ctx) (cV:V) (cs:List Int) (a:Int) (kept:List (Dom×Dom)):Prop where
  st:StoreAt μ im inw s
  rule:RuleAt μ c
  row:RowAt μ c
  rig:RigAt μ cV cs a
  kept:μ[12]?=some (keptO kept)
  len:13≤μ.length
theorem StoreAt.far' (h:StoreAt μ im inw s) (h1:i<2∨9≤i) (h2:i<13):Far im inw i:=
  have:=h.him
  have:=h.hin
  ⟨by lia,by lia,by lia,by lia,by lia,by lia⟩
theorem StoreAt.setF (h:StoreAt μ im inw s) (f:Far im inw i) (h3:i≠3):StoreAt (μ.set i o) im inw s:=
  ⟨get_to h3 h.obj,get_to f.n2.symm h.dct,get_to f.n4.symm h.doms,get_to f.n5.symm h.firsts,get_to f.n6.symm h.tr,get_to f.nm.symm h.mks,get_to f.nn.symm h.nw,h.him,h.hin,h.ne⟩
theorem MemL.frmP (h:MemL μ im inw s c cV cs a kept) (f:FrmP im inw μ μ') (h':StoreAt μ' im' inw' s'):MemL μ' im' inw' s' c cV cs a kept:=
  have g {i:Nat} {o:MObj} (h1:i<2∨9≤i) (h2:i<13) (e:μ[i]?=some o):μ'[i]?=some o:=(f.at_ i (Nat.lt_of_lt_of_le h2 h.len) (h.st.far' h1 h2)).trans e
  ⟨h',⟨g (by decide) (by decide) h.rule.obj,g (by decide) (by decide) h.rule.dct⟩,g (by decide) (by decide) h.row,⟨g (by decide) (by decide) h.rig.at_,h.rig.cells.to (g (by decide) (by decide)),h.rig.lo⟩,g (by decide) (by decide) h.kept,Nat.le_trans h.len f.len⟩
theorem MemL.rig1 (h:MemL μ im inw s c cV cs a kept):MemL (μ.set 1 (rigO cV (a + 1))) im inw s c cV cs (a + 1) kept:=
  ⟨h.st.setF (h.st.far' (by decide) (by decide)) (by decide),⟨get_to (by decide) h.rule.obj,get_to (by decide) h.rule.dct⟩,get_to (by decide) h.row,h.rig.next,get_to (by decide) h.kept,by rw [List.length_set];exact h.len⟩
theorem MemL.keep (h:MemL μ im inw s c cV cs a kept):MemL (μ.set 12 (keptO kept')) im inw s c cV cs a kept':=
  ⟨h.st.setF (h.st.far' (by decide) (by decide)) (by decide),⟨get_to (by decide) h.rule.obj,get_to (by decide) h.rule.dct⟩,get_to (by decide) h.row,⟨get_to (by decide) h.rig.at_,h.rig.cells.to (get_to (by decide)),h.rig.lo⟩,get_set h.kept,by rw [List.length_set];exact h.len⟩
inductive Ext (k:Nat) (s s':St):Prop
  | mk (ext:List Ent):Trail s ext s'→ext.length≤k→Ext k s s'
structure MidY (c:Ctx) (s s':St):Prop where
  inv:SInv c s'
  len:∀ y,isVarI y→(s'.dom y).length≤31
  tr:s'.tr.length≤s.tr.length + 1
structure Mid (c:Ctx) (s s':St) (b:Bool):Prop where
  ext:Ext 1 s s'
  mks:s'.mks=s.mks++[(s.tr.length:Int)]
  fst:∀ y,s'.fst y=c.fst y
  yes:b=true→MidY c s s'
structure EnterS (s s':St):Prop where
  fst:∀ y,s'.fst y=s.fst y
  mks:s'.mks=s.mks
theorem enter_same {rs:Option (List Lit)}:EnterS s (s.enter l rs).2:=by
  unfold St.enter
  split
  · exact ⟨fun _=>rfl,rfl⟩
  · split <;> exact ⟨fun _=>rfl,rfl⟩
theorem Trail.from_ (h:Trail sp e s') (ht:sp.tr=s.tr) (d:Doms sp s):Trail s e s':=⟨by rw [← ht];exact h.tr,h.vars,h.und.trans d⟩
theorem SInv.wM (h:SInv c s) {m:List Int}:SInv c (s.wM m):=⟨h.wf,h.ne,h.fst,h.sub,h.nf,h.nw⟩
theorem mid_decide (hc:c.Ok) (h:SInv c s) (hf:Few c s 31) (hl:∀ y,isVarI y→(s.dom y).length≤31) (hx:l.x=c.x∨l.x=c.z):Mid c s ((s.wM (s.mks++[(s.tr.length:Int)])).enter l none).2 ((s.wM (s.mks++[(s.tr.length:Int)])).enter l none).1:=by
  have hxv:isVarI l.x:=by rcases hx with e | e <;> rw [e];exact hc.hx;exact hc.hz
  have hip:SInv c (s.wM (s.mks++[(s.tr.length:Int)])):=h.wM
  have E:=enter_same (s:=s.wM (s.mks++[(s.tr.length:Int)])) (l:=l) (rs:=none)
  refine ⟨?_,E.mks,fun y=>(E.fst y).trans (h.fst y),fun hb=>?_⟩
  · cases hb:((s.wM (s.mks++[(s.tr.length:Int)])).enter l none).1 with
    | false=>
      rw [(fail_state hb).2]
      exact ⟨[],.refl rfl ⟨rfl,rfl⟩,Nat.zero_le _⟩
    | true=>
      rcases (enter_true hip hxv hb).how with ⟨h4,_⟩ | ⟨h5,h4,_⟩
      · rw [h4];exact ⟨[],.refl rfl ⟨rfl,rfl⟩,Nat.zero_le _⟩
      · rw [h4];exact ⟨_,(Trail.put hxv).from_ rfl ⟨rfl,rfl⟩,Nat.le_refl _⟩
  · have T:=enter_true hip hxv hb
    refine ⟨T.inv,fun y hy=>?_,enter_tr hip hxv hb⟩
    by_cases hyl:y=l.x
    · have h31:(valsD (s.dom y)).length≤31:=by rw [hyl];rcases hx with e | e <;> rw [e];exact hf.x;exact hf.z
      exact Nat.le_trans (len_vals (T.inv.wf y)) (Nat.le_trans (nodup_sub (b:=valsD (s.dom y)) (vals_nodup (T.inv.wf y)) fun v hv=>vals_mem.mpr ((T.mem y hy v).mp (vals_mem.mp hv)).1) h31)
    · rcases T.how with ⟨h4,_⟩ | ⟨_,h4,_⟩
      · rw [h4];exact hl y hy
      · rw [h4,put_dom hy hxv,if_neg hyl];exact hl y hy
noncomputable def In30 (d:Dom):Prop:=∀ v,mem v d→-(10 ^ 30)≤v∧v≤10 ^ 30
structure Set30 (c:Ctx):Prop where
  ok:c.Ok
  f0:In30 c.f0
  f1:In30 c.f1
theorem In30.far {d:Dom} (h:In30 d):InFar d:=fun v hv=>⟨Int.le_trans (by decide) (h v hv).1,Int.le_trans (h v hv).2 (by decide)⟩
theorem Set30.set (h:Set30 c):Setting c:=⟨h.ok,h.f0.far,h.f1.far⟩
theorem tot_30 (hs:Set30 c) (hi:SInv c s):tot c s≤(2 * 10 ^ 30 + 1) + (2 * 10 ^ 30 + 1):=by
  have key:∀ y,(valsD (s.dom y)).length≤2 * 10 ^ 30 + 1:=fun y=>by
    have hf:In30 (c.fst y):=by
      unfold Ctx.fst
      split
      · exact hs.f0
      · exact hs.f1
    have:=nodup_sub (b:=intsI (-(10 ^ 30)) (2 * 10 ^ 30 + 1)) (vals_nodup (hi.wf y)) fun v hv=>ints_mem.mpr (by have:=hf v (hi.sub y (vals_mem.mp hv));exact ⟨this.1,Int.lt_of_le_of_lt this.2 (by decide)⟩)
    rwa [ints_len] at this
  exact Nat.add_le_add (key c.x) (key c.z)
structure AftY (c:Ctx) (s s3:St):Prop where
  inv:SInv c s3
  len:∀ y,isVarI y→(s3.dom y).length≤31
  few:Few c s3 31
  row:c.row≠[]
  tr:s3.tr.length≤s.tr.length + 103
structure Aft (c:Ctx) (s s3:St) (b:Bool):Prop where
  ext:Ext (10 ^ 32) s s3
  mks:s3.mks=s.mks++[(s.tr.length:Int)]
  fst:∀ y,s3.fst y=c.fst y
  yes:b=true→AftY c s s3
structure Like (s t:St):Prop where
  tr:s.tr=t.tr
  doms:Doms s t
  mks:s.mks=t.mks
  fst:∀ y,s.fst y=t.fst y
theorem Out.like {b:Bool} (o:Out c s b s₁ s'):Like s' s₁:=by
  rcases o with ⟨_,e,_,_⟩ | ⟨_,_,e,_,_⟩ <;> rw [e] <;> exact ⟨rfl,⟨rfl,rfl⟩,rfl,fun _=>rfl⟩
theorem mid_run (hs:Set30 c) {b:Bool} {ext2:List Ent} (m:Mid c s s2 true) (o:Out c s2 b s₁ s3) (tl:Trail s2 ext2 s₁) (htr:b=true→s3.tr.length≤s2.tr.length + 102):Aft c s s3 b:=by
  have Y:=m.yes rfl
  have hc:=hs.ok
  obtain ⟨ext1,t1,t2⟩:=m.ext
  have hi1:=o.runs.inv hc Y.inv
  have L:=o.like
  refine ⟨⟨ext1++ext2,t1.trans (tl.to L.tr L.doms),?_⟩,L.mks.trans ((o.runs.mks hc Y.inv).trans m.mks),fun y=>(L.fst y).trans (hi1.fst y),fun hb=>?_⟩
  · have h1:=o.runs.trail hc Y.inv
    have h2:=tot_30 hs Y.inv
    rw [tl.tr,List.length_append] at h1
    rw [List.length_append]
    exact Nat.le_trans (Nat.add_le_add t2 (Nat.le_trans (by lia:ext2.length≤tot c s2) h2)) (by decide)
  · rcases o with ⟨_,e,r,fx⟩ | ⟨_,h,_⟩
    · rw [e] at htr ⊢
      exact ⟨hi1,fix_len hc Y.inv r fx Y.len,fix_few hc hi1 fx,fix_row hi1 fx,Nat.le_trans (htr hb) (by have:=Y.tr;lia)⟩
    · rw [hb] at h;cases h
end
end Mine
namespace Mine
open PySem
section
variable {W n lo lap:Nat} {μ μ₁ μ₂:M} {im inw:Nat} {cs:List Int} {cV:V} {a many:Int} {c:Ctx} {s s' s2:St} {kept:List (Dom×Dom)} {prs:Dom} {ρ:Rho} {b:Bool} {ks:List (List S)}
theorem EnvL.eq (h:EnvL ρ many c prs):ρ=upd (upd (upd (upd (upd (upd (upd (upd (upd (upd ρ "rig" (.obj 1)) "desk" (.obj 3)) "many" (.int many)) "base" (.int big)) "x" (.int c.x)) "z" (.int c.z)) "row" (.obj 9)) "rule" (.obj 11)) "kept" (.obj 12)) "pairs" (lstD prs):=by
  rw [← upd_self h.e.rig,← upd_self h.e.desk,← upd_self h.e.many,← upd_self h.e.base,← upd_self h.e.x,← upd_self h.e.z,← upd_self h.e.row,← upd_self h.rule,← upd_self h.kept,← upd_self h.pairs]
structure EnvS (ρ:Rho) (many:Int) (c:Ctx) (prs:Dom) (lap:Nat) (b:Bool):Prop where
  e:EnvL ρ many c prs
  lap:ρ "lap" = some (.int lap)
  stands:ρ "stands" = some (.bool b)
theorem EnvS.eq (h:EnvS ρ many c prs lap b):ρ=upd (upd (upd (upd (upd (upd (upd (upd (upd (upd (upd (upd ρ "rig" (.obj 1)) "desk" (.obj 3)) "many" (.int many)) "base" (.int big)) "x" (.int c.x)) "z" (.int c.z)) "row" (.obj 9)) "rule" (.obj 11)) "kept" (.obj 12)) "pairs" (lstD prs)) "lap" (.int lap)) "stands" (.bool b):=by
  rw [← h.e.eq,← upd_self h.lap,← upd_self h.stands]
theorem sign_pick {r:Int} (h0:0≤r) (h4:r<4):∃ sg:Sg,∀ μ:M,idxV μ (.tup [.str "!=", .str "<=", .str ">=", .str "="]) (.int r)=some (.str sg.s):=by
  have:r=0∨r=1∨r=2∨r=3:=by lia
  rcases this with rfl | rfl | rfl | rfl
  · exact ⟨.ne,fun _=>rfl⟩
  · exact ⟨.le,fun _=>rfl⟩
  · exact ⟨.ge,fun _=>rfl⟩
  · exact ⟨.eq,fun _=>rfl⟩
theorem var_pick {r:Int} (h0:0≤r) (h2:r<2):∃ y,(y=c.x∨y=c.z)∧∀ μ,idxV μ (.tup [.int c.x,.int c.z]) (.int r)=some (.int y):=by
  have:r=0∨r=1:=by lia
  rcases this with rfl | rfl
  · exact ⟨c.x,.inl rfl,fun _=>rfl⟩
  · exact ⟨c.z,.inr rfl,fun _=>rfl⟩
section
variable {cb:Calls} {e f:C} {x y v:V} {vs:List V} {es:List C} {m q:Str} {r:Option (V×M)}
theorem e_binI {op:Operator} (h1:ev tab cb lo e ρ μ=some (x,μ₁)) (h2:ev tab cb lo f ρ μ₁=some (y,μ₂)) (h3:binV μ₂ op x y=some v):ev tab cb lo (.bin op e f) ρ μ=some (v,μ₂):=bS h1 (bS h2 (mS h3))
theorem e_idxI (h1:ev tab cb lo e ρ μ=some (x,μ₁)) (h2:ev tab cb lo f ρ μ₁=some (y,μ₂)) (h3:idxV μ₂ x y=some v):ev tab cb lo (.idx e f) ρ μ=some (v,μ₂):=bS h1 (bS h2 (mS h3))
theorem e_def2 (h1:ev tab cb lo e ρ μ=some (x,μ)) (h2:methFind tab x m μ=some (some q)) (h3:evs tab cb lo es ρ μ=some (vs,μ₂)) (h4:cb q false lo (x::vs) μ₂=r):ev tab cb lo (.meth e m es) ρ μ=r:=e_meth2 h1 h2 h3 h4
end
noncomputable abbrev kC:C:=.ite (.cmp .Eq (.var "y") (.var "x")) (.var "spot") (.bin .Sub (.bin .Add (.idx (.var "row") (.bin .Mod (.var "spot") (.var "many"))) (.call "_law_draw" false [(.var "rig"),(.const (.int 3))])) (.const (.int 1)))
inductive LapK (im inw:Nat) (s:St) (c:Ctx) (cV:V) (cs:List Int) (a:Int) (kept:List (Dom×Dom)) (r:Option (V×M)):Prop
  | mk (k:Int) (μ':M) (a':Int):r=some (.int k,μ')→MemL μ' im inw s c cV cs a' kept→a'≤a + 1→LapK im inw s c cV cs a kept r
theorem lap_k (hE:EnvS ρ many c prs lap b) (hm:0<many) (hlen:(c.row.length:Int)=many) (h:MemL μ im inw s c cV cs a kept) (ha:a≤900010) {y sp:Int} :
    LapK im inw s c cV cs a kept (ev tab (callF tab W (n + 8)) 0 kC (upd (upd ρ "spot" (.int sp)) "y" (.int y)) μ):=by
  rw [hE.eq]
  by_cases hyx:y=c.x
  · exact ⟨sp,μ,a,e_ite (e_cmp rfl rfl (cm_eq eqI)) (if_t (decide_eq_true hyx) rfl),h,Int.le_add_one (Int.le_refl _)⟩
  · obtain ⟨d,_,_,d3⟩:=draw_ (W:=W) (n:=n + 7) h.rig (by lia) (many:=3) (by decide)
    have h1:=Int.emod_nonneg sp (Int.ne_of_gt hm)
    have h2:=Int.emod_lt_of_pos sp hm
    have hi:=h.row.idx0 (k:=sp % many) (ints_mem.mpr ⟨h1,by lia⟩)
    exact ⟨_,_,a + 1,e_ite (e_cmp rfl rfl (cm_eq eqI)) (if_f (decide_eq_false hyx) (e_binI (e_binI (e_idxF hi rfl (e_bin rfl rfl (modV hm))) (e_call d__law_draw d3 rfl) rfl) rfl rfl)),h.rig1,Int.le_refl _⟩
noncomputable def decS:List S:=[.assign (.many ["spot", "y"]) (.tup [(.bin .Add (.const (.int 1)) (.call "_law_draw" false [(.var "rig"),(.bin .Add (.var "many") (.const (.int 1)))])),(.idx (.tup [(.var "x"),(.var "z")]) (.call "_law_draw" false [(.var "rig"),(.const (.int 2))]))]),.assign (.one "k") kC,.assign (.one "stands") (.meth (.var "desk") "decide" [(.tup [(.var "y"),(.idx (.tup [(.const (.str "!=")),(.const (.str "<=")),(.const (.str ">=")),(.const (.str "="))]) (.call "_law_draw" false [(.var "rig"),(.const (.int 4))])),(.var "k")])])]
inductive LapD (W n:Nat) (im inw:Nat) (s:St) (c:Ctx) (cV:V) (cs:List Int) (a:Int) (kept:List (Dom×Dom)) (many:Int) (prs:Dom) (lap:Nat) (ks:List (List S)) (ρ:Rho) (μ:M):Prop
  | mk (ρ':Rho) (μ':M) (a':Int) (l:Lit):(∀ {r},runK (callF tab W (n + 8)) 0 W "law" ks ρ' μ'=r→runK (callF tab W (n + 8)) 0 W "law" (decS::ks) ρ μ=r)→EnvS ρ' many c prs lap (s.enter l none).1→(l.x=c.x∨l.x=c.z)→MemL μ' im inw (s.enter l none).2 c cV cs a' kept→a'≤a + 4→LapD W n im inw s c cV cs a kept many prs lap ks ρ μ
theorem lap_decide (hc:c.Ok) (hW:3000<W) (hE:EnvS ρ many c prs lap b) (hm:0<many) (hlen:(c.row.length:Int)=many) (h:MemL μ im inw s c cV cs a kept) (ha:a≤900000) (hl:∀ y,isVarI y→(s.dom y).length≤31) (ht:s.tr.length<900000) (hn:s.nw.length≤2):LapD W n im inw s c cV cs a kept many prs lap ks ρ μ:=by
  obtain ⟨sp,s1,s2,s3⟩:=draw_ (W:=W) (n:=n + 7) h.rig (by lia) (many:=many + 1) (by lia)
  have hA:=h.rig1
  obtain ⟨r,r1,r2,r3⟩:=draw_ (W:=W) (n:=n + 7) hA.rig (by lia) (many:=2) (by decide)
  have hB:=hA.rig1
  obtain ⟨y,hy,hyi⟩:=var_pick (c:=c) r1 r2
  obtain ⟨k,MC,aC,hk,hC,haC⟩:=lap_k (W:=W) (n:=n) hE hm hlen hB (by lia) (y:=y) (sp:=1 + sp)
  obtain ⟨o,o1,o2,o3⟩:=draw_ (W:=W) (n:=n + 7) hC.rig (by lia) (many:=4) (by decide)
  obtain ⟨sg,hsg⟩:=sign_pick o1 o2
  have hD:=hC.rig1
  have hyv:isVarI y:=by rcases hy with e | e <;> rw [e];exact hc.hx;exact hc.hz
  obtain ⟨ME,e1,e2,e3⟩:=decide_ (W:=W) (n:=n + 3) hD.st (l:=⟨y,sg,k⟩) hyv (Nat.le_trans (hl y hyv) (by decide)) (Nat.lt_trans ht (by decide)) hn (by lia)
  rw [hE.eq] at hk
  refine ⟨upd (upd (upd (upd (upd (upd (upd (upd (upd (upd (upd (upd (upd (upd (upd (upd ρ "rig" (.obj 1)) "desk" (.obj 3)) "many" (.int many)) "base" (.int big)) "x" (.int c.x)) "z" (.int c.z)) "row" (.obj 9)) "rule" (.obj 11)) "kept" (.obj 12)) "pairs" (lstD prs)) "lap" (.int lap)) "stands" (.bool b)) "spot" (.int (1 + sp))) "y" (.int y)) "k" (.int k)) "stands" (.bool (s.enter ⟨y,sg,k⟩ none).1),ME,aC + 1,⟨y,sg,k⟩,fun {r} kk=>?_,⟨⟨⟨rfl,rfl,rfl,rfl,rfl,rfl,rfl⟩,rfl,rfl,rfl⟩,rfl,rfl⟩,hy,hD.frmP e3.toP e2,by lia⟩
  rw [hE.eq]
  exact k_two (x:=.int (1 + sp)) (y:=.int y) (e_tup (l_consI (e_binI rfl (e_call d__law_draw s3 rfl) rfl) (l_one (e_idxI rfl (e_call d__law_draw r3 rfl) (hyi _))))) (k_one hk (k_one (e_def2 rfl (hC.st.find m_Store_decide rfl) (l_one (e_tup (l_cons rfl (l_consI (e_idxI rfl (e_call d__law_draw o3 rfl) (hsg _)) rfl)))) e1) (k_nil kk)))
structure J (c:Ctx) (s:St) (kept:List (Dom×Dom)) (lap:Nat):Prop where
  inv:SInv c s
  len:∀ y,isVarI y→(s.dom y).length≤31
  tr:s.tr.length≤1000 * lap
  trail:Trail (st0 c) s.tr s
  mk0:(s.mks=[]∧s.tr=[])∨∃ ms,s.mks=0::ms
  mkl:s.mks.length≤lap
  last:kept.getLast?=some (s.d0,s.d1)
  first:kept.head?=some (c.f0,c.f1)
  kl:kept.length≤lap + 1
  few:0<lap→Few c s 31∧c.row≠[]
  zero:lap=0→s.mks=[]∧s.tr=[]
inductive LapA (W n:Nat) (im inw:Nat) (s:St) (c:Ctx) (cV:V) (cs:List Int) (a:Int) (kept:List (Dom×Dom)) (many:Int) (prs:Dom) (lap:Nat) (ρ:Rho) (μ:M):Prop
  | mk (ρ':Rho) (μ':M) (a':Int) (s2:St) (b:Bool):(∀ {r},runK (callF tab W (n + 8)) 0 W "law" [b_law_3.drop 3] ρ' μ'=r→runK (callF tab W (n + 8)) 0 W "law" [b_law_3] (upd ρ "lap" (.int lap)) μ=r)→EnvS ρ' many c prs lap b→MemL μ' im inw s2 c cV cs a' kept→Mid c s s2 b→a'≤a + 4→LapA W n im inw s c cV cs a kept many prs lap ρ μ
theorem lap_first (hc:c.Ok) (hW:3000<W) (hlen:(c.row.length:Int)=many) (hE:EnvL ρ many c prs) (h:MemL μ im inw s c cV cs a kept) (j:J c s kept lap) (hl5:lap≤5) (ha:a≤900000):LapA W n im inw s c cV cs a kept many prs lap ρ μ:=by
  have hkl:=j.mkl
  have hjt:=j.tr
  obtain ⟨μ1,e1,e2,e3⟩:=push_ (W:=W) (n:=n + 7) h.st (by lia)
  have hM1:=h.frmP e3.toP e2
  have hE1:EnvS (upd (upd (upd (upd (upd (upd (upd (upd (upd (upd (upd (upd ρ "rig" (.obj 1)) "desk" (.obj 3)) "many" (.int many)) "base" (.int big)) "x" (.int c.x)) "z" (.int c.z)) "row" (.obj 9)) "rule" (.obj 11)) "kept" (.obj 12)) "pairs" (lstD prs)) "lap" (.int lap)) "stands" (.bool true)) many c prs lap true:=⟨⟨⟨rfl,rfl,rfl,rfl,rfl,rfl,rfl⟩,rfl,rfl,rfl⟩,rfl,rfl⟩
  have key:∀ {r},runK (callF tab W (n + 8)) 0 W "law" [bif decide ((0:Int)<lap) then decS else [],b_law_3.drop 3] (upd (upd (upd (upd (upd (upd (upd (upd (upd (upd (upd (upd ρ "rig" (.obj 1)) "desk" (.obj 3)) "many" (.int many)) "base" (.int big)) "x" (.int c.x)) "z" (.int c.z)) "row" (.obj 9)) "rule" (.obj 11)) "kept" (.obj 12)) "pairs" (lstD prs)) "lap" (.int lap)) "stands" (.bool true)) μ1=r→runK (callF tab W (n + 8)) 0 W "law" [b_law_3] (upd ρ "lap" (.int lap)) μ=r:=fun k=>by
    rw [hE.eq]
    exact k_exp (e_def rfl (h.st.find m_Store_push rfl) e1 rfl) rfl (k_one (v:=.bool true) rfl (k_ite (e_cmp rfl rfl rfl) k))
  by_cases h0:lap=0
  · subst h0
    exact ⟨_,μ1,a,_,true,fun k=>key (k_fn rfl k),hE1,hM1,⟨⟨[],.refl rfl ⟨rfl,rfl⟩,Nat.zero_le _⟩,rfl,j.inv.fst,fun _=>⟨j.inv.wM,j.len,Nat.le_succ _⟩⟩,by lia⟩
  · have hp:=Nat.pos_of_ne_zero h0
    obtain ⟨few,hrow⟩:=j.few hp
    have hm0:=List.length_pos_iff.mpr hrow
    obtain ⟨ρ',μ',a',l,p1,p2,p4,p5,p6⟩:=lap_decide (W:=W) (n:=n) (ks:=[b_law_3.drop 3]) hc hW hE1 (by lia) hlen hM1 ha j.len (show s.tr.length<900000 by lia) j.inv.nw.len
    exact ⟨ρ',μ',a',_,_,fun k=>key (k_t (decide_eq_true (Int.ofNat_lt.mpr hp)) (p1 k)),p2,p5,mid_decide hc j.inv few j.len p4,p6⟩
end
end Mine
namespace Mine
open PySem
section
variable {W n lo lap:Nat} {μ:M} {im inw:Nat} {cs:List Int} {cV:V} {a many:Int} {c:Ctx} {s s' s2 s3 t:St} {kept:List (Dom×Dom)} {prs:Dom} {ρ:Rho} {b:Bool}
inductive LapB (W n:Nat) (im inw:Nat) (s:St) (c:Ctx) (cV:V) (cs:List Int) (a:Int) (kept:List (Dom×Dom)) (many:Int) (prs:Dom) (lap:Nat) (ρ:Rho) (μ:M):Prop
  | mk (ρ':Rho) (μ':M) (s3:St) (b:Bool):(∀ {r},runK (callF tab W (n + 8)) 0 W "law" [b_law_3.drop 4] ρ' μ'=r→runK (callF tab W (n + 8)) 0 W "law" [b_law_3.drop 3] ρ μ=r)→EnvS ρ' many c prs lap b→MemL μ' im inw s3 c cV cs a kept→Aft c s s3 b→LapB W n im inw s c cV cs a kept many prs lap ρ μ
theorem Ext.le {k m:Nat} (h:k≤m) (e:Ext k s s'):Ext m s s':=by
  obtain ⟨ext,t,l⟩:=e
  exact ⟨ext,t,Nat.le_trans l h⟩
theorem lap_run (hs:Set30 c) (hL:c.x≠c.z→LimL c) (hW:3000<W) (hp:∀ pr ∈ prs,isPair c pr) (hE:EnvS ρ many c prs lap b) (h:MemL μ im inw s2 c cV cs a kept) (mid:Mid c s s2 b) (ht:s.tr.length≤100000):LapB W n im inw s c cV cs a kept many prs lap ρ μ:=by
  rw [hE.eq]
  cases b with
  | false=>exact ⟨_,μ,s2,false,fun k=>k_ite (q:=false) rfl (k_fn rfl k),⟨⟨⟨rfl,rfl,rfl,rfl,rfl,rfl,rfl⟩,rfl,rfl,rfl⟩,rfl,rfl⟩,h,mid.ext.le (by decide),mid.mks,mid.fst,fun h=>nomatch h⟩
  | true=>
    have Y:=mid.yes rfl
    obtain ⟨b3,μ3,s₁,s3,ext2,e1,e2,e3,o,tl,htr⟩:=law_run_ (n:=n) hs.set hL hW ⟨h.st,h.rule,Y.inv,Y.len⟩ h.row (Nat.lt_of_le_of_lt Y.tr (by lia)) h.len hp
    exact ⟨_,μ3,s3,b3,fun k=>k_ite (q:=true) rfl (k_t rfl (k_one (e_call d__law_run e1 rfl) (k_ite (q:=false) (e_cmp rfl rfl rfl) (k_fn rfl (k_nil k))))),⟨⟨⟨rfl,rfl,rfl,rfl,rfl,rfl,rfl⟩,rfl,rfl,rfl⟩,rfl,rfl⟩,h.frmP e3 e2,mid_run hs mid o tl htr⟩
theorem lots_get {p:Dom×Dom} (h:μ[12]?=some (keptO kept)) (hl:kept.getLast?=some p):idxV μ (.obj 12) (.int (-1))=some (.lst [lstD p.1,lstD p.2]):=by
  rcases List.eq_nil_or_concat kept with e | ⟨k0,q,e⟩
  · rw [e] at hl;cases hl
  · rw [List.concat_eq_append] at e
    rw [e,List.getLast?_concat] at hl
    rw [← Option.some.inj hl]
    rw [e,keptO,List.map_append] at h
    exact get_neg h
theorem dom_eq (d:Doms t s) {y:Int}:t.dom y=s.dom y:=by
  unfold St.dom
  rw [d.d0,d.d1]
theorem SInv.doms (h:SInv c s) (d:Doms t s) (hf:∀ y,t.fst y=c.fst y) (h1:t.failed=false) (h2:nwOK t.nw):SInv c t:=
  ⟨fun _=>by rw [dom_eq d];exact h.wf _,fun _=>by rw [dom_eq d];exact h.ne _,hf,fun y v=>by rw [dom_eq d];exact h.sub y,h1,h2⟩
theorem undo_fst {y:Int}:∀ (r:List Ent) (s:St),(undo r s).fst y=s.fst y
  | [],_=>rfl
  | e::r,s=>undo_fst r (s.setDom e.y e.old)
inductive LapEnd (b:Bool) (many:Int) (c:Ctx) (prs:Dom) (cV:V) (cs:List Int) (a:Int) (lap:Nat) (r:Res):Prop
  | mk (fl:Fl) (ρ':Rho) (μ':M) (im' inw':Nat) (s':St) (a':Int) (kept':List (Dom×Dom)) (lap':Nat):r=some (fl,ρ',μ')→(fl=.next∧lap'=lap + 1∨fl=.brk)→EnvL ρ' many c prs→MemL μ' im' inw' s' c cV cs a' kept'→J c s' kept' lap'→lap'≤lap + 1→a'≤a→LapEnd b many c prs cV cs a lap r
theorem J.yes (j:J c s kept lap) (q:Aft c s s3 true):J c s3 (kept++[(s3.d0,s3.d1)]) (lap + 1):=by
  have Y:=q.yes rfl
  obtain ⟨ext,t1,_⟩:=q.ext
  refine ⟨Y.inv,Y.len,by have:=Y.tr;have:=j.tr;lia,by rw [t1.tr];exact j.trail.trans t1,.inr ?_,by rw [q.mks,List.length_append];exact Nat.succ_le_succ j.mkl,List.getLast?_concat,?_,by rw [List.length_append];exact Nat.succ_le_succ j.kl,fun _=>⟨Y.few,Y.row⟩,fun h=>nomatch h⟩
  · rw [q.mks]
    rcases j.mk0 with ⟨e1,e2⟩ | ⟨ms,e1⟩
    · rw [e1,e2];exact ⟨[],rfl⟩
    · rw [e1];exact ⟨_,rfl⟩
  · have:=j.first
    cases kept with
    | nil=>cases this
    | cons p r=>exact this
theorem J.no (j:J c s kept lap) {lap':Nat} (hl:lap'=lap∧lap=0∨lap'=lap + 1∧0<lap) (d:Doms t s) (ht:t.tr=s.tr) (hm:t.mks=s.mks) (hf:∀ y,t.fst y=c.fst y) (h1:t.failed=false) (h2:nwOK t.nw):J c t kept lap':=
  ⟨j.inv.doms d hf h1 h2,fun y hy=>by rw [dom_eq d];exact j.len y hy,by rw [ht];have:=j.tr;lia,by rw [ht];exact j.trail.to ht d,by rw [hm,ht];exact j.mk0,by rw [hm];have:=j.mkl;lia,by rw [d.d0,d.d1];exact j.last,j.first,by have:=j.kl;lia,fun h0=>by
    obtain ⟨few,hr⟩:=j.few (by lia)
    exact ⟨⟨by rw [dom_eq d];exact few.x,by rw [dom_eq d];exact few.z⟩,hr⟩,fun h0=>by rw [hm,ht];exact j.zero (by lia)⟩
theorem lap_last (hs:Set30 c) (nf0:c.f0≠[]) (nf1:c.f1≠[]) (hW:10 ^ 35<W) (hE:EnvS ρ many c prs lap b) (h:MemL μ im inw s3 c cV cs a kept) (j:J c s kept lap) (hl5:lap≤5) (q:Aft c s s3 b):LapEnd b many c prs cV cs a lap (runK (callF tab W (n + 8)) 0 W "law" [b_law_3.drop 4] ρ μ):=by
  rw [hE.eq]
  have hE':EnvL (upd (upd (upd (upd (upd (upd (upd (upd (upd (upd (upd (upd ρ "rig" (.obj 1)) "desk" (.obj 3)) "many" (.int many)) "base" (.int big)) "x" (.int c.x)) "z" (.int c.z)) "row" (.obj 9)) "rule" (.obj 11)) "kept" (.obj 12)) "pairs" (lstD prs)) "lap" (.int lap)) "stands" (.bool b)) many c prs:=⟨⟨rfl,rfl,rfl,rfl,rfl,rfl,rfl⟩,rfl,rfl,rfl⟩
  cases b with
  | true=>
    have hz:(kept.map fun p=>V.lst [lstD p.1,lstD p.2]).length<sizeLim:=by rw [List.length_map];exact Nat.lt_of_le_of_lt j.kl (Nat.lt_of_le_of_lt (Nat.succ_le_succ hl5) (by decide))
    have hk:=h.keep (kept':=kept++[(s3.d0,s3.d1)])
    rw [keptO,List.map_append] at hk
    exact ⟨.next,_,_,im,inw,s3,a,_,lap + 1,k_ite (q:=true) rfl (k_t rfl (k_exp (e_append rfl h.kept (e_call d__law_lots (lots_ (n:=n + 6) h.st) rfl) (Nat.zero_le _) hz) rfl rfl)),.inl ⟨rfl,rfl⟩,hE',hk,j.yes q,Nat.le_refl _,Int.le_refl _⟩
  | false=>
    obtain ⟨ext,t1,t2⟩:=q.ext
    obtain ⟨im',inw',μ4,e1,e2,e3,_,_⟩:=pop_ (W:=W) (n:=n + 7) h.st h.len (ms:=s.mks) (ms':=[]) (m:=s.tr.length) (t:=s.tr) (r:=ext.reverse) q.mks (by rw [List.reverse_reverse];exact t1.tr) rfl (by rw [List.length_reverse];exact Nat.lt_of_le_of_lt t2 (Nat.lt_trans (by decide) hW)) (fun e he=>t1.vars e (List.mem_reverse.mp he)) (by rw [show s3.f0=c.f0 from q.fst 0];exact nf0) (by rw [show s3.f1=c.f1 from q.fst 1];exact nf1)
    have hM4:=h.frmP e3 e2
    have d4:Doms (((((undo ext.reverse s3).wT s.tr).wM s.mks).wN []).wF false []) s:=⟨t1.und.d0,t1.und.d1⟩
    have f4:∀ y,(((((undo ext.reverse s3).wT s.tr).wM s.mks).wN []).wF false []).fst y=c.fst y:=fun y=>(undo_fst ext.reverse s3).trans (q.fst y)
    have hJ:=fun {lap'} hl=>j.no (lap':=lap') hl d4 rfl rfl f4 rfl (.inl rfl)
    have hlots:=lots_ (W:=W) (n:=n + 6) (lo:=0) hM4.st
    have hfl:=hM4.st.a_failed
    have hlast:=j.last
    rw [← d4.d0,← d4.d1] at hlast
    have hg:=lots_get hM4.kept hlast
    have fin:∀ {r},runK (callF tab W (n + 8)) 0 W "law" [bif decide ((lap:Int)=0) then [.brk] else [],[],[]] (upd (upd (upd (upd (upd (upd (upd (upd (upd (upd (upd (upd ρ "rig" (.obj 1)) "desk" (.obj 3)) "many" (.int many)) "base" (.int big)) "x" (.int c.x)) "z" (.int c.z)) "row" (.obj 9)) "rule" (.obj 11)) "kept" (.obj 12)) "pairs" (lstD prs)) "lap" (.int lap)) "stands" (.bool false)) μ4=r→runK (callF tab W (n + 8)) 0 W "law" [b_law_3.drop 4] (upd (upd (upd (upd (upd (upd (upd (upd (upd (upd (upd (upd ρ "rig" (.obj 1)) "desk" (.obj 3)) "many" (.int many)) "base" (.int big)) "x" (.int c.x)) "z" (.int c.z)) "row" (.obj 9)) "rule" (.obj 11)) "kept" (.obj 12)) "pairs" (lstD prs)) "lap" (.int lap)) "stands" (.bool false)) μ=r:=fun k=>
      k_ite (q:=false) rfl (k_f rfl (k_exp (e_def rfl (h.st.find m_Store_pop rfl) e1 rfl) rfl (k_ite (q:=false) ((e_or2 (e_attr hfl rfl) (e_and2 (e_cmp rfl rfl rfl) (e_cmp (e_call d__law_lots hlots rfl) (e_idxF hg rfl rfl) (cm_ne eqLots)))).trans (congrArg (fun b=>some (V.bool b,μ4)) (by
        rw [decide_eq_true (rfl:[_,_]=_)]
        exact Bool.and_false _))) (k_fn rfl (k_ite (e_cmp rfl rfl (cm_eq eqI)) k)))))
    by_cases h0:lap=0
    · exact ⟨.brk,_,μ4,im',inw',_,a,kept,lap,fin (k_t (decide_eq_true (by rw [h0];rfl)) k_brk),.inr rfl,hE',hM4,hJ (.inl ⟨rfl,h0⟩),Nat.le_succ _,Int.le_refl _⟩
    · exact ⟨.next,_,μ4,im',inw',_,a,kept,lap + 1,fin (k_fn (decide_eq_false fun e=>h0 (Int.ofNat.inj e)) rfl),.inl ⟨rfl,rfl⟩,hE',hM4,hJ (.inr ⟨rfl,Nat.pos_of_ne_zero h0⟩),Nat.le_refl _,Int.le_refl _⟩
theorem lap_step (hs:Set30 c) (hL:c.x≠c.z→LimL c) (nf0:c.f0≠[]) (nf1:c.f1≠[]) (hW:10 ^ 35<W) (hlen:(c.row.length:Int)=many) (hp:∀ pr ∈ prs,isPair c pr) (hE:EnvL ρ many c prs) (h:MemL μ im inw s c cV cs a kept) (j:J c s kept lap) (hl5:lap≤5) (ha:a≤900000):∃ b,LapEnd b many c prs cV cs (a + 4) lap (forB (callF tab W (n + 8)) 0 W "law" (.one "lap") b_law_3 (.int lap) ρ μ):=by
  have hW3:3000<W:=Nat.lt_trans (by decide) hW
  obtain ⟨ρ1,μ1,a1,s2,b2,k1,E1,M1,mid,ha1⟩:=lap_first (W:=W) (n:=n) hs.ok hW3 hlen hE h j hl5 ha
  obtain ⟨ρ2,μ2,s3,b3,k2,E2,M2,aft⟩:=lap_run (n:=n) hs hL hW3 hp E1 M1 mid (by have:=j.tr;lia)
  obtain ⟨fl,ρ',μ',im',inw',s',a',kept',lap',r1,r2,r3,r4,r5,r6,r7⟩:=lap_last (n:=n) hs nf0 nf1 hW E2 M2 j hl5 aft
  exact ⟨b3,fl,ρ',μ',im',inw',s',a',kept',lap',forB_k rfl (k1 (k2 r1)),r2,r3,r4,r5,r6,Int.le_trans r7 ha1⟩
end
end Mine
namespace Mine
open PySem
section
variable {W n lo:Nat} {μ:M} {im inw lap:Nat} {cs:List Int} {cV:V} {a many x z:Int} {c:Ctx} {s:St} {kept:List (Dom×Dom)} {prs:Dom} {ρ:Rho} {di dl:Dom} {ws:List Int}
inductive LapsEnd (many:Int) (c:Ctx) (prs:Dom) (cV:V) (cs:List Int) (r:Res):Prop
  | mk (ρ':Rho) (μ':M) (im' inw':Nat) (s':St) (a':Int) (kept':List (Dom×Dom)) (lap':Nat):r=some (.next,ρ',μ')→EnvL ρ' many c prs→MemL μ' im' inw' s' c cV cs a' kept'→J c s' kept' lap'→lap'≤6→LapsEnd many c prs cV cs r
theorem f_brk {f:V→Rho→M→Res} {x:V} {xs:List V} {ρ₁:Rho} {μ₁:M} (h:f x ρ μ=some (.brk,ρ₁,μ₁)):forM f (x::xs) ρ μ=some (.next,ρ₁,μ₁):=bS h rfl
theorem laps_loop (hs:Set30 c) (hL:c.x≠c.z→LimL c) (nf0:c.f0≠[]) (nf1:c.f1≠[]) (hW:10 ^ 35<W) (hlen:(c.row.length:Int)=many) (hp:∀ pr ∈ prs,isPair c pr):∀ (k lap:Nat) (ρ:Rho) (μ:M) (im inw:Nat) (s:St) (a:Int) (kept:List (Dom×Dom)),EnvL ρ many c prs→MemL μ im inw s c cV cs a kept→J c s kept lap→lap + k≤5→a≤1000 + 4 * lap→
    LapsEnd many c prs cV cs (forM (forB (callF tab W (n + 8)) 0 W "law" (.one "lap") b_law_3) ((intsI lap k).map .int) ρ μ):=by
  intro k
  induction k with
  | zero=>exact fun lap ρ μ im inw s a kept hE h j hl ha=>⟨ρ,μ,im,inw,s,a,kept,lap,rfl,hE,h,j,by lia⟩
  | succ k ih=>
    intro lap ρ μ im inw s a kept hE h j hl ha
    obtain ⟨b,fl,ρ',μ',im',inw',s',a',kept',lap',p1,p2,p3,p4,p5,p6,p7⟩:=lap_step (n:=n) hs hL nf0 nf1 hW hlen hp hE h j (by lia) (by lia)
    rcases p2 with ⟨rfl,rfl⟩ | rfl
    · obtain ⟨ρ2,μ2,im2,inw2,s2,a2,kept2,lap2,q1,q⟩:=ih (lap + 1) ρ' μ' im' inw' s' a' kept' p3 p4 p5 (by lia) (by lia)
      exact ⟨ρ2,μ2,im2,inw2,s2,a2,kept2,lap2,f_next p1 q1,q,by assumption,by assumption,by assumption⟩
    · exact ⟨ρ',μ',im',inw',s',a',kept',lap',f_brk p1,p3,p4,p5,by lia⟩
inductive PopAll (W n:Nat) (c:Ctx) (cV:V) (cs:List Int) (a:Int) (kept:List (Dom×Dom)) (s:St) (μ:M):Prop
  | mk (im' inw':Nat) (μ4:M) (s4:St):callF tab W (n + 8) "Store.pop" false 0 [.obj 3,.int s.mks.length] μ=some (.none,μ4)→MemL μ4 im' inw' s4 c cV cs a kept→Doms s4 (st0 c)→s4.failed=false→PopAll W n c cV cs a kept s μ
theorem pop_all (hW:10 ^ 35<W) (h:MemL μ im inw s c cV cs a kept) (j:J c s kept lap) (hl:lap≤6) (nf0:c.f0≠[]) (nf1:c.f1≠[]):PopAll W n c cV cs a kept s μ:=by
  rcases j.mk0 with ⟨e1,e2⟩ | ⟨ms,e1⟩
  · have d:=j.trail.und
    rw [e2] at d
    exact ⟨im,inw,μ,s,by rw [e1];exact call_imp f_Store_pop rfl rfl (run_ret (k_ite (q:=true) rfl (k_t rfl (k_ret rfl)))),h,d,j.inv.nf⟩
  · obtain ⟨im',inw',μ4,x1,x2,x3,_,_⟩:=pop_ (W:=W) (n:=n + 7) h.st h.len (ms:=[]) (ms':=ms) (m:=0) (t:=[]) (r:=s.tr.reverse) (by rw [e1];rfl) (List.reverse_reverse _).symm rfl (by rw [List.length_reverse];exact Nat.lt_of_le_of_lt (Nat.le_trans j.tr (Nat.mul_le_mul_left 1000 hl)) (Nat.lt_trans (by decide) hW)) (fun e he=>j.trail.vars e (List.mem_reverse.mp he)) (by rw [show s.f0=c.f0 from j.inv.fst 0];exact nf0) (by rw [show s.f1=c.f1 from j.inv.fst 1];exact nf1)
    exact ⟨im',inw',μ4,_,by rw [e1];exact x1,h.frmP x3 x2,⟨j.trail.und.d0,j.trail.und.d1⟩,rfl⟩
theorem law_end (hW:10 ^ 35<W) (hE:EnvL ρ many c prs) (h:MemL μ im inw s c cV cs a kept) (j:J c s kept lap) (hl:lap≤6) (nf0:c.f0≠[]) (nf1:c.f1≠[]):∃ ρ' μ',runK (callF tab W (n + 8)) 0 W "law" [b_law.drop 13] ρ μ=some (.ret (.bool true),ρ',μ'):=by
  rw [hE.eq]
  obtain ⟨im',inw',μ4,s4,x1,hM4,d,hf⟩:=pop_all (W:=W) (n:=n) hW h j hl nf0 nf1
  have hfl:=hM4.st.a_failed
  rw [hf] at hfl
  have hlots:=lots_ (W:=W) (n:=n + 6) (lo:=0) hM4.st
  rw [d.d0,d.d1] at hlots
  have hk0:idxV μ4 (.obj 12) (.int 0)=some (.lst [lstD c.f0,lstD c.f1]):=by
    have hk:=hM4.kept
    have hfst:=j.first
    cases kept with
    | nil=>cases hfst
    | cons p r=>
      rw [Option.some.inj hfst] at hk
      exact bS (o:=seqV μ4 (.obj 12)) (listO hk) (bS (place0 (n:=(r.map fun p:Dom×Dom=>V.lst [lstD p.1,lstD p.2]).length)) rfl)
  exact ⟨_,μ4,k_exp (e_def2 rfl (h.st.find m_Store_pop rfl) (l_one (e_def rfl (h.st.find m_Store_depth rfl) (depth_ (n:=n + 7) h.st) rfl)) x1) rfl (k_ret (e_and (a_cons (e_cmp (e_call d__law_lots hlots rfl) (e_idxF hk0 rfl rfl) (cm_eq (eqLots.trans (congrArg some (decide_eq_true rfl))))) (if_t rfl (a_one (e_not (q:=false) (e_attr hfl rfl)))))))⟩
theorem if_P {P:Dom→Prop} {q:Bool} (h1:P di) (h2:P dl):P (bif q then di else dl):=by
  cases q with
  | true=>exact h1
  | false=>exact h2
theorem index_30 (h:LotOk (intsI 0 (many + 2).toNat) (0 - big,-2) (many + 1,big) di) (hm0:0≤many) (hm:many≤5):In30 di:=fun v hv=>by
  have h0:(7:Int)≤big:=by decide
  have h1:big≤10 ^ 30:=by decide
  have:0 - big≤v∧v≤big:=by
    rcases h.mem v hv with h | h | h
    · have:=ints_mem.mp h;lia
    · exact ⟨h.1,Int.le_trans h.2 (Int.le_trans (by decide) h0)⟩
    · exact ⟨Int.le_trans (show 0 - big≤-2 by decide) (by have:=h.1;lia),h.2⟩
  exact ⟨by lia,by lia⟩
theorem last_30 (h:LotOk lastS (0 - 10 ^ 30,-2) (big + 6,10 ^ 30) dl):In30 dl:=fun v hv=>by
  rcases h.mem v hv with h | h | h
  · have key:∀ v ∈ lastS,-(10 ^ 30)≤v∧v≤10 ^ 30:=by decide
    exact key v h
  · exact ⟨Int.le_trans (by decide) h.1,Int.le_trans h.2 (by decide)⟩
  · exact ⟨Int.le_trans (by decide) h.1,h.2⟩
theorem lim_of (hxz:XZ x z) (hne:x≠z) (h:LotOk lastS (0 - 10 ^ 30,-2) (big + 6,10 ^ 30) dl) (hr:∀ w ∈ ws,RowV w):LimL (ctxOf x z ws di dl):=by
  refine ⟨lastS,by decide,fun v hv hlo hhi=>?_⟩
  have hf:=hxz.fz (ws:=ws) (di:=di) (dl:=dl)
  rw [decide_eq_false hne] at hf
  rw [show (ctxOf x z ws di dl).fst (ctxOf x z ws di dl).z=dl from hf] at hv
  have h0:(7:Int)≤big:=by decide
  rcases h.mem v hv with h | h | h
  · exact h
  · obtain ⟨p,hp,hp2⟩:=hlo
    have h1:=hr _ (at_mem hp)
    have h2:v≤-2:=h.2
    unfold RowV at h1
    exact absurd hp2 (by lia)
  · obtain ⟨p,hp,hp2⟩:=hhi
    have h1:=hr _ (at_mem hp)
    have h2:big + 6≤v:=h.1
    unfold RowV at h1
    exact absurd hp2 (by lia)
theorem e_biI {cb:Calls} {μ₁:M} {f:Str} {raw:Bool} {es:List C} {vs:List V} {v:V} (h2:tab.defs f=none) (h3:tab.classes f=none) (h4:biV μ₁ f vs=some v) (h1:evs tab cb lo es ρ μ=some (vs,μ₁)):ev tab cb lo (.call f raw es) ρ μ=some (v,μ₁):=bS h1 (by unfold callV;rw [h2,h3];exact mS h4)
theorem law_true (ns:List Int):∃ (W:Nat) (μ':M),callF tab W 9 "law" false 0 [.lst (ns.map .int)] []=some (.bool true,μ'):=by
  refine ⟨10 ^ 36,?_⟩
  have hW:(10:Nat) ^ 35<10 ^ 36:=by decide
  generalize (10:Nat) ^ 36=W at hW
  obtain ⟨ρ1,b0,cV,cs,many,x,z,p1,p2,p3,p4,p5,hxz⟩:=phase1 (W:=W) (n:=0) (ns:=ns)
  obtain ⟨ρ2,ws,a,di,dl,q1,q2,q6,q7,q8,q9,Di,Dl⟩:=phase2 (W:=W) (n:=0) p4 p5 p2 p3
  obtain ⟨ρ3,prs,r1,r2,r7⟩:=phase3 (W:=W) (n:=0) (b0:=b0) (cV:=cV) (a:=a) q2 q7 p5 hxz Di.ne Dl.ne
  have hv:isVarI x∧isVarI z:=by cases hxz <;> exact ⟨by first | exact .inl rfl | exact .inr rfl,by first | exact .inl rfl | exact .inr rfl⟩
  have hc:(ctxOf x z ws di dl).Ok:=⟨hv.1,hv.2,show ws.length≤5 by lia,if_P Di.wf Dl.wf,if_P Di.wf Dl.wf⟩
  have i30:=index_30 Di p4 p5
  have l30:=last_30 Dl
  have hs:Set30 (ctxOf x z ws di dl):=⟨hc,if_P i30 l30,if_P i30 l30⟩
  have nf0:(ctxOf x z ws di dl).f0≠[]:=if_ne Di.ne Dl.ne
  have nf1:(ctxOf x z ws di dl).f1≠[]:=if_ne Di.ne Dl.ne
  have l31:di.length≤31:=Nat.le_trans Di.len (by rw [ints_len];lia)
  have m31:dl.length≤31:=Nat.le_trans Dl.len (by decide)
  have hL:(ctxOf x z ws di dl).x≠(ctxOf x z ws di dl).z→LimL (ctxOf x z ws di dl):=fun hne=>lim_of hxz hne Dl q6
  have hwf:∀ y,Wf ((ctxOf x z ws di dl).fst y):=hc.wf
  generalize hcc:ctxOf x z ws di dl=c at r1 r2 r7 hc hs nf0 nf1 hL hwf
  have hlen:(c.row.length:Int)=many:=by rw [← hcc];exact q7
  have hM:MemL (memK b0 cV a c) 7 8 (st0 c) c cV cs a [(c.f0,c.f1)]:=⟨memK_store,⟨rfl,rfl⟩,rfl,⟨rfl,p3.cells.to fun h=>h,q8⟩,rfl,Nat.le_refl 13⟩
  have hJ:J c (st0 c) [(c.f0,c.f1)] 0:=⟨⟨hwf,fun y=>by
      show (if y=0 then c.f0 else c.f1)≠[]
      split
      · exact nf0
      · exact nf1,fun _=>rfl,fun _ _ h=>h,rfl,.inl rfl⟩,fun y hy=>by
      show (if y=0 then c.f0 else c.f1).length≤31
      rw [← hcc]
      split
      · exact if_P (P:=fun d=>d.length≤31) l31 m31
      · exact if_P (P:=fun d=>d.length≤31) l31 m31,Nat.zero_le _,.refl rfl ⟨rfl,rfl⟩,.inl ⟨rfl,rfl⟩,Nat.zero_le _,rfl,rfl,Nat.le_refl _,fun h=>absurd h (Nat.lt_irrefl _),fun _=>⟨rfl,rfl⟩⟩
  obtain ⟨dr,d1,d2,d3⟩:=draw_ (W:=W) (n:=7) hM.rig (by lia) (many:=5) (by decide)
  obtain ⟨ρ4,μ4,im4,inw4,s4,a4,kept4,lap4,t1,t2,t3,t4,t5⟩:=laps_loop (W:=W) (n:=0) hs hL nf0 nf1 hW hlen r7 (1 + dr).toNat 0 ρ3 _ 7 8 (st0 c) (a + 1) [(c.f0,c.f1)] r2 hM.rig1 hJ (by lia) (by lia)
  obtain ⟨ρ5,μ5,u⟩:=law_end (n:=0) hW t2 t3 t4 t5 nf0 nf1
  have hrow:ws.map V.int=c.row.map V.int:=by rw [← hcc];rfl
  rw [hrow] at q1
  exact ⟨μ5,call_imp f_law rfl rfl (run_ret (p1 (q1 (r1 (k_for (e_biI d_range c_range (bi_range1 (b:=1 + dr) (Int.le_trans (by lia:1 + dr≤7) (by decide))) (l_one (e_binI rfl (e_call d__law_draw d3 (l_cons (e_var r2.e.rig) rfl)) rfl))) (rng_iter0 (by lia)) t1 u)))))⟩
end
end Mine
namespace Mine
open PySem PySem.W PySem.Calls PyProof.Rows
theorem nd_of {l:List Str} (h:nd l=true):l.Nodup:=by
  induction l with
  | nil=>exact .nil
  | cons x r ih=>
    have h:(!r.contains x && nd r)=true:=h
    rw [Bool.and_eq_true] at h
    refine List.nodup_cons.mpr ⟨fun hm=>?_,ih h.2⟩
    have h1:=h.1
    rw [List.contains_iff_mem.mpr hm] at h1;cases h1
noncomputable def obsFn (K:Frag) (a:Addr):Option (Option (List S)×List Str×Bool):=match K.lookup a with
  | some ⟨_,_,.func fd,_⟩=>(match fd.body with
    | .stmts body=>some (compBody fd.scope body,fd.params.args.map (·.arg),okFn K fd)
    | _=>none)
  | _=>none
theorem codeOk_of {K:Frag} {base:Heap} (X:K.In base) {q:Str} {v:Value} (h:codeOk K q v=true):base.CodeRec v q:=by
  unfold codeOk at h
  split at h
  · rename_i c
    split at h
    · rename_i oc od vs sl ho
      split at h
      · rename_i x t hx
        rw [beq_iff_eq] at h
        subst h
        exact ⟨c,_,vs,t,rfl,X _ _ ho,rfl,hx⟩
      · cases h
    · cases h
  · cases h
theorem fmap_congr {α β:Type} {f g:α→Option β} {l:List α} (h:∀ n ∈ l,f n=g n):l.filterMap f=l.filterMap g:=by
  induction l with
  | nil=>rfl
  | cons a l ih=>rw [List.filterMap_cons,List.filterMap_cons,h a (.head _),ih fun n hn=>h n (.tail _ hn)]
theorem zip_at {p:Str} {x:Value} {ps:List Str} {xs:List Value}:((p::ps).zip (x::xs)).lookup p=some x:=by rw [List.zip_cons_cons,List.lookup_cons,beq_self_eq_true]
theorem zip_lookup {ps:List Str} {xs:List Value} (h:ps.Nodup) (e:ps.length=xs.length):ps.filterMap (fun n=>((ps.zip xs).lookup n).map (n,·))=ps.zip xs∧∀ n ∈ ps,((ps.zip xs).lookup n).isSome=true:=by
  induction ps generalizing xs with
  | nil=>exact ⟨rfl,fun _ h=>nomatch h⟩
  | cons p ps ih=>
    cases xs with
    | nil=>cases e
    | cons x xs=>
      obtain ⟨h1,h2⟩:=List.nodup_cons.mp h
      obtain ⟨i1,i2⟩:=ih h2 (Nat.succ.inj e)
      have key:∀ n ∈ ps,(((p::ps).zip (x::xs)).lookup n)=((ps.zip xs).lookup n):=fun n hn=>by
        rw [List.zip_cons_cons,List.lookup_cons,beq_eq_false_iff_ne.mpr fun e:n=p=>h1 (e ▸ hn)]
      constructor
      · rw [List.filterMap_cons,zip_at]
        exact congrArg _ ((fmap_congr fun n hn=>congrArg (Option.map fun x=>(n,x)) (key n hn)).trans i1)
      · intro n hn
        rcases List.mem_cons.mp hn with rfl | hn
        · rw [zip_at];rfl
        · rw [key n hn];exact i2 n hn
theorem bind_plain {fd:FuncData} {xs:List Value} (h1:fd.params.posonlyargs=[]) (h2:fd.params.kwonlyargs=[]) (h3:fd.params.vararg=none) (h4:fd.params.kwarg=none) (h5:fd.defaults=.none) (hn:(fd.params.args.map (·.arg)).Nodup) (hl:xs.length=(fd.params.args.map (·.arg)).length) :
    bindArgs fd ⟨xs,[]⟩=pure ((fd.params.args.map (·.arg)).zip xs):=by
  obtain ⟨i1,i2⟩:=zip_lookup hn hl.symm
  obtain ⟨name,qn,⟨po,args,va,ko,kd,ka,df⟩,body,sc,gl,clo,dv,kv,doc,pm,ann,cd,ct,bi⟩:=fd
  dsimp only at *
  subst h1 h2 h3 h4 h5
  unfold bindArgs
  generalize hps:args.map (·.arg)=ps at *
  have hmiss:(ps.filter fun n=>((ps.zip xs).lookup n).isNone)=[]:=by
    rw [List.filter_eq_nil_iff]
    intro n hn'
    have:=i2 n hn'
    cases hz:(ps.zip xs).lookup n with
    | none=>rw [hz] at this;cases this
    | some _=>simp
  have hs:seqItems? Value.none=pure none:=rfl
  have pb:∀ {α β:Type} (a:α) (f:α→Sem β),(pure a >>= f)=f a:=fun _ _=>rfl
  dsimp only
  simp only [List.map_nil,List.nil_append,List.append_nil,List.forIn_nil,hps,hs,pb,hl,Nat.lt_irrefl,gt_iff_lt,decide_false,Bool.false_and,Bool.false_eq_true,if_false,Option.getD_none,List.drop_nil,List.length_nil,Nat.sub_zero,List.take_length,hmiss,List.isEmpty_nil,Bool.not_true,List.drop_length,List.zip_nil_right,List.zip_nil_left,i1]
theorem fnAt_of {prog:Program} {K:Frag} {base:Heap} (X:K.In base) {a:Addr} {fn:Fn} (ha:a=fn.adr) (h:obsFn K a=some (some fn.body,fn.params,true)):∃ fd body o,K.lookup a=some o∧o.data=.func fd∧FnAt prog K base fn a fd body o:=by
  unfold obsFn at h
  split at h
  · rename_i oc od fd sl ho
    split at h
    · rename_i body hb
      simp only [Option.some.injEq,Prod.mk.injEq] at h
      obtain ⟨h1,h2,h3⟩:=h
      unfold okFn at h3
      simp only [Bool.and_eq_true,List.isEmpty_iff,Option.isNone_iff_eq_none,beq_iff_eq,decide_eq_true_eq,Bool.not_eq_true',List.all_eq_true] at h3
      obtain ⟨⟨⟨⟨⟨⟨⟨⟨⟨⟨⟨⟨⟨⟨⟨g1,g2⟩,g3⟩,g4⟩,g5⟩,g6⟩,g7⟩,g8⟩,g9⟩,g10⟩,g11⟩,g12⟩,g13⟩,g14⟩,g15⟩,g16⟩:=h3
      have g5':fd.defaults=.none:=by
        split at g5
        · assumption
        · cases g5
      refine ⟨fd,body,_,ho,rfl,X _ _ ho,ha,rfl,hb,h1,fun xs hl=>?_,g7,g8,g9,g10,g11,nd_of g12,g13,g14,fun x hx=>g15 x (by rw [h2];exact hx),codeOk_of X g16⟩
      rw [← h2] at hl ⊢
      exact bind_plain g1 g2 g3 g4 g5' (nd_of g6) hl
    · cases h
  · cases h
structure GoodK (K:Frag):Prop where
  fns:fnTab.map (fun p=>obsFn K p.2.adr)=fnTab.map fun p=>some (some p.2.body,p.2.params,true)
  chk:chkK K=true
theorem lookup_pair {β:Type} {x:Str} {v:β}:∀ {l:List (Str×β)},l.lookup x=some v→(x,v) ∈ l
  | [],h=>by cases h
  | (y,u)::r,h=>by
    rw [List.lookup_cons] at h
    cases e:x == y with
    | true=>rw [e] at h;cases h;rw [beq_iff_eq.mp e];exact .head _
    | false=>rw [e] at h;exact .tail _ (lookup_pair h)
theorem GoodK.fn {K:Frag} (G:GoodK K) {prog:Program} {base:Heap} (X:K.In base) {q:Str} {fn:Fn} (h:tab.fns q=some fn):∃ fd body o,K.lookup fn.adr=some o∧o.data=.func fd∧FnAt prog K base fn fn.adr fd body o:=
  fnAt_of X rfl (List.map_inj_left.mp G.fns (q,fn) (lookup_pair h))
theorem adrOf_fn {q:Str} {fn:Fn} (h:tab.fns q=some fn):adrOf q=fn.adr:=by
  show (match fnTab.lookup q with | some fn=>fn.adr | none=>0)=_
  rw [show fnTab.lookup q=some fn from h]
theorem clsOf_cases {c:Str} {C:Addr} (h:clsOf c=some C):(c = "Store" ∧ C=297)∨(c = "ElementOf" ∧ C=426):=by
  unfold clsOf at h
  split at h
  · cases h;exact .inl ⟨by assumption,rfl⟩
  · split at h
    · cases h;exact .inr ⟨by assumption,rfl⟩
    · cases h
end Mine
namespace Mine
open PySem PySem.W PySem.Calls PyProof.Rows
theorem all_mem {α:Type} {l:List α} {p:α→Bool} (h:l.all p=true) {x:α} (hx:x ∈ l):p x=true:=List.all_eq_true.mp h x hx
theorem tab_defs {x q:Str} (h:tab.defs x=some q):(x = "size_domains" ∧ q = "size")∨(x = "has_domains" ∧ q = "has")∨(q=x∧∃ fn,topTab.lookup x=some fn):=by
  have h':(if x = "size_domains" then some (Str.ofString "size") else if x = "has_domains" then some (Str.ofString "has") else if (topTab.lookup x).isSome then some x else none)=some q:=h
  split at h'
  · cases h';exact .inl ⟨by assumption,rfl⟩
  · split at h'
    · cases h';exact .inr (.inl ⟨by assumption,rfl⟩)
    · split at h'
      · rename_i hs
        cases h'
        exact .inr (.inr ⟨rfl,Option.isSome_iff_exists.mp hs⟩)
      · cases h'
theorem top_fns {x:Str} {fn:Fn} (h:topTab.lookup x=some fn):tab.fns x=some fn:=by
  show (topTab++ownTab).lookup x=some fn
  rw [List.lookup_append,h];rfl
theorem tab_meths {c m q:Str} (h:tab.meths c m=some q):(c,m,q) ∈ methTab:=by
  have h':(methTab.find? fun p=>p.1 == c && p.2.1 == m).map (·.2.2)=some q:=h
  obtain ⟨⟨c',m',q'⟩,h1,rfl⟩:=Option.map_eq_some_iff.mp h'
  have h2:=List.find?_some h1
  simp only [Bool.and_eq_true,beq_iff_eq] at h2
  obtain ⟨rfl,rfl⟩:=h2
  exact List.mem_of_find?_eq_some h1
theorem meth_fns:(methTab.all fun p=>(fnTab.lookup p.2.2).isSome)=true:=by kernel_rfl
theorem cx_of {w:World} {base:Heap} {K:Frag} (X:K.In base) (G:GoodK K) (hns:∃ mg mb,base.Ns mainGlobals mg∧base.Ns builtinsNs mb∧∀ x:Str,x ≠ "__name__" → mb x=bootBuiltins x) (hl:base.NoLimit):Cx pg w clsOf base K tab:=by
  have hc:=G.chk
  unfold chkK at hc
  simp only [Bool.and_eq_true] at hc
  obtain ⟨⟨⟨⟨⟨⟨⟨⟨⟨⟨⟨⟨c1,c2⟩,c3⟩,c4⟩,c5⟩,c6⟩,c7⟩,c8⟩,c9⟩,c10⟩,c11⟩,c12⟩,c13⟩:=hc
  have hd:∀ {x:Str} {a:Addr},defAt K x a=true→nsIn K mainGlobals x=some (some (.ref a))∧keepIn K (.ref a)=true:=fun h=>by
    unfold defAt at h
    simp only [Bool.and_eq_true,beq_iff_eq] at h
    exact h
  have one:∀ {x q:Str} {fn:Fn},tab.fns q=some fn→defAt K x (adrOf q)=true→∃ fn a fd body o,tab.fns q=some fn∧nsIn K mainGlobals x=some (some (.ref a))∧keepIn K (.ref a)=true∧FnAt pg K base fn a fd body o:=fun hf h=>by
    obtain ⟨fd,body,o,_,_,F⟩:=G.fn (prog:=pg) X hf
    rw [adrOf_fn hf] at h
    exact ⟨_,_,fd,body,o,hf,(hd h).1,(hd h).2,F⟩
  have hcls:∀ {c:Str} {C:Addr},clsOf c=some C→clsAt K c C=true:=fun h=>by
    rcases clsOf_cases h with ⟨rfl,rfl⟩ | ⟨rfl,rfl⟩
    · exact c4
    · exact c5
  refine ⟨X,hns,hl,?_,fun c C h=>?_,fun c C x h hx=>?_,fun x q h=>?_,fun x c h=>?_,fun x hx _ _=>?_,fun x v h=>?_,fun c C m q h hC=>?_⟩
  · obtain ⟨o,ho⟩:=Option.isSome_iff_exists.mp c13
    exact ⟨o,X _ _ ho⟩
  · have:=hcls h
    unfold clsAt at this
    simp only [Bool.and_eq_true,beq_iff_eq] at this
    obtain ⟨⟨⟨⟨⟨⟨⟨⟨⟨g1,g2⟩,g3⟩,g4⟩,g5⟩,g6⟩,g7⟩,g8⟩,g9⟩,g10⟩:=this
    exact ⟨⟨g4,g5,g6,g7⟩,g8,g9⟩
  · have:=hcls h
    unfold clsAt at this
    simp only [Bool.and_eq_true,beq_iff_eq] at this
    exact all_mem this.2 (of_decide_eq_true hx)
  · rcases tab_defs h with ⟨rfl,rfl⟩ | ⟨rfl,rfl⟩ | ⟨rfl,fn,hf⟩
    · exact one f_size c2
    · exact one f_has c3
    · have:=all_mem c1 (lookup_pair hf)
      exact one (top_fns hf) (by rw [adrOf_fn (top_fns hf)];exact this)
  · have h':(if x = "Store" then some x else if x = "ElementOf" then some x else none)=some c:=h
    have key:∃ C,clsOf x=some C∧c=x:=by
      unfold clsOf
      split at h'
      · rename_i e;cases h';exact ⟨297,if_pos e,rfl⟩
      · rename_i e
        split at h'
        · rename_i e';cases h';exact ⟨426,by rw [if_neg e,if_pos e'],rfl⟩
        · cases h'
    obtain ⟨C,hC,rfl⟩:=key
    have:=hcls hC
    unfold clsAt at this
    simp only [Bool.and_eq_true,beq_iff_eq] at this
    obtain ⟨⟨⟨⟨⟨⟨⟨⟨⟨g1,g2⟩,g3⟩,g4⟩,g5⟩,g6⟩,g7⟩,g8⟩,g9⟩,g10⟩:=this
    exact ⟨C,hC,g1,g2,g3⟩
  · exact beq_iff_eq.mp (all_mem c6 hx)
  · have h':(if x = "MOST_LISTED" then some (V.int 1000000) else none)=some v:=h
    split at h'
    · rename_i e
      cases h'
      subst e
      unfold constAt at c7
      split at c7
      · rename_i i t hi
        rw [beq_iff_eq] at c7
        subst c7
        exact ⟨_,t,rfl,hi⟩
      · cases c7
    · cases h'
  · have hm:=tab_meths h
    have h1:=all_mem c8 hm
    dsimp only at h1
    rw [hC] at h1
    unfold methAt at h1
    simp only [Bool.and_eq_true,beq_iff_eq] at h1
    obtain ⟨⟨g1,g2⟩,g3⟩:=h1
    obtain ⟨fn,hf⟩:=Option.isSome_iff_exists.mp (all_mem meth_fns hm)
    obtain ⟨fd,body,o,_,_,F⟩:=G.fn (prog:=pg) X hf
    rw [adrOf_fn hf] at g1 g2 g3
    exact ⟨fn,_,fd,body,o,hf,g1,g2,g3,F⟩
theorem sup_fn:tab.fns "ElementOf.__init__" = some (Fn.mk ["self", "index", "numbers", "z"] b_ElementOf__init_ false 383):=f_ElementOf__init_
theorem supcx_of {base:Heap} {K:Frag} (X:K.In base) (G:GoodK K):SupCx pg base K clsOf tab:=by
  have hc:=G.chk
  unfold chkK at hc
  simp only [Bool.and_eq_true] at hc
  obtain ⟨⟨⟨⟨⟨⟨⟨⟨⟨⟨⟨⟨c1,c2⟩,c3⟩,c4⟩,c5⟩,c6⟩,c7⟩,c8⟩,c9⟩,c10⟩,c11⟩,c12⟩,c13⟩:=hc
  refine ⟨by kernel_rfl,beq_iff_eq.mp c9,beq_iff_eq.mp c10,by kernel_rfl,fun q q' fn h hf=>?_⟩
  have h':(if q = "ElementOf.__init__" then some (Str.ofString "Propagator.__init__") else none)=some q':=h
  split at h'
  case isFalse=>cases h'
  rename_i e
  cases h'
  subst e
  have hfn:=Option.some.inj (hf.symm.trans sup_fn)
  subst hfn
  unfold supAt at c11
  unfold supCls at c12
  simp only [Bool.and_eq_true,beq_iff_eq] at c12
  obtain ⟨⟨⟨⟨d1,d2⟩,d3⟩,d4⟩,d5⟩:=c12
  split at d1
  case h_2=>cases d1
  rename_i oc0 od0 sl0 hcell
  cases hcd:clsIn K 426 with
  | none=>rw [hcd] at d3;cases d3
  | some cd=>
  rw [hcd] at d3
  dsimp only at d3
  rw [beq_iff_eq] at d3
  split at c11
  case h_2=>cases c11
  rename_i oc od fd sl ho
  split at c11
  case h_2=>cases c11
  rename_i x c ar hclo hcode hhead
  simp only [Bool.and_eq_true,beq_iff_eq] at c11
  obtain ⟨⟨⟨e1,e2⟩,e3⟩,e4⟩:=c11
  split at e4
  case h_2=>cases e4
  rename_i oc2 od2 vs sl2 ho2
  split at e4
  case h_2=>cases e4
  rename_i file tf hfile
  subst e1
  refine ⟨fd,426,371,c,_,_,cd,ar,vs,file,tf,X _ _ ho,rfl,hclo,hcode,hhead,e2,X _ _ ho2,rfl,hfile,e4,⟨_,X _ _ hcell,rfl⟩,hcd,e3,fun cc C hm hC=>?_⟩
  rcases clsOf_cases hC with ⟨rfl,rfl⟩ | ⟨rfl,rfl⟩
  · have:tab.meths "Store" "__init__" = some (Str.ofString "Store.__init__"):=m_Store__init_
    rw [this] at hm
    exact absurd (Option.some.inj hm) (by decide)
  · obtain ⟨fd2,body2,o2,_,_,F⟩:=G.fn (prog:=pg) X f_Propagator__init_
    exact ⟨cd,_,_,fd2,body2,o2,hcd,d2,d3,d4,d5,f_Propagator__init_,F⟩
end Mine
namespace Mine
open PySem PySem.W PySem.Calls PyProof.Rows
theorem fmap_lookup {h:Heap} {a:Addr} {o:Obj}:∀ {l:List Addr},(l.filterMap fun a=>(h.get? a).map fun o=>(a,o)).lookup a=some o→h.get? a=some o
  | [],e=>by cases e
  | b::l,e=>by
    rw [List.filterMap_cons] at e
    cases hb:h.get? b with
    | none=>rw [hb] at e;exact fmap_lookup e
    | some o'=>
      rw [hb] at e
      dsimp only [Option.map] at e
      rw [List.lookup_cons] at e
      cases hab:a == b with
      | true=>rw [hab] at e;cases e;rw [beq_iff_eq.mp hab];exact hb
      | false=>rw [hab] at e;exact fmap_lookup e
theorem kof_in (h:Heap):(Kof h).In h:=fun _ _ e=>fmap_lookup e
theorem obsD_fn (K:Frag) (a:Addr):obsFn K a=(obsD K a).map fun d=>(compBody d.1.1 d.1.2,d.2):=by
  unfold obsFn obsD
  rcases K.lookup a with _ | ⟨oc,od,data,sl⟩
  · rfl
  · cases data with
    | func fd=>dsimp only;cases fd.body <;> rfl
    | _=>rfl
theorem good_of {s:Shared} (e:obsK s=valK):GoodK (Kof s.heap):=by
  have h0:(fnTab.map fun p=>obsD (Kof s.heap) p.2.adr)=fnTab.map fun p=>(rawOf p.1).map fun d=>(d,p.2.params,true):=congrArg Prod.fst e
  refine ⟨List.map_inj_left.mpr fun p hp=>?_,congrArg Prod.snd e⟩
  have h1:=List.map_inj_left.mp h0 p hp
  have h2:=List.map_inj_left.mp comps p hp
  rw [obsD_fn,h1]
  cases hr:rawOf p.1 with
  | none=>rw [hr] at h2;cases h2
  | some d=>
    rw [hr] at h2
    exact congrArg (fun x=>some (x,p.2.params,true)) (Option.some.inj h2)
noncomputable def hook:Hook where
  α:=(List (Option ((Scope×List Stmt)×List Str×Bool))×Bool)
  obs:=obsK
  val:=fun _=>valK
  says:=fun _ h=>∃ K:Frag,K.In h∧GoodK K
  of:=fun _ s e=>⟨Kof s.heap,kof_in s.heap,good_of e⟩
  keeps:=fun _ _ _ ⟨K,a,b⟩ hk=>⟨K,fun x o e=>hk x o (a x o e),b⟩
theorem topFrom_of {tb:String→Option Builtin} {p:Program} {w:World} {N:Nat} {s₀ s₁:Shared} {n₀:Nat} {ann:Option Value} (z:((s₀.heap.isNs mainGlobals && s₀.gens.size == 0),s₀.heap.objs.size,s₀.heap.nsMap mainGlobals "__annotations__")=(true,n₀,ann)) (hr:topRun tb p w n₀ ann N s₀ (topStub p)=some s₁)
    (hk:(staticsOk (importedModules p.main.body) s₀.heap s₁.heap && namesBound p s₁.heap && gensDone s₁ && laidKept s₀.heap s₁.heap)=true):topFrom tb p w N s₀=some s₁:=by
  have z1:=congrArg (·.1) z
  have z2:=congrArg (·.2.1) z
  have z3:=congrArg (·.2.2) z
  dsimp only at z1 z2 z3
  unfold topFrom
  rw [z1,z2,z3]
  dsimp only
  rw [hr,Option.bind_some,hk]
structure Leaves (p q:Program) (loose:List Str) (xt:Shared→Bool) {β:Type} (Yf:Shared→β) (y:β) (w:World) (N:Nat) (os:OsState) (s:Shared):Prop where
  top:topFrom treeTable p w N ⟨boot_heap w.params,#[],boot_drawn,boot_toks,os⟩=some s
  seen:openSeen q loose (importedModules p.main.body) xt true s=openGood q loose
  yf:Yf s=y
theorem left_of {p q:Program} {loose:List Str} {xt:Shared→Bool} {β:Type} {Yf:Shared→β} {Ya:World→β} {N:Nat} (hb:∀ w,(fencedOpening treeTable p w N).map (fun s=>(s.heap,s.gens,s.drawn,s.toks))=some (boot_heap w.params,Array.mk [],boot_drawn,boot_toks)) (h:∀ w os,∃ s,Leaves p q loose xt Yf (Ya w) w N os s):LeftO p q loose xt Yf Ya N:=fun w=>by
  obtain ⟨⟨h0,gs,d,k,os⟩,e,e'⟩:=Option.map_eq_some_iff.mp (hb w)
  simp only [Prod.mk.injEq] at e'
  obtain ⟨rfl,rfl,rfl,rfl⟩:=e'
  obtain ⟨s,h1,h2,h3⟩:=h w os
  unfold openEnds
  rw [e]
  show (topFrom treeTable p w N _).map _=_
  rw [h1]
  exact congrArg some (Prod.ext h2 h3)
inductive Ran {A B C D:Type} (g1:Flow→A) (g2:SharedT→B) (g3:SharedT→C) (g4:SharedT→D) (x:Option (Flow×SharedT×Code×Pos)) (a:A) (k:Code) (b:B) (c:C) (d:D):Prop
  | mk (f:Flow) (s:SharedT) (q:Pos):x=some (f,s,k,q)→g1 f=a→g2 s=b→g3 s=c→g4 s=d→Ran g1 g2 g3 g4 x a k b c d
theorem ran_of {A B C D:Type} {g1:Flow→A} {g2:SharedT→B} {g3:SharedT→C} {g4:SharedT→D} {x:Option (Flow×SharedT×Code×Pos)} {a:A} {k:Code} {b:B} {c:C} {d:D} (h:x.map (fun r=>((g1 r.1,r.2.2.1),(g2 r.2.1,g3 r.2.1),g4 r.2.1))=some ((a,k),(b,c),d)):Ran g1 g2 g3 g4 x a k b c d:=by
  cases x with
  | none=>cases h
  | some r=>
    obtain ⟨f,s,k',q⟩:=r
    have h:=Option.some.inj h
    simp only [Prod.mk.injEq] at h
    obtain ⟨⟨h1,rfl⟩,⟨h2,h3⟩,h4⟩:=h
    exact ⟨f,s,q,rfl,h1,h2,h3,h4⟩
theorem left:LeftO pg qv loose xt obsK (fun _=>valK) 3218:=left_of (boot_open (N:=3218) open_start rfl no_fence) fun w os=>by
  obtain ⟨f,s,q,hr,v1,v3,v4,v5⟩:=ran_of (g1:=isNext) (g2:=fun s=>lk1 w s.abs) (g3:=fun s=>obsK s.abs) (g4:=fun s=>openSeen qv loose (importedModules pg.main.body) xt true s.abs) (congrFun (hbig w) os)
  cases f with
  | next=>
    have hst:topGo treeTable pg w 11 (some (.ref 6)) 12 ⟨boot_heap w.params,#[],boot_drawn,boot_toks,os⟩ (topStub pg)=_:=congrFun (top_start w) os
    have hblk:=segRun_of (blk_start w ⟨t15 w.params,15,{},#[],{},187,os⟩)
    have hseg:=segRun_of hr
    have e15:(⟨t15 w.params,15,{},#[],{},187,os⟩:SharedT).abs={ heap:=h15 w.params,toks:=187,os:=os }:=by
      show (⟨absHeap (t15 w.params) 15 {},#[],{},187,os⟩:Shared)=_
      rw [t15_h]
    rw [e15] at hblk hseg
    have:=piece_app (n:=3200) (N:=3) (rest:=[]) (r:=s.abs) hseg (piece_nil (top_end _ _ _ _))
    rw [List.append_nil] at this
    exact ⟨s.abs,topFrom_of (boot_size w) (go_top (n:=12) (N:=3206) hst (piece_block (n:=3) (N:=3203) hblk this)) v3,v5,v4⟩
  | _=>cases v1
end Mine
namespace Mine
open PySem PySem.W PySem.Calls PyProof.Rows
theorem reps_ints {w:World} {Z:Addr→Obj→Prop} {αs:List Addr} {vs:List Value} {ns:List Int} (h:IntsAre vs ns):Reps pg w Z αs vs (ns.map V.int):=by
  induction h with
  | nil=>exact .nil
  | cons n t _ ih=>exact .cons (.int n t) ih
theorem ints_leng {vs:List Value} {ns:List Int} (h:IntsAre vs ns):vs.length=ns.length:=by
  induction h with
  | nil=>rfl
  | cons n t _ ih=>rw [List.length_cons,List.length_cons,ih]
theorem walk_law {w:World} {s:Shared} {K:Frag} (X:Cx pg w clsOf s.heap K tab) (Y:SupCx pg s.heap K clsOf tab) {mg:Str→Option Value} (hg:s.heap.Ns mainGlobals mg) {fa l:Addr} (hmg:mg "law" = some (.ref fa)) {vs:List Value} {ns:List Int} (hL:s.heap.IsList l vs.toArray) (I:IntsAre vs ns) (len:ns.length≤63) :
    codeAny (model pg w) callerA (.call (.ref fa) ⟨[.ref l],[]⟩) (fun r s'=>r=.ok (.ret (.bool true))∧(∀ b o,s.heap.get? b=some o→s'.heap.get? b=some o)∧s'.os=s.os∧s'.gens=s.gens) s:=by
  obtain ⟨W,μ',h⟩:=law_true ns
  obtain ⟨fn,a,fd,body,o,h1,h2,_,F⟩:=X.defs "law" "law" d_law
  have e:=PySem.W.mg_of X.frag hg h2
  rw [hmg] at e
  cases e
  obtain ⟨ol,ho,hc,k,hd⟩:=hL
  refine calls_ok (W:=W) X Y (by kernel_rfl) (by kernel_rfl) 9 "law" false 0 _ _ _ _ h fn fa fd body o h1 F callerA ⟨rfl,by decide +kernel,by decide +kernel⟩ (fun b p=>b=l∧p=ol) [] s [.ref l] _ ⟨fun _ _ e=>e,fun b p hb=>?_,fun _ _ _ h=>(nomatch h),rfl,fun i a m e=>?_,.nil,fun _ h=>(nomatch h)⟩ (.cons (.lst ⟨rfl,rfl⟩ hc hd ?_ (reps_ints I)) .nil) fun x s' out=>?_
  · rw [hb.1,hb.2];exact ho
  · cases e
  · rw [ints_leng I];exact Nat.le_trans len (by decide +kernel)
  · obtain ⟨Z',αs',S,_,R⟩:=out
    cases R
    obtain ⟨h,tk,rfl⟩:=S.same
    exact ⟨rfl,fun b o=>S.keep b o (fun h=>nomatch h),rfl,rfl⟩
theorem final_:PySem.Challenge.rw_qd0017_01.Holds:=by
  w_on
  refine holds_law well fun said=>?_
  refine holds_open (q:=qv) (loose:=loose) (Xt:=xt) (XP:=XL qv []) (Yf:=hook.obs) (Ya:=hook.val) (YP:=hook.says) (N:=3218) left hook.of hook.keeps (fun s e=>xl_of s (Bool.and_eq_true_iff.mp e).1) XL.keeps (by rfl) (by rfl) (by rfl) (fun s e=>recFacts_of (Bool.and_eq_true_iff.mp e).2) (by rfl) (by first | assumption | decide +kernel) (by decide +kernel) ⟨rfl,rfl,rfl,rfl,rfl,by decide +kernel⟩ ?hw ?hc
  case hw=>w_witness2
  case hc=>
    intro w s₀ s₁ mg mb G Y fa o pm cd doc dV kV ho hd hcd hD hmg hg args vals as hpre hlay hrd hwl hlo
    obtain ⟨K,hK,GK⟩:=Y
    have X:=cx_of (w:=w) hK GK ⟨mg,mb,G.T.g,G.T.b,G.T.builtins⟩ G.T.nolimit
    have hns:=G.T.g
    clear G ho hd hcd hD
    wrow_args hpre hlay hrd hwl hlo
    refine enter_call (codeAny_mono (walk_law X (supcx_of hK GK) hns hmg (by assumption) (by assumption) ?_) ?_)
    · omega
    · rintro r s' ⟨rfl,h1,h2,h3⟩
      exact ⟨.inl ⟨.bool true,.bool true,[],rfl,fun _=>rfl,.bool true,by kernel_rfl,fun _=>⟨.nil,fun _ h=>nomatch h⟩⟩,.of_keep h1,h2,.of_eq (h3.trans hg)⟩
end Mine
theorem PySem.Challenge.cw_qd0017_01_holds : PySem.Challenge.rw_qd0017_01.Holds :=
  Mine.final_
