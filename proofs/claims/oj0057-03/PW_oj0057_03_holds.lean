import PyProof.Rows.All
import Wide.All
import OpenK.AllK
import Wide.FinOn
import PyProof.StrLawsRepr
import PyProof.FitsInt
import PySem.Challenge.RW_oj0057_03
section
open PySem PySem.W PyProof.Rows
set_option Elab.async false
set_option maxRecDepth 100000
set_option genSizeOf false
set_option genInjectivity false
set_option linter.unusedVariables false
namespace Mp
noncomputable section
inductive PV where
 | none
 | bool (b:Bool)
 | int (i:Int)
 | str (l:List Nat)
 | tup (l:List PV)
 | lst (l:List PV)
structure Exn where
 code:Int
 value:List Nat
 ec:List (List Nat)
noncomputable abbrev R (α:Type):=Option (Except Exn α)
noncomputable def strLine:Nat:=Classical.choose (⟨16777216,rfl⟩:∃ n:Nat,n=16777216)
theorem strLine_eq:strLine=16777216:=Classical.choose_spec (⟨16777216,rfl⟩:∃ n:Nat,n=16777216)
theorem sline {n:Nat} (h:n ≤ 16777216):n ≤ strLine:=by rw [strLine_eq]; exact h
noncomputable def b62:Nat:=Classical.choose (⟨2 ^ 62,rfl⟩:∃ n:Nat,n=2 ^ 62)
theorem b62_eq:b62=2 ^ 62:=Classical.choose_spec (⟨2 ^ 62,rfl⟩:∃ n:Nat,n=2 ^ 62)
mutual
noncomputable def PV.toPy:PV → PyData
 | .none=>.none
 | .bool b=>.bool b
 | .int i=>.int i
 | .str l=>.str ⟨l.toArray⟩
 | .tup l=>.tuple (PV.toPys l)
 | .lst l=>.list (PV.toPys l)
noncomputable def PV.toPys:List PV → List PyData
 | []=>[]
 | x::r=>PV.toPy x::PV.toPys r
end
section
variable {α:Type}
noncomputable def gO (c:Prop) [Decidable c] (x:α):Option α:=if c then some x else none
noncomputable def qInt (v:PV) (k:Int → Option α):Option α:=match v with
 | .int i=>k i
 | _=>none
noncomputable def qStr (v:PV) (k:List Nat → Option α):Option α:=match v with
 | .str i=>k i
 | _=>none
noncomputable def qLst (v:PV) (k:List PV → Option α):Option α:=match v with
 | .lst i=>k i
 | _=>none
end
mutual
noncomputable def PV.plain:PV → Nat → Bool
 | .str l,_=>l.all (· < 0x110000)
 | .tup l,n=>match n with
  | 0=>false
  | n + 1=>PV.plains l n
 | .lst l,n=>match n with
  | 0=>false
  | n + 1=>PV.plains l n
 | .none,_=>true
 | .bool _,_=>true
 | .int _,_=>true
noncomputable def PV.plains:List PV → Nat → Bool
 | [],_=>true
 | x::r,n=>PV.plain x n && PV.plains r n
end
noncomputable def peqG (a b:PV):Option Bool:=gO ((a.plain 8 && b.plain 8)=true) (PyData.eqv a.toPy b.toPy)
noncomputable def peq (a b:PV):Option Bool:=match a with
 | .str x=>match b with
  | .str y=>some (decide (x=y))
  | _=>peqG a b
 | .int x=>match b with
  | .int y=>some (decide (x=y))
  | _=>peqG a b
 | _=>peqG a b
noncomputable def isSub (a b:List Nat):Bool:=(List.range (b.length + 1)).any fun i=>(b.drop i).take a.length == a
noncomputable def textsOf:List PV → Option (List (List Nat))
 | []=>some []
 | x::r=>qStr x fun x=>(textsOf r).map (x::·)
noncomputable def pinS (x:List Nat):PV → Option Bool
 | .str y=>some (isSub x y)
 | .tup l=>(textsOf l).map fun ts=>decide (x ∈ ts)
 | .lst l=>(textsOf l).map fun ts=>decide (x ∈ ts)
 | _=>none
noncomputable def pin (a b:PV):Option Bool:=qStr a fun x=>pinS x b
inductive Bop where
 | add | sub | mul | fdiv | mod | pow | shl | shr | band
inductive Cop where
 | lt | le | gt | ge | eq | ne | isIn | notIn | is | isNot
noncomputable def intP (f:Int → Int → Option PV) (x y:PV):Option PV:=qInt x fun a=>qInt y fun b=>f a b
noncomputable def ordP (f:Int → Int → Bool) (x y:PV):Option Bool:=qInt x fun a=>qInt y fun b=>some (f a b)
noncomputable def addP (x y:PV):Option PV:=match x with
 | .int a=>qInt y fun b=>some (.int (a + b))
 | .str a=>qStr y fun b=>gO (a.length + b.length ≤ strLine) (.str (a ++ b))
 | .lst a=>qLst y fun b=>gO (a.length + b.length ≤ strLine) (.lst (a ++ b))
 | _=>none
noncomputable def mulS (l:List Nat) (b:Int):Option PV:=match l with
 | []=>none
 | c::r=>gO (r=[] ∧ 1 < b ∧ b ≤ 256) (.str (List.replicate b.toNat c))
noncomputable def mulL (l:List PV) (b:Int):Option PV:=match l with
 | []=>none
 | x::r=>gO (r.length=0 ∧ 0 ≤ b ∧ b ≤ 256) (.lst (List.replicate b.toNat x))
noncomputable def mulP (x y:PV):Option PV:=qInt y fun b=>match x with
 | .int a=>gO (a.natAbs < 2 ^ 64 ∨ b.natAbs < 2 ^ 64) (.int (a * b))
 | .str l=>mulS l b
 | .lst l=>mulL l b
 | _=>none
noncomputable def bop:Bop → PV → PV → Option PV
 | .add=>addP
 | .sub=>intP fun a b=>some (.int (a - b))
 | .mul=>mulP
 | .fdiv=>intP fun a b=>gO (b ≠ 0) (.int (a.fdiv b))
 | .mod=>intP fun a b=>gO (b ≠ 0) (.int (a.fmod b))
 | .pow=>intP fun a b=>gO ((2 ≤ a ∧ a ≤ 10) ∧ 0 ≤ b ∧ b ≤ 128) (.int (a ^ b.toNat))
 | .shl=>intP fun a b=>gO (a=1 ∧ 0 ≤ b ∧ b ≤ 128) (.int (2 ^ b.toNat))
 | .shr=>intP fun a b=>gO (0 ≤ b ∧ b ≤ 128) (.int (a.fdiv (2 ^ b.toNat)))
 | .band=>intP fun a b=>some (.int (Builtin.bitAnd a b))
noncomputable def leP (x y:PV):Option Bool:=match x with
 | .int a=>qInt y fun b=>some (decide (a ≤ b))
 | .str a=>qStr y fun b=>some (decide (a ≤ b))
 | _=>none
noncomputable def isNone:PV → Bool
 | .none=>true
 | _=>false
noncomputable def isP (x y:PV):Option Bool:=match y with
 | .none=>some (isNone x)
 | _=>none
noncomputable def cop:Cop → PV → PV → Option Bool
 | .lt=>ordP fun a b=>decide (a < b)
 | .le=>leP
 | .gt=>ordP fun a b=>decide (a > b)
 | .ge=>ordP fun a b=>decide (a ≥ b)
 | .eq=>peq
 | .ne=>fun a b=>(peq a b).map (!·)
 | .isIn=>pin
 | .notIn=>fun a b=>(pin a b).map (!·)
 | .is=>isP
 | .isNot=>fun a b=>(isP a b).map (!·)
noncomputable def clip (n:Nat) (i:Int):Nat:=(if i < 0 then max (i + n) 0 else min i n).toNat
noncomputable def pslice {α:Type} (l:List α) (lo hi:Option Int):List α :=
 (l.drop (lo.elim 0 (clip l.length))).take (hi.elim l.length (clip l.length) - lo.elim 0 (clip l.length))
noncomputable def at62 {α:Type} (l:List α) (i:Int):Option α:=if 0 ≤ i ∧ i < (b62:Int) then l[i.toNat]? else none
noncomputable def pidx (x y:PV):Option PV:=qInt y fun i=>match x with
 | .str l=>(at62 l i).map fun c=>.str [c]
 | .tup l=>at62 l i
 | .lst l=>if i=-1 then l.getLast? else at62 l i
 | _=>none
noncomputable def sliceP (a b:Option Int):PV → Option PV
 | .str l=>gO (l.length ≤ strLine) (.str (pslice l a b))
 | .lst l=>gO (l.length ≤ strLine) (.lst (pslice l a b))
 | _=>none
noncomputable def reprOf (x:PV):List Nat:=(PyData.shown x.toPy).cps.toList
noncomputable def digits (i:Int):List Nat:=(toString i).toList.map Char.toNat
inductive Bi where
 | len | ord | str | min | max | repr | isTuple | isList
noncomputable def strMin (a b:List Nat):List Nat:=if b < a then b else a
noncomputable def strMax (a b:List Nat):List Nat:=if a < b then b else a
noncomputable def oneP (f:PV → Option PV):List PV → Option PV
 | []=>none
 | v::r=>match r with
  | []=>f v
  | _::_=>none
noncomputable def twoP (f:PV → PV → Option PV):List PV → Option PV
 | []=>none
 | v::r=>oneP (f v) r
noncomputable def lenP:PV → Option PV
 | .str l=>gO (l.length ≤ strLine) (.int l.length)
 | .tup l=>gO (l.length ≤ strLine) (.int l.length)
 | .lst l=>gO (l.length ≤ strLine) (.int l.length)
 | _=>none
noncomputable def ordS:List Nat → Option PV
 | []=>none
 | c::r=>gO (r=[]) (.int c)
noncomputable def ordP1 (v:PV):Option PV:=qStr v ordS
noncomputable def strP (v:PV):Option PV:=qInt v fun i=>gO (i.natAbs < 2 ^ 1900) (.str (digits i))
noncomputable def minP (f:Int → Int → Int) (g:List Nat → List Nat → List Nat) (x y:PV):Option PV:=match x with
 | .int a=>qInt y fun b=>some (.int (f a b))
 | .str a=>qStr y fun b=>some (.str (g a b))
 | _=>none
noncomputable def reprP (x:PV):Option PV:=gO ((x.plain 8 && x.toPy.showable && decide ((reprOf x).length ≤ strLine))=true) (.str (reprOf x))
noncomputable def isTupP:PV → Option PV
 | .tup _=>some (.bool true)
 | .bool _=>none
 | _=>some (.bool false)
noncomputable def isLstP:PV → Option PV
 | .lst _=>some (.bool true)
 | .int _=>some (.bool false)
 | .tup _=>some (.bool false)
 | _=>none
noncomputable def biop:Bi → List PV → Option PV
 | .len=>oneP lenP
 | .ord=>oneP ordP1
 | .str=>oneP strP
 | .min=>twoP (minP (fun a b=>if b < a then b else a) strMin)
 | .max=>twoP (minP (fun a b=>if b > a then b else a) strMax)
 | .repr=>oneP reprP
 | .isTuple=>oneP isTupP
 | .isList=>oneP isLstP
inductive Me where
 | index | find
noncomputable def firstAt (c:Nat):List Nat → Option Nat
 | []=>none
 | x::r=>if x=c then some 0 else (firstAt c r).map (· + 1)
noncomputable def meC (m:Me) (l:List Nat) (c:Nat):Option PV:=match m with
 | .index=>(firstAt c l).map fun k=>.int k
 | .find=>some (.int ((firstAt c l).elim (-1) fun k=>k))
noncomputable def meS (m:Me) (l:List Nat):List Nat → Option PV
 | []=>none
 | c::r=>match r with
  | []=>meC m l c
  | _::_=>none
mutual
inductive CE where
 | cst (v:PV)
 | loc (i:Nat)
 | dget (i:Nat) (k d:CE)
 | penGet (i:Nat)
 | bin (op:Bop) (a b:CE)
 | neg (a:CE)
 | not (a:CE)
 | bool (all:Bool) (l:CEs)
 | cmp1 (op:Cop) (a b:CE)
 | cmp2 (o1 o2:Cop) (a b c:CE)
 | ite (c a b:CE)
 | call (f:Nat) (l:CEs)
 | callP (f:Nat) (l:CEs)
 | bi (b:Bi) (l:CEs)
 | meth (m:Me) (o a:CE)
 | idx (o i:CE)
 | slice (o:CE) (lo hi:CO)
 | seq (tup:Bool) (l:CEs)
 | comp (rng:Bool) (elt src:CE) (cond:CO)
 | litGet (l:List (List Nat × Int)) (k:CE) (d:Int)
inductive CO where
 | no
 | yes (e:CE)
inductive CEs where
 | nil
 | cons (e:CE) (r:CEs)
 | pen (i:Nat) (r:CEs)
 | dct (i:Nat) (r:CEs)
end
inductive SV where
 | unb
 | val (v:PV)
 | own (l:List PV)
 | od (l:List (Int × Int))
 | dval (l:List (Int × Int))
 | pen
noncomputable abbrev RR:=R (PV × Option Int)
noncomputable abbrev Fn:=Nat → List SV → Option Int → RR
noncomputable abbrev KE:=PV → Option Int → RR
noncomputable abbrev KS:=List SV → Option Int → RR
noncomputable abbrev XF:=Nat → List SV → Option Exn
noncomputable def look (l:List (Int × Int)) (k:Int):Option Int:=(l.find? fun p=>p.1=k).map (·.2)
noncomputable def put (l:List (Int × Int)) (k v:Int):List (Int × Int) :=
 if l.any (fun p=>p.1=k) then l.map (fun p=>if p.1=k then (p.1,v) else p) else l ++ [(k,v)]
noncomputable def litLook (l:List (List Nat × Int)) (k:List Nat) (d:Int):Int:=match l with
 | []=>d
 | p::r=>if p.1=k then p.2 else litLook r k d
noncomputable def asBool:PV → Option Bool
 | .bool b=>some b
 | _=>none
noncomputable def itemsOf:PV → Option (List PV)
 | .lst l=>some l
 | .tup l=>some l
 | .str l=>some (l.map fun c=>.str [c])
 | _=>none
noncomputable def scal:PV → Option PV
 | .none=>some .none
 | .bool b=>some (.bool b)
 | .int i=>some (.int i)
 | .str l=>some (.str l)
 | _=>none
noncomputable def opK {α:Type} (o:Option α) (k:α → RR):RR:=match o with
 | some x=>k x
 | none=>none
noncomputable def nth:List SV → Nat → Option SV
 | [],_=>none
 | x::r,i=>match i with
  | 0=>some x
  | i + 1=>nth r i
noncomputable def isV:SV → Option PV
 | .val v=>some v
 | _=>none
noncomputable def isO:SV → Option (List PV)
 | .own v=>some v
 | _=>none
noncomputable def isOd:SV → Option (List (Int × Int))
 | .od v=>some v
 | _=>none
noncomputable def isDv:SV → Option (List (Int × Int))
 | .dval v=>some v
 | _=>none
noncomputable def isDc:SV → Option (List (Int × Int))
 | .od v=>some v
 | .dval v=>some v
 | _=>none
noncomputable def isPn:SV → Option Unit
 | .pen=>some ()
 | _=>none
noncomputable def putK:List SV → Nat → SV → (List SV → RR) → RR
 | [],_,_,_=>none
 | x::r,i,v,k=>match i with
  | 0=>opK (isPn x |>.elim (some ()) fun _=>none) fun _=>k (v::r)
  | i + 1=>putK r i v fun r=>k (x::r)
noncomputable def manyK:List Nat → List PV → List SV → (List SV → RR) → RR
 | [],vs,env,k=>match vs with
  | []=>k env
  | _::_=>none
 | i::r,vs,env,k=>match vs with
  | []=>none
  | v::vs=>putK env i (.val v) fun env=>manyK r vs env k
noncomputable def froz:SV → Option SV
 | .own l=>some (.val (.lst l))
 | .od l=>some (.dval l)
 | _=>none
noncomputable def frzK:List SV → Nat → (List SV → RR) → RR
 | [],_,_=>none
 | x::r,i,k=>match i with
  | 0=>opK (froz x) fun v=>k (v::r)
  | i + 1=>frzK r i fun r=>k (x::r)
noncomputable def valsK:List SV → (List PV → RR) → RR
 | [],k=>k []
 | x::r,k=>opK (isV x) fun v=>valsK r fun vs=>k (v::vs)
noncomputable def bK (v:PV) (a b:RR):RR:=match v with
 | .bool x=>if x=true then a else b
 | _=>none
noncomputable def asInt:PV → Option Int
 | .int x=>some x
 | _=>none
noncomputable def asStr:PV → Option (List Nat)
 | .str x=>some x
 | _=>none
noncomputable def asLst:PV → Option (List PV)
 | .lst x=>some x
 | _=>none
noncomputable def asTup:PV → Option (List PV)
 | .tup x=>some x
 | _=>none
noncomputable def asNone:PV → Option Unit
 | .none=>some ()
 | _=>none
noncomputable def gK (c:Prop) [Decidable c] (k:RR):RR:=if c then k else none
noncomputable def callK (r:RR) (k:KE):RR:=match r with
 | some x=>match x with
  | .ok x=>k x.1 x.2
  | .error e=>some (.error e)
 | none=>none
noncomputable def haltK (o:Option Exn):RR:=match o with
 | some e=>some (.error e)
 | none=>none
noncomputable def endK:KE:=fun v p=>some (.ok (v,p))
noncomputable def noFn:Fn:=fun _ _ _=>none
noncomputable def rangePV (n:Int):List PV:=(List.range n.toNat).map fun i:Nat=>PV.int (i:Int)
noncomputable def srcK (rng:Bool) (v:PV) (k:List PV → RR):RR:=match rng with
 | true=>opK (asInt v) fun n=>gK (-strLine ≤ n ∧ n ≤ strLine) (k (rangePV n))
 | false=>opK (itemsOf v) fun xs=>gK (xs.length ≤ strLine) (k xs)
noncomputable def quiet (r:RR):Option PV:=r.bind fun x=>match x with
 | .ok x=>x.2.elim (some x.1) fun _=>none
 | .error _=>none
noncomputable def compK (cond:PV → Option Bool) (elt:PV → Option PV):List PV → (List PV → RR) → RR
 | [],k=>k []
 | x::r,k=>opK (cond x) fun b=>match b with
  | true=>opK (elt x) fun y=>compK cond elt r fun ys=>k (y::ys)
  | false=>compK cond elt r k
mutual
noncomputable def kE:CE → Fn → List SV → Option Int → KE → RR
 | .cst v,_,_,p,k=>k v p
 | .loc i,_,env,p,k=>opK (nth env i) fun x=>opK (isV x) fun v=>k v p
 | .dget i x d,Φ,env,p,k=>opK (nth env i) fun o=>opK (isDc o) fun l=>kE x Φ env p fun v p=>kE d Φ env p fun w p=>opK (asInt v) fun x=>opK (asInt w) fun y=>k (.int ((look l x).getD y)) p
 | .penGet i,_,env,p,k=>opK (nth env i) fun x=>opK (isPn x) fun _=>opK p fun n=>k (.int n) (some n)
 | .bin op a b,Φ,env,p,k=>kE a Φ env p fun v p=>kE b Φ env p fun w p=>opK (bop op v w) fun x=>k x p
 | .neg a,Φ,env,p,k=>kE a Φ env p fun v p=>opK (asInt v) fun x=>k (.int (-x)) p
 | .not a,Φ,env,p,k=>kE a Φ env p fun v p=>bK v (k (.bool false) p) (k (.bool true) p)
 | .bool all l,Φ,env,p,k=>kB l all Φ env p k
 | .cmp1 op a b,Φ,env,p,k=>kE a Φ env p fun v p=>kE b Φ env p fun w p=>opK (cop op v w) fun x=>k (.bool x) p
 | .cmp2 o1 o2 a b c,Φ,env,p,k=>kE a Φ env p fun v p=>kE b Φ env p fun w p=>opK (cop o1 v w) fun x =>
   bK (.bool x) (kE c Φ env p fun u p=>opK (cop o2 w u) fun y=>k (.bool y) p) (k (.bool false) p)
 | .ite c a b,Φ,env,p,k=>kE c Φ env p fun v p=>bK v (kE a Φ env p k) (kE b Φ env p k)
 | .call f l,Φ,env,p,k=>kEs l Φ env p fun vs p=>callK (Φ f vs none) fun v _=>k v p
 | .callP f l,Φ,env,p,k=>kEs l Φ env p fun vs p=>opK p fun n=>callK (Φ f vs (some n)) k
 | .bi b l,Φ,env,p,k=>kEs l Φ env p fun vs p=>valsK vs fun xs=>opK (biop b xs) fun v=>k v p
 | .meth m o a,Φ,env,p,k=>kE o Φ env p fun v p=>opK (asStr v) fun x=>kE a Φ env p fun w p=>opK (asStr w) fun y=>opK (meS m x y) fun z=>k z p
 | .idx o i,Φ,env,p,k=>kE o Φ env p fun v p=>kE i Φ env p fun w p=>opK (pidx v w) fun x=>k x p
 | .slice o lo hi,Φ,env,p,k=>kE o Φ env p fun v p=>kO lo Φ env p fun a p=>kO hi Φ env p fun b p=>opK (sliceP a b v) fun x=>k x p
 | .seq t l,Φ,env,p,k=>kEs l Φ env p fun vs p=>valsK vs fun xs=>gK (xs.length ≤ strLine) (k (match t with | true=>.tup xs | false=>.lst xs) p)
 | .comp rng elt src cond,Φ,env,p,k=>kE src Φ env p fun v p=>srcK rng v fun xs =>
   compK (fun x=>kC cond noFn [.val x]) (fun x=>match elt with
     | .loc 0=>some x
     | e=>(quiet (kE e noFn [.val x] none endK)).bind scal) xs fun ys=>k (.lst ys) p
 | .litGet l x d,Φ,env,p,k=>kE x Φ env p fun v p=>opK (asStr v) fun x=>k (.int (litLook l x d)) p
noncomputable def kC:CO → Fn → List SV → Option Bool
 | .no,_,_=>some true
 | .yes c,Φ,env=>(quiet (kE c Φ env none endK)).bind asBool
noncomputable def kO:CO → Fn → List SV → Option Int → (Option Int → Option Int → RR) → RR
 | .no,_,_,p,k=>k none p
 | .yes e,Φ,env,p,k=>kE e Φ env p fun v p=>opK (asInt v) fun x=>k (some x) p
noncomputable def kB:CEs → Bool → Fn → List SV → Option Int → KE → RR
 | .nil,all,_,_,p,k=>k (.bool all) p
 | .cons e r,all,Φ,env,p,k=>kE e Φ env p fun v p=>match all with
  | true=>bK v (kB r true Φ env p k) (k (.bool false) p)
  | false=>bK v (k (.bool true) p) (kB r false Φ env p k)
 | .pen _ _,_,_,_,_,_=>none
 | .dct _ _,_,_,_,_,_=>none
noncomputable def kEs:CEs → Fn → List SV → Option Int → (List SV → Option Int → RR) → RR
 | .nil,_,_,p,k=>k [] p
 | .cons e r,Φ,env,p,k=>kE e Φ env p fun v p=>kEs r Φ env p fun vs p=>k (.val v::vs) p
 | .pen i r,Φ,env,p,k=>opK (nth env i) fun x=>opK (isPn x) fun _=>kEs r Φ env p fun vs p=>k (.pen::vs) p
 | .dct i r,Φ,env,p,k=>opK (nth env i) fun x=>opK (isDv x) fun l=>kEs r Φ env p fun vs p=>k (.dval l::vs) p
end
inductive Tgt where
 | one (i:Nat)
 | many (l:List Nat)
mutual
inductive CS where
 | assign (i:Nat) (e:CE)
 | unpack (l:List Nat) (e:CE)
 | unpackLit (l:List Nat) (es:CEs)
 | aug (i:Nat) (e:CE)
 | ownNew (i:Nat) (e:CE)
 | compTo (own:Bool) (i:Nat) (rng:Bool) (elt src:CE) (cond:CO)
 | ownDict (i:Nat)
 | append (i:Nat) (e:CE)
 | setItem (i:Nat) (x e:CE)
 | dset (i:Nat) (k e:CE)
 | reverse (i:Nat)
 | penSet (i:Nat) (e:CE)
 | eff (e:CE)
 | ite (c:CE) (a b:CSs)
 | whil (c:CE) (b:CSs)
 | loop (t:Tgt) (rng:Bool) (src:CE) (b:CSs)
 | retn (e:CE)
 | brk
 | cont
 | raise (f:Nat) (l:CEs)
inductive CSs where
 | nil
 | cons (s:CS) (r:CSs)
 | frz (i:Nat) (r:CSs)
end
noncomputable abbrev KB:=List SV → Option Int → KS → KS → KS → RR
noncomputable def whileK (c:List SV → Option Int → KE → RR) (b:KB):Nat → KS → KS
 | 0,_=>fun _ _=>none
 | n + 1,k=>fun env p=>c env p fun v p=>bK v (b env p (whileK c b n k) k (whileK c b n k)) (k env p)
noncomputable def tgtK:Tgt → PV → List SV → (List SV → RR) → RR
 | .one i,v,env,k=>putK env i (.val v) k
 | .many l,v,env,k=>opK (asTup v) fun vs=>manyK l vs env k
noncomputable def forK (t:Tgt) (b:KB):List PV → KS → KS
 | [],k=>k
 | v::r,k=>fun env p=>tgtK t v env fun env=>b env p (forK t b r k) k (forK t b r k)
noncomputable def mkSV (own:Bool) (l:List PV):SV:=match own with
 | true=>.own l
 | false=>.val (.lst l)
section
variable (Φ:Fn) (X:XF) (N:Nat)
mutual
noncomputable def kS:CS → List SV → Option Int → KS → KS → KS → RR
 | .assign i e,env,p,n,_,_=>kE e Φ env p fun v p=>putK env i (.val v) fun env=>n env p
 | .unpack l e,env,p,n,_,_=>kE e Φ env p fun v p=>opK (asTup v) fun vs=>manyK l vs env fun env=>n env p
 | .unpackLit l es,env,p,n,_,_=>kEs es Φ env p fun vs p=>valsK vs fun vs=>manyK l vs env fun env=>n env p
 | .aug i e,env,p,n,_,_=>opK (nth env i) fun x=>opK (isV x) fun v=>kE e Φ env p fun w p=>opK (asInt v) fun a=>opK (asInt w) fun b=>putK env i (.val (.int (a + b))) fun env=>n env p
 | .ownNew i e,env,p,n,_,_=>kE e Φ env p fun v p=>opK (asLst v) fun l=>putK env i (.own l) fun env=>n env p
 | .compTo own i rng elt src cond,env,p,n,_,_=>kE (.comp rng elt src cond) Φ env p fun v p=>opK (asLst v) fun l=>putK env i (mkSV own l) fun env=>n env p
 | .ownDict i,env,p,n,_,_=>putK env i (.od []) fun env=>n env p
 | .append i e,env,p,n,_,_=>opK (nth env i) fun x=>opK (isO x) fun l=>kE e Φ env p fun v p=>gK (l.length ≤ strLine) (putK env i (.own (l ++ [v])) fun env=>n env p)
 | .setItem i x e,env,p,n,_,_=>kE e Φ env p fun v p=>opK (nth env i) fun o=>opK (isO o) fun l=>kE x Φ env p fun k p=>opK (asInt k) fun k=>gK (0 ≤ k ∧ k < l.length ∧ k < (b62:Int)) (putK env i (.own (l.set k.toNat v)) fun env=>n env p)
 | .dset i x e,env,p,n,_,_=>kE e Φ env p fun v p=>opK (asInt v) fun v=>opK (nth env i) fun o=>opK (isOd o) fun l=>kE x Φ env p fun k p=>opK (asInt k) fun k=>gK (l.length ≤ strLine) (putK env i (.od (put l k v)) fun env=>n env p)
 | .reverse i,env,p,n,_,_=>opK (nth env i) fun x=>opK (isO x) fun l=>gK (l.length ≤ strLine) (putK env i (.own l.reverse) fun env=>n env p)
 | .penSet i e,env,p,n,_,_=>kE e Φ env p fun v p=>opK (asInt v) fun v=>opK (nth env i) fun x=>opK (isPn x) fun _=>opK p fun _=>n env (some v)
 | .eff e,env,p,n,_,_=>kE e Φ env p fun v p=>opK (asNone v) fun _=>n env p
 | .ite c a b,env,p,n,kb,kc=>kE c Φ env p fun v p=>bK v (kSs a env p n kb kc) (kSs b env p n kb kc)
 | .whil c b,env,p,n,_,_=>whileK (kE c Φ) (kSs b) N n env p
 | .loop t rng src b,env,p,n,_,_=>kE src Φ env p fun v p=>srcK rng v fun xs=>forK t (kSs b) xs n env p
 | .retn e,env,p,_,_,_=>kE e Φ env p endK
 | .brk,env,p,_,kb,_=>kb env p
 | .cont,env,p,_,_,kc=>kc env p
 | .raise f l,env,p,_,_,_=>kEs l Φ env p fun vs _=>haltK (X f vs)
noncomputable def kSs:CSs → List SV → Option Int → KS → KS → KS → RR
 | .nil,env,p,n,_,_=>n env p
 | .cons c r,env,p,n,kb,kc=>kS c env p (fun env p=>kSs r env p n kb kc) kb kc
 | .frz i r,env,p,n,kb,kc=>frzK env i fun env=>kSs r env p n kb kc
end
noncomputable def dF (body:CSs) (env:List SV) (p:Option Int):RR:=kSs Φ X N body env p (fun _ p=>endK .none p) (fun _ _=>none) (fun _ _=>none)
end
inductive Ent where
 | no
 | code (np:Nat) (names:List Str) (c:CSs)
 | tr (np:Nat) (names:List Str) (e:CE)
noncomputable def tryR (r:RR):RR:=match r with
 | some x=>match x with
  | .ok x=>some (.ok x)
  | .error x=>some (.ok (.tup [.int x.code,.str x.value,.tup (x.ec.map .str)],none))
 | none=>none
noncomputable def pad (args:List SV) (n:Nat):List SV:=args ++ List.replicate n .unb
noncomputable def entK (Φ:Fn) (X:XF) (N:Nat) (e:Ent) (args:List SV) (p:Option Int):RR:=match e with
 | .code np names c=>gK (args.length=np) (dF Φ X N c (pad args (names.length - np)) p)
 | .tr np names e=>match p with
  | none=>gK (args.length=np) (tryR (kE e Φ (pad args (names.length - np)) none endK))
  | some _=>none
 | .no=>none
noncomputable def Phi (tab:List Ent) (X:XF) (N:Nat):Nat → Fn
 | 0=>noFn
 | k + 1=>fun f args p=>opK tab[f]? fun e=>entK (Phi tab X N k) X N e args p
end
noncomputable section
noncomputable abbrev OutE:=Except Exn (PV × Option Int)
noncomputable abbrev PK:=PV → Option Int → Prop
noncomputable abbrev PS:=List SV → Option Int → Prop
noncomputable def W (Q:OutE → Prop) (r:RR):Prop:=∃ o,r=some o ∧ Q o
section
variable {α:Type}
noncomputable def opP (o:Option α) (k:α → Prop):Prop:=match o with
 | some x=>k x
 | none=>False
noncomputable def outP (Q:OutE → Prop) (K:PK) (o:OutE):Prop:=match o with
 | .ok x=>K x.1 x.2
 | .error e=>Q (.error e)
noncomputable def bP (v:PV) (a b:Prop):Prop:=match v with
 | .bool x=>(x=true → a) ∧ (x=false → b)
 | _=>False
noncomputable def yP (v:PV) (k:Bool → Prop):Prop:=match v with
 | .bool x=>k x
 | _=>False
noncomputable def addW (x y:PV) (K:PV → Prop):Prop:=match x with
 | .int a=>opP (asInt y) fun b=>K (.int (a + b))
 | .str a=>opP (asStr y) fun b=>a.length + b.length ≤ strLine ∧ K (.str (a ++ b))
 | .lst a=>opP (asLst y) fun b=>a.length + b.length ≤ strLine ∧ K (.lst (a ++ b))
 | _=>False
noncomputable def bopW (op:Bop) (x y:PV) (K:PV → Prop):Prop:=match op with
 | .add=>addW x y K
 | .sub=>opP (asInt x) fun a=>opP (asInt y) fun b=>K (.int (a - b))
 | _=>∃ z,bop op x y=some z ∧ K z
noncomputable def lenW (v:PV) (K:PV → Prop):Prop:=match v with
 | .str l=>l.length ≤ strLine ∧ K (.int l.length)
 | .tup l=>l.length ≤ strLine ∧ K (.int l.length)
 | .lst l=>l.length ≤ strLine ∧ K (.int l.length)
 | _=>False
noncomputable def biopW (b:Bi) (vs:List PV) (K:PV → Prop):Prop:=match b with
 | .len=>match vs with
  | []=>False
  | v::r=>match r with
   | []=>lenW v K
   | _::_=>False
 | .str=>∃ z,biop .str vs=some z ∧ K z
 | .repr=>∃ z,biop .repr vs=some z ∧ K z
 | _=>opP (biop b vs) K
noncomputable def sliceW (a b:Option Int) (v:PV) (K:PV → Prop):Prop:=match v with
 | .str l=>l.length ≤ strLine ∧ K (.str (pslice l a b))
 | .lst l=>l.length ≤ strLine ∧ K (.lst (pslice l a b))
 | _=>False
noncomputable def putP:List SV → Nat → SV → (List SV → Prop) → Prop
 | [],_,_,_=>False
 | x::r,i,v,k=>match i with
  | 0=>opP (isPn x |>.elim (some ()) fun _=>none) fun _=>k (v::r)
  | i + 1=>putP r i v fun r=>k (x::r)
noncomputable def manyP:List Nat → List PV → List SV → (List SV → Prop) → Prop
 | [],vs,env,k=>match vs with
  | []=>k env
  | _::_=>False
 | i::r,vs,env,k=>match vs with
  | []=>False
  | v::vs=>putP env i (.val v) fun env=>manyP r vs env k
noncomputable def frzP:List SV → Nat → (List SV → Prop) → Prop
 | [],_,_=>False
 | x::r,i,k=>match i with
  | 0=>opP (froz x) fun v=>k (v::r)
  | i + 1=>frzP r i fun r=>k (x::r)
noncomputable def valsP:List SV → (List PV → Prop) → Prop
 | [],k=>k []
 | x::r,k=>opP (isV x) fun v=>valsP r fun vs=>k (v::vs)
noncomputable def srcP (rng:Bool) (v:PV) (k:List PV → Prop):Prop:=match rng with
 | true=>opP (asInt v) fun n=>(-strLine ≤ n ∧ n ≤ strLine) ∧ k (rangePV n)
 | false=>opP (itemsOf v) fun xs=>xs.length ≤ strLine ∧ k xs
noncomputable def tgtP:Tgt → PV → List SV → (List SV → Prop) → Prop
 | .one i,v,env,k=>putP env i (.val v) k
 | .many l,v,env,k=>opP (asTup v) fun vs=>manyP l vs env k
end
noncomputable def eltK (elt:CE) (x:PV):Option PV:=match elt with
 | .loc 0=>some x
 | e=>(quiet (kE e noFn [.val x] none endK)).bind scal
section
variable (Φ:Fn) (Q:OutE → Prop)
mutual
noncomputable def wE:CE → List SV → Option Int → PK → Prop
 | .cst v,_,p,k=>k v p
 | .loc i,env,p,k=>opP (nth env i) fun x=>opP (isV x) fun v=>k v p
 | .dget i x d,env,p,k=>opP (nth env i) fun o=>opP (isDc o) fun l=>wE x env p fun v p=>wE d env p fun w p=>opP (asInt v) fun x=>opP (asInt w) fun y=>k (.int ((look l x).getD y)) p
 | .penGet i,env,p,k=>opP (nth env i) fun x=>opP (isPn x) fun _=>opP p fun n=>k (.int n) (some n)
 | .bin op a b,env,p,k=>wE a env p fun v p=>wE b env p fun w p=>bopW op v w fun x=>k x p
 | .neg a,env,p,k=>wE a env p fun v p=>opP (asInt v) fun x=>k (.int (-x)) p
 | .not a,env,p,k=>wE a env p fun v p=>yP v fun x=>k (.bool (!x)) p
 | .bool all l,env,p,k=>∃ v:Bool,wB l all env p (fun y=>y=v) ∧ k (.bool v) p
 | .cmp1 op a b,env,p,k=>wE a env p fun v p=>wE b env p fun w p=>opP (cop op v w) fun x=>k (.bool x) p
 | .cmp2 o1 o2 a b c,env,p,k=>wE a env p fun v p=>wE b env p fun w p=>opP (cop o1 v w) fun x =>
   ∃ z:Bool,(x=true → wE c env p fun u q=>opP (cop o2 w u) fun y=>y=z ∧ q=p) ∧ (x=false → z=false) ∧ k (.bool z) p
 | .ite c a b,env,p,k=>∃ v,(wE c env p fun x q=>q=p ∧ bP x (wE a env p fun u q=>u=v ∧ q=p) (wE b env p fun u q=>u=v ∧ q=p)) ∧ k v p
 | .call f l,env,p,k=>wEs l env p fun vs p=>W (outP Q fun v _=>k v p) (Φ f vs none)
 | .callP f l,env,p,k=>wEs l env p fun vs p=>opP p fun n=>W (outP Q k) (Φ f vs (some n))
 | .bi b l,env,p,k=>wEs l env p fun vs p=>valsP vs fun xs=>biopW b xs fun v=>k v p
 | .meth m o a,env,p,k=>wE o env p fun v p=>opP (asStr v) fun x=>wE a env p fun w p=>opP (asStr w) fun y=>∃ z,meS m x y=some z ∧ k z p
 | .idx o i,env,p,k=>wE o env p fun v p=>wE i env p fun w p=>∃ x,pidx v w=some x ∧ k x p
 | .slice o lo hi,env,p,k=>wE o env p fun v p=>wO lo env p fun a p=>wO hi env p fun b p=>sliceW a b v fun x=>k x p
 | .seq t l,env,p,k=>wEs l env p fun vs p=>valsP vs fun xs=>Nat.ble xs.length 100=true ∧ k (match t with | true=>.tup xs | false=>.lst xs) p
 | .comp rng elt src cond,env,p,k=>wE src env p fun v p=>srcP rng v fun xs=>∃ ys,(∀ k,compK (fun x=>kC cond noFn [.val x]) (eltK elt) xs k=k ys) ∧ k (.lst ys) p
 | .litGet l x d,env,p,k=>wE x env p fun v p=>opP (asStr v) fun x=>k (.int (litLook l x d)) p
noncomputable def wO:CO → List SV → Option Int → (Option Int → Option Int → Prop) → Prop
 | .no,_,p,k=>k none p
 | .yes e,env,p,k=>wE e env p fun v p=>opP (asInt v) fun x=>k (some x) p
noncomputable def wB:CEs → Bool → List SV → Option Int → (Bool → Prop) → Prop
 | .nil,all,_,_,k=>k all
 | .cons e r,all,env,p,k=>wE e env p fun v q=>q=p ∧ yP v fun x=>(x=all → wB r all env p k) ∧ (x=(!all) → k (!all))
 | .pen _ _,_,_,_,_=>False
 | .dct _ _,_,_,_,_=>False
noncomputable def wEs:CEs → List SV → Option Int → (List SV → Option Int → Prop) → Prop
 | .nil,_,p,k=>k [] p
 | .cons e r,env,p,k=>wE e env p fun v p=>wEs r env p fun vs p=>k (.val v::vs) p
 | .pen i r,env,p,k=>opP (nth env i) fun x=>opP (isPn x) fun _=>wEs r env p fun vs p=>k (.pen::vs) p
 | .dct i r,env,p,k=>opP (nth env i) fun x=>opP (isDv x) fun l=>wEs r env p fun vs p=>k (.dval l::vs) p
end
noncomputable abbrev PB:=List SV → Option Int → PS → PS → PS → Prop
noncomputable def whileP (N:Nat) (c:List SV → Option Int → PK → Prop) (b:PB) (n:PS) (env:List SV) (p:Option Int):Prop :=
 ∃ (I:Nat → List SV → Option Int → Prop) (m:Nat),m < N ∧ I m env p ∧ ∀ m env p,I m env p → c env p fun v p=>bP v (b env p (fun env p=>∃ j,j < m ∧ I j env p) n (fun env p=>∃ j,j < m ∧ I j env p)) (n env p)
noncomputable def forP (t:Tgt) (b:PB) (xs:List PV) (n:PS) (env:List SV) (p:Option Int):Prop :=
 ∃ I:List PV → List SV → Option Int → Prop,I xs env p ∧ (∀ v r env p,I (v::r) env p → tgtP t v env fun env=>b env p (I r) n (I r)) ∧ ∀ env p,I [] env p → n env p
variable (X:XF) (N:Nat)
mutual
noncomputable def wS:CS → List SV → Option Int → PS → PS → PS → Prop
 | .assign i e,env,p,n,_,_=>wE Φ Q e env p fun v p=>putP env i (.val v) fun env=>n env p
 | .unpack l e,env,p,n,_,_=>wE Φ Q e env p fun v p=>opP (asTup v) fun vs=>manyP l vs env fun env=>n env p
 | .unpackLit l es,env,p,n,_,_=>wEs Φ Q es env p fun vs p=>valsP vs fun vs=>manyP l vs env fun env=>n env p
 | .aug i e,env,p,n,_,_=>opP (nth env i) fun x=>opP (isV x) fun v=>wE Φ Q e env p fun w p=>opP (asInt v) fun a=>opP (asInt w) fun b=>putP env i (.val (.int (a + b))) fun env=>n env p
 | .ownNew i e,env,p,n,_,_=>wE Φ Q e env p fun v p=>opP (asLst v) fun l=>putP env i (.own l) fun env=>n env p
 | .compTo own i rng elt src cond,env,p,n,_,_=>wE Φ Q (.comp rng elt src cond) env p fun v p=>opP (asLst v) fun l=>putP env i (mkSV own l) fun env=>n env p
 | .ownDict i,env,p,n,_,_=>putP env i (.od []) fun env=>n env p
 | .append i e,env,p,n,_,_=>opP (nth env i) fun x=>opP (isO x) fun l=>wE Φ Q e env p fun v p=>l.length ≤ strLine ∧ (putP env i (.own (l ++ [v])) fun env=>n env p)
 | .setItem i x e,env,p,n,_,_=>wE Φ Q e env p fun v p=>opP (nth env i) fun o=>opP (isO o) fun l=>wE Φ Q x env p fun k p=>opP (asInt k) fun k=>(0 ≤ k ∧ k < l.length ∧ k < (b62:Int)) ∧ (putP env i (.own (l.set k.toNat v)) fun env=>n env p)
 | .dset i x e,env,p,n,_,_=>wE Φ Q e env p fun v p=>opP (asInt v) fun v=>opP (nth env i) fun o=>opP (isOd o) fun l=>wE Φ Q x env p fun k p=>opP (asInt k) fun k=>l.length ≤ strLine ∧ (putP env i (.od (put l k v)) fun env=>n env p)
 | .reverse i,env,p,n,_,_=>opP (nth env i) fun x=>opP (isO x) fun l=>l.length ≤ strLine ∧ (putP env i (.own l.reverse) fun env=>n env p)
 | .penSet i e,env,p,n,_,_=>wE Φ Q e env p fun v p=>opP (asInt v) fun v=>opP (nth env i) fun x=>opP (isPn x) fun _=>opP p fun _=>n env (some v)
 | .eff e,env,p,n,_,_=>wE Φ Q e env p fun v p=>opP (asNone v) fun _=>n env p
 | .ite c a b,env,p,n,kb,kc=>wE Φ Q c env p fun v p=>bP v (wSs a env p n kb kc) (wSs b env p n kb kc)
 | .whil c b,env,p,n,_,_=>whileP N (wE Φ Q c) (wSs b) n env p
 | .loop t rng src b,env,p,n,_,_=>wE Φ Q src env p fun v p=>srcP rng v fun xs=>forP t (wSs b) xs n env p
 | .retn e,env,p,_,_,_=>wE Φ Q e env p fun v p=>Q (.ok (v,p))
 | .brk,env,p,_,kb,_=>kb env p
 | .cont,env,p,_,_,kc=>kc env p
 | .raise f l,env,p,_,_,_=>wEs Φ Q l env p fun vs _=>opP (X f vs) fun e=>Q (.error e)
noncomputable def wSs:CSs → List SV → Option Int → PS → PS → PS → Prop
 | .nil,env,p,n,_,_=>n env p
 | .cons c r,env,p,n,kb,kc=>wS c env p (fun env p=>wSs r env p n kb kc) kb kc
 | .frz i r,env,p,n,kb,kc=>frzP env i fun env=>wSs r env p n kb kc
end
end
section
variable {α:Type} {Q:OutE → Prop}
theorem W_op {o:Option α} {k:α → RR} {k':α → Prop} (h:opP o k') (hk:∀ x,k' x → W Q (k x)):W Q (opK o k):=by
 cases o with
 | none=>exact h.elim
 | some x=>exact hk x h
theorem W_ex {o:Option α} {k:α → RR} {k':α → Prop} (h:∃ x,o=some x ∧ k' x) (hk:∀ x,k' x → W Q (k x)):W Q (opK o k):=by
 obtain ⟨x,rfl,h⟩:=h
 exact hk x h
theorem W_g {c:Prop} [Decidable c] {k:RR} (h:c) (hk:W Q k):W Q (gK c k):=by
 unfold gK; rw [if_pos h]; exact hk
theorem W_b {v:PV} {a b:RR} {a' b':Prop} (h:bP v a' b') (ha:a' → W Q a) (hb:b' → W Q b):W Q (bK v a b):=by
 cases v with
 | bool x =>
  cases x with
  | true=>exact ha (h.1 rfl)
  | false=>exact hb (h.2 rfl)
 | _=>exact h.elim
theorem W_call {r:RR} {k:KE} {K:PK} (h:W (outP Q K) r) (hk:∀ v p,K v p → W Q (k v p)):W Q (callK r k):=by
 obtain ⟨o,rfl,h⟩:=h
 cases o with
 | ok x=>exact hk _ _ h
 | error e=>exact ⟨_,rfl,h⟩
theorem W_put {v:SV}:∀ {env:List SV} {i:Nat} {k:List SV → RR} {K:List SV → Prop},putP env i v K → (∀ e,K e → W Q (k e)) → W Q (putK env i v k):=by
 intro env
 induction env with
 | nil=>intro i k K h; exact h.elim
 | cons x r ih =>
  intro i k K h hk
  cases i with
  | zero=>exact W_op h fun _ h=>hk _ h
  | succ i=>exact ih h fun _ h=>hk _ h
theorem W_many:∀ {l:List Nat} {vs:List PV} {env:List SV} {k:List SV → RR} {K:List SV → Prop},manyP l vs env K → (∀ e,K e → W Q (k e)) → W Q (manyK l vs env k):=by
 intro l
 induction l with
 | nil =>
  intro vs env k K h hk
  cases vs with
  | nil=>exact hk _ h
  | cons=>exact h.elim
 | cons i r ih =>
  intro vs env k K h hk
  cases vs with
  | nil=>exact h.elim
  | cons=>exact W_put h fun _ h=>ih h hk
theorem W_frz:∀ {env:List SV} {i:Nat} {k:List SV → RR} {K:List SV → Prop},frzP env i K → (∀ e,K e → W Q (k e)) → W Q (frzK env i k):=by
 intro env
 induction env with
 | nil=>intro i k K h; exact h.elim
 | cons x r ih =>
  intro i k K h hk
  cases i with
  | zero=>exact W_op h fun _ h=>hk _ h
  | succ i=>exact ih h fun _ h=>hk _ h
theorem W_vals:∀ {vs:List SV} {k:List PV → RR} {K:List PV → Prop},valsP vs K → (∀ e,K e → W Q (k e)) → W Q (valsK vs k):=by
 intro vs
 induction vs with
 | nil=>intro k K h hk; exact hk _ h
 | cons x r ih=>intro k K h hk; exact W_op h fun _ h=>ih h fun _ h=>hk _ h
theorem op_ex {o:Option α} {k:α → Prop} (h:opP o k):∃ x,o=some x ∧ k x:=by
 cases o with
 | none=>exact h.elim
 | some x=>exact ⟨x,rfl,h⟩
theorem g_ex {c:Prop} [Decidable c] {x:α} {k:α → Prop} (h:c ∧ k x):∃ y,gO c x=some y ∧ k y:=⟨x,if_pos h.1,h.2⟩
theorem bop_ex {op:Bop} {x y:PV} {K:PV → Prop} (h:bopW op x y K):∃ z,bop op x y=some z ∧ K z:=by
 cases op with
 | add =>
  cases x with
  | int a=>obtain ⟨b,e,h⟩:=op_ex (show opP (asInt y) _ from h); cases y <;> cases e; exact ⟨_,rfl,h⟩
  | str a=>obtain ⟨b,e,h⟩:=op_ex (show opP (asStr y) _ from h); cases y <;> cases e; exact g_ex h
  | lst a=>obtain ⟨b,e,h⟩:=op_ex (show opP (asLst y) _ from h); cases y <;> cases e; exact g_ex h
  | _=>exact h.elim
 | sub =>
  obtain ⟨a,e,h⟩:=op_ex (show opP (asInt x) _ from h); cases x <;> cases e
  obtain ⟨b,e,h⟩:=op_ex (show opP (asInt y) _ from h); cases y <;> cases e; exact ⟨_,rfl,h⟩
 | _=>exact h
theorem biop_ex {b:Bi} {vs:List PV} {K:PV → Prop} (h:biopW b vs K):∃ z,biop b vs=some z ∧ K z:=by
 cases b with
 | len =>
  cases vs with
  | nil=>exact h.elim
  | cons v r =>
   cases r with
   | cons=>exact h.elim
   | nil =>
    cases v with
    | str | tup | lst=>exact g_ex h
    | _=>exact h.elim
 | str | repr=>exact h
 | _=>exact op_ex h
theorem slice_ex {a b:Option Int} {v:PV} {K:PV → Prop} (h:sliceW a b v K):∃ z,sliceP a b v=some z ∧ K z:=by
 cases v with
 | str | lst=>exact g_ex h
 | _=>exact h.elim
theorem W_src {rng:Bool} {v:PV} {k:List PV → RR} {K:List PV → Prop} (h:srcP rng v K) (hk:∀ e,K e → W Q (k e)):W Q (srcK rng v k):=by
 cases rng with
 | true=>exact W_op h fun _ h=>W_g h.1 (hk _ h.2)
 | false=>exact W_op h fun _ h=>W_g h.1 (hk _ h.2)
theorem W_tgt {t:Tgt} {v:PV} {env:List SV} {k:List SV → RR} {K:List SV → Prop} (h:tgtP t v env K) (hk:∀ e,K e → W Q (k e)):W Q (tgtK t v env k):=by
 cases t with
 | one i=>exact W_put h hk
 | many l=>exact W_op h fun _ h=>W_many h hk
end
section
variable {Φ:Fn} {Q:OutE → Prop}
variable (Φ Q) in
noncomputable def EW (e:CE):Prop:=∀ (env:List SV) (p:Option Int) (K:PK) (k:KE),(∀ v p,K v p → W Q (k v p)) → wE Φ Q e env p K → W Q (kE e Φ env p k)
variable (Φ Q) in
noncomputable def OW (e:CO):Prop:=∀ (env:List SV) (p:Option Int) (K:Option Int → Option Int → Prop) (k:Option Int → Option Int → RR),(∀ v p,K v p → W Q (k v p)) → wO Φ Q e env p K → W Q (kO e Φ env p k)
variable (Φ Q) in
noncomputable def LW (l:CEs):Prop:=(∀ (env:List SV) (p:Option Int) (K:PS) (k:KS),(∀ v p,K v p → W Q (k v p)) → wEs Φ Q l env p K → W Q (kEs l Φ env p k)) ∧
 ∀ (all:Bool) (env:List SV) (p:Option Int) (K:Bool → Prop) (k:KE),(∀ y,K y → W Q (k (.bool y) p)) → wB Φ Q l all env p K → W Q (kB l all Φ env p k)
theorem ew_all:(∀ e,EW Φ Q e) ∧ (∀ o,OW Φ Q o) ∧ ∀ l,LW Φ Q l:=by
 have c1:∀ v,EW Φ Q (.cst v):=fun v env p K k hk h=>hk _ _ h
 have c2:∀ i,EW Φ Q (.loc i):=fun v env p K k hk h=>W_op h fun _ h=>W_op h fun _ h=>hk _ _ h
 have c3:∀ i k d,EW Φ Q k → EW Φ Q d → EW Φ Q (.dget i k d):=fun i x d hx hd env p K k hk h=>W_op h fun _ h=>W_op h fun _ h=>hx _ _ _ _ (fun _ _ h=>hd _ _ _ _ (fun _ _ h=>W_op h fun _ h=>W_op h fun _ h=>hk _ _ h) h) h
 have c4:∀ i,EW Φ Q (.penGet i):=fun i env p K k hk h=>W_op h fun _ h=>W_op h fun _ h=>W_op h fun _ h=>hk _ _ h
 have c5:∀ o a b,EW Φ Q a → EW Φ Q b → EW Φ Q (.bin o a b):=fun o a b ha hb env p K k hk h=>ha _ _ _ _ (fun _ _ h=>hb _ _ _ _ (fun _ _ h=>W_ex (bop_ex h) fun _ h=>hk _ _ h) h) h
 have c6:∀ a,EW Φ Q a → EW Φ Q (.neg a):=fun a ha env p K k hk h=>ha _ _ _ _ (fun _ _ h=>W_op h fun _ h=>hk _ _ h) h
 have c7:∀ a,EW Φ Q a → EW Φ Q (.not a):=fun a ha env p K k hk h=>ha _ _ _ _ (fun v p h=>by
  cases v with
  | bool x=>cases x <;> exact hk _ _ h
  | _=>exact h.elim) h
 have c8:∀ all l,LW Φ Q l → EW Φ Q (.bool all l):=fun all l hl env p K k hk h=>by
  obtain ⟨v,h1,h2⟩:=h
  exact hl.2 all env p _ k (fun y e=>by rw [e]; exact hk _ _ h2) h1
 have c9:∀ o a b,EW Φ Q a → EW Φ Q b → EW Φ Q (.cmp1 o a b):=fun o a b ha hb env p K k hk h=>ha _ _ _ _ (fun _ _ h=>hb _ _ _ _ (fun _ _ h=>W_op h fun _ h=>hk _ _ h) h) h
 have c10:∀ o o' a b c,EW Φ Q a → EW Φ Q b → EW Φ Q c → EW Φ Q (.cmp2 o o' a b c):=fun o o' a b c ha hb hc env p K k hk h=>ha _ _ _ _ (fun _ _ h=>hb _ _ _ _ (fun _ p h=>W_op h fun x h=>by
  obtain ⟨z,h1,h2,h3⟩:=h
  cases x with
  | true=>exact hc _ _ _ _ (fun u q h=>W_op h fun y h=>by rw [h.1,h.2]; exact hk _ _ h3) (h1 rfl)
  | false=>have e:=h2 rfl; rw [e] at h3; exact hk _ _ h3) h) h
 have c11:∀ c a b,EW Φ Q c → EW Φ Q a → EW Φ Q b → EW Φ Q (.ite c a b):=fun c a b hc ha hb env p K k hk h=>by
  obtain ⟨v,h1,h2⟩:=h
  exact hc _ _ _ _ (fun x q h=>by rw [h.1]; exact W_b h.2 (ha _ _ _ _ fun u q e=>by rw [e.1,e.2]; exact hk _ _ h2) (hb _ _ _ _ fun u q e=>by rw [e.1,e.2]; exact hk _ _ h2)) h1
 have c12:∀ f l,LW Φ Q l → EW Φ Q (.call f l):=fun f l hl env p K k hk h=>hl.1 _ _ _ _ (fun _ _ h=>W_call h fun _ _ h=>hk _ _ h) h
 have c13:∀ f l,LW Φ Q l → EW Φ Q (.callP f l):=fun f l hl env p K k hk h=>hl.1 _ _ _ _ (fun _ _ h=>W_op h fun _ h=>W_call h hk) h
 have c14:∀ f l,LW Φ Q l → EW Φ Q (.bi f l):=fun f l hl env p K k hk h=>hl.1 _ _ _ _ (fun _ _ h=>W_vals h fun _ h=>W_ex (biop_ex h) fun _ h=>hk _ _ h) h
 have c15:∀ m a b,EW Φ Q a → EW Φ Q b → EW Φ Q (.meth m a b):=fun m a b ha hb env p K k hk h=>ha _ _ _ _ (fun _ _ h=>W_op h fun _ h=>hb _ _ _ _ (fun _ _ h=>W_op h fun _ h=>W_ex h fun _ h=>hk _ _ h) h) h
 have c16:∀ a b,EW Φ Q a → EW Φ Q b → EW Φ Q (.idx a b):=fun a b ha hb env p K k hk h=>ha _ _ _ _ (fun _ _ h=>hb _ _ _ _ (fun _ _ h=>W_ex h fun _ h=>hk _ _ h) h) h
 have c17:∀ a l h,EW Φ Q a → OW Φ Q l → OW Φ Q h → EW Φ Q (.slice a l h):=fun a l r ha hl hr env p K k hk h=>ha _ _ _ _ (fun _ _ h=>hl _ _ _ _ (fun _ _ h=>hr _ _ _ _ (fun _ _ h=>W_ex (slice_ex h) fun _ h=>hk _ _ h) h) h) h
 have c18:∀ t l,LW Φ Q l → EW Φ Q (.seq t l):=fun t l hl env p K k hk h=>hl.1 _ _ _ _ (fun _ _ h=>W_vals h fun _ h=>W_g (sline (Nat.le_trans (Nat.le_of_ble_eq_true h.1) (by decide))) (hk _ _ h.2)) h
 have c19:∀ r e s c,EW Φ Q e → EW Φ Q s → OW Φ Q c → EW Φ Q (.comp r e s c):=fun r e s c _ hs _ env p K k hk h=>by
  rw [show kE (.comp r e s c) Φ env p k=kE s Φ env p fun v p=>srcK r v fun xs=>compK (fun x=>kC c noFn [.val x]) (eltK e) xs fun ys=>k (.lst ys) p by cases e with
   | loc i=>cases i <;> rfl
   | _=>rfl]
  exact hs _ _ _ _ (fun _ _ h=>W_src h fun xs h=>by
   obtain ⟨ys,h1,h2⟩:=h
   rw [h1]; exact hk _ _ h2) h
 have c20:∀ l k d,EW Φ Q k → EW Φ Q (.litGet l k d):=fun l x d hx env p K k hk h=>hx _ _ _ _ (fun _ _ h=>W_op h fun _ h=>hk _ _ h) h
 have o1:OW Φ Q .no:=fun env p K k hk h=>hk _ _ h
 have o2:∀ e,EW Φ Q e → OW Φ Q (.yes e):=fun e he env p K k hk h=>he _ _ _ _ (fun _ _ h=>W_op h fun _ h=>hk _ _ h) h
 have l1:LW Φ Q .nil:=⟨fun env p K k hk h=>hk _ _ h,fun all env p K k hk h=>hk _ h⟩
 have l2:∀ e r,EW Φ Q e → LW Φ Q r → LW Φ Q (.cons e r):=fun e r he hr=>⟨fun env p K k hk h=>he _ _ _ _ (fun _ _ h=>hr.1 _ _ _ _ (fun _ _ h=>hk _ _ h) h) h,
  fun all env p K k hk h=>by
   cases all with
   | true=>exact he _ _ _ _ (fun v q h=>by
     rw [h.1]
     cases v with
     | bool x =>
      cases x with
      | true=>exact hr.2 true _ _ K k hk (h.2.1 rfl)
      | false=>exact hk _ (h.2.2 rfl)
     | _=>exact h.2.elim) h
   | false=>exact he _ _ _ _ (fun v q h=>by
     rw [h.1]
     cases v with
     | bool x =>
      cases x with
      | false=>exact hr.2 false _ _ K k hk (h.2.1 rfl)
      | true=>exact hk _ (h.2.2 rfl)
     | _=>exact h.2.elim) h⟩
 have l3:∀ i r,LW Φ Q r → LW Φ Q (.pen i r):=fun i r hr=>⟨fun env p K k hk h=>W_op h fun _ h=>W_op h fun _ h=>hr.1 _ _ _ _ (fun _ _ h=>hk _ _ h) h,fun _ _ _ _ _ _ h=>h.elim⟩
 have l4:∀ i r,LW Φ Q r → LW Φ Q (.dct i r):=fun i r hr=>⟨fun env p K k hk h=>W_op h fun _ h=>W_op h fun _ h=>hr.1 _ _ _ _ (fun _ _ h=>hk _ _ h) h,fun _ _ _ _ _ _ h=>h.elim⟩
 exact ⟨fun e=>CE.rec (motive_1:=EW Φ Q) (motive_2:=OW Φ Q) (motive_3:=LW Φ Q) c1 c2 c3 c4 c5 c6 c7 c8 c9 c10 c11 c12 c13 c14 c15 c16 c17 c18 c19 c20 o1 o2 l1 l2 l3 l4 e,
  fun e=>CO.rec (motive_1:=EW Φ Q) (motive_2:=OW Φ Q) (motive_3:=LW Φ Q) c1 c2 c3 c4 c5 c6 c7 c8 c9 c10 c11 c12 c13 c14 c15 c16 c17 c18 c19 c20 o1 o2 l1 l2 l3 l4 e,
  fun e=>CEs.rec (motive_1:=EW Φ Q) (motive_2:=OW Φ Q) (motive_3:=LW Φ Q) c1 c2 c3 c4 c5 c6 c7 c8 c9 c10 c11 c12 c13 c14 c15 c16 c17 c18 c19 c20 o1 o2 l1 l2 l3 l4 e⟩
theorem W_E {e:CE} {env:List SV} {p:Option Int} {K:PK} {k:KE} (h:wE Φ Q e env p K) (hk:∀ v p,K v p → W Q (k v p)):W Q (kE e Φ env p k):=ew_all.1 e env p K k hk h
theorem W_Es {l:CEs} {env:List SV} {p:Option Int} {K:PS} {k:KS} (h:wEs Φ Q l env p K) (hk:∀ v p,K v p → W Q (k v p)):W Q (kEs l Φ env p k):=(ew_all.2.2 l).1 env p K k hk h
variable {X:XF} {N:Nat}
noncomputable abbrev Ens (Q:OutE → Prop) (n:PS) (k:KS):Prop:=∀ e p,n e p → W Q (k e p)
noncomputable abbrev BW (Q:OutE → Prop) (b:KB) (b':PB):Prop:=∀ (env:List SV) (p:Option Int) (n kb kc:PS) (n' kb' kc':KS),Ens Q n n' → Ens Q kb kb' → Ens Q kc kc' → b' env p n kb kc → W Q (b env p n' kb' kc')
theorem W_while {c:List SV → Option Int → KE → RR} {c':List SV → Option Int → PK → Prop} {b:KB} {b':PB} (hc:∀ env p K k,(∀ v p,K v p → W Q (k v p)) → c' env p K → W Q (c env p k)) (hb:BW Q b b') {n:PS} {k:KS} {env:List SV} {p:Option Int}
  (h:whileP N c' b' n env p) (hk:Ens Q n k):W Q (whileK c b N k env p):=by
 obtain ⟨I,m,hm,hI,hs⟩:=h
 induction N generalizing m env p with
 | zero=>exact absurd hm (Nat.not_lt_zero m)
 | succ N ih =>
  have r:Ens Q (fun env p=>∃ j,j < m ∧ I j env p) (whileK c b N k):=fun e q h=>let ⟨j,hj,hI⟩:=h; ih j (Nat.lt_of_lt_of_le hj (Nat.le_of_lt_succ hm)) hI
  exact hc _ _ _ _ (fun v q h=>W_b h (hb _ _ _ _ _ _ _ _ r hk r) (hk _ _)) (hs m env p hI)
theorem W_for {t:Tgt} {b:KB} {b':PB} (hb:BW Q b b') {n:PS} {k:KS} (hk:Ens Q n k) {I:List PV → List SV → Option Int → Prop} (hs:∀ v r env p,I (v::r) env p → tgtP t v env fun env=>b' env p (I r) n (I r)) (he:∀ env p,I [] env p → n env p) :
  ∀ (xs:List PV) (env:List SV) (p:Option Int),I xs env p → W Q (forK t b xs k env p):=by
 intro xs
 induction xs with
 | nil=>intro env p h; exact hk _ _ (he _ _ h)
 | cons v r ih=>intro env p h; exact W_tgt (hs v r env p h) fun _ h=>hb _ _ _ _ _ _ _ _ ih hk ih h
variable (Φ Q X N) in
noncomputable def SW (c:CS):Prop:=BW Q (kS Φ X N c) (wS Φ Q X N c)
variable (Φ Q X N) in
noncomputable def SsW (c:CSs):Prop:=BW Q (kSs Φ X N c) (wSs Φ Q X N c)
theorem sw_all (c:CSs):SsW Φ Q X N c:=by
 have s1:∀ i e,SW Φ Q X N (.assign i e):=fun i e env p n kb kc n' kb' kc' hn hkb hkc h=>W_E h fun _ _ h=>W_put h fun _ h=>hn _ _ h
 have s2:∀ l e,SW Φ Q X N (.unpack l e):=fun i e env p n kb kc n' kb' kc' hn hkb hkc h=>W_E h fun _ _ h=>W_op h fun _ h=>W_many h fun _ h=>hn _ _ h
 have s3:∀ l e,SW Φ Q X N (.unpackLit l e):=fun i e env p n kb kc n' kb' kc' hn hkb hkc h=>W_Es h fun _ _ h=>W_vals h fun _ h=>W_many h fun _ h=>hn _ _ h
 have s4:∀ i e,SW Φ Q X N (.aug i e):=fun i e env p n kb kc n' kb' kc' hn hkb hkc h=>W_op h fun _ h=>W_op h fun _ h=>W_E h fun _ _ h=>W_op h fun _ h=>W_op h fun _ h=>W_put h fun _ h=>hn _ _ h
 have s5:∀ i e,SW Φ Q X N (.ownNew i e):=fun i e env p n kb kc n' kb' kc' hn hkb hkc h=>W_E h fun _ _ h=>W_op h fun _ h=>W_put h fun _ h=>hn _ _ h
 have s6:∀ own i rng elt src cond,SW Φ Q X N (.compTo own i rng elt src cond):=fun own i rng elt src cond env p n kb kc n' kb' kc' hn hkb hkc h=>W_E (show wE Φ Q (.comp rng elt src cond) env p (fun v p=>opP (asLst v) fun l=>putP env i (mkSV own l) fun env=>n env p) from h) fun _ _ h=>W_op h fun _ h=>W_put h fun _ h=>hn _ _ h
 have s7:∀ i,SW Φ Q X N (.ownDict i):=fun i env p n kb kc n' kb' kc' hn hkb hkc h=>W_put h fun _ h=>hn _ _ h
 have s8:∀ i e,SW Φ Q X N (.append i e):=fun i e env p n kb kc n' kb' kc' hn hkb hkc h=>W_op h fun _ h=>W_op h fun _ h=>W_E h fun _ _ h=>W_g h.1 (W_put h.2 fun _ h=>hn _ _ h)
 have s9:∀ i x e,SW Φ Q X N (.setItem i x e):=fun i x e env p n kb kc n' kb' kc' hn hkb hkc h=>W_E h fun _ _ h=>W_op h fun _ h=>W_op h fun _ h=>W_E h fun _ _ h=>W_op h fun _ h=>W_g h.1 (W_put h.2 fun _ h=>hn _ _ h)
 have s10:∀ i x e,SW Φ Q X N (.dset i x e):=fun i x e env p n kb kc n' kb' kc' hn hkb hkc h=>W_E h fun _ _ h=>W_op h fun _ h=>W_op h fun _ h=>W_op h fun _ h=>W_E h fun _ _ h=>W_op h fun _ h=>W_g h.1 (W_put h.2 fun _ h=>hn _ _ h)
 have s11:∀ i,SW Φ Q X N (.reverse i):=fun i env p n kb kc n' kb' kc' hn hkb hkc h=>W_op h fun _ h=>W_op h fun _ h=>W_g h.1 (W_put h.2 fun _ h=>hn _ _ h)
 have s12:∀ i e,SW Φ Q X N (.penSet i e):=fun i e env p n kb kc n' kb' kc' hn hkb hkc h=>W_E h fun _ _ h=>W_op h fun _ h=>W_op h fun _ h=>W_op h fun _ h=>W_op h fun _ h=>hn _ _ h
 have s13:∀ e,SW Φ Q X N (.eff e):=fun e env p n kb kc n' kb' kc' hn hkb hkc h=>W_E h fun _ _ h=>W_op h fun _ h=>hn _ _ h
 have s14:∀ c a b,SsW Φ Q X N a → SsW Φ Q X N b → SW Φ Q X N (.ite c a b):=fun c a b ha hb env p n kb kc n' kb' kc' hn hkb hkc h=>W_E h fun _ _ h=>W_b h (ha _ _ _ _ _ _ _ _ hn hkb hkc) (hb _ _ _ _ _ _ _ _ hn hkb hkc)
 have s15:∀ c b,SsW Φ Q X N b → SW Φ Q X N (.whil c b):=fun c b hb env p n kb kc n' kb' kc' hn hkb hkc h=>W_while (c':=wE Φ Q c) (fun env p K k hk h=>W_E h hk) hb h hn
 have s16:∀ t rng src b,SsW Φ Q X N b → SW Φ Q X N (.loop t rng src b):=fun t rng src b hb env p n kb kc n' kb' kc' hn hkb hkc h=>W_E h fun _ _ h=>W_src h fun _ h=>let ⟨I,h0,h1,h2⟩:=h; W_for hb hn h1 h2 _ _ _ h0
 have s17:∀ e,SW Φ Q X N (.retn e):=fun e env p n kb kc n' kb' kc' hn hkb hkc h=>W_E h fun _ _ h=>⟨_,rfl,h⟩
 have s18:SW Φ Q X N .brk:=fun env p n kb kc n' kb' kc' hn hkb hkc h=>hkb _ _ h
 have s19:SW Φ Q X N .cont:=fun env p n kb kc n' kb' kc' hn hkb hkc h=>hkc _ _ h
 have s20:∀ f l,SW Φ Q X N (.raise f l):=fun f l env p n kb kc n' kb' kc' hn hkb hkc h=>W_Es h fun vs _ h=>by
  obtain ⟨e,q,h⟩:=op_ex h
  rw [q]; exact ⟨_,rfl,h⟩
 have t1:SsW Φ Q X N .nil:=fun env p n kb kc n' kb' kc' hn hkb hkc h=>hn _ _ h
 have t2:∀ s r,SW Φ Q X N s → SsW Φ Q X N r → SsW Φ Q X N (.cons s r):=fun s r hs hr env p n kb kc n' kb' kc' hn hkb hkc h=>hs _ _ _ _ _ _ _ _ (fun _ _ h=>hr _ _ _ _ _ _ _ _ hn hkb hkc h) hkb hkc h
 have t3:∀ i r,SsW Φ Q X N r → SsW Φ Q X N (.frz i r):=fun i r hr env p n kb kc n' kb' kc' hn hkb hkc h=>W_frz h fun _ h=>hr _ _ _ _ _ _ _ _ hn hkb hkc h
 exact CSs.rec (motive_1:=SW Φ Q X N) (motive_2:=SsW Φ Q X N) s1 s2 s3 s4 s5 s6 s7 s8 s9 s10 s11 s12 s13 s14 s15 s16 s17 s18 s19 s20 t1 t2 t3 c
end
section
variable {T:List Ent} {X:XF} {N k f np:Nat} {names:List Str} {c:CSs} {args:List SV} {p:Option Int}
theorem phi_W {Q:OutE → Prop} (e:T[f]?=some (.code np names c)) (hl:args.length=np) (h:wSs (Phi T X N k) Q X N c (pad args (names.length - np)) p (fun _ p=>Q (.ok (.none,p))) (fun _ _=>False) (fun _ _=>False)):W Q (Phi T X N (k + 1) f args p):=by
 show W Q (opK T[f]? _)
 rw [e]
 exact W_g hl (sw_all c _ _ _ _ _ _ _ _ (fun _ _ h=>⟨_,rfl,h⟩) (fun _ _ h=>h.elim) (fun _ _ h=>h.elim) h)
theorem W_eq {o:OutE} {r:RR} (h:W (fun x=>x=o) r):r=some o:=by
 obtain ⟨x,h,rfl⟩:=h
 exact h
end
end
end Mp
end
section
open PySem PySem.W PyProof.Rows
set_option Elab.async false
set_option maxRecDepth 100000
set_option linter.unusedVariables false
namespace Mp
noncomputable section
structure Ext (fs:List Addr) (pa:Option Addr) (h h':Heap):Prop where
 keep:∀ b o,h.get? b=some o → b ∉ fs → pa ≠ some b → h'.get? b=some o
 frm:∀ b o,h.get? b=some o → b ∈ fs → ∃ sl,h'.get? b=some { o with slots:=sl }
noncomputable abbrev Kept (h h':Heap):Prop:=∀ b o,h.get? b=some o → h'.get? b=some o
section
variable {fs:List Addr} {pa:Option Addr} {h h' h₁ h₂ h₃:Heap}
theorem Ext.of_keeps (k:Kept h h'):Ext fs pa h h':=⟨fun b o e _ _=>k b o e,fun b o e _=>⟨o.slots,k b o e⟩⟩
theorem Ext.refl (fs:List Addr) (pa:Option Addr) (h:Heap):Ext fs pa h h:=.of_keeps fun _ _ e=>e
theorem Ext.trans (x:Ext fs pa h₁ h₂) (y:Ext fs pa h₂ h₃):Ext fs pa h₁ h₃ :=
 ⟨fun b o e n p=>y.keep b o (x.keep b o e n p) n p,fun b o e n=>let ⟨_,e1⟩:=x.frm b o e n; let ⟨sl,e2⟩:=y.frm b _ e1 n; ⟨sl,e2⟩⟩
theorem Ext.anyPen (x:Ext fs none h h'):Ext fs pa h h':=⟨fun b o e n _=>x.keep b o e n nofun,x.frm⟩
theorem Ext.there (x:Ext fs pa h h') {b:Addr} {o:Obj} (e:h.get? b=some o) (n:pa ≠ some b):∃ sl,h'.get? b=some { o with slots:=sl } :=
 (Classical.em (b ∈ fs)).elim (x.frm b o e) fun q=>⟨o.slots,x.keep b o e q n⟩
end
noncomputable abbrev fsOf (l:List Env):List Addr:=l.filterMap (·.frame)
noncomputable def IntPairs:List (Int × Value) → List (Int × Int) → Prop
 | [],l=>l=[]
 | kv::kvs,l=>∃ i t r,kv.2=.int i t ∧ l=(kv.1,i)::r ∧ IntPairs kvs r
noncomputable def IMap (h:Heap) (a:Addr) (l:List (Int × Int)):Prop:=∃ kvs,(∀ prog w,h.DictOf (intKind prog w) a kvs) ∧ IntPairs kvs l ∧ ∃ o,h.get? a=some o
theorem pairs_any {p p':Program} {w w':World} {es:List DictEntry} {kvs:List (Int × Value)} (h:Pairs (intKind p w) es kvs):Pairs (intKind p' w') es kvs:=by
 induction h with
 | nil=>exact .nil
 | cons a b c d=>exact .cons a b d
theorem dictOf_any {p p':Program} {w w':World} {h:Heap} {a:Addr} {kvs:List (Int × Value)} (x:h.DictOf (intKind p w) a kvs):h.DictOf (intKind p' w') a kvs:=by
 obtain ⟨o,es,ep,ho,hc,hd,hk,hp,hn⟩:=x
 exact ⟨o,es,ep,ho,hc,hd,hk,pairs_any hp,hn⟩
theorem look_cons (k k' i:Int) (l:List (Int × Int)):look ((k',i)::l) k=if k'=k then some i else look l k:=by
 unfold look
 by_cases q:k'=k <;> simp [q]
theorem valueAt_cons (k k':Int) (v:Value) (l:List (Int × Value)):valueAt ((k',v)::l) k=if k'=k then some v else valueAt l k:=by
 unfold valueAt
 by_cases q:k'=k <;> simp [q]
section
variable {kvs:List (Int × Value)}
theorem IntPairs.at:∀ {l:List (Int × Int)},IntPairs kvs l → ∀ k:Int,((look l k)=none ∧ valueAt kvs k=none) ∨ ∃ i t,look l k=some i ∧ valueAt kvs k=some (.int i t):=by
 induction kvs with
 | nil=>intro l h k; cases h; exact .inl ⟨rfl,rfl⟩
 | cons kv kvs ih =>
  intro l h k
  obtain ⟨k',v⟩:=kv
  obtain ⟨i,t,r,ev,rfl,h⟩:=h
  rw [look_cons,valueAt_cons]
  by_cases q:k'=k
  ·rw [if_pos q,if_pos q]; exact .inr ⟨i,t,rfl,congrArg some ev⟩
  ·rw [if_neg q,if_neg q]; exact ih h k
theorem IntPairs.any:∀ {l:List (Int × Int)},IntPairs kvs l → ∀ k:Int,kvs.any (fun kv=>kv.1=k)=l.any (fun p=>p.1=k):=by
 induction kvs with
 | nil=>intro l h k; cases h; rfl
 | cons kv kvs ih=>intro l h k; obtain ⟨i,t,r,_,rfl,h⟩:=h; rw [List.any_cons,List.any_cons,ih h k]
theorem IntPairs.snoc (k i:Int) (t:Tok):∀ {l:List (Int × Int)},IntPairs kvs l → IntPairs (kvs ++ [(k,.int i t)]) (l ++ [(k,i)]):=by
 induction kvs with
 | nil=>intro l h; cases h; exact ⟨i,t,[],rfl,rfl,rfl⟩
 | cons kv kvs ih=>intro l h; obtain ⟨i',t',r,ev,rfl,h⟩:=h; exact ⟨i',t',_,ev,rfl,ih h⟩
theorem IntPairs.over (k i:Int) (t:Tok):∀ {l:List (Int × Int)},IntPairs kvs l → IntPairs (kvs.map (fun kv=>if kv.1=k then (kv.1,.int i t) else kv)) (l.map (fun p=>if p.1=k then (p.1,i) else p)):=by
 induction kvs with
 | nil=>intro l h; cases h; rfl
 | cons kv kvs ih =>
  intro l h
  obtain ⟨i',t',r,ev,rfl,h⟩:=h
  rw [List.map_cons,List.map_cons]
  by_cases q:kv.1=k
  ·rw [if_pos q,if_pos q]; exact ⟨i,t,_,rfl,rfl,ih h⟩
  ·rw [if_neg q,if_neg q]; exact ⟨i',t',_,ev,rfl,ih h⟩
theorem IntPairs.put {l:List (Int × Int)} (h:IntPairs kvs l) (k i:Int) (t:Tok):IntPairs (stored kvs k (.int i t)) (Mp.put l k i):=by
 unfold stored Mp.put
 rw [h.any k]
 cases l.any fun p=>p.1=k with
 | true=>exact h.over k i t
 | false=>exact h.snoc k i t
theorem IntPairs.length:∀ {l:List (Int × Int)},IntPairs kvs l → kvs.length=l.length:=by
 induction kvs with
 | nil=>intro l h; cases h; rfl
 | cons kv kvs ih=>intro l h; obtain ⟨i,t,r,_,rfl,h⟩:=h; exact congrArg (· + 1) (ih h)
end
theorem imap_keep {h h':Heap} {a:Addr} {l:List (Int × Int)} (x:IMap h a l) (k:∀ o,h.get? a=some o → h'.get? a=some o):IMap h' a l :=
 let ⟨kvs,x,y,o,e⟩:=x; ⟨kvs,fun p w=>(x p w).at k,y,o,k o e⟩
mutual
noncomputable def Rep (ω:Addr → Nat) (h:Heap):PV → Value → Prop
 | .none,v=>v=.none
 | .bool b,v=>v=.bool b
 | .int i,v=>∃ t,v=.int i t
 | .str l,v=>∃ t,v=.str ⟨l.toArray⟩ t
 | .tup l,v=>∃ a vs,v=.ref a ∧ ω a=0 ∧ IsTup h a vs.toArray ∧ Reps ω h l vs
 | .lst l,v=>∃ a vs,v=.ref a ∧ ω a=0 ∧ h.IsList a vs.toArray ∧ Reps ω h l vs
noncomputable def Reps (ω:Addr → Nat) (h:Heap):List PV → List Value → Prop
 | [],vs=>vs=[]
 | x::r,vs=>∃ v ws,vs=v::ws ∧ Rep ω h x v ∧ Reps ω h r ws
end
theorem isList_keep {h h':Heap} {a:Addr} {items:Array Value} (x:h.IsList a items) (k:∀ o,h.get? a=some o → h'.get? a=some o):h'.IsList a items:=let ⟨o,ho,r⟩:=x; ⟨o,k o ho,r⟩
theorem isTup_keep {h h':Heap} {a:Addr} {items:Array Value} (x:IsTup h a items) (k:∀ o,h.get? a=some o → h'.get? a=some o):IsTup h' a items:=let ⟨o,ho,r⟩:=x; ⟨o,k o ho,r⟩
theorem tup_there {h:Heap} {a:Addr} {items:Array Value} (x:IsTup h a items):∃ o,h.get? a=some o:=let ⟨o,ho,_⟩:=x; ⟨o,ho⟩
theorem lst_there {h:Heap} {a:Addr} {items:Array Value} (x:h.IsList a items):∃ o,h.get? a=some o:=let ⟨o,ho,_⟩:=x; ⟨o,ho⟩
noncomputable abbrev Frz (ω ω':Addr → Nat) (h h':Heap):Prop:=∀ a o,ω a=0 → h.get? a=some o → ω' a=0 ∧ h'.get? a=some o
section
variable {ω ω':Addr → Nat} {h h':Heap}
theorem Reps.mapP {P:PV → Prop} {xs:List PV} (hP:∀ x ∈ xs,∀ v,Rep ω h x v → Rep ω' h' x v):∀ {vs:List Value},Reps ω h xs vs → Reps ω' h' xs vs:=by
 induction xs with
 | nil=>exact id
 | cons x xs ih =>
  intro vs r
  obtain ⟨v,ws,e,a,r⟩:=r
  exact ⟨v,ws,e,hP x (.head _) v a,ih (fun x hx=>hP x (.tail _ hx)) r⟩
theorem Rep.keep (k:Frz ω ω' h h') {x:PV}:∀ {v:Value},Rep ω h x v → Rep ω' h' x v:=by
 refine PV.rec (motive_1:=fun x=>∀ {v:Value},Rep ω h x v → Rep ω' h' x v) (motive_2:=fun xs=>∀ {vs:List Value},Reps ω h xs vs → Reps ω' h' xs vs) id (fun _=>id) (fun _=>id) (fun _=>id) ?_ ?_ id ?_ x
 ·intro l ih v r
  obtain ⟨a,vs,e,z,t,r⟩:=r
  obtain ⟨o,ho⟩:=tup_there t
  exact ⟨a,vs,e,(k a o z ho).1,isTup_keep t fun o ho=>(k a o z ho).2,ih r⟩
 ·intro l ih v r
  obtain ⟨a,vs,e,z,t,r⟩:=r
  obtain ⟨o,ho⟩:=lst_there t
  exact ⟨a,vs,e,(k a o z ho).1,isList_keep t fun o ho=>(k a o z ho).2,ih r⟩
 ·intro x xs ihx ih vs r
  obtain ⟨v,ws,e,a,r⟩:=r
  exact ⟨v,ws,e,ihx a,ih r⟩
section
variable {xs ys:List PV}
theorem Reps.keep (k:Frz ω ω' h h'):∀ {vs:List Value},Reps ω h xs vs → Reps ω' h' xs vs:=Reps.mapP (P:=fun _=>True) fun _ _ _ r=>r.keep k
theorem Reps.length:∀ {vs:List Value},Reps ω h xs vs → vs.length=xs.length:=by
 induction xs with
 | nil=>intro vs r; exact congrArg List.length r
 | cons y xs ih=>intro vs r; obtain ⟨v,ws,rfl,_,r⟩:=r; exact congrArg (· + 1) (ih r)
theorem Reps.get:∀ {vs:List Value} (_:Reps ω h xs vs) {i:Nat} {x:PV},xs[i]?=some x → ∃ v,vs[i]?=some v ∧ Rep ω h x v:=by
 induction xs with
 | nil=>intro vs _ i x e; cases e
 | cons y xs ih =>
  intro vs r i x e
  obtain ⟨v,ws,rfl,a,r⟩:=r
  cases i with
  | zero=>exact ⟨v,rfl,Option.some.inj e ▸ a⟩
  | succ i=>exact ih r e
theorem Reps.append {ws:List Value} (b:Reps ω h ys ws):∀ {vs:List Value},Reps ω h xs vs → Reps ω h (xs ++ ys) (vs ++ ws):=by
 induction xs with
 | nil=>intro vs r; subst r; exact b
 | cons y xs ih=>intro vs r; obtain ⟨v,vs,rfl,a,r⟩:=r; exact ⟨v,_,rfl,a,ih r⟩
theorem Reps.one {v:Value} {x:PV} (a:Rep ω h x v):Reps ω h [x] [v]:=⟨v,[],rfl,a,rfl⟩
theorem Reps.set {v:Value} {x:PV} (b:Rep ω h x v):∀ {vs:List Value} (_:Reps ω h xs vs) (i:Nat),Reps ω h (xs.set i x) (vs.set i v):=by
 induction xs with
 | nil=>intro vs r i; subst r; rfl
 | cons y xs ih =>
  intro vs r i
  obtain ⟨w,ws,rfl,a,r⟩:=r
  cases i with
  | zero=>exact ⟨v,ws,rfl,b,r⟩
  | succ i=>exact ⟨w,_,rfl,a,ih r i⟩
theorem Reps.drop:∀ {vs:List Value} (_:Reps ω h xs vs) (i:Nat),Reps ω h (xs.drop i) (vs.drop i):=by
 induction xs with
 | nil=>intro vs r i; subst r; rw [List.drop_nil,List.drop_nil]; rfl
 | cons y xs ih =>
  intro vs r i
  cases i with
  | zero=>exact r
  | succ i=>obtain ⟨w,ws,rfl,a,r⟩:=r; exact ih r i
theorem Reps.take:∀ {vs:List Value} (_:Reps ω h xs vs) (i:Nat),Reps ω h (xs.take i) (vs.take i):=by
 induction xs with
 | nil=>intro vs r i; subst r; rw [List.take_nil,List.take_nil]; rfl
 | cons y xs ih =>
  intro vs r i
  cases i with
  | zero=>rfl
  | succ i=>obtain ⟨w,ws,rfl,a,r⟩:=r; exact ⟨w,_,rfl,a,ih r i⟩
theorem Reps.reverse:∀ {vs:List Value},Reps ω h xs vs → Reps ω h xs.reverse vs.reverse:=by
 induction xs with
 | nil=>intro vs r; subst r; rfl
 | cons y xs ih=>intro vs r; obtain ⟨w,ws,rfl,a,r⟩:=r; rw [List.reverse_cons,List.reverse_cons]; exact Reps.append (.one a) (ih r)
theorem Reps.replicate {v:Value} {x:PV} (a:Rep ω h x v) (n:Nat):Reps ω h (List.replicate n x) (List.replicate n v):=by
 induction n with
 | zero=>rfl
 | succ n ih=>exact ⟨v,_,rfl,a,ih⟩
theorem pslice_len {α:Type} (l:List α) (lo hi:Option Int):(pslice l lo hi).length ≤ l.length:=((List.take_sublist _ _).trans (List.drop_sublist _ _)).length_le
theorem Reps.slice {vs:List Value} (r:Reps ω h xs vs) (lo hi:Option Int):Reps ω h (pslice xs lo hi) (pslice vs lo hi):=by
 unfold pslice
 rw [r.length]
 exact (r.drop _).take _
end
theorem Rep.reads {x:PV}:∀ {v:Value} {n:Nat},Rep ω h x v → x.plain n=true → ∃ as,Reads h v x.toPy as:=by
 refine PV.rec (motive_1:=fun x=>∀ {v:Value} {n:Nat},Rep ω h x v → x.plain n=true → ∃ as,Reads h v x.toPy as) (motive_2:=fun xs=>∀ {vs:List Value} {n:Nat},Reps ω h xs vs → PV.plains xs n=true → ∃ as,ReadsAll h vs (PV.toPys xs) as)
  ?_ ?_ ?_ ?_ ?_ ?_ ?_ ?_ x
 ·intro v n r _; cases r; exact ⟨_,.none⟩
 ·intro b v n r _; cases r; exact ⟨_,.bool b⟩
 ·intro i v n r _; obtain ⟨t,rfl⟩:=r; exact ⟨_,.int i t⟩
 ·intro l v n r _; obtain ⟨t,rfl⟩:=r; exact ⟨_,.str _ t⟩
 ·intro l ih v n r e
  obtain ⟨a,vs,rfl,_,⟨o,ho,hc,k,hd⟩,r⟩:=r
  cases n with
  | zero=>cases e
  | succ n=>obtain ⟨as,q⟩:=ih (n:=n) r e; exact ⟨_,.tuple ho hc hd q⟩
 ·intro l ih v n r e
  obtain ⟨a,vs,rfl,_,⟨o,ho,hc,k,hd⟩,r⟩:=r
  cases n with
  | zero=>cases e
  | succ n=>obtain ⟨as,q⟩:=ih (n:=n) r e; exact ⟨_,.list ho hc hd q⟩
 ·intro vs n r _; cases r; exact ⟨_,.nil⟩
 ·intro x xs ihx ih vs n r e
  obtain ⟨v,ws,rfl,a,r⟩:=r
  obtain ⟨e1,e2⟩:=Bool.and_eq_true_iff.mp (show (PV.plain x n && PV.plains xs n)=true from e)
  obtain ⟨as,q⟩:=ihx a e1
  obtain ⟨bs,q'⟩:=ih r e2
  exact ⟨_,.cons q q'⟩
end
theorem depth_0 {x:PV} (n:Nat) (h:x.toPy.depth=0):x.toPy.depth ≤ n:=h ▸ n.zero_le
theorem plain_lay (x:PV):∀ n:Nat,x.plain n=true → x.toPy.canLay0=true ∧ x.toPy.depth ≤ n:=by
 refine PV.rec (motive_1:=fun x=>∀ n:Nat,x.plain n=true → x.toPy.canLay0=true ∧ x.toPy.depth ≤ n) (motive_2:=fun l=>∀ n:Nat,PV.plains l n=true → PyData.canLayAll0 (PV.toPys l)=true ∧ PyData.depthAll (PV.toPys l) ≤ n)
  ?_ ?_ ?_ ?_ ?_ ?_ ?_ ?_ x
 ·intro n _; exact ⟨rfl,depth_0 n (by rw [PV.toPy,PyData.depth])⟩
 ·intro b n _; exact ⟨rfl,depth_0 n (by rw [PV.toPy,PyData.depth])⟩
 ·intro i n _; exact ⟨rfl,depth_0 n (by rw [PV.toPy,PyData.depth])⟩
 ·intro l n e; exact ⟨by simpa [PV.plain,PV.toPy,PyData.canLay0,PyData.strOk] using e,depth_0 n (by rw [PV.toPy,PyData.depth])⟩
 ·intro l ih n e
  cases n with
  | zero=>cases e
  | succ n=>obtain ⟨a,b⟩:=ih n e; exact ⟨by rw [PV.toPy,PyData.canLay0]; exact a,by rw [PV.toPy,PyData.depth]; exact Nat.succ_le_succ b⟩
 ·intro l ih n e
  cases n with
  | zero=>cases e
  | succ n=>obtain ⟨a,b⟩:=ih n e; exact ⟨by rw [PV.toPy,PyData.canLay0]; exact a,by rw [PV.toPy,PyData.depth]; exact Nat.succ_le_succ b⟩
 ·intro n _; exact ⟨rfl,by rw [PV.toPys,PyData.depthAll]; exact n.zero_le⟩
 ·intro x xs ihx ih n e
  obtain ⟨e1,e2⟩:=Bool.and_eq_true_iff.mp (show (PV.plain x n && PV.plains xs n)=true from e)
  obtain ⟨a,b⟩:=ihx n e1
  obtain ⟨c,d⟩:=ih n e2
  exact ⟨by rw [PV.toPys,PyData.canLayAll0,a,c]; rfl,by rw [PV.toPys,PyData.depthAll]; exact Nat.max_le.mpr ⟨b,d⟩⟩
end
end Mp
end
section
open PySem PySem.W PyProof.Rows
set_option Elab.async false
set_option maxRecDepth 100000
namespace Mp
noncomputable section
noncomputable abbrev RT:=End → Shared → Prop
noncomputable def callI (M:Model) (Γ:Ctx) (p:Pos) (e:End) (s':Shared) (k:Result → Sem Fin) (h:Option Value) (g:Bool) (l:List Value) (s₁:Shared):End → Prop
 | .ret r=>Runs M Γ p (k r) [] s₁ e s'
 | .susp v g₀ l₀ k₀ c₀ p₀ fs=>e=.susp v g₀ l₀ k₀ c₀ p₀ (fs ++ [.ret k h g l Γ.code p []]) ∧ s'=s₁
noncomputable def stepI (M:Model) (Γ:Ctx) (p:Pos) (s:Shared) (e:End) (s':Shared):Sem Fin → Prop
 | .pure (.done f)=>e=.ret (.ok f) ∧ s'=s
 | .raise x=>e=.ret (.error x) ∧ s'=s
 | .pure (.again c)=>Runs M (Γ.goto c) p (M.den c) [] s e s'
 | .rule _ k=>Runs M Γ p (k ()) [] s e s'
 | .at p k=>Runs M Γ p (k ()) [] s e s'
 | .load a _ k=>∃ o,s.heap.get? a=some o ∧ Runs M Γ p (k o) [] s e s'
 | .update a _ f k=>Runs M Γ p (k ()) [] { s with heap:=s.heap.update a f } e s'
 | .loadIfAlive a k=>Runs M Γ p (k (s.heap.get? a)) [] s e s'
 | .point _ k=>Runs M Γ p (k ()) [] s e s'
 | .alloc o k=>Runs M Γ p (k s.heap.objs.size) [] { s with heap:=s.heap.push o } e s'
 | .fresh k=>Runs M Γ p (k s.toks) [] { s with toks:=s.toks + 1 } e s'
 | .ask k=>Runs M Γ p (k ⟨M.prog,M.w.params⟩) [] s e s'
 | .choose src n k=>Runs M Γ p (k (M.w.draws src (s.drawn.get src) % n)) [] { s with drawn:=s.drawn.bump src } e s'
 | .os q _ k=>Runs M Γ p (k (Os.step s.os q).2) [] { s with os:=(Os.step s.os q).1 } e s'
 | .handled own k=>Runs M Γ p (k (if own then Γ.own else Γ.handled)) [] s e s'
 | .genState g k=>∃ st,s.gens[g]?=some st ∧ Runs M Γ p (k st.seen) [] s e s'
 | .stack k=>Runs M Γ p (k ((Γ.code,p)::Γ.below)) [] s e s'
 | .thread k=>Runs M Γ p (k 0) [] s e s'
 | .newGen c k=>Runs M Γ p (k s.gens.size) [] { s with gens:=s.gens.push (.fresh c) } e s'
 | .call c h g l k=>∃ e₁ s₁,Runs M (Γ.enter c h p) p (M.den c) [] s e₁ s₁ ∧ callI M Γ p e s' k h g l s₁ e₁
 | .yield v g l k=>e=.susp v g l k Γ.code p [] ∧ s'=s
 | .resume g r _ k=>∃ b sb,Wakes M Γ p g r s b sb ∧ Runs M Γ p (k b) [] sb e s'
 | _=>False
noncomputable def segI (M:Model) (Γ:Ctx) (e:End) (s':Shared) (F:Frame) (fs:List Frame) (s₁:Shared):End → Prop
 | .ret r=>match F with
  | .ret k _ _ _ c₁ p₁ _=>Runs M (Γ.goto c₁) p₁ (k r) fs s₁ e s'
  | .gen g k _ c₁ p₁=>Runs M (Γ.goto c₁) p₁ (k (End.ret r).result) fs (s₁.setGen g .finished) e s'
 | .susp v g₀ l₀ k₀ c₀ p₀ fs₀=>match splitAtGen (F::fs) with
  | none=>e=.susp v g₀ l₀ k₀ c₀ p₀ (fs₀ ++ F::fs) ∧ s'=s₁
  | some (pre,(g,k,c₁,p₁),rest)=>Runs M (Γ.goto c₁) p₁ (k (.yielded v)) rest (s₁.setGen g (End.susp v g₀ l₀ k₀ c₀ p₀ (fs₀ ++ pre)).genState) e s'
noncomputable def runI (M:Model) (Γ:Ctx) (p:Pos) (t:Sem Fin) (s:Shared) (e:End) (s':Shared):List Frame → Prop
 | []=>stepI M Γ p s e s' t
 | F::fs=>∃ e₁ s₁,Runs M (Γ.over (F::fs)) p t [] s e₁ s₁ ∧ segI M Γ e s' F fs s₁ e₁
theorem seg_none {M:Model} {Γ:Ctx} {e:End} {s':Shared} {F:Frame} {fs:List Frame} (hn:splitAtGen (F::fs)=none) {s₁:Shared} {v g₀ l₀ k₀ c₀ p₀ fs₀}:segI M Γ e s' F fs s₁ (.susp v g₀ l₀ k₀ c₀ p₀ fs₀)=(e=.susp v g₀ l₀ k₀ c₀ p₀ (fs₀ ++ F::fs) ∧ s'=s₁):=by
 unfold segI; rw [hn]
theorem seg_some {M:Model} {Γ:Ctx} {e:End} {s':Shared} {F:Frame} {fs pre rest:List Frame} {g k c₁ p₁} (hn:splitAtGen (F::fs)=some (pre,(g,k,c₁,p₁),rest)) {s₁:Shared} {v g₀ l₀ k₀ c₀ p₀ fs₀} :
  segI M Γ e s' F fs s₁ (.susp v g₀ l₀ k₀ c₀ p₀ fs₀)=Runs M (Γ.goto c₁) p₁ (k (.yielded v)) rest (s₁.setGen g (End.susp v g₀ l₀ k₀ c₀ p₀ (fs₀ ++ pre)).genState) e s':=by
 unfold segI; rw [hn]
noncomputable def freshI (M:Model) (Γ:Ctx) (p:Pos) (g:Nat) (s:Shared) (a:GenResult) (s1:Shared) (c:Code):Resume → Prop
 | .send .none=>∃ e₁ s₁,Runs M (Γ.wake c p) p (M.den c) [] (s.setGen g .running) e₁ s₁ ∧ e₁.quiet=true ∧ a=e₁.result ∧ s1=s₁.setGen g e₁.genState
 | .send _=>a=.justStarted ∧ s1=s
 | .throw x=>a=.raised x ∧ s1=s.setGen g .finished
noncomputable def wokeI (M:Model) (Γ:Ctx) (p:Pos) (g:Nat) (r:Resume) (s:Shared) (a:GenResult) (s1:Shared):GenState → Prop
 | .fresh c=>freshI M Γ p g s a s1 c r
 | .suspended k₀ _ c₀ p₀ fs _=>∃ e₁ s₁,Runs M (Γ.wake c₀ p) p₀ (k₀ r) fs (s.setGen g .running) e₁ s₁ ∧ e₁.quiet=true ∧ a=e₁.result ∧ s1=s₁.setGen g e₁.genState
 | .running=>a=.running ∧ s1=s
 | .finished=>a=.finished ∧ s1=s
theorem fresh_send {M:Model} {Γ:Ctx} {p:Pos} {g:Nat} {s:Shared} {a:GenResult} {s1:Shared} {c:Code} {v:Value} (hv:v ≠ .none):freshI M Γ p g s a s1 c (.send v)=(a=.justStarted ∧ s1=s):=by
 cases v <;> first | exact absurd rfl hv | rfl
theorem wakes_some {M:Model} {Γ:Ctx} {p:Pos} {g:Nat} {r:Resume} {s s1:Shared} {a:GenResult} {x:GenState} (hg:s.gens[g]?=some x) (h:wokeI M Γ p g r s a s1 x):Wakes M Γ p g r s a s1:=by
 unfold Wakes; rw [hg]; cases x <;> exact h
theorem runs_inv {M:Model} {Γ:Ctx} {p:Pos} {t:Sem Fin} {fs:List Frame} {s s':Shared} {e:End} (h:Runs M Γ p t fs s e s'):runI M Γ p t s e s' fs:=by
 induction h with
 | done=>exact ⟨rfl,rfl⟩
 | raise=>exact ⟨rfl,rfl⟩
 | again _ r _=>exact r
 | rule r _=>exact r
 | «at» r _=>exact r
 | load ho r _=>exact ⟨_,ho,r⟩
 | update _ r _=>exact r
 | loadIfAlive r _=>exact r
 | point r _=>exact r
 | alloc r _=>exact r
 | fresh r _=>exact r
 | ask r _=>exact r
 | choose _ r _=>exact r
 | os r _=>exact r
 | handled r _=>exact r
 | genState hg r _=>exact ⟨_,hg,r⟩
 | stack r _=>exact r
 | thread r _=>exact r
 | newGen r _=>exact r
 | call r1 r2 _ _=>exact ⟨_,_,r1,r2⟩
 | callSusp r1 _=>exact ⟨_,_,r1,rfl,rfl⟩
 | yield=>exact ⟨rfl,rfl⟩
 | resumeFresh hg r1 q r2 _ _=>exact ⟨_,_,wakes_some hg ⟨_,_,r1,q,rfl,rfl⟩,r2⟩
 | resumeSuspended hg r1 q r2 _ _=>exact ⟨_,_,wakes_some hg ⟨_,_,r1,q,rfl,rfl⟩,r2⟩
 | resumeJustStarted hg hv r _=>exact ⟨_,_,wakes_some hg ((fresh_send hv).mpr ⟨rfl,rfl⟩),r⟩
 | resumeThrowFresh hg r _=>exact ⟨_,_,wakes_some hg ⟨rfl,rfl⟩,r⟩
 | resumeRunning hg r _=>exact ⟨_,_,wakes_some hg ⟨rfl,rfl⟩,r⟩
 | resumeFinished hg r _=>exact ⟨_,_,wakes_some hg ⟨rfl,rfl⟩,r⟩
 | segRet r1 r2 _ _=>exact ⟨_,_,r1,r2⟩
 | segGen r1 r2 _ _=>exact ⟨_,_,r1,r2⟩
 | segSuspOut hn r1 _=>exact ⟨_,_,r1,(seg_none hn).mpr ⟨rfl,rfl⟩⟩
 | segSuspGen hn r1 q r2 _ _=>exact ⟨_,_,r1,(seg_some hn).mpr r2⟩
noncomputable def One (M:Model) (Γ:Ctx) (p:Pos) (t:Sem Fin) (fs:List Frame) (s:Shared) (e:End) (s':Shared):Prop:=∀ {e2:End} {s2:Shared},Runs M Γ p t fs s e2 s2 → e2=e ∧ s2=s'
theorem both {e e2:End} {s s2:Shared} (h:e2=e ∧ s2=s) (P:RT) (x:P e2 s2):P e s:=h.1 ▸ h.2 ▸ x
theorem wakes_is {M:Model} {Γ:Ctx} {p:Pos} {g:Nat} {r:Resume} {s s1:Shared} {a:GenResult} {x:GenState} (hg:s.gens[g]?=some x) (h:Wakes M Γ p g r s a s1):wokeI M Γ p g r s a s1 x:=by
 unfold Wakes at h; rw [hg] at h; cases x <;> exact h
theorem at_res {M:Model} {Γ:Ctx} {p:Pos} {s':Shared} {e:End} {b:GenResult} {sb:Shared} {k:GenResult → Sem Fin} (ih:One M Γ p (k b) [] sb e s') {b2:GenResult} {sb2:Shared} (h:b2=b ∧ sb2=sb) {e2:End} {s2:Shared} (r:Runs M Γ p (k b2) [] sb2 e2 s2):e2=e ∧ s2=s':=by
 obtain ⟨rfl,rfl⟩:=h; exact ih r
theorem at_woken {M:Model} {Γ':Ctx} {p':Pos} {t:Sem Fin} {fs:List Frame} {s s1:Shared} {e1:End} {g:Nat} (ih1:One M Γ' p' t fs s e1 s1) {b:GenResult} {sb:Shared} (h:∃ e₁ s₁,Runs M Γ' p' t fs s e₁ s₁ ∧ e₁.quiet=true ∧ b=e₁.result ∧ sb=s₁.setGen g e₁.genState):b=e1.result ∧ sb=s1.setGen g e1.genState:=by
 obtain ⟨e₁,s₁,r,_,rfl,rfl⟩:=h
 obtain ⟨rfl,rfl⟩:=ih1 r
 exact ⟨rfl,rfl⟩
theorem runs_det {M:Model} {Γ:Ctx} {p:Pos} {t:Sem Fin} {fs:List Frame} {s s':Shared} {e:End} (h:Runs M Γ p t fs s e s'):One M Γ p t fs s e s':=by
 induction h with
 | done=>exact fun h2=>runs_inv h2
 | raise=>exact fun h2=>runs_inv h2
 | again _ _ ih=>exact fun h2=>ih (runs_inv h2)
 | rule _ ih=>exact fun h2=>ih (runs_inv h2)
 | «at» _ ih=>exact fun h2=>ih (runs_inv h2)
 | load ho _ ih=>exact fun h2=>let ⟨_,e,r⟩:=runs_inv h2; ih (Option.some.inj (ho.symm.trans e) ▸ r)
 | update _ _ ih=>exact fun h2=>ih (runs_inv h2)
 | loadIfAlive _ ih=>exact fun h2=>ih (runs_inv h2)
 | point _ ih=>exact fun h2=>ih (runs_inv h2)
 | alloc _ ih=>exact fun h2=>ih (runs_inv h2)
 | fresh _ ih=>exact fun h2=>ih (runs_inv h2)
 | ask _ ih=>exact fun h2=>ih (runs_inv h2)
 | choose _ _ ih=>exact fun h2=>ih (runs_inv h2)
 | os _ ih=>exact fun h2=>ih (runs_inv h2)
 | handled _ ih=>exact fun h2=>ih (runs_inv h2)
 | genState hg _ ih=>exact fun h2=>let ⟨_,e,r⟩:=runs_inv h2; ih (Option.some.inj (hg.symm.trans e) ▸ r)
 | stack _ ih=>exact fun h2=>ih (runs_inv h2)
 | thread _ ih=>exact fun h2=>ih (runs_inv h2)
 | newGen _ ih=>exact fun h2=>ih (runs_inv h2)
 | call _ _ ih1 ih2=>exact fun h2=>let ⟨_,_,r,q⟩:=runs_inv h2; ih2 (both (ih1 r) (fun e₁ s₁=>callI _ _ _ _ _ _ _ _ _ s₁ e₁) q)
 | callSusp _ ih1=>exact fun h2=>let ⟨_,_,r,q⟩:=runs_inv h2; both (ih1 r) (fun e₁ s₁=>callI _ _ _ _ _ _ _ _ _ s₁ e₁) q
 | yield=>exact fun h2=>runs_inv h2
 | resumeFresh hg _ _ _ ih1 ih2=>exact fun h2=>let ⟨_,_,w,r⟩:=runs_inv h2; at_res ih2 (at_woken ih1 (wakes_is hg w)) r
 | resumeSuspended hg _ _ _ ih1 ih2=>exact fun h2=>let ⟨_,_,w,r⟩:=runs_inv h2; at_res ih2 (at_woken ih1 (wakes_is hg w)) r
 | resumeJustStarted hg hv _ ih=>exact fun h2=>let ⟨_,_,w,r⟩:=runs_inv h2; at_res ih ((fresh_send hv).mp (wakes_is hg w)) r
 | resumeThrowFresh hg _ ih=>exact fun h2=>let ⟨_,_,w,r⟩:=runs_inv h2; at_res ih (wakes_is hg w) r
 | resumeRunning hg _ ih=>exact fun h2=>let ⟨_,_,w,r⟩:=runs_inv h2; at_res ih (wakes_is hg w) r
 | resumeFinished hg _ ih=>exact fun h2=>let ⟨_,_,w,r⟩:=runs_inv h2; at_res ih (wakes_is hg w) r
 | segRet _ _ ih1 ih2=>exact fun h2=>let ⟨_,_,r,q⟩:=runs_inv h2; ih2 (both (ih1 r) (fun e₁ s₁=>segI _ _ _ _ _ _ s₁ e₁) q)
 | segGen _ _ ih1 ih2=>exact fun h2=>let ⟨_,_,r,q⟩:=runs_inv h2; ih2 (both (ih1 r) (fun e₁ s₁=>segI _ _ _ _ _ _ s₁ e₁) q)
 | segSuspOut hn _ ih1=>exact fun h2=>let ⟨_,_,r,q⟩:=runs_inv h2; (seg_none hn).mp (both (ih1 r) (fun e₁ s₁=>segI _ _ _ _ _ _ s₁ e₁) q)
 | segSuspGen hn _ _ _ ih1 ih2=>exact fun h2=>let ⟨_,_,r,q⟩:=runs_inv h2; ih2 ((seg_some hn).mp (both (ih1 r) (fun e₁ s₁=>segI _ _ _ _ _ _ s₁ e₁) q))
theorem wakes_det {M:Model} {Γ:Ctx} {p:Pos} {g:Nat} {r:Resume} {s s1 s2:Shared} {a b:GenResult} (h:Wakes M Γ p g r s a s1) (h':Wakes M Γ p g r s b s2):b=a ∧ s2=s1:=by
 cases hg:s.gens[g]? with
 | none=>unfold Wakes at h; rw [hg] at h; exact h.elim
 | some x =>
  have w:=wakes_is hg h
  have w':=wakes_is hg h'
  have same:∀ {a':GenResult} {s':Shared},(a=a' ∧ s1=s') → (b=a' ∧ s2=s') → b=a ∧ s2=s1:=fun q q'=>⟨q'.1.trans q.1.symm,q'.2.trans q.2.symm⟩
  have woke:∀ {Γ':Ctx} {p':Pos} {t:Sem Fin} {fs:List Frame} {s0:Shared},(∃ e₁ s₁,Runs M Γ' p' t fs s0 e₁ s₁ ∧ e₁.quiet=true ∧ a=e₁.result ∧ s1=s₁.setGen g e₁.genState) → (∃ e₁ s₁,Runs M Γ' p' t fs s0 e₁ s₁ ∧ e₁.quiet=true ∧ b=e₁.result ∧ s2=s₁.setGen g e₁.genState) → b=a ∧ s2=s1 :=
   fun q q'=>let ⟨_,_,r,_,q1,q2⟩:=q; same ⟨q1,q2⟩ (at_woken (runs_det r) q')
  clear h h' hg
  cases x with
  | fresh c =>
   cases r with
   | send v =>
    by_cases hv:v=.none
    ·subst hv; exact woke w w'
    ·exact same ((fresh_send hv).mp w) ((fresh_send hv).mp w')
   | throw x=>exact same w w'
  | suspended=>exact woke w w'
  | running=>exact same w w'
  | finished=>exact same w w'
theorem wp_both {α:Type} (M:Model) (Γ:Ctx) (t:Sem α):∀ (Q Q':α → Pos → Shared → Prop) (E E':Value → Pos → Shared → Prop) (p:Pos) (s:Shared),
  Sem.wp M Γ t Q E p s → Sem.wp M Γ t Q' E' p s → Sem.wp M Γ t (fun a p' s'=>Q a p' s' ∧ Q' a p' s') (fun e p' s'=>E e p' s' ∧ E' e p' s') p s:=by
 induction t with
 | pure a=>intro Q Q' E E' p s h h'; exact ⟨h,h'⟩
 | raise e=>intro Q Q' E E' p s h h'; exact ⟨h,h'⟩
 | unsupported _=>intro Q Q' E E' p s h; exact h.elim
 | finish _=>intro Q Q' E E' p s h; exact h.elim
 | rule _ k ih=>intro Q Q' E E' p s h h'; exact ih () Q Q' E E' p s h h'
 | «at» p' k ih=>intro Q Q' E E' p s h h'; exact ih () Q Q' E E' p' s h h'
 | load a _ k ih =>
  intro Q Q' E E' p s h h'
  obtain ⟨o,ho,h⟩:=h; obtain ⟨o',ho',h'⟩:=h'
  rw [ho] at ho'; cases ho'
  exact ⟨o,ho,ih o Q Q' E E' p s h h'⟩
 | update a _ f k ih=>intro Q Q' E E' p s h h'; exact ⟨h.1,ih () Q Q' E E' p _ h.2 h'.2⟩
 | loadIfAlive a k ih=>intro Q Q' E E' p s h h'; exact ih _ Q Q' E E' p s h h'
 | point _ k ih=>intro Q Q' E E' p s h h'; exact ih () Q Q' E E' p s h h'
 | register _ _=>intro Q Q' E E' p s h; exact h.elim
 | alloc o k ih=>intro Q Q' E E' p s h h'; exact ih _ Q Q' E E' p _ h h'
 | fresh k ih=>intro Q Q' E E' p s h h'; exact ih _ Q Q' E E' p _ h h'
 | ask k ih=>intro Q Q' E E' p s h h'; exact ih _ Q Q' E E' p s h h'
 | choose src m k ih=>intro Q Q' E E' p s h h'; exact ⟨h.1,ih _ Q Q' E E' p _ h.2 h'.2⟩
 | os q _ k ih=>intro Q Q' E E' p s h h'; exact ih _ Q Q' E E' p _ h h'
 | call c hd _ _ k ih =>
  intro Q Q' E E' p s h h'
  obtain ⟨r,s1,hr,h⟩:=h; obtain ⟨r',s1',hr',h'⟩:=h'
  obtain ⟨q,q'⟩:=runs_det hr hr'
  cases q; cases q'
  exact ⟨r,s1,hr,ih r Q Q' E E' p s1 h h'⟩
 | handled own k ih=>intro Q Q' E E' p s h h'; exact ih _ Q Q' E E' p s h h'
 | genState g k ih =>
  intro Q Q' E E' p s h h'
  obtain ⟨st,hs,h⟩:=h; obtain ⟨st',hs',h'⟩:=h'
  rw [hs] at hs'; cases hs'
  exact ⟨st,hs,ih _ Q Q' E E' p s h h'⟩
 | newGen c k ih=>intro Q Q' E E' p s h h'; exact ih _ Q Q' E E' p _ h h'
 | resume g r _ k ih =>
  intro Q Q' E E' p s h h'
  obtain ⟨res,s1,hw,h⟩:=h; obtain ⟨res',s1',hw',h'⟩:=h'
  obtain ⟨q,q'⟩:=wakes_det hw hw'
  cases q; cases q'
  exact ⟨res,s1,hw,ih res Q Q' E E' p s1 h h'⟩
 | yield _ _ _ _=>intro Q Q' E E' p s h; exact h.elim
 | stack k ih=>intro Q Q' E E' p s h h'; exact ih _ Q Q' E E' p s h h'
 | fork _ _=>intro Q Q' E E' p s h; exact h.elim
 | thread k ih=>intro Q Q' E E' p s h h'; exact ih _ Q Q' E E' p s h h'
 | await _ _ _ _ _=>intro Q Q' E E' p s h; exact h.elim
theorem any_both {α:Type} {M:Model} {A:Around} {t:Sem α} {Q Q':α → Shared → Prop} {E E':Value → Shared → Prop} {s:Shared} (h:wpAny M A t Q E s) (h':wpAny M A t Q' E' s) :
  wpAny M A t (fun a s'=>Q a s' ∧ Q' a s') (fun e s'=>E e s' ∧ E' e s') s :=
 fun Γ p hΓ=>wp_both M Γ t _ _ _ _ p s (h Γ p hΓ) (h' Γ p hΓ)
end
end Mp
end
section
open PySem PySem.W PyProof.Rows
set_option Elab.async false
set_option maxRecDepth 100000
set_option maxHeartbeats 2000000
set_option linter.unusedVariables false
namespace Mp
noncomputable section
noncomputable def others (h:Heap) (L:Addr):List (Addr × Obj):=(List.range h.objs.size).filterMap fun a=>if a=L then none else (h.get? a).map fun o=>(a,o)
theorem mem_others {h:Heap} {L b:Addr} {o:Obj} (e:h.get? b=some o) (n:b ≠ L):(b,o) ∈ others h L :=
 List.mem_filterMap.mpr ⟨b,List.mem_range.mpr (Heap.lt_size e),by rw [if_neg n,e]; rfl⟩
theorem empty_get (a:Addr):({}:Heap).get? a=none:=rfl
theorem others_news (h:Heap) (L:Addr):News {} L h (others h L):=fun p hp=>by
 obtain ⟨a,_,e⟩:=List.mem_filterMap.mp hp
 by_cases q:a=L
 ·rw [if_pos q] at e; cases e
 ·rw [if_neg q] at e
  obtain ⟨o,g,e⟩:=Option.map_eq_some_iff.mp e
  subst e
  exact ⟨g,q,empty_get _⟩
theorem fr_any {h:Heap} {L:Addr} {m:Str → Option Value} (n:h.Ns L m):Fr {} L h m:=⟨n,fun b o e=>(nomatch (empty_get b).symm.trans e),Nat.zero_le _⟩
theorem keeps_of_news {h h':Heap} {L:Addr} {l:List (Addr × Obj)} (N:News {} L h' (l ++ others h L)):∀ b o,b ≠ L → h.get? b=some o → h'.get? b=some o :=
 fun b o n e=>(N (b,o) (List.mem_append_right _ (mem_others e n))).1
theorem none_at (h:Heap):h.get? h.objs.size=none:=Heap.get?_none_of_le (Nat.le_refl _)
theorem ne_there {h:Heap} {a b:Addr} {o:Obj} (ha:h.get? a=none) (hb:h.get? b=some o):b ≠ a:=fun q=>by rw [q,ha] at hb; cases hb
theorem fresh_of {h:Heap} {L D:Addr} (hne:D ≠ L) (lt:∀ p ∈ others h L,p.1 < D):h.get? D=none:=by
 cases e:h.get? D with
 | none=>rfl
 | some o=>exact absurd (lt _ (mem_others e hne)) (Nat.lt_irrefl _)
noncomputable abbrev Out (ω:Addr → Nat) (s:Shared) (z:PV) (Q:Value → Shared → Prop):Prop :=
 ∀ val h' t',Kept s.heap h' → Rep ω h' z val → Q val { s with heap:=h',toks:=t' }
noncomputable abbrev OutL (s:Shared) (vs:List Value) (Q:Value → Shared → Prop):Prop :=
 ∀ D h' t',Kept s.heap h' → s.heap.get? D=none → h'.PlainList D vs.toArray → Q (.ref D) { s with heap:=h',toks:=t' }
theorem plain_is {h:Heap} {a:Addr} {items:Array Value} (p:h.PlainList a items):h.IsList a items:=p.elim fun n e=>⟨_,e,rfl,n,rfl⟩
noncomputable abbrev Lt (ω:Addr → Nat) (h:Heap):Prop:=∀ a,ω a ≠ 0 → ∃ o,h.get? a=some o
theorem Lt.fresh {ω:Addr → Nat} {h:Heap} (lt:Lt ω h) {D:Addr} (hD:h.get? D=none):ω D=0:=by
 cases e:ω D with
 | zero=>rfl
 | succ n=>obtain ⟨o,h⟩:=lt D (by rw [e]; nofun); rw [hD] at h; cases h
theorem frz_of {ω:Addr → Nat} {h h':Heap} (k:Kept h h'):Frz ω ω h h':=fun a o z e=>⟨z,k a o e⟩
structure Tops (h:Heap):Prop where
 g:∃ mg,h.Ns mainGlobals mg
 b:∃ mb,h.Ns builtinsNs mb
 nolimit:h.NoLimit
theorem qInt_some {α:Type} {v:PV} {k:Int → Option α} {r:α} (e:qInt v k=some r):∃ i,v=.int i ∧ k i=some r:=by
 cases v <;> first | exact ⟨_,rfl,e⟩ | cases e
theorem qStr_some {α:Type} {v:PV} {k:List Nat → Option α} {r:α} (e:qStr v k=some r):∃ i,v=.str i ∧ k i=some r:=by
 cases v <;> first | exact ⟨_,rfl,e⟩ | cases e
theorem qLst_some {α:Type} {v:PV} {k:List PV → Option α} {r:α} (e:qLst v k=some r):∃ i,v=.lst i ∧ k i=some r:=by
 cases v <;> first | exact ⟨_,rfl,e⟩ | cases e
theorem gO_some {α:Type} {c:Prop} [Decidable c] {x r:α} (e:gO c x=some r):c ∧ x=r:=by
 by_cases q:c
 ·exact ⟨q,Option.some.inj ((if_pos q).symm.trans e)⟩
 ·exact nomatch (if_neg q).symm.trans e
theorem line_le {n:Nat} (h:n ≤ strLine):n ≤ sizeLine:=by rw [strLine_eq] at h; exact h
theorem fits_line {n:Nat} (h:n ≤ strLine):(n:Int) < 2 ^ 63:=by rw [strLine_eq] at h; omega
section
variable {prog:Program} {w:World} {A:Around} {E:Value → Shared → Prop} {s:Shared} {ω:Addr → Nat} {Q:Value → Shared → Prop} {a b:Value} {x y z:PV}
theorem exactly {α:Type} {M:Model} {t:Sem α} {Q:α → Shared → Prop} (T:Tops s.heap)
  (h:∀ L m,s.heap.Ns L m → wpAny M A t (fun a s'=>(∀ b o,b ≠ L → s.heap.get? b=some o → s'.heap.get? b=some o) ∧ Q a s') E s) :
  wpAny M A t (fun a s'=>Kept s.heap s'.heap ∧ Q a s') E s:=by
 obtain ⟨⟨_,g⟩,⟨_,b⟩,_⟩:=T
 refine wpAny_mono (any_both (h _ _ g) (h _ _ b)) (fun _ _ x=>⟨fun c o e=>?_,x.1.2⟩) fun _ _ x=>x.1
 by_cases q:c=mainGlobals
 ·exact x.2.1 c o (fun z=>absurd (q.symm.trans z) (by decide)) e
 ·exact x.1.1 c o q e
theorem out_int {i:Int} {t u:Tok} (h:Out ω s (.int i) Q):Q (.int i t) { s with toks:=u }:=h _ s.heap u (fun _ _ e=>e) ⟨t,rfl⟩
theorem out_bool {i:Bool} {u:Tok} (h:Out ω s (.bool i) Q):Q (.bool i) { s with toks:=u }:=h _ s.heap u (fun _ _ e=>e) rfl
theorem out_bool' {i:Bool} (h:Out ω s (.bool i) Q):Q (.bool i) s:=h _ s.heap s.toks (fun _ _ e=>e) rfl
theorem out_str {l:List Nat} {v:Str} {t u:Tok} (e:v.cps.toList=l) (h:Out ω s (.str l) Q):Q (.str v t) { s with toks:=u }:=h _ s.heap u (fun _ _ e=>e) ⟨t,by rw [← e]⟩
theorem out_lst {l:List PV} {vs:List Value} (lt:Lt ω s.heap) (r:Reps ω s.heap l vs) (h:Out ω s (.lst l) Q):OutL s vs Q :=
 fun D h' t' k hD hp=>h _ h' t' k ⟨D,vs,rfl,lt.fresh hD,plain_is hp,r.keep (frz_of k)⟩
noncomputable def opOf:Bop → Operator
 | .add=>.Add | .sub=>.Sub | .mul=>.Mult | .fdiv=>.FloorDiv | .mod=>.Mod | .pow=>.Pow | .shl=>.LShift | .shr=>.RShift | .band=>.BitAnd
theorem bits_le {a:Int} (h:a.natAbs < 2 ^ 64):Builtin.Int.intBits a ≤ 64:=by
 unfold Builtin.Int.intBits
 split
 ·exact Nat.zero_le _
 ·rename_i q
  exact Nat.succ_le_of_lt ((Nat.log2_lt (by simpa using q)).mpr h)
theorem add_lsts {l l':Addr} {vs ws:List Value} (T:Tops s.heap) (il:s.heap.IsList l vs.toArray) (il':s.heap.IsList l' ws.toArray) (hl:vs.length + ws.length ≤ sizeLine) (h:OutL s (vs ++ ws) Q) :
  wpAny (model prog w) A (binaryOp .Add (.ref l) (.ref l')) Q E s:=by
 refine wpAny_mono (exactly (Q:=fun v s'=>∃ h',v=.ref s.heap.objs.size ∧ s'={ s with heap:=h' } ∧ h'.get? s.heap.objs.size=some { cls:=.type "list",data:=.seq (vs ++ ws).toArray }) T fun L m n=>?_) (fun v s' q=>?_) fun _ _ q=>q
 ·exact add_lists (fr_any n) (others_news s.heap L) il il' (fun h' F N=>⟨keeps_of_news (l:=[_]) N,h',rfl,rfl,(N _ (.head _)).1⟩) hl
 ·obtain ⟨k,h',rfl,rfl,ho⟩:=q
  exact h _ h' s.toks k (none_at _) ⟨0,ho⟩
theorem mul_lst {l:Addr} {v:Value} {n:Int} {u:Tok} (T:Tops s.heap) (il:s.heap.IsList l [v].toArray) (h0:0 ≤ n) (h1:n ≤ 256) (h:OutL s (List.replicate n.toNat v) Q) :
  wpAny (model prog w) A (binaryOp .Mult (.ref l) (.int n u)) Q E s:=by
 refine wpAny_mono (exactly (Q:=fun v' s'=>∃ D h',v'=.ref D ∧ s'={ s with heap:=h' } ∧ s.heap.get? D=none ∧ h'.get? D=some (listOf (List.replicate n.toNat v).toArray 0)) T fun L m N₀=>?_) (fun v s' q=>?_) fun _ _ q=>q
 ·refine KMa.mul (fr_any N₀) (others_news s.heap L) il (by omega) (by omega) (by simp; omega) (ws:=List.replicate n.toNat v) (by simp) fun D h' F N lt=>⟨keeps_of_news (l:=[_]) N,D,h',rfl,rfl,?_,(N _ (.head _)).1⟩
  exact fresh_of (N _ (.head _)).2.1 lt
 ·obtain ⟨k,D,h',rfl,rfl,hD,ho⟩:=q
  exact h D h' s.toks k hD ⟨0,ho⟩
theorem fold_rep (c:Nat) (k:Nat):∀ acc:Array Nat,((List.replicate k [c].toArray).foldl (· ++ ·) acc).toList=acc.toList ++ List.replicate k c:=by
 induction k with
 | zero=>intro acc; exact (List.append_nil _).symm
 | succ k ih=>intro acc; rw [List.replicate_succ,List.foldl_cons,ih,List.replicate_succ,Array.toList_append,List.append_assoc]; rfl
theorem mul_sign {c:Nat} {n:Int} {t u:Tok} (h1:1 < n) (h2:n ≤ 256) (h:Out ω s (.str (List.replicate n.toNat c)) Q):wpAny (model prog w) A (binaryOp .Mult (.str ⟨[c].toArray⟩ t) (.int n u)) Q E s:=by
 have h3:¬ n < 1:=by omega
 have h4:¬ (n == 1 || (⟨[c].toArray⟩:Str).length == 0)=true:=by
  have:(n == 1)=false:=by simp; omega
  rw [this]; exact Bool.false_ne_true
 have hn:n.toNat ≤ 256:=by omega
 have hf:=fold_rep c n.toNat #[]
 refine P.mul_str ?_ (fun _ _=>?_) (fun _ _=>?_) ?_
 ·simp; omega
 ·show ¬ ((1:Nat):Int) > _
  have:(1:Int) ≤ (2 ^ 63 - 1) / n:=by
   rw [Int.le_ediv_iff_mul_le (by omega)]; omega
  omega
 ·show decide (1 * n.toNat > sizeLine)=false
  rw [Nat.one_mul]
  exact decide_eq_false (Nat.not_lt.mpr (Nat.le_trans hn (by decide)))
 ·rw [if_neg h3,if_neg h4]
  refine ⟨?_,out_str hf h⟩
  show ((List.replicate n.toNat [c].toArray).foldl (· ++ ·) #[]).size ≤ sizeLine
  rw [← Array.length_toList,hf,show (#[]:Array Nat).toList ++ List.replicate n.toNat c=List.replicate n.toNat c from rfl,List.length_replicate]
  exact Nat.le_trans hn (by decide)
theorem op_ints {f:Int → Int → Option PV} (e:intP f x y=some z) (ra:Rep ω s.heap x a) (rb:Rep ω s.heap y b) {P:Prop} (h:∀ i j t u,a=.int i t → b=.int j u → f i j=some z → P):P:=by
 obtain ⟨i,rfl,e1⟩:=qInt_some e
 obtain ⟨j,rfl,e2⟩:=qInt_some e1
 obtain ⟨t,rfl⟩:=ra
 obtain ⟨u,rfl⟩:=rb
 exact h i j t u rfl rfl e2
theorem op_add (T:Tops s.heap) (lt:Lt ω s.heap) (e:addP x y=some z) (ra:Rep ω s.heap x a) (rb:Rep ω s.heap y b) (h:Out ω s z Q):wpAny (model prog w) A (binaryOp .Add a b) Q E s:=by
 cases x with
 | int i =>
  obtain ⟨j,rfl,e⟩:=qInt_some e
  cases e; obtain ⟨t,rfl⟩:=ra; obtain ⟨u,rfl⟩:=rb
  exact PyProof.Rows.add_int (out_int h)
 | str i =>
  obtain ⟨j,rfl,e⟩:=qStr_some e
  obtain ⟨hl,rfl⟩:=gO_some e
  obtain ⟨t,rfl⟩:=ra; obtain ⟨u,rfl⟩:=rb
  exact PyProof.Rows.add_str (fun t' tk=>out_str (by rw [Str.cps_append]; simp) h) (line_le hl)
 | lst i =>
  obtain ⟨j,rfl,e⟩:=qLst_some e
  obtain ⟨hl,rfl⟩:=gO_some e
  obtain ⟨l,vs,rfl,_,il,rl⟩:=ra; obtain ⟨l',ws,rfl,_,il',rl'⟩:=rb
  exact add_lsts T il il' (by rw [rl.length,rl'.length]; exact line_le hl) (out_lst lt (rl'.append rl) h)
 | _=>cases e
theorem op_mul (T:Tops s.heap) (lt:Lt ω s.heap) (e:mulP x y=some z) (ra:Rep ω s.heap x a) (rb:Rep ω s.heap y b) (h:Out ω s z Q):wpAny (model prog w) A (binaryOp .Mult a b) Q E s:=by
 obtain ⟨n,rfl,e⟩:=qInt_some e
 obtain ⟨u,rfl⟩:=rb
 cases x with
 | int i =>
  obtain ⟨hl,rfl⟩:=gO_some e
  obtain ⟨t,rfl⟩:=ra
  exact PyProof.Rows.mul_int (out_int h) (hl.elim (fun q=>.of_left (bits_le q)) fun q=>.of_right (bits_le q))
 | str i =>
  cases i with
  | nil=>cases e
  | cons c r =>
   obtain ⟨⟨rfl,h1,h2⟩,rfl⟩:=gO_some e
   obtain ⟨t,rfl⟩:=ra
   exact mul_sign h1 h2 h
 | lst i =>
  cases i with
  | nil=>cases e
  | cons c r =>
   obtain ⟨⟨h0,h1,h2⟩,rfl⟩:=gO_some e
   obtain rfl:=List.eq_nil_of_length_eq_zero h0
   obtain ⟨l,vs,rfl,_,il,v,ws,rfl,rv,rfl⟩:=ra
   exact mul_lst T il h1 h2 (out_lst lt (.replicate rv _) h)
 | _=>cases e
theorem op_bop {op:Bop} (T:Tops s.heap) (lt:Lt ω s.heap) (hp:PylongRoom (model prog w) A s) (e:bop op x y=some z) (ra:Rep ω s.heap x a) (rb:Rep ω s.heap y b) (h:Out ω s z Q) :
  wpAny (model prog w) A (binaryOp (opOf op) a b) Q E s:=by
 cases op with
 | add=>exact op_add T lt e ra rb h
 | mul=>exact op_mul T lt e ra rb h
 | sub=>exact op_ints e ra rb fun i j t u e1 e2 e=>by subst e1 e2; cases e; exact PyProof.Rows.sub_int (out_int h)
 | fdiv=>exact op_ints e ra rb fun i j t u e1 e2 e=>by subst e1 e2; obtain ⟨c,rfl⟩:=gO_some e; exact PyProof.Rows.floordiv_int c (out_int h) (.inr hp)
 | mod=>exact op_ints e ra rb fun i j t u e1 e2 e=>by subst e1 e2; obtain ⟨c,rfl⟩:=gO_some e; exact PyProof.Rows.mod_int' c (out_int h)
 | pow =>
  refine op_ints e ra rb fun i j t u e1 e2 e=>?_
  subst e1 e2
  obtain ⟨c,rfl⟩:=gO_some e
  refine PyProof.Rows.pow_int c.2.1 ?_ (out_int h)
  have h2:(Builtin.Int.intBits i:Int) ≤ 64:=Int.ofNat_le.mpr (bits_le (by omega))
  have h3:(Builtin.Int.intBits i:Int) * j ≤ 64 * 128:=Int.mul_le_mul h2 c.2.2 c.2.1 (by decide)
  omega
 | shl =>
  refine op_ints e ra rb fun i j t u e1 e2 e=>?_
  subst e1 e2
  obtain ⟨⟨rfl,h1,h2⟩,rfl⟩:=gO_some e
  refine PyProof.Rows.lshift_int_small h1 (by omega) (by decide) ?_
  rw [Int.one_mul]; exact out_int h
 | shr=>exact op_ints e ra rb fun i j t u e1 e2 e=>by subst e1 e2; obtain ⟨c,rfl⟩:=gO_some e; exact PyProof.Rows.rshift_int c.1 (out_int h)
 | band=>exact op_ints e ra rb fun i j t u e1 e2 e=>by subst e1 e2; cases e; exact PyProof.Rows.and_int (out_int h)
end
end
noncomputable section
noncomputable def cmpOf:Cop → CmpOp
 | .lt=>.Lt | .le=>.LtE | .gt=>.Gt | .ge=>.GtE | .eq=>.Eq | .ne=>.NotEq | .isIn=>.In | .notIn=>.NotIn | .is=>.Is | .isNot=>.IsNot
theorem cut_is {x y:List Nat} {i:Nat} (h:(x.drop i).take y.length=y):x=x.take i ++ (y ++ (x.drop i).drop y.length):=by
 have e:y ++ (x.drop i).drop y.length=x.drop i:=(congrArg (· ++ (x.drop i).drop y.length) h.symm).trans (List.take_append_drop _ _)
 rw [e,List.take_append_drop]
theorem isSub_iff (a b:List Nat):isSub a b=true ↔ ∃ p q,b=p ++ (a ++ q):=by
 unfold isSub
 rw [List.any_eq_true]
 constructor
 ·rintro ⟨i,_,h⟩
  exact ⟨_,_,cut_is (eq_of_beq h)⟩
 ·rintro ⟨p,q,rfl⟩
  exact ⟨p.length,by simp; omega,by simp⟩
theorem found_isSub (x y:List Nat):(!(Builtin.Str.occurrences ⟨x.toArray⟩ ⟨y.toArray⟩ 0 (⟨x.toArray⟩:Str).length 1).isEmpty)=isSub y x:=by
 rw [Bool.eq_iff_iff,PySem.StrLaws.found_iff,isSub_iff]
 constructor
 ·rintro ⟨i,h1,h2⟩
  rw [PySem.StrLaws.subAt_eq] at h2
  exact ⟨_,_,cut_is (eq_of_beq h2)⟩
 ·rintro ⟨p,q,e⟩
  refine ⟨p.length,?_,?_⟩
  ·simp only [Str.length,List.size_toArray,e,List.length_append]; omega
  ·rw [PySem.StrLaws.subAt_eq,e]
   simp [Str.length]
section
variable {prog:Program} {w:World} {A:Around} {E:Value → Shared → Prop} {s:Shared} {ω:Addr → Nat} {Q:Value → Shared → Prop} {a b:Value} {x y z:PV}
noncomputable def eqTo (k:List Nat) (v:Value):Bool:=match v with
 | .str u _=>u == ⟨k.toArray⟩
 | _=>false
theorem eqTo_str (k u:List Nat) (t:Tok):eqTo k (.str ⟨u.toArray⟩ t)=decide (k=u):=by
 show ((⟨u.toArray⟩:Str) == ⟨k.toArray⟩)=_
 rw [Bool.eq_iff_iff]; simp; exact eq_comm
theorem texts_cons {p:PV} {l:List PV} {ts:List (List Nat)} (e:textsOf (p::l)=some ts):∃ u r,p=.str u ∧ textsOf l=some r ∧ ts=u::r:=by
 obtain ⟨u,rfl,e1⟩:=qStr_some e
 obtain ⟨r,e2,rfl⟩:=Option.map_eq_some_iff.mp e1
 exact ⟨u,r,rfl,e2,rfl⟩
theorem eqAt_texts (k:List Nat) (t:Tok) {l:List PV}:∀ {vs:List Value},Reps ω s.heap l vs → ∀ {ts:List (List Nat)},textsOf l=some ts →
  (∀ v ∈ vs,SeqAt.EqAt A.in1 s v (.str ⟨k.toArray⟩ t) (eqTo k v)) ∧ vs.any (eqTo k)=decide (k ∈ ts):=by
 induction l with
 | nil=>intro vs r ts e; cases r; cases e; exact ⟨fun v hv=>absurd hv List.not_mem_nil,rfl⟩
 | cons p l ih =>
  intro vs r ts e
  obtain ⟨u,ts,rfl,e1,rfl⟩:=texts_cons e
  obtain ⟨v,ws,rfl,⟨t',rfl⟩,r⟩:=r
  obtain ⟨i1,i2⟩:=ih r e1
  refine ⟨fun v hv=>?_,?_⟩
  ·rcases List.mem_cons.mp hv with rfl | hv
   ·exact SeqAt.EqAt.str_str _ _ _ _
   ·exact i1 v hv
  ·rw [List.any_cons,i2,eqTo_str,Bool.eq_iff_iff,Bool.or_eq_true,decide_eq_true_iff,decide_eq_true_iff,decide_eq_true_iff]; exact List.mem_cons.symm
theorem op_in (op:Bool) {r:Bool} (e:pin x y=some r) (ra:Rep ω s.heap x a) (rb:Rep ω s.heap y b) (h:Q (.bool (if op then r else !r)) s) :
  wpAny (model prog w) A (compareOp (if op then .In else .NotIn) a b) Q E s:=by
 obtain ⟨k,rfl,e⟩:=qStr_some e
 obtain ⟨t,rfl⟩:=ra
 cases y with
 | str l =>
  cases e
  obtain ⟨u,rfl⟩:=rb
  cases op with
  | true=>refine PyProof.Rows.in_str ?_; rw [found_isSub]; exact h
  | false=>refine PyProof.Rows.notIn_str ?_; rw [found_isSub]; exact h
 | tup l =>
  obtain ⟨ts,e',rfl⟩:=Option.map_eq_some_iff.mp e
  obtain ⟨d,vs,rfl,_,il,rl⟩:=rb
  obtain ⟨q1,q2⟩:=eqAt_texts (A:=A) k t rl e'
  have q1:∀ v ∈ vs.toArray,SeqAt.EqAt A.in1 s v (.str ⟨k.toArray⟩ t) (eqTo k v):=fun v hv=>q1 v (List.mem_toArray.mp hv)
  cases op with
  | true=>refine SeqAt.in_tupleAt _ il q1 ?_; rw [List.any_toArray,q2]; exact h
  | false=>refine SeqAt.notIn_tupleAt _ il q1 ?_; rw [List.any_toArray,q2]; exact h
 | lst l =>
  obtain ⟨ts,e',rfl⟩:=Option.map_eq_some_iff.mp e
  obtain ⟨d,vs,rfl,_,il,rl⟩:=rb
  obtain ⟨q1,q2⟩:=eqAt_texts (A:=A) k t rl e'
  have q1:∀ v ∈ vs.toArray,SeqAt.EqAt A.in1 s v (.str ⟨k.toArray⟩ t) (eqTo k v):=fun v hv=>q1 v (List.mem_toArray.mp hv)
  cases op with
  | true=>refine SeqAt.in_listAt _ il q1 ?_; rw [List.any_toArray,q2]; exact h
  | false=>refine SeqAt.notIn_listAt _ il q1 ?_; rw [List.any_toArray,q2]; exact h
 | _=>cases e
theorem op_eqG (op:Bool) {r:Bool} (hu:A.units + 20 < cLine) (e:peqG x y=some r) (ra:Rep ω s.heap x a) (rb:Rep ω s.heap y b) (h:Q (.bool (if op then r else !r)) s) :
  wpAny (model prog w) A (compareOp (if op then .Eq else .NotEq) a b) Q E s:=by
 obtain ⟨hp,rfl⟩:=gO_some e
 obtain ⟨h1,h2⟩:=Bool.and_eq_true_iff.mp hp
 obtain ⟨as,q1⟩:=ra.reads h1
 obtain ⟨bs,q2⟩:=rb.reads h2
 obtain ⟨l1,d1⟩:=plain_lay _ _ h1
 obtain ⟨l2,d2⟩:=plain_lay _ _ h2
 cases op with
 | true=>exact SeqAt.compareEq_reads q1 q2 l1 l2 (by omega) h
 | false=>exact SeqAt.compareNe_reads q1 q2 l1 l2 (by omega) h
theorem op_eq (op:Bool) {r:Bool} (hu:A.units + 20 < cLine) (e:peq x y=some r) (ra:Rep ω s.heap x a) (rb:Rep ω s.heap y b) (h:Q (.bool (if op then r else !r)) s) :
  wpAny (model prog w) A (compareOp (if op then .Eq else .NotEq) a b) Q E s:=by
 have G:peqG x y=some r → _:=fun e=>op_eqG (prog:=prog) (w:=w) (E:=E) op hu e ra rb h
 cases x with
 | str k =>
  cases y with
  | str l =>
   cases e; obtain ⟨t,rfl⟩:=ra; obtain ⟨u,rfl⟩:=rb
   have:((⟨k.toArray⟩:Str) == ⟨l.toArray⟩)=decide (k=l):=by rw [Bool.eq_iff_iff]; simp
   cases op with
   | true=>refine PyProof.Rows.eq_str ?_; rw [this]; exact h
   | false=>refine PyProof.Rows.ne_str ?_; rw [bne,this]; exact h
  | _=>exact G e
 | int k =>
  cases y with
  | int l =>
   cases e; obtain ⟨t,rfl⟩:=ra; obtain ⟨u,rfl⟩:=rb
   cases op with
   | true=>exact PyProof.Rows.eq_int h
   | false=>exact PyProof.Rows.ne_int h
  | _=>exact G e
 | _=>exact G e
theorem isNone_eq (ra:Rep ω s.heap x a):(a == .none)=isNone x:=by
 cases x with
 | none=>cases ra; rfl
 | bool b=>cases ra; rfl
 | int i=>obtain ⟨t,rfl⟩:=ra; rfl
 | str l=>obtain ⟨t,rfl⟩:=ra; rfl
 | tup l=>obtain ⟨d,vs,rfl,_⟩:=ra; rfl
 | lst l=>obtain ⟨d,vs,rfl,_⟩:=ra; rfl
theorem op_is {r:Bool} (e:isP x y=some r) (ra:Rep ω s.heap x a) (rb:Rep ω s.heap y b):b=.none ∧ r=(a == .none):=by
 cases y with
 | none=>cases e; exact ⟨rb,(isNone_eq ra).symm⟩
 | _=>cases e
theorem op_ord {f:Int → Int → Bool} {r:Bool} (e:ordP f x y=some r) (ra:Rep ω s.heap x a) (rb:Rep ω s.heap y b) {P:Prop} (h:∀ i j t u,a=.int i t → b=.int j u → f i j=r → P):P:=by
 obtain ⟨i,rfl,e1⟩:=qInt_some e
 obtain ⟨j,rfl,e2⟩:=qInt_some e1
 obtain ⟨t,rfl⟩:=ra
 obtain ⟨u,rfl⟩:=rb
 exact h i j t u rfl rfl (Option.some.inj e2)
theorem op_cop {op:Cop} {r:Bool} (hu:A.units + 20 < cLine) (e:cop op x y=some r) (ra:Rep ω s.heap x a) (rb:Rep ω s.heap y b) (h:Q (.bool r) s) :
  wpAny (model prog w) A (compareOp (cmpOf op) a b) Q E s:=by
 cases op with
 | lt=>exact op_ord e ra rb fun i j t u e1 e2 e=>by subst e1 e2 e; exact PyProof.Rows.lt_int h
 | gt=>exact op_ord e ra rb fun i j t u e1 e2 e=>by subst e1 e2 e; exact PyProof.Rows.gt_int h
 | ge=>exact op_ord e ra rb fun i j t u e1 e2 e=>by subst e1 e2 e; exact PyProof.Rows.ge_int h
 | le =>
  cases x with
  | int i=>exact op_ord (show ordP (fun a b=>decide (a ≤ b)) (.int i) y=some r from e) ra rb fun i j t u e1 e2 e=>by subst e1 e2 e; exact PyProof.Rows.le_int h
  | str k =>
   obtain ⟨l,rfl,e⟩:=qStr_some e
   cases e; obtain ⟨t,rfl⟩:=ra; obtain ⟨u,rfl⟩:=rb
   refine PySem.P.le_str ?_
   have:(!decide ((⟨l.toArray⟩:Str).cps.toList < (⟨k.toArray⟩:Str).cps.toList))=decide (k ≤ l):=by
    rw [Bool.eq_iff_iff]; simp
   rw [this]; exact h
  | _=>cases e
 | eq=>exact op_eq true hu e ra rb h
 | ne=>obtain ⟨q,e',rfl⟩:=Option.map_eq_some_iff.mp e; exact op_eq false hu e' ra rb h
 | isIn=>exact op_in true e ra rb h
 | notIn=>obtain ⟨q,e',rfl⟩:=Option.map_eq_some_iff.mp e; exact op_in false e' ra rb h
 | is=>obtain ⟨rfl,rfl⟩:=op_is e ra rb; exact PyProof.Rows.is_none_gen h
 | isNot=>obtain ⟨q,e',rfl⟩:=Option.map_eq_some_iff.mp e; obtain ⟨rfl,rfl⟩:=op_is e' ra rb; exact PySem.isNot_none h
theorem out_here {v:Value} (r:Rep ω s.heap z v) (h:Out ω s z Q):Q v s:=h v s.heap s.toks (fun _ _ e=>e) r
theorem at62_some {α:Type} {l:List α} {i:Int} {r:α} (e:at62 l i=some r):0 ≤ i ∧ i < 2 ^ 62 ∧ i < l.length ∧ l[i.toNat]?=some r:=by
 unfold at62 at e
 by_cases q:0 ≤ i ∧ i < (b62:Int)
 ·rw [if_pos q] at e
  have h:=(List.getElem?_eq_some_iff.mp e).1
  have:=b62_eq
  exact ⟨q.1,by omega,by omega,e⟩
 ·rw [if_neg q] at e; cases e
theorem op_idx {value slice:Expr} (e:pidx x y=some z) (ra:Rep ω s.heap x a) (rb:Rep ω s.heap y b) (h:Out ω s z Q)
  (hs:subscripted slice false a b=operate [a,b] (getItem a b)) :
  wpAny (model prog w) A (subscriptTail value slice a b) Q E s:=by
 obtain ⟨i,rfl,e⟩:=qInt_some e
 obtain ⟨u,rfl⟩:=rb
 cases x with
 | str l =>
  obtain ⟨t,rfl⟩:=ra
  have e:(at62 l i).map (fun c=>PV.str [c])=some z:=e
  obtain ⟨c,e1,rfl⟩:=Option.map_eq_some_iff.mp e
  obtain ⟨h0,h1,h2,hc⟩:=at62_some e1
  refine tail_any (T:="str") (id:="str.__getitem__") rfl slot_str_getitem.lookup (PySem.P.getItem_str (c:=c) (by simp; omega) ?_ ?_) hs
  ·rw [StrLaws.seqIndex_nonneg h0 (by simp only [Str.length,List.size_toArray]; omega)]
   simpa using hc
  ·exact out_str rfl h
 | tup l =>
  obtain ⟨d,vs,rfl,_,il,rl⟩:=ra
  obtain ⟨h0,h1,h2,hc⟩:=at62_some e
  obtain ⟨v,hv,rv⟩:=rl.get hc
  exact item_tupleT il (by omega) (by omega) (StrLaws.seqIndex_nonneg h0 (by have:=rl.length; omega)) hv (out_here rv h) hs
 | lst l =>
  obtain ⟨d,vs,rfl,_,il,rl⟩:=ra
  have hl:=rl.length
  have e1:(if i=-1 then l.getLast? else at62 l i)=some z:=e
  by_cases q:i=-1
  ·rw [if_pos q,List.getLast?_eq_getElem?] at e1
   subst q
   obtain ⟨v,hv,rv⟩:=rl.get e1
   obtain ⟨hlt,_⟩:=List.getElem?_eq_some_iff.mp hv
   refine tail_any (T:="list") il.typeIs slot_list_getitem.lookup (wpAny_getItem_list_neg il (by decide) (by rw [List.size_toArray]; omega) (by decide) ?_ (out_here rv h)) hs
   rw [List.size_toArray,hl,Int.add_comm,show ((l.length:Int) + -1).toNat=l.length - 1 from Int.toNat_sub l.length 1]; simpa using hv
  ·rw [if_neg q] at e1
   obtain ⟨h0,h1,h2,hc⟩:=at62_some e1
   obtain ⟨v,hv,rv⟩:=rl.get hc
   exact tail_any (T:="list") il.typeIs slot_list_getitem.lookup (wpAny_getItem_list il h0 (by omega) (by simpa using hv) (out_here rv h)) hs
 | _=>cases e
theorem clip_le (n:Nat) (i:Int):clip n i ≤ n:=by
 unfold clip
 refine Int.toNat_le.mpr ?_
 by_cases q:i < 0
 ·rw [if_pos q]; exact Int.max_le.mpr ⟨Int.le_trans (Int.add_le_add_right (Int.le_of_lt q) n) (Int.le_of_eq (Int.zero_add _)),Int.natCast_nonneg n⟩
 ·rw [if_neg q]; exact Int.min_le_right _ _
theorem clip_is (n:Nat) (i:Int):max 0 (min (if i < 0 then i + (n:Int) else i) n)=(clip n i:Int):=by
 unfold clip
 by_cases q:i < 0
 ·rw [if_pos q,if_pos q,Int.toNat_of_nonneg (Int.le_max_right _ _),Int.min_eq_left (Int.le_trans (Int.add_le_add_right (Int.le_of_lt q) n) (Int.le_of_eq (Int.zero_add _))),Int.max_comm]
 ·have z:0 ≤ min i (n:Int):=Int.le_min.mpr ⟨Int.not_lt.mp q,Int.natCast_nonneg n⟩
  rw [if_neg q,if_neg q,Int.toNat_of_nonneg z,Int.max_eq_right z]
theorem sliceRange_one (a b:Int):sliceRange a b 1=(List.range (b - a).toNat).map fun k:Nat=>(a + (k:Int)).toNat:=by
 unfold sliceRange
 have:(if (1:Int) > 0 then (if a < b then (b - a + 1 - 1) / 1 else 0) else (if a > b then (a - b - 1 - 1) / (-1) else 0)).toNat=(b - a).toNat:=by
  rw [if_pos (by decide)]
  split
  ·rw [Int.ediv_one]; congr 1; omega
  ·rw [show (b - a).toNat=0 by omega]; rfl
 simp only [this,Int.one_mul]
theorem range_nat (a b:Nat):sliceRange a b 1=(List.range (b - a)).map fun k=>a + k:=by
 rw [sliceRange_one,Int.toNat_sub]
 rfl
noncomputable def loI (n:Nat) (lo:Option Int):Nat:=lo.elim 0 (clip n)
noncomputable def hiI (n:Nat) (hi:Option Int):Nat:=hi.elim n (clip n)
theorem hiI_le (n:Nat) (hi:Option Int):hiI n hi ≤ n:=by cases hi; exact Nat.le_refl _; exact clip_le _ _
theorem loI_is (n:Nat) (lo:Option Int):(lo.elim 0 fun i=>max 0 (min (if i < 0 then i + (n:Int) else i) n))=(loI n lo:Int):=by cases lo; rfl; exact clip_is _ _
theorem hiI_is (n:Nat) (lo:Option Int):(lo.elim (n:Int) fun i=>max 0 (min (if i < 0 then i + (n:Int) else i) n))=(hiI n lo:Int):=by cases lo; rfl; exact clip_is _ _
theorem strIndices_is (n:Nat) (lo hi:Option Int):Builtin.Str.strSliceIndices lo hi 1 n=(List.range (hiI n hi - loI n lo)).map fun k=>loI n lo + k:=by
 rw [← range_nat,← loI_is,← hiI_is]
 unfold Builtin.Str.strSliceIndices
 simp only [show (1:Int) > 0 from by decide,if_true]
 cases lo <;> cases hi <;> rfl
theorem picks_is {α:Type} (l:List α) (lo hi:Option Int):((List.range (hiI l.length hi - loI l.length lo)).map fun k=>loI l.length lo + k).filterMap (l[·]?)=pslice l lo hi:=by
 have bd:=hiI_le l.length hi
 unfold pslice
 show _=(l.drop (loI l.length lo)).take (hiI l.length hi - loI l.length lo)
 generalize hiI l.length hi=b at bd ⊢
 generalize loI l.length lo=a
 by_cases hab:a ≤ b
 ·exact StrLaws.picks l (b - a) a (by omega)
 ·rw [show b - a=0 by omega]; rfl
theorem slicePick_eq (l:List Value) (lo hi:Option Int):slicePick l.toArray lo hi none=(pslice l lo hi).toArray:=by
 rw [← picks_is,← range_nat,← loI_is,← hiI_is]
 unfold slicePick sliceBounds
 simp only [show ((none:Option Int).getD 1)=1 from rfl,show (1:Int) > 0 from by decide,if_true,List.size_toArray,List.getElem?_toArray]
 cases lo <;> cases hi <;> rfl
theorem slice_whole {l:List Nat} {lo hi:Option Int} (h:hiI l.length hi - loI l.length lo=l.length):pslice l lo hi=l:=by
 show (l.drop (loI l.length lo)).take (hiI l.length hi - loI l.length lo)=l
 rw [h]
 have:=hiI_le l.length hi
 have h:loI l.length lo=0 ∨ l.length=0:=by omega
 rcases h with h | h
 ·rw [h,List.drop_zero,List.take_length]
 ·rw [List.eq_nil_of_length_eq_zero h]; rfl
end
end
noncomputable section
section
variable {prog:Program} {w:World} {A:Around} {E:Value → Shared → Prop} {s:Shared} {ω:Addr → Nat} {Q:Value → Shared → Prop} {a b:Value} {x y z:PV}
noncomputable def strAt (x y:List Nat):Nat → List Nat
 | 0=>x
 | _ + 1=>y
theorem strAt_of {x y:List Nat} {t u:Tok} (i:Nat) (v:Value) (h:#[Value.str ⟨x.toArray⟩ t,.str ⟨y.toArray⟩ u][i]?=some v):∃ t,v=.str ⟨(strAt x y i).toArray⟩ t:=by
 cases i with
 | zero=>exact ⟨t,(Option.some.inj h).symm⟩
 | succ i =>
  cases i with
  | zero=>exact ⟨u,(Option.some.inj h).symm⟩
  | succ i=>rw [Array.getElem?_eq_none (by simp)] at h; cases h
theorem cmp_strs (cmp:CmpOp) (f:List Nat → List Nat → Bool) (hf:∀ (k l:List Nat) (t u:Tok) (s:Shared) (Q:Value → Shared → Prop) (E:Value → Shared → Prop),Q (.bool (f k l)) s → wpAny (model prog w) A (richCompare cmp (.str ⟨k.toArray⟩ t) (.str ⟨l.toArray⟩ u)) Q E s) {x y:List Nat} {t u:Tok} :
  CmpOf prog w A cmp (fun i v=>#[Value.str ⟨x.toArray⟩ t,.str ⟨y.toArray⟩ u][i]?=some v) (fun i j=>f (strAt x y i) (strAt x y j)) :=
 fun i j vi vj s Q E hi hj hq=>by
  obtain ⟨t,rfl⟩:=strAt_of i vi hi
  obtain ⟨u,rfl⟩:=strAt_of j vj hj
  exact hf _ _ _ _ _ _ _ hq
theorem two_iter {x y:List Nat} {t u:Tok} (hh:A.handled=none) (bt:Nat → Nat → Bool) (cmp:CmpOp) (hc:CmpOf prog w A.in1 cmp (fun i v=>#[Value.str ⟨x.toArray⟩ t,.str ⟨y.toArray⟩ u][i]?=some v) bt)
  (h:Out ω s (.str (if bt 1 0 then y else x)) Q) :
  wpAny (model prog w) A.in1 (pyIter (.ref s.heap.objs.size)) (fun it s₂=>∃ I fp wr n P St bt,it=.ref I ∧ Walks prog w A.in1 I fp wr n P St ∧ St 0 s₂.heap ∧ (∀ b ∈ fp,b < s₂.heap.objs.size) ∧ 0 < n ∧ CmpOf prog w A.in1 cmp P bt ∧
   ∀ v h' tk,P (argBest bt (n - 1)) v → (∀ b o,b ∉ wr → s₂.heap.get? b=some o → h'.get? b=some o) → Q v { s₂ with heap:=h',toks:=tk }) E
   {s with heap:=s.heap.push { cls:=.type "tuple",data:=.seq #[.str ⟨x.toArray⟩ t,.str ⟨y.toArray⟩ u] } }:=by
 generalize ho:({ cls:=.type "tuple",data:=.seq #[.str ⟨x.toArray⟩ t,.str ⟨y.toArray⟩ u] }:Obj)=o
 have hg:(s.heap.push o).get? s.heap.objs.size=some o:=Heap.get?_push_size _ (by rw [← ho]; rfl)
 have hT:(s.heap.push o).IsTuple s.heap.objs.size #[.str ⟨x.toArray⟩ t,.str ⟨y.toArray⟩ u]:=⟨_,hg,by rw [← ho],0,by rw [← ho]⟩
 have hsz:(s.heap.push o).objs.size=s.heap.objs.size + 1:=Heap.size_push ..
 refine wpAny_pyIter_tuple hT ⟨_,[_,s.heap.objs.size],[_],_,_,_,bt,rfl,Walks.tuple (A:=A.in1) hh _ s.heap.objs.size (by rw [hsz]; exact Nat.ne_of_lt (Nat.lt_succ_self _)) _,
  ⟨⟨_,Heap.get?_push_size _ rfl,rfl,rfl⟩,hT.push _⟩,fun c hc=>?_,Nat.zero_lt_succ _,hc,fun v h' tk hP hk=>?_⟩
 ·show c < ((s.heap.push _).push _).objs.size
  rw [Heap.size_push,hsz]
  rcases List.mem_cons.mp hc with rfl | hc
  ·rw [hsz]; exact Nat.lt_succ_self _
  ·rw [List.mem_singleton.mp hc]; exact Nat.lt_succ_of_lt (Nat.lt_succ_self _)
 ·refine h v h' tk (fun c o e=>hk c o (fun hm=>?_) (Heap.get?_push_of_some _ (Heap.get?_push_of_some _ e))) ?_
  ·have:=Heap.lt_size e
   rw [List.mem_singleton.mp hm,hsz] at this
   exact Nat.lt_irrefl _ (Nat.lt_of_succ_lt this)
  ·have hP':#[Value.str ⟨x.toArray⟩ t,.str ⟨y.toArray⟩ u][if bt 1 0 then 1 else 0]?=some v:=hP
   by_cases hb:bt 1 0=true
   ·rw [if_pos hb] at hP'; rw [if_pos hb]; exact ⟨u,(Option.some.inj hP').symm⟩
   ·rw [if_neg hb] at hP'; rw [if_neg hb]; exact ⟨t,(Option.some.inj hP').symm⟩
theorem dec_if {c:Prop} [Decidable c] {α:Type} (x y:α):(if decide c=true then x else y)=if c then x else y:=by
 by_cases q:c
 ·rw [if_pos q,if_pos (decide_eq_true q)]
 ·rw [if_neg q,if_neg (by rw [decide_eq_false q]; exact Bool.false_ne_true)]
theorem op_minStr {l k:List Nat} (hh:A.handled=none) (ra:Rep ω s.heap (.str l) a) (rb:Rep ω s.heap (.str k) b) (h:Out ω s (.str (strMin l k)) Q):wpAny (model prog w) A (call (.builtin "min") [a,b]) Q E s:=by
 obtain ⟨t,rfl⟩:=ra; obtain ⟨u,rfl⟩:=rb
 refine call_min_two (two_iter (ω:=ω) hh _ .Lt (cmp_strs .Lt (fun k l=>decide (k < l)) fun k l t u s Q E hq=>PyProof.Rows.lt_str (by simpa using hq)) ?_)
 show Out ω s (.str (if decide (k < l)=true then k else l)) Q
 rw [dec_if]; exact h
theorem op_maxStr {l k:List Nat} (hh:A.handled=none) (ra:Rep ω s.heap (.str l) a) (rb:Rep ω s.heap (.str k) b) (h:Out ω s (.str (strMax l k)) Q):wpAny (model prog w) A (call (.builtin "max") [a,b]) Q E s:=by
 obtain ⟨t,rfl⟩:=ra; obtain ⟨u,rfl⟩:=rb
 refine call_max_two (two_iter (ω:=ω) hh _ .Gt (cmp_strs .Gt (fun k l=>decide (l < k)) fun k l t u s Q E hq=>PySem.P.gt_str (by simpa using hq)) ?_)
 show Out ω s (.str (if decide (l < k)=true then k else l)) Q
 rw [dec_if]; exact h
noncomputable def biName:Bi → Str
 | .len=>"len" | .ord=>"ord" | .str=>"str" | .min=>"min" | .max=>"max" | .repr=>"repr" | .isTuple=>"isinstance" | .isList=>"isinstance"
noncomputable def biVal:Bi → Value
 | .len=>.builtin "len" | .ord=>.builtin "ord" | .str=>.type "str" | .min=>.builtin "min" | .max=>.builtin "max" | .repr=>.builtin "repr"
 | .isTuple=>.builtin "isinstance" | .isList=>.builtin "isinstance"
noncomputable def biMore:Bi → List String
 | .isTuple=>["tuple"] | .isList=>["list"] | _=>[]
theorem digits_is (i:Int):(Str.ofString (toString i)).cps.toList=digits i:=by rw [Str.ofString_eq_toList]; rfl
theorem log_small {i:Int} (h:i.natAbs < 2 ^ 1900):i.natAbs.log2 < 1920:=by
 by_cases hz:i.natAbs=0
 ·rw [hz]; decide
 ·exact Nat.lt_of_lt_of_le ((Nat.log2_lt hz).mpr h) (by decide)
theorem oneP_some {f:PV → Option PV} {xs:List PV} {vs:List Value} (e:oneP f xs=some z) (r:Reps ω s.heap xs vs):∃ x v,vs=[v] ∧ f x=some z ∧ Rep ω s.heap x v:=by
 cases xs with
 | nil=>cases e
 | cons x xs =>
  cases xs with
  | nil=>obtain ⟨v,ws,rfl,a,rfl⟩:=r; exact ⟨x,v,rfl,e,a⟩
  | cons=>cases e
theorem twoP_some {f:PV → PV → Option PV} {xs:List PV} {vs:List Value} (e:twoP f xs=some z) (r:Reps ω s.heap xs vs):∃ x y v w,vs=[v,w] ∧ f x y=some z ∧ Rep ω s.heap x v ∧ Rep ω s.heap y w:=by
 cases xs with
 | nil=>cases e
 | cons x xs =>
  obtain ⟨v,ws,rfl,a,r⟩:=r
  obtain ⟨y,w,rfl,e,b⟩:=oneP_some e r
  exact ⟨x,y,v,w,rfl,e,a,b⟩
theorem op_repr {v:Value} (hg:A.guards=some []) (hu:A.units + 20 < cLine) (e:reprP x=some z) (r:Rep ω s.heap x v) (h:Out ω s z Q) :
  wpAny (model prog w) A (call (.builtin "repr") [v]) Q E s:=by
 obtain ⟨hc,rfl⟩:=gO_some e
 rw [Bool.and_eq_true,Bool.and_eq_true] at hc
 obtain ⟨⟨hp,hs⟩,hl⟩:=hc
 obtain ⟨as,q⟩:=r.reads hp
 obtain ⟨l1,d1⟩:=plain_lay _ _ hp
 have hz:(PyData.shown x.toPy).length ≤ sizeLine:=line_le (of_decide_eq_true hl)
 have go:∀ h' u tk,Kept s.heap h' → Q (.str (PyData.shown x.toPy) u) { s with heap:=h',toks:=tk }:=fun h' u tk k=>h _ h' tk k ⟨u,rfl⟩
 cases x with
 | none=>cases r; exact PySem.P.repr_of_none (go _ _ _ fun _ _ e=>e)
 | bool b=>cases r; exact PySem.P.repr_of_bool (by cases b <;> exact go _ _ _ fun _ _ e=>e)
 | int i=>obtain ⟨t,rfl⟩:=r; exact PySem.P.repr_of_int (by simpa [PV.toPy,PyData.showable] using hs) (go _ _ _ fun _ _ e=>e)
 | str l=>obtain ⟨t,rfl⟩:=r; exact PySem.P.repr_of_str (go _ _ _ fun _ _ e=>e) hz
 | tup l =>
  obtain ⟨a,vs,rfl,_⟩:=r
  exact repr_of_reads' q hs (PyData.noDict_hsm (PyData.hasDict_of_canLay _ l1)) hg (by omega) (fun _ _ e=>e) go hz
 | lst l =>
  obtain ⟨a,vs,rfl,_⟩:=r
  exact repr_of_reads' q hs (PyData.noDict_hsm (PyData.hasDict_of_canLay _ l1)) hg (by omega) (fun _ _ e=>e) go hz
theorem op_len {v:Value} (e:lenP x=some z) (r:Rep ω s.heap x v) (h:Out ω s z Q):wpAny (model prog w) A (call (.builtin "len") [v]) Q E s:=by
 cases x with
 | str l =>
  obtain ⟨hl,rfl⟩:=gO_some e
  obtain ⟨t,rfl⟩:=r
  exact PyProof.Rows.len_str (Int.not_le.mpr (fits_line hl)) (out_int (t:=s.toks + 1) (u:=s.toks + 1 + 1) h)
 | tup l =>
  obtain ⟨hl,rfl⟩:=gO_some e
  obtain ⟨d,ws,rfl,_,il,rl⟩:=r
  have hl':ws.toArray.size=l.length:=rl.length
  refine PyProof.Rows.len_tuple il (by rw [hl']; exact fits_line hl) ?_
  rw [hl']; exact out_int h
 | lst l =>
  obtain ⟨hl,rfl⟩:=gO_some e
  obtain ⟨d,ws,rfl,_,il,rl⟩:=r
  have hl':ws.toArray.size=l.length:=rl.length
  refine Calls.call_len_list il (by rw [hl']; exact fits_line hl) ?_
  rw [hl']; exact out_int h
 | _=>cases e
theorem op_isT {v:Value} (e:isTupP x=some z) (r:Rep ω s.heap x v) (h:Out ω s z Q):wpAny (model prog w) A (call (.builtin "isinstance") [v,.type "tuple"]) Q E s:=by
 cases x with
 | tup l=>cases e; obtain ⟨d,ws,rfl,_,⟨o,ho,hc,_⟩,_⟩:=r; exact IsiPair.tuple_tuple ho hc (out_bool' h)
 | int l=>cases e; obtain ⟨t,rfl⟩:=r; exact IsiPair.int_tuple (out_bool h)
 | lst l=>cases e; obtain ⟨d,ws,rfl,_,⟨o,ho,hc,_⟩,_⟩:=r; exact IsiPair.list_tuple ho hc (out_bool h)
 | none=>cases e; cases r; exact IsiPair.NoneType_tuple (out_bool h)
 | str l=>cases e; obtain ⟨t,rfl⟩:=r; exact IsiPair.str_tuple (out_bool h)
 | bool=>cases e
theorem op_isL {v:Value} (e:isLstP x=some z) (r:Rep ω s.heap x v) (h:Out ω s z Q):wpAny (model prog w) A (call (.builtin "isinstance") [v,.type "list"]) Q E s:=by
 cases x with
 | tup l=>cases e; obtain ⟨d,ws,rfl,_,⟨o,ho,hc,_⟩,_⟩:=r; exact IsiPair.tuple_list ho hc (out_bool h)
 | int l=>cases e; obtain ⟨t,rfl⟩:=r; exact IsiPair.int_list (out_bool h)
 | lst l=>cases e; obtain ⟨d,ws,rfl,_,⟨o,ho,hc,_⟩,_⟩:=r; exact IsiPair.list_list ho hc (out_bool' h)
 | _=>cases e
theorem if_val {c:Prop} [Decidable c] {i j:Int} {t u:Tok}:∃ t',(if c then Value.int i t else .int j u)=.int (if c then i else j) t':=by
 by_cases q:c
 ·rw [if_pos q,if_pos q]; exact ⟨t,rfl⟩
 ·rw [if_neg q,if_neg q]; exact ⟨u,rfl⟩
theorem op_bi {f:Bi} {vs:List Value} {xs:List PV} (hh:A.handled=none) (hu:A.units + 20 < cLine) (hg:A.guards=some []) (e:biop f xs=some z) (r:Reps ω s.heap xs vs) (h:Out ω s z Q) :
  wpAny (model prog w) A (call (biVal f) (vs ++ (biMore f).map .type)) Q E s:=by
 cases f with
 | len=>obtain ⟨x,v,rfl,e,r⟩:=oneP_some e r; exact op_len e r h
 | isTuple=>obtain ⟨x,v,rfl,e,r⟩:=oneP_some e r; exact op_isT e r h
 | isList=>obtain ⟨x,v,rfl,e,r⟩:=oneP_some e r; exact op_isL e r h
 | repr=>obtain ⟨x,v,rfl,e,r⟩:=oneP_some e r; exact op_repr hg hu e r h
 | ord =>
  obtain ⟨x,v,rfl,e,r⟩:=oneP_some e r
  obtain ⟨l,rfl,e⟩:=qStr_some e
  cases l with
  | nil=>cases e
  | cons c l =>
   obtain ⟨rfl,rfl⟩:=gO_some e
   obtain ⟨t,rfl⟩:=r
   exact PyProof.Rows.ord_of_one rfl (out_int h)
 | str =>
  obtain ⟨x,v,rfl,e,r⟩:=oneP_some e r
  obtain ⟨l,rfl,e⟩:=qInt_some e
  obtain ⟨hl,rfl⟩:=gO_some e
  obtain ⟨t,rfl⟩:=r
  exact PySem.P.str_of_int (log_small hl) (out_str (digits_is _) h)
 | min =>
  obtain ⟨x,y,v,w,rfl,e,a,b⟩:=twoP_some e r
  cases x with
  | int i =>
   obtain ⟨j,rfl,e⟩:=qInt_some e
   cases e; obtain ⟨t,rfl⟩:=a; obtain ⟨u,rfl⟩:=b
   exact min_two_ints hh fun h' tk kp=>h _ h' tk kp if_val
  | str i=>obtain ⟨j,rfl,e⟩:=qStr_some e; cases e; exact op_minStr hh a b h
  | _=>cases e
 | max =>
  obtain ⟨x,y,v,w,rfl,e,a,b⟩:=twoP_some e r
  cases x with
  | int i =>
   obtain ⟨j,rfl,e⟩:=qInt_some e
   cases e; obtain ⟨t,rfl⟩:=a; obtain ⟨u,rfl⟩:=b
   exact max_two_ints hh fun h' tk kp=>h _ h' tk kp if_val
  | str i=>obtain ⟨j,rfl,e⟩:=qStr_some e; cases e; exact op_maxStr hh a b h
  | _=>cases e
noncomputable def meName:Me → Str
 | .index=>"index" | .find=>"find"
theorem firstAt_spec (c:Nat) (l:List Nat):(∀ k,firstAt c l=some k → l[k]?=some c ∧ ∀ j,j < k → l[j]? ≠ some c) ∧ (firstAt c l=none → ∀ j:Nat,l[j]? ≠ some c):=by
 induction l with
 | nil=>exact ⟨fun k e=>(by cases e),fun _ j e=>(by cases e)⟩
 | cons x r ih =>
  have hf:firstAt c (x::r)=if x=c then some 0 else (firstAt c r).map (· + 1):=rfl
  rw [hf]
  by_cases q:x=c
  ·rw [if_pos q]
   exact ⟨fun k e=>by cases e; exact ⟨congrArg some q,fun j hj=>absurd hj (Nat.not_lt_zero _)⟩,fun e=>by cases e⟩
  ·rw [if_neg q]
   have q0:some x ≠ some c:=fun e=>q (Option.some.inj e)
   refine ⟨fun k e=>?_,fun e j=>?_⟩
   ·obtain ⟨i,e',rfl⟩:=Option.map_eq_some_iff.mp e
    obtain ⟨h1,h2⟩:=ih.1 i e'
    refine ⟨h1,fun j hj=>?_⟩
    cases j with
    | zero=>exact q0
    | succ j=>exact h2 j (Nat.lt_of_succ_lt_succ hj)
   ·cases j with
    | zero=>exact q0
    | succ j=>exact ih.2 (Option.map_eq_none_iff.mp e) j
theorem occ_firstAt (c:Nat) (l:List Nat):(∃ k r,firstAt c l=some k ∧ Builtin.Str.occurrences ⟨l.toArray⟩ ⟨[c].toArray⟩ 0 (⟨l.toArray⟩:Str).length 1=k::r) ∨
  (firstAt c l=none ∧ Builtin.Str.occurrences ⟨l.toArray⟩ ⟨[c].toArray⟩ 0 (⟨l.toArray⟩:Str).length 1=[]):=by
 have at_iff:∀ i,StrLaws.At ⟨l.toArray⟩ ⟨[c].toArray⟩ (⟨l.toArray⟩:Str).length i ↔ l[i]?=some c:=fun i=>StrLaws.subAt_one ⟨l.toArray⟩ c i
 obtain ⟨f1,f2⟩:=firstAt_spec c l
 rcases StrLaws.occ_head ⟨l.toArray⟩ ⟨[c].toArray⟩ 1 (Nat.le_refl _) with ⟨h1,h2⟩ | ⟨i,r,h1,h2,h3⟩
 ·cases e:firstAt c l with
  | none=>exact .inr ⟨rfl,h1⟩
  | some k=>exact absurd ((at_iff k).mpr (f1 k e).1) (h2 k)
 ·rw [at_iff] at h2
  cases e:firstAt c l with
  | none=>exact absurd h2 (f2 e i)
  | some k =>
   obtain ⟨g1,g2⟩:=f1 k e
   rcases Nat.lt_trichotomy k i with q | q | q
   ·exact absurd ((at_iff k).mpr g1) (h3 k q)
   ·exact .inl ⟨k,r,rfl,q ▸ h1⟩
   ·exact absurd h2 (g2 i q)
end
end
end Mp
end
section
open PySem PySem.W PyProof.Rows PySem.Calls
set_option Elab.async false
set_option maxRecDepth 100000
set_option maxHeartbeats 2000000
set_option genSizeOf false
set_option genInjectivity false
set_option linter.unusedVariables false
namespace Mp
noncomputable section
noncomputable abbrev PExpr:=PySem.Expr
structure An where
 p:Pos
 k:Nat
 sc:Scope
structure TR (α:Type) where
 x:α
 ok:Bool
 r:List An
structure Sc where
 kind:Str → Option NameKind
 names:List Str
 fn:Nat → Option Str
noncomputable def anOf (p:Pos):An:=⟨p,0,default⟩
noncomputable def an (ps:List An) (i:Nat):An:=(ps[i]?).getD (anOf default)
noncomputable def Sc.name (sc:Sc) (i:Nat):Str:=(sc.names[i]?).getD ""
noncomputable def Sc.has (sc:Sc) (i:Nat):Bool:=(sc.names[i]?).isSome
noncomputable def Sc.glob (sc:Sc) (n:Str):Bool:=sc.kind n == some .globalImplicit
noncomputable def Sc.fnm (sc:Sc) (f:Nat):Str:=(sc.fn f).getD ""
noncomputable def cOf:PV → Const
 | .none=>.none
 | .bool b=>.bool b
 | .int i=>.int i
 | .str l=>.str ⟨l.toArray⟩
 | .tup _=>.none
 | .lst _=>.none
noncomputable def cOk:PV → Bool
 | .tup _=>false
 | .lst _=>false
 | _=>true
noncomputable def cvar (s:Scope):Str:=match s.names with
 | []=>""
 | _::r=>(r.head?.map (·.1)).getD ""
noncomputable abbrev oneLoc (sc:Scope) (x:Str):Prop:=(x == ("__debug__":Str))=false ∧ (∀ y ∈ sc.names,y.2 ≠ .free) ∧ (∀ y ∈ sc.names,y.2 ≠ .cell) ∧ sc.kind=.function ∧ (∀ y ∈ sc.names,y.2=.local → sc.names.lookup y.1=some .local) ∧ sc.names.lookup x=some .local
noncomputable def compSc (c:Sc) (s:Scope):Sc:=⟨fun n=>s.names.lookup n,[cvar s],c.fn⟩
noncomputable def simpleBase:PExpr → Bool
 | .Name ..=>true
 | .Constant ..=>true
 | _=>false
noncomputable def isName:PExpr → Bool
 | .Name ..=>true
 | _=>false
noncomputable def toLit:List (List Nat × Int) → List An → List (Option PExpr) × List PExpr
 | [],_=>([],[])
 | p::r,ps=>let t:=toLit r (ps.drop 2); (some (.Constant (.str ⟨p.1.toArray⟩) (an ps 0).k (an ps 0).p)::t.1,.Constant (.int p.2) (an ps 1).k (an ps 1).p::t.2)
noncomputable def onLine (a p:Pos):Bool:=a.endLine == p.line
noncomputable def noPen:CEs → Bool
 | .nil=>true
 | .cons _ r=>noPen r
 | .pen _ _=>false
 | .dct _ r=>noPen r
mutual
noncomputable def toE:CE → Sc → List An → TR PExpr
 | .cst v,_,ps=>⟨.Constant (cOf v) (an ps 0).k (an ps 0).p,cOk v,ps.drop 1⟩
 | .loc i,sc,ps=>⟨.Name (sc.name i) (an ps 0).p,sc.has i,ps.drop 1⟩
 | .dget i a b,sc,ps=>let y:=toE a sc (ps.drop 3); let z:=toE b sc y.r
  ⟨.Call (.Attribute (.Name (sc.name i) (an ps 2).p) "get" (an ps 1).p) [y.x,z.x] [] (an ps 0).p,sc.has i && onLine (an ps 1).p (an ps 0).p && (y.ok && z.ok),z.r⟩
 | .penGet i,sc,ps=>⟨.Subscript (.Name (sc.name i) (an ps 1).p) (.Constant (.int 0) (an ps 2).k (an ps 2).p) (an ps 0).p,sc.has i,ps.drop 3⟩
 | .bin op a b,sc,ps=>let y:=toE a sc (ps.drop 1); let z:=toE b sc y.r; ⟨.BinOp y.x (opOf op) z.x (an ps 0).p,y.ok && z.ok,z.r⟩
 | .neg a,sc,ps=>let y:=toE a sc (ps.drop 1); ⟨.UnaryOp .USub y.x (an ps 0).p,y.ok,y.r⟩
 | .not a,sc,ps=>let y:=toE a sc (ps.drop 1); ⟨.UnaryOp .Not y.x (an ps 0).p,y.ok,y.r⟩
 | .bool all l,sc,ps=>let ys:=toEs l sc (ps.drop 1); ⟨.BoolOp (match all with | true=>.And | false=>.Or) ys.x (an ps 0).p,!ys.x.isEmpty && ys.ok,ys.r⟩
 | .cmp1 op a b,sc,ps=>let y:=toE a sc (ps.drop 1); let z:=toE b sc y.r; ⟨.Compare y.x [cmpOf op] [z.x] (an ps 0).p,y.ok && z.ok,z.r⟩
 | .cmp2 o1 o2 a b c,sc,ps=>let y:=toE a sc (ps.drop 1); let z:=toE b sc y.r; let u:=toE c sc z.r; ⟨.Compare y.x [cmpOf o1,cmpOf o2] [z.x,u.x] (an ps 0).p,y.ok && (z.ok && u.ok),u.r⟩
 | .ite c a b,sc,ps=>let t:=toE c sc (ps.drop 1); let y:=toE a sc t.r; let z:=toE b sc y.r; ⟨.IfExp t.x y.x z.x (an ps 0).p,t.ok && (y.ok && z.ok),z.r⟩
 | .call f l,sc,ps=>let ys:=toEs l sc (ps.drop 2); ⟨.Call (.Name (sc.fnm f) (an ps 1).p) ys.x [] (an ps 0).p,noPen l && ((sc.fn f).isSome && sc.glob (sc.fnm f) && ys.ok),ys.r⟩
 | .callP f l,sc,ps=>let ys:=toEs l sc (ps.drop 2); ⟨.Call (.Name (sc.fnm f) (an ps 1).p) ys.x [] (an ps 0).p,(sc.fn f).isSome && sc.glob (sc.fnm f) && ys.ok,ys.r⟩
 | .bi b l,sc,ps=>let ys:=toEs l sc (ps.drop 2)
  ⟨.Call (.Name (biName b) (an ps 1).p) (ys.x ++ (biMore b).map fun n=>.Name (Str.ofString n) (an ys.r 0).p) [] (an ps 0).p,sc.glob (biName b) && (biMore b).all (fun n=>sc.glob (Str.ofString n)) && !ys.x.isEmpty && ys.ok,ys.r.drop (biMore b).length⟩
 | .meth m o a,sc,ps=>let y:=toE o sc (ps.drop 2); let z:=toE a sc y.r
  ⟨.Call (.Attribute y.x (meName m) (an ps 1).p) [z.x] [] (an ps 0).p,simpleBase y.x && onLine (an ps 1).p (an ps 0).p && (y.ok && z.ok),z.r⟩
 | .idx o i,sc,ps=>let y:=toE o sc (ps.drop 1); let z:=toE i sc y.r; ⟨.Subscript y.x z.x (an ps 0).p,y.ok && z.ok,z.r⟩
 | .slice o lo hi,sc,ps=>let y:=toE o sc (ps.drop 1); let l:=toO lo sc (y.r.drop 1); let h:=toO hi sc l.r
  ⟨.Subscript y.x (.Slice l.x h.x none (an y.r 0).p) (an ps 0).p,isName y.x && (y.ok && (l.ok && h.ok)),h.r⟩
 | .seq t l,sc,ps=>let ys:=toEs l sc (ps.drop 1); ⟨match t with | true=>.Tuple ys.x (an ps 0).k (an ps 0).p | false=>.List ys.x (an ps 0).p,ys.ok,ys.r⟩
 | .comp rng elt src cond,sc,ps=>let s:=(an ps 0).sc; let z:=toE src sc (ps.drop (match rng with | true=>4 | false=>2)); let c:=toC cond (compSc sc s) z.r; let y:=toE elt (compSc sc s) c.r
  ⟨.ListComp y.x [⟨.Name (cvar s) (an ps 1).p,match rng with | true=>.Call (.Name "range" (an ps 3).p) [z.x] [] (an ps 2).p | false=>z.x,c.x,0⟩] s (an ps 0).p,
   decide (oneLoc s (cvar s)) && (match rng with | true=>sc.glob "range" | false=>true) && (z.ok && (c.ok && y.ok)),y.r⟩
 | .litGet l x d,sc,ps=>let kv:=toLit l (ps.drop 3); let y:=toE x sc (ps.drop (3 + 2 * l.length))
  ⟨.Call (.Attribute (.Dict kv.1 kv.2 (an ps 2).p) "get" (an ps 1).p) [y.x,.Constant (.int d) (an y.r 0).k (an y.r 0).p] [] (an ps 0).p,
   onLine (an ps 1).p (an ps 0).p && decide ((l.map fun p=>(⟨p.1.toArray⟩:Str)).Nodup) && !l.isEmpty && decide (l.length ≤ 15) && y.ok,y.r.drop 1⟩
noncomputable def toO:CO → Sc → List An → TR (Option PExpr)
 | .no,_,ps=>⟨none,true,ps⟩
 | .yes e,sc,ps=>let y:=toE e sc ps; ⟨some y.x,y.ok,y.r⟩
noncomputable def toC:CO → Sc → List An → TR (List PExpr)
 | .no,_,ps=>⟨[],true,ps⟩
 | .yes e,sc,ps=>let y:=toE e sc ps; ⟨[y.x],y.ok,y.r⟩
noncomputable def toEs:CEs → Sc → List An → TR (List PExpr)
 | .nil,_,ps=>⟨[],true,ps⟩
 | .cons e r,sc,ps=>let y:=toE e sc ps; let ys:=toEs r sc y.r; ⟨y.x::ys.x,y.ok && ys.ok,ys.r⟩
 | .pen i r,sc,ps=>let ys:=toEs r sc (ps.drop 1); ⟨.Name (sc.name i) (an ps 0).p::ys.x,sc.has i && ys.ok,ys.r⟩
 | .dct i r,sc,ps=>let ys:=toEs r sc (ps.drop 1); ⟨.Name (sc.name i) (an ps 0).p::ys.x,sc.has i && ys.ok,ys.r⟩
end
noncomputable def toTs:List Nat → Sc → List An → TR (List PExpr)
 | [],_,ps=>⟨[],true,ps⟩
 | i::r,sc,ps=>let ys:=toTs r sc (ps.drop 1); ⟨.Name (sc.name i) (an ps 0).p::ys.x,sc.has i && ys.ok,ys.r⟩
noncomputable def toT:Tgt → Sc → List An → TR PExpr
 | .one i,sc,ps=>⟨.Name (sc.name i) (an ps 0).p,sc.has i,ps.drop 1⟩
 | .many l,sc,ps=>let ts:=toTs l sc (ps.drop 1); ⟨.Tuple ts.x (an ps 0).k (an ps 0).p,ts.ok,ts.r⟩
noncomputable def notComp:CE → Bool
 | .comp ..=>false
 | _=>true
noncomputable def notLit:CE → Bool
 | .seq ..=>false
 | _=>true
noncomputable def isNew:CE → Bool
 | .seq t _=>!t
 | .bin op _ _=>match op with
  | .add=>true
  | _=>false
 | _=>false
noncomputable def nameOf:PExpr → Option Str
 | .Name n _=>some n
 | _=>none
noncomputable def swapOk (ts vs:List PExpr):Bool :=
 (ts.length == 2 || ts.length == 3) && vs.length == ts.length && ts.all (fun t=>t.pos.line == (ts.head?.map (·.pos.line)).getD 0) && (ts.filterMap nameOf).eraseDups.length == ts.length
  && !vs.all (foldedForSure 8) && !vs.all (constantsAlone 8)
noncomputable def linesUp (t:Str) (np vp:Pos) (s:Scope):Bool:=np.line == vp.line && !(s.names.any fun (n,k)=>n == t && (k == .local || k == .cell))
mutual
noncomputable def toS:CS → Sc → List An → TR Stmt
 | .assign i e,sc,ps=>let v:=toE e sc (ps.drop 2); ⟨.Assign [.Name (sc.name i) (an ps 1).p] v.x (an ps 0).p,sc.has i && notComp e && v.ok,v.r⟩
 | .unpack l e,sc,ps=>let t:=toTs l sc (ps.drop 2); let v:=toE e sc t.r; ⟨.Assign [.Tuple t.x (an ps 1).k (an ps 1).p] v.x (an ps 0).p,notComp e && notLit e && (t.ok && v.ok),v.r⟩
 | .unpackLit l es,sc,ps=>let t:=toTs l sc (ps.drop 2); let v:=toEs es sc (t.r.drop 1)
  ⟨.Assign [.Tuple t.x (an ps 1).k (an ps 1).p] (.Tuple v.x (an t.r 0).k (an t.r 0).p) (an ps 0).p,swapOk t.x v.x && decide l.Nodup && (t.ok && v.ok),v.r⟩
 | .aug i e,sc,ps=>let v:=toE e sc (ps.drop 2); ⟨.AugAssign (.Name (sc.name i) (an ps 1).p) .Add v.x (an ps 0).p,sc.has i && v.ok,v.r⟩
 | .ownNew i e,sc,ps=>let v:=toE e sc (ps.drop 2); ⟨.Assign [.Name (sc.name i) (an ps 1).p] v.x (an ps 0).p,sc.has i && isNew e && v.ok,v.r⟩
 | .compTo _ i rng elt src cond,sc,ps=>let v:=toE (.comp rng elt src cond) sc (ps.drop 2); ⟨.Assign [.Name (sc.name i) (an ps 1).p] v.x (an ps 0).p,sc.has i && linesUp (sc.name i) (an ps 1).p (an ps 2).p (an ps 2).sc && v.ok,v.r⟩
 | .ownDict i,sc,ps=>⟨.Assign [.Name (sc.name i) (an ps 1).p] (.Dict [] [] (an ps 2).p) (an ps 0).p,sc.has i,ps.drop 3⟩
 | .append i e,sc,ps=>let v:=toE e sc (ps.drop 4); ⟨.Expr (.Call (.Attribute (.Name (sc.name i) (an ps 3).p) "append" (an ps 2).p) [v.x] [] (an ps 1).p) (an ps 0).p,sc.has i && onLine (an ps 2).p (an ps 1).p && v.ok,v.r⟩
 | .setItem i k e,sc,ps=>let y:=toE k sc (ps.drop 3); let v:=toE e sc y.r; ⟨.Assign [.Subscript (.Name (sc.name i) (an ps 2).p) y.x (an ps 1).p] v.x (an ps 0).p,sc.has i && notComp e && (y.ok && v.ok),v.r⟩
 | .dset i k e,sc,ps=>let y:=toE k sc (ps.drop 3); let v:=toE e sc y.r; ⟨.Assign [.Subscript (.Name (sc.name i) (an ps 2).p) y.x (an ps 1).p] v.x (an ps 0).p,sc.has i && notComp e && (y.ok && v.ok),v.r⟩
 | .reverse i,sc,ps=>⟨.Expr (.Call (.Attribute (.Name (sc.name i) (an ps 3).p) "reverse" (an ps 2).p) [] [] (an ps 1).p) (an ps 0).p,sc.has i && onLine (an ps 2).p (an ps 1).p,ps.drop 4⟩
 | .penSet i e,sc,ps=>let v:=toE e sc (ps.drop 4); ⟨.Assign [.Subscript (.Name (sc.name i) (an ps 2).p) (.Constant (.int 0) (an ps 3).k (an ps 3).p) (an ps 1).p] v.x (an ps 0).p,sc.has i && notComp e && v.ok,v.r⟩
 | .eff e,sc,ps=>let v:=toE e sc (ps.drop 1); ⟨.Expr v.x (an ps 0).p,notComp e && v.ok,v.r⟩
 | .ite c a b,sc,ps=>let t:=toE c sc (ps.drop 1); let y:=toSs a sc t.r; let z:=toSs b sc y.r; ⟨.If t.x y.x z.x (an ps 0).p,t.ok && (y.ok && z.ok),z.r⟩
 | .whil c b,sc,ps=>let t:=toE c sc (ps.drop 1); let y:=toSs b sc t.r; ⟨.While t.x y.x [] (an ps 0).p,t.ok && y.ok,y.r⟩
 | .loop t rng src b,sc,ps=>let g:=toT t sc (ps.drop 1); let z:=toE src sc (g.r.drop (match rng with | true=>2 | false=>0)); let y:=toSs b sc z.r
  ⟨.For g.x (match rng with | true=>.Call (.Name "range" (an g.r 1).p) [z.x] [] (an g.r 0).p | false=>z.x) y.x [] (an ps 0).p,(match rng with | true=>sc.glob "range" | false=>true) && (g.ok && (z.ok && y.ok)),y.r⟩
 | .retn e,sc,ps=>let v:=toE e sc (ps.drop 1); ⟨.Return (some v.x) (an ps 0).p,v.ok,v.r⟩
 | .brk,_,ps=>⟨.Break (an ps 0).p,true,ps.drop 1⟩
 | .cont,_,ps=>⟨.Continue (an ps 0).p,true,ps.drop 1⟩
 | .raise f l,sc,ps=>let ys:=toEs l sc (ps.drop 3); ⟨.Raise (some (.Call (.Name (sc.fnm f) (an ps 2).p) ys.x [] (an ps 1).p)) none (an ps 0).p,(sc.fn f).isSome && sc.glob (sc.fnm f) && ys.ok,ys.r⟩
noncomputable def toSs:CSs → Sc → List An → TR (List Stmt)
 | .nil,_,ps=>⟨[],true,ps⟩
 | .cons c r,sc,ps=>let y:=toS c sc ps; let ys:=toSs r sc y.r; ⟨y.x::ys.x,y.ok && ys.ok,ys.r⟩
 | .frz i r,sc,ps=>let ys:=toSs r sc ps; ⟨ys.x,sc.has i && ys.ok,ys.r⟩
end
noncomputable def posE:Nat → PExpr → List An
 | 0,_=>[]
 | n + 1,x=>match x with
  | .Constant _ k p=>[⟨p,k,default⟩]
  | .Name _ p=>[anOf p]
  | .BinOp a _ b p=>anOf p::(posE n a ++ posE n b)
  | .UnaryOp _ a p=>anOf p::posE n a
  | .BoolOp _ l p=>anOf p::l.flatMap (posE n)
  | .Compare a _ l p=>anOf p::(posE n a ++ l.flatMap (posE n))
  | .IfExp t a b p=>anOf p::(posE n t ++ (posE n a ++ posE n b))
  | .Call f l _ p=>anOf p::(posE n f ++ l.flatMap (posE n))
  | .Attribute v _ p=>anOf p::posE n v
  | .Subscript v s p=>anOf p::(posE n v ++ posE n s)
  | .Slice l u _ p=>anOf p::(l.toList.flatMap (posE n) ++ u.toList.flatMap (posE n))
  | .Tuple l k p=>⟨p,k,default⟩::l.flatMap (posE n)
  | .List l p=>anOf p::l.flatMap (posE n)
  | .ListComp e g s p=>⟨p,0,s⟩::((g.flatMap fun c=>posE n c.target ++ (posE n c.iter ++ c.ifs.flatMap (posE n))) ++ posE n e)
  | .Dict ks vs p=>anOf p::(ks.zip vs).flatMap fun c=>c.1.toList.flatMap (posE n) ++ posE n c.2
  | _=>[]
noncomputable def posS:Nat → Stmt → List An
 | 0,_=>[]
 | n + 1,x=>match x with
  | .Assign l v p=>anOf p::(l.flatMap (posE n) ++ posE n v)
  | .AugAssign t _ v p=>anOf p::(posE n t ++ posE n v)
  | .Expr v p=>anOf p::posE n v
  | .If t a b p=>anOf p::(posE n t ++ (a.flatMap (posS n) ++ b.flatMap (posS n)))
  | .While t b _ p=>anOf p::(posE n t ++ b.flatMap (posS n))
  | .For g t b _ p=>anOf p::(posE n g ++ (posE n t ++ b.flatMap (posS n)))
  | .Return v p=>anOf p::v.toList.flatMap (posE n)
  | .Raise v _ p=>anOf p::v.toList.flatMap (posE n)
  | .Break p=>[anOf p]
  | .Continue p=>[anOf p]
  | _=>[]
noncomputable def posSs (l:List Stmt):List An:=l.flatMap (posS 40)
end
end Mp
end
section
open PySem PySem.W PyProof.Rows PySem.Calls
set_option Elab.async false
set_option maxRecDepth 100000
set_option maxHeartbeats 2000000
set_option genInjectivity false
set_option linter.unusedVariables false
namespace Mp
noncomputable section
structure Cx where
 prog:Program
 w:World
 K:Frag
 h₀:Heap
 p:Program
 loose:List Str
 mg:Str → Option Value
 mb:Str → Option Value
 fns:List (Str × Addr)
 exc:Addr
noncomputable def Cx.fn (C:Cx) (f:Nat):Option Str:=C.fns[f]?.map (·.1)
noncomputable def biNames:List Str:=["len","ord","str","min","max","repr","isinstance","tuple","list","range","sum","enumerate"]
structure Cx.Ok (C:Cx):Prop where
 X:C.K.In C.h₀
 T:TopRead C.p C.loose C.mg C.mb C.h₀
 seer:C.h₀.NoSeer
 fnOk:∀ f ∈ C.fns,nsIn C.K mainGlobals f.1=some (some (.ref f.2)) ∧ keepIn C.K (.ref f.2)=true ∧ (f.1 == ("__debug__":Str))=false
 biOk:∀ n ∈ biNames,nsIn C.K mainGlobals n=some none
structure Room (A:Around) (d:Nat):Prop where
 depth:A.depth + 120 + d < recursionLimit
 units:A.units + 3 * d + 100 < cLine
theorem Room.le {A:Around} {d d':Nat} (r:Room A d) (h:d' ≤ d):Room A d':=⟨by have:=r.depth; omega,by have:=r.units; omega⟩
structure Frm where
 A:Around
 envs:List Env
 fs:List Addr
 pa:Option Addr
 env:Env
 names:List Str
 Φ:Fn
 d:Nat
 b:Shared
 out:Addr → Prop
structure Vs where
 m:Str → Option Value
 sv:List SV
 ω:Addr → Nat
structure Hd where
 vs:PV → Value → Prop
 gd:Addr → Obj → Prop
 io:Addr → Prop
noncomputable def Hd.push (H:Hd) (x:PV) (v:Value):Hd:=⟨fun y w=>(y=x ∧ w=v) ∨ H.vs y w,H.gd,H.io⟩
noncomputable def scOf (C:Cx) (F:Frm):Sc:=⟨fun n=>F.env.kindOf n,F.names,C.fn⟩
noncomputable def PenIs (h:Heap) (pa:Option Addr) (p:Option Int):Prop:=match pa with
 | some a=>∃ n t,p=some n ∧ h.PlainList a [Value.int n t].toArray
 | none=>p=none
noncomputable def ArgRep (ω:Addr → Nat) (pa:Option Addr) (h:Heap):SV → Value → Prop
 | .val x,v=>Rep ω h x v
 | .dval l,v=>∃ a,v=.ref a ∧ ω a=0 ∧ (a == sysModules)=false ∧ IMap h a l
 | .pen,v=>∃ a,v=.ref a ∧ pa=some a
 | .unb,_=>False
 | .own _,_=>False
 | .od _,_=>False
noncomputable def ArgsRep (ω:Addr → Nat) (pa:Option Addr) (h:Heap):List SV → List Value → Prop
 | [],vs=>vs=[]
 | x::r,vs=>∃ v ws,vs=v::ws ∧ ArgRep ω pa h x v ∧ ArgsRep ω pa h r ws
noncomputable def SlotOk (ω:Addr → Nat) (i:Nat) (pa:Option Addr) (h:Heap) (mx:Option Value):SV → Prop
 | .unb=>True
 | .val x=>∃ v,mx=some v ∧ ArgRep ω pa h (.val x) v
 | .dval l=>∃ v,mx=some v ∧ ArgRep ω pa h (.dval l) v
 | .pen=>∃ v,mx=some v ∧ ArgRep ω pa h .pen v
 | .own l=>∃ a vs,mx=some (.ref a) ∧ ω a=i + 2 ∧ h.PlainList a vs.toArray ∧ Reps ω h l vs
 | .od l=>∃ a,mx=some (.ref a) ∧ ω a=i + 2 ∧ (a == sysModules)=false ∧ IMap h a l
structure Fix (C:Cx) (F:Frm):Prop where
 frames:F.A.frames=some F.envs
 handled:F.A.handled=none
 guards:F.A.guards=some []
 seer:∀ h',h'.NoSeer → SeerAt (model C.prog C.w) F.A h'
 kind:F.env.scope.kind=.function
 glob:F.env.globals=mainGlobals
 bi:F.env.builtins=builtinsNs
 loc:∀ x ∈ F.names,F.env.kindOf x=some .local ∧ (x == ("__debug__":Str))=false
 fso:∀ a ∈ fsOf F.envs,F.out a
 fss:∀ a ∈ F.fs,a ∈ fsOf F.envs
 pn:∀ p,F.pa=some p → F.out p ∧ p ∉ fsOf F.envs
 pl:F.pa ≠ some F.env.locals
noncomputable abbrev StOf (b s:Shared):Prop:=∃ h t,s={ b with heap:=h,toks:=t }
theorem StOf.trans {a b c:Shared} (x:StOf a b) (y:StOf b c):StOf a c:=let ⟨_,_,e⟩:=x; let ⟨h,t,e'⟩:=y; ⟨h,t,by rw [e',e]⟩
structure Ok (C:Cx) (F:Frm) (H:Hd) (V:Vs) (p:Option Int) (s:Shared):Prop where
 fix:Fix C F
 st:StOf F.b s
 base:C.h₀.StaysIn s.heap
 ff:s.heap.FunFrames C.h₀ F.envs
 ns:s.heap.Ns F.env.locals V.m
 slots:∀ (i:Nat) n v,F.names[i]?=some n → V.sv[i]?=some v → SlotOk V.ω i F.pa s.heap (V.m n) v
 pen:PenIs s.heap F.pa p
 ent:Ext F.fs F.pa F.b.heap s.heap
 lt:Lt V.ω s.heap
 out:∀ a,F.out a → V.ω a=1
 new:∀ a,2 ≤ V.ω a → F.b.heap.get? a=none
 nb:∀ a,V.ω a ≠ 0 → C.h₀.get? a=none
 hold:∀ x v,H.vs x v → Rep V.ω s.heap x v
 gd:∀ b o,H.gd b o → V.ω b ≤ 1 ∧ b ∉ F.fs ∧ F.pa ≠ some b ∧ b ≠ F.env.locals ∧ s.heap.get? b=some o
 io:∀ a,H.io a → V.ω a=1
section
variable {ω ω':Addr → Nat} {pa:Option Addr} {h h':Heap} {i:Nat} {mx:Option Value} {v:SV}
theorem ArgRep.keep (k:Frz ω ω' h h') {u:Value} (r:ArgRep ω pa h v u):ArgRep ω' pa h' v u:=by
 cases v with
 | val x=>exact Rep.keep k r
 | pen=>exact r
 | dval l =>
  obtain ⟨a,e,z,sm,im⟩:=r
  have ⟨_,_,_,o,ho⟩:=im
  exact ⟨a,e,(k a o z ho).1,sm,imap_keep im fun o ho=>(k a o z ho).2⟩
 | unb=>exact r
 | own=>exact r
 | od=>exact r
theorem SlotOk.keep (k:Frz ω ω' h h') (k2:∀ a o,ω a=i + 2 → h.get? a=some o → ω' a=i + 2 ∧ h'.get? a=some o) (r:SlotOk ω i pa h mx v):SlotOk ω' i pa h' mx v:=by
 cases v with
 | unb=>trivial
 | val x=>obtain ⟨u,e,r⟩:=r; exact ⟨u,e,r.keep k⟩
 | dval x=>obtain ⟨u,e,r⟩:=r; exact ⟨u,e,r.keep k⟩
 | pen=>exact r
 | own l =>
  obtain ⟨a,vs,e,z,⟨n,ho⟩,r⟩:=r
  exact ⟨a,vs,e,(k2 a _ z ho).1,⟨n,(k2 a _ z ho).2⟩,r.keep k⟩
 | od l =>
  obtain ⟨a,e,z,sm,im⟩:=r
  have ⟨_,_,_,o,ho⟩:=im
  exact ⟨a,e,(k2 a o z ho).1,sm,imap_keep im fun o ho=>(k2 a o z ho).2⟩
theorem PenIs.keep {p:Option Int} (x:PenIs h pa p) (k:∀ b o,pa=some b → h.get? b=some o → h'.get? b=some o):PenIs h' pa p:=by
 cases pa with
 | none=>exact x
 | some a=>obtain ⟨n,t,e,j,ho⟩:=x; exact ⟨n,t,e,j,k a _ rfl ho⟩
theorem PenIs.there {p:Option Int} (x:PenIs h pa p):∀ b,pa=some b → ∃ o,h.get? b=some o:=fun b e=>by
 subst e; obtain ⟨n,t,_,j,ho⟩:=x; exact ⟨_,ho⟩
theorem Ns.up {a:Addr} {m:Str → Option Value} (x:h.Ns a m) (k:∀ o,h.get? a=some o → ∃ sl,h'.get? a=some { o with slots:=sl }):h'.Ns a m:=by
 obtain ⟨o,es,ep,ho,hd,r⟩:=x
 obtain ⟨sl,e⟩:=k o ho
 exact ⟨_,es,ep,e,hd,r⟩
theorem ns_keep {a:Addr} {m:Str → Option Value} (x:h.Ns a m) (k:∀ o,h.get? a=some o → h'.get? a=some o):h'.Ns a m:=Ns.up x fun o e=>⟨o.slots,k o e⟩
theorem ns_there {a:Addr} {m:Str → Option Value} (x:h.Ns a m):∃ o,h.get? a=some o:=let ⟨o,_,_,ho,_⟩:=x; ⟨o,ho⟩
theorem funFrames_step {base:Heap} {l:List Env}:h.FunFrames base l → (∀ b ∈ fsOf l,∀ o,h.get? b=some o → ∃ o',h'.get? b=some o' ∧ ((∀ vs,o.data ≠ .fields vs) → ∀ vs,o'.data ≠ .fields vs)) → h'.FunFrames base l:=by
 induction l with
 | nil=>exact fun _ _=>trivial
 | cons env l ih =>
  intro x k
  obtain ⟨hk,⟨L,o,hf,hn,ho,hd⟩,hr⟩:=x
  have e:fsOf (env::l)=L::fsOf l:=List.filterMap_cons_some hf
  obtain ⟨o',e',d⟩:=k L (by rw [e]; exact .head _) o ho
  exact ⟨hk,⟨L,o',hf,hn,e',d hd⟩,ih hr fun b hb=>k b (by rw [e]; exact .tail _ hb)⟩
theorem Ext.gone {fs:List Addr} {a:Addr} (x:Ext fs pa h h') (hp:∀ b,pa=some b → ∃ o,h'.get? b=some o) (e:h'.get? a=none):h.get? a=none:=by
 cases e':h.get? a with
 | none=>rfl
 | some o =>
  by_cases hq:pa=some a
  ·obtain ⟨o',h'⟩:=hp a hq; rw [e] at h'; cases h'
  ·obtain ⟨sl,h'⟩:=x.there e' hq; rw [e] at h'; cases h'
end
section
variable {C:Cx} {F:Frm} {H:Hd} {V:Vs} {p q:Option Int} {s s':Shared}
theorem Ok.mine (O:Ok C F H V p s) {a:Addr} (h:V.ω a ≠ 1):a ∉ F.fs ∧ F.pa ≠ some a :=
 ⟨fun q=>h (O.out a (O.fix.fso a (O.fix.fss a q))),fun q=>h (O.out a (O.fix.pn a q).1)⟩
theorem Ok.zero (O:Ok C F H V p s) {a:Addr} {o:Obj} (h:C.h₀.get? a=some o):V.ω a=0 :=
 Classical.byContradiction fun n=>nomatch (O.nb a n).symm.trans h
theorem Ok.after (O:Ok C F H V p s) (st:StOf s s') (x:Ext F.fs F.pa s.heap s'.heap) (hp:PenIs s'.heap F.pa q):Ok C F H V q s':=by
 have k:∀ a o,V.ω a ≠ 1 → s.heap.get? a=some o → s'.heap.get? a=some o:=fun a o n e=>x.keep a o e (O.mine n).1 (O.mine n).2
 have k0:Frz V.ω V.ω s.heap s'.heap:=fun a o z e=>⟨z,k a o (z ▸ nofun) e⟩
 exact
  {fix:=O.fix
   st:=O.st.trans st
   base:=fun b o e=>k b o (O.zero e ▸ nofun) (O.base b o e)
   ff:=funFrames_step O.ff fun b hb o e=>let ⟨sl,e'⟩:=x.there e fun q=>(O.fix.pn b q).2 hb; ⟨_,e',id⟩
   ns:=Ns.up O.ns fun o e=>x.there e O.fix.pl
   slots:=fun i n v e1 e2=>(O.slots i n v e1 e2).keep k0 fun a o z e=>⟨z,k a o (z ▸ nofun) e⟩
   pen:=hp
   ent:=O.ent.trans x
   lt:=fun a ha=>by
    obtain ⟨o,e⟩:=O.lt a ha
    by_cases q:F.pa=some a
    ·exact hp.there a q
    ·obtain ⟨sl,e'⟩:=x.there e q; exact ⟨_,e'⟩
   out:=O.out
   new:=O.new
   nb:=O.nb
   hold:=fun x v hq=>(O.hold x v hq).keep k0
   gd:=fun b o hq=>let ⟨g1,g2,g3,g4,g5⟩:=O.gd b o hq; ⟨g1,g2,g3,g4,x.keep _ _ g5 g2 g3⟩
   io:=O.io }
theorem Ok.made (O:Ok C F H V p s) {h':Heap} {t:Nat} (k:Kept s.heap h'):Ok C F H V p { s with heap:=h',toks:=t } :=
 O.after ⟨h',t,rfl⟩ (.of_keeps k) (O.pen.keep fun b o _ e=>k b o e)
theorem Ok.push (O:Ok C F H V p s) {x:PV} {v:Value} (r:Rep V.ω s.heap x v):Ok C F (H.push x v) V p s :=
 {O with hold:=fun y w hq=>Or.elim hq (fun e=>by rw [e.1,e.2]; exact r) (O.hold y w) }
theorem Ok.top {x:PV} {v:Value} (O:Ok C F (H.push x v) V p s):Rep V.ω s.heap x v:=O.hold x v (.inl ⟨rfl,rfl⟩)
theorem Ok.pop {x:PV} {v:Value} (O:Ok C F (H.push x v) V p s):Ok C F H V p s :=
 {O with hold:=fun y w hq=>O.hold y w (.inr hq) }
noncomputable def TextsAre:List (List Nat) → List Value → Prop
 | [],vs=>vs=[]
 | l::r,vs=>∃ t ws,vs=.str ⟨l.toArray⟩ t::ws ∧ TextsAre r ws
noncomputable def ExcIs (P:Addr → Prop) (h:Heap) (d:Addr) (x:Exn):Prop :=
 ∃ m,h.Ns d m ∧ (∃ t,m "code"=some (.int x.code t)) ∧ (∃ t,m "value"=some (.str ⟨x.value.toArray⟩ t)) ∧ ∃ a vs,m "errorcode"=some (.ref a) ∧ IsTup h a vs.toArray ∧ TextsAre x.ec vs ∧ P a
noncomputable def newIn (C:Cx) (h:Heap) (a:Addr):Prop:=h.get? a=none ∨ ∃ o,C.h₀.get? a=some o
noncomputable abbrev Under (C:Cx) (envs:List Env) (pa:Option Addr) (h B:Heap):Prop:=C.h₀.StaysIn B ∧ ∀ b o,h.get? b=some o → b ∉ fsOf envs → pa ≠ some b → B.get? b=some o
structure Fly (C:Cx) (envs:List Env) (pa:Option Addr) (b:Shared) (x:Exn) (e:Addr) (s':Shared):Prop where
 st:StOf b s'
 ext:Ext (fsOf envs) pa b.heap s'.heap
 way:∃ B d a0 o,Under C envs pa b.heap B ∧ B.FlyingW envs e (.ref C.exc) a0 s'.heap ∧ ExcIs (newIn C b.heap) B d x ∧ s'.heap.get? e=some o ∧ o.dict=some d
structure MadeP (C:Cx) (envs:List Env) (pa:Option Addr) (b:Shared) (P:Addr → Prop) (x:Exn) (e:Addr) (s':Shared):Prop where
 st:StOf b s'
 ext:Ext (fsOf envs) pa b.heap s'.heap
 way:∃ B d oe t,Under C envs pa b.heap B ∧ B.StaysIn s'.heap ∧ B.get? e=none ∧ s'.heap.FunFrames B envs ∧ ExcIs P B d x ∧
  s'.heap.get? e=some oe ∧ oe.cls=.ref C.exc ∧ oe.data=.fields #[.ref t,.none,.none,.none,.bool false,.none] ∧ oe.dict=some d
noncomputable abbrev Mde (C:Cx) (envs:List Env) (pa:Option Addr) (b:Shared) (x:Exn) (e:Addr) (s':Shared):Prop:=MadeP C envs pa b (newIn C b.heap) x e s'
theorem ExcIs.mono {P P':Addr → Prop} {h:Heap} {d:Addr} {x:Exn} (e:ExcIs P h d x) (k:∀ a,P a → P' a):ExcIs P' h d x :=
 let ⟨m,a,b,c,t,vs,d,i,j,p⟩:=e; ⟨m,a,b,c,t,vs,d,i,j,k t p⟩
noncomputable def Er (C:Cx) (F:Frm) (r:Except Exn (PV × Option Int)) (E:Value → Shared → Prop):Prop :=
 ∀ x,r=.error x → ∀ e s',Fly C F.envs F.pa F.b x e s' → (∃ m,s'.heap.Ns F.env.locals m) → E (.ref e) s'
noncomputable abbrev ErS (C:Cx) (F:Frm) (r:Except Exn (PV × Option Int)) (E:Value → Shared → Prop):Prop :=
 Er C F r E ∧ ∀ x,r=.error x → ∀ e s',Mde C F.envs F.pa F.b x e s' → E (.ref e) s'
noncomputable def CallAt (C:Cx) (d f:Nat) (args:List SV) (p:Option Int) (r:Except Exn (PV × Option Int)):Prop :=
 ∀ (F:Frm) (H:Hd) (V:Vs) (q:Option Int) (s:Shared) (vs:List Value) (a:Addr) (R:Result → Shared → Prop),Ok C F H V q s → F.fs=fsOf F.envs → Room F.A d → C.fns[f]?.map (·.2)=some a →
  ArgsRep V.ω (p.elim none fun _=>F.pa) s.heap args vs → (∀ n,p=some n → q=some n) →
  (∀ z q',r=.ok (z,q') → ∀ v s',Ok C F H V (p.elim q fun _=>q') s' → Rep V.ω s'.heap z v → R (.ok (.ret v)) s') →
  (∀ x,r=.error x → ∀ e s',Fly C F.envs F.pa s x e s' → R (.error (.ref e)) s') → codeAny (model C.prog C.w) F.A (.call (.ref a) ⟨vs,[]⟩) R s
structure Hy (C:Cx) (F:Frm):Prop where
 ok:C.Ok
 room:Room F.A F.d
 calls:∀ f args p r,F.Φ f args p=some r → F.fs=fsOf F.envs ∧ CallAt C F.d f args p r
theorem Ok.tops (O:Ok C F H V p s) (h:C.Ok):Tops s.heap:=⟨⟨_,h.T.g.keeps O.base⟩,⟨_,h.T.b.keeps O.base⟩,h.T.nolimit.keeps O.base⟩
theorem Ok.pylong (O:Ok C F H V p s) (h:Hy C F):PylongRoom (model C.prog C.w) F.A s :=
 PylongRoom.of (h.ok.T.nolimit.keeps O.base) (by have:=h.room.depth; show F.A.depth + 100 < _; omega) (O.fix.seer _ (h.ok.seer.keeps O.base))
theorem Hy.hu (h:Hy C F):F.A.units + 20 < cLine:=by have:=h.room.units; omega
theorem under_lift (O:Ok C F H V q s) (hfs:F.fs=fsOf F.envs) {pa:Option Addr} (hpa:∀ b,pa=some b → F.pa=some b) {B:Heap} (u:Under C F.envs pa s.heap B):Under C F.envs F.pa F.b.heap B :=
 ⟨u.1,fun b o e n np=>u.2 b o (O.ent.keep b o e (hfs ▸ n) np) n fun z=>np (hpa b z)⟩
theorem ext_lift (O:Ok C F H V q s) (hfs:F.fs=fsOf F.envs) {pa:Option Addr} (hpa:∀ b,pa=some b → F.pa=some b) {h:Heap} (x:Ext (fsOf F.envs) pa s.heap h):Ext (fsOf F.envs) F.pa F.b.heap h:=by
 have y:=O.ent
 rw [hfs] at y
 exact y.trans ⟨fun b o e n np=>x.keep b o e n fun z=>np (hpa b z),x.frm⟩
theorem new_lift (O:Ok C F H V q s) {a:Addr} (n:newIn C s.heap a):newIn C F.b.heap a:=n.imp (O.ent.gone O.pen.there) id
theorem fly_lift (O:Ok C F H V q s) (hfs:F.fs=fsOf F.envs) {pa:Option Addr} (hpa:∀ b,pa=some b → F.pa=some b) {x:Exn} {e:Addr} (f:Fly C F.envs pa s x e s'):Fly C F.envs F.pa F.b x e s' :=
 let ⟨B,d,a0,o,b1,b2,b3,r⟩:=f.way
 ⟨O.st.trans f.st,ext_lift O hfs hpa f.ext,B,d,a0,o,under_lift O hfs hpa b1,b2,b3.mono fun _=>new_lift O,r⟩
theorem fly_ns {pa:Option Addr} (O:Ok C F H V q s) (hpa:∀ b,pa=some b → F.pa=some b) {x:Exn} {e:Addr} (f:Fly C F.envs pa s x e s'):∃ m,s'.heap.Ns F.env.locals m:=⟨_,Ns.up O.ns fun o e=>f.ext.there e fun z=>O.fix.pl (hpa _ z)⟩
end
end
end Mp
end
section
open PySem PySem.W PyProof.Rows PySem.Calls
set_option Elab.async false
set_option maxRecDepth 100000
set_option maxHeartbeats 2000000
set_option linter.unusedVariables false
namespace Mp
noncomputable section
theorem and_l {a b:Bool} (h:(a && b)=true):a=true:=(Bool.and_eq_true_iff.mp h).1
theorem and_r {a b:Bool} (h:(a && b)=true):b=true:=(Bool.and_eq_true_iff.mp h).2
theorem opK_some {α:Type} {o:Option α} {k:α → RR} {r:Except Exn (PV × Option Int)} (e:opK o k=some r):∃ x,o=some x ∧ k x=some r:=by
 cases o with
 | none=>cases e
 | some x=>exact ⟨x,rfl,e⟩
theorem gK_some {c:Prop} [Decidable c] {k:RR} {r:Except Exn (PV × Option Int)} (e:gK c k=some r):c ∧ k=some r:=by
 by_cases q:c
 ·exact ⟨q,(if_pos q).symm.trans e⟩
 ·exact nomatch (if_neg q).symm.trans e
theorem bK_some {v:PV} {a b:RR} {r:Except Exn (PV × Option Int)} (e:bK v a b=some r):∃ x,v=.bool x:=by
 cases v <;> first | exact ⟨_,rfl⟩ | cases e
theorem callK_some {o:RR} {k:KE} {r:Except Exn (PV × Option Int)} (e:callK o k=some r):(∃ v q,o=some (.ok (v,q)) ∧ k v q=some r) ∨ ∃ x,o=some (.error x) ∧ r=.error x:=by
 cases o with
 | none=>cases e
 | some o =>
  cases o with
  | ok z=>exact .inl ⟨z.1,z.2,rfl,e⟩
  | error x=>cases e; exact .inr ⟨x,rfl,rfl⟩
theorem isV_some {x:SV} {v:PV} (e:isV x=some v):x=.val v:=by cases x <;> cases e; rfl
theorem isPn_some {x:SV} {v:Unit} (e:isPn x=some v):x=.pen:=by cases x <;> cases e; rfl
theorem isDv_some {x:SV} {v:List (Int × Int)} (e:isDv x=some v):x=.dval v:=by cases x <;> cases e; rfl
theorem isO_some {x:SV} {v:List PV} (e:isO x=some v):x=.own v:=by cases x <;> cases e; rfl
theorem isOd_some {x:SV} {v:List (Int × Int)} (e:isOd x=some v):x=.od v:=by cases x <;> cases e; rfl
theorem asInt_some {x:PV} {v:Int} (e:asInt x=some v):x=.int v:=by cases x <;> cases e; rfl
theorem asStr_some {x:PV} {v:List Nat} (e:asStr x=some v):x=.str v:=by cases x <;> cases e; rfl
theorem asBool_some {x:PV} {v:Bool} (e:asBool x=some v):x=.bool v:=by cases x <;> cases e; rfl
theorem asTup_some {x:PV} {v:List PV} (e:asTup x=some v):x=.tup v:=by cases x <;> cases e; rfl
theorem asLst_some {x:PV} {v:List PV} (e:asLst x=some v):x=.lst v:=by cases x <;> cases e; rfl
theorem asNone_some {x:PV} {v:Unit} (e:asNone x=some v):x=.none:=by cases x <;> cases e; rfl
theorem nth_get (env:List SV):∀ i,nth env i=env[i]?:=by
 induction env with
 | nil=>intro i; rfl
 | cons x r ih =>
  intro i
  cases i with
  | zero=>rfl
  | succ i=>exact ih i
theorem has_name {sc:Sc} {i:Nat} (h:sc.has i=true):sc.names[i]?=some (sc.name i):=by
 obtain ⟨n,e⟩:=Option.isSome_iff_exists.mp h
 unfold Sc.name
 rw [e]; rfl
theorem glob_is {sc:Sc} {n:Str} (h:sc.glob n=true):sc.kind n=some .globalImplicit:=beq_iff_eq.mp h
section
variable (C:Cx)
noncomputable def EvOk (e:CE):Prop:=∀ (F:Frm) (H:Hd) (V:Vs) (p:Option Int) (s:Shared) (ps:List An) (K:KE) (r:Except Exn (PV × Option Int)) (Q E:Value → Shared → Prop),
 Hy C F → Ok C F H V p s → (toE e (scOf C F) ps).ok=true → Er C F r E → kE e F.Φ V.sv p K=some r →
 (∀ v z q s',Ok C F H V q s' → Rep V.ω s'.heap z v → K z q=some r → Q v s') → wpAny (model C.prog C.w) F.A (eval (toE e (scOf C F) ps).x F.env) Q E s
noncomputable def TrOk (e:CE):Prop:=∀ (F:Frm) (H:Hd) (V:Vs) (p:Option Int) (s:Shared) (ps:List An) (K:KE) (r:Except Exn (PV × Option Int)) (Q:Bool → Shared → Prop) (E:Value → Shared → Prop),
 Hy C F → Ok C F H V p s → (toE e (scOf C F) ps).ok=true → Er C F r E → kE e F.Φ V.sv p K=some r → (∀ z q,K z q=some r → ∃ b,z=.bool b) →
 (∀ b q s',Ok C F H V q s' → K (.bool b) q=some r → Q b s') → wpAny (model C.prog C.w) F.A (isTrue (toE e (scOf C F) ps).x F.env (eval (toE e (scOf C F) ps).x F.env)) Q E s
noncomputable def SpOk (l:CEs):Prop:=∀ (F:Frm) (H:Hd) (V:Vs) (p:Option Int) (s:Shared) (ps:List An) (K:List SV → Option Int → RR) (r:Except Exn (PV × Option Int)) (pa:Option Addr) (Q:List Value → Shared → Prop) (E:Value → Shared → Prop) (pos:Pos) (rest:List (Bool × Sem Value)),
 Hy C F → Ok C F H V p s → (toEs l (scOf C F) ps).ok=true → Er C F r E → (pa=F.pa ∨ noPen l=true) → kEs l F.Φ V.sv p K=some r →
 (∀ ss vs q s',Ok C F H V q s' → ArgsRep V.ω pa s'.heap ss vs → K ss q=some r → wpAny (model C.prog C.w) F.A (spliced rest) (fun ws s''=>Q (vs ++ ws) s'') E s') →
 wpAny (model C.prog C.w) F.A (spliced (backTo pos (starEach (toEs l (scOf C F) ps).x F.env) ++ rest)) Q E s
noncomputable def BlOk (all:Bool) (l:CEs):Prop:=∀ (F:Frm) (H:Hd) (V:Vs) (p:Option Int) (s:Shared) (ps:List An) (K:KE) (r:Except Exn (PV × Option Int)) (E:Value → Shared → Prop) (pos:Pos),
 Hy C F → Ok C F H V p s → (toEs l (scOf C F) ps).ok=true → Er C F r E → kB l all F.Φ V.sv p K=some r →
 ((toEs l (scOf C F) ps).x ≠ [] → ∀ Q:Value → Shared → Prop,(∀ v z q s',Ok C F H V q s' → Rep V.ω s'.heap z v → K z q=some r → Q v s') →
  wpAny (model C.prog C.w) F.A (eval (.BoolOp (match all with | true=>.And | false=>.Or) (toEs l (scOf C F) ps).x pos) F.env) Q E s) ∧
 ((∀ z q,K z q=some r → ∃ b,z=.bool b) → ∀ (Q:Bool → Shared → Prop) whole,(∀ b q s',Ok C F H V q s' → K (.bool b) q=some r → Q b s') →
  wpAny (model C.prog C.w) F.A (isTrue (.BoolOp (match all with | true=>.And | false=>.Or) (toEs l (scOf C F) ps).x pos) F.env whole) Q E s)
noncomputable def PtOk (o:CO):Prop:=∀ (F:Frm) (H:Hd) (V:Vs) (p:Option Int) (s:Shared) (ps:List An) (K:Option Int → Option Int → RR) (r:Except Exn (PV × Option Int)) (Q E:Value → Shared → Prop),
 Hy C F → Ok C F H V p s → (toO o (scOf C F) ps).ok=true → Er C F r E → kO o F.Φ V.sv p K=some r →
 (∀ v z q s',Ok C F H V q s' → IsPart v z → K z q=some r → Q v s') → wpAny (model C.prog C.w) F.A (evalPart (toO o (scOf C F) ps).x F.env) Q E s
end
section
variable {C:Cx} {F:Frm} {H:Hd} {V:Vs} {p:Option Int} {s:Shared} {ps ps':List An} {r:Except Exn (PV × Option Int)} {E:Value → Shared → Prop}
theorem outK {z:PV} {K:KE} {Q:Value → Shared → Prop} (O:Ok C F H V p s) (e:K z p=some r) (k:∀ v z q s',Ok C F H V q s' → Rep V.ω s'.heap z v → K z q=some r → Q v s'):Out V.ω s z Q :=
 fun v h' t' kp rp=>k v z p _ (O.made kp) rp e
theorem load_at (O:Ok C F H V p s) {n:Str} {pp:Pos} {v:Value} {Q:Value → Shared → Prop} (hn:n ∈ F.names) (hv:V.m n=some v) (h:Q v s):wpAny (model C.prog C.w) F.A (eval (.Name n pp) F.env) Q E s :=
 let ⟨k,dbg⟩:=O.fix.loc n hn; wpAny_Name (wpAny_loadName_local O.fix.kind k O.ns hv h) dbg
theorem load_slot (O:Ok C F H V p s) {i:Nat} {x:SV} {pp:Pos} {Q:Value → Shared → Prop} (hn:(scOf C F).has i=true) (hx:nth V.sv i=some x)
  (h:∀ v,V.m ((scOf C F).name i)=some v → SlotOk V.ω i F.pa s.heap (some v) x → Q v s) (hb:x ≠ .unb):wpAny (model C.prog C.w) F.A (eval (.Name ((scOf C F).name i) pp) F.env) Q E s:=by
 have hn':=has_name hn
 rw [nth_get] at hx
 have sl:=O.slots i _ x hn' hx
 have:∃ v,V.m ((scOf C F).name i)=some v:=by
  cases x with
  | unb=>exact absurd rfl hb
  | val=>obtain ⟨v,e,_⟩:=sl; exact ⟨v,e⟩
  | dval=>obtain ⟨v,e,_⟩:=sl; exact ⟨v,e⟩
  | pen=>obtain ⟨v,e,_⟩:=sl; exact ⟨v,e⟩
  | own=>obtain ⟨v,_,e,_⟩:=sl; exact ⟨_,e⟩
  | od=>obtain ⟨v,e,_⟩:=sl; exact ⟨_,e⟩
 obtain ⟨v,e⟩:=this
 exact load_at O (List.mem_of_getElem? hn') e (h v e (e ▸ sl))
theorem load_bi (h:Hy C F) (O:Ok C F H V p s) {n:Str} {pp:Pos} {v:Value} {Q:Value → Shared → Prop} (hn:n ∈ biNames) (hk:(scOf C F).glob n=true) (hb:bootBuiltins n=some v) (hx:n ≠ "__name__") (dbg:(n == ("__debug__":Str))=false)
  (k:Q v s):wpAny (model C.prog C.w) F.A (eval (.Name n pp) F.env) Q E s:=by
 have T:=h.ok.T
 have hg:=T.g.keeps O.base
 have hbb:=T.b.keeps O.base
 rw [← O.fix.glob] at hg
 rw [← O.fix.bi] at hbb
 exact Name_function_global O.fix.kind (glob_is hk) (loadGlobal_builtin hg (mg_none_of h.ok.X T.g (h.ok.biOk n hn)) hbb ((T.builtins n hx).trans hb) k) dbg
theorem ev2 {a b:CE} (ha:EvOk C a) (hb:EvOk C b) {K:PV → KE} {Q:Value → Value → Shared → Prop} (h:Hy C F) (O:Ok C F H V p s) (n:((toE a (scOf C F) ps).ok && (toE b (scOf C F) ps').ok)=true) (er:Er C F r E)
  (e:kE a F.Φ V.sv p (fun v p=>kE b F.Φ V.sv p (K v))=some r) (k:∀ v z v2 z2 q s',Ok C F H V q s' → Rep V.ω s'.heap z v → Rep V.ω s'.heap z2 v2 → K z z2 q=some r → Q v v2 s') :
  wpAny (model C.prog C.w) F.A (eval (toE a (scOf C F) ps).x F.env) (fun v s1=>wpAny (model C.prog C.w) F.A (eval (toE b (scOf C F) ps').x F.env) (fun v2 s2=>Q v v2 s2) E s1) E s :=
 ha F H V p s ps _ r _ E h O (and_l n) er e fun v z q s1 O1 r1 e1=>hb F _ V q s1 ps' _ r _ E h (O1.push r1) (and_r n) er e1 fun v2 z2 q2 s2 O2 r2 e2=>k v z v2 z2 q2 s2 O2.pop O2.top r2 e2
theorem ok_cst (v:PV):EvOk C (.cst v):=by
 intro F H V p s ps K r Q E h O n er e k
 have o:=outK O e k
 cases v with
 | none=>exact wpAny_pure (o .none s.heap s.toks (fun _ _ e=>e) rfl)
 | bool b=>exact wpAny_pure (out_bool' o)
 | int i=>exact wpAny_Constant_int (out_int o)
 | str l=>exact wpAny_mkText (out_str rfl o)
 | tup=>cases n
 | lst=>cases n
theorem ok_loc (i:Nat):EvOk C (.loc i):=by
 intro F H V p s ps K r Q E h O n er e k
 obtain ⟨x,hx,e⟩:=opK_some e
 obtain ⟨v,hv,e⟩:=opK_some e
 obtain rfl:=isV_some hv
 refine load_slot O n hx (fun u hu sl=>?_) nofun
 obtain ⟨u',eu,ru⟩:=sl
 cases eu
 exact k u v p s O ru e
theorem ok_bin {op:Bop} {a b:CE} (ha:EvOk C a) (hb:EvOk C b):EvOk C (.bin op a b):=by
 intro F H V p s ps K r Q E h O n er e k
 refine wpAny_BinOp (ev2 ha hb h O n er e fun v1 z1 v2 z2 q s' O' r1 r2 e'=>?_)
 obtain ⟨x,ex,e⟩:=opK_some e'
 exact op_bop (O'.tops h.ok) O'.lt (O'.pylong h) ex r1 r2 (outK O' e k)
theorem ok_neg {a:CE} (ha:EvOk C a):EvOk C (.neg a):=by
 intro F H V p s ps K r Q E h O n er e k
 refine wpAny_UnaryOp (ha F H V p s _ _ r _ E h O n er e fun v z q s' O' r1 e'=>?_)
 obtain ⟨x,ex,e⟩:=opK_some e'
 obtain rfl:=asInt_some ex
 obtain ⟨t,rfl⟩:=r1
 exact PyProof.Rows.neg_int (out_int (outK O' e k))
theorem ok_not {a:CE} (ha:EvOk C a):EvOk C (.not a):=by
 intro F H V p s ps K r Q E h O n er e k
 refine wpAny_UnaryOp (ha F H V p s _ _ r _ E h O n er e fun v z q s' O' r1 e'=>?_)
 obtain ⟨x,rfl⟩:=bK_some e'
 cases r1
 refine PyProof.Rows.not_of (wpAny_truthy_bool ?_)
 cases x with
 | true=>exact out_bool' (outK O' e' k)
 | false=>exact out_bool' (outK O' e' k)
theorem tr_not {a:CE} (ha:TrOk C a):TrOk C (.not a):=by
 intro F H V p s ps K r Q E h O n er e hb k
 refine PyProof.Rows.isTrue_not (ha F H V p s _ _ r _ E h O n er e (fun z q e=>bK_some e) fun b q s' O' e'=>?_)
 cases b with
 | true=>exact k false q s' O' e'
 | false=>exact k true q s' O' e'
theorem tr_ev {e:CE} (he:EvOk C e) (hx:∀ sc ps env whole,isTrue (toE e sc ps).x env whole=(do let v ← whole; standAt (toE e sc ps).x.pos; holding [v] (truthy v))):TrOk C e:=by
 intro F H V p s ps K r Q E h O n er e hb k
 refine PyProof.Rows.isTrue_plain (he F H V p s ps _ r _ E h O n er e fun v z q s' O' r1 e'=>?_) (hx _ _ _ _)
 obtain ⟨b,rfl⟩:=hb z q e'
 cases r1
 exact wpAny_truthy_bool (k b q s' O' e')
theorem ok_ite {c a b:CE} (hc:TrOk C c) (ha:EvOk C a) (hb:EvOk C b):EvOk C (.ite c a b):=by
 intro F H V p s ps K r Q E h O n er e k
 refine PyProof.Rows.IfExp_ (hc F H V p s _ _ r _ E h O (and_l n) er e (fun z q e=>bK_some e) fun x q s' O' e'=>?_)
 cases x with
 | true=>exact ha F H V q s' _ K r Q E h O' (and_l (and_r n)) er e' k
 | false=>exact hb F H V q s' _ K r Q E h O' (and_r (and_r n)) er e' k
theorem tr_ite {c a b:CE} (hc:TrOk C c) (ha:TrOk C a) (hb:TrOk C b):TrOk C (.ite c a b):=by
 intro F H V p s ps K r Q E h O n er e hB k
 refine PyProof.Rows.isTrue_IfExp (hc F H V p s _ _ r _ E h O (and_l n) er e (fun z q e=>bK_some e) fun x q s' O' e'=>?_)
 cases x with
 | true=>exact ha F H V q s' _ K r Q E h O' (and_l (and_r n)) er e' hB k
 | false=>exact hb F H V q s' _ K r Q E h O' (and_r (and_r n)) er e' hB k
theorem star_one (e:CE) (sc:Sc) (ps:List An) (ys:List PExpr) (env:Env) (pos:Pos):backTo pos (starEach ((toE e sc ps).x::ys) env)=(false,eval (toE e sc ps).x env)::backTo pos (starEach ys env):=by
 cases e with
 | seq t l=>cases t <;> rfl
 | _=>rfl
theorem star_1 (e:CE) (sc:Sc) (ps:List An) (env:Env):starEach [(toE e sc ps).x] env=[(false,eval (toE e sc ps).x env)]:=by
 cases e with
 | seq t l=>cases t <;> rfl
 | _=>rfl
theorem sub_plain (e:CE) (sc:Sc) (ps:List An) (o i:Value):subscripted (toE e sc ps).x false o i=operate [o,i] (getItem o i):=by
 cases e with
 | seq t l=>cases t <;> rfl
 | _=>rfl
theorem marks_no (op:CmpOp) (e:CE) (sc:Sc) (ps:List An):behindInMarks op (toE e sc ps).x=false:=by
 cases e with
 | seq t l=>cases t <;> rfl
 | _=>rfl
theorem ok_cmp1 {op:Cop} {a b:CE} (ha:EvOk C a) (hb:EvOk C b):EvOk C (.cmp1 op a b):=by
 intro F H V p s ps K r Q E h O n er e k
 refine wpAny_Compare1 (ev2 ha hb h O n er e fun v1 z1 v2 z2 q s' O' r1 r2 e'=>?_) (marks_no _ _ _ _)
 obtain ⟨x,ex,e⟩:=opK_some e'
 exact op_cop h.hu ex r1 r2 (k _ (.bool x) q s' O' rfl e)
theorem tr_cmp1 {op:Cop} {a b:CE} (ha:EvOk C a) (hb:EvOk C b):TrOk C (.cmp1 op a b):=by
 intro F H V p s ps K r Q E h O n er e hb' k
 refine wpAny_isTrue_Compare1 (ev2 ha hb h O n er e fun v1 z1 v2 z2 q s' O' r1 r2 e'=>?_) (marks_no _ _ _ _)
 obtain ⟨x,ex,e⟩:=opK_some e'
 exact op_cop (Q:=fun c s=>wpAny _ _ (truthy c) Q E s) h.hu ex r1 r2 (wpAny_truthy_bool (k x q s' O' e))
end
end
noncomputable section
section
variable {C:Cx} {F:Frm} {H:Hd} {V:Vs} {p:Option Int} {s:Shared} {ps ps':List An} {r:Except Exn (PV × Option Int)} {E:Value → Shared → Prop}
theorem last_marks {o1 o2:CmpOp} {z:PExpr} (c:CE) (sc:Sc) (ps:List An):lastMarks [o1,o2] [z,(toE c sc ps).x]=false:=by unfold lastMarks lastMarks; exact marks_no _ _ _ _
theorem ok_cmp2 {o1 o2:Cop} {a b c:CE} (ha:EvOk C a) (hb:EvOk C b) (hc:EvOk C c):EvOk C (.cmp2 o1 o2 a b c):=by
 intro F H V p s ps K r Q E h O n er e k
 refine PyProof.Rows.Compare_chain (ha F H V p s _ _ r _ E h O (and_l n) er e fun v1 z1 q1 s1 O1 r1 e1=>?_) (last_marks _ _ _)
 refine PyProof.Rows.chain_link (hb F _ V q1 s1 _ _ r _ E h (O1.push r1) (and_l (and_r n)) er e1 fun v2 z2 q2 s2 O2 r2 e2=>?_)
 obtain ⟨x,ex,e3⟩:=opK_some e2
 refine op_cop h.hu ex O2.top r2 (wpAny_truthy_bool ?_)
 cases x with
 | false=>exact k (.bool false) (.bool false) q2 s2 O2.pop rfl e3
 | true =>
  refine PyProof.Rows.chain_last (hc F _ V q2 s2 _ _ r _ E h (O2.pop.push r2) (and_r (and_r n)) er e3 fun v4 z4 q4 s4 O4 r4 e4=>?_)
  obtain ⟨y,ey,e5⟩:=opK_some e4
  exact op_cop h.hu ey O4.top r4 (k _ (.bool y) q4 s4 O4.pop rfl e5)
theorem tr_cmp2 {o1 o2:Cop} {a b c:CE} (ha:EvOk C a) (hb:EvOk C b) (hc:EvOk C c):TrOk C (.cmp2 o1 o2 a b c):=by
 intro F H V p s ps K r Q E h O n er e hB k
 refine PyProof.Rows.isTrue_chain (ha F H V p s _ _ r _ E h O (and_l n) er e fun v1 z1 q1 s1 O1 r1 e1=>?_) (last_marks _ _ _)
 refine PyProof.Rows.test_link (hb F _ V q1 s1 _ _ r _ E h (O1.push r1) (and_l (and_r n)) er e1 fun v2 z2 q2 s2 O2 r2 e2=>?_)
 obtain ⟨x,ex,e3⟩:=opK_some e2
 refine op_cop h.hu ex O2.top r2 (wpAny_truthy_bool ?_)
 cases x with
 | false=>exact k false q2 s2 O2.pop e3
 | true =>
  refine PyProof.Rows.test_last (hc F _ V q2 s2 _ _ r _ E h (O2.pop.push r2) (and_r (and_r n)) er e3 fun v4 z4 q4 s4 O4 r4 e4=>?_)
  obtain ⟨y,ey,e5⟩:=opK_some e4
  exact op_cop h.hu ey O4.top r4 (wpAny_truthy_bool (k y q4 s4 O4.pop e5))
theorem bl_nil (all:Bool):BlOk C all .nil:=by
 intro F H V p s ps K r E pos h O n er e
 refine ⟨fun q=>absurd rfl q,fun hB Q whole k=>?_⟩
 cases all with
 | true=>exact PyProof.Rows.isTrue_and_nil (k _ p s O e)
 | false=>exact PyProof.Rows.isTrue_or_nil (k _ p s O e)
theorem bl_cons {all:Bool} {a:CE} {l:CEs} (ha:EvOk C a) (ta:TrOk C a) (hl:BlOk C all l):BlOk C all (.cons a l):=by
 intro F H V p s ps K r E pos h O n er e
 cases all with
 | true =>
  refine ⟨fun _ Q k=>?_,fun hB Q whole k=>?_⟩
  ·cases hys:(toEs l (scOf C F) (toE a (scOf C F) ps).r).x with
   | nil =>
    show wpAny _ _ (eval (.BoolOp .And ((toE a (scOf C F) ps).x::(toEs l (scOf C F) (toE a (scOf C F) ps).r).x) pos) F.env) Q E s
    rw [hys]
    have hl':l=.nil:=by cases l <;> first | rfl | cases hys
    subst hl'
    refine PyProof.Rows.BoolOp_one (ha F H V p s ps _ r _ E h O (and_l n) er e fun v z q s' O' r1 e'=>?_)
    obtain ⟨x,rfl⟩:=bK_some e'
    cases x <;> exact k v _ q s' O' r1 e'
   | cons y ys =>
    have hl:=fun q s' O' e'=>(hl F H V q s' (toE a (scOf C F) ps).r K r E pos h O' (and_r n) er e').1 (by rw [hys]; nofun) Q k
    show wpAny _ _ (eval (.BoolOp .And ((toE a (scOf C F) ps).x::(toEs l (scOf C F) (toE a (scOf C F) ps).r).x) pos) F.env) Q E s
    rw [hys] at hl ⊢
    refine PyProof.Rows.BoolOp_and (ha F H V p s ps _ r _ E h O (and_l n) er e fun v z q s' O' r1 e'=>?_)
    obtain ⟨x,rfl⟩:=bK_some e'
    cases r1
    refine wpAny_truthy_bool ?_
    cases x with
    | true=>exact hl q s' O' e'
    | false=>exact k _ (.bool false) q s' O' rfl e'
  ·refine PyProof.Rows.isTrue_and (ta F H V p s ps _ r _ E h O (and_l n) er e (fun z q e=>bK_some e) fun x q s' O' e'=>?_)
   cases x with
   | true=>exact (hl F H V q s' _ K r E pos h O' (and_r n) er e').2 hB Q _ k
   | false=>exact k false q s' O' e'
 | false =>
  refine ⟨fun _ Q k=>?_,fun hB Q whole k=>?_⟩
  ·cases hys:(toEs l (scOf C F) (toE a (scOf C F) ps).r).x with
   | nil =>
    show wpAny _ _ (eval (.BoolOp .Or ((toE a (scOf C F) ps).x::(toEs l (scOf C F) (toE a (scOf C F) ps).r).x) pos) F.env) Q E s
    rw [hys]
    have hl':l=.nil:=by cases l <;> first | rfl | cases hys
    subst hl'
    refine PyProof.Rows.BoolOp_one (ha F H V p s ps _ r _ E h O (and_l n) er e fun v z q s' O' r1 e'=>?_)
    obtain ⟨x,rfl⟩:=bK_some e'
    cases x <;> exact k v _ q s' O' r1 e'
   | cons y ys =>
    have hl:=fun q s' O' e'=>(hl F H V q s' (toE a (scOf C F) ps).r K r E pos h O' (and_r n) er e').1 (by rw [hys]; nofun) Q k
    show wpAny _ _ (eval (.BoolOp .Or ((toE a (scOf C F) ps).x::(toEs l (scOf C F) (toE a (scOf C F) ps).r).x) pos) F.env) Q E s
    rw [hys] at hl ⊢
    refine PyProof.Rows.BoolOp_or (ha F H V p s ps _ r _ E h O (and_l n) er e fun v z q s' O' r1 e'=>?_)
    obtain ⟨x,rfl⟩:=bK_some e'
    cases r1
    refine wpAny_truthy_bool ?_
    cases x with
    | false=>exact hl q s' O' e'
    | true=>exact k _ (.bool true) q s' O' rfl e'
  ·refine PyProof.Rows.isTrue_or (ta F H V p s ps _ r _ E h O (and_l n) er e (fun z q e=>bK_some e) fun x q s' O' e'=>?_)
   cases x with
   | false=>exact (hl F H V q s' _ K r E pos h O' (and_r n) er e').2 hB Q _ k
   | true=>exact k true q s' O' e'
theorem ne_of_isEmpty {α:Type} {l:List α} (h:(!l.isEmpty)=true):l ≠ []:=fun q=>by rw [q] at h; cases h
theorem ok_bool {all:Bool} {l:CEs} (hl:BlOk C all l):EvOk C (.bool all l):=fun F H V p s ps K r Q E h O n er e k=>(hl F H V p s _ K r E _ h O (and_r n) er e).1 (ne_of_isEmpty (and_l n)) Q k
theorem tr_bool {all:Bool} {l:CEs} (hl:BlOk C all l):TrOk C (.bool all l):=fun F H V p s ps K r Q E h O n er e hB k=>(hl F H V p s _ K r E _ h O (and_r n) er e).2 hB Q _ k
theorem sp_nil:SpOk C .nil:=fun F H V p s ps K r pa Q E pos rest h O n er hp e k=>k [] [] p s O rfl e
theorem sp_cons {a:CE} {l:CEs} (ha:EvOk C a) (hl:SpOk C l):SpOk C (.cons a l):=by
 intro F H V p s ps K r pa Q E pos rest h O n er hp e k
 show wpAny _ _ (spliced (backTo pos (starEach ((toE a (scOf C F) ps).x::(toEs l (scOf C F) (toE a (scOf C F) ps).r).x) F.env) ++ rest)) Q E s
 rw [star_one]
 refine Calls.spliced_cons (ha F H V p s ps _ r _ E h O (and_l n) er e fun v z q s' O' r1 e'=>?_)
 exact hl F _ V q s' _ _ r pa _ E pos rest h (O'.push r1) (and_r n) er hp e' fun ss vs q2 s2 O2 r2 e2=>k (.val z::ss) (v::vs) q2 s2 O2.pop ⟨v,vs,rfl,O2.top,r2⟩ e2
theorem sp_pen {i:Nat} {l:CEs} (hl:SpOk C l):SpOk C (.pen i l):=by
 intro F H V p s ps K r pa Q E pos rest h O n er hp e k
 obtain ⟨x,hx,e⟩:=opK_some e
 obtain ⟨u,hu,e⟩:=opK_some e
 obtain rfl:=isPn_some hu
 have hp':pa=F.pa:=hp.elim id nofun
 refine Calls.spliced_cons (load_slot O (and_l n) hx (fun v hv sl=>?_) nofun)
 obtain ⟨v',ev,rv⟩:=sl
 cases ev
 exact hl F H V p s _ _ r pa _ E pos rest h O (and_r n) er (.inl hp') e fun ss vs q2 s2 O2 r2 e2=>k (.pen::ss) (v::vs) q2 s2 O2 ⟨v,vs,rfl,hp' ▸ rv,r2⟩ e2
theorem sp_dct {i:Nat} {l:CEs} (hl:SpOk C l):SpOk C (.dct i l):=by
 intro F H V p s ps K r pa Q E pos rest h O n er hp e k
 obtain ⟨x,hx,e⟩:=opK_some e
 obtain ⟨u,hu,e⟩:=opK_some e
 obtain rfl:=isDv_some hu
 refine Calls.spliced_cons (load_slot O (and_l n) hx (fun v hv sl=>?_) nofun)
 refine hl F H V p s _ _ r pa _ E pos rest h O (and_r n) er hp e fun ss vs q2 s2 O2 r2 e2=>?_
 obtain ⟨v',ev,rv⟩:=O2.slots i _ _ (has_name (and_l n)) ((nth_get _ _).symm.trans hx)
 rw [hv] at ev; cases ev
 exact k (.dval u::ss) (v::vs) q2 s2 O2 ⟨v,vs,rfl,rv,r2⟩ e2
theorem sp_all {l:CEs} {K:List SV → Option Int → RR} {pa:Option Addr} {Q:List Value → Shared → Prop} {pos:Pos} (hl:SpOk C l) (h:Hy C F) (O:Ok C F H V p s) (n:(toEs l (scOf C F) ps).ok=true) (er:Er C F r E) (hp:pa=F.pa ∨ noPen l=true) (e:kEs l F.Φ V.sv p K=some r)
  (k:∀ ss vs q s',Ok C F H V q s' → ArgsRep V.ω pa s'.heap ss vs → K ss q=some r → Q vs s'):wpAny (model C.prog C.w) F.A (spliced (backTo pos (starEach (toEs l (scOf C F) ps).x F.env))) Q E s:=by
 rw [← List.append_nil (backTo pos (starEach (toEs l (scOf C F) ps).x F.env))]
 exact hl F H V p s ps K r pa _ E pos [] h O n er hp e fun ss vs q s' O' r' e'=>Calls.spliced_nil (by rw [List.append_nil]; exact k ss vs q s' O' r' e')
theorem vals_some {xs:List SV}:∀ {K:List PV → RR},valsK xs K=some r → ∃ ys,xs=ys.map .val ∧ K ys=some r:=by
 induction xs with
 | nil=>exact fun e=>⟨[],rfl,e⟩
 | cons x xs ih =>
  intro K e
  obtain ⟨v,hv,e1⟩:=opK_some e
  obtain rfl:=isV_some hv
  obtain ⟨ys,rfl,e2⟩:=ih e1
  exact ⟨v::ys,rfl,e2⟩
theorem args_vals {ω:Addr → Nat} {pa:Option Addr} {hp:Heap} {ys:List PV}:∀ {vs:List Value},ArgsRep ω pa hp (ys.map .val) vs → Reps ω hp ys vs:=by
 induction ys with
 | nil=>exact id
 | cons y ys ih=>intro vs r; obtain ⟨v,ws,e,a,r⟩:=r; exact ⟨v,ws,e,a,ih r⟩
theorem sp_vals {l:CEs} {K:List PV → Option Int → RR} {Q:List Value → Shared → Prop} {pos:Pos} (hl:SpOk C l) (h:Hy C F) (O:Ok C F H V p s) (n:(toEs l (scOf C F) ps).ok=true) (er:Er C F r E) (e:kEs l F.Φ V.sv p (fun vs p=>valsK vs fun xs=>K xs p)=some r)
  (k:∀ xs vs q s',Ok C F H V q s' → Reps V.ω s'.heap xs vs → K xs q=some r → Q vs s'):wpAny (model C.prog C.w) F.A (spliced (backTo pos (starEach (toEs l (scOf C F) ps).x F.env))) Q E s :=
 sp_all hl h O n er (.inl rfl) e fun ss vs q s' O' r' e'=>by
  obtain ⟨ys,rfl,e2⟩:=vals_some e'
  exact k ys vs q s' O' (args_vals r') e2
theorem ok_seq {t:Bool} {l:CEs} (hl:SpOk C l):EvOk C (.seq t l):=by
 intro F H V p s ps K r Q E h O n er e k
 cases t with
 | true =>
  refine wpAny_Tuple (sp_vals (K:=fun xs p=>gK (xs.length ≤ strLine) (K (.tup xs) p)) hl h O n er e fun xs vs q s' O' r' e'=>?_)
  obtain ⟨hz,e2⟩:=gK_some e'
  refine ⟨by rw [r'.length]; exact line_le hz,outK O' e2 k _ _ s'.toks (fun b o eb=>Heap.get?_push_of_some _ eb) ⟨_,vs,rfl,O'.lt.fresh (none_at _),⟨_,Heap.get?_push_size _ rfl,rfl,_,rfl⟩,r'.keep (frz_of fun b o eb=>Heap.get?_push_of_some _ eb)⟩⟩
 | false =>
  refine wpAny_List (sp_vals (K:=fun xs p=>gK (xs.length ≤ strLine) (K (.lst xs) p)) hl h O n er e fun xs vs q s' O' r' e'=>?_)
  obtain ⟨hz,e2⟩:=gK_some e'
  exact ⟨by rw [r'.length]; exact line_le hz,out_lst O'.lt r' (outK O' e2 k) _ _ s'.toks (fun b o eb=>Heap.get?_push_of_some _ eb) (none_at _) ⟨0,Heap.get?_push_size _ rfl⟩⟩
theorem ok_idx {o i:CE} (ho:EvOk C o) (hi:EvOk C i):EvOk C (.idx o i):=by
 intro F H V p s ps K r Q E h O n er e k
 refine PyProof.Rows.Subscript_ (ev2 ho hi h O n er e fun v1 z1 v2 z2 q s' O' r1 r2 e'=>?_)
 obtain ⟨x,ex,e2⟩:=opK_some e'
 exact op_idx ex r1 r2 (outK O' e2 k) (sub_plain _ _ _ _ _)
theorem ok_penGet {i:Nat}:EvOk C (.penGet i):=by
 intro F H V p s ps K r Q E h O n er e k
 obtain ⟨x,hx,e⟩:=opK_some e
 obtain ⟨u,hu,e⟩:=opK_some e
 obtain ⟨j,rfl,e⟩:=opK_some e
 obtain rfl:=isPn_some hu
 refine PyProof.Rows.Subscript_ (load_slot O n hx (fun v hv sl=>?_) nofun)
 obtain ⟨v',ev,a,rfl,hb⟩:=sl
 cases ev
 have hp:=O.pen
 rw [hb] at hp
 obtain ⟨j',t,ej,hL⟩:=hp
 cases ej
 refine wpAny_Constant_int (tail_any (T:="list") (plain_is (h:=s.heap) hL).typeIs slot_list_getitem.lookup (wpAny_getItem_list (items:=[Value.int j t].toArray) (plain_is (h:=s.heap) hL) (by decide) (by decide) rfl ?_) rfl)
 exact out_int (t:=t) (outK O e k)
theorem pt_no:PtOk C .no:=fun F H V p s ps K r Q E h O n er e k=>wpAny_evalPart_none (k _ none p s O .none e)
theorem pt_yes {a:CE} (ha:EvOk C a):PtOk C (.yes a):=by
 intro F H V p s ps K r Q E h O n er e k
 refine wpAny_evalPart_some (ha F H V p s _ _ r _ E h O n er e fun v z q s' O' r1 e'=>?_)
 obtain ⟨x,ex,e2⟩:=opK_some e'
 obtain rfl:=asInt_some ex
 obtain ⟨t,rfl⟩:=r1
 exact k _ _ q s' O' (.int _ _) e2
theorem part_value {v:Value} {o:Option Int} (h:IsPart v o):∃ l,v=partValue l ∧ l.map (·.1)=o:=by
 cases h with
 | none=>exact ⟨none,rfl,rfl⟩
 | int i t=>exact ⟨some (i,t),rfl,rfl⟩
theorem ok_slice {o:CE} {lo hi:CO} (hl:PtOk C lo) (hh:PtOk C hi):EvOk C (.slice o lo hi):=by
 intro F H V p s ps K r Q E h O n er e k
 have hnm:isName (toE o (scOf C F) (ps.drop 1)).x=true:=and_l n
 obtain ⟨i,rfl⟩:∃ i,o=.loc i:=by
  cases o with
  | loc i=>exact ⟨i,rfl⟩
  | seq t l=>cases t <;> cases hnm
  | _=>cases hnm
 obtain ⟨x0,hx,e1⟩:=opK_some e
 obtain ⟨z,hz0,e0⟩:=opK_some e1
 obtain rfl:=isV_some hz0
 have n:(isName (toE (.loc i) (scOf C F) (ps.drop 1)).x && ((scOf C F).has i && ((toO lo (scOf C F) ((toE (.loc i) (scOf C F) (ps.drop 1)).r.drop 1)).ok && (toO hi (scOf C F) (toO lo (scOf C F) ((toE (.loc i) (scOf C F) (ps.drop 1)).r.drop 1)).r).ok)))=true:=n
 have all:∀ (T:Value → Value → Value → Shared → Prop),(∀ ov vl vu a b q s3,Ok C F H V q s3 → Rep V.ω s3.heap z ov → IsPart vl a → IsPart vu b → opK (sliceP a b z) (fun z=>K z q)=some r → T ov vl vu s3) →
   wpAny (model C.prog C.w) F.A (eval (toE (.loc i) (scOf C F) (ps.drop 1)).x F.env) (fun ov s1=>wpAny (model C.prog C.w) F.A (evalPart (toO lo (scOf C F) ((toE (.loc i) (scOf C F) (ps.drop 1)).r.drop 1)).x F.env) (fun vl s2=>wpAny (model C.prog C.w) F.A (evalPart (toO hi (scOf C F) (toO lo (scOf C F) ((toE (.loc i) (scOf C F) (ps.drop 1)).r.drop 1)).r).x F.env) (fun vu s3=>T ov vl vu s3) E s2) E s1) E s:=fun T hT =>
  load_slot O (and_l (and_r n)) hx (fun ov _ sl=>by
   obtain ⟨ov',eo,r1⟩:=sl
   cases eo
   exact hl F _ V p s _ _ r _ E h (O.push r1) (and_l (and_r (and_r n))) er e0 fun vl a q2 s2 O2 i1 e2=>hh F _ V q2 s2 _ _ r _ E h O2 (and_r (and_r (and_r n))) er e2 fun vu b q3 s3 O3 i2 e3=>hT ov vl vu a b q3 s3 O3.pop O3.top i1 i2 e3) nofun
 by_cases hs:∃ l,z=.str l
 ·obtain ⟨xs,rfl⟩:=hs
  refine wpAny_Subscript_str_slice (all _ fun ov vl vu a b q s3 O3 r3 i1 i2 e3=>?_) (fun _ _=>rfl)
  obtain ⟨z,ez,e4⟩:=opK_some e3
  obtain ⟨hz,rfl⟩:=gO_some ez
  obtain ⟨t,rfl⟩:=r3
  obtain ⟨l1,rfl,e1⟩:=part_value i1
  obtain ⟨l2,rfl,e2⟩:=part_value i2
  have O:=outK O3 e4 k
  refine ⟨_,_,l1,l2,rfl,rfl,rfl,?_⟩
  unfold sliceMade slicePicked
  rw [e1,e2,show Option.getD (Option.map (·.1) (none:Option (Int × Tok))) 1=1 from rfl,show (⟨xs.toArray⟩:Str).length=xs.length from rfl]
  have hi:(Builtin.Str.strSliceIndices a b 1 xs.length).filterMap ((⟨xs.toArray⟩:Str).cps[·]?)=pslice xs a b:=by
   rw [strIndices_is,← picks_is]; simp only [List.getElem?_toArray]
  show (if (((1:Int) == 1) && ((Builtin.Str.strSliceIndices a b 1 xs.length).length == xs.length))=true then _ else _:Made).post _ _
  by_cases hw:(Builtin.Str.strSliceIndices a b 1 xs.length).length=xs.length
  ·rw [if_pos (by rw [hw]; simp)]
   rw [strIndices_is,List.length_map,List.length_range] at hw
   rw [slice_whole hw] at O
   exact O _ _ s3.toks (fun b o eb=>Heap.get?_push_of_some _ eb) ⟨t,rfl⟩
  ·rw [if_neg (by simpa using hw)]
   refine ⟨?_,O _ _ _ (fun b o eb=>Heap.get?_push_of_some _ eb) ⟨_,by rw [← hi]⟩⟩
   show (List.toArray ((Builtin.Str.strSliceIndices a b 1 xs.length).filterMap ((⟨xs.toArray⟩:Str).cps[·]?))).size ≤ _
   rw [hi]
   exact line_le (Nat.le_trans (pslice_len xs a b) hz)
 ·refine wpAny_Subscript_list_slice (all _ fun ov vl vu a b q s3 O3 r3 i1 i2 e3=>?_) (fun _ _=>rfl)
  obtain ⟨y,ez,e4⟩:=opK_some e3
  cases z with
  | lst xs =>
   obtain ⟨hz,rfl⟩:=gO_some ez
   obtain ⟨da,vs,rfl,_,il,rl⟩:=r3
   refine ⟨da,vs.toArray,a,b,rfl,il,by rw [List.size_toArray,rl.length]; exact line_le hz,i1,i2,?_⟩
   rw [slicePick_eq]
   exact out_lst O3.lt (rl.slice a b) (outK O3 e4 k) _ _ s3.toks (fun b o eb=>Heap.get?_push_of_some _ (Heap.get?_push_of_some _ eb)) (Heap.get?_none_of_le (Nat.le_succ _)) ⟨_,PySem.Heap.get?_push_at (by simp [Heap.push]) rfl⟩
  | str xs=>exact absurd ⟨xs,rfl⟩ hs
  | _=>cases ez
end
end
end Mp
end
section
open PySem PySem.W PyProof.Rows PySem.Calls PySem.Spec PyProof.V
set_option Elab.async false
set_option maxRecDepth 100000
set_option maxHeartbeats 2000000
set_option linter.unusedVariables false
namespace Mp
noncomputable section
section
variable {C:Cx} {F:Frm} {H:Hd} {V:Vs} {p:Option Int} {s:Shared} {ps ps':List An} {r:Except Exn (PV × Option Int)} {E:Value → Shared → Prop}
theorem boot_bi (b:Bi):bootBuiltins (biName b)=some (biVal b):=by cases b <;> decide +kernel
theorem boot_ty:bootBuiltins "tuple"=some (.type "tuple") ∧ bootBuiltins "list"=some (.type "list"):=by decide +kernel
theorem biName_mem (b:Bi):biName b ∈ biNames ∧ biName b ≠ "__name__" ∧ (biName b == ("__debug__":Str))=false:=by cases b <;> decide
theorem star_plain (l:CEs) (sc:Sc):∀ (ps:List An) (zs:List PExpr) (env:Env) (pos:Pos),(backTo pos (starEach ((toEs l sc ps).x ++ zs) env)=backTo pos (starEach (toEs l sc ps).x env) ++ backTo pos (starEach zs env)) ∧ (backTo pos (starEach (toEs l sc ps).x env)).any (·.1)=false:=by
 refine CEs.rec (motive_1:=fun _=>True) (motive_2:=fun _=>True) (motive_3:=fun l=>∀ (ps:List An) (zs:List PExpr) (env:Env) (pos:Pos),(backTo pos (starEach ((toEs l sc ps).x ++ zs) env)=backTo pos (starEach (toEs l sc ps).x env) ++ backTo pos (starEach zs env)) ∧ (backTo pos (starEach (toEs l sc ps).x env)).any (·.1)=false)
  ?_ ?_ ?_ ?_ ?_ ?_ ?_ ?_ ?_ ?_ ?_ ?_ ?_ ?_ ?_ ?_ ?_ ?_ ?_ ?_ ?_ ?_ ?_ ?_ ?_ ?_ l
 case refine_23=>exact fun ps zs env pos=>⟨rfl,rfl⟩
 case refine_24 =>
  intro e l _ ih ps zs env pos
  obtain ⟨h1,h2⟩:=ih (toE e sc ps).r zs env pos
  show backTo pos (starEach ((toE e sc ps).x::((toEs l sc (toE e sc ps).r).x ++ zs)) env)=backTo pos (starEach ((toE e sc ps).x::(toEs l sc (toE e sc ps).r).x) env) ++ _ ∧ (backTo pos (starEach ((toE e sc ps).x::(toEs l sc (toE e sc ps).r).x) env)).any (·.1)=false
  rw [star_one,star_one,h1,List.any_cons,h2]
  exact ⟨rfl,rfl⟩
 case refine_25 =>
  intro i l ih ps zs env pos
  obtain ⟨h1,h2⟩:=ih (ps.drop 1) zs env pos
  exact ⟨congrArg (_::·) h1,h2⟩
 case refine_26 =>
  intro i l ih ps zs env pos
  obtain ⟨h1,h2⟩:=ih (ps.drop 1) zs env pos
  exact ⟨congrArg (_::·) h1,h2⟩
 all_goals (intros; trivial)
theorem more_ok (h:Hy C F) (O:Ok C F H V p s) (b:Bi) {pp pos:Pos} {G:List Value → Shared → Prop} (hg:(biMore b).all (fun n=>(scOf C F).glob (Str.ofString n))=true) (k:G ((biMore b).map .type) s) :
  (backTo pos (starEach ((biMore b).map fun n=>.Name (Str.ofString n) pp) F.env)).any (·.1)=false ∧ wpAny (model C.prog C.w) F.A (spliced (backTo pos (starEach ((biMore b).map fun n=>.Name (Str.ofString n) pp) F.env))) G E s:=by
 have T:=boot_ty
 cases b with
 | isTuple=>exact ⟨rfl,Calls.spliced_cons (load_bi h O (by decide) (and_l hg) T.1 (by decide) (by decide) (Calls.spliced_nil k))⟩
 | isList=>exact ⟨rfl,Calls.spliced_cons (load_bi h O (by decide) (and_l hg) T.2 (by decide) (by decide) (Calls.spliced_nil k))⟩
 | _=>exact ⟨rfl,Calls.spliced_nil k⟩
theorem args_bi {A:Around} {Q:Value → Shared → Prop} {b:Bi} {trees:List (Bool × Sem Value)} {pos:Pos} (hne:trees ≠ []) (hp:trees.any (·.1)=false) (h:wpAny (model C.prog C.w) A (spliced trees) (fun vs s1=>wpAny (model C.prog C.w) A (call (biVal b) vs) Q E s1) E s) :
  wpAny (model C.prog C.w) A (callWith pos (biVal b) [] trees []) Q E s:=by
 obtain ⟨⟨star,t⟩,rest,rfl⟩:=List.exists_cons_of_ne_nil hne
 obtain rfl:star=false:=(Bool.or_eq_false_iff.mp hp).1
 cases b with
 | str=>exact PyProof.Rows.callWith_type hp (Calls.evalArgs_plain h)
 | _=>exact Calls.callWith_builtin hp (Calls.evalArgs_plain h)
theorem star_ne {ys:List PExpr} {env:Env} {pos:Pos} (h:ys ≠ []):backTo pos (starEach ys env) ≠ []:=by
 cases ys with
 | nil=>exact absurd rfl h
 | cons y ys=>cases y <;> nofun
theorem ok_bi {b:Bi} {l:CEs} (hl:SpOk C l):EvOk C (.bi b l):=by
 intro F H V p s ps K r Q E h O n er e k
 obtain ⟨m1,m2,m3⟩:=biName_mem b
 have n1:=and_l n
 refine wpAny_Call_NameR (load_bi h O m1 (and_l (and_l n1)) (boot_bi b) m2 m3 ?_)
 obtain ⟨s1,s2⟩:=star_plain l (scOf C F) (ps.drop 2) ((biMore b).map fun n=>.Name (Str.ofString n) (an (toEs l (scOf C F) (ps.drop 2)).r 0).p) F.env (an ps 0).p
 refine args_bi (star_ne fun q=>ne_of_isEmpty (and_r n1) (List.append_eq_nil_iff.mp q).1) ?_ ?_
 ·show (backTo _ _).any _=_
  rw [s1,List.any_append,s2,(more_ok (E:=fun _ _=>True) (G:=fun _ _=>True) h O b (and_r (and_l n1)) trivial).1]; rfl
 ·show wpAny _ _ (spliced (backTo _ _)) _ E s
  rw [s1]
  refine hl F H V p s _ _ r F.pa _ E _ _ h O (and_r n) er (.inl rfl) e fun ss vs q s' O' r' e'=>?_
  obtain ⟨ys,rfl,e2⟩:=vals_some e'
  obtain ⟨z,ez,e3⟩:=opK_some e2
  exact (more_ok h O' b (and_r (and_l n1)) (op_bi O'.fix.handled h.hu O'.fix.guards ez (args_vals r') (outK O' e3 k))).2
theorem call_fn {f:Nat} {l:CEs} {np cp:Pos} {K:List SV → Option Int → RR} {pa:Option Addr} {Q:Value → Shared → Prop} (hl:SpOk C l) (h:Hy C F) (O:Ok C F H V p s) (nf:((scOf C F).fn f).isSome=true) (ng:(scOf C F).glob ((scOf C F).fnm f)=true) (n:(toEs l (scOf C F) ps).ok=true) (er:Er C F r E)
  (hp:pa=F.pa ∨ noPen l=true) (e:kEs l F.Φ V.sv p K=some r) (k:∀ fa,C.fns[f]?.map (·.2)=some fa → ∀ ss vs q s',Ok C F H V q s' → ArgsRep V.ω pa s'.heap ss vs → K ss q=some r → wpAny (model C.prog C.w) F.A (call (.ref fa) vs) Q E s') :
  wpAny (model C.prog C.w) F.A (eval (.Call (.Name ((scOf C F).fnm f) np) (toEs l (scOf C F) ps).x [] cp) F.env) Q E s:=by
 obtain ⟨nm,hnm⟩:=Option.isSome_iff_exists.mp nf
 have e1:(scOf C F).fnm f=nm:=by unfold Sc.fnm; rw [hnm]; rfl
 obtain ⟨⟨n',fa⟩,hfa,hn'⟩:=Option.map_eq_some_iff.mp (show C.fns[f]?.map (·.1)=some nm from hnm)
 obtain rfl:n'=nm:=hn'
 rw [e1] at ng ⊢
 obtain ⟨k1,k2,k3⟩:=h.ok.fnOk _ (List.mem_of_getElem? hfa)
 have hg:=h.ok.T.g
 have hg':=hg.keeps O.base
 rw [← O.fix.glob] at hg'
 refine wpAny_Call_NameR (Name_function_global O.fix.kind (glob_is ng) (loadGlobal_global hg' (mg_of h.ok.X hg k1) ?_) k3)
 have k:=k fa (by rw [hfa]; rfl)
 obtain ⟨-,s2⟩:=star_plain l (scOf C F) ps [] F.env cp
 have sp:=sp_all (pos:=cp) (Q:=fun vs s'=>C.K.In s'.heap ∧ wpAny (model C.prog C.w) F.A (call (.ref fa) ([] ++ vs)) Q E s') hl h O n er hp e fun ss vs q s' O' r' e'=>⟨h.ok.X.keeps O'.base,k ss vs q s' O' r' e'⟩
 cases hys:(toEs l (scOf C F) ps).x with
 | nil =>
  have hl0:l=.nil:=by cases l <;> first | rfl | cases hys
  subst hl0
  exact callWith_K0 (h.ok.X.keeps O.base) k2 (k [] [] p s O rfl e)
 | cons y ys =>
  rw [hys] at sp s2
  exact callWith_K (K:=C.K) (h₀:=C.h₀) h.ok.X k2 sp (by cases y <;> first | rfl | exact (nomatch s2)) (by cases y <;> first | exact s2 | exact (nomatch s2))
theorem ok_call {f:Nat} {l:CEs} (hl:SpOk C l):EvOk C (.call f l):=by
 intro F H V p s ps K r Q E h O n er e k
 have n2:=and_l (and_r n)
 refine call_fn (pa:=none) hl h O (and_l n2) (and_r n2) (and_r (and_r n)) er (.inr (and_l n)) e fun fa hfa ss vs q s' O' r' e'=>wpAny_call ?_
 rcases callK_some e' with ⟨v,q2,hΦ,e2⟩ | ⟨x,hΦ,rfl⟩
 ·obtain ⟨fs,c⟩:=h.calls f ss none _ hΦ
  refine c F H V q s' vs fa _ O' fs h.room hfa r' (fun _ q=>nomatch q) (fun z q' ez v s2 O2 r2=>?_) fun x ex=>nomatch ex
  cases ez
  exact k v _ q s2 O2 r2 e2
 ·obtain ⟨fs,c⟩:=h.calls f ss none _ hΦ
  exact c F H V q s' vs fa _ O' fs h.room hfa r' (fun _ q=>nomatch q) (fun z q' ez=>nomatch ez) fun y ey e s2 F2=>er y (by cases ey; rfl) e s2 (fly_lift O' fs (fun _ z=>z) F2) (fly_ns O' (fun _ z=>z) F2)
theorem ok_callP {f:Nat} {l:CEs} (hl:SpOk C l):EvOk C (.callP f l):=by
 intro F H V p s ps K r Q E h O n er e k
 have n2:=and_l n
 refine call_fn (pa:=F.pa) hl h O (and_l n2) (and_r n2) (and_r n) er (.inl rfl) e fun fa hfa ss vs q s' O' r' e'=>wpAny_call ?_
 obtain ⟨j,rfl,e'⟩:=opK_some e'
 rcases callK_some e' with ⟨v,q2,hΦ,e2⟩ | ⟨x,hΦ,rfl⟩
 ·obtain ⟨fs,c⟩:=h.calls f ss (some j) _ hΦ
  refine c F H V (some j) s' vs fa _ O' fs h.room hfa r' (fun _ q=>q) (fun z q' ez v s2 O2 r2=>?_) fun x ex=>nomatch ex
  cases ez
  exact k v _ q2 s2 O2 r2 e2
 ·obtain ⟨fs,c⟩:=h.calls f ss (some j) _ hΦ
  exact c F H V (some j) s' vs fa _ O' fs h.room hfa r' (fun _ q=>q) (fun z q' ez=>nomatch ez) fun y ey e s2 F2=>er y (by cases ey; rfl) e s2 (fly_lift O' fs (fun _ z=>z) F2) (fly_ns O' (fun _ z=>z) F2)
theorem IMap.at {h:Heap} {a:Addr} {l:List (Int × Int)} (prog:Program) (w:World) (im:IMap h a l) (k:Int) (y:Int) (u:Tok):∃ f t,h.MapOf (intKind prog w) a f ∧ (f k).getD (.int y u)=.int ((look l k).getD y) t:=by
 obtain ⟨kvs,hD,hI,_⟩:=im
 rcases hI.at k with ⟨h1,h2⟩ | ⟨i,t,h1,h2⟩
 ·exact ⟨_,u,(hD prog w).mapOf,by rw [h1,h2]; rfl⟩
 ·exact ⟨_,t,(hD prog w).mapOf,by rw [h1,h2]; rfl⟩
theorem slot_dict {ω:Addr → Nat} {i:Nat} {pa:Option Addr} {h:Heap} {mx:Option Value} {o:SV} {l:List (Int × Int)} (sl:SlotOk ω i pa h mx o) (e:isDc o=some l):∃ a,mx=some (.ref a) ∧ (a == sysModules)=false ∧ IMap h a l:=by
 cases o with
 | od=>cases e; obtain ⟨a,e,_,sm,im⟩:=sl; exact ⟨a,e,sm,im⟩
 | dval=>cases e; obtain ⟨v,e,a,rfl,_,sm,im⟩:=sl; exact ⟨a,e,sm,im⟩
 | _=>cases e
theorem ok_dget {i:Nat} {a b:CE} (ha:EvOk C a) (hb:EvOk C b):EvOk C (.dget i a b):=by
 intro F H V p s ps K r Q E h O n er e k
 obtain ⟨o,ho,e⟩:=opK_some e
 obtain ⟨l,hl,e⟩:=opK_some e
 have n1:=and_l n
 have hn:=(nth_get _ _).symm.trans ho
 refine wpAny_Call_method2_late rfl (and_r n1) (by rw [star_one,star_one]; rfl) (load_slot O (and_l n1) ho (fun v hv sl=>?_) (fun q=>by rw [q] at hl; cases hl))
 obtain ⟨dd,ed,sm,kvs,hD,_,o0,ho0⟩:=slot_dict sl hl
 cases ed
 obtain ⟨_,_,_,ho1,hx0,_⟩:=hD C.prog C.w
 refine ⟨"dict","dict.get",PySem.F.plainAttrs_dict,PySem.F.slot_dict_get,PySem.F.type_dict_get,(hD C.prog C.w).typeIs,fun a ea=>by cases ea; exact ⟨_,ho1,hx0.2.1⟩,?_⟩
 refine wpAny_dict_get2 (knd:=intKind C.prog C.w) sm (ev2 ha hb h O (and_r n) er e fun v1 z1 v2 z2 q s' O' r1 r2 e'=>?_)
 obtain ⟨x,ex,e'⟩:=opK_some e'
 obtain ⟨y,ey,e'⟩:=opK_some e'
 obtain rfl:=asInt_some ex
 obtain rfl:=asInt_some ey
 obtain ⟨t,rfl⟩:=r1
 obtain ⟨u,rfl⟩:=r2
 obtain ⟨_,ed',_,im⟩:=slot_dict (O'.slots i _ _ (has_name (and_l n1)) hn) hl
 rw [hv] at ed'; cases ed'
 obtain ⟨f,t',hM,hg⟩:=im.at C.prog C.w x y u
 refine ⟨x,f,by simp [intKind,Value.isInt],hM,?_⟩
 rw [hg]
 exact out_int (u:=s'.toks + 1) (outK O' e' k)
theorem base_is {o:CE} {sc:Sc} {ps:List An} {env:Env} {n:Str} (h:simpleBase (toE o sc ps).x=true):attributeBase (toE o sc ps).x n env (eval (toE o sc ps).x env)=eval (toE o sc ps).x env:=by
 cases o with
 | cst=>rfl
 | loc=>rfl
 | seq t l=>cases t <;> cases h
 | _=>cases h
theorem ok_meth {m:Me} {o a:CE} (ho:EvOk C o) (ha:EvOk C a):EvOk C (.meth m o a):=by
 intro F H V p s ps K r Q E h O n er e k
 have n1:=and_l n
 refine Call_method1 (base_is (and_l n1)) (star_1 _ _ _ _) (and_r n1) (ho F H V p s _ _ r _ E h O (and_l (and_r n)) er e fun v1 z1 q1 s1 O1 r1 e1=>?_)
 obtain ⟨l,hl,e2⟩:=opK_some e1
 obtain rfl:=asStr_some hl
 obtain ⟨t,rfl⟩:=r1
 have arg:∀ G:Value → Shared → Prop,(∀ c u s2 z,meC m l c=some z → Out V.ω s2 z Q → G (.str ⟨[c].toArray⟩ u) s2) → wpAny (model C.prog C.w) F.A (eval (toE a (scOf C F) (toE o (scOf C F) (ps.drop 2)).r).x F.env) G E s1:=fun G hG =>
  ha F H V q1 s1 _ _ r _ E h O1 (and_r (and_r n)) er e2 fun v2 z2 q2 s2 O2 r2 e3=>by
   obtain ⟨y,hy,e4⟩:=opK_some e3
   obtain rfl:=asStr_some hy
   obtain ⟨z,hz,e5⟩:=opK_some e4
   obtain ⟨u,rfl⟩:=r2
   cases y with
   | nil=>cases hz
   | cons c y =>
    cases y with
    | nil=>exact hG c u s2 z hz (outK O2 e5 k)
    | cons=>cases hz
 cases m with
 | index =>
  refine MethodOnS.str1 PySem.F.slot_str_index PySem.F.type_str_index PySem.F.entry_str_index (arg _ fun c u s2 z hz o=>⟨PySem.F.args_str_index_2 _ _,?_⟩)
  obtain ⟨i,hi,rfl⟩:=Option.map_eq_some_iff.mp hz
  rcases occ_firstAt c l with ⟨j,r',h1,h2⟩ | ⟨h1,_⟩
  ·rw [h1] at hi; cases hi
   exact ⟨_,gives_str_index _ _ _ _ j r' h2,out_int o⟩
  ·rw [h1] at hi; cases hi
 | find =>
  refine MethodOnS.str1 PySem.F.slot_str_find PySem.F.type_str_find PySem.F.entry_str_find (arg _ fun c u s2 z hz o=>⟨PySem.F.args_str_find_2 _ _,_,gives_str_find _ _ _ _,?_⟩)
  cases hz
  rcases occ_firstAt c l with ⟨j,r',h1,h2⟩ | ⟨h1,h2⟩
  ·rw [h2]; rw [h1] at o; exact out_int o
  ·rw [h2]; rw [h1] at o; exact out_int o
noncomputable def litD (l:List (List Nat × Int)):List (PyData × PyData):=l.map fun p=>(.str ⟨p.1.toArray⟩,.int p.2)
theorem lit_pairs (l:List (List Nat × Int)):∀ ps:List An,litPairs (toLit l ps).1 (toLit l ps).2=some (litD l) ∧ (toLit l ps).1.all (·.isSome)=true ∧ (toLit l ps).1.length=l.length ∧ (toLit l ps).2.length=l.length:=by
 induction l with
 | nil=>exact fun ps=>⟨rfl,rfl,rfl,rfl⟩
 | cons p l ih =>
  intro ps
  obtain ⟨h1,h2,h3,h4⟩:=ih (ps.drop 2)
  refine ⟨?_,h2,congrArg (· + 1) h3,congrArg (· + 1) h4⟩
  show litPairs (some _::_) (_::_)=_
  unfold litPairs
  rw [h1]; rfl
theorem litD_keys (l:List (List Nat × Int)):strKeyed (litD l)=true ∧ strKeysOf (litD l)=l.map fun p=>⟨p.1.toArray⟩:=by
 induction l with
 | nil=>exact ⟨rfl,rfl⟩
 | cons p r ih=>exact ⟨ih.1,congrArg (_::·) ih.2⟩
theorem strVal_cons (k k':Str) (v:Value) (l:List (Str × Value)):valueAt ((k',v)::l) k=if k'=k then some v else valueAt l k:=by
 unfold valueAt
 by_cases q:k'=k <;> simp [q]
theorem lit_at {l:List (List Nat × Int)}:∀ {kvs:List (Str × Value)},FlatPairs PyData.str kvs (litD l) → ∀ (x:List Nat) (e:Int) (u:Tok),∃ t,(valueAt kvs ⟨x.toArray⟩).getD (.int e u)=.int (litLook l x e) t:=by
 induction l with
 | nil=>intro kvs F x e u; cases F; exact ⟨u,rfl⟩
 | cons p r ih =>
  intro kvs F x e u
  obtain ⟨k,v,kvs',rfl,hk,⟨t',rfl⟩,F'⟩:∃ k v kvs',kvs=(k,v)::kvs' ∧ k=⟨p.1.toArray⟩ ∧ (∃ t,v=.int p.2 t) ∧ FlatPairs PyData.str kvs' (litD r):=by
   generalize hd:litD (p::r)=D at F
   cases F with
   | nil=>cases hd
   | @cons k v d' kvs' D hv F'' =>
    injection hd with h1 h2
    injection h1 with h3 h4
    subst h4 h2
    injection h3 with h3
    refine ⟨k,v,kvs',rfl,h3.symm,?_,F''⟩
    cases hv {} with
    | int i t'=>exact ⟨t',rfl⟩
  rw [strVal_cons,hk,litLook]
  by_cases hx:p.1=x
  ·rw [if_pos hx,if_pos (by rw [hx])]; exact ⟨t',rfl⟩
  ·rw [if_neg hx,if_neg fun q=>hx (by injection q with q; simpa using congrArg Array.toList q)]; exact ih F' x e u
theorem ok_litGet {l:List (List Nat × Int)} {a:CE} {d:Int} (ha:EvOk C a):EvOk C (.litGet l a d):=by
 intro F H V p s ps K r Q E h O n er e k
 obtain ⟨g1,g2,g3,g4⟩:=lit_pairs l (ps.drop 3)
 have n1:=and_l n
 have n2:=and_l n1
 have n3:=and_l n2
 refine wpAny_Call_method2_late rfl (and_l n3) (by rw [star_one]; rfl) (Dict_lits_str g1 (litD_keys l).1 (by rw [(litD_keys l).2]; exact of_decide_eq_true (and_r n3)) g2 (g3.trans g4.symm) (fun q=>ne_of_isEmpty (and_r n2) (List.eq_nil_of_length_eq_zero (g3.symm.trans (by rw [q]; rfl)))) (by rw [g3]; exact of_decide_eq_true (and_r n1)) fun a o h₁ tk hge ho hD keep=>?_)
 obtain ⟨kvs,hD,hF⟩:=hD
 have O1:=O.made (t:=tk) keep
 have sm:(a == sysModules)=false:=by
  have:=modules_low (h.ok.T.nolimit.keeps O.base)
  have ha:(a:Nat) ≠ sysModules:=fun q=>Nat.lt_irrefl _ (Nat.lt_of_lt_of_le this (q ▸ hge))
  simpa using ha
 have hDo:({ s with heap:=h₁,toks:=tk }:Shared).heap.DictOf (PySem.strKind C.prog C.w) a kvs:=Heap.dictOf_iff.mpr ⟨o,ho,hD⟩
 have hx:=hD
 obtain ⟨es,ep,hx0,_⟩:=hx
 have h0:V.ω a=0:=O.lt.fresh (Heap.get?_none_of_le hge)
 have O2:Ok C F ⟨H.vs,fun b o'=>(b=a ∧ o'=o) ∨ H.gd b o',H.io⟩ V p { s with heap:=h₁,toks:=tk } :=
  {O1 with gd:=fun b o' hq=>Or.elim hq (fun e=>by rw [e.1,e.2]; exact ⟨by rw [h0]; exact Nat.zero_le _,(O1.mine (by rw [h0]; nofun)).1,(O1.mine (by rw [h0]; nofun)).2,fun q=>ne_there (Heap.get?_none_of_le hge) (ns_there O.ns).choose_spec q.symm,ho⟩) (O1.gd b o') }
 refine ⟨"dict","dict.get",PySem.F.plainAttrs_dict,PySem.F.slot_dict_get,PySem.F.type_dict_get,hDo.typeIs,fun b eb=>by cases eb; exact ⟨o,ho,hx0.2.1⟩,?_⟩
 refine wpAny_dict_get2 (knd:=PySem.strKind C.prog C.w) sm (ha F _ V p _ _ _ r _ E h O2 (and_r n) er e fun v2 z2 q2 s2 O3 r2 e2=>?_)
 obtain ⟨x,hx,e3⟩:=opK_some e2
 obtain rfl:=asStr_some hx
 obtain ⟨t,rfl⟩:=r2
 refine wpAny_Constant_int ⟨⟨x.toArray⟩,_,by simp [PySem.strKind,Value.isStrOf],(Heap.dictOf_iff.mpr ⟨o,(O3.gd _ _ (.inl ⟨rfl,rfl⟩)).2.2.2.2,hD⟩:s2.heap.DictOf (PySem.strKind C.prog C.w) a kvs).mapOf,?_⟩
 obtain ⟨t',ht⟩:=lit_at hF x d s2.toks
 rw [ht]
 have O4:Ok C F H V q2 s2:={ O3 with gd:=fun b o' hq=>O3.gd b o' (.inr hq) }
 exact out_int (s:={ s2 with toks:=s2.toks + 1 }) (u:=s2.toks + 1 + 1) (outK (O4.made fun _ _ e=>e) e3 k)
end
end
end Mp
end
section
open PySem PySem.W PyProof.Rows PySem.Calls
set_option Elab.async false
set_option maxRecDepth 100000
set_option maxHeartbeats 2000000
set_option genInjectivity false
set_option linter.unusedVariables false
namespace Mp
noncomputable section
noncomputable abbrev ownedIters:List String:=["enumerate","zip","dict_itemiterator","dict_reverseitemiterator","odict_iterator","itertools.zip_longest","itertools.pairwise"]
structure Items (prog:Program) (w:World) (ω:Addr → Nat) (h:Heap) (xs:List PV) (I:Addr) (fp:List Addr) (P:Nat → Value → Prop) (St:Nat → Heap → Prop) (h':Heap):Prop where
 walks:∀ A':Around,A'.handled=none → Walks prog w A' I fp [I] xs.length P St
 st:St 0 h'
 low:∀ b ∈ fp,b < h'.objs.size
 new:h.get? I=none
 val:∀ i v,P i v → ∃ x,xs[i]?=some x ∧ Rep ω h x v
 keep:Kept h h'
 fpM:∀ b ∈ fp,b=I ∨ (ω b=0 ∧ ∃ o,h.get? b=some o)
 go:∀ i h,St i h → ∃ o n vs,h.get? I=some o ∧ o.cls=.type n ∧ o.data=.fields vs ∧ ownedIters.contains n=false
section
variable {prog:Program} {w:World} {A:Around} {E:Value → Shared → Prop} {s:Shared} {ω:Addr → Nat} {Q:Value → Shared → Prop} {v:Value} {x:PV} {xs:List PV}
theorem items_of {vs:List Value} {a:Addr} {o:Obj} {St:Nat → Heap → Prop} (r:Reps ω s.heap xs vs) (h0:ω a=0) (ha:∃ o,s.heap.get? a=some o)
  (W:∀ A':Around,A'.handled=none → a ≠ s.heap.objs.size → Walks prog w A' s.heap.objs.size [s.heap.objs.size,a] [s.heap.objs.size] vs.toArray.size (fun i v=>vs.toArray[i]?=some v) St) (st:St 0 (s.heap.push o))
  (go:∀ i h,St i h → ∃ o n vs,h.get? s.heap.objs.size=some o ∧ o.cls=.type n ∧ o.data=.fields vs ∧ ownedIters.contains n=false) :
  Items prog w ω s.heap xs s.heap.objs.size [s.heap.objs.size,a] (fun i v=>vs.toArray[i]?=some v) St (s.heap.push o) where
 walks:=fun A' hA=>by
  have:=W A' hA (ne_there (none_at _) ha.choose_spec)
  rw [show vs.toArray.size=xs.length from r.length] at this; exact this
 st:=st
 low:=fun b hb=>by
  rw [Heap.size_push]
  rcases List.mem_cons.mp hb with rfl | hb
  ·exact Nat.lt_succ_self _
  ·rw [List.mem_singleton.mp hb]; exact Nat.lt_succ_of_lt (Heap.lt_size ha.choose_spec)
 new:=none_at _
 val:=fun i v hv=>by
  have hv:vs[i]?=some v:=List.getElem?_toArray.symm.trans hv
  have hlt:i < xs.length:=r.length ▸ (List.getElem?_eq_some_iff.mp hv).1
  obtain ⟨v',hv',rv⟩:=r.get (List.getElem?_eq_getElem hlt)
  rw [hv] at hv'; cases hv'
  exact ⟨_,List.getElem?_eq_getElem hlt,rv⟩
 keep:=fun b o eb=>Heap.get?_push_of_some _ eb
 fpM:=fun b hb=>(List.mem_cons.mp hb).imp id fun hb=>by rw [List.mem_singleton.mp hb]; exact ⟨h0,ha⟩
 go:=go
theorem signs_of {l:List Nat} {o:Obj} {St:Nat → Heap → Prop}
  (W:∀ A':Around,A'.handled=none → Walks prog w A' s.heap.objs.size [s.heap.objs.size] [s.heap.objs.size] (⟨l.toArray⟩:Str).cps.size (SignAt ⟨l.toArray⟩) St) (st:St 0 (s.heap.push o))
  (go:∀ i h,St i h → ∃ o n vs,h.get? s.heap.objs.size=some o ∧ o.cls=.type n ∧ o.data=.fields vs ∧ ownedIters.contains n=false) :
  Items prog w ω s.heap (l.map fun c=>PV.str [c]) s.heap.objs.size [s.heap.objs.size] (SignAt ⟨l.toArray⟩) St (s.heap.push o) where
 walks:=fun A' hA=>by rw [List.length_map]; exact W A' hA
 st:=st
 low:=fun b hb=>by rw [Heap.size_push,List.mem_singleton.mp hb]; exact Nat.lt_succ_self _
 new:=none_at _
 val:=fun i v hv=>by
  obtain ⟨c,u,hc,rfl⟩:=hv
  exact ⟨.str [c],by rw [List.getElem?_map,show l[i]?=some c from List.getElem?_toArray.symm.trans hc]; rfl,u,rfl⟩
 keep:=fun b o eb=>Heap.get?_push_of_some _ eb
 fpM:=fun b hb=>.inl (List.mem_singleton.mp hb)
 go:=go
theorem iter_of (r:Rep ω s.heap x v) (e:itemsOf x=some xs) (hQ:∀ I fp P St h' tk,Items prog w ω s.heap xs I fp P St h' → Q (.ref I) { s with heap:=h',toks:=tk }):wpAny (model prog w) A (pyIter v) Q E s:=by
 cases x with
 | lst l =>
  cases e
  obtain ⟨a,vs,rfl,z,il,rl⟩:=r
  exact wpAny_pyIter_list il (hQ _ _ _ (fun i h=>h.IsListIter s.heap.objs.size a i ∧ h.IsList a vs.toArray) _ s.toks (items_of rl z (lst_there il) (fun A' hA ne=>Walks.list hA _ a ne _) ⟨⟨_,Heap.get?_push_size _ rfl,rfl,rfl⟩,isList_keep il fun o ho=>Heap.get?_push_of_some _ ho⟩
   fun i h hst=>let ⟨o,ho,hc,hd⟩:=hst.1; ⟨o,_,_,ho,hc,hd,by decide⟩))
 | tup l =>
  cases e
  obtain ⟨a,vs,rfl,z,il,rl⟩:=r
  exact wpAny_pyIter_tuple il (hQ _ _ _ (fun i h=>h.IsTupleIter s.heap.objs.size a i ∧ h.IsTuple a vs.toArray) _ s.toks (items_of rl z (tup_there il) (fun A' hA ne=>Walks.tuple hA _ a ne _) ⟨⟨_,Heap.get?_push_size _ rfl,rfl,rfl⟩,isTup_keep il fun o ho=>Heap.get?_push_of_some _ ho⟩
   fun i h hst=>let ⟨o,ho,hc,hd⟩:=hst.1; ⟨o,_,_,ho,hc,hd,by decide⟩))
 | str l =>
  cases e
  obtain ⟨t,rfl⟩:=r
  cases ha:(⟨l.toArray⟩:Str).cps.all (· < 128) with
  | false=>exact wpAny_pyIter_wide ha (hQ _ _ _ (fun i h=>h.IsStrIter s.heap.objs.size "str_iterator" ⟨l.toArray⟩ t i) _ s.toks (signs_of (fun A' hA=>Walks.strWide hA _ _ t) ⟨_,Heap.get?_push_size _ rfl,rfl,rfl⟩
    fun i h hst=>let ⟨o,ho,hc,hd⟩:=hst; ⟨o,_,_,ho,hc,hd,by decide⟩))
  | true=>exact wpAny_pyIter_ascii ha (hQ _ _ _ (fun i h=>h.IsStrIter s.heap.objs.size "str_ascii_iterator" ⟨l.toArray⟩ t i) _ s.toks (signs_of (fun A' hA=>Walks.strAscii hA _ _ t) ⟨_,Heap.get?_push_size _ rfl,rfl,rfl⟩
    fun i h hst=>let ⟨o,ho,hc,hd⟩:=hst; ⟨o,_,_,ho,hc,hd,by decide⟩))
 | _=>cases e
theorem range_iter {k:Int} {t:Tok} (h1:-strLine ≤ k) (h2:k ≤ strLine) (hQ:∀ I fp P St h' tk,Items prog w ω s.heap (rangePV k) I fp P St h' → Q (.ref I) { s with heap:=h',toks:=tk }) :
  wpAny (model prog w) A (call (.type "range") [.int k t]) (fun r s'=>wpAny (model prog w) A (pyIter r) Q E s') E s:=by
 rw [strLine_eq] at h1 h2
 have small:Builtin.Range.small 0 k 1=true:=small_one (by decide) (by decide) (by omega) (by omega)
 have hsz:Builtin.Range.rangeSize 0 k 1=(k.toNat:Int):=by
  rw [rangeSize_one]
  split <;> omega
 refine call_range_1 (wpAny_pyIter_range (a:=0) (b:=k) (c:=1) (t:=s.toks) (u:=t) (v:=s.toks + 1) (Heap.get?_push_size _ rfl) small ?_)
 dsimp only
 rw [Heap.size_push]
 refine hQ _ [s.heap.objs.size + 1] (fun i v=>i < k.toNat ∧ ∃ t,v=.int (0 + i * 1) t) (fun i h=>IsRangeIter h (s.heap.objs.size + 1) (0 + (i:Nat) * 1) ((k.toNat:Int) - (i:Nat)) 1) _ _
  {walks:=fun A' hA=>?_,st:=?_,low:=fun b hb=>?_,new:=Heap.get?_none_of_le (Nat.le_succ _),val:=fun i v hv=>?_,keep:=fun b o eb=>Heap.get?_push_of_some _ (Heap.get?_push_of_some _ eb),fpM:=fun b hb=>.inl (List.mem_singleton.mp hb),go:=fun i h hst=>⟨_,_,_,hst,rfl,rfl,by decide⟩ }
 ·unfold rangePV
  rw [List.length_map,List.length_range]
  exact (Walks.range hA (s.heap.objs.size + 1) 0 1 k.toNat).bound
 ·show IsRangeIter _ _ _ _ _
  rw [hsz]
  exact Heap.get?_push_at (Heap.size_push _ _).symm rfl
 ·rw [List.mem_singleton.mp hb,Heap.size_push,Heap.size_push]; exact Nat.lt_succ_self _
 ·obtain ⟨hlt,t,rfl⟩:=hv
  refine ⟨.int i,?_,t,by rw [Int.zero_add,Int.mul_one]⟩
  unfold rangePV
  rw [List.getElem?_map,List.getElem?_range hlt]; rfl
end
theorem Rep.uniq {ω:Addr → Nat} {h:Heap} (x:PV):∀ {y:PV} {v:Value},Rep ω h x v → Rep ω h y v → x=y:=by
 refine PV.rec (motive_1:=fun x=>∀ {y:PV} {v:Value},Rep ω h x v → Rep ω h y v → x=y) (motive_2:=fun xs=>∀ {ys:List PV} {vs:List Value},Reps ω h xs vs → Reps ω h ys vs → xs=ys) ?_ ?_ ?_ ?_ ?_ ?_ ?_ ?_ x
 ·intro y v a b; cases a; cases y <;> first | rfl | (obtain ⟨_,b⟩:=b; exact (nomatch b)) | (obtain ⟨_,_,b,_⟩:=b; cases b) | cases b
 ·intro i y v a b; cases a; cases y <;> first | (cases b; rfl) | (obtain ⟨_,b⟩:=b; exact (nomatch b)) | (obtain ⟨_,_,b,_⟩:=b; cases b) | cases b
 ·intro i y v a b; obtain ⟨t,rfl⟩:=a; cases y <;> first | (obtain ⟨_,b⟩:=b; cases b; rfl) | (obtain ⟨_,b⟩:=b; exact (nomatch b)) | (obtain ⟨_,_,b,_⟩:=b; cases b) | cases b
 ·intro i y v a b
  obtain ⟨t,rfl⟩:=a
  cases y <;> first | (obtain ⟨_,b⟩:=b; injection b with b; injection b with b; exact congrArg PV.str (congrArg Array.toList b)) | (obtain ⟨_,b⟩:=b; exact (nomatch b)) | (obtain ⟨_,_,b,_⟩:=b; cases b) | cases b
 ·intro l ih y v a b
  obtain ⟨d,vs,rfl,_,⟨o,ho,hc,n,hd⟩,rl⟩:=a
  cases y with
  | tup l' =>
   obtain ⟨d',vs',e,_,⟨o',ho',_,n',hd'⟩,rl'⟩:=b
   cases e
   rw [ho] at ho'; cases ho'
   rw [hd] at hd'
   obtain rfl:=(congrArg Array.toList (Data.seq.inj hd').1:vs=vs')
   rw [ih rl rl']
  | lst l' =>
   obtain ⟨d',vs',e,_,⟨o',ho',hc',_⟩,_⟩:=b
   cases e
   rw [ho] at ho'; cases ho'
   rw [hc] at hc'
   injection hc' with q; exact absurd q (by decide)
  | none=>cases b
  | bool=>cases b
  | int=>obtain ⟨_,b⟩:=b; cases b
  | str=>obtain ⟨_,b⟩:=b; cases b
 ·intro l ih y v a b
  obtain ⟨d,vs,rfl,_,⟨o,ho,hc,n,hd⟩,rl⟩:=a
  cases y with
  | lst l' =>
   obtain ⟨d',vs',e,_,⟨o',ho',_,n',hd'⟩,rl'⟩:=b
   cases e
   rw [ho] at ho'; cases ho'
   rw [hd] at hd'
   obtain rfl:=(congrArg Array.toList (Data.seq.inj hd').1:vs=vs')
   rw [ih rl rl']
  | tup l' =>
   obtain ⟨d',vs',e,_,⟨o',ho',hc',_⟩,_⟩:=b
   cases e
   rw [ho] at ho'; cases ho'
   rw [hc] at hc'
   injection hc' with q; exact absurd q (by decide)
  | none=>cases b
  | bool=>cases b
  | int=>obtain ⟨_,b⟩:=b; cases b
  | str=>obtain ⟨_,b⟩:=b; cases b
 ·intro ys vs a b
  cases a
  cases ys with
  | nil=>rfl
  | cons=>obtain ⟨_,_,b,_⟩:=b; cases b
 ·intro x xs ihx ih ys vs a b
  obtain ⟨v,ws,rfl,a,ar⟩:=a
  cases ys with
  | nil=>cases b
  | cons y ys =>
   obtain ⟨v',ws',e,b,br⟩:=b
   cases e
   rw [ihx a b,ih ar br]
end
end Mp
end
section
open PySem PySem.W PyProof.Rows PySem.Calls PyProof
set_option Elab.async false
set_option maxRecDepth 100000
set_option maxHeartbeats 2000000
set_option linter.unusedVariables false
namespace Mp
noncomputable section
noncomputable def CompR (cond:PV → Option Bool) (elt:PV → Option PV):List PV → List PV → Prop
 | [],ys=>ys=[]
 | x::r,ys=>∃ b,cond x=some b ∧ (b=true → ∃ y zs,elt x=some y ∧ ys=y::zs ∧ CompR cond elt r zs) ∧ (b=false → CompR cond elt r ys)
section
variable {cond:PV → Option Bool} {elt:PV → Option PV}
theorem compK_some {r:Except Exn (PV × Option Int)} {xs:List PV}:∀ {K:List PV → RR},compK cond elt xs K=some r → ∃ ys,CompR cond elt xs ys ∧ K ys=some r:=by
 induction xs with
 | nil=>exact fun e=>⟨[],rfl,e⟩
 | cons x xs ih =>
  intro K e
  obtain ⟨b,hb,e1⟩:=opK_some e
  cases b with
  | true =>
   obtain ⟨y,hy,e2⟩:=opK_some e1
   obtain ⟨ys,c,e3⟩:=ih e2
   exact ⟨y::ys,⟨true,hb,fun _=>⟨y,ys,hy,rfl,c⟩,nofun⟩,e3⟩
  | false =>
   obtain ⟨ys,c,e3⟩:=ih e1
   exact ⟨ys,⟨false,hb,nofun,fun _=>c⟩,e3⟩
theorem CompR.at {xs:List PV}:∀ {ys:List PV},CompR cond elt xs ys → ∀ (i:Nat) (x:PV),xs[i]?=some x → ∃ b,cond x=some b ∧ (b=true → ∃ y,elt x=some y):=by
 induction xs with
 | nil=>intro ys _ i x hx; cases hx
 | cons z xs ih =>
  intro ys c i x hx
  obtain ⟨b,hb,c1,c2⟩:=c
  cases i with
  | zero=>cases hx; exact ⟨b,hb,fun q=>let ⟨y,_,hy,_⟩:=c1 q; ⟨y,hy⟩⟩
  | succ i =>
   cases b with
   | true=>obtain ⟨_,_,_,_,c⟩:=c1 rfl; exact ih c i x hx
   | false=>exact ih (c2 rfl) i x hx
theorem CompR.reps {ω:Addr → Nat} {h:Heap} (p:Value → Bool) (G:Value → Value → Prop) (hp:∀ v x b,Rep ω h x v → cond x=some b → p v=b) (hG:∀ v y x z,G v y → Rep ω h x v → elt x=some z → Rep ω h z y) {xs:List PV} :
  ∀ {vs:List Value} {zs:List PV} {ys:List Value},Reps ω h xs vs → CompR cond elt xs zs → Paired G (vs.filter p) ys → Reps ω h zs ys:=by
 induction xs with
 | nil=>intro vs zs ys r c P; subst r; subst c; cases P; rfl
 | cons x xs ih =>
  intro vs zs ys r c P
  obtain ⟨v,ws,rfl,a,r⟩:=r
  obtain ⟨b,hb,c1,c2⟩:=c
  have pv:=hp v x b a hb
  cases b with
  | true =>
   obtain ⟨y,zs',hy,rfl,c⟩:=c1 rfl
   rw [List.filter_cons,if_pos pv] at P
   cases P with
   | cons f P=>exact ⟨_,_,rfl,hG _ _ _ _ f a hy,ih r c P⟩
  | false =>
   rw [List.filter_cons,if_neg (by rw [pv]; decide)] at P
   exact ih r (c2 rfl) P
end
theorem reps_of_get {ω:Addr → Nat} {h:Heap} {xs:List PV}:∀ {vs:List Value},vs.length=xs.length → (∀ (j:Nat) v,vs[j]?=some v → ∃ x,xs[j]?=some x ∧ Rep ω h x v) → Reps ω h xs vs:=by
 induction xs with
 | nil=>intro vs e _; exact List.eq_nil_of_length_eq_zero e
 | cons x xs ih =>
  intro vs e g
  cases vs with
  | nil=>cases e
  | cons v vs =>
   obtain ⟨x',hx,r⟩:=g 0 v rfl
   cases hx
   exact ⟨v,vs,rfl,r,ih (Nat.succ.inj e) fun j v hv=>g (j + 1) v hv⟩
theorem forIn_one {M:Model} {A:Around} {c:PExpr} {env:Env} {Q:Bool → Shared → Prop} {E:Value → Shared → Prop} {s:Shared} (h:wpAny M A (isTrue c env (eval c env)) Q E s) :
  wpAny M A (forIn [c] true fun c r=>if r=true then do let ok ← isTrue c env (eval c env); pure (ForInStep.yield ok) else pure (ForInStep.yield r)) Q E s:=by
 rw [List.forIn_cons,if_pos rfl]
 exact wpAny_bind (wpAny_bind (wpAny_mono h (fun ok s' q=>wpAny_pure (by simp only [List.forIn_nil]; exact wpAny_pure q)) fun _ _ x=>x))
theorem scal_is {z w:PV} (e:scal z=some w):z=w:=by
 cases z <;> first | (cases e; rfl) | cases e
theorem scal_any {z w:PV} (e:scal z=some w) {ω ω':Addr → Nat} {h h':Heap} {y:Value} (r:Rep ω h z y):Rep ω' h' z y:=by
 cases z <;> first | exact r | cases e
theorem quiet_some {r:RR} {v:PV} (e:quiet r=some v):r=some (.ok (v,none)):=by
 obtain ⟨x,rfl,e⟩:=Option.bind_eq_some_iff.mp e
 cases x with
 | error=>cases e
 | ok x =>
  obtain ⟨a,b⟩:=x
  cases b with
  | none=>cases e; rfl
  | some b=>cases e
noncomputable def eltF (elt:CE) (x:PV):Option PV:=match elt with
 | .loc 0=>some x
 | e=>(quiet (kE e noFn [.val x] none endK)).bind scal
theorem comp_eq {rng:Bool} {elt src:CE} {cond:CO} {Φ:Fn} {env:List SV} {p:Option Int} {k:KE}:kE (.comp rng elt src cond) Φ env p k=kE src Φ env p fun v p=>srcK rng v fun xs=>compK (fun x=>kC cond noFn [.val x]) (eltF elt) xs fun ys=>k (.lst ys) p:=by
 cases elt with
 | loc i=>cases i <;> rfl
 | _=>rfl
theorem elt_some {elt:CE} {x z:PV} (e:eltF elt x=some z):(elt=.loc 0 ∧ z=x) ∨ (kE elt noFn [.val x] none endK=some (.ok (z,none)) ∧ scal z=some z):=by
 have gen:(quiet (kE elt noFn [.val x] none endK)).bind scal=some z → (elt=.loc 0 ∧ z=x) ∨ (kE elt noFn [.val x] none endK=some (.ok (z,none)) ∧ scal z=some z):=fun e=>by
  obtain ⟨w,e1,e2⟩:=Option.bind_eq_some_iff.mp e
  obtain rfl:=scal_is e2
  exact .inr ⟨quiet_some e1,e2⟩
 cases elt with
 | loc i =>
  cases i with
  | zero=>cases e; exact .inl ⟨rfl,rfl⟩
  | succ i=>exact gen e
 | _=>exact gen e
section
variable {C:Cx} {F:Frm} {H:Hd} {V:Vs} {p:Option Int} {s:Shared} {ps ps':List An} {r:Except Exn (PV × Option Int)} {E:Value → Shared → Prop}
noncomputable def srcX (rng:Bool) (z:PExpr) (a b:Pos):PExpr:=match rng with
 | true=>.Call (.Name "range" a) [z] [] b
 | false=>z
noncomputable def srcOk (rng:Bool) (sc:Sc):Bool:=match rng with
 | true=>sc.glob "range"
 | false=>true
theorem src_ok {rng:Bool} {src:CE} {a b:Pos} {K:List PV → Option Int → RR} {Q:Value → Shared → Prop} (he:EvOk C src) (h:Hy C F) (O:Ok C F H V p s) (ng:srcOk rng (scOf C F)=true) (n:(toE src (scOf C F) ps).ok=true) (er:Er C F r E)
  (e:kE src F.Φ V.sv p (fun v p=>srcK rng v fun xs=>K xs p)=some r)
  (k:∀ xs I fp P St h' tk q s',Ok C F H V q s' → Items C.prog C.w V.ω s'.heap xs I fp P St h' → xs.length ≤ strLine → K xs q=some r → Q (.ref I) { s' with heap:=h',toks:=tk }) :
  wpAny (model C.prog C.w) F.A (eval (srcX rng (toE src (scOf C F) ps).x a b) F.env) (fun xv s1=>wpAny (model C.prog C.w) F.A (pyIter xv) Q E s1) E s:=by
 cases rng with
 | false =>
  refine he F H V p s ps _ r _ E h O n er e fun v z q s' O' r1 e'=>?_
  obtain ⟨xs,hx,e2⟩:=opK_some e'
  obtain ⟨hz,e3⟩:=gK_some e2
  exact iter_of r1 hx fun I fp P St h' tk hI=>k xs I fp P St h' tk q s' O' hI hz e3
 | true =>
  refine wpAny_Call_NameR (load_bi h O (by decide) ng (v:=.type "range") (by decide +kernel) (by decide) (by decide) ?_)
  rw [star_1]
  refine PyProof.Rows.callWith_type rfl (Calls.evalArgs_plain (Calls.spliced_cons (he F H V p s ps _ r _ E h O n er e fun v z q s' O' r1 e'=>Calls.spliced_nil ?_)))
  obtain ⟨j,hj,e2⟩:=opK_some e'
  obtain ⟨⟨h1,h2⟩,e3⟩:=gK_some e2
  obtain rfl:=asInt_some hj
  obtain ⟨t,rfl⟩:=r1
  refine range_iter h1 h2 fun I fp P St h' tk hI=>k _ I fp P St h' tk q s' O' hI ?_ e3
  unfold rangePV
  rw [List.length_map,List.length_range]
  omega
noncomputable def compFr (F:Frm) (V:Vs) (b:Shared) (sc:Scope) (D:Addr):Frm :=
 {F with fs:=[],pa:=none,env:=compEnv sc D F.env,names:=[cvar sc],Φ:=noFn,b:=b,out:=fun a=>V.ω a ≠ 0 }
noncomputable def dull (ω:Addr → Nat) (a:Addr):Nat:=if ω a=0 then 0 else 1
theorem dull_0 {ω:Addr → Nat} {a:Addr}:dull ω a ≠ 0 ↔ ω a ≠ 0:=by
 unfold dull
 by_cases q:ω a=0
 ·rw [if_pos q]; exact ⟨fun n=>absurd rfl n,fun n=>absurd q n⟩
 ·rw [if_neg q]; exact ⟨fun _=>q,fun _=>nofun⟩
theorem dull_1 {ω:Addr → Nat} {a:Addr} (h:ω a ≠ 0):dull ω a=1:=if_neg h
theorem dull_le {ω:Addr → Nat} {a:Addr}:dull ω a ≤ 1:=by
 unfold dull
 by_cases q:ω a=0
 ·rw [if_pos q]; exact Nat.zero_le _
 ·rw [if_neg q]; exact Nat.le_refl _
theorem dull_frz {ω:Addr → Nat} {h h':Heap} (k:Kept h h'):Frz ω (dull ω) h h':=fun a o z e=>⟨if_pos z,k a o e⟩
theorem comp_hy {b:Shared} {sc:Scope} {D:Addr} (h:Hy C F):Hy C (compFr F V b sc D):=⟨h.ok,h.room,fun _ _ _ _ e=>nomatch e⟩
theorem comp_ok {sc:Scope} {D:Addr} {m3:Str → Option Value} {v:Value} {z:PV} {s3:Shared} (O:Ok C F H V p s) (ho:oneLoc sc (cvar sc)) (hn:s3.heap.Ns D m3) (hv:m3 (cvar sc)=some v) (rv:Rep V.ω s.heap z v) (k:Kept s.heap s3.heap) :
  Ok C (compFr F V s3 sc D) ⟨fun _ _=>False,fun _ _=>False,fun _=>False⟩ ⟨m3,[.val z],dull V.ω⟩ none s3 where
 fix :=
  {frames:=O.fix.frames,handled:=O.fix.handled,guards:=O.fix.guards,seer:=O.fix.seer,kind:=ho.2.2.2.1,glob:=O.fix.glob,bi:=O.fix.bi
   loc:=fun x hx=>by rw [List.mem_singleton.mp hx]; exact ⟨ho.2.2.2.2.2,ho.1⟩
   fso:=fun a ha q=>nomatch (O.out a (O.fix.fso a ha)).symm.trans q
   fss:=nofun,pn:=nofun,pl:=nofun }
 st:=⟨s3.heap,s3.toks,rfl⟩
 base:=fun b o e=>k b o (O.base b o e)
 ff:=funFrames_step O.ff fun b hb o e=>⟨o,k b o e,id⟩
 ns:=hn
 slots:=fun i n u hi hu=>by
  cases i with
  | zero=>cases hi; cases hu; exact ⟨v,hv,rv.keep (dull_frz k)⟩
  | succ i=>cases hi
 pen:=rfl
 ent:=.refl _ _ _
 lt:=fun a ha=>let ⟨o,e⟩:=O.lt a (dull_0.mp ha); ⟨o,k a o e⟩
 out:=fun a ha=>dull_1 ha
 new:=fun a ha=>absurd (Nat.le_trans ha dull_le) (by decide)
 nb:=fun a ha=>O.nb a (dull_0.mp ha)
 hold:=fun _ _ hq=>hq.elim
 gd:=fun _ _ hq=>hq.elim
 io:=fun _ hq=>hq.elim
theorem comp_keeps {F₀:Frm} {H₀:Hd} {V₀:Vs} {q:Option Int} {s3 s4:Shared} (O:Ok C F₀ H₀ V₀ q s4) (hb:F₀.b=s3) (hf:F₀.fs=[]) (hp:F₀.pa=none):Keeps s3 s4:=by
 obtain ⟨h,t,e⟩:=O.st
 have x:=O.ent
 rw [hb] at e x
 rw [hf,hp] at x
 exact ⟨h,t,e,fun b o eb=>by have:=x.keep b o eb nofun nofun; rw [e] at this; exact this⟩
open Classical in
noncomputable def compP (ω:Addr → Nat) (h:Heap) (cond:CO) (v:Value):Bool:=decide (∃ x,Rep ω h x v ∧ kC cond noFn [.val x]=some true)
noncomputable def compG (ω:Addr → Nat) (h:Heap) (elt:CE) (v y:Value):Prop:=∃ x z,Rep ω h x v ∧ eltF elt x=some z ∧ Rep ω h z y
open Classical in
theorem compP_eq {ω:Addr → Nat} {h:Heap} {cond:CO} {v:Value} {x:PV} {b:Bool} (rv:Rep ω h x v) (hb:kC cond noFn [.val x]=some b):compP ω h cond v=b:=by
 cases b with
 | true=>exact decide_eq_true ⟨x,rv,hb⟩
 | false =>
  refine decide_eq_false fun ⟨x',rv',hb'⟩=>?_
  rw [Rep.uniq x rv rv',hb'] at hb; cases hb
theorem items_back {prog:Program} {w:World} {ω:Addr → Nat} {h h':Heap} {xs:List PV} {I:Addr} {fp:List Addr} {P:Nat → Value → Prop} {St:Nat → Heap → Prop} (hI:Items prog w ω h xs I fp P St h') {h3:Heap}
  (k:∀ b o,b ∉ [I] → h'.get? b=some o → h3.get? b=some o):Kept h h3 :=
 fun b o e=>k b o (fun q=>ne_there hI.new e (List.mem_singleton.mp q)) (hI.keep b o e)
theorem comp_quiet {elt:CE} {cond:CO} {sc:Scope} {xs ys:List PV} {I:Addr} {fp:List Addr} {P:Nat → Value → Prop} {St:Nat → Heap → Prop} {h':Heap} {tk:Nat}
  (he:EvOk C elt) (hc:∀ c,cond=.yes c → TrOk C c) (h:Hy C F) (O:Ok C F H V p s) (ho:oneLoc sc (cvar sc)) (nc:(toC cond (compSc (scOf C F) sc) ps).ok=true) (ne:(toE elt (compSc (scOf C F) sc) ps').ok=true)
  (c:CompR (fun x=>kC cond noFn [.val x]) (eltF elt) xs ys) (hI:Items C.prog C.w V.ω s.heap xs I fp P St h') :
  QuietOn C.prog C.w F.A F.env sc (cvar sc) (toC cond (compSc (scOf C F) sc) ps).x (toE elt (compSc (scOf C F) sc) ps').x [I] P (compP V.ω s.heap cond) (compG V.ω s.heap elt) { s with heap:=h',toks:=tk }:=by
 refine ⟨fun D j v s3 m3 E' hP hN hm hk _=>?_,fun D j v s3 m3 E' hP hp hN hm hk _=>?_⟩
 ·obtain ⟨x,hx,rv⟩:=hI.val j v hP
  obtain ⟨b,hb,_⟩:=c.at j x hx
  rw [compP_eq rv hb]
  have O3:=comp_ok (s3:=s3) O ho hN hm rv (items_back hI hk)
  cases cond with
  | no=>cases hb; exact wpAny_pure ⟨rfl,s3.heap,s3.toks,rfl,fun _ _ e=>e⟩
  | yes c' =>
   obtain ⟨w,e1,e2⟩:=Option.bind_eq_some_iff.mp hb
   obtain rfl:=asBool_some e2
   exact forIn_one (hc c' rfl (compFr F V s3 sc D) _ _ none s3 ps endK (.ok (.bool b,none)) _ E' (comp_hy h) O3 nc (fun x e=>nomatch e) (quiet_some e1) (fun z q e=>by cases e; exact ⟨b,rfl⟩) fun b' q s4 O4 e4=>⟨by cases e4; rfl,comp_keeps O4 rfl rfl rfl⟩)
 ·obtain ⟨x,hx,rv⟩:=hI.val j v hP
  obtain ⟨b,hb,hy⟩:=c.at j x hx
  rw [compP_eq rv hb] at hp
  obtain ⟨z,hz⟩:=hy hp
  have O3:=comp_ok (s3:=s3) O ho hN hm rv (items_back hI hk)
  rcases elt_some hz with ⟨rfl,rfl⟩ | ⟨h1,h2⟩
  ·exact load_at (F:=compFr F V s3 sc D) O3 (.head _) hm ⟨⟨z,z,rv,hz,rv⟩,s3.heap,s3.toks,rfl,fun _ _ e=>e⟩
  ·refine he (compFr F V s3 sc D) _ _ none s3 ps' endK (.ok (z,none)) _ E' (comp_hy h) O3 ne (fun x e=>nomatch e) h1 fun y z' q s4 O4 r4 e4=>⟨⟨x,z,rv,hz,?_⟩,comp_keeps O4 rfl rfl rfl⟩
   cases e4
   exact scal_any h2 r4
theorem fold_no (rng:Bool) (e:CE) (sc:Sc) (ps:List An) (a b:Pos) (env:Env) (x:Value):foldedSetIterable (srcX rng (toE e sc ps).x a b) env x=pure x:=by
 cases rng with
 | true=>rfl
 | false =>
  cases e with
  | seq t l=>cases t <;> rfl
  | _=>rfl
theorem ok_comp {rng:Bool} {elt src:CE} {cond:CO} (he:EvOk C elt) (hs:EvOk C src) (hc:∀ c,cond=.yes c → TrOk C c):EvOk C (.comp rng elt src cond):=by
 intro F H V p s ps K r Q E h O n er e k
 have n1:=and_l n
 have n2:=and_r n
 have ho:oneLoc (an ps 0).sc (cvar (an ps 0).sc):=of_decide_eq_true (and_l n1)
 refine ListComp_rowsP ho.2.1 ho.2.2.1 ho.2.2.2.1 ho.2.2.2.2.1 ho.2.2.2.2.2 ?_ fun x=>fold_no rng src _ _ (an ps 3).p (an ps 2).p _ x
 refine src_ok (rng:=rng) (a:=(an ps 3).p) (b:=(an ps 2).p) (K:=fun xs p=>compK (fun x=>kC cond noFn [.val x]) (eltF elt) xs fun ys=>K (.lst ys) p) hs h O (by cases rng <;> exact and_r n1) (and_l n2) er (comp_eq.symm.trans e) fun xs I fp P St h' tk q s' O' hI hz e'=>?_
 obtain ⟨ys,c,e2⟩:=compK_some e'
 refine ⟨compP V.ω s'.heap cond,compG V.ω s'.heap elt,I,fp,[I],xs.length,P,St,rfl,hI.walks F.A O'.fix.handled,line_le hz,hI.st,hI.low,comp_quiet he hc h O' ho (and_l (and_r n2)) (and_r (and_r n2)) c hI,?_⟩
 intro D h3 tk3 zs vs hD hL hPl hlen hP hG hk
 have kk:=items_back hI hk
 have hD0:s'.heap.get? D=none:=by
  cases hg:s'.heap.get? D with
  | none=>rfl
  | some o=>rw [hI.keep D o hg] at hD; cases hD
 have R:Reps V.ω s'.heap ys zs.toList:=c.reps _ _ (fun v x b rv hb=>compP_eq rv hb) (fun v y x z hf rx hz=>by
  obtain ⟨x',z',rx',hz',ry⟩:=hf
  rw [Rep.uniq x rx rx'] at hz
  rw [hz'] at hz; cases hz
  exact ry) (reps_of_get hlen fun j v hv=>hI.val j v (hP j v hv)) hG
 exact outK O' e2 k _ h3 tk3 kk ⟨D,zs.toList,rfl,O'.lt.fresh hD0,hL,R.keep (frz_of kk)⟩
end
end
noncomputable section
section
variable {C:Cx}
noncomputable abbrev EOk (C:Cx) (e:CE):Prop:=EvOk C e ∧ TrOk C e
noncomputable abbrev OOk (C:Cx) (o:CO):Prop:=PtOk C o ∧ ∀ c,o=.yes c → TrOk C c
noncomputable abbrev LOk (C:Cx) (l:CEs):Prop:=SpOk C l ∧ ∀ all,BlOk C all l
theorem eboth {e:CE} (he:EvOk C e) (hx:∀ sc ps env whole,isTrue (toE e sc ps).x env whole=(do let v ← whole; standAt (toE e sc ps).x.pos; holding [v] (truthy v))):EOk C e:=⟨he,tr_ev he hx⟩
theorem bl_pen {all:Bool} {i:Nat} {l:CEs}:BlOk C all (.pen i l):=fun _ _ _ _ _ _ _ _ _ _ _ _ _ _ e=>nomatch e
theorem bl_dct {all:Bool} {i:Nat} {l:CEs}:BlOk C all (.dct i l):=fun _ _ _ _ _ _ _ _ _ _ _ _ _ _ e=>nomatch e
theorem allOk (C:Cx):(∀ e,EOk C e) ∧ (∀ o,OOk C o) ∧ ∀ l,LOk C l:=by
 have c1:∀ v,EOk C (.cst v):=fun v=>eboth (ok_cst v) fun _ _ _ _=>rfl
 have c2:∀ i,EOk C (.loc i):=fun i=>eboth (ok_loc i) fun _ _ _ _=>rfl
 have c3:∀ i k d,EOk C k → EOk C d → EOk C (.dget i k d):=fun i k d hk hd=>eboth (ok_dget hk.1 hd.1) fun _ _ _ _=>rfl
 have c4:∀ i,EOk C (.penGet i):=fun i=>eboth ok_penGet fun _ _ _ _=>rfl
 have c5:∀ o a b,EOk C a → EOk C b → EOk C (.bin o a b):=fun o a b ha hb=>eboth (ok_bin ha.1 hb.1) fun _ _ _ _=>rfl
 have c6:∀ a,EOk C a → EOk C (.neg a):=fun a ha=>eboth (ok_neg ha.1) fun _ _ _ _=>rfl
 have c7:∀ a,EOk C a → EOk C (.not a):=fun a ha=>⟨ok_not ha.1,tr_not ha.2⟩
 have c8:∀ all l,LOk C l → EOk C (.bool all l):=fun all l hl=>⟨ok_bool (hl.2 all),tr_bool (hl.2 all)⟩
 have c9:∀ o a b,EOk C a → EOk C b → EOk C (.cmp1 o a b):=fun o a b ha hb=>⟨ok_cmp1 ha.1 hb.1,tr_cmp1 ha.1 hb.1⟩
 have c10:∀ o o' a b c,EOk C a → EOk C b → EOk C c → EOk C (.cmp2 o o' a b c):=fun o o' a b c ha hb hc=>⟨ok_cmp2 ha.1 hb.1 hc.1,tr_cmp2 ha.1 hb.1 hc.1⟩
 have c11:∀ c a b,EOk C c → EOk C a → EOk C b → EOk C (.ite c a b):=fun c a b hc ha hb=>⟨ok_ite hc.2 ha.1 hb.1,tr_ite hc.2 ha.2 hb.2⟩
 have c12:∀ f l,LOk C l → EOk C (.call f l):=fun f l hl=>eboth (ok_call hl.1) fun _ _ _ _=>rfl
 have c13:∀ f l,LOk C l → EOk C (.callP f l):=fun f l hl=>eboth (ok_callP hl.1) fun _ _ _ _=>rfl
 have c14:∀ f l,LOk C l → EOk C (.bi f l):=fun f l hl=>eboth (ok_bi hl.1) fun _ _ _ _=>rfl
 have c15:∀ m a b,EOk C a → EOk C b → EOk C (.meth m a b):=fun m a b ha hb=>eboth (ok_meth ha.1 hb.1) fun _ _ _ _=>rfl
 have c16:∀ a b,EOk C a → EOk C b → EOk C (.idx a b):=fun a b ha hb=>eboth (ok_idx ha.1 hb.1) fun _ _ _ _=>rfl
 have c17:∀ a l h,EOk C a → OOk C l → OOk C h → EOk C (.slice a l h):=fun a l h _ hl hh=>eboth (ok_slice hl.1 hh.1) fun _ _ _ _=>rfl
 have c18:∀ t l,LOk C l → EOk C (.seq t l):=fun t l hl=>eboth (ok_seq hl.1) (by cases t <;> exact fun _ _ _ _=>rfl)
 have c19:∀ r e s c,EOk C e → EOk C s → OOk C c → EOk C (.comp r e s c):=fun r e s c he hs hc=>eboth (ok_comp he.1 hs.1 hc.2) fun _ _ _ _=>rfl
 have c20:∀ l k d,EOk C k → EOk C (.litGet l k d):=fun l k d hk=>eboth (ok_litGet hk.1) fun _ _ _ _=>rfl
 have o1:OOk C .no:=⟨pt_no,nofun⟩
 have o2:∀ e,EOk C e → OOk C (.yes e):=fun e he=>⟨pt_yes he.1,fun c q=>by cases q; exact he.2⟩
 have l1:LOk C .nil:=⟨sp_nil,bl_nil⟩
 have l2:∀ e r,EOk C e → LOk C r → LOk C (.cons e r):=fun e r he hr=>⟨sp_cons he.1 hr.1,fun all=>bl_cons he.1 he.2 (hr.2 all)⟩
 have l3:∀ i r,LOk C r → LOk C (.pen i r):=fun i r hr=>⟨sp_pen hr.1,fun _=>bl_pen⟩
 have l4:∀ i r,LOk C r → LOk C (.dct i r):=fun i r hr=>⟨sp_dct hr.1,fun _=>bl_dct⟩
 exact ⟨fun e=>CE.rec (motive_1:=EOk C) (motive_2:=OOk C) (motive_3:=LOk C) c1 c2 c3 c4 c5 c6 c7 c8 c9 c10 c11 c12 c13 c14 c15 c16 c17 c18 c19 c20 o1 o2 l1 l2 l3 l4 e,
  fun e=>CO.rec (motive_1:=EOk C) (motive_2:=OOk C) (motive_3:=LOk C) c1 c2 c3 c4 c5 c6 c7 c8 c9 c10 c11 c12 c13 c14 c15 c16 c17 c18 c19 c20 o1 o2 l1 l2 l3 l4 e,
  fun e=>CEs.rec (motive_1:=EOk C) (motive_2:=OOk C) (motive_3:=LOk C) c1 c2 c3 c4 c5 c6 c7 c8 c9 c10 c11 c12 c13 c14 c15 c16 c17 c18 c19 c20 o1 o2 l1 l2 l3 l4 e⟩
theorem evOk (e:CE):EvOk C e:=((allOk C).1 e).1
theorem trOk (e:CE):TrOk C e:=((allOk C).1 e).2
theorem spOk (l:CEs):SpOk C l:=((allOk C).2.2 l).1
end
structure Lk (F:Frm):Prop where
 fs:F.fs=fsOf F.envs
 lout:F.out F.env.locals
 lnew:F.b.heap.get? F.env.locals=none
 nodup:F.names.Nodup
noncomputable def InstAt (C:Cx) (d f:Nat) (args:List SV) (x:Exn):Prop :=
 ∀ (F:Frm) (H:Hd) (V:Vs) (q:Option Int) (s:Shared) (vs:List Value) (a:Addr) (R:Result → Shared → Prop),Ok C F H V q s → F.fs=fsOf F.envs → Room F.A d → C.fns[f]?.map (·.2)=some a →
  ArgsRep V.ω F.pa s.heap args vs → (∀ e s',Mde C F.envs F.pa F.b x e s' → R (.ok (.ret (.ref e))) s') → codeAny (model C.prog C.w) F.A (.call (.ref a) ⟨vs,[]⟩) R s
structure HyS (C:Cx) (F:Frm) (X:XF):Prop where
 hy:Hy C F
 lk:Lk F
 inst:∀ f vs x,X f vs=some x → InstAt C F.d f vs x
 rais:∀ env x e s (E:Value → Shared → Prop) (Q:Flow → Shared → Prop),C.h₀.StaysIn s.heap → Mde C F.envs F.pa F.b x e s → E (.ref e) s → wpAny (model C.prog C.w) F.A (raiseStmt env (some (pure (.ref e))) none) Q E s
structure WrS (C:Cx) (F:Frm) (H:Hd) (V:Vs) (s:Shared) (T:Addr → Prop) (i:Nat) (ω':Addr → Nat) (h':Heap):Prop where
 k:∀ b o,¬ T b → s.heap.get? b=some o → h'.get? b=some o
 ha:∀ b o,T b → s.heap.get? b=some o → V.ω b ≠ 0
 wn:∀ b,T b → F.b.heap.get? b=none
 wp:∀ b,T b → F.pa ≠ some b
 wf:∀ b,T b → b ∈ fsOf F.envs → ∃ o,h'.get? b=some o ∧ ∀ vs,o.data ≠ .fields vs
 wl:∀ b,T b → ω' b ≠ 0 → ∃ o,h'.get? b=some o
 marks:∀ b,ω' b=V.ω b ∨ (s.heap.get? b=none ∧ ω' b ≠ 0 ∧ ∃ o,h'.get? b=some o) ∨ (ω' b=0 ∧ (V.ω b=i + 2 ∨ (T b ∧ ¬ F.out b ∧ ¬ H.io b)))
 aj:∀ b,T b → ∀ j,j ≠ i → V.ω b ≠ j + 2
 ag:∀ b o,H.gd b o → ¬ T b
section
variable {C:Cx} {F:Frm} {H:Hd} {V:Vs} {p:Option Int} {s:Shared} {T:Addr → Prop} {i:Nat} {ω':Addr → Nat} {h':Heap}
theorem WrS.frz (W:WrS C F H V s T i ω' h'):Frz V.ω ω' s.heap h':=fun b o z e=>by
 refine ⟨?_,W.k b o (fun q=>W.ha b o q e z) e⟩
 rcases W.marks b with h | ⟨h,_⟩ | ⟨h,_⟩
 ·exact h.trans z
 ·rw [e] at h; cases h
 ·exact h
theorem WrS.same (W:WrS C F H V s T i ω' h') {b:Addr} {o:Obj} (e:s.heap.get? b=some o) (n:V.ω b ≠ i + 2) (g:¬ T b ∨ F.out b ∨ H.io b):ω' b=V.ω b:=by
 rcases W.marks b with h | ⟨h,_⟩ | ⟨_,h | ⟨h1,h2,h3⟩⟩
 ·exact h
 ·rw [e] at h; cases h
 ·exact absurd h n
 ·exact (Or.elim g (fun z=>absurd h1 z) fun z=>Or.elim z (fun z=>absurd z h2) fun z=>absurd z h3)
theorem WrS.ok (W:WrS C F H V s T i ω' h') (O:Ok C F H V p s) {m':Str → Option Value} {x:SV} {t':Nat} (ns:h'.Ns F.env.locals m') (hm:∀ j n,j ≠ i → F.names[j]?=some n → m' n=V.m n)
  (hx:∀ n,F.names[i]?=some n → i < V.sv.length → SlotOk ω' i F.pa h' (m' n) x):Ok C F H ⟨m',V.sv.set i x,ω'⟩ p { s with heap:=h',toks:=t' } where
 fix:=O.fix
 st:=O.st.trans ⟨h',t',rfl⟩
 base:=fun b o e=>(W.frz b o (O.zero e) (O.base b o e)).2
 ff:=funFrames_step O.ff fun b hb o e=>by
  by_cases q:T b
  ·obtain ⟨o',e',d⟩:=W.wf b q hb
   exact ⟨o',e',fun _=>d⟩
  ·exact ⟨o,W.k b o q e,id⟩
 ns:=ns
 slots:=fun j n v e1 e2=>by
  by_cases q:j=i
  ·subst q
   have hl:j < V.sv.length:=by
    have:=(List.getElem?_eq_some_iff.mp e2).1
    rw [List.length_set] at this; exact this
   rw [List.getElem?_set_self hl] at e2
   cases e2
   exact hx n e1 hl
  ·rw [List.getElem?_set_ne (Ne.symm q)] at e2
   show SlotOk _ _ _ _ (m' n) _
   rw [hm j n q e1]
   refine (O.slots j n v e1 e2).keep W.frz fun b o z e=>have nb:¬ T b:=fun q'=>W.aj b q' j q z; ⟨(W.same e (fun q'=>q (Nat.add_right_cancel (z.symm.trans q'))) (.inl nb)).trans z,W.k b o nb e⟩
 pen:=O.pen.keep fun b o e e'=>W.k b o (fun q=>W.wp b q e) e'
 ent:=by
  have nb:∀ b o,F.b.heap.get? b=some o → ¬ T b:=fun b o e q=>nomatch (W.wn b q).symm.trans e
  exact ⟨fun b o e n np=>W.k b o (nb b o e) (O.ent.keep b o e n np),fun b o e hb=>let ⟨sl,e'⟩:=O.ent.frm b o e hb; ⟨sl,W.k b _ (nb b o e) e'⟩⟩
 lt:=fun b hb=>by
  have key:V.ω b ≠ 0 → ∃ o,h'.get? b=some o:=fun z=>by
   obtain ⟨o,e⟩:=O.lt b z
   by_cases q:T b
   ·exact W.wl b q hb
   ·exact ⟨o,W.k b o q e⟩
  rcases W.marks b with h | ⟨_,_,h⟩ | ⟨h,_⟩
  ·exact key (h ▸ hb)
  ·exact h
  ·exact absurd h hb
 out:=fun b hb=>by
  have h1:=O.out b hb
  obtain ⟨o,e⟩:=O.lt b (by rw [h1]; nofun)
  exact (W.same e (by rw [h1]; omega) (.inr (.inl hb))).trans h1
 new:=fun b hb=>by
  rcases W.marks b with h | ⟨h,_⟩ | ⟨h,_⟩
  ·exact O.new b (h ▸ hb)
  ·exact O.ent.gone O.pen.there h
  ·have hb:2 ≤ ω' b:=hb
   rw [h] at hb; exact absurd hb (by decide)
 nb:=fun b hb=>by
  rcases W.marks b with h | ⟨h,_⟩ | ⟨h,_⟩
  ·exact O.nb b (h ▸ hb)
  ·cases e:C.h₀.get? b with
   | none=>rfl
   | some o=>rw [O.base b o e] at h; cases h
  ·exact absurd h hb
 hold:=fun y w hq=>(O.hold y w hq).keep W.frz
 gd:=fun b o hq=>by
  obtain ⟨g1,g2,g3,g4,g5⟩:=O.gd b o hq
  exact ⟨by show ω' b ≤ 1; rw [W.same g5 (by omega) (.inl (W.ag b o hq))]; exact g1,g2,g3,g4,W.k b o (W.ag b o hq) g5⟩
 io:=fun b hb=>by
  have h1:=O.io b hb
  obtain ⟨o,e⟩:=O.lt b (by rw [h1]; nofun)
  exact (W.same e (by rw [h1]; omega) (.inr (.inr hb))).trans h1
theorem WrS.plain (W:WrS C F H V s T V.sv.length ω' h') (O:Ok C F H V p s) {t':Nat} (hL:¬ T F.env.locals):Ok C F H ⟨V.m,V.sv,ω'⟩ p { s with heap:=h',toks:=t' }:=by
 have:=W.ok (x:=.unb) (t':=t') O (ns_keep O.ns fun o e=>W.k _ o hL e) (fun _ _ _ _=>rfl) fun n _ hl=>absurd hl (Nat.lt_irrefl _)
 rw [List.set_eq_of_length_le (Nat.le_refl _)] at this
 exact this
structure Wr (C:Cx) (F:Frm) (H:Hd) (V:Vs) (s:Shared) (a:Addr) (i:Nat) (ω':Addr → Nat) (h':Heap):Prop where
 k:∀ b o,b ≠ a → s.heap.get? b=some o → h'.get? b=some o
 ha:∀ o,s.heap.get? a=some o → V.ω a ≠ 0
 wn:F.b.heap.get? a=none
 wp:F.pa ≠ some a
 wf:a ∈ fsOf F.envs → ∃ o,h'.get? a=some o ∧ ∀ vs,o.data ≠ .fields vs
 wl:ω' a ≠ 0 → ∃ o,h'.get? a=some o
 marks:∀ b,ω' b=V.ω b ∨ (s.heap.get? b=none ∧ ω' b ≠ 0 ∧ ∃ o,h'.get? b=some o) ∨ (ω' b=0 ∧ (V.ω b=i + 2 ∨ (b=a ∧ ¬ F.out b ∧ ¬ H.io b)))
 aj:∀ j,j ≠ i → V.ω a ≠ j + 2
 ag:∀ b o,H.gd b o → b ≠ a
variable {a:Addr}
theorem Wr.many (W:Wr C F H V s a i ω' h'):WrS C F H V s (·=a) i ω' h' :=
 ⟨W.k,fun b o e=>by rw [e]; exact W.ha o,fun b e=>by rw [e]; exact W.wn,fun b e=>by rw [e]; exact W.wp,fun b e=>by rw [e]; exact W.wf,fun b e=>by rw [e]; exact W.wl,W.marks,fun b e=>by rw [e]; exact W.aj,W.ag⟩
theorem Wr.frz (W:Wr C F H V s a i ω' h'):Frz V.ω ω' s.heap h':=W.many.frz
theorem Wr.ok (W:Wr C F H V s a i ω' h') (O:Ok C F H V p s) {m':Str → Option Value} {x:SV} {t':Nat} (ns:h'.Ns F.env.locals m') (hm:∀ j n,j ≠ i → F.names[j]?=some n → m' n=V.m n)
  (hx:∀ n,F.names[i]?=some n → i < V.sv.length → SlotOk ω' i F.pa h' (m' n) x):Ok C F H ⟨m',V.sv.set i x,ω'⟩ p { s with heap:=h',toks:=t' }:=W.many.ok O ns hm hx
theorem Wr.plain (W:Wr C F H V s a V.sv.length ω' h') (O:Ok C F H V p s) {t':Nat} (hL:a ≠ F.env.locals):Ok C F H ⟨V.m,V.sv,ω'⟩ p { s with heap:=h',toks:=t' }:=W.many.plain O (Ne.symm hL)
end
end
end Mp
end
section
open PySem PySem.W PyProof.Rows PySem.Calls PyProof
set_option Elab.async false
set_option maxRecDepth 100000
set_option maxHeartbeats 2000000
set_option genInjectivity false
set_option linter.unusedVariables false
namespace Mp
noncomputable section
theorem put_some {r:Except Exn (PV × Option Int)} {x:SV} {env:List SV}:∀ {i:Nat} {K:List SV → RR},putK env i x K=some r → i < env.length ∧ K (env.set i x)=some r:=by
 induction env with
 | nil=>intro i K e; cases e
 | cons y env ih =>
  intro i K e
  cases i with
  | zero=>obtain ⟨_,_,e⟩:=opK_some e; exact ⟨Nat.succ_pos _,e⟩
  | succ i=>obtain ⟨h1,h2⟩:=ih e; exact ⟨Nat.succ_lt_succ h1,h2⟩
theorem frz_some {r:Except Exn (PV × Option Int)} {env:List SV}:∀ {i:Nat} {K:List SV → RR},frzK env i K=some r → ∃ x y,env[i]?=some x ∧ froz x=some y ∧ K (env.set i y)=some r:=by
 induction env with
 | nil=>intro i K e; cases e
 | cons x env ih =>
  intro i K e
  cases i with
  | zero=>obtain ⟨y,hy,e⟩:=opK_some e; exact ⟨x,y,rfl,hy,e⟩
  | succ i=>exact ih e
noncomputable def upd (ω:Addr → Nat) (D:Addr) (n:Nat):Addr → Nat:=fun b=>if b=D then n else ω b
theorem upd_at {ω:Addr → Nat} {D:Addr} {n:Nat}:upd ω D n D=n:=if_pos rfl
theorem upd_ne {ω:Addr → Nat} {D b:Addr} {n:Nat} (h:b ≠ D):upd ω D n b=ω b:=if_neg h
section
variable {C:Cx} {F:Frm} {H:Hd} {V:Vs} {p q:Option Int} {s s':Shared} {ps:List An} {r:Except Exn (PV × Option Int)} {E:Value → Shared → Prop} {X:XF} {i:Nat} {n:Str}
theorem nodup_ne (h:HyS C F X) {j:Nat} {m:Str} (hn:F.names[i]?=some n) (hj:F.names[j]?=some m) (ne:j ≠ i):m ≠ n:=fun e=>by
 subst e
 obtain ⟨a,ha⟩:=List.getElem?_eq_some_iff.mp hn
 obtain ⟨b,hb⟩:=List.getElem?_eq_some_iff.mp hj
 exact ne ((List.getElem_inj h.lk.nodup).mp (hb.trans ha.symm))
theorem Ok.news (O:Ok C F H V p s) {D:Addr} (hD:s.heap.get? D=none):V.ω D=0 ∧ F.b.heap.get? D=none ∧ F.pa ≠ some D ∧ D ∉ fsOf F.envs ∧ D ≠ F.env.locals:=by
 have z:=O.lt.fresh hD
 refine ⟨z,O.ent.gone O.pen.there hD,fun e=>?_,fun e=>?_,fun e=>?_⟩
 ·obtain ⟨o,e⟩:=O.pen.there D e; rw [hD] at e; cases e
 ·rw [O.out D (O.fix.fso D e)] at z; cases z
 ·obtain ⟨o,e'⟩:=ns_there O.ns
  rw [← e,hD] at e'; cases e'
theorem mark_or {ω:Addr → Nat} {h h':Heap} {out io:Addr → Prop} {D a:Addr} {k i:Nat} (hD:h.get? D=none) (hk:k ≠ 0) (hD':∃ o,h'.get? D=some o) (b:Addr):upd ω D k b=ω b ∨ (h.get? b=none ∧ upd ω D k b ≠ 0 ∧ ∃ o,h'.get? b=some o) ∨ (upd ω D k b=0 ∧ (ω b=i + 2 ∨ (b=a ∧ ¬ out b ∧ ¬ io b))):=by
 by_cases q:b=D
 ·rw [q]; exact .inr (.inl ⟨hD,by rw [upd_at]; exact hk,hD'⟩)
 ·exact .inl (upd_ne q)
theorem Ok.mark (O:Ok C F H V p s) {D:Addr} {k:Nat} {h':Heap} {t':Nat} (hD:s.heap.get? D=none) (hk:k ≠ 0) (hD':∃ o,h'.get? D=some o) (kp:Kept s.heap h'):Ok C F H ⟨V.m,V.sv,upd V.ω D k⟩ p { s with heap:=h',toks:=t' }:=by
 obtain ⟨n0,n1,n2,n3,n4⟩:=O.news hD
 have W:Wr C F H V s D V.sv.length (upd V.ω D k) h' :=
  ⟨fun b o _ e=>kp b o e,fun o e=>(by rw [hD] at e; cases e),n1,n2,fun e=>absurd e n3,fun _=>hD',mark_or hD hk hD',fun j _ e=>(by rw [n0] at e; omega),fun b o hg=>ne_there hD (O.gd b o hg).2.2.2.2⟩
 exact W.plain O n4
theorem Wr.loc (h:HyS C F X) (O:Ok C F H V p s) {ω':Addr → Nat} {h':Heap} {m':Str → Option Value} (ns:h'.Ns F.env.locals m') (k:∀ b o,b ≠ F.env.locals → s.heap.get? b=some o → h'.get? b=some o)
  (marks:∀ b,ω' b=V.ω b ∨ (s.heap.get? b=none ∧ ω' b ≠ 0 ∧ ∃ o,h'.get? b=some o) ∨ (ω' b=0 ∧ (V.ω b=i + 2 ∨ (b=F.env.locals ∧ ¬ F.out b ∧ ¬ H.io b)))):Wr C F H V s F.env.locals i ω' h':=by
 have h1:=O.out _ h.lk.lout
 exact ⟨k,fun o e q=>(by rw [h1] at q; cases q),h.lk.lnew,O.fix.pl,fun _=>let ⟨o,_,_,ho,hd,_⟩:=ns; ⟨o,ho,fun vs q=>(by rw [hd] at q; cases q)⟩,fun _=>ns_there ns,marks,fun j _ e=>(by rw [h1] at e; omega),fun b o hg=>(O.gd b o hg).2.2.2.1⟩
theorem store_ok (h:HyS C F X) (O:Ok C F H V p s) {u:Value} {x:SV} {K:List SV → RR} {Q:Unit → Shared → Prop} (hn:F.names[i]?=some n) (e:putK V.sv i x K=some r) (hx:SlotOk V.ω i F.pa s.heap (some u) x)
  (k:∀ V' s',Ok C F H V' p s' → K V'.sv=some r → Frz V.ω V'.ω s.heap s'.heap → Q () s'):wpAny (model C.prog C.w) F.A (storeName F.env n u) Q E s:=by
 obtain ⟨hl,e⟩:=put_some e
 refine wpAny_storeName_local (O.fix.loc n (List.mem_of_getElem? hn)).1 O.ns (fun h' ns sb=>?_) (by rw [O.fix.kind]; rfl)
 have W:Wr C F H V s F.env.locals i V.ω h':=Wr.loc h O ns (fun b o n e=>(sb.2 b n).trans e) fun _=>.inl rfl
 refine k ⟨_,V.sv.set i x,V.ω⟩ _ (W.ok (x:=x) (t':=s.toks + 1) O ns (fun j m ne hj=>if_neg (nodup_ne h hn hj ne)) fun m hm _=>?_) e W.frz
 rw [hn] at hm; cases hm
 rw [if_pos rfl]
 refine hx.keep W.frz fun b o z e=>⟨z,W.k b o (fun q=>?_) e⟩
 rw [q,O.out _ h.lk.lout] at z; omega
theorem own_mut (h:HyS C F X) (O:Ok C F H V p s) {a:Addr} {x:SV} {ω':Addr → Nat} {h':Heap} {t':Nat} (hn:F.names[i]?=some n) (ha:V.ω a=i + 2) (sb:Heap.SameBut a s.heap h') (wl:∃ o,h'.get? a=some o)
  (marks:∀ b,ω' b=V.ω b ∨ (ω' b=0 ∧ V.ω b=i + 2)) (hx:Frz V.ω ω' s.heap h' → SlotOk ω' i F.pa h' (V.m n) x):Ok C F H ⟨V.m,V.sv.set i x,ω'⟩ p { s with heap:=h',toks:=t' }:=by
 have m:=O.mine (a:=a) (by rw [ha]; omega)
 have hb:F.b.heap.get? a=none:=O.new a (by rw [ha]; exact Nat.le_add_left _ _)
 have out:∀ b,F.out b → b ≠ a:=fun b hb e=>by have:=O.out b hb; rw [e,ha] at this; omega
 have W:Wr C F H V s a i ω' h':=⟨fun b o n e=>(sb.2 b n).trans e,fun o _=>(by rw [ha]; omega),hb,m.2,fun q=>absurd rfl (out a (O.fix.fso a q)),fun _=>wl,fun b=>(marks b).imp id fun z=>.inr ⟨z.1,.inl z.2⟩,fun j ne e=>ne (by rw [ha] at e; omega),fun b o hg e=>by
  have:=(O.gd b o hg).1; rw [e,ha] at this; omega⟩
 exact W.ok O (Ns.up O.ns fun o e=>⟨o.slots,(sb.2 _ (out _ h.lk.lout)).trans e⟩) (fun _ _ _ _=>rfl) fun m hm _=>by rw [hn] at hm; cases hm; exact hx W.frz
end
end
noncomputable section
structure Nx (C:Cx) (F:Frm) (H:Hd) (r:Except Exn (PV × Option Int)) (n kb kc:KS) (Q:Flow → Shared → Prop):Prop where
 nx:∀ V q s,Ok C F H V q s → n V.sv q=some r → Q .next s
 bk:∀ V q s,Ok C F H V q s → kb V.sv q=some r → Q .brk s
 ct:∀ V q s,Ok C F H V q s → kc V.sv q=some r → Q .cont s
 rt:∀ z v V q s,Ok C F H V q s → Rep V.ω s.heap z v → r=.ok (z,q) → Q (.ret v) s
noncomputable def StOk (C:Cx) (F:Frm) (X:XF) (N:Nat) (c:CS):Prop:=∀ (H:Hd) (V:Vs) (p:Option Int) (s:Shared) (ps:List An) (n kb kc:KS) (r:Except Exn (PV × Option Int)) (Q:Flow → Shared → Prop) (E:Value → Shared → Prop),
 Ok C F H V p s → (toS c (scOf C F) ps).ok=true → ErS C F r E → PassesOwn (model C.prog C.w) F.A F.env E → kS F.Φ X N c V.sv p n kb kc=some r → Nx C F H r n kb kc Q → wpAny (model C.prog C.w) F.A (exec (toS c (scOf C F) ps).x F.env) Q E s
noncomputable def SuOk (C:Cx) (F:Frm) (X:XF) (N:Nat) (c:CSs):Prop:=∀ (H:Hd) (V:Vs) (p:Option Int) (s:Shared) (ps:List An) (n kb kc:KS) (r:Except Exn (PV × Option Int)) (Q:Flow → Shared → Prop) (E:Value → Shared → Prop),
 Ok C F H V p s → (toSs c (scOf C F) ps).ok=true → ErS C F r E → PassesOwn (model C.prog C.w) F.A F.env E → kSs F.Φ X N c V.sv p n kb kc=some r → Nx C F H r n kb kc Q → wpAny (model C.prog C.w) F.A (execs (toSs c (scOf C F) ps).x F.env) Q E s
theorem swaps_no {e:CE} (h:notComp e=true) (sc:Sc) (ps:List An) (t:Option PExpr) (l:Nat) (env:Env):swapsWith (toE e sc ps).x t l env=pure false:=by
 cases e with
 | seq b l=>cases b <;> rfl
 | comp=>cases h
 | _=>rfl
theorem swapped_no {e:CE} (h:notLit e=true) (sc:Sc) (ps:List An) (ts:List PExpr) (k:Nat) (tp:Pos) (env:Env):swappedStores [.Tuple ts k tp] (toE e sc ps).x env=pure none:=by
 cases e with
 | seq b l=>cases h
 | _=>rfl
section
variable {C:Cx} {F:Frm} {H:Hd} {V:Vs} {p q:Option Int} {s s':Shared} {ps:List An} {r:Except Exn (PV × Option Int)} {E:Value → Shared → Prop} {X:XF} {N:Nat}
theorem st_assign (h:HyS C F X) {i:Nat} {e:CE}:StOk C F X N (.assign i e):=by
 intro H V p s ps n kb kc r Q E O ok er pe e k
 refine wpAny_Assign_Name (evOk _ F H V p s _ _ r _ E h.hy O (and_r ok) er.1 e fun v z q s' O' r1 e'=>?_) (swaps_no (and_r (and_l ok)) _ _ _ _ _)
 exact store_ok h O' (has_name (and_l (and_l ok))) e' ⟨v,rfl,r1⟩ fun V' s2 O2 e2 _=>k.nx V' q s2 O2 e2
theorem st_aug (h:HyS C F X) {i:Nat} {e:CE}:StOk C F X N (.aug i e):=by
 intro H V p s ps n kb kc r Q E O ok er pe e k
 have hn:=has_name (and_l ok)
 obtain ⟨x,hx,e⟩:=opK_some e
 obtain ⟨w,hw,e⟩:=opK_some e
 obtain rfl:=isV_some hw
 obtain ⟨u,hu,ru⟩:=O.slots i _ _ hn ((nth_get _ _).symm.trans hx)
 refine wpAny_AugAssign_Name (wpAny_loadName_local O.fix.kind (O.fix.loc _ (List.mem_of_getElem? hn)).1 O.ns hu ?_)
 refine evOk _ F _ V p s _ _ r _ E h.hy (O.push ru) (and_r ok) er.1 e fun v z q s' O' r1 e'=>?_
 obtain ⟨a,ha,e'⟩:=opK_some e'
 obtain ⟨b,hb,e'⟩:=opK_some e'
 have ra:=O'.top
 obtain rfl:=asInt_some ha
 obtain rfl:=asInt_some hb
 obtain ⟨t1,rfl⟩:=ra
 obtain ⟨t2,rfl⟩:=r1
 exact wpAny_iadd_int (store_ok h (O'.pop.made (t:=s'.toks + 1) fun _ _ e=>e) hn e' ⟨_,rfl,_,rfl⟩ fun V' s2 O2 e2 _=>k.nx V' q s2 O2 e2)
theorem st_retn (h:HyS C F X) {e:CE}:StOk C F X N (.retn e):=by
 intro H V p s ps n kb kc r Q E O ok er pe e k
 exact wpAny_Return_some (evOk _ F H V p s _ _ r _ E h.hy O ok er.1 e fun v z q s' O' r1 e'=>k.rt z v V q s' O' r1 (by cases e'; rfl))
theorem st_eff (h:HyS C F X) {e:CE}:StOk C F X N (.eff e):=by
 intro H V p s ps n kb kc r Q E O ok er pe e k
 refine wpAny_Expr (evOk _ F H V p s _ _ r _ E h.hy O (and_r ok) er.1 e fun v z q s' O' r1 e'=>?_) (by unfold interactive; rw [O.fix.kind]; rfl) (swaps_no (and_l ok) _ _ _ _ _)
 obtain ⟨u,hu,e2⟩:=opK_some e'
 obtain rfl:=asNone_some hu
 cases r1
 exact k.nx V q s' O' e2
theorem st_brk:StOk C F X N .brk:=fun H V p s ps n kb kc r Q E O ok er pe e k=>wpAny_Break (k.bk V p s O e)
theorem st_cont:StOk C F X N .cont:=fun H V p s ps n kb kc r Q E O ok er pe e k=>wpAny_Continue (k.ct V p s O e)
theorem store_new (h:HyS C F X) (O:Ok C F H V p s) {i:Nat} {n:Str} {D:Addr} {x:SV} {h':Heap} {t':Nat} {K:List SV → RR} {Q:Unit → Shared → Prop} (hn:F.names[i]?=some n) (e:putK V.sv i x K=some r) (hD:s.heap.get? D=none) (hD':∃ o,h'.get? D=some o) (kp:Kept s.heap h')
  (hx:SlotOk (upd V.ω D (i + 2)) i F.pa h' (some (.ref D)) x) (k:∀ V' s',Ok C F H V' p s' → K V'.sv=some r → Q () s'):wpAny (model C.prog C.w) F.A (storeName F.env n (.ref D)) Q E { s with heap:=h',toks:=t' } :=
 store_ok h (O.mark (k:=i + 2) (t':=t') hD nofun hD' kp) hn e hx fun V' s' O' e' _=>k V' s' O' e'
theorem upd_frz {ω:Addr → Nat} {h h':Heap} {D:Addr} {k:Nat} (hD:h.get? D=none) (kp:Kept h h'):Frz ω (upd ω D k) h h':=fun b o z e=>⟨(upd_ne (ne_there hD e)).trans z,kp b o e⟩
theorem st_ownDict (h:HyS C F X) {i:Nat}:StOk C F X N (.ownDict i):=by
 intro H V p s ps n kb kc r Q E O ok er pe e k
 have hD:(s.heap.push { cls:=.type "dict",data:=.dict #[] }).get? s.heap.objs.size=some { cls:=.type "dict",data:=.dict #[] }:=Heap.get?_push_size _ rfl
 refine wpAny_Assign_Name (wpAny_Dict_empty (store_new (t':=s.toks) h O (has_name ok) e (none_at _) ⟨_,hD⟩ (fun b o eb=>Heap.get?_push_of_some _ eb) ⟨_,rfl,upd_at,?_,[],fun prog w=>Heap.DictOf.new _,rfl,_,hD⟩ fun V' s2 O2 e2=>k.nx V' p s2 O2 e2)) rfl
 have:=modules_low (h.hy.ok.T.nolimit.keeps O.base)
 have ha:(s.heap.objs.size:Nat) ≠ sysModules:=Nat.ne_of_gt this
 simpa using ha
theorem new_ok {c:CE} (hn:isNew c=true) {K:List PV → Option Int → RR} {Q:Value → Shared → Prop} (h:Hy C F) (O:Ok C F H V p s) (n:(toE c (scOf C F) ps).ok=true) (er:Er C F r E) (e:kE c F.Φ V.sv p (fun v p=>opK (asLst v) fun l=>K l p)=some r)
  (k:∀ l q s',Ok C F H V q s' → K l q=some r → ∀ vs,Reps V.ω s'.heap l vs → OutL s' vs Q):wpAny (model C.prog C.w) F.A (eval (toE c (scOf C F) ps).x F.env) Q E s:=by
 cases c with
 | seq t l =>
  cases t with
  | true=>cases hn
  | false =>
   refine wpAny_List (sp_vals (K:=fun xs p=>gK (xs.length ≤ strLine) (opK (asLst (.lst xs)) fun l=>K l p)) (spOk l) h O n er e fun xs vs q s' O' r' e'=>?_)
   obtain ⟨hz,e2⟩:=gK_some e'
   exact ⟨by rw [r'.length]; exact line_le hz,k xs q s' O' e2 vs r' _ _ s'.toks (fun b o eb=>Heap.get?_push_of_some _ eb) (none_at _) ⟨0,Heap.get?_push_size _ rfl⟩⟩
 | bin op a b =>
  have ho:op=.add:=by cases op <;> first | rfl | cases hn
  subst ho
  refine wpAny_BinOp (ev2 (evOk a) (evOk b) h O n er e fun v1 z1 v2 z2 q s' O' r1 r2 e'=>?_)
  obtain ⟨x,ex,e2⟩:=opK_some e'
  obtain ⟨l,hl,e3⟩:=opK_some e2
  obtain rfl:=asLst_some hl
  cases z1 with
  | lst xs =>
   obtain ⟨ys,rfl,ex⟩:=qLst_some ex
   obtain ⟨hz,ez⟩:=gO_some ex
   cases ez
   obtain ⟨l1,vs,rfl,_,il,rl⟩:=r1
   obtain ⟨l2,ws,rfl,_,il',rl'⟩:=r2
   exact add_lsts (O'.tops h.ok) il il' (by rw [rl.length,rl'.length]; exact line_le hz) (k _ q s' O' e3 _ (rl'.append rl))
  | int=>obtain ⟨_,_,ex⟩:=qInt_some ex; cases ex
  | str=>obtain ⟨_,_,ex⟩:=qStr_some ex; obtain ⟨_,ex⟩:=gO_some ex; cases ex
  | _=>cases ex
 | _=>cases hn
theorem isNew_comp {e:CE} (h:isNew e=true):notComp e=true:=by
 cases e <;> first | rfl | cases h
theorem st_ownNew (h:HyS C F X) {i:Nat} {e:CE}:StOk C F X N (.ownNew i e):=by
 intro H V p s ps n kb kc r Q E O ok er pe e k
 have nw:=and_r (and_l ok)
 refine wpAny_Assign_Name (new_ok nw (K:=fun l p=>putK V.sv i (.own l) fun env=>n env p) h.hy O (and_r ok) er.1 e fun l q s' O' e' vs rl D h' t' kp hD hL=>?_) (swaps_no (isNew_comp nw) _ _ _ _ _)
 exact store_new h O' (has_name (and_l (and_l ok))) e' hD ⟨_,hL.choose_spec⟩ kp ⟨D,vs,rfl,upd_at,hL,rl.keep (upd_frz hD kp)⟩ fun V' s2 O2 e2=>k.nx V' q s2 O2 e2
theorem su_nil:SuOk C F X N .nil:=fun H V p s ps n kb kc r Q E O ok er pe e k=>wpAny_execs_nil (k.nx V p s O e)
theorem su_cons {c:CS} {l:CSs} (hc:StOk C F X N c) (hl:SuOk C F X N l):SuOk C F X N (.cons c l):=by
 intro H V p s ps n kb kc r Q E O ok er pe e k
 exact wpAny_execs_cons (hc H V p s ps _ kb kc r _ E O (and_l ok) er pe e ⟨fun V' q s' O' e'=>hl H V' q s' _ n kb kc r Q E O' (and_r ok) er pe e' k,k.bk,k.ct,k.rt⟩)
theorem su_frz (h:HyS C F X) {i:Nat} {l:CSs} (hl:SuOk C F X N l):SuOk C F X N (.frz i l):=by
 intro H V p s ps n kb kc r Q E O ok er pe e k
 obtain ⟨x,y,hx,hy,e⟩:=frz_some e
 have hn:=has_name (and_l ok)
 have sl:=O.slots i _ x hn hx
 have mk:∀ a,V.ω a=i + 2 → ∀ b,upd V.ω a 0 b=V.ω b ∨ (upd V.ω a 0 b=0 ∧ V.ω b=i + 2):=fun a ha b=>by
  by_cases q:b=a
  ·rw [q]; exact .inr ⟨upd_at,ha⟩
  ·exact .inl (upd_ne q)
 cases x with
 | own v =>
  cases hy
  obtain ⟨a,vs,hu,ha,hL,rl⟩:=sl
  refine hl H _ p _ ps n kb kc r Q E (own_mut (x:=.val (.lst v)) (t':=s.toks) h O hn ha ⟨rfl,fun _ _=>rfl⟩ ⟨_,hL.choose_spec⟩ (mk a ha) fun fz=>?_) (and_r ok) er pe e k
  exact ⟨_,hu,a,vs,rfl,upd_at,plain_is hL,rl.keep fz⟩
 | od v =>
  cases hy
  obtain ⟨a,hu,ha,sm,im⟩:=sl
  have ⟨_,_,_,o,ho⟩:=im
  exact hl H _ p _ ps n kb kc r Q E (own_mut (x:=.dval v) (t':=s.toks) h O hn ha ⟨rfl,fun _ _=>rfl⟩ ⟨o,ho⟩ (mk a ha) fun fz=>⟨_,hu,a,rfl,upd_at,sm,im⟩) (and_r ok) er pe e k
 | _=>cases hy
theorem st_ite (h:HyS C F X) {c:CE} {a b:CSs} (ha:SuOk C F X N a) (hb:SuOk C F X N b):StOk C F X N (.ite c a b):=by
 intro H V p s ps n kb kc r Q E O ok er pe e k
 refine wpAny_If (trOk _ F H V p s _ _ r _ E h.hy O (and_l ok) er.1 e (fun z q e=>bK_some e) fun x q s' O' e'=>?_)
 cases x with
 | true=>exact ha H V q s' _ n kb kc r Q E O' (and_l (and_r ok)) er pe e' k
 | false=>exact hb H V q s' _ n kb kc r Q E O' (and_r (and_r ok)) er pe e' k
theorem st_whil (h:HyS C F X) {c:CE} {b:CSs} (hb:SuOk C F X N b):StOk C F X N (.whil c b):=by
 intro H V p s ps n kb kc r Q E O ok er pe e k
 refine wpAny_While (codeAny_whileLoop (fun j s=>∃ V p,Ok C F H V p s ∧ whileK (kE c F.Φ) (kSs F.Φ X N b) j n V.sv p=some r) ?_ N ⟨V,p,O,e⟩)
 rintro j s1 ⟨V,p,O,e⟩
 cases j with
 | zero=>cases e
 | succ j =>
  refine wpAny_passesOwn pe (trOk _ F H V p s1 _ _ r _ E h.hy O (and_l ok) er.1 e (fun z q e=>bK_some e) fun x q s2 O2 e2=>?_)
  cases x with
  | false=>exact wpAny_execs_nil (k.nx V q s2 O2 e2)
  | true =>
   refine wpAny_passesOwn pe (hb H V q s2 _ _ _ _ r _ E O2 (and_r ok) er pe e2 ⟨fun V' q' s3 O3 e3=>⟨j,Nat.lt_succ_self j,V',q',O3,e3⟩,fun V' q' s3 O3 e3=>k.nx V' q' s3 O3 e3,fun V' q' s3 O3 e3=>⟨j,Nat.lt_succ_self j,V',q',O3,e3⟩,k.rt⟩)
end
end
noncomputable section
section
variable {C:Cx} {F:Frm} {H:Hd} {V:Vs} {p q:Option Int} {s s':Shared} {ps:List An} {r:Except Exn (PV × Option Int)} {E:Value → Shared → Prop} {X:XF} {N:Nat}
theorem swaps_yes {n:Str} {np cp:Pos} {y:PExpr} {g:List Comprehension} {sc:Scope} {l:Nat} {env:Env} (hk:env.scope.kind=.function) (hn:env.kindOf n=some .local) (h:linesUp n np cp sc=true):swapsWith (.ListComp y g sc cp) (some (.Name n np)) l env=pure true:=by
 have h:(np.line == cp.line && !(sc.names.any fun (n',k)=>n' == n && (k == .local || k == .cell)))=true:=h
 have hb:env.blockKind=.function:=by unfold Env.blockKind; rw [hk]; rfl
 show (pure (env.blockKind == .function && env.kindOf n == some .local && np.line == cp.line && !(sc.names.any fun (n',k)=>n' == n && (k == .local || k == .cell))):Sem Bool)=pure true
 rw [Bool.and_assoc,h,hb,hn]
 rfl
theorem st_compTo (h:HyS C F X) {own rng:Bool} {i:Nat} {elt src:CE} {cond:CO}:StOk C F X N (.compTo own i rng elt src cond):=by
 intro H V p s ps n kb kc r Q E O ok er pe e k
 have hn:F.names[i]?=some ((scOf C F).name i):=has_name (and_l (and_l ok))
 have hl:=and_r (and_l ok)
 have n1:=and_l (and_r ok)
 have n2:=and_r (and_r ok)
 have ho:oneLoc (an (ps.drop 2) 0).sc (cvar (an (ps.drop 2) 0).sc):=of_decide_eq_true (and_l n1)
 have e0:an ps 2=an (ps.drop 2) 0:=by unfold an; rw [List.getElem?_drop]
 have hk:=(O.fix.loc _ (List.mem_of_getElem? hn)).1
 rw [e0] at hl
 refine Assign_ListComp_rowsP (swaps_yes O.fix.kind hk hl) ho.2.1 ho.2.2.1 ho.2.2.2.1 ho.2.2.2.2.1 ho.2.2.2.2.2 hk (by rw [O.fix.kind]; rfl) ?_ fun x=>fold_no rng src _ _ (an (ps.drop 2) 3).p (an (ps.drop 2) 2).p _ x
 refine src_ok (rng:=rng) (a:=(an (ps.drop 2) 3).p) (b:=(an (ps.drop 2) 2).p) (K:=fun xs p=>compK (fun x=>kC cond noFn [.val x]) (eltF elt) xs fun ys=>opK (asLst (.lst ys)) fun l=>putK V.sv i (mkSV own l) fun env=>n env p) (evOk src) h.hy O (by cases rng <;> exact and_r n1) (and_l n2) er.1 (comp_eq.symm.trans e) fun xs I fp P St h' tk q s' O' hI hz e'=>?_
 obtain ⟨ys,c,e2⟩:=compK_some e'
 refine ⟨compP V.ω s'.heap cond,compG V.ω s'.heap elt,I,fp,[I],xs.length,P,St,V.m,rfl,hI.walks F.A O'.fix.handled,line_le hz,hI.st,hI.low,fun q=>?_,ns_keep O'.ns fun o e=>hI.keep _ o e,comp_quiet (evOk elt) (fun c _=>trOk c) h.hy O' ho (and_l (and_r n2)) (and_r (and_r n2)) c hI,?_⟩
 ·obtain ⟨o,e⟩:=ns_there O'.ns
  exact ne_there hI.new e (List.mem_singleton.mp q)
 ·intro D h3 tk3 zs vs hD hL hPl hlen hP hG hns hk3
  have kk:∀ b o,b ≠ F.env.locals → s'.heap.get? b=some o → h3.get? b=some o:=fun b o nb e=>hk3 b o nb (fun q=>ne_there hI.new e (List.mem_singleton.mp q)) (hI.keep b o e)
  have hD0:s'.heap.get? D=none:=by
   cases hg:s'.heap.get? D with
   | none=>rfl
   | some o=>rw [hI.keep D o hg] at hD; cases hD
  have R:Reps V.ω s'.heap ys zs.toList:=c.reps _ _ (fun v x b rv hb=>compP_eq rv hb) (fun v y x z hf rx hz=>by
   obtain ⟨x',z',rx',hz',ry⟩:=hf
   rw [Rep.uniq x rx rx'] at hz
   rw [hz'] at hz; cases hz
   exact ry) (reps_of_get hlen fun j v hv=>hI.val j v (hP j v hv)) hG
  obtain ⟨hl,e3⟩:=put_some e2
  cases own with
  | true =>
   have W:Wr C F H V s' F.env.locals i (upd V.ω D (i + 2)) h3:=Wr.loc h O' hns kk (mark_or hD0 nofun ⟨_,hPl.choose_spec⟩)
   exact k.nx _ q _ (W.ok (t':=tk3) O' hns (fun j m ne hj=>if_neg (nodup_ne h hn hj ne)) fun m hm _=>by rw [hn] at hm; cases hm; exact ⟨D,zs.toList,if_pos rfl,upd_at,hPl,R.keep W.frz⟩) e3
  | false =>
   have W:Wr C F H V s' F.env.locals i V.ω h3:=Wr.loc h O' hns kk fun _=>.inl rfl
   exact k.nx _ q _ (W.ok (t':=tk3) O' hns (fun j m ne hj=>if_neg (nodup_ne h hn hj ne)) fun m hm _=>by rw [hn] at hm; cases hm; exact ⟨.ref D,if_pos rfl,D,zs.toList,rfl,O'.lt.fresh hD0,hL,R.keep W.frz⟩) e3
theorem setItem_plain {prog:Program} {w:World} {A:Around} {s:Shared} {l:Addr} {items:Array Value} {k:Int} {t:Tok} {v:Value} {Q:Unit → Shared → Prop} (hl:s.heap.PlainList l items)
  (h0:0 ≤ k) (hfit:k < 2 ^ 63) (hn:k < items.size)
  (hQ:∀ h',h'.PlainList l (items.setIfInBounds k.toNat v) → Heap.SameBut l s.heap h' → Q () { s with heap:=h' }) :
  wpAny (model prog w) A (setItem (.ref l) (.int k t) v) Q E s:=by
 obtain ⟨n,ho⟩:=hl
 have hT:s.TypeIs (.ref l) "list":=⟨_,ho,rfl⟩
 unfold setItem
 refine wpAny_holding ?_
 refine wpAny_bind (wpAny_sequenceKey hT (by decide) ?_)
 refine wpAny_bind (wpAny_callSpecial?_slot (name:=Str.ofString "__setitem__") hT slot_list_setitem (wpAny_call_entry slot_list_setitem hT entry_list_setitem ?_ (args_list_setitem _ _ _)))
 show wpAny _ _ (Builtin.List.listSubscript? (.int k t) >>= _) _ _ s
 refine wpAny_bind (wpAny_listSubscript_int (fitsIndex_of h0 hfit) ?_)
 clear hfit
 obtain ⟨j,rfl⟩:=Int.eq_ofNat_of_zero_le h0
 have hj:j < items.size:=by omega
 have hx':items[j]?=some items[j]:=Array.getElem?_eq_getElem hj
 show wpAny _ _ ((seqItemAt l j >>= fun r=>pure (r.map (j,·))) >>= _) _ _ s
 refine wpAny_bind (wpAny_bind (wpAny_seqItemAt ho rfl (wpAny_pure ?_)))
 rw [hx']
 show wpAny _ _ (setSeqItemAt l j v >>= _) _ _ s
 have hfin:(s.heap.update l (Obj.mapSeq (·.setIfInBounds j v))).PlainList l (items.setIfInBounds j v):=by
  obtain ⟨n',hd'⟩:=Obj.data_mapSeq (o:={ cls:=.type "list",data:=.seq items n }) rfl (·.setIfInBounds j v)
  refine ⟨n',(Heap.get?_update_self _ ho (Obj.isFreed_of_seq hd')).trans ?_⟩
  exact congrArg some (by rw [← hd']; rfl)
 refine wpAny_bind (wpAny_setSeqItemAt ho rfl ?_)
 exact wpAny_pure ⟨.none,rfl,wpAny_pure (hQ _ hfin (Heap.SameBut.update ..))⟩
theorem st_append (h:HyS C F X) {i:Nat} {e:CE}:StOk C F X N (.append i e):=by
 intro H V p s ps n kb kc r Q E O ok er pe e k
 have hn:F.names[i]?=some ((scOf C F).name i):=has_name (and_l (and_l ok))
 refine wpAny_Expr (wpAny_Call_append rfl (by rw [star_1]; rfl) (and_r (and_l ok)) (by rw [star_1]; rfl) ?_) (by unfold interactive; rw [O.fix.kind]; rfl) rfl
 obtain ⟨x,hx,e⟩:=opK_some e
 obtain ⟨l,hl,e⟩:=opK_some e
 obtain rfl:=isO_some hl
 refine load_slot O (and_l (and_l ok)) hx (fun u hu sl=>?_) nofun
 rw [nth_get] at hx
 obtain ⟨a,vs,eu,ha,hL,rl⟩:=sl
 cases eu
 refine ⟨a,vs.toArray,rfl,⟨_,_,hL.choose_spec,rfl,rfl,rfl⟩,evOk _ F H V p s _ _ r _ E h.hy O (and_r ok) er.1 e fun v z q s' O' r1 e'=>?_⟩
 obtain ⟨hz,e2⟩:=gK_some e'
 obtain ⟨_,e3⟩:=put_some e2
 obtain ⟨a',vs',eu,ha',hL',rl'⟩:=O'.slots i _ _ hn hx
 rw [hu] at eu; cases eu
 refine wpAny_list_append_plain hL' (fun h' hp sb=>?_) (by rw [List.size_toArray,rl'.length]; exact line_le hz)
 exact k.nx _ q _ (own_mut (x:=.own (l ++ [z])) (t':=s'.toks) h O' hn ha' sb ⟨_,hp.choose_spec⟩ (fun _=>.inl rfl) fun fz=>⟨a,vs' ++ [v],hu,ha',by simpa using hp,(Reps.append (.one (r1.keep fz)) (rl'.keep fz))⟩) e3
theorem st_setItem (h:HyS C F X) {i:Nat} {x e:CE}:StOk C F X N (.setItem i x e):=by
 intro H V p s ps n kb kc r Q E O ok er pe e k
 have hs:=and_l (and_l ok)
 have hn:F.names[i]?=some ((scOf C F).name i):=has_name hs
 refine wpAny_Assign_Subscript (evOk _ F H V p s _ _ r _ E h.hy O (and_r (and_r ok)) er.1 e fun v z q s' O' r1 e'=>?_) (swaps_no (and_r (and_l ok)) _ _ _ _ _)
 obtain ⟨y,hy,e1⟩:=opK_some e'
 obtain ⟨l,hl,e2⟩:=opK_some e1
 obtain rfl:=isO_some hl
 refine load_slot O' hs hy (fun u hu sl=>?_) nofun
 rw [nth_get] at hy
 refine evOk _ F _ V q s' _ _ r _ E h.hy (O'.push r1) (and_l (and_r ok)) er.1 e2 fun kv kz q2 s2 O2 r2 e3=>?_
 obtain ⟨j,hj,e4⟩:=opK_some e3
 obtain ⟨hz,e5⟩:=gK_some e4
 obtain ⟨_,e6⟩:=put_some e5
 obtain rfl:=asInt_some hj
 obtain ⟨t,rfl⟩:=r2
 obtain ⟨a,vs,eu,ha,hL,rl⟩:=O2.slots i _ _ hn hy
 rw [hu] at eu; cases eu
 refine setItem_plain hL hz.1 (by have:=b62_eq; omega) (by rw [List.size_toArray,rl.length]; exact hz.2.1) fun h' hp sb=>?_
 exact k.nx _ q2 _ (own_mut (x:=.own (l.set j.toNat z)) (t':=s2.toks) h O2.pop hn ha sb ⟨_,hp.choose_spec⟩ (fun _=>.inl rfl) fun fz=>⟨a,vs.set j.toNat v,hu,ha,by simpa using hp,Reps.set (O2.top.keep fz) (rl.keep fz) _⟩) e6
theorem st_dset (h:HyS C F X) {i:Nat} {x e:CE}:StOk C F X N (.dset i x e):=by
 intro H V p s ps n kb kc r Q E O ok er pe e k
 have hs:=and_l (and_l ok)
 have hn:F.names[i]?=some ((scOf C F).name i):=has_name hs
 refine wpAny_Assign_Subscript (evOk _ F H V p s _ _ r _ E h.hy O (and_r (and_r ok)) er.1 e fun v z q s' O' r1 e'=>?_) (swaps_no (and_r (and_l ok)) _ _ _ _ _)
 obtain ⟨c,hc,e0⟩:=opK_some e'
 obtain rfl:=asInt_some hc
 obtain ⟨t,rfl⟩:=r1
 obtain ⟨y,hy,e1⟩:=opK_some e0
 obtain ⟨l,hl,e2⟩:=opK_some e1
 obtain rfl:=isOd_some hl
 refine load_slot O' hs hy (fun u hu sl=>?_) nofun
 rw [nth_get] at hy
 refine evOk _ F _ V q s' _ _ r _ E h.hy O' (and_l (and_r ok)) er.1 e2 fun kv kz q2 s2 O2 r2 e3=>?_
 obtain ⟨j,hj,e4⟩:=opK_some e3
 obtain ⟨hz,e5⟩:=gK_some e4
 obtain ⟨_,e6⟩:=put_some e5
 obtain rfl:=asInt_some hj
 obtain ⟨t',rfl⟩:=r2
 obtain ⟨a,eu,ha,sm,kvs,hD,hI,_⟩:=O2.slots i _ _ hn hy
 rw [hu] at eu; cases eu
 refine wpAny_setItem_pairs (knd:=intKind C.prog C.w) (k:=j) (by simp [intKind,Value.isInt]) (hD C.prog C.w) (fun h' hp sb=>?_) (by rw [hI.length]; exact line_le hz)
 have ho:∃ o,h'.get? a=some o:=let ⟨o,_,_,ho,_⟩:=hp; ⟨o,ho⟩
 exact k.nx _ q2 _ (own_mut (x:=.od (put l j c)) (t':=s2.toks + 1) h O2 hn ha sb ho (fun _=>.inl rfl) fun fz=>⟨a,hu,ha,sm,stored kvs j (.int c t),fun _ _=>dictOf_any hp,hI.put j c t,ho⟩) e6
theorem st_reverse (h:HyS C F X) {i:Nat}:StOk C F X N (.reverse i):=by
 intro H V p s ps n kb kc r Q E O ok er pe e k
 have hn:F.names[i]?=some ((scOf C F).name i):=has_name (and_l ok)
 obtain ⟨y,hy,e1⟩:=opK_some e
 obtain ⟨l,hl,e2⟩:=opK_some e1
 obtain rfl:=isO_some hl
 obtain ⟨hz,e3⟩:=gK_some e2
 obtain ⟨_,e4⟩:=put_some e3
 refine wpAny_Expr (wpAny_Call_method_late rfl rfl (and_r ok) rfl (load_slot O (and_l ok) hy (fun u hu sl=>?_) nofun)) (by unfold interactive; rw [O.fix.kind]; rfl) rfl
 obtain ⟨a,vs,eu,ha,⟨kk,hL⟩,rl⟩:=sl
 cases eu
 refine ⟨"list","list.reverse",PySem.F.plainAttrs_list,PySem.F.slot_list_reverse,PySem.F.type_list_reverse,⟨_,hL,rfl⟩,fun b eb=>by cases eb; exact ⟨_,hL,rfl⟩,?_⟩
 refine PySem.P.reverse_list hL ?_ (by rw [List.size_toArray,rl.length]; exact line_le hz)
 obtain ⟨n',hd'⟩:=Obj.data_mapSeq (o:={ cls:=.type "list",data:=.seq vs.toArray kk }) rfl (fun x=>x.reverse)
 have hp:(s.heap.update a (Obj.mapSeq fun x=>x.reverse)).PlainList a vs.toArray.reverse:=⟨n',(Heap.get?_update_self _ hL (Obj.isFreed_of_seq hd')).trans (congrArg some (by rw [← hd']; rfl))⟩
 have sb:Heap.SameBut a s.heap (s.heap.update a (Obj.mapSeq fun x=>x.reverse)):=Heap.SameBut.update ..
 exact k.nx _ p _ (own_mut (x:=.own l.reverse) (t':=s.toks) h O hn ha sb ⟨_,hp.choose_spec⟩ (fun _=>.inl rfl) fun fz=>⟨a,vs.reverse,hu,ha,by simpa using hp,(rl.keep fz).reverse⟩) e4
theorem st_penSet (h:HyS C F X) {i:Nat} {e:CE}:StOk C F X N (.penSet i e):=by
 intro H V p s ps n kb kc r Q E O ok er pe e k
 have hs:=and_l (and_l ok)
 refine wpAny_Assign_Subscript (evOk _ F H V p s _ _ r _ E h.hy O (and_r ok) er.1 e fun v z q s' O' r1 e'=>?_) (swaps_no (and_r (and_l ok)) _ _ _ _ _)
 obtain ⟨c,hc,e0⟩:=opK_some e'
 obtain rfl:=asInt_some hc
 obtain ⟨t,rfl⟩:=r1
 obtain ⟨y,hy,e1⟩:=opK_some e0
 obtain ⟨_,hl,e2⟩:=opK_some e1
 obtain rfl:=isPn_some hl
 obtain ⟨old,rfl,e3⟩:=opK_some e2
 refine load_slot O' hs hy (fun u hu sl=>?_) nofun
 obtain ⟨v',ev,a,rfl,hb⟩:=sl
 cases ev
 have hp:=O'.pen
 rw [hb] at hp
 obtain ⟨j,t0,ej,hL⟩:=hp
 cases ej
 refine wpAny_Constant_int (setItem_plain (s:={ s' with toks:=s'.toks + 1 }) (items:=[Value.int old t0].toArray) hL (by decide) (by decide) (show (0:Int) < 1 by decide) fun h' hpl sb=>?_)
 have nf:a ∉ fsOf F.envs:=(O'.fix.pn a hb).2
 refine k.nx V _ _ (O'.after ⟨h',s'.toks + 1,rfl⟩ ⟨fun b o e _ np=>(sb.2 b fun q=>np (by rw [q]; exact hb)).trans e,fun b o e hf=>⟨o.slots,(sb.2 b fun q=>nf (q ▸ (h.lk.fs ▸ hf))).trans e⟩⟩ ?_) e3
 rw [hb]
 exact ⟨c,t,rfl,by simpa using hpl⟩
theorem raise_split {M:Model} {A:Around} {env:Env} {x:Sem Value} {Q:Flow → Shared → Prop} {E:Value → Shared → Prop} {s:Shared} (h:wpAny M A x (fun v s1=>wpAny M A (raiseStmt env (some (pure v)) none) Q E s1) E s):wpAny M A (raiseStmt env (some x) none) Q E s:=by
 unfold raiseStmt at h ⊢
 exact wpAny_bind (wpAny_mono h (fun v s1 h1=>h1) fun _ _ e=>e)
theorem halt_some {o:Option Exn} (e:haltK o=some r):∃ x,o=some x ∧ r=.error x:=by
 cases o with
 | none=>cases e
 | some x=>cases e; exact ⟨x,rfl,rfl⟩
theorem st_raise (h:HyS C F X) {f:Nat} {l:CEs}:StOk C F X N (.raise f l):=by
 intro H V p s ps n kb kc r Q E O ok er pe e k
 rw [show (toS (.raise f l) (scOf C F) ps).x=.Raise (some (.Call (.Name ((scOf C F).fnm f) (an ps 2).p) (toEs l (scOf C F) (ps.drop 3)).x [] (an ps 1).p)) none (an ps 0).p from rfl,arm_exec_Raise]
 refine wpAny_bind (wpAny_standAt ?_)
 show wpAny _ _ (raiseStmt F.env (some (do let v ← eval (.Call (.Name ((scOf C F).fnm f) (an ps 2).p) (toEs l (scOf C F) (ps.drop 3)).x [] (an ps 1).p) F.env; standAt (an ps 0).p; pure v)) none) Q E s
 refine raise_split (wpAny_bind (call_fn (pa:=F.pa) (spOk l) h.hy O (and_l (and_l ok)) (and_r (and_l ok)) (and_r ok) er.1 (.inl rfl) e fun fa hfa ss vs q s' O' r' e'=>?_))
 obtain ⟨x,hX,rfl⟩:=halt_some e'
 refine wpAny_call (h.inst f ss x hX F H V q s' vs fa _ O' h.lk.fs h.hy.room hfa r' fun e s2 m=>wpAny_bind (wpAny_standAt (wpAny_pure ?_)))
 obtain ⟨B,d,oe,t,⟨b1,b2⟩,b3,rr⟩:=m.way
 exact h.rais _ x e s2 E Q (fun b o e=>b3 b o (b1 b o e)) m (er.2 x rfl e s2 m)
end
end
noncomputable section
section
variable {C:Cx} {F:Frm} {H:Hd} {V:Vs} {p q:Option Int} {s s':Shared} {ps:List An} {r:Except Exn (PV × Option Int)} {E:Value → Shared → Prop} {X:XF} {N:Nat}
noncomputable def StoreFs (C:Cx) (F:Frm):List Nat → List (Value → Sem Unit) → Prop
 | [],fs=>fs=[]
 | i::l,fs=>∃ n f r,fs=f::r ∧ F.names[i]?=some n ∧ (∀ v (Q:Unit → Shared → Prop) (E:Value → Shared → Prop) s,wpAny (model C.prog C.w) F.A (storeName F.env n v) Q E s → wpAny (model C.prog C.w) F.A (f v) Q E s) ∧ StoreFs C F l r
theorem stores_ok (h:HyS C F X) {Q:Unit → Shared → Prop} {l:List Nat}:∀ {fs:List (Value → Sem Unit)} {xs:List PV} {vs:List Value} {V:Vs} {s:Shared} {K:List SV → RR},Ok C F H V p s → StoreFs C F l fs → Reps V.ω s.heap xs vs → manyK l xs V.sv K=some r →
  (∀ V' s',Ok C F H V' p s' → K V'.sv=some r → Q () s') → wpAny (model C.prog C.w) F.A (assignInOrder fs vs) Q E s:=by
 induction l with
 | nil =>
  intro fs xs vs V s K O hf rs e k
  subst hf
  cases xs with
  | cons=>cases e
  | nil=>cases rs; exact PyProof.Rows.assignInOrder_nil (k V s O e)
 | cons i l ih =>
  intro fs xs vs V s K O hf rs e k
  obtain ⟨n,f,fr,rfl,hn,hw,hf⟩:=hf
  cases xs with
  | nil=>cases e
  | cons x xs =>
   obtain ⟨v,ws,rfl,a,rs⟩:=rs
   exact PyProof.Rows.assignInOrder_cons (hw _ _ _ _ (store_ok (K:=fun env=>manyK l xs env K) h O hn e ⟨v,rfl,a⟩ fun V' s' O' e' fz=>ih O' hf (rs.keep fz) e' k))
theorem many_len {l:List Nat}:∀ {xs:List PV} {env:List SV} {K:List SV → RR},manyK l xs env K=some r → l.length=xs.length:=by
 induction l with
 | nil=>intro xs env K e; cases xs with | nil=>rfl | cons=>cases e
 | cons i l ih =>
  intro xs env K e
  cases xs with
  | nil=>cases e
  | cons x xs=>exact congrArg (· + 1) (ih (put_some (K:=fun env=>manyK l xs env K) e).2)
theorem ts_ok {l:List Nat}:∀ {ps:List An},(toTs l (scOf C F) ps).ok=true → StoreFs C F l ((assignEach (toTs l (scOf C F) ps).x F.env).map (·.2)) ∧ StoreFs C F l (((toTs l (scOf C F) ps).x.filterMap nameOf).map fun n=>bindName F.env n) ∧
  (assignEach (toTs l (scOf C F) ps).x F.env).length=l.length ∧ (assignEach (toTs l (scOf C F) ps).x F.env).findIdx? (·.1)=none ∧ ((toTs l (scOf C F) ps).x.filterMap nameOf).length=l.length ∧ (toTs l (scOf C F) ps).x.length=l.length:=by
 induction l with
 | nil=>exact fun _=>⟨rfl,rfl,rfl,rfl,rfl,rfl⟩
 | cons i l ih =>
  intro ps ok
  obtain ⟨h1,h2,h3,h4,h5,h6⟩:=ih (ps:=ps.drop 1) (and_r ok)
  refine ⟨⟨_,_,_,rfl,has_name (and_l ok),fun v Q E s=>PyProof.Rows.assign_Name,h1⟩,⟨_,_,_,rfl,has_name (and_l ok),fun v Q E s=>PyProof.Rows.bindName_,h2⟩,congrArg (· + 1) h3,?_,congrArg (· + 1) h5,congrArg (· + 1) h6⟩
  show List.findIdx? (·.1) ((false,assign (.Name ((scOf C F).name i) (an ps 0).p) F.env)::assignEach (toTs l (scOf C F) (ps.drop 1)).x F.env)=none
  rw [List.findIdx?_cons,h4]; rfl
theorem unpack_ok (h:HyS C F X) (O:Ok C F H V p s) {l:List Nat} {xs:List PV} {v:Value} {k:Nat} {tp:Pos} {K:List SV → RR} {Q:Unit → Shared → Prop} (ok:(toTs l (scOf C F) ps).ok=true) (rv:Rep V.ω s.heap (.tup xs) v) (e:manyK l xs V.sv K=some r)
  (kk:∀ V' s',Ok C F H V' p s' → K V'.sv=some r → Q () s'):wpAny (model C.prog C.w) F.A (assign (.Tuple (toTs l (scOf C F) ps).x k tp) F.env v) Q E s:=by
 obtain ⟨h1,_,h3,h4,_⟩:=ts_ok ok
 obtain ⟨a,vs,rfl,_,it,rl⟩:=rv
 refine PyProof.Rows.assign_Tuple_tuple O.fix.handled it (by rw [h3,List.size_toArray,rl.length,many_len e]) h4 fun h' hb=>?_
 have k1:Kept s.heap h':=fun b o e=>hb b o (ne_there (none_at _) e) e
 exact stores_ok h (O.made (t:=s.toks) k1) h1 (rl.keep (frz_of k1)) e kk
theorem st_unpack (h:HyS C F X) {l:List Nat} {e:CE}:StOk C F X N (.unpack l e):=by
 intro H V p s ps n kb kc r Q E O ok er pe e k
 have n1:=and_l ok
 refine PyProof.Rows.Assign_Tuple (evOk _ F H V p s _ _ r _ E h.hy O (and_r (and_r ok)) er.1 e fun v z q s' O' r1 e'=>?_) (by unfold swapsWithSole; exact swaps_no (and_l n1) _ _ _ _ _) (swapped_no (and_r n1) _ _ _ _ _ _)
 obtain ⟨xs,hx,e2⟩:=opK_some e'
 obtain rfl:=asTup_some hx
 exact unpack_ok h O' (and_l (and_r ok)) r1 e2 fun V' s2 O2 e2=>k.nx V' q s2 O2 e2
theorem put_mk {x y:SV} {env:List SV}:∀ {i:Nat} {K:List SV → RR},env[i]?=some y → isPn y=none → K (env.set i x)=some r → putK env i x K=some r:=by
 induction env with
 | nil=>intro i K e; cases e
 | cons z env ih =>
  intro i K e hp e2
  cases i with
  | zero=>cases e; show opK ((isPn y).elim _ _) _=_; rw [hp]; exact e2
  | succ i=>exact ih (K:=fun r=>K (z::r)) e hp e2
theorem put_pn {x:SV} {env:List SV}:∀ {i:Nat} {K:List SV → RR},putK env i x K=some r → ∃ y,env[i]?=some y ∧ isPn y=none:=by
 induction env with
 | nil=>intro i K e; cases e
 | cons z env ih =>
  intro i K e
  cases i with
  | zero =>
   obtain ⟨u,hu,_⟩:=opK_some e
   refine ⟨z,rfl,?_⟩
   cases hz:isPn z with
   | none=>rfl
   | some w=>rw [hz] at hu; cases hu
  | succ i=>exact ih e
theorem many_snoc {i:Nat} {x:PV} {l:List Nat}:∀ {xs:List PV} {env:List SV} {K:List SV → RR},manyK l xs env (fun env=>putK env i (.val x) K)=some r → manyK (l ++ [i]) (xs ++ [x]) env K=some r:=by
 induction l with
 | nil=>intro xs env K e; cases xs with | nil=>exact e | cons=>cases e
 | cons j l ih =>
  intro xs env K e
  cases xs with
  | nil=>cases e
  | cons y xs =>
   obtain ⟨y',h1,h2⟩:=put_pn (K:=fun env=>manyK l xs env fun env=>putK env i (.val x) K) e
   exact put_mk (K:=fun env=>manyK (l ++ [i]) (xs ++ [x]) env K) h1 h2 (ih (put_some (K:=fun env=>manyK l xs env fun env=>putK env i (.val x) K) e).2)
theorem many_set {i:Nat} {x:PV} {y:SV} (hp:isPn y=none) {l:List Nat}:∀ {xs:List PV} {env:List SV} {K:List SV → RR},i ∉ l → env[i]?=some y → manyK l xs (env.set i (.val x)) K=some r → manyK l xs env (fun env=>putK env i (.val x) K)=some r:=by
 induction l with
 | nil =>
  intro xs env K _ hy e
  cases xs with
  | nil=>exact put_mk hy hp e
  | cons=>cases e
 | cons j l ih =>
  intro xs env K n hy e
  cases xs with
  | nil=>cases e
  | cons z xs =>
   have hji:j ≠ i:=fun q=>n (q ▸ .head _)
   obtain ⟨y',h1,h2⟩:=put_pn (K:=fun env=>manyK l xs env K) e
   rw [List.getElem?_set_ne (Ne.symm hji)] at h1
   have e1:=(put_some (K:=fun env=>manyK l xs env K) e).2
   rw [List.set_comm _ _ (Ne.symm hji)] at e1
   exact put_mk (K:=fun env=>manyK l xs env fun env=>putK env i (.val x) K) h1 h2 (ih (fun q=>n (.tail _ q)) (by rw [List.getElem?_set_ne hji]; exact hy) e1)
theorem many_rev {l:List Nat}:∀ {xs:List PV} {env:List SV} {K:List SV → RR},l.Nodup → manyK l xs env K=some r → manyK l.reverse xs.reverse env K=some r:=by
 induction l with
 | nil=>intro xs env K _ e; cases xs with | nil=>exact e | cons=>cases e
 | cons i l ih =>
  intro xs env K n e
  cases xs with
  | nil=>cases e
  | cons x xs =>
   obtain ⟨n1,n2⟩:=List.nodup_cons.mp n
   obtain ⟨y,h1,h2⟩:=put_pn (K:=fun env=>manyK l xs env K) e
   rw [List.reverse_cons,List.reverse_cons]
   exact many_snoc (ih n2 (many_set h2 n1 h1 (put_some (K:=fun env=>manyK l xs env K) e).2))
theorem fs_snoc {i:Nat} {n:Str} {f:Value → Sem Unit} (hn:F.names[i]?=some n) (hf:∀ v (Q:Unit → Shared → Prop) (E:Value → Shared → Prop) s,wpAny (model C.prog C.w) F.A (storeName F.env n v) Q E s → wpAny (model C.prog C.w) F.A (f v) Q E s) {l:List Nat}:∀ {fs:List (Value → Sem Unit)},StoreFs C F l fs → StoreFs C F (l ++ [i]) (fs ++ [f]):=by
 induction l with
 | nil=>intro fs h; subst h; exact ⟨n,f,[],rfl,hn,hf,rfl⟩
 | cons j l ih=>intro fs h; obtain ⟨m,g,r,rfl,a,b,c⟩:=h; exact ⟨m,g,_,rfl,a,b,ih c⟩
theorem fs_rev {l:List Nat}:∀ {fs:List (Value → Sem Unit)},StoreFs C F l fs → StoreFs C F l.reverse fs.reverse:=by
 induction l with
 | nil=>intro fs h; subst h; rfl
 | cons j l ih=>intro fs h; obtain ⟨m,g,r,rfl,a,b,c⟩:=h; rw [List.reverse_cons,List.reverse_cons]; exact fs_snoc a b (ih c)
theorem names_swapped {line:Nat} (hk:Fix C F) {l:List Nat}:∀ {ps:List An},(toTs l (scOf C F) ps).ok=true → (toTs l (scOf C F) ps).x.all (fun t=>t.pos.line == line)=true →
  ((toTs l (scOf C F) ps).x.filterMap fun
  | .Name id pos=>if F.env.kindOf id == some .local && pos.line == line then some id else none
  | _=>none)=(toTs l (scOf C F) ps).x.filterMap nameOf:=by
 induction l with
 | nil=>exact fun _ _=>rfl
 | cons i l ih =>
  intro ps ok ha
  have ha:(((an ps 0).p.line == line) && (toTs l (scOf C F) (ps.drop 1)).x.all (fun t=>t.pos.line == line))=true:=ha
  have h1:=ih (ps:=ps.drop 1) (and_r ok) (and_r ha)
  have hl:(F.env.kindOf ((scOf C F).name i) == some .local && (an ps 0).p.line == line)=true:=by
   rw [(hk.loc _ (List.mem_of_getElem? (has_name (and_l ok)))).1,and_l ha]; rfl
  show List.filterMap _ (.Name ((scOf C F).name i) (an ps 0).p::(toTs l (scOf C F) (ps.drop 1)).x)=List.filterMap nameOf (.Name ((scOf C F).name i) (an ps 0).p::(toTs l (scOf C F) (ps.drop 1)).x)
  rw [List.filterMap_cons,List.filterMap_cons]
  simp only [hl,if_true]
  rw [h1]; rfl
theorem no_star (l:CEs) (sc:Sc):∀ ps:List An,((toEs l sc ps).x.any fun | .Starred ..=>true | _=>false)=false:=by
 refine CEs.rec (motive_1:=fun _=>True) (motive_2:=fun _=>True) (motive_3:=fun l=>∀ ps:List An,((toEs l sc ps).x.any fun | .Starred ..=>true | _=>false)=false)
  ?_ ?_ ?_ ?_ ?_ ?_ ?_ ?_ ?_ ?_ ?_ ?_ ?_ ?_ ?_ ?_ ?_ ?_ ?_ ?_ ?_ ?_ ?_ ?_ ?_ ?_ l
 case refine_23=>exact fun _=>rfl
 case refine_24 =>
  intro e l _ ih ps
  have:=ih (toE e sc ps).r
  show ((match (toE e sc ps).x with | .Starred ..=>true | _=>false) || _)=false
  rw [show ((toEs l sc (toE e sc ps).r).x.any fun | .Starred ..=>true | _=>false)=false from this,Bool.or_false]
  cases e with
  | seq t l=>cases t <;> rfl
  | _=>rfl
 case refine_25=>exact fun i l ih ps=>ih (ps.drop 1)
 case refine_26=>exact fun i l ih ps=>ih (ps.drop 1)
 all_goals (intros; trivial)
theorem swapped_yes (hk:Fix C F) {l:List Nat} {es:CEs} {ps ps':List An} {k vk:Nat} {tp vp:Pos} (ok:(toTs l (scOf C F) ps).ok=true) (h:swapOk (toTs l (scOf C F) ps).x (toEs es (scOf C F) ps').x=true) :
  swappedStores [.Tuple (toTs l (scOf C F) ps).x k tp] (.Tuple (toEs es (scOf C F) ps').x vk vp) F.env=pure (some ((toTs l (scOf C F) ps).x.filterMap nameOf)):=by
 have g6:=and_r h
 have g5:=and_r (and_l h)
 have g4:=and_r (and_l (and_l h))
 have g3:=and_r (and_l (and_l (and_l h)))
 have g2:=and_r (and_l (and_l (and_l (and_l h))))
 have g1:=and_l (and_l (and_l (and_l (and_l h))))
 have n1:=names_swapped hk ok g3
 obtain ⟨_,_,_,_,n5,n6⟩:=ts_ok ok
 have hb:(F.env.blockKind != .function)=false:=by unfold Env.blockKind; rw [hk.kind]; rfl
 have h2':((toEs es (scOf C F) ps').x.length != (toTs l (scOf C F) ps).x.length)=false:=by rw [bne,g2]; rfl
 have h4':(((toTs l (scOf C F) ps).x.filterMap nameOf).eraseDups.length != ((toTs l (scOf C F) ps).x.filterMap nameOf).length)=false:=by rw [n5,← n6,bne,g4]; rfl
 have n2':(((toTs l (scOf C F) ps).x.filterMap nameOf).length != (toTs l (scOf C F) ps).x.length)=false:=by rw [n5,n6,bne,beq_self_eq_true]; rfl
 rw [Bool.not_eq_true'] at g5 g6
 unfold swappedStores
 dsimp only
 generalize hV:(toEs es (scOf C F) ps').x.any _=bV
 have hV':bV=false:=hV.symm.trans (no_star _ _ _)
 generalize hN:(toTs l (scOf C F) ps).x.filterMap _=names
 have hN':names=(toTs l (scOf C F) ps).x.filterMap nameOf:=hN.symm.trans n1
 subst hV' hN'
 simp only [g1,h2',hb,n2',h4',g5,g6,Bool.not_true,Bool.or_false,Bool.false_eq_true,if_false,pure_bind,bind_pure_comp]
theorem st_unpackLit (h:HyS C F X) {l:List Nat} {es:CEs}:StOk C F X N (.unpackLit l es):=by
 intro H V p s ps n kb kc r Q E O ok er pe e k
 have n1:=and_l ok
 have n2:=and_r ok
 refine PyProof.Rows.Assign_Tuple_swapped (names:=(toTs l (scOf C F) (ps.drop 2)).x.filterMap nameOf) ?_ rfl (swapped_yes O.fix (and_l n2) (and_l n1))
 refine wpAny_Tuple (sp_vals (K:=fun vs p=>manyK l vs V.sv fun env=>n env p) (spOk es) h.hy O (and_r n2) er.1 e fun xs vs q s' O' r' e'=>?_)
 obtain ⟨_,f2,_,_,f5,f6⟩:=ts_ok (and_l n2)
 have hl:=many_len e'
 have h3:l.length ≤ 3:=by
  have g1:=and_l (and_l (and_l (and_l (and_l (and_l n1)))))
  rw [f6] at g1
  rcases Bool.or_eq_true_iff.mp g1 with g | g <;> have:=eq_of_beq g <;> omega
 refine ⟨by rw [r'.length,← hl]; exact Nat.le_trans h3 (by decide),?_⟩
 have kp:Kept s'.heap (s'.heap.push { cls:=.type "tuple",data:=.seq vs.toArray }):=fun b o eb=>Heap.get?_push_of_some _ eb
 rw [f5,hl,← r'.length,← List.size_toArray]
 refine PyProof.Rows.unpackItems_tuple O'.fix.handled ⟨_,Heap.get?_push_size _ rfl,rfl,_,rfl⟩ fun h' hb=>?_
 have k1:Kept s'.heap h':=fun b o e=>hb b o (fun q=>absurd (Heap.lt_size (kp b o e)) (q ▸ Nat.lt_irrefl _)) (kp b o e)
 rw [List.map_reverse]
 exact stores_ok h (O'.made (t:=s'.toks) k1) (fs_rev f2) (Reps.reverse (r'.keep (frz_of k1))) (many_rev (of_decide_eq_true (and_r n1)) e') fun V' s2 O2 e2=>k.nx V' q s2 O2 e2
end
end
noncomputable section
theorem go_plain {prog:Program} {w:World} {A:Around} {E:Value → Shared → Prop} {s:Shared} {target:PExpr} {I:Addr} {v:Value} {o:Obj} {n:String} {vs:Array Value} {Q:Unit → Shared → Prop} (ho:s.heap.get? I=some o) (hc:o.cls=.type n) (hd:o.data=.fields vs) (hn:ownedIters.contains n=false) (h:Q () s) :
  wpAny (model prog w) A (letOwnedTupleGo target (.ref I) v) Q E s:=by
 have main:∀ a,v=.ref a → wpAny (model prog w) A (do
   let o ← load I
   match o.cls,o.data with
   | .type n,.fields vs =>
    if ["enumerate","zip","dict_itemiterator","dict_reverseitemiterator","odict_iterator","itertools.zip_longest","itertools.pairwise"].contains n && vs[0]? == some (rawInt a) then
     rule "for.unpacks-the-owned-tuple"
     updateField I 0 .none
   | _,_=>pure ()) Q E s:=fun a e=>by
  refine wpAny_bind (wpAny_load ho ?_)
  rw [hc,hd]
  show wpAny _ _ (if (ownedIters.contains n && vs[0]? == some (rawInt a))=true then _ else _) _ _ s
  rw [hn,Bool.false_and,if_neg Bool.false_ne_true]
  exact wpAny_pure h
 unfold letOwnedTupleGo
 cases target <;> first | exact wpAny_pure h | skip
 all_goals
  cases v <;> first | exact wpAny_pure h | exact main _ rfl
section
variable {C:Cx} {F:Frm} {H H':Hd} {V:Vs} {p q:Option Int} {s s':Shared} {ps:List An} {r:Except Exn (PV × Option Int)} {E:Value → Shared → Prop} {X:XF} {N:Nat}
theorem Ok.drop (O:Ok C F H V p s) (h1:∀ x v,H'.vs x v → H.vs x v) (h2:∀ b o,H'.gd b o → H.gd b o) (h3:∀ a,H'.io a → H.io a):Ok C F H' V p s :=
 {O with hold:=fun x v h=>O.hold x v (h1 x v h),gd:=fun b o h=>O.gd b o (h2 b o h),io:=fun a h=>O.io a (h3 a h) }
theorem tgt_ok (h:HyS C F X) (O:Ok C F H V p s) {t:Tgt} {x:PV} {v:Value} {K:List SV → RR} {Q:Unit → Shared → Prop} (ok:(toT t (scOf C F) ps).ok=true) (rv:Rep V.ω s.heap x v) (e:tgtK t x V.sv K=some r)
  (kk:∀ V' s',Ok C F H V' p s' → K V'.sv=some r → Q () s'):wpAny (model C.prog C.w) F.A (assign (toT t (scOf C F) ps).x F.env v) Q E s:=by
 cases t with
 | one i=>exact PyProof.Rows.assign_Name (store_ok h O (has_name ok) e ⟨v,rfl,rv⟩ fun V' s' O' e' _=>kk V' s' O' e')
 | many l =>
  obtain ⟨xs,hx,e⟩:=opK_some e
  obtain rfl:=asTup_some hx
  exact unpack_ok h O ok rv e kk
noncomputable def loopHd (H:Hd) (I:Addr) (fp:List Addr) (P:Nat → Value → Prop) (xs:List PV) (h:Heap):Hd :=
 ⟨fun x v=>(∃ i:Nat,P i v ∧ xs[i]?=some x) ∨ H.vs x v,fun b o=>(b ∈ fp ∧ b ≠ I ∧ h.get? b=some o) ∨ H.gd b o,fun a=>a=I ∨ H.io a⟩
noncomputable def turnHd (H:Hd) (I:Addr) (o:Obj):Hd:=⟨H.vs,fun b o'=>(b=I ∧ o'=o) ∨ H.gd b o',H.io⟩
theorem loop_in (h:HyS C F X) (O:Ok C F H V p s) {I:Addr} {fp:List Addr} {P:Nat → Value → Prop} {St:Nat → Heap → Prop} {xs:List PV} {h':Heap} {t':Nat} (hI:Items C.prog C.w V.ω s.heap xs I fp P St h'):∃ V',V'.sv=V.sv ∧ Ok C F (loopHd H I fp P xs h') V' p { s with heap:=h',toks:=t' }:=by
 have hI':∃ o,h'.get? I=some o:=let ⟨o,_,_,ho,_⟩:=hI.go 0 h' hI.st; ⟨o,ho⟩
 have O1:=O.mark (k:=1) (t':=t') hI.new nofun hI' hI.keep
 refine ⟨⟨V.m,V.sv,upd V.ω I 1⟩,rfl,{ O1 with hold:=fun x v hq=>?_,gd:=fun b o hq=>?_,io:=fun a ha=>?_ }⟩
 ·rcases hq with ⟨i,hP,hx⟩ | hq
  ·obtain ⟨x',hx',rx⟩:=hI.val i v hP
   rw [hx] at hx'; cases hx'
   exact rx.keep (upd_frz hI.new hI.keep)
  ·exact O1.hold x v hq
 ·rcases hq with ⟨hb,ne,ho⟩ | hq
  ·rcases hI.fpM b hb with q | ⟨z,o',_⟩
   ·exact absurd q ne
   ·have m:=O.mine (a:=b) (by rw [z]; nofun)
    exact ⟨by show upd V.ω I 1 b ≤ 1; rw [upd_ne ne,z]; exact Nat.zero_le _,m.1,m.2,fun q=>(by rw [q,O.out _ h.lk.lout] at z; cases z),ho⟩
  ·exact O1.gd b o hq
 ·rcases ha with q | q
  ·rw [q]; exact upd_at
  ·exact O1.io a q
theorem loop_ok (h:HyS C F X) {t:Tgt} {b:CSs} (hb:SuOk C F X N b) (O:Ok C F H V p s) {ps':List An} {I:Addr} {fp:List Addr} {P:Nat → Value → Prop} {St:Nat → Heap → Prop} {xs:List PV} {h':Heap} {t':Nat} (hI:Items C.prog C.w V.ω s.heap xs I fp P St h')
  (ot:(toT t (scOf C F) ps).ok=true) (ob:(toSs b (scOf C F) ps').ok=true) (er:ErS C F r E) (pe:PassesOwn (model C.prog C.w) F.A F.env E) {n kb kc:KS} {Q:Flow → Shared → Prop} (e:forK t (kSs F.Φ X N b) xs n V.sv p=some r) (k:Nx C F H r n kb kc Q) :
  codeAny (model C.prog C.w) F.A (.forLoop (toT t (scOf C F) ps).x (.ref I) (toSs b (scOf C F) ps').x [] F.env) (fun r s'=>match r with | .ok f=>Q f s' | .error e=>cameBackBy (model C.prog C.w) F.A F.env E e s') { s with heap:=h',toks:=t' }:=by
 obtain ⟨n0,n1,n2,n3,n4⟩:=O.news hI.new
 obtain ⟨V0,e0,O1⟩:=loop_in (t':=t') h O hI
 have W:=hI.walks F.A O.fix.handled
 have leave:∀ V q s4,Ok C F (loopHd H I fp P xs h') V q s4 → Ok C F H V q s4:=fun V q s4 O=>O.drop (fun _ _ h=>.inr h) (fun _ _ h=>.inr h) fun _ h=>.inr h
 have gI:∀ b o,(loopHd H I fp P xs h').gd b o → b ≠ I:=fun b o hg=>Or.elim hg (fun z=>z.2.1) fun z=>ne_there hI.new (O.gd b o z).2.2.2.2
 have wr:∀ V1 q1 s1 i h2,Ok C F (loopHd H I fp P xs h') V1 q1 s1 → St i h2 → (∀ b o,b ∉ [I] → s1.heap.get? b=some o → h2.get? b=some o) → Wr C F (loopHd H I fp P xs h') V1 s1 I V1.sv.length V1.ω h2:=fun V1 q1 s1 i h2 O2 st hk =>
  have hm:=O2.io I (.inl rfl)
  ⟨fun b o ne=>hk b o (fun q=>ne (List.mem_singleton.mp q)),fun _ _=>(by rw [hm]; nofun),n1,n2,fun q=>absurd q n3,fun _=>let ⟨o,_,_,ho,_⟩:=hI.go i h2 st; ⟨o,ho⟩,fun _=>.inl rfl,fun j _ e=>(by rw [hm] at e; omega),gI⟩
 rw [← e0] at e
 refine codeAny_forLoop_any (fun j s1=>∃ i V1 p1,i ≤ xs.length ∧ j=xs.length - i ∧ Ok C F (loopHd H I fp P xs h') V1 p1 s1 ∧ St i s1.heap ∧ forK t (kSs F.Φ X N b) (xs.drop i) n V1.sv p1=some r) ?_ (xs.length - 0) ⟨0,V0,p,Nat.zero_le _,rfl,O1,hI.st,e⟩
 rintro j s1 ⟨i,V1,p1,hi,rfl,O2,st,e⟩
 by_cases hlt:i < xs.length
 ·refine W.item i s1 _ _ hlt st fun v h2 tk2 hP st2 hk=>?_
  obtain ⟨o,nm,vs,ho,hc,hd,hn⟩:=hI.go (i + 1) h2 st2
  have O3:=(wr V1 p1 s1 (i + 1) h2 O2 st2 hk).plain (t':=tk2) O2 n4
  have hm:=O3.io I (.inl rfl)
  have O4:Ok C F (turnHd (loopHd H I fp P xs h') I o) V1 p1 { s1 with heap:=h2,toks:=tk2 }:={ O3 with gd:=fun b o' hg=>Or.elim hg (fun z=>by rw [z.1,z.2]; exact ⟨Nat.le_of_eq hm,by rw [h.lk.fs]; exact n3,n2,n4,ho⟩) (O3.gd b o') }
  rw [List.drop_eq_getElem_cons hlt] at e
  have rv:=O3.hold xs[i] v (.inl ⟨i,hP,List.getElem?_eq_getElem hlt⟩)
  refine wpAny_passesOwn pe (go_plain ho hc hd hn (wpAny_passesOwn pe (tgt_ok h O4 ot rv e fun V3 s3 O5 e3=>wpAny_passesOwn pe (hb _ V3 p1 s3 ps' _ _ _ r _ E O5 ob er pe e3 ?_))))
  have again:∀ V' q' s4,Ok C F (turnHd (loopHd H I fp P xs h') I o) V' q' s4 → forK t (kSs F.Φ X N b) (xs.drop (i + 1)) n V'.sv q'=some r → ∃ m,m < xs.length - i ∧ ∃ i V1 p1,i ≤ xs.length ∧ m=xs.length - i ∧ Ok C F (loopHd H I fp P xs h') V1 p1 s4 ∧ St i s4.heap ∧ forK t (kSs F.Φ X N b) (xs.drop i) n V1.sv p1=some r:=fun V' q' s4 O6 e6 =>
   ⟨xs.length - (i + 1),by omega,i + 1,V',q',hlt,rfl,O6.drop (fun _ _ h=>h) (fun _ _ h=>.inr h) fun _ h=>h,W.frame (i + 1) h2 s4.heap st2 fun b hb o' eb=>by
    by_cases q:b=I
    ·rw [q,ho] at eb; cases eb
     rw [q]; exact (O6.gd I o (.inl ⟨rfl,rfl⟩)).2.2.2.2
    ·rcases hI.fpM b hb with z | ⟨_,o2,e2⟩
     ·exact absurd z q
     ·have g:(loopHd H I fp P xs h').gd b o2:=.inl ⟨hb,q,hI.keep b o2 e2⟩
      have:=(O3.gd b o2 g).2.2.2.2
      rw [show h2.get? b=some o2 from this] at eb; cases eb
      exact (O6.gd b o' (.inr g)).2.2.2.2,e6⟩
  exact ⟨again,fun V' q' s4 O6 e6=>k.nx V' q' s4 (leave V' q' s4 (O6.drop (fun _ _ h=>h) (fun _ _ h=>.inr h) fun _ h=>h)) e6,again,fun z v V' q' s4 O6 r6 e6=>k.rt z v V' q' s4 (leave V' q' s4 (O6.drop (fun _ _ h=>h) (fun _ _ h=>.inr h) fun _ h=>h)) r6 e6⟩
 ·obtain rfl:i=xs.length:=Nat.le_antisymm hi (Nat.not_lt.mp hlt)
  rw [List.drop_length] at e
  refine W.done s1 _ _ st fun h2 tk2 hk=>?_
  have O3:=leave V1 p1 s1 O2
  have hm:=O2.io I (.inl rfl)
  have no:¬ F.out I ∧ ¬ H.io I:=⟨fun z=>(by rw [O.out I z] at n0; cases n0),fun z=>(by rw [O.io I z] at n0; cases n0)⟩
  have W2:Wr C F H V1 s1 I V1.sv.length (upd V1.ω I 0) h2:=⟨fun b o ne=>hk b o (fun q=>ne (List.mem_singleton.mp q)),fun _ _=>(by rw [hm]; nofun),n1,n2,fun q=>absurd q n3,fun z=>absurd upd_at z,fun b=>by
   by_cases q:b=I
   ·rw [q]; exact .inr (.inr ⟨upd_at,.inr ⟨rfl,no⟩⟩)
   ·exact .inl (upd_ne q),fun j _ e=>(by rw [hm] at e; omega),fun b o hg=>gI b o (.inr hg)⟩
  exact wpAny_execs_nil (k.nx _ p1 _ (W2.plain (t':=tk2) O3 n4) e)
theorem st_loop (h:HyS C F X) {t:Tgt} {rng:Bool} {src:CE} {b:CSs} (hb:SuOk C F X N b):StOk C F X N (.loop t rng src b):=by
 intro H V p s ps n kb kc r Q E O ok er pe e k
 have n1:=and_l ok
 have n2:=and_r ok
 have n3:=and_r n2
 refine wpAny_For ?_ fun x=>fold_no rng src _ _ (an (toT t (scOf C F) (ps.drop 1)).r 1).p (an (toT t (scOf C F) (ps.drop 1)).r 0).p _ x
 refine src_ok (rng:=rng) (a:=(an (toT t (scOf C F) (ps.drop 1)).r 1).p) (b:=(an (toT t (scOf C F) (ps.drop 1)).r 0).p) (K:=fun xs p=>forK t (kSs F.Φ X N b) xs n V.sv p) (evOk src) h.hy O (by cases rng <;> exact n1) (and_l n3) er.1 e fun xs I fp P St h' tk q s' O' hI hz e'=>?_
 exact loop_ok h hb O' hI (and_l n2) (and_r n3) er pe e' k
theorem sAll (h:HyS C F X):(∀ c,StOk C F X N c) ∧ ∀ c,SuOk C F X N c:=by
 have c1:=fun i e=>st_assign (C:=C) (N:=N) h (i:=i) (e:=e)
 have c2:=fun l e=>st_unpack (C:=C) (N:=N) h (l:=l) (e:=e)
 have c3:=fun l e=>st_unpackLit (C:=C) (N:=N) h (l:=l) (es:=e)
 have c4:=fun i e=>st_aug (C:=C) (N:=N) h (i:=i) (e:=e)
 have c5:=fun i e=>st_ownNew (C:=C) (N:=N) h (i:=i) (e:=e)
 have c6:=fun o i r e s c=>st_compTo (C:=C) (N:=N) h (own:=o) (rng:=r) (i:=i) (elt:=e) (src:=s) (cond:=c)
 have c7:=fun i=>st_ownDict (C:=C) (N:=N) h (i:=i)
 have c8:=fun i e=>st_append (C:=C) (N:=N) h (i:=i) (e:=e)
 have c9:=fun i x e=>st_setItem (C:=C) (N:=N) h (i:=i) (x:=x) (e:=e)
 have c10:=fun i x e=>st_dset (C:=C) (N:=N) h (i:=i) (x:=x) (e:=e)
 have c11:=fun i=>st_reverse (C:=C) (N:=N) h (i:=i)
 have c12:=fun i e=>st_penSet (C:=C) (N:=N) h (i:=i) (e:=e)
 have c13:=fun e=>st_eff (C:=C) (N:=N) h (e:=e)
 have c14:=fun c a b (ha:SuOk C F X N a) (hb:SuOk C F X N b)=>st_ite h (c:=c) ha hb
 have c15:=fun c b (hb:SuOk C F X N b)=>st_whil h (c:=c) hb
 have c16:=fun t r s b (hb:SuOk C F X N b)=>st_loop h (t:=t) (rng:=r) (src:=s) hb
 have c17:=fun e=>st_retn (C:=C) (N:=N) h (e:=e)
 have c18:=fun f l=>st_raise (C:=C) (N:=N) h (f:=f) (l:=l)
 have c19:=fun c l (hc:StOk C F X N c) (hl:SuOk C F X N l)=>su_cons hc hl
 have c20:=fun i l (hl:SuOk C F X N l)=>su_frz h (i:=i) hl
 exact ⟨fun c=>CS.rec (motive_1:=StOk C F X N) (motive_2:=SuOk C F X N) c1 c2 c3 c4 c5 c6 c7 c8 c9 c10 c11 c12 c13 c14 c15 c16 c17 st_brk st_cont c18 su_nil c19 c20 c,
  fun c=>CSs.rec (motive_1:=StOk C F X N) (motive_2:=SuOk C F X N) c1 c2 c3 c4 c5 c6 c7 c8 c9 c10 c11 c12 c13 c14 c15 c16 c17 st_brk st_cont c18 su_nil c19 c20 c⟩
end
end
noncomputable section
noncomputable def RaisesOk (C:Cx):Prop:=∀ (A:Around) envs env x e pa (b s:Shared) (E:Value → Shared → Prop) (Q:Flow → Shared → Prop),A.handled=none → C.h₀.StaysIn s.heap → Mde C envs pa b x e s → E (.ref e) s → wpAny (model C.prog C.w) A (raiseStmt env (some (pure (.ref e))) none) Q E s
noncomputable def LeavesOk (C:Cx):Prop:=∀ (A:Around) (env:Env) (outer:List Env) (pa:Option Addr) (b s:Shared) (x:Exn) (e L:Addr) (Q:Unit → Shared → Prop) (E:Value → Shared → Prop),A.frames=some (env::outer) → env.frame=some L → b.heap.get? L=none →
 (Fly C (env::outer) pa b x e s ∨ Mde C (env::outer) pa b x e s) → (∀ s',Fly C outer pa b x e s' → Q () s') → wpAny (model C.prog C.w) A (leaving env (.ref e)) Q E s
structure FnD (C:Cx) (f:Nat) (fd:FuncData) (body:List Stmt) (names:List Str) (np:Nat):Prop where
 obj:∃ a o,C.fns[f]?.map (·.2)=some a ∧ C.K.lookup a=some o ∧ o.data=.func fd
 code:codeIn C.K fd.code fd.qualname=true
 body:fd.body=.stmts body
 glob:fd.globals=mainGlobals
 bi:fd.builtins=builtinsNs
 kind:fd.scope.kind=.function
 co:fd.scope.isCoroutine=false
 gen:fd.scope.isGenerator=false
 cell:∀ x ∈ fd.scope.names,x.2 ≠ .cell
 loc:∀ x ∈ names,fd.scope.names.lookup x=some .local ∧ (x == ("__debug__":Str))=false
 nodup:names.Nodup
 few:np ≤ names.length
 binds:∀ vs:List Value,vs.length=np → ∀ s:Shared,C.K.In s.heap → BindsTo s fd ⟨vs,[]⟩ ((names.take np).zip vs)
noncomputable def scD (C:Cx) (fd:FuncData) (names:List Str):Sc:=⟨fun n=>fd.scope.names.lookup n,names,C.fn⟩
theorem lookup_zip {n:Str} {v:Value} {names:List Str}:∀ {vs:List Value} {i:Nat},names.Nodup → names[i]?=some n → vs[i]?=some v → (names.zip vs).reverse.lookup n=some v:=by
 induction names with
 | nil=>intro vs i _ h; cases h
 | cons a l ih =>
  intro vs i nd h1 h2
  obtain ⟨na,nd⟩:=List.nodup_cons.mp nd
  cases vs with
  | nil=>cases h2
  | cons b ws =>
   rw [List.zip_cons_cons,List.reverse_cons,List.lookup_append]
   cases i with
   | zero =>
    cases h1; cases h2
    have:((l.zip ws).reverse).lookup n=none:=List.lookup_eq_none_iff.mpr fun p hp=>by
     have:=(List.of_mem_zip (show (p.1,p.2) ∈ l.zip ws from List.mem_reverse.mp hp)).1
     exact bne_iff_ne.mpr fun (q:n=p.1)=>na (q ▸ this)
    rw [this]
    show (match n == n with | true=>some v | false=>_)=_
    rw [beq_self_eq_true]
   | succ i=>rw [ih nd h1 h2]; rfl
section
variable {C:Cx} {F:Frm} {H:Hd} {V:Vs} {p q:Option Int} {s s':Shared}
theorem args_len {ω:Addr → Nat} {pa:Option Addr} {h:Heap} {xs:List SV}:∀ {vs:List Value},ArgsRep ω pa h xs vs → vs.length=xs.length:=by
 induction xs with
 | nil=>intro vs r; exact congrArg List.length r
 | cons y xs ih=>intro vs r; obtain ⟨v,ws,rfl,_,r⟩:=r; exact congrArg (· + 1) (ih r)
theorem args_at {ω:Addr → Nat} {pa:Option Addr} {h:Heap} {x:SV} {xs:List SV}:∀ {vs:List Value} {i:Nat},ArgsRep ω pa h xs vs → xs[i]?=some x → ∃ v,vs[i]?=some v ∧ ArgRep ω pa h x v:=by
 induction xs with
 | nil=>intro vs i _ e; cases e
 | cons y xs ih =>
  intro vs i r e
  obtain ⟨v,ws,rfl,a,r'⟩:=r
  cases i with
  | zero=>cases e; exact ⟨v,rfl,a⟩
  | succ i=>exact ih (i:=i) r' e
theorem slot_arg {ω:Addr → Nat} {pa:Option Addr} {h:Heap} {x:SV} {v:Value} {i:Nat} (r:ArgRep ω pa h x v):SlotOk ω i pa h (some v) x:=by
 cases x with
 | val=>exact ⟨v,rfl,r⟩
 | dval=>exact ⟨v,rfl,r⟩
 | pen=>exact ⟨v,rfl,r⟩
 | _=>exact r.elim
noncomputable def calF (F:Frm) (V:Vs) (s:Shared) (env:Env) (L:Addr) (pa:Option Addr) (names:List Str) (Φ:Fn) (d:Nat):Frm :=
 {A:=F.A.deeper env,envs:=env::F.envs,fs:=fsOf (env::F.envs),pa:=pa,env:=env,names:=names,Φ:=Φ,d:=d,b:=s,out:=fun a=>V.ω a ≠ 0 ∨ a=L }
noncomputable def noHd:Hd:=⟨fun _ _=>False,fun _ _=>False,fun _=>False⟩
theorem fly_pen {envs:List Env} {pa pb:Option Addr} (hpa:∀ b,pa=some b → pb=some b) {b:Shared} {x:Exn} {e:Addr} (f:Fly C envs pa b x e s'):Fly C envs pb b x e s' :=
 let ⟨B,d,a0,o,b1,r⟩:=f.way
 ⟨f.st,⟨fun c o e n np=>f.ext.keep c o e n fun z=>np (hpa c z),f.ext.frm⟩,B,d,a0,o,⟨b1.1,fun c o e n np=>b1.2 c o e n fun z=>np (hpa c z)⟩,r⟩
theorem fn_enter {f:Nat} {fd:FuncData} {body:List Stmt} {names:List Str} {np d d':Nat} {Φ:Fn} {X:XF} (hok:C.Ok) (tree:(model C.prog C.w).prog.given.tree=none) (D:FnD C f fd body names np)
  (hΦ:∀ g args p r,Φ g args p=some r → CallAt C d' g args p r) (hX:∀ g vs x,X g vs=some x → InstAt C d' g vs x) (hR:RaisesOk C) (hlt:d' + 1 ≤ d)
  {args:List SV} {pa:Option Addr} {vs:List Value} {R:Result → Shared → Prop} {a:Addr} (O:Ok C F H V q s) (hfs:F.fs=fsOf F.envs) (Rm:Room F.A d) (hfa:C.fns[f]?.map (·.2)=some a) (ha:ArgsRep V.ω pa s.heap args vs) (hlen:args.length=np) (hpa:∀ b,pa=some b → F.pa=some b) (hp:PenIs s.heap pa p)
  (k:∀ (env:Env) (L:Addr) (V':Vs) (s1:Shared),env.frame=some L → env.locals=L → s.heap.get? L=none → (fun n=>env.kindOf n)=(fun n=>fd.scope.names.lookup n) → V'.sv=pad args (names.length - np) → HyS C (calF F V s env L pa names Φ d') X → Ok C (calF F V s env L pa names Φ d') noHd V' p s1 →
   wpAny (model C.prog C.w) (F.A.deeper env) (execs body env) (fun fl s'=>R (.ok (.ret (match fl with | .ret v=>v | _=>.none))) s')
    (fun e s'=>wpAny (model C.prog C.w) (F.A.deeper env) (leaving env e) (fun _ s''=>R (.error e) s'') (fun e' s''=>R (.error e') s'') s') s1) :
  codeAny (model C.prog C.w) F.A (.call (.ref a) ⟨vs,[]⟩) R s:=by
 obtain ⟨a',o,hfa',ho,hdata⟩:=D.obj
 rw [hfa] at hfa'; cases hfa'
 have base:=O.base
 have hvl:vs.length=np:=(args_len ha).trans hlen
 have hbl:∀ x ∈ (names.take np).zip vs,x.1 ∈ names:=fun x hx=>List.mem_of_mem_take (List.of_mem_zip (show (x.1,x.2) ∈ _ from hx)).1
 refine codeAny_call_def (fd:=fd) (body:=body) (binds:=(names.take np).zip vs) (by have:=Rm.depth; omega) (base _ _ (hok.X _ _ ho)) hdata (hok.T.nolimit.keeps base) (codeRec_of (hok.X.keeps base) D.code) D.body (D.binds vs hvl s (hok.X.keeps base)) D.cell (fun x hx=>(D.loc _ (hbl x hx)).1) (fun h₁ hns hk₁=>?_) D.co D.gen D.kind
 generalize hLd:s.heap.objs.size=L at hns ⊢
 have hLn:s.heap.get? L=none:=by rw [← hLd]; exact none_at _
 obtain ⟨n0,n1,n2,n3,n4⟩:=O.news hLn
 have h0L:C.h₀.get? L=none:=by
  cases e:C.h₀.get? L with
  | none=>rfl
  | some o=>rw [base L o e] at hLn; cases hLn
 have wL:∀ b,V.ω b ≠ 0 → upd (dull V.ω) L 1 b=1:=fun b hb=>by
  by_cases z:b=L
  ·rw [z]; exact upd_at
  ·exact (upd_ne z).trans (dull_1 hb)
 have w1:∀ b,upd (dull V.ω) L 1 b ≠ 0 → V.ω b ≠ 0 ∨ b=L:=fun b hb=>by
  by_cases z:b=L
  ·exact .inr z
  ·rw [upd_ne z] at hb; exact .inl (dull_0.mp hb)
 have fz:Frz V.ω (upd (dull V.ω) L 1) s.heap h₁:=fun b o z e=>⟨(upd_ne (ne_there hLn e)).trans (if_pos z),hk₁ b o e⟩
 refine k (callEnv fd L a) L ⟨fun x=>((names.take np).zip vs).reverse.lookup x,pad args (names.length - np),upd (dull V.ω) L 1⟩ _ rfl rfl hLn rfl rfl
  ⟨⟨hok,⟨by have:=Rm.depth; show F.A.depth + 1 + 120 + d' < _; omega,by have:=Rm.units; show F.A.units + 3 + 3 * d' + 100 < _; omega⟩,fun g args p r e=>⟨rfl,hΦ g args p r e⟩⟩,⟨rfl,.inr rfl,hLn,D.nodup⟩,hX,fun env' x e s E Q b m hE=>hR _ _ env' x e _ _ s E Q O.fix.handled b m hE⟩ ?_
 exact
  {fix :=
    {frames:=Around.frames_deeper O.fix.frames,handled:=O.fix.handled,guards:=O.fix.guards
     seer:=fun h' hN=>SeerAt.of hN tree (Around.frames_deeper O.fix.frames) D.gen D.co D.bi D.glob
     kind:=D.kind,glob:=D.glob,bi:=D.bi,loc:=fun x hx=>D.loc x hx
     fso:=fun b hb=>Or.elim (List.mem_cons.mp (show b ∈ L::fsOf F.envs from hb)) .inr fun z=>.inl (by rw [O.out b (O.fix.fso b z)]; nofun)
     fss:=fun _ h=>h
     pn:=fun b hb=>have hb:=hpa b hb; have z:=O.fix.pn b hb; ⟨.inl (by rw [O.out b z.1]; nofun),fun y=>Or.elim (List.mem_cons.mp (show b ∈ L::fsOf F.envs from y)) (fun e=>n2 (e ▸ hb)) z.2⟩
     pl:=fun e=>n2 (hpa L e) }
   st:=⟨_,_,rfl⟩
   base:=fun b o e=>hk₁ b o (base b o e)
   ff:=Heap.FunFrames.cons (by show fd.scope.kind ≠ _; rw [D.kind]; decide) rfl hns h0L (Heap.FunFrames.of_keeps (fun b o e _=>⟨o,hk₁ b o e,rfl⟩) O.ff)
   ns:=hns
   slots:=fun i n v e1 e2=>by
    by_cases hi:i < np
    ·have e2:(args ++ List.replicate (names.length - np) SV.unb)[i]?=some v:=e2
     rw [List.getElem?_append_left (by rw [hlen]; exact hi)] at e2
     obtain ⟨u,e3,e4⟩:=args_at ha e2
     show SlotOk _ _ _ _ (((names.take np).zip vs).reverse.lookup n) v
     rw [lookup_zip (D.nodup.sublist (List.take_sublist _ _)) (by rw [List.getElem?_take_of_lt hi]; exact e1) e3]
     exact slot_arg (e4.keep fz)
    ·have e2:(args ++ List.replicate (names.length - np) SV.unb)[i]?=some v:=e2
     rw [List.getElem?_append_right (by rw [hlen]; omega)] at e2
     rw [List.eq_of_mem_replicate (List.mem_of_getElem? e2)]
     trivial
   pen:=hp.keep fun b o _ e=>hk₁ b o e
   ent:=.of_keeps hk₁
   lt:=fun b hb=>(w1 b hb).elim (fun z=>let ⟨o,e⟩:=O.lt b z; ⟨o,hk₁ b o e⟩) fun z=>z ▸ ns_there hns
   out:=fun b hb=>Or.elim hb (wL b) fun z=>by rw [z]; exact upd_at
   new:=fun b hb=>by
    by_cases z:b=L
    ·have hb:2 ≤ upd (dull V.ω) L 1 b:=hb
     rw [z,upd_at] at hb; exact absurd hb (by decide)
    ·have hb:2 ≤ upd (dull V.ω) L 1 b:=hb
     rw [upd_ne z] at hb; exact absurd (Nat.le_trans hb dull_le) (by decide)
   nb:=fun b hb=>(w1 b hb).elim (O.nb b) fun z=>z ▸ h0L
   hold:=fun _ _ h=>h.elim
   gd:=fun _ _ h=>h.elim
   io:=fun _ h=>h.elim }
theorem fn_back (O:Ok C F H V q s) (hfs:F.fs=fsOf F.envs) {env:Env} {L:Addr} {pa:Option Addr} {names:List Str} {Φ:Fn} {d:Nat} {H':Hd} {V':Vs} {q':Option Int} (hf:env.frame=some L) (hLn:s.heap.get? L=none) (hpa:∀ b,pa=some b → F.pa=some b)
  (O':Ok C (calF F V s env L pa names Φ d) H' V' q' s') (hp:PenIs s'.heap F.pa p):Ok C F H V p s' ∧ ∀ z v,Rep V'.ω s'.heap z v → Rep V.ω s'.heap z v:=by
 have fsE:fsOf (env::F.envs)=L::fsOf F.envs:=List.filterMap_cons_some hf
 have x:=O'.ent
 refine ⟨O.after O'.st ⟨fun b o e n np=>x.keep b o e (fun z=>?_) fun z=>np (hpa b z),fun b o e hb=>x.frm b o e ?_⟩ hp,fun z v r=>r.keep fun b o z e=>⟨Classical.byContradiction fun n=>(by rw [O'.out b (.inl n)] at z; cases z),e⟩⟩
 ·rcases List.mem_cons.mp (fsE ▸ z:b ∈ L::fsOf F.envs) with z | z
  ·exact ne_there hLn e z
  ·exact n (hfs ▸ z)
 ·show b ∈ fsOf (env::F.envs)
  rw [fsE,← hfs]; exact .tail _ hb
theorem fn_ok {f:Nat} {fd:FuncData} {body:List Stmt} {names:List Str} {np d d' N:Nat} {code:CSs} {Φ:Fn} {X:XF} {ps:List An} (hok:C.Ok) (tree:(model C.prog C.w).prog.given.tree=none) (D:FnD C f fd body names np) (hb:(toSs code (scD C fd names) ps).x=body) (ho:(toSs code (scD C fd names) ps).ok=true)
  (hΦ:∀ g args p r,Φ g args p=some r → CallAt C d' g args p r) (hX:∀ g vs x,X g vs=some x → InstAt C d' g vs x) (hR:RaisesOk C) (hL:LeavesOk C) (hlt:d' + 1 ≤ d)
  {args:List SV} {p:Option Int} {r:Except Exn (PV × Option Int)} (e:entK Φ X N (.code np names code) args p=some r):CallAt C d f args p r:=by
 obtain ⟨hlen,e⟩:=gK_some e
 intro F H V q s vs a R O hfs Rm hfa ha hp hQ hE
 have hpa:∀ b,(p.elim none fun _=>F.pa)=some b → F.pa=some b:=fun b h=>by cases p with | none=>cases h | some n=>exact h
 have hpen:PenIs s.heap (p.elim none fun _=>F.pa) p:=by
  cases p with
  | none=>rfl
  | some n=>have:=O.pen; rw [hp n rfl] at this; exact this
 refine fn_enter (p:=p) hok tree D hΦ hX hR hlt O hfs Rm hfa ha hlen hpa hpen fun env L V' s1 hf hl hLn hk hsv h O'=>?_
 have hsc:scOf C (calF F V s env L (p.elim none fun _=>F.pa) names Φ d')=scD C fd names:=by
  show Sc.mk (fun n=>env.kindOf n) names C.fn=_
  rw [hk]; rfl
 rw [← hb,← hsc]
 have back:∀ V2 q2 s2,Ok C (calF F V s env L (p.elim none fun _=>F.pa) names Φ d') noHd V2 q2 s2 → Ok C F H V (p.elim q fun _=>q2) s2 ∧ ∀ z v,Rep V2.ω s2.heap z v → Rep V.ω s2.heap z v:=fun V2 q2 s2 O2=>by
  refine fn_back O hfs hf hLn hpa O2 ?_
  cases p with
  | none=>exact O.pen.keep fun b o eb e=>O2.ent.keep b o e (fun z=>by
    rcases List.mem_cons.mp ((List.filterMap_cons_some hf:fsOf (env::F.envs)=L::fsOf F.envs) ▸ z:b ∈ L::fsOf F.envs) with z | z
    ·exact ne_there hLn e z
    ·exact (O.fix.pn b eb).2 z) nofun
  | some n=>exact O2.pen
 refine (sAll (N:=N) h).2 code noHd V' p s1 ps _ _ _ r _ _ O' (by rw [hsc]; exact ho) ⟨fun x ex ea s2 w _=>?_,fun x ex ea s2 w=>?_⟩ PassesOwn.leaving (by rw [hsv]; exact e) ⟨fun V2 q2 s2 O2 e2=>?_,fun _ _ _ _ e2=>(by cases e2),fun _ _ _ _ e2=>(by cases e2),fun z v V2 q2 s2 O2 r2 e2=>?_⟩
 ·exact hL _ env F.envs _ s s2 x ea L _ _ (Around.frames_deeper O.fix.frames) hf hLn (.inl w) fun s3 F3=>hE x ex ea s3 (fly_pen hpa F3)
 ·exact hL _ env F.envs _ s s2 x ea L _ _ (Around.frames_deeper O.fix.frames) hf hLn (.inr w) fun s3 F3=>hE x ex ea s3 (fly_pen hpa F3)
 ·obtain ⟨O3,_⟩:=back V2 q2 s2 O2
  cases e2
  exact hQ .none q2 rfl .none s2 O3 rfl
 ·obtain ⟨O3,rp⟩:=back V2 q2 s2 O2
  exact hQ z q2 e2 v s2 O3 (rp z v r2)
end
end
noncomputable section
section
variable {M:Model} {A:Around} {E:Value → Shared → Prop} {s:Shared}
theorem dict_mapFields (o:Obj) (f):(o.mapFields f).dict=o.dict:=by obtain ⟨c,d,dt,sl⟩:=o; cases dt <;> rfl
theorem entry_dict {base:Heap} {env:Env} {outer:List Env} {L e:Addr} {oe:Obj} {vs:Array Value} {head:Value} {hadNext:Bool}
  (hfr:A.frames=some (env::outer)) (hl:s.heap.FunFrames base (env::outer)) (hf:env.frame=some L)
  (he:s.heap.get? e=some oe) (hd:oe.data=.fields vs) (hsz:1 < vs.size) {Q:Unit → Shared → Prop}
  (h:∀ h' T oT ts,T ≠ e → h'.get? e=some (oe.mapFields (·.setIfInBounds 1 (.ref T))) → h'.get? T=some oT → oT.data=.fields ts → 3 < ts.size → Q () { s with heap:=h' }) :
  wpAny M A (do let a ← frameOf env; let pl ← entryPlaceOf L hadNext; let b ← EntryCells.newEntry head a .none (rawInt L) .none pl; setField (.ref e) 1 b) Q E s:=by
 have hene:e ∉ (env::outer).filterMap (·.frame):=fun hm=>by
  obtain ⟨_,o,ho,hnf⟩:=hl.mem hm
  rw [he] at ho; injection ho with ho; subst ho; exact hnf vs hd
 refine wpAny_bind (wpAny_frameOf_fun hfr hl hf fun h₁ hs₁=>?_)
 refine wpAny_bind (wpAny_entryPlaceOf fun pl hpl=>?_)
 unfold EntryCells.newEntry newFields
 refine wpAny_bind (wpAny_newObj_type ?_ (hpl.sizeOk5 _ _ _ _ _))
 have he₁:h₁.get? e=some oe:=(hs₁.2.1 e hene).trans he
 have he₂:=Heap.get?_push_of_some (h:=h₁) { cls:=.type "traceback",dict:=none,data:=.fields ([head,.ref L,.none,rawInt L,.none] ++ (if pl.isEmpty then List.replicate 6 Value.none else pl)).toArray } he₁
 have hTe:h₁.objs.size ≠ e:=Nat.ne_of_gt (Heap.lt_size he₁)
 have hd₃:=Obj.data_mapFields hd (·.setIfInBounds 1 (Value.ref h₁.objs.size))
 exact wpAny_setField he₂ hd hsz (h _ h₁.objs.size _ _ hTe (Heap.get?_update_self (Obj.mapFields (·.setIfInBounds 1 (Value.ref h₁.objs.size))) he₂ (Obj.isFreed_of_fields hd₃))
  ((Heap.get?_update_other _ _ (Ne.symm hTe)).trans (Heap.get?_push_size h₁ rfl)) rfl (by simp only [List.size_toArray,List.length_append,List.length_cons,List.length_nil] <;> omega))
theorem flight_dict {e T:Addr} {oe oT:Obj} {ts:Array Value} {vs:Array Value} {Q:Unit → Shared → Prop} {fr:Option Addr} (hTe:T ≠ e) (he:s.heap.get? e=some oe) (hd:oe.data=.fields vs) (h1:vs[1]?=some (.ref T)) (hT:s.heap.get? T=some oT) (hdT:oT.data=.fields ts) (h3:3 < ts.size)
  (h:∀ h',h'.get? e=some oe → Q () { s with heap:=h' }):wpAny M A (setFlight (.ref e) fr) Q E s:=by
 unfold setFlight
 refine wpAny_bind (wpAny_field he hd h1 ?_)
 rw [if_pos (show (Value.ref T != Value.none)=true from by simp)]
 exact wpAny_setField hT hdT h3 (h _ ((Heap.get?_update_other _ _ hTe).trans he))
theorem leaving_dict {base:Heap} {env:Env} {outer:List Env} {L e:Addr} {oe:Obj} {vs:Array Value}
  (hfr:A.frames=some (env::outer)) (hl:s.heap.FunFrames base (env::outer)) (hf:env.frame=some L)
  (he:s.heap.get? e=some oe) (hd:oe.data=.fields vs) (h1:vs[1]?=some .none ∨ ∃ T oT ts,vs[1]?=some (.ref T) ∧ T ≠ e ∧ s.heap.get? T=some oT ∧ oT.data=.fields ts ∧ ts[3]?=some .none) {Q:Unit → Shared → Prop}
  (h:∀ h' o',h'.get? e=some o' → o'.dict=oe.dict → Q () { s with heap:=h' }) :
  wpAny M A (leaving env (.ref e)) Q E s:=by
 have last:∀ (s:Shared) head hadNext,s.heap.FunFrames base (env::outer) → s.heap.get? e=some oe → 1 < vs.size → (∀ h' o',h'.get? e=some o' → o'.dict=oe.dict → Q () { s with heap:=h' }) →
   wpAny M A (do let a ← frameOf env; let pl ← entryPlaceOf L hadNext; let b ← EntryCells.newEntry head a .none (rawInt L) .none pl; setField (.ref e) 1 b) (fun _ s'=>wpAny M A (setFlight (.ref e) none) Q E s') E s:=fun s head hadNext hl he hsz h=>by
  refine entry_dict hfr hl hf he hd hsz fun h' T oT ts hTe he' hT hdT h3=>?_
  exact flight_dict hTe he' (Obj.data_mapFields hd _) (by simp [hsz]) hT hdT h3 fun h'' he''=>h h'' _ he'' (dict_mapFields _ _)
 unfold leaving noteFrame
 simp only [hf]
 rcases h1 with h1 | ⟨T,oT,ts,h1,hTe,hT,hdT,h3⟩
 ·refine wpAny_bind (wpAny_bind (wpAny_field he hd h1 ?_))
  rw [if_neg (by decide)]
  exact last s _ _ hl he (Array.getElem?_eq_some_iff.mp h1).1 h
 ·refine wpAny_bind (wpAny_bind (wpAny_field he hd h1 ?_))
  rw [if_pos (show (Value.ref T != Value.none)=true from by simp)]
  refine wpAny_bind (wpAny_field hT hdT h3 ?_)
  rw [if_neg (show ¬ ((Value.none == rawInt L)=true) from by simp [rawInt])]
  refine wpAny_bind (wpAny_setField hT hdT (Array.getElem?_eq_some_iff.mp h3).1 ?_)
  have other:∀ b,b ≠ T → (s.heap.update T (Obj.mapFields (·.setIfInBounds 3 Value.none))).get? b=s.heap.get? b:=fun b hb=>Heap.get?_update_other _ _ (Ne.symm hb)
  have noRecord:∀ b o,s.heap.get? b=some o → (∀ vs,o.data ≠ .fields vs) → b ≠ T:=fun b o hb hnf q=>by
   rw [q,hT] at hb; injection hb with hb; subst hb; exact hnf ts hdT
  exact last { s with heap:=_ } _ _ (hl.of_keeps fun b o hb hnf=>⟨o,(other b (noRecord b o hb hnf)).trans hb,rfl⟩) ((other e (Ne.symm hTe)).trans he) (Array.getElem?_eq_some_iff.mp h1).1 h
end
theorem fly_out {C:Cx} {env:Env} {outer:List Env} {pa:Option Addr} {b s s':Shared} {x:Exn} {e L:Addr} {B:Heap} {d:Addr} {a0:Value} {o':Obj} (hf:env.frame=some L) (hLn:b.heap.get? L=none)
  (st:StOf b s') (ext:Ext (fsOf (env::outer)) pa b.heap s.heap) (u:Under C (env::outer) pa b.heap B) (ff:s.heap.FunFrames B (env::outer)) (fl:Heap.FlyingW B outer e (.ref C.exc) a0 s'.heap) (up:s.heap.UpToSlots s'.heap)
  (ex:ExcIs (newIn C b.heap) B d x) (ho:s'.heap.get? e=some o') (hod:o'.dict=some d):Fly C outer pa b x e s':=by
 have fsE:fsOf (env::outer)=L::fsOf outer:=List.filterMap_cons_some hf
 have nm:∀ c o,b.heap.get? c=some o → c ∉ fsOf outer → c ∉ fsOf (env::outer):=fun c o e n q=>by
  rcases List.mem_cons.mp (fsE ▸ q:c ∈ L::fsOf outer) with q | q
  ·exact ne_there hLn e q
  ·exact n q
 refine ⟨st,⟨fun c o e n np=>fl.1 c o (u.2 c o e (nm c o e n) np),fun c o e hb=>?_⟩,B,d,a0,o',⟨u.1,fun c o e n np=>u.2 c o e (nm c o e n) np⟩,fl,ex,ho,hod⟩
 have hb':c ∈ fsOf (env::outer):=by rw [fsE]; exact .tail _ hb
 obtain ⟨sl,e1⟩:=ext.frm c o e hb'
 obtain ⟨_,o2,ho2,hnf⟩:=ff.mem hb'
 rw [e1] at ho2; cases ho2
 obtain ⟨sl',e2⟩:=up c _ e1 hnf
 exact ⟨sl',e2⟩
theorem leavesOk (C:Cx):LeavesOk C:=by
 intro A env outer pa b s x e L Q E hfr hf hLn hmade hQ
 rcases hmade with F | F
 ·obtain ⟨B,d,a0,o,u,fl,ex,ho,hod⟩:=F.way
  have fl':=fl
  obtain ⟨f1,f2,f3,oe,vs,T,oT,ts,he,hcls,hd,h1,hnT,hTe,hT,hdT,h3⟩:=fl'
  rw [ho] at he; cases he
  refine wpAny_mono (any_both (wpAny_leaves_onW (Q:=fun _ s'=>∃ h',s'={ s with heap:=h' } ∧ Heap.FlyingW B outer e (.ref C.exc) a0 h' ∧ s.heap.UpToSlots h') (E:=E) hfr hf fl fun h' x1 x2=>⟨h',rfl,x1,x2⟩)
   (leaving_dict (Q:=fun _ s'=>∃ o',s'.heap.get? e=some o' ∧ o'.dict=o.dict) (E:=E) hfr f3 hf ho hd (.inr ⟨T,oT,ts,h1,hTe,hT,hdT,h3⟩) fun h' o' e1 e2=>⟨o',e1,e2⟩)) (fun _ s' q=>?_) fun _ _ q=>q.1
  obtain ⟨⟨h',rfl,x1,x2⟩,o',e1,e2⟩:=q
  exact hQ _ (fly_out hf hLn (F.st.trans ⟨h',s.toks,rfl⟩) F.ext u f3 x1 x2 ex e1 (e2.trans hod))
 ·obtain ⟨B,d,oe,t,u,b3,hen,ff,ex,he,hcls,hd,hdd⟩:=F.way
  refine wpAny_mono (any_both (wpAny_leaving_firstW (a0:=.ref t) (Q:=fun _ s'=>∃ h',s'={ s with heap:=h' } ∧ Heap.LeftW B (env::outer) e oe.cls (.ref t) s.heap h') (E:=E) hfr ff hf he b3 hen hd rfl rfl fun h' hL=>⟨h',rfl,hL⟩)
   (leaving_dict (Q:=fun _ s'=>∃ o',s'.heap.get? e=some o' ∧ o'.dict=oe.dict) (E:=E) hfr ff hf he hd (.inl rfl) fun h' o' e1 e2=>⟨o',e1,e2⟩)) (fun _ s' q=>?_) fun _ _ q=>q.1
  obtain ⟨⟨h',rfl,k1,⟨_,_,k2⟩,k3,k4⟩,o',e1,e2⟩:=q
  rw [hcls] at k3
  exact hQ _ (fly_out hf hLn (F.st.trans ⟨h',s.toks,rfl⟩) F.ext u ff ⟨k1,hen,k2,k3⟩ k4 ex e1 (e2.trans hdd))
noncomputable def excBm:List Value:=[.type "Exception",.type "BaseException",.type "object"]
noncomputable def excNames:List Str:=["__setattr__","__getattribute__","__getattr__","code","value","errorcode","level","ret","info","is_noted","line","extra"]
structure ExcD (C:Cx) (N fI:Addr):Prop where
 cls:∃ nm q bs sn sub ab col dd k0 k1 k2 k3 k5,C.K.lookup C.exc=some (excClassObj nm q C.exc N bs excBm true sn sub ab col dd k0 k1 k2 k3 k5 "Exception.__new__")
 nsOk:nsOkIn C.K N=true
 none:∀ n ∈ excNames,nsIn C.K N n=some none
 init:nsIn C.K N "__init__"=some (some (.ref fI))
section
variable {M:Model} {A:Around} {E:Value → Shared → Prop} {env:Env}
variable {nm q:Str} {C N:Addr} {bs bm:List Value} {hdct:Bool} {sn:List Str} {sub:List Value} {ab:Bool} {col:Option Bool} {dd:Option Addr} {k0 k1 k2 k3 k5:Option Value} {newId:String}
theorem raise_own {s:Shared} {x:Sem Value} {Q:Flow → Shared → Prop} (hbase:bm.contains (.type "BaseException")=true) (hh:A.handled=none)
  (h:wpAny M A x (fun v s₁=>∃ e t od osl,v=.ref e ∧ s₁.heap.get? C=some (excClassObj nm q C N bs bm hdct sn sub ab col dd k0 k1 k2 k3 k5 newId) ∧
   s₁.heap.get? e=some { cls:=.ref C,dict:=od,data:=.fields #[.ref t,.none,.none,.none,.bool false,.none],slots:=osl } ∧ E (.ref e) s₁) E s) :
  wpAny M A (raiseStmt env (some x) none) Q E s:=by
 have hcB:(Value.ref C::bm).contains (.type "BaseException")=true:=by rw [List.contains_cons,hbase,Bool.or_true]
 unfold raiseStmt
 refine wpAny_bind (wpAny_mono h (fun v s₁ h₁=>?_) fun _ _ x=>x)
 obtain ⟨e,t,od,osl,rfl,hC,he,hE⟩:=h₁
 obtain ⟨hp,g,d,tk,os⟩:=s₁
 repeat (first | with_reducible refine wpAny_loadPart_at he ?_ | with_reducible refine wpAny_loadPart_at hC ?_ | (with_reducible refine wpAny_isSubtype_exc hC ?_; rw [hcB]) | wp_step)
 exact wpAny_raiseNew_none hh hE
end
theorem raisesOk {C:Cx} {N fI:Addr} (X:C.K.In C.h₀) (D:ExcD C N fI):RaisesOk C:=by
 intro A envs env x e pa b s E Q hh hb hm hE
 obtain ⟨nm,q,bs,sn,sub,ab,col,dd,k0,k1,k2,k3,k5,hC⟩:=D.cls
 obtain ⟨B,dd',oe,t,u,b3,hen,ff,ex,he,hcls,hd,hdd⟩:=hm.way
 obtain ⟨c,d,dt,sl⟩:=oe
 cases hcls; cases hd
 exact raise_own (bm:=excBm) (by decide) hh (wpAny_pure ⟨e,t,d,sl,rfl,hb _ _ (X _ _ hC),he,hE⟩)
end
end Mp
end
section
open PySem PySem.W PyProof.Rows PySem.Calls PyProof
set_option Elab.async false
set_option maxRecDepth 100000
set_option maxHeartbeats 2000000
set_option genInjectivity false
set_option linter.unusedVariables false
open Builtin Builtin.ObjectAttr
namespace Mp
noncomputable section
structure InstD (h:Heap) (x C d:Addr) (mA:Str → Option Value):Prop where
 obj:∃ o,h.get? x=some o ∧ o.cls=.ref C ∧ (∀ c,o.data ≠ .cls c) ∧ o.dict=some d
 ne:d ≠ x
 ns:h.Ns1 d mA
theorem InstD.inst {h:Heap} {x C d:Addr} {mA:Str → Option Value} (I:InstD h x C d mA):h.Inst x C mA:=let ⟨o,a,b,c,e⟩:=I.obj; ⟨o,a,b,c,.inr ⟨d,e,I.ne,I.ns⟩⟩
section
variable {prog:Program} {w:World} {A:Around} {E:Value → Shared → Prop} {h:Heap} {g:Array GenState} {d:Drawn} {t:Nat} {os:OsState}
variable {nm q:Str} {C N x:Addr} {bs bm:List Value} {sn:List Str} {sub:List Value} {ab:Bool} {col:Option Bool} {dd:Option Addr} {k0 k1 k2 k3 k5:Option Value} {B newId sa owner:String}
 {mN mA:Str → Option Value} {name:Str} {v:Value}
noncomputable def First (h:Heap) (x C:Addr) (name:Str) (v:Value) (h':Heap):Prop :=
 InstD h' x C h.objs.size (fun y=>if y=name then some v else none) ∧ (∀ b o,b ≠ x → h.get? b=some o → h'.get? b=some o) ∧ ∀ o,h.get? x=some o → ∃ o₁,h'.get? x=some o₁ ∧ o₁.cls=o.cls ∧ o₁.data=o.data
theorem first_entry {tk:Tok} {Q:Fin → Shared → Prop} {o:Obj} (SF:StoreFacts B bm sa owner)
  (hC:h.get? C=some (excClassObj nm q C N bs bm true sn sub ab col dd k0 k1 k2 k3 k5 newId)) (hn:h.Ns N mN) (hna:mN name=none)
  (hB:typeLookup (.type B) name=pure none) (hx:h.get? x=some o) (hc:o.cls=.ref C) (hnc:∀ c,o.data ≠ .cls c) (hdn:o.dict=none)
  (hq:∀ h' tk',First h x C name v h' → Q (.done (.ret .none)) ⟨h',g,d,tk',os⟩) :
  wpAny (model prog w) A (Builtin.«object.__setattr__» ⟨[.ref x,.str name tk,v],[]⟩) Q E ⟨h,g,d,t,os⟩:=by
 have hpass:=SF.passes (.ref x)
 unfold Builtin.«object.__setattr__»
 repeat (first | rw [refuse_eq] | (rw [refuseLoop_ref,hpass]) | (with_reducible refine wpAny_loadPart_at hx ?_; rw [hc]) | with_reducible refine wpAny_mroOf_exc hC ?_ | (with_reducible refine wpAny_typeLookup_exc hC hn SF.mro hB ?_; rw [hna]) | wp_step)
 rw [hdn,if_neg (by simp [typeHasDict])]
 split
 ·rename_i hcd
  cases hcd
 split
 ·rename_i c hcd
  exact absurd hcd (hnc c)
 ·have hx₁:(h.push { cls:=.type "dict",data:=.dict #[] }).get? x=some o:=Heap.get?_push_of_some _ hx
  have hxs:x ≠ h.objs.size:=Nat.ne_of_lt (Heap.lt_size hx)
  refine wpAny_bind (wpAny_alloc' (wpAny_bind (wpAny_update' hx₁ (wpAny_pure ?_))))
  have hgd:((h.push { cls:=.type "dict",data:=.dict #[] }).update x fun o=>{ cls:=o.cls,dict:=some h.objs.size,data:=o.data,slots:=o.slots }).get? h.objs.size
    = some { cls:=.type "dict",data:=.dict #[] } :=
   (Heap.get?_update_ne _ _ _ _ hxs.symm).trans (Heap.get?_push_at rfl rfl)
  have hnd:((h.push { cls:=.type "dict",data:=.dict #[] }).update x fun o=>{ cls:=o.cls,dict:=some h.objs.size,data:=o.data,slots:=o.slots }).Ns h.objs.size (fun _=>none) :=
   ⟨_,#[],_,hgd,rfl,fun e he=>absurd he (by simp),fun _=>rfl⟩
  show wpAny _ _ (storeInDict h.objs.size (.str name tk) name v) _ _ _
  unfold storeInDict newKeyGuard
  refine wpAny_bind (wpAny_pure (wpAny_bind (wpAny_nsSet1 (Heap.Ns1.of_empty hnd) fun h' hn' hs=>?_)))
  obtain ⟨oD,esD,epD,hoD,hdD,hcD⟩:=hn'.count (Within.cons name v Within.nil)
  refine wpAny_bind (wpAny_lookBehind hoD (by rw [hdD]; exact pastItsLine_dict (Nat.le_trans hcD (by rw [List.length_cons,List.length_nil,sizeLine_eq]; omega))) ?_)
  wp_walk
  have hx':h'.get? x=some { cls:=o.cls,dict:=some h.objs.size,data:=o.data,slots:=o.slots }:=by
   refine (hs.2 x hxs).trans (Heap.get?_update_self _ hx₁ ?_)
   have hfr:=(Heap.get?_some_iff.mp hx).2
   obtain ⟨oc,od,odt,osl⟩:=o
   cases odt <;> first | rfl | exact hfr
  refine hq h' _ ⟨⟨⟨_,hx',hc,hnc,rfl⟩,hxs.symm,hn'⟩,fun b ob hbx hb=>?_,fun o₀ h₀=>by obtain rfl:o=o₀:=Option.some.inj (hx.symm.trans h₀); exact ⟨_,hx',rfl,rfl⟩⟩
  exact (hs.2 b (Nat.ne_of_lt (Heap.lt_size hb))).trans ((Heap.get?_update_ne _ _ _ _ hbx).trans (Heap.get?_push_of_some _ hb))
theorem first_attr {Q:Unit → Shared → Prop} {o:Obj} (SF:StoreFacts B bm sa owner)
  (hC:h.get? C=some (excClassObj nm q C N bs bm true sn sub ab col dd k0 k1 k2 k3 k5 newId)) (hn:h.Ns N mN) (hns:mN "__setattr__"=none) (hna:mN name=none)
  (hB:typeLookup (.type B) name=pure none) (hx:h.get? x=some o) (hc:o.cls=.ref C) (hnc:∀ c,o.data ≠ .cls c) (hdn:o.dict=none)
  (hq:∀ h' tk',First h x C name v h' → Q () ⟨h',g,d,tk',os⟩) :
  wpAny (model prog w) A (setAttr (.ref x) name v) Q E ⟨h,g,d,t,os⟩:=by
 have f3:=SF.slot.bind (.ref x)
 unfold setAttr callSpecial? specialOf
 repeat (any_goals (first | assumption | (with_reducible refine wpAny_loadPart_at hx ?_; rw [hc]) | (with_reducible refine wpAny_typeLookup_exc hC hn SF.mro SF.slot.lookup ?_; rw [hns]) | wp_step))
 refine codeAny_call_builtin SF.slot.plain SF.entry (wpAny_check_sa SF hC hx hc (first_entry SF hC hn hna hB hx hc hnc hdn fun h' tk' F=>?_))
 repeat (any_goals (first | assumption | wp_step))
 exact hq h' tk' F
end
structure IniF (env:Env) (m:Str → Option Value) (e:Addr) (cv vv ev lv rv:Value):Prop where
 kind:env.scope.kind=.function
 glob:env.globals=mainGlobals
 bi:env.builtins=builtinsNs
 loc:∀ n ∈ (["self","code","value","errorcode","level","ret"]:List Str),env.kindOf n=some .local
 exck:env.kindOf "Exception"=some .globalImplicit
 self:m "self"=some (.ref e)
 code:m "code"=some cv
 value:m "value"=some vv
 ec:m "errorcode"=some ev
 level:m "level"=some lv
 ret:m "ret"=some rv
structure IniS (C:Cx) (L:Addr) (h0:Heap) (e:Addr) (m:Str → Option Value) (d:Addr) (mA:Str → Option Value) (h:Heap):Prop where
 keep:∀ b o,h0.get? b=some o → h.get? b=some o
 ns:h.Ns L m
 inst:InstD h e C.exc d mA
 fields:∃ t o,h.get? e=some o ∧ o.data=.fields #[.ref t,.none,.none,.none,.bool false,.none]
 e0:h0.get? e=none
 L0:h0.get? L=none
 d0:h0.get? d=none
 eL:e ≠ L
 dL:d ≠ L
theorem InstD.keeps {h h':Heap} {x C d:Addr} {mA:Str → Option Value} (I:InstD h x C d mA) (k:∀ b o,h.get? b=some o → h'.get? b=some o):InstD h' x C d mA :=
 ⟨let ⟨o,a,r⟩:=I.obj; ⟨o,k _ _ a,r⟩,I.ne,I.ns.keeps k⟩
theorem IniS.keeps {C:Cx} {L:Addr} {h0:Heap} {e:Addr} {m:Str → Option Value} {d:Addr} {mA:Str → Option Value} {h h':Heap} (S:IniS C L h0 e m d mA h) (k:∀ b o,h.get? b=some o → h'.get? b=some o):IniS C L h0 e m d mA h' :=
 ⟨fun b o q=>k b o (S.keep b o q),S.ns.keeps k,S.inst.keeps k,let ⟨t,o,a,r⟩:=S.fields; ⟨t,o,k _ _ a,r⟩,S.e0,S.L0,S.d0,S.eL,S.dL⟩
section
variable {C:Cx} {A:Around} {E:Value → Shared → Prop} {s:Shared} {env:Env} {h0:Heap} {e:Addr} {m mA:Str → Option Value} {d:Addr} {cv vv ev lv rv:Value} {N fI:Addr}
theorem cls_facts (X:C.K.In C.h₀) (D:ExcD C N fI) (hb:C.h₀.StaysIn h0) {h:Heap} (k:∀ b o,h0.get? b=some o → h.get? b=some o) :
  (∃ nm q bs sn sub ab col dd k0 k1 k2 k3 k5,h.get? C.exc=some (excClassObj nm q C.exc N bs excBm true sn sub ab col dd k0 k1 k2 k3 k5 "Exception.__new__")) ∧ h.Ns N (C.h₀.nsMap N) ∧ (∀ n ∈ excNames,C.h₀.nsMap N n=none):=by
 obtain ⟨nm,q,bs,sn,sub,ab,col,dd,k0,k1,k2,k3,k5,hC⟩:=D.cls
 have G:C.h₀.Ns N (C.h₀.nsMap N):=.of_isNs (isNs_of_in X D.nsOk)
 exact ⟨⟨nm,q,bs,sn,sub,ab,col,dd,k0,k1,k2,k3,k5,k _ _ (hb _ _ (X _ _ hC))⟩,G.keeps fun b o q=>k _ _ (hb _ _ q),fun n hn=>ns_none_of X G (D.none n hn)⟩
theorem ini_name (F:IniF env m e cv vv ev lv rv) (hns:s.heap.Ns env.locals m) {n:Str} {v:Value} {pp:Pos} {Q:Value → Shared → Prop} (hn:n ∈ (["self","code","value","errorcode","level","ret"]:List Str)) (hv:m n=some v) (dbg:(n == ("__debug__":Str))=false) (h:Q v s) :
  wpAny (model C.prog C.w) A (eval (.Name n pp) env) Q E s:=wpAny_Name (wpAny_loadName_local F.kind (F.loc n hn) hns hv h) dbg
noncomputable def ValIs (C:Cx) (A:Around) (env:Env) (E:Value → Shared → Prop) (m:Str → Option Value) (x:PExpr) (P:Value → Prop):Prop :=
 ∀ (s:Shared) (Q:Value → Shared → Prop),s.heap.Ns env.locals m → (∀ v h' tk,P v → (∀ b o,s.heap.get? b=some o → h'.get? b=some o) → Q v { s with heap:=h',toks:=tk }) → wpAny (model C.prog C.w) A (eval x env) Q E s
theorem ini_store (X:C.K.In C.h₀) (D:ExcD C N fI) (hb:C.h₀.StaysIn h0) (F:IniF env m e cv vv ev lv rv) (S:IniS C env.locals h0 e m d mA s.heap) {nm:Str} {x:PExpr} {p1 p2 p3:Pos} {P:Value → Prop} {ns:List Str} {Q:Flow → Shared → Prop}
  (hnm:nm ∈ excNames) (hB:typeLookup (.type "Exception") nm=pure none) (hw:Within mA ns) (hsz:ns.length + 1 ≤ 100) (hv:ValIs C A env E m x P) (hs:swapsWith x (some (.Attribute (.Name "self" p1) nm p2)) p3.line env=pure false)
  (h:∀ v h' tk,P v → IniS C env.locals h0 e m d (fun y=>if y=nm then some v else mA y) h' → Q .next { s with heap:=h',toks:=tk }) :
  wpAny (model C.prog C.w) A (exec (.Assign [.Attribute (.Name "self" p1) nm p2] x p3) env) Q E s:=by
 refine plainObj_wpAny_Assign_Attribute (hv s _ S.ns fun v h1 tk1 pv k1=>?_) hs
 have S1:=S.keeps k1
 refine ini_name F S1.ns (.head _) F.self (by decide) ?_
 obtain ⟨⟨nm',q,bs,sn,sub,ab,col,dd,k0,k1',k2,k3,k5,hC⟩,hN,hnone⟩:=cls_facts X D hb S1.keep
 refine store_attr PySem.F.store_Exception hC hN (hnone _ (by decide)) (hnone _ hnm) hB (fun q=>?_) S1.inst.inst (fun h' tk' I' hk hsame=>?_) hw (by simp only [sizeLine_eq]; omega)
 ·obtain ⟨_,_,_,_,_,_,_,_,_,_,_,_,_,hC0⟩:=D.cls
  have:=hb _ _ (X _ _ hC0)
  rw [← q,S.e0] at this; cases this
 ·obtain ⟨o,ho,hc,hnc,hd⟩:=S1.inst.obj
  obtain ⟨o₁,ho₁,hc₁,hd₁,_,hdd₁⟩:=hsame o ho
  have kk:∀ b ob,b ≠ e → b ≠ d → h1.get? b=some ob → h'.get? b=some ob:=fun b ob n1 n2 q=>hk b ob n1 (fun o₀ dx e1 e2=>by rw [ho] at e1; cases e1; rw [hd] at e2; cases e2; exact n2) q
  refine h v h' tk' pv ⟨fun b ob q=>kk b ob (fun z=>by rw [z,S.e0] at q; cases q) (fun z=>by rw [z,S.d0] at q; cases q) (S1.keep b ob q),?_,⟨⟨o₁,ho₁,hc₁.trans hc,fun c=>by rw [hd₁]; exact hnc c,hdd₁ d hd⟩,S.inst.ne,?_⟩,?_,S.e0,S.L0,S.d0,S.eL,S.dL⟩
  ·obtain ⟨oL,es,ep,hL,r⟩:=S1.ns
   exact ⟨oL,es,ep,kk _ _ S.eL.symm S.dL.symm hL,r⟩
  ·obtain ⟨o',ho',_,_,hd'⟩:=I'
   rw [ho₁] at ho'; cases ho'
   rcases hd' with ⟨q,_⟩ | ⟨dx,q,_,r⟩
   ·rw [hdd₁ d hd] at q; cases q
   ·rw [hdd₁ d hd] at q; cases q; exact r
  ·obtain ⟨t,o',ho',hf⟩:=S1.fields
   have ho':h1.get? e=some o':=ho'
   rw [ho] at ho'; cases ho'
   exact ⟨t,o₁,ho₁,hd₁.trans hf⟩
end
theorem find_exc_init (K:Frag):findCls K (.type "Exception") (.type "type") "__init__"=some (.val (.builtin "Exception.__init__")):=by kernel_rfl
section
variable {prog:Program} {w:World} {A:Around} {E:Value → Shared → Prop} {s:Shared} {K:Frag}
theorem getm_exc {pl:Sem Bool} {Q:Value × List Value → Shared → Prop} (X:K.In s.heap) (h:Q (.builtin "Exception.__init__",[]) { s with toks:=s.toks + 1 }) :
  wpAny (model prog w) A (getMethod (.type "Exception") "__init__" pl) Q E s:=by
 have hstub:opaqueClassAbove (.type "Exception")=pure none:=by unfold opaqueClassAbove; dsimp only; rw [show Manifest.isStub "Exception"=false by decide +kernel]; rfl
 have ht:typeOf (.type "Exception")=pure (.type "type"):=by first | rfl | kernel_rfl
 have L0:Looks (model prog w) s.heap (typeOf (.type "Exception")) (.type "type"):=Looks.of_pure ht
 have hg:findIn K (.type "type") "__getattribute__"=some (some (.builtin "type.__getattribute__")):=type_tga
 unfold getMethod specialOf
 refine wpAny_bind (wpAny_bind (L0.here ((looks_findIn X hg).here ?_)))
 dsimp only
 rw [if_pos canon_tga]
 refine wpAny_bind (wpAny_mono (Q:=fun v=>Q (v,[])) (E:=E) ?_ (fun _ _ z=>wpAny_pure z) fun _ _ z=>z)
 have LO:Looks (model prog w) s.heap (opaqueClassAbove (.type "Exception")) none:=Looks.of_pure hstub
 refine cls_open X LO L0 hg (looks_hook X (r:=none) (by rfl)) (by show subIn K _ _=_; rfl) (find_exc_init K) (wpAny_pure ?_)
 exact handed_on (by rfl) h
end
section
variable {C:Cx} {A:Around} {E:Value → Shared → Prop} {s:Shared} {env:Env} {h0:Heap} {e:Addr} {m mA:Str → Option Value} {d:Addr} {cv vv ev lv rv:Value} {N fI:Addr}
theorem init_call {prog:Program} {w:World} {A:Around} {E:Value → Shared → Prop} {h:Heap} {g:Array GenState} {d:Drawn} {t:Nat} {os:OsState} {nm q:Str} {C N:Addr} {bs bm:List Value} {hdct:Bool} {sn:List Str} {sub:List Value} {ab:Bool} {col:Option Bool} {dd:Option Addr} {k0 k1 k2 k3 k5:Option Value} {newId:String}
  {B initId:String} (F:ExcBaseFacts B newId initId bm) (hC:h.get? C=some (excClassObj nm q C N bs bm hdct sn sub ab col dd k0 k1 k2 k3 k5 newId)) {e t0:Addr} {x:Value} {Q:Value → Shared → Prop}
  (he:h.get? e=some { cls:=.ref C,data:=.fields #[.ref t0,.none,.none,.none,.bool false,.none] })
  (hq:∀ h' t',(∀ b o,b ≠ e → h.get? b=some o → h'.get? b=some o) → h'.get? e=some { cls:=.ref C,data:=.fields #[.ref t',.none,.none,.none,.bool false,.none] } → Q .none ⟨h',g,d,t,os⟩) :
  wpAny (model prog w) A (call (.builtin initId) [.ref e,x]) Q E ⟨h,g,d,t,os⟩:=by
 refine wpAny_call (codeAny_call_builtin F.init.plain F.initEntry (wpAny_check_init_sub F hC he rfl ?_))
 wp_walk
 refine hq _ h.objs.size (fun b o n hb=>?_) ?_
 ·rw [Heap.get?_update_other _ _ (Ne.symm n)]
  exact Heap.get?_push_of_some _ hb
 ·rw [Heap.get?_update_self _ (Heap.get?_push_of_some _ he) rfl]
  rfl
theorem ini_first (X:C.K.In C.h₀) (T:TopRead C.p C.loose C.mg C.mb C.h₀) (bo:nsIn C.K mainGlobals "Exception"=some none) (D:ExcD C N fI) (hb:C.h₀.StaysIn h0) (F:IniF env m e cv vv ev lv rv) (k0:∀ b o,h0.get? b=some o → s.heap.get? b=some o) (hns:s.heap.Ns env.locals m) (e0:h0.get? e=none) (eL:e ≠ env.locals) {t0:Addr}
  (he:s.heap.get? e=some { cls:=.ref C.exc,data:=.fields #[.ref t0,.none,.none,.none,.bool false,.none] }) {q1 q2 q3 q4 q5 q6:Pos} {Q:Flow → Shared → Prop} (hl:(q2.endLine == q5.line)=true)
  (h:∀ h' tk t',(∀ b o,b ≠ e → s.heap.get? b=some o → h'.get? b=some o) → h'.get? e=some { cls:=.ref C.exc,data:=.fields #[.ref t',.none,.none,.none,.bool false,.none] } → Q .next { s with heap:=h',toks:=tk }) :
  wpAny (model C.prog C.w) A (exec (.Expr (.Call (.Attribute (.Name "Exception" q1) "__init__" q2) [.Name "self" q3,.Name "value" q4] [] q5) q6) env) Q E s:=by
 refine wpAny_Expr ?_ (by unfold interactive; rw [F.kind]; rfl) rfl
 rw [arm_eval_Call,show attributeBase (.Name "Exception" q1) "__init__" env (eval (.Name "Exception" q1) env)=eval (.Name "Exception" q1) env from rfl]
 have hg:=T.g.keeps fun b o q=>k0 b o (hb b o q)
 have hbb:=T.b.keeps fun b o q=>k0 b o (hb b o q)
 rw [← F.glob] at hg
 rw [← F.bi] at hbb
 have hboot:bootBuiltins "Exception"=some (.type "Exception"):=by decide +kernel
 have Xs:C.K.In s.heap:=(X.keeps hb).keeps k0
 refine wpAny_bind (Name_function_global F.kind F.exck (loadGlobal_builtin hg (mg_none_of X T.g bo) hbb ((T.builtins "Exception" (by decide)).trans hboot) ?_) (by decide))
 refine wpAny_bind (wpAny_standAt ?_)
 have hform:methodCallForm ([PySem.Expr.Name "self" q3,.Name "value" q4].length + ([]:List Keyword).length) (backTo q5 (starEach [.Name "self" q3,.Name "value" q4] env)) (backToKw q5 (keywordEach [] env))=true:=rfl
 have hpos:methodCallPos true (.Name "Exception" q1) env q2 q5=pure q5:=by unfold methodCallPos; simp [hl]
 unfold methodCall
 rw [hform]
 refine wpAny_bind (wpAny_holding (getm_exc Xs ?_))
 refine wpAny_bind (wpAny_of_eq hpos ?_)
 refine Calls.callWith_builtin rfl (Calls.evalArgs_plain (Calls.spliced_cons (ini_name F (s:={ s with toks:=s.toks + 1 }) hns (.head _) F.self (by decide) (Calls.spliced_cons (ini_name F (s:={ s with toks:=s.toks + 1 }) hns (.tail _ (.tail _ (.head _))) F.value (by decide) (Calls.spliced_nil ?_))))))
 obtain ⟨⟨nm',q,bs,sn,sub,ab,col,dd,k0,k1',k2,k3,k5,hC⟩,hN,hnone⟩:=cls_facts X D hb k0
 exact init_call PySem.F.excBase_Exception hC he fun h' t' k1 he'=>h h' _ t' k1 he'
end
end
end Mp
end
section
open PySem PySem.W PyProof.Rows PySem.Calls PyProof
set_option Elab.async false
set_option maxRecDepth 100000
set_option maxHeartbeats 2000000
set_option genInjectivity false
set_option linter.unusedVariables false
namespace Mp
noncomputable section
noncomputable abbrev Ini:=Str × PExpr × (Value → Prop)
noncomputable def iniStmts:List Ini → List An → List Stmt
 | [],_=>[]
 | q::r,ps=>.Assign [.Attribute (.Name "self" (an ps 0).p) q.1 (an ps 1).p] q.2.1 (an ps 2).p::iniStmts r (ps.drop 3)
noncomputable def IniAfter:List Ini → (Str → Option Value) → (Str → Option Value) → Prop
 | [],mA,mB=>mB=mA
 | q::r,mA,mB=>∃ v,q.2.2 v ∧ IniAfter r (fun y=>if y=q.1 then some v else mA y) mB
theorem IniAfter.keep {n:Str} {l:List Ini}:∀ {mA mB:Str → Option Value},(∀ q ∈ l,n ≠ q.1) → IniAfter l mA mB → mB n=mA n:=by
 induction l with
 | nil=>intro mA mB _ a; rw [show mB=mA from a]
 | cons q l ih=>intro mA mB h a; obtain ⟨v,_,a⟩:=a; exact (ih (fun q hq=>h q (.tail _ hq)) a).trans (if_neg (h q (.head _)))
noncomputable def iniL (p1 p2 p3 p4 p5 p6 p7 p8:Pos) (k6 k7 k8:Nat) (x6:Str) (x7:Bool) (x8:Int) (vv ev lv rv:Value):List Ini :=
 [("value",.Name "value" p1,(·=vv)),("errorcode",.Name "errorcode" p2,(·=ev)),("level",.Name "level" p3,(·=lv)),("ret",.Name "ret" p4,(·=rv)),
  ("info",.Constant (.str x6) k6 p5,fun _=>True),("is_noted",.Constant (.bool x7) k7 p6,fun _=>True),("line",.Constant (.int x8) k8 p7,fun _=>True),("extra",.List [] p8,fun _=>True)]
noncomputable def iniBody (q1 q2 q3 q4 q5 q6 c1 c2 c3 c4:Pos) (l:List Ini) (ps:List An):List Stmt :=
 .Expr (.Call (.Attribute (.Name "Exception" q1) "__init__" q2) [.Name "self" q3,.Name "value" q4] [] q5) q6::.Assign [.Attribute (.Name "self" c1) "code" c2] (.Name "code" c3) c4::iniStmts l ps
structure InitBody (body:List Stmt):Prop where
 is:∃ q1 q2 q3 q4 q5 q6 c1 c2 c3 c4 p1 p2 p3 p4 p5 p6 p7 p8 k6 k7 k8 x6 x7 x8 ps,(∀ vv ev lv rv,body=iniBody q1 q2 q3 q4 q5 q6 c1 c2 c3 c4 (iniL p1 p2 p3 p4 p5 p6 p7 p8 k6 k7 k8 x6 x7 x8 vv ev lv rv) ps) ∧ (q2.endLine == q5.line)=true
theorem hB_1 {n:Str} (h:n ∈ (["code","value","errorcode","level","ret","info","is_noted","line","extra"]:List Str)):typeLookup (.type "Exception") n=pure none:=by
 rw [typeLookup_type,builtinLookup_eq_fast]
 simp only [List.mem_cons,List.not_mem_nil,or_false] at h
 rcases h with rfl | rfl | rfl | rfl | rfl | rfl | rfl | rfl | rfl <;> kernel_rfl
section
variable {C:Cx} {A:Around} {E:Value → Shared → Prop} {s:Shared} {env:Env} {h0:Heap} {e:Addr} {m mA:Str → Option Value} {d:Addr} {cv vv ev lv rv:Value} {N fI:Addr}
theorem ini_list (X:C.K.In C.h₀) (D:ExcD C N fI) (hb:C.h₀.StaysIn h0) (F:IniF env m e cv vv ev lv rv) {Q:Flow → Shared → Prop} {l:List Ini}:∀ {ps:List An} {mA:Str → Option Value} {ns:List Str} {s:Shared},IniS C env.locals h0 e m d mA s.heap → Within mA ns → ns.length + l.length ≤ 50 →
  (∀ q ∈ l,(q.1 ∈ excNames ∧ q.1 ∈ (["code","value","errorcode","level","ret","info","is_noted","line","extra"]:List Str)) ∧ ValIs C A env E m q.2.1 q.2.2 ∧ ∀ t l,swapsWith q.2.1 t l env=pure false) →
  (∀ h' tk mB,IniS C env.locals h0 e m d mB h' → IniAfter l mA mB → Q .next { s with heap:=h',toks:=tk }) → wpAny (model C.prog C.w) A (execs (iniStmts l ps) env) Q E s:=by
 induction l with
 | nil=>intro ps mA ns s S _ _ _ k; exact wpAny_execs_nil (k s.heap s.toks _ S rfl)
 | cons q l ih =>
  intro ps mA ns s S W hl hq k
  obtain ⟨⟨g1,g2⟩,g3,g4⟩:=hq q (.head _)
  rw [List.length_cons] at hl
  refine wpAny_execs_cons (ini_store X D hb F S g1 (hB_1 g2) W (by omega) g3 (g4 _ _) fun v h' tk pv S'=>ih (s:={ s with heap:=h',toks:=tk }) S' (Within.cons q.1 v W) (by rw [List.length_cons]; omega) (fun q hq'=>hq q (.tail _ hq')) fun h2 tk2 mB S2 a=>k h2 tk2 mB S2 ⟨v,pv,a⟩)
theorem val_name (F:IniF env m e cv vv ev lv rv) {n:Str} {p:Pos} {v:Value} (hn:n ∈ (["self","code","value","errorcode","level","ret"]:List Str)) (hv:m n=some v) (dbg:(n == ("__debug__":Str))=false):ValIs C A env E m (.Name n p) (·=v) :=
 fun s Q hns h=>ini_name F hns hn hv dbg (h v s.heap s.toks rfl fun _ _ e=>e)
theorem ini_body (X:C.K.In C.h₀) (T:TopRead C.p C.loose C.mg C.mb C.h₀) (bo:nsIn C.K mainGlobals "Exception"=some none) (D:ExcD C N fI) (hb:C.h₀.StaysIn h0) (F:IniF env m e cv vv ev lv rv) (k0:∀ b o,h0.get? b=some o → s.heap.get? b=some o) (hns:s.heap.Ns env.locals m) (e0:h0.get? e=none) (L0:h0.get? env.locals=none) (eL:e ≠ env.locals) {t0:Addr}
  (he:s.heap.get? e=some { cls:=.ref C.exc,data:=.fields #[.ref t0,.none,.none,.none,.bool false,.none] }) {body:List Stmt} (ib:InitBody body) {Q:Flow → Shared → Prop}
  (h:∀ h' tk d mA,IniS C env.locals h0 e m d mA h' → mA "code"=some cv → mA "value"=some vv → mA "errorcode"=some ev → Q .next { s with heap:=h',toks:=tk }) :
  wpAny (model C.prog C.w) A (execs body env) Q E s:=by
 obtain ⟨q1,q2,q3,q4,q5,q6,c1,c2,c3,c4,p1,p2,p3,p4,p5,p6,p7,p8,k6,k7,k8,x6,x7,x8,ps,eb,hl⟩:=ib.is
 rw [eb vv ev lv rv]
 refine wpAny_execs_cons (ini_first X T bo D hb F k0 hns e0 eL he hl fun h1 tk1 t1 k1 he1=>?_)
 have kk1:∀ b o,h0.get? b=some o → h1.get? b=some o:=fun b o q=>k1 b o (ne_there e0 q) (k0 b o q)
 have ns1:h1.Ns env.locals m:=ns_keep hns fun o ho=>k1 _ o eL.symm ho
 refine wpAny_execs_cons (plainObj_wpAny_Assign_Attribute (ini_name F (s:={ s with heap:=h1,toks:=tk1 }) ns1 (.tail _ (.head _)) F.code (by decide) (ini_name F (s:={ s with heap:=h1,toks:=tk1 }) ns1 (.head _) F.self (by decide) ?_)) rfl)
 obtain ⟨⟨nm',q,bs,sn,sub,ab,col,dd,k0',k1',k2,k3,k5,hC⟩,hN,hnone⟩:=cls_facts X D hb kk1
 refine first_attr PySem.F.store_Exception hC hN (hnone _ (by decide)) (hnone _ (by decide)) (hB_1 (.head _)) he1 rfl (fun c=>nofun) rfl fun h2 tk2 FF=>?_
 obtain ⟨I2,k2',o2⟩:=FF
 have S2:IniS C env.locals h0 e m h1.objs.size (fun y=>if y="code" then some cv else none) h2 :=
  {keep:=fun b o q=>k2' b o (ne_there e0 q) (kk1 b o q),ns:=ns_keep ns1 fun o ho=>k2' _ o eL.symm ho,inst:=I2
   fields:=let ⟨o₁,a,b,c⟩:=o2 _ he1; ⟨t1,o₁,a,c⟩
   e0:=e0,L0:=L0,eL:=eL
   d0:=by
    cases q:h0.get? h1.objs.size with
    | none=>rfl
    | some o=>have:=kk1 _ _ q; rw [none_at] at this; cases this
   dL:=fun q=>by obtain ⟨o,ho⟩:=ns_there ns1; rw [← q,none_at] at ho; cases ho }
 have W2:PySem.Within (fun y:Str=>if y="code" then some cv else none) ["code"]:=by within_ways
 refine ini_list (s:={ s with heap:=h2,toks:=tk2 }) X D hb F S2 W2 (by show 1 + 8 ≤ 50; decide) (fun q hq=>?_) fun h3 tk3 mB S3 a=>?_
 ·have vt:∀ {x:PExpr},(∀ (s:Shared) (Q:Value → Shared → Prop),(∀ v h' tk,(∀ b o,s.heap.get? b=some o → h'.get? b=some o) → Q v { s with heap:=h',toks:=tk }) → wpAny (model C.prog C.w) A (eval x env) Q E s) → ValIs C A env E m x fun _=>True:=fun hx s Q _ h=>hx s Q fun v h' tk k=>h v h' tk trivial k
  refine ⟨(by decide:∀ z ∈ (["value","errorcode","level","ret","info","is_noted","line","extra"]:List Str),z ∈ excNames ∧ z ∈ (["code","value","errorcode","level","ret","info","is_noted","line","extra"]:List Str)) q.1 (List.mem_map_of_mem (f:=fun q:Ini=>q.1) hq),?_⟩
  simp only [iniL,List.mem_cons,List.not_mem_nil,or_false] at hq
  rcases hq with rfl | rfl | rfl | rfl | rfl | rfl | rfl | rfl
  ·exact ⟨val_name F (by decide) F.value (by decide),fun _ _=>rfl⟩
  ·exact ⟨val_name F (by decide) F.ec (by decide),fun _ _=>rfl⟩
  ·exact ⟨val_name F (by decide) F.level (by decide),fun _ _=>rfl⟩
  ·exact ⟨val_name F (by decide) F.ret (by decide),fun _ _=>rfl⟩
  ·exact ⟨vt fun s Q h=>wpAny_Constant_str (h _ s.heap _ fun _ _ e=>e),fun _ _=>rfl⟩
  ·exact ⟨vt fun s Q h=>wpAny_Constant_bool (h _ s.heap s.toks fun _ _ e=>e),fun _ _=>rfl⟩
  ·exact ⟨vt fun s Q h=>wpAny_Constant_int (h _ s.heap _ fun _ _ e=>e),fun _ _=>rfl⟩
  ·exact ⟨vt fun s Q h=>wpAny_List (Calls.spliced_nil ⟨by decide,h _ _ s.toks fun _ _ e=>Heap.get?_push_of_some _ e⟩),fun _ _=>rfl⟩
 ·have ne:∀ (n:Str) {l:List Ini},(∀ z ∈ l.map (·.1),n ≠ z) → ∀ q ∈ l,n ≠ q.1:=fun n l h q hq=>h _ (List.mem_map_of_mem hq)
  have a1:=a.keep (n:="code") (ne _ (by show ∀ z ∈ (["value","errorcode","level","ret","info","is_noted","line","extra"]:List Str),_; decide))
  obtain ⟨v,hv,a⟩:=a
  have a2:=a.keep (n:="value") (ne _ (by show ∀ z ∈ (["errorcode","level","ret","info","is_noted","line","extra"]:List Str),_; decide))
  obtain ⟨v',hv',a⟩:=a
  have a3:=a.keep (n:="errorcode") (ne _ (by show ∀ z ∈ (["level","ret","info","is_noted","line","extra"]:List Str),_; decide))
  exact h h3 tk3 _ mB S3 (a1.trans (if_pos rfl)) (a2.trans ((if_pos rfl).trans (congrArg some hv))) (a3.trans ((if_pos rfl).trans (congrArg some hv')))
end
end
noncomputable section
section
variable {prog:Program} {w:World} {A:Around} {E:Value → Shared → Prop} {h:Heap} {g:Array GenState} {d:Drawn} {t:Nat} {os:OsState}
variable {nm q:Str} {C N:Addr} {bs bm:List Value} {hdct:Bool} {sn:List Str} {sub:List Value} {ab:Bool} {col:Option Bool} {dd:Option Addr} {k0 k1 k2 k3 k5:Option Value} {B newId initId:String}
theorem code_exc_init (F:ExcBaseFacts B newId initId bm) {mN:Str → Option Value} {rest:List Value} {fI:Addr} {oI:Obj} {R:Result → Shared → Prop}
  (hC:h.get? C=some (excClassObj nm q C N bs bm hdct sn sub ab col dd k0 k1 k2 k3 k5 newId)) (hn:h.Ns N mN) (hi:mN "__init__"=some (.ref fI))
  (hfI:h.get? fI=some oI) (hfc:oI.cls=.type "function")
  (hq:∀ h' e,Heap.MadeExcOf h h' e (.ref C) rest →
   wpAny (model prog w) (A.under (.builtin "type.__call__" ⟨.ref C::rest,[]⟩)) (call (.ref fI) (.ref e::rest)) (fun r s'=>r=.none ∧ R (.ok (.ret (.ref e))) s') (fun x s'=>R (.error x) s') ⟨h',g,d,t,os⟩) (hrest:rest.length ≤ sizeLine:=by size_fits) :
  codeAny (model prog w) A (.call (.ref C) ⟨rest,[]⟩) R ⟨h,g,d,t,os⟩:=by
 have f1:=tc_lookup
 have f2:=tc_bind (.ref C)
 have hT:(⟨h,g,d,t,os⟩:Shared).TypeIs (.ref C) "type":=⟨_,hC,rfl⟩
 refine codeAny_of_tree ?_
 show wpAny _ _ (callAny (.ref C) _) _ _ _
 repeat (any_goals (first | assumption | with_reducible refine wpAny_loadPart_at hC ?_ | wp_step))
 refine ⟨rfl,?_⟩
 refine codeAny_call_builtin_at (Code.quiet_builtin _ (by decide +kernel)) entry_typeCall (wpAny_check_type_call_sub hC (wpAny_type_call_exc_init (hrest:=hrest) F hC hn hi hfI hfc fun h' e hm=>?_))
 exact hq h' e hm
end
noncomputable def six:List Str:=["self","code","value","errorcode","level","ret"]
structure InitFn (C:Cx) (fI:Addr) (fd:FuncData) (body:List Stmt):Prop where
 obj:∃ o,C.K.lookup fI=some o ∧ o.cls=.type "function" ∧ o.data=.func fd
 code:codeIn C.K fd.code fd.qualname=true
 stm:fd.body=.stmts body
 is:InitBody body
 glob:fd.globals=mainGlobals
 bi:fd.builtins=builtinsNs
 kind:fd.scope.kind=.function
 co:fd.scope.isCoroutine=false
 gen:fd.scope.isGenerator=false
 cell:∀ x ∈ fd.scope.names,x.2 ≠ .cell
 loc:∀ n ∈ six,fd.scope.names.lookup n=some .local
 exck:fd.scope.names.lookup ("Exception":Str)=some NameKind.globalImplicit
 binds:∀ (e cv vv ev:Value) (s:Shared),C.K.In s.heap → ∃ lv rv,BindsTo s fd ⟨[e,cv,vv,ev],[]⟩ [("self",e),("code",cv),("value",vv),("errorcode",ev),("level",lv),("ret",rv)]
noncomputable def InstM (C:Cx) (d f:Nat) (args:List SV) (x:Exn):Prop :=
 ∀ (F:Frm) (H:Hd) (V:Vs) (q:Option Int) (s:Shared) (vs:List Value) (a:Addr) (R:Result → Shared → Prop),Ok C F H V q s → F.fs=fsOf F.envs → Room F.A d → C.fns[f]?.map (·.2)=some a →
  ArgsRep V.ω F.pa s.heap args vs → (∀ e s',MadeP C F.envs F.pa s (fun a=>V.ω a=0) x e s' → R (.ok (.ret (.ref e))) s') → codeAny (model C.prog C.w) F.A (.call (.ref a) ⟨vs,[]⟩) R s
theorem texts_of {ω:Addr → Nat} {h:Heap} {ec:List (List Nat)}:∀ {vs:List Value},Reps ω h (ec.map PV.str) vs → TextsAre ec vs:=by
 induction ec with
 | nil=>exact id
 | cons l ec ih=>intro vs r; obtain ⟨v,ws,rfl,⟨t,rfl⟩,r⟩:=r; exact ⟨t,ws,rfl,ih r⟩
theorem ns_is {K:Frag} {h:Heap} {N:Addr} {n:Str} {v:Value} (X:K.In h) (G:h.Ns N (h.nsMap N)) (D:nsIn K N n=some (some v)):h.nsMap N n=some v:=by
 obtain ⟨o,es,ep,ho,hd,_,hff⟩:=G
 have e:=D
 unfold nsIn at e
 split at e
 ·rename_i c' d' es' n' sl qq
  have h1:=X _ _ qq
  rw [ho] at h1
  cases h1
  cases hd
  split at e
  ·rename_i ent he
   have e:=Option.some.inj (Option.some.inj e)
   rw [← hff]
   unfold nsFind findBy
   rw [← Array.find?_toList,he]
   exact congrArg some e
  ·split at e <;> cases e
 ·cases e
theorem raised_inst {C:Cx} {N fI:Addr} {fd:FuncData} {body:List Stmt} (hok:C.Ok) (bo:nsIn C.K mainGlobals "Exception"=some none) (D:ExcD C N fI) (I:InitFn C fI fd body) {f d:Nat} {n:Str} (hf:C.fns[f]?=some (n,C.exc)) (c:Int) (l:List Nat) (ec:List (List Nat)) :
  InstM C d f [.val (.int c),.val (.str l),.val (.tup (ec.map PV.str))] ⟨c,l,ec⟩:=by
 intro F H V q s vs a R O hfs Rm hfa ha hk
 rw [hf] at hfa
 cases hfa
 have X:=hok.X
 have T:=hok.T
 have base:=O.base
 obtain ⟨_,_,rfl,⟨t1,rfl⟩,_,_,rfl,⟨t2,rfl⟩,_,_,rfl,⟨ta,tvs,rfl,nMt,it,rt⟩,rfl⟩:=ha
 obtain ⟨⟨nm',q,bs,sn,sub,ab,col,dd,k0,k1',k2,k3,k5,hC⟩,hN,hnone⟩:=cls_facts X D base (h:=s.heap) fun _ _ e=>e
 have hi:=ns_is X (.of_isNs (isNs_of_in X D.nsOk)) D.init
 obtain ⟨oI,hI,hIc,hId⟩:=I.obj
 have hfI:s.heap.get? fI=some oI:=base _ _ (X _ _ hI)
 refine code_exc_init PySem.F.excBase_Exception hC hN hi hfI hIc fun h1 e hm=>wpAny_call ?_
 have hX1:C.K.In h1:=fun b o q=>hm.keeps b o (base _ _ (X _ _ q))
 obtain ⟨lv,rv,hbind⟩:=I.binds (.ref e) (.int c t1) (.str ⟨l.toArray⟩ t2) (.ref ta) { s with heap:=h1 } hX1
 obtain ⟨t0,he,_,_⟩:=hm.there
 refine codeAny_call_def (fd:=fd) (body:=body) (s:={ s with heap:=h1 }) (by have:=Rm.depth; show F.A.depth + 1 < _; omega) (hm.keeps _ _ hfI) hId (T.nolimit.keeps fun b o q=>hm.keeps b o (base b o q)) (codeRec_of hX1 I.code) I.stm hbind I.cell (fun x hx=>I.loc _ (List.mem_map_of_mem (f:=fun y:Str × Value=>y.1) hx)) (fun h2 hns hk2=>?_) I.co I.gen I.kind
 generalize hL:h1.objs.size=L at hns ⊢
 have hL0:s.heap.get? L=none:=by
  cases q:s.heap.get? L with
  | none=>rfl
  | some o=>have:=hm.keeps _ _ q; rw [← hL,none_at] at this; cases this
 have eL:e ≠ L:=fun q=>by rw [q,← hL,none_at] at he; cases he
 have Fi:IniF (callEnv fd L fI) (fun x=>([("self",Value.ref e),("code",Value.int c t1),("value",Value.str ⟨l.toArray⟩ t2),("errorcode",Value.ref ta),("level",lv),("ret",rv)]:List (Str × Value)).reverse.lookup x) e (.int c t1) (.str ⟨l.toArray⟩ t2) (.ref ta) lv rv :=
  {kind:=I.kind,glob:=I.glob,bi:=I.bi,loc:=I.loc,exck:=I.exck
   self:=rfl,code:=rfl,value:=rfl,ec:=rfl,level:=rfl,ret:=rfl }
 refine ini_body (h0:=s.heap) (s:={ s with heap:=h2,toks:=_ }) X T bo D base Fi (fun b o q=>hk2 b o (hm.keeps b o q)) hns hm.new hL0 eL (hk2 _ _ he) I.is fun h3 tk3 d mA S3 m1 m2 m3=>⟨rfl,hk e _ ?_⟩
 have fsIn:∀ b ∈ fsOf F.envs,∃ o,s.heap.get? b=some o:=fun b hb=>O.lt b (by rw [O.out b (O.fix.fso b hb)]; nofun)
 have notF:∀ b o,s.heap.get? b=some o → b ∉ fsOf F.envs → b ∉ e::fsOf F.envs:=fun b o q n z=>by
  rcases List.mem_cons.mp z with z | z
  ·exact ne_there hm.new q z
  ·exact n z
 obtain ⟨oe,ho,hoc,_,hod⟩:=S3.inst.obj
 obtain ⟨t',oe',ho',hf'⟩:=S3.fields
 rw [ho] at ho'; cases ho'
 have fz0:∀ b o,C.h₀.get? b=some o → b ∉ fsOf F.envs:=fun b o q z=>by
  have:=O.zero q
  rw [O.out b (O.fix.fso b z)] at this; cases this
 refine ⟨⟨h3,tk3,rfl⟩,.of_keeps S3.keep,hideAll h3 (e::fsOf F.envs),d,oe,t',⟨fun b o q=>hideAll_get _ (S3.keep b o (base b o q)) (notF b o (base b o q) (fz0 b o q)),fun b o q n _=>hideAll_get _ (S3.keep b o q) (notF b o q n)⟩,fun b o q=>of_hideAll _ q,hideAll_none _ (.head _),
  funFrames_hide (funFrames_step O.ff fun b hb o q=>⟨o,S3.keep b o q,id⟩) fun env he a hfa=>.tail _ (List.mem_filterMap.mpr ⟨env,he,hfa⟩),?_,ho,hoc,hf',hod⟩
 have dn:d ∉ e::fsOf F.envs:=fun z=>by
  rcases List.mem_cons.mp z with z | z
  ·exact S3.inst.ne z
  ·obtain ⟨o,q⟩:=fsIn d z
   exact ne_there S3.d0 q rfl
 obtain ⟨o4,es4,ep4,h4,r4⟩:=S3.inst.ns.ns
 exact ⟨mA,⟨o4,es4,ep4,hideAll_get _ h4 dn,r4⟩,⟨t1,m1⟩,⟨t2,m2⟩,ta,tvs,m3,isTup_keep it fun o q=>hideAll_get _ (S3.keep _ _ q) (notF ta o q (hfs ▸ (O.mine (a:=ta) (by rw [nMt]; nofun)).1)),texts_of rt,nMt⟩
section
variable {C:Cx} {F:Frm} {H:Hd} {V:Vs} {q:Option Int} {s:Shared}
theorem mde_lift (O:Ok C F H V q s) (hfs:F.fs=fsOf F.envs) {x:Exn} {e:Addr} {s':Shared} (m:Mde C F.envs F.pa s x e s'):Mde C F.envs F.pa F.b x e s' :=
 let ⟨B,d,oe,t,u,b3,b4,b5,b6,r⟩:=m.way
 ⟨O.st.trans m.st,ext_lift O hfs (fun _ z=>z) m.ext,B,d,oe,t,under_lift O hfs (fun _ z=>z) u,b3,b4,b5,b6.mono fun _=>new_lift O,r⟩
theorem inst_of_M {d f:Nat} {args:List SV} {x:Exn} (k:∀ y ∈ args,∃ l,y=.val (.str l)) (h:InstM C d f args x):InstAt C d f args x:=by
 intro F H V q s vs a R O hfs Rm hfa ha hQ
 have mk:∀ b,(∃ o,s.heap.get? b=some o) ∧ C.h₀.get? b=none ∨ ¬ ((∃ o,s.heap.get? b=some o) ∧ C.h₀.get? b=none):=fun b=>Classical.em _
 obtain ⟨ω,hω⟩:∃ ω:Addr → Nat,∀ b,(ω b=1 ∧ (∃ o,s.heap.get? b=some o) ∧ C.h₀.get? b=none) ∨ (ω b=0 ∧ ¬ ((∃ o,s.heap.get? b=some o) ∧ C.h₀.get? b=none)) :=
  Classical.axiomOfChoice (r:=fun b n=>(n=1 ∧ (∃ o,s.heap.get? b=some o) ∧ C.h₀.get? b=none) ∨ (n=0 ∧ ¬ ((∃ o,s.heap.get? b=some o) ∧ C.h₀.get? b=none))) fun b=>(mk b).elim (fun z=>⟨1,.inl ⟨rfl,z⟩⟩) fun z=>⟨0,.inr ⟨rfl,z⟩⟩
 have one:∀ b,ω b ≠ 0 → ω b=1 ∧ (∃ o,s.heap.get? b=some o) ∧ C.h₀.get? b=none:=fun b hb=>(hω b).elim id fun z=>absurd z.1 hb
 have O':Ok C F noHd ⟨V.m,[],ω⟩ q s :=
  {fix:=O.fix,st:=O.st,base:=O.base,ff:=O.ff,ns:=O.ns,pen:=O.pen,ent:=O.ent
   slots:=fun i n v _ e=>by cases e
   lt:=fun b hb=>(one b hb).2.1
   out:=fun b hb=>by
    have h1:=O.out b hb
    exact (hω b).elim (·.1) fun z=>absurd ⟨O.lt b (by rw [h1]; nofun),O.nb b (by rw [h1]; nofun)⟩ z.2
   new:=fun b hb=>by
    have hb:2 ≤ ω b:=hb
    rw [(one b fun z=>by rw [z] at hb; exact absurd hb (by decide)).1] at hb
    exact absurd hb (by decide)
   nb:=fun b hb=>(one b hb).2.2
   hold:=fun _ _ h=>h.elim,gd:=fun _ _ h=>h.elim,io:=fun _ h=>h.elim }
 have ha':∀ {args:List SV} {vs:List Value},(∀ y ∈ args,∃ l,y=.val (.str l)) → ArgsRep V.ω F.pa s.heap args vs → ArgsRep ω F.pa s.heap args vs:=fun {args}=>by
  induction args with
  | nil=>exact fun _ r=>r
  | cons y args ih =>
   intro vs k r
   obtain ⟨v,ws,e,a,r⟩:=r
   obtain ⟨l,rfl⟩:=k y (.head _)
   exact ⟨v,ws,e,a,ih (fun y hy=>k y (.tail _ hy)) r⟩
 refine h F noHd _ q s vs a R O' hfs Rm hfa (ha' k ha) fun e s' m=>hQ e s' (mde_lift O hfs ⟨m.st,m.ext,?_⟩)
 obtain ⟨B,d,oe,t,u,b3,b4,b5,b6,r⟩:=m.way
 refine ⟨B,d,oe,t,u,b3,b4,b5,b6.mono fun a n=>?_,r⟩
 rcases hω a with z | z
 ·rw [show ω a=0 from n] at z; cases z.1
 ·cases e:s.heap.get? a with
  | none=>exact .inl e
  | some o =>
   cases e':C.h₀.get? a with
   | none=>exact absurd ⟨⟨o,e⟩,e'⟩ z.2
   | some o=>exact .inr ⟨o,e'⟩
theorem maker_ok {f g:Nat} {fd:FuncData} {body:List Stmt} {names:List Str} {np d d':Nat} {l:CEs} {Φ:Fn} {X:XF} {ps:List An} (hok:C.Ok) (tree:(model C.prog C.w).prog.given.tree=none) (D:FnD C f fd body names np)
  (hb:(toSs (.cons (.retn (.call g l)) .nil) (scD C fd names) ps).x=body) (ho:(toSs (.cons (.retn (.call g l)) .nil) (scD C fd names) ps).ok=true)
  (hΦ:∀ g args p r,Φ g args p=some r → CallAt C d' g args p r) (hX:∀ g vs x,X g vs=some x → InstAt C d' g vs x) (hR:RaisesOk C) (hlt:d' + 1 ≤ d)
  {args vs':List SV} {x:Exn} (hlen:args.length=np) (e:∀ p (K:List SV → Option Int → RR),kEs l Φ (pad args (names.length - np)) p K=K vs' p) (hx:InstM C d' g vs' x):InstM C d f args x:=by
 intro F H V q s vs a R O hfs Rm hfa ha hQ
 refine fn_enter (p:=q) hok tree D hΦ hX hR hlt O hfs Rm hfa ha hlen (fun _ z=>z) O.pen fun env L V' s1 hf hl hLn hk hsv h O'=>?_
 have hsc:scOf C (calF F V s env L F.pa names Φ d')=scD C fd names:=by
  show Sc.mk (fun n=>env.kindOf n) names C.fn=_
  rw [hk]; rfl
 rw [← hsc] at hb ho
 rw [← hb]
 have n1:=and_l ho
 have n2:=and_r n1
 have n3:=and_l n2
 refine wpAny_execs_cons (wpAny_Return_some (call_fn (pa:=F.pa) (r:=.ok (.none,none)) (K:=fun ss _=>@ite _ (ss=vs') (Classical.propDecidable _) (endK .none none) none) (spOk l) h.hy O' (and_l n3) (and_r n3) (and_r n2) (fun x ex=>nomatch ex) (.inl rfl) (by rw [hsv]; exact (e _ _).trans (if_pos rfl)) fun fa hfa2 ss vs2 q2 s2 O2 r2 e2=>?_))
 obtain rfl:ss=vs':=Classical.byContradiction fun n=>by rw [if_neg n] at e2; cases e2
 refine wpAny_call (hx _ _ _ _ s2 vs2 fa _ O2 h.lk.fs h.hy.room hfa2 r2 fun e s3 m=>?_)
 obtain ⟨B,d,oe,t,u,b3,b4,b5,b6,r⟩:=m.way
 have fsE:fsOf (env::F.envs)=L::fsOf F.envs:=List.filterMap_cons_some hf
 have notL:∀ b o,s.heap.get? b=some o → b ∉ fsOf F.envs → b ∉ fsOf (env::F.envs):=fun b o e n z=>by
  rcases List.mem_cons.mp (fsE ▸ z:b ∈ L::fsOf F.envs) with z | z
  ·exact ne_there hLn e z
  ·exact n z
 have x2:Ext (fsOf (env::F.envs)) F.pa s.heap s3.heap:=Ext.trans O2.ent m.ext
 exact hQ e s3 ⟨O2.st.trans m.st,⟨fun b o e n np=>x2.keep b o e (notL b o e n) np,fun b o e hb=>x2.frm b o e (by rw [fsE]; exact .tail _ hb)⟩,B,d,oe,t,
  ⟨u.1,fun b o e n np=>u.2 b o (Ext.keep O2.ent b o e (notL b o e n) np) (notL b o e n) np⟩,b3,b4,b5.2.2,b6.mono fun a z=>Classical.byContradiction fun n=>(by rw [O2.out a (.inl n)] at z; cases z),r⟩
end
end
end Mp
end
section
open PySem PySem.W PyProof.Rows PySem.Calls PyProof
set_option Elab.async false
set_option maxRecDepth 100000
set_option maxHeartbeats 4000000
set_option genInjectivity false
set_option linter.unusedVariables false
namespace Mp
noncomputable section
section
variable {prog:Program} {w:World} {A:Around} {E:Value → Shared → Prop} {h:Heap} {g:Array GenState} {d:Drawn} {t:Nat} {os:OsState}
variable {nm q:Str} {C N a dx:Addr} {bs:List Value} {sn:List Str} {sub:List Value} {ab:Bool} {col:Option Bool} {dd:Option Addr} {k0 k1 k2 k3 k5:Option Value} {newId:String}
 {mN mA:Str → Option Value} {name:Str} {v:Value} {o:Obj} {vs:Array Value}
theorem attr_entry {tk:Tok} {Q:Fin → Shared → Prop} (hC:h.get? C=some (excClassObj nm q C N bs excBm true sn sub ab col dd k0 k1 k2 k3 k5 newId)) (hN:h.Ns N mN)
  (hna:mN name=none) (hB:typeLookup (.type "Exception") name=pure none) (hx:h.get? a=some o) (hc:o.cls=.ref C) (hd:o.data=.fields vs) (hdd:o.dict=some dx) (hns:h.Ns dx mA) (hv:mA name=some v) (hh:handedOut v=pure v) (hq:Q (.done (.ret v)) ⟨h,g,d,t,os⟩) :
  wpAny (model prog w) A (Builtin.«object.__getattribute__» ⟨[.ref a,.str name tk],[]⟩) Q E ⟨h,g,d,t,os⟩:=by
 unfold Builtin.«object.__getattribute__»
 repeat (first | (with_reducible refine wpAny_loadPart_at hx ?_; rw [hc]) | (with_reducible refine wpAny_typeLookup_exc hC hN PySem.F.attrBase_Exception.mro hB ?_; rw [hna]) | wp_step)
 rw [hd]
 unfold instanceDict
 repeat (first | (with_reducible refine wpAny_loadPart_at hx ?_; rw [hc]) | with_reducible refine wpAny_loadPart_at hC ?_ | wp_step)
 rw [hdd]
 repeat (first | (with_reducible refine wpAny_nsGet hns ?_; rw [hv]) | wp_step)
 exact hq
theorem attr_call {tk:Tok} {R:Result → Shared → Prop} (hC:h.get? C=some (excClassObj nm q C N bs excBm true sn sub ab col dd k0 k1 k2 k3 k5 newId)) (hN:h.Ns N mN)
  (hna:mN name=none) (hB:typeLookup (.type "Exception") name=pure none) (hx:h.get? a=some o) (hc:o.cls=.ref C) (hd:o.data=.fields vs) (hdd:o.dict=some dx) (hns:h.Ns dx mA) (hv:mA name=some v) (hh:handedOut v=pure v) (hq:R (.ok (.ret v)) ⟨h,g,d,t,os⟩) :
  codeAny (model prog w) A (.call (.builtin "BaseException.__getattribute__") ⟨[.ref a,.str name tk],[]⟩) R ⟨h,g,d,t,os⟩ :=
 codeAny_call_builtin PySem.F.attrBase_Exception.ga.plain PySem.F.entry_bexc_ga (wpAny_check_ga_own PySem.F.attrBase_Exception hC .base hx hc (attr_entry hC hN hna hB hx hc hd hdd hns hv hh hq))
theorem attr_by {tk:Tok} {fill expr:Bool} {Q:Value → Shared → Prop} (hC:h.get? C=some (excClassObj nm q C N bs excBm true sn sub ab col dd k0 k1 k2 k3 k5 newId)) (hN:h.Ns N mN) (hg1:mN "__getattribute__"=none) (hg2:mN "__getattr__"=none)
  (hna:mN name=none) (hB:typeLookup (.type "Exception") name=pure none) (hx:h.get? a=some o) (hc:o.cls=.ref C) (hd:o.data=.fields vs) (hdd:o.dict=some dx) (hns:h.Ns dx mA) (hv:mA name=some v) (hh:handedOut v=pure v) (hq:Q v ⟨h,g,d,t,os⟩) :
  wpAny (model prog w) A (getAttrBy (.ref a) (.str name tk) fill expr) Q E ⟨h,g,d,t,os⟩:=by
 have f3:=PySem.F.attrBase_Exception.ga.bind (.ref a)
 have hx0:(expr && onTheHeap (Value.builtin "BaseException.__getattribute__"))=false:=by cases expr <;> rfl
 have hx2:(Value.builtin "BaseException.__getattribute__" == Value.builtin "object.__getattribute__")=false:=by decide +kernel
 have hx1:(onTheHeap (Value.ref C) && Value.builtin "BaseException.__getattribute__" == Value.builtin "object.__getattribute__")=false:=by rw [hx2]; rfl
 unfold getAttrBy
 repeat (any_goals (first | assumption | (with_reducible refine wpAny_loadPart_at hx ?_; rw [hc]) | (with_reducible refine wpAny_typeLookup_exc hC hN PySem.F.attrBase_Exception.mro PySem.F.attrBase_Exception.ga.lookup ?_; rw [hg1]) | (with_reducible refine wpAny_typeLookup_exc hC hN PySem.F.attrBase_Exception.mro PySem.F.attrBase_Exception.noGetattr ?_; rw [hg2]) | wp_step))
 refine attr_call hC hN hna hB hx hc hd hdd hns hv hh ?_
 repeat (any_goals (first | assumption | wp_step))
theorem attr_get {expr:Bool} {Q:Value → Shared → Prop} (hC:h.get? C=some (excClassObj nm q C N bs excBm true sn sub ab col dd k0 k1 k2 k3 k5 newId)) (hN:h.Ns N mN) (hg1:mN "__getattribute__"=none) (hg2:mN "__getattr__"=none)
  (hna:mN name=none) (hB:typeLookup (.type "Exception") name=pure none) (hx:h.get? a=some o) (hc:o.cls=.ref C) (hd:o.data=.fields vs) (hdd:o.dict=some dx) (hns:h.Ns dx mA) (hv:mA name=some v) (hh:handedOut v=pure v) (hq:Q v ⟨h,g,d,t + 1,os⟩) :
  wpAny (model prog w) A (getAttr (.ref a) name expr) Q E ⟨h,g,d,t,os⟩:=by
 unfold getAttr
 repeat (any_goals (first | assumption | with_reducible apply attr_by hC hN hg1 hg2 hna hB hx hc hd hdd hns hv hh | wp_step))
end
section
variable {M:Model} {A:Around} {E:Value → Shared → Prop} {s:Shared}
theorem note_dict {base:Heap} {env:Env} {outer:List Env} {L e:Addr} {oe:Obj} {cls a0:Value} (hfr:A.frames=some (env::outer)) (hf:env.frame=some L) (fl:Heap.FlyingW base (env::outer) e cls a0 s.heap) (ho:s.heap.get? e=some oe) {Q:Unit → Shared → Prop}
  (h:∀ h' o',h'.get? e=some o' → o'.dict=oe.dict → Q () { s with heap:=h' }):wpAny M A (noteFrame (.ref e) env) Q E s:=by
 obtain ⟨f1,f2,hl,oe',vs,T,oT,ts,he,hcls,hd,h1,hnT,hTe,hT,hdT,h3⟩:=fl
 rw [ho] at he; cases he
 unfold noteFrame
 simp only [hf]
 refine wpAny_bind (wpAny_field ho hd h1 ?_)
 rw [if_pos (show (Value.ref T != Value.none)=true from by simp)]
 refine wpAny_bind (wpAny_field hT hdT h3 ?_)
 rw [if_neg (show ¬ ((Value.none == rawInt L)=true) from by simp [rawInt])]
 refine wpAny_bind (wpAny_setField hT hdT (Array.getElem?_eq_some_iff.mp h3).1 ?_)
 have other:∀ b,b ≠ T → (s.heap.update T (Obj.mapFields (·.setIfInBounds 3 Value.none))).get? b=s.heap.get? b:=fun b hb=>Heap.get?_update_other _ _ (Ne.symm hb)
 have noRecord:∀ b o,s.heap.get? b=some o → (∀ vs,o.data ≠ .fields vs) → b ≠ T:=fun b o hb hnf q=>by
  rw [q,hT] at hb; injection hb with hb; subst hb; exact hnf ts hdT
 refine entry_dict (s:={ s with heap:=_ }) hfr (hl.of_keeps fun b o hb hnf=>⟨o,(other b (noRecord b o hb hnf)).trans hb,rfl⟩) hf ((other e (Ne.symm hTe)).trans ho) hd (Array.getElem?_eq_some_iff.mp h1).1 fun h' T oT ts hTe he' hT hdT h3=>h h' _ he' (dict_mapFields _ _)
theorem land_dict {base:Heap} {l:List Env} {e:Addr} {oe:Obj} {cls a0 fl:Value} {fr:Option Addr} (tr:s.heap.TracedAtW base e cls a0 fl) (ho:s.heap.get? e=some oe) {Q:Unit → Shared → Prop}
  (h:∀ h',h'.get? e=some oe → Q () { s with heap:=h' }):wpAny M A (setFlight (.ref e) fr) Q E s:=by
 obtain ⟨oe',vs,T,oT,ts,he,hcls,hd,h1,hnT,hTe,hT,hdT,h3⟩:=tr
 rw [ho] at he; cases he
 exact flight_dict hTe ho hd h1 hT hdT (Array.getElem?_eq_some_iff.mp h3).1 h
theorem noted_on {base:Heap} {env:Env} {outer:List Env} {L e:Addr} {oe:Obj} {cls a0:Value} (hfr:A.frames=some (env::outer)) (hf:env.frame=some L) (fl:Heap.FlyingW base (env::outer) e cls a0 s.heap) (ho:s.heap.get? e=some oe) {Q:Unit → Shared → Prop}
  (h:∀ h' o',Heap.HeldW base (env::outer) e cls a0 L h' → s.heap.UpToSlots h' → h'.get? e=some o' → o'.dict=oe.dict → Q () { s with heap:=h' }):wpAny M A (noteFrame (.ref e) env) Q E s:=by
 refine wpAny_mono (any_both (wpAny_looks_onW (Q:=fun _ s'=>∃ h',s'={ s with heap:=h' } ∧ Heap.HeldW base (env::outer) e cls a0 L h' ∧ s.heap.UpToSlots h') (E:=E) hfr hf fl fun h' x1 x2=>⟨h',rfl,x1,x2⟩)
  (note_dict (Q:=fun _ s'=>∃ o',s'.heap.get? e=some o' ∧ o'.dict=oe.dict) (E:=E) hfr hf fl ho fun h' o' e1 e2=>⟨o',e1,e2⟩)) (fun _ s' q=>?_) fun _ _ q=>q.1
 obtain ⟨⟨h',rfl,x1,x2⟩,o',e1,e2⟩:=q
 exact h h' o' x1 x2 e1 e2
theorem landed_on {base:Heap} {l:List Env} {e L:Addr} {oe:Obj} {cls a0:Value} (hh:Heap.HeldW base l e cls a0 L s.heap) (ho:s.heap.get? e=some oe) {Q:Unit → Shared → Prop}
  (h:∀ h',Heap.FlyingW base l e cls a0 h' → s.heap.UpToSlots h' → h'.get? e=some oe → Q () { s with heap:=h' }):wpAny M A (setFlight (.ref e) none) Q E s:=by
 refine wpAny_mono (any_both (wpAny_landsW (Q:=fun _ s'=>∃ h',s'={ s with heap:=h' } ∧ Heap.FlyingW base l e cls a0 h' ∧ s.heap.UpToSlots h') (E:=E) hh fun h' x1 x2=>⟨h',rfl,x1,x2⟩)
  (land_dict (l:=l) (Q:=fun _ s'=>s'.heap.get? e=some oe) (E:=E) hh.2.2.2 ho fun h' e1=>e1)) (fun _ s' q=>?_) fun _ _ q=>q.1
 obtain ⟨⟨h',rfl,x1,x2⟩,e1⟩:=q
 exact h h' x1 x2 e1
theorem again_on {base:Heap} {l:List Env} {e:Addr} {oe:Obj} {cls a0:Value} (hh:Heap.FlyingW base l e cls a0 s.heap) (ho:s.heap.get? e=some oe) {Q:Unit → Shared → Prop}
  (h:∀ h',Heap.FlyingW base l e cls a0 h' → s.heap.UpToSlots h' → h'.get? e=some oe → Q () { s with heap:=h' }):wpAny M A (setFlight (.ref e) none) Q E s:=by
 refine wpAny_mono (any_both (lands_againW (Q:=fun _ s'=>∃ h',s'={ s with heap:=h' } ∧ Heap.FlyingW base l e cls a0 h' ∧ s.heap.UpToSlots h') (E:=E) hh fun h' x1 x2=>⟨h',rfl,x1,x2⟩)
  (land_dict (l:=l) (Q:=fun _ s'=>s'.heap.get? e=some oe) (E:=E) hh.2.2.2.at ho fun h' e1=>e1)) (fun _ s' q=>?_) fun _ _ q=>q.1
 obtain ⟨⟨h',rfl,x1,x2⟩,e1⟩:=q
 exact h h' x1 x2 e1
end
structure Land (C:Cx) (envs:List Env) (b:Shared) (x:Exn) (e:Addr) (s s':Shared):Prop where
 st:StOf s s'
 up:s.heap.UpToSlots s'.heap
 way:∃ B d a0 o,Under C envs none b.heap B ∧ B.FlyingW envs e (.ref C.exc) a0 s'.heap ∧ ExcIs (newIn C b.heap) B d x ∧ s'.heap.get? e=some o ∧ o.dict=some d
theorem try_notes {C:Cx} {A:Around} {E:Value → Shared → Prop} {env:Env} {outer:List Env} {L e:Addr} {b s:Shared} {x:Exn} {Q:Unit → Shared → Prop} (hfr:A.frames=some (env::outer)) (hf:env.frame=some L) (F:Fly C (env::outer) none b x e s)
  (k:∀ s',Land C (env::outer) b x e s s' → Q () s'):wpAny (model C.prog C.w) A (noteFrame (.ref e) env) (fun _ s'=>wpAny (model C.prog C.w) A (setFlight (.ref e) none) Q E s') E s:=by
 obtain ⟨B,d,a0,oe,u,fl,ex,hoe,hod⟩:=F.way
 refine noted_on hfr hf fl hoe fun h3 o3 hh3 up3 ho3 hd3=>?_
 exact landed_on (s:={ s with heap:=h3 }) hh3 ho3 fun h4 fl4 up4 ho4=>k _ ⟨⟨h4,s.toks,rfl⟩,up3.trans up4,B,d,a0,o3,u,fl4,ex,ho4,hd3.trans hod⟩
theorem try_again {C:Cx} {A:Around} {E:Value → Shared → Prop} {envs:List Env} {e:Addr} {b s0 s:Shared} {x:Exn} {Q:Unit → Shared → Prop} (F:Land C envs b x e s0 s) (k:∀ s',Land C envs b x e s0 s' → Q () s'):wpAny (model C.prog C.w) A (setFlight (.ref e) none) Q E s:=by
 obtain ⟨B,d,a0,o,u,fl,ex,ho,hod⟩:=F.way
 exact again_on fl ho fun h5 fl5 up5 ho5=>k _ ⟨F.st.trans ⟨h5,s.toks,rfl⟩,F.up.trans up5,B,d,a0,o,u,fl5,ex,ho5,hod⟩
end
noncomputable section
theorem reps_texts {ω:Addr → Nat} {h:Heap} {ec:List (List Nat)}:∀ {vs:List Value},TextsAre ec vs → Reps ω h (ec.map PV.str) vs:=by
 induction ec with
 | nil=>exact id
 | cons l ec ih=>intro vs t; obtain ⟨t,ws,rfl,r⟩:=t; exact ⟨_,ws,rfl,⟨t,rfl⟩,ih r⟩
structure Got (C:Cx) (env:Env) (L:Addr) (n:Str) (x:Exn) (B:Heap) (ea d ta:Addr) (m:Str → Option Value) (h:Heap):Prop where
 ns:h.Ns env.locals m
 at_:m n=some (.ref ea)
 base:∀ b o,C.h₀.get? b=some o → h.get? b=some o
 keep:∀ b o,B.get? b=some o → h.get? b=some o
 obj:∃ o vs,h.get? ea=some o ∧ o.cls=.ref C.exc ∧ o.data=.fields vs ∧ o.dict=some d
 dict:∃ mx tvs,h.Ns d mx ∧ (∃ t,mx "code"=some (.int x.code t)) ∧ (∃ t,mx "value"=some (.str ⟨x.value.toArray⟩ t)) ∧ mx "errorcode"=some (.ref ta) ∧ IsTup h ta tvs.toArray ∧ TextsAre x.ec tvs
theorem got_attr {C:Cx} {A:Around} {E:Value → Shared → Prop} {env:Env} {L:Addr} {n:Str} {x:Exn} {B:Heap} {ea d ta:Addr} {m:Str → Option Value} {N fI:Addr} {s:Shared} (X:C.K.In C.h₀) (DE:ExcD C N fI) (G:Got C env L n x B ea d ta m s.heap)
  (hk:env.scope.kind=.function) (hl:env.kindOf n=some .local ∧ (n == ("__debug__":Str))=false) {nm:Str} {v:Value} {p1 p2:Pos} {mx:Str → Option Value} {Q:Value → Shared → Prop} (hd:s.heap.Ns d mx) (hv:mx nm=some v) (hn:nm ∈ (["code","value","errorcode"]:List Str)) (hh:handedOut v=pure v)
  (k:Q v { s with toks:=s.toks + 1 }):wpAny (model C.prog C.w) A (eval (.Attribute (.Name n p1) nm p2) env) Q E s:=by
 have hn2:=(by decide:∀ z ∈ (["code","value","errorcode"]:List Str),z ∈ excNames ∧ z ∈ (["code","value","errorcode","level","ret","info","is_noted","line","extra"]:List Str)) nm hn
 obtain ⟨⟨nm6,q6,bs6,sn6,sub6,ab6,col6,dd6,k06,k16,k26,k36,k56,hC6⟩,hN6,hnone⟩:=cls_facts X DE (h0:=C.h₀) (fun _ _ e=>e) G.base
 obtain ⟨o,vs,ho,hc,hdt,hdd⟩:=G.obj
 exact Attribute_name (wpAny_Name (wpAny_loadName_local hk hl.1 G.ns G.at_ (attr_get hC6 hN6 (hnone _ (by decide)) (hnone _ (by decide)) (hnone _ hn2.1) (hB_1 hn2.2) ho hc hdt hdd hd hv hh k)) hl.2)
theorem got_told {C:Cx} {A:Around} {E:Value → Shared → Prop} {env:Env} {L:Addr} {n:Str} {x:Exn} {B:Heap} {ea d ta:Addr} {m:Str → Option Value} {N fI:Addr} {s:Shared} (X:C.K.In C.h₀) (DE:ExcD C N fI) (G:Got C env L n x B ea d ta m s.heap)
  (hk:env.scope.kind=.function) (hl:env.kindOf n=some .local ∧ (n == ("__debug__":Str))=false) {a1 a2 a3 b1 b2 b3 p3 p4:Pos} {k:Nat} {Q:Flow → Shared → Prop}
  (kk:∀ D vs h' tk,s.heap.get? D=none → (∀ b o,s.heap.get? b=some o → h'.get? b=some o) → IsTup h' D vs.toArray → (∀ ω h2,ω ta=0 → (∀ o,h'.get? ta=some o → h2.get? ta=some o) → Reps ω h2 [.int x.code,.str x.value,.tup (x.ec.map .str)] vs) → Q (.ret (.ref D)) { s with heap:=h',toks:=tk }) :
  wpAny (model C.prog C.w) A (execs [.Return (some (.Tuple [.Attribute (.Name n a1) "code" b1,.Attribute (.Name n a2) "value" b2,.Attribute (.Name n a3) "errorcode" b3] k p3)) p4] env) Q E s:=by
 obtain ⟨mx,tvs,hd,⟨tc,e1⟩,⟨tv,e2⟩,e3,it,tx⟩:=G.dict
 refine wpAny_execs_cons (wpAny_Return_some (wpAny_Tuple ?_))
 refine Calls.spliced_cons (got_attr X DE G hk hl hd e1 (by decide) rfl (Calls.spliced_cons (got_attr X DE (s:={ s with toks:=s.toks + 1 }) G hk hl hd e2 (by decide) rfl (Calls.spliced_cons (got_attr X DE (s:={ s with toks:=s.toks + 1 + 1 }) G hk hl hd e3 (by decide) rfl (Calls.spliced_nil ⟨by show 3 ≤ sizeLine; decide,?_⟩))))))
 refine kk s.heap.objs.size [Value.int x.code tc,.str ⟨x.value.toArray⟩ tv,.ref ta] _ _ (none_at _) (fun b o q=>Heap.get?_push_of_some _ q) ⟨_,Heap.get?_push_size _ rfl,rfl,_,rfl⟩ fun ω h2 z kt=>?_
 refine ⟨_,_,rfl,⟨tc,rfl⟩,_,_,rfl,⟨tv,rfl⟩,_,_,rfl,⟨ta,tvs,rfl,z,isTup_keep it fun o q=>kt o (Heap.get?_push_of_some _ q),reps_texts tx⟩,rfl⟩
noncomputable def tryB (x:PExpr) (xn n:Str) (p1 p2 p3 p4 p5 p6 a1 a2 a3 b1 b2 b3:Pos) (k:Nat):List Stmt :=
 [.Try [.Return (some x) p1] [.ExceptHandler (some (.Name xn p2)) (some n) [.Return (some (.Tuple [.Attribute (.Name n a1) "code" b1,.Attribute (.Name n a2) "value" b2,.Attribute (.Name n a3) "errorcode" b3] k p3)) p4] p5] [] [] p6]
section
variable {C:Cx} {env:Env} {outer:List Env} {L:Addr} {N fI:Addr}
theorem got_of {b s2 s5:Shared} {x:Exn} {ea:Addr} (hf:env.frame=some L) (hl:env.locals=L) (Ld:Land C (env::outer) b x ea s2 s5) {h6:Heap} {m:Str → Option Value} {n:Str} (ns:h6.Ns env.locals fun y=>if y=n then some (.ref ea) else m y) (sb:Heap.SameBut env.locals s5.heap h6) :
  ∃ B d ta,Got C env L n x B ea d ta (fun y=>if y=n then some (.ref ea) else m y) h6 ∧ newIn C b.heap ta ∧ Under C (env::outer) none b.heap B ∧ ta ≠ L:=by
 obtain ⟨B,d,a0,o,u,fl,⟨mx,exn,e1,e2,ta,tvs,e3,it,tx,fr⟩,ho,hod⟩:=Ld.way
 have f1:=fl.1
 obtain ⟨_,⟨L',o',hf',hn',ho',hnf⟩,_⟩:=fl.2.2.1
 rw [hf] at hf'; cases hf'
 obtain ⟨_,_,_,oe,vs,_,_,_,he,⟨hc,_⟩,hd,_⟩:=fl
 rw [ho] at he; cases he
 have k6:∀ b o,b ≠ L → s5.heap.get? b=some o → h6.get? b=some o:=fun b o nb e=>(sb.2 b (by rw [hl]; exact nb)).trans e
 have keep:∀ b o,B.get? b=some o → h6.get? b=some o:=fun b o q=>k6 b o (ne_there hn' q) (f1 b o q)
 have eL:ea ≠ L:=fun z=>by
  rw [← z] at ho'; rw [ho] at ho'; cases ho'; exact hnf _ hd
 exact ⟨B,d,ta,⟨ns,if_pos rfl,fun b o q=>keep b o (u.1 b o q),keep,⟨o,vs,k6 _ _ eL ho,hc,hd,hod⟩,mx,tvs,exn.keeps keep,e1,e2,e3,isTup_keep it (keep ta),tx⟩,fr,u,let ⟨o,ho⟩:=tup_there it; ne_there hn' ho⟩
theorem try_catch {A:Around} (hok:C.Ok) (DE:ExcD C N fI) {xn:Str} {i:Nat} (hr:C.fns[i]?=some (xn,C.exc)) (hfr:A.frames=some (env::outer)) (hf:env.frame=some L) (hl:env.locals=L) (hk:env.scope.kind=.function) (hg:env.globals=mainGlobals)
  {n:Str} (hn:env.kindOf n=some .local ∧ (n == ("__debug__":Str))=false) (hkx:env.kindOf xn=some .globalImplicit) {x:Exn} {ea:Addr} {b s2:Shared} (h0L:b.heap.get? L=none) (Fy:Fly C (env::outer) none b x ea s2) (hns:∃ m,s2.heap.Ns env.locals m) {a1 a2 a3 b1 b2 b3 p2 p3 p4 p5:Pos} {kk:Nat} {Q:Flow → Shared → Prop} {E:Value → Shared → Prop}
  (k:∀ s8 v,StOf b s8 → Ext (fsOf outer) none b.heap s8.heap → (∀ ω,(∀ a,newIn C b.heap a → ω a=0) → Rep ω s8.heap (.tup [.int x.code,.str x.value,.tup (x.ec.map .str)]) v) → Q (.ret v) s8) :
  wpAny (model C.prog C.w) A (noteFrame (.ref ea) env) (fun _ s3=>wpAny (model C.prog C.w) A (setFlight (.ref ea) none) (fun _ s4=>wpAny (model C.prog C.w) A (handleBy (.ref ea) env
   [.ExceptHandler (some (.Name xn p2)) (some n) [.Return (some (.Tuple [.Attribute (.Name n a1) "code" b1,.Attribute (.Name n a2) "value" b2,.Attribute (.Name n a3) "errorcode" b3] kk p3)) p4] p5]) Q E s4) E s3) E s2:=by
 refine try_notes hfr hf Fy fun s4 Ld=>?_
 obtain ⟨m,hns⟩:=hns
 obtain ⟨B,d,a0,o,u,fl,ex,ho,hod⟩:=Ld.way
 have base4:C.h₀.StaysIn s4.heap:=fun b o q=>fl.1 b o (u.1 b o q)
 obtain ⟨_,_,_,oe,vs,_,_,_,he,⟨hc,_⟩,hd,_⟩:=fl
 rw [ho] at he; cases he
 obtain ⟨⟨nm',q,bs,sn,sub,ab,col,dd',k0,k1',k2,k3,k5,hC4⟩,_,_⟩:=cls_facts hok.X DE (h0:=C.h₀) (fun _ _ e=>e) base4
 obtain ⟨f1,f2,f3⟩:=hok.fnOk _ (List.mem_of_getElem? hr)
 have hg4:=hok.T.g.keeps base4
 rw [← hg] at hg4
 have hs:(env.scope.kind == .class || (env.scope.kind == .module && env.locals != env.globals))=false:=by rw [hk]; rfl
 refine wpAny_handleBy_cons (codeAny_handlers_test (Name_function_global hk hkx (loadGlobal_global hg4 (mg_of hok.X hok.T.g f1) ?_) f3)) nofun
 refine wpAny_excMatches_sub_self hC4 ho hc (by decide) (codeAny_handlers_suite_as (try_again Ld fun s5 Ld5=>?_))
 have ns5:s5.heap.Ns env.locals m:=by
  rw [hl] at hns ⊢
  exact Ld5.up.ns hns
 refine wpAny_storeName_local hn.1 ns5 (fun h6 ns6 sb6=>?_) hs
 obtain ⟨B,d,ta,G,hta,u,taL⟩:=got_of hf hl Ld5 ns6 sb6
 refine got_told (s:={ s5 with heap:=h6,toks:=s5.toks + 1 }) hok.X DE G hk hn fun D vs h7 tk hD k7 it rp=>?_
 refine wpAny_nameGoes_keeps hn.1 (ns6.keeps k7) hs fun h8 v8 ns8 sb8=>?_
 have fsE:fsOf (env::outer)=L::fsOf outer:=List.filterMap_cons_some hf
 have k8:∀ c o,c ≠ L → h7.get? c=some o → h8.get? c=some o:=fun c o nc e=>(sb8.2 c (by rw [hl]; exact nc)).trans e
 have nL:∀ c o,b.heap.get? c=some o → c ∉ fsOf outer → c ∉ fsOf (env::outer):=fun c o e n z=>by
  rcases List.mem_cons.mp (fsE ▸ z:c ∈ L::fsOf outer) with z | z
  ·exact ne_there h0L e z
  ·exact n z
 have LD:D ≠ L:=fun z=>by
  obtain ⟨o,ho⟩:=ns_there ns6
  rw [hl,← z] at ho
  exact ne_there hD ho rfl
 have X6:Ext (fsOf outer) none b.heap h6:=⟨fun c o e nc _=>G.keep c o (u.2 c o e (nL c o e nc) nofun),fun c o e hc=>by
  have hc':c ∈ fsOf (env::outer):=by rw [fsE]; exact .tail _ hc
  obtain ⟨sl,e2⟩:=Fy.ext.frm c o e hc'
  obtain ⟨B',d',a',o',u',fl',_⟩:=Fy.way
  obtain ⟨_,o2,ho2,hnf⟩:=fl'.2.2.1.mem hc'
  rw [e2] at ho2; cases ho2
  obtain ⟨sl2,e3⟩:=Ld5.up c _ e2 hnf
  exact ⟨sl2,(sb6.2 c (by rw [hl]; exact ne_there h0L e)).trans e3⟩⟩
 have X8:Ext (fsOf outer) none b.heap h8:=⟨fun c o e nc np=>k8 c o (ne_there h0L e) (k7 _ _ (X6.keep c o e nc np)),fun c o e hc=>let ⟨sl,e2⟩:=X6.frm c o e hc; ⟨sl,k8 c _ (ne_there h0L e) (k7 _ _ e2)⟩⟩
 exact k _ (.ref D) (Fy.st.trans (Ld5.st.trans ⟨h8,_,rfl⟩)) X8 fun ω hω=>⟨D,vs,rfl,hω D (.inl (X6.gone nofun hD)),isTup_keep it fun o q=>k8 D o LD q,rp ω h8 (hω ta hta) fun o q=>k8 ta o taL q⟩
theorem try_some {o:RR} {r:Except Exn (PV × Option Int)} (e:tryR o=some r):∃ r0,o=some r0 ∧ (∀ z q,r0=.ok (z,q) → r=.ok (z,q)) ∧ ∀ x,r0=.error x → r=.ok (.tup [.int x.code,.str x.value,.tup (x.ec.map .str)],none):=by
 cases o with
 | none=>cases e
 | some r0 =>
  cases r0 with
  | ok z=>cases e; exact ⟨.ok z,rfl,fun _ _ e=>e,fun y e=>by cases e⟩
  | error x=>cases e; exact ⟨.error x,rfl,fun _ _ e=>(by cases e),fun y e=>by cases e; rfl⟩
theorem try_ok {f i:Nat} {fd:FuncData} {n xn:Str} {x:PExpr} {p1 p2 p3 p4 p5 p6 a1 a2 a3 b1 b2 b3:Pos} {k:Nat} {c:CE} {names:List Str} {np d d' Nn:Nat} {Φ:Fn} {X:XF} {ps:List An} (hok:C.Ok) (tree:(model C.prog C.w).prog.given.tree=none) (DE:ExcD C N fI) (hr:C.fns[i]?=some (xn,C.exc))
  (D:FnD C f fd (tryB x xn n p1 p2 p3 p4 p5 p6 a1 a2 a3 b1 b2 b3 k) names np) (hb:(toE c (scD C fd names) ps).x=x) (ho:(toE c (scD C fd names) ps).ok=true) (hkx:fd.scope.names.lookup xn=some .globalImplicit) (hn:n ∈ names)
  (hΦ:∀ g args p r,Φ g args p=some r → CallAt C d' g args p r) (hX:∀ g vs x,X g vs=some x → InstAt C d' g vs x) (hR:RaisesOk C) (hlt:d' + 1 ≤ d)
  {args:List SV} {p:Option Int} {r:Except Exn (PV × Option Int)} (e:entK Φ X Nn (.tr np names c) args p=some r):CallAt C d f args p r:=by
 cases p with
 | some=>cases e
 | none =>
 obtain ⟨hlen,e⟩:=gK_some e
 obtain ⟨r0,e,t1,t2⟩:=try_some e
 intro F H V q s vs a R O hfs Rm hfa ha hp hQ hE
 refine fn_enter (p:=none) (pa:=none) hok tree D hΦ hX hR hlt O hfs Rm hfa ha hlen nofun rfl fun env L V' s1 hf hl hLn hk hsv h O'=>?_
 have hsc:scOf C (calF F V s env L none names Φ d')=scD C fd names:=by
  show Sc.mk (fun n=>env.kindOf n) names C.fn=_
  rw [hk]; rfl
 rw [← hsc] at hb ho
 unfold tryB
 rw [← hb]
 have pen:∀ h',Ext (fsOf F.envs) none s.heap h' → PenIs h' F.pa q:=fun h' x=>O.pen.keep fun b o eb e=>x.keep b o e (O.fix.pn b eb).2 nofun
 refine wpAny_execs_cons (wpAny_Try_except (wpAny_execs_cons (wpAny_Return_some (evOk c _ noHd V' none s1 ps endK r0 _ _ h.hy O' ho (fun x ex ea s2 Fy ns=>?_) (by rw [hsv]; exact e) fun v z q2 s2 O2 r2 e2=>?_))))
 ·exact try_catch hok DE hr O'.fix.frames hf hl O'.fix.kind O'.fix.glob (O'.fix.loc n hn) ((congrFun hk xn).trans hkx) hLn Fy ns fun s8 v st X8 rp=>hQ _ none (t2 x ex) v s8 (O.after st ⟨fun b o e n np=>X8.keep b o e (hfs ▸ n) nofun,fun b o e hb=>X8.frm b o e (hfs ▸ hb)⟩ (pen _ X8)) (rp V.ω fun a n=>n.elim O.lt.fresh fun ⟨o,e⟩=>O.zero e)
 ·cases e2
  have fsE:fsOf (env::F.envs)=L::fsOf F.envs:=List.filterMap_cons_some hf
  have x:=O2.ent
  have X2:Ext (fsOf F.envs) none s.heap s2.heap:=⟨fun b o e n np=>x.keep b o e (fun z=>by
   rcases List.mem_cons.mp (fsE ▸ z:b ∈ L::fsOf F.envs) with z | z
   ·exact ne_there hLn e z
   ·exact n z) np,fun b o e hb=>x.frm b o e (show b ∈ fsOf (env::F.envs) by rw [fsE]; exact .tail _ hb)⟩
  obtain ⟨O3,rp⟩:=fn_back O hfs hf hLn (fun _ z=>by cases z) O2 (pen _ X2)
  exact hQ z q2 (t1 z q2 rfl) v s2 O3 (rp z v r2)
end
end
noncomputable section
section
variable {C:Cx} {F:Frm} {H:Hd} {V:Vs} {p:Option Int} {s:Shared} {ps:List An} {E:Value → Shared → Prop} {X:XF}
noncomputable def enumHd (H:Hd) (e it l:Addr) (xs:List PV):Hd:=⟨fun x v=>(x=.lst xs ∧ v=.ref l) ∨ H.vs x v,H.gd,fun a=>(a=e ∨ a=it) ∨ H.io a⟩
noncomputable def enumIn (H:Hd) (e it:Addr) (oe oi:Obj):Hd:=⟨H.vs,fun b o=>((b=e ∧ o=oe) ∨ (b=it ∧ o=oi)) ∨ H.gd b o,H.io⟩
theorem enum_in (O:Ok C F H V p s) {h':Heap} {t':Nat} {e it l:Addr} {xs:List PV} (ne:s.heap.get? e=none) (ni:s.heap.get? it=none) (ne':∃ o,h'.get? e=some o) (ni':∃ o,h'.get? it=some o) (hei:e ≠ it) (rl:Rep V.ω s.heap (.lst xs) (.ref l)) (kp:Kept s.heap h') :
  ∃ V',V'.sv=V.sv ∧ Ok C F (enumHd H e it l xs) V' p { s with heap:=h',toks:=t' }:=by
 obtain ⟨a0,a1,a2,a3,a4⟩:=O.news ne
 obtain ⟨b0,b1,b2,b3,b4⟩:=O.news ni
 have W:WrS C F H V s (fun b=>b=e ∨ b=it) V.sv.length (upd (upd V.ω e 1) it 1) h' :=
  ⟨fun b o _ eb=>kp b o eb,fun b o hb eb=>absurd (Or.elim hb (fun z=>(z ▸ ne:s.heap.get? b=none)) fun z=>(z ▸ ni:s.heap.get? b=none)) (by rw [eb]; nofun),fun b hb=>Or.elim hb (fun z=>z ▸ a1) fun z=>z ▸ b1,fun b hb=>Or.elim hb (fun z=>z ▸ a2) fun z=>z ▸ b2,fun b hb q=>Or.elim hb (fun z=>absurd (z ▸ q) a3) fun z=>absurd (z ▸ q) b3,
   fun b hb _=>Or.elim hb (fun z=>z ▸ ne') fun z=>z ▸ ni',fun b=>by
    by_cases q:b=it
    ·rw [q,upd_at]; exact .inr (.inl ⟨ni,nofun,ni'⟩)
    ·rw [upd_ne q]
     by_cases q':b=e
     ·rw [q',upd_at]; exact .inr (.inl ⟨ne,nofun,ne'⟩)
     ·exact .inl (upd_ne q'),fun b hb j _ z=>Or.elim hb (fun y=>(by rw [y,a0] at z; omega)) fun y=>(by rw [y,b0] at z; omega),fun b o hg hb=>by
    have:=(O.gd b o hg).2.2.2.2
    rcases hb with z | z
    ·rw [z,ne] at this; cases this
    ·rw [z,ni] at this; cases this⟩
 have O1:=W.plain (t':=t') O fun z=>Or.elim z (fun y=>a4 y.symm) fun y=>b4 y.symm
 refine ⟨⟨V.m,V.sv,upd (upd V.ω e 1) it 1⟩,rfl,{ O1 with hold:=fun x v hq=>Or.elim hq (fun z=>by rw [z.1,z.2]; exact rl.keep W.frz) (O1.hold x v),io:=fun a ha=>Or.elim ha (fun z=>?_) (O1.io a) }⟩
 show upd (upd V.ω e 1) it 1 a=1
 rcases z with z | z
 ·rw [z,upd_ne hei,upd_at]
 ·rw [z,upd_at]
theorem enum_ok (h:HyS C F X) {kk rr:Nat} (ot:(toT (.many [kk,rr]) (scOf C F) ps).ok=true) {xs:List PV} {e it l:Addr} {h':Heap} {t':Nat} {y:List Stmt} {Q:Flow → Shared → Prop} {P:List SV → Prop} (O:Ok C F H V p s) (ne:s.heap.get? e=none) (ni:s.heap.get? it=none) (hei:e ≠ it) (he:IsEnum h' e it 0 .none) (hit:h'.IsListIter it l 0)
  (rl:Rep V.ω s.heap (.lst xs) (.ref l)) (kp:Kept s.heap h') (hP0:P V.sv) (hfree:∀ sv,P sv → (∃ v,sv[kk]?=some v ∧ isPn v=none) ∧ (∃ v,sv[rr]?=some v ∧ isPn v=none)) (hne:kk ≠ rr) (pe:PassesOwn (model C.prog C.w) F.A F.env E)
  (hbody:∀ (i:Nat) x H₁ V₁ sv s1 (Q:Flow → Shared → Prop),xs[i]?=some x → P sv → V₁.sv=(sv.set kk (.val (.int i))).set rr (.val x) → Ok C F H₁ V₁ p s1 → (∀ V₂ s2,Ok C F H₁ V₂ p s2 → P V₂.sv → Q .next s2) → wpAny (model C.prog C.w) F.A (execs y F.env) Q E s1)
  (hdone:∀ V' s',Ok C F H V' p s' → Q .next s') :
  codeAny (model C.prog C.w) F.A (.forLoop (toT (.many [kk,rr]) (scOf C F) ps).x (.ref e) y [] F.env) (fun r s'=>match r with | .ok f=>Q f s' | .error e=>cameBackBy (model C.prog C.w) F.A F.env E e s') { s with heap:=h',toks:=t' }:=by
 obtain ⟨a0,a1,a2,a3,a4⟩:=O.news ne
 obtain ⟨b0,b1,b2,b3,b4⟩:=O.news ni
 have tw:∀ {T:Addr → Prop},T e → T it → ∀ b,b=e ∨ b=it → T b:=fun x y b z=>Or.elim z (fun q=>q ▸ x) fun q=>q ▸ y
 have hit0:∃ o,h'.get? it=some o:=let ⟨o,ho,_⟩:=hit; ⟨o,ho⟩
 obtain ⟨V0,e0,O1⟩:=enum_in (t':=t') O ne ni ⟨_,he⟩ hit0 hei rl kp
 rw [← e0] at hP0
 have wr:∀ V1 s1 h2,Ok C F (enumHd H e it l xs) V1 p s1 → (∀ b o,b ≠ e → b ≠ it → s1.heap.get? b=some o → h2.get? b=some o) → (∃ o,h2.get? e=some o) → (∃ o,h2.get? it=some o) → WrS C F (enumHd H e it l xs) V1 s1 (fun b=>b=e ∨ b=it) V1.sv.length V1.ω h2:=fun V1 s1 h2 O2 hk x1 x2 =>
  have m1:=O2.io e (.inl (.inl rfl))
  have m2:=O2.io it (.inl (.inr rfl))
  ⟨fun b o n=>hk b o (fun z=>n (.inl z)) fun z=>n (.inr z),fun b o hb _=>tw (T:=fun b=>V1.ω b ≠ 0) (by rw [m1]; nofun) (by rw [m2]; nofun) b hb,tw a1 b1,tw a2 b2,fun b hb q=>absurd q (tw (T:=fun b=>b ∉ fsOf F.envs) a3 b3 b hb),fun b hb _=>tw (T:=fun b=>∃ o,h2.get? b=some o) x1 x2 b hb,fun _=>.inl rfl,
   fun b hb j _=>tw (T:=fun b=>V1.ω b ≠ j + 2) (by rw [m1]; omega) (by rw [m2]; omega) b hb,fun b o hg hb=>by
   have:=(O.gd b o hg).2.2.2.2
   exact tw (T:=fun b=>s.heap.get? b ≠ some o) (by rw [ne]; nofun) (by rw [ni]; nofun) b hb this⟩
 refine codeAny_forLoop_any (fun k s1=>∃ (i:Nat) (old:Value) (V1:Vs),i ≤ xs.length ∧ k=xs.length - i ∧ Ok C F (enumHd H e it l xs) V1 p s1 ∧ IsEnum s1.heap e it i old ∧ s1.heap.IsListIter it l i ∧ P V1.sv) ?_ (xs.length - 0) ⟨0,.none,V0,Nat.zero_le _,rfl,O1,he,hit,hP0⟩
 rintro k s1 ⟨i,old,V1,hi,rfl,O2,he1,hit1,hP1⟩
 obtain ⟨l',vs,el,nMl,il,rvs⟩:=O2.hold (.lst xs) (.ref l) (.inl ⟨rfl,rfl⟩)
 cases el
 by_cases hlt:i < xs.length
 ·obtain ⟨v,hv,rv⟩:=rvs.get (List.getElem?_eq_getElem hlt)
  refine wpAny_pyNext_enum_item he1 hit1 il (x:=v) (List.getElem?_toArray.trans hv) hei fun h1 ho1 hit2 hT hsz hk1=>?_
  have helt:e < s1.heap.objs.size:=Heap.lt_size he1
  refine wpAny_passesOwn pe (wpAny_letOwnedTupleGo_enum ho1 fun h2 he2 sb2=>?_)
  have sb2:Heap.SameBut e h1 h2:=sb2
  have Te:s1.heap.objs.size ≠ e:=Nat.ne_of_gt helt
  have hT2:h2.get? s1.heap.objs.size=some { cls:=.type "tuple",data:=.seq #[.int i s1.toks,v] }:=(sb2.2 _ Te).trans hT
  obtain ⟨oi,hoi,hit3⟩:=hit2
  have hoi:h2.get? it=some oi:=(sb2.2 it hei.symm).trans hoi
  have W:=wr V1 s1 h2 O2 (fun b o n1 n2 q=>(sb2.2 b n1).trans (hk1 b o n1 n2 q)) ⟨_,he2⟩ ⟨oi,hoi⟩
  have O3:=W.plain (t':=s1.toks + 1) O2 fun z=>Or.elim z (fun y=>a4 y.symm) fun y=>b4 y.symm
  have O4:Ok C F (enumIn (enumHd H e it l xs) e it _ oi) V1 p { s1 with heap:=h2,toks:=s1.toks + 1 }:={ O3 with gd:=fun b o hg=>Or.elim hg (fun z=>Or.elim z (fun z=>by rw [z.1,z.2]; exact ⟨Nat.le_of_eq (O3.io e (.inl (.inl rfl))),by rw [h.lk.fs]; exact a3,a2,a4,he2⟩) fun z=>by rw [z.1,z.2]; exact ⟨Nat.le_of_eq (O3.io it (.inl (.inr rfl))),by rw [h.lk.fs]; exact b3,b2,b4,hoi⟩) (O3.gd b o) }
  have rT:Rep V1.ω h2 (.tup [.int i,xs[i]]) (.ref s1.heap.objs.size):=⟨_,[.int i s1.toks,v],rfl,O2.lt.fresh (none_at _),⟨_,hT2,rfl,_,rfl⟩,_,_,rfl,⟨_,rfl⟩,_,_,rfl,rv.keep W.frz,rfl⟩
  obtain ⟨⟨v1,f1,f1'⟩,v2,f2,f2'⟩:=hfree V1.sv hP1
  refine wpAny_passesOwn pe (tgt_ok (r:=.ok (.none,none)) (K:=fun sv=>@ite _ (sv=(V1.sv.set kk (.val (.int i))).set rr (.val xs[i])) (Classical.propDecidable _) (endK .none none) none) h O4 ot rT (put_mk (K:=fun env=>manyK [rr] [xs[i]] env _) f1 f1' (put_mk (K:=fun env=>manyK [] [] env _) (by rw [List.getElem?_set_ne hne]; exact f2) f2' (if_pos rfl))) fun V3 s3 O5 e3=>?_)
  have e4:V3.sv=(V1.sv.set kk (.val (.int i))).set rr (.val xs[i]):=Classical.byContradiction fun n=>by rw [if_neg n] at e3; cases e3
  refine wpAny_passesOwn pe (hbody i xs[i] _ V3 V1.sv s3 _ (List.getElem?_eq_getElem hlt) hP1 e4 O5 fun V4 s4 O6 hP4=>?_)
  exact ⟨xs.length - (i + 1),by omega,i + 1,v,V4,hlt,rfl,O6.drop (fun _ _ h=>h) (fun _ _ h=>.inr h) fun _ h=>h,(O6.gd e _ (.inl (.inl ⟨rfl,rfl⟩))).2.2.2.2,⟨oi,(O6.gd it oi (.inl (.inr ⟨rfl,rfl⟩))).2.2.2.2,hit3⟩,hP4⟩
 ·obtain rfl:i=xs.length:=Nat.le_antisymm hi (Nat.not_lt.mp hlt)
  refine wpAny_pyNext_enum_end O.fix.handled he1 hit1 il (List.getElem?_toArray.trans (List.getElem?_eq_none (Nat.le_of_eq rvs.length))) fun h2 hx2=>?_
  have O3:Ok C F H V1 p s1:=O2.drop (fun _ _ h=>.inr h) (fun _ _ h=>h) fun _ h=>.inr h
  have m2:=O2.io it (.inl (.inr rfl))
  have no:¬ F.out it ∧ ¬ H.io it:=⟨fun z=>(by rw [O.out it z] at b0; cases b0),fun z=>(by rw [O.io it z] at b0; cases b0)⟩
  have W2:Wr C F H V1 s1 it V1.sv.length (upd V1.ω it 0) h2:=⟨fun b o n=>hx2 b o n,fun _ _=>(by rw [m2]; nofun),b1,b2,fun q=>absurd q b3,fun z=>absurd upd_at z,fun b=>by
   by_cases q:b=it
   ·rw [q]; exact .inr (.inr ⟨upd_at,.inr ⟨rfl,no⟩⟩)
   ·exact .inl (upd_ne q),fun j _ z=>(by rw [m2] at z; omega),fun b o hg=>ne_there ni (O.gd b o hg).2.2.2.2⟩
  exact wpAny_execs_nil (hdone _ _ (W2.plain (t':=s1.toks) O3 b4))
end
end
noncomputable section
noncomputable def unpen:SV → SV
 | .pen=>.unb
 | v=>v
section
variable {C:Cx} {F:Frm} {H:Hd} {V:Vs} {p q:Option Int} {s:Shared} {ps:List An} {E:Value → Shared → Prop} {X:XF}
theorem ints_all {ω:Addr → Nat} {h:Heap} {ks:List Int}:∀ {vs:List Value},Reps ω h (ks.map PV.int) vs → AllInts vs.toArray:=by
 induction ks with
 | nil=>intro vs r v hv; cases r; exact absurd hv (Array.not_mem_empty v)
 | cons k ks ih =>
  intro vs r v hv
  obtain ⟨_,ws,rfl,⟨t,rfl⟩,r⟩:=r
  rcases List.mem_cons.mp (List.mem_toArray.mp hv) with rfl | hv
  ·exact ⟨_,_,rfl⟩
  ·exact ih r v (List.mem_toArray.mpr hv)
theorem pick_ints {items:Array Value} (h:AllInts items) (lo hi st:Option Int):AllInts (slicePick items lo hi st):=by
 intro v hv
 unfold slicePick at hv
 obtain ⟨i,_,e⟩:=List.mem_filterMap.mp (List.mem_toArray.mp hv)
 exact h v (Array.mem_of_getElem? e)
theorem ev_sum (h:Hy C F) (O:Ok C F H V p s) {iS iK iR:Nat} {f1 f2 p1 p2 p3 p4 p5 p6 p7:Pos} {ks:List Int} {rows:List PV} {k:Int} {Q:Value → Shared → Prop} (hS:(scOf C F).has iS=true) (hK:(scOf C F).has iK=true) (hR:(scOf C F).has iR=true)
  (kS:(scOf C F).glob "sum"=true) (kL:(scOf C F).glob "len"=true) (vS:nth V.sv iS=some (.val (.lst (ks.map .int)))) (vK:nth V.sv iK=some (.val (.int k))) (vR:nth V.sv iR=some (.val (.lst rows))) (hr:rows.length ≠ 0) (hr':rows.length ≤ strLine) (hks:ks.length ≤ 63)
  (kk:∀ n t s',Ok C F H V p s' → Q (.int n t) s') :
  wpAny (model C.prog C.w) F.A (eval (.Call (.Name "sum" f1) [.Subscript (.Name ((scOf C F).name iS) p1) (.Slice (some (.Name ((scOf C F).name iK) p2)) none (some (.Call (.Name "len" f2) [.Name ((scOf C F).name iR) p3] [] p4)) p5) p6] [] p7) F.env) Q E s:=by
 refine wpAny_Call_NameR (load_bi h O (by decide) kS (v:=.builtin "sum") (by decide +kernel) (by decide) (by decide) ?_)
 refine Calls.callWith_builtin rfl (Calls.evalArgs_plain (Calls.spliced_cons ?_))
 refine wpAny_Subscript_Slice_step (T:="list") list_getitem_lookup (load_slot O hS vS (fun v1 m1 sl1=>wpAny_Slice (wpAny_evalPart_some (load_slot O hK vK (fun v2 m2 sl2=>wpAny_evalPart_none (wpAny_evalPart_some ?_)) nofun))) nofun) (fun _ _=>rfl)
 obtain ⟨_,e2,⟨tk,rfl⟩⟩:=sl2
 cases e2
 refine evOk (.bi .len (.cons (.loc iR) .nil)) F H V p s [anOf p4,anOf f2,anOf p3] (fun z q=>@ite _ (z=.int rows.length ∧ q=p) (Classical.propDecidable _) (endK .none none) none) (.ok (.none,none)) _ E h O (by
   show ((scOf C F).glob "len" && true && true && ((scOf C F).has iR && true))=true
   rw [kL,hR]; rfl) (fun x e=>nomatch e) (by
   show opK (nth V.sv iR) _=_
   rw [vR]
   show opK (gO (rows.length ≤ strLine) _) _=_
   unfold gO; rw [if_pos hr']
   exact if_pos ⟨rfl,rfl⟩) fun v z q s1 O1 r1 e1=>?_
 obtain ⟨rfl,rfl⟩:z=.int rows.length ∧ q=p:=Classical.byContradiction fun n=>by rw [if_neg n] at e1; cases e1
 obtain ⟨tl,rfl⟩:=r1
 rw [nth_get] at vS
 obtain ⟨_,eS,la,vs,rfl,_,il1,rvs⟩:=O1.slots iS _ _ (has_name hS) vS
 rw [m1] at eS; cases eS
 have il2:=il1.push { cls:=.type "slice",data:=.fields #[Value.int k tk,.none,.int rows.length tl] }
 have hall:AllInts (slicePick vs.toArray (some k) none (some (rows.length:Int))):=pick_ints (ints_all rvs) _ _ _
 refine ⟨il2.typeIs,wpAny_getItem_list_slice (lo:=some k) (hi:=none) (st:=some (rows.length:Int)) il2 (Heap.IsSliceOf.new ..) (.int _ _) .none (.int _ _) (by intro q; have q:=Option.some.inj q; omega) ?_ ?_⟩
 ·refine Calls.spliced_nil ?_
  obtain ⟨xs,hxs⟩:=hall.items
  rw [hxs]
  exact sum_intListG O1.fix.handled (xs:=xs) ⟨_,Heap.get?_push_size _ rfl,rfl,_,rfl⟩ fun h' tk' t' k'=>kk _ t' _ (O1.made fun b o q=>k' b o (Heap.get?_push_of_some _ (Heap.get?_push_of_some _ q)))
 ·have hl:=rvs.length
  rw [List.length_map] at hl
  rw [List.size_toArray,hl]
  exact Nat.le_trans hks (by decide)
noncomputable def penF (F:Frm) (D:Addr):Frm:={ F with pa:=some D,out:=fun a=>F.out a ∨ a=D }
theorem pen_in (O:Ok C F H V none s) (hp:F.pa=none) {h':Heap} {t':Nat} {D:Addr} {n:Int} {t:Tok} (hD:s.heap.get? D=none) (hD':h'.PlainList D [Value.int n t].toArray) (kp:Kept s.heap h'):Ok C (penF F D) H ⟨V.m,V.sv,upd V.ω D 1⟩ (some n) { s with heap:=h',toks:=t' }:=by
 obtain ⟨a0,a1,a2,a3,a4⟩:=O.news hD
 have O1:=O.mark (k:=1) (t':=t') hD nofun ⟨_,hD'.choose_spec⟩ kp
 have x:=O1.ent
 rw [hp] at x
 exact
  {O1 with
   fix:={ O.fix with fso:=fun a ha=>.inl (O.fix.fso a ha),pn:=fun b hb=>by cases hb; exact ⟨.inr rfl,a3⟩,pl:=fun e=>a4 (Option.some.inj e) }
   slots:=fun i m v e1 e2=>by
    have sl:=O1.slots i m v e1 e2
    cases v with
    | pen=>obtain ⟨_,_,_,_,q⟩:=sl; rw [hp] at q; cases q
    | _=>exact sl
   pen:=⟨n,t,rfl,hD'⟩
   ent:=x.anyPen
   out:=fun b hb=>Or.elim hb (O1.out b) fun z=>by rw [z]; exact upd_at
   gd:=fun b o hg=>let ⟨g1,g2,g3,g4,g5⟩:=O1.gd b o hg; ⟨g1,g2,fun e=>(by have:=(O.gd b o hg).2.2.2.2; rw [← Option.some.inj e,hD] at this; cases this),g4,g5⟩ }
theorem pen_out {D:Addr} (O:Ok C (penF F D) H V q s) (hp:F.pa=none) (fx:Fix C F) (hD:F.b.heap.get? D=none):Ok C F H ⟨V.m,V.sv.map unpen,V.ω⟩ none s :=
 {O with
  fix:=fx
  slots:=fun i m v e1 e2=>by
   have e2:(V.sv.map unpen)[i]?=some v:=e2
   rw [List.getElem?_map] at e2
   obtain ⟨u,eu,rfl⟩:=Option.map_eq_some_iff.mp e2
   have sl:=O.slots i m u e1 eu
   cases u with
   | pen=>trivial
   | _=>exact sl
  pen:=by rw [hp]; rfl
  ent:=⟨fun b o e n _=>O.ent.keep b o e n fun z=>ne_there hD e (Option.some.inj z).symm,O.ent.frm⟩
  out:=fun b hb=>O.out b (.inl hb)
  gd:=fun b o hg=>let ⟨g1,g2,_,g4,g5⟩:=O.gd b o hg; ⟨g1,g2,by rw [hp]; nofun,g4,g5⟩ }
theorem body_pen (h:HyS C F X) (hp:F.pa=none) {iS iK iR iW f:Nat} {nF:Str} {f1 f2 f3 p1 p2 p3 p4 p5 p6 p7 p8 p9 p10 p11 p12 p13:Pos} {b1:PExpr} {ks:List Int} {rows:List PV} {row:PV} {k:Int} {Q:Flow → Shared → Prop}
  (O:Ok C F H V none s) (hS:(scOf C F).has iS=true) (hK:(scOf C F).has iK=true) (hR:(scOf C F).has iR=true) (hW:(scOf C F).has iW=true)
  (kS:(scOf C F).glob "sum"=true) (kL:(scOf C F).glob "len"=true) (kF:(scOf C F).glob nF=true) (hf:C.fn f=some nF)
  (vS:nth V.sv iS=some (.val (.lst (ks.map .int)))) (vK:nth V.sv iK=some (.val (.int k))) (vR:nth V.sv iR=some (.val (.lst rows))) (vW:nth V.sv iW=some (.val row)) (hr:rows.length ≠ 0) (hr':rows.length ≤ strLine) (hks:ks.length ≤ 63)
  (hlaw:∀ n,∃ q,F.Φ f [.val row,.pen] (some n)=some (.ok (.bool true,q)))
  (kk:∀ V2 s2,Ok C F H V2 none s2 → V2.sv=V.sv.map unpen → Q .next s2) :
  wpAny (model C.prog C.w) F.A (execs [.If (.UnaryOp .Not (.Call (.Name nF f3) [.Name ((scOf C F).name iW) p8,.List [.Call (.Name "sum" f1) [.Subscript (.Name ((scOf C F).name iS) p1) (.Slice (some (.Name ((scOf C F).name iK) p2)) none (some (.Call (.Name "len" f2) [.Name ((scOf C F).name iR) p3] [] p4)) p5) p6] [] p7] p9] [] p10) p11) [.Return (some b1) p12] [] p13] F.env) Q E s:=by
 obtain ⟨⟨n',fa⟩,hfa,hn'⟩:=Option.map_eq_some_iff.mp (show C.fns[f]?.map (·.1)=some nF from hf)
 obtain rfl:n'=nF:=hn'
 obtain ⟨k1,k2,k3⟩:=h.hy.ok.fnOk _ (List.mem_of_getElem? hfa)
 have hg:=h.hy.ok.T.g
 have hg':=hg.keeps O.base
 rw [← O.fix.glob] at hg'
 refine wpAny_execs_cons (wpAny_If (PyProof.Rows.isTrue_not (PyProof.Rows.isTrue_plain (wpAny_Call_NameR (Name_function_global O.fix.kind (glob_is kF) (loadGlobal_global hg' (mg_of h.hy.ok.X hg k1) ?_) k3)) rfl)))
 refine callWith_K (K:=C.K) (h₀:=C.h₀) h.hy.ok.X k2 ?_
 refine Calls.spliced_cons (load_slot O hW vW (fun vw mw slw=>Calls.spliced_cons (wpAny_List (Calls.spliced_cons (ev_sum h.hy O hS hK hR kS kL vS vK vR hr hr' hks fun n t s1 O1=>Calls.spliced_nil ⟨by show 1 ≤ sizeLine; decide,Calls.spliced_nil ?_⟩)))) nofun)
 have hD:=none_at s1.heap
 have J:=pen_in (t':=s1.toks) O1 hp hD (n:=n) (t:=t) ⟨0,Heap.get?_push_size _ rfl⟩ fun b o q=>Heap.get?_push_of_some _ q
 refine ⟨h.hy.ok.X.keeps J.base,?_⟩
 obtain ⟨q,hq⟩:=hlaw n
 obtain ⟨fs,C1⟩:=h.hy.calls _ _ _ _ hq
 obtain ⟨vw',ew,rw'⟩:=J.slots iW _ _ (has_name hW) ((nth_get _ _).symm.trans vW)
 rw [mw] at ew; cases ew
 refine wpAny_call (C1 (penF F s1.heap.objs.size) H _ _ _ [vw,.ref s1.heap.objs.size] fa _ J fs h.hy.room (by rw [hfa]; rfl) ⟨vw,_,rfl,rw',_,_,rfl,⟨_,rfl,rfl⟩,rfl⟩ (fun _ e=>e) (fun z q' e v s2 O2 r2=>?_) fun x e=>nomatch e)
 cases e
 cases r2
 exact wpAny_truthy_bool (wpAny_execs_nil (wpAny_execs_nil (kk _ s2 (pen_out O2 hp O.fix (O1.news hD).2.1) rfl)))
end
end
noncomputable section
theorem reps_ints {ω:Addr → Nat} {h:Heap} {vs:List Value} {ks:List Int} (i:IntsAre vs ks):Reps ω h (ks.map PV.int) vs:=by
 induction i with
 | nil=>rfl
 | cons _ _ _ ih=>exact ⟨_,_,rfl,⟨_,rfl⟩,ih⟩
structure LawF (C:Cx) (env:Env) (names:List Str) (L:Addr):Prop where
 frame:env.frame=some L
 locals:env.locals=L
 glob:env.globals=mainGlobals
 bi:env.builtins=builtinsNs
 kind:env.scope.kind=.function
 co:env.scope.isCoroutine=false
 gen:env.scope.isGenerator=false
 loc:∀ x ∈ names,env.kindOf x=some .local ∧ (x == ("__debug__":Str))=false
 nodup:names.Nodup
noncomputable def lawFr (env:Env) (names:List Str) (L:Addr) (Φ:Fn) (d:Nat) (b:Shared):Frm :=
 {A:=callerA.deeper env,envs:=[env],fs:=fsOf [env],pa:=none,env:=env,names:=names,Φ:=Φ,d:=d,b:=b,out:=fun a=>a=L }
section
variable {C:Cx} {env:Env} {names:List Str} {L la:Addr} {Φ:Fn} {d:Nat} {s₁:Shared} {X:XF}
theorem law_hy (hok:C.Ok) (F:LawF C env names L) (Ln:s₁.heap.get? L=none) (hX:∀ g vs x,X g vs=some x → InstAt C d g vs x) (hR:RaisesOk C) (calls:∀ f args p r,Φ f args p=some r → CallAt C d f args p r) (hd:d ≤ 100):HyS C (lawFr env names L Φ d s₁) X :=
 ⟨⟨hok,⟨by show callerA.depth + 1 + 120 + d < recursionLimit; have:callerA.depth + 1 + 120 + 100 < recursionLimit:=(by decide +kernel); omega,by show callerA.units + 3 + 3 * d + 100 < cLine; have:callerA.units + 3 + 3 * 100 + 100 < cLine:=(by decide +kernel); omega⟩,fun f args p r e=>⟨rfl,calls f args p r e⟩⟩,
  ⟨rfl,F.locals,by show s₁.heap.get? env.locals=none; rw [F.locals]; exact Ln,F.nodup⟩,hX,fun env' x e s E Q b m hE=>hR _ _ env' x e _ _ s E Q rfl b m hE⟩
theorem law_in (tree:(model C.prog C.w).prog.given.tree=none) (F:LawF C env names L) {h₁:Heap} {tk:Nat} {m:Str → Option Value} {vs:List Value} {ks:List Int} (h0:C.h₀=s₁.heap)
  (fr:Fr s₁.heap L h₁ m) (Ln:s₁.heap.get? L=none) (n0:∃ n,names[0]?=some n ∧ m n=some (.ref la)) (hL:s₁.heap.IsList la vs.toArray) (hI:IntsAre vs ks) :
  Ok C (lawFr env names L Φ d s₁) noHd ⟨m,.val (.lst (ks.map .int))::List.replicate (names.length - 1) .unb,upd (fun _=>0) L 1⟩ none { s₁ with heap:=h₁,toks:=tk }:=by
 have fsE:fsOf [env]=[L]:=List.filterMap_cons_some F.frame
 obtain ⟨n,hn,hm⟩:=n0
 have one:∀ b,upd (fun _=>0) L 1 b ≠ 0 → b=L:=fun b hb=>Classical.byContradiction fun n=>hb (upd_ne n)
 exact
  {fix :=
    {frames:=Around.frames_deeper rfl,handled:=rfl,guards:=rfl
     seer:=fun h' hN=>SeerAt.of hN tree (Around.frames_deeper rfl) F.gen F.co F.bi F.glob
     kind:=F.kind,glob:=F.glob,bi:=F.bi,loc:=fun x hx=>F.loc x hx
     fso:=fun a ha=>List.mem_singleton.mp (fsE ▸ ha:a ∈ [L])
     fss:=fun _ h=>h,pn:=nofun,pl:=nofun }
   st:=⟨_,_,rfl⟩
   base:=fun b o e=>fr.keep b o (h0 ▸ e)
   ff:=Heap.FunFrames.cons (by rw [F.kind]; decide) F.frame fr.ns (by rw [h0]; exact Ln) trivial
   ns:=by show Heap.Ns h₁ env.locals m; rw [F.locals]; exact fr.ns
   slots:=fun i x v e1 e2=>by
    cases i with
    | zero =>
     cases e2
     have e1:names[0]?=some x:=e1
     rw [hn] at e1; cases e1
     exact ⟨.ref la,hm,la,vs,rfl,(show upd (fun _=>0) L 1 la=0 from upd_ne (ne_there Ln (lst_there hL).choose_spec)),isList_keep hL fun o ho=>fr.keep la o ho,reps_ints hI⟩
    | succ i =>
     rw [List.eq_of_mem_replicate (List.mem_of_getElem? (show (List.replicate (names.length - 1) SV.unb)[i]?=some v from e2))]
     trivial
   pen:=rfl
   ent:=.of_keeps fr.keep
   lt:=fun b hb=>one b hb ▸ ns_there fr.ns
   out:=fun b hb=>by rw [show b=L from hb]; exact (upd_at:upd (fun _=>0) L 1 L=1)
   new:=fun b hb=>by
    have hb:2 ≤ upd (fun _=>0) L 1 b:=hb
    by_cases z:b=L
    ·rw [z,upd_at] at hb; exact absurd hb (by decide)
    ·rw [upd_ne z] at hb; exact absurd hb (by decide)
   nb:=fun b hb=>by rw [h0,one b hb]; exact Ln
   hold:=fun _ _ h=>h.elim
   gd:=fun _ _ h=>h.elim
   io:=fun _ h=>h.elim }
noncomputable def LawP (n:Nat) (S R:List PV) (sv:List SV):Prop:=sv.length=n ∧ nth sv 0=some (.val (.lst S)) ∧ nth sv 1=some (.val (.lst R)) ∧ ∀ v ∈ sv,isPn v=none
theorem nopen_at {sv:List SV} {i:Nat} (h:i < sv.length) (hp:∀ v ∈ sv,isPn v=none):∃ v,sv[i]?=some v ∧ isPn v=none:=⟨sv[i],List.getElem?_eq_getElem h,hp _ (List.getElem_mem h)⟩
theorem kS_call {N i f:Nat} {sv:List SV} {p:Option Int} {n kb kc:KS}:kS Φ X N (.assign i (.call f .nil)) sv p n kb kc=callK (Φ f [] none) fun v _=>putK sv i (.val v) fun env=>n env p:=rfl
noncomputable def tgtSv (n:Nat) (S R:List PV):List SV:=.val (.lst S)::.val (.lst R)::List.replicate (n - 2) .unb
theorem law_walk {N:Nat} (h:HyS C (lawFr env names L Φ d s₁) X) (F:LawF C env names L) {V:Vs} {s:Shared} {ks:List Int} (O:Ok C (lawFr env names L Φ d s₁) noHd V none s) (hV:V.sv=.val (.lst (ks.map .int))::List.replicate (names.length - 1) .unb) {h₀':Heap} {m₀:Str → Option Value}
  (h0:C.h₀=s₁.heap) (fr:Fr s₁.heap L h₀' m₀) (Ln:s₁.heap.get? L=none) (hks:ks.length ≤ 63) (hnl:4 ≤ names.length)
  {ft:Nat} {R:List PV} (hR1:R.length ≤ strLine) (told:Φ ft [] none=some (.ok (.lst R,none)))
  {ps1 ps2 ps3:List An} {pn pe pc pos:Pos} {y:List Stmt} {bx:Bool} {kx:Nat} {px pz:Pos} {Q:Flow → Shared → Prop} {E:Value → Shared → Prop}
  (o1:(toS (.assign 0 (.slice (.loc 0) .no (.yes (.cst (.int 63))))) (scOf C (lawFr env names L Φ d s₁)) ps1).ok=true) (o2:(toS (.assign 1 (.call ft .nil)) (scOf C (lawFr env names L Φ d s₁)) ps2).ok=true) (o3:(toT (.many [2,3]) (scOf C (lawFr env names L Φ d s₁)) ps3).ok=true)
  (hn1:(scOf C (lawFr env names L Φ d s₁)).has 1=true) (ke:(scOf C (lawFr env names L Φ d s₁)).glob "enumerate"=true) (pe':PassesOwn (model C.prog C.w) (callerA.deeper env) env E) (er:ErS C (lawFr env names L Φ d s₁) (.ok (.none,some 0)) E)
  (hbody:∀ (S:List Int),S.length ≤ 63 → ∀ (i:Nat) x H₁ V₁ sv s1 (Q:Flow → Shared → Prop),R[i]?=some x → LawP names.length (S.map .int) R sv → V₁.sv=(sv.set 2 (.val (.int i))).set 3 (.val x) → Ok C (lawFr env names L Φ d s₁) H₁ V₁ none s1 →
   (∀ V₂ s2,Ok C (lawFr env names L Φ d s₁) H₁ V₂ none s2 → LawP names.length (S.map .int) R V₂.sv → Q .next s2) → wpAny (model C.prog C.w) (callerA.deeper env) (execs y env) Q E s1)
  (hdone:∀ s' m',StOf s₁ s' → Fr s₁.heap L s'.heap m' → Q (.ret (.bool bx)) s') :
  wpAny (model C.prog C.w) (callerA.deeper env) (execs [(toS (.assign 0 (.slice (.loc 0) .no (.yes (.cst (.int 63))))) (scOf C (lawFr env names L Φ d s₁)) ps1).x,(toS (.assign 1 (.call ft .nil)) (scOf C (lawFr env names L Φ d s₁)) ps2).x,
   .For (toT (.many [2,3]) (scOf C (lawFr env names L Φ d s₁)) ps3).x (.Call (.Name "enumerate" pe) [.Name ((scOf C (lawFr env names L Φ d s₁)).name 1) pn] [] pc) y [] pos,.Return (some (.Constant (.bool bx) kx px)) pz] env) Q E s:=by
 have S1:=(sAll (N:=N) h).1
 obtain ⟨n,hnn⟩:∃ n,names.length - 1=n + 1:=⟨names.length - 2,by omega⟩
 have n2:names.length - 2=n:=by omega
 have cl:(ks.map PV.int).length ≤ strLine:=by rw [List.length_map]; exact sline (by omega)
 have e0:pslice (ks.map PV.int) none (some 63)=(ks.take (clip ks.length 63)).map .int:=by
  show ((ks.map PV.int).drop 0).take (clip (ks.map PV.int).length 63 - 0)=_
  rw [List.drop_zero,Nat.sub_zero,List.length_map,List.map_take]
 have fin:∀ (sv tg:List SV) (q:Option Int),@ite RR (sv=tg ∧ q=none) (Classical.propDecidable _) (endK .none (some 0)) none=some (.ok (.none,some 0)) → sv=tg ∧ q=none:=fun sv tg q e=>Classical.byContradiction fun n=>by rw [if_neg n] at e; cases e
 refine wpAny_execs_cons (S1 _ noHd V none s ps1 (fun sv q=>@ite RR (sv=.val (.lst ((ks.take (clip ks.length 63)).map .int))::List.replicate (names.length - 1) .unb ∧ q=none) (Classical.propDecidable _) (endK .none (some 0)) none) (fun _ _=>none) (fun _ _=>none) (.ok (.none,some 0)) _ E O o1 er pe' ?_ ⟨fun V2 q2 s2 O2 e2=>?_,fun _ _ _ _ e=>(by cases e),fun _ _ _ _ e=>(by cases e),fun z v V2 q2 s2 O2 r2 e2=>?_⟩)
 ·rw [hV]
  show opK (gO ((ks.map PV.int).length ≤ strLine) (PV.lst (pslice (ks.map PV.int) none (some 63)))) _=_
  unfold gO
  rw [if_pos cl,e0]
  exact if_pos ⟨rfl,rfl⟩
 ·obtain ⟨g2,rfl⟩:=fin _ _ _ e2
  clear e2
  generalize hS:ks.take (clip ks.length 63)=S at g2
  have hSl:S.length ≤ 63:=by rw [← hS,List.length_take]; omega
  refine wpAny_execs_cons (S1 _ noHd V2 none s2 ps2 (fun sv q=>@ite RR (sv=tgtSv names.length (S.map .int) R ∧ q=none) (Classical.propDecidable _) (endK .none (some 0)) none) (fun _ _=>none) (fun _ _=>none) (.ok (.none,some 0)) _ E O2 o2 er pe' ?_ ⟨fun V3 q3 s3 O3 e3=>?_,fun _ _ _ _ e=>(by cases e),fun _ _ _ _ e=>(by cases e),fun z v V3 q3 s3 O3 r3 e3=>?_⟩)
  ·rw [g2,hnn]
   refine (kS_call (Φ:=Φ)).trans ?_
   rw [told]
   exact if_pos ⟨by rw [tgtSv,n2],rfl⟩
  ·obtain ⟨g3,rfl⟩:=fin _ _ _ e3
   have hP:LawP names.length (S.map .int) R V3.sv:=by
    rw [g3]
    refine ⟨by unfold tgtSv; rw [List.length_cons,List.length_cons,List.length_replicate]; omega,rfl,rfl,fun v hv=>?_⟩
    rcases List.mem_cons.mp hv with rfl | hv
    ·rfl
    ·rcases List.mem_cons.mp hv with rfl | hv
     ·rfl
     ·rw [List.eq_of_mem_replicate hv]; rfl
   refine wpAny_execs_cons (wpAny_For ?_ (by intro _; rfl))
   refine wpAny_Call_NameR (load_bi h.hy O3 (by decide) ke (v:=.type "enumerate") (by decide +kernel) (by decide) (by decide) ?_)
   refine PyProof.Rows.callWith_type rfl (Calls.evalArgs_plain (Calls.spliced_cons (load_slot O3 hn1 hP.2.2.1 (fun vr mr sl=>Calls.spliced_nil ?_) nofun)))
   obtain ⟨_,eR,lR,vsR,rfl,z0,il,rvs⟩:=sl
   cases eR
   refine call_enumerate_list il fun h4 he4 hit4 hsz4 k4=>wpAny_pyIter_enum he4 ?_
   refine enum_ok (P:=LawP names.length (S.map .int) R) h o3 O3 (Heap.get?_none_of_le (Nat.le_succ _)) (none_at _) (Nat.succ_ne_self _) he4 hit4 ⟨lR,vsR,rfl,z0,il,rvs⟩ k4 hP (fun sv hp=>⟨nopen_at (by rw [hp.1]; omega) hp.2.2.2,nopen_at (by rw [hp.1]; omega) hp.2.2.2⟩) (by decide) pe' (hbody S hSl) fun V' s' O'=>?_
   have ns:=O'.ns
   rw [show (lawFr env names L Φ d s₁).env.locals=L from F.locals] at ns
   refine wpAny_execs_cons (wpAny_Return_some (wpAny_Constant_bool (hdone s' V'.m O'.st ⟨ns,fun b o e=>O'.base b o (h0 ▸ e),fr.above⟩)))
  ·cases e3; exact nomatch O3.pen
 ·cases e2; exact nomatch O2.pen
end
end
noncomputable section
section
variable {C:Cx} {N fI:Addr}
theorem InstAt.le {d d' f:Nat} {args:List SV} {x:Exn} (h:InstAt C d' f args x) (l:d' ≤ d):InstAt C d f args x:=fun F H V q s vs a R O fs Rm=>h F H V q s vs a R O fs (Rm.le l)
noncomputable def EntOk (C:Cx) (f:Nat):Ent → Prop
 | .no=>True
 | .code np names c=>∃ fd body ps,FnD C f fd body names np ∧ (toSs c (scD C fd names) ps).x=body ∧ (toSs c (scD C fd names) ps).ok=true
 | .tr np names e=>∃ fd x xn n p1 p2 p3 p4 p5 p6 a1 a2 a3 b1 b2 b3 k ps,FnD C f fd (tryB x xn n p1 p2 p3 p4 p5 p6 a1 a2 a3 b1 b2 b3 k) names np ∧ (toE e (scD C fd names) ps).x=x ∧ (toE e (scD C fd names) ps).ok=true ∧ fd.scope.names.lookup xn=some .globalImplicit ∧ n ∈ names ∧ ∃ i:Nat,C.fns[i]?=some (xn,C.exc)
theorem phi_ok {tab:List Ent} {X:XF} {N0:Nat} (hok:C.Ok) (tree:(model C.prog C.w).prog.given.tree=none) (DE:ExcD C N fI) (hX:∀ g vs x,X g vs=some x → InstAt C 3 g vs x) (ht:∀ f e,tab[f]?=some e → EntOk C f e) (k:Nat) :
  ∀ f args p r,Phi tab X N0 k f args p=some r → CallAt C (k + 3) f args p r:=by
 induction k with
 | zero=>intro f args p r e; cases e
 | succ k ih =>
  intro f args p r e
  have hX':∀ g vs x,X g vs=some x → InstAt C (k + 3) g vs x:=fun g vs x e=>(hX g vs x e).le (Nat.le_add_left _ _)
  obtain ⟨en,hf,e⟩:=opK_some e
  have t:=ht f en hf
  cases en with
  | no=>cases e
  | code np names c =>
   obtain ⟨fd,body,ps,D,hb,ho⟩:=t
   exact fn_ok hok tree D hb ho ih hX' (raisesOk hok.X DE) (leavesOk C) (Nat.le_refl _) e
  | tr np names c =>
   obtain ⟨fd,x,xn,n,p1,p2,p3,p4,p5,p6,a1,a2,a3,b1,b2,b3,kk,ps,D,hb,ho,hk,hn,i,hr⟩:=t
   exact try_ok hok tree DE hr D hb ho hk hn ih hX' (raisesOk hok.X DE) (Nat.le_refl _) e
noncomputable def sTCL:List Nat:=[84,67,76]
noncomputable def sFORMAT:List Nat:=[70,79,82,77,65,84]
noncomputable def tMixed:List Nat:=("cannot mix \"%\" and \"%n$\" conversion specifiers".toList).map Char.toNat
noncomputable def kMixed:List Nat:=("MIXEDSPECTYPES".toList).map Char.toNat
noncomputable def tBeyond:List Nat:=("\"%n$\" argument index out of range".toList).map Char.toNat
noncomputable def kBeyond:List Nat:=("INDEXRANGE".toList).map Char.toNat
noncomputable def mk1:CEs:=.cons (.cst (.int 1)) (.cons (.loc 0) (.cons (.loc 1) .nil))
noncomputable def mk2:CEs:=.cons (.loc 0) (.cons (.seq true (.cons (.cst (.str [84,67,76])) (.cons (.cst (.str [70,79,82,77,65,84])) (.cons (.loc 1) .nil)))) .nil)
noncomputable def mk3:CEs:=.cons (.cst (.str tMixed)) (.cons (.cst (.str kMixed)) .nil)
noncomputable def mk4:CEs:=.cons (.cst (.str tBeyond)) (.cons (.cst (.str kBeyond)) .nil)
noncomputable def fault (t k:List Nat):Exn:=⟨1,t,[sTCL,sFORMAT,k]⟩
noncomputable def x2 (g:List Nat → List Nat → Exn):List SV → Option Exn
 | []=>none
 | a::r=>(isV a).bind fun a=>(asStr a).bind fun t=>match r with
  | []=>none
  | b::r=>match r with
   | []=>(isV b).bind fun b=>(asStr b).bind fun k=>some (g t k)
   | _::_=>none
noncomputable def x0 (e:Exn):List SV → Option Exn
 | []=>some e
 | _::_=>none
noncomputable def XX (f:Nat) (vs:List SV):Option Exn:=if f=2 then x2 fault vs else if f=3 then x0 (fault tMixed kMixed) vs else if f=4 then x0 (fault tBeyond kBeyond) vs else none
structure MakerAt (C:Cx) (f np:Nat) (names:List Str) (g:Nat) (l:CEs):Prop where
 is:∃ fd body ps,FnD C f fd body names np ∧ (toSs (.cons (.retn (.call g l)) .nil) (scD C fd names) ps).x=body ∧ (toSs (.cons (.retn (.call g l)) .nil) (scD C fd names) ps).ok=true
theorem xx_ok {fdI:FuncData} {bodyI:List Stmt} (hok:C.Ok) (tree:(model C.prog C.w).prog.given.tree=none) (bo:nsIn C.K mainGlobals "Exception"=some none) (DE:ExcD C N fI) (II:InitFn C fI fdI bodyI) {xn:Str} (h0:C.fns[0]?=some (xn,C.exc))
  {n1 n2:List Str} (l1:n1.length=2) (l2:n2.length=2) (m1:MakerAt C 1 2 n1 0 mk1) (m2:MakerAt C 2 2 n2 1 mk2) (m3:MakerAt C 3 0 [] 2 mk3) (m4:MakerAt C 4 0 [] 2 mk4):∀ g vs x,XX g vs=some x → InstAt C 3 g vs x:=by
 have hR:=raisesOk hok.X DE
 have none1:∀ (d':Nat) g args p r,(noFn:Fn) g args p=some r → CallAt C d' g args p r:=fun _ _ _ _ _ e=>nomatch e
 have none2:∀ (d':Nat) g vs x,(fun _ _=>none:XF) g vs=some x → InstAt C d' g vs x:=fun _ _ _ _ e=>nomatch e
 have r0:∀ (l:List Nat) (ec:List (List Nat)),InstM C 0 0 [.val (.int 1),.val (.str l),.val (.tup (ec.map PV.str))] ⟨1,l,ec⟩:=fun l ec=>raised_inst hok bo DE II h0 1 l ec
 have gl:∀ K:RR,gK (3 ≤ strLine) K=K:=fun K=>if_pos (sline (by decide))
 have r1:∀ (l:List Nat) (ec:List (List Nat)),InstM C 1 1 [.val (.str l),.val (.tup (ec.map PV.str))] ⟨1,l,ec⟩:=fun l ec=>by
  obtain ⟨fd,body,ps,D,hb,ho⟩:=m1.is
  exact maker_ok (vs':=[.val (.int 1),.val (.str l),.val (.tup (ec.map PV.str))]) hok tree D hb ho (none1 0) (none2 0) hR (Nat.le_refl _) rfl (fun p K=>by rw [l1]; rfl) (r0 l ec)
 have r2:∀ (t k:List Nat),InstM C 2 2 [.val (.str t),.val (.str k)] (fault t k):=fun t k=>by
  obtain ⟨fd,body,ps,D,hb,ho⟩:=m2.is
  exact maker_ok (vs':=[.val (.str t),.val (.tup ([sTCL,sFORMAT,k].map PV.str))]) hok tree D hb ho (none1 1) (none2 1) hR (Nat.le_refl _) rfl (fun p K=>by rw [l2]; exact gl _) (r1 t [sTCL,sFORMAT,k])
 have r3:InstM C 3 3 [] (fault tMixed kMixed):=by
  obtain ⟨fd,body,ps,D,hb,ho⟩:=m3.is
  exact maker_ok (vs':=[.val (.str tMixed),.val (.str kMixed)]) hok tree D hb ho (none1 2) (none2 2) hR (Nat.le_refl _) rfl (fun p K=>rfl) (r2 tMixed kMixed)
 have r4:InstM C 3 4 [] (fault tBeyond kBeyond):=by
  obtain ⟨fd,body,ps,D,hb,ho⟩:=m4.is
  exact maker_ok (vs':=[.val (.str tBeyond),.val (.str kBeyond)]) hok tree D hb ho (none1 2) (none2 2) hR (Nat.le_refl _) rfl (fun p K=>rfl) (r2 tBeyond kBeyond)
 have zero:∀ {f:Nat} {y:Exn} {vs:List SV} {x:Exn},InstM C 3 f [] y → x0 y vs=some x → InstAt C 3 f vs x:=fun {f y vs x} h e=>by
  cases vs with
  | nil=>cases e; exact inst_of_M (fun _ hy=>nomatch hy) h
  | cons=>cases e
 intro g vs x e
 unfold XX at e
 by_cases q2:g=2
 ·rw [if_pos q2] at e
  subst q2
  cases vs with
  | nil=>cases e
  | cons a r =>
   obtain ⟨a',ha,e⟩:=Option.bind_eq_some_iff.mp e
   obtain rfl:=isV_some ha
   obtain ⟨t,ht,e⟩:=Option.bind_eq_some_iff.mp e
   obtain rfl:=asStr_some ht
   cases r with
   | nil=>cases e
   | cons b r =>
    cases r with
    | cons=>cases e
    | nil =>
     obtain ⟨b',hb,e⟩:=Option.bind_eq_some_iff.mp e
     obtain rfl:=isV_some hb
     obtain ⟨k,hk,e⟩:=Option.bind_eq_some_iff.mp e
     obtain rfl:=asStr_some hk
     cases e
     refine (inst_of_M (fun y hy=>?_) (r2 t k)).le (by decide)
     rcases List.mem_cons.mp hy with rfl | hy
     ·exact ⟨_,rfl⟩
     ·exact ⟨k,List.mem_singleton.mp hy⟩
 ·rw [if_neg q2] at e
  by_cases q3:g=3
  ·rw [if_pos q3] at e; subst q3; exact zero r3 e
  ·rw [if_neg q3] at e
   by_cases q4:g=4
   ·rw [if_pos q4] at e; subst q4; exact zero r4 e
   ·rw [if_neg q4] at e; cases e
end
end
end Mp
end
section
open PySem PySem.W PyProof.Rows PySem.Calls PyProof
set_option Elab.async false
set_option maxRecDepth 100000
set_option maxHeartbeats 4000000
set_option genInjectivity false
set_option genSizeOf false
set_option linter.unusedVariables false
namespace Mp
noncomputable section
noncomputable def isFunc:Data → Option FuncData
 | .func fd=>some fd
 | _=>none
theorem isFunc_some {d:Data} {fd:FuncData} (h:isFunc d=some fd):d=.func fd:=by cases d <;> first | (cases h; rfl) | cases h
noncomputable def plainA (as:List Arg) (kd:List (Option PExpr)) (ds:List PExpr):Arguments:=⟨[],as,none,[],kd,none,ds⟩
theorem zip_there {ns:List Str}:∀ {vs:List Value},vs.length=ns.length → ∀ n ∈ ns,((ns.zip vs).lookup n).isSome=true:=by
 induction ns with
 | nil=>intro vs _ n h; cases h
 | cons a ns ih =>
  intro vs h n hn
  cases vs with
  | nil=>cases h
  | cons v vs =>
   rw [List.zip_cons_cons,List.lookup_cons]
   cases q:n == a with
   | true=>rfl
   | false=>exact ih (Nat.succ.inj h) n ((List.mem_cons.mp hn).resolve_left fun z=>by rw [z,beq_self_eq_true] at q; cases q)
theorem filter_same {α β:Type} {f g:α → Option β} {l:List α} (h:∀ n ∈ l,f n=g n):l.filterMap f=l.filterMap g:=by
 induction l with
 | nil=>rfl
 | cons a l ih=>rw [List.filterMap_cons,List.filterMap_cons,h a (.head _),ih fun n hn=>h n (.tail _ hn)]
theorem zip_filter {ns:List Str}:∀ {vs:List Value},ns.Nodup → vs.length=ns.length → ns.filterMap (fun n=>((ns.zip vs).lookup n).map (n,·))=ns.zip vs:=by
 induction ns with
 | nil=>exact fun _ _=>rfl
 | cons a ns ih =>
  intro vs nd h
  obtain ⟨na,nd⟩:=List.nodup_cons.mp nd
  cases vs with
  | nil=>cases h
  | cons v vs =>
   rw [List.zip_cons_cons,List.filterMap_cons,List.lookup_cons,beq_self_eq_true]
   refine congrArg ((a,v)::·) ((filter_same fun n hn=>?_).trans (ih nd (Nat.succ.inj h)))
   rw [List.lookup_cons,show (n == a)=false from beq_eq_false_iff_ne.mpr fun q=>na (q ▸ hn)]
noncomputable def bindR (fd:FuncData) (vs:List Value):Option (Array Value) → Sem (List (Str × Value)) :=
 (fun (k:Option (Array Value) → Sem (List (Str × Value))) (_:bindArgs fd ⟨vs,[]⟩=seqItems? fd.defaults >>= k)=>k) _ rfl
theorem bindR_is (fd:FuncData) (vs:List Value):bindArgs fd ⟨vs,[]⟩=seqItems? fd.defaults >>= bindR fd vs:=rfl
theorem bindR_if {fd:FuncData} {as:List Arg} {kd:List (Option PExpr)} {ds:List PExpr} (vs:List Value) (hp:fd.params=plainA as kd ds):∃ (x1 x2:Sem (List (Str × Value))) (k:List (Str × Value) → Sem (List (Str × Value))),bindR fd vs none=ite ((decide (vs.length > (as.map (·.arg)).length) && true)=true) x1
   (ite ((!(List.filter (fun n=>(List.lookup n ((as.map (·.arg)).zip vs)).isNone) ((as.map (·.arg)).take ((as.map (·.arg)).length - (List.drop (0 - (as.map (·.arg)).length) ([]:List Value)).length))).isEmpty)=true) x2
    (k (List.zip ((as.map (·.arg)).drop ((as.map (·.arg)).length - (List.drop (0 - (as.map (·.arg)).length) ([]:List Value)).length)) (List.drop (0 - (as.map (·.arg)).length) ([]:List Value))))) ∧
  k []=pure (List.filterMap (fun n=>(List.lookup n ((as.map fun x:Arg=>x.arg).zip vs)).map (n,·)) ((as.map fun x:Arg=>x.arg) ++ [])):=by
 obtain ⟨nm,q,ps,bd,sc,g,cl,df,kw,dc,pm,an,cd,ct,bi⟩:=fd
 cases hp
 exact ⟨_,_,fun l=>(forIn l _ _:Sem _) >>= _,rfl,rfl⟩
theorem binds_plain {fd:FuncData} {as:List Arg} {kd:List (Option PExpr)} {ds:List PExpr} {ns:List Str} {vs:List Value} (hp:fd.params=plainA as kd ds) (ha:as.map (·.arg)=ns) (hd:fd.defaults=.none) (hnd:ns.Nodup) (hl:vs.length=ns.length):bindArgs fd ⟨vs,[]⟩=pure (ns.zip vs):=by
 subst ha
 obtain ⟨x1,x2,k,e,ek⟩:=bindR_if vs hp
 rw [bindR_is,hd]
 show bindR fd vs none=_
 rw [e,List.drop_nil,List.zip_nil_right,ek,List.append_nil,zip_filter hnd hl,if_neg,if_neg]
 ·rw [List.filter_eq_nil_iff.mpr fun n hn q=>?_]
  ·decide
  ·have:=zip_there hl n (List.mem_of_mem_take hn)
   rw [Option.isNone_iff_eq_none.mp q] at this; cases this
 ·rw [hl,decide_eq_false (Nat.lt_irrefl _)]; decide
structure FV where
 as:List Arg
 kd:List (Option PExpr)
 ds:List PExpr
 body:List Stmt
 scope:Scope
noncomputable def fdSeen (fd:FuncData):Arguments × FuncBody × Scope × Addr × Value × Addr:=(fd.params,fd.body,fd.scope,fd.globals,fd.defaults,fd.builtins)
noncomputable def fdMust (v:FV) (df:Value):Arguments × FuncBody × Scope × Addr × Value × Addr:=(plainA v.as v.kd v.ds,.stmts v.body,v.scope,mainGlobals,df,builtinsNs)
noncomputable def fnSeen (K:Frag) (a:Addr):Option ((Arguments × FuncBody × Scope × Addr × Value × Addr) × Bool):=(K.lookup a).bind fun o=>(isFunc o.data).map fun fd=>(fdSeen fd,codeIn K fd.code fd.qualname)
noncomputable def scSeen (v:FV) (np:Nat) (names:List Str):Bool :=
 v.scope.kind == .function && !v.scope.isCoroutine && !v.scope.isGenerator && v.scope.names.all (fun x=>x.2 != .cell) && names.all (fun x=>v.scope.names.lookup x == some .local && !(x == ("__debug__":Str))) && decide names.Nodup && decide (np ≤ names.length) && (v.as.map (·.arg) == names.take np)
theorem fn_seen {K:Frag} {a:Addr} {v:FV} {df:Value} (h:fnSeen K a=some (fdMust v df,true)):∃ o fd,K.lookup a=some o ∧ o.data=.func fd ∧ codeIn K fd.code fd.qualname=true ∧ fd.params=plainA v.as v.kd v.ds ∧ fd.body=.stmts v.body ∧ fd.scope=v.scope ∧ fd.globals=mainGlobals ∧ fd.defaults=df ∧ fd.builtins=builtinsNs:=by
 obtain ⟨o,ho,h⟩:=Option.bind_eq_some_iff.mp h
 obtain ⟨fd,hd,h⟩:=Option.map_eq_some_iff.mp h
 have h1:=congrArg (·.1) h
 have h2:codeIn K fd.code fd.qualname=true:=congrArg (·.2) h
 exact ⟨o,fd,ho,isFunc_some hd,h2,congrArg (·.1) h1,congrArg (·.2.1) h1,congrArg (·.2.2.1) h1,congrArg (·.2.2.2.1) h1,congrArg (·.2.2.2.2.1) h1,congrArg (·.2.2.2.2.2) h1⟩
theorem fnD_of {C:Cx} {i np:Nat} {names:List Str} {n:Str} {a:Addr} {v:FV} {df:Value} (hi:C.fns[i]?=some (n,a)) (h:fnSeen C.K a=some (fdMust v df,true)) (hs:scSeen v np names=true)
  (hb:∀ fd:FuncData,fd.params=plainA v.as v.kd v.ds → fd.defaults=df → ∀ vs:List Value,vs.length=np → ∀ s:Shared,C.K.In s.heap → BindsTo s fd ⟨vs,[]⟩ ((names.take np).zip vs)):∃ fd,FnD C i fd v.body names np ∧ fd.scope=v.scope:=by
 obtain ⟨o,fd,ho,hd,hc,hp,hbd,hsc,hg,hdf,hbi⟩:=fn_seen h
 have g7:=of_decide_eq_true (and_r (and_l hs))
 have g6:=of_decide_eq_true (and_r (and_l (and_l hs)))
 have g5:=List.all_eq_true.mp (and_r (and_l (and_l (and_l hs))))
 have g4:=List.all_eq_true.mp (and_r (and_l (and_l (and_l (and_l hs)))))
 have g3:=and_r (and_l (and_l (and_l (and_l (and_l hs)))))
 have g2:=and_r (and_l (and_l (and_l (and_l (and_l (and_l hs))))))
 have g1:=and_l (and_l (and_l (and_l (and_l (and_l (and_l hs))))))
 rw [Bool.not_eq_true'] at g2 g3
 exact ⟨fd,⟨⟨a,o,by rw [hi]; rfl,ho,hd⟩,hc,hbd,hg,hbi,by rw [hsc]; exact eq_of_beq g1,by rw [hsc]; exact g2,by rw [hsc]; exact g3,fun x hx=>bne_iff_ne.mp (g4 x (hsc ▸ hx)),fun x hx=>by
  have:=g5 x hx
  rw [hsc]
  exact ⟨eq_of_beq (and_l this),by have:=and_r this; rwa [Bool.not_eq_true'] at this⟩,g6,g7,hb fd hp hdf⟩,hsc⟩
theorem fnD_plain {C:Cx} {i np:Nat} {names:List Str} {n:Str} {a:Addr} {v:FV} (hi:C.fns[i]?=some (n,a)) (h:fnSeen C.K a=some (fdMust v .none,true)) (hs:scSeen v np names=true):∃ fd,FnD C i fd v.body names np ∧ fd.scope=v.scope :=
 fnD_of hi h hs fun fd hp hd vs hv s _=>BindsTo.of_eq (binds_plain hp (eq_of_beq (and_r hs)) hd ((of_decide_eq_true (and_r (and_l (and_l hs)))).sublist (List.take_sublist _ _)) (by
  have:=of_decide_eq_true (and_r (and_l hs))
  rw [List.length_take,hv]; omega))
end
noncomputable section
noncomputable def isSeq (n:Nat):Data → Bool
 | .seq items _=>items.size == n
 | _=>false
theorem isSeq_some {n:Nat} {d:Data} (h:isSeq n d=true):∃ items k,d=.seq items k ∧ items.size=n:=by
 cases d <;> first | exact ⟨_,_,rfl,eq_of_beq h⟩ | cases h
noncomputable def dfSeen (K:Frag) (T:Addr) (n:Nat):Bool:=((K.lookup T).map fun o=>isSeq n o.data).getD false
theorem df_seen {K:Frag} {T:Addr} {n:Nat} (h:dfSeen K T n=true):∃ o items k,K.lookup T=some o ∧ o.data=.seq items k ∧ items.size=n:=by
 unfold dfSeen at h
 cases e:K.lookup T with
 | none=>rw [e] at h; cases h
 | some o=>rw [e] at h; obtain ⟨items,k,h1,h2⟩:=isSeq_some h; exact ⟨o,items,k,rfl,h1,h2⟩
theorem arg_cons {as:List Arg} {n:Str} {ns:List Str} (h:as.map (·.arg)=n::ns):∃ a p r,as=⟨n,a,p⟩::r ∧ r.map (·.arg)=ns:=by
 cases as with
 | nil=>cases h
 | cons x r =>
  obtain ⟨m,a,p⟩:=x
  injection h with h1 h2
  exact ⟨a,p,r,by rw [show m=n from h1],h2⟩
theorem arg_nil {as:List Arg} (h:as.map (·.arg)=([]:List Str)):as=[]:=List.map_eq_nil_iff.mp h
section
variable {K:Frag} {fd:FuncData} {s:Shared} {as:List Arg} {kd:List (Option PExpr)} {ds:List PExpr} {T:Addr}
theorem binds_error (hs:K.In s.heap) (hp:fd.params=plainA as kd ds) (ha:as.map (·.arg)=(["text","errorcode"]:List Str)) (hd:fd.defaults=.ref T) (hT:dfSeen K T 1=true) (x y:Value):BindsTo s fd ⟨[x,y],[]⟩ [("text",x),("errorcode",y)]:=by
 obtain ⟨o,⟨items⟩,k,hl,hi,hz⟩:=df_seen hT
 obtain ⟨v,rfl⟩:=List.length_eq_one_iff.mp hz
 obtain ⟨_,_,_,rfl,ha1⟩:=arg_cons ha
 obtain ⟨_,_,_,rfl,ha2⟩:=arg_cons ha1
 obtain rfl:=arg_nil ha2
 obtain ⟨nm,q,ps,bd,sc,g,cl,df,kw,dc,pm,an,cd,ct,bi⟩:=fd
 cases hp; cases hd
 exact BindsTo.of_defaults rfl (hs _ _ hl) hi (bindR_is _ _) rfl
theorem binds_scan (hs:K.In s.heap) (hp:fd.params=plainA as kd ds) (ha:as.map (·.arg)=(["text","form","count"]:List Str)) (hd:fd.defaults=.ref T) (hT:dfSeen K T 1=true) (x y z:Value):BindsTo s fd ⟨[x,y,z],[]⟩ [("text",x),("form",y),("count",z)]:=by
 obtain ⟨o,⟨items⟩,k,hl,hi,hz⟩:=df_seen hT
 obtain ⟨v,rfl⟩:=List.length_eq_one_iff.mp hz
 obtain ⟨_,_,_,rfl,ha1⟩:=arg_cons ha
 obtain ⟨_,_,_,rfl,ha2⟩:=arg_cons ha1
 obtain ⟨_,_,_,rfl,ha3⟩:=arg_cons ha2
 obtain rfl:=arg_nil ha3
 obtain ⟨nm,q,ps,bd,sc,g,cl,df,kw,dc,pm,an,cd,ct,bi⟩:=fd
 cases hp; cases hd
 exact BindsTo.of_defaults rfl (hs _ _ hl) hi (bindR_is _ _) rfl
theorem binds_init (hs:K.In s.heap) (hp:fd.params=plainA as kd ds) (ha:as.map (·.arg)=six) (hd:fd.defaults=.ref T) (hT:dfSeen K T 3=true) (e c v x:Value):∃ lv rv,BindsTo s fd ⟨[e,c,v,x],[]⟩ [("self",e),("code",c),("value",v),("errorcode",x),("level",lv),("ret",rv)]:=by
 obtain ⟨o,⟨items⟩,k,hl,hi,hz⟩:=df_seen hT
 obtain ⟨v1,v2,v3,rfl⟩:∃ v1 v2 v3,items=[v1,v2,v3]:=by
  cases items with
  | nil=>cases hz
  | cons v1 r =>
   cases r with
   | nil=>cases hz
   | cons v2 r =>
    obtain ⟨v3,rfl⟩:=List.length_eq_one_iff.mp (Nat.succ.inj (Nat.succ.inj hz):r.length=1)
    exact ⟨v1,v2,v3,rfl⟩
 obtain ⟨_,_,_,rfl,ha1⟩:=arg_cons ha
 obtain ⟨_,_,_,rfl,ha2⟩:=arg_cons ha1
 obtain ⟨_,_,_,rfl,ha3⟩:=arg_cons ha2
 obtain ⟨_,_,_,rfl,ha4⟩:=arg_cons ha3
 obtain ⟨_,_,_,rfl,ha5⟩:=arg_cons ha4
 obtain ⟨_,_,_,rfl,ha6⟩:=arg_cons ha5
 obtain rfl:=arg_nil ha6
 obtain ⟨nm,q,ps,bd,sc,g,cl,df,kw,dc,pm,an,cd,ct,bi⟩:=fd
 cases hp; cases hd
 exact ⟨v2,v3,BindsTo.of_defaults rfl (hs _ _ hl) hi (bindR_is _ _) rfl⟩
end
theorem initFn_of {C:Cx} {fI T:Addr} {v:FV} (h:fnSeen C.K fI=some (fdMust v (.ref T),true)) (hc:((C.K.lookup fI).map (·.cls))=some (.type "function")) (hT:dfSeen C.K T 3=true) (ib:InitBody v.body) (ha:v.as.map (·.arg)=six)
  (hs:(v.scope.kind == .function && !v.scope.isCoroutine && !v.scope.isGenerator && v.scope.names.all (fun x=>x.2 != .cell) && six.all (fun x=>v.scope.names.lookup x == some .local) && v.scope.names.lookup ("Exception":Str) == some .globalImplicit)=true):∃ fd,InitFn C fI fd v.body:=by
 obtain ⟨o,fd,ho,hd,hc',hp,hbd,hsc,hg,hdf,hbi⟩:=fn_seen h
 rw [ho] at hc
 have g6:=eq_of_beq (and_r hs)
 have g5:=List.all_eq_true.mp (and_r (and_l hs))
 have g4:=List.all_eq_true.mp (and_r (and_l (and_l hs)))
 have g3:=and_r (and_l (and_l (and_l hs)))
 have g2:=and_r (and_l (and_l (and_l (and_l hs))))
 have g1:=and_l (and_l (and_l (and_l (and_l hs))))
 rw [Bool.not_eq_true'] at g2 g3
 exact ⟨fd,⟨o,ho,Option.some.inj hc,hd⟩,hc',hbd,ib,hg,hbi,by rw [hsc]; exact eq_of_beq g1,by rw [hsc]; exact g2,by rw [hsc]; exact g3,fun x hx=>bne_iff_ne.mp (g4 x (hsc ▸ hx)),fun x hx=>by rw [hsc]; exact eq_of_beq (g5 x hx),by rw [hsc]; exact g6,fun e cv vv ev s hs=>binds_init hs hp ha hdf hT e cv vv ev⟩
noncomputable def clsSeen (K:Frag) (exc N fI:Addr):Option Obj × Bool:=(K.lookup exc,nsOkIn K N && excNames.all (fun n=>nsIn K N n == some none) && nsIn K N "__init__" == some (some (.ref fI)) && nsIn K mainGlobals "Exception" == some none)
theorem cls_seen {C:Cx} {N fI:Addr} {nm q:Str} {bs:List Value} {sn:List Str} {sub:List Value} {ab:Bool} {col:Option Bool} {dd:Option Addr} {k0 k1 k2 k3 k5:Option Value}
  (h:clsSeen C.K C.exc N fI=(some (excClassObj nm q C.exc N bs excBm true sn sub ab col dd k0 k1 k2 k3 k5 "Exception.__new__"),true)):ExcD C N fI ∧ nsIn C.K mainGlobals "Exception"=some none:=by
 have h1:C.K.lookup C.exc=_:=congrArg (·.1) h
 have h2:(_ && _)=true:=congrArg (·.2) h
 exact ⟨⟨⟨nm,q,bs,sn,sub,ab,col,dd,k0,k1,k2,k3,k5,h1⟩,and_l (and_l (and_l h2)),fun n hn=>eq_of_beq (List.all_eq_true.mp (and_r (and_l (and_l h2))) n hn),eq_of_beq (and_r (and_l h2))⟩,eq_of_beq (and_r h2)⟩
noncomputable def namesSeen (K:Frag) (fns:List (Str × Addr)):Bool:=(fns.all fun f=>nsIn K mainGlobals f.1 == some (some (.ref f.2)) && keepIn K (.ref f.2) && !(f.1 == ("__debug__":Str))) && biNames.all fun n=>nsIn K mainGlobals n == some none
theorem names_seen {K:Frag} {fns:List (Str × Addr)} (h:namesSeen K fns=true):(∀ f ∈ fns,nsIn K mainGlobals f.1=some (some (.ref f.2)) ∧ keepIn K (.ref f.2)=true ∧ (f.1 == ("__debug__":Str))=false) ∧ ∀ n ∈ biNames,nsIn K mainGlobals n=some none :=
 ⟨fun f hf=>have z:=List.all_eq_true.mp (and_l h) f hf; ⟨eq_of_beq (and_l (and_l z)),and_r (and_l z),by have:=and_r z; rwa [Bool.not_eq_true'] at this⟩,fun n hn=>eq_of_beq (List.all_eq_true.mp (and_r h) n hn)⟩
end
end Mp
end
section
open PySem PySem.W PyProof.Rows PySem.Calls PyProof
set_option Elab.async false
set_option maxRecDepth 1000000
set_option linter.unusedVariables false
namespace Mp
noncomputable def n_is_blank:List Str:=["c"]
noncomputable def c_is_blank:CSs :=
 (.cons (.retn (.cmp1 .isIn (.loc 0) (.seq true (.cons (.cst (.str [32])) (.cons (.cst (.str [9])) (.cons (.cst (.str [10])) (.cons (.cst (.str [11])) (.cons (.cst (.str [12])) (.cons (.cst (.str [13])) .nil)))))))))
 .nil)
noncomputable def n_digit:List Str:=["c","n"]
noncomputable def c_digit:CSs :=
 (.cons (.ite (.cmp1 .ne (.bi .len (.cons (.loc 0) .nil)) (.cst (.int 1)))
  (.cons (.retn (.neg (.cst (.int 1))))
  .nil)
  .nil)
 (.cons (.assign 1 (.bi .ord (.cons (.loc 0) .nil)))
 (.cons (.ite (.cmp2 .le .le (.cst (.int 48)) (.loc 1) (.cst (.int 57)))
  (.cons (.retn (.bin .sub (.loc 1) (.cst (.int 48))))
  .nil)
  .nil)
 (.cons (.ite (.cmp2 .le .le (.cst (.int 97)) (.loc 1) (.cst (.int 122)))
  (.cons (.retn (.bin .sub (.loc 1) (.cst (.int 87))))
  .nil)
  .nil)
 (.cons (.ite (.cmp2 .le .le (.cst (.int 65)) (.loc 1) (.cst (.int 90)))
  (.cons (.retn (.bin .sub (.loc 1) (.cst (.int 55))))
  .nil)
  .nil)
 (.cons (.retn (.neg (.cst (.int 1))))
 .nil))))))
noncomputable def n_digits_value:List Str:=["text","base","value","c","n"]
noncomputable def b_digits_value_1:CSs :=
 (.cons (.assign 4 (.call 6 (.cons (.loc 3) .nil)))
 (.cons (.ite (.bool false (.cons (.cmp1 .lt (.loc 4) (.cst (.int 0))) (.cons (.cmp1 .ge (.loc 4) (.loc 1)) .nil)))
  (.cons (.retn (.cst .none))
  .nil)
  .nil)
 (.cons (.assign 2 (.bin .add (.bin .mul (.loc 2) (.loc 1)) (.loc 4)))
 .nil)))
noncomputable def c_digits_value:CSs :=
 (.cons (.ite (.cmp1 .eq (.loc 0) (.cst (.str [])))
  (.cons (.retn (.cst .none))
  .nil)
  .nil)
 (.cons (.assign 2 (.cst (.int 0)))
 (.cons (.loop (.one 3) false (.loc 0) b_digits_value_1)
 (.cons (.retn (.loc 2))
 .nil))))
noncomputable def n_wide:List Str:=["n","low"]
noncomputable def c_wide:CSs :=
 (.cons (.assign 1 (.bin .band (.loc 0) (.bin .sub (.bin .shl (.cst (.int 1)) (.cst (.int 64))) (.cst (.int 1)))))
 (.cons (.ite (.cmp1 .eq (.bin .shr (.loc 1) (.cst (.int 63))) (.cst (.int 1)))
  (.cons (.retn (.bin .sub (.loc 1) (.bin .shl (.cst (.int 1)) (.cst (.int 64)))))
  .nil)
  .nil)
 (.cons (.retn (.loc 1))
 .nil)))
noncomputable def n_sign_at:List Str:=["text","at"]
noncomputable def c_sign_at:CSs :=
 (.cons (.retn (.ite (.cmp1 .lt (.loc 1) (.bi .len (.cons (.loc 0) .nil))) (.idx (.loc 0) (.loc 1)) (.cst (.str []))))
 .nil)
noncomputable def n_place_of:List Str:=["text","sign","at"]
noncomputable def q_place_of_1:CE:=(.bool true (.cons (.cmp1 .lt (.loc 2) (.bi .len (.cons (.loc 0) .nil))) (.cons (.cmp1 .ne (.idx (.loc 0) (.loc 2)) (.loc 1)) .nil)))
noncomputable def b_place_of_1:CSs :=
 (.cons (.aug 2 (.cst (.int 1)))
 .nil)
noncomputable def c_place_of:CSs :=
 (.cons (.whil q_place_of_1 b_place_of_1)
 (.cons (.retn (.loc 2))
 .nil))
noncomputable def n_digits_behind:List Str:=["text","at","last","base"]
noncomputable def q_digits_behind_1:CE:=(.bool true (.cons (.cmp1 .lt (.loc 1) (.loc 2)) (.cons (.cmp2 .le .lt (.cst (.int 0)) (.call 6 (.cons (.idx (.loc 0) (.loc 1)) .nil)) (.loc 3)) .nil)))
noncomputable def b_digits_behind_1:CSs :=
 (.cons (.aug 1 (.cst (.int 1)))
 .nil)
noncomputable def c_digits_behind:CSs :=
 (.cons (.whil q_digits_behind_1 b_digits_behind_1)
 (.cons (.retn (.loc 1))
 .nil))
noncomputable def n_read_digits:List Str:=["form","at","behind"]
noncomputable def c_read_digits:CSs :=
 (.cons (.assign 2 (.call 11 (.cons (.loc 0) (.cons (.loc 1) (.cons (.bi .len (.cons (.loc 0) .nil)) (.cons (.cst (.int 10)) .nil))))))
 (.cons (.ite (.cmp1 .eq (.loc 2) (.loc 1))
  (.cons (.retn (.seq true (.cons (.neg (.cst (.int 1))) (.cons (.loc 1) .nil))))
  .nil)
  .nil)
 (.cons (.retn (.seq true (.cons (.call 7 (.cons (.slice (.loc 0) (.yes (.loc 1)) (.yes (.loc 2))) (.cons (.cst (.int 10)) .nil))) (.cons (.loc 2) .nil))))
 .nil)))
noncomputable def n_read_place:List Str:=["form","at","number","behind"]
noncomputable def c_read_place:CSs :=
 (.cons (.unpack [2,3] (.call 12 (.cons (.loc 0) (.cons (.loc 1) .nil))))
 (.cons (.ite (.bool true (.cons (.cmp1 .ge (.loc 2) (.cst (.int 0))) (.cons (.cmp1 .eq (.call 9 (.cons (.loc 0) (.cons (.loc 3) .nil))) (.cst (.str [36]))) .nil)))
  (.cons (.retn (.seq true (.cons (.loc 2) (.cons (.bin .add (.loc 3) (.cst (.int 1))) .nil))))
  .nil)
  .nil)
 (.cons (.retn (.seq true (.cons (.neg (.cst (.int 1))) (.cons (.loc 1) .nil))))
 .nil)))
noncomputable def n_read_size:List Str:=["form","at","c"]
noncomputable def c_read_size:CSs :=
 (.cons (.assign 2 (.call 9 (.cons (.loc 0) (.cons (.loc 1) .nil))))
 (.cons (.ite (.bool true (.cons (.cmp1 .eq (.loc 2) (.cst (.str [108]))) (.cons (.cmp1 .eq (.call 9 (.cons (.loc 0) (.cons (.bin .add (.loc 1) (.cst (.int 1))) .nil))) (.cst (.str [108]))) .nil)))
  (.cons (.retn (.seq true (.cons (.cst (.str [98,105,103])) (.cons (.bin .add (.loc 1) (.cst (.int 2))) .nil))))
  .nil)
  .nil)
 (.cons (.ite (.cmp1 .eq (.loc 2) (.cst (.str [76])))
  (.cons (.retn (.seq true (.cons (.cst (.str [98,105,103])) (.cons (.bin .add (.loc 1) (.cst (.int 1))) .nil))))
  .nil)
  .nil)
 (.cons (.ite (.cmp1 .isIn (.loc 2) (.seq true (.cons (.cst (.str [108])) (.cons (.cst (.str [106])) (.cons (.cst (.str [113])) (.cons (.cst (.str [122])) (.cons (.cst (.str [116])) .nil)))))))
  (.cons (.retn (.seq true (.cons (.cst (.str [108])) (.cons (.bin .add (.loc 1) (.cst (.int 1))) .nil))))
  .nil)
  .nil)
 (.cons (.ite (.cmp1 .eq (.loc 2) (.cst (.str [104])))
  (.cons (.retn (.seq true (.cons (.cst (.str [104])) (.cons (.bin .add (.loc 1) (.cst (.int 1))) .nil))))
  .nil)
  .nil)
 (.cons (.retn (.seq true (.cons (.cst (.str [])) (.cons (.loc 1) .nil))))
 .nil))))))
noncomputable def n_base_of_sort:List Str:=["sort"]
noncomputable def c_base_of_sort:CSs :=
 (.cons (.ite (.cmp1 .isIn (.loc 0) (.seq true (.cons (.cst (.str [120])) (.cons (.cst (.str [88])) .nil))))
  (.cons (.retn (.cst (.int 16)))
  .nil)
  .nil)
 (.cons (.ite (.cmp1 .eq (.loc 0) (.cst (.str [111])))
  (.cons (.retn (.cst (.int 8)))
  .nil)
  .nil)
 (.cons (.ite (.cmp1 .eq (.loc 0) (.cst (.str [98])))
  (.cons (.retn (.cst (.int 2)))
  .nil)
  .nil)
 (.cons (.retn (.cst (.int 10)))
 .nil))))
noncomputable def n_read_spec:List Str:=["form","at","place","is_kept","width","size"]
noncomputable def c_read_spec:CSs :=
 (.cons (.assign 2 (.neg (.cst (.int 1))))
 (.cons (.assign 3 (.cmp1 .ne (.call 9 (.cons (.loc 0) (.cons (.loc 1) .nil))) (.cst (.str [42]))))
 (.cons (.ite (.loc 3)
  (.cons (.unpack [2,1] (.call 13 (.cons (.loc 0) (.cons (.loc 1) .nil))))
  .nil)
  (.cons (.aug 1 (.cst (.int 1)))
  .nil))
 (.cons (.unpack [4,1] (.call 12 (.cons (.loc 0) (.cons (.loc 1) .nil))))
 (.cons (.unpack [5,1] (.call 14 (.cons (.loc 0) (.cons (.loc 1) .nil))))
 (.cons (.retn (.seq true (.cons (.loc 2) (.cons (.loc 3) (.cons (.loc 4) (.cons (.loc 5) (.cons (.call 9 (.cons (.loc 0) (.cons (.loc 1) .nil))) (.cons (.bin .add (.loc 1) (.cst (.int 1))) .nil))))))))
 .nil))))))
noncomputable def n_set_behind:List Str:=["form","at","behind"]
noncomputable def c_set_behind:CSs :=
 (.cons (.ite (.cmp1 .eq (.call 9 (.cons (.loc 0) (.cons (.loc 1) .nil))) (.cst (.str [94])))
  (.cons (.aug 1 (.cst (.int 1)))
  .nil)
  .nil)
 (.cons (.ite (.cmp1 .eq (.call 9 (.cons (.loc 0) (.cons (.loc 1) .nil))) (.cst (.str [93])))
  (.cons (.aug 1 (.cst (.int 1)))
  .nil)
  .nil)
 (.cons (.assign 2 (.call 10 (.cons (.loc 0) (.cons (.cst (.str [93])) (.cons (.loc 1) .nil)))))
 (.cons (.ite (.cmp1 .ge (.loc 2) (.bi .len (.cons (.loc 0) .nil)))
  (.cons (.raise 2 (.cons (.cst (.str [117,110,109,97,116,99,104,101,100,32,91,32,105,110,32,102,111,114,109,97,116,32,115,116,114,105,110,103])) (.cons (.cst (.str [66,82,65,67,75,69,84])) .nil)))
  .nil)
  .nil)
 (.cons (.retn (.bin .add (.loc 2) (.cst (.int 1))))
 .nil)))))
noncomputable def n_check_sort:List Str:=["sort","width","size"]
noncomputable def c_check_sort:CSs :=
 (.cons (.ite (.bool true (.cons (.cmp1 .eq (.loc 0) (.cst (.str [99]))) (.cons (.cmp1 .ge (.loc 1) (.cst (.int 0))) .nil)))
  (.cons (.raise 2 (.cons (.cst (.str [102,105,101,108,100,32,119,105,100,116,104,32,109,97,121,32,110,111,116,32,98,101,32,115,112,101,99,105,102,105,101,100,32,105,110,32,37,99,32,99,111,110,118,101,114,115,105,111,110])) (.cons (.cst (.str [66,65,68,87,73,68,84,72])) .nil)))
  .nil)
  .nil)
 (.cons (.ite (.bool true (.cons (.cmp1 .isIn (.loc 0) (.seq true (.cons (.cst (.str [99])) (.cons (.cst (.str [110])) (.cons (.cst (.str [115])) (.cons (.cst (.str [91])) .nil)))))) (.cons (.cmp1 .isIn (.loc 2) (.seq true (.cons (.cst (.str [108])) (.cons (.cst (.str [98,105,103])) .nil)))) .nil)))
  (.cons (.raise 2 (.cons (.bin .add (.bin .add (.cst (.str [102,105,101,108,100,32,115,105,122,101,32,109,111,100,105,102,105,101,114,32,109,97,121,32,110,111,116,32,98,101,32,115,112,101,99,105,102,105,101,100,32,105,110,32,37])) (.loc 0)) (.cst (.str [32,99,111,110,118,101,114,115,105,111,110]))) (.cons (.cst (.str [66,65,68,83,73,90,69])) .nil)))
  .nil)
  .nil)
 (.cons (.ite (.cmp1 .notIn (.loc 0) (.seq true (.cons (.cst (.str [100])) (.cons (.cst (.str [105])) (.cons (.cst (.str [117])) (.cons (.cst (.str [111])) (.cons (.cst (.str [120])) (.cons (.cst (.str [88])) (.cons (.cst (.str [98])) (.cons (.cst (.str [99])) (.cons (.cst (.str [115])) (.cons (.cst (.str [91])) (.cons (.cst (.str [110])) .nil)))))))))))))
  (.cons (.raise 2 (.cons (.bin .add (.bin .add (.cst (.str [98,97,100,32,115,99,97,110,32,99,111,110,118,101,114,115,105,111,110,32,99,104,97,114,97,99,116,101,114,32,34])) (.loc 0)) (.cst (.str [34]))) (.cons (.cst (.str [66,65,68,84,89,80,69])) .nil)))
  .nil)
  .nil)
 .nil)))
noncomputable def n_check_told:List Str:=["told","many","is_free","index","times"]
noncomputable def b_check_told_1:CSs :=
 (.cons (.assign 4 (.dget 0 (.loc 3) (.cst (.int 0))))
 (.cons (.ite (.cmp1 .gt (.loc 4) (.cst (.int 1)))
  (.cons (.raise 2 (.cons (.cst (.str [118,97,114,105,97,98,108,101,32,105,115,32,97,115,115,105,103,110,101,100,32,98,121,32,109,117,108,116,105,112,108,101,32,34,37,110,36,34,32,99,111,110,118,101,114,115,105,111,110,32,115,112,101,99,105,102,105,101,114,115])) (.cons (.cst (.str [80,79,76,89,65,83,83,73,71,78,69,68])) .nil)))
  .nil)
  .nil)
 (.cons (.ite (.bool true (.cons (.cmp1 .eq (.loc 4) (.cst (.int 0))) (.cons (.not (.loc 2)) .nil)))
  (.cons (.raise 2 (.cons (.cst (.str [118,97,114,105,97,98,108,101,32,105,115,32,110,111,116,32,97,115,115,105,103,110,101,100,32,98,121,32,97,110,121,32,99,111,110,118,101,114,115,105,111,110,32,115,112,101,99,105,102,105,101,114,115])) (.cons (.cst (.str [85,78,65,83,83,73,71,78,69,68])) .nil)))
  .nil)
  .nil)
 .nil)))
noncomputable def c_check_told:CSs :=
 (.cons (.loop (.one 3) true (.loc 1) b_check_told_1)
 .nil)
noncomputable def n_check_scan:List Str:=["form","count","told","sort_told","most","index","at","place","is_kept","width","size","sort","wanted","many"]
noncomputable def q_check_scan_1:CE:=(.cmp1 .lt (.loc 6) (.bi .len (.cons (.loc 0) .nil)))
noncomputable def b_check_scan_1:CSs :=
 (.cons (.ite (.cmp1 .eq (.call 9 (.cons (.loc 0) (.cons (.bin .add (.loc 6) (.cst (.int 1))) .nil))) (.cst (.str [37])))
  (.cons (.assign 6 (.call 10 (.cons (.loc 0) (.cons (.cst (.str [37])) (.cons (.bin .add (.loc 6) (.cst (.int 2))) .nil)))))
  (.cons .cont
  .nil))
  .nil)
 (.cons (.unpack [7,8,9,10,11,6] (.call 16 (.cons (.loc 0) (.cons (.bin .add (.loc 6) (.cst (.int 1))) .nil))))
 (.cons (.ite (.loc 8)
  (.cons (.assign 12 (.ite (.cmp1 .lt (.loc 7) (.cst (.int 0))) (.cst (.str [37])) (.cst (.str [36]))))
  (.cons (.ite (.cmp1 .notIn (.loc 3) (.seq true (.cons (.cst (.str [])) (.cons (.loc 12) .nil))))
   (.cons (.raise 3 .nil)
   .nil)
   .nil)
  (.cons (.assign 3 (.loc 12))
  (.cons (.ite (.cmp1 .ge (.loc 7) (.cst (.int 0)))
   (.cons (.assign 5 (.bin .sub (.loc 7) (.cst (.int 1))))
   (.cons (.assign 4 (.bi .max (.cons (.loc 4) (.cons (.loc 7) .nil))))
   .nil))
   .nil)
  (.cons (.ite (.bool false (.cons (.cmp1 .lt (.loc 5) (.cst (.int 0))) (.cons (.cmp2 .lt .le (.cst (.int 0)) (.loc 1) (.loc 5)) (.cons (.cmp1 .ge (.loc 7) (.bin .sub (.bin .shl (.cst (.int 1)) (.cst (.int 31))) (.cst (.int 1)))) .nil))))
   (.cons (.ite (.cmp1 .ge (.loc 7) (.cst (.int 0)))
    (.cons (.raise 4 .nil)
    .nil)
    .nil)
   (.cons (.raise 2 (.cons (.cst (.str [100,105,102,102,101,114,101,110,116,32,110,117,109,98,101,114,115,32,111,102,32,118,97,114,105,97,98,108,101,32,110,97,109,101,115,32,97,110,100,32,102,105,101,108,100,32,115,112,101,99,105,102,105,101,114,115])) (.cons (.cst (.str [70,73,69,76,68,86,65,82,77,73,83,77,65,84,67,72])) .nil)))
   .nil))
   .nil)
  (.cons (.dset 2 (.loc 5) (.bin .add (.dget 2 (.loc 5) (.cst (.int 0))) (.cst (.int 1))))
  (.cons (.aug 5 (.cst (.int 1)))
  .nil)))))))
  .nil)
 (.cons (.eff (.call 18 (.cons (.loc 11) (.cons (.loc 9) (.cons (.loc 10) .nil)))))
 (.cons (.ite (.cmp1 .eq (.loc 11) (.cst (.str [91])))
  (.cons (.assign 6 (.call 17 (.cons (.loc 0) (.cons (.loc 6) .nil))))
  .nil)
  .nil)
 (.cons (.assign 6 (.call 10 (.cons (.loc 0) (.cons (.cst (.str [37])) (.cons (.loc 6) .nil)))))
 .nil))))))
noncomputable def c_check_scan:CSs :=
 (.cons (.ownDict 2)
 (.cons (.assign 3 (.cst (.str [])))
 (.cons (.assign 4 (.cst (.int 0)))
 (.cons (.assign 5 (.cst (.int 0)))
 (.cons (.assign 6 (.call 10 (.cons (.loc 0) (.cons (.cst (.str [37])) (.cons (.cst (.int 0)) .nil)))))
 (.cons (.whil q_check_scan_1 b_check_scan_1)
 (.cons (.assign 13 (.loc 1))
 (.cons (.ite (.cmp1 .eq (.loc 13) (.cst (.int 0)))
  (.cons (.assign 13 (.ite (.cmp1 .gt (.loc 4) (.cst (.int 0))) (.loc 4) (.loc 5)))
  .nil)
  .nil)
 (.frz 2 (.cons (.eff (.call 19 (.dct 2 (.cons (.loc 13) (.cons (.bool true (.cons (.cmp1 .eq (.loc 1) (.cst (.int 0))) (.cons (.cmp1 .gt (.loc 4) (.cst (.int 0))) .nil))) .nil)))))
 (.cons (.retn (.loc 13))
 .nil)))))))))))
noncomputable def n_skip_blanks:List Str:=["text","at"]
noncomputable def q_skip_blanks_1:CE:=(.bool true (.cons (.cmp1 .lt (.loc 1) (.bi .len (.cons (.loc 0) .nil))) (.cons (.call 5 (.cons (.idx (.loc 0) (.loc 1)) .nil)) .nil)))
noncomputable def b_skip_blanks_1:CSs :=
 (.cons (.aug 1 (.cst (.int 1)))
 .nil)
noncomputable def c_skip_blanks:CSs :=
 (.cons (.whil q_skip_blanks_1 b_skip_blanks_1)
 (.cons (.retn (.loc 1))
 .nil))
noncomputable def n_ranges_of:List Str:=["members","ranges","at","start","point","other"]
noncomputable def q_ranges_of_1:CE:=(.cmp1 .lt (.loc 2) (.bi .len (.cons (.loc 0) .nil)))
noncomputable def b_ranges_of_1:CSs :=
 (.cons (.assign 4 (.bi .ord (.cons (.idx (.loc 0) (.loc 2)) .nil)))
 (.cons (.ite (.cmp1 .eq (.call 9 (.cons (.loc 0) (.cons (.bin .add (.loc 2) (.cst (.int 1))) .nil))) (.cst (.str [45])))
  (.cons (.assign 3 (.loc 4))
  .nil)
  (.cons (.ite (.bool true (.cons (.cmp1 .eq (.idx (.loc 0) (.loc 2)) (.cst (.str [45]))) (.cons (.cmp1 .lt (.bin .add (.loc 2) (.cst (.int 1))) (.bi .len (.cons (.loc 0) .nil))) .nil)))
   (.cons (.aug 2 (.cst (.int 1)))
   (.cons (.assign 5 (.bi .ord (.cons (.idx (.loc 0) (.loc 2)) .nil)))
   (.cons (.append 1 (.seq true (.cons (.bi .min (.cons (.loc 3) (.cons (.loc 5) .nil))) (.cons (.bi .max (.cons (.loc 3) (.cons (.loc 5) .nil))) .nil))))
   .nil)))
   (.cons (.ite (.cmp1 .eq (.idx (.loc 0) (.loc 2)) (.cst (.str [45])))
    (.cons (.append 1 (.seq true (.cons (.loc 3) (.cons (.loc 3) .nil))))
    .nil)
    .nil)
   (.cons (.append 1 (.seq true (.cons (.loc 4) (.cons (.loc 4) .nil))))
   .nil)))
  .nil))
 (.cons (.aug 2 (.cst (.int 1)))
 .nil)))
noncomputable def c_ranges_of:CSs :=
 (.cons (.ownNew 1 (.seq false .nil))
 (.cons (.assign 2 (.cst (.int 0)))
 (.cons (.assign 3 (.bi .ord (.cons (.idx (.loc 0) (.cst (.int 0))) .nil)))
 (.cons (.ite (.cmp1 .isIn (.idx (.loc 0) (.cst (.int 0))) (.seq true (.cons (.cst (.str [93])) (.cons (.cst (.str [45])) .nil))))
  (.cons (.append 1 (.seq true (.cons (.loc 3) (.cons (.loc 3) .nil))))
  (.cons (.assign 2 (.cst (.int 1)))
  .nil))
  .nil)
 (.cons (.whil q_ranges_of_1 b_ranges_of_1)
 (.frz 1 (.cons (.retn (.loc 1))
 .nil)))))))
noncomputable def n_is_member:List Str:=["c","ranges","point","low","high"]
noncomputable def b_is_member_1:CSs :=
 (.cons (.ite (.cmp2 .le .le (.loc 3) (.loc 2) (.loc 4))
  (.cons (.retn (.cst (.bool true)))
  .nil)
  .nil)
 .nil)
noncomputable def c_is_member:CSs :=
 (.cons (.assign 2 (.bi .ord (.cons (.loc 0) .nil)))
 (.cons (.loop (.many [3,4]) false (.loc 1) b_is_member_1)
 (.cons (.retn (.cst (.bool false)))
 .nil)))
noncomputable def n_behind_members:List Str:=["text","at","last","members","is_other","ranges"]
noncomputable def q_behind_members_1:CE:=(.bool true (.cons (.cmp1 .lt (.loc 1) (.loc 2)) (.cons (.cmp1 .ne (.call 23 (.cons (.idx (.loc 0) (.loc 1)) (.cons (.loc 5) .nil))) (.loc 4)) .nil)))
noncomputable def b_behind_members_1:CSs :=
 (.cons (.aug 1 (.cst (.int 1)))
 .nil)
noncomputable def c_behind_members:CSs :=
 (.cons (.assign 4 (.cmp1 .eq (.idx (.loc 3) (.cst (.int 0))) (.cst (.str [94]))))
 (.cons (.assign 5 (.call 22 (.cons (.ite (.loc 4) (.slice (.loc 3) (.yes (.cst (.int 1))) .no) (.loc 3)) .nil)))
 (.cons (.whil q_behind_members_1 b_behind_members_1)
 (.cons (.retn (.loc 1))
 .nil))))
noncomputable def n_fitted:List Str:=["number","is_unsigned","size"]
noncomputable def c_fitted:CSs :=
 (.cons (.ite (.cmp1 .eq (.loc 2) (.cst (.str [98,105,103])))
  (.cons (.ite (.bool true (.cons (.loc 1) (.cons (.cmp1 .lt (.loc 0) (.cst (.int 0))) .nil)))
   (.cons (.raise 2 (.cons (.cst (.str [117,110,115,105,103,110,101,100,32,98,105,103,110,117,109,32,115,99,97,110,115,32,97,114,101,32,105,110,118,97,108,105,100])) (.cons (.cst (.str [66,65,68,85,78,83,73,71,78,69,68])) .nil)))
   .nil)
   .nil)
  (.cons (.retn (.loc 0))
  .nil))
  .nil)
 (.cons (.ite (.bool true (.cons (.cmp1 .ne (.loc 2) (.cst (.str [108]))) (.cons (.cmp2 .le .lt (.cst (.int 0)) (.loc 0) (.bin .shl (.cst (.int 1)) (.cst (.int 64)))) .nil)))
  (.cons (.assign 0 (.call 8 (.cons (.loc 0) .nil)))
  .nil)
  .nil)
 (.cons (.assign 0 (.bi .max (.cons (.neg (.bin .shl (.cst (.int 1)) (.cst (.int 63)))) (.cons (.bi .min (.cons (.loc 0) (.cons (.bin .sub (.bin .shl (.cst (.int 1)) (.cst (.int 63))) (.cst (.int 1))) .nil))) .nil))))
 (.cons (.ite (.loc 1)
  (.cons (.retn (.bin .band (.loc 0) (.bin .sub (.bin .shl (.cst (.int 1)) (.cst (.int 64))) (.cst (.int 1)))))
  .nil)
  .nil)
 (.cons (.retn (.loc 0))
 .nil)))))
noncomputable def n_has_mark:List Str:=["text","at","last","letters","base"]
noncomputable def c_has_mark:CSs :=
 (.cons (.retn (.bool true (.cons (.cmp1 .lt (.bin .add (.loc 1) (.cst (.int 2))) (.loc 2)) (.cons (.cmp1 .eq (.idx (.loc 0) (.loc 1)) (.cst (.str [48]))) (.cons (.cmp1 .isIn (.idx (.loc 0) (.bin .add (.loc 1) (.cst (.int 1)))) (.loc 3)) (.cons (.cmp2 .le .lt (.cst (.int 0)) (.call 6 (.cons (.idx (.loc 0) (.bin .add (.loc 1) (.cst (.int 2)))) .nil)) (.loc 4)) .nil))))))
 .nil)
noncomputable def n_read_base:List Str:=["text","at","last","sort"]
noncomputable def c_read_base:CSs :=
 (.cons (.ite (.bool true (.cons (.cmp1 .isIn (.loc 3) (.seq true (.cons (.cst (.str [120])) (.cons (.cst (.str [88])) (.cons (.cst (.str [105])) .nil))))) (.cons (.call 26 (.cons (.loc 0) (.cons (.loc 1) (.cons (.loc 2) (.cons (.seq true (.cons (.cst (.str [120])) (.cons (.cst (.str [88])) .nil))) (.cons (.cst (.int 16)) .nil)))))) .nil)))
  (.cons (.retn (.seq true (.cons (.cst (.int 16)) (.cons (.bin .add (.loc 1) (.cst (.int 2))) .nil))))
  .nil)
  .nil)
 (.cons (.ite (.bool true (.cons (.cmp1 .eq (.loc 3) (.cst (.str [98]))) (.cons (.call 26 (.cons (.loc 0) (.cons (.loc 1) (.cons (.loc 2) (.cons (.seq true (.cons (.cst (.str [98])) (.cons (.cst (.str [66])) .nil))) (.cons (.cst (.int 2)) .nil)))))) .nil)))
  (.cons (.retn (.seq true (.cons (.cst (.int 2)) (.cons (.bin .add (.loc 1) (.cst (.int 2))) .nil))))
  .nil)
  .nil)
 (.cons (.ite (.cmp1 .eq (.loc 3) (.cst (.str [105])))
  (.cons (.retn (.seq true (.cons (.ite (.bool true (.cons (.cmp1 .lt (.loc 1) (.loc 2)) (.cons (.cmp1 .eq (.idx (.loc 0) (.loc 1)) (.cst (.str [48]))) .nil))) (.cst (.int 8)) (.cst (.int 10))) (.cons (.loc 1) .nil))))
  .nil)
  .nil)
 (.cons (.retn (.seq true (.cons (.call 15 (.cons (.loc 3) .nil)) (.cons (.loc 1) .nil))))
 .nil))))
noncomputable def n_read_whole:List Str:=["text","at","last","sort","size","is_minus","base","first","behind","number"]
noncomputable def c_read_whole:CSs :=
 (.cons (.assign 5 (.cmp1 .eq (.idx (.loc 0) (.loc 1)) (.cst (.str [45]))))
 (.cons (.ite (.cmp1 .isIn (.idx (.loc 0) (.loc 1)) (.seq true (.cons (.cst (.str [43])) (.cons (.cst (.str [45])) .nil))))
  (.cons (.aug 1 (.cst (.int 1)))
  .nil)
  .nil)
 (.cons (.unpack [6,7] (.call 27 (.cons (.loc 0) (.cons (.loc 1) (.cons (.loc 2) (.cons (.loc 3) .nil))))))
 (.cons (.assign 8 (.call 11 (.cons (.loc 0) (.cons (.loc 7) (.cons (.loc 2) (.cons (.loc 6) .nil))))))
 (.cons (.ite (.cmp1 .eq (.loc 8) (.loc 7))
  (.cons (.retn (.seq true (.cons (.cst .none) (.cons (.loc 7) .nil))))
  .nil)
  .nil)
 (.cons (.assign 9 (.call 7 (.cons (.slice (.loc 0) (.yes (.loc 7)) (.yes (.loc 8))) (.cons (.loc 6) .nil))))
 (.cons (.retn (.seq true (.cons (.bi .str (.cons (.call 25 (.cons (.ite (.loc 5) (.neg (.loc 9)) (.loc 9)) (.cons (.cmp1 .eq (.loc 3) (.cst (.str [117]))) (.cons (.loc 4) .nil)))) .nil)) (.cons (.loc 8) .nil))))
 .nil)))))))
noncomputable def n_read_field:List Str:=["text","at","last","sort","members","size","behind"]
noncomputable def q_read_field_1:CE:=(.bool true (.cons (.cmp1 .lt (.loc 6) (.loc 2)) (.cons (.not (.call 5 (.cons (.idx (.loc 0) (.loc 6)) .nil))) .nil)))
noncomputable def b_read_field_1:CSs :=
 (.cons (.aug 6 (.cst (.int 1)))
 .nil)
noncomputable def c_read_field:CSs :=
 (.cons (.ite (.cmp1 .eq (.loc 3) (.cst (.str [99])))
  (.cons (.retn (.seq true (.cons (.bi .str (.cons (.bi .ord (.cons (.idx (.loc 0) (.loc 1)) .nil)) .nil)) (.cons (.bin .add (.loc 1) (.cst (.int 1))) .nil))))
  .nil)
  .nil)
 (.cons (.ite (.cmp1 .notIn (.loc 3) (.seq true (.cons (.cst (.str [115])) (.cons (.cst (.str [91])) .nil))))
  (.cons (.retn (.call 28 (.cons (.loc 0) (.cons (.loc 1) (.cons (.loc 2) (.cons (.loc 3) (.cons (.loc 5) .nil)))))))
  .nil)
  .nil)
 (.cons (.assign 6 (.loc 1))
 (.cons (.ite (.cmp1 .eq (.loc 3) (.cst (.str [91])))
  (.cons (.assign 6 (.call 24 (.cons (.loc 0) (.cons (.loc 1) (.cons (.loc 2) (.cons (.loc 4) .nil))))))
  .nil)
  (.cons (.whil q_read_field_1 b_read_field_1)
  .nil))
 (.cons (.retn (.seq true (.cons (.ite (.cmp1 .eq (.loc 6) (.loc 1)) (.cst .none) (.slice (.loc 0) (.yes (.loc 1)) (.yes (.loc 6)))) (.cons (.loc 6) .nil))))
 .nil)))))
noncomputable def n_scan_text:List Str:=["text","form","count","values","at","here","index","many","is_short","c","place","is_kept","width","size","sort","members","behind","value","last"]
noncomputable def q_scan_text_1:CE:=(.cmp1 .lt (.loc 4) (.bi .len (.cons (.loc 1) .nil)))
noncomputable def b_scan_text_1:CSs :=
 (.cons (.assign 9 (.idx (.loc 1) (.loc 4)))
 (.cons (.aug 4 (.cst (.int 1)))
 (.cons (.ite (.call 5 (.cons (.loc 9) .nil))
  (.cons (.assign 5 (.call 21 (.cons (.loc 0) (.cons (.loc 5) .nil))))
  (.cons .cont
  .nil))
  .nil)
 (.cons (.ite (.bool false (.cons (.cmp1 .ne (.loc 9) (.cst (.str [37]))) (.cons (.cmp1 .eq (.idx (.loc 1) (.loc 4)) (.cst (.str [37]))) .nil)))
  (.cons (.ite (.cmp1 .eq (.loc 9) (.cst (.str [37])))
   (.cons (.aug 4 (.cst (.int 1)))
   .nil)
   .nil)
  (.cons (.assign 8 (.cmp1 .ge (.loc 5) (.bi .len (.cons (.loc 0) .nil))))
  (.cons (.ite (.bool false (.cons (.loc 8) (.cons (.cmp1 .ne (.idx (.loc 0) (.loc 5)) (.loc 9)) .nil)))
   (.cons .brk
   .nil)
   .nil)
  (.cons (.aug 5 (.cst (.int 1)))
  (.cons .cont
  .nil)))))
  .nil)
 (.cons (.unpack [10,11,12,13,14,4] (.call 16 (.cons (.loc 1) (.cons (.loc 4) .nil))))
 (.cons (.ite (.cmp1 .gt (.loc 10) (.cst (.int 0)))
  (.cons (.assign 6 (.bin .sub (.loc 10) (.cst (.int 1))))
  .nil)
  .nil)
 (.cons (.assign 15 (.cst (.str [])))
 (.cons (.ite (.cmp1 .eq (.loc 14) (.cst (.str [91])))
  (.cons (.assign 16 (.call 17 (.cons (.loc 1) (.cons (.loc 4) .nil))))
  (.cons (.assign 15 (.slice (.loc 1) (.yes (.loc 4)) (.yes (.bin .sub (.loc 16) (.cst (.int 1))))))
  (.cons (.assign 4 (.loc 16))
  .nil)))
  .nil)
 (.cons (.ite (.cmp1 .eq (.loc 14) (.cst (.str [110])))
  (.cons (.assign 17 (.bi .str (.cons (.loc 5) .nil)))
  .nil)
  (.cons (.ite (.cmp1 .notIn (.loc 14) (.seq true (.cons (.cst (.str [99])) (.cons (.cst (.str [91])) .nil))))
   (.cons (.assign 5 (.call 21 (.cons (.loc 0) (.cons (.loc 5) .nil))))
   .nil)
   .nil)
  (.cons (.assign 8 (.cmp1 .ge (.loc 5) (.bi .len (.cons (.loc 0) .nil))))
  (.cons (.ite (.loc 8)
   (.cons .brk
   .nil)
   .nil)
  (.cons (.assign 18 (.ite (.cmp1 .le (.loc 12) (.cst (.int 0))) (.bi .len (.cons (.loc 0) .nil)) (.bin .add (.loc 5) (.loc 12))))
  (.cons (.unpack [17,5] (.call 29 (.cons (.loc 0) (.cons (.loc 5) (.cons (.bi .min (.cons (.loc 18) (.cons (.bi .len (.cons (.loc 0) .nil)) .nil))) (.cons (.loc 14) (.cons (.loc 15) (.cons (.ite (.loc 11) (.loc 13) (.cst (.str []))) .nil))))))))
  (.cons (.ite (.cmp1 .is (.loc 17) (.cst .none))
   (.cons (.assign 8 (.bool true (.cons (.cmp1 .notIn (.loc 14) (.seq true (.cons (.cst (.str [115])) (.cons (.cst (.str [91])) .nil)))) (.cons (.cmp1 .eq (.loc 5) (.loc 18)) .nil))))
   (.cons .brk
   .nil))
   .nil)
  .nil)))))))
 (.cons (.ite (.loc 11)
  (.cons (.setItem 3 (.loc 6) (.loc 17))
  (.cons (.aug 6 (.cst (.int 1)))
  .nil))
  .nil)
 (.cons (.aug 7 (.cst (.int 1)))
 .nil)))))))))))
noncomputable def c_scan_text:CSs :=
 (.cons (.compTo true 3 true (.cst .none) (.call 20 (.cons (.loc 1) (.cons (.loc 2) .nil))) .no)
 (.cons (.assign 4 (.cst (.int 0)))
 (.cons (.assign 5 (.cst (.int 0)))
 (.cons (.assign 6 (.cst (.int 0)))
 (.cons (.assign 7 (.cst (.int 0)))
 (.cons (.assign 8 (.cst (.bool false)))
 (.cons (.whil q_scan_text_1 b_scan_text_1)
 (.cons (.ite (.bool true (.cons (.loc 8) (.cons (.cmp1 .eq (.loc 7) (.cst (.int 0))) .nil)))
  (.cons (.retn (.neg (.cst (.int 1))))
  .nil)
  .nil)
 (.frz 3 (.cons (.retn (.loc 3))
 .nil))))))))))
noncomputable def coreTab:List Ent:=[
 .no,
 .no,
 .no,
 .no,
 .no,
 .code 1 n_is_blank c_is_blank,
 .code 1 n_digit c_digit,
 .code 2 n_digits_value c_digits_value,
 .code 1 n_wide c_wide,
 .code 2 n_sign_at c_sign_at,
 .code 3 n_place_of c_place_of,
 .code 4 n_digits_behind c_digits_behind,
 .code 2 n_read_digits c_read_digits,
 .code 2 n_read_place c_read_place,
 .code 2 n_read_size c_read_size,
 .code 1 n_base_of_sort c_base_of_sort,
 .code 2 n_read_spec c_read_spec,
 .code 2 n_set_behind c_set_behind,
 .code 3 n_check_sort c_check_sort,
 .code 3 n_check_told c_check_told,
 .code 2 n_check_scan c_check_scan,
 .code 2 n_skip_blanks c_skip_blanks,
 .code 1 n_ranges_of c_ranges_of,
 .code 2 n_is_member c_is_member,
 .code 4 n_behind_members c_behind_members,
 .code 3 n_fitted c_fitted,
 .code 5 n_has_mark c_has_mark,
 .code 4 n_read_base c_read_base,
 .code 5 n_read_whole c_read_whole,
 .code 6 n_read_field c_read_field,
 .code 3 n_scan_text c_scan_text]
end Mp
end
section
open PySem PyProof.Rows
set_option Elab.async false
set_option maxRecDepth 100000
set_option genSizeOf false
set_option genInjectivity false
set_option linter.unusedVariables false
namespace Mp
noncomputable section
noncomputable def LIM:Nat:=1000000
noncomputable def NN:Nat:=Classical.choose (⟨1000001,rfl⟩:∃ n:Nat,n=1000001)
theorem NN_eq:NN=1000001:=Classical.choose_spec (⟨1000001,rfl⟩:∃ n:Nat,n=1000001)
theorem lim_line {n:Nat} (h:n ≤ LIM):n ≤ strLine:=Nat.le_trans h (sline (by decide))
theorem lim_62 {n:Nat} (h:n ≤ LIM):n < b62:=Nat.lt_of_le_of_lt h (by rw [b62_eq]; decide)
theorem lim_N {n:Nat} (h:n ≤ LIM):n < NN:=by rw [NN_eq]; exact Nat.lt_succ_of_le h
noncomputable abbrev Ph (T:List Ent) (k:Nat):Fn:=Phi T XX NN k
noncomputable abbrev Core (T:List Ent):Prop:=∀ i,i < 31 → T[i]?=coreTab[i]?
noncomputable abbrev IsO (o:OutE) (x:OutE):Prop:=x=o
theorem ph {T:List Ent} {k f np:Nat} {names:List PySem.Str} {c:CSs} {args:List SV} {p:Option Int} {o:OutE} (e:T[f]?=some (.code np names c)) (hl:args.length=np)
  (h:wSs (Ph T k) (IsO o) XX NN c (pad args (names.length - np)) p (fun _ p=>IsO o (.ok (.none,p))) (fun _ _=>False) (fun _ _=>False)):Ph T (k + 1) f args p=some o:=W_eq (phi_W e hl h)
theorem W_is {Q:OutE → Prop} {r:RR} {o:OutE} (h:r=some o) (hq:Q o):W Q r:=⟨o,h,hq⟩
theorem d_lt {a b:Nat} (h:decide ((a:Int) < (b:Int))=true):a < b:=Int.ofNat_lt.mp (of_decide_eq_true h)
theorem d_nlt {a b:Nat} (h:decide ((a:Int) < (b:Int))=false):b ≤ a:=Nat.le_of_not_lt fun w=>of_decide_eq_false h (Int.ofNat_lt.mpr w)
theorem lt_d {a b:Nat} (h:a < b):decide ((a:Int) < (b:Int))=true:=decide_eq_true (Int.ofNat_lt.mpr h)
theorem nlt_d {a b:Nat} (h:b ≤ a):decide ((a:Int) < (b:Int))=false:=decide_eq_false fun w=>Nat.lt_irrefl b (Nat.lt_of_le_of_lt h (Int.ofNat_lt.mp w))
theorem b_no {P:Prop} {b:Bool} (h:b=true) (w:b=false):P:=nomatch h.symm.trans w
theorem and_t {x y:Bool} (h:x=true):y=(x && y):=by rw [h]; rfl
theorem and_f {x y:Bool} (h:x=false):(x && y)=false:=by rw [h]; rfl
theorem ne_t {x:Bool} (h:x=false):¬ x=true:=fun w=>nomatch h.symm.trans w
theorem ft {P:Prop} (h:false=true):P:=Bool.noConfusion h
theorem tf {P:Prop} (h:true=false):P:=Bool.noConfusion h
theorem okI {a b:Int} {p:Option Int} (h:a=b):IsO (.ok (.int b,p)) (.ok (.int a,p)):=by rw [h]
theorem okB {a b:Bool} {p:Option Int} (h:a=b):IsO (.ok (.bool b,p)) (.ok (.bool a,p)):=by rw [h]
theorem okS {a b:List Nat} {p:Option Int} (h:a=b):IsO (.ok (.str b,p)) (.ok (.str a,p)):=by rw [h]
theorem at_ok {l:List Nat} {i:Nat} (hl:l.length ≤ LIM) (h:i < l.length):pidx (.str l) (.int (i:Int))=some (.str [l[i]]):=by
 show (at62 l (i:Int)).map _=_
 rw [show at62 l (i:Int)=l[i]? from if_pos ⟨Int.natCast_nonneg i,Int.ofNat_lt.mpr (lim_62 (Nat.le_trans (Nat.le_of_lt h) hl))⟩,List.getElem?_eq_getElem h]
 rfl
noncomputable def isBlank (c:Nat):Bool:=decide ([c] ∈ ([[32],[9],[10],[11],[12],[13]]:List (List Nat)))
noncomputable def digitN (c:Nat):Int:=if (decide (48 ≤ (c:Int)) && decide ((c:Int) ≤ 57))=true then (c:Int) - 48 else if (decide (97 ≤ (c:Int)) && decide ((c:Int) ≤ 122))=true then (c:Int) - 87 else if (decide (65 ≤ (c:Int)) && decide ((c:Int) ≤ 90))=true then (c:Int) - 55 else -1
noncomputable def signAt (l:List Nat) (i:Nat):List Nat:=(l.drop i).take 1
theorem signAt_some {l:List Nat} {i:Nat} (h:i < l.length):signAt l i=[l[i]]:=by unfold signAt; rw [List.drop_eq_getElem_cons h]; rfl
theorem signAt_none {l:List Nat} {i:Nat} (h:l.length ≤ i):signAt l i=[]:=by unfold signAt; rw [List.drop_eq_nil_of_le h]; rfl
noncomputable def neC (c x:Nat):Bool:=!decide ([x]=[c])
section
variable {T:List Ent} (hT:Core T)
include hT
theorem is_blank_ok (k c:Nat):Ph T (k + 1) 5 [.val (.str [c])] none=some (.ok (.bool (isBlank c),none)) :=
 ph (hT 5 (by decide)) rfl ⟨rfl,rfl⟩
theorem digit_ok (k c:Nat):Ph T (k + 1) 6 [.val (.str [c])] none=some (.ok (.int (digitN c),none)) :=
 ph (hT 6 (by decide)) rfl ⟨sline (by decide:1 ≤ 16777216),(fun h=>ft h),fun _=>⟨_,(fun h=>⟨and_t h,rfl⟩),and_f,(fun h1=>okI (if_pos h1).symm),
  fun h1=>⟨_,(fun h=>⟨and_t h,rfl⟩),and_f,(fun h2=>okI ((if_neg (ne_t h1)).trans (if_pos h2)).symm),fun h2=>⟨_,(fun h=>⟨and_t h,rfl⟩),and_f,(fun h3=>okI ((if_neg (ne_t h1)).trans ((if_neg (ne_t h2)).trans (if_pos h3))).symm),
   fun h3=>okI ((if_neg (ne_t h1)).trans ((if_neg (ne_t h2)).trans (if_neg (ne_t h3)))).symm⟩⟩⟩⟩
theorem sign_at_ok (k:Nat) {l:List Nat} (hl:l.length ≤ LIM) (i:Nat):Ph T (k + 1) 9 [.val (.str l),.val (.int i)] none=some (.ok (.str (signAt l i),none)) :=
 ph (hT 9 (by decide)) rfl ⟨.str (signAt l i),⟨lim_line hl,rfl,fun h=>⟨_,at_ok hl (d_lt h),by rw [signAt_some (d_lt h)],rfl⟩,fun h=>⟨by rw [signAt_none (d_nlt h)],rfl⟩⟩,rfl⟩
end
end
noncomputable section
noncomputable def spanN (P:Nat → Bool) (l:List Nat) (k last:Nat):Nat:=k + (((l.take last).drop k).takeWhile P).length
theorem span_stop {P:Nat → Bool} {l:List Nat} {k last:Nat} (h:last ≤ k):spanN P l k last=k:=by
 unfold spanN
 rw [List.drop_eq_nil_of_le (Nat.le_trans (List.length_take_le _ _) h)]
 rfl
theorem span_step {P:Nat → Bool} {l:List Nat} {k last:Nat} (h:k < last) (hl:last ≤ l.length):spanN P l k last=if P (l[k]'(Nat.lt_of_lt_of_le h hl))=true then spanN P l (k + 1) last else k:=by
 unfold spanN
 have hk:k < (l.take last).length:=by rw [List.length_take,Nat.min_eq_left hl]; exact h
 rw [List.drop_eq_getElem_cons hk,List.takeWhile_cons,show (l.take last)[k]=l[k]'(Nat.lt_of_lt_of_le h hl) from List.getElem_take]
 cases P l[k]
 ·rfl
 ·exact Nat.add_right_comm _ _ 1
theorem span_le {P:Nat → Bool} {l:List Nat} {k last:Nat} (h:k ≤ last):k ≤ spanN P l k last ∧ spanN P l k last ≤ last:=by
 have h1:=(List.takeWhile_sublist (p:=P) (l:=(l.take last).drop k)).length_le
 rw [List.length_drop] at h1
 exact ⟨Nat.le_add_right _ _,Nat.le_trans (Nat.add_le_add_left (Nat.le_trans h1 (Nat.sub_le_sub_right (List.length_take_le _ _) k)) k) (Nat.le_of_eq (Nat.add_sub_cancel' h))⟩
theorem for_st {α σ:Type} {f:α → PV} {t:Tgt} {b:PB} {n:PS} (st:σ → List SV) (pn:σ → Option Int) (S:List α → σ → Prop) (step:∀ x r s (c:PS),S (x::r) s → (∀ s,S r s → c (st s) (pn s)) → tgtP t (f x) (st s) fun env=>b env (pn s) c n c)
  (fin:∀ s,S [] s → n (st s) (pn s)) {xs:List α} {s:σ} (h:S xs s):forP t b (xs.map f) n (st s) (pn s):=by
 refine ⟨fun ys env p=>∃ r s,ys=r.map f ∧ env=st s ∧ p=pn s ∧ S r s,⟨xs,s,rfl,rfl,rfl,h⟩,?_,?_⟩
 ·rintro v r _ _ ⟨q,s,hq,rfl,rfl,hs⟩
  cases q with
  | nil=>cases hq
  | cons x q=>cases hq; exact step x q s _ hs fun s h=>⟨q,s,rfl,rfl,rfl,h⟩
 ·rintro _ _ ⟨q,s,hq,rfl,rfl,hs⟩
  cases q with
  | nil=>exact fin _ hs
  | cons=>cases hq
theorem while_st {σ:Type} {c:List SV → Option Int → PK → Prop} {b:PB} {n:PS} (st:σ → List SV) (S:σ → Prop) (μ:σ → Nat) (step:∀ s (k:PS),S s → (∀ s',S s' → μ s' < μ s → k (st s') none) → c (st s) none fun v p=>bP v (b (st s) p k n k) (n (st s) p))
  {s:σ} (h:S s) (hm:μ s ≤ LIM):whileP NN c b n (st s) none:=by
 refine ⟨fun m env p=>∃ s,m=μ s ∧ env=st s ∧ p=none ∧ S s,_,lim_N hm,⟨s,rfl,rfl,rfl,h⟩,?_⟩
 rintro _ _ _ ⟨s,rfl,rfl,rfl,hs⟩
 exact step s _ hs fun s' h' hl=>⟨_,hl,s',rfl,rfl,rfl,h'⟩
theorem scan_while {c:List SV → Option Int → PK → Prop} {b:PB} {n:PS} (st:Nat → List SV) {P:Nat → Bool} {l:List Nat} {last:Nat} (hl:last ≤ l.length) (hL:l.length ≤ LIM)
  (h1:∀ k (h:k < last) (K:PK),K (.bool (P (l[k]'(Nat.lt_of_lt_of_le h hl)))) none → c (st k) none K) (h2:∀ k,last ≤ k → ∀ K:PK,K (.bool false) none → c (st k) none K)
  (h3:∀ k (n kb kc:PS),n (st (k + 1)) none → b (st k) none n kb kc) {k:Nat} (hk:n (st (spanN P l k last)) none):whileP NN c b n (st k) none:=by
 refine while_st st (fun i=>n (st (spanN P l i last)) none) (fun i=>last - i) (fun i c hn hc=>?_) hk (Nat.le_trans (Nat.sub_le last k) (Nat.le_trans hl hL))
 rcases Nat.lt_or_ge i last with h | h
 ·rw [span_step h hl] at hn
  refine h1 i h _ ⟨fun w=>?_,fun w=>?_⟩
  ·rw [if_pos w] at hn
   exact h3 i _ _ _ (hc _ hn (Nat.sub_succ_lt_self _ _ h))
  ·rw [if_neg (ne_t w)] at hn; exact hn
 ·rw [span_stop h] at hn
  exact h2 i h _ ⟨fun w=>ft w,fun _=>hn⟩
theorem free_op {x:SV} {K:Unit → Prop} (h:isPn x=none) (hk:K ()):opP (Option.elim (isPn x) (some ()) fun _=>none) K:=by rw [h]; exact hk
theorem d_eq {a b:Nat} (h:decide ((a:Int)=(b:Int))=true):a=b:=Int.ofNat_inj.mp (of_decide_eq_true h)
theorem d_ne {a b:Nat} (h:decide ((a:Int)=(b:Int))=false):a ≠ b:=fun w=>of_decide_eq_false h (congrArg Int.ofNat w)
noncomputable def isDig (base:Int) (c:Nat):Bool:=decide (0 ≤ digitN c) && decide (digitN c < base)
noncomputable def numVal (base:Int) (l:List Nat):Int:=l.foldl (fun v c=>v * base + digitN c) 0
noncomputable def baseOk (b:Int):Prop:=2 ≤ b ∧ b ≤ 16
section
variable {T:List Ent} (hT:Core T)
include hT
theorem place_of_ok (k:Nat) {l:List Nat} (hl:l.length ≤ LIM) (c i:Nat):Ph T (k + 1) 10 [.val (.str l),.val (.str [c]),.val (.int i)] none=some (.ok (.int (spanN (neC c) l i l.length),none)) :=
 ph (hT 10 (by decide)) rfl (scan_while (fun i=>[.val (.str l),.val (.str [c]),.val (.int i)]) (Nat.le_refl _) hl
  (fun j hj K hK=>⟨_,⟨lim_line hl,rfl,fun _=>⟨_,at_ok hl hj,rfl,fun h=>h.symm,fun h=>h.symm⟩,fun h=>b_no (lt_d hj) h⟩,hK⟩)
  (fun j hj K hK=>⟨_,⟨lim_line hl,rfl,fun h=>b_no h (nlt_d hj),fun _=>rfl⟩,hK⟩) (fun j n kb kc h=>h) rfl)
theorem digits_behind_ok (k:Nat) {l:List Nat} (hl:l.length ≤ LIM) (i last:Nat) (hla:last ≤ l.length) (base:Int) :
  Ph T (k + 2) 11 [.val (.str l),.val (.int i),.val (.int last),.val (.int base)] none=some (.ok (.int (spanN (isDig base) l i last),none)) :=
 ph (hT 11 (by decide)) rfl (scan_while (fun i=>[.val (.str l),.val (.int i),.val (.int last),.val (.int base)]) hla hl
  (fun j hj K hK=>⟨_,⟨rfl,fun _=>⟨_,at_ok hl (Nat.lt_of_lt_of_le hj hla),W_is (digit_ok hT k _) ⟨_,(fun h=>⟨and_t h,rfl⟩),and_f,rfl,fun h=>h.symm,fun h=>h.symm⟩⟩,fun h=>b_no (lt_d hj) h⟩,hK⟩)
  (fun j hj K hK=>⟨_,⟨rfl,fun h=>b_no h (nlt_d hj),fun _=>rfl⟩,hK⟩) (fun j n kb kc h=>h) rfl)
theorem skip_blanks_ok (k:Nat) {l:List Nat} (hl:l.length ≤ LIM) (i:Nat) :
  Ph T (k + 2) 21 [.val (.str l),.val (.int i)] none=some (.ok (.int (spanN isBlank l i l.length),none)) :=
 ph (hT 21 (by decide)) rfl (scan_while (fun i=>[.val (.str l),.val (.int i)]) (Nat.le_refl _) hl
  (fun j hj K hK=>⟨_,⟨lim_line hl,rfl,fun _=>⟨_,at_ok hl hj,W_is (is_blank_ok hT k _) ⟨rfl,fun h=>h.symm,fun h=>h.symm⟩⟩,fun h=>b_no (lt_d hj) h⟩,hK⟩)
  (fun j hj K hK=>⟨_,⟨lim_line hl,rfl,fun h=>b_no h (nlt_d hj),fun _=>rfl⟩,hK⟩) (fun j n kb kc h=>h) rfl)
end
end
noncomputable section
noncomputable def win (l:List Nat) (k last:Nat):List Nat:=(l.take last).drop k
theorem win_all (l:List Nat) (k:Nat):win l k l.length=l.drop k:=by unfold win; rw [List.take_length]
theorem win_len {l:List Nat} {k last:Nat} (hl:last ≤ l.length):(win l k last).length=last - k:=by unfold win; rw [List.length_drop,List.length_take,Nat.min_eq_left hl]
theorem clip_nat {n a:Nat} (h:a ≤ n):clip n (a:Int)=a:=by
 unfold clip
 rw [if_neg (Int.not_lt.mpr (Int.natCast_nonneg a)),Int.min_eq_left (Int.ofNat_le.mpr h)]
 rfl
theorem pslice_nat {α:Type} {l:List α} {a b:Nat} (h1:a ≤ l.length) (h2:b ≤ l.length):pslice l (some (a:Int)) (some (b:Int))=(l.drop a).take (b - a):=by
 show (l.drop (clip l.length (a:Int))).take (clip l.length (b:Int) - clip l.length (a:Int))=_
 rw [clip_nat h1,clip_nat h2]
theorem seg_run {P:Nat → Bool} {l:List Nat} {k last:Nat} (h:k ≤ last) (hl:last ≤ l.length):pslice l (some (k:Int)) (some (spanN P l k last:Int))=(win l k last).takeWhile P:=by
 have hs:=span_le (P:=P) (l:=l) h
 rw [pslice_nat (Nat.le_trans h hl) (Nat.le_trans hs.2 hl),show spanN P l k last - k=((win l k last).takeWhile P).length from Nat.add_sub_cancel_left _ _]
 exact (List.prefix_iff_eq_take.mp ((List.takeWhile_prefix P).trans (by unfold win; rw [List.drop_take]; exact List.take_prefix _ _))).symm
theorem all_run {P:Nat → Bool} {l:List Nat}:∀ c ∈ l.takeWhile P,P c=true:=fun c h=>List.all_eq_true.mp List.all_takeWhile c h
theorem run_len (P:Nat → Bool) (l:List Nat):(l.takeWhile P).length ≤ l.length:=(List.takeWhile_sublist P).length_le
theorem mul_ok {a b:Int} (h:b.natAbs < 2 ^ 64):bop .mul (.int a) (.int b)=some (.int (a * b)):=if_pos (.inr h)
theorem map_line {α β:Type} {f:α → β} {l:List α} (h:l.length ≤ LIM):(l.map f).length ≤ strLine:=by rw [List.length_map]; exact lim_line h
theorem base_abs {b:Int} (h:baseOk b):b.natAbs < 2 ^ 64:=Int.ofNat_lt.mp (by rw [Int.natAbs_of_nonneg (Int.le_trans (by decide) h.1)]; exact Int.lt_of_le_of_lt h.2 (by decide))
theorem dig_no {b:Int} {x:Nat} (h:isDig b x=true):decide (digitN x < 0)=false ∧ decide (digitN x ≥ b)=false :=
 have h:=Bool.and_eq_true_iff.mp h
 ⟨decide_eq_false (Int.not_lt.mpr (of_decide_eq_true h.1)),decide_eq_false (Int.not_le.mpr (of_decide_eq_true h.2))⟩
theorem okR2 {a:Int} {b:Nat} {r:Int × Nat} {p:Option Int} (h:r=(a,b)):IsO (.ok (.tup [.int r.1,.int r.2],p)) (.ok (.tup [.int a,.int b],p)):=by rw [h]
theorem okZ {a:List Nat} {b i:Nat} {r:List Nat × Nat} {p:Option Int} (h:r=(a,b)):IsO (.ok (.tup [.str r.1,.int (i + r.2:Nat)],p)) (.ok (.tup [.str a,.int (i + b:Nat)],p)):=by rw [h]
theorem fin {y v:Bool} (h:y=v):(y=true → true=v) ∧ (y=false → false=v):=⟨fun e=>e.symm.trans h,fun e=>e.symm.trans h⟩
noncomputable def digs (l:List Nat) (k:Nat):List Nat:=(l.drop k).takeWhile (isDig 10)
noncomputable def readDigits (l:List Nat) (k:Nat):Int × Nat:=if digs l k=[] then (-1,k) else (numVal 10 (digs l k),k + (digs l k).length)
theorem digs_le {l:List Nat} {k:Nat} (h:k ≤ l.length):k + (digs l k).length ≤ l.length:=Nat.le_trans (Nat.add_le_add_left (run_len _ _) k) (by rw [List.length_drop,Nat.add_sub_cancel' h]; exact Nat.le_refl _)
noncomputable def readPlace (l:List Nat) (k:Nat):Int × Nat:=if (decide ((readDigits l k).1 ≥ 0) && decide (signAt l (readDigits l k).2=[36]))=true then ((readDigits l k).1,(readDigits l k).2 + 1) else (-1,k)
noncomputable def sBig:List Nat:=[98,105,103]
noncomputable def rsz (a b:List Nat):List Nat × Nat :=
 if (decide (a=[108]) && decide (b=[108]))=true then (sBig,2) else if decide (a=[76])=true then (sBig,1)
 else if decide (a ∈ ([[108],[106],[113],[122],[116]]:List (List Nat)))=true then ([108],1) else if decide (a=[104])=true then ([104],1) else ([],0)
noncomputable def readSize (l:List Nat) (k:Nat):List Nat × Nat:=((rsz (signAt l k) (signAt l (k + 1))).1,k + (rsz (signAt l k) (signAt l (k + 1))).2)
noncomputable def baseOf (s:List Nat):Int:=if decide (s ∈ ([[120],[88]]:List (List Nat)))=true then 16 else if decide (s=[111])=true then 8 else if decide (s=[98])=true then 2 else 10
section
variable {T:List Ent} (hT:Core T)
include hT
theorem digits_value_ok (k:Nat) {l:List Nat} (hl:l.length ≤ LIM) {base:Int} (hb:baseOk base) (hd:∀ c ∈ l,isDig base c=true) (hne:l ≠ []) :
  Ph T (k + 2) 7 [.val (.str l),.val (.int base)] none=some (.ok (.int (numVal base l),none)) :=
 ph (hT 7 (by decide)) rfl ⟨fun h=>absurd (of_decide_eq_true h) hne,fun _=>⟨map_line hl,for_st (f:=fun c=>.str [c]) (fun s:Int × SV × SV=>[.val (.str l),.val (.int base),.val (.int s.1),s.2.1,s.2.2]) (fun _=>none)
  (fun r s=>isPn s.2.1=none ∧ isPn s.2.2=none ∧ r.foldl (fun v c=>v * base + digitN c) s.1=numVal base l ∧ ∀ c ∈ r,isDig base c=true)
  (fun x r s c h hc=>by
   have hx:=dig_no (h.2.2.2 x (.head _))
   exact free_op h.1 (W_is (digit_ok hT k x) (free_op h.2.1 ⟨false,⟨rfl,fun _=>⟨rfl,fun _=>rfl,fun w=>b_no w hx.2⟩,fun w=>b_no w hx.1⟩,fun h=>ft h,fun _=>⟨_,mul_ok (base_abs hb),hc ⟨_,_,_⟩ ⟨rfl,rfl,h.2.2.1,fun c w=>h.2.2.2 c (.tail _ w)⟩⟩⟩)))
  (fun s h=>by exact okI h.2.2.1) (s:=⟨0,.unb,.unb⟩) ⟨rfl,rfl,rfl,hd⟩⟩⟩
theorem read_digits_ok (k:Nat) {l:List Nat} (hl:l.length ≤ LIM) {i:Nat} (hi:i ≤ l.length) :
  Ph T (k + 3) 12 [.val (.str l),.val (.int i)] none=some (.ok (.tup [.int (readDigits l i).1,.int (readDigits l i).2],none)):=by
 have e:=seg_run (P:=isDig 10) hi (Nat.le_refl l.length)
 rw [win_all] at e
 have e2:spanN (isDig 10) l i l.length=i + (digs l i).length:=by unfold spanN; rw [List.take_length]; rfl
 rw [e2] at e
 refine ph (hT 12 (by decide)) rfl ⟨lim_line hl,W_is (digits_behind_ok hT k hl i l.length (Nat.le_refl _) 10) ?_⟩
 rw [e2]
 refine ⟨fun h=>⟨rfl,okR2 (if_pos (List.eq_nil_of_length_eq_zero (Nat.left_eq_add.mp (d_eq h).symm)))⟩,fun h=>⟨lim_line hl,?_⟩⟩
 have hne:digs l i ≠ []:=fun w=>d_ne h (by rw [w]; rfl)
 rw [e]
 exact W_is (digits_value_ok hT k (Nat.le_trans (Nat.le_trans (Nat.le_add_left _ _) (digs_le hi)) hl) ⟨by decide,by decide⟩ all_run hne) ⟨rfl,okR2 (if_neg hne)⟩
theorem read_place_ok (k:Nat) {l:List Nat} (hl:l.length ≤ LIM) {i:Nat} (hi:i ≤ l.length) :
  Ph T (k + 4) 13 [.val (.str l),.val (.int i)] none=some (.ok (.tup [.int (readPlace l i).1,.int (readPlace l i).2],none)) :=
 ph (hT 13 (by decide)) rfl (W_is (read_digits_ok hT k hl hi) ⟨_,⟨rfl,fun hx=>W_is (sign_at_ok hT (k + 2) hl _) ⟨rfl,fin (and_t hx)⟩,fun hx=>(and_f hx).symm⟩,fun h=>⟨rfl,okR2 (b:=(readDigits l i).2 + 1) (if_pos h)⟩,fun h=>⟨rfl,okR2 (if_neg (ne_t h))⟩⟩)
theorem read_size_ok (k:Nat) {l:List Nat} (hl:l.length ≤ LIM) (i:Nat) :
  Ph T (k + 2) 14 [.val (.str l),.val (.int i)] none=some (.ok (.tup [.str (readSize l i).1,.int (readSize l i).2],none)) :=
 ph (hT 14 (by decide)) rfl (W_is (sign_at_ok hT k hl i) ⟨_,⟨rfl,fun hx=>W_is (sign_at_ok hT k hl (i + 1)) ⟨rfl,fin (and_t hx)⟩,fun hx=>(and_f hx).symm⟩,(fun h=>⟨rfl,okZ (b:=2) (if_pos h)⟩),fun h =>
  ⟨fun h1=>⟨rfl,okZ (b:=1) ((if_neg (ne_t h)).trans (if_pos h1))⟩,fun h1=>⟨rfl,(fun h2=>⟨rfl,okZ (b:=1) ((if_neg (ne_t h)).trans ((if_neg (ne_t h1)).trans (if_pos h2)))⟩),fun h2 =>
   ⟨fun h3=>⟨rfl,okZ (b:=1) ((if_neg (ne_t h)).trans ((if_neg (ne_t h1)).trans ((if_neg (ne_t h2)).trans (if_pos h3))))⟩,fun h3=>⟨rfl,okZ (b:=0) ((if_neg (ne_t h)).trans ((if_neg (ne_t h1)).trans ((if_neg (ne_t h2)).trans (if_neg (ne_t h3)))))⟩⟩⟩⟩⟩)
theorem base_of_sort_ok (k:Nat) (s:List Nat):Ph T (k + 1) 15 [.val (.str s)] none=some (.ok (.int (baseOf s),none)) :=
 ph (hT 15 (by decide)) rfl ⟨rfl,(fun h=>okI (if_pos h).symm),fun h=>⟨fun h1=>okI ((if_neg (ne_t h)).trans (if_pos h1)).symm,fun h1=>⟨fun h2=>okI ((if_neg (ne_t h)).trans ((if_neg (ne_t h1)).trans (if_pos h2))).symm,fun h2=>okI ((if_neg (ne_t h)).trans ((if_neg (ne_t h1)).trans (if_neg (ne_t h2)))).symm⟩⟩⟩
end
end
noncomputable section
noncomputable def dropC:Nat → CSs → CSs
 | 0,c=>c
 | n + 1,c=>match c with
  | .cons _ r=>dropC n r
  | .frz _ r=>dropC n r
  | .nil=>.nil
noncomputable abbrev Rest (Φ:Fn) (o:OutE) (c:CSs) (env:List SV):Prop:=wSs Φ (IsO o) XX NN c env none (fun _ p=>IsO o (.ok (.none,p))) (fun _ _=>False) (fun _ _=>False)
theorem nn {b:Bool} (h:(!b)=false):b=true:=by cases b <;> first | rfl | exact tf h
theorem signAt_lt {l:List Nat} {k c:Nat} (h:signAt l k=[c]):k < l.length:=Nat.lt_of_not_le fun w=>by rw [signAt_none w] at h; cases h
theorem readDigits_le {l:List Nat} {k:Nat} (h:k ≤ l.length):k ≤ (readDigits l k).2 ∧ (readDigits l k).2 ≤ l.length:=by
 unfold readDigits
 split
 ·exact ⟨Nat.le_refl _,h⟩
 ·exact ⟨Nat.le_add_right _ _,digs_le h⟩
theorem readPlace_le {l:List Nat} {k:Nat} (h:k ≤ l.length):k ≤ (readPlace l k).2 ∧ (readPlace l k).2 ≤ l.length:=by
 unfold readPlace
 split
 ·rename_i q
  exact ⟨Nat.le_succ_of_le (readDigits_le h).1,signAt_lt (of_decide_eq_true (Bool.and_eq_true_iff.mp q).2)⟩
 ·exact ⟨Nat.le_refl _,h⟩
structure Spec where
 place:Int
 kept:Bool
 width:Int
 size:List Nat
 sort:List Nat
 behind:Nat
noncomputable def specTail (l:List Nat) (place:Int) (kept:Bool) (k:Nat):Spec :=
 ⟨place,kept,(readDigits l k).1,(readSize l (readDigits l k).2).1,signAt l (readSize l (readDigits l k).2).2,(readSize l (readDigits l k).2).2 + 1⟩
noncomputable def readSpec (l:List Nat) (k:Nat):Spec:=if (!decide (signAt l k=[42]))=true then specTail l (readPlace l k).1 true (readPlace l k).2 else specTail l (-1) false (k + 1)
noncomputable def specPV (s:Spec):PV:=.tup [.int s.place,.bool s.kept,.int s.width,.str s.size,.str s.sort,.int s.behind]
noncomputable def tBrack:List Nat:=[117,110,109,97,116,99,104,101,100,32,91,32,105,110,32,102,111,114,109,97,116,32,115,116,114,105,110,103]
noncomputable def kBrack:List Nat:=[66,82,65,67,75,69,84]
noncomputable def setFrom1 (l:List Nat) (k:Nat):Nat:=if decide (signAt l k=[94])=true then k + 1 else k
noncomputable def setFrom2 (l:List Nat) (k:Nat):Nat:=if decide (signAt l k=[93])=true then k + 1 else k
noncomputable def setEnd (l:List Nat) (k:Nat):Nat:=spanN (neC 93) l (setFrom2 l (setFrom1 l k)) l.length
noncomputable def setO (l:List Nat) (k:Nat):OutE:=if decide ((setEnd l k:Int) ≥ l.length)=true then .error (fault tBrack kBrack) else .ok (.int (setEnd l k + 1:Nat),none)
noncomputable def rngPV (r:Int × Int):PV:=.tup [.int r.1,.int r.2]
noncomputable def inRng (c:Nat) (rs:List (Int × Int)):Bool:=rs.any fun r=>decide (r.1 ≤ c) && decide ((c:Int) ≤ r.2)
noncomputable def chr (m:List Nat) (i:Nat):Nat:=m.getD i 0
noncomputable def rgN (m:List Nat):Nat → Nat → Int → List (Int × Int)
 | 0,_,_=>[]
 | n + 1,i,start=>if i < m.length then
   if decide (signAt m (i + 1)=[45])=true then rgN m n (i + 1) (chr m i)
   else if (decide ([chr m i]=[45]) && decide (((i + 1:Nat):Int) < m.length))=true then (if (chr m (i + 1):Int) < start then (chr m (i + 1):Int) else start,if (chr m (i + 1):Int) > start then (chr m (i + 1):Int) else start)::rgN m n (i + 2) start
   else if decide ([chr m i]=[45])=true then (start,start)::((chr m i:Int),(chr m i:Int))::rgN m n (i + 1) start
   else ((chr m i:Int),(chr m i:Int))::rgN m n (i + 1) start
  else []
noncomputable def rangesOf (m:List Nat):List (Int × Int):=if decide ([chr m 0] ∈ ([[93],[45]]:List (List Nat)))=true then ((chr m 0:Int),(chr m 0:Int))::rgN m m.length 1 (chr m 0) else rgN m m.length 0 (chr m 0)
theorem rgN_len (m:List Nat):∀ (n i:Nat) (start:Int),(rgN m n i start).length ≤ 2 * n:=by
 intro n
 induction n with
 | zero=>intro i start; exact Nat.le_refl 0
 | succ n ih =>
  intro i start
  have h2:=ih (i + 2) start
  have h1:=ih (i + 1) start
  have h0:=ih (i + 1) (chr m i)
  show List.length (ite _ (ite _ _ (ite _ _ (ite _ _ _))) _) ≤ _
  split
  ·split
   ·exact Nat.le_succ_of_le (Nat.le_succ_of_le h0)
   ·split
    ·exact Nat.le_trans (Nat.succ_le_succ h2) (Nat.le_succ _)
    ·split
     ·exact Nat.succ_le_succ (Nat.succ_le_succ h1)
     ·exact Nat.le_trans (Nat.succ_le_succ h1) (Nat.le_succ _)
  ·exact Nat.zero_le _
theorem rangesOf_len (m:List Nat):(rangesOf m).length ≤ 2 * m.length + 1:=by
 unfold rangesOf
 split
 ·exact Nat.succ_le_succ (rgN_len m _ _ _)
 ·exact Nat.le_succ_of_le (rgN_len m _ _ _)
theorem at_chr {l:List Nat} {i:Nat} (hl:l.length ≤ LIM) (h:i < l.length):pidx (.str l) (.int (i:Int))=some (.str [chr l i]):=by
 rw [at_ok hl h,chr,List.getD_eq_getElem?_getD,List.getElem?_eq_getElem h]; rfl
noncomputable def isOther (m:List Nat):Bool:=decide ([chr m 0]=[94])
noncomputable def memBody (m:List Nat):List Nat:=if isOther m=true then m.drop 1 else m
noncomputable def inMem (m:List Nat) (c:Nat):Bool:=!(PyData.eqv (PyData.bool (inRng c (rangesOf (memBody m)))) (PyData.bool (isOther m)))
noncomputable def memOk (m:List Nat):Prop:=m ≠ [] ∧ memBody m ≠ []
section
variable {T:List Ent} (hT:Core T)
include hT
theorem read_spec_ok (k:Nat) {l:List Nat} (hl:l.length ≤ LIM) {i:Nat} (hi:i ≤ l.length):Ph T (k + 5) 16 [.val (.str l),.val (.int i)] none=some (.ok (specPV (readSpec l i),none)):=by
 have rest:∀ (pl:Int) (b:Bool) (j:Nat),j ≤ l.length → readSpec l i=specTail l pl b j → Rest (Ph T (k + 4)) (.ok (specPV (readSpec l i),none)) (dropC 3 c_read_spec) [.val (.str l),.val (.int j),.val (.int pl),.val (.bool b),.unb,.unb]:=fun pl b j hj e =>
  W_is (read_digits_ok hT (k + 1) hl hj) (W_is (read_size_ok hT (k + 2) hl _) (W_is (sign_at_ok hT (k + 3) hl _) ⟨rfl,by rw [e]; rfl⟩))
 refine ph (hT 16 (by decide)) rfl (W_is (sign_at_ok hT (k + 3) hl i) ⟨fun h=>W_is (read_place_ok hT k hl hi) (rest _ _ _ (readPlace_le hi).2 ((if_pos h).trans (by rw [h]))),fun h=>rest _ _ (i + 1) ?_ ((if_neg (ne_t h)).trans (by rw [h]))⟩)
 exact signAt_lt (of_decide_eq_true (nn h))
theorem set_behind_ok (k:Nat) {l:List Nat} (hl:l.length ≤ LIM) (i:Nat):Ph T (k + 2) 17 [.val (.str l),.val (.int i)] none=some (setO l i):=by
 have rest:∀ j:Nat,setFrom2 l (setFrom1 l i)=j → Rest (Ph T (k + 1)) (setO l i) (dropC 2 c_set_behind) [.val (.str l),.val (.int j),.unb]:=fun j e=>by
  subst e
  exact W_is (place_of_ok hT k hl 93 _) ⟨lim_line hl,fun h=>(if_pos h).symm,fun h=>(if_neg (ne_t h)).symm⟩
 have mid:∀ j:Nat,setFrom1 l i=j → Rest (Ph T (k + 1)) (setO l i) (dropC 1 c_set_behind) [.val (.str l),.val (.int j),.unb]:=fun j e=>by
  subst e
  exact W_is (sign_at_ok hT k hl _) ⟨fun h=>rest _ (if_pos h),fun h=>rest _ (if_neg (ne_t h))⟩
 exact ph (hT 17 (by decide)) rfl (W_is (sign_at_ok hT k hl i) ⟨fun h=>mid _ (if_pos h),fun h=>mid _ (if_neg (ne_t h))⟩)
theorem is_member_ok (k c:Nat) {rs:List (Int × Int)} (hr:rs.length ≤ LIM):Ph T (k + 1) 23 [.val (.str [c]),.val (.lst (rs.map rngPV))] none=some (.ok (.bool (inRng c rs),none)) :=
 ph (hT 23 (by decide)) rfl ⟨map_line hr,for_st (f:=rngPV) (fun s:SV × SV=>[.val (.str [c]),.val (.lst (rs.map rngPV)),.val (.int c),s.1,s.2]) (fun _=>none)
  (fun r s=>isPn s.1=none ∧ isPn s.2=none ∧ inRng c r=inRng c rs)
  (fun x r s c' h hc=>by
   exact free_op h.1 (free_op h.2.1 ⟨_,(fun w=>⟨and_t w,rfl⟩),and_f,(fun w=>okB (h.2.2.symm.trans (by unfold inRng; rw [List.any_cons,w]; rfl)).symm),fun w=>hc ⟨_,_⟩ ⟨rfl,rfl,Eq.trans (by unfold inRng; rw [List.any_cons,w]; rfl) h.2.2⟩⟩))
  (fun s h=>by exact okB h.2.2) (s:=⟨.unb,.unb⟩) ⟨rfl,rfl,rfl⟩⟩
end
end
noncomputable section
noncomputable def P64:Int:=2 ^ (64:Int).toNat
noncomputable def P63:Int:=2 ^ (63:Int).toNat
theorem shl64:bop .shl (.int 1) (.int 64)=some (.int P64):=rfl
theorem shl63:bop .shl (.int 1) (.int 63)=some (.int P63):=rfl
noncomputable def wideN (n:Int):Int:=if decide ((Builtin.bitAnd n (P64 - 1)).fdiv P63=1)=true then Builtin.bitAnd n (P64 - 1) - P64 else Builtin.bitAnd n (P64 - 1)
noncomputable def tUns:List Nat:=[117,110,115,105,103,110,101,100,32,98,105,103,110,117,109,32,115,99,97,110,115,32,97,114,101,32,105,110,118,97,108,105,100]
noncomputable def kUns:List Nat:=[66,65,68,85,78,83,73,71,78,69,68]
noncomputable def fUns:Exn:=fault tUns kUns
noncomputable def minI (a b:Int):Int:=if b < a then b else a
noncomputable def maxI (a b:Int):Int:=if b > a then b else a
noncomputable def clampN (n:Int):Int:=maxI (-P63) (minI n (P63 - 1))
noncomputable def fitN1 (n:Int) (size:List Nat):Int:=if (!decide (size=[108]) && (decide (0 ≤ n) && decide (n < P64)))=true then wideN n else n
noncomputable def fitN2 (n:Int) (uns:Bool):Int:=if uns=true then Builtin.bitAnd n (P64 - 1) else n
noncomputable def fitO (n:Int) (uns:Bool) (size:List Nat):Except Exn Int:=if decide (size=sBig)=true then (if (uns && decide (n < 0))=true then .error fUns else .ok n) else .ok (fitN2 (clampN (fitN1 n size)) uns)
noncomputable def intO (o:Except Exn Int):OutE:=match o with
 | .ok n=>.ok (.int n,none)
 | .error e=>.error e
theorem app_le {α:Type} {a b c:List α} (e:a ++ b=c):a.length ≤ c.length:=by rw [← e,List.length_append]; exact Nat.le_add_right _ _
theorem win_at {l:List Nat} {k last j:Nat} (h:k + j < last):chr (win l k last) j=chr l (k + j):=by
 unfold chr win
 rw [List.getD_eq_getElem?_getD,List.getD_eq_getElem?_getD,List.getElem?_drop,List.getElem?_take_of_lt h]
theorem at_win {l:List Nat} {k last j:Nat} (hl:l.length ≤ LIM) (hla:last ≤ l.length) (h:k + j < last):pidx (.str l) (.int ((k + j:Nat):Int))=some (.str [chr (win l k last) j]):=by
 rw [at_chr hl (Nat.lt_of_lt_of_le h hla),win_at h]
theorem lt_win {l:List Nat} {k last j:Nat} (hla:last ≤ l.length):decide (((k + j:Nat):Int) < (last:Int))=decide (j < (win l k last).length):=decide_eq_decide.mpr (by rw [win_len hla,Int.ofNat_lt,Nat.lt_sub_iff_add_lt'])
noncomputable def hasMark (w:List Nat) (a b:Nat) (base:Int):Bool:=decide (2 < w.length) && (decide ([chr w 0]=[48]) && (decide ([chr w 1] ∈ ([[a],[b]]:List (List Nat))) && isDig base (chr w 2)))
noncomputable def readBase (w:List Nat) (sort:List Nat):Int × Nat :=
 if (decide (sort ∈ ([[120],[88],[105]]:List (List Nat))) && hasMark w 120 88 16)=true then (16,2)
 else if (decide (sort=[98]) && hasMark w 98 66 2)=true then (2,2)
 else if decide (sort=[105])=true then (if (decide (0 < w.length) && decide ([chr w 0]=[48]))=true then 8 else 10,0)
 else (baseOf sort,0)
theorem hasMark_len {w:List Nat} {a b:Nat} {base:Int} (h:hasMark w a b base=true):2 ≤ w.length:=Nat.le_of_lt (of_decide_eq_true (Bool.and_eq_true_iff.mp h).1)
theorem ok2:baseOk 2:=⟨by decide,by decide⟩
theorem ok8:baseOk 8:=⟨by decide,by decide⟩
theorem ok10:baseOk 10:=⟨by decide,by decide⟩
theorem ok16:baseOk 16:=⟨by decide,by decide⟩
theorem ite_ok {c:Prop} [Decidable c] {α:Type} {P:α → Prop} {a b:α} (ha:c → P a) (hb:P b):P (if c then a else b):=by
 by_cases h:c
 ·rw [if_pos h]; exact ha h
 ·rw [if_neg h]; exact hb
theorem baseOf_ok (s:List Nat):baseOk (baseOf s):=ite_ok (fun _=>ok16) (ite_ok (fun _=>ok8) (ite_ok (fun _=>ok2) ok10))
theorem readBase_ok (w sort:List Nat):baseOk (readBase w sort).1 ∧ (readBase w sort).2 ≤ w.length :=
 ite_ok (P:=fun r:Int × Nat=>baseOk r.1 ∧ r.2 ≤ w.length) (fun h=>⟨ok16,hasMark_len (Bool.and_eq_true_iff.mp h).2⟩) (ite_ok (P:=fun r:Int × Nat=>baseOk r.1 ∧ r.2 ≤ w.length) (fun h=>⟨ok2,hasMark_len (Bool.and_eq_true_iff.mp h).2⟩)
  (ite_ok (P:=fun r:Int × Nat=>baseOk r.1 ∧ r.2 ≤ w.length) (fun _=>⟨ite_ok (P:=baseOk) (fun _=>ok8) ok10,Nat.zero_le _⟩) ⟨baseOf_ok _,Nat.zero_le _⟩))
section
variable {T:List Ent} (hT:Core T)
include hT
theorem wide_ok (k:Nat) (n:Int):Ph T (k + 1) 8 [.val (.int n)] none=some (.ok (.int (wideN n),none)) :=
 ph (hT 8 (by decide)) rfl ⟨_,shl64,_,rfl,_,rfl,(fun h=>⟨_,shl64,okI (if_pos h).symm⟩),fun h=>okI (if_neg (ne_t h)).symm⟩
theorem fitted_ok (k:Nat) (n:Int) (uns:Bool) (size:List Nat):Ph T (k + 2) 25 [.val (.int n),.val (.bool uns),.val (.str size)] none=some (intO (fitO n uns size)):=by
 have rest:¬ decide (size=sBig)=true → ∀ m:Int,fitN1 n size=m → Rest (Ph T (k + 1)) (intO (fitO n uns size)) (dropC 2 c_fitted) [.val (.int m),.val (.bool uns),.val (.str size)]:=fun h m e =>
  have e:fitO n uns size=.ok (fitN2 (clampN m) uns):=by rw [← e]; exact if_neg h
  ⟨_,shl63,_,shl63,(fun h=>⟨_,shl64,_,rfl,by rw [e,h]; rfl⟩),fun h=>by rw [e,h]; rfl⟩
 refine ph (hT 25 (by decide)) rfl ⟨fun h=>⟨_,⟨rfl,fun hx=>⟨rfl,fin (and_t hx)⟩,fun hx=>(and_f hx).symm⟩,fun h2=>?_,fun h2=>?_⟩,fun h=>⟨_,⟨rfl,fun hx=>⟨_,fun hy=>⟨_,shl64,and_t hy,rfl⟩,and_f,rfl,fin (and_t hx)⟩,fun hx=>(and_f hx).symm⟩,fun h2=>W_is (wide_ok hT k n) (rest (ne_t h) _ (if_pos h2)),fun h2=>rest (ne_t h) _ (if_neg (ne_t h2))⟩⟩
 ·show _=intO (fitO n uns size)
  rw [show fitO n uns size=.error fUns from (if_pos h).trans (if_pos h2)]; rfl
 ·show _=intO (fitO n uns size)
  rw [show fitO n uns size=.ok n from (if_pos h).trans (if_neg (ne_t h2))]; rfl
theorem ranges_of_ok (k:Nat) {m:List Nat} (hl:3 * m.length ≤ LIM) (hne:m ≠ []):Ph T (k + 2) 22 [.val (.str m)] none=some (.ok (.lst ((rangesOf m).map rngPV),none)):=by
 have hm:m.length ≤ LIM:=Nat.le_trans (Nat.le_mul_of_pos_left _ (by decide)) hl
 have h0:0 < m.length:=List.length_pos_iff.mpr hne
 have hr:((rangesOf m).map rngPV).length ≤ LIM:=by rw [List.length_map]; exact Nat.le_trans (rangesOf_len m) (Nat.le_trans (by omega) hl)
 have rest:∀ (acc:List PV) (i:Nat),acc ++ (rgN m m.length i (chr m 0)).map rngPV=(rangesOf m).map rngPV → Rest (Ph T (k + 1)) (.ok (.lst ((rangesOf m).map rngPV),none)) (dropC 4 c_ranges_of) [.val (.str m),.own acc,.val (.int i),.val (.int (chr m 0)),.unb,.unb]:=fun acc i hacc =>
  while_st (fun s:List PV × Nat × Nat × Int × SV × SV=>[.val (.str m),.own s.1,.val (.int s.2.1),.val (.int s.2.2.2.1),s.2.2.2.2.1,s.2.2.2.2.2])
   (fun s=>s.1 ++ (rgN m s.2.2.1 s.2.1 s.2.2.2.1).map rngPV=(rangesOf m).map rngPV ∧ m.length ≤ s.2.1 + s.2.2.1 ∧ isPn s.2.2.2.2.1=none ∧ isPn s.2.2.2.2.2=none) (fun s=>s.2.2.1)
   (fun s c h hc=>by
    obtain ⟨acc,i,n,start,a,b⟩:=s
    obtain ⟨e,hn,ha,hb⟩:=h
    have ga:=lim_line (Nat.le_trans (app_le e) hr)
    have gb:∀ x:PV,(acc ++ [x]).length ≤ strLine:=fun x=>by rw [List.length_append]; exact sline (Nat.le_trans (Nat.add_le_add_right (Nat.le_trans (app_le e) hr) 1) (by decide))
    refine ⟨lim_line hm,fun h=>?_,fun h=>?_⟩
    ·have hi:=d_lt h
     obtain ⟨n,rfl⟩:∃ j,n=j + 1:=Nat.exists_eq_succ_of_ne_zero fun w=>by subst w; exact Nat.lt_irrefl _ (Nat.lt_of_lt_of_le hi hn)
     have hn':m.length ≤ i + 1 + n:=by rw [Nat.add_right_comm]; exact hn
     have e:acc ++ (rgN m (n + 1) i start).map rngPV=(rangesOf m).map rngPV:=e
     have q:=fun x (w:_=x)=>(show rgN m (n + 1) i start=x from (if_pos hi).trans w)
     refine ⟨_,at_chr hm hi,free_op ha (W_is (sign_at_ok hT k hm (i + 1)) ⟨fun h1=>?_,fun h1=>⟨_,⟨_,at_chr hm hi,rfl,fun hx=>⟨lim_line hm,rfl,fin (and_t hx)⟩,fun hx=>(and_f hx).symm⟩,fun h2=>?_,fun h2=>⟨_,at_chr hm hi,fun h3=>⟨rfl,ga,?_⟩,fun h3=>⟨rfl,ga,?_⟩⟩⟩⟩)⟩
     ·rw [q _ (if_pos h1)] at e
      exact hc ⟨acc,i + 1,n,chr m i,.val (.int (chr m i)),b⟩ ⟨e,hn',rfl,hb⟩ (Nat.lt_succ_self n)
     ·rw [q _ ((if_neg (ne_t h1)).trans (if_pos h2))] at e
      exact ⟨_,at_chr hm (d_lt (b:=m.length) (Bool.and_eq_true_iff.mp h2).2),free_op hb ⟨rfl,ga,hc ⟨_,i + 2,n,start,.val (.int (chr m i)),.val (.int (chr m (i + 1)))⟩ ⟨(List.append_assoc _ _ _).trans e,Nat.le_trans hn' (Nat.add_le_add_right (Nat.le_succ _) n),rfl,rfl⟩ (Nat.lt_succ_self n)⟩⟩
     ·rw [q _ ((if_neg (ne_t h1)).trans ((if_neg (ne_t h2)).trans (if_pos h3)))] at e
      exact ⟨rfl,gb _,hc ⟨_,i + 1,n,start,.val (.int (chr m i)),b⟩ ⟨by rw [List.append_assoc,List.append_assoc]; exact e,hn',rfl,hb⟩ (Nat.lt_succ_self n)⟩
     ·rw [q _ ((if_neg (ne_t h1)).trans ((if_neg (ne_t h2)).trans (if_neg (ne_t h3))))] at e
      exact hc ⟨_,i + 1,n,start,.val (.int (chr m i)),b⟩ ⟨(List.append_assoc _ _ _).trans e,hn',rfl,hb⟩ (Nat.lt_succ_self n)
    ·have hi:=d_nlt h
     have e0:rgN m n i start=[]:=by
      cases n with
      | zero=>rfl
      | succ n=>exact if_neg (Nat.not_lt.mpr hi)
     show IsO _ (.ok (.lst acc,none))
     rw [e0,List.map_nil,List.append_nil] at e
     rw [← e]) (s:=⟨acc,i,m.length,chr m 0,.unb,.unb⟩) ⟨hacc,Nat.le_add_left _ _,rfl,rfl⟩ hm
 exact ph (hT 22 (by decide)) rfl ⟨rfl,_,at_chr (i:=0) hm h0,_,at_chr (i:=0) hm h0,rfl,(fun h=>⟨rfl,Nat.zero_le _,rest [_] 1 (by unfold rangesOf; rw [if_pos h]; rfl)⟩),fun h=>rest [] 0 (by unfold rangesOf; rw [if_neg (ne_t h)]; rfl)⟩
theorem behind_members_ok (k:Nat) {l m:List Nat} (hl:l.length ≤ LIM) (hml:3 * m.length ≤ LIM) (hm:memOk m) {i last:Nat} (hla:last ≤ l.length) :
  Ph T (k + 3) 24 [.val (.str l),.val (.int i),.val (.int last),.val (.str m)] none=some (.ok (.int (spanN (inMem m) l i last),none)):=by
 have hm1:m.length ≤ LIM:=Nat.le_trans (Nat.le_mul_of_pos_left _ (by decide)) hml
 have h0:0 < m.length:=List.length_pos_iff.mpr hm.1
 have hb:(memBody m).length ≤ m.length:=ite_ok (P:=fun r:List Nat=>r.length ≤ m.length) (fun _=>by rw [List.length_drop]; exact Nat.sub_le _ _) (Nat.le_refl _)
 have hb3:3 * (memBody m).length ≤ LIM:=Nat.le_trans (Nat.mul_le_mul_left 3 hb) hml
 have hr:(rangesOf (memBody m)).length ≤ LIM:=Nat.le_trans (rangesOf_len _) (Nat.le_trans (by have:=hm.2; have:=List.length_pos_iff.mpr this; omega) hb3)
 refine ph (hT 24 (by decide)) rfl ⟨_,at_chr (i:=0) hm1 h0,.str (memBody m),⟨rfl,fun h=>⟨lim_line hm1,?_,rfl⟩,fun h=>⟨?_,rfl⟩⟩,W_is (ranges_of_ok hT k hb3 hm.2)
  (scan_while (fun i=>[.val (.str l),.val (.int i),.val (.int last),.val (.str m),.val (.bool (isOther m)),.val (.lst ((rangesOf (memBody m)).map rngPV))]) hla hl
  (fun j hj K hK=>⟨_,⟨rfl,fun _=>⟨_,at_ok hl (Nat.lt_of_lt_of_le hj hla),W_is (is_member_ok hT (k + 1) _ hr) ⟨rfl,fin rfl⟩⟩,fun h=>b_no (lt_d hj) h⟩,hK⟩)
  (fun j hj K hK=>⟨_,⟨rfl,fun h=>b_no h (nlt_d hj),fun _=>rfl⟩,hK⟩) (fun j n kb kc h=>h) rfl)⟩
 ·rw [show memBody m=m.drop 1 from if_pos h]
  show PV.str ((m.drop (clip m.length 1)).take (m.length - clip m.length 1))=_
  rw [show clip m.length 1=1 from clip_nat (a:=1) h0,← List.length_drop,List.take_length]
 ·rw [show memBody m=m from if_neg (ne_t h)]
end
end
noncomputable section
theorem okW {a:Int} {i j:Nat} {r:Int × Nat} {p:Option Int} (h:r=(a,j)):IsO (.ok (.tup [.int r.1,.int (i + r.2:Nat)],p)) (.ok (.tup [.int a,.int (i + j:Nat)],p)):=by rw [h]
noncomputable abbrev WR:=Except Exn (Option (List Nat) × Nat)
noncomputable def optPV:Option (List Nat) → PV
 | none=>.none
 | some l=>.str l
noncomputable def outF (i:Nat) (r:WR):OutE:=match r with
 | .ok x=>.ok (.tup [optPV x.1,.int (i + x.2:Nat)],none)
 | .error e=>.error e
noncomputable def isMinus (w:List Nat):Bool:=decide ([chr w 0]=[45])
noncomputable def isSign (w:List Nat):Bool:=decide ([chr w 0] ∈ ([[43],[45]]:List (List Nat)))
noncomputable def digsW (w:List Nat) (b:Int × Nat):List Nat:=(w.drop b.2).takeWhile (isDig b.1)
noncomputable def numW (minus:Bool) (b:Int) (ds:List Nat):Int:=if minus=true then -numVal b ds else numVal b ds
noncomputable def strR (n:Nat) (r:Except Exn Int):WR:=match r with
 | .ok v=>.ok (some (digits v),n)
 | .error e=>.error e
noncomputable def readTail (w:List Nat) (g:Nat) (minus:Bool) (sort size:List Nat):WR :=
 if digsW w (readBase w sort)=[] then .ok (none,g + (readBase w sort).2)
 else strR (g + (readBase w sort).2 + (digsW w (readBase w sort)).length) (fitO (numW minus (readBase w sort).1 (digsW w (readBase w sort))) (decide (sort=[117])) size)
noncomputable def readWhole (w:List Nat) (sort size:List Nat):WR:=if isSign w=true then readTail (w.drop 1) 1 (isMinus w) sort size else readTail w 0 (isMinus w) sort size
theorem digit_hi {b:Int} {c:Nat} (h:isDig b c=true):0 ≤ digitN c ∧ digitN c < b :=
 have h:=Bool.and_eq_true_iff.mp h
 ⟨of_decide_eq_true h.1,of_decide_eq_true h.2⟩
theorem numVal_le {base:Int} (hb:baseOk base):∀ (l:List Nat),(∀ c ∈ l,isDig base c=true) → ∀ v:Int,0 ≤ v → 0 ≤ l.foldl (fun v c=>v * base + digitN c) v ∧ l.foldl (fun v c=>v * base + digitN c) v < (v + 1) * (16:Int) ^ l.length:=by
 intro l
 induction l with
 | nil=>intro _ v hv; exact ⟨hv,by rw [List.length_nil,Int.pow_zero,Int.mul_one]; exact Int.lt_succ v⟩
 | cons c l ih =>
  intro h v hv
  have hc:=digit_hi (h c (.head _))
  have hm:=Int.mul_nonneg hv (Int.le_trans (by decide) hb.1)
  obtain ⟨a,b⟩:=ih (fun x hx=>h x (.tail _ hx)) _ (Int.add_nonneg hm hc.1)
  refine ⟨a,Int.lt_of_lt_of_le b ?_⟩
  rw [List.length_cons,Int.pow_succ,Int.mul_comm _ 16,← Int.mul_assoc]
  refine Int.mul_le_mul_of_nonneg_right ?_ (Int.pow_nonneg (by decide))
  have h2:v * base ≤ v * 16:=Int.mul_le_mul_of_nonneg_left hb.2 hv
  rw [Int.add_mul,Int.one_mul,Int.add_assoc]
  exact Int.add_le_add h2 (Int.le_trans (Int.add_one_le_of_lt hc.2) hb.2)
noncomputable def b1900:Nat:=2 ^ 1900
noncomputable def b400:Nat:=16 ^ 400
theorem b_big:b400 ≤ b1900 ∧ 2 ^ 64 < b1900:=by decide +kernel
theorem abs_lt {a:Int} {n:Nat} (h1:-(n:Int) < a) (h2:a < n):a.natAbs < n:=by omega
theorem numW_abs {minus:Bool} {base:Int} (hb:baseOk base) {l:List Nat} (h:∀ c ∈ l,isDig base c=true) (hl:l.length ≤ 400):(numW minus base l).natAbs < b400:=by
 obtain ⟨a,b⟩:=numVal_le hb l h 0 (Int.le_refl 0)
 have h1:(16:Nat) ^ l.length ≤ b400:=Nat.pow_le_pow_right (by decide) hl
 have e:(numW minus base l).natAbs=(numVal base l).natAbs:=by
  cases minus with
  | true=>exact Int.natAbs_neg _
  | false=>rfl
 rw [e]
 rw [Int.zero_add,Int.one_mul,show (16:Int) ^ l.length=((16 ^ l.length:Nat):Int) from (Int.natCast_pow 16 _).symm] at b
 have a:0 ≤ numVal base l:=a
 exact Nat.lt_of_lt_of_le (Int.ofNat_lt.mp (by rw [Int.natAbs_of_nonneg a]; exact b)) h1
theorem band_le {x y:Int} (hy:0 ≤ y):0 ≤ Builtin.bitAnd x y ∧ Builtin.bitAnd x y ≤ y:=by
 by_cases hx:0 ≤ x
 ·rw [bitAnd_pp hx hy]
  exact ⟨Int.natCast_nonneg _,Int.le_trans (Int.ofNat_le.mpr Nat.and_le_right) (Int.le_of_eq (Int.toNat_of_nonneg hy))⟩
 ·rw [bitAnd_np hx hy]
  have h:=fun z=>Int.le_trans (Int.ofNat_le.mpr (Nat.and_le_left (m:=z))) (Int.le_of_eq (Int.toNat_of_nonneg hy))
  exact ⟨Int.sub_nonneg_of_le (h _),Int.sub_le_self _ (Int.natCast_nonneg _)⟩
theorem p64:0 ≤ P64 - 1 ∧ -P64 < 0 ∧ P64 - 1 < P64 ∧ -P64 < -P63 ∧ P63 - 1 < P64 ∧ -P63 < P64:=by decide +kernel
theorem clamp_le (x:Int):-P64 < clampN x ∧ clampN x < P64:=by
 unfold clampN maxI
 split
 ·rename_i h
  refine ⟨Int.lt_trans p64.2.2.2.1 h,Int.lt_of_le_of_lt ?_ p64.2.2.2.2.1⟩
  unfold minI
  split
  ·exact Int.le_refl _
  ·exact Int.not_lt.mp ‹_›
 ·exact ⟨p64.2.2.2.1,p64.2.2.2.2.2⟩
theorem fitO_abs {n m:Int} {uns:Bool} {size:List Nat} (h:fitO n uns size=.ok m) (hn:n.natAbs < b400):m.natAbs < b1900:=by
 have c3:∀ x:Int,-P64 < x ∧ x < P64 → x.natAbs < b1900:=fun x h=>Nat.lt_trans (abs_lt (n:=2 ^ 64) h.1 h.2) b_big.2
 unfold fitO at h
 split at h
 ·split at h
  ·cases h
  ·cases h; exact Nat.lt_of_lt_of_le hn b_big.1
 ·cases h
  cases uns with
  | true=>exact c3 _ ⟨Int.lt_of_lt_of_le p64.2.1 (band_le p64.1).1,Int.lt_of_le_of_lt (band_le p64.1).2 p64.2.2.1⟩
  | false=>exact c3 _ (clamp_le _)
theorem str_ok {n:Int} (h:n.natAbs < b1900):biop .str [.int n]=some (.str (digits n)):=if_pos h
section
variable {T:List Ent} (hT:Core T)
include hT
theorem has_mark_ok (k:Nat) {l:List Nat} (hl:l.length ≤ LIM) {i last:Nat} (hla:last ≤ l.length) (a b:Nat) (base:Int) :
  Ph T (k + 2) 26 [.val (.str l),.val (.int i),.val (.int last),.val (.tup [.str [a],.str [b]]),.val (.int base)] none=some (.ok (.bool (hasMark (win l i last) a b base),none)) :=
 have e:=lt_win (k:=i) (j:=2) hla
 ph (hT 26 (by decide)) rfl ⟨hasMark (win l i last) a b base,⟨rfl,fun h1 =>
  have h1':=e.symm.trans h1
  have hi:=d_lt h1
  ⟨_,at_win (j:=0) hl hla (Nat.lt_of_succ_lt (Nat.lt_of_succ_lt hi)),rfl,fun h2=>⟨_,at_win (j:=1) hl hla (Nat.lt_of_succ_lt hi),rfl,fun h3=>⟨_,at_win (j:=2) hl hla hi,W_is (digit_ok hT k _) ⟨_,(fun hx=>⟨and_t hx,rfl⟩),and_f,rfl,fin ((and_t h3).trans ((and_t h2).trans (and_t h1')))⟩⟩,
   fun h3=>(and_f h3).symm.trans ((and_t h2).trans (and_t h1'))⟩,fun h2=>(and_f h2).symm.trans (and_t h1')⟩,fun h1=>(and_f (e.symm.trans h1)).symm⟩,rfl⟩
theorem read_base_ok (k:Nat) {l:List Nat} (hl:l.length ≤ LIM) {i last:Nat} (hla:last ≤ l.length) (sort:List Nat) :
  Ph T (k + 3) 27 [.val (.str l),.val (.int i),.val (.int last),.val (.str sort)] none=some (.ok (.tup [.int (readBase (win l i last) sort).1,.int (i + (readBase (win l i last) sort).2:Nat)],none)) :=
 have e:=lt_win (k:=i) (j:=0) hla
 ph (hT 27 (by decide)) rfl ⟨_,⟨rfl,rfl,fun hx=>⟨rfl,W_is (has_mark_ok hT k hl hla 120 88 16) ⟨rfl,fin (and_t hx)⟩⟩,fun hx=>(and_f hx).symm⟩,(fun h=>⟨rfl,okW (j:=2) (if_pos h)⟩),fun h =>
  ⟨_,⟨rfl,fun hx=>⟨rfl,W_is (has_mark_ok hT k hl hla 98 66 2) ⟨rfl,fin (and_t hx)⟩⟩,fun hx=>(and_f hx).symm⟩,(fun h2=>⟨rfl,okW (j:=2) ((if_neg (ne_t h)).trans (if_pos h2))⟩),fun h2 =>
   ⟨fun h3=>⟨.int (if (decide (0 < (win l i last).length) && decide ([chr (win l i last) 0]=[48]))=true then 8 else 10),⟨_,⟨rfl,fun hx=>⟨_,at_win (j:=0) hl hla (d_lt hx),rfl,fin (and_t (e.symm.trans hx))⟩,fun hx=>(and_f (e.symm.trans hx)).symm⟩,rfl,(fun hy=>⟨by rw [if_pos hy],rfl⟩),fun hy=>⟨by rw [if_neg (ne_t hy)],rfl⟩⟩,rfl,
     okW (j:=0) ((if_neg (ne_t h)).trans ((if_neg (ne_t h2)).trans (if_pos h3)))⟩,
    fun h3=>W_is (base_of_sort_ok hT (k + 1) sort) ⟨rfl,okW (j:=0) ((if_neg (ne_t h)).trans ((if_neg (ne_t h2)).trans (if_neg (ne_t h3))))⟩⟩⟩⟩
end
end
noncomputable section
noncomputable def readRun (w:List Nat) (r:List Nat):WR:=if r=[] then .ok (none,0) else .ok (some r,r.length)
noncomputable def readField (w:List Nat) (sort members size:List Nat):WR :=
 if decide (sort=[99])=true then .ok (some (digits (chr w 0:Int)),1)
 else if (!decide (sort ∈ ([[115],[91]]:List (List Nat))))=true then readWhole w sort size
 else if decide (sort=[91])=true then readRun w (w.takeWhile (inMem members))
 else readRun w (w.takeWhile fun c=>!isBlank c)
theorem chr_lt {l:List Nat} (hu:∀ c ∈ l,c < 1114112) (i:Nat):chr l i < 1114112:=by
 unfold chr
 rw [List.getD_eq_getElem?_getD]
 cases h:l[i]? with
 | none=>decide
 | some x=>exact hu x (List.mem_of_getElem? h)
theorem win_drop (l:List Nat) (k last j:Nat):win l (k + j) last=(win l k last).drop j:=by unfold win; rw [List.drop_drop]
section
variable {T:List Ent} (hT:Core T)
include hT
theorem read_tail_ok (k:Nat) {l:List Nat} (hl:l.length ≤ 400) {i g last:Nat} (hi:i + g ≤ last) (hla:last ≤ l.length) (minus:Bool) (sort size:List Nat) :
  Rest (Ph T (k + 3)) (outF i (readTail (win l (i + g) last) g minus sort size)) (dropC 2 c_read_whole) [.val (.str l),.val (.int (i + g:Nat)),.val (.int last),.val (.str sort),.val (.str size),.val (.bool minus),.unb,.unb,.unb,.unb]:=by
 have hL:l.length ≤ LIM:=Nat.le_trans hl (by decide)
 have hb:=readBase_ok (win l (i + g) last) sort
 have e1:=read_base_ok hT k hL (i:=i + g) hla sort
 unfold readTail
 generalize readBase (win l (i + g) last) sort=b at hb e1 ⊢
 obtain ⟨hb1,hb2⟩:=hb
 rw [win_len hla] at hb2
 have hj:i + g + b.2 ≤ last:=Nat.le_trans (Nat.add_le_add_left hb2 _) (Nat.le_of_eq (Nat.add_sub_cancel' hi))
 have es:spanN (isDig b.1) l (i + g + b.2) last=i + g + b.2 + (digsW (win l (i + g) last) b).length:=by unfold digsW; rw [← win_drop]; rfl
 have eg:=seg_run (P:=isDig b.1) hj hla
 have hall:∀ c ∈ digsW (win l (i + g) last) b,isDig b.1 c=true:=all_run
 have hlen:(digsW (win l (i + g) last) b).length ≤ 400:=Nat.le_trans (Nat.le_trans (run_len _ _) (by rw [List.length_drop,win_len hla]; exact Nat.le_trans (Nat.sub_le _ _) (Nat.sub_le _ _))) (Nat.le_trans hla hl)
 rw [win_drop,es,show List.takeWhile (isDig b.1) (List.drop b.2 (win l (i + g) last))=digsW (win l (i + g) last) b from rfl] at eg
 refine W_is e1 (W_is (digits_behind_ok hT (k + 1) hL _ last hla b.1) ?_)
 rw [es]
 generalize digsW (win l (i + g) last) b=ds at eg hall hlen ⊢
 refine ⟨fun h=>⟨rfl,?_⟩,fun h=>⟨lim_line hL,?_⟩⟩
 ·rw [if_pos (List.eq_nil_of_length_eq_zero (Nat.left_eq_add.mp (d_eq h).symm)),Nat.add_assoc]; rfl
 ·have hne:ds ≠ []:=fun w=>d_ne h (by rw [w]; rfl)
  rw [if_neg hne,eg]
  refine W_is (digits_value_ok hT (k + 1) (Nat.le_trans hlen (by decide)) hb1 hall hne) ⟨.int (numW minus b.1 ds),⟨rfl,(fun h=>⟨(congrArg PV.int (if_pos h)).symm,rfl⟩),fun h=>⟨(congrArg PV.int (if_neg (ne_t h))).symm,rfl⟩⟩,W_is (fitted_ok hT (k + 1) _ _ _) ?_⟩
  cases hf:fitO (numW minus b.1 ds) (decide (sort=[117])) size with
  | error e=>exact rfl
  | ok n=>exact ⟨_,str_ok (fitO_abs hf (numW_abs hb1 hall hlen)),rfl,by unfold strR outF; rw [Nat.add_assoc i,Nat.add_assoc i]; rfl⟩
theorem read_whole_ok (k:Nat) {l:List Nat} (hl:l.length ≤ 400) {i last:Nat} (hi:i < last) (hla:last ≤ l.length) (sort size:List Nat) :
  Ph T (k + 4) 28 [.val (.str l),.val (.int i),.val (.int last),.val (.str sort),.val (.str size)] none=some (outF i (readWhole (win l i last) sort size)):=by
 have hL:l.length ≤ LIM:=Nat.le_trans hl (by decide)
 have t:=fun g h=>read_tail_ok hT k hl (i:=i) (g:=g) h hla (isMinus (win l i last)) sort size
 refine ph (hT 28 (by decide)) rfl ⟨_,at_win (j:=0) hL hla hi,_,at_win (j:=0) hL hla hi,rfl,fun h=>?_,fun h=>?_⟩
 ·rw [show readWhole (win l i last) sort size=_ from if_pos h,← win_drop]; exact t 1 hi
 ·rw [show readWhole (win l i last) sort size=_ from if_neg (ne_t h)]; exact t 0 (Nat.le_of_lt hi)
theorem read_field_ok (k:Nat) {l m:List Nat} (hl:l.length ≤ 400) (hml:3 * m.length ≤ LIM) (hu:∀ c ∈ l,c < 1114112) {i last:Nat} (hi:i < last) (hla:last ≤ l.length) {sort:List Nat} (size:List Nat) (hm:sort=[91] → memOk m) :
  Ph T (k + 5) 29 [.val (.str l),.val (.int i),.val (.int last),.val (.str sort),.val (.str m),.val (.str size)] none=some (outF i (readField (win l i last) sort m size)):=by
 have hL:l.length ≤ LIM:=Nat.le_trans hl (by decide)
 have run:∀ (P:Nat → Bool),outF i (readField (win l i last) sort m size)=outF i (readRun (win l i last) ((win l i last).takeWhile P)) →
   Rest (Ph T (k + 4)) (outF i (readField (win l i last) sort m size)) (dropC 4 c_read_field) [.val (.str l),.val (.int i),.val (.int last),.val (.str sort),.val (.str m),.val (.str size),.val (.int (spanN P l i last))]:=fun P e=>by
  have es:spanN P l i last=i + ((win l i last).takeWhile P).length:=rfl
  have eg:=seg_run (P:=P) (Nat.le_of_lt hi) hla
  rw [e]
  rw [es] at eg ⊢
  generalize (win l i last).takeWhile P=r at eg ⊢
  unfold readRun
  by_cases h:r=[]
  ·rw [if_pos h,h]
   exact ⟨_,⟨rfl,(fun _=>⟨rfl,rfl⟩),fun w=>absurd rfl (d_ne (a:=i) (b:=i) w)⟩,rfl,rfl⟩
  ·rw [if_neg h]
   exact ⟨_,⟨rfl,(fun w=>absurd (List.eq_nil_of_length_eq_zero (Nat.left_eq_add.mp (d_eq w).symm)) h),fun _=>⟨lim_line hL,congrArg PV.str eg,rfl⟩⟩,rfl,rfl⟩
 refine ph (hT 29 (by decide)) rfl ⟨fun h1=>⟨_,at_win (j:=0) hL hla hi,_,str_ok ?_,rfl,?_⟩,fun h1=>⟨rfl,fun h2=>W_is (read_whole_ok hT k hl hi hla sort size) ?_,fun h2=>⟨fun h3=>W_is (behind_members_ok hT (k + 1) hL hml (hm (of_decide_eq_true h3)) hla) (run _ ?_),fun h3=>?_⟩⟩⟩
 ·rw [win_at (j:=0) hi]
  exact Nat.lt_trans (chr_lt hu _) (Nat.lt_trans (by decide) b_big.2)
 ·rw [show readField (win l i last) sort m size=_ from if_pos h1]; rfl
 ·have e:readField (win l i last) sort m size=readWhole (win l i last) sort size:=(if_neg (ne_t h1)).trans (if_pos h2)
  rw [e]
  cases readWhole (win l i last) sort size <;> exact rfl
 ·rw [show readField (win l i last) sort m size=_ from (if_neg (ne_t h1)).trans ((if_neg (ne_t h2)).trans (if_pos h3))]
 ·exact scan_while (fun j=>[.val (.str l),.val (.int i),.val (.int last),.val (.str sort),.val (.str m),.val (.str size),.val (.int j)]) hla hL
   (fun j hj K hK=>⟨_,⟨rfl,fun _=>⟨_,at_ok hL (Nat.lt_of_lt_of_le hj hla),W_is (is_blank_ok hT (k + 3) _) ⟨rfl,fin rfl⟩⟩,fun h=>b_no (lt_d hj) h⟩,hK⟩)
   (fun j hj K hK=>⟨_,⟨rfl,fun h=>b_no h (nlt_d hj),fun _=>rfl⟩,hK⟩) (fun j n kb kc h=>h)
   (run _ (by rw [show readField (win l i last) sort m size=_ from (if_neg (ne_t h1)).trans ((if_neg (ne_t h2)).trans (if_neg (ne_t h3)))]))
end
end
noncomputable section
structure Fld where
 star:Bool
 place:List Nat
 wid:List Nat
 size:List Nat
 sort:Nat
 mem:List Nat
noncomputable def sizesL:List (List Nat):=[[],[104],[108],[108,108],[113],[76],[116],[106],[122]]
noncomputable def sortsL:List Nat:=[100,105,117,111,120,88,98,99,115,91,110]
noncomputable def pv (ds:List Nat):Int:=if ds=[] then -1 else numVal 10 ds
noncomputable def sizeOf' (s:List Nat):List Nat:=(rsz (s.take 1) ((s.drop 1).take 1)).1
noncomputable def sortOk (sort:Nat) (w:Int) (size:List Nat):Bool:=!(decide ([sort]=[99]) && decide (w ≥ 0)) && !(decide ([sort] ∈ ([[99],[110],[115],[91]]:List (List Nat))) && decide (size ∈ ([[108],[98,105,103]]:List (List Nat))))
structure Fld.Good (f:Fld):Prop where
 place:∀ c ∈ f.place,isDig 10 c=true
 star:f.star=true → f.place=[]
 wid:∀ c ∈ f.wid,isDig 10 c=true
 size:f.size ∈ sizesL
 sort:f.sort ∈ sortsL
 mem:f.sort=91 → memBody f.mem ≠ [] ∧ 93 ∉ (memBody f.mem).drop 1
 ok:sortOk f.sort (pv f.wid) (sizeOf' f.size)=true
noncomputable def Fld.head (f:Fld):List Nat:=if f.star=true then [42] else if f.place=[] then [] else f.place ++ [36]
noncomputable def Fld.set (f:Fld):List Nat:=if f.sort=91 then f.mem ++ [93] else []
noncomputable def Fld.tail (f:Fld):List Nat:=f.wid ++ (f.size ++ f.sort::f.set)
theorem dig_of {P:Nat → Prop} (h:∀ c:Nat,48 ≤ c → c ≤ 57 → P c) {c:Nat} (d:isDig 10 c=true):P c:=by
 have d:=digit_hi d
 unfold digitN at d
 split at d
 ·rename_i q
  have q:=Bool.and_eq_true_iff.mp q
  exact h c (Int.ofNat_le.mp (of_decide_eq_true q.1)) (Int.ofNat_le.mp (of_decide_eq_true q.2))
 ·exfalso
  split at d
  ·rename_i q
   have q:=of_decide_eq_true (Bool.and_eq_true_iff.mp q).1
   omega
  ·split at d
   ·rename_i q
    have q:=of_decide_eq_true (Bool.and_eq_true_iff.mp q).1
    omega
   ·exact absurd d.1 (by decide)
theorem sign_drop {l r:List Nat} {k c:Nat} (h:l.drop k=c::r):signAt l k=[c]:=by unfold signAt; rw [h]; rfl
theorem drop_next {l a b:List Nat} {k:Nat} (h:l.drop k=a ++ b):l.drop (k + a.length)=b:=by rw [← List.drop_drop,h,List.drop_left]
theorem drop_next1 {l b:List Nat} {k c:Nat} (h:l.drop k=c::b):l.drop (k + 1)=b:=drop_next (a:=[c]) h
theorem drop_lt {l b:List Nat} {k c:Nat} (h:l.drop k=c::b):k < l.length:=Nat.lt_of_not_le fun w=>by rw [List.drop_eq_nil_of_le w] at h; cases h
theorem run_stop {P:Nat → Bool} {a r:List Nat} {c:Nat} (ha:∀ x ∈ a,P x=true) (hc:P c=false):(a ++ c::r).takeWhile P=a:=by
 rw [List.takeWhile_append_of_pos ha,List.takeWhile_cons,hc]
 exact List.append_nil a
theorem digits_drop {l ds r:List Nat} {k c:Nat} (h:l.drop k=ds ++ c::r) (hd:∀ x ∈ ds,isDig 10 x=true) (hc:isDig 10 c=false):readDigits l k=(pv ds,k + ds.length):=by
 unfold readDigits pv
 rw [show digs l k=ds by unfold digs; rw [h]; exact run_stop hd hc]
 by_cases hz:ds=[]
 ·rw [if_pos hz,if_pos hz,hz]; rfl
 ·rw [if_neg hz,if_neg hz]
theorem size_head {s:List Nat} (hs:s ∈ sizesL) {c:Nat} (hc:c ∈ sortsL) (x:List Nat):∃ y r,s ++ c::x=y::r ∧ isDig 10 y=false ∧ (y == 36)=false ∧ (y == 37)=false ∧ (y == 42)=false:=by
 have h:∀ s ∈ sizesL,∀ c ∈ sortsL,(isDig 10 (chr (s ++ [c]) 0) || chr (s ++ [c]) 0 == 36 || chr (s ++ [c]) 0 == 37 || chr (s ++ [c]) 0 == 42)=false:=by decide +kernel
 have h:=h s hs c hc
 rw [Bool.or_eq_false_iff,Bool.or_eq_false_iff,Bool.or_eq_false_iff] at h
 cases s with
 | nil=>exact ⟨c,x,rfl,h.1.1.1,h.1.1.2,h.1.2,h.2⟩
 | cons a s=>exact ⟨a,s ++ c::x,rfl,h.1.1.1,h.1.1.2,h.1.2,h.2⟩
theorem size_drop {l s x:List Nat} {k c:Nat} (hs:s ∈ sizesL) (hc:c ∈ sortsL) (h:l.drop k=s ++ c::x):readSize l k=(sizeOf' s,k + s.length):=by
 have t:∀ s ∈ sizesL,∀ c ∈ sortsL,rsz ((s ++ [c]).take 1) (((s ++ [c]).drop 1).take 1)=(sizeOf' s,s.length) ∧ (s=[] → decide ([c]=[108])=false):=by decide +kernel
 have t:=t s hs c hc
 have h1:signAt l (k + 1)=((s ++ c::x).drop 1).take 1:=by unfold signAt; rw [← List.drop_drop,h]
 unfold readSize
 rw [h1,show signAt l k=(s ++ c::x).take 1 by unfold signAt; rw [h],show rsz ((s ++ c::x).take 1) (((s ++ c::x).drop 1).take 1)=(sizeOf' s,s.length) from ?_]
 cases s with
 | nil =>
  have e:∀ b,rsz [c] b=rsz [c] []:=fun b=>by unfold rsz; rw [t.2 rfl]; rfl
  exact (e _).trans t.1
 | cons a s=>cases s <;> exact t.1
noncomputable def Fld.spec (f:Fld) (k:Nat):Spec:=⟨pv f.place,!f.star,pv f.wid,sizeOf' f.size,[f.sort],k + f.head.length + f.wid.length + f.size.length + 1⟩
theorem specTail_drop {l w s x:List Nat} {k c:Nat} (hw:∀ c ∈ w,isDig 10 c=true) (hs:s ∈ sizesL) (hc:c ∈ sortsL) (h:l.drop k=w ++ (s ++ c::x)) (p:Int) (b:Bool) :
  specTail l p b k=⟨p,b,pv w,sizeOf' s,[c],k + w.length + s.length + 1⟩:=by
 obtain ⟨y,r,hy,hd,_⟩:=size_head hs hc x
 have e1:=digits_drop (by rw [h,hy]) hw hd
 have h2:=drop_next h
 unfold specTail
 rw [e1,size_drop hs hc h2,sign_drop (drop_next h2)]
theorem not_sign {l ds r:List Nat} {k c d:Nat} (h:l.drop k=ds ++ c::r) (hd:∀ x ∈ ds,isDig 10 x=true) (hc:(c == d)=false) (h48:∀ c,48 ≤ c → c ≤ 57 → (c == d)=false):decide (signAt l k=[d])=false:=by
 cases ds with
 | nil=>rw [sign_drop h]; exact decide_eq_false fun w=>by cases w; rw [beq_self_eq_true] at hc; cases hc
 | cons a ds =>
  rw [sign_drop h]
  refine decide_eq_false fun w=>?_
  have:=dig_of h48 (hd a (.head _))
  rw [List.head_eq_of_cons_eq w,beq_self_eq_true] at this; cases this
theorem dig_ne {d:Nat} (h:d < 48) (c:Nat) (h1:48 ≤ c) (h2:c ≤ 57):(c == d)=false:=beq_eq_false_iff_ne.mpr fun w=>Nat.not_le.mpr h (w ▸ h1)
theorem fld_spec {f:Fld} (g:f.Good) {l rest:List Nat} {k:Nat} (h:l.drop k=f.head ++ (f.tail ++ rest)):readSpec l k=f.spec k ∧ decide (signAt l k=[37])=false:=by
 have ht:f.tail ++ rest=f.wid ++ (f.size ++ f.sort::(f.set ++ rest)):=by unfold Fld.tail; rw [List.append_assoc,List.append_assoc,List.cons_append]
 rw [ht] at h
 obtain ⟨y,r,hy,hd,y1,y2,y3⟩:=size_head g.size g.sort (f.set ++ rest)
 unfold readSpec Fld.spec
 unfold Fld.head at h ⊢
 cases hs:f.star with
 | true =>
  rw [hs,if_pos rfl] at h
  rw [if_neg (show ¬ (!decide (signAt l k=[42]))=true by rw [sign_drop h]; decide),specTail_drop g.wid g.size g.sort (drop_next1 h),g.star hs,if_pos rfl,sign_drop h]
  exact ⟨rfl,rfl⟩
 | false =>
  rw [hs,if_neg (by decide)] at h
  by_cases hp:f.place=[]
  ·rw [if_pos hp,List.nil_append] at h
   have h1:l.drop k=f.wid ++ y::r:=by rw [h,hy]
   have e1:=digits_drop h1 g.wid hd
   have e2:readPlace l k=(-1,k):=by
    unfold readPlace
    rw [e1,if_neg]
    intro w
    have w:=of_decide_eq_true (Bool.and_eq_true_iff.mp w).2
    rw [sign_drop (drop_next h1)] at w
    cases w; cases y1
   rw [if_pos (by rw [not_sign h1 g.wid y3 (dig_ne (by decide))]; rfl),e2,specTail_drop g.wid g.size g.sort h,hp,if_neg (by decide),if_pos rfl]
   exact ⟨rfl,not_sign h1 g.wid y2 (dig_ne (by decide))⟩
  ·rw [if_neg hp,List.append_assoc] at h
   have e1:=digits_drop h g.place (by decide)
   have h2:=drop_next h
   have e2:readPlace l k=(pv f.place,k + f.place.length + 1):=by
    unfold readPlace
    rw [e1,if_pos]
    rw [sign_drop h2,show decide (pv f.place ≥ 0)=true from decide_eq_true ?_]; rfl
    unfold pv
    rw [if_neg hp]
    exact (numVal_le ok10 _ g.place 0 (Int.le_refl 0)).1
   rw [if_pos (by rw [not_sign h g.place (by decide) (dig_ne (by decide))]; rfl),e2,specTail_drop g.wid g.size g.sort (drop_next1 h2),if_neg (by decide),if_neg hp,List.length_append]
   exact ⟨rfl,not_sign h g.place (by decide) (dig_ne (by decide))⟩
theorem neC_run {m r:List Nat} (h:93 ∉ m):(m ++ 93::r).takeWhile (neC 93)=m:=run_stop (fun x hx=>by unfold neC; rw [show decide ([x]=[93])=false from decide_eq_false fun w=>by cases w; exact h hx]; rfl) rfl
theorem span_drop (P:Nat → Bool) (l:List Nat) (k:Nat):spanN P l k l.length=k + ((l.drop k).takeWhile P).length:=by unfold spanN; rw [List.take_length]
theorem set_end1 {l m rest:List Nat} {k:Nat} (hm:m ≠ [] ∧ 93 ∉ m.drop 1) (h:l.drop k=m ++ 93::rest):spanN (neC 93) l (setFrom2 l k) l.length=k + m.length:=by
 obtain ⟨b,m,rfl⟩:∃ b r,m=b::r:=List.exists_cons_of_ne_nil hm.1
 have h3:l.drop (k + 1)=m ++ 93::rest:=drop_next1 h
 have hm:93 ∉ m:=hm.2
 unfold setFrom2
 rw [sign_drop h]
 by_cases h93:b=93
 ·rw [if_pos (by rw [h93]; rfl),span_drop,h3,neC_run hm,Nat.add_right_comm]; rfl
 ·rw [if_neg (ne_t (decide_eq_false fun w=>h93 (List.head_eq_of_cons_eq w))),span_drop,h,neC_run (m:=b::m) fun w=>(List.mem_cons.mp w).elim (fun e=>h93 e.symm) hm]
theorem set_end {l m rest:List Nat} {k:Nat} (hm:memBody m ≠ [] ∧ 93 ∉ (memBody m).drop 1) (h:l.drop k=m ++ 93::rest):setEnd l k=k + m.length:=by
 unfold setEnd
 cases m with
 | nil=>exact absurd rfl hm.1
 | cons a m =>
  have e:(isOther (a::m))=decide (signAt l k=[94]):=by rw [sign_drop h]; rfl
  unfold memBody at hm
  unfold setFrom1
  rw [← e]
  cases q:isOther (a::m) with
  | true =>
   rw [q,if_pos rfl] at hm
   rw [if_pos rfl,set_end1 hm (drop_next1 h),Nat.add_right_comm]; rfl
  | false =>
   rw [q,if_neg (by decide)] at hm
   rw [if_neg (by decide),set_end1 hm h]
end
noncomputable section
inductive It where
 | chr (c:Nat)
 | pct
 | fld (f:Fld)
noncomputable def It.text:It → List Nat
 | .chr c=>[c]
 | .pct=>[37,37]
 | .fld f=>37::(f.head ++ f.tail)
noncomputable def It.Good:It → Prop
 | .chr c=>c ≠ 37
 | .pct=>True
 | .fld f=>f.Good
noncomputable def textOf:List It → List Nat
 | []=>[]
 | i::r=>i.text ++ textOf r
noncomputable def Idx (placed:Bool) (pos:Nat → Nat) (m:Nat):List It → Nat → Prop
 | [],j=>j=m
 | i::r,j=>match i with
  | .fld f=>if f.star=true then Idx placed pos m r j else j < m ∧ pv f.place=(if placed=true then (pos j:Int) + 1 else -1) ∧ Idx placed pos m r (j + 1)
  | _=>Idx placed pos m r j
structure PosOk (placed:Bool) (pos:Nat → Nat) (m:Nat) (count:Int):Prop where
 hp:placed=false → ∀ j,pos j=j
 lt:∀ j,j < m → pos j < m
 inj:∀ i j,i < j → j < m → pos i ≠ pos j
 sur:∀ i,i < m → ∃ j,j < m ∧ pos j=i
 hc:count=0 ∨ count=m
 le:m ≤ 100
noncomputable def oV:Option PV → SV
 | none=>.unb
 | some v=>.val v
theorem pn_oV (o:Option PV):isPn (oV o)=none:=by cases o <;> rfl
noncomputable def dicN (pos:Nat → Nat) (j:Nat):List (Int × Int):=(List.range j).map fun i=>((pos i:Int),(1:Int))
section
variable {placed:Bool} {pos:Nat → Nat} {m:Nat} {count:Int}
theorem dic_new (P:PosOk placed pos m count) {j:Nat} (h:j < m):put (dicN pos j) (pos j) ((look (dicN pos j) (pos j)).getD 0 + 1)=dicN pos (j + 1):=by
 have n:∀ p ∈ dicN pos j,¬ p.1=(pos j:Int):=fun p hp w=>by
  obtain ⟨i,hi,rfl⟩:=List.mem_map.mp hp
  exact P.inj i j (List.mem_range.mp hi) h (Int.ofNat_inj.mp w)
 have e1:look (dicN pos j) (pos j)=none:=by
  unfold look
  rw [List.find?_eq_none.mpr fun p hp w=>n p hp (of_decide_eq_true w)]; rfl
 have e2:(dicN pos j).any (fun p=>p.1=(pos j:Int))=false:=List.any_eq_false.mpr fun p hp w=>n p hp (of_decide_eq_true w)
 unfold put
 rw [e1,e2]
 unfold dicN
 rw [List.range_succ,List.map_append]; rfl
theorem dic_all (P:PosOk placed pos m count) {i:Nat} (h:i < m):look (dicN pos m) (i:Int)=some 1:=by
 obtain ⟨j,hj,e⟩:=P.sur i h
 unfold look
 cases q:(dicN pos m).find? fun p=>p.1=(i:Int) with
 | none=>exact absurd (decide_eq_true (congrArg Int.ofNat e)) (List.find?_eq_none.mp q ((pos j:Int),1) (List.mem_map.mpr ⟨j,List.mem_range.mpr hj,rfl⟩))
 | some p =>
  obtain ⟨i,_,rfl⟩:=List.mem_map.mp (List.mem_of_find?_eq_some q)
  rfl
end
theorem lits {placed:Bool} {pos:Nat → Nat} {m j:Nat} {l:List Nat}:∀ {its:List It} {k:Nat},l.drop k=textOf its → (∀ i ∈ its,i.Good) → Idx placed pos m its j →
  ∃ its' k',spanN (neC 37) l k l.length=k' ∧ l.drop k'=textOf its' ∧ (∀ i ∈ its',i.Good) ∧ Idx placed pos m its' j ∧ its'.length ≤ its.length ∧ (∀ c r,its' ≠ .chr c::r):=by
 intro its
 induction its with
 | nil=>intro k h g x; exact ⟨[],k,by rw [span_drop,h]; rfl,h,g,x,Nat.le_refl _,nofun⟩
 | cons i r ih =>
  intro k h g x
  cases i with
  | chr c =>
   have h:l.drop k=c::textOf r:=h
   obtain ⟨its',k',e,q1,q2,q3,q4,q5⟩:=ih (drop_next1 h) (fun i hi=>g i (.tail _ hi)) x
   refine ⟨its',k',?_,q1,q2,q3,Nat.le_succ_of_le q4,q5⟩
   rw [← e,span_drop,span_drop,h,drop_next1 h,List.takeWhile_cons,show neC 37 c=true by unfold neC; rw [decide_eq_false fun w=>g _ (.head _) (List.head_eq_of_cons_eq w)]; rfl]
   exact Nat.add_right_comm k (List.takeWhile (neC 37) (textOf r)).length 1
  | pct=>exact ⟨_,k,by rw [span_drop,h]; rfl,h,g,x,Nat.le_refl _,nofun⟩
  | fld f=>exact ⟨_,k,by rw [span_drop,h]; rfl,h,g,x,Nat.le_refl _,nofun⟩
theorem fld_set {f:Fld} {l rest:List Nat} {i:Nat} (h:l.drop i=f.head ++ (f.tail ++ rest)):l.drop (f.spec i).behind=f.set ++ rest ∧ i + (f.head ++ f.tail).length=(f.spec i).behind + f.set.length:=by
 have e:l.drop i=(f.head ++ f.wid ++ f.size ++ [f.sort]) ++ (f.set ++ rest):=by rw [h]; unfold Fld.tail; simp only [List.append_assoc,List.cons_append,List.nil_append]
 have e:=drop_next e
 rw [List.length_append,List.length_append,List.length_append,← Nat.add_assoc,← Nat.add_assoc,← Nat.add_assoc] at e
 refine ⟨e,?_⟩
 unfold Fld.tail Fld.spec
 rw [List.length_append,List.length_append,List.length_append,List.length_cons]
 show _=i + f.head.length + f.wid.length + f.size.length + 1 + f.set.length
 omega
section
variable {T:List Ent} (hT:Core T)
include hT
theorem check_sort_ok (k:Nat) {f:Fld} (g:f.Good):Ph T (k + 1) 18 [.val (.str [f.sort]),.val (.int (pv f.wid)),.val (.str (sizeOf' f.size))] none=some (.ok (.none,none)):=by
 have ok:=Bool.and_eq_true_iff.mp g.ok
 have h3:(!decide ([f.sort] ∈ ([[100],[105],[117],[111],[120],[88],[98],[99],[115],[91],[110]]:List (List Nat))))=false:=by
  have:∀ c ∈ sortsL,(!decide ([c] ∈ ([[100],[105],[117],[111],[120],[88],[98],[99],[115],[91],[110]]:List (List Nat))))=false:=by decide +kernel
  exact this _ g.sort
 exact ph (hT 18 (by decide)) rfl ⟨_,⟨rfl,fun hx=>⟨rfl,fin (and_t hx)⟩,fun hx=>(and_f hx).symm⟩,(fun h=>b_no h (Bool.not_eq_true' _ |>.mp ok.1)),fun _=>⟨_,⟨rfl,rfl,fun hx=>⟨rfl,rfl,fin (and_t hx)⟩,fun hx=>(and_f hx).symm⟩,(fun h=>b_no h (Bool.not_eq_true' _ |>.mp ok.2)),
  fun _=>⟨rfl,(fun h=>b_no h h3),fun _=>rfl⟩⟩⟩
theorem check_told_ok (k:Nat) {D:List (Int × Int)} {n:Nat} (b:Bool) (hn:n ≤ LIM) (h:∀ i:Nat,i < n → look D i=some 1):Ph T (k + 1) 19 [.dval D,.val (.int n),.val (.bool b)] none=some (.ok (.none,none)) :=
 ph (hT 19 (by decide)) rfl ⟨⟨Int.le_trans (Int.neg_nonpos_of_nonneg (Int.natCast_nonneg _)) (Int.natCast_nonneg _),Int.ofNat_le.mpr (lim_line hn)⟩,for_st (f:=fun i:Nat=>.int i) (xs:=List.range n) (fun s:Option PV × Option PV=>[.dval D,.val (.int n),.val (.bool b),oV s.1,oV s.2]) (fun _=>none)
  (fun r s=>∀ i ∈ r,look D (i:Nat)=some 1)
  (fun x r s c h hc=>by
   have e:=h x (.head _)
   refine free_op (pn_oV _) (free_op (pn_oV _) ⟨fun w=>b_no w ?_,fun _=>⟨false,⟨rfl,fun w=>b_no w ?_,fun _=>rfl⟩,(fun w=>ft w),fun _=>hc ⟨some _,some _⟩ fun i hi=>h i (.tail _ hi)⟩⟩)
   ·rw [e]; rfl
   ·rw [e]; rfl)
  (fun s h=>by exact rfl) (s:=⟨none,none⟩) fun i hi=>h i (List.mem_range.mp hi)⟩
theorem chk_rest (k:Nat) {f:Fld} (g:f.Good) {l rest:List Nat} (hl:l.length ≤ LIM) {i:Nat} (h:l.drop i=f.head ++ (f.tail ++ rest)) {Q:OutE → Prop} {c n:PS} {D:List (Int × Int)} {count most index pl:Int} {st:List Nat} {kept:Bool} {x:Option PV}
  (hc:c [.val (.str l),.val (.int count),.od D,.val (.str st),.val (.int most),.val (.int index),.val (.int (spanN (neC 37) l (i + (f.head ++ f.tail).length) l.length)),.val (.int pl),.val (.bool kept),.val (.int (pv f.wid)),.val (.str (sizeOf' f.size)),.val (.str [f.sort]),oV x,.unb] none) :
  wSs (Ph T (k + 2)) Q XX NN (dropC 3 b_check_scan_1) [.val (.str l),.val (.int count),.od D,.val (.str st),.val (.int most),.val (.int index),.val (.int (f.spec i).behind),.val (.int pl),.val (.bool kept),.val (.int (pv f.wid)),.val (.str (sizeOf' f.size)),.val (.str [f.sort]),oV x,.unb] none c n c:=by
 obtain ⟨hb,hlen⟩:=fld_set h
 rw [hlen] at hc
 refine W_is (check_sort_ok hT (k + 1) g) ⟨fun w=>?_,fun w=>?_⟩
 ·have hs:f.sort=91:=List.head_eq_of_cons_eq (of_decide_eq_true w)
  have e:f.set=f.mem ++ [93]:=if_pos hs
  rw [e,List.append_assoc] at hb
  have es:=set_end (g.mem hs) hb
  have hlt:(f.spec i).behind + f.mem.length < l.length:=drop_lt (drop_next hb)
  rw [e,List.length_append] at hc
  refine W_is (set_behind_ok hT k hl _) ?_
  unfold setO
  rw [es,if_neg (ne_t (decide_eq_false (Int.not_le.mpr (Int.ofNat_lt.mpr hlt))))]
  exact W_is (place_of_ok hT (k + 1) hl 37 _) hc
 ·have hs:¬ f.sort=91:=fun q=>of_decide_eq_false w (by rw [q])
  have e:f.set=[]:=if_neg hs
  rw [e] at hc
  exact W_is (place_of_ok hT (k + 1) hl 37 _) hc
end
end
noncomputable section
noncomputable def P31:Int:=2 ^ (31:Int).toNat
theorem shl31:bop .shl (.int 1) (.int 31)=some (.int P31):=rfl
theorem p31:101 < P31 - 1:=by decide +kernel
noncomputable def wantC (placed:Bool):List Nat:=if placed=true then [36] else [37]
theorem lt_f {a b:Int} (h:b ≤ a):decide (a < b)=false:=decide_eq_false (Int.not_lt.mpr h)
theorem le_f {a b:Int} (h:b < a):decide (a ≤ b)=false:=decide_eq_false (Int.not_le.mpr h)
section
variable {T:List Ent} (hT:Core T) {placed:Bool} {pos:Nat → Nat} {m:Nat} {count:Int} (P:PosOk placed pos m count)
include hT P
theorem chk_in (k:Nat) {f:Fld} (g:f.Good) {l rest:List Nat} (hl:l.length ≤ LIM) {i:Nat} (h:l.drop i=f.head ++ (f.tail ++ rest)) {Q:OutE → Prop} {c n:PS} {j:Nat} (hj:j < m) {most pl:Int} (hpl:pl ≤ 101) {st:List Nat} {x:Option PV}
  (hc:c [.val (.str l),.val (.int count),.od (dicN pos (j + 1)),.val (.str st),.val (.int most),.val (.int (pos j + 1:Nat)),.val (.int (spanN (neC 37) l (i + (f.head ++ f.tail).length) l.length)),.val (.int pl),.val (.bool true),.val (.int (pv f.wid)),.val (.str (sizeOf' f.size)),.val (.str [f.sort]),oV x,.unb] none) :
  wSs (Ph T (k + 2)) Q XX NN (.cons (.ite (.bool false (.cons (.cmp1 .lt (.loc 5) (.cst (.int 0))) (.cons (.cmp2 .lt .le (.cst (.int 0)) (.loc 1) (.loc 5)) (.cons (.cmp1 .ge (.loc 7) (.bin .sub (.bin .shl (.cst (.int 1)) (.cst (.int 31))) (.cst (.int 1)))) .nil))))
   (.cons (.ite (.cmp1 .ge (.loc 7) (.cst (.int 0)))
    (.cons (.raise 4 .nil)
    .nil)
    .nil)
   (.cons (.raise 2 (.cons (.cst (.str [100,105,102,102,101,114,101,110,116,32,110,117,109,98,101,114,115,32,111,102,32,118,97,114,105,97,98,108,101,32,110,97,109,101,115,32,97,110,100,32,102,105,101,108,100,32,115,112,101,99,105,102,105,101,114,115])) (.cons (.cst (.str [70,73,69,76,68,86,65,82,77,73,83,77,65,84,67,72])) .nil)))
   .nil))
   .nil)
  (.cons (.dset 2 (.loc 5) (.bin .add (.dget 2 (.loc 5) (.cst (.int 0))) (.cst (.int 1))))
  (.cons (.aug 5 (.cst (.int 1)))
  .nil))) [.val (.str l),.val (.int count),.od (dicN pos j),.val (.str st),.val (.int most),.val (.int (pos j)),.val (.int (f.spec i).behind),.val (.int pl),.val (.bool true),.val (.int (pv f.wid)),.val (.str (sizeOf' f.size)),.val (.str [f.sort]),oV x,.unb] none
   (fun env p=>wSs (Ph T (k + 2)) Q XX NN (dropC 3 b_check_scan_1) env p c n c) n c:=by
 refine ⟨false,⟨rfl,fun _=>⟨false,fun w=>⟨?_,rfl⟩,fun _=>rfl,rfl,fun _=>⟨_,shl31,rfl,(fun _=>rfl),fun w=>b_no w (le_f (Int.lt_of_le_of_lt hpl p31))⟩,fun w=>ft w⟩,fun w=>b_no w (lt_f (Int.natCast_nonneg _))⟩,fun w=>ft w,fun _=>⟨?_,?_⟩⟩
 ·have h0:¬ count=0:=fun q=>absurd (of_decide_eq_true w) (by rw [q]; decide)
  rw [P.hc.resolve_left h0]
  exact le_f (Int.ofNat_lt.mpr (P.lt j hj))
 ·unfold dicN
  rw [List.length_map,List.length_range]
  exact sline (Nat.le_trans (Nat.le_of_lt hj) (Nat.le_trans P.le (by decide)))
 ·show wSs _ _ _ _ _ (_::_::.od (put (dicN pos j) (pos j) ((look (dicN pos j) (pos j)).getD 0 + 1))::_) _ _ _ _
  rw [dic_new P hj]
  exact chk_rest hT k g hl h hc
theorem chk_fld (k:Nat) {f:Fld} (g:f.Good) {l rest:List Nat} (hl:l.length ≤ LIM) {i:Nat} (h:l.drop i=f.head ++ (f.tail ++ rest)) {Q:OutE → Prop} {c n:PS} {j:Nat} {most index:Int} {st:List Nat} {x:Option PV}
  (hst:st=[] ∨ st=wantC placed) (hi:placed=false → index=j) (hx:if f.star=true then True else j < m ∧ pv f.place=(if placed=true then (pos j:Int) + 1 else -1))
  (hc:∀ y,c [.val (.str l),.val (.int count),.od (dicN pos (if f.star=true then j else j + 1)),.val (.str (if f.star=true then st else wantC placed)),.val (.int (if f.star=true then most else if placed=true then maxI most (pos j + 1) else most)),.val (.int (if f.star=true then index else pos j + 1)),.val (.int (spanN (neC 37) l (i + (f.head ++ f.tail).length) l.length)),.val (.int (pv f.place)),.val (.bool (!f.star)),.val (.int (pv f.wid)),.val (.str (sizeOf' f.size)),.val (.str [f.sort]),oV y,.unb] none) :
  wSs (Ph T (k + 2)) Q XX NN (dropC 2 b_check_scan_1) [.val (.str l),.val (.int count),.od (dicN pos j),.val (.str st),.val (.int most),.val (.int index),.val (.int (f.spec i).behind),.val (.int (pv f.place)),.val (.bool (!f.star)),.val (.int (pv f.wid)),.val (.str (sizeOf' f.size)),.val (.str [f.sort]),oV x,.unb] none c n c:=by
 cases hs:f.star with
 | true =>
  rw [hs] at hc
  exact ⟨fun w=>ft w,fun _=>chk_rest hT k g hl h (hc x)⟩
 | false =>
  rw [hs,if_neg (by decide)] at hx
  simp only [hs] at hc
  obtain ⟨hj,hp⟩:=hx
  rw [hp] at hc ⊢
  have hpj:(pos j:Int) + 1 ≤ 101:=Int.ofNat_le.mpr (Nat.succ_le_succ (Nat.le_trans (Nat.le_of_lt (P.lt j hj)) P.le))
  have hn:∀ w:List Nat,w=wantC placed → (!decide (st ∈ ([[],w]:List (List Nat))))=false:=fun w e=>by rw [e,decide_eq_true (List.mem_cons.mpr (hst.imp id fun q=>List.mem_cons.mpr (.inl q)))]; rfl
  cases placed with
  | true =>
   refine ⟨fun _=>⟨.str [36],⟨rfl,(fun w=>b_no w (lt_f (Int.le_trans (Int.natCast_nonneg _) (Int.le_of_lt (Int.lt_succ _))))),fun _=>⟨rfl,rfl⟩⟩,free_op (pn_oV _) ⟨rfl,(fun w=>b_no w (hn _ rfl)),fun _=>⟨fun _=>?_,fun w=>?_⟩⟩⟩,fun w=>tf w⟩
   ·show wSs _ _ _ _ _ (_::_::_::_::_::.val (.int ((pos j:Int) + 1 - 1))::_) _ _ _ _
    rw [Int.add_sub_cancel]
    exact chk_in hT P k g hl h (x:=some _) hj hpj (hc (some _))
   ·exact b_no (decide_eq_true (Int.le_trans (Int.natCast_nonneg _) (Int.le_of_lt (Int.lt_succ _)))) w
  | false =>
   have e:index=(pos j:Int):=by rw [P.hp rfl]; exact hi rfl
   rw [e]
   exact ⟨fun _=>⟨.str [37],⟨rfl,(fun _=>⟨rfl,rfl⟩),fun w=>tf w⟩,free_op (pn_oV _) ⟨rfl,(fun w=>b_no w (hn _ rfl)),fun _=>⟨(fun w=>ft w),fun _=>chk_in hT P k g hl h (x:=some _) hj (show (-1:Int) ≤ 101 by decide) (hc (some _))⟩⟩⟩,fun w=>tf w⟩
end
end
noncomputable section
theorem its_len (its:List It):its.length ≤ (textOf its).length:=by
 induction its with
 | nil=>exact Nat.le_refl _
 | cons i r ih =>
  show r.length + 1 ≤ (i.text ++ textOf r).length
  rw [List.length_append,Nat.add_comm]
  exact Nat.add_le_add (by cases i <;> exact Nat.succ_le_succ (Nat.zero_le _)) ih
noncomputable abbrev CkS:=List It × Nat × Nat × List Nat × Int × Int × List (Option PV)
noncomputable def xO (l:List (Option PV)) (i:Nat):SV:=oV (l.getD i none)
theorem put_ok {v:SV}:∀ {env:List SV} {i:Nat} {K:List SV → Prop},(∃ x,env[i]?=some x ∧ isPn x=none) → K (env.set i v) → putP env i v K:=by
 intro env
 induction env with
 | nil=>intro i K h _; obtain ⟨x,e,_⟩:=h; cases e
 | cons a r ih =>
  intro i K h hk
  cases i with
  | zero=>obtain ⟨x,e,q⟩:=h; cases e; exact free_op q hk
  | succ i=>exact ih h hk
section
variable {placed:Bool} {pos:Nat → Nat} {m:Nat} {count:Int}
noncomputable def mostOk (placed:Bool) (pos:Nat → Nat) (m j:Nat) (most index:Int):Prop:=(placed=false → index=j ∧ most=0) ∧ (placed=true → most ≤ m ∧ ∀ i,i < j → (pos i:Int) + 1 ≤ most)
theorem most_star {b:Bool} {j:Nat} {most index:Int} (P:PosOk placed pos m count) (hb:b=false → j < m) (h:mostOk placed pos m j most index) :
  mostOk placed pos m (if b=true then j else j + 1) (if b=true then most else if placed=true then maxI most (pos j + 1) else most) (if b=true then index else pos j + 1):=by
 cases b with
 | true=>exact h
 | false =>
  have hj:=hb rfl
  refine ⟨fun e=>⟨?_,?_⟩,fun e=>?_⟩
  ·show (pos j:Int) + 1=((j + 1:Nat):Int)
   rw [P.hp e]; rfl
  ·show (if placed=true then _ else most)=0
   rw [if_neg (ne_t e)]; exact (h.1 e).2
  ·show (if placed=true then maxI most (pos j + 1) else most) ≤ m ∧ ∀ i,i < j + 1 → (pos i:Int) + 1 ≤ (if placed=true then maxI most (pos j + 1) else most)
   rw [if_pos e]
   have hq:=h.2 e
   have hl:(pos j:Int) + 1 ≤ m:=Int.ofNat_le.mpr (P.lt j hj)
   unfold maxI
   by_cases w:(pos j:Int) + 1 > most
   ·rw [if_pos w]
    exact ⟨hl,fun i hi=>(Nat.lt_succ_iff_lt_or_eq.mp hi).elim (fun a=>Int.le_trans (hq.2 i a) (Int.le_of_lt w)) fun a=>by rw [a]; exact Int.le_refl _⟩
   ·rw [if_neg w]
    exact ⟨hq.1,fun i hi=>(Nat.lt_succ_iff_lt_or_eq.mp hi).elim (hq.2 i) fun a=>by rw [a]; exact Int.not_lt.mp w⟩
theorem most_end (P:PosOk placed pos m count) (h0:placed=true → 0 < m) {most index:Int} (h:mostOk placed pos m m most index):(most > 0 → most=m) ∧ (¬ most > 0 → index=m):=by
 cases placed with
 | false =>
  have h:=h.1 rfl
  exact ⟨fun w=>absurd h.2 (Int.ne_of_gt w),fun _=>h.1⟩
 | true =>
  have hm:=h0 rfl
  have h:=h.2 rfl
  obtain ⟨j,hj,e⟩:=P.sur (m - 1) (Nat.sub_lt hm (by decide))
  have q:=h.2 j hj
  rw [e,show (((m - 1:Nat):Int) + 1)=m from congrArg Int.ofNat (Nat.sub_add_cancel hm)] at q
  exact ⟨fun _=>Int.le_antisymm h.1 q,fun w=>absurd (Int.lt_of_lt_of_le (Int.ofNat_lt.mpr hm) q) w⟩
end
section
variable {T:List Ent} (hT:Core T) {placed:Bool} {pos:Nat → Nat} {m:Nat} {count:Int} (P:PosOk placed pos m count)
include hT P
theorem chk_end (k:Nat) {l:List Nat} {most index:Int} {st:List Nat} {s:CkS} (h1:most > 0 → most=m) (h2:¬ most > 0 → index=m) (i:Int) :
  Rest (Ph T (k + 1)) (.ok (.int m,none)) (dropC 6 c_check_scan) [.val (.str l),.val (.int count),.od (dicN pos m),.val (.str st),.val (.int most),.val (.int index),.val (.int i),xO s.2.2.2.2.2.2 0,xO s.2.2.2.2.2.2 1,xO s.2.2.2.2.2.2 2,xO s.2.2.2.2.2.2 3,xO s.2.2.2.2.2.2 4,xO s.2.2.2.2.2.2 5,.unb]:=by
 have rest:Rest (Ph T (k + 1)) (.ok (.int m,none)) (dropC 8 c_check_scan) [.val (.str l),.val (.int count),.od (dicN pos m),.val (.str st),.val (.int most),.val (.int index),.val (.int i),xO s.2.2.2.2.2.2 0,xO s.2.2.2.2.2.2 1,xO s.2.2.2.2.2.2 2,xO s.2.2.2.2.2.2 3,xO s.2.2.2.2.2.2 4,xO s.2.2.2.2.2.2 5,.val (.int m)] :=
  ⟨_,⟨rfl,fun hx=>⟨rfl,fin (and_t hx)⟩,fun hx=>(and_f hx).symm⟩,W_is (check_told_ok hT k _ (Nat.le_trans P.le (by decide)) fun i hi=>dic_all P hi) rfl⟩
 refine ⟨fun w=>⟨.int m,⟨rfl,fun a=>⟨congrArg PV.int (h1 (of_decide_eq_true a)),rfl⟩,fun a=>⟨congrArg PV.int (h2 (of_decide_eq_false a)),rfl⟩⟩,rest⟩,fun w=>?_⟩
 have e:count=m:=P.hc.resolve_left (of_decide_eq_false w)
 rw [e] at rest ⊢
 exact rest
theorem chk_step (k:Nat) {l:List Nat} (hl:l.length ≤ LIM) {Q:OutE → Prop} {c n:PS} {its:List It} {i j:Nat} {st:List Nat} {most index:Int} {xs:List (Option PV)}
  (hd:l.drop i=textOf its) (hg:∀ i ∈ its,i.Good) (hx:Idx placed pos m its j) (hn:∀ c r,its ≠ .chr c::r) (hst:st=[] ∨ st=wantC placed) (hm:mostOk placed pos m j most index)
  (hc:∀ its' i' j' st' most' index' xs',l.drop i'=textOf its' → (∀ i ∈ its',i.Good) → Idx placed pos m its' j' → (∀ c r,its' ≠ .chr c::r) → (st'=[] ∨ st'=wantC placed) → mostOk placed pos m j' most' index' → its'.length < its.length →
   c [.val (.str l),.val (.int count),.od (dicN pos j'),.val (.str st'),.val (.int most'),.val (.int index'),.val (.int (i':Nat)),xO xs' 0,xO xs' 1,xO xs' 2,xO xs' 3,xO xs' 4,xO xs' 5,.unb] none)
  (he:j=m → n [.val (.str l),.val (.int count),.od (dicN pos j),.val (.str st),.val (.int most),.val (.int index),.val (.int i),xO xs 0,xO xs 1,xO xs 2,xO xs 3,xO xs 4,xO xs 5,.unb] none) :
  wE (Ph T (k + 5)) Q q_check_scan_1 [.val (.str l),.val (.int count),.od (dicN pos j),.val (.str st),.val (.int most),.val (.int index),.val (.int i),xO xs 0,xO xs 1,xO xs 2,xO xs 3,xO xs 4,xO xs 5,.unb] none fun v p=>bP v
   (wSs (Ph T (k + 5)) Q XX NN b_check_scan_1 [.val (.str l),.val (.int count),.od (dicN pos j),.val (.str st),.val (.int most),.val (.int index),.val (.int i),xO xs 0,xO xs 1,xO xs 2,xO xs 3,xO xs 4,xO xs 5,.unb] p c n c)
   (n [.val (.str l),.val (.int count),.od (dicN pos j),.val (.str st),.val (.int most),.val (.int index),.val (.int i),xO xs 0,xO xs 1,xO xs 2,xO xs 3,xO xs 4,xO xs 5,.unb] p):=by
 cases its with
 | nil=>exact ⟨lim_line hl,fun w=>absurd (d_lt w) (Nat.not_lt.mpr (List.drop_eq_nil_iff.mp hd)),fun _=>he hx⟩
 | cons it r =>
  have hlt:i < l.length:=by cases it <;> exact drop_lt hd
  refine ⟨lim_line hl,fun w=>?_,fun w=>b_no (lt_d hlt) w⟩
  cases it with
  | chr c=>exact absurd rfl (hn c r)
  | pct =>
   have hd:l.drop i=[37,37] ++ textOf r:=hd
   obtain ⟨r',k',e,q1,q2,q3,q4,q5⟩:=lits (drop_next hd) (fun i hi=>hg i (.tail _ hi)) hx
   refine W_is (sign_at_ok hT (k + 4) hl (i + 1)) ⟨fun _=>W_is (place_of_ok hT (k + 4) hl 37 (i + 2)) ?_,fun w=>absurd (sign_drop (drop_next1 hd)) (of_decide_eq_false w)⟩
   rw [show spanN (neC 37) l (i + 2) l.length=k' from e]
   exact hc r' k' j st most index xs q1 q2 q3 q5 hst hm (Nat.lt_succ_of_le q4)
  | fld f =>
   have g:f.Good:=hg _ (.head _)
   have hd1:l.drop (i + 1)=f.head ++ (f.tail ++ textOf r):=(drop_next1 (show l.drop i=37::((f.head ++ f.tail) ++ textOf r) from hd)).trans (List.append_assoc _ _ _)
   have hs:=fld_spec g hd1
   have hb:(f.star=true → Idx placed pos m r j) ∧ (f.star=false → (j < m ∧ pv f.place=(if placed=true then (pos j:Int) + 1 else -1)) ∧ Idx placed pos m r (j + 1)):=by
    have hx:(if f.star=true then Idx placed pos m r j else j < m ∧ pv f.place=(if placed=true then (pos j:Int) + 1 else -1) ∧ Idx placed pos m r (j + 1)):=hx
    exact ⟨fun q=>by rw [if_pos q] at hx; exact hx,fun q=>by rw [if_neg (ne_t q)] at hx; exact ⟨⟨hx.1,hx.2.1⟩,hx.2.2⟩⟩
   have hlen:l.drop (i + 1 + (f.head ++ f.tail).length)=textOf r:=drop_next (hd1.trans (List.append_assoc _ _ _).symm)
   obtain ⟨r',k',e,q1,q2,q3,q4,q5⟩:=lits hlen (fun i hi=>hg i (.tail _ hi)) (show Idx placed pos m r (if f.star=true then j else j + 1) by cases q:f.star; exact (hb.2 q).2; exact hb.1 q)
   refine W_is (sign_at_ok hT (k + 4) hl (i + 1)) ⟨fun w=>b_no w hs.2,fun _=>W_is (read_spec_ok hT k hl (i:=i + 1) hlt) ?_⟩
   rw [hs.1]
   refine put_ok ⟨_,rfl,pn_oV _⟩ (put_ok ⟨_,rfl,pn_oV _⟩ (put_ok ⟨_,rfl,pn_oV _⟩ (put_ok ⟨_,rfl,pn_oV _⟩ (put_ok ⟨_,rfl,pn_oV _⟩ (chk_fld hT P (k + 3) g hl hd1 hst (fun q=>(hm.1 q).1) (x:=xs.getD 5 none) (by cases q:f.star; exact (hb.2 q).1; exact trivial) fun y=>?_)))))
   rw [e]
   exact hc r' k' _ _ _ _ [some _,some _,some _,some _,some _,y] q1 q2 q3 q5 (by cases f.star; exact .inr rfl; exact hst) (most_star P (fun q=>(hb.2 q).1.1) hm) (Nat.lt_succ_of_le q4)
theorem check_scan_ok (k:Nat) {its:List It} (hg:∀ i ∈ its,i.Good) (hx:Idx placed pos m its 0) (h0:placed=true → 0 < m) (hl:(textOf its).length ≤ LIM) :
  Ph T (k + 6) 20 [.val (.str (textOf its)),.val (.int count)] none=some (.ok (.int m,none)):=by
 have hi:=its_len its
 obtain ⟨its',k',e,q1,q2,q3,q4,q5⟩:=lits (k:=0) (List.drop_zero (l:=textOf its)) hg hx
 refine ph (hT 20 (by decide)) rfl (W_is (place_of_ok hT (k + 4) hl 37 0) ?_)
 rw [e]
 generalize textOf its=l at *
 exact while_st (fun s:CkS=>[.val (.str l),.val (.int count),.od (dicN pos s.2.2.1),.val (.str s.2.2.2.1),.val (.int s.2.2.2.2.1),.val (.int s.2.2.2.2.2.1),.val (.int s.2.1),xO s.2.2.2.2.2.2 0,xO s.2.2.2.2.2.2 1,xO s.2.2.2.2.2.2 2,xO s.2.2.2.2.2.2 3,xO s.2.2.2.2.2.2 4,xO s.2.2.2.2.2.2 5,.unb])
  (fun s=>l.drop s.2.1=textOf s.1 ∧ (∀ i ∈ s.1,i.Good) ∧ Idx placed pos m s.1 s.2.2.1 ∧ (∀ c r,s.1 ≠ .chr c::r) ∧ (s.2.2.2.1=[] ∨ s.2.2.2.1=wantC placed) ∧ mostOk placed pos m s.2.2.1 s.2.2.2.2.1 s.2.2.2.2.2.1) (fun s=>s.1.length)
  (fun s c h hc=>chk_step hT P k hl h.1 h.2.1 h.2.2.1 h.2.2.2.1 h.2.2.2.2.1 h.2.2.2.2.2 (fun a b d e f g xs h1 h2 h3 h4 h5 h6=>hc ⟨a,b,d,e,f,g,xs⟩ ⟨h1,h2,h3,h4,h5,h6⟩) fun w=>by
   have h6:=h.2.2.2.2.2
   rw [w] at h6 ⊢
   have he:=most_end P h0 h6
   exact chk_end hT P (k + 4) he.1 he.2 _) (s:=⟨its',k',0,[],0,0,[]⟩) ⟨q1,q2,q3,q5,.inl rfl,fun _=>⟨rfl,rfl⟩,fun _=>⟨Int.natCast_nonneg _,fun i hi=>absurd hi (Nat.not_lt_zero i)⟩⟩ (Nat.le_trans q4 (Nat.le_trans hi hl))
end
end
noncomputable section
inductive IOut where
 | err (e:Exn)
 | stop (short:Bool)
 | go (v:List (List Nat)) (used:Nat)
inductive End where
 | fin (many:Nat) (short:Bool)
 | err (e:Exn)
noncomputable def litR (c:Nat) (r:List Nat):IOut:=if r=[] then .stop true else if decide ([chr r 0]=[c])=true then .go [] 1 else .stop false
noncomputable def skipN (s:Nat) (r:List Nat):Nat:=if (!decide ([s] ∈ ([[99],[91]]:List (List Nat))))=true then (r.takeWhile isBlank).length else 0
noncomputable def cutW (w:Int) (r:List Nat):List Nat:=if w ≤ 0 then r else r.take w.toNat
noncomputable def memF (f:Fld):List Nat:=if f.sort=91 then f.mem else []
noncomputable def szF (f:Fld):List Nat:=if f.star=true then [] else sizeOf' f.size
noncomputable def keepV (f:Fld) (v:List Nat):List (List Nat):=if f.star=true then [] else [v]
noncomputable def fieldO (f:Fld) (sk:Nat) (r:List Nat) (x:WR):IOut:=match x with
 | .error e=>.err e
 | .ok y=>match y.1 with
  | none=>.stop (!decide ([f.sort] ∈ ([[115],[91]]:List (List Nat))) && decide ((y.2:Int)=if pv f.wid ≤ 0 then (r.length:Int) else pv f.wid))
  | some v=>.go (keepV f v) (sk + y.2)
noncomputable def fieldR (f:Fld) (sk:Nat) (r:List Nat):IOut:=if r=[] then .stop true else fieldO f sk r (readField (cutW (pv f.wid) r) [f.sort] (memF f) (szF f))
noncomputable def itR (it:It) (here:Nat) (r:List Nat):IOut:=match it with
 | .chr c=>if isBlank c=true then .go [] (r.takeWhile isBlank).length else litR c r
 | .pct=>litR 37 r
 | .fld f=>if decide ([f.sort]=[110])=true then .go (keepV f (digits here)) 0 else fieldR f (skipN f.sort r) (r.drop (skipN f.sort r))
noncomputable def It.cnt:It → Nat
 | .fld _=>1
 | _=>0
noncomputable def rdO (many:Nat) (k:List (List Nat) → Nat → List (List Nat) × End) (o:IOut):List (List Nat) × End:=match o with
 | .err e=>([],.err e)
 | .stop sh=>([],.fin many sh)
 | .go v u=>k v u
noncomputable def rd:List It → Nat → Nat → List Nat → List (List Nat) × End
 | [],_,many,_=>([],.fin many false)
 | it::its,here,many,r=>rdO many (fun v u=>let x:=rd its (here + u) (many + it.cnt) (r.drop u); (v ++ x.1,x.2)) (itR it here r)
structure LayOk (pos:Nat → Nat) (m:Nat) (F:List (List Nat) → List (Option (List Nat))):Prop where
 len:∀ ws,ws.length ≤ m → (F ws).length=m
 set:∀ ws v,ws.length < m → (F ws).set (pos ws.length) (some v)=F (ws ++ [v])
 nil:F []=List.replicate m none
noncomputable abbrev vE (t l:List Nat) (count:Int) (vs:List (Option (List Nat))) (a h i:Int) (many:Nat) (sh:Bool) (xs:List (Option PV)):List SV :=
 [.val (.str t),.val (.str l),.val (.int count),.own (vs.map optPV),.val (.int a),.val (.int h),.val (.int i),.val (.int many),.val (.bool sh),xO xs 0,xO xs 1,xO xs 2,xO xs 3,xO xs 4,xO xs 5,xO xs 6,xO xs 7,xO xs 8,xO xs 9]
theorem end_nat {w:Int} {h len:Nat} (hh:h < len):∃ e:Nat,minI (if w ≤ 0 then (len:Int) else h + w) len=e ∧ h < e ∧ e ≤ len ∧ ∀ t:List Nat,t.length=len → win t h e=cutW w (t.drop h):=by
 unfold cutW minI
 by_cases q:w ≤ 0
 ·exact ⟨len,by rw [if_pos q]; exact if_neg (Int.lt_irrefl _),hh,Nat.le_refl _,fun t e=>by rw [if_pos q,← e,win_all]⟩
 ·obtain ⟨n,rfl⟩:∃ n:Nat,w=n:=⟨w.toNat,(Int.toNat_of_nonneg (Int.le_of_lt (Int.not_le.mp q))).symm⟩
  rw [if_neg q]
  by_cases z:(len:Int) < h + n
  ·refine ⟨len,if_pos z,hh,Nat.le_refl _,fun t e=>?_⟩
   rw [if_neg q,← e,win_all,List.take_of_length_le]
   rw [List.length_drop,e]
   exact Nat.sub_le_iff_le_add'.mpr (Nat.le_of_lt (Int.ofNat_lt.mp z))
  ·refine ⟨h + n,if_neg z,Nat.lt_add_of_pos_right (Int.ofNat_lt.mp (Int.not_le.mp q)),Int.ofNat_le.mp (Int.not_lt.mp z),fun t e=>?_⟩
   rw [if_neg q]
   unfold win
   rw [List.drop_take,Nat.add_sub_cancel_left]; rfl
theorem readTail_le {w sort size:List Nat} {g n:Nat} {b:Bool} {v:Option (List Nat)} (h:readTail w g b sort size=.ok (v,n)):n ≤ g + w.length:=by
 have hb:=(readBase_ok w sort).2
 have hd:(readBase w sort).2 + (digsW w (readBase w sort)).length ≤ w.length:=Nat.le_trans (Nat.add_le_add_left (run_len _ _) _) (by rw [List.length_drop,Nat.add_sub_cancel' hb]; exact Nat.le_refl _)
 unfold readTail at h
 split at h
 ·cases h; exact Nat.add_le_add_left hb g
 ·revert h
  cases fitO _ _ _ with
  | error e=>intro h; cases h
  | ok x=>intro h; cases h; rw [Nat.add_assoc]; exact Nat.add_le_add_left hd g
theorem readRun_le {w r:List Nat} {n:Nat} {v:Option (List Nat)} (hr:r.length ≤ w.length) (h:readRun w r=.ok (v,n)):n ≤ w.length:=by
 unfold readRun at h
 split at h
 ·cases h; exact Nat.zero_le _
 ·cases h; exact hr
theorem readField_le {w sort mem size:List Nat} {v:Option (List Nat)} {n:Nat} (hw:0 < w.length) (h:readField w sort mem size=.ok (v,n)):n ≤ w.length:=by
 unfold readField at h
 split at h
 ·cases h; exact hw
 ·split at h
  ·unfold readWhole at h
   split at h
   ·have:=readTail_le h
    rw [List.length_drop,Nat.add_sub_cancel' hw] at this; exact this
   ·have:=readTail_le h
    rw [Nat.zero_add] at this; exact this
  ·split at h
   ·exact readRun_le (run_len _ _) h
   ·exact readRun_le (run_len _ _) h
theorem cut_len {w:Int} {r:List Nat} (h:r ≠ []):0 < (cutW w r).length ∧ (cutW w r).length ≤ r.length:=by
 have h0:=List.length_pos_iff.mpr h
 unfold cutW
 by_cases q:w ≤ 0
 ·rw [if_pos q]; exact ⟨h0,Nat.le_refl _⟩
 ·rw [if_neg q,List.length_take]
  exact ⟨Nat.lt_min.mpr ⟨Int.lt_toNat.mpr (Int.not_le.mp q),h0⟩,Nat.min_le_right _ _⟩
theorem fld_go {f:Fld} {h u:Nat} {r:List Nat} {v:List (List Nat)} (e:itR (.fld f) h r=.go v u):(∃ w,v=keepV f w) ∧ u ≤ r.length:=by
 have e:(if _ then _ else fieldR f (skipN f.sort r) (r.drop (skipN f.sort r)))=IOut.go v u:=e
 split at e
 ·cases e; exact ⟨⟨_,rfl⟩,Nat.zero_le _⟩
 ·unfold fieldR at e
  split at e
  ·cases e
  ·rename_i hne
   have hc:=cut_len (w:=pv f.wid) hne
   have hs:skipN f.sort r ≤ r.length:=ite_ok (P:=fun n:Nat=>n ≤ r.length) (fun _=>run_len _ _) (Nat.zero_le _)
   rw [List.length_drop] at hc
   revert e
   cases hr:readField (cutW (pv f.wid) (r.drop (skipN f.sort r))) [f.sort] (memF f) (szF f) with
   | error e=>intro e; cases e
   | ok x =>
    obtain ⟨y,n⟩:=x
    cases y with
    | none=>intro e; cases e
    | some y=>intro e; cases e; exact ⟨⟨_,rfl⟩,Nat.le_trans (Nat.add_le_add_left (Nat.le_trans (readField_le hc.1 hr) hc.2) _) (Nat.le_of_eq (Nat.add_sub_cancel' hs))⟩
theorem lit_go {c u:Nat} {r:List Nat} {v:List (List Nat)} (e:litR c r=.go v u):v=[] ∧ u=1 ∧ r ≠ [] ∧ chr r 0=c:=by
 unfold litR at e
 split at e
 ·cases e
 ·split at e
  ·cases e; exact ⟨rfl,rfl,‹_›,List.head_eq_of_cons_eq (of_decide_eq_true ‹_›)⟩
  ·cases e
theorem itR_le {it:It} {h u:Nat} {r:List Nat} {v:List (List Nat)} (e:itR it h r=.go v u):u ≤ r.length:=by
 have lit:∀ {c:Nat},litR c r=.go v u → u ≤ r.length:=fun e=>by rw [(lit_go e).2.1]; exact List.length_pos_iff.mpr (lit_go e).2.2.1
 cases it with
 | chr c =>
  have e:(if isBlank c=true then _ else _)=IOut.go v u:=e
  split at e
  ·cases e; exact run_len _ _
  ·exact lit e
 | pct=>exact lit e
 | fld f=>exact (fld_go e).2
section
variable {T:List Ent} (hT:Core T) {pos:Nat → Nat} {m:Nat} {F:List (List Nat) → List (Option (List Nat))} (L:LayOk pos m F) (hm:m ≤ LIM)
include L hm
theorem scan_keep (k:Nat) {Q:OutE → Prop} {c n:PS} {t l:List Nat} {count a h i:Int} {many:Nat} {ws:List (List Nat)} {f:Fld} (hk:f.star=false → ws.length < m ∧ pos ws.length < m ∧ i=pos ws.length) {v:List Nat} {x0 x1 x3 x4 x5 x6 x7 x9:Option PV}
  (hc:c (vE t l count (F (ws ++ keepV f v)) a h (if f.star=true then i else i + 1) (many + 1) false [x0,x1,some (.bool (!f.star)),x3,x4,x5,x6,x7,some (.str v),x9]) none) :
  wSs (Ph T k) Q XX NN (dropC 9 b_scan_text_1) (vE t l count (F ws) a h i many false [x0,x1,some (.bool (!f.star)),x3,x4,x5,x6,x7,some (.str v),x9]) none c n c:=by
 unfold keepV at hc
 cases q:f.star with
 | true=>rw [q,if_pos rfl,if_pos rfl,List.append_nil] at hc; exact ⟨fun w=>ft w,fun _=>hc⟩
 | false =>
  rw [q,if_neg (by decide),if_neg (by decide)] at hc
  obtain ⟨h1,h2,rfl⟩:=hk q
  have e:((F ws).map optPV).set (Int.toNat (pos ws.length:Int)) (.str v)=(F (ws ++ [v])).map optPV:=by rw [← L.set ws v h1,List.map_set]; rfl
  rw [vE,← e] at hc
  exact ⟨fun _=>⟨⟨Int.natCast_nonneg _,by rw [List.length_map,L.len ws (Nat.le_of_lt h1)]; exact Int.ofNat_lt.mpr h2,Int.ofNat_lt.mpr (lim_62 (Nat.le_trans (Nat.le_of_lt h2) hm))⟩,hc⟩,fun w=>tf w⟩
end
end
end Mp
end
section
open PySem PyProof.Rows
set_option Elab.async false
set_option maxRecDepth 100000
set_option maxHeartbeats 2000000
set_option genSizeOf false
set_option genInjectivity false
set_option linter.unusedVariables false
namespace Mp
noncomputable section
noncomputable def elseOf:CSs → CSs
 | .cons s r=>match s with
  | .ite _ _ b=>b
  | _=>r
 | c=>c
theorem last_eq {w:Int} {h u len:Nat} (hh:h < len):decide (((h + u:Nat):Int)=if w ≤ 0 then (len:Int) else h + w)=decide ((u:Int)=if w ≤ 0 then ((len - h:Nat):Int) else w):=by
 refine decide_eq_decide.mpr ?_
 by_cases q:w ≤ 0
 ·rw [if_pos q,if_pos q,Int.ofNat_inj,Int.ofNat_inj]
  exact ⟨fun e=>by rw [← e,Nat.add_sub_cancel_left],fun e=>by rw [e,Nat.add_sub_cancel' (Nat.le_of_lt hh)]⟩
 ·rw [if_neg q,if_neg q]
  show (h:Int) + u=h + w ↔ _
  exact Int.add_right_inj _
section
variable {T:List Ent} (hT:Core T) {pos:Nat → Nat} {m:Nat} {F:List (List Nat) → List (Option (List Nat))} (L:LayOk pos m F) (hm:m ≤ LIM)
include hT L hm
theorem scan_take (k:Nat) {Q:OutE → Prop} {c n:PS} {t l:List Nat} (ht:t.length ≤ 400) (hu:∀ c ∈ t,c < 1114112) {count a i:Int} {h sk:Nat} {many:Nat} {ws:List (List Nat)} {f:Fld} (hk:f.star=false → ws.length < m ∧ pos ws.length < m ∧ i=pos ws.length)
  (hml:3 * (memF f).length ≤ LIM) (hmem:[f.sort]=[91] → memOk (memF f)) {x0 x1 x7 x8 x9:Option PV}
  (hgo:∀ v u xs,fieldR f sk (t.drop (h + sk))=.go v u → c (vE t l count (F (ws ++ v)) a (h + u:Nat) (if f.star=true then i else i + 1) (many + 1) false xs) none)
  (hst:∀ sh (b:Int) xs,fieldR f sk (t.drop (h + sk))=.stop sh → n (vE t l count (F ws) a b i many sh xs) none) (her:∀ e,fieldR f sk (t.drop (h + sk))=.err e → Q (.error e)) :
  wSs (Ph T (k + 6)) Q XX NN (dropC 1 (elseOf (dropC 8 b_scan_text_1))) (vE t l count (F ws) a (h + sk:Nat) i many false [x0,x1,some (.bool (!f.star)),some (.int (pv f.wid)),some (.str (sizeOf' f.size)),some (.str [f.sort]),some (.str (memF f)),x7,x8,x9]) none
   (fun env p=>wSs (Ph T (k + 6)) Q XX NN (dropC 9 b_scan_text_1) env p c n c) n c:=by
 have hL:t.length ≤ LIM:=Nat.le_trans ht (by decide)
 refine ⟨lim_line hL,fun w=>?_,fun w=>?_⟩
 ·have w:decide (((h + sk:Nat):Int) ≥ t.length)=true:=w
  have e:fieldR f sk (t.drop (h + sk))=.stop true:=if_pos (List.drop_eq_nil_of_le (Int.ofNat_le.mp (of_decide_eq_true w)))
  show n (vE t l count (F ws) a (h + sk:Nat) i many (decide (((h + sk:Nat):Int) ≥ t.length)) _) none
  rw [w]
  exact hst true _ _ e
 ·have w:decide (((h + sk:Nat):Int) ≥ t.length)=false:=w
  have hlt:h + sk < t.length:=Int.ofNat_lt.mp (Int.not_le.mp (of_decide_eq_false w))
  show wSs _ _ _ _ _ (vE t l count (F ws) a (h + sk:Nat) i many (decide (((h + sk:Nat):Int) ≥ t.length)) _) _ _ _ _
  rw [w]
  have hne:t.drop (h + sk) ≠ []:=fun q=>Nat.not_le.mpr hlt (List.drop_eq_nil_iff.mp q)
  have eR:fieldR f sk (t.drop (h + sk))=_:=if_neg hne
  obtain ⟨e,e1,e2,e3,e4⟩:=end_nat (w:=pv f.wid) hlt
  rw [← e4 t rfl] at eR
  rw [eR] at hgo hst her
  refine ⟨.int (if pv f.wid ≤ 0 then (t.length:Int) else (h + sk:Nat) + pv f.wid),⟨rfl,fun a=>⟨lim_line hL,by rw [if_pos (of_decide_eq_true a)],rfl⟩,fun a=>⟨by rw [if_neg (of_decide_eq_false a)],rfl⟩⟩,put_ok ⟨_,rfl,pn_oV _⟩ ⟨lim_line hL,.str (szF f),⟨rfl,?_,?_⟩,?_⟩⟩
  ·intro a; unfold szF; rw [if_neg (ne_t (Bool.not_eq_true' _ |>.mp a))]; exact ⟨rfl,rfl⟩
  ·intro a; unfold szF; rw [if_pos (nn a)]; exact ⟨rfl,rfl⟩
  ·have rf:=read_field_ok hT (k + 1) (m:=memF f) ht hml hu e2 e3 (szF f) hmem
   rw [← e1] at rf
   refine W_is rf ?_
   cases hr:readField (win t (h + sk) e) [f.sort] (memF f) (szF f) with
   | error x=>rw [hr] at her; exact her x rfl
   | ok y =>
    obtain ⟨v,u⟩:=y
    rw [hr] at hgo hst
    refine put_ok ⟨_,rfl,pn_oV _⟩ ?_
    cases v with
    | none =>
     refine ⟨fun _=>⟨!decide ([f.sort] ∈ ([[115],[91]]:List (List Nat))) && decide (((h + sk + u:Nat):Int)=if pv f.wid ≤ 0 then (t.length:Int) else (h + sk:Nat) + pv f.wid),⟨rfl,rfl,fun hx=>⟨rfl,fin (and_t hx)⟩,fun hx=>(and_f hx).symm⟩,?_⟩,fun w=>tf w⟩
     have:=hst _ (h + sk + u:Nat) [x0,x1,some (.bool (!f.star)),some (.int (pv f.wid)),some (.str (sizeOf' f.size)),some (.str [f.sort]),some (.str (memF f)),x7,some .none,some (.int (if pv f.wid ≤ 0 then (t.length:Int) else (h + sk:Nat) + pv f.wid))] rfl
     rw [List.length_drop,← last_eq hlt] at this
     exact this
    | some v =>
     refine ⟨fun w=>ft w,fun _=>scan_keep L hm (k + 6) (t:=t) (l:=l) (count:=count) (a:=a) (h:=(h + sk + u:Nat)) (many:=many) (ws:=ws) (f:=f) (v:=v) (x0:=x0) (x1:=x1) (x3:=some (.int (pv f.wid))) (x4:=some (.str (sizeOf' f.size))) (x5:=some (.str [f.sort])) (x6:=some (.str (memF f))) (x7:=x7) (x9:=some (.int (if pv f.wid ≤ 0 then (t.length:Int) else (h + sk:Nat) + pv f.wid))) hk ?_⟩
     have:=hgo (keepV f v) (sk + u) [x0,x1,some (.bool (!f.star)),some (.int (pv f.wid)),some (.str (sizeOf' f.size)),some (.str [f.sort]),some (.str (memF f)),x7,some (.str v),some (.int (if pv f.wid ≤ 0 then (t.length:Int) else (h + sk:Nat) + pv f.wid))] rfl
     rw [← Nat.add_assoc] at this
     exact this
end
end
end Mp
end
section
open PySem PyProof.Rows
set_option Elab.async false
set_option maxRecDepth 100000
set_option maxHeartbeats 400000
set_option genSizeOf false
set_option genInjectivity false
set_option linter.unusedVariables false
namespace Mp
noncomputable section
section
variable {T:List Ent} (hT:Core T) {pos:Nat → Nat} {m:Nat} {F:List (List Nat) → List (Option (List Nat))} (L:LayOk pos m F) (hm:m ≤ LIM)
include hT L hm
omit hT L hm in
theorem fld_lt {f:Fld} {l rest:List Nat} {i:Nat} (h:l.drop i=f.head ++ (f.tail ++ rest)):i < l.length:=Nat.lt_of_not_le fun w=>by
 rw [List.drop_eq_nil_of_le w] at h
 exact nomatch (List.append_eq_nil_iff.mp (List.append_eq_nil_iff.mp (List.append_eq_nil_iff.mp (List.append_eq_nil_iff.mp h.symm).2).1).2).2
omit hT L hm in
theorem nil_ok {Φ:Fn} {Q:OutE → Prop} {env:List SV} {p:Option Int} {n kb kc:PS} (h:n env p):wSs Φ Q XX NN .nil env p n kb kc:=h
theorem scan_read (k:Nat) {Q:OutE → Prop} {c n:PS} {t l:List Nat} (ht:t.length ≤ 400) (hu:∀ c ∈ t,c < 1114112) {count a i:Int} {h:Nat} (hh:h ≤ t.length) {many:Nat} {ws:List (List Nat)} {f:Fld} (hk:f.star=false → ws.length < m ∧ pos ws.length < m ∧ i=pos ws.length)
  (hml:3 * (memF f).length ≤ LIM) (hmem:[f.sort]=[91] → memOk (memF f)) {x0 x1 x7 x8 x9:Option PV}
  (hgo:∀ v u xs,itR (.fld f) h (t.drop h)=.go v u → c (vE t l count (F (ws ++ v)) a (h + u:Nat) (if f.star=true then i else i + 1) (many + 1) false xs) none)
  (hst:∀ sh (b:Int) xs,itR (.fld f) h (t.drop h)=.stop sh → n (vE t l count (F ws) a b i many sh xs) none) (her:∀ e,itR (.fld f) h (t.drop h)=.err e → Q (.error e)) :
  wSs (Ph T (k + 6)) Q XX NN (dropC 8 b_scan_text_1) (vE t l count (F ws) a h i many false [x0,x1,some (.bool (!f.star)),some (.int (pv f.wid)),some (.str (sizeOf' f.size)),some (.str [f.sort]),some (.str (memF f)),x7,x8,x9]) none c n c:=by
 have hL:t.length ≤ LIM:=Nat.le_trans ht (by decide)
 have hf:decide ([f.sort]=[110])=false → ∀ sk,skipN f.sort (t.drop h)=sk → itR (.fld f) h (t.drop h)=fieldR f sk (t.drop (h + sk)):=fun w sk e=>(if_neg (ne_t w)).trans (by rw [e,List.drop_drop])
 have take:=fun sk (e:itR (.fld f) h (t.drop h)=fieldR f sk (t.drop (h + sk)))=>scan_take hT L hm k (Q:=Q) (c:=c) (n:=n) (l:=l) ht hu (count:=count) (a:=a) (i:=i) (h:=h) (sk:=sk) (many:=many) hk hml hmem (x0:=x0) (x1:=x1) (x7:=x7) (x8:=x8) (x9:=x9) (fun v u xs w=>hgo v u xs (e.trans w)) (fun sh b xs w=>hst sh b xs (e.trans w)) fun x w=>her x (e.trans w)
 refine ⟨fun w=>⟨_,str_ok (Nat.lt_of_le_of_lt (Nat.le_trans hh ht) (Nat.lt_trans (by decide) b_big.2)),put_ok ⟨_,rfl,pn_oV _⟩ ?_⟩,fun w=>⟨rfl,fun w2=>W_is (skip_blanks_ok hT (k + 4) hL h) ?_,fun w2=>?_⟩⟩
 ·exact scan_keep L hm (k + 6) (t:=t) (l:=l) (count:=count) (a:=a) (h:=h) (many:=many) (v:=digits h) (x0:=x0) (x1:=x1) (x3:=some (.int (pv f.wid))) (x4:=some (.str (sizeOf' f.size))) (x5:=some (.str [f.sort])) (x6:=some (.str (memF f))) (x7:=x7) (x9:=x9) hk (hgo _ 0 _ (if_pos w))
 ·rw [span_drop]
  exact take _ (hf w _ (if_pos w2))
 ·exact take 0 (hf w 0 (if_neg (ne_t w2)))
theorem scan_fld {placed:Bool} {count:Int} (P:PosOk placed pos m count) (k:Nat) {Q:OutE → Prop} {c n:PS} {t l:List Nat} (ht:t.length ≤ 400) (hu:∀ c ∈ t,c < 1114112) (hl:l.length ≤ LIM) {f:Fld} (g:f.Good) {rest:List Nat} {i:Nat} (h:l.drop i=f.head ++ (f.tail ++ rest)) {index:Int} {here:Nat} (hh:here ≤ t.length) {many:Nat} {ws:List (List Nat)}
  (hi:placed=false → index=ws.length) (hk:f.star=false → ws.length < m ∧ pv f.place=(if placed=true then (pos ws.length:Int) + 1 else -1))
  (hml:3 * (memF f).length ≤ LIM) {xs:List (Option PV)}
  (hgo:∀ v u xs (i':Int),itR (.fld f) here (t.drop here)=.go v u → (placed=false → i'=((ws ++ v).length:Nat)) → c (vE t l count (F (ws ++ v)) (i + (f.head ++ f.tail).length:Nat) (here + u:Nat) i' (many + 1) false xs) none)
  (hst:∀ sh (a b i':Int) xs,itR (.fld f) here (t.drop here)=.stop sh → n (vE t l count (F ws) a b i' many sh xs) none) (her:∀ e,itR (.fld f) here (t.drop here)=.err e → Q (.error e)) :
  wSs (Ph T (k + 6)) Q XX NN (dropC 4 b_scan_text_1) (vE t l count (F ws) i here index many false xs) none c n c:=by
 obtain ⟨hb,hlen⟩:=fld_set h
 have hs:=(fld_spec g h).1
 have keep:∀ v u,itR (.fld f) here (t.drop here)=.go v u → (ws ++ v).length=if f.star=true then ws.length else ws.length + 1:=fun v u e=>by
  obtain ⟨w,rfl⟩:=(fld_go e).1
  unfold keepV
  rw [List.length_append]
  cases f.star <;> rfl
 have rest6:∀ i':Int,(f.star=true → i'=index) → (f.star=false → i'=pos ws.length) → wSs (Ph T (k + 6)) Q XX NN (dropC 6 b_scan_text_1) (vE t l count (F ws) (f.spec i).behind here i' many false [xs.getD 0 none,some (.int (pv f.place)),some (.bool (!f.star)),some (.int (pv f.wid)),some (.str (sizeOf' f.size)),some (.str [f.sort]),xs.getD 6 none,xs.getD 7 none,xs.getD 8 none,xs.getD 9 none]) none c n c:=fun i' h1 h2=>by
  have hi':placed=false → (if f.star=true then i' else i' + 1)=((if f.star=true then ws.length else ws.length + 1:Nat):Int):=fun e=>by
   cases q:f.star with
   | true=>exact (h1 q).trans (hi e)
   | false=>rw [h2 q,P.hp e]; rfl
  have read:=fun (a:Nat) (x7:Option PV) (ea:a=i + (f.head ++ f.tail).length) (hmem:[f.sort]=[91] → memOk (memF f))=>scan_read hT L hm k (Q:=Q) (c:=c) (n:=n) (l:=l) ht hu (count:=count) (a:=a) (i:=i') hh (many:=many) (ws:=ws) (f:=f) (fun q=>⟨(hk q).1,P.lt _ (hk q).1,h2 q⟩) hml hmem (x0:=xs.getD 0 none) (x1:=some (.int (pv f.place))) (x7:=x7) (x8:=xs.getD 8 none) (x9:=xs.getD 9 none)
   (fun v u xs w=>by rw [ea]; exact hgo v u xs _ w fun e=>(hi' e).trans (congrArg _ (keep v u w).symm)) (fun sh b xs w=>hst sh _ b _ xs w) her
  refine put_ok ⟨_,rfl,pn_oV _⟩ ⟨fun w=>?_,fun w=>?_⟩
  ·have hs:f.sort=91:=List.head_eq_of_cons_eq (of_decide_eq_true w)
   have e1:f.set=f.mem ++ [93]:=if_pos hs
   have e2:memF f=f.mem:=if_pos hs
   rw [e1,List.append_assoc] at hb
   have es:=set_end (g.mem hs) hb
   have hlt:(f.spec i).behind + f.mem.length < l.length:=drop_lt (drop_next hb)
   refine W_is (set_behind_ok hT (k + 4) hl _) ?_
   unfold setO
   rw [es,if_neg (ne_t (decide_eq_false (Int.not_le.mpr (Int.ofNat_lt.mpr hlt))))]
   refine put_ok ⟨_,rfl,pn_oV _⟩ ⟨lim_line hl,?_⟩
   have ep:pslice l (some ((f.spec i).behind:Int)) (some (((f.spec i).behind + f.mem.length + 1:Nat) - 1:Int))=memF f:=by
    rw [show (((f.spec i).behind + f.mem.length + 1:Nat) - 1:Int)=((f.spec i).behind + f.mem.length:Nat) from Int.add_sub_cancel (((f.spec i).behind + f.mem.length:Nat):Int) 1,pslice_nat (Nat.le_trans (Nat.le_add_right _ _) (Nat.le_of_lt hlt)) (Nat.le_of_lt hlt),hb,Nat.add_sub_cancel_left,List.take_left,e2]
   rw [ep]
   exact read _ (some _) (by rw [hlen,e1,List.length_append]; rfl) fun _=>by rw [e2]; exact ⟨fun z=>(g.mem hs).1 (by rw [z]; rfl),(g.mem hs).1⟩
  ·have hs:¬ f.sort=91:=fun q=>of_decide_eq_false w (by rw [q])
   have e1:f.set=[]:=if_neg hs
   have e2:memF f=[]:=if_neg hs
   have r:=read (f.spec i).behind (xs.getD 7 none) (by rw [hlen,e1]; rfl) fun z=>absurd (List.head_eq_of_cons_eq z) hs
   rw [e2] at r
   exact r
 refine W_is (read_spec_ok hT (k + 1) hl (i:=i) (Nat.le_of_lt (fld_lt h))) ?_
 rw [hs]
 refine put_ok ⟨_,rfl,pn_oV _⟩ (put_ok ⟨_,rfl,pn_oV _⟩ (put_ok ⟨_,rfl,pn_oV _⟩ (put_ok ⟨_,rfl,pn_oV _⟩ (put_ok ⟨_,rfl,pn_oV _⟩ (put_ok ⟨_,rfl,rfl⟩ ?_)))))
 cases q:f.star with
 | true =>
  have e:pv f.place=-1:=by rw [g.star q]; rfl
  rw [q,e] at rest6
  show wSs _ _ _ _ _ (vE t l count (F ws) (f.spec i).behind here index many false [xs.getD 0 none,some (.int (pv f.place)),some (.bool (!f.star)),some (.int (pv f.wid)),some (.str (sizeOf' f.size)),some (.str [f.sort]),xs.getD 6 none,xs.getD 7 none,xs.getD 8 none,xs.getD 9 none]) _ _ _ _
  rw [q,e]
  exact ⟨fun w=>ft w,fun _=>nil_ok (rest6 index (fun _=>rfl) fun w=>tf w)⟩
 | false =>
  have e:=(hk q).2
  rw [q,e] at rest6
  show wSs _ _ _ _ _ (vE t l count (F ws) (f.spec i).behind here index many false [xs.getD 0 none,some (.int (pv f.place)),some (.bool (!f.star)),some (.int (pv f.wid)),some (.str (sizeOf' f.size)),some (.str [f.sort]),xs.getD 6 none,xs.getD 7 none,xs.getD 8 none,xs.getD 9 none]) _ _ _ _
  rw [q,e]
  cases placed with
  | true=>exact ⟨fun _=>put_ok (i:=6) ⟨_,rfl,rfl⟩ (nil_ok (rest6 _ (fun w=>ft w) fun _=>Int.add_sub_cancel _ 1)),fun w=>b_no (decide_eq_true (Int.lt_add_one_of_le (Int.natCast_nonneg _))) w⟩
  | false=>exact ⟨fun w=>ft w,fun _=>nil_ok (rest6 index (fun w=>ft w) fun _=>by rw [P.hp rfl]; exact hi rfl)⟩
end
end
noncomputable section
theorem rd_go {it:It} {its:List It} {here many u:Nat} {r:List Nat} {ws v:List (List Nat)} {R:List (List Nat) × End} (e:itR it here r=.go v u) (h:(ws ++ (rd (it::its) here many r).1,(rd (it::its) here many r).2)=R) :
  ((ws ++ v) ++ (rd its (here + u) (many + it.cnt) (r.drop u)).1,(rd its (here + u) (many + it.cnt) (r.drop u)).2)=R:=by
 rw [show rd (it::its) here many r=_ from congrArg (rdO many _) e] at h
 rw [List.append_assoc]; exact h
theorem rd_stop {it:It} {its:List It} {here many:Nat} {r:List Nat} {ws:List (List Nat)} {sh:Bool} {R:List (List Nat) × End} (e:itR it here r=.stop sh) (h:(ws ++ (rd (it::its) here many r).1,(rd (it::its) here many r).2)=R):R=(ws,.fin many sh):=by
 rw [show rd (it::its) here many r=_ from congrArg (rdO many _) e] at h
 rw [← h]; exact congrArg (·,_) (List.append_nil ws)
theorem rd_err {it:It} {its:List It} {here many:Nat} {r:List Nat} {ws:List (List Nat)} {x:Exn} {R:List (List Nat) × End} (e:itR it here r=.err x) (h:(ws ++ (rd (it::its) here many r).1,(rd (it::its) here many r).2)=R):R.2=.err x:=by
 rw [show rd (it::its) here many r=_ from congrArg (rdO many _) e] at h
 rw [← h]; rfl
theorem nt {b:Bool} (h:(!b)=true):b=false:=by cases b <;> first | rfl | exact ft h
theorem chr_drop {l r:List Nat} {k c:Nat} (h:l.drop k=c::r):chr l k=c:=by
 unfold chr
 rw [List.getD_eq_getElem?_getD,← List.head?_drop,h]; rfl
theorem lit_chr {c h:Nat} {t:List Nat}:litR c (t.drop h)=if h < t.length then if decide ([chr t h]=[c])=true then .go [] 1 else .stop false else .stop true:=by
 unfold litR
 by_cases q:h < t.length
 ·rw [if_pos q,if_neg fun w=>Nat.not_le.mpr q (List.drop_eq_nil_iff.mp w),show chr (t.drop h) 0=chr t h from chr_drop (by rw [List.drop_zero,List.drop_eq_getElem_cons q,chr_drop (List.drop_eq_getElem_cons q)])]
 ·rw [if_neg q,if_pos (List.drop_eq_nil_iff.mpr (Nat.not_lt.mp q))]
noncomputable def b_lit:CSs :=
  (.cons (.assign 8 (.cmp1 .ge (.loc 5) (.bi .len (.cons (.loc 0) .nil))))
  (.cons (.ite (.bool false (.cons (.loc 8) (.cons (.cmp1 .ne (.idx (.loc 0) (.loc 5)) (.loc 9)) .nil)))
   (.cons .brk
   .nil)
   .nil)
  (.cons (.aug 5 (.cst (.int 1)))
  (.cons .cont
  .nil))))
section
variable {T:List Ent} (hT:Core T)
theorem scan_lit {Φ:Fn} {Q:OutE → Prop} {c n nx:PS} {t l:List Nat} (hL:t.length ≤ LIM) {count a i:Int} {h many ch:Nat} {vs:List (Option (List Nat))} {xs:List (Option PV)}
  (hgo:litR ch (t.drop h)=.go [] 1 → c (vE t l count vs a (h + 1:Nat) i many false (some (.str [ch])::xs)) none) (hst:∀ sh,litR ch (t.drop h)=.stop sh → n (vE t l count vs a h i many sh (some (.str [ch])::xs)) none) :
  wSs Φ Q XX NN b_lit (vE t l count vs a h i many false (some (.str [ch])::xs)) none nx n c:=by
 rw [lit_chr] at hgo hst
 by_cases q:h < t.length
 ·rw [if_pos q] at hgo hst
  have w:decide ((h:Int) ≥ t.length)=false:=le_f (Int.ofNat_lt.mpr q)
  refine ⟨lim_line hL,?_⟩
  show wSs _ _ _ _ (dropC 1 b_lit) (vE t l count vs a h i many (decide ((h:Int) ≥ t.length)) (some (.str [ch])::xs)) _ _ _ _
  rw [w]
  cases z:decide ([chr t h]=[ch]) with
  | true =>
   rw [if_pos z] at hgo
   exact ⟨false,⟨rfl,fun _=>⟨_,at_chr hL q,rfl,(fun _=>rfl),fun y=>b_no z (nt y)⟩,fun y=>ft y⟩,fun y=>ft y,fun _=>hgo rfl⟩
  | false =>
   rw [if_neg (ne_t z)] at hst
   exact ⟨true,⟨rfl,fun _=>⟨_,at_chr hL q,rfl,(fun y=>b_no (nn y) z),fun _=>rfl⟩,fun y=>ft y⟩,fun _=>hst false rfl,fun y=>tf y⟩
 ·rw [if_neg q] at hst
  have w:decide ((h:Int) ≥ t.length)=true:=decide_eq_true (Int.ofNat_le.mpr (Nat.not_lt.mp q))
  refine ⟨lim_line hL,?_⟩
  show wSs _ _ _ _ (dropC 1 b_lit) (vE t l count vs a h i many (decide ((h:Int) ≥ t.length)) (some (.str [ch])::xs)) _ _ _ _
  rw [w]
  exact ⟨true,⟨rfl,fun y=>tf y,fun _=>rfl⟩,fun _=>hst true rfl,fun y=>tf y⟩
variable {pos:Nat → Nat} {m:Nat} {F:List (List Nat) → List (Option (List Nat))} (L:LayOk pos m F) (hm:m ≤ LIM)
include hT L hm
theorem scan_step {placed:Bool} {count:Int} (P:PosOk placed pos m count) (k:Nat) {Q:OutE → Prop} {c n:PS} {t l:List Nat} (ht:t.length ≤ 400) (hu:∀ c ∈ t,c < 1114112) (hl:3 * l.length ≤ LIM) {its:List It} {i here many:Nat} {index:Int} {ws:List (List Nat)} {xs:List (Option PV)} {R:List (List Nat) × End}
  (hd:l.drop i=textOf its) (hg:∀ i ∈ its,i.Good) (hx:Idx placed pos m its ws.length) (hi:placed=false → index=ws.length) (hh:here ≤ t.length) (hR:(ws ++ (rd its here many (t.drop here)).1,(rd its here many (t.drop here)).2)=R)
  (hc:∀ its' (i' here' many':Nat) (index':Int) ws' xs',l.drop i'=textOf its' → (∀ i ∈ its',i.Good) → Idx placed pos m its' ws'.length → (placed=false → index'=ws'.length) → here' ≤ t.length → (ws' ++ (rd its' here' many' (t.drop here')).1,(rd its' here' many' (t.drop here')).2)=R → its'.length < its.length → c (vE t l count (F ws') i' here' index' many' false xs') none)
  (hn:∀ (a b i':Int) many' sh xs',R.2=.fin many' sh → n (vE t l count (F R.1) a b i' many' sh xs') none) (he:∀ e,R.2=.err e → Q (.error e)) :
  wE (Ph T (k + 6)) Q q_scan_text_1 (vE t l count (F ws) i here index many false xs) none fun v p=>bP v (wSs (Ph T (k + 6)) Q XX NN b_scan_text_1 (vE t l count (F ws) i here index many false xs) p c n c) (n (vE t l count (F ws) i here index many false xs) p):=by
 have hl1:l.length ≤ LIM:=Nat.le_trans (Nat.le_mul_of_pos_left _ (by decide)) hl
 have hL:t.length ≤ LIM:=Nat.le_trans ht (by decide)
 cases its with
 | nil =>
  refine ⟨lim_line hl1,fun w=>absurd (d_lt w) (Nat.not_lt.mpr (List.drop_eq_nil_iff.mp hd)),fun _=>?_⟩
  rw [show R=(ws,.fin many false) by rw [← hR]; exact congrArg (·,_) (List.append_nil ws)] at hn
  exact hn _ _ _ many false xs rfl
 | cons it r =>
  have hlt:i < l.length:=by cases it <;> exact drop_lt hd
  have hg':∀ i ∈ r,i.Good:=fun i hi=>hg i (.tail _ hi)
  have stop:∀ sh (a b i':Int) xs',itR it here (t.drop here)=.stop sh → n (vE t l count (F ws) a b i' many sh xs') none:=fun sh a b i' xs' e=>by
   rw [rd_stop e hR] at hn
   exact hn a b i' many sh xs' rfl
  have next:∀ (u i':Nat) xs',itR it here (t.drop here)=.go [] u → it.cnt=0 → l.drop i'=textOf r → Idx placed pos m r ws.length → c (vE t l count (F ws) i' (here + u:Nat) index many false xs') none:=fun u i' xs' e h0 h1 h2=>by
   have h:=rd_go e hR
   have hle:=itR_le e
   rw [List.length_drop] at hle
   rw [h0,List.append_nil,List.drop_drop] at h
   exact hc r i' _ many index ws xs' h1 hg' h2 hi (Nat.le_trans (Nat.add_le_add_left hle _) (Nat.le_of_eq (Nat.add_sub_cancel' hh))) h (Nat.lt_succ_self _)
  refine ⟨lim_line hl1,fun w=>⟨_,at_chr hl1 hlt,put_ok ⟨_,rfl,pn_oV _⟩ (W_is (is_blank_ok hT (k + 5) _) ?_)⟩,fun w=>b_no (lt_d hlt) w⟩
  cases it with
  | chr x =>
   have hd:l.drop i=x::textOf r:=hd
   have hx37:¬ x=37:=hg _ (.head _)
   rw [chr_drop hd]
   refine ⟨fun b=>W_is (skip_blanks_ok hT (k + 4) hL here) ?_,fun b=>⟨true,⟨rfl,(fun y=>absurd (List.head_eq_of_cons_eq (of_decide_eq_true (nn y))) hx37),fun _=>rfl⟩,fun _=>⟨(fun y=>absurd (List.head_eq_of_cons_eq (of_decide_eq_true y)) hx37),fun _=>nil_ok ?_⟩,fun y=>tf y⟩⟩
   ·rw [span_drop]
    exact next _ (i + 1) [some _,xs.getD 1 none,xs.getD 2 none,xs.getD 3 none,xs.getD 4 none,xs.getD 5 none,xs.getD 6 none,xs.getD 7 none,xs.getD 8 none,xs.getD 9 none] (if_pos b) rfl (drop_next1 hd) hx
   ·have e:itR (.chr x) here (t.drop here)=litR x (t.drop here):=if_neg (ne_t b)
    exact scan_lit hL (a:=(i + 1:Nat)) (h:=here) (xs:=[xs.getD 1 none,xs.getD 2 none,xs.getD 3 none,xs.getD 4 none,xs.getD 5 none,xs.getD 6 none,xs.getD 7 none,xs.getD 8 none,xs.getD 9 none])
     (fun q=>next 1 (i + 1) _ (e.trans q) rfl (drop_next1 hd) hx) fun sh q=>stop sh _ _ _ _ (e.trans q)
  | pct =>
   have hd:l.drop i=37::37::textOf r:=hd
   have hd1:=drop_next1 hd
   rw [chr_drop hd]
   refine ⟨fun b=>(nomatch b),fun _=>⟨true,⟨rfl,fun _=>⟨_,at_chr (i:=i + 1) hl1 (drop_lt hd1),rfl,(fun y=>b_no (show decide ([chr l (i + 1)]=[37])=true by rw [chr_drop hd1]; rfl) y),fun _=>rfl⟩,fun y=>ft y⟩,fun _=>⟨fun _=>put_ok (i:=4) ⟨_,rfl,rfl⟩ (nil_ok ?_),fun y=>tf y⟩,fun y=>tf y⟩⟩
   exact scan_lit hL (a:=(i + 2:Nat)) (h:=here) (xs:=[xs.getD 1 none,xs.getD 2 none,xs.getD 3 none,xs.getD 4 none,xs.getD 5 none,xs.getD 6 none,xs.getD 7 none,xs.getD 8 none,xs.getD 9 none])
     (fun q=>next 1 (i + 2) _ q rfl (drop_next1 hd1) hx) fun sh q=>stop sh _ _ _ _ q
  | fld f =>
   have hd0:l.drop i=37::((f.head ++ f.tail) ++ textOf r):=hd
   have hd1:l.drop (i + 1)=f.head ++ (f.tail ++ textOf r):=(drop_next1 hd0).trans (List.append_assoc _ _ _)
   have g:f.Good:=hg _ (.head _)
   have h1:=fld_lt hd1
   have hs:=(fld_spec g hd1).2
   rw [signAt_some h1] at hs
   rw [chr_drop hd0]
   have hb:(f.star=true → Idx placed pos m r ws.length) ∧ (f.star=false → (ws.length < m ∧ pv f.place=(if placed=true then (pos ws.length:Int) + 1 else -1)) ∧ Idx placed pos m r (ws.length + 1)):=by
    have hx:(if f.star=true then Idx placed pos m r ws.length else ws.length < m ∧ pv f.place=(if placed=true then (pos ws.length:Int) + 1 else -1) ∧ Idx placed pos m r (ws.length + 1)):=hx
    exact ⟨fun q=>by rw [if_pos q] at hx; exact hx,fun q=>by rw [if_neg (ne_t q)] at hx; exact ⟨⟨hx.1,hx.2.1⟩,hx.2.2⟩⟩
   have hml:3 * (memF f).length ≤ LIM:=Nat.le_trans (Nat.mul_le_mul_left 3 (by
    have hs:=(fld_set hd1).1
    have h2:=congrArg List.length hs
    rw [List.length_drop,List.length_append] at h2
    refine Nat.le_trans ?_ (Nat.le_trans (Nat.le_add_right f.set.length _) (Nat.le_trans (Nat.le_of_eq h2.symm) (Nat.sub_le _ _)))
    unfold memF Fld.set
    split
    ·rw [List.length_append]; exact Nat.le_add_right _ _
    ·exact Nat.le_refl _)) hl
   refine ⟨fun b=>(nomatch b),fun _=>⟨false,⟨rfl,fun _=>⟨_,at_ok (i:=i + 1) hl1 h1,rfl,(fun _=>rfl),fun y=>b_no y hs⟩,fun y=>ft y⟩,(fun y=>ft y),fun _=>nil_ok ?_⟩⟩
   refine scan_fld hT L hm P k ht hu hl1 g hd1 hh (xs:=[some _,xs.getD 1 none,xs.getD 2 none,xs.getD 3 none,xs.getD 4 none,xs.getD 5 none,xs.getD 6 none,xs.getD 7 none,xs.getD 8 none,xs.getD 9 none]) hi (fun q=>(hb.2 q).1) hml (fun v u xs' i' e hi'=>?_) (fun sh a b i' xs' e=>stop sh a b i' xs' e) fun e q=>he e (rd_err q hR)
   have h:=rd_go e hR
   have hle:=itR_le e
   rw [List.length_drop] at hle
   rw [List.drop_drop] at h
   refine hc r _ _ (many + 1) i' (ws ++ v) xs' (drop_next (hd1.trans (List.append_assoc _ _ _).symm)) hg' ?_ hi' (Nat.le_trans (Nat.add_le_add_left hle _) (Nat.le_of_eq (Nat.add_sub_cancel' hh))) h (Nat.lt_succ_self _)
   obtain ⟨w,rfl⟩:=(fld_go e).1
   unfold keepV
   cases q:f.star with
   | true=>rw [if_pos rfl,List.append_nil]; exact hb.1 q
   | false=>rw [if_neg (by decide),List.length_append]; exact (hb.2 q).2
end
end
noncomputable section
theorem compK_map {cond:PV → Option Bool} {elt:PV → Option PV} {g:PV → PV} (h1:∀ x,cond x=some true) (h2:∀ x,elt x=some (g x)):∀ (xs:List PV) (k:List PV → RR),compK cond elt xs k=k (xs.map g):=by
 intro xs
 induction xs with
 | nil=>intro k; rfl
 | cons x r ih =>
  intro k
  show opK (cond x) _=_
  rw [h1]
  show opK (elt x) _=_
  rw [h2]
  exact ih _
noncomputable def scanO (F:List (List Nat) → List (Option (List Nat))) (R:List (List Nat) × End):OutE:=match R.2 with
 | .err e=>.error e
 | .fin many sh=>if (sh && decide ((many:Int)=0))=true then .ok (.int (-1),none) else .ok (.lst ((F R.1).map optPV),none)
noncomputable abbrev ScS:=List It × Nat × Nat × Nat × Int × List (List Nat) × List (Option PV)
section
variable {T:List Ent} (hT:Core T) {pos:Nat → Nat} {m:Nat} {F:List (List Nat) → List (Option (List Nat))} (L:LayOk pos m F) {placed:Bool} {count:Int} (P:PosOk placed pos m count)
include hT L P
theorem scan_text_ok (k:Nat) {t:List Nat} (ht:t.length ≤ 400) (hu:∀ c ∈ t,c < 1114112) {its:List It} (hg:∀ i ∈ its,i.Good) (hx:Idx placed pos m its 0) (h0:placed=true → 0 < m) (hl:3 * (textOf its).length ≤ LIM) :
  Ph T (k + 7) 30 [.val (.str t),.val (.str (textOf its)),.val (.int count)] none=some (scanO F (rd its 0 0 t)):=by
 have hl1:(textOf its).length ≤ LIM:=Nat.le_trans (Nat.le_mul_of_pos_left _ (by decide)) hl
 have hm:m ≤ LIM:=Nat.le_trans P.le (by decide)
 have ck:=check_scan_ok hT P k hg hx h0 hl1
 have hn:its.length ≤ (textOf its).length:=its_len its
 generalize hq:textOf its=l at *
 have ey:(rangePV (m:Int)).map (fun _=>PV.none)=(F []).map optPV:=by
  rw [L.nil,List.map_replicate,List.map_const']
  unfold rangePV
  rw [List.length_map,List.length_range]; rfl
 refine ph (hT 30 (by decide)) rfl (W_is ck ⟨⟨Int.le_trans (Int.neg_nonpos_of_nonneg (Int.natCast_nonneg _)) (Int.natCast_nonneg _),Int.ofNat_le.mpr (lim_line hm)⟩,(F []).map optPV,fun kk=>(compK_map (g:=fun _=>.none) (fun _=>rfl) (fun _=>rfl) _ _).trans (by rw [ey]),?_⟩)
 ·refine while_st (fun s:ScS=>vE t l count (F s.2.2.2.2.2.1) s.2.1 s.2.2.1 s.2.2.2.2.1 s.2.2.2.1 false s.2.2.2.2.2.2)
   (fun s=>l.drop s.2.1=textOf s.1 ∧ (∀ i ∈ s.1,i.Good) ∧ Idx placed pos m s.1 s.2.2.2.2.2.1.length ∧ (placed=false → s.2.2.2.2.1=s.2.2.2.2.2.1.length) ∧ s.2.2.1 ≤ t.length ∧ (s.2.2.2.2.2.1 ++ (rd s.1 s.2.2.1 s.2.2.2.1 (t.drop s.2.2.1)).1,(rd s.1 s.2.2.1 s.2.2.2.1 (t.drop s.2.2.1)).2)=rd its 0 0 t) (fun s=>s.1.length)
   (fun s c h hc=>scan_step hT L hm P k ht hu hl h.1 h.2.1 h.2.2.1 h.2.2.2.1 h.2.2.2.2.1 h.2.2.2.2.2 (fun a b d e f g xs h1 h2 h3 h4 h5 h6=>hc ⟨a,b,d,e,f,g,xs⟩ ⟨h1,h2,h3,h4,h5,h6⟩) (fun a b i many sh xs e=>?_) fun e w=>?_)
   (s:=⟨its,0,0,0,0,[],[]⟩) ⟨by rw [hq]; exact List.drop_zero,hg,hx,fun _=>rfl,Nat.zero_le _,rfl⟩ (Nat.le_trans hn hl1)
  ·have eo:scanO F (rd its 0 0 t)=if (sh && decide ((many:Int)=0))=true then .ok (.int (-1),none) else .ok (.lst ((F (rd its 0 0 t).1).map optPV),none):=by unfold scanO; rw [e]
   rw [eo]
   exact ⟨sh && decide ((many:Int)=0),⟨rfl,fun hy=>⟨rfl,fin (and_t hy)⟩,fun hy=>(and_f hy).symm⟩,(fun w=>(if_pos w).symm),fun w=>(if_neg (ne_t w)).symm⟩
  ·show _=scanO F (rd its 0 0 t)
   unfold scanO; rw [w]
end
end
noncomputable section
noncomputable def lay (m:Nat) (ws:List (List Nat)):List (Option (List Nat)):=ws.map some ++ List.replicate (m - ws.length) none
theorem lay_len {m:Nat} {ws:List (List Nat)} (h:ws.length ≤ m):(lay m ws).length=m:=by
 unfold lay
 rw [List.length_append,List.length_map,List.length_replicate,Nat.add_sub_cancel' h]
theorem lay_set {m:Nat} {ws:List (List Nat)} (v:List Nat) (h:ws.length < m):(lay m ws).set ws.length (some v)=lay m (ws ++ [v]):=by
 unfold lay
 obtain ⟨n,e⟩:∃ n,m - ws.length=n + 1:=⟨m - ws.length - 1,(Nat.sub_add_cancel (Nat.sub_pos_of_lt h)).symm⟩
 rw [List.length_append,List.set_append_right _ _ (Nat.le_of_eq (List.length_map _)),List.length_map,Nat.sub_self,e,List.replicate_succ,List.set_cons_zero,List.map_append,List.append_assoc,← Nat.sub_sub,e]
 rfl
theorem lay_nil (m:Nat):lay m []=List.replicate m none:=rfl
theorem lay_seq (m:Nat):LayOk id m (lay m):=⟨fun ws h=>lay_len h,fun ws v h=>lay_set v h,lay_nil m⟩
noncomputable def rotL (a:Nat) {α:Type} (l:List α):List α:=l.drop a ++ l.take a
noncomputable def rotP (a t j:Nat):Nat:=(j + t) % (a + t)
theorem rotP_lt {a t j:Nat} (h:j < a):rotP a t j=j + t:=Nat.mod_eq_of_lt (Nat.add_lt_add_right h t)
theorem rotP_ge {a t i:Nat} (h:i < t):rotP a t (a + i)=i:=by
 unfold rotP
 rw [Nat.add_right_comm,Nat.add_mod_left,Nat.mod_eq_of_lt (Nat.lt_of_lt_of_le h (Nat.le_add_left t a))]
theorem rot_cases {a t j:Nat} (h:j < a + t):j < a ∨ ∃ i,j=a + i ∧ i < t :=
 (Nat.lt_or_ge j a).imp id fun w=>⟨j - a,(Nat.add_sub_cancel' w).symm,Nat.sub_lt_left_of_lt_add w h⟩
theorem rot_set {α:Type} {a t n:Nat} {l:List α} (hl:l.length=a + t) (hn:n < a + t) (v:α):(rotL a l).set (rotP a t n) v=rotL a (l.set n v):=by
 have hd:(l.drop a).length=t:=by rw [List.length_drop,hl,Nat.add_sub_cancel_left]
 unfold rotL
 rcases rot_cases hn with h | ⟨i,rfl,h⟩
 ·rw [rotP_lt h,List.set_append_right _ _ (by rw [hd]; exact Nat.le_add_left _ _),hd,Nat.add_sub_cancel,List.drop_set_of_lt h,List.take_set]
 ·rw [rotP_ge h,List.set_append_left _ _ (by rw [hd]; exact h),List.drop_set,if_neg (Nat.not_lt.mpr (Nat.le_add_right a i)),Nat.add_sub_cancel_left,List.take_set_of_le (Nat.le_add_right a i)]
theorem lay_rot {a t:Nat}:LayOk (rotP a t) (a + t) (fun ws=>rotL a (lay (a + t) ws)):=by
 refine ⟨fun ws h=>?_,fun ws v h=>?_,?_⟩
 ·unfold rotL
  rw [List.length_append,Nat.add_comm,← List.length_append,List.take_append_drop,lay_len h]
 ·show (rotL a (lay (a + t) ws)).set (rotP a t ws.length) (some v)=_
  rw [rot_set (lay_len (Nat.le_of_lt h)) h,lay_set v h]
 ·show rotL a (List.replicate (a + t) none)=_
  unfold rotL
  rw [List.drop_replicate,List.take_replicate,List.replicate_append_replicate,Nat.min_eq_left (Nat.le_add_right a t),Nat.sub_add_cancel (Nat.le_add_right a t)]
theorem pos_seq {m:Nat} {count:Int} (hc:count=0 ∨ count=m) (hm:m ≤ 100):PosOk false id m count:=⟨fun _ _=>rfl,fun _ h=>h,fun i j h _=>Nat.ne_of_lt h,fun i h=>⟨i,h,rfl⟩,hc,hm⟩
theorem pos_rot {a t:Nat} {count:Int} (hc:count=0 ∨ count=(a + t:Nat)) (hm:a + t ≤ 100) (ha:0 < a):PosOk true (rotP a t) (a + t) count:=by
 refine ⟨nofun,fun j _=>Nat.mod_lt _ (Nat.lt_of_lt_of_le ha (Nat.le_add_right a t)),fun i j h hj=>?_,fun i hi=>?_,hc,hm⟩
 ·rcases rot_cases hj with q | ⟨j,rfl,q⟩
  ·rw [rotP_lt q,rotP_lt (Nat.lt_trans h q)]
   exact Nat.ne_of_lt (Nat.add_lt_add_right h t)
  ·rw [rotP_ge q]
   rcases rot_cases (Nat.lt_trans h hj) with w | ⟨i,rfl,w⟩
   ·rw [rotP_lt w]; exact Nat.ne_of_gt (Nat.lt_of_lt_of_le q (Nat.le_add_left t i))
   ·rw [rotP_ge w]; exact Nat.ne_of_lt (Nat.lt_of_add_lt_add_left h)
 ·rcases Nat.lt_or_ge i t with h | h
  ·exact ⟨a + i,Nat.add_lt_add_left h a,rotP_ge h⟩
  ·have h1:i - t < a:=Nat.sub_lt_right_of_lt_add h hi
   exact ⟨i - t,Nat.lt_of_lt_of_le h1 (Nat.le_add_right a t),(rotP_lt h1).trans (Nat.sub_add_cancel h)⟩
theorem lay_erase:∀ {s m:Nat} {ws:List (List Nat)},s < m → (lay m ws).eraseIdx s=lay (m - 1) (ws.eraseIdx s):=by
 have c:∀ (m:Nat) (w:List Nat) (ws:List (List Nat)),lay m (w::ws)=some w::lay (m - 1) ws:=fun m w ws=>by
  unfold lay
  rw [List.length_cons,Nat.add_comm,← Nat.sub_sub]; rfl
 intro s
 induction s with
 | zero =>
  intro m ws h
  cases ws with
  | nil=>show (List.replicate m none).eraseIdx 0=_; rw [List.eraseIdx_replicate,if_pos h]; rfl
  | cons w ws=>rw [c]; rfl
 | succ s ih =>
  intro m ws h
  cases ws with
  | nil=>show (List.replicate m none).eraseIdx (s + 1)=_; rw [List.eraseIdx_replicate,if_pos h]; rfl
  | cons w ws =>
   rw [c,List.eraseIdx_cons_succ,List.eraseIdx_cons_succ,c,ih (Nat.lt_sub_of_add_lt h)]
end
noncomputable section
inductive Pc where
 | txt (k:Nat) (its:List It)
 | fld (w s:List Nat) (so:Nat) (m:List Nat) (kept:Bool)
noncomputable def Pc.kept:Pc → Bool
 | .fld _ _ _ _ k=>k
 | .txt _ _=>false
noncomputable def Pc.cnt:Pc → Nat
 | .fld ..=>1
 | .txt _ _=>0
noncomputable def nx (p:Pc) (n:Nat):Nat:=if p.kept=true then n + 1 else n
noncomputable def Pc.Good:Pc → Prop
 | .fld w s so m k=>(⟨!k,[],w,s,so,m⟩:Fld).Good
 | .txt _ its=>∀ i ∈ its,i.Good ∧ i.cnt=0
noncomputable def keptN:List Pc → Nat → Nat
 | [],n=>n
 | p::r,n=>keptN r (nx p n)
section
variable (pd:Nat → List Nat) (st:Nat → Bool)
noncomputable def fldP (star:Bool) (pl:List Nat) (w s:List Nat) (so:Nat) (m:List Nat):Fld:=⟨star,if star=true then [] else pl,w,s,so,m⟩
noncomputable def its1 (n:Nat):Pc → List It
 | .txt _ its=>its
 | .fld w s so m k=>[.fld (fldP (!k || st n) (pd n) w s so m)]
noncomputable def itsP:List Pc → Nat → List It
 | [],_=>[]
 | p::r,n=>its1 pd st n p ++ itsP r (nx p n)
end
theorem textOf_app (a b:List It):textOf (a ++ b)=textOf a ++ textOf b:=by
 induction a with
 | nil=>rfl
 | cons x a ih=>show x.text ++ textOf (a ++ b)=x.text ++ textOf a ++ textOf b; rw [ih,List.append_assoc]
noncomputable def addU (u:Nat) (x:IOut):IOut:=match x with
 | .go v u'=>.go v (u + u')
 | .stop sh=>.stop sh
 | .err e=>.err e
noncomputable def goR (k:Nat → IOut) (x:IOut):IOut:=match x with
 | .go _ u=>addU u (k u)
 | .stop sh=>.stop sh
 | .err e=>.err e
noncomputable def txtR:List It → Nat → List Nat → IOut
 | [],_,_=>.go [] 0
 | it::its,here,r=>goR (fun u=>txtR its (here + u) (r.drop u)) (itR it here r)
noncomputable def pcR (p:Pc) (star:Bool) (here:Nat) (r:List Nat):IOut:=match p with
 | .txt _ its=>txtR its here r
 | .fld w s so m _=>itR (.fld ⟨star,[],w,s,so,m⟩) here r
noncomputable def rdP (st:Nat → Bool):List Pc → Nat → Nat → Nat → List Nat → List (List Nat) × End
 | [],_,_,many,_=>([],.fin many false)
 | p::ps,n,here,many,r=>rdO many (fun v u=>let x:=rdP st ps (nx p n) (here + u) (many + p.cnt) (r.drop u); (v ++ x.1,x.2)) (pcR p (!p.kept || st n) here r)
theorem lit_plain {c:Nat} {r:List Nat}:(∀ x,litR c r ≠ .err x) ∧ ∀ v u,litR c r=.go v u → v=[]:=by
 refine ⟨fun x=>?_,fun v u e=>(lit_go e).1⟩
 unfold litR
 split
 ·nofun
 ·split <;> nofun
theorem it_plain {it:It} (h:it.cnt=0) {here:Nat} {r:List Nat}:(∀ x,itR it here r ≠ .err x) ∧ ∀ v u,itR it here r=.go v u → v=[]:=by
 cases it with
 | chr c =>
  show (∀ x,(if isBlank c=true then IOut.go [] _ else litR c r) ≠ .err x) ∧ ∀ v u,(if isBlank c=true then IOut.go [] _ else litR c r)=.go v u → v=[]
  split
  ·exact ⟨nofun,fun v u e=>by cases e; rfl⟩
  ·exact lit_plain
 | pct=>exact lit_plain
 | fld f=>cases h
theorem rd_txt (its':List It):∀ {its:List It},(∀ i ∈ its,i.Good ∧ i.cnt=0) → ∀ (here many:Nat) (r:List Nat),rd (its ++ its') here many r=rdO many (fun v u=>let x:=rd its' (here + u) many (r.drop u); (v ++ x.1,x.2)) (txtR its here r) ∧
  (∀ x,txtR its here r ≠ .err x) ∧ ∀ v u,txtR its here r=.go v u → v=[] ∧ u ≤ r.length:=by
 intro its
 induction its with
 | nil=>intro _ here many r; exact ⟨rfl,nofun,fun v u e=>by cases e; exact ⟨rfl,Nat.zero_le _⟩⟩
 | cons it its ih =>
  intro h here many r
  obtain ⟨h1,h2⟩:=it_plain (h it (.head _)).2 (here:=here) (r:=r)
  rw [show rd (it::its ++ its') here many r=rdO many (fun v u=>let x:=rd (its ++ its') (here + u) (many + it.cnt) (r.drop u); (v ++ x.1,x.2)) (itR it here r) from rfl,
   show txtR (it::its) here r=goR (fun u=>txtR its (here + u) (r.drop u)) (itR it here r) from rfl]
  cases e:itR it here r with
  | err x=>exact absurd e (h1 x)
  | stop sh=>exact ⟨rfl,nofun,nofun⟩
  | go v u =>
   obtain ⟨i1,i2,i3⟩:=ih (fun i hi=>h i (.tail _ hi)) (here + u) many (r.drop u)
   rw [h2 v u e,(h it (.head _)).2]
   show ([] ++ (rd (its ++ its') (here + u) many (r.drop u)).1,(rd (its ++ its') (here + u) many (r.drop u)).2)=rdO many _ (addU u (txtR its (here + u) (r.drop u))) ∧ (∀ x,addU u (txtR its (here + u) (r.drop u)) ≠ .err x) ∧ ∀ v u',addU u (txtR its (here + u) (r.drop u))=.go v u' → v=[] ∧ u' ≤ r.length
   rw [i1]
   cases q:txtR its (here + u) (r.drop u) with
   | err x=>exact absurd q (i2 x)
   | stop sh=>exact ⟨rfl,nofun,nofun⟩
   | go v' u' =>
    obtain ⟨j1,j2⟩:=i3 v' u' q
    rw [List.length_drop] at j2
    refine ⟨?_,nofun,fun v u'' e'=>by cases e'; exact ⟨j1,Nat.le_trans (Nat.add_le_add_left j2 u) (Nat.le_of_eq (Nat.add_sub_cancel' (itR_le e)))⟩⟩
    show (v' ++ (rd its' (here + u + u') many ((r.drop u).drop u')).1,(rd its' (here + u + u') many ((r.drop u).drop u')).2)=_
    rw [List.drop_drop,Nat.add_assoc]
    rfl
theorem rd_its {pd:Nat → List Nat} {st:Nat → Bool}:∀ {ps:List Pc},(∀ p ∈ ps,p.Good) → ∀ (n here many:Nat) (r:List Nat),rd (itsP pd st ps n) here many r=rdP st ps n here many r:=by
 intro ps
 induction ps with
 | nil=>intro _ n here many r; rfl
 | cons p ps ih =>
  intro h n here many r
  have ih:=fun n here many r=>ih (fun q hq=>h q (.tail _ hq)) n here many r
  cases p with
  | txt k its =>
   refine (rd_txt _ (h _ (.head _)) here many r).1.trans ?_
   show _=rdO many _ (txtR its here r)
   cases txtR its here r with
   | err x=>rfl
   | stop sh=>rfl
   | go v u=>exact congrArg (fun x:List (List Nat) × End=>(v ++ x.1,x.2)) (ih n (here + u) many (r.drop u))
  | fld w s so m k =>
   rw [show rd (itsP pd st (.fld w s so m k::ps) n) here many r=rdO many (fun v u=>let x:=rd (itsP pd st ps (nx (.fld w s so m k) n)) (here + u) (many + 1) (r.drop u); (v ++ x.1,x.2)) (itR (.fld ⟨!k || st n,[],w,s,so,m⟩) here r) from rfl,
    show rdP st (.fld w s so m k::ps) n here many r=rdO many (fun v u=>let x:=rdP st ps (nx (.fld w s so m k) n) (here + u) (many + 1) (r.drop u); (v ++ x.1,x.2)) (itR (.fld ⟨!k || st n,[],w,s,so,m⟩) here r) from rfl]
   cases itR (.fld ⟨!k || st n,[],w,s,so,m⟩) here r with
   | err x=>rfl
   | stop sh=>rfl
   | go v u=>exact congrArg (fun x:List (List Nat) × End=>(v ++ x.1,x.2)) (ih _ (here + u) (many + 1) (r.drop u))
theorem its_good {pd:Nat → List Nat} {st:Nat → Bool} (hp:∀ n,∀ c ∈ pd n,isDig 10 c=true):∀ {ps:List Pc},(∀ p ∈ ps,p.Good) → ∀ (n:Nat),∀ i ∈ itsP pd st ps n,i.Good:=by
 intro ps
 induction ps with
 | nil=>intro _ n i hi; cases hi
 | cons p ps ih =>
  intro h n i hi
  rcases List.mem_append.mp (show i ∈ its1 pd st n p ++ itsP pd st ps (nx p n) from hi) with hi | hi
  ·cases p with
   | txt k its=>exact (h _ (.head _) i hi).1
   | fld w s so m k =>
    rw [List.mem_singleton.mp hi]
    have g:(⟨!k,[],w,s,so,m⟩:Fld).Good:=h _ (.head _)
    refine ⟨?_,fun q=>if_pos q,g.wid,g.size,g.sort,g.mem,g.ok⟩
    show ∀ c ∈ (if (!k || st n)=true then [] else pd n),_
    split
    ·nofun
    ·exact hp n
  ·exact ih (fun q hq=>h q (.tail _ hq)) _ i hi
theorem idx_txt {placed:Bool} {pos:Nat → Nat} {m j:Nat} {its':List It} (h':Idx placed pos m its' j):∀ {its:List It},(∀ i ∈ its,i.Good ∧ i.cnt=0) → Idx placed pos m (its ++ its') j:=by
 intro its
 induction its with
 | nil=>intro _; exact h'
 | cons it its ih =>
  intro h
  have:=ih fun i hi=>h i (.tail _ hi)
  cases it with
  | fld f=>cases (h _ (.head _)).2
  | _=>exact this
theorem its_idx {pd:Nat → List Nat} {st:Nat → Bool} {placed:Bool} {pos:Nat → Nat} {m:Nat} {jj:Nat → Nat} {M:Nat} (hM:jj M=m)
  (h1:∀ n,n < M → st n=true → jj (n + 1)=jj n) (h2:∀ n,n < M → st n=false → jj (n + 1)=jj n + 1 ∧ jj n < m ∧ pv (pd n)=(if placed=true then (pos (jj n):Int) + 1 else -1)) :
  ∀ {ps:List Pc},(∀ p ∈ ps,p.Good) → ∀ {n:Nat},keptN ps n=M → n ≤ M → Idx placed pos m (itsP pd st ps n) (jj n):=by
 have le:∀ (ps:List Pc) (n:Nat),n ≤ keptN ps n:=by
  intro ps
  induction ps with
  | nil=>intro n; exact Nat.le_refl n
  | cons p ps ih=>intro n; exact Nat.le_trans (by unfold nx; split; exact Nat.le_succ n; exact Nat.le_refl n) (ih (nx p n))
 intro ps
 induction ps with
 | nil=>intro _ n hk hn; cases hk; exact hM
 | cons p ps ih =>
  intro h n hk hn
  have hl:=le ps (nx p n)
  have hk:keptN ps (nx p n)=M:=hk
  rw [hk] at hl
  have ih:=ih (fun q hq=>h q (.tail _ hq)) hk hl
  cases p with
  | txt k its=>exact idx_txt ih (h _ (.head _))
  | fld w s so m' k =>
   show if (!k || st n)=true then Idx placed pos m (itsP pd st ps (nx (.fld w s so m' k) n)) (jj n) else jj n < m ∧ pv (if (!k || st n)=true then [] else pd n)=_ ∧ Idx placed pos m (itsP pd st ps (nx (.fld w s so m' k) n)) (jj n + 1)
   cases k with
   | false=>exact ih
   | true =>
    have hn:n < M:=hl
    have ih:Idx placed pos m (itsP pd st ps (n + 1)) (jj (n + 1)):=ih
    cases q:st n with
    | true=>rw [h1 n hn q] at ih; exact ih
    | false =>
     have:=h2 n hn q
     rw [this.1] at ih
     exact ⟨this.2.1,this.2.2,ih⟩
end
noncomputable section
theorem digits_small {x:Nat} (h:x < 40):(∀ c ∈ digits (x:Int),isDig 10 c=true) ∧ pv (digits (x:Int))=x ∧ digits (x:Int) ≠ [] ∧ (digits (x:Int)).length ≤ 2:=by
 have t:∀ x,x < 40 → (∀ c ∈ digits ((x:Nat):Int),isDig 10 c=true) ∧ pv (digits ((x:Nat):Int))=x ∧ digits ((x:Nat):Int) ≠ [] ∧ (digits ((x:Nat):Int)).length ≤ 2:=by decide +kernel
 exact t x h
noncomputable def noP (_:Nat):List Nat:=[]
noncomputable def noS (_:Nat):Bool:=false
noncomputable def rotD (a t n:Nat):List Nat:=if n < a + t then digits ((rotP a t n + 1:Nat):Int) else []
noncomputable def starS (s n:Nat):Bool:=decide (n=s)
section
variable {T:List Ent} (hT:Core T)
include hT
theorem scan_seq (k:Nat) {t:List Nat} (ht:t.length ≤ 400) (hu:∀ c ∈ t,c < 1114112) {ps:List Pc} (hg:∀ p ∈ ps,p.Good) (hm:keptN ps 0 ≤ 100) (hl:3 * (textOf (itsP noP noS ps 0)).length ≤ LIM) {count:Int} (hc:count=0 ∨ count=keptN ps 0) :
  Ph T (k + 7) 30 [.val (.str t),.val (.str (textOf (itsP noP noS ps 0))),.val (.int count)] none=some (scanO (lay (keptN ps 0)) (rdP noS ps 0 0 0 t)):=by
 rw [← rd_its hg (pd:=noP)]
 exact scan_text_ok hT (lay_seq _) (pos_seq hc hm) k ht hu (its_good (fun n c h=>absurd h List.not_mem_nil) hg 0) (its_idx (jj:=id) rfl (fun _ _ h=>tf h.symm) (fun n hn _=>⟨rfl,hn,rfl⟩) hg rfl (Nat.zero_le _)) nofun hl
theorem scan_rot (k:Nat) {t:List Nat} (ht:t.length ≤ 400) (hu:∀ c ∈ t,c < 1114112) {ps:List Pc} (hg:∀ p ∈ ps,p.Good) {a b:Nat} (hm:keptN ps 0=a + b) (hab:a + b ≤ 30) (ha:0 < a) (hl:3 * (textOf (itsP (rotD a b) noS ps 0)).length ≤ LIM) {count:Int} (hc:count=0 ∨ count=(a + b:Nat)) :
  Ph T (k + 7) 30 [.val (.str t),.val (.str (textOf (itsP (rotD a b) noS ps 0))),.val (.int count)] none=some (scanO (fun ws=>rotL a (lay (a + b) ws)) (rdP noS ps 0 0 0 t)):=by
 have P:=pos_rot hc (Nat.le_trans hab (by decide)) ha
 have hd:∀ n,n < a + b → rotP a b n + 1 < 40:=fun n h=>Nat.lt_of_le_of_lt (P.lt n h) (Nat.lt_of_le_of_lt hab (by decide))
 rw [← rd_its hg (pd:=rotD a b)]
 refine scan_text_ok hT lay_rot P k ht hu (its_good (fun n c hc=>?_) hg 0) (its_idx (jj:=id) rfl (fun _ _ h=>tf h.symm) (fun n hn _=>⟨rfl,hn,?_⟩) hg hm (Nat.zero_le _)) (fun _=>Nat.lt_of_lt_of_le ha (Nat.le_add_right a b)) hl
 ·unfold rotD at hc
  split at hc
  ·exact (digits_small (hd n ‹_›)).1 c hc
  ·cases hc
 ·unfold rotD
  rw [if_pos hn]
  exact (digits_small (hd n hn)).2.1
theorem scan_star (k:Nat) {t:List Nat} (ht:t.length ≤ 400) (hu:∀ c ∈ t,c < 1114112) {ps:List Pc} (hg:∀ p ∈ ps,p.Good) {s:Nat} (hs:s < keptN ps 0) (hm:keptN ps 0 ≤ 100) (hl:3 * (textOf (itsP noP (starS s) ps 0)).length ≤ LIM) :
  Ph T (k + 7) 30 [.val (.str t),.val (.str (textOf (itsP noP (starS s) ps 0))),.val (.int 0)] none=some (scanO (lay (keptN ps 0 - 1)) (rdP (starS s) ps 0 0 0 t)):=by
 rw [← rd_its hg (pd:=noP)]
 refine scan_text_ok hT (lay_seq _) (pos_seq (.inl rfl) (Nat.le_trans (Nat.sub_le _ _) hm)) k ht hu (its_good (fun n c h=>absurd h List.not_mem_nil) hg 0) (its_idx (jj:=fun n=>if n ≤ s then n else n - 1) (if_neg (Nat.not_le.mpr hs)) (fun n _ h=>?_) (fun n hn h=>?_) hg rfl (Nat.zero_le _)) nofun hl
 ·cases of_decide_eq_true h
  rw [if_neg (Nat.not_le.mpr (Nat.lt_succ_self s)),if_pos (Nat.le_refl s)]; rfl
 ·have h:=of_decide_eq_false h
  rcases Nat.lt_or_ge n s with q | q
  ·rw [if_pos (show n + 1 ≤ s from q),if_pos (Nat.le_of_lt q)]
   exact ⟨rfl,Nat.lt_of_lt_of_le q (Nat.le_sub_one_of_lt hs),rfl⟩
  ·have q:=Nat.lt_of_le_of_ne q (Ne.symm h)
   have h0:1 ≤ n:=Nat.lt_of_le_of_lt (Nat.zero_le _) q
   rw [if_neg (Nat.not_le.mpr (Nat.lt_succ_of_lt q)),if_neg (Nat.not_le.mpr q)]
   exact ⟨(Nat.sub_add_cancel h0).symm,Nat.sub_lt_sub_right h0 hn,rfl⟩
end
theorem readField_size {w sort mem size:List Nat} {v:Option (List Nat)} {n:Nat} (h:readField w sort mem size=.ok (v,n)):∃ v',readField w sort mem []=.ok (v',n) ∧ (v'.isSome=v.isSome):=by
 have tl:∀ {w:List Nat} {g:Nat} {b:Bool},readTail w g b sort size=.ok (v,n) → ∃ v',readTail w g b sort []=.ok (v',n) ∧ (v'.isSome=v.isSome):=fun {w g b} h=>by
  unfold readTail at h ⊢
  split at h
  ·cases h; rw [if_pos ‹_›]; exact ⟨_,rfl,rfl⟩
  ·rw [if_neg ‹_›]
   revert h
   cases fitO _ _ size with
   | error e=>intro h; cases h
   | ok x=>intro h; cases h; exact ⟨_,rfl,rfl⟩
 unfold readField at h ⊢
 split at h
 ·rw [if_pos ‹_›]; exact ⟨v,h,rfl⟩
 ·rw [if_neg ‹_›]
  split at h
  ·rw [if_pos ‹_›]
   unfold readWhole at h ⊢
   split at h
   ·rw [if_pos ‹_›]; exact tl h
   ·rw [if_neg ‹_›]; exact tl h
  ·rw [if_neg ‹_›]; exact ⟨v,h,rfl⟩
theorem fieldO_star {w s m r:List Nat} {so sk:Nat} {x y:WR} (h:∀ v n,x=.ok (v,n) → ∃ v',y=.ok (v',n) ∧ v'.isSome=v.isSome) :
  (∀ sh,fieldO ⟨false,[],w,s,so,m⟩ sk r x=.stop sh → fieldO ⟨true,[],w,s,so,m⟩ sk r y=.stop sh) ∧ ∀ v u,fieldO ⟨false,[],w,s,so,m⟩ sk r x=.go v u → fieldO ⟨true,[],w,s,so,m⟩ sk r y=.go [] u ∧ ∃ z,v=[z]:=by
 cases x with
 | error e=>exact ⟨fun sh h=>(nomatch (h:IOut.err e=.stop sh)),fun v u h=>(nomatch (h:IOut.err e=.go v u))⟩
 | ok x =>
  obtain ⟨v,n⟩:=x
  obtain ⟨v',rfl,q⟩:=h v n rfl
  cases v with
  | none =>
   cases v' with
   | some z=>cases q
   | none=>exact ⟨fun sh h=>h,fun v u h=>nomatch (h:IOut.stop _=.go v u)⟩
  | some v =>
   cases v' with
   | none=>cases q
   | some z=>exact ⟨fun sh h=>(nomatch (h:IOut.go _ _=.stop sh)),fun v u h=>by cases (h:IOut.go _ _=.go v u); exact ⟨rfl,_,rfl⟩⟩
theorem star_go {p:Pc} {here:Nat} {r:List Nat} (hk:p.kept=true):(∀ sh,pcR p false here r=.stop sh → pcR p true here r=.stop sh) ∧ ∀ v u,pcR p false here r=.go v u → pcR p true here r=.go [] u ∧ ∃ z,v=[z]:=by
 cases p with
 | txt k its=>cases hk
 | fld w s so m k =>
  have e:∀ b,pcR (.fld w s so m k) b here r=if decide ([so]=[110])=true then .go (keepV ⟨b,[],w,s,so,m⟩ (digits here)) 0 else fieldR ⟨b,[],w,s,so,m⟩ (skipN so r) (r.drop (skipN so r)):=fun b=>rfl
  rw [e,e]
  by_cases q:decide ([so]=[110])=true
  ·rw [if_pos q,if_pos q]
   exact ⟨fun sh h=>(nomatch h),fun v u h=>by cases h; exact ⟨rfl,_,rfl⟩⟩
  ·rw [if_neg q,if_neg q]
   unfold fieldR
   by_cases z:r.drop (skipN so r)=[]
   ·rw [if_pos z,if_pos z]
    exact ⟨fun sh h=>h,fun v u h=>nomatch h⟩
   ·rw [if_neg z,if_neg z]
    exact fieldO_star fun v n h=>readField_size h
theorem pc_go {p:Pc} (g:p.Good) {star:Bool} {here u:Nat} {r:List Nat} {v:List (List Nat)} (e:pcR p star here r=.go v u):v.length ≤ 1 ∧ (star=true → v=[]) ∧ u ≤ r.length:=by
 cases p with
 | txt k its=>obtain ⟨rfl,h⟩:=(rd_txt [] g here 0 r).2.2 v u e; exact ⟨Nat.zero_le _,fun _=>rfl,h⟩
 | fld w s so m k =>
  obtain ⟨⟨w,rfl⟩,h⟩:=fld_go e
  unfold keepV
  cases star
  ·exact ⟨Nat.le_refl 1,nofun,h⟩
  ·exact ⟨Nat.zero_le _,fun _=>rfl,h⟩
theorem rd_star {s:Nat}:∀ (ps:List Pc),(∀ p ∈ ps,p.Good) → ∀ (n here many:Nat) (r:List Nat),(∀ e,(rdP noS ps n here many r).2 ≠ .err e) →
  rdP (starS s) ps n here many r=(if n ≤ s then (rdP noS ps n here many r).1.eraseIdx (s - n) else (rdP noS ps n here many r).1,(rdP noS ps n here many r).2):=by
 intro ps
 induction ps with
 | nil=>intro _ n here many r _; show (([]:List (List Nat)),_)=(if n ≤ s then _ else _,_); split <;> rfl
 | cons p ps ih =>
  intro hg n here many r he
  have ih:=ih fun q hq=>hg q (.tail _ hq)
  have e1:rdP noS (p::ps) n here many r=rdO many (fun v u=>let x:=rdP noS ps (nx p n) (here + u) (many + p.cnt) (r.drop u); (v ++ x.1,x.2)) (pcR p (!p.kept || noS n) here r):=rfl
  have e2:rdP (starS s) (p::ps) n here many r=rdO many (fun v u=>let x:=rdP (starS s) ps (nx p n) (here + u) (many + p.cnt) (r.drop u); (v ++ x.1,x.2)) (pcR p (!p.kept || starS s n) here r):=rfl
  rw [e1] at he ⊢
  rw [e2]
  unfold nx at he ⊢
  rw [show noS n=false from rfl,Bool.or_false] at he ⊢
  have st:∀ (m:Nat) (sh:Bool),(([]:List (List Nat)),End.fin m sh)=(if n ≤ s then ([]:List (List Nat)).eraseIdx (s - n) else [],End.fin m sh):=fun m sh=>by split <;> rfl
  cases hk:p.kept with
  | false =>
   rw [hk] at he
   rw [Bool.not_false,Bool.true_or]
   cases e:pcR p true here r with
   | err x=>rw [Bool.not_false,e] at he; exact absurd rfl (he x)
   | stop sh=>exact st _ _
   | go v u =>
    rw [Bool.not_false,e] at he
    rw [(pc_go (hg p (.head _)) e).2.1 rfl]
    exact ih n _ _ _ he
  | true =>
   rw [hk] at he
   rw [Bool.not_true,Bool.false_or]
   rw [Bool.not_true] at he
   obtain ⟨g1,g2⟩:=star_go (p:=p) (here:=here) (r:=r) hk
   cases e:pcR p false here r with
   | err x=>rw [e] at he; exact absurd rfl (he x)
   | stop sh =>
    cases q:starS s n with
    | true=>rw [g1 sh e]; exact st _ _
    | false=>rw [e]; exact st _ _
   | go v u =>
    rw [e] at he
    obtain ⟨ex,z,rfl⟩:=g2 v u e
    have i:=ih (n + 1) (here + u) (many + p.cnt) (r.drop u) he
    rcases Nat.lt_trichotomy n s with q | q | q
    ·rw [show starS s n=false from decide_eq_false (Nat.ne_of_lt q),e]
     rw [if_pos (show n + 1 ≤ s from q)] at i
     refine (congrArg (fun y:List (List Nat) × End=>([z] ++ y.1,y.2)) i).trans ?_
     rw [if_pos (Nat.le_of_lt q),show s - n=(s - (n + 1)) + 1 from (Nat.sub_add_cancel (Nat.sub_pos_of_lt q)).symm]
     rfl
    ·rw [show starS s n=true from decide_eq_true q,ex]
     rw [if_neg (by rw [q]; exact Nat.not_succ_le_self s)] at i
     refine (congrArg (fun y:List (List Nat) × End=>(([]:List (List Nat)) ++ y.1,y.2)) i).trans ?_
     rw [if_pos (Nat.le_of_eq q),q,Nat.sub_self]
     rfl
    ·rw [show starS s n=false from decide_eq_false (Nat.ne_of_gt q),e]
     rw [if_neg (Nat.not_le.mpr (Nat.lt_succ_of_lt q))] at i
     refine (congrArg (fun y:List (List Nat) × End=>([z] ++ y.1,y.2)) i).trans ?_
     rw [if_neg (Nat.not_le.mpr q)]
     rfl
end
noncomputable section
noncomputable def Txt (l:List Nat):Prop:=l.length ≤ 700 ∧ ∀ c ∈ l,c < 1114112
structure Fine (t:List Nat):Prop where
 len:t.length ≤ 400
 chr:∀ c ∈ t,c < 1114112
theorem Fine.drop {t:List Nat} (h:Fine t) (n:Nat):Fine (t.drop n):=⟨by rw [List.length_drop]; exact Nat.le_trans (Nat.sub_le _ _) h.len,fun c hc=>h.chr c (List.mem_of_mem_drop hc)⟩
theorem Fine.take {t:List Nat} (h:Fine t) (n:Nat):Fine (t.take n):=⟨Nat.le_trans (List.length_take_le' _ _) h.len,fun c hc=>h.chr c (List.mem_of_mem_take hc)⟩
theorem Fine.run {t:List Nat} (h:Fine t) (P:Nat → Bool):Txt (t.takeWhile P):=⟨Nat.le_trans (run_len _ _) (Nat.le_trans h.len (by decide)),fun c hc=>h.chr c ((List.takeWhile_sublist P).subset hc)⟩
theorem digits_txt {i:Int} (h:i.natAbs < b1900):Txt (digits i):=by
 have h1:b1900 ≤ 10 ^ 600:=by decide +kernel
 have h2:(toString i).toList.length ≤ _:=int_text_length_le10 (a:=i) (k:=600) (by decide) (Nat.lt_of_lt_of_le h h1)
 unfold digits
 refine ⟨by rw [List.length_map]; exact Nat.le_trans h2 (by decide),fun c hc=>?_⟩
 obtain ⟨x,_,rfl⟩:=List.mem_map.mp hc
 rcases x.valid with h | h
 ·exact Nat.lt_trans h (by decide)
 ·exact h.2
noncomputable def ValW (x:WR):Prop:=match x with
 | .error e=>e=fUns
 | .ok y=>∀ l,y.1=some l → Txt l
theorem fitO_err {n:Int} {uns:Bool} {size:List Nat} {e:Exn} (h:fitO n uns size=.error e):e=fUns:=by
 unfold fitO at h
 split at h
 ·split at h
  ·cases h; rfl
  ·cases h
 ·cases h
theorem tail_val {w sort size:List Nat} {g:Nat} {b:Bool} (hw:w.length ≤ 400):ValW (readTail w g b sort size):=by
 unfold readTail
 refine ite_ok (P:=ValW) (fun _=>nofun) ?_
 have hl:(digsW w (readBase w sort)).length ≤ 400:=Nat.le_trans (run_len _ _) (by rw [List.length_drop]; exact Nat.le_trans (Nat.sub_le _ _) hw)
 have ha:=numW_abs (minus:=b) (readBase_ok w sort).1 (show ∀ c ∈ digsW w (readBase w sort),_ from all_run) hl
 cases hf:fitO (numW b (readBase w sort).1 (digsW w (readBase w sort))) (decide (sort=[117])) size with
 | error e=>exact fitO_err hf
 | ok n=>exact fun l h=>by cases h; exact digits_txt (fitO_abs hf ha)
theorem run_val {w r:List Nat} (h:Txt r):ValW (readRun w r):=ite_ok (P:=ValW) (fun _=>nofun) fun l e=>by cases e; exact h
theorem field_val {w sort mem size:List Nat} (hw:Fine w):ValW (readField w sort mem size) :=
 ite_ok (P:=ValW) (fun _ l e=>by cases e; exact digits_txt (Nat.lt_trans (chr_lt hw.chr 0) (Nat.lt_trans (by decide) b_big.2)))
  (ite_ok (P:=ValW) (fun _=>ite_ok (P:=ValW) (fun _=>tail_val (hw.drop 1).len) (tail_val hw.len)) (ite_ok (P:=ValW) (fun _=>run_val (hw.run _)) (run_val (hw.run _))))
noncomputable def ValI (x:IOut):Prop:=match x with
 | .err e=>e=fUns
 | .stop _=>True
 | .go v _=>∀ l ∈ v,Txt l
theorem keep_val {f:Fld} {l:List Nat} (h:Txt l):∀ x ∈ keepV f l,Txt x:=ite_ok (P:=fun v:List (List Nat)=>∀ x ∈ v,Txt x) (fun _=>nofun) fun x hx=>by rw [List.mem_singleton.mp hx]; exact h
theorem fieldR_val {f:Fld} {sk:Nat} {r:List Nat} (h:Fine r):ValI (fieldR f sk r):=by
 refine ite_ok (P:=ValI) (fun _=>trivial) ?_
 have hc:Fine (cutW (pv f.wid) r):=ite_ok (P:=Fine) (fun _=>h) (h.take _)
 have hv:=field_val (sort:=[f.sort]) (mem:=memF f) (size:=szF f) hc
 cases hr:readField (cutW (pv f.wid) r) [f.sort] (memF f) (szF f) with
 | error e=>rw [hr] at hv; exact hv
 | ok x =>
  obtain ⟨v,n⟩:=x
  rw [hr] at hv
  cases v with
  | none=>exact trivial
  | some v=>exact keep_val (hv v rfl)
theorem pcR_val {p:Pc} (g:p.Good) {star:Bool} {here:Nat} (hh:here ≤ 400) {r:List Nat} (h:Fine r):ValI (pcR p star here r):=by
 cases p with
 | txt k its =>
  obtain ⟨_,h1,h2⟩:=rd_txt [] g here 0 r
  show ValI (txtR its here r)
  cases e:txtR its here r with
  | err x=>exact absurd e (h1 x)
  | stop sh=>exact trivial
  | go v u=>rw [(h2 v u e).1]; exact nofun
 | fld w s so m k=>exact ite_ok (P:=ValI) (fun _=>keep_val (digits_txt (Nat.lt_of_le_of_lt hh (Nat.lt_trans (by decide) b_big.2)))) (fieldR_val (h.drop _))
noncomputable def ValR (x:List (List Nat) × End) (n:Nat):Prop:=(∀ l ∈ x.1,Txt l) ∧ x.1.length ≤ n ∧ ∀ e,x.2=.err e → e=fUns
theorem keptN_le:∀ (ps:List Pc) (n:Nat),n ≤ keptN ps n:=by
 intro ps
 induction ps with
 | nil=>intro n; exact Nat.le_refl n
 | cons p ps ih=>intro n; exact Nat.le_trans (by unfold nx; split; exact Nat.le_succ n; exact Nat.le_refl n) (ih (nx p n))
theorem rd_val:∀ (ps:List Pc),(∀ p ∈ ps,p.Good) → ∀ (n here many:Nat) {r:List Nat},here + r.length ≤ 400 → Fine r → ValR (rdP noS ps n here many r) (keptN ps n - n):=by
 intro ps
 induction ps with
 | nil=>intro _ n here many r _ _; exact ⟨nofun,Nat.zero_le _,nofun⟩
 | cons p ps ih =>
  intro hg n here many r hh h
  have hp:=pcR_val (star:=!p.kept || noS n) (hg p (.head _)) (Nat.le_trans (Nat.le_add_right _ _) hh) h
  show ValR (rdO many _ (pcR p (!p.kept || noS n) here r)) _
  cases e:pcR p (!p.kept || noS n) here r with
  | err x=>rw [e] at hp; exact ⟨nofun,Nat.zero_le _,fun y q=>by cases q; exact hp⟩
  | stop sh=>exact ⟨nofun,Nat.zero_le _,nofun⟩
  | go v u =>
   rw [e] at hp
   obtain ⟨k1,k2,hu⟩:=pc_go (hg p (.head _)) e
   obtain ⟨a,b,c⟩:=ih (fun q hq=>hg q (.tail _ hq)) (nx p n) (here + u) (many + p.cnt) (r:=r.drop u) (by rw [List.length_drop,Nat.add_assoc,Nat.add_sub_cancel' hu]; exact hh) (h.drop u)
   refine ⟨fun l hl=>(List.mem_append.mp hl).elim (hp l) (a l),?_,c⟩
   show (v ++ _).length ≤ keptN ps (nx p n) - n
   rw [List.length_append]
   have hk:=keptN_le ps (nx p n)
   unfold nx at b hk ⊢
   cases q:p.kept with
   | true =>
    rw [q,if_pos rfl] at b hk
    rw [if_pos rfl]
    exact Nat.le_trans (Nat.add_le_add k1 b) (Nat.le_of_eq (by rw [← Nat.sub_sub,Nat.add_comm,Nat.sub_add_cancel (Nat.sub_pos_of_lt hk)]))
   | false=>rw [q,if_neg (by decide)] at b; rw [if_neg (by decide),k2 (by rw [q]; rfl)]; exact Nat.le_trans (Nat.le_of_eq (Nat.zero_add _)) b
end
noncomputable section
noncomputable def Shows (x:PV):Prop:=(x.plain 8 && x.toPy.showable && decide ((reprOf x).length ≤ strLine))=true
theorem repr_ok {x:PV} (h:Shows x):biop .repr [x]=some (.str (reprOf x)):=if_pos h
theorem shows_of {x:PV} (a:x.plain 8=true) (b:x.toPy.showable=true) (c:(reprOf x).length ≤ 16777216):Shows x:=by
 unfold Shows; rw [a,b,decide_eq_true (sline c)]; rfl
theorem repr_len {l:List Nat} (h:Txt l):(reprText ⟨l.toArray⟩).length ≤ 8000:=by
 have:=StrLaws.foldl_repr_len (reprQuote ⟨l.toArray⟩) l #[reprQuote ⟨l.toArray⟩] fun c hc=>Nat.lt_trans (h.2 c hc) (by decide)
 unfold reprText
 show (Array.push _ _).size ≤ _
 rw [Array.size_push,← Array.foldl_toList]
 have e1:(#[reprQuote ⟨l.toArray⟩]:Array Nat).size=1:=rfl
 have:=h.1
 simp only [List.toList_toArray]
 omega
noncomputable def ValOk (v:Option (List Nat)):Prop:=∀ l,v=some l → Txt l
theorem val_len {v:Option (List Nat)} (h:ValOk v):(PyData.shown (optPV v).toPy).length ≤ 8000:=by
 cases v with
 | none=>show (PyData.shown .none).length ≤ _; decide +kernel
 | some l=>exact repr_len (h l rfl)
theorem val_plain {v:Option (List Nat)} (h:ValOk v) (n:Nat):(optPV v).plain n=true:=by
 cases v with
 | none=>cases n <;> rfl
 | some l =>
  have e:(optPV (some l)).plain n=l.all (· < 0x110000):=by cases n <;> rfl
  rw [e]
  exact List.all_eq_true.mpr fun c hc=>decide_eq_true ((h l rfl).2 c hc)
theorem val_show {v:Option (List Nat)} (h:ValOk v):Shows (optPV v):=by
 refine shows_of (val_plain h 8) (by cases v <;> rfl) ?_
 show (PyData.shown (optPV v).toPy).cps.toList.length ≤ _
 rw [Array.length_toList]
 exact Nat.le_trans (val_len h) (by decide)
theorem from_len:∀ (ts:List Str) (k:Nat) (acc:Str),(textFrom k acc ts).length ≤ acc.length + piled ts:=by
 intro ts
 induction ts with
 | nil=>intro k acc; exact Nat.le_refl _
 | cons t ts ih =>
  intro k acc
  refine Nat.le_trans (ih _ _) ?_
  have h1:(Str.ofString (if k > 0 then ", " else "":String)).length ≤ 2:=by split <;> decide
  rw [piled_cons,show (acc ++ (if k > 0 then ", " else "":String) ++ t).length=acc.length + (Str.ofString (if k > 0 then ", " else "":String)).length + t.length by rw [Str.length_append,Str.length_append]]
  omega
theorem vals_ok:∀ {vs:List (Option (List Nat))},(∀ v ∈ vs,ValOk v) → PV.plains (vs.map optPV) 7=true ∧ PyData.showableAll (PV.toPys (vs.map optPV))=true ∧ piled (PyData.shownAll (PV.toPys (vs.map optPV))) ≤ 8002 * vs.length:=by
 intro vs
 induction vs with
 | nil=>intro _; exact ⟨rfl,rfl,Nat.le_refl 0⟩
 | cons v r ih =>
  intro h
  obtain ⟨a,b,c⟩:=ih fun x hx=>h x (.tail _ hx)
  refine ⟨?_,?_,?_⟩
  ·show ((optPV v).plain 7 && PV.plains (r.map optPV) 7)=true
   rw [val_plain (h v (.head _)),a]; rfl
  ·show ((optPV v).toPy.showable && PyData.showableAll (PV.toPys (r.map optPV)))=true
   rw [b]
   cases v <;> rfl
  ·show piled (PyData.shown (optPV v).toPy::PyData.shownAll (PV.toPys (r.map optPV))) ≤ 8002 * (r.length + 1)
   rw [piled_cons]
   have:=val_len (h v (.head _))
   omega
theorem vals_show {vs:List (Option (List Nat))} (h:∀ v ∈ vs,ValOk v) (hl:vs.length ≤ 100):Shows (.lst (vs.map optPV)):=by
 obtain ⟨a,b,c⟩:=vals_ok h
 refine shows_of a b ?_
 show (listText (PyData.shownAll (PV.toPys (vs.map optPV)))).cps.toList.length ≤ _
 rw [Array.length_toList]
 have h2:=from_len (PyData.shownAll (PV.toPys (vs.map optPV))) 0 "["
 have h3:(listText (PyData.shownAll (PV.toPys (vs.map optPV)))).length=(textFrom 0 "[" (PyData.shownAll (PV.toPys (vs.map optPV)))).length + 1:=by unfold listText; rw [Str.length_append]; rfl
 have h4:("[":Str).length=1:=by decide
 show (listText (PyData.shownAll (PV.toPys (vs.map optPV)))).length ≤ _
 omega
noncomputable def tryV (o:OutE):PV:=match o with
 | .ok x=>x.1
 | .error e=>.tup [.int e.code,.str e.value,.tup (e.ec.map .str)]
noncomputable def ansV (F:List (List Nat) → List (Option (List Nat))) (R:List (List Nat) × End):PV:=tryV (scanO F R)
noncomputable def uV:PV:=tryV (.error fUns)
theorem uns_show:Shows uV:=shows_of (by decide +kernel) (by decide +kernel) (by decide +kernel)
theorem m1_show:Shows (.int (-1)):=shows_of rfl (by decide +kernel) (by decide +kernel)
theorem lay_val {m:Nat} {ws:List (List Nat)} (h:∀ l ∈ ws,Txt l):∀ v ∈ lay m ws,ValOk v:=by
 intro v hv l e
 subst e
 unfold lay at hv
 rcases List.mem_append.mp hv with hv | hv
 ·obtain ⟨w,hw,e⟩:=List.mem_map.mp hv
  cases e; exact h _ hw
 ·cases (List.mem_replicate.mp hv).2
theorem ans_show {F:List (List Nat) → List (Option (List Nat))} {n:Nat} {R:List (List Nat) × End} (h:ValR R n) (hF:(∀ v ∈ F R.1,ValOk v) ∧ (F R.1).length ≤ 100):Shows (ansV F R):=by
 obtain ⟨ws,e⟩:=R
 unfold ansV scanO
 cases e with
 | err x=>rw [h.2.2 x rfl]; exact uns_show
 | fin many sh =>
  show Shows (tryV (if (sh && decide ((many:Int)=0))=true then .ok (.int (-1),none) else .ok (.lst ((F ws).map optPV),none)))
  exact ite_ok (P:=fun o=>Shows (tryV o)) (fun _=>m1_show) (vals_show hF.1 hF.2)
noncomputable def tryO (o:OutE):OutE:=match o with
 | .ok x=>.ok x
 | .error e=>.ok (.tup [.int e.code,.str e.value,.tup (e.ec.map .str)],none)
theorem try_scan (F:List (List Nat) → List (Option (List Nat))) (R:List (List Nat) × End):tryO (scanO F R)=.ok (ansV F R,none):=by
 obtain ⟨ws,e⟩:=R
 unfold ansV scanO
 cases e with
 | err x=>rfl
 | fin many sh =>
  show tryO (if (sh && decide ((many:Int)=0))=true then .ok (.int (-1),none) else .ok (.lst ((F ws).map optPV),none))=.ok (tryV (if (sh && decide ((many:Int)=0))=true then .ok (.int (-1),none) else .ok (.lst ((F ws).map optPV),none)),none)
  split <;> rfl
theorem ph_try {T:List Ent} {k f np:Nat} {names:List PySem.Str} {c:CE} {args:List SV} {o:OutE} (e:T[f]?=some (.tr np names c)) (hl:args.length=np)
  (h:wE (Ph T k) (IsO o) c (pad args (names.length - np)) none fun v p=>IsO o (.ok (v,p))):Ph T (k + 1) f args none=some (tryO o):=by
 have hw:kE c (Ph T k) (pad args (names.length - np)) none endK=some o:=W_eq (W_E (Q:=IsO o) h fun v p hv=>⟨_,rfl,hv⟩)
 show opK T[f]? _=_
 rw [e]
 show gK (args.length=np) (tryR (kE c (Ph T k) (pad args (names.length - np)) none endK))=_
 unfold gK
 rw [if_pos hl,hw]
 cases o <;> rfl
end
end Mp
end
section
open PySem PySem.W PyProof.Rows PySem.Calls PyProof
set_option Elab.async false
set_option maxRecDepth 1000000
set_option linter.unusedVariables false
namespace Mp.L3
noncomputable def n_law_told:List Str:=[]
noncomputable def c_law_told:CSs :=
 (.cons (.retn (.seq false (.cons (.seq true (.cons (.cst (.str [45,48,120,49,102,32,55,44,97,98,93,57])) (.cons (.cst (.int 0)) (.cons (.cst (.str [98])) (.cons (.cst (.int 2)) (.cons (.cst (.str [97,45,98])) (.cons (.seq false (.cons (.seq true (.cons (.cst (.str [105])) (.cons (.cst (.int 0)) (.cons (.cst (.int 0)) (.cons (.cst (.int 0)) .nil))))) (.cons (.seq true (.cons (.cst (.str [100])) (.cons (.cst (.int 2)) (.cons (.cst (.int 1)) (.cons (.cst (.int 0)) .nil))))) (.cons (.seq true (.cons (.cst (.str [44])) (.cons (.cst (.int 0)) (.cons (.cst (.int 0)) (.cons (.cst (.int 0)) .nil))))) (.cons (.seq true (.cons (.cst (.str [91])) (.cons (.cst (.int 0)) (.cons (.cst (.int 0)) (.cons (.cst (.int 0)) .nil))))) (.cons (.seq true (.cons (.cst (.str [110])) (.cons (.cst (.int 0)) (.cons (.cst (.int 0)) (.cons (.cst (.int 0)) .nil))))) .nil)))))) .nil))))))) (.cons (.seq true (.cons (.cst (.str [12,32,49,56,52,52,54,55,52,52,48,55,51,55,48,57,53,53,49,54,49,54,32,45,54])) (.cons (.cst (.int 0)) (.cons (.cst (.str [99,45])) (.cons (.cst (.int 1)) (.cons (.cst (.str [45])) (.cons (.seq false (.cons (.seq true (.cons (.cst (.str [32])) (.cons (.cst (.int 0)) (.cons (.cst (.int 0)) (.cons (.cst (.int 0)) .nil))))) (.cons (.seq true (.cons (.cst (.str [110])) (.cons (.cst (.int 0)) (.cons (.cst (.int 0)) (.cons (.cst (.int 0)) .nil))))) (.cons (.seq true (.cons (.cst (.str [117])) (.cons (.cst (.int 0)) (.cons (.cst (.int 2)) (.cons (.cst (.int 0)) .nil))))) (.cons (.seq true (.cons (.cst (.str [110])) (.cons (.cst (.int 0)) (.cons (.cst (.int 0)) (.cons (.cst (.int 1)) .nil))))) (.cons (.seq true (.cons (.cst (.str [117])) (.cons (.cst (.int 6)) (.cons (.cst (.int 3)) (.cons (.cst (.int 0)) .nil))))) .nil)))))) .nil))))))) (.cons (.seq true (.cons (.cst (.str [97])) (.cons (.cst (.int 3)) (.cons (.cst (.str [48])) (.cons (.cst (.int 0)) (.cons (.cst (.str [97])) (.cons (.seq false (.cons (.seq true (.cons (.cst (.str [115])) (.cons (.cst (.int 0)) (.cons (.cst (.int 0)) (.cons (.cst (.int 1)) .nil))))) (.cons (.seq true (.cons (.cst (.str [100])) (.cons (.cst (.int 0)) (.cons (.cst (.int 0)) (.cons (.cst (.int 0)) .nil))))) .nil))) .nil))))))) (.cons (.seq true (.cons (.cst (.str [43,49])) (.cons (.cst (.int 1)) (.cons (.cst (.str [48,45,57])) (.cons (.cst (.int 0)) (.cons (.cst (.str [43])) (.cons (.seq false (.cons (.seq true (.cons (.cst (.str [100])) (.cons (.cst (.int 2)) (.cons (.cst (.int 0)) (.cons (.cst (.int 0)) .nil))))) (.cons (.seq true (.cons (.cst (.str [120])) (.cons (.cst (.int 4)) (.cons (.cst (.int 5)) (.cons (.cst (.int 0)) .nil))))) .nil))) .nil))))))) (.cons (.seq true (.cons (.cst (.str [233,37,48,98,49,48,49,11,48,56])) (.cons (.cst (.int 1)) (.cons (.cst (.str [98,45,48])) (.cons (.cst (.int 0)) (.cons (.cst (.str [48,37,45])) (.cons (.seq false (.cons (.seq true (.cons (.cst (.str [99])) (.cons (.cst (.int 0)) (.cons (.cst (.int 1)) (.cons (.cst (.int 0)) .nil))))) (.cons (.seq true (.cons (.cst (.str [37])) (.cons (.cst (.int 0)) (.cons (.cst (.int 0)) (.cons (.cst (.int 0)) .nil))))) (.cons (.seq true (.cons (.cst (.str [98])) (.cons (.cst (.int 5)) (.cons (.cst (.int 0)) (.cons (.cst (.int 0)) .nil))))) (.cons (.seq true (.cons (.cst (.str [91])) (.cons (.cst (.int 0)) (.cons (.cst (.int 0)) (.cons (.cst (.int 0)) .nil))))) (.cons (.seq true (.cons (.cst (.str [111])) (.cons (.cst (.int 0)) (.cons (.cst (.int 4)) (.cons (.cst (.int 0)) .nil))))) .nil)))))) .nil))))))) (.cons (.seq true (.cons (.cst (.str [97,97,98,94,45,99,32,10,46])) (.cons (.cst (.int 1)) (.cons (.cst (.str [94,45])) (.cons (.cst (.int 0)) (.cons (.cst (.str [45,45,99])) (.cons (.seq false (.cons (.seq true (.cons (.cst (.str [91])) (.cons (.cst (.int 3)) (.cons (.cst (.int 0)) (.cons (.cst (.int 0)) .nil))))) (.cons (.seq true (.cons (.cst (.str [91])) (.cons (.cst (.int 6)) (.cons (.cst (.int 1)) (.cons (.cst (.int 0)) .nil))))) (.cons (.seq true (.cons (.cst (.str [110])) (.cons (.cst (.int 0)) (.cons (.cst (.int 0)) (.cons (.cst (.int 0)) .nil))))) (.cons (.seq true (.cons (.cst (.str [99])) (.cons (.cst (.int 0)) (.cons (.cst (.int 0)) (.cons (.cst (.int 0)) .nil))))) (.cons (.seq true (.cons (.cst (.str [115])) (.cons (.cst (.int 0)) (.cons (.cst (.int 0)) (.cons (.cst (.int 0)) .nil))))) .nil)))))) .nil))))))) .nil))))))))
 .nil)
noncomputable def n_law_draw:List Str:=["pen","many","drawn"]
noncomputable def c_law_draw:CSs :=
 (.cons (.assign 2 (.bin .mod (.penGet 0) (.loc 1)))
 (.cons (.penSet 0 (.bin .fdiv (.penGet 0) (.loc 1)))
 (.cons (.retn (.loc 2))
 .nil)))
noncomputable def n_law_turned:List Str:=["told","signs","most","pen","size","made","place","c","turn"]
noncomputable def b_law_turned_1:CSs :=
 (.cons (.assign 7 (.ite (.cmp1 .lt (.loc 6) (.bi .len (.cons (.loc 0) .nil))) (.idx (.loc 0) (.loc 6)) (.idx (.loc 1) (.cst (.int 0)))))
 (.cons (.assign 8 (.callP 32 (.pen 3 (.cons (.bin .mul (.cst (.int 2)) (.bi .len (.cons (.loc 1) .nil))) .nil))))
 (.cons (.ite (.cmp1 .lt (.loc 8) (.bi .len (.cons (.loc 1) .nil)))
  (.cons (.assign 7 (.idx (.loc 1) (.bin .mod (.bin .add (.meth .index (.loc 1) (.loc 7)) (.loc 8)) (.bi .len (.cons (.loc 1) .nil)))))
  .nil)
  .nil)
 (.cons (.assign 5 (.bin .add (.loc 5) (.loc 7)))
 .nil))))
noncomputable def c_law_turned:CSs :=
 (.cons (.assign 4 (.bin .mod (.bin .add (.bi .len (.cons (.loc 0) .nil)) (.callP 32 (.pen 3 (.cons (.loc 2) .nil)))) (.loc 2)))
 (.cons (.assign 5 (.cst (.str [])))
 (.cons (.loop (.one 6) true (.loc 4) b_law_turned_1)
 (.cons (.retn (.loc 5))
 .nil))))
noncomputable def n_law_members:List Str:=["head","body","pen","made"]
noncomputable def c_law_members:CSs :=
 (.cons (.assign 3 (.bin .add (.idx (.seq false (.cons (.cst (.str [])) (.cons (.cst (.str [94])) (.cons (.cst (.str [93])) (.cons (.cst (.str [94,93])) .nil))))) (.bin .mod (.bin .add (.loc 0) (.callP 32 (.pen 2 (.cons (.cst (.int 4)) .nil)))) (.cst (.int 4)))) (.callP 33 (.cons (.loc 1) (.cons (.cst (.str [97,48,45,94,98,99,57,43,91,37,10])) (.cons (.cst (.int 6)) (.pen 2 .nil)))))))
 (.cons (.retn (.ite (.cmp1 .isIn (.loc 3) (.seq false (.cons (.cst (.str [])) (.cons (.cst (.str [94])) .nil)))) (.bin .add (.loc 3) (.cst (.str [48]))) (.loc 3)))
 .nil))
noncomputable def n_law_piece:List Str:=["told","members","pen","kinds","kind","width","size","is_kept","blanks","text","spec","wide_text"]
noncomputable def c_law_piece:CSs :=
 (.cons (.assign 3 (.cst (.str [100,105,117,111,120,88,98,99,115,110,91,32,37,97,44])))
 (.cons (.assign 4 (.idx (.loc 3) (.bin .mod (.bin .add (.meth .index (.loc 3) (.idx (.loc 0) (.cst (.int 0)))) (.callP 32 (.pen 2 (.cons (.cst (.int 15)) .nil)))) (.cst (.int 15)))))
 (.cons (.assign 5 (.bin .mod (.bin .add (.idx (.loc 0) (.cst (.int 1))) (.callP 32 (.pen 2 (.cons (.cst (.int 7)) .nil)))) (.cst (.int 7))))
 (.cons (.assign 6 (.idx (.seq false (.cons (.cst (.str [])) (.cons (.cst (.str [104])) (.cons (.cst (.str [108])) (.cons (.cst (.str [108,108])) (.cons (.cst (.str [113])) (.cons (.cst (.str [76])) (.cons (.cst (.str [116])) .nil)))))))) (.bin .mod (.bin .add (.idx (.loc 0) (.cst (.int 2))) (.callP 32 (.pen 2 (.cons (.cst (.int 7)) .nil)))) (.cst (.int 7)))))
 (.cons (.assign 7 (.cmp1 .eq (.bin .mod (.bin .add (.idx (.loc 0) (.cst (.int 3))) (.callP 32 (.pen 2 (.cons (.cst (.int 2)) .nil)))) (.cst (.int 2))) (.cst (.int 0))))
 (.cons (.ite (.cmp1 .isIn (.loc 4) (.cst (.str [32,37,97,44])))
  (.cons (.assign 8 (.seq false (.cons (.cst (.str [32])) (.cons (.cst (.str [10,9])) (.cons (.cst (.str [11])) (.cons (.cst (.str [12,13])) (.cons (.cst (.str [32,32])) (.cons (.cst (.str [13])) (.cons (.cst (.str [9])) .nil)))))))))
  (.cons (.assign 9 (.ite (.cmp1 .eq (.loc 4) (.cst (.str [32]))) (.idx (.loc 8) (.loc 5)) (.ite (.cmp1 .eq (.loc 4) (.cst (.str [37]))) (.cst (.str [37,37])) (.loc 4))))
  (.cons (.retn (.seq true (.cons (.loc 4) (.cons (.loc 9) (.cons (.loc 9) (.cons (.cst (.int 0)) (.cons (.cst (.bool false)) (.cons (.cst (.bool false)) .nil))))))))
  .nil)))
  .nil)
 (.cons (.ite (.bool true (.cons (.cmp1 .isIn (.loc 4) (.cst (.str [99,110,115,91]))) (.cons (.cmp1 .ne (.loc 6) (.cst (.str []))) .nil)))
  (.cons (.assign 6 (.cst (.str [104])))
  .nil)
  .nil)
 (.cons (.ite (.cmp1 .eq (.loc 4) (.cst (.str [99])))
  (.cons (.assign 5 (.cst (.int 0)))
  .nil)
  .nil)
 (.cons (.assign 10 (.bin .add (.loc 6) (.loc 4)))
 (.cons (.ite (.cmp1 .eq (.loc 4) (.cst (.str [91])))
  (.cons (.assign 10 (.bin .add (.bin .add (.loc 10) (.loc 1)) (.cst (.str [93]))))
  .nil)
  .nil)
 (.cons (.assign 11 (.idx (.seq false (.cons (.cst (.str [])) (.cons (.cst (.str [48])) (.cons (.cst (.str [49])) (.cons (.cst (.str [50])) (.cons (.cst (.str [51])) (.cons (.cst (.str [53])) (.cons (.bin .mul (.cst (.str [57])) (.cst (.int 20))) .nil)))))))) (.loc 5)))
 (.cons (.retn (.seq true (.cons (.loc 4) (.cons (.bin .add (.loc 11) (.loc 10)) (.cons (.loc 10) (.cons (.idx (.seq false (.cons (.cst (.int 0)) (.cons (.cst (.int 0)) (.cons (.cst (.int 1)) (.cons (.cst (.int 2)) (.cons (.cst (.int 3)) (.cons (.cst (.int 5)) (.cons (.bin .sub (.bin .pow (.cst (.int 10)) (.cst (.int 20))) (.cst (.int 1))) .nil)))))))) (.loc 5)) (.cons (.loc 7) (.cons (.cst (.bool true)) .nil))))))))
 .nil))))))))))))
noncomputable def n_law_form:List Str:=["pieces","turn","star","form","many","number","kind","spec","bare","width","is_kept","is_field","head"]
noncomputable def b_law_form_1:CSs :=
 (.cons (.assign 12 (.cst (.str [])))
 (.cons (.ite (.loc 11)
  (.cons (.assign 12 (.cst (.str [37])))
  (.cons (.ite (.bool false (.cons (.not (.loc 10)) (.cons (.cmp1 .eq (.loc 5) (.loc 2)) .nil)))
   (.cons (.assign 12 (.cst (.str [37,42])))
   .nil)
   (.cons (.ite (.cmp1 .ge (.loc 1) (.cst (.int 0)))
    (.cons (.assign 12 (.bin .add (.bin .add (.cst (.str [37])) (.bi .str (.cons (.bin .add (.bin .mod (.bin .add (.loc 5) (.loc 1)) (.loc 4)) (.cst (.int 1))) .nil))) (.cst (.str [36]))))
    .nil)
    .nil)
   .nil))
  (.cons (.ite (.loc 10)
   (.cons (.assign 5 (.bin .add (.loc 5) (.cst (.int 1))))
   .nil)
   .nil)
  .nil)))
  .nil)
 (.cons (.assign 3 (.bin .add (.bin .add (.loc 3) (.loc 12)) (.loc 7)))
 .nil)))
noncomputable def c_law_form:CSs :=
 (.cons (.assign 3 (.cst (.str [])))
 (.cons (.assign 4 (.bi .len (.cons (.comp false (.loc 0) (.loc 0) (.yes (.idx (.loc 0) (.cst (.int 4))))) .nil)))
 (.cons (.assign 5 (.cst (.int 0)))
 (.cons (.loop (.many [6,7,8,9,10,11]) false (.loc 0) b_law_form_1)
 (.cons (.retn (.loc 3))
 .nil)))))
noncomputable def n_law_scan:List Str:=["text","form","count","fault"]
noncomputable def e_law_scan:CE:=(.call 30 (.cons (.loc 0) (.cons (.loc 1) (.cons (.loc 2) .nil))))
noncomputable def n_law_number:List Str:=["figures","number","c"]
noncomputable def b_law_number_1:CSs :=
 (.cons (.assign 1 (.bin .add (.bin .mul (.cst (.int 10)) (.loc 1)) (.meth .index (.cst (.str [48,49,50,51,52,53,54,55,56,57])) (.loc 2))))
 .nil)
noncomputable def c_law_number:CSs :=
 (.cons (.assign 1 (.cst (.int 0)))
 (.cons (.loop (.one 2) false (.loc 0) b_law_number_1)
 (.cons (.retn (.loc 1))
 .nil)))
noncomputable def n_law_bared:List Str:=["rest"]
noncomputable def q_law_bared_1:CE:=(.bool true (.cons (.cmp1 .ne (.slice (.loc 0) .no (.yes (.cst (.int 1)))) (.cst (.str []))) (.cons (.cmp1 .isIn (.slice (.loc 0) .no (.yes (.cst (.int 1)))) (.cst (.str [32,9,10,11,12,13]))) .nil)))
noncomputable def b_law_bared_1:CSs :=
 (.cons (.assign 0 (.slice (.loc 0) (.yes (.cst (.int 1))) .no))
 .nil)
noncomputable def c_law_bared:CSs :=
 (.cons (.whil q_law_bared_1 b_law_bared_1)
 (.cons (.retn (.loc 0))
 .nil))
noncomputable def n_law_first:List Str:=["told"]
noncomputable def c_law_first:CSs :=
 (.cons (.ite (.bi .isTuple (.cons (.loc 0) .nil))
  (.cons (.retn (.loc 0))
  .nil)
  .nil)
 (.cons (.retn (.ite (.cmp1 .eq (.loc 0) (.neg (.cst (.int 1)))) (.cst .none) (.idx (.loc 0) (.cst (.int 0)))))
 .nil))
noncomputable def n_law_is_cut:List Str:=["piece","rest","kind","spec","bare","width","is_kept","is_field","lead","cut_off"]
noncomputable def c_law_is_cut:CSs :=
 (.cons (.unpack [2,3,4,5,6,7] (.loc 0))
 (.cons (.assign 8 (.ite (.cmp1 .eq (.loc 2) (.cst (.str [91]))) (.loc 1) (.call 39 (.cons (.loc 1) .nil))))
 (.cons (.assign 9 (.call 40 (.cons (.call 37 (.cons (.slice (.loc 8) .no (.yes (.loc 5))) (.cons (.bin .add (.cst (.str [37])) (.loc 4)) (.cons (.cst (.int 0)) .nil)))) .nil)))
 (.cons (.retn (.cmp1 .eq (.bi .repr (.cons (.call 40 (.cons (.call 37 (.cons (.loc 1) (.cons (.bin .add (.cst (.str [37])) (.loc 3)) (.cons (.cst (.int 0)) .nil)))) .nil)) .nil)) (.bi .repr (.cons (.loc 9) .nil))))
 .nil))))
noncomputable def n_law_chain:List Str:=["pieces","text","values","rest","done","number","piece","told","far"]
noncomputable def b_law_chain_1:CSs :=
 (.cons (.assign 7 (.call 37 (.cons (.loc 3) (.cons (.bin .add (.call 36 (.cons (.seq false (.cons (.loc 6) .nil)) (.cons (.neg (.cst (.int 1))) (.cons (.neg (.cst (.int 1))) .nil)))) (.cst (.str [37,110]))) (.cons (.cst (.int 0)) .nil)))))
 (.cons (.ite (.bi .isTuple (.cons (.loc 7) .nil))
  (.cons (.retn (.loc 7))
  .nil)
  .nil)
 (.cons (.ite (.bool true (.cons (.cmp1 .eq (.loc 7) (.neg (.cst (.int 1)))) (.cons (.cmp1 .eq (.loc 4) (.cst (.int 0))) .nil)))
  (.cons (.retn (.neg (.cst (.int 1))))
  .nil)
  .nil)
 (.cons (.ite (.bool false (.cons (.cmp1 .eq (.loc 7) (.neg (.cst (.int 1)))) (.cons (.cmp1 .is (.idx (.loc 7) (.neg (.cst (.int 1)))) (.cst .none)) .nil)))
  (.frz 2 (.cons (.retn (.loc 2))
  .nil))
  .nil)
 (.cons (.assign 8 (.call 38 (.cons (.idx (.loc 7) (.neg (.cst (.int 1)))) .nil)))
 (.cons (.ite (.idx (.loc 6) (.cst (.int 4)))
  (.cons (.setItem 2 (.loc 5) (.idx (.loc 7) (.cst (.int 0))))
  (.cons (.ite (.cmp1 .eq (.idx (.loc 6) (.cst (.int 0))) (.cst (.str [110])))
   (.cons (.setItem 2 (.loc 5) (.bi .str (.cons (.bin .add (.bin .sub (.bi .len (.cons (.loc 1) .nil)) (.bi .len (.cons (.loc 3) .nil))) (.call 38 (.cons (.idx (.loc 7) (.cst (.int 0))) .nil))) .nil)))
   .nil)
   .nil)
  (.cons (.assign 5 (.bin .add (.loc 5) (.cst (.int 1))))
  .nil)))
  .nil)
 (.cons (.ite (.idx (.loc 6) (.cst (.int 5)))
  (.cons (.assign 4 (.bin .add (.loc 4) (.cst (.int 1))))
  .nil)
  .nil)
 (.cons (.assign 3 (.slice (.loc 3) (.yes (.loc 8)) .no))
 .nil))))))))
noncomputable def c_law_chain:CSs :=
 (.cons (.compTo true 2 false (.cst .none) (.loc 0) (.yes (.idx (.loc 0) (.cst (.int 4)))))
 (.cons (.assign 3 (.loc 1))
 (.cons (.assign 4 (.cst (.int 0)))
 (.cons (.assign 5 (.cst (.int 0)))
 (.cons (.loop (.one 6) false (.loc 0) b_law_chain_1)
 (.frz 2 (.cons (.retn (.loc 2))
 .nil)))))))
noncomputable def n_law_are_cut:List Str:=["pieces","text","rest","piece"]
noncomputable def b_law_are_cut_1:CSs :=
 (.cons (.ite (.bool true (.cons (.cmp1 .gt (.idx (.loc 3) (.cst (.int 3))) (.cst (.int 0))) (.cons (.idx (.loc 3) (.cst (.int 4))) (.cons (.cmp1 .ne (.idx (.loc 3) (.cst (.int 0))) (.cst (.str [110]))) (.cons (.not (.call 41 (.cons (.loc 3) (.cons (.loc 2) .nil)))) .nil)))))
  (.cons (.retn (.cst (.bool false)))
  .nil)
  .nil)
 (.cons (.assign 2 (.slice (.loc 2) (.yes (.cst (.int 1))) .no))
 .nil))
noncomputable def c_law_are_cut:CSs :=
 (.cons (.assign 2 (.loc 1))
 (.cons (.loop (.one 3) false (.loc 0) b_law_are_cut_1)
 (.cons (.retn (.cst (.bool true)))
 .nil)))
noncomputable def n_law_case_right:List Str:=["row","pen","sets","pieces","place","told","text","many","form","turn","due","star"]
noncomputable def b_law_case_right_1:CSs :=
 (.cons (.assign 5 (.ite (.cmp1 .lt (.loc 4) (.bi .len (.cons (.idx (.loc 0) (.cst (.int 5))) .nil))) (.idx (.idx (.loc 0) (.cst (.int 5))) (.loc 4)) (.seq true (.cons (.cst (.str [100])) (.cons (.cst (.int 0)) (.cons (.cst (.int 0)) (.cons (.cst (.int 0)) .nil)))))))
 (.cons (.append 3 (.callP 35 (.cons (.loc 5) (.cons (.idx (.loc 2) (.bin .mod (.loc 4) (.cst (.int 2)))) (.pen 1 .nil)))))
 .nil))
noncomputable def c_law_case_right:CSs :=
 (.cons (.assign 2 (.seq false (.cons (.callP 34 (.cons (.idx (.loc 0) (.cst (.int 1))) (.cons (.idx (.loc 0) (.cst (.int 2))) (.pen 1 .nil)))) (.cons (.callP 34 (.cons (.idx (.loc 0) (.cst (.int 3))) (.cons (.idx (.loc 0) (.cst (.int 4))) (.pen 1 .nil)))) .nil))))
 (.cons (.ownNew 3 (.seq false .nil))
 (.cons (.loop (.one 4) true (.bin .add (.bin .mod (.bin .add (.bin .sub (.bi .len (.cons (.idx (.loc 0) (.cst (.int 5))) .nil)) (.cst (.int 1))) (.callP 32 (.pen 1 (.cons (.cst (.int 5)) .nil)))) (.cst (.int 5))) (.cst (.int 1))) b_law_case_right_1)
 (.cons (.assign 6 (.callP 33 (.cons (.idx (.loc 0) (.cst (.int 0))) (.cons (.cst (.str [48,49,50,51,52,53,54,55,56,57,45,43,120,88,98,66,97,102,99,122,46,32,37,93,44,94,9,10,11,12,13,233])) (.cons (.cst (.int 28)) (.pen 1 .nil))))))
 (.frz 3 (.cons (.assign 7 (.bi .len (.cons (.comp false (.loc 0) (.loc 3) (.yes (.idx (.loc 0) (.cst (.int 4))))) .nil)))
 (.cons (.assign 8 (.call 36 (.cons (.loc 3) (.cons (.neg (.cst (.int 1))) (.cons (.neg (.cst (.int 1))) .nil)))))
 (.cons (.assign 5 (.call 37 (.cons (.loc 6) (.cons (.loc 8) (.cons (.cst (.int 0)) .nil)))))
 (.cons (.ite (.bool false (.cons (.cmp1 .ne (.bi .repr (.cons (.loc 5) .nil)) (.bi .repr (.cons (.call 42 (.cons (.loc 3) (.cons (.loc 6) .nil))) .nil))) (.cons (.not (.call 43 (.cons (.loc 3) (.cons (.loc 6) .nil)))) .nil)))
  (.cons (.retn (.cst (.bool false)))
  .nil)
  .nil)
 (.cons (.ite (.cmp1 .eq (.loc 7) (.cst (.int 0)))
  (.cons (.retn (.cst (.bool true)))
  .nil)
  .nil)
 (.cons (.ite (.cmp1 .ne (.bi .repr (.cons (.call 37 (.cons (.loc 6) (.cons (.loc 8) (.cons (.loc 7) .nil)))) .nil)) (.bi .repr (.cons (.loc 5) .nil)))
  (.cons (.retn (.cst (.bool false)))
  .nil)
  .nil)
 (.cons (.assign 9 (.callP 32 (.pen 1 (.cons (.loc 7) .nil))))
 (.cons (.assign 10 (.loc 5))
 (.cons (.ite (.bi .isList (.cons (.loc 5) .nil))
  (.cons (.assign 10 (.bin .add (.slice (.loc 5) (.yes (.bin .sub (.loc 7) (.loc 9))) .no) (.slice (.loc 5) .no (.yes (.bin .sub (.loc 7) (.loc 9))))))
  .nil)
  .nil)
 (.cons (.ite (.cmp1 .ne (.bi .repr (.cons (.call 37 (.cons (.loc 6) (.cons (.call 36 (.cons (.loc 3) (.cons (.loc 9) (.cons (.neg (.cst (.int 1))) .nil)))) (.cons (.bin .mul (.loc 7) (.callP 32 (.pen 1 (.cons (.cst (.int 2)) .nil)))) .nil)))) .nil)) (.bi .repr (.cons (.loc 10) .nil)))
  (.cons (.retn (.cst (.bool false)))
  .nil)
  .nil)
 (.cons (.ite (.bi .isTuple (.cons (.loc 5) .nil))
  (.cons (.retn (.cst (.bool true)))
  .nil)
  .nil)
 (.cons (.assign 11 (.callP 32 (.pen 1 (.cons (.loc 7) .nil))))
 (.cons (.assign 10 (.ite (.cmp1 .eq (.loc 5) (.neg (.cst (.int 1)))) (.neg (.cst (.int 1))) (.bin .add (.slice (.loc 5) .no (.yes (.loc 11))) (.slice (.loc 5) (.yes (.bin .add (.loc 11) (.cst (.int 1)))) .no))))
 (.cons (.retn (.cmp1 .eq (.bi .repr (.cons (.call 37 (.cons (.loc 6) (.cons (.call 36 (.cons (.loc 3) (.cons (.neg (.cst (.int 1))) (.cons (.loc 11) .nil)))) (.cons (.cst (.int 0)) .nil)))) .nil)) (.bi .repr (.cons (.loc 10) .nil))))
 .nil)))))))))))))))))))
noncomputable def tab:List Ent:=coreTab ++ [
 .code 0 n_law_told c_law_told,
 .code 2 n_law_draw c_law_draw,
 .code 4 n_law_turned c_law_turned,
 .code 3 n_law_members c_law_members,
 .code 3 n_law_piece c_law_piece,
 .code 3 n_law_form c_law_form,
 .tr 3 n_law_scan e_law_scan,
 .code 1 n_law_number c_law_number,
 .code 1 n_law_bared c_law_bared,
 .code 1 n_law_first c_law_first,
 .code 2 n_law_is_cut c_law_is_cut,
 .code 2 n_law_chain c_law_chain,
 .code 2 n_law_are_cut c_law_are_cut,
 .code 2 n_law_case_right c_law_case_right]
end Mp.L3
end
section
open PySem PyProof.Rows
set_option Elab.async false
set_option maxRecDepth 100000
set_option maxHeartbeats 400000
set_option genSizeOf false
set_option genInjectivity false
set_option linter.unusedVariables false
namespace Mp
noncomputable section
theorem mod_ok {a b:Nat} (h:b ≠ 0):bop .mod (.int a) (.int b)=some (.int (a % b:Nat)):=by
 show gO ((b:Int) ≠ 0) (PV.int (Int.fmod a b))=_
 unfold gO
 rw [if_pos (show (b:Int) ≠ 0 from fun w=>h (Int.ofNat_inj.mp w)),Int.fmod_eq_emod_of_nonneg _ (Int.natCast_nonneg b)]
 rfl
theorem first_at {c:Nat}:∀ {l:List Nat},c ∈ l → ∃ j,firstAt c l=some j ∧ j < l.length:=by
 intro l
 induction l with
 | nil=>intro h; cases h
 | cons x r ih =>
  intro h
  show ∃ j,(if x=c then some 0 else (firstAt c r).map (· + 1))=some j ∧ _
  by_cases q:x=c
  ·exact ⟨0,if_pos q,Nat.succ_pos _⟩
  ·obtain ⟨j,e,hj⟩:=ih ((List.mem_cons.mp h).resolve_left fun w=>q w.symm)
   exact ⟨j + 1,by rw [if_neg q,e]; rfl,Nat.succ_lt_succ hj⟩
theorem index_ok {c:Nat} {l:List Nat} (h:c ∈ l):∃ j:Nat,meS .index l [c]=some (.int j) ∧ j < l.length:=by
 obtain ⟨j,e,hj⟩:=first_at h
 exact ⟨j,by show Option.map (fun k:Int=>PV.int k) (firstAt c l >>= fun a=>pure (a:Int))=_; rw [e]; rfl,hj⟩
namespace L3
theorem core:Core tab:=fun i h=>List.getElem?_append_left h
theorem draw_W (k:Nat) {m:Nat} (hm:m ≠ 0) (n:Int) {Q:OutE → Prop} {K:PK} (h:∀ (d:Nat) (q:Int),d < m → K (.int d) (some q)):W (outP Q K) (Ph tab (k + 1) 32 [.pen,.val (.int m)] (some n)):=by
 have h0:(m:Int) ≠ 0:=fun w=>hm (Int.ofNat_inj.mp w)
 have hp:(0:Int) < m:=Int.ofNat_lt.mpr (Nat.pos_of_ne_zero hm)
 have e:n.fmod m=(n.fmod m).toNat:=(Int.toNat_of_nonneg (Int.fmod_nonneg_of_pos n hp)).symm
 refine ⟨.ok (.int (n.fmod m).toNat,some (n.fdiv m)),ph rfl rfl ⟨_,if_pos h0,_,if_pos h0,?_⟩,h _ _ (Int.ofNat_lt.mp (by rw [← e]; exact Int.fmod_lt_of_pos n hp))⟩
 rw [← e]; exact rfl
theorem turned_W (k:Nat) {told signs:List Nat} (ht:told.length ≤ LIM) (hs:∀ c ∈ told,c ∈ signs) (hl:signs.length ≤ 100) (h0:signs ≠ []) {most:Nat} (hm:most ≠ 0) (hm1:most ≤ 100) (n:Int) {Q:OutE → Prop} {K:PK}
  (h:∀ (l:List Nat) (q:Int),l.length < most → (∀ c ∈ l,c ∈ signs) → K (.str l) (some q)):W (outP Q K) (Ph tab (k + 2) 33 [.val (.str told),.val (.str signs),.val (.int most),.pen] (some n)):=by
 have hl0:0 < signs.length:=List.length_pos_iff.mpr h0
 have hlL:signs.length ≤ LIM:=Nat.le_trans hl (by decide)
 refine phi_W (T:=tab) (X:=XX) (N:=NN) (c:=c_law_turned) rfl rfl ⟨lim_line ht,draw_W k hm n fun d q hd=>⟨_,mod_ok (a:=told.length + d) hm,?_⟩⟩
 have hsz:(told.length + d) % most < most:=Nat.mod_lt _ (Nat.pos_of_ne_zero hm)
 generalize (told.length + d) % most=size at hsz
 refine ⟨⟨Int.le_trans (Int.neg_nonpos_of_nonneg (Int.natCast_nonneg _)) (Int.natCast_nonneg _),Int.ofNat_le.mpr (lim_line (Nat.le_trans (Nat.le_of_lt hsz) (Nat.le_trans hm1 (by decide))))⟩,for_st (f:=fun i:Nat=>.int i) (xs:=List.range size)
  (fun s:List Nat × Int × Option PV × Option PV × Option PV=>[.val (.str told),.val (.str signs),.val (.int most),.pen,.val (.int size),.val (.str s.1),oV s.2.2.1,oV s.2.2.2.1,oV s.2.2.2.2]) (fun s=>some s.2.1)
  (fun r s=>s.1.length + r.length=size ∧ ∀ c ∈ s.1,c ∈ signs) (fun x r s c hS hc=>?_) (fun s hS=>?_) (s:=⟨[],q,none,none,none⟩) ⟨(Nat.zero_add _).trans List.length_range,nofun⟩⟩
 ·obtain ⟨made,p,x6,x7,x8⟩:=s
  obtain ⟨hlen,hin⟩:=hS
  have step:∀ y ∈ signs,∀ p x8,c [.val (.str told),.val (.str signs),.val (.int most),.pen,.val (.int size),.val (.str (made ++ [y])),.val (.int x),.val (.str [y]),oV x8] (some p):=fun y hy p x8 =>
   hc ⟨made ++ [y],p,some _,some _,x8⟩ ⟨by rw [List.length_append,Nat.add_assoc,Nat.add_comm _ r.length]; exact hlen,fun c hc=>(List.mem_append.mp hc).elim (hin c) fun z=>by rw [List.mem_singleton.mp z]; exact hy⟩
  have hadd:∀ y:Nat,made.length + [y].length ≤ strLine:=fun y=>sline (Nat.le_trans (Nat.add_le_add_right (Nat.le_trans (Nat.le_add_right _ _) (Nat.le_trans (Nat.le_of_eq hlen) (Nat.le_trans (Nat.le_of_lt hsz) hm1))) 1) (by decide))
  obtain ⟨y,hy,he⟩:∃ y ∈ signs,(if x < told.length then told.getD x 0 else signs.getD 0 0)=y:=⟨_,by
   split
   ·rw [List.getD_eq_getElem?_getD,List.getElem?_eq_getElem ‹_›]; exact hs _ (List.getElem_mem _)
   ·rw [List.getD_eq_getElem?_getD,List.getElem?_eq_getElem hl0]; exact List.getElem_mem _,rfl⟩
  refine free_op (pn_oV _) ⟨.str [y],⟨lim_line ht,rfl,fun w=>⟨_,at_chr ht (d_lt w),by rw [← he,if_pos (d_lt w)]; rfl,rfl⟩,fun w=>⟨_,at_chr (i:=0) hlL hl0,by rw [← he,if_neg (Nat.not_lt.mpr (d_nlt w))]; rfl,rfl⟩⟩,put_ok (i:=7) ⟨_,rfl,pn_oV _⟩ ?_⟩
  refine ⟨lim_line hlL,_,mul_ok (a:=2) (b:=(signs.length:Nat)) (Nat.lt_of_le_of_lt hl (by decide)),draw_W k (m:=2 * signs.length) (Nat.mul_ne_zero (by decide) (Nat.ne_of_gt hl0)) p fun d p' hd=>put_ok (i:=8) ⟨_,rfl,pn_oV _⟩ ⟨lim_line hlL,fun w=>?_,fun w=>nil_ok ⟨hadd y,step y hy p' (some _)⟩⟩⟩
  obtain ⟨j,e,hj⟩:=index_ok hy
  have hmod:=Nat.mod_lt (j + d) hl0
  exact ⟨_,e,lim_line hlL,_,mod_ok (a:=j + d) (Nat.ne_of_gt hl0),_,at_ok hlL hmod,put_ok (i:=7) ⟨_,rfl,rfl⟩ (nil_ok ⟨hadd _,step _ (List.getElem_mem _) p' (some _)⟩)⟩
 ·obtain ⟨made,p,x6,x7,x8⟩:=s
  exact h made p (Nat.lt_of_le_of_lt (Nat.le_of_eq hS.1) hsz) hS.2
end L3
end
noncomputable section
theorem lst_at {l:List PV} {i:Nat} {x:PV} (h:l[i]?=some x) (hi:l.length ≤ LIM):pidx (.lst l) (.int i)=some x:=by
 show (if (i:Int)=-1 then l.getLast? else at62 l i)=_
 rw [if_neg (fun w=>absurd (Int.natCast_nonneg i) (by rw [w]; decide)),← h]
 exact if_pos ⟨Int.natCast_nonneg i,Int.ofNat_lt.mpr (lim_62 (Nat.le_trans (Nat.le_of_lt (List.getElem?_eq_some_iff.mp h).1) hi))⟩
theorem tup_at {l:List PV} {i:Nat} {x:PV} (h:l[i]?=some x) (hi:l.length ≤ LIM):pidx (.tup l) (.int i)=some x:=by
 rw [← h]
 exact if_pos ⟨Int.natCast_nonneg i,Int.ofNat_lt.mpr (lim_62 (Nat.le_trans (Nat.le_of_lt (List.getElem?_eq_some_iff.mp h).1) hi))⟩
theorem map_at {α:Type} {l:List α} {f:α → PV} {i:Nat} (h:i < l.length):(l.map f)[i]?=some (f l[i]):=by rw [List.getElem?_map,List.getElem?_eq_getElem h]; rfl
noncomputable def MemG (m:List Nat):Prop:=(memBody m ≠ [] ∧ 93 ∉ (memBody m).drop 1) ∧ m.length ≤ 10
namespace L3
noncomputable def memSigns:List Nat:=[97,48,45,94,98,99,57,43,91,37,10]
noncomputable def heads:List (List Nat):=[[],[94],[93],[94,93]]
theorem body_94 (x:List Nat):memBody (94::x)=x:=rfl
theorem body_ne {c:Nat} (h:c ≠ 94) (x:List Nat):memBody (c::x)=c::x:=if_neg (ne_t (decide_eq_false fun w=>h (List.head_eq_of_cons_eq w)))
theorem memG {p t:List Nat} (hp:p ∈ heads) (ht:t.length < 6) (hs:∀ c ∈ t,c ∈ memSigns):MemG (if decide (p ++ t ∈ ([[],[94]]:List (List Nat)))=true then p ++ t ++ [48] else p ++ t):=by
 have no:93 ∉ t:=fun h=>absurd (hs 93 h) (by decide)
 have lp:p.length ≤ 2:=(show ∀ p ∈ heads,p.length ≤ 2 by decide) p hp
 have hl:(p ++ t).length ≤ 10:=by rw [List.length_append]; exact Nat.add_le_add lp (Nat.le_trans (Nat.le_of_lt ht) (by decide:6 ≤ 8))
 by_cases w:decide (p ++ t ∈ ([[],[94]]:List (List Nat)))=true
 ·rw [if_pos w]
  rcases List.mem_cons.mp (of_decide_eq_true w) with e | e
  ·rw [e]; exact ⟨by decide +kernel,by decide⟩
  ·rw [List.mem_singleton.mp e]; exact ⟨by decide +kernel,by decide⟩
 ·rw [if_neg w]
  have w:=of_decide_eq_false (Bool.eq_false_iff.mpr w)
  refine ⟨?_,hl⟩
  rcases List.mem_cons.mp hp with rfl | hp
  ·cases t with
   | nil=>exact absurd (.head _) w
   | cons c t =>
    have no':93 ∉ t:=fun h=>no (.tail _ h)
    show memBody (c::t) ≠ [] ∧ 93 ∉ (memBody (c::t)).drop 1
    by_cases q:c=94
    ·subst q
     rw [body_94]
     exact ⟨fun z=>w (by rw [z]; exact .tail _ (.head _)),fun h=>no' (List.mem_of_mem_drop (l:=t) (i:=1) h)⟩
    ·rw [body_ne q]; exact ⟨List.cons_ne_nil _ _,no'⟩
  ·rcases List.mem_cons.mp hp with rfl | hp
   ·exact ⟨fun z=>w (by rw [show t=[] from z]; exact .tail _ (.head _)),fun h=>no (List.mem_of_mem_drop (l:=t) (i:=1) h)⟩
   ·rcases List.mem_cons.mp hp with rfl | hp
    ·show memBody (93::t) ≠ [] ∧ 93 ∉ (memBody (93::t)).drop 1
     rw [body_ne (by decide)]; exact ⟨List.cons_ne_nil _ _,no⟩
    ·rw [List.mem_singleton.mp hp]; exact ⟨List.cons_ne_nil _ _,no⟩
theorem members_W (k:Nat) {head:Nat} {body:List Nat} (hb:body.length ≤ LIM) (hs:∀ c ∈ body,c ∈ memSigns) (n:Int) {Q:OutE → Prop} {K:PK} (h:∀ (m:List Nat) (q:Int),MemG m → K (.str m) (some q)):W (outP Q K) (Ph tab (k + 3) 34 [.val (.int head),.val (.str body),.pen] (some n)):=by
 refine phi_W (T:=tab) (X:=XX) (N:=NN) (c:=c_law_members) rfl rfl ⟨rfl,draw_W (k + 1) (m:=4) (by decide) n fun d q hd=>⟨_,mod_ok (a:=head + d) (b:=4) (by decide),?_⟩⟩
 have hi:(head + d) % 4 < heads.length:=Nat.mod_lt _ (by decide)
 generalize (head + d) % 4=i at hi
 refine ⟨.str heads[i],lst_at (l:=heads.map .str) (map_at hi) (by decide),turned_W k hb hs (by decide) (by decide) (most:=6) (by decide) (by decide) q fun t q' ht hst=>?_⟩
 have hp:heads[i] ∈ heads:=List.getElem_mem hi
 generalize heads[i]=p at hp
 have g:=memG hp ht hst
 have lp:p.length ≤ 2:=(show ∀ p ∈ heads,p.length ≤ 2 by decide) p hp
 have gl:p.length + t.length ≤ 8:=Nat.add_le_add lp (Nat.le_trans (Nat.le_of_lt ht) (Nat.le_refl 6))
 exact ⟨sline (Nat.le_trans gl (by decide)),.str (if decide (p ++ t ∈ ([[],[94]]:List (List Nat)))=true then p ++ t ++ [48] else p ++ t),⟨rfl,rfl,(fun w=>⟨sline (Nat.le_trans (Nat.add_le_add_right (Nat.le_trans (Nat.le_of_eq List.length_append) gl) 1) (by decide)),(congrArg PV.str (if_pos w)).symm,rfl⟩),fun w=>⟨(congrArg PV.str (if_neg (ne_t w))).symm,rfl⟩⟩,h _ _ g⟩
end L3
end
noncomputable section
noncomputable def setT (so:Nat) (m:List Nat):List Nat:=if so=91 then m ++ [93] else []
noncomputable def bareT (s:List Nat) (so:Nat) (m:List Nat):List Nat:=s ++ so::setT so m
noncomputable def wOf (w:List Nat):Int:=if pv w ≤ 0 then 0 else pv w
noncomputable def pcPV:Pc → PV
 | .txt k its=>.tup [.str [k],.str (textOf its),.str (textOf its),.int 0,.bool false,.bool false]
 | .fld w s so m k=>.tup [.str [so],.str (w ++ bareT s so m),.str (bareT s so m),.int (wOf w),.bool k,.bool true]
noncomputable def Pc.Small:Pc → Prop
 | .txt _ its=>(textOf its).length ≤ 60
 | .fld w s so m _=>(w ++ bareT s so m).length ≤ 60
namespace L3
noncomputable def kindsL:List Nat:=[100,105,117,111,120,88,98,99,115,110,91,32,37,97,44]
noncomputable def txtK:List Nat:=[32,37,97,44]
noncomputable def shortK:List Nat:=[99,110,115,91]
noncomputable def blanksL:List (List Nat):=[[32],[10,9],[11],[12,13],[32,32],[13],[9]]
noncomputable def sizeL:List (List Nat):=[[],[104],[108],[108,108],[113],[76],[116]]
noncomputable def widL:List (List Nat):=[[],[48],[49],[50],[51],[53],[57,57,57,57,57,57,57,57,57,57,57,57,57,57,57,57,57,57,57,57]]
noncomputable def itsK (c:Nat) (b:List Nat):List It:=if decide ([c]=[32])=true then b.map .chr else if decide ([c]=[37])=true then [.pct] else [.chr c]
noncomputable def txtT (c:Nat) (b:List Nat):List Nat:=if decide ([c]=[32])=true then b else if decide ([c]=[37])=true then [37,37] else [c]
noncomputable def sz' (c:Nat) (s:List Nat):List Nat:=if (isSub [c] shortK && !decide (s=[]))=true then [104] else s
noncomputable def wd' (c w:Nat):Nat:=if decide ([c]=[99])=true then 0 else w
noncomputable def plainIt:It → Bool
 | .chr c=>c != 37
 | .pct=>true
 | .fld _=>false
theorem plain_it {i:It} (h:plainIt i=true):i.Good ∧ i.cnt=0:=by
 cases i with
 | chr c=>exact ⟨fun w=>by rw [w] at h; exact ft h,rfl⟩
 | pct=>exact ⟨trivial,rfl⟩
 | fld f=>exact ft h
theorem txt_fine:∀ c ∈ kindsL,isSub [c] txtK=true → ∀ b ∈ blanksL,(itsK c b).all plainIt=true ∧ textOf (itsK c b)=txtT c b ∧ (txtT c b).length ≤ 60:=by decide +kernel
theorem fld_fine:∀ c ∈ kindsL,isSub [c] txtK=false → ∀ w,w < 7 → ∀ s ∈ sizeL,(widL.getD (wd' c w) []).all (isDig 10)=true ∧ sz' c s ∈ sizesL ∧ c ∈ sortsL ∧ sortOk c (pv (widL.getD (wd' c w) [])) (sizeOf' (sz' c s))=true ∧ (widL.getD (wd' c w) []).length + (sz' c s).length ≤ 22:=by decide +kernel
theorem wid_fine:∀ w,w < 7 → widL[w]?=some (widL.getD w []) ∧ ([0,0,1,2,3,5,10 ^ (20:Int).toNat - 1]:List Int)[w]?=some (wOf (widL.getD w [])):=by decide +kernel
theorem wd_lt {c w:Nat} (h:w < 7):wd' c w < 7:=ite_ok (P:=fun n:Nat=>n < 7) (fun _=>by decide) h
section
variable {Φ:Fn} {Q:OutE → Prop} {c:Nat} {m:List Nat} {told:PV} {p:Option Int} {kept:Bool}
theorem piece_end (hm:m.length ≤ 10) (hc:c ∈ kindsL) (h2:isSub [c] txtK=false) {w:Nat} (hw:w < 7) {s:List Nat} (hs:s ∈ sizeL) (h:Q (.ok (pcPV (.fld (widL.getD (wd' c w) []) (sz' c s) c m kept),p))) :
  wSs Φ Q XX NN (dropC 6 c_law_piece) [.val told,.val (.str m),.pen,.val (.str kindsL),.val (.str [c]),.val (.int w),.val (.str s),.val (.bool kept),.unb,.unb,.unb,.unb] p (fun _ p=>Q (.ok (.none,p))) (fun _ _=>False) (fun _ _=>False):=by
 have ln:=(fld_fine c hc h2 w hw s hs).2.2.2.2
 have hw':=wd_lt (c:=c) hw
 have l1:(sz' c s).length ≤ 22:=Nat.le_trans (Nat.le_add_left _ _) ln
 have ll:∀ {n:Nat},n ≤ 100 → n ≤ strLine:=fun h=>sline (Nat.le_trans h (by decide))
 have r4:∀ sp,bareT (sz' c s) c m=sp → sp.length ≤ 50 → wSs Φ Q XX NN (dropC 10 c_law_piece) [.val told,.val (.str m),.pen,.val (.str kindsL),.val (.str [c]),.val (.int (wd' c w)),.val (.str (sz' c s)),.val (.bool kept),.unb,.unb,.val (.str sp),.unb] p (fun _ p=>Q (.ok (.none,p))) (fun _ _=>False) (fun _ _=>False):=fun sp e hl=>by
  obtain ⟨e1,e2⟩:=wid_fine _ hw'
  subst e
  exact ⟨_,rfl,rfl,.str (widL.getD (wd' c w) []),lst_at (l:=widL.map .str) (by rw [List.getElem?_map,e1]; rfl) (by decide),ll (Nat.le_trans (Nat.add_le_add (Nat.le_trans (Nat.le_add_right _ _) ln) hl) (by decide)),_,rfl,rfl,.int (wOf (widL.getD (wd' c w) [])),lst_at (l:=([0,0,1,2,3,5,10 ^ (20:Int).toNat - 1]:List Int).map .int) (by rw [List.getElem?_map,e2]; rfl) (by decide),rfl,h⟩
 have r3:wSs Φ Q XX NN (dropC 8 c_law_piece) [.val told,.val (.str m),.pen,.val (.str kindsL),.val (.str [c]),.val (.int (wd' c w)),.val (.str (sz' c s)),.val (.bool kept),.unb,.unb,.unb,.unb] p (fun _ p=>Q (.ok (.none,p))) (fun _ _=>False) (fun _ _=>False):=by
  have l2:(sz' c s ++ [c]).length ≤ 23:=by rw [List.length_append]; exact Nat.add_le_add_right l1 1
  refine ⟨ll (Nat.le_trans (Nat.add_le_add_right l1 1) (by decide)),fun a=>⟨ll (Nat.le_trans (Nat.add_le_add l2 hm) (by decide)),ll (Nat.le_trans (Nat.add_le_add_right (Nat.le_trans (Nat.le_of_eq List.length_append) (Nat.add_le_add l2 hm)) 1) (by decide)),put_ok (i:=10) ⟨_,rfl,rfl⟩ (nil_ok (r4 _ ?_ ?_))⟩,fun a=>nil_ok (r4 _ ?_ ?_)⟩
  ·unfold bareT setT
   rw [if_pos (List.head_eq_of_cons_eq (of_decide_eq_true a)),List.append_assoc,List.append_assoc]; rfl
  ·rw [List.length_append,List.length_append]; exact Nat.add_le_add_right (Nat.add_le_add l2 hm) 1 |> fun z=>Nat.le_trans z (by decide)
  ·unfold bareT setT
   rw [if_neg fun q=>of_decide_eq_false a (by rw [q])]
  ·exact Nat.le_trans l2 (by decide)
 have r2:wSs Φ Q XX NN (dropC 7 c_law_piece) [.val told,.val (.str m),.pen,.val (.str kindsL),.val (.str [c]),.val (.int w),.val (.str (sz' c s)),.val (.bool kept),.unb,.unb,.unb,.unb] p (fun _ p=>Q (.ok (.none,p))) (fun _ _=>False) (fun _ _=>False):=by
  refine ⟨fun a=>put_ok (i:=5) ⟨_,rfl,rfl⟩ (nil_ok ?_),fun a=>nil_ok ?_⟩
  ·rw [show wd' c w=0 from if_pos a] at r3; exact r3
  ·rw [show wd' c w=w from if_neg (ne_t a)] at r3; exact r3
 refine ⟨_,⟨rfl,fun hx=>⟨rfl,fin (and_t hx)⟩,fun hx=>(and_f hx).symm⟩,fun a=>put_ok (i:=6) ⟨_,rfl,rfl⟩ (nil_ok ?_),fun a=>nil_ok ?_⟩
 ·rw [show sz' c s=[104] from if_pos a] at r2; exact r2
 ·rw [show sz' c s=s from if_neg (ne_t a)] at r2; exact r2
end
end L3
end
noncomputable section
namespace L3
noncomputable def pcRow (x:Nat × Nat × Nat × Nat):PV:=.tup [.str [x.1],.int x.2.1,.int x.2.2.1,.int x.2.2.2]
theorem piece_W (k:Nat) {x:Nat × Nat × Nat × Nat} (hx:x.1 ∈ kindsL) {m:List Nat} (hm:MemG m) (n:Int) {Q:OutE → Prop} {K:PK} (h:∀ (p:Pc) (q:Int),p.Good → p.Small → K (pcPV p) (some q)) :
  W (outP Q K) (Ph tab (k + 2) 35 [.val (pcRow x),.val (.str m),.pen] (some n)):=by
 obtain ⟨j,ej,hj⟩:=index_ok hx
 refine phi_W (T:=tab) (X:=XX) (N:=NN) (c:=c_law_piece) rfl rfl ⟨_,tup_at (i:=0) rfl (Nat.le_of_ble_eq_true rfl),_,ej,draw_W k (m:=15) (by decide) n fun d1 q1 hd1=>⟨_,mod_ok (a:=j + d1) (b:=15) (by decide),?_⟩⟩
 have hc:(j + d1) % 15 < kindsL.length:=Nat.mod_lt _ (by decide)
 generalize (j + d1) % 15=i at hc
 refine ⟨_,at_ok (by decide) hc,?_⟩
 have hk:kindsL[i] ∈ kindsL:=List.getElem_mem hc
 generalize kindsL[i]=c at hk
 refine ⟨_,tup_at (i:=1) rfl (Nat.le_of_ble_eq_true rfl),draw_W k (m:=7) (by decide) q1 fun d2 q2 hd2=>⟨_,mod_ok (a:=x.2.1 + d2) (b:=7) (by decide),?_⟩⟩
 have hw:(x.2.1 + d2) % 7 < 7:=Nat.mod_lt _ (by decide)
 generalize (x.2.1 + d2) % 7=w at hw
 refine ⟨rfl,_,tup_at (i:=2) rfl (Nat.le_of_ble_eq_true rfl),draw_W k (m:=7) (by decide) q2 fun d3 q3 hd3=>⟨_,mod_ok (a:=x.2.2.1 + d3) (b:=7) (by decide),?_⟩⟩
 have hs:(x.2.2.1 + d3) % 7 < sizeL.length:=Nat.mod_lt _ (by decide)
 generalize (x.2.2.1 + d3) % 7=i at hs
 refine ⟨.str sizeL[i],lst_at (l:=sizeL.map .str) (map_at hs) (by decide),?_⟩
 have hz:sizeL[i] ∈ sizeL:=List.getElem_mem hs
 generalize sizeL[i]=s at hz
 refine ⟨_,tup_at (i:=3) rfl (Nat.le_of_ble_eq_true rfl),draw_W k (m:=2) (by decide) q3 fun d4 q4 hd4=>⟨_,mod_ok (a:=x.2.2.2 + d4) (b:=2) (by decide),?_⟩⟩
 generalize (x.2.2.2 + d4) % 2=b
 refine ⟨fun a=>?_,fun a=>?_⟩
 ·have hb:w < blanksL.length:=hw
  have f:=txt_fine c hk a blanksL[w] (List.getElem_mem hb)
  refine ⟨rfl,.str (txtT c blanksL[w]),⟨rfl,(fun z=>⟨_,lst_at (l:=blanksL.map .str) (map_at hb) (by decide),(congrArg PV.str (if_pos z)).symm,rfl⟩),fun z=>⟨.str (txtT c blanksL[w]),⟨rfl,(fun y=>⟨(congrArg PV.str ((if_neg (ne_t z)).trans (if_pos y))).symm,rfl⟩),fun y=>⟨(congrArg PV.str ((if_neg (ne_t z)).trans (if_neg (ne_t y)))).symm,rfl⟩⟩,rfl,rfl⟩⟩,rfl,?_⟩
  rw [← f.2.1]
  exact h (.txt c (itsK c blanksL[w])) q4 (fun i hi=>plain_it (List.all_eq_true.mp f.1 i hi)) (show (textOf _).length ≤ 60 by rw [f.2.1]; exact f.2.2)
 ·have f:=fld_fine c hk a w hw s hz
  refine nil_ok (piece_end hm.2 hk a hw hz (h (.fld _ _ c m (decide ((b:Int)=0))) q4 ⟨nofun,fun _=>rfl,List.all_eq_true.mp f.1,f.2.1,f.2.2.1,fun _=>hm.1,f.2.2.2.1⟩ ?_))
  show (_ ++ bareT _ c m).length ≤ 60
  unfold bareT setT
  rw [List.length_append,List.length_append,← Nat.add_assoc]
  refine Nat.le_trans (Nat.add_le_add f.2.2.2.2 (?_:_ ≤ 12)) (by decide)
  split
  ·rw [List.length_cons,List.length_append]; exact Nat.succ_le_succ (Nat.succ_le_succ hm.2)
  ·exact Nat.le_of_ble_eq_true rfl
end L3
end
noncomputable section
theorem pc_four (p:Pc):pidx (pcPV p) (.int 4)=some (.bool p.kept):=by
 cases p with
 | txt k its=>exact tup_at (i:=4) rfl (Nat.le_of_ble_eq_true rfl)
 | fld w s so m k=>exact tup_at (i:=4) rfl (Nat.le_of_ble_eq_true rfl)
theorem comp_kept {elt:PV → Option PV} {g:PV → PV} (h:∀ x,elt x=some (g x)):∀ (ps:List Pc) (k:List PV → RR),compK (fun x=>kC (.yes (.idx (.loc 0) (.cst (.int 4)))) noFn [.val x]) elt (ps.map pcPV) k=k ((ps.filter Pc.kept).map fun p=>g (pcPV p)):=by
 intro ps
 induction ps with
 | nil=>intro k; rfl
 | cons p r ih =>
  intro k
  have hc:kC (.yes (.idx (.loc 0) (.cst (.int 4)))) noFn [.val (pcPV p)]=some p.kept:=by
   show (quiet (opK (pidx (pcPV p) (.int 4)) fun x=>endK x none)).bind asBool=_
   rw [pc_four]; rfl
  show opK (kC _ noFn [.val (pcPV p)]) _=_
  rw [hc,List.filter_cons]
  cases p.kept with
  | true =>
   show opK (elt (pcPV p)) _=_
   rw [h]
   exact ih _
  | false=>exact ih k
theorem kept_filter:∀ (ps:List Pc) (n:Nat),keptN ps n=n + (ps.filter Pc.kept).length:=by
 intro ps
 induction ps with
 | nil=>intro n; rfl
 | cons p r ih =>
  intro n
  show keptN r (nx p n)=_
  rw [ih,List.filter_cons]
  unfold nx
  cases p.kept with
  | true=>exact Nat.add_right_comm n 1 _
  | false=>rfl
theorem or_f {x y:Bool} (h:x=false):y=(x || y):=by rw [h]; rfl
theorem or_t {x y:Bool} (h:x=true):true=(x || y):=by rw [h]; rfl
namespace L3
structure Told (M:Nat) (turn star:Int) (pd:Nat → List Nat) (st:Nat → Bool):Prop where
 st:∀ n:Nat,st n=decide ((n:Int)=star)
 pd:(turn < 0 ∧ ∀ n,pd n=[]) ∨ ∃ t:Nat,turn=t ∧ ∀ n,n < M → pd n=digits (((n + t) % M + 1:Nat):Int)
 le:M ≤ 30
theorem form_ok (k:Nat) {ps:List Pc} (hs:∀ p ∈ ps,p.Small) (hl:ps.length ≤ 10) {turn star:Int} {pd:Nat → List Nat} {st:Nat → Bool} (H:Told (keptN ps 0) turn star pd st) :
  Ph tab (k + 1) 36 [.val (.lst (ps.map pcPV)),.val (.int turn),.val (.int star)] none=some (.ok (.str (textOf (itsP pd st ps 0)),none)):=by
 have hlL:ps.length ≤ LIM:=Nat.le_trans hl (by decide)
 have hM:((ps.filter Pc.kept).map pcPV).length=keptN ps 0:=by rw [List.length_map,kept_filter,Nat.zero_add]
 have sl:∀ {n:Nat},n ≤ 1000 → n ≤ strLine:=fun h=>sline (Nat.le_trans h (by decide))
 refine ph (o:=.ok (.str (textOf (itsP pd st ps 0)),none)) (c:=c_law_form) rfl rfl ⟨map_line hlL,(ps.filter Pc.kept).map pcPV,fun k=>comp_kept (g:=id) (fun _=>rfl) ps k,lim_line (Nat.le_trans (Nat.le_of_eq hM) (Nat.le_trans H.le (by decide))),?_⟩
 rw [hM]
 generalize hT:textOf (itsP pd st ps 0)=TOT
 generalize hK:keptN ps 0=M at H
 refine ⟨map_line hlL,for_st (f:=pcPV) (fun s:List Nat × Nat × List (Option PV)=>[.val (.lst (ps.map pcPV)),.val (.int turn),.val (.int star),.val (.str s.1),.val (.int M),.val (.int s.2.1),xO s.2.2 0,xO s.2.2 1,xO s.2.2 2,xO s.2.2 3,xO s.2.2 4,xO s.2.2 5,xO s.2.2 6]) (fun _=>none)
  (fun r s=>s.1 ++ textOf (itsP pd st r s.2.1)=TOT ∧ s.1.length + 70 * r.length ≤ 700 ∧ keptN r s.2.1=M ∧ ∀ p ∈ r,p.Small) (fun p r s c hS hc=>?_) (fun s hS=>?_) (s:=⟨[],0,[]⟩) ⟨hT,Nat.le_trans (Nat.le_of_eq (Nat.zero_add _)) (Nat.mul_le_mul_left 70 hl),hK,hs⟩⟩
 ·obtain ⟨acc,n,xs⟩:=s
  obtain ⟨e,hlen,hk,hsm⟩:=hS
  have hlen:acc.length + 70 * (r.length + 1) ≤ 700:=hlen
  have e:acc ++ textOf (its1 pd st n p ++ itsP pd st r (nx p n))=TOT:=e
  rw [textOf_app,← List.append_assoc] at e
  have hla:acc.length + 70 ≤ 700:=Nat.le_trans (Nat.add_le_add_left (Nat.le_mul_of_pos_right 70 (Nat.succ_pos _)) _) hlen
  have done:∀ xs',(textOf (its1 pd st n p)).length ≤ 70 → c [.val (.lst (ps.map pcPV)),.val (.int turn),.val (.int star),.val (.str (acc ++ textOf (its1 pd st n p))),.val (.int M),.val (.int (nx p n)),xO xs' 0,xO xs' 1,xO xs' 2,xO xs' 3,xO xs' 4,xO xs' 5,xO xs' 6] none:=fun xs' h70 =>
   hc ⟨_,_,xs'⟩ ⟨e,by rw [List.length_append]; rw [Nat.mul_succ,← Nat.add_assoc,Nat.add_right_comm] at hlen; exact Nat.le_trans (Nat.add_le_add_right (Nat.add_le_add_left h70 _) _) hlen,hk,fun q hq=>hsm q (.tail _ hq)⟩
  have rest:∀ (H sp:List Nat) (x0 x2 x3 x4 x5:Option PV) (nn:PS),H ++ sp=textOf (its1 pd st n p) → sp.length ≤ 60 → H.length ≤ 10 →
    wSs (Ph tab k) (IsO (.ok (.str TOT,none))) XX NN (dropC 2 b_law_form_1) [.val (.lst (ps.map pcPV)),.val (.int turn),.val (.int star),.val (.str acc),.val (.int M),.val (.int (nx p n)),oV x0,.val (.str sp),oV x2,oV x3,oV x4,oV x5,.val (.str H)] none c nn c:=fun H sp x0 x2 x3 x4 x5 nn eH h1 h2=>by
   have d:=done [x0,some (.str sp),x2,x3,x4,x5,some (.str H)] (by rw [← eH,List.length_append]; exact Nat.le_trans (Nat.add_le_add h2 h1) (Nat.le_refl 70))
   rw [← eH,← List.append_assoc] at d
   have g1:acc.length + H.length ≤ 710:=Nat.add_le_add (Nat.le_trans (Nat.le_add_right _ _) hla) h2
   exact ⟨sl (Nat.le_trans g1 (by decide)),sl (Nat.le_trans (Nat.add_le_add (Nat.le_trans (Nat.le_of_eq List.length_append) g1) h1) (by decide)),d⟩
  have hp:=hsm p (.head _)
  cases p with
  | txt kk its =>
   refine put_ok ⟨_,rfl,pn_oV _⟩ (put_ok ⟨_,rfl,pn_oV _⟩ (put_ok ⟨_,rfl,pn_oV _⟩ (put_ok ⟨_,rfl,pn_oV _⟩ (put_ok ⟨_,rfl,pn_oV _⟩ (put_ok ⟨_,rfl,pn_oV _⟩ (put_ok (i:=12) ⟨_,rfl,pn_oV _⟩ ⟨fun w=>ft w,fun _=>nil_ok ?_⟩))))))
   exact rest [] (textOf its) (some (.str [kk])) (some (.str (textOf its))) (some (.int 0)) (some (.bool false)) (some (.bool false)) _ rfl hp (by decide)
  | fld w s so m kp =>
   have hp:(w ++ bareT s so m).length ≤ 60:=hp
   have fin:∀ (H:List Nat) (nn:PS),H=37::(fldP (!kp || st n) (pd n) w s so m).head → H.length ≤ 10 →
     wSs (Ph tab k) (IsO (.ok (.str TOT,none))) XX NN (.cons (.ite (.loc 10) (.cons (.assign 5 (.bin .add (.loc 5) (.cst (.int 1)))) .nil) .nil) .nil) [.val (.lst (ps.map pcPV)),.val (.int turn),.val (.int star),.val (.str acc),.val (.int M),.val (.int n),.val (.str [so]),.val (.str (w ++ bareT s so m)),.val (.str (bareT s so m)),.val (.int (wOf w)),.val (.bool kp),.val (.bool true),.val (.str H)] none
      (fun env p=>wSs (Ph tab k) (IsO (.ok (.str TOT,none))) XX NN (dropC 2 b_law_form_1) env p c nn c) nn c:=fun H nn eH hH=>by
    have r:=rest H (w ++ bareT s so m) (some (.str [so])) (some (.str (bareT s so m))) (some (.int (wOf w))) (some (.bool kp)) (some (.bool true)) nn (by rw [eH]; exact ((List.append_nil _).trans (congrArg (37::·) (show (fldP (!kp || st n) (pd n) w s so m).head ++ (fldP (!kp || st n) (pd n) w s so m).tail=_ from rfl))).symm) hp hH
    cases kp with
    | true=>exact ⟨fun _=>put_ok (i:=5) ⟨_,rfl,rfl⟩ (nil_ok (nil_ok r)),fun w=>tf w⟩
    | false=>exact ⟨fun w=>ft w,fun _=>nil_ok (nil_ok r)⟩
   refine put_ok ⟨_,rfl,pn_oV _⟩ (put_ok ⟨_,rfl,pn_oV _⟩ (put_ok ⟨_,rfl,pn_oV _⟩ (put_ok ⟨_,rfl,pn_oV _⟩ (put_ok ⟨_,rfl,pn_oV _⟩ (put_ok ⟨_,rfl,pn_oV _⟩ (put_ok (i:=12) ⟨_,rfl,pn_oV _⟩ ⟨fun _=>put_ok (i:=12) ⟨_,rfl,rfl⟩ ?_,fun w=>tf w⟩))))))
   refine ⟨!kp || decide ((n:Int)=star),⟨rfl,fun hx=>⟨rfl,fun hy=>hy.symm.trans (or_f hx),fun hy=>hy.symm.trans (or_f hx)⟩,fun hx=>or_t hx⟩,fun b=>put_ok (i:=12) ⟨_,rfl,rfl⟩ (nil_ok (fin [37,42] _ ?_ (by decide))),fun b=>?_⟩
   ·unfold fldP Fld.head
    rw [H.st,b]; rfl
   ·obtain ⟨b1,b2⟩:=Bool.or_eq_false_iff.mp b
    have hkp:kp=true:=nn b1
    subst hkp
    have hn:n < M:=Nat.lt_of_lt_of_le (Nat.lt_succ_self n) (Nat.le_trans (keptN_le r (n + 1)) (Nat.le_of_eq hk))
    have hf:∀ pl,pd n=pl → (fldP (!true || st n) (pd n) w s so m).head=if pl=[] then [] else pl ++ [36]:=fun pl e=>by unfold fldP Fld.head; rw [H.st,b2,e]; rfl
    rcases H.pd with ⟨ht,hp⟩ | ⟨t,rfl,hp⟩
    ·exact ⟨fun w=>b_no w (le_f ht),fun _=>nil_ok (nil_ok (fin [37] _ (by rw [hf _ (hp n)]; rfl) (by decide)))⟩
    ·have hM:=Nat.ne_of_gt (Nat.lt_of_le_of_lt (Nat.zero_le n) hn)
     have hlt:(n + t) % M + 1 < 40:=Nat.lt_of_lt_of_le (Nat.succ_lt_succ (Nat.mod_lt _ (Nat.pos_of_ne_zero hM))) (Nat.le_trans (Nat.succ_le_succ H.le) (by decide))
     obtain ⟨_,_,d1,d2⟩:=digits_small hlt
     have e:=hp n hn
     refine ⟨fun _=>⟨_,mod_ok (a:=n + t) hM,.str (digits (((n + t) % M + 1:Nat):Int)),str_ok (Nat.lt_trans hlt (Nat.lt_trans (by decide:40 < 2 ^ 64) b_big.2)),sl (Nat.le_trans (Nat.add_le_add_left d2 1) (by decide)),sl (Nat.le_trans (Nat.add_le_add_right (Nat.le_trans (Nat.le_of_eq List.length_append) (Nat.add_le_add_left d2 1)) 1) (by decide)),put_ok (i:=12) ⟨_,rfl,rfl⟩ (nil_ok (nil_ok (fin ([37] ++ digits (((n + t) % M + 1:Nat):Int) ++ [36]) _ ?_ ?_)))⟩,fun w=>b_no (decide_eq_true (Int.natCast_nonneg t)) w⟩
     ·rw [hf _ e,if_neg d1]; rfl
     ·rw [List.length_append,List.length_append]; exact Nat.le_trans (Nat.add_le_add_right (Nat.add_le_add_left d2 1) 1) (by decide)
 ·obtain ⟨acc,n,xs⟩:=s
  show IsO _ (.ok (.str acc,none))
  rw [← hS.1]
  exact okS (List.append_nil acc).symm
end L3
end
noncomputable section
noncomputable def blk6:List Nat:=[32,9,10,11,12,13]
theorem sub_mem {c:Nat} {b:List Nat} (h:isSub [c] b=true):c ∈ b:=by
 obtain ⟨i,_,e⟩:=List.any_eq_true.mp h
 exact List.mem_of_mem_drop (List.mem_of_mem_take (show c ∈ (b.drop i).take 1 by rw [show (b.drop i).take 1=[c] from eq_of_beq e]; exact .head _))
theorem sub_blank (c:Nat):isSub [c] blk6=isBlank c:=by
 have t:∀ c ∈ blk6,isSub [c] blk6=true ∧ isBlank c=true:=by decide +kernel
 cases q:isSub [c] blk6 with
 | true=>exact (t c (sub_mem q)).2.symm
 | false =>
  refine (Bool.eq_false_iff.mpr fun w=>?_).symm
  have m:∃ x ∈ blk6,[x]=[c]:=List.mem_map.mp (show [c] ∈ blk6.map fun x=>[x] from of_decide_eq_true w)
  obtain ⟨x,hx,e⟩:=m
  rw [← List.head_eq_of_cons_eq e,(t x hx).1] at q
  cases q
noncomputable def bare (r:List Nat):List Nat:=r.drop (r.takeWhile isBlank).length
theorem bare_cons {c:Nat} {r:List Nat} (h:isBlank c=true):bare (c::r)=bare r:=by unfold bare; rw [List.takeWhile_cons,h]; rfl
theorem bare_stop {c:Nat} {r:List Nat} (h:isBlank c=false):bare (c::r)=c::r:=by unfold bare; rw [List.takeWhile_cons,h]; rfl
theorem slice_to {l:List Nat} {n:Nat} (h:n ≤ l.length):pslice l none (some (n:Int))=l.take n:=by
 show (l.drop 0).take (clip l.length (n:Int) - 0)=_
 rw [clip_nat h]; rfl
theorem slice_from {α:Type} {l:List α} {n:Nat} (h:n ≤ l.length):pslice l (some (n:Int)) none=l.drop n:=by
 show (l.drop (clip l.length (n:Int))).take (l.length - clip l.length (n:Int))=_
 rw [clip_nat h,← List.length_drop,List.take_length]
noncomputable def figs:List Nat:=[48,49,50,51,52,53,54,55,56,57]
noncomputable def numF (v:Int) (ds:List Nat):Int:=ds.foldl (fun v c=>10 * v + ((c - 48:Nat):Int)) v
theorem num_small {x:Nat} (h:x < 40):(∀ c ∈ digits (x:Int),firstAt c figs=some (c - 48)) ∧ numF 0 (digits (x:Int))=x:=by
 have t:∀ x,x < 40 → (∀ c ∈ digits ((x:Nat):Int),firstAt c figs=some (c - 48)) ∧ numF 0 (digits ((x:Nat):Int))=x:=by decide +kernel
 exact t x h
theorem ans_cases {F:List (List Nat) → List (Option (List Nat))} {n:Nat} {R:List (List Nat) × End} (h:ValR R n) {P:PV → Prop} (h1:(∃ x,R.2=.err x) → P uV) (h2:(∃ many,R.2=.fin many true ∧ many=0) → P (.int (-1))) (h3:(∃ many sh,R.2=.fin many sh ∧ (sh && decide ((many:Int)=0))=false) → P (.lst ((F R.1).map optPV))):P (ansV F R):=by
 obtain ⟨ws,e⟩:=R
 unfold ansV scanO
 cases e with
 | err x=>rw [h.2.2 x rfl]; exact h1 ⟨x,rfl⟩
 | fin many sh =>
  show P (tryV (if (sh && decide ((many:Int)=0))=true then .ok (.int (-1),none) else .ok (.lst ((F ws).map optPV),none)))
  cases q:sh && decide ((many:Int)=0) with
  | true =>
   obtain ⟨q1,q2⟩:=Bool.and_eq_true_iff.mp q
   exact h2 ⟨many,by rw [q1],Int.ofNat_inj.mp (of_decide_eq_true q2)⟩
  | false=>exact h3 ⟨many,sh,rfl,q⟩
theorem eq_lst {l:List PV} (h:PV.plains l 7=true):cop .eq (.lst l) (.int (-1))=some false:=by
 show gO ((PV.plains l 7 && true)=true) _=_
 unfold gO
 rw [h]; rfl
theorem scan_pen (F:List (List Nat) → List (Option (List Nat))) (R:List (List Nat) × End) (v:PV) (q:Option Int) (h:scanO F R=.ok (v,q)):q=none:=by
 unfold scanO at h
 split at h
 ·cases h
 ·split at h <;> (cases h; rfl)
theorem mul_l {a b:Int} (h:a.natAbs < 2 ^ 64):bop .mul (.int a) (.int b)=some (.int (a * b)):=if_pos (.inl h)
namespace L3
theorem scan_ok (k:Nat) {a b c:SV} {F:List (List Nat) → List (Option (List Nat))} {R:List (List Nat) × End} (h:Ph tab k 30 [a,b,c] none=some (scanO F R)) (ha:∃ x y z,a=.val x ∧ b=.val y ∧ c=.val z):Ph tab (k + 1) 37 [a,b,c] none=some (.ok (ansV F R,none)):=by
 obtain ⟨x,y,z,rfl,rfl,rfl⟩:=ha
 rw [← try_scan]
 refine ph_try (o:=scanO F R) (c:=e_law_scan) (names:=n_law_scan) rfl rfl (W_is h ?_)
 have hp:=scan_pen F R
 generalize scanO F R=o at hp
 cases o with
 | error e=>exact rfl
 | ok x=>obtain ⟨v,q⟩:=x; cases hp v q rfl; exact rfl
theorem number_ok (k:Nat) {x:Nat} (hx:x < 40):Ph tab (k + 1) 38 [.val (.str (digits x))] none=some (.ok (.int x,none)):=by
 obtain ⟨h1,h2⟩:=num_small hx
 have hl:=(digits_small hx).2.2.2
 generalize digits (x:Int)=ds at h1 h2 hl
 exact ph (o:=.ok (.int x,none)) (c:=c_law_number) rfl rfl ⟨map_line (Nat.le_trans hl (by decide)),for_st (f:=fun c=>.str [c]) (fun s:Int × Option PV=>[.val (.str ds),.val (.int s.1),oV s.2]) (fun _=>none) (fun r s=>numF s.1 r=x ∧ ∀ c ∈ r,firstAt c figs=some (c - 48))
  (fun c r s k hS hc=>by
   refine put_ok (i:=2) ⟨_,rfl,pn_oV _⟩ ⟨_,mul_l (by decide),_,(show Option.map (fun k:Int=>PV.int k) (firstAt c figs >>= fun a=>pure (a:Int))=some (.int (c - 48:Nat)) by rw [hS.2 c (.head _)]; rfl),hc ⟨_,some _⟩ ⟨hS.1,fun c h=>hS.2 c (.tail _ h)⟩⟩)
  (fun s hS=>by exact okI hS.1) (s:=⟨0,none⟩) ⟨h2,h1⟩⟩
theorem bared_ok (k:Nat) {r:List Nat} (hr:r.length ≤ LIM):Ph tab (k + 1) 39 [.val (.str r)] none=some (.ok (.str (bare r),none)):=by
 refine ph (o:=.ok (.str (bare r),none)) (c:=c_law_bared) rfl rfl (while_st (fun s:List Nat=>[.val (.str s)]) (fun s=>bare s=bare r ∧ s.length ≤ LIM) (fun s=>s.length) (fun s c hS hc=>?_) (s:=r) ⟨rfl,hr⟩ hr)
 obtain ⟨e,hl⟩:=hS
 have g:=lim_line hl
 cases s with
 | nil=>exact ⟨false,⟨g,rfl,fun w=>ft w,fun _=>rfl⟩,fun w=>ft w,fun _=>okS e⟩
 | cons x s =>
  have e1:pslice (x::s) none (some (1:Int))=[x]:=slice_to (n:=1) (Nat.succ_le_succ (Nat.zero_le _))
  have e2:pslice (x::s) (some (1:Int)) none=s:=slice_from (n:=1) (Nat.succ_le_succ (Nat.zero_le _))
  have b:isSub (pslice (x::s) none (some (1:Int))) blk6=isBlank x:=by rw [e1,sub_blank]
  have ne:(!decide (pslice (x::s) none (some (1:Int))=[]))=true:=by rw [e1]; rfl
  refine ⟨isBlank x,⟨g,rfl,fun _=>⟨g,rfl,fin b⟩,fun w=>b_no ne w⟩,fun w=>⟨g,?_⟩,fun w=>?_⟩
  ·rw [e2]
   exact hc s ⟨(bare_cons w).symm.trans e,Nat.le_trans (Nat.le_succ _) hl⟩ (Nat.lt_succ_self _)
  ·rw [bare_stop w] at e
   exact okS e
noncomputable def firstV:PV → PV
 | .lst l=>l.headD .none
 | .int _=>.none
 | v=>v
theorem first_ok (k:Nat) {F:List (List Nat) → List (Option (List Nat))} {n:Nat} {R:List (List Nat) × End} (h:ValR R n) (hF:(∀ v ∈ F R.1,ValOk v) ∧ (F R.1).length ≤ 100 ∧ F R.1 ≠ []):Ph tab (k + 1) 40 [.val (ansV F R)] none=some (.ok (firstV (ansV F R),none)):=by
 refine ans_cases (F:=F) h (P:=fun v=>Ph tab (k + 1) 40 [.val v] none=some (.ok (firstV v,none))) (fun _=>?_) (fun _=>?_) fun _=>?_
 ·exact ph (o:=.ok (uV,none)) (c:=c_law_first) rfl rfl ⟨fun _=>rfl,fun w=>tf w⟩
 ·exact ph (o:=.ok (.none,none)) (c:=c_law_first) rfl rfl ⟨fun w=>ft w,fun _=>⟨.none,⟨rfl,(fun _=>⟨rfl,rfl⟩),fun w=>tf w⟩,rfl⟩⟩
 ·obtain ⟨v,vs,e⟩:=List.exists_cons_of_ne_nil hF.2.2
  have hp:=(vals_ok hF.1).1
  have hl:=hF.2.1
  rw [e] at hp hl ⊢
  have q:=eq_lst hp
  refine ph (o:=.ok (optPV v,none)) (c:=c_law_first) rfl rfl ⟨fun w=>ft w,fun _=>⟨optPV v,?_,rfl⟩⟩
  show opP (cop .eq (.lst ((v::vs).map optPV)) (.int (-1))) _
  rw [q]
  exact ⟨rfl,fun w=>ft w,fun _=>⟨_,lst_at (i:=0) rfl (by rw [List.length_map]; exact Nat.le_trans hl (by decide)),rfl,rfl⟩⟩
end L3
end
noncomputable section
theorem slice_drop {α:Type} (l:List α) (i:Int):pslice l (some i) none=l.drop (clip l.length i):=by
 show (l.drop (clip l.length i)).take (l.length - clip l.length i)=_
 rw [← List.length_drop,List.take_length]
theorem slice_take (l:List Nat) {i:Int} (h:0 ≤ i):pslice l none (some i)=l.take i.toNat:=by
 obtain ⟨n,rfl⟩:∃ n:Nat,i=n:=⟨i.toNat,(Int.toNat_of_nonneg h).symm⟩
 rw [Int.toNat_natCast]
 rcases Nat.le_total n l.length with q | q
 ·exact slice_to q
 ·show (l.drop 0).take (clip l.length (n:Int) - 0)=_
  unfold clip
  rw [if_neg (Int.not_lt.mpr h),Int.min_eq_right (Int.ofNat_le.mpr q),List.take_of_length_le q]
  exact List.take_length
theorem text1 (w s:List Nat) (so:Nat) (m:List Nat):textOf (itsP noP noS [.fld w s so m true] 0)=37::(w ++ bareT s so m):=List.append_nil _
noncomputable def oneO (o:IOut):List (List Nat) × End:=rdO 0 (fun v u=>(v ++ [],.fin 1 false)) o
noncomputable def oneV (o:IOut):PV:=L3.firstV (ansV (lay 1) (oneO o))
noncomputable def wrV (x:WR):PV:=match x with
 | .error e=>tryV (.error e)
 | .ok y=>optPV y.1
theorem one_field {w s m r:List Nat} {so sk:Nat} {x:WR}:oneV (fieldO ⟨false,[],w,s,so,m⟩ sk r x)=wrV x:=by
 have st:∀ sh,oneV (.stop sh)=.none:=fun sh=>by cases sh <;> rfl
 cases x with
 | error e=>rfl
 | ok y =>
  obtain ⟨v,n⟩:=y
  cases v with
  | none=>exact st _
  | some v=>rfl
theorem run_take {P:Nat → Bool} {r:List Nat} (h:r.takeWhile P=[]) (n:Nat):(r.take n).takeWhile P=[]:=by
 cases r with
 | nil=>rw [List.take_nil]; rfl
 | cons c r =>
  cases n with
  | zero=>rfl
  | succ n =>
   rw [List.takeWhile_cons] at h
   rw [List.take_succ_cons,List.takeWhile_cons]
   cases q:P c with
   | true=>rw [q] at h; cases h
   | false=>rfl
theorem run_drop (P:Nat → Bool):∀ r:List Nat,(r.drop (r.takeWhile P).length).takeWhile P=[]:=by
 intro r
 induction r with
 | nil=>rfl
 | cons c r ih =>
  rw [List.takeWhile_cons]
  cases q:P c with
  | true=>exact ih
  | false=>show (c::r).takeWhile P=[]; rw [List.takeWhile_cons,q]; rfl
theorem cut_eq {w s m r:List Nat} {so:Nat} (h110:so ≠ 110) (hw:0 < pv w) (h99:so ≠ 99) :
  oneV (pcR (.fld w s so m true) false 0 r)=oneV (pcR (.fld [] s so m true) false 0 ((if so=91 then r else bare r).take (pv w).toNat)):=by
 have n110:¬ decide ([so]=[110])=true:=fun w=>h110 (List.head_eq_of_cons_eq (of_decide_eq_true w))
 have e1:∀ w r,pcR (.fld w s so m true) false 0 r=fieldR ⟨false,[],w,s,so,m⟩ (skipN so r) (r.drop (skipN so r)):=fun w r=>if_neg n110
 have hl:(if so=91 then r else bare r)=r.drop (skipN so r) ∧ (so ≠ 91 → (r.drop (skipN so r)).takeWhile isBlank=[]):=by
  unfold skipN
  by_cases q:so=91
  ·rw [if_pos q,q]
   exact ⟨List.drop_zero.symm,fun h=>absurd rfl h⟩
  ·have:(!decide ([so] ∈ ([[99],[91]]:List (List Nat))))=true:=by
    rw [decide_eq_false fun w=>?_]; rfl
    rcases List.mem_cons.mp w with w | w
    ·exact h99 (List.head_eq_of_cons_eq w)
    ·exact q (List.head_eq_of_cons_eq (List.mem_singleton.mp w))
   rw [if_neg q,if_pos this]
   exact ⟨rfl,fun _=>run_drop _ _⟩
 rw [e1,e1,hl.1]
 generalize r.drop (skipN so r)=r' at hl
 have hs:skipN so (r'.take (pv w).toNat)=0:=by
  unfold skipN
  by_cases q:so=91
  ·rw [q]; rfl
  ·rw [run_take (hl.2 q)]; split <;> rfl
 rw [hs,List.drop_zero]
 unfold fieldR
 by_cases z:r'=[]
 ·rw [z,List.take_nil,if_pos rfl,if_pos rfl]
 ·have z2:r'.take (pv w).toNat ≠ []:=fun q=>(List.take_eq_nil_iff.mp q).elim (fun a=>Nat.lt_irrefl 0 (Nat.lt_of_lt_of_eq (Int.lt_toNat.mpr hw) a)) z
  rw [if_neg z,if_neg z2,one_field,one_field]
  unfold cutW
  rw [if_neg (Int.not_le.mpr hw),if_pos (show pv [] ≤ 0 by decide)]
  rfl
namespace L3
theorem scan_one (k:Nat) {t:List Nat} (ht:Fine t) {w s:List Nat} {so:Nat} {m:List Nat} (g:Pc.Good (.fld w s so m true)) (hs:Pc.Small (.fld w s so m true)) :
  Ph tab (k + 8) 37 [.val (.str t),.val (.str (37::(w ++ bareT s so m))),.val (.int 0)] none=some (.ok (ansV (lay 1) (oneO (pcR (.fld w s so m true) false 0 t)),none)):=by
 have h:=scan_seq core k ht.len ht.chr (ps:=[.fld w s so m true]) (fun p hp=>by rw [List.mem_singleton.mp hp]; exact g) (Nat.le_of_ble_eq_true rfl) (by rw [text1]; exact Nat.le_trans (Nat.mul_le_mul_left 3 (Nat.succ_le_succ hs)) (by decide)) (count:=0) (.inl rfl)
 rw [text1] at h
 exact scan_ok (k + 7) h ⟨_,_,_,rfl,rfl,rfl⟩
theorem one_val {t:List Nat} (ht:Fine t) {w s:List Nat} {so:Nat} {m:List Nat} (g:Pc.Good (.fld w s so m true)):ValR (oneO (pcR (.fld w s so m true) false 0 t)) 1 :=
 rd_val [.fld w s so m true] (fun p hp=>by rw [List.mem_singleton.mp hp]; exact g) 0 0 0 (r:=t) (Nat.le_trans (Nat.le_of_eq (Nat.zero_add _)) ht.len) ht
theorem one_lay {R:List (List Nat) × End} (h:ValR R 1):(∀ v ∈ lay 1 R.1,ValOk v) ∧ (lay 1 R.1).length ≤ 100 ∧ lay 1 R.1 ≠ []:=by
 have:=lay_len h.2.1
 exact ⟨lay_val h.1,by rw [this]; decide,fun q=>by rw [q] at this; cases this⟩
theorem first_show {F:List (List Nat) → List (Option (List Nat))} {n:Nat} {R:List (List Nat) × End} (h:ValR R n) (hF:(∀ v ∈ F R.1,ValOk v) ∧ (F R.1).length ≤ 100 ∧ F R.1 ≠ []):Shows (firstV (ansV F R)):=by
 refine ans_cases (F:=F) h (P:=fun v=>Shows (firstV v)) (fun _=>uns_show) (fun _=>val_show (v:=none) nofun) fun _=>?_
 obtain ⟨v,vs,e⟩:=List.exists_cons_of_ne_nil hF.2.2
 have hv:=hF.1 v (by rw [e]; exact .head _)
 rw [e]
 exact val_show hv
theorem is_cut_ok (k:Nat) {r:List Nat} (hr:Fine r) {w s:List Nat} {so:Nat} {m:List Nat} (g:Pc.Good (.fld w s so m true)) (hs:Pc.Small (.fld w s so m true)) (hw:0 < pv w) (h110:so ≠ 110) :
  Ph tab (k + 9) 41 [.val (pcPV (.fld w s so m true)),.val (.str r)] none=some (.ok (.bool true,none)):=by
 have hL:r.length ≤ LIM:=Nat.le_trans hr.len (by decide)
 have gf:(⟨!true,[],w,s,so,m⟩:Fld).Good:=g
 have h99:so ≠ 99:=fun q=>by
  have:=(Bool.and_eq_true_iff.mp gf.ok).1
  rw [show decide ([so]=[99])=true from decide_eq_true (by rw [q]),show decide (pv w ≥ 0)=true from decide_eq_true (Int.le_of_lt hw)] at this
  cases this
 have hwo:wOf w=pv w:=if_neg (Int.not_le.mpr hw)
 have sl:∀ {n:Nat},n ≤ 60 → 1 + n ≤ strLine:=fun h=>sline (Nat.le_trans (Nat.add_le_add_left h 1) (by decide))
 have hb:(bareT s so m).length ≤ 60:=Nat.le_trans (by rw [List.length_append]; exact Nat.le_add_left _ _) hs
 have hlead:Fine (if so=91 then r else bare r):=ite_ok (P:=Fine) (fun _=>hr) (hr.drop _)
 have ht2:=hlead.take (pv w).toNat
 have g0:Pc.Good (.fld [] s so m true):=⟨nofun,fun _=>rfl,nofun,gf.size,gf.sort,gf.mem,by
  have:=Bool.and_eq_true_iff.mp gf.ok
  show (!(decide ([so]=[99]) && _) && _)=true
  rw [show decide ([so]=[99])=false from decide_eq_false fun w=>h99 (List.head_eq_of_cons_eq w)]
  exact Bool.and_eq_true_iff.mpr ⟨rfl,this.2⟩⟩
 have v1:=one_val hr g
 have v2:=one_val ht2 g0
 have ce:=cut_eq (s:=s) (m:=m) (r:=r) h110 hw h99
 refine ph (o:=.ok (.bool true,none)) (c:=c_law_is_cut) rfl rfl ⟨.str (if so=91 then r else bare r),⟨rfl,fun a=>⟨congrArg PV.str (if_pos (List.head_eq_of_cons_eq (of_decide_eq_true a))).symm,rfl⟩,fun a=>W_is (bared_ok (k + 7) hL) ⟨congrArg PV.str (if_neg fun q=>of_decide_eq_false a (by rw [q])).symm,rfl⟩⟩,lim_line (Nat.le_trans hlead.len (by decide)),sl hb,?_⟩
 rw [hwo,slice_take _ (Int.le_of_lt hw)]
 refine W_is (scan_one k ht2 g0 hb) (W_is (first_ok (k + 7) v2 (one_lay v2)) ⟨sl hs,W_is (scan_one k hr g hs) (W_is (first_ok (k + 7) v1 (one_lay v1)) ⟨_,repr_ok (first_show v1 (one_lay v1)),_,repr_ok (first_show v2 (one_lay v2)),?_⟩)⟩)
 exact okB (decide_eq_true (congrArg reprOf ce))
end L3
end
noncomputable section
theorem op_of {α:Type} {o:Option α} {x:α} {k:α → Prop} (h:o=some x) (hk:k x):opP o k:=by rw [h]; exact hk
noncomputable def nP:Pc:=.fld [] [] 110 [] true
theorem nP_good:nP.Good:=⟨nofun,fun _=>rfl,nofun,by decide,by decide,fun h=>absurd h (by decide),by decide +kernel⟩
theorem pair_text (p:Pc):textOf (itsP noP noS [p] 0) ++ [37,110]=textOf (itsP noP noS [p,nP] 0):=by
 show textOf (its1 noP noS 0 p ++ []) ++ [37,110]=textOf (its1 noP noS 0 p ++ [.fld (fldP false [] [] [] 110 [])])
 rw [List.append_nil,textOf_app]; rfl
theorem pair_rd (p:Pc) (r:List Nat):rdP noS [p,nP] 0 0 0 r=rdO 0 (fun v u=>(v ++ [digits (u:Nat)],.fin (p.cnt + 1) false)) (pcR p (!p.kept) 0 r):=by
 show rdO 0 _ (pcR p (!p.kept || noS 0) 0 r)=_
 rw [show noS 0=false from rfl,Bool.or_false]
 cases pcR p (!p.kept) 0 r with
 | err e=>rfl
 | stop sh=>rfl
 | go v u =>
  show (v ++ [digits ((0 + u:Nat):Int)],End.fin (0 + p.cnt + 1) false)=_
  rw [Nat.zero_add,Nat.zero_add]; rfl
theorem txt_here:∀ {its:List It},(∀ i ∈ its,i.Good ∧ i.cnt=0) → ∀ (a b:Nat) (r:List Nat),txtR its a r=txtR its b r:=by
 intro its
 induction its with
 | nil=>intro _ a b r; rfl
 | cons it its ih =>
  intro h a b r
  have e:itR it a r=itR it b r:=by
   cases it with
   | fld f=>cases (h _ (.head _)).2
   | _=>rfl
  show goR _ (itR it a r)=goR _ (itR it b r)
  rw [e]
  exact congrArg (goR · _) (funext fun u=>ih (fun i hi=>h i (.tail _ hi)) _ _ _)
theorem here_eq {p:Pc} (g:p.Good) {b:Bool} {here:Nat} {r:List Nat}:pcR p b here r=pcR p b 0 r ∨ ∃ w s m k,p=.fld w s 110 m k ∧ pcR p b here r=.go (if b=true then [] else [digits here]) 0 ∧ pcR p b 0 r=.go (if b=true then [] else [digits (0:Nat)]) 0:=by
 cases p with
 | txt k its=>exact .inl (txt_here g _ _ _)
 | fld w s so m k =>
  by_cases q:so=110
  ·subst q
   exact .inr ⟨w,s,m,k,rfl,rfl,rfl⟩
  ·left
   have n110:¬ decide ([so]=[110])=true:=fun w=>q (List.head_eq_of_cons_eq (of_decide_eq_true w))
   exact (if_neg n110).trans (if_neg n110).symm
namespace L3
theorem are_cut_ok (k:Nat) {ps:List Pc} (hg:∀ p ∈ ps,p.Good ∧ p.Small) (hl:ps.length ≤ LIM) {t:List Nat} (ht:Fine t):Ph tab (k + 10) 43 [.val (.lst (ps.map pcPV)),.val (.str t)] none=some (.ok (.bool true,none)):=by
 refine ph (o:=.ok (.bool true,none)) (c:=c_law_are_cut) rfl rfl ⟨map_line hl,for_st (f:=pcPV) (fun s:List Nat × Option PV=>[.val (.lst (ps.map pcPV)),.val (.str t),.val (.str s.1),oV s.2]) (fun _=>none) (fun r s=>(∀ p ∈ r,p.Good ∧ p.Small) ∧ Fine s.1) (fun p r s c hS hc=>?_) (fun s hS=>by exact rfl) (s:=⟨t,none⟩) ⟨hg,ht⟩⟩
 obtain ⟨rest,x⟩:=s
 obtain ⟨hg,hf⟩:=hS
 obtain ⟨g,hs⟩:=hg p (.head _)
 have next:∀ nn:PS,wSs (Ph tab (k + 9)) (IsO (.ok (.bool true,none))) XX NN (dropC 1 b_law_are_cut_1) [.val (.lst (ps.map pcPV)),.val (.str t),.val (.str rest),.val (pcPV p)] none c nn c:=fun nn =>
  ⟨lim_line (Nat.le_trans hf.len (by decide)),hc ⟨pslice rest (some 1) none,some (pcPV p)⟩ ⟨fun q hq=>hg q (.tail _ hq),(show Fine (pslice rest (some 1) none) by rw [slice_drop]; exact hf.drop _)⟩⟩
 refine put_ok (i:=3) ⟨_,rfl,pn_oV _⟩ ⟨false,?_,fun w=>ft w,fun _=>nil_ok (next _)⟩
 cases p with
 | txt kk its=>exact ⟨_,tup_at (i:=3) rfl (Nat.le_of_ble_eq_true rfl),rfl,fun w=>ft w,fun _=>rfl⟩
 | fld w s so m kp =>
  refine ⟨_,tup_at (i:=3) rfl (Nat.le_of_ble_eq_true rfl),rfl,fun a=>⟨_,tup_at (i:=4) rfl (Nat.le_of_ble_eq_true rfl),rfl,fun b=>⟨_,tup_at (i:=0) rfl (Nat.le_of_ble_eq_true rfl),rfl,fun d=>?_,fun _=>rfl⟩,fun _=>rfl⟩,fun _=>rfl⟩
  cases show kp=true from b
  have hw:0 < pv w:=by
   have a:decide (wOf w > 0)=true:=a
   have a:=of_decide_eq_true a
   unfold wOf at a
   split at a
   ·cases a
   ·exact Int.not_le.mp ‹_›
  exact W_is (is_cut_ok k hf g hs hw fun q=>of_decide_eq_false (nt d) (by rw [q])) ⟨rfl,fin rfl⟩
end L3
end
noncomputable section
theorem one_len {p:Pc} (h:p.Small):(textOf (itsP noP noS [p] 0)).length ≤ 62:=by
 rw [show textOf (itsP noP noS [p] 0)=textOf (its1 noP noS 0 p) from congrArg textOf (List.append_nil _)]
 cases p with
 | txt k its=>exact Nat.le_trans h (by decide)
 | fld w s so m k =>
  show ((37::((fldP (!k || noS 0) (noP 0) w s so m).head ++ (w ++ bareT s so m))) ++ []).length ≤ 62
  rw [List.append_nil,List.length_cons,List.length_append]
  exact Nat.succ_le_succ (Nat.le_trans (Nat.add_le_add (by cases k <;> exact Nat.le_of_ble_eq_true rfl:_ ≤ 1) h) (by decide))
theorem last_lst {l:List PV} {x:PV} (h:l.getLast?=some x):pidx (.lst l) (.int (-1))=some x:=by
 show (if (-1:Int)=-1 then l.getLast? else at62 l (-1))=_
 rw [if_pos rfl]; exact h
noncomputable abbrev chE (ps:List Pc) (t:List Nat) (vs:List (Option (List Nat))) (here many n:Nat) (p:PV) (x7 x8:SV):List SV :=
 [.val (.lst (ps.map pcPV)),.val (.str t),.own (vs.map optPV),.val (.str (t.drop here)),.val (.int many),.val (.int n),.val p,x7,x8]
namespace L3
section
variable {Φ:Fn} {ps:List Pc} {t:List Nat} {m:Nat} {ws:List (List Nat)} {here many n:Nat} {pv:PV} {x8:SV} {R:List (List Nat) × End} {c nn:PS}
theorem ch_err (h:ansV (lay m) R=uV):wSs Φ (IsO (.ok (ansV (lay m) R,none))) XX NN (dropC 1 b_law_chain_1) (chE ps t (lay m ws) here many n pv (.val uV) x8) none c nn c:=by
 rw [h]; exact ⟨fun _=>rfl,fun w=>tf w⟩
theorem ch_end (hR:R=(ws,.fin many true)):wSs Φ (IsO (.ok (ansV (lay m) R,none))) XX NN (dropC 1 b_law_chain_1) (chE ps t (lay m ws) here many n pv (.val (.int (-1))) x8) none c nn c:=by
 have e:ansV (lay m) R=tryV (if (true && decide ((many:Int)=0))=true then .ok (.int (-1),none) else .ok (.lst ((lay m ws).map optPV),none)):=by rw [hR]; rfl
 refine ⟨fun w=>ft w,fun _=>⟨decide ((many:Int)=0),⟨rfl,fun _=>⟨rfl,fin rfl⟩,fun w=>tf w⟩,fun a=>?_,fun a=>⟨true,⟨rfl,fun w=>tf w,fun _=>rfl⟩,fun _=>?_,fun w=>tf w⟩⟩⟩
 ·rw [e,if_pos (show (true && decide ((many:Int)=0))=true from a)]; exact rfl
 ·rw [e,if_neg (ne_t (show (true && decide ((many:Int)=0))=false from a))]; exact rfl
theorem ch_stop {j:Nat} (hR:R=(ws,.fin many false)):wSs Φ (IsO (.ok (ansV (lay m) R,none))) XX NN (dropC 1 b_law_chain_1) (chE ps t (lay m ws) here many n pv (.val (.lst ((lay (j + 1) []).map optPV))) x8) none c nn c:=by
 have q:=eq_lst (vals_ok (vs:=lay (j + 1) []) (lay_val nofun)).1
 have l:((lay (j + 1) []).map optPV).getLast?=some .none:=by
  show ((List.replicate (j + 1) none).map optPV).getLast?=_
  rw [List.map_replicate,List.getLast?_replicate,if_neg (Nat.succ_ne_zero j)]; rfl
 refine ⟨fun w=>ft w,fun _=>⟨false,op_of q ⟨rfl,fun w=>ft w,fun _=>rfl⟩,fun w=>ft w,fun _=>⟨true,op_of q ⟨rfl,fun _=>⟨_,last_lst l,rfl,fun w=>tf w,fun _=>rfl⟩,fun w=>ft w⟩,fun _=>?_,fun w=>tf w⟩⟩⟩
 rw [hR]; exact rfl
theorem ch_tail {u n':Nat} {VS:List PV} {L:PV} {isf:Bool} (h5:pidx pv (.int 5)=some (.bool isf)) (hL:t.length ≤ 400) (hu:u ≤ (t.drop here).length) {o:OutE}
  (hc:c [.val (.lst (ps.map pcPV)),.val (.str t),.own VS,.val (.str (t.drop (here + u))),.val (.int ((if isf=true then many + 1 else many:Nat):Int)),.val (.int n'),.val pv,.val L,.val (.int u)] none) :
  wSs Φ (IsO o) XX NN (dropC 6 b_law_chain_1) [.val (.lst (ps.map pcPV)),.val (.str t),.own VS,.val (.str (t.drop here)),.val (.int many),.val (.int n'),.val pv,.val L,.val (.int u)] none c nn c:=by
 have hl:(t.drop here).length ≤ LIM:=Nat.le_trans (by rw [List.length_drop]; exact Nat.sub_le _ _) (Nat.le_trans hL (by decide))
 have e:pslice (t.drop here) (some (u:Int)) none=t.drop (here + u):=by rw [slice_from hu,List.drop_drop]
 cases isf with
 | true=>exact ⟨_,h5,fun _=>⟨lim_line hl,by rw [e]; exact hc⟩,fun w=>tf w⟩
 | false=>exact ⟨_,h5,fun w=>ft w,fun _=>⟨lim_line hl,by rw [e]; exact hc⟩⟩
theorem lay_put {x:List Nat} (h:ws.length < m):((lay m ws).map optPV).set (Int.toNat (ws.length:Int)) (.str x)=(lay m (ws ++ [x])).map optPV:=by rw [← lay_set x h,List.map_set]; rfl
theorem ch_go (k:Nat) {u:Nat} (hu:u < 40) (hur:u ≤ (t.drop here).length) {L:List PV} (hp:PV.plains L 7=true) (hlast:L.getLast?=some (.str (digits u))) (hLl:L.length ≤ LIM) {kp isf isn:Bool} (h4:pidx pv (.int 4)=some (.bool kp)) (h5:pidx pv (.int 5)=some (.bool isf))
  {z:List Nat} (h0:pidx pv (.int 0)=some (.str z)) (hz:decide (z=[110])=isn) (hL:t.length ≤ 400) (hlen:kp=true → ws.length < m) (hm:m ≤ 100) {v v':List Nat} (hfirst:kp=true → L[0]?=some (.str v)) (hn1:kp=true → isn=true → v=digits ((0:Nat):Int) ∧ v'=digits (here:Int)) (hn0:kp=true → isn=false → v'=v) (hh:here ≤ t.length)
  (hc:∀ x7 x8,c (chE ps t (lay m (if kp=true then ws ++ [v'] else ws)) (here + u) (if isf=true then many + 1 else many) (if kp=true then ws.length + 1 else ws.length) pv (oV x7) (oV x8)) none) {y8:Option PV} :
  wSs (Ph tab (k + 1)) (IsO (.ok (ansV (lay m) R,none))) XX NN (dropC 1 b_law_chain_1) (chE ps t (lay m ws) here many ws.length pv (.val (.lst L)) (oV y8)) none c nn c:=by
 have q:=eq_lst hp
 have hc:=hc (some (.lst L)) (some (.int u))
 have tl:t.length ≤ LIM:=Nat.le_trans hL (by decide)
 have hl:(t.drop here).length ≤ LIM:=Nat.le_trans (by rw [List.length_drop]; exact Nat.sub_le _ _) tl
 refine ⟨fun w=>ft w,fun _=>⟨false,op_of q ⟨rfl,fun w=>ft w,fun _=>rfl⟩,fun w=>ft w,fun _=>⟨false,op_of q ⟨rfl,fun _=>⟨_,last_lst hlast,rfl,fun _=>rfl,fun w=>ft w⟩,fun w=>ft w⟩,fun w=>ft w,fun _=>⟨_,last_lst hlast,W_is (number_ok k hu) (put_ok (i:=8) ⟨_,rfl,pn_oV _⟩ ⟨_,h4,fun a=>?_,fun a=>?_⟩)⟩⟩⟩⟩
 ·have hlt:=hlen a
  have hn1:=hn1 a
  have hn0:=hn0 a
  rw [a] at hc
  have gd:(0:Int) ≤ (ws.length:Int) ∧ (ws.length:Int) < ((lay m ws).map optPV).length ∧ (ws.length:Int) < (b62:Int):=⟨Int.natCast_nonneg _,by rw [List.length_map,lay_len (Nat.le_of_lt hlt)]; exact Int.ofNat_lt.mpr hlt,Int.ofNat_lt.mpr (lim_62 (Nat.le_trans (Nat.le_of_lt hlt) (Nat.le_trans hm (by decide))))⟩
  refine ⟨_,lst_at (i:=0) (hfirst a) hLl,gd,_,h0,fun b=>?_,fun b=>?_⟩
  ·obtain ⟨rfl,rfl⟩:=hn1 (hz.symm.trans b)
   have e:(t.length:Int) - ((t.drop here).length:Int) + ((0:Nat):Int)=here:=by rw [List.length_drop,Int.ofNat_sub hh]; omega
   refine ⟨lim_line tl,lim_line hl,_,lst_at (i:=0) (hfirst a) hLl,W_is (number_ok k (x:=0) (by decide)) ⟨.str (digits here),?_,?_,?_⟩⟩
   ·show biop .str [.int ((t.length:Int) - ((t.drop here).length:Int) + ((0:Nat):Int))]=_
    rw [e]
    exact str_ok (Nat.lt_of_le_of_lt (Nat.le_trans hh hL) (Nat.lt_trans (by decide:400 < 2 ^ 64) b_big.2))
   ·rw [List.length_set]; exact gd
   ·show wSs _ _ _ _ _ [_,_,.own ((((lay m ws).map optPV).set _ _).set _ _),_,_,_,_,_,_] _ _ _ _
    rw [List.set_set,lay_put hlt]
    exact ch_tail h5 hL hur hc
  ·rw [hn0 (hz.symm.trans b)] at hc
   show wSs _ _ _ _ _ [_,_,.own (((lay m ws).map optPV).set _ _),_,_,_,_,_,_] _ _ _ _
   rw [lay_put hlt]
   exact ch_tail h5 hL hur hc
 ·rw [a] at hc
  exact nil_ok (ch_tail h5 hL hur hc)
end
end L3
end
noncomputable section
theorem here_same {p:Pc} (g:p.Good) {b:Bool} {here:Nat} {r:List Nat} (h:∀ v,pcR p b 0 r ≠ .go v 0):pcR p b here r=pcR p b 0 r :=
 (here_eq g).resolve_right (by rintro ⟨w,s,m,k,_,_,q⟩; exact h _ q)
noncomputable def kindT:Pc → List Nat
 | .txt k _=>[k]
 | .fld _ _ so _ _=>[so]
noncomputable def isF:Pc → Bool
 | .txt _ _=>false
 | .fld ..=>true
theorem pc_facts (p:Pc):pidx (pcPV p) (.int 0)=some (.str (kindT p)) ∧ pidx (pcPV p) (.int 5)=some (.bool (isF p)) ∧ ∀ n,n + p.cnt=if isF p=true then n + 1 else n:=by
 cases p with
 | txt k its=>exact ⟨tup_at (i:=0) rfl (Nat.le_of_ble_eq_true rfl),tup_at (i:=5) rfl (Nat.le_of_ble_eq_true rfl),fun _=>rfl⟩
 | fld w s so m k=>exact ⟨tup_at (i:=0) rfl (Nat.le_of_ble_eq_true rfl),tup_at (i:=5) rfl (Nat.le_of_ble_eq_true rfl),fun _=>rfl⟩
theorem go_pair {p:Pc} (g:p.Good) {here u:Nat} {r:List Nat} {v:List (List Nat)} (e:pcR p (!p.kept) 0 r=.go v u):∃ v',pcR p (!p.kept) here r=.go v' u ∧
  ((p.kept=false ∧ v=[] ∧ v'=[]) ∨ (p.kept=true ∧ ∃ z z',v=[z] ∧ v'=[z'] ∧ (decide (kindT p=[110])=true → z=digits ((0:Nat):Int) ∧ z'=digits (here:Int)) ∧ (decide (kindT p=[110])=false → z'=z))):=by
 rcases here_eq g (b:=!p.kept) (here:=here) (r:=r) with q | ⟨w,s,m,k,rfl,q1,q2⟩
 ·refine ⟨v,q.trans e,?_⟩
  cases hk:p.kept with
  | false=>rw [hk] at e; exact .inl ⟨rfl,(pc_go g e).2.1 rfl,(pc_go g e).2.1 rfl⟩
  | true =>
   rw [hk] at e q
   obtain ⟨_,z,rfl⟩:=(star_go hk).2 v u e
   refine .inr ⟨rfl,z,z,rfl,rfl,fun w=>?_,fun _=>rfl⟩
   cases p with
   | txt k its=>cases hk
   | fld w' s so m k =>
    have w:so=110:=List.head_eq_of_cons_eq (of_decide_eq_true w)
    subst w
    have e:IOut.go [digits ((0:Nat):Int)] 0=.go [z] u:=e
    have q:IOut.go [digits (here:Int)] 0=.go [digits ((0:Nat):Int)] 0:=q
    cases e
    injection q with q
    exact ⟨rfl,(List.head_eq_of_cons_eq q).symm⟩
 ·rw [q2] at e
  cases e
  refine ⟨_,q1,?_⟩
  cases k with
  | false=>exact .inl ⟨rfl,rfl,rfl⟩
  | true=>exact .inr ⟨rfl,_,_,rfl,rfl,fun _=>⟨rfl,rfl⟩,fun w=>tf w⟩
namespace L3
theorem chain_step (k:Nat) {ps:List Pc} {t:List Nat} (ht:Fine t) (h40:t.length < 40) {m:Nat} (hm:m ≤ 100) {p:Pc} {r:List Pc} {here many:Nat} {ws:List (List Nat)} {R:List (List Nat) × End} {c nn:PS} {x7 x8:Option PV}
  (g:p.Good) (hs:p.Small) (hh:here ≤ t.length) (hk:keptN (p::r) ws.length=m) (hR:(ws ++ (rdP noS (p::r) ws.length here many (t.drop here)).1,(rdP noS (p::r) ws.length here many (t.drop here)).2)=R)
  (hc:∀ here' many' ws' x7 x8,here' ≤ t.length → keptN r ws'.length=m → (ws' ++ (rdP noS r ws'.length here' many' (t.drop here')).1,(rdP noS r ws'.length here' many' (t.drop here')).2)=R → c (chE ps t (lay m ws') here' many' ws'.length (pcPV p) (oV x7) (oV x8)) none) :
  wSs (Ph tab (k + 8)) (IsO (.ok (ansV (lay m) R,none))) XX NN b_law_chain_1 (chE ps t (lay m ws) here many ws.length (pcPV p) (oV x7) (oV x8)) none c nn c:=by
 have hf:=ht.drop here
 have hn1:nx p 0 ≤ 1:=ite_ok (P:=fun n:Nat=>n ≤ 1) (fun _=>Nat.le_refl 1) (Nat.zero_le 1)
 have l1:=one_len hs
 have F:=form_ok (k + 7) (ps:=[p]) (turn:=-1) (star:=-1) (pd:=noP) (st:=noS) (fun q hq=>by rw [List.mem_singleton.mp hq]; exact hs) (Nat.le_of_ble_eq_true rfl) ⟨fun _=>rfl,.inl ⟨by decide,fun _=>rfl⟩,Nat.le_trans hn1 (by decide)⟩
 have S:=scan_ok (k + 7) (F:=lay (nx p 0 + 1)) (scan_seq core k hf.len hf.chr (ps:=[p,nP]) (fun q hq=>by rcases List.mem_cons.mp hq with rfl | hq; exact g; rw [List.mem_singleton.mp hq]; exact nP_good) (Nat.le_trans (Nat.succ_le_succ hn1) (by decide)) (by rw [← pair_text,List.length_append]; exact Nat.le_trans (Nat.mul_le_mul_left 3 (Nat.add_le_add_right l1 2)) (by decide)) (count:=0) (.inl rfl)) ⟨_,_,_,rfl,rfl,rfl⟩
 rw [← pair_text,pair_rd] at S
 refine ⟨rfl,W_is F ⟨sline (Nat.le_trans (Nat.add_le_add_right l1 2) (by decide)),W_is S (put_ok (i:=7) ⟨_,rfl,pn_oV _⟩ ?_)⟩⟩
 have e0:rdP noS (p::r) ws.length here many (t.drop here)=rdO many (fun v u=>let x:=rdP noS r (nx p ws.length) (here + u) (many + p.cnt) ((t.drop here).drop u); (v ++ x.1,x.2)) (pcR p (!p.kept) here (t.drop here)):=by
  show rdO many _ (pcR p (!p.kept || noS _) here _)=_
  rw [show noS ws.length=false from rfl,Bool.or_false]
 rw [e0] at hR
 have hv:=pcR_val g (star:=!p.kept) (Nat.zero_le _) hf (here:=0)
 cases e:pcR p (!p.kept) 0 (t.drop here) with
 | err x =>
  rw [e] at hv
  have q:=(here_same g (here:=here) fun v w=>IOut.noConfusion (e.symm.trans w)).trans e
  cases show x=fUns from hv
  rw [q] at hR
  exact ch_err (by rw [← hR]; rfl)
 | stop sh =>
  have q:=(here_same g (here:=here) fun v w=>IOut.noConfusion (e.symm.trans w)).trans e
  rw [q] at hR
  have hR:R=(ws,.fin many sh):=by rw [← hR]; exact congrArg (·,_) (List.append_nil ws)
  cases sh with
  | true=>exact ch_end hR
  | false=>exact ch_stop hR
 | go v u =>
  rw [e] at hv
  obtain ⟨v',q,hvv⟩:=go_pair g (here:=here) e
  obtain ⟨f0,f5,fc⟩:=pc_facts p
  have hur:=(pc_go g e).2.2
  have hu40:u < 40:=Nat.lt_of_le_of_lt hur (Nat.lt_of_le_of_lt (by rw [List.length_drop]; exact Nat.sub_le _ _) h40)
  rw [q] at hR
  have hR:((ws ++ v') ++ (rdP noS r (nx p ws.length) (here + u) (many + p.cnt) (t.drop (here + u))).1,(rdP noS r (nx p ws.length) (here + u) (many + p.cnt) (t.drop (here + u))).2)=R:=by rw [List.append_assoc,← hR,← List.drop_drop]; rfl
  rw [fc] at hR
  have hh':here + u ≤ t.length:=by rw [List.length_drop] at hur; exact Nat.le_trans (Nat.add_le_add_left hur _) (Nat.le_of_eq (Nat.add_sub_cancel' hh))
  have vo:∀ l,Txt l → ValOk (some l):=fun l h x hx=>by cases hx; exact h
  have dt:Txt (digits (u:Int)):=digits_txt (Nat.lt_trans hu40 (Nat.lt_trans (by decide:40 < 2 ^ 64) b_big.2))
  rcases hvv with ⟨hk0,rfl,rfl⟩ | ⟨hk1,z,z',rfl,rfl,d1,d2⟩
  ·have n0:∀ n,nx p n=n:=fun n=>by unfold nx; rw [hk0]; rfl
   rw [n0,List.append_nil] at hR
   rw [n0]
   refine ch_go (k + 7) hu40 hur (L:=[.str (digits u)]) (vals_ok (vs:=[some (digits u)]) fun x hx=>by rw [List.mem_singleton.mp hx]; exact vo _ dt).1 rfl (Nat.le_of_ble_eq_true rfl) (pc_four p) f5 f0 rfl ht.len (fun w=>b_no w hk0) hm (v:=[]) (v':=[]) (fun w=>b_no w hk0) (fun w=>b_no w hk0) (fun w=>b_no w hk0) hh fun x7 x8=>?_
   rw [hk0]
   exact hc _ _ ws x7 x8 hh' (by rw [← n0 ws.length]; exact hk) hR
  ·have n1:∀ n,nx p n=n + 1:=fun n=>by unfold nx; rw [hk1]; rfl
   rw [n1] at hR
   rw [n1]
   have hlt:ws.length < m:=Nat.lt_of_lt_of_le (Nat.lt_succ_self _) (by show ws.length + 1 ≤ m; rw [← n1]; exact Nat.le_trans (keptN_le r _) (Nat.le_of_eq hk))
   refine ch_go (k + 7) hu40 hur (L:=[.str z,.str (digits u)]) (vals_ok (vs:=[some z,some (digits u)]) fun x hx=>?_).1 rfl (Nat.le_of_ble_eq_true rfl) (pc_four p) f5 f0 rfl ht.len (fun _=>hlt) hm (v:=z) (v':=z') (fun _=>rfl) (fun _=>d1) (fun _=>d2) hh fun x7 x8=>?_
   ·rcases List.mem_cons.mp hx with rfl | hx
    ·exact vo _ (hv z (.head _))
    ·rw [List.mem_singleton.mp hx]; exact vo _ dt
   ·rw [hk1]
    have lw:(ws ++ [z']).length=ws.length + 1:=List.length_append
    have:=hc (here + u) (if isF p=true then many + 1 else many) (ws ++ [z']) x7 x8 hh' (by rw [lw,← n1]; exact hk) (by rw [lw]; exact hR)
    rw [lw] at this
    exact this
theorem chain_ok (k:Nat) {ps:List Pc} (hg:∀ p ∈ ps,p.Good ∧ p.Small) (hl:ps.length ≤ 10) {t:List Nat} (ht:Fine t) (h40:t.length < 40) (hm:keptN ps 0 ≤ 100) :
  Ph tab (k + 9) 42 [.val (.lst (ps.map pcPV)),.val (.str t)] none=some (.ok (ansV (lay (keptN ps 0)) (rdP noS ps 0 0 0 t),none)):=by
 have hlL:ps.length ≤ LIM:=Nat.le_trans hl (by decide)
 have ey:(ps.filter Pc.kept).map (fun p=>PV.none)=(lay (keptN ps 0) []).map optPV:=by
  show _=(List.replicate (keptN ps 0) none).map optPV
  rw [List.map_const',List.map_replicate,kept_filter,Nat.zero_add]; rfl
 generalize hM:keptN ps 0=m at hm ey
 generalize hR:rdP noS ps 0 0 0 t=R
 refine ph (o:=.ok (ansV (lay m) R,none)) (c:=c_law_chain) rfl rfl ⟨map_line hlL,(lay m []).map optPV,fun kk=>(comp_kept (g:=fun _=>.none) (fun _=>rfl) ps kk).trans (by rw [ey]),map_line hlL,?_⟩
 refine for_st (f:=pcPV) (fun s:Nat × Nat × List (List Nat) × Option PV × Option PV × Option PV=>[.val (.lst (ps.map pcPV)),.val (.str t),.own ((lay m s.2.2.1).map optPV),.val (.str (t.drop s.1)),.val (.int s.2.1),.val (.int s.2.2.1.length),oV s.2.2.2.1,oV s.2.2.2.2.1,oV s.2.2.2.2.2]) (fun _=>none)
  (fun r s=>(∀ p ∈ r,p.Good ∧ p.Small) ∧ s.1 ≤ t.length ∧ keptN r s.2.2.1.length=m ∧ (s.2.2.1 ++ (rdP noS r s.2.2.1.length s.1 s.2.1 (t.drop s.1)).1,(rdP noS r s.2.2.1.length s.1 s.2.1 (t.drop s.1)).2)=R)
  (fun p r s c h hc=>?_) (fun s h=>?_) (s:=⟨0,0,[],none,none,none⟩) ⟨hg,Nat.zero_le _,hM,by rw [← hR]; rfl⟩
 ·obtain ⟨hgp,hh,hk,hR⟩:=h
  refine put_ok (i:=6) ⟨_,rfl,pn_oV _⟩ ?_
  exact chain_step k ht h40 hm (hgp p (.head _)).1 (hgp p (.head _)).2 hh hk hR fun here' many' ws' x7 x8 a b d=>hc ⟨here',many',ws',some (pcPV p),x7,x8⟩ ⟨fun q hq=>hgp q (.tail _ hq),a,b,d⟩
 ·obtain ⟨_,_,_,e⟩:=h
  have e:R=(s.2.2.1,.fin s.2.1 false):=by rw [← e]; exact congrArg (·,_) (List.append_nil _)
  rw [e]; exact rfl
end L3
end
noncomputable section
theorem rot_map {a m:Nat} (ws:List (List Nat)):(rotL a (lay m ws)).map optPV=rotL a ((lay m ws).map optPV):=by
 unfold rotL
 rw [List.map_append,List.map_drop,List.map_take]
theorem cut_map {l:List (Option (List Nat))} (s:Nat):(l.map optPV).take s ++ (l.map optPV).drop (s + 1)=(l.eraseIdx s).map optPV:=by
 rw [List.eraseIdx_eq_take_drop_succ,List.map_append,List.map_take,List.map_drop]
theorem slice_upto {α:Type} {l:List α} {n:Nat} (h:n ≤ l.length):pslice l none (some (n:Int))=l.take n:=by
 show (l.drop 0).take (clip l.length (n:Int) - 0)=_
 rw [clip_nat h]; rfl
theorem text_len {pd:Nat → List Nat} {st:Nat → Bool} (hd:∀ n,(pd n).length ≤ 2):∀ (ps:List Pc),(∀ p ∈ ps,p.Small) → ∀ n,(textOf (itsP pd st ps n)).length ≤ 70 * ps.length:=by
 intro ps
 induction ps with
 | nil=>intro _ n; exact Nat.le_refl 0
 | cons p r ih =>
  intro h n
  have h2:=ih (fun q hq=>h q (.tail _ hq)) (nx p n)
  have h1:(textOf (its1 pd st n p)).length ≤ 70:=by
   have hp:=h p (.head _)
   cases p with
   | txt k its=>exact Nat.le_trans hp (by decide)
   | fld w s so m k =>
    show ((37::((fldP (!k || st n) (pd n) w s so m).head ++ (w ++ bareT s so m))) ++ []).length ≤ 70
    rw [List.append_nil,List.length_cons,List.length_append]
    refine Nat.succ_le_succ (Nat.le_trans (Nat.add_le_add (?_:_ ≤ 9) hp) (by decide))
    unfold fldP Fld.head
    split
    ·exact Nat.le_of_ble_eq_true rfl
    ·split
     ·exact Nat.zero_le _
     ·rw [List.length_append]; exact Nat.le_trans (Nat.add_le_add_right (hd n) 1) (by decide)
  show (textOf (its1 pd st n p ++ itsP pd st r (nx p n))).length ≤ 70 * (r.length + 1)
  rw [textOf_app,List.length_append,Nat.mul_succ,Nat.add_comm]
  exact Nat.add_le_add h2 h1
theorem rot_val {a m:Nat} {ws:List (List Nat)} (h:∀ l ∈ ws,Txt l):∀ v ∈ rotL a (lay m ws),ValOk v:=fun v hv=>lay_val h v ((List.mem_append.mp hv).elim (fun h=>List.mem_of_mem_drop h) fun h=>List.mem_of_mem_take h)
namespace L3
noncomputable abbrev Yes (o:OutE):Prop:=∃ q,o=.ok (.bool true,q)
noncomputable abbrev cE (row:PV) (S:PV) (ps:List Pc) (x4:SV) (V:PV) (t:List Nat) (m:Nat) (form:List Nat) (x9 x10 x11:SV):List SV :=
 [.val row,.pen,.val S,.val (.lst (ps.map pcPV)),x4,.val V,.val (.str t),.val (.int m),.val (.str form),x9,x10,x11]
section
variable {row S:PV} {x4:SV} {t form:List Nat} {ps:List Pc}
theorem case_star (k:Nat) (hg:∀ p ∈ ps,p.Good ∧ p.Small) (hl:ps.length ≤ 5) (ht:Fine t) {m:Nat} (hm:keptN ps 0=m) (h0:m ≠ 0) (hm5:m ≤ 5) {R:List (List Nat) × End} (hR:rdP noS ps 0 0 0 t=R) (hv:ValR R m) {x9 x10:SV} (hx:∃ y,x10=oV y) (n:Int) :
  wSs (Ph tab (k + 10)) Yes XX NN (dropC 15 c_law_case_right) (cE row S ps x4 (ansV (lay m) R) t m form x9 x10 .unb) (some n) (fun _ p=>Yes (.ok (.none,p))) (fun _ _=>False) (fun _ _=>False):=by
 obtain ⟨y10,rfl⟩:=hx
 have small:∀ p ∈ ps,p.Small:=fun p hp=>(hg p hp).2
 have good:∀ p ∈ ps,p.Good:=fun p hp=>(hg p hp).1
 have last:(∀ e,R.2 ≠ .err e) → ∀ (V:PV) (d:Nat) (q:Int) (D:PV),d < m → ansV (lay (m - 1)) (R.1.eraseIdx d,R.2)=D → Shows D →
   wSs (Ph tab (k + 10)) Yes XX NN (dropC 18 c_law_case_right) (cE row S ps x4 V t m form x9 (.val D) (.val (.int d))) (some q) (fun _ p=>Yes (.ok (.none,p))) (fun _ _=>False) (fun _ _=>False):=fun he V d q D hd e hs=>by
  have fs:=form_ok (k + 9) (turn:=-1) (star:=d) (pd:=noP) (st:=starS d) small (Nat.le_trans hl (by decide)) ⟨fun n=>decide_eq_decide.mpr Int.ofNat_inj.symm,.inl ⟨by decide,fun _=>rfl⟩,by rw [hm]; exact Nat.le_trans hm5 (by decide)⟩
  have sc:=scan_ok (k + 9) (scan_star core (k + 2) ht.len ht.chr good (s:=d) (by rw [hm]; exact hd) (by rw [hm]; exact Nat.le_trans hm5 (by decide)) (Nat.le_trans (Nat.mul_le_mul_left 3 (Nat.le_trans (text_len (fun _=>Nat.zero_le _) ps small 0) (Nat.mul_le_mul_left 70 hl))) (by decide))) ⟨_,_,_,rfl,rfl,rfl⟩
  rw [hm,rd_star ps good 0 0 0 t (by rw [hR]; exact he),hR,if_pos (Nat.zero_le d),Nat.sub_zero,e] at sc
  exact W_is fs (W_is sc ⟨_,repr_ok hs,_,repr_ok hs,some q,by rw [decide_eq_true rfl]⟩)
 refine ans_cases (F:=lay m) hv (P:=fun V=>wSs (Ph tab (k + 10)) Yes XX NN (dropC 15 c_law_case_right) (cE row S ps x4 V t m form x9 (oV y10) .unb) (some n) (fun _ p=>Yes (.ok (.none,p))) (fun _ _=>False) (fun _ _=>False)) (fun _=>?_) (fun h=>?_) fun h=>?_
 ·exact ⟨fun _=>⟨_,rfl⟩,fun w=>tf w⟩
 ·obtain ⟨many,h,rfl⟩:=h
  exact ⟨fun w=>ft w,fun _=>draw_W (k + 9) h0 n fun d q hd=>⟨.int (-1),⟨rfl,(fun _=>⟨rfl,rfl⟩),fun w=>tf w⟩,put_ok (i:=10) ⟨_,rfl,pn_oV _⟩ (last (by rw [h]; nofun) _ d q _ hd (by rw [h]; rfl) m1_show)⟩⟩
 ·obtain ⟨many,sh,h,hb⟩:=h
  have vo:=lay_val (m:=m) hv.1
  have hp:=eq_lst (vals_ok vo).1
  have ll:((lay m R.1).map optPV).length=m:=by rw [List.length_map,lay_len hv.2.1]
  have gl:∀ {n:Nat},n ≤ 10 → n ≤ strLine:=fun h=>sline (Nat.le_trans h (by decide))
  refine ⟨fun w=>ft w,fun _=>draw_W (k + 9) h0 n fun d q hd=>?_⟩
  have e1:pslice ((lay m R.1).map optPV) none (some (d:Int))=((lay m R.1).map optPV).take d:=slice_upto (by rw [ll]; exact Nat.le_of_lt hd)
  have e2:pslice ((lay m R.1).map optPV) (some ((d + 1:Nat):Int)) none=((lay m R.1).map optPV).drop (d + 1):=slice_from (by rw [ll]; exact hd)
  have ed:=(cut_map (l:=lay m R.1) d).trans (congrArg (List.map optPV) (lay_erase hd))
  have ev:∀ v ∈ lay (m - 1) (R.1.eraseIdx d),ValOk v:=lay_val fun l hl=>hv.1 l (List.mem_of_mem_eraseIdx hl)
  have le:(lay (m - 1) (R.1.eraseIdx d)).length ≤ 100:=by rw [← lay_erase hd]; exact Nat.le_trans (List.length_eraseIdx_le _ _) (by rw [lay_len hv.2.1]; exact Nat.le_trans hm5 (by decide))
  refine ⟨.lst ((lay (m - 1) (R.1.eraseIdx d)).map optPV),op_of hp ⟨rfl,fun w=>ft w,fun _=>⟨gl (by rw [ll]; exact Nat.le_trans hm5 (by decide)),gl (by rw [ll]; exact Nat.le_trans hm5 (by decide)),?_,?_,rfl⟩⟩,put_ok (i:=10) ⟨_,rfl,pn_oV _⟩ (last (by rw [h]; nofun) _ d q _ hd ?_ (vals_show ev le))⟩
  ·show (pslice ((lay m R.1).map optPV) none (some (d:Int))).length + (pslice ((lay m R.1).map optPV) (some ((d + 1:Nat):Int)) none).length ≤ strLine
   rw [e1,e2]
   exact gl (Nat.add_le_add (Nat.le_trans (List.length_take_le' _ _) (Nat.le_trans (Nat.le_of_eq ll) hm5)) (Nat.le_trans (by rw [List.length_drop]; exact Nat.sub_le _ _) (Nat.le_trans (Nat.le_of_eq ll) hm5)))
  ·show PV.lst (pslice ((lay m R.1).map optPV) none (some (d:Int)) ++ pslice ((lay m R.1).map optPV) (some ((d + 1:Nat):Int)) none)=_
   rw [e1,e2,ed]
  ·rw [h]
   show tryV (if (sh && decide ((many:Int)=0))=true then .ok (.int (-1),none) else .ok (.lst _,none))=_
   rw [if_neg (ne_t hb)]; rfl
end
end L3
end
noncomputable section
theorem same_ne {P:Prop} {x:List Nat} (w:(!decide (x=x))=true):P:=absurd rfl (of_decide_eq_false (nt w))
namespace L3
section
variable {row S:PV} {x4:SV} {t form:List Nat} {ps:List Pc}
theorem case_turn (k:Nat) (hg:∀ p ∈ ps,p.Good ∧ p.Small) (hl:ps.length ≤ 5) (ht:Fine t) {m:Nat} (hm:keptN ps 0=m) (h0:m ≠ 0) (hm5:m ≤ 5) {R:List (List Nat) × End} (hR:rdP noS ps 0 0 0 t=R) (hv:ValR R m) (n:Int) :
  wSs (Ph tab (k + 10)) Yes XX NN (dropC 11 c_law_case_right) (cE row S ps x4 (ansV (lay m) R) t m form .unb .unb .unb) (some n) (fun _ p=>Yes (.ok (.none,p))) (fun _ _=>False) (fun _ _=>False):=by
 have small:∀ p ∈ ps,p.Small:=fun p hp=>(hg p hp).2
 have good:∀ p ∈ ps,p.Good:=fun p hp=>(hg p hp).1
 refine draw_W (k + 9) h0 n fun b q hb=>?_
 obtain ⟨a,rfl⟩:∃ a,m=a + b:=⟨m - b,(Nat.sub_add_cancel (Nat.le_of_lt hb)).symm⟩
 have ha:0 < a:=Nat.lt_of_add_lt_add_right (Nat.lt_of_le_of_lt (Nat.le_of_eq (Nat.zero_add b)) hb)
 have last:∀ D:PV,ansV (fun ws=>rotL a (lay (a + b) ws)) R=D → Shows D →
   wSs (Ph tab (k + 10)) Yes XX NN (dropC 14 c_law_case_right) (cE row S ps x4 (ansV (lay (a + b)) R) t (a + b) form (.val (.int b)) (.val D) .unb) (some q) (fun _ p=>Yes (.ok (.none,p))) (fun _ _=>False) (fun _ _=>False):=fun D e hs=>by
  have fs:=form_ok (k + 9) (turn:=b) (star:=-1) (pd:=rotD a b) (st:=noS) small (Nat.le_trans hl (by decide)) ⟨fun _=>rfl,.inr ⟨b,rfl,fun n hn=>by rw [hm] at hn ⊢; exact if_pos hn⟩,by rw [hm]; exact Nat.le_trans hm5 (by decide)⟩
  refine W_is fs (draw_W (k + 9) (m:=2) (by decide) q fun d q2 hd=>⟨_,mul_ok (b:=(d:Nat)) (Nat.lt_of_lt_of_le hd (by decide)),?_⟩)
  have hd2:∀ n,(rotD a b n).length ≤ 2:=fun n=>by
   unfold rotD
   split
   ·exact (digits_small (Nat.lt_of_le_of_lt ((pos_rot (count:=0) (.inl rfl) (Nat.le_trans hm5 (by decide)) ha).lt n ‹_›) (Nat.lt_of_le_of_lt hm5 (by decide)))).2.2.2
   ·exact Nat.zero_le _
  have sc:=scan_ok (k + 9) (scan_rot core (k + 2) ht.len ht.chr good hm (Nat.le_trans hm5 (by decide)) ha (Nat.le_trans (Nat.mul_le_mul_left 3 (Nat.le_trans (text_len hd2 ps small 0) (Nat.mul_le_mul_left 70 hl))) (by decide)) (count:=((a + b:Nat):Int) * d) (by
   cases d with
   | zero=>left; exact Int.mul_zero _
   | succ d =>
    cases d with
    | zero=>right; exact Int.mul_one _
    | succ d=>exact absurd hd (Nat.not_lt.mpr (Nat.le_add_left 2 d)))) ⟨_,_,_,rfl,rfl,rfl⟩
  rw [hR,e] at sc
  exact W_is sc ⟨_,repr_ok hs,_,repr_ok hs,fun w=>same_ne w,fun _=>nil_ok (case_star k hg hl ht hm h0 hm5 hR hv (x10:=.val D) ⟨some D,rfl⟩ q2)⟩
 revert last
 refine ans_cases (F:=lay (a + b)) hv (P:=fun V=>(∀ D:PV,ansV (fun ws=>rotL a (lay (a + b) ws)) R=D → Shows D → wSs (Ph tab (k + 10)) Yes XX NN (dropC 14 c_law_case_right) (cE row S ps x4 V t (a + b) form (.val (.int b)) (.val D) .unb) (some q) (fun _ p=>Yes (.ok (.none,p))) (fun _ _=>False) (fun _ _=>False)) →
  wSs (Ph tab (k + 10)) Yes XX NN (dropC 12 c_law_case_right) (cE row S ps x4 V t (a + b) form (.val (.int b)) .unb .unb) (some q) (fun _ p=>Yes (.ok (.none,p))) (fun _ _=>False) (fun _ _=>False)) (fun h last=>?_) (fun h last=>?_) fun h last=>?_
 ·obtain ⟨x,h⟩:=h
  have e:=hv.2.2 x h
  exact ⟨fun w=>ft w,fun _=>nil_ok (last uV (by unfold ansV scanO; rw [h,e]; rfl) uns_show)⟩
 ·obtain ⟨many,h,rfl⟩:=h
  exact ⟨fun w=>ft w,fun _=>nil_ok (last (.int (-1)) (by unfold ansV scanO; rw [h]; rfl) m1_show)⟩
 ·obtain ⟨many,sh,h,hb'⟩:=h
  have vo:=rot_val (a:=a) (m:=a + b) hv.1
  have ll:((lay (a + b) R.1).map optPV).length=a + b:=by rw [List.length_map,lay_len hv.2.1]
  have gl:∀ {n:Nat},n ≤ 10 → n ≤ strLine:=fun h=>sline (Nat.le_trans h (by decide))
  have ea:((a + b:Nat):Int) - (b:Int)=(a:Nat):=Int.add_sub_cancel (a:Int) (b:Int)
  have e1:pslice ((lay (a + b) R.1).map optPV) none (some (((a + b:Nat):Int) - (b:Int)))=((lay (a + b) R.1).map optPV).take a:=by rw [ea]; exact slice_upto (by rw [ll]; exact Nat.le_add_right a b)
  have e2:pslice ((lay (a + b) R.1).map optPV) (some (((a + b:Nat):Int) - (b:Int))) none=((lay (a + b) R.1).map optPV).drop a:=by rw [ea]; exact slice_from (by rw [ll]; exact Nat.le_add_right a b)
  have er:=(rot_map (a:=a) (m:=a + b) R.1).symm
  unfold rotL at er
  have lr:(rotL a (lay (a + b) R.1)).length ≤ 100:=by rw [lay_rot.len R.1 hv.2.1]; exact Nat.le_trans hm5 (by decide)
  refine ⟨fun _=>⟨gl (by rw [ll]; exact Nat.le_trans hm5 (by decide)),gl (by rw [ll]; exact Nat.le_trans hm5 (by decide)),?_,put_ok (i:=10) ⟨_,rfl,rfl⟩ (nil_ok ?_)⟩,fun w=>tf w⟩
  ·show (pslice ((lay (a + b) R.1).map optPV) (some (((a + b:Nat):Int) - (b:Int))) none).length + (pslice ((lay (a + b) R.1).map optPV) none (some (((a + b:Nat):Int) - (b:Int)))).length ≤ strLine
   rw [e1,e2]
   exact gl (Nat.add_le_add (Nat.le_trans (by rw [List.length_drop]; exact Nat.sub_le _ _) (Nat.le_trans (Nat.le_of_eq ll) hm5)) (Nat.le_trans (List.length_take_le' _ _) (Nat.le_trans (Nat.le_of_eq ll) hm5)))
  ·have l:=last (.lst ((rotL a (lay (a + b) R.1)).map optPV)) (by
    unfold ansV scanO
    rw [h]
    show tryV (if (sh && decide ((many:Int)=0))=true then .ok (.int (-1),none) else .ok (.lst _,none))=_
    rw [if_neg (ne_t hb')]; rfl) (vals_show vo lr)
   unfold rotL at l
   rw [← er,← e1,← e2] at l
   exact l
end
end L3
end
noncomputable section
namespace L3
theorem case_rest (k:Nat) {row S:PV} {x4:SV} {x5:Option PV} {t:List Nat} {ps:List Pc} (hg:∀ p ∈ ps,p.Good ∧ p.Small) (hl:ps.length ≤ 5) (ht:Fine t) (h40:t.length < 40) (n:Int) :
  wSs (Ph tab (k + 10)) Yes XX NN (dropC 5 c_law_case_right) [.val row,.pen,.val S,.val (.lst (ps.map pcPV)),x4,oV x5,.val (.str t),.unb,.unb,.unb,.unb,.unb] (some n) (fun _ p=>Yes (.ok (.none,p))) (fun _ _=>False) (fun _ _=>False):=by
 have small:∀ p ∈ ps,p.Small:=fun p hp=>(hg p hp).2
 have good:∀ p ∈ ps,p.Good:=fun p hp=>(hg p hp).1
 have hlL:ps.length ≤ LIM:=Nat.le_trans hl (by decide)
 have hM:((ps.filter Pc.kept).map pcPV).length=keptN ps 0:=by rw [List.length_map,kept_filter,Nat.zero_add]
 have hm5:keptN ps 0 ≤ 5:=by rw [kept_filter,Nat.zero_add]; exact Nat.le_trans (List.length_filter_le _ _) hl
 have fs:=form_ok (k + 9) (turn:=-1) (star:=-1) (pd:=noP) (st:=noS) small (Nat.le_trans hl (by decide)) ⟨fun _=>rfl,.inl ⟨by decide,fun _=>rfl⟩,Nat.le_trans hm5 (by decide)⟩
 have tl:=Nat.le_trans (Nat.mul_le_mul_left 3 (Nat.le_trans (text_len (pd:=noP) (st:=noS) (fun _=>Nat.zero_le _) ps small 0) (Nat.mul_le_mul_left 70 hl))) (by decide:3 * (70 * 5) ≤ LIM)
 have sc:∀ {count:Int},count=0 ∨ count=keptN ps 0 → _:=fun {count} hc=>scan_ok (k + 9) (scan_seq core (k + 2) ht.len ht.chr good (Nat.le_trans hm5 (by decide)) tl (count:=count) hc) ⟨_,_,_,rfl,rfl,rfl⟩
 have ch:=chain_ok (k + 1) hg (Nat.le_trans hl (by decide)) ht h40 (Nat.le_trans hm5 (by decide))
 have hv:=rd_val ps good 0 0 0 (r:=t) (Nat.le_trans (Nat.le_of_eq (Nat.zero_add _)) ht.len) ht
 rw [Nat.sub_zero] at hv
 have sh:=ans_show (F:=lay (keptN ps 0)) hv ⟨lay_val hv.1,by rw [lay_len hv.2.1]; exact Nat.le_trans hm5 (by decide)⟩
 refine ⟨map_line hlL,(ps.filter Pc.kept).map pcPV,fun k=>comp_kept (g:=id) (fun _=>rfl) ps k,lim_line (Nat.le_trans (Nat.le_of_eq hM) (Nat.le_trans hm5 (by decide))),?_⟩
 rw [hM]
 refine W_is fs (W_is (sc (.inl rfl)) (put_ok (i:=5) ⟨_,rfl,pn_oV _⟩ ⟨false,⟨_,repr_ok sh,W_is ch ⟨_,repr_ok sh,rfl,fun _=>W_is (are_cut_ok k hg hlL ht) ⟨rfl,(fun _=>rfl),fun w=>ft w⟩,fun w=>same_ne w⟩⟩,fun w=>ft w,fun _=>⟨fun _=>⟨_,rfl⟩,fun w=>W_is (sc (.inr rfl)) ⟨_,repr_ok sh,_,repr_ok sh,fun w=>same_ne w,fun _=>nil_ok (case_turn k hg hl ht rfl (fun e=>of_decide_eq_false w (by rw [e]; rfl)) hm5 rfl hv n)⟩⟩⟩))
end L3
end
noncomputable section
namespace L3
structure Row where
 text:List Nat
 h1:Nat
 b1:List Nat
 h2:Nat
 b2:List Nat
 ps:List (Nat × Nat × Nat × Nat)
noncomputable def Row.pv (r:Row):PV:=.tup [.str r.text,.int r.h1,.str r.b1,.int r.h2,.str r.b2,.lst (r.ps.map pcRow)]
noncomputable def textSigns:List Nat:=[48,49,50,51,52,53,54,55,56,57,45,43,120,88,98,66,97,102,99,122,46,32,37,93,44,94,9,10,11,12,13,233]
noncomputable def rows3:List Row:=[
 ⟨[45,48,120,49,102,32,55,44,97,98,93,57],0,[98],2,[97,45,98],[(105,0,0,0),(100,2,1,0),(44,0,0,0),(91,0,0,0),(110,0,0,0)]⟩,
 ⟨[12,32,49,56,52,52,54,55,52,52,48,55,51,55,48,57,53,53,49,54,49,54,32,45,54],0,[99,45],1,[45],[(32,0,0,0),(110,0,0,0),(117,0,2,0),(110,0,0,1),(117,6,3,0)]⟩,
 ⟨[97],3,[48],0,[97],[(115,0,0,1),(100,0,0,0)]⟩,
 ⟨[43,49],1,[48,45,57],0,[43],[(100,2,0,0),(120,4,5,0)]⟩,
 ⟨[233,37,48,98,49,48,49,11,48,56],1,[98,45,48],0,[48,37,45],[(99,0,1,0),(37,0,0,0),(98,5,0,0),(91,0,0,0),(111,0,4,0)]⟩,
 ⟨[97,97,98,94,45,99,32,10,46],1,[94,45],0,[45,45,99],[(91,3,0,0),(91,6,1,0),(110,0,0,0),(99,0,0,0),(115,0,0,0)]⟩]
noncomputable def Row.Good (r:Row):Prop:=(∀ c ∈ r.text,c ∈ textSigns) ∧ (∀ c ∈ r.b1,c ∈ memSigns) ∧ (∀ c ∈ r.b2,c ∈ memSigns) ∧ (∀ x ∈ r.ps,x.1 ∈ kindsL) ∧ r.text.length ≤ 400 ∧ r.b1.length ≤ 400 ∧ r.b2.length ≤ 400 ∧ 1 ≤ r.ps.length ∧ r.ps.length ≤ 5
theorem rows_good:∀ r ∈ rows3,r.Good:=by
 have h:∀ r ∈ rows3,(∀ c ∈ r.text,c ∈ textSigns) ∧ (∀ c ∈ r.b1,c ∈ memSigns) ∧ (∀ c ∈ r.b2,c ∈ memSigns) ∧ (∀ x ∈ r.ps,x.1 ∈ kindsL) ∧ r.text.length ≤ 400 ∧ r.b1.length ≤ 400 ∧ r.b2.length ≤ 400 ∧ 1 ≤ r.ps.length ∧ r.ps.length ≤ 5:=by decide +kernel
 exact h
theorem told_ok (k:Nat):Ph tab (k + 1) 31 [] none=some (.ok (.lst (rows3.map Row.pv),none)):=by
 refine ph (o:=.ok (.lst (rows3.map Row.pv),none)) (c:=c_law_told) rfl rfl ?_
 repeat refine ⟨rfl,?_⟩
 exact rfl
theorem case_W (k:Nat) {r:Row} (g:r.Good) (n:Int):W Yes (Ph tab (k + 11) 44 [.val r.pv,.pen] (some n)):=by
 obtain ⟨g1,g2,g3,g4,g5,g6,g7,g8,g9⟩:=g
 have lim:∀ {n:Nat},n ≤ 400 → n ≤ LIM:=fun h=>Nat.le_trans h (by decide)
 have t1:∀ {l:List PV} {i:Nat} {x:PV},l[i]?=some x → Nat.ble l.length 10=true → pidx (.tup l) (.int i)=some x:=fun h hl=>tup_at h (Nat.le_trans (Nat.le_of_ble_eq_true hl) (by decide))
 refine phi_W (T:=tab) (X:=XX) (N:=NN) (c:=c_law_case_right) rfl rfl ⟨_,t1 (i:=1) rfl rfl,_,t1 (i:=2) rfl rfl,members_W (k + 7) (lim g6) g2 n fun m1 n1 e1=>⟨_,t1 (i:=3) rfl rfl,_,t1 (i:=4) rfl rfl,members_W (k + 7) (lim g7) g3 n1 fun m2 n2 e2=>⟨rfl,rfl,_,t1 (i:=5) rfl rfl,map_line (lim (Nat.le_trans g9 (by decide))),draw_W (k + 9) (m:=5) (by decide) n2 fun d n3 hd=>?_⟩⟩⟩
 have hpl:(r.ps.map pcRow).length=r.ps.length:=List.length_map _
 have em:((r.ps.map pcRow).length:Int) - 1 + (d:Int)=((r.ps.length - 1 + d:Nat):Int):=by rw [hpl]; omega
 refine ⟨.int ((r.ps.length - 1 + d) % 5:Nat),(show bop .mod (.int (((r.ps.map pcRow).length:Int) - 1 + (d:Int))) (.int ((5:Nat):Int))=_ by rw [em]; exact mod_ok (by decide)),?_⟩
 have hc:(r.ps.length - 1 + d) % 5 < 5:=Nat.mod_lt _ (by decide)
 generalize (r.ps.length - 1 + d) % 5=cnt at hc
 refine ⟨⟨Int.le_trans (Int.neg_nonpos_of_nonneg (Int.natCast_nonneg _)) (Int.natCast_nonneg (cnt + 1)),Int.ofNat_le.mpr (lim_line (Nat.le_trans hc (by decide)):cnt + 1 ≤ strLine)⟩,?_⟩
 have hsets:∀ m ∈ [m1,m2],MemG m:=fun m hm=>by rcases List.mem_cons.mp hm with rfl | hm; exact e1; rw [List.mem_singleton.mp hm]; exact e2
 refine for_st (f:=fun i:Nat=>.int i) (xs:=List.range (cnt + 1)) (fun s:List PV × Int × Option PV × Option PV=>[.val r.pv,.pen,.val (.lst [.str m1,.str m2]),.own s.1,oV s.2.2.1,oV s.2.2.2,.unb,.unb,.unb,.unb,.unb,.unb]) (fun s=>some s.2.1)
  (fun q s=>s.1.length + q.length=cnt + 1 ∧ ∃ ps:List Pc,s.1=ps.map pcPV ∧ ∀ p ∈ ps,p.Good ∧ p.Small) (fun i q s c hS hk=>?_) (fun s hS=>?_) (s:=⟨[],n3,none,none⟩) ⟨(Nat.zero_add _).trans List.length_range,[],rfl,nofun⟩
 ·obtain ⟨L,p0,x4,x5⟩:=s
  obtain ⟨hlen,ps,rfl,hps⟩:=hS
  refine put_ok (i:=4) ⟨_,rfl,pn_oV _⟩ ?_
  obtain ⟨x,hx,ex⟩:∃ x:Nat × Nat × Nat × Nat,x.1 ∈ kindsL ∧ (if h:i < r.ps.length then r.ps[i] else (100,0,0,0))=x:=by
   by_cases h:i < r.ps.length
   ·exact ⟨r.ps[i],g4 _ (List.getElem_mem _),dif_pos h⟩
   ·exact ⟨(100,0,0,0),by decide,dif_neg h⟩
  refine ⟨pcRow x,⟨_,t1 (i:=5) rfl rfl,map_line (lim (Nat.le_trans g9 (by decide))),rfl,fun w=>?_,fun w=>?_⟩,put_ok (i:=5) ⟨_,rfl,pn_oV _⟩ ⟨_,mod_ok (a:=i) (b:=2) (by decide),?_⟩⟩
  ·have hi:i < r.ps.length:=by have:=d_lt w; rw [hpl] at this; exact this
   exact ⟨_,t1 (i:=5) rfl rfl,_,lst_at (map_at hi) (by rw [hpl]; exact lim (Nat.le_trans g9 (by decide))),by rw [← ex,dif_pos hi],rfl⟩
  ·have hi:¬ i < r.ps.length:=by have:=d_nlt w; rw [hpl] at this; exact Nat.not_lt.mpr this
   exact ⟨rfl,by rw [← ex,dif_neg hi]; rfl,rfl⟩
  ·have h2:i % 2 < [m1,m2].length:=Nat.mod_lt _ (by decide)
   refine ⟨.str [m1,m2][i % 2],lst_at (l:=[m1,m2].map .str) (map_at h2) (Nat.le_of_ble_eq_true rfl),piece_W (k + 8) hx (hsets _ (List.getElem_mem _)) p0 fun p q' hg hs=>⟨?_,hk ⟨_,q',some _,some _⟩ ⟨?_,ps ++ [p],?_,?_⟩⟩⟩
   ·exact lim_line (Nat.le_trans (Nat.le_trans (Nat.le_add_right _ _) (Nat.le_of_eq hlen)) (Nat.le_trans hc (by decide)))
   ·show (ps.map pcPV ++ [pcPV p]).length + q.length=cnt + 1
    rw [List.length_append,Nat.add_assoc,Nat.add_comm _ q.length]; exact hlen
   ·rw [List.map_append]; rfl
   ·exact fun y hy=>(List.mem_append.mp hy).elim (hps y) fun z=>by rw [List.mem_singleton.mp z]; exact ⟨hg,hs⟩
 ·obtain ⟨L,p0,x4,x5⟩:=s
  obtain ⟨hlen,ps,rfl,hps⟩:=hS
  have hlen:(ps.map pcPV).length=cnt + 1:=hlen
  refine ⟨_,t1 (i:=0) rfl rfl,turned_W (k + 8) (lim g5) g1 (by decide) (by decide) (most:=28) (by decide) (by decide) p0 fun t q' ht hts=>?_⟩
  refine case_rest k hps (by rw [← List.length_map (f:=pcPV),hlen]; exact hc) ⟨Nat.le_trans (Nat.le_of_lt ht) (by decide),fun c hc=>(show ∀ c ∈ textSigns,c < 1114112 by decide) c (hts c hc)⟩ (Nat.lt_trans ht (by decide)) q'
theorem good:∀ x ∈ rows3.map Row.pv,∀ n,∃ q,Phi tab XX NN 60 44 [.val x,.pen] (some n)=some (.ok (.bool true,q)):=by
 intro x hx n
 obtain ⟨r,hr,rfl⟩:=List.mem_map.mp hx
 obtain ⟨o,e,q,rfl⟩:=case_W 49 (rows_good r hr) n
 exact ⟨q,e⟩
end L3
end
end Mp
end
section
open PySem PySem.W PyProof.Rows PySem.Calls PyProof
set_option Elab.async false
set_option maxRecDepth 1000000
set_option linter.unusedVariables false
namespace Mp.L3
noncomputable section
noncomputable abbrev P:=PySem.Challenge.rw_oj0057_03.row.toRowW.prog
noncomputable def nameOfDef:Stmt → Option Str
 | .FunctionDef n ..=>some n
 | _=>none
noncomputable def fvOfDef:Stmt → Option FV
 | .FunctionDef _ a b _ _ _ sc _ _ _=>some ⟨a.args,a.kw_defaults,a.defaults,b,sc⟩
 | _=>none
noncomputable def defOf (n:Str):FV:=((P.main.body.find? fun s=>nameOfDef s == some n).bind fvOfDef).getD ⟨[],[],[],[],⟨.function,[],false,false,[]⟩⟩
noncomputable def fnNames:List Str:=(["Raised","error","bad_field","mixed_fields","beyond_places","is_blank","digit","digits_value","wide","sign_at","place_of","digits_behind","read_digits","read_place","read_size","base_of_sort","read_spec","set_behind","check_sort","check_told","check_scan","skip_blanks","ranges_of","is_member","behind_members","fitted","has_mark","read_base","read_whole","read_field","scan_text","_law_told","_law_draw","_law_turned","_law_members","_law_piece","_law_form","_law_scan","_law_number","_law_bared","_law_first","_law_is_cut","_law_chain","_law_are_cut","_law_case_right"]:List String).map Str.ofString
noncomputable def scOfV (v:FV) (names:List Str):Sc:=⟨fun n=>v.scope.names.lookup n,names,fun f=>fnNames[f]?⟩
noncomputable def textOf (e:Ent) (v:FV):List Stmt × Bool:=match e with
 | .code np names c=>let t:=toSs c (scOfV v names) (posSs v.body); (t.x,t.ok && scSeen v np names)
 | _=>(v.body,true)
theorem texts:((tab.zip fnNames).map fun r=>textOf r.1 (defOf r.2))=(tab.zip fnNames).map fun r=>((defOf r.2).body,true):=by kernel_rfl
end
end Mp.L3
end
section
open PySem PySem.W PyProof.Rows
set_option Elab.async false
set_option maxRecDepth 100000
namespace Mp
noncomputable section
noncomputable def topT (p q:Program) (loose:List Str) (Xt:Shared → Bool) {α:Type} (Yf:Shared → α) (w:World) (N:Nat) (s₀:Shared) :=
 (Fast.tw14082659384304107361 Fast.tw14364793385576792824 p w s₀.heap.objs.size (s₀.heap.nsMap mainGlobals "__annotations__") N s₀ (topStub p)).map fun s =>
  (staticsOk (importedModules p.main.body) s₀.heap s.heap && namesBound p s.heap && gensDone s && laidKept s₀.heap s.heap,Fast.tw4187177175401517315 q loose (importedModules p.main.body) Xt true s,Yf s)
section
variable {p q:Program} {loose:List Str} {Xt:Shared → Bool} {α:Type} {Yf:Shared → α} {Ya:World → α} {N:Nat}
theorem top_of {w:World} {s₀:Shared} {x:_} {y:α} (b:(s₀.heap.isNs mainGlobals && s₀.gens.size == 0)=true) (h:topT p q loose Xt Yf w N s₀=some (true,x,y)) :
  (topFrom treeTable p w N s₀).map (fun s=>(openSeen q loose (importedModules p.main.body) Xt true s,Yf s))=some (x,y):=by
 unfold topT at h
 rw [← Fast.te14082659384304107361,← Fast.te14364793385576792824,← Fast.te4187177175401517315] at h
 obtain ⟨s1,h1,h2⟩:=Option.map_eq_some_iff.mp h
 unfold topFrom
 rw [b]
 show ((topRun treeTable p w _ _ N _ (topStub p)).bind _).map _=_
 rw [h1]
 have h3:=congrArg Prod.fst h2
 dsimp only at h3
 dsimp only [Option.bind]
 rw [h3]
 exact congrArg some (congrArg Prod.snd h2)
noncomputable def bootS (w:World) (os:OsState):Shared:=⟨boot_heap w.params,Array.mk [],boot_drawn,boot_toks,os⟩
theorem boot_ns (w:World) (os:OsState):((bootS w os).heap.isNs mainGlobals && (bootS w os).gens.size == 0)=true:=by kernel_rfl
theorem boot_is {s:Shared} {w:World} (h:(s.heap,s.gens,s.drawn,s.toks)=(boot_heap w.params,Array.mk [],boot_drawn,boot_toks)):s=bootS w s.os:=by
 obtain ⟨a,b,c,d,e⟩:=s
 obtain ⟨h1,h2,h3,h4⟩:a=_ ∧ b=_ ∧ c=_ ∧ d=_:=by simpa only [Prod.mk.injEq] using h
 rw [h1,h2,h3,h4]; rfl
theorem left_of (e:opening p=plainProg p.main.scope.names) (hN:Nat.ble 600 N=true) (f:∀ s,fenceModules? p s=some s)
  (h:∀ w os,topT p q loose Xt Yf w N (bootS w os)=some (true,openGood q loose,Ya w)):LeftO p q loose Xt Yf Ya N:=fun w=>by
 obtain ⟨s,hs,hv⟩:=Option.map_eq_some_iff.mp (boot_open e hN f w)
 unfold openEnds
 rw [hs]
 show (topFrom treeTable p w N s).map _=_
 rw [boot_is hv]
 exact top_of (boot_ns w _) (h w _)
end
end
end Mp
end
section
open PySem PySem.W PyProof.Rows PySem.Calls PyProof
set_option Elab.async false
set_option maxRecDepth 100000
set_option linter.unusedVariables false
namespace Mp
noncomputable section
noncomputable def fragOf (as:List Addr) (h:Heap):Frag:=as.filterMap fun a=>(h.get? a).map fun o=>(a,o)
theorem fragOf_in (as:List Addr) (h:Heap):(fragOf as h).In h:=by
 intro a o e
 unfold fragOf at e
 induction as with
 | nil=>cases e
 | cons b as ih =>
  rw [List.filterMap_cons] at e
  cases hb:h.get? b with
  | none=>rw [hb] at e; exact ih e
  | some o' =>
   rw [hb] at e
   have e:((b,o')::as.filterMap fun a=>(h.get? a).map fun o=>(a,o)).lookup a=some o:=e
   rw [List.lookup_cons] at e
   cases q:a == b with
   | true=>rw [q] at e; cases e; rw [eq_of_beq q]; exact hb
   | false=>rw [q] at e; exact ih e
noncomputable def seenHook {α:Type} (as:List Addr) (seen:Frag → α) (must:α):Hook :=
 ⟨α,fun s=>seen (fragOf as s.heap),fun _=>must,fun _ h=>∃ K:Frag,K.In h ∧ seen K=must,fun _ s e=>⟨fragOf as s.heap,fragOf_in as s.heap,e⟩,fun _ _ _ x k=>let ⟨K,i,e⟩:=x; ⟨K,fun a o q=>k a o (i a o q),e⟩⟩
end
end Mp
end
section
open PySem PySem.W PyProof.Rows PySem.Calls PyProof
set_option Elab.async false
set_option maxRecDepth 1000000
set_option linter.unusedVariables false
namespace Mp.L3
noncomputable section
noncomputable def fnAddrs:List Addr:=[61,73,80,87,94,21,28,35,42,101,108,115,122,129,136,143,150,157,164,171,178,185,192,199,206,213,220,227,234,241,247,254,261,268,275,282,287,294,301,308,315,322,327,334,339]
noncomputable def fns:List (Str × Addr):=fnNames.zip fnAddrs
noncomputable def initOf:FV:=((P.main.body.findSome? fun s=>match s with
 | .ClassDef n _ _ b ..=>if n == ("Raised":Str) then b.findSome? fvOfDef else none
 | _=>none)).getD ⟨[],[],[],[],⟨.function,[],false,false,[]⟩⟩
noncomputable def dfOf (n:Str):Value:=if n == ("error":Str) then .ref 66 else if n == ("scan_text":Str) then .ref 242 else .none
noncomputable def seen (K:Frag):=(fns.tail.map fun f=>fnSeen K f.2,clsSeen K 61 60 58,fnSeen K 58,(K.lookup 58).map (·.cls),dfSeen K 66 1 && dfSeen K 242 1 && dfSeen K 51 3 && namesSeen K fns)
noncomputable def must:List (Option ((Arguments × FuncBody × Scope × Addr × Value × Addr) × Bool)) × (Option Obj × Bool) × Option ((Arguments × FuncBody × Scope × Addr × Value × Addr) × Bool) × Option Value × Bool :=
 (fns.tail.map fun f=>some (fdMust (defOf f.1) (dfOf f.1),true),(some (excClassObj "Raised" "Raised" 61 60 [.type "Exception"] excBm true [] [] false none none (some (.ref 43)) none (some (.str "Raised" 225)) (some (.str "Raised" 233)) (some (.bool true)) "Exception.__new__"),true),some (fdMust initOf (.ref 51),true),some (.type "function"),true)
noncomputable def hook:Hook:=seenHook (List.range 347) seen must
noncomputable def q:Program:={ P with main:={ P.main with body:=P.main.body.drop 50 } }
noncomputable def boundAt:Stmt → List Str
 | .FunctionDef n ..=>[n]
 | .ClassDef n ..=>[n]
 | _=>[]
noncomputable def loose:List Str:=(P.main.body.take 50).flatMap boundAt
noncomputable def Xt:Shared → Bool:=fun s=>xlAt q [] s && recOk (RowW.records PySem.Challenge.rw_oj0057_03.row.toRowW) s
theorem lf:∀ w os,topT P q loose Xt hook.obs w 3560 (bootS w os)=some (true,openGood q loose,hook.val w):=fun w os=>by kernel_rfl
end
end Mp.L3
end
section
open PySem PySem.W PyProof.Rows PySem.Calls PyProof
set_option Elab.async false
set_option maxRecDepth 1000000
set_option maxHeartbeats 8000000
set_option linter.unusedVariables false
namespace Mp.L3
noncomputable section
theorem said:PySem.Challenge.rw_oj0057_03.wellSaid=true:=by
 unfold OpenLaw.wellSaid OpenRow.wellSaid OpenRow.partSaid looksOpen
 repeat' with_reducible refine look_both ?_ ?_
 all_goals decide +kernel
theorem hdl:LeftO P q loose Xt hook.obs hook.val 3560:=left_of (by kernel_rfl) (by decide) (fun _=>rfl) lf
end
end Mp.L3
end
section
open PySem PySem.W PyProof.Rows PySem.Calls PyProof
set_option Elab.async false
set_option maxRecDepth 1000000
set_option linter.unusedVariables false
namespace Mp.L3
noncomputable section
theorem fn_is {C:Cx} (hf:C.fns=fns):C.fn=fun f=>fnNames[f]?:=funext fun f=>by
 unfold Cx.fn
 rw [hf,← List.getElem?_map,show fns.map (·.1)=fnNames by kernel_rfl]
theorem sc_is {C:Cx} (hf:C.fns=fns) {fd:FuncData} {v:FV} (h:fd.scope=v.scope) (names:List Str):scD C fd names=scOfV v names:=by
 unfold scD scOfV
 rw [fn_is hf,h]
noncomputable def rowChk (r:Ent × Str):Bool:=match r.1 with
 | .code np names _=>r.2 != ("error":Str) && (r.2 != ("scan_text":Str) || (np == 3 && names.take 3 == (["text","form","count"]:List Str)))
 | .tr ..=>dfOf r.2 == .none
 | .no=>true
theorem rows_chk:(tab.zip fnNames).all rowChk=true:=by decide +kernel
theorem lens:tab.length=fnNames.length ∧ fnAddrs.length=fnNames.length:=by decide +kernel
section
variable {C:Cx} (hs:seen C.K=must) (hf:C.fns=fns)
include hs hf
theorem seen_at {f:Nat} {n:Str} {a:Addr} (h:fns[f + 1]?=some (n,a)):fnSeen C.K a=some (fdMust (defOf n) (dfOf n),true):=by
 have e:(fns.tail.map fun f=>fnSeen C.K f.2)=fns.tail.map fun f=>some (fdMust (defOf f.1) (dfOf f.1),true):=congrArg (·.1) hs
 have e:=congrArg (·[f]?) e
 rw [List.getElem?_map,List.getElem?_map,List.getElem?_tail,h] at e
 exact Option.some.inj e
theorem ent_code {f:Nat} {np:Nat} {names:List Str} {c:CSs} (h:tab[f]?=some (.code np names c)):EntOk C f (.code np names c):=by
 have hlt:=(List.getElem?_eq_some_iff.mp h).1
 rw [lens.1] at hlt
 have hn:fnNames[f]?=some fnNames[f]:=List.getElem?_eq_getElem hlt
 have ha:fnAddrs[f]?=some (fnAddrs[f]'(lens.2 ▸ hlt)):=List.getElem?_eq_getElem _
 generalize fnNames[f]=n at hn
 generalize (fnAddrs[f]'(lens.2 ▸ hlt))=a at ha
 have hfa:fns[f]?=some (n,a):=by unfold fns; rw [List.getElem?_zip_eq_some]; exact ⟨hn,ha⟩
 have hz:(tab.zip fnNames)[f]?=some (.code np names c,n):=by rw [List.getElem?_zip_eq_some]; exact ⟨h,hn⟩
 have t:=congrArg (·[f]?) texts
 rw [List.getElem?_map,List.getElem?_map,hz] at t
 have t:=Option.some.inj t
 have t1:(toSs c (scOfV (defOf n) names) (posSs (defOf n).body)).x=(defOf n).body:=congrArg (·.1) t
 have t2:(_ && _)=true:=congrArg (·.2) t
 have k:=List.all_eq_true.mp rows_chk _ (List.mem_of_getElem? hz)
 cases f with
 | zero=>cases h
 | succ f =>
  have se:=seen_at hs hf hfa
  have D:∃ fd,FnD C (f + 1) fd (defOf n).body names np ∧ fd.scope=(defOf n).scope:=by
   by_cases q:dfOf n=.none
   ·rw [q] at se
    exact fnD_plain (by rw [hf]; exact hfa) se (and_r t2)
   ·have k1:n ≠ ("error":Str):=bne_iff_ne.mp (and_l k)
    have k2:=Bool.or_eq_true_iff.mp (and_r k)
    have e0:dfOf n=if (n == ("scan_text":Str))=true then .ref 242 else .none:=by unfold dfOf; rw [if_neg fun w=>k1 (eq_of_beq w)]
    by_cases z:(n == ("scan_text":Str))=true
    ·rw [if_pos z] at e0
     have k3:=k2.resolve_left fun w=>absurd (eq_of_beq z) (bne_iff_ne.mp w)
     obtain rfl:np=3:=eq_of_beq (and_l k3)
     have k4:=eq_of_beq (and_r k3)
     rw [e0] at se
     have h4:(_ && _ && _ && _)=true:=congrArg (·.2.2.2.2) hs
     refine fnD_of (by rw [hf]; exact hfa) se (and_r t2) fun fd hp hd vs hv s X=>?_
     obtain ⟨x,y,u,rfl⟩:∃ x y u,vs=[x,y,u]:=by
      cases vs with
      | nil=>cases hv
      | cons x r =>
       cases r with
       | nil=>cases hv
       | cons y r =>
        obtain ⟨u,rfl⟩:=List.length_eq_one_iff.mp (Nat.succ.inj (Nat.succ.inj hv):r.length=1)
        exact ⟨x,y,u,rfl⟩
     rw [k4]
     exact binds_scan X hp ((eq_of_beq (and_r (and_r t2))).trans k4) hd (and_r (and_l (and_l h4))) x y u
    ·rw [if_neg z] at e0; exact absurd e0 q
  obtain ⟨fd,D,hsc⟩:=D
  exact ⟨fd,_,posSs (defOf n).body,D,by rw [sc_is hf hsc]; exact t1,by rw [sc_is hf hsc]; exact and_l t2⟩
end
noncomputable def iniPs:List An:=(initOf.body.drop 2).flatMap fun s=>let l:=posS 5 s; [an l 2,an l 1,an l 0]
theorem initIs:InitBody initOf.body:=⟨_,_,_,_,_,_,_,_,_,_,_,_,_,_,_,_,_,_,_,_,_,_,_,_,iniPs,fun _ _ _ _=>rfl,by kernel_rfl⟩
section
variable {C:Cx} (hs:seen C.K=must)
include hs
theorem exc_is (he:C.exc=61):ExcD C 60 58 ∧ nsIn C.K mainGlobals "Exception"=some none:=by
 have h2:clsSeen C.K 61 60 58=(some (excClassObj "Raised" "Raised" 61 60 [.type "Exception"] excBm true [] [] false none none (some (.ref 43)) none (some (.str "Raised" 225)) (some (.str "Raised" 233)) (some (.bool true)) "Exception.__new__"),true):=congrArg (·.2.1) hs
 obtain ⟨P,w,K,h₀,p,lo,mg,mb,fn,ex⟩:=C
 cases he
 exact cls_seen (C:=⟨P,w,K,h₀,p,lo,mg,mb,fn,61⟩) h2
theorem init_is:∃ fd,InitFn C 58 fd initOf.body:=by
 have h3:fnSeen C.K 58=_:=congrArg (·.2.2.1) hs
 have h4:(C.K.lookup 58).map (·.cls)=_:=congrArg (·.2.2.2.1) hs
 have h5:(_ && _ && _ && _)=true:=congrArg (·.2.2.2.2) hs
 exact initFn_of h3 h4 (and_r (and_l h5)) initIs (by kernel_rfl) (by kernel_rfl)
theorem names_is:(∀ f ∈ fns,nsIn C.K mainGlobals f.1=some (some (.ref f.2)) ∧ keepIn C.K (.ref f.2)=true ∧ (f.1 == ("__debug__":Str))=false) ∧ ∀ n ∈ biNames,nsIn C.K mainGlobals n=some none:=by
 have h5:(_ && _ && _ && _)=true:=congrArg (·.2.2.2.2) hs
 exact names_seen (and_r h5)
end
noncomputable def nm1:List Str:=(defOf "error").as.map (·.arg)
noncomputable def nm2:List Str:=(defOf "bad_field").as.map (·.arg)
noncomputable def nm3:List Str:=(defOf "mixed_fields").as.map (·.arg)
noncomputable def nm4:List Str:=(defOf "beyond_places").as.map (·.arg)
theorem mkt_1:(toSs (.cons (.retn (.call 0 mk1)) .nil) (scOfV (defOf "error") nm1) (posSs (defOf "error").body)).x=(defOf "error").body:=by kernel_rfl
theorem mko_1:((toSs (.cons (.retn (.call 0 mk1)) .nil) (scOfV (defOf "error") nm1) (posSs (defOf "error").body)).ok && scSeen (defOf "error") 2 nm1)=true:=by kernel_rfl
theorem mkt_2:(toSs (.cons (.retn (.call 1 mk2)) .nil) (scOfV (defOf "bad_field") nm2) (posSs (defOf "bad_field").body)).x=(defOf "bad_field").body:=by kernel_rfl
theorem mko_2:((toSs (.cons (.retn (.call 1 mk2)) .nil) (scOfV (defOf "bad_field") nm2) (posSs (defOf "bad_field").body)).ok && scSeen (defOf "bad_field") 2 nm2)=true:=by kernel_rfl
theorem mkt_3:(toSs (.cons (.retn (.call 2 mk3)) .nil) (scOfV (defOf "mixed_fields") nm3) (posSs (defOf "mixed_fields").body)).x=(defOf "mixed_fields").body:=by kernel_rfl
theorem mko_3:((toSs (.cons (.retn (.call 2 mk3)) .nil) (scOfV (defOf "mixed_fields") nm3) (posSs (defOf "mixed_fields").body)).ok && scSeen (defOf "mixed_fields") 0 nm3)=true:=by kernel_rfl
theorem mkt_4:(toSs (.cons (.retn (.call 2 mk4)) .nil) (scOfV (defOf "beyond_places") nm4) (posSs (defOf "beyond_places").body)).x=(defOf "beyond_places").body:=by kernel_rfl
theorem mko_4:((toSs (.cons (.retn (.call 2 mk4)) .nil) (scOfV (defOf "beyond_places") nm4) (posSs (defOf "beyond_places").body)).ok && scSeen (defOf "beyond_places") 0 nm4)=true:=by kernel_rfl
section
variable {C:Cx} (hs:seen C.K=must) (hf:C.fns=fns)
include hs hf
theorem m_2:MakerAt C 2 2 nm2 1 mk2:=by
 have se:=seen_at hs hf (f:=1) (n:="bad_field") (a:=80) (by kernel_rfl)
 rw [show dfOf "bad_field"=.none by kernel_rfl] at se
 obtain ⟨fd,D,hsc⟩:=fnD_plain (C:=C) (i:=2) (n:="bad_field") (a:=80) (by rw [hf]; kernel_rfl) se (and_r mko_2)
 exact ⟨fd,_,posSs (defOf "bad_field").body,D,by rw [sc_is hf hsc]; exact mkt_2,by rw [sc_is hf hsc]; exact and_l mko_2⟩
theorem m_3:MakerAt C 3 0 nm3 2 mk3:=by
 have se:=seen_at hs hf (f:=2) (n:="mixed_fields") (a:=87) (by kernel_rfl)
 rw [show dfOf "mixed_fields"=.none by kernel_rfl] at se
 obtain ⟨fd,D,hsc⟩:=fnD_plain (C:=C) (i:=3) (n:="mixed_fields") (a:=87) (by rw [hf]; kernel_rfl) se (and_r mko_3)
 exact ⟨fd,_,posSs (defOf "mixed_fields").body,D,by rw [sc_is hf hsc]; exact mkt_3,by rw [sc_is hf hsc]; exact and_l mko_3⟩
theorem m_4:MakerAt C 4 0 nm4 2 mk4:=by
 have se:=seen_at hs hf (f:=3) (n:="beyond_places") (a:=94) (by kernel_rfl)
 rw [show dfOf "beyond_places"=.none by kernel_rfl] at se
 obtain ⟨fd,D,hsc⟩:=fnD_plain (C:=C) (i:=4) (n:="beyond_places") (a:=94) (by rw [hf]; kernel_rfl) se (and_r mko_4)
 exact ⟨fd,_,posSs (defOf "beyond_places").body,D,by rw [sc_is hf hsc]; exact mkt_4,by rw [sc_is hf hsc]; exact and_l mko_4⟩
end
section
variable {C:Cx} (hs:seen C.K=must) (hf:C.fns=fns)
include hs hf
theorem m_1:MakerAt C 1 2 nm1 0 mk1:=by
 have se:=seen_at hs hf (f:=0) (n:="error") (a:=73) (by kernel_rfl)
 rw [show dfOf "error"=.ref 66 by kernel_rfl] at se
 have h5:(_ && _ && _ && _)=true:=congrArg (·.2.2.2.2) hs
 have k:(defOf "error").as.map (·.arg)=(["text","errorcode"]:List Str):=by kernel_rfl
 obtain ⟨fd,D,hsc⟩:=fnD_of (C:=C) (i:=1) (n:="error") (a:=73) (np:=2) (names:=nm1) (by rw [hf]; kernel_rfl) se (and_r mko_1) fun fd hp hd vs hv s X=>by
  obtain ⟨x,y,rfl⟩:∃ x y,vs=[x,y]:=by
   cases vs with
   | nil=>cases hv
   | cons x r =>
    obtain ⟨y,rfl⟩:=List.length_eq_one_iff.mp (Nat.succ.inj hv:r.length=1)
    exact ⟨x,y,rfl⟩
  rw [show nm1.take 2=(["text","errorcode"]:List Str) by kernel_rfl]
  exact binds_error X hp k hd (and_l (and_l (and_l h5))) x y
 exact ⟨fd,_,posSs (defOf "error").body,D,by rw [sc_is hf hsc]; exact mkt_1,by rw [sc_is hf hsc]; exact and_l mko_1⟩
end
noncomputable def isTr:Ent → Bool
 | .tr ..=>true
 | _=>false
theorem tr_ix:tab.map isTr=(List.range tab.length).map (· == 37):=by kernel_rfl
theorem tr_at:tab[37]?=some (.tr 3 n_law_scan e_law_scan):=by kernel_rfl
theorem tr_f {f np:Nat} {names:List Str} {e:CE} (h:tab[f]?=some (.tr np names e)):f=37:=by
 have t:=congrArg (·[f]?) tr_ix
 rw [List.getElem?_map,h,List.getElem?_map,List.getElem?_range (List.getElem?_eq_some_iff.mp h).1] at t
 exact eq_of_beq (Option.some.inj t).symm
noncomputable def tryPs:List Stmt → List An
 | []=>[]
 | s::_=>match s with
  | .Try b _ _ _ _=>(posSs b).drop 1
  | _=>[]
theorem tr_sc:scSeen (defOf "_law_scan") 3 n_law_scan=true:=by kernel_rfl
section
variable {C:Cx} (hs:seen C.K=must) (hf:C.fns=fns)
include hs hf
theorem ent_tr (he:C.exc=61) {f np:Nat} {names:List Str} {e:CE} (h:tab[f]?=some (.tr np names e)):EntOk C f (.tr np names e):=by
 obtain rfl:=tr_f h
 rw [tr_at] at h
 cases h
 have se:=seen_at hs hf (f:=36) (n:="_law_scan") (a:=294) (by kernel_rfl)
 rw [show dfOf "_law_scan"=.none by kernel_rfl] at se
 obtain ⟨fd,D,hsc⟩:=fnD_plain (C:=C) (i:=37) (n:="_law_scan") (a:=294) (by rw [hf]; kernel_rfl) se tr_sc
 refine ⟨fd,_,_,_,_,_,_,_,_,_,_,_,_,_,_,_,_,tryPs (defOf "_law_scan").body,D,?_,?_,?_,?_,0,?_⟩
 ·rw [sc_is hf hsc]; kernel_rfl
 ·rw [sc_is hf hsc]; kernel_rfl
 ·rw [hsc]; kernel_rfl
 ·decide +kernel
 ·rw [hf,he]; kernel_rfl
end
end
noncomputable section
theorem nm34:nm3=[] ∧ nm4=[] ∧ nm1.length=2 ∧ nm2.length=2 ∧ ∃ xn,fns[0]?=some (xn,61):=⟨by kernel_rfl,by kernel_rfl,by kernel_rfl,by kernel_rfl,Str.ofString "Raised",by kernel_rfl⟩
theorem calls {C:Cx} (hs:seen C.K=must) (hf:C.fns=fns) (he:C.exc=61) (X:C.K.In C.h₀) (T:TopRead C.p C.loose C.mg C.mb C.h₀) (seer:C.h₀.NoSeer) (tree:(model C.prog C.w).prog.given.tree=none) :
  C.Ok ∧ (∀ g vs x,XX g vs=some x → InstAt C 3 g vs x) ∧ RaisesOk C ∧ ∀ N k f args p r,Phi tab XX N k f args p=some r → CallAt C (k + 3) f args p r:=by
 obtain ⟨n3,n4,l1,l2,xn,h0⟩:=nm34
 have hok:C.Ok:=⟨X,T,seer,by rw [hf]; exact (names_is hs).1,(names_is hs).2⟩
 obtain ⟨DE,bo⟩:=exc_is hs he
 obtain ⟨fd,II⟩:=init_is hs
 have hX:=xx_ok hok tree bo DE II (xn:=xn) (by rw [hf,he]; exact h0) l1 l2 (m_1 hs hf) (m_2 hs hf) (n3 ▸ m_3 hs hf) (n4 ▸ m_4 hs hf)
 refine ⟨hok,hX,raisesOk X DE,fun N k=>phi_ok hok tree DE hX (fun f e h=>?_) k⟩
 cases e with
 | no=>trivial
 | code np names c=>exact ent_code hs hf h
 | tr np names c=>exact ent_tr hs hf he h
end
end Mp.L3
end
section
open PySem PySem.W PyProof.Rows PySem.Calls PyProof
set_option Elab.async false
set_option maxRecDepth 1000000
set_option maxHeartbeats 8000000
set_option linter.unusedVariables false
namespace Mp.L3
noncomputable section
noncomputable def lawNames:List Str:=["script","rows","k","row"]
noncomputable abbrev Rw:=PySem.Challenge.rw_oj0057_03.row
noncomputable def lawSc:Sc:=scOfV (defOf "law") lawNames
noncomputable def lawPs (i:Nat):List An:=((defOf "law").body[i]?).elim [] (posS 40)
noncomputable def lawA1:CS:=.assign 0 (.slice (.loc 0) .no (.yes (.cst (.int 63))))
noncomputable def lawA2:CS:=.assign 1 (.call 31 .nil)
theorem law_text:∃ f1 f2 f3 p1 p2 p3 p4 p5 p6 p7 p8 p9 p10 p11 p12 p13 b1 pn pe pc pos kx px pz,(defOf "law").body=[(toS lawA1 lawSc (lawPs 0)).x,(toS lawA2 lawSc (lawPs 1)).x,
   .For (toT (.many [2,3]) lawSc ((lawPs 2).drop 1)).x (.Call (.Name "enumerate" pe) [.Name (lawSc.name 1) pn] [] pc)
    [.If (.UnaryOp .Not (.Call (.Name "_law_case_right" f3) [.Name (lawSc.name 3) p8,.List [.Call (.Name "sum" f1) [.Subscript (.Name (lawSc.name 0) p1) (.Slice (some (.Name (lawSc.name 2) p2)) none (some (.Call (.Name "len" f2) [.Name (lawSc.name 1) p3] [] p4)) p5) p6] [] p7] p9] [] p10) p11) [.Return (some b1) p12] [] p13] [] pos,.Return (some (.Constant (.bool true) kx px)) pz] :=
 ⟨_,_,_,_,_,_,_,_,_,_,_,_,_,_,_,_,_,_,_,_,_,_,_,_,rfl⟩
theorem law_oks:(((toS lawA1 lawSc (lawPs 0)).ok && (toS lawA2 lawSc (lawPs 1)).ok && (toT (.many [2,3]) lawSc ((lawPs 2).drop 1)).ok) && (lawSc.has 0 && lawSc.has 1 && lawSc.has 2 && lawSc.has 3) && (lawSc.glob "enumerate" && lawSc.glob "sum" && lawSc.glob "len" && lawSc.glob "_law_case_right"))=true:=by kernel_rfl
theorem law_fn {C:Cx} (hf:C.fns=fns):C.fn 44=some "_law_case_right":=by rw [fn_is hf]; kernel_rfl
theorem law_fin {C:Cx} (hf:C.fns=fns) (hok:C.Ok) {N K:Nat} (hK:K ≤ 60) {R:List PV} (hR0:R.length ≠ 0) (hR1:R.length ≤ strLine) (told:Phi tab XX N K 31 [] none=some (.ok (.lst R,none)))
  (good:∀ x ∈ R,∀ n,∃ q,Phi tab XX N K 44 [.val x,.pen] (some n)=some (.ok (.bool true,q)))
  (hX:∀ g vs x,XX g vs=some x → InstAt C (K + 3) g vs x) (hR:RaisesOk C) (calls:∀ f args p r,Phi tab XX N K f args p=some r → CallAt C (K + 3) f args p r) (tree:(model C.prog C.w).prog.given.tree=none)
  {env:Env} {L la:Addr} {s₁:Shared} {ks:List Int} {vs:List Value} {tk:Nat} {h₁:Heap} {m:Str → Option Value} (hks:ks.length ≤ 63) (F:LawF C env lawNames L) (h0:C.h₀=s₁.heap) (fr:Fr s₁.heap L h₁ m) (Ln:s₁.heap.get? L=none) (hm:m "script"=some (.ref la)) (hL:s₁.heap.IsList la vs.toArray) (hI:IntsAre vs ks)
  (hk:(fun n=>env.kindOf n)=fun n=>(defOf "law").scope.names.lookup n) {Q:Flow → Shared → Prop} {E:Value → Shared → Prop} (pe':PassesOwn (model C.prog C.w) (callerA.deeper env) env E)
  (hdone:∀ s' m',StOf s₁ s' → Fr s₁.heap L s'.heap m' → Q (.ret (.bool true)) s') :
  wpAny (model C.prog C.w) (callerA.deeper env) (execs (defOf "law").body env) Q E { s₁ with heap:=h₁,toks:=tk }:=by
 have h:HyS C (lawFr env lawNames L (Phi tab XX N K) (K + 3) s₁) XX:=law_hy hok F Ln hX hR calls (by omega)
 have O:=law_in (Φ:=Phi tab XX N K) (d:=K + 3) (tk:=tk) tree F h0 fr Ln ⟨_,rfl,hm⟩ hL hI
 have hsc:scOf C (lawFr env lawNames L (Phi tab XX N K) (K + 3) s₁)=lawSc:=by
  show Sc.mk (fun n=>env.kindOf n) lawNames C.fn=_
  rw [hk,fn_is hf]; rfl
 have ok:=law_oks
 obtain ⟨f1,f2,f3,p1,p2,p3,p4,p5,p6,p7,p8,p9,p10,p11,p12,p13,b1,pn,pe,pc,pos,kx,px,pz,ht⟩:=law_text
 rw [ht]
 rw [← hsc] at ok ⊢
 have ok3:=and_r ok
 have ok2:=and_r (and_l ok)
 have ok1:=and_l (and_l ok)
 refine law_walk (N:=N) (R:=R) (ft:=31) h F O rfl h0 fr Ln hks (by decide) hR1 told (and_l (and_l ok1)) (and_r (and_l ok1)) (and_r ok1) (and_r (and_l (and_l ok2))) (and_l (and_l (and_l ok3))) pe' ⟨nofun,nofun⟩ (fun S hS i x H₁ V₁ sv s1 Q hx hP hV O1 hQ=>?_) hdone
 obtain ⟨hl,e0,e1,hp⟩:=hP
 obtain ⟨y0,y1,y2,y3,rfl⟩:∃ a b c d,sv=[a,b,c,d]:=by
  obtain ⟨a,r,rfl⟩:=List.exists_cons_of_length_eq_add_one hl
  obtain ⟨b,r,rfl⟩:=List.exists_cons_of_length_eq_add_one (Nat.succ.inj hl)
  obtain ⟨c,r,rfl⟩:=List.exists_cons_of_length_eq_add_one (Nat.succ.inj (Nat.succ.inj hl))
  obtain ⟨d,rfl⟩:=List.length_eq_one_iff.mp (Nat.succ.inj (Nat.succ.inj (Nat.succ.inj hl)))
  exact ⟨a,b,c,d,rfl⟩
 cases e0
 cases e1
 refine body_pen h rfl (f:=44) (ks:=S) (rows:=R) (row:=x) (k:=i) O1 (and_l (and_l (and_l ok2))) (and_r (and_l ok2)) (and_r (and_l (and_l ok2))) (and_r ok2) (and_r (and_l (and_l ok3))) (and_r (and_l ok3)) (and_r ok3) (law_fn hf) (by rw [hV]; rfl) (by rw [hV]; rfl) (by rw [hV]; rfl) (by rw [hV]; rfl) hR0 hR1 hS (good x (List.mem_of_getElem? hx)) fun V2 s2 O2 e2=>hQ V2 s2 O2 ?_
 rw [e2,hV]
 refine ⟨rfl,rfl,rfl,fun v hv=>?_⟩
 obtain ⟨u,hu,rfl⟩:=List.mem_map.mp hv
 cases u <;> rfl
theorem fin {N K:Nat} {R:List PV} (hK:K ≤ 60) (hR0:R.length ≠ 0) (hR1:R.length ≤ strLine) (told:Phi tab XX N K 31 [] none=some (.ok (.lst R,none)))
  (good:∀ x ∈ R,∀ n,∃ q,Phi tab XX N K 44 [.val x,.pen] (some n)=some (.ok (.bool true,q))):PySem.Challenge.rw_oj0057_03.Holds:=by
 refine holds_law said fun ok=>?_
 refine holds_open (q:=q) (loose:=loose) (Xt:=Xt) (XP:=XL q []) (Yf:=hook.obs) (Ya:=hook.val) (YP:=hook.says) (N:=3560) hdl hook.of hook.keeps (fun s e=>xl_of s (Bool.and_eq_true_iff.mp e).1) XL.keeps (by rfl) (by rfl) (by rfl) (fun s e=>recFacts_of (Bool.and_eq_true_iff.mp e).2) (by rfl) ok (by decide +kernel) ⟨rfl,rfl,rfl,rfl,rfl,by decide +kernel⟩ ?hw ?hc
 case hw=>w_witness2
 case hc =>
  intro w s₀ s₁ mg mb G Y fa o pm cd doc dV kV ho hd hcd hD hmg hg args vals as hpre hlay hrd hwl hlo
  obtain ⟨Kf,KX,hs⟩:=Y
  have GL:=glob_more (Ground.glob G (by decide +kernel) (by decide +kernel)) (Ground.X G).2
  refine Ground.open G ?_
  intro T B D TE TW
  obtain ⟨_,_,M⟩:=bmod_of_top T
  have TA:=at_of_top T
  obtain ⟨_,_,he,B0⟩:=based_of_top T rfl hmg ho hd
  have he':cd=_:=he
  subst he'
  clear he hmg
  wrow_args hpre hlay hrd hwl hlo
  refine enter_call ?_
  w_top on
  refine codeAny_mono ?_ (fun _ _ g=>GoodW.toG g)
  have K0:=below_caller (Top.heap T)
  w_call any ho hd hcd hD T F
  clear hd TA
  rename_i w9 w8 w7 w6 ks hsz hlay0 hL1 hr1 hl2 w4 w3 la vs w0 hL ra w1' r0 hI hr hc1 hc2 h₁ N0
  have tree:(model Rw.prog w).prog.given.tree=none:=by rfl
  obtain ⟨hok,hX,hR,hcalls⟩:=calls (C:={ prog:=Rw.prog,w:=w,K:=Kf,h₀:=s₁.heap,p:=q,loose:=looseW q loose,mg:=mg,mb:=mb,fns:=fns,exc:=61 }) hs rfl rfl KX (topRead_of T) GL.seer tree
  have hks:ks.length ≤ 63:=by omega
  have hX2:∀ g vs x,XX g vs=some x → InstAt _ (K + 3) g vs x:=fun g vs x e=>(hX g vs x e).le (Nat.le_add_left _ _)
  have Ln:=none_at s₁.heap
  refine law_fin (N:=N) (R:=R) (K:=K) rfl hok hK hR0 hR1 told good hX2 hR (hcalls N K) tree hks ?_ rfl F Ln rfl hL hI rfl PassesOwn.leaving fun s' m' st fr=>?_
  ·exact ⟨rfl,rfl,rfl,rfl,rfl,rfl,rfl,fun x hx=>⟨by rcases List.mem_cons.mp hx with rfl | hx; rfl; rcases List.mem_cons.mp hx with rfl | hx; rfl; rcases List.mem_cons.mp hx with rfl | hx; rfl; rw [List.mem_singleton.mp hx]; rfl,by revert x; decide +kernel⟩,by decide +kernel⟩
  ·obtain ⟨h,t,rfl⟩:=st
   exact goodW_bool fr hg (fun cls=>by rfl) (by kc_post) rfl
end
end Mp.L3
end
theorem PySem.Challenge.cw_oj0057_03_holds : PySem.Challenge.rw_oj0057_03.Holds :=
  Mp.L3.fin (N := Mp.NN) (K := 60) (R := Mp.L3.rows3.map Mp.L3.Row.pv) (by decide) (by decide) (Mp.sline (by decide)) (Mp.L3.told_ok 59) Mp.L3.good
