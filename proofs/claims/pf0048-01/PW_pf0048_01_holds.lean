import PyProof.Rows.All
import Wide.All
import OpenK.AllK
import Wide.FinOn
import PySem.Challenge.RW_pf0048_01
open PySem PySem.W PyProof.Rows PySem.SeqAt
set_option Elab.async false
set_option maxRecDepth 100000
set_option maxHeartbeats 8000000
set_option linter.all false
namespace Mine
section
open_top hd for PySem.Challenge.rw_pf0048_01
end
section
inductive D where
 |none
 |bool (b:Bool)
 |int (i:Int)
 |str (s:Str)
 |tup (ds:List D)
 |ref (n:Nat)
 |fro (ds:List D)
inductive AO where
 |list (ds:List D) (v:Nat)
 |dict (es:List (List Int×D)) (v:Nat)
def AO.ver:AO→Nat
 | .list _ v=>v
 | .dict _ v=>v
abbrev St:=List AO
abbrev Loc:=List (Option D)
def ints?:List D→Option (List Int)
 | []=>some []
 | .int i::r=>(ints? r).map (i::·)
 |_=>none
def keyD (k:List Int):D:=.tup (k.map .int)
abbrev Es:=List (List Int×D)
def dget (es:Es) (k:List Int):Option D:=(es.find? fun e=>decide (e.1=k)).map (·.2)
def dput (es:Es) (k:List Int) (d:D):Es:=
 if (dget es k).isSome then es.map (fun e=>if e.1=k then (e.1,d) else e) else es++[(k,d)]
def ddel (es:Es) (k:List Int):Es:=es.filter fun e=>decide (e.1≠k)
def hashK (k:List Int):Int:=reduceHash (Builtin.Tuple.tupleHashOf (k.map hashInt))
def hashesOk (es:Es):Bool:=decide (es.map fun e=>hashK e.1).Nodup
def eqAll (f:D→D→Option Bool):List D→List D→Option Bool
 | [],[]=>some true
 |x::xr,y::yr=>match f x y,eqAll f xr yr with
  |some a,some b=>some (a&&b)
  |_,_=>none
 |_,_=>none
def eqEs (f:D→D→Option Bool) (fs:Es):Es→Option Bool
 | []=>some true
 |(k,x)::r=>match dget fs k with
  |none=>some false
  |some y=>match f x y,eqEs f fs r with
   |some a,some b=>some (a&&b)
   |_,_=>none
def eqD (σ:St):Nat→D→D→Option Bool
 |0,_,_=>none
 |n+1,a,b=>match a,b with
  | .none,.none=>some true
  | .bool x,.bool y=>some (x==y)
  | .int x,.int y=>some (x==y)
  | .str x,.str y=>some (x==y)
  | .tup xs,.tup ys=>if xs.length=ys.length then eqAll (eqD σ n) xs ys else none
  | .ref i,.ref j=>if i=j then some true else
   match σ[i]?,σ[j]? with
   |some (.list xs _),some (.list ys _)=>if xs.length=ys.length then eqAll (eqD σ n) xs ys else some false
   |some (.dict es _),some (.dict fs _)=>if es.length=fs.length then eqEs (eqD σ n) fs es else some false
   |_,_=>none
  |_,_=>none
def lexD (eq lt:D→D→Option Bool):List D→List D→Option Bool
 |x::xr,y::yr=>match eq x y with
  |some true=>lexD eq lt xr yr
  |some false=>lt x y
  |none=>none
 | [],[]=>some false
 | [],_::_=>some true
 |_::_,[]=>some false
def ltD (σ:St):Nat→D→D→Option Bool
 |0,_,_=>none
 |n+1,a,b=>match a,b with
  | .int x,.int y=>some (decide (x<y))
  | .tup xs,.tup ys=>lexD (eqD σ n) (ltD σ n) xs ys
  | .ref i,.ref j=>match σ[i]?,σ[j]? with
   |some (.list xs _),some (.list ys _)=>lexD (eqD σ n) (ltD σ n) xs ys
   |_,_=>none
  |_,_=>none
def gtInts:List Int→List Int→Bool
 |x::xr,y::yr=>if x=y then gtInts xr yr else decide (x>y)
 |_::_,[]=>true
 |_,_=>false
def CF:Nat:=8
def runT {α:Type} (ask:Nat→Nat→Option Bool):KasT α→Option α
 | .ret a=>some a
 | .ask i j k=>match ask i j with
  |some b=>runT ask (k b)
  |none=>none
def sortable (ds:List D):Bool:=
 ds.all (fun d=>match d with | .tup (.int _::_)=>true|_=>false) || ds.all (fun d=>match d with | .tup (.tup _::_)=>true|_=>false)
def sortD (σ:St) (ds:List D):Option (List D):=
 if ds.length<2 then some ds
 else if ds.length<64&&sortable ds then
  (runT (fun i j=>match ds[i]?,ds[j]? with|some a,some b=>ltD σ CF a b|_,_=>none) (kas_sort ds.length)).map fun p=>
   p.toList.map fun i=>ds.getD i .none
 else none
inductive BOp where|add|sub|mul|fdiv|mod|pow
inductive COp where|eq|ne|lt|gt|isin|notin
def LIM:Nat:=2^20
def binD (op:BOp) (a b:D) (σ:St):Option (D×St):=
 match op,a,b with
 | .add,.int x,.int y=>some (.int (x+y),σ)
 | .sub,.int x,.int y=>some (.int (x-y),σ)
 | .mul,.int x,.int y=>if x.natAbs<2^63∨y.natAbs<2^63 then some (.int (x*y),σ) else none
 | .fdiv,.int x,.int y=>if y≠0∧y.natAbs<2^30 then some (.int (x.fdiv y),σ) else none
 | .mod,.int x,.int y=>if y≠0 then some (.int (x.fmod y),σ) else none
 | .pow,.int x,.int y=>if x=2∧0≤y∧y<64 then some (.int (x^y.toNat),σ) else none
 | .add,.tup xs,.tup ys=>if xs.length+ys.length<LIM then some (.tup (xs++ys),σ) else none
 | .add,.ref i,.ref j=>match σ[i]?,σ[j]? with
  |some (.list xs _),some (.list ys _)=>if xs.length+ys.length<LIM then some (.ref σ.length,σ++[.list (xs++ys) 0]) else none
  |_,_=>none
 |_,_,_=>none
def cmpD (op:COp) (a b:D) (σ:St):Option Bool:=
 match op with
 | .eq=>match a,b with
  | .ref i,.ref j=>if i=j then none else eqD σ CF a b
  |_,_=>eqD σ CF a b
 | .ne=>match a,b with
  | .ref i,.ref j=>if i=j then none else (eqD σ CF a b).map (!·)
  |_,_=>(eqD σ CF a b).map (!·)
 | .lt=>match a,b with
  | .int x,.int y=>some (decide (x<y))
  |_,_=>none
 | .gt=>match a,b with
  | .int x,.int y=>some (decide (x>y))
  | .tup xs,.tup ys=>match ints? xs,ints? ys with
   |some p,some q=>some (gtInts p q)
   |_,_=>none
  |_,_=>none
 | .isin=>match a,b with
  | .tup xs,.ref i=>match σ[i]?,ints? xs with
   |some (.dict es _),some k=>some (dget es k).isSome
   |_,_=>none
  |_,_=>none
 | .notin=>match a,b with
  | .ref _,.ref i=>match σ[i]? with
   |some (.list ds _)=>(anyEq σ a ds).map (!·)
   |_=>none
  |_,_=>none
where
 anyEq (σ:St) (a:D):List D→Option Bool
  | []=>some false
  |d::r=>match eqD σ CF d a,anyEq σ a r with
   |some p,some q=>some (p || q)
   |_,_=>none
def truthD:D→Option Bool
 | .none=>some false
 | .bool b=>some b
 | .int i=>some (i != 0)
 |_=>none
def idxD (σ:St) (o i:D):Option D:=
 match o,i with
 | .tup ds,.int k=>if 0≤k∧k<(LIM:Int) then ds[k.toNat]? else none
 | .ref r,.int k=>match σ[r]? with
  |some (.list ds _)=>if 0≤k∧k<(LIM:Int) then ds[k.toNat]? else none
  |_=>none
 | .ref r,.tup ks=>match σ[r]?,ints? ks with
  |some (.dict es _),some k=>dget es k
  |_,_=>none
 |_,_=>none
def setD (σ:St) (o i v:D):Option St:=
 match o,i with
 | .ref r,.int k=>match σ[r]? with
  |some (.list ds w)=>if 0≤k∧k<(LIM:Int)∧k.toNat<ds.length then some (σ.set r (.list (ds.set k.toNat v) (w+1))) else none
  |_=>none
 | .ref r,.tup ks=>match σ[r]?,ints? ks with
  |some (.dict es w),some k=>if es.length<LIM then some (σ.set r (.dict (dput es k v) (w+1))) else none
  |_,_=>none
 |_,_=>none
def lenD (σ:St):D→Option Int
 | .tup ds=>if ds.length<LIM then some ds.length else none
 | .ref r=>match σ[r]? with
  |some (.list ds _)=>if ds.length<LIM then some ds.length else none
  |some (.dict es _)=>if es.length<LIM then some es.length else none
  |none=>none
 |_=>none
def sumD:List D→Option Int
 |ds=>(ints? ds).map fun is=>is.foldl (·+·) 0
def maxD:List D→Option Int
 |ds=>match ints? ds with
  |some (i::r)=>some (r.foldl (fun m x=>if x>m then x else m) i)
  |_=>none
def rangeD (a b:Int):List D:=(List.range (b-a).toNat).map fun(i:Nat)=>D.int (a+(i:Int))
def enumD:Nat→List D→List D
 |_,[]=>[]
 |n,d::r=>.tup [.int n,d]::enumD (n+1) r
def pairsD:Es→List D→Option Es
 |acc,[]=>some acc
 |acc,.tup [.tup ks,v]::r=>match ints? ks with
  |some k=>if acc.length<LIM then pairsD (dput acc k v) r else none
  |none=>none
 |_,_=>none
def isLst (σ:St) (r:Nat):Bool:=match σ[r]? with
 |some (.list _ _)=>true
 |_=>false
def isDct (σ:St) (r:Nat):Bool:=match σ[r]? with
 |some (.dict _ _)=>true
 |_=>false
inductive X where
 |fail
 |lit (d:D)
 |var (i:Nat)
 |bin (op:BOp) (a b:X)
 |neg (a:X)
 |cmp (op:COp) (a b:X)
 |isn (a:X)
 |notn (a:X)
 |and (a b:X)
 |or (a b:X)
 |not (a:X)
 |ite (c a b:X)
 |call (f:Nat) (args:X)
 |anil
 |acons (x xs:X)
 |tup (xs:X)
 |dict (kvs:X)
 |idx (o i:X)
 |abs (a:X)
 |len (a:X)
 |sum (a:X)
 |max2 (a b:X)
 |rep (x n:X)
 |get2 (o k d:X)
 |pop2 (o k:X)
 |pop1 (o k:X)
 |popAt (o k:X)
 |append (o v:X)
 |extend (o:X) (L:X)
 |sort (o:X)
 |sortItems (o:X)
 |sorted (o:X)
 |dictOf (o:X)
 |dictPairs (L:X)
 |tupOf (L:X)
 |maxOf (L:X)
 |lenOf (L:X)
 |listOf (L:X)
 |lst (L:X)
 |neNil (a:X)
 |neNilL (L:X)
 |dcomp (k v:X) (ts:List Nat) (many:Bool) (it:X) (ifs:Option X)
 |lcomp (e:X) (ts:List Nat) (many:Bool) (it:X) (ifs:Option X)
 |ldisp (xs:X)
 |lsl (o:X) (lo hi:Option Nat)
 |lofx (o:X)
 |ix (a:X)
 |ienum (a:X)
 |irange (a b:X)
inductive XS where
 |fail
 |nil
 |seq (a b:XS)
 |asg (i:Nat) (e:X)
 |asgT (is:List Nat) (e:X)
 |set (o k v:X)
 |aug (o k:X) (op:BOp) (v:X)
 |expr (e:X)
 |ifs (c:X) (a b:XS)
 |whl (c:X) (b:XS)
 |for_ (ts:List Nat) (many:Bool) (it:X) (b:XS)
 |ret (e:X)
 |cont
inductive Fl where
 |next|cont|ret (d:D)
def bindT (ts:List Nat) (many:Bool) (d:D) (l:Loc):Option Loc:=
 if many then match d with
  | .tup ds=>if ds.length=ts.length then some ((ts.zip ds).foldl (fun l p=>l.set p.1 (some p.2)) l) else none
  |_=>none
 else match ts with
  | [i]=>some (l.set i (some d))
  |_=>none
abbrev Src:=Option (Nat×Nat)
def srcOk (src:Src) (σ:St):Bool:=
 match src with
 |none=>true
 |some (i,v)=>match σ[i]? with
  |some p=>Nat.beq p.ver v
  |none=>false
def compGo (bind:D→Loc→Option Loc) (test:Loc→St→Option (Bool×St)) (elt:Loc→St→Option (D×St)) (src:Src) (l:Loc):List D→St→Option (List D×St)
 | [],σ=>some ([],σ)
 |d::ds,σ=>match bind d l with
  |none=>none
  |some l'=>match test l' σ with
   |none=>none
   |some (false,σ1)=>if srcOk src σ1 then compGo bind test elt src l ds σ1 else none
   |some (true,σ1)=>match elt l' σ1 with
    |none=>none
    |some (e,σ2)=>if srcOk src σ2 then
      match compGo bind test elt src l ds σ2 with
      |some (es,σ3)=>some (e::es,σ3)
      |none=>none
     else none
def dcompGo (bind:D→Loc→Option Loc) (test:Loc→St→Option (Bool×St)) (key val:Loc→St→Option (D×St)) (src:Src) (l:Loc):List D→Es→St→Option (Es×St)
 | [],es,σ=>some (es,σ)
 |d::ds,es,σ=>match bind d l with
  |none=>none
  |some l'=>match test l' σ with
   |none=>none
   |some (false,σ1)=>if srcOk src σ1 then dcompGo bind test key val src l ds es σ1 else none
   |some (true,σ1)=>match key l' σ1 with
    |some (.tup ks,σ2)=>match ints? ks with
     |none=>none
     |some k=>match val l' σ2 with
      |none=>none
      |some (v,σ3)=>if srcOk src σ3&&decide (es.length<LIM) then dcompGo bind test key val src l ds (dput es k v) σ3 else none
    |_=>none
def forGo (bind:D→Loc→Option Loc) (body:Loc→St→Option (Fl×Loc×St)) (src:Src):List D→Loc→St→Option (Fl×Loc×St)
 | [],l,σ=>some (.next,l,σ)
 |d::ds,l,σ=>match bind d l with
  |none=>none
  |some l1=>match body l1 σ with
   |none=>none
   |some (.ret r,l2,σ2)=>some (.ret r,l2,σ2)
   |some (_,l2,σ2)=>if srcOk src σ2 then forGo bind body src ds l2 σ2 else none
def whileGo (test:Loc→St→Option (Bool×St)) (body:Loc→St→Option (Fl×Loc×St)):Nat→Loc→St→Option (Fl×Loc×St)
 |0,_,_=>none
 |n+1,l,σ=>match test l σ with
  |none=>none
  |some (false,σ1)=>some (.next,l,σ1)
  |some (true,σ1)=>match body l σ1 with
   |none=>none
   |some (.ret r,l2,σ2)=>some (.ret r,l2,σ2)
   |some (_,l2,σ2)=>whileGo test body n l2 σ2
def iterOf (σ:St):D→Option (List D×Src)
 | .tup ds=>some (ds,none)
 | .ref r=>match σ[r]? with
  |some (.list ds w)=>some (ds,some (r,w))
  |some (.dict es w)=>some (es.map fun e=>keyD e.1,some (r,w))
  |none=>none
 |_=>none
def dispE:List D→Es→Option Es
 | [],es=>some es
 | .tup ks::v::r,es=>match ints? ks with
  |some k=>dispE r (dput es k v)
  |none=>none
 |_,_=>none
mutual
def ev (C:Nat→List D→St→Option (D×St)):X→Loc→St→Option (D×St)
 | .lit d,_,σ=>some (d,σ)
 | .var i,l,σ=>match l[i]? with
  |some (some d)=>some (d,σ)
  |_=>none
 | .bin op a b,l,σ=>match ev C a l σ with
  |some (x,σ1)=>match ev C b l σ1 with
   |some (y,σ2)=>binD op x y σ2
   |none=>none
  |none=>none
 | .neg a,l,σ=>match ev C a l σ with
  |some (.int x,σ1)=>some (.int (-x),σ1)
  |_=>none
 | .cmp op a b,l,σ=>match ev C a l σ with
  |some (x,σ1)=>match ev C b l σ1 with
   |some (y,σ2)=>match cmpD op x y σ2 with
    |some r=>some (.bool r,σ2)
    |none=>none
   |none=>none
  |none=>none
 | .isn a,l,σ=>match ev C a l σ with
  |some (.none,σ1)=>some (.bool true,σ1)
  |some (_,σ1)=>some (.bool false,σ1)
  |none=>none
 | .notn a,l,σ=>match ev C a l σ with
  |some (.none,σ1)=>some (.bool false,σ1)
  |some (_,σ1)=>some (.bool true,σ1)
  |none=>none
 | .and a b,l,σ=>match ev C a l σ with
  |some (x,σ1)=>match truthD x with
   |some true=>ev C b l σ1
   |some false=>some (x,σ1)
   |none=>none
  |none=>none
 | .or a b,l,σ=>match ev C a l σ with
  |some (x,σ1)=>match truthD x with
   |some false=>ev C b l σ1
   |some true=>some (x,σ1)
   |none=>none
  |none=>none
 | .not a,l,σ=>match ev C a l σ with
  |some (x,σ1)=>match truthD x with
   |some r=>some (.bool (!r),σ1)
   |none=>none
  |none=>none
 | .ite c a b,l,σ=>match ev C c l σ with
  |some (x,σ1)=>match truthD x with
   |some true=>ev C a l σ1
   |some false=>ev C b l σ1
   |none=>none
  |none=>none
 | .call f xs,l,σ=>match evs C xs l σ with
  |some (ds,σ1)=>C f ds σ1
  |none=>none
 | .tup xs,l,σ=>match evs C xs l σ with
  |some (ds,σ1)=>if ds.length<LIM then some (.tup ds,σ1) else none
  |none=>none
 | .dict kvs,l,σ=>match evs C kvs l σ with
  |some (ds,σ1)=>if ds.length<16 then match dispE ds [] with
    |some es=>some (.ref σ1.length,σ1++[.dict es 0])
    |none=>none
   else none
  |none=>none
 | .idx o i,l,σ=>match ev C o l σ with
  |some (x,σ1)=>match ev C i l σ1 with
   |some (y,σ2)=>match idxD σ2 x y with
    |some d=>some (d,σ2)
    |none=>none
   |none=>none
  |none=>none
 | .abs a,l,σ=>match ev C a l σ with
  |some (.int x,σ1)=>some (.int (if x<0 then -x else x),σ1)
  |_=>none
 | .len a,l,σ=>match ev C a l σ with
  |some (x,σ1)=>match lenD σ1 x with
   |some n=>some (.int n,σ1)
   |none=>none
  |none=>none
 | .sum a,l,σ=>match ev C a l σ with
  |some (.tup ds,σ1)=>match sumD ds with
   |some n=>some (.int n,σ1)
   |none=>none
  |_=>none
 | .max2 a b,l,σ=>match ev C a l σ with
  |some (.int x,σ1)=>match ev C b l σ1 with
   |some (.int y,σ2)=>some (.int (if y>x then y else x),σ2)
   |_=>none
  |_=>none
 | .rep a n,l,σ=>match ev C a l σ with
  |some (x,σ1)=>match ev C n l σ1 with
   |some (.int k,σ2)=>if k.natAbs<LIM then some (.ref σ2.length,σ2++[.list (List.replicate k.toNat x) 0]) else none
   |_=>none
  |none=>none
 | .get2 o k d,l,σ=>match ev C o l σ with
  |some (.ref r,σ1)=>if isDct σ1 r then match ev C k l σ1 with
   |some (.tup ks,σ2)=>match ev C d l σ2 with
    |some (x,σ3)=>match σ3[r]?,ints? ks with
     |some (.dict es _),some kk=>some ((dget es kk).getD x,σ3)
     |_,_=>none
    |none=>none
   |_=>none
   else none
  |_=>none
 | .pop2 o k,l,σ=>match ev C o l σ with
  |some (.ref r,σ1)=>if isDct σ1 r then match ev C k l σ1 with
   |some (.tup ks,σ2)=>match σ2[r]?,ints? ks with
    |some (.dict es w),some kk=>if es.length<LIM then some ((dget es kk).getD .none,σ2.set r (.dict (ddel es kk) (w+1))) else none
    |_,_=>none
   |_=>none
   else none
  |_=>none
 | .pop1 o k,l,σ=>match ev C o l σ with
  |some (.ref r,σ1)=>if isDct σ1 r then match ev C k l σ1 with
   |some (.tup ks,σ2)=>match σ2[r]?,ints? ks with
    |some (.dict es w),some kk=>match dget es kk with
     |some x=>if es.length<LIM then some (x,σ2.set r (.dict (ddel es kk) (w+1))) else none
     |none=>none
    |_,_=>none
   |_=>none
   else none
  |_=>none
 | .popAt o k,l,σ=>match ev C o l σ with
  |some (.ref r,σ1)=>if isLst σ1 r then match ev C k l σ1 with
   |some (.int i,σ2)=>match σ2[r]? with
    |some (.list ds w)=>if 0≤i∧i<(LIM:Int)∧ds.length<LIM then match ds[i.toNat]? with
      |some x=>some (x,σ2.set r (.list (ds.eraseIdx i.toNat) (w+1)))
      |none=>none
     else none
    |_=>none
   |_=>none
   else none
  |_=>none
 | .append o v,l,σ=>match ev C o l σ with
  |some (.ref r,σ1)=>if isLst σ1 r then match ev C v l σ1 with
   |some (x,σ2)=>match σ2[r]? with
    |some (.list ds w)=>if ds.length<LIM then some (.none,σ2.set r (.list (ds++[x]) (w+1))) else none
    |_=>none
   |none=>none
   else none
  |_=>none
 | .extend o L,l,σ=>match ev C o l σ with
  |some (.ref r,σ1)=>if isLst σ1 r then match evL C L l σ1 with
   |some (xs,σ2)=>match σ2[r]? with
    |some (.list ds w)=>if ds.length+xs.length<LIM then some (.none,σ2.set r (.list (ds++xs) (w+1))) else none
    |_=>none
   |none=>none
   else none
  |_=>none
 | .sort o,l,σ=>match ev C o l σ with
  |some (.ref r,σ1)=>match σ1[r]? with
   |some (.list ds w)=>match sortD (σ1.set r (.list [] (w+1))) ds with
    |some es=>some (.none,σ1.set r (.list es (w+1)))
    |none=>none
   |_=>none
  |_=>none
 | .sortItems o,l,σ=>match ev C o l σ with
  |some (.ref r,σ1)=>match σ1[r]? with
   |some (.dict es _)=>match sortD σ1 (es.map fun e=>.tup [keyD e.1,e.2]) with
    |some ds=>some (.ref σ1.length,σ1++[.list ds 0])
    |none=>none
   |_=>none
  |_=>none
 | .sorted o,l,σ=>match ev C o l σ with
  |some (.ref r,σ1)=>match σ1[r]? with
   |some (.list ds _)=>match sortD σ1 ds with
    |some es=>some (.ref σ1.length,σ1++[.list es 0])
    |none=>none
   |_=>none
  |_=>none
 | .dictOf o,l,σ=>match ev C o l σ with
  |some (.ref r,σ1)=>match σ1[r]? with
   |some (.dict es _)=>if es.length<LIM∧hashesOk es=true then some (.ref σ1.length,σ1++[.dict es 0]) else none
   |_=>none
  |_=>none
 | .dictPairs L,l,σ=>match evL C L l σ with
  |some (ds,σ1)=>match pairsD [] ds with
   |some es=>some (.ref σ1.length,σ1++[.dict es 0])
   |none=>none
  |none=>none
 | .tupOf L,l,σ=>match evL C L l σ with
  |some (ds,σ1)=>if ds.length<LIM then some (.tup ds,σ1) else none
  |none=>none
 | .maxOf L,l,σ=>match evL C L l σ with
  |some (ds,σ1)=>match maxD ds with
   |some n=>some (.int n,σ1)
   |none=>none
  |none=>none
 | .lenOf L,l,σ=>match evL C L l σ with
  |some (ds,σ1)=>if ds.length<LIM then some (.int ds.length,σ1) else none
  |none=>none
 | .listOf L,l,σ=>match evL C L l σ with
  |some (ds,σ1)=>if ds.length<LIM then some (.ref σ1.length,σ1++[.list ds 0]) else none
  |none=>none
 | .lst L,l,σ=>match evL C L l σ with
  |some (ds,σ1)=>some (.ref σ1.length,σ1++[.list ds 0])
  |none=>none
 | .neNil a,l,σ=>match ev C a l σ with
  |some (.ref r,σ1)=>match σ1[r]? with
   |some (.list ds _)=>some (.bool (!ds.isEmpty),σ1)
   |_=>none
  |_=>none
 | .neNilL L,l,σ=>match evL C L l σ with
  |some (ds,σ1)=>some (.bool (!ds.isEmpty),σ1)
  |none=>none
 | .dcomp k v ts many it none,l,σ=>match evI C it l σ with
  |some (ds,src,σ1)=>match dcompGo (bindT ts many) (fun _ σ=>some (true,σ)) (ev C k) (ev C v) src l ds [] σ1 with
   |some (es,σ2)=>some (.ref σ2.length,σ2++[.dict es 0])
   |none=>none
  |none=>none
 | .dcomp k v ts many it (some c),l,σ=>match evI C it l σ with
  |some (ds,src,σ1)=>match dcompGo (bindT ts many) (fun l σ=>match ev C c l σ with|some (x,σ1)=>(truthD x).map fun b=>(b,σ1)|none=>none) (ev C k) (ev C v) src l ds [] σ1 with
   |some (es,σ2)=>some (.ref σ2.length,σ2++[.dict es 0])
   |none=>none
  |none=>none
 |_,_,_=>none
def evs (C:Nat→List D→St→Option (D×St)):X→Loc→St→Option (List D×St)
 | .anil,_,σ=>some ([],σ)
 | .acons x xs,l,σ=>match ev C x l σ with
  |some (d,σ1)=>match evs C xs l σ1 with
   |some (ds,σ2)=>some (d::ds,σ2)
   |none=>none
  |none=>none
 |_,_,_=>none
def evL (C:Nat→List D→St→Option (D×St)):X→Loc→St→Option (List D×St)
 | .lcomp e ts many it none,l,σ=>match evI C it l σ with
  |some (ds,src,σ1)=>if ds.length<LIM then compGo (bindT ts many) (fun _ σ=>some (true,σ)) (ev C e) src l ds σ1 else none
  |none=>none
 | .lcomp e ts many it (some c),l,σ=>match evI C it l σ with
  |some (ds,src,σ1)=>if ds.length<LIM then compGo (bindT ts many) (fun l σ=>match ev C c l σ with|some (x,σ1)=>(truthD x).map fun b=>(b,σ1)|none=>none) (ev C e) src l ds σ1 else none
  |none=>none
 | .ldisp xs,l,σ=>match evs C xs l σ with
  |some (ds,σ1)=>if ds.length<LIM then some (ds,σ1) else none
  |none=>none
 | .lsl o lo hi,l,σ=>match ev C o l σ with
  |some (.fro ds,σ1)=>if ds.length<LIM then some ((ds.take (hi.getD ds.length)).drop (lo.getD 0),σ1) else none
  |some (.ref r,σ1)=>match σ1[r]? with
   |some (.list ds _)=>if ds.length<LIM then some ((ds.take (hi.getD ds.length)).drop (lo.getD 0),σ1) else none
   |_=>none
  |_=>none
 | .lofx o,l,σ=>match ev C o l σ with
  |some (.ref r,σ1)=>match σ1[r]? with
   |some (.list ds _)=>some (ds,σ1)
   |_=>none
  |_=>none
 |_,_,_=>none
def evI (C:Nat→List D→St→Option (D×St)):X→Loc→St→Option (List D×Src×St)
 | .ix a,l,σ=>match ev C a l σ with
  |some (x,σ1)=>match iterOf σ1 x with
   |some (ds,src)=>some (ds,src,σ1)
   |none=>none
  |none=>none
 | .ienum a,l,σ=>match ev C a l σ with
  |some (.tup ds,σ1)=>some (enumD 0 ds,none,σ1)
  |some (.ref r,σ1)=>match σ1[r]? with
   |some (.list ds w)=>some (enumD 0 ds,some (r,w),σ1)
   |_=>none
  |_=>none
 | .irange a b,l,σ=>match ev C a l σ with
  |some (.int x,σ1)=>match ev C b l σ1 with
   |some (.int y,σ2)=>if x.natAbs<LIM∧y.natAbs<LIM then some (rangeD x y,none,σ2) else none
   |_=>none
  |_=>none
 |_,_,_=>none
end
def evT (C:Nat→List D→St→Option (D×St)) (c:X) (l:Loc) (σ:St):Option (Bool×St):=
 match ev C c l σ with
 |some (x,σ1)=>(truthD x).map fun b=>(b,σ1)
 |none=>none
def exS (C:Nat→List D→St→Option (D×St)) (W:Nat):XS→Loc→St→Option (Fl×Loc×St)
 | .fail,_,_=>none
 | .nil,l,σ=>some (.next,l,σ)
 | .seq a b,l,σ=>match exS C W a l σ with
  |some (.next,l1,σ1)=>exS C W b l1 σ1
  |r=>r
 | .asg i e,l,σ=>match ev C e l σ with
  |some (d,σ1)=>some (.next,l.set i (some d),σ1)
  |none=>none
 | .asgT is e,l,σ=>match ev C e l σ with
  |some (d,σ1)=>match bindT is true d l with
   |some l1=>some (.next,l1,σ1)
   |none=>none
  |none=>none
 | .set o k v,l,σ=>match ev C v l σ with
  |some (x,σ1)=>match ev C o l σ1 with
   |some (od,σ2)=>match ev C k l σ2 with
    |some (kd,σ3)=>match setD σ3 od kd x with
     |some σ4=>some (.next,l,σ4)
     |none=>none
    |none=>none
   |none=>none
  |none=>none
 | .aug o k op v,l,σ=>match ev C o l σ with
  |some (od,σ1)=>match ev C k l σ1 with
   |some (kd,σ2)=>match idxD σ2 od kd with
    |some (.int old)=>match ev C v l σ2 with
     |some (.int y,σ3)=>match binD op (.int old) (.int y) σ3 with
      |some (r,σ4)=>match setD σ4 od kd r with
       |some σ5=>some (.next,l,σ5)
       |none=>none
      |none=>none
     |_=>none
    |_=>none
   |none=>none
  |none=>none
 | .expr e,l,σ=>match ev C e l σ with
  |some (_,σ1)=>some (.next,l,σ1)
  |none=>none
 | .ifs c a b,l,σ=>match evT C c l σ with
  |some (true,σ1)=>exS C W a l σ1
  |some (false,σ1)=>exS C W b l σ1
  |none=>none
 | .whl c b,l,σ=>whileGo (evT C c) (exS C W b) W l σ
 | .for_ ts many it b,l,σ=>match evI C it l σ with
  |some (ds,src,σ1)=>forGo (bindT ts many) (exS C W b) src ds l σ1
  |none=>none
 | .ret e,l,σ=>match ev C e l σ with
  |some (d,σ1)=>some (.ret d,l,σ1)
  |none=>none
 | .cont,l,σ=>some (.cont,l,σ)
structure Fn where
 nargs:Nat
 nslots:Nat
 body:XS
def evCall (FT:List Fn) (W:Nat):Nat→Nat→List D→St→Option (D×St)
 |0,_,_,_=>none
 |n+1,f,ds,σ=>match FT[f]? with
  |none=>none
  |some fn=>if ds.length=fn.nargs then
    match exS (evCall FT W n) W fn.body (ds.map some++List.replicate (fn.nslots-fn.nargs) none) σ with
    |some (.ret d,_,σ1)=>some (d,σ1)
    |some (.next,_,σ1)=>some (.none,σ1)
    |_=>none
   else none
end
section
abbrev f_gcd:Nat:=0
abbrev f_order_key:Nat:=1
abbrev f_powers_product:Nat:=2
abbrev f_powers_divide:Nat:=3
abbrev f_powers_quotient:Nat:=4
abbrev f_rat:Nat:=5
abbrev f_radd:Nat:=6
abbrev f_rmul:Nat:=7
abbrev f_rdiv:Nat:=8
abbrev f_rneg:Nat:=9
abbrev f_rinv:Nat:=10
abbrev f_mvadd:Nat:=11
abbrev f_add_term:Nat:=12
abbrev f_mvneg:Nat:=13
abbrev f_mvsub:Nat:=14
abbrev f_mvscale:Nat:=15
abbrev f_mvshift:Nat:=16
abbrev f_mvlead:Nat:=17
abbrev f_first_divisor:Nat:=18
abbrev f_mvdivide:Nat:=19
abbrev f_mvexact:Nat:=20
abbrev f_zmul:Nat:=21
abbrev f_whole_form:Nat:=22
abbrev f_is_number_form:Nat:=23
abbrev f_flattened:Nat:=24
abbrev f_unfolded:Nat:=25
abbrev f_lots_of:Nat:=26
abbrev f_candidate_of:Nat:=27
abbrev f_first_hit:Nat:=28
abbrev f_sorted_forms:Nat:=29
abbrev f_multiplied_back:Nat:=30
abbrev f_product_of_forms:Nat:=31
abbrev f_law_take:Nat:=32
abbrev f_law_form:Nat:=33
abbrev f_law_product:Nat:=34
abbrev f_law_lots_right:Nat:=35
abbrev f_law_flat_right:Nat:=36
abbrev f_law:Nat:=37
def b_gcd:XS:=
  .seq (.asgT [0,1] (.tup (.acons (.abs (.var 0)) (.acons (.abs (.var 1)) (.anil)))))
  (.seq (.whl (.cmp .ne (.var 1) (.lit (.int 0))) (.asgT [0,1] (.tup (.acons (.var 1) (.acons (.bin .mod (.var 0) (.var 1)) (.anil))))))
  (.ret (.var 0)))
def b_order_key:XS:=
  .seq (.ifs (.cmp .eq (.var 0) (.lit (.str (Str.ofString "lex")))) (.ret (.var 1)) (.nil))
  (.seq (.ifs (.cmp .eq (.var 0) (.lit (.str (Str.ofString "grlex")))) (.ret (.bin .add (.tup (.acons (.sum (.var 1)) (.anil))) (.var 1))) (.nil))
  (.seq (.ifs (.cmp .eq (.var 0) (.lit (.str (Str.ofString "grevlex")))) (.ret (.bin .add (.tup (.acons (.sum (.var 1)) (.anil))) (.tupOf (.lcomp (.neg (.var 2)) [2] false (.ix (.fail)) none)))) (.nil))
  (.fail)))
def b_powers_product:XS:=
  .ret (.tupOf (.lcomp (.bin .add (.var 3) (.idx (.var 1) (.var 2))) [2,3] true (.ienum (.var 0)) none))
def b_powers_divide:XS:=
  .seq (.for_ [2,3] true (.ienum (.var 0)) (.ifs (.cmp .gt (.var 3) (.idx (.var 1) (.var 2))) (.ret (.lit (.bool false))) (.nil)))
  (.ret (.lit (.bool true)))
def b_powers_quotient:XS:=
  .ret (.tupOf (.lcomp (.bin .sub (.var 3) (.idx (.var 1) (.var 2))) [2,3] true (.ienum (.var 0)) none))
def b_rat:XS:=
  .seq (.ifs (.cmp .eq (.var 1) (.lit (.int 0))) (.fail) (.nil))
  (.seq (.asg 2 (.ite (.cmp .gt (.var 1) (.lit (.int 0))) (.call f_gcd (.acons (.var 0) (.acons (.var 1) (.anil)))) (.bin .sub (.lit (.int 0)) (.call f_gcd (.acons (.var 0) (.acons (.var 1) (.anil)))))))
  (.ret (.tup (.acons (.bin .fdiv (.var 0) (.var 2)) (.acons (.bin .fdiv (.var 1) (.var 2)) (.anil))))))
def b_radd:XS:=
  .ret (.call f_rat (.acons (.bin .add (.bin .mul (.idx (.var 0) (.lit (.int 0))) (.idx (.var 1) (.lit (.int 1)))) (.bin .mul (.idx (.var 1) (.lit (.int 0))) (.idx (.var 0) (.lit (.int 1))))) (.acons (.bin .mul (.idx (.var 0) (.lit (.int 1))) (.idx (.var 1) (.lit (.int 1)))) (.anil))))
def b_rmul:XS:=
  .ret (.call f_rat (.acons (.bin .mul (.idx (.var 0) (.lit (.int 0))) (.idx (.var 1) (.lit (.int 0)))) (.acons (.bin .mul (.idx (.var 0) (.lit (.int 1))) (.idx (.var 1) (.lit (.int 1)))) (.anil))))
def b_rdiv:XS:=
  .ret (.call f_rat (.acons (.bin .mul (.idx (.var 0) (.lit (.int 0))) (.idx (.var 1) (.lit (.int 1)))) (.acons (.bin .mul (.idx (.var 0) (.lit (.int 1))) (.idx (.var 1) (.lit (.int 0)))) (.anil))))
def b_rneg:XS:=
  .ret (.tup (.acons (.bin .sub (.lit (.int 0)) (.idx (.var 0) (.lit (.int 0)))) (.acons (.idx (.var 0) (.lit (.int 1))) (.anil))))
def b_rinv:XS:=
  .ret (.call f_rat (.acons (.idx (.var 0) (.lit (.int 1))) (.acons (.idx (.var 0) (.lit (.int 0))) (.anil))))
def b_mvadd:XS:=
  .seq (.asg 2 (.dictOf (.var 0)))
  (.seq (.for_ [3] false (.ix (.var 1)) (.expr (.call f_add_term (.acons (.var 2) (.acons (.var 3) (.acons (.idx (.var 1) (.var 3)) (.anil)))))))
  (.ret (.var 2)))
def b_add_term:XS:=
  .seq (.asg 3 (.ite (.cmp .isin (.var 1) (.var 0)) (.call f_radd (.acons (.idx (.var 0) (.var 1)) (.acons (.var 2) (.anil)))) (.var 2)))
  (.ifs (.cmp .eq (.var 3) (.lit (.tup [.int 0,.int 1]))) (.expr (.pop2 (.var 0) (.var 1))) (.set (.var 0) (.var 1) (.var 3)))
def b_mvneg:XS:=
  .ret (.dcomp (.var 1) (.call f_rneg (.acons (.idx (.var 0) (.var 1)) (.anil))) [1] false (.ix (.var 0)) none)
def b_mvsub:XS:=
  .ret (.call f_mvadd (.acons (.var 0) (.acons (.call f_mvneg (.acons (.var 1) (.anil))) (.anil))))
def b_mvscale:XS:=
  .seq (.ifs (.cmp .eq (.var 1) (.lit (.tup [.int 0,.int 1]))) (.ret (.dict (.anil))) (.nil))
  (.ret (.dcomp (.var 2) (.call f_rmul (.acons (.idx (.var 0) (.var 2)) (.acons (.var 1) (.anil)))) [2] false (.ix (.var 0)) none))
def b_mvshift:XS:=
  .seq (.ifs (.cmp .eq (.var 2) (.lit (.tup [.int 0,.int 1]))) (.ret (.dict (.anil))) (.nil))
  (.ret (.dcomp (.call f_powers_product (.acons (.var 3) (.acons (.var 1) (.anil)))) (.call f_rmul (.acons (.idx (.var 0) (.var 3)) (.acons (.var 2) (.anil)))) [3] false (.ix (.var 0)) none))
def b_mvlead:XS:=
  .seq (.asgT [2,3] (.tup (.acons (.lit .none) (.acons (.lit .none) (.anil)))))
  (.seq (.for_ [4] false (.ix (.var 0)) (.seq (.asg 5 (.call f_order_key (.acons (.var 1) (.acons (.var 4) (.anil)))))
  (.ifs (.or (.isn (.var 2)) (.cmp .gt (.var 5) (.var 3))) (.asgT [2,3] (.tup (.acons (.var 4) (.acons (.var 5) (.anil))))) (.nil))))
  (.ret (.ite (.isn (.var 2)) (.lit .none) (.tup (.acons (.var 2) (.acons (.idx (.var 0) (.var 2)) (.anil)))))))
def b_first_divisor:XS:=
  .seq (.for_ [2,3] true (.ienum (.var 1)) (.ifs (.and (.notn (.var 3)) (.call f_powers_divide (.acons (.idx (.var 3) (.lit (.int 0))) (.acons (.var 0) (.anil))))) (.ret (.var 2)) (.nil)))
  (.ret (.neg (.lit (.int 1))))
def b_mvdivide:XS:=
  .seq (.asg 3 (.lst (.lcomp (.call f_mvlead (.acons (.var 12) (.acons (.var 2) (.anil)))) [12] false (.ix (.var 1)) none)))
  (.seq (.asg 4 (.lst (.lcomp (.dict (.anil)) [12] false (.ix (.var 1)) none)))
  (.seq (.asgT [5,6] (.tup (.acons (.dict (.anil)) (.acons (.dictOf (.var 0)) (.anil)))))
  (.seq (.whl (.cmp .gt (.len (.var 6)) (.lit (.int 0))) (.seq (.asgT [7,8] (.call f_mvlead (.acons (.var 6) (.acons (.var 2) (.anil)))))
  (.seq (.asg 9 (.call f_first_divisor (.acons (.var 7) (.acons (.var 3) (.anil)))))
  (.seq (.ifs (.cmp .lt (.var 9) (.lit (.int 0))) (.seq (.set (.var 5) (.var 7) (.var 8))
  (.seq (.expr (.pop1 (.var 6) (.var 7)))
  (.cont))) (.nil))
  (.seq (.asgT [10,11] (.tup (.acons (.call f_powers_quotient (.acons (.var 7) (.acons (.idx (.idx (.var 3) (.var 9)) (.lit (.int 0))) (.anil)))) (.acons (.call f_rdiv (.acons (.var 8) (.acons (.idx (.idx (.var 3) (.var 9)) (.lit (.int 1))) (.anil)))) (.anil)))))
  (.seq (.expr (.call f_add_term (.acons (.idx (.var 4) (.var 9)) (.acons (.var 10) (.acons (.var 11) (.anil))))))
  (.asg 6 (.call f_mvsub (.acons (.var 6) (.acons (.call f_mvshift (.acons (.idx (.var 1) (.var 9)) (.acons (.var 10) (.acons (.var 11) (.anil))))) (.anil)))))))))))
  (.ret (.tup (.acons (.var 4) (.acons (.var 5) (.anil))))))))
def b_mvexact:XS:=
  .seq (.ifs (.cmp .eq (.len (.var 1)) (.lit (.int 0))) (.ret (.lit .none)) (.nil))
  (.seq (.asgT [2,3] (.call f_mvdivide (.acons (.var 0) (.acons (.lst (.ldisp (.acons (.var 1) (.anil)))) (.acons (.lit (.str (Str.ofString "lex"))) (.anil))))))
  (.ret (.ite (.cmp .eq (.len (.var 3)) (.lit (.int 0))) (.idx (.var 2) (.lit (.int 0))) (.lit .none))))
def b_zmul:XS:=
  .seq (.ifs (.or (.cmp .eq (.len (.var 0)) (.lit (.int 0))) (.cmp .eq (.len (.var 1)) (.lit (.int 0)))) (.ret (.lst (.ldisp (.anil)))) (.nil))
  (.seq (.asg 2 (.rep (.lit (.int 0)) (.bin .sub (.bin .add (.len (.var 0)) (.len (.var 1))) (.lit (.int 1)))))
  (.seq (.for_ [3,4] true (.ienum (.var 0)) (.ifs (.cmp .ne (.var 4) (.lit (.int 0))) (.for_ [5,6] true (.ienum (.var 1)) (.aug (.var 2) (.bin .add (.var 3) (.var 5)) .add (.bin .mul (.var 4) (.var 6)))) (.nil)))
  (.ret (.var 2))))
def b_whole_form:XS:=
  .seq (.ifs (.cmp .eq (.len (.var 0)) (.lit (.int 0))) (.ret (.tup (.acons (.lit (.tup [.int 0,.int 1])) (.acons (.dict (.anil)) (.anil))))) (.nil))
  (.seq (.asgT [1,2] (.tup (.acons (.lit (.int 1)) (.acons (.lit (.int 0)) (.anil)))))
  (.seq (.for_ [3] false (.ix (.var 0)) (.asg 1 (.bin .mul (.bin .fdiv (.var 1) (.call f_gcd (.acons (.var 1) (.acons (.idx (.idx (.var 0) (.var 3)) (.lit (.int 1))) (.anil))))) (.idx (.idx (.var 0) (.var 3)) (.lit (.int 1))))))
  (.seq (.for_ [3] false (.ix (.var 0)) (.asg 2 (.call f_gcd (.acons (.var 2) (.acons (.idx (.call f_rmul (.acons (.idx (.var 0) (.var 3)) (.acons (.tup (.acons (.var 1) (.acons (.lit (.int 1)) (.anil)))) (.anil)))) (.lit (.int 0))) (.anil))))))
  (.seq (.asg 4 (.call f_rat (.acons (.ite (.cmp .gt (.idx (.idx (.call f_mvlead (.acons (.var 0) (.acons (.lit (.str (Str.ofString "lex"))) (.anil)))) (.lit (.int 1))) (.lit (.int 0))) (.lit (.int 0))) (.var 2) (.neg (.var 2))) (.acons (.var 1) (.anil)))))
  (.ret (.tup (.acons (.var 4) (.acons (.call f_mvscale (.acons (.var 0) (.acons (.call f_rinv (.acons (.var 4) (.anil))) (.anil)))) (.anil)))))))))
def b_is_number_form:XS:=
  .ret (.cmp .eq (.lenOf (.lcomp (.var 1) [1] false (.ix (.var 0)) (some (.cmp .gt (.sum (.var 1)) (.lit (.int 0)))))) (.lit (.int 0)))
def b_flattened:XS:=
  .seq (.asg 2 (.lit (.int 0)))
  (.seq (.for_ [3] false (.ix (.var 0)) (.asg 2 (.max2 (.var 2) (.bin .add (.bin .add (.idx (.var 3) (.lit (.int 0))) (.bin .mul (.var 1) (.idx (.var 3) (.lit (.int 1))))) (.lit (.int 1))))))
  (.seq (.asg 4 (.rep (.lit (.int 0)) (.var 2)))
  (.seq (.for_ [3] false (.ix (.var 0)) (.aug (.var 4) (.bin .add (.idx (.var 3) (.lit (.int 0))) (.bin .mul (.var 1) (.idx (.var 3) (.lit (.int 1))))) .add (.idx (.idx (.var 0) (.var 3)) (.lit (.int 0)))))
  (.ret (.var 4)))))
def b_unfolded:XS:=
  .seq (.asg 2 (.dict (.anil)))
  (.seq (.for_ [3,4] true (.ienum (.var 0)) (.ifs (.cmp .ne (.var 4) (.lit (.int 0))) (.set (.var 2) (.tup (.acons (.bin .mod (.var 3) (.var 1)) (.acons (.bin .fdiv (.var 3) (.var 1)) (.anil)))) (.tup (.acons (.var 4) (.acons (.lit (.int 1)) (.anil))))) (.nil)))
  (.ret (.var 2)))
def b_lots_of:XS:=
  .seq (.ifs (.cmp .eq (.var 1) (.lit (.int 0))) (.ret (.lst (.ldisp (.acons (.tup (.anil)) (.anil))))) (.nil))
  (.seq (.asg 2 (.lst (.ldisp (.anil))))
  (.seq (.for_ [3] false (.irange (.bin .sub (.var 1) (.lit (.int 1))) (.var 0)) (.expr (.extend (.var 2) (.lcomp (.bin .add (.var 4) (.tup (.acons (.var 3) (.anil)))) [4] false (.ix (.call f_lots_of (.acons (.var 3) (.acons (.bin .sub (.var 1) (.lit (.int 1))) (.anil))))) none))))
  (.ret (.var 2))))
def b_candidate_of:XS:=
  .seq (.asg 3 (.lst (.ldisp (.acons (.lit (.int 1)) (.anil)))))
  (.seq (.for_ [4] false (.ix (.var 1)) (.asg 3 (.call f_zmul (.acons (.var 3) (.acons (.idx (.var 0) (.var 4)) (.anil))))))
  (.ret (.idx (.call f_whole_form (.acons (.call f_unfolded (.acons (.var 3) (.acons (.var 2) (.anil)))) (.anil))) (.lit (.int 1)))))
def b_first_hit:XS:=
  .seq (.for_ [4] false (.ix (.call f_lots_of (.acons (.len (.var 1)) (.acons (.var 2) (.anil))))) (.seq (.asg 5 (.call f_candidate_of (.acons (.var 1) (.acons (.var 4) (.acons (.var 3) (.anil))))))
  (.ifs (.not (.call f_is_number_form (.acons (.var 5) (.anil)))) (.seq (.asg 6 (.call f_mvexact (.acons (.var 0) (.acons (.var 5) (.anil)))))
  (.ifs (.notn (.var 6)) (.ret (.tup (.acons (.var 4) (.acons (.var 5) (.acons (.idx (.call f_whole_form (.acons (.var 6) (.anil))) (.lit (.int 1))) (.anil)))))) (.nil))) (.nil))))
  (.ret (.lit .none))
def b_sorted_forms:XS:=
  .seq (.asg 1 (.lst (.lcomp (.tup (.acons (.len (.var 3)) (.acons (.sortItems (.var 3)) (.acons (.var 2) (.anil))))) [2,3] true (.ienum (.var 0)) none)))
  (.seq (.expr (.sort (.var 1)))
  (.ret (.lst (.lcomp (.idx (.var 0) (.var 4)) [2,3,4] true (.ix (.var 1)) none))))
def b_multiplied_back:XS:=
  .seq (.asg 2 (.ite (.cmp .ne (.var 0) (.lit (.tup [.int 0,.int 1]))) (.dict (.acons (.tup (.acons (.lit (.int 0)) (.acons (.lit (.int 0)) (.anil)))) (.acons (.var 0) (.anil)))) (.dict (.anil))))
  (.seq (.for_ [3,4] true (.ix (.var 1)) (.for_ [5] false (.irange (.lit (.int 0)) (.var 4)) (.asg 2 (.call f_product_of_forms (.acons (.var 2) (.acons (.var 3) (.anil)))))))
  (.ret (.var 2)))
def b_product_of_forms:XS:=
  .seq (.asg 2 (.dict (.anil)))
  (.seq (.for_ [3] false (.ix (.var 0)) (.for_ [4] false (.ix (.var 1)) (.seq (.asg 5 (.tup (.acons (.bin .add (.idx (.var 3) (.lit (.int 0))) (.idx (.var 4) (.lit (.int 0)))) (.acons (.bin .add (.idx (.var 3) (.lit (.int 1))) (.idx (.var 4) (.lit (.int 1)))) (.anil)))))
  (.seq (.asg 6 (.call f_rmul (.acons (.idx (.var 0) (.var 3)) (.acons (.idx (.var 1) (.var 4)) (.anil)))))
  (.seq (.asg 7 (.get2 (.var 2) (.var 5) (.lit (.tup [.int 0,.int 1]))))
  (.set (.var 2) (.var 5) (.call f_rat (.acons (.bin .add (.bin .mul (.idx (.var 7) (.lit (.int 0))) (.idx (.var 6) (.lit (.int 1)))) (.bin .mul (.idx (.var 6) (.lit (.int 0))) (.idx (.var 7) (.lit (.int 1))))) (.acons (.bin .mul (.idx (.var 7) (.lit (.int 1))) (.idx (.var 6) (.lit (.int 1)))) (.anil))))))))))
  (.ret (.dcomp (.var 8) (.idx (.var 2) (.var 8)) [8] false (.ix (.var 2)) (some (.cmp .ne (.idx (.var 2) (.var 8)) (.lit (.tup [.int 0,.int 1])))))))
def b_law_take:XS:=
  .seq (.set (.var 0) (.lit (.int 1)) (.bin .add (.idx (.var 0) (.lit (.int 1))) (.lit (.int 1))))
  (.seq (.asg 2 (.ite (.cmp .gt (.len (.idx (.var 0) (.lit (.int 0)))) (.lit (.int 0))) (.popAt (.idx (.var 0) (.lit (.int 0))) (.lit (.int 0))) (.bin .add (.bin .mul (.lit (.int 5)) (.idx (.var 0) (.lit (.int 1)))) (.bin .fdiv (.idx (.var 0) (.lit (.int 1))) (.lit (.int 2))))))
  (.ret (.bin .mod (.var 2) (.var 1))))
def b_law_form:XS:=
  .seq (.asg 1 (.bin .sub (.call f_law_take (.acons (.var 0) (.acons (.lit (.int 5)) (.anil)))) (.lit (.int 2))))
  (.seq (.ifs (.cmp .eq (.call f_law_take (.acons (.var 0) (.acons (.lit (.int 3)) (.anil)))) (.lit (.int 1))) (.ret (.dict (.acons (.tup (.acons (.lit (.int 1)) (.acons (.lit (.int 1)) (.anil)))) (.acons (.tup (.acons (.lit (.int 1)) (.acons (.lit (.int 1)) (.anil)))) (.acons (.tup (.acons (.lit (.int 0)) (.acons (.lit (.int 0)) (.anil)))) (.acons (.tup (.acons (.ite (.cmp .ne (.var 1) (.lit (.int 0))) (.var 1) (.lit (.int 3))) (.acons (.lit (.int 1)) (.anil)))) (.anil))))))) (.nil))
  (.seq (.asg 2 (.dict (.acons (.tup (.acons (.lit (.int 1)) (.acons (.lit (.int 0)) (.anil)))) (.acons (.tup (.acons (.lit (.int 1)) (.acons (.lit (.int 1)) (.anil)))) (.anil)))))
  (.seq (.for_ [3,4] true (.ix (.tup (.acons (.tup (.acons (.tup (.acons (.lit (.int 0)) (.acons (.lit (.int 1)) (.anil)))) (.acons (.bin .sub (.call f_law_take (.acons (.var 0) (.acons (.lit (.int 4)) (.anil)))) (.lit (.int 1))) (.anil)))) (.acons (.tup (.acons (.tup (.acons (.lit (.int 0)) (.acons (.lit (.int 0)) (.anil)))) (.acons (.var 1) (.anil)))) (.anil))))) (.ifs (.cmp .ne (.var 4) (.lit (.int 0))) (.set (.var 2) (.var 3) (.tup (.acons (.var 4) (.acons (.lit (.int 1)) (.anil))))) (.nil)))
  (.ret (.var 2)))))
def b_law_product:XS:=
  .seq (.asg 1 (.dict (.acons (.tup (.acons (.lit (.int 0)) (.acons (.lit (.int 0)) (.anil)))) (.acons (.lit (.int 1)) (.anil)))))
  (.seq (.for_ [2] false (.ix (.var 0)) (.seq (.asg 3 (.dict (.anil)))
  (.seq (.for_ [4] false (.ix (.var 1)) (.for_ [5] false (.ix (.var 2)) (.seq (.asg 6 (.tup (.acons (.bin .add (.idx (.var 4) (.lit (.int 0))) (.idx (.var 5) (.lit (.int 0)))) (.acons (.bin .add (.idx (.var 4) (.lit (.int 1))) (.idx (.var 5) (.lit (.int 1)))) (.anil)))))
  (.set (.var 3) (.var 6) (.bin .add (.get2 (.var 3) (.var 6) (.lit (.int 0))) (.bin .mul (.idx (.var 1) (.var 4)) (.idx (.idx (.var 2) (.var 5)) (.lit (.int 0)))))))))
  (.asg 1 (.var 3)))))
  (.ret (.dictPairs (.lcomp (.tup (.acons (.var 7) (.acons (.tup (.acons (.idx (.var 1) (.var 7)) (.acons (.lit (.int 1)) (.anil)))) (.anil)))) [7] false (.ix (.var 1)) (some (.cmp .ne (.idx (.var 1) (.var 7)) (.lit (.int 0))))))))
def b_law_lots_right:XS:=
  .seq (.asg 2 (.lst (.ldisp (.anil))))
  (.seq (.for_ [3] false (.irange (.lit (.int 0)) (.bin .pow (.lit (.int 2)) (.var 0))) (.seq (.asg 4 (.tupOf (.lcomp (.var 6) [6] false (.irange (.lit (.int 0)) (.var 0)) (some (.cmp .eq (.bin .mod (.bin .fdiv (.var 3) (.bin .pow (.lit (.int 2)) (.var 6))) (.lit (.int 2))) (.lit (.int 1)))))))
  (.ifs (.cmp .eq (.len (.var 4)) (.var 1)) (.expr (.append (.var 2) (.var 4))) (.nil))))
  (.seq (.asg 5 (.call f_lots_of (.acons (.var 0) (.acons (.var 1) (.anil)))))
  (.ret (.and (.cmp .eq (.sorted (.var 5)) (.sorted (.var 2))) (.cmp .eq (.len (.var 5)) (.len (.var 2)))))))
def b_law_flat_right:XS:=
  .seq (.asg 2 (.call f_flattened (.acons (.var 0) (.acons (.var 1) (.anil)))))
  (.seq (.asg 3 (.rep (.lit (.int 0)) (.bin .add (.maxOf (.lcomp (.bin .add (.idx (.var 5) (.lit (.int 0))) (.bin .mul (.var 1) (.idx (.var 5) (.lit (.int 1))))) [5] false (.ix (.var 0)) none)) (.lit (.int 1)))))
  (.seq (.for_ [4] false (.ix (.var 0)) (.set (.var 3) (.bin .add (.idx (.var 4) (.lit (.int 0))) (.bin .mul (.var 1) (.idx (.var 4) (.lit (.int 1))))) (.idx (.idx (.var 0) (.var 4)) (.lit (.int 0)))))
  (.ret (.and (.cmp .eq (.var 2) (.var 3)) (.and (.cmp .eq (.call f_unfolded (.acons (.var 2) (.acons (.var 1) (.anil)))) (.var 0)) (.cmp .eq (.call f_unfolded (.acons (.lst (.ldisp (.anil))) (.acons (.var 1) (.anil)))) (.dict (.anil))))))))
def b_law:XS:=
  .seq (.asg 1 (.lst (.ldisp (.acons (.listOf (.lsl (.var 0) none (some 30))) (.acons (.lit (.int 0)) (.anil))))))
  (.seq (.asg 2 (.lst (.lcomp (.call f_law_form (.acons (.var 1) (.anil))) [19] false (.irange (.lit (.int 0)) (.bin .add (.lit (.int 1)) (.call f_law_take (.acons (.var 1) (.acons (.lit (.int 3)) (.anil)))))) none)))
  (.seq (.asgT [3,4] (.tup (.acons (.call f_law_take (.acons (.var 1) (.acons (.lit (.int 6)) (.anil)))) (.acons (.call f_law_take (.acons (.var 1) (.acons (.lit (.int 4)) (.anil)))) (.anil)))))
  (.seq (.ifs (.or (.not (.call f_law_lots_right (.acons (.var 3) (.acons (.var 4) (.anil))))) (.or (.not (.call f_law_lots_right (.acons (.len (.var 2)) (.acons (.lit (.int 1)) (.anil))))) (.not (.call f_law_lots_right (.acons (.lit (.int 3)) (.acons (.lit (.int 0)) (.anil))))))) (.ret (.lit (.bool false))) (.nil))
  (.seq (.asg 5 (.bin .add (.bin .add (.len (.var 2)) (.lit (.int 1))) (.call f_law_take (.acons (.var 1) (.acons (.lit (.int 2)) (.anil))))))
  (.seq (.asgT [6,7,8] (.tup (.acons (.call f_law_product (.acons (.var 2) (.anil))) (.acons (.lst (.ldisp (.anil))) (.acons (.listOf (.lofx (.var 2))) (.anil))))))
  (.seq (.whl (.neNil (.var 8)) (.expr (.append (.var 7) (.popAt (.var 8) (.call f_law_take (.acons (.var 1) (.acons (.len (.var 8)) (.anil))))))))
  (.seq (.ifs (.neNilL (.lcomp (.var 19) [19] false (.ix (.bin .add (.var 2) (.lst (.ldisp (.acons (.var 6) (.anil)))))) (some (.not (.call f_law_flat_right (.acons (.var 19) (.acons (.var 5) (.anil)))))))) (.ret (.lit (.bool false))) (.nil))
  (.seq (.asg 9 (.idx (.lst (.ldisp (.acons (.lit (.int 1)) (.acons (.lit (.int 2)) (.acons (.neg (.lit (.int 3))) (.anil)))))) (.call f_law_take (.acons (.var 1) (.acons (.lit (.int 3)) (.anil))))))
  (.seq (.asg 10 (.lst (.lcomp (.lst (.lcomp (.bin .mul (.var 9) (.var 20)) [20] false (.ix (.call f_flattened (.acons (.var 19) (.acons (.var 5) (.anil))))) none)) [19] false (.ix (.var 7)) none)))
  (.seq (.for_ [11] false (.ix (.bin .add (.call f_lots_of (.acons (.len (.var 7)) (.acons (.lit (.int 1)) (.anil)))) (.call f_lots_of (.acons (.len (.var 7)) (.acons (.lit (.int 2)) (.anil)))))) (.ifs (.cmp .ne (.call f_candidate_of (.acons (.var 10) (.acons (.var 11) (.acons (.var 5) (.anil))))) (.call f_law_product (.acons (.lst (.lcomp (.idx (.var 7) (.var 19)) [19] false (.ix (.var 11)) none)) (.anil)))) (.ret (.lit (.bool false))) (.nil)))
  (.seq (.asg 12 (.call f_first_hit (.acons (.var 6) (.acons (.var 10) (.acons (.lit (.int 1)) (.acons (.var 5) (.anil)))))))
  (.seq (.ifs (.or (.isn (.var 12)) (.or (.cmp .ne (.idx (.var 12) (.lit (.int 0))) (.tup (.acons (.lit (.int 0)) (.anil)))) (.or (.cmp .ne (.idx (.var 12) (.lit (.int 1))) (.idx (.var 7) (.lit (.int 0)))) (.cmp .ne (.idx (.var 12) (.lit (.int 2))) (.call f_law_product (.acons (.lst (.lsl (.var 7) (some 1) none)) (.anil))))))) (.ret (.lit (.bool false))) (.nil))
  (.seq (.ifs (.notn (.call f_first_hit (.acons (.dict (.acons (.tup (.acons (.lit (.int 0)) (.acons (.lit (.int 2)) (.anil)))) (.acons (.tup (.acons (.lit (.int 1)) (.acons (.lit (.int 1)) (.anil)))) (.acons (.tup (.acons (.lit (.int 0)) (.acons (.lit (.int 0)) (.anil)))) (.acons (.tup (.acons (.lit (.int 7)) (.acons (.lit (.int 1)) (.anil)))) (.anil)))))) (.acons (.var 10) (.acons (.lit (.int 1)) (.acons (.var 5) (.anil))))))) (.ret (.lit (.bool false))) (.nil))
  (.seq (.ifs (.notn (.call f_first_hit (.acons (.var 6) (.acons (.lst (.ldisp (.acons (.lst (.ldisp (.acons (.lit (.int 5)) (.anil)))) (.anil)))) (.acons (.lit (.int 1)) (.acons (.var 5) (.anil))))))) (.ret (.lit (.bool false))) (.nil))
  (.seq (.ifs (.or (.cmp .ne (.call f_sorted_forms (.acons (.var 7) (.anil))) (.call f_sorted_forms (.acons (.var 2) (.anil)))) (.cmp .ne (.len (.call f_sorted_forms (.acons (.var 7) (.anil)))) (.len (.var 2)))) (.ret (.lit (.bool false))) (.nil))
  (.seq (.ifs (.neNilL (.lcomp (.var 19) [19] false (.ix (.var 2)) (some (.cmp .notin (.var 19) (.call f_sorted_forms (.acons (.var 7) (.anil))))))) (.ret (.lit (.bool false))) (.nil))
  (.seq (.asgT [13,14] (.tup (.acons (.call f_rat (.acons (.idx (.lst (.ldisp (.acons (.lit (.int 1)) (.acons (.lit (.int 2)) (.acons (.neg (.lit (.int 3))) (.acons (.lit (.int 5)) (.anil))))))) (.call f_law_take (.acons (.var 1) (.acons (.lit (.int 4)) (.anil))))) (.acons (.bin .add (.lit (.int 1)) (.call f_law_take (.acons (.var 1) (.acons (.lit (.int 3)) (.anil))))) (.anil)))) (.acons (.bin .add (.lit (.int 1)) (.call f_law_take (.acons (.var 1) (.acons (.lit (.int 2)) (.anil))))) (.anil)))))
  (.seq (.asg 15 (.call f_multiplied_back (.acons (.var 13) (.acons (.bin .add (.lst (.ldisp (.acons (.tup (.acons (.idx (.var 2) (.lit (.int 0))) (.acons (.var 14) (.anil)))) (.anil)))) (.lst (.lcomp (.tup (.acons (.var 19) (.acons (.lit (.int 1)) (.anil)))) [19] false (.ix (.lst (.lsl (.var 2) (some 1) none))) none))) (.anil)))))
  (.seq (.asg 16 (.call f_law_product (.acons (.bin .add (.var 2) (.rep (.idx (.var 2) (.lit (.int 0))) (.bin .sub (.var 14) (.lit (.int 1))))) (.anil))))
  (.seq (.asg 17 (.dictPairs (.lcomp (.tup (.acons (.var 19) (.acons (.call f_rat (.acons (.bin .mul (.idx (.idx (.var 16) (.var 19)) (.lit (.int 0))) (.idx (.var 13) (.lit (.int 0)))) (.acons (.idx (.var 13) (.lit (.int 1))) (.anil)))) (.anil)))) [19] false (.ix (.var 16)) none)))
  (.seq (.ifs (.or (.cmp .ne (.var 15) (.var 17)) (.or (.cmp .ne (.call f_whole_form (.acons (.var 15) (.anil))) (.tup (.acons (.var 13) (.acons (.var 16) (.anil))))) (.cmp .ne (.call f_whole_form (.acons (.dict (.anil)) (.anil))) (.tup (.acons (.tup (.acons (.lit (.int 0)) (.acons (.lit (.int 1)) (.anil)))) (.acons (.dict (.anil)) (.anil))))))) (.ret (.lit (.bool false))) (.nil))
  (.seq (.ifs (.or (.cmp .ne (.call f_product_of_forms (.acons (.var 16) (.acons (.dict (.acons (.tup (.acons (.lit (.int 0)) (.acons (.lit (.int 0)) (.anil)))) (.acons (.var 13) (.anil)))) (.anil)))) (.var 17)) (.cmp .ne (.call f_product_of_forms (.acons (.var 16) (.acons (.dict (.anil)) (.anil)))) (.dict (.anil)))) (.ret (.lit (.bool false))) (.nil))
  (.seq (.ifs (.cmp .ne (.call f_product_of_forms (.acons (.var 17) (.acons (.var 6) (.anil)))) (.call f_product_of_forms (.acons (.var 6) (.acons (.var 17) (.anil))))) (.ret (.lit (.bool false))) (.nil))
  (.seq (.asg 18 (.tup (.acons (.dict (.anil)) (.acons (.dict (.acons (.tup (.acons (.lit (.int 0)) (.acons (.lit (.int 0)) (.anil)))) (.acons (.var 13) (.anil)))) (.acons (.var 16) (.acons (.dict (.acons (.tup (.acons (.lit (.int 0)) (.acons (.lit (.int 1)) (.anil)))) (.acons (.tup (.acons (.lit (.int 1)) (.acons (.lit (.int 1)) (.anil)))) (.anil)))) (.anil)))))))
  (.ret (.cmp .eq (.lst (.lcomp (.call f_is_number_form (.acons (.var 19) (.anil))) [19] false (.ix (.var 18)) none)) (.lst (.ldisp (.acons (.lit (.bool true)) (.acons (.lit (.bool true)) (.acons (.lit (.bool false)) (.acons (.lit (.bool false)) (.anil)))))))))))))))))))))))))))))))))
def FT:List Fn:=[⟨2,2,b_gcd⟩,
 ⟨2,3,b_order_key⟩,
 ⟨2,4,b_powers_product⟩,
 ⟨2,4,b_powers_divide⟩,
 ⟨2,4,b_powers_quotient⟩,
 ⟨2,3,b_rat⟩,
 ⟨2,2,b_radd⟩,
 ⟨2,2,b_rmul⟩,
 ⟨2,2,b_rdiv⟩,
 ⟨1,1,b_rneg⟩,
 ⟨1,1,b_rinv⟩,
 ⟨2,4,b_mvadd⟩,
 ⟨3,4,b_add_term⟩,
 ⟨1,2,b_mvneg⟩,
 ⟨2,2,b_mvsub⟩,
 ⟨2,3,b_mvscale⟩,
 ⟨3,4,b_mvshift⟩,
 ⟨2,6,b_mvlead⟩,
 ⟨2,4,b_first_divisor⟩,
 ⟨3,13,b_mvdivide⟩,
 ⟨2,4,b_mvexact⟩,
 ⟨2,7,b_zmul⟩,
 ⟨1,5,b_whole_form⟩,
 ⟨1,2,b_is_number_form⟩,
 ⟨2,5,b_flattened⟩,
 ⟨2,5,b_unfolded⟩,
 ⟨2,5,b_lots_of⟩,
 ⟨3,5,b_candidate_of⟩,
 ⟨4,7,b_first_hit⟩,
 ⟨1,5,b_sorted_forms⟩,
 ⟨2,6,b_multiplied_back⟩,
 ⟨2,9,b_product_of_forms⟩,
 ⟨2,3,b_law_take⟩,
 ⟨1,5,b_law_form⟩,
 ⟨1,8,b_law_product⟩,
 ⟨2,7,b_law_lots_right⟩,
 ⟨2,6,b_law_flat_right⟩,
 ⟨1,21,b_law⟩]
end
section
section
variable (H₀:Heap)
mutual
def Rep (h:Heap) (ρ:List Addr):Value→D→Prop
 |v,.none=>v = .none
 |v,.bool b=>v = .bool b
 |v,.int i=>∃t,v = .int i t
 |v,.str x=>∃t,v = .str x t
 |v,.tup ds=>∃a vs ep,v = .ref a∧h.get? a=some (seqObj "tuple" vs ep)∧Reps h ρ vs.toList ds
 |v,.ref n=>∃a,v = .ref a∧ρ[n]?=some a
 |v,.fro ds=>∃a o vs ep,v = .ref a∧H₀.get? a=some o∧o.cls = .type "list"∧o.data = .seq vs ep∧Reps h ρ vs.toList ds
def Reps (h:Heap) (ρ:List Addr):List Value→List D→Prop
 | [],[]=>True
 |v::vs,d::ds=>Rep h ρ v d∧Reps h ρ vs ds
 |_,_=>False
end
end
abbrev kInt (prog:Program) (w:World):=intKind prog w
abbrev kTup (prog:Program) (w:World):HeapKind prog w (List Int):=tupleKind (intKind prog w)
section
variable {prog:Program} {w:World} {H₀:Heap}
theorem Reps.length {h:Heap} {ρ:List Addr}:∀{vs:List Value} {ds:List D},Reps H₀ h ρ vs ds→vs.length=ds.length
 | [],[],_=>rfl
 |_::_,_::_,h=>by
  simp only[Reps] at h
  simp[Reps.length h.2]
 | [],_::_,h=>by simp[Reps] at h
 |_::_,[],h=>by simp[Reps] at h
theorem Reps.append {h:Heap} {ρ:List Addr}:∀{vs:List Value} {ds:List D} {us:List Value} {es:List D},Reps H₀ h ρ vs ds→Reps H₀ h ρ us es→Reps H₀ h ρ (vs++us) (ds++es)
 | [],[],_,_,_,y=>y
 |_::_,_::_,_,_,x,y=>by
  simp only[Reps,List.cons_append] at x ⊢
  exact⟨x.1,x.2.append y⟩
 | [],_::_,_,_,x,_=>by simp[Reps] at x
 |_::_,[],_,_,x,_=>by simp[Reps] at x
theorem Reps.get {h:Heap} {ρ:List Addr}:∀{vs:List Value} {ds:List D} {i:Nat} {d:D},Reps H₀ h ρ vs ds→ds[i]?=some d→∃v,vs[i]?=some v∧Rep H₀ h ρ v d
 | [],[],_,_,_,e=>by simp at e
 |v::vs,d::ds,i,d',x,e=>by
  simp only[Reps] at x
  cases i with
  |zero=>
   simp only[List.getElem?_cons_zero,Option.some.injEq] at e
   subst e
   exact⟨v,by simp,x.1⟩
  |succ i=>
   simp only[List.getElem?_cons_succ] at e ⊢
   exact x.2.get e
 | [],_::_,_,_,x,_=>by simp[Reps] at x
 |_::_,[],_,_,x,_=>by simp[Reps] at x
theorem Reps.set {h:Heap} {ρ:List Addr}:∀{vs:List Value} {ds:List D} (i:Nat) {v:Value} {d:D},Reps H₀ h ρ vs ds→Rep H₀ h ρ v d→Reps H₀ h ρ (vs.set i v) (ds.set i d)
 | [],[],_,_,_,x,_=>x
 |_::_,_::_,i,_,_,x,y=>by
  simp only[Reps] at x
  cases i with
  |zero=>simp only[List.set_cons_zero,Reps];exact⟨y,x.2⟩
  |succ i=>simp only[List.set_cons_succ,Reps];exact⟨x.1,x.2.set i y⟩
 | [],_::_,_,_,_,x,_=>by simp[Reps] at x
 |_::_,[],_,_,_,x,_=>by simp[Reps] at x
theorem Reps.eraseIdx {h:Heap} {ρ:List Addr}:∀{vs:List Value} {ds:List D} (i:Nat),Reps H₀ h ρ vs ds→Reps H₀ h ρ (vs.eraseIdx i) (ds.eraseIdx i)
 | [],[],_,x=>x
 |_::_,_::_,i,x=>by
  simp only[Reps] at x
  cases i with
  |zero=>simp only[List.eraseIdx_cons_zero];exact x.2
  |succ i=>simp only[List.eraseIdx_cons_succ,Reps];exact⟨x.1,x.2.eraseIdx i⟩
 | [],_::_,_,x=>by simp[Reps] at x
 |_::_,[],_,x=>by simp[Reps] at x
theorem Reps.take {h:Heap} {ρ:List Addr}:∀{vs:List Value} {ds:List D} (n:Nat),Reps H₀ h ρ vs ds→Reps H₀ h ρ (vs.take n) (ds.take n)
 | [],[],_,x=>by simpa using x
 |_::_,_::_,n,x=>by
  simp only[Reps] at x
  cases n with
  |zero=>simp[Reps]
  |succ n=>simp only[List.take_succ_cons,Reps];exact⟨x.1,x.2.take n⟩
 | [],_::_,_,x=>by simp[Reps] at x
 |_::_,[],_,x=>by simp[Reps] at x
theorem Reps.drop {h:Heap} {ρ:List Addr}:∀{vs:List Value} {ds:List D} (n:Nat),Reps H₀ h ρ vs ds→Reps H₀ h ρ (vs.drop n) (ds.drop n)
 | [],[],_,x=>by simpa using x
 |_::_,_::_,n,x=>by
  cases n with
  |zero=>exact x
  |succ n=>
   simp only[Reps] at x
   simp only[List.drop_succ_cons];exact x.2.drop n
 | [],_::_,_,x=>by simp[Reps] at x
 |_::_,[],_,x=>by simp[Reps] at x
theorem Reps.replicate {h:Heap} {ρ:List Addr} {v:Value} {d:D} (x:Rep H₀ h ρ v d):∀n:Nat,Reps H₀ h ρ (List.replicate n v) (List.replicate n d)
 |0=>by simp[Reps]
 |n+1=>by simp only[List.replicate_succ,Reps];exact⟨x,Reps.replicate x n⟩
def Keyed (H₀:Heap) (h:Heap) (ρ:List Addr) (xs:List (List Int×Addr×Value)):Prop:=∀y∈xs,Rep H₀ h ρ (.ref y.2.1) (keyD y.1)
def ObjRep (prog:Program) (w:World) (H₀:Heap) (h:Heap) (ρ:List Addr) (a:Addr):AO→Prop
 | .list ds _=>∃vs ep,h.get? a=some (seqObj "list" vs ep)∧Reps H₀ h ρ vs.toList ds
 | .dict es _=>∃xs:List (List Int×Addr×Value),h.DictOfH (kTup prog w) a xs∧xs.map (·.1)=es.map (·.1)∧Reps H₀ h ρ (xs.map (·.2.2)) (es.map (·.2))∧Keyed H₀ h ρ xs
structure SR (prog:Program) (w:World) (H₀:Heap) (ρ:List Addr) (σ:St) (h:Heap):Prop where
 keep:∀b o,H₀.get? b=some o→h.get? b=some o
 len:ρ.length=σ.length
 nd:ρ.Nodup
 new:∀a∈ρ,H₀.get? a=none
 objs:∀(i:Nat) (a:Addr) (o:AO),ρ[i]?=some a→σ[i]?=some o→ObjRep prog w H₀ h ρ a o
structure Grow (ρ:List Addr) (σ:St) (ρ':List Addr) (σ':St) (h h':Heap):Prop where
 pre:∃τ,ρ'=ρ++τ∧∀a∈τ,h.get? a=none
 ext:∀b o,h.get? b=some o→b∉ρ→h'.get? b=some o
 live:∀b o,h.get? b=some o→∃o',h'.get? b=some o'
 vers:∀(i:Nat) (o:AO),σ[i]?=some o→∃o',σ'[i]?=some o'∧o.ver≤o'.ver
 same:∀(i:Nat) (a:Addr) (o o':AO),ρ[i]?=some a→σ[i]?=some o→σ'[i]?=some o'→o.ver=o'.ver→h'.get? a=h.get? a
theorem Grow.refl (ρ:List Addr) (σ:St) (h:Heap):Grow ρ σ ρ σ h h:=⟨⟨[],by simp,by simp⟩,fun _ _ e _=>e,fun _ o e=>⟨o,e⟩,fun _ o e=>⟨o,e,Nat.le_refl _⟩,fun _ _ _ _ _ _ _ _=>rfl⟩
theorem Grow.trans {ρ ρ' ρ'':List Addr} {σ σ' σ'':St} {h h' h'':Heap} (x:Grow ρ σ ρ' σ' h h') (y:Grow ρ' σ' ρ'' σ'' h' h''):Grow ρ σ ρ'' σ'' h h'':=by
 obtain⟨τ,rfl,hτ⟩:=x.pre
 obtain⟨τ',rfl,hτ'⟩:=y.pre
 refine⟨⟨τ++τ',by simp,fun a ha=>?_⟩,fun b o e hb=>?_,fun b o e=>?_,fun i o e=>?_,fun i a o o'' ea eo eo'' hv=>?_⟩
 ·rcases List.mem_append.mp ha with ha|ha
  ·exact hτ a ha
  ·cases q:h.get? a with
   |none=>rfl
   |some o=>
    obtain⟨o',e⟩:=x.live a o q
    rw[hτ' a ha] at e;cases e
 ·refine y.ext b o (x.ext b o e hb) fun hm=>?_
  rcases List.mem_append.mp hm with hm|hm
  ·exact hb hm
  ·rw[hτ b hm] at e;cases e
 ·obtain⟨o',e'⟩:=x.live b o e
  exact y.live b o' e'
 ·obtain⟨o1,e1,l1⟩:=x.vers i o e
  obtain⟨o2,e2,l2⟩:=y.vers i o1 e1
  exact⟨o2,e2,Nat.le_trans l1 l2⟩
 ·obtain⟨o1,e1,l1⟩:=x.vers i o eo
  obtain⟨o2,e2,l2⟩:=y.vers i o1 e1
  rw[eo''] at e2
  cases e2
  have h1:=x.same i a o o1 ea eo e1 (by omega)
  have h2:=y.same i a o1 o'' (by rw[List.getElem?_append_left (List.getElem?_eq_some_iff.mp ea).1];exact ea) e1 eo'' (by omega)
  rw[h2,h1]
theorem Grow.keepsL {ρ:List Addr} {σ:St} {h h':Heap} (hl:∀a∈ρ,∃o,h.get? a=some o) (k:∀b o,h.get? b=some o→h'.get? b=some o):Grow ρ σ ρ σ h h':=
 ⟨⟨[],by simp,by simp⟩,fun b o e _=>k b o e,fun b o e=>⟨o,k b o e⟩,fun _ o e=>⟨o,e,Nat.le_refl _⟩,fun i a _ _ ea _ _ _=>by
  obtain⟨o,e⟩:=hl a (List.mem_of_getElem? ea)
  rw[e,k a o e]⟩
theorem Grow.get {ρ ρ':List Addr} {σ σ':St} {h h':Heap} (x:Grow ρ σ ρ' σ' h h') {n:Nat} {a:Addr} (e:ρ[n]?=some a):ρ'[n]?=some a:=by
 obtain⟨τ,rfl,_⟩:=x.pre
 rw[List.getElem?_append_left (List.getElem?_eq_some_iff.mp e).1];exact e
theorem ObjRep.is {h:Heap} {ρ:List Addr} {a:Addr} {o:AO} (x:ObjRep prog w H₀ h ρ a o):∃ob,h.get? a=some ob∧(ob.cls = .type "list"∨ob.cls = .type "dict"):=by
 cases o with
 |list ds _=>obtain⟨vs,ep,e,_⟩:=x;exact⟨_,e,.inl rfl⟩
 |dict es _=>obtain⟨xs,⟨o,es',ep,e,c,_⟩,_⟩:=x;exact⟨_,e,.inr c.1⟩
theorem SR.is {ρ:List Addr} {σ:St} {h:Heap} (x:SR prog w H₀ ρ σ h) {a:Addr} (ha:a∈ρ):∃ob,h.get? a=some ob∧(ob.cls = .type "list"∨ob.cls = .type "dict"):=by
 obtain⟨i,hi,rfl⟩:=List.getElem_of_mem ha
 exact(x.objs i _ (σ[i]'(by rw[←x.len];exact hi)) (List.getElem?_eq_getElem hi) (List.getElem?_eq_getElem _)).is
theorem SR.lt {ρ:List Addr} {σ:St} {h:Heap} (x:SR prog w H₀ ρ σ h) {a:Addr} (ha:a∈ρ):a<h.objs.size:=by
 obtain⟨ob,e,_⟩:=x.is ha
 exact Heap.lt_size e
theorem SR.tupNot {ρ:List Addr} {σ:St} {h:Heap} (x:SR prog w H₀ ρ σ h) {a:Addr} {vs:Array Value} {ep:Nat} (e:h.get? a=some (seqObj "tuple" vs ep)):a∉ρ:=fun ha=>by
 obtain⟨ob,e',hc⟩:=x.is ha
 rw[e] at e'
 cases e'
 rcases hc with hc|hc<;>simp at hc
def PreK (ρ ρ':List Addr):Prop:=∀(n:Nat) (a:Addr),ρ[n]?=some a→ρ'[n]?=some a
def TupKeep (h h':Heap):Prop:=∀a vs ep,h.get? a=some (seqObj "tuple" vs ep)→h'.get? a=some (seqObj "tuple" vs ep)
mutual
theorem Rep.mono {h h':Heap} {ρ ρ':List Addr} (k:TupKeep h h') (p:PreK ρ ρ'):∀{v:Value} (d:D),Rep H₀ h ρ v d→Rep H₀ h' ρ' v d
 |_,.none,x=>x
 |_,.bool _,x=>x
 |_,.int _,x=>x
 |_,.str _,x=>x
 |_,.tup ds,⟨a,vs,ep,e,g,r⟩=>⟨a,vs,ep,e,k a vs ep g,Reps.mono k p ds r⟩
 |_,.ref n,⟨a,e,g⟩=>⟨a,e,p n a g⟩
 |_,.fro ds,⟨a,o,vs,ep,e,g,c,dd,r⟩=>⟨a,o,vs,ep,e,g,c,dd,Reps.mono k p ds r⟩
theorem Reps.mono {h h':Heap} {ρ ρ':List Addr} (k:TupKeep h h') (p:PreK ρ ρ'):∀{vs:List Value} (ds:List D),Reps H₀ h ρ vs ds→Reps H₀ h' ρ' vs ds
 | [],[],x=>x
 |_::_,d::ds,x=>by
  simp only[Reps] at x ⊢
  exact⟨Rep.mono k p d x.1,Reps.mono k p ds x.2⟩
 | [],_::_,x=>by simp[Reps] at x
 |_::_,[],x=>by simp[Reps] at x
end
theorem Grow.keeps {ρ:List Addr} {σ:St} {h h':Heap} (x:SR prog w H₀ ρ σ h) (k:∀b o,h.get? b=some o→h'.get? b=some o):Grow ρ σ ρ σ h h':=
 Grow.keepsL (fun _ ha=>let ⟨o,e,_⟩:=x.is ha;⟨o,e⟩) k
theorem SR.tupKeep {ρ ρ':List Addr} {σ σ₀ σ':St} {h h':Heap} (x:SR prog w H₀ ρ σ h) (g:Grow ρ σ₀ ρ' σ' h h'):TupKeep h h':=fun _ _ _ e=>g.ext _ _ e (x.tupNot e)
theorem Rep.grow {ρ ρ':List Addr} {σ σ₀ σ':St} {h h':Heap} {v:Value} {d:D} (r:Rep H₀ h ρ v d) (x:SR prog w H₀ ρ σ h) (g:Grow ρ σ₀ ρ' σ' h h'):Rep H₀ h' ρ' v d:=
 Rep.mono (x.tupKeep g) (fun _ _ e=>g.get e) d r
theorem Reps.grow {ρ ρ':List Addr} {σ σ₀ σ':St} {h h':Heap} {vs:List Value} {ds:List D} (r:Reps H₀ h ρ vs ds) (x:SR prog w H₀ ρ σ h) (g:Grow ρ σ₀ ρ' σ' h h'):Reps H₀ h' ρ' vs ds:=
 Reps.mono (x.tupKeep g) (fun _ _ e=>g.get e) ds r
theorem isKey_keeps {h h':Heap} {ks:List Int} {a:Addr} (x:(kTup prog w).is h ks a) (k:∀o,h.get? a=some o→h'.get? a=some o):(kTup prog w).is h' ks a:=by
 obtain⟨o,items,n,ho,hc,hd,hi⟩:=x
 exact⟨o,items,n,k o ho,hc,hd,hi⟩
theorem isKey_notIn {ρ:List Addr} {σ:St} {h:Heap} (x:SR prog w H₀ ρ σ h) {ks:List Int} {a:Addr} (y:(kTup prog w).is h ks a):a∉ρ:=fun ha=>by
 obtain⟨ob,e,hc⟩:=x.is ha
 obtain⟨o,items,n,ho,hc',_⟩:=y
 rw[e] at ho
 cases ho
 rw[hc'] at hc
 rcases hc with hc|hc<;>simp at hc
theorem ObjRep.stay {ρ ρ':List Addr} {σ:St} {h h':Heap} {a:Addr} {o:AO} (r:ObjRep prog w H₀ h ρ a o) (x:SR prog w H₀ ρ σ h) (k:TupKeep h h') (p:PreK ρ ρ')
  (here:∀ob,h.get? a=some ob→h'.get? a=some ob) (other:∀b ob,b∉ρ→h.get? b=some ob→h'.get? b=some ob):ObjRep prog w H₀ h' ρ' a o:=by
 cases o with
 |list ds _=>
  obtain⟨vs,ep,e,r⟩:=r
  exact⟨vs,ep,here _ e,Reps.mono k p ds r⟩
 |dict es _=>
  obtain⟨xs,⟨o,es',ep,e,c,d,he,hk,hn⟩,hm,r,kr⟩:=r
  exact⟨xs,⟨o,es',ep,here _ e,c,d,he,fun y hy=>isKey_keeps (hk y hy) fun o' e'=>other _ o' (isKey_notIn x (hk y hy)) e',hn⟩,hm,Reps.mono k p _ r,fun y hy=>Rep.mono k p _ (kr y hy)⟩
theorem SR.keeps {ρ:List Addr} {σ:St} {h h':Heap} (x:SR prog w H₀ ρ σ h) (k:∀b o,h.get? b=some o→h'.get? b=some o):SR prog w H₀ ρ σ h' where
 keep:=fun b o e=>k b o (x.keep b o e)
 len:=x.len
 nd:=x.nd
 new:=x.new
 objs:=fun i a o e e'=>(x.objs i a o e e').stay x (fun _ _ _ e=>k _ _ e) (fun _ _ e=>e) (fun ob=>k a ob) (fun b ob _=>k b ob)
theorem SR.freshNot {ρ:List Addr} {σ:St} {h:Heap} (x:SR prog w H₀ ρ σ h) {a:Addr} (ha:h.get? a=none):a∉ρ:=fun hm=>by
 obtain⟨ob,e,_⟩:=x.is hm
 rw[ha] at e;cases e
theorem SR.freshBase {ρ:List Addr} {σ:St} {h:Heap} (x:SR prog w H₀ ρ σ h) {a:Addr} (ha:h.get? a=none):H₀.get? a=none:=by
 cases q:H₀.get? a with
 |none=>rfl
 |some o=>rw[x.keep a o q] at ha;cases ha
theorem SR.adopt {ρ:List Addr} {σ:St} {h:Heap} {a:Addr} {o:AO} (x:SR prog w H₀ ρ σ h) (ha:a∉ρ) (hl:H₀.get? a=none) (r:ObjRep prog w H₀ h (ρ++[a]) a o):SR prog w H₀ (ρ++[a]) (σ++[o]) h where
 keep:=x.keep
 len:=by simp[x.len]
 nd:=by
  rw[List.nodup_append]
  refine⟨x.nd,by simp,fun b hb c hc=>?_⟩
  simp only[List.mem_singleton] at hc
  subst hc
  exact fun e=>ha (e▸hb)
 new:=fun b hb=>by
  rcases List.mem_append.mp hb with hb|hb
  ·exact x.new b hb
  ·simp only[List.mem_singleton] at hb;subst hb;exact hl
 objs:=fun i b p e e'=>by
  by_cases hi:i<ρ.length
  ·rw[List.getElem?_append_left hi] at e
   rw[List.getElem?_append_left (by rw[←x.len];exact hi)] at e'
   exact(x.objs i b p e e').stay x (fun _ _ _ e=>e) (fun n c e=>by rw[List.getElem?_append_left (List.getElem?_eq_some_iff.mp e).1];exact e) (fun _ e=>e) (fun _ _ _ e=>e)
  ·have hi':i=ρ.length:=by
    have:=(List.getElem?_eq_some_iff.mp e).1
    simp at this;omega
   subst hi'
   rw[List.getElem?_append_right (Nat.le_refl _),Nat.sub_self] at e
   rw[x.len,List.getElem?_append_right (Nat.le_refl _),Nat.sub_self] at e'
   simp at e e'
   subst e;subst e'
   exact r
theorem Grow.adopt {ρ ρ':List Addr} {σ σ':St} {h h':Heap} {a:Addr} {ob:AO} (g:Grow ρ σ ρ' σ' h h') (ha:h.get? a=none):Grow ρ σ (ρ'++[a]) (σ'++[ob]) h h':=by
 obtain⟨τ,rfl,hτ⟩:=g.pre
 exact⟨⟨τ++[a],by simp,fun b hb=>by
  rcases List.mem_append.mp hb with hb|hb
  ·exact hτ b hb
  ·simp only[List.mem_singleton] at hb;subst hb;exact ha⟩,g.ext,g.live,fun i o e=>by
   obtain⟨o',e',l⟩:=g.vers i o e
   exact⟨o',by rw[List.getElem?_append_left (List.getElem?_eq_some_iff.mp e').1];exact e',l⟩,fun i b o o' ea eo eo' hv=>by
   obtain⟨o1,e1,_⟩:=g.vers i o eo
   rw[List.getElem?_append_left (List.getElem?_eq_some_iff.mp e1).1] at eo'
   exact g.same i b o o' ea eo eo' hv⟩
theorem SR.update {ρ:List Addr} {σ:St} {h h':Heap} {i:Nat} {a:Addr} {o o':AO} (x:SR prog w H₀ ρ σ h) (ei:ρ[i]?=some a) (_eo:σ[i]?=some o) (hs:Heap.SameBut a h h') (r:ObjRep prog w H₀ h' ρ a o'):SR prog w H₀ ρ (σ.set i o') h':=by
 have hia:a∈ρ:=List.mem_of_getElem? ei
 have hne:∀b,b≠a→∀ob,h.get? b=some ob→h'.get? b=some ob:=fun b hb ob e=>(hs.2 b hb).trans e
 have htk:TupKeep h h':=fun b vs ep e=>hne b (fun q=>x.tupNot e (q▸hia)) _ e
 refine⟨fun b ob e=>hne b (fun q=>?_) _ (x.keep b ob e),by simp[x.len],x.nd,x.new,fun j b p e e'=>?_⟩
 ·subst q
  rw[x.new b hia] at e;cases e
 ·by_cases hj:i=j
  ·subst hj
   rw[ei] at e;cases e
   rw[List.getElem?_set_self (by rw[←x.len];exact(List.getElem?_eq_some_iff.mp ei).1)] at e'
   cases e';exact r
  ·rw[List.getElem?_set_ne hj] at e'
   have hba:b≠a:=fun q=>hj ((List.getElem?_inj (List.getElem?_eq_some_iff.mp ei).1 x.nd).mp (by rw[ei,e,q]))
   exact(x.objs j b p e e').stay x htk (fun _ _ e=>e) (fun ob=>hne b hba ob) (fun c ob hc=>hne c (fun q=>hc (q▸hia)) ob)
theorem Grow.update {ρ:List Addr} {σ:St} {h h':Heap} {i:Nat} {a:Addr} {o':Obj} {p p':AO} (nd:ρ.Nodup) (ei:ρ[i]?=some a) (ep:σ[i]?=some p) (hv:p.ver<p'.ver) (hs:Heap.SameBut a h h') (e':h'.get? a=some o'):Grow ρ σ ρ (σ.set i p') h h':=
 have ha:=List.mem_of_getElem? ei
 ⟨⟨[],by simp,by simp⟩,fun b _ e hb=>(hs.2 b (fun q=>hb (q▸ha))).trans e,fun b o e=>by
  by_cases q:b=a
  ·subst q;exact⟨o',e'⟩
  ·exact⟨o,(hs.2 b q).trans e⟩,fun j o e=>by
  by_cases q:i=j
  ·subst q
   rw[ep] at e;cases e
   exact⟨p',List.getElem?_set_self (List.getElem?_eq_some_iff.mp ep).1,Nat.le_of_lt hv⟩
  ·exact⟨o,by rw[List.getElem?_set_ne q];exact e,Nat.le_refl _⟩,fun j b o o1 ej eo eo1 hvv=>by
  by_cases q:i=j
  ·subst q
   rw[ep] at eo;cases eo
   rw[List.getElem?_set_self (List.getElem?_eq_some_iff.mp ep).1] at eo1
   cases eo1;omega
  ·have hba:b≠a:=fun z=>q ((List.getElem?_inj (List.getElem?_eq_some_iff.mp ei).1 nd).mp (by rw[ei,ej,z]))
   exact hs.2 b hba⟩
theorem ObjRep.here {h:Heap} {ρ:List Addr} {a:Addr} {o:AO} (r:ObjRep prog w H₀ h ρ a o):∃ob,h.get? a=some ob:=let ⟨ob,e,_⟩:=r.is;⟨ob,e⟩
theorem SameBut.tupKeep {ρ:List Addr} {σ:St} {h h':Heap} {a:Addr} (x:SR prog w H₀ ρ σ h) (ha:a∈ρ) (hs:Heap.SameBut a h h'):TupKeep h h':=
 fun b vs ep e=>(hs.2 b (fun q=>x.tupNot e (q▸ha))).trans e
theorem Reps.same {ρ:List Addr} {σ:St} {h h':Heap} {a:Addr} {vs:List Value} {ds:List D} (r:Reps H₀ h ρ vs ds) (x:SR prog w H₀ ρ σ h) (ha:a∈ρ) (hs:Heap.SameBut a h h'):Reps H₀ h' ρ vs ds:=
 Reps.mono (SameBut.tupKeep x ha hs) (fun _ _ e=>e) _ r
theorem Rep.same {ρ:List Addr} {σ:St} {h h':Heap} {a:Addr} {v:Value} {d:D} (r:Rep H₀ h ρ v d) (x:SR prog w H₀ ρ σ h) (ha:a∈ρ) (hs:Heap.SameBut a h h'):Rep H₀ h' ρ v d:=
 Rep.mono (SameBut.tupKeep x ha hs) (fun _ _ e=>e) _ r
end
end
section
section
variable {prog:Program} {w:World} {H₀:Heap} {A:Around} {E:Value→Shared→Prop} {s:Shared}
abbrev Post (prog:Program) (w:World) (H₀:Heap) (ρ:List Addr) (σ σ':St) (s:Shared) (d:D) (Q:Value→Shared→Prop):Prop:=
 ∀v ρ' h' tk',Grow ρ σ ρ' σ' s.heap h'→SR prog w H₀ ρ' σ' h'→Rep H₀ h' ρ' v d→Q v { s with heap:=h',toks:=tk' }
theorem Post.same {ρ:List Addr} {σ:St} {d:D} {Q:Value→Shared→Prop} (p:Post prog w H₀ ρ σ σ s d Q) (x:SR prog w H₀ ρ σ s.heap) {v:Value} (r:Rep H₀ s.heap ρ v d):Q v s:=
 p v ρ s.heap s.toks (Grow.refl _ _ _) x r
theorem Post.tok {ρ:List Addr} {σ:St} {d:D} {Q:Value→Shared→Prop} (p:Post prog w H₀ ρ σ σ s d Q) (x:SR prog w H₀ ρ σ s.heap) {v:Value} (tk:Nat) (r:Rep H₀ s.heap ρ v d):Q v { s with toks:=tk }:=
 p v ρ s.heap tk (Grow.refl _ _ _) x r
theorem Grow.push {ρ:List Addr} {σ:St} {h:Heap} (x:SR prog w H₀ ρ σ h) (o:Obj):Grow ρ σ ρ σ h (h.push o):=Grow.keeps x (fun _ _ e=>Heap.get?_push_of_some o e)
theorem SR.push {ρ:List Addr} {σ:St} {h:Heap} (x:SR prog w H₀ ρ σ h) (o:Obj):SR prog w H₀ ρ σ (h.push o):=x.keeps (fun _ _ e=>Heap.get?_push_of_some o e)
theorem size_none (h:Heap):h.get? h.objs.size=none:=by
 cases q:h.get? h.objs.size with
 |none=>rfl
 |some o=>exact absurd (Heap.lt_size q) (Nat.lt_irrefl _)
theorem SR.sizeNot {ρ:List Addr} {σ:St} {h:Heap} (x:SR prog w H₀ ρ σ h):h.objs.size∉ρ:=x.freshNot (size_none h)
theorem Reps.push {ρ:List Addr} {σ:St} {h:Heap} {vs:List Value} {ds:List D} (r:Reps H₀ h ρ vs ds) (x:SR prog w H₀ ρ σ h) (o:Obj):Reps H₀ (h.push o) ρ vs ds:=r.grow x (Grow.push x o)
theorem Rep.push {ρ:List Addr} {σ:St} {h:Heap} {v:Value} {d:D} (r:Rep H₀ h ρ v d) (x:SR prog w H₀ ρ σ h) (o:Obj):Rep H₀ (h.push o) ρ v d:=r.grow x (Grow.push x o)
theorem Reps.more {ρ:List Addr} {h:Heap} {vs:List Value} {ds:List D} (r:Reps H₀ h ρ vs ds) (a:Addr):Reps H₀ h (ρ++[a]) vs ds:=
 Reps.mono (fun _ _ _ e=>e) (fun _ _ e=>by rw[List.getElem?_append_left (List.getElem?_eq_some_iff.mp e).1];exact e) ds r
theorem Post.newList {ρ:List Addr} {σ:St} {ds:List D} {Q:Value→Shared→Prop} (p:Post prog w H₀ ρ σ (σ++[.list ds 0]) s (.ref σ.length) Q) (x:SR prog w H₀ ρ σ s.heap) {vs:List Value} (tk:Nat)
  (r:Reps H₀ s.heap ρ vs ds):Q (.ref s.heap.objs.size) { s with heap:=s.heap.push { cls:=.type "list",data:=.seq vs.toArray },toks:=tk }:=by
 have x':=x.push { cls:=.type "list",data:=.seq vs.toArray }
 refine p _ (ρ++[s.heap.objs.size]) _ _ ((Grow.push x _).adopt (size_none _)) (x'.adopt x.sizeNot (x.freshBase (size_none _)) ⟨vs.toArray,0,Heap.get?_push_size _ rfl,?_⟩) ⟨_,rfl,?_⟩
 ·exact(r.push x _).more _
 ·rw[←x.len,List.getElem?_append_right (Nat.le_refl _),Nat.sub_self];rfl
theorem Post.newTup {ρ:List Addr} {σ:St} {ds:List D} {Q:Value→Shared→Prop} (p:Post prog w H₀ ρ σ σ s (.tup ds) Q) (x:SR prog w H₀ ρ σ s.heap) {vs:List Value} (tk:Nat)
  (r:Reps H₀ s.heap ρ vs ds):Q (.ref s.heap.objs.size) { s with heap:=s.heap.push { cls:=.type "tuple",data:=.seq vs.toArray },toks:=tk }:=
 p _ ρ _ _ (Grow.push x _) (x.push _) ⟨_,_,_,rfl,Heap.get?_push_size _ rfl,r.push x _⟩
theorem LIM_line {n:Nat} (h:n<LIM):n≤sizeLine:=by
 unfold LIM at h;rw[sizeLine_eq];omega
theorem mulOk {x y:Int} (h:x.natAbs<2^63∨y.natAbs<2^63):IntMulOk x y:=by
 have bits:∀z:Int,z.natAbs<2^63→Builtin.Int.intBits z≤64:=fun z hz=>by
  unfold Builtin.Int.intBits
  by_cases h0:z=0
  ·subst h0;simp
  ·have h1:z.natAbs≠0:=by omega
   have:=(Nat.log2_lt h1).mpr hz
   simp[h0];omega
 rcases h with h|h
 ·exact .of_left (bits x h)
 ·exact .of_right (bits y h)
def BOp.py:BOp→Operator
 | .add=>.Add | .sub=>.Sub | .mul=>.Mult | .fdiv=>.FloorDiv | .mod=>.Mod | .pow=>.Pow
theorem bin_ok {op:BOp} {a b d:D} {va vb:Value} {ρ:List Addr} {σ σ':St} {Q:Value→Shared→Prop} (x:SR prog w H₀ ρ σ s.heap) (ra:Rep H₀ s.heap ρ va a) (rb:Rep H₀ s.heap ρ vb b)
  (e:binD op a b σ=some (d,σ')) (p:Post prog w H₀ ρ σ σ' s d Q):wpAny (model prog w) A (binaryOp op.py va vb) Q E s:=by
 unfold binD at e
 split at e
 ·cases e
  obtain⟨t,rfl⟩:=ra;obtain⟨u,rfl⟩:=rb
  exact P.add_int (p.tok x _ ⟨_,rfl⟩)
 ·cases e
  obtain⟨t,rfl⟩:=ra;obtain⟨u,rfl⟩:=rb
  exact P.sub_int (p.tok x _ ⟨_,rfl⟩)
 ·split at e
  ·rename_i hm
   cases e
   obtain⟨t,rfl⟩:=ra;obtain⟨u,rfl⟩:=rb
   exact P.mul_int (p.tok x _ ⟨_,rfl⟩) (mulOk hm)
  ·cases e
 ·split at e
  ·rename_i hm
   cases e
   obtain⟨t,rfl⟩:=ra;obtain⟨u,rfl⟩:=rb
   exact floordiv_int hm.1 (p.tok x _ ⟨_,rfl⟩) (.inl (PyProof.noPylong_small (by omega)))
  ·cases e
 ·split at e
  ·rename_i hm
   cases e
   obtain⟨t,rfl⟩:=ra;obtain⟨u,rfl⟩:=rb
   exact PyProof.Rows.mod_int' hm (p.tok x _ ⟨_,rfl⟩)
  ·cases e
 ·split at e
  ·rename_i hm
   cases e
   obtain⟨t,rfl⟩:=ra;obtain⟨u,rfl⟩:=rb
   refine pow_int hm.2.1 ?_ (p.tok x _ ⟨_,rfl⟩)
   have h2:Builtin.Int.intBits 2=2:=by decide +kernel
   rw[hm.1,h2]
   omega
  ·cases e
 ·rename_i xs ys
  split at e
  ·rename_i hm
   cases e
   obtain⟨t,vs,ep,rfl,g,r⟩:=ra;obtain⟨u,ws,ep',rfl,g',r'⟩:=rb
   have hl:vs.toList.length+ws.toList.length≤sizeLine:=by rw[r.length,r'.length];exact LIM_line hm
   by_cases hv:vs.isEmpty=true
   ·refine concat_meets ⟨_,g,rfl⟩ ⟨_,g',rfl⟩ noFill_tuple_add seq_tuple_add PySem.F.slot_tuple_add PySem.F.entry_tuple_add (PySem.F.args_tuple_add_2 _ _)
     (tuple_addW0 t u vs ws ep ep' none none #[] #[] hv) ⟨g,g',?_⟩
    have h0:vs.toList=[]:=by simpa using hv
    have hx:xs=[]:=by
     have:=r.length
     rw[h0] at this
     exact List.length_eq_zero_iff.mp this.symm
    subst hx
    exact p.same x ⟨u,ws,ep',rfl,g',r'⟩
   ·by_cases hw:ws.isEmpty=true
    ·refine concat_meets ⟨_,g,rfl⟩ ⟨_,g',rfl⟩ noFill_tuple_add seq_tuple_add PySem.F.slot_tuple_add PySem.F.entry_tuple_add (PySem.F.args_tuple_add_2 _ _)
      (tuple_addW1 t u vs ws ep ep' none none #[] #[] hv hw) ⟨g,g',?_⟩
     have h0:ws.toList=[]:=by simpa using hw
     have hx:ys=[]:=by
      have:=r'.length
      rw[h0] at this
      exact List.length_eq_zero_iff.mp this.symm
     subst hx
     exact p.same x ⟨t,vs,ep,rfl,g,by rw[List.append_nil];exact r⟩
    ·refine concat_meets ⟨_,g,rfl⟩ ⟨_,g',rfl⟩ noFill_tuple_add seq_tuple_add PySem.F.slot_tuple_add PySem.F.entry_tuple_add (PySem.F.args_tuple_add_2 _ _)
      (tuple_addW2 t u vs ws ep ep' none none #[] #[] hv hw (by simpa using hl)) ⟨g,g',?_⟩
     have e:vs++ws=(vs.toList++ws.toList).toArray:=by simp
     rw[e]
     exact p.newTup x _ (r.append r')
  ·cases e
 ·rename_i i j
  split at e
  ·rename_i xs v1 ys v2 hi hj
   split at e
   ·rename_i hm
    cases e
    obtain⟨t,rfl,ht⟩:=ra;obtain⟨u,rfl,hu⟩:=rb
    obtain⟨vs,ep,g,r⟩:=x.objs _ _ _ ht hi
    obtain⟨ws,ep',g',r'⟩:=x.objs _ _ _ hu hj
    have hl:vs.toList.length+ws.toList.length≤sizeLine:=by rw[r.length,r'.length];exact LIM_line hm
    refine concat_meets ⟨_,g,rfl⟩ ⟨_,g',rfl⟩ noFill_list_add seq_list_add PySem.F.slot_list_add PySem.F.entry_list_add (PySem.F.args_list_add_2 _ _) (list_addW t u vs ws ep ep' none none #[] #[] (by simpa using hl)) ⟨g,g',?_⟩
    have e:vs++ws=(vs.toList++ws.toList).toArray:=by simp
    rw[e]
    exact p.newList x _ (r.append r')
   ·cases e
  ·cases e
 ·cases e
end
end
theorem itemsAre_any {prog prog':Program} {w w':World} {ks:List Int} {vs:List Value} (x:ItemsAre (intKind prog w) ks vs):ItemsAre (intKind prog' w') ks vs:=by
 induction x with
 |nil=>exact .nil
 |cons h _ ih=>exact .cons h ih
theorem isKey_any {prog prog':Program} {w w':World} {h:Heap} {ks:List Int} {a:Addr} (x:(kTup prog w).is h ks a):(kTup prog' w').is h ks a:=by
 obtain⟨o,items,n,ho,hc,hd,hi⟩:=x
 exact⟨o,items,n,ho,hc,hd,itemsAre_any hi⟩
theorem dictOfH_any {prog prog':Program} {w w':World} {h:Heap} {a:Addr} {xs:List (List Int×Addr×Value)} (x:h.DictOfH (kTup prog w) a xs):h.DictOfH (kTup prog' w') a xs:=by
 obtain⟨o,es,ep,ho,hc,hd,he,hk,hn⟩:=x
 refine⟨o,es,ep,ho,hc,hd,?_,?_,hn⟩
 ·exact he
 ·exact fun y hy=>isKey_any (hk y hy)
section
variable {prog:Program} {w:World} {H₀:Heap} {A:Around} {E:Value→Shared→Prop} {s:Shared} {ρ:List Addr} {σ:St}
theorem Reps.inj {h:Heap} {f:D→D→Option Bool}
  (hf:∀v a b r,Rep H₀ h ρ v a→Rep H₀ h ρ v b→f a b=some r→r=true) :
  ∀{vs:List Value} {xs ys:List D} {r:Bool},Reps H₀ h ρ vs xs→Reps H₀ h ρ vs ys→eqAll f xs ys=some r→r=true
 | [],[],[],r,_,_,e=>by simp[eqAll] at e;exact e.symm▸rfl
 |v::vs,x::xs,y::ys,r,hx,hy,e=>by
  simp only[Reps] at hx hy
  simp only[eqAll] at e
  split at e
  ·rename_i a b h1 h2
   cases e
   rw[hf v x y a hx.1 hy.1 h1,Reps.inj hf hx.2 hy.2 h2];rfl
  ·cases e
 | [],_::_,_,_,hx,_,_=>by simp[Reps] at hx
 | [],_,_::_,_,_,hy,_=>by simp[Reps] at hy
 |_::_,[],_,_,hx,_,_=>by simp[Reps] at hx
 |_::_,_,[],_,_,hy,_=>by simp[Reps] at hy
theorem eqD_self {h:Heap} (x:SR prog w H₀ ρ σ h):∀(n:Nat) (v:Value) (a b:D) (r:Bool),Rep H₀ h ρ v a→Rep H₀ h ρ v b→eqD σ n a b=some r→r=true:=by
 intro n
 induction n with
 |zero=>intro v a b r _ _ e;cases e
 |succ n ih=>
  intro v a b r ra rb e
  unfold eqD at e
  split at e
  ·cases e;rfl
  ·cases e;simp only[Rep] at ra rb;subst ra;cases rb;simp
  ·cases e;simp only[Rep] at ra rb
   obtain⟨t,rfl⟩:=ra;obtain⟨u,q⟩:=rb;cases q;simp
  ·cases e;simp only[Rep] at ra rb
   obtain⟨t,rfl⟩:=ra;obtain⟨u,q⟩:=rb;cases q;simp
  ·split at e
   ·obtain⟨t,vs,ep,rfl,g,r1⟩:=ra
    obtain⟨u,ws,ep',q,g',r2⟩:=rb
    cases q
    rw[g] at g';cases g'
    exact Reps.inj ih r1 r2 e
   ·cases e
  ·rename_i i j
   obtain⟨t,rfl,g⟩:=ra
   obtain⟨u,q,g'⟩:=rb
   cases q
   have:i=j:=(List.getElem?_inj (List.getElem?_eq_some_iff.mp g).1 x.nd).mp (by rw[g,g'])
   rw[if_pos this] at e
   cases e;rfl
  ·cases e
def eqAt (f:D→D→Option Bool) (xs ys:List D) (j:Nat):Bool:=
 match xs[j]?,ys[j]? with
 |some x,some y=>(f x y).getD false
 |_,_=>false
theorem eqAll_range (f:D→D→Option Bool):∀(xs ys:List D) (r:Bool),eqAll f xs ys=some r→(List.range xs.length).all (eqAt f xs ys)=r
 | [],[],r,e=>by simp[eqAll] at e;simp[e]
 |x::xs,y::ys,r,e=>by
  simp only[eqAll] at e
  split at e
  ·rename_i a b h1 h2
   cases e
   rw[List.length_cons,List.range_succ_eq_map,List.all_cons,List.all_map,←eqAll_range f xs ys b h2]
   congr 1
   ·simp[eqAt,h1]
  ·cases e
 | [],_::_,_,e=>by simp[eqAll] at e
 |_::_,[],_,e=>by simp[eqAll] at e
theorem eqAll_len (f:D→D→Option Bool):∀(xs ys:List D) (r:Bool),eqAll f xs ys=some r→xs.length=ys.length
 | [],[],_,_=>rfl
 |_::xs,_::ys,r,e=>by
  simp only[eqAll] at e
  split at e
  ·rename_i a b h1 h2
   simp[eqAll_len f xs ys b h2]
  ·cases e
 | [],_::_,_,e=>by simp[eqAll] at e
 |_::_,[],_,e=>by simp[eqAll] at e
theorem eqAll_each (f:D→D→Option Bool) {h:Heap}
  (hf:∀v u a b r,Rep H₀ h ρ v a→Rep H₀ h ρ u b→f a b=some r→EqAt A s v u r) :
  ∀(vs us:List Value) (xs ys:List D) (r:Bool),Reps H₀ h ρ vs xs→Reps H₀ h ρ us ys→eqAll f xs ys=some r→
   ∀j (h1:j<vs.length) (h2:j<us.length),EqAt A s vs[j] us[j] (eqAt f xs ys j)
 | [],_,_,_,_,_,_,_,j,h1,_=>absurd h1 (Nat.not_lt_zero _)
 |_::_,[],_,_,_,_,_,_,j,_,h2=>absurd h2 (Nat.not_lt_zero _)
 |v::vs,u::us,x::xs,y::ys,r,hx,hy,e,j,h1,h2=>by
  simp only[Reps] at hx hy
  simp only[eqAll] at e
  split at e
  ·rename_i a b q1 q2
   cases j with
   |zero=>
    have:=hf v u x y a hx.1 hy.1 q1
    simpa [eqAt,q1] using this
   |succ j=>
    have:=eqAll_each f hf vs us xs ys b hx.2 hy.2 q2 j (by simpa using h1) (by simpa using h2)
    simpa [eqAt] using this
  ·cases e
 |_::_,_::_,[],_,_,hx,_,_,_,_,_=>by simp[Reps] at hx
 |_::_,_::_,_::_,[],_,_,hy,_,_,_,_=>by simp[Reps] at hy
inductive Hits (A:Around) (s:Shared) (ys:List (List Int×Addr×Value)):List (List Int×Addr×Value)→Bool→Prop
 |nil:Hits A s ys [] true
 |miss {k a v r}:atKey ys k=none→Hits A s ys ((k,a,v)::r) false
 |hit {k a v b u r e q}:atKey ys k=some (b,u)→EqAt A s v u e→Hits A s ys r q→Hits A s ys ((k,a,v)::r) (e&&q)
theorem Hits.inv {ys r:List (List Int×Addr×Value)} {k:List Int} {a:Addr} {v:Value} {q:Bool} (h:Hits A s ys ((k,a,v)::r) q) :
  (atKey ys k=none∧q=false)∨∃b u e q',atKey ys k=some (b,u)∧EqAt A s v u e∧Hits A s ys r q'∧q=(e&&q'):=by
 cases h with
 |miss hn=>exact .inl ⟨hn,rfl⟩
 |hit h1 h2 h3=>exact .inr ⟨_,_,_,_,h1,h2,h3,rfl⟩
set_option maxHeartbeats 2000000 in
theorem samePairsH {nm:String} {a b:Addr} {xs ys:List (List Int×Addr×Value)} {r:Bool} {Q:Bool→Shared→Prop} (ha:(a==sysModules)=false) (hb:(b==sysModules)=false)
  (da:s.heap.DictOfH (kTup prog w) a xs) (db:s.heap.DictOfH (kTup prog w) b ys) (hu:A.units<cLine) (hits:xs.length=ys.length→Hits A s ys xs r) (h:Q (xs.length==ys.length&&r) s) :
  wpAny (model prog w) A (Builtin.Dict.samePairs nm a b) Q E s:=by
 obtain⟨oa,es,ep,hoa,_,hda,hea,hia,_⟩:=da
 obtain⟨ob,fs,ep',hob,_,hdb,heb,hib,hnb⟩:=db
 have hla:es.size=xs.length:=size_of_entries hea
 have hlb:fs.size=ys.length:=size_of_entries heb
 rw[←hla,←hlb] at h
 unfold Builtin.Dict.samePairs Builtin.Dict.showsAll
 rw[if_neg (show ¬(a==sysModules)=true by rw[ha];exact Bool.false_ne_true),if_neg (show ¬(b==sysModules)=true by rw[hb];exact Bool.false_ne_true)]
 refine wpAny_bind (wpAny_pure (wpAny_bind (wpAny_pure ?_)))
 refine wpAny_bind (wpAny_dictEntries hoa hda ?_)
 dsimp only
 refine wpAny_bind (wpAny_dictEntries hob hdb ?_)
 by_cases hsz:es.size=fs.size
 case neg=>
  rw[if_pos (by simpa using hsz)]
  have hbf:(es.size==fs.size)=false:=by simpa using hsz
  rw[hbf,Bool.false_and] at h
  exact wpAny_bind (wpAny_rule (wpAny_pure h))
 case pos=>
  have h':Q r s:=by simpa [hsz] using h
  have hits':=hits (by rw[←hla,←hlb];exact hsz)
  rw[if_neg (by rw[hsz];simp)]
  refine wpAny_bind (wpAny_dictEpoch hoa hda ?_)
  refine wpAny_bind ?_
  rw[Std.Legacy.Range.forIn_eq_forIn_range']
  simp only[Std.Legacy.Range.size,Nat.sub_zero,Nat.add_sub_cancel,Nat.div_one]
  refine wpAny_forIn_list _
   (fun rest q s'=>s'=s∧q=(none,())∧∃i,rest=List.range' i (es.size-i)∧i≤es.size∧Hits A s ys (xs.drop i) r)
   _ ?_ ?_ _ _ ⟨rfl,rfl,0,by simp,Nat.zero_le _,hits'⟩
  ·rintro x rest q s' ⟨rfl,rfl,i,hr,hi,hpre⟩
   have hlt:i<es.size:=by
    rcases Nat.lt_or_ge i es.size with h|h
    ·exact h
    ·rw[Nat.sub_eq_zero_of_le h] at hr;simp at hr
   obtain⟨rfl,hrest⟩:x=i∧rest=List.range' (i+1) (es.size-(i+1)):=by
    have e:es.size-i=(es.size-(i+1))+1:=by omega
    rw[e,List.range'_succ] at hr
    injection hr with h1 h2
    exact⟨h1,h2⟩
   have hlt':x<xs.length:=by rw[←hla];exact hlt
   obtain⟨⟨k,c,v⟩,hkv⟩:∃y,xs[x]?=some y:=⟨_,List.getElem?_eq_getElem hlt'⟩
   have hdrop:xs.drop x=(k,c,v)::xs.drop (x+1):=by
    rw[List.drop_eq_getElem_cons hlt']
    rw[List.getElem?_eq_getElem hlt'] at hkv
    rw[Option.some.inj hkv]
   have hkey:=hia _ (List.mem_of_getElem? hkv)
   have hex:es[x]?=some ⟨(kTup prog w).hash k,.ref c,v⟩:=by rw[entry_at hea x,hkv];rfl
   refine wpAny_bind (wpAny_dictEntries hoa hda ?_)
   rw[hex]
   rw[hdrop] at hpre
   show wpAny _ _ (holding [Value.ref c,v] _ >>= _) _ _ _
   refine wpAny_bind (wpAny_holding (wpAny_bind (wpAny_dictFind_heap (knd:=kTup prog w) (k:=k) hu hkey hob hdb heb hib hnb (fun hno=>?_) (fun j p hj=>?_))))
   ·rcases hpre.inv with⟨_,er⟩ | ⟨b',u,e',q',hy,_⟩
    ·rw[er] at h'
     refine wpAny_pure ?_
     show wpAny _ _ (if (!false)=true then _ else _) _ _ _
     rw[if_pos (by decide)]
     exact wpAny_pure (wpAny_pure h')
    ·rw[atKey_none_of_get hno] at hy;exact nomatch hy
   ·rcases hpre.inv with⟨hn,_⟩ | ⟨b',u,e',q',hy,he,hrr,er⟩
    ·rw[atKey_of_get hnb hj] at hn;exact nomatch hn
    ·rw[atKey_of_get hnb hj] at hy
     cases hy
     refine wpAny_bind (wpAny_dictEntries hob hdb ?_)
     rw[entry_at heb j,hj]
     refine wpAny_holding (he prog w _ _ ?_)
     cases e' with
     |false=>
      rw[er,Bool.false_and] at h'
      show wpAny _ _ (if (!false)=true then _ else _) _ _ _
      rw[if_pos (by decide)]
      exact wpAny_pure (wpAny_pure h')
     |true=>
      rw[Bool.true_and] at er
      rw[←er] at hrr
      show wpAny _ _ (if (!true)=true then _ else _) _ _ _
      rw[if_neg (by decide)]
      refine wpAny_bind (wpAny_dictEpoch hoa hda ?_)
      rw[if_neg (by simp)]
      exact wpAny_pure ⟨rfl,rfl,x+1,hrest,hlt,hrr⟩
  ·rintro q s' ⟨rfl,rfl,i,hr,hi,hpre⟩
   have hin:i=es.size:=by
    rcases Nat.lt_or_ge i es.size with h|h
    ·have e:es.size-i=(es.size-(i+1))+1:=by omega
     rw[e,List.range'_succ] at hr;exact nomatch hr
    ·exact Nat.le_antisymm hi h
   refine wpAny_pure ?_
   rw[hin,hla,List.drop_length] at hpre
   cases hpre
   exact h'
theorem dict_eqH {a b:Addr} {xs ys:List (List Int×Addr×Value)} {r:Bool} {Q:Value→Shared→Prop} (ha:(a==sysModules)=false) (hb:(b==sysModules)=false)
  (da:s.heap.DictOfH (kTup prog w) a xs) (db:s.heap.DictOfH (kTup prog w) b ys) (hu:A.units+1<cLine) (hits:xs.length=ys.length→Hits A.in1 s ys xs r) (h:Q (.bool (xs.length==ys.length&&r)) s) :
  wpAny (model prog w) A (richCompare .Eq (.ref a) (.ref b)) Q E s:=by
 refine wpAny_richCompare_same_room (op:=.Eq) da.typeIs db.typeIs PySem.F.slot_dict_eq (wpAny_call_entry PySem.F.slot_dict_eq da.typeIs PySem.F.entry_dict_eq ?_ (PySem.F.args_dict_eq_2 _ _)) (by omega)
 show wpAny _ _ (Builtin.Dict.dictSlotArgs "__eq__" ⟨[.ref a,.ref b],[]⟩ >>= _) _ _ s
 refine wpAny_bind ?_
 unfold Builtin.Dict.dictSlotArgs
 refine wpAny_bind (wpAny_notOrdered_dict da.typeIs ?_)
 show wpAny _ _ (pure (Value.ref a,Value.ref b)) _ _ s
 refine wpAny_pure ?_
 refine wpAny_bind (wpAny_isInstance (T:="dict") db.typeIs PySem.F.sub_dict_dict ?_)
 simp only[Bool.not_true,Bool.false_eq_true,if_false]
 refine wpAny_bind (wpAny_pure (wpAny_bind (wpAny_pure ?_)))
 refine wpAny_bind (samePairsH ha hb da db (by show A.units+1<cLine;exact hu) hits ?_)
 refine wpAny_pure ⟨_,rfl,?_,?_⟩
 ·exact fun x=>nomatch x
 ·simpa using h
theorem dict_neH {a b:Addr} {xs ys:List (List Int×Addr×Value)} {r:Bool} {Q:Value→Shared→Prop} (ha:(a==sysModules)=false) (hb:(b==sysModules)=false)
  (da:s.heap.DictOfH (kTup prog w) a xs) (db:s.heap.DictOfH (kTup prog w) b ys) (hu:A.units+1<cLine) (hits:xs.length=ys.length→Hits A.in1 s ys xs r) (h:Q (.bool (!(xs.length==ys.length&&r))) s) :
  wpAny (model prog w) A (richCompare .NotEq (.ref a) (.ref b)) Q E s:=by
 refine wpAny_richCompare_same_room (op:=.NotEq) da.typeIs db.typeIs PySem.F.slot_dict_ne (wpAny_call_entry PySem.F.slot_dict_ne da.typeIs PySem.F.entry_dict_ne ?_ (PySem.F.args_dict_ne_2 _ _)) (by omega)
 show wpAny _ _ (Builtin.Dict.dictSlotArgs "__ne__" ⟨[.ref a,.ref b],[]⟩ >>= _) _ _ s
 refine wpAny_bind ?_
 unfold Builtin.Dict.dictSlotArgs
 refine wpAny_bind (wpAny_notOrdered_dict da.typeIs ?_)
 show wpAny _ _ (pure (Value.ref a,Value.ref b)) _ _ s
 refine wpAny_pure ?_
 refine wpAny_bind (wpAny_isInstance (T:="dict") db.typeIs PySem.F.sub_dict_dict ?_)
 simp only[Bool.not_true,Bool.false_eq_true,if_false]
 refine wpAny_bind (wpAny_pure (wpAny_bind (wpAny_pure ?_)))
 refine wpAny_bind (samePairsH ha hb da db (by show A.units+1<cLine;exact hu) hits ?_)
 refine wpAny_pure ⟨_,rfl,?_,?_⟩
 ·exact fun x=>nomatch x
 ·simpa using h
theorem atKey_dget:∀(ys:List (List Int×Addr×Value)) (fs:Es) {h:Heap},ys.map (·.1)=fs.map (·.1)→Reps H₀ h ρ (ys.map (·.2.2)) (fs.map (·.2))→∀k,
  (dget fs k=none→atKey ys k=none)∧(∀d,dget fs k=some d→∃b u,atKey ys k=some (b,u)∧Rep H₀ h ρ u d)
 | [],[],_,_,_,k=>⟨fun _=>rfl,fun d e=>by simp[dget] at e⟩
 |(k',b,u)::ys,(k'',d)::fs,h,hm,hr,k=>by
  simp only[List.map_cons,List.cons.injEq] at hm
  simp only[List.map_cons,Reps] at hr
  obtain⟨rfl,hm⟩:=hm
  have ih:=atKey_dget ys fs hm hr.2 k
  by_cases hk:k'=k
  ·subst hk
   refine⟨fun e=>by simp[dget] at e,fun d' e=>⟨b,u,by simp[atKey],?_⟩⟩
   simp[dget] at e
   subst e;exact hr.1
  ·refine⟨fun e=>?_,fun d' e=>?_⟩
   ·have:=ih.1 (by simpa [dget,List.find?_cons,hk] using e)
    simpa [atKey,List.find?_cons,hk] using this
   ·obtain⟨b',u',h1,h2⟩:=ih.2 d' (by simpa [dget,List.find?_cons,hk] using e)
    exact⟨b',u',by simpa [atKey,List.find?_cons,hk] using h1,h2⟩
 | [],_::_,_,hm,_,_=>by simp at hm
 |_::_,[],_,hm,_,_=>by simp at hm
theorem hits_of {f:D→D→Option Bool} (hf:∀v u a b r,Rep H₀ s.heap ρ v a→Rep H₀ s.heap ρ u b→f a b=some r→EqAt A s v u r)
  {ys:List (List Int×Addr×Value)} {fs:Es} (hm:ys.map (·.1)=fs.map (·.1)) (hr:Reps H₀ s.heap ρ (ys.map (·.2.2)) (fs.map (·.2))) :
  ∀(xs:List (List Int×Addr×Value)) (es:Es) (r:Bool),xs.map (·.1)=es.map (·.1)→Reps H₀ s.heap ρ (xs.map (·.2.2)) (es.map (·.2))→eqEs f fs es=some r→Hits A s ys xs r
 | [],[],r,_,_,e=>by
  simp only[eqEs,Option.some.injEq] at e
  subst e;exact .nil
 |(k,a,v)::xs,(k',d)::es,r,hx,hxr,e=>by
  simp only[List.map_cons,List.cons.injEq] at hx
  simp only[List.map_cons,Reps] at hxr
  obtain⟨rfl,hx⟩:=hx
  simp only[eqEs] at e
  have hy:=atKey_dget (H₀:=H₀) (ρ:=ρ) ys fs hm hr k
  split at e
  ·rename_i q
   cases e
   exact .miss (hy.1 q)
  ·rename_i y q
   split at e
   ·rename_i a' b' h1 h2
    cases e
    obtain⟨b,u,g1,g2⟩:=hy.2 y q
    exact .hit g1 (hf v u d y a' hxr.1 g2 h1) (hits_of hf hm hr xs es b' hx hxr.2 h2)
   ·cases e
 | [],_::_,_,hx,_,_=>by simp at hx
 |_::_,[],_,hx,_,_=>by simp at hx
theorem notModules (hl:∃o,H₀.get? sysModules=some o) (x:SR prog w H₀ ρ σ s.heap) {a:Addr} (ha:a∈ρ):(a==sysModules)=false:=by
 have h1:=x.new a ha
 obtain⟨o,e⟩:=hl
 simp only[beq_eq_false_iff_ne,ne_eq]
 intro q
 rw[q,e] at h1
 cases h1
theorem eq_ok (hl:∃o,H₀.get? sysModules=some o) (x:SR prog w H₀ ρ σ s.heap):∀(n:Nat) (A:Around) (va vb:Value) (a b:D) (r:Bool),A.units+3*n<cLine→Rep H₀ s.heap ρ va a→Rep H₀ s.heap ρ vb b→eqD σ n a b=some r→EqAt A s va vb r:=by
 intro n
 induction n with
 |zero=>intro A va vb a b r _ _ _ e;cases e
 |succ n ih=>
  intro A va vb a b r hu ra rb e0
  have e:=e0
  unfold eqD at e
  split at e
  ·cases e;simp only[Rep] at ra rb;subst ra;subst rb;exact EqAt.same _
  ·cases e;simp only[Rep] at ra rb;subst ra;subst rb;exact EqAt.bool_bool _ _
  ·cases e;simp only[Rep] at ra rb
   obtain⟨t,rfl⟩:=ra;obtain⟨u,rfl⟩:=rb;exact EqAt.int_int _ _ _ _
  ·cases e;simp only[Rep] at ra rb
   obtain⟨t,rfl⟩:=ra;obtain⟨u,rfl⟩:=rb;exact EqAt.str_str _ _ _ _
  ·rename_i xs ys
   split at e
   ·rename_i hlen
    by_cases hv:va=vb
    ·subst hv
     rw[eqD_self x (n+1) va _ _ r ra rb e0]
     exact EqAt.same _
    ·obtain⟨t,vs,ep,rfl,g,r1⟩:=ra
     obtain⟨u,ws,ep',rfl,g',r2⟩:=rb
     refine EqAt.of_refs (fun q=>hv (by rw[q])) ?_
     have hsz:vs.size=ws.size:=by
      have h1:=r1.length;have h2:=r2.length
      simp at h1 h2;omega
     have:=RcAt.tuples (A:=A) (s:=s) (e:=eqAt (eqD σ n) xs ys) (items:=vs) (items2:=ws) ⟨_,g,rfl,_,rfl⟩ ⟨_,g',rfl,_,rfl⟩ (by omega) (fun j h1 h2=>by
      have:=eqAll_each (A:=A.in1) (s:=s) (eqD σ n) (fun v u a b r ha hb he=>ih A.in1 v u a b r (by show A.units+1+3*n<cLine;omega) ha hb he) vs.toList ws.toList xs ys r r1 r2 e j (by simpa using h1) (by simpa using h2)
      simpa using this)
     have e2:=eqAll_range (eqD σ n) xs ys r e
     have h3:min vs.size ws.size=xs.length:=by
      have h1:=r1.length;have h2:=r2.length
      simp at h1 h2;omega
     rw[h3,e2,hsz] at this
     simpa using this
   ·cases e
  ·rename_i i j
   obtain⟨t,rfl,g⟩:=ra
   obtain⟨u,rfl,g'⟩:=rb
   split at e
   ·rename_i hij
    subst hij
    rw[g] at g';cases g'
    cases e;exact EqAt.same _
   ·rename_i hij
    have htu:t≠u:=fun q=>hij ((List.getElem?_inj (List.getElem?_eq_some_iff.mp g).1 x.nd).mp (by rw[g,g',q]))
    refine EqAt.of_refs htu ?_
    split at e
    ·rename_i xs v1 ys v2 hi hj
     obtain⟨vs,ep,gl,r1⟩:=x.objs _ _ _ g hi
     obtain⟨ws,ep',gl',r2⟩:=x.objs _ _ _ g' hj
     have h1:=r1.length;have h2:=r2.length
     simp at h1 h2
     split at e
     ·rename_i hlen
      have:=RcAt.lists (A:=A) (s:=s) (e:=eqAt (eqD σ n) xs ys) (items:=vs) (items2:=ws) ⟨_,gl,rfl,_,rfl⟩ ⟨_,gl',rfl,_,rfl⟩ (by omega) (by omega) (fun j h1 h2=>by
       have:=eqAll_each (A:=A.in1) (s:=s) (eqD σ n) (fun v u a b r ha hb he=>ih A.in1 v u a b r (by show A.units+1+3*n<cLine;omega) ha hb he) vs.toList ws.toList xs ys r r1 r2 e j (by simpa using h1) (by simpa using h2)
       simpa using this)
      have e2:=eqAll_range (eqD σ n) xs ys r e
      rw[h1,e2] at this
      exact this
     ·rename_i hlen
      cases e
      exact RcAt.lists_lengths (items:=vs) (items2:=ws) ⟨_,gl,rfl,_,rfl⟩ ⟨_,gl',rfl,_,rfl⟩ (by simp;omega) (by omega)
    ·rename_i es v1 fs v2 hi hj
     obtain⟨xs,dx,mx,r1,_⟩:=x.objs _ _ _ g hi
     obtain⟨ys,dy,my,r2,_⟩:=x.objs _ _ _ g' hj
     have h1:xs.length=es.length:=by simpa using congrArg List.length mx
     have h2:ys.length=fs.length:=by simpa using congrArg List.length my
     intro prog' w' E Q hq
     split at e
     ·rename_i hlen
      refine dict_eqH (prog:=prog') (w:=w') (r:=r) (notModules hl x (List.mem_of_getElem? g)) (notModules hl x (List.mem_of_getElem? g')) (dictOfH_any dx) (dictOfH_any dy) (by omega) (fun _=>?_) ?_
      ·exact hits_of (A:=A.in1) (f:=eqD σ n) (fun v u a b r ha hb he=>ih A.in1 v u a b r (by show A.units+1+3*n<cLine;omega) ha hb he) my r2 xs es r mx r1 e
      ·rw[h1,h2,hlen];simpa using hq
     ·rename_i hlen
      cases e
      refine dict_eqH (prog:=prog') (w:=w') (r:=false) (notModules hl x (List.mem_of_getElem? g)) (notModules hl x (List.mem_of_getElem? g')) (dictOfH_any dx) (dictOfH_any dy) (by omega) (fun q=>absurd (by rw[←h1,←h2,q]) hlen) ?_
      simpa using hq
    ·cases e
  ·cases e
end
section
open PySem PySem.W PyProof.Rows PySem.SeqAt
open PySem.AutoSeq1 (wpAny_loadPart')
open PySem.MeetsSeq PySem.MeetsSeq2 PySem.MeetsSeq3
def RcOp (op:CmpOp) (A:Around) (s:Shared) (v u:Value) (r:Bool):Prop:=
 ∀(prog:Program) (w:World) (E:Value→Shared→Prop) (Q:Value→Shared→Prop),Q (.bool r) s→wpAny (model prog w) A (richCompare op v u) Q E s
inductive Lex (op:CmpOp) (A:Around) (s:Shared):List Value→List Value→Bool→Bool→Prop
 |nilL {us fin}:Lex op A s [] us fin fin
 |nilR {v vs fin}:Lex op A s (v::vs) [] fin fin
 |same {v u vs us fin r}:EqAt A s v u true→Lex op A s vs us fin r→Lex op A s (v::vs) (u::us) fin r
 |diff {v u vs us fin r}:EqAt A s v u false→RcOp op A s v u r→Lex op A s (v::vs) (u::us) fin r
theorem Lex.inv {op:CmpOp} {A:Around} {s:Shared} {v u:Value} {vs us:List Value} {fin r:Bool} (h:Lex op A s (v::vs) (u::us) fin r) :
  (EqAt A s v u true∧Lex op A s vs us fin r)∨(EqAt A s v u false∧RcOp op A s v u r):=by
 cases h with
 |same h1 h2=>exact .inl ⟨h1,h2⟩
 |diff h1 h2=>exact .inr ⟨h1,h2⟩
theorem tuple_ltAt (l b:Addr) (items items2:Array Value) (n n2:Nat) (r:Bool) :
  Meets (Builtin.«tuple.__lt__» ⟨[.ref l,.ref b],[]⟩)
   (fun A R s=>s.heap.get? l=some (seqObj "tuple" items n)∧s.heap.get? b=some (seqObj "tuple" items2 n2)∧
    Lex .Lt A.in1 s items.toList items2.toList (decide (items.size<items2.size)) r∧R (.ok (.ret (.bool r))) s):=
 .of_wp fun prog w A R s h=>by
  obtain⟨hp,g,d,tk,os⟩:=s;obtain⟨hl,hb,he,h⟩:=h
  have f2:=AutoSeq1.sub_tuple_tuple
  wp_walk using wpAny_loadPart' hl,wpAny_loadPart' hb,wpAny_forIn_list _ (fun rest b s'=>b.1=none∧s'=⟨hp,g,d,tk,os⟩∧∃vs us,rest=vs.zip us∧Lex .Lt A.in1 ⟨hp,g,d,tk,os⟩ vs us (decide (items.size<items2.size)) r) _
  case turn=>
   rintro⟨y,x⟩ rest b s' ⟨hb',rfl,vs,us,hz,hR⟩
   cases vs with
   |nil=>cases hz
   |cons v vs=>
    cases us with
    |nil=>cases hz
    |cons u us=>
     rw[List.zip_cons_cons] at hz
     injection hz with hyx hrest
     cases hyx
     rcases hR.inv with⟨h1,h2⟩ | ⟨h1,h2⟩
     ·refine wpAny_bind (h1 prog w _ _ ?_)
      wp_walk
      exact⟨rfl,rfl,vs,us,hrest,h2⟩
     ·refine wpAny_bind (h1 prog w _ _ ?_)
      simp only[Bool.not_false,if_true]
      refine wpAny_bind (wpAny_rule ?_)
      refine wpAny_bind (h2 prog w _ _ ?_)
      wp_walk
      exact⟨_,rfl,h⟩
  case fin=>
   rintro⟨b1,b2⟩ s' ⟨hb',rfl,vs,us,hz,hR⟩
   simp only at hb'
   subst hb'
   have hr:decide (items.size<items2.size)=r:=by
    cases vs with
    |nil=>cases hR;rfl
    |cons v vs=>
     cases us with
     |nil=>cases hR;rfl
     |cons u us=>cases hz
   wp_walk
   exact⟨_,rfl,by rw[←hr] at h;simpa [Builtin.Tuple.tupleCompareSizes] using h⟩
  case h=>exact⟨rfl,rfl,_,_,rfl,he⟩
theorem tuple_gtAt (l b:Addr) (items items2:Array Value) (n n2:Nat) (r:Bool) :
  Meets (Builtin.«tuple.__gt__» ⟨[.ref l,.ref b],[]⟩)
   (fun A R s=>s.heap.get? l=some (seqObj "tuple" items n)∧s.heap.get? b=some (seqObj "tuple" items2 n2)∧
    Lex .Gt A.in1 s items.toList items2.toList (decide (items.size>items2.size)) r∧R (.ok (.ret (.bool r))) s):=
 .of_wp fun prog w A R s h=>by
  obtain⟨hp,g,d,tk,os⟩:=s;obtain⟨hl,hb,he,h⟩:=h
  have f2:=AutoSeq1.sub_tuple_tuple
  wp_walk using wpAny_loadPart' hl,wpAny_loadPart' hb,wpAny_forIn_list _ (fun rest b s'=>b.1=none∧s'=⟨hp,g,d,tk,os⟩∧∃vs us,rest=vs.zip us∧Lex .Gt A.in1 ⟨hp,g,d,tk,os⟩ vs us (decide (items.size>items2.size)) r) _
  case turn=>
   rintro⟨y,x⟩ rest b s' ⟨hb',rfl,vs,us,hz,hR⟩
   cases vs with
   |nil=>cases hz
   |cons v vs=>
    cases us with
    |nil=>cases hz
    |cons u us=>
     rw[List.zip_cons_cons] at hz
     injection hz with hyx hrest
     cases hyx
     rcases hR.inv with⟨h1,h2⟩ | ⟨h1,h2⟩
     ·refine wpAny_bind (h1 prog w _ _ ?_)
      wp_walk
      exact⟨rfl,rfl,vs,us,hrest,h2⟩
     ·refine wpAny_bind (h1 prog w _ _ ?_)
      simp only[Bool.not_false,if_true]
      refine wpAny_bind (wpAny_rule ?_)
      refine wpAny_bind (h2 prog w _ _ ?_)
      wp_walk
      exact⟨_,rfl,h⟩
  case fin=>
   rintro⟨b1,b2⟩ s' ⟨hb',rfl,vs,us,hz,hR⟩
   simp only at hb'
   subst hb'
   have hr:decide (items.size>items2.size)=r:=by
    cases vs with
    |nil=>cases hR;rfl
    |cons v vs=>
     cases us with
     |nil=>cases hR;rfl
     |cons u us=>cases hz
   wp_walk
   exact⟨_,rfl,by rw[←hr] at h;simpa [Builtin.Tuple.tupleCompareSizes] using h⟩
  case h=>exact⟨rfl,rfl,_,_,rfl,he⟩
theorem list_lt_loopAt (l b:Addr) (items items2:Array Value) (n n2:Nat) (r:Bool) (k:Nat) :
  ∀i:Nat,items.size-i=k→Meets (Builtin.«list.__eq__.loop» ⟨[.ref l,.ref b,rawInt i,rawInt 0],[]⟩)
   (fun A R s=>s.heap.get? l=some (seqObj "list" items n)∧s.heap.get? b=some (seqObj "list" items2 n2)∧
    Lex .Lt A.in1 s (items.toList.drop i) (items2.toList.drop i) (decide (items.size<items2.size)) r∧R (.ok (.ret (.bool r))) s):=by
 induction k with
 |zero=>
  intro i hk prog w A R s h
  obtain⟨hp,g,d,tk,os⟩:=s;obtain⟨hl,hb,he,h⟩:=h
  wp_walk using wpAny_loadPart' hl,wpAny_loadPart' hb
  have hi1:items[((i:Nat):Int).toNat]?=none:=by simp;omega
  have hd:items.toList.drop i=[]:=by simp;omega
  rw[hd] at he
  rw[hi1]
  have hr:decide (items.size<items2.size)=r:=by cases he;rfl
  wp_walk using wpAny_loadPart' hl,wpAny_loadPart' hb
  rw[←hr] at h
  exact h
 |succ k ih=>
  intro i hk prog w A R s h
  obtain⟨hp,g,d,tk,os⟩:=s;obtain⟨hl,hb,he,h⟩:=h
  have hlt:i<items.size:=by omega
  have hi1:items[((i:Nat):Int).toNat]?=some items[i]:=by simp[hlt]
  have hd:items.toList.drop i=items[i]::items.toList.drop (i+1):=by
   rw[List.drop_eq_getElem_cons (by simpa using hlt)];simp
  have hc:((i:Int)+1)=((i+1:Nat):Int):=by push_cast;rfl
  rw[hd] at he
  by_cases hlt2:i<items2.size
  ·have hi2:items2[((i:Nat):Int).toNat]?=some items2[i]:=by simp[hlt2]
   have hd2:items2.toList.drop i=items2[i]::items2.toList.drop (i+1):=by
    rw[List.drop_eq_getElem_cons (by simpa using hlt2)];simp
   rw[hd2] at he
   wp_walk using wpAny_loadPart' hl,wpAny_loadPart' hb
   rw[hi1,hi2]
   rcases he.inv with⟨h1,h2⟩ | ⟨h1,h2⟩
   ·refine wpAny_bind (h1 prog w _ _ ?_)
    wp_walk
    rw[hc]
    exact⟨plainId_quiet plain_eq_loop _,codeAny_builtin entry_eq_loop (by
     rw[Around.under_plainId plain_eq_loop _]
     exact ih (i+1) (by omega) prog w A R _ ⟨hl,hb,h2,h⟩)⟩
   ·refine wpAny_bind (h1 prog w _ _ ?_)
    wp_walk using wpAny_loadPart' hl,wpAny_loadPart' hb
    rw[hi1,hi2]
    refine wpAny_bind (h2 prog w _ _ ?_)
    wp_walk
    exact h
  ·have hi2:items2[((i:Nat):Int).toNat]?=none:=by simp;omega
   have hd2:items2.toList.drop i=[]:=by simp;omega
   rw[hd2] at he
   have hr:decide (items.size<items2.size)=r:=by cases he;rfl
   wp_walk using wpAny_loadPart' hl,wpAny_loadPart' hb
   rw[hi1,hi2]
   wp_walk using wpAny_loadPart' hl,wpAny_loadPart' hb
   rw[←hr] at h
   exact h
theorem list_ltAt (l b:Addr) (items items2:Array Value) (n n2:Nat) (r:Bool) :
  Meets (Builtin.«list.__lt__» ⟨[.ref l,.ref b],[]⟩)
   (fun A R s=>s.heap.get? l=some (seqObj "list" items n)∧s.heap.get? b=some (seqObj "list" items2 n2)∧
    Lex .Lt A.in1 s items.toList items2.toList (decide (items.size<items2.size)) r∧R (.ok (.ret (.bool r))) s):=by
 intro prog w A R s h
 obtain⟨hp,g,d,tk,os⟩:=s;obtain⟨hl,hb,he,h⟩:=h
 have f3:=AutoSeq1.sub_list_list
 wp_walk using wpAny_loadPart' hl,wpAny_loadPart' hb
 exact⟨plainId_quiet plain_eq_loop _,codeAny_builtin entry_eq_loop (by
  rw[Around.under_plainId plain_eq_loop _]
  exact list_lt_loopAt l b items items2 n n2 r _ 0 rfl prog w A R _ ⟨hl,hb,by simpa using he,h⟩)⟩
end
section
variable {prog:Program} {w:World} {H₀:Heap} {A:Around} {E:Value→Shared→Prop} {s:Shared} {ρ:List Addr} {σ:St}
theorem lex_lt {eq lt:D→D→Option Bool} (he:∀v u a b r,Rep H₀ s.heap ρ v a→Rep H₀ s.heap ρ u b→eq a b=some r→EqAt A s v u r)
  (hlt:∀v u a b r,Rep H₀ s.heap ρ v a→Rep H₀ s.heap ρ u b→lt a b=some r→RcOp .Lt A s v u r) (k:Nat) :
  ∀(vs us:List Value) (xs ys:List D) (r:Bool),Reps H₀ s.heap ρ vs xs→Reps H₀ s.heap ρ us ys→lexD eq lt xs ys=some r→Lex .Lt A s vs us (decide (vs.length+k<us.length+k)) r
 | [],[],[],[],r,_,_,e=>by
  simp only[lexD,Option.some.injEq] at e
  subst e
  have:decide (([]:List Value).length+k<([]:List Value).length+k)=false:=by simp
  rw[this];exact .nilL
 | [],u::us,[],y::ys,r,_,_,e=>by
  simp only[lexD,Option.some.injEq] at e
  subst e
  have:decide (([]:List Value).length+k<(u::us).length+k)=true:=by simp
  rw[this];exact .nilL
 |v::vs,[],x::xs,[],r,_,_,e=>by
  simp only[lexD,Option.some.injEq] at e
  subst e
  have:decide ((v::vs).length+k<([]:List Value).length+k)=false:=by simp
  rw[this];exact .nilR
 |v::vs,u::us,x::xs,y::ys,r,hx,hy,e=>by
  simp only[Reps] at hx hy
  simp only[lexD] at e
  split at e
  ·rename_i q
   have:=lex_lt he hlt (k+1) vs us xs ys r hx.2 hy.2 e
   have e2:decide ((v::vs).length+k<(u::us).length+k)=decide (vs.length+(k+1)<us.length+(k+1)):=by simp
   rw[e2]
   exact .same (he _ _ _ _ _ hx.1 hy.1 q) this
  ·rename_i q
   exact .diff (he _ _ _ _ _ hx.1 hy.1 q) (hlt _ _ _ _ _ hx.1 hy.1 e)
  ·cases e
 | [],_,_::_,_,_,hx,_,_=>by simp[Reps] at hx
 |_::_,_,[],_,_,hx,_,_=>by simp[Reps] at hx
 |_,[],_,_::_,_,_,hy,_=>by simp[Reps] at hy
 |_,_::_,_,[],_,_,hy,_=>by simp[Reps] at hy
theorem lt_ok (hl:∃o,H₀.get? sysModules=some o) (x:SR prog w H₀ ρ σ s.heap):∀(n:Nat) (A:Around) (va vb:Value) (a b:D) (r:Bool),A.units+3*n<cLine→Rep H₀ s.heap ρ va a→Rep H₀ s.heap ρ vb b→ltD σ n a b=some r→RcOp .Lt A s va vb r:=by
 intro n
 induction n with
 |zero=>intro A va vb a b r _ _ _ e;cases e
 |succ n ih=>
  intro A va vb a b r hu ra rb e
  unfold ltD at e
  split at e
  ·cases e;simp only[Rep] at ra rb
   obtain⟨t,rfl⟩:=ra;obtain⟨u,rfl⟩:=rb
   exact fun prog w E Q h=>P.lt_int h
  ·rename_i xs ys
   obtain⟨t,vs,ep,rfl,g,r1⟩:=ra
   obtain⟨u,ws,ep',rfl,g',r2⟩:=rb
   have:=lex_lt (A:=A.in1) (s:=s) (fun v u a b r ha hb he=>eq_ok hl x n A.in1 v u a b r (by show A.units+1+3*n<cLine;omega) ha hb he)
    (fun v u a b r ha hb he=>ih A.in1 v u a b r (by show A.units+1+3*n<cLine;omega) ha hb he) 0 vs.toList ws.toList xs ys r r1 r2 e
   intro prog' w' E Q h
   exact richCompare_meets_room (op:=.Lt) ⟨_,g,rfl⟩ ⟨_,g',rfl⟩ PySem.F.slot_tuple_lt PySem.F.entry_tuple_lt (PySem.F.args_tuple_lt_2 _ _) (tuple_ltAt t u vs ws ep ep' r)
    ⟨g,g',by simpa using this,show Value.bool r≠Value.notImplemented∧Q (.bool r) s from ⟨(fun x=>nomatch x),h⟩⟩ (by omega)
  ·rename_i i j
   obtain⟨t,rfl,g⟩:=ra
   obtain⟨u,rfl,g'⟩:=rb
   split at e
   ·rename_i xs v1 ys v2 hi hj
    obtain⟨vs,ep,gl,r1⟩:=x.objs _ _ _ g hi
    obtain⟨ws,ep',gl',r2⟩:=x.objs _ _ _ g' hj
    have:=lex_lt (A:=A.in1) (s:=s) (fun v u a b r ha hb he=>eq_ok hl x n A.in1 v u a b r (by show A.units+1+3*n<cLine;omega) ha hb he)
     (fun v u a b r ha hb he=>ih A.in1 v u a b r (by show A.units+1+3*n<cLine;omega) ha hb he) 0 vs.toList ws.toList xs ys r r1 r2 e
    intro prog' w' E Q h
    exact richCompare_meets_room (op:=.Lt) ⟨_,gl,rfl⟩ ⟨_,gl',rfl⟩ PySem.F.slot_list_lt PySem.F.entry_list_lt (PySem.F.args_list_lt_2 _ _) (list_ltAt t u vs ws ep ep' r)
     ⟨gl,gl',by simpa using this,show Value.bool r≠Value.notImplemented∧Q (.bool r) s from ⟨(fun x=>nomatch x),h⟩⟩ (by omega)
   ·cases e
  ·cases e
theorem ints_reps:∀{vs:List Value} {ds:List D} {ks:List Int} {h:Heap},Reps H₀ h ρ vs ds→ints? ds=some ks→ItemsAre (intKind prog w) ks vs
 | [],[],ks,_,_,e=>by simp only[ints?,Option.some.injEq] at e;subst e;exact .nil
 |v::vs,.int i::ds,ks,h,r,e=>by
  simp only[Reps] at r
  simp only[ints?,Option.map_eq_some_iff] at e
  obtain⟨k,e,rfl⟩:=e
  obtain⟨t,rfl⟩:=r.1
  exact .cons (by simp[intKind,Value.isInt]) (ints_reps r.2 e)
 |_::_,.none::_,_,_,_,e=>by simp[ints?] at e
 |_::_,.bool _::_,_,_,_,e=>by simp[ints?] at e
 |_::_,.str _::_,_,_,_,e=>by simp[ints?] at e
 |_::_,.tup _::_,_,_,_,e=>by simp[ints?] at e
 |_::_,.ref _::_,_,_,_,e=>by simp[ints?] at e
 |_::_,.fro _::_,_,_,_,e=>by simp[ints?] at e
 | [],_::_,_,_,r,_=>by simp[Reps] at r
 |_::_,[],_,_,r,_=>by simp[Reps] at r
theorem ints_eq:∀{ds:List D} {ks:List Int},ints? ds=some ks→ds=ks.map .int
 | [],ks,e=>by simp only[ints?,Option.some.injEq] at e;subst e;rfl
 | .int i::ds,ks,e=>by
  simp only[ints?,Option.map_eq_some_iff] at e
  obtain⟨k,e,rfl⟩:=e
  rw[ints_eq e];rfl
 | .none::_,_,e=>by simp[ints?] at e
 | .bool _::_,_,e=>by simp[ints?] at e
 | .str _::_,_,e=>by simp[ints?] at e
 | .tup _::_,_,e=>by simp[ints?] at e
 | .ref _::_,_,e=>by simp[ints?] at e
 | .fro _::_,_,e=>by simp[ints?] at e
theorem lex_gt:∀(vs us:List Value) (p q:List Int) (k:Nat),ItemsAre (intKind prog w) p vs→ItemsAre (intKind prog w) q us→Lex .Gt A s vs us (decide (vs.length+k>us.length+k)) (gtInts p q)
 | [],[],[],[],k,_,_=>by
  have:decide (([]:List Value).length+k>([]:List Value).length+k)=false:=by simp
  rw[this];exact .nilL
 | [],u::us,[],j::q,k,_,_=>by
  have:decide (([]:List Value).length+k>(u::us).length+k)=false:=by simp
  rw[this];exact .nilL
 |v::vs,[],i::p,[],k,_,_=>by
  have:decide ((v::vs).length+k>([]:List Value).length+k)=true:=by simp
  rw[this];exact .nilR
 |v::vs,u::us,i::p,j::q,k,hx,hy=>by
  cases hx with
  |cons h1 hx=>
   cases hy with
   |cons h2 hy=>
    obtain⟨t,rfl⟩:=Value.isInt_shape h1
    obtain⟨t',rfl⟩:=Value.isInt_shape h2
    have e2:∀v u:Value,decide ((v::vs).length+k>(u::us).length+k)=decide (vs.length+(k+1)>us.length+(k+1)):=by intro v u;simp
    rw[e2]
    simp only[gtInts]
    by_cases hij:i=j
    ·subst hij
     rw[if_pos rfl]
     refine .same ?_ (lex_gt vs us p q (k+1) hx hy)
     have:=EqAt.int_int (A:=A) (s:=s) i t i t'
     rwa [beq_self_eq_true] at this
    ·rw[if_neg hij]
     refine .diff ?_ (fun prog w E Q h=>P.gt_int h)
     have:=EqAt.int_int (A:=A) (s:=s) i t j t'
     rwa [beq_eq_false_iff_ne.mpr hij] at this
 | [],_,_::_,_,_,hx,_=>by cases hx
 |_::_,_,[],_,_,hx,_=>by cases hx
 |_,[],_,_::_,_,_,hy=>by cases hy
 |_,_::_,_,[],_,_,hy=>by cases hy
theorem rc_ok (hl:∃o,H₀.get? sysModules=some o) (x:SR prog w H₀ ρ σ s.heap) {n:Nat} {va vb:Value} {a b:D} {r:Bool} (hu:A.units+3*n<cLine) (ra:Rep H₀ s.heap ρ va a) (rb:Rep H₀ s.heap ρ vb b)
  (hne:∀i,a = .ref i→b = .ref i→False) (e:eqD σ n a b=some r):RcAt A s va vb r∧RcNeAt A s va vb (!r):=by
 cases n with
 |zero=>cases e
 |succ n=>
  have hu':A.in1.units+3*n<cLine:=by show A.units+1+3*n<cLine;omega
  unfold eqD at e
  split at e
  ·cases e;simp only[Rep] at ra rb;subst ra;subst rb;exact⟨RcAt.none_none,RcNeAt.none_none⟩
  ·cases e;simp only[Rep] at ra rb;subst ra;subst rb;exact⟨RcAt.bool_bool _ _,RcNeAt.bool_bool _ _⟩
  ·cases e;simp only[Rep] at ra rb
   obtain⟨t,rfl⟩:=ra;obtain⟨u,rfl⟩:=rb;exact⟨RcAt.int_int _ _ _ _,RcNeAt.int_int _ _ _ _⟩
  ·cases e;simp only[Rep] at ra rb
   obtain⟨t,rfl⟩:=ra;obtain⟨u,rfl⟩:=rb;exact⟨RcAt.str_str _ _ _ _,RcNeAt.str_str _ _ _ _⟩
  ·rename_i xs ys
   split at e
   ·rename_i hlen
    obtain⟨t,vs,ep,rfl,g,r1⟩:=ra
    obtain⟨u,ws,ep',rfl,g',r2⟩:=rb
    have h1:=r1.length;have h2:=r2.length
    simp at h1 h2
    have he:=fun j (h1:j<vs.size) (h2:j<ws.size)=>by
     have:=eqAll_each (A:=A.in1) (s:=s) (eqD σ n) (fun v u a b r ha hb he=>eq_ok hl x n A.in1 v u a b r hu' ha hb he) vs.toList ws.toList xs ys r r1 r2 e j (by simpa using h1) (by simpa using h2)
     simpa using this
    have t1:=RcAt.tuples (A:=A) (s:=s) (e:=eqAt (eqD σ n) xs ys) (items:=vs) (items2:=ws) ⟨_,g,rfl,_,rfl⟩ ⟨_,g',rfl,_,rfl⟩ (by omega) he
    have t2:=RcNeAt.tuples (A:=A) (s:=s) (e:=eqAt (eqD σ n) xs ys) (items:=vs) (items2:=ws) ⟨_,g,rfl,_,rfl⟩ ⟨_,g',rfl,_,rfl⟩ (by omega) he
    have e2:=eqAll_range (eqD σ n) xs ys r e
    have h3:min vs.size ws.size=xs.length:=by omega
    have h4:(vs.size==ws.size)=true:=by simp;omega
    rw[h3,h4,Bool.and_true] at t1 t2
    rw[show(List.range xs.length).all (eqAt (eqD σ n) xs ys)=r from e2] at t1 t2
    exact⟨t1,t2⟩
   ·cases e
  ·rename_i i j
   obtain⟨t,rfl,g⟩:=ra
   obtain⟨u,rfl,g'⟩:=rb
   split at e
   ·rename_i hij
    exact absurd rfl (fun q=>hne i q (by rw[hij]))
   ·rename_i hij
    split at e
    ·rename_i xs v1 ys v2 hi hj
     obtain⟨vs,ep,gl,r1⟩:=x.objs _ _ _ g hi
     obtain⟨ws,ep',gl',r2⟩:=x.objs _ _ _ g' hj
     have h1:=r1.length;have h2:=r2.length
     simp at h1 h2
     split at e
     ·rename_i hlen
      have he:=fun j (h1:j<vs.size) (h2:j<ws.size)=>by
       have:=eqAll_each (A:=A.in1) (s:=s) (eqD σ n) (fun v u a b r ha hb he=>eq_ok hl x n A.in1 v u a b r hu' ha hb he) vs.toList ws.toList xs ys r r1 r2 e j (by simpa using h1) (by simpa using h2)
       simpa using this
      have t1:=RcAt.lists (A:=A) (s:=s) (e:=eqAt (eqD σ n) xs ys) (items:=vs) (items2:=ws) ⟨_,gl,rfl,_,rfl⟩ ⟨_,gl',rfl,_,rfl⟩ (by omega) (by omega) he
      have t2:=RcNeAt.lists (A:=A) (s:=s) (e:=eqAt (eqD σ n) xs ys) (items:=vs) (items2:=ws) ⟨_,gl,rfl,_,rfl⟩ ⟨_,gl',rfl,_,rfl⟩ (by omega) (by omega) he
      have e2:=eqAll_range (eqD σ n) xs ys r e
      rw[h1] at t1 t2
      rw[show(List.range xs.length).all (eqAt (eqD σ n) xs ys)=r from e2] at t1 t2
      exact⟨t1,t2⟩
     ·rename_i hlen
      cases e
      exact⟨RcAt.lists_lengths (items:=vs) (items2:=ws) ⟨_,gl,rfl,_,rfl⟩ ⟨_,gl',rfl,_,rfl⟩ (by simp;omega) (by omega),
       RcNeAt.lists_lengths (items:=vs) (items2:=ws) ⟨_,gl,rfl,_,rfl⟩ ⟨_,gl',rfl,_,rfl⟩ (by simp;omega) (by omega)⟩
    ·rename_i es v1 fs v2 hi hj
     obtain⟨xs,dx,mx,r1,_⟩:=x.objs _ _ _ g hi
     obtain⟨ys,dy,my,r2,_⟩:=x.objs _ _ _ g' hj
     have h1:xs.length=es.length:=by simpa using congrArg List.length mx
     have h2:ys.length=fs.length:=by simpa using congrArg List.length my
     have m1:=notModules hl x (List.mem_of_getElem? g)
     have m2:=notModules hl x (List.mem_of_getElem? g')
     have hits:∀r,eqEs (eqD σ n) fs es=some r→Hits A.in1 s ys xs r:=fun r e=>
      hits_of (A:=A.in1) (f:=eqD σ n) (fun v u a b r ha hb he=>eq_ok hl x n A.in1 v u a b r hu' ha hb he) my r2 xs es r mx r1 e
     split at e
     ·rename_i hlen
      have hq:(xs.length==ys.length&&r)=r:=by rw[h1,h2,hlen];simp
      exact⟨fun prog' w' E Q h=>dict_eqH (prog:=prog') (w:=w') (r:=r) m1 m2 (dictOfH_any dx) (dictOfH_any dy) (by omega) (fun _=>hits r e) (by rw[hq];exact h),
       fun prog' w' E Q h=>dict_neH (prog:=prog') (w:=w') (r:=r) m1 m2 (dictOfH_any dx) (dictOfH_any dy) (by omega) (fun _=>hits r e) (by rw[hq];exact h)⟩
     ·rename_i hlen
      cases e
      have hq:(xs.length==ys.length)=false:=by rw[h1,h2];simpa using hlen
      exact⟨fun prog' w' E Q h=>dict_eqH (prog:=prog') (w:=w') (r:=false) m1 m2 (dictOfH_any dx) (dictOfH_any dy) (by omega) (fun q=>absurd (by rw[←h1,←h2,q]) hlen) (by rw[hq];exact h),
       fun prog' w' E Q h=>dict_neH (prog:=prog') (w:=w') (r:=false) m1 m2 (dictOfH_any dx) (dictOfH_any dy) (by omega) (fun q=>absurd (by rw[←h1,←h2,q]) hlen) (by rw[hq];exact h)⟩
    ·cases e
  ·cases e
theorem key_ok {vs:Array Value} {ep:Nat} {t:Addr} {ds:List D} {k:List Int} (g:s.heap.get? t=some (seqObj "tuple" vs ep)) (r:Reps H₀ s.heap ρ vs.toList ds) (e:ints? ds=some k):(kTup prog w).is s.heap k t:=
 ⟨_,vs,ep,g,rfl,rfl,ints_reps r e⟩
def COp.py:COp→CmpOp
 | .eq=>.Eq | .ne=>.NotEq | .lt=>.Lt | .gt=>.Gt | .isin=>.In | .notin=>.NotIn
theorem anyEq_all {a:D}:∀(ds:List D) (r:Bool),cmpD.anyEq σ a ds=some r→(r=ds.any fun d=>(eqD σ CF d a).getD false)∧∀d∈ds,∃b,eqD σ CF d a=some b
 | [],r,e=>by simp only[cmpD.anyEq,Option.some.injEq] at e;simp[←e]
 |d::ds,r,e=>by
  simp only[cmpD.anyEq] at e
  split at e
  ·rename_i p q h1 h2
   cases e
   obtain⟨e1,e2⟩:=anyEq_all ds q h2
   refine⟨by simp[h1,e1],fun d' hd=>?_⟩
   rcases List.mem_cons.mp hd with rfl|hd
   ·exact⟨p,h1⟩
   ·exact e2 d' hd
  ·cases e
mutual
theorem Rep.inj {h:Heap} (x:SR prog w H₀ ρ σ h):∀{v:Value} (a b:D),Rep H₀ h ρ v a→Rep H₀ h ρ v b→a=b
 |_,.none,.none,_,_=>rfl
 |_,.bool p,.bool q,h1,h2=>by simp only[Rep] at h1 h2;subst h1;cases h2;rfl
 |_,.int p,.int q,⟨t,h1⟩,⟨u,h2⟩=>by subst h1;cases h2;rfl
 |_,.str p,.str q,⟨t,h1⟩,⟨u,h2⟩=>by subst h1;cases h2;rfl
 |_,.tup xs,.tup ys,⟨t,vs,ep,h1,g1,r1⟩,⟨u,ws,ep',h2,g2,r2⟩=>by
  subst h1;cases h2
  rw[g1] at g2;cases g2
  rw[Reps.same_inj x xs ys r1 r2]
 |_,.ref i,.ref j,⟨t,h1,g1⟩,⟨u,h2,g2⟩=>by
  subst h1;cases h2
  have:i=j:=(List.getElem?_inj (List.getElem?_eq_some_iff.mp g1).1 x.nd).mp (g1.trans g2.symm)
  rw[this]
 |_,.fro xs,.fro ys,⟨t,o,vs,ep,h1,g1,_,d1,r1⟩,⟨u,o',ws,ep',h2,g2,_,d2,r2⟩=>by
  subst h1;cases h2
  rw[g1] at g2;cases g2
  rw[d1] at d2;cases d2
  rw[Reps.same_inj x xs ys r1 r2]
 |_,.none,.bool _,h1,h2=>by simp only[Rep] at h1 h2;subst h1;cases h2
 |_,.none,.int _,h1,⟨_,h2⟩=>by simp only[Rep] at h1;subst h1;cases h2
 |_,.none,.str _,h1,⟨_,h2⟩=>by simp only[Rep] at h1;subst h1;cases h2
 |_,.none,.tup _,h1,⟨_,_,_,h2,_⟩=>by simp only[Rep] at h1;subst h1;cases h2
 |_,.none,.ref _,h1,⟨_,h2,_⟩=>by simp only[Rep] at h1;subst h1;cases h2
 |_,.none,.fro _,h1,⟨_,_,_,_,h2,_⟩=>by simp only[Rep] at h1;subst h1;cases h2
 |_,.bool _,.none,h1,h2=>by simp only[Rep] at h1 h2;subst h1;cases h2
 |_,.bool _,.int _,h1,⟨_,h2⟩=>by simp only[Rep] at h1;subst h1;cases h2
 |_,.bool _,.str _,h1,⟨_,h2⟩=>by simp only[Rep] at h1;subst h1;cases h2
 |_,.bool _,.tup _,h1,⟨_,_,_,h2,_⟩=>by simp only[Rep] at h1;subst h1;cases h2
 |_,.bool _,.ref _,h1,⟨_,h2,_⟩=>by simp only[Rep] at h1;subst h1;cases h2
 |_,.bool _,.fro _,h1,⟨_,_,_,_,h2,_⟩=>by simp only[Rep] at h1;subst h1;cases h2
 |_,.int _,.none,⟨_,h1⟩,h2=>by simp only[Rep] at h2;subst h1;cases h2
 |_,.int _,.bool _,⟨_,h1⟩,h2=>by simp only[Rep] at h2;subst h1;cases h2
 |_,.int _,.str _,⟨_,h1⟩,⟨_,h2⟩=>by subst h1;cases h2
 |_,.int _,.tup _,⟨_,h1⟩,⟨_,_,_,h2,_⟩=>by subst h1;cases h2
 |_,.int _,.ref _,⟨_,h1⟩,⟨_,h2,_⟩=>by subst h1;cases h2
 |_,.int _,.fro _,⟨_,h1⟩,⟨_,_,_,_,h2,_⟩=>by subst h1;cases h2
 |_,.str _,.none,⟨_,h1⟩,h2=>by simp only[Rep] at h2;subst h1;cases h2
 |_,.str _,.bool _,⟨_,h1⟩,h2=>by simp only[Rep] at h2;subst h1;cases h2
 |_,.str _,.int _,⟨_,h1⟩,⟨_,h2⟩=>by subst h1;cases h2
 |_,.str _,.tup _,⟨_,h1⟩,⟨_,_,_,h2,_⟩=>by subst h1;cases h2
 |_,.str _,.ref _,⟨_,h1⟩,⟨_,h2,_⟩=>by subst h1;cases h2
 |_,.str _,.fro _,⟨_,h1⟩,⟨_,_,_,_,h2,_⟩=>by subst h1;cases h2
 |_,.tup _,.none,⟨_,_,_,h1,_⟩,h2=>by simp only[Rep] at h2;subst h1;cases h2
 |_,.tup _,.bool _,⟨_,_,_,h1,_⟩,h2=>by simp only[Rep] at h2;subst h1;cases h2
 |_,.tup _,.int _,⟨_,_,_,h1,_⟩,⟨_,h2⟩=>by subst h1;cases h2
 |_,.tup _,.str _,⟨_,_,_,h1,_⟩,⟨_,h2⟩=>by subst h1;cases h2
 |_,.tup _,.ref _,⟨_,_,_,h1,g1,_⟩,⟨_,h2,g2⟩=>by
  subst h1;cases h2
  exact absurd (List.mem_of_getElem? g2) (x.tupNot g1)
 |_,.tup _,.fro _,⟨_,_,_,h1,g1,_⟩,⟨_,_,_,_,h2,g2,c2,_⟩=>by
  subst h1;cases h2
  rw[x.keep _ _ g2] at g1;cases g1
  simp at c2
 |_,.ref _,.none,⟨_,h1,_⟩,h2=>by simp only[Rep] at h2;subst h1;cases h2
 |_,.ref _,.bool _,⟨_,h1,_⟩,h2=>by simp only[Rep] at h2;subst h1;cases h2
 |_,.ref _,.int _,⟨_,h1,_⟩,⟨_,h2⟩=>by subst h1;cases h2
 |_,.ref _,.str _,⟨_,h1,_⟩,⟨_,h2⟩=>by subst h1;cases h2
 |_,.ref _,.tup _,⟨_,h1,g1⟩,⟨_,_,_,h2,g2,_⟩=>by
  subst h1;cases h2
  exact absurd (List.mem_of_getElem? g1) (x.tupNot g2)
 |_,.ref _,.fro _,⟨_,h1,g1⟩,⟨_,_,_,_,h2,g2,_⟩=>by
  subst h1;cases h2
  rw[x.new _ (List.mem_of_getElem? g1)] at g2;cases g2
 |_,.fro _,.none,⟨_,_,_,_,h1,_⟩,h2=>by simp only[Rep] at h2;subst h1;cases h2
 |_,.fro _,.bool _,⟨_,_,_,_,h1,_⟩,h2=>by simp only[Rep] at h2;subst h1;cases h2
 |_,.fro _,.int _,⟨_,_,_,_,h1,_⟩,⟨_,h2⟩=>by subst h1;cases h2
 |_,.fro _,.str _,⟨_,_,_,_,h1,_⟩,⟨_,h2⟩=>by subst h1;cases h2
 |_,.fro _,.tup _,⟨_,_,_,_,h1,g1,c1,_⟩,⟨_,_,_,h2,g2,_⟩=>by
  subst h1;cases h2
  rw[x.keep _ _ g1] at g2;cases g2
  simp at c1
 |_,.fro _,.ref _,⟨_,_,_,_,h1,g1,_⟩,⟨_,h2,g2⟩=>by
  subst h1;cases h2
  rw[x.new _ (List.mem_of_getElem? g2)] at g1;cases g1
theorem Reps.same_inj {h:Heap} (x:SR prog w H₀ ρ σ h):∀{vs:List Value} (xs ys:List D),Reps H₀ h ρ vs xs→Reps H₀ h ρ vs ys→xs=ys
 | [],[],[],_,_=>rfl
 |_::_,a::xs,b::ys,h1,h2=>by
  simp only[Reps] at h1 h2
  rw[Rep.inj x a b h1.1 h2.1,Reps.same_inj x xs ys h1.2 h2.2]
 | [],_::_,_,h1,_=>by simp[Reps] at h1
 | [],_,_::_,_,h2=>by simp[Reps] at h2
 |_::_,[],_,h1,_=>by simp[Reps] at h1
 |_::_,_,[],_,h2=>by simp[Reps] at h2
end
theorem Reps.mem {h:Heap}:∀{vs:List Value} {ds:List D},Reps H₀ h ρ vs ds→∀v∈vs,∃d∈ds,Rep H₀ h ρ v d
 | [],[],_,v,hv=>by cases hv
 |u::vs,e::ds,r,v,hv=>by
  simp only[Reps] at r
  rcases List.mem_cons.mp hv with rfl|hv
  ·exact⟨e,.head _,r.1⟩
  ·obtain⟨d,hd,q⟩:=r.2.mem v hv
   exact⟨d,.tail _ hd,q⟩
 | [],_::_,r,_,_=>by simp[Reps] at r
 |_::_,[],r,_,_=>by simp[Reps] at r
open Classical in
theorem any_val (x:SR prog w H₀ ρ σ s.heap) (f:D→Bool) {vs:List Value} {ds:List D} (r:Reps H₀ s.heap ρ vs ds) :
  vs.any (fun v=>if h:∃d,Rep H₀ s.heap ρ v d then f h.choose else false)=ds.any f:=by
 have one:∀v d,Rep H₀ s.heap ρ v d→(if h:∃d,Rep H₀ s.heap ρ v d then f h.choose else false)=f d:=fun v d hd=>by
  have hex:∃d,Rep H₀ s.heap ρ v d:=⟨d,hd⟩
  rw[dif_pos hex,Rep.inj x _ _ hex.choose_spec hd]
 induction vs generalizing ds with
 |nil=>cases ds with
  |nil=>rfl
  |cons _ _=>simp[Reps] at r
 |cons v vs ih=>cases ds with
  |nil=>simp[Reps] at r
  |cons d ds=>
   simp only[Reps] at r
   rw[List.any_cons,List.any_cons,ih r.2,one v d r.1]
open Classical in
theorem cmp_ok (hl:∃o,H₀.get? sysModules=some o) (x:SR prog w H₀ ρ σ s.heap) (hu:A.units+40<cLine) {op:COp} {va vb:Value} {a b:D} {r:Bool} (ra:Rep H₀ s.heap ρ va a) (rb:Rep H₀ s.heap ρ vb b)
  (e:cmpD op a b σ=some r) {Q:Value→Shared→Prop} (h:∀tk,Q (.bool r) { s with toks:=tk }):wpAny (model prog w) A (compareOp op.py va vb) Q E s:=by
 have h0:Q (.bool r) s:=h s.toks
 have hcf:A.units+3*CF<cLine:=by show A.units+3*8<cLine;omega
 cases op with
 |eq=>
  have e':eqD σ CF a b=some r∧∀i,a = .ref i→b = .ref i→False:=by
   simp only[cmpD] at e
   split at e
   ·rename_i i j
    split at e
    ·cases e
    ·rename_i hij
     exact⟨e,fun k h1 h2=>by cases h1;cases h2;exact hij rfl⟩
   ·rename_i hne
    exact⟨e,fun k h1 h2=>hne k k h1 h2⟩
  exact(rc_ok hl x hcf ra rb e'.2 e'.1).1 prog w E Q h0
 |ne=>
  have e':∃q,eqD σ CF a b=some q∧r = !q∧∀i,a = .ref i→b = .ref i→False:=by
   simp only[cmpD] at e
   split at e
   ·rename_i i j
    split at e
    ·cases e
    ·rename_i hij
     obtain⟨q,e2,rfl⟩:=Option.map_eq_some_iff.mp e
     exact⟨q,e2,rfl,fun k h1 h2=>by cases h1;cases h2;exact hij rfl⟩
   ·rename_i hne
    obtain⟨q,e2,rfl⟩:=Option.map_eq_some_iff.mp e
    exact⟨q,e2,rfl,fun k h1 h2=>hne k k h1 h2⟩
  obtain⟨q,e1,rfl,e2⟩:=e'
  exact(rc_ok hl x hcf ra rb e2 e1).2 prog w E Q h0
 |lt=>
  simp only[cmpD] at e
  split at e
  ·cases e;simp only[Rep] at ra rb
   obtain⟨t,rfl⟩:=ra;obtain⟨u,rfl⟩:=rb
   exact P.lt_int h0
  ·cases e
 |gt=>
  simp only[cmpD] at e
  split at e
  ·cases e;simp only[Rep] at ra rb
   obtain⟨t,rfl⟩:=ra;obtain⟨u,rfl⟩:=rb
   exact P.gt_int h0
  ·split at e
   ·rename_i p q hp hq
    cases e
    obtain⟨t,vs,ep,rfl,g,r1⟩:=ra
    obtain⟨u,ws,ep',rfl,g',r2⟩:=rb
    have:=lex_gt (prog:=prog) (w:=w) (A:=A.in1) (s:=s) vs.toList ws.toList p q 0 (ints_reps r1 hp) (ints_reps r2 hq)
    exact richCompare_meets_room (op:=.Gt) ⟨_,g,rfl⟩ ⟨_,g',rfl⟩ PySem.F.slot_tuple_gt PySem.F.entry_tuple_gt (PySem.F.args_tuple_gt_2 _ _) (tuple_gtAt t u vs ws ep ep' (gtInts p q))
     ⟨g,g',by simpa using this,show Value.bool _≠Value.notImplemented∧Q (.bool _) s from ⟨(fun x=>nomatch x),h0⟩⟩ (by omega)
   ·cases e
  ·cases e
 |isin=>
  simp only[cmpD] at e
  split at e
  ·rename_i xs i
   split at e
   ·rename_i es v1 k hi hk
    cases e
    obtain⟨t,vs,ep,rfl,g,r1⟩:=ra
    obtain⟨u,rfl,g'⟩:=rb
    obtain⟨ys,dy,my,r2,_⟩:=x.objs _ _ _ g' hi
    refine wpAny_in_heap (knd:=kTup prog w) (k:=k) (by show A.units+1<cLine;omega) (key_ok g r1 hk) (notModules hl x (List.mem_of_getElem? g')) dy ?_
    have q:=atKey_dget (H₀:=H₀) (ρ:=ρ) ys es my r2 k
    cases hd:dget es k with
    |none=>rw[hd] at h;rw[q.1 hd];exact h _
    |some d=>
     obtain⟨b,u,q1,_⟩:=q.2 d hd
     rw[hd] at h
     rw[q1];exact h _
   ·cases e
  ·cases e
 |notin=>
  simp only[cmpD] at e
  split at e
  ·rename_i i j
   split at e
   ·rename_i ds v1 hj
    obtain⟨q,e3,rfl⟩:=Option.map_eq_some_iff.mp e
    obtain⟨e1,e2⟩:=anyEq_all _ _ e3
    obtain⟨u,rfl,g'⟩:=rb
    obtain⟨ws,ep',gl,r2⟩:=x.objs _ _ _ g' hj
    have hany:=any_val x (fun d=>(eqD σ CF d (.ref i)).getD false) r2
    refine notIn_listAt (items:=ws) (fun v=>if h:∃d,Rep H₀ s.heap ρ v d then (eqD σ CF h.choose (.ref i)).getD false else false) ⟨_,gl,rfl,_,rfl⟩ (fun y hy=>?_) ?_
    ·obtain⟨d,hd,q⟩:=r2.mem y (by simpa using hy)
     obtain⟨b,hb⟩:=e2 d hd
     have hex:∃d,Rep H₀ s.heap ρ y d:=⟨d,q⟩
     rw[dif_pos hex,Rep.inj x _ _ hex.choose_spec q,hb]
     exact eq_ok hl x CF A.in1 y va d (.ref i) b (by show A.units+1+3*8<cLine;omega) q ra hb
    ·rw[←Array.any_toList,hany,←e1]
     exact h0
   ·cases e
  ·cases e
end
structure Cfg where
 prog:Program
 w:World
 H₀:Heap
 mg:Str→Option Value
 mb:Str→Option Value
 FT:List Fn
 W:Nat
 fa:Nat→Addr
 fn:List Str
abbrev Cfg.M (K:Cfg):Model:=model K.prog K.w
abbrev Cfg.sr (K:Cfg) (ρ:List Addr) (σ:St) (h:Heap):Prop:=SR K.prog K.w K.H₀ ρ σ h
abbrev Cfg.rep (K:Cfg) (h:Heap) (ρ:List Addr) (v:Value) (d:D):Prop:=Rep K.H₀ h ρ v d
abbrev Cfg.C (K:Cfg) (n:Nat):Nat→List D→St→Option (D×St):=evCall K.FT K.W n
def BN:List Str:=["abs", "len", "sum", "max", "list", "dict", "tuple", "sorted", "enumerate", "range"]
structure Cfg.Ok (K:Cfg):Prop where
 g:K.H₀.Ns mainGlobals K.mg
 b:K.H₀.Ns builtinsNs K.mb
 built:∀x:Str,x≠"__name__"→K.mb x=bootBuiltins x
 nolimit:K.H₀.NoLimit
 big:∃o,K.H₀.get? sysModules=some o
 free:∀x∈BN,K.mg x=none
 fns:∀i x,K.fn[i]?=some x→K.mg x=some (.ref (K.fa i))∧∃o fd,K.H₀.get? (K.fa i)=some o∧o.data = .func fd
 r0:∃a ep t u,K.mg "R0"=some (.ref a)∧K.H₀.get? a=some (seqObj "tuple" #[.int 0 t,.int 1 u] ep)
structure Room (n:Nat) (A:Around):Prop where
 handled:A.handled=none
 depth:A.depth+n<recursionLimit
 units:A.units+30*n+200<cLine
theorem Room.u {n:Nat} {A:Around} (r:Room n A):A.units+40<cLine:=by have:=r.units;omega
structure Ctx where
 scope:Scope
 vars:List (Str×Nat)
 next:Nat
structure EnvOK (c:Ctx) (env:Env):Prop where
 kind:env.scope.kind = .function
 names:∀x k,c.scope.names.lookup x=some k→env.kindOf x=some k∨(k = .free∧env.kindOf x=some .cell)
 globals:env.globals=mainGlobals
 builtins:env.builtins=builtinsNs
theorem EnvOK.glob {c:Ctx} {env:Env} (e:EnvOK c env) (x:Str) (h:c.scope.names.lookup x=some .globalImplicit):env.kindOf x=some .globalImplicit:=by
 rcases e.names x _ h with h | ⟨h,_⟩
 ·exact h
 ·cases h
section
variable (K:Cfg)
def VarAt (env:Env) (h:Heap) (ρ:List Addr) (x:Str) (od:Option D):Prop:=
 (env.kindOf x=some .local∧∃m,h.Ns env.locals m∧∀d,od=some d→∃v,m x=some v∧K.rep h ρ v d)∨
 ((env.kindOf x=some .cell∨env.kindOf x=some .free)∧∃c ov,env.cells.lookup x=some c∧h.IsCell c ov∧∀d,od=some d→∃v,ov=some v∧K.rep h ρ v d)
def frame (c:Ctx) (env:Env):List Addr:=env.locals::c.vars.filterMap fun p=>if c.scope.names.lookup p.1=some .cell then env.cells.lookup p.1 else none
structure Vars (c:Ctx) (env:Env) (h:Heap) (ρ:List Addr) (l:Loc):Prop where
 ns:∃m,h.Ns env.locals m
 apart:env.locals∉ρ
 at_:∀p∈c.vars,VarAt K env h ρ p.1 (l[p.2]?).join
 inj:∀p∈c.vars,∀q∈c.vars,p.1≠q.1→∀a,env.cells.lookup p.1=some a→env.cells.lookup q.1≠some a
 base:∀a∈frame c env,K.H₀.get? a=none
 rest:∀j,c.next≤j→(l[j]?).join=none
structure At (c:Ctx) (env:Env) (n:Nat) (A:Around) (s:Shared) (ρ:List Addr) (σ:St) (l:Loc):Prop where
 ok:K.Ok
 ev:EnvOK c env
 room:Room n A
 sr:K.sr ρ σ s.heap
 vars:Vars K c env s.heap ρ l
abbrev PostK (ρ:List Addr) (σ σ':St) (s:Shared) (d:D) (Q:Value→Shared→Prop):Prop:=Post K.prog K.w K.H₀ ρ σ σ' s d Q
def CallsOK (n:Nat):Prop:=
 ∀f ds σ d σ' A s ρ vals Q E,K.C n f ds σ=some (d,σ')→K.Ok→K.sr ρ σ s.heap→Reps K.H₀ s.heap ρ vals ds→Room n A→PostK K ρ σ σ' s d Q→wpAny K.M A (call (.ref (K.fa f)) vals) Q E s
def SimE (c:Ctx) (e:Expr) (x:X):Prop:=
 ∀env n A s ρ σ l d σ' Q E,At K c env n A s ρ σ l→CallsOK K n→ev (K.C n) x l σ=some (d,σ')→PostK K ρ σ σ' s d Q→wpAny K.M A (eval e env) Q E s
def SimT (c:Ctx) (e:Expr) (x:X):Prop:=
 ∀env n A s ρ σ l d b σ' Q E,At K c env n A s ρ σ l→CallsOK K n→ev (K.C n) x l σ=some (d,σ')→truthD d=some b→
  (∀ρ' h' tk',Grow ρ σ ρ' σ' s.heap h'→K.sr ρ' σ' h'→Q b { s with heap:=h',toks:=tk' })→wpAny K.M A (isTrue e env (eval e env)) Q E s
def Sim (c:Ctx) (e:Expr) (x:X):Prop:=SimE K c e x∧SimT K c e x
end
section
variable {K:Cfg} {c:Ctx} {env:Env} {n:Nat} {A:Around} {s:Shared} {ρ:List Addr} {σ:St} {l:Loc}
theorem SR.data {ρ:List Addr} {σ:St} {h:Heap} (x:K.sr ρ σ h) {a:Addr} (ha:a∈ρ):∃ob,h.get? a=some ob∧((∃xs n,ob.data = .seq xs n)∨∃es n,ob.data = .dict es n):=by
 obtain⟨i,hi,rfl⟩:=List.getElem_of_mem ha
 have:=x.objs i _ (σ[i]'(by rw[←x.len];exact hi)) (List.getElem?_eq_getElem hi) (List.getElem?_eq_getElem _)
 revert this
 cases σ[i]'(by rw[←x.len];exact hi) with
 |list ds=>intro this;obtain⟨vs,ep,e,_⟩:=this;exact⟨_,e,.inl ⟨_,_,rfl⟩⟩
 |dict es=>intro this;obtain⟨xs,⟨o,es',ep,e,_,d,_⟩,_⟩:=this;exact⟨_,e,.inr ⟨_,_,d⟩⟩
theorem SR.cellNot {ρ:List Addr} {σ:St} {h:Heap} (x:K.sr ρ σ h) {a:Addr} {ov:Option Value} (e:h.IsCell a ov):a∉ρ:=fun ha=>by
 obtain⟨ob,e',hd⟩:=SR.data x ha
 obtain⟨o,e,d⟩:=e
 rw[e] at e';cases e'
 rcases hd with⟨_,_,hd⟩ | ⟨_,_,hd⟩<;>rw[hd] at d<;>cases d
theorem IsCell.grow {ρ ρ':List Addr} {σ σ₀ σ':St} {h h':Heap} {a:Addr} {ov:Option Value} (e:h.IsCell a ov) (x:K.sr ρ σ h) (g:Grow ρ σ₀ ρ' σ' h h'):h'.IsCell a ov:=by
 have hn:=SR.cellNot x e
 obtain⟨o,e,d⟩:=e
 exact⟨o,g.ext _ _ e hn,d⟩
theorem Ns.grow {ρ ρ':List Addr} {σ₀ σ':St} {h h':Heap} {a:Addr} {m:Str→Option Value} (e:h.Ns a m) (ha:a∉ρ) (g:Grow ρ σ₀ ρ' σ' h h'):h'.Ns a m:=by
 obtain⟨o,es,ep,e,r⟩:=e
 exact⟨o,es,ep,g.ext _ _ e ha,r⟩
theorem Grow.notIn {ρ ρ':List Addr} {σ₀ σ':St} {h h':Heap} {a:Addr} {o:Obj} (g:Grow ρ σ₀ ρ' σ' h h') (ha:a∉ρ) (hl:h.get? a=some o):a∉ρ':=by
 obtain⟨τ,rfl,hτ⟩:=g.pre
 intro hm
 rcases List.mem_append.mp hm with hm|hm
 ·exact ha hm
 ·rw[hτ a hm] at hl;cases hl
theorem Vars.grow {ρ ρ':List Addr} {σ σ₀ σ':St} {h h':Heap} (v:Vars K c env h ρ l) (x:K.sr ρ σ h) (g:Grow ρ σ₀ ρ' σ' h h'):Vars K c env h' ρ' l where
 ns:=let ⟨m,e⟩:=v.ns;⟨m,Ns.grow e v.apart g⟩
 apart:=let ⟨_,_,_,_,e,_⟩:=v.ns;g.notIn v.apart e
 inj:=v.inj
 base:=v.base
 rest:=v.rest
 at_:=fun p hp=>by
  rcases v.at_ p hp with⟨hk,m,e,hv⟩ | ⟨hk,cc,ov,hc,e,hv⟩
  ·exact .inl ⟨hk,m,Ns.grow e v.apart g,fun d hd=>let ⟨u,e1,r⟩:=hv d hd;⟨u,e1,r.grow x g⟩⟩
  ·exact .inr ⟨hk,cc,ov,hc,IsCell.grow e x g,fun d hd=>let ⟨u,e1,r⟩:=hv d hd;⟨u,e1,r.grow x g⟩⟩
theorem At.grow {ρ':List Addr} {σ':St} {h':Heap} (a:At K c env n A s ρ σ l) (g:Grow ρ σ ρ' σ' s.heap h') (x:K.sr ρ' σ' h') (tk:Nat):At K c env n A { s with heap:=h',toks:=tk } ρ' σ' l:=
 ⟨a.ok,a.ev,a.room,x,a.vars.grow a.sr g⟩
theorem Post.grow {ρ':List Addr} {σ₁ σ':St} {d:D} {h':Heap} {tk:Nat} {Q:Value→Shared→Prop} (p:PostK K ρ σ σ' s d Q) (g:Grow ρ σ ρ' σ₁ s.heap h'):PostK K ρ' σ₁ σ' { s with heap:=h',toks:=tk } d Q:=
 fun v ρ'' h'' tk'' g' x r=>p v ρ'' h'' tk'' (g.trans g') x r
theorem SimT.of {e:Expr} {x:X} (h:SimE K c e x) (he:∀env whole,isTrue e env whole=(do let v←whole;standAt e.pos;holding [v] (truthy v))):SimT K c e x:=
 fun env n A s ρ σ l d b σ' Q E a hC hev hb hq=>by
  refine wpAny_isTrue_value (h env n A s ρ σ l d σ' _ E a hC hev fun v ρ' h' tk' g xr r=>?_) (he env _)
  unfold truthD at hb
  split at hb
  ·cases hb;simp only[Rep] at r;subst r
   exact wpAny_pure (hq _ _ _ g xr)
  ·cases hb;simp only[Rep] at r;subst r
   exact wpAny_truthy_bool (hq _ _ _ g xr)
  ·cases hb;simp only[Rep] at r
   obtain⟨t,rfl⟩:=r
   exact P.truthy_int (hq _ _ _ g xr)
  ·cases hb
theorem Sim.of {e:Expr} {x:X} (h:SimE K c e x) (he:∀env whole,isTrue e env whole=(do let v←whole;standAt e.pos;holding [v] (truthy v))):Sim K c e x:=⟨h,SimT.of h he⟩
theorem Sim.fail (e:Expr):Sim K c e .fail:=⟨fun _ _ _ _ _ _ _ _ _ _ _ _ _ he=>by simp[ev] at he,fun _ _ _ _ _ _ _ _ _ _ _ _ _ _ he=>by simp[ev] at he⟩
def litOf:Const→Option D
 | .none=>some .none
 | .bool b=>some (.bool b)
 | .int i=>some (.int i)
 | .str x=>some (.str x)
 |_=>none
theorem Sim.lit {k:Const} {q:Nat} {pos:Pos} {d:D} (h:litOf k=some d):Sim K c (.Constant k q pos) (.lit d):=
 Sim.of (fun env n A s ρ σ l d' σ' Q E a hC he p=>by
  simp only[ev,Option.some.injEq,Prod.mk.injEq] at he
  obtain⟨rfl,rfl⟩:=he
  cases k<;>simp only[litOf,Option.some.injEq] at h<;>try cases h
  ·exact wpAny_Constant_none (p.same a.sr rfl)
  ·exact wpAny_Constant_bool (p.same a.sr rfl)
  ·exact wpAny_Constant_int (p.tok a.sr _ ⟨_,rfl⟩)
  ·exact wpAny_Constant_str (p.tok a.sr _ ⟨_,rfl⟩)) (fun _ _=>rfl)
theorem loadVar {x:Str} {i:Nat} {d:D} {Q:Value→Shared→Prop} {E:Value→Shared→Prop} (a:At K c env n A s ρ σ l) (hx:(x,i)∈c.vars) (hi:l[i]?=some (some d)) (hcd:(x==("__classdict__":Str))=false)
  (h:∀v,K.rep s.heap ρ v d→Q v s):wpAny K.M A (loadName env x) Q E s:=by
 rcases a.vars.at_ _ hx with⟨hk,m,e,hv⟩ | ⟨hk,cc,ov,hc,e,hv⟩
 ·obtain⟨v,hm,r⟩:=hv d (by rw[hi];rfl)
  exact wpAny_loadName_local a.ev.kind hk e hm (h v r)
 ·obtain⟨v,rfl,r⟩:=hv d (by rw[hi];rfl)
  rcases hk with hk|hk
  ·exact wpAny_loadName_cell a.ev.kind hk hc e (h v r)
  ·exact wpAny_loadName_free a.ev.kind hk hc e (h v r) hcd
def plainName (x:Str):Bool:=(x==("__debug__":Str))==false&&(x==("__classdict__":Str))==false
theorem Sim.var {x:Str} {pos:Pos} {i:Nat} (hx:(x,i)∈c.vars) (hp:plainName x=true):Sim K c (.Name x pos) (.var i):=
 Sim.of (fun env n A s ρ σ l d σ' Q E a hC he p=>by
  simp only[plainName,Bool.and_eq_true,beq_iff_eq] at hp
  simp only[ev] at he
  split at he
  ·rename_i d' hi
   cases he
   exact wpAny_Name (loadVar a hx hi hp.2 fun v r=>p.same a.sr r) hp.1
  ·cases he) (fun _ _=>rfl)
theorem Ok.g' (ok:K.Ok) (x:K.sr ρ σ s.heap) (he:env.globals=mainGlobals):s.heap.Ns env.globals K.mg:=he▸ok.g.keeps x.keep
theorem Ok.b' (ok:K.Ok) (x:K.sr ρ σ s.heap) (he:env.builtins=builtinsNs):s.heap.Ns env.builtins K.mb:=he▸ok.b.keeps x.keep
theorem globName {x:Str} {pos:Pos} {v:Value} {Q E:Value→Shared→Prop} (a:At K c env n A s ρ σ l) (hg:c.scope.names.lookup x=some .globalImplicit) (hp:plainName x=true) (hv:K.mg x=some v) (h:Q v s) :
  wpAny K.M A (eval (.Name x pos) env) Q E s:=by
 simp only[plainName,Bool.and_eq_true,beq_iff_eq] at hp
 exact Calls.Name_function_global a.ev.kind (a.ev.glob x hg) (Calls.loadGlobal_global (Ok.g' a.ok a.sr a.ev.globals) hv h) hp.1
theorem builtName {x:Str} {pos:Pos} {v:Value} {Q E:Value→Shared→Prop} (a:At K c env n A s ρ σ l) (hg:c.scope.names.lookup x=some .globalImplicit) (hp:plainName x=true) (hn:x∈BN) (hne:x≠"__name__") (hv:bootBuiltins x=some v) (h:Q v s) :
  wpAny K.M A (eval (.Name x pos) env) Q E s:=by
 simp only[plainName,Bool.and_eq_true,beq_iff_eq] at hp
 exact Calls.Name_function_global a.ev.kind (a.ev.glob x hg) (Calls.loadGlobal_builtin (Ok.g' a.ok a.sr a.ev.globals) (a.ok.free x hn) (Ok.b' a.ok a.sr a.ev.builtins) ((a.ok.built x hne).trans hv) h) hp.1
theorem Sim.r0 {pos:Pos} (hg:c.scope.names.lookup ("R0":Str)=some .globalImplicit):Sim K c (.Name ("R0":Str) pos) (.lit (.tup [.int 0,.int 1])):=
 Sim.of (fun env n A s ρ σ l d σ' Q E a hC he p=>by
  simp only[ev,Option.some.injEq,Prod.mk.injEq] at he
  obtain⟨rfl,rfl⟩:=he
  obtain⟨t,ep,u,u',h1,h2⟩:=a.ok.r0
  exact globName a hg (by decide) h1 (p.same a.sr ⟨t,_,ep,rfl,a.sr.keep _ _ h2,by simp[Reps,Rep]⟩)) (fun _ _=>rfl)
theorem Sim.bin {op:BOp} {x y:Expr} {X Y:Mine.X} {pos:Pos} (hx:SimE K c x X) (hy:SimE K c y Y):Sim K c (.BinOp x op.py y pos) (.bin op X Y):=
 Sim.of (fun env n A s ρ σ l d σ' Q E a hC he p=>by
  simp only[ev] at he
  split at he
  ·rename_i d1 σ1 h1
   split at he
   ·rename_i d2 σ2 h2
    refine wpAny_BinOp (hx _ _ _ _ _ _ _ _ _ _ _ a hC h1 fun v1 ρ1 hp1 tk1 g1 x1 r1=>?_)
    refine hy _ _ _ _ _ _ _ _ _ _ _ (a.grow g1 x1 tk1) hC h2 fun v2 ρ2 hp2 tk2 g2 x2 r2=>?_
    exact bin_ok x2 (r1.grow x1 g2) r2 he ((Post.grow p g1).grow g2)
   ·cases he
  ·cases he) (fun _ _=>rfl)
theorem Sim.neg {x:Expr} {X:Mine.X} {pos:Pos} (hx:SimE K c x X):Sim K c (.UnaryOp .USub x pos) (.neg X):=
 Sim.of (fun env n A s ρ σ l d σ' Q E a hC he p=>by
  simp only[ev] at he
  split at he
  ·rename_i i σ1 h1
   cases he
   refine wpAny_UnaryOp (hx _ _ _ _ _ _ _ _ _ _ _ a hC h1 fun v1 ρ1 hp1 tk1 g1 x1 r1=>?_)
   obtain⟨t,rfl⟩:=r1
   exact P.neg_int (p _ _ _ _ g1 x1 ⟨_,rfl⟩)
  ·cases he) (fun _ _=>rfl)
theorem cmp_both {op:COp} {x y:Expr} {X Y:Mine.X} (hx:SimE K c x X) (hy:SimE K c y Y) {d:D} {σ':St} {Q:Value→Shared→Prop} {E:Value→Shared→Prop}
  (a:At K c env n A s ρ σ l) (hC:CallsOK K n) (he:ev (K.C n) (.cmp op X Y) l σ=some (d,σ')) (h:∀b ρ' h' tk',d = .bool b→Grow ρ σ ρ' σ' s.heap h'→K.sr ρ' σ' h'→Q (.bool b) { s with heap:=h',toks:=tk' }) :
  wpAny K.M A (eval x env) (fun v s₁=>wpAny K.M A (eval y env) (fun u s₂=>wpAny K.M A (compareOp op.py v u) Q E s₂) E s₁) E s:=by
 simp only[ev] at he
 split at he
 ·rename_i d1 σ1 h1
  split at he
  ·rename_i d2 σ2 h2
   split at he
   ·rename_i r h3
    cases he
    refine hx _ _ _ _ _ _ _ _ _ _ _ a hC h1 fun v1 ρ1 hp1 tk1 g1 x1 r1=>?_
    refine hy _ _ _ _ _ _ _ _ _ _ _ (a.grow g1 x1 tk1) hC h2 fun v2 ρ2 hp2 tk2 g2 x2 r2=>?_
    exact cmp_ok a.ok.big x2 a.room.u (r1.grow x1 g2) r2 h3 fun tk=>h r ρ2 hp2 tk rfl (g1.trans g2) x2
   ·cases he
  ·cases he
 ·cases he
theorem Sim.cmp {op:COp} {x y:Expr} {X Y:Mine.X} {pos:Pos} (hx:SimE K c x X) (hy:SimE K c y Y) (hm:behindInMarks op.py y=false):Sim K c (.Compare x [op.py] [y] pos) (.cmp op X Y):=
 ⟨fun env n A s ρ σ l d σ' Q E a hC he p=>wpAny_Compare1 (cmp_both hx hy a hC he fun b ρ' h' tk' hd g x'=>by subst hd;exact p _ _ _ _ g x' rfl) hm,
  fun env n A s ρ σ l d b σ' Q E a hC he hb h=>wpAny_isTrue_Compare1 (cmp_both hx hy a hC he fun r ρ' h' tk' hd g x'=>by
   subst hd
   simp only[truthD,Option.some.injEq] at hb
   subst hb
   exact wpAny_truthy_bool (h _ _ _ g x')) hm⟩
end
section
variable {K:Cfg} {c:Ctx} {env:Env} {n:Nat} {A:Around} {s:Shared} {ρ:List Addr} {σ:St} {l:Loc}
def _root_.Mine.D.isNone:D→Bool
 | .none=>true
 |_=>false
theorem rep_none {h:Heap} {v:Value} {d:D} (r:K.rep h ρ v d):(v==Value.none)=d.isNone∧plainIs v .none=true:=by
 cases d with
 |none=>simp only[Rep] at r;subst r;exact⟨rfl,rfl⟩
 |bool b=>simp only[Rep] at r;subst r;exact⟨rfl,rfl⟩
 |int i=>obtain⟨t,rfl⟩:=r;exact⟨rfl,rfl⟩
 |str x=>obtain⟨t,rfl⟩:=r;exact⟨rfl,rfl⟩
 |tup ds=>obtain⟨a,vs,ep,rfl,_⟩:=r;exact⟨rfl,rfl⟩
 |ref i=>obtain⟨a,rfl,_⟩:=r;exact⟨rfl,rfl⟩
 |fro ds=>obtain⟨a,o,vs,ep,rfl,_⟩:=r;exact⟨rfl,rfl⟩
theorem isn_both {x:Expr} {X:Mine.X} {q:Nat} {p0:Pos} {neg:Bool} (hx:SimE K c x X) {d:D} {σ':St} {Q:Value→Shared→Prop} {E:Value→Shared→Prop}
  (a:At K c env n A s ρ σ l) (hC:CallsOK K n) (he:ev (K.C n) (if neg then .notn X else .isn X) l σ=some (d,σ')) (h:∀b ρ' h' tk',d = .bool b→Grow ρ σ ρ' σ' s.heap h'→K.sr ρ' σ' h'→Q (.bool b) { s with heap:=h',toks:=tk' }) :
  wpAny K.M A (eval x env) (fun v s₁=>wpAny K.M A (eval (.Constant .none q p0) env) (fun u s₂=>wpAny K.M A (compareOp (if neg then .IsNot else .Is) v u) Q E s₂) E s₁) E s:=by
 have key:∃d1,ev (K.C n) X l σ=some (d1,σ')∧d = .bool (d1.isNone != neg):=by
  have fin:∀d1:D,(d1 = .none→False)→d1.isNone=false:=fun d1 h=>by
   cases d1<;>first|rfl|exact absurd rfl h
  cases neg with
  |true=>
   simp only[if_true,ev] at he
   split at he
   ·cases he;exact⟨_,by assumption,rfl⟩
   ·rename_i d1 σ1 hne h1
    cases he;exact⟨d1,h1,by rw[fin d1 hne];rfl⟩
   ·cases he
  |false=>
   simp only[Bool.false_eq_true,if_false,ev] at he
   split at he
   ·cases he;exact⟨_,by assumption,rfl⟩
   ·rename_i d1 σ1 hne h1
    cases he;exact⟨d1,h1,by rw[fin d1 hne];rfl⟩
   ·cases he
 obtain⟨d1,h1,rfl⟩:=key
 refine hx _ _ _ _ _ _ _ _ _ _ _ a hC h1 fun v1 ρ1 hp1 tk1 g1 x1 r1=>?_
 refine wpAny_Constant_none ?_
 obtain⟨e1,e2⟩:=rep_none r1
 cases neg with
 |true=>exact wpAny_isNot_plain e2 (by rw[e1];have:=h _ _ _ tk1 rfl g1 x1;simpa using this)
 |false=>exact wpAny_is_plain e2 (by rw[e1];have:=h _ _ _ tk1 rfl g1 x1;simpa using this)
theorem Sim.isn {x:Expr} {X:Mine.X} {q:Nat} {p0 pos:Pos} (hx:SimE K c x X):Sim K c (.Compare x [.Is] [.Constant .none q p0] pos) (.isn X):=
 ⟨fun env n A s ρ σ l d σ' Q E a hC he p=>wpAny_Compare1 (isn_both (neg:=false) hx a hC he fun b ρ' h' tk' hd g x'=>by subst hd;exact p _ _ _ _ g x' rfl) rfl,
  fun env n A s ρ σ l d b σ' Q E a hC he hb h=>wpAny_isTrue_Compare1 (isn_both (neg:=false) hx a hC he fun r ρ' h' tk' hd g x'=>by
   subst hd
   simp only[truthD,Option.some.injEq] at hb
   subst hb
   exact wpAny_truthy_bool (h _ _ _ g x')) rfl⟩
theorem Sim.notn {x:Expr} {X:Mine.X} {q:Nat} {p0 pos:Pos} (hx:SimE K c x X):Sim K c (.Compare x [.IsNot] [.Constant .none q p0] pos) (.notn X):=
 ⟨fun env n A s ρ σ l d σ' Q E a hC he p=>wpAny_Compare1 (isn_both (neg:=true) hx a hC he fun b ρ' h' tk' hd g x'=>by subst hd;exact p _ _ _ _ g x' rfl) rfl,
  fun env n A s ρ σ l d b σ' Q E a hC he hb h=>wpAny_isTrue_Compare1 (isn_both (neg:=true) hx a hC he fun r ρ' h' tk' hd g x'=>by
   subst hd
   simp only[truthD,Option.some.injEq] at hb
   subst hb
   exact wpAny_truthy_bool (h _ _ _ g x')) rfl⟩
theorem truthy_ok {v:Value} {d:D} {b:Bool} {Q:Bool→Shared→Prop} {E:Value→Shared→Prop} (r:K.rep s.heap ρ v d) (hb:truthD d=some b) (h:Q b s):wpAny K.M A (truthy v) Q E s:=by
 unfold truthD at hb
 split at hb
 ·cases hb;simp only[Rep] at r;subst r;exact wpAny_pure h
 ·cases hb;simp only[Rep] at r;subst r;exact wpAny_truthy_bool h
 ·cases hb;obtain⟨t,rfl⟩:=r;exact P.truthy_int h
 ·cases hb
theorem Sim.not {x:Expr} {X:Mine.X} {pos:Pos} (hx:Sim K c x X):Sim K c (.UnaryOp .Not x pos) (.not X):=by
 have key:∀{n:Nat} {l:Loc} {σ:St} {d:D} {σ':St},ev (K.C n) (.not X) l σ=some (d,σ')→∃(d1:D) (b:Bool),ev (K.C n) X l σ=some (d1,σ')∧truthD d1=some b∧d=D.bool (!b):=fun he=>by
  simp only[ev] at he
  split at he
  ·split at he
   ·cases he;exact⟨_,_,by assumption,by assumption,rfl⟩
   ·cases he
  ·cases he
 refine⟨fun env n A s ρ σ l d σ' Q E a hC he p=>?_,fun env n A s ρ σ l d b σ' Q E a hC he hb h=>?_⟩
 ·obtain⟨d1,b,h1,h2,rfl⟩:=key he
  refine wpAny_UnaryOp (hx.1 _ _ _ _ _ _ _ _ _ _ _ a hC h1 fun v1 ρ1 hp1 tk1 g1 x1 r1=>?_)
  exact not_of (truthy_ok r1 h2 (p _ _ _ _ g1 x1 rfl))
 ·obtain⟨d1,b',h1,h2,rfl⟩:=key he
  simp only[truthD,Option.some.injEq] at hb
  subst hb
  exact wpAny_isTrue_Not (hx.2 _ _ _ _ _ _ _ _ _ _ _ _ a hC h1 h2 h)
theorem Sim.ite {t x y:Expr} {T X Y:Mine.X} {pos:Pos} (ht:SimT K c t T) (hx:Sim K c x X) (hy:Sim K c y Y):Sim K c (.IfExp t x y pos) (.ite T X Y):=by
 have key:∀{n:Nat} {l:Loc} {σ:St} {d:D} {σ':St},ev (K.C n) (.ite T X Y) l σ=some (d,σ')→∃d1 b σ1,ev (K.C n) T l σ=some (d1,σ1)∧truthD d1=some b∧
   ev (K.C n) (if b then X else Y) l σ1=some (d,σ'):=fun he=>by
  simp only[ev] at he
  split at he
  ·split at he
   ·exact⟨_,true,_,by assumption,by assumption,he⟩
   ·exact⟨_,false,_,by assumption,by assumption,he⟩
   ·cases he
  ·cases he
 refine⟨fun env n A s ρ σ l d σ' Q E a hC he p=>?_,fun env n A s ρ σ l d b σ' Q E a hC he hb h=>?_⟩
 ·obtain⟨d1,b,σ1,h1,h2,h3⟩:=key he
  refine wpAny_IfExp (ht _ _ _ _ _ _ _ _ _ _ _ _ a hC h1 h2 fun ρ1 hp1 tk1 g1 x1=>?_)
  cases b with
  |true=>exact hx.1 _ _ _ _ _ _ _ _ _ _ _ (a.grow g1 x1 tk1) hC h3 (Post.grow p g1)
  |false=>exact hy.1 _ _ _ _ _ _ _ _ _ _ _ (a.grow g1 x1 tk1) hC h3 (Post.grow p g1)
 ·obtain⟨d1,b1,σ1,h1,h2,h3⟩:=key he
  rw[arm_isTrue_IfExp]
  refine wpAny_bind (ht _ _ _ _ _ _ _ _ _ _ _ _ a hC h1 h2 fun ρ1 hp1 tk1 g1 x1=>?_)
  cases b1 with
  |true=>exact hx.2 _ _ _ _ _ _ _ _ _ _ _ _ (a.grow g1 x1 tk1) hC h3 hb fun ρ' h' tk' g x'=>h _ _ _ (g1.trans g) x'
  |false=>exact hy.2 _ _ _ _ _ _ _ _ _ _ _ _ (a.grow g1 x1 tk1) hC h3 hb fun ρ' h' tk' g x'=>h _ _ _ (g1.trans g) x'
inductive SimB (K:Cfg) (c:Ctx) (isAnd:Bool):List Expr→X→Prop
 |one {x:Expr} {X:Mine.X}:Sim K c x X→SimB K c isAnd [x] X
 |more {x y:Expr} {r:List Expr} {X Y:Mine.X}:Sim K c x X→SimB K c isAnd (y::r) Y→SimB K c isAnd (x::y::r) (if isAnd then .and X Y else .or X Y)
theorem bool_key {isAnd:Bool} {X Y:Mine.X} {n:Nat} {l:Loc} {σ:St} {d:D} {σ':St} (he:ev (K.C n) (if isAnd then .and X Y else .or X Y) l σ=some (d,σ')) :
  ∃d1 b σ1,ev (K.C n) X l σ=some (d1,σ1)∧truthD d1=some b∧((b=isAnd∧ev (K.C n) Y l σ1=some (d,σ'))∨(b = !isAnd∧d=d1∧σ'=σ1)):=by
 cases isAnd with
 |true=>
  simp only[if_true,ev] at he
  split at he
  ·split at he
   ·exact⟨_,_,_,by assumption,by assumption,.inl ⟨rfl,he⟩⟩
   ·cases he;exact⟨_,_,_,by assumption,by assumption,.inr ⟨rfl,rfl,rfl⟩⟩
   ·cases he
  ·cases he
 |false=>
  simp only[Bool.false_eq_true,if_false,ev] at he
  split at he
  ·split at he
   ·exact⟨_,_,_,by assumption,by assumption,.inl ⟨rfl,he⟩⟩
   ·cases he;exact⟨_,_,_,by assumption,by assumption,.inr ⟨rfl,rfl,rfl⟩⟩
   ·cases he
  ·cases he
theorem SimB.value {isAnd:Bool} {es:List Expr} {X:Mine.X} {pos:Pos} (h:SimB K c isAnd es X) :
  ∀env n A s ρ σ l d σ' Q E,At K c env n A s ρ σ l→CallsOK K n→ev (K.C n) X l σ=some (d,σ')→PostK K ρ σ σ' s d Q→wpAny K.M A (boolOp pos (if isAnd then .And else .Or) (evalEach es env)) Q E s:=by
 induction h with
 |one hx=>intro env n A s ρ σ l d σ' Q E a hC he p;exact hx.1 _ _ _ _ _ _ _ _ _ _ _ a hC he p
 | @more x y r X Y hx _ ih=>
  intro env n A s ρ σ l d σ' Q E a hC he p
  obtain⟨d1,b,σ1,h1,h2,h3⟩:=bool_key he
  show wpAny K.M A (boolOp pos (if isAnd then .And else .Or) (eval x env::eval y env::evalEach r env)) Q E s
  unfold boolOp
  refine wpAny_bind (hx.1 _ _ _ _ _ _ _ _ _ _ _ a hC h1 fun v1 ρ1 hp1 tk1 g1 x1 r1=>?_)
  refine wpAny_bind (wpAny_standAt (wpAny_bind (wpAny_holding (truthy_ok r1 h2 ?_))))
  rcases h3 with⟨rfl,h3⟩ | ⟨rfl,rfl,rfl⟩
  ·have:=ih env n A { s with heap:=hp1,toks:=tk1 } ρ1 σ1 l d σ' Q E (a.grow g1 x1 tk1) hC h3 (Post.grow p g1)
   cases b<;>exact this
  ·have:=p _ _ _ tk1 g1 x1 r1
   cases isAnd<;>exact wpAny_pure this
theorem SimB.test {isAnd:Bool} {es:List Expr} {X:Mine.X} (h:SimB K c isAnd es X) :
  ∀env n A s ρ σ l d b σ' Q E,At K c env n A s ρ σ l→CallsOK K n→ev (K.C n) X l σ=some (d,σ')→truthD d=some b→
   (∀ρ' h' tk',Grow ρ σ ρ' σ' s.heap h'→K.sr ρ' σ' h'→Q b { s with heap:=h',toks:=tk' })→wpAny K.M A (allTrue (if isAnd then .And else .Or) es env) Q E s:=by
 induction h with
 | @one x X hx=>
  intro env n A s ρ σ l d b σ' Q E a hC he hb h
  have hx':=hx.2 env n A s ρ σ l d b σ' Q E a hC he hb h
  cases isAnd with
  |true=>exact wpAny_allTrue_And_cons (wpAny_mono hx' (fun b' s' hq=>by cases b' with|true=>exact wpAny_allTrue_And_nil hq|false=>exact hq) fun _ _ e=>e)
  |false=>exact wpAny_allTrue_Or_cons (wpAny_mono hx' (fun b' s' hq=>by cases b' with|true=>exact hq|false=>exact wpAny_allTrue_Or_nil hq) fun _ _ e=>e)
 | @more x y r X Y hx _ ih=>
  intro env n A s ρ σ l d b σ' Q E a hC he hb h
  obtain⟨d1,b1,σ1,h1,h2,h3⟩:=bool_key he
  have step:∀(Q1:Bool→Shared→Prop),(∀ρ1 hp1 tk1,Grow ρ σ ρ1 σ1 s.heap hp1→K.sr ρ1 σ1 hp1→Q1 b1 { s with heap:=hp1,toks:=tk1 })→wpAny K.M A (isTrue x env (eval x env)) Q1 E s:=
   fun Q1 hq=>hx.2 env n A s ρ σ l d1 b1 σ1 Q1 E a hC h1 h2 hq
  cases isAnd with
  |true=>
   refine wpAny_allTrue_And_cons (step _ fun ρ1 hp1 tk1 g1 x1=>?_)
   rcases h3 with⟨rfl,h3⟩ | ⟨rfl,rfl,rfl⟩
   ·exact ih env n A { s with heap:=hp1,toks:=tk1 } ρ1 σ1 l d b σ' Q E (a.grow g1 x1 tk1) hC h3 hb fun ρ' h' tk' g x'=>h _ _ _ (g1.trans g) x'
   ·rw[h2] at hb;cases hb;exact h _ _ _ g1 x1
  |false=>
   refine wpAny_allTrue_Or_cons (step _ fun ρ1 hp1 tk1 g1 x1=>?_)
   rcases h3 with⟨rfl,h3⟩ | ⟨rfl,rfl,rfl⟩
   ·exact ih env n A { s with heap:=hp1,toks:=tk1 } ρ1 σ1 l d b σ' Q E (a.grow g1 x1 tk1) hC h3 hb fun ρ' h' tk' g x'=>h _ _ _ (g1.trans g) x'
   ·rw[h2] at hb;cases hb;exact h _ _ _ g1 x1
theorem SimB.sim {isAnd:Bool} {es:List Expr} {X:Mine.X} {pos:Pos} (h:SimB K c isAnd es X):Sim K c (.BoolOp (if isAnd then .And else .Or) es pos) X:=
 ⟨fun env n A s ρ σ l d σ' Q E a hC he p=>by rw[arm_eval_BoolOp];exact h.value (pos:=pos) env n A s ρ σ l d σ' Q E a hC he p,
  fun env n A s ρ σ l d b σ' Q E a hC he hb hq=>wpAny_isTrue_BoolOp (h.test env n A s ρ σ l d b σ' Q E a hC he hb hq)⟩
def SimA (K:Cfg) (c:Ctx) (es:List Expr) (x:X):Prop:=
 ∀pos env n A s ρ σ l ds σ' Q E,At K c env n A s ρ σ l→CallsOK K n→evs (K.C n) x l σ=some (ds,σ')→
  (∀vs ρ' h' tk',Grow ρ σ ρ' σ' s.heap h'→K.sr ρ' σ' h'→Reps K.H₀ h' ρ' vs ds→Q vs { s with heap:=h',toks:=tk' })→wpAny K.M A (spliced (backTo pos (starEach es env))) Q E s
def notStar:Expr→Bool
 | .Starred ..=>false
 |_=>true
theorem starEach_cons {e:Expr} (h:notStar e=true) (r:List Expr) (env:Env):starEach (e::r) env=(false,eval e env)::starEach r env:=by
 cases e<;>first|rfl|simp[notStar] at h
theorem SimA.nil:SimA K c [] .anil:=fun pos env n A s ρ σ l ds σ' Q E a hC he h=>by
 simp only[evs,Option.some.injEq,Prod.mk.injEq] at he
 obtain⟨rfl,rfl⟩:=he
 exact Calls.spliced_nil (h _ _ _ _ (Grow.refl _ _ _) a.sr (by simp[Reps]))
theorem SimA.cons {e:Expr} {es:List Expr} {X Y:Mine.X} (hs:notStar e=true) (hx:SimE K c e X) (hy:SimA K c es Y):SimA K c (e::es) (.acons X Y):=fun pos env n A s ρ σ l ds σ' Q E a hC he h=>by
 simp only[evs] at he
 split at he
 ·rename_i d1 σ1 h1
  split at he
  ·rename_i ds2 σ2 h2
   cases he
   rw[starEach_cons hs]
   show wpAny K.M A (spliced ((false,eval e env)::backTo pos (starEach es env))) Q E s
   refine Calls.spliced_cons (hx _ _ _ _ _ _ _ _ _ _ _ a hC h1 fun v1 ρ1 hp1 tk1 g1 x1 r1=>?_)
   refine hy pos _ _ _ _ _ _ _ _ _ _ _ (a.grow g1 x1 tk1) hC h2 fun vs ρ2 hp2 tk2 g2 x2 r2=>?_
   exact h _ _ _ _ (g1.trans g2) x2 ⟨r1.grow x1 g2,r2⟩
  ·cases he
 ·cases he
theorem Sim.call {f:Nat} {x:Str} {np pos:Pos} {e:Expr} {es:List Expr} {X Y:Mine.X} (hf:K.fn[f]?=some x) (hg:c.scope.names.lookup x=some .globalImplicit) (hp:plainName x=true)
  (hs:notStar e=true) (ha:SimA K c (e::es) (.acons X Y)):Sim K c (.Call (.Name x np) (e::es) [] pos) (.call f (.acons X Y)):=
 Sim.of (fun env n A s ρ σ l d σ' Q E a hC he p=>by
  simp only[ev] at he
  split at he
  ·rename_i ds σ1 h1
   obtain⟨hv,o,fd,ho,hd⟩:=a.ok.fns f x hf
   refine wpAny_Call_NameR (globName a hg hp hv ?_)
   have ht:backTo pos (starEach (e::es) env)=(false,eval e env)::backTo pos (starEach es env):=by rw[starEach_cons hs];rfl
   refine Calls.callWith_function (o:=o) (fd:=fd) ?_
   rw[ht]
   refine Calls.evalArgs_plain ?_
   rw[←ht]
   refine ha pos _ _ _ _ _ _ _ _ _ _ _ a hC h1 fun vs ρ1 hp1 tk1 g1 x1 r1=>?_
   exact⟨⟨x1.keep _ _ ho,hd⟩,hC f ds σ1 d σ' A _ ρ1 vs Q E he a.ok x1 r1 a.room (Post.grow p g1)⟩
  ·cases he) (fun _ _=>rfl)
theorem callB1 {x:Str} {id:String} {np pos:Pos} {e:Expr} {Q E:Value→Shared→Prop} (a:At K c env n A s ρ σ l) (hg:c.scope.names.lookup x=some .globalImplicit) (hp:plainName x=true) (hn:x∈BN) (hne:x≠"__name__")
  (hv:bootBuiltins x=some (.builtin id)) (hs:notStar e=true) (h:wpAny K.M A (eval e env) (fun v s₁=>wpAny K.M A (call (.builtin id) [v]) Q E s₁) E s) :
  wpAny K.M A (eval (.Call (.Name x np) [e] [] pos) env) Q E s:=by
 refine wpAny_Call_NameR (builtName a hg hp hn hne hv ?_)
 rw[show backTo pos (starEach [e] env)=[(false,eval e env)] by rw[starEach_cons hs];rfl]
 exact callWith_builtin1' h
where callWith_builtin1' {id:String} {t:Sem Value} {pos:Pos} {Q E:Value→Shared→Prop} {s:Shared} (h:wpAny K.M A t (fun v s₁=>wpAny K.M A (call (.builtin id) [v]) Q E s₁) E s):wpAny K.M A (callWith pos (.builtin id) [] [(false,t)] []) Q E s:=
 Calls.callWith_builtin rfl (Calls.evalArgs_plain (Calls.spliced_cons (wpAny_mono h (fun _ _ h₁=>Calls.spliced_nil h₁) fun _ _ e=>e)))
theorem callT1 {x:Str} {T:String} {np pos:Pos} {e:Expr} {Q E:Value→Shared→Prop} (a:At K c env n A s ρ σ l) (hg:c.scope.names.lookup x=some .globalImplicit) (hp:plainName x=true) (hn:x∈BN) (hne:x≠"__name__")
  (hv:bootBuiltins x=some (.type T)) (hs:notStar e=true) (h:wpAny K.M A (eval e env) (fun v s₁=>wpAny K.M A (call (.type T) [v]) Q E s₁) E s) :
  wpAny K.M A (eval (.Call (.Name x np) [e] [] pos) env) Q E s:=by
 refine wpAny_Call_NameR (builtName a hg hp hn hne hv ?_)
 rw[show backTo pos (starEach [e] env)=[(false,eval e env)] by rw[starEach_cons hs];rfl]
 exact PyProof.Rows.callWith_type rfl (Calls.evalArgs_plain (Calls.spliced_cons (wpAny_mono h (fun _ _ h₁=>Calls.spliced_nil h₁) fun _ _ e=>e)))
theorem Sim.abs {np pos:Pos} {e:Expr} {X:Mine.X} (hg:c.scope.names.lookup ("abs":Str)=some .globalImplicit) (hs:notStar e=true) (hx:SimE K c e X):Sim K c (.Call (.Name ("abs":Str) np) [e] [] pos) (.abs X):=
 Sim.of (fun env n A s ρ σ l d σ' Q E a hC he p=>by
  simp only[ev] at he
  split at he
  ·rename_i i σ1 h1
   cases he
   refine callB1 (id:="abs") a hg (by decide) (by decide) (by decide) (by decide +kernel) hs (hx _ _ _ _ _ _ _ _ _ _ _ a hC h1 fun v1 ρ1 hp1 tk1 g1 x1 r1=>?_)
   obtain⟨t,rfl⟩:=r1
   exact call_abs_int fun u tk=>p _ _ _ _ g1 x1 ⟨_,rfl⟩
  ·cases he) (fun _ _=>rfl)
end
section
variable {K:Cfg} {c:Ctx} {env:Env} {n:Nat} {A:Around} {s:Shared} {ρ:List Addr} {σ:St} {l:Loc}
theorem Sim.tup {es:List Expr} {q:Nat} {pos:Pos} {X:Mine.X} (ha:SimA K c es X):Sim K c (.Tuple es q pos) (.tup X):=
 Sim.of (fun env n A s ρ σ l d σ' Q E a hC he p=>by
  simp only[ev] at he
  split at he
  ·rename_i ds σ1 h1
   split at he
   ·rename_i hl
    cases he
    rw[arm_eval_Tuple]
    refine wpAny_bind (wpAny_standAt (wpAny_bind (ha pos _ _ _ _ _ _ _ _ _ _ _ a hC h1 fun vs ρ1 hp1 tk1 g1 x1 r1=>?_)))
    exact wpAny_newTuple (Post.newTup (s:={ s with heap:=hp1,toks:=tk1 }) (Post.grow p g1) x1 _ r1) (by rw[r1.length];exact LIM_line hl)
   ·cases he
  ·cases he) (fun _ _=>rfl)
def SimL (K:Cfg) (c:Ctx) (fresh:Bool) (e:Expr) (x:X):Prop:=
 ∀env n A s ρ σ l ds σ' Q E,At K c env n A s ρ σ l→CallsOK K n→evL (K.C n) x l σ=some (ds,σ')→
  (∀a vs ep ρ' h' tk',Grow ρ σ ρ' σ' s.heap h'→K.sr ρ' σ' h'→(fresh=true→s.heap.get? a=none∧a∉ρ')→h'.get? a=some (seqObj "list" vs ep)→Reps K.H₀ h' ρ' vs.toList ds→Q (.ref a) { s with heap:=h',toks:=tk' })→
  wpAny K.M A (eval e env) Q E s
theorem SimL.disp {es:List Expr} {pos:Pos} {X:Mine.X} (ha:SimA K c es X):SimL K c true (.List es pos) (.ldisp X):=
 fun env n A s ρ σ l ds σ' Q E a hC he h=>by
  simp only[evL] at he
  split at he
  ·rename_i ds1 σ1 h1
   split at he
   ·rename_i hl
    cases he
    rw[arm_eval_List]
    refine wpAny_bind (wpAny_standAt (wpAny_bind (ha pos _ _ _ _ _ _ _ _ _ _ _ a hC h1 fun vs ρ1 hp1 tk1 g1 x1 r1=>?_)))
    refine wpAny_newList ?_ (by rw[r1.length];exact LIM_line hl)
    have hn:hp1.get? hp1.objs.size=none:=size_none _
    refine h hp1.objs.size vs.toArray 0 ρ1 _ _ (g1.trans (Grow.push x1 _)) (x1.push _) (fun _=>⟨?_,x1.sizeNot⟩) (Heap.get?_push_size _ rfl) (r1.push x1 _)
    cases q:s.heap.get? hp1.objs.size with
    |none=>rfl
    |some o=>obtain⟨o',e⟩:=g1.live _ _ q;rw[hn] at e;cases e
   ·cases he
  ·cases he
theorem Sim.lst {e:Expr} {X:Mine.X} (hx:SimL K c true e X) (he:∀env whole,isTrue e env whole=(do let v←whole;standAt e.pos;holding [v] (truthy v))):Sim K c e (.lst X):=
 Sim.of (fun env n A s ρ σ l d σ' Q E a hC he p=>by
  simp only[ev] at he
  split at he
  ·rename_i ds σ1 h1
   cases he
   refine hx _ _ _ _ _ _ _ _ _ _ _ a hC h1 fun ad vs ep ρ1 hp1 tk1 g1 x1 hf hg r1=>?_
   obtain⟨h0,hn⟩:=hf rfl
   refine p _ (ρ1++[ad]) _ _ (g1.adopt h0) (x1.adopt hn (a.sr.freshBase h0) ⟨vs,ep,hg,r1.more _⟩) ⟨ad,rfl,?_⟩
   rw[←x1.len,List.getElem?_append_right (Nat.le_refl _),Nat.sub_self];rfl
  ·cases he) he
theorem SimL.ofx {e:Expr} {X:Mine.X} (hx:SimE K c e X):SimL K c false e (.lofx X):=
 fun env n A s ρ σ l ds σ' Q E a hC he h=>by
  simp only[evL] at he
  split at he
  ·rename_i r σ1 h1
   split at he
   ·rename_i ds' v1 hr
    cases he
    refine hx _ _ _ _ _ _ _ _ _ _ _ a hC h1 fun v1 ρ1 hp1 tk1 g1 x1 r1=>?_
    obtain⟨t,rfl,g⟩:=r1
    obtain⟨vs,ep,gl,r2⟩:=x1.objs _ _ _ g hr
    exact h t vs ep ρ1 hp1 tk1 g1 x1 (fun q=>by cases q) gl r2
   ·cases he
  ·cases he
def isSlice:Expr→Bool
 | .Slice ..=>true
 |_=>false
theorem subscripted_plain {slice:Expr} (h:isSlice slice=false) (o i:Value):subscripted slice false o i=operate [o,i] (getItem o i):=by
 cases slice<;>first|rfl|simp[isSlice] at h
theorem LIM_63 {k:Int} (h:k<(LIM:Int)):k<2^63:=by unfold LIM at h;omega
theorem idx_ok {vo vi:Value} {o i d:D} {Q:Value→Shared→Prop} {E:Value→Shared→Prop} (ok:K.Ok) (x:K.sr ρ σ s.heap) (hu:A.units+40<cLine) (ro:K.rep s.heap ρ vo o) (ri:K.rep s.heap ρ vi i)
  (e:idxD σ o i=some d) (h:∀v tk,K.rep s.heap ρ v d→Q v { s with toks:=tk }):wpAny K.M A (getItem vo vi) Q E s∧∃T id,s.TypeIs vo T∧typeLookup (.type T) "__getitem__"=pure (some (.builtin id)):=by
 unfold idxD at e
 split at e
 ·rename_i ds k
  split at e
  ·rename_i hk
   obtain⟨t,vs,ep,rfl,g,r⟩:=ro
   obtain⟨u,rfl⟩:=ri
   obtain⟨v,hv,rv⟩:=r.get e
   refine⟨?_,_,_,⟨_,g,rfl⟩,PySem.F.slot_tuple_getitem.lookup⟩
   have hlt:k.toNat<vs.size:=by
    have:=(List.getElem?_eq_some_iff.mp hv).1;simpa using this
   refine PySem.P.getItem_tuple (k:=k.toNat) (y:=v) g (by omega) (LIM_63 hk.2) ?_ (by simpa using hv) (h v s.toks rv)
   unfold seqIndex?
   have h1:¬k<0:=by omega
   have h2:k<(vs.size:Int):=by omega
   simp[h1,h2,hk.1]
  ·cases e
 ·rename_i r k
  split at e
  ·rename_i ds v1 hr
   split at e
   ·rename_i hk
    obtain⟨t,rfl,g⟩:=ro
    obtain⟨u,rfl⟩:=ri
    obtain⟨vs,ep,gl,r2⟩:=x.objs _ _ _ g hr
    obtain⟨v,hv,rv⟩:=r2.get e
    exact⟨wpAny_getItem_list ⟨_,gl,rfl,_,rfl⟩ hk.1 (LIM_63 hk.2) (by simpa using hv) (h v s.toks rv),_,_,⟨_,gl,rfl⟩,slot_list_getitem.lookup⟩
   ·cases e
  ·cases e
 ·rename_i r ks
  split at e
  ·rename_i es v1 k hr hk
   obtain⟨t,rfl,g⟩:=ro
   obtain⟨u,ws,ep',rfl,g',r'⟩:=ri
   obtain⟨ys,dy,my,r2,_⟩:=x.objs _ _ _ g hr
   obtain⟨b,v,h1,h2⟩:=(atKey_dget (H₀:=K.H₀) (ρ:=ρ) ys es my r2 k).2 d e
   exact⟨wpAny_getItem_heap (knd:=kTup K.prog K.w) (k:=k) (by show A.units+1<cLine;omega) (key_ok g' r' hk) dy h1 (h v _ h2),_,_,dy.typeIs,slot_dict_getitem.lookup⟩
  ·cases e
 ·cases e
theorem Sim.idx {o i:Expr} {O I:Mine.X} {pos:Pos} (ho:SimE K c o O) (hi:SimE K c i I) (hs:isSlice i=false):Sim K c (.Subscript o i pos) (.idx O I):=
 Sim.of (fun env n A s ρ σ l d σ' Q E a hC he p=>by
  simp only[ev] at he
  split at he
  ·rename_i d1 σ1 h1
   split at he
   ·rename_i d2 σ2 h2
    split at he
    ·rename_i d3 h3
     cases he
     refine Subscript_ (ho _ _ _ _ _ _ _ _ _ _ _ a hC h1 fun v1 ρ1 hp1 tk1 g1 x1 r1=>?_)
     refine hi _ _ _ _ _ _ _ _ _ _ _ (a.grow g1 x1 tk1) hC h2 fun v2 ρ2 hp2 tk2 g2 x2 r2=>?_
     have:=idx_ok (A:=A) (s:={ s with heap:=hp2,toks:=tk2 }) (Q:=Q) (E:=E) a.ok x2 a.room.u (r1.grow x1 g2) r2 h3 fun v tk rv=>p v ρ2 hp2 tk (g1.trans g2) x2 rv
     obtain⟨w1,T,id,hT,hl⟩:=this
     exact tail_any hT hl w1 (subscripted_plain hs _ _)
    ·cases he
   ·cases he
  ·cases he) (fun _ _=>rfl)
def partOf:Option Expr→Option (Option Nat)
 |none=>some none
 |some (.Constant (.int i) _ _)=>if 0≤i then some (some i.toNat) else none
 |_=>none
theorem evalPart_of {pe:Option Expr} {q:Option Nat} (h:partOf pe=some q) {Q:Value→Shared→Prop} {E:Value→Shared→Prop} (hq:∀v tk,IsPart v (q.map fun k=>(k:Int))→Q v { s with toks:=tk }) :
  wpAny K.M A (evalPart pe env) Q E s:=by
 unfold partOf at h
 split at h
 ·cases h
  rw[evalPart_none]
  exact wpAny_pure (hq _ s.toks .none)
 ·split at h
  ·rename_i i _ _ hi
   cases h
   refine wpAny_evalPart_some (wpAny_Constant_int (hq _ _ ?_))
   have:((some i.toNat).map fun k=>(k:Int))=some i:=by simp;omega
   rw[this]
   exact .int _ _
  ·cases h
 ·cases h
end
section
variable {K:Cfg} {c:Ctx} {env:Env} {n:Nat} {A:Around} {s:Shared} {ρ:List Addr} {σ:St} {l:Loc}
theorem Grow.fresh {ρ ρ':List Addr} {σ σ':St} {h h':Heap} (g:Grow ρ σ ρ' σ' h h') {a:Addr} (ha:h'.get? a=none):h.get? a=none:=by
 cases q:h.get? a with
 |none=>rfl
 |some o=>obtain⟨o',e⟩:=g.live _ _ q;rw[ha] at e;cases e
theorem size_ge {h:Heap} {a:Addr} (ha:h.objs.size≤a):h.get? a=none:=by
 cases q:h.get? a with
 |none=>rfl
 |some o=>exact absurd (Heap.lt_size q) (Nat.not_lt.mpr ha)
def listD (σ:St):D→Option (List D)
 | .fro es=>some es
 | .ref r=>match σ[r]? with|some (.list es _)=>some es|_=>none
 |_=>none
theorem rep_list {h:Heap} {ρ:List Addr} {σ:St} {v:Value} {d:D} {ds:List D} (x:K.sr ρ σ h) (r:K.rep h ρ v d) (e:listD σ d=some ds) :
  ∃a vs,v = .ref a∧h.IsList a vs∧Reps K.H₀ h ρ vs.toList ds:=by
 unfold listD at e
 split at e
 ·cases e
  obtain⟨a,o,vs,ep,rfl,g,hc,hd,r⟩:=r
  exact⟨a,vs,rfl,⟨o,x.keep _ _ g,hc,ep,hd⟩,r⟩
 ·split at e
  ·rename_i r' es v1 hr
   cases e
   obtain⟨t,rfl,g⟩:=r
   obtain⟨vs,ep,gl,r2⟩:=x.objs _ _ _ g hr
   exact⟨t,vs,rfl,⟨_,gl,rfl,ep,rfl⟩,r2⟩
  ·cases e
 ·cases e
theorem pick_eq (vs:Array Value) (lo hi:Option Nat) :
  (slicePick vs (lo.map fun k=>(k:Int)) (hi.map fun k=>(k:Int)) none).toList=(vs.toList.take (hi.getD vs.size)).drop (lo.getD 0):=by
 rw[slicePick_plain]
 show(vs.toList.drop _).take _=_
 rw[List.drop_take]
 have h1:((lo.map fun k=>(k:Int)).elim 0 (clipAt vs.size))=min (lo.getD 0) vs.size:=by
  cases lo with
  |none=>simp
  |some a=>simp[clipAt_nat]
 have h2:((hi.map fun k=>(k:Int)).elim vs.size (clipAt vs.size))=min (hi.getD vs.size) vs.size:=by
  cases hi with
  |none=>simp
  |some a=>simp[clipAt_nat]
 rw[h1,h2]
 have hlen:vs.toList.length=vs.size:=by simp
 rcases Nat.le_total (lo.getD 0) vs.size with h|h
 ·rw[Nat.min_eq_left h]
  rcases Nat.le_total (hi.getD vs.size) vs.size with h'|h'
  ·rw[Nat.min_eq_left h']
  ·rw[Nat.min_eq_right h',List.take_of_length_le (by rw[List.length_drop,hlen];omega),List.take_of_length_le (by rw[List.length_drop,hlen];omega)]
 ·rw[Nat.min_eq_right h,List.drop_of_length_le (by omega),List.drop_of_length_le (by omega)];simp
theorem SimL.slice {o:Expr} {X:Mine.X} {plo phi:Option Expr} {lo hi:Option Nat} {p pos:Pos} (ho:SimE K c o X) (hlo:partOf plo=some lo) (hhi:partOf phi=some hi)
  (ht:∀v r,letTemporaryGo o v r=pure ()):SimL K c true (.Subscript o (.Slice plo phi none p) pos) (.lsl X lo hi):=
 fun env n A s ρ σ l ds σ' Q E a hC he h=>by
  simp only[evL] at he
  split at he
  all_goals try cases he
  all_goals rename_i σ1 h1
  all_goals
   have key:∀(d1:D) (es:List D),ev (K.C n) X l σ=some (d1,σ1)→listD σ1 d1=some es→es.length<LIM→
     ds=(es.take (hi.getD es.length)).drop (lo.getD 0)→σ'=σ1→wpAny K.M A (eval (.Subscript o (.Slice plo phi none p) pos) env) Q E s:=by
    intro d1 es h1 h2 h3 h4 h5
    subst h4;subst h5
    refine wpAny_Subscript_list_slice (ho _ _ _ _ _ _ _ _ _ _ _ a hC h1 fun v1 ρ1 hp1 tk1 g1 x1 r1=>?_) ht
    refine evalPart_of hlo fun vl tk2 pl=>?_
    refine evalPart_of hhi fun vu tk3 pu=>?_
    obtain⟨ad,vs,rfl,hl,r2⟩:=rep_list x1 r1 h2
    have hsz:vs.size=es.length:=by have:=r2.length;simpa using this
    refine⟨ad,vs,_,_,rfl,hl,by rw[hsz];exact LIM_line h3,pl,pu,?_⟩
    have G1:=Grow.push x1 { cls:=.type "slice",data:=.fields #[vl,vu,.none] }
    have X1:=x1.push { cls:=.type "slice",data:=.fields #[vl,vu,.none] }
    have G2:=Grow.push X1 { cls:=.type "list",data:=.seq (slicePick vs (lo.map fun k=>(k:Int)) (hi.map fun k=>(k:Int)) none) }
    have hsz2:hp1.objs.size+1=(hp1.push { cls:=.type "slice",data:=.fields #[vl,vu,.none] }).objs.size:=by rw[Heap.size_push]
    refine h (hp1.objs.size+1) (slicePick vs (lo.map fun k=>(k:Int)) (hi.map fun k=>(k:Int)) none) 0 ρ1 _ _ (g1.trans (G1.trans G2)) (X1.push _) (fun _=>⟨g1.fresh (size_ge (Nat.le_succ _)),?_⟩) ?_ ?_
    ·exact x1.freshNot (size_ge (Nat.le_succ _))
    ·show Heap.get? (Heap.push _ _) (hp1.objs.size+1)=_
     rw[hsz2]
     exact Heap.get?_push_size _ rfl
    ·rw[pick_eq,hsz]
     exact(((r2.take _).drop _).grow x1 G1).grow X1 G2
  ·rename_i es
   split at he
   ·cases he
    exact key _ es h1 rfl (by assumption) rfl rfl
   ·cases he
  ·rename_i r
   split at he
   ·rename_i es v1 hr
    split at he
    ·cases he
     exact key _ es h1 (by simp only[listD,hr]) (by assumption) rfl rfl
    ·cases he
   ·cases he
theorem len_ok {v:Value} {d:D} {k:Int} {Q E:Value→Shared→Prop} (ok:K.Ok) (x:K.sr ρ σ s.heap) (r:K.rep s.heap ρ v d) (e:lenD σ d=some k) (h:∀t tk,Q (.int k t) { s with toks:=tk }) :
  wpAny K.M A (call (.builtin "len") [v]) Q E s:=by
 unfold lenD at e
 split at e
 ·split at e
  ·rename_i ds hl
   cases e
   obtain⟨a,vs,ep,rfl,g,r⟩:=r
   have hs:vs.size=ds.length:=by have:=r.length;simpa using this
   have hz:=LIM_line hl
   rw[sizeLine_eq] at hz
   refine PySem.P.len_tuple (n:=ep) g (by rw[hs];omega) ?_
   rw[hs]
   exact h _ _
  ·cases e
 ·split at e
  ·split at e
   ·rename_i ds v1 hr hl
    cases e
    obtain⟨a,rfl,g⟩:=r
    obtain⟨vs,ep,gl,r⟩:=x.objs _ _ _ g hr
    have hs:vs.size=ds.length:=by have:=r.length;simpa using this
    have hz:=LIM_line hl
    rw[sizeLine_eq] at hz
    refine Calls.call_len_list ⟨_,gl,rfl,ep,rfl⟩ (by rw[hs];omega) ?_
    rw[hs]
    exact h _ _
   ·cases e
  ·split at e
   ·rename_i es v1 hr hl
    cases e
    obtain⟨a,rfl,g⟩:=r
    obtain⟨xs,dx,mx,r,_⟩:=x.objs _ _ _ g hr
    have hs:xs.length=es.length:=by simpa using congrArg List.length mx
    have hz:=LIM_line hl
    rw[sizeLine_eq] at hz
    rw[←hs] at hz h
    refine call_len_meets (n:=xs.length) dx.typeIs PySem.F.slot_dict_len PySem.F.entry_dict_len (PySem.F.args_dict_len_1 _) (lenH a (notModules ok.big x (List.mem_of_getElem? g))) (by omega) (by omega)
     (fun Q' hq=>⟨xs,dx,hq⟩) (h _ _)
   ·cases e
  ·cases e
 ·cases e
where
 lenH (a:Addr) (ha:(a==sysModules)=false):Meets (Builtin.«dict.__len__» ⟨[.ref a],[]⟩)
   (fun A R s=>∃xs:List (List Int×Addr×Value),s.heap.DictOfH (kTup K.prog K.w) a xs∧R (.ok (.ret (.int xs.length s.toks))) { s with toks:=s.toks+1 }):=
  Meets.of_wp fun prog w A R s ⟨xs,⟨o,es,ep,ho,hc,hd,he,hi,hn⟩,hQ⟩=>by
   have hes:es.size=xs.length:=by
    have h:=congrArg List.length he
    rw[Array.length_toList,List.length_map] at h
    exact h
   show wpAny _ _ (dictSize a >>= _) _ _ s
   unfold dictSize
   refine wpAny_bind (wpAny_bind (wpAny_dictEntries ho hd (wpAny_pure ?_)))
   show wpAny _ _ (Builtin.Dict.pendingCount a >>= _) _ _ s
   refine wpAny_bind (wpAny_pendingCount_other ha ?_)
   refine wpAny_ret_mkInt ?_
   rw[Nat.add_zero,hes];exact hQ
end
section
variable {prog:Program} {w:World} {H₀:Heap}
def NotTup (h:Heap) (a:Addr):Prop:=∀ob items n,h.get? a=some ob→ob.cls = .type "tuple"→ob.data = .seq items n→False
theorem isKey_other {h h':Heap} {ks:List Int} {a b:Addr} (x:(kTup prog w).is h ks b) (hs:Heap.SameBut a h h') (hn:NotTup h a):(kTup prog w).is h' ks b:=by
 obtain⟨o,items,n,ho,hc,hd,hi⟩:=x
 exact⟨o,items,n,(hs.2 b (fun q=>hn o items n (q▸ho) hc hd)).trans ho,hc,hd,hi⟩
theorem SR.other {ρ:List Addr} {σ:St} {h h':Heap} {a:Addr} (x:SR prog w H₀ ρ σ h) (hs:Heap.SameBut a h h') (ha:a∉ρ) (h0:H₀.get? a=none) (hn:NotTup h a):SR prog w H₀ ρ σ h' where
 keep:=fun b o e=>(hs.2 b (fun q=>by subst q;rw[h0] at e;cases e)).trans (x.keep b o e)
 len:=x.len
 nd:=x.nd
 new:=x.new
 objs:=fun i b o e e'=>by
  have hb:b≠a:=fun q=>ha (q▸List.mem_of_getElem? e)
  have hk:TupKeep h h':=fun c vs ep e=>(hs.2 c (fun q=>hn _ vs ep (q▸e) rfl rfl)).trans e
  have r:=x.objs i b o e e'
  cases o with
  |list ds=>
   obtain⟨vs,ep,e,r⟩:=r
   exact⟨vs,ep,(hs.2 b hb).trans e,Reps.mono hk (fun _ _ e=>e) _ r⟩
  |dict es=>
   obtain⟨xs,⟨o,es',ep,e,c,d,he,hkk,hnn⟩,hm,r,kr⟩:=r
   exact⟨xs,⟨o,es',ep,(hs.2 b hb).trans e,c,d,he,fun y hy=>isKey_other (hkk y hy) hs hn,hnn⟩,hm,Reps.mono hk (fun _ _ e=>e) _ r,fun y hy=>Rep.mono hk (fun _ _ e=>e) _ (kr y hy)⟩
theorem Rep.other {ρ:List Addr} {h h':Heap} {a:Addr} {v:Value} {d:D} (r:Rep H₀ h ρ v d) (hs:Heap.SameBut a h h') (hn:NotTup h a):Rep H₀ h' ρ v d:=
 Rep.mono (fun c vs ep e=>(hs.2 c (fun q=>hn _ vs ep (q▸e) rfl rfl)).trans e) (fun _ _ e=>e) d r
theorem Reps.other {ρ:List Addr} {h h':Heap} {a:Addr} {vs:List Value} {ds:List D} (r:Reps H₀ h ρ vs ds) (hs:Heap.SameBut a h h') (hn:NotTup h a):Reps H₀ h' ρ vs ds:=
 Reps.mono (fun c vs ep e=>(hs.2 c (fun q=>hn _ vs ep (q▸e) rfl rfl)).trans e) (fun _ _ e=>e) ds r
theorem Grow.other {ρ ρ':List Addr} {σ σ':St} {h h1 h2:Heap} {a:Addr} {o:Obj} (g:Grow ρ σ ρ' σ' h h1) (hl:∀b∈ρ,∃o,h.get? b=some o) (ha:h.get? a=none) (hs:Heap.SameBut a h1 h2) (e:h2.get? a=some o):Grow ρ σ ρ' σ' h h2 where
 pre:=g.pre
 ext:=fun b ob eb hb=>(hs.2 b (fun q=>by subst q;rw[ha] at eb;cases eb)).trans (g.ext b ob eb hb)
 live:=fun b ob eb=>by
  by_cases q:b=a
  ·subst q;exact⟨o,e⟩
  ·obtain⟨o',e'⟩:=g.live b ob eb
   exact⟨o',(hs.2 b q).trans e'⟩
 vers:=g.vers
 same:=fun i b p p' eb ep ep' hv=>by
  have hb:b≠a:=fun q=>by
   subst q
   obtain⟨o,e⟩:=hl b (List.mem_of_getElem? eb)
   rw[ha] at e;cases e
  rw[hs.2 b hb,g.same i b p p' eb ep ep' hv]
def DictAt (prog:Program) (w:World) (H₀:Heap) (h:Heap) (ρ:List Addr) (a:Addr) (es:Es):Prop:=ObjRep prog w H₀ h ρ a (.dict es 0)
theorem storedH_dput {h:Heap} {ρ:List Addr} {xs:List (List Int×Addr×Value)} {es:Es} {k:List Int} {a:Addr} {v:Value} {d:D} (hm:xs.map (·.1)=es.map (·.1)) (hr:Reps H₀ h ρ (xs.map (·.2.2)) (es.map (·.2)))
  (rv:Rep H₀ h ρ v d):(storedH xs k a v).map (·.1)=(dput es k d).map (·.1)∧Reps H₀ h ρ ((storedH xs k a v).map (·.2.2)) ((dput es k d).map (·.2)):=by
 have hk:=atKey_dget xs es hm hr k
 cases e:dget es k with
 |none=>
  have e':=hk.1 e
  simp only[storedH,e',dput,e,Option.isSome_none,Bool.false_eq_true,if_false]
  refine⟨by simp[hm],?_⟩
  simp only[List.map_append,List.map_cons,List.map_nil]
  exact hr.append ⟨rv,trivial⟩
 |some d0=>
  obtain⟨b,u,e',hru⟩:=hk.2 d0 e
  simp only[storedH,e',dput,e,Option.isSome_some,if_true]
  clear hru e e' hk d0
  induction xs generalizing es with
  |nil=>cases es with
   |nil=>simp[Reps]
   |cons _ _=>simp at hm
  |cons x xs ih=>
   cases es with
   |nil=>simp at hm
   |cons y es=>
    simp only[List.map_cons,List.cons.injEq] at hm
    simp only[List.map_cons,Reps] at hr
    obtain⟨i1,i2⟩:=ih hm.2 hr.2
    simp only[List.map_cons,Reps,List.cons.injEq]
    refine⟨⟨?_,i1⟩,?_,i2⟩
    ·unfold putAt;by_cases q:x.1=k
     ·rw[if_pos q,if_pos (hm.1▸q)];exact hm.1
     ·rw[if_neg q,if_neg (hm.1▸q)];exact hm.1
    ·unfold putAt;by_cases q:x.1=k
     ·rw[if_pos q,if_pos (hm.1▸q)];exact rv
     ·rw[if_neg q,if_neg (hm.1▸q)];exact hr.1
theorem storedH_keyed {h:Heap} {ρ:List Addr} {xs:List (List Int×Addr×Value)} {k:List Int} {a:Addr} {v:Value} (kr:Keyed H₀ h ρ xs) (hk:Rep H₀ h ρ (.ref a) (keyD k)):Keyed H₀ h ρ (storedH xs k a v):=fun y hy=>by
 unfold storedH at hy
 split at hy
 ·obtain⟨x,hx,rfl⟩:=List.mem_map.mp hy
  unfold putAt
  split
  ·exact kr x hx
  ·exact kr x hx
 ·rcases List.mem_append.mp hy with hy|hy
  ·exact kr y hy
  ·rw[List.mem_singleton.mp hy];exact hk
theorem ints_keyD:∀k:List Int,ints? (k.map D.int)=some k
 | []=>rfl
 |i::r=>by simp only[List.map_cons,ints?,ints_keyD r,Option.map_some]
theorem keyRep_is {h:Heap} {ρ:List Addr} {k:List Int} {a:Addr} (hk:Rep H₀ h ρ (.ref a) (keyD k)):(kTup prog w).is h k a:=by
 obtain⟨b,vs,ep,e,g,r⟩:=hk
 cases e
 exact⟨_,vs,ep,g,rfl,rfl,ints_reps r (ints_keyD k)⟩
theorem keyRep_of {h:Heap} {ρ:List Addr} {k:List Int} {a:Addr} {ds:List D} (r:Rep H₀ h ρ (.ref a) (.tup ds)) (e:ints? ds=some k):Rep H₀ h ρ (.ref a) (keyD k):=by
 rw[ints_eq e] at r;exact r
theorem DictAt.notTup {h:Heap} {ρ:List Addr} {a:Addr} {es:Es} (x:DictAt prog w H₀ h ρ a es):NotTup h a:=fun ob items n e hc _=>by
 obtain⟨xs,⟨o,es',ep,e',c,_⟩,_⟩:=x
 rw[e] at e';cases e'
 rw[c.1] at hc;simp at hc
theorem DictAt.here {h:Heap} {ρ:List Addr} {a:Addr} {es:Es} (x:DictAt prog w H₀ h ρ a es):∃o,h.get? a=some o:=ObjRep.here x
theorem DictAt.stay {ρ ρ':List Addr} {σ σ₀ σ':St} {h h':Heap} {a:Addr} {es:Es} (r:DictAt prog w H₀ h ρ a es) (x:SR prog w H₀ ρ σ h) (ha:a∉ρ) (g:Grow ρ σ₀ ρ' σ' h h'):DictAt prog w H₀ h' ρ' a es:=
 ObjRep.stay r x (x.tupKeep g) (fun _ _ e=>g.get e) (fun ob e=>g.ext _ _ e ha) (fun b ob hb e=>g.ext b ob e hb)
theorem DictAt.new (h:Heap) (ρ:List Addr):DictAt prog w H₀ (h.push { cls:=.type "dict",data:=.dict #[] }) ρ h.objs.size []:=
 ⟨[],Heap.DictOfH.new h,rfl,trivial,fun _ hy=>by simp at hy⟩
section
variable {s:Shared} {A:Around} {E:Value→Shared→Prop}
theorem dictSet_ok {ρ:List Addr} {a t:Addr} {es:Es} {k:List Int} {v:Value} {d:D} {Q:Unit→Shared→Prop} (hu:A.units+1<cLine) (r:DictAt prog w H₀ s.heap ρ a es) (hk:Rep H₀ s.heap ρ (.ref t) (keyD k)) (rv:Rep H₀ s.heap ρ v d)
  (hl:es.length<LIM) (hQ:∀h' tk,Heap.SameBut a s.heap h'→DictAt prog w H₀ h' ρ a (dput es k d)→Q () { s with heap:=h',toks:=tk }) :
  wpAny (model prog w) A (dictSet a (.ref t) v) Q E s:=by
 have hnt:=r.notTup
 obtain⟨xs,dx,hm,hr,kr⟩:=r
 have hs:xs.length=es.length:=by simpa using congrArg List.length hm
 refine wpAny_dictSet_heap (knd:=kTup prog w) (k:=k) (show A.units<cLine by omega) (keyRep_is hk) dx (fun h' dx' hs'=>hQ h' _ hs' ?_) (by rw[hs];exact LIM_line hl)
 obtain⟨m1,m2⟩:=storedH_dput (k:=k) (a:=t) hm hr rv
 exact⟨_,dx',m1,m2.other hs' hnt,fun y hy=>Rep.other (storedH_keyed kr hk y hy) hs' hnt⟩
theorem setItem_ok {ρ:List Addr} {a t:Addr} {es:Es} {k:List Int} {v:Value} {d:D} {Q:Unit→Shared→Prop} (hu:A.units+1<cLine) (r:DictAt prog w H₀ s.heap ρ a es) (hk:Rep H₀ s.heap ρ (.ref t) (keyD k)) (rv:Rep H₀ s.heap ρ v d)
  (hl:es.length<LIM) (hQ:∀h' tk,Heap.SameBut a s.heap h'→DictAt prog w H₀ h' ρ a (dput es k d)→Q () { s with heap:=h',toks:=tk }) :
  wpAny (model prog w) A (setItem (.ref a) (.ref t) v) Q E s:=by
 have hnt:=r.notTup
 obtain⟨xs,dx,hm,hr,kr⟩:=r
 have hs:xs.length=es.length:=by simpa using congrArg List.length hm
 refine wpAny_setItem_heap (knd:=kTup prog w) (k:=k) (show A.in1.units<cLine from hu) (keyRep_is hk) dx (fun h' dx' hs'=>hQ h' _ hs' ?_) (by rw[hs];exact LIM_line hl)
 obtain⟨m1,m2⟩:=storedH_dput (k:=k) (a:=t) hm hr rv
 exact⟨_,dx',m1,m2.other hs' hnt,fun y hy=>Rep.other (storedH_keyed kr hk y hy) hs' hnt⟩
end
end
section
variable {K:Cfg} {c:Ctx} {env:Env} {n:Nat} {A:Around} {s:Shared} {ρ:List Addr} {σ:St} {l:Loc}
theorem Sim.len {np pos:Pos} {e:Expr} {X:Mine.X} (hg:c.scope.names.lookup ("len":Str)=some .globalImplicit) (hs:notStar e=true) (hx:SimE K c e X):Sim K c (.Call (.Name ("len":Str) np) [e] [] pos) (.len X):=
 Sim.of (fun env n A s ρ σ l d σ' Q E a hC he p=>by
  simp only[ev] at he
  split at he
  ·rename_i d1 σ1 h1
   split at he
   ·rename_i k h2
    cases he
    refine callB1 (id:="len") a hg (by decide) (by decide) (by decide) (by decide +kernel) hs (hx _ _ _ _ _ _ _ _ _ _ _ a hC h1 fun v1 ρ1 hp1 tk1 g1 x1 r1=>?_)
    exact len_ok a.ok x1 r1 h2 fun t tk=>p _ _ _ _ g1 x1 ⟨_,rfl⟩
   ·cases he
  ·cases he) (fun _ _=>rfl)
theorem Sim.lenOf {np pos:Pos} {e:Expr} {X:Mine.X} {fr:Bool} (hg:c.scope.names.lookup ("len":Str)=some .globalImplicit) (hs:notStar e=true) (hx:SimL K c fr e X):Sim K c (.Call (.Name ("len":Str) np) [e] [] pos) (.lenOf X):=
 Sim.of (fun env n A s ρ σ l d σ' Q E a hC he p=>by
  simp only[ev] at he
  split at he
  ·rename_i ds σ1 h1
   split at he
   ·rename_i hl
    cases he
    refine callB1 (id:="len") a hg (by decide) (by decide) (by decide) (by decide +kernel) hs (hx _ _ _ _ _ _ _ _ _ _ _ a hC h1 fun ad vs ep ρ1 hp1 tk1 g1 x1 _ hh r1=>?_)
    have hz:=LIM_line hl
    rw[sizeLine_eq] at hz
    have hsz:vs.size=ds.length:=by have:=r1.length;simpa using this
    refine Calls.call_len_list ⟨_,hh,rfl,ep,rfl⟩ (by rw[hsz];omega) ?_
    rw[hsz]
    exact p _ _ _ _ g1 x1 ⟨_,rfl⟩
   ·cases he
  ·cases he) (fun _ _=>rfl)
theorem Sim.listOf {np pos:Pos} {e:Expr} {X:Mine.X} {fr:Bool} (hg:c.scope.names.lookup ("list":Str)=some .globalImplicit) (hs:notStar e=true) (hx:SimL K c fr e X):Sim K c (.Call (.Name ("list":Str) np) [e] [] pos) (.listOf X):=
 Sim.of (fun env n A s ρ σ l d σ' Q E a hC he p=>by
  simp only[ev] at he
  split at he
  ·rename_i ds σ1 h1
   split at he
   ·rename_i hl
    cases he
    refine callT1 (T:="list") a hg (by decide) (by decide) (by decide) (by decide +kernel) hs (hx _ _ _ _ _ _ _ _ _ _ _ a hC h1 fun ad vs ep ρ1 hp1 tk1 g1 x1 _ hh r1=>?_)
    have hsz:vs.size=ds.length:=by have:=r1.length;simpa using this
    refine call_list_seq ad (T:="list") (.inl rfl) hh rfl rfl (fun h' c' hk hD=>?_) (by rw[hsz];exact LIM_line hl)
    have g2:Grow ρ1 _ ρ1 _ hp1 h':=Grow.keeps x1 hk
    have x2:=x1.keeps hk
    refine p _ (ρ1++[hp1.objs.size]) _ _ ((g1.trans g2).adopt (g1.fresh (size_none _))) (x2.adopt (x1.sizeNot) (x1.freshBase (size_none _)) ⟨vs,c',hD,(r1.grow x1 g2).more _⟩) ⟨_,rfl,?_⟩
    rw[←x1.len,List.getElem?_append_right (Nat.le_refl _),Nat.sub_self];rfl
   ·cases he
  ·cases he) (fun _ _=>rfl)
theorem Sim.tupOf {np pos:Pos} {e:Expr} {X:Mine.X} {fr:Bool} (hg:c.scope.names.lookup ("tuple":Str)=some .globalImplicit) (hs:notStar e=true) (hx:SimL K c fr e X):Sim K c (.Call (.Name ("tuple":Str) np) [e] [] pos) (.tupOf X):=
 Sim.of (fun env n A s ρ σ l d σ' Q E a hC he p=>by
  simp only[ev] at he
  split at he
  ·rename_i ds σ1 h1
   split at he
   ·rename_i hl
    cases he
    refine callT1 (T:="tuple") a hg (by decide) (by decide) (by decide) (by decide +kernel) hs (hx _ _ _ _ _ _ _ _ _ _ _ a hC h1 fun ad vs ep ρ1 hp1 tk1 g1 x1 _ hh r1=>?_)
    have hsz:vs.size=ds.length:=by have:=r1.length;simpa using this
    refine call_tuple_list ⟨_,hh,rfl,ep,rfl⟩ (fun h' hk=>?_) (by rw[hsz];exact LIM_line hl)
    have g2:Grow ρ1 _ ρ1 _ hp1 h':=Grow.keeps x1 hk
    have x2:=x1.keeps hk
    have e:vs=vs.toList.toArray:=by simp
    have:=Post.newTup (s:={ s with heap:=h',toks:=tk1 }) (Q:=Q) (ds:=ds) (vs:=vs.toList) (Post.grow p (g1.trans g2)) x2 tk1 (r1.grow x1 g2)
    rw[←e] at this
    exact this
   ·cases he
  ·cases he) (fun _ _=>rfl)
theorem items_of:∀{vs:List Value} {ds:List D} {is:List Int} {h:Heap},Reps K.H₀ h ρ vs ds→ints? ds=some is→∃xs:List (Int×Tok),vs=xs.map (fun p=>Value.int p.1 p.2)∧xs.map (·.1)=is
 | [],[],is,_,_,e=>by simp only[ints?,Option.some.injEq] at e;subst e;exact⟨[],rfl,rfl⟩
 |v::vs,.int i::ds,is,h,r,e=>by
  simp only[Reps] at r
  simp only[ints?,Option.map_eq_some_iff] at e
  obtain⟨k,e,rfl⟩:=e
  obtain⟨t,rfl⟩:=r.1
  obtain⟨xs,rfl,rfl⟩:=items_of r.2 e
  exact⟨(i,t)::xs,rfl,rfl⟩
 |_::_,.none::_,_,_,_,e=>by simp[ints?] at e
 |_::_,.bool _::_,_,_,_,e=>by simp[ints?] at e
 |_::_,.str _::_,_,_,_,e=>by simp[ints?] at e
 |_::_,.tup _::_,_,_,_,e=>by simp[ints?] at e
 |_::_,.ref _::_,_,_,_,e=>by simp[ints?] at e
 |_::_,.fro _::_,_,_,_,e=>by simp[ints?] at e
 | [],_::_,_,_,r,_=>by simp[Reps] at r
 |_::_,[],_,_,r,_=>by simp[Reps] at r
theorem foldl_sum:∀(is:List Int) (a:Int),is.foldl (·+·) a=a+is.sum
 | [],a=>by simp
 |i::r,a=>by simp only[List.foldl_cons,List.sum_cons];rw[foldl_sum r];omega
theorem Sim.sum {np pos:Pos} {e:Expr} {X:Mine.X} (hg:c.scope.names.lookup ("sum":Str)=some .globalImplicit) (hs:notStar e=true) (hx:SimE K c e X):Sim K c (.Call (.Name ("sum":Str) np) [e] [] pos) (.sum X):=
 Sim.of (fun env n A s ρ σ l d σ' Q E a hC he p=>by
  simp only[ev] at he
  split at he
  ·rename_i ds σ1 h1
   split at he
   ·rename_i k h2
    cases he
    refine callB1 (id:="sum") a hg (by decide) (by decide) (by decide) (by decide +kernel) hs (hx _ _ _ _ _ _ _ _ _ _ _ a hC h1 fun v1 ρ1 hp1 tk1 g1 x1 r1=>?_)
    obtain⟨t,vs,ep,rfl,g,r⟩:=r1
    simp only[sumD,Option.map_eq_some_iff] at h2
    obtain⟨is,h2,rfl⟩:=h2
    obtain⟨xs,hv,hi⟩:=items_of (K:=K) r h2
    have hv':vs=intItems xs.toArray:=by
     have:vs=vs.toList.toArray:=by simp
     rw[this,hv];simp[intItems]
    subst hv'
    refine ktm_sumG a.room.handled ⟨_,g,rfl,ep,rfl⟩ fun h' tk t' hk=>?_
    rw[preSum_eq,List.take_of_length_le (by simp)]
    simp only[hi]
    refine p _ ρ1 h' tk (g1.trans (Grow.keeps x1 hk)) (x1.keeps hk) ⟨t',?_⟩
    rw[foldl_sum];simp
   ·cases he
  ·cases he) (fun _ _=>rfl)
theorem maxD_bound:∀(r:List Int) (i:Int),i≤r.foldl (fun m x=>if x>m then x else m) i∧(∀x∈r,x≤r.foldl (fun m x=>if x>m then x else m) i)∧(r.foldl (fun m x=>if x>m then x else m) i=i∨r.foldl (fun m x=>if x>m then x else m) i∈r)
 | [],i=>⟨Int.le_refl _,by simp,.inl rfl⟩
 |y::r,i=>by
  simp only[List.foldl_cons]
  obtain⟨h1,h2,h3⟩:=maxD_bound r (if y>i then y else i)
  have hy:y≤(if y>i then y else i)∧i≤(if y>i then y else i):=by split<;>omega
  refine⟨by omega,fun x hx=>?_,?_⟩
  ·rcases List.mem_cons.mp hx with rfl|hx
   ·omega
   ·exact h2 x hx
  ·rcases h3 with h3|h3
   ·rw[h3]
    by_cases q:y>i
    ·rw[if_pos q];exact .inr (List.mem_cons_self ..)
    ·rw[if_neg q];exact .inl rfl
   ·exact .inr (List.mem_cons_of_mem _ h3)
theorem Sim.maxOf {np pos:Pos} {e:Expr} {X:Mine.X} {fr:Bool} (hg:c.scope.names.lookup ("max":Str)=some .globalImplicit) (hs:notStar e=true) (hx:SimL K c fr e X):Sim K c (.Call (.Name ("max":Str) np) [e] [] pos) (.maxOf X):=
 Sim.of (fun env n A s ρ σ l d σ' Q E a hC he p=>by
  simp only[ev] at he
  split at he
  ·rename_i ds σ1 h1
   split at he
   ·rename_i k h2
    cases he
    refine callB1 (id:="max") a hg (by decide) (by decide) (by decide) (by decide +kernel) hs (hx _ _ _ _ _ _ _ _ _ _ _ a hC h1 fun ad vs ep ρ1 hp1 tk1 g1 x1 _ hh r1=>?_)
    simp only[maxD] at h2
    split at h2
    ·rename_i i r hi
     cases h2
     obtain⟨xs,hv,hi'⟩:=items_of (K:=K) r1 hi
     have hv':vs=intItems xs.toArray:=by
      have:vs=vs.toList.toArray:=by simp
      rw[this,hv];simp[intItems]
     subst hv'
     have hne:0<xs.toArray.size:=by
      cases xs with
      |nil=>simp at hi'
      |cons _ _=>simp
     refine max_intList a.room.handled ⟨_,hh,rfl,ep,rfl⟩ hne fun v h' tk hv2 hk=>?_
     obtain⟨t,rfl⟩:=intItems_at hv2
     refine p _ ρ1 h' tk (g1.trans (Grow.keeps x1 hk)) (x1.keeps hk) ?_
     have ha:=argBest_gt (numAt xs.toArray) (xs.toArray.size-1)
     generalize hm:argBest (fun i j=>decide (numAt xs.toArray i>numAt xs.toArray j)) (xs.toArray.size-1)=m at ha
     obtain⟨b1,b2,b3⟩:=maxD_bound r i
     generalize hM:r.foldl (fun m x=>if x>m then x else m) i=M at b1 b2 b3
     have numIs:∀j,j<xs.length→numAt xs.toArray j∈i::r:=fun j hj=>by
      rw[←hi']
      simp only[numAt,List.getElem?_toArray,List.getElem?_eq_getElem hj,Option.map_some,Option.getD_some]
      exact List.mem_map_of_mem (List.getElem_mem hj)
     have isNum:∀x∈i::r,∃j,j<xs.length∧numAt xs.toArray j=x:=fun x hx=>by
      rw[←hi'] at hx
      obtain⟨j,hj,e⟩:=List.getElem_of_mem hx
      simp only[List.length_map] at hj
      refine⟨j,hj,?_⟩
      simp only[numAt,List.getElem?_toArray,List.getElem?_eq_getElem hj,Option.map_some,Option.getD_some]
      simpa using e
     have hle:∀x∈i::r,x≤M:=fun x hx=>by
      rcases List.mem_cons.mp hx with rfl|hx
      ·exact b1
      ·exact b2 x hx
     have hmem:M∈i::r:=by
      rcases b3 with b3|b3
      ·rw[b3];exact List.mem_cons_self ..
      ·exact List.mem_cons_of_mem _ b3
     have hml:m<xs.length:=by simp at hne ha;omega
     have e1:=hle _ (numIs m hml)
     obtain⟨j,hj,e2⟩:=isNum M hmem
     have e3:=ha.2 j (by simp;omega)
     show ∃t',Value.int _ t=Value.int _ t'
     exact⟨t,by congr 1;omega⟩
    ·cases h2
   ·cases he
  ·cases he) (fun _ _=>rfl)
theorem Sim.max2 {np pos:Pos} {x y:Expr} {X Y:Mine.X} (hg:c.scope.names.lookup ("max":Str)=some .globalImplicit) (hs:notStar x=true) (hs':notStar y=true) (hx:SimE K c x X) (hy:SimE K c y Y):Sim K c (.Call (.Name ("max":Str) np) [x,y] [] pos) (.max2 X Y):=
 Sim.of (fun env n A s ρ σ l d σ' Q E a hC he p=>by
  simp only[ev] at he
  split at he
  ·rename_i i1 σ1 h1
   split at he
   ·rename_i i2 σ2 h2
    cases he
    refine wpAny_Call_NameR (builtName a hg (by decide) (by decide) (by decide) (v:=.builtin "max") (by decide +kernel) ?_)
    rw[show backTo pos (starEach [x,y] env)=[(false,eval x env),(false,eval y env)] by rw[starEach_cons hs,starEach_cons hs'];rfl]
    refine Calls.callWith_builtin rfl (Calls.evalArgs_plain (Calls.spliced_cons (hx _ _ _ _ _ _ _ _ _ _ _ a hC h1 fun v1 ρ1 hp1 tk1 g1 x1 r1=>?_)))
    refine Calls.spliced_cons (hy _ _ _ _ _ _ _ _ _ _ _ (a.grow g1 x1 tk1) hC h2 fun v2 ρ2 hp2 tk2 g2 x2 r2=>?_)
    refine Calls.spliced_nil ?_
    obtain⟨t,rfl⟩:=r1
    obtain⟨u,rfl⟩:=r2
    refine max_two_ints a.room.handled fun h' tk hk=>?_
    refine p _ ρ2 h' tk ((g1.trans g2).trans (Grow.keeps x2 hk)) (x2.keeps hk) ?_
    split
    ·exact⟨u,rfl⟩
    ·exact⟨t,rfl⟩
   ·cases he
  ·cases he) (fun _ _=>rfl)
end
section
variable {prog:Program} {w:World} {H₀:Heap} {A:Around} {E:Value→Shared→Prop} {s:Shared}
theorem dget_none_of {ys:List (List Int×Addr×Value)} {fs:Es} {h:Heap} {ρ:List Addr} (hm:ys.map (·.1)=fs.map (·.1)) (hr:Reps H₀ h ρ (ys.map (·.2.2)) (fs.map (·.2))) {k:List Int} (e:atKey ys k=none):dget fs k=none:=by
 cases q:dget fs k with
 |none=>rfl
 |some d=>obtain⟨b,u,e',_⟩:=(atKey_dget ys fs hm hr k).2 d q;rw[e] at e';cases e'
theorem dget_some_of {ys:List (List Int×Addr×Value)} {fs:Es} {h:Heap} {ρ:List Addr} (hm:ys.map (·.1)=fs.map (·.1)) (hr:Reps H₀ h ρ (ys.map (·.2.2)) (fs.map (·.2))) {k:List Int} {p:Addr×Value} (e:atKey ys k=some p):∃d,dget fs k=some d∧Rep H₀ h ρ p.2 d:=by
 cases q:dget fs k with
 |none=>rw[(atKey_dget ys fs hm hr k).1 q] at e;cases e
 |some d=>
  obtain⟨b,u,e',r⟩:=(atKey_dget ys fs hm hr k).2 d q
  rw[e] at e'
  cases e'
  exact⟨d,rfl,r⟩
theorem filter_ddel {h:Heap} {ρ:List Addr} {k:List Int}:∀{ys:List (List Int×Addr×Value)} {fs:Es},ys.map (·.1)=fs.map (·.1)→Reps H₀ h ρ (ys.map (·.2.2)) (fs.map (·.2))→
  (ys.filter fun x=>decide (x.1≠k)).map (·.1)=(ddel fs k).map (·.1)∧Reps H₀ h ρ ((ys.filter fun x=>decide (x.1≠k)).map (·.2.2)) ((ddel fs k).map (·.2))
 | [],[],_,_=>⟨rfl,trivial⟩
 |y::ys,f::fs,hm,hr=>by
  simp only[List.map_cons,List.cons.injEq] at hm
  simp only[List.map_cons,Reps] at hr
  obtain⟨i1,i2⟩:=filter_ddel (k:=k) hm.2 hr.2
  unfold ddel at i1 i2 ⊢
  by_cases q:y.1=k
  ·have q':f.1=k:=hm.1▸q
   rw[List.filter_cons_of_neg (by simpa using q),List.filter_cons_of_neg (by simpa using q')]
   exact⟨i1,i2⟩
  ·have q':¬f.1=k:=hm.1▸q
   rw[List.filter_cons_of_pos (by simpa using q),List.filter_cons_of_pos (by simpa using q')]
   simp only[List.map_cons,List.cons.injEq,Reps]
   exact⟨⟨hm.1,i1⟩,hr.1,i2⟩
 | [],_::_,hm,_=>by simp at hm
 |_::_,[],hm,_=>by simp at hm
theorem erase_filter {k:List Int}:∀(ys:List (List Int×Addr×Value)) (j:Nat) (p:Addr×Value),(ys.map (·.1)).Nodup→ys[j]?=some (k,p)→ys.eraseIdx j=ys.filter fun x=>decide (x.1≠k)
 | [],j,p,_,e=>by simp at e
 |y::ys,0,p,hn,e=>by
  simp only[List.getElem?_cons_zero,Option.some.injEq] at e
  subst e
  simp only[List.map_cons,List.nodup_cons] at hn
  rw[List.eraseIdx_cons_zero,List.filter_cons_of_neg (by simp)]
  symm
  rw[List.filter_eq_self]
  intro x hx
  have:x.1≠k:=fun q=>hn.1 (q▸List.mem_map_of_mem hx)
  simpa using this
 |y::ys,j+1,p,hn,e=>by
  simp only[List.getElem?_cons_succ] at e
  simp only[List.map_cons,List.nodup_cons] at hn
  have hy:y.1≠k:=fun q=>hn.1 (q▸(List.mem_map_of_mem (f:=(·.1)) (List.mem_of_getElem? e)))
  rw[List.eraseIdx_cons_succ,List.filter_cons_of_pos (by simpa using hy),erase_filter ys j p hn.2 e]
theorem ddel_none {fs:Es} {k:List Int} (e:dget fs k=none):ddel fs k=fs:=by
 unfold ddel
 rw[List.filter_eq_self]
 intro x hx
 simp only[dget,Option.map_eq_none_iff,List.find?_eq_none] at e
 simpa using e x hx
theorem map_erase {α β:Type} (f:α→β):∀(xs:List α) (j:Nat),(xs.map f).eraseIdx j=(xs.eraseIdx j).map f
 | [],_=>rfl
 |_::_,0=>rfl
 |x::xs,j+1=>by simp only[List.map_cons,List.eraseIdx_cons_succ,map_erase f xs j]
theorem takeOut_ok {ρ:List Addr} {a t:Addr} {es:Es} {k:List Int} {Q:Option DictEntry→Shared→Prop} (hu:A.units+1<cLine) (r:DictAt prog w H₀ s.heap ρ a es) (hk:(kTup prog w).is s.heap k t) (hl:es.length<LIM)
  (hnone:∀tk,dget es k=none→Q none { s with toks:=tk })
  (hsome:∀e d h' tk,dget es k=some d→Rep H₀ h' ρ e.val d→Heap.SameBut a s.heap h'→DictAt prog w H₀ h' ρ a (ddel es k)→Q (some e) { s with heap:=h',toks:=tk }) :
  wpAny (model prog w) A (Builtin.Dict.takeOut a (.ref t)) Q E s:=by
 have hnt:=r.notTup
 obtain⟨xs,⟨o,ens,ep,ho,hc,hd,he,his,hn⟩,hm,hr,kr⟩:=r
 have hlen:ens.size=xs.length:=size_of_entries he
 have hs:xs.length=es.length:=by simpa using congrArg List.length hm
 have hz:=LIM_line hl
 unfold Builtin.Dict.takeOut
 try with_reducible refine wpAny_holding ?_
 refine wpAny_bind ((kTup prog w).pyHash (show A.units<cLine by omega) hk ?_)
 refine wpAny_bind (wpAny_dictFind_heap (knd:=kTup prog w) (s:={ s with toks:=s.toks+(kTup prog w).draws k }) (show A.units<cLine by omega) hk ho hd he his hn ?_ ?_)
 ·intro hno
  exact wpAny_pure (hnone _ (dget_none_of hm hr (atKey_none_of_get hno)))
 ·intro j p hj
  obtain⟨d,e1,e2⟩:=dget_some_of hm hr (atKey_of_get hn hj)
  refine wpAny_bind (wpAny_dictEntries (s:={ s with toks:=s.toks+(kTup prog w).draws k }) ho hd ?_)
  have he':ens[j]?=some (entryOfKey (kTup prog w) (k,p)):=by rw[entry_at he j,hj];rfl
  rw[he']
  have hsb:Heap.SameBut a s.heap (s.heap.update a (Obj.mapDictKeys (·.eraseIdxIfInBounds j))):=Heap.SameBut.update ..
  refine wpAny_bind (wpAny_updateDictKeys (hz:=by rw[hlen,hs];exact hz) (s:={ s with toks:=s.toks+(kTup prog w).draws k }) ho hd (wpAny_pure (hsome _ d _ _ e1 (e2.other hsb hnt) hsb ?_)))
  obtain⟨f1,f2⟩:=filter_ddel (k:=k) hm hr
  refine⟨xs.filter (fun x=>decide (x.1≠k)),⟨_,_,ep+1,Heap.get?_update_self _ ho (Obj.isFreed_of_dict (Obj.data_mapDictKeys hd _)),hc.mapDictKeys _,Obj.data_mapDictKeys hd _,?_,fun x hx=>isKey_other (his x (List.mem_filter.mp hx).1) hsb hnt,?_⟩,f1,f2.other hsb hnt,fun y hy=>Rep.other (kr y (List.mem_filter.mp hy).1) hsb hnt⟩
  ·rw[←erase_filter xs j p hn hj]
   have:((ens.eraseIdxIfInBounds j).toList)=ens.toList.eraseIdx j:=by obtain⟨l⟩:=ens;simp
   rw[this,he]
   exact map_erase _ _ _
  ·exact hn.sublist ((List.filter_sublist).map _)
theorem dict_pop_ok (dft:Option Value) (a t:Addr) (ρ:List Addr) (k:List Int) (hd:(a==sysModules)=false) :
  MeetsIn prog w (Builtin.«dict.pop» ⟨.ref a::.ref t::dft.toList,[]⟩) (fun A R s=>A.units+3<cLine∧∃es,DictAt prog w H₀ s.heap ρ a es∧(kTup prog w).is s.heap k t∧es.length<LIM∧
   (dget es k=none→∃x,dft=some x∧∀tk,R (.ok (.ret x)) { s with toks:=tk })∧
   ∀v d h' tk,dget es k=some d→Rep H₀ h' ρ v d→Heap.SameBut a s.heap h'→DictAt prog w H₀ h' ρ a (ddel es k)→R (.ok (.ret v)) { s with heap:=h',toks:=tk }):=
 .of_wp fun A R s ⟨hu,es,r,hk,hl,hnone,hsome⟩=>by
  have hT:s.TypeIs (.ref a) "dict":=by obtain⟨xs,dx,_⟩:=r;exact dx.typeIs
  unfold Builtin.«dict.pop»
  refine wpAny_bind ?_
  unfold Builtin.Dict.keyAndDefault
  refine wpAny_bind (wpAny_notOrdered_dict hT ?_)
  have hp:(keyPart (.ref t)).isSome=false:=rfl
  obtain⟨xs,⟨o,ens,ep,ho,hc,hdd,he,his,hn⟩,hm,hr,_⟩:=id r
  cases dft with
  |none=>
   show wpAny _ _ (pure (a,Value.ref t,none)) _ _ s
   refine wpAny_pure ?_
   simp only[hp,Bool.false_eq_true,if_false]
   refine wpAny_bind (wpAny_dictEntries ho hdd (wpAny_bind (wpAny_pure ?_)))
   by_cases hem:ens.isEmpty=true
   ·have hx:xs=[]:=by
     have:=size_of_entries he
     have h0:ens.size=0:=by simpa using hem
     exact List.length_eq_zero_iff.mp (by omega)
    subst hx
    have hes:es=[]:=by simpa using hm.symm
    subst hes
    obtain⟨x,hx,_⟩:=hnone rfl
    cases hx
   ·rw[if_neg hem]
    refine wpAny_bind (takeOut_ok (A:=A.in1) (show A.units+1+1<cLine by omega) r hk hl (fun tk e=>?_) fun e d h' tk e1 e2 e3 e4=>?_)
    ·obtain⟨x,hx,_⟩:=hnone e
     cases hx
    ·simp only[Option.isNone_some,Bool.false_eq_true,if_false]
     exact wpAny_bind (wpAny_letGo (wpAny_pure ⟨e.val,rfl,hsome e.val d h' tk e1 e2 e3 e4⟩))
  |some y=>
   show wpAny _ _ (pure (a,Value.ref t,some y)) _ _ s
   refine wpAny_pure ?_
   simp only[hp,Bool.false_eq_true,if_false]
   refine wpAny_bind (wpAny_dictEntries ho hdd (wpAny_bind (wpAny_pure ?_)))
   by_cases hem:ens.isEmpty=true
   ·have hx:xs=[]:=by
     have:=size_of_entries he
     have h0:ens.size=0:=by simpa using hem
     exact List.length_eq_zero_iff.mp (by omega)
    subst hx
    have hes:es=[]:=by simpa using hm.symm
    subst hes
    obtain⟨x,hx,hR⟩:=hnone rfl
    cases hx
    rw[if_pos hem]
    refine wpAny_bind (wpAny_rule (wpAny_bind (wpAny_pure ?_)))
    simp only[Option.isNone_none,if_true]
    refine wpAny_bind (wpAny_missedRemoval_other hd ?_)
    exact wpAny_bind (wpAny_rule (wpAny_pure ⟨y,rfl,hR s.toks⟩))
   ·rw[if_neg hem]
    refine wpAny_bind (takeOut_ok (A:=A.in1) (show A.units+1+1<cLine by omega) r hk hl (fun tk e=>?_) fun e d h' tk e1 e2 e3 e4=>?_)
    ·obtain⟨x,hx,hR⟩:=hnone e
     cases hx
     simp only[Option.isNone_none,if_true]
     refine wpAny_bind (wpAny_missedRemoval_other hd ?_)
     exact wpAny_bind (wpAny_rule (wpAny_pure ⟨y,rfl,hR tk⟩))
    ·simp only[Option.isNone_some,Bool.false_eq_true,if_false]
     exact wpAny_bind (wpAny_letGo (wpAny_pure ⟨e.val,rfl,hsome e.val d h' tk e1 e2 e3 e4⟩))
end
section
variable {K:Cfg} {c:Ctx} {env:Env} {n:Nat} {A:Around} {s:Shared} {ρ:List Addr} {σ:St} {l:Loc}
theorem notMod {h:Heap} (ok:K.Ok) (x:K.sr ρ σ h) {a:Addr} (ha:a∈ρ):(a==sysModules)=false:=by
 have h1:=x.new a ha
 obtain⟨o,e⟩:=ok.big
 simp only[beq_eq_false_iff_ne,ne_eq]
 intro q
 rw[q,e] at h1
 cases h1
def plainBase:Expr→Bool
 | .Name ..=>true
 | .Subscript ..=>true
 |_=>false
theorem base_plain {o:Expr} (h:plainBase o=true) (name:Str) (env:Env):attributeBase o name env (eval o env)=eval o env:=by
 cases o<;>first|rfl|simp[plainBase] at h
theorem methOn {T id:String} {name:Str} {pos:Pos} {ob:Obj} {a:Addr} {trees:List (Bool×Sem Value)} {Q E:Value→Shared→Prop} (pa:PlainAttrs T) (slot:Slot T name id) (hty:typeOf (.builtin id)=pure (.type "method_descriptor"))
  (ho:s.heap.get? a=some ob) (hc:ob.cls = .type T) (hd:ob.dict=none) (h:wpAny K.M A (callWith pos (.builtin id) [.ref a] trees []) Q E s):MethodOn K.prog K.w A name pos (.ref a) trees Q E s:=
 ⟨T,id,pa,slot,hty,⟨ob,ho,hc⟩,fun b e=>by cases e;exact⟨ob,ho,hd⟩,h⟩
theorem SR.listAt {h:Heap} (x:K.sr ρ σ h) {r:Nat} {a:Addr} {ds:List D} {w0:Nat} (g:ρ[r]?=some a) (e:σ[r]?=some (.list ds w0)):∃vs ep,h.get? a=some (seqObj "list" vs ep)∧Reps K.H₀ h ρ vs.toList ds:=x.objs _ _ _ g e
theorem SR.dictAt {h:Heap} (x:K.sr ρ σ h) {r:Nat} {a:Addr} {es:Es} {w0:Nat} (g:ρ[r]?=some a) (e:σ[r]?=some (.dict es w0)):DictAt K.prog K.w K.H₀ h ρ a es:=
 (x.objs _ _ (.dict es w0) g e:ObjRep K.prog K.w K.H₀ h ρ a (.dict es w0))
theorem SR.isLst {h:Heap} (x:K.sr ρ σ h) {r:Nat} {a:Addr} (g:ρ[r]?=some a) (e:isLst σ r=true):∃vs ep,h.get? a=some (seqObj "list" vs ep):=by
 unfold Mine.isLst at e
 split at e
 ·obtain⟨vs,ep,h1,_⟩:=SR.listAt x g (by assumption)
  exact⟨vs,ep,h1⟩
 ·cases e
theorem DictAt.exact {h:Heap} {a:Addr} {es:Es} (x:DictAt K.prog K.w K.H₀ h ρ a es):∃ob,h.get? a=some ob∧ob.cls = .type "dict"∧ob.dict=none:=by
 obtain⟨xs,⟨o,es',ep,e',c,_⟩,_⟩:=x
 exact⟨o,e',c.1,c.2.1⟩
theorem SR.isDct {h:Heap} (x:K.sr ρ σ h) {r:Nat} {a:Addr} (g:ρ[r]?=some a) (e:isDct σ r=true):∃ob,h.get? a=some ob∧ob.cls = .type "dict"∧ob.dict=none:=by
 unfold Mine.isDct at e
 split at e
 ·exact(SR.dictAt x g (by assumption)).exact
 ·cases e
theorem updList {h:Heap} (x:K.sr ρ σ h) {r:Nat} {a:Addr} {ds es:List D} {vs:Array Value} {ep w0:Nat} (g:ρ[r]?=some a) (e:σ[r]?=some (.list ds w0)) (ho:h.get? a=some (seqObj "list" vs ep)) (f:Array Value→Array Value)
  (hr:Reps K.H₀ h ρ (f vs).toList es):Grow ρ σ ρ (σ.set r (.list es (w0+1))) h (h.update a (Obj.mapSeq f))∧K.sr ρ (σ.set r (.list es (w0+1))) (h.update a (Obj.mapSeq f)):=by
 have hu:IsL (h.update a (Obj.mapSeq f)) a (f vs) (if (f vs).size==vs.size then ep else ep+1):=IsL.update ho f
 have hm:=List.mem_of_getElem? g
 have hs:Heap.SameBut a h (h.update a (Obj.mapSeq f)):=Heap.SameBut.update ..
 exact⟨Grow.update x.nd g e (Nat.lt_succ_self _) hs hu,x.update g e hs ⟨f vs,_,hu,hr.same x hm hs⟩⟩
theorem updDict {h h':Heap} (x:K.sr ρ σ h) {r:Nat} {a:Addr} {es fs:Es} {w0:Nat} (g:ρ[r]?=some a) (e:σ[r]?=some (.dict es w0)) (hs:Heap.SameBut a h h') (hr:DictAt K.prog K.w K.H₀ h' ρ a fs) :
  Grow ρ σ ρ (σ.set r (.dict fs (w0+1))) h h'∧K.sr ρ (σ.set r (.dict fs (w0+1))) h':=by
 obtain⟨o,e'⟩:=hr.here
 exact⟨Grow.update x.nd g e (Nat.lt_succ_self _) hs e',x.update g e hs hr⟩
theorem Sim.append {o e:Expr} {O X:Mine.X} {apos pos:Pos} (ho:SimE K c o O) (hx:SimE K c e X) (hb:plainBase o=true) (hs:notStar e=true) (hl:(apos.endLine==pos.line)=true) :
  Sim K c (.Call (.Attribute o ("append":Str) apos) [e] [] pos) (.append O X):=
 Sim.of (fun env n A s ρ σ l d σ' Q E a hC he p=>by
  simp only[ev] at he
  split at he
  ·rename_i r σ1 h1
   split at he
   ·rename_i hk
    split at he
    ·rename_i xd σ2 h2
     split at he
     ·rename_i ds w0 h3
      split at he
      ·rename_i hlim
       cases he
       refine wpAny_Call_method1_late (base_plain hb _ _) hl (by rw[starEach_cons hs];rfl) (ho _ _ _ _ _ _ _ _ _ _ _ a hC h1 fun v1 ρ1 hp1 tk1 g1 x1 r1=>?_)
       obtain⟨t,rfl,gt⟩:=r1
       obtain⟨vs0,ep0,e1⟩:=SR.isLst x1 gt hk
       refine methOn PySem.F.plainAttrs_list PySem.F.slot_list_append PySem.F.type_list_append e1 rfl rfl ?_
       refine seqMethod1_meets PySem.F.slot_list_append PySem.F.entry_list_append (hx _ _ _ _ _ _ _ _ _ _ _ (a.grow g1 x1 tk1) hC h2 fun v2 ρ2 hp2 tk2 g2 x2 r2=>?_)
       have gt2:=g2.get gt
       obtain⟨vs,ep,e2,rr⟩:=SR.listAt x2 gt2 h3
       have hsz:vs.size=ds.length:=by have:=rr.length;simpa using this
       refine⟨⟨_,e2,rfl⟩,PySem.F.args_list_append_2 _ _,_,AutoListH.list_append_list_val_0 t vs ep v2 (by rw[hsz];exact LIM_line hlim),e2,?_⟩
       obtain⟨u1,u2⟩:=updList x2 gt2 h3 e2 (fun x=>x.push v2) (es:=ds++[xd]) (by
        rw[Array.toList_push]
        exact rr.append ⟨r2,trivial⟩)
       exact p .none ρ2 _ _ ((g1.trans g2).trans u1) u2 rfl
      ·cases he
     ·cases he
    ·cases he
   ·cases he
  ·cases he) (fun _ _=>rfl)
theorem Sim.extend {o e:Expr} {O X:Mine.X} {fr:Bool} {apos pos:Pos} (ho:SimE K c o O) (hx:SimL K c fr e X) (hb:plainBase o=true) (hs:notStar e=true) (hl:(apos.endLine==pos.line)=true) :
  Sim K c (.Call (.Attribute o ("extend":Str) apos) [e] [] pos) (.extend O X):=
 Sim.of (fun env n A s ρ σ l d σ' Q E a hC he p=>by
  simp only[ev] at he
  split at he
  ·rename_i r σ1 h1
   split at he
   ·rename_i hk
    split at he
    ·rename_i xs σ2 h2
     split at he
     ·rename_i ds w0 h3
      split at he
      ·rename_i hlim
       cases he
       refine wpAny_Call_method1_late (base_plain hb _ _) hl (by rw[starEach_cons hs];rfl) (ho _ _ _ _ _ _ _ _ _ _ _ a hC h1 fun v1 ρ1 hp1 tk1 g1 x1 r1=>?_)
       obtain⟨t,rfl,gt⟩:=r1
       obtain⟨vs0,ep0,e1⟩:=SR.isLst x1 gt hk
       refine methOn PySem.F.plainAttrs_list PySem.F.slot_list_extend PySem.F.type_list_extend e1 rfl rfl ?_
       refine seqMethod1_meets PySem.F.slot_list_extend PySem.F.entry_list_extend (hx _ _ _ _ _ _ _ _ _ _ _ (a.grow g1 x1 tk1) hC h2 fun ad ws ep' ρ2 hp2 tk2 g2 x2 _ e3 r2=>?_)
       have gt2:=g2.get gt
       obtain⟨vs,ep,e2,rr⟩:=SR.listAt x2 gt2 h3
       have hsz:vs.size=ds.length:=by have:=rr.length;simpa using this
       have hsz2:ws.size=xs.length:=by have:=r2.length;simpa using this
       have hz:=LIM_line hlim
       have hz2:(2:Nat)^20=LIM:=rfl
       have hlt:vs.size+ws.size<2^20:=by rw[hsz,hsz2];exact hlim
       refine⟨⟨_,e2,rfl⟩,PySem.F.args_list_extend_2 _ _,_,AutoSeq1.list_extend_list_list_0 t vs ep ad ws ep' (by simp[Builtin.List.listTooLong,sizeLine];omega) (by rw[sizeLine_eq];omega) (by rw[sizeLine_eq];omega),e2,e3,?_⟩
       obtain⟨u1,u2⟩:=updList x2 gt2 h3 e2 (fun x=>x++ws) (es:=ds++xs) (by
        rw[Array.toList_append]
        exact rr.append r2)
       exact p .none ρ2 _ _ ((g1.trans g2).trans u1) u2 rfl
      ·cases he
     ·cases he
    ·cases he
   ·cases he
  ·cases he) (fun _ _=>rfl)
theorem Sim.popAt {o e:Expr} {O X:Mine.X} {apos pos:Pos} (ho:SimE K c o O) (hx:SimE K c e X) (hb:plainBase o=true) (hs:notStar e=true) (hl:(apos.endLine==pos.line)=true) :
  Sim K c (.Call (.Attribute o ("pop":Str) apos) [e] [] pos) (.popAt O X):=
 Sim.of (fun env n A s ρ σ l d σ' Q E a hC he p=>by
  simp only[ev] at he
  split at he
  ·rename_i r σ1 h1
   split at he
   ·rename_i hk
    split at he
    ·rename_i i σ2 h2
     split at he
     ·rename_i ds w0 h3
      split at he
      ·rename_i hlim
       split at he
       ·rename_i xd h4
        cases he
        refine wpAny_Call_method1_late (base_plain hb _ _) hl (by rw[starEach_cons hs];rfl) (ho _ _ _ _ _ _ _ _ _ _ _ a hC h1 fun v1 ρ1 hp1 tk1 g1 x1 r1=>?_)
        obtain⟨t,rfl,gt⟩:=r1
        obtain⟨vs0,ep0,e1⟩:=SR.isLst x1 gt hk
        refine methOn PySem.F.plainAttrs_list PySem.F.slot_list_pop PySem.F.type_list_pop e1 rfl rfl ?_
        refine seqMethod1_meets PySem.F.slot_list_pop PySem.F.entry_list_pop (hx _ _ _ _ _ _ _ _ _ _ _ (a.grow g1 x1 tk1) hC h2 fun v2 ρ2 hp2 tk2 g2 x2 r2=>?_)
        obtain⟨u,rfl⟩:=r2
        have gt2:=g2.get gt
        obtain⟨vs,ep,e2,rr⟩:=SR.listAt x2 gt2 h3
        have hsz:vs.size=ds.length:=by have:=rr.length;simpa using this
        obtain⟨y,hy,ry⟩:=rr.get h4
        have hlt:i.toNat<ds.length:=(List.getElem?_eq_some_iff.mp h4).1
        have hidx:seqIndex? i vs.size=some i.toNat:=by
         unfold seqIndex?
         have h1:¬i<0:=by omega
         have h2:i<(vs.size:Int):=by omega
         simp[h1,h2,hlim.1]
        have hfit:Builtin.List.listFitsIndex i=true:=by
         have:=hlim.2.1
         unfold LIM at this
         simp[Builtin.List.listFitsIndex];omega
        refine⟨⟨_,e2,rfl⟩,PySem.F.args_list_pop_2 _ _,_,MeetsSeq.list_pop_at t vs ep i u i.toNat y hfit hidx (by simpa using hy) (by rw[hsz];exact LIM_line hlim.2.2),e2,?_⟩
        obtain⟨u1,u2⟩:=updList x2 gt2 h3 e2 (fun x=>x.eraseIdxIfInBounds i.toNat) (es:=ds.eraseIdx i.toNat) (by
         have:(vs.eraseIdxIfInBounds i.toNat).toList=vs.toList.eraseIdx i.toNat:=by obtain⟨q⟩:=vs;simp
         rw[this]
         exact rr.eraseIdx _)
        exact p y ρ2 _ _ ((g1.trans g2).trans u1) u2 (ry.grow x2 u1)
       ·cases he
      ·cases he
     ·cases he
    ·cases he
   ·cases he
  ·cases he) (fun _ _=>rfl)
theorem Sim.get2 {o e f:Expr} {O X Y:Mine.X} {apos pos:Pos} (ho:SimE K c o O) (hx:SimE K c e X) (hy:SimE K c f Y) (hb:plainBase o=true) (hs:notStar e=true) (hs':notStar f=true) (hl:(apos.endLine==pos.line)=true) :
  Sim K c (.Call (.Attribute o ("get":Str) apos) [e,f] [] pos) (.get2 O X Y):=
 Sim.of (fun env n A s ρ σ l d σ' Q E a hC he p=>by
  simp only[ev] at he
  split at he
  ·rename_i r σ1 h1
   split at he
   ·rename_i hk
    split at he
    ·rename_i ks σ2 h2
     split at he
     ·rename_i yd σ3 h3
      split at he
      ·rename_i es w0 kk h4 h5
       cases he
       refine wpAny_Call_method2_late (base_plain hb _ _) hl (by rw[starEach_cons hs,starEach_cons hs'];rfl) (ho _ _ _ _ _ _ _ _ _ _ _ a hC h1 fun v1 ρ1 hp1 tk1 g1 x1 r1=>?_)
       obtain⟨t,rfl,gt⟩:=r1
       obtain⟨ob,e1,e1c,e1d⟩:=SR.isDct x1 gt hk
       refine methOn PySem.F.plainAttrs_dict PySem.F.slot_dict_get PySem.F.type_dict_get e1 e1c e1d ?_
       refine wpAny_dict_get2_heap (knd:=kTup K.prog K.w) (by have:=a.room.u;show A.units+1<cLine;omega) (notMod a.ok x1 (List.mem_of_getElem? gt)) ?_
       refine hx _ _ _ _ _ _ _ _ _ _ _ (a.grow g1 x1 tk1) hC h2 fun v2 ρ2 hp2 tk2 g2 x2 r2=>?_
       refine hy _ _ _ _ _ _ _ _ _ _ _ (a.grow (g1.trans g2) x2 tk2) hC h3 fun v3 ρ3 hp3 tk3 g3 x3 r3=>?_
       obtain⟨u,ws,ep',rfl,g',r'⟩:=r2.grow x2 g3
       obtain⟨xs,dx,hm,hr,_⟩:=SR.dictAt x3 ((g2.trans g3).get gt) h4
       refine⟨u,kk,xs,rfl,key_ok g' r' h5,dx,?_⟩
       refine p _ ρ3 hp3 _ ((g1.trans g2).trans g3) x3 ?_
       cases q:atKey xs kk with
       |none=>rw[dget_none_of hm hr q];exact r3
       |some pr=>obtain⟨dd,e6,e7⟩:=dget_some_of hm hr q;rw[e6];exact e7
      ·cases he
     ·cases he
    ·cases he
   ·cases he
  ·cases he) (fun _ _=>rfl)
theorem Sim.pop2 {o e f:Expr} {O X:Mine.X} {apos pos:Pos} (ho:SimE K c o O) (hx:SimE K c e X) (hy:SimE K c f (.lit .none)) (hb:plainBase o=true) (hs:notStar e=true) (hs':notStar f=true) (hl:(apos.endLine==pos.line)=true) :
  Sim K c (.Call (.Attribute o ("pop":Str) apos) [e,f] [] pos) (.pop2 O X):=
 Sim.of (fun env n A s ρ σ l d σ' Q E a hC he p=>by
  simp only[ev] at he
  split at he
  ·rename_i r σ1 h1
   split at he
   ·rename_i hk
    split at he
    ·rename_i ks σ2 h2
     split at he
     ·rename_i es w0 kk h4 h5
      split at he
      ·rename_i hlim
       cases he
       refine wpAny_Call_method2_late (base_plain hb _ _) hl (by rw[starEach_cons hs,starEach_cons hs'];rfl) (ho _ _ _ _ _ _ _ _ _ _ _ a hC h1 fun v1 ρ1 hp1 tk1 g1 x1 r1=>?_)
       obtain⟨t,rfl,gt⟩:=r1
       obtain⟨ob,e1,e1c,e1d⟩:=SR.isDct x1 gt hk
       refine methOn PySem.F.plainAttrs_dict PySem.F.slot_dict_pop PySem.F.type_dict_pop e1 e1c e1d ?_
       refine method2_meetsIn PySem.F.slot_dict_pop PySem.F.entry_dict_pop ?_
       refine hx _ _ _ _ _ _ _ _ _ _ _ (a.grow g1 x1 tk1) hC h2 fun v2 ρ2 hp2 tk2 g2 x2 r2=>?_
       refine hy _ _ _ _ _ _ _ _ _ _ _ (a.grow (g1.trans g2) x2 tk2) hC (by simp only[ev];rfl) fun v3 ρ3 hp3 tk3 g3 x3 r3=>?_
       obtain⟨u,ws,ep',rfl,g',r'⟩:=r2.grow x2 g3
       have gt3:=(g2.trans g3).get gt
       have dx:=SR.dictAt x3 gt3 h4
       obtain⟨ob3,e3,e3c,e3d⟩:=dx.exact
       simp only[Rep] at r3
       subst r3
       refine⟨⟨ob3,e3,e3c⟩,PySem.F.args_dict_pop_3 _ _ _,_,dict_pop_ok (some .none) t u ρ3 kk (notMod a.ok x3 (List.mem_of_getElem? gt3)),by have:=a.room.u;omega,es,dx,key_ok g' r' h5,hlim,fun e=>⟨_,rfl,fun tk=>?_⟩,fun v d h' tk e6 e7 e8 e9=>?_⟩
       ·have dx':DictAt K.prog K.w K.H₀ hp3 ρ3 t (ddel es kk):=by rw[ddel_none e];exact dx
        obtain⟨u1,u2⟩:=updDict x3 gt3 h4 (Heap.SameBut.refl _ _) dx'
        rw[e] at p
        exact p _ ρ3 hp3 tk (((g1.trans g2).trans g3).trans u1) u2 rfl
       ·obtain⟨u1,u2⟩:=updDict x3 gt3 h4 e8 e9
        rw[e6] at p
        exact p v ρ3 h' tk (((g1.trans g2).trans g3).trans u1) u2 e7
      ·cases he
     ·cases he
    ·cases he
   ·cases he
  ·cases he) (fun _ _=>rfl)
theorem Sim.pop1 {o e:Expr} {O X:Mine.X} {apos pos:Pos} (ho:SimE K c o O) (hx:SimE K c e X) (hb:plainBase o=true) (hs:notStar e=true) (hl:(apos.endLine==pos.line)=true) :
  Sim K c (.Call (.Attribute o ("pop":Str) apos) [e] [] pos) (.pop1 O X):=
 Sim.of (fun env n A s ρ σ l d σ' Q E a hC he p=>by
  simp only[ev] at he
  split at he
  ·rename_i r σ1 h1
   split at he
   ·rename_i hk
    split at he
    ·rename_i ks σ2 h2
     split at he
     ·rename_i es w0 kk h4 h5
      split at he
      ·rename_i xd h6
       split at he
       ·rename_i hlim
        cases he
        refine wpAny_Call_method1_late (base_plain hb _ _) hl (by rw[starEach_cons hs];rfl) (ho _ _ _ _ _ _ _ _ _ _ _ a hC h1 fun v1 ρ1 hp1 tk1 g1 x1 r1=>?_)
        obtain⟨t,rfl,gt⟩:=r1
        obtain⟨ob,e1,e1c,e1d⟩:=SR.isDct x1 gt hk
        refine methOn PySem.F.plainAttrs_dict PySem.F.slot_dict_pop PySem.F.type_dict_pop e1 e1c e1d ?_
        refine method1_meetsIn PySem.F.slot_dict_pop PySem.F.entry_dict_pop ?_
        refine hx _ _ _ _ _ _ _ _ _ _ _ (a.grow g1 x1 tk1) hC h2 fun v2 ρ2 hp2 tk2 g2 x2 r2=>?_
        obtain⟨u,ws,ep',rfl,g',r'⟩:=r2
        have gt3:=g2.get gt
        have dx:=SR.dictAt x2 gt3 h4
        obtain⟨ob3,e3,e3c,e3d⟩:=dx.exact
        refine⟨⟨ob3,e3,e3c⟩,PySem.F.args_dict_pop_2 _ _,_,dict_pop_ok none t u ρ2 kk (notMod a.ok x2 (List.mem_of_getElem? gt3)),by have:=a.room.u;omega,es,dx,key_ok g' r' h5,hlim,fun e=>?_,fun v d h' tk e6 e7 e8 e9=>?_⟩
        ·rw[h6] at e;cases e
        ·obtain⟨u1,u2⟩:=updDict x2 gt3 h4 e8 e9
         rw[h6] at e6
         cases e6
         exact p v ρ2 h' tk ((g1.trans g2).trans u1) u2 e7
       ·cases he
      ·cases he
     ·cases he
    ·cases he
   ·cases he
  ·cases he) (fun _ _=>rfl)
end
section
variable {K:Cfg} {c:Ctx} {env:Env} {n:Nat} {A:Around} {s:Shared} {ρ:List Addr} {σ:St} {l:Loc}
theorem SR.liveAll {h:Heap} (x:K.sr ρ σ h):∀b∈ρ,∃o,h.get? b=some o:=fun _ hb=>let ⟨o,e,_⟩:=x.is hb;⟨o,e⟩
theorem rep_items (v:Value) (k:Nat):(List.foldl (fun x1 x2=>x1++x2) #[] (List.replicate (if (#[v]:Array Value).isEmpty=true then 0 else k) #[v])).toList=List.replicate k v:=by
 have h:∀(k:Nat) (a:Array Value),(List.foldl (fun x1 x2=>x1++x2) a (List.replicate k #[v])).toList=a.toList++List.replicate k v:=by
  intro k
  induction k with
  |zero=>intro a;simp
  |succ k ih=>intro a;rw[List.replicate_succ,List.foldl_cons,ih,List.replicate_succ];simp
 have h0:(#[v]:Array Value).isEmpty=false:=rfl
 rw[h0]
 simpa using h k #[]
theorem Sim.rep {e m:Expr} {X N:Mine.X} {lp pos:Pos} (hs:notStar e=true) (hx:SimE K c e X) (hm:SimE K c m N):Sim K c (.BinOp (.List [e] lp) .Mult m pos) (.rep X N):=
 Sim.of (fun env n A s ρ σ l d σ' Q E a hC he p=>by
  simp only[ev] at he
  split at he
  ·rename_i xd σ1 h1
   split at he
   ·rename_i k σ2 h2
    split at he
    ·rename_i hk
     cases he
     refine wpAny_BinOp ?_
     rw[arm_eval_List]
     refine wpAny_bind (wpAny_standAt (wpAny_bind ?_))
     rw[starEach_cons hs]
     show wpAny K.M A (spliced [(false,eval e env)]) _ E s
     refine Calls.spliced_cons (hx _ _ _ _ _ _ _ _ _ _ _ a hC h1 fun v1 ρ1 hp1 tk1 g1 x1 r1=>?_)
     refine Calls.spliced_nil ?_
     refine wpAny_newList ?_ (by simp[sizeLine])
     have ho:(hp1.push { cls:=.type "list",data:=.seq [v1].toArray }).get? hp1.objs.size=some (seqObj "list" #[v1] 0):=Heap.get?_push_size _ rfl
     have gp:=Grow.push x1 { cls:=.type "list",data:=.seq [v1].toArray }
     have xp:=x1.push { cls:=.type "list",data:=.seq [v1].toArray }
     refine hm _ _ _ _ _ _ _ _ _ _ _ (a.grow (g1.trans gp) xp tk1) hC h2 fun v2 ρ2 hp2 tk2 g2 x2 r2=>?_
     obtain⟨u,rfl⟩:=r2
     have hn:hp1.objs.size∉ρ1:=x1.sizeNot
     have ho2:hp2.get? hp1.objs.size=some (seqObj "list" #[v1] 0):=g2.ext _ _ ho hn
     have hk':k.natAbs<2^20:=hk
     refine wpAny_binaryOp_repeat_ref (T:="list") (U:="int") (by decide) ⟨_,ho2,rfl⟩ (fun s'=>typeIs_int s' k u) noFill_list_mul PySem.F.fills_int_mul PySem.F.slot_int_rmul repeat_list PySem.F.slot_int_index.lookup
      (call_meets PySem.F.slot_int_rmul (typeIs_int _ k u) PySem.F.entry_int_rmul (PySem.F.args_int_rmul_2 _ _) (int___rmul___int_list k u hp1.objs.size #[v1] 0)
       ⟨ho2,rfl,⟨_,ho2,rfl⟩,call_meets PySem.F.slot_list_mul ⟨_,ho2,rfl⟩ PySem.F.entry_list_mul (PySem.F.args_list_mul_2 _ _)
        (AutoListH.list___mul___list_int_3 hp1.objs.size #[v1] 0 k u (by simp[Builtin.List.listFitsIndex];omega) (by simp;omega) (by simp[Builtin.List.listTooLong,sizeLine];omega)) ⟨ho2,?_⟩⟩)
     have rr:Reps K.H₀ hp2 ρ2 (List.replicate k.toNat v1) (List.replicate k.toNat xd):=Reps.replicate ((r1.grow x1 gp).grow xp g2) _
     have he:=rep_items v1 k.toNat
     have hc:(List.foldl (fun x1 x2=>x1++x2) #[] (List.replicate (if (#[v1]:Array Value).isEmpty=true then 0 else k.toNat) #[v1]))=(List.replicate k.toNat v1).toArray:=by
      rw[←he]
     show Q (.ref hp2.objs.size) { s with heap:=hp2.push { cls:=.type "list",data:=.seq (List.foldl (fun x1 x2=>x1++x2) #[] (List.replicate (if (#[v1]:Array Value).isEmpty=true then 0 else k.toNat) #[v1])) },toks:=tk2 }
     rw[hc]
     exact Post.newList (s:={ s with heap:=hp2,toks:=tk2 }) (Post.grow p ((g1.trans gp).trans g2)) x2 tk2 rr
    ·cases he
   ·cases he
  ·cases he) (fun _ _=>rfl)
theorem neNil_core {a b:Addr} {ds:List D} {vs:Array Value} {ep:Nat} {Q E:Value→Shared→Prop} (ok:K.Ok) (hu:A.units+40<cLine) (x:K.sr ρ σ s.heap) {i:Nat} (ga:ρ[i]?=some a) {w0:Nat} (gi:σ[i]?=some (.list ds w0))
  (hb:s.heap.get? b=some (seqObj "list" vs ep)) (hv:vs.toList=[]) (hn:b∉ρ) (h0:K.H₀.get? b=none) (h:∀tk,Q (.bool (!ds.isEmpty)) { s with toks:=tk }) :
  wpAny K.M A (compareOp .NotEq (.ref a) (.ref b)) Q E s:=by
 have x':K.sr (ρ++[b]) (σ++[.list [] 0]) s.heap:=x.adopt hn h0 ⟨vs,ep,hb,by rw[hv];trivial⟩
 have hi:i<σ.length:=(List.getElem?_eq_some_iff.mp gi).1
 have hl:ρ.length=σ.length:=x.len
 refine cmp_ok (op:=.ne) ok.big x' hu (a:=.ref i) (b:=.ref σ.length) ⟨a,rfl,?_⟩ ⟨b,rfl,?_⟩ (r:=!ds.isEmpty) ?_ h
 ·rw[List.getElem?_append_left (by omega)];exact ga
 ·rw[←hl,List.getElem?_append_right (Nat.le_refl _),Nat.sub_self];rfl
 ·have h1:¬i=σ.length:=by omega
  have e1:(σ++[AO.list [] 0])[i]?=some (.list ds w0):=by rw[List.getElem?_append_left hi];exact gi
  have e2:(σ++[AO.list [] 0])[σ.length]?=some (.list [] 0):=by rw[List.getElem?_append_right (Nat.le_refl _),Nat.sub_self];rfl
  simp only[cmpD,h1,if_false,CF,eqD,e1,e2]
  cases ds with
  |nil=>simp[eqAll]
  |cons d r=>simp
theorem Sim.neNil {e:Expr} {X:Mine.X} {lp pos:Pos} (hx:SimE K c e X):Sim K c (.Compare e [.NotEq] [.List [] lp] pos) (.neNil X):=by
 have key:∀env n A s ρ σ l d σ' (Q:Value→Shared→Prop) (E:Value→Shared→Prop),At K c env n A s ρ σ l→CallsOK K n→ev (K.C n) (.neNil X) l σ=some (d,σ')→
   (∀b ρ' h' tk',d = .bool b→Grow ρ σ ρ' σ' s.heap h'→K.sr ρ' σ' h'→Q (.bool b) { s with heap:=h',toks:=tk' })→
   wpAny K.M A (eval e env) (fun v s₁=>wpAny K.M A (eval (.List [] lp) env) (fun u s₂=>wpAny K.M A (compareOp .NotEq v u) Q E s₂) E s₁) E s:=by
  intro env n A s ρ σ l d σ' Q E a hC he h
  simp only[ev] at he
  split at he
  ·rename_i r σ1 h1
   split at he
   ·rename_i ds w0 h2
    cases he
    refine hx _ _ _ _ _ _ _ _ _ _ _ a hC h1 fun v1 ρ1 hp1 tk1 g1 x1 r1=>?_
    obtain⟨t,rfl,gt⟩:=r1
    rw[arm_eval_List]
    refine wpAny_bind (wpAny_standAt (wpAny_bind (Calls.spliced_nil (wpAny_newList ?_ (by simp[sizeLine])))))
    have gp:=Grow.push x1 { cls:=.type "list",data:=.seq ([]:List Value).toArray }
    have xp:=x1.push { cls:=.type "list",data:=.seq ([]:List Value).toArray }
    exact neNil_core a.ok a.room.u xp gt h2 (Heap.get?_push_size _ rfl) rfl x1.sizeNot (x1.freshBase (size_none _)) fun tk=>h _ ρ1 _ tk rfl (g1.trans gp) xp
   ·cases he
  ·cases he
 exact⟨fun env n A s ρ σ l d σ' Q E a hC he p=>wpAny_Compare1 (key env n A s ρ σ l d σ' _ E a hC he fun b ρ' h' tk' hd g x'=>by subst hd;exact p _ _ _ _ g x' rfl) rfl,
  fun env n A s ρ σ l d b σ' Q E a hC he hb h=>wpAny_isTrue_Compare1 (key env n A s ρ σ l d σ' _ E a hC he fun r ρ' h' tk' hd g x'=>by
   subst hd
   simp only[truthD,Option.some.injEq] at hb
   subst hb
   exact wpAny_truthy_bool (h _ _ _ g x')) rfl⟩
theorem Sim.neNilL {e:Expr} {X:Mine.X} {lp pos:Pos} (hx:SimL K c true e X):Sim K c (.Compare e [.NotEq] [.List [] lp] pos) (.neNilL X):=by
 have key:∀env n A s ρ σ l d σ' (Q:Value→Shared→Prop) (E:Value→Shared→Prop),At K c env n A s ρ σ l→CallsOK K n→ev (K.C n) (.neNilL X) l σ=some (d,σ')→
   (∀b ρ' h' tk',d = .bool b→Grow ρ σ ρ' σ' s.heap h'→K.sr ρ' σ' h'→Q (.bool b) { s with heap:=h',toks:=tk' })→
   wpAny K.M A (eval e env) (fun v s₁=>wpAny K.M A (eval (.List [] lp) env) (fun u s₂=>wpAny K.M A (compareOp .NotEq v u) Q E s₂) E s₁) E s:=by
  intro env n A s ρ σ l d σ' Q E a hC he h
  simp only[ev] at he
  split at he
  ·rename_i ds σ1 h1
   cases he
   refine hx _ _ _ _ _ _ _ _ _ _ _ a hC h1 fun ad vs ep ρ1 hp1 tk1 g1 x1 hf hg r1=>?_
   obtain⟨f1,f2⟩:=hf rfl
   rw[arm_eval_List]
   refine wpAny_bind (wpAny_standAt (wpAny_bind (Calls.spliced_nil (wpAny_newList ?_ (by simp[sizeLine])))))
   have gp:=Grow.push x1 { cls:=.type "list",data:=.seq ([]:List Value).toArray }
   have xp:=x1.push { cls:=.type "list",data:=.seq ([]:List Value).toArray }
   have hg':=Heap.get?_push_of_some { cls:=.type "list",data:=.seq ([]:List Value).toArray } hg
   have hne:hp1.objs.size≠ad:=fun q=>Nat.lt_irrefl _ (q▸Heap.lt_size hg)
   have xa:=xp.adopt (o:=.list ds 0) f2 (a.sr.freshBase f1) ⟨vs,ep,hg',(r1.push x1 _).more _⟩
   refine neNil_core (i:=ρ1.length) (w0:=0) a.ok a.room.u xa (by rw[List.getElem?_append_right (Nat.le_refl _),Nat.sub_self];rfl) (by rw[x1.len,List.getElem?_append_right (Nat.le_refl _),Nat.sub_self];rfl) (Heap.get?_push_size _ rfl) rfl ?_ (x1.freshBase (size_none _)) fun tk=>h _ ρ1 _ tk rfl (g1.trans gp) xp
   intro hm
   rcases List.mem_append.mp hm with hm|hm
   ·exact x1.sizeNot hm
   ·exact hne (List.mem_singleton.mp hm)
  ·cases he
 exact⟨fun env n A s ρ σ l d σ' Q E a hC he p=>wpAny_Compare1 (key env n A s ρ σ l d σ' _ E a hC he fun b ρ' h' tk' hd g x'=>by subst hd;exact p _ _ _ _ g x' rfl) rfl,
  fun env n A s ρ σ l d b σ' Q E a hC he hb h=>wpAny_isTrue_Compare1 (key env n A s ρ σ l d σ' _ E a hC he fun r ρ' h' tk' hd g x'=>by
   subst hd
   simp only[truthD,Option.some.injEq] at hb
   subst hb
   exact wpAny_truthy_bool (h _ _ _ g x')) rfl⟩
def flatP:List (Value×Value)→List Value
 | []=>[]
 |(k,v)::r=>k::v::flatP r
def SimP (K:Cfg) (c:Ctx) (ks:List (Option Expr)) (es:List Expr) (x:X):Prop:=
 ∀pos env n A s ρ σ l ds σ' Q E,At K c env n A s ρ σ l→CallsOK K n→evs (K.C n) x l σ=some (ds,σ')→
  (∀vs ρ' h' tk',Grow ρ σ ρ' σ' s.heap h'→K.sr ρ' σ' h'→Reps K.H₀ h' ρ' (flatP vs) ds→Q vs { s with heap:=h',toks:=tk' })→wpAny K.M A (evalPairs (pairTrees ks es env pos)) Q E s
theorem SimP.nil:SimP K c [] [] .anil:=fun pos env n A s ρ σ l ds σ' Q E a hC he h=>by
 simp only[evs,Option.some.injEq,Prod.mk.injEq] at he
 obtain⟨rfl,rfl⟩:=he
 exact pairTrees_nil_walk (h _ _ _ _ (Grow.refl _ _ _) a.sr (by simp[Reps,flatP]))
theorem SimP.cons {k v:Expr} {ks:List (Option Expr)} {es:List Expr} {X Y Z:Mine.X} (hk:SimE K c k X) (hv:SimE K c v Y) (hr:SimP K c ks es Z):SimP K c (some k::ks) (v::es) (.acons X (.acons Y Z)):=
 fun pos env n A s ρ σ l ds σ' Q E a hC he h=>by
  simp only[evs] at he
  split at he
  ·rename_i d1 σ1 h1
   split at he
   ·rename_i ds2 σ2 h2
    split at h2
    ·rename_i d3 σ3 h3
     split at h2
     ·rename_i ds4 σ4 h4
      cases h2
      cases he
      refine pairTrees_cons_walk (hk _ _ _ _ _ _ _ _ _ _ _ a hC h1 fun v1 ρ1 hp1 tk1 g1 x1 r1=>?_)
      refine hv _ _ _ _ _ _ _ _ _ _ _ (a.grow g1 x1 tk1) hC h3 fun v2 ρ2 hp2 tk2 g2 x2 r2=>?_
      refine hr pos _ _ _ _ _ _ _ _ _ _ _ (a.grow (g1.trans g2) x2 tk2) hC h4 fun vs ρ3 hp3 tk3 g3 x3 r3=>?_
      exact h _ _ _ _ ((g1.trans g2).trans g3) x3 ⟨(r1.grow x1 g2).grow x2 g3,r2.grow x2 g3,r3⟩
     ·cases h2
    ·cases h2
   ·cases he
  ·cases he
theorem storeAll_ok {b:Addr}:∀(vs:List (Value×Value)) (ds:List D) (es0 es:Es) (s:Shared) (ρ:List Addr) (σ:St) (Q:PUnit→Shared→Prop) (E:Value→Shared→Prop) (h0:Heap) (σ0:St) (ρ0:List Addr),A.units+1<cLine→K.sr ρ σ s.heap→K.sr ρ0 σ0 h0→Grow ρ0 σ0 ρ σ h0 s.heap→h0.get? b=none→b∉ρ→
  DictAt K.prog K.w K.H₀ s.heap ρ b es0→Reps K.H₀ s.heap ρ (flatP vs) ds→dispE ds es0=some es→es0.length+ds.length<LIM→
  (∀h' tk',Grow ρ0 σ0 ρ σ h0 h'→K.sr ρ σ h'→DictAt K.prog K.w K.H₀ h' ρ b es→Q PUnit.unit { s with heap:=h',toks:=tk' })→wpAny K.M A (storeAll b vs) Q E s
 | [],ds,es0,es,s,ρ,σ,Q,E,h0,σ0,ρ0,hu,x,x0,g,hb,hn,r,rr,e,hl,h=>by
  cases ds with
  |nil=>
   simp only[dispE,Option.some.injEq] at e
   subst e
   show wpAny _ _ (forIn ([]:List (Value×Value)) PUnit.unit _) _ _ _
   rw[List.forIn_nil]
   exact wpAny_pure (h s.heap s.toks g x r)
  |cons _ _=>simp[flatP,Reps] at rr
 |(k,v)::vs,ds,es0,es,s,ρ,σ,Q,E,h0,σ0,ρ0,hu,x,x0,g,hb,hn,r,rr,e,hl,h=>by
  match ds,rr,e,hl with
  |dk::dv::ds,rr,e,hl=>
   simp only[flatP,Reps] at rr
   cases dk with
   |tup kd=>
    simp only[dispE] at e
    split at e
    ·rename_i kk hk
     obtain⟨t,ws,ep,rfl,gk,rk⟩:=rr.1
     show wpAny _ _ (forIn ((Value.ref t,v)::vs) PUnit.unit _) _ _ _
     rw[List.forIn_cons]
     have hlen:(dput es0 kk dv).length≤es0.length+1:=by
      unfold dput;split<;>simp
     simp only[List.length_cons] at hl
     have hnt:=r.notTup
     refine wpAny_bind (wpAny_bind (dictSet_ok (A:=A) hu r (keyRep_of ⟨t,ws,ep,rfl,gk,rk⟩ hk) rr.2.1 (by omega) fun h' tk' hs dx=>wpAny_pure ?_))
     obtain⟨ob,eb⟩:=dx.here
     have x':=x.other hs hn (x0.freshBase hb) hnt
     exact storeAll_ok vs ds (dput es0 kk dv) es { s with heap:=h',toks:=tk' } ρ σ Q E h0 σ0 ρ0 hu x' x0 (g.other (SR.liveAll x0) hb hs eb) hb hn dx (rr.2.2.other hs hnt) e (by omega) h
    ·cases e
   |none=>simp[dispE] at e
   |bool _=>simp[dispE] at e
   |int _=>simp[dispE] at e
   |str _=>simp[dispE] at e
   |ref _=>simp[dispE] at e
   |fro _=>simp[dispE] at e
  | [],rr,_,_=>simp[flatP,Reps] at rr
  | [_],rr,_,_=>simp[flatP,Reps] at rr
theorem Sim.dict0 {pos:Pos}:Sim K c (.Dict [] [] pos) (.dict .anil):=
 Sim.of (fun env n A s ρ σ l d σ' Q E a hC he p=>by
  simp only[ev,evs,List.length_nil,dispE] at he
  cases he
  refine wpAny_Dict_empty ?_
  refine p _ (ρ++[s.heap.objs.size]) _ s.toks ((Grow.push a.sr _).adopt (size_none _)) ((a.sr.push _).adopt a.sr.sizeNot (a.sr.freshBase (size_none _)) (DictAt.new _ _)) ⟨_,rfl,?_⟩
  rw[←a.sr.len,List.getElem?_append_right (Nat.le_refl _),Nat.sub_self];rfl) (fun _ _=>rfl)
theorem Sim.dict {k:Expr} {ks:List (Option Expr)} {v:Expr} {es:List Expr} {X:Mine.X} {pos:Pos} (hall:(some k::ks).all (·.isSome)=true) (hlen:(some k::ks).length=(v::es).length) (hfew:(some k::ks).length≤15) (hp:SimP K c (some k::ks) (v::es) X) :
  Sim K c (.Dict (some k::ks) (v::es) pos) (.dict X):=
 Sim.of (fun env n A s ρ σ l d σ' Q E a hC he p=>by
  simp only[ev] at he
  split at he
  ·rename_i ds σ1 h1
   split at he
   ·rename_i h16
    split at he
    ·rename_i fs h2
     cases he
     refine wpAny_Dict_any hall hlen (by simp) hfew ?_
     have gp:=Grow.push a.sr { cls:=.type "dict",data:=.dict #[] }
     have xp:=a.sr.push { cls:=.type "dict",data:=.dict #[] }
     refine hp pos _ _ _ _ _ _ _ _ _ _ _ (a.grow gp xp s.toks) hC h1 fun vs ρ1 hp1 tk1 g1 x1 r1=>?_
     have hb0:s.heap.get? s.heap.objs.size=none:=size_none _
     have hn1:s.heap.objs.size∉ρ1:=by
      have:=g1.notIn a.sr.sizeNot (Heap.get?_push_size (o:={ cls:=.type "dict",data:=.dict #[] }) s.heap rfl)
      exact this
     have dx:DictAt K.prog K.w K.H₀ hp1 ρ1 s.heap.objs.size []:=(DictAt.new s.heap ρ).stay xp a.sr.sizeNot g1
     refine storeAll_ok vs ds [] fs { s with heap:=hp1,toks:=tk1 } ρ1 _ _ E s.heap σ ρ (by have:=a.room.u;omega) x1 a.sr (gp.trans g1) hb0 hn1 dx r1 h2 (by simp only[List.length_nil];unfold LIM;omega) fun h' tk' g2 x2 dx2=>?_
     refine p _ (ρ1++[s.heap.objs.size]) _ tk' (g2.adopt hb0) (x2.adopt hn1 (a.sr.freshBase hb0) (ObjRep.more dx2 _)) ⟨_,rfl,?_⟩
     rw[←x2.len,List.getElem?_append_right (Nat.le_refl _),Nat.sub_self];rfl
    ·cases he
   ·cases he
  ·cases he) (fun _ _=>rfl)
where
 ObjRep.more {h:Heap} {ρ:List Addr} {a:Addr} {es:Es} (x:DictAt K.prog K.w K.H₀ h ρ a es) (b:Addr):ObjRep K.prog K.w K.H₀ h (ρ++[b]) a (.dict es 0):=by
  obtain⟨xs,dx,m,r,kr⟩:=x
  exact⟨xs,dx,m,r.more b,fun y hy=>Rep.mono (fun _ _ _ e=>e) (fun _ _ e=>by rw[List.getElem?_append_left (List.getElem?_eq_some_iff.mp e).1];exact e) _ (kr y hy)⟩
end
section
variable {prog:Program} {w:World} {H₀:Heap} {A:Around} {E:Value→Shared→Prop} {s:Shared} {ρ:List Addr} {σ:St}
theorem run_ok {κ:SortKind} {vs:List Value} {ask:Nat→Nat→Option Bool} (hask:∀i j b (C:Bool→Shared→Prop),ask i j=some b→C b s→kas_ask prog w A κ vs i j C s) {α:Type}:∀(t:KasT α) (p:α) (G:α→Shared→Prop),runT ask t=some p→G p s→t.kasWp (kas_ask prog w A κ vs) G s
 | .ret a,p,G,e,g=>by
  simp only[runT,Option.some.injEq] at e
  subst e
  exact g
 | .ask i j k,p,G,e,g=>by
  simp only[runT] at e
  split at e
  ·rename_i b hb
   exact hask i j b _ hb (run_ok hask (k b) p G e g)
  ·cases e
theorem lexKat {b:Bool} {n:Nat} (hl:∃o,H₀.get? sysModules=some o) (x:SR prog w H₀ ρ σ s.heap) (hu:A.units+3*n<cLine) (fin:Bool) {Q:Bool→Shared→Prop} :
  ∀(vs us:List Value) (xs ys:List D) (r:Bool) (i k m:Nat),(fin=decide (vs.length+m<us.length+m))→Reps H₀ s.heap ρ vs xs→Reps H₀ s.heap ρ us ys→(b=true→i=0→∃p q xr yr,xs = .int p::xr∧ys = .int q::yr)→lexD (eqD σ n) (ltD σ n) xs ys=some r→Q r s→
   KatLex prog w A b fin Q (vs.zip us) i s
 | [],[],[],[],r,i,k,m,hf,_,_,_,e,q=>by
  simp only[lexD,Option.some.injEq] at e
  subst e
  have:fin=false:=by rw[hf];simp
  subst this
  exact q
 | [],u::us,[],y::ys,r,i,k,m,hf,_,_,_,e,q=>by
  simp only[lexD,Option.some.injEq] at e
  subst e
  have:fin=true:=by rw[hf];simp
  subst this
  exact q
 |v::vs,[],x'::xs,[],r,i,k,m,hf,_,_,_,e,q=>by
  simp only[lexD,Option.some.injEq] at e
  subst e
  have:fin=false:=by rw[hf];simp
  subst this
  exact q
 |v::vs,u::us,xd::xs,yd::ys,r,i,k,m,hf,rx,ry,hb,e,q=>by
  simp only[Reps] at rx ry
  simp only[lexD] at e
  split at e
  ·rename_i he
   have h1:=eq_ok hl x n A v u xd yd true hu rx.1 ry.1 he
   refine kat_cons (h1 prog w _ _ (kat_yes ?_))
   refine lexKat hl x hu fin vs us xs ys r (i+1) k (m+1) (by rw[hf];simp only[List.length_cons,Nat.add_assoc,Nat.add_comm 1]) rx.2 ry.2 (fun _ h=>by omega) e q
  ·rename_i he
   have h1:=eq_ok hl x n A v u xd yd false hu rx.1 ry.1 he
   refine kat_cons (h1 prog w _ _ (kat_no ?_))
   by_cases h0:(b&&i==0)=true
   ·have hb1:b=true:=by revert h0;cases b<;>simp
    have hi:i=0:=by simpa [hb1] using h0
    obtain⟨p,q',xr,yr,ex,ey⟩:=hb hb1 hi
    cases ex;cases ey
    obtain⟨t,rfl⟩:=rx.1
    obtain⟨u',rfl⟩:=ry.1
    rw[h0]
    have hr:r=decide (p<q'):=by
     cases n with
     |zero=>simp[ltD] at e
     |succ n=>simp only[ltD,Option.some.injEq] at e;exact e.symm
    subst hr
    rw[←keyLt'_oneType]
    exact kat_lt_int q
   ·have h0':(b&&i==0)=false:=by simpa using h0
    rw[h0']
    have h2:=lt_ok hl x n A v u xd yd r hu rx.1 ry.1 e
    exact kat_one v u (h2 prog w _ _ q)
  ·cases e
 | [],_::_,[],[],_,_,_,_,_,_,ry,_,_,_=>by simp[Reps] at ry
 | [],_,_::_,_,_,_,_,_,_,rx,_,_,_,_=>by simp[Reps] at rx
 |_::_,_,[],_,_,_,_,_,_,rx,_,_,_,_=>by simp[Reps] at rx
 | [],[],[],_::_,_,_,_,_,_,_,ry,_,_,_=>by simp[Reps] at ry
 |_::_,[],_::_,_::_,_,_,_,_,_,_,ry,_,_,_=>by simp[Reps] at ry
 |_::_,_::_,_::_,[],_,_,_,_,_,_,ry,_,_,_=>by simp[Reps] at ry
theorem perm_reps {h:Heap} {vs:List Value} {ds:List D} (r:Reps H₀ h ρ vs ds):∀p:List Nat,Reps H₀ h ρ (p.map fun i=>vs.getD i Value.none) (p.map fun i=>ds.getD i D.none)
 | []=>trivial
 |i::p=>by
  refine⟨?_,perm_reps r p⟩
  cases e:ds[i]? with
  |none=>
   have e2:vs[i]?=none:=by
    rw[List.getElem?_eq_none_iff] at e ⊢
    rw[r.length];exact e
   simp only[List.getD,e,e2,Option.getD_none]
   rfl
  |some d=>
   obtain⟨v,e2,rv⟩:=r.get e
   simp only[List.getD,e,e2,Option.getD_some]
   exact rv
theorem tups_int {h:Heap}:∀{vs:List Value} {ds:List D},Reps H₀ h ρ vs ds→(ds.all (fun d=>match d with | .tup (.int _::_)=>true|_=>false))=true→∃fs:List Value,KatTups h vs fs∧fs.length=vs.length∧∀f∈fs,∃i t,f = .int i t
 | [],[],_,_=>⟨[],trivial,rfl,by simp⟩
 |v::vs,.tup (.int i::r)::ds,rr,e=>by
  simp only[Reps] at rr
  simp only[List.all_cons,Bool.and_eq_true] at e
  obtain⟨fs,h1,h2,h3⟩:=tups_int rr.2 e.2
  obtain⟨a,ws,ep,rfl,g,rw'⟩:=rr.1
  obtain⟨f,hf,rf⟩:=rw'.get (i:=0) rfl
  obtain⟨t,rfl⟩:=rf
  exact⟨.int i t::fs,⟨⟨a,_,ws,ep,rfl,g,rfl,rfl,by simpa using hf⟩,h1⟩,by simp[h2],fun f hm=>by
   rcases List.mem_cons.mp hm with rfl|hm
   ·exact⟨i,t,rfl⟩
   ·exact h3 f hm⟩
 |_::_,.tup []::_,_,e=>by simp at e
 |_::_,.tup (.none::_)::_,_,e=>by simp at e
 |_::_,.tup (.bool _::_)::_,_,e=>by simp at e
 |_::_,.tup (.str _::_)::_,_,e=>by simp at e
 |_::_,.tup (.tup _::_)::_,_,e=>by simp at e
 |_::_,.tup (.ref _::_)::_,_,e=>by simp at e
 |_::_,.tup (.fro _::_)::_,_,e=>by simp at e
 |_::_,.none::_,_,e=>by simp at e
 |_::_,.bool _::_,_,e=>by simp at e
 |_::_,.int _::_,_,e=>by simp at e
 |_::_,.str _::_,_,e=>by simp at e
 |_::_,.ref _::_,_,e=>by simp at e
 |_::_,.fro _::_,_,e=>by simp at e
 | [],_::_,r,_=>by simp[Reps] at r
 |_::_,[],r,_=>by simp[Reps] at r
theorem tups_tup {h:Heap}:∀{vs:List Value} {ds:List D},Reps H₀ h ρ vs ds→(ds.all (fun d=>match d with | .tup (.tup _::_)=>true|_=>false))=true→∃fs:List Value,KatTups h vs fs∧fs.length=vs.length∧∀f∈fs,∃a vs ep,f = .ref a∧h.get? a=some (seqObj "tuple" vs ep)
 | [],[],_,_=>⟨[],trivial,rfl,by simp⟩
 |v::vs,.tup (.tup i::r)::ds,rr,e=>by
  simp only[Reps] at rr
  simp only[List.all_cons,Bool.and_eq_true] at e
  obtain⟨fs,h1,h2,h3⟩:=tups_tup rr.2 e.2
  obtain⟨a,ws,ep,rfl,g,rw'⟩:=rr.1
  obtain⟨f,hf,rf⟩:=rw'.get (i:=0) rfl
  obtain⟨b,us,ep2,rfl,g2,_⟩:=rf
  exact⟨.ref b::fs,⟨⟨a,_,ws,ep,rfl,g,rfl,rfl,by simpa using hf⟩,h1⟩,by simp[h2],fun f hm=>by
   rcases List.mem_cons.mp hm with rfl|hm
   ·exact⟨b,us,ep2,rfl,g2⟩
   ·exact h3 f hm⟩
 |_::_,.tup []::_,_,e=>by simp at e
 |_::_,.tup (.none::_)::_,_,e=>by simp at e
 |_::_,.tup (.bool _::_)::_,_,e=>by simp at e
 |_::_,.tup (.str _::_)::_,_,e=>by simp at e
 |_::_,.tup (.int _::_)::_,_,e=>by simp at e
 |_::_,.tup (.ref _::_)::_,_,e=>by simp at e
 |_::_,.tup (.fro _::_)::_,_,e=>by simp at e
 |_::_,.none::_,_,e=>by simp at e
 |_::_,.bool _::_,_,e=>by simp at e
 |_::_,.int _::_,_,e=>by simp at e
 |_::_,.str _::_,_,e=>by simp at e
 |_::_,.ref _::_,_,e=>by simp at e
 |_::_,.fro _::_,_,e=>by simp at e
 | [],_::_,r,_=>by simp[Reps] at r
 |_::_,[],r,_=>by simp[Reps] at r
theorem sort_core {a:Addr} {vs:List Value} {n:Nat} {ds es:List D} {P:PySem.Fin→Shared→Prop} (hl:∃o,H₀.get? sysModules=some o) (hu:A.units+30<cLine) (ho:s.heap.get? a=some (seqObj "list" vs.toArray n))
  (x:SR prog w H₀ ρ σ (((s.heap.update a (Obj.mapSeq fun _=>(#[]:Array Value))).push (seqObj "tuple" vs.toArray 0)).push (seqObj "list" #[] 0)))
  (r:Reps H₀ (((s.heap.update a (Obj.mapSeq fun _=>(#[]:Array Value))).push (seqObj "tuple" vs.toArray 0)).push (seqObj "list" #[] 0)) ρ vs ds) (e:sortD σ ds=some es)
  (h:∀outs:List Value,Reps H₀ (((s.heap.update a (Obj.mapSeq fun _=>(#[]:Array Value))).push (seqObj "tuple" vs.toArray 0)).push (seqObj "list" #[] 0)) ρ outs es→P (.done (.ret .none)) { s with heap:=(((s.heap.update a (Obj.mapSeq fun _=>(#[]:Array Value))).push (seqObj "tuple" vs.toArray 0)).push (seqObj "list" #[] 0)).update a (Obj.mapSeq fun _=>outs.toArray) }) :
  wpAny (model prog w) A (Builtin.«list.sort» ⟨[.ref a],[]⟩) P E s:=by
 have ha:a<s.heap.objs.size:=Heap.lt_size ho
 have hlen:=r.length
 have h64:vs.length<64:=by
  unfold sortD at e
  rw[hlen]
  split at e
  ·omega
  ·split at e
   ·rename_i hc
    simp only[Bool.and_eq_true,decide_eq_true_eq] at hc
    exact hc.1
   ·cases e
 rw[list_sort_plain]
 refine wpAny_bind (listItems_at ho rfl ?_)
 refine wpAny_bind (listUpdate_at ho rfl ?_ (by rw[List.size_toArray,sizeLine_eq];omega) (Nat.zero_le _))
 obtain⟨e1,ho1⟩:∃e1,(s.heap.update a (Obj.mapSeq fun _=>(#[]:Array Value))).get? a=some (seqObj "list" #[] e1):=⟨_,get?_update_seq ho fun _=>#[]⟩
 refine wpAny_bind (seqEpoch_at ho1 rfl ?_)
 refine wpAny_bind (wpAny_newTuple ?_ (by show vs.length≤_;rw[sizeLine_eq];omega))
 refine wpAny_bind (wpAny_newList ?_ (Nat.zero_le _))
 refine wpAny_holding ?_
 have ho6:(((s.heap.update a (Obj.mapSeq fun _=>(#[]:Array Value))).push (seqObj "tuple" vs.toArray 0)).push (seqObj "list" #[] 0)).get? a=some (seqObj "list" #[] e1):=Heap.get?_push_of_some _ (Heap.get?_push_of_some _ ho1)
 show wpAny (model prog w) A _ P E { s with heap:=((s.heap.update a (Obj.mapSeq fun _=>(#[]:Array Value))).push (seqObj "tuple" vs.toArray 0)).push (seqObj "list" #[] 0) }
 generalize ((s.heap.update a (Obj.mapSeq fun _=>(#[]:Array Value))).push (seqObj "tuple" vs.toArray 0)).push (seqObj "list" #[] 0)=h1 at *
 dsimp only
 by_cases h2:vs.toArray.size<2
 ·rw[if_pos h2,if_pos h2]
  refine wpAny_bind (wpAny_pure ?_)
  rw[StateT.run_pure]
  refine wpAny_bind (wpAny_pure ?_)
  dsimp only
  refine wpAny_bind (seqEpoch_at ho6 rfl ?_)
  have hout:(arrOf (SortSt.mk' general' (vs.toArray.zip vs.toArray) #[] 7 none)).map (·.2)=vs.toArray:=by
   show(vs.toArray.zip vs.toArray).map (·.2)=vs.toArray
   apply Array.toList_inj.mp
   simp[List.map_snd_zip]
  rw[hout]
  refine wpAny_bind (listUpdate_at ho6 rfl ?_ (Nat.zero_le _) (by show vs.toArray.size≤_;rw[List.size_toArray,sizeLine_eq];omega))
  simp only[bne_self_eq_false,Bool.false_eq_true,if_false]
  have hes:es=ds:=by
   unfold sortD at e
   rw[if_pos (by rw[←hlen];simpa using h2)] at e
   exact(Option.some.inj e).symm
  subst hes
  exact wpAny_pure (h vs r)
 ·rw[if_neg h2,if_neg h2]
  have h2':2≤vs.length:=by simpa using h2
  unfold sortD at e
  rw[if_neg (by rw[←hlen];omega)] at e
  split at e
  ·rename_i hc
   simp only[Bool.and_eq_true,decide_eq_true_eq] at hc
   simp only[Option.map_eq_some_iff] at e
   obtain⟨p,e2,rfl⟩:=e
   have fin:∀b:Bool,(b=true→∀d∈ds,∃i r,d = .tup (.int i::r))→(∀d∈ds,∃r,d = .tup r)→wpAny (model prog w) A (do
     let ((),s)←(sortRuns').run (SortSt.mk' (tuples' b) (vs.toArray.zip vs.toArray) #[] 7 none)
     let sorted:=(arrOf s).map (·.2)
     let touched:=(←seqEpoch a) != e1
     Builtin.List.listUpdate (.ref a) fun _=>sorted
     if let some e:=failedOf s then rule "list.sort.comparison-raised";throw e
     if touched then rule "list.sort.modified";raiseError "ValueError" "list modified during sort"
     ret .none) P E { s with heap:=h1 }:=by
    intro b hb ht
    have hask:∀i j q (C:Bool→Shared→Prop),(match ds[i]?,ds[j]? with|some a,some b=>ltD σ CF a b|_,_=>none)=some q→C q { s with heap:=h1 }→kas_ask prog w A (tuples' b) vs i j C { s with heap:=h1 }:=by
     intro i j q C hq hC
     split at hq
     ·rename_i da db e3 e4
      obtain⟨va,f1,ra⟩:=r.get e3
      obtain⟨vb,f2,rb⟩:=r.get e4
      obtain⟨xa,rfl⟩:=ht da (List.mem_of_getElem? e3)
      obtain⟨xb,rfl⟩:=ht db (List.mem_of_getElem? e4)
      obtain⟨ta,wa,epa,rfl,ga,ra⟩:=ra
      obtain⟨tb,wb,epb,rfl,gb,rb⟩:=rb
      unfold kas_ask
      have g1:vs.getD i Value.none = .ref ta:=by simp[List.getD,f1]
      have g2:vs.getD j Value.none = .ref tb:=by simp[List.getD,f2]
      rw[g1,g2]
      refine kat_lt ga rfl gb rfl ?_
      refine lexKat (n:=7) (s:={ s with heap:=h1 }) hl x (by omega) _ wa.toList wb.toList xa xb q 0 0 0 (by simp) ra rb (fun hb1 _=>?_) hq hC
      obtain⟨i1,r1,z1⟩:=hb hb1 _ (List.mem_of_getElem? e3)
      obtain⟨i2,r2,z2⟩:=hb hb1 _ (List.mem_of_getElem? e4)
      cases z1;cases z2
      exact⟨i1,i2,r1,r2,rfl,rfl⟩
     ·cases hq
    have run:=run_ok (s:={ s with heap:=h1 }) hask (kas_sort ds.length) p (fun p' s'=>p'=p∧s'={ s with heap:=h1 }) e2 ⟨rfl,rfl⟩
    rw[←hlen] at run
    refine wpAny_bind (wpAny_mono (kat_run (Q:=fun st' s'=>∃p':Array Nat,p'.size=vs.length∧arrOf st'=p'.map (kas_item (vs.toArray.zip vs.toArray))∧failedOf st'=none∧p'=p∧s'={ s with heap:=h1 })
     rfl h2' h64 (fun p' st' s' a1 a2 a3 a4=>⟨p',a1,a2,a3,a4⟩) run) ?_ fun _ _ e=>e)
    rintro⟨⟨⟩,st'⟩ s' ⟨p',hp,har,hf,rfl,rfl⟩
    dsimp only
    have hout:=kat_snds rfl har
    rw[hout]
    refine wpAny_bind (seqEpoch_at ho6 rfl ?_)
    refine wpAny_bind (listUpdate_at ho6 rfl ?_ (Nat.zero_le _) (by show(List.toArray _).size≤_;rw[List.size_toArray,List.length_map,Array.length_toList,hp,sizeLine_eq];omega))
    rw[hf]
    simp only[bne_self_eq_false,Bool.false_eq_true,if_false]
    exact wpAny_pure (h _ (perm_reps r _))
   have hds:0<ds.length:=by omega
   rcases Bool.or_eq_true _ _▸(show sortable ds=true from hc.2) with hs|hs
   ·obtain⟨fs,k1,k2,k3⟩:=tups_int r hs
    refine wpAny_bind (kat_kind (s:={ s with heap:=h1 }) (T:=Value.type "int") k1 (by omega) (fun f hf=>?_) (by decide) ?_)
    ·obtain⟨i,t,rfl⟩:=k3 f hf
     exact Looks.of_pure rfl
    ·refine fin true (fun _ d hd=>?_) (fun d hd=>?_)
     ·have:=List.all_eq_true.mp hs d hd
      split at this
      ·exact⟨_,_,rfl⟩
      ·cases this
     ·have:=List.all_eq_true.mp hs d hd
      split at this
      ·exact⟨_,rfl⟩
      ·cases this
   ·obtain⟨fs,k1,k2,k3⟩:=tups_tup r hs
    refine wpAny_bind (kat_kind (s:={ s with heap:=h1 }) (T:=Value.type "tuple") k1 (by omega) (fun f hf=>?_) (by decide) ?_)
    ·obtain⟨a',vs',ep',rfl,g'⟩:=k3 f hf
     exact(Looks.ld g').andThen .now
    ·refine fin false (fun q=>by cases q) (fun d hd=>?_)
     have:=List.all_eq_true.mp hs d hd
     split at this
     ·exact⟨_,rfl⟩
     ·cases this
  ·cases e
end
section
variable {K:Cfg} {c:Ctx} {env:Env} {n:Nat} {A:Around} {s:Shared} {ρ:List Addr} {σ:St} {l:Loc}
theorem Sim.sort {o:Expr} {O:Mine.X} {apos pos:Pos} (ho:SimE K c o O) (hb:plainBase o=true) (hl:(apos.endLine==pos.line)=true) :
  Sim K c (.Call (.Attribute o ("sort":Str) apos) [] [] pos) (.sort O):=
 Sim.of (fun env n A s ρ σ l d σ' Q E a hC he p=>by
  simp only[ev] at he
  split at he
  ·rename_i r σ1 h1
   split at he
   ·rename_i ds w0 h3
    split at he
    ·rename_i es h4
     cases he
     refine wpAny_Call_method0_late (base_plain hb _ _) hl (ho _ _ _ _ _ _ _ _ _ _ _ a hC h1 fun v1 ρ1 hp1 tk1 g1 x1 r1=>?_)
     obtain⟨t,rfl,gt⟩:=r1
     obtain⟨vs,ep,e1,rr⟩:=SR.listAt x1 gt h3
     refine methOn PySem.F.plainAttrs_list PySem.F.slot_list_sort PySem.F.type_list_sort e1 rfl rfl ?_
     refine method_meetsIn PySem.F.slot_list_sort PySem.F.entry_list_sort rfl (PySem.evalArgs_none ⟨rfl,⟨_,e1,rfl⟩,PySem.F.args_list_sort_1 _,?_⟩)
     have hm:=List.mem_of_getElem? gt
     have hs1:Heap.SameBut t hp1 (hp1.update t (Obj.mapSeq fun _=>(#[]:Array Value))):=Heap.SameBut.update ..
     have u1:=updList x1 gt h3 e1 (fun _=>#[]) (es:=[]) trivial
     have rr1:Reps K.H₀ (hp1.update t (Obj.mapSeq fun _=>(#[]:Array Value))) ρ1 vs.toList ds:=rr.same x1 hm hs1
     have x2:=(u1.2.push (seqObj "tuple" vs.toList.toArray 0))
     have x3:=x2.push (seqObj "list" #[] 0)
     have rr3:=(rr1.push u1.2 (seqObj "tuple" vs.toList.toArray 0)).push x2 (seqObj "list" #[] 0)
     have e1':hp1.get? t=some (seqObj "list" vs.toList.toArray ep):=by simpa using e1
     refine⟨fun A R s'=>True∧s'={ s with heap:=hp1,toks:=tk1 }∧A.units+31<cLine∧R=wants Q E,?_,trivial,rfl,by have:=a.room.u;omega,rfl⟩
     refine MeetsIn.of_wp fun A' R s' hh=>?_
     obtain⟨-,rfl,hu,rfl⟩:=hh
     refine sort_core (A:=A'.in1) (vs:=vs.toList) a.ok.big (show A'.units+1+30<cLine by omega) e1' x3 rr3 h4 fun outs ro=>⟨_,rfl,?_⟩
     have ea:(((hp1.update t (Obj.mapSeq fun _=>(#[]:Array Value))).push (seqObj "tuple" vs.toList.toArray 0)).push (seqObj "list" #[] 0)).get? t=some (seqObj "list" #[] (if (#[]:Array Value).size==vs.size then ep else ep+1)):=
      Heap.get?_push_of_some _ (Heap.get?_push_of_some _ (IsL.update e1 fun _=>#[]))
     have gt':ρ1[r]?=some t:=gt
     have h3':(σ1.set r (.list [] (w0+1)))[r]?=some (.list [] (w0+1)):=List.getElem?_set_self (List.getElem?_eq_some_iff.mp h3).1
     have hE:IsL ((((hp1.update t (Obj.mapSeq fun _=>(#[]:Array Value))).push (seqObj "tuple" vs.toList.toArray 0)).push (seqObj "list" #[] 0)).update t (Obj.mapSeq fun _=>outs.toArray)) t outs.toArray _:=IsL.update ea fun _=>outs.toArray
     have hs2:Heap.SameBut t (((hp1.update t (Obj.mapSeq fun _=>(#[]:Array Value))).push (seqObj "tuple" vs.toList.toArray 0)).push (seqObj "list" #[] 0)) _:=Heap.SameBut.update _ t (Obj.mapSeq fun _=>outs.toArray)
     have xf:=x3.update gt' h3' hs2 (o':=.list es (w0+1)) ⟨outs.toArray,_,hE,ro.same x3 hm hs2⟩
     rw[List.set_set] at xf
     have gf:Grow ρ1 σ1 ρ1 (σ1.set r (.list es (w0+1))) hp1 ((((hp1.update t (Obj.mapSeq fun _=>(#[]:Array Value))).push (seqObj "tuple" vs.toList.toArray 0)).push (seqObj "list" #[] 0)).update t (Obj.mapSeq fun _=>outs.toArray)):=by
      have hne:∀b o,b≠t→hp1.get? b=some o→((((hp1.update t (Obj.mapSeq fun _=>(#[]:Array Value))).push (seqObj "tuple" vs.toList.toArray 0)).push (seqObj "list" #[] 0)).update t (Obj.mapSeq fun _=>outs.toArray)).get? b=some o:=fun b o hb e=>
       (hs2.2 b hb).trans (Heap.get?_push_of_some _ (Heap.get?_push_of_some _ ((hs1.2 b hb).trans e)))
      refine⟨⟨[],by simp,by simp⟩,fun b o e hb=>hne b o (fun q=>hb (q▸hm)) e,fun b o e=>?_,fun j o e=>?_,fun j b o o1 ej eo eo1 hv=>?_⟩
      ·by_cases q:b=t
       ·subst q;exact⟨_,hE⟩
       ·exact⟨o,hne b o q e⟩
      ·by_cases q:r=j
       ·subst q
        rw[h3] at e;cases e
        exact⟨_,List.getElem?_set_self (List.getElem?_eq_some_iff.mp h3).1,Nat.le_succ _⟩
       ·exact⟨o,by rw[List.getElem?_set_ne q];exact e,Nat.le_refl _⟩
      ·by_cases q:r=j
       ·subst q
        rw[h3] at eo;cases eo
        rw[List.getElem?_set_self (List.getElem?_eq_some_iff.mp h3).1] at eo1
        cases eo1
        simp only[AO.ver] at hv
        omega
       ·have hba:b≠t:=fun z=>q ((List.getElem?_inj (List.getElem?_eq_some_iff.mp gt).1 x1.nd).mp (by rw[gt,ej,z]))
        obtain⟨ob,eb⟩:=SR.liveAll x1 b (List.mem_of_getElem? ej)
        rw[eb,hne b ob hba eb]
     exact p _ ρ1 _ _ (g1.trans gf) xf rfl
    ·cases he
   ·cases he
  ·cases he) (fun _ _=>rfl)
theorem sort_new {vs:List Value} {ds es:List D} {Q:PySem.Fin→Shared→Prop} {E:Value→Shared→Prop} (ok:K.Ok) (hu:A.units+40<cLine) (x:K.sr ρ σ s.heap) (r:Reps K.H₀ s.heap ρ vs ds) (e:sortD σ ds=some es)
  (p:PostK K ρ σ (σ++[.list es 0]) s (.ref σ.length) (fun v s'=>Q (.done (.ret v)) s')):wpAny K.M A (newList vs >>= fun l=>holding [l] (PySem.call (.builtin "list.sort") [l]) >>= fun _=>ret l) Q E s:=by
 have h64:vs.length<64:=by
  unfold sortD at e
  rw[r.length]
  split at e
  ·omega
  ·split at e
   ·rename_i hc
    simp only[Bool.and_eq_true,decide_eq_true_eq] at hc
    exact hc.1
   ·cases e
 refine wpAny_bind (wpAny_newList ?_ (by rw[sizeLine_eq];omega))
 have hoL:(s.heap.push { cls:=.type "list",data:=.seq vs.toArray }).get? s.heap.objs.size=some (seqObj "list" vs.toArray 0):=Heap.get?_push_size _ rfl
 have hn0:=size_none s.heap
 refine wpAny_bind (wpAny_holding (wpAny_call_entry slot_list_sort ⟨_,hoL,rfl⟩ entry_list_sort ?body (args_list_sort _)))
 case body=>
  have keepU:∀b o (f:Obj→Obj),s.heap.get? b=some o→((s.heap.push { cls:=.type "list",data:=.seq vs.toArray }).update s.heap.objs.size f).get? b=some o:=fun b o f eb=>by
   have hb:b≠s.heap.objs.size:=Nat.ne_of_lt (Heap.lt_size eb)
   exact(Heap.get?_update_other _ _ (Ne.symm hb)).trans (Heap.get?_push_of_some _ eb)
  have keep1:∀b o,s.heap.get? b=some o→((((s.heap.push { cls:=.type "list",data:=.seq vs.toArray }).update s.heap.objs.size (Obj.mapSeq fun _=>(#[]:Array Value))).push (seqObj "tuple" vs.toArray 0)).push (seqObj "list" #[] 0)).get? b=some o:=fun b o eb=>
   Heap.get?_push_of_some _ (Heap.get?_push_of_some _ (keepU b o _ eb))
  have x1:=x.keeps keep1
  refine sort_core (s:={ s with heap:=s.heap.push { cls:=.type "list",data:=.seq vs.toArray } }) ok.big (show A.units+1+30<cLine by omega) hoL x1 (r.grow x (Grow.keeps x keep1)) e fun outs ro=>⟨_,rfl,?_⟩
  refine wpAny_pure ?_
  have ea:((((s.heap.push { cls:=.type "list",data:=.seq vs.toArray }).update s.heap.objs.size (Obj.mapSeq fun _=>(#[]:Array Value))).push (seqObj "tuple" vs.toArray 0)).push (seqObj "list" #[] 0)).get? s.heap.objs.size=some (seqObj "list" #[] (if (#[]:Array Value).size==vs.toArray.size then 0 else 0+1)):=
   Heap.get?_push_of_some _ (Heap.get?_push_of_some _ (IsL.update hoL fun _=>#[]))
  have hE:=IsL.update ea fun _=>outs.toArray
  have keep2:∀b o,s.heap.get? b=some o→(((((s.heap.push { cls:=.type "list",data:=.seq vs.toArray }).update s.heap.objs.size (Obj.mapSeq fun _=>(#[]:Array Value))).push (seqObj "tuple" vs.toArray 0)).push (seqObj "list" #[] 0)).update s.heap.objs.size (Obj.mapSeq fun _=>outs.toArray)).get? b=some o:=fun b o eb=>by
   have hb:b≠s.heap.objs.size:=Nat.ne_of_lt (Heap.lt_size eb)
   exact(Heap.get?_update_other _ _ (Ne.symm hb)).trans (keep1 b o eb)
  have x2:=x.keeps keep2
  have ro2:Reps K.H₀ _ ρ outs es:=ro.other (Heap.SameBut.update _ s.heap.objs.size (Obj.mapSeq fun _=>outs.toArray)) (fun ob items n e1 hc hd=>by rw[ea] at e1;cases e1;simp at hc)
  refine p _ (ρ++[s.heap.objs.size]) _ _ ((Grow.keeps x keep2).adopt hn0) (x2.adopt x.sizeNot (x.freshBase hn0) ⟨outs.toArray,_,hE,ro2.more _⟩) ⟨_,rfl,?_⟩
  rw[←x.len,List.getElem?_append_right (Nat.le_refl _),Nat.sub_self];rfl
theorem Sim.sorted {o:Expr} {O:Mine.X} {np pos:Pos} (hg:c.scope.names.lookup ("sorted":Str)=some .globalImplicit) (hs:notStar o=true) (ho:SimE K c o O) :
  Sim K c (.Call (.Name ("sorted":Str) np) [o] [] pos) (.sorted O):=
 Sim.of (fun env n A s ρ σ l d σ' Q E a hC he p=>by
  simp only[ev] at he
  split at he
  ·rename_i r σ1 h1
   split at he
   ·rename_i ds w0 h3
    split at he
    ·rename_i es h4
     cases he
     refine callB1 (id:="sorted") a hg (by decide) (by decide) (by decide) (by decide +kernel) hs (ho _ _ _ _ _ _ _ _ _ _ _ a hC h1 fun v1 ρ1 hp1 tk1 g1 x1 r1=>?_)
     obtain⟨t,rfl,gt⟩:=r1
     obtain⟨vs,ep,e1,rr⟩:=SR.listAt x1 gt h3
     have h64:vs.toList.length<64:=by
      unfold sortD at h4
      rw[rr.length]
      split at h4
      ·omega
      ·split at h4
       ·rename_i hc
        simp only[Bool.and_eq_true,decide_eq_true_eq] at hc
        exact hc.1
       ·cases h4
     refine Calls.call_function_entry kind_sorted plain_sorted entry_sorted (args_sorted1 _) ?_
     unfold Builtin.«sorted»
     refine wpAny_bind (m:=checkCount "sorted" 1 1 _) (wpAny_pure ?_)
     refine wpAny_bind (collect_list (vs:=vs.toList) ⟨_,e1,rfl,ep,by simp⟩ ?_ (by rw[sizeLine_eq];omega))
     have keep:∀b o,hp1.get? b=some o→((hp1.push (seqObj "list" #[] 0)).update hp1.objs.size (Obj.mapSeq (·++vs.toList.toArray))).get? b=some o:=fun b o eb=>by
      have hb:b≠hp1.objs.size:=Nat.ne_of_lt (Heap.lt_size eb)
      exact(Heap.get?_update_other _ _ (Ne.symm hb)).trans (Heap.get?_push_of_some _ eb)
     exact sort_new (A:=A.in1) (s:={ s with heap:=(hp1.push (seqObj "list" #[] 0)).update hp1.objs.size (Obj.mapSeq (·++vs.toList.toArray)),toks:=tk1 }) a.ok (show A.units+1+40<cLine by have:=a.room.units;omega) (x1.keeps keep) (rr.grow x1 (Grow.keeps x1 keep)) h4
      (fun v ρ' h' tk' g x r=>⟨v,rfl,p v ρ' h' tk' ((g1.trans (Grow.keeps x1 keep)).trans g) x r⟩)
    ·cases he
   ·cases he
  ·cases he) (fun _ _=>rfl)
end
section
variable {prog:Program} {w:World} {H₀:Heap}
abbrev ButL (L:List Addr) (h h':Heap):Prop:=∀b o,b∉L→h.get? b=some o→h'.get? b=some o
theorem isKey_otherL {h h':Heap} {ks:List Int} {L:List Addr} {b:Addr} (x:(kTup prog w).is h ks b) (hs:ButL L h h') (hn:∀a∈L,NotTup h a):(kTup prog w).is h' ks b:=by
 obtain⟨o,items,n,ho,hc,hd,hi⟩:=x
 exact⟨o,items,n,hs b o (fun q=>hn b q o items n ho hc hd) ho,hc,hd,hi⟩
theorem tupKeep_otherL {h h':Heap} {L:List Addr} (hs:ButL L h h') (hn:∀a∈L,NotTup h a):TupKeep h h':=fun c vs ep e=>hs c _ (fun q=>hn c q _ vs ep e rfl rfl) e
theorem SR.otherL {ρ:List Addr} {σ:St} {h h':Heap} {L:List Addr} (x:SR prog w H₀ ρ σ h) (hs:ButL L h h') (hL:∀a∈L,a∉ρ∧H₀.get? a=none∧NotTup h a):SR prog w H₀ ρ σ h' where
 keep:=fun b o e=>hs b o (fun q=>by rw[(hL b q).2.1] at e;cases e) (x.keep b o e)
 len:=x.len
 nd:=x.nd
 new:=x.new
 objs:=fun i b o e e'=>by
  have hb:b∉L:=fun q=>(hL b q).1 (List.mem_of_getElem? e)
  have hk:TupKeep h h':=tupKeep_otherL hs fun a ha=>(hL a ha).2.2
  have r:=x.objs i b o e e'
  cases o with
  |list ds=>
   obtain⟨vs,ep,e,r⟩:=r
   exact⟨vs,ep,hs b _ hb e,Reps.mono hk (fun _ _ e=>e) _ r⟩
  |dict es=>
   obtain⟨xs,⟨o,es',ep,e,c,d,he,hkk,hnn⟩,hm,r,kr⟩:=r
   exact⟨xs,⟨o,es',ep,hs b _ hb e,c,d,he,fun y hy=>isKey_otherL (hkk y hy) hs fun a ha=>(hL a ha).2.2,hnn⟩,hm,Reps.mono hk (fun _ _ e=>e) _ r,fun y hy=>Rep.mono hk (fun _ _ e=>e) _ (kr y hy)⟩
theorem Grow.otherL {ρ ρ':List Addr} {σ σ':St} {h h1 h2:Heap} {L:List Addr} (g:Grow ρ σ ρ' σ' h h1) (hl:∀b∈ρ',∃o,h1.get? b=some o) (ha:∀a∈L,h.get? a=none∧a∉ρ') (hs:ButL L h1 h2):Grow ρ σ ρ' σ' h h2 where
 pre:=g.pre
 ext:=fun b ob eb hb=>hs b ob (fun q=>by rw[(ha b q).1] at eb;cases eb) (g.ext b ob eb hb)
 live:=fun b ob eb=>by
  obtain⟨o',e'⟩:=g.live b ob eb
  exact⟨o',hs b o' (fun q=>by rw[(ha b q).1] at eb;cases eb) e'⟩
 vers:=g.vers
 same:=fun i b p p' eb ep ep' hv=>by
  have h1':=g.same i b p p' eb ep ep' hv
  have hm:b∈ρ':=List.mem_of_getElem? (g.get eb)
  obtain⟨o,e⟩:=hl b hm
  rw[←h1',e]
  exact hs b o (fun q=>(ha b q).2 hm) e
structure GrowX (X:List Addr) (ρ:List Addr) (σ:St) (ρ':List Addr) (σ':St) (h h':Heap):Prop where
 pre:∃τ,ρ'=ρ++τ∧∀a∈τ,h.get? a=none
 ext:∀b o,h.get? b=some o→b∉ρ→b∉X→h'.get? b=some o
 live:∀b o,h.get? b=some o→∃o',h'.get? b=some o'
 vers:∀(i:Nat) (o:AO),σ[i]?=some o→∃o',σ'[i]?=some o'∧o.ver≤o'.ver
 same:∀(i:Nat) (a:Addr) (o o':AO),ρ[i]?=some a→a∉X→σ[i]?=some o→σ'[i]?=some o'→o.ver=o'.ver→h'.get? a=h.get? a
theorem GrowX.of {X ρ ρ':List Addr} {σ σ':St} {h h':Heap} (g:Grow ρ σ ρ' σ' h h'):GrowX X ρ σ ρ' σ' h h':=
 ⟨g.pre,fun b o e hb _=>g.ext b o e hb,g.live,g.vers,fun i a o o' e _=>g.same i a o o' e⟩
theorem GrowX.refl (X ρ:List Addr) (σ:St) (h:Heap):GrowX X ρ σ ρ σ h h:=.of (Grow.refl ρ σ h)
theorem GrowX.trans {X ρ ρ' ρ'':List Addr} {σ σ' σ'':St} {h h' h'':Heap} (x:GrowX X ρ σ ρ' σ' h h') (y:GrowX X ρ' σ' ρ'' σ'' h' h''):GrowX X ρ σ ρ'' σ'' h h'':=by
 obtain⟨τ,rfl,hτ⟩:=x.pre
 obtain⟨τ',rfl,hτ'⟩:=y.pre
 refine⟨⟨τ++τ',by simp,fun a ha=>?_⟩,fun b o e hb hX=>?_,fun b o e=>?_,fun i o e=>?_,fun i a o o'' ea hX eo eo'' hv=>?_⟩
 ·rcases List.mem_append.mp ha with ha|ha
  ·exact hτ a ha
  ·cases q:h.get? a with
   |none=>rfl
   |some o=>
    obtain⟨o',e⟩:=x.live a o q
    rw[hτ' a ha] at e;cases e
 ·refine y.ext b o (x.ext b o e hb hX) (fun hm=>?_) hX
  rcases List.mem_append.mp hm with hm|hm
  ·exact hb hm
  ·rw[hτ b hm] at e;cases e
 ·obtain⟨o',e'⟩:=x.live b o e
  exact y.live b o' e'
 ·obtain⟨o1,e1,l1⟩:=x.vers i o e
  obtain⟨o2,e2,l2⟩:=y.vers i o1 e1
  exact⟨o2,e2,Nat.le_trans l1 l2⟩
 ·obtain⟨o1,e1,l1⟩:=x.vers i o eo
  obtain⟨o2,e2,l2⟩:=y.vers i o1 e1
  rw[eo''] at e2
  cases e2
  have h1:=x.same i a o o1 ea hX eo e1 (by omega)
  have h2:=y.same i a o1 o'' (by rw[List.getElem?_append_left (List.getElem?_eq_some_iff.mp ea).1];exact ea) hX e1 eo'' (by omega)
  rw[h2,h1]
theorem GrowX.toGrow {X ρ ρ':List Addr} {σ σ':St} {h h':Heap} (g:GrowX X ρ σ ρ' σ' h h') (hX:∀b∈X,h.get? b=none) (hl:∀b∈ρ,∃o,h.get? b=some o):Grow ρ σ ρ' σ' h h':=
 ⟨g.pre,fun b o e hb=>g.ext b o e hb (fun q=>by rw[hX b q] at e;cases e),g.live,g.vers,fun i a o o' e=>g.same i a o o' e (fun q=>by
  obtain⟨ob,eb⟩:=hl a (List.mem_of_getElem? e)
  rw[hX a q] at eb;cases eb)⟩
theorem GrowX.get {X ρ ρ':List Addr} {σ σ':St} {h h':Heap} (x:GrowX X ρ σ ρ' σ' h h') {n:Nat} {a:Addr} (e:ρ[n]?=some a):ρ'[n]?=some a:=by
 obtain⟨τ,rfl,_⟩:=x.pre
 rw[List.getElem?_append_left (List.getElem?_eq_some_iff.mp e).1];exact e
theorem GrowX.tupKeep {X ρ ρ':List Addr} {σ σ₀ σ':St} {h h':Heap} (g:GrowX X ρ σ₀ ρ' σ' h h') (x:SR prog w H₀ ρ σ h) (hX:∀a∈X,NotTup h a):TupKeep h h':=
 fun c vs ep e=>g.ext c _ e (x.tupNot e) fun q=>hX c q _ vs ep e rfl rfl
theorem GrowX.notIn {X ρ ρ':List Addr} {σ σ':St} {h h':Heap} {a:Addr} {o:Obj} (g:GrowX X ρ σ ρ' σ' h h') (ha:a∉ρ) (hl:h.get? a=some o):a∉ρ':=by
 obtain⟨τ,rfl,hτ⟩:=g.pre
 intro hm
 rcases List.mem_append.mp hm with hm|hm
 ·exact ha hm
 ·rw[hτ a hm] at hl;cases hl
theorem GrowX.otherL {X ρ ρ':List Addr} {σ σ':St} {h h1 h2:Heap} {L:List Addr} (g:GrowX X ρ σ ρ' σ' h h1) (hl:∀b∈ρ',∃o,h1.get? b=some o) (ha:∀a∈L,(h.get? a=none∨a∈X)∧a∉ρ')
  (hlive:∀a∈L,a∈X→∃o,h2.get? a=some o) (hs:ButL L h1 h2):GrowX X ρ σ ρ' σ' h h2 where
 pre:=g.pre
 ext:=fun b ob eb hb hX=>hs b ob (fun q=>by
  rcases(ha b q).1 with q1|q1
  ·rw[q1] at eb;cases eb
  ·exact hX q1) (g.ext b ob eb hb hX)
 live:=fun b ob eb=>by
  by_cases q:b∈L
  ·rcases(ha b q).1 with q1|q1
   ·rw[q1] at eb;cases eb
   ·exact hlive b q q1
  ·obtain⟨o',e'⟩:=g.live b ob eb
   exact⟨o',hs b o' q e'⟩
 vers:=g.vers
 same:=fun i b p p' eb hX ep ep' hv=>by
  have h1':=g.same i b p p' eb hX ep ep' hv
  have hm:b∈ρ':=List.mem_of_getElem? (g.get eb)
  obtain⟨o,e⟩:=hl b hm
  rw[←h1',e]
  exact hs b o (fun q=>(ha b q).2 hm) e
end
structure Turns (K:Cfg) (A:Around) (target:Expr) (it:Addr) (own:List Addr) (src:Src) (ds:List D) (S:Nat→Heap→List Addr→Prop):Prop where
 live:∀i h ρ,S i h ρ→∀b∈own,∃o,h.get? b=some o
 notTup:∀i h ρ,S i h ρ→∀b∈own,NotTup h b
 keep:∀i h ρ h' ρ',S i h ρ→(∀b∈own,∀o,h.get? b=some o→h'.get? b=some o)→(∀r v a,src=some (r,v)→ρ[r]?=some a→h'.get? a=h.get? a)→TupKeep h h'→PreK ρ ρ'→S i h' ρ'
 next:∀i d (s:Shared) ρ (Qn:Shared→Prop) (Q:Value→Shared→Prop) (E E₂:Value→Shared→Prop),A.handled=none→ds[i]?=some d→S i s.heap ρ→
  (∀v h' tk,ButL own s.heap h'→Rep K.H₀ h' ρ v d→S (i+1) h' ρ→Q v { s with heap:=h',toks:=tk })→
  wpAny K.M A (pyNext (.ref it)) (fun r s₁=>match r with
   |none=>Qn s₁
   |some v=>wpAny K.M A (letOwnedTupleGo target (.ref it) v) (fun _ s₂=>Q v s₂) E₂ s₁) E s
 done:∀(s:Shared) ρ (Q:Option Value→Shared→Prop) (E:Value→Shared→Prop),A.handled=none→S ds.length s.heap ρ→(∀h' tk,ButL own s.heap h'→Q none { s with heap:=h',toks:=tk })→wpAny K.M A (pyNext (.ref it)) Q E s
 self:∀i (s:Shared) ρ (Q:Value→Shared→Prop) (E:Value→Shared→Prop),S i s.heap ρ→Q (.ref it) s→wpAny K.M A (pyIter (.ref it)) Q E s
section
variable {K:Cfg} {A:Around} {target:Expr}
theorem butL_same {it:Addr} {h h':Heap} (hs:Heap.SameBut it h h'):ButL [it] h h':=fun b o hb e=>(hs.2 b (fun q=>hb (by rw[q];exact List.mem_singleton.mpr rfl))).trans e
theorem butL_ext {it:Addr} {h h':Heap} (hs:Heap.ExtBut it h h'):ButL [it] h h':=fun b o hb e=>hs b o (fun q=>hb (by rw[q];exact List.mem_singleton.mpr rfl)) e
theorem Turns.list {it a:Addr} {r v:Nat} {ds:List D} (hne:a≠it) :
  Turns K A target it [it] (some (r,v)) ds (fun i h ρ=>h.IsListIter it a i∧ρ[r]?=some a∧∃vs ep,h.get? a=some (seqObj "list" vs ep)∧Reps K.H₀ h ρ vs.toList ds) where
 live:=fun i h ρ st b hb=>by
  obtain⟨⟨o,e,_⟩,_⟩:=st
  rw[List.mem_singleton.mp hb];exact⟨o,e⟩
 notTup:=fun i h ρ st b hb ob items n e hc hd=>by
  obtain⟨⟨o,e1,hc1,_⟩,_⟩:=st
  rw[List.mem_singleton.mp hb,e1] at e
  cases e
  rw[hc1] at hc;simp at hc
 keep:=fun i h ρ h' ρ' st hk hsrc htk hp=>by
  obtain⟨⟨o,e1,r1⟩,hr,vs,ep,e2,rr⟩:=st
  exact⟨⟨o,hk it (List.mem_singleton.mpr rfl) o e1,r1⟩,hp r a hr,vs,ep,(hsrc r v a rfl hr).trans e2,Reps.mono htk hp _ rr⟩
 next:=fun i d s ρ Qn Q E E₂ hh hd st hQ=>by
  obtain⟨hit,hr,vs,ep,e2,rr⟩:=st
  obtain⟨x,hx,rx⟩:=rr.get hd
  refine wpAny_pyNext_list_item hit ⟨_,e2,rfl,ep,rfl⟩ (by simpa using hx) fun h' hit' hs'=>?_
  refine letGo_listiter hit' ?_
  have hnt:NotTup s.heap it:=fun ob items n e hc hd=>by
   obtain⟨o,e1,hc1,_⟩:=hit
   rw[e1] at e;cases e
   rw[hc1] at hc;simp at hc
  exact hQ x h' s.toks (butL_same hs') (rx.other hs' hnt) ⟨hit',hr,vs,ep,(hs'.2 a hne).trans e2,rr.other hs' hnt⟩
 done:=fun s ρ Q E hh st hQ=>by
  obtain⟨hit,hr,vs,ep,e2,rr⟩:=st
  refine wpAny_pyNext_list_end hh hit ⟨_,e2,rfl,ep,rfl⟩ ?_ fun h' he=>hQ h' s.toks (butL_ext he)
  have:=rr.length
  simp at this ⊢;omega
 self:=fun i s ρ Q E st hQ=>wpAny_pyIter_listiter st.1 hQ
theorem Turns.tup {it a:Addr} {ds:List D} (hne:a≠it) :
  Turns K A target it [it] none ds (fun i h ρ=>h.IsTupleIter it a i∧∃vs ep,h.get? a=some (seqObj "tuple" vs ep)∧Reps K.H₀ h ρ vs.toList ds) where
 live:=fun i h ρ st b hb=>by
  obtain⟨⟨o,e,_⟩,_⟩:=st
  rw[List.mem_singleton.mp hb];exact⟨o,e⟩
 notTup:=fun i h ρ st b hb ob items n e hc hd=>by
  obtain⟨⟨o,e1,hc1,_⟩,_⟩:=st
  rw[List.mem_singleton.mp hb,e1] at e
  cases e
  rw[hc1] at hc;simp at hc
 keep:=fun i h ρ h' ρ' st hk hsrc htk hp=>by
  obtain⟨⟨o,e1,r1⟩,vs,ep,e2,rr⟩:=st
  exact⟨⟨o,hk it (List.mem_singleton.mpr rfl) o e1,r1⟩,vs,ep,htk a vs ep e2,Reps.mono htk hp _ rr⟩
 next:=fun i d s ρ Qn Q E E₂ hh hd st hQ=>by
  obtain⟨hit,vs,ep,e2,rr⟩:=st
  obtain⟨x,hx,rx⟩:=rr.get hd
  refine wpAny_pyNext_tuple_item hit ⟨_,e2,rfl,ep,rfl⟩ (by simpa using hx) fun h' hit' hs'=>?_
  refine letGo_tupleiter hit' ?_
  have hnt:NotTup s.heap it:=fun ob items n e hc hd=>by
   obtain⟨o,e1,hc1,_⟩:=hit
   rw[e1] at e;cases e
   rw[hc1] at hc;simp at hc
  exact hQ x h' s.toks (butL_same hs') (rx.other hs' hnt) ⟨hit',vs,ep,(hs'.2 a hne).trans e2,rr.other hs' hnt⟩
 done:=fun s ρ Q E hh st hQ=>by
  obtain⟨hit,vs,ep,e2,rr⟩:=st
  refine wpAny_pyNext_tuple_end hh hit ⟨_,e2,rfl,ep,rfl⟩ ?_ fun h' he=>hQ h' s.toks (butL_ext he)
  have:=rr.length
  simp at this ⊢;omega
 self:=fun i s ρ Q E st hQ=>wpAny_pyIter_tupleiter st.1 hQ
theorem letGo_rangeiter {I:Addr} {x left step:Int} {v:Value} {E:Value→Shared→Prop} {Q':Unit→Shared→Prop} {s':Shared} (hit:IsRangeIter s'.heap I x left step) (h:Q' () s') :
  wpAny K.M A (letOwnedTupleGo target (.ref I) v) Q' E s':=by
 unfold letOwnedTupleGo
 cases target<;>first
  |exact wpAny_pure h
  |(cases v<;>first
    |exact wpAny_pure h
    |(refine wpAny_bind (wpAny_load hit ?_)
      exact wpAny_pure h))
theorem Turns.range {it:Addr} {a b:Int} :
  Turns K A target it [it] none (rangeD a b) (fun i h _=>IsRangeIter h it (a+i) ((b-a).toNat-(i:Int)) 1) where
 live:=fun i h ρ st b hb=>by rw[List.mem_singleton.mp hb];exact⟨_,st⟩
 notTup:=fun i h ρ st b hb ob items n e hc hd=>by
  rw[List.mem_singleton.mp hb,st] at e
  cases e
  simp at hc
 keep:=fun i h ρ h' ρ' st hk hsrc htk hp=>hk it (List.mem_singleton.mpr rfl) _ st
 next:=fun i d s ρ Qn Q E E₂ hh hd st hQ=>by
  have hi:i<(b-a).toNat:=by
   have:=(List.getElem?_eq_some_iff.mp hd).1
   simpa [rangeD] using this
  have hdd:d = .int (a+i):=by
   have:=hd
   simp only[rangeD,List.getElem?_map,List.getElem?_range hi,Option.map_some,Option.some.injEq] at this
   exact this.symm
  subst hdd
  refine wpAny_pyNext_range_item st (by omega) fun h' hit' hs'=>?_
  refine letGo_rangeiter hit' ?_
  refine hQ _ h' _ (butL_same hs') ⟨_,rfl⟩ ?_
  have e1:a+(i:Int)+1=a+((i+1:Nat):Int):=by omega
  have e2:((b-a).toNat:Int)-(i:Int)-1=(b-a).toNat-((i+1:Nat):Int):=by omega
  show IsRangeIter h' it (a+((i+1:Nat):Int)) ((b-a).toNat-((i+1:Nat):Int)) 1
  rw[←e1,←e2]
  exact hit'
 done:=fun s ρ Q E hh st hQ=>by
  refine wpAny_pyNext_range_end hh st ?_ fun h' he=>hQ h' s.toks (butL_ext he)
  simp[rangeD]
 self:=fun i s ρ Q E st hQ=>wpAny_pyIter_rangeiter st hQ
end
section
variable {prog:Program} {w:World} {A:Around} {E:Value→Shared→Prop} {s:Shared}
theorem iter_dict {d:Addr} {o:Obj} {es:Array DictEntry} {ep:Nat} {Q:Value→Shared→Prop} (hd:(d==sysModules)=false) (ho:s.heap.get? d=some o) (hc:o.cls = .type "dict") (hdat:o.data = .dict es ep)
  (hQ:Q (.ref s.heap.objs.size) { s with heap:=s.heap.push { cls:=.type "dict_keyiterator",data:=.fields #[.ref d,.int 0 0,.int es.size 0,.int ep 0] } }) :
  wpAny (model prog w) A (pyIter (.ref d)) Q E s:=by
 have hT:s.TypeIs (.ref d) "dict":=⟨o,ho,hc⟩
 refine wpAny_pyIter_slot hT PySem.F.slot_dict_iter (wpAny_call_entry PySem.F.slot_dict_iter hT PySem.F.entry_dict_iter ?_ (PySem.F.args_dict_iter_1 _))
 unfold Builtin.«dict.__iter__»
 refine wpAny_bind ?_
 unfold Builtin.Dict.dictSlotNone
 refine wpAny_bind (wpAny_notOrdered_dict hT ?_)
 show wpAny _ _ (pure (Value.ref d)) _ _ s
 refine wpAny_pure ?_
 show wpAny _ _ (Builtin.Dict.showsAll d >>= _) _ _ s
 unfold Builtin.Dict.showsAll
 rw[if_neg (by rw[hd];exact Bool.false_ne_true)]
 refine wpAny_bind (wpAny_pure ?_)
 refine wpAny_bind (wpAny_dictEntries ho hdat ?_)
 refine wpAny_bind (wpAny_dictEpoch ho hdat ?_)
 refine wpAny_bind (wpAny_newObj_type (wpAny_pure ⟨_,rfl, "dict_keyiterator",_,⟨_,Heap.get?_push_size _ rfl,rfl⟩,PySem.F.slot_dict_keyiterator_next.lookup,?_⟩))
 simpa [rawInt] using hQ
theorem next_key {it d:Addr} {i ep:Nat} {od:Obj} {es:Array DictEntry} {e:DictEntry} {Q:Option Value→Shared→Prop} (hit:s.heap.IsKeyIter it d i es.size ep)
  (hod:s.heap.get? d=some od) (hdd:od.data = .dict es ep) (hx:es[i]?=some e)
  (hQ:∀h',h'.IsKeyIter it d (i+1) es.size ep→Heap.SameBut it s.heap h'→Q (some e.key) { s with heap:=h' }) :
  wpAny (model prog w) A (pyNext (.ref it)) Q E s:=by
 obtain⟨o,ho,hc,hd⟩:=id hit
 unfold pyNext
 refine wpAny_bind (wpAny_attempt (wpAny_callSpecial?_slot (name:=Str.ofString "__next__") hit.typeIs PySem.F.slot_dict_keyiterator_next
  (wpAny_call_entry PySem.F.slot_dict_keyiterator_next hit.typeIs PySem.F.entry_dict_keyiterator_next ?_ (PySem.F.args_dict_keyiterator_next_1 _))))
 refine wpAny_bind (wpAny_pure ?_)
 refine wpAny_bind ?_
 refine wpAny_bind ?_
 first|refine wpAny_bind (wpAny_typeNameOfWhole_keyiter hit.typeIs (wpAny_pure ?_))|refine wpAny_bind (wpAny_typeNameOf_keyiter hit.typeIs (wpAny_pure ?_))
 refine wpAny_bind (wpAny_fieldsOf ho hd ?_)
 have hown:Builtin.Dict_items.ownsTuple "dict_keyiterator"=false:=by decide
 simp only[hown,Bool.false_eq_true,if_false]
 show wpAny _ _ (if (Value.ref d==Value.none)=true then _ else _) _ _ s
 rw[if_neg (show ¬((Value.ref d==Value.none)=true) from Bool.false_ne_true)]
 refine wpAny_bind (wpAny_pure ?_)
 refine wpAny_bind (wpAny_dictEntries hod hdd ?_)
 rw[if_neg (by simp)]
 refine wpAny_bind (wpAny_pure ?_)
 refine wpAny_bind (wpAny_dictEpoch hod hdd ?_)
 rw[if_neg (by simp)]
 refine wpAny_pure ?_
 simp only[show ¬((i:Int)<0) from by omega,if_false,Int.toNat_natCast,hx]
 refine wpAny_bind ?_
 first|refine wpAny_bind (wpAny_typeNameOfWhole_keyiter hit.typeIs (wpAny_pure ?_))|refine wpAny_bind (wpAny_typeNameOf_keyiter hit.typeIs (wpAny_pure ?_))
 refine wpAny_bind (wpAny_isOneOf_keyiter hit.typeIs ?_)
 show wpAny _ _ (setField (.ref it) 1 (rawInt ((i:Int)+1)) >>= _) _ _ s
 refine wpAny_bind (wpAny_setField ho hd (by simp) ?_)
 have hit':(s.heap.update it (Obj.mapFields (·.setIfInBounds 1 (rawInt ((i:Int)+1))))).IsKeyIter it d (i+1) es.size ep:=
  ⟨_,Heap.get?_update_self _ ho (Obj.isFreed_of_fields (Obj.data_mapFields hd _)),(Obj.cls_mapFields ..).trans hc,by rw[Obj.data_mapFields hd];simp[rawInt]⟩
 refine wpAny_bind (wpAny_holding ?_)
 refine wpAny_bind (wpAny_isOneOf_keyiter (s:={ s with heap:=s.heap.update it (Obj.mapFields (·.setIfInBounds 1 (rawInt ((i:Int)+1)))) }) hit'.typeIs ?_)
 show wpAny _ _ (pure e.key) _ _ _
 exact wpAny_pure (wpAny_pure ⟨_,rfl,wpAny_pure (hQ _ hit' (Heap.SameBut.update ..))⟩)
theorem end_key {it d:Addr} {i ep:Nat} {od:Obj} {es:Array DictEntry} {Q:Option Value→Shared→Prop} (hh:A.handled=none) (hit:s.heap.IsKeyIter it d i es.size ep)
  (hod:s.heap.get? d=some od) (hdd:od.data = .dict es ep) (hx:es[i]?=none)
  (hQ:∀h',Heap.ExtBut it s.heap h'→Q none { s with heap:=h' }):wpAny (model prog w) A (pyNext (.ref it)) Q E s:=by
 obtain⟨o,ho,hc,hd⟩:=id hit
 unfold pyNext
 refine wpAny_bind (wpAny_attempt (wpAny_callSpecial?_slot (name:=Str.ofString "__next__") hit.typeIs PySem.F.slot_dict_keyiterator_next
  (wpAny_call_entry PySem.F.slot_dict_keyiterator_next hit.typeIs PySem.F.entry_dict_keyiterator_next ?_ (PySem.F.args_dict_keyiterator_next_1 _))))
 refine wpAny_bind (wpAny_pure ?_)
 refine wpAny_bind ?_
 refine wpAny_bind ?_
 first|refine wpAny_bind (wpAny_typeNameOfWhole_keyiter hit.typeIs (wpAny_pure ?_))|refine wpAny_bind (wpAny_typeNameOf_keyiter hit.typeIs (wpAny_pure ?_))
 refine wpAny_bind (wpAny_fieldsOf ho hd ?_)
 have hown:Builtin.Dict_items.ownsTuple "dict_keyiterator"=false:=by decide
 simp only[hown,Bool.false_eq_true,if_false]
 show wpAny _ _ (if (Value.ref d==Value.none)=true then _ else _) _ _ s
 rw[if_neg (show ¬((Value.ref d==Value.none)=true) from Bool.false_ne_true)]
 refine wpAny_bind (wpAny_pure ?_)
 refine wpAny_bind (wpAny_dictEntries hod hdd ?_)
 rw[if_neg (by simp)]
 refine wpAny_bind (wpAny_pure ?_)
 refine wpAny_bind (wpAny_dictEpoch hod hdd ?_)
 rw[if_neg (by simp)]
 refine wpAny_pure ?_
 simp only[show ¬((i:Int)<0) from by omega,if_false,Int.toNat_natCast,hx]
 refine wpAny_bind ?_
 first|refine wpAny_bind (wpAny_typeNameOfWhole_keyiter hit.typeIs (wpAny_pure ?_))|refine wpAny_bind (wpAny_typeNameOf_keyiter hit.typeIs (wpAny_pure ?_))
 show wpAny _ _ (setField (.ref it) 0 .none >>= _) _ _ s
 refine wpAny_bind (wpAny_setField ho hd (by simp) ?_)
 show wpAny _ _ (newExc (.type "StopIteration") [] >>= _) _ _ _
 refine wpAny_bind ?_
 simp only[newExc,newTuple]
 refine wpAny_bind (wpAny_newObj_type ?_ (by size_fits))
 refine wpAny_bind (m:=firstArgMember _ _) (wpAny_of_eq (a:=Value.none) (by first|rfl|(simp only[firstArgMember];rfl)) ?_)
 refine wpAny_newObj_type ?_ (by size_fits)
 simp only[raiseNew]
 refine wpAny_bind (wpAny_handled ?_)
 rw[show A.in1.handled=none from hh]
 refine wpAny_bind (wpAny_pure (wpAny_throw ?_))
 refine wpAny_bind (wpAny_isInstance (T:="StopIteration") (b:=true) ⟨_,Heap.get?_push_size _ rfl,rfl⟩ isSubtype_stop ?_)
 exact wpAny_pure (hQ _ (((Heap.SameBut.update ..).extBut.push _).push _))
theorem nextOf_tup {it l:Addr} {i:Nat} {items} {x:Value} {Q:Value→Shared→Prop} (hit:s.heap.IsTupleIter it l i)
  (hl:s.heap.IsTuple l items) (hx:items[i]?=some x)
  (hQ:∀h',h'.IsTupleIter it l (i+1)→Heap.SameBut it s.heap h'→Q x { s with heap:=h' }) :
  wpAny (model prog w) A (Builtin.SmallTypes.nextOf (.ref it)) Q E s:=by
 obtain⟨o,ho,hc,hd⟩:=id hit
 obtain⟨ol,hol,_,nl,hdl⟩:=hl
 unfold Builtin.SmallTypes.nextOf
 refine wpAny_bind (wpAny_callSpecial?_slot (name:=Str.ofString "__next__") hit.typeIs PySem.F.slot_tuple_iterator_next
  (wpAny_call_entry PySem.F.slot_tuple_iterator_next hit.typeIs PySem.F.entry_tuple_iterator_next ?_ (PySem.F.args_tuple_iterator_next_1 _)))
 show wpAny _ _ (field (.ref it) 0 >>= _) _ _ s
 refine wpAny_bind (wpAny_field ho hd (x:=.ref l) rfl ?_)
 show wpAny _ _ (if (Value.ref l==Value.none)=true then _ else _) _ _ s
 rw[if_neg (show ¬((Value.ref l==Value.none)=true) from Bool.false_ne_true)]
 show wpAny _ _ (field (.ref it) 1 >>= _) _ _ s
 refine wpAny_bind (wpAny_field ho hd (x:=.int i 0) rfl ?_)
 show wpAny _ _ (seqItems? (.ref l) >>= _) _ _ s
 refine wpAny_bind (wpAny_seqItems hol hdl ?_)
 simp only[Int.toNat_natCast,hx]
 refine wpAny_bind (wpAny_setField ho hd (by simp) (wpAny_pure ⟨x,rfl,wpAny_pure (hQ _ ?_ (Heap.SameBut.update ..))⟩))
 exact⟨_,Heap.get?_update_self _ ho (Obj.isFreed_of_fields (Obj.data_mapFields hd _)),(Obj.cls_mapFields ..).trans hc,by
  rw[Obj.data_mapFields hd];simp[rawInt]⟩
theorem nextOf_tup_end {it l:Addr} {i:Nat} {items} {Q:Value→Shared→Prop} (hh:A.handled=none) (hit:s.heap.IsTupleIter it l i)
  (hl:s.heap.IsTuple l items) (hx:items[i]?=none)
  (hE:∀h' e,Heap.ExtBut it s.heap h'→(∃o,h'.get? e=some o∧o.cls = .type "StopIteration")→E (.ref e) { s with heap:=h' }) :
  wpAny (model prog w) A (Builtin.SmallTypes.nextOf (.ref it)) Q E s:=by
 obtain⟨o,ho,hc,hd⟩:=id hit
 obtain⟨ol,hol,_,nl,hdl⟩:=hl
 unfold Builtin.SmallTypes.nextOf
 refine wpAny_bind (wpAny_callSpecial?_slot (name:=Str.ofString "__next__") hit.typeIs PySem.F.slot_tuple_iterator_next
  (wpAny_call_entry PySem.F.slot_tuple_iterator_next hit.typeIs PySem.F.entry_tuple_iterator_next ?_ (PySem.F.args_tuple_iterator_next_1 _)))
 show wpAny _ _ (field (.ref it) 0 >>= _) _ _ s
 refine wpAny_bind (wpAny_field ho hd (x:=.ref l) rfl ?_)
 show wpAny _ _ (if (Value.ref l==Value.none)=true then _ else _) _ _ s
 rw[if_neg (show ¬((Value.ref l==Value.none)=true) from Bool.false_ne_true)]
 show wpAny _ _ (field (.ref it) 1 >>= _) _ _ s
 refine wpAny_bind (wpAny_field ho hd (x:=.int i 0) rfl ?_)
 show wpAny _ _ (seqItems? (.ref l) >>= _) _ _ s
 refine wpAny_bind (wpAny_seqItems hol hdl ?_)
 simp only[Int.toNat_natCast,hx]
 refine wpAny_bind (wpAny_rule (wpAny_bind (wpAny_setField ho hd (by simp) ?_)))
 show wpAny _ _ (newExc (.type "StopIteration") [] >>= _) _ _ _
 refine wpAny_bind ?_
 simp only[newExc,newTuple]
 refine wpAny_bind (wpAny_newObj_type ?_ (by size_fits))
 refine wpAny_bind (m:=firstArgMember _ _) (wpAny_of_eq (a:=Value.none) (by first|rfl|(simp only[firstArgMember];rfl)) ?_)
 refine wpAny_newObj_type ?_ (by size_fits)
 simp only[raiseNew]
 refine wpAny_bind (wpAny_handled ?_)
 first|rw[show A.in1.handled=none from hh]|rw[hh]
 refine wpAny_bind (wpAny_pure (wpAny_throw ?_))
 exact hE _ _ (((Heap.SameBut.update ..).extBut.push _).push _) ⟨_,Heap.get?_push_size _ rfl,rfl⟩
theorem drawsTup {prog:Program} {w:World} {A:Around} (hh:A.handled=none) (it l:Addr) (hne:l≠it) (items:Array Value) :
  Draws prog w A it [it,l] items.size (fun i v=>items[i]?=some v) (fun i h=>h.IsTupleIter it l i∧h.IsTuple l items) where
 live:=fun _ _ st=>let ⟨o,ho,_⟩:=st.1;⟨o,ho⟩
 frame:=fun _ _ _ st hk=>⟨let ⟨o,ho,r⟩:=st.1;⟨o,hk it (by simp) o ho,r⟩,let ⟨o,ho,r⟩:=st.2;⟨o,hk l (by simp) o ho,r⟩⟩
 item:=fun i s Q E hi st hQ=>by
  refine nextOf_tup st.1 st.2 (x:=items[i]) (by simp[hi]) fun h' hit' hs'=>?_
  exact hQ _ h' s.toks (by simp[hi]) ⟨hit',st.2.extBut hs'.extBut hne⟩ hs'
 done:=fun s Q E st hE=>nextOf_tup_end hh st.1 st.2 (by simp) hE
theorem enumNewTup (l:Addr) (items:Array Value) (n:Nat) :
  Meets (Builtin.«enumerate.__new__» ⟨[.type "enumerate",.ref l],[]⟩) (fun _ R s=>s.heap.get? l=some { cls:=.type "tuple",dict:=none,data:=.seq items n,slots:=#[] }∧
   R (.ok (.ret (.ref (s.heap.push { cls:=.type "tuple_iterator",data:=.fields #[.ref l,.int 0 0] }).objs.size)))
    { s with heap:=(s.heap.push { cls:=.type "tuple_iterator",data:=.fields #[.ref l,.int 0 0] }).push { cls:=.type "enumerate",data:=.fields #[.none,.bool false,.ref s.heap.objs.size,rawInt 0,.none,.none] } }):=
 .of_wp fun prog w A R s h=>by
  obtain⟨hp,g,d,tk,os⟩:=s;obtain⟨hl,h⟩:=h
  have hsub:=sub_enumerate
  have hL:Heap.IsTuple (Shared.heap ⟨hp,g,d,tk,os⟩) l items:=⟨_,hl,rfl,n,rfl⟩
  wp_walk using AutoSeq1.wpAny_loadPart' hl
  refine wpAny_stack_any fun st=>wpAny_pure ?_
  split
  ·rename_i c _ _ _ _ _
   cases (c==Value.type "enumerate")
   ·wp_walk using AutoSeq1.wpAny_loadPart' hl,wpAny_pyIter_tuple hL
    exact⟨_,rfl,h⟩
   ·wp_walk using AutoSeq1.wpAny_loadPart' hl,wpAny_pyIter_tuple hL
    exact⟨_,rfl,h⟩
  ·wp_walk using AutoSeq1.wpAny_loadPart' hl,wpAny_pyIter_tuple hL
   exact⟨_,rfl,h⟩
theorem call_enumTup {l:Addr} {items:Array Value} {n:Nat} {Q:Value→Shared→Prop}
  (hl:s.heap.get? l=some (seqObj "tuple" items n))
  (h:∀h',IsEnum h' (s.heap.objs.size+1) s.heap.objs.size 0 .none→h'.IsTupleIter s.heap.objs.size l 0→h'.objs.size=s.heap.objs.size+2→
   (∀b o,s.heap.get? b=some o→h'.get? b=some o)→Q (.ref (s.heap.objs.size+1)) { s with heap:=h' }) :
  wpAny (model prog w) A (call (.type "enumerate") [.ref l]) Q E s:=by
 refine callType_new PySem.F.called_enumerate (by decide) (PySem.F.typeCall_enumerate_1 _) (PySem.F.newCall_enumerate_1 _) (fun obj=>PySem.F.args_object_init_2 obj _) PySem.F.entry_enumerate_new
  (enumNewTup l items n) ⟨hl,?_⟩
 have hz:(s.heap.push { cls:=.type "tuple_iterator",data:=.fields #[.ref l,.int 0 0] }).objs.size=s.heap.objs.size+1:=Heap.size_push ..
 show _∧_
 rw[hz]
 have he:IsEnum ((s.heap.push { cls:=.type "tuple_iterator",data:=.fields #[.ref l,.int 0 0] }).push
   { cls:=.type "enumerate",data:=.fields #[.none,.bool false,.ref s.heap.objs.size,rawInt 0,.none,.none] }) (s.heap.objs.size+1) s.heap.objs.size 0 .none:=by
  have:=Heap.get?_push_size (s.heap.push { cls:=.type "tuple_iterator",data:=.fields #[.ref l,.int 0 0] })
   (o:={ cls:=.type "enumerate",data:=.fields #[.none,.bool false,.ref s.heap.objs.size,rawInt 0,.none,.none] }) rfl
  rw[hz] at this;exact this
 refine⟨⟨_,he,rfl⟩,h _ he ⟨_,Heap.get?_push_of_some _ (Heap.get?_push_size _ rfl),rfl,rfl⟩ (by rw[Heap.size_push,hz]) fun b o x=>Heap.get?_push_of_some _ (Heap.get?_push_of_some _ x)⟩
end
section
variable {K:Cfg} {A:Around} {target:Expr}
theorem enumD_get:∀(ds:List D) (n i:Nat) (d:D),(enumD n ds)[i]?=some d→∃x,ds[i]?=some x∧d = .tup [.int ((n+i:Nat):Int),x]
 | [],n,i,d,e=>by simp[enumD] at e
 |x::r,n,0,d,e=>by
  simp only[enumD,List.getElem?_cons_zero,Option.some.injEq] at e
  exact⟨x,rfl,by rw[←e];rfl⟩
 |x::r,n,i+1,d,e=>by
  simp only[enumD,List.getElem?_cons_succ] at e
  obtain⟨y,h1,h2⟩:=enumD_get r (n+1) i d e
  refine⟨y,by simpa using h1,?_⟩
  rw[h2]
  have:n+1+i=n+(i+1):=by omega
  rw[this]
theorem enumD_len:∀(ds:List D) (n:Nat),(enumD n ds).length=ds.length
 | [],_=>rfl
 |_::r,n=>by simp only[enumD,List.length_cons,enumD_len r]
theorem Turns.keys {it a:Addr} {r v ep:Nat} {es:Array DictEntry} {ks:List (List Int)} (hne:a≠it) :
  Turns K A target it [it] (some (r,v)) (ks.map keyD) (fun i h ρ=>h.IsKeyIter it a i es.size ep∧ρ[r]?=some a∧(∃o,h.get? a=some o∧o.data = .dict es ep∧o.cls = .type "dict")∧∃xs:List (List Int×Addr×Value),es.toList=xs.map (entryOfKey (kTup K.prog K.w))∧xs.map (·.1)=ks∧Keyed K.H₀ h ρ xs) where
 live:=fun i h ρ st b hb=>by
  obtain⟨⟨o,e,_⟩,_⟩:=st
  rw[List.mem_singleton.mp hb];exact⟨o,e⟩
 notTup:=fun i h ρ st b hb ob items n e hc hd=>by
  obtain⟨⟨o,e1,hc1,_⟩,_⟩:=st
  rw[List.mem_singleton.mp hb,e1] at e
  cases e
  rw[hc1] at hc;simp at hc
 keep:=fun i h ρ h' ρ' st hk hsrc htk hp=>by
  obtain⟨⟨o,e1,r1⟩,hr,⟨od,e2,r2⟩,xs,x1,x2,x3⟩:=st
  exact⟨⟨o,hk it (List.mem_singleton.mpr rfl) o e1,r1⟩,hp r a hr,⟨od,(hsrc r v a rfl hr).trans e2,r2⟩,xs,x1,x2,fun y hy=>Rep.mono htk hp _ (x3 y hy)⟩
 next:=fun i d s ρ Qn Q E E₂ hh hd st hQ=>by
  obtain⟨hit,hr,⟨od,e2,r2,r3⟩,xs,x1,x2,x3⟩:=st
  obtain⟨k,hk,rfl⟩:=List.getElem?_map ..▸hd |> (Option.map_eq_some_iff.mp ·)
  rw[←x2,List.getElem?_map,Option.map_eq_some_iff] at hk
  obtain⟨y,hy,rfl⟩:=hk
  have he:es[i]?=some (entryOfKey (kTup K.prog K.w) y):=by rw[entry_at x1 i,hy];rfl
  refine next_key hit e2 r2 he fun h' hit' hs'=>?_
  refine letGo_keyiter hit' ?_
  have hnt:NotTup s.heap it:=fun ob items n e hc hd=>by
   obtain⟨o,e1,hc1,_⟩:=hit
   rw[e1] at e;cases e
   rw[hc1] at hc;simp at hc
  exact hQ _ h' s.toks (butL_same hs') ((x3 y (List.mem_of_getElem? hy)).other hs' hnt) ⟨hit',hr,⟨od,(hs'.2 a hne).trans e2,r2,r3⟩,xs,x1,x2,fun z hz=>(x3 z hz).other hs' hnt⟩
 done:=fun s ρ Q E hh st hQ=>by
  obtain⟨hit,hr,⟨od,e2,r2,r3⟩,xs,x1,x2,x3⟩:=st
  refine end_key hh hit e2 r2 ?_ fun h' he=>hQ h' s.toks (butL_ext he)
  have h1:=size_of_entries x1
  have h2:xs.length=ks.length:=by rw[←x2];simp
  simp;omega
 self:=fun i s ρ Q E st hQ=>wpAny_pyIter_keyiter st.1 hQ
theorem Turns.enum {cls:String} {e it a:Addr} {src:Src} {items:Array Value} {ep:Nat} {ds:List D} {elts:List Expr} {q:Nat} {tpos:Pos} {St:Nat→Heap→Prop} (hcls:(cls = "tuple"∧src=none)∨∃r v,src=some (r,v))
  (D:∀A:Around,A.handled=none→Draws K.prog K.w A it [it,a] items.size (fun i v=>items[i]?=some v) St) (hnt:∀i h,St i h→NotTup h it) (hei:e≠it) (hea:e≠a) (hia:it≠a) :
  Turns K A (.Tuple elts q tpos) e [e,it] src (enumD 0 ds) (fun i h ρ=>(∃old,IsEnum h e it i old)∧St i h∧h.get? a=some (seqObj cls items ep)∧(∀r v,src=some (r,v)→ρ[r]?=some a)∧Reps K.H₀ h ρ items.toList ds) where
 live:=fun i h ρ st b hb=>by
  obtain⟨⟨old,he⟩,hs,_⟩:=st
  rcases List.mem_cons.mp hb with rfl|hb
  ·exact⟨_,he⟩
  ·rw[List.mem_singleton.mp hb]
   exact(D {} rfl).live i h hs
 notTup:=fun i h ρ st b hb=>by
  obtain⟨⟨old,he⟩,hs,_⟩:=st
  rcases List.mem_cons.mp hb with rfl|hb
  ·intro ob items n e hc hd
   rw[he] at e;cases e;simp at hc
  ·rw[List.mem_singleton.mp hb]
   exact hnt i h hs
 keep:=fun i h ρ h' ρ' st hk hsrc htk hp=>by
  obtain⟨⟨old,he⟩,hs,ha,hr,rr⟩:=st
  have ha':h'.get? a=some (seqObj cls items ep):=by
   rcases hcls with⟨rfl,rfl⟩ | ⟨r,v,rfl⟩
   ·exact htk a items ep ha
   ·exact(hsrc r v a rfl (hr r v rfl)).trans ha
  refine⟨⟨old,hk e (by simp) _ he⟩,(D {} rfl).frame i h h' hs fun b hb o eb=>?_,ha',fun r v e=>hp r a (hr r v e),Reps.mono htk hp _ rr⟩
  rcases List.mem_cons.mp hb with rfl|hb
  ·exact hk b (by simp) o eb
  ·rw[List.mem_singleton.mp hb] at eb ⊢
   rw[ha] at eb;cases eb;exact ha'
 next:=fun i d s ρ Qn Q E E₂ hh hd st hQ=>by
  obtain⟨⟨old,he⟩,hs,ha,hr,rr⟩:=st
  obtain⟨x,hx,rfl⟩:=enumD_get ds 0 i d hd
  obtain⟨xv,hxv,rx⟩:=rr.get hx
  have hi:i<items.size:=by
   have:=(List.getElem?_eq_some_iff.mp hxv).1
   simpa using this
  have hef:e∉[it,a]:=by simp[hei,hea]
  refine wpAny_pyNext_enum_itemD (D A.in1 hh) he hs hi hei hef fun y h' tk hP ho hs' hT hsz hk=>?_
  have hyx:y=xv:=by
   have h1:items[i]?=some xv:=by simpa using hxv
   rw[h1] at hP;cases hP;rfl
  subst hyx
  refine wpAny_letOwnedTupleGo_enum ho fun h2 he2 hs2=>?_
  have hlt:e<s.heap.objs.size:=Heap.lt_size he
  have hb1:ButL [e,it] s.heap h':=fun b o hb eb=>hk b o (fun q=>hb (by simp[q])) (fun q=>hb (by simp[q])) eb
  have hb2:ButL [e,it] s.heap h2:=fun b o hb eb=>(hs2.2 b (fun q=>hb (by simp[q]))).trans (hb1 b o hb eb)
  have hnts:∀b∈[e,it],NotTup s.heap b:=fun b hb=>by
   rcases List.mem_cons.mp hb with rfl|hb
   ·intro ob items n e hc hd
    rw[he] at e;cases e;simp at hc
   ·rw[List.mem_singleton.mp hb];exact hnt i _ hs
  have htk:=tupKeep_otherL hb2 hnts
  have hT2:h2.get? s.heap.objs.size=some (seqObj "tuple" #[.int i tk,y] 0):=(hs2.2 _ (Nat.ne_of_gt hlt)).trans hT
  refine hQ _ h2 _ hb2 ?_ ⟨⟨y,by simpa using he2⟩,?_,hb2 a _ (by simp[Ne.symm hea,Ne.symm hia]) ha,hr,Reps.mono htk (fun _ _ e=>e) _ rr⟩
  ·refine⟨_,_,_,rfl,hT2,⟨tk,?_⟩,Rep.mono htk (fun _ _ e=>e) _ rx,trivial⟩
   simp
  ·refine(D A.in1 hh).frame (i+1) h' h2 hs' fun b hb o eb=>(hs2.2 b fun q=>?_).trans eb
   subst q
   exact hef hb
 done:=fun s ρ Q E hh st hQ=>by
  obtain⟨⟨old,he⟩,hs,ha,hr,rr⟩:=st
  have h1:(enumD 0 ds).length=items.size:=by
   rw[enumD_len]
   have:=rr.length
   simp at this;omega
  rw[h1] at he hs
  exact wpAny_pyNext_enum_endD (D A.in1 hh) he hs fun h' hx=>hQ h' s.toks fun b o hb y=>hx b o (fun e'=>hb (by simp[e'])) y
 self:=fun i s ρ Q E st hQ=>by
  obtain⟨⟨old,he⟩,_⟩:=st
  exact wpAny_pyIter_enum he hQ
end
def Ctx.ok (c:Ctx):Bool:=(decide (c.vars.map (·.1)).Nodup&&decide (c.vars.map (·.2)).Nodup)&&c.vars.all fun p=>decide (p.2<c.next)
section
variable {K:Cfg} {c:Ctx} {env:Env} {n:Nat} {A:Around} {s:Shared} {ρ:List Addr} {σ:St} {l:Loc}
theorem ns_unique {h:Heap} {a:Addr} {m m':Str→Option Value} (x:h.Ns a m) (y:h.Ns a m') (z:Str):m z=m' z:=by
 obtain⟨o,es,ep,e,d,_,f⟩:=x
 obtain⟨o',es',ep',e',d',_,f'⟩:=y
 rw[e] at e';cases e'
 rw[d] at d';cases d'
 rw[←f z,←f' z]
theorem ns_notTup {h:Heap} {a:Addr} {m:Str→Option Value} (x:h.Ns a m):NotTup h a:=fun ob items n e _ hd=>by
 obtain⟨o,es,ep,e',d,_⟩:=x
 rw[e] at e';cases e'
 rw[hd] at d;cases d
theorem cell_notTup {h:Heap} {a:Addr} {ov:Option Value} (x:h.IsCell a ov):NotTup h a:=fun ob items n e _ hd=>by
 obtain⟨o,e',d⟩:=x
 rw[e] at e';cases e'
 rw[hd] at d;cases d
theorem ns_cell {h:Heap} {a:Addr} {m:Str→Option Value} {ov:Option Value} (x:h.Ns a m) (y:h.IsCell a ov):False:=by
 obtain⟨o,es,ep,e,d,_⟩:=x
 obtain⟨o',e',d'⟩:=y
 rw[e] at e';cases e'
 rw[d] at d';cases d'
theorem nodup_map_inj {α β:Type} (f:α→β):∀{xs:List α},(xs.map f).Nodup→∀p∈xs,∀q∈xs,f p=f q→p=q
 | [],_,_,hp,_,_,_=>by simp at hp
 |x::xs,h,p,hp,q,hq,e=>by
  simp only[List.map_cons,List.nodup_cons] at h
  rcases List.mem_cons.mp hp with hp1|hp1
  ·rcases List.mem_cons.mp hq with hq1|hq1
   ·rw[hp1,hq1]
   ·exact absurd (by rw[←hp1,e];exact List.mem_map_of_mem hq1) h.1
  ·rcases List.mem_cons.mp hq with hq1|hq1
   ·exact absurd (by rw[←hq1,←e];exact List.mem_map_of_mem hp1) h.1
   ·exact nodup_map_inj f h.2 p hp1 q hq1 e
theorem Ctx.names_inj (ok:c.ok=true) {p q:Str×Nat} (hp:p∈c.vars) (hq:q∈c.vars) (e:p.1=q.1):p=q:=by
 simp only[Ctx.ok,Bool.and_eq_true,decide_eq_true_eq] at ok
 exact nodup_map_inj _ ok.1.1 p hp q hq e
theorem Ctx.idx_inj (ok:c.ok=true) {p q:Str×Nat} (hp:p∈c.vars) (hq:q∈c.vars) (e:p.2=q.2):p=q:=by
 simp only[Ctx.ok,Bool.and_eq_true,decide_eq_true_eq] at ok
 exact nodup_map_inj _ ok.1.2 p hp q hq e
theorem Ctx.idx_lt (ok:c.ok=true) {p:Str×Nat} (hp:p∈c.vars):p.2<c.next:=by
 simp only[Ctx.ok,Bool.and_eq_true,List.all_eq_true,decide_eq_true_eq] at ok
 exact ok.2 p hp
theorem rest_set (ok:c.ok=true) {x:Str} {i:Nat} (hx:(x,i)∈c.vars) {l:Loc} (h:∀j,c.next≤j→(l[j]?).join=none) (d:D):∀j,c.next≤j→((l.set i (some d))[j]?).join=none:=fun j hj=>by
 have:=Ctx.idx_lt ok hx
 rw[List.getElem?_set_ne (by simp only at this;omega)]
 exact h j hj
theorem cellAt (ev:EnvOK c env) (v:Vars K c env s.heap ρ l) {p:Str×Nat} (hp:p∈c.vars) (hk:c.scope.names.lookup p.1=some .cell):∃a ov,env.cells.lookup p.1=some a∧s.heap.IsCell a ov∧a∈frame c env:=by
 have hk':env.kindOf p.1=some .cell:=by
  rcases ev.names _ _ hk with h | ⟨h,_⟩
  ·exact h
  ·cases h
 rcases v.at_ p hp with⟨hl,_⟩ | ⟨_,a,ov,h1,h2,_⟩
 ·rw[hk'] at hl;cases hl
 ·refine⟨a,ov,h1,h2,List.mem_cons_of_mem _ (List.mem_filterMap.mpr ⟨p,hp,?_⟩)⟩
  rw[if_pos hk];exact h1
theorem Vars.frameOk (ev:EnvOK c env) (x:K.sr ρ σ s.heap) (v:Vars K c env s.heap ρ l):∀a∈frame c env,a∉ρ∧K.H₀.get? a=none∧NotTup s.heap a∧∃o,s.heap.get? a=some o:=by
 intro a ha
 refine⟨?_,v.base a ha,?_⟩
 ·rcases List.mem_cons.mp ha with rfl|h
  ·exact v.apart
  ·obtain⟨p,hp,e⟩:=List.mem_filterMap.mp h
   split at e
   ·rename_i hk
    obtain⟨b,ov,h1,h2,_⟩:=cellAt ev v hp hk
    rw[h1] at e;cases e
    exact SR.cellNot x h2
   ·cases e
 ·rcases List.mem_cons.mp ha with rfl|h
  ·obtain⟨m,e⟩:=v.ns
   refine⟨ns_notTup e,?_⟩
   obtain⟨o,_,_,e,_⟩:=e
   exact⟨o,e⟩
  ·obtain⟨p,hp,e⟩:=List.mem_filterMap.mp h
   split at e
   ·rename_i hk
    obtain⟨b,ov,h1,h2,_⟩:=cellAt ev v hp hk
    rw[h1] at e;cases e
    refine⟨cell_notTup h2,?_⟩
    obtain⟨o,e,_⟩:=h2
    exact⟨o,e⟩
   ·cases e
theorem join_set_self {l:Loc} {i:Nat} {d d':D} (h:((l.set i (some d))[i]?).join=some d'):d'=d:=by
 by_cases hi:i<l.length
 ·rw[List.getElem?_set_self hi] at h
  simpa using h.symm
 ·rw[List.getElem?_eq_none (by simpa using hi)] at h
  cases h
theorem storeVar {x:Str} {i:Nat} {v:Value} {d:D} {Q:Unit→Shared→Prop} {E:Value→Shared→Prop} (ev:EnvOK c env) (xr:K.sr ρ σ s.heap) (vs:Vars K c env s.heap ρ l) (ok:c.ok=true) (hx:(x,i)∈c.vars)
  (hk:c.scope.names.lookup x=some .local∨c.scope.names.lookup x=some .cell) (r:K.rep s.heap ρ v d)
  (h:∀h' tk,ButL (frame c env) s.heap h'→(∀a∈frame c env,∃o,h'.get? a=some o)→K.sr ρ σ h'→Vars K c env h' ρ (l.set i (some d))→TupKeep s.heap h'→Q () { s with heap:=h',toks:=tk }):wpAny K.M A (storeName env x v) Q E s:=by
 have fr:=vs.frameOk ev xr
 have done:∀b h' tk,b∈frame c env→Heap.SameBut b s.heap h'→(∃o,h'.get? b=some o)→(TupKeep s.heap h'→Vars K c env h' ρ (l.set i (some d)))→Q () { s with heap:=h',toks:=tk }:=by
  intro b h' tk hb hs hlive hv
  have htk:TupKeep s.heap h':=fun a vs ep e=>(hs.2 a (fun q=>(fr b hb).2.2.1 _ vs ep (q▸e) rfl rfl)).trans e
  refine h h' tk (fun a o ha e=>(hs.2 a (fun q=>ha (q▸hb))).trans e) (fun a ha=>?_) (xr.other hs (fr b hb).1 (fr b hb).2.1 (fr b hb).2.2.1) (hv htk) htk
  by_cases q:a=b
  ·rw[q];exact hlive
  ·obtain⟨o,e⟩:=(fr a ha).2.2.2
   exact⟨o,(hs.2 a q).trans e⟩
 have other:∀p∈c.vars,p.1≠x→(l.set i (some d))[p.2]?=l[p.2]?:=fun p hp hne=>by
  rw[List.getElem?_set_ne]
  intro q
  have:=Ctx.idx_inj ok hp hx q.symm
  rw[this] at hne
  exact hne rfl
 rcases hk with hk|hk
 ·have hl:env.kindOf x=some .local:=by
   rcases ev.names _ _ hk with h | ⟨h,_⟩
   ·exact h
   ·cases h
  obtain⟨m,hm⟩:=vs.ns
  refine wpAny_storeName_local hl hm (fun h' hn' hs'=>done env.locals h' _ (List.mem_cons_self ..) hs' (let ⟨o,_,_,e,_⟩:=hn';⟨o,e⟩) fun htk=>?_) (by rw[ev.kind];rfl)
  refine⟨⟨_,hn'⟩,vs.apart,fun p hp=>?_,vs.inj,vs.base,rest_set ok hx vs.rest d⟩
  by_cases hpx:p.1=x
  ·have:p=(x,i):=Ctx.names_inj ok hp hx hpx
   subst this
   exact .inl ⟨hl,_,hn',fun d' hd'=>⟨v,by simp,by rw[join_set_self hd'];exact Rep.mono htk (fun _ _ e=>e) _ r⟩⟩
  ·rw[other p hp hpx]
   rcases vs.at_ p hp with⟨h1,m0,h2,h3⟩ | ⟨h1,a,ov,h2,h3,h4⟩
   ·refine .inl ⟨h1,_,hn',fun d' hd'=>?_⟩
    obtain⟨u,e1,e2⟩:=h3 d' hd'
    refine⟨u,?_,Rep.mono htk (fun _ _ e=>e) _ e2⟩
    simp only[hpx,if_false]
    rw[ns_unique hm h2];exact e1
   ·refine .inr ⟨h1,a,ov,h2,?_,fun d' hd'=>let ⟨u,e1,e2⟩:=h4 d' hd';⟨u,e1,Rep.mono htk (fun _ _ e=>e) _ e2⟩⟩
    obtain⟨o,e,dd⟩:=h3
    exact⟨o,(hs'.2 a (fun q=>by subst q;exact ns_cell hm ⟨o,e,dd⟩)).trans e,dd⟩
 ·have hl:env.kindOf x=some .cell:=by
   rcases ev.names _ _ hk with h | ⟨h,_⟩
   ·exact h
   ·cases h
  obtain⟨a,ov,h1,h2,h3⟩:=cellAt ev vs hx hk
  obtain⟨m,hm⟩:=vs.ns
  refine wpAny_storeName_cell ev.kind hl h1 h2 (fun h' hc' hs'=>done a h' s.toks h3 hs' (let ⟨o,e,_⟩:=hc';⟨o,e⟩) fun htk=>?_)
  have hne:env.locals≠a:=fun q=>ns_cell hm (q▸h2)
  have keepNs:∀m,s.heap.Ns env.locals m→h'.Ns env.locals m:=fun m ⟨o,es,ep,e,r⟩=>⟨o,es,ep,(hs'.2 _ hne).trans e,r⟩
  refine⟨⟨m,keepNs m hm⟩,vs.apart,fun p hp=>?_,vs.inj,vs.base,rest_set ok hx vs.rest d⟩
  by_cases hpx:p.1=x
  ·have:p=(x,i):=Ctx.names_inj ok hp hx hpx
   subst this
   exact .inr ⟨.inl hl,a,some v,h1,hc',fun d' hd'=>⟨v,rfl,by rw[join_set_self hd'];exact Rep.mono htk (fun _ _ e=>e) _ r⟩⟩
  ·rw[other p hp hpx]
   rcases vs.at_ p hp with⟨q1,m0,q2,q3⟩ | ⟨q1,b,ov',q2,q3,q4⟩
   ·exact .inl ⟨q1,m0,keepNs m0 q2,fun d' hd'=>let ⟨u,e1,e2⟩:=q3 d' hd';⟨u,e1,Rep.mono htk (fun _ _ e=>e) _ e2⟩⟩
   ·refine .inr ⟨q1,b,ov',q2,?_,fun d' hd'=>let ⟨u,e1,e2⟩:=q4 d' hd';⟨u,e1,Rep.mono htk (fun _ _ e=>e) _ e2⟩⟩
    obtain⟨o,e,dd⟩:=q3
    exact⟨o,(hs'.2 b (fun q=>vs.inj _ hp _ hx hpx b q2 (q▸h1))).trans e,dd⟩
end
def nameOf:Expr→Option Str
 | .Name x _=>some x
 |_=>none
theorem nameOf_eq {e:Expr} {x:Str} (h:nameOf e=some x):∃pos,e = .Name x pos:=by
 cases e<;>simp only[nameOf,reduceCtorEq,Option.some.injEq] at h
 subst h;exact⟨_,rfl⟩
def namesOf:List Expr→Option (List Str)
 | []=>some []
 |e::r=>match nameOf e,namesOf r with
  |some x,some xs=>some (x::xs)
  |_,_=>none
def targetOf:Expr→Option (List Str×Bool)
 | .Name x _=>some ([x],false)
 | .Tuple es _ _=>(namesOf es).map fun xs=>(xs,true)
 |_=>none
def slotOk (c:Ctx) (p:Str×Nat):Bool:=decide (p∈c.vars)&&(decide (c.scope.names.lookup p.1=some .local) || decide (c.scope.names.lookup p.1=some .cell))
def targOk (c:Ctx) (target:Expr) (ts:List Nat) (many:Bool):Bool:=match targetOf target with
 |some (xs,m)=>m==many&&decide (xs.length=ts.length)&&(xs.zip ts).all (slotOk c)
 |none=>false
section
variable {K:Cfg} {c:Ctx} {env:Env} {n:Nat} {A:Around} {s:Shared} {ρ:List Addr} {σ:St} {l:Loc}
abbrev PostV (K:Cfg) (c:Ctx) (env:Env) (ρ:List Addr) (σ:St) (l':Loc) (s:Shared) (Q:Unit→Shared→Prop):Prop:=
 ∀h' tk,ButL (frame c env) s.heap h'→(∀a∈frame c env,∃o,h'.get? a=some o)→K.sr ρ σ h'→Vars K c env h' ρ l'→TupKeep s.heap h'→Q () { s with heap:=h',toks:=tk }
theorem ButL.trans {L:List Addr} {h h' h'':Heap} (x:ButL L h h') (y:ButL L h' h''):ButL L h h'':=fun b o hb e=>y b o hb (x b o hb e)
theorem PostV.step {l':Loc} {h1:Heap} {tk:Nat} {Q:Unit→Shared→Prop} (p:PostV K c env ρ σ l' s Q) (b:ButL (frame c env) s.heap h1) (t:TupKeep s.heap h1):PostV K c env ρ σ l' { s with heap:=h1,toks:=tk } Q:=
 fun h' tk' b' lv x v t'=>p h' tk' (b.trans b') lv x v fun a vs ep e=>t' a vs ep (t a vs ep e)
theorem slot_of {p:Str×Nat} (h:slotOk c p=true):p∈c.vars∧(c.scope.names.lookup p.1=some .local∨c.scope.names.lookup p.1=some .cell):=by
 simpa [slotOk] using h
theorem storeAll_names {E:Value→Shared→Prop} (ev:EnvOK c env) (ok:c.ok=true):∀(es:List Expr) (xs:List Str) (ts:List Nat) (vs:List Value) (ds:List D) (s:Shared) (l l':Loc) (Q:Unit→Shared→Prop),K.sr ρ σ s.heap→Vars K c env s.heap ρ l→namesOf es=some xs→xs.length=ts.length→(xs.zip ts).all (slotOk c)=true→
  Reps K.H₀ s.heap ρ vs ds→ds.length=ts.length→l'=(ts.zip ds).foldl (fun l p=>l.set p.1 (some p.2)) l→PostV K c env ρ σ l' s Q→
  wpAny K.M A (assignInOrder ((assignEach es env).map (·.2)) vs) Q E s
 | [],xs,ts,vs,ds,s,l,l',Q,x,v,hn,hl,hs,r,hd,e,p=>by
  simp only[namesOf,Option.some.injEq] at hn
  subst hn
  have ht:ts=[]:=List.length_eq_zero_iff.mp hl.symm
  subst ht
  subst e
  refine PyProof.Rows.assignInOrder_nil ?_
  exact p s.heap s.toks (fun _ _ _ e=>e) (fun a ha=>(v.frameOk ev x a ha).2.2.2) x v fun _ _ _ e=>e
 |e1::es,xs,ts,vs,ds,s,l,l',Q,x,v,hn,hl,hs,r,hd,e,p=>by
  simp only[namesOf] at hn
  split at hn
  ·rename_i y ys h1 h2
   cases hn
   match ts,ds,vs,hl,hd,r with
   |t::ts,d::ds,v1::vs,hl,hd,r=>
    have hl:ys.length=ts.length:=by simpa using hl
    have hd:ds.length=ts.length:=by simpa using hd
    simp only[List.zip_cons_cons,List.all_cons,Bool.and_eq_true] at hs
    simp only[List.zip_cons_cons,List.foldl_cons] at e
    obtain⟨hm,hk⟩:=slot_of hs.1
    obtain⟨pos,rfl⟩:=nameOf_eq h1
    refine PyProof.Rows.assignInOrder_cons ?_
    refine wpAny_assign_Name (storeVar ev x v ok hm hk r.1 fun h' tk b lv x' v' t'=>?_)
    exact storeAll_names ev ok es ys ts vs ds { s with heap:=h',toks:=tk } (l.set t (some d)) l' Q x' v' h2 hl hs.2 (Reps.mono t' (fun _ _ e=>e) _ r.2) hd e (p.step b t')
   | [],_,_,hl,_,_=>simp at hl
   |_::_,[],_,_,hd,_=>simp at hd
   |_::_,_::_,[],_,_,r=>simp[Reps] at r
  ·cases hn
theorem assignEach_len (env:Env):∀(es:List Expr) (xs:List Str),namesOf es=some xs→(assignEach es env).length=xs.length∧(assignEach es env).findIdx? (·.1)=none
 | [],xs,h=>by
  simp only[namesOf,Option.some.injEq] at h
  subst h;exact⟨rfl,rfl⟩
 |e::es,xs,h=>by
  simp only[namesOf] at h
  split at h
  ·rename_i y ys h1 h2
   cases h
   obtain⟨i1,i2⟩:=assignEach_len env es ys h2
   obtain⟨pos,rfl⟩:=nameOf_eq h1
   have:assignEach (Expr.Name y pos::es) env=(false,assign (Expr.Name y pos) env)::assignEach es env:=rfl
   refine⟨by rw[this];simp[i1],by rw[this];simp[List.findIdx?_cons,i2]⟩
  ·cases h
theorem assign_ok {target:Expr} {ts:List Nat} {many:Bool} {v:Value} {d:D} {l':Loc} {Q:Unit→Shared→Prop} {E:Value→Shared→Prop} (hh:A.handled=none) (ev:EnvOK c env) (ok:c.ok=true) (x:K.sr ρ σ s.heap) (vs:Vars K c env s.heap ρ l)
  (ht:targOk c target ts many=true) (r:K.rep s.heap ρ v d) (hb:bindT ts many d l=some l') (p:PostV K c env ρ σ l' s Q):wpAny K.M A (assign target env v) Q E s:=by
 unfold targOk at ht
 split at ht
 ·rename_i xs m hto
  simp only[Bool.and_eq_true,beq_iff_eq,decide_eq_true_eq] at ht
  obtain⟨⟨rfl,hl⟩,hs⟩:=ht
  cases target<;>simp only[targetOf,reduceCtorEq,Option.some.injEq,Prod.mk.injEq,Option.map_eq_some_iff] at hto
  ·rename_i y pos
   obtain⟨rfl,rfl⟩:=hto
   match ts,hl with
   | [t],_=>
    simp only[bindT,Bool.false_eq_true,if_false,Option.some.injEq] at hb
    subst hb
    simp only[List.zip_cons_cons,List.zip_nil_right,List.all_cons,List.all_nil,Bool.and_true] at hs
    obtain⟨hm,hk⟩:=slot_of hs
    exact wpAny_assign_Name (storeVar ev x vs ok hm hk r p)
  ·rename_i es q pos
   obtain⟨ys,hn,rfl,rfl⟩:=hto
   simp only[bindT,if_true] at hb
   split at hb
   ·rename_i ds
    split at hb
    ·rename_i hdl
     cases hb
     obtain⟨t,ws,ep,rfl,g,rr⟩:=r
     obtain⟨a1,a2⟩:=assignEach_len env es ys hn
     have hw:ws.size=ds.length:=by have:=rr.length;simpa using this
     refine wpAny_assign_Tuple hh ⟨_,g,rfl,ep,rfl⟩ (by rw[a1,hl,hw,hdl]) a2 fun h' he=>?_
     have keep:∀b o,s.heap.get? b=some o→h'.get? b=some o:=fun b o e=>he b o (Nat.ne_of_lt (Heap.lt_size e)) e
     have x':=x.keeps keep
     have vs':Vars K c env h' ρ l:=vs.grow x (Grow.keeps x keep)
     exact storeAll_names ev ok es ys ts ws.toList ds { s with heap:=h' } l _ Q x' vs' hn hl hs (rr.grow x (Grow.keeps x keep)) hdl rfl (p.step (tk:=s.toks) (fun b o _ e=>keep b o e) fun _ _ _ e=>keep _ _ e)
    ·cases hb
   ·cases hb
 ·cases ht
theorem set_past (q:Nat×D):∀(r:List (Nat×D)) (l:Loc),q.1∉r.map (·.1)→r.foldl (fun l p=>l.set p.1 (some p.2)) (l.set q.1 (some q.2))=(r.foldl (fun l p=>l.set p.1 (some p.2)) l).set q.1 (some q.2)
 | [],l,_=>rfl
 |p::r,l,h=>by
  simp only[List.map_cons,List.mem_cons,not_or] at h
  simp only[List.foldl_cons]
  rw[List.set_comm _ _ h.1,set_past q r _ h.2]
theorem foldl_rev:∀(r:List (Nat×D)) (l:Loc),(r.map (·.1)).Nodup→r.reverse.foldl (fun l p=>l.set p.1 (some p.2)) l=r.foldl (fun l p=>l.set p.1 (some p.2)) l
 | [],l,_=>rfl
 |p::r,l,h=>by
  simp only[List.map_cons,List.nodup_cons] at h
  rw[List.reverse_cons,List.foldl_append,List.foldl_cons,List.foldl_nil,foldl_rev r l h.2,List.foldl_cons,set_past p r l h.1]
end
def SimI (K:Cfg) (c:Ctx) (target e:Expr) (x:X):Prop:=
 ∀env n A s ρ σ l ds src σ' (Q:Value→Shared→Prop) (E:Value→Shared→Prop),At K c env n A s ρ σ l→CallsOK K n→evI (K.C n) x l σ=some (ds,src,σ')→
  (∀it own S ρ' h' tk',Turns K A target it own src ds S→(∀b∈own,s.heap.get? b=none∧b∉ρ')→S 0 h' ρ'→srcOk src σ'=true→Grow ρ σ ρ' σ' s.heap h'→K.sr ρ' σ' h'→Q (.ref it) { s with heap:=h',toks:=tk' })→
  wpAny K.M A (eval e env) (fun v s₁=>wpAny K.M A (pyIter v) Q E s₁) E s
def isTupT:Expr→Bool
 | .Tuple ..=>true
 |_=>false
section
variable {K:Cfg} {c:Ctx} {env:Env} {n:Nat} {A:Around} {s:Shared} {ρ:List Addr} {σ:St} {l:Loc}
theorem srcOk_self {r:Nat} {o:AO} (h:σ[r]?=some o):srcOk (some (r,o.ver)) σ=true:=by
 simp only[srcOk,h]
 exact Nat.beq_refl _
theorem SimI.ix {target e:Expr} {X:Mine.X} (hx:SimE K c e X):SimI K c target e (.ix X):=
 fun env n A s ρ σ l ds src σ' Q E a hC he h=>by
  simp only[evI] at he
  split at he
  ·rename_i d σ1 h1
   split at he
   ·rename_i ds1 src1 h2
    cases he
    refine hx _ _ _ _ _ _ _ _ _ _ _ a hC h1 fun v1 ρ1 hp1 tk1 g1 x1 r1=>?_
    have hn0:=g1.fresh (size_none hp1)
    unfold iterOf at h2
    split at h2
    ·cases h2
     obtain⟨t,vs,ep,rfl,g,rr⟩:=r1
     refine wpAny_pyIter_tuple ⟨_,g,rfl,ep,rfl⟩ ?_
     have hlt:t≠hp1.objs.size:=Nat.ne_of_lt (Heap.lt_size g)
     refine h hp1.objs.size [hp1.objs.size] _ ρ1 _ _ (Turns.tup hlt) (fun b hb=>by rw[List.mem_singleton.mp hb];exact⟨hn0,x1.sizeNot⟩) ?_ rfl (g1.trans (Grow.push x1 _)) (x1.push _)
     exact⟨⟨_,Heap.get?_push_size _ rfl,rfl,rfl⟩,vs,ep,Heap.get?_push_of_some _ g,rr.push x1 _⟩
    ·rename_i r
     split at h2
     ·rename_i ds2 w0 h3
      cases h2
      obtain⟨t,rfl,gt⟩:=r1
      obtain⟨vs,ep,g,rr⟩:=SR.listAt x1 gt h3
      refine wpAny_pyIter_list ⟨_,g,rfl,ep,rfl⟩ ?_
      have hlt:t≠hp1.objs.size:=Nat.ne_of_lt (Heap.lt_size g)
      refine h hp1.objs.size [hp1.objs.size] _ ρ1 _ _ (Turns.list hlt) (fun b hb=>by rw[List.mem_singleton.mp hb];exact⟨hn0,x1.sizeNot⟩) ?_ (srcOk_self h3) (g1.trans (Grow.push x1 _)) (x1.push _)
      exact⟨⟨_,Heap.get?_push_size _ rfl,rfl,rfl⟩,gt,vs,ep,Heap.get?_push_of_some _ g,rr.push x1 _⟩
     ·rename_i es w0 h3
      cases h2
      obtain⟨t,rfl,gt⟩:=r1
      obtain⟨xs,⟨o,ens,ep,ho,hc,hd,he,his,hn⟩,hm,hr,kr⟩:=SR.dictAt x1 gt h3
      refine iter_dict (notMod a.ok x1 (List.mem_of_getElem? gt)) ho hc.1 hd ?_
      have hlt:t≠hp1.objs.size:=Nat.ne_of_lt (Heap.lt_size ho)
      have e1:(es.map fun e=>keyD e.1)=(es.map (·.1)).map keyD:=by rw[List.map_map];rfl
      rw[e1] at h
      refine h hp1.objs.size [hp1.objs.size] _ ρ1 _ _ (Turns.keys (ep:=ep) (es:=ens) hlt) (fun b hb=>by rw[List.mem_singleton.mp hb];exact⟨hn0,x1.sizeNot⟩) ?_ (srcOk_self h3) (g1.trans (Grow.push x1 _)) (x1.push _)
      exact⟨⟨_,Heap.get?_push_size _ rfl,rfl,rfl⟩,gt,⟨o,Heap.get?_push_of_some _ ho,hd,hc.1⟩,xs,he,hm,fun y hy=>(kr y hy).push x1 _⟩
     ·cases h2
    ·cases h2
   ·cases he
  ·cases he
theorem SimI.ienum {target e:Expr} {X:Mine.X} {np pos:Pos} (ht:isTupT target=true) (hg:c.scope.names.lookup ("enumerate":Str)=some .globalImplicit) (hs:notStar e=true) (hx:SimE K c e X):SimI K c target (.Call (.Name ("enumerate":Str) np) [e] [] pos) (.ienum X):=
 fun env n A s ρ σ l ds src σ' Q E a hC he h=>by
  obtain⟨elts,q,tpos,rfl⟩:∃elts q tpos,target = .Tuple elts q tpos:=by
   cases target<;>simp[isTupT] at ht
   exact⟨_,_,_,rfl⟩
  simp only[evI] at he
  split at he
  ·rename_i ds1 σ1 h1
   cases he
   refine callT1 (T:="enumerate") a hg (by decide) (by decide) (by decide) (by decide +kernel) hs (hx _ _ _ _ _ _ _ _ _ _ _ a hC h1 fun v1 ρ1 hp1 tk1 g1 x1 r1=>?_)
   have hn0:=g1.fresh (size_none hp1)
   have hn1:=g1.fresh (size_ge (h:=hp1) (a:=hp1.objs.size+1) (Nat.le_succ _))
   have hm1:hp1.objs.size+1∉ρ1:=x1.freshNot (size_ge (Nat.le_succ _))
   obtain⟨t,vs,ep,rfl,g,rr⟩:=r1
   have hlt:t<hp1.objs.size:=Heap.lt_size g
   refine call_enumTup g fun h' he hit hz hk=>?_
   refine wpAny_pyIter_enum he ?_
   refine h (hp1.objs.size+1) [hp1.objs.size+1,hp1.objs.size] _ ρ1 h' tk1 (Turns.enum (cls:="tuple") (ep:=ep) (items:=vs) (a:=t) (.inl ⟨rfl,rfl⟩) (fun A' hA=>drawsTup hA _ _ (Nat.ne_of_lt hlt) vs) (fun i hh st=>?_) (Nat.succ_ne_self _) (Nat.ne_of_gt (Nat.lt_succ_of_lt hlt)) (Nat.ne_of_gt hlt))
    (fun b hb=>?_) ⟨⟨.none,he⟩,⟨hit,⟨_,hk _ _ g,rfl,ep,rfl⟩⟩,hk _ _ g,(fun r v e=>by cases e),rr.grow x1 (Grow.keeps x1 hk)⟩ rfl (g1.trans (Grow.keeps x1 hk)) (x1.keeps hk)
   ·intro ob items n e hc hd
    obtain⟨⟨o,e1,hc1,_⟩,_⟩:=st
    rw[e1] at e;cases e
    rw[hc1] at hc;simp at hc
   ·rcases List.mem_cons.mp hb with rfl|hb
    ·exact⟨hn1,hm1⟩
    ·rw[List.mem_singleton.mp hb];exact⟨hn0,x1.sizeNot⟩
  ·rename_i r σ1 h1
   split at he
   ·rename_i ds1 w0 h3
    cases he
    refine callT1 (T:="enumerate") a hg (by decide) (by decide) (by decide) (by decide +kernel) hs (hx _ _ _ _ _ _ _ _ _ _ _ a hC h1 fun v1 ρ1 hp1 tk1 g1 x1 r1=>?_)
    have hn0:=g1.fresh (size_none hp1)
    have hn1:=g1.fresh (size_ge (h:=hp1) (a:=hp1.objs.size+1) (Nat.le_succ _))
    have hm1:hp1.objs.size+1∉ρ1:=x1.freshNot (size_ge (Nat.le_succ _))
    obtain⟨t,rfl,gt⟩:=r1
    obtain⟨vs,ep,g,rr⟩:=SR.listAt x1 gt h3
    have hlt:t<hp1.objs.size:=Heap.lt_size g
    refine call_enumerate_list ⟨_,g,rfl,ep,rfl⟩ fun h' he hit hz hk=>?_
    refine wpAny_pyIter_enum he ?_
    refine h (hp1.objs.size+1) [hp1.objs.size+1,hp1.objs.size] _ ρ1 h' tk1 (Turns.enum (cls:="list") (ep:=ep) (items:=vs) (a:=t) (.inr ⟨_,_,rfl⟩) (fun A' hA=>Draws.list hA _ _ (Nat.ne_of_lt hlt) vs) (fun i hh st=>?_) (Nat.succ_ne_self _) (Nat.ne_of_gt (Nat.lt_succ_of_lt hlt)) (Nat.ne_of_gt hlt))
     (fun b hb=>?_) ⟨⟨.none,he⟩,⟨hit,⟨_,hk _ _ g,rfl,ep,rfl⟩⟩,hk _ _ g,(fun r v e=>by cases e;exact gt),rr.grow x1 (Grow.keeps x1 hk)⟩ (srcOk_self h3) (g1.trans (Grow.keeps x1 hk)) (x1.keeps hk)
    ·intro ob items n e hc hd
     obtain⟨⟨o,e1,hc1,_⟩,_⟩:=st
     rw[e1] at e;cases e
     rw[hc1] at hc;simp at hc
    ·rcases List.mem_cons.mp hb with rfl|hb
     ·exact⟨hn1,hm1⟩
     ·rw[List.mem_singleton.mp hb];exact⟨hn0,x1.sizeNot⟩
   ·cases he
  ·cases he
theorem range_small {a b:Int} (ha:a.natAbs<LIM) (hb:b.natAbs<LIM):Builtin.Range.small a b 1=true:=by
 have ha':a.natAbs<2^20:=ha
 have hb':b.natAbs<2^20:=hb
 have e:Builtin.Range.rangeSize a b 1=((b-a).toNat:Int):=by rw[PyProof.Rows.rangeSize_nat]
 unfold Builtin.Range.small
 rw[e]
 simp[Builtin.Range.rangeFitsLong]
 omega
theorem SimI.range2 {target x y:Expr} {X Y:Mine.X} {np pos:Pos} (hg:c.scope.names.lookup ("range":Str)=some .globalImplicit) (hs:notStar x=true) (hs':notStar y=true) (hx:SimE K c x X) (hy:SimE K c y Y):SimI K c target (.Call (.Name ("range":Str) np) [x,y] [] pos) (.irange X Y):=
 fun env n A s ρ σ l ds src σ' Q E a hC he h=>by
  simp only[evI] at he
  split at he
  ·rename_i i1 σ1 h1
   split at he
   ·rename_i i2 σ2 h2
    split at he
    ·rename_i hlim
     cases he
     refine wpAny_Call_NameR (builtName a hg (by decide) (by decide) (by decide) (v:=.type "range") (by decide +kernel) ?_)
     rw[show backTo pos (starEach [x,y] env)=[(false,eval x env),(false,eval y env)] by rw[starEach_cons hs,starEach_cons hs'];rfl]
     refine PyProof.Rows.callWith_type rfl (Calls.evalArgs_plain (Calls.spliced_cons (hx _ _ _ _ _ _ _ _ _ _ _ a hC h1 fun v1 ρ1 hp1 tk1 g1 x1 r1=>?_)))
     refine Calls.spliced_cons (hy _ _ _ _ _ _ _ _ _ _ _ (a.grow g1 x1 tk1) hC h2 fun v2 ρ2 hp2 tk2 g2 x2 r2=>?_)
     refine Calls.spliced_nil ?_
     obtain⟨t,rfl⟩:=r1
     obtain⟨u,rfl⟩:=r2
     refine call_range_2 ?_
     refine wpAny_pyIter_range (Heap.get?_push_size _ rfl) (range_small hlim.1 hlim.2) ?_
     have xa:=x2.push { cls:=.type "range",data:=.fields #[.int i1 t,.int i2 u,.int 1 tk2] }
     have ga:=Grow.push x2 { cls:=.type "range",data:=.fields #[.int i1 t,.int i2 u,.int 1 tk2] }
     have gall:=(g1.trans g2).trans ga
     refine h _ [_] _ ρ2 _ _ Turns.range (fun b hb=>by rw[List.mem_singleton.mp hb];exact⟨gall.fresh (size_none _),xa.sizeNot⟩) ?_ rfl (gall.trans (Grow.push xa _)) (xa.push _)
     show IsRangeIter (Heap.push _ _) _ (i1+((0:Nat):Int)) _ 1
     have e1:i1+((0:Nat):Int)=i1:=by simp
     have e2:((i2-i1).toNat:Int)-((0:Nat):Int)=Builtin.Range.rangeSize i1 i2 1:=by rw[PyProof.Rows.rangeSize_nat];simp
     rw[e1,e2]
     exact Heap.get?_push_size _ rfl
    ·cases he
   ·cases he
  ·cases he
theorem SimI.range1 {target y:Expr} {Y:Mine.X} {np pos:Pos} (hg:c.scope.names.lookup ("range":Str)=some .globalImplicit) (hs':notStar y=true) (hy:SimE K c y Y):SimI K c target (.Call (.Name ("range":Str) np) [y] [] pos) (.irange (.lit (.int 0)) Y):=
 fun env n A s ρ σ l ds src σ' Q E a hC he h=>by
  simp only[evI,ev] at he
  split at he
  ·rename_i i2 σ2 h2
   split at he
   ·rename_i hlim
    cases he
    refine callT1 (T:="range") a hg (by decide) (by decide) (by decide) (by decide +kernel) hs' (hy _ _ _ _ _ _ _ _ _ _ _ a hC h2 fun v2 ρ2 hp2 tk2 g2 x2 r2=>?_)
    obtain⟨u,rfl⟩:=r2
    refine call_range_1 ?_
    refine wpAny_pyIter_range (Heap.get?_push_size _ rfl) (range_small hlim.1 hlim.2) ?_
    have xa:=x2.push { cls:=.type "range",data:=.fields #[.int 0 tk2,.int i2 u,.int 1 (tk2+1)] }
    have ga:=Grow.push x2 { cls:=.type "range",data:=.fields #[.int 0 tk2,.int i2 u,.int 1 (tk2+1)] }
    have gall:=g2.trans ga
    refine h _ [_] _ ρ2 _ _ Turns.range (fun b hb=>by rw[List.mem_singleton.mp hb];exact⟨gall.fresh (size_none _),xa.sizeNot⟩) ?_ rfl (gall.trans (Grow.push xa _)) (xa.push _)
    show IsRangeIter (Heap.push _ _) _ (0+((0:Nat):Int)) _ 1
    have e2:((i2-0).toNat:Int)-((0:Nat):Int)=Builtin.Range.rangeSize 0 i2 1:=by rw[PyProof.Rows.rangeSize_nat];simp
    rw[e2]
    exact Heap.get?_push_size _ rfl
   ·cases he
  ·cases he
end
section
variable (K:Cfg)
def FlRep (h:Heap) (ρ:List Addr) (f:Flow):Fl→Prop
 | .next=>f = .next
 | .cont=>f = .cont
 | .ret d=>∃v,f = .ret v∧K.rep h ρ v d
abbrev PostS (c:Ctx) (env:Env) (ρ:List Addr) (σ σ':St) (l':Loc) (fl:Fl) (s:Shared) (Q:Flow→Shared→Prop):Prop:=
 ∀f ρ' h' tk',GrowX (frame c env) ρ σ ρ' σ' s.heap h'→K.sr ρ' σ' h'→Vars K c env h' ρ' l'→FlRep K h' ρ' f fl→Q f { s with heap:=h',toks:=tk' }
def SimS1 (c:Ctx) (st:Stmt) (x:XS):Prop:=
 ∀env n A s ρ σ l fl l' σ' (Q:Flow→Shared→Prop) (E:Value→Shared→Prop),At K c env n A s ρ σ l→CallsOK K n→exS (K.C n) K.W x l σ=some (fl,l',σ')→PostS K c env ρ σ σ' l' fl s Q→wpAny K.M A (exec st env) Q E s
def SimS (c:Ctx) (sts:List Stmt) (x:XS):Prop:=
 ∀env n A s ρ σ l fl l' σ' (Q:Flow→Shared→Prop) (E:Value→Shared→Prop),At K c env n A s ρ σ l→CallsOK K n→exS (K.C n) K.W x l σ=some (fl,l',σ')→PostS K c env ρ σ σ' l' fl s Q→wpAny K.M A (execs sts env) Q E s
end
section
variable {K:Cfg} {c:Ctx} {env:Env} {n:Nat} {A:Around} {s:Shared} {ρ:List Addr} {σ:St} {l:Loc}
theorem Vars.frameNot (v:Vars K c env s.heap ρ l) (ev:EnvOK c env) (x:K.sr ρ σ s.heap):∀a∈frame c env,NotTup s.heap a:=fun a ha=>(v.frameOk ev x a ha).2.2.1
theorem At.step {ρ':List Addr} {σ₁:St} {l1:Loc} {h1:Heap} (a:At K c env n A s ρ σ l) (x:K.sr ρ' σ₁ h1) (v:Vars K c env h1 ρ' l1) (tk:Nat):At K c env n A { s with heap:=h1,toks:=tk } ρ' σ₁ l1:=⟨a.ok,a.ev,a.room,x,v⟩
theorem PostS.step {ρ1:List Addr} {σ₁ σ':St} {l':Loc} {fl:Fl} {h1:Heap} {tk:Nat} {Q:Flow→Shared→Prop} (p:PostS K c env ρ σ σ' l' fl s Q) (g:GrowX (frame c env) ρ σ ρ1 σ₁ s.heap h1):PostS K c env ρ1 σ₁ σ' l' fl { s with heap:=h1,toks:=tk } Q:=
 fun f ρ' h' tk' g' x v r=>p f ρ' h' tk' (g.trans g') x v r
theorem growX_stores {h':Heap} (ev:EnvOK c env) (x:K.sr ρ σ s.heap) (v:Vars K c env s.heap ρ l) (b:ButL (frame c env) s.heap h') (lv:∀a∈frame c env,∃o,h'.get? a=some o):GrowX (frame c env) ρ σ ρ σ s.heap h':=
 GrowX.otherL (GrowX.refl _ _ _ _) (SR.liveAll x) (fun a ha=>⟨.inr ha,(v.frameOk ev x a ha).1⟩) (fun a ha _=>lv a ha) b
theorem SimS1.fail (st:Stmt):SimS1 K c st .fail:=fun _ _ _ _ _ _ _ _ _ _ _ _ _ _ he=>by simp[exS] at he
theorem SimS.nil:SimS K c [] .nil:=fun env n A s ρ σ l fl l' σ' Q E a hC he p=>by
 simp only[exS,Option.some.injEq,Prod.mk.injEq] at he
 obtain⟨rfl,rfl,rfl⟩:=he
 exact wpAny_execs_nil (p .next ρ s.heap s.toks (GrowX.refl _ _ _ _) a.sr a.vars rfl)
theorem SimS.one {st:Stmt} {x:XS} (h:SimS1 K c st x):SimS K c [st] x:=fun env n A s ρ σ l fl l' σ' Q E a hC he p=>by
 refine wpAny_execs_cons (h _ _ _ _ _ _ _ _ _ _ _ _ a hC he fun f ρ' h' tk' g x' v r=>?_)
 have:=p f ρ' h' tk' g x' v r
 cases f<;>first|exact wpAny_execs_nil this|exact this
theorem SimS.cons {st:Stmt} {r:List Stmt} {x y:XS} (h:SimS1 K c st x) (hr:SimS K c r y):SimS K c (st::r) (.seq x y):=fun env n A s ρ σ l fl l' σ' Q E a hC he p=>by
 simp only[exS] at he
 split at he
 ·rename_i l1 σ1 h1
  refine wpAny_execs_cons (h _ _ _ _ _ _ _ _ _ _ _ _ a hC h1 fun f ρ1 hp1 tk1 g1 x1 v1 r1=>?_)
  simp only[FlRep] at r1
  subst r1
  exact hr env n A { s with heap:=hp1,toks:=tk1 } ρ1 σ1 l1 fl l' σ' Q E (a.step x1 v1 tk1) hC he (PostS.step p g1)
 ·rename_i hne
  refine wpAny_execs_cons (h _ _ _ _ _ _ _ _ _ _ _ _ a hC he fun f ρ1 hp1 tk1 g1 x1 v1 r1=>?_)
  have:=p f ρ1 hp1 tk1 g1 x1 v1 r1
  cases fl with
  |next=>exact absurd he (fun q=>hne _ _ q)
  |cont=>simp only[FlRep] at r1;subst r1;exact this
  |ret d=>obtain⟨u,rfl,_⟩:=r1;exact this
theorem SimS1.ret {e:Expr} {X:Mine.X} {pos:Pos} (hx:SimE K c e X):SimS1 K c (.Return (some e) pos) (.ret X):=fun env n A s ρ σ l fl l' σ' Q E a hC he p=>by
 simp only[exS] at he
 split at he
 ·rename_i d σ1 h1
  cases he
  exact wpAny_Return_some (hx _ _ _ _ _ _ _ _ _ _ _ a hC h1 fun v1 ρ1 hp1 tk1 g1 x1 r1=>p (.ret v1) ρ1 hp1 tk1 (.of g1) x1 (a.vars.grow a.sr g1) ⟨v1,rfl,r1⟩)
 ·cases he
theorem SimS1.cont {pos:Pos}:SimS1 K c (.Continue pos) .cont:=fun env n A s ρ σ l fl l' σ' Q E a hC he p=>by
 simp only[exS,Option.some.injEq,Prod.mk.injEq] at he
 obtain⟨rfl,rfl,rfl⟩:=he
 exact wpAny_Continue (p .cont ρ s.heap s.toks (GrowX.refl _ _ _ _) a.sr a.vars rfl)
theorem SimS1.ifs {e:Expr} {X:Mine.X} {b1 b2:List Stmt} {x y:XS} {pos:Pos} (hx:SimT K c e X) (h1:SimS K c b1 x) (h2:SimS K c b2 y):SimS1 K c (.If e b1 b2 pos) (.ifs X x y):=fun env n A s ρ σ l fl l' σ' Q E a hC he p=>by
 simp only[exS,evT] at he
 split at he
 ·rename_i σ1 q
  split at q
  ·rename_i d σ2 q1
   simp only[Option.map_eq_some_iff,Prod.mk.injEq] at q
   obtain⟨b,q2,rfl,rfl⟩:=q
   refine wpAny_If (hx _ _ _ _ _ _ _ _ _ _ _ _ a hC q1 q2 fun ρ1 hp1 tk1 g1 x1=>?_)
   exact h1 _ _ _ _ _ _ _ _ _ _ _ _ (a.grow g1 x1 tk1) hC he (PostS.step p (.of g1))
  ·cases q
 ·rename_i σ1 q
  split at q
  ·rename_i d σ2 q1
   simp only[Option.map_eq_some_iff,Prod.mk.injEq] at q
   obtain⟨b,q2,rfl,rfl⟩:=q
   refine wpAny_If (hx _ _ _ _ _ _ _ _ _ _ _ _ a hC q1 q2 fun ρ1 hp1 tk1 g1 x1=>?_)
   exact h2 _ _ _ _ _ _ _ _ _ _ _ _ (a.grow g1 x1 tk1) hC he (PostS.step p (.of g1))
  ·cases q
 ·cases he
theorem SimS1.whl {e:Expr} {X:Mine.X} {b:List Stmt} {x:XS} {pos:Pos} (hx:SimT K c e X) (hb:SimS K c b x):SimS1 K c (.While e b [] pos) (.whl X x):=fun env n A s ρ σ l fl l' σ' Q E a hC he p=>by
 simp only[exS] at he
 refine wpAny_While ?_
 refine codeAny_whileLoop (env:=env) (fun m s'=>∃ρ1 σ1 l1 h1 tk1,s'={ s with heap:=h1,toks:=tk1 }∧GrowX (frame c env) ρ σ ρ1 σ1 s.heap h1∧K.sr ρ1 σ1 h1∧Vars K c env h1 ρ1 l1∧whileGo (evT (K.C n) X) (exS (K.C n) K.W x) m l1 σ1=some (fl,l',σ')) ?_ K.W
  ⟨ρ,σ,l,s.heap,s.toks,rfl,GrowX.refl _ _ _ _,a.sr,a.vars,he⟩
 rintro m _ ⟨ρ1,σ1,l1,h1,tk1,rfl,g1,x1,v1,hw⟩
 cases m with
 |zero=>simp[whileGo] at hw
 |succ m=>
  have a1:=a.step x1 v1 tk1
  simp only[whileGo] at hw
  split at hw
  ·cases hw
  ·rename_i σ2 q
   cases hw
   simp only[evT] at q
   split at q
   ·rename_i d σ3 q1
    simp only[Option.map_eq_some_iff,Prod.mk.injEq] at q
    obtain⟨b',q2,rfl,rfl⟩:=q
    refine hx _ _ _ _ _ _ _ _ _ _ _ _ a1 hC q1 q2 fun ρ2 hp2 tk2 g2 x2=>?_
    show wpAny K.M A (execs [] env) _ _ _
    exact wpAny_execs_nil (p .next ρ2 hp2 tk2 (g1.trans (.of g2)) x2 (v1.grow x1 g2) rfl)
   ·cases q
  ·rename_i σ2 q
   simp only[evT] at q
   split at q
   ·rename_i d σ3 q1
    simp only[Option.map_eq_some_iff,Prod.mk.injEq] at q
    obtain⟨b',q2,rfl,rfl⟩:=q
    refine hx _ _ _ _ _ _ _ _ _ _ _ _ a1 hC q1 q2 fun ρ2 hp2 tk2 g2 x2=>?_
    have a2:=a1.grow g2 x2 tk2
    show wpAny K.M A (execs b env) _ _ _
    split at hw
    ·cases hw
    ·rename_i r l2 σ4 q3
     cases hw
     refine hb _ _ _ _ _ _ _ _ _ _ _ _ a2 hC q3 fun f ρ3 hp3 tk3 g3 x3 v3 r3=>?_
     have r3':=r3
     obtain⟨u,rfl,_⟩:=r3
     exact p (.ret u) ρ3 hp3 tk3 ((g1.trans (.of g2)).trans g3) x3 v3 r3'
    ·rename_i fl2 l2 σ4 hnr q3
     refine hb _ _ _ _ _ _ _ _ _ _ _ _ a2 hC q3 fun f ρ3 hp3 tk3 g3 x3 v3 r3=>?_
     have next:∃m',m'<m+1∧∃ρ1 σ1 l1 h1 tk1,({ s with heap:=hp3,toks:=tk3 }:Shared)={ s with heap:=h1,toks:=tk1 }∧GrowX (frame c env) ρ σ ρ1 σ1 s.heap h1∧K.sr ρ1 σ1 h1∧Vars K c env h1 ρ1 l1∧whileGo (evT (K.C n) X) (exS (K.C n) K.W x) m' l1 σ1=some (fl,l',σ'):=
      ⟨m,Nat.lt_succ_self _,ρ3,_,l2,hp3,tk3,rfl,(g1.trans (.of g2)).trans g3,x3,v3,hw⟩
     cases fl2 with
     |next=>simp only[FlRep] at r3;subst r3;exact next
     |cont=>simp only[FlRep] at r3;subst r3;exact next
     |ret d=>exact absurd rfl (hnr d)
   ·cases q
end
def isComp:Expr→Bool
 | .ListComp ..=>true
 | .SetComp ..=>true
 | .DictComp ..=>true
 |_=>false
theorem swaps_plain {e:Expr} (h:isComp e=false) (t:Option Expr) (ln:Nat) (env:Env):swapsWith e t ln env=pure false:=by
 cases e<;>first|rfl|simp[isComp] at h
section
variable {K:Cfg} {c:Ctx} {env:Env} {n:Nat} {A:Around} {s:Shared} {ρ:List Addr} {σ:St} {l:Loc}
theorem storeName_ok {x:Str} {i:Nat} {v:Value} {d:D} {Q:Unit→Shared→Prop} {E:Value→Shared→Prop} (ev:EnvOK c env) (xr:K.sr ρ σ s.heap) (vs:Vars K c env s.heap ρ l) (ok:c.ok=true) (hs:slotOk c (x,i)=true) (r:K.rep s.heap ρ v d)
  (h:∀h' tk,GrowX (frame c env) ρ σ ρ σ s.heap h'→K.sr ρ σ h'→Vars K c env h' ρ (l.set i (some d))→TupKeep s.heap h'→Q () { s with heap:=h',toks:=tk }):wpAny K.M A (storeName env x v) Q E s:=by
 obtain⟨hm,hk⟩:=slot_of hs
 exact storeVar ev xr vs ok hm hk r fun h' tk b lv x' v' t'=>h h' tk (growX_stores ev xr vs b lv) x' v' t'
theorem SimS1.asg {x:Str} {i:Nat} {e:Expr} {X:Mine.X} {np pos:Pos} (hx:SimE K c e X) (ok:c.ok=true) (hs:slotOk c (x,i)=true) (hc:isComp e=false):SimS1 K c (.Assign [.Name x np] e pos) (.asg i X):=fun env n A s ρ σ l fl l' σ' Q E a hC he p=>by
 simp only[exS] at he
 split at he
 ·rename_i d σ1 h1
  cases he
  refine wpAny_Assign_Name (hx _ _ _ _ _ _ _ _ _ _ _ a hC h1 fun v1 ρ1 hp1 tk1 g1 x1 r1=>?_) (swaps_plain hc _ _ _)
  exact storeName_ok a.ev x1 (a.vars.grow a.sr g1) ok hs r1 fun h' tk g x' v' _=>p .next ρ1 h' tk ((GrowX.of g1).trans g) x' v' rfl
 ·cases he
theorem SimS1.expr {e:Expr} {X:Mine.X} {pos:Pos} (hx:SimE K c e X) (hc:isComp e=false):SimS1 K c (.Expr e pos) (.expr X):=fun env n A s ρ σ l fl l' σ' Q E a hC he p=>by
 simp only[exS] at he
 split at he
 ·rename_i d σ1 h1
  cases he
  refine wpAny_Expr_any (hx _ _ _ _ _ _ _ _ _ _ _ a hC h1 fun v1 ρ1 hp1 tk1 g1 x1 r1=>?_) (by unfold interactive;rw[a.ev.kind];rfl) (swaps_plain hc _ _ _)
  exact p .next ρ1 hp1 tk1 (.of g1) x1 (a.vars.grow a.sr g1) rfl
 ·cases he
theorem setD_ok {vo vi v:Value} {o i d:D} {σ':St} {Q:Unit→Shared→Prop} {E:Value→Shared→Prop} (hu:A.units+40<cLine) (x:K.sr ρ σ s.heap) (ro:K.rep s.heap ρ vo o) (ri:K.rep s.heap ρ vi i) (rv:K.rep s.heap ρ v d)
  (e:setD σ o i d=some σ') (h:∀h' tk,Grow ρ σ ρ σ' s.heap h'→K.sr ρ σ' h'→Q () { s with heap:=h',toks:=tk }):wpAny K.M A (setItem vo vi v) Q E s:=by
 unfold setD at e
 split at e
 ·rename_i r k
  split at e
  ·rename_i ds w0 hr
   split at e
   ·rename_i hk
    cases e
    obtain⟨t,rfl,g⟩:=ro
    obtain⟨u,rfl⟩:=ri
    obtain⟨vs,ep,gl,rr⟩:=SR.listAt x g hr
    have hsz:vs.size=ds.length:=by have:=rr.length;simpa using this
    refine ki_setAt gl hk.1 (LIM_63 hk.2.1) (by rw[hsz];omega) ?_
    obtain⟨u1,u2⟩:=updList x g hr gl (fun x=>x.setIfInBounds k.toNat v) (es:=ds.set k.toNat d) (by
     rw[Array.toList_setIfInBounds]
     exact rr.set _ rv)
    exact h _ s.toks u1 u2
   ·cases e
  ·cases e
 ·rename_i r ks
  split at e
  ·rename_i es w0 k hr hk
   split at e
   ·rename_i hlim
    cases e
    obtain⟨t,rfl,g⟩:=ro
    obtain⟨u,ws,ep,rfl,g',r'⟩:=ri
    have dx:=SR.dictAt x g hr
    refine setItem_ok (by omega) dx (keyRep_of ⟨u,ws,ep,rfl,g',r'⟩ hk) rv hlim fun h' tk hs dx'=>?_
    obtain⟨u1,u2⟩:=updDict x g hr hs dx'
    exact h h' tk u1 u2
   ·cases e
  ·cases e
 ·cases e
theorem SimS1.set {o k e:Expr} {O I X:Mine.X} {tp pos:Pos} (ho:SimE K c o O) (hk:SimE K c k I) (hx:SimE K c e X) (hc:isComp e=false):SimS1 K c (.Assign [.Subscript o k tp] e pos) (.set O I X):=fun env n A s ρ σ l fl l' σ' Q E a hC he p=>by
 simp only[exS] at he
 split at he
 ·rename_i xd σ1 h1
  split at he
  ·rename_i od σ2 h2
   split at he
   ·rename_i kd σ3 h3
    split at he
    ·rename_i σ4 h4
     cases he
     refine wpAny_Assign_Subscript (hx _ _ _ _ _ _ _ _ _ _ _ a hC h1 fun v1 ρ1 hp1 tk1 g1 x1 r1=>?_) (swaps_plain hc _ _ _)
     refine ho _ _ _ _ _ _ _ _ _ _ _ (a.grow g1 x1 tk1) hC h2 fun v2 ρ2 hp2 tk2 g2 x2 r2=>?_
     refine hk _ _ _ _ _ _ _ _ _ _ _ (a.grow (g1.trans g2) x2 tk2) hC h3 fun v3 ρ3 hp3 tk3 g3 x3 r3=>?_
     refine setD_ok a.room.u x3 (r2.grow x2 g3) r3 ((r1.grow x1 g2).grow x2 g3) h4 fun h' tk g4 x4=>?_
     have gall:=((g1.trans g2).trans g3).trans g4
     exact p .next ρ3 h' tk (.of gall) x4 (a.vars.grow a.sr gall) rfl
    ·cases he
   ·cases he
  ·cases he
 ·cases he
theorem SimS1.aug {o k e:Expr} {O I X:Mine.X} {tp pos:Pos} (ho:SimE K c o O) (hk:SimE K c k I) (hx:SimE K c e X) (hsl:isSlice k=false):SimS1 K c (.AugAssign (.Subscript o k tp) .Add e pos) (.aug O I .add X):=fun env n A s ρ σ l fl l' σ' Q E a hC he p=>by
 simp only[exS] at he
 split at he
 ·rename_i od σ1 h1
  split at he
  ·rename_i kd σ2 h2
   split at he
   ·rename_i old h3
    split at he
    ·rename_i y σ3 h4
     simp only[binD] at he
     split at he
     ·rename_i σ5 h5
      cases he
      refine wpAny_AugAssign_SubscriptAny (ho _ _ _ _ _ _ _ _ _ _ _ a hC h1 fun v1 ρ1 hp1 tk1 g1 x1 r1=>?_) (fun ov iv new=>by cases k<;>first|rfl|simp[isSlice] at hsl)
      refine hk _ _ _ _ _ _ _ _ _ _ _ (a.grow g1 x1 tk1) hC h2 fun v2 ρ2 hp2 tk2 g2 x2 r2=>?_
      refine(idx_ok (A:=A) (s:={ s with heap:=hp2,toks:=tk2 }) a.ok x2 a.room.u (r1.grow x1 g2) r2 h3 fun v tk rv=>?_).1
      obtain⟨t,rfl⟩:=rv
      refine hx _ _ _ _ _ _ _ _ _ _ _ (a.grow (g1.trans g2) x2 tk) hC h4 fun v3 ρ3 hp3 tk3 g3 x3 r3=>?_
      obtain⟨u,rfl⟩:=r3
      refine P.iadd_int ?_
      refine setD_ok (d:=D.int (old+y)) a.room.u x3 ((r1.grow x1 g2).grow x2 g3) (r2.grow x2 g3) ⟨_,rfl⟩ h5 fun h' tk' g4 x4=>?_
      have gall:=((g1.trans g2).trans g3).trans g4
      exact p .next ρ3 h' tk' (.of gall) x4 (a.vars.grow a.sr gall) rfl
     ·cases he
    ·cases he
   ·cases he
  ·cases he
 ·cases he
def swapSafe:Expr→Bool
 | .Tuple vs _ _=>!(vs.all (constantsAlone 8)) || vs.all (foldedForSure 8)
 |_=>true
theorem filterMap_names (f:Expr→Option Str) (hf:∀e x,f e=some x→nameOf e=some x):∀ts:List Expr,(ts.filterMap f).length=ts.length→namesOf ts=some (ts.filterMap f)
 | [],_=>rfl
 |t::ts,h=>by
  cases e:f t with
  |none=>
   rw[List.filterMap_cons_none e] at h
   have:=List.length_filterMap_le f ts
   simp at h;omega
  |some x=>
   rw[List.filterMap_cons_some e] at h ⊢
   have:=filterMap_names f hf ts (by simpa using h)
   simp only[namesOf,hf t x e,this]
theorem swapped_cases {ts:List Expr} {q:Nat} {tp:Pos} {value:Expr} (hv:swapSafe value=true) (env:Env) :
  swappedStores [.Tuple ts q tp] value env=pure none∨∃names,namesOf ts=some names∧swappedStores [.Tuple ts q tp] value env=pure (some names):=by
 unfold swappedStores
 cases value<;>first|exact .inl rfl|skip
 rename_i vs q' vp
 dsimp only
 split
 ·exact .inl rfl
 split
 ·exact .inl rfl
 split
 ·exact .inl rfl
 rename_i hnl
 split
 ·exact .inl rfl
 rename_i hf
 split
 ·rename_i hc
  simp only[swapSafe,Bool.or_eq_true,Bool.not_eq_true'] at hv
  rcases hv with hv|hv
  ·rw[hv] at hc;cases hc
  ·exact absurd hv hf
 ·refine .inr ⟨_,filterMap_names _ (fun e x h=>?_) ts ?_,rfl⟩
  ·cases e<;>simp only[reduceCtorEq] at h
   split at h
   ·simpa [nameOf] using h
   ·cases h
  ·simp only[Bool.or_eq_true,bne_iff_ne,ne_eq,not_or,Decidable.not_not] at hnl
   exact hnl.1
end
section
variable {K:Cfg} {c:Ctx} {env:Env} {n:Nat} {A:Around} {s:Shared} {ρ:List Addr} {σ:St} {l:Loc}
theorem storeAll_bind {E:Value→Shared→Prop} (ev:EnvOK c env) (ok:c.ok=true):∀(xs:List Str) (ts:List Nat) (vs:List Value) (ds:List D) (s:Shared) (l l':Loc) (Q:Unit→Shared→Prop),K.sr ρ σ s.heap→Vars K c env s.heap ρ l→xs.length=ts.length→(xs.zip ts).all (slotOk c)=true→
  Reps K.H₀ s.heap ρ vs ds→ds.length=ts.length→l'=(ts.zip ds).foldl (fun l p=>l.set p.1 (some p.2)) l→PostV K c env ρ σ l' s Q→
  wpAny K.M A (assignInOrder (xs.map fun x=>bindName env x) vs) Q E s
 | [],ts,vs,ds,s,l,l',Q,x,v,hl,hs,r,hd,e,p=>by
  have ht:ts=[]:=List.length_eq_zero_iff.mp hl.symm
  subst ht
  subst e
  refine PyProof.Rows.assignInOrder_nil ?_
  exact p s.heap s.toks (fun _ _ _ e=>e) (fun a ha=>(v.frameOk ev x a ha).2.2.2) x v fun _ _ _ e=>e
 |y::ys,ts,vs,ds,s,l,l',Q,x,v,hl,hs,r,hd,e,p=>by
  match ts,ds,vs,hl,hd,r with
  |t::ts,d::ds,v1::vs,hl,hd,r=>
   have hl:ys.length=ts.length:=by simpa using hl
   have hd:ds.length=ts.length:=by simpa using hd
   simp only[List.zip_cons_cons,List.all_cons,Bool.and_eq_true] at hs
   simp only[List.zip_cons_cons,List.foldl_cons] at e
   obtain⟨hm,hk⟩:=slot_of hs.1
   refine PyProof.Rows.assignInOrder_cons ?_
   refine wpAny_bindName (storeVar ev x v ok hm hk r.1 fun h' tk b lv x' v' t'=>?_)
   exact storeAll_bind ev ok ys ts vs ds { s with heap:=h',toks:=tk } (l.set t (some d)) l' Q x' v' hl hs.2 (Reps.mono t' (fun _ _ e=>e) _ r.2) hd e (p.step b t')
  | [],_,_,hl,_,_=>simp at hl
  |_::_,[],_,_,hd,_=>simp at hd
  |_::_,_::_,[],_,_,r=>simp[Reps] at r
theorem Reps.rev {h:Heap}:∀{vs:List Value} {ds:List D},Reps K.H₀ h ρ vs ds→Reps K.H₀ h ρ vs.reverse ds.reverse
 | [],[],_=>trivial
 |v::vs,d::ds,r=>by
  simp only[Reps] at r
  rw[List.reverse_cons,List.reverse_cons]
  exact(Reps.rev r.2).append ⟨r.1,trivial⟩
 | [],_::_,r=>by simp[Reps] at r
 |_::_,[],r=>by simp[Reps] at r
theorem zip_rev {α β:Type}:∀{xs:List α} {ys:List β},xs.length=ys.length→xs.reverse.zip ys.reverse=(xs.zip ys).reverse
 | [],[],_=>rfl
 |x::xs,y::ys,h=>by
  have h':xs.length=ys.length:=by simpa using h
  rw[List.reverse_cons,List.reverse_cons,List.zip_cons_cons,List.reverse_cons,List.zip_append (by simpa using h'),zip_rev h']
  rfl
 | [],_::_,h=>by simp at h
 |_::_,[],h=>by simp at h
theorem map_fst_zip {α β:Type}:∀{xs:List α} {ys:List β},xs.length=ys.length→(xs.zip ys).map (·.1)=xs
 | [],[],_=>rfl
 |x::xs,y::ys,h=>by simp only[List.zip_cons_cons,List.map_cons,map_fst_zip (show xs.length=ys.length by simpa using h)]
 | [],_::_,h=>by simp at h
 |_::_,[],h=>by simp at h
theorem SimS1.asgT {es:List Expr} {q:Nat} {tp:Pos} {e:Expr} {X:Mine.X} {is:List Nat} {pos:Pos} (hx:SimE K c e X) (ok:c.ok=true) (ht:targOk c (.Tuple es q tp) is true=true) (hn:is.Nodup) (hc:isComp e=false) (hsw:swapSafe e=true):SimS1 K c (.Assign [.Tuple es q tp] e pos) (.asgT is X):=fun env n A s ρ σ l fl l' σ' Q E a hC he p=>by
 simp only[exS] at he
 split at he
 ·rename_i d σ1 h1
  split at he
  ·rename_i l1 hb
   cases he
   have hs0:swapsWithSole [.Tuple es q tp] e pos.line env=pure false:=swaps_plain hc (some (.Tuple es q tp)) pos.line env
   rcases swapped_cases (ts:=es) (q:=q) (tp:=tp) hsw env with hw | ⟨names,hnm,hw⟩
   ·refine wpAny_Assign_stores (hx _ _ _ _ _ _ _ _ _ _ _ a hC h1 fun v1 ρ1 hp1 tk1 g1 x1 r1=>?_) hs0 hw
    show wpAny K.M A (assign (.Tuple es q tp) env v1) _ _ _
    have a1:=a.grow g1 x1 tk1
    exact assign_ok a.room.handled a.ev ok x1 a1.vars ht r1 hb fun h' tk b lv x' v' _=>p .next ρ1 h' tk ((GrowX.of g1).trans (growX_stores (s:={ s with heap:=hp1,toks:=tk1 }) a.ev x1 a1.vars b lv)) x' v' rfl
   ·rw[exec_Assign_arm]
    refine wpAny_bind (wpAny_standAt ?_)
    rw[hs0]
    refine wpAny_bind (wpAny_pure ?_)
    rw[if_neg (by decide)]
    refine wpAny_bind (hx _ _ _ _ _ _ _ _ _ _ _ a hC h1 fun v1 ρ1 hp1 tk1 g1 x1 r1=>?_)
    rw[hw]
    refine wpAny_bind (wpAny_pure ?_)
    have a1:=a.grow g1 x1 tk1
    simp only[targOk,targetOf,hnm,Option.map_some,Bool.and_eq_true,decide_eq_true_eq] at ht
    obtain⟨⟨_,hl⟩,hall⟩:=ht
    simp only[bindT,if_true] at hb
    split at hb
    ·rename_i ds
     split at hb
     ·rename_i hdl
      cases hb
      obtain⟨t,ws,ep,rfl,g,rr⟩:=r1
      have hw2:ws.size=names.length:=by
       have:=rr.length
       simp at this;omega
      show wpAny K.M A (rule "assign.swapped-stores" >>= fun _=>unpackItems (.ref t) names.length none >>= fun items=>assignInOrder (names.reverse.map fun n=>bindName env n) items.reverse >>= fun _=>(pure Flow.next:Sem Flow)) _ _ _
      refine wpAny_bind (wpAny_rule ?_)
      rw[←hw2]
      refine wpAny_bind (wpAny_unpackItems_tuple a.room.handled ⟨_,g,rfl,ep,rfl⟩ fun h' hee=>?_)
      have keep:∀b o,hp1.get? b=some o→h'.get? b=some o:=fun b o e=>hee b o (Nat.ne_of_lt (Heap.lt_size e)) e
      have x':=x1.keeps keep
      have gk:=Grow.keeps x1 keep
      have v':Vars K c env h' ρ1 l:=a1.vars.grow x1 gk
      have hzl:(is.zip ds).map (·.1)=is:=map_fst_zip (by omega)
      refine wpAny_bind (storeAll_bind a.ev ok names.reverse is.reverse ws.toList.reverse ds.reverse { s with heap:=h',toks:=tk1 } l _ _ x' v' (by simp[hl]) (by rw[zip_rev hl,List.all_reverse];exact hall) ((rr.grow x1 gk).rev) (by simp[hdl])
       (by rw[zip_rev (by omega),foldl_rev _ _ (by rw[hzl];exact hn)]) fun h2 tk2 b lv x2 v2 _=>?_)
      exact wpAny_pure (p .next ρ1 h2 tk2 ((GrowX.of (g1.trans gk)).trans (growX_stores (s:={ s with heap:=h',toks:=tk1 }) a.ev x' v' b lv)) x2 v2 rfl)
     ·cases hb
    ·cases hb
  ·cases he
 ·cases he
theorem Vars.otherL {h h':Heap} {L:List Addr} (v:Vars K c env h ρ l) (hs:ButL L h h') (hL:env.locals∉L) (hc:∀p∈c.vars,∀b,env.cells.lookup p.1=some b→(env.kindOf p.1=some .cell∨env.kindOf p.1=some .free)→b∉L) (hn:∀a∈L,NotTup h a):Vars K c env h' ρ l where
 ns:=let ⟨m,o,es,ep,e,r⟩:=v.ns;⟨m,o,es,ep,hs _ _ hL e,r⟩
 apart:=v.apart
 inj:=v.inj
 base:=v.base
 rest:=v.rest
 at_:=fun p hp=>by
  have tk:=tupKeep_otherL hs hn
  rcases v.at_ p hp with⟨q1,m0,⟨o,es,ep,e,r⟩,q3⟩ | ⟨q1,b,ov',q2,⟨o,e,dd⟩,q4⟩
  ·exact .inl ⟨q1,m0,⟨o,es,ep,hs _ _ hL e,r⟩,fun d' hd'=>let ⟨u,e1,e2⟩:=q3 d' hd';⟨u,e1,Rep.mono tk (fun _ _ e=>e) _ e2⟩⟩
  ·exact .inr ⟨q1,b,ov',q2,⟨o,hs _ _ (hc p hp b q2 q1) e,dd⟩,fun d' hd'=>let ⟨u,e1,e2⟩:=q4 d' hd';⟨u,e1,Rep.mono tk (fun _ _ e=>e) _ e2⟩⟩
theorem Vars.cellsLive {h:Heap} (v:Vars K c env h ρ l):∀p∈c.vars,∀b,env.cells.lookup p.1=some b→(env.kindOf p.1=some .cell∨env.kindOf p.1=some .free)→∃o,h.get? b=some o:=fun p hp b hb hk=>by
 rcases v.at_ p hp with⟨q1,_⟩ | ⟨_,b',ov',q2,⟨o,e,dd⟩,_⟩
 ·rcases hk with hk|hk<;>rw[q1] at hk<;>cases hk
 ·rw[hb] at q2;cases q2;exact⟨o,e⟩
theorem drop_get {α:Type} {ds:List α} {i:Nat} {d:α} {r:List α} (h:ds.drop i=d::r):ds[i]?=some d∧ds.drop (i+1)=r:=by
 have h1:(ds.drop i)[0]?=some d:=by rw[h];rfl
 rw[List.getElem?_drop] at h1
 refine⟨by simpa using h1,?_⟩
 rw[←List.drop_drop,h];rfl
theorem srcOk_ver {src:Src} {σ σ':St} {r v:Nat} (e:src=some (r,v)) (h:srcOk src σ=true) (h':srcOk src σ'=true):∃o o',σ[r]?=some o∧σ'[r]?=some o'∧o.ver=o'.ver:=by
 subst e
 simp only[srcOk] at h h'
 split at h
 ·rename_i o e
  split at h'
  ·rename_i o' e'
   exact⟨o,o',e,e',(Nat.eq_of_beq_eq_true h).trans (Nat.eq_of_beq_eq_true h').symm⟩
  ·cases h'
 ·cases h
theorem SimS1.for_ {target it:Expr} {b:List Stmt} {ts:List Nat} {many:Bool} {I:Mine.X} {x:XS} {pos:Pos} (hi:SimI K c target it I) (ok:c.ok=true) (ht:targOk c target ts many=true) (hb:SimS K c b x) (hs:∀env v,foldedSetIterable it env v=pure v) :
  SimS1 K c (.For target it b [] pos) (.for_ ts many I x):=fun env n A s ρ σ l fl l' σ' Q E a hC he p=>by
 simp only[exS] at he
 split at he
 ·rename_i ds src σ1 h1
  refine wpAny_For (hi _ _ _ _ _ _ _ _ _ _ _ _ a hC h1 fun itA own S ρ1 hp1 tk1 T fresh st sok g1 x1=>?_) (hs env)
  have v1:=a.vars.grow a.sr g1
  have frameLive:∀b∈frame c env,∃o,s.heap.get? b=some o:=fun b hb=>(a.vars.frameOk a.ev a.sr b hb).2.2.2
  have ownF:∀b∈own,b∉frame c env:=fun b hb hf=>by
   obtain⟨o,e⟩:=frameLive b hf
   rw[(fresh b hb).1] at e;cases e
  have ownC:∀p∈c.vars,∀b,env.cells.lookup p.1=some b→(env.kindOf p.1=some .cell∨env.kindOf p.1=some .free)→b∉own:=fun p hp b hb hk ho=>by
   obtain⟨o,e⟩:=a.vars.cellsLive p hp b hb hk
   rw[(fresh b ho).1] at e;cases e
  have ownL:env.locals∉own:=fun ho=>ownF _ ho (List.mem_cons_self ..)
  refine codeAny_forLoop_any (env:=env) (fun m s'=>∃i ρ2 σ2 l2 h2 tk2,s'={ s with heap:=h2,toks:=tk2 }∧m+i=ds.length+1∧i≤ds.length∧S i h2 ρ2∧srcOk src σ2=true∧GrowX (frame c env) ρ σ ρ2 σ2 s.heap h2∧K.sr ρ2 σ2 h2∧Vars K c env h2 ρ2 l2∧(∀b∈own,b∉ρ2)∧
   forGo (bindT ts many) (exS (K.C n) K.W x) src (ds.drop i) l2 σ2=some (fl,l',σ')) ?_ (ds.length+1)
   ⟨0,ρ1,σ1,l,hp1,tk1,rfl,rfl,Nat.zero_le _,st,sok,.of g1,x1,v1,fun b hb=>(fresh b hb).2,by rw[List.drop_zero];exact he⟩
  rintro m _ ⟨i,ρ2,σ2,l2,h2,tk2,rfl,hm,hile,st2,sok2,g2,x2,v2,own2,hgo⟩
  have ownL2:∀a∈own,a∉ρ2∧K.H₀.get? a=none∧NotTup h2 a:=fun b hb=>⟨own2 b hb,a.sr.freshBase (fresh b hb).1,T.notTup _ _ _ st2 b hb⟩
  cases hd:ds.drop i with
  |nil=>
   rw[hd] at hgo
   simp only[forGo,Option.some.injEq,Prod.mk.injEq] at hgo
   obtain⟨rfl,rfl,rfl⟩:=hgo
   have hi':i=ds.length:=by
    have:=List.drop_eq_nil_iff.mp hd
    omega
   subst hi'
   refine T.done { s with heap:=h2,toks:=tk2 } ρ2 _ _ a.room.handled st2 fun h3 tk3 b3=>?_
   refine wpAny_execs_nil ?_
   have g3:GrowX (frame c env) ρ σ ρ2 σ2 s.heap h3:=g2.otherL (SR.liveAll x2) (fun b hb=>⟨.inl (fresh b hb).1,own2 b hb⟩) (fun b hb hX=>absurd hX (ownF b hb)) b3
   exact p .next ρ2 h3 tk3 g3 (x2.otherL b3 ownL2) (v2.otherL b3 ownL ownC fun b hb=>(ownL2 b hb).2.2) rfl
  |cons d r=>
   obtain⟨hdi,hdr⟩:=drop_get hd
   have hil:i<ds.length:=(List.getElem?_eq_some_iff.mp hdi).1
   rw[hd] at hgo
   simp only[forGo] at hgo
   split at hgo
   ·cases hgo
   ·rename_i l3 hbind
    refine wpAny_mono (T.next i d { s with heap:=h2,toks:=tk2 } ρ2 (fun _=>False) ?Q _ ?E2 a.room.handled hdi st2 ?main) ?conv fun _ _ e=>e
    case conv=>
     intro r s1 hr
     cases r with
     |none=>exact hr.elim
     |some v=>exact hr
    intro v h3 tk3 b3 r3 st3
    have x3:K.sr ρ2 σ2 h3:=x2.otherL b3 ownL2
    have v3:Vars K c env h3 ρ2 l2:=v2.otherL b3 ownL ownC fun b hb=>(ownL2 b hb).2.2
    have g3:GrowX (frame c env) ρ σ ρ2 σ2 s.heap h3:=g2.otherL (SR.liveAll x2) (fun b hb=>⟨.inl (fresh b hb).1,own2 b hb⟩) (fun b hb hX=>absurd hX (ownF b hb)) b3
    refine assign_ok (s:={ s with heap:=h3,toks:=tk3 }) a.room.handled a.ev ok x3 v3 ht r3 hbind fun h4 tk4 b4 lv4 x4 v4 t4=>?_
    have g34:GrowX (frame c env) ρ2 σ2 ρ2 σ2 h3 h4:=growX_stores (s:={ s with heap:=h3,toks:=tk3 }) a.ev x3 v3 b4 lv4
    have a4:At K c env n A { s with heap:=h4,toks:=tk4 } ρ2 σ2 l3:=⟨a.ok,a.ev,a.room,x4,v4⟩
    split at hgo
    ·cases hgo
    ·rename_i rd l5 σ5 q5
     cases hgo
     refine hb _ _ _ _ _ _ _ _ _ _ _ _ a4 hC q5 fun f ρ5 h5 tk5 g5 x5 v5 r5=>?_
     have r5':=r5
     obtain⟨u,rfl,_⟩:=r5
     exact p (.ret u) ρ5 h5 tk5 ((g3.trans g34).trans g5) x5 v5 r5'
    ·rename_i fl5 l5 σ5 hnr q5
     split at hgo
     ·rename_i sok5
      refine hb _ _ _ _ _ _ _ _ _ _ _ _ a4 hC q5 fun f ρ5 h5 tk5 g5 x5 v5 r5=>?_
      have fr4:=Vars.frameOk (s:={ s with heap:=h4,toks:=tk4 }) a4.ev x4 v4
      have st5:S (i+1) h5 ρ5:=by
       refine T.keep (i+1) h3 ρ2 h5 ρ5 st3 (fun b hb o eb=>?_) (fun r' v' a' es er=>?_) (fun b vs ep e=>?_) (fun k b e=>g5.get e)
       ·have e4:=b4 b o (ownF b hb) eb
        exact g5.ext b o e4 (own2 b hb) (ownF b hb)
       ·obtain⟨o,o',e1,e2,e3⟩:=srcOk_ver es sok2 sok5
        have ha':a'∈ρ2:=List.mem_of_getElem? er
        have hnf:a'∉frame c env:=fun hf=>(fr4 a' hf).1 ha'
        have:=g5.same r' a' o o' er hnf e1 e2 e3
        rw[this]
        obtain⟨ob,eb⟩:=SR.liveAll x3 a' ha'
        rw[eb]
        exact b4 a' ob hnf eb
       ·exact g5.tupKeep x4 (fun b hb=>(fr4 b hb).2.2.1) b vs ep (t4 b vs ep e)
      have next:∃m',m'<m∧∃i ρ2 σ2 l2 h2 tk2,({ s with heap:=h5,toks:=tk5 }:Shared)={ s with heap:=h2,toks:=tk2 }∧m'+i=ds.length+1∧i≤ds.length∧S i h2 ρ2∧srcOk src σ2=true∧GrowX (frame c env) ρ σ ρ2 σ2 s.heap h2∧K.sr ρ2 σ2 h2∧Vars K c env h2 ρ2 l2∧(∀b∈own,b∉ρ2)∧
        forGo (bindT ts many) (exS (K.C n) K.W x) src (ds.drop i) l2 σ2=some (fl,l',σ'):=
       ⟨ds.length-i,by omega,i+1,ρ5,σ5,l5,h5,tk5,rfl,by omega,hil,st5,sok5,(g3.trans g34).trans g5,x5,v5,fun b hb=>by
        obtain⟨o,e⟩:=T.live _ _ _ st3 b hb
        have e4:=b4 b o (ownF b hb) e
        exact g5.notIn (own2 b hb) e4,by rw[hdr];exact hgo⟩
      cases fl5 with
      |next=>simp only[FlRep] at r5;subst r5;exact next
      |cont=>simp only[FlRep] at r5;subst r5;exact next
      |ret d=>exact absurd rfl (hnr d)
     ·cases hgo
 ·cases he
end
def compCtx (c:Ctx) (scope:Scope) (names:List Str) (ts:List Nat) (next:Nat):Ctx:=
 { scope:=scope,vars:=names.zip ts++c.vars.filter (fun p=>decide (scope.names.lookup p.1=some .free)),next:=next }
def scopeOk (c:Ctx) (scope:Scope) (names:List Str) (ts:List Nat) (next:Nat):Bool:=
 decide (scope.kind = .function)&&scope.names.all (fun y=>decide (y.2≠.cell))&&scope.names.all (fun y=>decide (y.2 = .local→scope.names.lookup y.1=some .local)) &&
 scope.names.all (fun y=>decide (y.2 = .free→(y.1∈c.vars.map (·.1))∧(c.scope.names.lookup y.1=some .cell∨c.scope.names.lookup y.1=some .free))) &&
 (compCtx c scope names ts next).ok&&decide (names.length=ts.length)&&ts.all (fun t=>decide (c.next≤t))&&decide (c.next≤next) &&
 names.all (fun x=>decide (scope.names.lookup x=some .local))
section
variable {prog:Program} {w:World} {A:Around} {E:Value→Shared→Prop} {s:Shared}
theorem clos_go {env:Env}:∀(names:List (Str×NameKind)) (acc:List (Str×Addr)),(∀y∈names,y.2 = .free→∃a,env.cells.lookup y.1=some a)→
  ∃cl,(forIn names acc fun(x:Str×NameKind) (cs:List (Str×Addr))=>(if (x.2==.free)=true then do let a←cellOf env x.1;pure (ForInStep.yield ((x.1,a)::cs)) else pure (ForInStep.yield cs):Sem (ForInStep (List (Str×Addr)))))=pure cl∧
   (∀q∈cl,q∈acc∨(env.cells.lookup q.1=some q.2∧(q.1,NameKind.free)∈names))∧(∀q∈acc,q∈cl)∧∀y∈names,y.2 = .free→∃a,(y.1,a)∈cl
 | [],acc,_=>⟨acc,by rw[List.forIn_nil],fun q hq=>.inl hq,fun q hq=>hq,fun y hy=>by simp at hy⟩
 |(x,k)::r,acc,h=>by
  by_cases hk:k = .free
  ·obtain⟨a,ha⟩:=h (x,k) (List.mem_cons_self ..) hk
   obtain⟨cl,h1,h2,h3,h4⟩:=clos_go r ((x,a)::acc) fun y hy=>h y (List.mem_cons_of_mem _ hy)
   refine⟨cl,?_,fun q hq=>?_,fun q hq=>h3 q (List.mem_cons_of_mem _ hq),fun y hy hf=>?_⟩
   ·rw[List.forIn_cons]
    have e1:(k==NameKind.free)=true:=by simp[hk]
    have e2:cellOf env x=pure a:=by unfold cellOf;rw[ha]
    simp only[e1,if_true,e2,pure_bind]
    exact h1
   ·rcases h2 q hq with h|h
    ·rcases List.mem_cons.mp h with rfl|h
     ·exact .inr ⟨ha,by rw[hk];exact List.mem_cons_self ..⟩
     ·exact .inl h
    ·exact .inr ⟨h.1,List.mem_cons_of_mem _ h.2⟩
   ·rcases List.mem_cons.mp hy with rfl|hy
    ·exact⟨a,h3 _ (List.mem_cons_self ..)⟩
    ·exact h4 y hy hf
  ·obtain⟨cl,h1,h2,h3,h4⟩:=clos_go r acc fun y hy=>h y (List.mem_cons_of_mem _ hy)
   refine⟨cl,?_,fun q hq=>(h2 q hq).imp id fun h=>⟨h.1,List.mem_cons_of_mem _ h.2⟩,h3,fun y hy hf=>?_⟩
   ·rw[List.forIn_cons]
    have e1:(k==NameKind.free)=false:=by simp[hk]
    simp only[e1,Bool.false_eq_true,if_false,pure_bind]
    exact h1
   ·rcases List.mem_cons.mp hy with rfl|hy
    ·exact absurd hf hk
    ·exact h4 y hy hf
theorem closure_ok {scope:Scope} {env:Env} (h:∀y∈scope.names,y.2 = .free→∃a,env.cells.lookup y.1=some a) :
  ∃cl,closureFor scope env=pure cl∧(∀x,(x,NameKind.free)∈scope.names→∃a,cl.lookup x=some a∧env.cells.lookup x=some a)∧∀x a,cl.lookup x=some a→env.cells.lookup x=some a∧(x,NameKind.free)∈scope.names:=by
 obtain⟨cl,h1,h2,h3,h4⟩:=clos_go (env:=env) scope.names [] h
 have key:∀x a,cl.lookup x=some a→env.cells.lookup x=some a∧(x,NameKind.free)∈scope.names:=fun x a hl=>by
  obtain⟨l1,l2,rfl,_⟩:=List.lookup_eq_some_iff.mp hl
  rcases h2 (x,a) (by simp) with h|h
  ·simp at h
  ·exact h
 refine⟨cl,?_,fun x hx=>?_,key⟩
 ·have:closureFor scope env=(forIn scope.names [] fun(x:Str×NameKind) (cs:List (Str×Addr))=>(if (x.2==.free)=true then do let a←cellOf env x.1;pure (ForInStep.yield ((x.1,a)::cs)) else pure (ForInStep.yield cs):Sem (ForInStep (List (Str×Addr))))) >>= fun cs=>pure cs:=rfl
  rw[this,h1,pure_bind]
 ·obtain⟨a,ha⟩:=h4 _ hx rfl
  cases hl:cl.lookup x with
  |none=>
   rw[List.lookup_eq_none_iff] at hl
   have:=hl _ ha
   simp at this
  |some b=>exact⟨b,rfl,(key x b hl).1⟩
theorem lookup_mem {α β:Type} [BEq α] [LawfulBEq α] {xs:List (α×β)} {x:α} {y:β} (h:xs.lookup x=some y):(x,y)∈xs:=by
 obtain⟨l1,l2,rfl,_⟩:=List.lookup_eq_some_iff.mp h
 simp
theorem relabel_lookup {env:Env}:∀(names:List (Str×NameKind)) {x:Str} {k:NameKind},names.lookup x=some k→
  (names.map fun(n,k)=>if (k==NameKind.free&&env.scope.kind==.function&&env.kindOf n==some .cell) then (n,NameKind.cell) else (n,k)).lookup x=some k∨
  (k = .free∧(names.map fun(n,k)=>if (k==NameKind.free&&env.scope.kind==.function&&env.kindOf n==some .cell) then (n,NameKind.cell) else (n,k)).lookup x=some .cell)
 | [],_,_,h=>by simp at h
 |(n,k')::r,x,k,h=>by
  simp only[List.map_cons]
  cases hx:x==n with
  |true=>
   simp only[List.lookup_cons,hx,Option.some.injEq] at h
   subst h
   by_cases hc:(k'==NameKind.free&&env.scope.kind==.function&&env.kindOf n==some .cell)=true
   ·rw[if_pos hc]
    simp only[List.lookup_cons,hx]
    simp only[Bool.and_eq_true,beq_iff_eq] at hc
    exact .inr ⟨hc.1.1,by simp⟩
   ·rw[if_neg hc]
    simp only[List.lookup_cons,hx]
    exact .inl trivial
  |false=>
   simp only[List.lookup_cons,hx] at h
   have ih:=relabel_lookup r h (env:=env)
   by_cases hc:(k'==NameKind.free&&env.scope.kind==.function&&env.kindOf n==some .cell)=true
   ·rw[if_pos hc];simp only[List.lookup_cons,hx];exact ih
   ·rw[if_neg hc];simp only[List.lookup_cons,hx];exact ih
variable {R:Result→Shared→Prop}
theorem compLoop_list {elt target iter:Expr} {ifs:List Expr} {scope:Scope} {pos:Pos} {it acc:Value} {env:Env} (I:Nat→Shared→Prop)
  (turn:∀n s,I n s→wpAny (model prog w) A (pyNext it) (fun r s₁=>match r with
   |none=>R (.ok .next) s₁
   |some v=>wpAny (model prog w) A (letOwnedTupleGo target it v) (fun _ s₁'=>wpAny (model prog w) A (assign target env v) (fun _ s₂=>
     wpAny (model prog w) A (forIn ifs true fun c r=>if r=true then do let ok←isTrue c env (eval c env);pure (ForInStep.yield ok) else pure (ForInStep.yield r)) (fun ok s₃=>
      if ok=true then wpAny (model prog w) A (eval elt env) (fun x s₄=>
       wpAny (model prog w) A (call (.builtin "list.append") [acc,x]) (fun _ s₅=>∃m,m<n∧I m s₅) (notedBy (model prog w) A env fun e s'=>R (.error e) s') s₄) (notedBy (model prog w) A env fun e s'=>R (.error e) s') s₃
      else ∃m,m<n∧I m s₃) (notedBy (model prog w) A env fun e s'=>R (.error e) s') s₂) (notedBy (model prog w) A env fun e s'=>R (.error e) s') s₁') (notedBy (model prog w) A env fun e s'=>R (.error e) s') s₁) (notedBy (model prog w) A env fun e s'=>R (.error e) s') s)
  (n:Nat) (h:I n s):codeAny (model prog w) A (.compLoop (.ListComp elt [⟨target,iter,ifs,0⟩] scope pos) 0 it acc env) R s:=by
 refine codeAny_loop rfl I (fun n s hI=>?_) n h
 show wpAny _ A ((compTurn (.ListComp elt [⟨target,iter,ifs,0⟩] scope pos) 0 it acc env).onRaise (fun x=>do noteFrame x env;theTreesLotGoes x)) _ _ s
 refine wpAny_noted ?_
 rw[compTurn_list]
 refine wpAny_bind (wpAny_standAt (wpAny_bind (wpAny_mono (turn n s hI) (fun r s₁ h₁=>?_) fun _ _ h'=>h')))
 cases r with
 |none=>exact wpAny_pure h₁
 |some v=>
  refine wpAny_bind (wpAny_mono h₁ (fun _ s₁' h₁'=>?_) fun _ _ h'=>h')
  refine wpAny_bind (wpAny_mono h₁' (fun _ s₂ h₂=>wpAny_bind (wpAny_mono h₂ (fun ok s₃ h₃=>?_) fun _ _ h'=>h')) fun _ _ h'=>h')
  cases ok with
  |false=>exact wpAny_pure ⟨rfl,h₃⟩
  |true=>exact wpAny_bind (wpAny_bind (wpAny_mono h₃ (fun x s₄ h₄=>wpAny_bind (wpAny_mono h₄ (fun _ s₅ h₅=>wpAny_pure (wpAny_pure ⟨rfl,h₅⟩)) fun _ _ h'=>h')) fun _ _ h'=>h'))
theorem compLoop_dict {kx vx target iter:Expr} {ifs:List Expr} {scope:Scope} {pos:Pos} {it:Value} {D:Addr} {env:Env} (I:Nat→Shared→Prop)
  (turn:∀n s,I n s→wpAny (model prog w) A (pyNext it) (fun r s₁=>match r with
   |none=>R (.ok .next) s₁
   |some v=>wpAny (model prog w) A (letOwnedTupleGo target it v) (fun _ s₁'=>wpAny (model prog w) A (assign target env v) (fun _ s₂=>
     wpAny (model prog w) A (forIn ifs true fun c r=>if r=true then do let ok←isTrue c env (eval c env);pure (ForInStep.yield ok) else pure (ForInStep.yield r)) (fun ok s₃=>
      if ok=true then wpAny (model prog w) A (eval kx env) (fun kv s₄=>wpAny (model prog w) A (eval vx env) (fun vv s₅=>
       wpAny (model prog w) A (dictSet D kv vv) (fun _ s₆=>∃m,m<n∧I m s₆) (notedBy (model prog w) A env fun e s'=>R (.error e) s') s₅) (notedBy (model prog w) A env fun e s'=>R (.error e) s') s₄) (notedBy (model prog w) A env fun e s'=>R (.error e) s') s₃
      else ∃m,m<n∧I m s₃) (notedBy (model prog w) A env fun e s'=>R (.error e) s') s₂) (notedBy (model prog w) A env fun e s'=>R (.error e) s') s₁') (notedBy (model prog w) A env fun e s'=>R (.error e) s') s₁) (notedBy (model prog w) A env fun e s'=>R (.error e) s') s)
  (n:Nat) (h:I n s):codeAny (model prog w) A (.compLoop (.DictComp kx vx [⟨target,iter,ifs,0⟩] scope pos) 0 it (.ref D) env) R s:=by
 refine codeAny_loop rfl I (fun n s hI=>?_) n h
 show wpAny _ A ((compTurn (.DictComp kx vx [⟨target,iter,ifs,0⟩] scope pos) 0 it (.ref D) env).onRaise (fun x=>do noteFrame x env;theTreesLotGoes x)) _ _ s
 refine wpAny_noted ?_
 rw[compTurn_dict]
 refine wpAny_bind (wpAny_standAt (wpAny_bind (wpAny_mono (turn n s hI) (fun r s₁ h₁=>?_) fun _ _ h'=>h')))
 cases r with
 |none=>exact wpAny_pure h₁
 |some v=>
  refine wpAny_bind (wpAny_mono h₁ (fun _ s₁' h₁'=>?_) fun _ _ h'=>h')
  refine wpAny_bind (wpAny_mono h₁' (fun _ s₂ h₂=>wpAny_bind (wpAny_mono h₂ (fun ok s₃ h₃=>?_) fun _ _ h'=>h')) fun _ _ h'=>h')
  cases ok with
  |false=>exact wpAny_pure ⟨rfl,h₃⟩
  |true=>
   exact wpAny_bind (wpAny_bind (wpAny_mono h₃ (fun kv s₄ h₄=>wpAny_bind (wpAny_holding (wpAny_mono h₄ (fun vv s₅ h₅=>wpAny_bind (wpAny_standAt (wpAny_holding (wpAny_mono h₅ (fun _ s₆ h₆=>wpAny_pure ⟨rfl,h₆⟩) fun _ _ h'=>h')))) fun _ _ h'=>h'))) fun _ _ h'=>h'))
end
section
variable {K:Cfg} {c:Ctx} {env:Env} {n:Nat} {A:Around} {s:Shared} {ρ:List Addr} {σ:St} {l:Loc} {scope:Scope} {names:List Str} {ts:List Nat} {next:Nat}
structure ScopeOk (c:Ctx) (scope:Scope) (names:List Str) (ts:List Nat) (next:Nat):Prop where
 kind:scope.kind = .function
 cell:∀y∈scope.names,y.2≠.cell
 loc:∀y∈scope.names,y.2 = .local→scope.names.lookup y.1=some .local
 free:∀y∈scope.names,y.2 = .free→(y.1∈c.vars.map (·.1))∧(c.scope.names.lookup y.1=some .cell∨c.scope.names.lookup y.1=some .free)
 ok:(compCtx c scope names ts next).ok=true
 len:names.length=ts.length
 slots:∀t∈ts,c.next≤t
 next:c.next≤next
 names:∀x∈names,scope.names.lookup x=some .local
theorem ScopeOk.of (h:scopeOk c scope names ts next=true):ScopeOk c scope names ts next:=by
 simp only[scopeOk,Bool.and_eq_true,decide_eq_true_eq,List.all_eq_true] at h
 obtain⟨⟨⟨⟨⟨⟨⟨⟨h1,h2⟩,h3⟩,h4⟩,h5⟩,h6⟩,h7⟩,h8⟩,h9⟩:=h
 exact⟨h1,h2,h3,h4,h5,h6,h7,h8,h9⟩
theorem cellOfFree (a:At K c env n A s ρ σ l) (so:ScopeOk c scope names ts next):∀y∈scope.names,y.2 = .free→∃p∈c.vars,p.1=y.1∧∃b ov,(env.kindOf y.1=some .cell∨env.kindOf y.1=some .free)∧env.cells.lookup y.1=some b∧s.heap.IsCell b ov∧∀d,(l[p.2]?).join=some d→∃v,ov=some v∧K.rep s.heap ρ v d:=by
 intro y hy hf
 obtain⟨h1,h2⟩:=so.free y hy hf
 obtain⟨p,hp,e⟩:=List.mem_map.mp h1
 have hk:env.kindOf y.1=some .cell∨env.kindOf y.1=some .free:=by
  rcases h2 with h2|h2
  ·rcases a.ev.names _ _ h2 with h | ⟨h,_⟩
   ·exact .inl h
   ·cases h
  ·rcases a.ev.names _ _ h2 with h | ⟨_,h⟩
   ·exact .inr h
   ·exact .inl h
 refine⟨p,hp,e,?_⟩
 rcases a.vars.at_ p hp with⟨q,_⟩ | ⟨_,b,ov,q1,q2,q3⟩
 ·rw[e] at q
  rcases hk with hk|hk<;>rw[q] at hk<;>cases hk
 ·rw[e] at q1
  exact⟨b,ov,hk,q1,q2,q3⟩
theorem compEnv_ok {cl:List (Str×Addr)} {C:Addr} (ev:EnvOK c env) (so:ScopeOk c scope names ts next):EnvOK (compCtx c scope names ts next) (compEnvC scope cl C env) where
 kind:=so.kind
 names:=fun x k h=>relabel_lookup scope.names h
 globals:=ev.globals
 builtins:=ev.builtins
theorem compFrame {cl:List (Str×Addr)} {C:Addr} (so:ScopeOk c scope names ts next):∀b∈frame (compCtx c scope names ts next) (compEnvC scope cl C env),b=C:=by
 intro b hb
 rcases List.mem_cons.mp hb with h|h
 ·exact h
 ·obtain⟨p,_,e⟩:=List.mem_filterMap.mp h
  split at e
  ·rename_i hk
   exact absurd rfl (so.cell _ (lookup_mem hk))
  ·cases e
theorem compVars {cl:List (Str×Addr)} {C:Addr} {h1:Heap} {m:Str→Option Value} (a:At K c env n A s ρ σ l) (so:ScopeOk c scope names ts next)
  (hcl:∀x,(x,NameKind.free)∈scope.names→∃a,cl.lookup x=some a∧env.cells.lookup x=some a) (hcl2:∀x a,cl.lookup x=some a→env.cells.lookup x=some a∧(x,NameKind.free)∈scope.names)
  (keep:∀b o,s.heap.get? b=some o→h1.get? b=some o) (hns:h1.Ns C m) (hC:C∉ρ) (hC0:K.H₀.get? C=none):Vars K (compCtx c scope names ts next) (compEnvC scope cl C env) h1 ρ l where
 ns:=⟨m,hns⟩
 apart:=hC
 at_:=fun p hp=>by
  rcases List.mem_append.mp hp with hp|hp
  ·have hp1:p.1∈names:=(List.of_mem_zip hp).1
   have hp2:p.2∈ts:=(List.of_mem_zip hp).2
   refine .inl ⟨?_,m,hns,fun d hd=>?_⟩
   ·rcases relabel_lookup (env:=env) scope.names (so.names _ hp1) with h | ⟨h,_⟩
    ·exact h
    ·cases h
   ·rw[a.vars.rest _ (so.slots _ hp2)] at hd;cases hd
  ·obtain⟨hp1,hp2⟩:=List.mem_filter.mp hp
   simp only[decide_eq_true_eq] at hp2
   obtain⟨p',hp',e',b,ov,hk,q1,⟨o,q2,q2'⟩,q3⟩:=cellOfFree a so _ (lookup_mem hp2) rfl
   have hnm:∀q∈c.vars,q.1=p.1→VarAt K env s.heap ρ q.1 (l[q.2]?).join:=fun q hq _=>a.vars.at_ q hq
   obtain⟨b2,w1,w2⟩:=hcl p.1 (lookup_mem hp2)
   rw[q1] at w2;cases w2
   refine .inr ⟨?_,b,ov,w1,⟨o,keep _ _ q2,q2'⟩,fun d hd=>?_⟩
   ·rcases relabel_lookup (env:=env) scope.names hp2 with h | ⟨_,h⟩
    ·exact .inr h
    ·exact .inl h
   ·rcases a.vars.at_ p hp1 with⟨z,_⟩ | ⟨_,b3,ov3,z1,⟨o3,z2,z2'⟩,z3⟩
    ·rcases hk with hk|hk<;>rw[z] at hk<;>cases hk
    ·rw[q1] at z1;cases z1
     rw[q2] at z2;cases z2
     rw[q2'] at z2';cases z2'
     obtain⟨v,y1,y2⟩:=z3 d hd
     exact⟨v,y1,y2.grow a.sr (Grow.keeps a.sr keep)⟩
 inj:=fun p hp q hq hne b hb hb'=>by
  obtain⟨h1,h2⟩:=hcl2 _ _ hb
  obtain⟨h3,h4⟩:=hcl2 _ _ hb'
  obtain⟨p',hp',e1⟩:=List.mem_map.mp (so.free _ h2 rfl).1
  obtain⟨q',hq',e2⟩:=List.mem_map.mp (so.free _ h4 rfl).1
  simp only at e1 e2
  exact a.vars.inj p' hp' q' hq' (by rw[e1,e2];exact hne) b (by rw[e1];exact h1) (by rw[e2];exact h3)
 base:=fun b hb=>by rw[compFrame so b hb];exact hC0
 rest:=fun j hj=>a.vars.rest j (Nat.le_trans so.next hj)
inductive Ifs (K:Cfg) (c':Ctx):List Expr→(Nat→Loc→St→Option (Bool×St))→Prop
 |none:Ifs K c' [] (fun _ _ σ=>some (true,σ))
 |one {e:Expr} {X:Mine.X}:SimT K c' e X→Ifs K c' [e] (fun n l σ=>match ev (K.C n) X l σ with|some (x,σ1)=>(truthD x).map fun b=>(b,σ1)|none=>none)
theorem Ifs.ok {c':Ctx} {ifs:List Expr} {f:Nat→Loc→St→Option (Bool×St)} (h:Ifs K c' ifs f) {cenv:Env} {b:Bool} {σ':St} {Q:Bool→Shared→Prop} {E:Value→Shared→Prop} (a:At K c' cenv n A s ρ σ l) (hC:CallsOK K n) (he:f n l σ=some (b,σ'))
  (hq:∀ρ' h' tk',Grow ρ σ ρ' σ' s.heap h'→K.sr ρ' σ' h'→Q b { s with heap:=h',toks:=tk' }) :
  wpAny K.M A (forIn ifs true fun c r=>if r=true then do let ok←isTrue c cenv (eval c cenv);pure (ForInStep.yield ok) else pure (ForInStep.yield r)) Q E s:=by
 cases h with
 |none=>
  cases he
  exact wpAny_tests_nil (hq ρ s.heap s.toks (Grow.refl _ _ _) a.sr)
 |one hx=>
  dsimp only at he
  split at he
  ·rename_i d σ1 h1
   simp only[Option.map_eq_some_iff,Prod.mk.injEq] at he
   obtain⟨b',h2,rfl,rfl⟩:=he
   exact wpAny_tests_one (hx _ _ _ _ _ _ _ _ _ _ _ _ a hC h1 h2 hq)
  ·cases he
end
section
variable {K:Cfg} {c:Ctx} {env:Env} {n:Nat} {A:Around} {s:Shared} {ρ:List Addr} {σ:St} {l:Loc} {scope:Scope} {names:List Str} {ts:List Nat} {next:Nat}
structure CompEnd (K:Cfg) (s:Shared) (ρ:List Addr) (σ:St) (ρ':List Addr) (σ':St) (h':Heap) (D C:Addr):Prop where
 d0:s.heap.get? D=none
 c0:s.heap.get? C=none
 dn:D∉ρ'
 cn:C∉ρ'
 ne:D≠C
 ns:∃m,h'.Ns C m
 g:Grow ρ σ ρ' σ' s.heap h'
 x:K.sr ρ' σ' h'
theorem list_comp {elt target iter:Expr} {ifs:List Expr} {spos pos:Pos} {use:Option (Value→Sem Unit)} {I X:Mine.X} {many:Bool} {f:Nat→Loc→St→Option (Bool×St)} {ds es:List D} {src:Src} {σ1 σ':St} {Q:Value→Shared→Prop} {E:Value→Shared→Prop}
  (a:At K c env n A s ρ σ l) (hC:CallsOK K n) (so:ScopeOk c scope names ts next) (hi:SimI K c target iter I) (ht:targOk (compCtx c scope names ts next) target ts many=true) (hf:Ifs K (compCtx c scope names ts next) ifs f)
  (hx:SimE K (compCtx c scope names ts next) elt X) (hs:∀v,foldedSetIterable iter env v=pure v)
  (he:evI (K.C n) I l σ=some (ds,src,σ1)) (hl:ds.length<LIM) (hg:compGo (bindT ts many) (f n) (ev (K.C n) X) src l ds σ1=some (es,σ'))
  (fin:∀D C ρ' h' tk' vs ep,CompEnd K s ρ σ ρ' σ' h' D C→h'.get? D=some (seqObj "list" vs ep)→Reps K.H₀ h' ρ' vs.toList es→compPost K.M A E use Q (.ref D) C (.ok .next) { s with heap:=h',toks:=tk' }) :
  wpAny K.M A (comprehension (.ListComp elt [⟨target,iter,ifs,0⟩] scope spos) scope env pos (newList []) false (eval iter env) use) Q E s:=by
 obtain⟨cl,k1,k2,k3⟩:=closure_ok (scope:=scope) (env:=env) fun y hy hf=>by
  obtain⟨p,hp,e,b,ov,_,q1,_⟩:=cellOfFree a so y hy hf
  exact⟨b,q1⟩
 refine wpAny_comprehension_free rfl hs k1 so.kind so.loc (hi _ _ _ _ _ _ _ _ _ _ _ _ a hC he fun itA own S ρ1 hp1 tk1 T fresh st sok g1 x1=>?_)
 refine wpAny_newList (wpAny_newFunctionEnv so.cell (by intro y hy;simp at hy) (fun h2 hns hsb=>?_) so.kind) (by simp[sizeLine])
 dsimp only at hns hsb ⊢
 generalize hH:hp1.push { cls:=.type "list",data:=.seq ([]:List Value).toArray }=H at hns hsb ⊢
 have hDsz:H.objs.size=hp1.objs.size+1:=by rw[←hH,Heap.size_push]
 have hDget:H.get? hp1.objs.size=some (seqObj "list" #[] 0):=by rw[←hH];exact Heap.get?_push_size _ rfl
 have keep:∀b o,hp1.get? b=some o→h2.get? b=some o:=fun b o e=>by
  have hb:b≠H.objs.size:=by rw[hDsz];exact Nat.ne_of_lt (Nat.lt_succ_of_lt (Heap.lt_size e))
  exact hsb.extBut b o hb (Heap.get?_push_of_some _ (by rw[←hH];exact Heap.get?_push_of_some _ e))
 have hD2:h2.get? hp1.objs.size=some (seqObj "list" #[] 0):=hsb.extBut _ _ (by rw[hDsz];exact Nat.ne_of_lt (Nat.lt_succ_self _)) (Heap.get?_push_of_some _ hDget)
 have hne:hp1.objs.size≠H.objs.size:=by rw[hDsz];exact Nat.ne_of_lt (Nat.lt_succ_self _)
 have hD0:s.heap.get? hp1.objs.size=none:=g1.fresh (size_none _)
 have hC0:s.heap.get? H.objs.size=none:=g1.fresh (size_ge (by rw[hDsz];exact Nat.le_succ _))
 have hDn:hp1.objs.size∉ρ1:=x1.sizeNot
 have hCn:H.objs.size∉ρ1:=x1.freshNot (size_ge (by rw[hDsz];exact Nat.le_succ _))
 generalize hDe:hp1.objs.size=D at *
 generalize hCe:H.objs.size=C at *
 have a1:=a.grow g1 x1 tk1
 have gk:Grow ρ1 σ1 ρ1 σ1 hp1 h2:=Grow.keeps x1 keep
 have x2:K.sr ρ1 σ1 h2:=x1.keeps keep
 have st2:S 0 h2 ρ1:=T.keep 0 hp1 ρ1 h2 ρ1 st (fun b hb o e=>keep b o e) (fun r v a' es er=>by
  obtain⟨ob,eb⟩:=SR.liveAll x1 a' (List.mem_of_getElem? er)
  rw[eb,keep a' ob eb]) (fun _ _ _ e=>keep _ _ e) (fun _ _ e=>e)
 have ownD:D∉own:=fun ho=>by
  obtain⟨o,e⟩:=T.live 0 hp1 ρ1 st D ho
  rw[←hDe,size_none] at e;cases e
 have ownC:C∉own:=fun ho=>by
  obtain⟨o,e⟩:=T.live 0 hp1 ρ1 st C ho
  rw[size_ge (by rw[←hDe] at hDsz;rw[hDsz];exact Nat.le_succ _)] at e;cases e
 have ev':EnvOK (compCtx c scope names ts next) (compEnvC scope cl C env):=compEnv_ok a.ev so
 have frC:∀b∈frame (compCtx c scope names ts next) (compEnvC scope cl C env),b=C:=compFrame so
 have memC:C∈frame (compCtx c scope names ts next) (compEnvC scope cl C env):=List.mem_cons_self ..
 have hvars:∀(ρ2:List Addr) (σ2:St) (h3:Heap) (tk3:Nat) (mC:Str→Option Value),Grow ρ σ ρ2 σ2 s.heap h3→K.sr ρ2 σ2 h3→h3.Ns C mC→C∉ρ2→Vars K (compCtx c scope names ts next) (compEnvC scope cl C env) h3 ρ2 l:=fun ρ2 σ2 h3 tk3 mC g x hn hc=>
  compVars (s:={ s with heap:=h3,toks:=tk3 }) (a.grow g x tk3) so k2 k3 (fun _ _ e=>e) hn hc (a.sr.freshBase hC0)
 have loop:codeAny K.M A (.compLoop (.ListComp elt [⟨target,iter,ifs,0⟩] scope spos) 0 (.ref itA) (.ref D) (compEnvC scope cl C env)) (compPost K.M A E use Q (.ref D) C) { s with heap:=h2,toks:=tk1 }:=by
  refine compLoop_list (env:=compEnvC scope cl C env) (fun m s'=>∃i ρ2 σ2 h3 tk3 mC vs ep out es',s'={ s with heap:=h3,toks:=tk3 }∧m+i=ds.length+1∧i≤ds.length∧S i h3 ρ2∧srcOk src σ2=true∧Grow ρ σ ρ2 σ2 s.heap h3∧K.sr ρ2 σ2 h3∧h3.Ns C mC∧C∉ρ2∧D∉ρ2∧(∀b∈own,b∉ρ2)∧
   h3.get? D=some (seqObj "list" vs ep)∧Reps K.H₀ h3 ρ2 vs.toList out∧vs.size≤i∧es=out++es'∧compGo (bindT ts many) (f n) (ev (K.C n) X) src l (ds.drop i) σ2=some (es',σ')) ?_ (ds.length+1)
   ⟨0,ρ1,σ1,h2,tk1,_,#[],0,[],es,rfl,rfl,Nat.zero_le _,st2,sok,g1.trans gk,x2,hns,hCn,hDn,fun b hb=>(fresh b hb).2,hD2,trivial,Nat.le_refl _,rfl,by rw[List.drop_zero];exact hg⟩
  rintro m _ ⟨i,ρ2,σ2,h3,tk3,mC,vs,ep,out,es',rfl,hm,hile,st3,sok3,g3,x3,ns3,cn3,dn3,own3,hd3,rr3,hsz3,hes,hgo⟩
  have ownL:∀b∈own,b∉ρ2∧K.H₀.get? b=none∧NotTup h3 b:=fun b hb=>⟨own3 b hb,a.sr.freshBase (fresh b hb).1,T.notTup _ _ _ st3 b hb⟩
  have nsKeep:∀h4,ButL own h3 h4→h4.Ns C mC:=fun h4 b4=>by
   obtain⟨o,es,ep,e,r⟩:=ns3
   exact⟨o,es,ep,b4 C o ownC e,r⟩
  cases hd:ds.drop i with
  |nil=>
   rw[hd] at hgo
   simp only[compGo,Option.some.injEq,Prod.mk.injEq] at hgo
   obtain⟨rfl,rfl⟩:=hgo
   have hi':i=ds.length:=by
    have:=List.drop_eq_nil_iff.mp hd
    omega
   subst hi'
   rw[List.append_nil] at hes
   subst hes
   refine T.done { s with heap:=h3,toks:=tk3 } ρ2 _ _ a.room.handled st3 fun h4 tk4 b4=>?_
   have x4:=x3.otherL b4 ownL
   have g4:Grow ρ σ ρ2 σ2 s.heap h4:=g3.otherL (SR.liveAll x3) (fun b hb=>⟨(fresh b hb).1,own3 b hb⟩) b4
   exact fin D C ρ2 h4 tk4 vs ep ⟨hD0,hC0,dn3,cn3,hne,⟨mC,nsKeep h4 b4⟩,g4,x4⟩ (b4 D _ ownD hd3) (Reps.mono (tupKeep_otherL b4 fun b hb=>(ownL b hb).2.2) (fun _ _ e=>e) _ rr3)
  |cons d r=>
   obtain⟨hdi,hdr⟩:=drop_get hd
   have hil:i<ds.length:=(List.getElem?_eq_some_iff.mp hdi).1
   rw[hd] at hgo
   simp only[compGo] at hgo
   split at hgo
   ·cases hgo
   ·rename_i l' hbind
    refine wpAny_mono (T.next i d { s with heap:=h3,toks:=tk3 } ρ2 (fun _=>False) ?Q _ ?E2 a.room.handled hdi st3 ?main) ?conv fun _ _ e=>e
    case conv=>
     intro r s1 hr
     cases r with
     |none=>exact hr.elim
     |some v=>exact hr
    intro v h4 tk4 b4 r4 st4
    have x4:K.sr ρ2 σ2 h4:=x3.otherL b4 ownL
    have g4:Grow ρ σ ρ2 σ2 s.heap h4:=g3.otherL (SR.liveAll x3) (fun b hb=>⟨(fresh b hb).1,own3 b hb⟩) b4
    have v4:=hvars ρ2 σ2 h4 tk4 mC g4 x4 (nsKeep h4 b4) cn3
    have hd4:h4.get? D=some (seqObj "list" vs ep):=b4 D _ ownD hd3
    have rr4:Reps K.H₀ h4 ρ2 vs.toList out:=Reps.mono (tupKeep_otherL b4 fun b hb=>(ownL b hb).2.2) (fun _ _ e=>e) _ rr3
    refine assign_ok (s:={ s with heap:=h4,toks:=tk4 }) a.room.handled ev' so.ok x4 v4 ht r4 hbind fun h5 tk5 b5 lv5 x5 v5 t5=>?_
    have fr4:=Vars.frameOk (s:={ s with heap:=h4,toks:=tk4 }) ev' x4 v4
    have g5:Grow ρ σ ρ2 σ2 s.heap h5:=g4.otherL (SR.liveAll x4) (fun b hb=>by rw[frC b hb];exact⟨hC0,cn3⟩) b5
    have hd5:h5.get? D=some (seqObj "list" vs ep):=b5 D _ (fun q=>hne (frC D q)) hd4
    have rr5:Reps K.H₀ h5 ρ2 vs.toList out:=Reps.mono t5 (fun _ _ e=>e) _ rr4
    have a5:At K (compCtx c scope names ts next) (compEnvC scope cl C env) n A { s with heap:=h5,toks:=tk5 } ρ2 σ2 l':=⟨a.ok,ev',a.room,x5,v5⟩
    have keepSt:∀(ρ6:List Addr) (σ6:St) (h6:Heap) (tk6:Nat),(∀b o,b∉ρ2→b≠D→h5.get? b=some o→h6.get? b=some o)→(∀(i:Nat) (a:Addr) (o o':AO),ρ2[i]?=some a→σ2[i]?=some o→σ6[i]?=some o'→o.ver=o'.ver→h6.get? a=h5.get? a)→PreK ρ2 ρ6→TupKeep h5 h6→srcOk src σ6=true→S (i+1) h6 ρ6:=by
     intro ρ6 σ6 h6 tk6 hk hsame hpre htk6 sok6
     refine T.keep (i+1) h4 ρ2 h6 ρ6 st4 (fun b hb o eb=>?_) (fun r' v' a' es er=>?_) (fun b vs ep e=>htk6 b vs ep (t5 b vs ep e)) hpre
     ·have hbC:b≠C:=fun q=>ownC (q▸hb)
      have hbD:b≠D:=fun q=>ownD (q▸hb)
      exact hk b o (own3 b hb) hbD (b5 b o (fun q=>hbC (frC b q)) eb)
     ·obtain⟨o,o',e1,e2,e3⟩:=srcOk_ver es sok3 sok6
      have ha':a'∈ρ2:=List.mem_of_getElem? er
      have hnf:a'∉frame (compCtx c scope names ts next) (compEnvC scope cl C env):=fun hf=>(fr4 a' hf).1 ha'
      rw[hsame r' a' o o' er e1 e2 e3]
      obtain⟨ob,eb⟩:=SR.liveAll x4 a' ha'
      rw[eb]
      exact b5 a' ob hnf eb
    have ns5:∃m5,h5.Ns C m5:=v5.ns
    split at hgo
    ·cases hgo
    ·rename_i σ6 q6
     split at hgo
     ·rename_i sok6
      refine Ifs.ok hf a5 hC q6 fun ρ6 h6 tk6 g6 x6=>?_
      rw[if_neg (by decide)]
      obtain⟨m5,o5,es5,ep5,e5,r5⟩:=ns5
      refine⟨ds.length-i,by omega,i+1,ρ6,σ6,h6,tk6,m5,vs,ep,out,es',rfl,by omega,hil,keepSt ρ6 σ6 h6 tk6 (fun b o hb _ e=>g6.ext b o e hb) g6.same (fun _ _ e=>g6.get e) (x5.tupKeep g6) sok6,sok6,g5.trans g6,x6,
       ⟨o5,es5,ep5,g6.ext C o5 e5 cn3,r5⟩,g6.notIn cn3 e5,g6.notIn dn3 hd5,fun b hb=>?_,g6.ext D _ hd5 dn3,rr5.grow x5 g6,Nat.le_succ_of_le hsz3,hes,by rw[hdr];exact hgo⟩
      obtain⟨o,e⟩:=T.live _ _ _ st4 b hb
      exact g6.notIn (own3 b hb) (b5 b o (fun q=>ownC ((frC b q)▸hb)) e)
     ·cases hgo
    ·rename_i σ6 q6
     split at hgo
     ·cases hgo
     ·rename_i de σ7 q7
      split at hgo
      ·rename_i sok7
       split at hgo
       ·rename_i es8 σ8 q8
        cases hgo
        refine Ifs.ok hf a5 hC q6 fun ρ6 h6 tk6 g6 x6=>?_
        rw[if_pos rfl]
        refine hx _ _ _ _ _ _ _ _ _ _ _ (a5.grow g6 x6 tk6) hC q7 fun v7 ρ7 h7 tk7 g7 x7 r7=>?_
        have g67:=g6.trans g7
        have hd7:h7.get? D=some (seqObj "list" vs ep):=g67.ext D _ hd5 dn3
        have dn7:D∉ρ7:=g67.notIn dn3 hd5
        have rr7:Reps K.H₀ h7 ρ7 vs.toList out:=rr5.grow x5 g67
        have hLIM:vs.size≤sizeLine:=by
         have h2:ds.length<2^20:=hl
         rw[sizeLine_eq];omega
        refine call_meets PySem.F.slot_list_append ⟨_,hd7,rfl⟩ PySem.F.entry_list_append (PySem.F.args_list_append_2 _ _) (AutoListH.list_append_list_val_0 D vs ep v7 hLIM) ⟨hd7,?_⟩
        have hU:IsL (h7.update D (Obj.mapSeq fun x=>x.push v7)) D (vs.push v7) (if (vs.push v7).size==vs.size then ep else ep+1):=IsL.update hd7 fun x=>x.push v7
        have hsU:Heap.SameBut D h7 (h7.update D (Obj.mapSeq fun x=>x.push v7)):=Heap.SameBut.update ..
        have hnt:NotTup h7 D:=fun ob items n e hc _=>by rw[hd7] at e;cases e;simp at hc
        have x8:K.sr ρ7 σ7 (h7.update D (Obj.mapSeq fun x=>x.push v7)):=x7.other hsU dn7 (a.sr.freshBase hD0) hnt
        have g8:Grow ρ σ ρ7 σ7 s.heap (h7.update D (Obj.mapSeq fun x=>x.push v7)):=(g5.trans g67).other (SR.liveAll a.sr) hD0 hsU hU
        obtain⟨m5,o5,es5,ep5,e5,r5⟩:=ns5
        have eC7:h7.get? C=some o5:=g67.ext C o5 e5 cn3
        refine⟨ds.length-i,by omega,i+1,ρ7,σ7,_,tk7,m5,vs.push v7,_,out++[de],es8,rfl,by omega,hil,keepSt ρ7 σ7 _ tk7 (fun b o hb hbD e=>(hsU.2 b hbD).trans (g67.ext b o e hb)) (fun i' a' o o' e1 e2 e3 e4=>?_) (fun _ _ e=>g67.get e) (fun b vs' ep' e=>?_) sok7,sok7,g8,x8,
         ⟨o5,es5,ep5,(hsU.2 C (Ne.symm hne)).trans eC7,r5⟩,g67.notIn cn3 e5,dn7,fun b hb=>?_,hU,?_,?_,?_,by rw[hdr];exact q8⟩
        ·have ha':a'≠D:=fun q=>dn3 (q▸List.mem_of_getElem? e1)
         rw[hsU.2 a' ha']
         exact g67.same i' a' o o' e1 e2 e3 e4
        ·have hb':b≠D:=fun q=>by
          rw[q,hd5] at e
          have:=congrArg (fun o=>o.map Obj.cls) e
          simp at this
         exact(hsU.2 b hb').trans (x5.tupKeep g67 b vs' ep' e)
        ·obtain⟨o,e⟩:=T.live _ _ _ st4 b hb
         exact g67.notIn (own3 b hb) (b5 b o (fun q=>ownC ((frC b q)▸hb)) e)
        ·rw[Array.toList_push]
         exact(rr7.other hsU hnt).append ⟨r7.other hsU hnt,trivial⟩
        ·rw[Array.size_push];omega
        ·rw[hes,List.append_assoc];rfl
       ·cases hgo
      ·cases hgo
 have hcompEnv:({ newEnv scope C env.globals cl env.qual none .none (some env) 0 with scope:=relabel scope env }:Env)=compEnvC scope cl C env:=rfl
 have stSelf:wpAny K.M A (pyIter (.ref itA)) (fun it' s'=>codeAny K.M A (.compLoop (.ListComp elt [⟨target,iter,ifs,0⟩] scope spos) 0 it' (.ref D) (compEnvC scope cl C env)) (compPost K.M A E use Q (.ref D) C) s') (notedBy K.M A (compEnvC scope cl C env) fun x s'=>compPost K.M A E use Q (.ref D) C (.error x) s') { s with heap:=h2,toks:=tk1 }:=
  T.self 0 _ ρ1 _ _ st2 loop
 exact codeAny_compStart_list loop stSelf
end
section
variable {K:Cfg} {c:Ctx} {env:Env} {n:Nat} {A:Around} {s:Shared} {ρ:List Addr} {σ:St} {l:Loc} {scope:Scope} {names:List Str} {ts:List Nat} {next:Nat}
theorem wpAny_newDict' {Q:Value→Shared→Prop} {E:Value→Shared→Prop} (h:Q (.ref s.heap.objs.size) { s with heap:=s.heap.push { cls:=.type "dict",data:=.dict #[] } }):wpAny K.M A newDict Q E s:=by
 simp only[newDict,newObj]
 exact wpAny_bind (wpAny_alloc (wpAny_pure h))
theorem DictAt.stayL {h h':Heap} {L:List Addr} {D:Addr} {es:Es} (r:DictAt K.prog K.w K.H₀ h ρ D es) (hs:ButL L h h') (hD:D∉L) (hn:∀a∈L,NotTup h a):DictAt K.prog K.w K.H₀ h' ρ D es:=by
 obtain⟨xs,⟨o,es',ep,e,c,d,he,hkk,hnn⟩,hm,r,kr⟩:=r
 have hk:=tupKeep_otherL hs hn
 exact⟨xs,⟨o,es',ep,hs D _ hD e,c,d,he,fun y hy=>isKey_otherL (hkk y hy) hs hn,hnn⟩,hm,Reps.mono hk (fun _ _ e=>e) _ r,fun y hy=>Rep.mono hk (fun _ _ e=>e) _ (kr y hy)⟩
theorem dict_comp {kx vx target iter:Expr} {ifs:List Expr} {spos pos:Pos} {use:Option (Value→Sem Unit)} {I X Y:Mine.X} {many:Bool} {f:Nat→Loc→St→Option (Bool×St)} {ds:List D} {es:Es} {src:Src} {σ1 σ':St} {Q:Value→Shared→Prop} {E:Value→Shared→Prop}
  (a:At K c env n A s ρ σ l) (hC:CallsOK K n) (so:ScopeOk c scope names ts next) (hi:SimI K c target iter I) (ht:targOk (compCtx c scope names ts next) target ts many=true) (hf:Ifs K (compCtx c scope names ts next) ifs f)
  (hx:SimE K (compCtx c scope names ts next) kx X) (hy:SimE K (compCtx c scope names ts next) vx Y) (hs:∀v,foldedSetIterable iter env v=pure v)
  (he:evI (K.C n) I l σ=some (ds,src,σ1)) (hg:dcompGo (bindT ts many) (f n) (ev (K.C n) X) (ev (K.C n) Y) src l ds [] σ1=some (es,σ'))
  (fin:∀D C ρ' h' tk',CompEnd K s ρ σ ρ' σ' h' D C→DictAt K.prog K.w K.H₀ h' ρ' D es→compPost K.M A E use Q (.ref D) C (.ok .next) { s with heap:=h',toks:=tk' }) :
  wpAny K.M A (comprehension (.DictComp kx vx [⟨target,iter,ifs,0⟩] scope spos) scope env pos newDict false (eval iter env) use) Q E s:=by
 obtain⟨cl,k1,k2,k3⟩:=closure_ok (scope:=scope) (env:=env) fun y hy hf=>by
  obtain⟨p,hp,e,b,ov,_,q1,_⟩:=cellOfFree a so y hy hf
  exact⟨b,q1⟩
 refine wpAny_comprehension_free rfl hs k1 so.kind so.loc (hi _ _ _ _ _ _ _ _ _ _ _ _ a hC he fun itA own S ρ1 hp1 tk1 T fresh st sok g1 x1=>?_)
 refine wpAny_newDict' (wpAny_newFunctionEnv so.cell (by intro y hy;simp at hy) (fun h2 hns hsb=>?_) so.kind)
 dsimp only at hns hsb ⊢
 generalize hH:hp1.push { cls:=.type "dict",data:=.dict #[] }=H at hns hsb ⊢
 have hDsz:H.objs.size=hp1.objs.size+1:=by rw[←hH,Heap.size_push]
 have hDget:DictAt K.prog K.w K.H₀ H ρ1 hp1.objs.size []:=by rw[←hH];exact DictAt.new _ _
 have keep:∀b o,hp1.get? b=some o→h2.get? b=some o:=fun b o e=>by
  have hb:b≠H.objs.size:=by rw[hDsz];exact Nat.ne_of_lt (Nat.lt_succ_of_lt (Heap.lt_size e))
  exact hsb.extBut b o hb (Heap.get?_push_of_some _ (by rw[←hH];exact Heap.get?_push_of_some _ e))
 have xH:K.sr ρ1 σ1 H:=by rw[←hH];exact x1.push _
 have hD2:DictAt K.prog K.w K.H₀ h2 ρ1 hp1.objs.size []:=hDget.stay xH x1.sizeNot (Grow.keeps xH fun b o e=>hsb.extBut b o (Nat.ne_of_lt (Heap.lt_size e)) (Heap.get?_push_of_some _ e))
 have hne:hp1.objs.size≠H.objs.size:=by rw[hDsz];exact Nat.ne_of_lt (Nat.lt_succ_self _)
 have hD0:s.heap.get? hp1.objs.size=none:=g1.fresh (size_none _)
 have hC0:s.heap.get? H.objs.size=none:=g1.fresh (size_ge (by rw[hDsz];exact Nat.le_succ _))
 have hDn:hp1.objs.size∉ρ1:=x1.sizeNot
 have hCn:H.objs.size∉ρ1:=x1.freshNot (size_ge (by rw[hDsz];exact Nat.le_succ _))
 generalize hDe:hp1.objs.size=D at *
 generalize hCe:H.objs.size=C at *
 have a1:=a.grow g1 x1 tk1
 have gk:Grow ρ1 σ1 ρ1 σ1 hp1 h2:=Grow.keeps x1 keep
 have x2:K.sr ρ1 σ1 h2:=x1.keeps keep
 have st2:S 0 h2 ρ1:=T.keep 0 hp1 ρ1 h2 ρ1 st (fun b hb o e=>keep b o e) (fun r v a' es er=>by
  obtain⟨ob,eb⟩:=SR.liveAll x1 a' (List.mem_of_getElem? er)
  rw[eb,keep a' ob eb]) (fun _ _ _ e=>keep _ _ e) (fun _ _ e=>e)
 have ownD:D∉own:=fun ho=>by
  obtain⟨o,e⟩:=T.live 0 hp1 ρ1 st D ho
  rw[←hDe,size_none] at e;cases e
 have ownC:C∉own:=fun ho=>by
  obtain⟨o,e⟩:=T.live 0 hp1 ρ1 st C ho
  rw[size_ge (by rw[←hDe] at hDsz;rw[hDsz];exact Nat.le_succ _)] at e;cases e
 have ev':EnvOK (compCtx c scope names ts next) (compEnvC scope cl C env):=compEnv_ok a.ev so
 have frC:∀b∈frame (compCtx c scope names ts next) (compEnvC scope cl C env),b=C:=compFrame so
 have memC:C∈frame (compCtx c scope names ts next) (compEnvC scope cl C env):=List.mem_cons_self ..
 have hvars:∀(ρ2:List Addr) (σ2:St) (h3:Heap) (tk3:Nat) (mC:Str→Option Value),Grow ρ σ ρ2 σ2 s.heap h3→K.sr ρ2 σ2 h3→h3.Ns C mC→C∉ρ2→Vars K (compCtx c scope names ts next) (compEnvC scope cl C env) h3 ρ2 l:=fun ρ2 σ2 h3 tk3 mC g x hn hc=>
  compVars (s:={ s with heap:=h3,toks:=tk3 }) (a.grow g x tk3) so k2 k3 (fun _ _ e=>e) hn hc (a.sr.freshBase hC0)
 have loop:codeAny K.M A (.compLoop (.DictComp kx vx [⟨target,iter,ifs,0⟩] scope spos) 0 (.ref itA) (.ref D) (compEnvC scope cl C env)) (compPost K.M A E use Q (.ref D) C) { s with heap:=h2,toks:=tk1 }:=by
  refine compLoop_dict (env:=compEnvC scope cl C env) (fun m s'=>∃i ρ2 σ2 h3 tk3 mC es0,s'={ s with heap:=h3,toks:=tk3 }∧m+i=ds.length+1∧i≤ds.length∧S i h3 ρ2∧srcOk src σ2=true∧Grow ρ σ ρ2 σ2 s.heap h3∧K.sr ρ2 σ2 h3∧h3.Ns C mC∧C∉ρ2∧D∉ρ2∧(∀b∈own,b∉ρ2)∧
   DictAt K.prog K.w K.H₀ h3 ρ2 D es0∧dcompGo (bindT ts many) (f n) (ev (K.C n) X) (ev (K.C n) Y) src l (ds.drop i) es0 σ2=some (es,σ')) ?_ (ds.length+1)
   ⟨0,ρ1,σ1,h2,tk1,_,[],rfl,rfl,Nat.zero_le _,st2,sok,g1.trans gk,x2,hns,hCn,hDn,fun b hb=>(fresh b hb).2,hD2,by rw[List.drop_zero];exact hg⟩
  rintro m _ ⟨i,ρ2,σ2,h3,tk3,mC,es0,rfl,hm,hile,st3,sok3,g3,x3,ns3,cn3,dn3,own3,hd3,hgo⟩
  have ownL:∀b∈own,b∉ρ2∧K.H₀.get? b=none∧NotTup h3 b:=fun b hb=>⟨own3 b hb,a.sr.freshBase (fresh b hb).1,T.notTup _ _ _ st3 b hb⟩
  have nsKeep:∀h4,ButL own h3 h4→h4.Ns C mC:=fun h4 b4=>by
   obtain⟨o,es,ep,e,r⟩:=ns3
   exact⟨o,es,ep,b4 C o ownC e,r⟩
  cases hd:ds.drop i with
  |nil=>
   rw[hd] at hgo
   simp only[dcompGo,Option.some.injEq,Prod.mk.injEq] at hgo
   obtain⟨rfl,rfl⟩:=hgo
   have hi':i=ds.length:=by
    have:=List.drop_eq_nil_iff.mp hd
    omega
   subst hi'
   refine T.done { s with heap:=h3,toks:=tk3 } ρ2 _ _ a.room.handled st3 fun h4 tk4 b4=>?_
   have x4:=x3.otherL b4 ownL
   have g4:Grow ρ σ ρ2 σ2 s.heap h4:=g3.otherL (SR.liveAll x3) (fun b hb=>⟨(fresh b hb).1,own3 b hb⟩) b4
   exact fin D C ρ2 h4 tk4 ⟨hD0,hC0,dn3,cn3,hne,⟨mC,nsKeep h4 b4⟩,g4,x4⟩ (hd3.stayL b4 ownD fun b hb=>(ownL b hb).2.2)
  |cons d r=>
   obtain⟨hdi,hdr⟩:=drop_get hd
   have hil:i<ds.length:=(List.getElem?_eq_some_iff.mp hdi).1
   rw[hd] at hgo
   simp only[dcompGo] at hgo
   split at hgo
   ·cases hgo
   ·rename_i l' hbind
    refine wpAny_mono (T.next i d { s with heap:=h3,toks:=tk3 } ρ2 (fun _=>False) ?Q _ ?E2 a.room.handled hdi st3 ?main) ?conv fun _ _ e=>e
    case conv=>
     intro r s1 hr
     cases r with
     |none=>exact hr.elim
     |some v=>exact hr
    intro v h4 tk4 b4 r4 st4
    have x4:K.sr ρ2 σ2 h4:=x3.otherL b4 ownL
    have g4:Grow ρ σ ρ2 σ2 s.heap h4:=g3.otherL (SR.liveAll x3) (fun b hb=>⟨(fresh b hb).1,own3 b hb⟩) b4
    have v4:=hvars ρ2 σ2 h4 tk4 mC g4 x4 (nsKeep h4 b4) cn3
    have hd4:DictAt K.prog K.w K.H₀ h4 ρ2 D es0:=hd3.stayL b4 ownD fun b hb=>(ownL b hb).2.2
    refine assign_ok (s:={ s with heap:=h4,toks:=tk4 }) a.room.handled ev' so.ok x4 v4 ht r4 hbind fun h5 tk5 b5 lv5 x5 v5 t5=>?_
    have fr4:=Vars.frameOk (s:={ s with heap:=h4,toks:=tk4 }) ev' x4 v4
    have g5:Grow ρ σ ρ2 σ2 s.heap h5:=g4.otherL (SR.liveAll x4) (fun b hb=>by rw[frC b hb];exact⟨hC0,cn3⟩) b5
    have hd5:DictAt K.prog K.w K.H₀ h5 ρ2 D es0:=hd4.stayL b5 (fun q=>hne (frC D q)) fun b hb=>(fr4 b hb).2.2.1
    obtain⟨oD5,eD5⟩:=hd5.here
    have a5:At K (compCtx c scope names ts next) (compEnvC scope cl C env) n A { s with heap:=h5,toks:=tk5 } ρ2 σ2 l':=⟨a.ok,ev',a.room,x5,v5⟩
    have keepSt:∀(ρ6:List Addr) (σ6:St) (h6:Heap) (tk6:Nat),(∀b o,b∉ρ2→b≠D→h5.get? b=some o→h6.get? b=some o)→(∀(i:Nat) (a:Addr) (o o':AO),ρ2[i]?=some a→σ2[i]?=some o→σ6[i]?=some o'→o.ver=o'.ver→h6.get? a=h5.get? a)→PreK ρ2 ρ6→TupKeep h5 h6→srcOk src σ6=true→S (i+1) h6 ρ6:=by
     intro ρ6 σ6 h6 tk6 hk hsame hpre htk6 sok6
     refine T.keep (i+1) h4 ρ2 h6 ρ6 st4 (fun b hb o eb=>?_) (fun r' v' a' es er=>?_) (fun b vs ep e=>htk6 b vs ep (t5 b vs ep e)) hpre
     ·have hbC:b≠C:=fun q=>ownC (q▸hb)
      have hbD:b≠D:=fun q=>ownD (q▸hb)
      exact hk b o (own3 b hb) hbD (b5 b o (fun q=>hbC (frC b q)) eb)
     ·obtain⟨o,o',e1,e2,e3⟩:=srcOk_ver es sok3 sok6
      have ha':a'∈ρ2:=List.mem_of_getElem? er
      have hnf:a'∉frame (compCtx c scope names ts next) (compEnvC scope cl C env):=fun hf=>(fr4 a' hf).1 ha'
      rw[hsame r' a' o o' er e1 e2 e3]
      obtain⟨ob,eb⟩:=SR.liveAll x4 a' ha'
      rw[eb]
      exact b5 a' ob hnf eb
    have ns5:∃m5,h5.Ns C m5:=v5.ns
    split at hgo
    ·cases hgo
    ·rename_i σ6 q6
     split at hgo
     ·rename_i sok6
      refine Ifs.ok hf a5 hC q6 fun ρ6 h6 tk6 g6 x6=>?_
      rw[if_neg (by decide)]
      obtain⟨m5,o5,es5,ep5,e5,r5⟩:=ns5
      refine⟨ds.length-i,by omega,i+1,ρ6,σ6,h6,tk6,m5,es0,rfl,by omega,hil,keepSt ρ6 σ6 h6 tk6 (fun b o hb _ e=>g6.ext b o e hb) g6.same (fun _ _ e=>g6.get e) (x5.tupKeep g6) sok6,sok6,g5.trans g6,x6,
       ⟨o5,es5,ep5,g6.ext C o5 e5 cn3,r5⟩,g6.notIn cn3 e5,g6.notIn dn3 eD5,fun b hb=>?_,hd5.stay x5 dn3 g6,by rw[hdr];exact hgo⟩
      obtain⟨o,e⟩:=T.live _ _ _ st4 b hb
      exact g6.notIn (own3 b hb) (b5 b o (fun q=>ownC ((frC b q)▸hb)) e)
     ·cases hgo
    ·rename_i σ6 q6
     split at hgo
     ·rename_i ks σ7 q7
      split at hgo
      ·cases hgo
      ·rename_i kk hkk
       split at hgo
       ·cases hgo
       ·rename_i dv σ8 q8
        split at hgo
        ·rename_i hok
         simp only[Bool.and_eq_true,decide_eq_true_eq] at hok
         refine Ifs.ok hf a5 hC q6 fun ρ6 h6 tk6 g6 x6=>?_
         rw[if_pos rfl]
         refine hx _ _ _ _ _ _ _ _ _ _ _ (a5.grow g6 x6 tk6) hC q7 fun v7 ρ7 h7 tk7 g7 x7 r7=>?_
         refine hy _ _ _ _ _ _ _ _ _ _ _ (a5.grow (g6.trans g7) x7 tk7) hC q8 fun v8 ρ8 h8 tk8 g8 x8 r8=>?_
         have g68:=(g6.trans g7).trans g8
         have hd8:DictAt K.prog K.w K.H₀ h8 ρ8 D es0:=hd5.stay x5 dn3 g68
         have dn8:D∉ρ8:=g68.notIn dn3 eD5
         obtain⟨t,ws,epk,rfl,gk8,rk8⟩:=r7.grow x7 g8
         refine dictSet_ok (A:=A) (by have:=a.room.u;omega) hd8 (keyRep_of ⟨t,ws,epk,rfl,gk8,rk8⟩ hkk) r8 hok.2 fun h9 tk9 hsU dx9=>?_
         have hnt:=hd8.notTup
         have x9:K.sr ρ8 σ8 h9:=x8.other hsU dn8 (a.sr.freshBase hD0) hnt
         obtain⟨oD9,eD9⟩:=dx9.here
         have g9:Grow ρ σ ρ8 σ8 s.heap h9:=(g5.trans g68).other (SR.liveAll a.sr) hD0 hsU eD9
         obtain⟨m5,o5,es5,ep5,e5,r5⟩:=ns5
         have eC8:h8.get? C=some o5:=g68.ext C o5 e5 cn3
         refine⟨ds.length-i,by omega,i+1,ρ8,σ8,_,tk9,m5,dput es0 kk dv,rfl,by omega,hil,keepSt ρ8 σ8 _ tk9 (fun b o hb hbD e=>(hsU.2 b hbD).trans (g68.ext b o e hb)) (fun i' a' o o' e1 e2 e3 e4=>?_) (fun _ _ e=>g68.get e) (fun b vs' ep' e=>?_) hok.1,hok.1,g9,x9,
          ⟨o5,es5,ep5,(hsU.2 C (Ne.symm hne)).trans eC8,r5⟩,g68.notIn cn3 e5,dn8,fun b hb=>?_,dx9,by rw[hdr];exact hgo⟩
         ·have ha':a'≠D:=fun q=>dn3 (q▸List.mem_of_getElem? e1)
          rw[hsU.2 a' ha']
          exact g68.same i' a' o o' e1 e2 e3 e4
         ·have hb':b≠D:=fun q=>hd5.notTup _ _ _ (q▸e) rfl rfl
          exact(hsU.2 b hb').trans (x5.tupKeep g68 b vs' ep' e)
         ·obtain⟨o,e⟩:=T.live _ _ _ st4 b hb
          exact g68.notIn (own3 b hb) (b5 b o (fun q=>ownC ((frC b q)▸hb)) e)
        ·cases hgo
     ·cases hgo
 have hcompEnv:({ newEnv scope C env.globals cl env.qual none .none (some env) 0 with scope:=relabel scope env }:Env)=compEnvC scope cl C env:=rfl
 have stSelf:wpAny K.M A (pyIter (.ref itA)) (fun it' s'=>codeAny K.M A (.compLoop (.DictComp kx vx [⟨target,iter,ifs,0⟩] scope spos) 0 it' (.ref D) (compEnvC scope cl C env)) (compPost K.M A E use Q (.ref D) C) s') (notedBy K.M A (compEnvC scope cl C env) fun x s'=>compPost K.M A E use Q (.ref D) C (.error x) s') { s with heap:=h2,toks:=tk1 }:=
  T.self 0 _ ρ1 _ _ st2 loop
 exact codeAny_compStart_dict loop stSelf
end
section
variable {K:Cfg} {c:Ctx} {env:Env} {n:Nat} {A:Around} {s:Shared} {ρ:List Addr} {σ:St} {l:Loc} {scope:Scope} {names:List Str} {ts:List Nat} {next:Nat}
theorem CompEnd.gone {ρ':List Addr} {σ':St} {h' h'':Heap} {D C:Addr} (e:CompEnd K s ρ σ ρ' σ' h' D C) (x0:K.sr ρ σ s.heap) (hs:Heap.SameBut C h' h'') :
  Grow ρ σ ρ' σ' s.heap h''∧K.sr ρ' σ' h''∧ButL [C] h' h''∧NotTup h' C:=by
 obtain⟨m,hn⟩:=e.ns
 have hb:=butL_same hs
 have hnt:=ns_notTup hn
 refine⟨e.g.otherL (SR.liveAll e.x) (fun b hb=>by rw[List.mem_singleton.mp hb];exact⟨e.c0,e.cn⟩) hb,e.x.otherL hb (fun b hb=>by rw[List.mem_singleton.mp hb];exact⟨e.cn,x0.freshBase e.c0,hnt⟩),hb,hnt⟩
structure LComp (K:Cfg) (c:Ctx) (elt target iter:Expr) (ifs:List Expr) (scope:Scope) (X I:Mine.X) (ts:List Nat) (many:Bool) (o:Option Mine.X):Prop where
 it:∀env v,foldedSetIterable iter env v=pure v
 ok:∃names next,ScopeOk c scope names ts next∧SimI K c target iter I∧targOk (compCtx c scope names ts next) target ts many=true∧SimE K (compCtx c scope names ts next) elt X∧
  (match o with|none=>ifs=[]|some Y=>∃e,ifs=[e]∧SimT K (compCtx c scope names ts next) e Y)
theorem LComp.run {elt target iter:Expr} {ifs:List Expr} {X I:Mine.X} {many:Bool} {o:Option Mine.X} {spos pos:Pos} {use:Option (Value→Sem Unit)} {es:List D} {σ':St} {Q:Value→Shared→Prop} {E:Value→Shared→Prop} (L:LComp K c elt target iter ifs scope X I ts many o)
  (a:At K c env n A s ρ σ l) (hC:CallsOK K n) (he:evL (K.C n) (.lcomp X ts many I o) l σ=some (es,σ'))
  (fin:∀D C ρ' h' tk' vs ep,CompEnd K s ρ σ ρ' σ' h' D C→h'.get? D=some (seqObj "list" vs ep)→Reps K.H₀ h' ρ' vs.toList es→compPost K.M A E use Q (.ref D) C (.ok .next) { s with heap:=h',toks:=tk' }) :
  wpAny K.M A (comprehension (.ListComp elt [⟨target,iter,ifs,0⟩] scope spos) scope env pos (newList []) false (eval iter env) use) Q E s:=by
 obtain⟨names,next,so,hi,ht,hx,hif⟩:=L.ok
 cases o with
 |none=>
  simp only at hif
  subst hif
  simp only[evL] at he
  split at he
  ·rename_i ds src σ1 h1
   split at he
   ·rename_i hl
    exact list_comp a hC so hi ht .none hx (L.it env) h1 hl he fin
   ·cases he
  ·cases he
 |some Y=>
  obtain⟨e,rfl,hT⟩:=hif
  simp only[evL] at he
  split at he
  ·rename_i ds src σ1 h1
   split at he
   ·rename_i hl
    exact list_comp a hC so hi ht (.one hT) hx (L.it env) h1 hl he fin
   ·cases he
  ·cases he
theorem SimL.comp {elt target iter:Expr} {ifs:List Expr} {X I:Mine.X} {many:Bool} {o:Option Mine.X} {pos:Pos} (L:LComp K c elt target iter ifs scope X I ts many o):SimL K c true (.ListComp elt [⟨target,iter,ifs,0⟩] scope pos) (.lcomp X ts many I o):=
 fun env n A s ρ σ l ds σ' Q E a hC he h=>by
  rw[arm_eval_ListComp]
  refine L.run (use:=none) a hC he fun D C ρ' h' tk' vs ep ce hD rr=>?_
  obtain⟨m,hn⟩:=ce.ns
  refine⟨m,hn,fun h'' hs=>?_⟩
  obtain⟨g,x,b,hnt⟩:=ce.gone a.sr hs
  exact h D vs ep ρ' h'' tk' g x (fun _=>⟨ce.d0,ce.dn⟩) ((hs.2 D ce.ne).trans hD) (rr.other hs hnt)
theorem SimS1.asgL {x:Str} {i:Nat} {np pos:Pos} {elt target iter:Expr} {ifs:List Expr} {X I:Mine.X} {many:Bool} {o:Option Mine.X} {cp:Pos} (L:LComp K c elt target iter ifs scope X I ts many o) (ok:c.ok=true) (hs:slotOk c (x,i)=true) :
  SimS1 K c (.Assign [.Name x np] (.ListComp elt [⟨target,iter,ifs,0⟩] scope cp) pos) (.asg i (.lst (.lcomp X ts many I o))):=fun env n A s ρ σ l fl l' σ' Q E a hC he p=>by
 have hsw:swapsWith (.ListComp elt [⟨target,iter,ifs,0⟩] scope cp) (some (.Name x np)) pos.line env=pure (env.blockKind==.function&&env.kindOf x==some .local&&np.line==cp.line
   && !(scope.names.any fun(n,k)=>n==x&&(k==.local || k==.cell))):=rfl
 simp only[exS,ev] at he
 split at he
 ·rename_i d σ1 h1
  split at h1
  ·rename_i es σ2 h2
   cases h1
   cases he
   cases hb:(env.blockKind==.function&&env.kindOf x==some .local&&np.line==cp.line&&!(scope.names.any fun(n,k)=>n==x&&(k==.local || k==.cell))) with
   |false=>
    rw[hb] at hsw
    refine wpAny_Assign_Name ?_ hsw
    have hX:=Sim.lst (SimL.comp (pos:=cp) L) (fun _ _=>rfl)
    refine hX.1 _ _ _ _ _ _ _ _ _ _ _ a hC (by simp only[ev,h2];rfl) fun v1 ρ1 hp1 tk1 g1 x1 r1=>?_
    exact storeName_ok a.ev x1 (a.vars.grow a.sr g1) ok hs r1 fun h' tk g x' v' _=>p .next ρ1 h' tk ((GrowX.of g1).trans g) x' v' rfl
   |true=>
    rw[hb] at hsw
    rw[exec_Assign_Name_used _ _ _ _ hsw]
    refine wpAny_bind (wpAny_standAt ?_)
    show wpAny K.M A ((comprehension (.ListComp elt [⟨target,iter,ifs,0⟩] scope cp) scope env _ (newList []) false (eval iter env) (some (assign (.Name x np) env)) >>= fun _=>pure ()) >>= fun _=>pure Flow.next) Q E s
    refine wpAny_bind (wpAny_bind (L.run (use:=some (assign (.Name x np) env)) a hC h2 fun D C ρ' h' tk' vs ep ce hD rr=>?_))
    have g1:=ce.g.adopt (ob:=.list es 0) ce.d0
    have x1:K.sr (ρ'++[D]) (σ2++[.list es 0]) h':=ce.x.adopt ce.dn (a.sr.freshBase ce.d0) ⟨vs,ep,hD,rr.more _⟩
    have v1:=a.vars.grow a.sr g1
    have r1:K.rep h' (ρ'++[D]) (.ref D) (.ref (List.length σ2)):=⟨D,rfl,by rw[←ce.x.len,List.getElem?_append_right (Nat.le_refl _),Nat.sub_self];rfl⟩
    obtain⟨hm,hk⟩:=slot_of hs
    have cn1:C∉ρ'++[D]:=fun q=>by
     rcases List.mem_append.mp q with q|q
     ·exact ce.cn q
     ·exact ce.ne (List.mem_singleton.mp q).symm
    have cF:C∉frame c env:=fun q=>by
     obtain⟨ob,eb⟩:=(a.vars.frameOk a.ev a.sr C q).2.2.2
     rw[ce.c0] at eb;cases eb
    refine wpAny_assign_Name (storeVar (s:={ s with heap:=h',toks:=tk' }) a.ev x1 v1 ok hm hk r1 fun h2 tk2 b2 lv2 x2 v2 t2=>?_)
    obtain⟨m,o,eo,ep',en,rn⟩:=ce.ns
    have en2:h2.get? C=some o:=b2 C o cF en
    refine⟨m,⟨o,eo,ep',en2,rn⟩,fun h3 hs3=>?_⟩
    refine wpAny_pure (wpAny_pure ?_)
    have hb3:=butL_same hs3
    have hnt:NotTup h2 C:=ns_notTup ⟨o,eo,ep',en2,rn⟩
    have x3:K.sr (ρ'++[D]) (σ2++[.list es 0]) h3:=x2.otherL hb3 fun b hb=>by rw[List.mem_singleton.mp hb];exact⟨cn1,a.sr.freshBase ce.c0,hnt⟩
    have gX:GrowX (frame c env) ρ σ (ρ'++[D]) (σ2++[.list es 0]) s.heap h2:=(GrowX.of g1).trans (growX_stores (s:={ s with heap:=h',toks:=tk' }) a.ev x1 v1 b2 lv2)
    have gX3:=gX.otherL (SR.liveAll x2) (L:=[C]) (fun b hb=>by rw[List.mem_singleton.mp hb];exact⟨.inl ce.c0,cn1⟩) (fun b hb hX=>by rw[List.mem_singleton.mp hb] at hX;exact absurd hX cF) hb3
    have v3:Vars K c env h3 (ρ'++[D]) (l.set i (some (.ref (List.length σ2)))):=v2.otherL hb3 (fun q=>cF (by rw[←List.mem_singleton.mp q];exact List.mem_cons_self ..)) (fun q hq b hb hk hbC=>by
     obtain⟨ob,eb⟩:=a.vars.cellsLive q hq b hb hk
     rw[List.mem_singleton.mp hbC,ce.c0] at eb;cases eb) fun b hb=>by rw[List.mem_singleton.mp hb];exact hnt
    exact p .next _ h3 tk2 gX3 x3 v3 rfl
  ·cases h1
 ·cases he
structure DComp (K:Cfg) (c:Ctx) (kx vx target iter:Expr) (ifs:List Expr) (scope:Scope) (X Y I:Mine.X) (ts:List Nat) (many:Bool) (o:Option Mine.X):Prop where
 it:∀env v,foldedSetIterable iter env v=pure v
 ok:∃names next,ScopeOk c scope names ts next∧SimI K c target iter I∧targOk (compCtx c scope names ts next) target ts many=true∧SimE K (compCtx c scope names ts next) kx X∧SimE K (compCtx c scope names ts next) vx Y∧
  (match o with|none=>ifs=[]|some Z=>∃e,ifs=[e]∧SimT K (compCtx c scope names ts next) e Z)
theorem Sim.dcomp {kx vx target iter:Expr} {ifs:List Expr} {X Y I:Mine.X} {many:Bool} {o:Option Mine.X} {pos:Pos} (L:DComp K c kx vx target iter ifs scope X Y I ts many o):Sim K c (.DictComp kx vx [⟨target,iter,ifs,0⟩] scope pos) (.dcomp X Y ts many I o):=
 Sim.of (fun env n A s ρ σ l d σ' Q E a hC he p=>by
  obtain⟨names,next,so,hi,ht,hx,hy,hif⟩:=L.ok
  rw[arm_eval_DictComp]
  have fin:∀(es:Es) (σ2:St),d = .ref σ2.length→σ'=σ2++[.dict es 0]→∀D C ρ' h' tk',CompEnd K s ρ σ ρ' σ2 h' D C→DictAt K.prog K.w K.H₀ h' ρ' D es→compPost K.M A E none Q (.ref D) C (.ok .next) { s with heap:=h',toks:=tk' }:=by
   rintro es σ2 rfl rfl D C ρ' h' tk' ce dx
   obtain⟨m,hn⟩:=ce.ns
   refine⟨m,hn,fun h'' hs=>?_⟩
   obtain⟨g,x,b,hnt⟩:=ce.gone a.sr hs
   have dx':DictAt K.prog K.w K.H₀ h'' ρ' D es:=dx.stayL b (fun q=>ce.ne (List.mem_singleton.mp q)) fun q hq=>by rw[List.mem_singleton.mp hq];exact hnt
   refine p _ (ρ'++[D]) h'' tk' (g.adopt ce.d0) (x.adopt ce.dn (a.sr.freshBase ce.d0) (Sim.dict.ObjRep.more dx' _)) ⟨D,rfl,?_⟩
   rw[←x.len,List.getElem?_append_right (Nat.le_refl _),Nat.sub_self];rfl
  cases o with
  |none=>
   simp only at hif
   subst hif
   simp only[ev] at he
   split at he
   ·rename_i ds src σ1 h1
    split at he
    ·rename_i es σ2 h2
     cases he
     exact dict_comp a hC so hi ht .none hx hy (L.it env) h1 h2 (fin es σ2 rfl rfl)
    ·cases he
   ·cases he
  |some Z=>
   obtain⟨e,rfl,hT⟩:=hif
   simp only[ev] at he
   split at he
   ·rename_i ds src σ1 h1
    split at he
    ·rename_i es σ2 h2
     cases he
     exact dict_comp a hC so hi ht (.one hT) hx hy (L.it env) h1 h2 (fin es σ2 rfl rfl)
    ·cases he
   ·cases he) (fun _ _=>rfl)
end
section
variable {prog:Program} {w:World} {A:Around} {E:Value→Shared→Prop} {s:Shared}
theorem nodup_filter_one {es:Array DictEntry} (hn:(es.toList.map (·.hash)).Nodup) (e:DictEntry):¬(es.filter (·.hash==e.hash)).size>1:=by
 intro h
 have key:∀l:List DictEntry,(l.map (·.hash)).Nodup→(l.filter (·.hash==e.hash)).length≤1:=by
  intro l
  induction l with
  |nil=>intro _;simp
  |cons x r ih=>
   intro hn
   simp only[List.map_cons,List.nodup_cons] at hn
   by_cases q:x.hash==e.hash
   ·simp only[List.filter_cons,q,if_true]
    have:r.filter (·.hash==e.hash)=[]:=by
     rw[List.filter_eq_nil_iff]
     intro y hy hq
     exact hn.1 (by
      have:x.hash=y.hash:=by rw[beq_iff_eq] at q hq;rw[q,hq]
      rw[this];exact List.mem_map_of_mem hy)
    rw[this];simp
   ·have q':(x.hash==e.hash)=false:=by simpa using q
    simp only[List.filter_cons,q',Bool.false_eq_true,if_false]
    exact ih hn.2
 have h1:=key es.toList hn
 rw[←Array.toList_filter,Array.length_toList] at h1
 omega
theorem entriesH {id:String} {d:Addr} {o:Obj} {es:Array DictEntry} {ep:Nat} {xs:List (List Int×Addr×Value)} {Q:Array DictEntry→Shared→Prop} (ho:s.heap.get? d=some o) (hd:o.data = .dict es ep) (he:es.toList=xs.map (entryOfKey (kTup prog w)))
  (his:∀x∈xs,(kTup prog w).is s.heap x.1 x.2.1) (hn:(es.toList.map (·.hash)).Nodup) (h:Q es s):wpAny (model prog w) A (Builtin.Dict.entriesForEmpty id d) Q E s:=by
 unfold Builtin.Dict.entriesForEmpty
 refine wpAny_bind (wpAny_dictEntries ho hd ?_)
 refine wpAny_bind ?_
 rw[←Array.forIn_toList]
 refine wpAny_forIn_list _ (fun rest _ s'=>s'=s∧∀e∈rest,e∈es.toList) _ ?_ ?_ _ _ ⟨rfl,fun e he=>he⟩
 ·rintro e rest b s' ⟨rfl,hr⟩
  have hm:=hr e (List.mem_cons_self ..)
  rw[he] at hm
  obtain⟨x,hx,rfl⟩:=List.mem_map.mp hm
  have hT:s'.TypeIs (.ref x.2.1) "tuple":=by
   obtain⟨o',_,_,ho',hc',_⟩:=his x hx
   exact⟨o',ho',hc'⟩
  refine wpAny_bind ?_
  unfold Builtin.Dict.quietEq
  refine wpAny_bind (wpAny_specialOf hT PySem.F.slot_tuple_eq.lookup (wpAny_pure ?_))
  have e1:(some (Value.builtin "tuple.__eq__")==some (Value.builtin "object.__eq__"))=false:=by decide
  rw[e1]
  simp only[Bool.not_false,if_true]
  rw[if_neg (nodup_filter_one hn _)]
  exact wpAny_pure ⟨rfl,fun e he=>hr e (List.mem_cons_of_mem _ he)⟩
 ·rintro b s' ⟨rfl,_⟩
  exact wpAny_pure h
end
section
variable {K:Cfg} {c:Ctx} {env:Env} {n:Nat} {A:Around} {s:Shared} {ρ:List Addr} {σ:St} {l:Loc}
theorem Sim.dictOf {o:Expr} {O:Mine.X} {np pos:Pos} (hg:c.scope.names.lookup ("dict":Str)=some .globalImplicit) (hs:notStar o=true) (ho:SimE K c o O):Sim K c (.Call (.Name ("dict":Str) np) [o] [] pos) (.dictOf O):=
 Sim.of (fun env n A s ρ σ l d σ' Q E a hC he p=>by
  simp only[ev] at he
  split at he
  ·rename_i r σ1 h1
   split at he
   ·rename_i es w0 h3
    split at he
    ·rename_i hlim
     cases he
     refine callT1 (T:="dict") a hg (by decide) (by decide) (by decide) (by decide +kernel) hs (ho _ _ _ _ _ _ _ _ _ _ _ a hC h1 fun v1 ρ1 hp1 tk1 g1 x1 r1=>?_)
     obtain⟨t,rfl,gt⟩:=r1
     have hS:=notMod a.ok x1 (List.mem_of_getElem? gt)
     obtain⟨xs,⟨oo,ens,ep,ho,hc,hd,hee,his,hn⟩,hm,hr,kr⟩:=SR.dictAt x1 gt h3
     refine callType_codes (Q₁:=fun obj s₁=>obj = .ref hp1.objs.size∧s₁={ s with heap:=hp1.push { cls:=.type "dict",data:=.dict #[] },toks:=tk1 }) PySem.F.kt_called_dict (PySem.F.kt_typeCall_dict_1 _) PySem.F.entry_dict_init (kt_code_dict_new _ ⟨rfl,rfl⟩) ?_
     rintro obj s₁ ⟨rfl,rfl⟩
     have hnewg:(hp1.push { cls:=.type "dict",data:=.dict #[] }).get? hp1.objs.size=some { cls:=.type "dict",data:=.dict #[] }:=Heap.get?_push_size _ rfl
     have hnT:Shared.TypeIs { s with heap:=hp1.push { cls:=.type "dict",data:=.dict #[] },toks:=tk1 } (.ref hp1.objs.size) "dict":=⟨_,hnewg,rfl⟩
     have ho':(hp1.push { cls:=.type "dict",data:=.dict #[] }).get? t=some oo:=Heap.get?_push_of_some _ ho
     have hoT:Shared.TypeIs { s with heap:=hp1.push { cls:=.type "dict",data:=.dict #[] },toks:=tk1 } (.ref t) "dict":=⟨_,ho',hc.1⟩
     have hdo:hp1.objs.size≠t:=fun e=>absurd (Heap.lt_size ho) (by rw[e];exact Nat.lt_irrefl _)
     refine⟨hnT,PySem.F.args_dict_init_2 _ _,?_⟩
     unfold Builtin.«dict.__init__»
     refine wpAny_bind ?_
     unfold Builtin.Dict.selfAndRest
     refine wpAny_bind (wpAny_notOrdered_dict hnT ?_)
     show wpAny _ _ (pure (hp1.objs.size,[Value.ref t])) _ _ _
     refine wpAny_pure ?_
     show wpAny _ _ (Builtin.Dict.updateFrom "dict.__init__" hp1.objs.size (.ref t) [] .none) _ _ _
     unfold Builtin.Dict.updateFrom
     refine wpAny_bind (wpAny_typeOf hoT ?_)
     rw[if_neg (by decide)]
     refine wpAny_bind ?_
     unfold Builtin.Dict.merge
     refine wpAny_bind ?_
     unfold Builtin.Dict.readDirectly
     refine wpAny_bind (wpAny_isInstance hoT isSubtype_dict_dict ?_)
     simp only[Bool.not_true,Bool.false_eq_true,if_false]
     refine wpAny_bind (wpAny_specialOf hoT PySem.F.slot_dict_iter.lookup (wpAny_pure ?_))
     simp only[beq_self_eq_true,if_true]
     refine wpAny_bind (wpAny_pure ?_)
     have hxl:xs.length=es.length:=by simpa using congrArg List.length hm
     have hel:ens.size=xs.length:=size_of_entries hee
     have fin:∀h',Heap.SameBut hp1.objs.size (hp1.push { cls:=.type "dict",data:=.dict #[] }) h'→h'.DictOfH (kTup K.prog K.w) hp1.objs.size xs→Q (.ref hp1.objs.size) { s with heap:=h',toks:=tk1 }:=fun h' hs' dx=>by
      have keep:∀b o,hp1.get? b=some o→h'.get? b=some o:=fun b o e=>(hs'.2 b (Nat.ne_of_lt (Heap.lt_size e))).trans (Heap.get?_push_of_some _ e)
      have gk:=Grow.keeps x1 keep
      have htk:=x1.tupKeep gk
      have pre:PreK ρ1 (ρ1++[hp1.objs.size]):=fun _ _ e=>by rw[List.getElem?_append_left (List.getElem?_eq_some_iff.mp e).1];exact e
      refine p _ (ρ1++[hp1.objs.size]) h' tk1 ((g1.trans gk).adopt (g1.fresh (size_none _))) ((x1.keeps keep).adopt x1.sizeNot (x1.freshBase (size_none _)) ⟨xs,dx,hm,Reps.mono htk pre _ hr,fun y hy=>Rep.mono htk pre _ (kr y hy)⟩) ⟨_,rfl,?_⟩
      rw[←x1.len,List.getElem?_append_right (Nat.le_refl _),Nat.sub_self];rfl
     unfold Builtin.Dict.mergeDict
     rw[if_neg (by simpa using hdo)]
     unfold Builtin.Dict.showsAll
     rw[if_neg (by rw[hS];exact Bool.false_ne_true)]
     refine wpAny_bind (wpAny_pure ?_)
     refine wpAny_bind (wpAny_dictEntries ho' hd ?_)
     have hnd:(ens.toList.map (·.hash)).Nodup:=by
      have h1:=hlim.2
      simp only[hashesOk,decide_eq_true_eq] at h1
      have e1:(es.map fun e=>hashK e.1)=ens.toList.map (·.hash):=by
       rw[hee,List.map_map]
       have:(es.map fun e=>hashK e.1)=(es.map (·.1)).map hashK:=by rw[List.map_map];rfl
       rw[this,←hm,List.map_map]
       rfl
      rw[←e1];exact h1
     have hsz:ens.size≤sizeLine:=by rw[hel,hxl];exact LIM_line hlim.1
     dsimp only
     split
     ·refine wpAny_bind (wpAny_dictEntries hnewg rfl ?_)
      rw[if_pos (show(#[]:Array DictEntry).isEmpty=true from rfl)]
      have keepP:∀b o,hp1.get? b=some o→(hp1.push { cls:=.type "dict",data:=.dict #[] }).get? b=some o:=fun b o e=>Heap.get?_push_of_some _ e
      refine wpAny_bind (entriesH (s:={ s with heap:=hp1.push { cls:=.type "dict",data:=.dict #[] },toks:=tk1 }) ho' hd hee (fun x hx=>isKey_keeps (his x hx) fun o e=>keepP _ o e) hnd ?_)
      split
      ·refine wpAny_bind (wpAny_updateDictKeysTo hnewg rfl (wpAny_pure (wpAny_bind (wpAny_pure (wpAny_pure ⟨rfl,fin _ (Heap.SameBut.update ..) ⟨_,_,0+1,Heap.get?_update_self _ hnewg (Obj.isFreed_of_dict (Obj.data_mapDictKeys rfl _)),(show Obj.ExactDict _ from ⟨rfl,rfl,rfl⟩),Obj.data_mapDictKeys rfl _,hee,fun x hx=>?_,hn⟩⟩)))) (by omega))
       have hk1:=isKey_keeps (his x hx) fun o e=>keepP _ o e
       exact isKey_other hk1 (Heap.SameBut.update ..) (fun ob items n e hc _=>by rw[hnewg] at e;cases e;simp at hc)
      ·rename_i hem
       have h0:ens=#[]:=Array.isEmpty_iff.mp (by simpa using hem)
       have hx0:xs=[]:=List.length_eq_zero_iff.mp (by rw[←hel,h0];rfl)
       refine wpAny_pure (wpAny_bind (wpAny_pure (wpAny_pure ⟨rfl,fin _ (Heap.SameBut.refl _ _) ?_⟩)))
       rw[hx0];exact Heap.DictOfH.new _
     ·rename_i hfew
      have h0:ens=#[]:=by
       have hfew':(ens.all fun e=>(keyPart e.key).isSome)=true:=by
        have:(decide (ens.size≤8)&&ens.all fun e=>(keyPart e.key).isSome)=true:=by
         revert hfew
         generalize (decide (ens.size≤8)&&ens.all fun e=>(keyPart e.key).isSome)=bb
         cases bb<;>simp
        exact(Bool.and_eq_true _ _▸this).2
       cases hx:xs with
       |nil=>
        have:ens.size=0:=by rw[hel,hx];rfl
        exact Array.eq_empty_of_size_eq_zero this
       |cons y ys=>
        have hm0:entryOfKey (kTup K.prog K.w) y∈ens:=by
         rw[←Array.mem_toList_iff,hee,hx];simp
        have:=(Array.all_eq_true_iff_forall_mem.mp hfew') _ hm0
        simp[entryOfKey,keyPart] at this
      have hx0:xs=[]:=List.length_eq_zero_iff.mp (by rw[←hel,h0];rfl)
      subst h0
      refine wpAny_bind (wpAny_dictEpoch ho' hd ?_)
      refine wpAny_bind (wpAny_dictEntries ho' hd ?_)
      refine wpAny_bind (wpAny_of_eq (a:=PUnit.unit) (by rw[Std.Legacy.Range.forIn_eq_forIn_range'];rfl) ?_)
      refine wpAny_pure (wpAny_bind (wpAny_pure (wpAny_pure ⟨rfl,fin _ (Heap.SameBut.refl _ _) ?_⟩)))
      rw[hx0];exact Heap.DictOfH.new _
    ·cases he
   ·cases he
  ·cases he) (fun _ _=>rfl)
end
theorem list_no_keys:typeLookup (.type "list") "keys"=pure none:=by rw[typeLookup_type,builtinLookup_eq_fast];kernel_rfl
section
variable {prog:Program} {w:World} {A:Around} {E:Value→Shared→Prop} {s:Shared}
theorem attr_keys {a:Addr} {xs:Array Value} {k:Nat} {Q:Option Value→Shared→Prop} (hx:s.heap.get? a=some (seqObj "list" xs k)) (hA:A.handled=none)
  (h:∀h' tk,(∀b o,s.heap.get? b=some o→h'.get? b=some o)→Q none { s with heap:=h',toks:=tk }):wpAny (model prog w) A (getAttr? (.ref a) "keys") Q E s:=by
 have hmiss:=list_no_keys
 obtain⟨hp,g,d,tk,os⟩:=s
 have hT:∀tk',(⟨hp,g,d,tk',os⟩:Shared).TypeIs (.ref a) "list":=fun _=>⟨_,hx,rfl⟩
 have f1:=sub_AttributeError
 have f3:=PySem.F.slot_list_getattribute.lookup
 have f4:=PySem.F.slot_list_getattribute.bind (.ref a)
 have f5:=am_list_getattr_none
 unfold getAttr? getAttrBy? getAttrBy
 repeat (any_goals (first|assumption|exact hT _|((with_reducible show wpAny _ _ (call (Value.builtin "list.__getattribute__") _ _) _ _ _);refine call_meets PySem.F.slot_list_getattribute (hT _) am_entry_list_getattribute (PySem.F.args_list_getattribute_2 _ _) (meets_getattribute_miss_list a xs k #[] "keys" _ hmiss (by decide) (by decide +kernel)) ⟨hx,hA,fun h' tk' e hx'=>?_⟩)|wp_step))
 obtain⟨t',u',he⟩:=hx'.there
 show wpAny _ _ (getattributeRaised _ _ _ _ _ _ _) _ _ _
 unfold getattributeRaised
 repeat (any_goals (first|assumption|wp_step))
 all_goals exact h _ _ hx'.keeps
theorem entry_upd:entryFor table "dict.update.loop"=some Builtin.«dict.update.loop»:=entryFor_of_tree (by kernel_rfl)
theorem plain_upd:plainId "dict.update.loop"=true:=by decide +kernel
end
section
variable {K:Cfg} {c:Ctx} {env:Env} {n:Nat} {A:Around} {s:Shared} {ρ:List Addr} {σ:St} {l:Loc}
theorem updLoop {h0:Heap} {it ad d:Addr} {vs:Array Value} {ep:Nat} {ds:List D} {es:Es} {R:Result→Shared→Prop} (hu:A.units+10<cLine) (hh:A.handled=none) (x:K.sr ρ σ h0) (hl:h0.get? ad=some (seqObj "list" vs ep)) (rr:Reps K.H₀ h0 ρ vs.toList ds)
  (hne:it≠d) (hit0:h0.get? it=none) (hd0:h0.get? d=none)
  (fin:∀h' tk',(∀b o,h0.get? b=some o→h'.get? b=some o)→DictAt K.prog K.w K.H₀ h' ρ d es→R (.ok (.ret .none)) { s with heap:=h',toks:=tk' }) :
  ∀(r:List D) (i:Nat) (acc:Es) (h:Heap) (tk:Nat),ds.drop i=r→pairsD acc r=some es→(∀b o,h0.get? b=some o→h.get? b=some o)→h.IsListIter it ad i→DictAt K.prog K.w K.H₀ h ρ d acc→
   codeAny K.M A (.builtin "dict.update.loop" ⟨[.ref d,.ref it,rawInt i,.none],[]⟩) R { s with heap:=h,toks:=tk }:=by
 intro r
 induction r with
 |nil=>
  intro i acc h tk hr he keep hit dx
  simp only[pairsD,Option.some.injEq] at he
  subst he
  refine codeAny_builtin entry_upd ?_
  rw[Around.under_plainId plain_upd _]
  have hlen:=rr.length
  have hi:ds.length≤i:=List.drop_eq_nil_iff.mp hr
  show wpAny _ A.in1 (pyNext (.ref it) >>= _) _ _ _
  refine wpAny_bind (wpAny_pyNext_list_end (s:={ s with heap:=h,toks:=tk }) hh hit ⟨_,keep _ _ hl,rfl,ep,rfl⟩ (by simp at hlen ⊢;omega) fun h' he'=>?_)
  refine wpAny_bind (wpAny_pure (wpAny_pure ?_))
  have keep':∀b o,h0.get? b=some o→h'.get? b=some o:=fun b o e=>he' b o (fun q=>by rw[q,hit0] at e;cases e) (keep b o e)
  have hnt:NotTup h it:=fun ob items n e hc hd=>by
   obtain⟨o,e1,hc1,_⟩:=hit
   rw[e1] at e;cases e
   rw[hc1] at hc;simp at hc
  exact fin h' tk keep' (dx.stayL (L:=[it]) (butL_ext he') (fun q=>hne (List.mem_singleton.mp q).symm) fun b hb=>by rw[List.mem_singleton.mp hb];exact hnt)
 |cons dd r ih=>
  intro i acc h tk hr he keep hit dx
  obtain⟨hdi,hdr⟩:=drop_get hr
  refine codeAny_builtin entry_upd ?_
  rw[Around.under_plainId plain_upd _]
  obtain⟨v,hv,rv⟩:=rr.get hdi
  show wpAny _ A.in1 (pyNext (.ref it) >>= _) _ _ _
  refine wpAny_bind (wpAny_pyNext_list_item (s:={ s with heap:=h,toks:=tk }) hit ⟨_,keep _ _ hl,rfl,ep,rfl⟩ (by simpa using hv) fun h' hit' hs'=>?_)
  have hnt:NotTup h it:=fun ob items n e hc hd=>by
   obtain⟨o,e1,hc1,_⟩:=hit
   rw[e1] at e;cases e
   rw[hc1] at hc;simp at hc
  have keep':∀b o,h0.get? b=some o→h'.get? b=some o:=fun b o e=>(hs'.2 b (fun q=>by rw[q,hit0] at e;cases e)).trans (keep b o e)
  have dx':DictAt K.prog K.w K.H₀ h' ρ d acc:=dx.stayL (L:=[it]) (butL_same hs') (fun q=>hne (List.mem_singleton.mp q).symm) fun b hb=>by rw[List.mem_singleton.mp hb];exact hnt
  have x':=x.keeps keep'
  have gk:=Grow.keeps x keep'
  match dd,he,rv with
  | .tup [.tup ks,dv],he,rv=>
   simp only[pairsD] at he
   split at he
   ·rename_i kk hkk
    split at he
    ·rename_i hlim
     obtain⟨t,ws,ep2,rfl,gt,rw'⟩:=rv.grow x gk
     have hw:∃kv vv,ws=#[kv,vv]∧Rep K.H₀ h' ρ kv (.tup ks)∧Rep K.H₀ h' ρ vv dv:=by
      obtain⟨wl⟩:=ws
      match wl,rw' with
      | [kv,vv],rw'=>exact⟨kv,vv,rfl,rw'.1,rw'.2.1⟩
      | [],rw'=>simp[Reps] at rw'
      | [_],rw'=>simp[Reps] at rw'
      |_::_::_::_,rw'=>simp[Reps] at rw'
     obtain⟨kv,vv,rfl,rk,rvv⟩:=hw
     obtain⟨tk',ws',ep3,rfl,gk',rk'⟩:=rk
     refine wpAny_bind (wpAny_holding ?_)
     refine wpAny_bind (wpAny_tryCatch ?_)
     unfold Builtin.Dict.pairItems
     refine wpAny_bind (wpAny_typeOf (T:="tuple") ⟨_,gt,rfl⟩ ?_)
     rw[if_pos (by decide)]
     refine wpAny_bind (wpAny_seqItems gt rfl (wpAny_pure ?_))
     show wpAny _ _ (holding [Value.ref tk',vv] (dictSet d (.ref tk') vv)) _ _ _
     refine wpAny_holding (dictSet_ok (A:=A.in1) (show A.units+1+1<cLine by omega) dx' (keyRep_of ⟨tk',ws',ep3,rfl,gk',rk'⟩ hkk) rvv hlim fun h2 tk2 hs2 dx2=>?_)
     refine wpAny_pure ⟨plainId_quiet plain_upd _,?_⟩
     have hdn:∀b o,h0.get? b=some o→h2.get? b=some o:=fun b o e=>(hs2.2 b (fun q=>by rw[q,hd0] at e;cases e)).trans (keep' b o e)
     have hcast:rawInt ((i:Int)+1)=rawInt ((i+1:Nat):Int):=by rw[show((i+1:Nat):Int)=(i:Int)+1 by omega]
     show codeAny K.M A (.builtin "dict.update.loop" ⟨[.ref d,.ref it,rawInt ((i:Int)+1),.none],[]⟩) R _
     rw[hcast]
     refine ih (i+1) (dput acc kk dv) h2 tk2 hdr he hdn ?_ dx2
     obtain⟨o,e1,r1⟩:=hit'
     exact⟨o,(hs2.2 it hne).trans e1,r1⟩
    ·cases he
   ·cases he
theorem Sim.dictPairs {e:Expr} {X:Mine.X} {np pos:Pos} {fr:Bool} (hg:c.scope.names.lookup ("dict":Str)=some .globalImplicit) (hs:notStar e=true) (hx:SimL K c fr e X):Sim K c (.Call (.Name ("dict":Str) np) [e] [] pos) (.dictPairs X):=
 Sim.of (fun env n A s ρ σ l d σ' Q E a hC he p=>by
  simp only[ev] at he
  split at he
  ·rename_i ds σ1 h1
   split at he
   ·rename_i es h2
    cases he
    refine callT1 (T:="dict") a hg (by decide) (by decide) (by decide) (by decide +kernel) hs (hx _ _ _ _ _ _ _ _ _ _ _ a hC h1 fun ad vs ep ρ1 hp1 tk1 g1 x1 _ hl r1=>?_)
    refine callType_codes (Q₁:=fun obj s₁=>obj = .ref hp1.objs.size∧s₁={ s with heap:=hp1.push { cls:=.type "dict",data:=.dict #[] },toks:=tk1 }) PySem.F.kt_called_dict (PySem.F.kt_typeCall_dict_1 _) PySem.F.entry_dict_init (kt_code_dict_new _ ⟨rfl,rfl⟩) ?_
    rintro obj s₁ ⟨rfl,rfl⟩
    have hnewg:(hp1.push { cls:=.type "dict",data:=.dict #[] }).get? hp1.objs.size=some { cls:=.type "dict",data:=.dict #[] }:=Heap.get?_push_size _ rfl
    have hnT:Shared.TypeIs { s with heap:=hp1.push { cls:=.type "dict",data:=.dict #[] },toks:=tk1 } (.ref hp1.objs.size) "dict":=⟨_,hnewg,rfl⟩
    have hl':(hp1.push { cls:=.type "dict",data:=.dict #[] }).get? ad=some (seqObj "list" vs ep):=Heap.get?_push_of_some _ hl
    refine⟨hnT,PySem.F.args_dict_init_2 _ _,?_⟩
    unfold Builtin.«dict.__init__»
    refine wpAny_bind ?_
    unfold Builtin.Dict.selfAndRest
    refine wpAny_bind (wpAny_notOrdered_dict hnT ?_)
    show wpAny _ _ (pure (hp1.objs.size,[Value.ref ad])) _ _ _
    refine wpAny_pure ?_
    show wpAny _ _ (Builtin.Dict.updateFrom "dict.__init__" hp1.objs.size (.ref ad) [] .none) _ _ _
    unfold Builtin.Dict.updateFrom
    refine wpAny_bind (wpAny_typeOf (T:="list") ⟨_,hl',rfl⟩ ?_)
    rw[if_pos (by decide)]
    refine wpAny_bind (attr_keys (s:={ s with heap:=hp1.push { cls:=.type "dict",data:=.dict #[] },toks:=tk1 }) hl' a.room.handled fun h3 tk3 k3=>?_)
    rw[if_pos (by rfl)]
    refine wpAny_bind (wpAny_rule ?_)
    refine wpAny_bind ?_
    refine wpAny_pyIter_list ⟨_,k3 _ _ hl',rfl,ep,rfl⟩ ?_
    refine wpAny_pure ⟨plainId_quiet plain_upd _,?_⟩
    have keepI:∀b o,hp1.get? b=some o→(h3.push { cls:=.type "list_iterator",data:=.fields #[.ref ad,.int 0 0] }).get? b=some o:=fun b o e=>Heap.get?_push_of_some _ (k3 b o (Heap.get?_push_of_some _ e))
    have hlt:hp1.objs.size<h3.objs.size:=Heap.lt_size (k3 _ _ hnewg)
    refine updLoop (s:=s) (A:=A.in1) (it:=h3.objs.size) (d:=hp1.objs.size) (ds:=ds) (es:=es) (by have:=a.room.units;show A.units+1+10<cLine;omega) a.room.handled x1 hl r1 (Nat.ne_of_gt hlt) (size_ge (Nat.le_of_lt hlt)) (size_none _) (fun h' tk' k' dx=>?_) ds 0 [] _ tk3 rfl h2 keepI ⟨_,Heap.get?_push_size _ rfl,rfl,rfl⟩ ?_
    ·have gk:=Grow.keeps x1 k'
     refine⟨rfl,p _ (ρ1++[hp1.objs.size]) h' tk' ((g1.trans gk).adopt (g1.fresh (size_none _))) ((x1.keeps k').adopt x1.sizeNot (x1.freshBase (size_none _)) (Sim.dict.ObjRep.more dx _)) ⟨_,rfl,?_⟩⟩
     rw[←x1.len,List.getElem?_append_right (Nat.le_refl _),Nat.sub_self];rfl
    ·have xp:K.sr ρ1 σ1 (hp1.push { cls:=.type "dict",data:=.dict #[] }):=x1.push _
     exact(DictAt.new hp1 ρ1).stay xp x1.sizeNot (Grow.keeps xp fun b o e=>Heap.get?_push_of_some _ (k3 b o e))
   ·cases he
  ·cases he) (fun _ _=>rfl)
end
section
variable {prog:Program} {w:World} {A:Around} {E:Value→Shared→Prop} {s:Shared}
theorem iter_items {v d:Addr} {o:Obj} {es:Array DictEntry} {ep:Nat} {Q:Value→Shared→Prop} (hv:s.heap.IsItemsView v d) (ho:s.heap.get? d=some o) (hdat:o.data = .dict es ep)
  (hQ:Q (.ref s.heap.objs.size) { s with heap:=s.heap.push { cls:=.type "dict_itemiterator",data:=.fields #[.none,.bool false,.ref d,.int 0 0,.int es.size 0,.int ep 0,.none,.none] } }) :
  wpAny (model prog w) A (pyIter (.ref v)) Q E s:=by
 obtain⟨ov,hov,hcv,hdv⟩:=id hv
 refine wpAny_pyIter_slot hv.typeIs PySem.F.slot_dict_items_iter (wpAny_call_entry PySem.F.slot_dict_items_iter hv.typeIs PySem.F.entry_dict_items_iter ?_ (PySem.F.args_dict_items_iter_1 _))
 unfold Builtin.«dict_items.__iter__»
 refine wpAny_bind (wpAny_pure ?_)
 refine wpAny_bind ?_
 unfold Builtin.Dict_items.dictOf
 refine wpAny_bind (wpAny_field hov hdv (x:=.ref d) rfl (wpAny_pure ?_))
 refine wpAny_bind ?_
 unfold Builtin.Dict_items.newIterator
 refine wpAny_bind (wpAny_dictEntries ho hdat ?_)
 refine wpAny_bind (wpAny_dictEpoch ho hdat ?_)
 have hown:Builtin.Dict_items.ownsTuple "dict_itemiterator"=true:=by decide
 simp only[hown,if_true]
 refine wpAny_newObj_type (wpAny_pure ⟨_,rfl, "dict_itemiterator",_,⟨_,Heap.get?_push_size _ rfl,rfl⟩,PySem.F.slot_dict_itemiterator_next.lookup,?_⟩)
  (by simp only[sizeOk,Builtin.Dict_items.ownedTupleFields,List.size_toArray,List.length_append,List.length_cons,List.length_nil,sizeLine_eq];omega)
 simpa [rawInt,Builtin.Dict_items.ownedTupleFields] using hQ
inductive ItSt (h:Heap) (it d S:Addr) (i n ep:Nat):Prop
 |start (e:i=0) (ok ov:Value) (g:IsItemIter h it d i n ep ok ov):ItSt h it d S i n ep
 |out (ok ov:Value) (a:Addr) (f:Bool) (oa:Obj) (g:KdxIt h it d i n ep ok ov a f) (ga:h.get? a=some oa) (n1:a≠it) (n2:a≠S):ItSt h it d S i n ep
theorem ItSt.keep {h h':Heap} {it d S:Addr} {i n ep:Nat} (x:ItSt h it d S i n ep) (hk:∀b o,b≠S→h.get? b=some o→h'.get? b=some o) (hI:it≠S):ItSt h' it d S i n ep:=by
 cases x with
 |start e ok ov g=>exact .start e ok ov (hk _ _ hI g)
 |out ok ov a f oa g ga n1 n2=>exact .out ok ov a f oa (hk _ _ hI g) (hk _ _ n2 ga) n1 n2
theorem ItSt.get {h:Heap} {it d S:Addr} {i n ep:Nat} (x:ItSt h it d S i n ep):∃o,h.get? it=some o∧o.cls = .type "dict_itemiterator":=by
 cases x with
 |start e ok ov g=>exact⟨_,g,rfl⟩
 |out ok ov a f oa g ga n1 n2=>exact⟨_,g,rfl⟩
theorem next_items {it d S:Addr} {i ep:Nat} {od:Obj} {es:Array DictEntry} {e:DictEntry} {Q:Option Value→Shared→Prop} (hst:ItSt s.heap it d S i es.size ep) (hS:S<s.heap.objs.size)
  (hod:s.heap.get? d=some od) (hdd:od.data = .dict es ep) (hx:es[i]?=some e)
  (hQ:∀h',ItSt h' it d S (i+1) es.size ep→h'.get? s.heap.objs.size=some (seqObj "tuple" #[e.key,e.val] 0)→h'.objs.size=s.heap.objs.size+1→
   (∀b o,b≠it→s.heap.get? b=some o→h'.get? b=some o)→Q (some (.ref s.heap.objs.size)) { s with heap:=h' }) :
  wpAny (model prog w) A (pyNext (.ref it)) Q E s:=by
 obtain⟨hp,g,dr,tk,os⟩:=s
 obtain⟨oit,hgit,hcit⟩:=hst.get
 have hT:Shared.TypeIs ⟨hp,g,dr,tk,os⟩ (.ref it) "dict_itemiterator":=⟨_,hgit,hcit⟩
 have hown:Builtin.Dict_items.ownsTuple "dict_itemiterator"=true:=by decide
 have hil:it<hp.objs.size:=Heap.lt_size hgit
 unfold pyNext
 refine wpAny_bind (wpAny_attempt (wpAny_callSpecial?_slot (name:=Str.ofString "__next__") hT PySem.F.slot_dict_itemiterator_next
  (wpAny_call_entry PySem.F.slot_dict_itemiterator_next hT PySem.F.entry_dict_itemiterator_next ?_ (PySem.F.args_dict_itemiterator_next_1 _))))
 cases hst with
 |start ei ok ov hit=>
  refine wpAny_bind (wpAny_pure ?_)
  refine wpAny_bind ?_
  refine wpAny_bind ?_
  first|refine wpAny_bind (wpAny_typeNameOfWhole_itemiter hT (wpAny_pure ?_))|refine wpAny_bind (wpAny_typeNameOf_itemiter hT (wpAny_pure ?_))
  refine wpAny_bind (wpAny_fieldsOf hit rfl ?_)
  simp only[hown,if_true]
  show wpAny _ _ (if (Value.ref d==Value.none)=true then _ else _) _ _ _
  rw[if_neg (show ¬((Value.ref d==Value.none)=true) from Bool.false_ne_true)]
  refine wpAny_bind (wpAny_pure ?_)
  refine wpAny_bind (wpAny_dictEntries hod hdd ?_)
  rw[if_neg (by simp)]
  refine wpAny_bind (wpAny_pure ?_)
  refine wpAny_bind (wpAny_dictEpoch hod hdd ?_)
  rw[if_neg (by simp)]
  refine wpAny_pure ?_
  simp only[show ¬((i:Int)<0) from by omega,if_false,Int.toNat_natCast,hx]
  refine wpAny_bind ?_
  first|refine wpAny_bind (wpAny_typeNameOfWhole_itemiter hT (wpAny_pure ?_))|refine wpAny_bind (wpAny_typeNameOf_itemiter hT (wpAny_pure ?_))
  refine wpAny_bind (wpAny_isOneOf_itemiter hT ?_)
  show wpAny _ _ (setField (.ref it) 3 (rawInt ((i:Int)+1)) >>= _) _ _ ⟨hp,g,dr,tk,os⟩
  refine wpAny_bind (wpAny_setField_rec hit (by simp) fun h₁ he₁ hs₁=>?_)
  replace hs₁:Heap.SameBut it hp h₁:=hs₁
  replace he₁:IsItemIter h₁ it d (i+1) es.size ep ok ov:=by
   have e:((i+1:Nat):Int)=(i:Int)+1:=by omega
   unfold IsItemIter;rw[e];simpa [rawInt] using he₁
  have hT₁:Shared.TypeIs ⟨h₁,g,dr,tk,os⟩ (.ref it) "dict_itemiterator":=⟨_,he₁,rfl⟩
  refine wpAny_bind (wpAny_holding ?_)
  refine wpAny_bind (wpAny_isOneOf_itemiter hT₁ ?_)
  refine wpAny_bind (wpAny_isOneOf_itemiter hT₁ ?_)
  show wpAny _ _ (Builtin.Dict_items.pairFromOwner (.ref it) 6 e.key e.val) _ _ ⟨h₁,g,dr,tk,os⟩
  unfold Builtin.Dict_items.pairFromOwner
  refine wpAny_bind (wpAny_newTuple ?_)
  have he₂:IsItemIter (h₁.push { cls:=.type "tuple",data:=.seq #[e.key,e.val] }) it d (i+1) es.size ep ok ov:=Heap.get?_push_of_some _ he₁
  generalize hh₂:h₁.push { cls:=.type "tuple",data:=.seq #[e.key,e.val] }=h₂ at he₂
  have hz₁:h₁.objs.size=hp.objs.size:=hs₁.1
  have ht₂:h₂.get? hp.objs.size=some (seqObj "tuple" #[e.key,e.val] 0):=by rw[←hh₂,←hz₁];exact Heap.get?_push_size _ rfl
  have hz₂:h₂.objs.size=hp.objs.size+1:=by rw[←hh₂,Heap.size_push,hz₁]
  have hk₂:∀b o,b≠it→hp.get? b=some o→h₂.get? b=some o:=fun b o hb e=>by rw[←hh₂];exact Heap.get?_push_of_some _ (hs₁.extBut b o hb e)
  show wpAny _ _ (Builtin.Dict_items.ownedTupleIsFree (.ref it) >>= _) _ _ ⟨h₂,g,dr,tk,os⟩
  rw[hz₁]
  clear hh₂ he₁ hs₁ hT₁ hz₁ h₁
  refine wpAny_bind ?_
  unfold Builtin.Dict_items.ownedTupleIsFree
  refine wpAny_bind (wpAny_field he₂ rfl (x:=.none) rfl (wpAny_pure ?_))
  simp only[if_true]
  refine wpAny_bind (wpAny_field he₂ rfl (x:=ok) rfl ?_)
  refine wpAny_bind (wpAny_field he₂ rfl (x:=ov) rfl ?_)
  refine wpAny_bind (wpAny_setField_rec he₂ (by simp) fun h₃ he₃ hs₃=>?_)
  replace hs₃:Heap.SameBut it h₂ h₃:=hs₃
  replace he₃:IsItemIter h₃ it d (i+1) es.size ep e.key ov:=he₃
  refine wpAny_bind (wpAny_setField_rec he₃ (by simp) fun h₄ he₄ hs₄=>?_)
  replace hs₄:Heap.SameBut it h₃ h₄:=hs₄
  replace he₄:IsItemIter h₄ it d (i+1) es.size ep e.key e.val:=he₄
  refine wpAny_bind (wpAny_setField_rec he₄ (by simp) fun h₅ he₅ hs₅=>?_)
  replace hs₅:Heap.SameBut it h₄ h₅:=hs₅
  replace he₅:IsItemIterOut h₅ it d (i+1) es.size ep e.key e.val hp.objs.size:=he₅
  refine wpAny_bind (wpAny_setField_rec he₅ (by simp) fun h₆ he₆ hs₆=>?_)
  replace hs₆:Heap.SameBut it h₅ h₆:=hs₆
  replace he₆:IsItemIterOut h₆ it d (i+1) es.size ep e.key e.val hp.objs.size:=he₆
  have ht₆:h₆.get? hp.objs.size=some (seqObj "tuple" #[e.key,e.val] 0):=hs₆.extBut _ _ (Nat.ne_of_gt hil) (hs₅.extBut _ _ (Nat.ne_of_gt hil) (hs₄.extBut _ _ (Nat.ne_of_gt hil) (hs₃.extBut _ _ (Nat.ne_of_gt hil) ht₂)))
  refine wpAny_bind (wpAny_letGo (wpAny_pure (wpAny_pure ⟨_,rfl,wpAny_pure (hQ h₆ (.out _ _ hp.objs.size false _ he₆ ht₆ (Nat.ne_of_gt hil) (Nat.ne_of_gt hS)) ht₆ ?_ ?_)⟩)))
  ·show h₆.objs.size=hp.objs.size+1
   rw[hs₆.1,hs₅.1,hs₄.1,hs₃.1,hz₂]
  ·exact fun b o hb e=>hs₆.extBut b o hb (hs₅.extBut b o hb (hs₄.extBut b o hb (hs₃.extBut b o hb (hk₂ b o hb e))))
 |out ok ov a f oa hit ha hai haS=>
  refine wpAny_bind (wpAny_pure ?_)
  refine wpAny_bind ?_
  refine wpAny_bind ?_
  first|refine wpAny_bind (wpAny_typeNameOfWhole_itemiter hT (wpAny_pure ?_))|refine wpAny_bind (wpAny_typeNameOf_itemiter hT (wpAny_pure ?_))
  refine wpAny_bind (wpAny_fieldsOf hit rfl ?_)
  simp only[hown,if_true]
  show wpAny _ _ (if (Value.ref d==Value.none)=true then _ else _) _ _ _
  rw[if_neg (show ¬((Value.ref d==Value.none)=true) from Bool.false_ne_true)]
  refine wpAny_bind (wpAny_pure ?_)
  refine wpAny_bind (wpAny_dictEntries hod hdd ?_)
  rw[if_neg (by simp)]
  refine wpAny_bind (wpAny_pure ?_)
  refine wpAny_bind (wpAny_dictEpoch hod hdd ?_)
  rw[if_neg (by simp)]
  refine wpAny_pure ?_
  simp only[show ¬((i:Int)<0) from by omega,if_false,Int.toNat_natCast,hx]
  refine wpAny_bind ?_
  first|refine wpAny_bind (wpAny_typeNameOfWhole_itemiter hT (wpAny_pure ?_))|refine wpAny_bind (wpAny_typeNameOf_itemiter hT (wpAny_pure ?_))
  refine wpAny_bind (wpAny_isOneOf_itemiter hT ?_)
  show wpAny _ _ (setField (.ref it) 3 (rawInt ((i:Int)+1)) >>= _) _ _ ⟨hp,g,dr,tk,os⟩
  refine wpAny_bind (wpAny_setField_rec hit (by simp) fun h₁ he₁ hs₁=>?_)
  replace hs₁:Heap.SameBut it hp h₁:=hs₁
  replace he₁:KdxIt h₁ it d (i+1) es.size ep ok ov a f:=by
   have e:((i+1:Nat):Int)=(i:Int)+1:=by omega
   unfold KdxIt;rw[e];simpa [rawInt] using he₁
  have hT₁:Shared.TypeIs ⟨h₁,g,dr,tk,os⟩ (.ref it) "dict_itemiterator":=⟨_,he₁,rfl⟩
  refine wpAny_bind (wpAny_holding ?_)
  refine wpAny_bind (wpAny_isOneOf_itemiter hT₁ ?_)
  refine wpAny_bind (wpAny_isOneOf_itemiter hT₁ ?_)
  show wpAny _ _ (Builtin.Dict_items.pairFromOwner (.ref it) 6 e.key e.val) _ _ ⟨h₁,g,dr,tk,os⟩
  unfold Builtin.Dict_items.pairFromOwner
  refine wpAny_bind (wpAny_newTuple ?_)
  have he₂:KdxIt (h₁.push { cls:=.type "tuple",data:=.seq #[e.key,e.val] }) it d (i+1) es.size ep ok ov a f:=Heap.get?_push_of_some _ he₁
  generalize hh₂:h₁.push { cls:=.type "tuple",data:=.seq #[e.key,e.val] }=h₂ at he₂
  have hz₁:h₁.objs.size=hp.objs.size:=hs₁.1
  have ht₂:h₂.get? hp.objs.size=some (seqObj "tuple" #[e.key,e.val] 0):=by rw[←hh₂,←hz₁];exact Heap.get?_push_size _ rfl
  have hz₂:h₂.objs.size=hp.objs.size+1:=by rw[←hh₂,Heap.size_push,hz₁]
  have hk₂:∀b o,b≠it→hp.get? b=some o→h₂.get? b=some o:=fun b o hb e=>by rw[←hh₂];exact Heap.get?_push_of_some _ (hs₁.extBut b o hb e)
  show wpAny _ _ (Builtin.Dict_items.ownedTupleIsFree (.ref it) >>= _) _ _ ⟨h₂,g,dr,tk,os⟩
  rw[hz₁]
  clear hh₂ he₁ hs₁ hT₁ hz₁ h₁
  have ha₂:h₂.get? a=some oa:=hk₂ a oa hai ha
  refine wpAny_bind ?_
  unfold Builtin.Dict_items.ownedTupleIsFree
  refine wpAny_bind (wpAny_field he₂ rfl (x:=rawInt a) rfl ?_)
  show wpAny _ _ (loadIfAlive ((a:Int).toNat) >>= _) _ _ _
  rw[Int.toNat_natCast]
  refine wpAny_bind (kdx_alive ha₂ ?_)
  simp only[Option.isNone_some,Bool.false_eq_true,if_false]
  refine wpAny_bind (wpAny_field he₂ rfl (x:=.bool f) rfl ?_)
  have fin:∀h₃:Heap,KdxIt h₃ it d (i+1) es.size ep ok ov a true→Heap.SameBut it h₂ h₃→Q (some (.ref hp.objs.size)) ⟨h₃,g,dr,tk,os⟩:=fun h₃ he₃ hs₃=>
   hQ h₃ (.out ok ov a true oa he₃ (hs₃.extBut _ _ hai ha₂) hai haS) (hs₃.extBut _ _ (Nat.ne_of_gt hil) ht₂) (by show h₃.objs.size=hp.objs.size+1;rw[hs₃.1,hz₂]) fun b o hb e=>hs₃.extBut b o hb (hk₂ b o hb e)
  cases f with
  |true=>
   rw[if_neg (show ¬((Value.bool true != Value.bool true)=true) from Bool.false_ne_true)]
   refine wpAny_pure ?_
   simp only[Bool.false_eq_true,if_false]
   exact wpAny_pure (wpAny_pure ⟨_,rfl,wpAny_pure (fin h₂ he₂ (Heap.SameBut.refl _ _))⟩)
  |false=>
   rw[if_pos (show(Value.bool false != Value.bool true)=true from rfl)]
   refine wpAny_bind (wpAny_setField_rec he₂ (by simp) fun h₃ he₃ hs₃=>?_)
   replace hs₃:Heap.SameBut it h₂ h₃:=hs₃
   replace he₃:KdxIt h₃ it d (i+1) es.size ep ok ov a true:=he₃
   refine wpAny_pure ?_
   simp only[Bool.false_eq_true,if_false]
   exact wpAny_pure (wpAny_pure ⟨_,rfl,wpAny_pure (fin h₃ he₃ hs₃)⟩)
theorem end_items {it d S:Addr} {i ep:Nat} {od:Obj} {es:Array DictEntry} {Q:Option Value→Shared→Prop} (hh:A.handled=none) (hst:ItSt s.heap it d S i es.size ep)
  (hod:s.heap.get? d=some od) (hdd:od.data = .dict es ep) (hx:es[i]?=none) (hQ:∀h',Heap.ExtBut it s.heap h'→Q none { s with heap:=h' }):wpAny (model prog w) A (pyNext (.ref it)) Q E s:=by
 obtain⟨oit,hgit,hcit⟩:=hst.get
 have hT:s.TypeIs (.ref it) "dict_itemiterator":=⟨_,hgit,hcit⟩
 have hown:Builtin.Dict_items.ownsTuple "dict_itemiterator"=true:=by decide
 obtain⟨c0,f0,ok,ov,hit⟩:∃(c0:Value) (f0:Bool) (ok ov:Value),s.heap.get? it=some { cls:=.type "dict_itemiterator",dict:=none,data:=.fields #[c0,.bool f0,.ref d,.int i 0,.int es.size 0,.int ep 0,ok,ov],slots:=#[] }:=by
  cases hst with
  |start e ok ov g=>exact⟨_,_,_,_,g⟩
  |out ok ov a f oa g ga n1 n2=>exact⟨_,_,_,_,g⟩
 unfold pyNext
 refine wpAny_bind (wpAny_attempt (wpAny_callSpecial?_slot (name:=Str.ofString "__next__") hT PySem.F.slot_dict_itemiterator_next
  (wpAny_call_entry PySem.F.slot_dict_itemiterator_next hT PySem.F.entry_dict_itemiterator_next ?_ (PySem.F.args_dict_itemiterator_next_1 _))))
 refine wpAny_bind (wpAny_pure ?_)
 refine wpAny_bind ?_
 refine wpAny_bind ?_
 first|refine wpAny_bind (wpAny_typeNameOfWhole_itemiter hT (wpAny_pure ?_))|refine wpAny_bind (wpAny_typeNameOf_itemiter hT (wpAny_pure ?_))
 refine wpAny_bind (wpAny_fieldsOf hit rfl ?_)
 simp only[hown,if_true]
 show wpAny _ _ (if (Value.ref d==Value.none)=true then _ else _) _ _ s
 rw[if_neg (show ¬((Value.ref d==Value.none)=true) from Bool.false_ne_true)]
 refine wpAny_bind (wpAny_pure ?_)
 refine wpAny_bind (wpAny_dictEntries hod hdd ?_)
 rw[if_neg (by simp)]
 refine wpAny_bind (wpAny_pure ?_)
 refine wpAny_bind (wpAny_dictEpoch hod hdd ?_)
 rw[if_neg (by simp)]
 refine wpAny_pure ?_
 simp only[show ¬((i:Int)<0) from by omega,if_false,Int.toNat_natCast,hx]
 refine wpAny_bind ?_
 first|refine wpAny_bind (wpAny_typeNameOfWhole_itemiter hT (wpAny_pure ?_))|refine wpAny_bind (wpAny_typeNameOf_itemiter hT (wpAny_pure ?_))
 show wpAny _ _ (setField (.ref it) 2 .none >>= _) _ _ s
 refine wpAny_bind (wpAny_setField hit rfl (by simp) ?_)
 show wpAny _ _ (newExc (.type "StopIteration") [] >>= _) _ _ _
 refine wpAny_bind ?_
 simp only[newExc,newTuple]
 refine wpAny_bind (wpAny_newObj_type ?_ (by size_fits))
 refine wpAny_bind (m:=firstArgMember _ _) (wpAny_of_eq (a:=Value.none) (by first|rfl|(simp only[firstArgMember];rfl)) ?_)
 refine wpAny_newObj_type ?_ (by size_fits)
 simp only[raiseNew]
 refine wpAny_bind (wpAny_handled ?_)
 rw[show A.in1.handled=none from hh]
 refine wpAny_bind (wpAny_pure (wpAny_throw ?_))
 refine wpAny_bind (wpAny_isInstance (T:="StopIteration") (b:=true) ⟨_,Heap.get?_push_size _ rfl,rfl⟩ isSubtype_stop ?_)
 exact wpAny_pure (hQ _ (((Heap.SameBut.update ..).extBut.push _).push _))
end
section
variable {K:Cfg} {c:Ctx} {env:Env} {n:Nat} {A:Around} {s:Shared} {ρ:List Addr} {σ:St} {l:Loc}
def pairsOfE (es:Es):List D:=es.map fun e=>.tup [keyD e.1,e.2]
theorem itemsLoop {h1:Heap} {S I d:Addr} {od:Obj} {ens:Array DictEntry} {ep:Nat} {xs:List (List Int×Addr×Value)} {es:Es} {res:Value} {R:Result→Shared→Prop} (hh:A.handled=none) (x:K.sr ρ σ h1)
  (hod:h1.get? d=some od) (hdd:od.data = .dict ens ep) (hee:ens.toList=xs.map (entryOfKey (kTup K.prog K.w))) (hm:xs.map (·.1)=es.map (·.1)) (hr:Reps K.H₀ h1 ρ (xs.map (·.2.2)) (es.map (·.2))) (kr:Keyed K.H₀ h1 ρ xs) (hn:ens.size≤sizeLine)
  (hSI:S≠I) (hS0:h1.get? S=none) (hI0:h1.get? I=none)
  (fin:∀h' tk' vs k,(∀b o,h1.get? b=some o→h'.get? b=some o)→h'.get? S=some (seqObj "list" vs k)→Reps K.H₀ h' ρ vs.toList (pairsOfE es)→R (.ok (.ret res)) { s with heap:=h',toks:=tk' }) :
  ∀(k i:Nat) (h:Heap) (tk q:Nat) (acc:Array Value),ens.size-i=k→i≤ens.size→ItSt h I d S i ens.size ep→(∀b o,h1.get? b=some o→h.get? b=some o)→h.get? S=some (seqObj "list" acc q)→Reps K.H₀ h ρ acc.toList ((pairsOfE es).take i)→
   codeAny K.M A (.builtin "list.extend.loop" ⟨[.ref S,.ref I,res],[]⟩) R { s with heap:=h,toks:=tk }:=by
 have hlen:ens.size=es.length:=by
  rw[size_of_entries hee]
  simpa using congrArg List.length hm
 intro k
 induction k with
 |zero=>
  intro i h tk q acc hk hi st keep hS rr
  have hin:i=ens.size:=by omega
  refine codeAny_builtin PySem.F.entry_extend_loop ?_
  rw[Around.under_plainId PySem.F.plain_extend_loop _]
  show wpAny _ A.in1 (pyNext (.ref I) >>= _) _ _ _
  refine wpAny_bind (end_items (s:={ s with heap:=h,toks:=tk }) (A:=A.in1) hh st (keep _ _ hod) hdd (by simp;omega) fun h' he=>?_)
  have keep':∀b o,h1.get? b=some o→h'.get? b=some o:=fun b o e=>he b o (fun z=>by rw[z,hI0] at e;cases e) (keep b o e)
  refine wpAny_pure (fin h' tk acc q keep' (he S _ hSI hS) ?_)
  rw[List.take_of_length_le (by simp[pairsOfE];omega)] at rr
  obtain⟨oi,eg,ec⟩:=st.get
  have hnt:NotTup h I:=fun ob items n e hc hd=>by
   rw[eg] at e;cases e
   rw[ec] at hc;simp at hc
  exact Reps.mono (tupKeep_otherL (L:=[I]) (butL_ext he) fun b hb=>by rw[List.mem_singleton.mp hb];exact hnt) (fun _ _ e=>e) _ rr
 |succ k ih=>
  intro i h tk q acc hk hi st keep hS rr
  have hlt:i<ens.size:=by omega
  have hilt:i<es.length:=by omega
  have hxlt:i<xs.length:=by rw[←size_of_entries hee];exact hlt
  have hei:ens[i]?=some (entryOfKey (kTup K.prog K.w) xs[i]):=by rw[entry_at hee i,List.getElem?_eq_getElem hxlt];rfl
  refine codeAny_builtin PySem.F.entry_extend_loop ?_
  rw[Around.under_plainId PySem.F.plain_extend_loop _]
  show wpAny _ A.in1 (pyNext (.ref I) >>= _) _ _ _
  refine wpAny_bind (next_items (s:={ s with heap:=h,toks:=tk }) (S:=S) st (Heap.lt_size hS) (keep _ _ hod) hdd hei fun h' st' ht hz hkp=>?_)
  dsimp only at ht hz hkp ⊢
  have hS':h'.get? S=some (seqObj "list" acc q):=hkp S _ hSI hS
  have hSl:S<h.objs.size:=Heap.lt_size hS
  have up:∀b o,b≠S→h'.get? b=some o→(h'.update S (Obj.mapSeq (·.push (Value.ref h.objs.size)))).get? b=some o:=fun b o hb e=>(Heap.get?_update_other _ _ (Ne.symm hb)).trans e
  have hsz:acc.size=i:=by
   have:=rr.length
   simp[pairsOfE] at this
   omega
  have keep':∀b o,h1.get? b=some o→(h'.update S (Obj.mapSeq (·.push (Value.ref h.objs.size)))).get? b=some o:=fun b o e=>
   up b o (fun z=>by rw[z,hS0] at e;cases e) (hkp b o (fun z=>by rw[z,hI0] at e;cases e) (keep b o e))
  obtain⟨oi,eg,ec⟩:=st.get
  have htk:TupKeep h (h'.update S (Obj.mapSeq (·.push (Value.ref h.objs.size)))):=fun b vs' ep' e=>by
   have hbS:b≠S:=fun z=>by
    rw[z,hS] at e
    have:=congrArg (fun o=>o.map Obj.cls) e
    simp at this
   have hbI:b≠I:=fun z=>by
    rw[z,eg] at e
    cases e
    simp at ec
   exact up b _ hbS (hkp b _ hbI e)
  show wpAny _ A.in1 (updateSeq S (·.push (Value.ref h.objs.size)) >>= _) _ _ _
  refine wpAny_bind ?_
  have gk:=Grow.keeps x keep'
  refine wpAny_updateSeq hS' rfl (wpAny_pure ⟨plainId_quiet PySem.F.plain_extend_loop _,ih (i+1) _ tk _ (acc.push (Value.ref h.objs.size)) (by omega) hlt (st'.keep up (Ne.symm hSI)) keep' (IsL.update hS' _) ?_⟩) (by rw[hsz];omega) (by show(acc.push (Value.ref h.objs.size)).size≤sizeLine+1;rw[Array.size_push,hsz];omega)
  have hp:(pairsOfE es).take (i+1)=(pairsOfE es).take i++[.tup [keyD es[i].1,es[i].2]]:=by
   rw[List.take_add_one]
   congr 1
   simp[pairsOfE,List.getElem?_eq_getElem hilt]
  rw[hp,Array.toList_push]
  refine(Reps.mono htk (fun _ _ e=>e) _ rr).append ⟨?_,trivial⟩
  have hk1:xs[i].1=es[i].1:=by
   have h1:=congrArg (fun l=>l[i]?) hm
   simp only[List.getElem?_map,List.getElem?_eq_getElem hxlt,List.getElem?_eq_getElem hilt,Option.map_some,Option.some.injEq] at h1
   exact h1
  have r1:Rep K.H₀ h1 ρ (.ref xs[i].2.1) (keyD es[i].1):=hk1▸kr xs[i] (List.getElem_mem hxlt)
  have r2:Rep K.H₀ h1 ρ xs[i].2.2 es[i].2:=by
   obtain⟨v,e1,e2⟩:=hr.get (i:=i) (d:=es[i].2) (by simp[List.getElem?_eq_getElem hilt])
   rw[List.getElem?_map,List.getElem?_eq_getElem hxlt] at e1
   simp only[Option.map_some,Option.some.injEq] at e1
   rw[e1];exact e2
  exact⟨_,_,_,rfl,up _ _ (Nat.ne_of_gt hSl) ht,r1.grow x gk,r2.grow x gk,trivial⟩
def ItemsEnd (K:Cfg) (ρ:List Addr) (es:Es) (S:Addr) (s:Shared) (q:Result) (s':Shared):Prop:=
 ∃(h':Heap) (tk:Nat) (vs:Array Value) (k:Nat),q = .ok (.ret (.ref S))∧s'={ s with heap:=h',toks:=tk }∧(∀b o,s.heap.get? b=some o→h'.get? b=some o)∧h'.get? S=some (seqObj "list" vs k)∧Reps K.H₀ h' ρ vs.toList (pairsOfE es)
theorem collectItems {r d:Addr} {od:Obj} {ens:Array DictEntry} {ep:Nat} {xs:List (List Int×Addr×Value)} {es:Es} {Q:List Value→Shared→Prop} {E:Value→Shared→Prop} (hh:A.handled=none) (x:K.sr ρ σ s.heap) (hv:s.heap.IsItemsView r d)
  (hod:s.heap.get? d=some od) (hdd:od.data = .dict ens ep) (hee:ens.toList=xs.map (entryOfKey (kTup K.prog K.w))) (hm:xs.map (·.1)=es.map (·.1)) (hr:Reps K.H₀ s.heap ρ (xs.map (·.2.2)) (es.map (·.2))) (kr:Keyed K.H₀ s.heap ρ xs) (hn:ens.size≤sizeLine)
  (h:∀vs h' tk',(∀b o,s.heap.get? b=some o→h'.get? b=some o)→Reps K.H₀ h' ρ vs (pairsOfE es)→Q vs { s with heap:=h',toks:=tk' }) :
  wpAny K.M A (collect (.ref r)) Q E s:=by
 unfold collect
 refine wpAny_bind (wpAny_runValue (codeAny_builtin entry_proto_collect' ?_))
 rw[Around.under_plainId PySem.F.plain_proto_collect _]
 show wpAny _ A.in1 (newList [] >>= fun l=>again (.builtin "list.__iadd__" ⟨[l,.ref r],[]⟩)) _ _ s
 refine wpAny_bind (wpAny_newObj_type ?_)
 refine wpAny_pure ⟨plainId_quiet PySem.F.plain_list_iadd _,codeAny_builtin entry_list_iadd' ?_⟩
 rw[Around.under_plainId PySem.F.plain_list_iadd _]
 generalize hS:s.heap.objs.size=S
 have hS0:s.heap.get? S=none:=by rw[←hS];exact size_none _
 have hSg:(s.heap.push { cls:=.type "list",data:=.seq ([]:List Value).toArray }).get? S=some (seqObj "list" #[] 0):=by rw[←hS];exact Heap.get?_push_size _ rfl
 have hSz:(s.heap.push { cls:=.type "list",data:=.seq ([]:List Value).toArray }).objs.size=S+1:=by rw[Heap.size_push,hS]
 have kp:∀b o,s.heap.get? b=some o→(s.heap.push { cls:=.type "list",data:=.seq ([]:List Value).toArray }).get? b=some o:=fun b o e=>Heap.get?_push_of_some _ e
 generalize s.heap.push { cls:=.type "list",data:=.seq ([]:List Value).toArray }=h2 at hSg hSz kp ⊢
 show wpAny _ A.in1 (Builtin.List.listExtendWith (.ref S) (.ref r) (.ref S)) _ _ _
 have hvr:∃o,s.heap.get? r=some o:=let ⟨o,e,_⟩:=hv;⟨o,e⟩
 have hSr:S≠r:=fun z=>by obtain⟨o,e⟩:=hvr;rw[←z,hS0] at e;cases e
 have hv2:h2.IsItemsView r d:=let ⟨o,e,z⟩:=hv;⟨o,kp _ _ e,z⟩
 have key:∀(h:Heap) (q tk:Nat),(∀b o,b≠S→(h2.push { cls:=.type "dict_itemiterator",data:=.fields #[.none,.bool false,.ref d,.int 0 0,.int ens.size 0,.int ep 0,.none,.none] }).get? b=some o→h.get? b=some o)→h.get? S=some (seqObj "list" #[] q)→
   codeAny K.M A (.builtin "list.extend.loop" ⟨[.ref S,.ref (S+1),.ref S],[]⟩) (ItemsEnd K ρ es S s) { s with heap:=h,toks:=tk }:=by
  intro h q tk hk hSh
  have hI:h.get? (S+1)=some { cls:=.type "dict_itemiterator",data:=.fields #[.none,.bool false,.ref d,.int 0 0,.int ens.size 0,.int ep 0,.none,.none] }:=hk _ _ (Nat.succ_ne_self _) (by rw[←hSz];exact Heap.get?_push_size _ rfl)
  exact itemsLoop (s:=s) hh x hod hdd hee hm hr kr hn (Nat.ne_of_lt (Nat.lt_succ_self _)) hS0 (size_ge (by rw[hS];exact Nat.le_succ _)) (fun h' tk' vs k k1 k2 k3=>⟨h',tk',vs,k,rfl,rfl,k1,k2,k3⟩)
   ens.size 0 h tk q #[] (Nat.sub_zero _) (Nat.zero_le _) (.start rfl .none .none hI) (fun b o e=>hk b o (fun z=>by rw[z,hS0] at e;cases e) (Heap.get?_push_of_some _ (kp b o e))) hSh (by simp[Reps])
 have body:wpAny K.M A.in1 (Builtin.List.listExtendWith (.ref S) (.ref r) (.ref S)) (fun fin s'=>match fin with | .done f=>ItemsEnd K ρ es S s (.ok f) s' | .again c'=>c'.quiet=true∧codeAny K.M A c' (ItemsEnd K ρ es S s) s') (fun e s'=>ItemsEnd K ρ es S s (.error e) s') { s with heap:=h2 }:=by
  unfold Builtin.List.listExtendWith
  refine wpAny_bind (wpAny_typeOf (T:="dict_items") (Heap.IsItemsView.typeIs (s:={ s with heap:=h2 }) hv2) ?_)
  have e1:Builtin.List.listSameRef (.ref S) (.ref r)=false:=by simp[Builtin.List.listSameRef,hSr]
  have e2:(Value.type "dict_items"==Value.type "list")=false:=by decide
  have e3:(Value.type "dict_items"==Value.type "tuple")=false:=by decide
  simp only[e1,e2,e3,Bool.or_false,Bool.false_eq_true,if_false]
  refine wpAny_bind (iter_items (s:={ s with heap:=h2 }) hv2 (kp _ _ hod) hdd ?_)
  have hS₁:=Heap.get?_push_of_some { cls:=.type "dict_itemiterator",data:=.fields #[.none,.bool false,.ref d,.int 0 0,.int ens.size 0,.int ep 0,.none,.none] } hSg
  rw[show(Shared.heap { s with heap:=h2 }).objs.size=S+1 from hSz]
  refine wpAny_bind (wpAny_holding (kdx_hint (let ⟨o,ho,hc,_⟩:=hv2;⟨o,Heap.get?_push_of_some _ ho,hc⟩) ?_))
  refine wpAny_ite_split (fun _=>?_) (fun _=>wpAny_pure ⟨plainId_quiet PySem.F.plain_extend_loop _,key _ _ _ (fun b o _ e=>e) hS₁⟩)
  refine wpAny_bind (wpAny_rule ?_)
  refine wpAny_bind ?_
  show wpAny _ _ (updateSeq S (·.push .none) >>= fun _=>updateSeq S (·.pop)) _ _ _
  refine wpAny_bind (wpAny_updateSeq hS₁ rfl ?_)
  have hS₂:=Heap.get?_update_self (Obj.mapSeq (·.push Value.none)) hS₁ rfl
  refine wpAny_updateSeq (hz:=by seq_fits) hS₂ rfl ?_
  have hS₃:=Heap.get?_update_self (Obj.mapSeq (·.pop)) hS₂ rfl
  refine wpAny_pure ⟨plainId_quiet PySem.F.plain_extend_loop _,key _ _ _ (fun b o hb e=>?_) hS₃⟩
  exact(Heap.get?_update_other _ _ (Ne.symm hb)).trans ((Heap.get?_update_other _ _ (Ne.symm hb)).trans e)
 have last:∀(h':Heap) (tk:Nat) (vs:Array Value) (k:Nat),(∀b o,s.heap.get? b=some o→h'.get? b=some o)→h'.get? S=some (seqObj "list" vs k)→Reps K.H₀ h' ρ vs.toList (pairsOfE es)→wpAny K.M A (do
   let o←load S
   match o.data with
   | .seq xs _=>pure xs.toList
   |_=>unsupported "internal:collect") Q E { s with heap:=h',toks:=tk }:=fun h' tk vs k k1 k2 k3=>wpAny_bind (wpAny_load k2 (wpAny_pure (h vs.toList h' tk k1 k3)))
 refine wpAny_mono body (fun fin s' z=>?_) fun e s' z=>?_
 rotate_left
 ·obtain⟨_,_,_,_,z,_⟩:=z
  cases z
 cases fin with
 |done f=>
  obtain⟨h',tk,vs,k,e,rfl,k1,k2,k3⟩:=z
  cases e
  exact last h' tk vs k k1 k2 k3
 |again c₁=>
  refine⟨z.1,codeAny_mono z.2 fun q s₂ y=>?_⟩
  obtain⟨h',tk,vs,k,rfl,rfl,k1,k2,k3⟩:=y
  exact last h' tk vs k k1 k2 k3
theorem Sim.sortItems {o:Expr} {O:Mine.X} {np ap cp pos:Pos} (hg:c.scope.names.lookup ("sorted":Str)=some .globalImplicit) (hb:plainBase o=true) (hl:(ap.endLine==cp.line)=true) (ho:SimE K c o O) :
  Sim K c (.Call (.Name ("sorted":Str) np) [.Call (.Attribute o ("items":Str) ap) [] [] cp] [] pos) (.sortItems O):=
 Sim.of (fun env n A s ρ σ l d σ' Q E a hC he p=>by
  simp only[ev] at he
  split at he
  ·rename_i r σ1 h1
   split at he
   ·rename_i es w0 h3
    split at he
    ·rename_i ds h4
     cases he
     refine callB1 (id:="sorted") a hg (by decide) (by decide) (by decide) (by decide +kernel) rfl ?_
     refine wpAny_Call_method0_late (base_plain hb _ _) hl (ho _ _ _ _ _ _ _ _ _ _ _ a hC h1 fun v1 ρ1 hp1 tk1 g1 x1 r1=>?_)
     obtain⟨t,rfl,gt⟩:=r1
     have hS:=notMod a.ok x1 (List.mem_of_getElem? gt)
     obtain⟨xs,⟨oo,ens,ep,hoo,hc,hd,hee,his,hn⟩,hm,hr,kr⟩:=SR.dictAt x1 gt h3
     refine methOn PySem.F.plainAttrs_dict PySem.F.slot_dict_items PySem.F.type_dict_items hoo hc.1 hc.2.1 ?_
     refine method_meetsIn PySem.F.slot_dict_items PySem.F.entry_dict_items rfl (PySem.evalArgs_none ⟨rfl,⟨_,hoo,hc.1⟩,PySem.F.args_dict_items_1 _,(fun _ R s'=>s'.TypeIs (.ref t) "dict"∧R (.ok (.ret (.ref s'.heap.objs.size))) { s' with heap:=s'.heap.push { cls:=.type "dict_items",data:=.fields #[.ref t] } }),?_,⟨_,hoo,hc.1⟩,?_⟩)
     ·refine MeetsIn.of_wp fun A' R s' hh=>?_
      unfold Builtin.«dict.items»
      refine wpAny_bind ?_
      unfold Builtin.Dict.noArgs
      refine wpAny_bind (wpAny_notOrdered_dict hh.1 ?_)
      show wpAny _ _ (pure t) _ _ s'
      refine wpAny_pure ?_
      show wpAny _ _ (Builtin.Dict.showsAll t >>= _) _ _ s'
      unfold Builtin.Dict.showsAll
      rw[if_neg (by rw[hS];exact Bool.false_ne_true)]
      refine wpAny_bind (wpAny_pure ?_)
      exact wpAny_bind (wpAny_newObj_type (wpAny_pure ⟨_,rfl,hh.2⟩))
     ·refine Calls.call_function_entry kind_sorted plain_sorted entry_sorted (args_sorted1 _) ?_
      unfold Builtin.«sorted»
      refine wpAny_bind (m:=checkCount "sorted" 1 1 _) (wpAny_pure ?_)
      have xp:K.sr ρ1 σ1 (hp1.push { cls:=.type "dict_items",data:=.fields #[.ref t] }):=x1.push _
      have gp:=Grow.push x1 { cls:=.type "dict_items",data:=.fields #[.ref t] }
      have h64:es.length<64:=by
       unfold sortD at h4
       split at h4
       ·rename_i q;simp at q;omega
       ·split at h4
        ·rename_i hc
         simp only[Bool.and_eq_true,decide_eq_true_eq] at hc
         have:=hc.1
         simpa using this
        ·cases h4
      have hxl:ens.size=es.length:=by rw[size_of_entries hee];simpa using congrArg List.length hm
      refine wpAny_bind (collectItems (s:={ s with heap:=hp1.push { cls:=.type "dict_items",data:=.fields #[.ref t] },toks:=tk1 }) (A:=A.in1) (es:=es) a.room.handled xp ⟨_,Heap.get?_push_size _ rfl,rfl,rfl⟩ (Heap.get?_push_of_some _ hoo) hd hee hm (hr.push x1 _) (fun y hy=>(kr y hy).push x1 _) (by rw[hxl,sizeLine_eq];omega) fun vs h' tk' k' rr=>?_)
      have gk:=Grow.keeps xp k'
      refine sort_new (A:=A.in1) (s:={ s with heap:=h',toks:=tk' }) a.ok (show A.units+1+40<cLine by have:=a.room.units;omega) (xp.keeps k') rr h4 (fun v ρ' h'' tk'' g x r=>⟨v,rfl,p v ρ' h'' tk'' (((g1.trans gp).trans gk).trans g) x r⟩)
    ·cases he
   ·cases he
  ·cases he) (fun _ _=>rfl)
end
structure FnText (K:Cfg) (d:DefRec) (fn:Fn):Prop where
 c:∃c:Ctx,c.scope=d.scope∧c.ok=true∧SimS K c d.body fn.body∧
  (∀i x,(d.params.args.map (·.arg))[i]?=some x→(x,i)∈c.vars)∧(∀p∈c.vars,d.scope.names.lookup p.1=some .local∨d.scope.names.lookup p.1=some .cell)∧fn.nargs≤c.next
 len:(d.params.args.map (·.arg)).length=fn.nargs
 nd:(d.params.args.map (·.arg)).Nodup
 bind:∀(pm cd doc:Value) (vals:List Value),vals.length=fn.nargs→bindArgs (Calls.docDef d.name d.params d.body d.scope pm cd doc) ⟨vals,[]⟩=pure ((d.params.args.map (·.arg)).zip vals)
 slots:fn.nargs≤fn.nslots
 co:d.scope.isCoroutine=false
 gen:d.scope.isGenerator=false
 kind:d.scope.kind = .function
def FnAt (K:Cfg) (i:Nat) (d:DefRec):Prop:=
 ∃o pm cd doc,K.H₀.get? (K.fa i)=some o∧o.data = .func (Calls.docDef d.name d.params d.body d.scope pm cd doc)∧K.H₀.CodeRec cd d.name
theorem cellsFrom_some:∀(names:List (Str×NameKind)) (n:Nat) (acc:List (Str×Addr)) (x:Str),((acc.lookup x).isSome=true∨names.lookup x=some .cell)→((cellsFrom n names acc).lookup x).isSome=true
 | [],n,acc,x,h=>by
  rcases h with h|h
  ·exact h
  ·cases h
 |(y,k)::r,n,acc,x,h=>by
  unfold cellsFrom
  split
  ·refine cellsFrom_some r _ _ x ?_
   by_cases hxy:x=y
   ·subst hxy;left;simp
   ·rcases h with h|h
    ·left
     rw[List.lookup_cons,show(x==y)=false by simpa using hxy]
     exact h
    ·right
     rwa [List.lookup_cons,show(x==y)=false by simpa using hxy] at h
  ·rename_i hk
   refine cellsFrom_some r _ _ x ?_
   rcases h with h|h
   ·exact .inl h
   ·right
    by_cases hxy:x=y
    ·subst hxy
     rw[List.lookup_cons,show(x==x)=true by simp] at h
     simp only[Option.some.injEq] at h
     subst h
     exact absurd rfl hk
    ·rwa [List.lookup_cons,show(x==y)=false by simpa using hxy] at h
theorem bindL_other (kd:Str→Option NameKind):∀(bs:List (Str×Value)) (m:Str→Option Value) (x:Str),x∉bs.map (·.1)→bindL kd bs m x=m x
 | [],m,x,_=>rfl
 |(y,v)::r,m,x,h=>by
  simp only[List.map_cons,List.mem_cons,not_or] at h
  rw[bindL,bindL_other kd r _ x h.2]
  split
  ·simp[h.1]
  ·rfl
theorem bindC_other (kd:Str→Option NameKind):∀(bs:List (Str×Value)) (m:Str→Option Value) (x:Str),x∉bs.map (·.1)→bindC kd bs m x=m x
 | [],m,x,_=>rfl
 |(y,v)::r,m,x,h=>by
  simp only[List.map_cons,List.mem_cons,not_or] at h
  rw[bindC,bindC_other kd r _ x h.2]
  split
  ·rfl
  ·simp[h.1]
theorem bindL_at (kd:Str→Option NameKind):∀(bs:List (Str×Value)) (m:Str→Option Value) (i:Nat) (x:Str) (v:Value),(bs.map (·.1)).Nodup→bs[i]?=some (x,v)→kd x=some .local→bindL kd bs m x=some v
 | [],m,i,x,v,_,h,_=>by simp at h
 |(y,u)::r,m,0,x,v,nd,h,hk=>by
  simp only[List.getElem?_cons_zero,Option.some.injEq,Prod.mk.injEq] at h
  obtain⟨rfl,rfl⟩:=h
  simp only[List.map_cons,List.nodup_cons] at nd
  rw[bindL,bindL_other kd r _ y nd.1,if_pos hk]
  simp
 |(y,u)::r,m,i+1,x,v,nd,h,hk=>by
  simp only[List.map_cons,List.nodup_cons] at nd
  rw[bindL]
  exact bindL_at kd r _ i x v nd.2 (by simpa using h) hk
theorem bindC_at (kd:Str→Option NameKind):∀(bs:List (Str×Value)) (m:Str→Option Value) (i:Nat) (x:Str) (v:Value),(bs.map (·.1)).Nodup→bs[i]?=some (x,v)→kd x≠some .local→bindC kd bs m x=some v
 | [],m,i,x,v,_,h,_=>by simp at h
 |(y,u)::r,m,0,x,v,nd,h,hk=>by
  simp only[List.getElem?_cons_zero,Option.some.injEq,Prod.mk.injEq] at h
  obtain⟨rfl,rfl⟩:=h
  simp only[List.map_cons,List.nodup_cons] at nd
  rw[bindC,bindC_other kd r _ y nd.1,if_neg hk]
  simp
 |(y,u)::r,m,i+1,x,v,nd,h,hk=>by
  simp only[List.map_cons,List.nodup_cons] at nd
  rw[bindC]
  exact bindC_at kd r _ i x v nd.2 (by simpa using h) hk
theorem zip_fst {α β:Type}:∀(xs:List α) (ys:List β),xs.length=ys.length→(xs.zip ys).map (·.1)=xs
 | [],_,_=>rfl
 |x::xs,[],h=>by simp at h
 |x::xs,y::ys,h=>by simp only[List.zip_cons_cons,List.map_cons];rw[zip_fst xs ys (by simpa using h)]
theorem get?_past {h:Heap} {a:Addr} (ha:h.objs.size≤a):h.get? a=none:=by
 cases q:h.get? a with
 |none=>rfl
 |some o=>
  have:=(Heap.get?_some_iff.mp q).1
  rw[Array.getElem?_eq_some_iff] at this
  obtain⟨hlt,_⟩:=this
  exact absurd hlt (by omega)
theorem Reps.at_ {H₀ h:Heap} {ρ:List Addr}:∀{vs:List Value} {ds:List D} (_:Reps H₀ h ρ vs ds) (i:Nat) (d:D),ds[i]?=some d→∃v,vs[i]?=some v∧Rep H₀ h ρ v d
 | [],[],_,i,d,e=>by simp at e
 | [],_::_,r,_,_,_=>by simp[Reps] at r
 |_::_,[],r,_,_,_=>by simp[Reps] at r
 |v::vs,d'::ds,r,0,d,e=>by
  simp only[Reps] at r
  simp only[List.getElem?_cons_zero,Option.some.injEq] at e
  subst e
  exact⟨v,rfl,r.1⟩
 |v::vs,d'::ds,r,i+1,d,e=>by
  simp only[Reps] at r
  simpa using Reps.at_ r.2 i d (by simpa using e)
section
variable {K:Cfg} {A:Around} {s:Shared} {ρ:List Addr} {σ:St}
theorem nodup_pw {cs:List (Str×Addr)} (h:cs.Pairwise fun x y=>x.2≠y.2) {x y:Str} {a:Addr} (hx:(x,a)∈cs) (hy:(y,a)∈cs):x=y:=by
 induction cs with
 |nil=>simp at hx
 |cons c r ih=>
  simp only[List.pairwise_cons] at h
  rcases List.mem_cons.mp hx with e|hx'
  ·rcases List.mem_cons.mp hy with e'|hy'
   ·rw[←e] at e';cases e';rfl
   ·exact absurd (by rw[←e]) (h.1 _ hy')
  ·rcases List.mem_cons.mp hy with e'|hy'
   ·exact absurd (by rw[←e']) (h.1 _ hx')
   ·exact ih h.2 hx' hy'
theorem vars_start {d:DefRec} {fn:Fn} {c:Ctx} {env:Env} {s s₁:Shared} {vals:List Value} {ds:List D}
  (hs:c.scope=d.scope) (hok:c.ok=true) (hpar:∀i x,(d.params.args.map (·.arg))[i]?=some x→(x,i)∈c.vars)
  (hk:∀p∈c.vars,d.scope.names.lookup p.1=some .local∨d.scope.names.lookup p.1=some .cell) (hnx:fn.nargs≤c.next)
  (hlen:(d.params.args.map (·.arg)).length=fn.nargs) (hnd:(d.params.args.map (·.arg)).Nodup)
  (hks:env.scope=d.scope) (hL:env.locals=s.heap.objs.size) (hcs:env.cells=cellsFrom (s.heap.objs.size+1) d.scope.names [])
  (X:InCallC s env.locals (bindL env.kindOf ((d.params.args.map (·.arg)).zip vals) fun _=>none) env.cells (bindC env.kindOf ((d.params.args.map (·.arg)).zip vals) fun _=>none) s₁)
  (x:K.sr ρ σ s.heap) (r:Reps K.H₀ s.heap ρ vals ds) (hds:ds.length=fn.nargs) (m:Nat) :
  Vars K c env s₁.heap ρ (ds.map some++List.replicate m none):=by
 have hkof:∀y,env.kindOf y=d.scope.names.lookup y:=fun y=>by rw[←hks];rfl
 have hvl:vals.length=fn.nargs:=by rw[Reps.length r,hds]
 have hfst:=zip_fst (d.params.args.map (·.arg)) vals (by rw[hlen,hvl])
 have hval:∀p∈c.vars,∀dd,((ds.map some++List.replicate m (none:Option D))[p.2]?).join=some dd→∃v,((d.params.args.map (·.arg)).zip vals)[p.2]?=some (p.1,v)∧K.rep s₁.heap ρ v dd:=by
  intro p hp dd hdd
  by_cases hlt:p.2<ds.length
  ·rw[List.getElem?_append_left (by simpa using hlt)] at hdd
   rw[List.getElem?_map,List.getElem?_eq_getElem hlt] at hdd
   simp only[Option.map_some,Option.join_some,Option.some.injEq] at hdd
   obtain⟨v,hv,hr⟩:=Reps.at_ r p.2 dd (by rw[List.getElem?_eq_getElem hlt,hdd])
   have hpl:p.2<(d.params.args.map (·.arg)).length:=by rw[hlen,←hds];exact hlt
   have hm:=hpar p.2 _ (List.getElem?_eq_getElem hpl)
   have hpe:=Ctx.idx_inj hok hm hp rfl
   refine⟨v,?_,hr.grow x (Grow.keeps x X.toInCall.keep)⟩
   rw[List.getElem?_zip_eq_some]
   refine⟨?_,hv⟩
   rw[List.getElem?_eq_getElem hpl]
   exact congrArg (fun q:Str×Nat=>some q.1) hpe
  ·rw[List.getElem?_append_right (by simpa using hlt)] at hdd
   rw[List.getElem?_replicate] at hdd
   split at hdd<;>simp at hdd
 have hcell:∀y a,env.cells.lookup y=some a→s.heap.objs.size<a:=fun y a e=>by
  have:=X.above y a (lookup_mem e)
  rwa [hL] at this
 refine⟨⟨_,X.toInCall.ns⟩,?_,?_,?_,?_,?_⟩
 ·intro hm
  obtain⟨ob,e,_⟩:=SR.data x hm
  rw[hL,get?_past (Nat.le_refl _)] at e
  cases e
 ·intro p hp
  rcases hk p hp with h1|h1
  ·refine .inl ⟨by rw[hkof];exact h1,_,X.toInCall.ns,fun dd hdd=>?_⟩
   obtain⟨v,hv,hr⟩:=hval p hp dd hdd
   exact⟨v,bindL_at _ _ _ p.2 p.1 v (by rw[hfst];exact hnd) hv (by rw[hkof];exact h1),hr⟩
  ·have hsome:=cellsFrom_some d.scope.names (s.heap.objs.size+1) [] p.1 (.inr h1)
   rw[←hcs] at hsome
   obtain⟨a,ha⟩:=Option.isSome_iff_exists.mp hsome
   refine .inr ⟨.inl (by rw[hkof];exact h1),a,_,ha,X.cell _ _ ha,fun dd hdd=>?_⟩
   obtain⟨v,hv,hr⟩:=hval p hp dd hdd
   exact⟨v,bindC_at _ _ _ p.2 p.1 v (by rw[hfst];exact hnd) hv (by rw[hkof,h1];simp),hr⟩
 ·intro p hp q hq hne a ha hb
  exact hne (nodup_pw X.apart (lookup_mem ha) (lookup_mem hb))
 ·intro a ha
  have hge:s.heap.objs.size≤a:=by
   simp only[frame,List.mem_cons,List.mem_filterMap] at ha
   rcases ha with rfl | ⟨p,hp,hpa⟩
   ·rw[hL];exact Nat.le_refl _
   ·split at hpa
    ·exact Nat.le_of_lt (hcell _ _ hpa)
    ·cases hpa
  cases q:K.H₀.get? a with
  |none=>rfl
  |some o=>
   have:=x.keep _ _ q
   rw[get?_past hge] at this
   cases this
 ·intro j hj
  by_cases hlt:j<ds.length
  ·omega
  ·rw[List.getElem?_append_right (by simpa using hlt),List.getElem?_replicate]
   split<;>rfl
theorem call_okC {ds:List DefRec} (ht:∀(i:Nat) (fn:Fn),K.FT[i]?=some fn→∃d,ds[i]?=some d∧FnText K d fn) (ha:∀(i:Nat) (d:DefRec),ds[i]?=some d→FnAt K i d) {n:Nat} (IH:CallsOK K n) {f:Nat} {args:List D} {dv:D} {σ':St} {vals:List Value} {R:Result→Shared→Prop}
  (he:K.C (n+1) f args σ=some (dv,σ')) (ok:K.Ok) (x:K.sr ρ σ s.heap) (r:Reps K.H₀ s.heap ρ vals args) (room:Room (n+1) A) (p:PostK K ρ σ σ' s dv fun v s'=>R (.ok (.ret v)) s') :
  codeAny K.M A (.call (.ref (K.fa f)) ⟨vals,[]⟩) R s:=by
  simp only[Cfg.C,evCall] at he
  split at he
  ·cases he
  ·rename_i fn hfn
   split at he
   ·rename_i hlen
    obtain⟨d,hd,t⟩:=ht f fn hfn
    obtain⟨o,pm,cd,doc,ho,hdat,hcr⟩:=ha f d hd
    obtain⟨c,hs,hok,hsim,hpar,hk,hnx⟩:=t.c
    have hvl:vals.length=fn.nargs:=by rw[Reps.length r,hlen]
    have hfst:=zip_fst (d.params.args.map (·.arg)) vals (by rw[t.len,hvl])
    refine(codeAny_call_cells (fd:=Calls.docDef d.name d.params d.body d.scope pm cd doc) (by have:=room.depth;omega) (x.keep _ _ ho) hdat
     (ok.nolimit.keeps x.keep) (hcr.keeps x.keep) rfl (t.bind pm cd doc vals hvl) rfl ?_ (fun s₁ X=>?_) t.co t.gen t.kind)
    ·intro b hb
     have hb1:b.1∈(d.params.args.map (·.arg)):=by rw[←hfst];exact List.mem_map_of_mem hb
     obtain⟨i,hi⟩:=List.mem_iff_getElem?.mp hb1
     rcases hk _ (hpar i _ hi) with h1|h1
     ·exact .inl h1
     ·exact .inr ⟨h1,cellsFrom_some _ _ _ _ (.inr h1)⟩
    ·obtain⟨h₁,tk,e1⟩:=X.toInCall.same
     have kp:=X.toInCall.keep
     have V:=vars_start (m:=fn.nslots-fn.nargs) (env:=callEnvC (Calls.docDef d.name d.params d.body d.scope pm cd doc) s.heap.objs.size (K.fa f)) hs hok hpar hk hnx t.len t.nd rfl rfl rfl X x r hlen
     subst e1
     have ev:EnvOK c (callEnvC (Calls.docDef d.name d.params d.body d.scope pm cd doc) s.heap.objs.size (K.fa f)):=⟨t.kind,fun y k hy=>by rw[hs] at hy;exact .inl hy,rfl,rfl⟩
     have at_:At K c (callEnvC (Calls.docDef d.name d.params d.body d.scope pm cd doc) s.heap.objs.size (K.fa f)) n (A.deeper (callEnvC (Calls.docDef d.name d.params d.body d.scope pm cd doc) s.heap.objs.size (K.fa f)))
       { s with heap:=h₁,toks:=tk } ρ σ (args.map some++List.replicate (fn.nslots-fn.nargs) none):=
      ⟨ok,ev,⟨room.handled,by have:=room.depth;show A.depth+1+n<_;omega,by have:=room.units;show A.units+3+30*n+200<_;omega⟩,SR.keeps x kp,V⟩
     have g0:Grow ρ σ ρ σ s.heap h₁:=Grow.keeps x kp
     have hX:∀b∈frame c (callEnvC (Calls.docDef d.name d.params d.body d.scope pm cd doc) s.heap.objs.size (K.fa f)),s.heap.get? b=none:=by
      intro a ha
      refine get?_past ?_
      simp only[frame,List.mem_cons,List.mem_filterMap] at ha
      rcases ha with rfl | ⟨p,hp,hpa⟩
      ·exact Nat.le_refl _
      ·split at hpa
       ·exact Nat.le_of_lt (X.above _ _ (lookup_mem hpa))
       ·cases hpa
     have hback:∀{ρ':List Addr} {σ':St} {h':Heap},GrowX (frame c (callEnvC (Calls.docDef d.name d.params d.body d.scope pm cd doc) s.heap.objs.size (K.fa f))) ρ σ ρ' σ' h₁ h'→Grow ρ σ ρ' σ' s.heap h':=
      fun g=>((GrowX.of g0).trans g).toGrow hX (SR.liveAll x)
     split at he
     ·rename_i d1 l1 σ1 h1
      cases he
      refine hsim _ n _ _ ρ σ _ _ _ _ _ _ at_ IH h1 fun fl ρ' h' tk' g x' v' rr=>?_
      obtain⟨v,rfl,rv⟩:=rr
      exact p v ρ' h' tk' (hback g) x' rv
     ·rename_i l1 σ1 h1
      cases he
      refine hsim _ n _ _ ρ σ _ _ _ _ _ _ at_ IH h1 fun fl ρ' h' tk' g x' v' rr=>?_
      simp only[FlRep] at rr
      subst rr
      exact p .none ρ' h' tk' (hback g) x' rfl
     ·cases he
   ·cases he
theorem calls_ok {ds:List DefRec} (ht:∀(i:Nat) (fn:Fn),K.FT[i]?=some fn→∃d,ds[i]?=some d∧FnText K d fn) (ha:∀(i:Nat) (d:DefRec),ds[i]?=some d→FnAt K i d):∀n,CallsOK K n
 |0=>fun f ds σ d σ' A s ρ vals Q E he=>by simp[Cfg.C,evCall] at he
 |n+1=>fun f args σ dv σ' A s ρ vals Q E he ok x r room p=>wpAny_call (call_okC ht ha (calls_ok ht ha n) he ok x r room p)
end
def SimU (F:List Str) (c:Ctx) (e:Expr) (x:X):Prop:=∀K:Cfg,K.fn=F→Sim K c e x
def SimAU (F:List Str) (c:Ctx) (es:List Expr) (x:X):Prop:=∀K:Cfg,K.fn=F→SimA K c es x
def SimPU (F:List Str) (c:Ctx) (ks:List (Option Expr)) (es:List Expr) (x:X):Prop:=∀K:Cfg,K.fn=F→SimP K c ks es x
def SimBU (F:List Str) (c:Ctx) (b:Bool) (es:List Expr) (x:X):Prop:=∀K:Cfg,K.fn=F→SimB K c b es x
def SimIU (F:List Str) (c:Ctx) (t e:Expr) (x:X):Prop:=∀K:Cfg,K.fn=F→SimI K c t e x
def SimLU (F:List Str) (c:Ctx) (b:Bool) (e:Expr) (x:X):Prop:=∀K:Cfg,K.fn=F→SimL K c b e x
def LCompU (F:List Str) (c:Ctx) (elt target iter:Expr) (ifs:List Expr) (scope:Scope) (x i:X) (ts:List Nat) (many:Bool) (o:Option X):Prop:=∀K:Cfg,K.fn=F→LComp K c elt target iter ifs scope x i ts many o
def DCompU (F:List Str) (c:Ctx) (kx vx target iter:Expr) (ifs:List Expr) (scope:Scope) (x y i:X) (ts:List Nat) (many:Bool) (o:Option X):Prop:=∀K:Cfg,K.fn=F→DComp K c kx vx target iter ifs scope x y i ts many o
def SimS1U (F:List Str) (c:Ctx) (s:Stmt) (x:XS):Prop:=∀K:Cfg,K.fn=F→SimS1 K c s x
def SimSU (F:List Str) (c:Ctx) (ss:List Stmt) (x:XS):Prop:=∀K:Cfg,K.fn=F→SimS K c ss x
def FnTextU (F:List Str) (d:DefRec) (fn:Fn):Prop:=∀K:Cfg,K.fn=F→FnText K d fn
def gp (p:Prop) [Decidable p]:Option (PLift p):=if h:p then some ⟨h⟩ else none
def plainTest:Expr→Bool
 | .UnaryOp .Not _ _=>false
 | .BoolOp ..=>false
 | .IfExp ..=>false
 | .Compare ..=>false
 |_=>true
theorem plainTest_ok {e:Expr} (h:plainTest e=true) (env:Env) (whole:Sem Value):isTrue e env whole=(do let v←whole;standAt e.pos;holding [v] (truthy v)):=by
 cases e<;>first|rfl|(simp[plainTest] at h;done)|skip
 rename_i op _ _
 cases op<;>first|rfl|simp[plainTest] at h
def plainSet:Expr→Bool
 | .Set ..=>false
 |_=>true
theorem plainSet_ok {e:Expr} (h:plainSet e=true) (env:Env) (v:Value):foldedSetIterable e env v=pure v:=by
 cases e<;>first|rfl|simp[plainSet] at h
def isName:Expr→Bool
 | .Name ..=>true
 |_=>false
theorem isName_ok {e:Expr} (h:isName e=true) (o r:Value):letTemporaryGo e o r=pure ():=by
 cases e<;>first|(simp[isName] at h;done)|skip
 cases o<;>rfl
section
variable (F:List Str)
abbrev TE:=∀(c:Ctx) (e:Expr) (x:X),Option (PLift (SimU F c e x))
variable {F:List Str}
def chkA (R:TE F) (c:Ctx):(es:List Expr)→(x:X)→Option (PLift (SimAU F c es x))
 | [],.anil=>some ⟨fun K hK=>by exact SimA.nil⟩
 |e::es,.acons x y=>do
  let ⟨hs⟩←gp (notStar e=true)
  let ⟨h⟩←R c e x
  let ⟨h2⟩←chkA R c es y
  some ⟨fun K hK=>by have h:=h K hK;have h2:=h2 K hK;exact SimA.cons hs h.1 h2⟩
 |_,_=>none
def chkP (R:TE F) (c:Ctx):(ks:List (Option Expr))→(es:List Expr)→(x:X)→Option (PLift (SimPU F c ks es x))
 | [],[],.anil=>some ⟨fun K hK=>by exact SimP.nil⟩
 |some k::ks,v::es,.acons x (.acons y z)=>do
  let ⟨h⟩←R c k x
  let ⟨h1⟩←R c v y
  let ⟨h2⟩←chkP R c ks es z
  some ⟨fun K hK=>by have h:=h K hK;have h1:=h1 K hK;have h2:=h2 K hK;exact SimP.cons h.1 h1.1 h2⟩
 |_,_,_=>none
def chkB (R:TE F) (c:Ctx):(isAnd:Bool)→(es:List Expr)→(x:X)→Option (PLift (SimBU F c isAnd es x))
 |b,[e],x=>do
  let ⟨h⟩←R c e x
  some ⟨fun K hK=>by have h:=h K hK;exact SimB.one h⟩
 |true,e::f::r,.and x y=>do
  let ⟨h⟩←R c e x
  let ⟨h2⟩←chkB R c true (f::r) y
  some ⟨fun K hK=>by have h:=h K hK;have h2:=h2 K hK;exact SimB.more (isAnd:=true) h h2⟩
 |false,e::f::r,.or x y=>do
  let ⟨h⟩←R c e x
  let ⟨h2⟩←chkB R c false (f::r) y
  some ⟨fun K hK=>by have h:=h K hK;have h2:=h2 K hK;exact SimB.more (isAnd:=false) h h2⟩
 |_,_,_=>none
def chkI (R:TE F) (c:Ctx) (target:Expr):(e:Expr)→(x:X)→Option (PLift (SimIU F c target e x))
 |e,.ix x=>do
  let ⟨h⟩←R c e x
  some ⟨fun K hK=>by have h:=h K hK;exact SimI.ix h.1⟩
 | .Call (.Name f _) [e] [] _,.ienum x=>do
  let ⟨hf⟩←gp (f=("enumerate":Str))
  let ⟨hg⟩←gp (c.scope.names.lookup ("enumerate":Str)=some .globalImplicit)
  let ⟨ht⟩←gp (isTupT target=true)
  let ⟨hs⟩←gp (notStar e=true)
  let ⟨h⟩←R c e x
  some ⟨fun K hK=>by have h:=h K hK;exact by subst hf;exact SimI.ienum ht hg hs h.1⟩
 | .Call (.Name f _) [e,e'] [] _,.irange x y=>do
  let ⟨hf⟩←gp (f=("range":Str))
  let ⟨hg⟩←gp (c.scope.names.lookup ("range":Str)=some .globalImplicit)
  let ⟨hs⟩←gp (notStar e=true)
  let ⟨hs'⟩←gp (notStar e'=true)
  let ⟨h⟩←R c e x
  let ⟨h'⟩←R c e' y
  some ⟨fun K hK=>by have h:=h K hK;have h':=h' K hK;exact by subst hf;exact SimI.range2 hg hs hs' h.1 h'.1⟩
 | .Call (.Name f _) [e'] [] _,.irange (.lit (.int 0)) y=>do
  let ⟨hf⟩←gp (f=("range":Str))
  let ⟨hg⟩←gp (c.scope.names.lookup ("range":Str)=some .globalImplicit)
  let ⟨hs'⟩←gp (notStar e'=true)
  let ⟨h'⟩←R c e' y
  some ⟨fun K hK=>by have h':=h' K hK;exact by subst hf;exact SimI.range1 hg hs' h'.1⟩
 |_,_=>none
def targNames (target:Expr):List Str:=match targetOf target with
 |some (xs,_)=>xs
 |none=>[]
def nextOf (c:Ctx) (ts:List Nat):Nat:=ts.foldl (fun m t=>max m (t+1)) c.next
def chkIfs (R:TE F) (c:Ctx):(ifs:List Expr)→(o:Option X)→Option (PLift (∀K:Cfg,K.fn=F→match o with|none=>ifs=[]|some Y=>∃e,ifs=[e]∧SimT K c e Y))
 | [],none=>some ⟨fun K hK=>by exact rfl⟩
 | [e],some y=>do
  let ⟨h⟩←R c e y
  some ⟨fun K hK=>by have h:=h K hK;exact⟨e,rfl,h.2⟩⟩
 |_,_=>none
def chkLC (R:TE F) (c:Ctx) (elt target iter:Expr) (ifs:List Expr) (scope:Scope) (x i:X) (ts:List Nat) (many:Bool) (o:Option X):Option (PLift (LCompU F c elt target iter ifs scope x i ts many o)):=do
 let ⟨h1⟩←gp (plainSet iter=true)
 let ⟨h2⟩←gp (scopeOk c scope (targNames target) ts (nextOf c ts)=true)
 let ⟨h3⟩←chkI R c target iter i
 let ⟨h4⟩←gp (targOk (compCtx c scope (targNames target) ts (nextOf c ts)) target ts many=true)
 let ⟨h5⟩←R (compCtx c scope (targNames target) ts (nextOf c ts)) elt x
 let ⟨h6⟩←chkIfs R (compCtx c scope (targNames target) ts (nextOf c ts)) ifs o
 some ⟨fun K hK=>by have h3:=h3 K hK;have h5:=h5 K hK;have h6:=h6 K hK;exact⟨plainSet_ok h1,_,_,ScopeOk.of h2,h3,h4,h5.1,h6⟩⟩
def chkDC (R:TE F) (c:Ctx) (kx vx target iter:Expr) (ifs:List Expr) (scope:Scope) (x y i:X) (ts:List Nat) (many:Bool) (o:Option X):Option (PLift (DCompU F c kx vx target iter ifs scope x y i ts many o)):=do
 let ⟨h1⟩←gp (plainSet iter=true)
 let ⟨h2⟩←gp (scopeOk c scope (targNames target) ts (nextOf c ts)=true)
 let ⟨h3⟩←chkI R c target iter i
 let ⟨h4⟩←gp (targOk (compCtx c scope (targNames target) ts (nextOf c ts)) target ts many=true)
 let ⟨h5⟩←R (compCtx c scope (targNames target) ts (nextOf c ts)) kx x
 let ⟨h6⟩←R (compCtx c scope (targNames target) ts (nextOf c ts)) vx y
 let ⟨h7⟩←chkIfs R (compCtx c scope (targNames target) ts (nextOf c ts)) ifs o
 some ⟨fun K hK=>by have h3:=h3 K hK;have h5:=h5 K hK;have h6:=h6 K hK;have h7:=h7 K hK;exact⟨plainSet_ok h1,_,_,ScopeOk.of h2,h3,h4,h5.1,h6.1,h7⟩⟩
def isFresh:X→Bool
 | .lofx _=>false
 |_=>true
def chkL (R:TE F) (c:Ctx):(e:Expr)→(x:X)→Option (PLift (SimLU F c (isFresh x) e x))
 |e,.lofx x=>do
  let ⟨h⟩←R c e x
  some ⟨fun K hK=>by have h:=h K hK;exact SimL.ofx h.1⟩
 | .List es _,.ldisp x=>do
  let ⟨h⟩←chkA R c es x
  some ⟨fun K hK=>by have h:=h K hK;exact SimL.disp h⟩
 | .ListComp elt [⟨target,iter,ifs,0⟩] scope _,.lcomp x ts many i o=>do
  let ⟨h⟩←chkLC R c elt target iter ifs scope x i ts many o
  some ⟨fun K hK=>by have h:=h K hK;exact SimL.comp h⟩
 | .Subscript o (.Slice plo phi none _) _,.lsl x lo hi=>do
  let ⟨h1⟩←gp (partOf plo=some lo)
  let ⟨h2⟩←gp (partOf phi=some hi)
  let ⟨h3⟩←gp (isName o=true)
  let ⟨h⟩←R c o x
  some ⟨fun K hK=>by have h:=h K hK;exact SimL.slice h.1 h1 h2 (isName_ok h3)⟩
 |_,_=>none
def opOf:Operator→Option BOp
 | .Add=>some .add | .Sub=>some .sub | .Mult=>some .mul | .FloorDiv=>some .fdiv | .Mod=>some .mod | .Pow=>some .pow
 |_=>none
end
variable {F:List Str}
def chkLit (c:Ctx):(e:Expr)→(d:D)→Option (PLift (SimU F c e (.lit d)))
 | .Constant (.int i) _ _,.int j=>do
  let ⟨h⟩←gp (i=j)
  some ⟨fun K hK=>by exact by subst h;exact Sim.lit rfl⟩
 | .Constant (.bool i) _ _,.bool j=>do
  let ⟨h⟩←gp (i=j)
  some ⟨fun K hK=>by exact by subst h;exact Sim.lit rfl⟩
 | .Constant (.str i) _ _,.str j=>do
  let ⟨h⟩←gp (i=j)
  some ⟨fun K hK=>by exact by subst h;exact Sim.lit rfl⟩
 | .Constant .none _ _,.none=>some ⟨fun K hK=>by exact Sim.lit rfl⟩
 | .Name x _,.tup [.int 0,.int 1]=>do
  let ⟨h⟩←gp (x=("R0":Str))
  let ⟨hg⟩←gp (c.scope.names.lookup ("R0":Str)=some .globalImplicit)
  some ⟨fun K hK=>by exact by subst h;exact Sim.r0 hg⟩
 |_,_=>none
def chkCmp (R:TE F) (c:Ctx):(e:Expr)→(x:X)→Option (PLift (SimU F c e x))
 | .Compare a [o] [b] _,.cmp op x y=>do
  let ⟨ho⟩←gp (o=op.py)
  let ⟨hm⟩←gp (behindInMarks op.py b=false)
  let ⟨h1⟩←R c a x
  let ⟨h2⟩←R c b y
  some ⟨fun K hK=>by have h1:=h1 K hK;have h2:=h2 K hK;exact by subst ho;exact Sim.cmp h1.1 h2.1 hm⟩
 | .Compare a [.Is] [.Constant .none _ _] _,.isn x=>do
  let ⟨h1⟩←R c a x
  some ⟨fun K hK=>by have h1:=h1 K hK;exact Sim.isn h1.1⟩
 | .Compare a [.IsNot] [.Constant .none _ _] _,.notn x=>do
  let ⟨h1⟩←R c a x
  some ⟨fun K hK=>by have h1:=h1 K hK;exact Sim.notn h1.1⟩
 | .Compare a [.NotEq] [.List [] _] _,.neNil x=>do
  let ⟨h1⟩←R c a x
  some ⟨fun K hK=>by have h1:=h1 K hK;exact Sim.neNil h1.1⟩
 | .Compare a [.NotEq] [.List [] _] _,.neNilL x=>do
  let ⟨hf⟩←gp (isFresh x=true)
  let ⟨h1⟩←chkL R c a x
  some ⟨fun K hK=>by have h1:=h1 K hK;exact Sim.neNilL (hf▸h1)⟩
 |_,_=>none
def chkB1 (R:TE F) (c:Ctx):(e:Expr)→(x:X)→Option (PLift (SimU F c e x))
 | .Call (.Name f _) [e] [] _,.abs x=>do
  let ⟨hf⟩←gp (f=("abs":Str))
  let ⟨hg⟩←gp (c.scope.names.lookup ("abs":Str)=some .globalImplicit)
  let ⟨hs⟩←gp (notStar e=true)
  let ⟨h⟩←R c e x
  some ⟨fun K hK=>by have h:=h K hK;exact by subst hf;exact Sim.abs hg hs h.1⟩
 | .Call (.Name f _) [e] [] _,.len x=>do
  let ⟨hf⟩←gp (f=("len":Str))
  let ⟨hg⟩←gp (c.scope.names.lookup ("len":Str)=some .globalImplicit)
  let ⟨hs⟩←gp (notStar e=true)
  let ⟨h⟩←R c e x
  some ⟨fun K hK=>by have h:=h K hK;exact by subst hf;exact Sim.len hg hs h.1⟩
 | .Call (.Name f _) [e] [] _,.lenOf x=>do
  let ⟨hf⟩←gp (f=("len":Str))
  let ⟨hg⟩←gp (c.scope.names.lookup ("len":Str)=some .globalImplicit)
  let ⟨hs⟩←gp (notStar e=true)
  let ⟨h⟩←chkL R c e x
  some ⟨fun K hK=>by have h:=h K hK;exact by subst hf;exact Sim.lenOf hg hs h⟩
 | .Call (.Name f _) [e] [] _,.listOf x=>do
  let ⟨hf⟩←gp (f=("list":Str))
  let ⟨hg⟩←gp (c.scope.names.lookup ("list":Str)=some .globalImplicit)
  let ⟨hs⟩←gp (notStar e=true)
  let ⟨h⟩←chkL R c e x
  some ⟨fun K hK=>by have h:=h K hK;exact by subst hf;exact Sim.listOf hg hs h⟩
 | .Call (.Name f _) [e] [] _,.tupOf x=>do
  let ⟨hf⟩←gp (f=("tuple":Str))
  let ⟨hg⟩←gp (c.scope.names.lookup ("tuple":Str)=some .globalImplicit)
  let ⟨hs⟩←gp (notStar e=true)
  let ⟨h⟩←chkL R c e x
  some ⟨fun K hK=>by have h:=h K hK;exact by subst hf;exact Sim.tupOf hg hs h⟩
 | .Call (.Name f _) [e] [] _,.maxOf x=>do
  let ⟨hf⟩←gp (f=("max":Str))
  let ⟨hg⟩←gp (c.scope.names.lookup ("max":Str)=some .globalImplicit)
  let ⟨hs⟩←gp (notStar e=true)
  let ⟨h⟩←chkL R c e x
  some ⟨fun K hK=>by have h:=h K hK;exact by subst hf;exact Sim.maxOf hg hs h⟩
 | .Call (.Name f _) [e] [] _,.dictPairs x=>do
  let ⟨hf⟩←gp (f=("dict":Str))
  let ⟨hg⟩←gp (c.scope.names.lookup ("dict":Str)=some .globalImplicit)
  let ⟨hs⟩←gp (notStar e=true)
  let ⟨h⟩←chkL R c e x
  some ⟨fun K hK=>by have h:=h K hK;exact by subst hf;exact Sim.dictPairs hg hs h⟩
 | .Call (.Name f _) [e] [] _,.dictOf x=>do
  let ⟨hf⟩←gp (f=("dict":Str))
  let ⟨hg⟩←gp (c.scope.names.lookup ("dict":Str)=some .globalImplicit)
  let ⟨hs⟩←gp (notStar e=true)
  let ⟨h⟩←R c e x
  some ⟨fun K hK=>by have h:=h K hK;exact by subst hf;exact Sim.dictOf hg hs h.1⟩
 | .Call (.Name f _) [e] [] _,.sum x=>do
  let ⟨hf⟩←gp (f=("sum":Str))
  let ⟨hg⟩←gp (c.scope.names.lookup ("sum":Str)=some .globalImplicit)
  let ⟨hs⟩←gp (notStar e=true)
  let ⟨h⟩←R c e x
  some ⟨fun K hK=>by have h:=h K hK;exact by subst hf;exact Sim.sum hg hs h.1⟩
 | .Call (.Name f _) [e] [] _,.sorted x=>do
  let ⟨hf⟩←gp (f=("sorted":Str))
  let ⟨hg⟩←gp (c.scope.names.lookup ("sorted":Str)=some .globalImplicit)
  let ⟨hs⟩←gp (notStar e=true)
  let ⟨h⟩←R c e x
  some ⟨fun K hK=>by have h:=h K hK;exact by subst hf;exact Sim.sorted hg hs h.1⟩
 | .Call (.Name f _) [.Call (.Attribute o m ap) [] [] cp] [] _,.sortItems x=>do
  let ⟨hf⟩←gp (f=("sorted":Str))
  let ⟨hm⟩←gp (m=("items":Str))
  let ⟨hg⟩←gp (c.scope.names.lookup ("sorted":Str)=some .globalImplicit)
  let ⟨hb⟩←gp (plainBase o=true)
  let ⟨hl⟩←gp ((ap.endLine==cp.line)=true)
  let ⟨h⟩←R c o x
  some ⟨fun K hK=>by have h:=h K hK;exact by subst hf;subst hm;exact Sim.sortItems hg hb hl h.1⟩
 | .Call (.Name f _) [e,e'] [] _,.max2 x y=>do
  let ⟨hf⟩←gp (f=("max":Str))
  let ⟨hg⟩←gp (c.scope.names.lookup ("max":Str)=some .globalImplicit)
  let ⟨hs⟩←gp (notStar e=true)
  let ⟨hs'⟩←gp (notStar e'=true)
  let ⟨h⟩←R c e x
  let ⟨h'⟩←R c e' y
  some ⟨fun K hK=>by have h:=h K hK;have h':=h' K hK;exact by subst hf;exact Sim.max2 hg hs hs' h.1 h'.1⟩
 |_,_=>none
def chkM (R:TE F) (c:Ctx):(e:Expr)→(x:X)→Option (PLift (SimU F c e x))
 | .Call (.Attribute o m ap) [e] [] pos,.append y x=>do
  let ⟨hm⟩←gp (m=("append":Str))
  let ⟨hb⟩←gp (plainBase o=true)
  let ⟨hl⟩←gp ((ap.endLine==pos.line)=true)
  let ⟨hs⟩←gp (notStar e=true)
  let ⟨h⟩←R c o y
  let ⟨h'⟩←R c e x
  some ⟨fun K hK=>by have h:=h K hK;have h':=h' K hK;exact by subst hm;exact Sim.append h.1 h'.1 hb hs hl⟩
 | .Call (.Attribute o m ap) [e] [] pos,.extend y x=>do
  let ⟨hm⟩←gp (m=("extend":Str))
  let ⟨hb⟩←gp (plainBase o=true)
  let ⟨hl⟩←gp ((ap.endLine==pos.line)=true)
  let ⟨hs⟩←gp (notStar e=true)
  let ⟨h⟩←R c o y
  let ⟨h'⟩←chkL R c e x
  some ⟨fun K hK=>by have h:=h K hK;have h':=h' K hK;exact by subst hm;exact Sim.extend h.1 h' hb hs hl⟩
 | .Call (.Attribute o m ap) [e] [] pos,.popAt y x=>do
  let ⟨hm⟩←gp (m=("pop":Str))
  let ⟨hb⟩←gp (plainBase o=true)
  let ⟨hl⟩←gp ((ap.endLine==pos.line)=true)
  let ⟨hs⟩←gp (notStar e=true)
  let ⟨h⟩←R c o y
  let ⟨h'⟩←R c e x
  some ⟨fun K hK=>by have h:=h K hK;have h':=h' K hK;exact by subst hm;exact Sim.popAt h.1 h'.1 hb hs hl⟩
 | .Call (.Attribute o m ap) [e] [] pos,.pop1 y x=>do
  let ⟨hm⟩←gp (m=("pop":Str))
  let ⟨hb⟩←gp (plainBase o=true)
  let ⟨hl⟩←gp ((ap.endLine==pos.line)=true)
  let ⟨hs⟩←gp (notStar e=true)
  let ⟨h⟩←R c o y
  let ⟨h'⟩←R c e x
  some ⟨fun K hK=>by have h:=h K hK;have h':=h' K hK;exact by subst hm;exact Sim.pop1 h.1 h'.1 hb hs hl⟩
 | .Call (.Attribute o m ap) [e,f] [] pos,.pop2 y x=>do
  let ⟨hm⟩←gp (m=("pop":Str))
  let ⟨hb⟩←gp (plainBase o=true)
  let ⟨hl⟩←gp ((ap.endLine==pos.line)=true)
  let ⟨hs⟩←gp (notStar e=true)
  let ⟨hs'⟩←gp (notStar f=true)
  let ⟨h⟩←R c o y
  let ⟨h'⟩←R c e x
  let ⟨h''⟩←R c f (.lit .none)
  some ⟨fun K hK=>by have h:=h K hK;have h':=h' K hK;have h'':=h'' K hK;exact by subst hm;exact Sim.pop2 h.1 h'.1 h''.1 hb hs hs' hl⟩
 | .Call (.Attribute o m ap) [e,f] [] pos,.get2 y x z=>do
  let ⟨hm⟩←gp (m=("get":Str))
  let ⟨hb⟩←gp (plainBase o=true)
  let ⟨hl⟩←gp ((ap.endLine==pos.line)=true)
  let ⟨hs⟩←gp (notStar e=true)
  let ⟨hs'⟩←gp (notStar f=true)
  let ⟨h⟩←R c o y
  let ⟨h'⟩←R c e x
  let ⟨h''⟩←R c f z
  some ⟨fun K hK=>by have h:=h K hK;have h':=h' K hK;have h'':=h'' K hK;exact by subst hm;exact Sim.get2 h.1 h'.1 h''.1 hb hs hs' hl⟩
 | .Call (.Attribute o m ap) [] [] pos,.sort y=>do
  let ⟨hm⟩←gp (m=("sort":Str))
  let ⟨hb⟩←gp (plainBase o=true)
  let ⟨hl⟩←gp ((ap.endLine==pos.line)=true)
  let ⟨h⟩←R c o y
  some ⟨fun K hK=>by have h:=h K hK;exact by subst hm;exact Sim.sort h.1 hb hl⟩
 |_,_=>none
def chkX (R:TE F) (c:Ctx):(e:Expr)→(x:X)→Option (PLift (SimU F c e x))
 |e,.fail=>some ⟨fun K hK=>by exact Sim.fail e⟩
 |e,.lit d=>chkLit c e d
 | .Name x _,.var i=>do
  let ⟨h⟩←gp ((x,i)∈c.vars)
  let ⟨hp⟩←gp (plainName x=true)
  some ⟨fun K hK=>by exact Sim.var h hp⟩
 | .BinOp a o b _,.bin op x y=>do
  let ⟨ho⟩←gp (o=op.py)
  let ⟨h1⟩←R c a x
  let ⟨h2⟩←R c b y
  some ⟨fun K hK=>by have h1:=h1 K hK;have h2:=h2 K hK;exact by subst ho;exact Sim.bin h1.1 h2.1⟩
 | .BinOp (.List [e] _) .Mult m _,.rep x y=>do
  let ⟨hs⟩←gp (notStar e=true)
  let ⟨h1⟩←R c e x
  let ⟨h2⟩←R c m y
  some ⟨fun K hK=>by have h1:=h1 K hK;have h2:=h2 K hK;exact Sim.rep hs h1.1 h2.1⟩
 | .UnaryOp .USub a _,.neg x=>do
  let ⟨h1⟩←R c a x
  some ⟨fun K hK=>by have h1:=h1 K hK;exact Sim.neg h1.1⟩
 | .UnaryOp .Not a _,.not x=>do
  let ⟨h1⟩←R c a x
  some ⟨fun K hK=>by have h1:=h1 K hK;exact Sim.not h1⟩
 | .BoolOp .And es _,.and x y=>do
  let ⟨h⟩←chkB R c true es (.and x y)
  some ⟨fun K hK=>by have h:=h K hK;exact SimB.sim h⟩
 | .BoolOp .Or es _,.or x y=>do
  let ⟨h⟩←chkB R c false es (.or x y)
  some ⟨fun K hK=>by have h:=h K hK;exact SimB.sim h⟩
 | .IfExp t a b _,.ite z x y=>do
  let ⟨h0⟩←R c t z
  let ⟨h1⟩←R c a x
  let ⟨h2⟩←R c b y
  some ⟨fun K hK=>by have h0:=h0 K hK;have h1:=h1 K hK;have h2:=h2 K hK;exact Sim.ite h0.2 h1 h2⟩
 | .Call (.Name f _) (e::es) [] _,.call i (.acons x y)=>do
  let ⟨hf⟩←gp (F[i]?=some f)
  let ⟨hg⟩←gp (c.scope.names.lookup f=some .globalImplicit)
  let ⟨hp⟩←gp (plainName f=true)
  let ⟨hs⟩←gp (notStar e=true)
  let ⟨h⟩←chkA R c (e::es) (.acons x y)
  some ⟨fun K hK=>by have h:=h K hK;exact Sim.call (by rw[hK];exact hf) hg hp hs h⟩
 | .Tuple es _ _,.tup x=>do
  let ⟨h⟩←chkA R c es x
  some ⟨fun K hK=>by have h:=h K hK;exact Sim.tup h⟩
 | .Dict [] [] _,.dict .anil=>some ⟨fun K hK=>by exact Sim.dict0⟩
 | .Dict (some k::ks) (v::es) _,.dict x=>do
  let ⟨h1⟩←gp ((some k::ks).all (·.isSome)=true)
  let ⟨h2⟩←gp ((some k::ks).length=(v::es).length)
  let ⟨h3⟩←gp ((some k::ks).length≤15)
  let ⟨h⟩←chkP R c (some k::ks) (v::es) x
  some ⟨fun K hK=>by have h:=h K hK;exact Sim.dict h1 h2 h3 h⟩
 | .Subscript o i _,.idx x y=>do
  let ⟨hs⟩←gp (isSlice i=false)
  let ⟨h1⟩←R c o x
  let ⟨h2⟩←R c i y
  some ⟨fun K hK=>by have h1:=h1 K hK;have h2:=h2 K hK;exact Sim.idx h1.1 h2.1 hs⟩
 | .DictComp kx vx [⟨target,iter,ifs,0⟩] scope _,.dcomp x y ts many i o=>do
  let ⟨h⟩←chkDC R c kx vx target iter ifs scope x y i ts many o
  some ⟨fun K hK=>by have h:=h K hK;exact Sim.dcomp h⟩
 |e,.lst x=>do
  let ⟨hf⟩←gp (isFresh x=true)
  let ⟨hp⟩←gp (plainTest e=true)
  let ⟨h⟩←chkL R c e x
  some ⟨fun K hK=>by have h:=h K hK;exact Sim.lst (hf▸h) fun env whole=>plainTest_ok hp env whole⟩
 |e,.cmp op x y=>chkCmp R c e (.cmp op x y)
 |e,.isn x=>chkCmp R c e (.isn x)
 |e,.notn x=>chkCmp R c e (.notn x)
 |e,.neNil x=>chkCmp R c e (.neNil x)
 |e,.neNilL x=>chkCmp R c e (.neNilL x)
 | .Call (.Name f np) as ks pos,x=>chkB1 R c (.Call (.Name f np) as ks pos) x
 | .Call (.Attribute o m ap) as ks pos,x=>chkM R c (.Call (.Attribute o m ap) as ks pos) x
 |_,_=>none
def chkE:Nat→TE F
 |0=>fun _ _ _=>none
 |n+1=>fun c e x=>chkX (chkE n) c e x
variable {F:List Str}
section
variable (F)
abbrev TS:=∀(c:Ctx) (ss:List Stmt) (x:XS),Option (PLift (SimSU F c ss x))
end
def chkS1 (R:TE F) (T:TS F) (c:Ctx) (ok:c.ok=true):(s:Stmt)→(x:XS)→Option (PLift (SimS1U F c s x))
 |s,.fail=>some ⟨fun K hK=>by exact SimS1.fail s⟩
 | .Return (some e) _,.ret x=>do
  let ⟨h⟩←R c e x
  some ⟨fun K hK=>by have h:=h K hK;exact SimS1.ret h.1⟩
 | .Continue _,.cont=>some ⟨fun K hK=>by exact SimS1.cont⟩
 | .If e a b _,.ifs x y z=>do
  let ⟨h⟩←R c e x
  let ⟨h1⟩←T c a y
  let ⟨h2⟩←T c b z
  some ⟨fun K hK=>by have h:=h K hK;have h1:=h1 K hK;have h2:=h2 K hK;exact SimS1.ifs h.2 h1 h2⟩
 | .While e a [] _,.whl x y=>do
  let ⟨h⟩←R c e x
  let ⟨h1⟩←T c a y
  some ⟨fun K hK=>by have h:=h K hK;have h1:=h1 K hK;exact SimS1.whl h.2 h1⟩
 | .For target it b [] _,.for_ ts many i x=>do
  let ⟨h1⟩←gp (targOk c target ts many=true)
  let ⟨h2⟩←gp (plainSet it=true)
  let ⟨h3⟩←chkI R c target it i
  let ⟨h4⟩←T c b x
  some ⟨fun K hK=>by have h3:=h3 K hK;have h4:=h4 K hK;exact SimS1.for_ h3 ok h1 h4 (plainSet_ok h2)⟩
 | .Expr e _,.expr x=>do
  let ⟨h1⟩←gp (isComp e=false)
  let ⟨h⟩←R c e x
  some ⟨fun K hK=>by have h:=h K hK;exact SimS1.expr h.1 h1⟩
 | .AugAssign (.Subscript o k _) .Add e _,.aug y i .add x=>do
  let ⟨h0⟩←gp (isSlice k=false)
  let ⟨h1⟩←R c o y
  let ⟨h2⟩←R c k i
  let ⟨h3⟩←R c e x
  some ⟨fun K hK=>by have h1:=h1 K hK;have h2:=h2 K hK;have h3:=h3 K hK;exact SimS1.aug h1.1 h2.1 h3.1 h0⟩
 | .Assign [.Subscript o k _] e _,.set y i x=>do
  let ⟨h0⟩←gp (isComp e=false)
  let ⟨h1⟩←R c o y
  let ⟨h2⟩←R c k i
  let ⟨h3⟩←R c e x
  some ⟨fun K hK=>by have h1:=h1 K hK;have h2:=h2 K hK;have h3:=h3 K hK;exact SimS1.set h1.1 h2.1 h3.1 h0⟩
 | .Assign [.Tuple es q tp] e _,.asgT is x=>do
  let ⟨h0⟩←gp (isComp e=false)
  let ⟨h1⟩←gp (targOk c (.Tuple es q tp) is true=true)
  let ⟨h2⟩←gp is.Nodup
  let ⟨h3⟩←gp (swapSafe e=true)
  let ⟨h⟩←R c e x
  some ⟨fun K hK=>by have h:=h K hK;exact SimS1.asgT h.1 ok h1 h2 h0 h3⟩
 | .Assign [.Name y _] (.ListComp elt [⟨target,iter,ifs,0⟩] scope _) _,.asg j (.lst (.lcomp x ts many i o))=>do
  let ⟨h1⟩←gp (slotOk c (y,j)=true)
  let ⟨h⟩←chkLC R c elt target iter ifs scope x i ts many o
  some ⟨fun K hK=>by have h:=h K hK;exact SimS1.asgL h ok h1⟩
 | .Assign [.Name y _] e _,.asg j x=>do
  let ⟨h0⟩←gp (isComp e=false)
  let ⟨h1⟩←gp (slotOk c (y,j)=true)
  let ⟨h⟩←R c e x
  some ⟨fun K hK=>by have h:=h K hK;exact SimS1.asg h.1 ok h1 h0⟩
 |_,_=>none
def chkS (R:TE F):Nat→TS F
 |0,_,_,_=>none
 |n+1,c,ss,x=>match ss,x with
  | [],.nil=>some ⟨fun K hK=>by exact SimS.nil⟩
  | [s],x=>do
   let ⟨ok⟩←gp (c.ok=true)
   let ⟨h⟩←chkS1 R (chkS R n) c ok s x
   some ⟨fun K hK=>by have h:=h K hK;exact SimS.one h⟩
  |s::s'::r,.seq x y=>do
   let ⟨ok⟩←gp (c.ok=true)
   let ⟨h⟩←chkS1 R (chkS R n) c ok s x
   let ⟨h'⟩←chkS R n c (s'::r) y
   some ⟨fun K hK=>by have h:=h K hK;have h':=h' K hK;exact SimS.cons h h'⟩
  |_,_=>none
def addTo (xs:List Str) (ys:List Str):List Str:=ys.foldl (fun acc y=>if acc.contains y then acc else acc++[y]) xs
mutual
def bound:Nat→List Stmt→List Str→List Str
 |0,_,acc=>acc
 |_+1,[],acc=>acc
 |n+1,s::r,acc=>bound n r (bound1 n s acc)
def bound1:Nat→Stmt→List Str→List Str
 |0,_,acc=>acc
 |_+1,.Assign [t] _ _,acc=>addTo acc (targNames t)
 |n+1,.For t _ b _ _,acc=>bound n b (addTo acc (targNames t))
 |n+1,.While _ b _ _,acc=>bound n b acc
 |n+1,.If _ a b _,acc=>bound n b (bound n a acc)
 |_,_,acc=>acc
end
def ctxOf (d:DefRec):Ctx:=
 let xs:=bound 60 d.body (d.params.args.map (·.arg))
 { scope:=d.scope,vars:=xs.zip (List.range xs.length),next:=xs.length }
def parOk (d:DefRec) (c:Ctx):Bool:=((d.params.args.map (·.arg)).zip (List.range d.params.args.length)).all fun p=>decide (p∈c.vars)
theorem parOk_ok {d:DefRec} {c:Ctx} (h:parOk d c=true):∀(i:Nat) (x:Str),(d.params.args.map (·.arg))[i]?=some x→(x,i)∈c.vars:=fun i x e=>by
 simp only[parOk,List.all_eq_true,decide_eq_true_eq] at h
 refine h (x,i) (List.mem_iff_getElem?.mpr ⟨i,?_⟩)
 rw[List.getElem?_zip_eq_some]
 refine⟨e,?_⟩
 have:=(List.getElem?_eq_some_iff.mp e).1
 rw[List.getElem?_range (by simpa using this)]
def kindsOk (d:DefRec) (c:Ctx):Bool:=c.vars.all fun p=>decide (d.scope.names.lookup p.1=some .local) || decide (d.scope.names.lookup p.1=some .cell)
theorem kindsOk_ok {d:DefRec} {c:Ctx} (h:kindsOk d c=true):∀p∈c.vars,d.scope.names.lookup p.1=some .local∨d.scope.names.lookup p.1=some .cell:=fun p hp=>by
 simp only[kindsOk,List.all_eq_true,Bool.or_eq_true,decide_eq_true_eq] at h
 exact h p hp
def plainParams (a:Arguments):Bool:=a.posonlyargs.isEmpty&&a.vararg.isNone&&a.kwonlyargs.isEmpty&&a.kwarg.isNone&&a.defaults.isEmpty&&a.kw_defaults.isEmpty
def BindsOk (d:DefRec) (n:Nat):Prop:=∀(pm cd doc:Value) (vals:List Value),vals.length=n→bindArgs (Calls.docDef d.name d.params d.body d.scope pm cd doc) ⟨vals,[]⟩=pure ((d.params.args.map (·.arg)).zip vals)
def chkF (F:List Str) (d:DefRec) (fn:Fn):Option (PLift (BindsOk d fn.nargs→FnTextU F d fn)):=do
 let ⟨h1⟩←gp ((ctxOf d).ok=true)
 let ⟨h2⟩←chkS (F:=F) (chkE (F:=F) 40) 60 (ctxOf d) d.body fn.body
 let ⟨h3⟩←gp (parOk d (ctxOf d)=true)
 let ⟨h4⟩←gp (kindsOk d (ctxOf d)=true)
 let ⟨h5⟩←gp (fn.nargs≤(ctxOf d).next)
 let ⟨h6⟩←gp ((d.params.args.map (·.arg)).length=fn.nargs)
 let ⟨h7⟩←gp (d.params.args.map (·.arg)).Nodup
 let ⟨h8⟩←gp (fn.nargs≤fn.nslots)
 let ⟨h9⟩←gp (d.scope.isCoroutine=false)
 let ⟨h10⟩←gp (d.scope.isGenerator=false)
 let ⟨h11⟩←gp (d.scope.kind = .function)
 some ⟨fun hb K hK=>by have h2:=h2 K hK;exact⟨⟨ctxOf d,rfl,h1,h2,parOk_ok h3,kindsOk_ok h4,h5⟩,h6,h7,hb,h8,h9,h10,h11⟩⟩
noncomputable def recs:List DefRec:=recsOf hd.view_39
noncomputable def FNS:List Str:=recs.map (·.name)
theorem texts_same:((recs.zip FT).all fun p=>(chkF FNS p.1 p.2).isSome)=true:=by decide +kernel
theorem recs_len:recs.length=FT.length:=by decide +kernel
theorem zip_lookup_some {xs:List Str} {vs:List Value} (h:vs.length=xs.length):∀x∈xs,((xs.zip vs).lookup x).isSome=true:=by
 induction xs generalizing vs with
 |nil=>simp
 |cons y ys ih=>
  cases vs with
  |nil=>simp at h
  |cons v vs=>
   intro x hx
   simp only[List.zip_cons_cons,List.lookup_cons]
   cases hxy:x==y with
   |true=>rfl
   |false=>
    rcases List.mem_cons.mp hx with rfl|hx
    ·simp at hxy
    ·exact ih (by simpa using h) x hx
theorem filterMap_cg {α β:Type} {f g:α→Option β}:∀{xs:List α},(∀x∈xs,f x=g x)→xs.filterMap f=xs.filterMap g
 | [],_=>rfl
 |x::xs,h=>by
  rw[List.filterMap_cons,List.filterMap_cons,h x List.mem_cons_self,filterMap_cg fun y hy=>h y (List.mem_cons_of_mem _ hy)]
theorem zip_filterMap:∀{xs:List Str} {vs:List Value},vs.length=xs.length→xs.Nodup→xs.filterMap (fun n=>((xs.zip vs).lookup n).map (n,·))=xs.zip vs
 | [],[],_,_=>rfl
 | [],_::_,h,_=>by simp at h
 |_::_,[],h,_=>by simp at h
 |x::xs,v::vs,h,nd=>by
  simp only[List.nodup_cons] at nd
  simp only[List.zip_cons_cons,List.filterMap_cons,List.lookup_cons,beq_self_eq_true,Option.map_some]
  rw[filterMap_cg (g:=fun n=>((xs.zip vs).lookup n).map (n,·)),zip_filterMap (xs:=xs) (vs:=vs) (by simpa using h) nd.2]
  intro n hn
  have:(n==x)=false:=by
   simp only[beq_eq_false_iff_ne,ne_eq]
   rintro rfl
   exact nd.1 hn
  simp only[this]
def parShape (a:Arguments):Bool:=a.posonlyargs.isEmpty&&a.vararg.isNone&&a.kwonlyargs.isEmpty&&a.kwarg.isNone
theorem binds_ok {d:DefRec} {n:Nat} (h:parShape d.params=true) (nd:(d.params.args.map (·.arg)).Nodup) (hn:(d.params.args.map (·.arg)).length=n):BindsOk d n:=by
 intro pm cd doc vals hv
 obtain⟨name,⟨po,as,va,ko,kd,kw,de⟩,body,scope,pos⟩:=d
 simp only[parShape,Bool.and_eq_true,List.isEmpty_iff,Option.isNone_iff_eq_none] at h
 obtain⟨⟨⟨rfl,rfl⟩,rfl⟩,rfl⟩:=h
 dsimp only at nd hn ⊢
 have hl:vals.length=(as.map (·.arg)).length:=by rw[hv,hn]
 have hf:=zip_filterMap hl nd
 have hs:=zip_lookup_some hl
 generalize hxs:as.map (·.arg)=xs at hl hf hs nd hn ⊢
 unfold bindArgs
 simp only[Calls.docDef,List.map_nil,List.nil_append,List.append_nil,hxs,List.forIn_nil,pure_bind,show seqItems? Value.none=pure none from rfl,Option.getD_none,Option.isNone_none,Bool.and_true,List.forIn_nil]
 simp[hl]
 rw[hf,if_neg]
 ·intro hc
  simp only[Bool.not_eq_true',List.isEmpty_eq_false_iff,ne_eq,List.filter_eq_nil_iff] at hc
  refine hc fun x hx hx2=>?_
  have:=hs x (List.mem_of_mem_take hx)
  simp only[Option.isNone_iff_eq_none] at hx2
  rw[hx2] at this
  cases this
theorem recs_binds:((recs.zip FT).all fun p=>parShape p.1.params&&decide (p.1.params.args.map (·.arg)).Nodup&&decide ((p.1.params.args.map (·.arg)).length=p.2.nargs))=true:=by decide +kernel
theorem texts_ok {K:Cfg} (hK:K.fn=FNS) (hFT:K.FT=FT):∀(i:Nat) (fn:Fn),K.FT[i]?=some fn→∃d,recs[i]?=some d∧FnText K d fn:=by
 intro i fn hi
 rw[hFT] at hi
 have hlt:i<recs.length:=by rw[recs_len];exact(List.getElem?_eq_some_iff.mp hi).1
 refine⟨recs[i],List.getElem?_eq_getElem hlt,?_⟩
 have hm:(recs[i],fn)∈recs.zip FT:=by
  refine List.mem_iff_getElem?.mpr ⟨i,?_⟩
  rw[List.getElem?_zip_eq_some]
  exact⟨List.getElem?_eq_getElem hlt,hi⟩
 have h1:=List.all_eq_true.mp texts_same _ hm
 have h2:=List.all_eq_true.mp recs_binds _ hm
 simp only[Bool.and_eq_true,decide_eq_true_eq] at h2
 obtain⟨⟨s1,s2⟩,s3⟩:=h2
 exact((chkF FNS recs[i] fn).get h1).down (binds_ok s1 s2 s3) K hK
noncomputable def theCfg (prog:Program) (w:World) (h:Heap) (mg mb:Str→Option Value) (W:Nat):Cfg:=
 { prog,w,H₀:=h,mg,mb,FT:=FT,W,fa:=fun i=>match FNS[i]? with|some x=>(match mg x with|some (.ref a)=>a|_=>0)|none=>0,fn:=FNS }
section
variable {prog:Program} {w:World} {s₁:Shared} {mg mb:Str→Option Value} {mean:ExcName→Option Value} {W:Nat}
theorem fn_at (T:Top hd.view_39 (looseW hd.view_39 []) mean mg mb s₁.heap):∀(i:Nat) (d:DefRec),recs[i]?=some d→
  mg d.name=some (.ref ((theCfg prog w s₁.heap mg mb W).fa i))∧FnAt (theCfg prog w s₁.heap mg mb W) i d:=by
 intro i d hd
 obtain⟨a,o,pm,code,doc,h1,h2,h3,h4⟩:=T.fn d (List.mem_of_getElem? hd)
 have hn:FNS[i]?=some d.name:=by rw[FNS,List.getElem?_map,hd];rfl
 have hfa:(theCfg prog w s₁.heap mg mb W).fa i=a:=by
  show(match FNS[i]? with|some x=>(match mg x with|some (.ref a)=>a|_=>0)|none=>0)=a
  rw[hn]
  dsimp only
  rw[h1]
 refine⟨by rw[hfa];exact h1,o,pm,code,doc,?_,h3,h4⟩
 show s₁.heap.get? ((theCfg prog w s₁.heap mg mb W).fa i)=some o
 rw[hfa];exact h2
theorem noImports:importsNone hd.view_39=true:=by decide +kernel
theorem freeNames:(BN.all fun x=>!startupNames.contains x&&!(looseW hd.view_39 []).contains x&&!((recsOf hd.view_39).map (·.name)).contains x&&!((litsOf hd.view_39).map (·.1)).contains x&&!((clssOf hd.view_39 (looseW hd.view_39 [])).map (·.name)).contains x)=true:=by decide +kernel
theorem r0_in (P:Params):nsIn (hd.heap_39 P) mainGlobals ("R0":Str)=some (some (.ref 64))∧(hd.heap_39 P).lookup 64=some (seqObj "tuple" #[.int 0 262,.int 1 263] 0):=⟨rfl,rfl⟩
theorem cfg_ok (T:Top hd.view_39 (looseW hd.view_39 []) mean mg mb s₁.heap) (KX:(hd.heap_39 w.params).In s₁.heap):(theCfg prog w s₁.heap mg mb W).Ok where
 g:=T.g
 b:=T.b
 built:=T.builtins
 nolimit:=T.nolimit
 big:=by
  obtain⟨mm,⟨o,_,_,e,_⟩,_⟩:=(T.seer noImports).mods
  exact⟨o,e⟩
 free:=fun x hx=>by
  have:=List.all_eq_true.mp freeNames x hx
  simp only[Bool.and_eq_true,Bool.not_eq_true',List.contains_eq_mem,decide_eq_false_iff_not] at this
  obtain⟨⟨⟨⟨h1,h2⟩,h3⟩,h4⟩,h5⟩:=this
  exact T.free x h1 h2 h3 h4 h5
 fns:=fun i x hx=>by
  have hx':FNS[i]?=some x:=hx
  rw[FNS,List.getElem?_map] at hx'
  obtain⟨d,hd,rfl⟩:=Option.map_eq_some_iff.mp hx'
  obtain⟨h1,o,pm,cd,doc,h2,h3,_⟩:=fn_at (prog:=prog) (w:=w) (W:=W) T i d hd
  exact⟨h1,o,_,h2,h3⟩
 r0:=by
  obtain⟨h1,h2⟩:=r0_in w.params
  exact⟨64,0,_,_,mg_of KX T.g h1,KX _ _ h2⟩
theorem intsAre_reps {h:Heap}:∀{vs:List Value} {is:List Int},IntsAre vs is→Reps h h [] vs (is.map D.int)
 |_,_,.nil=>by simp[Reps]
 |_,_,.cons _ _ hr=>by simp only[List.map_cons,Reps];exact⟨⟨_,rfl⟩,intsAre_reps hr⟩
end
def PlainLaw (W:Nat) (n:Nat):Prop:=∀is:List Int,is.length≤63→∃σ',evCall FT W (n+1) f_law [.fro (is.map D.int)] []=some (.bool true,σ')
theorem law_at:FNS[37]?=some ("law":Str):=by decide +kernel
theorem post_true (as bs:List WData):Challenge.rw_pf0048_01.row.claim.post as (WData.bool true) bs=true:=by
 show(WShape.has [] (WData.bool true) .bool&&(WTm.eq .res (.lit (.bool true))).holds [] { args:=as,res:=some (WData.bool true),after:=bs })=true
 have h1:WShape.has [] (WData.bool true) .bool=true:=by decide +kernel
 rw[h1]
 simp[WTm.holds,WTm.value]
 have h2:same (WData.bool true) (WData.bool true)=true:=by decide +kernel
 rw[h2]
theorem law_of_plain {W n:Nat} (hn:n≤100) (hP:PlainLaw W n):PySem.Challenge.rw_pf0048_01.Holds:=hd (by
 k_fill
 intro w s₀ s₁ mg mb G Y fa o pm cd doc dV kV ho hdd hcd hD hmg hg args vals as hpre hlay hrd hwl hlo
 have KX:=kIn_of Y
 refine Ground.open G ?_
 intro T B D TE TW
 wrow_args hpre hlay hrd hwl hlo
 all_goals (
  first|refine callC_kw (enter_call ?_)|refine enter_call ?_|refine callC_kw (enter_callW ?_)|refine enter_callW ?_|w_how
  w_top on
  try refine codeAny_mono ?_ (fun _ _ g=>GoodW.toG g))
 rename_i ns hs hlay0 hL1 hr1 hl2 w4 w3 la vs w0 hL ra w1 r0 hI hr hc hc'
 clear hdd hcd hD Y
 have hlen:ns.length≤63:=by omega
 obtain⟨σ',hev⟩:=hP ns hlen
 have hfa:(theCfg Challenge.rw_pf0048_01.row.prog w s₁.heap mg mb W).fa 37=fa:=by
  show(match FNS[37]? with|some x=>(match mg x with|some (.ref a)=>a|_=>0)|none=>0)=fa
  rw[law_at]
  dsimp only
  rw[show mg ("law":Str)=some (.ref fa) from hmg]
 have ok:(theCfg Challenge.rw_pf0048_01.row.prog w s₁.heap mg mb W).Ok:=cfg_ok T KX
 have H:=call_okC (K:=theCfg Challenge.rw_pf0048_01.row.prog w s₁.heap mg mb W) (A:=callerA) (s:=s₁) (ρ:=[]) (σ:=[]) (n:=n) (f:=37) (args:=[.fro (ns.map Mine.D.int)]) (vals:=[.ref la])
  (R:=GoodW Challenge.rw_pf0048_01.row.claim (classAt s₀.heap) (ExcName.means s₀.heap) [ofPy (PyData.list (List.map PyData.int ns))] s₁)
  (texts_ok rfl rfl) (fun i d hd=>(fn_at T i d hd).2) (calls_ok (texts_ok rfl rfl) (fun i d hd=>(fn_at T i d hd).2) n) hev ok ?zx ?zr ?zroom ?zp
 ·rw[hfa] at H;exact H
 case zroom=>exact⟨rfl,by show 1+claimMargin+(n+1)<recursionLimit;have:claimMargin=300:=rfl;have:recursionLimit=1000:=rfl;omega,by show 4+30*(n+1)+200<cLine;have:cLine=9900:=rfl;omega⟩
 case zx=>exact⟨fun b o e=>e,rfl,List.nodup_nil,fun a ha=>by simp at ha,fun i a o e=>by simp at e⟩
 case zp=>
  intro v ρ' h' tk' g x r
  simp only[Mine.Rep] at r
  subst r
  refine⟨.inl ⟨.bool true,.bool true,[],rfl,?c1,?c2,?c3,?c4⟩,fun b o e=>g.ext b o e (by simp),rfl,hg⟩
  case c1=>intro cls;rfl
  case c2=>exact .bool true
  case c3=>exact post_true _ _
  case c4=>intro _;exact⟨List.nodup_nil,fun a ha=>by simp at ha⟩
 case zr=>
  obtain⟨ob,eo,ec,k,ed⟩:=hL
  refine⟨⟨la,ob,_,k,rfl,eo,ec,ed,?_⟩,by simp[Mine.Reps]⟩
  exact intsAre_reps hI)
theorem call_ret {W n f:Nat} {fn:Fn} {ds:List D} {σ:St} {d:D} {l:Loc} {σ1:St} (h:FT[f]?=some fn) (hl:ds.length=fn.nargs)
  (hb:exS (evCall FT W n) W fn.body (ds.map some++List.replicate (fn.nslots-fn.nargs) none) σ=some (.ret d,l,σ1)):evCall FT W (n+1) f ds σ=some (d,σ1):=by
 simp only[evCall,h,hl,if_true,hb]
theorem call_next {W n f:Nat} {fn:Fn} {ds:List D} {σ:St} {l:Loc} {σ1:St} (h:FT[f]?=some fn) (hl:ds.length=fn.nargs)
  (hb:exS (evCall FT W n) W fn.body (ds.map some++List.replicate (fn.nslots-fn.nargs) none) σ=some (.next,l,σ1)):evCall FT W (n+1) f ds σ=some (.none,σ1):=by
 simp only[evCall,h,hl,if_true,hb]
theorem seq_next {C:Nat→List D→St→Option (D×St)} {W:Nat} {a b:XS} {l l1:Loc} {σ σ1:St} {r:Option (Fl×Loc×St)} (ha:exS C W a l σ=some (.next,l1,σ1)) (hb:exS C W b l1 σ1=r):exS C W (.seq a b) l σ=r:=by
 simp only[exS,ha,hb]
theorem seq_ret {C:Nat→List D→St→Option (D×St)} {W:Nat} {a b:XS} {l l1:Loc} {σ σ1:St} {d:D} (ha:exS C W a l σ=some (.ret d,l1,σ1)):exS C W (.seq a b) l σ=some (.ret d,l1,σ1):=by
 simp only[exS,ha]
theorem seq_cont {C:Nat→List D→St→Option (D×St)} {W:Nat} {a b:XS} {l l1:Loc} {σ σ1:St} (ha:exS C W a l σ=some (.cont,l1,σ1)):exS C W (.seq a b) l σ=some (.cont,l1,σ1):=by
 simp only[exS,ha]
theorem while_step {test:Loc→St→Option (Bool×St)} {body:Loc→St→Option (Fl×Loc×St)} {n:Nat} {l l2:Loc} {σ σ1 σ2:St} {fl:Fl} (ht:test l σ=some (true,σ1)) (hb:body l σ1=some (fl,l2,σ2)) (hf:∀d,fl≠.ret d) :
  whileGo test body (n+1) l σ=whileGo test body n l2 σ2:=by
 cases fl with
 |ret d=>exact absurd rfl (hf d)
 |next=>simp only[whileGo,ht,hb]
 |cont=>simp only[whileGo,ht,hb]
theorem while_stop {test:Loc→St→Option (Bool×St)} {body:Loc→St→Option (Fl×Loc×St)} {n:Nat} {l:Loc} {σ σ1:St} (ht:test l σ=some (false,σ1)):whileGo test body (n+1) l σ=some (.next,l,σ1):=by
 simp only[whileGo,ht]
theorem for_step {bind:D→Loc→Option Loc} {body:Loc→St→Option (Fl×Loc×St)} {src:Src} {d:D} {ds:List D} {l l1 l2:Loc} {σ σ2:St} {fl:Fl} (h1:bind d l=some l1) (h2:body l1 σ=some (fl,l2,σ2)) (hf:∀d,fl≠.ret d) (hs:srcOk src σ2=true) :
  forGo bind body src (d::ds) l σ=forGo bind body src ds l2 σ2:=by
 cases fl with
 |ret d=>exact absurd rfl (hf d)
 |next=>simp only[forGo,h1,h2,hs,if_true]
 |cont=>simp only[forGo,h1,h2,hs,if_true]
theorem for_ret {bind:D→Loc→Option Loc} {body:Loc→St→Option (Fl×Loc×St)} {src:Src} {d r:D} {ds:List D} {l l1 l2:Loc} {σ σ2:St} (h1:bind d l=some l1) (h2:body l1 σ=some (.ret r,l2,σ2)) :
  forGo bind body src (d::ds) l σ=some (.ret r,l2,σ2):=by
 simp only[forGo,h1,h2]
theorem gcd_loop {C:Nat→List D→St→Option (D×St)} {W:Nat} {σ:St}:∀(fuel a b:Nat),b<fuel→
  whileGo (evT C (.cmp .ne (.var 1) (.lit (.int 0)))) (exS C W (.asgT [0,1] (.tup (.acons (.var 1) (.acons (.bin .mod (.var 0) (.var 1)) (.anil)))))) fuel [some (.int (a:Int)),some (.int (b:Int))] σ
   = some (.next,[some (.int ((Nat.gcd a b:Nat):Int)),some (.int 0)],σ)
 |0,_,_,h=>by omega
 |fuel+1,a,0,_=>by
  rw[while_stop (σ1:=σ)]
  ·simp
  ·simp[evT,ev,cmpD,eqD,CF,truthD]
 |fuel+1,a,b+1,h=>by
  have hlt:a%(b+1)<b+1:=Nat.mod_lt _ (Nat.succ_pos b)
  have ih:=gcd_loop (C:=C) (W:=W) (σ:=σ) fuel (b+1) (a%(b+1)) (by omega)
  have hne':((b:Int)+1)≠0:=by omega
  have hm:((a:Int).fmod ((b:Int)+1))=((a%(b+1):Nat):Int):=(Int.ofNat_fmod a (b+1)).symm
  have hg:Nat.gcd (b+1) (a%(b+1))=Nat.gcd a (b+1):=by rw[Nat.gcd_comm (b+1),←Nat.gcd_rec,Nat.gcd_comm]
  rw[while_step (σ1:=σ) (l2:=[some (.int ((b+1:Nat):Int)),some (.int ((a%(b+1):Nat):Int))]) (σ2:=σ) (fl:=.next),ih,hg]
  ·simp[evT,ev,cmpD,eqD,CF,truthD,hne']
  ·simp[exS,ev,evs,binD,bindT,hne',hm,LIM]
  ·simp
theorem gcd_call {W n:Nat} {a b:Int} {σ:St} (hb:b.natAbs<W):evCall FT W (n+1) f_gcd [.int a,.int b] σ=some (.int ((Int.gcd a b:Nat):Int),σ):=by
 have hab:∀x:Int,(if x<0 then -x else x)=((x.natAbs:Nat):Int):=fun x=>by split<;>omega
 refine call_ret (fn:=⟨2,2,b_gcd⟩) rfl rfl (l:=[some (.int ((Int.gcd a b:Nat):Int)),some (.int 0)]) ?_
 refine seq_next (l1:=[some (.int (a.natAbs:Nat)),some (.int (b.natAbs:Nat))]) (σ1:=σ) ?_ (seq_next (gcd_loop W a.natAbs b.natAbs hb) ?_)
 ·simp[exS,ev,evs,bindT,hab,LIM]
 ·simp[exS,ev,Int.gcd]
abbrev qD (t b:Int):D:=.tup [.int t,.int b]
def ratG (t b:Int):Int:=if b>0 then (Int.gcd t b:Nat) else 0-((Int.gcd t b:Nat):Int)
def ratD (t b:Int):D:=qD (t.fdiv (ratG t b)) (b.fdiv (ratG t b))
theorem ratG_ne {t b:Int} (hb:b≠0):ratG t b≠0:=by
 have:Int.gcd t b≠0:=fun h=>hb (Int.gcd_eq_zero_iff.mp h).2
 unfold ratG
 split<;>omega
theorem ratG_le {t b:Int} (hb:b≠0):(ratG t b).natAbs≤b.natAbs:=by
 have:Int.gcd t b≤b.natAbs:=Nat.le_of_dvd (Int.natAbs_pos.mpr hb) (Nat.gcd_dvd_right _ _)
 unfold ratG
 split<;>omega
section
variable {W n:Nat} {σ:St}
theorem rat_call {t b:Int} (hb:b≠0) (hs:b.natAbs<2^30) (hw:b.natAbs<W):evCall FT W (n+2) f_rat [.int t,.int b] σ=some (ratD t b,σ):=by
 have hg:=ratG_ne (t:=t) hb
 have hl:=ratG_le (t:=t) hb
 refine call_ret (fn:=⟨2,3,b_rat⟩) rfl rfl (l:=[some (.int t),some (.int b),some (.int (ratG t b))]) ?_
 refine seq_next (l1:=[some (.int t),some (.int b),none]) (σ1:=σ) ?_ (seq_next (l1:=[some (.int t),some (.int b),some (.int (ratG t b))]) (σ1:=σ) ?_ ?_)
 ·have hb':(b==0)=false:=by simpa using hb
  simp[exS,evT,ev,cmpD,eqD,CF,truthD,hb']
 ·have hc:=gcd_call (n:=n) (σ:=σ) (a:=t) hw
  by_cases hp:b>0
  ·simp[exS,evT,ev,evs,cmpD,truthD,hp,hc,ratG]
  ·simp[exS,evT,ev,evs,cmpD,truthD,hp,hc,ratG,binD]
 ·have:(ratG t b).natAbs<1073741824:=by omega
  simp[exS,ev,evs,binD,hg,this,LIM,ratD]
abbrev MOk (x y:Int):Prop:=x.natAbs<2^63∨y.natAbs<2^63
theorem rmul_call {a b c d:Int} (h1:MOk a c) (h2:MOk b d) (hb:b*d≠0) (hs:(b*d).natAbs<2^30) (hw:(b*d).natAbs<W):evCall FT W (n+3) f_rmul [qD a b,qD c d] σ=some (ratD (a*c) (b*d),σ):=by
 have hc:=rat_call (n:=n) (σ:=σ) (t:=a*c) hb hs hw
 refine call_ret (fn:=⟨2,2,b_rmul⟩) rfl rfl (l:=[some (qD a b),some (qD c d)]) ?_
 simp[b_rmul,exS,ev,evs,binD,idxD,LIM,hc,h1,h2]
theorem rdiv_call {a b c d:Int} (h1:MOk a d) (h2:MOk b c) (hb:b*c≠0) (hs:(b*c).natAbs<2^30) (hw:(b*c).natAbs<W):evCall FT W (n+3) f_rdiv [qD a b,qD c d] σ=some (ratD (a*d) (b*c),σ):=by
 have hc:=rat_call (n:=n) (σ:=σ) (t:=a*d) hb hs hw
 refine call_ret (fn:=⟨2,2,b_rdiv⟩) rfl rfl (l:=[some (qD a b),some (qD c d)]) ?_
 simp[b_rdiv,exS,ev,evs,binD,idxD,LIM,hc,h1,h2]
theorem radd_call {a b c d:Int} (h1:MOk a d) (h2:MOk c b) (h3:MOk b d) (hb:b*d≠0) (hs:(b*d).natAbs<2^30) (hw:(b*d).natAbs<W):evCall FT W (n+3) f_radd [qD a b,qD c d] σ=some (ratD (a*d+c*b) (b*d),σ):=by
 have hc:=rat_call (n:=n) (σ:=σ) (t:=a*d+c*b) hb hs hw
 refine call_ret (fn:=⟨2,2,b_radd⟩) rfl rfl (l:=[some (qD a b),some (qD c d)]) ?_
 simp[b_radd,exS,ev,evs,binD,idxD,LIM,hc,h1,h2,h3]
theorem rneg_call {a b:Int}:evCall FT W (n+1) f_rneg [qD a b] σ=some (qD (0-a) b,σ):=by
 refine call_ret (fn:=⟨1,1,b_rneg⟩) rfl rfl (l:=[some (qD a b)]) ?_
 simp[b_rneg,exS,ev,evs,binD,idxD,LIM]
theorem rinv_call {a b:Int} (ha:a≠0) (hs:a.natAbs<2^30) (hw:a.natAbs<W):evCall FT W (n+3) f_rinv [qD a b] σ=some (ratD b a,σ):=by
 have hc:=rat_call (n:=n) (σ:=σ) (t:=b) ha hs hw
 refine call_ret (fn:=⟨1,1,b_rinv⟩) rfl rfl (l:=[some (qD a b)]) ?_
 simp[b_rinv,exS,ev,evs,binD,idxD,LIM,hc]
end
theorem ratD_pos {t b:Int} (hb:0<b):ratD t b=qD (t/(Int.gcd t b:Nat)) (b/(Int.gcd t b:Nat)):=by
 have h0:(0:Int)≤((Int.gcd t b:Nat):Int):=Int.natCast_nonneg _
 unfold ratD ratG
 rw[if_pos hb,Int.fdiv_eq_ediv_of_nonneg _ h0,Int.fdiv_eq_ediv_of_nonneg _ h0]
theorem gcd_cross {t b t' b':Int} (hb:0<b) (hb':0<b') (h:t*b'=t'*b):((Int.gcd t b:Nat):Int)*b'=((Int.gcd t' b':Nat):Int)*b:=by
 have h1:Int.gcd (t*b') (b*b')=Int.gcd t b*b'.natAbs:=Int.gcd_mul_right t b' b
 have h2:Int.gcd (t'*b) (b'*b)=Int.gcd t' b'*b.natAbs:=Int.gcd_mul_right t' b b'
 rw[←h,Int.mul_comm b' b,h1] at h2
 have h3:((Int.gcd t b*b'.natAbs:Nat):Int)=((Int.gcd t' b'*b.natAbs:Nat):Int):=by rw[h2]
 have e1:(b'.natAbs:Int)=b':=Int.natAbs_of_nonneg (by omega)
 have e2:(b.natAbs:Int)=b:=Int.natAbs_of_nonneg (by omega)
 rw[Int.natCast_mul,Int.natCast_mul,e1,e2] at h3
 exact h3
theorem ratD_eq {t b t' b':Int} (hb:0<b) (hb':0<b') (h:t*b'=t'*b):ratD t b=ratD t' b':=by
 rw[ratD_pos hb,ratD_pos hb']
 have hx:=gcd_cross hb hb' h
 have hg:0<Int.gcd t b:=Int.gcd_pos_of_ne_zero_right _ (by omega)
 have hg':0<Int.gcd t' b':=Int.gcd_pos_of_ne_zero_right _ (by omega)
 have d1:=Int.gcd_dvd_left t b
 have d2:=Int.gcd_dvd_right t b
 have d3:=Int.gcd_dvd_left t' b'
 have d4:=Int.gcd_dvd_right t' b'
 generalize ((Int.gcd t b:Nat))=g at *
 generalize ((Int.gcd t' b':Nat))=g' at *
 obtain⟨t0,rfl⟩:=d1
 obtain⟨b0,rfl⟩:=d2
 obtain⟨t0',rfl⟩:=d3
 obtain⟨b0',rfl⟩:=d4
 have hgz:(g:Int)≠0:=by omega
 have hgz':(g':Int)≠0:=by omega
 rw[Int.mul_ediv_cancel_left _ hgz,Int.mul_ediv_cancel_left _ hgz,Int.mul_ediv_cancel_left _ hgz',Int.mul_ediv_cancel_left _ hgz']
 have hbb:b0=b0':=by
  have:((g:Int)*g')*b0'=((g:Int)*g')*b0:=by
   rw[Int.mul_assoc,hx];rw[←Int.mul_assoc,Int.mul_comm (g':Int) g]
  exact(Int.eq_of_mul_eq_mul_left (Int.mul_ne_zero hgz hgz') this).symm
 subst hbb
 have hb0:b0≠0:=by rintro rfl;simp at hb
 have htt:t0=t0':=by
  have:((g:Int)*g'*b0)*t0=((g:Int)*g'*b0)*t0':=by
   have e1:((g:Int)*g'*b0)*t0=(g:Int)*t0*(g'*b0):=by
    simp only[Int.mul_assoc,Int.mul_comm,Int.mul_left_comm]
   have e2:((g:Int)*g'*b0)*t0'=(g':Int)*t0'*(g*b0):=by
    simp only[Int.mul_assoc,Int.mul_comm,Int.mul_left_comm]
   rw[e1,e2,h]
  exact Int.eq_of_mul_eq_mul_left (Int.mul_ne_zero (Int.mul_ne_zero hgz hgz') hb0) this
 rw[htt]
theorem ratD_one (t:Int):ratD t 1=qD t 1:=by
 rw[ratD_pos (by omega)]
 simp
theorem ratD_zero {b:Int} (hb:0<b):ratD 0 b=qD 0 1:=by
 rw[ratD_eq (t':=0) (b':=1) hb (by omega) (by simp),ratD_one]
theorem ratD_ne_zero {t b:Int} (hb:0<b) (ht:t≠0):∃p q,ratD t b=qD p q∧p≠0∧0<q∧q≤b∧p.natAbs≤t.natAbs∧p*b=t*q:=by
 rw[ratD_pos hb]
 have hg:0<Int.gcd t b:=Int.gcd_pos_of_ne_zero_right _ (by omega)
 have d1:=Int.gcd_dvd_left t b
 have d2:=Int.gcd_dvd_right t b
 generalize ((Int.gcd t b:Nat))=g at *
 obtain⟨t0,rfl⟩:=d1
 obtain⟨b0,rfl⟩:=d2
 have hgz:(g:Int)≠0:=by omega
 have hgp:(0:Int)<g:=by omega
 rw[Int.mul_ediv_cancel_left _ hgz,Int.mul_ediv_cancel_left _ hgz]
 have hb0:0<b0:=Int.pos_of_mul_pos_right hb (by omega) |> fun h=>h
 refine⟨t0,b0,rfl,fun h=>ht (by rw[h];simp),hb0,?_,?_,?_⟩
 ·calc b0=1*b0:=by simp
   _≤g*b0:=Int.mul_le_mul_of_nonneg_right (by omega) (by omega)
 ·rw[Int.natAbs_mul]
  have:1*t0.natAbs≤(g:Int).natAbs*t0.natAbs:=Nat.mul_le_mul_right _ (by omega)
  omega
 ·simp only[Int.mul_assoc,Int.mul_comm,Int.mul_left_comm]
theorem dg_nil (k:List Int):dget [] k=none:=rfl
theorem dg_cons (k k':List Int) (v:D) (es:Es):dget ((k,v)::es) k'=if k=k' then some v else dget es k':=by
 unfold dget
 rw[List.find?_cons]
 by_cases h:k=k'<;>simp[h]
theorem dg_append (es fs:Es) (k:List Int):dget (es++fs) k=(dget es k).or (dget fs k):=by
 induction es with
 |nil=>simp[dg_nil]
 |cons e es ih=>
  obtain⟨k',v⟩:=e
  rw[List.cons_append,dg_cons,dg_cons,ih]
  split<;>simp
theorem dg_none_of {es:Es} {k:List Int} (h:k∉es.map (·.1)):dget es k=none:=by
 induction es with
 |nil=>rfl
 |cons e es ih=>
  obtain⟨k',v⟩:=e
  simp only[List.map_cons,List.mem_cons,not_or] at h
  rw[dg_cons,if_neg (fun q=>h.1 q.symm),ih h.2]
theorem dg_mem {es:Es} {k:List Int} {v:D} (h:dget es k=some v):(k,v)∈es:=by
 induction es with
 |nil=>cases h
 |cons e es ih=>
  obtain⟨k',v'⟩:=e
  rw[dg_cons] at h
  split at h
  ·rename_i q;cases h;rw[q];exact List.mem_cons_self
  ·exact List.mem_cons_of_mem _ (ih h)
theorem dg_of_mem {es:Es} (nd:(es.map (·.1)).Nodup) {e:List Int×D} (h:e∈es):dget es e.1=some e.2:=by
 induction es with
 |nil=>cases h
 |cons e' es ih=>
  obtain⟨k',v'⟩:=e'
  simp only[List.map_cons,List.nodup_cons] at nd
  rw[dg_cons]
  rcases List.mem_cons.mp h with rfl|h2
  ·simp
  ·have hne:k'≠e.1:=by rintro rfl;exact nd.1 (List.mem_map_of_mem h2)
   rw[if_neg hne,ih nd.2 h2]
theorem dg_map_upd {es:Es} (k:List Int) (v:D) (k':List Int):dget (es.map fun e=>if e.1=k then (e.1,v) else e) k'=if k'=k then (dget es k).map (fun _=>v) else dget es k':=by
 induction es with
 |nil=>simp[dg_nil]
 |cons e es ih=>
  obtain⟨k0,v0⟩:=e
  simp only[List.map_cons]
  by_cases h:k0=k
  ·subst h
   simp only[if_true,dg_cons,ih]
   by_cases h':k'=k0
   ·subst h';simp
   ·have h'':k0≠k':=fun q=>h' q.symm
    simp[h',h'']
  ·simp only[h,if_false,dg_cons,ih]
   by_cases h':k'=k
   ·subst h';simp[h]
   ·simp[h']
theorem dg_put (es:Es) (k:List Int) (v:D) (k':List Int):dget (dput es k v) k'=if k'=k then some v else dget es k':=by
 unfold dput
 split
 ·rename_i h
  rw[dg_map_upd]
  obtain⟨u,hu⟩:=Option.isSome_iff_exists.mp h
  rw[hu];rfl
 ·rename_i h
  have hn:dget es k=none:=by simpa using h
  rw[dg_append,dg_cons,dg_nil]
  by_cases h':k'=k
  ·subst h';simp[hn]
  ·have h'':k≠k':=fun q=>h' q.symm
   simp[h',h'']
theorem dg_del (es:Es) (k:List Int) (k':List Int):dget (ddel es k) k'=if k'=k then none else dget es k':=by
 unfold ddel
 induction es with
 |nil=>simp[dg_nil]
 |cons e es ih=>
  obtain⟨k0,v0⟩:=e
  rw[List.filter_cons]
  by_cases h:k0=k
  ·subst h
   simp only[ne_eq,not_true_eq_false,decide_false,Bool.false_eq_true,if_false,ih,dg_cons]
   by_cases h':k'=k0
   ·simp[h']
   ·have h'':k0≠k':=fun q=>h' q.symm
    simp[h',h'']
  ·simp only[ne_eq,h,not_false_eq_true,decide_true,if_true,dg_cons,ih]
   by_cases h':k'=k
   ·subst h';simp[h]
   ·simp[h']
theorem nd_put {es:Es} (nd:(es.map (·.1)).Nodup) (k:List Int) (v:D):((dput es k v).map (·.1)).Nodup:=by
 unfold dput
 split
 ·have:(es.map fun e=>if e.1=k then (e.1,v) else e).map (·.1)=es.map (·.1):=by
   rw[List.map_map]
   apply List.map_congr_left
   intro e _
   simp only[Function.comp]
   split<;>rfl
  rw[this];exact nd
 ·rename_i h
  rw[List.map_append,List.nodup_append]
  refine⟨nd,by simp,?_⟩
  intro a ha b hb
  simp only[List.map_cons,List.map_nil,List.mem_singleton] at hb
  subst hb
  rintro rfl
  obtain⟨e,he,rfl⟩:=List.mem_map.mp ha
  rw[dg_of_mem nd he] at h
  simp at h
theorem nd_del {es:Es} (nd:(es.map (·.1)).Nodup) (k:List Int):((ddel es k).map (·.1)).Nodup:=by
 unfold ddel
 exact List.Nodup.sublist (List.Sublist.map _ List.filter_sublist) nd
structure Pol (n d:Int) (c:Int→Int→Int) (es:Es):Prop where
 nd:(es.map (·.1)).Nodup
 get:∀x y,dget es [x,y]=if c x y=0 then none else some (ratD (c x y*n) d)
 two:∀e∈es,∃x y,e.1=[x,y]
theorem Pol.entry {n d:Int} {c:Int→Int→Int} {es:Es} (p:Pol n d c es) {e:List Int×D} (h:e∈es):∃x y,e=([x,y],ratD (c x y*n) d)∧c x y≠0:=by
 obtain⟨x,y,hk⟩:=p.two e h
 have hg:=dg_of_mem p.nd h
 rw[hk,p.get] at hg
 split at hg
 ·cases hg
 ·rename_i hc
  refine⟨x,y,?_,hc⟩
  obtain⟨k,v⟩:=e
  simp only[Option.some.injEq] at hg
  simp only at hk
  rw[hk,hg]
def upd (c:Int→Int→Int) (x y v:Int):Int→Int→Int:=fun x' y'=>if x'=x∧y'=y then v else c x' y'
theorem mem_put {es:Es} {k:List Int} {v:D} {e:List Int×D} (h:e∈dput es k v):e∈es∨e.1=k:=by
 unfold dput at h
 split at h
 ·obtain⟨e',he',rfl⟩:=List.mem_map.mp h
  by_cases q:e'.1=k
  ·right;simp[q]
  ·left;simpa [q] using he'
 ·rcases List.mem_append.mp h with h|h
  ·exact .inl h
  ·right;simp at h;rw[h]
theorem Pol.put {n d:Int} {c:Int→Int→Int} {es:Es} (p:Pol n d c es) {x y v:Int} (hv:v≠0):Pol n d (upd c x y v) (dput es [x,y] (ratD (v*n) d)) where
 nd:=nd_put p.nd _ _
 get:=fun x' y'=>by
  rw[dg_put,p.get]
  simp only[List.cons.injEq,and_true,upd]
  by_cases h:x'=x∧y'=y
  ·simp[h,hv]
  ·simp[h]
 two:=fun e he=>by
  rcases mem_put he with he|he
  ·exact p.two e he
  ·exact⟨x,y,he⟩
theorem Pol.del {n d:Int} {c:Int→Int→Int} {es:Es} (p:Pol n d c es) {x y:Int}:Pol n d (upd c x y 0) (ddel es [x,y]) where
 nd:=nd_del p.nd _
 get:=fun x' y'=>by
  rw[dg_del,p.get]
  simp only[List.cons.injEq,and_true,upd]
  by_cases h:x'=x∧y'=y
  ·simp[h]
  ·simp[h]
 two:=fun e he=>p.two e ((List.mem_filter.mp he).1)
theorem Pol.nil {n d:Int}:Pol n d (fun _ _=>0) [] where
 nd:=List.nodup_nil
 get:=fun x y=>by simp[dg_nil]
 two:=fun e he=>by cases he
theorem eq_pair {σ:St} {a b c d:Int}:cmpD .eq (qD a b) (qD c d) σ=some (a==c&&b==d):=by
 simp[cmpD,eqD,CF,eqAll]
theorem ratD_add {n d u v p1 q1 p2 q2:Int} (hd:0<d) (h1:0<q1) (h2:0<q2) (e1:p1*d=(u*n)*q1) (e2:p2*d=(v*n)*q2):ratD (p1*q2+p2*q1) (q1*q2)=ratD ((u+v)*n) d:=by
 refine ratD_eq (Int.mul_pos h1 h2) hd ?_
 have a1:p1*q2*d=(u*n)*q1*q2:=by rw[←e1];simp only[Int.mul_assoc,Int.mul_comm,Int.mul_left_comm]
 have a2:p2*q1*d=(v*n)*q2*q1:=by rw[←e2];simp only[Int.mul_assoc,Int.mul_comm,Int.mul_left_comm]
 rw[Int.add_mul,a1,a2,Int.add_mul,Int.add_mul]
 congr 1<;>simp only[Int.mul_assoc,Int.mul_comm,Int.mul_left_comm]
section
variable {W k:Nat} {σ:St}
theorem radd_ratD {n d u v:Int} (hW:2^30≤W) (hd:0<d) (hd':d<2^15) (hn:n≠0) (hu:u≠0) (hv:v≠0) (bu:(u*n).natAbs<2^40) (bv:(v*n).natAbs<2^40) :
  evCall FT W (k+3) f_radd [ratD (u*n) d,ratD (v*n) d] σ=some (ratD ((u+v)*n) d,σ):=by
 obtain⟨p1,q1,e1,z1,o1,l1,s1,x1⟩:=ratD_ne_zero hd (Int.mul_ne_zero hu hn)
 obtain⟨p2,q2,e2,z2,o2,l2,s2,x2⟩:=ratD_ne_zero hd (Int.mul_ne_zero hv hn)
 rw[e1,e2,←ratD_add hd o1 o2 x1 x2]
 have hq:0<q1*q2:=Int.mul_pos o1 o2
 have hq':(q1*q2).natAbs<2^30:=by
  rw[Int.natAbs_mul]
  have:q1.natAbs*q2.natAbs≤2^15*q2.natAbs:=Nat.mul_le_mul_right _ (by omega)
  have:2^15*q2.natAbs<2^15*2^15:=Nat.mul_lt_mul_of_pos_left (by omega) (by omega)
  omega
 exact radd_call (.inl (by omega)) (.inl (by omega)) (.inl (by omega)) (by omega) hq' (by omega)
theorem ratD_is0 {σ:St} {n d v:Int} (hd:0<d) (hn:n≠0):cmpD .eq (ratD (v*n) d) (.tup [.int 0,.int 1]) σ=some (decide (v=0)):=by
 by_cases hv:v=0
 ·subst hv
  rw[Int.zero_mul,ratD_zero hd,eq_pair]
  simp
 ·obtain⟨p,q,e,z,_⟩:=ratD_ne_zero hd (Int.mul_ne_zero hv hn)
  rw[e,eq_pair]
  have:(p==0)=false:=by simpa using z
  simp[this,hv]
theorem ratD_tup (t b:Int):∃p q,ratD t b = .tup [.int p,.int q]:=⟨_,_,rfl⟩
theorem add_term_call {n d:Int} {c:Int→Int→Int} {es:Es} {r w:Nat} {x y v:Int} (hW:2^30≤W) (hd:0<d) (hd':d<2^15) (hn:n≠0) (hv:v≠0)
  (hc:(c x y*n).natAbs<2^40) (bv:(v*n).natAbs<2^40) (p:Pol n d c es) (hl:es.length<LIM) (hr:σ[r]?=some (.dict es w)) :
  ∃es',evCall FT W (k+4) f_add_term [.ref r,keyD [x,y],ratD (v*n) d] σ=some (.none,σ.set r (.dict es' (w+1)))∧Pol n d (upd c x y (c x y+v)) es':=by
 have hin:cmpD .isin (keyD [x,y]) (.ref r) σ=some (decide (c x y≠0)):=by
  by_cases h:c x y=0<;>simp[cmpD,keyD,hr,ints?,p.get,h]
 have hkey:keyD [x,y] = .tup [.int x,.int y]:=rfl
 have hfirst:exS (evCall FT W (k+3)) W (.asg 3 (.ite (.cmp .isin (.var 1) (.var 0)) (.call f_radd (.acons (.idx (.var 0) (.var 1)) (.acons (.var 2) (.anil)))) (.var 2)))
   [some (.ref r),some (keyD [x,y]),some (ratD (v*n) d),none] σ=some (.next,[some (.ref r),some (keyD [x,y]),some (ratD (v*n) d),some (ratD ((c x y+v)*n) d)],σ):=by
  by_cases h:c x y=0
  ·simp[exS,ev,hin,truthD,h]
  ·have hrad:=radd_ratD (k:=k) (σ:=σ) hW hd hd' hn h hv hc bv
   have hidx:idxD σ (.ref r) (keyD [x,y])=some (ratD (c x y*n) d):=by simp[idxD,keyD,hr,ints?,p.get,h]
   simp[exS,ev,evs,hin,truthD,h,hidx,hrad]
 by_cases h:c x y+v=0
 ·refine⟨ddel es [x,y],?_,by rw[h];exact p.del⟩
  refine call_next (fn:=⟨3,4,b_add_term⟩) rfl rfl (l:=[some (.ref r),some (keyD [x,y]),some (ratD (v*n) d),some (ratD ((c x y+v)*n) d)]) (seq_next hfirst ?_)
  have h0:=ratD_is0 (σ:=σ) (v:=c x y+v) hd hn
  have hdc:isDct σ r=true:=by simp[isDct,hr]
  rw[hkey]
  rw[h] at h0 ⊢
  simp only[Int.zero_mul,decide_true] at h0 ⊢
  simp[exS,evT,ev,h0,truthD,hdc,hr,ints?,hl]
 ·refine⟨dput es [x,y] (ratD ((c x y+v)*n) d),?_,p.put h⟩
  refine call_next (fn:=⟨3,4,b_add_term⟩) rfl rfl (l:=[some (.ref r),some (keyD [x,y]),some (ratD (v*n) d),some (ratD ((c x y+v)*n) d)]) (seq_next hfirst ?_)
  have h0:=ratD_is0 (σ:=σ) (v:=c x y+v) hd hn
  rw[hkey]
  simp[exS,evT,ev,h0,h,truthD,hr,ints?,hl,setD]
end
def boxK:List (List Int):=(List.range 9).flatMap fun(x:Nat)=>(List.range 9).map fun(y:Nat)=>[(Int.ofNat x),(Int.ofNat y)]
theorem box_hash:(boxK.map hashK).Nodup:=by decide +kernel
theorem box_len:boxK.length=81:=by decide +kernel
def Box (c:Int→Int→Int):Prop:=∀x y,c x y≠0→0≤x∧x<9∧0≤y∧y<9
theorem mem_box {x y:Int} (h:0≤x∧x<9∧0≤y∧y<9):[x,y]∈boxK:=by
 simp only[boxK,List.mem_flatMap,List.mem_map,List.mem_range]
 exact⟨x.toNat,by omega,y.toNat,by omega,by rw[Int.ofNat_eq_natCast,Int.ofNat_eq_natCast,Int.toNat_of_nonneg h.1,Int.toNat_of_nonneg h.2.2.1]⟩
theorem len_le_of {α:Type}:∀(l L:List α),l.Nodup→(∀x∈l,x∈L)→l.length≤L.length
 | [],_,_,_=>Nat.zero_le _
 |x::l,L,nd,h=>by
  simp only[List.nodup_cons] at nd
  obtain⟨s,t,rfl⟩:=List.append_of_mem (h x List.mem_cons_self)
  have:=len_le_of l (s++t) nd.2 fun y hy=>by
   have hm:=h y (List.mem_cons_of_mem _ hy)
   simp only[List.mem_append,List.mem_cons] at hm ⊢
   rcases hm with hm|hm|hm
   ·exact .inl hm
   ·subst hm;exact absurd hy nd.1
   ·exact .inr hm
  simp only[List.length_cons,List.length_append] at this ⊢
  omega
theorem nodup_map_on {α β:Type} (f:α→β):∀{l:List α},l.Nodup→(∀a∈l,∀b∈l,f a=f b→a=b)→(l.map f).Nodup
 | [],_,_=>List.nodup_nil
 |x::l,nd,h=>by
  simp only[List.nodup_cons] at nd
  simp only[List.map_cons,List.nodup_cons]
  refine⟨fun hm=>?_,nodup_map_on f nd.2 fun a ha b hb=>h a (List.mem_cons_of_mem _ ha) b (List.mem_cons_of_mem _ hb)⟩
  obtain⟨y,hy,e⟩:=List.mem_map.mp hm
  have:=h y (List.mem_cons_of_mem _ hy) x List.mem_cons_self e
  exact nd.1 (this▸hy)
section
variable {n d:Int} {c:Int→Int→Int} {es:Es}
theorem Pol.keys (p:Pol n d c es) (b:Box c):∀k∈es.map (·.1),k∈boxK:=fun k hk=>by
 obtain⟨e,he,rfl⟩:=List.mem_map.mp hk
 obtain⟨x,y,rfl,hc⟩:=p.entry he
 exact mem_box (b x y hc)
theorem Pol.len (p:Pol n d c es) (b:Box c):es.length<LIM:=by
 have:=len_le_of _ _ p.nd (p.keys b)
 rw[box_len,List.length_map] at this
 have:LIM=1048576:=rfl
 omega
theorem Pol.hashes (p:Pol n d c es) (b:Box c):hashesOk es=true:=by
 unfold hashesOk
 rw[decide_eq_true_eq,show(es.map fun e=>hashK e.1)=(es.map (·.1)).map hashK by rw[List.map_map];rfl]
 exact nodup_map_on _ p.nd fun a ha b' hb e=>nodup_map_inj hashK box_hash a (p.keys b a ha) b' (p.keys b b' hb) e
end
theorem Box.upd {c:Int→Int→Int} (b:Box c) {x y v:Int} (h:0≤x∧x<9∧0≤y∧y<9):Box (upd c x y v):=fun x' y' hc=>by
 simp only[Mine.upd] at hc
 split at hc
 ·rename_i q;rw[q.1,q.2];exact h
 ·exact b x' y' hc
theorem get_old {σ τ:St} {i:Nat} {o:AO} (h:σ[i]?=some o):(σ++τ)[i]?=some o:=by
 rw[List.getElem?_append_left (List.getElem?_eq_some_iff.mp h).1];exact h
theorem get_new (σ:St) (o:AO):(σ++[o])[σ.length]?=some o:=by simp
theorem set_new (σ:St) (o o':AO):(σ++[o]).set σ.length o'=σ++[o']:=by
 rw[List.set_append_right _ _ (Nat.le_refl _),Nat.sub_self];rfl
section
variable {W k:Nat} {σ:St} {n d:Int}
def only (ks:List (List Int)) (c:Int→Int→Int):Int→Int→Int:=fun x y=>if [x,y]∈ks then c x y else 0
theorem mvadd_loop {ca cb:Int→Int→Int} {fs:Es} {i j wb:Nat} (hW:2^30≤W) (hd:0<d) (hd':d<2^15) (hn:n≠0) (hb:Pol n d cb fs) (hj:σ[j]?=some (.dict fs wb)) (bb:Box cb)
  (ba:Box ca) (h1:∀x y,(ca x y*n).natAbs<2^40) (h2:∀x y,(cb x y*n).natAbs<2^40) :
  ∀(suf pre:Es) (gs:Es) (w:Nat) (o:Option D),fs=pre++suf→Pol n d (fun x y=>ca x y+only (pre.map (·.1)) cb x y) gs→
   ∃gs' w' o',forGo (bindT [3] false) (exS (evCall FT W (k+4)) W (.expr (.call f_add_term (.acons (.var 2) (.acons (.var 3) (.acons (.idx (.var 1) (.var 3)) (.anil))))))) (some (j,wb)) (suf.map fun e=>keyD e.1)
     [some (.ref i),some (.ref j),some (.ref σ.length),o] (σ++[.dict gs w])=some (.next,[some (.ref i),some (.ref j),some (.ref σ.length),o'],σ++[.dict gs' w'])∧Pol n d (fun x y=>ca x y+cb x y) gs'
 | [],pre,gs,w,o,hf,p=>by
  refine⟨gs,w,o,rfl,?_⟩
  have:(fun x y=>ca x y+only (pre.map (·.1)) cb x y)=fun x y=>ca x y+cb x y:=by
   funext x y
   unfold only
   split
   ·rfl
   ·rename_i hk
    have hz:cb x y=0:=by
     have hg:=hb.get x y
     rw[hf,List.append_nil,dg_none_of hk] at hg
     split at hg
     ·assumption
     ·cases hg
    rw[hz]
  rw[←this];exact p
 |e::suf,pre,gs,w,o,hf,p=>by
  have hmem:e∈fs:=by rw[hf];simp
  obtain⟨x,y,rfl,hc⟩:=hb.entry hmem
  have hnot:[x,y]∉pre.map (·.1):=by
   have:=hb.nd
   rw[hf,List.map_append,List.map_cons,List.nodup_append] at this
   intro hm
   exact this.2.2 _ hm _ List.mem_cons_self rfl
  have hbx:Box (fun x y=>ca x y+only (pre.map (·.1)) cb x y):=fun x' y' h=>by
   by_cases hz:ca x' y'=0
   ·refine bb x' y' fun hq=>h ?_
    simp[hz,only,hq]
   ·exact ba x' y' hz
  have hnow:ca x y+only (pre.map (·.1)) cb x y=ca x y:=by simp[only,hnot]
  obtain⟨gs',hcall,p'⟩:=add_term_call (k:=k) (r:=σ.length) (σ:=σ++[.dict gs w]) (w:=w) (x:=x) (y:=y) (v:=cb x y) hW hd hd' hn hc (by rw[hnow];exact h1 x y) (h2 x y) p (p.len hbx) (get_new _ _)
  rw[set_new] at hcall
  have hidx:idxD (σ++[.dict gs w]) (.ref j) (keyD [x,y])=some (ratD (cb x y*n) d):=by simp[idxD,keyD,get_old hj,ints?,hb.get,hc]
  have hupd:upd (fun x y=>ca x y+only (pre.map (·.1)) cb x y) x y (ca x y+only (pre.map (·.1)) cb x y+cb x y)=fun x' y'=>ca x' y'+only ((pre++[([x,y],ratD (cb x y*n) d)]).map (·.1)) cb x' y':=by
   funext x' y'
   unfold upd
   split
   ·rename_i q
    rw[q.1,q.2,hnow]
    simp[only]
   ·rename_i q
    have:([x',y']=[x,y])↔False:=by simp only[List.cons.injEq,and_true,iff_false];exact q
    have hm:[x',y']∈(pre++[([x,y],ratD (cb x y*n) d)]).map (·.1)↔[x',y']∈pre.map (·.1):=by
     rw[List.map_append,List.mem_append]
     simp only[List.map_cons,List.map_nil,List.mem_singleton,this,or_false]
    simp only[only,hm]
  rw[hupd] at p'
  obtain⟨gs'',w'',o'',hl,pl⟩:=mvadd_loop hW hd hd' hn hb hj bb ba h1 h2 suf (pre++[([x,y],ratD (cb x y*n) d)]) gs' (w+1) (some (keyD [x,y])) (by rw[hf];simp) p'
  refine⟨gs'',w'',o'',?_,pl⟩
  rw[List.map_cons,for_step (l1:=[some (.ref i),some (.ref j),some (.ref σ.length),some (keyD [x,y])]) (fl:=.next) (l2:=[some (.ref i),some (.ref j),some (.ref σ.length),some (keyD [x,y])]) (σ2:=σ++[.dict gs' (w+1)]),hl]
  ·simp[bindT]
  ·simp[exS,ev,evs,hidx,hcall]
  ·simp
  ·simp[srcOk,get_old hj,AO.ver]
theorem mvadd_call {ca cb:Int→Int→Int} {es fs:Es} {i j wa wb:Nat} (hW:2^30≤W) (hd:0<d) (hd':d<2^15) (hn:n≠0) (ha:Pol n d ca es) (hi:σ[i]?=some (.dict es wa)) (hb:Pol n d cb fs) (hj:σ[j]?=some (.dict fs wb)) (ba:Box ca) (bb:Box cb)
  (h1:∀x y,(ca x y*n).natAbs<2^40) (h2:∀x y,(cb x y*n).natAbs<2^40) :
  ∃gs w,evCall FT W (k+5) f_mvadd [.ref i,.ref j] σ=some (.ref σ.length,σ++[.dict gs w])∧Pol n d (fun x y=>ca x y+cb x y) gs:=by
 have p0:Pol n d (fun x y=>ca x y+only (([]:Es).map (·.1)) cb x y) es:=by
  have:(fun x y=>ca x y+only (([]:Es).map (·.1)) cb x y)=ca:=by funext x y;simp[only]
  rw[this];exact ha
 obtain⟨gs,w,o,hl,p⟩:=mvadd_loop (k:=k) (σ:=σ) (i:=i) hW hd hd' hn hb hj bb ba h1 h2 fs [] es 0 none rfl p0
 refine⟨gs,w,?_,p⟩
 refine call_ret (fn:=⟨2,4,b_mvadd⟩) rfl rfl (l:=[some (.ref i),some (.ref j),some (.ref σ.length),o]) ?_
 refine seq_next (l1:=[some (.ref i),some (.ref j),some (.ref σ.length),none]) (σ1:=σ++[.dict es 0]) ?_ (seq_next (l1:=[some (.ref i),some (.ref j),some (.ref σ.length),o]) (σ1:=σ++[.dict gs w]) ?_ ?_)
 ·simp[exS,ev,hi,ha.len ba,ha.hashes ba]
 ·have hj':=get_old (τ:=[.dict es 0]) hj
  simp only[exS,evI,ev,List.getElem?_cons_succ,List.getElem?_cons_zero,iterOf,hj']
  exact hl
 ·simp[exS,ev]
end
theorem dcomp_step {bind:D→Loc→Option Loc} {test:Loc→St→Option (Bool×St)} {key val:Loc→St→Option (D×St)} {src:Src} {l l':Loc} {dd:D} {ds:List D} {es:Es} {σ:St} {kk:List Int} {v:D}
  (h1:bind dd l=some l') (h2:test l' σ=some (true,σ)) (h3:key l' σ=some (keyD kk,σ)) (h4:val l' σ=some (v,σ)) (h5:srcOk src σ=true) (h6:es.length<LIM) :
  dcompGo bind test key val src l (dd::ds) es σ=dcompGo bind test key val src l ds (dput es kk v) σ:=by
 have hk:ints? (kk.map D.int)=some kk:=by
  induction kk with
  |nil=>rfl
  |cons i r ih=>
   have ih':ints? (r.map D.int)=some r:=by
    clear h3 ih
    induction r with
    |nil=>rfl
    |cons i r ih=>simp[ints?,ih]
   simp[ints?,ih']
 simp only[keyD] at h3
 simp[dcompGo,h1,h2,h3,hk,h4,h5,h6]
theorem put_new {es:Es} {k:List Int} {v:D} (h:k∉es.map (·.1)):dput es k v=es++[(k,v)]:=by
 unfold dput
 rw[dg_none_of h]
 simp
theorem dcomp_map {bind:D→Loc→Option Loc} {test:Loc→St→Option (Bool×St)} {key val:Loc→St→Option (D×St)} {src:Src} {l:Loc} {σ:St} (φ:List Int×D→List Int) (ψ:List Int×D→D) (ht:∀l,test l σ=some (true,σ)) (hs:srcOk src σ=true) :
  ∀(suf:Es) (acc:Es),(∀e∈suf,∃l',bind (keyD e.1) l=some l'∧key l' σ=some (keyD (φ e),σ)∧val l' σ=some (ψ e,σ))→((acc.map (·.1))++suf.map φ).Nodup→acc.length+suf.length<LIM→
   dcompGo bind test key val src l (suf.map fun e=>keyD e.1) acc σ=some (acc++suf.map (fun e=>(φ e,ψ e)),σ)
 | [],acc,_,_,_=>by simp[dcompGo]
 |e::suf,acc,h,nd,hl=>by
  obtain⟨l',h1,h3,h4⟩:=h e List.mem_cons_self
  have hnot:φ e∉acc.map (·.1):=by
   intro hm
   rw[List.nodup_append] at nd
   exact nd.2.2 _ hm _ List.mem_cons_self rfl
  simp only[List.length_cons] at hl
  rw[List.map_cons,dcomp_step h1 (ht l') h3 h4 hs (by omega),put_new hnot,dcomp_map φ ψ ht hs suf (acc++[(φ e,ψ e)]) (fun e' he=>h e' (List.mem_cons_of_mem _ he)) ?_ (by simp only[List.length_append,List.length_cons,List.length_nil];omega)]
  ·simp
  ·simpa using nd
theorem ratD_neg {t b p q:Int} (hb:0<b) (h:ratD t b=qD p q):ratD (-t) b=qD (0-p) q:=by
 rw[ratD_pos hb] at h ⊢
 rw[show Int.gcd (-t) b=Int.gcd t b by simp[Int.gcd]]
 have h1:t/(Int.gcd t b:Nat)=p:=by simpa using congrArg (fun d=>match d with|D.tup [.int p,.int _]=>p|_=>0) h
 have h2:b/(Int.gcd t b:Nat)=q:=by simpa using congrArg (fun d=>match d with|D.tup [.int _,.int q]=>q|_=>0) h
 rw[Int.neg_ediv_of_dvd (Int.gcd_dvd_left t b),h1,h2,Int.zero_sub]
theorem dg_mapv (ψ:List Int×D→D) (es:Es) (k:List Int):dget (es.map fun e=>(e.1,ψ e)) k=(dget es k).map fun v=>ψ (k,v):=by
 induction es with
 |nil=>rfl
 |cons e es ih=>
  obtain⟨k',v⟩:=e
  rw[List.map_cons,dg_cons,dg_cons,ih]
  by_cases h:k'=k
  ·subst h;simp
  ·simp[h]
theorem Pol.mapv {n d n' d':Int} {c c':Int→Int→Int} {es:Es} (p:Pol n d c es) (ψ:List Int×D→D) (h0:∀x y,c x y=0↔c' x y=0) (h:∀x y,c x y≠0→ψ ([x,y],ratD (c x y*n) d)=ratD (c' x y*n') d'):Pol n' d' c' (es.map fun e=>(e.1,ψ e)) where
 nd:=by rw[List.map_map];exact p.nd
 get:=fun x y=>by
  rw[dg_mapv,p.get]
  by_cases hc:c x y=0
  ·simp[hc,(h0 x y).mp hc]
  ·have hc':c' x y≠0:=fun q=>hc ((h0 x y).mpr q)
   simp[hc,hc',h x y hc]
 two:=fun e he=>by
  obtain⟨e',he',rfl⟩:=List.mem_map.mp he
  exact p.two e' he'
theorem Pol.keysKept {n d:Int} {c:Int→Int→Int} {es:Es} (p:Pol n d c es):((([]:Es).map (·.1))++es.map (fun e=>e.1)).Nodup:=by
 simpa using p.nd
section
variable {W k:Nat} {σ:St} {n d:Int}
def negV (e:List Int×D):D:=match e.2 with
 | .tup [.int p,.int q]=>qD (0-p) q
 |_=>.none
theorem mvneg_call {c:Int→Int→Int} {es:Es} {i w:Nat} (hd:0<d) (p:Pol n d c es) (b:Box c) (hi:σ[i]?=some (.dict es w)) :
  ∃gs,evCall FT W (k+2) f_mvneg [.ref i] σ=some (.ref σ.length,σ++[.dict gs 0])∧Pol n d (fun x y=>- c x y) gs:=by
 refine⟨es.map fun e=>(e.1,negV e),?_,p.mapv negV (fun x y=>by omega) fun x y hc=>?_⟩
 ·refine call_ret (fn:=⟨1,2,b_mvneg⟩) rfl rfl (l:=[some (.ref i),none]) ?_
  have hl:=p.len b
  have:=dcomp_map (bind:=bindT [1] false) (test:=fun _ σ=>some (true,σ)) (key:=ev (evCall FT W (k+1)) (.var 1)) (val:=ev (evCall FT W (k+1)) (.call f_rneg (.acons (.idx (.var 0) (.var 1)) (.anil))))
   (src:=some (i,w)) (l:=[some (.ref i),none]) (σ:=σ) (fun e=>e.1) negV (fun _=>rfl) (by simp[srcOk,hi,AO.ver]) es [] (fun e he=>?_) p.keysKept (by simpa using hl)
  ·simp only[List.nil_append] at this
   simp only[exS,b_mvneg,ev,evI,List.map_cons,List.map_nil,List.cons_append,List.nil_append,List.getElem?_cons_zero,iterOf,hi]
   show(match (match dcompGo (bindT [1] false) (fun _ σ=>some (true,σ)) (ev (evCall FT W (k+1)) (.var 1)) (ev (evCall FT W (k+1)) (.call f_rneg (.acons (.idx (.var 0) (.var 1)) (.anil)))) (some (i,w)) [some (.ref i),none] (es.map fun e=>keyD e.1) [] σ with
    |some (es,σ2)=>some (D.ref σ2.length,σ2++[AO.dict es 0])
    |none=>none) with|some (d,σ1)=>some (Fl.ret d,_,σ1)|none=>none)=_
   rw[this]
   rfl
  ·obtain⟨x,y,rfl,hc⟩:=p.entry he
   obtain⟨a,q,e⟩:=ratD_tup (c x y*n) d
   have hidx:idxD σ (.ref i) (keyD [x,y])=some (qD a q):=by simp[idxD,keyD,hi,ints?,p.get,hc,e]
   refine⟨[some (.ref i),some (keyD [x,y])],by simp[bindT],by simp[ev],?_⟩
   have:=rneg_call (W:=W) (n:=k) (σ:=σ) (a:=a) (b:=q)
   simp[ev,evs,hidx,this,negV,e]
 ·obtain⟨a,q,e⟩:=ratD_tup (c x y*n) d
  have:=ratD_neg hd e
  rw[Int.neg_mul,this]
  simp[negV,e]
end
section
variable {W k:Nat} {σ:St} {n d:Int}
theorem mvsub_call {ca cb:Int→Int→Int} {es fs:Es} {i j wa wb:Nat} (hW:2^30≤W) (hd:0<d) (hd':d<2^15) (hn:n≠0) (ha:Pol n d ca es) (hi:σ[i]?=some (.dict es wa)) (hb:Pol n d cb fs) (hj:σ[j]?=some (.dict fs wb)) (ba:Box ca) (bb:Box cb)
  (h1:∀x y,(ca x y*n).natAbs<2^40) (h2:∀x y,(cb x y*n).natAbs<2^40) :
  ∃τ gs w r,evCall FT W (k+6) f_mvsub [.ref i,.ref j] σ=some (.ref r,σ++τ)∧(σ++τ)[r]?=some (.dict gs w)∧σ.length≤r∧Pol n d (fun x y=>ca x y-cb x y) gs:=by
 obtain⟨ns,hneg,pn⟩:=mvneg_call (W:=W) (k:=k+3) (σ:=σ) hd hb bb hj
 have bn:Box (fun x y=>- cb x y):=fun x y h=>bb x y fun q=>h (by show-cb x y=0;omega)
 obtain⟨gs,w,hadd,pa⟩:=mvadd_call (k:=k) (σ:=σ++[.dict ns 0]) (j:=σ.length) hW hd hd' hn ha (get_old hi) pn (get_new _ _) ba bn h1 (fun x y=>by show(- cb x y*n).natAbs<2^40;rw[Int.neg_mul,Int.natAbs_neg];exact h2 x y)
 refine⟨[.dict ns 0,.dict gs w],gs,w,σ.length+1,?_,?_,by omega,?_⟩
 ·refine call_ret (fn:=⟨2,2,b_mvsub⟩) rfl rfl (l:=[some (.ref i),some (.ref j)]) ?_
  simp[exS,b_mvsub,ev,evs,hneg,hadd]
 ·simp
 ·have:(fun x y=>ca x y-cb x y)=fun x y=>ca x y+- cb x y:=by funext x y;omega
  rw[this];exact pa
end
section
variable {W k:Nat} {σ:St}
theorem pprod_call {x y a b:Int}:evCall FT W (k+1) f_powers_product [keyD [x,y],keyD [a,b]] σ=some (keyD [x+a,y+b],σ):=by
 refine call_ret (fn:=⟨2,4,b_powers_product⟩) rfl rfl (l:=[some (keyD [x,y]),some (keyD [a,b]),none,none]) ?_
 simp[exS,b_powers_product,ev,evL,evI,enumD,keyD,compGo,bindT,binD,idxD,LIM,srcOk]
theorem pquot_call {x y a b:Int}:evCall FT W (k+1) f_powers_quotient [keyD [x,y],keyD [a,b]] σ=some (keyD [x-a,y-b],σ):=by
 refine call_ret (fn:=⟨2,4,b_powers_quotient⟩) rfl rfl (l:=[some (keyD [x,y]),some (keyD [a,b]),none,none]) ?_
 simp[exS,b_powers_quotient,ev,evL,evI,enumD,keyD,compGo,bindT,binD,idxD,LIM,srcOk]
theorem pdiv_call {x y a b:Int}:evCall FT W (k+1) f_powers_divide [keyD [x,y],keyD [a,b]] σ=some (.bool (decide (x≤a∧y≤b)),σ):=by
 have h0:([x,y].map D.int)=[.int x,.int y]:=rfl
 by_cases h1:x>a
 ·refine call_ret (fn:=⟨2,4,b_powers_divide⟩) rfl rfl (l:=[some (keyD [x,y]),some (keyD [a,b]),some (.int 0),some (.int x)]) ?_
  have:¬x≤a:=by omega
  simp[exS,b_powers_divide,ev,evI,evT,enumD,keyD,forGo,bindT,idxD,LIM,srcOk,cmpD,truthD,h1,this]
 ·by_cases h2:y>b
  ·refine call_ret (fn:=⟨2,4,b_powers_divide⟩) rfl rfl (l:=[some (keyD [x,y]),some (keyD [a,b]),some (.int 1),some (.int y)]) ?_
   have:¬y≤b:=by omega
   simp[exS,b_powers_divide,ev,evI,evT,enumD,keyD,forGo,bindT,idxD,LIM,srcOk,cmpD,truthD,h1,h2,this]
  ·refine call_ret (fn:=⟨2,4,b_powers_divide⟩) rfl rfl (l:=[some (keyD [x,y]),some (keyD [a,b]),some (.int 1),some (.int y)]) ?_
   have:x≤a∧y≤b:=by omega
   simp[exS,b_powers_divide,ev,evI,evT,enumD,keyD,forGo,bindT,idxD,LIM,srcOk,cmpD,truthD,h1,h2,this]
end
theorem nodup_shift {c:Int→Int→Int} {n d:Int} {es:Es} (p:Pol n d c es) (a b:Int) (φ:List Int×D→List Int) (hφ:∀x y v,φ ([x,y],v)=[x+a,y+b]):((([]:Es).map (·.1))++es.map φ).Nodup:=by
 have he:es.map φ=(es.map (·.1)).map (fun k=>match k with | [x,y]=>[x+a,y+b]|k=>k):=by
  rw[List.map_map]
  apply List.map_congr_left
  intro e he
  obtain⟨x,y,hk⟩:=p.two e he
  obtain⟨k,v⟩:=e
  simp only at hk
  subst hk
  rw[hφ];rfl
 rw[he]
 simp only[List.map_nil,List.nil_append]
 refine nodup_map_on _ p.nd fun k hk k' hk' e=>?_
 obtain⟨e1,he1,rfl⟩:=List.mem_map.mp hk
 obtain⟨e2,he2,rfl⟩:=List.mem_map.mp hk'
 obtain⟨x,y,h1⟩:=p.two e1 he1
 obtain⟨x',y',h2⟩:=p.two e2 he2
 rw[h1,h2] at e ⊢
 simp only[List.cons.injEq,and_true] at e ⊢
 omega
section
variable {W k:Nat} {σ:St}
abbrev PolI (c:Int→Int→Int) (es:Es):Prop:=Pol 1 1 c es
theorem PolI.val {c:Int→Int→Int} {es:Es} (p:PolI c es) (x y:Int):dget es [x,y]=if c x y=0 then none else some (qD (c x y) 1):=by
 rw[p.get,Int.mul_one,ratD_one]
def shV (a b v:Int) (e:List Int×D):D:=match e.2 with
 | .tup [.int p,.int _]=>qD (p*v) 1
 |_=>.none
def shK (a b:Int) (e:List Int×D):List Int:=match e.1 with
 | [x,y]=>[x+a,y+b]
 |k=>k
theorem dg_shift {c:Int→Int→Int} {es:Es} (p:PolI c es) (a b v x y:Int):dget (es.map fun e=>(shK a b e,shV a b v e)) [x,y]=(dget es [x-a,y-b]).map fun u=>shV a b v ([],u):=by
 obtain⟨nd,hget,two⟩:=p
 clear nd hget
 induction es with
 |nil=>rfl
 |cons e es ih=>
  obtain⟨x',y',hk⟩:=two e List.mem_cons_self
  obtain⟨k',u⟩:=e
  simp only at hk
  subst hk
  rw[List.map_cons,dg_cons,dg_cons,ih fun e0 he0=>two e0 (List.mem_cons_of_mem _ he0)]
  by_cases h:x'=x-a∧y'=y-b
  ·have:x'+a=x∧y'+b=y:=by omega
   simp[shK,h,shV]
  ·have:¬(x'+a=x∧y'+b=y):=by omega
   simp[shK,h,this]
end
section
variable {W k:Nat} {σ:St}
theorem PolI.shift {c:Int→Int→Int} {es:Es} (p:PolI c es) (a b v:Int) (hv:v≠0):PolI (fun x y=>c (x-a) (y-b)*v) (es.map fun e=>(shK a b e,shV a b v e)) where
 nd:=by
  have:=nodup_shift p a b (shK a b) (fun x y v=>rfl)
  rw[List.map_map]
  exact(show(es.map (shK a b)).Nodup by simpa using this)
 get:=fun x y=>by
  rw[dg_shift p,PolI.val p,Int.mul_one,ratD_one]
  by_cases h:c (x-a) (y-b)=0
  ·simp[h]
  ·have:c (x-a) (y-b)*v≠0:=Int.mul_ne_zero h hv
   simp[h,hv,shV]
 two:=fun e he=>by
  obtain⟨e',he',rfl⟩:=List.mem_map.mp he
  obtain⟨x,y,h⟩:=p.two e' he'
  exact⟨x+a,y+b,by simp[shK,h]⟩
end
section
variable {W k:Nat} {σ:St}
theorem mvshift_call {c:Int→Int→Int} {es:Es} {i w:Nat} {a b v:Int} (hW:2^30≤W) (p:PolI c es) (bx:Box c) (hi:σ[i]?=some (.dict es w)) (hv:v≠0) (hs:v.natAbs<2^40) :
  ∃gs,evCall FT W (k+4) f_mvshift [.ref i,keyD [a,b],qD v 1] σ=some (.ref σ.length,σ++[.dict gs 0])∧PolI (fun x y=>c (x-a) (y-b)*v) gs:=by
 refine⟨_,?_,p.shift a b v hv⟩
 have h0:(v==0)=false:=by simpa using hv
 refine call_ret (fn:=⟨3,4,b_mvshift⟩) rfl rfl (l:=[some (.ref i),some (keyD [a,b]),some (qD v 1),none]) (seq_next (l1:=[some (.ref i),some (keyD [a,b]),some (qD v 1),none]) (σ1:=σ) ?_ ?_)
 ·simp[exS,evT,ev,eq_pair,h0,truthD]
 ·have hl:=p.len bx
  have:=dcomp_map (bind:=bindT [3] false) (test:=fun _ σ=>some (true,σ)) (key:=ev (evCall FT W (k+3)) (.call f_powers_product (.acons (.var 3) (.acons (.var 1) (.anil))))) (val:=ev (evCall FT W (k+3)) (.call f_rmul (.acons (.idx (.var 0) (.var 3)) (.acons (.var 2) (.anil)))))
   (src:=some (i,w)) (l:=[some (.ref i),some (keyD [a,b]),some (qD v 1),none]) (σ:=σ) (shK a b) (shV a b v) (fun _=>rfl) (by simp[srcOk,hi,AO.ver]) es [] (fun e he=>?_) (nodup_shift p a b (shK a b) fun _ _ _=>rfl) (by simpa using hl)
  ·simp only[List.nil_append] at this
   simp only[exS,ev,evI,List.map_cons,List.map_nil,List.cons_append,List.nil_append,List.getElem?_cons_zero,iterOf,hi]
   show(match (match dcompGo (bindT [3] false) (fun _ σ=>some (true,σ)) (ev (evCall FT W (k+3)) (.call f_powers_product (.acons (.var 3) (.acons (.var 1) (.anil))))) (ev (evCall FT W (k+3)) (.call f_rmul (.acons (.idx (.var 0) (.var 3)) (.acons (.var 2) (.anil))))) (some (i,w)) [some (.ref i),some (keyD [a,b]),some (qD v 1),none] (es.map fun e=>keyD e.1) [] σ with
    |some (es,σ2)=>some (D.ref σ2.length,σ2++[AO.dict es 0])
    |none=>none) with|some (d,σ1)=>some (Fl.ret d,_,σ1)|none=>none)=_
   rw[this]
  ·obtain⟨x,y,rfl,hc⟩:=p.entry he
   rw[Int.mul_one,ratD_one] at *
   have hidx:idxD σ (.ref i) (keyD [x,y])=some (qD (c x y) 1):=by simp[idxD,keyD,hi,ints?,PolI.val p,hc]
   have h1:=pprod_call (W:=W) (k:=k+2) (σ:=σ) (x:=x) (y:=y) (a:=a) (b:=b)
   have h2:=rmul_call (W:=W) (n:=k) (σ:=σ) (a:=c x y) (b:=1) (c:=v) (d:=1) (.inr (by omega)) (.inl (by decide)) (by decide) (by decide) (by simp;omega)
   refine⟨[some (.ref i),some (keyD [a,b]),some (qD v 1),some (keyD [x,y])],by simp[bindT],?_,?_⟩
   ·simp[ev,evs,h1,shK]
   ·rw[show(1:Int)*1=1 from rfl,ratD_one] at h2
    simp[ev,evs,hidx,h2,shV]
end
section
variable {W k:Nat} {σ:St} {n d:Int}
abbrev lexS:D:=.str (Str.ofString "lex")
theorem key_call {x:D}:evCall FT W (k+1) f_order_key [lexS,x] σ=some (x,σ):=by
 refine call_ret (fn:=⟨2,3,b_order_key⟩) rfl rfl (l:=[some lexS,some x,none]) (seq_ret ?_)
 simp[exS,evT,ev,cmpD,eqD,CF,truthD]
end
def lexLe (x' y' x y:Int):Prop:=x'<x∨(x'=x∧y'≤y)
theorem gt_ints (x' y' x y:Int):gtInts [x',y'] [x,y]=true↔¬lexLe x' y' x y:=by
 unfold lexLe gtInts
 by_cases h:x'=x
 ·subst h
  by_cases h2:y'=y
  ·subst h2;simp[gtInts]
  ·simp[gtInts,h2]
 ·simp[h];omega
section
variable {W k:Nat} {σ:St} {n d:Int}
abbrev leadBody:XS:=.seq (.asg 5 (.call f_order_key (.acons (.var 1) (.acons (.var 4) (.anil)))))
  (.ifs (.or (.isn (.var 2)) (.cmp .gt (.var 5) (.var 3))) (.asgT [2,3] (.tup (.acons (.var 4) (.acons (.var 5) (.anil))))) (.nil))
theorem lead_turn {i:Nat} {x y x' y':Int} {o o':Option D} :
  exS (evCall FT W (k+1)) W leadBody [some (.ref i),some lexS,some (keyD [x,y]),some (keyD [x,y]),some (keyD [x',y']),o] σ
   = some (.next,[some (.ref i),some lexS,some (keyD (if gtInts [x',y'] [x,y] then [x',y'] else [x,y])),some (keyD (if gtInts [x',y'] [x,y] then [x',y'] else [x,y])),some (keyD [x',y']),some (keyD [x',y'])],σ):=by
 refine seq_next (l1:=[some (.ref i),some lexS,some (keyD [x,y]),some (keyD [x,y]),some (keyD [x',y']),some (keyD [x',y'])]) (σ1:=σ) ?_ ?_
 ·have:=key_call (W:=W) (k:=k) (σ:=σ) (x:=keyD [x',y'])
  simp[exS,ev,evs,this]
 ·cases h:gtInts [x',y'] [x,y]<;>simp[exS,evT,ev,evs,keyD,truthD,cmpD,ints?,h,bindT,LIM]
theorem lead_first {i:Nat} {x' y':Int} {o:Option D} :
  exS (evCall FT W (k+1)) W leadBody [some (.ref i),some lexS,some .none,some .none,some (keyD [x',y']),o] σ
   = some (.next,[some (.ref i),some lexS,some (keyD [x',y']),some (keyD [x',y']),some (keyD [x',y']),some (keyD [x',y'])],σ):=by
 refine seq_next (l1:=[some (.ref i),some lexS,some .none,some .none,some (keyD [x',y']),some (keyD [x',y'])]) (σ1:=σ) ?_ ?_
 ·have:=key_call (W:=W) (k:=k) (σ:=σ) (x:=keyD [x',y'])
  simp[exS,ev,evs,this]
 ·simp[exS,evT,ev,evs,keyD,truthD,bindT,LIM]
end
theorem for_ev {C:Nat→List D→St→Option (D×St)} {W:Nat} {ts:List Nat} {many:Bool} {it:X} {b:XS} {l:Loc} {σ σ1:St} {ds:List D} {src:Src} (h:evI C it l σ=some (ds,src,σ1)) :
  exS C W (.for_ ts many it b) l σ=forGo (bindT ts many) (exS C W b) src ds l σ1:=by
 simp only[exS,h]
theorem lexLe_refl (x y:Int):lexLe x y x y:=.inr ⟨rfl,Int.le_refl _⟩
theorem lexLe_trans {a b c d e f:Int} (h:lexLe a b c d) (h':lexLe c d e f):lexLe a b e f:=by unfold lexLe at *;omega
theorem lexLe_total (a b c d:Int):lexLe a b c d∨lexLe c d a b:=by unfold lexLe;omega
theorem lexLe_anti {a b c d:Int} (h:lexLe a b c d) (h':lexLe c d a b):a=c∧b=d:=by unfold lexLe at *;omega
section
variable {W k:Nat} {σ:St} {n d:Int}
theorem lead_loop {i w:Nat} {es:Es} (hi:σ[i]?=some (.dict es w)):∀(suf:Es) (x y:Int) (o o':Option D),(∀e∈suf,∃x' y',e.1=[x',y'])→
  ∃x1 y1 o1 o2,forGo (bindT [4] false) (exS (evCall FT W (k+1)) W leadBody) (some (i,w)) (suf.map fun e=>keyD e.1) [some (.ref i),some lexS,some (keyD [x,y]),some (keyD [x,y]),o,o'] σ
    = some (.next,[some (.ref i),some lexS,some (keyD [x1,y1]),some (keyD [x1,y1]),o1,o2],σ)
   ∧ ((x1=x∧y1=y)∨[x1,y1]∈suf.map (·.1))∧lexLe x y x1 y1∧∀x' y',[x',y']∈suf.map (·.1)→lexLe x' y' x1 y1
 | [],x,y,o,o',_=>⟨x,y,o,o',rfl,.inl ⟨rfl,rfl⟩,lexLe_refl _ _,fun _ _ h=>by cases h⟩
 |e::suf,x,y,o,o',h=>by
  obtain⟨x',y',hk⟩:=h e List.mem_cons_self
  obtain⟨k',v⟩:=e
  simp only at hk
  subst hk
  have ht:=lead_turn (W:=W) (k:=k) (σ:=σ) (i:=i) (x:=x) (y:=y) (x':=x') (y':=y') (o:=o') (o':=none)
  by_cases hg:gtInts [x',y'] [x,y]=true
  ·have hg':=(gt_ints _ _ _ _).mp hg
   rw[if_pos hg] at ht
   obtain⟨x1,y1,o1,o2,hl,h1,h2,h3⟩:=lead_loop hi suf x' y' (some (keyD [x',y'])) (some (keyD [x',y'])) fun e he=>h e (List.mem_cons_of_mem _ he)
   refine⟨x1,y1,o1,o2,?_,?_,?_,?_⟩
   ·rw[List.map_cons,for_step (l1:=[some (.ref i),some lexS,some (keyD [x,y]),some (keyD [x,y]),some (keyD [x',y']),o']) (by simp[bindT]) ht (by simp) (by simp[srcOk,hi,AO.ver]),hl]
   ·rcases h1 with⟨rfl,rfl⟩|h1
    ·exact .inr (by simp)
    ·exact .inr (by simp only[List.map_cons];exact List.mem_cons_of_mem _ h1)
   ·exact lexLe_trans ((lexLe_total x y x' y').resolve_right hg') h2
   ·intro a b hab
    simp only[List.map_cons,List.mem_cons,List.cons.injEq,and_true] at hab
    rcases hab with⟨rfl,rfl⟩|hab
    ·exact h2
    ·exact h3 a b hab
  ·have hg':lexLe x' y' x y:=Classical.byContradiction fun q=>hg ((gt_ints _ _ _ _).mpr q)
   rw[if_neg hg] at ht
   obtain⟨x1,y1,o1,o2,hl,h1,h2,h3⟩:=lead_loop hi suf x y (some (keyD [x',y'])) (some (keyD [x',y'])) fun e he=>h e (List.mem_cons_of_mem _ he)
   refine⟨x1,y1,o1,o2,?_,?_,h2,?_⟩
   ·rw[List.map_cons,for_step (l1:=[some (.ref i),some lexS,some (keyD [x,y]),some (keyD [x,y]),some (keyD [x',y']),o']) (by simp[bindT]) ht (by simp) (by simp[srcOk,hi,AO.ver]),hl]
   ·rcases h1 with h1|h1
    ·exact .inl h1
    ·exact .inr (by simp only[List.map_cons];exact List.mem_cons_of_mem _ h1)
   ·intro a b hab
    simp only[List.map_cons,List.mem_cons,List.cons.injEq,and_true] at hab
    rcases hab with⟨rfl,rfl⟩|hab
    ·exact lexLe_trans hg' h2
    ·exact h3 a b hab
theorem mvlead_none {i w:Nat} (hi:σ[i]?=some (.dict [] w)):evCall FT W (k+2) f_mvlead [.ref i,lexS] σ=some (.none,σ):=by
 refine call_ret (fn:=⟨2,6,b_mvlead⟩) rfl rfl (l:=[some (.ref i),some lexS,some .none,some .none,none,none]) (seq_next (l1:=[some (.ref i),some lexS,some .none,some .none,none,none]) (σ1:=σ) ?_ (seq_next (l1:=[some (.ref i),some lexS,some .none,some .none,none,none]) (σ1:=σ) ?_ ?_))
 ·simp[exS,ev,evs,bindT,LIM]
 ·simp[exS,evI,ev,iterOf,hi,forGo]
 ·simp[exS,ev,truthD]
theorem mvlead_call {i w:Nat} {c:Int→Int→Int} {es:Es} (p:Pol n d c es) (hi:σ[i]?=some (.dict es w)) (hne:es≠[]) :
  ∃x y,evCall FT W (k+2) f_mvlead [.ref i,lexS] σ=some (.tup [keyD [x,y],ratD (c x y*n) d],σ)∧c x y≠0∧∀x' y',c x' y'≠0→lexLe x' y' x y:=by
 obtain⟨e,r,rfl⟩:=List.exists_cons_of_ne_nil hne
 obtain⟨x',y',rfl,hc'⟩:=p.entry List.mem_cons_self
 obtain⟨x,y,o1,o2,hl,h1,h2,h3⟩:=lead_loop (W:=W) (k:=k) hi r x' y' (some (keyD [x',y'])) (some (keyD [x',y'])) fun e he=>p.two e (List.mem_cons_of_mem _ he)
 have hm:[x,y]∈(([x',y'],ratD (c x' y'*n) d)::r).map (·.1):=by
  rcases h1 with⟨rfl,rfl⟩|h1
  ·simp
  ·simp only[List.map_cons];exact List.mem_cons_of_mem _ h1
 have hc:c x y≠0:=by
  obtain⟨e,he,hk⟩:=List.mem_map.mp hm
  obtain⟨a,b,rfl,hz⟩:=p.entry he
  simp only[List.cons.injEq,and_true] at hk
  rw[←hk.1,←hk.2];exact hz
 refine⟨x,y,?_,hc,fun a b hab=>?_⟩
 ·refine call_ret (fn:=⟨2,6,b_mvlead⟩) rfl rfl (l:=[some (.ref i),some lexS,some (keyD [x,y]),some (keyD [x,y]),o1,o2]) (seq_next (l1:=[some (.ref i),some lexS,some .none,some .none,none,none]) (σ1:=σ) ?_ (seq_next (l1:=[some (.ref i),some lexS,some (keyD [x,y]),some (keyD [x,y]),o1,o2]) (σ1:=σ) ?_ ?_))
  ·simp[exS,ev,evs,bindT,LIM]
  ·have hf:=lead_first (W:=W) (k:=k) (σ:=σ) (i:=i) (x':=x') (y':=y') (o:=none)
   rw[for_ev (ds:=(([x',y'],ratD (c x' y'*n) d)::r).map fun e=>keyD e.1) (src:=some (i,w)) (σ1:=σ) (by simp[evI,ev,iterOf,hi]),List.map_cons,for_step (l1:=[some (.ref i),some lexS,some .none,some .none,some (keyD [x',y']),none]) (by simp[bindT]) hf (by simp) (by simp[srcOk,hi,AO.ver])]
   exact hl
  ·have hidx:idxD σ (.ref i) (keyD [x,y])=some (ratD (c x y*n) d):=by
    have:=p.get x y
    simp[idxD,keyD,hi,ints?,this,hc]
   simp[exS,ev,evs,truthD,hidx,LIM,keyD] at *
   simp[hidx]
 ·have hg:=p.get a b
  rw[if_neg hab] at hg
  have:=dg_mem hg
  rcases List.mem_cons.mp this with q|q
  ·cases q;exact h2
  ·exact h3 a b (List.mem_map.mpr ⟨_,q,rfl⟩)
end
def Ext (σ σ':St):Prop:=∃τ,σ'=σ++τ
theorem Ext.refl (σ:St):Ext σ σ:=⟨[],by simp⟩
theorem Ext.app (σ τ:St):Ext σ (σ++τ):=⟨τ,rfl⟩
theorem Ext.trans {a b c:St} (h:Ext a b) (h':Ext b c):Ext a c:=by
 obtain⟨t,rfl⟩:=h
 obtain⟨u,rfl⟩:=h'
 exact⟨t++u,by simp⟩
theorem Ext.get {a b:St} (h:Ext a b) {i:Nat} {o:AO} (e:a[i]?=some o):b[i]?=some o:=by
 obtain⟨t,rfl⟩:=h
 exact get_old e
theorem Ext.app_r {a b:St} (h:Ext a b) (t:St):Ext a (b++t):=h.trans (Ext.app _ _)
def IsPol (n d:Int) (c:Int→Int→Int) (r:Nat) (σ:St):Prop:=∃es w,σ[r]?=some (.dict es w)∧Pol n d c es
theorem IsPol.ext {n d:Int} {c:Int→Int→Int} {r:Nat} {a b:St} (h:IsPol n d c r a) (e:Ext a b):IsPol n d c r b:=by
 obtain⟨es,w,h1,h2⟩:=h
 exact⟨es,w,e.get h1,h2⟩
abbrev Cf:=Int→Int→Int
structure Par where
 e:Int
 a:Int
 b:Int
 deriving DecidableEq
def T (p:Par) (c:Cf):Cf:=fun x y=>c (x-1) (y-p.e)+p.a*c x (y-1)+p.b*c x y
def dlt:Cf:=fun x y=>if x=0∧y=0 then 1 else 0
theorem T_comm (p q:Par) (c:Cf):T p (T q c)=T q (T p c):=by
 funext x y
 unfold T
 rw[show y-p.e-q.e=y-q.e-p.e by omega,show y-p.e-1=y-1-p.e by omega,show y-q.e-1=y-1-q.e by omega]
 grind
def prodT (ps:List Par):Cf:=ps.foldr T dlt
theorem prodT_perm {ps qs:List Par} (h:ps.Perm qs):prodT ps=prodT qs:=by
 induction h with
 |nil=>rfl
 |cons p _ ih=>show T p _=T p _;exact congrArg _ ih
 |swap p q l=>show T q (T p _)=T p (T q _);exact T_comm _ _ _
 |trans _ _ h1 h2=>exact h1.trans h2
structure Par.Ok (p:Par):Prop where
 e:(p.e=0∨p.e=1)
 ea:p.e=1→p.a=0
 eb:p.e=1→p.b≠0
 a : -1≤p.a∧p.a≤2
 b : -2≤p.b∧p.b≤3
def Supp (k:Nat) (c:Cf):Prop:=∀x y,c x y≠0→0≤x∧x≤k∧0≤y∧y≤k
def Bnd (k:Nat) (c:Cf):Prop:=∀x y,(c x y).natAbs≤6^k
def Lead (X Y:Int) (c:Cf):Prop:=c X Y=1∧∀x y,c x y≠0→lexLe x y X Y
theorem supp_dlt:Supp 0 dlt:=fun x y h=>by
 unfold dlt at h
 split at h
 ·omega
 ·exact absurd rfl h
theorem bnd_dlt:Bnd 0 dlt:=fun x y=>by
 unfold dlt
 split<;>simp
theorem lead_dlt:Lead 0 0 dlt:=⟨rfl,fun x y h=>by
 unfold dlt at h
 split at h
 ·rename_i q;rw[q.1,q.2];exact lexLe_refl _ _
 ·exact absurd rfl h⟩
theorem T_ne {p:Par} {c:Cf} {x y:Int} (h:T p c x y≠0):c (x-1) (y-p.e)≠0∨(p.a≠0∧c x (y-1)≠0)∨c x y≠0:=by
 unfold T at h
 refine Classical.byContradiction fun q=>h ?_
 simp only[not_or,not_and,Classical.not_not] at q
 obtain⟨h1,h2,h3⟩:=q
 rw[h1,h3]
 by_cases ha:p.a=0
 ·simp[ha]
 ·simp[h2 ha]
theorem Supp.T {k:Nat} {c:Cf} {p:Par} (h:Supp k c) (o:p.Ok):Supp (k+1) (T p c):=fun x y hn=>by
 have he:=o.e
 rcases T_ne hn with q|q|q
 ·have:=h _ _ q;omega
 ·have:=h _ _ q.2;omega
 ·have:=h _ _ q;omega
theorem Bnd.T {k:Nat} {c:Cf} {p:Par} (h:Bnd k c) (o:p.Ok):Bnd (k+1) (T p c):=fun x y=>by
 have h1:=h (x-1) (y-p.e)
 have h2:=h x (y-1)
 have h3:=h x y
 unfold Mine.T
 have ha:(p.a*c x (y-1)).natAbs≤2*6^k:=by
  rw[Int.natAbs_mul];exact Nat.mul_le_mul (by have:=o.a;omega) h2
 have hb:(p.b*c x y).natAbs≤3*6^k:=by
  rw[Int.natAbs_mul];exact Nat.mul_le_mul (by have:=o.b;omega) h3
 rw[Nat.pow_succ]
 omega
theorem Lead.T {X Y:Int} {c:Cf} {p:Par} (h:Lead X Y c) (o:p.Ok):Lead (X+1) (Y+p.e) (T p c):=by
 have he:=o.e
 have hz:∀x y,¬lexLe x y X Y→c x y=0:=fun x y q=>Classical.byContradiction fun z=>q (h.2 x y z)
 refine⟨?_,fun x y hn=>?_⟩
 ·unfold Mine.T
  rw[show X+1-1=X by omega,show Y+p.e-p.e=Y by omega,h.1,hz (X+1) (Y+p.e-1) (by unfold lexLe;omega),hz (X+1) (Y+p.e) (by unfold lexLe;omega)]
  simp
 ·rcases T_ne hn with q|q|q
  ·have:=h.2 _ _ q;unfold lexLe at *;omega
  ·have:=h.2 _ _ q.2;unfold lexLe at *;omega
  ·have:=h.2 _ _ q;unfold lexLe at *;omega
theorem prod_supp:∀{ps:List Par},(∀p∈ps,p.Ok)→Supp ps.length (prodT ps)
 | [],_=>supp_dlt
 |p::ps,h=>(prod_supp (ps:=ps) fun q hq=>h q (List.mem_cons_of_mem _ hq)).T (h p List.mem_cons_self)
theorem prod_bnd:∀{ps:List Par},(∀p∈ps,p.Ok)→Bnd ps.length (prodT ps)
 | [],_=>bnd_dlt
 |p::ps,h=>(prod_bnd (ps:=ps) fun q hq=>h q (List.mem_cons_of_mem _ hq)).T (h p List.mem_cons_self)
theorem prod_lead:∀{ps:List Par},(∀p∈ps,p.Ok)→∃X Y,Lead X Y (prodT ps)
 | [],_=>⟨0,0,lead_dlt⟩
 |p::ps,h=>by
  obtain⟨X,Y,l⟩:=prod_lead (ps:=ps) fun q hq=>h q (List.mem_cons_of_mem _ hq)
  exact⟨_,_,l.T (h p List.mem_cons_self)⟩
theorem Supp.box {k:Nat} {c:Cf} (h:Supp k c) (hk:k≤8):Box c:=fun x y q=>by have:=h x y q;omega
theorem Bnd.lt {k:Nat} {c:Cf} (h:Bnd k c) (hk:k≤8) (x y:Int):(c x y).natAbs≤1679616:=by
 have:=h x y
 have:6^k≤6^8:=Nat.pow_le_pow_right (by omega) hk
 omega
structure PolV (enc:Int→D) (c:Cf) (es:Es):Prop where
 nd:(es.map (·.1)).Nodup
 get:∀x y,dget es [x,y]=some (enc (c x y))∨(dget es [x,y]=none∧c x y=0)
 inb:∀e∈es,∃x y,e.1=[x,y]∧0≤x∧x<9∧0≤y∧y<9
def addAt (c:Cf) (x y v:Int):Cf:=fun x' y'=>c x' y'+if x'=x∧y'=y then v else 0
theorem PolV.add {enc:Int→D} {c:Cf} {es:Es} (p:PolV enc c es) {x y v:Int} (hb:0≤x∧x<9∧0≤y∧y<9):PolV enc (addAt c x y v) (dput es [x,y] (enc (c x y+v))) where
 nd:=nd_put p.nd _ _
 get:=fun x' y'=>by
  rw[dg_put]
  simp only[List.cons.injEq,and_true,addAt]
  by_cases h:x'=x∧y'=y
  ·rw[if_pos h,if_pos h,h.1,h.2];exact .inl rfl
  ·rw[if_neg h,if_neg h,Int.add_zero];exact p.get x' y'
 inb:=fun e he=>by
  rcases mem_put he with he|he
  ·exact p.inb e he
  ·exact⟨x,y,he,hb⟩
theorem PolV.nil {enc:Int→D}:PolV enc (fun _ _=>0) [] where
 nd:=List.nodup_nil
 get:=fun x y=>.inr ⟨rfl,rfl⟩
 inb:=fun e he=>by cases he
theorem PolV.keys {enc:Int→D} {c:Cf} {es:Es} (p:PolV enc c es):∀k∈es.map (·.1),k∈boxK:=fun k hk=>by
 obtain⟨e,he,rfl⟩:=List.mem_map.mp hk
 obtain⟨x,y,h,hc⟩:=p.inb e he
 rw[h];exact mem_box hc
theorem PolV.len {enc:Int→D} {c:Cf} {es:Es} (p:PolV enc c es):es.length<LIM:=by
 have:=len_le_of _ _ p.nd p.keys
 rw[box_len,List.length_map] at this
 have:LIM=1048576:=rfl
 omega
theorem PolV.getD {enc:Int→D} {c:Cf} {es:Es} (p:PolV enc c es) (x y:Int):(dget es [x,y]).getD (enc 0)=enc (c x y):=by
 rcases p.get x y with h | ⟨h,hz⟩
 ·rw[h];rfl
 ·rw[h,hz];rfl
def kx (k:List Int):Int:=k.headD 0
def ky (k:List Int):Int:=k.tail.headD 0
def row (x y v:Int) (cb:Cf) (fs:Es) (c:Cf):Cf:=fs.foldl (fun c e=>addAt c (x+kx e.1) (y+ky e.1) (v*cb (kx e.1) (ky e.1))) c
def tab (ca cb:Cf) (fs:Es) (es:Es) (c:Cf):Cf:=es.foldl (fun c e=>row (kx e.1) (ky e.1) (ca (kx e.1) (ky e.1)) cb fs c) c
def conv (ca:Cf) (es:Es) (cb:Cf):Cf:=fun x y=>(es.map fun e=>ca (kx e.1) (ky e.1)*cb (x-kx e.1) (y-ky e.1)).sum
theorem row_mem {x y v:Int} {cb:Cf}:∀(fs:Es) (c:Cf),(fs.map (·.1)).Nodup→(∀e∈fs,∃x y,e.1=[x,y])→∀X Y,
  row x y v cb fs c X Y=c X Y+if [X-x,Y-y]∈fs.map (·.1) then v*cb (X-x) (Y-y) else 0
 | [],c,_,_,X,Y=>by simp[row]
 |e::fs,c,nd,two,X,Y=>by
  obtain⟨x',y',h⟩:=two e List.mem_cons_self
  simp only[List.map_cons,List.nodup_cons] at nd
  have ih:=row_mem (x:=x) (y:=y) (v:=v) (cb:=cb) fs (addAt c (x+kx e.1) (y+ky e.1) (v*cb (kx e.1) (ky e.1))) nd.2 (fun e he=>two e (List.mem_cons_of_mem _ he)) X Y
  show row x y v cb fs _ X Y=_
  rw[ih]
  have hk:kx e.1=x'∧ky e.1=y':=by rw[h];exact⟨rfl,rfl⟩
  rw[hk.1,hk.2]
  simp only[List.map_cons,List.mem_cons,h,List.cons.injEq,and_true]
  by_cases hq:X-x=x'∧Y-y=y'
  ·have hn:[X-x,Y-y]∉fs.map (·.1):=by rw[hq.1,hq.2,←h];exact nd.1
   rw[if_neg hn,if_pos (.inl hq),hq.1,hq.2]
   unfold addAt
   rw[if_pos (by omega)];omega
  ·unfold addAt
   rw[if_neg (show ¬(X=x+x'∧Y=y+y') by omega)]
   simp only[hq,false_or,Int.add_zero]
theorem Pol.supp {n d:Int} {c:Cf} {es:Es} (p:Pol n d c es) {x y:Int} (h:[x,y]∉es.map (·.1)):c x y=0:=by
 have hg:=p.get x y
 rw[dg_none_of h] at hg
 split at hg
 ·assumption
 ·cases hg
theorem row_eq {x y v n d:Int} {cb:Cf} {fs:Es} (p:Pol n d cb fs) (c:Cf):row x y v cb fs c=fun X Y=>c X Y+v*cb (X-x) (Y-y):=by
 funext X Y
 rw[row_mem fs c p.nd p.two]
 split
 ·rfl
 ·rename_i h
  rw[p.supp h];simp
theorem tab_eq {n d:Int} {ca cb:Cf} {fs:Es} (p:Pol n d cb fs):∀(es:Es) (c:Cf),tab ca cb fs es c=fun X Y=>c X Y+conv ca es cb X Y
 | [],c=>by funext X Y;simp[tab,conv]
 |e::es,c=>by
  have ih:=tab_eq (ca:=ca) p es (row (kx e.1) (ky e.1) (ca (kx e.1) (ky e.1)) cb fs c)
  show tab ca cb fs es _=_
  rw[ih,row_eq p]
  funext X Y
  simp only[conv,List.map_cons,List.sum_cons]
  omega
theorem conv_T (ca:Cf) (p:Par) (cb:Cf):∀es:Es,conv ca es (T p cb)=T p (conv ca es cb)
 | []=>by funext x y;simp[conv,T]
 |e::es=>by
  funext x y
  have ih:=congrFun (congrFun (conv_T ca p cb es) x) y
  simp only[conv,List.map_cons,List.sum_cons,T] at ih ⊢
  rw[ih,show x-1-kx e.1=x-kx e.1-1 by omega,show y-p.e-ky e.1=y-ky e.1-p.e by omega,show y-1-ky e.1=y-ky e.1-1 by omega]
  grind
theorem conv_dlt_mem (ca:Cf):∀es:Es,(es.map (·.1)).Nodup→(∀e∈es,∃x y,e.1=[x,y])→∀X Y,conv ca es dlt X Y=if [X,Y]∈es.map (·.1) then ca X Y else 0
 | [],_,_,X,Y=>by simp[conv]
 |e::es,nd,two,X,Y=>by
  obtain⟨x',y',h⟩:=two e List.mem_cons_self
  simp only[List.map_cons,List.nodup_cons] at nd
  have ih:=conv_dlt_mem ca es nd.2 (fun e he=>two e (List.mem_cons_of_mem _ he)) X Y
  have hk:kx e.1=x'∧ky e.1=y':=by rw[h];exact⟨rfl,rfl⟩
  simp only[conv,List.map_cons,List.sum_cons] at ih ⊢
  rw[ih,hk.1,hk.2]
  simp only[List.mem_cons,h,List.cons.injEq,and_true]
  by_cases hq:X=x'∧Y=y'
  ·have hn:[X,Y]∉es.map (·.1):=by rw[hq.1,hq.2,←h];exact nd.1
   rw[if_neg hn,if_pos (.inl hq),hq.1,hq.2]
   simp[dlt]
  ·simp only[hq,false_or,dlt]
   rw[if_neg (show ¬(X-x'=0∧Y-y'=0) by omega)]
   simp
theorem conv_dlt {n d:Int} {ca:Cf} {es:Es} (p:Pol n d ca es):conv ca es dlt=ca:=by
 funext X Y
 rw[conv_dlt_mem ca es p.nd p.two]
 split
 ·rfl
 ·rename_i h;rw[p.supp h]
theorem conv_prodT {n d:Int} {ca:Cf} {es:Es} (p:Pol n d ca es):∀ps:List Par,conv ca es (prodT ps)=ps.foldr T ca
 | []=>conv_dlt p
 |q::ps=>by
  show conv ca es (T q (prodT ps))=T q _
  rw[conv_T,conv_prodT p ps]
theorem conv_prod {n d:Int} {qs:List Par} {es:Es} (p:Pol n d (prodT qs) es) (ps:List Par):conv (prodT qs) es (prodT ps)=prodT (ps++qs):=by
 rw[conv_prodT p]
 unfold prodT
 rw[List.foldr_append]
theorem conv_zero (ca:Cf):∀es:Es,conv ca es (fun _ _=>0)=fun _ _=>0
 | []=>rfl
 |e::es=>by
  funext x y
  have ih:=congrFun (congrFun (conv_zero ca es) x) y
  simp only[conv,List.map_cons,List.sum_cons] at ih ⊢
  rw[ih];simp
theorem dg_filter (f:List Int→Bool) (ψ:List Int×D→D) (es:Es) (k:List Int):dget ((es.filter fun e=>f e.1).map fun e=>(e.1,ψ e)) k=if f k then (dget es k).map (fun v=>ψ (k,v)) else none:=by
 induction es with
 |nil=>simp[dg_nil]
 |cons e es ih=>
  obtain⟨k0,v0⟩:=e
  rw[List.filter_cons]
  by_cases h:f k0=true
  ·rw[if_pos h,List.map_cons,dg_cons,ih,dg_cons]
   by_cases h':k0=k
   ·subst h';simp[h]
   ·simp[h']
  ·rw[if_neg h,ih,dg_cons]
   by_cases h':k0=k
   ·subst h';simp[h]
   ·simp[h']
theorem PolV.filter {enc:Int→D} {c:Cf} {es:Es} {n d:Int} (p:PolV enc c es) (ψ:List Int×D→D) (hψ:∀x y,c x y≠0→ψ ([x,y],enc (c x y))=ratD (c x y*n) d) :
  Pol n d c ((es.filter fun e=>decide (c (kx e.1) (ky e.1)≠0)).map fun e=>(e.1,ψ e)) where
 nd:=by
  rw[List.map_map]
  exact List.Nodup.sublist (List.Sublist.map _ List.filter_sublist) p.nd
 get:=fun x y=>by
  rw[dg_filter (fun k=>decide (c (kx k) (ky k)≠0)) ψ]
  show(if decide (c x y≠0)=true then _ else _)=_
  by_cases h:c x y=0
  ·simp[h]
  ·rcases p.get x y with q|q
   ·simp[h,q,hψ]
   ·exact absurd q.2 h
 two:=fun e he=>by
  obtain⟨e',he',rfl⟩:=List.mem_map.mp he
  obtain⟨x,y,hx,_⟩:=p.inb e' (List.mem_filter.mp he').1
  exact⟨x,y,hx⟩
theorem ratD_any (t:Int) {b:Int} (hb:0<b):∃p q,ratD t b=qD p q∧0<q∧q≤b∧p.natAbs≤t.natAbs∧p*b=t*q:=by
 by_cases ht:t=0
 ·subst ht
  exact⟨0,1,ratD_zero hb,by omega,by omega,by omega,by omega⟩
 ·obtain⟨p,q,h1,_,h3,h4,h5,h6⟩:=ratD_ne_zero hb ht
  exact⟨p,q,h1,h3,h4,h5,h6⟩
theorem mul_lt_30 {a b m:Int} (ha:0<a) (hb:0<b) (h1:a≤m) (h2:b≤m) (hm:m<2^15):(a*b).natAbs<2^30:=by
 rw[Int.natAbs_mul]
 have:a.natAbs*b.natAbs≤2^15*b.natAbs:=Nat.mul_le_mul_right _ (by omega)
 have:2^15*b.natAbs<2^15*2^15:=Nat.mul_lt_mul_of_pos_left (by omega) (by omega)
 omega
section
variable {W k:Nat} {σ:St}
theorem rmul_ratD {n d n' d' u v:Int} (hW:2^30≤W) (hd:0<d) (hd':0<d') (hm:d*d'<2^15) (bv:(v*n').natAbs<2^63) :
  evCall FT W (k+3) f_rmul [ratD (u*n) d,ratD (v*n') d'] σ=some (ratD (u*v*(n*n')) (d*d'),σ):=by
 obtain⟨p1,q1,e1,o1,l1,s1,x1⟩:=ratD_any (u*n) hd
 obtain⟨p2,q2,e2,o2,l2,s2,x2⟩:=ratD_any (v*n') hd'
 have hq:0<q1*q2:=Int.mul_pos o1 o2
 have hle:q1*q2≤d*d':=Int.mul_le_mul l1 l2 (by omega) (by omega)
 rw[e1,e2,rmul_call (.inr (by omega)) (.inl ?_) (by omega) (by omega) (by omega)]
 ·congr 2
  refine ratD_eq hq (Int.mul_pos hd hd') ?_
  have:p1*p2*(d*d')=(p1*d)*(p2*d'):=by grind
  rw[this,x1,x2];grind
 ·have:q1*1≤q1*q2:=Int.mul_le_mul_of_nonneg_left (by omega) (by omega)
  omega
abbrev encQ (m q:Int):Int→D:=fun v=>ratD (v*m) q
abbrev prodBody:XS:=.seq (.asg 5 (.tup (.acons (.bin .add (.idx (.var 3) (.lit (.int 0))) (.idx (.var 4) (.lit (.int 0)))) (.acons (.bin .add (.idx (.var 3) (.lit (.int 1))) (.idx (.var 4) (.lit (.int 1)))) (.anil)))))
  (.seq (.asg 6 (.call f_rmul (.acons (.idx (.var 0) (.var 3)) (.acons (.idx (.var 1) (.var 4)) (.anil)))))
  (.seq (.asg 7 (.get2 (.var 2) (.var 5) (.lit (.tup [.int 0,.int 1]))))
  (.set (.var 2) (.var 5) (.call f_rat (.acons (.bin .add (.bin .mul (.idx (.var 7) (.lit (.int 0))) (.idx (.var 6) (.lit (.int 1)))) (.bin .mul (.idx (.var 6) (.lit (.int 0))) (.idx (.var 7) (.lit (.int 1))))) (.acons (.bin .mul (.idx (.var 7) (.lit (.int 1))) (.idx (.var 6) (.lit (.int 1)))) (.anil)))))))
theorem prod_turn {i j wa wb w:Nat} {n d n' d' x y x' y':Int} {ca cb c:Cf} {es fs gs:Es} {o5 o6 o7 o8:Option D} (hW:2^30≤W) (hd:0<d) (hd':0<d') (hm:d*d'<2^15)
  (pa:Pol n d ca es) (hi:σ[i]?=some (.dict es wa)) (pb:Pol n' d' cb fs) (hj:σ[j]?=some (.dict fs wb)) (bv:(cb x' y'*n').natAbs<2^63)
  (h1:ca x y≠0) (h2:cb x' y'≠0) (p:PolV (encQ (n*n') (d*d')) c gs) :
  exS (evCall FT W (k+3)) W prodBody [some (.ref i),some (.ref j),some (.ref σ.length),some (keyD [x,y]),some (keyD [x',y']),o5,o6,o7,o8] (σ++[.dict gs w])
   = some (.next,[some (.ref i),some (.ref j),some (.ref σ.length),some (keyD [x,y]),some (keyD [x',y']),some (keyD [x+x',y+y']),some (encQ (n*n') (d*d') (ca x y*cb x' y')),some (encQ (n*n') (d*d') (c (x+x') (y+y'))),o8],
     σ++[.dict (dput gs [x+x',y+y'] (encQ (n*n') (d*d') (c (x+x') (y+y')+ca x y*cb x' y'))) (w+1)]):=by
 have hD:0<d*d':=Int.mul_pos hd hd'
 have hr:=rmul_ratD (W:=W) (k:=k) (σ:=σ++[.dict gs w]) (u:=ca x y) (v:=cb x' y') (n:=n) (n':=n') hW hd hd' hm bv
 have hg:=p.getD (x+x') (y+y')
 have hl:=p.len
 rw[show encQ (n*n') (d*d') 0 = .tup [.int 0,.int 1] by show ratD (0*(n*n')) (d*d')=_;rw[Int.zero_mul,ratD_zero hD]] at hg
 obtain⟨p1,q1,e1,o1,l1,s1,x1⟩:=ratD_any (c (x+x') (y+y')*(n*n')) hD
 obtain⟨p2,q2,e2,o2,l2,s2,x2⟩:=ratD_any (ca x y*cb x' y'*(n*n')) hD
 have hq:=mul_lt_30 o1 o2 l1 l2 hm
 have hqq:0<q1*q2:=Int.mul_pos o1 o2
 have hrat:=rat_call (W:=W) (n:=k+1) (σ:=σ++[.dict gs w]) (t:=p1*q2+p2*q1) (b:=q1*q2) (by omega) hq (by omega)
 have hsum:=ratD_add hD o1 o2 x1 x2
 rw[hsum] at hrat
 replace hrat:evCall FT W (k+3) f_rat [D.int (p1*q2+p2*q1),D.int (q1*q2)] (σ++[AO.dict gs w])=_:=hrat
 have ia:idxD (σ++[.dict gs w]) (.ref i) (keyD [x,y])=some (ratD (ca x y*n) d):=by simp[idxD,keyD,get_old hi,ints?,pa.get,h1]
 have ib:idxD (σ++[.dict gs w]) (.ref j) (keyD [x',y'])=some (ratD (cb x' y'*n') d'):=by simp[idxD,keyD,get_old hj,ints?,pb.get,h2]
 have m1:MOk p1 q2:=.inr (by omega)
 have m2:MOk p2 q1:=.inr (by omega)
 have m3:MOk q1 q2:=.inr (by omega)
 have hdc:isDct (σ++[.dict gs w]) σ.length=true:=by simp[isDct]
 refine seq_next (l1:=[some (.ref i),some (.ref j),some (.ref σ.length),some (keyD [x,y]),some (keyD [x',y']),some (keyD [x+x',y+y']),o6,o7,o8]) (σ1:=σ++[.dict gs w]) ?_
  (seq_next (l1:=[some (.ref i),some (.ref j),some (.ref σ.length),some (keyD [x,y]),some (keyD [x',y']),some (keyD [x+x',y+y']),some (ratD (ca x y*cb x' y'*(n*n')) (d*d')),o7,o8]) (σ1:=σ++[.dict gs w]) ?_
  (seq_next (l1:=[some (.ref i),some (.ref j),some (.ref σ.length),some (keyD [x,y]),some (keyD [x',y']),some (keyD [x+x',y+y']),some (ratD (ca x y*cb x' y'*(n*n')) (d*d')),some (ratD (c (x+x') (y+y')*(n*n')) (d*d')),o8]) (σ1:=σ++[.dict gs w]) ?_ ?_))
 ·simp[exS,ev,evs,keyD,idxD,binD,LIM]
 ·simp[exS,ev,evs,ia,ib,hr]
 ·simp only[keyD,List.map_cons,List.map_nil] at *
  simp[exS,ev,hdc,ints?,hg]
 ·simp only[encQ,e1,e2]
  clear hg hr ia ib
  simp only[keyD,List.map_cons,List.map_nil]
  have hl':gs.length<1048576:=hl
  simp[exS,ev,evs,idxD,LIM,binD,m1,m2,m3,hrat,setD,ints?,encQ,hl']
end
theorem cmp_ne_tup (xs ys:List D) (σ:St):cmpD .ne (.tup xs) (.tup ys) σ=(cmpD .eq (.tup xs) (.tup ys) σ).map (!·):=rfl
theorem for_next {bind:D→Loc→Option Loc} {body:Loc→St→Option (Fl×Loc×St)} {src:Src} {d:D} {ds:List D} {l l1 l2:Loc} {σ σ2:St} (h1:bind d l=some l1) (h2:body l1 σ=some (.next,l2,σ2)) (hs:srcOk src σ2=true) :
  forGo bind body src (d::ds) l σ=forGo bind body src ds l2 σ2:=for_step h1 h2 (by simp) hs
theorem dcomp_filter {bind:D→Loc→Option Loc} {test:Loc→St→Option (Bool×St)} {key val:Loc→St→Option (D×St)} {src:Src} {l:Loc} {σ:St} (keep:List Int×D→Bool) (ψ:List Int×D→D) (hs:srcOk src σ=true) :
  ∀(suf:Es) (acc:Es),(∀e∈suf,∃l',bind (keyD e.1) l=some l'∧test l' σ=some (keep e,σ)∧(keep e=true→key l' σ=some (keyD e.1,σ)∧val l' σ=some (ψ e,σ)))→((acc.map (·.1))++suf.map (·.1)).Nodup→acc.length+suf.length<LIM→
   dcompGo bind test key val src l (suf.map fun e=>keyD e.1) acc σ=some (acc++(suf.filter keep).map (fun e=>(e.1,ψ e)),σ)
 | [],acc,_,_,_=>by simp[dcompGo]
 |e::suf,acc,h,nd,hl=>by
  obtain⟨l',h1,ht,hkv⟩:=h e List.mem_cons_self
  have hnot:e.1∉acc.map (·.1):=by
   intro hm
   rw[List.nodup_append] at nd
   exact nd.2.2 _ hm _ List.mem_cons_self rfl
  simp only[List.length_cons] at hl
  cases hk:keep e with
  |true=>
   obtain⟨h3,h4⟩:=hkv hk
   rw[hk] at ht
   rw[List.map_cons,dcomp_step h1 ht h3 h4 hs (by omega),put_new hnot,dcomp_filter keep ψ hs suf (acc++[(e.1,ψ e)]) (fun e' he=>h e' (List.mem_cons_of_mem _ he)) ?_ (by simp only[List.length_append,List.length_cons,List.length_nil];omega)]
   ·rw[List.filter_cons,if_pos hk];simp
   ·simpa using nd
  |false=>
   rw[hk] at ht
   rw[List.map_cons,show dcompGo bind test key val src l (keyD e.1::suf.map fun e=>keyD e.1) acc σ=dcompGo bind test key val src l (suf.map fun e=>keyD e.1) acc σ by simp[dcompGo,h1,ht,hs]]
   rw[dcomp_filter keep ψ hs suf acc (fun e' he=>h e' (List.mem_cons_of_mem _ he)) ?_ (by omega),List.filter_cons,hk]
   ·simp
   ·rw[List.nodup_append] at nd ⊢
    exact⟨nd.1,(List.nodup_cons.mp nd.2.1).2,fun a ha b hb=>nd.2.2 a ha b (List.mem_cons_of_mem _ hb)⟩
section
variable {W k:Nat} {σ:St}
theorem prod_inner {i j wa wb:Nat} {n d n' d' x y:Int} {ca cb:Cf} {es fs:Es} {o8:Option D} {ka kb:Nat} (hW:2^30≤W) (hd:0<d) (hd':0<d') (hm:d*d'<2^15)
  (pa:Pol n d ca es) (hi:σ[i]?=some (.dict es wa)) (pb:Pol n' d' cb fs) (hj:σ[j]?=some (.dict fs wb)) (bv:∀x' y',(cb x' y'*n').natAbs<2^63)
  (h1:ca x y≠0) (sa:Supp ka ca) (sb:Supp kb cb) (hk:ka+kb≤8) :
  ∀(suf:Es) (c:Cf) (gs:Es) (w:Nat) (o4 o5 o6 o7:Option D),(∀e∈suf,e∈fs)→PolV (encQ (n*n') (d*d')) c gs→
   ∃gs' w' q4 q5 q6 q7,forGo (bindT [4] false) (exS (evCall FT W (k+3)) W prodBody) (some (j,wb)) (suf.map fun e=>keyD e.1)
     [some (.ref i),some (.ref j),some (.ref σ.length),some (keyD [x,y]),o4,o5,o6,o7,o8] (σ++[.dict gs w])
    = some (.next,[some (.ref i),some (.ref j),some (.ref σ.length),some (keyD [x,y]),q4,q5,q6,q7,o8],σ++[.dict gs' w'])∧PolV (encQ (n*n') (d*d')) (row x y (ca x y) cb suf c) gs'
 | [],c,gs,w,o4,o5,o6,o7,_,p=>⟨gs,w,o4,o5,o6,o7,rfl,p⟩
 |e::suf,c,gs,w,o4,o5,o6,o7,hf,p=>by
  obtain⟨x',y',rfl,hc⟩:=pb.entry (hf e List.mem_cons_self)
  have ht:=prod_turn (k:=k) (w:=w) (o5:=o5) (o6:=o6) (o7:=o7) (o8:=o8) hW hd hd' hm pa hi pb hj (bv x' y') h1 hc p
  have b1:=sa x y h1
  have b2:=sb x' y' hc
  have p':=p.add (x:=x+x') (y:=y+y') (v:=ca x y*cb x' y') (by omega)
  obtain⟨gs',w',q4,q5,q6,q7,hl,pl⟩:=prod_inner hW hd hd' hm pa hi pb hj bv h1 sa sb hk suf _ _ (w+1) _ _ _ _ (fun e he=>hf e (List.mem_cons_of_mem _ he)) p'
  refine⟨gs',w',q4,q5,q6,q7,?_,pl⟩
  rw[List.map_cons,for_step (l1:=[some (.ref i),some (.ref j),some (.ref σ.length),some (keyD [x,y]),some (keyD [x',y']),o5,o6,o7,o8]) (by simp[bindT]) ht (by simp) (by simp[srcOk,get_old hj,AO.ver])]
  exact hl
theorem prod_outer {i j wa wb:Nat} {n d n' d':Int} {ca cb:Cf} {es fs:Es} {o8:Option D} {ka kb:Nat} (hW:2^30≤W) (hd:0<d) (hd':0<d') (hm:d*d'<2^15)
  (pa:Pol n d ca es) (hi:σ[i]?=some (.dict es wa)) (pb:Pol n' d' cb fs) (hj:σ[j]?=some (.dict fs wb)) (bv:∀x' y',(cb x' y'*n').natAbs<2^63)
  (sa:Supp ka ca) (sb:Supp kb cb) (hk:ka+kb≤8) :
  ∀(suf:Es) (c:Cf) (gs:Es) (w:Nat) (o3 o4 o5 o6 o7:Option D),(∀e∈suf,e∈es)→PolV (encQ (n*n') (d*d')) c gs→
   ∃gs' w' q3 q4 q5 q6 q7,forGo (bindT [3] false) (exS (evCall FT W (k+3)) W (.for_ [4] false (.ix (.var 1)) prodBody)) (some (i,wa)) (suf.map fun e=>keyD e.1)
     [some (.ref i),some (.ref j),some (.ref σ.length),o3,o4,o5,o6,o7,o8] (σ++[.dict gs w])
    = some (.next,[some (.ref i),some (.ref j),some (.ref σ.length),q3,q4,q5,q6,q7,o8],σ++[.dict gs' w'])∧PolV (encQ (n*n') (d*d')) (tab ca cb fs suf c) gs'
 | [],c,gs,w,o3,o4,o5,o6,o7,_,p=>⟨gs,w,o3,o4,o5,o6,o7,rfl,p⟩
 |e::suf,c,gs,w,o3,o4,o5,o6,o7,hf,p=>by
  obtain⟨x,y,rfl,hc⟩:=pa.entry (hf e List.mem_cons_self)
  obtain⟨gs1,w1,q4,q5,q6,q7,hl1,p1⟩:=prod_inner (k:=k) (o8:=o8) hW hd hd' hm pa hi pb hj bv hc sa sb hk fs c gs w o4 o5 o6 o7 (fun e he=>he) p
  obtain⟨gs',w',q3',q4',q5',q6',q7',hl,pl⟩:=prod_outer hW hd hd' hm pa hi pb hj bv sa sb hk suf _ _ w1 (some (keyD [x,y])) q4 q5 q6 q7 (fun e he=>hf e (List.mem_cons_of_mem _ he)) p1
  refine⟨gs',w',q3',q4',q5',q6',q7',?_,pl⟩
  rw[List.map_cons]
  refine(for_next (l1:=[some (.ref i),some (.ref j),some (.ref σ.length),some (keyD [x,y]),o4,o5,o6,o7,o8]) (l2:=[some (.ref i),some (.ref j),some (.ref σ.length),some (keyD [x,y]),q4,q5,q6,q7,o8]) (σ2:=σ++[.dict gs1 w1]) (by simp[bindT]) ?_ ?_).trans hl
  ·rw[for_ev (ds:=fs.map fun e=>keyD e.1) (src:=some (j,wb)) (σ1:=σ++[.dict gs w]) (by simp[evI,ev,iterOf,get_old hj])]
   exact hl1
  ·simp[srcOk,get_old hi,AO.ver]
theorem product_call {i j:Nat} {n d n' d':Int} {ca cb:Cf} {es fs:Es} {wa wb:Nat} {ka kb:Nat} (hW:2^30≤W) (hn:n≠0) (hn':n'≠0) (hd:0<d) (hd':0<d') (hm:d*d'<2^15)
  (pa:Pol n d ca es) (hi:σ[i]?=some (.dict es wa)) (pb:Pol n' d' cb fs) (hj:σ[j]?=some (.dict fs wb)) (bv:∀x' y',(cb x' y'*n').natAbs<2^63)
  (sa:Supp ka ca) (sb:Supp kb cb) (hk:ka+kb≤8) :
  ∃r σ',evCall FT W (k+4) f_product_of_forms [.ref i,.ref j] σ=some (.ref r,σ')∧Ext σ σ'∧σ.length≤r∧IsPol (n*n') (d*d') (conv ca es cb) r σ':=by
 have hD:0<d*d':=Int.mul_pos hd hd'
 have hN:n*n'≠0:=Int.mul_ne_zero hn hn'
 obtain⟨gs,w,q3,q4,q5,q6,q7,hl,p⟩:=prod_outer (k:=k) (o8:=none) hW hd hd' hm pa hi pb hj bv sa sb hk es _ [] 0 none none none none none (fun e he=>he) PolV.nil
 rw[tab_eq pb] at p
 simp only[Int.zero_add] at p
 have hsrc:(σ++[AO.dict gs w])[σ.length]?=some (.dict gs w):=get_new _ _
 have pf:=p.filter (n:=n*n') (d:=d*d') (fun e=>e.2) (fun x y _=>rfl)
 refine⟨σ.length+1,σ++[.dict gs w]++[.dict _ 0],?_,(Ext.app _ _).app_r _,by omega,⟨_,0,by rw[show σ.length+1=(σ++[AO.dict gs w]).length by simp];exact get_new _ _,pf⟩⟩
 refine call_ret (fn:=⟨2,9,b_product_of_forms⟩) rfl rfl (l:=[some (.ref i),some (.ref j),some (.ref σ.length),q3,q4,q5,q6,q7,none])
  (seq_next (l1:=[some (.ref i),some (.ref j),some (.ref σ.length),none,none,none,none,none,none]) (σ1:=σ++[.dict [] 0]) ?_ (seq_next (l1:=[some (.ref i),some (.ref j),some (.ref σ.length),q3,q4,q5,q6,q7,none]) (σ1:=σ++[.dict gs w]) ?_ ?_))
 ·simp[exS,ev,evs,dispE]
 ·rw[for_ev (ds:=es.map fun e=>keyD e.1) (src:=some (i,wa)) (σ1:=σ++[.dict [] 0]) (by simp[evI,ev,iterOf,get_old hi])]
  exact hl
 ·have:=dcomp_filter (bind:=bindT [8] false) (test:=evT (evCall FT W (k+3)) (.cmp .ne (.idx (.var 2) (.var 8)) (.lit (.tup [.int 0,.int 1])))) (key:=ev (evCall FT W (k+3)) (.var 8)) (val:=ev (evCall FT W (k+3)) (.idx (.var 2) (.var 8)))
   (src:=some (σ.length,w)) (l:=[some (.ref i),some (.ref j),some (.ref σ.length),q3,q4,q5,q6,q7,none]) (σ:=σ++[.dict gs w]) (fun e=>decide (conv ca es cb (kx e.1) (ky e.1)≠0)) (fun e=>e.2) (by simp[srcOk,AO.ver]) gs [] (fun e he=>?_) (by simpa using p.nd) (by simpa using p.len)
  ·simp only[List.nil_append] at this
   have hit:evI (evCall FT W (k+3)) (.ix (.var 2)) [some (.ref i),some (.ref j),some (.ref σ.length),q3,q4,q5,q6,q7,none] (σ++[.dict gs w])=some (gs.map fun e=>keyD e.1,some (σ.length,w),σ++[.dict gs w]):=by
    simp[evI,ev,iterOf]
   have hev:ev (evCall FT W (k+3)) (.dcomp (.var 8) (.idx (.var 2) (.var 8)) [8] false (.ix (.var 2)) (some (.cmp .ne (.idx (.var 2) (.var 8)) (.lit (.tup [.int 0,.int 1]))))) [some (.ref i),some (.ref j),some (.ref σ.length),q3,q4,q5,q6,q7,none] (σ++[.dict gs w])
     = some (.ref (σ.length+1),σ++[.dict gs w]++[.dict ((gs.filter fun e=>decide (conv ca es cb (kx e.1) (ky e.1)≠0)).map fun e=>(e.1,e.2)) 0]):=by
    rw[ev,hit]
    show(match dcompGo (bindT [8] false) (evT (evCall FT W (k+3)) (.cmp .ne (.idx (.var 2) (.var 8)) (.lit (.tup [.int 0,.int 1])))) (ev (evCall FT W (k+3)) (.var 8)) (ev (evCall FT W (k+3)) (.idx (.var 2) (.var 8))) (some (σ.length,w)) [some (.ref i),some (.ref j),some (.ref σ.length),q3,q4,q5,q6,q7,none] (gs.map fun e=>keyD e.1) [] (σ++[.dict gs w]) with
     |some (es,σ2)=>some (D.ref σ2.length,σ2++[AO.dict es 0])|none=>none)=_
    rw[this]
    simp
   simp only[exS,hev]
  ·obtain⟨x,y,h,hb⟩:=p.inb e he
   obtain⟨k0,v⟩:=e
   simp only at h
   subst h
   have hg:=dg_of_mem p.nd he
   have hidx:idxD (σ++[AO.dict gs w]) (.ref σ.length) (keyD [x,y])=some v:=by
    simp only[idxD,keyD,hsrc,List.map_cons,List.map_nil,ints?,Option.map]
    exact hg
   refine⟨[some (.ref i),some (.ref j),some (.ref σ.length),q3,q4,q5,q6,q7,some (keyD [x,y])],by simp[bindT],?_,fun _=>⟨by simp[ev],?_⟩⟩
   ·have hv:v=encQ (n*n') (d*d') (conv ca es cb x y):=by
     rcases p.get x y with q|q
     ·rw[q] at hg;simpa using hg.symm
     ·rw[q.1] at hg;cases hg
    have h0:=ratD_is0 (σ:=σ++[.dict gs w]) (v:=conv ca es cb x y) hD hN
    have hne:cmpD .ne v (.tup [.int 0,.int 1]) (σ++[.dict gs w])=some (decide (conv ca es cb x y≠0)):=by
     rw[hv]
     refine(cmp_ne_tup _ _ _).trans ?_
     refine(congrArg (Option.map (!·)) h0).trans ?_
     simp
    simp only[evT,ev,List.getElem?_cons_succ,List.getElem?_cons_zero,hidx,hne,truthD,Option.map]
    rfl
   ·simp only[ev,List.getElem?_cons_succ,List.getElem?_cons_zero,hidx]
end
abbrev encI:Int→D:=fun v=>.int v
def KeyB (j:Nat) (es:Es):Prop:=∀e∈es,∃x y,e.1=[x,y]∧0≤x∧x≤j∧0≤y∧y≤j
theorem KeyB.put {j:Nat} {es:Es} (h:KeyB j es) {x y:Int} {v:D} (hb:0≤x∧x≤j∧0≤y∧y≤j):KeyB j (dput es [x,y] v):=fun e he=>by
 rcases mem_put he with he|he
 ·exact h e he
 ·exact⟨x,y,he,hb⟩
theorem PolV.supp {enc:Int→D} {c:Cf} {es:Es} (p:PolV enc c es) {x y:Int} (h:[x,y]∉es.map (·.1)):c x y=0:=by
 rcases p.get x y with q|q
 ·exact absurd (List.mem_map_of_mem (dg_mem q)) h
 ·exact q.2
theorem PolV.two {enc:Int→D} {c:Cf} {es:Es} (p:PolV enc c es):∀e∈es,∃x y,e.1=[x,y]:=fun e he=>by
 obtain⟨x,y,h,_⟩:=p.inb e he
 exact⟨x,y,h⟩
theorem PolV.val {enc:Int→D} {c:Cf} {es:Es} (p:PolV enc c es) {x y:Int} {v:D} (he:([x,y],v)∈es):v=enc (c x y):=by
 have hg:=dg_of_mem p.nd he
 rcases p.get x y with q|q
 ·rw[q] at hg;simpa using hg.symm
 ·rw[q.1] at hg;cases hg
theorem conv_dltV {enc:Int→D} {ca:Cf} {es:Es} (p:PolV enc ca es):conv ca es dlt=ca:=by
 funext X Y
 rw[conv_dlt_mem ca es p.nd p.two]
 split
 ·rfl
 ·rename_i h;rw[p.supp h]
section
variable {W k:Nat} {σ:St}
abbrev lpBody:XS:=.seq (.asg 6 (.tup (.acons (.bin .add (.idx (.var 4) (.lit (.int 0))) (.idx (.var 5) (.lit (.int 0)))) (.acons (.bin .add (.idx (.var 4) (.lit (.int 1))) (.idx (.var 5) (.lit (.int 1)))) (.anil)))))
  (.set (.var 3) (.var 6) (.bin .add (.get2 (.var 3) (.var 6) (.lit (.int 0))) (.bin .mul (.idx (.var 1) (.var 4)) (.idx (.idx (.var 2) (.var 5)) (.lit (.int 0))))))
theorem lp_turn {i j wa wb w:Nat} {x y x' y':Int} {ca cb c:Cf} {es fs gs:Es} {o0 o6 o7:Option D}
  (pa:PolV encI ca es) (hi:σ[i]?=some (.dict es wa)) (pb:PolI cb fs) (hj:σ[j]?=some (.dict fs wb)) (bv:(cb x' y').natAbs<2^63)
  (h1:[x,y]∈es.map (·.1)) (h2:cb x' y'≠0) (p:PolV encI c gs) :
  exS (evCall FT W k) W lpBody [o0,some (.ref i),some (.ref j),some (.ref σ.length),some (keyD [x,y]),some (keyD [x',y']),o6,o7] (σ++[.dict gs w])
   = some (.next,[o0,some (.ref i),some (.ref j),some (.ref σ.length),some (keyD [x,y]),some (keyD [x',y']),some (keyD [x+x',y+y']),o7],
     σ++[.dict (dput gs [x+x',y+y'] (.int (c (x+x') (y+y')+ca x y*cb x' y'))) (w+1)]):=by
 have hg:=p.getD (x+x') (y+y')
 have hl:gs.length<1048576:=p.len
 have ia:idxD (σ++[.dict gs w]) (.ref i) (keyD [x,y])=some (.int (ca x y)):=by
  obtain⟨e,he,hk⟩:=List.mem_map.mp h1
  obtain⟨k0,v⟩:=e
  simp only at hk
  subst hk
  have:=dg_of_mem pa.nd he
  rw[pa.val he] at this
  simp only[idxD,keyD,get_old hi,List.map_cons,List.map_nil,ints?,Option.map]
  exact this
 have ib:idxD (σ++[.dict gs w]) (.ref j) (keyD [x',y'])=some (qD (cb x' y') 1):=by simp[idxD,keyD,get_old hj,ints?,PolI.val pb,h2]
 have m1:MOk (ca x y) (cb x' y'):=.inr bv
 have hdc:isDct (σ++[.dict gs w]) σ.length=true:=by simp[isDct]
 refine seq_next (l1:=[o0,some (.ref i),some (.ref j),some (.ref σ.length),some (keyD [x,y]),some (keyD [x',y']),some (keyD [x+x',y+y']),o7]) (σ1:=σ++[.dict gs w]) ?_ ?_
 ·simp[exS,ev,evs,keyD,idxD,binD,LIM]
 ·have i0:idxD (σ++[.dict gs w]) (qD (cb x' y') 1) (.int 0)=some (.int (cb x' y')):=by simp[idxD,LIM]
  simp only[keyD,List.map_cons,List.map_nil] at *
  simp[exS,ev,evs,ia,ib,i0,hdc,ints?,hg,binD,m1,setD,LIM,hl]
theorem lp_inner {i j wa wb:Nat} {x y:Int} {ca cb:Cf} {es fs:Es} {o0 o7:Option D} {ka:Nat}
  (pa:PolV encI ca es) (hi:σ[i]?=some (.dict es wa)) (pb:PolI cb fs) (hj:σ[j]?=some (.dict fs wb)) (bv:∀x' y',(cb x' y').natAbs<2^63)
  (h1:[x,y]∈es.map (·.1)) (sa:0≤x∧x≤ka∧0≤y∧y≤ka) (sb:Supp 1 cb) (hk:ka+1≤8) :
  ∀(suf:Es) (c:Cf) (gs:Es) (w:Nat) (o5 o6:Option D),(∀e∈suf,e∈fs)→PolV encI c gs→KeyB (ka+1) gs→
   ∃gs' w' q5 q6,forGo (bindT [5] false) (exS (evCall FT W k) W lpBody) (some (j,wb)) (suf.map fun e=>keyD e.1)
     [o0,some (.ref i),some (.ref j),some (.ref σ.length),some (keyD [x,y]),o5,o6,o7] (σ++[.dict gs w])
    = some (.next,[o0,some (.ref i),some (.ref j),some (.ref σ.length),some (keyD [x,y]),q5,q6,o7],σ++[.dict gs' w'])∧PolV encI (row x y (ca x y) cb suf c) gs'∧KeyB (ka+1) gs'
 | [],c,gs,w,o5,o6,_,p,kb=>⟨gs,w,o5,o6,rfl,p,kb⟩
 |e::suf,c,gs,w,o5,o6,hf,p,kb=>by
  obtain⟨x',y',rfl,hc⟩:=pb.entry (hf e List.mem_cons_self)
  have ht:=lp_turn (W:=W) (k:=k) (w:=w) (o0:=o0) (o6:=o6) (o7:=o7) pa hi pb hj (bv x' y') h1 hc p
  have b2:=sb x' y' hc
  have p':=p.add (x:=x+x') (y:=y+y') (v:=ca x y*cb x' y') (by omega)
  have kb':=kb.put (x:=x+x') (y:=y+y') (v:=encI (c (x+x') (y+y')+ca x y*cb x' y')) (by omega)
  obtain⟨gs',w',q5,q6,hl,pl,kl⟩:=lp_inner pa hi pb hj bv h1 sa sb hk suf _ _ (w+1) _ _ (fun e he=>hf e (List.mem_cons_of_mem _ he)) p' kb'
  refine⟨gs',w',q5,q6,?_,pl,kl⟩
  rw[List.map_cons]
  exact(for_next (by simp[bindT]) ht (by simp[srcOk,get_old hj,AO.ver])).trans hl
theorem lp_outer {i j wa wb:Nat} {ca cb:Cf} {es fs:Es} {o0 o7:Option D} {ka:Nat}
  (pa:PolV encI ca es) (hi:σ[i]?=some (.dict es wa)) (pb:PolI cb fs) (hj:σ[j]?=some (.dict fs wb)) (bv:∀x' y',(cb x' y').natAbs<2^63)
  (sa:KeyB ka es) (sb:Supp 1 cb) (hk:ka+1≤8) :
  ∀(suf:Es) (c:Cf) (gs:Es) (w:Nat) (o4 o5 o6:Option D),(∀e∈suf,e∈es)→PolV encI c gs→KeyB (ka+1) gs→
   ∃gs' w' q4 q5 q6,forGo (bindT [4] false) (exS (evCall FT W k) W (.for_ [5] false (.ix (.var 2)) lpBody)) (some (i,wa)) (suf.map fun e=>keyD e.1)
     [o0,some (.ref i),some (.ref j),some (.ref σ.length),o4,o5,o6,o7] (σ++[.dict gs w])
    = some (.next,[o0,some (.ref i),some (.ref j),some (.ref σ.length),q4,q5,q6,o7],σ++[.dict gs' w'])∧PolV encI (tab ca cb fs suf c) gs'∧KeyB (ka+1) gs'
 | [],c,gs,w,o4,o5,o6,_,p,kb=>⟨gs,w,o4,o5,o6,rfl,p,kb⟩
 |e::suf,c,gs,w,o4,o5,o6,hf,p,kb=>by
  have he:=hf e List.mem_cons_self
  obtain⟨x,y,h,hb⟩:=sa e he
  obtain⟨k0,v⟩:=e
  simp only at h
  subst h
  obtain⟨gs1,w1,q5,q6,hl1,p1,k1⟩:=lp_inner (W:=W) (k:=k) (o0:=o0) (o7:=o7) pa hi pb hj bv (List.mem_map_of_mem he) hb sb hk fs c gs w o5 o6 (fun e he=>he) p kb
  obtain⟨gs',w',q4',q5',q6',hl,pl,kl⟩:=lp_outer pa hi pb hj bv sa sb hk suf _ _ w1 (some (keyD [x,y])) q5 q6 (fun e he=>hf e (List.mem_cons_of_mem _ he)) p1 k1
  refine⟨gs',w',q4',q5',q6',?_,pl,kl⟩
  rw[List.map_cons]
  refine(for_next (l1:=[o0,some (.ref i),some (.ref j),some (.ref σ.length),some (keyD [x,y]),o5,o6,o7]) (l2:=[o0,some (.ref i),some (.ref j),some (.ref σ.length),some (keyD [x,y]),q5,q6,o7]) (σ2:=σ++[.dict gs1 w1]) (by simp[bindT]) ?_ ?_).trans hl
  ·rw[for_ev (ds:=fs.map fun e=>keyD e.1) (src:=some (j,wb)) (σ1:=σ++[.dict gs w]) (by simp[evI,ev,iterOf,get_old hj])]
   exact hl1
  ·simp[srcOk,get_old hi,AO.ver]
abbrev lpForm:XS:=.seq (.asg 3 (.dict (.anil))) (.seq (.for_ [4] false (.ix (.var 1)) (.for_ [5] false (.ix (.var 2)) lpBody)) (.asg 1 (.var 3)))
def Forms (L:List (Nat×Par)) (σ:St):Prop:=∀q∈L,IsPol 1 1 (T q.2 dlt) q.1 σ∧q.2.Ok
theorem Forms.ext {L:List (Nat×Par)} {a b:St} (h:Forms L a) (e:Ext a b):Forms L b:=fun q hq=>⟨(h q hq).1.ext e,(h q hq).2⟩
theorem lp_form {i wa:Nat} {q:Nat×Par} {ca:Cf} {es:Es} {o0 o3 o4 o5 o6 o7:Option D} {ka:Nat} (pa:PolV encI ca es) (hi:σ[i]?=some (.dict es wa)) (hq:IsPol 1 1 (T q.2 dlt) q.1 σ) (ok:q.2.Ok) (sa:KeyB ka es) (hk:ka+1≤8) :
  ∃gs w q4 q5 q6,exS (evCall FT W k) W lpForm [o0,some (.ref i),some (.ref q.1),o3,o4,o5,o6,o7] σ=some (.next,[o0,some (.ref σ.length),some (.ref q.1),some (.ref σ.length),q4,q5,q6,o7],σ++[.dict gs w])
   ∧ PolV encI (T q.2 ca) gs∧KeyB (ka+1) gs:=by
 obtain⟨fs,wb,hj,pb⟩:=hq
 have sb:Supp 1 (T q.2 dlt):=supp_dlt.T ok
 have bb:Bnd 1 (T q.2 dlt):=bnd_dlt.T ok
 obtain⟨gs,w,q4,q5,q6,hl,p,kb⟩:=lp_outer (W:=W) (k:=k) (o0:=o0) (o7:=o7) pa hi pb hj (fun x' y'=>by have:=bb.lt (by omega) x' y';omega) sa sb hk es _ [] 0 o4 o5 o6 (fun e he=>he) PolV.nil (fun e he=>by cases he)
 rw[tab_eq pb] at p
 simp only[Int.zero_add] at p
 rw[show(fun X Y=>conv ca es (T q.2 dlt) X Y)=T q.2 ca by show conv ca es (T q.2 dlt)=_;rw[conv_T,conv_dltV pa]] at p
 refine⟨gs,w,q4,q5,q6,?_,p,kb⟩
 refine seq_next (l1:=[o0,some (.ref i),some (.ref q.1),some (.ref σ.length),o4,o5,o6,o7]) (σ1:=σ++[.dict [] 0]) ?_ (seq_next (l1:=[o0,some (.ref i),some (.ref q.1),some (.ref σ.length),q4,q5,q6,o7]) (σ1:=σ++[.dict gs w]) ?_ ?_)
 ·simp[exS,ev,evs,dispE]
 ·rw[for_ev (ds:=es.map fun e=>keyD e.1) (src:=some (i,wa)) (σ1:=σ++[.dict [] 0]) (by simp[evI,ev,iterOf,get_old hi])]
  exact hl
 ·simp[exS,ev]
theorem lp_forms {j0 w0:Nat} {ds:List D} {o0 o7:Option D}:∀(L:List (Nat×Par)) (σ:St) (i wa:Nat) (ca:Cf) (es:Es) (ka:Nat) (o2 o3 o4 o5 o6:Option D),σ[j0]?=some (.list ds w0)→Forms L σ→PolV encI ca es→σ[i]?=some (.dict es wa)→KeyB ka es→ka+L.length≤8→
  ∃τ i' wa' es' q2 q3 q4 q5 q6,forGo (bindT [2] false) (exS (evCall FT W k) W lpForm) (some (j0,w0)) (L.map fun q=>.ref q.1) [o0,some (.ref i),o2,o3,o4,o5,o6,o7] σ
   = some (.next,[o0,some (.ref i'),q2,q3,q4,q5,q6,o7],σ++τ)∧PolV encI ((L.map (·.2)).foldl (fun c p=>T p c) ca) es'∧(σ++τ)[i']?=some (.dict es' wa')
 | [],σ,i,wa,ca,es,ka,o2,o3,o4,o5,o6,_,_,p,hi,_,_=>⟨[],i,wa,es,o2,o3,o4,o5,o6,by simp[forGo],p,by simpa using hi⟩
 |q::L,σ,i,wa,ca,es,ka,o2,o3,o4,o5,o6,h0,hF,p,hi,kb,hk=>by
  simp only[List.length_cons] at hk
  obtain⟨hq,ok⟩:=hF q List.mem_cons_self
  obtain⟨gs,w,q4,q5,q6,h1,p1,k1⟩:=lp_form (W:=W) (k:=k) (o0:=o0) (o3:=o3) (o4:=o4) (o5:=o5) (o6:=o6) (o7:=o7) p hi hq ok kb (by omega)
  obtain⟨τ,i',wa',es',r2,r3,r4,r5,r6,hl,pl,hi'⟩:=lp_forms L (σ++[.dict gs w]) σ.length w _ gs (ka+1) (some (.ref q.1)) (some (.ref σ.length)) q4 q5 q6 (get_old h0) (fun q' hq'=>(Forms.ext (L:=q::L) hF (Ext.app _ _)) q' (List.mem_cons_of_mem _ hq')) p1 (get_new _ _) k1 (by omega)
  refine⟨[.dict gs w]++τ,i',wa',es',r2,r3,r4,r5,r6,?_,pl,by rw[←List.append_assoc];exact hi'⟩
  rw[List.map_cons]
  refine(for_next (l1:=[o0,some (.ref i),some (.ref q.1),o3,o4,o5,o6,o7]) (by simp[bindT]) h1 (by simp[srcOk,get_old h0,AO.ver])).trans ?_
  rw[←List.append_assoc];exact hl
theorem foldl_T (ps:List Par) (c:Cf):ps.foldl (fun c p=>T p c) c=ps.reverse.foldr T c:=by
 rw[List.foldr_reverse]
theorem foldl_prodT (ps:List Par):ps.foldl (fun c p=>T p c) dlt=prodT ps:=by
 rw[foldl_T];exact prodT_perm (List.reverse_perm ps)
end
theorem ints_map:∀k:List Int,ints? (k.map D.int)=some k
 | []=>rfl
 |i::k=>by simp[ints?,ints_map k]
theorem comp_filter {α:Type} {bind:D→Loc→Option Loc} {test:Loc→St→Option (Bool×St)} {elt:Loc→St→Option (D×St)} {src:Src} {l:Loc} {σ:St} (g:α→D) (keep:α→Bool) (ψ:α→D) (hs:srcOk src σ=true) :
  ∀(suf:List α),(∀e∈suf,∃l',bind (g e) l=some l'∧test l' σ=some (keep e,σ)∧(keep e=true→elt l' σ=some (ψ e,σ)))→
   compGo bind test elt src l (suf.map g) σ=some ((suf.filter keep).map ψ,σ)
 | [],_=>by simp[compGo]
 |e::suf,h=>by
  obtain⟨l',h1,ht,hkv⟩:=h e List.mem_cons_self
  have ih:=comp_filter g keep ψ hs suf fun e' he=>h e' (List.mem_cons_of_mem _ he)
  cases hk:keep e with
  |true=>
   have h3:=hkv hk
   rw[hk] at ht
   simp[compGo,h1,ht,h3,hs,ih,hk]
  |false=>
   rw[hk] at ht
   simp[compGo,h1,ht,hs,ih,hk]
theorem comp_map {α:Type} {bind:D→Loc→Option Loc} {elt:Loc→St→Option (D×St)} {src:Src} {l:Loc} {σ:St} (g:α→D) (ψ:α→D) (hs:srcOk src σ=true) (suf:List α) (h:∀e∈suf,∃l',bind (g e) l=some l'∧elt l' σ=some (ψ e,σ)) :
  compGo bind (fun _ σ=>some (true,σ)) elt src l (suf.map g) σ=some (suf.map ψ,σ):=by
 have:=comp_filter (bind:=bind) (test:=fun _ σ=>some (true,σ)) (elt:=elt) (l:=l) g (fun _=>true) ψ hs suf fun e he=>by
  obtain⟨l',h1,h2⟩:=h e he
  exact⟨l',h1,rfl,fun _=>h2⟩
 rw[this,List.filter_eq_self.mpr (fun _ _=>rfl)]
theorem pairs_map:∀(L acc:Es),((acc.map (·.1))++L.map (·.1)).Nodup→acc.length+L.length<LIM→pairsD acc (L.map fun e=>.tup [keyD e.1,e.2])=some (acc++L)
 | [],acc,_,_=>by simp[pairsD]
 |e::L,acc,nd,hl=>by
  have hnot:e.1∉acc.map (·.1):=by
   intro hm
   rw[List.nodup_append] at nd
   exact nd.2.2 _ hm _ List.mem_cons_self rfl
  simp only[List.length_cons] at hl
  have ih:=pairs_map L (acc++[(e.1,e.2)]) (by simpa using nd) (by simp only[List.length_append,List.length_cons,List.length_nil];omega)
  have hl':acc.length<LIM:=by omega
  simp only[List.map_cons,keyD,pairsD,ints_map,hl',if_true,put_new hnot]
  simp only[keyD] at ih
  rw[ih];simp
section
variable {W k:Nat} {σ:St}
theorem dlt_init:PolV encI dlt [([0,0],.int 1)] where
 nd:=by simp
 get:=fun x y=>by
  rw[dg_cons,dg_nil]
  by_cases h:x=0∧y=0
  ·simp[h,dlt]
  ·have:¬(0=x∧0=y):=by omega
   simp[h,dlt,this]
 inb:=fun e he=>by simp at he;subst he;exact⟨0,0,rfl,by omega⟩
theorem law_product_call {L:List (Nat×Par)} {j0 w0:Nat} (h0:σ[j0]?=some (.list (L.map fun q=>.ref q.1) w0)) (hF:Forms L σ) (hL:L.length≤8) :
  ∃r σ',evCall FT W (k+1) f_law_product [.ref j0] σ=some (.ref r,σ')∧Ext σ σ'∧σ.length≤r∧IsPol 1 1 (prodT (L.map (·.2))) r σ':=by
 obtain⟨τ,i,wa,es,q2,q3,q4,q5,q6,hl,p,hi⟩:=lp_forms (W:=W) (k:=k) (o0:=some (.ref j0)) (o7:=none) L (σ++[.dict [([0,0],.int 1)] 0]) σ.length 0 _ _ 0 none none none none none (get_old h0) (hF.ext (Ext.app _ _)) dlt_init (get_new _ _)
  (fun e he=>by simp at he;subst he;exact⟨0,0,rfl,by omega⟩) (by omega)
 rw[foldl_prodT] at p
 generalize hσ:σ++[AO.dict [([0,0],.int 1)] 0]++τ=σ1 at *
 have hx:Ext σ σ1:=by rw[←hσ];exact(Ext.app _ _).app_r _
 have hlen:σ.length≤σ1.length:=by rw[←hσ];simp
 have pf:=p.filter (n:=1) (d:=1) (fun e=>match e.2 with | .int v=>qD v 1|_=>.none) (fun x y _=>by rw[Int.mul_one,ratD_one])
 refine⟨σ1.length,σ1++[.dict _ 0],?_,hx.app_r _,hlen,⟨_,0,get_new _ _,pf⟩⟩
 refine call_ret (fn:=⟨1,8,b_law_product⟩) rfl rfl (l:=[some (.ref j0),some (.ref i),q2,q3,q4,q5,q6,none])
  (seq_next (l1:=[some (.ref j0),some (.ref σ.length),none,none,none,none,none,none]) (σ1:=σ++[.dict [([0,0],.int 1)] 0]) ?_ (seq_next (l1:=[some (.ref j0),some (.ref i),q2,q3,q4,q5,q6,none]) (σ1:=σ1) ?_ ?_))
 ·simp[exS,ev,evs,dispE,ints?,LIM]
  rfl
 ·rw[for_ev (ds:=L.map fun q=>.ref q.1) (src:=some (j0,w0)) (σ1:=σ++[.dict [([0,0],.int 1)] 0]) (by simp[evI,ev,iterOf,get_old h0])]
  exact hl
 ·have hc:=comp_filter (bind:=bindT [7] false) (test:=evT (evCall FT W k) (.cmp .ne (.idx (.var 1) (.var 7)) (.lit (.int 0)))) (elt:=ev (evCall FT W k) (.tup (.acons (.var 7) (.acons (.tup (.acons (.idx (.var 1) (.var 7)) (.acons (.lit (.int 1)) (.anil)))) (.anil)))))
   (src:=some (i,wa)) (l:=[some (.ref j0),some (.ref i),q2,q3,q4,q5,q6,none]) (σ:=σ1) (fun e=>keyD e.1) (fun e=>decide (prodT (L.map (·.2)) (kx e.1) (ky e.1)≠0)) (fun e=>.tup [keyD e.1,match e.2 with | .int v=>qD v 1|_=>.none]) (by simp[srcOk,hi,AO.ver]) es (fun e he=>?_)
  ·have hp:=pairs_map ((es.filter fun e=>decide (prodT (L.map (·.2)) (kx e.1) (ky e.1)≠0)).map fun e=>(e.1,match e.2 with | .int v=>qD v 1|_=>.none)) [] (by simpa using pf.nd) (by
    simp only[List.length_nil,List.length_map,Nat.zero_add]
    exact Nat.lt_of_le_of_lt (List.length_filter_le _ _) p.len)
   simp only[List.map_map,List.nil_append] at hp
   have hlen':(es.map fun e=>keyD e.1).length<LIM:=by rw[List.length_map];exact p.len
   have hit:evI (evCall FT W k) (.ix (.var 1)) [some (.ref j0),some (.ref i),q2,q3,q4,q5,q6,none] σ1=some (es.map fun e=>keyD e.1,some (i,wa),σ1):=by
    simp[evI,ev,iterOf,hi]
   have hevL:evL (evCall FT W k) (.lcomp (.tup (.acons (.var 7) (.acons (.tup (.acons (.idx (.var 1) (.var 7)) (.acons (.lit (.int 1)) (.anil)))) (.anil)))) [7] false (.ix (.var 1)) (some (.cmp .ne (.idx (.var 1) (.var 7)) (.lit (.int 0))))) [some (.ref j0),some (.ref i),q2,q3,q4,q5,q6,none] σ1
     = some ((es.filter fun e=>decide (prodT (L.map (·.2)) (kx e.1) (ky e.1)≠0)).map (fun e=>.tup [keyD e.1,match e.2 with | .int v=>qD v 1|_=>.none]),σ1):=by
    rw[evL,hit]
    show(if (es.map fun e=>keyD e.1).length<LIM then compGo (bindT [7] false) (evT (evCall FT W k) (.cmp .ne (.idx (.var 1) (.var 7)) (.lit (.int 0)))) _ _ _ _ _ else none)=_
    rw[if_pos hlen',hc]
   have hev:ev (evCall FT W k) (.dictPairs (.lcomp (.tup (.acons (.var 7) (.acons (.tup (.acons (.idx (.var 1) (.var 7)) (.acons (.lit (.int 1)) (.anil)))) (.anil)))) [7] false (.ix (.var 1)) (some (.cmp .ne (.idx (.var 1) (.var 7)) (.lit (.int 0)))))) [some (.ref j0),some (.ref i),q2,q3,q4,q5,q6,none] σ1
     = some (.ref σ1.length,σ1++[.dict ((es.filter fun e=>decide (prodT (L.map (·.2)) (kx e.1) (ky e.1)≠0)).map fun e=>(e.1,match e.2 with | .int v=>qD v 1|_=>.none)) 0]):=by
    rw[ev,hevL]
    dsimp only
    rw[show(pairsD [] ((es.filter fun e=>decide (prodT (L.map (·.2)) (kx e.1) (ky e.1)≠0)).map (fun e=>.tup [keyD e.1,match e.2 with | .int v=>qD v 1|_=>.none])))=_ from hp]
   simp only[exS,hev]
  ·obtain⟨x,y,h,hb⟩:=p.inb e he
   obtain⟨k0,v⟩:=e
   simp only at h
   subst h
   have hg:=dg_of_mem p.nd he
   have hv:=p.val he
   have hidx:idxD σ1 (.ref i) (keyD [x,y])=some v:=by
    simp only[idxD,keyD,hi,List.map_cons,List.map_nil,ints?,Option.map]
    exact hg
   refine⟨[some (.ref j0),some (.ref i),q2,q3,q4,q5,q6,some (keyD [x,y])],by simp[bindT],?_,fun _=>?_⟩
   ·have hne:cmpD .ne v (.int 0) σ1=some (decide (prodT (L.map (·.2)) x y≠0)):=by
     rw[hv]
     simp[cmpD,eqD,CF]
     rfl
    simp only[evT,ev,List.getElem?_cons_succ,List.getElem?_cons_zero,hidx,hne,truthD,Option.map]
    rfl
   ·simp[ev,evs,hidx,LIM,hv]
end
theorem T_upd (p:Par) (c:Cf) (x0 y0:Int):(fun x y=>T p c x y-T p dlt (x-x0) (y-y0)*c x0 y0)=T p (upd c x0 y0 0):=by
 have hu:∀x y,upd c x0 y0 0 x y=c x y-dlt (x-x0) (y-y0)*c x0 y0:=fun x y=>by
  unfold upd dlt
  by_cases h:x=x0∧y=y0
  ·rw[if_pos h,if_pos (by omega),h.1,h.2];omega
  ·rw[if_neg h,if_neg (by omega)];omega
 funext x y
 unfold T
 rw[hu,hu,hu,show x-x0-1=x-1-x0 by omega,show y-y0-p.e=y-p.e-y0 by omega,show y-y0-1=y-1-y0 by omega]
 grind
theorem T_zero (p:Par):T p (fun _ _=>0)=fun _ _=>0:=by funext x y;simp[T]
theorem Pol.empty {n d:Int} {c:Cf} {es:Es} (p:Pol n d c es) (h:∀x y,c x y=0):es=[]:=by
 cases es with
 |nil=>rfl
 |cons e es=>
  obtain⟨x,y,_,hc⟩:=p.entry List.mem_cons_self
  exact absurd (h x y) hc
theorem Pol.ne_nil {n d:Int} {c:Cf} {es:Es} (p:Pol n d c es) {x y:Int} (h:c x y≠0):es≠[]:=by
 rintro rfl
 have:=p.get x y
 rw[if_neg h] at this
 cases this
section
variable {W k:Nat} {σ:St}
theorem fd_yes {i w:Nat} {x y a b:Int} {v:D} (hi:σ[i]?=some (.list [.tup [keyD [a,b],v]] w)) (h:a≤x∧b≤y):evCall FT W (k+2) f_first_divisor [keyD [x,y],.ref i] σ=some (.int 0,σ):=by
 refine call_ret (fn:=⟨2,4,b_first_divisor⟩) rfl rfl (l:=[some (keyD [x,y]),some (.ref i),some (.int 0),some (.tup [keyD [a,b],v])]) (seq_ret ?_)
 have:=pdiv_call (W:=W) (k:=k) (σ:=σ) (x:=a) (y:=b) (a:=x) (b:=y)
 have h0:idxD σ (.tup [keyD [a,b],v]) (.int 0)=some (keyD [a,b]):=by simp[idxD,LIM]
 simp[exS,evI,evT,ev,evs,hi,enumD,forGo,bindT,truthD,h0,this,h]
theorem fd_no {i w:Nat} {x y a b:Int} {v:D} (hi:σ[i]?=some (.list [.tup [keyD [a,b],v]] w)) (h:¬(a≤x∧b≤y)):evCall FT W (k+2) f_first_divisor [keyD [x,y],.ref i] σ=some (.int (-1),σ):=by
 refine call_ret (fn:=⟨2,4,b_first_divisor⟩) rfl rfl (l:=[some (keyD [x,y]),some (.ref i),some (.int 0),some (.tup [keyD [a,b],v])]) (seq_next (l1:=[some (keyD [x,y]),some (.ref i),some (.int 0),some (.tup [keyD [a,b],v])]) (σ1:=σ) ?_ ?_)
 ·have:=pdiv_call (W:=W) (k:=k) (σ:=σ) (x:=a) (y:=b) (a:=x) (b:=y)
  have h0:idxD σ (.tup [keyD [a,b],v]) (.int 0)=some (keyD [a,b]):=by simp[idxD,LIM]
  simp[exS,evI,evT,ev,evs,hi,enumD,forGo,bindT,truthD,h0,this,h,srcOk,AO.ver]
 ·simp[exS,ev]
abbrev divTail:XS:=.seq (.asgT [10,11] (.tup (.acons (.call f_powers_quotient (.acons (.var 7) (.acons (.idx (.idx (.var 3) (.var 9)) (.lit (.int 0))) (.anil)))) (.acons (.call f_rdiv (.acons (.var 8) (.acons (.idx (.idx (.var 3) (.var 9)) (.lit (.int 1))) (.anil)))) (.anil)))))
  (.seq (.expr (.call f_add_term (.acons (.idx (.var 4) (.var 9)) (.acons (.var 10) (.acons (.var 11) (.anil))))))
  (.asg 6 (.call f_mvsub (.acons (.var 6) (.acons (.call f_mvshift (.acons (.idx (.var 1) (.var 9)) (.acons (.var 10) (.acons (.var 11) (.anil))))) (.anil))))))
abbrev divSkip:XS:=.ifs (.cmp .lt (.var 9) (.lit (.int 0))) (.seq (.set (.var 5) (.var 7) (.var 8))
  (.seq (.expr (.pop1 (.var 6) (.var 7)))
  (.cont))) (.nil)
abbrev divBody:XS:=.seq (.asgT [7,8] (.call f_mvlead (.acons (.var 6) (.acons (.var 2) (.anil)))))
  (.seq (.asg 9 (.call f_first_divisor (.acons (.var 7) (.acons (.var 3) (.anil)))))
  (.seq divSkip divTail))
theorem set_mid (σ τ:St) (a b c:AO):(σ++a::b::τ).set (σ.length+1) c=σ++a::c::τ:=by
 rw[List.set_append_right _ _ (by omega)]
 simp
theorem div_turn {j wj bi wb r wl wl' wq w5:Nat} {p:Par} {c q:Cf} {ls qs bs:Es} {τ:St} {x0 y0:Int} {f0 o7 o8 o9 o10 o11 o12:Option D} {K:Nat} (hW:2^30≤W) (ok:p.Ok)
  (hj:σ[j]?=some (.list [.ref bi] wj)) (hb:σ[bi]?=some (.dict bs wb)) (pb:PolI (T p dlt) bs)
  (hr:(σ++.list [.tup [keyD [1,p.e],qD 1 1]] 0::.dict qs wq::.list [.ref (σ.length+1)] 0::τ)[r]?=some (.dict ls wl)) (hrn:r≠σ.length+1) (pl:PolI (T p c) ls) (pq:PolI q qs)
  (sc:Supp K c) (hK:K+1≤8) (bc:∀x y,(c x y).natAbs≤6^8) (bq:∀x y,(q x y).natAbs≤6^8) (sq:Supp K q)
  (hc0:c x0 y0≠0) (hmax:∀x y,c x y≠0→lexLe x y x0 y0) :
  ∃qs' τ' r' ls' wl' l8,
   exS (evCall FT W (k+7)) W divBody [f0,some (.ref j),some lexS,some (.ref σ.length),some (.ref (σ.length+2)),some (.ref w5),some (.ref r),o7,o8,o9,o10,o11,o12] (σ++.list [.tup [keyD [1,p.e],qD 1 1]] 0::.dict qs wq::.list [.ref (σ.length+1)] 0::τ)
    = some (.next,[f0,some (.ref j),some lexS,some (.ref σ.length),some (.ref (σ.length+2)),some (.ref w5),some (.ref r'),some (keyD [x0+1,y0+p.e]),some l8,some (.int 0),some (keyD [x0,y0]),some (qD (c x0 y0) 1),o12],
      σ++.list [.tup [keyD [1,p.e],qD 1 1]] 0::.dict qs' (wq+1)::.list [.ref (σ.length+1)] 0::(τ++τ'))
   ∧ (σ++.list [.tup [keyD [1,p.e],qD 1 1]] 0::.dict qs' (wq+1)::.list [.ref (σ.length+1)] 0::(τ++τ'))[r']?=some (.dict ls' wl')∧σ.length+3≤r'∧PolI (T p (upd c x0 y0 0)) ls'∧PolI (upd q x0 y0 (q x0 y0+c x0 y0)) qs':=by
 have he:=ok.e
 have h6:(6:Nat)^8=1679616:=by decide
 rw[h6] at bc bq
 have hz:∀x y,¬lexLe x y x0 y0→c x y=0:=fun x y h=>Classical.byContradiction fun z=>h (hmax x y z)
 have htop:T p c (x0+1) (y0+p.e)=c x0 y0:=by
  unfold T
  rw[show x0+1-1=x0 by omega,show y0+p.e-p.e=y0 by omega,hz (x0+1) (y0+p.e-1) (by unfold lexLe;omega),hz (x0+1) (y0+p.e) (by unfold lexLe;omega)]
  simp
 have hb0:=sc x0 y0 hc0
 have bT:∀x y,(T p c x y).natAbs≤6*1679616:=fun x y=>by
  have h1:=bc (x-1) (y-p.e)
  have h2:=bc x (y-1)
  have h3:=bc x y
  unfold Mine.T
  have ha:(p.a*c x (y-1)).natAbs≤2*1679616:=by
   rw[Int.natAbs_mul];exact Nat.mul_le_mul (by have:=ok.a;omega) h2
  have hb:(p.b*c x y).natAbs≤3*1679616:=by
   rw[Int.natAbs_mul];exact Nat.mul_le_mul (by have:=ok.b;omega) h3
  omega
 have sT:Supp (K+1) (T p c):=sc.T ok
 generalize hA:AO.list [.tup [keyD [1,p.e],qD 1 1]] 0=A at *
 generalize hQ:AO.list [.ref (σ.length+1)] 0=Q at *
 generalize hS:σ++A::.dict qs wq::Q::τ=S at *
 have hSe:Ext σ S:=by rw[←hS];exact Ext.app _ _
 have sA:S[σ.length]?=some A:=by rw[←hS];simp
 have sq1:S[σ.length+1]?=some (.dict qs wq):=by rw[←hS];simp
 have sQ:S[σ.length+2]?=some Q:=by rw[←hS];simp
 obtain⟨x,y,hlead,hcx,hxm⟩:=mvlead_call (W:=W) (k:=k+5) (σ:=S) pl hr (pl.ne_nil (by rw[htop];exact hc0))
 have hxy:x0+1=x∧y0+p.e=y:=by
  have h1:=hxm (x0+1) (y0+p.e) (by rw[htop];exact hc0)
  refine lexLe_anti h1 ?_
  rcases T_ne hcx with z|z|z
  ·have:=hmax _ _ z;unfold lexLe at *;omega
  ·have:=hmax _ _ z.2;unfold lexLe at *;omega
  ·have:=hmax _ _ z;unfold lexLe at *;omega
 obtain⟨rfl,rfl⟩:=hxy
 rw[htop,Int.mul_one,ratD_one] at hlead
 have hfd:=fd_yes (W:=W) (k:=k+5) (σ:=S) (i:=σ.length) (x:=x0+1) (y:=y0+p.e) (a:=1) (b:=p.e) (v:=qD 1 1) (by rw[sA,←hA]) (by omega)
 have hpq:=pquot_call (W:=W) (k:=k+6) (σ:=S) (x:=x0+1) (y:=y0+p.e) (a:=1) (b:=p.e)
 rw[show x0+1-1=x0 by omega,show y0+p.e-p.e=y0 by omega] at hpq
 have hrd:=rdiv_call (W:=W) (n:=k+4) (σ:=S) (a:=c x0 y0) (b:=1) (c:=1) (d:=1) (.inr (by omega)) (.inr (by omega)) (by omega) (by decide) (by simp;omega)
 rw[Int.mul_one,Int.mul_one,ratD_one] at hrd
 have hcb:=bc x0 y0
 obtain⟨qs',hat,pq'⟩:=add_term_call (W:=W) (k:=k+3) (σ:=S) (n:=1) (d:=1) (c:=q) (x:=x0) (y:=y0) (v:=c x0 y0) hW (by omega) (by omega) (by omega) hc0 (by have:=bq x0 y0;omega) (by omega) pq (pq.len (sq.box (by omega))) sq1
 rw[Int.mul_one,ratD_one] at hat
 have hset:S.set (σ.length+1) (.dict qs' (wq+1))=σ++A::.dict qs' (wq+1)::Q::τ:=by rw[←hS];exact set_mid _ _ _ _ _
 have hr':(S.set (σ.length+1) (.dict qs' (wq+1)))[r]?=some (.dict ls wl):=by rw[List.getElem?_set_ne (Ne.symm hrn)];exact hr
 rw[hset] at hat hr'
 generalize hS2:σ++A::.dict qs' (wq+1)::Q::τ=S2 at *
 have hS2e:Ext σ S2:=by rw[←hS2];exact Ext.app _ _
 have s2b:S2[bi]?=some (.dict bs wb):=hS2e.get hb
 have sb1:Supp 1 (T p dlt):=supp_dlt.T ok
 have bb1:Bnd 1 (T p dlt):=bnd_dlt.T ok
 obtain⟨gs,hsh,pg⟩:=mvshift_call (W:=W) (k:=k+3) (σ:=S2) (a:=x0) (b:=y0) (v:=c x0 y0) hW pb (sb1.box (by omega)) s2b hc0 (by omega)
 have bxg:Box (fun x y=>T p dlt (x-x0) (y-y0)*c x0 y0):=fun x y h=>by
  have:T p dlt (x-x0) (y-y0)≠0:=fun z=>h (by show T p dlt (x-x0) (y-y0)*c x0 y0=0;rw[z];simp)
  have:=sb1 _ _ this
  omega
 obtain⟨τ2,ls',wl',r',hms,hr2,hrl,pls⟩:=mvsub_call (W:=W) (k:=k+1) (σ:=S2++[.dict gs 0]) (i:=r) (j:=S2.length) (n:=1) (d:=1) hW (by omega) (by omega) (by omega) pl (get_old hr') pg (get_new _ _) (sT.box (by omega)) bxg
  (fun x y=>by have:=bT x y;omega) (fun x y=>by
   have h1:=bb1 (x-x0) (y-y0)
   rw[Nat.pow_one] at h1
   rw[Int.mul_one,Int.natAbs_mul]
   have h2:(T p dlt (x-x0) (y-y0)).natAbs*(c x0 y0).natAbs≤6*1679616:=Nat.mul_le_mul h1 hcb
   omega)
 rw[T_upd] at pls
 have hfin:S2++[AO.dict gs 0]++τ2=σ++A::.dict qs' (wq+1)::Q::(τ++(.dict gs 0::τ2)):=by rw[←hS2];simp
 refine⟨qs',.dict gs 0::τ2,r',ls',wl',qD (c x0 y0) 1,?_,?_,?_,pls,pq'⟩
 ·rw[←hfin]
  have iA:idxD S (.ref σ.length) (.int 0)=some (.tup [keyD [1,p.e],qD 1 1]):=by simp only[idxD,sA,←hA];rfl
  have iA0:idxD S (.tup [keyD [1,p.e],qD 1 1]) (.int 0)=some (keyD [1,p.e]):=rfl
  have iA1:idxD S (.tup [keyD [1,p.e],qD 1 1]) (.int 1)=some (qD 1 1):=rfl
  have iQ:idxD S (.ref (σ.length+2)) (.int 0)=some (.ref (σ.length+1)):=by simp only[idxD,sQ,←hQ];rfl
  have ij:idxD S2 (.ref j) (.int 0)=some (.ref bi):=by simp only[idxD,hS2e.get hj];rfl
  refine seq_next (l1:=[f0,some (.ref j),some lexS,some (.ref σ.length),some (.ref (σ.length+2)),some (.ref w5),some (.ref r),some (keyD [x0+1,y0+p.e]),some (qD (c x0 y0) 1),o9,o10,o11,o12]) (σ1:=S) ?_
   (seq_next (l1:=[f0,some (.ref j),some lexS,some (.ref σ.length),some (.ref (σ.length+2)),some (.ref w5),some (.ref r),some (keyD [x0+1,y0+p.e]),some (qD (c x0 y0) 1),some (.int 0),o10,o11,o12]) (σ1:=S) ?_
   (seq_next (l1:=[f0,some (.ref j),some lexS,some (.ref σ.length),some (.ref (σ.length+2)),some (.ref w5),some (.ref r),some (keyD [x0+1,y0+p.e]),some (qD (c x0 y0) 1),some (.int 0),o10,o11,o12]) (σ1:=S) ?_
   (seq_next (l1:=[f0,some (.ref j),some lexS,some (.ref σ.length),some (.ref (σ.length+2)),some (.ref w5),some (.ref r),some (keyD [x0+1,y0+p.e]),some (qD (c x0 y0) 1),some (.int 0),some (keyD [x0,y0]),some (qD (c x0 y0) 1),o12]) (σ1:=S) ?_
   (seq_next (l1:=[f0,some (.ref j),some lexS,some (.ref σ.length),some (.ref (σ.length+2)),some (.ref w5),some (.ref r),some (keyD [x0+1,y0+p.e]),some (qD (c x0 y0) 1),some (.int 0),some (keyD [x0,y0]),some (qD (c x0 y0) 1),o12]) (σ1:=S2) ?_ ?_))))
  ·simp[exS,ev,evs,hlead,bindT]
  ·simp[exS,ev,evs,hfd]
  ·simp[exS,evT,ev,cmpD,truthD]
  ·simp[exS,ev,evs,iA,iA0,iA1,hpq,hrd,LIM,bindT]
  ·simp[exS,ev,evs,iQ,hat]
  ·simp[exS,ev,evs,ij,hsh,hms]
 ·rw[←hfin];exact hr2
 ·have:S2.length=σ.length+3+τ.length:=by rw[←hS2];simp;omega
  simp only[List.length_append] at hrl
  omega
end
section
variable {W k:Nat} {σ:St}
abbrev divTest:X:=.cmp .gt (.len (.var 6)) (.lit (.int 0))
theorem div_loop {j wj bi wb w5:Nat} {p:Par} {bs:Es} {Qt:Cf} {f0 o12:Option D} {K:Nat} (hW:2^30≤W) (ok:p.Ok)
  (hj:σ[j]?=some (.list [.ref bi] wj)) (hb:σ[bi]?=some (.dict bs wb)) (pb:PolI (T p dlt) bs) (sQ:Supp K Qt) (hK:K+1≤8) (bQ:Bnd 8 Qt) :
  ∀(N fuel:Nat) (c q:Cf) (qs ls:Es) (τ:St) (r wl wq:Nat) (o7 o8 o9 o10 o11:Option D),N<fuel→(∀x y,c x y≠0→9*x+y<N)→
   (∀x y,(c x y=0∧q x y=Qt x y)∨(c x y=Qt x y∧q x y=0))→PolI (T p c) ls→PolI q qs→
   (σ++.list [.tup [keyD [1,p.e],qD 1 1]] 0::.dict qs wq::.list [.ref (σ.length+1)] 0::τ)[r]?=some (.dict ls wl)→σ.length+3≤r→
   ∃qs' wq' τ' q6 q7 q8 q9 q10 q11,whileGo (evT (evCall FT W (k+7)) divTest) (exS (evCall FT W (k+7)) W divBody) fuel
     [f0,some (.ref j),some lexS,some (.ref σ.length),some (.ref (σ.length+2)),some (.ref w5),some (.ref r),o7,o8,o9,o10,o11,o12] (σ++.list [.tup [keyD [1,p.e],qD 1 1]] 0::.dict qs wq::.list [.ref (σ.length+1)] 0::τ)
    = some (.next,[f0,some (.ref j),some lexS,some (.ref σ.length),some (.ref (σ.length+2)),some (.ref w5),q6,q7,q8,q9,q10,q11,o12],σ++.list [.tup [keyD [1,p.e],qD 1 1]] 0::.dict qs' wq'::.list [.ref (σ.length+1)] 0::(τ++τ'))∧PolI Qt qs'
 |0,fuel,c,q,qs,ls,τ,r,wl,wq,o7,o8,o9,o10,o11,hf,hN,hq,pl,pq,hr,hrn=>by
  have hc:∀x y,c x y=0:=fun x y=>Classical.byContradiction fun h=>by
   have h1:=hN x y h
   have h2:c x y=Qt x y:=by rcases hq x y with z|z;exact absurd z.1 h;exact z.1
   have:=sQ x y (by rw[←h2];exact h)
   omega
  have hcz:c=fun _ _=>0:=by funext x y;exact hc x y
  have hle:ls=[]:=pl.empty fun x y=>by rw[hcz,T_zero]
  have hqe:q=Qt:=by
   funext x y
   rcases hq x y with z|z
   ·exact z.2
   ·rw[z.2,←z.1,hc]
  subst hle
  obtain⟨fuel,rfl⟩:∃f,fuel=f+1:=⟨fuel-1,by omega⟩
  refine⟨qs,wq,[],some (.ref r),o7,o8,o9,o10,o11,?_,by rw[←hqe];exact pq⟩
  rw[List.append_nil]
  refine while_stop ?_
  simp[evT,ev,lenD,hr,LIM,cmpD,truthD]
 |N+1,fuel,c,q,qs,ls,τ,r,wl,wq,o7,o8,o9,o10,o11,hf,hN,hq,pl,pq,hr,hrn=>by
  have hcQ:∀x y,c x y≠0→c x y=Qt x y:=fun x y h=>by rcases hq x y with z|z;exact absurd z.1 h;exact z.1
  have hqQ:∀x y,q x y≠0→q x y=Qt x y:=fun x y h=>by rcases hq x y with z|z;exact z.2;exact absurd z.2 h
  have sc:Supp K c:=fun x y h=>sQ x y (by rw[←hcQ x y h];exact h)
  have sq:Supp K q:=fun x y h=>sQ x y (by rw[←hqQ x y h];exact h)
  by_cases hc0:c (((N/9:Nat)):Int) (((N%9:Nat)):Int)=0
  ·refine div_loop hW ok hj hb pb sQ hK bQ N fuel c q qs ls τ r wl wq o7 o8 o9 o10 o11 (by omega) (fun x y h=>?_) hq pl pq hr hrn
   have h1:=hN x y h
   have h2:=sc x y h
   have:¬(x=((N/9:Nat):Int)∧y=((N%9:Nat):Int)):=fun z=>h (by rw[z.1,z.2];exact hc0)
   omega
  ·have hmax:∀x y,c x y≠0→lexLe x y ((N/9:Nat):Int) ((N%9:Nat):Int):=fun x y h=>by
    have h1:=hN x y h
    have h2:=sc x y h
    have h3:=sc _ _ hc0
    unfold lexLe
    omega
   have bc:∀x y,(c x y).natAbs≤6^8:=fun x y=>by
    by_cases h:c x y=0
    ·rw[h];simp
    ·rw[hcQ x y h];exact bQ x y
   have bq:∀x y,(q x y).natAbs≤6^8:=fun x y=>by
    by_cases h:q x y=0
    ·rw[h];simp
    ·rw[hqQ x y h];exact bQ x y
   obtain⟨qs1,τ1,r1,ls1,wl1,l8,ht,hr1,hrn1,pl1,pq1⟩:=div_turn (k:=k) (w5:=w5) (wl':=0) (f0:=f0) (o7:=o7) (o8:=o8) (o9:=o9) (o10:=o10) (o11:=o11) (o12:=o12) hW ok hj hb pb hr (by omega) pl pq sc hK bc bq sq hc0 hmax
   obtain⟨fuel,rfl⟩:∃f,fuel=f+1:=⟨fuel-1,by omega⟩
   obtain⟨qs',wq',τ',q6,q7,q8,q9,q10,q11,hl,pf⟩:=div_loop hW ok hj hb pb sQ hK bQ N fuel _ _ qs1 ls1 (τ++τ1) r1 wl1 (wq+1) (some (keyD [((N/9:Nat):Int)+1,((N%9:Nat):Int)+p.e])) (some l8) (some (.int 0)) _ _ (by omega) (fun x y h=>by
    unfold upd at h
    split at h
    ·exact absurd rfl h
    ·rename_i hz
     have h1:=hN x y h
     have h2:=sc x y h
     omega) (fun x y=>by
    unfold upd
    split
    ·rename_i hz
     rw[hz.1,hz.2]
     have h1:=hcQ _ _ hc0
     have h2:=hq ((N/9:Nat):Int) ((N%9:Nat):Int)
     left
     omega
    ·exact hq x y) pl1 pq1 hr1 hrn1
   refine⟨qs',wq',τ1++τ',q6,q7,q8,q9,q10,q11,?_,pf⟩
   rw[while_step (fl:=.next) ?_ ht (by simp),hl,List.append_assoc]
   have hls:ls≠[]:=pl.ne_nil (x:=((N/9:Nat):Int)+1) (y:=((N%9:Nat):Int)+p.e) (by
    have hz:∀x y,¬lexLe x y ((N/9:Nat):Int) ((N%9:Nat):Int)→c x y=0:=fun x y h=>Classical.byContradiction fun z=>h (hmax x y z)
    have he:=ok.e
    unfold T
    rw[show((N/9:Nat):Int)+1-1=((N/9:Nat):Int) by omega,show((N%9:Nat):Int)+p.e-p.e=((N%9:Nat):Int) by omega,hz (((N/9:Nat):Int)+1) (((N%9:Nat):Int)+p.e-1) (by unfold lexLe;omega),hz (((N/9:Nat):Int)+1) (((N%9:Nat):Int)+p.e) (by unfold lexLe;omega)]
    simpa using hc0)
   have hlen:ls.length<LIM:=pl.len ((sc.T ok).box hK)
   have hpos:0<ls.length:=List.length_pos_iff.mpr hls
   simp[evT,ev,lenD,hr,hlen,cmpD,truthD,hpos]
end
section
variable {W k:Nat} {σ:St}
theorem lead_at {n d:Int} {i w:Nat} {c:Cf} {es:Es} {X Y:Int} (p:Pol n d c es) (hi:σ[i]?=some (.dict es w)) (h0:c X Y≠0) (h:∀x y,c x y≠0→lexLe x y X Y) :
  evCall FT W (k+2) f_mvlead [.ref i,lexS] σ=some (.tup [keyD [X,Y],ratD (c X Y*n) d],σ):=by
 obtain⟨x,y,hl,hc,hm⟩:=mvlead_call (W:=W) (k:=k) p hi (p.ne_nil h0)
 obtain⟨rfl,rfl⟩:=lexLe_anti (hm X Y h0) (h x y hc)
 exact hl
theorem divide_head {j wj bi wb i wi:Nat} {p:Par} {bs es:Es} (ok:p.Ok) (hj:σ[j]?=some (.list [.ref bi] wj)) (hb:σ[bi]?=some (.dict bs wb)) (pb:PolI (T p dlt) bs) (hi:σ[i]?=some (.dict es wi))
  (hel:es.length<LIM) (heh:hashesOk es=true) {R:XS} {res:Option (Fl×Loc×St)}
  (h:exS (evCall FT W (k+2)) W R [some (.ref i),some (.ref j),some lexS,some (.ref σ.length),some (.ref (σ.length+2)),some (.ref (σ.length+3)),some (.ref (σ.length+4)),none,none,none,none,none,none]
    (σ++.list [.tup [keyD [1,p.e],qD 1 1]] 0::.dict [] 0::.list [.ref (σ.length+1)] 0::[.dict [] 0,.dict es 0])=res) :
  exS (evCall FT W (k+2)) W (.seq (.asg 3 (.lst (.lcomp (.call f_mvlead (.acons (.var 12) (.acons (.var 2) (.anil)))) [12] false (.ix (.var 1)) none)))
  (.seq (.asg 4 (.lst (.lcomp (.dict (.anil)) [12] false (.ix (.var 1)) none)))
  (.seq (.asgT [5,6] (.tup (.acons (.dict (.anil)) (.acons (.dictOf (.var 0)) (.anil))))) R))) [some (.ref i),some (.ref j),some lexS,none,none,none,none,none,none,none,none,none,none] σ=res:=by
 have hl:Lead (0+1) (0+p.e) (T p dlt):=lead_dlt.T ok
 rw[Int.zero_add,Int.zero_add] at hl
 have hlead:=lead_at (W:=W) (k:=k) pb hb (by rw[hl.1];decide) hl.2
 rw[hl.1,Int.one_mul,ratD_one] at hlead
 have hj1:=get_old (τ:=[AO.list [.tup [keyD [1,p.e],qD 1 1]] 0]) hj
 have hj2:(σ++[AO.list [.tup [keyD [1,p.e],qD 1 1]] 0,AO.dict [] 0])[j]?=some (.list [.ref bi] wj):=get_old hj
 have hi3:(σ++[AO.list [.tup [keyD [1,p.e],qD 1 1]] 0,AO.dict [] 0,AO.list [.ref (σ.length+1)] 0,AO.dict [] 0])[i]?=some (.dict es wi):=get_old hi
 refine seq_next (l1:=[some (.ref i),some (.ref j),some lexS,some (.ref σ.length),none,none,none,none,none,none,none,none,none]) (σ1:=σ++[.list [.tup [keyD [1,p.e],qD 1 1]] 0]) ?_
  (seq_next (l1:=[some (.ref i),some (.ref j),some lexS,some (.ref σ.length),some (.ref (σ.length+2)),none,none,none,none,none,none,none,none]) (σ1:=σ++[.list [.tup [keyD [1,p.e],qD 1 1]] 0,.dict [] 0,.list [.ref (σ.length+1)] 0]) ?_
  (seq_next (l1:=[some (.ref i),some (.ref j),some lexS,some (.ref σ.length),some (.ref (σ.length+2)),some (.ref (σ.length+3)),some (.ref (σ.length+4)),none,none,none,none,none,none]) (σ1:=σ++.list [.tup [keyD [1,p.e],qD 1 1]] 0::.dict [] 0::.list [.ref (σ.length+1)] 0::[.dict [] 0,.dict es 0]) ?_ h))
 ·simp[exS,ev,evs,evL,evI,iterOf,hj,compGo,bindT,hlead,srcOk,AO.ver,LIM]
 ·simp[exS,ev,evs,evL,evI,iterOf,hj1,compGo,bindT,dispE,srcOk,AO.ver,LIM,hj2]
 ·have hel':es.length<1048576:=hel
  simp[exS,ev,evs,dispE,hi3,hel',heh,bindT,LIM]
theorem mvdivide_yes {j wj bi wb i wi:Nat} {p:Par} {bs es:Es} {Qt:Cf} {K:Nat} (hW:2^30≤W) (ok:p.Ok) (hj:σ[j]?=some (.list [.ref bi] wj)) (hb:σ[bi]?=some (.dict bs wb)) (pb:PolI (T p dlt) bs)
  (hi:σ[i]?=some (.dict es wi)) (pe:PolI (T p Qt) es) (sQ:Supp K Qt) (hK:K+1≤8) (bQ:Bnd 8 Qt) :
  ∃qs wq τ,evCall FT W (k+8) f_mvdivide [.ref i,.ref j,lexS] σ=some (.tup [.ref (σ.length+2),.ref (σ.length+3)],σ++.list [.tup [keyD [1,p.e],qD 1 1]] 0::.dict qs wq::.list [.ref (σ.length+1)] 0::.dict [] 0::τ)∧PolI Qt qs:=by
 have bx:Box (T p Qt):=(sQ.T ok).box hK
 obtain⟨qs,wq,τ',q6,q7,q8,q9,q10,q11,hl,pq⟩:=div_loop (k:=k) (w5:=σ.length+3) (f0:=some (.ref i)) (o12:=none) hW ok hj hb pb sQ hK bQ 81 W Qt (fun _ _=>0) [] es [.dict [] 0,.dict es 0] (σ.length+4) 0 0 none none none none none (by omega)
  (fun x y h=>by have:=sQ x y h;omega) (fun x y=>.inr ⟨rfl,rfl⟩) pe Pol.nil (by simp) (by omega)
 refine⟨qs,wq,.dict es 0::τ',?_,pq⟩
 refine call_ret (fn:=⟨3,13,b_mvdivide⟩) rfl rfl (l:=[some (.ref i),some (.ref j),some lexS,some (.ref σ.length),some (.ref (σ.length+2)),some (.ref (σ.length+3)),q6,q7,q8,q9,q10,q11,none])
  (divide_head (k:=k+5) ok hj hb pb hi (pe.len bx) (pe.hashes bx) (seq_next (l1:=[some (.ref i),some (.ref j),some lexS,some (.ref σ.length),some (.ref (σ.length+2)),some (.ref (σ.length+3)),q6,q7,q8,q9,q10,q11,none])
   (σ1:=σ++.list [.tup [keyD [1,p.e],qD 1 1]] 0::.dict qs wq::.list [.ref (σ.length+1)] 0::.dict [] 0::.dict es 0::τ') ?_ ?_))
 ·exact hl
 ·simp[exS,ev,evs,LIM]
theorem mvexact_yes {bi i:Nat} {p:Par} {Qt:Cf} {K:Nat} (hW:2^30≤W) (ok:p.Ok) (hb:IsPol 1 1 (T p dlt) bi σ) (hi:IsPol 1 1 (T p Qt) i σ) (sQ:Supp K Qt) (hK:K+1≤8) (bQ:Bnd 8 Qt) :
  ∃r σ',evCall FT W (k+9) f_mvexact [.ref i,.ref bi] σ=some (.ref r,σ')∧Ext σ σ'∧IsPol 1 1 Qt r σ':=by
 obtain⟨bs,wb,hb,pb⟩:=hb
 obtain⟨es,wi,hi,pe⟩:=hi
 obtain⟨qs,wq,τ,hd,pq⟩:=mvdivide_yes (k:=k) (σ:=σ++[.list [.ref bi] 0]) hW ok (get_new _ _) (get_old hb) pb (get_old hi) pe sQ hK bQ
 have hlen:(σ++[AO.list [.ref bi] 0]).length=σ.length+1:=by simp
 rw[hlen] at hd
 generalize hσ:σ++[AO.list [.ref bi] 0]=σ1 at *
 have e1:Ext σ σ1:=by rw[←hσ];exact Ext.app _ _
 have hl:Lead (0+1) (0+p.e) (T p dlt):=lead_dlt.T ok
 have hbl:bs.length<LIM:=pb.len ((supp_dlt.T ok).box (by omega))
 have hbs:bs≠[]:=pb.ne_nil (x:=0+1) (y:=0+p.e) (by rw[hl.1];decide)
 have hbp:bs.length≠0:=by simpa using hbs
 have hbz:((bs.length:Int)==0)=false:=by simpa using hbs
 refine⟨σ.length+2,σ1++.list [.tup [keyD [1,p.e],qD 1 1]] 0::.dict qs wq::.list [.ref (σ.length+1+1)] 0::.dict [] 0::τ,?_,e1.app_r _,⟨qs,wq,?_,pq⟩⟩
 ·refine call_ret (fn:=⟨2,4,b_mvexact⟩) rfl rfl (l:=[some (.ref i),some (.ref bi),some (.ref (σ.length+1+2)),some (.ref (σ.length+1+3))])
   (seq_next (l1:=[some (.ref i),some (.ref bi),none,none]) (σ1:=σ) ?_ (seq_next (l1:=[some (.ref i),some (.ref bi),some (.ref (σ.length+1+2)),some (.ref (σ.length+1+3))]) (σ1:=σ1++.list [.tup [keyD [1,p.e],qD 1 1]] 0::.dict qs wq::.list [.ref (σ.length+1+1)] 0::.dict [] 0::τ) ?_ ?_))
  ·simp[exS,evT,ev,lenD,hb,hbl,cmpD,eqD,CF,truthD,hbz]
  ·simp[exS,ev,evs,evL,LIM,hσ,hd,bindT]
  ·have g3:(σ1++.list [.tup [keyD [1,p.e],qD 1 1]] 0::.dict qs wq::.list [.ref (σ.length+1+1)] 0::.dict [] 0::τ)[σ.length+1+3]?=some (.dict [] 0):=by rw[←hlen];simp
   have g2:(σ1++.list [.tup [keyD [1,p.e],qD 1 1]] 0::.dict qs wq::.list [.ref (σ.length+1+1)] 0::.dict [] 0::τ)[σ.length+1+2]?=some (.list [.ref (σ.length+1+1)] 0):=by rw[←hlen];simp
   generalize (σ1++.list [.tup [keyD [1,p.e],qD 1 1]] 0::.dict qs wq::.list [.ref (σ.length+1+1)] 0::.dict [] 0::τ)=S at *
   simp[exS,ev,lenD,g3,g2,LIM,cmpD,eqD,CF,truthD,idxD]
 ·rw[show σ.length+2=σ1.length+1 by omega];simp
end
section
variable {W k:Nat} {σ:St}
theorem set_3 (σ:St) (a b c d e x:AO):(σ++[a,b,c,d,e]).set (σ.length+3) x=σ++[a,b,c,x,e]:=by
 rw[List.set_append_right _ _ (by omega)];simp
theorem set_4 (σ:St) (a b c d e x:AO):(σ++[a,b,c,d,e]).set (σ.length+4) x=σ++[a,b,c,d,x]:=by
 rw[List.set_append_right _ _ (by omega)];simp
theorem skip_turn {e x0 y0:Int} {v:D} {ls rs:Es} {q Q:AO} {c:Cf} {wl wr:Nat} {f0 j o4 o7 o8 o9 o10 o11 o12:Option D} (pl:PolI c ls) (bl:ls.length<LIM) (br:rs.length<LIM)
  (h0:c x0 y0≠0) (hm:∀x y,c x y≠0→lexLe x y x0 y0) (hd:¬(1≤x0∧e≤y0)) :
  exS (evCall FT W (k+2)) W divBody [f0,j,some lexS,some (.ref σ.length),o4,some (.ref (σ.length+3)),some (.ref (σ.length+4)),o7,o8,o9,o10,o11,o12] (σ++[.list [.tup [keyD [1,e],v]] 0,q,Q,.dict rs wr,.dict ls wl])
   = some (.cont,[f0,j,some lexS,some (.ref σ.length),o4,some (.ref (σ.length+3)),some (.ref (σ.length+4)),some (keyD [x0,y0]),some (qD (c x0 y0) 1),some (.int (-1)),o10,o11,o12],
     σ++[.list [.tup [keyD [1,e],v]] 0,q,Q,.dict (dput rs [x0,y0] (qD (c x0 y0) 1)) (wr+1),.dict (ddel ls [x0,y0]) (wl+1)]):=by
 have hr:(σ++[.list [.tup [keyD [1,e],v]] 0,q,Q,.dict rs wr,.dict ls wl])[σ.length+4]?=some (.dict ls wl):=by simp
 have hlead:=lead_at (W:=W) (k:=k) pl hr h0 hm
 rw[Int.mul_one,ratD_one] at hlead
 have hfd:=fd_no (W:=W) (k:=k) (σ:=σ++[.list [.tup [keyD [1,e],v]] 0,q,Q,.dict rs wr,.dict ls wl]) (i:=σ.length) (w:=0) (x:=x0) (y:=y0) (a:=1) (b:=e) (v:=v) (by simp) hd
 refine seq_next (l1:=[f0,j,some lexS,some (.ref σ.length),o4,some (.ref (σ.length+3)),some (.ref (σ.length+4)),some (keyD [x0,y0]),some (qD (c x0 y0) 1),o9,o10,o11,o12]) (σ1:=σ++[.list [.tup [keyD [1,e],v]] 0,q,Q,.dict rs wr,.dict ls wl]) ?_
  (seq_next (l1:=[f0,j,some lexS,some (.ref σ.length),o4,some (.ref (σ.length+3)),some (.ref (σ.length+4)),some (keyD [x0,y0]),some (qD (c x0 y0) 1),some (.int (-1)),o10,o11,o12]) (σ1:=σ++[.list [.tup [keyD [1,e],v]] 0,q,Q,.dict rs wr,.dict ls wl]) ?_ (seq_cont ?_))
 ·simp[exS,ev,evs,hlead,bindT]
 ·simp[exS,ev,evs,hfd]
 ·have hx:∀S:St,exS (evCall FT W (k+2)) W divSkip [f0,j,some lexS,some (.ref σ.length),o4,some (.ref (σ.length+3)),some (.ref (σ.length+4)),some (keyD [x0,y0]),some (qD (c x0 y0) 1),some (.int (-1)),o10,o11,o12] S
    = exS (evCall FT W (k+2)) W (.seq (.set (.var 5) (.var 7) (.var 8)) (.seq (.expr (.pop1 (.var 6) (.var 7))) (.cont))) [f0,j,some lexS,some (.ref σ.length),o4,some (.ref (σ.length+3)),some (.ref (σ.length+4)),some (keyD [x0,y0]),some (qD (c x0 y0) 1),some (.int (-1)),o10,o11,o12] S:=fun S=>by
   simp[exS,evT,ev,cmpD,truthD]
  rw[hx]
  have hg:=PolI.val pl x0 y0
  rw[if_neg h0] at hg
  refine seq_next (l1:=[f0,j,some lexS,some (.ref σ.length),o4,some (.ref (σ.length+3)),some (.ref (σ.length+4)),some (keyD [x0,y0]),some (qD (c x0 y0) 1),some (.int (-1)),o10,o11,o12]) (σ1:=σ++[.list [.tup [keyD [1,e],v]] 0,q,Q,.dict (dput rs [x0,y0] (qD (c x0 y0) 1)) (wr+1),.dict ls wl]) ?_
   (seq_next (l1:=[f0,j,some lexS,some (.ref σ.length),o4,some (.ref (σ.length+3)),some (.ref (σ.length+4)),some (keyD [x0,y0]),some (qD (c x0 y0) 1),some (.int (-1)),o10,o11,o12]) (σ1:=σ++[.list [.tup [keyD [1,e],v]] 0,q,Q,.dict (dput rs [x0,y0] (qD (c x0 y0) 1)) (wr+1),.dict (ddel ls [x0,y0]) (wl+1)]) ?_ rfl)
  ·have h3:(σ++[.list [.tup [keyD [1,e],v]] 0,q,Q,.dict rs wr,.dict ls wl])[σ.length+3]?=some (.dict rs wr):=by simp
   have hs:=set_3 σ (.list [.tup [keyD [1,e],v]] 0) q Q (.dict rs wr) (.dict ls wl) (.dict (dput rs [x0,y0] (qD (c x0 y0) 1)) (wr+1))
   simp only[keyD,List.map_cons,List.map_nil] at h3 hs ⊢
   simp[exS,ev,setD,h3,ints?,br,hs]
  ·have h3:(σ++[.list [.tup [keyD [1,e],v]] 0,q,Q,.dict (dput rs [x0,y0] (qD (c x0 y0) 1)) (wr+1),.dict ls wl])[σ.length+4]?=some (.dict ls wl):=by simp
   have hs:=set_4 σ (.list [.tup [keyD [1,e],v]] 0) q Q (.dict (dput rs [x0,y0] (qD (c x0 y0) 1)) (wr+1)) (.dict ls wl) (.dict (ddel ls [x0,y0]) (wl+1))
   simp only[keyD,List.map_cons,List.map_nil] at h3 hs ⊢
   simp[exS,ev,isDct,h3,ints?,bl,hs,hg]
def es7:Es:=[([0,2],qD 1 1),([0,0],qD 7 1)]
def c7:Cf:=upd (upd (fun _ _=>0) 0 2 1) 0 0 7
theorem pol7:PolI c7 es7:=by
 have:=(Pol.nil (n:=1) (d:=1)).put (x:=0) (y:=2) (v:=1) (by decide) |>.put (x:=0) (y:=0) (v:=7) (by decide)
 rw[Int.mul_one,Int.mul_one,ratD_one,ratD_one] at this
 exact this
theorem mvdivide_no {j wj bi wb i wi:Nat} {p:Par} {bs:Es} (hW:2^30≤W) (ok:p.Ok) (hj:σ[j]?=some (.list [.ref bi] wj)) (hb:σ[bi]?=some (.dict bs wb)) (pb:PolI (T p dlt) bs)
  (hi:σ[i]?=some (.dict es7 wi)) :
  ∃σ' rs w,evCall FT W (k+8) f_mvdivide [.ref i,.ref j,lexS] σ=some (.tup [.ref (σ.length+2),.ref (σ.length+3)],σ')∧Ext σ σ'∧σ'[σ.length+3]?=some (.dict rs w)∧rs≠[]∧rs.length<LIM:=by
 have h1:=skip_turn (W:=W) (k:=k+5) (σ:=σ) (e:=p.e) (x0:=0) (y0:=2) (v:=qD 1 1) (ls:=es7) (rs:=[]) (q:=.dict [] 0) (Q:=.list [.ref (σ.length+1)] 0) (wl:=0) (wr:=0) (f0:=some (.ref i)) (j:=some (.ref j)) (o4:=some (.ref (σ.length+2))) (o7:=none) (o8:=none) (o9:=none) (o10:=none) (o11:=none) (o12:=none)
  pol7 (by decide) (by decide) (by decide) (fun x y h=>by
   unfold c7 upd at h
   unfold lexLe
   by_cases h1:x=0∧y=0
   ·omega
   ·rw[if_neg h1] at h
    by_cases h2:x=0∧y=2
    ·omega
    ·rw[if_neg h2] at h;exact absurd rfl h) (by omega)
 have p2:=pol7.del (x:=0) (y:=2)
 have h2:=skip_turn (W:=W) (k:=k+5) (σ:=σ) (e:=p.e) (x0:=0) (y0:=0) (v:=qD 1 1) (ls:=ddel es7 [0,2]) (rs:=dput [] [0,2] (qD (c7 0 2) 1)) (q:=.dict [] 0) (Q:=.list [.ref (σ.length+1)] 0) (wl:=0+1) (wr:=0+1) (f0:=some (.ref i)) (j:=some (.ref j)) (o4:=some (.ref (σ.length+2))) (o7:=some (keyD [0,2])) (o8:=some (qD (c7 0 2) 1)) (o9:=some (.int (-1))) (o10:=none) (o11:=none) (o12:=none)
  p2 (by decide) (by decide) (by decide) (fun x y h=>by
   unfold c7 upd at h
   unfold lexLe
   by_cases h1:x=0∧y=2
   ·rw[if_pos h1] at h;exact absurd rfl h
   ·rw[if_neg h1] at h
    by_cases h2:x=0∧y=0
    ·omega
    ·rw[if_neg h2,if_neg h1] at h;exact absurd rfl h) (by omega)
 have hle:ddel (ddel es7 [0,2]) [0,0]=[]:=by decide
 rw[hle] at h2
 generalize hrs:dput (dput [] [0,2] (qD (c7 0 2) 1)) [0,0] (qD (upd c7 0 2 0 0 0) 1)=rs at h2
 have hrs1:rs≠[]:=by rw[←hrs];decide
 have hrs2:rs.length<LIM:=by rw[←hrs];decide
 refine⟨σ++[.list [.tup [keyD [1,p.e],qD 1 1]] 0,.dict [] 0,.list [.ref (σ.length+1)] 0,.dict rs (0+1+1),.dict [] (0+1+1)],rs,0+1+1,?_,Ext.app _ _,by simp,hrs1,hrs2⟩
 obtain⟨W',hW'⟩:∃w,W=w+3:=⟨W-3,by omega⟩
 refine call_ret (fn:=⟨3,13,b_mvdivide⟩) rfl rfl (l:=[some (.ref i),some (.ref j),some lexS,some (.ref σ.length),some (.ref (σ.length+2)),some (.ref (σ.length+3)),some (.ref (σ.length+4)),some (keyD [0,0]),some (qD (upd c7 0 2 0 0 0) 1),some (.int (-1)),none,none,none])
  (divide_head (k:=k+5) ok hj hb pb hi (by decide) (by decide +kernel) (seq_next (l1:=[some (.ref i),some (.ref j),some lexS,some (.ref σ.length),some (.ref (σ.length+2)),some (.ref (σ.length+3)),some (.ref (σ.length+4)),some (keyD [0,0]),some (qD (upd c7 0 2 0 0 0) 1),some (.int (-1)),none,none,none])
   (σ1:=σ++[.list [.tup [keyD [1,p.e],qD 1 1]] 0,.dict [] 0,.list [.ref (σ.length+1)] 0,.dict rs (0+1+1),.dict [] (0+1+1)]) ?_ ?_))
 ·show whileGo (evT (evCall FT W (k+7)) divTest) (exS (evCall FT W (k+7)) W divBody) W _ _=_
  rw[show whileGo (evT (evCall FT W (k+7)) divTest) (exS (evCall FT W (k+7)) W divBody) W=whileGo (evT (evCall FT W (k+7)) divTest) (exS (evCall FT W (k+7)) W divBody) (W'+3) by rw[←hW']]
  have ht:∀(ls:Es) (w w3:Nat) (rs:Es) (o7 o8 o9:Option D),ls.length<LIM→evT (evCall FT W (k+7)) divTest [some (.ref i),some (.ref j),some lexS,some (.ref σ.length),some (.ref (σ.length+2)),some (.ref (σ.length+3)),some (.ref (σ.length+4)),o7,o8,o9,none,none,none] (σ++[.list [.tup [keyD [1,p.e],qD 1 1]] 0,.dict [] 0,.list [.ref (σ.length+1)] 0,.dict rs w3,.dict ls w])
    = some (decide (0<ls.length),σ++[.list [.tup [keyD [1,p.e],qD 1 1]] 0,.dict [] 0,.list [.ref (σ.length+1)] 0,.dict rs w3,.dict ls w]):=fun ls w w3 rs o7 o8 o9 hl=>by
   have hg:(σ++[.list [.tup [keyD [1,p.e],qD 1 1]] 0,.dict [] 0,.list [.ref (σ.length+1)] 0,.dict rs w3,.dict ls w])[σ.length+4]?=some (.dict ls w):=by simp
   simp[evT,ev,lenD,hg,hl,cmpD,truthD]
  rw[while_step (fl:=.cont) (ht es7 0 0 [] none none none (by decide)) h1 (by simp),while_step (fl:=.cont) (ht (ddel es7 [0,2]) _ _ _ _ _ _ (by decide)) h2 (by simp)]
  exact while_stop (ht [] _ _ _ _ _ _ (by decide))
 ·simp[exS,ev,evs,LIM]
theorem mvexact_no {bi i wi:Nat} {p:Par} (hW:2^30≤W) (ok:p.Ok) (hb:IsPol 1 1 (T p dlt) bi σ) (hi:σ[i]?=some (.dict es7 wi)) :
  ∃σ',evCall FT W (k+9) f_mvexact [.ref i,.ref bi] σ=some (.none,σ')∧Ext σ σ':=by
 obtain⟨bs,wb,hb,pb⟩:=hb
 obtain⟨σ2,rs,w,hd,e2,g3,hne,hrl⟩:=mvdivide_no (k:=k) (σ:=σ++[.list [.ref bi] 0]) hW ok (get_new _ _) (get_old hb) pb (get_old hi)
 have hlen:(σ++[AO.list [.ref bi] 0]).length=σ.length+1:=by simp
 rw[hlen] at hd g3
 generalize hσ:σ++[AO.list [.ref bi] 0]=σ1 at *
 have e1:Ext σ σ1:=by rw[←hσ];exact Ext.app _ _
 have hl:Lead (0+1) (0+p.e) (T p dlt):=lead_dlt.T ok
 have hbl:bs.length<LIM:=pb.len ((supp_dlt.T ok).box (by omega))
 have hbs:bs≠[]:=pb.ne_nil (x:=0+1) (y:=0+p.e) (by rw[hl.1];decide)
 have hbz:((bs.length:Int)==0)=false:=by simpa using hbs
 have hrz:((rs.length:Int)==0)=false:=by simpa using hne
 refine⟨σ2,?_,e1.trans e2⟩
 refine call_ret (fn:=⟨2,4,b_mvexact⟩) rfl rfl (l:=[some (.ref i),some (.ref bi),some (.ref (σ.length+1+2)),some (.ref (σ.length+1+3))])
  (seq_next (l1:=[some (.ref i),some (.ref bi),none,none]) (σ1:=σ) ?_ (seq_next (l1:=[some (.ref i),some (.ref bi),some (.ref (σ.length+1+2)),some (.ref (σ.length+1+3))]) (σ1:=σ2) ?_ ?_))
 ·simp[exS,evT,ev,lenD,hb,hbl,cmpD,eqD,CF,truthD,hbz]
 ·simp[exS,ev,evs,evL,LIM,hσ,hd,bindT]
 ·simp[exS,ev,lenD,g3,hrl,cmpD,eqD,CF,truthD,hrz]
end
theorem ratD_nat (t:Int) {dn:Nat} (h:0<dn):ratD t dn=qD (t/(Int.gcd t dn:Nat)) ((dn/Int.gcd t dn:Nat):Int):=by
 rw[ratD_pos (by omega),Int.natCast_ediv]
theorem ratD_cop {n:Int} {dn:Nat} (h:0<dn) (hg:Int.gcd n dn=1):ratD n dn=qD n dn:=by
 rw[ratD_nat n h,hg];simp
theorem lcm_eq (B q:Nat):B/Nat.gcd B q*q=Nat.lcm B q:=by
 rw[Nat.lcm,Nat.div_mul_right_comm (Nat.gcd_dvd_left B q)]
section
variable {W k:Nat} {σ:St}
theorem mvscale_call {n d u v:Int} {c:Cf} {es:Es} {i w:Nat} (hW:2^30≤W) (hd:0<d) (hd':d<2^15) (hu:u≠0) (hu':u.natAbs<2^15) (hv:0<v) (hv':v<2^15) (hn:n*u=d*v) (p:Pol n d c es) (b:Box c) (hi:σ[i]?=some (.dict es w)) :
  ∃gs,evCall FT W (k+4) f_mvscale [.ref i,qD u v] σ=some (.ref σ.length,σ++[.dict gs 0])∧PolI c gs:=by
 have hval:∀x y,c x y≠0→evCall FT W (k+3) f_rmul [ratD (c x y*n) d,qD u v] σ=some (qD (c x y) 1,σ):=fun x y hc=>by
  obtain⟨p1,q1,e1,o1,l1,s1,x1⟩:=ratD_any (c x y*n) hd
  have hq:0<q1*v:=Int.mul_pos o1 hv
  have hq':(q1*v).natAbs<2^30:=mul_lt_30 (m:=2^15-1) o1 hv (by omega) (by omega) (by omega)
  rw[e1,rmul_call (.inr (by omega)) (.inr (by omega)) (by omega) hq' (by omega)]
  congr 2
  rw[←ratD_one]
  refine ratD_eq hq (by omega) ?_
  have h1:d*(p1*u)=d*(c x y*(q1*v)):=by
   have h2:d*(p1*u)=(p1*d)*u:=by grind
   rw[h2,x1]
   have h3:c x y*n*q1*u=c x y*q1*(n*u):=by grind
   rw[h3,hn];grind
  have:=Int.eq_of_mul_eq_mul_left (by omega:d≠0) h1
  rw[Int.mul_one];exact this
 refine⟨es.map fun e=>(e.1,qD (c (kx e.1) (ky e.1)) 1),?_,p.mapv (fun e=>qD (c (kx e.1) (ky e.1)) 1) (fun x y=>Iff.rfl) fun x y hc=>by rw[Int.mul_one,ratD_one];rfl⟩
 have h0:(u==0)=false:=by simpa using hu
 refine call_ret (fn:=⟨2,3,b_mvscale⟩) rfl rfl (l:=[some (.ref i),some (qD u v),none]) (seq_next (l1:=[some (.ref i),some (qD u v),none]) (σ1:=σ) ?_ ?_)
 ·simp[exS,evT,ev,eq_pair,h0,truthD]
 ·have hl:=p.len b
  have:=dcomp_map (bind:=bindT [2] false) (test:=fun _ σ=>some (true,σ)) (key:=ev (evCall FT W (k+3)) (.var 2)) (val:=ev (evCall FT W (k+3)) (.call f_rmul (.acons (.idx (.var 0) (.var 2)) (.acons (.var 1) (.anil)))))
   (src:=some (i,w)) (l:=[some (.ref i),some (qD u v),none]) (σ:=σ) (fun e=>e.1) (fun e=>qD (c (kx e.1) (ky e.1)) 1) (fun _=>rfl) (by simp[srcOk,hi,AO.ver]) es [] (fun e he=>?_) p.keysKept (by simpa using hl)
  ·simp only[List.nil_append] at this
   simp only[exS,ev,evI,List.map_cons,List.map_nil,List.cons_append,List.nil_append,List.getElem?_cons_zero,iterOf,hi]
   show(match (match dcompGo (bindT [2] false) (fun _ σ=>some (true,σ)) (ev (evCall FT W (k+3)) (.var 2)) (ev (evCall FT W (k+3)) (.call f_rmul (.acons (.idx (.var 0) (.var 2)) (.acons (.var 1) (.anil))))) (some (i,w)) [some (.ref i),some (qD u v),none] (es.map fun e=>keyD e.1) [] σ with
    |some (es,σ2)=>some (D.ref σ2.length,σ2++[AO.dict es 0])
    |none=>none) with|some (d,σ1)=>some (Fl.ret d,_,σ1)|none=>none)=_
   rw[this]
  ·obtain⟨x,y,rfl,hc⟩:=p.entry he
   have hidx:idxD σ (.ref i) (keyD [x,y])=some (ratD (c x y*n) d):=by simp[idxD,keyD,hi,ints?,p.get,hc]
   have h2:=hval x y hc
   refine⟨[some (.ref i),some (qD u v),some (keyD [x,y])],by simp[bindT],by simp[ev],?_⟩
   simp[ev,evs,hidx,h2,kx,ky]
abbrev wfBody1:XS:=.asg 1 (.bin .mul (.bin .fdiv (.var 1) (.call f_gcd (.acons (.var 1) (.acons (.idx (.idx (.var 0) (.var 3)) (.lit (.int 1))) (.anil))))) (.idx (.idx (.var 0) (.var 3)) (.lit (.int 1))))
abbrev wfBody2:XS:=.asg 2 (.call f_gcd (.acons (.var 2) (.acons (.idx (.call f_rmul (.acons (.idx (.var 0) (.var 3)) (.acons (.tup (.acons (.var 1) (.acons (.lit (.int 1)) (.anil)))) (.anil)))) (.lit (.int 0))) (.anil))))
theorem wf_loop1 {n:Int} {dn:Nat} {c:Cf} {es:Es} {i w:Nat} {o2 o4:Option D} (hW:2^30≤W) (hd:0<dn) (hd':dn<2^15) (hg:Int.gcd n dn=1) (p:Pol n dn c es) (hi:σ[i]?=some (.dict es w)) :
  ∀(suf:Es) (B:Nat) (o3:Option D),(∀e∈suf,e∈es)→B ∣ dn→0<B→
   ∃B' q3,forGo (bindT [3] false) (exS (evCall FT W (k+3)) W wfBody1) (some (i,w)) (suf.map fun e=>keyD e.1) [some (.ref i),some (.int (B:Nat)),o2,o3,o4] σ
    = some (.next,[some (.ref i),some (.int (B':Nat)),o2,q3,o4],σ)∧B' ∣ dn∧B ∣ B'∧(∀e∈suf,c (kx e.1) (ky e.1)=1→dn ∣ B')
 | [],B,o3,_,hB,_=>⟨B,o3,rfl,hB,Nat.dvd_refl _,fun e he=>by cases he⟩
 |e::suf,B,o3,hf,hB,hB0=>by
  obtain⟨x,y,rfl,hc⟩:=p.entry (hf e List.mem_cons_self)
  have hq:=ratD_nat (c x y*n) hd
  have hqd:dn/Int.gcd (c x y*n) dn ∣ dn:=Nat.div_dvd_of_dvd (by have:=Int.gcd_dvd_right (c x y*n) dn;exact Int.natCast_dvd_natCast.mp this)
  have hq0:0<dn/Int.gcd (c x y*n) dn:=Nat.pos_of_dvd_of_pos hqd hd
  generalize (c x y*n)/(Int.gcd (c x y*n) dn:Nat)=pp at hq
  have hone:c x y=1→dn/Int.gcd (c x y*n) dn=dn:=fun h=>by rw[h,Int.one_mul,hg];simp
  generalize dn/Int.gcd (c x y*n) dn=q at *
  have hlc:Nat.lcm B q ∣ dn:=Nat.lcm_dvd hB hqd
  have hl0:0<Nat.lcm B q:=Nat.pos_of_dvd_of_pos hlc hd
  have hqle:q≤dn:=Nat.le_of_dvd hd hqd
  have hBle:B≤dn:=Nat.le_of_dvd hd hB
  have hgle:Nat.gcd B q≤q:=Nat.le_of_dvd hq0 (Nat.gcd_dvd_right _ _)
  have hg0:0<Nat.gcd B q:=Nat.gcd_pos_of_pos_right _ hq0
  obtain⟨B',q3,hl,h1,h2,h3⟩:=wf_loop1 hW hd hd' hg p hi suf (Nat.lcm B q) (some (keyD [x,y])) (fun e he=>hf e (List.mem_cons_of_mem _ he)) hlc hl0
  refine⟨B',q3,?_,h1,Nat.dvd_trans (Nat.dvd_lcm_left _ _) h2,fun e he=>?_⟩
  ·rw[List.map_cons]
   refine(for_next (l1:=[some (.ref i),some (.int (B:Nat)),o2,some (keyD [x,y]),o4]) (l2:=[some (.ref i),some (.int (Nat.lcm B q:Nat)),o2,some (keyD [x,y]),o4]) (σ2:=σ) (by simp[bindT]) ?_ (by simp[srcOk,hi,AO.ver])).trans hl
   have hidx:idxD σ (.ref i) (keyD [x,y])=some (qD pp q):=by simp[idxD,keyD,hi,ints?,p.get,hc,hq]
   have hi1:idxD σ (qD pp q) (.int 1)=some (.int q):=rfl
   have hgc:=gcd_call (W:=W) (n:=k+2) (σ:=σ) (a:=(B:Int)) (b:=(q:Int)) (by simp;omega)
   have hgn:Int.gcd (B:Int) (q:Int)=Nat.gcd B q:=rfl
   rw[hgn] at hgc
   have hgz:((Nat.gcd B q:Nat):Int)≠0:=by omega
   have hgs:((Nat.gcd B q:Nat):Int).natAbs<2^30:=by omega
   have hfd:((B:Int).fdiv ((Nat.gcd B q:Nat):Int))=((B/Nat.gcd B q:Nat):Int):=by rw[Int.fdiv_eq_ediv_of_nonneg _ (by omega),Int.natCast_ediv]
   have hm:(((B/Nat.gcd B q:Nat):Int)*(q:Int))=((Nat.lcm B q:Nat):Int):=by rw[←lcm_eq,Int.natCast_mul]
   have hdv:binD .fdiv (.int B) (.int (Nat.gcd B q:Nat)) σ=some (.int ((B/Nat.gcd B q:Nat):Int),σ):=by
    simp only[binD,hfd];rw[if_pos ⟨hgz,hgs⟩]
   have hmu:binD .mul (.int ((B/Nat.gcd B q:Nat):Int)) (.int (q:Int)) σ=some (.int (Nat.lcm B q:Nat),σ):=by
    simp only[binD,hm];rw[if_pos (.inr (by omega))]
   simp only[exS,ev,evs,List.getElem?_cons_zero,List.getElem?_cons_succ,hidx,hi1,hgc,hdv,hmu]
   rfl
  ·rcases List.mem_cons.mp he with rfl|he
   ·intro h
    rw[hone h] at h2
    exact Nat.dvd_trans (Nat.dvd_lcm_right B dn) h2
   ·exact h3 e he
theorem wf_loop2 {n:Int} {dn:Nat} {c:Cf} {es:Es} {i w:Nat} {o4:Option D} (hW:2^30≤W) (hd:0<dn) (hd':dn<2^15) (hb:∀x y,(c x y*n).natAbs<2^30) (p:Pol n dn c es) (hi:σ[i]?=some (.dict es w)) :
  ∀(suf:Es) (G:Nat) (o3:Option D),(∀e∈suf,e∈es)→n.natAbs ∣ G→
   ∃G' q3,forGo (bindT [3] false) (exS (evCall FT W (k+3)) W wfBody2) (some (i,w)) (suf.map fun e=>keyD e.1) [some (.ref i),some (.int (dn:Nat)),some (.int (G:Nat)),o3,o4] σ
    = some (.next,[some (.ref i),some (.int (dn:Nat)),some (.int (G':Nat)),q3,o4],σ)∧n.natAbs ∣ G'∧G' ∣ G∧(∀e∈suf,c (kx e.1) (ky e.1)=1→G' ∣ n.natAbs)
 | [],G,o3,_,hG=>⟨G,o3,rfl,hG,Nat.dvd_refl _,fun e he=>by cases he⟩
 |e::suf,G,o3,hf,hG=>by
  obtain⟨x,y,rfl,hc⟩:=p.entry (hf e List.mem_cons_self)
  obtain⟨p1,q1,e1,o1,l1,s1,x1⟩:=ratD_any (c x y*n) (b:=(dn:Int)) (by omega)
  have hidx:idxD σ (.ref i) (keyD [x,y])=some (qD p1 q1):=by simp[idxD,keyD,hi,ints?,p.get,hc,e1]
  have hnt:n.natAbs ∣ (c x y*n).natAbs:=by rw[Int.natAbs_mul];exact Nat.dvd_mul_left _ _
  have hone:c x y=1→(c x y*n).natAbs=n.natAbs:=fun h=>by rw[h,Int.one_mul]
  have hbb:=hb x y
  have hr:=rmul_call (W:=W) (n:=k) (σ:=σ) (a:=p1) (b:=q1) (c:=(dn:Int)) (d:=1) (.inr (by omega)) (.inr (by omega)) (by omega) (by rw[Int.mul_one];omega) (by rw[Int.mul_one];omega)
  rw[x1,Int.mul_one,ratD_eq (t':=c x y*n) (b':=1) o1 (by omega) (by omega),ratD_one] at hr
  generalize c x y*n=t at *
  obtain⟨G',q3,hl,h1,h2,h3⟩:=wf_loop2 hW hd hd' hb p hi suf (Nat.gcd G t.natAbs) (some (keyD [x,y])) (fun e he=>hf e (List.mem_cons_of_mem _ he)) (Nat.dvd_gcd hG hnt)
  refine⟨G',q3,?_,h1,Nat.dvd_trans h2 (Nat.gcd_dvd_left _ _),fun e he=>?_⟩
  ·rw[List.map_cons]
   refine(for_next (l1:=[some (.ref i),some (.int (dn:Nat)),some (.int (G:Nat)),some (keyD [x,y]),o4]) (l2:=[some (.ref i),some (.int (dn:Nat)),some (.int (Nat.gcd G t.natAbs:Nat)),some (keyD [x,y]),o4]) (σ2:=σ) (by simp[bindT]) ?_ (by simp[srcOk,hi,AO.ver])).trans hl
   have hi0:idxD σ (qD t 1) (.int 0)=some (.int t):=rfl
   have hgc:=gcd_call (W:=W) (n:=k+2) (σ:=σ) (a:=(G:Int)) (b:=t) (by omega)
   have hgn:Int.gcd (G:Int) t=Nat.gcd G t.natAbs:=rfl
   rw[hgn] at hgc
   simp[exS,ev,evs,hidx,hr,hi0,hgc,LIM]
  ·rcases List.mem_cons.mp he with rfl|he
   ·intro h
    rw[hone h] at h2
    exact Nat.dvd_trans h2 (Nat.gcd_dvd_right _ _)
   ·exact h3 e he
end
theorem cmp_eq_int (a b:Int) (σ:St):cmpD .eq (.int a) (.int b) σ=some (a==b):=rfl
theorem fdiv_m1 (a:Int):a.fdiv (-1) = -a:=by
 rw[Int.fdiv_eq_ediv_of_dvd ⟨-a,by omega⟩];omega
section
variable {W k:Nat} {σ:St}
theorem whole_form_call {n:Int} {dn:Nat} {c:Cf} {i:Nat} {X Y:Int} (hW:2^30≤W) (hd:0<dn) (hd':dn<2^15) (hn:n≠0) (hn':n.natAbs<2^15) (hg:Int.gcd n dn=1) (hb:∀x y,(c x y*n).natAbs<2^30) (bx:Box c) (hl:Lead X Y c)
  (hi:IsPol n dn c i σ) :
  ∃r σ',evCall FT W (k+5) f_whole_form [.ref i] σ=some (.tup [qD n dn,.ref r],σ')∧Ext σ σ'∧σ.length≤r∧IsPol 1 1 c r σ':=by
 obtain⟨es,w,hi,p⟩:=hi
 have hne:es≠[]:=p.ne_nil (x:=X) (y:=Y) (by rw[hl.1];decide)
 have hel:es.length<LIM:=p.len bx
 have hez:((es.length:Int)==0)=false:=by simpa using hne
 have hmem:∃e∈es,c (kx e.1) (ky e.1)=1:=by
  have hgx:=p.get X Y
  rw[if_neg (by rw[hl.1];decide)] at hgx
  exact⟨_,dg_mem hgx,hl.1⟩
 obtain⟨e1,he1,hc1⟩:=hmem
 obtain⟨B,q3,h1,hB1,_,hB2⟩:=wf_loop1 (W:=W) (k:=k+1) (o2:=some (.int 0)) (o4:=none) hW hd hd' hg p hi es 1 none (fun e he=>he) (Nat.one_dvd _) (by omega)
 have hB:B=dn:=Nat.dvd_antisymm hB1 (hB2 e1 he1 hc1)
 subst hB
 obtain⟨G,q3',h2,hG1,_,hG2⟩:=wf_loop2 (W:=W) (k:=k+1) (o4:=none) hW hd hd' hb p hi es 0 q3 (fun e he=>he) (Nat.dvd_zero _)
 have hG:G=n.natAbs:=Nat.dvd_antisymm (hG2 e1 he1 hc1) hG1
 subst hG
 have hlead:=lead_at (W:=W) (k:=k+2) p hi (by rw[hl.1];decide) hl.2
 rw[hl.1,Int.one_mul,ratD_cop hd hg] at hlead
 have hrat:=rat_call (W:=W) (n:=k+2) (σ:=σ) (t:=n) (b:=(B:Int)) (by omega) (by omega) (by omega)
 rw[ratD_cop hd hg] at hrat
 have hrinv:=rinv_call (W:=W) (n:=k+1) (σ:=σ) (a:=n) (b:=(B:Int)) hn (by omega) (by omega)
 have hgc:Int.gcd (B:Int) n=1:=by rw[Int.gcd_comm];exact hg
 have hinv:∃u v:Int,ratD (B:Int) n=qD u v∧u≠0∧u.natAbs<2^15∧0<v∧v<2^15∧n*u=(B:Int)*v:=by
  unfold ratD ratG
  rw[hgc]
  by_cases hp:n>0
  ·rw[if_pos hp]
   refine⟨B,n,by simp,by omega,by omega,by omega,by omega,Int.mul_comm _ _⟩
  ·rw[if_neg hp]
   refine⟨-B,-n,?_,by omega,by omega,by omega,by omega,?_⟩
   ·rw[show(0:Int)-((1:Nat):Int) = -1 by decide,fdiv_m1,fdiv_m1]
   ·grind
 obtain⟨u,v,huv,hu,hu',hv,hv',he⟩:=hinv
 rw[huv] at hrinv
 obtain⟨gs,hsc,pg⟩:=mvscale_call (W:=W) (k:=k) hW (by omega) (by omega) hu hu' hv hv' he p bx hi
 refine⟨σ.length,σ++[.dict gs 0],?_,Ext.app _ _,Nat.le_refl _,⟨gs,0,get_new _ _,pg⟩⟩
 refine call_ret (fn:=⟨1,5,b_whole_form⟩) rfl rfl (l:=[some (.ref i),some (.int (B:Nat)),some (.int (n.natAbs:Nat)),q3',some (qD n B)])
  (seq_next (l1:=[some (.ref i),none,none,none,none]) (σ1:=σ) ?_
  (seq_next (l1:=[some (.ref i),some (.int 1),some (.int 0),none,none]) (σ1:=σ) ?_
  (seq_next (l1:=[some (.ref i),some (.int (B:Nat)),some (.int 0),q3,none]) (σ1:=σ) ?_
  (seq_next (l1:=[some (.ref i),some (.int (B:Nat)),some (.int (n.natAbs:Nat)),q3',none]) (σ1:=σ) ?_
  (seq_next (l1:=[some (.ref i),some (.int (B:Nat)),some (.int (n.natAbs:Nat)),q3',some (qD n B)]) (σ1:=σ) ?_ ?_)))))
 ·simp[exS,evT,ev,lenD,hi,hel,cmpD,eqD,CF,truthD,hez]
 ·simp[exS,ev,evs,bindT,LIM]
 ·rw[for_ev (ds:=es.map fun e=>keyD e.1) (src:=some (i,w)) (σ1:=σ) (by simp[evI,ev,iterOf,hi])]
  exact h1
 ·rw[for_ev (ds:=es.map fun e=>keyD e.1) (src:=some (i,w)) (σ1:=σ) (by simp[evI,ev,iterOf,hi])]
  exact h2
 ·have i1:∀x:D,idxD σ (.tup [x,qD n B]) (.int 1)=some (qD n B):=fun _=>rfl
  have i0:idxD σ (qD n B) (.int 0)=some (.int n):=rfl
  have hx:exS (evCall FT W (k+4)) W (.asg 4 (.call f_rat (.acons (.ite (.cmp .gt (.idx (.idx (.call f_mvlead (.acons (.var 0) (.acons (.lit (.str (Str.ofString "lex"))) (.anil)))) (.lit (.int 1))) (.lit (.int 0))) (.lit (.int 0))) (.var 2) (.neg (.var 2))) (.acons (.var 1) (.anil))))) [some (.ref i),some (.int (B:Nat)),some (.int (n.natAbs:Nat)),q3',none] σ
    = match evCall FT W (k+4) f_rat [.int n,.int (B:Nat)] σ with|some (d,σ1)=>some (.next,[some (.ref i),some (.int (B:Nat)),some (.int (n.natAbs:Nat)),q3',some d],σ1)|none=>none:=by
   by_cases hp:n>0
   ·have:((n.natAbs:Nat):Int)=n:=by omega
    have hp':0<n:=hp
    simp only[exS,ev,evs,List.getElem?_cons_zero,List.getElem?_cons_succ,hlead,i1,i0,cmpD,truthD,decide_eq_true hp,this]
    rfl
   ·have : -((n.natAbs:Nat):Int)=n:=by omega
    have hp':decide (n>0)=false:=by simpa using hp
    simp only[exS,ev,evs,List.getElem?_cons_zero,List.getElem?_cons_succ,hlead,i1,i0,cmpD,truthD,hp',this]
    rfl
  rw[hx,hrat]
 ·simp[exS,ev,evs,hrinv,hsc,LIM]
theorem whole_form_nil {i w:Nat} (hi:σ[i]?=some (.dict [] w)):evCall FT W (k+1) f_whole_form [.ref i] σ=some (.tup [qD 0 1,.ref σ.length],σ++[.dict [] 0]):=by
 refine call_ret (fn:=⟨1,5,b_whole_form⟩) rfl rfl (l:=[some (.ref i),none,none,none,none]) (seq_ret ?_)
 simp[exS,evT,ev,evs,lenD,hi,LIM,cmpD,eqD,CF,truthD,dispE]
theorem num_call {c:Cf} {es:Es} {i w:Nat} {n d:Int} (p:Pol n d c es) (hi:σ[i]?=some (.dict es w)) (bx:Box c):evCall FT W (k+1) f_is_number_form [.ref i] σ=some (.bool ((es.filter fun e=>decide (kx e.1+ky e.1>0)).length==0),σ):=by
 refine call_ret (fn:=⟨1,2,b_is_number_form⟩) rfl rfl (l:=[some (.ref i),none]) ?_
 have hc:=comp_filter (bind:=bindT [1] false) (test:=evT (evCall FT W k) (.cmp .gt (.sum (.var 1)) (.lit (.int 0)))) (elt:=ev (evCall FT W k) (.var 1)) (src:=some (i,w)) (l:=[some (.ref i),none]) (σ:=σ) (fun e=>keyD e.1) (fun e=>decide (kx e.1+ky e.1>0)) (fun e=>keyD e.1) (by simp[srcOk,hi,AO.ver]) es (fun e he=>by
  obtain⟨x,y,rfl,_⟩:=p.entry he
  refine⟨[some (.ref i),some (keyD [x,y])],by simp[bindT],?_,fun _=>by simp[ev]⟩
  simp[evT,ev,keyD,sumD,ints?,cmpD,truthD,kx,ky])
 have hl:(es.map fun e=>keyD e.1).length<LIM:=by rw[List.length_map];exact p.len bx
 have hl2:((es.filter fun e=>decide (kx e.1+ky e.1>0)).map fun e=>keyD e.1).length<LIM:=by
  rw[List.length_map];exact Nat.lt_of_le_of_lt (List.length_filter_le _ _) (p.len bx)
 have hit:evI (evCall FT W k) (.ix (.var 0)) [some (.ref i),none] σ=some (es.map fun e=>keyD e.1,some (i,w),σ):=by simp[evI,ev,iterOf,hi]
 have hevL:evL (evCall FT W k) (.lcomp (.var 1) [1] false (.ix (.var 0)) (some (.cmp .gt (.sum (.var 1)) (.lit (.int 0))))) [some (.ref i),none] σ=some ((es.filter fun e=>decide (kx e.1+ky e.1>0)).map (fun e=>keyD e.1),σ):=by
  rw[evL,hit]
  show(if (es.map fun e=>keyD e.1).length<LIM then compGo (bindT [1] false) (evT (evCall FT W k) (.cmp .gt (.sum (.var 1)) (.lit (.int 0)))) _ _ _ _ _ else none)=_
  rw[if_pos hl,hc]
 show exS (evCall FT W k) W (.ret (.cmp .eq (.lenOf (.lcomp (.var 1) [1] false (.ix (.var 0)) (some (.cmp .gt (.sum (.var 1)) (.lit (.int 0)))))) (.lit (.int 0)))) [some (.ref i),none] σ=_
 rw[List.length_map] at hl2
 simp only[exS,ev,hevL,List.length_map,hl2,if_true,cmp_eq_int]
 generalize (es.filter fun e=>decide (kx e.1+ky e.1>0)).length=m
 have:((m:Int)==0)=(m==0):=by rw[Bool.eq_iff_iff];simp
 rw[this]
theorem num_no {c:Cf} {i:Nat} {n d:Int} {x y:Int} (hi:IsPol n d c i σ) (bx:Box c) (h:c x y≠0) (hp:0<x+y):evCall FT W (k+1) f_is_number_form [.ref i] σ=some (.bool false,σ):=by
 obtain⟨es,w,hi,p⟩:=hi
 rw[num_call p hi bx]
 have hg:=p.get x y
 rw[if_neg h] at hg
 have hm:=dg_mem hg
 have:([x,y],ratD (c x y*n) d)∈es.filter fun e=>decide (kx e.1+ky e.1>0):=by
  rw[List.mem_filter];exact⟨hm,by simpa [kx,ky] using hp⟩
 have hne:=List.length_pos_of_mem this
 have:((es.filter fun e=>decide (kx e.1+ky e.1>0)).length==0)=false:=by simpa using Nat.pos_iff_ne_zero.mp hne
 rw[this]
theorem num_yes {c:Cf} {i:Nat} {n d:Int} (hi:IsPol n d c i σ) (h:∀x y,c x y≠0→x=0∧y=0):evCall FT W (k+1) f_is_number_form [.ref i] σ=some (.bool true,σ):=by
 obtain⟨es,w,hi,p⟩:=hi
 rw[num_call p hi (fun x y q=>by have:=h x y q;omega)]
 have:(es.filter fun e=>decide (kx e.1+ky e.1>0))=[]:=by
  rw[List.filter_eq_nil_iff]
  intro e he
  obtain⟨x,y,rfl,hc⟩:=p.entry he
  obtain⟨rfl,rfl⟩:=h x y hc
  simp[kx,ky]
 rw[this];rfl
end
def zat (z:List Int) (p:Int):Int:=if 0≤p then z.getD p.toNat 0 else 0
theorem zat_nil (p:Int):zat [] p=0:=by unfold zat;split<;>simp
theorem zat_cons (x:Int) (z:List Int) (p:Int):zat (x::z) p=(if p=0 then x else 0)+zat z (p-1):=by
 unfold zat
 by_cases h:0≤p
 ·by_cases h0:p=0
  ·subst h0;simp
  ·obtain⟨m,rfl⟩:∃m:Nat,p=(m:Int)+1:=⟨(p-1).toNat,by omega⟩
   rw[if_pos h,if_neg h0,if_pos (by omega),show((m:Int)+1).toNat=m+1 by omega,show((m:Int)+1-1).toNat=m by omega]
   simp
 ·rw[if_neg h,if_neg (by omega),if_neg (by omega)];rfl
theorem zat_set {z:List Int} {m:Nat} (hm:m<z.length) (v p:Int):zat (z.set m v) p=if p=(m:Int) then v else zat z p:=by
 unfold zat
 by_cases h:0≤p
 ·by_cases h0:p=(m:Int)
  ·subst h0;simp[hm,List.getElem?_set]
  ·have:m≠p.toNat:=by omega
   simp[h,h0,List.getElem?_set,this]
 ·rw[if_neg h,if_neg h,if_neg (by omega)]
theorem zat_lt {z:List Int} {m:Nat} (hm:m<z.length):z[m]?=some (zat z m):=by
 unfold zat
 rw[if_pos (by omega),Int.toNat_natCast,List.getElem?_eq_getElem hm]
 simp[hm]
theorem zat_ge {z:List Int} {p:Int} (h:(z.length:Int)≤p):zat z p=0:=by
 unfold zat
 split
 ·rw[List.getD_eq_getElem?_getD,List.getElem?_eq_none (by omega)];rfl
 ·rfl
theorem zat_ext {a b:List Int} (hl:a.length=b.length) (h:∀p,zat a p=zat b p):a=b:=by
 apply List.ext_getElem?
 intro m
 by_cases hm:m<a.length
 ·rw[zat_lt hm,zat_lt (by omega),h]
 ·rw[List.getElem?_eq_none (by omega),List.getElem?_eq_none (by omega)]
theorem zat_rep (n:Nat) (p:Int):zat (List.replicate n 0) p=0:=by
 unfold zat
 split
 ·by_cases h:p.toNat<n<;>simp[List.getElem?_replicate,h]
 ·rfl
def zs:List Int→List Int→Int→Int
 | [],_,_=>0
 |x::a,b,p=>x*zat b p+zs a b (p-1)
def IsRow (z:List Int) (r:Nat) (σ:St):Prop:=∃w,σ[r]?=some (.list (z.map .int) w)
theorem IsRow.ext {z:List Int} {r:Nat} {a b:St} (h:IsRow z r a) (e:Ext a b):IsRow z r b:=by
 obtain⟨w,h⟩:=h
 exact⟨w,e.get h⟩
section
variable {W k:Nat} {σ:St}
abbrev zmBody:XS:=.aug (.var 2) (.bin .add (.var 3) (.var 5)) .add (.bin .mul (.var 4) (.var 6))
theorem zm_inner {i wj j:Nat} {db:List D} {o0 o1:Option D} {x:Int} (hj:σ[j]?=some (.list db wj)) :
  ∀(suf:List Int) (j0:Nat) (z:List Int) (w:Nat) (o5 o6:Option D),i+j0+suf.length≤z.length→z.length<1048576→(∀y∈suf,y.natAbs<2^63)→
   ∃z' w' q5 q6,forGo (bindT [5,6] true) (exS (evCall FT W k) W zmBody) (some (j,wj)) (enumD j0 (suf.map .int)) [o0,o1,some (.ref σ.length),some (.int (i:Nat)),some (.int x),o5,o6] (σ++[.list (z.map .int) w])
    = some (.next,[o0,o1,some (.ref σ.length),some (.int (i:Nat)),some (.int x),q5,q6],σ++[.list (z'.map .int) w'])∧z'.length=z.length∧∀p,zat z' p=zat z p+x*zat suf (p-i-j0)
 | [],j0,z,w,o5,o6,_,_,_=>⟨z,w,o5,o6,rfl,rfl,fun p=>by rw[zat_nil];simp⟩
 |y::suf,j0,z,w,o5,o6,hl,hz,hy=>by
  simp only[List.length_cons] at hl
  have hm:i+j0<z.length:=by omega
  obtain⟨z',w',q5,q6,hlp,h1,h2⟩:=zm_inner (i:=i) (o0:=o0) (o1:=o1) (x:=x) hj suf (j0+1) (z.set (i+j0) (zat z ((i+j0:Nat):Int)+x*y)) (w+1) (some (.int (j0:Nat))) (some (.int y)) (by rw[List.length_set];omega) (by rw[List.length_set];omega) (fun y hy'=>hy y (List.mem_cons_of_mem _ hy'))
  refine⟨z',w',q5,q6,?_,by rw[h1,List.length_set],fun p=>?_⟩
  ·rw[List.map_cons]
   show forGo _ _ _ (.tup [.int (j0:Nat),.int y]::enumD (j0+1) (suf.map .int)) _ _=_
   refine(for_next (l1:=[o0,o1,some (.ref σ.length),some (.int (i:Nat)),some (.int x),some (.int (j0:Nat)),some (.int y)]) (by simp[bindT]) ?_ (by simp[srcOk,get_old hj,AO.ver])).trans hlp
   have hm1:MOk x y:=.inr (hy y List.mem_cons_self)
   have h3:(σ++[AO.list (z.map .int) w])[σ.length]?=some (.list (z.map .int) w):=get_new _ _
   have hs:(σ++[AO.list (z.map .int) w]).set σ.length (.list ((z.set (i+j0) (zat z ((i+j0:Nat):Int)+x*y)).map .int) (w+1))=_:=set_new _ _ _
   have hk:(0:Int)≤(i:Int)+(j0:Int)∧(i:Int)+(j0:Int)<(LIM:Int):=by
    have:LIM=1048576:=rfl
    omega
   have hkn:((i:Int)+(j0:Int)).toNat=i+j0:=by omega
   have hix:idxD (σ++[AO.list (z.map .int) w]) (.ref σ.length) (.int ((i:Int)+(j0:Int)))=some (.int (zat z ((i+j0:Nat):Int))):=by
    simp only[idxD,h3]
    rw[if_pos hk,hkn,List.getElem?_map,zat_lt hm];rfl
   have hset:setD (σ++[AO.list (z.map .int) w]) (.ref σ.length) (.int ((i:Int)+(j0:Int))) (.int (zat z ((i+j0:Nat):Int)+x*y))=some (σ++[.list ((z.set (i+j0) (zat z ((i+j0:Nat):Int)+x*y)).map .int) (w+1)]):=by
    simp only[setD,h3]
    rw[if_pos ⟨hk.1,hk.2,by rw[hkn,List.length_map];exact hm⟩,hkn,←List.map_set,hs]
   simp only[exS,ev,List.getElem?_cons_zero,List.getElem?_cons_succ,binD,hix,hm1,if_true,hset]
  ·rw[h2,zat_set hm,zat_cons,show p-(i:Int)-((j0+1:Nat):Int)=p-i-j0-1 by omega]
   by_cases hp:p=((i+j0:Nat):Int)
   ·rw[if_pos hp,if_pos (by omega),←hp];grind
   ·rw[if_neg hp,if_neg (by omega)];grind
theorem zm_outer {ia wi j wj:Nat} {da:List D} {b:List Int} (hi:σ[ia]?=some (.list da wi)) (hj:σ[j]?=some (.list (b.map .int) wj)) (hb:∀y∈b,y.natAbs<2^63) :
  ∀(suf:List Int) (i0:Nat) (z:List Int) (w:Nat) (o3 o4 o5 o6:Option D),i0+suf.length+b.length≤z.length+1→z.length<1048576→
   ∃z' w' q3 q4 q5 q6,forGo (bindT [3,4] true) (exS (evCall FT W k) W (.ifs (.cmp .ne (.var 4) (.lit (.int 0))) (.for_ [5,6] true (.ienum (.var 1)) zmBody) (.nil))) (some (ia,wi)) (enumD i0 (suf.map .int)) [some (.ref ia),some (.ref j),some (.ref σ.length),o3,o4,o5,o6] (σ++[.list (z.map .int) w])
    = some (.next,[some (.ref ia),some (.ref j),some (.ref σ.length),q3,q4,q5,q6],σ++[.list (z'.map .int) w'])∧z'.length=z.length∧∀p,zat z' p=zat z p+zs suf b (p-i0)
 | [],i0,z,w,o3,o4,o5,o6,_,_=>⟨z,w,o3,o4,o5,o6,rfl,rfl,fun p=>by simp[zs]⟩
 |x::suf,i0,z,w,o3,o4,o5,o6,hl,hz=>by
  simp only[List.length_cons] at hl
  have hstep:∃z1 w1 q5 q6,exS (evCall FT W k) W (.ifs (.cmp .ne (.var 4) (.lit (.int 0))) (.for_ [5,6] true (.ienum (.var 1)) zmBody) (.nil)) [some (.ref ia),some (.ref j),some (.ref σ.length),some (.int (i0:Nat)),some (.int x),o5,o6] (σ++[.list (z.map .int) w])
    = some (.next,[some (.ref ia),some (.ref j),some (.ref σ.length),some (.int (i0:Nat)),some (.int x),q5,q6],σ++[.list (z1.map .int) w1])∧z1.length=z.length∧∀p,zat z1 p=zat z p+x*zat b (p-i0):=by
   by_cases hx:x=0
   ·refine⟨z,w,o5,o6,?_,rfl,fun p=>by rw[hx];simp⟩
    simp[exS,evT,ev,cmpD,eqD,CF,truthD,hx]
   ·obtain⟨z1,w1,q5,q6,h1,h2,h3⟩:=zm_inner (W:=W) (k:=k) (i:=i0) (o0:=some (.ref ia)) (o1:=some (.ref j)) (x:=x) hj b 0 z w o5 o6 (by omega) hz hb
    refine⟨z1,w1,q5,q6,?_,h2,fun p=>by rw[h3];simp⟩
    have hx':(x==0)=false:=by simpa using hx
    rw[←h1,show exS (evCall FT W k) W (.ifs (.cmp .ne (.var 4) (.lit (.int 0))) (.for_ [5,6] true (.ienum (.var 1)) zmBody) (.nil)) [some (.ref ia),some (.ref j),some (.ref σ.length),some (.int (i0:Nat)),some (.int x),o5,o6] (σ++[.list (z.map .int) w])=exS (evCall FT W k) W (.for_ [5,6] true (.ienum (.var 1)) zmBody) [some (.ref ia),some (.ref j),some (.ref σ.length),some (.int (i0:Nat)),some (.int x),o5,o6] (σ++[.list (z.map .int) w]) by
     rw[exS]
     simp[evT,ev,cmpD,eqD,CF,truthD,hx']]
    exact for_ev (by simp[evI,ev,get_old hj])
  obtain⟨z1,w1,q5,q6,h1,h2,h3⟩:=hstep
  obtain⟨z',w',q3',q4',q5',q6',hlp,h4,h5⟩:=zm_outer hi hj hb suf (i0+1) z1 w1 (some (.int (i0:Nat))) (some (.int x)) q5 q6 (by omega) (by omega)
  refine⟨z',w',q3',q4',q5',q6',?_,by omega,fun p=>?_⟩
  ·rw[List.map_cons]
   show forGo _ _ _ (.tup [.int (i0:Nat),.int x]::enumD (i0+1) (suf.map .int)) _ _=_
   exact(for_next (by simp[bindT]) h1 (by simp[srcOk,get_old hi,AO.ver])).trans hlp
  ·rw[h5,h3,show p-((i0+1:Nat):Int)=p-i0-1 by omega]
   simp only[zs]
   omega
theorem zmul_call {i j:Nat} {a b:List Int} (hi:IsRow a i σ) (hj:IsRow b j σ) (hb:∀y∈b,y.natAbs<2^63) (ha0:a≠[]) (hb0:b≠[]) (hl:a.length+b.length<1048576) :
  ∃z w,evCall FT W (k+1) f_zmul [.ref i,.ref j] σ=some (.ref σ.length,σ++[.list (z.map .int) w])∧z.length+1=a.length+b.length∧∀p,zat z p=zs a b p:=by
 obtain⟨wi,hi⟩:=hi
 obtain⟨wj,hj⟩:=hj
 have la:0<a.length:=List.length_pos_iff.mpr ha0
 have lb:0<b.length:=List.length_pos_iff.mpr hb0
 obtain⟨z,w,q3,q4,q5,q6,h1,h2,h3⟩:=zm_outer (W:=W) (k:=k) hi hj hb a 0 (List.replicate (a.length+b.length-1) 0) 0 none none none none (by rw[List.length_replicate];omega) (by rw[List.length_replicate];omega)
 rw[List.length_replicate] at h2
 refine⟨z,w,?_,by omega,fun p=>by rw[h3,zat_rep];simp⟩
 have hla:a.length<1048576:=by omega
 have hlb:b.length<1048576:=by omega
 have ea:((a.length:Int)==0)=false:=by simpa using ha0
 have eb:((b.length:Int)==0)=false:=by simpa using hb0
 refine call_ret (fn:=⟨2,7,b_zmul⟩) rfl rfl (l:=[some (.ref i),some (.ref j),some (.ref σ.length),q3,q4,q5,q6])
  (seq_next (l1:=[some (.ref i),some (.ref j),none,none,none,none,none]) (σ1:=σ) ?_
  (seq_next (l1:=[some (.ref i),some (.ref j),some (.ref σ.length),none,none,none,none]) (σ1:=σ++[.list ((List.replicate (a.length+b.length-1) (0:Int)).map .int) 0]) ?_
  (seq_next (l1:=[some (.ref i),some (.ref j),some (.ref σ.length),q3,q4,q5,q6]) (σ1:=σ++[.list (z.map .int) w]) ?_ ?_)))
 ·simp[exS,evT,ev,lenD,hi,hj,LIM,hla,hlb,cmp_eq_int,truthD,ea,eb]
 ·have hn:((a.length:Int)+(b.length:Int)-1).natAbs<1048576:=by omega
  have hn2:((a.length:Int)+(b.length:Int)-1).toNat=a.length+b.length-1:=by omega
  simp[exS,ev,lenD,hi,hj,LIM,hla,hlb,binD,hn,hn2]
 ·rw[for_ev (ds:=enumD 0 (a.map .int)) (src:=some (i,wi)) (σ1:=σ++[.list ((List.replicate (a.length+b.length-1) (0:Int)).map .int) 0]) (by simp[evI,ev,get_old hi])]
  exact h1
 ·simp[exS,ev]
end
theorem cmp_ne_int (a b:Int) (σ:St):cmpD .ne (.int a) (.int b) σ=some (!(a==b)):=rfl
theorem pos_iff {x y p w:Int} (h0:0≤x) (h1:x<w):p=x+w*y↔(p%w=x∧p/w=y):=by
 have hw:0<w:=by omega
 constructor
 ·rintro rfl
  rw[Int.add_mul_emod_self_left,Int.emod_eq_of_lt h0 h1,Int.add_mul_ediv_left _ _ (by omega),Int.ediv_eq_zero_of_lt h0 h1]
  exact⟨rfl,by omega⟩
 ·rintro⟨rfl,rfl⟩
  have:=Int.emod_add_mul_ediv p w
  omega
def fl (c:Cf) (w p:Int):Int:=if 0≤p then c (p%w) (p/w) else 0
def KeyW (w:Int) (es:Es):Prop:=∀e∈es,∃x y,e.1=[x,y]∧0≤x∧x<w∧0≤y∧y≤8
def posOf (w:Int) (e:List Int×D):Int:=kx e.1+w*ky e.1
def sizeOf' (w:Int) (es:Es) (m:Int):Int:=es.foldl (fun m e=>if posOf w e+1>m then posOf w e+1 else m) m
theorem sizeW_ge (w:Int):∀(es:Es) (m:Int),m≤sizeOf' w es m∧∀e∈es,posOf w e<sizeOf' w es m
 | [],m=>⟨Int.le_refl _,fun e he=>by cases he⟩
 |e::es,m=>by
  have hm:posOf w e+1≤(if posOf w e+1>m then posOf w e+1 else m)∧m≤(if posOf w e+1>m then posOf w e+1 else m):=by split<;>omega
  show m≤sizeOf' w es (if posOf w e+1>m then posOf w e+1 else m)∧∀e'∈e::es,posOf w e'<sizeOf' w es (if posOf w e+1>m then posOf w e+1 else m)
  generalize (if posOf w e+1>m then posOf w e+1 else m)=m' at *
  have ih:=sizeW_ge w es m'
  refine⟨by omega,fun e' he'=>?_⟩
  rcases List.mem_cons.mp he' with rfl|he'
  ·omega
  ·exact ih.2 e' he'
theorem sizeW_le (w B:Int):∀(es:Es) (m:Int),m≤B→(∀e∈es,posOf w e<B)→sizeOf' w es m≤B
 | [],m,h,_=>h
 |e::es,m,h,h2=>sizeW_le w B es _ (by have:=h2 e List.mem_cons_self;dsimp only;split<;>omega) fun e he=>h2 e (List.mem_cons_of_mem _ he)
theorem pos_bound {w:Int} (hw:0≤w) {es:Es} (hk:KeyW w es) {B:Int} (hB:∀e∈es,ky e.1≤B) {e:List Int×D} (he:e∈es):0≤posOf w e∧posOf w e<w+w*B:=by
 obtain⟨x,y,h,h1,h2,h3,h4⟩:=hk e he
 have hb:=hB e he
 unfold posOf
 rw[h] at hb ⊢
 show 0≤x+w*y∧x+w*y<w+w*B
 have a1:0≤w*y:=Int.mul_nonneg hw h3
 have a2:w*y≤w*B:=Int.mul_le_mul_of_nonneg_left hb hw
 omega
section
variable {W k:Nat} {σ:St}
abbrev flPos:X:=.bin .add (.idx (.var 3) (.lit (.int 0))) (.bin .mul (.var 1) (.idx (.var 3) (.lit (.int 1))))
abbrev flBody1:XS:=.asg 2 (.max2 (.var 2) (.bin .add flPos (.lit (.int 1))))
abbrev flBody2:XS:=.aug (.var 4) flPos .add (.idx (.idx (.var 0) (.var 3)) (.lit (.int 0)))
theorem pos_ev {C:Nat→List D→St→Option (D×St)} {w x y:Int} {o0 o2 o4:Option D} (hw:0≤w) (hw':w≤8):ev C flPos [o0,some (.int w),o2,some (keyD [x,y]),o4] σ=some (.int (x+w*y),σ):=by
 have m:MOk w y:=.inl (by omega)
 have i0:idxD σ (keyD [x,y]) (.int 0)=some (.int x):=rfl
 have i1:idxD σ (keyD [x,y]) (.int 1)=some (.int y):=rfl
 simp only[ev,List.getElem?_cons_zero,List.getElem?_cons_succ,i0,i1,binD,m,if_true]
theorem fl_loop1 {i wi:Nat} {ds:Es} {w:Int} {o4:Option D} (hw:0≤w) (hw':w≤8) (hi:σ[i]?=some (.dict ds wi)):∀(suf:Es) (m:Int) (o3:Option D),KeyW w suf→
  ∃q3,forGo (bindT [3] false) (exS (evCall FT W k) W flBody1) (some (i,wi)) (suf.map fun e=>keyD e.1) [some (.ref i),some (.int w),some (.int m),o3,o4] σ
   = some (.next,[some (.ref i),some (.int w),some (.int (sizeOf' w suf m)),q3,o4],σ)
 | [],m,o3,_=>⟨o3,rfl⟩
 |e::suf,m,o3,hk=>by
  obtain⟨x,y,h,_⟩:=hk e List.mem_cons_self
  obtain⟨k0,v⟩:=e
  simp only at h
  subst h
  obtain⟨q3,hl⟩:=fl_loop1 hw hw' hi suf (if x+w*y+1>m then x+w*y+1 else m) (some (keyD [x,y])) (fun e he=>hk e (List.mem_cons_of_mem _ he))
  refine⟨q3,?_⟩
  rw[List.map_cons]
  refine(for_next (l1:=[some (.ref i),some (.int w),some (.int m),some (keyD [x,y]),o4]) (by simp[bindT]) ?_ (by simp[srcOk,hi,AO.ver])).trans hl
  have hp:=pos_ev (σ:=σ) (C:=evCall FT W k) (o0:=some (.ref i)) (x:=x) (y:=y) (o2:=some (.int m)) (o4:=o4) hw hw'
  simp only[exS,ev,List.getElem?_cons_zero,List.getElem?_cons_succ] at hp ⊢
  rw[hp]
  rfl
theorem mem_keys_pos {w p x y:Int} (hp:0≤p) (h0:0≤x) (h1:x<w):[p%w,p/w]=[x,y]↔p=x+w*y:=by
 rw[pos_iff h0 h1];simp
theorem fl_loop2 {i wi:Nat} {es:Es} {c:Cf} {w:Int} {o2:Option D} (hw:0≤w) (hw':w≤8) (p:PolI c es) (hi:σ[i]?=some (.dict es wi)) :
  ∀(suf:Es) (z:List Int) (v:Nat) (o3:Option D),(∀e∈suf,e∈es)→(suf.map (·.1)).Nodup→KeyW w suf→(∀e∈suf,0≤posOf w e∧posOf w e<z.length)→z.length<1048576→
   ∃z' v' q3,forGo (bindT [3] false) (exS (evCall FT W k) W flBody2) (some (i,wi)) (suf.map fun e=>keyD e.1) [some (.ref i),some (.int w),o2,o3,some (.ref σ.length)] (σ++[.list (z.map .int) v])
    = some (.next,[some (.ref i),some (.int w),o2,q3,some (.ref σ.length)],σ++[.list (z'.map .int) v'])∧z'.length=z.length∧∀q,0≤q→zat z' q=zat z q+if [q%w,q/w]∈suf.map (·.1) then c (q%w) (q/w) else 0
 | [],z,v,o3,_,_,_,_,_=>⟨z,v,o3,rfl,rfl,fun q _=>by simp⟩
 |e::suf,z,v,o3,hf,nd,hk,hp,hz=>by
  obtain⟨x,y,h,h0,h1,_⟩:=hk e List.mem_cons_self
  have hpe:=hp e List.mem_cons_self
  obtain⟨x',y',he,hc⟩:=p.entry (hf e List.mem_cons_self)
  subst he
  simp only[List.cons.injEq,and_true] at h
  obtain⟨rfl,rfl⟩:=h
  rw[Int.mul_one,ratD_one] at *
  simp only[List.map_cons,List.nodup_cons] at nd
  change 0≤x'+w*y'∧x'+w*y'<z.length at hpe
  have hm:(x'+w*y').toNat<z.length:=by omega
  have hcast:(((x'+w*y').toNat:Nat):Int)=x'+w*y':=by omega
  obtain⟨z',v',q3,hl,hlen,hz'⟩:=fl_loop2 hw hw' p hi suf (z.set (x'+w*y').toNat (zat z (x'+w*y')+c x' y')) (v+1) (some (keyD [x',y'])) (fun e he=>hf e (List.mem_cons_of_mem _ he)) nd.2 (fun e he=>hk e (List.mem_cons_of_mem _ he))
   (fun e he=>by rw[List.length_set];exact hp e (List.mem_cons_of_mem _ he)) (by rw[List.length_set];exact hz)
  refine⟨z',v',q3,?_,by rw[hlen,List.length_set],fun q hq=>?_⟩
  ·rw[List.map_cons]
   refine(for_next (l1:=[some (.ref i),some (.int w),o2,some (keyD [x',y']),some (.ref σ.length)]) (by simp[bindT]) ?_ (by simp[srcOk,get_old hi,AO.ver])).trans hl
   have hpv:=pos_ev (σ:=σ++[AO.list (z.map .int) v]) (C:=evCall FT W k) (o0:=some (.ref i)) (x:=x') (y:=y') (o2:=o2) (o4:=some (.ref σ.length)) hw hw'
   have h3:(σ++[AO.list (z.map .int) v])[σ.length]?=some (.list (z.map .int) v):=get_new _ _
   have hs:(σ++[AO.list (z.map .int) v]).set σ.length (.list ((z.set (x'+w*y').toNat (zat z (x'+w*y')+c x' y')).map .int) (v+1))=_:=set_new _ _ _
   have hkk:(0:Int)≤x'+w*y'∧x'+w*y'<(LIM:Int):=by
    have:LIM=1048576:=rfl
    omega
   have hix:idxD (σ++[AO.list (z.map .int) v]) (.ref σ.length) (.int (x'+w*y'))=some (.int (zat z (x'+w*y'))):=by
    simp only[idxD,h3]
    rw[if_pos hkk,List.getElem?_map,zat_lt hm,hcast];rfl
   have hset:setD (σ++[AO.list (z.map .int) v]) (.ref σ.length) (.int (x'+w*y')) (.int (zat z (x'+w*y')+c x' y'))=some (σ++[.list ((z.set (x'+w*y').toNat (zat z (x'+w*y')+c x' y')).map .int) (v+1)]):=by
    simp only[setD,h3]
    rw[if_pos ⟨hkk.1,hkk.2,by rw[List.length_map];exact hm⟩,←List.map_set,hs]
   have hidx:idxD (σ++[AO.list (z.map .int) v]) (.ref i) (keyD [x',y'])=some (qD (c x' y') 1):=by simp[idxD,keyD,get_old hi,ints?,PolI.val p,hc]
   have i0:idxD (σ++[AO.list (z.map .int) v]) (qD (c x' y') 1) (.int 0)=some (.int (c x' y')):=rfl
   have e0:ev (evCall FT W k) (.idx (.idx (.var 0) (.var 3)) (.lit (.int 0))) [some (.ref i),some (.int w),o2,some (keyD [x',y']),some (.ref σ.length)] (σ++[AO.list (z.map .int) v])=some (.int (c x' y'),σ++[AO.list (z.map .int) v]):=by
    simp only[ev,List.getElem?_cons_zero,List.getElem?_cons_succ,hidx,i0]
   have e4:ev (evCall FT W k) (.var 4) [some (.ref i),some (.int w),o2,some (keyD [x',y']),some (.ref σ.length)] (σ++[AO.list (z.map .int) v])=some (.ref σ.length,σ++[AO.list (z.map .int) v]):=rfl
   simp only[exS,e4,hpv,hix,e0,binD,hset]
  ·rw[hz' q hq,zat_set hm,hcast]
   simp only[List.map_cons,List.mem_cons]
   by_cases hqe:q=x'+w*y'
   ·have hk1:=(mem_keys_pos (y:=y') hq h0 h1).mpr hqe
    have hn:[q%w,q/w]∉suf.map (·.1):=by rw[hk1];exact nd.1
    rw[if_pos hqe,if_neg hn,if_pos (.inl hk1),←hqe]
    simp only[List.cons.injEq,and_true] at hk1
    rw[hk1.1,hk1.2];omega
   ·have hk1:¬[q%w,q/w]=[x',y']:=fun z=>hqe ((mem_keys_pos hq h0 h1).mp z)
    rw[if_neg hqe]
    simp only[hk1,false_or]
theorem zat_neg {z:List Int} {p:Int} (h:p<0):zat z p=0:=by unfold zat;rw[if_neg (by omega)]
theorem flattened_call {i wi:Nat} {es:Es} {c:Cf} {w:Nat} {K:Nat} (hw:2≤w) (hw':w≤8) (p:PolI c es) (hi:σ[i]?=some (.dict es wi)) (sc:Supp K c) (hK:K<w) :
  ∃z v,evCall FT W (k+1) f_flattened [.ref i,.int w] σ=some (.ref σ.length,σ++[.list (z.map .int) v])∧(z.length:Int)=sizeOf' w es 0∧(∀q,zat z q=fl c w q)∧z.length≤w+w*K:=by
 have hkw:KeyW w es:=fun e he=>by
  obtain⟨x,y,rfl,hc⟩:=p.entry he
  have:=sc x y hc
  exact⟨x,y,rfl,by omega⟩
 have hkb:∀e∈es,ky e.1≤(K:Int):=fun e he=>by
  obtain⟨x,y,rfl,hc⟩:=p.entry he
  have:=sc x y hc
  show y≤K
  omega
 have hpb:∀e∈es,0≤posOf w e∧posOf w e<w+w*K:=fun e he=>pos_bound (by omega) hkw hkb he
 have hs0:=(sizeW_ge w es 0).1
 have hwk:0≤(w:Int)*(K:Int):=Int.mul_nonneg (by omega) (by omega)
 have hs1:=sizeW_le w (w+w*K) es 0 (by omega) fun e he=>(hpb e he).2
 have hs2:=(sizeW_ge w es 0).2
 have hwk2:(w:Int)*K≤8*8:=Int.mul_le_mul (by omega) (by omega) (by omega) (by omega)
 obtain⟨q3,h1⟩:=fl_loop1 (W:=W) (k:=k) (w:=(w:Int)) (o4:=none) (by omega) (by omega) hi es 0 none hkw
 obtain⟨z,v,q3',h2,hlen,hz⟩:=fl_loop2 (W:=W) (k:=k) (w:=(w:Int)) (o2:=some (.int (sizeOf' w es 0))) (by omega) (by omega) p hi es (List.replicate (sizeOf' w es 0).toNat 0) 0 q3 (fun e he=>he) p.nd hkw
  (fun e he=>⟨(hpb e he).1,by rw[List.length_replicate];have:=hs2 e he;omega⟩) (by rw[List.length_replicate];omega)
 rw[List.length_replicate] at hlen
 refine⟨z,v,?_,by omega,fun q=>?_,by have:((w*K:Nat):Int)=(w:Int)*K:=Int.natCast_mul _ _;omega⟩
 ·have hn:(sizeOf' w es 0).natAbs<1048576:=by omega
  refine call_ret (fn:=⟨2,5,b_flattened⟩) rfl rfl (l:=[some (.ref i),some (.int w),some (.int (sizeOf' w es 0)),q3',some (.ref σ.length)])
   (seq_next (l1:=[some (.ref i),some (.int w),some (.int 0),none,none]) (σ1:=σ) ?_
   (seq_next (l1:=[some (.ref i),some (.int w),some (.int (sizeOf' w es 0)),q3,none]) (σ1:=σ) ?_
   (seq_next (l1:=[some (.ref i),some (.int w),some (.int (sizeOf' w es 0)),q3,some (.ref σ.length)]) (σ1:=σ++[.list ((List.replicate (sizeOf' w es 0).toNat (0:Int)).map .int) 0]) ?_
   (seq_next (l1:=[some (.ref i),some (.int w),some (.int (sizeOf' w es 0)),q3',some (.ref σ.length)]) (σ1:=σ++[.list (z.map .int) v]) ?_ ?_))))
  ·simp[exS,ev]
  ·rw[for_ev (ds:=es.map fun e=>keyD e.1) (src:=some (i,wi)) (σ1:=σ) (by simp[evI,ev,iterOf,hi])]
   exact h1
  ·simp[exS,ev,LIM,hn]
  ·rw[for_ev (ds:=es.map fun e=>keyD e.1) (src:=some (i,wi)) (σ1:=σ++[.list ((List.replicate (sizeOf' w es 0).toNat (0:Int)).map .int) 0]) (by simp[evI,ev,iterOf,get_old hi])]
   exact h2
  ·simp[exS,ev]
 ·unfold fl
  by_cases hq:0≤q
  ·rw[hz q hq,zat_rep,if_pos hq,Int.zero_add]
   split
   ·rfl
   ·rename_i hm;rw[p.supp hm]
  ·rw[if_neg hq,zat_neg (by omega)]
def unf (z:List Int) (w:Int):Cf:=fun x y=>if 0≤x∧x<w then zat z (x+w*y) else 0
theorem unf_fl {z:List Int} {c:Cf} {w:Nat} {K:Nat} (h:∀q,zat z q=fl c w q) (sc:Supp K c) (hK:K<w):unf z w=c:=by
 funext x y
 unfold unf
 by_cases hx:0≤x∧x<(w:Int)
 ·rw[if_pos hx,h]
  unfold fl
  have:=(pos_iff (p:=x+w*y) (y:=y) hx.1 hx.2).mp rfl
  rw[this.1,this.2]
  split
  ·rfl
  ·rename_i hn
   refine(Classical.byContradiction fun hc=>hn ?_)
   have:=sc x y (fun q=>hc q.symm)
   have:0≤(w:Int)*y:=Int.mul_nonneg (by omega) (by omega)
   omega
 ·rw[if_neg hx]
  refine(Classical.byContradiction fun hc=>hx ?_)
  have:=sc x y (fun q=>hc q.symm)
  omega
theorem zat_snoc (z:List Int) (v p:Int):zat (z++[v]) p=if p=(z.length:Int) then v else zat z p:=by
 unfold zat
 by_cases h:0≤p
 ·rw[if_pos h,if_pos h]
  by_cases h0:p=(z.length:Int)
  ·subst h0;simp
  ·rw[if_neg h0]
   simp only[List.getD_eq_getElem?_getD]
   by_cases h1:p.toNat<z.length
   ·rw[List.getElem?_append_left h1]
   ·rw[List.getElem?_eq_none (by rw[List.length_append];simp;omega),List.getElem?_eq_none (by omega)]
 ·rw[if_neg h,if_neg h,if_neg (by omega)]
theorem unf_box {z:List Int} {w:Nat} (hw:2≤w) (hw':w≤8) (hl:z.length≤9*w):Box (unf z w):=fun x y h=>by
 unfold unf at h
 split at h
 ·rename_i hx
  have h0:0≤x+w*y:=Classical.byContradiction fun q=>h (zat_neg (by omega))
  have h1:x+w*y<z.length:=Classical.byContradiction fun q=>h (zat_ge (by omega))
  have hy0:0≤y:=Classical.byContradiction fun q=>by
   have:(w:Int)*y≤w*(-1):=Int.mul_le_mul_of_nonneg_left (by omega) (by omega)
   omega
  have hy9:y<9:=Classical.byContradiction fun q=>by
   have:(w:Int)*9≤w*y:=Int.mul_le_mul_of_nonneg_left (by omega) (by omega)
   omega
  omega
 ·exact absurd rfl h
theorem unf_snoc {z:List Int} {w:Nat} (hw:2≤w) (v:Int):unf (z++[v]) w=upd (unf z w) ((z.length:Int)%w) ((z.length:Int)/w) v:=by
 funext x y
 unfold upd unf
 have hb:=Int.emod_nonneg (z.length:Int) (show(w:Int)≠0 by omega)
 have hb2:=Int.emod_lt_of_pos (z.length:Int) (show(0:Int)<w by omega)
 by_cases hx:0≤x∧x<(w:Int)
 ·rw[if_pos hx,if_pos hx,zat_snoc]
  by_cases hq:x=(z.length:Int)%w∧y=(z.length:Int)/w
  ·rw[if_pos hq,if_pos]
   rw[hq.1,hq.2]
   have:=Int.emod_add_mul_ediv (z.length:Int) w
   omega
  ·rw[if_neg hq,if_neg]
   intro h
   have:=(pos_iff (p:=(z.length:Int)) (y:=y) hx.1 hx.2).mp h.symm
   exact hq ⟨this.1.symm,this.2.symm⟩
 ·rw[if_neg hx,if_neg hx,if_neg]
  rintro⟨rfl,rfl⟩
  exact hx ⟨hb,hb2⟩
theorem unf_nil (w:Int):unf [] w=fun _ _=>0:=by
 funext x y
 unfold unf
 split
 ·exact zat_nil _
 ·rfl
abbrev unBody:XS:=.ifs (.cmp .ne (.var 4) (.lit (.int 0))) (.set (.var 2) (.tup (.acons (.bin .mod (.var 3) (.var 1)) (.acons (.bin .fdiv (.var 3) (.var 1)) (.anil)))) (.tup (.acons (.var 4) (.acons (.lit (.int 1)) (.anil))))) (.nil)
theorem un_loop {i wi:Nat} {w:Nat} {da:List D} (hw:2≤w) (hw':w≤8) (hi:σ[i]?=some (.list da wi)):∀(suf pre:List Int) (gs:Es) (v:Nat) (o3 o4:Option D),pre.length+suf.length≤9*w→PolI (unf pre w) gs→
  ∃gs' v' q3 q4,forGo (bindT [3,4] true) (exS (evCall FT W k) W unBody) (some (i,wi)) (enumD pre.length (suf.map .int)) [some (.ref i),some (.int w),some (.ref σ.length),o3,o4] (σ++[.dict gs v])
   = some (.next,[some (.ref i),some (.int w),some (.ref σ.length),q3,q4],σ++[.dict gs' v'])∧PolI (unf (pre++suf) w) gs'
 | [],pre,gs,v,o3,o4,_,p=>⟨gs,v,o3,o4,rfl,by rw[List.append_nil];exact p⟩
 |x::suf,pre,gs,v,o3,o4,hl,p=>by
  simp only[List.length_cons] at hl
  have hlen:gs.length<1048576:=p.len (unf_box hw hw' (by omega))
  have hstep:∃gs1 v1,exS (evCall FT W k) W unBody [some (.ref i),some (.int w),some (.ref σ.length),some (.int (pre.length:Nat)),some (.int x)] (σ++[.dict gs v])
    = some (.next,[some (.ref i),some (.int w),some (.ref σ.length),some (.int (pre.length:Nat)),some (.int x)],σ++[.dict gs1 v1])∧PolI (unf (pre++[x]) w) gs1:=by
   rw[unf_snoc hw]
   by_cases hx:x=0
   ·refine⟨gs,v,by simp[exS,evT,ev,cmpD,eqD,CF,truthD,hx],?_⟩
    have:upd (unf pre w) ((pre.length:Int)%w) ((pre.length:Int)/w) x=unf pre w:=by
     funext a b
     unfold upd
     split
     ·rename_i hq
      rw[hq.1,hq.2,hx]
      unfold unf
      split
      ·rw[zat_ge]
       have:=Int.emod_add_mul_ediv (pre.length:Int) w
       omega
      ·rfl
     ·rfl
    rw[this];exact p
   ·refine⟨dput gs [(pre.length:Int)%w,(pre.length:Int)/w] (qD x 1),v+1,?_,?_⟩
    ·have hx':(x==0)=false:=by simpa using hx
     have hwz:(w:Int)≠0:=by omega
     have hwn:((w:Int)).natAbs<2^30:=by omega
     have hwn':w<1073741824:=by omega
     have hwz':w≠0:=by omega
     have hfm:(pre.length:Int).fmod w=(pre.length:Int)%w:=Int.fmod_eq_emod_of_nonneg _ (by omega)
     have hfd:(pre.length:Int).fdiv w=(pre.length:Int)/w:=Int.fdiv_eq_ediv_of_nonneg _ (by omega)
     have hs:∀X,(σ++[AO.dict gs v]).set σ.length X=_:=fun X=>set_new _ _ _
     simp[exS,evT,ev,evs,cmp_ne_int,truthD,hx',hx,binD,hwz',hwn',hfm,hfd,LIM,setD,ints?,hlen,hs]
    ·have:=p.put (x:=(pre.length:Int)%w) (y:=(pre.length:Int)/w) hx
     rw[Int.mul_one,ratD_one] at this
     exact this
  obtain⟨gs1,v1,h1,p1⟩:=hstep
  obtain⟨gs',v',q3,q4,h2,p2⟩:=un_loop hw hw' hi suf (pre++[x]) gs1 v1 (some (.int (pre.length:Nat))) (some (.int x)) (by simp only[List.length_append,List.length_cons,List.length_nil];omega) p1
  refine⟨gs',v',q3,q4,?_,by simpa using p2⟩
  rw[List.map_cons]
  show forGo _ _ _ (.tup [.int (pre.length:Nat),.int x]::enumD (pre.length+1) (suf.map .int)) _ _=_
  refine(for_next (by simp[bindT]) h1 (by simp[srcOk,get_old hi,AO.ver])).trans ?_
  rw[List.length_append] at h2
  exact h2
theorem unfolded_call {i:Nat} {z:List Int} {w:Nat} (hw:2≤w) (hw':w≤8) (hi:IsRow z i σ) (hl:z.length≤9*w) :
  ∃gs v,evCall FT W (k+1) f_unfolded [.ref i,.int w] σ=some (.ref σ.length,σ++[.dict gs v])∧PolI (unf z w) gs:=by
 obtain⟨wi,hi⟩:=hi
 obtain⟨gs,v,q3,q4,h1,p⟩:=un_loop (W:=W) (k:=k) hw hw' hi z [] [] 0 none none (by simpa using hl) (by rw[unf_nil];exact Pol.nil)
 refine⟨gs,v,?_,p⟩
 refine call_ret (fn:=⟨2,5,b_unfolded⟩) rfl rfl (l:=[some (.ref i),some (.int w),some (.ref σ.length),q3,q4])
  (seq_next (l1:=[some (.ref i),some (.int w),some (.ref σ.length),none,none]) (σ1:=σ++[.dict [] 0]) ?_ (seq_next (l1:=[some (.ref i),some (.int w),some (.ref σ.length),q3,q4]) (σ1:=σ++[.dict gs v]) ?_ ?_))
 ·simp[exS,ev,evs,dispE]
 ·rw[for_ev (ds:=enumD 0 (z.map .int)) (src:=some (i,wi)) (σ1:=σ++[.dict [] 0]) (by simp[evI,ev,get_old hi])]
  exact h1
 ·simp[exS,ev]
end
def lotsL:Nat→Nat→List (List Int)
 |0,_=>[[]]
 |s+1,m=>(List.range (m-s)).flatMap fun t=>(lotsL s (s+t)).map (·++[((s+t:Nat):Int)])
theorem lotsL_each:∀(s m:Nat),∀t∈lotsL s m,t.length=s
 |0,m,t,h=>by simp[lotsL] at h;simp[h]
 |s+1,m,t,h=>by
  simp only[lotsL,List.mem_flatMap,List.mem_map] at h
  obtain⟨a,_,b,hb,rfl⟩:=h
  simp[lotsL_each s _ b hb]
theorem flat_len {α β:Type} (f:α→List β) (B:Nat):∀l:List α,(∀a∈l,(f a).length≤B)→(l.flatMap f).length≤l.length*B
 | [],_=>by simp
 |a::l,h=>by
  have h1:=h a List.mem_cons_self
  have h2:=flat_len f B l fun a ha=>h a (List.mem_cons_of_mem _ ha)
  rw[List.flatMap_cons,List.length_append,List.length_cons,Nat.succ_mul]
  omega
theorem lotsL_len:∀(s m:Nat),m≤8→(lotsL s m).length≤8^s
 |0,m,_=>by simp[lotsL]
 |s+1,m,h=>by
  have h1:=flat_len (fun t=>(lotsL s (s+t)).map (·++[((s+t:Nat):Int)])) (8^s) (List.range (m-s)) fun t ht=>by
   rw[List.length_map];rw[List.mem_range] at ht;exact lotsL_len s (s+t) (by omega)
  rw[List.length_range] at h1
  have h2:(m-s)*8^s≤8*8^s:=Nat.mul_le_mul_right _ (by omega)
  rw[Nat.pow_succ]
  show((List.range (m-s)).flatMap _).length≤_
  omega
theorem set_mid0 (σ τ:St) (a c:AO):(σ++a::τ).set σ.length c=σ++c::τ:=by
 rw[List.set_append_right _ _ (by omega)]
 simp
section
variable {W k:Nat} {σ:St}
abbrev loBody:XS:=.expr (.extend (.var 2) (.lcomp (.bin .add (.var 4) (.tup (.acons (.var 3) (.anil)))) [4] false (.ix (.call f_lots_of (.acons (.var 3) (.acons (.bin .sub (.var 1) (.lit (.int 1))) (.anil))))) none))
def LotsOk (W k s:Nat):Prop:=∀(m:Nat) (σ:St),m≤8→∃r σ' v,evCall FT W (k+s+1) f_lots_of [.int (m:Nat),.int (s:Nat)] σ=some (.ref r,σ')∧Ext σ σ'∧σ.length≤r∧σ'[r]?=some (.list ((lotsL s m).map keyD) v)
theorem lo_loop {s m:Nat} (hs:s≤4) (ih:LotsOk W k s):∀(suf:List Nat) (ds:List D) (v:Nat) (τ:St) (o3:Option D),(∀t∈suf,s+t≤8)→ds.length+suf.length*8^s≤8*8^s→
  ∃v' τ' q3,forGo (bindT [3] false) (exS (evCall FT W (k+s+1)) W loBody) none (suf.map fun t=>.int ((s+t:Nat):Int)) [some (.int (m:Nat)),some (.int ((s+1:Nat):Int)),some (.ref σ.length),o3,none] (σ++.list ds v::τ)
   = some (.next,[some (.int (m:Nat)),some (.int ((s+1:Nat):Int)),some (.ref σ.length),q3,none],σ++.list (ds++(suf.flatMap fun t=>(lotsL s (s+t)).map (·++[((s+t:Nat):Int)])).map keyD) v'::τ')
 | [],ds,v,τ,o3,_,_=>⟨v,τ,o3,by simp[forGo]⟩
 |t::suf,ds,v,τ,o3,ht,hl=>by
  simp only[List.length_cons,Nat.succ_mul] at hl
  have ht0:=ht t List.mem_cons_self
  obtain⟨r,σ',v1,hc,⟨τ1,rfl⟩,hr,hg⟩:=ih (s+t) (σ++.list ds v::τ) ht0
  have hlen:=lotsL_len s (s+t) ht0
  have h84:8^s≤8^4:=Nat.pow_le_pow_right (by omega) hs
  have hl2:((lotsL s (s+t)).map (·++[((s+t:Nat):Int)])).length≤8^s:=by rw[List.length_map];exact hlen
  obtain⟨v',τ',q3,hlp⟩:=lo_loop (m:=m) hs ih suf (ds++((lotsL s (s+t)).map (·++[((s+t:Nat):Int)])).map keyD) (v+1) (τ++τ1) (some (.int ((s+t:Nat):Int))) (fun t h=>ht t (List.mem_cons_of_mem _ h)) (by
   rw[List.length_append,List.length_map];omega)
  refine⟨v',τ',q3,?_⟩
  rw[List.map_cons]
  refine(for_next (l1:=[some (.int (m:Nat)),some (.int ((s+1:Nat):Int)),some (.ref σ.length),some (.int ((s+t:Nat):Int)),none]) (by simp[bindT]) ?_ (by simp[srcOk])).trans (hlp.trans (by simp))
  have hS:(σ++.list ds v::τ)++τ1=σ++.list ds v::(τ++τ1):=by simp
  rw[hS] at hc hg
  have e1:evI (evCall FT W (k+s+1)) (.ix (.call f_lots_of (.acons (.var 3) (.acons (.bin .sub (.var 1) (.lit (.int 1))) (.anil))))) [some (.int (m:Nat)),some (.int ((s+1:Nat):Int)),some (.ref σ.length),some (.int ((s+t:Nat):Int)),none] (σ++.list ds v::τ)
    = some ((lotsL s (s+t)).map keyD,some (r,v1),σ++.list ds v::(τ++τ1)):=by
   have hs1:((s+1:Nat):Int)-1=(s:Int):=by omega
   simp only[evI,ev,evs,List.getElem?_cons_zero,List.getElem?_cons_succ,binD,hs1,hc,iterOf,hg]
  have e2:=comp_map (bind:=bindT [4] false) (elt:=ev (evCall FT W (k+s+1)) (.bin .add (.var 4) (.tup (.acons (.var 3) (.anil))))) (src:=some (r,v1)) (l:=[some (.int (m:Nat)),some (.int ((s+1:Nat):Int)),some (.ref σ.length),some (.int ((s+t:Nat):Int)),none]) (σ:=σ++.list ds v::(τ++τ1)) keyD (fun x=>keyD (x++[((s+t:Nat):Int)])) (by simp[srcOk,hg,AO.ver]) (lotsL s (s+t)) (fun x hx=>by
    refine⟨[some (.int (m:Nat)),some (.int ((s+1:Nat):Int)),some (.ref σ.length),some (.int ((s+t:Nat):Int)),some (keyD x)],by simp[bindT],?_⟩
    have hxl:x.length+1<1048576:=by rw[lotsL_each s _ x hx];omega
    simp[ev,evs,keyD,binD,LIM,hxl])
  have e3:evL (evCall FT W (k+s+1)) (.lcomp (.bin .add (.var 4) (.tup (.acons (.var 3) (.anil)))) [4] false (.ix (.call f_lots_of (.acons (.var 3) (.acons (.bin .sub (.var 1) (.lit (.int 1))) (.anil))))) none) [some (.int (m:Nat)),some (.int ((s+1:Nat):Int)),some (.ref σ.length),some (.int ((s+t:Nat):Int)),none] (σ++.list ds v::τ)
    = some (((lotsL s (s+t)).map (·++[((s+t:Nat):Int)])).map keyD,σ++.list ds v::(τ++τ1)):=by
   rw[evL,e1]
   dsimp only
   rw[if_pos (by rw[List.length_map];have:LIM=1048576:=rfl;omega),e2,List.map_map]
   rfl
  have e4:(σ++AO.list ds v::(τ++τ1))[σ.length]?=some (.list ds v):=by simp
  have e5:isLst (σ++AO.list ds v::τ) σ.length=true:=by simp[isLst]
  have e6:ds.length+(((lotsL s (s+t)).map (·++[((s+t:Nat):Int)])).map keyD).length<LIM:=by
   rw[List.length_map];have:LIM=1048576:=rfl;omega
  simp only[exS,ev,List.getElem?_cons_zero,List.getElem?_cons_succ,e5,if_true,e3,e4,e6,set_mid0]
theorem lots_ok:∀s,s≤4→LotsOk W k s
 |0,_=>fun m σ hm=>by
  refine⟨σ.length,σ++[.list ([[]].map keyD) 0],0,?_,Ext.app _ _,Nat.le_refl _,get_new _ _⟩
  refine call_ret (fn:=⟨2,5,b_lots_of⟩) rfl rfl (l:=[some (.int (m:Nat)),some (.int 0),none,none,none]) (seq_ret ?_)
  simp[exS,evT,ev,evs,evL,cmp_eq_int,truthD,LIM,keyD]
 |s+1,hs=>fun m σ hm=>by
  have h84:8^s≤8^4:=Nat.pow_le_pow_right (by omega) (by omega)
  obtain⟨v',τ',q3,hl⟩:=lo_loop (W:=W) (k:=k) (σ:=σ) (m:=m) (by omega) (lots_ok s (by omega)) (List.range (m-s)) [] 0 [] none (fun t ht=>by rw[List.mem_range] at ht;omega) (by
   rw[List.length_range]
   have h2:(m-s)*8^s≤8*8^s:=Nat.mul_le_mul_right _ (by omega)
   simpa using h2)
  refine⟨σ.length,σ++.list ((lotsL (s+1) m).map keyD) v'::τ',v',?_,Ext.app _ _,Nat.le_refl _,by simp⟩
  refine call_ret (fn:=⟨2,5,b_lots_of⟩) rfl rfl (l:=[some (.int (m:Nat)),some (.int ((s+1:Nat):Int)),some (.ref σ.length),q3,none])
   (seq_next (l1:=[some (.int (m:Nat)),some (.int ((s+1:Nat):Int)),none,none,none]) (σ1:=σ) ?_ (seq_next (l1:=[some (.int (m:Nat)),some (.int ((s+1:Nat):Int)),some (.ref σ.length),none,none]) (σ1:=σ++[.list [] 0]) ?_
   (seq_next (l1:=[some (.int (m:Nat)),some (.int ((s+1:Nat):Int)),some (.ref σ.length),q3,none]) (σ1:=σ++.list ((lotsL (s+1) m).map keyD) v'::τ') ?_ ?_)))
  ·have:(((s+1:Nat):Int)==0)=false:=by rw[beq_eq_false_iff_ne];omega
   simp only[exS,evT,ev,List.map_cons,List.map_nil,List.cons_append,List.nil_append,List.getElem?_cons_zero,List.getElem?_cons_succ,cmp_eq_int,truthD,this,Option.map]
   rfl
  ·simp[exS,ev,evs,evL,LIM]
  ·rw[for_ev (ds:=(List.range (m-s)).map fun t=>.int ((s+t:Nat):Int)) (src:=none) (σ1:=σ++[.list [] 0])]
   ·exact hl
   ·have hs1:((s+1:Nat):Int)-1=(s:Int):=by omega
    simp only[evI,ev,List.getElem?_cons_zero,List.getElem?_cons_succ,binD,hs1]
    rw[if_pos (by have:LIM=1048576:=rfl;omega)]
    simp only[rangeD]
    rw[show((m:Int)-(s:Int)).toNat=m-s by omega]
    simp
  ·simp[exS,ev]
theorem lots_call {m s:Nat} (hm:m≤8) (hs:s≤4):∃r σ' v,evCall FT W (k+s+1) f_lots_of [.int (m:Nat),.int (s:Nat)] σ=some (.ref r,σ')∧Ext σ σ'∧σ.length≤r∧σ'[r]?=some (.list ((lotsL s m).map keyD) v):=lots_ok s hs m σ hm
end
section
variable {C:Nat→List D→St→Option (D×St)} {a b c:X} {l:Loc} {σ σ1 σ2:St} {x y:D} {r:Bool} {op:COp} {res:Option (D×St)}
theorem ev_cmp (ha:ev C a l σ=some (x,σ1)) (hb:ev C b l σ1=some (y,σ2)) (hc:cmpD op x y σ2=some r):ev C (.cmp op a b) l σ=some (.bool r,σ2):=by
 simp only[ev,ha,hb,hc]
theorem ev_and_t (ha:ev C a l σ=some (.bool true,σ1)) (hb:ev C b l σ1=res):ev C (.and a b) l σ=res:=by
 simp only[ev,ha,truthD,hb]
theorem ev_or_f (ha:ev C a l σ=some (.bool false,σ1)) (hb:ev C b l σ1=res):ev C (.or a b) l σ=res:=by
 simp only[ev,ha,truthD,hb]
theorem ev_not (ha:ev C a l σ=some (.bool r,σ1)):ev C (.not a) l σ=some (.bool (!r),σ1):=by
 simp only[ev,ha,truthD]
theorem ex_ret {W:Nat} (ha:ev C a l σ=some (x,σ1)):exS C W (.ret a) l σ=some (.ret x,l,σ1):=by
 simp only[exS,ha]
theorem ex_skip {W:Nat} {A R:XS} {res:Option (Fl×Loc×St)} (ha:ev C c l σ=some (.bool false,σ1)) (h:exS C W R l σ1=res):exS C W (.seq (.ifs c A .nil) R) l σ=res:=by
 simp only[exS,evT,ha,truthD,Option.map,h]
end
def lotOf (many mask:Nat):List Int:=((List.range many).filter fun a=>decide (mask/2^a%2=1)).map fun a:Nat=>(a:Int)
def dueL (many size:Nat):List (List Int):=((List.range (2^many)).map (lotOf many)).filter fun t=>decide (t.length=size)
def asK:D→Option (List Int)
 | .tup ks=>ints? ks
 |_=>none
def asKs:List D→Option (List (List Int))
 | []=>some []
 |d::r=>match asK d,asKs r with
  |some k,some ks=>some (k::ks)
  |_,_=>none
def lotChk (A B:List (List Int)):Bool:=match sortD [] (A.map keyD),sortD [] (B.map keyD) with
 |some a,some b=>match asKs a,asKs b with
  |some x,some y=>decide (x=y)
  |_,_=>false
 |_,_=>false
theorem ints_back:∀{ds:List D} {k:List Int},ints? ds=some k→ds=k.map .int
 | [],k,h=>by simp[ints?] at h;subst h;rfl
 |d::ds,k,h=>by
  cases d<;>simp[ints?] at h
  obtain⟨k',h1,rfl⟩:=h
  rw[ints_back h1];rfl
theorem asK_back {d:D} {k:List Int} (h:asK d=some k):d=keyD k:=by
 cases d<;>simp[asK] at h
 rw[ints_back h];rfl
theorem asKs_back:∀{ds:List D} {ks:List (List Int)},asKs ds=some ks→ds=ks.map keyD
 | [],ks,h=>by simp[asKs] at h;subst h;rfl
 |d::ds,ks,h=>by
  simp only[asKs] at h
  cases h1:asK d with
  |none=>simp[h1] at h
  |some k=>
   cases h2:asKs ds with
   |none=>simp[h1,h2] at h
   |some ks'=>
    simp[h1,h2] at h
    subst h
    rw[asK_back h1,asKs_back h2];rfl
theorem lotChk_spec {A B:List (List Int)} (h:lotChk A B=true):∃S:List (List Int),sortD [] (A.map keyD)=some (S.map keyD)∧sortD [] (B.map keyD)=some (S.map keyD):=by
 unfold lotChk at h
 cases h1:sortD [] (A.map keyD) with
 |none=>simp[h1] at h
 |some a=>
  cases h2:sortD [] (B.map keyD) with
  |none=>simp[h1,h2] at h
  |some b=>
   simp only[h1,h2] at h
   cases h3:asKs a with
   |none=>simp[h3] at h
   |some x=>
    cases h4:asKs b with
    |none=>simp[h3,h4] at h
    |some y=>
     simp[h3,h4] at h
     subst h
     exact⟨x,by rw[asKs_back h3],by rw[asKs_back h4]⟩
theorem lex_ints (σ:St) (n:Nat):∀a b:List Int,lexD (eqD σ (n+1)) (ltD σ (n+1)) (a.map .int) (b.map .int)=lexD (eqD [] (n+1)) (ltD [] (n+1)) (a.map .int) (b.map .int)
 | [],[]=>rfl
 | [],_::_=>rfl
 |_::_,[]=>rfl
 |x::a,y::b=>by
  have e1:∀s:St,eqD s (n+1) (.int x) (.int y)=some (x==y):=fun _=>rfl
  have e2:∀s:St,ltD s (n+1) (.int x) (.int y)=some (decide (x<y)):=fun _=>rfl
  simp only[List.map_cons,lexD,e1,e2,lex_ints σ n a b]
theorem lt_keys (σ:St) (a b:List Int):ltD σ CF (keyD a) (keyD b)=ltD [] CF (keyD a) (keyD b):=lex_ints σ 6 a b
theorem sort_keys (σ:St) (A:List (List Int)):sortD σ (A.map keyD)=sortD [] (A.map keyD):=by
 unfold sortD
 by_cases h1:(A.map keyD).length<2
 ·rw[if_pos h1,if_pos h1]
 ·rw[if_neg h1,if_neg h1]
  by_cases h2:(decide ((A.map keyD).length<64)&&sortable (A.map keyD))=true
  ·rw[if_pos h2,if_pos h2]
   refine congrArg _ (congrArg (fun f=>runT f _) ?_)
   funext i j
   rw[List.getElem?_map,List.getElem?_map]
   cases A[i]? with
   |none=>rfl
   |some a=>
    cases A[j]? with
    |none=>rfl
    |some b=>exact lt_keys σ a b
  ·rw[if_neg h2,if_neg h2]
theorem eq_keys (σ:St) (n:Nat):∀S:List (List Int),eqAll (eqD σ (n+2)) (S.map keyD) (S.map keyD)=some true
 | []=>rfl
 |s::S=>by
  have h1:∀k:List Int,eqAll (eqD σ (n+1)) (k.map .int) (k.map .int)=some true:=fun k=>by
   induction k with
   |nil=>rfl
   |cons x k ih=>
    have e1:eqD σ (n+1) (.int x) (.int x)=some (x==x):=rfl
    simp[eqAll,e1,ih]
  have h2:eqD σ (n+2) (keyD s) (keyD s)=some true:=by
   show(if _ then eqAll (eqD σ (n+1)) (s.map .int) (s.map .int) else none)=_
   rw[if_pos rfl,h1]
  simp only[List.map_cons,eqAll,h2,eq_keys σ n S]
  rfl
section
variable {W k:Nat} {σ:St}
theorem lots_call' {n m s:Nat} (hm:m≤8) (hs:s≤4) (hn:s+1≤n):∃r σ' v,evCall FT W n f_lots_of [.int (m:Nat),.int (s:Nat)] σ=some (.ref r,σ')∧Ext σ σ'∧σ.length≤r∧σ'[r]?=some (.list ((lotsL s m).map keyD) v):=by
 obtain⟨k,rfl⟩:∃k,n=k+s+1:=⟨n-s-1,by omega⟩
 exact lots_call hm hs
abbrev lrCond:X:=.cmp .eq (.bin .mod (.bin .fdiv (.var 3) (.bin .pow (.lit (.int 2)) (.var 6))) (.lit (.int 2))) (.lit (.int 1))
abbrev lrBody:XS:=.seq (.asg 4 (.tupOf (.lcomp (.var 6) [6] false (.irange (.lit (.int 0)) (.var 0)) (some lrCond))))
  (.ifs (.cmp .eq (.len (.var 4)) (.var 1)) (.expr (.append (.var 2) (.var 4))) (.nil))
theorem lr_turn {n m s mask v:Nat} {ds:List D} {o4 o5 o6:Option D} (hm:m≤6) (hds:ds.length<LIM) :
  ∃v',exS (evCall FT W n) W lrBody [some (.int (m:Nat)),some (.int (s:Nat)),some (.ref σ.length),some (.int (mask:Nat)),o4,o5,o6] (σ++[.list ds v])
   = some (.next,[some (.int (m:Nat)),some (.int (s:Nat)),some (.ref σ.length),some (.int (mask:Nat)),some (keyD (lotOf m mask)),o5,o6],σ++[.list (ds++(if (lotOf m mask).length=s then [keyD (lotOf m mask)] else [])) v']):=by
 have hc:=comp_filter (bind:=bindT [6] false) (test:=evT (evCall FT W n) lrCond) (elt:=ev (evCall FT W n) (.var 6)) (src:=none) (l:=[some (.int (m:Nat)),some (.int (s:Nat)),some (.ref σ.length),some (.int (mask:Nat)),o4,o5,o6]) (σ:=σ++[.list ds v])
  (fun a:Nat=>.int (a:Int)) (fun a=>decide (mask/2^a%2=1)) (fun a=>.int (a:Int)) rfl (List.range m) (fun a ha=>by
   rw[List.mem_range] at ha
   refine⟨[some (.int (m:Nat)),some (.int (s:Nat)),some (.ref σ.length),some (.int (mask:Nat)),o4,o5,some (.int (a:Nat))],by simp[bindT],?_,fun _=>by simp[ev]⟩
   have h1:binD .pow (.int 2) (.int (a:Int)) (σ++[.list ds v])=some (.int ((2^a:Nat):Int),σ++[.list ds v]):=by
    simp only[binD]
    rw[if_pos ⟨trivial,by omega,by omega⟩,Int.toNat_natCast,Int.natCast_pow];rfl
   have h2p:0<2^a:=Nat.two_pow_pos a
   have h2l:2^a≤2^6:=Nat.pow_le_pow_right (by omega) (by omega)
   have h2:binD .fdiv (.int (mask:Int)) (.int ((2^a:Nat):Int)) (σ++[.list ds v])=some (.int ((mask/2^a:Nat):Int),σ++[.list ds v]):=by
    simp only[binD]
    rw[if_pos (by omega),Int.fdiv_eq_ediv_of_nonneg _ (by omega),Int.natCast_ediv]
   have h3:binD .mod (.int ((mask/2^a:Nat):Int)) (.int 2) (σ++[.list ds v])=some (.int ((mask/2^a%2:Nat):Int),σ++[.list ds v]):=by
    simp only[binD]
    rw[if_pos (by omega),Int.fmod_eq_emod_of_nonneg _ (by omega),Int.natCast_emod];rfl
   have h4:(((mask/2^a%2:Nat):Int)==1)=decide (mask/2^a%2=1):=by
    rw[Bool.eq_iff_iff,beq_iff_eq,decide_eq_true_eq];omega
   simp only[evT,ev,List.getElem?_cons_zero,List.getElem?_cons_succ,h1,h2,h3,cmp_eq_int,h4,truthD,Option.map])
 have hit:evI (evCall FT W n) (.irange (.lit (.int 0)) (.var 0)) [some (.int (m:Nat)),some (.int (s:Nat)),some (.ref σ.length),some (.int (mask:Nat)),o4,o5,o6] (σ++[.list ds v])
   = some ((List.range m).map (fun a:Nat=>.int (a:Int)),none,σ++[.list ds v]):=by
  simp only[evI,ev,List.getElem?_cons_zero]
  rw[if_pos (by have:LIM=1048576:=rfl;omega)]
  simp[rangeD]
 have hL:evL (evCall FT W n) (.lcomp (.var 6) [6] false (.irange (.lit (.int 0)) (.var 0)) (some lrCond)) [some (.int (m:Nat)),some (.int (s:Nat)),some (.ref σ.length),some (.int (mask:Nat)),o4,o5,o6] (σ++[.list ds v])
   = some ((lotOf m mask).map .int,σ++[.list ds v]):=by
  rw[evL,hit]
  show(if ((List.range m).map (fun a:Nat=>D.int (a:Int))).length<LIM then compGo (bindT [6] false) (evT (evCall FT W n) lrCond) _ _ _ _ _ else none)=_
  rw[if_pos (by rw[List.length_map,List.length_range];have:LIM=1048576:=rfl;omega),hc]
  simp[lotOf]
 have hll:(lotOf m mask).length<LIM:=by
  have h1:(lotOf m mask).length≤m:=by
   unfold lotOf
   rw[List.length_map]
   have:=List.length_filter_le (fun a=>decide (mask/2^a%2=1)) (List.range m)
   rwa [List.length_range] at this
  have:LIM=1048576:=rfl
  omega
 have hll':((lotOf m mask).map D.int).length<LIM:=by rw[List.length_map];exact hll
 have hfirst:exS (evCall FT W n) W (.asg 4 (.tupOf (.lcomp (.var 6) [6] false (.irange (.lit (.int 0)) (.var 0)) (some lrCond)))) [some (.int (m:Nat)),some (.int (s:Nat)),some (.ref σ.length),some (.int (mask:Nat)),o4,o5,o6] (σ++[.list ds v])
   = some (.next,[some (.int (m:Nat)),some (.int (s:Nat)),some (.ref σ.length),some (.int (mask:Nat)),some (keyD (lotOf m mask)),o5,o6],σ++[.list ds v]):=by
  simp only[exS,ev,hL,hll',if_true]
  rfl
 have hlen:lenD (σ++[.list ds v]) (keyD (lotOf m mask))=some ((((lotOf m mask).length:Nat):Int)):=by
  simp only[lenD,keyD]
  rw[if_pos hll',List.length_map]
 have hbe:((((lotOf m mask).length:Nat):Int)==((s:Nat):Int))=decide ((lotOf m mask).length=s):=by
  rw[Bool.eq_iff_iff,beq_iff_eq,decide_eq_true_eq];omega
 by_cases h:(lotOf m mask).length=s
 ·refine⟨v+1,seq_next hfirst ?_⟩
  rw[if_pos h]
  simp only[exS,evT,ev,List.getElem?_cons_zero,List.getElem?_cons_succ,hlen,cmp_eq_int,hbe,decide_eq_true h,truthD,Option.map,isLst,get_new,if_true,hds,set_new]
 ·refine⟨v,seq_next hfirst ?_⟩
  rw[if_neg h,List.append_nil]
  simp only[exS,evT,ev,List.getElem?_cons_zero,List.getElem?_cons_succ,hlen,cmp_eq_int,hbe,decide_eq_false h,truthD,Option.map]
theorem lr_loop {n m s:Nat} {o5 o6:Option D} (hm:m≤6):∀(suf:List Nat) (ds:List D) (v:Nat) (o3 o4:Option D),ds.length+suf.length<LIM→
  ∃v' q3 q4,forGo (bindT [3] false) (exS (evCall FT W n) W lrBody) none (suf.map fun a:Nat=>.int (a:Int)) [some (.int (m:Nat)),some (.int (s:Nat)),some (.ref σ.length),o3,o4,o5,o6] (σ++[.list ds v])
   = some (.next,[some (.int (m:Nat)),some (.int (s:Nat)),some (.ref σ.length),q3,q4,o5,o6],σ++[.list (ds++((suf.map (lotOf m)).filter fun t=>decide (t.length=s)).map keyD) v'])
 | [],ds,v,o3,o4,_=>⟨v,o3,o4,by simp[forGo]⟩
 |a::suf,ds,v,o3,o4,hl=>by
  simp only[List.length_cons] at hl
  obtain⟨v1,ht⟩:=lr_turn (W:=W) (σ:=σ) (n:=n) (m:=m) (s:=s) (mask:=a) (v:=v) (ds:=ds) (o4:=o4) (o5:=o5) (o6:=o6) hm (by omega)
  obtain⟨v',q3,q4,h2⟩:=lr_loop (s:=s) (o5:=o5) (o6:=o6) hm suf (ds++(if (lotOf m a).length=s then [keyD (lotOf m a)] else [])) v1 (some (.int (a:Nat))) (some (keyD (lotOf m a))) (by
   rw[List.length_append];split<;>simp<;>omega)
  refine⟨v',q3,q4,?_⟩
  rw[List.map_cons]
  refine(for_next (by simp[bindT]) ht (by simp[srcOk])).trans (h2.trans ?_)
  by_cases h:(lotOf m a).length=s<;>simp[h]
theorem lots_right_call {n m s:Nat} (hm:m≤6) (hs:s≤3) (hn:s+2≤n) (hc:lotChk (lotsL s m) (dueL m s)=true) (hcl:(lotsL s m).length=(dueL m s).length) :
  ∃σ',evCall FT W n f_law_lots_right [.int (m:Nat),.int (s:Nat)] σ=some (.bool true,σ')∧Ext σ σ':=by
 obtain⟨n,rfl⟩:∃k,n=k+1:=⟨n-1,by omega⟩
 have h2m:2^m≤2^6:=Nat.pow_le_pow_right (by omega) hm
 obtain⟨v,q3,q4,h1⟩:=lr_loop (W:=W) (σ:=σ) (n:=n) (m:=m) (s:=s) (o5:=none) (o6:=none) hm (List.range (2^m)) [] 0 none none (by
  rw[List.length_range];have:LIM=1048576:=rfl;simp;omega)
 have hdue:([]:List D)++(((List.range (2^m)).map (lotOf m)).filter fun t=>decide (t.length=s)).map keyD=(dueL m s).map keyD:=rfl
 rw[hdue] at h1
 obtain⟨r,σ2,v2,h2,e2,hr,g2⟩:=lots_call' (W:=W) (n:=n) (m:=m) (s:=s) (σ:=σ++[.list ((dueL m s).map keyD) v]) (by omega) (by omega) (by omega)
 have g0:σ2[σ.length]?=some (.list ((dueL m s).map keyD) v):=e2.get (get_new _ _)
 have hrne:r≠σ.length:=by simp at hr;omega
 obtain⟨S,s1,s2⟩:=lotChk_spec hc
 have t1:∀σ,sortD σ ((lotsL s m).map keyD)=some (S.map keyD):=fun σ=>by rw[sort_keys,s1]
 have t2:∀σ,sortD σ ((dueL m s).map keyD)=some (S.map keyD):=fun σ=>by rw[sort_keys,s2]
 refine⟨σ2++[.list (S.map keyD) 0]++[.list (S.map keyD) 0],?_,(((Ext.app _ _).trans e2).app_r _).app_r _⟩
 have hl1:((lotsL s m).map keyD).length<LIM:=by
  rw[List.length_map]
  have:=lotsL_len s m (by omega)
  have:8^s≤8^3:=Nat.pow_le_pow_right (by omega) hs
  have:LIM=1048576:=rfl
  omega
 have hl2:((dueL m s).map keyD).length<LIM:=by rw[List.length_map,←hcl];rw[List.length_map] at hl1;exact hl1
 refine call_ret (fn:=⟨2,7,b_law_lots_right⟩) rfl rfl (l:=[some (.int (m:Nat)),some (.int (s:Nat)),some (.ref σ.length),q3,q4,some (.ref r),none])
  (seq_next (l1:=[some (.int (m:Nat)),some (.int (s:Nat)),some (.ref σ.length),none,none,none,none]) (σ1:=σ++[.list [] 0]) ?_
  (seq_next (l1:=[some (.int (m:Nat)),some (.int (s:Nat)),some (.ref σ.length),q3,q4,none,none]) (σ1:=σ++[.list ((dueL m s).map keyD) v]) ?_
  (seq_next (l1:=[some (.int (m:Nat)),some (.int (s:Nat)),some (.ref σ.length),q3,q4,some (.ref r),none]) (σ1:=σ2) ?_ ?_)))
 ·simp[exS,ev,evs,evL,LIM]
 ·rw[for_ev (ds:=(List.range (2^m)).map fun a:Nat=>.int (a:Int)) (src:=none) (σ1:=σ++[.list [] 0])]
  ·exact h1
  ·have hp:binD .pow (.int 2) (.int (m:Int)) (σ++[.list [] 0])=some (.int ((2^m:Nat):Int),σ++[.list [] 0]):=by
    simp only[binD]
    rw[if_pos ⟨trivial,by omega,by omega⟩,Int.toNat_natCast,Int.natCast_pow];rfl
   simp only[evI,ev,List.map_cons,List.map_nil,List.cons_append,List.nil_append,List.getElem?_cons_zero,hp]
   clear h1 hdue hp
   generalize 2^m=M at *
   rw[if_pos (by have:LIM=1048576:=rfl;omega)]
   simp only[rangeD]
   rw[show((M:Int)-0).toNat=M by omega]
   simp
 ·simp only[exS,ev,evs,List.getElem?_cons_zero,List.getElem?_cons_succ,h2]
  rfl
 ·have ea:ev (evCall FT W n) (.sorted (.var 5)) [some (.int (m:Nat)),some (.int (s:Nat)),some (.ref σ.length),q3,q4,some (.ref r),none] σ2=some (.ref σ2.length,σ2++[.list (S.map keyD) 0]):=by
   simp only[ev,List.getElem?_cons_zero,List.getElem?_cons_succ,g2,t1]
  have g0':=get_old (τ:=[AO.list (S.map keyD) 0]) g0
  have eb:ev (evCall FT W n) (.sorted (.var 2)) [some (.int (m:Nat)),some (.int (s:Nat)),some (.ref σ.length),q3,q4,some (.ref r),none] (σ2++[.list (S.map keyD) 0])=some (.ref (σ2.length+1),σ2++[.list (S.map keyD) 0]++[.list (S.map keyD) 0]):=by
   simp only[ev,List.getElem?_cons_zero,List.getElem?_cons_succ,g0',t2]
   simp
  have ga:(σ2++[AO.list (S.map keyD) 0]++[AO.list (S.map keyD) 0])[σ2.length]?=some (.list (S.map keyD) 0):=by simp
  have gb:(σ2++[AO.list (S.map keyD) 0]++[AO.list (S.map keyD) 0])[σ2.length+1]?=some (.list (S.map keyD) 0):=by simp
  have gr:=get_old (τ:=[AO.list (S.map keyD) 0]) (get_old (τ:=[AO.list (S.map keyD) 0]) g2)
  have gd:=get_old (τ:=[AO.list (S.map keyD) 0]) g0'
  generalize σ2++[AO.list (S.map keyD) 0]++[AO.list (S.map keyD) 0]=σ3 at *
  have hq:cmpD .eq (.ref σ2.length) (.ref (σ2.length+1)) σ3=some true:=by
   have hne:¬σ2.length=σ2.length+1:=by omega
   show(if σ2.length=σ2.length+1 then none else eqD σ3 8 (.ref σ2.length) (.ref (σ2.length+1)))=_
   rw[if_neg hne]
   show(if σ2.length=σ2.length+1 then some true else _)=_
   rw[if_neg hne,ga,gb]
   show(if _ then eqAll (eqD σ3 7) (S.map keyD) (S.map keyD) else _)=_
   rw[if_pos rfl]
   exact eq_keys σ3 5 S
  have hl:cmpD .eq (.int (((lotsL s m).map keyD).length:Nat)) (.int (((dueL m s).map keyD).length:Nat)) σ3=some true:=by
   rw[cmp_eq_int,List.length_map,List.length_map,hcl];simp
  have hc1:=ev_cmp (op:=.eq) ea eb hq
  have hc2:ev (evCall FT W n) (.cmp .eq (.len (.var 5)) (.len (.var 2))) [some (.int (m:Nat)),some (.int (s:Nat)),some (.ref σ.length),q3,q4,some (.ref r),none] σ3=some (.bool true,σ3):=by
   refine ev_cmp (σ1:=σ3) (x:=.int (((lotsL s m).map keyD).length:Nat)) (y:=.int (((dueL m s).map keyD).length:Nat)) ?_ ?_ hl
   ·simp only[ev,List.getElem?_cons_zero,List.getElem?_cons_succ,lenD,gr,hl1,if_true]
   ·simp only[ev,List.getElem?_cons_zero,List.getElem?_cons_succ,lenD,gd,hl2,if_true]
  exact ex_ret (ev_and_t hc1 hc2)
theorem lots_all:∀m∈List.range 6,∀s∈List.range 4,lotChk (lotsL s m) (dueL m s)=true∧(lotsL s m).length=(dueL m s).length:=by decide +kernel
end
theorem fl_at {k:Nat} {c:Cf} {w:Nat} (sc:Supp k c) {x y:Int} (h0:0≤x) (h1:x<w):fl c w (x+w*y)=c x y:=by
 unfold fl
 have h:=(pos_iff (p:=x+w*y) (y:=y) h0 h1).mp rfl
 rw[h.1,h.2]
 split
 ·rfl
 ·rename_i hn
  refine(Classical.byContradiction fun hc=>hn ?_)
  have:=sc x y (fun q=>hc q.symm)
  have:0≤(w:Int)*y:=Int.mul_nonneg (by omega) (by omega)
  omega
theorem fl_neg {c:Cf} {w q:Int} (h:q<0):fl c w q=0:=by unfold fl;rw[if_neg (by omega)]
theorem fl_T {k:Nat} {c:Cf} {w:Nat} {p:Par} (ok:p.Ok) (sc:Supp k c) (hk:k+1<w) (q:Int):fl (T p c) w q=fl c w (q-(1+p.e*w))+p.a*fl c w (q-w)+p.b*fl c w q:=by
 have he:=ok.e
 by_cases hq:0≤q
 ·have hb:=Int.emod_nonneg q (show(w:Int)≠0 by omega)
  have hb2:=Int.emod_lt_of_pos q (show(0:Int)<w by omega)
  have hx:=Int.emod_add_mul_ediv q w
  have hqv:q=q%w+w*(q/w):=by omega
  generalize q%w=x at *
  generalize q/w=y at *
  subst hqv
  rw[fl_at (sc.T ok) hb hb2,fl_at sc hb hb2]
  unfold T
  have h2:x+(w:Int)*y-w=x+w*(y-1):=by grind
  rw[h2,fl_at sc hb hb2]
  congr 2
  by_cases hx1:1≤x
  ·have h3:x+(w:Int)*y-(1+p.e*w)=(x-1)+w*(y-p.e):=by grind
   rw[h3,fl_at sc (by omega) (by omega)]
  ·have h3:x+(w:Int)*y-(1+p.e*w)=(w-1)+w*(y-p.e-1):=by
    rw[show x=0 by omega];grind
   rw[h3,fl_at sc (by omega) (by omega)]
   have z1:c (x-1) (y-p.e)=0:=Classical.byContradiction fun h=>by have:=sc _ _ h;omega
   have z2:c ((w:Int)-1) (y-p.e-1)=0:=Classical.byContradiction fun h=>by have:=sc _ _ h;omega
   rw[z1,z2]
 ·have hw:0≤p.e*(w:Int):=Int.mul_nonneg (by omega) (by omega)
  rw[fl_neg (by omega),fl_neg (by omega),fl_neg (by omega),fl_neg (by omega)]
  simp
theorem fl_dlt {w:Nat} (hw:2≤w) (q:Int):fl dlt w q=if q=0 then 1 else 0:=by
 by_cases hq:q=0
 ·subst hq
  have:=fl_at (w:=w) supp_dlt (x:=0) (y:=0) (by omega) (by omega)
  rw[Int.mul_zero,Int.zero_add] at this
  rw[this];rfl
 ·rw[if_neg hq]
  unfold fl
  split
  ·unfold dlt
   rw[if_neg]
   rintro⟨h1,h2⟩
   have:=Int.emod_add_mul_ediv q w
   rw[h1,h2] at this
   omega
  ·rfl
theorem zs_three {b:List Int} {s1 s2 s3 v1 v2 v3:Int} (hb:∀q,zat b q=(if q=s1 then v1 else 0)+(if q=s2 then v2 else 0)+(if q=s3 then v3 else 0)) :
  ∀(a:List Int) (q:Int),zs a b q=v1*zat a (q-s1)+v2*zat a (q-s2)+v3*zat a (q-s3)
 | [],q=>by simp[zs,zat_nil]
 |x::a,q=>by
  have ih:=zs_three hb a (q-1)
  simp only[zs]
  rw[ih,hb,zat_cons,zat_cons,zat_cons,show q-1-s1=q-s1-1 by omega,show q-1-s2=q-s2-1 by omega,show q-1-s3=q-s3-1 by omega]
  have e:∀s v:Int,(if q=s then v else 0)*x=v*(if q-s=0 then x else 0):=fun s v=>by
   by_cases h:q=s
   ·rw[if_pos h,if_pos (by omega)]
   ·rw[if_neg h,if_neg (by omega)];simp
  have e1:=e s1 v1
  have e2:=e s2 v2
  have e3:=e s3 v3
  generalize (if q=s1 then v1 else 0)=u1 at *
  generalize (if q=s2 then v2 else 0)=u2 at *
  generalize (if q=s3 then v3 else 0)=u3 at *
  grind
theorem zs_T {k:Nat} {c:Cf} {w:Nat} {p:Par} {n m:Int} {a b:List Int} (ok:p.Ok) (sc:Supp k c) (hk:k+1<w) (ha:∀q,zat a q=m*fl c w q) (hb:∀q,zat b q=n*fl (T p dlt) w q) (q:Int) :
  zs a b q=(m*n)*fl (T p c) w q:=by
 have hb':∀q,zat b q=(if q=1+p.e*w then n else 0)+(if q=(w:Int) then n*p.a else 0)+(if q=0 then n*p.b else 0):=fun q=>by
  rw[hb,fl_T ok supp_dlt (by omega),fl_dlt (by omega),fl_dlt (by omega),fl_dlt (by omega)]
  have e1:(q-(1+p.e*(w:Int))=0)↔(q=1+p.e*w):=by omega
  have e2:(q-(w:Int)=0)↔(q=w):=by omega
  simp only[e1,e2]
  generalize hA:(if q=1+p.e*(w:Int) then (1:Int) else 0)=A
  generalize hB:(if q=(w:Int) then (1:Int) else 0)=B
  generalize hC:(if q=0 then (1:Int) else 0)=C
  have fA:(if q=1+p.e*(w:Int) then n else 0)=n*A:=by rw[←hA];split<;>simp
  have fB:(if q=(w:Int) then n*p.a else 0)=n*p.a*B:=by rw[←hB];split<;>simp
  have fC:(if q=0 then n*p.b else 0)=n*p.b*C:=by rw[←hC];split<;>simp
  rw[fA,fB,fC]
  grind
 rw[zs_three hb',ha,ha,ha,fl_T ok sc hk,Int.sub_zero]
 grind
theorem zs_one {c:Cf} {w:Nat} {n m:Int} {a b:List Int} (ha:∀q,zat a q=m*fl c w q) (hb:∀q,zat b q=if q=0 then n else 0) (q:Int):zs a b q=(m*n)*fl c w q:=by
 have hb':∀q,zat b q=(if q=0 then n else 0)+(if q=0 then 0 else 0)+(if q=0 then 0 else 0):=fun q=>by rw[hb];simp
 rw[zs_three hb',ha,Int.sub_zero]
 grind
structure IsPiece (n:Int) (w:Nat) (p:Par) (r:Nat) (σ:St):Prop where
 ex:∃z,IsRow z r σ∧(∀q,zat z q=n*fl (T p dlt) w q)∧z.length≤2*w∧z≠[]∧∀y∈z,y.natAbs<2^63
theorem IsPiece.ext {n:Int} {w:Nat} {p:Par} {r:Nat} {a b:St} (h:IsPiece n w p r a) (e:Ext a b):IsPiece n w p r b:=by
 obtain⟨z,h1,h2⟩:=h.ex
 exact⟨z,h1.ext e,h2⟩
theorem PolI.scale {c:Cf} {n:Int} {es:Es} (hn:n≠0) (p:PolI (fun x y=>n*c x y) es):Pol n 1 c es where
 nd:=p.nd
 get:=fun x y=>by
  rw[p.get]
  by_cases h:c x y=0
  ·simp[h]
  ·have:n*c x y≠0:=Int.mul_ne_zero hn h
   rw[if_neg this,if_neg h,Int.mul_one,Int.mul_comm]
 two:=p.two
theorem unf_scale {z:List Int} {c:Cf} {w:Nat} {K:Nat} {n:Int} (h:∀q,zat z q=n*fl c w q) (sc:Supp K c) (hK:K<w):unf z w=fun x y=>n*c x y:=by
 funext x y
 unfold unf
 by_cases hx:0≤x∧x<(w:Int)
 ·rw[if_pos hx,h,fl_at sc hx.1 hx.2]
 ·rw[if_neg hx]
  have:c x y=0:=Classical.byContradiction fun hc=>hx (by have:=sc x y hc;omega)
  rw[this];simp
section
variable {W k:Nat} {σ:St}
theorem cand_end {z:List Int} {r w K:Nat} {n:Int} {c:Cf} {X Y:Int} {o0 o1 o4:Option D} (hW:2^30≤W) (hw:2≤w) (hw':w≤8) (hr:IsRow z r σ) (hz:∀q,zat z q=n*fl c w q) (hl:z.length≤9*w) (sc:Supp K c) (hK:K<w) (hn:n≠0) (hn':n.natAbs≤9)
  (bc:Bnd 8 c) (hL:Lead X Y c) :
  ∃r' σ',exS (evCall FT W (k+5)) W (.ret (.idx (.call f_whole_form (.acons (.call f_unfolded (.acons (.var 3) (.acons (.var 2) (.anil)))) (.anil))) (.lit (.int 1)))) [o0,o1,some (.int w),some (.ref r),o4] σ
   = some (.ret (.ref r'),[o0,o1,some (.int w),some (.ref r),o4],σ')∧Ext σ σ'∧σ.length≤r'∧IsPol 1 1 c r' σ':=by
 obtain⟨gs,v,h1,p⟩:=unfolded_call (W:=W) (k:=k+4) hw hw' hr hl
 rw[unf_scale hz sc hK] at p
 have pn:=PolI.scale hn p
 obtain⟨r',σ',h2,e2,hr2,hp⟩:=whole_form_call (W:=W) (k:=k) (σ:=σ++[.dict gs v]) (n:=n) (dn:=1) (c:=c) (i:=σ.length) (X:=X) (Y:=Y) hW (by omega) (by omega) hn (by omega) (by simp) (fun x y=>by
  have h1:=bc x y
  rw[Int.natAbs_mul]
  have:(c x y).natAbs*n.natAbs≤6^8*9:=Nat.mul_le_mul h1 hn'
  have h68:(6:Nat)^8*9<2^30:=by decide
  omega) (sc.box (by omega)) hL ⟨gs,v,get_new _ _,pn⟩
 refine⟨r',σ',?_,(Ext.app _ _).trans e2,by simp at hr2;omega,hp⟩
 have i1:idxD σ' (.tup [qD n (1:Nat),.ref r']) (.int 1)=some (.ref r'):=rfl
 simp only[exS,ev,evs,List.getElem?_cons_zero,List.getElem?_cons_succ,h1,h2,i1]
abbrev cdBody:XS:=.asg 3 (.call f_zmul (.acons (.var 3) (.acons (.idx (.var 0) (.var 4)) (.anil))))
theorem cd_loop {ip wp w:Nat} {n:Int} {P:List (Nat×Par)} (hw':w≤8) (o1:Option D) :
  ∀(L:List (Nat×(Nat×Par))) (σ:St) (z:List Int) (r K:Nat) (c:Cf) (m:Int) (o4:Option D),σ[ip]?=some (.list (P.map fun q=>.ref q.1) wp)→(∀x∈L,P[x.1]?=some x.2∧IsPiece n w x.2.2 x.2.1 σ∧x.2.2.Ok∧x.1<100)→
   IsRow z r σ→(∀q,zat z q=m*fl c w q)→Supp K c→K+L.length<w→z.length≤1+K*(2*w)→z≠[]→
   ∃z' r' σ' q4,forGo (bindT [4] false) (exS (evCall FT W (k+1)) W cdBody) none (L.map fun x=>.int (x.1:Nat)) [some (.ref ip),o1,some (.int w),some (.ref r),o4] σ
    = some (.next,[some (.ref ip),o1,some (.int w),some (.ref r'),q4],σ')∧Ext σ σ'∧IsRow z' r' σ'∧(∀q,zat z' q=(m*n^L.length)*fl ((L.map (·.2.2)).foldl (fun c p=>T p c) c) w q)∧z'.length≤1+(K+L.length)*(2*w)
 | [],σ,z,r,K,c,m,o4,_,_,hr,hz,_,_,hl,_=>⟨z,r,σ,o4,rfl,Ext.refl _,hr,by simpa using hz,by simpa using hl⟩
 |x::L,σ,z,r,K,c,m,o4,hp,hL,hr,hz,sc,hk,hl,hz0=>by
  simp only[List.length_cons] at hk ⊢
  obtain⟨hx,hpc,ok,hx100⟩:=hL x List.mem_cons_self
  obtain⟨b,hb1,hb2,hb3,hb4,hb5⟩:=hpc.ex
  have hKw:K*(2*w)≤8*16:=Nat.mul_le_mul (by omega) (by omega)
  obtain⟨z1,v,h1,h2,h3⟩:=zmul_call (W:=W) (k:=k) hr hb1 hb5 hz0 hb4 (by omega)
  have hz1:∀q,zat z1 q=(m*n)*fl (T x.2.2 c) w q:=fun q=>by rw[h3];exact zs_T ok sc (by omega) hz hb2 q
  have hz10:z1≠[]:=by
   rintro rfl
   have:=List.length_pos_iff.mpr hz0
   have:=List.length_pos_iff.mpr hb4
   simp at h2;omega
  have e1:=Ext.app σ [.list (z1.map .int) v]
  obtain⟨z',r',σ',q4,hlp,e2,hr',hz',hl'⟩:=cd_loop hw' o1 L (σ++[.list (z1.map .int) v]) z1 σ.length (K+1) (T x.2.2 c) (m*n) (some (.int (x.1:Nat))) (e1.get hp) (fun y hy=>by
   obtain⟨a1,a2,a3,a4⟩:=hL y (List.mem_cons_of_mem _ hy)
   exact⟨a1,a2.ext e1,a3,a4⟩) ⟨v,get_new _ _⟩ hz1 (sc.T ok) (by omega) (by
    have:(K+1)*(2*w)=K*(2*w)+2*w:=by rw[Nat.succ_mul]
    omega) hz10
  refine⟨z',r',σ',q4,?_,e1.trans e2,hr',fun q=>?_,?_⟩
  ·rw[List.map_cons]
   refine(for_next (l1:=[some (.ref ip),o1,some (.int w),some (.ref r),some (.int (x.1:Nat))]) (by simp[bindT]) ?_ rfl).trans hlp
   have ix:idxD σ (.ref ip) (.int (x.1:Nat))=some (.ref x.2.1):=by
    simp only[idxD,hp]
    rw[if_pos (by have:LIM=1048576:=rfl;omega),Int.toNat_natCast,List.getElem?_map,hx];rfl
   simp only[exS,ev,evs,List.getElem?_cons_zero,List.getElem?_cons_succ,ix,h1]
   rfl
  ·rw[hz']
   simp only[List.map_cons,List.foldl_cons]
   rw[Int.pow_succ]
   grind
  ·rw[show K+1+L.length=K+(L.length+1) by omega] at hl';exact hl'
theorem candidate_call {ip wp w:Nat} {n:Int} {P:List (Nat×Par)} {L:List (Nat×(Nat×Par))} (hW:2^30≤W) (hw:2≤w) (hw':w≤8) (hn:n≠0) (hn':n.natAbs≤3) (hp:σ[ip]?=some (.list (P.map fun q=>.ref q.1) wp))
  (hL:∀x∈L,P[x.1]?=some x.2∧IsPiece n w x.2.2 x.2.1 σ∧x.2.2.Ok∧x.1<100) (hl:L.length<w) (hl2:L.length≤2) :
  ∃r σ',evCall FT W (k+6) f_candidate_of [.ref ip,keyD (L.map fun x=>((x.1:Nat):Int)),.int w] σ=some (.ref r,σ')∧Ext σ σ'∧σ.length≤r∧IsPol 1 1 (prodT (L.map (·.2.2))) r σ':=by
 have hpe:=get_old (τ:=[AO.list [.int 1] 0]) hp
 obtain⟨z,r,σ1,q4,h1,e1,hr,hz,hzl⟩:=cd_loop (W:=W) (k:=k+4) (w:=w) (n:=n) hw' (some (keyD (L.map fun x=>((x.1:Nat):Int)))) L (σ++[.list [.int 1] 0]) [1] σ.length 0 dlt 1 none hpe (fun y hy=>by
  obtain⟨a1,a2,a3,a4⟩:=hL y hy
  exact⟨a1,a2.ext (Ext.app _ _),a3,a4⟩) ⟨0,get_new _ _⟩ (fun q=>by rw[fl_dlt hw,zat_cons,zat_nil];simp) supp_dlt (by omega) (by simp) (by simp)
 rw[foldl_prodT,Int.one_mul] at hz
 rw[Nat.zero_add] at hzl
 have okL:∀p∈L.map (·.2.2),p.Ok:=fun p hp=>by
  obtain⟨x,hx,rfl⟩:=List.mem_map.mp hp
  exact(hL x hx).2.2.1
 obtain⟨X,Y,hlead⟩:=prod_lead okL
 have sp:=prod_supp okL
 have bp:=prod_bnd okL
 rw[List.length_map] at sp bp
 have hnp:n^L.length≠0∧(n^L.length).natAbs≤9:=by
  refine⟨Int.pow_ne_zero hn,?_⟩
  rw[Int.natAbs_pow]
  have h1:n.natAbs^L.length≤3^L.length:=Nat.pow_le_pow_left hn' _
  have h2:3^L.length≤3^2:=Nat.pow_le_pow_right (by omega) hl2
  omega
 have hLw:L.length*(2*w)≤2*(2*w):=Nat.mul_le_mul_right _ hl2
 obtain⟨r',σ',h2,e2,hr',hpol⟩:=cand_end (W:=W) (k:=k) (o0:=some (.ref ip)) (o1:=some (keyD (L.map fun x=>((x.1:Nat):Int)))) (o4:=q4) hW hw hw' hr hz (by omega) sp (by omega) hnp.1 hnp.2 (fun x y=>Nat.le_trans (bp x y) (Nat.pow_le_pow_right (by omega) (by omega))) hlead
 refine⟨r',σ',?_,((Ext.app _ _).trans e1).trans e2,?_,hpol⟩
 ·refine call_ret (fn:=⟨3,5,b_candidate_of⟩) rfl rfl (l:=[some (.ref ip),some (keyD (L.map fun x=>((x.1:Nat):Int))),some (.int w),some (.ref r),q4])
   (seq_next (l1:=[some (.ref ip),some (keyD (L.map fun x=>((x.1:Nat):Int))),some (.int w),some (.ref σ.length),none]) (σ1:=σ++[.list [.int 1] 0]) ?_ (seq_next (l1:=[some (.ref ip),some (keyD (L.map fun x=>((x.1:Nat):Int))),some (.int w),some (.ref r),q4]) (σ1:=σ1) ?_ h2))
  ·simp[exS,ev,evs,evL,LIM]
  ·rw[for_ev (ds:=L.map fun x=>.int (x.1:Nat)) (src:=none) (σ1:=σ++[.list [.int 1] 0])]
   ·exact h1
   ·simp[evI,ev,iterOf,keyD]
 ·obtain⟨t,rfl⟩:=e1
  simp only[List.length_append] at hr'
  omega
end
section
variable {W k:Nat} {σ:St}
theorem lots1 (m:Nat):lotsL 1 m=(List.range m).map fun t:Nat=>[(t:Int)]:=by
 simp[lotsL]
 rw[List.flatMap_def]
 induction List.range m with
 |nil=>rfl
 |cons a l ih=>simp at ih ⊢;exact ih
abbrev fhIn:XS:=.ifs (.not (.call f_is_number_form (.acons (.var 5) (.anil)))) (.seq (.asg 6 (.call f_mvexact (.acons (.var 0) (.acons (.var 5) (.anil)))))
  (.ifs (.notn (.var 6)) (.ret (.tup (.acons (.var 4) (.acons (.var 5) (.acons (.idx (.call f_whole_form (.acons (.var 6) (.anil))) (.lit (.int 1))) (.anil)))))) (.nil))) (.nil)
abbrev fhBody:XS:=.seq (.asg 5 (.call f_candidate_of (.acons (.var 1) (.acons (.var 4) (.acons (.var 3) (.anil)))))) fhIn
theorem T_dlt_num {p:Par} (ok:p.Ok) {r:Nat} (h:IsPol 1 1 (T p dlt) r σ):evCall FT W (k+1) f_is_number_form [.ref r] σ=some (.bool false,σ):=by
 have hl:Lead (0+1) (0+p.e) (T p dlt):=lead_dlt.T ok
 have he:=ok.e
 exact num_no h ((supp_dlt.T ok).box (by omega)) (x:=0+1) (y:=0+p.e) (by rw[hl.1];decide) (by omega)
theorem fh_yes {ip wp w i a:Nat} {n:Int} {P:List (Nat×Par)} {q:Nat×Par} {Qt:Cf} {K:Nat} {X Y:Int} {o2 o5 o6:Option D} (hW:2^30≤W) (hw:2≤w) (hw':w≤8) (hn:n≠0) (hn':n.natAbs≤3) (hp:σ[ip]?=some (.list (P.map fun q=>.ref q.1) wp))
  (hq:P[a]?=some q) (hpc:IsPiece n w q.2 q.1 σ) (ok:q.2.Ok) (ha:a<100) (hi:IsPol 1 1 (T q.2 Qt) i σ) (sQ:Supp K Qt) (hK:K+1≤8) (bQ:Bnd 8 Qt) (hL:Lead X Y Qt) :
  ∃l' r1 r2 σ',exS (evCall FT W (k+9)) W fhBody [some (.ref i),some (.ref ip),o2,some (.int w),some (keyD [(a:Int)]),o5,o6] σ=some (.ret (.tup [keyD [(a:Int)],.ref r1,.ref r2]),l',σ')∧Ext σ σ'∧IsPol 1 1 (T q.2 dlt) r1 σ'∧IsPol 1 1 Qt r2 σ'∧σ.length≤r1∧σ.length≤r2:=by
 obtain⟨r1,σ1,h1,e1,hr1,p1⟩:=candidate_call (W:=W) (k:=k+3) (L:=[(a,q)]) hW hw hw' hn hn' hp (fun x hx=>by simp only[List.mem_singleton] at hx;subst hx;exact⟨hq,hpc,ok,ha⟩) (by simp;omega) (by simp)
 have p1':IsPol 1 1 (T q.2 dlt) r1 σ1:=p1
 have h2:=T_dlt_num (W:=W) (k:=k+8) ok p1'
 obtain⟨r3,σ2,h3,e2,p3⟩:=mvexact_yes (W:=W) (k:=k) (σ:=σ1) hW ok p1' (hi.ext e1) sQ hK bQ
 obtain⟨r2,σ3,h4,e3,hr2,p4⟩:=whole_form_call (W:=W) (k:=k+4) (σ:=σ2) (n:=1) (dn:=1) (c:=Qt) (i:=r3) (X:=X) (Y:=Y) hW (by omega) (by omega) (by omega) (by omega) (by simp) (fun x y=>by
  have h1:=bQ x y
  have h68:(6:Nat)^8<2^30:=by decide
  omega) (sQ.box (by omega)) hL p3
 refine⟨[some (.ref i),some (.ref ip),o2,some (.int w),some (keyD [(a:Int)]),some (.ref r1),some (.ref r3)],r1,r2,σ3,?_,(e1.trans e2).trans e3,(p1'.ext e2).ext e3,p4,hr1,?_⟩
 ·refine seq_next (l1:=[some (.ref i),some (.ref ip),o2,some (.int w),some (keyD [(a:Int)]),some (.ref r1),o6]) (σ1:=σ1) ?_ ?_
  ·have h1':evCall FT W (k+9) f_candidate_of [.ref ip,keyD [(a:Int)],.int w] σ=some (.ref r1,σ1):=h1
   simp only[exS,ev,evs,List.getElem?_cons_zero,List.getElem?_cons_succ,h1']
   rfl
  ·have i1:idxD σ3 (.tup [qD 1 (1:Nat),.ref r2]) (.int 1)=some (.ref r2):=rfl
   simp only[Int.natCast_one] at h4 i1
   simp[exS,evT,ev,evs,h2,truthD,h3,h4,i1,LIM]
 ·obtain⟨t1,rfl⟩:=e1
  obtain⟨t2,rfl⟩:=e2
  simp only[List.length_append] at hr2
  omega
theorem first_hit_yes {ip wp w i:Nat} {n:Int} {P:List (Nat×Par)} {q:Nat×Par} {Qt:Cf} {K:Nat} {X Y:Int} (hW:2^30≤W) (hw:2≤w) (hw':w≤8) (hn:n≠0) (hn':n.natAbs≤3) (hp:σ[ip]?=some (.list ((q::P).map fun q=>.ref q.1) wp)) (hP:P.length<8)
  (hpc:IsPiece n w q.2 q.1 σ) (ok:q.2.Ok) (hi:IsPol 1 1 (T q.2 Qt) i σ) (sQ:Supp K Qt) (hK:K+1≤8) (bQ:Bnd 8 Qt) (hL:Lead X Y Qt) :
  ∃r1 r2 σ',evCall FT W (k+10) f_first_hit [.ref i,.ref ip,.int 1,.int w] σ=some (.tup [keyD [0],.ref r1,.ref r2],σ')∧Ext σ σ'∧IsPol 1 1 (T q.2 dlt) r1 σ'∧IsPol 1 1 Qt r2 σ'∧σ.length≤r1∧σ.length≤r2:=by
 obtain⟨r,σ1,v,h1,e1,hr,g1⟩:=lots_call' (W:=W) (n:=k+9) (m:=P.length+1) (s:=1) (σ:=σ) (by omega) (by omega) (by omega)
 obtain⟨l',r1,r2,σ2,h2,e2,p1,p2,hr1,hr2⟩:=fh_yes (W:=W) (k:=k) (σ:=σ1) (P:=q::P) (o2:=some (.int 1)) (o5:=none) (o6:=none) hW hw hw' hn hn' (e1.get hp) (a:=0) (q:=q) rfl (hpc.ext e1) ok (by omega) (hi.ext e1) sQ hK bQ hL
 obtain⟨t1,rfl⟩:=e1
 refine⟨r1,r2,σ2,?_,(Ext.app _ _).trans e2,p1,p2,by simp at hr1;omega,by simp at hr2;omega⟩
 refine call_ret (fn:=⟨4,7,b_first_hit⟩) rfl rfl (l:=l') (seq_ret ?_)
 rw[for_ev (ds:=(lotsL 1 (P.length+1)).map keyD) (src:=some (r,v)) (σ1:=σ++t1)]
 ·rw[lots1,List.range_succ_eq_map]
  simp only[List.map_cons]
  exact for_ret (by simp[bindT]) h2
 ·have hlen:lenD σ (.ref ip)=some ((P.length+1:Nat):Int):=by
   simp only[lenD,hp]
   rw[if_pos (by rw[List.length_map,List.length_cons];have:LIM=1048576:=rfl;omega),List.length_map,List.length_cons]
  have h1':evCall FT W (k+9) f_lots_of [.int ((P.length+1:Nat):Int),.int 1] σ=some (.ref r,σ++t1):=h1
  simp only[evI,ev,evs,List.map_cons,List.map_nil,List.cons_append,List.nil_append,List.getElem?_cons_zero,List.getElem?_cons_succ,hlen,h1',iterOf,g1]
theorem fh_no {ip wp w i wi a:Nat} {n:Int} {P:List (Nat×Par)} {q:Nat×Par} {o2 o5 o6:Option D} (hW:2^30≤W) (hw:2≤w) (hw':w≤8) (hn:n≠0) (hn':n.natAbs≤3) (hp:σ[ip]?=some (.list (P.map fun q=>.ref q.1) wp))
  (hq:P[a]?=some q) (hpc:IsPiece n w q.2 q.1 σ) (ok:q.2.Ok) (ha:a<100) (hi:σ[i]?=some (.dict es7 wi)) :
  ∃r1 σ',exS (evCall FT W (k+9)) W fhBody [some (.ref i),some (.ref ip),o2,some (.int w),some (keyD [(a:Int)]),o5,o6] σ=some (.next,[some (.ref i),some (.ref ip),o2,some (.int w),some (keyD [(a:Int)]),some (.ref r1),some .none],σ')∧Ext σ σ':=by
 obtain⟨r1,σ1,h1,e1,hr1,p1⟩:=candidate_call (W:=W) (k:=k+3) (L:=[(a,q)]) hW hw hw' hn hn' hp (fun x hx=>by simp only[List.mem_singleton] at hx;subst hx;exact⟨hq,hpc,ok,ha⟩) (by simp;omega) (by simp)
 have p1':IsPol 1 1 (T q.2 dlt) r1 σ1:=p1
 have h2:=T_dlt_num (W:=W) (k:=k+8) ok p1'
 obtain⟨σ2,h3,e2⟩:=mvexact_no (W:=W) (k:=k) (σ:=σ1) hW ok p1' (e1.get hi)
 refine⟨r1,σ2,?_,e1.trans e2⟩
 refine seq_next (l1:=[some (.ref i),some (.ref ip),o2,some (.int w),some (keyD [(a:Int)]),some (.ref r1),o6]) (σ1:=σ1) ?_ ?_
 ·have h1':evCall FT W (k+9) f_candidate_of [.ref ip,keyD [(a:Int)],.int w] σ=some (.ref r1,σ1):=h1
  simp only[exS,ev,evs,List.getElem?_cons_zero,List.getElem?_cons_succ,h1']
  rfl
 ·simp[exS,evT,ev,evs,h2,truthD,h3]
theorem fh_none_loop {ip wp w i wi rl vl:Nat} {dl:List D} {n:Int} {P:List (Nat×Par)} {o2:Option D} (hW:2^30≤W) (hw:2≤w) (hw':w≤8) (hn:n≠0) (hn':n.natAbs≤3) :
  ∀(suf:List Nat) (σ:St) (o4 o5 o6:Option D),σ[ip]?=some (.list (P.map fun q=>.ref q.1) wp)→σ[i]?=some (.dict es7 wi)→σ[rl]?=some (.list dl vl)→(∀a∈suf,a<100∧∃q,P[a]?=some q∧IsPiece n w q.2 q.1 σ∧q.2.Ok)→
   ∃σ' l',forGo (bindT [4] false) (exS (evCall FT W (k+9)) W fhBody) (some (rl,vl)) (suf.map fun t:Nat=>keyD [(t:Int)]) [some (.ref i),some (.ref ip),o2,some (.int w),o4,o5,o6] σ=some (.next,l',σ')∧Ext σ σ'
 | [],σ,o4,o5,o6,_,_,_,_=>⟨σ,_,rfl,Ext.refl _⟩
 |a::suf,σ,o4,o5,o6,hp,hi,hrl,hs=>by
  obtain⟨ha,q,hq,hpc,ok⟩:=hs a List.mem_cons_self
  obtain⟨r1,σ1,h1,e1⟩:=fh_no (W:=W) (k:=k) (σ:=σ) (o2:=o2) (o5:=o5) (o6:=o6) hW hw hw' hn hn' hp hq hpc ok ha hi
  obtain⟨σ',l',h2,e2⟩:=fh_none_loop (o2:=o2) hW hw hw' hn hn' suf σ1 (some (keyD [(a:Int)])) (some (.ref r1)) (some .none) (e1.get hp) (e1.get hi) (e1.get hrl) (fun b hb=>by
   obtain⟨hb1,q,hq,hpc,ok⟩:=hs b (List.mem_cons_of_mem _ hb)
   exact⟨hb1,q,hq,hpc.ext e1,ok⟩)
  refine⟨σ',l',?_,e1.trans e2⟩
  rw[List.map_cons]
  exact(for_next (by simp[bindT]) h1 (by simp[srcOk,e1.get hrl,AO.ver])).trans h2
theorem first_hit_none {ip wp w i wi:Nat} {n:Int} {P:List (Nat×Par)} (hW:2^30≤W) (hw:2≤w) (hw':w≤8) (hn:n≠0) (hn':n.natAbs≤3) (hp:σ[ip]?=some (.list (P.map fun q=>.ref q.1) wp)) (hP:P.length≤8)
  (hpc:∀q∈P,IsPiece n w q.2 q.1 σ∧q.2.Ok) (hi:σ[i]?=some (.dict es7 wi)) :
  ∃σ',evCall FT W (k+10) f_first_hit [.ref i,.ref ip,.int 1,.int w] σ=some (.none,σ')∧Ext σ σ':=by
 obtain⟨r,σ1,v,h1,e1,hr,g1⟩:=lots_call' (W:=W) (n:=k+9) (m:=P.length) (s:=1) (σ:=σ) (by omega) (by omega) (by omega)
 obtain⟨σ2,l',h2,e2⟩:=fh_none_loop (W:=W) (k:=k) (o2:=some (.int 1)) hW hw hw' hn hn' (List.range P.length) σ1 none none none (e1.get hp) (e1.get hi) g1 (fun a ha=>by
  rw[List.mem_range] at ha
  have hm:=hpc P[a] (List.getElem_mem ha)
  exact⟨by omega,P[a],List.getElem?_eq_getElem ha,hm.1.ext e1,hm.2⟩)
 refine⟨σ2,?_,e1.trans e2⟩
 refine call_ret (fn:=⟨4,7,b_first_hit⟩) rfl rfl (l:=l') (seq_next (l1:=l') (σ1:=σ2) ?_ (by simp[exS,ev]))
 rw[for_ev (ds:=(lotsL 1 P.length).map keyD) (src:=some (r,v)) (σ1:=σ1)]
 ·rw[lots1,List.map_map]
  exact h2
 ·have hlen:lenD σ (.ref ip)=some ((P.length:Nat):Int):=by
   simp only[lenD,hp]
   rw[if_pos (by rw[List.length_map];have:LIM=1048576:=rfl;omega),List.length_map]
  have h1':evCall FT W (k+9) f_lots_of [.int ((P.length:Nat):Int),.int 1] σ=some (.ref r,σ1):=h1
  simp only[evI,ev,evs,List.map_cons,List.map_nil,List.cons_append,List.nil_append,List.getElem?_cons_zero,List.getElem?_cons_succ,hlen,h1',iterOf,g1]
theorem first_hit_num {ip wp w i r5:Nat} (hW:2^30≤W) (hw:2≤w) (hw':w≤8) (hp:σ[ip]?=some (.list [.ref r5] wp)) (h5:IsRow [5] r5 σ) :
  ∃σ',evCall FT W (k+10) f_first_hit [.ref i,.ref ip,.int 1,.int w] σ=some (.none,σ')∧Ext σ σ':=by
 obtain⟨r,σ1,v,h1,e1,hr,g1⟩:=lots_call' (W:=W) (n:=k+9) (m:=1) (s:=1) (σ:=σ) (by omega) (by omega) (by omega)
 have e2:=Ext.app σ1 [AO.list [.int 1] 0]
 obtain⟨z1,v1,h2,h3,h4⟩:=zmul_call (W:=W) (k:=k+7) (σ:=σ1++[.list [.int 1] 0]) (i:=σ1.length) (a:=[1]) (b:=[5]) ⟨0,get_new _ _⟩ ((h5.ext e1).ext e2) (by simp) (by simp) (by simp) (by simp)
 have hz:∀q,zat z1 q=5*fl dlt w q:=fun q=>by
  rw[h4]
  refine(zs_one (m:=1) (n:=5) (c:=dlt) (w:=w) (fun q=>?_) (fun q=>?_) q).trans (by rw[Int.one_mul])
  ·rw[fl_dlt hw,zat_cons,zat_nil];simp
  ·rw[zat_cons,zat_nil];simp
 have e3:=Ext.app (σ1++[AO.list [.int 1] 0]) [.list (z1.map .int) v1]
 obtain⟨rc,σ2,h6,e4,_,p6⟩:=cand_end (W:=W) (k:=k+3) (σ:=σ1++[.list [.int 1] 0]++[.list (z1.map .int) v1]) (z:=z1) (r:=(σ1++[AO.list [.int 1] 0]).length) (o0:=some (.ref ip)) (o1:=some (keyD [0])) (o4:=some (.int 0)) (n:=5) (K:=0) (c:=dlt) (X:=0) (Y:=0) hW hw hw' ⟨v1,get_new _ _⟩ hz (by simp at h3;omega) supp_dlt (by omega) (by decide) (by decide)
  (fun x y=>Nat.le_trans (bnd_dlt x y) (by decide)) lead_dlt
 have ix:idxD (σ1++[AO.list [.int 1] 0]) (.ref ip) (.int 0)=some (.ref r5):=by
  simp only[idxD,e2.get (e1.get hp)];rfl
 have e23:=e2.trans e3
 have h2':evCall FT W (k+8) f_zmul [.ref σ1.length,.ref r5] (σ1++[.list [.int 1] 0])=_:=h2
 have hfirst:exS (evCall FT W (k+8)) W (.asg 3 (.lst (.ldisp (.acons (.lit (.int 1)) (.anil))))) [some (.ref ip),some (keyD [0]),some (.int w),none,none] σ1=some (.next,[some (.ref ip),some (keyD [0]),some (.int w),some (.ref σ1.length),none],σ1++[AO.list [.int 1] 0]):=by simp[exS,ev,evs,evL,LIM]
 generalize (σ1++[AO.list [.int 1] 0])++[.list (z1.map .int) v1]=σ4 at *
 generalize (σ1++[AO.list [.int 1] 0])=σ3 at *
 have hcand:evCall FT W (k+9) f_candidate_of [.ref ip,keyD [0],.int w] σ1=some (.ref rc,σ2):=by
  refine call_ret (fn:=⟨3,5,b_candidate_of⟩) rfl rfl (l:=[some (.ref ip),some (keyD [0]),some (.int w),some (.ref σ3.length),some (.int 0)])
   (seq_next (l1:=[some (.ref ip),some (keyD [0]),some (.int w),some (.ref σ1.length),none]) (σ1:=σ3) ?_ (seq_next (l1:=[some (.ref ip),some (keyD [0]),some (.int w),some (.ref σ3.length),some (.int 0)]) (σ1:=σ4) ?_ ?_))
  ·exact hfirst
  ·rw[for_ev (ds:=[.int 0]) (src:=none) (σ1:=σ3)]
   ·refine(for_next (l1:=[some (.ref ip),some (keyD [0]),some (.int w),some (.ref σ1.length),some (.int 0)]) (l2:=[some (.ref ip),some (keyD [0]),some (.int w),some (.ref σ3.length),some (.int 0)]) (σ2:=σ4) (by simp[bindT]) ?_ rfl).trans rfl
    simp only[exS,ev,evs,List.getElem?_cons_zero,List.getElem?_cons_succ,ix,h2']
    rfl
   ·simp[evI,ev,iterOf,keyD]
  ·exact h6
 have hnum:=num_yes (W:=W) (k:=k+8) p6 (fun x y h=>by
  have:=supp_dlt x y h
  omega)
 have hx:Ext σ σ2:=(e1.trans e23).trans e4
 refine⟨σ2,?_,hx⟩
 refine call_ret (fn:=⟨4,7,b_first_hit⟩) rfl rfl (l:=[some (.ref i),some (.ref ip),some (.int 1),some (.int w),some (keyD [0]),some (.ref rc),none]) (seq_next (l1:=[some (.ref i),some (.ref ip),some (.int 1),some (.int w),some (keyD [0]),some (.ref rc),none]) (σ1:=σ2) ?_ (by simp[exS,ev]))
 rw[for_ev (ds:=[keyD [0]]) (src:=some (r,v)) (σ1:=σ1)]
 ·refine(for_next (l1:=[some (.ref i),some (.ref ip),some (.int 1),some (.int w),some (keyD [0]),none,none]) (l2:=[some (.ref i),some (.ref ip),some (.int 1),some (.int w),some (keyD [0]),some (.ref rc),none]) (σ2:=σ2) (by simp[bindT]) ?_ ?_).trans rfl
  ·refine seq_next (l1:=[some (.ref i),some (.ref ip),some (.int 1),some (.int w),some (keyD [0]),some (.ref rc),none]) (σ1:=σ2) ?_ ?_
   ·simp only[exS,ev,evs,List.getElem?_cons_zero,List.getElem?_cons_succ,hcand]
    rfl
   ·simp[exS,evT,ev,evs,hnum,truthD]
  ·simp[srcOk,(e23.trans e4).get g1,AO.ver]
 ·have hlen:lenD σ (.ref ip)=some 1:=by
   simp only[lenD,hp];rfl
  have h1':evCall FT W (k+9) f_lots_of [.int 1,.int 1] σ=some (.ref r,σ1):=h1
  simp only[evI,ev,evs,List.map_cons,List.map_nil,List.cons_append,List.nil_append,List.getElem?_cons_zero,List.getElem?_cons_succ,hlen,h1',iterOf,g1]
  rw[lots1];rfl
end
theorem eqEs_same (f:D→D→Option Bool) (fs:Es):∀suf:Es,(∀e∈suf,dget fs e.1=some e.2∧f e.2 e.2=some true)→eqEs f fs suf=some true
 | [],_=>rfl
 |e::suf,h=>by
  obtain⟨k,x⟩:=e
  have h1:=h (k,x) List.mem_cons_self
  simp only at h1
  simp only[eqEs,h1.1,h1.2,eqEs_same f fs suf fun e he=>h e (List.mem_cons_of_mem _ he)]
  rfl
theorem eqD_qD (σ:St) (m:Nat) (a b:Int):eqD σ (m+2) (qD a b) (qD a b)=some true:=by
 show(if [D.int a,D.int b].length=[D.int a,D.int b].length then eqAll (eqD σ (m+1)) [.int a,.int b] [.int a,.int b] else none)=_
 rw[if_pos rfl]
 have e:∀x:Int,eqD σ (m+1) (.int x) (.int x)=some (x==x):=fun _=>rfl
 simp[eqAll,e]
section
variable {W k:Nat} {σ:St} {n d:Int} {c:Cf}
theorem Pol.same_len {es fs:Es} (p:Pol n d c es) (q:Pol n d c fs):es.length=fs.length:=by
 have h:∀{es fs:Es},Pol n d c es→Pol n d c fs→es.length≤fs.length:=fun {es fs} p q=>by
  have:=len_le_of (es.map (·.1)) (fs.map (·.1)) p.nd fun k hk=>by
   obtain⟨e,he,rfl⟩:=List.mem_map.mp hk
   obtain⟨x,y,rfl,hc⟩:=p.entry he
   exact Classical.byContradiction fun hn=>hc (q.supp hn)
  rwa [List.length_map,List.length_map] at this
 exact Nat.le_antisymm (h p q) (h q p)
theorem eq_pol {i j m:Nat} (hi:IsPol n d c i σ) (hj:IsPol n d c j σ):eqD σ (m+3) (.ref i) (.ref j)=some true:=by
 obtain⟨es,w,hi,p⟩:=hi
 obtain⟨fs,v,hj,q⟩:=hj
 by_cases h:i=j
 ·show(if i=j then some true else _)=_
  rw[if_pos h]
 ·show(if i=j then some true else _)=_
  rw[if_neg h,hi,hj]
  show(if es.length=fs.length then eqEs (eqD σ (m+2)) fs es else some false)=_
  rw[if_pos (p.same_len q)]
  refine eqEs_same _ _ _ fun e he=>?_
  obtain⟨x,y,rfl,hc⟩:=p.entry he
  refine⟨by rw[q.get,if_neg hc],?_⟩
  obtain⟨a,b,e⟩:=ratD_tup (c x y*n) d
  rw[e];exact eqD_qD σ m a b
theorem cmp_eq_pol {i j:Nat} (hne:i≠j) (hi:IsPol n d c i σ) (hj:IsPol n d c j σ):cmpD .eq (.ref i) (.ref j) σ=some true:=by
 show(if i=j then none else eqD σ 8 (.ref i) (.ref j))=_
 rw[if_neg hne];exact eq_pol (m:=5) hi hj
theorem cmp_ne_pol {i j:Nat} (hne:i≠j) (hi:IsPol n d c i σ) (hj:IsPol n d c j σ):cmpD .ne (.ref i) (.ref j) σ=some false:=by
 show(if i=j then none else (eqD σ 8 (.ref i) (.ref j)).map (!·))=_
 rw[if_neg hne,eq_pol (m:=5) hi hj];rfl
theorem cmp_eq_row {i j:Nat} {z:List Int} (hne:i≠j) (hi:IsRow z i σ) (hj:IsRow z j σ):cmpD .eq (.ref i) (.ref j) σ=some true:=by
 obtain⟨w,hi⟩:=hi
 obtain⟨v,hj⟩:=hj
 show(if i=j then none else (if i=j then some true else _))=_
 rw[if_neg hne,if_neg hne,hi,hj]
 show(if _ then eqAll (eqD σ 7) (z.map .int) (z.map .int) else some false)=_
 rw[if_pos rfl]
 clear hi hj
 induction z with
 |nil=>rfl
 |cons x z ih=>
  have e:eqD σ 7 (.int x) (.int x)=some (x==x):=rfl
  simp[eqAll,e,ih]
def posX (v:Nat):X:=.bin .add (.idx (.var v) (.lit (.int 0))) (.bin .mul (.var 1) (.idx (.var v) (.lit (.int 1))))
theorem posX_ev {C:Nat→List D→St→Option (D×St)} {w x y:Int} {l:Loc} {v:Nat} (h1:l[1]?=some (some (.int w))) (hv:l[v]?=some (some (keyD [x,y]))) (hw:0≤w) (hw':w≤8):ev C (posX v) l σ=some (.int (x+w*y),σ):=by
 have m:MOk w y:=.inl (by omega)
 have i0:idxD σ (keyD [x,y]) (.int 0)=some (.int x):=rfl
 have i1:idxD σ (keyD [x,y]) (.int 1)=some (.int y):=rfl
 simp only[posX,ev,h1,hv,i0,i1,binD,m,if_true]
theorem max_size (w:Int):∀(es:Es) (m:Int),(es.map (posOf w)).foldl (fun m x=>if x>m then x else m) m=sizeOf' w es (m+1)-1
 | [],m=>by simp[sizeOf']
 |e::es,m=>by
  have ih:=max_size w es (if posOf w e>m then posOf w e else m)
  rw[List.map_cons,List.foldl_cons,ih]
  show _=sizeOf' w es (if posOf w e+1>m+1 then posOf w e+1 else m+1)-1
  congr 2
  by_cases h:posOf w e>m
  ·rw[if_pos h,if_pos (by omega)]
  ·rw[if_neg h,if_neg (by omega)]
theorem maxD_pos {w:Int} {es:Es} (hne:es≠[]) (h0:∀e∈es,0≤posOf w e):maxD (es.map fun e=>.int (posOf w e))=some (sizeOf' w es 0-1):=by
 obtain⟨e,r,rfl⟩:=List.exists_cons_of_ne_nil hne
 unfold maxD
 have:ints? ((e::r).map fun e=>D.int (posOf w e))=some (posOf w e::r.map (posOf w)):=by
  have:=ints_map ((e::r).map (posOf w))
  rw[List.map_map] at this
  exact this
 dsimp only
 rw[this]
 show some ((r.map (posOf w)).foldl _ _)=_
 rw[max_size]
 have:=h0 e List.mem_cons_self
 show _=some (sizeOf' w r (if posOf w e+1>0 then posOf w e+1 else 0)-1)
 rw[if_pos (by omega)]
abbrev frBody:XS:=.set (.var 3) (posX 4) (.idx (.idx (.var 0) (.var 4)) (.lit (.int 0)))
theorem fr_loop {i wi:Nat} {es:Es} {w:Int} {o2 o5:Option D} (hw:0≤w) (hw':w≤8) (p:PolI c es) (hi:σ[i]?=some (.dict es wi)) :
  ∀(suf:Es) (z:List Int) (v:Nat) (o4:Option D),(∀e∈suf,e∈es)→KeyW w suf→(∀e∈suf,0≤posOf w e∧posOf w e<z.length)→z.length<1048576→
   ∃z' v' q4,forGo (bindT [4] false) (exS (evCall FT W k) W frBody) (some (i,wi)) (suf.map fun e=>keyD e.1) [some (.ref i),some (.int w),o2,some (.ref σ.length),o4,o5] (σ++[.list (z.map .int) v])
    = some (.next,[some (.ref i),some (.int w),o2,some (.ref σ.length),q4,o5],σ++[.list (z'.map .int) v'])∧z'.length=z.length∧∀q,0≤q→zat z' q=if [q%w,q/w]∈suf.map (·.1) then c (q%w) (q/w) else zat z q
 | [],z,v,o4,_,_,_,_=>⟨z,v,o4,rfl,rfl,fun q _=>by simp⟩
 |e::suf,z,v,o4,hf,hk,hp,hz=>by
  obtain⟨x,y,h,h0,h1,_⟩:=hk e List.mem_cons_self
  have hpe:=hp e List.mem_cons_self
  obtain⟨x',y',he,hc⟩:=p.entry (hf e List.mem_cons_self)
  subst he
  simp only[List.cons.injEq,and_true] at h
  obtain⟨rfl,rfl⟩:=h
  rw[Int.mul_one,ratD_one] at *
  change 0≤x'+w*y'∧x'+w*y'<z.length at hpe
  have hm:(x'+w*y').toNat<z.length:=by omega
  have hcast:(((x'+w*y').toNat:Nat):Int)=x'+w*y':=by omega
  obtain⟨z',v',q4,hl,hlen,hz'⟩:=fr_loop hw hw' p hi suf (z.set (x'+w*y').toNat (c x' y')) (v+1) (some (keyD [x',y'])) (fun e he=>hf e (List.mem_cons_of_mem _ he)) (fun e he=>hk e (List.mem_cons_of_mem _ he))
   (fun e he=>by rw[List.length_set];exact hp e (List.mem_cons_of_mem _ he)) (by rw[List.length_set];exact hz)
  refine⟨z',v',q4,?_,by rw[hlen,List.length_set],fun q hq=>?_⟩
  ·rw[List.map_cons]
   refine(for_next (l1:=[some (.ref i),some (.int w),o2,some (.ref σ.length),some (keyD [x',y']),o5]) (by simp[bindT]) ?_ (by simp[srcOk,get_old hi,AO.ver])).trans hl
   have hpv:=posX_ev (σ:=σ++[AO.list (z.map .int) v]) (C:=evCall FT W k) (l:=[some (.ref i),some (.int w),o2,some (.ref σ.length),some (keyD [x',y']),o5]) (v:=4) rfl rfl hw hw'
   have h3:(σ++[AO.list (z.map .int) v])[σ.length]?=some (.list (z.map .int) v):=get_new _ _
   have hs:(σ++[AO.list (z.map .int) v]).set σ.length (.list ((z.set (x'+w*y').toNat (c x' y')).map .int) (v+1))=_:=set_new _ _ _
   have hkk:(0:Int)≤x'+w*y'∧x'+w*y'<(LIM:Int):=by
    have:LIM=1048576:=rfl
    omega
   have hset:setD (σ++[AO.list (z.map .int) v]) (.ref σ.length) (.int (x'+w*y')) (.int (c x' y'))=some (σ++[.list ((z.set (x'+w*y').toNat (c x' y')).map .int) (v+1)]):=by
    simp only[setD,h3]
    rw[if_pos ⟨hkk.1,hkk.2,by rw[List.length_map];exact hm⟩,←List.map_set,hs]
   have hidx:idxD (σ++[AO.list (z.map .int) v]) (.ref i) (keyD [x',y'])=some (qD (c x' y') 1):=by simp[idxD,keyD,get_old hi,ints?,PolI.val p,hc]
   have i0:idxD (σ++[AO.list (z.map .int) v]) (qD (c x' y') 1) (.int 0)=some (.int (c x' y')):=rfl
   have e0:ev (evCall FT W k) (.idx (.idx (.var 0) (.var 4)) (.lit (.int 0))) [some (.ref i),some (.int w),o2,some (.ref σ.length),some (keyD [x',y']),o5] (σ++[AO.list (z.map .int) v])=some (.int (c x' y'),σ++[AO.list (z.map .int) v]):=by
    simp only[ev,List.getElem?_cons_zero,List.getElem?_cons_succ,hidx,i0]
   have e3:ev (evCall FT W k) (.var 3) [some (.ref i),some (.int w),o2,some (.ref σ.length),some (keyD [x',y']),o5] (σ++[AO.list (z.map .int) v])=some (.ref σ.length,σ++[AO.list (z.map .int) v]):=rfl
   simp only[exS,e0,e3,hpv,hset]
  ·rw[hz' q hq,zat_set hm,hcast]
   simp only[List.map_cons,List.mem_cons]
   by_cases hqe:q=x'+w*y'
   ·have hk1:=(mem_keys_pos (y:=y') hq h0 h1).mpr hqe
    have hor:([q%w,q/w]=[x',y']∨[q%w,q/w]∈suf.map (·.1)):=.inl hk1
    rw[if_pos hqe,if_pos hor]
    simp only[List.cons.injEq,and_true] at hk1
    rw[hk1.1,hk1.2];simp
   ·have hk1:¬[q%w,q/w]=[x',y']:=fun z=>hqe ((mem_keys_pos hq h0 h1).mp z)
    rw[if_neg hqe]
    simp only[hk1,false_or]
theorem flat_right_call {i:Nat} {w:Nat} {K:Nat} (hw:2≤w) (hw':w≤8) (hi:IsPol 1 1 c i σ) (sc:Supp K c) (hK:K<w) {x0 y0:Int} (h0:c x0 y0≠0) (hlt:i<σ.length) :
  ∃σ',evCall FT W (k+2) f_law_flat_right [.ref i,.int w] σ=some (.bool true,σ')∧Ext σ σ':=by
 obtain⟨es,wi,hi,p⟩:=hi
 have hne:es≠[]:=p.ne_nil h0
 have hkw:KeyW w es:=fun e he=>by
  obtain⟨x,y,rfl,hc⟩:=p.entry he
  have:=sc x y hc
  exact⟨x,y,rfl,by omega⟩
 have hkb:∀e∈es,ky e.1≤(K:Int):=fun e he=>by
  obtain⟨x,y,rfl,hc⟩:=p.entry he
  have:=sc x y hc
  show y≤K
  omega
 have hpb:∀e∈es,0≤posOf w e∧posOf w e<w+w*K:=fun e he=>pos_bound (by omega) hkw hkb he
 obtain⟨z,v,h1,hzl,hz,hzb⟩:=flattened_call (W:=W) (k:=k) hw hw' p hi sc hK
 have e1:=Ext.app σ [AO.list (z.map .int) v]
 have hi1:=e1.get hi
 have hwK:w*K≤8*8:=Nat.mul_le_mul hw' (by omega)
 obtain⟨z2,v2,q4,h2,hl2,hz2⟩:=fr_loop (W:=W) (k:=k+1) (σ:=σ++[.list (z.map .int) v]) (w:=(w:Int)) (o2:=some (.ref σ.length)) (o5:=none) (by omega) (by omega) p hi1 es (List.replicate z.length 0) 0 none (fun e he=>he) hkw
  (fun e he=>⟨(hpb e he).1,by rw[List.length_replicate,hzl];exact(sizeW_ge w es 0).2 e he⟩) (by rw[List.length_replicate];omega)
 rw[List.length_replicate] at hl2
 have hzz:z2=z:=zat_ext hl2 fun q=>by
  rw[hz]
  unfold fl
  by_cases hq:0≤q
  ·rw[hz2 q hq,zat_rep,if_pos hq]
   split
   ·rfl
   ·rename_i hm;rw[p.supp hm]
  ·rw[if_neg hq,zat_neg (by omega)]
 subst hzz
 have e2:=Ext.app (σ++[AO.list (z2.map .int) v]) [AO.list (z2.map .int) v2]
 have hlen1:(σ++[AO.list (z2.map .int) v]).length=σ.length+1:=by simp
 rw[hlen1] at h2
 have hrow:IsRow z2 σ.length ((σ++[AO.list (z2.map .int) v])++[AO.list (z2.map .int) v2]):=⟨v,e2.get (get_new _ _)⟩
 have hdue:IsRow z2 (σ.length+1) ((σ++[AO.list (z2.map .int) v])++[AO.list (z2.map .int) v2]):=⟨v2,by rw[←hlen1];exact get_new _ _⟩
 have hfirst:exS (evCall FT W (k+1)) W (.asg 2 (.call f_flattened (.acons (.var 0) (.acons (.var 1) (.anil))))) [some (.ref i),some (.int w),none,none,none,none] σ=some (.next,[some (.ref i),some (.int w),some (.ref σ.length),none,none,none],σ++[AO.list (z2.map .int) v]):=by
  simp[exS,ev,evs,h1]
 have hsecond:exS (evCall FT W (k+1)) W (.asg 3 (.rep (.lit (.int 0)) (.bin .add (.maxOf (.lcomp (.bin .add (.idx (.var 5) (.lit (.int 0))) (.bin .mul (.var 1) (.idx (.var 5) (.lit (.int 1))))) [5] false (.ix (.var 0)) none)) (.lit (.int 1))))) [some (.ref i),some (.int w),some (.ref σ.length),none,none,none] (σ++[AO.list (z2.map .int) v])
   = some (.next,[some (.ref i),some (.int w),some (.ref σ.length),some (.ref (σ.length+1)),none,none],(σ++[AO.list (z2.map .int) v])++[.list ((List.replicate z2.length (0:Int)).map .int) 0]):=by
  have hc:=comp_map (bind:=bindT [5] false) (elt:=ev (evCall FT W (k+1)) (posX 5)) (src:=some (i,wi)) (l:=[some (.ref i),some (.int w),some (.ref σ.length),none,none,none]) (σ:=σ++[AO.list (z2.map .int) v]) (fun e:List Int×D=>keyD e.1) (fun e=>.int (posOf w e)) (by simp[srcOk,hi1,AO.ver]) es (fun e he=>by
   obtain⟨x,y,h,_⟩:=hkw e he
   refine⟨[some (.ref i),some (.int w),some (.ref σ.length),none,none,some (keyD e.1)],by simp[bindT],?_⟩
   obtain⟨k0,v0⟩:=e
   simp only at h
   subst h
   exact posX_ev (v:=5) (x:=x) (y:=y) (w:=(w:Int)) rfl rfl (by omega) (by omega))
  have hit:evI (evCall FT W (k+1)) (.ix (.var 0)) [some (.ref i),some (.int w),some (.ref σ.length),none,none,none] (σ++[AO.list (z2.map .int) v])=some (es.map fun e=>keyD e.1,some (i,wi),σ++[AO.list (z2.map .int) v]):=by simp[evI,ev,iterOf,hi1]
  have hle:(es.map fun e=>keyD e.1).length<LIM:=by rw[List.length_map];exact p.len (sc.box (by omega))
  have hL:evL (evCall FT W (k+1)) (.lcomp (posX 5) [5] false (.ix (.var 0)) none) [some (.ref i),some (.int w),some (.ref σ.length),none,none,none] (σ++[AO.list (z2.map .int) v])=some (es.map (fun e=>.int (posOf w e)),σ++[AO.list (z2.map .int) v]):=by
   rw[evL,hit]
   dsimp only
   rw[if_pos hle,hc]
  have hmx:=maxD_pos (w:=(w:Int)) hne fun e he=>(hpb e he).1
  have hn1:(sizeOf' (w:Int) es 0-1+1)=(z2.length:Int):=by omega
  have hn2:((z2.length:Int)).natAbs<LIM:=by have:LIM=1048576:=rfl;omega
  show exS (evCall FT W (k+1)) W (.asg 3 (.rep (.lit (.int 0)) (.bin .add (.maxOf (.lcomp (posX 5) [5] false (.ix (.var 0)) none)) (.lit (.int 1))))) _ _=_
  simp only[exS,ev,hL,hmx,binD,hn1,hn2,if_true,hlen1,Int.toNat_natCast]
  simp
 have hthird:exS (evCall FT W (k+1)) W (.for_ [4] false (.ix (.var 0)) frBody) [some (.ref i),some (.int w),some (.ref σ.length),some (.ref (σ.length+1)),none,none] ((σ++[AO.list (z2.map .int) v])++[.list ((List.replicate z2.length (0:Int)).map .int) 0])
   = some (.next,[some (.ref i),some (.int w),some (.ref σ.length),some (.ref (σ.length+1)),q4,none],(σ++[AO.list (z2.map .int) v])++[AO.list (z2.map .int) v2]):=by
  rw[for_ev (ds:=es.map fun e=>keyD e.1) (src:=some (i,wi)) (σ1:=(σ++[AO.list (z2.map .int) v])++[.list ((List.replicate z2.length (0:Int)).map .int) 0]) (by simp only[evI,ev,List.getElem?_cons_zero,iterOf,get_old hi1])]
  exact h2
 have hi2:=e2.get hi1
 have hlen2:((σ++[AO.list (z2.map .int) v])++[AO.list (z2.map .int) v2]).length=σ.length+2:=by simp
 have e12:=e1.trans e2
 generalize (σ++[AO.list (z2.map .int) v])++[AO.list (z2.map .int) v2]=σ2 at *
 have hwk:w*K≤w*w:=Nat.mul_le_mul_left _ (by omega)
 have hwkw:w*w≤w*8:=Nat.mul_le_mul_left _ hw'
 obtain⟨gs,v3,h3,p3⟩:=unfolded_call (W:=W) (k:=k) hw hw' hrow (by omega)
 rw[unf_fl hz sc hK] at p3
 have e3:=Ext.app σ2 [AO.dict gs v3]
 have pi3:IsPol 1 1 c i (σ2++[AO.dict gs v3]):=⟨es,wi,e3.get hi2,p⟩
 have pr3:IsPol 1 1 c σ2.length (σ2++[AO.dict gs v3]):=⟨gs,v3,get_new _ _,p3⟩
 have hlen3:(σ2++[AO.dict gs v3]).length=σ.length+3:=by simp[hlen2]
 generalize hσ3:(σ2++[AO.dict gs v3])=σ3 at *
 obtain⟨hs,v4,h4,p4⟩:=unfolded_call (W:=W) (k:=k) (σ:=σ3++[.list (([]:List Int).map .int) 0]) (i:=σ3.length) (z:=[]) hw hw' ⟨0,get_new _ _⟩ (by simp)
 rw[unf_nil] at p4
 have hlen4:(σ3++[AO.list (([]:List Int).map .int) 0]).length=σ.length+4:=by simp[hlen3]
 rw[hlen4] at h4
 generalize hσ5:(σ3++[AO.list (([]:List Int).map .int) 0]++[AO.dict hs v4])=σ5 at *
 have pa:IsPol 1 1 (fun _ _=>0) (σ.length+4) (σ5++[AO.dict [] 0]):=by
  rw[←hσ5,←hlen4];exact⟨hs,v4,get_old (get_new _ _),p4⟩
 have hlen5:σ5.length=σ.length+5:=by rw[←hσ5];simp[hlen3]
 have pb:IsPol 1 1 (fun _ _=>0) σ5.length (σ5++[AO.dict [] 0]):=⟨[],0,get_new _ _,Pol.nil⟩
 have e5:Ext σ3 (σ5++[AO.dict [] 0]):=by rw[←hσ5];exact((Ext.app _ _).app_r _).app_r _
 refine⟨σ5++[.dict [] 0],?_,(e12.trans e3).trans e5⟩
 refine call_ret (fn:=⟨2,6,b_law_flat_right⟩) rfl rfl (l:=[some (.ref i),some (.int w),some (.ref σ.length),some (.ref (σ.length+1)),q4,none])
  (seq_next hfirst (seq_next hsecond (seq_next hthird ?_)))
 refine ex_ret (ev_and_t (σ1:=σ2) ?_ (ev_and_t (σ1:=σ3) ?_ ?_))
 ·exact ev_cmp (x:=.ref σ.length) (y:=.ref (σ.length+1)) (σ1:=σ2) rfl rfl (cmp_eq_row (by omega) hrow hdue)
 ·refine ev_cmp (x:=.ref σ2.length) (y:=.ref i) (σ1:=σ3) ?_ rfl (cmp_eq_pol (by omega) pr3 pi3)
  simp only[ev,evs,List.getElem?_cons_zero,List.getElem?_cons_succ,h3]
 ·refine ev_cmp (x:=.ref (σ.length+4)) (y:=.ref σ5.length) (σ1:=σ5) ?_ ?_ (cmp_eq_pol (by omega) pa pb)
  ·have h4':evCall FT W (k+1) f_unfolded [.ref σ3.length,.int w] (σ3++[AO.list [] 0])=some (.ref (σ.length+4),σ5):=h4
   have hLIM:(0:Nat)<LIM:=by decide
   simp only[ev,evs,evL,List.length_nil,hLIM,if_true,List.getElem?_cons_zero,List.getElem?_cons_succ,h4']
  ·have h16:([]:List D).length<16:=by decide
   simp only[ev,evs,h16,if_true,dispE]
end
def HasBox (σ τ:St):Prop:=∃(is:List Int) (n:Int) (v0 v1:Nat),is.length≤30∧σ = .list (is.map D.int) v0::.list [.ref 0,.int n] v1::τ
theorem HasBox.app {σ τ:St} (h:HasBox σ τ) (t:St):HasBox (σ++t) (τ++t):=by
 obtain⟨is,n,v0,v1,hl,rfl⟩:=h
 exact⟨is,n,v0,v1,hl,rfl⟩
theorem HasBox.len {σ τ:St} (h:HasBox σ τ):σ.length=τ.length+2:=by
 obtain⟨is,n,v0,v1,hl,rfl⟩:=h
 simp
theorem HasBox.get {σ τ:St} (h:HasBox σ τ) (i:Nat):σ[i+2]?=τ[i]?:=by
 obtain⟨is,n,v0,v1,hl,rfl⟩:=h
 simp
theorem HasBox.ext {σ τ σ':St} (h:HasBox σ τ) (e:Ext σ σ'):∃τ',HasBox σ' τ'∧Ext τ τ':=by
 obtain⟨t,rfl⟩:=e
 exact⟨τ++t,h.app t,t,rfl⟩
section
variable {W k:Nat}
theorem take_call {σ τ:St} {m:Int} (h:HasBox σ τ) (hm:0<m):∃v σ',evCall FT W (k+1) f_law_take [.ref 1,.int m] σ=some (.int v,σ')∧0≤v∧v<m∧HasBox σ' τ:=by
 obtain⟨is,n,v0,v1,hl,rfl⟩:=h
 have hmz:m≠0:=by omega
 have hfm:∀x:Int,x.fmod m=x%m:=fun x=>Int.fmod_eq_emod_of_nonneg _ (by omega)
 cases is with
 |nil=>
  refine⟨(5*(n+1)+(n+1).fdiv 2)%m,.list [] v0::.list [.ref 0,.int (n+1)] (v1+1)::τ,?_,Int.emod_nonneg _ hmz,Int.emod_lt_of_pos _ hm,⟨[],n+1,v0,v1+1,by simp,rfl⟩⟩
  refine call_ret (fn:=⟨2,3,b_law_take⟩) rfl rfl (l:=[some (.ref 1),some (.int m),some (.int (5*(n+1)+(n+1).fdiv 2))])
   (seq_next (l1:=[some (.ref 1),some (.int m),none]) (σ1:=.list [] v0::.list [.ref 0,.int (n+1)] (v1+1)::τ) ?_ (seq_next (l1:=[some (.ref 1),some (.int m),some (.int (5*(n+1)+(n+1).fdiv 2))]) (σ1:=.list [] v0::.list [.ref 0,.int (n+1)] (v1+1)::τ) ?_ ?_))
  ·simp[exS,ev,idxD,LIM,binD,setD]
  ·simp[exS,ev,idxD,LIM,lenD,cmpD,truthD,binD]
  ·simp[exS,ev,binD,hmz,hfm]
 |cons i is=>
  simp only[List.length_cons] at hl
  have hl':is.length+1<1048576:=by omega
  refine⟨i%m,.list (is.map .int) (v0+1)::.list [.ref 0,.int (n+1)] (v1+1)::τ,?_,Int.emod_nonneg _ hmz,Int.emod_lt_of_pos _ hm,⟨is,n+1,v0+1,v1+1,by omega,rfl⟩⟩
  refine call_ret (fn:=⟨2,3,b_law_take⟩) rfl rfl (l:=[some (.ref 1),some (.int m),some (.int i)])
   (seq_next (l1:=[some (.ref 1),some (.int m),none]) (σ1:=.list ((i::is).map .int) v0::.list [.ref 0,.int (n+1)] (v1+1)::τ) ?_ (seq_next (l1:=[some (.ref 1),some (.int m),some (.int i)]) (σ1:=.list (is.map .int) (v0+1)::.list [.ref 0,.int (n+1)] (v1+1)::τ) ?_ ?_))
  ·simp[exS,ev,idxD,LIM,binD,setD]
  ·have h0:0<(is.length:Int)+1:=by omega
   simp[exS,ev,idxD,LIM,lenD,cmpD,truthD,isLst,hl',h0]
  ·simp[exS,ev,binD,hmz,hfm]
def formEs (p:Par):Es:=if p.e=1 then [([1,1],qD 1 1),([0,0],qD p.b 1)] else
 ([1,0],qD 1 1)::((if p.a≠0 then [([0,1],qD p.a 1)] else [])++(if p.b≠0 then [([0,0],qD p.b 1)] else []))
def ALLP:List Par:=[⟨1,0,-2⟩,⟨1,0,-1⟩,⟨1,0,3⟩,⟨1,0,1⟩,⟨1,0,2⟩]++([-1,0,1,2].flatMap fun a:Int=>[-2,-1,0,1,2].map fun b:Int=>⟨0,a,b⟩)
theorem ok_cond:∀p∈ALLP,(p.e=0∨p.e=1)∧(p.e=1→p.a=0)∧(p.e=1→p.b≠0)∧(-1≤p.a∧p.a≤2)∧(-2≤p.b∧p.b≤3):=by decide
theorem ok_all:∀p∈ALLP,p.Ok:=fun p hp=>by
 obtain⟨h1,h2,h3,h4,h5⟩:=ok_cond p hp
 exact⟨h1,h2,h3,h4,h5⟩
theorem T_dlt (p:Par) (x y:Int):T p dlt x y=(if x=1∧y=p.e then 1 else 0)+p.a*(if x=0∧y=1 then 1 else 0)+p.b*(if x=0∧y=0 then 1 else 0):=by
 unfold T dlt
 have e1:(x-1=0∧y-p.e=0)↔(x=1∧y=p.e):=by omega
 have e2:(x=0∧y-1=0)↔(x=0∧y=1):=by omega
 simp only[e1,e2]
theorem form_pol {p:Par} (ok:p.Ok):PolI (T p dlt) (formEs p):=by
 unfold formEs
 have n0:=Pol.nil (n:=1) (d:=1)
 by_cases he:p.e=1
 ·rw[if_pos he]
  have h:=(n0.put (x:=1) (y:=1) (v:=1) (by decide)).put (x:=0) (y:=0) (v:=p.b) (ok.eb he)
  rw[Int.mul_one,Int.mul_one,ratD_one,ratD_one] at h
  have hf:T p dlt=upd (upd (fun _ _=>0) 1 1 1) 0 0 p.b:=by
   funext x y
   rw[T_dlt,ok.ea he,he]
   unfold upd
   by_cases h0:x=0∧y=0
   ·have:¬(x=1∧y=1):=by omega
    simp[h0]
   ·by_cases h1:x=1∧y=1<;>simp[h0,h1]
  rw[hf];exact h
 ·have he0:p.e=0:=by have:=ok.e;omega
  rw[if_neg he]
  have h1:=n0.put (x:=1) (y:=0) (v:=1) (by decide)
  rw[Int.mul_one,ratD_one] at h1
  by_cases ha:p.a=0
  ·by_cases hb:p.b=0
   ·have hf:T p dlt=upd (fun _ _=>0) 1 0 1:=by
     funext x y
     rw[T_dlt,he0,ha,hb]
     unfold upd
     by_cases h1:x=1∧y=0<;>simp[h1]
    rw[hf,if_neg (by simpa using ha),if_neg (by simpa using hb)];exact h1
   ·have h2:=h1.put (x:=0) (y:=0) (v:=p.b) hb
    rw[Int.mul_one,ratD_one] at h2
    have hf:T p dlt=upd (upd (fun _ _=>0) 1 0 1) 0 0 p.b:=by
     funext x y
     rw[T_dlt,he0,ha]
     unfold upd
     by_cases h0:x=0∧y=0
     ·simp[h0]
     ·by_cases h1:x=1∧y=0<;>simp[h0,h1]
    rw[hf,if_neg (by simpa using ha),if_pos hb];exact h2
  ·have h2:=h1.put (x:=0) (y:=1) (v:=p.a) ha
   rw[Int.mul_one,ratD_one] at h2
   by_cases hb:p.b=0
   ·have hf:T p dlt=upd (upd (fun _ _=>0) 1 0 1) 0 1 p.a:=by
     funext x y
     rw[T_dlt,he0,hb]
     unfold upd
     by_cases h0:x=0∧y=1
     ·simp[h0]
     ·by_cases h1:x=1∧y=0<;>simp[h0,h1]
    rw[hf,if_pos ha,if_neg (by simpa using hb)];exact h2
   ·have h3:=h2.put (x:=0) (y:=0) (v:=p.b) hb
    rw[Int.mul_one,ratD_one] at h3
    have hf:T p dlt=upd (upd (upd (fun _ _=>0) 1 0 1) 0 1 p.a) 0 0 p.b:=by
     funext x y
     rw[T_dlt,he0]
     unfold upd
     by_cases h00:x=0∧y=0
     ·simp[h00]
     ·by_cases h0:x=0∧y=1
      ·simp[h0]
      ·by_cases h1:x=1∧y=0<;>simp[h00,h0,h1]
    rw[hf,if_pos ha,if_pos hb];exact h3
theorem all_e1:∀b∈[(-2:Int),-1,0,1,2],(⟨1,0,if b=0 then 3 else b⟩:Par)∈ALLP:=by decide
theorem all_e0:∀a∈[(-1:Int),0,1,2],∀b∈[(-2:Int),-1,0,1,2],(⟨0,a,b⟩:Par)∈ALLP:=by decide
abbrev lfBody:XS:=.ifs (.cmp .ne (.var 4) (.lit (.int 0))) (.set (.var 2) (.var 3) (.tup (.acons (.var 4) (.acons (.lit (.int 1)) (.anil))))) (.nil)
theorem lf_turn {σ:St} {r w:Nat} {es:Es} {x y v:Int} {o0 o1:Option D} (hr:σ[r]?=some (.dict es w)) (hl:es.length<LIM) (hnew:[x,y]∉es.map (·.1)) :
  ∃w',exS (evCall FT W k) W lfBody [o0,o1,some (.ref r),some (keyD [x,y]),some (.int v)] σ=some (.next,[o0,o1,some (.ref r),some (keyD [x,y]),some (.int v)],σ.set r (.dict (es++if v≠0 then [([x,y],qD v 1)] else []) w')):=by
 by_cases h:v=0
 ·refine⟨w,?_⟩
  have hs:σ.set r (.dict es w)=σ:=by
   apply List.ext_getElem?
   intro i
   by_cases hi:i=r
   ·subst hi
    rw[List.getElem?_set_self (List.getElem?_eq_some_iff.mp hr).1,hr]
   ·rw[List.getElem?_set_ne (Ne.symm hi)]
  have hv:(if v≠0 then [([x,y],qD v 1)] else [])=[]:=if_neg (by simpa using h)
  rw[hv,List.append_nil,hs]
  simp[exS,evT,ev,cmp_ne_int,truthD,h]
 ·refine⟨w+1,?_⟩
  have hv:(v==0)=false:=by simpa using h
  rw[if_pos h]
  have hp:=put_new (v:=qD v 1) hnew
  have hset:setD σ (.ref r) (keyD [x,y]) (qD v 1)=some (σ.set r (.dict (es++[([x,y],qD v 1)]) (w+1))):=by
   simp only[setD,keyD,hr,ints_map]
   rw[if_pos hl,hp]
  simp[exS,evT,ev,evs,cmp_ne_int,truthD,hv,h,LIM,hset]
theorem set_last (A B:AO) (τ:St) (o o':AO):(A::B::τ++[o]).set (τ.length+2) o'=A::B::τ++[o']:=by
 have:=set_new (A::B::τ) o o'
 simpa using this
theorem HasBox.set {σ τ:St} (h:HasBox σ τ) (i:Nat) (o:AO):HasBox (σ.set (i+2) o) (τ.set i o):=by
 obtain⟨is,n,v0,v1,hl,rfl⟩:=h
 exact⟨is,n,v0,v1,hl,rfl⟩
theorem form_call {σ τ:St} (h:HasBox σ τ):∃p w σ',evCall FT W (k+2) f_law_form [.ref 1] σ=some (.ref (τ.length+2),σ')∧p∈ALLP∧HasBox σ' (τ++[.dict (formEs p) w]):=by
 obtain⟨vb,σ1,h1,hb0,hb5,B1⟩:=take_call (W:=W) (k:=k) (m:=5) h (by omega)
 obtain⟨vt,σ2,h2,ht0,ht3,B2⟩:=take_call (W:=W) (k:=k) (m:=3) B1 (by omega)
 have hfirst:exS (evCall FT W (k+1)) W (.asg 1 (.bin .sub (.call f_law_take (.acons (.var 0) (.acons (.lit (.int 5)) (.anil)))) (.lit (.int 2)))) [some (.ref 1),none,none,none,none] σ=some (.next,[some (.ref 1),some (.int (vb-2)),none,none,none],σ1):=by
  simp[exS,ev,evs,h1,binD]
 have hbm:(vb-2)∈[(-2:Int),-1,0,1,2]:=by
  have:vb=0∨vb=1∨vb=2∨vb=3∨vb=4:=by omega
  rcases this with rfl|rfl|rfl|rfl|rfl<;>decide
 by_cases ht:vt=1
 ·refine⟨⟨1,0,if vb-2=0 then 3 else vb-2⟩,0,σ2++[.dict (formEs ⟨1,0,if vb-2=0 then 3 else vb-2⟩) 0],?_,all_e1 _ hbm,B2.app _⟩
  refine call_ret (fn:=⟨1,5,b_law_form⟩) rfl rfl (l:=[some (.ref 1),some (.int (vb-2)),none,none,none]) (seq_next hfirst (seq_ret ?_))
  have hl2:=B2.len
  by_cases hz:vb-2=0
  ·have hz':((vb-2)==0)=true:=by simpa using hz
   simp[exS,evT,ev,evs,h2,cmp_eq_int,cmp_ne_int,truthD,ht,hz',hz,LIM,dispE,ints?,formEs,hl2,-beq_iff_eq]
   rfl
  ·have hz':((vb-2)==0)=false:=by simpa using hz
   simp[exS,evT,ev,evs,h2,cmp_eq_int,cmp_ne_int,truthD,ht,hz',hz,LIM,dispE,ints?,formEs,hl2,-beq_iff_eq]
   rfl
 ·have B3:=B2.app [.dict [([1,0],qD 1 1)] 0]
  obtain⟨va,σ4,h4,ha0,ha4,B4⟩:=take_call (W:=W) (k:=k) (m:=4) B3 (by omega)
  have ham:(va-1)∈[(-1:Int),0,1,2]:=by
   have:va=0∨va=1∨va=2∨va=3:=by omega
   rcases this with rfl|rfl|rfl|rfl<;>decide
  have g4:σ4[τ.length+2]?=some (.dict [([1,0],qD 1 1)] 0):=by rw[B4.get];simp
  obtain⟨w5,h5⟩:=lf_turn (W:=W) (k:=k+1) (σ:=σ4) (x:=0) (y:=1) (v:=va-1) (o0:=some (.ref 1)) (o1:=some (.int (vb-2))) g4 (by decide) (by decide)
  have B5:=B4.set τ.length (.dict ([([1,0],qD 1 1)]++if va-1≠0 then [([0,1],qD (va-1) 1)] else []) w5)
  have hs5:∀o o',(τ++[o]).set τ.length o'=τ++[o']:=fun o o'=>set_new τ o o'
  rw[hs5] at B5
  have g5:(σ4.set (τ.length+2) (.dict ([([1,0],qD 1 1)]++if va-1≠0 then [([0,1],qD (va-1) 1)] else []) w5))[τ.length+2]?=some (.dict ([([1,0],qD 1 1)]++if va-1≠0 then [([0,1],qD (va-1) 1)] else []) w5):=by rw[B5.get];simp
  generalize hσ5:σ4.set (τ.length+2) (.dict ([([1,0],qD 1 1)]++if va-1≠0 then [([0,1],qD (va-1) 1)] else []) w5)=σ5 at *
  obtain⟨w6,h6⟩:=lf_turn (W:=W) (k:=k+1) (σ:=σ5) (x:=0) (y:=0) (v:=vb-2) (o0:=some (.ref 1)) (o1:=some (.int (vb-2))) g5 (by split<;>simp[LIM]) (by split<;>simp)
  have B6:=B5.set τ.length (.dict ([([1,0],qD 1 1)]++(if va-1≠0 then [([0,1],qD (va-1) 1)] else [])++if vb-2≠0 then [([0,0],qD (vb-2) 1)] else []) w6)
  rw[hs5] at B6
  have hfe:[([1,0],qD 1 1)]++(if va-1≠0 then [([0,1],qD (va-1) 1)] else [])++(if vb-2≠0 then [([0,0],qD (vb-2) 1)] else [])=formEs ⟨0,va-1,vb-2⟩:=by
   unfold formEs
   rw[if_neg (show ¬((0:Int)=1) by decide)]
   simp
  rw[hfe] at B6 h6
  refine⟨⟨0,va-1,vb-2⟩,w6,_,?_,all_e0 _ ham _ hbm,B6⟩
  have hl2:=B2.len
  refine call_ret (fn:=⟨1,5,b_law_form⟩) rfl rfl (l:=[some (.ref 1),some (.int (vb-2)),some (.ref (τ.length+2)),some (keyD [0,0]),some (.int (vb-2))]) (seq_next hfirst
   (seq_next (l1:=[some (.ref 1),some (.int (vb-2)),none,none,none]) (σ1:=σ2) ?_ (seq_next (l1:=[some (.ref 1),some (.int (vb-2)),some (.ref (τ.length+2)),none,none]) (σ1:=σ2++[.dict [([1,0],qD 1 1)] 0]) ?_
   (seq_next (l1:=[some (.ref 1),some (.int (vb-2)),some (.ref (τ.length+2)),some (keyD [0,0]),some (.int (vb-2))]) (σ1:=σ5.set (τ.length+2) (.dict (formEs ⟨0,va-1,vb-2⟩) w6)) ?_ ?_))))
  ·have ht':(vt==1)=false:=by simpa using ht
   simp[exS,evT,ev,evs,h2,cmp_eq_int,truthD,ht',ht,-beq_iff_eq]
  ·simp[exS,ev,evs,LIM,dispE,ints?,hl2]
   rfl
  ·rw[for_ev (ds:=[.tup [keyD [0,1],.int (va-1)],.tup [keyD [0,0],.int (vb-2)]]) (src:=none) (σ1:=σ4)]
   ·refine(for_next (l1:=[some (.ref 1),some (.int (vb-2)),some (.ref (τ.length+2)),some (keyD [0,1]),some (.int (va-1))]) (by simp[bindT]) h5 rfl).trans ?_
    exact(for_next (l1:=[some (.ref 1),some (.int (vb-2)),some (.ref (τ.length+2)),some (keyD [0,0]),some (.int (vb-2))]) (by simp[bindT]) h6 rfl).trans rfl
   ·simp[evI,ev,evs,h4,LIM,binD,iterOf,keyD]
  ·simp[exS,ev]
end
def idxB (n:Nat) (b:Nat→Nat→Bool):Option (List Nat):=(runT (fun i j=>if i<n∧j<n then some (b i j) else none) (kas_sort n)).map (·.toList)
theorem idxB_congr {n:Nat} {b b':Nat→Nat→Bool} (h:∀i j,i<n→j<n→b i j=b' i j):idxB n b=idxB n b':=by
 unfold idxB
 have:(fun i j=>if i<n∧j<n then some (b i j) else none)=(fun i j=>if i<n∧j<n then some (b' i j) else none):=by
  funext i j
  split
  ·rename_i hh;rw[h i j hh.1 hh.2]
  ·rfl
 rw[this]
theorem sort_idx {σ:St} {ds:List D} {b:Nat→Nat→Bool} (h2:2≤ds.length) (h64:ds.length<64) (hs:sortable ds=true) (h:∀i j,i<ds.length→j<ds.length→∃x y,ds[i]?=some x∧ds[j]?=some y∧ltD σ CF x y=some (b i j)) :
  sortD σ ds=(idxB ds.length b).map fun is=>is.map fun i=>ds.getD i .none:=by
 unfold sortD idxB
 rw[if_neg (by omega),if_pos (by simp[h64,hs]),Option.map_map]
 refine congrArg (Option.map (fun p:Array Nat=>p.toList.map fun i=>ds.getD i .none)) (congrArg (fun f=>runT f (kas_sort ds.length)) ?_)
 ·funext i j
  by_cases hij:i<ds.length∧j<ds.length
  ·obtain⟨x,y,hx,hy,hl⟩:=h i j hij.1 hij.2
   rw[if_pos hij,hx,hy];exact hl
  ·rw[if_neg hij]
   by_cases hi:i<ds.length
   ·have:ds[j]?=none:=List.getElem?_eq_none (by omega)
    rw[this]
    cases ds[i]?<;>rfl
   ·have:ds[i]?=none:=List.getElem?_eq_none (by omega)
    rw[this]
theorem len_two {α:Type}:∀{l:List α},l.length=2→∃a b,l=[a,b]
 | [a,b],_=>⟨a,b,rfl⟩
theorem len_three {α:Type}:∀{l:List α},l.length=3→∃a b c,l=[a,b,c]
 | [a,b,c],_=>⟨a,b,c,rfl⟩
abbrev Tr:=Int×Int×Int
def itm (a:Tr):D:=.tup [keyD [a.1,a.2.1],qD a.2.2 1]
def ltI (a b:Tr):Bool:=if a.1=b.1 then (if a.2.1=b.2.1 then decide (a.2.2<b.2.2) else decide (a.2.1<b.2.1)) else decide (a.1<b.1)
def lexI:List Tr→List Tr→Bool
 |x::xr,y::yr=>if x=y then lexI xr yr else ltI x y
 | [],_::_=>true
 |_,[]=>false
theorem eq_int (σ:St) (m:Nat) (x y:Int):eqD σ (m+1) (.int x) (.int y)=some (x==y):=rfl
theorem lt_int (σ:St) (m:Nat) (x y:Int):ltD σ (m+1) (.int x) (.int y)=some (decide (x<y)):=rfl
theorem eq_tup2 (σ:St) (m:Nat) (a b c d:D):eqD σ (m+1) (.tup [a,b]) (.tup [c,d])=eqAll (eqD σ m) [a,b] [c,d]:=rfl
theorem lt_tup (σ:St) (m:Nat) (a b:List D):ltD σ (m+1) (.tup a) (.tup b)=lexD (eqD σ m) (ltD σ m) a b:=rfl
theorem eq_k2 (σ:St) (m:Nat) (x y x' y':Int):eqD σ (m+2) (.tup [.int x,.int y]) (.tup [.int x',.int y'])=some (x==x'&&y==y'):=by
 rw[eq_tup2]
 simp[eqAll,eq_int]
theorem lt_k2 (σ:St) (m:Nat) (x y x' y':Int):ltD σ (m+2) (.tup [.int x,.int y]) (.tup [.int x',.int y'])=some (if x=x' then decide (y<y') else decide (x<x')):=by
 rw[lt_tup]
 by_cases h:x=x'
 ·by_cases h2:y=y'
  ·simp[lexD,eq_int,lt_int,h,h2]
  ·have:(y==y')=false:=by simpa using h2
   simp[lexD,eq_int,lt_int,h,this]
 ·have:(x==x')=false:=by simpa using h
  simp[lexD,eq_int,lt_int,h,this]
theorem eq_itm (σ:St) (m:Nat) (a b:Tr):eqD σ (m+3) (itm a) (itm b)=some (decide (a=b)):=by
 obtain⟨x,y,v⟩:=a
 obtain⟨x',y',v'⟩:=b
 show eqD σ (m+3) (.tup [.tup [.int x,.int y],.tup [.int v,.int 1]]) (.tup [.tup [.int x',.int y'],.tup [.int v',.int 1]])=_
 rw[eq_tup2]
 simp only[eqAll,eq_k2,Prod.mk.injEq]
 congr 1
 rw[Bool.eq_iff_iff]
 simp[and_assoc]
theorem lt_itm (σ:St) (m:Nat) (a b:Tr):ltD σ (m+3) (itm a) (itm b)=some (ltI a b):=by
 obtain⟨x,y,v⟩:=a
 obtain⟨x',y',v'⟩:=b
 show ltD σ (m+3) (.tup [.tup [.int x,.int y],.tup [.int v,.int 1]]) (.tup [.tup [.int x',.int y'],.tup [.int v',.int 1]])=_
 rw[lt_tup]
 unfold ltI
 by_cases h:x=x'
 ·subst h
  by_cases h2:y=y'
  ·subst h2
   by_cases h3:v=v'
   ·simp[lexD,eq_k2,lt_k2,h3]
   ·have:(v==v')=false:=by simpa using h3
    simp[lexD,eq_k2,lt_k2,h3,this]
  ·have:(y==y')=false:=by simpa using h2
   simp[lexD,eq_k2,lt_k2,h2,this]
 ·have:(x==x')=false:=by simpa using h
  simp[lexD,eq_k2,lt_k2,h,this]
theorem eqAll_itm (σ:St) (m:Nat):∀A B:List Tr,A.length=B.length→eqAll (eqD σ (m+3)) (A.map itm) (B.map itm)=some (decide (A=B))
 | [],[],_=>rfl
 |a::A,b::B,h=>by
  have ih:=eqAll_itm σ m A B (by simpa using h)
  simp only[List.map_cons,eqAll,eq_itm,ih,List.cons.injEq]
  congr 1
  rw[Bool.eq_iff_iff];simp
theorem lexD_itm (σ:St) (m:Nat):∀A B:List Tr,lexD (eqD σ (m+3)) (ltD σ (m+3)) (A.map itm) (B.map itm)=some (lexI A B)
 | [],[]=>rfl
 | [],_::_=>rfl
 |_::_,[]=>rfl
 |a::A,b::B=>by
  have ih:=lexD_itm σ m A B
  simp only[List.map_cons,lexD,eq_itm,lt_itm,ih,lexI]
  by_cases h:a=b<;>simp[h]
def formZ (p:Par):List Tr:=if p.e=1 then [(1,1,1),(0,0,p.b)] else
 (1,0,1)::((if p.a≠0 then [(0,1,p.a)] else [])++(if p.b≠0 then [(0,0,p.b)] else []))
theorem formZ_map (p:Par):(formEs p).map (fun e=>D.tup [keyD e.1,e.2])=(formZ p).map itm:=by
 unfold formEs formZ
 by_cases he:p.e=1
 ·simp[he,itm]
 ·by_cases ha:p.a=0<;>by_cases hb:p.b=0<;>simp[he,ha,hb,itm]
theorem formZ_len (p:Par):(formEs p).length=(formZ p).length:=by
 have:=congrArg List.length (formZ_map p)
 simpa using this
theorem itm_sortable:∀A:List Tr,sortable (A.map itm)=true
 |A=>by
  unfold sortable
  rw[Bool.or_eq_true]
  right
  rw[List.all_eq_true]
  intro d hd
  obtain⟨a,_,rfl⟩:=List.mem_map.mp hd
  rfl
theorem items_idx:∀p∈ALLP,(formZ p).length=1∨(((formZ p).length=2∨(formZ p).length=3)∧idxB (formZ p).length (fun i j=>ltI ((formZ p).getD i (0,0,0)) ((formZ p).getD j (0,0,0)))=some (List.range (formZ p).length).reverse):=by decide +kernel
theorem sort_items {σ:St} {p:Par} (hp:p∈ALLP):sortD σ ((formEs p).map fun e=>D.tup [keyD e.1,e.2])=some ((formZ p).reverse.map itm):=by
 rw[formZ_map]
 rcases items_idx p hp with h | ⟨h,hi⟩
 ·obtain⟨a,ha⟩:=List.length_eq_one_iff.mp h
  rw[ha];rfl
 ·have hl:((formZ p).map itm).length=(formZ p).length:=List.length_map _
  rw[sort_idx (b:=fun i j=>ltI ((formZ p).getD i (0,0,0)) ((formZ p).getD j (0,0,0))) (by omega) (by omega) (itm_sortable _) (fun i j hi hj=>by
   rw[hl] at hi hj
   refine⟨itm ((formZ p).getD i (0,0,0)),itm ((formZ p).getD j (0,0,0)),?_,?_,lt_itm σ 5 _ _⟩
   ·rw[List.getElem?_map,List.getElem?_eq_getElem hi];simp[hi]
   ·rw[List.getElem?_map,List.getElem?_eq_getElem hj];simp[hj]),hl,hi]
  rcases h with h|h
  ·obtain⟨a,b,hab⟩:=len_two h
   rw[hab];rfl
  ·obtain⟨a,b,c,habc⟩:=len_three h
   rw[habc];rfl
def rank (p:Par):Int:=(formZ p).reverse.foldl (fun acc t=>acc*10000+(t.1*1000+t.2.1*100+(t.2.2+10))) ((formZ p).length:Int)
theorem rank_all:∀p∈ALLP,∀q∈ALLP,(rank p=rank q↔p=q)∧((formZ p).reverse=(formZ q).reverse↔p=q)∧
  (p≠q→(if (formZ p).length=(formZ q).length then lexI (formZ p).reverse (formZ q).reverse else decide ((formZ p).length<(formZ q).length))=decide (rank p<rank q)):=by decide +kernel
def idxGood (n:Nat) (r:Nat→Nat):Bool:=match idxB n (fun i j=>decide (r i<r j∨(r i=r j∧i<j))) with
 |some is=>is.isPerm (List.range n)&&decide ((is.map r).Pairwise (·≤·))
 |none=>false
theorem idx3:∀a∈List.range 3,∀b∈List.range 3,∀c∈List.range 3,idxGood 3 (fun i=>[a,b,c].getD i 0)=true:=by decide +kernel
theorem idx2:∀a∈List.range 2,∀b∈List.range 2,idxGood 2 (fun i=>[a,b].getD i 0)=true:=by decide +kernel
theorem idx_of {n:Nat} {c:Nat→Nat} {r:Nat→Int} (h:idxGood n c=true) (hc:∀i j,i<n→j<n→(c i<c j↔r i<r j)) :
  ∃is,idxB n (fun i j=>decide (r i<r j∨(r i=r j∧i<j)))=some is∧is.Perm (List.range n)∧(is.map r).Pairwise (·≤·):=by
 have hb:idxB n (fun i j=>decide (r i<r j∨(r i=r j∧i<j)))=idxB n (fun i j=>decide (c i<c j∨(c i=c j∧i<j))):=idxB_congr fun i j hi hj=>by
  have h1:=hc i j hi hj
  have h2:=hc j i hj hi
  rw[Bool.eq_iff_iff,decide_eq_true_eq,decide_eq_true_eq]
  omega
 unfold idxGood at h
 rw[hb]
 cases hx:idxB n (fun i j=>decide (c i<c j∨(c i=c j∧i<j))) with
 |none=>rw[hx] at h;cases h
 |some is=>
  rw[hx] at h
  simp only[Bool.and_eq_true,decide_eq_true_eq,List.isPerm_iff] at h
  refine⟨is,rfl,h.1,?_⟩
  have hm:∀i∈is,i<n:=fun i hi=>by
   have:=h.1.mem_iff.mp hi
   rwa [List.mem_range] at this
  have h2:=h.2
  rw[List.pairwise_map] at h2 ⊢
  refine List.Pairwise.imp_of_mem ?_ h2
  intro a b ha hb hab
  have:=hc b a (hm b hb) (hm a ha)
  omega
theorem idx_ranks {n:Nat} (hn:n=2∨n=3) (r:Nat→Int):∃is,idxB n (fun i j=>decide (r i<r j∨(r i=r j∧i<j)))=some is∧is.Perm (List.range n)∧(is.map r).Pairwise (·≤·):=by
 rcases hn with rfl|rfl
 ·refine idx_of (c:=fun i=>[if r 1<r 0 then 1 else 0,if r 0<r 1 then 1 else 0].getD i 0) (idx2 _ (by rw[List.mem_range];split<;>omega) _ (by rw[List.mem_range];split<;>omega)) ?_
  intro i j hi hj
  have h1:i=0∨i=1:=by omega
  have h2:j=0∨j=1:=by omega
  rcases h1 with rfl|rfl<;>rcases h2 with rfl|rfl<;>simp<;>(repeat' split)<;>omega
 ·refine idx_of (c:=fun i=>[(if r 1<r 0 then 1 else 0)+(if r 2<r 0 then 1 else 0),(if r 0<r 1 then 1 else 0)+(if r 2<r 1 then 1 else 0),(if r 0<r 2 then 1 else 0)+(if r 1<r 2 then 1 else 0)].getD i 0)
   (idx3 _ (by rw[List.mem_range];split<;>split<;>omega) _ (by rw[List.mem_range];split<;>split<;>omega) _ (by rw[List.mem_range];split<;>split<;>omega)) ?_
  intro i j hi hj
  have h1:i=0∨i=1∨i=2:=by omega
  have h2:j=0∨j=1∨j=2:=by omega
  rcases h1 with rfl|rfl|rfl<;>rcases h2 with rfl|rfl|rfl<;>simp<;>(repeat' split)<;>omega
theorem sorted_one {α:Type} {r:α→Int}:∀{l m:List α},l.Perm m→(l.map r).Pairwise (·≤·)→(m.map r).Pairwise (·≤·)→(∀a∈l,∀b∈l,r a=r b→a=b)→l=m
 | [],m,h,_,_,_=>by rw[List.nil_perm.mp h]
 |a::l,[],h,_,_,_=>by have:=h.length_eq;simp at this
 |a::l,b::m,h,h1,h2,hi=>by
  simp only[List.map_cons,List.pairwise_cons] at h1 h2
  have hab:a=b:=by
   have ha:a∈b::m:=h.mem_iff.mp List.mem_cons_self
   have hb:b∈a::l:=h.mem_iff.mpr List.mem_cons_self
   rcases List.mem_cons.mp ha with q|q
   ·exact q
   ·rcases List.mem_cons.mp hb with q'|q'
    ·exact q'.symm
    ·have e1:=h1.1 _ (List.mem_map_of_mem q')
     have e2:=h2.1 _ (List.mem_map_of_mem q)
     exact hi a List.mem_cons_self b hb (by omega)
  subst hab
  rw[sorted_one ((List.perm_cons a).mp h) h1.2 h2.2 fun x hx y hy=>hi x (List.mem_cons_of_mem _ hx) y (List.mem_cons_of_mem _ hy)]
theorem srcOk_of {σ:St} {j w:Nat} {o:AO} (h:σ[j]?=some o) (hw:o.ver=w):srcOk (some (j,w)) σ=true:=by
 simp only[srcOk,h,hw]
 exact Nat.beq_refl w
def FormAt (σ:St) (q:Nat×Par):Prop:=∃w,σ[q.1]?=some (.dict (formEs q.2) w)∧q.2∈ALLP
theorem FormAt.ext {q:Nat×Par} {a b:St} (h:FormAt a q) (e:Ext a b):FormAt b q:=by
 obtain⟨w,h1,h2⟩:=h
 exact⟨w,e.get h1,h2⟩
theorem FormAt.pol {q:Nat×Par} {σ:St} (h:FormAt σ q):IsPol 1 1 (T q.2 dlt) q.1 σ:=by
 obtain⟨w,h1,h2⟩:=h
 exact⟨_,w,h1,form_pol (ok_all _ h2)⟩
abbrev Ky:=Nat×Par×Nat
def keyT (x:Ky):D:=.tup [.int ((formZ x.2.1).length:Nat),.ref x.1,.int (x.2.2:Nat)]
def KeyOk (σ:St) (x:Ky):Prop:=σ[x.1]?=some (.list ((formZ x.2.1).reverse.map itm) 0)∧x.2.1∈ALLP
theorem itm_inj (a b:Tr) (h:itm a=itm b):a=b:=by
 obtain⟨x,y,v⟩:=a
 obtain⟨x',y',v'⟩:=b
 simp[itm,keyD] at h
 simp[h]
theorem lt_keyT {σ:St} {x y:Ky} (hx:KeyOk σ x) (hy:KeyOk σ y):ltD σ CF (keyT x) (keyT y)=some (decide (rank x.2.1<rank y.2.1∨(rank x.2.1=rank y.2.1∧x.2.2<y.2.2))):=by
 obtain⟨a,p,i⟩:=x
 obtain⟨b,q,j⟩:=y
 obtain⟨h1,hp⟩:=hx
 obtain⟨h2,hq⟩:=hy
 simp only at h1 h2 hp hq
 obtain⟨r1,r2,r3⟩:=rank_all p hp q hq
 show lexD (eqD σ 7) (ltD σ 7) [.int ((formZ p).length:Nat),.ref a,.int (i:Nat)] [.int ((formZ q).length:Nat),.ref b,.int (j:Nat)]=_
 have er:eqD σ 7 (.ref a) (.ref b)=if a=b then some true else if ((formZ p).reverse.map itm).length=((formZ q).reverse.map itm).length then eqAll (eqD σ 6) ((formZ p).reverse.map itm) ((formZ q).reverse.map itm) else some false:=by
  show(if a=b then some true else _)=_
  split
  ·rfl
  ·rw[h1,h2]
 have lr:ltD σ 7 (.ref a) (.ref b)=some (lexI (formZ p).reverse (formZ q).reverse):=by
  rw[←lexD_itm σ 3]
  show(match σ[a]?,σ[b]? with|some (.list xs _),some (.list ys _)=>lexD (eqD σ 6) (ltD σ 6) xs ys|_,_=>none)=_
  rw[h1,h2]
 by_cases hpq:p=q
 ·subst hpq
  have e1:eqD σ 7 (.ref a) (.ref b)=some true:=by
   rw[er]
   split
   ·rfl
   ·rw[if_pos rfl,eqAll_itm σ 3 _ _ rfl];simp
  by_cases hij:i=j
  ·subst hij
   simp[lexD,eq_int,lt_int,e1]
  ·have:((i:Int)==(j:Int))=false:=by rw[beq_eq_false_iff_ne];omega
   simp[lexD,eq_int,lt_int,e1,this]
 ·have hr:=r3 hpq
  have hrn:¬rank p=rank q:=fun h=>hpq (r1.mp h)
  by_cases hl:(formZ p).length=(formZ q).length
  ·rw[if_pos hl] at hr
   have hAB:(formZ p).reverse≠(formZ q).reverse:=fun h=>hpq (r2.mp h)
   have hab:a≠b:=by
    rintro rfl
    rw[h1] at h2
    simp only[Option.some.injEq,AO.list.injEq,and_true] at h2
    exact hAB ((List.map_inj_right itm_inj).mp h2)
   have e1:eqD σ 7 (.ref a) (.ref b)=some false:=by
    rw[er,if_neg hab,if_pos (by simp[hl]),eqAll_itm σ 3 _ _ (by simp[hl])]
    simp only[Option.some.injEq,decide_eq_false_iff_not];exact hAB
   have hle:((((formZ p).length:Nat):Int)==(((formZ q).length:Nat):Int))=true:=by rw[beq_iff_eq];omega
   simp only[lexD,eq_int,hle,e1,lr,hr]
   simp[hrn]
  ·rw[if_neg hl] at hr
   have hle:((((formZ p).length:Nat):Int)==(((formZ q).length:Nat):Int))=false:=by rw[beq_eq_false_iff_ne];omega
   have hlt:decide ((((formZ p).length:Nat):Int)<(((formZ q).length:Nat):Int))=decide ((formZ p).length<(formZ q).length):=by
    rw[Bool.eq_iff_iff,decide_eq_true_eq,decide_eq_true_eq];omega
   simp only[lexD,eq_int,lt_int,hle,hlt,hr]
   simp[hrn]
def tagL:Nat→List (Nat×Par)→List (Par×Nat)
 |_,[]=>[]
 |i,q::L=>(q.2,i)::tagL (i+1) L
section
variable {W k:Nat}
abbrev sfElt:X:=.tup (.acons (.len (.var 3)) (.acons (.sortItems (.var 3)) (.acons (.var 2) (.anil))))
theorem key_loop {j w:Nat} {ds:List D} {o1 o2 o3 o4:Option D}:∀(L:List (Nat×Par)) (i0:Nat) (σ:St),σ[j]?=some (.list ds w)→(∀q∈L,FormAt σ q)→
  ∃(K:List Ky) (σ':St),compGo (bindT [2,3] true) (fun _ σ=>some (true,σ)) (ev (evCall FT W k) sfElt) (some (j,w)) [some (.ref j),o1,o2,o3,o4] (enumD i0 (L.map fun q=>.ref q.1)) σ=some (K.map keyT,σ')
   ∧ Ext σ σ'∧K.map (·.2)=tagL i0 L∧∀x∈K,KeyOk σ' x
 | [],i0,σ,_,_=>⟨[],σ,rfl,Ext.refl _,rfl,fun x hx=>by cases hx⟩
 |q::L,i0,σ,hj,hF=>by
  obtain⟨w1,hq,hp⟩:=hF q List.mem_cons_self
  have e1:=Ext.app σ [AO.list ((formZ q.2).reverse.map itm) 0]
  obtain⟨K,σ',h1,e2,h2,h3⟩:=key_loop (o1:=o1) (o2:=o2) (o3:=o3) (o4:=o4) L (i0+1) (σ++[.list ((formZ q.2).reverse.map itm) 0]) (e1.get hj) fun q' hq'=>(hF q' (List.mem_cons_of_mem _ hq')).ext e1
  refine⟨(σ.length,q.2,i0)::K,σ',?_,e1.trans e2,by simp[tagL,h2],fun x hx=>?_⟩
  ·have hs:=sort_items (σ:=σ) hp
   have hl:lenD σ (.ref q.1)=some (((formZ q.2).length:Nat):Int):=by
    have h5:(formEs q.2).length<LIM:=by
     rw[formZ_len]
     have:=items_idx q.2 hp
     have:LIM=1048576:=rfl
     omega
    simp only[lenD,hq]
    rw[if_pos h5,formZ_len]
   have he:ev (evCall FT W k) sfElt [some (.ref j),o1,some (.int (i0:Nat)),some (.ref q.1),o4] σ=some (keyT (σ.length,q.2,i0),σ++[.list ((formZ q.2).reverse.map itm) 0]):=by
    have hL3:3<LIM:=by decide
    simp only[ev,evs,List.getElem?_cons_zero,List.getElem?_cons_succ,hl,hq,hs,List.length_cons,List.length_nil,hL3,if_true]
    rfl
   have hb:bindT [2,3] true (.tup [.int (i0:Nat),.ref q.1]) [some (.ref j),o1,o2,o3,o4]=some [some (.ref j),o1,some (.int (i0:Nat)),some (.ref q.1),o4]:=by simp[bindT]
   have hsrc:srcOk (some (j,w)) (σ++[.list ((formZ q.2).reverse.map itm) 0])=true:=srcOk_of (e1.get hj) rfl
   rw[List.map_cons]
   show compGo _ _ _ _ _ (.tup [.int (i0:Nat),.ref q.1]::enumD (i0+1) (L.map fun q=>.ref q.1)) σ=_
   simp only[compGo,hb,he,hsrc,if_true,h1,List.map_cons]
  ·rcases List.mem_cons.mp hx with rfl|hx
   ·exact⟨e2.get (get_new _ _),hp⟩
   ·exact h3 x hx
theorem tagL_get:∀(L:List (Nat×Par)) (i0 t:Nat),(tagL i0 L)[t]?=(L[t]?).map fun q=>(q.2,i0+t)
 | [],i0,t=>by simp[tagL]
 |q::L,i0,0=>by simp[tagL]
 |q::L,i0,t+1=>by
  rw[tagL,List.getElem?_cons_succ,List.getElem?_cons_succ,tagL_get L (i0+1) t]
  simp only[Nat.add_assoc,Nat.add_comm 1 t]
theorem range_getD {α:Type} (L:List α) (d:α):(List.range L.length).map (fun t=>L.getD t d)=L:=by
 apply List.ext_getElem?
 intro i
 rw[List.getElem?_map]
 by_cases h:i<L.length
 ·rw[List.getElem?_range h,List.getElem?_eq_getElem h]
  simp[h]
 ·rw[List.getElem?_eq_none (by rw[List.length_range];omega),List.getElem?_eq_none (by omega)];rfl
def q0:Nat×Par:=(0,⟨0,0,0⟩)
theorem sorted_call {j w:Nat} {L:List (Nat×Par)} {σ:St} (hj:σ[j]?=some (.list (L.map fun q=>.ref q.1) w)) (hF:∀q∈L,FormAt σ q) (hL:1≤L.length∧L.length≤3) :
  ∃(r v:Nat) (σ':St) (M:List (Nat×Par)),evCall FT W (k+1) f_sorted_forms [.ref j] σ=some (.ref r,σ')∧Ext σ σ'∧σ.length≤r∧σ'[r]?=some (.list (M.map fun q:Nat×Par=>.ref q.1) v)∧M.Perm L∧(M.map fun q=>rank q.2).Pairwise (·≤·):=by
 obtain⟨K,σ1,h1,e1,hK,hKo⟩:=key_loop (W:=W) (k:=k) (o1:=none) (o2:=none) (o3:=none) (o4:=none) L 0 σ hj hF
 have hKget:∀t:Nat,t<L.length→∃a,K[t]?=some (a,(L.getD t q0).2,t):=fun t ht=>by
  have h:=congrArg (·[t]?) hK
  simp only[List.getElem?_map,tagL_get,List.getElem?_eq_getElem ht,Option.map_some] at h
  cases hx:K[t]? with
  |none=>rw[hx] at h;cases h
  |some x=>
   rw[hx] at h
   simp only[Option.map_some,Option.some.injEq,Nat.zero_add] at h
   refine⟨x.1,?_⟩
   rw[show x=(x.1,x.2) from rfl,h]
   simp[ht]
 have hKl:K.length=L.length:=by
  have h1:K.length≤L.length:=by
   refine Nat.le_of_not_lt fun hlt=>?_
   have h:=congrArg (·[L.length]?) hK
   simp only[List.getElem?_map,tagL_get,List.getElem?_eq_none (Nat.le_refl L.length),Option.map_none,List.getElem?_eq_getElem hlt,Option.map_some] at h
   cases h
  have h2:L.length≤K.length:=by
   refine Nat.le_of_not_lt fun hlt=>?_
   obtain⟨a,ha⟩:=hKget K.length hlt
   rw[List.getElem?_eq_none (Nat.le_refl _)] at ha
   cases ha
  omega
 have hord:∃is:List Nat,sortD (σ1++[.list [] 1]) (K.map keyT)=some (is.map fun t=>(K.map keyT).getD t .none)∧is.Perm (List.range L.length)∧(is.map fun t=>rank (L.getD t q0).2).Pairwise (·≤·):=by
  by_cases h1l:L.length=1
  ·refine⟨[0],?_,by rw[h1l];exact List.Perm.refl _,by simp⟩
   obtain⟨x,hx⟩:=List.length_eq_one_iff.mp (hKl.trans h1l)
   rw[hx];rfl
  ·obtain⟨is,hi1,hi2,hi3⟩:=idx_ranks (n:=L.length) (by omega) fun t=>rank (L.getD t q0).2
   refine⟨is,?_,hi2,hi3⟩
   have hml:(K.map keyT).length=L.length:=by rw[List.length_map,hKl]
   rw[sort_idx (b:=fun i j=>decide (rank (L.getD i q0).2<rank (L.getD j q0).2∨(rank (L.getD i q0).2=rank (L.getD j q0).2∧i<j))) (by omega) (by omega) ?_ (fun i j hi hj=>?_),hml,hi1]
   ·rfl
   ·unfold sortable
    rw[Bool.or_eq_true]
    left
    rw[List.all_eq_true]
    intro d hd
    obtain⟨a,_,rfl⟩:=List.mem_map.mp hd
    rfl
   ·rw[hml] at hi hj
    obtain⟨a,ha⟩:=hKget i hi
    obtain⟨b,hb⟩:=hKget j hj
    refine⟨keyT (a,(L.getD i q0).2,i),keyT (b,(L.getD j q0).2,j),by rw[List.getElem?_map,ha];rfl,by rw[List.getElem?_map,hb];rfl,?_⟩
    have o1:=hKo _ (List.mem_of_getElem? ha)
    have o2:=hKo _ (List.mem_of_getElem? hb)
    have h:=lt_keyT (σ:=σ1++[.list [] 1]) (x:=(a,(L.getD i q0).2,i)) (y:=(b,(L.getD j q0).2,j)) ⟨get_old o1.1,o1.2⟩ ⟨get_old o2.1,o2.2⟩
    generalize keyT (a,(L.getD i q0).2,i)=kx at *
    generalize keyT (b,(L.getD j q0).2,j)=ky at *
    dsimp only at h
    rw[h]
 obtain⟨is,hs,hperm,hsorted⟩:=hord
 have hil:∀t∈is,t<L.length:=fun t ht=>by
  have:=hperm.mem_iff.mp ht
  rwa [List.mem_range] at this
 have hisl:is.length=L.length:=by rw[hperm.length_eq,List.length_range]
 have hes:(is.map fun t=>(K.map keyT).getD t .none)=is.map fun t=>keyT ((K.getD t (0,⟨0,0,0⟩,0)).1,(L.getD t q0).2,t):=by
  apply List.map_congr_left
  intro t ht
  obtain⟨a,ha⟩:=hKget t (hil t ht)
  simp only[List.getD_eq_getElem?_getD,List.getElem?_map,ha,Option.map_some,Option.getD_some]
 rw[hes] at hs
 have e2:=Ext.app σ1 [AO.list (is.map fun t=>keyT ((K.getD t (0,⟨0,0,0⟩,0)).1,(L.getD t q0).2,t)) 1]
 generalize hT:(is.map fun t=>keyT ((K.getD t (0,⟨0,0,0⟩,0)).1,(L.getD t q0).2,t))=Ts at *
 have hTl:Ts.length<LIM:=by
  rw[←hT,List.length_map,hisl]
  have:LIM=1048576:=rfl
  omega
 have hj2:(σ1++[AO.list Ts 1])[j]?=some (.list (L.map fun q=>.ref q.1) w):=e2.get (e1.get hj)
 have hc:=comp_map (bind:=bindT [2,3,4] true) (elt:=ev (evCall FT W k) (.idx (.var 0) (.var 4))) (src:=some (σ1.length,1)) (l:=[some (.ref j),some (.ref σ1.length),none,none,none]) (σ:=σ1++[.list Ts 1])
  (fun t:Nat=>keyT ((K.getD t (0,⟨0,0,0⟩,0)).1,(L.getD t q0).2,t)) (fun t=>.ref (L.getD t q0).1) (by simp[srcOk,AO.ver]) is (fun t ht=>by
   have htl:=hil t ht
   refine⟨[some (.ref j),some (.ref σ1.length),some (.int ((formZ (L.getD t q0).2).length:Nat)),some (.ref (K.getD t (0,⟨0,0,0⟩,0)).1),some (.int (t:Nat))],by simp[bindT,keyT],?_⟩
   have hx:idxD (σ1++[AO.list Ts 1]) (.ref j) (.int (t:Nat))=some (.ref (L.getD t q0).1):=by
    simp only[idxD,hj2]
    rw[if_pos (by have:LIM=1048576:=rfl;omega),Int.toNat_natCast,List.getElem?_map,List.getElem?_eq_getElem htl]
    simp[htl]
   simp only[ev,List.getElem?_cons_zero,List.getElem?_cons_succ,hx])
 rw[hT] at hc
 refine⟨σ1.length+1,0,σ1++[.list Ts 1]++[.list (is.map fun t=>.ref (L.getD t q0).1) 0],is.map fun t=>L.getD t q0,?_,(e1.trans e2).app_r _,by obtain⟨t,rfl⟩:=e1;simp;omega,?_,?_,?_⟩
 ·have hlen:(L.map fun q:Nat×Par=>D.ref q.1).length<LIM:=by rw[List.length_map];have:LIM=1048576:=rfl;omega
  have hel:∀(n:Nat) (ds:List D),(enumD n ds).length=ds.length:=fun n ds=>by
   induction ds generalizing n with
   |nil=>rfl
   |cons d ds ih=>simp[enumD,ih]
  have hit1:evI (evCall FT W k) (.ienum (.var 0)) [some (.ref j),none,none,none,none] σ=some (enumD 0 (L.map fun q=>.ref q.1),some (j,w),σ):=by simp[evI,ev,hj]
  have hL1:evL (evCall FT W k) (.lcomp sfElt [2,3] true (.ienum (.var 0)) none) [some (.ref j),none,none,none,none] σ=some (K.map keyT,σ1):=by
   rw[evL,hit1]
   dsimp only
   rw[if_pos (by rw[hel];exact hlen),h1]
  have hit2:evI (evCall FT W k) (.ix (.var 1)) [some (.ref j),some (.ref σ1.length),none,none,none] (σ1++[.list Ts 1])=some (Ts,some (σ1.length,1),σ1++[.list Ts 1]):=by simp[evI,ev,iterOf]
  have hL2:evL (evCall FT W k) (.lcomp (.idx (.var 0) (.var 4)) [2,3,4] true (.ix (.var 1)) none) [some (.ref j),some (.ref σ1.length),none,none,none] (σ1++[.list Ts 1])=some (is.map fun t=>.ref (L.getD t q0).1,σ1++[.list Ts 1]):=by
   rw[evL,hit2]
   dsimp only
   rw[if_pos hTl,hc]
  refine call_ret (fn:=⟨1,5,b_sorted_forms⟩) rfl rfl (l:=[some (.ref j),some (.ref σ1.length),none,none,none])
   (seq_next (l1:=[some (.ref j),some (.ref σ1.length),none,none,none]) (σ1:=σ1++[.list (K.map keyT) 0]) ?_ (seq_next (l1:=[some (.ref j),some (.ref σ1.length),none,none,none]) (σ1:=σ1++[.list Ts 1]) ?_ ?_))
  ·show exS (evCall FT W k) W (.asg 1 (.lst (.lcomp sfElt [2,3] true (.ienum (.var 0)) none))) [some (.ref j),none,none,none,none] σ=_
   simp only[exS,ev,hL1]
   rfl
  ·have hg:(σ1++[AO.list (K.map keyT) 0])[σ1.length]?=some (.list (K.map keyT) 0):=get_new _ _
   simp only[exS,ev,List.getElem?_cons_zero,List.getElem?_cons_succ,hg,set_new,hs,Nat.zero_add]
  ·simp only[exS,ev,hL2]
   simp
 ·rw[show σ1.length+1=(σ1++[AO.list Ts 1]).length by simp,get_new,List.map_map];rfl
 ·have:=hperm.map fun t=>L.getD t q0
  rwa [range_getD] at this
 ·rw[List.map_map];exact hsorted
end
section
variable {W k:Nat}
theorem times_form {σ:St} {i:Nat} {n d:Int} {q:Nat×Par} {c:Cf} {K:Nat} (hW:2^30≤W) (hn:n≠0) (hd:0<d) (hd':d<2^15) (hi:IsPol n d c i σ) (hq:IsPol 1 1 (T q.2 dlt) q.1 σ) (ok:q.2.Ok) (sc:Supp K c) (hK:K+1≤8) :
  ∃r σ',evCall FT W (k+4) f_product_of_forms [.ref i,.ref q.1] σ=some (.ref r,σ')∧Ext σ σ'∧σ.length≤r∧IsPol n d (T q.2 c) r σ':=by
 obtain⟨es,wa,hi,pa⟩:=hi
 obtain⟨fs,wb,hj,pb⟩:=hq
 have bb:Bnd 1 (T q.2 dlt):=bnd_dlt.T ok
 obtain⟨r,σ',h1,h2,h3,h4⟩:=product_call (W:=W) (k:=k) (n':=1) (d':=1) hW hn (by omega) hd (by omega) (by omega) pa hi pb hj (fun x y=>by have:=bb.lt (by omega) x y;omega) sc (supp_dlt.T ok) hK
 rw[Int.mul_one,Int.mul_one,conv_T,conv_dlt pa] at h4
 exact⟨r,σ',h1,h2,h3,h4⟩
abbrev mbIn:XS:=.asg 2 (.call f_product_of_forms (.acons (.var 2) (.acons (.var 3) (.anil))))
theorem mb_inner {n d:Int} {q:Nat×Par} {o0 o1 o4:Option D} (hW:2^30≤W) (hn:n≠0) (hd:0<d) (hd':d<2^15) (ok:q.2.Ok) :
  ∀(suf:List D) (σ:St) (i K:Nat) (c:Cf) (o5:Option D),IsPol n d c i σ→IsPol 1 1 (T q.2 dlt) q.1 σ→Supp K c→K+suf.length≤8→
   ∃i' σ' q5,forGo (bindT [5] false) (exS (evCall FT W (k+4)) W mbIn) none suf [o0,o1,some (.ref i),some (.ref q.1),o4,o5] σ=some (.next,[o0,o1,some (.ref i'),some (.ref q.1),o4,q5],σ')
    ∧ Ext σ σ'∧IsPol n d ((List.replicate suf.length q.2).foldl (fun c p=>T p c) c) i' σ'∧Supp (K+suf.length) ((List.replicate suf.length q.2).foldl (fun c p=>T p c) c)
 | [],σ,i,K,c,o5,hi,_,sc,_=>⟨i,σ,o5,rfl,Ext.refl _,hi,sc⟩
 |e::suf,σ,i,K,c,o5,hi,hq,sc,hk=>by
  simp only[List.length_cons] at hk ⊢
  obtain⟨r,σ1,h1,e1,_,p1⟩:=times_form (W:=W) (k:=k) hW hn hd hd' hi hq ok sc (by omega)
  obtain⟨i',σ',q5,h2,e2,p2,s2⟩:=mb_inner (o0:=o0) (o1:=o1) (o4:=o4) hW hn hd hd' ok suf σ1 r (K+1) (T q.2 c) (some e) p1 (hq.ext e1) (sc.T ok) (by omega)
  refine⟨i',σ',q5,?_,e1.trans e2,by rw[List.replicate_succ];exact p2,by rw[List.replicate_succ,show K+(suf.length+1)=K+1+suf.length by omega];exact s2⟩
  refine(for_next (l1:=[o0,o1,some (.ref i),some (.ref q.1),o4,some e]) (l2:=[o0,o1,some (.ref r),some (.ref q.1),o4,some e]) (σ2:=σ1) (by simp[bindT]) ?_ rfl).trans h2
  simp only[exS,ev,evs,List.getElem?_cons_zero,List.getElem?_cons_succ,h1]
  rfl
def expL (L:List ((Nat×Par)×Nat)):List Par:=L.flatMap fun x=>List.replicate x.2 x.1.2
theorem mb_outer {n d:Int} {ip wp:Nat} {dp:List D} {o0:Option D} (hW:2^30≤W) (hn:n≠0) (hd:0<d) (hd':d<2^15) :
  ∀(L:List ((Nat×Par)×Nat)) (σ:St) (i K:Nat) (c:Cf) (o3 o4 o5:Option D),σ[ip]?=some (.list dp wp)→IsPol n d c i σ→(∀x∈L,IsPol 1 1 (T x.1.2 dlt) x.1.1 σ∧x.1.2.Ok)→Supp K c→K+(expL L).length≤8→
   ∃i' σ' q3 q4 q5,forGo (bindT [3,4] true) (exS (evCall FT W (k+4)) W (.for_ [5] false (.irange (.lit (.int 0)) (.var 4)) mbIn)) (some (ip,wp)) (L.map fun x=>.tup [.ref x.1.1,.int (x.2:Nat)]) [o0,some (.ref ip),some (.ref i),o3,o4,o5] σ=some (.next,[o0,some (.ref ip),some (.ref i'),q3,q4,q5],σ')
    ∧ Ext σ σ'∧IsPol n d ((expL L).foldl (fun c p=>T p c) c) i' σ'
 | [],σ,i,K,c,o3,o4,o5,_,hi,_,_,_=>⟨i,σ,o3,o4,o5,rfl,Ext.refl _,hi⟩
 |x::L,σ,i,K,c,o3,o4,o5,hp,hi,hF,sc,hk=>by
  have hex:expL (x::L)=List.replicate x.2 x.1.2++expL L:=by simp[expL]
  rw[hex,List.length_append,List.length_replicate] at hk
  obtain⟨hx,ok⟩:=hF x List.mem_cons_self
  have hsl:((List.range x.2).map (fun t:Nat=>D.int (t:Int))).length=x.2:=by simp
  obtain⟨i1,σ1,q5,h1,e1,p1,s1⟩:=mb_inner (W:=W) (k:=k) (q:=x.1) (o0:=o0) (o1:=some (.ref ip)) (o4:=some (.int (x.2:Nat))) hW hn hd hd' ok ((List.range x.2).map fun t:Nat=>.int (t:Int)) σ i K c o5 hi hx sc (by rw[hsl];omega)
  rw[hsl] at p1 s1
  obtain⟨i',σ',q3',q4',q5',h2,e2,p2⟩:=mb_outer hW hn hd hd' (o0:=o0) L σ1 i1 (K+x.2) _ (some (.ref x.1.1)) (some (.int (x.2:Nat))) q5 (e1.get hp) p1 (fun y hy=>⟨(hF y (List.mem_cons_of_mem _ hy)).1.ext e1,(hF y (List.mem_cons_of_mem _ hy)).2⟩) s1 (by omega)
  refine⟨i',σ',q3',q4',q5',?_,e1.trans e2,by rw[hex,List.foldl_append];exact p2⟩
  rw[List.map_cons]
  refine(for_next (l1:=[o0,some (.ref ip),some (.ref i),some (.ref x.1.1),some (.int (x.2:Nat)),o5]) (l2:=[o0,some (.ref ip),some (.ref i1),some (.ref x.1.1),some (.int (x.2:Nat)),q5]) (σ2:=σ1) (by simp[bindT]) ?_ (srcOk_of (e1.get hp) rfl)).trans h2
  rw[for_ev (ds:=(List.range x.2).map fun t:Nat=>.int (t:Int)) (src:=none) (σ1:=σ)]
  ·exact h1
  ·simp only[evI,ev,List.getElem?_cons_zero,List.getElem?_cons_succ]
   rw[if_pos (by have:LIM=1048576:=rfl;omega)]
   simp[rangeD]
theorem number_pol {n:Int} {dn:Nat} (hd:0<dn) (hg:Int.gcd n dn=1):Pol n dn dlt [([0,0],qD n dn)] where
 nd:=by simp
 get:=fun x y=>by
  rw[dg_cons,dg_nil]
  by_cases h:x=0∧y=0
  ·simp[h,dlt,ratD_cop hd hg]
  ·have:¬(0=x∧0=y):=by omega
   simp[h,dlt,this]
 two:=fun e he=>by simp at he;subst he;exact⟨0,0,rfl⟩
theorem mb_call {σ:St} {n:Int} {dn ip wp:Nat} {L:List ((Nat×Par)×Nat)} (hW:2^30≤W) (hn:n≠0) (hd:0<dn) (hd':dn<2^15) (hg:Int.gcd n dn=1) (hp:σ[ip]?=some (.list (L.map fun x=>.tup [.ref x.1.1,.int (x.2:Nat)]) wp))
  (hF:∀x∈L,IsPol 1 1 (T x.1.2 dlt) x.1.1 σ∧x.1.2.Ok) (hk:(expL L).length≤8) :
  ∃r σ',evCall FT W (k+5) f_multiplied_back [qD n dn,.ref ip] σ=some (.ref r,σ')∧Ext σ σ'∧IsPol n dn (prodT (expL L)) r σ':=by
 have e0:=Ext.app σ [AO.dict [([0,0],qD n dn)] 0]
 obtain⟨r,σ',q3,q4,q5,h1,e1,p1⟩:=mb_outer (W:=W) (k:=k) (o0:=some (qD n dn)) hW hn (d:=(dn:Int)) (by omega) (by omega) L (σ++[.dict [([0,0],qD n dn)] 0]) σ.length 0 dlt none none none (e0.get hp) ⟨_,0,get_new _ _,number_pol hd hg⟩ (fun x hx=>⟨(hF x hx).1.ext e0,(hF x hx).2⟩) supp_dlt (by omega)
 rw[foldl_prodT] at p1
 refine⟨r,σ',?_,e0.trans e1,p1⟩
 refine call_ret (fn:=⟨2,6,b_multiplied_back⟩) rfl rfl (l:=[some (qD n dn),some (.ref ip),some (.ref r),q3,q4,q5])
  (seq_next (l1:=[some (qD n dn),some (.ref ip),some (.ref σ.length),none,none,none]) (σ1:=σ++[.dict [([0,0],qD n dn)] 0]) ?_ (seq_next (l1:=[some (qD n dn),some (.ref ip),some (.ref r),q3,q4,q5]) (σ1:=σ') ?_ ?_))
 ·have hne:cmpD .ne (qD n dn) (.tup [.int 0,.int 1]) σ=some true:=by
   rw[cmp_ne_tup,eq_pair]
   have:(n==0)=false:=by simpa using hn
   simp[this]
  simp[exS,ev,evs,hne,truthD,dispE,ints?,LIM]
  rfl
 ·rw[for_ev (ds:=L.map fun x=>.tup [.ref x.1.1,.int (x.2:Nat)]) (src:=some (ip,wp)) (σ1:=σ++[.dict [([0,0],qD n dn)] 0]) (by simp only[evI,ev,List.getElem?_cons_zero,List.getElem?_cons_succ,iterOf,e0.get hp])]
  exact h1
 ·simp[exS,ev]
abbrev scElt:X:=.tup (.acons (.var 19) (.acons (.call f_rat (.acons (.bin .mul (.idx (.idx (.var 16) (.var 19)) (.lit (.int 0))) (.idx (.var 13) (.lit (.int 0)))) (.acons (.idx (.var 13) (.lit (.int 1))) (.anil)))) (.anil)))
theorem scaled_ev {σ:St} {i:Nat} {n:Int} {dn:Nat} {c:Cf} {l:Loc} (hW:2^30≤W) (hd:0<dn) (hd':dn<2^15) (hn:n≠0) (hn':n.natAbs<2^15) (hi:IsPol 1 1 c i σ) (bx:Box c)
  (h16:l[16]?=some (some (.ref i))) (h13:l[13]?=some (some (qD n dn))) (hl:l.length=21) :
  ∃σ',ev (evCall FT W (k+2)) (.dictPairs (.lcomp scElt [19] false (.ix (.var 16)) none)) l σ=some (.ref σ.length,σ')∧Ext σ σ'∧IsPol n dn c σ.length σ':=by
 obtain⟨es,w,hi,p⟩:=hi
 have pv:Pol n dn c (es.map fun e=>(e.1,ratD (c (kx e.1) (ky e.1)*n) dn)):=p.mapv (fun e=>ratD (c (kx e.1) (ky e.1)*n) dn) (fun x y=>Iff.rfl) fun x y hc=>rfl
 refine⟨σ++[.dict (es.map fun e=>(e.1,ratD (c (kx e.1) (ky e.1)*n) dn)) 0],?_,Ext.app _ _,⟨_,0,get_new _ _,pv⟩⟩
 have hc:=comp_map (bind:=bindT [19] false) (elt:=ev (evCall FT W (k+2)) scElt) (src:=some (i,w)) (l:=l) (σ:=σ) (fun e:List Int×D=>keyD e.1) (fun e=>.tup [keyD e.1,ratD (c (kx e.1) (ky e.1)*n) dn]) (srcOk_of hi rfl) es (fun e he=>by
  obtain⟨x,y,rfl,hc⟩:=p.entry he
  refine⟨l.set 19 (some (keyD [x,y])),rfl,?_⟩
  have g19:(l.set 19 (some (keyD [x,y])))[19]?=some (some (keyD [x,y])):=List.getElem?_set_self (by omega)
  have g16:(l.set 19 (some (keyD [x,y])))[16]?=some (some (.ref i)):=by rw[List.getElem?_set_ne (by omega)];exact h16
  have g13:(l.set 19 (some (keyD [x,y])))[13]?=some (some (qD n dn)):=by rw[List.getElem?_set_ne (by omega)];exact h13
  have hidx:idxD σ (.ref i) (keyD [x,y])=some (qD (c x y) 1):=by simp[idxD,keyD,hi,ints?,PolI.val p,hc]
  have i0:∀a b:Int,idxD σ (qD a b) (.int 0)=some (.int a):=fun _ _=>rfl
  have i1:∀a b:Int,idxD σ (qD a b) (.int 1)=some (.int b):=fun _ _=>rfl
  have m:MOk (c x y) n:=.inr (by omega)
  have hrat:=rat_call (W:=W) (n:=k) (σ:=σ) (t:=c x y*n) (b:=(dn:Int)) (by omega) (by omega) (by omega)
  have h2:2<LIM:=by decide
  simp only[ev,evs,g19,g16,g13,hidx,i0,i1,binD,m,if_true,hrat,List.length_cons,List.length_nil,h2]
  rfl)
 have hit:evI (evCall FT W (k+2)) (.ix (.var 16)) l σ=some (es.map fun e=>keyD e.1,some (i,w),σ):=by simp only[evI,ev,h16,iterOf,hi]
 have hle:(es.map fun e=>keyD e.1).length<LIM:=by rw[List.length_map];exact p.len bx
 have hL:evL (evCall FT W (k+2)) (.lcomp scElt [19] false (.ix (.var 16)) none) l σ=some (es.map (fun e=>.tup [keyD e.1,ratD (c (kx e.1) (ky e.1)*n) dn]),σ):=by
  rw[evL,hit]
  dsimp only
  rw[if_pos hle,hc]
 have hp:=pairs_map (es.map fun e=>(e.1,ratD (c (kx e.1) (ky e.1)*n) dn)) [] (by simpa using pv.nd) (by rw[List.length_map];simpa using p.len bx)
 simp only[List.map_map,List.nil_append] at hp
 rw[ev,hL]
 dsimp only
 rw[show pairsD [] (es.map (fun e=>.tup [keyD e.1,ratD (c (kx e.1) (ky e.1)*n) dn]))=_ from hp]
end
abbrev sl_1:XS:=.asg 1 (.lst (.ldisp (.acons (.listOf (.lsl (.var 0) none (some 30))) (.acons (.lit (.int 0)) (.anil)))))
abbrev sl_2:XS:=.asg 2 (.lst (.lcomp (.call f_law_form (.acons (.var 1) (.anil))) [19] false (.irange (.lit (.int 0)) (.bin .add (.lit (.int 1)) (.call f_law_take (.acons (.var 1) (.acons (.lit (.int 3)) (.anil)))))) none))
abbrev sl_3:XS:=.asgT [3,4] (.tup (.acons (.call f_law_take (.acons (.var 1) (.acons (.lit (.int 6)) (.anil)))) (.acons (.call f_law_take (.acons (.var 1) (.acons (.lit (.int 4)) (.anil)))) (.anil))))
abbrev sl_4:XS:=.ifs (.or (.not (.call f_law_lots_right (.acons (.var 3) (.acons (.var 4) (.anil))))) (.or (.not (.call f_law_lots_right (.acons (.len (.var 2)) (.acons (.lit (.int 1)) (.anil))))) (.not (.call f_law_lots_right (.acons (.lit (.int 3)) (.acons (.lit (.int 0)) (.anil))))))) (.ret (.lit (.bool false))) (.nil)
abbrev sl_5:XS:=.asg 5 (.bin .add (.bin .add (.len (.var 2)) (.lit (.int 1))) (.call f_law_take (.acons (.var 1) (.acons (.lit (.int 2)) (.anil)))))
abbrev sl_6:XS:=.asgT [6,7,8] (.tup (.acons (.call f_law_product (.acons (.var 2) (.anil))) (.acons (.lst (.ldisp (.anil))) (.acons (.listOf (.lofx (.var 2))) (.anil)))))
abbrev sl_7:XS:=.whl (.neNil (.var 8)) (.expr (.append (.var 7) (.popAt (.var 8) (.call f_law_take (.acons (.var 1) (.acons (.len (.var 8)) (.anil)))))))
abbrev sl_8:XS:=.ifs (.neNilL (.lcomp (.var 19) [19] false (.ix (.bin .add (.var 2) (.lst (.ldisp (.acons (.var 6) (.anil)))))) (some (.not (.call f_law_flat_right (.acons (.var 19) (.acons (.var 5) (.anil)))))))) (.ret (.lit (.bool false))) (.nil)
abbrev sl_9:XS:=.asg 9 (.idx (.lst (.ldisp (.acons (.lit (.int 1)) (.acons (.lit (.int 2)) (.acons (.neg (.lit (.int 3))) (.anil)))))) (.call f_law_take (.acons (.var 1) (.acons (.lit (.int 3)) (.anil)))))
abbrev sl_10:XS:=.asg 10 (.lst (.lcomp (.lst (.lcomp (.bin .mul (.var 9) (.var 20)) [20] false (.ix (.call f_flattened (.acons (.var 19) (.acons (.var 5) (.anil))))) none)) [19] false (.ix (.var 7)) none))
abbrev sl_11:XS:=.for_ [11] false (.ix (.bin .add (.call f_lots_of (.acons (.len (.var 7)) (.acons (.lit (.int 1)) (.anil)))) (.call f_lots_of (.acons (.len (.var 7)) (.acons (.lit (.int 2)) (.anil)))))) (.ifs (.cmp .ne (.call f_candidate_of (.acons (.var 10) (.acons (.var 11) (.acons (.var 5) (.anil))))) (.call f_law_product (.acons (.lst (.lcomp (.idx (.var 7) (.var 19)) [19] false (.ix (.var 11)) none)) (.anil)))) (.ret (.lit (.bool false))) (.nil))
abbrev sl_12:XS:=.asg 12 (.call f_first_hit (.acons (.var 6) (.acons (.var 10) (.acons (.lit (.int 1)) (.acons (.var 5) (.anil))))))
abbrev sl_13:XS:=.ifs (.or (.isn (.var 12)) (.or (.cmp .ne (.idx (.var 12) (.lit (.int 0))) (.tup (.acons (.lit (.int 0)) (.anil)))) (.or (.cmp .ne (.idx (.var 12) (.lit (.int 1))) (.idx (.var 7) (.lit (.int 0)))) (.cmp .ne (.idx (.var 12) (.lit (.int 2))) (.call f_law_product (.acons (.lst (.lsl (.var 7) (some 1) none)) (.anil))))))) (.ret (.lit (.bool false))) (.nil)
abbrev sl_14:XS:=.ifs (.notn (.call f_first_hit (.acons (.dict (.acons (.tup (.acons (.lit (.int 0)) (.acons (.lit (.int 2)) (.anil)))) (.acons (.tup (.acons (.lit (.int 1)) (.acons (.lit (.int 1)) (.anil)))) (.acons (.tup (.acons (.lit (.int 0)) (.acons (.lit (.int 0)) (.anil)))) (.acons (.tup (.acons (.lit (.int 7)) (.acons (.lit (.int 1)) (.anil)))) (.anil)))))) (.acons (.var 10) (.acons (.lit (.int 1)) (.acons (.var 5) (.anil))))))) (.ret (.lit (.bool false))) (.nil)
abbrev sl_15:XS:=.ifs (.notn (.call f_first_hit (.acons (.var 6) (.acons (.lst (.ldisp (.acons (.lst (.ldisp (.acons (.lit (.int 5)) (.anil)))) (.anil)))) (.acons (.lit (.int 1)) (.acons (.var 5) (.anil))))))) (.ret (.lit (.bool false))) (.nil)
abbrev sl_16:XS:=.ifs (.or (.cmp .ne (.call f_sorted_forms (.acons (.var 7) (.anil))) (.call f_sorted_forms (.acons (.var 2) (.anil)))) (.cmp .ne (.len (.call f_sorted_forms (.acons (.var 7) (.anil)))) (.len (.var 2)))) (.ret (.lit (.bool false))) (.nil)
abbrev sl_17:XS:=.ifs (.neNilL (.lcomp (.var 19) [19] false (.ix (.var 2)) (some (.cmp .notin (.var 19) (.call f_sorted_forms (.acons (.var 7) (.anil))))))) (.ret (.lit (.bool false))) (.nil)
abbrev sl_18:XS:=.asgT [13,14] (.tup (.acons (.call f_rat (.acons (.idx (.lst (.ldisp (.acons (.lit (.int 1)) (.acons (.lit (.int 2)) (.acons (.neg (.lit (.int 3))) (.acons (.lit (.int 5)) (.anil))))))) (.call f_law_take (.acons (.var 1) (.acons (.lit (.int 4)) (.anil))))) (.acons (.bin .add (.lit (.int 1)) (.call f_law_take (.acons (.var 1) (.acons (.lit (.int 3)) (.anil))))) (.anil)))) (.acons (.bin .add (.lit (.int 1)) (.call f_law_take (.acons (.var 1) (.acons (.lit (.int 2)) (.anil))))) (.anil))))
abbrev sl_19:XS:=.asg 15 (.call f_multiplied_back (.acons (.var 13) (.acons (.bin .add (.lst (.ldisp (.acons (.tup (.acons (.idx (.var 2) (.lit (.int 0))) (.acons (.var 14) (.anil)))) (.anil)))) (.lst (.lcomp (.tup (.acons (.var 19) (.acons (.lit (.int 1)) (.anil)))) [19] false (.ix (.lst (.lsl (.var 2) (some 1) none))) none))) (.anil))))
abbrev sl_20:XS:=.asg 16 (.call f_law_product (.acons (.bin .add (.var 2) (.rep (.idx (.var 2) (.lit (.int 0))) (.bin .sub (.var 14) (.lit (.int 1))))) (.anil)))
abbrev sl_21:XS:=.asg 17 (.dictPairs (.lcomp (.tup (.acons (.var 19) (.acons (.call f_rat (.acons (.bin .mul (.idx (.idx (.var 16) (.var 19)) (.lit (.int 0))) (.idx (.var 13) (.lit (.int 0)))) (.acons (.idx (.var 13) (.lit (.int 1))) (.anil)))) (.anil)))) [19] false (.ix (.var 16)) none))
abbrev sl_22:XS:=.ifs (.or (.cmp .ne (.var 15) (.var 17)) (.or (.cmp .ne (.call f_whole_form (.acons (.var 15) (.anil))) (.tup (.acons (.var 13) (.acons (.var 16) (.anil))))) (.cmp .ne (.call f_whole_form (.acons (.dict (.anil)) (.anil))) (.tup (.acons (.tup (.acons (.lit (.int 0)) (.acons (.lit (.int 1)) (.anil)))) (.acons (.dict (.anil)) (.anil))))))) (.ret (.lit (.bool false))) (.nil)
abbrev sl_23:XS:=.ifs (.or (.cmp .ne (.call f_product_of_forms (.acons (.var 16) (.acons (.dict (.acons (.tup (.acons (.lit (.int 0)) (.acons (.lit (.int 0)) (.anil)))) (.acons (.var 13) (.anil)))) (.anil)))) (.var 17)) (.cmp .ne (.call f_product_of_forms (.acons (.var 16) (.acons (.dict (.anil)) (.anil)))) (.dict (.anil)))) (.ret (.lit (.bool false))) (.nil)
abbrev sl_24:XS:=.ifs (.cmp .ne (.call f_product_of_forms (.acons (.var 17) (.acons (.var 6) (.anil)))) (.call f_product_of_forms (.acons (.var 6) (.acons (.var 17) (.anil))))) (.ret (.lit (.bool false))) (.nil)
abbrev sl_25:XS:=.asg 18 (.tup (.acons (.dict (.anil)) (.acons (.dict (.acons (.tup (.acons (.lit (.int 0)) (.acons (.lit (.int 0)) (.anil)))) (.acons (.var 13) (.anil)))) (.acons (.var 16) (.acons (.dict (.acons (.tup (.acons (.lit (.int 0)) (.acons (.lit (.int 1)) (.anil)))) (.acons (.tup (.acons (.lit (.int 1)) (.acons (.lit (.int 1)) (.anil)))) (.anil)))) (.anil))))))
abbrev sl_26:XS:=.ret (.cmp .eq (.lst (.lcomp (.call f_is_number_form (.acons (.var 19) (.anil))) [19] false (.ix (.var 18)) none)) (.lst (.ldisp (.acons (.lit (.bool true)) (.acons (.lit (.bool true)) (.acons (.lit (.bool false)) (.acons (.lit (.bool false)) (.anil))))))))
theorem law_body:b_law = .seq sl_1 (.seq sl_2 (.seq sl_3 (.seq sl_4 (.seq sl_5 (.seq sl_6 (.seq sl_7 (.seq sl_8 (.seq sl_9 (.seq sl_10 (.seq sl_11 (.seq sl_12 (.seq sl_13 (.seq sl_14 (.seq sl_15 (.seq sl_16 (.seq sl_17 (.seq sl_18 (.seq sl_19 (.seq sl_20 (.seq sl_21 (.seq sl_22 (.seq sl_23 (.seq sl_24 (.seq sl_25 (sl_26))))))))))))))))))))))))):=rfl
def Kp (σ σ':St):Prop:=∀i o,2≤i→σ[i]?=some o→σ'[i]?=some o
theorem Kp.trans {a b c:St} (h:Kp a b) (h':Kp b c):Kp a c:=fun i o h2 e=>h' i o h2 (h i o h2 e)
theorem Ext.kp {a b:St} (h:Ext a b):Kp a b:=fun i o _ e=>h.get e
theorem kp_of {σ σ' τ τ':St} (h:HasBox σ τ) (h':HasBox σ' τ') (e:Ext τ τ'):Kp σ σ':=fun i o h2 hi=>by
 obtain⟨j,rfl⟩:∃j,i=j+2:=⟨i-2,by omega⟩
 rw[h.get] at hi
 rw[h'.get]
 exact e.get hi
theorem IsPol.kp {n d:Int} {c:Cf} {r:Nat} {a b:St} (h:IsPol n d c r a) (h2:2≤r) (k:Kp a b):IsPol n d c r b:=by
 obtain⟨es,w,h1,p⟩:=h
 exact⟨es,w,k _ _ h2 h1,p⟩
theorem FormAt.kp {q:Nat×Par} {a b:St} (h:FormAt a q) (h2:2≤q.1) (k:Kp a b):FormAt b q:=by
 obtain⟨w,h1,hp⟩:=h
 exact⟨w,k _ _ h2 h1,hp⟩
def Frm (σ:St) (L:List (Nat×Par)):Prop:=∀q∈L,FormAt σ q∧2≤q.1
theorem Frm.kp {L:List (Nat×Par)} {a b:St} (h:Frm a L) (k:Kp a b):Frm b L:=fun q hq=>⟨(h q hq).1.kp (h q hq).2 k,(h q hq).2⟩
theorem Frm.forms {L:List (Nat×Par)} {a:St} (h:Frm a L):Forms L a:=fun q hq=>⟨(h q hq).1.pol,by obtain⟨w,_,hp⟩:=(h q hq).1;exact ok_all _ hp⟩
theorem HasBox.ge {σ τ:St} (h:HasBox σ τ):2≤σ.length:=by rw[h.len];omega
theorem gs {l:Loc} {i j:Nat} {v:Option D} {x:Option (Option D)} (h:l[j]?=x) (hij:i≠j):(l.set i v)[j]?=x:=by
 rw[List.getElem?_set_ne hij];exact h
theorem gss {l:Loc} {i:Nat} {v:Option D} (h:i<l.length):(l.set i v)[i]?=some v:=List.getElem?_set_self h
section
variable {W k:Nat}
theorem forms_loop {l:Loc} {C:Nat→List D→St→Option (D×St)} (hC:C=evCall FT W (k+14)) (h1:l[1]?=some (some (.ref 1))) (hl:l.length=21):∀(ds:List D) (σ τ:St),HasBox σ τ→
  ∃(L:List (Nat×Par)) (σ' t:St),compGo (bindT [19] false) (fun _ σ=>some (true,σ)) (ev C (.call f_law_form (.acons (.var 1) (.anil)))) none l ds σ=some (L.map fun q=>.ref q.1,σ')∧HasBox σ' (τ++t)∧Frm σ' L∧L.length=ds.length
 | [],σ,τ,h=>⟨[],σ,[],rfl,by simpa using h,(fun q hq=>by cases hq),rfl⟩
 |d::ds,σ,τ,h=>by
  obtain⟨p,w,σ1,hc,hp,B1⟩:=form_call (W:=W) (k:=k+12) h
  obtain⟨L,σ',t,h2,B2,hF,hlen⟩:=forms_loop hC h1 hl ds σ1 _ B1
  have e:Ext (τ++[.dict (formEs p) w]) (τ++[.dict (formEs p) w]++t):=Ext.app _ _
  have hg:σ1[τ.length+2]?=some (.dict (formEs p) w):=by rw[B1.get];simp
  refine⟨(τ.length+2,p)::L,σ',[.dict (formEs p) w]++t,?_,by rw[←List.append_assoc];exact B2,fun q hq=>?_,by simp[hlen]⟩
  ·have g1:(l.set 19 (some d))[1]?=some (some (.ref 1)):=gs h1 (by decide)
   have hev:ev C (.call f_law_form (.acons (.var 1) (.anil))) (l.set 19 (some d)) σ=some (.ref (τ.length+2),σ1):=by
    subst hC
    simp only[ev,evs,g1,hc]
   have hb:bindT [19] false d l=some (l.set 19 (some d)):=rfl
   have hs:srcOk none σ1=true:=rfl
   simp only[compGo,hb,hev,hs,if_true,h2,List.map_cons]
  ·rcases List.mem_cons.mp hq with rfl|hq
   ·exact⟨⟨w,kp_of B1 B2 e _ _ (by omega) hg,hp⟩,by show 2≤τ.length+2;omega⟩
   ·exact hF q hq
theorem stage1 {is:List Int} (h:is.length≤63):exS (evCall FT W (k+14)) W sl_1 (some (.fro (is.map .int))::List.replicate 20 none) []=some (.next,some (.fro (is.map .int))::some (.ref 1)::List.replicate 19 none,[.list ((is.take 30).map .int) 0,.list [.ref 0,.int 0] 0]):=by
 have hl:is.length<1048576:=by omega
 simp[exS,ev,evs,evL,LIM,hl]
 have:min 30 is.length<1048576:=by omega
 simp[this,List.replicate]
theorem stage2 {l:Loc} {σ τ:St} (B:HasBox σ τ) (h1:l[1]?=some (some (.ref 1))) (hl:l.length=21) :
  ∃(L:List (Nat×Par)) (rf:Nat) (σ' τ':St),exS (evCall FT W (k+14)) W sl_2 l σ=some (.next,l.set 2 (some (.ref rf)),σ')∧HasBox σ' τ'∧2≤rf∧σ'[rf]?=some (.list (L.map fun q=>.ref q.1) 0)∧Frm σ' L∧1≤L.length∧L.length≤3:=by
 obtain⟨v,σ1,ht,hv0,hv3,B1⟩:=take_call (W:=W) (k:=k+13) (m:=3) B (by omega)
 obtain⟨L,σ2,t,h2,B2,hF,hlen⟩:=forms_loop (W:=W) (k:=k) rfl h1 hl (rangeD 0 (1+v)) σ1 τ B1
 have hrl:(rangeD 0 (1+v)).length=(1+v).toNat:=by simp[rangeD]
 have e2:=Ext.app σ2 [AO.list (L.map fun q:Nat×Par=>.ref q.1) 0]
 refine⟨L,σ2.length,σ2++[.list (L.map fun q=>.ref q.1) 0],_,?_,B2.app _,B2.ge,get_new _ _,hF.kp e2.kp,by omega,by omega⟩
 have hit:evI (evCall FT W (k+14)) (.irange (.lit (.int 0)) (.bin .add (.lit (.int 1)) (.call f_law_take (.acons (.var 1) (.acons (.lit (.int 3)) (.anil)))))) l σ=some (rangeD 0 (1+v),none,σ1):=by
  simp only[evI,ev,evs,h1,ht,binD]
  rw[if_pos (by have:LIM=1048576:=rfl;omega)]
 have hL:evL (evCall FT W (k+14)) (.lcomp (.call f_law_form (.acons (.var 1) (.anil))) [19] false (.irange (.lit (.int 0)) (.bin .add (.lit (.int 1)) (.call f_law_take (.acons (.var 1) (.acons (.lit (.int 3)) (.anil)))))) none) l σ=some (L.map fun q=>.ref q.1,σ2):=by
  rw[evL,hit]
  dsimp only
  rw[if_pos (by rw[hrl];have:LIM=1048576:=rfl;omega),h2]
 show exS (evCall FT W (k+14)) W (.asg 2 (.lst _)) l σ=_
 simp only[exS,ev,hL]
theorem stage3 {l:Loc} {σ τ:St} (B:HasBox σ τ) (h1:l[1]?=some (some (.ref 1))) (hl:l.length=21) :
  ∃(m s:Nat) (σ':St),exS (evCall FT W (k+14)) W sl_3 l σ=some (.next,(l.set 3 (some (.int (m:Nat)))).set 4 (some (.int (s:Nat))),σ')∧HasBox σ' τ∧m<6∧s<4:=by
 obtain⟨v,σ1,ht,hv0,hv3,B1⟩:=take_call (W:=W) (k:=k+13) (m:=6) B (by omega)
 obtain⟨v2,σ2,ht2,hv20,hv23,B2⟩:=take_call (W:=W) (k:=k+13) (m:=4) B1 (by omega)
 refine⟨v.toNat,v2.toNat,σ2,?_,B2,by omega,by omega⟩
 rw[Int.toNat_of_nonneg hv0,Int.toNat_of_nonneg hv20]
 have h2:2<LIM:=by decide
 simp only[exS,ev,evs,h1,ht,ht2,List.length_cons,List.length_nil,h2,if_true]
 rfl
theorem stage4 {l:Loc} {σ:St} {m s rf wf:Nat} {L:List (Nat×Par)} (h3:l[3]?=some (some (.int (m:Nat)))) (h4:l[4]?=some (some (.int (s:Nat)))) (h2:l[2]?=some (some (.ref rf))) (hf:σ[rf]?=some (.list (L.map fun q=>.ref q.1) wf)) (hm:m<6) (hs:s<4) (hL:L.length≤3) :
  ∃σ',exS (evCall FT W (k+14)) W sl_4 l σ=some (.next,l,σ')∧Ext σ σ':=by
 have ha:=lots_all m (List.mem_range.mpr hm) s (List.mem_range.mpr hs)
 obtain⟨σ1,c1,e1⟩:=lots_right_call (W:=W) (σ:=σ) (n:=k+14) (m:=m) (s:=s) (by omega) (by omega) (by omega) ha.1 ha.2
 have hb:=lots_all L.length (List.mem_range.mpr (by omega)) 1 (List.mem_range.mpr (by omega))
 obtain⟨σ2,c2,e2⟩:=lots_right_call (W:=W) (σ:=σ1) (n:=k+14) (m:=L.length) (s:=1) (by omega) (by omega) (by omega) hb.1 hb.2
 have hc:=lots_all 3 (List.mem_range.mpr (by omega)) 0 (List.mem_range.mpr (by omega))
 obtain⟨σ3,c3,e3⟩:=lots_right_call (W:=W) (σ:=σ2) (n:=k+14) (m:=3) (s:=0) (by omega) (by omega) (by omega) hc.1 hc.2
 refine⟨σ3,?_,(e1.trans e2).trans e3⟩
 have hlen:lenD σ1 (.ref rf)=some ((L.length:Nat):Int):=by
  simp only[lenD,e1.get hf]
  rw[if_pos (by rw[List.length_map];have:LIM=1048576:=rfl;omega),List.length_map]
 have a1:ev (evCall FT W (k+14)) (.not (.call f_law_lots_right (.acons (.var 3) (.acons (.var 4) (.anil))))) l σ=some (.bool false,σ1):=by
  refine(ev_not (r:=true) ?_).trans rfl
  simp only[ev,evs,h3,h4,c1]
 have a2:ev (evCall FT W (k+14)) (.not (.call f_law_lots_right (.acons (.len (.var 2)) (.acons (.lit (.int 1)) (.anil))))) l σ1=some (.bool false,σ2):=by
  refine(ev_not (r:=true) ?_).trans rfl
  have c2':evCall FT W (k+14) f_law_lots_right [.int (L.length:Nat),.int 1] σ1=some (.bool true,σ2):=c2
  simp only[ev,evs,h2,hlen,c2']
 have a3:ev (evCall FT W (k+14)) (.not (.call f_law_lots_right (.acons (.lit (.int 3)) (.acons (.lit (.int 0)) (.anil))))) l σ2=some (.bool false,σ3):=by
  refine(ev_not (r:=true) ?_).trans rfl
  have c3':evCall FT W (k+14) f_law_lots_right [.int 3,.int 0] σ2=some (.bool true,σ3):=c3
  simp only[ev,evs,c3']
 have ha:ev (evCall FT W (k+14)) _ l σ=some (.bool false,σ3):=ev_or_f a1 (ev_or_f a2 a3)
 show exS (evCall FT W (k+14)) W (.ifs _ _ .nil) l σ=_
 simp only[exS,evT]
 rw[ha]
 rfl
theorem stage5 {l:Loc} {σ τ:St} {rf wf:Nat} {L:List (Nat×Par)} (B:HasBox σ τ) (h1:l[1]?=some (some (.ref 1))) (h2:l[2]?=some (some (.ref rf))) (hf:σ[rf]?=some (.list (L.map fun q=>.ref q.1) wf)) (hL:L.length≤3) :
  ∃(w:Nat) (σ':St),exS (evCall FT W (k+14)) W sl_5 l σ=some (.next,l.set 5 (some (.int (w:Nat))),σ')∧HasBox σ' τ∧L.length<w∧w≤L.length+2:=by
 obtain⟨v,σ1,ht,hv0,hv3,B1⟩:=take_call (W:=W) (k:=k+13) (m:=2) B (by omega)
 refine⟨L.length+1+v.toNat,σ1,?_,B1,by omega,by omega⟩
 have hlen:lenD σ (.ref rf)=some ((L.length:Nat):Int):=by
  simp only[lenD,hf]
  rw[if_pos (by rw[List.length_map];have:LIM=1048576:=rfl;omega),List.length_map]
 have hv:((L.length:Nat):Int)+1+v=((L.length+1+v.toNat:Nat):Int):=by omega
 simp only[exS,ev,evs,h1,h2,hlen,ht,binD,hv]
end
theorem erase_perm {α:Type}:∀(l:List α) (i:Nat) (x:α),l[i]?=some x→(x::l.eraseIdx i).Perm l
 | [],i,x,h=>by simp at h
 |a::l,0,x,h=>by simp at h;subst h;exact List.Perm.refl _
 |a::l,i+1,x,h=>by
  rw[List.getElem?_cons_succ] at h
  rw[List.eraseIdx_cons_succ]
  exact(List.Perm.swap a x _).trans ((erase_perm l i x h).cons a)
theorem erase_map {α β:Type} (f:α→β):∀(l:List α) (i:Nat),(l.eraseIdx i).map f=(l.map f).eraseIdx i
 | [],i=>rfl
 |a::l,0=>rfl
 |a::l,i+1=>by
  show f a::(l.eraseIdx i).map f=f a::(l.map f).eraseIdx i
  rw[erase_map f l i]
theorem set_a (ρ:St) (a b x:AO):(ρ++[a,b]).set ρ.length x=ρ++[x,b]:=by
 rw[List.set_append_right _ _ (by omega)];simp
theorem set_b (ρ:St) (a b x:AO):(ρ++[a,b]).set (ρ.length+1) x=ρ++[a,x]:=by
 rw[List.set_append_right _ _ (by omega)];simp
theorem get_a (ρ:St) (a b:AO):(ρ++[a,b])[ρ.length]?=some a:=by simp
theorem get_b (ρ:St) (a b:AO):(ρ++[a,b])[ρ.length+1]?=some b:=by
 rw[List.getElem?_append_right (by omega)];simp
abbrev rfs (L:List (Nat×Par)):List D:=L.map fun q=>.ref q.1
section
variable {W k:Nat}
abbrev swBody:XS:=.expr (.append (.var 7) (.popAt (.var 8) (.call f_law_take (.acons (.var 1) (.acons (.len (.var 8)) (.anil))))))
theorem sw_turn {l:Loc} {σ ρ:St} {A B:List (Nat×Par)} {v1 v2:Nat} (hB:B≠[]) (hb3:A.length+B.length≤3) (h:HasBox σ (ρ++[.list (rfs A) v1,.list (rfs B) v2])) (h1:l[1]?=some (some (.ref 1))) (h7:l[7]?=some (some (.ref (ρ.length+2)))) (h8:l[8]?=some (some (.ref (ρ.length+1+2)))) :
  ∃q i σ',exS (evCall FT W (k+14)) W swBody l σ=some (.next,l,σ')∧B[i]?=some q∧HasBox σ' (ρ++[.list (rfs (A++[q])) (v1+1),.list (rfs (B.eraseIdx i)) (v2+1)]):=by
 have hbl:0<B.length:=List.length_pos_iff.mpr hB
 obtain⟨v,σ1,ht,hv0,hv3,B1⟩:=take_call (W:=W) (k:=k+13) (m:=(B.length:Int)) h (by omega)
 have hvl:v.toNat<B.length:=by omega
 have g7:σ[ρ.length+2]?=some (.list (rfs A) v1):=by rw[h.get,get_a]
 have g8:σ[ρ.length+1+2]?=some (.list (rfs B) v2):=by rw[h.get,get_b]
 have g71:σ1[ρ.length+2]?=some (.list (rfs A) v1):=by rw[B1.get,get_a]
 have g81:σ1[ρ.length+1+2]?=some (.list (rfs B) v2):=by rw[B1.get,get_b]
 have B2:=B1.set (ρ.length+1) (.list ((rfs B).eraseIdx v.toNat) (v2+1))
 rw[set_b] at B2
 have B3:=B2.set ρ.length (.list (rfs A++[.ref (B[v.toNat]).1]) (v1+1))
 rw[set_a] at B3
 have g72:(σ1.set (ρ.length+1+2) (.list ((rfs B).eraseIdx v.toNat) (v2+1)))[ρ.length+2]?=some (.list (rfs A) v1):=by rw[B2.get,get_a]
 refine⟨B[v.toNat],v.toNat,(σ1.set (ρ.length+1+2) (.list ((rfs B).eraseIdx v.toNat) (v2+1))).set (ρ.length+2) (.list (rfs A++[.ref (B[v.toNat]).1]) (v1+1)),?_,List.getElem?_eq_getElem hvl,?_⟩
 ·have lim:LIM=1048576:=rfl
  have hlen:lenD σ (.ref (ρ.length+1+2))=some ((B.length:Nat):Int):=by
   simp only[lenD,g8]
   rw[if_pos (by rw[List.length_map];omega),List.length_map]
  have hx:(rfs B)[v.toNat]?=some (.ref (B[v.toNat]).1):=by
   rw[List.getElem?_map,List.getElem?_eq_getElem hvl];rfl
  have hl1:isLst σ (ρ.length+2)=true:=by simp only[isLst,g7]
  have hl2:isLst σ (ρ.length+1+2)=true:=by simp only[isLst,g8]
  have hc:0≤v∧v<(LIM:Int)∧(rfs B).length<LIM:=⟨hv0,by omega,by rw[List.length_map];omega⟩
  have hc2:(rfs A).length<LIM:=by rw[List.length_map];omega
  simp only[exS,ev,evs,h7,h8,h1,hl1,hl2,if_true,hlen,ht,g81]
  rw[if_pos hc,hx]
  simp only[g72]
  rw[if_pos hc2]
 ·rw[show rfs (A++[B[v.toNat]])=rfs A++[.ref (B[v.toNat]).1] by simp[rfs],show rfs (B.eraseIdx v.toNat)=(rfs B).eraseIdx v.toNat from erase_map _ B _]
  exact B3
theorem sw_loop {l:Loc} {ρ:St} (h1:l[1]?=some (some (.ref 1))) (h7:l[7]?=some (some (.ref (ρ.length+2)))) (h8:l[8]?=some (some (.ref (ρ.length+1+2)))) :
  ∀(N:Nat) (A B:List (Nat×Par)) (v1 v2 fuel:Nat) (σ:St),B.length=N→N<fuel→A.length+B.length≤3→HasBox σ (ρ++[.list (rfs A) v1,.list (rfs B) v2])→
   ∃M w1 w2 σ',whileGo (evT (evCall FT W (k+14)) (.neNil (.var 8))) (exS (evCall FT W (k+14)) W swBody) fuel l σ=some (.next,l,σ')∧M.Perm B∧HasBox σ' (ρ++[.list (rfs (A++M)) w1,.list [] w2])
 |N,A,B,v1,v2,0,σ,_,hf,_,_=>by omega
 |0,A,B,v1,v2,fuel+1,σ,hN,hf,h3,h=>by
  have hB:B=[]:=List.length_eq_zero_iff.mp hN
  subst hB
  refine⟨[],v1,v2,σ,while_stop ?_,List.Perm.refl _,by rw[List.append_nil];exact h⟩
  have g8:σ[ρ.length+1+2]?=some (.list (rfs []) v2):=by rw[h.get,get_b]
  simp only[evT,ev,h8,g8]
  rfl
 |N+1,A,B,v1,v2,fuel+1,σ,hN,hf,h3,h=>by
  have hB:B≠[]:=fun h=>by subst h;simp at hN
  obtain⟨q,i,σ1,hx,hq,B1⟩:=sw_turn (W:=W) (k:=k) hB h3 h h1 h7 h8
  have hi:i<B.length:=by
   refine Nat.lt_of_not_le fun hle=>?_
   rw[List.getElem?_eq_none hle] at hq;cases hq
  have hel:(B.eraseIdx i).length=N:=by rw[List.length_eraseIdx,if_pos hi];omega
  obtain⟨M,w1,w2,σ',h2,hp,B2⟩:=sw_loop h1 h7 h8 N (A++[q]) (B.eraseIdx i) (v1+1) (v2+1) fuel σ1 hel (by omega) (by simp;omega) B1
  refine⟨q::M,w1,w2,σ',?_,(hp.cons q).trans (erase_perm B i q hq),by rw[List.append_assoc] at B2;exact B2⟩
  rw[while_step (fl:=.next) (l2:=l) (σ2:=σ1) (σ1:=σ) ?_ hx (by simp)]
  ·exact h2
  ·have g8:σ[ρ.length+1+2]?=some (.list (rfs B) v2):=by rw[h.get,get_b]
   obtain⟨b,r,rfl⟩:=List.exists_cons_of_ne_nil hB
   simp only[evT,ev,h8,g8]
   rfl
theorem stage6 {l:Loc} {σ τ:St} {rf wf:Nat} {L:List (Nat×Par)} (B:HasBox σ τ) (h2:l[2]?=some (some (.ref rf))) (hf:σ[rf]?=some (.list (rfs L) wf)) (hF:Frm σ L) (hL:L.length≤3) (hl:l.length=21) :
  ∃(wh:Nat) (σ1 ρ:St),exS (evCall FT W (k+14)) W sl_6 l σ=some (.next,((l.set 6 (some (.ref wh))).set 7 (some (.ref (ρ.length+2)))).set 8 (some (.ref (ρ.length+1+2))),σ1++[.list (rfs []) 0,.list (rfs L) 0])
   ∧ HasBox σ1 ρ∧Ext σ σ1∧2≤wh∧IsPol 1 1 (prodT (L.map (·.2))) wh σ1:=by
 obtain⟨wh,σ1,h1,e1,hr,p⟩:=law_product_call (W:=W) (k:=k+13) hf hF.forms (by omega)
 obtain⟨ρ,B1,e2⟩:=B.ext e1
 refine⟨wh,σ1,ρ,?_,B1,e1,Nat.le_trans B.ge hr,p⟩
 have g2:(σ1++[AO.list [] 0])[rf]?=some (.list (rfs L) wf):=get_old (e1.get hf)
 have hll:(rfs L).length<LIM:=by rw[List.length_map];have:LIM=1048576:=rfl;omega
 have h3:3<LIM:=by decide
 have h0:0<LIM:=by decide
 have hlen:=B1.len
 simp only[exS,ev,evs,evL,h2,h1,g2,hll,List.length_cons,List.length_nil,h0,h3,if_true,List.length_append,List.append_assoc,List.cons_append,List.nil_append,hlen]
 have e:ρ.length+2+(0+1)=ρ.length+1+2:=by omega
 rw[e]
 rfl
end
theorem Frm.perm {L M:List (Nat×Par)} {σ:St} (h:Frm σ L) (p:M.Perm L):Frm σ M:=fun q hq=>h q (p.mem_iff.mp hq)
theorem Frm.par {L:List (Nat×Par)} {σ:St} (h:Frm σ L):∀p∈L.map (·.2),p.Ok:=fun p hp=>by
 obtain⟨q,hq,rfl⟩:=List.mem_map.mp hp
 obtain⟨w,_,hp⟩:=(h q hq).1
 exact ok_all _ hp
theorem IsPol.lt {n d:Int} {c:Cf} {r:Nat} {σ:St} (h:IsPol n d c r σ):r<σ.length:=by
 obtain⟨es,w,h,_⟩:=h
 refine Nat.lt_of_not_le fun hle=>?_
 rw[List.getElem?_eq_none hle] at h;cases h
def Flat (w r:Nat) (σ:St):Prop:=∃(c:Cf) (K:Nat) (X Y:Int),IsPol 1 1 c r σ∧Supp K c∧K<w∧c X Y≠0
theorem Flat.ext {w r:Nat} {a b:St} (h:Flat w r a) (e:Ext a b):Flat w r b:=by
 obtain⟨c,K,X,Y,h1,h2⟩:=h
 exact⟨c,K,X,Y,h1.ext e,h2⟩
section
variable {W k:Nat}
theorem stage7 {l:Loc} {σ1 ρ:St} {L:List (Nat×Par)} (hW:2^30≤W) (B:HasBox σ1 ρ) (hF:Frm σ1 L) (hL:L.length≤3) (h1:l[1]?=some (some (.ref 1))) (h7:l[7]?=some (some (.ref (ρ.length+2)))) (h8:l[8]?=some (some (.ref (ρ.length+1+2)))) :
  ∃(M:List (Nat×Par)) (v:Nat) (σ' τ':St),exS (evCall FT W (k+14)) W sl_7 l (σ1++[.list (rfs []) 0,.list (rfs L) 0])=some (.next,l,σ')∧HasBox σ' τ'∧Kp σ1 σ'∧M.Perm L∧Frm σ' M∧σ'[ρ.length+2]?=some (.list (rfs M) v):=by
 obtain⟨M,w1,w2,σ',h2,hp,B2⟩:=sw_loop (W:=W) (k:=k) h1 h7 h8 L.length [] L 0 0 W _ rfl (Nat.lt_of_le_of_lt hL (Nat.lt_of_lt_of_le (by decide) hW)) (by simpa using hL) (B.app [.list (rfs []) 0,.list (rfs L) 0])
 rw[List.nil_append] at B2
 have hk:Kp σ1 σ':=kp_of B B2 (Ext.app _ _)
 refine⟨M,w1,σ',_,h2,B2,hk,hp,(hF.kp hk).perm hp,?_⟩
 rw[B2.get,get_a]
theorem flat_loop {l:Loc} {w:Nat} {src:Src} (hw:2≤w) (hw':w≤8) (h5:l[5]?=some (some (.int (w:Nat)))) (hl:l.length=21):∀(rs:List Nat) (σ:St),(∀τ,Ext σ τ→srcOk src τ=true)→(∀r∈rs,Flat w r σ)→
  ∃σ',compGo (bindT [19] false) (evT (evCall FT W (k+14)) (.not (.call f_law_flat_right (.acons (.var 19) (.acons (.var 5) (.anil)))))) (ev (evCall FT W (k+14)) (.var 19)) src l (rs.map .ref) σ=some ([],σ')∧Ext σ σ'
 | [],σ,_,_=>⟨σ,rfl,Ext.refl _⟩
 |r::rs,σ,hs,hF=>by
  obtain⟨c,K,X,Y,hp,sc,hK,h0⟩:=hF r List.mem_cons_self
  obtain⟨σ1,hc,e1⟩:=flat_right_call (W:=W) (k:=k+12) hw hw' hp sc hK h0 hp.lt
  obtain⟨σ',h2,e2⟩:=flat_loop hw hw' h5 hl rs σ1 (fun τ e=>hs τ (e1.trans e)) fun r' hr'=>(hF r' (List.mem_cons_of_mem _ hr')).ext e1
  refine⟨σ',?_,e1.trans e2⟩
  have g19:(l.set 19 (some (.ref r)))[19]?=some (some (.ref r)):=gss (by omega)
  have g5:(l.set 19 (some (.ref r)))[5]?=some (some (.int (w:Nat))):=gs h5 (by decide)
  have ht:evT (evCall FT W (k+14)) (.not (.call f_law_flat_right (.acons (.var 19) (.acons (.var 5) (.anil))))) (l.set 19 (some (.ref r))) σ=some (false,σ1):=by
   simp only[evT,ev,evs,g19,g5,hc,truthD]
   rfl
  have hb:bindT [19] false (.ref r) l=some (l.set 19 (some (.ref r))):=rfl
  rw[List.map_cons]
  simp only[compGo,hb,ht,hs σ1 e1,if_true,h2]
theorem stage8 {l:Loc} {σ:St} {rf wf w wh:Nat} {L:List (Nat×Par)} (hw:2≤w) (hw':w≤8) (hLw:L.length<w) (h2:l[2]?=some (some (.ref rf))) (h5:l[5]?=some (some (.int (w:Nat)))) (h6:l[6]?=some (some (.ref wh))) (hl:l.length=21)
  (hf:σ[rf]?=some (.list (rfs L) wf)) (hF:Frm σ L) (hL:L.length≤3) (hwh:IsPol 1 1 (prodT (L.map (·.2))) wh σ) :
  ∃σ',exS (evCall FT W (k+14)) W sl_8 l σ=some (.next,l,σ')∧Ext σ σ':=by
 have e1:=Ext.app σ [AO.list [.ref wh] 0]
 have e2:=Ext.app (σ++[AO.list [.ref wh] 0]) [AO.list (rfs L++[D.ref wh]) 0]
 have h4:(rfs L).length+1<LIM:=by rw[List.length_map];have:LIM=1048576:=rfl;omega
 have gw:(σ++[AO.list [.ref wh] 0])[σ.length]?=some (.list [.ref wh] 0):=get_new _ _
 have gs2:=get_new (σ++[AO.list [.ref wh] 0]) (AO.list (rfs L++[D.ref wh]) 0)
 obtain⟨σ',h1,e3⟩:=flat_loop (W:=W) (k:=k) (l:=l) (src:=some ((σ++[AO.list [.ref wh] 0]).length,0)) hw hw' h5 hl ((L.map (·.1))++[wh]) (σ++[AO.list [.ref wh] 0]++[AO.list (rfs L++[D.ref wh]) 0]) (fun τ e=>srcOk_of (e.get gs2) rfl) (fun r hr=>by
  have e:=e1.trans e2
  rcases List.mem_append.mp hr with hr|hr
  ·obtain⟨q,hq,rfl⟩:=List.mem_map.mp hr
   have ok:q.2.Ok:=hF.par _ (List.mem_map_of_mem hq)
   have lead:Lead (0+1) (0+q.2.e) (T q.2 dlt):=lead_dlt.T ok
   exact⟨T q.2 dlt,1,0+1,0+q.2.e,(hF q hq).1.pol.ext e,supp_dlt.T ok,by omega,by rw[lead.1];decide⟩
  ·simp only[List.mem_singleton] at hr
   subst hr
   obtain⟨X,Y,lead⟩:=prod_lead hF.par
   have hs:=prod_supp hF.par
   rw[List.length_map] at hs
   exact⟨_,L.length,X,Y,hwh.ext e,hs,hLw,by rw[lead.1];decide⟩)
 refine⟨σ',?_,(e1.trans e2).trans e3⟩
 have hit:evI (evCall FT W (k+14)) (.ix (.bin .add (.var 2) (.lst (.ldisp (.acons (.var 6) (.anil)))))) l σ=some (rfs L++[D.ref wh],some ((σ++[AO.list [.ref wh] 0]).length,0),σ++[AO.list [.ref wh] 0]++[AO.list (rfs L++[D.ref wh]) 0]):=by
  have h1l:1<LIM:=by decide
  simp only[evI,ev,evs,evL,h2,h6,List.length_cons,List.length_nil,h1l,if_true,binD,e1.get hf,gw,h4,iterOf,gs2,Nat.zero_add]
 have hds:((L.map (·.1))++[wh]).map D.ref=rfs L++[D.ref wh]:=by simp[rfs]
 rw[hds] at h1
 have hL:evL (evCall FT W (k+14)) (.lcomp (.var 19) [19] false (.ix (.bin .add (.var 2) (.lst (.ldisp (.acons (.var 6) (.anil)))))) (some (.not (.call f_law_flat_right (.acons (.var 19) (.acons (.var 5) (.anil))))))) l σ=some ([],σ'):=by
  rw[evL,hit]
  show(if (rfs L++[D.ref wh]).length<LIM then compGo (bindT [19] false) (evT (evCall FT W (k+14)) (.not (.call f_law_flat_right (.acons (.var 19) (.acons (.var 5) (.anil)))))) _ _ _ _ _ else none)=_
  rw[if_pos (by rw[List.length_append];exact h4),h1]
 simp only[exS,evT,ev,hL]
 rfl
theorem stage9 {l:Loc} {σ τ:St} (B:HasBox σ τ) (h1:l[1]?=some (some (.ref 1))) :
  ∃(n:Int) (σ' τ':St),exS (evCall FT W (k+14)) W sl_9 l σ=some (.next,l.set 9 (some (.int n)),σ')∧HasBox σ' τ'∧Kp σ σ'∧n≠0∧n.natAbs≤3:=by
 have B0:=B.app [AO.list [.int 1,.int 2,.int (-3)] 0]
 obtain⟨v,σ1,ht,hv0,hv3,B1⟩:=take_call (W:=W) (k:=k+13) (m:=3) B0 (by omega)
 have g:σ1[σ.length]?=some (.list [.int 1,.int 2,.int (-3)] 0):=by rw[B.len,B1.get];simp
 have kp:Kp σ σ1:=kp_of B B1 (Ext.app _ _)
 have key:∀n,idxD σ1 (.ref σ.length) (.int v)=some (.int n)→exS (evCall FT W (k+14)) W sl_9 l σ=some (.next,l.set 9 (some (.int n)),σ1):=fun n hn=>by
  have h3:3<LIM:=by decide
  simp only[exS,ev,evs,evL,List.length_cons,List.length_nil,h3,if_true,h1,ht,hn]
 have hc:v=0∨v=1∨v=2:=by omega
 rcases hc with rfl|rfl|rfl
 ·exact⟨1,σ1,_,key 1 (by simp only[idxD,g];rfl),B1,kp,by decide,by decide⟩
 ·exact⟨2,σ1,_,key 2 (by simp only[idxD,g];rfl),B1,kp,by decide,by decide⟩
 ·exact⟨-3,σ1,_,key (-3) (by simp only[idxD,g];rfl),B1,kp,by decide,by decide⟩
end
theorem zat_mul (n:Int):∀(z:List Int) (q:Int),zat (z.map fun y=>n*y) q=n*zat z q
 | [],q=>by rw[List.map_nil,zat_nil,Int.mul_zero]
 |y::z,q=>by
  rw[List.map_cons,zat_cons,zat_cons,zat_mul n z,Int.mul_add]
  split<;>simp
section
variable {W k:Nat}
abbrev pcElt:X:=.lst (.lcomp (.bin .mul (.var 9) (.var 20)) [20] false (.ix (.call f_flattened (.acons (.var 19) (.acons (.var 5) (.anil))))) none)
theorem piece_ev {l:Loc} {σ:St} {n:Int} {w r:Nat} {p:Par} (hw:2≤w) (hw':w≤8) (hn:n≠0) (hn':n.natAbs≤3) (ok:p.Ok) (hp:IsPol 1 1 (T p dlt) r σ) (h9:l[9]?=some (some (.int n))) (h5:l[5]?=some (some (.int (w:Nat)))) (h19:l[19]?=some (some (.ref r))) (hl:l.length=21) :
  ∃r' σ',ev (evCall FT W (k+14)) pcElt l σ=some (.ref r',σ')∧Ext σ σ'∧IsPiece n w p r' σ':=by
 obtain⟨es,wi,hi,p0⟩:=hp
 have sc:Supp 1 (T p dlt):=supp_dlt.T ok
 have bc:Bnd 1 (T p dlt):=bnd_dlt.T ok
 have lead:Lead (0+1) (0+p.e) (T p dlt):=lead_dlt.T ok
 obtain⟨z,v,h1,hzl,hz,hzl2⟩:=flattened_call (W:=W) (k:=k+13) hw hw' p0 hi sc (by omega)
 have e1:=Ext.app σ [AO.list (z.map .int) v]
 have e2:=Ext.app (σ++[AO.list (z.map .int) v]) [AO.list ((z.map fun y=>n*y).map .int) 0]
 refine⟨(σ++[AO.list (z.map .int) v]).length,_,?_,e1.trans e2,⟨z.map (fun y=>n*y),⟨0,get_new _ _⟩,fun q=>by rw[zat_mul,hz],by rw[List.length_map];omega,fun h=>?_,fun y hy=>?_⟩⟩
 ·have g:=get_new σ (AO.list (z.map .int) v)
  have hc:=comp_map (bind:=bindT [20] false) (elt:=ev (evCall FT W (k+14)) (.bin .mul (.var 9) (.var 20))) (src:=some (σ.length,v)) (l:=l) (σ:=σ++[AO.list (z.map .int) v]) D.int (fun y=>.int (n*y)) (srcOk_of g rfl) z (fun y _=>by
   refine⟨l.set 20 (some (.int y)),rfl,?_⟩
   have g20:(l.set 20 (some (.int y)))[20]?=some (some (.int y)):=gss (by omega)
   have g9:(l.set 20 (some (.int y)))[9]?=some (some (.int n)):=gs h9 (by decide)
   have m:MOk n y:=.inl (by omega)
   simp only[ev,g20,g9,binD,m,if_true])
  have hit:evI (evCall FT W (k+14)) (.ix (.call f_flattened (.acons (.var 19) (.acons (.var 5) (.anil))))) l σ=some (z.map .int,some (σ.length,v),σ++[AO.list (z.map .int) v]):=by
   simp only[evI,ev,evs,h19,h5,h1,iterOf,g]
  have hL:evL (evCall FT W (k+14)) (.lcomp (.bin .mul (.var 9) (.var 20)) [20] false (.ix (.call f_flattened (.acons (.var 19) (.acons (.var 5) (.anil))))) none) l σ=some ((z.map fun y=>n*y).map .int,σ++[AO.list (z.map .int) v]):=by
   rw[evL,hit]
   dsimp only
   rw[if_pos (by rw[List.length_map];have:LIM=1048576:=rfl;omega),hc,List.map_map]
   rfl
  rw[ev,hL]
 ·have h0:=fl_at sc (w:=w) (x:=0+1) (y:=0+p.e) (by omega) (by omega)
  rw[←hz,lead.1] at h0
  have:z=[]:=List.map_eq_nil_iff.mp h
  rw[this,zat_nil] at h0
  exact absurd h0 (by decide)
 ·obtain⟨y0,hy0,rfl⟩:=List.mem_map.mp hy
  obtain⟨i,hi,hgi⟩:=List.getElem_of_mem hy0
  have hzi:z[i]?=some y0:=by rw[List.getElem?_eq_getElem hi,hgi]
  rw[zat_lt hi] at hzi
  have hy1:y0=fl (T p dlt) w i:=by rw[←hz];simpa using hzi.symm
  have hb:y0.natAbs≤6:=by
   rw[hy1];unfold fl
   split
   ·exact bc _ _
   ·decide
  rw[Int.natAbs_mul]
  have:n.natAbs*y0.natAbs≤3*6:=Nat.mul_le_mul hn' hb
  omega
theorem piece_loop {l:Loc} {n:Int} {w:Nat} {src:Src} (hw:2≤w) (hw':w≤8) (hn:n≠0) (hn':n.natAbs≤3) (h9:l[9]?=some (some (.int n))) (h5:l[5]?=some (some (.int (w:Nat)))) (hl:l.length=21) :
  ∀(M:List (Nat×Par)) (σ:St),(∀τ,Ext σ τ→srcOk src τ=true)→Forms M σ→
  ∃(P:List (Nat×Par)) (σ':St),compGo (bindT [19] false) (fun _ σ=>some (true,σ)) (ev (evCall FT W (k+14)) pcElt) src l (rfs M) σ=some (rfs P,σ')∧Ext σ σ'∧P.map (·.2)=M.map (·.2)∧∀q∈P,IsPiece n w q.2 q.1 σ'∧q.2.Ok
 | [],σ,_,_=>⟨[],σ,rfl,Ext.refl _,rfl,fun q hq=>by cases hq⟩
 |q::M,σ,hs,hF=>by
  have g19:(l.set 19 (some (.ref q.1)))[19]?=some (some (.ref q.1)):=gss (by omega)
  have g5:(l.set 19 (some (.ref q.1)))[5]?=some (some (.int (w:Nat))):=gs h5 (by decide)
  have g9:(l.set 19 (some (.ref q.1)))[9]?=some (some (.int n)):=gs h9 (by decide)
  obtain⟨r',σ1,h1,e1,p1⟩:=piece_ev (W:=W) (k:=k) (l:=l.set 19 (some (.ref q.1))) hw hw' hn hn' (hF q List.mem_cons_self).2 (hF q List.mem_cons_self).1 g9 g5 g19 (by rw[List.length_set];exact hl)
  obtain⟨P,σ',h2,e2,hP,hPp⟩:=piece_loop hw hw' hn hn' h9 h5 hl M σ1 (fun τ e=>hs τ (e1.trans e)) fun q' hq'=>⟨(hF q' (List.mem_cons_of_mem _ hq')).1.ext e1,(hF q' (List.mem_cons_of_mem _ hq')).2⟩
  refine⟨(r',q.2)::P,σ',?_,e1.trans e2,by rw[List.map_cons,List.map_cons,hP],fun x hx=>?_⟩
  ·have hb:bindT [19] false (.ref q.1) l=some (l.set 19 (some (.ref q.1))):=rfl
   show compGo _ _ _ _ _ (.ref q.1::rfs M) σ=_
   simp only[compGo,hb,h1,hs σ1 e1,if_true,h2]
   rfl
  ·rcases List.mem_cons.mp hx with rfl|hx
   ·exact⟨p1.ext e2,(hF q List.mem_cons_self).2⟩
   ·exact hPp x hx
theorem stage10 {l:Loc} {σ:St} {n:Int} {w tu v:Nat} {M:List (Nat×Par)} (hw:2≤w) (hw':w≤8) (hn:n≠0) (hn':n.natAbs≤3) (h9:l[9]?=some (some (.int n))) (h5:l[5]?=some (some (.int (w:Nat)))) (h7:l[7]?=some (some (.ref tu))) (hl:l.length=21)
  (ht:σ[tu]?=some (.list (rfs M) v)) (hF:Frm σ M) (hM:M.length≤3) :
  ∃(P:List (Nat×Par)) (rp:Nat) (σ':St),exS (evCall FT W (k+14)) W sl_10 l σ=some (.next,l.set 10 (some (.ref rp)),σ')∧Ext σ σ'∧σ.length≤rp∧σ'[rp]?=some (.list (rfs P) 0)∧P.map (·.2)=M.map (·.2)∧∀q∈P,IsPiece n w q.2 q.1 σ'∧q.2.Ok:=by
 obtain⟨P,σ1,h1,e1,hP,hPp⟩:=piece_loop (W:=W) (k:=k) (l:=l) (src:=some (tu,v)) hw hw' hn hn' h9 h5 hl M σ (fun τ e=>srcOk_of (e.get ht) rfl) hF.forms
 have e2:=Ext.app σ1 [AO.list (rfs P) 0]
 refine⟨P,σ1.length,σ1++[.list (rfs P) 0],?_,e1.trans e2,?_,get_new _ _,hP,fun q hq=>⟨(hPp q hq).1.ext e2,(hPp q hq).2⟩⟩
 ·have hit:evI (evCall FT W (k+14)) (.ix (.var 7)) l σ=some (rfs M,some (tu,v),σ):=by
   simp only[evI,ev,h7,iterOf,ht]
  have hL:evL (evCall FT W (k+14)) (.lcomp pcElt [19] false (.ix (.var 7)) none) l σ=some (rfs P,σ1):=by
   rw[evL,hit]
   dsimp only
   rw[if_pos (by rw[List.length_map];have:LIM=1048576:=rfl;omega),h1]
  show exS (evCall FT W (k+14)) W (.asg 10 (.lst _)) l σ=_
  simp only[exS,ev,hL]
 ·obtain⟨t,rfl⟩:=e1
  simp
end
theorem getD_snd {P M:List (Nat×Par)} (h:P.map (·.2)=M.map (·.2)) (i:Nat):(P.getD i q0).2=(M.getD i q0).2:=by
 have h1:=congrArg (·[i]?) h
 simp only[List.getElem?_map] at h1
 rw[List.getD_eq_getElem?_getD,List.getD_eq_getElem?_getD]
 cases hp:P[i]?<;>cases hm:M[i]?<;>rw[hp,hm] at h1<;>simp at h1 ⊢
 exact h1
theorem getD_get {α:Type} {P:List α} {i:Nat} (d:α) (h:i<P.length):P[i]?=some (P.getD i d):=by
 rw[List.getD_eq_getElem?_getD,List.getElem?_eq_getElem h];rfl
theorem getD_mem {α:Type} {P:List α} {i:Nat} (d:α) (h:i<P.length):P.getD i d∈P:=List.mem_of_getElem? (getD_get d h)
theorem lots_facts:∀m∈List.range 4,∀t∈lotsL 1 m++lotsL 2 m,t.length≤2∧t.length≤m∧∀a∈t,0≤a∧a<(m:Int):=by decide +kernel
section
variable {W k:Nat}
abbrev clBody:XS:=.ifs (.cmp .ne (.call f_candidate_of (.acons (.var 10) (.acons (.var 11) (.acons (.var 5) (.anil))))) (.call f_law_product (.acons (.lst (.lcomp (.idx (.var 7) (.var 19)) [19] false (.ix (.var 11)) none)) (.anil)))) (.ret (.lit (.bool false))) (.nil)
theorem cl_turn {l:Loc} {σ:St} {n:Int} {w tu rp v v':Nat} {M P:List (Nat×Par)} {t:List Int} (hW:2^30≤W) (hw:2≤w) (hw':w≤8) (hn:n≠0) (hn':n.natAbs≤3)
  (h5:l[5]?=some (some (.int (w:Nat)))) (h7:l[7]?=some (some (.ref tu))) (h10:l[10]?=some (some (.ref rp))) (h11:l[11]?=some (some (keyD t))) (hl:l.length=21)
  (ht:σ[tu]?=some (.list (rfs M) v)) (hp:σ[rp]?=some (.list (rfs P) v')) (hF:Forms M σ) (hP:P.map (·.2)=M.map (·.2)) (hPp:∀q∈P,IsPiece n w q.2 q.1 σ∧q.2.Ok) (hM:M.length≤3) (hMw:M.length<w)
  (ht2:t.length≤2) (htm:t.length≤M.length) (hta:∀a∈t,0≤a∧a<(M.length:Int)) :
  ∃σ',exS (evCall FT W (k+14)) W clBody l σ=some (.next,l,σ')∧Ext σ σ':=by
 have hPl:P.length=M.length:=by simpa using congrArg List.length hP
 have lim:LIM=1048576:=rfl
 obtain⟨r1,σ1,h1,e1,hr1,p1⟩:=candidate_call (W:=W) (k:=k+8) (L:=t.map fun a=>(a.toNat,P.getD a.toNat q0)) hW hw hw' hn hn' hp (fun x hx=>by
  obtain⟨a,ha,rfl⟩:=List.mem_map.mp hx
  have h:=hta a ha
  have hlt:a.toNat<P.length:=by omega
  have hm:=hPp _ (getD_mem q0 hlt)
  exact⟨getD_get q0 hlt,hm.1,hm.2,by show a.toNat<100;omega⟩) (by rw[List.length_map];omega) (by rw[List.length_map];omega)
 have hk:keyD ((t.map fun a=>(a.toNat,P.getD a.toNat q0)).map fun x=>((x.1:Nat):Int))=keyD t:=by
  rw[List.map_map]
  refine congrArg keyD ?_
  refine(List.map_congr_left (g:=id) fun a ha=>?_).trans (List.map_id t)
  have:=hta a ha
  show((a.toNat:Nat):Int)=a
  omega
 rw[hk] at h1
 have e2:=Ext.app σ1 [AO.list (rfs (t.map fun a=>M.getD a.toNat q0)) 0]
 have ht1:=e1.get ht
 obtain⟨r2,σ3,h3,e3,hr2,p3⟩:=law_product_call (W:=W) (k:=k+13) (σ:=σ1++[.list (rfs (t.map fun a=>M.getD a.toNat q0)) 0]) (L:=t.map fun a=>M.getD a.toNat q0) (j0:=σ1.length) (w0:=0) (get_new _ _) (fun q hq=>by
  obtain⟨a,ha,rfl⟩:=List.mem_map.mp hq
  have h:=hta a ha
  exact(hF.ext (e1.trans e2)) _ (getD_mem q0 (by omega))) (by rw[List.length_map];omega)
 have hpe:(t.map fun a=>(a.toNat,P.getD a.toNat q0)).map (·.2.2)=(t.map fun a=>M.getD a.toNat q0).map (·.2):=by
  rw[List.map_map,List.map_map]
  exact List.map_congr_left fun a _=>getD_snd hP a.toNat
 rw[hpe] at p1
 have hlt:=p1.lt
 have hne:r1≠r2:=by simp at hr2;omega
 have hcmp:=cmp_ne_pol hne (p1.ext (e2.trans e3)) p3
 refine⟨σ3,?_,e1.trans (e2.trans e3)⟩
 have hc:=comp_map (bind:=bindT [19] false) (elt:=ev (evCall FT W (k+14)) (.idx (.var 7) (.var 19))) (src:=none) (l:=l) (σ:=σ1) D.int (fun a=>.ref (M.getD a.toNat q0).1) rfl t (fun a ha=>by
  refine⟨l.set 19 (some (.int a)),rfl,?_⟩
  have h:=hta a ha
  have hlt:a.toNat<M.length:=by omega
  have g19:(l.set 19 (some (.int a)))[19]?=some (some (.int a)):=gss (by omega)
  have g7:(l.set 19 (some (.int a)))[7]?=some (some (.ref tu)):=gs h7 (by decide)
  have hx:idxD σ1 (.ref tu) (.int a)=some (.ref (M.getD a.toNat q0).1):=by
   simp only[idxD,ht1]
   rw[if_pos (by omega),List.getElem?_map,getD_get q0 hlt];rfl
  simp only[ev,g19,g7,hx])
 have hit:evI (evCall FT W (k+14)) (.ix (.var 11)) l σ1=some (t.map .int,none,σ1):=by
  simp only[evI,ev,h11,keyD,iterOf]
 have hL:evL (evCall FT W (k+14)) (.lcomp (.idx (.var 7) (.var 19)) [19] false (.ix (.var 11)) none) l σ1=some (rfs (t.map fun a=>M.getD a.toNat q0),σ1):=by
  rw[evL,hit]
  dsimp only
  rw[if_pos (by rw[List.length_map];omega),hc,rfs,List.map_map]
  rfl
 have a1:ev (evCall FT W (k+14)) (.call f_candidate_of (.acons (.var 10) (.acons (.var 11) (.acons (.var 5) (.anil))))) l σ=some (.ref r1,σ1):=by
  simp only[ev,evs,h10,h11,h5]
  exact h1
 have a2:ev (evCall FT W (k+14)) (.call f_law_product (.acons (.lst (.lcomp (.idx (.var 7) (.var 19)) [19] false (.ix (.var 11)) none)) (.anil))) l σ1=some (.ref r2,σ3):=by
  simp only[ev,evs,hL,h3]
 simp only[exS,evT,ev_cmp a1 a2 hcmp,truthD,Option.map]
theorem cl_loop {n:Int} {w tu rp v v':Nat} {M P:List (Nat×Par)} {src:Src} (hW:2^30≤W) (hw:2≤w) (hw':w≤8) (hn:n≠0) (hn':n.natAbs≤3)
  (hP:P.map (·.2)=M.map (·.2)) (hM:M.length≤3) (hMw:M.length<w) :
  ∀(ts:List (List Int)) (l:Loc) (σ:St),(∀τ,Ext σ τ→srcOk src τ=true)→l[5]?=some (some (.int (w:Nat)))→l[7]?=some (some (.ref tu))→l[10]?=some (some (.ref rp))→l.length=21→
   σ[tu]?=some (.list (rfs M) v)→σ[rp]?=some (.list (rfs P) v')→Forms M σ→(∀q∈P,IsPiece n w q.2 q.1 σ∧q.2.Ok)→(∀t∈ts,t.length≤2∧t.length≤M.length∧∀a∈t,0≤a∧a<(M.length:Int))→
   ∃l' σ',forGo (bindT [11] false) (exS (evCall FT W (k+14)) W clBody) src (ts.map keyD) l σ=some (.next,l',σ')∧Ext σ σ'∧l'.length=21∧∀j,j≠11→l'[j]?=l[j]?
 | [],l,σ,_,_,_,_,hl,_,_,_,_,_=>⟨l,σ,rfl,Ext.refl _,hl,fun _ _=>rfl⟩
 |t::ts,l,σ,hs,h5,h7,h10,hl,ht,hp,hF,hPp,hts=>by
  obtain⟨ht2,htm,hta⟩:=hts t List.mem_cons_self
  have hl':(l.set 11 (some (keyD t))).length=21:=by rw[List.length_set];exact hl
  obtain⟨σ1,h1,e1⟩:=cl_turn (W:=W) (k:=k) (l:=l.set 11 (some (keyD t))) (t:=t) hW hw hw' hn hn' (gs h5 (by decide)) (gs h7 (by decide)) (gs h10 (by decide)) (gss (by omega)) hl' ht hp hF hP hPp hM hMw ht2 htm hta
  obtain⟨l',σ',h2,e2,hl2,hg⟩:=cl_loop hW hw hw' hn hn' hP hM hMw ts (l.set 11 (some (keyD t))) σ1 (fun τ e=>hs τ (e1.trans e)) (gs h5 (by decide)) (gs h7 (by decide)) (gs h10 (by decide)) hl' (e1.get ht) (e1.get hp) (hF.ext e1)
   (fun q hq=>⟨(hPp q hq).1.ext e1,(hPp q hq).2⟩) fun t ht=>hts t (List.mem_cons_of_mem _ ht)
  refine⟨l',σ',?_,e1.trans e2,hl2,fun j hj=>?_⟩
  ·rw[List.map_cons]
   exact(for_next rfl h1 (hs σ1 e1)).trans h2
  ·rw[hg j hj,List.getElem?_set_ne (Ne.symm hj)]
theorem stage11 {l:Loc} {σ:St} {n:Int} {w tu rp v v':Nat} {M P:List (Nat×Par)} (hW:2^30≤W) (hw:2≤w) (hw':w≤8) (hn:n≠0) (hn':n.natAbs≤3)
  (h5:l[5]?=some (some (.int (w:Nat)))) (h7:l[7]?=some (some (.ref tu))) (h10:l[10]?=some (some (.ref rp))) (hl:l.length=21)
  (ht:σ[tu]?=some (.list (rfs M) v)) (hp:σ[rp]?=some (.list (rfs P) v')) (hF:Frm σ M) (hP:P.map (·.2)=M.map (·.2)) (hPp:∀q∈P,IsPiece n w q.2 q.1 σ∧q.2.Ok) (hM:M.length≤3) (hMw:M.length<w) :
  ∃l' σ',exS (evCall FT W (k+14)) W sl_11 l σ=some (.next,l',σ')∧Ext σ σ'∧l'.length=21∧∀j,j≠11→l'[j]?=l[j]?:=by
 have lim:LIM=1048576:=rfl
 have hlen:∀τ,Ext σ τ→lenD τ (.ref tu)=some ((M.length:Nat):Int):=fun τ e=>by
  simp only[lenD,e.get ht]
  rw[if_pos (by rw[List.length_map];omega),List.length_map]
 obtain⟨r1,σ1,v1,h1,e1,hr1,g1⟩:=lots_call' (W:=W) (n:=k+14) (m:=M.length) (s:=1) (σ:=σ) (by omega) (by omega) (by omega)
 obtain⟨r2,σ2,v2,h2,e2,hr2,g2⟩:=lots_call' (W:=W) (n:=k+14) (m:=M.length) (s:=2) (σ:=σ1) (by omega) (by omega) (by omega)
 have h1':evCall FT W (k+14) f_lots_of [.int (M.length:Nat),.int 1] σ=some (.ref r1,σ1):=h1
 have h2':evCall FT W (k+14) f_lots_of [.int (M.length:Nat),.int 2] σ1=some (.ref r2,σ2):=h2
 have l1:=lotsL_len 1 M.length (by omega)
 have l2:=lotsL_len 2 M.length (by omega)
 have e3:=Ext.app σ2 [AO.list ((lotsL 1 M.length).map keyD++(lotsL 2 M.length).map keyD) 0]
 have g3:=get_new σ2 (AO.list ((lotsL 1 M.length).map keyD++(lotsL 2 M.length).map keyD) 0)
 have e13:=(e1.trans e2).trans e3
 obtain⟨l',σ',h4,e4,hl4,hg⟩:=cl_loop (W:=W) (k:=k) (src:=some (σ2.length,0)) hW hw hw' hn hn' hP hM hMw (lotsL 1 M.length++lotsL 2 M.length) l (σ2++[.list ((lotsL 1 M.length).map keyD++(lotsL 2 M.length).map keyD) 0])
  (fun τ e=>srcOk_of (e.get g3) rfl) h5 h7 h10 hl (e13.get ht) (e13.get hp) (hF.forms.ext e13) (fun q hq=>⟨(hPp q hq).1.ext e13,(hPp q hq).2⟩) (fun t ht=>lots_facts M.length (List.mem_range.mpr (by omega)) t ht)
 refine⟨l',σ',?_,e13.trans e4,hl4,hg⟩
 rw[for_ev (ds:=(lotsL 1 M.length++lotsL 2 M.length).map keyD) (src:=some (σ2.length,0)) (σ1:=σ2++[.list ((lotsL 1 M.length).map keyD++(lotsL 2 M.length).map keyD) 0])]
 ·exact h4
 ·have hb:binD .add (.ref r1) (.ref r2) σ2=some (.ref σ2.length,σ2++[.list ((lotsL 1 M.length).map keyD++(lotsL 2 M.length).map keyD) 0]):=by
   simp only[binD,e2.get g1,g2]
   rw[if_pos (by rw[List.length_map,List.length_map];omega)]
  simp only[evI,ev,evs,h7,hlen σ (Ext.refl _),hlen σ1 e1,h1',h2',hb,iterOf,g3,List.map_append]
end
section
variable {W k:Nat}
theorem sub_prod {q:Nat×Par} {M:List (Nat×Par)}:prodT ((q::M).map (·.2))=T q.2 (prodT (M.map (·.2))):=rfl
theorem stage12 {l:Loc} {σ:St} {n:Int} {w wh rp v':Nat} {q:Nat×Par} {M P L:List (Nat×Par)} (hW:2^30≤W) (hw:2≤w) (hw':w≤8) (hn:n≠0) (hn':n.natAbs≤3)
  (h5:l[5]?=some (some (.int (w:Nat)))) (h6:l[6]?=some (some (.ref wh))) (h10:l[10]?=some (some (.ref rp)))
  (hp:σ[rp]?=some (.list (rfs P) v')) (hok:∀p∈(q::M).map (·.2),p.Ok) (hP:P.map (·.2)=(q::M).map (·.2)) (hPp:∀q∈P,IsPiece n w q.2 q.1 σ∧q.2.Ok) (hM:(q::M).length≤3)
  (hwh:IsPol 1 1 (prodT ((q::M).map (·.2))) wh σ) :
  ∃r1 r2 σ',exS (evCall FT W (k+14)) W sl_12 l σ=some (.next,l.set 12 (some (.tup [keyD [0],.ref r1,.ref r2])),σ')∧Ext σ σ'∧IsPol 1 1 (T q.2 dlt) r1 σ'∧IsPol 1 1 (prodT (M.map (·.2))) r2 σ'∧σ.length≤r1∧σ.length≤r2:=by
 obtain⟨q',P',rfl⟩:∃q' P',P=q'::P':=by
  cases P with
  |nil=>simp at hP
  |cons a b=>exact⟨a,b,rfl⟩
 have hq':q'.2=q.2:=by simpa using (List.cons.inj hP).1
 have hPl:P'.length=M.length:=by simpa using congrArg List.length hP
 have hM':M.length≤2:=by simpa using hM
 have okM:∀p∈M.map (·.2),p.Ok:=fun p hp=>hok p (List.mem_cons_of_mem _ hp)
 obtain⟨X,Y,hlead⟩:=prod_lead okM
 have sp:=prod_supp okM
 have bp:=prod_bnd okM
 rw[List.length_map] at sp bp
 have hpc:=hPp q' List.mem_cons_self
 obtain⟨r1,r2,σ',h1,e1,p1,p2,hr1,hr2⟩:=first_hit_yes (W:=W) (k:=k+4) (σ:=σ) (ip:=rp) (i:=wh) (P:=P') (q:=q') (Qt:=prodT (M.map (·.2))) hW hw hw' hn hn' hp (by omega) hpc.1 hpc.2 (by rw[hq'];exact hwh) sp (by omega) (fun x y=>Nat.le_trans (bp x y) (Nat.pow_le_pow_right (by omega) (by omega))) hlead
 rw[hq'] at p1
 refine⟨r1,r2,σ',?_,e1,p1,p2,hr1,hr2⟩
 simp only[exS,ev,evs,h5,h6,h10]
 have h1':evCall FT W (k+14) f_first_hit [.ref wh,.ref rp,.int 1,.int (w:Nat)] σ=_:=h1
 rw[h1']
theorem ev_isn_t {C:Nat→List D→St→Option (D×St)} {l:Loc} {σ σ1:St} {ds:List D} {a:X} (h:ev C a l σ=some (.tup ds,σ1)):ev C (.isn a) l σ=some (.bool false,σ1):=by
 simp only[ev,h]
theorem stage13 {l:Loc} {σ:St} {tu v r1 r2:Nat} {q:Nat×Par} {M:List (Nat×Par)}
  (h7:l[7]?=some (some (.ref tu))) (h12:l[12]?=some (some (.tup [keyD [0],.ref r1,.ref r2])))
  (ht:σ[tu]?=some (.list (rfs (q::M)) v)) (hF:Frm σ (q::M)) (hM:(q::M).length≤3)
  (p1:IsPol 1 1 (T q.2 dlt) r1 σ) (p2:IsPol 1 1 (prodT (M.map (·.2))) r2 σ) (hne:q.1≠r1) :
  ∃σ',exS (evCall FT W (k+14)) W sl_13 l σ=some (.next,l,σ')∧Ext σ σ':=by
 have hM':M.length≤2:=by simpa using hM
 have lim:LIM=1048576:=rfl
 have e1:=Ext.app σ [AO.list (rfs M) 0]
 have hFM:Frm σ M:=fun x hx=>hF x (List.mem_cons_of_mem _ hx)
 obtain⟨r3,σ2,h3,e3,hr3,p3⟩:=law_product_call (W:=W) (k:=k+13) (σ:=σ++[.list (rfs M) 0]) (L:=M) (j0:=σ.length) (w0:=0) (get_new _ _) (hFM.forms.ext e1) (by omega)
 refine⟨σ2,?_,e1.trans e3⟩
 have v12:ev (evCall FT W (k+14)) (.var 12) l σ=some (.tup [keyD [0],.ref r1,.ref r2],σ):=by simp only[ev,h12]
 have a0:=ev_isn_t v12
 have i0:idxD σ (.tup [keyD [0],.ref r1,.ref r2]) (.int 0)=some (keyD [0]):=rfl
 have i1:idxD σ (.tup [keyD [0],.ref r1,.ref r2]) (.int 1)=some (.ref r1):=rfl
 have i2:idxD σ (.tup [keyD [0],.ref r1,.ref r2]) (.int 2)=some (.ref r2):=rfl
 have i7:idxD σ (.ref tu) (.int 0)=some (.ref q.1):=by
  simp only[idxD,ht];rfl
 have a1:ev (evCall FT W (k+14)) (.cmp .ne (.idx (.var 12) (.lit (.int 0))) (.tup (.acons (.lit (.int 0)) (.anil)))) l σ=some (.bool false,σ):=by
  have hc:cmpD .ne (keyD [0]) (.tup [.int 0]) σ=some false:=rfl
  have h1:1<LIM:=by decide
  simp only[ev,evs,h12,i0,List.length_cons,List.length_nil,Nat.zero_add,h1,if_true,hc]
 have a2:ev (evCall FT W (k+14)) (.cmp .ne (.idx (.var 12) (.lit (.int 1))) (.idx (.var 7) (.lit (.int 0)))) l σ=some (.bool false,σ):=by
  have hc:=cmp_ne_pol (Ne.symm hne) p1 (hF q List.mem_cons_self).1.pol
  simp only[ev,h12,i1,h7,i7,hc]
 have hlt:=p2.lt
 have a3:ev (evCall FT W (k+14)) (.cmp .ne (.idx (.var 12) (.lit (.int 2))) (.call f_law_product (.acons (.lst (.lsl (.var 7) (some 1) none)) (.anil)))) l σ=some (.bool false,σ2):=by
  have hc:=cmp_ne_pol (i:=r2) (j:=r3) (by simp at hr3;omega) (p2.ext (e1.trans e3)) p3
  have hs:(List.take (rfs (q::M)).length (rfs (q::M))).drop 1=rfs M:=by rw[List.take_length];rfl
  have hle:(rfs (q::M)).length<LIM:=by rw[List.length_map];omega
  have hL:evL (evCall FT W (k+14)) (.lsl (.var 7) (some 1) none) l σ=some (rfs M,σ):=by
   simp only[evL,ev,h7,ht]
   rw[if_pos hle]
   simp only[Option.getD_some,Option.getD_none]
   rw[hs]
  simp only[ev,evs,h12,i2,hL,h3,hc]
 have ha:=ev_or_f a0 (ev_or_f a1 (ev_or_f a2 a3))
 show exS (evCall FT W (k+14)) W (.ifs _ _ .nil) l σ=_
 simp only[exS,evT]
 rw[ha]
 rfl
theorem ev_notn_n {C:Nat→List D→St→Option (D×St)} {l:Loc} {σ σ1:St} {a:X} (h:ev C a l σ=some (.none,σ1)):ev C (.notn a) l σ=some (.bool false,σ1):=by
 simp only[ev,h]
theorem ifs_f {C:Nat→List D→St→Option (D×St)} {l:Loc} {σ σ1:St} {c:X} {A:XS} (h:ev C c l σ=some (.bool false,σ1)):exS C W (.ifs c A .nil) l σ=some (.next,l,σ1):=by
 simp only[exS,evT,h,truthD,Option.map]
theorem stage14 {l:Loc} {σ:St} {n:Int} {w rp v':Nat} {P:List (Nat×Par)} (hW:2^30≤W) (hw:2≤w) (hw':w≤8) (hn:n≠0) (hn':n.natAbs≤3)
  (h5:l[5]?=some (some (.int (w:Nat)))) (h10:l[10]?=some (some (.ref rp)))
  (hp:σ[rp]?=some (.list (rfs P) v')) (hPp:∀q∈P,IsPiece n w q.2 q.1 σ∧q.2.Ok) (hP:P.length≤3) :
  ∃σ',exS (evCall FT W (k+14)) W sl_14 l σ=some (.next,l,σ')∧Ext σ σ':=by
 have e1:=Ext.app σ [AO.dict es7 0]
 obtain⟨σ',h1,e2⟩:=first_hit_none (W:=W) (k:=k+4) (σ:=σ++[.dict es7 0]) (ip:=rp) (i:=σ.length) (wi:=0) (P:=P) hW hw hw' hn hn' (e1.get hp) (by omega) (fun q hq=>⟨(hPp q hq).1.ext e1,(hPp q hq).2⟩) (get_new _ _)
 have h1':evCall FT W (k+14) f_first_hit [.ref σ.length,.ref rp,.int 1,.int (w:Nat)] (σ++[.dict es7 0])=_:=h1
 refine⟨σ',ifs_f (ev_notn_n ?_),e1.trans e2⟩
 have h2:2<LIM:=by decide
 have h4:4<16:=by decide
 have hd:dispE [D.tup [.int 0,.int 2],D.tup [.int 1,.int 1],D.tup [.int 0,.int 0],D.tup [.int 7,.int 1]] []=some es7:=rfl
 simp only[ev,evs,h5,h10,List.length_cons,List.length_nil,Nat.zero_add,h2,h4,if_true,hd,h1']
theorem stage15 {l:Loc} {σ:St} {w wh:Nat} (hW:2^30≤W) (hw:2≤w) (hw':w≤8)
  (h5:l[5]?=some (some (.int (w:Nat)))) (h6:l[6]?=some (some (.ref wh))) :
  ∃σ',exS (evCall FT W (k+14)) W sl_15 l σ=some (.next,l,σ')∧Ext σ σ':=by
 have e1:=Ext.app σ [AO.list [.int 5] 0]
 have e2:=Ext.app (σ++[AO.list [.int 5] 0]) [AO.list [.ref σ.length] 0]
 have hl:(σ++[AO.list [.int 5] 0]).length=σ.length+1:=by simp
 have g2:=get_new (σ++[AO.list [.int 5] 0]) (AO.list [.ref σ.length] 0)
 obtain⟨σ',h1,e3⟩:=first_hit_num (W:=W) (k:=k+4) (σ:=σ++[.list [.int 5] 0]++[.list [.ref σ.length] 0]) (ip:=(σ++[AO.list [.int 5] 0]).length) (i:=wh) (r5:=σ.length) hW hw hw' g2 ⟨0,e2.get (get_new _ _)⟩
 have h1':evCall FT W (k+14) f_first_hit [.ref wh,.ref (σ++[AO.list [.int 5] 0]).length,.int 1,.int (w:Nat)] (σ++[.list [.int 5] 0]++[.list [.ref σ.length] 0])=_:=h1
 refine⟨σ',ifs_f (ev_notn_n ?_),(e1.trans e2).trans e3⟩
 have hk:1<LIM:=by decide
 simp only[ev,evs,evL,h5,h6,List.length_cons,List.length_nil,Nat.zero_add,hk,if_true]
 exact h1'
end
theorem eqAll_forms (σ:St) (m:Nat):∀(A B:List (Nat×Par)),A.map (·.2)=B.map (·.2)→(∀q∈A,IsPol 1 1 (T q.2 dlt) q.1 σ)→(∀q∈B,IsPol 1 1 (T q.2 dlt) q.1 σ)→eqAll (eqD σ (m+3)) (rfs A) (rfs B)=some true
 | [],[],_,_,_=>rfl
 | [],_::_,h,_,_=>by simp at h
 |_::_,[],h,_,_=>by simp at h
 |a::A,b::B,h,hA,hB=>by
  simp only[List.map_cons,List.cons.injEq] at h
  have h1:=hA a List.mem_cons_self
  have h2:=hB b List.mem_cons_self
  rw[←h.1] at h2
  have h3:=eq_pol (m:=m) h1 h2
  have h4:=eqAll_forms σ m A B h.2 (fun q hq=>hA q (List.mem_cons_of_mem _ hq)) fun q hq=>hB q (List.mem_cons_of_mem _ hq)
  simp only[List.map_cons] at h4 ⊢
  simp only[eqAll,h3,h4]
  rfl
theorem sorted_same {A B M L:List (Nat×Par)} {σ:St} (hL:Frm σ L) (hA:A.Perm M) (hB:B.Perm L) (hM:M.Perm L) (sA:(A.map fun q=>rank q.2).Pairwise (·≤·)) (sB:(B.map fun q=>rank q.2).Pairwise (·≤·)):A.map (·.2)=B.map (·.2):=by
 have hp:(A.map (·.2)).Perm (B.map (·.2)):=(hA.trans (hM.trans hB.symm)).map _
 have hall:∀p∈A.map (·.2),p∈ALLP:=fun p hp=>by
  obtain⟨q,hq,rfl⟩:=List.mem_map.mp hp
  obtain⟨_,_,h⟩:=(hL q ((hA.trans hM).mem_iff.mp hq)).1
  exact h
 refine sorted_one (r:=rank) hp ?_ ?_ fun a ha b hb h=>(rank_all a (hall a ha) b (hall b hb)).1.mp h
 ·rw[List.map_map];exact sA
 ·rw[List.map_map];exact sB
theorem eqEs_some (σ:St) (m:Nat) (fs:Es) (hf:∀e∈fs,∃a b,e.2=qD a b):∀suf:Es,(∀e∈suf,∃a b,e.2=qD a b)→∃r,eqEs (eqD σ (m+2)) fs suf=some r
 | [],_=>⟨true,rfl⟩
 |(k,x)::suf,h=>by
  obtain⟨r,hr⟩:=eqEs_some σ m fs hf suf fun e he=>h e (List.mem_cons_of_mem _ he)
  obtain⟨a,b,hx⟩:=h (k,x) List.mem_cons_self
  simp only at hx
  subst hx
  cases hd:dget fs k with
  |none=>exact⟨false,by simp only[eqEs,hd]⟩
  |some y=>
   obtain⟨c,d,hy⟩:=hf _ (dg_mem hd)
   simp only at hy
   subst hy
   have he:eqD σ (m+2) (qD a b) (qD c d)=some (a==c&&b==d):=by
    show(if [D.int a,D.int b].length=[D.int c,D.int d].length then eqAll (eqD σ (m+1)) [.int a,.int b] [.int c,.int d] else none)=_
    rw[if_pos (show [D.int a,D.int b].length=[D.int c,D.int d].length from rfl)]
    simp[eqAll,eq_int]
   exact⟨(a==c&&b==d)&&r,by simp only[eqEs,hd,he,hr]⟩
theorem formEs_q (p:Par):∀e∈formEs p,∃a b,e.2=qD a b:=fun e he=>by
 have h:∀e∈formEs p,∃a,e.2=qD a 1:=by
  have:=formZ_map p
  intro e he
  have hm:D.tup [keyD e.1,e.2]∈(formZ p).map itm:=by
   rw[←this];exact List.mem_map_of_mem (f:=fun e:List Int×D=>D.tup [keyD e.1,e.2]) he
  obtain⟨t,_,ht⟩:=List.mem_map.mp hm
  refine⟨t.2.2,?_⟩
  simp only[itm,D.tup.injEq,List.cons.injEq] at ht
  exact ht.2.1.symm
 obtain⟨a,ha⟩:=h e he
 exact⟨a,1,ha⟩
theorem eq_form_some {σ:St} {x q:Nat×Par} (hx:FormAt σ x) (hq:FormAt σ q):∃b,eqD σ 8 (.ref x.1) (.ref q.1)=some b:=by
 obtain⟨w1,h1,_⟩:=hx
 obtain⟨w2,h2,_⟩:=hq
 by_cases h:x.1=q.1
 ·refine⟨true,?_⟩
  show(if x.1=q.1 then some true else _)=_
  rw[if_pos h]
 ·show ∃b,(if x.1=q.1 then some true else _)=some b
  rw[if_neg h,h1,h2]
  show ∃b,(if (formEs x.2).length=(formEs q.2).length then eqEs (eqD σ 7) (formEs q.2) (formEs x.2) else some false)=some b
  split
  ·exact eqEs_some σ 5 _ (formEs_q _) _ (formEs_q _)
  ·exact⟨false,rfl⟩
theorem any_form {σ:St} {q:Nat×Par} (hq:FormAt σ q):∀A:List (Nat×Par),(∀x∈A,FormAt σ x)→∃b,cmpD.anyEq σ (.ref q.1) (rfs A)=some b∧(q.2∈A.map (·.2)→b=true)
 | [],_=>⟨false,rfl,fun h=>by simp at h⟩
 |x::A,h=>by
  have hx:=h x List.mem_cons_self
  obtain⟨b,hb,hb2⟩:=any_form hq A fun y hy=>h y (List.mem_cons_of_mem _ hy)
  obtain⟨a,ha⟩:=eq_form_some hx hq
  refine⟨a || b,?_,fun hm=>?_⟩
  ·show cmpD.anyEq σ (.ref q.1) (.ref x.1::rfs A)=_
   have ha':eqD σ CF (.ref x.1) (.ref q.1)=some a:=ha
   simp only[cmpD.anyEq,ha',hb]
  ·rw[List.map_cons,List.mem_cons] at hm
   rcases hm with hm|hm
   ·have h1:=hx.pol
    rw[←hm] at h1
    have:=eq_pol (m:=5) h1 hq.pol
    rw[ha] at this
    simp only[Option.some.injEq] at this
    rw[this];rfl
   ·rw[hb2 hm];simp
section
variable {W k:Nat}
theorem lt_len {σ:St} {r:Nat} {o:AO} (h:σ[r]?=some o):r<σ.length:=(List.getElem?_eq_some_iff.mp h).1
theorem stage16 {l:Loc} {σ:St} {rf wf tu v:Nat} {L M:List (Nat×Par)} (h2:l[2]?=some (some (.ref rf))) (h7:l[7]?=some (some (.ref tu)))
  (hf:σ[rf]?=some (.list (rfs L) wf)) (ht:σ[tu]?=some (.list (rfs M) v)) (hF:Frm σ L) (hp:M.Perm L) (hL1:1≤L.length) (hL:L.length≤3) :
  ∃σ',exS (evCall FT W (k+14)) W sl_16 l σ=some (.next,l,σ')∧Ext σ σ':=by
 have lim:LIM=1048576:=rfl
 have hFM:Frm σ M:=hF.perm hp
 have hMl:=hp.length_eq
 obtain⟨r1,v1,σ1,A,c1,e1,hr1,g1,pA,sA⟩:=sorted_call (W:=W) (k:=k+13) (σ:=σ) ht (fun q hq=>(hFM q hq).1) (by omega)
 obtain⟨r2,v2,σ2,B,c2,e2,hr2,g2,pB,sB⟩:=sorted_call (W:=W) (k:=k+13) (σ:=σ1) (e1.get hf) (fun q hq=>(hF q hq).1.ext e1) (by omega)
 obtain⟨r3,v3,σ3,A',c3,e3,hr3,g3,pA',sA'⟩:=sorted_call (W:=W) (k:=k+13) (σ:=σ2) ((e1.trans e2).get ht) (fun q hq=>(hFM q hq).1.ext (e1.trans e2)) (by omega)
 have e12:=e1.trans e2
 have hAB:=sorted_same hF pA pB hp sA sB
 have hlt:=lt_len g1
 have hne:r1≠r2:=by omega
 have hle:(rfs A).length=(rfs B).length:=by
  have:=congrArg List.length hAB
  simpa using this
 have hcmp:cmpD .ne (.ref r1) (.ref r2) σ2=some false:=by
  show(if r1=r2 then none else (eqD σ2 8 (.ref r1) (.ref r2)).map (!·))=_
  rw[if_neg hne]
  have:eqD σ2 8 (.ref r1) (.ref r2)=some true:=by
   show(if r1=r2 then some true else _)=_
   rw[if_neg hne,e2.get g1,g2]
   show(if (rfs A).length=(rfs B).length then eqAll (eqD σ2 7) (rfs A) (rfs B) else some false)=_
   rw[if_pos hle]
   refine eqAll_forms σ2 4 A B hAB (fun q hq=>?_) fun q hq=>?_
   ·exact((hFM q (pA.mem_iff.mp hq)).1.ext e12).pol
   ·exact((hF q (pB.mem_iff.mp hq)).1.ext e12).pol
  rw[this];rfl
 have a1:ev (evCall FT W (k+14)) (.cmp .ne (.call f_sorted_forms (.acons (.var 7) (.anil))) (.call f_sorted_forms (.acons (.var 2) (.anil)))) l σ=some (.bool false,σ2):=by
  refine ev_cmp (x:=.ref r1) (y:=.ref r2) (σ1:=σ1) ?_ ?_ hcmp
  ·simp only[ev,evs,h7,c1]
  ·simp only[ev,evs,h2,c2]
 have l3:lenD σ3 (.ref r3)=some ((L.length:Nat):Int):=by
  have:=pA'.length_eq
  simp only[lenD,g3]
  rw[if_pos (by rw[List.length_map];omega),List.length_map,this,hMl]
 have lf:lenD σ3 (.ref rf)=some ((L.length:Nat):Int):=by
  simp only[lenD,(e12.trans e3).get hf]
  rw[if_pos (by rw[List.length_map];omega),List.length_map]
 have a2:ev (evCall FT W (k+14)) (.cmp .ne (.len (.call f_sorted_forms (.acons (.var 7) (.anil)))) (.len (.var 2))) l σ2=some (.bool false,σ3):=by
  refine ev_cmp (x:=.int (L.length:Nat)) (y:=.int (L.length:Nat)) (σ1:=σ3) ?_ ?_ ?_
  ·simp only[ev,evs,h7,c3,l3]
  ·simp only[ev,h2,lf]
  ·rw[cmp_ne_int];simp
 exact⟨σ3,ifs_f (ev_or_f a1 a2),e12.trans e3⟩
theorem miss_loop {l:Loc} {tu v:Nat} {M:List (Nat×Par)} {src:Src} (h7:l[7]?=some (some (.ref tu))) (hl:l.length=21) (hM1:1≤M.length) (hM:M.length≤3) :
  ∀(L:List (Nat×Par)) (σ:St),(∀τ,Ext σ τ→srcOk src τ=true)→σ[tu]?=some (.list (rfs M) v)→Frm σ M→(∀q∈L,q∈M)→
  ∃σ',compGo (bindT [19] false) (evT (evCall FT W (k+14)) (.cmp .notin (.var 19) (.call f_sorted_forms (.acons (.var 7) (.anil))))) (ev (evCall FT W (k+14)) (.var 19)) src l (rfs L) σ=some ([],σ')∧Ext σ σ'
 | [],σ,_,_,_,_=>⟨σ,rfl,Ext.refl _⟩
 |q::L,σ,hs,ht,hF,hm=>by
  obtain⟨r1,v1,σ1,A,c1,e1,hr1,g1,pA,sA⟩:=sorted_call (W:=W) (k:=k+13) (σ:=σ) ht (fun q hq=>(hF q hq).1) (by omega)
  have hq:=hm q List.mem_cons_self
  obtain⟨b,hb,hb2⟩:=any_form ((hF q hq).1.ext e1) A fun x hx=>(hF x (pA.mem_iff.mp hx)).1.ext e1
  have hbt:=hb2 (List.mem_map_of_mem (pA.mem_iff.mpr hq))
  subst hbt
  obtain⟨σ',h2,e2⟩:=miss_loop h7 hl hM1 hM L σ1 (fun τ e=>hs τ (e1.trans e)) (e1.get ht) (fun x hx=>⟨(hF x hx).1.ext e1,(hF x hx).2⟩) fun x hx=>hm x (List.mem_cons_of_mem _ hx)
  refine⟨σ',?_,e1.trans e2⟩
  have g19:(l.set 19 (some (.ref q.1)))[19]?=some (some (.ref q.1)):=gss (by omega)
  have g7:(l.set 19 (some (.ref q.1)))[7]?=some (some (.ref tu)):=gs h7 (by decide)
  have hcmp:cmpD .notin (.ref q.1) (.ref r1) σ1=some false:=by
   simp only[cmpD,g1,hb];rfl
  have ht:evT (evCall FT W (k+14)) (.cmp .notin (.var 19) (.call f_sorted_forms (.acons (.var 7) (.anil)))) (l.set 19 (some (.ref q.1))) σ=some (false,σ1):=by
   simp only[evT,ev,evs,g19,g7,c1,hcmp,truthD]
   rfl
  have hb:bindT [19] false (.ref q.1) l=some (l.set 19 (some (.ref q.1))):=rfl
  show compGo _ _ _ _ _ (.ref q.1::rfs L) σ=_
  simp only[compGo,hb,ht,hs σ1 e1,if_true,h2]
theorem stage17 {l:Loc} {σ:St} {rf wf tu v:Nat} {L M:List (Nat×Par)} (h2:l[2]?=some (some (.ref rf))) (h7:l[7]?=some (some (.ref tu))) (hl:l.length=21)
  (hf:σ[rf]?=some (.list (rfs L) wf)) (ht:σ[tu]?=some (.list (rfs M) v)) (hF:Frm σ L) (hp:M.Perm L) (hL1:1≤L.length) (hL:L.length≤3) :
  ∃σ',exS (evCall FT W (k+14)) W sl_17 l σ=some (.next,l,σ')∧Ext σ σ':=by
 have hMl:=hp.length_eq
 obtain⟨σ',h1,e1⟩:=miss_loop (W:=W) (k:=k) (l:=l) (src:=some (rf,wf)) h7 hl (by omega) (by omega) L σ (fun τ e=>srcOk_of (e.get hf) rfl) ht (hF.perm hp) fun q hq=>hp.mem_iff.mpr hq
 refine⟨σ',?_,e1⟩
 have hit:evI (evCall FT W (k+14)) (.ix (.var 2)) l σ=some (rfs L,some (rf,wf),σ):=by
  simp only[evI,ev,h2,iterOf,hf]
 have hL:evL (evCall FT W (k+14)) (.lcomp (.var 19) [19] false (.ix (.var 2)) (some (.cmp .notin (.var 19) (.call f_sorted_forms (.acons (.var 7) (.anil)))))) l σ=some ([],σ'):=by
  rw[evL,hit]
  show(if (rfs L).length<LIM then compGo (bindT [19] false) (evT (evCall FT W (k+14)) (.cmp .notin (.var 19) (.call f_sorted_forms (.acons (.var 7) (.anil))))) _ _ _ _ _ else none)=_
  rw[if_pos (by rw[List.length_map];have:LIM=1048576:=rfl;omega),h1]
 simp only[exS,evT,ev,hL]
 rfl
end
theorem num_facts:∀t∈[(1:Int),2,-3,5],∀d∈[1,2,3],(t/(Int.gcd t (d:Nat):Nat))≠0∧(t/(Int.gcd t (d:Nat):Nat)).natAbs≤5∧0<d/Int.gcd t (d:Nat)∧d/Int.gcd t (d:Nat)≤3∧Int.gcd (t/(Int.gcd t (d:Nat):Nat)) ((d/Int.gcd t (d:Nat):Nat):Int)=1:=by decide +kernel
theorem num_of {t:Int} {d:Nat} (ht:t∈[(1:Int),2,-3,5]) (hd:d∈[1,2,3]):∃(n:Int) (dn:Nat),ratD t d=qD n dn∧n≠0∧n.natAbs≤5∧0<dn∧dn≤3∧Int.gcd n dn=1:=by
 have hp:0<d:=by
  simp only[List.mem_cons,List.not_mem_nil,or_false] at hd
  omega
 exact⟨_,_,ratD_nat t hp,num_facts t ht d hd⟩
section
variable {W k:Nat}
theorem stage18 {l:Loc} {σ τ:St} (hW:2^30≤W) (B:HasBox σ τ) (h1:l[1]?=some (some (.ref 1))) :
  ∃(n:Int) (dn pw:Nat) (σ' τ':St),exS (evCall FT W (k+14)) W sl_18 l σ=some (.next,(l.set 13 (some (qD n dn))).set 14 (some (.int (pw:Nat))),σ')∧HasBox σ' τ'∧Kp σ σ'∧n≠0∧n.natAbs≤5∧0<dn∧dn≤3∧Int.gcd n dn=1∧1≤pw∧pw≤2:=by
 have B0:=B.app [AO.list [.int 1,.int 2,.int (-3),.int 5] 0]
 obtain⟨v,σ1,ht,hv0,hv3,B1⟩:=take_call (W:=W) (k:=k+13) (m:=4) B0 (by omega)
 obtain⟨v2,σ2,ht2,hv20,hv23,B2⟩:=take_call (W:=W) (k:=k+13) (m:=3) B1 (by omega)
 obtain⟨v3,σ3,ht3,hv30,hv33,B3⟩:=take_call (W:=W) (k:=k+13) (m:=2) B2 (by omega)
 have g:σ1[σ.length]?=some (.list [.int 1,.int 2,.int (-3),.int 5] 0):=by rw[B.len,B1.get];simp
 have kp:Kp σ σ3:=kp_of B B3 (Ext.app _ _)
 have ht4:∃t,t∈[(1:Int),2,-3,5]∧idxD σ1 (.ref σ.length) (.int v)=some (.int t):=by
  have hc:v=0∨v=1∨v=2∨v=3:=by omega
  rcases hc with rfl|rfl|rfl|rfl
  ·exact⟨1,by decide,by simp only[idxD,g];rfl⟩
  ·exact⟨2,by decide,by simp only[idxD,g];rfl⟩
  ·exact⟨-3,by decide,by simp only[idxD,g];rfl⟩
  ·exact⟨5,by decide,by simp only[idxD,g];rfl⟩
 obtain⟨t,htm,hix⟩:=ht4
 have hd:(1+v2).toNat∈[1,2,3]:=by
  have hc:v2=0∨v2=1∨v2=2:=by omega
  rcases hc with rfl|rfl|rfl<;>decide
 obtain⟨n,dn,hq,hn,hn5,hdn,hdn3,hg⟩:=num_of htm hd
 rw[Int.toNat_of_nonneg (by omega)] at hq
 have hrat:=rat_call (W:=W) (n:=k+12) (σ:=σ2) (t:=t) (b:=1+v2) (by omega) (by omega) (by omega)
 rw[hq] at hrat
 refine⟨n,dn,(1+v3).toNat,σ3,_,?_,B3,kp,hn,hn5,hdn,hdn3,hg,by omega,by omega⟩
 rw[Int.toNat_of_nonneg (by omega)]
 have hl4:4<LIM:=by decide
 have hl2:2<LIM:=by decide
 simp only[exS,ev,evs,evL,List.length_cons,List.length_nil,Nat.zero_add,Nat.reduceAdd,hl4,hl2,if_true,h1,ht,hix,ht2,binD,hrat,ht3]
 rfl
theorem expL_one (M:List (Nat×Par)):expL (M.map fun x=>(x,1))=M.map (·.2):=by
 induction M with
 |nil=>rfl
 |cons a M ih=>
  unfold expL at ih ⊢
  simp[ih]
theorem due_perm (q:Nat×Par) (M:List (Nat×Par)) (p:Nat):prodT (expL ((q,p+1)::M.map fun x=>(x,1)))=prodT ((q::M++List.replicate p q).map (·.2)):=by
 refine prodT_perm ?_
 have h1:expL ((q,p+1)::M.map fun x=>(x,1))=List.replicate (p+1) q.2++M.map (·.2):=by
  show List.replicate (p+1) q.2++expL (M.map fun x=>(x,1))=_
  rw[expL_one]
 rw[h1,List.replicate_succ,List.cons_append,List.cons_append,List.map_cons,List.map_append,List.map_replicate]
 exact(List.perm_append_comm).cons _
abbrev tupElt:X:=.tup (.acons (.var 19) (.acons (.lit (.int 1)) (.anil)))
theorem stage19 {l:Loc} {σ:St} {n:Int} {dn p rf wf:Nat} {q:Nat×Par} {M:List (Nat×Par)} (hW:2^30≤W) (h2:l[2]?=some (some (.ref rf))) (h13:l[13]?=some (some (qD n dn))) (h14:l[14]?=some (some (.int ((p+1:Nat):Int)))) (hl:l.length=21)
  (hf:σ[rf]?=some (.list (rfs (q::M)) wf)) (hF:Frm σ (q::M)) (hM:M.length≤2) (hn:n≠0) (hd:0<dn) (hd':dn≤3) (hg:Int.gcd n dn=1) (hp:p≤1) :
  ∃r σ',exS (evCall FT W (k+14)) W sl_19 l σ=some (.next,l.set 15 (some (.ref r)),σ')∧Ext σ σ'∧IsPol n dn (prodT ((q::M++List.replicate p q).map (·.2))) r σ':=by
 have lim:LIM=1048576:=rfl
 have e1:=Ext.app σ [AO.list [.tup [.ref q.1,.int ((p+1:Nat):Int)]] 0]
 generalize hσ1:σ++[AO.list [.tup [.ref q.1,.int ((p+1:Nat):Int)]] 0]=σ1 at *
 have g1:σ1[σ.length]?=some (.list [.tup [.ref q.1,.int ((p+1:Nat):Int)]] 0):=by rw[←hσ1];exact get_new _ _
 have e2:=Ext.app σ1 [AO.list (rfs M) 0]
 have g2:=get_new σ1 (AO.list (rfs M) 0)
 generalize hσ2:σ1++[AO.list (rfs M) 0]=σ2 at *
 have e3:=Ext.app σ2 [AO.list (M.map fun x=>.tup [.ref x.1,.int 1]) 0]
 have g3:=get_new σ2 (AO.list (M.map fun x=>.tup [.ref x.1,.int 1]) 0)
 generalize hσ3:σ2++[AO.list (M.map fun x=>.tup [.ref x.1,.int 1]) 0]=σ3 at *
 have hpairs:[D.tup [.ref q.1,.int ((p+1:Nat):Int)]]++(M.map fun x=>D.tup [.ref x.1,.int 1])=(((q,p+1)::M.map fun x=>(x,1)):List ((Nat×Par)×Nat)).map fun x=>.tup [.ref x.1.1,.int (x.2:Nat)]:=by
  rw[List.map_cons,List.map_map];rfl
 have e4:=Ext.app σ3 [AO.list ([D.tup [.ref q.1,.int ((p+1:Nat):Int)]]++(M.map fun x=>D.tup [.ref x.1,.int 1])) 0]
 have g4:=get_new σ3 (AO.list ([D.tup [.ref q.1,.int ((p+1:Nat):Int)]]++(M.map fun x=>D.tup [.ref x.1,.int 1])) 0)
 generalize hσ4:σ3++[AO.list ([D.tup [.ref q.1,.int ((p+1:Nat):Int)]]++(M.map fun x=>D.tup [.ref x.1,.int 1])) 0]=σ4 at *
 rw[hpairs] at g4
 have e14:=((e1.trans e2).trans e3).trans e4
 have hpol:∀x∈q::M,IsPol 1 1 (T x.2 dlt) x.1 σ4∧x.2.Ok:=fun x hx=>(hF.forms.ext e14) x hx
 have hexl:(expL ((q,p+1)::M.map fun x=>(x,1))).length≤8:=by
  show(List.replicate (p+1) q.2++expL (M.map fun x=>(x,1))).length≤8
  rw[expL_one,List.length_append,List.length_replicate,List.length_map];omega
 obtain⟨r,σ',h5,e5,p5⟩:=mb_call (W:=W) (k:=k+9) (σ:=σ4) (n:=n) (dn:=dn) (ip:=σ3.length) (wp:=0) (L:=(q,p+1)::M.map fun x=>(x,1)) hW hn hd (by omega) hg g4 (fun x hx=>by
  rcases List.mem_cons.mp hx with rfl|hx
  ·exact hpol q List.mem_cons_self
  ·obtain⟨y,hy,rfl⟩:=List.mem_map.mp hx
   exact hpol y (List.mem_cons_of_mem _ hy)) hexl
 rw[due_perm] at p5
 refine⟨r,σ',?_,e14.trans e5,p5⟩
 have h5':evCall FT W (k+14) f_multiplied_back [qD n dn,.ref σ3.length] σ4=some (.ref r,σ'):=h5
 have i0:idxD σ (.ref rf) (.int 0)=some (.ref q.1):=by
  simp only[idxD,hf];rfl
 have hc:=comp_map (bind:=bindT [19] false) (elt:=ev (evCall FT W (k+14)) tupElt) (src:=some (σ1.length,0)) (l:=l) (σ:=σ2) (fun x:Nat×Par=>D.ref x.1) (fun x=>.tup [.ref x.1,.int 1]) (srcOk_of g2 rfl) M (fun x hx=>by
  refine⟨l.set 19 (some (.ref x.1)),rfl,?_⟩
  have g19:(l.set 19 (some (.ref x.1)))[19]?=some (some (.ref x.1)):=gss (by omega)
  have hk:2<LIM:=by decide
  simp only[ev,evs,g19,List.length_cons,List.length_nil,Nat.zero_add,Nat.reduceAdd,hk,if_true])
 have hs:(List.take (rfs (q::M)).length (rfs (q::M))).drop 1=rfs M:=by rw[List.take_length];rfl
 have hle:(rfs (q::M)).length<LIM:=by rw[List.length_map,List.length_cons];omega
 have hL0:evL (evCall FT W (k+14)) (.lsl (.var 2) (some 1) none) l σ1=some (rfs M,σ1):=by
  simp only[evL,ev,h2,e1.get hf]
  rw[if_pos hle]
  simp only[Option.getD_some,Option.getD_none]
  rw[hs]
 have hit:evI (evCall FT W (k+14)) (.ix (.lst (.lsl (.var 2) (some 1) none))) l σ1=some (rfs M,some (σ1.length,0),σ2):=by
  rw[evI,ev,hL0]
  simp only[hσ2,iterOf,g2]
 have hL:evL (evCall FT W (k+14)) (.lcomp tupElt [19] false (.ix (.lst (.lsl (.var 2) (some 1) none))) none) l σ1=some (M.map fun x=>.tup [.ref x.1,.int 1],σ2):=by
  rw[evL,hit]
  dsimp only
  rw[if_pos (by rw[List.length_map];omega),hc]
 have a1:ev (evCall FT W (k+14)) (.lst (.ldisp (.acons (.tup (.acons (.idx (.var 2) (.lit (.int 0))) (.acons (.var 14) (.anil)))) (.anil)))) l σ=some (.ref σ.length,σ1):=by
  have hk:2<LIM:=by decide
  have hk1:1<LIM:=by decide
  simp only[ev,evs,evL,h2,h14,i0,List.length_cons,List.length_nil,Nat.zero_add,Nat.reduceAdd,hk,hk1,if_true,hσ1]
 have a2:ev (evCall FT W (k+14)) (.lst (.lcomp tupElt [19] false (.ix (.lst (.lsl (.var 2) (some 1) none))) none)) l σ1=some (.ref σ2.length,σ3):=by
  rw[ev,hL]
  simp only[hσ3]
 have hb:binD .add (.ref σ.length) (.ref σ2.length) σ3=some (.ref σ3.length,σ4):=by
  simp only[binD,e3.get (e2.get g1),g3]
  rw[if_pos (by rw[List.length_map,List.length_singleton];omega),hσ4]
 have v13:ev (evCall FT W (k+14)) (.var 13) l σ=some (qD n dn,σ):=by simp only[ev,h13]
 have a3:ev (evCall FT W (k+14)) (.bin .add (.lst (.ldisp (.acons (.tup (.acons (.idx (.var 2) (.lit (.int 0))) (.acons (.var 14) (.anil)))) (.anil)))) (.lst (.lcomp tupElt [19] false (.ix (.lst (.lsl (.var 2) (some 1) none))) none))) l σ=some (.ref σ3.length,σ4):=by
  rw[ev,a1];dsimp only;rw[a2];exact hb
 show exS (evCall FT W (k+14)) W (.asg 15 (.call f_multiplied_back (.acons (.var 13) (.acons _ .anil)))) l σ=_
 rw[exS,ev,evs,v13];dsimp only
 rw[evs,a3];dsimp only
 rw[evs];dsimp only
 rw[h5']
theorem stage20 {l:Loc} {σ:St} {p rf wf:Nat} {q:Nat×Par} {M:List (Nat×Par)} (h2:l[2]?=some (some (.ref rf))) (h14:l[14]?=some (some (.int ((p+1:Nat):Int))))
  (hf:σ[rf]?=some (.list (rfs (q::M)) wf)) (hF:Frm σ (q::M)) (hM:M.length≤2) (hp:p≤1) :
  ∃r σ',exS (evCall FT W (k+14)) W sl_20 l σ=some (.next,l.set 16 (some (.ref r)),σ')∧Ext σ σ'∧σ.length≤r∧IsPol 1 1 (prodT ((q::M++List.replicate p q).map (·.2))) r σ':=by
 have lim:LIM=1048576:=rfl
 have e1:=Ext.app σ [AO.list (List.replicate p (.ref q.1)) 0]
 have g1:=get_new σ (AO.list (List.replicate p (.ref q.1)) 0)
 generalize hσ1:σ++[AO.list (List.replicate p (.ref q.1)) 0]=σ1 at *
 have hx:rfs (q::M)++List.replicate p (.ref q.1)=rfs (q::M++List.replicate p q):=by
  rw[rfs,rfs,List.map_append,List.map_replicate]
 have e2:=Ext.app σ1 [AO.list (rfs (q::M)++List.replicate p (.ref q.1)) 0]
 have g2:=get_new σ1 (AO.list (rfs (q::M)++List.replicate p (.ref q.1)) 0)
 generalize hσ2:σ1++[AO.list (rfs (q::M)++List.replicate p (.ref q.1)) 0]=σ2 at *
 rw[hx] at g2
 have e12:=e1.trans e2
 obtain⟨r,σ',h3,e3,hr,p3⟩:=law_product_call (W:=W) (k:=k+13) (σ:=σ2) (L:=q::M++List.replicate p q) g2 (fun x hx=>by
  refine(hF.forms.ext e12) x ?_
  rcases List.mem_append.mp hx with hx|hx
  ·exact hx
  ·rw[(List.mem_replicate.mp hx).2];exact List.mem_cons_self) (by simp;omega)
 have hlen:σ.length≤σ2.length:=by rw[←hσ2,←hσ1];simp
 refine⟨r,σ',?_,e12.trans e3,by omega,p3⟩
 have h3':evCall FT W (k+14) f_law_product [.ref σ1.length] σ2=some (.ref r,σ'):=h3
 have i0:idxD σ (.ref rf) (.int 0)=some (.ref q.1):=by
  simp only[idxD,hf];rfl
 have hsub:((p+1:Nat):Int)-1=(p:Int):=by omega
 have hpl:((p:Nat):Int).natAbs<LIM:=by omega
 have hb:binD .add (.ref rf) (.ref σ.length) σ1=some (.ref σ1.length,σ2):=by
  simp only[binD,e1.get hf,g1]
  rw[if_pos (by rw[List.length_map,List.length_replicate,List.length_cons];omega),hσ2]
 have a1:ev (evCall FT W (k+14)) (.rep (.idx (.var 2) (.lit (.int 0))) (.bin .sub (.var 14) (.lit (.int 1)))) l σ=some (.ref σ.length,σ1):=by
  simp only[ev,h2,i0,h14,binD,hsub,hpl,if_true,Int.toNat_natCast,hσ1]
 show exS (evCall FT W (k+14)) W (.asg 16 (.call f_law_product (.acons (.bin .add (.var 2) (.rep _ _)) .anil))) l σ=_
 have v2:ev (evCall FT W (k+14)) (.var 2) l σ=some (.ref rf,σ):=by simp only[ev,h2]
 rw[exS,ev,evs,ev,v2];dsimp only
 rw[a1];dsimp only
 rw[hb];dsimp only
 rw[evs];dsimp only
 rw[h3']
theorem stage21 {l:Loc} {σ:St} {n:Int} {dn r:Nat} {c:Cf} (hW:2^30≤W) (hd:0<dn) (hd':dn≤3) (hn:n≠0) (hn':n.natAbs≤5) (hi:IsPol 1 1 c r σ) (bx:Box c)
  (h16:l[16]?=some (some (.ref r))) (h13:l[13]?=some (some (qD n dn))) (hl:l.length=21) :
  ∃σ',exS (evCall FT W (k+14)) W sl_21 l σ=some (.next,l.set 17 (some (.ref σ.length)),σ')∧Ext σ σ'∧IsPol n dn c σ.length σ':=by
 obtain⟨σ',h1,e1,p1⟩:=scaled_ev (W:=W) (k:=k+12) hW hd (by omega) hn (by omega) hi bx h16 h13 hl
 refine⟨σ',?_,e1,p1⟩
 show exS (evCall FT W (k+14)) W (.asg 17 (.dictPairs (.lcomp scElt [19] false (.ix (.var 16)) none))) l σ=_
 rw[exS,h1]
end
theorem cmp_ne_pair {σ:St} {a b:Int} {i j:Nat} (h:eqD σ 7 (.ref i) (.ref j)=some true):cmpD .ne (.tup [qD a b,.ref i]) (.tup [qD a b,.ref j]) σ=some false:=by
 have h1:eqD σ 7 (qD a b) (qD a b)=some true:=eqD_qD σ 5 a b
 have h2:eqD σ 8 (.tup [qD a b,.ref i]) (.tup [qD a b,.ref j])=some true:=by
  rw[show(8:Nat)=7+1 from rfl,eq_tup2]
  generalize qD a b=x at *
  simp[eqAll,h1,h]
 show(eqD σ 8 (.tup [qD a b,.ref i]) (.tup [qD a b,.ref j])).map (!·)=_
 rw[h2];rfl
theorem prod_lead1 {p:Par} {ps:List Par} (h:∀q∈p::ps,q.Ok):∃X Y,Lead X Y (prodT (p::ps))∧0<X+Y:=by
 have h':∀q∈ps,q.Ok:=fun q hq=>h q (List.mem_cons_of_mem _ hq)
 obtain⟨X,Y,l⟩:=prod_lead h'
 have ok:=h p List.mem_cons_self
 have hs:=prod_supp h' X Y (by rw[l.1];decide)
 have he:=ok.e
 exact⟨_,_,l.T ok,by omega⟩
theorem lt_63 {c:Cf} {K:Nat} {n:Int} (b:Bnd K c) (hK:K≤8) (hn:n.natAbs≤5) (x y:Int):(c x y*n).natAbs<2^30:=by
 have:=b.lt hK x y
 rw[Int.natAbs_mul]
 have:(c x y).natAbs*n.natAbs≤1679616*5:=Nat.mul_le_mul this hn
 omega
section
variable {W k:Nat}
theorem stage22 {l:Loc} {σ:St} {n X Y:Int} {dn r15 r16 r17 K:Nat} {c:Cf} (hW:2^30≤W) (hn:n≠0) (hn':n.natAbs≤5) (hd:0<dn) (hd':dn≤3) (hg:Int.gcd n dn=1)
  (h13:l[13]?=some (some (qD n dn))) (h15:l[15]?=some (some (.ref r15))) (h16:l[16]?=some (some (.ref r16))) (h17:l[17]?=some (some (.ref r17)))
  (p15:IsPol n dn c r15 σ) (p16:IsPol 1 1 c r16 σ) (p17:IsPol n dn c r17 σ) (hne:r15≠r17) (sc:Supp K c) (bc:Bnd K c) (hK:K≤8) (hL:Lead X Y c) :
  ∃σ',exS (evCall FT W (k+14)) W sl_22 l σ=some (.next,l,σ')∧Ext σ σ':=by
 have v13:∀σ,ev (evCall FT W (k+14)) (.var 13) l σ=some (qD n dn,σ):=fun σ=>by simp only[ev,h13]
 have v15:∀σ,ev (evCall FT W (k+14)) (.var 15) l σ=some (.ref r15,σ):=fun σ=>by simp only[ev,h15]
 have v16:∀σ,ev (evCall FT W (k+14)) (.var 16) l σ=some (.ref r16,σ):=fun σ=>by simp only[ev,h16]
 have v17:∀σ,ev (evCall FT W (k+14)) (.var 17) l σ=some (.ref r17,σ):=fun σ=>by simp only[ev,h17]
 have a1:ev (evCall FT W (k+14)) (.cmp .ne (.var 15) (.var 17)) l σ=some (.bool false,σ):=ev_cmp (v15 σ) (v17 σ) (cmp_ne_pol hne p15 p17)
 obtain⟨r,σ1,h1,e1,hr,p1⟩:=whole_form_call (W:=W) (k:=k+9) (σ:=σ) hW hd (by omega) hn (by omega) hg (lt_63 bc hK hn') (sc.box hK) hL p15
 have h1':evCall FT W (k+14) f_whole_form [.ref r15] σ=some (.tup [qD n dn,.ref r],σ1):=h1
 have l2:2<LIM:=by decide
 have a2:ev (evCall FT W (k+14)) (.cmp .ne (.call f_whole_form (.acons (.var 15) (.anil))) (.tup (.acons (.var 13) (.acons (.var 16) (.anil))))) l σ=some (.bool false,σ1):=by
  refine ev_cmp (x:=.tup [qD n dn,.ref r]) (y:=.tup [qD n dn,.ref r16]) (σ1:=σ1) ?_ ?_ (cmp_ne_pair (eq_pol (m:=4) p1 (p16.ext e1)))
  ·rw[ev,evs,v15];dsimp only
   rw[evs];dsimp only
   exact h1'
  ·rw[ev,evs,v13];dsimp only
   rw[evs,v16];dsimp only
   rw[evs];dsimp only
   rw[if_pos (show [qD n dn,D.ref r16].length<LIM from l2)]
 have e2:=Ext.app σ1 [AO.dict [] 0]
 have g2:=get_new σ1 (AO.dict [] 0)
 generalize hσ2:σ1++[AO.dict [] 0]=σ2 at *
 have h3:=whole_form_nil (W:=W) (k:=k+13) (i:=σ1.length) (w:=0) g2
 have h3':evCall FT W (k+14) f_whole_form [.ref σ1.length] σ2=_:=h3
 have e3:=Ext.app σ2 [AO.dict [] 0]
 have g3:=get_new σ2 (AO.dict [] 0)
 generalize hσ3:σ2++[AO.dict [] 0]=σ3 at *
 have e4:=Ext.app σ3 [AO.dict [] 0]
 have g4:=get_new σ3 (AO.dict [] 0)
 generalize hσ4:σ3++[AO.dict [] 0]=σ4 at *
 have pz2:IsPol 1 1 (fun _ _=>0) σ2.length σ4:=⟨[],0,e4.get g3,Pol.nil⟩
 have pz3:IsPol 1 1 (fun _ _=>0) σ3.length σ4:=⟨[],0,g4,Pol.nil⟩
 have a3:ev (evCall FT W (k+14)) (.cmp .ne (.call f_whole_form (.acons (.dict (.anil)) (.anil))) (.tup (.acons (.tup (.acons (.lit (.int 0)) (.acons (.lit (.int 1)) (.anil)))) (.acons (.dict (.anil)) (.anil))))) l σ1=some (.bool false,σ4):=by
  refine ev_cmp (x:=.tup [qD 0 1,.ref σ2.length]) (y:=.tup [qD 0 1,.ref σ3.length]) (σ1:=σ3) ?_ ?_ (cmp_ne_pair (eq_pol (m:=4) pz2 pz3))
  ·simp[ev,evs,dispE,hσ2,h3']
  ·simp[ev,evs,dispE,hσ4,LIM]
 exact⟨σ4,ifs_f (ev_or_f a1 (ev_or_f a2 a3)),((e1.trans e2).trans e3).trans e4⟩
theorem stage23 {l:Loc} {σ:St} {n:Int} {dn r16 r17 K:Nat} {c:Cf} (hW:2^30≤W) (hn:n≠0) (hn':n.natAbs≤5) (hd:0<dn) (hd':dn≤3) (hg:Int.gcd n dn=1)
  (h13:l[13]?=some (some (qD n dn))) (h16:l[16]?=some (some (.ref r16))) (h17:l[17]?=some (some (.ref r17)))
  (p16:IsPol 1 1 c r16 σ) (p17:IsPol n dn c r17 σ) (sc:Supp K c) (hK:K≤8) :
  ∃σ',exS (evCall FT W (k+14)) W sl_23 l σ=some (.next,l,σ')∧Ext σ σ':=by
 have v13:∀σ,ev (evCall FT W (k+14)) (.var 13) l σ=some (qD n dn,σ):=fun σ=>by simp only[ev,h13]
 have v16:∀σ,ev (evCall FT W (k+14)) (.var 16) l σ=some (.ref r16,σ):=fun σ=>by simp only[ev,h16]
 have v17:∀σ,ev (evCall FT W (k+14)) (.var 17) l σ=some (.ref r17,σ):=fun σ=>by simp only[ev,h17]
 obtain⟨es,w16,g16,pe⟩:=id p16
 have e1:=Ext.app σ [AO.dict [([0,0],qD n dn)] 0]
 have g1:=get_new σ (AO.dict [([0,0],qD n dn)] 0)
 have hd1:dispE [D.tup [.int 0,.int 0],qD n dn] []=some [([0,0],qD n dn)]:=rfl
 have l2:2<LIM:=by decide
 have l16:2<16:=by decide
 have hdict:∀σ,ev (evCall FT W (k+14)) (.dict (.acons (.tup (.acons (.lit (.int 0)) (.acons (.lit (.int 0)) (.anil)))) (.acons (.var 13) (.anil)))) l σ=some (.ref σ.length,σ++[AO.dict [([0,0],qD n dn)] 0]):=fun σ=>by
  simp only[ev,evs,h13,List.length_cons,List.length_nil,Nat.zero_add,Nat.reduceAdd,l2,l16,if_true,hd1]
 have hnil:∀σ,ev (evCall FT W (k+14)) (.dict (.anil)) l σ=some (.ref σ.length,σ++[AO.dict [] 0]):=fun σ=>by
  simp[ev,evs,dispE]
 generalize hσ1:σ++[AO.dict [([0,0],qD n dn)] 0]=σ1 at *
 obtain⟨r,σ2,h2,e2,hr,p2⟩:=product_call (W:=W) (k:=k+10) (σ:=σ1) (n:=1) (d:=1) (n':=n) (d':=dn) hW (by omega) hn (by omega) (by omega) (by omega) pe (e1.get g16) (number_pol hd hg) g1 (fun x y=>by
  have:=lt_63 (K:=0) (n:=n) bnd_dlt (by omega) hn' x y
  omega) sc supp_dlt (by omega)
 rw[conv_dlt pe,Int.one_mul,Int.one_mul] at p2
 have h2':evCall FT W (k+14) f_product_of_forms [.ref r16,.ref σ.length] σ1=some (.ref r,σ2):=h2
 have e12:=e1.trans e2
 have hlt:r17<σ1.length:=(p17.ext e1).lt
 have a1:ev (evCall FT W (k+14)) (.cmp .ne (.call f_product_of_forms (.acons (.var 16) (.acons (.dict (.acons (.tup (.acons (.lit (.int 0)) (.acons (.lit (.int 0)) (.anil)))) (.acons (.var 13) (.anil)))) (.anil)))) (.var 17)) l σ=some (.bool false,σ2):=by
  refine ev_cmp (x:=.ref r) (y:=.ref r17) (σ1:=σ2) ?_ (v17 σ2) (cmp_ne_pol (by omega) p2 (p17.ext e12))
  rw[ev,evs,v16];dsimp only
  rw[evs,hdict,hσ1];dsimp only
  rw[evs];dsimp only
  exact h2'
 have e3:=Ext.app σ2 [AO.dict [] 0]
 have g3:=get_new σ2 (AO.dict [] 0)
 have hnil2:=hnil σ2
 generalize hσ3:σ2++[AO.dict [] 0]=σ3 at *
 obtain⟨r',σ4,h4,e4,hr4,p4⟩:=product_call (W:=W) (k:=k+10) (σ:=σ3) (n:=1) (d:=1) (n':=1) (d':=1) (kb:=0) hW (by omega) (by omega) (by omega) (by omega) (by omega) pe ((e12.trans e3).get g16) Pol.nil g3 (fun x y=>by simp) sc (fun x y h=>absurd rfl h) (by omega)
 rw[conv_zero,Int.one_mul] at p4
 have h4':evCall FT W (k+14) f_product_of_forms [.ref r16,.ref σ2.length] σ3=some (.ref r',σ4):=h4
 have e5:=Ext.app σ4 [AO.dict [] 0]
 have g5:=get_new σ4 (AO.dict [] 0)
 have hlt4:=p4.lt
 have a2:ev (evCall FT W (k+14)) (.cmp .ne (.call f_product_of_forms (.acons (.var 16) (.acons (.dict (.anil)) (.anil)))) (.dict (.anil))) l σ2=some (.bool false,σ4++[AO.dict [] 0]):=by
  refine ev_cmp (x:=.ref r') (y:=.ref σ4.length) (σ1:=σ4) ?_ (hnil σ4) (cmp_ne_pol (n:=1) (d:=1) (c:=fun _ _=>0) (by omega) (p4.ext e5) ⟨[],0,g5,Pol.nil⟩)
  rw[ev,evs,v16];dsimp only
  rw[evs,hnil2];dsimp only
  rw[evs];dsimp only
  exact h4'
 exact⟨_,ifs_f (ev_or_f a1 a2),((e12.trans e3).trans e4).trans e5⟩
theorem stage24 {l:Loc} {σ:St} {n:Int} {dn r6 r17:Nat} {A B:List Par} (hW:2^30≤W) (hn:n≠0) (hn':n.natAbs≤5) (hd:0<dn) (hd':dn≤3)
  (h6:l[6]?=some (some (.ref r6))) (h17:l[17]?=some (some (.ref r17)))
  (p6:IsPol 1 1 (prodT A) r6 σ) (p17:IsPol n dn (prodT B) r17 σ) (okA:∀p∈A,p.Ok) (okB:∀p∈B,p.Ok) (hlen:A.length+B.length≤8) :
  ∃σ',exS (evCall FT W (k+14)) W sl_24 l σ=some (.next,l,σ')∧Ext σ σ':=by
 have v6:∀σ,ev (evCall FT W (k+14)) (.var 6) l σ=some (.ref r6,σ):=fun σ=>by simp only[ev,h6]
 have v17:∀σ,ev (evCall FT W (k+14)) (.var 17) l σ=some (.ref r17,σ):=fun σ=>by simp only[ev,h17]
 obtain⟨es,w6,g6,pe⟩:=id p6
 obtain⟨fs,w17,g17,pf⟩:=id p17
 obtain⟨r,σ1,h1,e1,hr,p1⟩:=product_call (W:=W) (k:=k+10) (σ:=σ) (n:=n) (d:=dn) (n':=1) (d':=1) hW hn (by omega) (by omega) (by omega) (by omega) pf g17 pe g6 (fun x y=>by
  have:=lt_63 (n:=1) (prod_bnd okA) (by omega) (by omega) x y
  omega) (prod_supp okB) (prod_supp okA) (by omega)
 rw[conv_prod pf,Int.mul_one,Int.mul_one] at p1
 obtain⟨r',σ2,h2,e2,hr2,p2⟩:=product_call (W:=W) (k:=k+10) (σ:=σ1) (n:=1) (d:=1) (n':=n) (d':=dn) hW (by omega) hn (by omega) (by omega) (by omega) pe (e1.get g6) pf (e1.get g17) (fun x y=>by
  have:=lt_63 (n:=n) (prod_bnd okB) (by omega) hn' x y
  omega) (prod_supp okA) (prod_supp okB) hlen
 rw[conv_prod pe,Int.one_mul,Int.one_mul,prodT_perm (List.perm_append_comm (l₁:=B) (l₂:=A))] at p2
 have h1':evCall FT W (k+14) f_product_of_forms [.ref r17,.ref r6] σ=some (.ref r,σ1):=h1
 have h2':evCall FT W (k+14) f_product_of_forms [.ref r6,.ref r17] σ1=some (.ref r',σ2):=h2
 have hlt:=p1.lt
 refine⟨σ2,ifs_f (ev_cmp (x:=.ref r) (y:=.ref r') (σ1:=σ1) ?_ ?_ (cmp_ne_pol (by omega) (p1.ext e2) p2)),e1.trans e2⟩
 ·rw[ev,evs,v17];dsimp only
  rw[evs,v6];dsimp only
  rw[evs];dsimp only
  exact h1'
 ·rw[ev,evs,v6];dsimp only
  rw[evs,v17];dsimp only
  rw[evs];dsimp only
  exact h2'
theorem stage25 {l:Loc} {σ:St} {n:Int} {dn r16:Nat} (h13:l[13]?=some (some (qD n dn))) (h16:l[16]?=some (some (.ref r16))) :
  exS (evCall FT W (k+14)) W sl_25 l σ=some (.next,l.set 18 (some (.tup [.ref σ.length,.ref (σ.length+1),.ref r16,.ref (σ.length+2)])),σ++[.dict [] 0,.dict [([0,0],qD n dn)] 0,.dict [([0,1],qD 1 1)] 0]):=by
 have hd0:dispE [] []=some []:=rfl
 have hd1:dispE [D.tup [.int 0,.int 0],qD n dn] []=some [([0,0],qD n dn)]:=rfl
 have hd2:dispE [D.tup [.int 0,.int 1],.tup [.int 1,.int 1]] []=some [([0,1],qD 1 1)]:=rfl
 have l2:2<LIM:=by decide
 have l4:4<LIM:=by decide
 have l16:2<16:=by decide
 have l0:0<16:=by decide
 simp only[exS,ev,evs,h13,h16,List.length_cons,List.length_nil,Nat.zero_add,Nat.reduceAdd,l2,l16,l0,l4,if_true,hd0,hd1,hd2,List.append_assoc,List.cons_append,List.nil_append,List.length_append]
theorem stage26 {l:Loc} {σ:St} {n X Y:Int} {dn a b r16 e:Nat} {c:Cf} (hd:0<dn) (hg:Int.gcd n dn=1) (bx:Box c) (hL:Lead X Y c) (hXY:0<X+Y)
  (h18:l[18]?=some (some (.tup [.ref a,.ref b,.ref r16,.ref e]))) (hl:l.length=21)
  (ga:σ[a]?=some (.dict [] 0)) (gb:σ[b]?=some (.dict [([0,0],qD n dn)] 0)) (p16:IsPol 1 1 c r16 σ) (ge:σ[e]?=some (.dict [([0,1],qD 1 1)] 0)) :
  ∃σ',exS (evCall FT W (k+14)) W sl_26 l σ=some (.ret (.bool true),l,σ'):=by
 have pa:IsPol 1 1 (fun _ _=>0) a σ:=⟨[],0,ga,Pol.nil⟩
 have pb:IsPol n dn dlt b σ:=⟨_,0,gb,number_pol hd hg⟩
 have pe:IsPol 1 1 (upd (fun _ _=>0) 0 1 1) e σ:=by
  have h:=(Pol.nil (n:=1) (d:=1)).put (x:=0) (y:=1) (v:=1) (by decide)
  rw[Int.mul_one,ratD_one] at h
  exact⟨_,0,ge,h⟩
 have na:=num_yes (W:=W) (k:=k+13) pa (fun x y h=>absurd rfl h)
 have nb:=num_yes (W:=W) (k:=k+13) pb (fun x y h=>by have:=supp_dlt x y h;omega)
 have nc:=num_no (W:=W) (k:=k+13) p16 bx (x:=X) (y:=Y) (by rw[hL.1];decide) hXY
 have ne:=num_no (W:=W) (k:=k+13) pe (Box.upd (fun x y h=>absurd rfl h) (by omega)) (x:=0) (y:=1) (by decide) (by decide)
 have hc:=comp_map (bind:=bindT [19] false) (elt:=ev (evCall FT W (k+14)) (.call f_is_number_form (.acons (.var 19) (.anil)))) (src:=none) (l:=l) (σ:=σ) (fun x:Nat×Bool=>.ref x.1) (fun x=>.bool x.2) rfl [(a,true),(b,true),(r16,false),(e,false)] (fun x hx=>by
  refine⟨l.set 19 (some (.ref x.1)),rfl,?_⟩
  have g19:(l.set 19 (some (.ref x.1)))[19]?=some (some (.ref x.1)):=gss (by omega)
  have key:evCall FT W (k+14) f_is_number_form [.ref x.1] σ=some (.bool x.2,σ):=by
   simp only[List.mem_cons,List.not_mem_nil,or_false] at hx
   rcases hx with rfl|rfl|rfl|rfl
   ·exact na
   ·exact nb
   ·exact nc
   ·exact ne
  simp only[ev,evs,g19,key])
 have hit:evI (evCall FT W (k+14)) (.ix (.var 18)) l σ=some ([.ref a,.ref b,.ref r16,.ref e],none,σ):=by
  simp only[evI,ev,h18,iterOf]
 have l4:4<LIM:=by decide
 have hLc:evL (evCall FT W (k+14)) (.lcomp (.call f_is_number_form (.acons (.var 19) (.anil))) [19] false (.ix (.var 18)) none) l σ=some ([.bool true,.bool true,.bool false,.bool false],σ):=by
  rw[evL,hit]
  dsimp only
  rw[if_pos (by simp only[List.length_cons,List.length_nil];exact l4)]
  exact hc
 have g1:=get_new σ (AO.list [.bool true,.bool true,.bool false,.bool false] 0)
 have e2:=Ext.app (σ++[AO.list [.bool true,.bool true,.bool false,.bool false] 0]) [AO.list [.bool true,.bool true,.bool false,.bool false] 0]
 have g2:=get_new (σ++[AO.list [.bool true,.bool true,.bool false,.bool false] 0]) (AO.list [.bool true,.bool true,.bool false,.bool false] 0)
 have hlen:(σ++[AO.list [.bool true,.bool true,.bool false,.bool false] 0]).length=σ.length+1:=by simp
 rw[hlen] at g2
 have hcmp:cmpD .eq (.ref σ.length) (.ref (σ.length+1)) ((σ++[AO.list [.bool true,.bool true,.bool false,.bool false] 0])++[AO.list [.bool true,.bool true,.bool false,.bool false] 0])=some true:=by
  show(if σ.length=σ.length+1 then none else (if σ.length=σ.length+1 then some true else _))=_
  rw[if_neg (by omega),if_neg (by omega),e2.get g1,g2]
  rfl
 refine⟨_,ex_ret (ev_cmp (x:=.ref σ.length) (y:=.ref (σ.length+1)) (σ1:=σ++[AO.list [.bool true,.bool true,.bool false,.bool false] 0]) ?_ ?_ hcmp)⟩
 ·rw[ev,hLc]
 ·simp only[ev,evs,evL,List.length_cons,List.length_nil,Nat.zero_add,Nat.reduceAdd,l4,if_true,hlen]
end
def Good (W k:Nat) (R:XS) (l:Loc) (σ:St):Prop:=∃l' σ',exS (evCall FT W (k+14)) W R l σ=some (.ret (.bool true),l',σ')
theorem Good.seq {W k:Nat} {a R:XS} {l l1:Loc} {σ σ1:St} (h:exS (evCall FT W (k+14)) W a l σ=some (.next,l1,σ1)) (g:Good W k R l1 σ1):Good W k (.seq a R) l σ:=by
 obtain⟨l',σ',g⟩:=g
 exact⟨l',σ',seq_next h g⟩
section
variable {W k:Nat}
abbrev rest18:XS:=.seq sl_18 (.seq sl_19 (.seq sl_20 (.seq sl_21 (.seq sl_22 (.seq sl_23 (.seq sl_24 (.seq sl_25 sl_26)))))))
theorem good18 {l:Loc} {σ τ:St} {rf wf wh:Nat} {q:Nat×Par} {L:List (Nat×Par)} (hW:2^30≤W) (B:HasBox σ τ) (h1:l[1]?=some (some (.ref 1))) (h2:l[2]?=some (some (.ref rf))) (h6:l[6]?=some (some (.ref wh))) (hl:l.length=21)
  (hrf:2≤rf) (hwh:2≤wh) (hf:σ[rf]?=some (.list (rfs (q::L)) wf)) (hF:Frm σ (q::L)) (hL:L.length≤2) (pw:IsPol 1 1 (prodT ((q::L).map (·.2))) wh σ):Good W k rest18 l σ:=by
 obtain⟨n,dn,pp,σ18,τ18,c18,B18,k18,hn,hn5,hd,hd3,hg,hp1,hp2⟩:=stage18 (W:=W) (k:=k) hW B h1
 obtain⟨p,rfl⟩:∃p,pp=p+1:=⟨pp-1,by omega⟩
 refine Good.seq c18 ?_
 have m2:((l.set 13 (some (qD n dn))).set 14 (some (.int ((p+1:Nat):Int))))[2]?=some (some (.ref rf)):=gs (gs h2 (by decide)) (by decide)
 have m6:((l.set 13 (some (qD n dn))).set 14 (some (.int ((p+1:Nat):Int))))[6]?=some (some (.ref wh)):=gs (gs h6 (by decide)) (by decide)
 have m13:((l.set 13 (some (qD n dn))).set 14 (some (.int ((p+1:Nat):Int))))[13]?=some (some (qD n dn)):=gs (gss (by omega)) (by decide)
 have m14:((l.set 13 (some (qD n dn))).set 14 (some (.int ((p+1:Nat):Int))))[14]?=some (some (.int ((p+1:Nat):Int))):=gss (by rw[List.length_set];omega)
 have ml:((l.set 13 (some (qD n dn))).set 14 (some (.int ((p+1:Nat):Int)))).length=21:=by rw[List.length_set,List.length_set];exact hl
 clear c18
 generalize (l.set 13 (some (qD n dn))).set 14 (some (.int ((p+1:Nat):Int)))=m at *
 have hf18:=k18 _ _ hrf hf
 have hF18:=hF.kp k18
 have pw18:=pw.kp hwh k18
 have hlen:((q::L++List.replicate p q).map (·.2)).length≤4:=by simp;omega
 have okD:∀x∈(q::L++List.replicate p q).map (·.2),x.Ok:=fun x hx=>by
  obtain⟨y,hy,rfl⟩:=List.mem_map.mp hx
  have okL:=hF.par
  rcases List.mem_append.mp hy with hy|hy
  ·exact okL _ (List.mem_map_of_mem hy)
  ·rw[(List.mem_replicate.mp hy).2];exact okL _ (List.mem_map_of_mem List.mem_cons_self)
 obtain⟨r15,σ19,c19,e19,p15⟩:=stage19 (W:=W) (k:=k) (l:=m) hW m2 m13 m14 ml hf18 hF18 hL hn hd hd3 hg (by omega)
 have hD:∃a A,(q::L++List.replicate p q).map (·.2)=a::A:=⟨q.2,(L++List.replicate p q).map (·.2),rfl⟩
 refine Good.seq c19 ?_
 obtain⟨r16,σ20,c20,e20,hr16,p16⟩:=stage20 (W:=W) (k:=k) (l:=m.set 15 (some (.ref r15))) (gs m2 (by decide)) (gs m14 (by decide)) (e19.get hf18) (fun x hx=>⟨(hF18 x hx).1.ext e19,(hF18 x hx).2⟩) hL (by omega)
 refine Good.seq c20 ?_
 generalize hDp:(q::L++List.replicate p q).map (·.2)=Dp at *
 obtain⟨a,A,rfl⟩:=hD
 have sD:=prod_supp okD
 have bD:=prod_bnd okD
 obtain⟨X,Y,lead,hXY⟩:=prod_lead1 okD
 have n6:((m.set 15 (some (.ref r15))).set 16 (some (.ref r16)))[6]?=some (some (.ref wh)):=gs (gs m6 (by decide)) (by decide)
 have n13:((m.set 15 (some (.ref r15))).set 16 (some (.ref r16)))[13]?=some (some (qD n dn)):=gs (gs m13 (by decide)) (by decide)
 have n15:((m.set 15 (some (.ref r15))).set 16 (some (.ref r16)))[15]?=some (some (.ref r15)):=gs (gss (by omega)) (by decide)
 have n16:((m.set 15 (some (.ref r15))).set 16 (some (.ref r16)))[16]?=some (some (.ref r16)):=gss (by rw[List.length_set];omega)
 have nl:((m.set 15 (some (.ref r15))).set 16 (some (.ref r16))).length=21:=by rw[List.length_set,List.length_set];exact ml
 clear c19 c20
 generalize (m.set 15 (some (.ref r15))).set 16 (some (.ref r16))=u at *
 obtain⟨σ21,c21,e21,p17⟩:=stage21 (W:=W) (k:=k) (l:=u) hW hd hd3 hn hn5 p16 (sD.box (by omega)) n16 n13 nl
 refine Good.seq c21 ?_
 have o6:(u.set 17 (some (.ref σ20.length)))[6]?=some (some (.ref wh)):=gs n6 (by decide)
 have o13:(u.set 17 (some (.ref σ20.length)))[13]?=some (some (qD n dn)):=gs n13 (by decide)
 have o15:(u.set 17 (some (.ref σ20.length)))[15]?=some (some (.ref r15)):=gs n15 (by decide)
 have o16:(u.set 17 (some (.ref σ20.length)))[16]?=some (some (.ref r16)):=gs n16 (by decide)
 have o17:(u.set 17 (some (.ref σ20.length)))[17]?=some (some (.ref σ20.length)):=gss (by omega)
 have ol:(u.set 17 (some (.ref σ20.length))).length=21:=by rw[List.length_set];exact nl
 clear c21
 have hlt:r15<σ20.length:=(p15.ext e20).lt
 generalize hr17:σ20.length=r17 at *
 generalize u.set 17 (some (.ref r17))=u2 at *
 obtain⟨σ22,c22,e22⟩:=stage22 (W:=W) (k:=k) (l:=u2) hW hn hn5 hd hd3 hg o13 o15 o16 o17 (p15.ext (e20.trans e21)) (p16.ext e21) p17 (by omega) sD bD (by omega) lead
 refine Good.seq c22 ?_
 obtain⟨σ23,c23,e23⟩:=stage23 (W:=W) (k:=k) (l:=u2) hW hn hn5 hd hd3 hg o13 o16 o17 (p16.ext (e21.trans e22)) (p17.ext e22) sD (by omega)
 refine Good.seq c23 ?_
 have ex:Ext σ18 σ23:=(((e19.trans e20).trans e21).trans e22).trans e23
 obtain⟨σ24,c24,e24⟩:=stage24 (W:=W) (k:=k) (l:=u2) hW hn hn5 hd hd3 o6 o17 (pw18.ext ex) (p17.ext (e22.trans e23)) hF.par okD (by simp only[List.length_map,List.length_cons] at hlen ⊢;omega)
 refine Good.seq c24 ?_
 have c25:=stage25 (W:=W) (k:=k) (l:=u2) (σ:=σ24) o13 o16
 refine Good.seq c25 ?_
 have e25:=Ext.app σ24 [AO.dict [] 0,.dict [([0,0],qD n dn)] 0,.dict [([0,1],qD 1 1)] 0]
 obtain⟨σ26,c26⟩:=stage26 (W:=W) (k:=k) (l:=u2.set 18 (some (.tup [.ref σ24.length,.ref (σ24.length+1),.ref r16,.ref (σ24.length+2)]))) (σ:=σ24++[AO.dict [] 0,.dict [([0,0],qD n dn)] 0,.dict [([0,1],qD 1 1)] 0])
  hd hg (sD.box (by omega)) lead hXY (gss (by omega)) (by rw[List.length_set];exact ol)
  (by simp) (by rw[List.getElem?_append_right (by omega)];simp) (p16.ext ((((e21.trans e22).trans e23).trans e24).trans e25)) (by rw[List.getElem?_append_right (by omega)];simp)
 exact⟨_,σ26,c26⟩
end
theorem Frm.ext {σ σ':St} {L:List (Nat×Par)} (h:Frm σ L) (e:Ext σ σ'):Frm σ' L:=h.kp e.kp
section
variable {W k:Nat}
abbrev rest10:XS:=.seq sl_10 (.seq sl_11 (.seq sl_12 (.seq sl_13 (.seq sl_14 (.seq sl_15 (.seq sl_16 (.seq sl_17 rest18)))))))
theorem good10 {l:Loc} {σ τ:St} {n:Int} {w rf wf wh tu v:Nat} {L M:List (Nat×Par)} (hW:2^30≤W) (B:HasBox σ τ) (hw:2≤w) (hw':w≤8) (hn:n≠0) (hn':n.natAbs≤3)
  (h1:l[1]?=some (some (.ref 1))) (h2:l[2]?=some (some (.ref rf))) (h5:l[5]?=some (some (.int (w:Nat)))) (h6:l[6]?=some (some (.ref wh))) (h7:l[7]?=some (some (.ref tu))) (h9:l[9]?=some (some (.int n))) (hl:l.length=21)
  (hrf:2≤rf) (hwh:2≤wh) (hf:σ[rf]?=some (.list (rfs L) wf)) (ht:σ[tu]?=some (.list (rfs M) v)) (hF:Frm σ L) (hp:M.Perm L) (hL1:1≤L.length) (hL:L.length≤3) (hLw:L.length<w)
  (pw:IsPol 1 1 (prodT (L.map (·.2))) wh σ):Good W k rest10 l σ:=by
 have hMl:=hp.length_eq
 have hFM:Frm σ M:=hF.perm hp
 obtain⟨P,rp,σ10,c10,e10,hrp,gp,hP,hPp⟩:=stage10 (W:=W) (k:=k) (l:=l) hw hw' hn hn' h9 h5 h7 hl ht hFM (by omega)
 refine Good.seq c10 ?_
 have m1:(l.set 10 (some (.ref rp)))[1]?=some (some (.ref 1)):=gs h1 (by decide)
 have m2:(l.set 10 (some (.ref rp)))[2]?=some (some (.ref rf)):=gs h2 (by decide)
 have m5:(l.set 10 (some (.ref rp)))[5]?=some (some (.int (w:Nat))):=gs h5 (by decide)
 have m6:(l.set 10 (some (.ref rp)))[6]?=some (some (.ref wh)):=gs h6 (by decide)
 have m7:(l.set 10 (some (.ref rp)))[7]?=some (some (.ref tu)):=gs h7 (by decide)
 have m10:(l.set 10 (some (.ref rp)))[10]?=some (some (.ref rp)):=gss (by omega)
 have ml:(l.set 10 (some (.ref rp))).length=21:=by rw[List.length_set];exact hl
 clear c10
 generalize l.set 10 (some (.ref rp))=m at *
 obtain⟨u,σ11,c11,e11,ul,hu⟩:=stage11 (W:=W) (k:=k) (l:=m) hW hw hw' hn hn' m5 m7 m10 ml (e10.get ht) gp (hFM.ext e10) hP hPp (by omega) (by omega)
 refine Good.seq c11 ?_
 have u1:u[1]?=some (some (.ref 1)):=(hu 1 (by decide)).trans m1
 have u2:u[2]?=some (some (.ref rf)):=(hu 2 (by decide)).trans m2
 have u5:u[5]?=some (some (.int (w:Nat))):=(hu 5 (by decide)).trans m5
 have u6:u[6]?=some (some (.ref wh)):=(hu 6 (by decide)).trans m6
 have u7:u[7]?=some (some (.ref tu)):=(hu 7 (by decide)).trans m7
 have u10:u[10]?=some (some (.ref rp)):=(hu 10 (by decide)).trans m10
 obtain⟨q,M',rfl⟩:∃q M',M=q::M':=by
  cases M with
  |nil=>simp at hMl;omega
  |cons a b=>exact⟨a,b,rfl⟩
 have e1011:=e10.trans e11
 have hpc:∀x∈P,IsPiece n w x.2 x.1 σ11∧x.2.Ok:=fun x hx=>⟨(hPp x hx).1.ext e11,(hPp x hx).2⟩
 have pw11:=pw.ext e1011
 have hperm:prodT (L.map (·.2))=prodT ((q::M').map (·.2)):=(prodT_perm (hp.map _)).symm
 obtain⟨r1,r2,σ12,c12,e12,p1,p2,hr1,hr2⟩:=stage12 (W:=W) (k:=k) (l:=u) (q:=q) (M:=M') (L:=L) hW hw hw' hn hn' u5 u6 u10 (e11.get gp) hFM.par hP hpc (by omega) (by rw[←hperm];exact pw11)
 refine Good.seq c12 ?_
 have v1:(u.set 12 (some (.tup [keyD [0],.ref r1,.ref r2])))[1]?=some (some (.ref 1)):=gs u1 (by decide)
 have v2:(u.set 12 (some (.tup [keyD [0],.ref r1,.ref r2])))[2]?=some (some (.ref rf)):=gs u2 (by decide)
 have v5:(u.set 12 (some (.tup [keyD [0],.ref r1,.ref r2])))[5]?=some (some (.int (w:Nat))):=gs u5 (by decide)
 have v6:(u.set 12 (some (.tup [keyD [0],.ref r1,.ref r2])))[6]?=some (some (.ref wh)):=gs u6 (by decide)
 have v7:(u.set 12 (some (.tup [keyD [0],.ref r1,.ref r2])))[7]?=some (some (.ref tu)):=gs u7 (by decide)
 have v10:(u.set 12 (some (.tup [keyD [0],.ref r1,.ref r2])))[10]?=some (some (.ref rp)):=gs u10 (by decide)
 have v12:(u.set 12 (some (.tup [keyD [0],.ref r1,.ref r2])))[12]?=some (some (.tup [keyD [0],.ref r1,.ref r2])):=gss (by omega)
 have vl:(u.set 12 (some (.tup [keyD [0],.ref r1,.ref r2]))).length=21:=by rw[List.length_set];exact ul
 clear c12
 generalize u.set 12 (some (.tup [keyD [0],.ref r1,.ref r2]))=y at *
 have ex12:=e1011.trans e12
 have hq1:q.1<σ11.length:=(((hFM.ext e1011) q List.mem_cons_self).1.pol).lt
 obtain⟨σ13,c13,e13⟩:=stage13 (W:=W) (k:=k) (l:=y) (M:=M') v7 v12 (ex12.get ht) (hFM.ext ex12) (by omega) p1 p2 (by omega)
 refine Good.seq c13 ?_
 have e113:=e12.trans e13
 have hPl:P.length=(q::M').length:=by simpa using congrArg List.length hP
 obtain⟨σ14,c14,e14⟩:=stage14 (W:=W) (k:=k) (l:=y) hW hw hw' hn hn' v5 v10 ((e11.trans e113).get gp) (fun x hx=>⟨(hpc x hx).1.ext e113,(hpc x hx).2⟩) (by omega)
 refine Good.seq c14 ?_
 obtain⟨σ15,c15,e15⟩:=stage15 (W:=W) (k:=k) (σ:=σ14) (l:=y) hW hw hw' v5 v6
 refine Good.seq c15 ?_
 have ex15:Ext σ σ15:=((ex12.trans e13).trans e14).trans e15
 obtain⟨σ16,c16,e16⟩:=stage16 (W:=W) (k:=k) (l:=y) v2 v7 (ex15.get hf) (ex15.get ht) (hF.ext ex15) hp hL1 hL
 refine Good.seq c16 ?_
 have ex16:=ex15.trans e16
 obtain⟨σ17,c17,e17⟩:=stage17 (W:=W) (k:=k) (l:=y) v2 v7 vl (ex16.get hf) (ex16.get ht) (hF.ext ex16) hp hL1 hL
 refine Good.seq c17 ?_
 have ex17:=ex16.trans e17
 obtain⟨τ17,B17,_⟩:=B.ext ex17
 obtain⟨q',L',rfl⟩:∃q' L',L=q'::L':=by
  cases L with
  |nil=>simp at hL1
  |cons a b=>exact⟨a,b,rfl⟩
 exact good18 hW B17 v1 v2 v6 vl hrf hwh (ex17.get hf) (hF.ext ex17) (by simpa using hL) (pw.ext ex17)
theorem good1 {is:List Int} (hW:2^30≤W) (h:is.length≤63):Good W k b_law (some (.fro (is.map .int))::List.replicate 20 none) []:=by
 rw[law_body]
 refine Good.seq (stage1 h) ?_
 have B1:HasBox [.list ((is.take 30).map .int) 0,.list [.ref 0,.int 0] 0] []:=⟨is.take 30,0,0,0,by rw[List.length_take];omega,rfl⟩
 have f1:(some (D.fro (is.map .int))::some (.ref 1)::List.replicate 19 none)[1]?=some (some (.ref 1)):=rfl
 have fl:(some (D.fro (is.map .int))::some (.ref 1)::List.replicate 19 none).length=21:=by simp
 generalize (some (D.fro (is.map .int))::some (.ref 1)::List.replicate 19 none)=l1 at *
 generalize [AO.list ((is.take 30).map .int) 0,.list [.ref 0,.int 0] 0]=σ1 at *
 obtain⟨L,rf,σ2,τ2,c2,B2,hrf,hf2,hF2,hL1,hL⟩:=stage2 (W:=W) (k:=k) B1 f1 fl
 refine Good.seq c2 ?_
 have lim:LIM=1048576:=rfl
 have g1:(l1.set 2 (some (.ref rf)))[1]?=some (some (.ref 1)):=gs f1 (by decide)
 have g2:(l1.set 2 (some (.ref rf)))[2]?=some (some (.ref rf)):=gss (by omega)
 have gl:(l1.set 2 (some (.ref rf))).length=21:=by rw[List.length_set];exact fl
 clear c2
 generalize l1.set 2 (some (.ref rf))=l2 at *
 obtain⟨m,s,σ3,c3,B3,hm,hs⟩:=stage3 (W:=W) (k:=k) B2 g1 gl
 refine Good.seq c3 ?_
 have k23:Kp σ2 σ3:=kp_of B2 B3 (Ext.refl _)
 have i1:((l2.set 3 (some (.int (m:Nat)))).set 4 (some (.int (s:Nat))))[1]?=some (some (.ref 1)):=gs (gs g1 (by decide)) (by decide)
 have i2:((l2.set 3 (some (.int (m:Nat)))).set 4 (some (.int (s:Nat))))[2]?=some (some (.ref rf)):=gs (gs g2 (by decide)) (by decide)
 have i3:((l2.set 3 (some (.int (m:Nat)))).set 4 (some (.int (s:Nat))))[3]?=some (some (.int (m:Nat))):=gs (gss (by omega)) (by decide)
 have i4:((l2.set 3 (some (.int (m:Nat)))).set 4 (some (.int (s:Nat))))[4]?=some (some (.int (s:Nat))):=gss (by rw[List.length_set];omega)
 have il:((l2.set 3 (some (.int (m:Nat)))).set 4 (some (.int (s:Nat)))).length=21:=by rw[List.length_set,List.length_set];exact gl
 clear c3
 generalize (l2.set 3 (some (.int (m:Nat)))).set 4 (some (.int (s:Nat)))=l3 at *
 have hf3:=k23 _ _ hrf hf2
 obtain⟨σ4,c4,e4⟩:=stage4 (W:=W) (k:=k) (l:=l3) i3 i4 i2 hf3 hm hs hL
 refine Good.seq c4 ?_
 obtain⟨τ4,B4,_⟩:=B3.ext e4
 obtain⟨w,σ5,c5,B5,hLw,hwL⟩:=stage5 (W:=W) (k:=k) (l:=l3) B4 i1 i2 (e4.get hf3) hL
 refine Good.seq c5 ?_
 have k45:Kp σ4 σ5:=kp_of B4 B5 (Ext.refl _)
 have k25:Kp σ2 σ5:=(k23.trans e4.kp).trans k45
 have j1:(l3.set 5 (some (.int (w:Nat))))[1]?=some (some (.ref 1)):=gs i1 (by decide)
 have j2:(l3.set 5 (some (.int (w:Nat))))[2]?=some (some (.ref rf)):=gs i2 (by decide)
 have j5:(l3.set 5 (some (.int (w:Nat))))[5]?=some (some (.int (w:Nat))):=gss (by omega)
 have jl:(l3.set 5 (some (.int (w:Nat)))).length=21:=by rw[List.length_set];exact il
 clear c5
 generalize l3.set 5 (some (.int (w:Nat)))=l5 at *
 have hf5:=k25 _ _ hrf hf2
 have hF5:=hF2.kp k25
 obtain⟨wh,σ6,ρ,c6,B6,e6,hwh,pw6⟩:=stage6 (W:=W) (k:=k) (l:=l5) B5 j2 hf5 hF5 hL jl
 refine Good.seq c6 ?_
 have n1:(((l5.set 6 (some (.ref wh))).set 7 (some (.ref (ρ.length+2)))).set 8 (some (.ref (ρ.length+1+2))))[1]?=some (some (.ref 1)):=gs (gs (gs j1 (by decide)) (by decide)) (by decide)
 have n2:(((l5.set 6 (some (.ref wh))).set 7 (some (.ref (ρ.length+2)))).set 8 (some (.ref (ρ.length+1+2))))[2]?=some (some (.ref rf)):=gs (gs (gs j2 (by decide)) (by decide)) (by decide)
 have n5:(((l5.set 6 (some (.ref wh))).set 7 (some (.ref (ρ.length+2)))).set 8 (some (.ref (ρ.length+1+2))))[5]?=some (some (.int (w:Nat))):=gs (gs (gs j5 (by decide)) (by decide)) (by decide)
 have n6:(((l5.set 6 (some (.ref wh))).set 7 (some (.ref (ρ.length+2)))).set 8 (some (.ref (ρ.length+1+2))))[6]?=some (some (.ref wh)):=gs (gs (gss (by omega)) (by decide)) (by decide)
 have n7:(((l5.set 6 (some (.ref wh))).set 7 (some (.ref (ρ.length+2)))).set 8 (some (.ref (ρ.length+1+2))))[7]?=some (some (.ref (ρ.length+2))):=gs (gss (by rw[List.length_set];omega)) (by decide)
 have n8:(((l5.set 6 (some (.ref wh))).set 7 (some (.ref (ρ.length+2)))).set 8 (some (.ref (ρ.length+1+2))))[8]?=some (some (.ref (ρ.length+1+2))):=gss (by rw[List.length_set,List.length_set];omega)
 have nl:(((l5.set 6 (some (.ref wh))).set 7 (some (.ref (ρ.length+2)))).set 8 (some (.ref (ρ.length+1+2)))).length=21:=by rw[List.length_set,List.length_set,List.length_set];exact jl
 clear c6
 generalize ((l5.set 6 (some (.ref wh))).set 7 (some (.ref (ρ.length+2)))).set 8 (some (.ref (ρ.length+1+2)))=l6 at *
 have hF6:=hF5.ext e6
 obtain⟨M,v,σ7,τ7,c7,B7,k67,hp,hFM,gt⟩:=stage7 (W:=W) (k:=k) (l:=l6) hW B6 hF6 hL n1 n7 n8
 refine Good.seq c7 ?_
 have hf7:=k67 _ _ hrf (e6.get hf5)
 have hF7:=hF6.kp k67
 have pw7:=pw6.kp hwh k67
 obtain⟨σ8,c8,e8⟩:=stage8 (W:=W) (k:=k) (l:=l6) (σ:=σ7) (by omega) (by omega) hLw n2 n5 n6 nl hf7 hF7 hL pw7
 refine Good.seq c8 ?_
 obtain⟨τ8,B8,_⟩:=B7.ext e8
 obtain⟨n,σ9,τ9,c9,B9,k89,hn,hn'⟩:=stage9 (W:=W) (k:=k) (l:=l6) B8 n1
 refine Good.seq c9 ?_
 have k79:Kp σ7 σ9:=e8.kp.trans k89
 exact good10 hW B9 (by omega) (by omega) hn hn' (gs n1 (by decide)) (gs n2 (by decide)) (gs n5 (by decide)) (gs n6 (by decide)) (gs n7 (by decide)) (gss (by omega)) (by rw[List.length_set];exact nl)
  hrf hwh (k79 _ _ hrf hf7) (k79 _ _ (by omega) gt) (hF7.kp k79) hp hL1 hL hLw (pw7.kp hwh k79)
theorem plain_law (hW:2^30≤W):PlainLaw W (k+14):=fun is h=>by
 obtain⟨l',σ',hg⟩:=good1 (W:=W) (k:=k) (is:=is) hW h
 exact⟨σ',call_ret (fn:=⟨1,21,b_law⟩) rfl rfl (l:=l') hg⟩
theorem all_holds:PySem.Challenge.rw_pf0048_01.Holds:=law_of_plain (W:=2^30) (n:=14) (by decide) (plain_law (k:=0) (Nat.le_refl _))
end
end Mine

theorem PySem.Challenge.cw_pf0048_01_holds : PySem.Challenge.rw_pf0048_01.Holds :=
  Mine.all_holds
