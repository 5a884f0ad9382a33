import PyProof.Rows.All
import Wide.All
import OpenK.AllK
import Wide.FinOn
import PySem.Challenge.RW_pf0048_01
open PySem PySem.W PyProof.Rows PySem.SeqAt
set_option Elab.async false
set_option maxRecDepth 100000
set_option maxHeartbeats 8000000
set_option linter.all false
noncomputable section
namespace Mine
local macro_rules | `(tactic| exists $f:ident, $c, $hs,*) => `(tactic| exact $f $c (by kernel_rfl!) $hs*) | `(tactic| exists $f:ident, $c) => `(tactic| exact $f $c (by kernel_rfl!))
section
noncomputable def qe (ν:Nat->Int) (x:List Int):Nat->Int:=List.rec (fun _=>0) (fun c _ ih j=>c*ν j+ih (j+1)) x
noncomputable def xS (x:List Int):List Int->List Int:=List.rec (fun y=>y) (fun a _ ih y=>(a+y.headD 0)::ih y.tail) x
noncomputable def tz (k:Int) (x:List Int):List Int:=List.rec [] (fun a _ ih=>(k*a)::ih) x
noncomputable def u4 (i:Nat):List Int:=Nat.rec [1] (fun _ ih=>0::ih) i
section
variable {ν:Nat->Int}
theorem om (y:List Int) (j:Nat):qe ν y j=y.headD 0*ν j+qe ν y.tail (j+1):=by
 cases y with
 |nil=>exact((Int.add_zero _).trans (Int.zero_mul _)).symm
 |cons c r=>rfl
theorem lS (x:List Int):∀(y:List Int) (j:Nat),qe ν (xS x y) j=qe ν x j+qe ν y j:=by
 induction x with
 |nil=>exact fun y j=>(Int.zero_add _).symm
 |cons a x ih=>
  intro y j;rw[om y];show(a+y.headD 0)*ν j+qe ν (xS x y.tail) (j+1)=a*ν j+qe ν x (j+1)+_;rw[ih,Int.add_mul];ac_rfl
theorem jr (k:Int) (x:List Int):∀j,qe ν (tz k x) j=k*qe ν x j:=by
 induction x with
 |nil=>exact fun j=>(Int.mul_zero k).symm
 |cons a x ih=>
  intro j;show k*a*ν j+qe ν (tz k x) (j+1)=k*(a*ν j+qe ν x (j+1));rw[ih,Int.mul_add,Int.mul_assoc]
theorem pO (i:Nat):∀j,qe ν (u4 i) j=ν (j+i):=by
 induction i with
 |zero=>exact fun j=>(Int.add_zero _).trans (Int.one_mul _)
 |succ i ih=>
  intro j;show 0*ν j+qe ν (u4 i) (j+1)=_;rw[ih,Int.zero_mul,Int.zero_add,Nat.add_right_comm];rfl
end
noncomputable abbrev Cn:=Bool×Int×List Int
noncomputable def jA (ν:Nat->Int) (j:Nat) (c:Cn):Int:=c.2.1+qe ν c.2.2 j
noncomputable def tB (ν:Nat->Int) (j:Nat) (c:Cn):Prop:=0<=jA ν j c/\(c.1=true->jA ν j c=0)
noncomputable def hd (c:Cn):Int:=c.2.2.headD 0
noncomputable def BL (x:Int):Bool:=Int.rec (fun _=>false) (fun _=>true) x
noncomputable def BK (x:Int):Bool:=Int.rec (fun n=>Nat.beq n 0) (fun _=>false) x
theorem wv {x:Int} (h:BL x=true):x<0:=match x,h with
 | .negSucc _,_=>Int.negSucc_lt_zero _
theorem Ah {x:Int} (h:BL x=false):0<=x:=match x,h with
 | .ofNat _,_=>Int.natCast_nonneg _
theorem Cp {x:Int} (h:BK x=true):x=0:=match x,h with
 | .ofNat _,h=>congrArg Int.ofNat (Nat.eq_of_beq_eq_true h)
noncomputable def uM (a b:Int) (x y:Cn):Cn:=(x.1&&y.1,a*x.2.1+b*y.2.1,xS (tz a x.2.2.tail) (tz b y.2.2.tail))
noncomputable def xg (cs:List Cn):List Cn:=Option.rec
 (cs.flatMap fun x=>bif BK (hd x) then [(x.1,x.2.1,x.2.2.tail)] else bif BL (hd x) then [] else cs.flatMap fun y=>bif BL (hd y) then [uM (-hd y) (hd x) x y] else [])
 (fun e=>cs.flatMap fun c=>bif BL (hd e) then [uM (-hd e) (hd c) c e] else [uM (hd e) (-hd c) c e]) (cs.find? fun c=>c.1&&!BK (hd c))
noncomputable def z7 (n:Nat):List Cn->Bool:=Nat.rec (fun cs=>cs.any fun c=>c.2.2.isEmpty&&(BL c.2.1 || (c.1&&!BK c.2.1))) (fun _ ih cs=>ih (xg cs)) n
section
variable {ν:Nat->Int} {j:Nat}
theorem xA {a b:Int} {x y:Cn} (h:a*hd x+b*hd y=0):jA ν (j+1) (uM a b x y)=a*jA ν j x+b*jA ν j y:=by
 unfold jA uM;rw[lS,jr,jr,om x.2.2,om y.2.2];have h':(a*x.2.2.headD 0+b*y.2.2.headD 0)*ν j=0:=by unfold hd at h;rw[h,Int.zero_mul]
 grind
theorem oA {a b:Int} {x y:Cn} (sx:tB ν j x) (sy:tB ν j y) (h:a*hd x+b*hd y=0) (ha:0<=a) (hb:0<=b\/y.1=true):tB ν (j+1) (uM a b x y):=by
 have e:=xA (ν:=ν) (j:=j) h
 have h2:0<=b*jA ν j y:=hb.elim (fun hb=>Int.mul_nonneg hb sy.1) fun hb=>by rw[sy.2 hb,Int.mul_zero];exact Int.le_refl _
 refine⟨e▸Int.add_nonneg (Int.mul_nonneg ha sx.1) h2,fun hb=>?_⟩;obtain⟨b1,b2⟩:=Bool.and_eq_true_iff.mp hb;rw[e,sx.2 b1,sy.2 b2,Int.mul_zero,Int.mul_zero];rfl
theorem kQ {α:Type} {b:Bool} {x y:List α} {c:α} {P:Prop} (h:c∈bif b then x else y) (h1:b=true->c∈x->P) (h2:b=false->c∈y->P):P:=by
 cases b
 ·exact h2 rfl h
 ·exact h1 rfl h
theorem xe {cs:List Cn} (h:∀c∈cs,tB ν j c):∀c∈xg cs,tB ν (j+1) c:=by
 intro c;unfold xg
 cases q:cs.find? fun c=>c.1&&!BK (hd c) with
 |none=>
  intro hc;obtain⟨x,hx,hc⟩:=List.mem_flatMap.mp hc
  refine kQ hc (fun hz hc=>?_) fun hz hc=>kQ hc (fun _ hc=>(List.not_mem_nil hc).elim) fun hn hc=>?_
  ·rw[List.mem_singleton.mp hc];have e:jA ν (j+1) (x.1,x.2.1,x.2.2.tail)=jA ν j x:=by
    have hz:=Cp hz;unfold jA hd at *;rw[om x.2.2,hz,Int.zero_mul,Int.zero_add]
   have s:=h x hx;unfold tB at s ⊢;rwa [e]
  ·obtain⟨y,hy,hc⟩:=List.mem_flatMap.mp hc
   refine kQ hc (fun hm hc=>?_) fun _ hc=>(List.not_mem_nil hc).elim;rw[List.mem_singleton.mp hc];exact oA (h x hx) (h y hy) (by rw[Int.neg_mul,Int.mul_comm,Int.add_left_neg]) (Int.le_of_lt (Int.neg_pos_of_neg (wv hm))) (.inl (Ah hn))
 |some e=>
  intro hc;obtain⟨x,hx,hc⟩:=List.mem_flatMap.mp hc;have he:=h e (List.mem_of_find?_eq_some q)
  have h1:e.1=true:=(Bool.and_eq_true_iff.mp (List.find?_some (p:=fun c=>c.1&&!BK (hd c)) q)).1
  refine kQ hc (fun hz hc=>?_) fun hz hc=>?_
  ·rw[List.mem_singleton.mp hc];exact oA (h x hx) he (by rw[Int.neg_mul,Int.mul_comm,Int.add_left_neg]) (Int.le_of_lt (Int.neg_pos_of_neg (wv hz))) (.inr h1)
  ·rw[List.mem_singleton.mp hc];exact oA (h x hx) he (by rw[Int.neg_mul,Int.mul_comm,Int.add_right_neg]) (Ah hz) (.inr h1)
theorem u0 (n:Nat):∀{j:Nat} {cs:List Cn},z7 n cs=true->(∀c∈cs,tB ν j c)->False:=by
 induction n with
 |zero=>
  intro j cs h k;obtain⟨c,hc,h⟩:=List.any_eq_true.mp h;obtain⟨h1,h2⟩:=Bool.and_eq_true_iff.mp h;obtain⟨e,kk,l⟩:=c;have s:=k _ hc;obtain rfl:l=[]:=List.isEmpty_iff.mp h1;have hv:jA ν j (e,kk,[])=kk:=Int.add_zero _;rw[tB,hv] at s;rcases Bool.or_eq_true_iff.mp h2 with h2|h2
  ·exact Int.not_lt.mpr s.1 (wv h2)
  ·obtain⟨h3,h4⟩:=Bool.and_eq_true_iff.mp h2;rw[show kk=0 from s.2 h3] at h4
   cases h4
 |succ n ih=>exact fun h k=>ih h (xe k)
end
section
variable (ν:Nat->Int)
structure Tm where
 v:Int
 k:Int
 l:List Int
 h:v=k+qe ν l 0
noncomputable def Tm.lit (k:Int):Tm ν:=⟨k,k,[],(Int.add_zero k).symm⟩
noncomputable def Tm.at (i:Nat):Tm ν:=⟨ν i,0,u4 i,by rw[pO,Int.zero_add,Nat.zero_add]⟩
noncomputable def Tm.add (a b:Tm ν):Tm ν:=⟨a.v+b.v,a.k+b.k,xS a.l b.l,by rw[lS,a.h,b.h];ac_rfl⟩
noncomputable def Tm.mul (k:Int) (a:Tm ν):Tm ν:=⟨k*a.v,k*a.k,tz k a.l,by rw[jr,a.h,Int.mul_add]⟩
structure Nm where
 n:Nat
 t:Tm ν
 e:(n:Int)=t.v
structure Im where
 i:Int
 t:Tm ν
 e:i=t.v
noncomputable def jo (bs:List (List Cn)):Prop:=∃b∈bs,∀c∈b,tB ν 0 c
structure Pm where
 p:Prop
 y:List (List Cn)
 n:List (List Cn)
 hy:p->jo ν y
 hn:¬p->jo ν n
end
section
variable {ν:Nat->Int}
noncomputable def uS (e:Bool) (k:Int) (a b:Tm ν):Cn:=(e,k+(b.k+-1*a.k),xS b.l (tz (-1) a.l))
theorem tm (e:Bool) (k:Int) (a b:Tm ν):jA ν 0 (uS e k a b)=k+(b.v-a.v):=by
 unfold jA uS;rw[lS,jr,a.h,b.h];grind
theorem j4 {k:Int} {a b:Tm ν} (h:0<=k+(b.v-a.v)):tB ν 0 (uS false k a b):=⟨tm ..▸h,nofun⟩
theorem Bq {a b:Tm ν} (h:a.v=b.v):tB ν 0 (uS true 0 a b):=by
 have:jA ν 0 (uS true 0 a b)=0:=by rw[tm,h,Int.sub_self];rfl
 exact⟨Int.le_of_eq this.symm,fun _=>this⟩
theorem gq {c:Cn} (h:tB ν 0 c):jo ν [[c]]:=⟨_,List.mem_singleton_self _,fun _ hc=>List.mem_singleton.mp hc▸h⟩
theorem gZ {x y:List (List Cn)} (h:jo ν x\/jo ν y):jo ν (x++y):=by
 rcases h with⟨b,hb,h⟩ | ⟨b,hb,h⟩
 ·exact⟨b,List.mem_append_left _ hb,h⟩
 ·exact⟨b,List.mem_append_right _ hb,h⟩
noncomputable def sP (x y:List (List Cn)):List (List Cn):=x.flatMap fun b=>y.map fun c=>b++c
theorem iC {x y:List (List Cn)} (h:jo ν x) (h':jo ν y):jo ν (sP x y):=by
 obtain⟨b,hb,h⟩:=h;obtain⟨c,hc,h'⟩:=h';exact⟨_,List.mem_flatMap.mpr ⟨b,hb,List.mem_map_of_mem hc⟩,fun d hd=>(List.mem_append.mp hd).elim (h d) (h' d)⟩
noncomputable def Pm.lt {p:Prop} {a b:Tm ν} (h:p↔a.v<b.v):Pm ν:=⟨p,[[uS false (-1) a b]],[[uS false 0 b a]],fun q=>gq (j4 (by have:=h.mp q;omega)),fun q=>gq (j4 (by have:=mt h.mpr q;omega))⟩
noncomputable def Pm.le {p:Prop} {a b:Tm ν} (h:p↔a.v<=b.v):Pm ν:=⟨p,[[uS false 0 a b]],[[uS false (-1) b a]],fun q=>gq (j4 (by have:=h.mp q;omega)),fun q=>gq (j4 (by have:=mt h.mpr q;omega))⟩
noncomputable def Pm.eq {p:Prop} {a b:Tm ν} (h:p↔a.v=b.v):Pm ν:=⟨p,[[uS true 0 a b]],[[uS false (-1) a b]]++[[uS false (-1) b a]],fun q=>gq (Bq (h.mp q)),fun q=>
 gZ ((Int.lt_or_gt_of_ne (mt h.mpr q)).imp (fun u=>gq (j4 (by omega))) (fun u=>gq (j4 (by omega))))⟩
noncomputable def Pm.and (a b:Pm ν):Pm ν:=⟨a.p/\b.p,sP a.y b.y,a.n++b.n,fun h=>iC (a.hy h.1) (b.hy h.2),fun h=>gZ ((Classical.em a.p).elim (fun q=>.inr (b.hn fun u=>h ⟨q,u⟩)) fun q=>.inl (a.hn q))⟩
noncomputable def Pm.or (a b:Pm ν):Pm ν:=⟨a.p\/b.p,a.y++b.y,sP a.n b.n,fun h=>gZ (h.imp a.hy b.hy),fun h=>iC (a.hn fun q=>h (.inl q)) (b.hn fun q=>h (.inr q))⟩
noncomputable def Pm.imp (a b:Pm ν):Pm ν:=⟨a.p->b.p,a.n++b.y,sP a.y b.n,fun h=>gZ ((Classical.em a.p).elim (fun q=>.inr (b.hy (h q))) fun q=>.inl (a.hn q)),
 fun h=>iC (a.hy (Classical.byContradiction fun q=>h fun u=>(q u).elim)) (b.hn fun q=>h fun _=>q)⟩
noncomputable def Pm.no:Pm ν:=⟨False,[],[[]],fun h=>h.elim,fun _=>⟨_,List.mem_singleton_self _,nofun⟩⟩
end
section
variable (ns:List Nat) (is:List Int)
noncomputable def nu (j:Nat):Int:=cond (Nat.beq (j%2) 0) (Int.ofNat (List.rec (fun _=>0) (fun a _ ih j=>Nat.rec a (fun j _=>ih j) j) ns (j/2):Nat)) (List.rec (fun _=>0) (fun a _ ih j=>Nat.rec a (fun j _=>ih j) j) is (j/2):Int)
theorem Ci (i:Nat):nu ns is (2*i)=Int.ofNat (List.rec (fun _=>0) (fun a _ ih j=>Nat.rec a (fun j _=>ih j) j) ns (i):Nat):=by
 unfold nu;rw[Nat.mul_mod_right,Nat.mul_div_cancel_left _ (by decide)];rfl
theorem CR (i:Nat):nu ns is (2*i+1)=(List.rec (fun _=>0) (fun a _ ih j=>Nat.rec a (fun j _=>ih j) j) is (i):Int):=by
 unfold nu;rw[Nat.mul_add_mod,Nat.mul_add_div (by decide)];rfl
noncomputable abbrev Nn:=Nm (nu ns is)
noncomputable abbrev In:=Im (nu ns is)
noncomputable abbrev Pn:=Pm (nu ns is)
noncomputable def kw (c:Nat):Nat:=bif Nat.beq (c%16) 15 then 17 else c%16
noncomputable def kv (c:Nat):Nat:=c/16%16^kw c
noncomputable def kr (c:Nat):Nat:=c/16/16^kw c
noncomputable def rN (fuel:Nat):Nat->(Nn ns is->Nat->Pn ns is)->Pn ns is:=Nat.rec (fun _ _=>.no) (fun _ ih c k=>
 bif Nat.beq (c%16) 0 then k ⟨(List.rec (fun _=>0) (fun a _ ih j=>Nat.rec a (fun j _=>ih j) j) ns (c/16%16):Nat),.at _ (2*(c/16%16)),(Ci ..).symm⟩ (c/256) else
 bif Nat.beq (c%16) 1 then k ⟨kv (c/16),.lit _ (kv (c/16)),rfl⟩ (kr (c/16)) else
 bif Nat.beq (c%16) 2 then ih (c/16) fun a c=>ih c fun b c=>k ⟨a.n+b.n,.add _ a.t b.t,by rw[Int.natCast_add,a.e,b.e];rfl⟩ c else
 bif Nat.beq (c%16) 3 then ih (kr (c/16)) fun a d=>k ⟨kv (c/16)*a.n,.mul _ (kv (c/16)) a.t,by rw[Int.natCast_mul,a.e];rfl⟩ d else
 ih (kr (c/16)) fun a d=>k ⟨a.n*kv (c/16),.mul _ (kv (c/16)) a.t,by rw[Int.natCast_mul,a.e,Int.mul_comm];rfl⟩ d) fuel
noncomputable def rI (fuel:Nat):Nat->(In ns is->Nat->Pn ns is)->Pn ns is:=Nat.rec (fun _ _=>.no) (fun f ih c k=>
 bif Nat.beq (c%16) 0 then k ⟨(List.rec (fun _=>0) (fun a _ ih j=>Nat.rec a (fun j _=>ih j) j) is (c/16%16):Int),.at _ (2*(c/16%16)+1),(CR ..).symm⟩ (c/256) else
 bif Nat.beq (c%16) 1 then k ⟨Int.ofNat (kv (c/16)),.lit _ (Int.ofNat (kv (c/16))),rfl⟩ (kr (c/16)) else
 bif Nat.beq (c%16) 2 then ih (c/16) fun a c=>ih c fun b c=>k ⟨a.i+b.i,.add _ a.t b.t,by rw[a.e,b.e];rfl⟩ c else
 bif Nat.beq (c%16) 3 then ih (kr (c/16)) fun a d=>k ⟨Int.ofNat (kv (c/16))*a.i,.mul _ (Int.ofNat (kv (c/16))) a.t,by rw[a.e];rfl⟩ d else
 bif Nat.beq (c%16) 4 then ih (kr (c/16)) fun a d=>k ⟨a.i*Int.ofNat (kv (c/16)),.mul _ (Int.ofNat (kv (c/16))) a.t,by rw[a.e,Int.mul_comm];rfl⟩ d else
 bif Nat.beq (c%16) 5 then ih (c/16) fun a c=>ih c fun b c=>k ⟨a.i-b.i,.add _ a.t (.mul _ (-1) b.t),by rw[a.e,b.e,Int.sub_eq_add_neg,Int.neg_eq_neg_one_mul];rfl⟩ c else
 bif Nat.beq (c%16) 6 then ih (c/16) fun a c=>k ⟨-a.i,.mul _ (-1) a.t,by rw[a.e,Int.neg_eq_neg_one_mul];rfl⟩ c else
 rN ns is f (c/16) fun a c=>k ⟨(a.n:Int),a.t,a.e⟩ c) fuel
noncomputable def rP (fuel:Nat):Nat->(Pn ns is->Nat->Pn ns is)->Pn ns is:=Nat.rec (fun _ _=>.no) (fun _ ih c k=>
 bif Nat.beq (c%16) 0 then rN ns is 30 (c/16) fun a c=>rN ns is 30 c fun b c=>k (.lt (p:=a.n<b.n) (a:=a.t) (b:=b.t) (by rw[<-a.e,<-b.e];exact Int.ofNat_lt.symm)) c else
 bif Nat.beq (c%16) 1 then rN ns is 30 (c/16) fun a c=>rN ns is 30 c fun b c=>k (.le (p:=a.n<=b.n) (a:=a.t) (b:=b.t) (by rw[<-a.e,<-b.e];exact Int.ofNat_le.symm)) c else
 bif Nat.beq (c%16) 2 then rN ns is 30 (c/16) fun a c=>rN ns is 30 c fun b c=>k (.eq (p:=a.n=b.n) (a:=a.t) (b:=b.t) (by rw[<-a.e,<-b.e];exact Int.ofNat_inj.symm)) c else
 bif Nat.beq (c%16) 3 then rI ns is 30 (c/16) fun a c=>rI ns is 30 c fun b c=>k (.lt (p:=a.i<b.i) (a:=a.t) (b:=b.t) (by rw[<-a.e,<-b.e])) c else
 bif Nat.beq (c%16) 4 then rI ns is 30 (c/16) fun a c=>rI ns is 30 c fun b c=>k (.le (p:=a.i<=b.i) (a:=a.t) (b:=b.t) (by rw[<-a.e,<-b.e])) c else
 bif Nat.beq (c%16) 5 then rI ns is 30 (c/16) fun a c=>rI ns is 30 c fun b c=>k (.eq (p:=a.i=b.i) (a:=a.t) (b:=b.t) (by rw[<-a.e,<-b.e])) c else
 bif Nat.beq (c%16) 6 then ih (c/16) fun a c=>ih c fun b c=>k (.and a b) c else
 bif Nat.beq (c%16) 7 then ih (c/16) fun a c=>ih c fun b c=>k (.or a b) c else
 bif Nat.beq (c%16) 8 then ih (c/16) fun a c=>ih c fun b c=>k (.imp a b) c else
 k .no (c/16)) fuel
noncomputable def cN (c:Nat):Pn ns is:=rP ns is 30 c fun p _=>p
noncomputable def BT (m:Nat):List Cn:=Nat.rec [] (fun i ih=>(false,0,u4 (2*i))::ih) m
theorem yM (m:Nat):∀c∈BT m,tB (nu ns is) 0 c:=by
 induction m with
 |zero=>exact nofun
 |succ m ih=>
  intro c hc;rcases List.mem_cons.mp hc with rfl|hc
  ·refine⟨?_,nofun⟩;show 0<=0+qe _ (u4 (2*m)) 0;rw[pO,Int.zero_add,Nat.zero_add,Ci];exact Int.natCast_nonneg _
  ·exact ih c hc
noncomputable def ck (c:Nat):Bool:=(cN ns is (c/256)).n.all fun b=>z7 (c%16) (b++BT (c/16%16))
theorem L (c:Nat) (ns:List Nat) (is:List Int) (h:ck ns is c=true):(cN ns is (c/256)).p:=
 Classical.byContradiction fun q=>by
  obtain⟨b,hb,hs⟩:=(cN ns is (c/256)).hn q
  exact u0 _ (List.all_eq_true.mp h b hb) fun d hd=>(List.mem_append.mp hd).elim (hs d) (yM ns is _ d)
theorem fs (a b:Nat):(b<=a/\a-b+b=a)\/(a<b/\a-b=0):=(Nat.lt_or_ge a b).elim (fun h=>.inr ⟨h,Nat.sub_eq_zero_of_le (Nat.le_of_lt h)⟩) fun h=>.inl ⟨h,Nat.sub_add_cancel h⟩
theorem ft (i:Int):(0<=i/\((i.toNat:Nat):Int)=i)\/(i<0/\i.toNat=0):=by
 cases i with
 |ofNat n=>exact .inl ⟨Int.natCast_nonneg n,rfl⟩
 |negSucc n=>exact .inr ⟨Int.negSucc_lt_zero n,rfl⟩
theorem fa (i:Int):(0<=i/\((i.natAbs:Nat):Int)=i)\/(i<0/\((i.natAbs:Nat):Int) = -i):=by
 cases i with
 |ofNat n=>exact .inl ⟨Int.natCast_nonneg n,rfl⟩
 |negSucc n=>exact .inr ⟨Int.negSucc_lt_zero n,rfl⟩
end
section
theorem L00 (x:Nat) (h:ck [] [] x=true):(cN [] [] (x/256)).p:=L x [] [] h
theorem L01 (x:Nat) {i:Int} (h:ck [] [i] x=true):(cN [] [i] (x/256)).p:=L x [] [i] h
theorem L02 (x:Nat) {i j:Int} (h:ck [] [i,j] x=true):(cN [] [i,j] (x/256)).p:=L x [] [i,j] h
theorem L03 (x:Nat) {i j k:Int} (h:ck [] [i,j,k] x=true):(cN [] [i,j,k] (x/256)).p:=L x [] [i,j,k] h
theorem L04 (x:Nat) {i j k l:Int} (h:ck [] [i,j,k,l] x=true):(cN [] [i,j,k,l] (x/256)).p:=L x [] [i,j,k,l] h
theorem L05 (x:Nat) {i j k l m:Int} (h:ck [] [i,j,k,l,m] x=true):(cN [] [i,j,k,l,m] (x/256)).p:=L x [] [i,j,k,l,m] h
theorem L06 (x:Nat) {i j k l m n:Int} (h:ck [] [i,j,k,l,m,n] x=true):(cN [] [i,j,k,l,m,n] (x/256)).p:=L x [] [i,j,k,l,m,n] h
theorem L10 (x:Nat) {a:Nat} (h:ck [a] [] x=true):(cN [a] [] (x/256)).p:=L x [a] [] h
theorem L11 (x:Nat) {a:Nat} {i:Int} (h:ck [a] [i] x=true):(cN [a] [i] (x/256)).p:=L x [a] [i] h
theorem L12 (x:Nat) {a:Nat} {i j:Int} (h:ck [a] [i,j] x=true):(cN [a] [i,j] (x/256)).p:=L x [a] [i,j] h
theorem L13 (x:Nat) {a:Nat} {i j k:Int} (h:ck [a] [i,j,k] x=true):(cN [a] [i,j,k] (x/256)).p:=L x [a] [i,j,k] h
theorem L14 (x:Nat) {a:Nat} {i j k l:Int} (h:ck [a] [i,j,k,l] x=true):(cN [a] [i,j,k,l] (x/256)).p:=L x [a] [i,j,k,l] h
theorem L20 (x:Nat) {a b:Nat} (h:ck [a,b] [] x=true):(cN [a,b] [] (x/256)).p:=L x [a,b] [] h
theorem L21 (x:Nat) {a b:Nat} {i:Int} (h:ck [a,b] [i] x=true):(cN [a,b] [i] (x/256)).p:=L x [a,b] [i] h
theorem L22 (x:Nat) {a b:Nat} {i j:Int} (h:ck [a,b] [i,j] x=true):(cN [a,b] [i,j] (x/256)).p:=L x [a,b] [i,j] h
theorem L24 (x:Nat) {a b:Nat} {i j k l:Int} (h:ck [a,b] [i,j,k,l] x=true):(cN [a,b] [i,j,k,l] (x/256)).p:=L x [a,b] [i,j,k,l] h
theorem L30 (x:Nat) {a b c:Nat} (h:ck [a,b,c] [] x=true):(cN [a,b,c] [] (x/256)).p:=L x [a,b,c] [] h
theorem L31 (x:Nat) {a b c:Nat} {i:Int} (h:ck [a,b,c] [i] x=true):(cN [a,b,c] [i] (x/256)).p:=L x [a,b,c] [i] h
theorem L40 (x:Nat) {a b c d:Nat} (h:ck [a,b,c,d] [] x=true):(cN [a,b,c,d] [] (x/256)).p:=L x [a,b,c,d] [] h
theorem L43 (x:Nat) {a b c d:Nat} {i j k:Int} (h:ck [a,b,c,d] [i,j,k] x=true):(cN [a,b,c,d] [i,j,k] (x/256)).p:=L x [a,b,c,d] [i,j,k] h
theorem L50 (x:Nat) {a b c d e:Nat} (h:ck [a,b,c,d,e] [] x=true):(cN [a,b,c,d,e] [] (x/256)).p:=L x [a,b,c,d,e] [] h
theorem L60 (x:Nat) {a b c d e f:Nat} (h:ck [a,b,c,d,e,f] [] x=true):(cN [a,b,c,d,e,f] [] (x/256)).p:=L x [a,b,c,d,e,f] [] h
end
end
section
noncomputable def pw:Program:=PySem.Challenge.rw_pf0048_01.prog
noncomputable def vw:Program:={ pw with main:={ pw.main with body:=((List.range 49).filter fun i=>!([0,2,4,9,17,25,29,31,42]:List Nat).contains i).filterMap fun i=>pw.main.body[i]? } }
theorem xy:(defOf vw PySem.Challenge.rw_pf0048_01.row.name).isSome=true:=by kernel_rfl
noncomputable def iB:DefRec:=((defOf vw PySem.Challenge.rw_pf0048_01.row.name).get xy).1
noncomputable def hk:Hook where
 α:=Option (Option (Option Value))×Option Obj
 obs s:=((s.heap.get? mainGlobals).map fun o=>nsIn [(mainGlobals,o)] mainGlobals ("R0":Str),s.heap.get? 64)
 val _:=(some (some (some (.ref 64))),some (seqObj "tuple" #[.int 0 262,.int 1 263] 0))
 says _ h:=∃o,h.get? mainGlobals=some o/\nsIn [(mainGlobals,o)] mainGlobals ("R0":Str)=some (some (.ref 64))/\h.get? 64=some (seqObj "tuple" #[.int 0 262,.int 1 263] 0)
 of w s e:=by
  obtain⟨e1,e2⟩:=Prod.mk.inj e;obtain⟨o,h1,h2⟩:=Option.map_eq_some_iff.mp e1;exact⟨o,h1,h2,e2⟩
 keeps w h h':=fun⟨o,h1,h2,h3⟩ k=>⟨o,k _ _ h1,h2,k _ _ h3⟩
noncomputable def xt (s:Shared):Bool:=xlAt vw [] s&&recOk [] s
theorem y7:LeftO pw vw [] xt hk.obs hk.val 3018:=fun w=>by kernel_rfl
noncomputable def lw:OpenLaw:=PySem.Challenge.rw_pf0048_01
theorem q2:((moduleNames lw.prog.main.body).isEmpty || lookedIntoSs (moduleNames lw.prog.main.body) lw.prog.main.body)=true:=by kernel_rfl
theorem q3:namesResolve lw.prog=true:=by kernel_rfl
theorem q5:noRoadLSs { strict:=!(importedModules lw.prog.main.body).all cThrough.contains,foot:=none,bare:=(["vars", "dir", "locals"]:List Str).filter (readsOut lw.prog lw.prog.main.body) } lw.prog.main.body=true:=by kernel_rfl
theorem q6:(namesMeet lw.prog lw.prog.main.body fun _ n=>attrL n)=true:=by kernel_rfl
theorem q7:noClassBlock lw.prog lw.footing=true:=by kernel_rfl
theorem q8:noRoadLSs { strict:=true,foot:=some lw.bound',writes:=lw.writes,may:=lw.may } lw.footing=true:=by kernel_rfl
theorem q9:(namesMeet lw.prog lw.footing (fun sc n=>(!(["type", "isinstance", "issubclass", "getattr", "hasattr"]:List Str).contains n || sc.names.lookup n==some .globalImplicit) &&
  (lw.may != some n || sc.kind==.module || sc.names.lookup n==some .globalImplicit)))=true:=by kernel_rfl
theorem Ac:(namesMeet lw.prog lw.above (fun _ n=>!lw.own.contains n))=true:=by kernel_rfl
theorem Ab:(namesMeet lw.prog lw.footing fun sc n=>sc.kind==.module || sc.names.lookup n != some .globalExplicit)=true:=by kernel_rfl
theorem C5:(lw.bound'.all (fun n=>!builtinNamed n || lw.about==[n] || !lw.reads n))=true:=by kernel_rfl
theorem vk:lw.row.wellSaid=true:=(look_both (look_both (look_both (look_both (look_both (look_both (look_both (look_both (look_both (look_both (look_both (look_both (look_both (look_both (look_both (look_both (look_both (look_both (look_both (look_both (by kernel_rfl) q2) q3) (by kernel_rfl)) q5) q6) (by kernel_rfl)) (by kernel_rfl)) (by kernel_rfl)) (by kernel_rfl)) (by kernel_rfl)) (by kernel_rfl)) (by kernel_rfl)) (by kernel_rfl)) (by kernel_rfl)) (by kernel_rfl)) (by kernel_rfl)) (by kernel_rfl)) (by kernel_rfl)) (by kernel_rfl)) (by kernel_rfl))
theorem yH:PySem.Challenge.rw_pf0048_01.wellSaid=true:=(look_both (look_both (look_both (look_both (look_both (look_both (look_both (look_both (look_both (look_both (look_both (look_both (look_both (look_both (look_both (look_both (look_both (look_both vk (by kernel_rfl)) (by kernel_rfl)) q7) (by kernel_rfl)) (by kernel_rfl)) q8) (by kernel_rfl)) (by kernel_rfl)) (by kernel_rfl)) C5) (by kernel_rfl)) (by kernel_rfl)) q9) (by kernel_rfl)) (by kernel_rfl)) (by kernel_rfl)) Ac) Ab)
theorem vH:(chainsOk vw&&opensWell pw&&(frees PySem.Challenge.rw_pf0048_01.row.toRowW&&PySem.Challenge.rw_pf0048_01.row.within.isEmpty))=true:=by kernel_rfl
theorem y8:defOf vw PySem.Challenge.rw_pf0048_01.row.name=some (iB,[]):=by kernel_rfl
theorem wn:pw.theDef PySem.Challenge.rw_pf0048_01.row.name=some (iB.params,iB.body,iB.scope):=by kernel_rfl
theorem Bf:kwWritten? iB.params.kwonlyargs iB.params.kw_defaults=some []:=by kernel_rfl
theorem zW:pw.bare:=⟨by kernel_rfl,by kernel_rfl,by kernel_rfl,by kernel_rfl,by kernel_rfl,by decide +kernel⟩
theorem Bj (walk:WalkO vw [] (XL vw []) hk.says PySem.Challenge.rw_pf0048_01.row.toRowW iB [] fun f vs=>PySem.call f vs):PySem.Challenge.rw_pf0048_01.Holds:=
 holds_law yH fun said=>holds_open (r:=PySem.Challenge.rw_pf0048_01.row) (q:=vw) (loose:=[]) (Xt:=xt) (XP:=XL vw []) (N:=3018) y7 hk.of hk.keeps
  (fun s e=>xl_of s (Bool.and_eq_true_iff.mp e).1) XL.keeps y8 wn Bf (fun s e=>recFacts_of (Bool.and_eq_true_iff.mp e).2) (by kernel_rfl) said vH zW (by w_witness2) walk
end
section
set_option genInjectivity true in
inductive D where
 |none
 |bool (b:Bool)
 |int (i:Int)
 |str (s:Str)
 |tup (ds:List D)
 |ref (n:Nat)
 |fro (ds:List D)
set_option genInjectivity true in
inductive AO where
 |list (ds:List D) (v:Nat)
 |dict (es:List (List Int×D)) (v:Nat)
noncomputable def AO.ver:AO->Nat
 | .list _ v=>v
 | .dict _ v=>v
noncomputable abbrev St:=List AO
noncomputable abbrev aB:=List (Option D)
noncomputable def aG:List D->Option (List Int)
 | []=>some []
 | .int i::r=>(aG r).map (i::·)
 |_=>none
noncomputable def ae (k:List Int):D:=.tup (k.map .int)
noncomputable abbrev Es:=List (List Int×D)
noncomputable def aU (es:Es) (k:List Int):Option D:=(es.find? fun e=>decide (e.1=k)).map (·.2)
noncomputable def bZ (es:Es) (k:List Int) (d:D):Es:=
 if (aU es k).isSome then es.map (fun e=>if e.1=k then (e.1,d) else e) else es++[(k,d)]
noncomputable def dT (es:Es) (k:List Int):Es:=es.filter fun e=>decide (e.1≠k)
noncomputable def kj (k:List Int):Int:=reduceHash (Builtin.Tuple.tupleHashOf (k.map hashInt))
noncomputable def dK (es:Es):Bool:=decide (es.map fun e=>kj e.1).Nodup
noncomputable def de (f:D->D->Option Bool):List D->List D->Option Bool
 | [],[]=>some true
 |x::xr,y::yr=>match f x y,de f xr yr with
  |some a,some b=>some (a&&b)
  |_,_=>none
 |_,_=>none
noncomputable def jv (f:D->D->Option Bool) (fs:Es):Es->Option Bool
 | []=>some true
 |(k,x)::r=>match aU fs k with
  |none=>some false
  |some y=>match f x y,jv f fs r with
   |some a,some b=>some (a&&b)
   |_,_=>none
noncomputable def cY (J:St):Nat->D->D->Option Bool
 |0,_,_=>none
 |n+1,a,b=>match a,b with
  | .none,.none=>some true
  | .bool x,.bool y=>some (x==y)
  | .int x,.int y=>some (x==y)
  | .str x,.str y=>some (x==y)
  | .tup xs,.tup ys=>if xs.length=ys.length then de (cY J n) xs ys else none
  | .ref i,.ref j=>if i=j then some true else
   match J[i]?,J[j]? with
   |some (.list xs _),some (.list ys _)=>if xs.length=ys.length then de (cY J n) xs ys else some false
   |some (.dict es _),some (.dict fs _)=>if es.length=fs.length then jv (cY J n) fs es else some false
   |_,_=>none
  |_,_=>none
noncomputable def gC (eq lt:D->D->Option Bool):List D->List D->Option Bool
 |x::xr,y::yr=>match eq x y with
  |some true=>gC eq lt xr yr
  |some false=>lt x y
  |none=>none
 | [],[]=>some false
 | [],_::_=>some true
 |_::_,[]=>some false
noncomputable def lA (J:St):Nat->D->D->Option Bool
 |0,_,_=>none
 |n+1,a,b=>match a,b with
  | .int x,.int y=>some (decide (x<y))
  | .tup xs,.tup ys=>gC (cY J n) (lA J n) xs ys
  | .ref i,.ref j=>match J[i]?,J[j]? with
   |some (.list xs _),some (.list ys _)=>gC (cY J n) (lA J n) xs ys
   |_,_=>none
  |_,_=>none
noncomputable def eX:List Int->List Int->Bool
 |x::xr,y::yr=>if x=y then eX xr yr else decide (x>y)
 |_::_,[]=>true
 |_,_=>false
noncomputable def CF:Nat:=8
noncomputable def qt {α:Type} (ask:Nat->Nat->Option Bool) (t:KasT α):Option α:=
 KasT.rec some (fun i j _ ih=>match ask i j with
  |some b=>ih b
  |none=>none) t
noncomputable def eQ (ds:List D):Bool:=
 ds.all (fun d=>match d with | .tup (.int _::_)=>true|_=>false) || ds.all (fun d=>match d with | .tup (.tup _::_)=>true|_=>false)
noncomputable def bS (J:St) (ds:List D):Option (List D):=
 if ds.length<2 then some ds
 else if ds.length<64&&eQ ds then
  (qt (fun i j=>match ds[i]?,ds[j]? with|some a,some b=>lA J CF a b|_,_=>none) (kas_sort ds.length)).map fun p=>
   p.toList.map fun i=>ds.getD i .none
 else none
inductive uR where|add|sub|mul|fdiv|mod|pow
inductive z5 where|eq|ne|lt|gt|isin|ke
noncomputable def ay:Nat:=2^20
noncomputable def dW (op:uR) (a b:D) (J:St):Option (D×St):=
 match op,a,b with
 | .add,.int x,.int y=>some (.int (x+y),J)
 | .sub,.int x,.int y=>some (.int (x-y),J)
 | .mul,.int x,.int y=>if x.natAbs<2^63\/y.natAbs<2^63 then some (.int (x*y),J) else none
 | .fdiv,.int x,.int y=>if y≠0/\y.natAbs<2^30 then some (.int (x.fdiv y),J) else none
 | .mod,.int x,.int y=>if y≠0 then some (.int (x.fmod y),J) else none
 | .pow,.int x,.int y=>if x=2/\0<=y/\y<64 then some (.int (x^y.toNat),J) else none
 | .add,.tup xs,.tup ys=>if xs.length+ys.length<ay then some (.tup (xs++ys),J) else none
 | .add,.ref i,.ref j=>match J[i]?,J[j]? with
  |some (.list xs _),some (.list ys _)=>if xs.length+ys.length<ay then some (.ref J.length,J++[.list (xs++ys) 0]) else none
  |_,_=>none
 |_,_,_=>none
noncomputable def cP (op:z5) (a b:D) (J:St):Option Bool:=
 match op with
 | .eq=>match a,b with
  | .ref i,.ref j=>if i=j then none else cY J CF a b
  |_,_=>cY J CF a b
 | .ne=>match a,b with
  | .ref i,.ref j=>if i=j then none else (cY J CF a b).map (!·)
  |_,_=>(cY J CF a b).map (!·)
 | .lt=>match a,b with
  | .int x,.int y=>some (decide (x<y))
  |_,_=>none
 | .gt=>match a,b with
  | .int x,.int y=>some (decide (x>y))
  | .tup xs,.tup ys=>match aG xs,aG ys with
   |some p,some q=>some (eX p q)
   |_,_=>none
  |_,_=>none
 | .isin=>match a,b with
  | .tup xs,.ref i=>match J[i]?,aG xs with
   |some (.dict es _),some k=>some (aU es k).isSome
   |_,_=>none
  |_,_=>none
 | .ke=>match a,b with
  | .ref _,.ref i=>match J[i]? with
   |some (.list ds _)=>(anyEq J a ds).map (!·)
   |_=>none
  |_,_=>none
where
 anyEq (J:St) (a:D):List D->Option Bool
  | []=>some false
  |d::r=>match cY J CF d a,anyEq J a r with
   |some p,some q=>some (p || q)
   |_,_=>none
noncomputable def bG:D->Option Bool
 | .none=>some false
 | .bool b=>some b
 | .int i=>some (i != 0)
 |_=>none
noncomputable def bo (J:St) (o i:D):Option D:=
 match o,i with
 | .tup ds,.int k=>if 0<=k/\k<(ay:Int) then ds[k.toNat]? else none
 | .ref r,.int k=>match J[r]? with
  |some (.list ds _)=>if 0<=k/\k<(ay:Int) then ds[k.toNat]? else none
  |_=>none
 | .ref r,.tup ks=>match J[r]?,aG ks with
  |some (.dict es _),some k=>aU es k
  |_,_=>none
 |_,_=>none
noncomputable def ic (J:St) (o i v:D):Option St:=
 match o,i with
 | .ref r,.int k=>match J[r]? with
  |some (.list ds w)=>if 0<=k/\k<(ay:Int)/\k.toNat<ds.length then some (J.set r (.list (ds.set k.toNat v) (w+1))) else none
  |_=>none
 | .ref r,.tup ks=>match J[r]?,aG ks with
  |some (.dict es w),some k=>if es.length<ay then some (J.set r (.dict (bZ es k v) (w+1))) else none
  |_,_=>none
 |_,_=>none
noncomputable def fM (J:St):D->Option Int
 | .tup ds=>if ds.length<ay then some ds.length else none
 | .ref r=>match J[r]? with
  |some (.list ds _)=>if ds.length<ay then some ds.length else none
  |some (.dict es _)=>if es.length<ay then some es.length else none
  |none=>none
 |_=>none
noncomputable def yj:List D->Option Int
 |ds=>(aG ds).map fun is=>is.foldl (·+·) 0
noncomputable def tV:List D->Option Int
 |ds=>match aG ds with
  |some (i::r)=>some (r.foldl (fun m x=>if x>m then x else m) i)
  |_=>none
noncomputable def du (a b:Int):List D:=(List.range (b-a).toNat).map fun(i:Nat)=>D.int (a+(i:Int))
noncomputable def b8:Nat->List D->List D
 |_,[]=>[]
 |n,d::r=>.tup [.int n,d]::b8 (n+1) r
noncomputable def dX:Es->List D->Option Es
 |acc,[]=>some acc
 |acc,.tup [.tup ks,v]::r=>match aG ks with
  |some k=>if acc.length<ay then dX (bZ acc k v) r else none
  |none=>none
 |_,_=>none
noncomputable def ef (J:St) (r:Nat):Bool:=match J[r]? with
 |some (.list _ _)=>true
 |_=>false
noncomputable def eh (J:St) (r:Nat):Bool:=match J[r]? with
 |some (.dict _ _)=>true
 |_=>false
inductive X where
 |fail
 |lit (d:D)
 |var (i:Nat)
 |bin (op:uR) (a b:X)
 |neg (a:X)
 |cmp (op:z5) (a b:X)
 |isn (a:X)
 |notn (a:X)
 |and (a b:X)
 |or (a b:X)
 |not (a:X)
 |ite (c a b:X)
 |call (f:Nat) (args:X)
 |af
 |aa (x xs:X)
 |tup (xs:X)
 |dict (kvs:X)
 |idx (o i:X)
 |abs (a:X)
 |len (a:X)
 |sum (a:X)
 |max2 (a b:X)
 |rep (x n:X)
 |get2 (o k d:X)
 |pop2 (o k:X)
 |pop1 (o k:X)
 |ii (o k:X)
 |append (o v:X)
 |extend (o:X) (L:X)
 |sort (o:X)
 |cU (o:X)
 |sorted (o:X)
 |dictOf (o:X)
 |cI (L:X)
 |fN (L:X)
 |ik (L:X)
 |jg (L:X)
 |gm (L:X)
 |lst (L:X)
 |jd (a:X)
 |gj (L:X)
 |ff (k v:X) (ts:List Nat) (many:Bool) (it:X) (ifs:Option X)
 |aE (e:X) (ts:List Nat) (many:Bool) (it:X) (ifs:Option X)
 |cC (xs:X)
 |lsl (o:X) (lo hi:Option Nat)
 |qV (o:X)
 |ix (a:X)
 |dc (a:X)
 |cD (a b:X)
inductive XS where
 |fail
 |nil
 |seq (a b:XS)
 |asg (i:Nat) (e:X)
 |eM (is:List Nat) (e:X)
 |set (o k v:X)
 |aug (o k:X) (op:uR) (v:X)
 |expr (e:X)
 |ifs (c:X) (a b:XS)
 |whl (c:X) (b:XS)
 |for_ (ts:List Nat) (many:Bool) (it:X) (b:XS)
 |ret (e:X)
 |cont
inductive Fl where
 |next|cont|ret (d:D)
noncomputable def aw (ts:List Nat) (many:Bool) (d:D) (l:aB):Option aB:=
 if many then match d with
  | .tup ds=>if ds.length=ts.length then some ((ts.zip ds).foldl (fun l p=>l.set p.1 (some p.2)) l) else none
  |_=>none
 else match ts with
  | [i]=>some (l.set i (some d))
  |_=>none
noncomputable abbrev f9:=Option (Nat×Nat)
noncomputable def aI (src:f9) (J:St):Bool:=
 match src with
 |none=>true
 |some (i,v)=>match J[i]? with
  |some p=>Nat.beq p.ver v
  |none=>false
noncomputable def aY (bind:D->aB->Option aB) (test:aB->St->Option (Bool×St)) (elt:aB->St->Option (D×St)) (src:f9) (l:aB):List D->St->Option (List D×St)
 | [],J=>some ([],J)
 |d::ds,J=>match bind d l with
  |none=>none
  |some l'=>match test l' J with
   |none=>none
   |some (false,J1)=>if aI src J1 then aY bind test elt src l ds J1 else none
   |some (true,J1)=>match elt l' J1 with
    |none=>none
    |some (e,J2)=>if aI src J2 then
      match aY bind test elt src l ds J2 with
      |some (es,J3)=>some (e::es,J3)
      |none=>none
     else none
noncomputable def bf (bind:D->aB->Option aB) (test:aB->St->Option (Bool×St)) (key val:aB->St->Option (D×St)) (src:f9) (l:aB):List D->Es->St->Option (Es×St)
 | [],es,J=>some (es,J)
 |d::ds,es,J=>match bind d l with
  |none=>none
  |some l'=>match test l' J with
   |none=>none
   |some (false,J1)=>if aI src J1 then bf bind test key val src l ds es J1 else none
   |some (true,J1)=>match key l' J1 with
    |some (.tup ks,J2)=>match aG ks with
     |none=>none
     |some k=>match val l' J2 with
      |none=>none
      |some (v,J3)=>if aI src J3&&decide (es.length<ay) then bf bind test key val src l ds (bZ es k v) J3 else none
    |_=>none
noncomputable def a9 (bind:D->aB->Option aB) (body:aB->St->Option (Fl×aB×St)) (src:f9):List D->aB->St->Option (Fl×aB×St)
 | [],l,J=>some (.next,l,J)
 |d::ds,l,J=>match bind d l with
  |none=>none
  |some l1=>match body l1 J with
   |none=>none
   |some (.ret r,l2,J2)=>some (.ret r,l2,J2)
   |some (_,l2,J2)=>if aI src J2 then a9 bind body src ds l2 J2 else none
noncomputable def cr (test:aB->St->Option (Bool×St)) (body:aB->St->Option (Fl×aB×St)):Nat->aB->St->Option (Fl×aB×St)
 |0,_,_=>none
 |n+1,l,J=>match test l J with
  |none=>none
  |some (false,J1)=>some (.next,l,J1)
  |some (true,J1)=>match body l J1 with
   |none=>none
   |some (.ret r,l2,J2)=>some (.ret r,l2,J2)
   |some (_,l2,J2)=>cr test body n l2 J2
noncomputable def nZ (J:St):D->Option (List D×f9)
 | .tup ds=>some (ds,none)
 | .ref r=>match J[r]? with
  |some (.list ds w)=>some (ds,some (r,w))
  |some (.dict es w)=>some (es.map fun e=>ae e.1,some (r,w))
  |none=>none
 |_=>none
noncomputable def eF:List D->Es->Option Es
 | [],es=>some es
 | .tup ks::v::r,es=>match aG ks with
  |some k=>eF r (bZ es k v)
  |none=>none
 |_,_=>none
mutual
noncomputable def ev (C:Nat->List D->St->Option (D×St)):X->aB->St->Option (D×St)
 | .lit d,_,J=>some (d,J)
 | .var i,l,J=>match l[i]? with
  |some (some d)=>some (d,J)
  |_=>none
 | .bin op a b,l,J=>match ev C a l J with
  |some (x,J1)=>match ev C b l J1 with
   |some (y,J2)=>dW op x y J2
   |none=>none
  |none=>none
 | .neg a,l,J=>match ev C a l J with
  |some (.int x,J1)=>some (.int (-x),J1)
  |_=>none
 | .cmp op a b,l,J=>match ev C a l J with
  |some (x,J1)=>match ev C b l J1 with
   |some (y,J2)=>match cP op x y J2 with
    |some r=>some (.bool r,J2)
    |none=>none
   |none=>none
  |none=>none
 | .isn a,l,J=>match ev C a l J with
  |some (.none,J1)=>some (.bool true,J1)
  |some (_,J1)=>some (.bool false,J1)
  |none=>none
 | .notn a,l,J=>match ev C a l J with
  |some (.none,J1)=>some (.bool false,J1)
  |some (_,J1)=>some (.bool true,J1)
  |none=>none
 | .and a b,l,J=>match ev C a l J with
  |some (x,J1)=>match bG x with
   |some true=>ev C b l J1
   |some false=>some (x,J1)
   |none=>none
  |none=>none
 | .or a b,l,J=>match ev C a l J with
  |some (x,J1)=>match bG x with
   |some false=>ev C b l J1
   |some true=>some (x,J1)
   |none=>none
  |none=>none
 | .not a,l,J=>match ev C a l J with
  |some (x,J1)=>match bG x with
   |some r=>some (.bool (!r),J1)
   |none=>none
  |none=>none
 | .ite c a b,l,J=>match ev C c l J with
  |some (x,J1)=>match bG x with
   |some true=>ev C a l J1
   |some false=>ev C b l J1
   |none=>none
  |none=>none
 | .call f xs,l,J=>match iU C xs l J with
  |some (ds,J1)=>C f ds J1
  |none=>none
 | .tup xs,l,J=>match iU C xs l J with
  |some (ds,J1)=>if ds.length<ay then some (.tup ds,J1) else none
  |none=>none
 | .dict kvs,l,J=>match iU C kvs l J with
  |some (ds,J1)=>if ds.length<16 then match eF ds [] with
    |some es=>some (.ref J1.length,J1++[.dict es 0])
    |none=>none
   else none
  |none=>none
 | .idx o i,l,J=>match ev C o l J with
  |some (x,J1)=>match ev C i l J1 with
   |some (y,J2)=>match bo J2 x y with
    |some d=>some (d,J2)
    |none=>none
   |none=>none
  |none=>none
 | .abs a,l,J=>match ev C a l J with
  |some (.int x,J1)=>some (.int (if x<0 then -x else x),J1)
  |_=>none
 | .len a,l,J=>match ev C a l J with
  |some (x,J1)=>match fM J1 x with
   |some n=>some (.int n,J1)
   |none=>none
  |none=>none
 | .sum a,l,J=>match ev C a l J with
  |some (.tup ds,J1)=>match yj ds with
   |some n=>some (.int n,J1)
   |none=>none
  |_=>none
 | .max2 a b,l,J=>match ev C a l J with
  |some (.int x,J1)=>match ev C b l J1 with
   |some (.int y,J2)=>some (.int (if y>x then y else x),J2)
   |_=>none
  |_=>none
 | .rep a n,l,J=>match ev C a l J with
  |some (x,J1)=>match ev C n l J1 with
   |some (.int k,J2)=>if k.natAbs<ay then some (.ref J2.length,J2++[.list (List.replicate k.toNat x) 0]) else none
   |_=>none
  |none=>none
 | .get2 o k d,l,J=>match ev C o l J with
  |some (.ref r,J1)=>if eh J1 r then match ev C k l J1 with
   |some (.tup ks,J2)=>match ev C d l J2 with
    |some (x,J3)=>match J3[r]?,aG ks with
     |some (.dict es _),some kk=>some ((aU es kk).getD x,J3)
     |_,_=>none
    |none=>none
   |_=>none
   else none
  |_=>none
 | .pop2 o k,l,J=>match ev C o l J with
  |some (.ref r,J1)=>if eh J1 r then match ev C k l J1 with
   |some (.tup ks,J2)=>match J2[r]?,aG ks with
    |some (.dict es w),some kk=>if es.length<ay then some ((aU es kk).getD .none,J2.set r (.dict (dT es kk) (w+1))) else none
    |_,_=>none
   |_=>none
   else none
  |_=>none
 | .pop1 o k,l,J=>match ev C o l J with
  |some (.ref r,J1)=>if eh J1 r then match ev C k l J1 with
   |some (.tup ks,J2)=>match J2[r]?,aG ks with
    |some (.dict es w),some kk=>match aU es kk with
     |some x=>if es.length<ay then some (x,J2.set r (.dict (dT es kk) (w+1))) else none
     |none=>none
    |_,_=>none
   |_=>none
   else none
  |_=>none
 | .ii o k,l,J=>match ev C o l J with
  |some (.ref r,J1)=>if ef J1 r then match ev C k l J1 with
   |some (.int i,J2)=>match J2[r]? with
    |some (.list ds w)=>if 0<=i/\i<(ay:Int)/\ds.length<ay then match ds[i.toNat]? with
      |some x=>some (x,J2.set r (.list (ds.eraseIdx i.toNat) (w+1)))
      |none=>none
     else none
    |_=>none
   |_=>none
   else none
  |_=>none
 | .append o v,l,J=>match ev C o l J with
  |some (.ref r,J1)=>if ef J1 r then match ev C v l J1 with
   |some (x,J2)=>match J2[r]? with
    |some (.list ds w)=>if ds.length<ay then some (.none,J2.set r (.list (ds++[x]) (w+1))) else none
    |_=>none
   |none=>none
   else none
  |_=>none
 | .extend o L,l,J=>match ev C o l J with
  |some (.ref r,J1)=>if ef J1 r then match di C L l J1 with
   |some (xs,J2)=>match J2[r]? with
    |some (.list ds w)=>if ds.length+xs.length<ay then some (.none,J2.set r (.list (ds++xs) (w+1))) else none
    |_=>none
   |none=>none
   else none
  |_=>none
 | .sort o,l,J=>match ev C o l J with
  |some (.ref r,J1)=>match J1[r]? with
   |some (.list ds w)=>match bS (J1.set r (.list [] (w+1))) ds with
    |some es=>some (.none,J1.set r (.list es (w+1)))
    |none=>none
   |_=>none
  |_=>none
 | .cU o,l,J=>match ev C o l J with
  |some (.ref r,J1)=>match J1[r]? with
   |some (.dict es _)=>match bS J1 (es.map fun e=>.tup [ae e.1,e.2]) with
    |some ds=>some (.ref J1.length,J1++[.list ds 0])
    |none=>none
   |_=>none
  |_=>none
 | .sorted o,l,J=>match ev C o l J with
  |some (.ref r,J1)=>match J1[r]? with
   |some (.list ds _)=>match bS J1 ds with
    |some es=>some (.ref J1.length,J1++[.list es 0])
    |none=>none
   |_=>none
  |_=>none
 | .dictOf o,l,J=>match ev C o l J with
  |some (.ref r,J1)=>match J1[r]? with
   |some (.dict es _)=>if es.length<ay/\dK es=true then some (.ref J1.length,J1++[.dict es 0]) else none
   |_=>none
  |_=>none
 | .cI L,l,J=>match di C L l J with
  |some (ds,J1)=>match dX [] ds with
   |some es=>some (.ref J1.length,J1++[.dict es 0])
   |none=>none
  |none=>none
 | .fN L,l,J=>match di C L l J with
  |some (ds,J1)=>if ds.length<ay then some (.tup ds,J1) else none
  |none=>none
 | .ik L,l,J=>match di C L l J with
  |some (ds,J1)=>match tV ds with
   |some n=>some (.int n,J1)
   |none=>none
  |none=>none
 | .jg L,l,J=>match di C L l J with
  |some (ds,J1)=>if ds.length<ay then some (.int ds.length,J1) else none
  |none=>none
 | .gm L,l,J=>match di C L l J with
  |some (ds,J1)=>if ds.length<ay then some (.ref J1.length,J1++[.list ds 0]) else none
  |none=>none
 | .lst L,l,J=>match di C L l J with
  |some (ds,J1)=>some (.ref J1.length,J1++[.list ds 0])
  |none=>none
 | .jd a,l,J=>match ev C a l J with
  |some (.ref r,J1)=>match J1[r]? with
   |some (.list ds _)=>some (.bool (!ds.isEmpty),J1)
   |_=>none
  |_=>none
 | .gj L,l,J=>match di C L l J with
  |some (ds,J1)=>some (.bool (!ds.isEmpty),J1)
  |none=>none
 | .ff k v ts many it none,l,J=>match eA C it l J with
  |some (ds,src,J1)=>match bf (aw ts many) (fun _ J=>some (true,J)) (ev C k) (ev C v) src l ds [] J1 with
   |some (es,J2)=>some (.ref J2.length,J2++[.dict es 0])
   |none=>none
  |none=>none
 | .ff k v ts many it (some c),l,J=>match eA C it l J with
  |some (ds,src,J1)=>match bf (aw ts many) (fun l J=>match ev C c l J with|some (x,J1)=>(bG x).map fun b=>(b,J1)|none=>none) (ev C k) (ev C v) src l ds [] J1 with
   |some (es,J2)=>some (.ref J2.length,J2++[.dict es 0])
   |none=>none
  |none=>none
 | .fail,_,_=>none
 | .af,_,_=>none
 | .aa _ _,_,_=>none
 | .aE _ _ _ _ _,_,_=>none
 | .cC _,_,_=>none
 | .lsl _ _ _,_,_=>none
 | .qV _,_,_=>none
 | .ix _,_,_=>none
 | .dc _,_,_=>none
 | .cD _ _,_,_=>none
noncomputable def iU (C:Nat->List D->St->Option (D×St)):X->aB->St->Option (List D×St)
 | .af,_,J=>some ([],J)
 | .aa x xs,l,J=>match ev C x l J with
  |some (d,J1)=>match iU C xs l J1 with
   |some (ds,J2)=>some (d::ds,J2)
   |none=>none
  |none=>none
 |_,_,_=>none
noncomputable def di (C:Nat->List D->St->Option (D×St)):X->aB->St->Option (List D×St)
 | .aE e ts many it none,l,J=>match eA C it l J with
  |some (ds,src,J1)=>if ds.length<ay then aY (aw ts many) (fun _ J=>some (true,J)) (ev C e) src l ds J1 else none
  |none=>none
 | .aE e ts many it (some c),l,J=>match eA C it l J with
  |some (ds,src,J1)=>if ds.length<ay then aY (aw ts many) (fun l J=>match ev C c l J with|some (x,J1)=>(bG x).map fun b=>(b,J1)|none=>none) (ev C e) src l ds J1 else none
  |none=>none
 | .cC xs,l,J=>match iU C xs l J with
  |some (ds,J1)=>if ds.length<ay then some (ds,J1) else none
  |none=>none
 | .lsl o lo hi,l,J=>match ev C o l J with
  |some (.fro ds,J1)=>if ds.length<ay then some ((ds.take (hi.getD ds.length)).drop (lo.getD 0),J1) else none
  |some (.ref r,J1)=>match J1[r]? with
   |some (.list ds _)=>if ds.length<ay then some ((ds.take (hi.getD ds.length)).drop (lo.getD 0),J1) else none
   |_=>none
  |_=>none
 | .qV o,l,J=>match ev C o l J with
  |some (.ref r,J1)=>match J1[r]? with
   |some (.list ds _)=>some (ds,J1)
   |_=>none
  |_=>none
 |_,_,_=>none
noncomputable def eA (C:Nat->List D->St->Option (D×St)):X->aB->St->Option (List D×f9×St)
 | .ix a,l,J=>match ev C a l J with
  |some (x,J1)=>match nZ J1 x with
   |some (ds,src)=>some (ds,src,J1)
   |none=>none
  |none=>none
 | .dc a,l,J=>match ev C a l J with
  |some (.tup ds,J1)=>some (b8 0 ds,none,J1)
  |some (.ref r,J1)=>match J1[r]? with
   |some (.list ds w)=>some (b8 0 ds,some (r,w),J1)
   |_=>none
  |_=>none
 | .cD a b,l,J=>match ev C a l J with
  |some (.int x,J1)=>match ev C b l J1 with
   |some (.int y,J2)=>if x.natAbs<ay/\y.natAbs<ay then some (du x y,none,J2) else none
   |_=>none
  |_=>none
 |_,_,_=>none
end
noncomputable def iV (C:Nat->List D->St->Option (D×St)) (c:X) (l:aB) (J:St):Option (Bool×St):=
 match ev C c l J with
 |some (x,J1)=>(bG x).map fun b=>(b,J1)
 |none=>none
noncomputable def aP (C:Nat->List D->St->Option (D×St)) (W:Nat):XS->aB->St->Option (Fl×aB×St)
 | .fail,_,_=>none
 | .nil,l,J=>some (.next,l,J)
 | .seq a b,l,J=>match aP C W a l J with
  |some (.next,l1,J1)=>aP C W b l1 J1
  |r=>r
 | .asg i e,l,J=>match ev C e l J with
  |some (d,J1)=>some (.next,l.set i (some d),J1)
  |none=>none
 | .eM is e,l,J=>match ev C e l J with
  |some (d,J1)=>match aw is true d l with
   |some l1=>some (.next,l1,J1)
   |none=>none
  |none=>none
 | .set o k v,l,J=>match ev C v l J with
  |some (x,J1)=>match ev C o l J1 with
   |some (od,J2)=>match ev C k l J2 with
    |some (kd,J3)=>match ic J3 od kd x with
     |some J4=>some (.next,l,J4)
     |none=>none
    |none=>none
   |none=>none
  |none=>none
 | .aug o k op v,l,J=>match ev C o l J with
  |some (od,J1)=>match ev C k l J1 with
   |some (kd,J2)=>match bo J2 od kd with
    |some (.int old)=>match ev C v l J2 with
     |some (.int y,J3)=>match dW op (.int old) (.int y) J3 with
      |some (r,J4)=>match ic J4 od kd r with
       |some J5=>some (.next,l,J5)
       |none=>none
      |none=>none
     |_=>none
    |_=>none
   |none=>none
  |none=>none
 | .expr e,l,J=>match ev C e l J with
  |some (_,J1)=>some (.next,l,J1)
  |none=>none
 | .ifs c a b,l,J=>match iV C c l J with
  |some (true,J1)=>aP C W a l J1
  |some (false,J1)=>aP C W b l J1
  |none=>none
 | .whl c b,l,J=>cr (iV C c) (aP C W b) W l J
 | .for_ ts many it b,l,J=>match eA C it l J with
  |some (ds,src,J1)=>a9 (aw ts many) (aP C W b) src ds l J1
  |none=>none
 | .ret e,l,J=>match ev C e l J with
  |some (d,J1)=>some (.ret d,l,J1)
  |none=>none
 | .cont,l,J=>some (.cont,l,J)
structure Fn where
 nargs:Nat
 nslots:Nat
 body:XS
noncomputable def ab (FT:List Fn) (W:Nat):Nat->Nat->List D->St->Option (D×St)
 |0,_,_,_=>none
 |n+1,f,ds,J=>match FT[f]? with
  |none=>none
  |some fn=>if ds.length=fn.nargs then
    match aP (ab FT W n) W fn.body (ds.map some++List.replicate (fn.nslots-fn.nargs) none) J with
    |some (.ret d,_,J1)=>some (d,J1)
    |some (.next,_,J1)=>some (.none,J1)
    |_=>none
   else none
end
section
noncomputable def D.isNone (d:D):Bool:=D.casesOn d true (fun _=>false) (fun _=>false) (fun _=>false) (fun _=>false) (fun _=>false) fun _=>false
section
variable {γ:Type} {P:Prop} {z:γ}
theorem cB {o:Option (D×St)} {f:D->St->Option γ} (k:∀x J1,o=some (x,J1)->f x J1=some z->P):(match (generalizing:=false) o with|some (x,J1)=>f x J1|none=>none)=some z->P:=
 match o,k with
 |none,_=>nofun
 |some (x,J1),k=>fun h=>k x J1 rfl h
theorem gy {o:Option (D×St)} {f:Nat->St->Option γ} (k:∀r J1,o=some (.ref r,J1)->f r J1=some z->P):(match (generalizing:=false) o with|some (.ref r,J1)=>f r J1|_=>none)=some z->P:=by
 cases o with
 |none=>exact nofun
 |some p=>
  obtain⟨x,J1⟩:=p
  cases x with
  |ref r=>exact fun h=>k r J1 rfl h
  |_=>exact nofun
theorem ja {o:Option (D×St)} {f:Int->St->Option γ} (k:∀r J1,o=some (.int r,J1)->f r J1=some z->P):(match (generalizing:=false) o with|some (.int r,J1)=>f r J1|_=>none)=some z->P:=by
 cases o with
 |none=>exact nofun
 |some p=>
  obtain⟨x,J1⟩:=p
  cases x with
  |int r=>exact fun h=>k r J1 rfl h
  |_=>exact nofun
theorem oW {o:Option (D×St)} {f:List D->St->Option γ} (k:∀r J1,o=some (.tup r,J1)->f r J1=some z->P):(match (generalizing:=false) o with|some (.tup r,J1)=>f r J1|_=>none)=some z->P:=by
 cases o with
 |none=>exact nofun
 |some p=>
  obtain⟨x,J1⟩:=p
  cases x with
  |tup r=>exact fun h=>k r J1 rfl h
  |_=>exact nofun
theorem jb {o:Option (List D×St)} {f:List D->St->Option γ} (k:∀x J1,o=some (x,J1)->f x J1=some z->P):(match (generalizing:=false) o with|some (x,J1)=>f x J1|none=>none)=some z->P:=
 match o,k with
 |none,_=>nofun
 |some (x,J1),k=>fun h=>k x J1 rfl h
theorem vM {o:Option (List D×f9×St)} {f:List D->f9->St->Option γ} (k:∀x src J1,o=some (x,src,J1)->f x src J1=some z->P):(match (generalizing:=false) o with|some (x,src,J1)=>f x src J1|none=>none)=some z->P:=
 match o,k with
 |none,_=>nofun
 |some (x,src,J1),k=>fun h=>k x src J1 rfl h
theorem Cg {o:Option (Bool×St)} {f g:St->Option γ} (k:∀b J1,o=some (b,J1)->(if b then f J1 else g J1)=some z->P):(match (generalizing:=false) o with|some (true,J1)=>f J1|some (false,J1)=>g J1|none=>none)=some z->P:=
 match o,k with
 |none,_=>nofun
 |some (true,J1),k=>fun h=>k true J1 rfl h
 |some (false,J1),k=>fun h=>k false J1 rfl h
theorem CP {o:Option D} {f:D->Option γ} (k:∀x,o=some x->f x=some z->P):(match (generalizing:=false) o with|some x=>f x|none=>none)=some z->P:=
 match o,k with
 |none,_=>nofun
 |some x,k=>fun h=>k x rfl h
theorem CO {o:Option Int} {f:Int->Option γ} (k:∀x,o=some x->f x=some z->P):(match (generalizing:=false) o with|some x=>f x|none=>none)=some z->P:=
 match o,k with
 |none,_=>nofun
 |some x,k=>fun h=>k x rfl h
theorem CQ {o:Option Bool} {f:Bool->Option γ} (k:∀x,o=some x->f x=some z->P):(match (generalizing:=false) o with|some x=>f x|none=>none)=some z->P:=
 match o,k with
 |none,_=>nofun
 |some x,k=>fun h=>k x rfl h
theorem A1 {o:Option (List D)} {f:List D->Option γ} (k:∀x,o=some x->f x=some z->P):(match (generalizing:=false) o with|some x=>f x|none=>none)=some z->P:=
 match o,k with
 |none,_=>nofun
 |some x,k=>fun h=>k x rfl h
theorem tP {o:Option AO} {q:Option (List Int)} {f:Es->Nat->List Int->Option γ} (k:∀es w kk,o=some (.dict es w)->q=some kk->f es w kk=some z->P):(match (generalizing:=false) o,q with|some (.dict es w),some kk=>f es w kk|_,_=>none)=some z->P:=by
 cases o with
 |none=>exact nofun
 |some x=>
  cases x with
  |dict es w=>cases q with
   |none=>exact nofun
   |some kk=>exact fun h=>k es w kk rfl rfl h
  |_=>exact nofun
theorem Ch {o:Option Es} {f:Es->Option γ} (k:∀x,o=some x->f x=some z->P):(match (generalizing:=false) o with|some x=>f x|none=>none)=some z->P:=
 match o,k with
 |none,_=>nofun
 |some x,k=>fun h=>k x rfl h
theorem ew {o:Option AO} {f:List D->Nat->Option γ} (k:∀ds w,o=some (.list ds w)->f ds w=some z->P):(match (generalizing:=false) o with|some (.list ds w)=>f ds w|_=>none)=some z->P:=by
 cases o with
 |none=>exact nofun
 |some x=>
  cases x with
  |list ds w=>exact fun h=>k ds w rfl h
  |_=>exact nofun
theorem vN {o:Option AO} {f:Es->Nat->Option γ} (k:∀ds w,o=some (.dict ds w)->f ds w=some z->P):(match (generalizing:=false) o with|some (.dict ds w)=>f ds w|_=>none)=some z->P:=by
 cases o with
 |none=>exact nofun
 |some x=>
  cases x with
  |dict ds w=>exact fun h=>k ds w rfl h
  |_=>exact nofun
theorem Cc {o q:Option AO} {f:List D->Nat->List D->Nat->Option γ} (k:∀xs v ys w,o=some (.list xs v)->q=some (.list ys w)->f xs v ys w=some z->P):(match (generalizing:=false) o,q with|some (.list xs v),some (.list ys w)=>f xs v ys w|_,_=>none)=some z->P:=by
 cases o with
 |none=>exact nofun
 |some a=>
  cases a with
  |dict _ _=>exact nofun
  |list xs v=>
   cases q with
   |none=>exact nofun
   |some b=>
    cases b with
    |dict _ _=>exact nofun
    |list ys w=>exact k xs v ys w rfl rfl
theorem dR {α:Type} {P:Prop} {a:α} (e:none=some a):P:=(Option.some_ne_none a e.symm).elim
@[elab_as_elim] theorem os {α:Type} {P:α->Prop} {a b:α} (h:P a) (e:some a=some b):P b:=Option.some.inj e▸h
theorem oX {c:Prop} [Decidable c] {f g:Option γ} (k:c->f=some z->P) (k':¬c->g=some z->P) (e:(if c then f else g)=some z):P:=by
 by_cases hc:c
 ·rw[if_pos hc] at e;exact k hc e
 ·rw[if_neg hc] at e;exact k' hc e
theorem AY {o q:Option AO} {f:List D->Nat->List D->Nat->Option γ} {g:Es->Nat->Es->Nat->Option γ} (k:∀xs v ys w,o=some (.list xs v)->q=some (.list ys w)->f xs v ys w=some z->P) (k':∀xs v ys w,o=some (.dict xs v)->q=some (.dict ys w)->g xs v ys w=some z->P) :
  (match (generalizing:=false) o,q with|some (.list xs v),some (.list ys w)=>f xs v ys w|some (.dict xs v),some (.dict ys w)=>g xs v ys w|_,_=>none)=some z->P:=by
 cases o with
 |none=>exact nofun
 |some a=>
  cases q with
  |none=>cases a<;>exact nofun
  |some b=>
   cases a with
   |list xs v=>cases b with
    |dict _ _=>exact nofun
    |list ys w=>exact k xs v ys w rfl rfl
   |dict xs v=>cases b with
    |dict ys w=>exact k' xs v ys w rfl rfl
    |list _ _=>exact nofun
@[elab_as_elim] theorem Ad {p q:Option Bool} {r:Bool} {P:Bool->Prop} (k:∀a b,p=some a->q=some b->P (a&&b)):(match (generalizing:=false) p,q with|some a,some b=>some (a&&b)|_,_=>none)=some r->P r:=by
 cases p with
 |none=>exact dR
 |some a=>cases q with
  |none=>exact dR
  |some b=>exact os (k a b rfl rfl)
@[elab_as_elim] theorem AX {o:Option D} {p:D->Option Bool} {q:Option Bool} {r:Bool} {P:Bool->Prop} (k0:o=none->P false) (k:∀y,o=some y->∀a b,p y=some a->q=some b->P (a&&b)) :
  (match (generalizing:=false) o with|none=>some false|some y=>match (generalizing:=false) p y,q with|some a,some b=>some (a&&b)|_,_=>none)=some r->P r:=by
 cases o with
 |none=>exact os (k0 rfl)
 |some y=>exact Ad (k y rfl)
theorem vO {o:Option Bool} {f g:Option γ} (k:o=some true->f=some z->P) (k':o=some false->g=some z->P):(match (generalizing:=false) o with|some true=>f|some false=>g|none=>none)=some z->P:=
 match o,k,k' with
 |none,_,_=>dR
 |some true,k,_=>k rfl
 |some false,_,k'=>k' rfl
theorem sS {a b:D} {f:Option γ} (k:(∀i,a = .ref i->b = .ref i->False)->f=some z->P):(match (generalizing:=false) a,b with | .ref i,.ref j=>if i=j then none else f|_,_=>f)=some z->P:=by
 cases a with
 |ref i=>cases b with
  |ref j=>exact oX (fun _=>dR) fun hij=>k fun _ h1 h2=>hij ((D.ref.inj h1).trans (D.ref.inj h2).symm)
  |_=>exact k fun _ _=>nofun
 |_=>exact k fun _=>nofun
theorem CN {p q:Option (List Int)} {f:List Int->List Int->Option γ} (k:∀a b,p=some a->q=some b->f a b=some z->P):(match (generalizing:=false) p,q with|some a,some b=>f a b|_,_=>none)=some z->P:=by
 cases p with
 |none=>exact dR
 |some a=>cases q with
  |none=>exact dR
  |some b=>exact k a b rfl rfl
@[elab_as_elim] theorem CL {p q:Option Bool} {r:Bool} {P:Bool->Prop} (k:∀a b,p=some a->q=some b->P (a || b)):(match (generalizing:=false) p,q with|some a,some b=>some (a || b)|_,_=>none)=some r->P r:=by
 cases p with
 |none=>exact dR
 |some a=>cases q with
  |none=>exact dR
  |some b=>exact os (k a b rfl rfl)
theorem ch {c:Prop} [Decidable c] {f:Option γ} (k:c->f=some z->P):(if c then f else none)=some z->P:=by
 by_cases h:c
 ·rw[if_pos h];exact k h
 ·rw[if_neg h];exact nofun
theorem BV {o:Option (Option D)} {f:D->Option γ} (k:∀x,o=some (some x)->f x=some z->P):(match (generalizing:=false) o with|some (some x)=>f x|_=>none)=some z->P:=
 match o,k with
 |none,_=>nofun
 |some none,_=>nofun
 |some (some x),k=>fun h=>k x rfl h
theorem BX {o:Option Bool} {f g:Option γ} (k:∀b,o=some b->(bif b then f else g)=some z->P):(match (generalizing:=false) o with|some true=>f|some false=>g|none=>none)=some z->P:=
 match o,k with
 |none,_=>nofun
 |some true,k=>fun h=>k true rfl h
 |some false,k=>fun h=>k false rfl h
theorem BW {o:Option Bool} {f g:Option γ} (k:∀b,o=some b->(bif b then f else g)=some z->P):(match (generalizing:=false) o with|some false=>g|some true=>f|none=>none)=some z->P:=
 match o,k with
 |none,_=>nofun
 |some true,k=>fun h=>k true rfl h
 |some false,k=>fun h=>k false rfl h
theorem Cb {o:Option aB} {f:aB->Option γ} (k:∀x,o=some x->f x=some z->P):(match (generalizing:=false) o with|some x=>f x|none=>none)=some z->P:=
 match o,k with
 |none,_=>nofun
 |some x,k=>fun h=>k x rfl h
theorem qH {o:Option aB} {f:aB->Option γ} (k:∀x,o=some x->f x=some z->P):(match (generalizing:=false) o with|none=>none|some x=>f x)=some z->P:=
 match o,k with
 |none,_=>nofun
 |some x,k=>fun h=>k x rfl h
theorem BY {o:Option St} {f:St->Option γ} (k:∀x,o=some x->f x=some z->P):(match (generalizing:=false) o with|some x=>f x|none=>none)=some z->P:=
 match o,k with
 |none,_=>nofun
 |some x,k=>fun h=>k x rfl h
theorem BZ {o:Option (List D×f9)} {f:List D->f9->Option γ} (k:∀x u,o=some (x,u)->f x u=some z->P):(match (generalizing:=false) o with|some (x,u)=>f x u|none=>none)=some z->P:=
 match o,k with
 |none,_=>nofun
 |some (x,u),k=>fun h=>k x u rfl h
theorem AZ {o:Option D} {f:Int->Option γ} (k:∀r,o=some (.int r)->f r=some z->P):(match (generalizing:=false) o with|some (.int r)=>f r|_=>none)=some z->P:=by
 cases o with
 |none=>exact nofun
 |some x=>
  cases x with
  |int r=>exact fun h=>k r rfl h
  |_=>exact nofun
theorem Ce {o:Option (D×St)} {f:D->St->Option γ} (k:∀x J1,o=some (x,J1)->f x J1=some z->P):(match (generalizing:=false) o with|none=>none|some (x,J1)=>f x J1)=some z->P:=
 match o,k with
 |none,_=>nofun
 |some (x,J1),k=>fun h=>k x J1 rfl h
theorem qI {o:Option (Bool×St)} {f g:St->Option γ} (k:∀b J1,o=some (b,J1)->(bif b then f J1 else g J1)=some z->P):(match (generalizing:=false) o with|none=>none|some (false,J1)=>g J1|some (true,J1)=>f J1)=some z->P:=
 match o,k with
 |none,_=>nofun
 |some (true,J1),k=>fun h=>k true J1 rfl h
 |some (false,J1),k=>fun h=>k false J1 rfl h
theorem Cd {o:Option (Es×St)} {f:Es->St->Option γ} (k:∀x J1,o=some (x,J1)->f x J1=some z->P):(match (generalizing:=false) o with|some (x,J1)=>f x J1|none=>none)=some z->P:=
 match o,k with
 |none,_=>nofun
 |some (x,J1),k=>fun h=>k x J1 rfl h
theorem a7 {α β:Type} {x y:α} {u v:β} {P:α->β->Prop} (k:P x u):some (x,u)=some (y,v)->P y v:=fun h=>by cases h;exact k
@[elab_as_elim] theorem oS {α β:Type} {x y:α} {u v:β} {P:α->β->Prop} (k:P x u) (h:some (x,u)=some (y,v)):P y v:=a7 k h
theorem dw {α β δ:Type} {x y:α} {u v:β} {a b:δ} {P:α->β->δ->Prop} (k:P x u a):some (x,u,a)=some (y,v,b)->P y v b:=fun h=>by cases h;exact k
end
section
variable {C:Nat->List D->St->Option (D×St)} {O X Y Z:Mine.X} {l:aB} {J J':St} {d:D} {P:D->St->Prop}
@[elab_as_elim] theorem rz (k:∀r J1 x J2 ds w,ev C O l J=some (.ref r,J1)->ef J1 r=true->ev C X l J1=some (x,J2)->J2[r]?=some (.list ds w)->ds.length<ay->P D.none (J2.set r (.list (ds++[x]) (w+1)))):ev C (.append O X) l J=some (d,J')->P d J':=
 gy fun r J1 h1=>ch fun hk=>cB fun x J2 h2=>ew fun ds w h3=>ch fun hl=>a7 (k r J1 x J2 ds w h1 hk h2 h3 hl)
@[elab_as_elim] theorem rq (k:∀r J1 xs J2 ds w,ev C O l J=some (.ref r,J1)->ef J1 r=true->di C X l J1=some (xs,J2)->J2[r]?=some (.list ds w)->ds.length+xs.length<ay->P D.none (J2.set r (.list (ds++xs) (w+1)))):ev C (.extend O X) l J=some (d,J')->P d J':=
 gy fun r J1 h1=>ch fun hk=>jb fun x J2 h2=>ew fun ds w h3=>ch fun hl=>a7 (k r J1 x J2 ds w h1 hk h2 h3 hl)
theorem zt {op:uR} {z:D×St} {P:Prop} (k:∀x J1 y J2,ev C O l J=some (x,J1)->ev C X l J1=some (y,J2)->dW op x y J2=some z->P):ev C (.bin op O X) l J=some z->P:=
 cB fun x J1 h1=>cB fun y J2 h2 he=>k x J1 y J2 h1 h2 he
@[elab_as_elim] theorem zi (k:∀x J1,ev C O l J=some (.int x,J1)->P (D.int (-x)) J1):ev C (.neg O) l J=some (d,J')->P d J':=ja fun x J1 h1=>a7 (k x J1 h1)
@[elab_as_elim] theorem zw (k:∀x J1,ev C O l J=some (.int x,J1)->P (D.int (if x<0 then -x else x)) J1):ev C (.abs O) l J=some (d,J')->P d J':=ja fun x J1 h1=>a7 (k x J1 h1)
@[elab_as_elim] theorem zq {op:z5} (k:∀x J1 y J2 r,ev C O l J=some (x,J1)->ev C X l J1=some (y,J2)->cP op x y J2=some r->P (D.bool r) J2):ev C (.cmp op O X) l J=some (d,J')->P d J':=
 cB fun x J1 h1=>cB fun y J2 h2=>CQ fun r h3=>a7 (k x J1 y J2 r h1 h2 h3)
theorem wG {f:Nat} {z:D×St} {P:Prop} (k:∀ds J1,iU C O l J=some (ds,J1)->C f ds J1=some z->P):ev C (.call f O) l J=some z->P:=jb k
@[elab_as_elim] theorem zb (k:∀ds J1,iU C O l J=some (ds,J1)->ds.length<ay->P (D.tup ds) J1):ev C (.tup O) l J=some (d,J')->P d J':=jb fun ds J1 h1=>ch fun h2=>a7 (k ds J1 h1 h2)
@[elab_as_elim] theorem wE (k:∀ds J1 es,iU C O l J=some (ds,J1)->ds.length<16->eF ds []=some es->P (D.ref J1.length) (J1++[.dict es 0])):ev C (.dict O) l J=some (d,J')->P d J':=jb fun ds J1 h1=>ch fun h2=>Ch fun es h3=>a7 (k ds J1 es h1 h2 h3)
@[elab_as_elim] theorem zn (k:∀x J1 y J2 d,ev C O l J=some (x,J1)->ev C X l J1=some (y,J2)->bo J2 x y=some d->P d J2):ev C (.idx O X) l J=some (d,J')->P d J':=
 cB fun x J1 h1=>cB fun y J2 h2=>CP fun d h3=>a7 (k x J1 y J2 d h1 h2 h3)
@[elab_as_elim] theorem zk (k:∀x J1 n,ev C O l J=some (x,J1)->fM J1 x=some n->P (D.int n) J1):ev C (.len O) l J=some (d,J')->P d J':=cB fun x J1 h1=>CO fun n h2=>a7 (k x J1 n h1 h2)
@[elab_as_elim] theorem zc (k:∀x J1 n,ev C O l J=some (.tup x,J1)->yj x=some n->P (D.int n) J1):ev C (.sum O) l J=some (d,J')->P d J':=oW fun x J1 h1=>CO fun n h2=>a7 (k x J1 n h1 h2)
@[elab_as_elim] theorem wA (k:∀x J1 y J2,ev C O l J=some (.int x,J1)->ev C X l J1=some (.int y,J2)->P (D.int (if y>x then y else x)) J2):ev C (.max2 O X) l J=some (d,J')->P d J':=ja fun x J1 h1=>ja fun y J2 h2=>a7 (k x J1 y J2 h1 h2)
@[elab_as_elim] theorem zg (k:∀x J1 n J2,ev C O l J=some (x,J1)->ev C X l J1=some (.int n,J2)->n.natAbs<ay->P (D.ref J2.length) (J2++[.list (List.replicate n.toNat x) 0])):ev C (.rep O X) l J=some (d,J')->P d J':=cB fun x J1 h1=>ja fun n J2 h2=>ch fun h3=>a7 (k x J1 n J2 h1 h2 h3)
@[elab_as_elim] theorem ug (k:∀r J1 i J2 ds w x,ev C O l J=some (.ref r,J1)->ef J1 r=true->ev C X l J1=some (.int i,J2)->J2[r]?=some (.list ds w)->(0<=i/\i<(ay:Int)/\ds.length<ay)->ds[i.toNat]?=some x->P x (J2.set r (.list (ds.eraseIdx i.toNat) (w+1)))):ev C (.ii O X) l J=some (d,J')->P d J':=
 gy fun r J1 h1=>ch fun hk=>ja fun i J2 h2=>ew fun ds w h3=>ch fun hl=>CP fun x h4=>a7 (k r J1 i J2 ds w x h1 hk h2 h3 hl h4)
@[elab_as_elim] theorem ww (k:∀r J1 ds w es,ev C O l J=some (.ref r,J1)->J1[r]?=some (.list ds w)->bS (J1.set r (.list [] (w+1))) ds=some es->P D.none (J1.set r (.list es (w+1)))):ev C (.sort O) l J=some (d,J')->P d J':=
 gy fun r J1 h1=>ew fun ds w h2=>A1 fun es h3=>a7 (k r J1 ds w es h1 h2 h3)
@[elab_as_elim] theorem mj (k:∀r J1 es w ds,ev C O l J=some (.ref r,J1)->J1[r]?=some (.dict es w)->bS J1 (es.map fun e=>.tup [ae e.1,e.2])=some ds->P (D.ref J1.length) (J1++[.list ds 0])):ev C (.cU O) l J=some (d,J')->P d J':=
 gy fun r J1 h1=>vN fun es w h2=>A1 fun ds h3=>a7 (k r J1 es w ds h1 h2 h3)
@[elab_as_elim] theorem rg (k:∀r J1 ds w es,ev C O l J=some (.ref r,J1)->J1[r]?=some (.list ds w)->bS J1 ds=some es->P (D.ref J1.length) (J1++[.list es 0])):ev C (.sorted O) l J=some (d,J')->P d J':=
 gy fun r J1 h1=>ew fun ds w h2=>A1 fun es h3=>a7 (k r J1 ds w es h1 h2 h3)
@[elab_as_elim] theorem ru (k:∀r J1 es w,ev C O l J=some (.ref r,J1)->J1[r]?=some (.dict es w)->(es.length<ay/\dK es=true)->P (D.ref J1.length) (J1++[.dict es 0])):ev C (.dictOf O) l J=some (d,J')->P d J':=
 gy fun r J1 h1=>vN fun es w h2=>ch fun h3=>a7 (k r J1 es w h1 h2 h3)
@[elab_as_elim] theorem mn (k:∀ds J1 es,di C O l J=some (ds,J1)->dX [] ds=some es->P (D.ref J1.length) (J1++[.dict es 0])):ev C (.cI O) l J=some (d,J')->P d J':=jb fun ds J1 h1=>Ch fun es h2=>a7 (k ds J1 es h1 h2)
@[elab_as_elim] theorem uf (k:∀ds J1,di C O l J=some (ds,J1)->ds.length<ay->P (D.tup ds) J1):ev C (.fN O) l J=some (d,J')->P d J':=jb fun ds J1 h1=>ch fun h2=>a7 (k ds J1 h1 h2)
@[elab_as_elim] theorem ui (k:∀ds J1 n,di C O l J=some (ds,J1)->tV ds=some n->P (D.int n) J1):ev C (.ik O) l J=some (d,J')->P d J':=jb fun ds J1 h1=>CO fun n h2=>a7 (k ds J1 n h1 h2)
@[elab_as_elim] theorem uj (k:∀ds J1,di C O l J=some (ds,J1)->ds.length<ay->P (D.int ds.length) J1):ev C (.jg O) l J=some (d,J')->P d J':=jb fun ds J1 h1=>ch fun h2=>a7 (k ds J1 h1 h2)
@[elab_as_elim] theorem rj (k:∀ds J1,di C O l J=some (ds,J1)->ds.length<ay->P (D.ref J1.length) (J1++[.list ds 0])):ev C (.gm O) l J=some (d,J')->P d J':=jb fun ds J1 h1=>ch fun h2=>a7 (k ds J1 h1 h2)
@[elab_as_elim] theorem sZ (k:∀ds J1,di C O l J=some (ds,J1)->P (D.ref J1.length) (J1++[.list ds 0])):ev C (.lst O) l J=some (d,J')->P d J':=jb fun x J1 h1=>a7 (k x J1 h1)
@[elab_as_elim] theorem uh (k:∀r J1 ds w,ev C O l J=some (.ref r,J1)->J1[r]?=some (.list ds w)->P (D.bool (!ds.isEmpty)) J1):ev C (.jd O) l J=some (d,J')->P d J':=gy fun r J1 h1=>ew fun ds w h2=>a7 (k r J1 ds w h1 h2)
@[elab_as_elim] theorem rh (k:∀ds J1,di C O l J=some (ds,J1)->P (D.bool (!ds.isEmpty)) J1):ev C (.gj O) l J=some (d,J')->P d J':=jb fun x J1 h1=>a7 (k x J1 h1)
@[elab_as_elim] theorem wx (k:∀r J1 ks J2 es w kk,ev C O l J=some (.ref r,J1)->eh J1 r=true->ev C X l J1=some (.tup ks,J2)->J2[r]?=some (.dict es w)->aG ks=some kk->es.length<ay->P ((aU es kk).getD .none) (J2.set r (.dict (dT es kk) (w+1)))):ev C (.pop2 O X) l J=some (d,J')->P d J':=
 gy fun r J1 h1=>ch fun hk=>oW fun ks J2 h2=>tP fun es w kk h3 h4=>ch fun hl=>a7 (k r J1 ks J2 es w kk h1 hk h2 h3 h4 hl)
@[elab_as_elim] theorem wy (k:∀r J1 ks J2 es w kk x,ev C O l J=some (.ref r,J1)->eh J1 r=true->ev C X l J1=some (.tup ks,J2)->J2[r]?=some (.dict es w)->aG ks=some kk->aU es kk=some x->es.length<ay->P x (J2.set r (.dict (dT es kk) (w+1)))):ev C (.pop1 O X) l J=some (d,J')->P d J':=
 gy fun r J1 h1=>ch fun hk=>oW fun ks J2 h2=>tP fun es w kk h3 h4=>CP fun x h5=>ch fun hl=>a7 (k r J1 ks J2 es w kk x h1 hk h2 h3 h4 h5 hl)
@[elab_as_elim] theorem wC (k:∀r J1 ks J2 x J3 es w kk,ev C O l J=some (.ref r,J1)->eh J1 r=true->ev C X l J1=some (.tup ks,J2)->ev C Y l J2=some (x,J3)->J3[r]?=some (.dict es w)->aG ks=some kk->P ((aU es kk).getD x) J3):ev C (.get2 O X Y) l J=some (d,J')->P d J':=
 gy fun r J1 h1=>ch fun hk=>oW fun ks J2 h2=>cB fun x J3 h3=>tP fun es w kk h4 h5=>a7 (k r J1 ks J2 x J3 es w kk h1 hk h2 h3 h4 h5)
@[elab_as_elim] theorem s0 {x:D} (k:P x J):ev C (.lit x) l J=some (d,J')->P d J':=a7 k
@[elab_as_elim] theorem za {i:Nat} (k:∀x,l[i]?=some (some x)->P x J):ev C (.var i) l J=some (d,J')->P d J':=BV fun x h=>a7 (k x h)
@[elab_as_elim] theorem zl (k:∀x J1,ev C O l J=some (x,J1)->P (.bool x.isNone) J1):ev C (.isn O) l J=some (d,J')->P d J':=by
 show(match ev C O l J with|some (.none,J1)=>some (D.bool true,J1)|some (_,J1)=>some (D.bool false,J1)|none=>none)=_->_;revert k
 cases ev C O l J with
 |none=>exact fun _=>nofun
 |some p=>
  obtain⟨x,J1⟩:=p
  cases x<;>exact fun k=>a7 (k _ _ rfl)
@[elab_as_elim] theorem wz (k:∀x J1,ev C O l J=some (x,J1)->P (.bool !x.isNone) J1):ev C (.notn O) l J=some (d,J')->P d J':=by
 show(match ev C O l J with|some (.none,J1)=>some (D.bool false,J1)|some (_,J1)=>some (D.bool true,J1)|none=>none)=_->_;revert k
 cases ev C O l J with
 |none=>exact fun _=>nofun
 |some p=>
  obtain⟨x,J1⟩:=p
  cases x<;>exact fun k=>a7 (k _ _ rfl)
@[elab_as_elim] theorem zv (k1:∀x J1,ev C O l J=some (x,J1)->bG x=some true->ev C X l J1=some (d,J')->P d J') (k2:∀x J1,ev C O l J=some (x,J1)->bG x=some false->P x J1):ev C (.and O X) l J=some (d,J')->P d J':=
 cB fun x J1 h1=>BX fun b h2=>match b,h2 with
  |true,h2=>k1 x J1 h1 h2
  |false,h2=>a7 (k2 x J1 h1 h2)
@[elab_as_elim] theorem Bh (k1:∀x J1,ev C O l J=some (x,J1)->bG x=some false->ev C X l J1=some (d,J')->P d J') (k2:∀x J1,ev C O l J=some (x,J1)->bG x=some true->P x J1):ev C (.or O X) l J=some (d,J')->P d J':=
 cB fun x J1 h1=>BW fun b h2=>match b,h2 with
  |false,h2=>k1 x J1 h1 h2
  |true,h2=>a7 (k2 x J1 h1 h2)
@[elab_as_elim] theorem sY (k:∀x J1 b,ev C O l J=some (x,J1)->bG x=some b->P (.bool !b) J1):ev C (.not O) l J=some (d,J')->P d J':=cB fun x J1 h1=>CQ fun b h2=>a7 (k x J1 b h1 h2)
@[elab_as_elim] theorem s4 (k:∀x b J1,ev C O l J=some (x,J1)->bG x=some b->ev C (bif b then X else Y) l J1=some (d,J')->P d J'):ev C (.ite O X Y) l J=some (d,J')->P d J':=
 cB fun x J1 h1=>BX fun b h2 h3=>k x b J1 h1 h2 (match b,h3 with|true,h3=>h3|false,h3=>h3)
@[elab_as_elim] theorem uo {ts:List Nat} {many:Bool} (k:∀ds src J1 es J2,eA C Z l J=some (ds,src,J1)->bf (aw ts many) (fun _ J=>some (true,J)) (ev C O) (ev C X) src l ds [] J1=some (es,J2)->P (D.ref J2.length) (J2++[.dict es 0])):ev C (.ff O X ts many Z none) l J=some (d,J')->P d J':=
 vM fun ds src J1 h1=>Cd fun es J2 h2=>a7 (k ds src J1 es J2 h1 h2)
@[elab_as_elim] theorem pF {ts:List Nat} {many:Bool} (k:∀ds src J1 es J2,eA C Z l J=some (ds,src,J1)->bf (aw ts many) (iV C Y) (ev C O) (ev C X) src l ds [] J1=some (es,J2)->P (D.ref J2.length) (J2++[.dict es 0])):ev C (.ff O X ts many Z (some Y)) l J=some (d,J')->P d J':=
 vM fun ds src J1 h1=>Cd fun es J2 h2=>a7 (k ds src J1 es J2 h1 h2)
theorem jm {b:Bool} {P:Prop} (k:∀x,ev C O l J=some (x,J')->bG x=some b->P):iV C O l J=some (b,J')->P:=by
 show(match ev C O l J with|some (x,J1)=>(bG x).map fun b=>(b,J1)|none=>none)=_->_
 refine cB fun x J1 h1 h2=>?_;obtain⟨b',e,h⟩:=Option.map_eq_some_iff.mp h2
 cases h;exact k x h1 e
end
section
variable {C:Nat->List D->St->Option (D×St)} {O X Y Z:Mine.X} {l:aB} {J J':St} {d:List D} {P:List D->St->Prop}
@[elab_as_elim] theorem jT (k:∀d J1 ds J2,ev C O l J=some (d,J1)->iU C X l J1=some (ds,J2)->P (d::ds) J2):iU C (.aa O X) l J=some (d,J')->P d J':=cB fun d J1 h1=>jb fun ds J2 h2=>a7 (k d J1 ds J2 h1 h2)
@[elab_as_elim] theorem uk (k:∀ds J1,iU C O l J=some (ds,J1)->ds.length<ay->P ds J1):di C (.cC O) l J=some (d,J')->P d J':=jb fun ds J1 h1=>ch fun h2=>a7 (k ds J1 h1 h2)
@[elab_as_elim] theorem wB (k:∀r J1 ds w,ev C O l J=some (.ref r,J1)->J1[r]?=some (.list ds w)->P ds J1):di C (.qV O) l J=some (d,J')->P d J':=gy fun r J1 h1=>ew fun ds w h2=>a7 (k r J1 ds w h1 h2)
@[elab_as_elim] theorem pG (k:P [] J):iU C .af l J=some (d,J')->P d J':=a7 k
theorem um {ts:List Nat} {many:Bool} {Q:Prop} (k:∀ds src J1,eA C Z l J=some (ds,src,J1)->ds.length<ay->aY (aw ts many) (fun _ J=>some (true,J)) (ev C O) src l ds J1=some (d,J')->Q):di C (.aE O ts many Z none) l J=some (d,J')->Q:=
 vM fun ds src J1 h1=>ch fun hl=>k ds src J1 h1 hl
theorem pD {ts:List Nat} {many:Bool} {Q:Prop} (k:∀ds src J1,eA C Z l J=some (ds,src,J1)->ds.length<ay->aY (aw ts many) (iV C Y) (ev C O) src l ds J1=some (d,J')->Q):di C (.aE O ts many Z (some Y)) l J=some (d,J')->Q:=
 vM fun ds src J1 h1=>ch fun hl=>k ds src J1 h1 hl
noncomputable def Af (J:St) (d:D):Option (List D):=D.casesOn d none (fun _=>none) (fun _=>none) (fun _=>none) (fun _=>none) (fun r=>(J[r]?).bind fun o=>AO.casesOn o (fun ds _=>some ds) fun _ _=>none) fun ds=>some ds
@[elab_as_elim] theorem zj {lo hi:Option Nat} (k:∀x J1 ds,ev C O l J=some (x,J1)->Af J1 x=some ds->ds.length<ay->P ((ds.take (hi.getD ds.length)).drop (lo.getD 0)) J1):di C (.lsl O lo hi) l J=some (d,J')->P d J':=by
 show(match ev C O l J with|some (.fro ds,J1)=>(if ds.length<ay then some ((ds.take (hi.getD ds.length)).drop (lo.getD 0),J1) else none)|some (.ref r,J1)=>(match J1[r]? with|some (.list ds _)=>(if ds.length<ay then some ((ds.take (hi.getD ds.length)).drop (lo.getD 0),J1) else none)|_=>none)|_=>none)=_->_;revert k
 cases ev C O l J with
 |none=>exact fun _=>nofun
 |some p=>
  obtain⟨x,J1⟩:=p
  cases x with
  |fro ds=>exact fun k=>ch fun hl=>a7 (k _ _ ds rfl rfl hl)
  |ref r=>
   exact fun k=>ew fun ds w h=>ch fun hl=>a7 (k _ _ ds rfl (by show(J1[r]?).bind _=_;rw[h];rfl) hl)
  |_=>exact fun _=>nofun
end
section
variable {C:Nat->List D->St->Option (D×St)} {O X Y Z:Mine.X} {l:aB} {J J':St} {d:List D} {src:f9} {P:List D->f9->St->Prop}
theorem Bi {Q:Prop} (k:∀x,ev C O l J=some (x,J')->nZ J' x=some (d,src)->Q):eA C (.ix O) l J=some (d,src,J')->Q:=
 cB fun x J1 h1=>BZ fun ds u h2 h3=>by cases h3;exact k x h1 h2
@[elab_as_elim] theorem lH (k:∀x J1 y J2,ev C O l J=some (.int x,J1)->ev C X l J1=some (.int y,J2)->(x.natAbs<ay/\y.natAbs<ay)->P (du x y) none J2):eA C (.cD O X) l J=some (d,src,J')->P d src J':=
 ja fun x J1 h1=>ja fun y J2 h2=>ch fun h3=>dw (k x J1 y J2 h1 h2 h3)
@[elab_as_elim] theorem un (k1:∀ds J1,ev C O l J=some (.tup ds,J1)->P (b8 0 ds) none J1) (k2:∀r J1 ds w,ev C O l J=some (.ref r,J1)->J1[r]?=some (.list ds w)->P (b8 0 ds) (some (r,w)) J1):eA C (.dc O) l J=some (d,src,J')->P d src J':=by
 show(match ev C O l J with|some (.tup ds,J1)=>some (b8 0 ds,none,J1)|some (.ref r,J1)=>(match J1[r]? with|some (.list ds w)=>some (b8 0 ds,some (r,w),J1)|_=>none)|_=>none)=_->_;revert k1 k2
 cases ev C O l J with
 |none=>exact fun _ _=>nofun
 |some p=>
  obtain⟨x,J1⟩:=p
  cases x with
  |tup ds=>exact fun k1 _=>dw (k1 _ _ rfl)
  |ref r=>exact fun _ k2=>ew fun ds w h=>dw (k2 _ _ ds w rfl h)
  |_=>exact fun _ _=>nofun
end
section
variable {C:Nat->List D->St->Option (D×St)} {W:Nat} {O I X:Mine.X} {A B:XS} {l l':aB} {J J':St} {fl:Fl} {P:Fl->aB->St->Prop}
@[elab_as_elim] theorem zh (k:P .next l J):aP C W .nil l J=some (fl,l',J')->P fl l' J':=dw k
@[elab_as_elim] theorem wF (k:P .cont l J):aP C W .cont l J=some (fl,l',J')->P fl l' J':=dw k
theorem ze {Q:Prop} (k1:∀l1 J1,aP C W A l J=some (.next,l1,J1)->aP C W B l1 J1=some (fl,l',J')->Q) (k2:aP C W A l J=some (fl,l',J')->fl≠.next->Q):aP C W (.seq A B) l J=some (fl,l',J')->Q:=by
 show(match aP C W A l J with|some (.next,l1,J1)=>aP C W B l1 J1|r=>r)=_->_;revert k1 k2
 cases aP C W A l J with
 |none=>exact fun _ _=>nofun
 |some p=>
  obtain⟨f,l1,J1⟩:=p
  cases f with
  |next=>exact fun k1 _=>k1 _ _ rfl
  |_=>exact fun _ k2 h=>k2 h (by cases h;exact nofun)
@[elab_as_elim] theorem s5 {i:Nat} (k:∀x J1,ev C O l J=some (x,J1)->P .next (l.set i (some x)) J1):aP C W (.asg i O) l J=some (fl,l',J')->P fl l' J':=cB fun x J1 h=>dw (k x J1 h)
@[elab_as_elim] theorem wH {is:List Nat} (k:∀x J1 l1,ev C O l J=some (x,J1)->aw is true x l=some l1->P .next l1 J1):aP C W (.eM is O) l J=some (fl,l',J')->P fl l' J':=cB fun x J1 h=>Cb fun l1 h2=>dw (k x J1 l1 h h2)
@[elab_as_elim] theorem wD (k:∀x J1,ev C O l J=some (x,J1)->P .next l J1):aP C W (.expr O) l J=some (fl,l',J')->P fl l' J':=cB fun x J1 h=>dw (k x J1 h)
@[elab_as_elim] theorem zf (k:∀x J1,ev C O l J=some (x,J1)->P (.ret x) l J1):aP C W (.ret O) l J=some (fl,l',J')->P fl l' J':=cB fun x J1 h=>dw (k x J1 h)
@[elab_as_elim] theorem zd (k:∀x J1 od J2 kd J3 J4,ev C X l J=some (x,J1)->ev C O l J1=some (od,J2)->ev C I l J2=some (kd,J3)->ic J3 od kd x=some J4->P .next l J4):aP C W (.set O I X) l J=some (fl,l',J')->P fl l' J':=
 cB fun x J1 h1=>cB fun od J2 h2=>cB fun kd J3 h3=>BY fun J4 h4=>dw (k x J1 od J2 kd J3 J4 h1 h2 h3 h4)
@[elab_as_elim] theorem zu {op:uR} (k:∀od J1 kd J2 n m J3 r J4 J5,ev C O l J=some (od,J1)->ev C I l J1=some (kd,J2)->bo J2 od kd=some (.int n)->ev C X l J2=some (.int m,J3)->dW op (.int n) (.int m) J3=some (r,J4)->ic J4 od kd r=some J5->P .next l J5):aP C W (.aug O I op X) l J=some (fl,l',J')->P fl l' J':=
 cB fun od J1 h1=>cB fun kd J2 h2=>AZ fun n h3=>ja fun m J3 h4=>cB fun r J4 h5=>BY fun J5 h6=>dw (k od J1 kd J2 n m J3 r J4 J5 h1 h2 h3 h4 h5 h6)
theorem zm {Q:Prop} (k:∀x b J1,ev C O l J=some (x,J1)->bG x=some b->aP C W (bif b then A else B) l J1=some (fl,l',J')->Q):aP C W (.ifs O A B) l J=some (fl,l',J')->Q:=
 Cg fun b J1 h1 h2=>jm (fun x h3 h4=>k x b J1 h3 h4 (match b,h2 with|true,h2=>h2|false,h2=>h2)) h1
theorem zo {ts:List Nat} {many:Bool} {Q:Prop} (k:∀ds src J1,eA C O l J=some (ds,src,J1)->a9 (aw ts many) (aP C W A) src ds l J1=some (fl,l',J')->Q):aP C W (.for_ ts many O A) l J=some (fl,l',J')->Q:=vM k
@[elab_as_elim] theorem ue {test:aB->St->Option (Bool×St)} {body:aB->St->Option (Fl×aB×St)} {m:Nat} (kf:∀J1,test l J=some (false,J1)->P .next l J1) (kr:∀J1 r l2 J2,test l J=some (true,J1)->body l J1=some (.ret r,l2,J2)->P (.ret r) l2 J2)
  (kn:∀J1 f l2 J2,test l J=some (true,J1)->body l J1=some (f,l2,J2)->(∀r,f≠.ret r)->cr test body m l2 J2=some (fl,l',J')->P fl l' J'):cr test body (m+1) l J=some (fl,l',J')->P fl l' J':=by
 refine qI fun b J1 h1=>?_
 cases b with
 |false=>exact dw (kf J1 h1)
 |true=>
  show(match body l J1 with|none=>none|some (.ret r,l2,J2)=>some (Fl.ret r,l2,J2)|some (_,l2,J2)=>cr test body m l2 J2)=_->_
  cases q:body l J1 with
  |none=>exact nofun
  |some p=>
   obtain⟨f,l2,J2⟩:=p
   cases f with
   |ret r=>exact dw (kr J1 r l2 J2 h1 q)
   |_=>exact kn J1 _ l2 J2 h1 q nofun
@[elab_as_elim] theorem rm {bind:D->aB->Option aB} {body:aB->St->Option (Fl×aB×St)} {src:f9} (k:P .next l J):a9 bind body src [] l J=some (fl,l',J')->P fl l' J':=dw k
@[elab_as_elim] theorem pE {bind:D->aB->Option aB} {body:aB->St->Option (Fl×aB×St)} {src:f9} {x:D} {xs:List D} (kr:∀l1 r l2 J2,bind x l=some l1->body l1 J=some (.ret r,l2,J2)->P (.ret r) l2 J2)
  (kn:∀l1 f l2 J2,bind x l=some l1->body l1 J=some (f,l2,J2)->(∀r,f≠.ret r)->aI src J2=true->a9 bind body src xs l2 J2=some (fl,l',J')->P fl l' J'):a9 bind body src (x::xs) l J=some (fl,l',J')->P fl l' J':=by
 refine qH fun l1 h1=>?_;show(match body l1 J with|none=>none|some (.ret r,l2,J2)=>some (Fl.ret r,l2,J2)|some (_,l2,J2)=>if aI src J2 then a9 bind body src xs l2 J2 else none)=_->_
 cases q:body l1 J with
 |none=>exact nofun
 |some p=>
  obtain⟨f,l2,J2⟩:=p
  cases f with
  |ret r=>exact dw (kr l1 r l2 J2 h1 q)
  |_=>exact ch fun hs=>kn l1 _ l2 J2 h1 q nofun hs
end
section
variable {bind:D->aB->Option aB} {test:aB->St->Option (Bool×St)} {elt val:aB->St->Option (D×St)} {src:f9} {l:aB} {J J':St} {x:D} {xs:List D}
@[elab_as_elim] theorem n4 {es:List D} {P:List D->St->Prop} (k0:∀l1 J1,bind x l=some l1->test l1 J=some (false,J1)->aI src J1=true->aY bind test elt src l xs J1=some (es,J')->P es J')
  (k1:∀l1 J1 e J2 es1 J3,bind x l=some l1->test l1 J=some (true,J1)->elt l1 J1=some (e,J2)->aI src J2=true->aY bind test elt src l xs J2=some (es1,J3)->P (e::es1) J3):aY bind test elt src l (x::xs) J=some (es,J')->P es J':=
 qH fun l1 h1=>qI fun b J1 h2=>match b,h2 with
  |false,h2=>ch fun hs h3=>k0 l1 J1 h1 h2 hs h3
  |true,h2=>Ce fun e J2 h3=>ch fun hs=>jb fun es1 J3 h4=>a7 (k1 l1 J1 e J2 es1 J3 h1 h2 h3 hs h4)
theorem Ca {γ:Type} {P:Prop} {z:γ} {o:Option (List Int)} {f:List Int->Option γ} (k:∀x,o=some x->f x=some z->P):(match (generalizing:=false) o with|none=>none|some x=>f x)=some z->P:=
 match o,k with
 |none,_=>nofun
 |some x,k=>fun h=>k x rfl h
theorem mo {es0 es:Es} {Q:Prop} (k0:∀l1 J1,bind x l=some l1->test l1 J=some (false,J1)->aI src J1=true->bf bind test elt val src l xs es0 J1=some (es,J')->Q)
  (k1:∀l1 J1 ks J2 kk v J3,bind x l=some l1->test l1 J=some (true,J1)->elt l1 J1=some (.tup ks,J2)->aG ks=some kk->val l1 J2=some (v,J3)->aI src J3=true->es0.length<ay->bf bind test elt val src l xs (bZ es0 kk v) J3=some (es,J')->Q):bf bind test elt val src l (x::xs) es0 J=some (es,J')->Q:=
 qH fun l1 h1=>qI fun b J1 h2=>match b,h2 with
  |false,h2=>ch fun hs h3=>k0 l1 J1 h1 h2 hs h3
  |true,h2=>oW fun ks J2 h3=>Ca fun kk h4=>Ce fun v J3 h5=>ch fun hs=>by
   obtain⟨hs1,hs2⟩:=Bool.and_eq_true_iff.mp hs;exact k1 l1 J1 ks J2 kk v J3 h1 h2 h3 h4 h5 hs1 (of_decide_eq_true hs2)
end
section
theorem rt {FT:List Fn} {W n f:Nat} {ds:List D} {J J':St} {d:D} {Q:Prop} (k:∀fn fl l1,FT[f]?=some fn->ds.length=fn.nargs->aP (ab FT W n) W fn.body (ds.map some++List.replicate (fn.nslots-fn.nargs) none) J=some (fl,l1,J')->(fl = .ret d\/(fl = .next/\d = .none))->Q) :
  ab FT W (n+1) f ds J=some (d,J')->Q:=by
 show(match FT[f]? with|none=>none|some fn=>if ds.length=fn.nargs then (match aP (ab FT W n) W fn.body (ds.map some++List.replicate (fn.nslots-fn.nargs) none) J with|some (.ret d,_,J1)=>some (d,J1)|some (.next,_,J1)=>some (D.none,J1)|_=>none) else none)=_->_
 cases hf:FT[f]? with
 |none=>exact nofun
 |some fn=>
  refine ch fun hl=>?_
  cases he:aP (ab FT W n) W fn.body (ds.map some++List.replicate (fn.nslots-fn.nargs) none) J with
  |none=>exact nofun
  |some p=>
   obtain⟨fl,l1,J1⟩:=p
   cases fl with
   |ret r=>exact fun h=>by cases h;exact k fn _ l1 hf hl he (.inl rfl)
   |next=>exact fun h=>by cases h;exact k fn _ l1 hf hl he (.inr ⟨rfl,rfl⟩)
   |cont=>exact nofun
end
end
section
noncomputable abbrev lR:Nat:=0
noncomputable abbrev gO:Nat:=1
noncomputable abbrev d5:Nat:=2
noncomputable abbrev gA:Nat:=3
noncomputable abbrev dM:Nat:=4
noncomputable abbrev gz:Nat:=5
noncomputable abbrev oh:Nat:=6
noncomputable abbrev eY:Nat:=7
noncomputable abbrev rD:Nat:=8
noncomputable abbrev rC:Nat:=9
noncomputable abbrev wS:Nat:=10
noncomputable abbrev te:Nat:=11
noncomputable abbrev fb:Nat:=12
noncomputable abbrev td:Nat:=13
noncomputable abbrev oj:Nat:=14
noncomputable abbrev mR:Nat:=15
noncomputable abbrev jY:Nat:=16
noncomputable abbrev ek:Nat:=17
noncomputable abbrev dm:Nat:=18
noncomputable abbrev iD:Nat:=19
noncomputable abbrev hH:Nat:=20
noncomputable abbrev og:Nat:=21
noncomputable abbrev be:Nat:=22
noncomputable abbrev aQ:Nat:=23
noncomputable abbrev cS:Nat:=24
noncomputable abbrev dZ:Nat:=25
noncomputable abbrev bF:Nat:=26
noncomputable abbrev bw:Nat:=27
noncomputable abbrev cM:Nat:=28
noncomputable abbrev bd:Nat:=29
noncomputable abbrev dN:Nat:=30
noncomputable abbrev ax:Nat:=31
noncomputable abbrev aX:Nat:=32
noncomputable abbrev eZ:Nat:=33
noncomputable abbrev bL:Nat:=34
noncomputable abbrev bI:Nat:=35
noncomputable abbrev cE:Nat:=36
noncomputable abbrev Cu:Nat:=37
noncomputable def Ak:XS:=
  .seq (.eM [0,1] (.tup (.aa (.abs (.var 0)) (.aa (.abs (.var 1)) .af))))
  (.seq (.whl (.cmp .ne (.var 1) (.lit (.int 0))) (.eM [0,1] (.tup (.aa (.var 1) (.aa (.bin .mod (.var 0) (.var 1)) .af)))))
  (.ret (.var 0)))
noncomputable def kD:XS:=
  .seq (.ifs (.cmp .eq (.var 0) (.lit (.str (Str.ofString "lex")))) (.ret (.var 1)) (.nil))
  (.seq (.ifs (.cmp .eq (.var 0) (.lit (.str (Str.ofString "grlex")))) (.ret (.bin .add (.tup (.aa (.sum (.var 1)) .af)) (.var 1))) (.nil))
  (.seq (.ifs (.cmp .eq (.var 0) (.lit (.str (Str.ofString "grevlex")))) (.ret (.bin .add (.tup (.aa (.sum (.var 1)) .af)) (.fN (.aE (.neg (.var 2)) [2] false (.ix (.fail)) none)))) (.nil))
  (.fail)))
noncomputable def fZ:XS:=
  .ret (.fN (.aE (.bin .add (.var 3) (.idx (.var 1) (.var 2))) [2,3] true (.dc (.var 0)) none))
noncomputable def dt:XS:=
  .seq (.for_ [2,3] true (.dc (.var 0)) (.ifs (.cmp .gt (.var 3) (.idx (.var 1) (.var 2))) (.ret (.lit (.bool false))) (.nil)))
  (.ret (.lit (.bool true)))
noncomputable def fz:XS:=
  .ret (.fN (.aE (.bin .sub (.var 3) (.idx (.var 1) (.var 2))) [2,3] true (.dc (.var 0)) none))
noncomputable def Aj:XS:=
  .seq (.ifs (.cmp .eq (.var 1) (.lit (.int 0))) (.fail) (.nil))
  (.seq (.asg 2 (.ite (.cmp .gt (.var 1) (.lit (.int 0))) (.call lR (.aa (.var 0) (.aa (.var 1) .af))) (.bin .sub (.lit (.int 0)) (.call lR (.aa (.var 0) (.aa (.var 1) .af))))))
  (.ret (.tup (.aa (.bin .fdiv (.var 0) (.var 2)) (.aa (.bin .fdiv (.var 1) (.var 2)) .af)))))
noncomputable def xO:XS:=
  .ret (.call gz (.aa (.bin .add (.bin .mul (.idx (.var 0) (.lit (.int 0))) (.idx (.var 1) (.lit (.int 1)))) (.bin .mul (.idx (.var 1) (.lit (.int 0))) (.idx (.var 0) (.lit (.int 1))))) (.aa (.bin .mul (.idx (.var 0) (.lit (.int 1))) (.idx (.var 1) (.lit (.int 1)))) .af)))
noncomputable def xL:XS:=
  .ret (.call gz (.aa (.bin .mul (.idx (.var 0) (.lit (.int 0))) (.idx (.var 1) (.lit (.int 0)))) (.aa (.bin .mul (.idx (.var 0) (.lit (.int 1))) (.idx (.var 1) (.lit (.int 1)))) .af)))
noncomputable def xN:XS:=
  .ret (.call gz (.aa (.bin .mul (.idx (.var 0) (.lit (.int 0))) (.idx (.var 1) (.lit (.int 1)))) (.aa (.bin .mul (.idx (.var 0) (.lit (.int 1))) (.idx (.var 1) (.lit (.int 0)))) .af)))
noncomputable def xK:XS:=
  .ret (.tup (.aa (.bin .sub (.lit (.int 0)) (.idx (.var 0) (.lit (.int 0)))) (.aa (.idx (.var 0) (.lit (.int 1))) .af)))
noncomputable def xM:XS:=
  .ret (.call gz (.aa (.idx (.var 0) (.lit (.int 1))) (.aa (.idx (.var 0) (.lit (.int 0))) .af)))
noncomputable def tr:XS:=
  .seq (.asg 2 (.dictOf (.var 0)))
  (.seq (.for_ [3] false (.ix (.var 1)) (.expr (.call fb (.aa (.var 2) (.aa (.var 3) (.aa (.idx (.var 1) (.var 3)) .af))))))
  (.ret (.var 2)))
noncomputable def iR:XS:=
  .seq (.asg 3 (.ite (.cmp .isin (.var 1) (.var 0)) (.call oh (.aa (.idx (.var 0) (.var 1)) (.aa (.var 2) .af))) (.var 2)))
  (.ifs (.cmp .eq (.var 3) (.lit (.tup [.int 0,.int 1]))) (.expr (.pop2 (.var 0) (.var 1))) (.set (.var 0) (.var 1) (.var 3)))
noncomputable def tq:XS:=
  .ret (.ff (.var 1) (.call rC (.aa (.idx (.var 0) (.var 1)) .af)) [1] false (.ix (.var 0)) none)
noncomputable def to:XS:=
  .ret (.call te (.aa (.var 0) (.aa (.call td (.aa (.var 1) .af)) .af)))
noncomputable def nv:XS:=
  .seq (.ifs (.cmp .eq (.var 1) (.lit (.tup [.int 0,.int 1]))) (.ret (.dict .af)) (.nil))
  (.ret (.ff (.var 2) (.call eY (.aa (.idx (.var 0) (.var 2)) (.aa (.var 1) .af))) [2] false (.ix (.var 0)) none))
noncomputable def nt:XS:=
  .seq (.ifs (.cmp .eq (.var 2) (.lit (.tup [.int 0,.int 1]))) (.ret (.dict .af)) (.nil))
  (.ret (.ff (.call d5 (.aa (.var 3) (.aa (.var 1) .af))) (.call eY (.aa (.idx (.var 0) (.var 3)) (.aa (.var 2) .af))) [3] false (.ix (.var 0)) none))
noncomputable def qa:XS:=
  .seq (.eM [2,3] (.tup (.aa (.lit .none) (.aa (.lit .none) .af))))
  (.seq (.for_ [4] false (.ix (.var 0)) (.seq (.asg 5 (.call gO (.aa (.var 1) (.aa (.var 4) .af))))
  (.ifs (.or (.isn (.var 2)) (.cmp .gt (.var 5) (.var 3))) (.eM [2,3] (.tup (.aa (.var 4) (.aa (.var 5) .af)))) (.nil))))
  (.ret (.ite (.isn (.var 2)) (.lit .none) (.tup (.aa (.var 2) (.aa (.idx (.var 0) (.var 2)) .af))))))
noncomputable def eB:XS:=
  .seq (.for_ [2,3] true (.dc (.var 1)) (.ifs (.and (.notn (.var 3)) (.call gA (.aa (.idx (.var 3) (.lit (.int 0))) (.aa (.var 0) .af)))) (.ret (.var 2)) (.nil)))
  (.ret (.neg (.lit (.int 1))))
noncomputable def iN:XS:=
  .seq (.asg 3 (.lst (.aE (.call ek (.aa (.var 12) (.aa (.var 2) .af))) [12] false (.ix (.var 1)) none)))
  (.seq (.asg 4 (.lst (.aE (.dict .af) [12] false (.ix (.var 1)) none)))
  (.seq (.eM [5,6] (.tup (.aa (.dict .af) (.aa (.dictOf (.var 0)) .af))))
  (.seq (.whl (.cmp .gt (.len (.var 6)) (.lit (.int 0))) (.seq (.eM [7,8] (.call ek (.aa (.var 6) (.aa (.var 2) .af))))
  (.seq (.asg 9 (.call dm (.aa (.var 7) (.aa (.var 3) .af))))
  (.seq (.ifs (.cmp .lt (.var 9) (.lit (.int 0))) (.seq (.set (.var 5) (.var 7) (.var 8))
  (.seq (.expr (.pop1 (.var 6) (.var 7)))
  (.cont))) (.nil))
  (.seq (.eM [10,11] (.tup (.aa (.call dM (.aa (.var 7) (.aa (.idx (.idx (.var 3) (.var 9)) (.lit (.int 0))) .af))) (.aa (.call rD (.aa (.var 8) (.aa (.idx (.idx (.var 3) (.var 9)) (.lit (.int 1))) .af))) .af))))
  (.seq (.expr (.call fb (.aa (.idx (.var 4) (.var 9)) (.aa (.var 10) (.aa (.var 11) .af)))))
  (.asg 6 (.call oj (.aa (.var 6) (.aa (.call jY (.aa (.idx (.var 1) (.var 9)) (.aa (.var 10) (.aa (.var 11) .af)))) .af))))))))))
  (.ret (.tup (.aa (.var 4) (.aa (.var 5) .af)))))))
noncomputable def j8:XS:=
  .seq (.ifs (.cmp .eq (.len (.var 1)) (.lit (.int 0))) (.ret (.lit .none)) (.nil))
  (.seq (.eM [2,3] (.call iD (.aa (.var 0) (.aa (.lst (.cC (.aa (.var 1) .af))) (.aa (.lit (.str (Str.ofString "lex"))) .af)))))
  (.ret (.ite (.cmp .eq (.len (.var 3)) (.lit (.int 0))) (.idx (.var 2) (.lit (.int 0))) (.lit .none))))
noncomputable def xI:XS:=
  .seq (.ifs (.or (.cmp .eq (.len (.var 0)) (.lit (.int 0))) (.cmp .eq (.len (.var 1)) (.lit (.int 0)))) (.ret (.lst (.cC .af))) (.nil))
  (.seq (.asg 2 (.rep (.lit (.int 0)) (.bin .sub (.bin .add (.len (.var 0)) (.len (.var 1))) (.lit (.int 1)))))
  (.seq (.for_ [3,4] true (.dc (.var 0)) (.ifs (.cmp .ne (.var 4) (.lit (.int 0))) (.for_ [5,6] true (.dc (.var 1)) (.aug (.var 2) (.bin .add (.var 3) (.var 5)) .add (.bin .mul (.var 4) (.var 6)))) (.nil)))
  (.ret (.var 2))))
noncomputable def gv:XS:=
  .seq (.ifs (.cmp .eq (.len (.var 0)) (.lit (.int 0))) (.ret (.tup (.aa (.lit (.tup [.int 0,.int 1])) (.aa (.dict .af) .af)))) (.nil))
  (.seq (.eM [1,2] (.tup (.aa (.lit (.int 1)) (.aa (.lit (.int 0)) .af))))
  (.seq (.for_ [3] false (.ix (.var 0)) (.asg 1 (.bin .mul (.bin .fdiv (.var 1) (.call lR (.aa (.var 1) (.aa (.idx (.idx (.var 0) (.var 3)) (.lit (.int 1))) .af)))) (.idx (.idx (.var 0) (.var 3)) (.lit (.int 1))))))
  (.seq (.for_ [3] false (.ix (.var 0)) (.asg 2 (.call lR (.aa (.var 2) (.aa (.idx (.call eY (.aa (.idx (.var 0) (.var 3)) (.aa (.tup (.aa (.var 1) (.aa (.lit (.int 1)) .af))) .af))) (.lit (.int 0))) .af)))))
  (.seq (.asg 4 (.call gz (.aa (.ite (.cmp .gt (.idx (.idx (.call ek (.aa (.var 0) (.aa (.lit (.str (Str.ofString "lex"))) .af))) (.lit (.int 1))) (.lit (.int 0))) (.lit (.int 0))) (.var 2) (.neg (.var 2))) (.aa (.var 1) .af))))
  (.ret (.tup (.aa (.var 4) (.aa (.call mR (.aa (.var 0) (.aa (.call wS (.aa (.var 4) .af)) .af))) .af))))))))
noncomputable def f8:XS:=
  .ret (.cmp .eq (.jg (.aE (.var 1) [1] false (.ix (.var 0)) (some (.cmp .gt (.sum (.var 1)) (.lit (.int 0)))))) (.lit (.int 0)))
noncomputable def kE:XS:=
  .seq (.asg 2 (.lit (.int 0)))
  (.seq (.for_ [3] false (.ix (.var 0)) (.asg 2 (.max2 (.var 2) (.bin .add (.bin .add (.idx (.var 3) (.lit (.int 0))) (.bin .mul (.var 1) (.idx (.var 3) (.lit (.int 1))))) (.lit (.int 1))))))
  (.seq (.asg 4 (.rep (.lit (.int 0)) (.var 2)))
  (.seq (.for_ [3] false (.ix (.var 0)) (.aug (.var 4) (.bin .add (.idx (.var 3) (.lit (.int 0))) (.bin .mul (.var 1) (.idx (.var 3) (.lit (.int 1))))) .add (.idx (.idx (.var 0) (.var 3)) (.lit (.int 0)))))
  (.ret (.var 4)))))
noncomputable def ma:XS:=
  .seq (.asg 2 (.dict .af))
  (.seq (.for_ [3,4] true (.dc (.var 0)) (.ifs (.cmp .ne (.var 4) (.lit (.int 0))) (.set (.var 2) (.tup (.aa (.bin .mod (.var 3) (.var 1)) (.aa (.bin .fdiv (.var 3) (.var 1)) .af))) (.tup (.aa (.var 4) (.aa (.lit (.int 1)) .af)))) (.nil)))
  (.ret (.var 2)))
noncomputable def j9:XS:=
  .seq (.ifs (.cmp .eq (.var 1) (.lit (.int 0))) (.ret (.lst (.cC (.aa (.tup .af) .af)))) (.nil))
  (.seq (.asg 2 (.lst (.cC .af)))
  (.seq (.for_ [3] false (.cD (.bin .sub (.var 1) (.lit (.int 1))) (.var 0)) (.expr (.extend (.var 2) (.aE (.bin .add (.var 4) (.tup (.aa (.var 3) .af))) [4] false (.ix (.call bF (.aa (.var 3) (.aa (.bin .sub (.var 1) (.lit (.int 1))) .af)))) none))))
  (.ret (.var 2))))
noncomputable def fi:XS:=
  .seq (.asg 3 (.lst (.cC (.aa (.lit (.int 1)) .af))))
  (.seq (.for_ [4] false (.ix (.var 1)) (.asg 3 (.call og (.aa (.var 3) (.aa (.idx (.var 0) (.var 4)) .af)))))
  (.ret (.idx (.call be (.aa (.call dZ (.aa (.var 3) (.aa (.var 2) .af))) .af)) (.lit (.int 1)))))
noncomputable def fE:XS:=
  .seq (.for_ [4] false (.ix (.call bF (.aa (.len (.var 1)) (.aa (.var 2) .af)))) (.seq (.asg 5 (.call bw (.aa (.var 1) (.aa (.var 4) (.aa (.var 3) .af)))))
  (.ifs (.not (.call aQ (.aa (.var 5) .af))) (.seq (.asg 6 (.call hH (.aa (.var 0) (.aa (.var 5) .af))))
  (.ifs (.notn (.var 6)) (.ret (.tup (.aa (.var 4) (.aa (.var 5) (.aa (.idx (.call be (.aa (.var 6) .af)) (.lit (.int 1))) .af))))) (.nil))) (.nil))))
  (.ret (.lit .none))
noncomputable def gR:XS:=
  .seq (.asg 1 (.lst (.aE (.tup (.aa (.len (.var 3)) (.aa (.cU (.var 3)) (.aa (.var 2) .af)))) [2,3] true (.dc (.var 0)) none)))
  (.seq (.expr (.sort (.var 1)))
  (.ret (.lst (.aE (.idx (.var 0) (.var 4)) [2,3,4] true (.ix (.var 1)) none))))
noncomputable def fD:XS:=
  .seq (.asg 2 (.ite (.cmp .ne (.var 0) (.lit (.tup [.int 0,.int 1]))) (.dict (.aa (.tup (.aa (.lit (.int 0)) (.aa (.lit (.int 0)) .af))) (.aa (.var 0) .af))) (.dict .af)))
  (.seq (.for_ [3,4] true (.ix (.var 1)) (.for_ [5] false (.cD (.lit (.int 0)) (.var 4)) (.asg 2 (.call ax (.aa (.var 2) (.aa (.var 3) .af))))))
  (.ret (.var 2)))
noncomputable def fh:XS:=
  .seq (.asg 2 (.dict .af))
  (.seq (.for_ [3] false (.ix (.var 0)) (.for_ [4] false (.ix (.var 1)) (.seq (.asg 5 (.tup (.aa (.bin .add (.idx (.var 3) (.lit (.int 0))) (.idx (.var 4) (.lit (.int 0)))) (.aa (.bin .add (.idx (.var 3) (.lit (.int 1))) (.idx (.var 4) (.lit (.int 1)))) .af))))
  (.seq (.asg 6 (.call eY (.aa (.idx (.var 0) (.var 3)) (.aa (.idx (.var 1) (.var 4)) .af))))
  (.seq (.asg 7 (.get2 (.var 2) (.var 5) (.lit (.tup [.int 0,.int 1]))))
  (.set (.var 2) (.var 5) (.call gz (.aa (.bin .add (.bin .mul (.idx (.var 7) (.lit (.int 0))) (.idx (.var 6) (.lit (.int 1)))) (.bin .mul (.idx (.var 6) (.lit (.int 0))) (.idx (.var 7) (.lit (.int 1))))) (.aa (.bin .mul (.idx (.var 7) (.lit (.int 1))) (.idx (.var 6) (.lit (.int 1)))) .af)))))))))
  (.ret (.ff (.var 8) (.idx (.var 2) (.var 8)) [8] false (.ix (.var 2)) (some (.cmp .ne (.idx (.var 2) (.var 8)) (.lit (.tup [.int 0,.int 1])))))))
noncomputable def iO:XS:=
  .seq (.set (.var 0) (.lit (.int 1)) (.bin .add (.idx (.var 0) (.lit (.int 1))) (.lit (.int 1))))
  (.seq (.asg 2 (.ite (.cmp .gt (.len (.idx (.var 0) (.lit (.int 0)))) (.lit (.int 0))) (.ii (.idx (.var 0) (.lit (.int 0))) (.lit (.int 0))) (.bin .add (.bin .mul (.lit (.int 5)) (.idx (.var 0) (.lit (.int 1)))) (.bin .fdiv (.idx (.var 0) (.lit (.int 1))) (.lit (.int 2))))))
  (.ret (.bin .mod (.var 2) (.var 1))))
noncomputable def iP:XS:=
  .seq (.asg 1 (.bin .sub (.call aX (.aa (.var 0) (.aa (.lit (.int 5)) .af))) (.lit (.int 2))))
  (.seq (.ifs (.cmp .eq (.call aX (.aa (.var 0) (.aa (.lit (.int 3)) .af))) (.lit (.int 1))) (.ret (.dict (.aa (.tup (.aa (.lit (.int 1)) (.aa (.lit (.int 1)) .af))) (.aa (.tup (.aa (.lit (.int 1)) (.aa (.lit (.int 1)) .af))) (.aa (.tup (.aa (.lit (.int 0)) (.aa (.lit (.int 0)) .af))) (.aa (.tup (.aa (.ite (.cmp .ne (.var 1) (.lit (.int 0))) (.var 1) (.lit (.int 3))) (.aa (.lit (.int 1)) .af))) .af)))))) (.nil))
  (.seq (.asg 2 (.dict (.aa (.tup (.aa (.lit (.int 1)) (.aa (.lit (.int 0)) .af))) (.aa (.tup (.aa (.lit (.int 1)) (.aa (.lit (.int 1)) .af))) .af))))
  (.seq (.for_ [3,4] true (.ix (.tup (.aa (.tup (.aa (.tup (.aa (.lit (.int 0)) (.aa (.lit (.int 1)) .af))) (.aa (.bin .sub (.call aX (.aa (.var 0) (.aa (.lit (.int 4)) .af))) (.lit (.int 1))) .af))) (.aa (.tup (.aa (.tup (.aa (.lit (.int 0)) (.aa (.lit (.int 0)) .af))) (.aa (.var 1) .af))) .af)))) (.ifs (.cmp .ne (.var 4) (.lit (.int 0))) (.set (.var 2) (.var 3) (.tup (.aa (.var 4) (.aa (.lit (.int 1)) .af)))) (.nil)))
  (.ret (.var 2)))))
noncomputable def iq:XS:=
  .seq (.asg 1 (.dict (.aa (.tup (.aa (.lit (.int 0)) (.aa (.lit (.int 0)) .af))) (.aa (.lit (.int 1)) .af))))
  (.seq (.for_ [2] false (.ix (.var 0)) (.seq (.asg 3 (.dict .af))
  (.seq (.for_ [4] false (.ix (.var 1)) (.for_ [5] false (.ix (.var 2)) (.seq (.asg 6 (.tup (.aa (.bin .add (.idx (.var 4) (.lit (.int 0))) (.idx (.var 5) (.lit (.int 0)))) (.aa (.bin .add (.idx (.var 4) (.lit (.int 1))) (.idx (.var 5) (.lit (.int 1)))) .af))))
  (.set (.var 3) (.var 6) (.bin .add (.get2 (.var 3) (.var 6) (.lit (.int 0))) (.bin .mul (.idx (.var 1) (.var 4)) (.idx (.idx (.var 2) (.var 5)) (.lit (.int 0)))))))))
  (.asg 1 (.var 3)))))
  (.ret (.cI (.aE (.tup (.aa (.var 7) (.aa (.tup (.aa (.idx (.var 1) (.var 7)) (.aa (.lit (.int 1)) .af))) .af))) [7] false (.ix (.var 1)) (some (.cmp .ne (.idx (.var 1) (.var 7)) (.lit (.int 0))))))))
noncomputable def f6:XS:=
  .seq (.asg 2 (.lst (.cC .af)))
  (.seq (.for_ [3] false (.cD (.lit (.int 0)) (.bin .pow (.lit (.int 2)) (.var 0))) (.seq (.asg 4 (.fN (.aE (.var 6) [6] false (.cD (.lit (.int 0)) (.var 0)) (some (.cmp .eq (.bin .mod (.bin .fdiv (.var 3) (.bin .pow (.lit (.int 2)) (.var 6))) (.lit (.int 2))) (.lit (.int 1)))))))
  (.ifs (.cmp .eq (.len (.var 4)) (.var 1)) (.expr (.append (.var 2) (.var 4))) (.nil))))
  (.seq (.asg 5 (.call bF (.aa (.var 0) (.aa (.var 1) .af))))
  (.ret (.and (.cmp .eq (.sorted (.var 5)) (.sorted (.var 2))) (.cmp .eq (.len (.var 5)) (.len (.var 2)))))))
noncomputable def f7:XS:=
  .seq (.asg 2 (.call cS (.aa (.var 0) (.aa (.var 1) .af))))
  (.seq (.asg 3 (.rep (.lit (.int 0)) (.bin .add (.ik (.aE (.bin .add (.idx (.var 5) (.lit (.int 0))) (.bin .mul (.var 1) (.idx (.var 5) (.lit (.int 1))))) [5] false (.ix (.var 0)) none)) (.lit (.int 1)))))
  (.seq (.for_ [4] false (.ix (.var 0)) (.set (.var 3) (.bin .add (.idx (.var 4) (.lit (.int 0))) (.bin .mul (.var 1) (.idx (.var 4) (.lit (.int 1))))) (.idx (.idx (.var 0) (.var 4)) (.lit (.int 0)))))
  (.ret (.and (.cmp .eq (.var 2) (.var 3)) (.and (.cmp .eq (.call dZ (.aa (.var 2) (.aa (.var 1) .af))) (.var 0)) (.cmp .eq (.call dZ (.aa (.lst (.cC .af)) (.aa (.var 1) .af))) (.dict .af)))))))
noncomputable abbrev AP:XS:=.asg 1 (.lst (.cC (.aa (.gm (.lsl (.var 0) none (some 30))) (.aa (.lit (.int 0)) .af))))
noncomputable abbrev AN:XS:=.asg 2 (.lst (.aE (.call eZ (.aa (.var 1) .af)) [19] false (.cD (.lit (.int 0)) (.bin .add (.lit (.int 1)) (.call aX (.aa (.var 1) (.aa (.lit (.int 3)) .af))))) none))
noncomputable abbrev AM:XS:=.eM [3,4] (.tup (.aa (.call aX (.aa (.var 1) (.aa (.lit (.int 6)) .af))) (.aa (.call aX (.aa (.var 1) (.aa (.lit (.int 4)) .af))) .af)))
noncomputable abbrev AL:XS:=.ifs (.or (.not (.call bI (.aa (.var 3) (.aa (.var 4) .af)))) (.or (.not (.call bI (.aa (.len (.var 2)) (.aa (.lit (.int 1)) .af)))) (.not (.call bI (.aa (.lit (.int 3)) (.aa (.lit (.int 0)) .af)))))) (.ret (.lit (.bool false))) (.nil)
noncomputable abbrev AK:XS:=.asg 5 (.bin .add (.bin .add (.len (.var 2)) (.lit (.int 1))) (.call aX (.aa (.var 1) (.aa (.lit (.int 2)) .af))))
noncomputable abbrev AI:XS:=.eM [6,7,8] (.tup (.aa (.call bL (.aa (.var 2) .af)) (.aa (.lst (.cC .af)) (.aa (.gm (.qV (.var 2))) .af))))
noncomputable abbrev AH:XS:=.whl (.jd (.var 8)) (.expr (.append (.var 7) (.ii (.var 8) (.call aX (.aa (.var 1) (.aa (.len (.var 8)) .af))))))
noncomputable abbrev AG:XS:=.ifs (.gj (.aE (.var 19) [19] false (.ix (.bin .add (.var 2) (.lst (.cC (.aa (.var 6) .af))))) (some (.not (.call cE (.aa (.var 19) (.aa (.var 5) .af))))))) (.ret (.lit (.bool false))) (.nil)
noncomputable abbrev yD:XS:=.asg 9 (.idx (.lst (.cC (.aa (.lit (.int 1)) (.aa (.lit (.int 2)) (.aa (.neg (.lit (.int 3))) .af))))) (.call aX (.aa (.var 1) (.aa (.lit (.int 3)) .af))))
noncomputable abbrev sM:XS:=.asg 10 (.lst (.aE (.lst (.aE (.bin .mul (.var 9) (.var 20)) [20] false (.ix (.call cS (.aa (.var 19) (.aa (.var 5) .af)))) none)) [19] false (.ix (.var 7)) none))
noncomputable abbrev sL:XS:=.for_ [11] false (.ix (.bin .add (.call bF (.aa (.len (.var 7)) (.aa (.lit (.int 1)) .af))) (.call bF (.aa (.len (.var 7)) (.aa (.lit (.int 2)) .af))))) (.ifs (.cmp .ne (.call bw (.aa (.var 10) (.aa (.var 11) (.aa (.var 5) .af)))) (.call bL (.aa (.lst (.aE (.idx (.var 7) (.var 19)) [19] false (.ix (.var 11)) none)) .af))) (.ret (.lit (.bool false))) (.nil))
noncomputable abbrev sK:XS:=.asg 12 (.call cM (.aa (.var 6) (.aa (.var 10) (.aa (.lit (.int 1)) (.aa (.var 5) .af)))))
noncomputable abbrev sI:XS:=.ifs (.or (.isn (.var 12)) (.or (.cmp .ne (.idx (.var 12) (.lit (.int 0))) (.tup (.aa (.lit (.int 0)) .af))) (.or (.cmp .ne (.idx (.var 12) (.lit (.int 1))) (.idx (.var 7) (.lit (.int 0)))) (.cmp .ne (.idx (.var 12) (.lit (.int 2))) (.call bL (.aa (.lst (.lsl (.var 7) (some 1) none)) .af)))))) (.ret (.lit (.bool false))) (.nil)
noncomputable abbrev sH:XS:=.ifs (.notn (.call cM (.aa (.dict (.aa (.tup (.aa (.lit (.int 0)) (.aa (.lit (.int 2)) .af))) (.aa (.tup (.aa (.lit (.int 1)) (.aa (.lit (.int 1)) .af))) (.aa (.tup (.aa (.lit (.int 0)) (.aa (.lit (.int 0)) .af))) (.aa (.tup (.aa (.lit (.int 7)) (.aa (.lit (.int 1)) .af))) .af))))) (.aa (.var 10) (.aa (.lit (.int 1)) (.aa (.var 5) .af)))))) (.ret (.lit (.bool false))) (.nil)
noncomputable abbrev sG:XS:=.ifs (.notn (.call cM (.aa (.var 6) (.aa (.lst (.cC (.aa (.lst (.cC (.aa (.lit (.int 5)) .af))) .af))) (.aa (.lit (.int 1)) (.aa (.var 5) .af)))))) (.ret (.lit (.bool false))) (.nil)
noncomputable abbrev sF:XS:=.ifs (.or (.cmp .ne (.call bd (.aa (.var 7) .af)) (.call bd (.aa (.var 2) .af))) (.cmp .ne (.len (.call bd (.aa (.var 7) .af))) (.len (.var 2)))) (.ret (.lit (.bool false))) (.nil)
noncomputable abbrev sE:XS:=.ifs (.gj (.aE (.var 19) [19] false (.ix (.var 2)) (some (.cmp .ke (.var 19) (.call bd (.aa (.var 7) .af)))))) (.ret (.lit (.bool false))) (.nil)
noncomputable abbrev sC:XS:=.eM [13,14] (.tup (.aa (.call gz (.aa (.idx (.lst (.cC (.aa (.lit (.int 1)) (.aa (.lit (.int 2)) (.aa (.neg (.lit (.int 3))) (.aa (.lit (.int 5)) .af)))))) (.call aX (.aa (.var 1) (.aa (.lit (.int 4)) .af)))) (.aa (.bin .add (.lit (.int 1)) (.call aX (.aa (.var 1) (.aa (.lit (.int 3)) .af)))) .af))) (.aa (.bin .add (.lit (.int 1)) (.call aX (.aa (.var 1) (.aa (.lit (.int 2)) .af)))) .af)))
noncomputable abbrev sz:XS:=.asg 15 (.call dN (.aa (.var 13) (.aa (.bin .add (.lst (.cC (.aa (.tup (.aa (.idx (.var 2) (.lit (.int 0))) (.aa (.var 14) .af))) .af))) (.lst (.aE (.tup (.aa (.var 19) (.aa (.lit (.int 1)) .af))) [19] false (.ix (.lst (.lsl (.var 2) (some 1) none))) none))) .af)))
noncomputable abbrev sw:XS:=.asg 16 (.call bL (.aa (.bin .add (.var 2) (.rep (.idx (.var 2) (.lit (.int 0))) (.bin .sub (.var 14) (.lit (.int 1))))) .af))
noncomputable abbrev sv:XS:=.asg 17 (.cI (.aE (.tup (.aa (.var 19) (.aa (.call gz (.aa (.bin .mul (.idx (.idx (.var 16) (.var 19)) (.lit (.int 0))) (.idx (.var 13) (.lit (.int 0)))) (.aa (.idx (.var 13) (.lit (.int 1))) .af))) .af))) [19] false (.ix (.var 16)) none))
noncomputable abbrev su:XS:=.ifs (.or (.cmp .ne (.var 15) (.var 17)) (.or (.cmp .ne (.call be (.aa (.var 15) .af)) (.tup (.aa (.var 13) (.aa (.var 16) .af)))) (.cmp .ne (.call be (.aa (.dict .af) .af)) (.tup (.aa (.tup (.aa (.lit (.int 0)) (.aa (.lit (.int 1)) .af))) (.aa (.dict .af) .af)))))) (.ret (.lit (.bool false))) (.nil)
noncomputable abbrev sn:XS:=.ifs (.or (.cmp .ne (.call ax (.aa (.var 16) (.aa (.dict (.aa (.tup (.aa (.lit (.int 0)) (.aa (.lit (.int 0)) .af))) (.aa (.var 13) .af))) .af))) (.var 17)) (.cmp .ne (.call ax (.aa (.var 16) (.aa (.dict .af) .af))) (.dict .af))) (.ret (.lit (.bool false))) (.nil)
noncomputable abbrev sm:XS:=.ifs (.cmp .ne (.call ax (.aa (.var 17) (.aa (.var 6) .af))) (.call ax (.aa (.var 6) (.aa (.var 17) .af)))) (.ret (.lit (.bool false))) (.nil)
noncomputable abbrev sk:XS:=.asg 18 (.tup (.aa (.dict .af) (.aa (.dict (.aa (.tup (.aa (.lit (.int 0)) (.aa (.lit (.int 0)) .af))) (.aa (.var 13) .af))) (.aa (.var 16) (.aa (.dict (.aa (.tup (.aa (.lit (.int 0)) (.aa (.lit (.int 1)) .af))) (.aa (.tup (.aa (.lit (.int 1)) (.aa (.lit (.int 1)) .af))) .af))) .af)))))
noncomputable abbrev sj:XS:=.ret (.cmp .eq (.lst (.aE (.call aQ (.aa (.var 19) .af)) [19] false (.ix (.var 18)) none)) (.lst (.cC (.aa (.lit (.bool true)) (.aa (.lit (.bool true)) (.aa (.lit (.bool false)) (.aa (.lit (.bool false)) .af)))))))
noncomputable def tt:XS:=.seq AP (.seq AN (.seq AM (.seq AL (.seq AK (.seq AI (.seq AH (.seq AG (.seq yD (.seq sM (.seq sL (.seq sK (.seq sI (.seq sH (.seq sG (.seq sF (.seq sE (.seq sC (.seq sz (.seq sw (.seq sv (.seq su (.seq sn (.seq sm (.seq sk sj))))))))))))))))))))))))
noncomputable def FT:List Fn:=[⟨2,2,Ak⟩,
 ⟨2,3,kD⟩,
 ⟨2,4,fZ⟩,
 ⟨2,4,dt⟩,
 ⟨2,4,fz⟩,
 ⟨2,3,Aj⟩,
 ⟨2,2,xO⟩,
 ⟨2,2,xL⟩,
 ⟨2,2,xN⟩,
 ⟨1,1,xK⟩,
 ⟨1,1,xM⟩,
 ⟨2,4,tr⟩,
 ⟨3,4,iR⟩,
 ⟨1,2,tq⟩,
 ⟨2,2,to⟩,
 ⟨2,3,nv⟩,
 ⟨3,4,nt⟩,
 ⟨2,6,qa⟩,
 ⟨2,4,eB⟩,
 ⟨3,13,iN⟩,
 ⟨2,4,j8⟩,
 ⟨2,7,xI⟩,
 ⟨1,5,gv⟩,
 ⟨1,2,f8⟩,
 ⟨2,5,kE⟩,
 ⟨2,5,ma⟩,
 ⟨2,5,j9⟩,
 ⟨3,5,fi⟩,
 ⟨4,7,fE⟩,
 ⟨1,5,gR⟩,
 ⟨2,6,fD⟩,
 ⟨2,9,fh⟩,
 ⟨2,3,iO⟩,
 ⟨1,5,iP⟩,
 ⟨1,8,iq⟩,
 ⟨2,7,f6⟩,
 ⟨2,6,f7⟩,
 ⟨1,21,tt⟩]
end
section
section
variable (H₀:Heap)
mutual
noncomputable def cj (h:Heap) (ρ:List Addr):Value->D->Prop
 |v,.none=>v = .none
 |v,.bool b=>v = .bool b
 |v,.int i=>∃t,v = .int i t
 |v,.str x=>∃t,v = .str x t
 |v,.tup ds=>∃a vs ep,v = .ref a/\h.get? a=some (seqObj "tuple" vs ep)/\ak h ρ vs.toList ds
 |v,.ref n=>∃a,v = .ref a/\ρ[n]?=some a
 |v,.fro ds=>∃a o vs ep,v = .ref a/\H₀.get? a=some o/\o.cls = .type "list"/\o.data = .seq vs ep/\ak h ρ vs.toList ds
noncomputable def ak (h:Heap) (ρ:List Addr):List Value->List D->Prop
 | [],[]=>True
 |v::vs,d::ds=>cj h ρ v d/\ak h ρ vs ds
 |_,_=>False
end
end
noncomputable abbrev C6 (prog:Program) (w:World):=intKind prog w
noncomputable abbrev ci (prog:Program) (w:World):HeapKind prog w (List Int):=tupleKind (intKind prog w)
section
variable {prog:Program} {w:World} {H₀:Heap}
@[elab_as_elim] theorem ak.ind {h:Heap} {ρ:List Addr} {P:List Value->List D->Prop} (h0:P [] []) (h1:∀v vs d ds,cj H₀ h ρ v d->ak H₀ h ρ vs ds->P vs ds->P (v::vs) (d::ds)) {vs:List Value}:∀{ds:List D},ak H₀ h ρ vs ds->P vs ds:=by
 induction vs with
 |nil=>
  intro ds r
  cases ds with
  |nil=>exact h0
  |cons _ _=>exact r.elim
 |cons v vs ih=>
  intro ds r
  cases ds with
  |nil=>exact r.elim
  |cons d ds=>exact h1 v vs d ds r.1 r.2 (ih r.2)
theorem ak.length {h:Heap} {ρ:List Addr} {vs:List Value} {ds:List D} (r:ak H₀ h ρ vs ds):vs.length=ds.length:=by
 refine ak.ind ?_ (fun _ _ _ _ _ _ ih=>?_) r
 ·rfl
 ·exact congrArg Nat.succ ih
theorem ak.size {h:Heap} {ρ:List Addr} {vs:Array Value} {ds:List D} (r:ak H₀ h ρ vs.toList ds):vs.size=ds.length:=Array.length_toList.symm.trans r.length
theorem ak.append {h:Heap} {ρ:List Addr} {vs:List Value} {ds:List D} {us:List Value} {es:List D} (x:ak H₀ h ρ vs ds) (y:ak H₀ h ρ us es):ak H₀ h ρ (vs++us) (ds++es):=by
 refine ak.ind ?_ (fun _ _ _ _ r _ ih=>?_) x
 ·exact y
 ·exact⟨r,ih⟩
theorem ak.get {h:Heap} {ρ:List Addr} {vs:List Value} {ds:List D} {i:Nat} {d:D} (r:ak H₀ h ρ vs ds):ds[i]?=some d->∃v,vs[i]?=some v/\cj H₀ h ρ v d:=by
 refine ak.ind (P:=fun vs ds=>∀i,ds[i]?=some d->∃v,vs[i]?=some v/\cj H₀ h ρ v d) ?_ (fun v vs d' ds r _ ih i=>?_) r i
 ·exact fun _=>nofun
 ·cases i with
  |zero=>exact fun e=>⟨v,rfl,Option.some.inj e▸r⟩
  |succ i=>exact ih i
theorem ak.set {h:Heap} {ρ:List Addr} {vs:List Value} {ds:List D} (i:Nat) {v:Value} {d:D} (x:ak H₀ h ρ vs ds) (y:cj H₀ h ρ v d):ak H₀ h ρ (vs.set i v) (ds.set i d):=by
 refine ak.ind (P:=fun vs ds=>∀i,ak H₀ h ρ (vs.set i v) (ds.set i d)) ?_ (fun _ _ _ _ r rs ih i=>?_) x i
 ·exact fun _=>trivial
 ·cases i with
  |zero=>exact⟨y,rs⟩
  |succ i=>exact⟨r,ih i⟩
theorem ak.eraseIdx {h:Heap} {ρ:List Addr} {vs:List Value} {ds:List D} (i:Nat) (x:ak H₀ h ρ vs ds):ak H₀ h ρ (vs.eraseIdx i) (ds.eraseIdx i):=by
 refine ak.ind (P:=fun vs ds=>∀i,ak H₀ h ρ (vs.eraseIdx i) (ds.eraseIdx i)) ?_ (fun _ _ _ _ r rs ih i=>?_) x i
 ·exact fun _=>trivial
 ·cases i with
  |zero=>exact rs
  |succ i=>exact⟨r,ih i⟩
theorem ak.take {h:Heap} {ρ:List Addr} {vs:List Value} {ds:List D} (n:Nat) (x:ak H₀ h ρ vs ds):ak H₀ h ρ (vs.take n) (ds.take n):=by
 refine ak.ind (P:=fun vs ds=>∀n,ak H₀ h ρ (vs.take n) (ds.take n)) ?_ (fun _ _ _ _ r rs ih i=>?_) x n
 ·exact fun n=>by rw[List.take_nil,List.take_nil];trivial
 ·cases i with
  |zero=>exact trivial
  |succ i=>exact⟨r,ih i⟩
theorem ak.drop {h:Heap} {ρ:List Addr} {vs:List Value} {ds:List D} (n:Nat) (x:ak H₀ h ρ vs ds):ak H₀ h ρ (vs.drop n) (ds.drop n):=by
 refine ak.ind (P:=fun vs ds=>∀n,ak H₀ h ρ (vs.drop n) (ds.drop n)) ?_ (fun _ _ _ _ r rs ih i=>?_) x n
 ·exact fun n=>by rw[List.drop_nil,List.drop_nil];trivial
 ·cases i with
  |zero=>exact⟨r,rs⟩
  |succ i=>exact ih i
theorem ak.rev {h:Heap} {ρ:List Addr} {vs:List Value} {ds:List D} (x:ak H₀ h ρ vs ds):ak H₀ h ρ vs.reverse ds.reverse:=by
 refine ak.ind ?_ (fun _ _ _ _ r _ ih=>?_) x
 ·trivial
 ·rw[List.reverse_cons,List.reverse_cons];exact ih.append ⟨r,trivial⟩
theorem ak.replicate {h:Heap} {ρ:List Addr} {v:Value} {d:D} (x:cj H₀ h ρ v d):∀n:Nat,ak H₀ h ρ (List.replicate n v) (List.replicate n d)
 |0=>trivial
 |n+1=>⟨x,ak.replicate x n⟩
noncomputable def nA (H₀:Heap) (h:Heap) (ρ:List Addr) (xs:List (List Int×Addr×Value)):Prop:=∀y∈xs,cj H₀ h ρ (.ref y.2.1) (ae y.1)
noncomputable def ObjRep (prog:Program) (w:World) (H₀:Heap) (h:Heap) (ρ:List Addr) (a:Addr):AO->Prop
 | .list ds _=>∃vs ep,h.get? a=some (seqObj "list" vs ep)/\ak H₀ h ρ vs.toList ds
 | .dict es _=>∃xs:List (List Int×Addr×Value),h.DictOfH (ci prog w) a xs/\xs.map (·.1)=es.map (·.1)/\ak H₀ h ρ (xs.map (·.2.2)) (es.map (·.2))/\nA H₀ h ρ xs
structure SR (prog:Program) (w:World) (H₀:Heap) (ρ:List Addr) (J:St) (h:Heap):Prop where
 keep:∀b o,H₀.get? b=some o->h.get? b=some o
 len:ρ.length=J.length
 nd:ρ.Nodup
 new:∀a∈ρ,H₀.get? a=none
 objs:∀(i:Nat) (a:Addr) (o:AO),ρ[i]?=some a->J[i]?=some o->ObjRep prog w H₀ h ρ a o
structure au (ρ:List Addr) (J:St) (ρ':List Addr) (J':St) (h h':Heap):Prop where
 pre:∃τ,ρ'=ρ++τ/\∀a∈τ,h.get? a=none
 ext:∀b o,h.get? b=some o->b∉ρ->h'.get? b=some o
 live:∀b o,h.get? b=some o->∃o',h'.get? b=some o'
 vers:∀(i:Nat) (o:AO),J[i]?=some o->∃o',J'[i]?=some o'/\o.ver<=o'.ver
 same:∀(i:Nat) (a:Addr) (o o':AO),ρ[i]?=some a->J[i]?=some o->J'[i]?=some o'->o.ver=o'.ver->h'.get? a=h.get? a
theorem au.refl (ρ:List Addr) (J:St) (h:Heap):au ρ J ρ J h h:=⟨⟨[],by simp,by simp⟩,fun _ _ e _=>e,fun _ o e=>⟨o,e⟩,fun _ o e=>⟨o,e,Nat.le_refl _⟩,fun _ _ _ _ _ _ _ _=>rfl⟩
theorem au.trans {ρ ρ' ρ'':List Addr} {J J' J'':St} {h h' h'':Heap} (x:au ρ J ρ' J' h h') (y:au ρ' J' ρ'' J'' h' h''):au ρ J ρ'' J'' h h'':=by
 obtain⟨τ,rfl,hτ⟩:=x.pre;obtain⟨τ',rfl,hτ'⟩:=y.pre;refine⟨⟨τ++τ',by simp,fun a ha=>?_⟩,fun b o e hb=>?_,fun b o e=>?_,fun i o e=>?_,fun i a o o'' ea eo eo'' hv=>?_⟩
 ·rcases List.mem_append.mp ha with ha|ha
  ·exact hτ a ha
  ·cases q:h.get? a with
   |none=>rfl
   |some o=>
    obtain⟨o',e⟩:=x.live a o q;rw[hτ' a ha] at e;cases e
 ·refine y.ext b o (x.ext b o e hb) fun hm=>?_;rcases List.mem_append.mp hm with hm|hm
  ·exact hb hm
  ·rw[hτ b hm] at e;cases e
 ·obtain⟨o',e'⟩:=x.live b o e;exact y.live b o' e'
 ·obtain⟨o1,e1,l1⟩:=x.vers i o e;obtain⟨o2,e2,l2⟩:=y.vers i o1 e1;exact⟨o2,e2,Nat.le_trans l1 l2⟩
 ·obtain⟨o1,e1,l1⟩:=x.vers i o eo;obtain⟨o2,e2,l2⟩:=y.vers i o1 e1;rw[eo''] at e2
  cases e2;have h1:=x.same i a o o1 ea eo e1 (by exists L30,0x2000210201820001810002836,hv,l1,l2);have h2:=y.same i a o1 o'' (by rw[List.getElem?_append_left (List.getElem?_eq_some_iff.mp ea).1];exact ea) e1 eo'' (by exists L30,0x1020210201820001810002836,hv,l1,l2);rw[h2,h1]
theorem au.keepsL {ρ:List Addr} {J:St} {h h':Heap} (hl:∀a∈ρ,∃o,h.get? a=some o) (k:∀b o,h.get? b=some o->h'.get? b=some o):au ρ J ρ J h h':=
 ⟨⟨[],by simp,by simp⟩,fun b o e _=>k b o e,fun b o e=>⟨o,k b o e⟩,fun _ o e=>⟨o,e,Nat.le_refl _⟩,fun i a _ _ ea _ _ _=>by
  obtain⟨o,e⟩:=hl a (List.mem_of_getElem? ea);rw[e,k a o e]⟩
theorem au.get {ρ ρ':List Addr} {J J':St} {h h':Heap} (x:au ρ J ρ' J' h h') {n:Nat} {a:Addr} (e:ρ[n]?=some a):ρ'[n]?=some a:=by
 obtain⟨τ,rfl,_⟩:=x.pre;rw[List.getElem?_append_left (List.getElem?_eq_some_iff.mp e).1];exact e
theorem ObjRep.is {h:Heap} {ρ:List Addr} {a:Addr} {o:AO} (x:ObjRep prog w H₀ h ρ a o):∃ob,h.get? a=some ob/\(ob.cls = .type "list"\/ob.cls = .type "dict"):=by
 cases o with
 |list ds _=>obtain⟨vs,ep,e,_⟩:=x;exact⟨_,e,.inl rfl⟩
 |dict es _=>obtain⟨xs,⟨o,es',ep,e,c,_⟩,_⟩:=x;exact⟨_,e,.inr c.1⟩
theorem SR.is {ρ:List Addr} {J:St} {h:Heap} (x:SR prog w H₀ ρ J h) {a:Addr} (ha:a∈ρ):∃ob,h.get? a=some ob/\(ob.cls = .type "list"\/ob.cls = .type "dict"):=by
 obtain⟨i,hi,rfl⟩:=List.getElem_of_mem ha;exact(x.objs i _ (J[i]'(by rw[<-x.len];exact hi)) (List.getElem?_eq_getElem hi) (List.getElem?_eq_getElem _)).is
theorem SR.tupNot {ρ:List Addr} {J:St} {h:Heap} (x:SR prog w H₀ ρ J h) {a:Addr} {vs:Array Value} {ep:Nat} (e:h.get? a=some (seqObj "tuple" vs ep)):a∉ρ:=fun ha=>by
 obtain⟨ob,e',hc⟩:=x.is ha;rw[e] at e'
 cases e';rcases hc with hc|hc<;>simp at hc
noncomputable def xU (ρ ρ':List Addr):Prop:=∀(n:Nat) (a:Addr),ρ[n]?=some a->ρ'[n]?=some a
noncomputable def cg (h h':Heap):Prop:=∀a vs ep,h.get? a=some (seqObj "tuple" vs ep)->h'.get? a=some (seqObj "tuple" vs ep)
mutual
theorem cj.mono {h h':Heap} {ρ ρ':List Addr} (k:cg h h') (p:xU ρ ρ'):∀{v:Value} (d:D),cj H₀ h ρ v d->cj H₀ h' ρ' v d
 |_,.none,x=>x
 |_,.bool _,x=>x
 |_,.int _,x=>x
 |_,.str _,x=>x
 |_,.tup ds,⟨a,vs,ep,e,g,r⟩=>⟨a,vs,ep,e,k a vs ep g,ak.mono k p ds r⟩
 |_,.ref n,⟨a,e,g⟩=>⟨a,e,p n a g⟩
 |_,.fro ds,⟨a,o,vs,ep,e,g,c,dd,r⟩=>⟨a,o,vs,ep,e,g,c,dd,ak.mono k p ds r⟩
theorem ak.mono {h h':Heap} {ρ ρ':List Addr} (k:cg h h') (p:xU ρ ρ'):∀{vs:List Value} (ds:List D),ak H₀ h ρ vs ds->ak H₀ h' ρ' vs ds
 | [],[],x=>x
 |_::_,d::ds,x=>⟨cj.mono k p d x.1,ak.mono k p ds x.2⟩
 | [],_::_,x=>x.elim
 |_::_,[],x=>x.elim
end
theorem au.keeps {ρ:List Addr} {J:St} {h h':Heap} (x:SR prog w H₀ ρ J h) (k:∀b o,h.get? b=some o->h'.get? b=some o):au ρ J ρ J h h':=
 au.keepsL (fun _ ha=>let ⟨o,e,_⟩:=x.is ha;⟨o,e⟩) k
theorem SR.tupKeep {ρ ρ':List Addr} {J J₀ J':St} {h h':Heap} (x:SR prog w H₀ ρ J h) (g:au ρ J₀ ρ' J' h h'):cg h h':=fun _ _ _ e=>g.ext _ _ e (x.tupNot e)
theorem cj.grow {ρ ρ':List Addr} {J J₀ J':St} {h h':Heap} {v:Value} {d:D} (r:cj H₀ h ρ v d) (x:SR prog w H₀ ρ J h) (g:au ρ J₀ ρ' J' h h'):cj H₀ h' ρ' v d:=
 cj.mono (x.tupKeep g) (fun _ _ e=>g.get e) d r
theorem ak.grow {ρ ρ':List Addr} {J J₀ J':St} {h h':Heap} {vs:List Value} {ds:List D} (r:ak H₀ h ρ vs ds) (x:SR prog w H₀ ρ J h) (g:au ρ J₀ ρ' J' h h'):ak H₀ h' ρ' vs ds:=
 ak.mono (x.tupKeep g) (fun _ _ e=>g.get e) ds r
theorem gL {h h':Heap} {ks:List Int} {a:Addr} (x:(ci prog w).is h ks a) (k:∀o,h.get? a=some o->h'.get? a=some o):(ci prog w).is h' ks a:=by
 obtain⟨o,items,n,ho,hc,hd,hi⟩:=x;exact⟨o,items,n,k o ho,hc,hd,hi⟩
theorem pC {ρ:List Addr} {J:St} {h:Heap} (x:SR prog w H₀ ρ J h) {ks:List Int} {a:Addr} (y:(ci prog w).is h ks a):a∉ρ:=fun ha=>by
 obtain⟨ob,e,hc⟩:=x.is ha;obtain⟨o,items,n,ho,hc',_⟩:=y;rw[e] at ho
 cases ho;rw[hc'] at hc;rcases hc with hc|hc<;>simp at hc
theorem ObjRep.stay {ρ ρ':List Addr} {J:St} {h h':Heap} {a:Addr} {o:AO} (r:ObjRep prog w H₀ h ρ a o) (x:SR prog w H₀ ρ J h) (k:cg h h') (p:xU ρ ρ')
  (here:∀ob,h.get? a=some ob->h'.get? a=some ob) (other:∀b ob,b∉ρ->h.get? b=some ob->h'.get? b=some ob):ObjRep prog w H₀ h' ρ' a o:=by
 cases o with
 |list ds _=>
  obtain⟨vs,ep,e,r⟩:=r;exact⟨vs,ep,here _ e,ak.mono k p ds r⟩
 |dict es _=>
  obtain⟨xs,⟨o,es',ep,e,c,d,he,hk,hn⟩,hm,r,kr⟩:=r;exact⟨xs,⟨o,es',ep,here _ e,c,d,he,fun y hy=>gL (hk y hy) fun o' e'=>other _ o' (pC x (hk y hy)) e',hn⟩,hm,ak.mono k p _ r,fun y hy=>cj.mono k p _ (kr y hy)⟩
theorem SR.keeps {ρ:List Addr} {J:St} {h h':Heap} (x:SR prog w H₀ ρ J h) (k:∀b o,h.get? b=some o->h'.get? b=some o):SR prog w H₀ ρ J h' where
 keep:=fun b o e=>k b o (x.keep b o e)
 len:=x.len
 nd:=x.nd
 new:=x.new
 objs:=fun i a o e e'=>(x.objs i a o e e').stay x (fun _ _ _ e=>k _ _ e) (fun _ _ e=>e) (fun ob=>k a ob) (fun b ob _=>k b ob)
theorem SR.freshNot {ρ:List Addr} {J:St} {h:Heap} (x:SR prog w H₀ ρ J h) {a:Addr} (ha:h.get? a=none):a∉ρ:=fun hm=>by
 obtain⟨ob,e,_⟩:=x.is hm;rw[ha] at e;cases e
theorem SR.freshBase {ρ:List Addr} {J:St} {h:Heap} (x:SR prog w H₀ ρ J h) {a:Addr} (ha:h.get? a=none):H₀.get? a=none:=by
 cases q:H₀.get? a with
 |none=>rfl
 |some o=>rw[x.keep a o q] at ha;cases ha
theorem SR.adopt {ρ:List Addr} {J:St} {h:Heap} {a:Addr} {o:AO} (x:SR prog w H₀ ρ J h) (ha:a∉ρ) (hl:H₀.get? a=none) (r:ObjRep prog w H₀ h (ρ++[a]) a o):SR prog w H₀ (ρ++[a]) (J++[o]) h where
 keep:=x.keep
 len:=by simp[x.len]
 nd:=by
  rw[List.nodup_append];refine⟨x.nd,by simp,fun b hb c hc=>?_⟩;simp only[List.mem_singleton] at hc;subst hc
  exact fun e=>ha (e▸hb)
 new:=fun b hb=>by
  rcases List.mem_append.mp hb with hb|hb
  ·exact x.new b hb
  ·simp only[List.mem_singleton] at hb;subst hb;exact hl
 objs:=fun i b p e e'=>by
  by_cases hi:i<ρ.length
  ·rw[List.getElem?_append_left hi] at e;rw[List.getElem?_append_left (by rw[<-x.len];exact hi)] at e';exact(x.objs i b p e e').stay x (fun _ _ _ e=>e) (fun n c e=>by rw[List.getElem?_append_left (List.getElem?_eq_some_iff.mp e).1];exact e) (fun _ e=>e) (fun _ _ _ e=>e)
  ·have hi':i=ρ.length:=by
    have:=(List.getElem?_eq_some_iff.mp e).1;simp at this;exists L20,0x1000211110200089100008824,hi,this
   subst hi';rw[List.getElem?_append_right (Nat.le_refl _),Nat.sub_self] at e;rw[x.len,List.getElem?_append_right (Nat.le_refl _),Nat.sub_self] at e';simp at e e';subst e;subst e';exact r
theorem au.adopt {ρ ρ':List Addr} {J J':St} {h h':Heap} {a:Addr} {ob:AO} (g:au ρ J ρ' J' h h') (ha:h.get? a=none):au ρ J (ρ'++[a]) (J'++[ob]) h h':=by
 obtain⟨τ,rfl,hτ⟩:=g.pre;exact⟨⟨τ++[a],by simp,fun b hb=>by
  rcases List.mem_append.mp hb with hb|hb
  ·exact hτ b hb
  ·simp only[List.mem_singleton] at hb;subst hb;exact ha⟩,g.ext,g.live,fun i o e=>by
   obtain⟨o',e',l⟩:=g.vers i o e;exact⟨o',by rw[List.getElem?_append_left (List.getElem?_eq_some_iff.mp e').1];exact e',l⟩,fun i b o o' ea eo eo' hv=>by
   obtain⟨o1,e1,_⟩:=g.vers i o eo;rw[List.getElem?_append_left (List.getElem?_eq_some_iff.mp e1).1] at eo';exact g.same i b o o' ea eo eo' hv⟩
theorem SR.update {ρ:List Addr} {J:St} {h h':Heap} {i:Nat} {a:Addr} {o o':AO} (x:SR prog w H₀ ρ J h) (ei:ρ[i]?=some a) (_eo:J[i]?=some o) (hs:Heap.SameBut a h h') (r:ObjRep prog w H₀ h' ρ a o'):SR prog w H₀ ρ (J.set i o') h':=by
 have hia:a∈ρ:=List.mem_of_getElem? ei
 have hne:∀b,b≠a->∀ob,h.get? b=some ob->h'.get? b=some ob:=fun b hb ob e=>(hs.2 b hb).trans e
 have htk:cg h h':=fun b vs ep e=>hne b (fun q=>x.tupNot e (q▸hia)) _ e;refine⟨fun b ob e=>hne b (fun q=>?_) _ (x.keep b ob e),by simp[x.len],x.nd,x.new,fun j b p e e'=>?_⟩
 ·subst q;rw[x.new b hia] at e;cases e
 ·by_cases hj:i=j
  ·subst hj;rw[ei] at e;cases e;rw[List.getElem?_set_self (by rw[<-x.len];exact(List.getElem?_eq_some_iff.mp ei).1)] at e'
   cases e';exact r
  ·rw[List.getElem?_set_ne hj] at e'
   have hba:b≠a:=fun q=>hj ((List.getElem?_inj (List.getElem?_eq_some_iff.mp ei).1 x.nd).mp (by rw[ei,e,q]));exact(x.objs j b p e e').stay x htk (fun _ _ e=>e) (fun ob=>hne b hba ob) (fun c ob hc=>hne c (fun q=>hc (q▸hia)) ob)
theorem au.update {ρ:List Addr} {J:St} {h h':Heap} {i:Nat} {a:Addr} {o':Obj} {p p':AO} (nd:ρ.Nodup) (ei:ρ[i]?=some a) (ep:J[i]?=some p) (hv:p.ver<p'.ver) (hs:Heap.SameBut a h h') (e':h'.get? a=some o'):au ρ J ρ (J.set i p') h h':=
 have ha:=List.mem_of_getElem? ei;⟨⟨[],by simp,by simp⟩,fun b _ e hb=>(hs.2 b (fun q=>hb (q▸ha))).trans e,fun b o e=>by
  by_cases q:b=a
  ·subst q;exact⟨o',e'⟩
  ·exact⟨o,(hs.2 b q).trans e⟩,fun j o e=>by
  by_cases q:i=j
  ·subst q;rw[ep] at e;cases e;exact⟨p',List.getElem?_set_self (List.getElem?_eq_some_iff.mp ep).1,Nat.le_of_lt hv⟩
  ·exact⟨o,by rw[List.getElem?_set_ne q];exact e,Nat.le_refl _⟩,fun j b o o1 ej eo eo1 hvv=>by
  by_cases q:i=j
  ·subst q;rw[ep] at eo;cases eo;rw[List.getElem?_set_self (List.getElem?_eq_some_iff.mp ep).1] at eo1
   cases eo1;omega
  ·have hba:b≠a:=fun z=>q ((List.getElem?_inj (List.getElem?_eq_some_iff.mp ei).1 nd).mp (by rw[ei,ej,z]));exact hs.2 b hba⟩
theorem ObjRep.here {h:Heap} {ρ:List Addr} {a:Addr} {o:AO} (r:ObjRep prog w H₀ h ρ a o):∃ob,h.get? a=some ob:=let ⟨ob,e,_⟩:=r.is;⟨ob,e⟩
theorem zZ.tupKeep {ρ:List Addr} {J:St} {h h':Heap} {a:Addr} (x:SR prog w H₀ ρ J h) (ha:a∈ρ) (hs:Heap.SameBut a h h'):cg h h':=
 fun b vs ep e=>(hs.2 b (fun q=>x.tupNot e (q▸ha))).trans e
theorem ak.same {ρ:List Addr} {J:St} {h h':Heap} {a:Addr} {vs:List Value} {ds:List D} (r:ak H₀ h ρ vs ds) (x:SR prog w H₀ ρ J h) (ha:a∈ρ) (hs:Heap.SameBut a h h'):ak H₀ h' ρ vs ds:=
 ak.mono (zZ.tupKeep x ha hs) (fun _ _ e=>e) _ r
end
end
section
section
variable {prog:Program} {w:World} {H₀:Heap} {A:Around} {E:Value->Shared->Prop} {s:Shared}
noncomputable abbrev fp (prog:Program) (w:World) (H₀:Heap) (ρ:List Addr) (J J':St) (s:Shared) (d:D) (Q:Value->Shared->Prop):Prop:=
 ∀v ρ' h' tk',au ρ J ρ' J' s.heap h'->SR prog w H₀ ρ' J' h'->cj H₀ h' ρ' v d->Q v { s with heap:=h',toks:=tk' }
theorem fp.same {ρ:List Addr} {J:St} {d:D} {Q:Value->Shared->Prop} (p:fp prog w H₀ ρ J J s d Q) (x:SR prog w H₀ ρ J s.heap) {v:Value} (r:cj H₀ s.heap ρ v d):Q v s:=
 p v ρ s.heap s.toks (au.refl _ _ _) x r
theorem fp.tok {ρ:List Addr} {J:St} {d:D} {Q:Value->Shared->Prop} (p:fp prog w H₀ ρ J J s d Q) (x:SR prog w H₀ ρ J s.heap) {v:Value} (tk:Nat) (r:cj H₀ s.heap ρ v d):Q v { s with toks:=tk }:=
 p v ρ s.heap tk (au.refl _ _ _) x r
theorem au.push {ρ:List Addr} {J:St} {h:Heap} (x:SR prog w H₀ ρ J h) (o:Obj):au ρ J ρ J h (h.push o):=au.keeps x (fun _ _ e=>Heap.get?_push_of_some o e)
theorem SR.push {ρ:List Addr} {J:St} {h:Heap} (x:SR prog w H₀ ρ J h) (o:Obj):SR prog w H₀ ρ J (h.push o):=x.keeps (fun _ _ e=>Heap.get?_push_of_some o e)
theorem aO (h:Heap):h.get? h.objs.size=none:=by
 cases q:h.get? h.objs.size with
 |none=>rfl
 |some o=>exact absurd (Heap.lt_size q) (Nat.lt_irrefl _)
theorem SR.sizeNot {ρ:List Addr} {J:St} {h:Heap} (x:SR prog w H₀ ρ J h):h.objs.size∉ρ:=x.freshNot (aO h)
theorem ak.push {ρ:List Addr} {J:St} {h:Heap} {vs:List Value} {ds:List D} (r:ak H₀ h ρ vs ds) (x:SR prog w H₀ ρ J h) (o:Obj):ak H₀ (h.push o) ρ vs ds:=r.grow x (au.push x o)
theorem cj.push {ρ:List Addr} {J:St} {h:Heap} {v:Value} {d:D} (r:cj H₀ h ρ v d) (x:SR prog w H₀ ρ J h) (o:Obj):cj H₀ (h.push o) ρ v d:=r.grow x (au.push x o)
theorem ak.more {ρ:List Addr} {h:Heap} {vs:List Value} {ds:List D} (r:ak H₀ h ρ vs ds) (a:Addr):ak H₀ h (ρ++[a]) vs ds:=
 ak.mono (fun _ _ _ e=>e) (fun _ _ e=>by rw[List.getElem?_append_left (List.getElem?_eq_some_iff.mp e).1];exact e) ds r
theorem fp.newList {ρ:List Addr} {J:St} {ds:List D} {Q:Value->Shared->Prop} (p:fp prog w H₀ ρ J (J++[.list ds 0]) s (.ref J.length) Q) (x:SR prog w H₀ ρ J s.heap) {vs:List Value} (tk:Nat)
  (r:ak H₀ s.heap ρ vs ds):Q (.ref s.heap.objs.size) { s with heap:=s.heap.push { cls:=.type "list",data:=.seq vs.toArray },toks:=tk }:=by
 have x':=x.push { cls:=.type "list",data:=.seq vs.toArray };refine p _ (ρ++[s.heap.objs.size]) _ _ ((au.push x _).adopt (aO _)) (x'.adopt x.sizeNot (x.freshBase (aO _)) ⟨vs.toArray,0,Heap.get?_push_size _ rfl,?_⟩) ⟨_,rfl,?_⟩
 ·exact(r.push x _).more _
 ·rw[<-x.len,List.getElem?_append_right (Nat.le_refl _),Nat.sub_self];rfl
theorem fp.newTup {ρ:List Addr} {J:St} {ds:List D} {Q:Value->Shared->Prop} (p:fp prog w H₀ ρ J J s (.tup ds) Q) (x:SR prog w H₀ ρ J s.heap) {vs:List Value} (tk:Nat)
  (r:ak H₀ s.heap ρ vs ds):Q (.ref s.heap.objs.size) { s with heap:=s.heap.push { cls:=.type "tuple",data:=.seq vs.toArray },toks:=tk }:=
 p _ ρ _ _ (au.push x _) (x.push _) ⟨_,_,_,rfl,Heap.get?_push_size _ rfl,r.push x _⟩
theorem bC {n:Nat} (h:n<ay):n<=sizeLine:=by
 unfold ay at h;rw[sizeLine_eq];omega
theorem Cj {x y:Int} (h:x.natAbs<2^63\/y.natAbs<2^63):IntMulOk x y:=by
 have bits:∀z:Int,z.natAbs<2^63->Builtin.Int.intBits z<=64:=fun z hz=>by
  unfold Builtin.Int.intBits;by_cases h0:z=0
  ·subst h0;simp
  ·have h1:z.natAbs≠0:=by exists L11,0x901100280060075011003600007500011467890110058812,h0,(fa (z))
   have:=(Nat.log2_lt h1).mpr hz;simp[h0];exact Nat.le_of_lt this
 rcases h with h|h
 ·exact .of_left (bits x h)
 ·exact .of_right (bits y h)
noncomputable def uR.py:uR->Operator
 | .add=>.Add | .sub=>.Sub | .mul=>.Mult | .fdiv=>.FloorDiv | .mod=>.Mod | .pow=>.Pow
theorem gQ {op:uR} {a b:D} {J:St} {z:D×St} (e:dW op a b J=some z) (hop:Nat.beq op.ctorIdx 0=false):∃x y,a = .int x/\b = .int y:=by
 cases op with
 |add=>exact(Bool.false_ne_true hop.symm).elim
 |_=>cases a with
  |int x=>cases b with
   |int y=>exact⟨x,y,rfl,rfl⟩
   |_=>exact(Option.some_ne_none _ e.symm).elim
  |_=>exact(Option.some_ne_none _ e.symm).elim
theorem Bx {op:uR} {a b d:D} {va vb:Value} {ρ:List Addr} {J J':St} {Q:Value->Shared->Prop} (x:SR prog w H₀ ρ J s.heap) (ra:cj H₀ s.heap ρ va a) (rb:cj H₀ s.heap ρ vb b)
  (e:dW op a b J=some (d,J')):fp prog w H₀ ρ J J' s d Q->wpAny (model prog w) A (binaryOp op.py va vb) Q E s:=by
 cases op with
 |add=>
  cases a with
  |int i=>cases b with
   |int j=>
    refine oS (fun p=>?_) e;obtain⟨t,rfl⟩:=ra;obtain⟨u,rfl⟩:=rb;exact P.add_int (p.tok x _ ⟨_,rfl⟩)
   |_=>exact(Option.some_ne_none _ e.symm).elim
  |tup xs=>cases b with
   |tup ys=>
    refine ch (fun hm e=>?_) e
    refine oS (fun p=>?_) e;obtain⟨t,vs,ep,rfl,g,r⟩:=ra;obtain⟨u,ws,ep',rfl,g',r'⟩:=rb;have hl:vs.toList.length+ws.toList.length<=sizeLine:=by rw[r.length,r'.length];exact bC hm
    by_cases hv:vs.isEmpty=true
    ·refine concat_meets ⟨_,g,rfl⟩ ⟨_,g',rfl⟩ noFill_tuple_add seq_tuple_add PySem.F.slot_tuple_add PySem.F.entry_tuple_add (PySem.F.args_tuple_add_2 _ _)
      (tuple_addW0 t u vs ws ep ep' none none #[] #[] hv) ⟨g,g',?_⟩
     have h0:vs.toList=[]:=by simpa using hv
     have hx:xs=[]:=by
      have:=r.length;rw[h0] at this;exact List.length_eq_zero_iff.mp this.symm
     subst hx;exact p.same x ⟨u,ws,ep',rfl,g',r'⟩
    ·by_cases hw:ws.isEmpty=true
     ·refine concat_meets ⟨_,g,rfl⟩ ⟨_,g',rfl⟩ noFill_tuple_add seq_tuple_add PySem.F.slot_tuple_add PySem.F.entry_tuple_add (PySem.F.args_tuple_add_2 _ _)
       (tuple_addW1 t u vs ws ep ep' none none #[] #[] hv hw) ⟨g,g',?_⟩
      have h0:ws.toList=[]:=by simpa using hw
      have hx:ys=[]:=by
       have:=r'.length;rw[h0] at this;exact List.length_eq_zero_iff.mp this.symm
      subst hx;exact p.same x ⟨t,vs,ep,rfl,g,by rw[List.append_nil];exact r⟩
     ·refine concat_meets ⟨_,g,rfl⟩ ⟨_,g',rfl⟩ noFill_tuple_add seq_tuple_add PySem.F.slot_tuple_add PySem.F.entry_tuple_add (PySem.F.args_tuple_add_2 _ _)
       (tuple_addW2 t u vs ws ep ep' none none #[] #[] hv hw (by simpa using hl)) ⟨g,g',?_⟩
      have e:vs++ws=(vs.toList++ws.toList).toArray:=by simp
      rw[e];exact p.newTup x _ (r.append r')
   |_=>exact(Option.some_ne_none _ e.symm).elim
  |ref i=>cases b with
   |ref j=>
    revert e
    show(match J[i]?,J[j]? with|some (.list xs _),some (.list ys _)=>if xs.length+ys.length<ay then some (D.ref J.length,J++[AO.list (xs++ys) 0]) else none|_,_=>none)=some (d,J')->_
    refine Cc fun xs v1 ys v2 hi hj=>ch fun hm e=>?_
    refine oS (fun p=>?_) e;obtain⟨t,rfl,ht⟩:=ra;obtain⟨u,rfl,hu⟩:=rb;obtain⟨vs,ep,g,r⟩:=x.objs _ _ _ ht hi;obtain⟨ws,ep',g',r'⟩:=x.objs _ _ _ hu hj;have hl:vs.toList.length+ws.toList.length<=sizeLine:=by rw[r.length,r'.length];exact bC hm
    refine concat_meets ⟨_,g,rfl⟩ ⟨_,g',rfl⟩ noFill_list_add seq_list_add PySem.F.slot_list_add PySem.F.entry_list_add (PySem.F.args_list_add_2 _ _) (list_addW t u vs ws ep ep' none none #[] #[] (by simpa using hl)) ⟨g,g',?_⟩;have e:vs++ws=(vs.toList++ws.toList).toArray:=by simp
    rw[e];exact p.newList x _ (r.append r')
   |_=>exact(Option.some_ne_none _ e.symm).elim
  |_=>exact(Option.some_ne_none _ e.symm).elim
 |sub=>
  obtain⟨i,j,rfl,rfl⟩:=gQ e rfl
  refine oS (fun p=>?_) e;obtain⟨t,rfl⟩:=ra;obtain⟨u,rfl⟩:=rb;exact P.sub_int (p.tok x _ ⟨_,rfl⟩)
 |mul=>
  obtain⟨i,j,rfl,rfl⟩:=gQ e rfl
  refine ch (fun hm e=>?_) e
  refine oS (fun p=>?_) e;obtain⟨t,rfl⟩:=ra;obtain⟨u,rfl⟩:=rb;exact P.mul_int (p.tok x _ ⟨_,rfl⟩) (Cj hm)
 |fdiv=>
  obtain⟨i,j,rfl,rfl⟩:=gQ e rfl
  refine ch (fun hm e=>?_) e
  refine oS (fun p=>?_) e;obtain⟨t,rfl⟩:=ra;obtain⟨u,rfl⟩:=rb;exact floordiv_int hm.1 (p.tok x _ ⟨_,rfl⟩) (.inl (PyProof.noPylong_small (by exact(hm).2)))
 |mod=>
  obtain⟨i,j,rfl,rfl⟩:=gQ e rfl
  refine ch (fun hm e=>?_) e
  refine oS (fun p=>?_) e;obtain⟨t,rfl⟩:=ra;obtain⟨u,rfl⟩:=rb;exact PyProof.Rows.mod_int' hm (p.tok x _ ⟨_,rfl⟩)
 |pow=>
  obtain⟨i,j,rfl,rfl⟩:=gQ e rfl
  refine ch (fun hm e=>?_) e
  refine oS (fun p=>?_) e;obtain⟨t,rfl⟩:=ra;obtain⟨u,rfl⟩:=rb;refine pow_int hm.2.1 ?_ (p.tok x _ ⟨_,rfl⟩);have h2:Builtin.Int.intBits 2=2:=by decide +kernel
  rw[hm.1,h2];omega
end
end
theorem n3 {prog prog':Program} {w w':World} {ks:List Int} {vs:List Value} (x:ItemsAre (intKind prog w) ks vs):ItemsAre (intKind prog' w') ks vs:=by
 induction x with
 |nil=>exact .nil
 |cons h _ ih=>exact .cons h ih
theorem ud {prog prog':Program} {w w':World} {h:Heap} {ks:List Int} {a:Addr} (x:(ci prog w).is h ks a):(ci prog' w').is h ks a:=by
 obtain⟨o,items,n,ho,hc,hd,hi⟩:=x;exact⟨o,items,n,ho,hc,hd,n3 hi⟩
theorem fx {prog prog':Program} {w w':World} {h:Heap} {a:Addr} {xs:List (List Int×Addr×Value)} (x:h.DictOfH (ci prog w) a xs):h.DictOfH (ci prog' w') a xs:=by
 obtain⟨o,es,ep,ho,hc,hd,he,hk,hn⟩:=x;refine⟨o,es,ep,ho,hc,hd,?_,?_,hn⟩
 ·exact he
 ·exact fun y hy=>ud (hk y hy)
section
variable {prog:Program} {w:World} {H₀:Heap} {A:Around} {E:Value->Shared->Prop} {s:Shared} {ρ:List Addr} {J:St}
inductive gx (J:St) (f:D->D->Option Bool):D->D->Bool->Prop
 |none:gx J f .none .none true
 |bool (x y:Bool):gx J f (.bool x) (.bool y) (x==y)
 |int (x y:Int):gx J f (.int x) (.int y) (x==y)
 |str (x y:Str):gx J f (.str x) (.str y) (x==y)
 |tup (xs ys:List D) (r:Bool):de f xs ys=some r->gx J f (.tup xs) (.tup ys) r
 |same (i:Nat):gx J f (.ref i) (.ref i) true
 |list (i j:Nat) (xs ys:List D) (v u:Nat) (r:Bool):i≠j->J[i]?=some (.list xs v)->J[j]?=some (.list ys u)->(if xs.length=ys.length then de f xs ys else some false)=some r->gx J f (.ref i) (.ref j) r
 |dict (i j:Nat) (xs ys:Es) (v u:Nat) (r:Bool):i≠j->J[i]?=some (.dict xs v)->J[j]?=some (.dict ys u)->(if xs.length=ys.length then jv f ys xs else some false)=some r->gx J f (.ref i) (.ref j) r
theorem zN {n:Nat} {a b:D} {r:Bool} (e:cY J (n+1) a b=some r):gx J (cY J n) a b r:=by
 cases a with
 |none=>cases b with
  |none=>exact os .none e
  |_=>exact dR e
 |bool x=>cases b with
  |bool y=>exact os (.bool x y) e
  |_=>exact dR e
 |int x=>cases b with
  |int y=>exact os (.int x y) e
  |_=>exact dR e
 |str x=>cases b with
  |str y=>exact os (.str x y) e
  |_=>exact dR e
 |tup xs=>cases b with
  |tup ys=>exact ch (fun _ e=>.tup xs ys r e) e
  |_=>exact dR e
 |fro xs=>exact dR e
 |ref i=>cases b with
  |ref j=>
   refine oX (fun hij e'=>?_) (fun hij e'=>?_) e
   ·cases hij;exact os (.same i) e'
   ·revert e'
    exact AY (fun xs v ys u hi hj e=>.list i j xs ys v u r hij hi hj e) (fun xs v ys u hi hj e=>.dict i j xs ys v u r hij hi hj e)
  |_=>exact dR e
theorem ti {i:Nat} {r:Bool}:∀{n:Nat} {a:D},cY J n a (.ref i)=some r->∃k,a = .ref k
 |0,_,e=>dR e
 |n+1,a,e=>by
  cases a with
  |ref k=>exact⟨k,rfl⟩
  |_=>exact dR e
inductive uT (P:Value->Value->Bool->Prop):List Value->List Value->Bool->Prop
 |nil:uT P [] [] true
 |cons (v u:Value) (b:Bool) (vs us:List Value) (q:Bool):P v u b->uT P vs us q->uT P (v::vs) (u::us) (b&&q)
theorem uT.len {P:Value->Value->Bool->Prop} {vs us:List Value} {r:Bool} (x:uT P vs us r):vs.length=us.length:=by
 induction x with
 |nil=>rfl
 |cons _ _ _ _ _ _ _ _ ih=>exact congrArg Nat.succ ih
theorem uT.fn {P:Value->Value->Bool->Prop} {vs us:List Value} {r:Bool} (x:uT P vs us r):∃e:Nat->Bool,(∀j (h1:j<vs.length) (h2:j<us.length),P vs[j] us[j] (e j))/\(List.range vs.length).all e=r:=by
 induction x with
 |nil=>exact⟨fun _=>true,fun j h1 _=>absurd h1 (Nat.not_lt_zero _),rfl⟩
 |cons v u b vs us q h x ih=>
  obtain⟨e,h1,h2⟩:=ih;refine⟨fun j=>Nat.casesOn j b e,fun j=>?_,?_⟩
  ·cases j with
   |zero=>exact fun _ _=>h
   |succ j=>exact fun g1 g2=>h1 j (Nat.lt_of_succ_lt_succ g1) (Nat.lt_of_succ_lt_succ g2)
  ·rw[List.length_cons,List.range_succ_eq_map,List.all_cons,List.all_map,<-h2];rfl
theorem uT.same {P:Value->Value->Bool->Prop} (hp:∀v b,P v v b->b=true) {vs us:List Value} {r:Bool} (x:uT P vs us r):vs=us->r=true:=by
 induction x with
 |nil=>exact fun _=>rfl
 |cons v u b vs us q h x ih=>
  intro e;injection e with e1 e2
  subst e1;rw[hp v b h,ih e2];rfl
theorem mZ {f:D->D->Option Bool} {h:Heap} {P:Value->Value->Bool->Prop} (hf:∀v u a b r,cj H₀ h ρ v a->cj H₀ h ρ u b->f a b=some r->P v u r)
  {vs:List Value} {xs:List D} (hx:ak H₀ h ρ vs xs):∀(us:List Value) (ys:List D) (r:Bool),ak H₀ h ρ us ys->de f xs ys=some r->uT P vs us r:=by
 refine ak.ind ?_ (fun v vs x xs hv _ ih=>?_) hx
 ·intro us ys r hy
  refine ak.ind (P:=fun us ys=>de f [] ys=some r->uT P [] us r) ?_ (fun _ _ _ _ _ _ _=>dR) hy;exact os .nil
 ·intro us ys r hy
  refine ak.ind (P:=fun us ys=>de f (x::xs) ys=some r->uT P (v::vs) us r) dR (fun u us y ys hu hus _=>?_) hy
  exact Ad fun a b h1 h2=>.cons v u a vs us b (hf v u x y a hv hu h1) (ih us ys b hus h2)
inductive jI (A:Around) (s:Shared) (ys:List (List Int×Addr×Value)):List (List Int×Addr×Value)->Bool->Prop
 |nil:jI A s ys [] true
 |miss {k a v r}:atKey ys k=none->jI A s ys ((k,a,v)::r) false
 |hit {k a v b u r e q}:atKey ys k=some (b,u)->EqAt A s v u e->jI A s ys r q->jI A s ys ((k,a,v)::r) (e&&q)
theorem jI.inv {ys r:List (List Int×Addr×Value)} {k:List Int} {a:Addr} {v:Value} {q:Bool} (h:jI A s ys ((k,a,v)::r) q) :
  (atKey ys k=none/\q=false)\/∃b u e q',atKey ys k=some (b,u)/\EqAt A s v u e/\jI A s ys r q'/\q=(e&&q'):=by
 cases h with
 |miss hn=>exact .inl ⟨hn,rfl⟩
 |hit h1 h2 h3=>exact .inr ⟨_,_,_,_,h1,h2,h3,rfl⟩
set_option maxHeartbeats 2000000 in
theorem lg {nm:String} {a b:Addr} {xs ys:List (List Int×Addr×Value)} {r:Bool} {Q:Bool->Shared->Prop} (ha:(a==sysModules)=false) (hb:(b==sysModules)=false)
  (da:s.heap.DictOfH (ci prog w) a xs) (db:s.heap.DictOfH (ci prog w) b ys) (hu:A.units<cLine) (hits:xs.length=ys.length->jI A s ys xs r) (h:Q (xs.length==ys.length&&r) s) :
  wpAny (model prog w) A (Builtin.Dict.samePairs nm a b) Q E s:=by
 obtain⟨oa,es,ep,hoa,_,hda,hea,hia,_⟩:=da;obtain⟨ob,fs,ep',hob,_,hdb,heb,hib,hnb⟩:=db;have hla:es.size=xs.length:=size_of_entries hea;have hlb:fs.size=ys.length:=size_of_entries heb;rw[<-hla,<-hlb] at h;unfold Builtin.Dict.samePairs Builtin.Dict.showsAll;rw[if_neg (show ¬(a==sysModules)=true by rw[ha];exact Bool.false_ne_true),if_neg (show ¬(b==sysModules)=true by rw[hb];exact Bool.false_ne_true)];refine wpAny_bind (wpAny_pure (wpAny_bind (wpAny_pure ?_)));refine wpAny_bind (wpAny_dictEntries hoa hda ?_);dsimp only;refine wpAny_bind (wpAny_dictEntries hob hdb ?_);by_cases hsz:es.size=fs.size
 case neg=>
  rw[if_pos (by simpa using hsz)];have hbf:(es.size==fs.size)=false:=by simpa using hsz
  rw[hbf,Bool.false_and] at h;exact wpAny_bind (wpAny_rule (wpAny_pure h))
 case pos=>
  have h':Q r s:=by simpa [hsz] using h
  have hits':=hits (by rw[<-hla,<-hlb];exact hsz);rw[if_neg (by rw[hsz];simp)];refine wpAny_bind (wpAny_dictEpoch hoa hda ?_);refine wpAny_bind ?_;rw[Std.Legacy.Range.forIn_eq_forIn_range'];simp only[Std.Legacy.Range.size,Nat.sub_zero,Nat.add_sub_cancel,Nat.div_one];refine wpAny_forIn_list _
   (fun rest q s'=>s'=s/\q=(none,())/\∃i,rest=List.range' i (es.size-i)/\i<=es.size/\jI A s ys (xs.drop i) r)
   _ ?_ ?_ _ _ ⟨rfl,rfl,0,by simp,Nat.zero_le _,hits'⟩
  ·rintro x rest q s' ⟨rfl,rfl,i,hr,hi,hpre⟩;have hlt:i<es.size:=by
    rcases Nat.lt_or_ge i es.size with h|h
    ·exact h
    ·rw[Nat.sub_eq_zero_of_le h] at hr;simp at hr
   obtain⟨rfl,hrest⟩:x=i/\rest=List.range' (i+1) (es.size-(i+1)):=by
    have e:es.size-i=(es.size-(i+1))+1:=(Nat.sub_add_cancel (Nat.sub_pos_of_lt hlt)).symm;rw[e,List.range'_succ] at hr;injection hr with h1 h2
    exact⟨h1,h2⟩
   have hlt':x<xs.length:=by rw[<-hla];exact hlt
   obtain⟨⟨k,c,v⟩,hkv⟩:∃y,xs[x]?=some y:=⟨_,List.getElem?_eq_getElem hlt'⟩;have hdrop:xs.drop x=(k,c,v)::xs.drop (x+1):=by
    rw[List.drop_eq_getElem_cons hlt'];rw[List.getElem?_eq_getElem hlt'] at hkv;rw[Option.some.inj hkv]
   have hkey:=hia _ (List.mem_of_getElem? hkv);have hex:es[x]?=some ⟨(ci prog w).hash k,.ref c,v⟩:=by rw[entry_at hea x,hkv];rfl
   refine wpAny_bind (wpAny_dictEntries hoa hda ?_);rw[hex];rw[hdrop] at hpre;show wpAny _ _ (holding [Value.ref c,v] _ >>= _) _ _ _
   refine wpAny_bind (wpAny_holding (wpAny_bind (wpAny_dictFind_heap (knd:=ci prog w) (k:=k) hu hkey hob hdb heb hib hnb (fun hno=>?_) (fun j p hj=>?_))))
   ·rcases hpre.inv with⟨_,er⟩ | ⟨b',u,e',q',hy,_⟩
    ·rw[er] at h';refine wpAny_pure ?_;show wpAny _ _ (if (!false)=true then _ else _) _ _ _;rw[if_pos (by decide)];exact wpAny_pure (wpAny_pure h')
    ·rw[atKey_none_of_get hno] at hy;exact nomatch hy
   ·rcases hpre.inv with⟨hn,_⟩ | ⟨b',u,e',q',hy,he,hrr,er⟩
    ·rw[atKey_of_get hnb hj] at hn;exact nomatch hn
    ·rw[atKey_of_get hnb hj] at hy
     cases hy;refine wpAny_bind (wpAny_dictEntries hob hdb ?_);rw[entry_at heb j,hj];refine wpAny_holding (he prog w _ _ ?_)
     cases e' with
     |false=>
      rw[er,Bool.false_and] at h';show wpAny _ _ (if (!false)=true then _ else _) _ _ _;rw[if_pos (by decide)];exact wpAny_pure (wpAny_pure h')
     |true=>
      rw[Bool.true_and] at er;rw[<-er] at hrr;show wpAny _ _ (if (!true)=true then _ else _) _ _ _;rw[if_neg (by decide)];refine wpAny_bind (wpAny_dictEpoch hoa hda ?_);rw[if_neg (by simp)];exact wpAny_pure ⟨rfl,rfl,x+1,hrest,hlt,hrr⟩
  ·rintro q s' ⟨rfl,rfl,i,hr,hi,hpre⟩;have hin:i=es.size:=by
    rcases Nat.lt_or_ge i es.size with h|h
    ·have e:es.size-i=(es.size-(i+1))+1:=(Nat.sub_add_cancel (Nat.sub_pos_of_lt h)).symm;rw[e,List.range'_succ] at hr;exact nomatch hr
    ·exact Nat.le_antisymm hi h
   refine wpAny_pure ?_;rw[hin,hla,List.drop_length] at hpre
   cases hpre;exact h'
theorem xu {a b:Addr} {xs ys:List (List Int×Addr×Value)} {r:Bool} {Q:Value->Shared->Prop} (ha:(a==sysModules)=false) (hb:(b==sysModules)=false)
  (da:s.heap.DictOfH (ci prog w) a xs) (db:s.heap.DictOfH (ci prog w) b ys) (hu:A.units+1<cLine) (hits:xs.length=ys.length->jI A.in1 s ys xs r) (h:Q (.bool (xs.length==ys.length&&r)) s) :
  wpAny (model prog w) A (richCompare .Eq (.ref a) (.ref b)) Q E s:=by
 refine wpAny_richCompare_same_room (op:=.Eq) da.typeIs db.typeIs PySem.F.slot_dict_eq (wpAny_call_entry PySem.F.slot_dict_eq da.typeIs PySem.F.entry_dict_eq ?_ (PySem.F.args_dict_eq_2 _ _)) (by exact Nat.lt_of_succ_lt hu);show wpAny _ _ (Builtin.Dict.dictSlotArgs "__eq__" ⟨[.ref a,.ref b],[]⟩ >>= _) _ _ s;refine wpAny_bind ?_;unfold Builtin.Dict.dictSlotArgs;refine wpAny_bind (wpAny_notOrdered_dict da.typeIs ?_);show wpAny _ _ (pure (Value.ref a,Value.ref b)) _ _ s;refine wpAny_pure ?_;refine wpAny_bind (wpAny_isInstance (T:="dict") db.typeIs PySem.F.sub_dict_dict ?_);simp only[Bool.not_true,Bool.false_eq_true,if_false];refine wpAny_bind (wpAny_pure (wpAny_bind (wpAny_pure ?_)));refine wpAny_bind (lg ha hb da db (by show A.units+1<cLine;exact hu) hits ?_);refine wpAny_pure ⟨_,rfl,?_,?_⟩
 ·exact fun x=>nomatch x
 ·simpa using h
theorem xq {a b:Addr} {xs ys:List (List Int×Addr×Value)} {r:Bool} {Q:Value->Shared->Prop} (ha:(a==sysModules)=false) (hb:(b==sysModules)=false)
  (da:s.heap.DictOfH (ci prog w) a xs) (db:s.heap.DictOfH (ci prog w) b ys) (hu:A.units+1<cLine) (hits:xs.length=ys.length->jI A.in1 s ys xs r) (h:Q (.bool (!(xs.length==ys.length&&r))) s) :
  wpAny (model prog w) A (richCompare .NotEq (.ref a) (.ref b)) Q E s:=by
 refine wpAny_richCompare_same_room (op:=.NotEq) da.typeIs db.typeIs PySem.F.slot_dict_ne (wpAny_call_entry PySem.F.slot_dict_ne da.typeIs PySem.F.entry_dict_ne ?_ (PySem.F.args_dict_ne_2 _ _)) (by exact Nat.lt_of_succ_lt hu);show wpAny _ _ (Builtin.Dict.dictSlotArgs "__ne__" ⟨[.ref a,.ref b],[]⟩ >>= _) _ _ s;refine wpAny_bind ?_;unfold Builtin.Dict.dictSlotArgs;refine wpAny_bind (wpAny_notOrdered_dict da.typeIs ?_);show wpAny _ _ (pure (Value.ref a,Value.ref b)) _ _ s;refine wpAny_pure ?_;refine wpAny_bind (wpAny_isInstance (T:="dict") db.typeIs PySem.F.sub_dict_dict ?_);simp only[Bool.not_true,Bool.false_eq_true,if_false];refine wpAny_bind (wpAny_pure (wpAny_bind (wpAny_pure ?_)));refine wpAny_bind (lg ha hb da db (by show A.units+1<cLine;exact hu) hits ?_);refine wpAny_pure ⟨_,rfl,?_,?_⟩
 ·exact fun x=>nomatch x
 ·simpa using h
theorem bU (k k':List Int) (v:D) (es:Es):aU ((k,v)::es) k'=if k=k' then some v else aU es k':=by
 unfold aU;rw[List.find?_cons];by_cases h:k=k'
 ·rw[decide_eq_true h,if_pos h];rfl
 ·rw[decide_eq_false h,if_neg h]
theorem zY (k k':List Int) (b:Addr) (v:Value) (ys:List (List Int×Addr×Value)):atKey ((k,b,v)::ys) k'=if k=k' then some (b,v) else atKey ys k':=by
 unfold atKey;rw[List.find?_cons];by_cases h:k=k'
 ·rw[decide_eq_true h,if_pos h];rfl
 ·rw[decide_eq_false h,if_neg h]
theorem dB {h:Heap} (k:List Int) (ys:List (List Int×Addr×Value)):∀fs:Es,ys.map (·.1)=fs.map (·.1)->ak H₀ h ρ (ys.map (·.2.2)) (fs.map (·.2))->
  (aU fs k=none->atKey ys k=none)/\(∀d,aU fs k=some d->∃b u,atKey ys k=some (b,u)/\cj H₀ h ρ u d):=by
 induction ys with
 |nil=>
  intro fs hm _
  cases fs with
  |nil=>exact⟨fun _=>rfl,nofun⟩
  |cons _ _=>exact nomatch hm
 |cons y ys ih=>
  intro fs hm hr
  cases fs with
  |nil=>exact nomatch hm
  |cons z fs=>
   obtain⟨k',b,u⟩:=y;obtain⟨k2,d⟩:=z;obtain⟨hq,hm2⟩:=List.cons.inj hm;replace hq:k'=k2:=hq;subst hq;rw[bU,zY];by_cases hk:k'=k
   ·rw[if_pos hk,if_pos hk];exact⟨nofun,fun d' e=>⟨b,u,rfl,Option.some.inj e▸hr.1⟩⟩
   ·rw[if_neg hk,if_neg hk];exact ih fs hm2 hr.2
theorem zA {f:D->D->Option Bool} (hf:∀v u a b r,cj H₀ s.heap ρ v a->cj H₀ s.heap ρ u b->f a b=some r->EqAt A s v u r)
  {ys:List (List Int×Addr×Value)} {fs:Es} (hm:ys.map (·.1)=fs.map (·.1)) (hr:ak H₀ s.heap ρ (ys.map (·.2.2)) (fs.map (·.2))) :
  ∀(xs:List (List Int×Addr×Value)) (es:Es) (r:Bool),xs.map (·.1)=es.map (·.1)->ak H₀ s.heap ρ (xs.map (·.2.2)) (es.map (·.2))->jv f fs es=some r->jI A s ys xs r:=by
 intro xs;induction xs with
 |nil=>
  intro es r hx _ e
  cases es with
  |nil=>exact os .nil e
  |cons _ _=>exact nomatch hx
 |cons y xs ih=>
  intro es r hx hxr e
  cases es with
  |nil=>exact nomatch hx
  |cons z es=>
   obtain⟨k,a,v⟩:=y;obtain⟨k',d⟩:=z;obtain⟨rfl,hx'⟩:=List.cons.inj hx;have hy:=dB (H₀:=H₀) (ρ:=ρ) k ys fs hm hr
   refine AX (P:=fun r=>jI A s ys ((k,a,v)::xs) r) (fun q=>.miss (hy.1 q)) (fun y q a' b' h1 h2=>?_) e;obtain⟨b,u,g1,g2⟩:=hy.2 y q;exact .hit g1 (hf v u d y a' hxr.1 g2 h1) (ih es b' hx' hxr.2 h2)
theorem gh (hl:∃o,H₀.get? sysModules=some o) (x:SR prog w H₀ ρ J s.heap) {a:Addr} (ha:a∈ρ):(a==sysModules)=false:=by
 have h1:=x.new a ha;obtain⟨o,e⟩:=hl;simp only[beq_eq_false_iff_ne,ne_eq];intro q;rw[q,e] at h1
 cases h1
structure CG (A:Around) (s:Shared) (va vb:Value) (a b:D) (r:Bool):Prop where
 same:va=vb->r=true
 eq:EqAt A s va vb r
 rc:(∀i,a = .ref i->b = .ref i->False)->RcAt A s va vb r/\RcNeAt A s va vb (!r)
theorem CG.refs {t u:Addr} {a b:D} {r:Bool} (h1:t=u->r=true) (h2:RcAt A s (.ref t) (.ref u) r) (h3:RcNeAt A s (.ref t) (.ref u) (!r)):CG A s (.ref t) (.ref u) a b r:=by
 refine⟨fun q=>h1 (Value.ref.inj q),?_,fun _=>⟨h2,h3⟩⟩;by_cases q:t=u
 ·subst q;rw[h1 rfl];exact EqAt.same _
 ·exact EqAt.of_refs q h2
theorem oy (hl:∃o,H₀.get? sysModules=some o) (x:SR prog w H₀ ρ J s.heap):∀(n:Nat) (A:Around) (va vb:Value) (a b:D) (r:Bool),A.units+3*n<cLine->cj H₀ s.heap ρ va a->cj H₀ s.heap ρ vb b->cY J n a b=some r->CG A s va vb a b r:=by
 intro n;induction n with
 |zero=>exact fun _ _ _ _ _ _ _ _ _=>dR
 |succ n ih=>
  intro A va vb a b r hu ra rb e;have hu1:A.units<cLine:=Nat.lt_of_le_of_lt (Nat.le_add_right _ _) hu
  have ih':∀v u a b r,cj H₀ s.heap ρ v a->cj H₀ s.heap ρ u b->cY J n a b=some r->EqAt A.in1 s v u r/\(v=u->r=true):=fun v u a b r ha hb he=>
   have:=ih A.in1 v u a b r (by show A.units+1+3*n<cLine;exists L30,0x201031311100220201111023130020836,hu) ha hb he;⟨this.eq,this.same⟩
  have hp:∀v b,EqAt A.in1 s v v b/\(v=v->b=true)->b=true:=fun _ _ q=>q.2 rfl
  cases zN e with
  |none=>subst ra;subst rb;exact⟨fun _=>rfl,EqAt.same _,fun _=>⟨RcAt.none_none,RcNeAt.none_none⟩⟩
  |bool p q=>subst ra;subst rb;exact⟨fun e=>by rw[Value.bool.inj e];exact beq_self_eq_true _,EqAt.bool_bool _ _,fun _=>⟨RcAt.bool_bool _ _,RcNeAt.bool_bool _ _⟩⟩
  |int p q=>obtain⟨t,rfl⟩:=ra;obtain⟨u,rfl⟩:=rb;exact⟨fun e=>by rw[(Value.int.inj e).1];exact beq_self_eq_true _,EqAt.int_int _ _ _ _,fun _=>⟨RcAt.int_int _ _ _ _,RcNeAt.int_int _ _ _ _⟩⟩
  |str p q=>obtain⟨t,rfl⟩:=ra;obtain⟨u,rfl⟩:=rb;exact⟨fun e=>by rw[(Value.str.inj e).1];exact beq_self_eq_true _,EqAt.str_str _ _ _ _,fun _=>⟨RcAt.str_str _ _ _ _,RcNeAt.str_str _ _ _ _⟩⟩
  |tup xs ys _ e=>
   obtain⟨t,vs,ep,rfl,g,r1⟩:=ra;obtain⟨u,ws,ep',rfl,g',r2⟩:=rb;have p:=mZ ih' r1 _ _ _ r2 e;obtain⟨f,h1,h2⟩:=p.fn;have hz:vs.size=ws.size:=p.len
   have t1:=RcAt.tuples (A:=A) (s:=s) (e:=f) (items:=vs) (items2:=ws) ⟨_,g,rfl,_,rfl⟩ ⟨_,g',rfl,_,rfl⟩ hu1 fun j g1 g2=>(h1 j g1 g2).1
   have t2:=RcNeAt.tuples (A:=A) (s:=s) (e:=f) (items:=vs) (items2:=ws) ⟨_,g,rfl,_,rfl⟩ ⟨_,g',rfl,_,rfl⟩ hu1 fun j g1 g2=>(h1 j g1 g2).1;rw[<-hz,Nat.min_self,beq_self_eq_true,Bool.and_true] at t1 t2;rw[show(List.range vs.size).all f=r from h2] at t1 t2
   refine .refs (fun q=>?_) t1 t2;subst q;rw[g] at g';cases g';exact p.same hp rfl
  |same i=>
   obtain⟨t,rfl,g⟩:=ra;obtain⟨u,rfl,g'⟩:=rb;rw[g] at g';cases g';exact⟨fun _=>rfl,EqAt.same _,fun q=>(q i rfl rfl).elim⟩
  |list i j xs ys v1 v2 _ hij hi hj e=>
   obtain⟨t,rfl,g⟩:=ra;obtain⟨u,rfl,g'⟩:=rb;obtain⟨vs,ep,gl,r1⟩:=x.objs _ _ _ g hi;obtain⟨ws,ep',gl',r2⟩:=x.objs _ _ _ g' hj
   have ne:t=u->r=true:=fun q=>(hij ((List.getElem?_inj (List.getElem?_eq_some_iff.mp g).1 x.nd).mp (by rw[g,g',q]))).elim
   refine oX (fun _ e=>?_) (fun hn e=>?_) e
   ·have p:=mZ ih' r1 _ _ _ r2 e;obtain⟨f,h1,h2⟩:=p.fn
    have t1:=RcAt.lists (A:=A) (s:=s) (e:=f) (items:=vs) (items2:=ws) ⟨_,gl,rfl,_,rfl⟩ ⟨_,gl',rfl,_,rfl⟩ p.len hu1 fun j g1 g2=>(h1 j g1 g2).1
    have t2:=RcNeAt.lists (A:=A) (s:=s) (e:=f) (items:=vs) (items2:=ws) ⟨_,gl,rfl,_,rfl⟩ ⟨_,gl',rfl,_,rfl⟩ p.len hu1 fun j g1 g2=>(h1 j g1 g2).1;rw[show(List.range vs.size).all f=r from h2] at t1 t2;exact .refs ne t1 t2
   ·have hz:(vs.size != ws.size)=true:=bne_iff_ne.mpr fun q=>hn (by rw[<-r1.size,<-r2.size,q])
    refine os (P:=fun r=>(t=u->r=true)->CG A s (.ref t) (.ref u) (.ref i) (.ref j) r) ?_ e ne
    exact fun ne=>.refs ne (RcAt.lists_lengths ⟨_,gl,rfl,_,rfl⟩ ⟨_,gl',rfl,_,rfl⟩ hz hu1) (RcNeAt.lists_lengths ⟨_,gl,rfl,_,rfl⟩ ⟨_,gl',rfl,_,rfl⟩ hz hu1)
  |dict i j es fs v1 v2 _ hij hi hj e=>
   obtain⟨t,rfl,g⟩:=ra;obtain⟨u,rfl,g'⟩:=rb;obtain⟨xs,dx,mx,r1,_⟩:=x.objs _ _ _ g hi;obtain⟨ys,dy,my,r2,_⟩:=x.objs _ _ _ g' hj
   have ne:t=u->r=true:=fun q=>(hij ((List.getElem?_inj (List.getElem?_eq_some_iff.mp g).1 x.nd).mp (by rw[g,g',q]))).elim;have h1:xs.length=es.length:=by rw[<-List.length_map,mx,List.length_map]
   have h2:ys.length=fs.length:=by rw[<-List.length_map,my,List.length_map]
   have m1:=gh hl x (List.mem_of_getElem? g);have m2:=gh hl x (List.mem_of_getElem? g');have hu2:A.units+1<cLine:=by exists L30,0x201110020201111023130020836,hu
   have hq:(xs.length=ys.length->jI A.in1 s ys xs r)/\(xs.length==ys.length&&r)=r:=by
    rw[h1,h2]
    refine oX (fun hn e=>⟨fun _=>zA (fun v u a b r ha hb he=>(ih' v u a b r ha hb he).1) my r2 xs es r mx r1 e,?_⟩) (fun hn e=>?_) e
    ·rw[hn,beq_self_eq_true,Bool.true_and]
    ·refine os ⟨fun q=>(hn q).elim,?_⟩ e;exact Bool.and_false _
   refine .refs ne (fun prog' w' E Q h=>xu (prog:=prog') (w:=w') (r:=r) m1 m2 (fx dx) (fx dy) hu2 hq.1 ?_) (fun prog' w' E Q h=>xq (prog:=prog') (w:=w') (r:=r) m1 m2 (fx dx) (fx dy) hu2 hq.1 ?_)
   ·rw[hq.2];exact h
   ·rw[hq.2];exact h
theorem th (hl:∃o,H₀.get? sysModules=some o) (x:SR prog w H₀ ρ J s.heap) (n:Nat) (A:Around) (va vb:Value) (a b:D) (r:Bool) (hu:A.units+3*n<cLine) (ra:cj H₀ s.heap ρ va a) (rb:cj H₀ s.heap ρ vb b) (e:cY J n a b=some r):EqAt A s va vb r:=(oy hl x n A va vb a b r hu ra rb e).eq
end
section
open PySem PySem.W PyProof.Rows PySem.SeqAt
open PySem.AutoSeq1 (wpAny_loadPart')
open PySem.MeetsSeq PySem.MeetsSeq2 PySem.MeetsSeq3
noncomputable def z0 (op:CmpOp) (A:Around) (s:Shared) (v u:Value) (r:Bool):Prop:=
 ∀(prog:Program) (w:World) (E:Value->Shared->Prop) (Q:Value->Shared->Prop),Q (.bool r) s->wpAny (model prog w) A (richCompare op v u) Q E s
inductive oF (op:CmpOp) (A:Around) (s:Shared):List Value->List Value->Bool->Bool->Prop
 |nilL {us fin}:oF op A s [] us fin fin
 |nilR {v vs fin}:oF op A s (v::vs) [] fin fin
 |same {v u vs us fin r}:EqAt A s v u true->oF op A s vs us fin r->oF op A s (v::vs) (u::us) fin r
 |diff {v u vs us fin r}:EqAt A s v u false->z0 op A s v u r->oF op A s (v::vs) (u::us) fin r
theorem oF.inv {op:CmpOp} {A:Around} {s:Shared} {v u:Value} {vs us:List Value} {fin r:Bool} (h:oF op A s (v::vs) (u::us) fin r) :
  (EqAt A s v u true/\oF op A s vs us fin r)\/(EqAt A s v u false/\z0 op A s v u r):=by
 cases h with
 |same h1 h2=>exact .inl ⟨h1,h2⟩
 |diff h1 h2=>exact .inr ⟨h1,h2⟩
theorem qk (l b:Addr) (items items2:Array Value) (n n2:Nat) (r:Bool) :
  Meets (Builtin.«tuple.__lt__» ⟨[.ref l,.ref b],[]⟩)
   (fun A R s=>s.heap.get? l=some (seqObj "tuple" items n)/\s.heap.get? b=some (seqObj "tuple" items2 n2)/\
    oF .Lt A.in1 s items.toList items2.toList (decide (items.size<items2.size)) r/\R (.ok (.ret (.bool r))) s):=
 .of_wp fun prog w A R s h=>by
  obtain⟨hp,g,d,tk,os⟩:=s;obtain⟨hl,hb,he,h⟩:=h;have f2:=AutoSeq1.sub_tuple_tuple
  wp_walk using wpAny_loadPart' hl,wpAny_loadPart' hb,wpAny_forIn_list _ (fun rest b s'=>b.1=none/\s'=⟨hp,g,d,tk,os⟩/\∃vs us,rest=vs.zip us/\oF .Lt A.in1 ⟨hp,g,d,tk,os⟩ vs us (decide (items.size<items2.size)) r) _
  case turn=>
   rintro⟨y,x⟩ rest b s' ⟨hb',rfl,vs,us,hz,hR⟩
   cases vs with
   |nil=>cases hz
   |cons v vs=>
    cases us with
    |nil=>cases hz
    |cons u us=>
     rw[List.zip_cons_cons] at hz;injection hz with hyx hrest
     cases hyx;rcases hR.inv with⟨h1,h2⟩ | ⟨h1,h2⟩
     ·refine wpAny_bind (h1 prog w _ _ ?_);wp_walk
      exact⟨rfl,rfl,vs,us,hrest,h2⟩
     ·refine wpAny_bind (h1 prog w _ _ ?_);simp only[Bool.not_false,if_true];refine wpAny_bind (wpAny_rule ?_);refine wpAny_bind (h2 prog w _ _ ?_);wp_walk
      exact⟨_,rfl,h⟩
  case fin=>
   rintro⟨b1,b2⟩ s' ⟨hb',rfl,vs,us,hz,hR⟩;simp only at hb';subst hb';have hr:decide (items.size<items2.size)=r:=by
    cases vs with
    |nil=>cases hR;rfl
    |cons v vs=>
     cases us with
     |nil=>cases hR;rfl
     |cons u us=>cases hz
   wp_walk
   exact⟨_,rfl,by rw[<-hr] at h;simpa [Builtin.Tuple.tupleCompareSizes] using h⟩
  case h=>exact⟨rfl,rfl,_,_,rfl,he⟩
theorem ql (l b:Addr) (items items2:Array Value) (n n2:Nat) (r:Bool) :
  Meets (Builtin.«tuple.__gt__» ⟨[.ref l,.ref b],[]⟩)
   (fun A R s=>s.heap.get? l=some (seqObj "tuple" items n)/\s.heap.get? b=some (seqObj "tuple" items2 n2)/\
    oF .Gt A.in1 s items.toList items2.toList (decide (items.size>items2.size)) r/\R (.ok (.ret (.bool r))) s):=
 .of_wp fun prog w A R s h=>by
  obtain⟨hp,g,d,tk,os⟩:=s;obtain⟨hl,hb,he,h⟩:=h;have f2:=AutoSeq1.sub_tuple_tuple
  wp_walk using wpAny_loadPart' hl,wpAny_loadPart' hb,wpAny_forIn_list _ (fun rest b s'=>b.1=none/\s'=⟨hp,g,d,tk,os⟩/\∃vs us,rest=vs.zip us/\oF .Gt A.in1 ⟨hp,g,d,tk,os⟩ vs us (decide (items.size>items2.size)) r) _
  case turn=>
   rintro⟨y,x⟩ rest b s' ⟨hb',rfl,vs,us,hz,hR⟩
   cases vs with
   |nil=>cases hz
   |cons v vs=>
    cases us with
    |nil=>cases hz
    |cons u us=>
     rw[List.zip_cons_cons] at hz;injection hz with hyx hrest
     cases hyx;rcases hR.inv with⟨h1,h2⟩ | ⟨h1,h2⟩
     ·refine wpAny_bind (h1 prog w _ _ ?_);wp_walk
      exact⟨rfl,rfl,vs,us,hrest,h2⟩
     ·refine wpAny_bind (h1 prog w _ _ ?_);simp only[Bool.not_false,if_true];refine wpAny_bind (wpAny_rule ?_);refine wpAny_bind (h2 prog w _ _ ?_);wp_walk
      exact⟨_,rfl,h⟩
  case fin=>
   rintro⟨b1,b2⟩ s' ⟨hb',rfl,vs,us,hz,hR⟩;simp only at hb';subst hb';have hr:decide (items.size>items2.size)=r:=by
    cases vs with
    |nil=>cases hR;rfl
    |cons v vs=>
     cases us with
     |nil=>cases hR;rfl
     |cons u us=>cases hz
   wp_walk
   exact⟨_,rfl,by rw[<-hr] at h;simpa [Builtin.Tuple.tupleCompareSizes] using h⟩
  case h=>exact⟨rfl,rfl,_,_,rfl,he⟩
theorem lC (l b:Addr) (items items2:Array Value) (n n2:Nat) (r:Bool) (k:Nat) :
  ∀i:Nat,items.size-i=k->Meets (Builtin.«list.__eq__.loop» ⟨[.ref l,.ref b,rawInt i,rawInt 0],[]⟩)
   (fun A R s=>s.heap.get? l=some (seqObj "list" items n)/\s.heap.get? b=some (seqObj "list" items2 n2)/\
    oF .Lt A.in1 s (items.toList.drop i) (items2.toList.drop i) (decide (items.size<items2.size)) r/\R (.ok (.ret (.bool r))) s):=by
 induction k with
 |zero=>
  intro i hk prog w A R s h;obtain⟨hp,g,d,tk,os⟩:=s;obtain⟨hl,hb,he,h⟩:=h;wp_walk using wpAny_loadPart' hl,wpAny_loadPart' hb
  have hi1:items[((i:Nat):Int).toNat]?=none:=by simp;exists L30,0x201010110022010061020002210201678011002836,hk,(fs (items.size) (i))
  have hd:items.toList.drop i=[]:=by simp;exists L30,0x201010110022010061020002210201678011002836,hk,(fs _ _)
  rw[hd] at he;rw[hi1];have hr:decide (items.size<items2.size)=r:=by cases he;rfl
  wp_walk using wpAny_loadPart' hl,wpAny_loadPart' hb
  rw[<-hr] at h;exact h
 |succ k ih=>
  intro i hk prog w A R s h;obtain⟨hp,g,d,tk,os⟩:=s;obtain⟨hl,hb,he,h⟩:=h;have hlt:i<items.size:=by exists L40,0x302000110022030063020002230201678111102002848,hk,(fs (items.size) (i))
  have hi1:items[((i:Nat):Int).toNat]?=some items[i]:=by simp[hlt]
  have hd:items.toList.drop i=items[i]::items.toList.drop (i+1):=by
   rw[List.drop_eq_getElem_cons (by simpa using hlt)];simp
  have hc:((i:Int)+1)=((i+1:Nat):Int):=by push_cast;rfl
  rw[hd] at he;by_cases hlt2:i<items2.size
  ·have hi2:items2[((i:Nat):Int).toNat]?=some items2[i]:=by simp[hlt2]
   have hd2:items2.toList.drop i=items2[i]::items2.toList.drop (i+1):=by
    rw[List.drop_eq_getElem_cons (by simpa using hlt2)];simp
   rw[hd2] at he;wp_walk using wpAny_loadPart' hl,wpAny_loadPart' hb
   rw[hi1,hi2];rcases he.inv with⟨h1,h2⟩ | ⟨h1,h2⟩
   ·refine wpAny_bind (h1 prog w _ _ ?_);wp_walk
    rw[hc];exact⟨plainId_quiet plain_eq_loop _,codeAny_builtin entry_eq_loop (by
     rw[Around.under_plainId plain_eq_loop _];exact ih (i+1) (by exists L50,0x102020112021114023006301114022022301114021678011002403006304000223040167811110200285a,hk,(fs (items.size) (i)),(fs (items.size) (i+1))) prog w A R _ ⟨hl,hb,h2,h⟩)⟩
   ·refine wpAny_bind (h1 prog w _ _ ?_);wp_walk using wpAny_loadPart' hl,wpAny_loadPart' hb
    rw[hi1,hi2];refine wpAny_bind (h2 prog w _ _ ?_);wp_walk
    exact h
  ·have hi2:items2[((i:Nat):Int).toNat]?=none:=by simp;exact Nat.le_of_not_lt hlt2
   have hd2:items2.toList.drop i=[]:=by simp;exact Nat.le_of_not_lt hlt2
   rw[hd2] at he;have hr:decide (items.size<items2.size)=r:=by cases he;rfl
   wp_walk using wpAny_loadPart' hl,wpAny_loadPart' hb
   rw[hi1,hi2];wp_walk using wpAny_loadPart' hl,wpAny_loadPart' hb
   rw[<-hr] at h;exact h
theorem tZ (l b:Addr) (items items2:Array Value) (n n2:Nat) (r:Bool) :
  Meets (Builtin.«list.__lt__» ⟨[.ref l,.ref b],[]⟩)
   (fun A R s=>s.heap.get? l=some (seqObj "list" items n)/\s.heap.get? b=some (seqObj "list" items2 n2)/\
    oF .Lt A.in1 s items.toList items2.toList (decide (items.size<items2.size)) r/\R (.ok (.ret (.bool r))) s):=by
 intro prog w A R s h;obtain⟨hp,g,d,tk,os⟩:=s;obtain⟨hl,hb,he,h⟩:=h;have f3:=AutoSeq1.sub_list_list;wp_walk using wpAny_loadPart' hl,wpAny_loadPart' hb
 exact⟨plainId_quiet plain_eq_loop _,codeAny_builtin entry_eq_loop (by
  rw[Around.under_plainId plain_eq_loop _];exact lC l b items items2 n n2 r _ 0 rfl prog w A R _ ⟨hl,hb,by simpa using he,h⟩)⟩
end
section
variable {prog:Program} {w:World} {H₀:Heap} {A:Around} {E:Value->Shared->Prop} {s:Shared} {ρ:List Addr} {J:St}
theorem Ba {eq lt:D->D->Option Bool} (he:∀v u a b r,cj H₀ s.heap ρ v a->cj H₀ s.heap ρ u b->eq a b=some r->EqAt A s v u r)
  (hlt:∀v u a b r,cj H₀ s.heap ρ v a->cj H₀ s.heap ρ u b->lt a b=some r->z0 .Lt A s v u r) {vs:List Value} {xs:List D} (hx:ak H₀ s.heap ρ vs xs) :
  ∀(us:List Value) (ys:List D) (r:Bool),ak H₀ s.heap ρ us ys->gC eq lt xs ys=some r->oF .Lt A s vs us (decide (vs.length<us.length)) r:=by
 refine ak.ind ?_ (fun v vs x xs hv _ ih=>?_) hx
 ·intro us ys r hy
  refine ak.ind (P:=fun us ys=>gC eq lt [] ys=some r->oF .Lt A s [] us (decide (0<us.length)) r) ?_ (fun u us _ _ _ _ _=>?_) hy
  ·exact os .nilL
  ·rw[show decide (0<(u::us).length)=true from decide_eq_true (Nat.succ_pos _)];exact os .nilL
 ·intro us ys r hy
  refine ak.ind (P:=fun us ys=>gC eq lt (x::xs) ys=some r->oF .Lt A s (v::vs) us (decide (vs.length+1<us.length)) r) ?_ (fun u us y ys hu hus _=>?_) hy
  ·rw[show decide (vs.length+1<([]:List Value).length)=false from decide_eq_false (Nat.not_lt_zero _)];exact os .nilR
  ·rw[show decide (vs.length+1<(u::us).length)=decide (vs.length<us.length) from decide_eq_decide.mpr Nat.succ_lt_succ_iff]
   exact vO (fun q e=>.same (he v u x y true hv hu q) (ih us ys r hus e)) (fun q e=>.diff (he v u x y false hv hu q) (hlt v u x y r hv hu e))
theorem Cl (hl:∃o,H₀.get? sysModules=some o) (x:SR prog w H₀ ρ J s.heap):∀(n:Nat) (A:Around) (va vb:Value) (a b:D) (r:Bool),A.units+3*n<cLine->cj H₀ s.heap ρ va a->cj H₀ s.heap ρ vb b->lA J n a b=some r->z0 .Lt A s va vb r:=by
 intro n;induction n with
 |zero=>exact fun _ _ _ _ _ _ _ _ _=>dR
 |succ n ih=>
  intro A va vb a b r hu ra rb e;have hu1:A.units<cLine:=Nat.lt_of_le_of_lt (Nat.le_add_right _ _) hu;have hu':A.in1.units+3*n<cLine:=by show A.units+1+3*n<cLine;exists L30,0x201031311100220201111023130020836,hu
  have hlex:=fun {vs us:List Value} {xs ys:List D} {r:Bool} (r1:ak H₀ s.heap ρ vs xs)=>Ba (A:=A.in1) (s:=s) (vs:=vs) (xs:=xs) (fun v u a b r=>th hl x n A.in1 v u a b r hu') (fun v u a b r=>ih A.in1 v u a b r hu') r1 us ys r
  cases a with
  |int p=>cases b with
   |int q=>
    obtain⟨t,rfl⟩:=ra;obtain⟨u,rfl⟩:=rb;obtain rfl:=Option.some.inj e
    exact fun prog w E Q h=>P.lt_int h
   |_=>exact dR e
  |tup xs=>cases b with
   |tup ys=>
    obtain⟨t,vs,ep,rfl,g,r1⟩:=ra;obtain⟨u,ws,ep',rfl,g',r2⟩:=rb;intro prog' w' E Q h;exact richCompare_meets_room (op:=.Lt) ⟨_,g,rfl⟩ ⟨_,g',rfl⟩ PySem.F.slot_tuple_lt PySem.F.entry_tuple_lt (PySem.F.args_tuple_lt_2 _ _) (qk t u vs ws ep ep' r)
     ⟨g,g',hlex r1 r2 e,show Value.bool r≠Value.notImplemented/\Q (.bool r) s from ⟨(fun x=>nomatch x),h⟩⟩ hu1
   |_=>exact dR e
  |ref i=>cases b with
   |ref j=>
    obtain⟨t,rfl,g⟩:=ra;obtain⟨u,rfl,g'⟩:=rb
    refine Cc (fun xs v1 ys v2 hi hj e=>?_) e;obtain⟨vs,ep,gl,r1⟩:=x.objs _ _ _ g hi;obtain⟨ws,ep',gl',r2⟩:=x.objs _ _ _ g' hj;intro prog' w' E Q h;exact richCompare_meets_room (op:=.Lt) ⟨_,gl,rfl⟩ ⟨_,gl',rfl⟩ PySem.F.slot_list_lt PySem.F.entry_list_lt (PySem.F.args_list_lt_2 _ _) (tZ t u vs ws ep ep' r)
     ⟨gl,gl',hlex r1 r2 e,show Value.bool r≠Value.notImplemented/\Q (.bool r) s from ⟨(fun x=>nomatch x),h⟩⟩ hu1
   |_=>exact dR e
  |_=>exact dR e
theorem gY {vs:List Value} {ds:List D} {ks:List Int} {h:Heap} (r:ak H₀ h ρ vs ds):aG ds=some ks->ItemsAre (intKind prog w) ks vs:=by
 refine ak.ind (P:=fun vs ds=>∀ks,aG ds=some ks->ItemsAre (intKind prog w) ks vs) ?_ (fun v vs d ds hv _ ih ks e=>?_) r ks
 ·exact fun ks=>os .nil
 ·cases d with
  |int i=>
   obtain⟨k,e',rfl⟩:=Option.map_eq_some_iff.mp (show(aG ds).map (i::·)=some ks from e);obtain⟨t,rfl⟩:=hv;exact .cons (beq_self_eq_true i) (ih k e')
  |_=>exact dR e
theorem zy {ds:List D}:∀{ks:List Int},aG ds=some ks->ds=ks.map .int:=by
 induction ds with
 |nil=>
  intro ks e
  exact os (P:=fun ks=>[]=List.map D.int ks) rfl e
 |cons d ds ih=>
  intro ks e
  cases d with
  |int i=>
   obtain⟨k,e',rfl⟩:=Option.map_eq_some_iff.mp (show(aG ds).map (i::·)=some ks from e);rw[ih e'];rfl
  |_=>exact dR e
theorem Bb (vs us:List Value) (p q:List Int) (hx:ItemsAre (intKind prog w) p vs) (hy:ItemsAre (intKind prog w) q us):oF .Gt A s vs us (decide (vs.length>us.length)) (eX p q):=by
 induction hx generalizing us q with
 |nil=>
  rw[show decide (([]:List Value).length>us.length)=false from decide_eq_false (Nat.not_lt_zero _)];exact .nilL
 | @cons i v p vs h1 hx ih=>
  cases hy with
  |nil=>exact .nilR
  | @cons j u q us h2 hy=>
   obtain⟨t,rfl⟩:=Value.isInt_shape h1;obtain⟨t',rfl⟩:=Value.isInt_shape h2;rw[show decide ((Value.int i t::vs).length>(Value.int j t'::us).length)=decide (vs.length>us.length) from decide_eq_decide.mpr Nat.succ_lt_succ_iff];show oF .Gt A s _ _ _ (if i=j then eX p q else decide (i>j));by_cases hij:i=j
   ·subst hij;rw[if_pos rfl];refine .same ?_ (ih us q hy);have:=EqAt.int_int (A:=A) (s:=s) i t i t';rwa [beq_self_eq_true] at this
   ·rw[if_neg hij]
    refine .diff ?_ (fun prog w E Q h=>P.gt_int h);have:=EqAt.int_int (A:=A) (s:=s) i t j t';rwa [beq_eq_false_iff_ne.mpr hij] at this
theorem lF {vs:Array Value} {ep:Nat} {t:Addr} {ds:List D} {k:List Int} (g:s.heap.get? t=some (seqObj "tuple" vs ep)) (r:ak H₀ s.heap ρ vs.toList ds) (e:aG ds=some k):(ci prog w).is s.heap k t:=
 ⟨_,vs,ep,g,rfl,rfl,gY r e⟩
noncomputable def z5.py:z5->CmpOp
 | .eq=>.Eq | .ne=>.NotEq | .lt=>.Lt | .gt=>.Gt | .isin=>.In | .ke=>.NotIn
open Classical in
noncomputable def hit (H₀ h:Heap) (ρ:List Addr) (J:St) (i:Nat) (v:Value):Bool:=decide (∃d,cj H₀ h ρ v d/\cY J CF d (.ref i)=some true)
open Classical in
theorem uP {h:Heap} (x:SR prog w H₀ ρ J h) {i:Nat} {vs:List Value} {ds:List D} (hr:ak H₀ h ρ vs ds):∀r,cP.anyEq J (.ref i) ds=some r->
  vs.any (hit H₀ h ρ J i)=r/\∀y∈vs,∃d,cj H₀ h ρ y d/\cY J CF d (.ref i)=some (hit H₀ h ρ J i y):=by
 refine ak.ind ?_ (fun v vs d ds hv _ ih r=>?_) hr
 ·exact fun r=>os ⟨rfl,fun _=>nofun⟩
 ·refine CL (P:=fun r=>(v::vs).any (hit H₀ h ρ J i)=r/\∀y∈v::vs,∃d,cj H₀ h ρ y d/\cY J CF d (.ref i)=some (hit H₀ h ρ J i y)) fun p q h1 h2=>?_;obtain⟨e1,e2⟩:=ih q h2;have hp:hit H₀ h ρ J i v=p:=by
   cases p with
   |true=>exact decide_eq_true ⟨d,hv,h1⟩
   |false=>
    refine decide_eq_false fun⟨d',hv',h'⟩=>?_;obtain⟨k,rfl⟩:=ti h1;obtain⟨k',rfl⟩:=ti h';obtain⟨t,rfl,g⟩:=hv;obtain⟨u,q,g'⟩:=hv';rw[<-Value.ref.inj q] at g';rw[(List.getElem?_inj (List.getElem?_eq_some_iff.mp g).1 x.nd).mp (g.trans g'.symm),h'] at h1;exact Bool.noConfusion (Option.some.inj h1)
  refine⟨by rw[List.any_cons,e1,hp],fun y hy=>?_⟩;rcases List.mem_cons.mp hy with rfl|hy
  ·exact⟨d,hv,by rw[hp];exact h1⟩
  ·exact e2 y hy
theorem xB (hl:∃o,H₀.get? sysModules=some o) (x:SR prog w H₀ ρ J s.heap) (hu:A.units+40<cLine) {op:z5} {va vb:Value} {a b:D} {r:Bool} (ra:cj H₀ s.heap ρ va a) (rb:cj H₀ s.heap ρ vb b)
  (e:cP op a b J=some r) {Q:Value->Shared->Prop} (h:∀tk,Q (.bool r) { s with toks:=tk }):wpAny (model prog w) A (compareOp op.py va vb) Q E s:=by
 have h0:Q (.bool r) s:=h s.toks;have hcf:A.units+3*CF<cLine:=by show A.units+3*8<cLine;exists L20,0x10182100201028210020824,hu
 cases op with
 |eq=>exact sS (fun hne e=>((oy hl x CF A va vb a b r hcf ra rb e).rc hne).1 prog w E Q h0) e
 |ne=>
  refine sS (fun hne e=>?_) e;obtain⟨q,e2,rfl⟩:=Option.map_eq_some_iff.mp e;exact((oy hl x CF A va vb a b q hcf ra rb e2).rc hne).2 prog w E Q h0
 |lt=>
  cases a with
  |int p=>cases b with
   |int q=>
    obtain⟨t,rfl⟩:=ra;obtain⟨u,rfl⟩:=rb;obtain rfl:=Option.some.inj e;exact P.lt_int h0
   |_=>exact dR e
  |_=>exact dR e
 |gt=>
  cases a with
  |int p=>cases b with
   |int q=>
    obtain⟨t,rfl⟩:=ra;obtain⟨u,rfl⟩:=rb;obtain rfl:=Option.some.inj e;exact P.gt_int h0
   |_=>exact dR e
  |tup xs=>cases b with
   |tup ys=>
    refine CN (fun p q hp hq e=>?_) e;obtain rfl:=Option.some.inj e;obtain⟨t,vs,ep,rfl,g,r1⟩:=ra;obtain⟨u,ws,ep',rfl,g',r2⟩:=rb;exact richCompare_meets_room (op:=.Gt) ⟨_,g,rfl⟩ ⟨_,g',rfl⟩ PySem.F.slot_tuple_gt PySem.F.entry_tuple_gt (PySem.F.args_tuple_gt_2 _ _) (ql t u vs ws ep ep' (eX p q))
     ⟨g,g',Bb (prog:=prog) (w:=w) (A:=A.in1) (s:=s) vs.toList ws.toList p q (gY r1 hp) (gY r2 hq),show Value.bool _≠Value.notImplemented/\Q (.bool _) s from ⟨(fun x=>nomatch x),h0⟩⟩ (Nat.lt_of_le_of_lt (Nat.le_add_right _ _) hu)
   |_=>exact dR e
  |_=>exact dR e
 |isin=>
  cases a with
  |tup xs=>cases b with
   |ref i=>
    refine tP (fun es v1 k hi hk e=>?_) e;obtain⟨t,vs,ep,rfl,g,r1⟩:=ra;obtain⟨u,rfl,g'⟩:=rb;obtain⟨ys,dy,my,r2,_⟩:=x.objs _ _ _ g' hi;refine wpAny_in_heap (knd:=ci prog w) (k:=k) (by show A.units+1<cLine;exists L20,0x1011100201028210020824,hu) (lF g r1 hk) (gh hl x (List.mem_of_getElem? g')) dy ?_;have q:=dB (H₀:=H₀) (ρ:=ρ) k ys es my r2;rw[show r=(aU es k).isSome from (Option.some.inj e).symm] at h
    cases hd:aU es k with
    |none=>rw[hd] at h;rw[q.1 hd];exact h _
    |some d=>
     obtain⟨b,u,q1,_⟩:=q.2 d hd;rw[hd] at h;rw[q1];exact h _
   |_=>exact dR e
  |_=>exact dR e
 |ke=>
  cases a with
  |ref i=>cases b with
   |ref j=>
    refine ew (fun ds v1 hj e=>?_) e;obtain⟨q,e3,rfl⟩:=Option.map_eq_some_iff.mp e;obtain⟨u,rfl,g'⟩:=rb;obtain⟨ws,ep',gl,r2⟩:=x.objs _ _ _ g' hj;obtain⟨e1,e2⟩:=uP x r2 q e3
    refine notIn_listAt (items:=ws) (hit H₀ s.heap ρ J i) ⟨_,gl,rfl,_,rfl⟩ (fun y hy=>?_) ?_
    ·obtain⟨d,hd,q⟩:=e2 y (Array.mem_toList_iff.mpr hy);exact th hl x CF A.in1 y va d (.ref i) _ (by show A.units+1+3*8<cLine;exists L20,0x101821111002201028210020824,hu) hd ra q
    ·rw[<-Array.any_toList,e1];exact h0
   |_=>exact dR e
  |_=>exact dR e
end
structure dj where
 prog:Program
 w:World
 H₀:Heap
 mg:Str->Option Value
 mb:Str->Option Value
 FT:List Fn
 W:Nat
 fa:Nat->Addr
 fn:List Str
noncomputable abbrev dj.M (K:dj):Model:=model K.prog K.w
noncomputable abbrev dj.sr (K:dj) (ρ:List Addr) (J:St) (h:Heap):Prop:=SR K.prog K.w K.H₀ ρ J h
noncomputable abbrev dj.rep (K:dj) (h:Heap) (ρ:List Addr) (v:Value) (d:D):Prop:=cj K.H₀ h ρ v d
noncomputable abbrev dj.C (K:dj) (n:Nat):Nat->List D->St->Option (D×St):=ab K.FT K.W n
noncomputable def BN:List Str:=["abs", "len", "sum", "max", "list", "dict", "tuple", "sorted", "enumerate", "range"]
structure dj.Ok (K:dj):Prop where
 g:K.H₀.Ns mainGlobals K.mg
 b:K.H₀.Ns builtinsNs K.mb
 built:∀x:Str,x≠"__name__"->K.mb x=bootBuiltins x
 nolimit:K.H₀.NoLimit
 big:∃o,K.H₀.get? sysModules=some o
 free:∀x∈BN,K.mg x=none
 fns:∀i x,K.fn[i]?=some x->K.mg x=some (.ref (K.fa i))/\∃o fd,K.H₀.get? (K.fa i)=some o/\o.data = .func fd
 r0:∃a ep t u,K.mg "R0"=some (.ref a)/\K.H₀.get? a=some (seqObj "tuple" #[.int 0 t,.int 1 u] ep)
structure xT (n:Nat) (A:Around):Prop where
 handled:A.handled=none
 depth:A.depth+n<recursionLimit
 units:A.units+30*n+200<cLine
theorem xT.u {n:Nat} {A:Around} (r:xT n A):A.units+40<cLine:=by have:=r.units;exists L30,0x202821002020c821101e2300220836,this
structure bV where
 scope:Scope
 vars:List (Str×Nat)
 next:Nat
structure fk (c:bV) (env:Env):Prop where
 kind:env.scope.kind = .function
 names:∀x k,c.scope.names.lookup x=some k->env.kindOf x=some k\/(k = .free/\env.kindOf x=some .cell)
 globals:env.globals=mainGlobals
 builtins:env.builtins=builtinsNs
theorem fk.glob {c:bV} {env:Env} (e:fk c env) (x:Str) (h:c.scope.names.lookup x=some .globalImplicit):env.kindOf x=some .globalImplicit:=by
 rcases e.names x _ h with h | ⟨h,_⟩
 ·exact h
 ·cases h
section
variable (K:dj)
noncomputable def Am (env:Env) (h:Heap) (ρ:List Addr) (x:Str) (od:Option D):Prop:=
 (env.kindOf x=some .local/\∃m,h.Ns env.locals m/\∀d,od=some d->∃v,m x=some v/\K.rep h ρ v d)\/
 ((env.kindOf x=some .cell\/env.kindOf x=some .free)/\∃c ov,env.cells.lookup x=some c/\h.IsCell c ov/\∀d,od=some d->∃v,ov=some v/\K.rep h ρ v d)
noncomputable def frame (c:bV) (env:Env):List Addr:=env.locals::c.vars.filterMap fun p=>if c.scope.names.lookup p.1=some .cell then env.cells.lookup p.1 else none
structure df (c:bV) (env:Env) (h:Heap) (ρ:List Addr) (l:aB):Prop where
 ns:∃m,h.Ns env.locals m
 apart:env.locals∉ρ
 at_:∀p∈c.vars,Am K env h ρ p.1 (l[p.2]?).join
 inj:∀p∈c.vars,∀q∈c.vars,p.1≠q.1->∀a,env.cells.lookup p.1=some a->env.cells.lookup q.1≠some a
 base:∀a∈frame c env,K.H₀.get? a=none
 rest:∀j,c.next<=j->(l[j]?).join=none
structure At (c:bV) (env:Env) (n:Nat) (A:Around) (s:Shared) (ρ:List Addr) (J:St) (l:aB):Prop where
 ok:K.Ok
 ev:fk c env
 room:xT n A
 sr:K.sr ρ J s.heap
 vars:df K c env s.heap ρ l
noncomputable abbrev kG (ρ:List Addr) (J J':St) (s:Shared) (d:D) (Q:Value->Shared->Prop):Prop:=fp K.prog K.w K.H₀ ρ J J' s d Q
noncomputable def bW (n:Nat):Prop:=
 ∀f ds J d J' A s ρ vals Q E,K.C n f ds J=some (d,J')->K.Ok->K.sr ρ J s.heap->ak K.H₀ s.heap ρ vals ds->xT n A->kG K ρ J J' s d Q->wpAny K.M A (call (.ref (K.fa f)) vals) Q E s
noncomputable def bg (c:bV) (e:Expr) (x:X):Prop:=
 ∀env n A s ρ J l d J' Q E,At K c env n A s ρ J l->bW K n->ev (K.C n) x l J=some (d,J')->kG K ρ J J' s d Q->wpAny K.M A (eval e env) Q E s
noncomputable def md (c:bV) (e:Expr) (x:X):Prop:=
 ∀env n A s ρ J l d b J' Q E,At K c env n A s ρ J l->bW K n->ev (K.C n) x l J=some (d,J')->bG d=some b->
  (∀ρ' h' tk',au ρ J ρ' J' s.heap h'->K.sr ρ' J' h'->Q b { s with heap:=h',toks:=tk' })->wpAny K.M A (isTrue e env (eval e env)) Q E s
noncomputable def aK (c:bV) (e:Expr) (x:X):Prop:=bg K c e x/\md K c e x
end
section
variable {K:dj} {c:bV} {env:Env} {n:Nat} {A:Around} {s:Shared} {ρ:List Addr} {J:St} {l:aB}
theorem SR.data {ρ:List Addr} {J:St} {h:Heap} (x:K.sr ρ J h) {a:Addr} (ha:a∈ρ):∃ob,h.get? a=some ob/\((∃xs n,ob.data = .seq xs n)\/∃es n,ob.data = .dict es n):=by
 obtain⟨i,hi,rfl⟩:=List.getElem_of_mem ha;have:=x.objs i _ (J[i]'(by rw[<-x.len];exact hi)) (List.getElem?_eq_getElem hi) (List.getElem?_eq_getElem _);revert this
 cases J[i]'(by rw[<-x.len];exact hi) with
 |list ds=>intro this;obtain⟨vs,ep,e,_⟩:=this;exact⟨_,e,.inl ⟨_,_,rfl⟩⟩
 |dict es=>intro this;obtain⟨xs,⟨o,es',ep,e,_,d,_⟩,_⟩:=this;exact⟨_,e,.inr ⟨_,_,d⟩⟩
theorem SR.cellNot {ρ:List Addr} {J:St} {h:Heap} (x:K.sr ρ J h) {a:Addr} {ov:Option Value} (e:h.IsCell a ov):a∉ρ:=fun ha=>by
 obtain⟨ob,e',hd⟩:=SR.data x ha;obtain⟨o,e,d⟩:=e;rw[e] at e';cases e';rcases hd with⟨_,_,hd⟩ | ⟨_,_,hd⟩<;>rw[hd] at d<;>cases d
theorem BE.grow {ρ ρ':List Addr} {J J₀ J':St} {h h':Heap} {a:Addr} {ov:Option Value} (e:h.IsCell a ov) (x:K.sr ρ J h) (g:au ρ J₀ ρ' J' h h'):h'.IsCell a ov:=by
 have hn:=SR.cellNot x e;obtain⟨o,e,d⟩:=e;exact⟨o,g.ext _ _ e hn,d⟩
theorem Ns.grow {ρ ρ':List Addr} {J₀ J':St} {h h':Heap} {a:Addr} {m:Str->Option Value} (e:h.Ns a m) (ha:a∉ρ) (g:au ρ J₀ ρ' J' h h'):h'.Ns a m:=by
 obtain⟨o,es,ep,e,r⟩:=e;exact⟨o,es,ep,g.ext _ _ e ha,r⟩
theorem au.notIn {ρ ρ':List Addr} {J₀ J':St} {h h':Heap} {a:Addr} {o:Obj} (g:au ρ J₀ ρ' J' h h') (ha:a∉ρ) (hl:h.get? a=some o):a∉ρ':=by
 obtain⟨τ,rfl,hτ⟩:=g.pre;intro hm;rcases List.mem_append.mp hm with hm|hm
 ·exact ha hm
 ·rw[hτ a hm] at hl;cases hl
theorem df.grow {ρ ρ':List Addr} {J J₀ J':St} {h h':Heap} (v:df K c env h ρ l) (x:K.sr ρ J h) (g:au ρ J₀ ρ' J' h h'):df K c env h' ρ' l where
 ns:=let ⟨m,e⟩:=v.ns;⟨m,Ns.grow e v.apart g⟩
 apart:=let ⟨_,_,_,_,e,_⟩:=v.ns;g.notIn v.apart e
 inj:=v.inj
 base:=v.base
 rest:=v.rest
 at_:=fun p hp=>by
  rcases v.at_ p hp with⟨hk,m,e,hv⟩ | ⟨hk,cc,ov,hc,e,hv⟩
  ·exact .inl ⟨hk,m,Ns.grow e v.apart g,fun d hd=>let ⟨u,e1,r⟩:=hv d hd;⟨u,e1,r.grow x g⟩⟩
  ·exact .inr ⟨hk,cc,ov,hc,BE.grow e x g,fun d hd=>let ⟨u,e1,r⟩:=hv d hd;⟨u,e1,r.grow x g⟩⟩
theorem At.grow {ρ':List Addr} {J':St} {h':Heap} (a:At K c env n A s ρ J l) (g:au ρ J ρ' J' s.heap h') (x:K.sr ρ' J' h') (tk:Nat):At K c env n A { s with heap:=h',toks:=tk } ρ' J' l:=
 ⟨a.ok,a.ev,a.room,x,a.vars.grow a.sr g⟩
theorem fp.grow {ρ':List Addr} {J₁ J':St} {d:D} {h':Heap} {tk:Nat} {Q:Value->Shared->Prop} (p:kG K ρ J J' s d Q) (g:au ρ J ρ' J₁ s.heap h'):kG K ρ' J₁ J' { s with heap:=h',toks:=tk } d Q:=
 fun v ρ'' h'' tk'' g' x r=>p v ρ'' h'' tk'' (g.trans g') x r
theorem md.of {e:Expr} {x:X} (h:bg K c e x) (he:∀env whole,isTrue e env whole=(do let v<-whole;standAt e.pos;holding [v] (truthy v))):md K c e x:=
 fun env n A s ρ J l d b J' Q E a hC hev hb hq=>by
  refine wpAny_isTrue_value (h env n A s ρ J l d J' _ E a hC hev fun v ρ' h' tk' g xr r=>?_) (he env _)
  cases d with
  |none=>
   cases hb;obtain rfl:v=Value.none:=r;exact wpAny_pure (hq _ _ _ g xr)
  |bool b=>
   cases hb;obtain rfl:v=Value.bool b:=r;exact wpAny_truthy_bool (hq _ _ _ g xr)
  |int i=>
   cases hb;obtain⟨t,rfl⟩:=r;exact P.truthy_int (hq _ _ _ g xr)
  |_=>exact dR hb
theorem aK.of {e:Expr} {x:X} (h:bg K c e x) (he:∀env whole,isTrue e env whole=(do let v<-whole;standAt e.pos;holding [v] (truthy v))):aK K c e x:=⟨h,md.of h he⟩
theorem aK.fail (e:Expr):aK K c e .fail:=⟨fun _ _ _ _ _ _ _ _ _ _ _ _ _ (he:none=some _)=>(nomatch he),fun _ _ _ _ _ _ _ _ _ _ _ _ _ _ (he:none=some _)=>nomatch he⟩
noncomputable def Co:Const->Option D
 | .none=>some .none
 | .bool b=>some (.bool b)
 | .int i=>some (.int i)
 | .str x=>some (.str x)
 |_=>none
theorem aK.lit {k:Const} {q:Nat} {pos:Pos} {d:D} (h:Co k=some d):aK K c (.Constant k q pos) (.lit d):=
 aK.of (fun env n A s ρ J l d' J' Q E a hC he=>by
  refine s0 (fun p=>?_) he
  cases k with
  |none=>cases h;exact wpAny_Constant_none (p.same a.sr rfl)
  |bool b=>cases h;exact wpAny_Constant_bool (p.same a.sr rfl)
  |int i=>cases h;exact wpAny_Constant_int (p.tok a.sr _ ⟨_,rfl⟩)
  |str x=>cases h;exact wpAny_Constant_str (p.tok a.sr _ ⟨_,rfl⟩)
  |_=>exact dR h) (fun _ _=>rfl)
theorem y3 {x:Str} {i:Nat} {d:D} {Q:Value->Shared->Prop} {E:Value->Shared->Prop} (a:At K c env n A s ρ J l) (hx:(x,i)∈c.vars) (hi:l[i]?=some (some d)) (hcd:(x==("__classdict__":Str))=false)
  (h:∀v,K.rep s.heap ρ v d->Q v s):wpAny K.M A (loadName env x) Q E s:=by
 rcases a.vars.at_ _ hx with⟨hk,m,e,hv⟩ | ⟨hk,cc,ov,hc,e,hv⟩
 ·obtain⟨v,hm,r⟩:=hv d (by rw[hi];rfl);exact wpAny_loadName_local a.ev.kind hk e hm (h v r)
 ·obtain⟨v,rfl,r⟩:=hv d (by rw[hi];rfl);rcases hk with hk|hk
  ·exact wpAny_loadName_cell a.ev.kind hk hc e (h v r)
  ·exact wpAny_loadName_free a.ev.kind hk hc e (h v r) hcd
noncomputable def cV (x:Str):Bool:=(x==("__debug__":Str))==false&&(x==("__classdict__":Str))==false
theorem i9 {x:Str} (h:cV x=true):(x==("__debug__":Str))=false/\(x==("__classdict__":Str))=false:=⟨eq_of_beq (Bool.and_eq_true_iff.mp h).1,eq_of_beq (Bool.and_eq_true_iff.mp h).2⟩
theorem aK.var {x:Str} {pos:Pos} {i:Nat} (hx:(x,i)∈c.vars) (hp:cV x=true):aK K c (.Name x pos) (.var i):=
 aK.of (fun env n A s ρ J l d J' Q E a hC he=>by
  refine za (fun d' hi p=>?_) he
  exact wpAny_Name (y3 a hx hi (i9 hp).2 fun v r=>p.same a.sr r) (i9 hp).1) (fun _ _=>rfl)
theorem Ok.g' (ok:K.Ok) (x:K.sr ρ J s.heap) (he:env.globals=mainGlobals):s.heap.Ns env.globals K.mg:=he▸ok.g.keeps x.keep
theorem Ok.b' (ok:K.Ok) (x:K.sr ρ J s.heap) (he:env.builtins=builtinsNs):s.heap.Ns env.builtins K.mb:=he▸ok.b.keeps x.keep
theorem pH {x:Str} {pos:Pos} {v:Value} {Q E:Value->Shared->Prop} (a:At K c env n A s ρ J l) (hg:c.scope.names.lookup x=some .globalImplicit) (hp:cV x=true) (hv:K.mg x=some v) (h:Q v s) :
  wpAny K.M A (eval (.Name x pos) env) Q E s:=by
 exact Calls.Name_function_global a.ev.kind (a.ev.glob x hg) (Calls.loadGlobal_global (Ok.g' a.ok a.sr a.ev.globals) hv h) (i9 hp).1
theorem hY {x:Str} {pos:Pos} {v:Value} {Q E:Value->Shared->Prop} (a:At K c env n A s ρ J l) (hg:c.scope.names.lookup x=some .globalImplicit) (hp:cV x=true) (hn:x∈BN) (hne:x≠"__name__") (hv:bootBuiltins x=some v) (h:Q v s) :
  wpAny K.M A (eval (.Name x pos) env) Q E s:=by
 exact Calls.Name_function_global a.ev.kind (a.ev.glob x hg) (Calls.loadGlobal_builtin (Ok.g' a.ok a.sr a.ev.globals) (a.ok.free x hn) (Ok.b' a.ok a.sr a.ev.builtins) ((a.ok.built x hne).trans hv) h) (i9 hp).1
theorem aK.r0 {pos:Pos} (hg:c.scope.names.lookup ("R0":Str)=some .globalImplicit):aK K c (.Name ("R0":Str) pos) (.lit (.tup [.int 0,.int 1])):=
 aK.of (fun env n A s ρ J l d J' Q E a hC he=>by
  refine s0 (fun p=>?_) he;obtain⟨t,ep,u,u',h1,h2⟩:=a.ok.r0
  exact pH a hg (by decide) h1 (p.same a.sr ⟨t,_,ep,rfl,a.sr.keep _ _ h2,⟨⟨u,rfl⟩,⟨u',rfl⟩,trivial⟩⟩)) (fun _ _=>rfl)
theorem aK.bin {op:uR} {x y:Expr} {X Y:Mine.X} {pos:Pos} (hx:bg K c x X) (hy:bg K c y Y):aK K c (.BinOp x op.py y pos) (.bin op X Y):=
 aK.of (fun env n A s ρ J l d J' Q E a hC he p=>by
  refine zt (fun d1 J1 d2 J2 h1 h2 he=>?_) he
  refine wpAny_BinOp (hx _ _ _ _ _ _ _ _ _ _ _ a hC h1 fun v1 ρ1 hp1 tk1 g1 x1 r1=>?_)
  refine hy _ _ _ _ _ _ _ _ _ _ _ (a.grow g1 x1 tk1) hC h2 fun v2 ρ2 hp2 tk2 g2 x2 r2=>?_
  exact Bx x2 (r1.grow x1 g2) r2 he ((fp.grow p g1).grow g2)) (fun _ _=>rfl)
theorem aK.neg {x:Expr} {X:Mine.X} {pos:Pos} (hx:bg K c x X):aK K c (.UnaryOp .USub x pos) (.neg X):=
 aK.of (fun env n A s ρ J l d J' Q E a hC he=>by
  refine zi (fun i J1 h1 p=>?_) he
  refine wpAny_UnaryOp (hx _ _ _ _ _ _ _ _ _ _ _ a hC h1 fun v1 ρ1 hp1 tk1 g1 x1 r1=>?_);obtain⟨t,rfl⟩:=r1
  exact P.neg_int (p _ _ _ _ g1 x1 ⟨_,rfl⟩)) (fun _ _=>rfl)
noncomputable def r9 (K:dj) (c:bV) (x y:Expr) (op:CmpOp) (X:Mine.X):Prop:=
 ∀env n A s ρ J l d J',At K c env n A s ρ J l->bW K n->ev (K.C n) X l J=some (d,J')->
  ∃b,d = .bool b/\∀(Q E:Value->Shared->Prop),(∀ρ' h' tk',au ρ J ρ' J' s.heap h'->K.sr ρ' J' h'->Q (.bool b) { s with heap:=h',toks:=tk' })->
   wpAny K.M A (eval x env) (fun v s₁=>wpAny K.M A (eval y env) (fun u s₂=>wpAny K.M A (compareOp op v u) Q E s₂) E s₁) E s
theorem r9.sim {x y:Expr} {op:CmpOp} {X:Mine.X} {pos:Pos} (h:r9 K c x y op X) (hm:behindInMarks op y=false):aK K c (.Compare x [op] [y] pos) X:=
 ⟨fun env n A s ρ J l d J' Q E a hC he p=>by
   obtain⟨b,rfl,k⟩:=h _ _ _ _ _ _ _ _ _ a hC he
   exact wpAny_Compare1 (k _ _ fun ρ' h' tk' g x'=>p _ _ _ _ g x' rfl) hm,
  fun env n A s ρ J l d b J' Q E a hC he hb hq=>by
   obtain⟨b',rfl,k⟩:=h _ _ _ _ _ _ _ _ _ a hC he
   cases hb
   exact wpAny_isTrue_Compare1 (k _ _ fun ρ' h' tk' g x'=>wpAny_truthy_bool (hq _ _ _ g x')) hm⟩
theorem aK.cmp {op:z5} {x y:Expr} {X Y:Mine.X} {pos:Pos} (hx:bg K c x X) (hy:bg K c y Y) (hm:behindInMarks op.py y=false):aK K c (.Compare x [op.py] [y] pos) (.cmp op X Y):=
 r9.sim (fun env n A s ρ J l d J' a hC he=>by
  refine zq (fun d1 J1 d2 J2 r h1 h2 h3=>⟨r,rfl,fun Q E h=>?_⟩) he
  refine hx _ _ _ _ _ _ _ _ _ _ _ a hC h1 fun v1 ρ1 hp1 tk1 g1 x1 r1=>?_
  refine hy _ _ _ _ _ _ _ _ _ _ _ (a.grow g1 x1 tk1) hC h2 fun v2 ρ2 hp2 tk2 g2 x2 r2=>?_
  exact xB a.ok.big x2 a.room.u (r1.grow x1 g2) r2 h3 fun tk=>h ρ2 hp2 tk (g1.trans g2) x2) hm
end
section
variable {K:dj} {c:bV} {env:Env} {n:Nat} {A:Around} {s:Shared} {ρ:List Addr} {J:St} {l:aB}
theorem vn {h:Heap} {v:Value} {d:D} (r:K.rep h ρ v d):(v==Value.none)=d.isNone/\plainIs v .none=true:=by
 cases d with
 |none=>obtain rfl:v=Value.none:=r;exact⟨rfl,rfl⟩
 |bool b=>obtain rfl:v=Value.bool b:=r;exact⟨rfl,rfl⟩
 |int i=>obtain⟨t,rfl⟩:=r;exact⟨rfl,rfl⟩
 |str x=>obtain⟨t,rfl⟩:=r;exact⟨rfl,rfl⟩
 |tup ds=>obtain⟨a,vs,ep,rfl,_⟩:=r;exact⟨rfl,rfl⟩
 |ref i=>obtain⟨a,rfl,_⟩:=r;exact⟨rfl,rfl⟩
 |fro ds=>obtain⟨a,o,vs,ep,rfl,_⟩:=r;exact⟨rfl,rfl⟩
theorem pz {x:Expr} {X:Mine.X} {q:Nat} {p0:Pos} {neg:Bool} (hx:bg K c x X) {d1:D} {J':St} {Q:Value->Shared->Prop} {E:Value->Shared->Prop}
  (a:At K c env n A s ρ J l) (hC:bW K n) (h1:ev (K.C n) X l J=some (d1,J')) (h:∀ρ' h' tk',au ρ J ρ' J' s.heap h'->K.sr ρ' J' h'->Q (.bool (d1.isNone != neg)) { s with heap:=h',toks:=tk' }) :
  wpAny K.M A (eval x env) (fun v s₁=>wpAny K.M A (eval (.Constant .none q p0) env) (fun u s₂=>wpAny K.M A (compareOp (if neg then .IsNot else .Is) v u) Q E s₂) E s₁) E s:=by
 refine hx _ _ _ _ _ _ _ _ _ _ _ a hC h1 fun v1 ρ1 hp1 tk1 g1 x1 r1=>?_;refine wpAny_Constant_none ?_;obtain⟨e1,e2⟩:=vn r1;have:=h _ _ tk1 g1 x1
 cases neg with
 |true=>exact wpAny_isNot_plain e2 (by rw[e1];rwa [Bool.bne_true] at this)
 |false=>exact wpAny_is_plain e2 (by rw[e1];rwa [Bool.bne_false] at this)
theorem aK.isn {x:Expr} {X:Mine.X} {q:Nat} {p0 pos:Pos} (hx:bg K c x X):aK K c (.Compare x [.Is] [.Constant .none q p0] pos) (.isn X):=
 r9.sim (fun env n A s ρ J l d J' a hC he=>by
  refine zl (fun d1 J1 h1=>⟨_,rfl,fun Q E h=>?_⟩) he;exact pz (neg:=false) hx a hC h1 (by rwa [Bool.bne_false])) rfl
theorem aK.notn {x:Expr} {X:Mine.X} {q:Nat} {p0 pos:Pos} (hx:bg K c x X):aK K c (.Compare x [.IsNot] [.Constant .none q p0] pos) (.notn X):=
 r9.sim (fun env n A s ρ J l d J' a hC he=>by
  refine wz (fun d1 J1 h1=>⟨_,rfl,fun Q E h=>?_⟩) he;exact pz (neg:=true) hx a hC h1 (by rwa [Bool.bne_true])) rfl
theorem mA {v:Value} {d:D} {b:Bool} {Q:Bool->Shared->Prop} {E:Value->Shared->Prop} (r:K.rep s.heap ρ v d) (hb:bG d=some b) (h:Q b s):wpAny K.M A (truthy v) Q E s:=by
 cases d with
 |none=>cases hb;obtain rfl:v=Value.none:=r;exact wpAny_pure h
 |bool b=>cases hb;obtain rfl:v=Value.bool b:=r;exact wpAny_truthy_bool h
 |int i=>cases hb;obtain⟨t,rfl⟩:=r;exact P.truthy_int h
 |_=>exact dR hb
theorem aK.not {x:Expr} {X:Mine.X} {pos:Pos} (hx:aK K c x X):aK K c (.UnaryOp .Not x pos) (.not X):=by
 refine⟨fun env n A s ρ J l d J' Q E a hC he=>?_,fun env n A s ρ J l d b J' Q E a hC he=>?_⟩
 ·refine sY (fun d1 J1 b h1 h2 p=>?_) he
  refine wpAny_UnaryOp (hx.1 _ _ _ _ _ _ _ _ _ _ _ a hC h1 fun v1 ρ1 hp1 tk1 g1 x1 r1=>?_);exact not_of (mA r1 h2 (p _ _ _ _ g1 x1 rfl))
 ·refine sY (fun d1 J1 b' h1 h2 hb h=>?_) he
  cases hb;exact wpAny_isTrue_Not (hx.2 _ _ _ _ _ _ _ _ _ _ _ _ a hC h1 h2 h)
theorem aK.ite {t x y:Expr} {T X Y:Mine.X} {pos:Pos} (ht:md K c t T) (hx:aK K c x X) (hy:aK K c y Y):aK K c (.IfExp t x y pos) (.ite T X Y):=by
 refine⟨fun env n A s ρ J l d J' Q E a hC he=>?_,fun env n A s ρ J l d b J' Q E a hC he=>?_⟩
 ·refine s4 (fun d1 b J1 h1 h2 h3 p=>?_) he
  refine wpAny_IfExp (ht _ _ _ _ _ _ _ _ _ _ _ _ a hC h1 h2 fun ρ1 hp1 tk1 g1 x1=>?_)
  cases b with
  |true=>exact hx.1 _ _ _ _ _ _ _ _ _ _ _ (a.grow g1 x1 tk1) hC h3 (fp.grow p g1)
  |false=>exact hy.1 _ _ _ _ _ _ _ _ _ _ _ (a.grow g1 x1 tk1) hC h3 (fp.grow p g1)
 ·refine s4 (fun d1 b1 J1 h1 h2 h3 hb h=>?_) he;rw[arm_isTrue_IfExp]
  refine wpAny_bind (ht _ _ _ _ _ _ _ _ _ _ _ _ a hC h1 h2 fun ρ1 hp1 tk1 g1 x1=>?_)
  cases b1 with
  |true=>exact hx.2 _ _ _ _ _ _ _ _ _ _ _ _ (a.grow g1 x1 tk1) hC h3 hb fun ρ' h' tk' g x'=>h _ _ _ (g1.trans g) x'
  |false=>exact hy.2 _ _ _ _ _ _ _ _ _ _ _ _ (a.grow g1 x1 tk1) hC h3 hb fun ρ' h' tk' g x'=>h _ _ _ (g1.trans g) x'
inductive jF (K:dj) (c:bV) (isAnd:Bool):List Expr->X->Prop
 |one {x:Expr} {X:Mine.X}:aK K c x X->jF K c isAnd [x] X
 |more {x y:Expr} {r:List Expr} {X Y:Mine.X}:aK K c x X->jF K c isAnd (y::r) Y->jF K c isAnd (x::y::r) (if isAnd then .and X Y else .or X Y)
@[elab_as_elim] theorem pZ {isAnd:Bool} {X Y:Mine.X} {n:Nat} {l:aB} {J:St} {d:D} {J':St} {P:D->St->Prop} (k1:∀d1 J1,ev (K.C n) X l J=some (d1,J1)->bG d1=some isAnd->ev (K.C n) Y l J1=some (d,J')->P d J')
  (k2:∀d1 J1,ev (K.C n) X l J=some (d1,J1)->bG d1=some (!isAnd)->P d1 J1):ev (K.C n) (if isAnd then .and X Y else .or X Y) l J=some (d,J')->P d J':=by
 cases isAnd with
 |true=>exact zv k1 k2
 |false=>exact Bh k1 k2
theorem jF.value {isAnd:Bool} {es:List Expr} {X:Mine.X} {pos:Pos} (h:jF K c isAnd es X) :
  ∀env n A s ρ J l d J' Q E,At K c env n A s ρ J l->bW K n->ev (K.C n) X l J=some (d,J')->kG K ρ J J' s d Q->wpAny K.M A (boolOp pos (if isAnd then .And else .Or) (evalEach es env)) Q E s:=by
 induction h with
 |one hx=>intro env n A s ρ J l d J' Q E a hC he p;exact hx.1 _ _ _ _ _ _ _ _ _ _ _ a hC he p
 | @more x y r X Y hx _ ih=>
  intro env n A s ρ J l d J' Q E a hC;have go:∀d1 J1 b,ev (K.C n) X l J=some (d1,J1)->bG d1=some b->(∀v1 ρ1 hp1 tk1,au ρ J ρ1 J1 s.heap hp1->K.sr ρ1 J1 hp1->K.rep hp1 ρ1 v1 d1->wpAny K.M A (if b=isAnd then boolOp pos (if isAnd then .And else .Or) (evalEach (y::r) env) else pure v1) Q E { s with heap:=hp1,toks:=tk1 })->
    wpAny K.M A (boolOp pos (if isAnd then .And else .Or) (eval x env::eval y env::evalEach r env)) Q E s:=fun d1 J1 b h1 h2 k=>by
   refine wpAny_bind (hx.1 _ _ _ _ _ _ _ _ _ _ _ a hC h1 fun v1 ρ1 hp1 tk1 g1 x1 r1=>?_);refine wpAny_bind (wpAny_standAt (wpAny_bind (wpAny_holding (mA r1 h2 ?_))));have:=k v1 ρ1 hp1 tk1 g1 x1 r1
   cases b<;>cases isAnd<;>exact this
  intro he
  refine pZ (fun d1 J1 h1 h2 h3 p=>?_) (fun d1 J1 h1 h2 p=>?_) he
  ·exact go d1 J1 _ h1 h2 fun v1 ρ1 hp1 tk1 g1 x1 r1=>by rw[if_pos rfl];exact ih env n A { s with heap:=hp1,toks:=tk1 } ρ1 J1 l d J' Q E (a.grow g1 x1 tk1) hC h3 (fp.grow p g1)
  ·exact go d1 J1 _ h1 h2 fun v1 ρ1 hp1 tk1 g1 x1 r1=>by rw[if_neg (by cases isAnd<;>exact nofun)];exact wpAny_pure (p v1 ρ1 hp1 tk1 g1 x1 r1)
theorem jF.test {isAnd:Bool} {es:List Expr} {X:Mine.X} (h:jF K c isAnd es X) :
  ∀env n A s ρ J l d b J' Q E,At K c env n A s ρ J l->bW K n->ev (K.C n) X l J=some (d,J')->bG d=some b->
   (∀ρ' h' tk',au ρ J ρ' J' s.heap h'->K.sr ρ' J' h'->Q b { s with heap:=h',toks:=tk' })->wpAny K.M A (allTrue (if isAnd then .And else .Or) es env) Q E s:=by
 induction h with
 | @one x X hx=>
  intro env n A s ρ J l d b J' Q E a hC he hb h;have hx':=hx.2 env n A s ρ J l d b J' Q E a hC he hb h
  cases isAnd with
  |true=>exact wpAny_allTrue_And_cons (wpAny_mono hx' (fun b' s' hq=>by cases b' with|true=>exact wpAny_allTrue_And_nil hq|false=>exact hq) fun _ _ e=>e)
  |false=>exact wpAny_allTrue_Or_cons (wpAny_mono hx' (fun b' s' hq=>by cases b' with|true=>exact hq|false=>exact wpAny_allTrue_Or_nil hq) fun _ _ e=>e)
 | @more x y r X Y hx _ ih=>
  intro env n A s ρ J l d b J' Q E a hC;intro he
  refine pZ (fun d1 J1 h1 h2 h3 hb h=>?_) (fun d1 J1 h1 h2 hb h=>?_) he
  ·have rest:=fun ρ1 hp1 tk1 (g1:au ρ J ρ1 J1 s.heap hp1) (x1:K.sr ρ1 J1 hp1)=>ih env n A { s with heap:=hp1,toks:=tk1 } ρ1 J1 l d b J' Q E (a.grow g1 x1 tk1) hC h3 hb fun ρ' h' tk' g x'=>h _ _ _ (g1.trans g) x'
   cases isAnd with
   |true=>exact wpAny_allTrue_And_cons (hx.2 env n A s ρ J l d1 _ J1 _ E a hC h1 h2 rest)
   |false=>exact wpAny_allTrue_Or_cons (hx.2 env n A s ρ J l d1 _ J1 _ E a hC h1 h2 rest)
  ·rw[h2] at hb
   cases hb
   cases isAnd with
   |true=>exact wpAny_allTrue_And_cons (hx.2 env n A s ρ J l d1 _ J1 _ E a hC h1 h2 h)
   |false=>exact wpAny_allTrue_Or_cons (hx.2 env n A s ρ J l d1 _ J1 _ E a hC h1 h2 h)
theorem jF.sim {isAnd:Bool} {es:List Expr} {X:Mine.X} {pos:Pos} (h:jF K c isAnd es X):aK K c (.BoolOp (if isAnd then .And else .Or) es pos) X:=
 ⟨fun env n A s ρ J l d J' Q E a hC he p=>by rw[arm_eval_BoolOp];exact h.value (pos:=pos) env n A s ρ J l d J' Q E a hC he p,
  fun env n A s ρ J l d b J' Q E a hC he hb hq=>wpAny_isTrue_BoolOp (h.test env n A s ρ J l d b J' Q E a hC he hb hq)⟩
noncomputable def iS (K:dj) (c:bV) (es:List Expr) (x:X):Prop:=
 ∀pos env n A s ρ J l ds J' Q E,At K c env n A s ρ J l->bW K n->iU (K.C n) x l J=some (ds,J')->
  (∀vs ρ' h' tk',au ρ J ρ' J' s.heap h'->K.sr ρ' J' h'->ak K.H₀ h' ρ' vs ds->Q vs { s with heap:=h',toks:=tk' })->wpAny K.M A (spliced (backTo pos (starEach es env))) Q E s
noncomputable def az (e:Expr):Bool:=!Nat.beq e.ctorIdx 22
theorem aC {e:Expr} (h:az e=true) (r:List Expr) (env:Env):starEach (e::r) env=(false,eval e env)::starEach r env:=by
 cases e<;>first|rfl|exact(Bool.false_ne_true h).elim
theorem iS.nil:iS K c [] .af:=fun pos env n A s ρ J l ds J' Q E a hC he=>by
 refine pG (fun h=>?_) he;exact Calls.spliced_nil (h _ _ _ _ (au.refl _ _ _) a.sr trivial)
theorem iS.cons {e:Expr} {es:List Expr} {X Y:Mine.X} (hs:az e=true) (hx:bg K c e X) (hy:iS K c es Y):iS K c (e::es) (.aa X Y):=fun pos env n A s ρ J l ds J' Q E a hC he=>by
 refine jT (fun d1 J1 ds2 J2 h1 h2 h=>?_) he;rw[aC hs];show wpAny K.M A (spliced ((false,eval e env)::backTo pos (starEach es env))) Q E s
 refine Calls.spliced_cons (hx _ _ _ _ _ _ _ _ _ _ _ a hC h1 fun v1 ρ1 hp1 tk1 g1 x1 r1=>?_)
 refine hy pos _ _ _ _ _ _ _ _ _ _ _ (a.grow g1 x1 tk1) hC h2 fun vs ρ2 hp2 tk2 g2 x2 r2=>?_;exact h _ _ _ _ (g1.trans g2) x2 ⟨r1.grow x1 g2,r2⟩
theorem aK.call {f:Nat} {x:Str} {np pos:Pos} {e:Expr} {es:List Expr} {X Y:Mine.X} (hf:K.fn[f]?=some x) (hg:c.scope.names.lookup x=some .globalImplicit) (hp:cV x=true)
  (hs:az e=true) (ha:iS K c (e::es) (.aa X Y)):aK K c (.Call (.Name x np) (e::es) [] pos) (.call f (.aa X Y)):=
 aK.of (fun env n A s ρ J l d J' Q E a hC he p=>by
  refine wG (fun ds J1 h1 he=>?_) he;obtain⟨hv,o,fd,ho,hd⟩:=a.ok.fns f x hf;refine wpAny_Call_NameR (pH a hg hp hv ?_);have ht:backTo pos (starEach (e::es) env)=(false,eval e env)::backTo pos (starEach es env):=by rw[aC hs];rfl
  refine Calls.callWith_function (o:=o) (fd:=fd) ?_
  rw[ht];refine Calls.evalArgs_plain ?_;rw[<-ht]
  refine ha pos _ _ _ _ _ _ _ _ _ _ _ a hC h1 fun vs ρ1 hp1 tk1 g1 x1 r1=>?_;exact⟨⟨x1.keep _ _ ho,hd⟩,hC f ds J1 d J' A _ ρ1 vs Q E he a.ok x1 r1 a.room (fp.grow p g1)⟩) (fun _ _=>rfl)
theorem iM {x:Str} {id:String} {np pos:Pos} {e:Expr} {Q E:Value->Shared->Prop} (a:At K c env n A s ρ J l) (hg:c.scope.names.lookup x=some .globalImplicit) (hp:cV x=true) (hn:x∈BN) (hne:x≠"__name__")
  (hv:bootBuiltins x=some (.builtin id)) (hs:az e=true) (h:wpAny K.M A (eval e env) (fun v s₁=>wpAny K.M A (call (.builtin id) [v]) Q E s₁) E s) :
  wpAny K.M A (eval (.Call (.Name x np) [e] [] pos) env) Q E s:=by
 refine wpAny_Call_NameR (hY a hg hp hn hne hv ?_);rw[show backTo pos (starEach [e] env)=[(false,eval e env)] by rw[aC hs];rfl];exact callWith_builtin1' h
where callWith_builtin1' {id:String} {t:Sem Value} {pos:Pos} {Q E:Value->Shared->Prop} {s:Shared} (h:wpAny K.M A t (fun v s₁=>wpAny K.M A (call (.builtin id) [v]) Q E s₁) E s):wpAny K.M A (callWith pos (.builtin id) [] [(false,t)] []) Q E s:=
 Calls.callWith_builtin rfl (Calls.evalArgs_plain (Calls.spliced_cons (wpAny_mono h (fun _ _ h₁=>Calls.spliced_nil h₁) fun _ _ e=>e)))
theorem iL {x:Str} {T:String} {np pos:Pos} {e:Expr} {Q E:Value->Shared->Prop} (a:At K c env n A s ρ J l) (hg:c.scope.names.lookup x=some .globalImplicit) (hp:cV x=true) (hn:x∈BN) (hne:x≠"__name__")
  (hv:bootBuiltins x=some (.type T)) (hs:az e=true) (h:wpAny K.M A (eval e env) (fun v s₁=>wpAny K.M A (call (.type T) [v]) Q E s₁) E s) :
  wpAny K.M A (eval (.Call (.Name x np) [e] [] pos) env) Q E s:=by
 refine wpAny_Call_NameR (hY a hg hp hn hne hv ?_);rw[show backTo pos (starEach [e] env)=[(false,eval e env)] by rw[aC hs];rfl]
 exact PyProof.Rows.callWith_type rfl (Calls.evalArgs_plain (Calls.spliced_cons (wpAny_mono h (fun _ _ h₁=>Calls.spliced_nil h₁) fun _ _ e=>e)))
theorem aK.abs {np pos:Pos} {e:Expr} {X:Mine.X} (hg:c.scope.names.lookup ("abs":Str)=some .globalImplicit) (hs:az e=true) (hx:bg K c e X):aK K c (.Call (.Name ("abs":Str) np) [e] [] pos) (.abs X):=
 aK.of (fun env n A s ρ J l d J' Q E a hC he=>by
  refine zw (fun i J1 h1 p=>?_) he
  refine iM (id:="abs") a hg (by decide) (by decide) (by decide) (by decide +kernel) hs (hx _ _ _ _ _ _ _ _ _ _ _ a hC h1 fun v1 ρ1 hp1 tk1 g1 x1 r1=>?_);obtain⟨t,rfl⟩:=r1
  exact call_abs_int fun u tk=>p _ _ _ _ g1 x1 ⟨_,rfl⟩) (fun _ _=>rfl)
end
section
variable {K:dj} {c:bV} {env:Env} {n:Nat} {A:Around} {s:Shared} {ρ:List Addr} {J:St} {l:aB}
theorem aK.tup {es:List Expr} {q:Nat} {pos:Pos} {X:Mine.X} (ha:iS K c es X):aK K c (.Tuple es q pos) (.tup X):=
 aK.of (fun env n A s ρ J l d J' Q E a hC he=>by
  refine zb (fun ds J1 h1 hl p=>?_) he;rw[arm_eval_Tuple]
  refine wpAny_bind (wpAny_standAt (wpAny_bind (ha pos _ _ _ _ _ _ _ _ _ _ _ a hC h1 fun vs ρ1 hp1 tk1 g1 x1 r1=>?_)))
  exact wpAny_newTuple (fp.newTup (s:={ s with heap:=hp1,toks:=tk1 }) (fp.grow p g1) x1 _ r1) (by rw[r1.length];exact bC hl)) (fun _ _=>rfl)
noncomputable def eC (K:dj) (c:bV) (fresh:Bool) (e:Expr) (x:X):Prop:=
 ∀env n A s ρ J l ds J' Q E,At K c env n A s ρ J l->bW K n->di (K.C n) x l J=some (ds,J')->
  (∀a vs ep ρ' h' tk',au ρ J ρ' J' s.heap h'->K.sr ρ' J' h'->(fresh=true->s.heap.get? a=none/\a∉ρ')->h'.get? a=some (seqObj "list" vs ep)->ak K.H₀ h' ρ' vs.toList ds->Q (.ref a) { s with heap:=h',toks:=tk' })->
  wpAny K.M A (eval e env) Q E s
theorem eC.disp {es:List Expr} {pos:Pos} {X:Mine.X} (ha:iS K c es X):eC K c true (.List es pos) (.cC X):=
 fun env n A s ρ J l ds J' Q E a hC he=>by
  refine uk (fun ds1 J1 h1 hl h=>?_) he;rw[arm_eval_List]
  refine wpAny_bind (wpAny_standAt (wpAny_bind (ha pos _ _ _ _ _ _ _ _ _ _ _ a hC h1 fun vs ρ1 hp1 tk1 g1 x1 r1=>?_)));refine wpAny_newList ?_ (by rw[r1.length];exact bC hl);have hn:hp1.get? hp1.objs.size=none:=aO _
  refine h hp1.objs.size vs.toArray 0 ρ1 _ _ (g1.trans (au.push x1 _)) (x1.push _) (fun _=>⟨?_,x1.sizeNot⟩) (Heap.get?_push_size _ rfl) (r1.push x1 _)
  cases q:s.heap.get? hp1.objs.size with
  |none=>rfl
  |some o=>obtain⟨o',e⟩:=g1.live _ _ q;rw[hn] at e;cases e
theorem aK.lst {e:Expr} {X:Mine.X} (hx:eC K c true e X) (he:∀env whole,isTrue e env whole=(do let v<-whole;standAt e.pos;holding [v] (truthy v))):aK K c e (.lst X):=
 aK.of (fun env n A s ρ J l d J' Q E a hC he=>by
  refine sZ (fun ds J1 h1 p=>?_) he
  refine hx _ _ _ _ _ _ _ _ _ _ _ a hC h1 fun ad vs ep ρ1 hp1 tk1 g1 x1 hf hg r1=>?_;obtain⟨h0,hn⟩:=hf rfl;refine p _ (ρ1++[ad]) _ _ (g1.adopt h0) (x1.adopt hn (a.sr.freshBase h0) ⟨vs,ep,hg,r1.more _⟩) ⟨ad,rfl,?_⟩;rw[<-x1.len,List.getElem?_append_right (Nat.le_refl _),Nat.sub_self];rfl) he
theorem eC.ofx {e:Expr} {X:Mine.X} (hx:bg K c e X):eC K c false e (.qV X):=
 fun env n A s ρ J l ds J' Q E a hC he=>by
  refine wB (fun r J1 ds' v1 h1 hr h=>?_) he
  refine hx _ _ _ _ _ _ _ _ _ _ _ a hC h1 fun v1 ρ1 hp1 tk1 g1 x1 r1=>?_;obtain⟨t,rfl,g⟩:=r1;obtain⟨vs,ep,gl,r2⟩:=x1.objs _ _ _ g hr
  exact h t vs ep ρ1 hp1 tk1 g1 x1 (fun q=>by cases q) gl r2
noncomputable def jh (e:Expr):Bool:=Nat.beq e.ctorIdx 26
theorem iY {slice:Expr} (h:jh slice=false) (o i:Value):subscripted slice false o i=operate [o,i] (getItem o i):=by
 cases slice<;>first|rfl|exact(Bool.false_ne_true h.symm).elim
theorem sd {k:Int} (h:k<(ay:Int)):k<2^63:=by unfold ay at h;exists L01,0x8000000000000000f1003100000617003802,h
theorem zz {P:Prop} {o i d:D} (k1:∀ds k,o = .tup ds->i = .int k->0<=k/\k<(ay:Int)->ds[k.toNat]?=some d->P) (k2:∀r k ds w,o = .ref r->i = .int k->J[r]?=some (.list ds w)->0<=k/\k<(ay:Int)->ds[k.toNat]?=some d->P)
  (k3:∀r ks es w k,o = .ref r->i = .tup ks->J[r]?=some (.dict es w)->aG ks=some k->aU es k=some d->P) (e:bo J o i=some d):P:=by
 cases o with
 |tup ds=>cases i with
  |int k=>exact ch (k1 ds k rfl rfl) e
  |_=>exact dR e
 |ref r=>cases i with
  |int k=>exact ew (fun ds w hr=>ch (k2 r k ds w rfl rfl hr)) e
  |tup ks=>exact tP (fun es w k hr hk=>k3 r ks es w k rfl rfl hr hk) e
  |_=>exact dR e
 |_=>exact dR e
theorem wI {vo vi:Value} {o i d:D} {Q:Value->Shared->Prop} {E:Value->Shared->Prop} (ok:K.Ok) (x:K.sr ρ J s.heap) (hu:A.units+40<cLine) (ro:K.rep s.heap ρ vo o) (ri:K.rep s.heap ρ vi i)
  (e:bo J o i=some d) (h:∀v tk,K.rep s.heap ρ v d->Q v { s with toks:=tk }):wpAny K.M A (getItem vo vi) Q E s/\∃T id,s.TypeIs vo T/\typeLookup (.type T) "__getitem__"=pure (some (.builtin id)):=by
 refine zz (fun ds k q1 q2 hk e2=>?_) (fun r k ds v1 q1 q2 hr hk e2=>?_) (fun r ks es v1 k q1 q2 hr hk e2=>?_) e
 ·subst q1;subst q2;obtain⟨t,vs,ep,rfl,g,r⟩:=ro;obtain⟨u,rfl⟩:=ri;obtain⟨v,hv,rv⟩:=r.get e2;refine⟨?_,_,_,⟨_,g,rfl⟩,PySem.F.slot_tuple_getitem.lookup⟩;have hlt:k.toNat<vs.size:=by
   have:=(List.getElem?_eq_some_iff.mp hv).1;simpa using this
  refine PySem.P.getItem_tuple (k:=k.toNat) (y:=v) g (by exists L11,0x8000000000000000f1640070030001146812,hk) (sd hk.2) ?_ (by simpa using hv) (h v s.toks rv);unfold seqIndex?;have h1:¬k<0:=Int.not_lt.mpr hk.1;have h2:k<(vs.size:Int):=by exists L21,0x107003011002011003600007500011467810000824,hlt,(ft (k))
  simp[h1,h2,hk.1]
 ·subst q1;subst q2;obtain⟨t,rfl,g⟩:=ro;obtain⟨u,rfl⟩:=ri;obtain⟨vs,ep,gl,r2⟩:=x.objs _ _ _ g hr;obtain⟨v,hv,rv⟩:=r2.get e2;exact⟨wpAny_getItem_list ⟨_,gl,rfl,_,rfl⟩ hk.1 (sd hk.2) (by simpa using hv) (h v s.toks rv),_,_,⟨_,gl,rfl⟩,slot_list_getitem.lookup⟩
 ·subst q1;subst q2;obtain⟨t,rfl,g⟩:=ro;obtain⟨u,ws,ep',rfl,g',r'⟩:=ri;obtain⟨ys,dy,my,r2,_⟩:=x.objs _ _ _ g hr;obtain⟨b,v,h1,h2⟩:=(dB (H₀:=K.H₀) (ρ:=ρ) k ys es my r2).2 d e2;exact⟨wpAny_getItem_heap (knd:=ci K.prog K.w) (k:=k) (by show A.units+1<cLine;exists L20,0x1011100201028210020824,hu) (lF g' r' hk) dy h1 (h v _ h2),_,_,dy.typeIs,slot_dict_getitem.lookup⟩
theorem aK.idx {o i:Expr} {O I:Mine.X} {pos:Pos} (ho:bg K c o O) (hi:bg K c i I) (hs:jh i=false):aK K c (.Subscript o i pos) (.idx O I):=
 aK.of (fun env n A s ρ J l d J' Q E a hC he=>by
  refine zn (fun d1 J1 d2 J2 d3 h1 h2 h3 p=>?_) he
  refine Subscript_ (ho _ _ _ _ _ _ _ _ _ _ _ a hC h1 fun v1 ρ1 hp1 tk1 g1 x1 r1=>?_)
  refine hi _ _ _ _ _ _ _ _ _ _ _ (a.grow g1 x1 tk1) hC h2 fun v2 ρ2 hp2 tk2 g2 x2 r2=>?_;have:=wI (A:=A) (s:={ s with heap:=hp2,toks:=tk2 }) (Q:=Q) (E:=E) a.ok x2 a.room.u (r1.grow x1 g2) r2 h3 fun v tk rv=>p v ρ2 hp2 tk (g1.trans g2) x2 rv;obtain⟨w1,T,id,hT,hl⟩:=this
  exact tail_any hT hl w1 (iY hs _ _)) (fun _ _=>rfl)
noncomputable def Ae (v:Const):Option Nat:=by
 cases v with
 |int i=>exact Int.casesOn i some fun _=>none
 |_=>exact none
noncomputable def qW (e:Expr):Option Nat:=by
 cases e with
 |Constant v _ _=>exact Ae v
 |_=>exact none
noncomputable def lu (o:Option Expr):Option (Option Nat):=Option.casesOn o (some none) fun e=>(qW e).map some
theorem vS {v:Const} {k:Nat} (h:Ae v=some k):v = .int (k:Int):=by
 cases v with
 |int i=>
  cases i with
  |ofNat n=>exact congrArg (fun k:Nat=>Const.int (k:Int)) (Option.some.inj h)
  |negSucc n=>exact(Option.some_ne_none _ h.symm).elim
 |_=>exact(Option.some_ne_none _ h.symm).elim
theorem tY {e:Expr} {k:Nat} (h:qW e=some k):∃q p,e = .Constant (.int (k:Int)) q p:=by
 cases e with
 |Constant v q p=>exact⟨q,p,by rw[vS h]⟩
 |_=>exact(Option.some_ne_none _ h.symm).elim
theorem kq {pe:Option Expr} {q:Option Nat} (h:lu pe=some q) {Q:Value->Shared->Prop} {E:Value->Shared->Prop} (hq:∀v tk,IsPart v (q.map fun k=>(k:Int))->Q v { s with toks:=tk }) :
  wpAny K.M A (evalPart pe env) Q E s:=by
 cases pe with
 |none=>
  cases h;rw[evalPart_none];exact wpAny_pure (hq _ s.toks .none)
 |some e=>
  obtain⟨k,h',rfl⟩:=Option.map_eq_some_iff.mp (show(qW e).map some=some q from h);obtain⟨_,_,rfl⟩:=tY h';exact wpAny_evalPart_some (wpAny_Constant_int (hq _ _ (.int _ _)))
end
section
variable {K:dj} {c:bV} {env:Env} {n:Nat} {A:Around} {s:Shared} {ρ:List Addr} {J:St} {l:aB}
theorem au.fresh {ρ ρ':List Addr} {J J':St} {h h':Heap} (g:au ρ J ρ' J' h h') {a:Addr} (ha:h'.get? a=none):h.get? a=none:=by
 cases q:h.get? a with
 |none=>rfl
 |some o=>obtain⟨o',e⟩:=g.live _ _ q;rw[ha] at e;cases e
theorem gS {h:Heap} {a:Addr} (ha:h.objs.size<=a):h.get? a=none:=by
 cases q:h.get? a with
 |none=>rfl
 |some o=>exact absurd (Heap.lt_size q) (Nat.not_lt.mpr ha)
theorem vq {h:Heap} {ρ:List Addr} {J:St} {v:Value} {d:D} {ds:List D} (x:K.sr ρ J h) (r:K.rep h ρ v d) (e:Af J d=some ds) :
  ∃a vs,v = .ref a/\h.IsList a vs/\ak K.H₀ h ρ vs.toList ds:=by
 cases d with
 |fro es=>
  cases e;obtain⟨a,o,vs,ep,rfl,g,hc,hd,r⟩:=r;exact⟨a,vs,rfl,⟨o,x.keep _ _ g,hc,ep,hd⟩,r⟩
 |ref r'=>
  obtain⟨o,hr,e⟩:=Option.bind_eq_some_iff.mp e
  cases o with
  |list es w=>
   cases e;obtain⟨t,rfl,g⟩:=r;obtain⟨vs,ep,gl,r2⟩:=x.objs _ _ _ g hr;exact⟨t,vs,rfl,⟨_,gl,rfl,ep,rfl⟩,r2⟩
  |dict es w=>cases e
 |_=>exact dR e
theorem yN (vs:Array Value) (lo hi:Option Nat) :
  (slicePick vs (lo.map fun k=>(k:Int)) (hi.map fun k=>(k:Int)) none).toList=(vs.toList.take (hi.getD vs.size)).drop (lo.getD 0):=by
 rw[slicePick_plain];show(vs.toList.drop _).take _=_;rw[List.drop_take]
 have h1:((lo.map fun k=>(k:Int)).elim 0 (clipAt vs.size))=min (lo.getD 0) vs.size:=by
  cases lo with
  |none=>simp
  |some a=>simp[clipAt_nat]
 have h2:((hi.map fun k=>(k:Int)).elim vs.size (clipAt vs.size))=min (hi.getD vs.size) vs.size:=by
  cases hi with
  |none=>simp
  |some a=>simp[clipAt_nat]
 rw[h1,h2];have hlen:vs.toList.length=vs.size:=by simp
 rcases Nat.le_total (lo.getD 0) vs.size with h|h
 ·rw[Nat.min_eq_left h];rcases Nat.le_total (hi.getD vs.size) vs.size with h'|h'
  ·rw[Nat.min_eq_left h']
  ·rw[Nat.min_eq_right h',List.take_of_length_le (by rw[List.length_drop,hlen];exact Nat.le_refl _),List.take_of_length_le (by rw[List.length_drop,hlen];exists L50,0x30201011302401006104030221040167801120240000600402022004016781000185a,h',(fs (vs.size) (lo.getD 0)),(fs (hi.getD vs.size) (lo.getD 0)))]
 ·rw[Nat.min_eq_right h,List.drop_of_length_le (by exact Nat.le_refl _),List.drop_of_length_le (by omega)];simp
theorem eC.slice {o:Expr} {X:Mine.X} {plo phi:Option Expr} {lo hi:Option Nat} {p pos:Pos} (ho:bg K c o X) (hlo:lu plo=some lo) (hhi:lu phi=some hi)
  (ht:∀v r,letTemporaryGo o v r=pure ()):eC K c true (.Subscript o (.Slice plo phi none p) pos) (.lsl X lo hi):=
 fun env n A s ρ J l ds J' Q E a hC he=>by
  refine zj (fun d1 J1 es h1 h2 h3 h=>?_) he
  refine wpAny_Subscript_list_slice (ho _ _ _ _ _ _ _ _ _ _ _ a hC h1 fun v1 ρ1 hp1 tk1 g1 x1 r1=>?_) ht
  refine kq hlo fun vl tk2 pl=>?_
  refine kq hhi fun vu tk3 pu=>?_;obtain⟨ad,vs,rfl,hl,r2⟩:=vq x1 r1 h2;have hsz:vs.size=es.length:=by have:=r2.length;simpa using this
  refine⟨ad,vs,_,_,rfl,hl,by rw[hsz];exact bC h3,pl,pu,?_⟩;have G1:=au.push x1 { cls:=.type "slice",data:=.fields #[vl,vu,.none] };have X1:=x1.push { cls:=.type "slice",data:=.fields #[vl,vu,.none] }
  have G2:=au.push X1 { cls:=.type "list",data:=.seq (slicePick vs (lo.map fun k=>(k:Int)) (hi.map fun k=>(k:Int)) none) };have hsz2:hp1.objs.size+1=(hp1.push { cls:=.type "slice",data:=.fields #[vl,vu,.none] }).objs.size:=by rw[Heap.size_push]
  refine h (hp1.objs.size+1) (slicePick vs (lo.map fun k=>(k:Int)) (hi.map fun k=>(k:Int)) none) 0 ρ1 _ _ (g1.trans (G1.trans G2)) (X1.push _) (fun _=>⟨g1.fresh (gS (Nat.le_succ _)),?_⟩) ?_ ?_
  ·exact x1.freshNot (gS (Nat.le_succ _))
  ·show Heap.get? (Heap.push _ _) (hp1.objs.size+1)=_;rw[hsz2];exact Heap.get?_push_size _ rfl
  ·rw[yN,hsz];exact(((r2.take _).drop _).grow x1 G1).grow X1 G2
theorem Bd {v:Value} {d:D} {k:Int} {Q E:Value->Shared->Prop} (ok:K.Ok) (x:K.sr ρ J s.heap) (r:K.rep s.heap ρ v d) (e:fM J d=some k) (h:∀t tk,Q (.int k t) { s with toks:=tk }) :
  wpAny K.M A (call (.builtin "len") [v]) Q E s:=by
 unfold fM at e;split at e
 ·split at e
  ·rename_i ds hl
   cases e;obtain⟨a,vs,ep,rfl,g,r⟩:=r;have hs:vs.size=ds.length:=by have:=r.length;simpa using this
   have hz:=bC hl;rw[sizeLine_eq] at hz;refine PySem.P.len_tuple (n:=ep) g (by rw[hs];exists L10,0x900708000000000000000f148100000071001812,hz) ?_;rw[hs];exact h _ _
  ·cases e
 ·split at e
  ·split at e
   ·rename_i ds v1 hr hl
    cases e;obtain⟨a,rfl,g⟩:=r;obtain⟨vs,ep,gl,r⟩:=x.objs _ _ _ g hr;have hs:vs.size=ds.length:=by have:=r.length;simpa using this
    have hz:=bC hl;rw[sizeLine_eq] at hz;refine Calls.call_len_list ⟨_,gl,rfl,ep,rfl⟩ (by rw[hs];omega) ?_;rw[hs];exact h _ _
   ·cases e
  ·split at e
   ·rename_i es v1 hr hl
    cases e;obtain⟨a,rfl,g⟩:=r;obtain⟨xs,dx,mx,r,_⟩:=x.objs _ _ _ g hr;have hs:xs.length=es.length:=by simpa using congrArg List.length mx
    have hz:=bC hl;rw[sizeLine_eq] at hz;rw[<-hs] at hz h;refine call_len_meets (n:=xs.length) dx.typeIs PySem.F.slot_dict_len PySem.F.entry_dict_len (PySem.F.args_dict_len_1 _) (lenH a (gh ok.big x (List.mem_of_getElem? g))) (by exists L10,0x90110073812) (by exists L10,0x900708000000000000000f148100000071001812,hz)
     (fun Q' hq=>⟨xs,dx,hq⟩) (h _ _)
   ·cases e
  ·cases e
 ·cases e
where
 lenH (a:Addr) (ha:(a==sysModules)=false):Meets (Builtin.«dict.__len__» ⟨[.ref a],[]⟩)
   (fun A R s=>∃xs:List (List Int×Addr×Value),s.heap.DictOfH (ci K.prog K.w) a xs/\R (.ok (.ret (.int xs.length s.toks))) { s with toks:=s.toks+1 }):=
  Meets.of_wp fun prog w A R s ⟨xs,⟨o,es,ep,ho,hc,hd,he,hi,hn⟩,hQ⟩=>by
   have hes:es.size=xs.length:=by
    have h:=congrArg List.length he;rw[Array.length_toList,List.length_map] at h;exact h
   show wpAny _ _ (dictSize a >>= _) _ _ s;unfold dictSize;refine wpAny_bind (wpAny_bind (wpAny_dictEntries ho hd (wpAny_pure ?_)));show wpAny _ _ (Builtin.Dict.pendingCount a >>= _) _ _ s;refine wpAny_bind (wpAny_pendingCount_other ha ?_);refine wpAny_ret_mkInt ?_;rw[Nat.add_zero,hes];exact hQ
end
section
variable {prog:Program} {w:World} {H₀:Heap}
noncomputable def bm (h:Heap) (a:Addr):Prop:=∀ob items n,h.get? a=some ob->ob.cls = .type "tuple"->ob.data = .seq items n->False
theorem gK {h h':Heap} {ks:List Int} {a b:Addr} (x:(ci prog w).is h ks b) (hs:Heap.SameBut a h h') (hn:bm h a):(ci prog w).is h' ks b:=by
 obtain⟨o,items,n,ho,hc,hd,hi⟩:=x;exact⟨o,items,n,(hs.2 b (fun q=>hn o items n (q▸ho) hc hd)).trans ho,hc,hd,hi⟩
theorem SR.other {ρ:List Addr} {J:St} {h h':Heap} {a:Addr} (x:SR prog w H₀ ρ J h) (hs:Heap.SameBut a h h') (ha:a∉ρ) (h0:H₀.get? a=none) (hn:bm h a):SR prog w H₀ ρ J h' where
 keep:=fun b o e=>(hs.2 b (fun q=>by subst q;rw[h0] at e;cases e)).trans (x.keep b o e)
 len:=x.len
 nd:=x.nd
 new:=x.new
 objs:=fun i b o e e'=>by
  have hb:b≠a:=fun q=>ha (q▸List.mem_of_getElem? e)
  have hk:cg h h':=fun c vs ep e=>(hs.2 c (fun q=>hn _ vs ep (q▸e) rfl rfl)).trans e;have r:=x.objs i b o e e'
  cases o with
  |list ds=>
   obtain⟨vs,ep,e,r⟩:=r;exact⟨vs,ep,(hs.2 b hb).trans e,ak.mono hk (fun _ _ e=>e) _ r⟩
  |dict es=>
   obtain⟨xs,⟨o,es',ep,e,c,d,he,hkk,hnn⟩,hm,r,kr⟩:=r;exact⟨xs,⟨o,es',ep,(hs.2 b hb).trans e,c,d,he,fun y hy=>gK (hkk y hy) hs hn,hnn⟩,hm,ak.mono hk (fun _ _ e=>e) _ r,fun y hy=>cj.mono hk (fun _ _ e=>e) _ (kr y hy)⟩
theorem cj.other {ρ:List Addr} {h h':Heap} {a:Addr} {v:Value} {d:D} (r:cj H₀ h ρ v d) (hs:Heap.SameBut a h h') (hn:bm h a):cj H₀ h' ρ v d:=
 cj.mono (fun c vs ep e=>(hs.2 c (fun q=>hn _ vs ep (q▸e) rfl rfl)).trans e) (fun _ _ e=>e) d r
theorem ak.other {ρ:List Addr} {h h':Heap} {a:Addr} {vs:List Value} {ds:List D} (r:ak H₀ h ρ vs ds) (hs:Heap.SameBut a h h') (hn:bm h a):ak H₀ h' ρ vs ds:=
 ak.mono (fun c vs ep e=>(hs.2 c (fun q=>hn _ vs ep (q▸e) rfl rfl)).trans e) (fun _ _ e=>e) ds r
theorem au.other {ρ ρ':List Addr} {J J':St} {h h1 h2:Heap} {a:Addr} {o:Obj} (g:au ρ J ρ' J' h h1) (hl:∀b∈ρ,∃o,h.get? b=some o) (ha:h.get? a=none) (hs:Heap.SameBut a h1 h2) (e:h2.get? a=some o):au ρ J ρ' J' h h2 where
 pre:=g.pre
 ext:=fun b ob eb hb=>(hs.2 b (fun q=>by subst q;rw[ha] at eb;cases eb)).trans (g.ext b ob eb hb)
 live:=fun b ob eb=>by
  by_cases q:b=a
  ·subst q;exact⟨o,e⟩
  ·obtain⟨o',e'⟩:=g.live b ob eb;exact⟨o',(hs.2 b q).trans e'⟩
 vers:=g.vers
 same:=fun i b p p' eb ep ep' hv=>by
  have hb:b≠a:=fun q=>by
   subst q;obtain⟨o,e⟩:=hl b (List.mem_of_getElem? eb);rw[ha] at e;cases e
  rw[hs.2 b hb,g.same i b p p' eb ep ep' hv]
noncomputable def aM (prog:Program) (w:World) (H₀:Heap) (h:Heap) (ρ:List Addr) (a:Addr) (es:Es):Prop:=ObjRep prog w H₀ h ρ a (.dict es 0)
theorem iZ {h:Heap} {ρ:List Addr} {xs:List (List Int×Addr×Value)} {es:Es} {k:List Int} {a:Addr} {v:Value} {d:D} (hm:xs.map (·.1)=es.map (·.1)) (hr:ak H₀ h ρ (xs.map (·.2.2)) (es.map (·.2)))
  (rv:cj H₀ h ρ v d):(storedH xs k a v).map (·.1)=(bZ es k d).map (·.1)/\ak H₀ h ρ ((storedH xs k a v).map (·.2.2)) ((bZ es k d).map (·.2)):=by
 have hk:=dB k xs es hm hr
 cases e:aU es k with
 |none=>
  have e':=hk.1 e;simp only[storedH,e',bZ,e,Option.isSome_none,Bool.false_eq_true,if_false];refine⟨by simp[hm],?_⟩;simp only[List.map_append,List.map_cons,List.map_nil];exact hr.append ⟨rv,trivial⟩
 |some d0=>
  obtain⟨b,u,e',hru⟩:=hk.2 d0 e;simp only[storedH,e',bZ,e,Option.isSome_some,if_true];clear hru e e' hk d0;induction xs generalizing es with
  |nil=>cases es with
   |nil=>exact⟨rfl,trivial⟩
   |cons _ _=>exact nomatch hm
  |cons x xs ih=>
   cases es with
   |nil=>exact nomatch hm
   |cons y es=>
    have hm1:x.1=y.1:=(List.cons.inj hm).1;obtain⟨i1,i2⟩:=ih (List.cons.inj hm).2 hr.2;have key:(putAt k v x).1=(if y.1=k then (y.1,d) else y).1/\cj H₀ h ρ (putAt k v x).2.2 (if y.1=k then (y.1,d) else y).2:=by
     unfold putAt;by_cases q:x.1=k
     ·rw[if_pos q,if_pos (hm1▸q)];exact⟨hm1,rv⟩
     ·rw[if_neg q,if_neg (hm1▸q)];exact⟨hm1,hr.1⟩
    exact⟨congr (congrArg List.cons key.1) i1,key.2,i2⟩
theorem ig {h:Heap} {ρ:List Addr} {xs:List (List Int×Addr×Value)} {k:List Int} {a:Addr} {v:Value} (kr:nA H₀ h ρ xs) (hk:cj H₀ h ρ (.ref a) (ae k)):nA H₀ h ρ (storedH xs k a v):=fun y hy=>by
 unfold storedH at hy;split at hy
 ·obtain⟨x,hx,rfl⟩:=List.mem_map.mp hy;unfold putAt;split
  ·exact kr x hx
  ·exact kr x hx
 ·rcases List.mem_append.mp hy with hy|hy
  ·exact kr y hy
  ·rw[List.mem_singleton.mp hy];exact hk
theorem mP:∀k:List Int,aG (k.map D.int)=some k
 | []=>rfl
 |i::r=>congrArg (Option.map (i::·)) (mP r)
theorem mN {h:Heap} {ρ:List Addr} {k:List Int} {a:Addr} (hk:cj H₀ h ρ (.ref a) (ae k)):(ci prog w).is h k a:=by
 obtain⟨b,vs,ep,e,g,r⟩:=hk
 cases e;exact⟨_,vs,ep,g,rfl,rfl,gY r (mP k)⟩
theorem gW {h:Heap} {ρ:List Addr} {k:List Int} {a:Addr} {ds:List D} (r:cj H₀ h ρ (.ref a) (.tup ds)) (e:aG ds=some k):cj H₀ h ρ (.ref a) (ae k):=by
 rw[zy e] at r;exact r
theorem aM.notTup {h:Heap} {ρ:List Addr} {a:Addr} {es:Es} (x:aM prog w H₀ h ρ a es):bm h a:=fun ob items n e hc _=>by
 obtain⟨xs,⟨o,es',ep,e',c,_⟩,_⟩:=x;rw[e] at e';cases e';rw[c.1] at hc;simp at hc
theorem aM.here {h:Heap} {ρ:List Addr} {a:Addr} {es:Es} (x:aM prog w H₀ h ρ a es):∃o,h.get? a=some o:=ObjRep.here x
theorem aM.stay {ρ ρ':List Addr} {J J₀ J':St} {h h':Heap} {a:Addr} {es:Es} (r:aM prog w H₀ h ρ a es) (x:SR prog w H₀ ρ J h) (ha:a∉ρ) (g:au ρ J₀ ρ' J' h h'):aM prog w H₀ h' ρ' a es:=
 ObjRep.stay r x (x.tupKeep g) (fun _ _ e=>g.get e) (fun ob e=>g.ext _ _ e ha) (fun b ob hb e=>g.ext b ob e hb)
theorem aM.new (h:Heap) (ρ:List Addr):aM prog w H₀ (h.push { cls:=.type "dict",data:=.dict #[] }) ρ h.objs.size []:=
 ⟨[],Heap.DictOfH.new h,rfl,trivial,fun _ hy=>by simp at hy⟩
section
variable {s:Shared} {A:Around} {E:Value->Shared->Prop}
theorem iH {ρ:List Addr} {a t:Addr} {es:Es} {k:List Int} {v:Value} {d:D} {Q:Unit->Shared->Prop} (hu:A.units+1<cLine) (r:aM prog w H₀ s.heap ρ a es) (hk:cj H₀ s.heap ρ (.ref t) (ae k)) (rv:cj H₀ s.heap ρ v d)
  (hl:es.length<ay) (hQ:∀h' tk,Heap.SameBut a s.heap h'->aM prog w H₀ h' ρ a (bZ es k d)->Q () { s with heap:=h',toks:=tk }) :
  wpAny (model prog w) A (dictSet a (.ref t) v) Q E s:=by
 have hnt:=r.notTup;obtain⟨xs,dx,hm,hr,kr⟩:=r;have hs:xs.length=es.length:=by simpa using congrArg List.length hm
 refine wpAny_dictSet_heap (knd:=ci prog w) (k:=k) (show A.units<cLine by exact Nat.lt_of_succ_lt hu) (mN hk) dx (fun h' dx' hs'=>hQ h' _ hs' ?_) (by rw[hs];exact bC hl);obtain⟨m1,m2⟩:=iZ (k:=k) (a:=t) hm hr rv;exact⟨_,dx',m1,m2.other hs' hnt,fun y hy=>cj.other (ig kr hk y hy) hs' hnt⟩
theorem qr {ρ:List Addr} {a t:Addr} {es:Es} {k:List Int} {v:Value} {d:D} {Q:Unit->Shared->Prop} (hu:A.units+1<cLine) (r:aM prog w H₀ s.heap ρ a es) (hk:cj H₀ s.heap ρ (.ref t) (ae k)) (rv:cj H₀ s.heap ρ v d)
  (hl:es.length<ay) (hQ:∀h' tk,Heap.SameBut a s.heap h'->aM prog w H₀ h' ρ a (bZ es k d)->Q () { s with heap:=h',toks:=tk }) :
  wpAny (model prog w) A (setItem (.ref a) (.ref t) v) Q E s:=by
 have hnt:=r.notTup;obtain⟨xs,dx,hm,hr,kr⟩:=r;have hs:xs.length=es.length:=by simpa using congrArg List.length hm
 refine wpAny_setItem_heap (knd:=ci prog w) (k:=k) (show A.in1.units<cLine from hu) (mN hk) dx (fun h' dx' hs'=>hQ h' _ hs' ?_) (by rw[hs];exact bC hl);obtain⟨m1,m2⟩:=iZ (k:=k) (a:=t) hm hr rv;exact⟨_,dx',m1,m2.other hs' hnt,fun y hy=>cj.other (ig kr hk y hy) hs' hnt⟩
end
end
section
variable {K:dj} {c:bV} {env:Env} {n:Nat} {A:Around} {s:Shared} {ρ:List Addr} {J:St} {l:aB}
theorem aK.len {np pos:Pos} {e:Expr} {X:Mine.X} (hg:c.scope.names.lookup ("len":Str)=some .globalImplicit) (hs:az e=true) (hx:bg K c e X):aK K c (.Call (.Name ("len":Str) np) [e] [] pos) (.len X):=
 aK.of (fun env n A s ρ J l d J' Q E a hC he=>by
  refine zk (fun d1 J1 k h1 h2 p=>?_) he
  refine iM (id:="len") a hg (by decide) (by decide) (by decide) (by decide +kernel) hs (hx _ _ _ _ _ _ _ _ _ _ _ a hC h1 fun v1 ρ1 hp1 tk1 g1 x1 r1=>?_)
  exact Bd a.ok x1 r1 h2 fun t tk=>p _ _ _ _ g1 x1 ⟨_,rfl⟩) (fun _ _=>rfl)
theorem aK.jg {np pos:Pos} {e:Expr} {X:Mine.X} {fr:Bool} (hg:c.scope.names.lookup ("len":Str)=some .globalImplicit) (hs:az e=true) (hx:eC K c fr e X):aK K c (.Call (.Name ("len":Str) np) [e] [] pos) (.jg X):=
 aK.of (fun env n A s ρ J l d J' Q E a hC he=>by
  refine uj (fun ds J1 h1 hl p=>?_) he
  refine iM (id:="len") a hg (by decide) (by decide) (by decide) (by decide +kernel) hs (hx _ _ _ _ _ _ _ _ _ _ _ a hC h1 fun ad vs ep ρ1 hp1 tk1 g1 x1 _ hh r1=>?_);have hz:=bC hl;rw[sizeLine_eq] at hz;have hsz:vs.size=ds.length:=by have:=r1.length;simpa using this
  refine Calls.call_len_list ⟨_,hh,rfl,ep,rfl⟩ (by rw[hsz];omega) ?_;rw[hsz]
  exact p _ _ _ _ g1 x1 ⟨_,rfl⟩) (fun _ _=>rfl)
theorem aK.gm {np pos:Pos} {e:Expr} {X:Mine.X} {fr:Bool} (hg:c.scope.names.lookup ("list":Str)=some .globalImplicit) (hs:az e=true) (hx:eC K c fr e X):aK K c (.Call (.Name ("list":Str) np) [e] [] pos) (.gm X):=
 aK.of (fun env n A s ρ J l d J' Q E a hC he=>by
  refine rj (fun ds J1 h1 hl p=>?_) he
  refine iL (T:="list") a hg (by decide) (by decide) (by decide) (by decide +kernel) hs (hx _ _ _ _ _ _ _ _ _ _ _ a hC h1 fun ad vs ep ρ1 hp1 tk1 g1 x1 _ hh r1=>?_);have hsz:vs.size=ds.length:=by have:=r1.length;simpa using this
  refine call_list_seq ad (T:="list") (.inl rfl) hh rfl rfl (fun h' c' hk hD=>?_) (by rw[hsz];exact bC hl);have g2:au ρ1 _ ρ1 _ hp1 h':=au.keeps x1 hk;have x2:=x1.keeps hk;refine p _ (ρ1++[hp1.objs.size]) _ _ ((g1.trans g2).adopt (g1.fresh (aO _))) (x2.adopt (x1.sizeNot) (x1.freshBase (aO _)) ⟨vs,c',hD,(r1.grow x1 g2).more _⟩) ⟨_,rfl,?_⟩;rw[<-x1.len,List.getElem?_append_right (Nat.le_refl _),Nat.sub_self];rfl) (fun _ _=>rfl)
theorem aK.fN {np pos:Pos} {e:Expr} {X:Mine.X} {fr:Bool} (hg:c.scope.names.lookup ("tuple":Str)=some .globalImplicit) (hs:az e=true) (hx:eC K c fr e X):aK K c (.Call (.Name ("tuple":Str) np) [e] [] pos) (.fN X):=
 aK.of (fun env n A s ρ J l d J' Q E a hC he=>by
  refine uf (fun ds J1 h1 hl p=>?_) he
  refine iL (T:="tuple") a hg (by decide) (by decide) (by decide) (by decide +kernel) hs (hx _ _ _ _ _ _ _ _ _ _ _ a hC h1 fun ad vs ep ρ1 hp1 tk1 g1 x1 _ hh r1=>?_);have hsz:vs.size=ds.length:=by have:=r1.length;simpa using this
  refine call_tuple_list ⟨_,hh,rfl,ep,rfl⟩ (fun h' hk=>?_) (by rw[hsz];exact bC hl);have g2:au ρ1 _ ρ1 _ hp1 h':=au.keeps x1 hk;have x2:=x1.keeps hk;have e:vs=vs.toList.toArray:=by simp
  have:=fp.newTup (s:={ s with heap:=h',toks:=tk1 }) (Q:=Q) (ds:=ds) (vs:=vs.toList) (fp.grow p (g1.trans g2)) x2 tk1 (r1.grow x1 g2);rw[<-e] at this
  exact this) (fun _ _=>rfl)
theorem px {vs:List Value} {h:Heap}:∀{ds:List D} {is:List Int},ak K.H₀ h ρ vs ds->aG ds=some is->∃xs:List (Int×Tok),vs=xs.map (fun p=>Value.int p.1 p.2)/\xs.map (·.1)=is:=by
 induction vs with
 |nil=>
  intro ds is r e
  cases ds with
  |nil=>cases e;exact⟨[],rfl,rfl⟩
  |cons _ _=>exact r.elim
 |cons v vs ih=>
  intro ds is r e
  cases ds with
  |nil=>exact r.elim
  |cons d ds=>cases d with
   |int i=>
    obtain⟨k,e2,rfl⟩:=Option.map_eq_some_iff.mp e;obtain⟨⟨t,rfl⟩,r2⟩:=r;obtain⟨xs,rfl,rfl⟩:=ih r2 e2;exact⟨(i,t)::xs,rfl,rfl⟩
   |_=>exact dR e
theorem vX {ds:List D} {k:Int} (h:tV ds=some k):∃i r,aG ds=some (i::r)/\r.foldl (fun m x=>if x>m then x else m) i=k:=by
 replace h:(match aG ds with|some (i::r)=>some (r.foldl (fun m x=>if x>m then x else m) i)|_=>none)=some k:=h
 cases q:aG ds with
 |none=>rw[q] at h;cases h
 |some l=>
  rw[q] at h
  cases l with
  |nil=>cases h
  |cons i r=>exact⟨i,r,rfl,Option.some.inj h⟩
theorem ux:∀(is:List Int) (a:Int),is.foldl (·+·) a=a+is.sum:=by
 intro A0;induction A0 with
 |nil=>
  intro a;simp
 |cons i r ih=>
  intro a;simp only[List.foldl_cons,List.sum_cons];rw[ih];exact Int.add_assoc _ _ _
theorem aK.sum {np pos:Pos} {e:Expr} {X:Mine.X} (hg:c.scope.names.lookup ("sum":Str)=some .globalImplicit) (hs:az e=true) (hx:bg K c e X):aK K c (.Call (.Name ("sum":Str) np) [e] [] pos) (.sum X):=
 aK.of (fun env n A s ρ J l d J' Q E a hC he=>by
  refine zc (fun ds J1 k h1 h2 p=>?_) he
  refine iM (id:="sum") a hg (by decide) (by decide) (by decide) (by decide +kernel) hs (hx _ _ _ _ _ _ _ _ _ _ _ a hC h1 fun v1 ρ1 hp1 tk1 g1 x1 r1=>?_);obtain⟨t,vs,ep,rfl,g,r⟩:=r1;obtain⟨is,h3,rfl⟩:=Option.map_eq_some_iff.mp h2;obtain⟨xs,hv,hi⟩:=px (K:=K) r h3;have hv':vs=intItems xs.toArray:=by
   have:vs=vs.toList.toArray:=by simp
   rw[this,hv];simp[intItems]
  subst hv'
  refine ktm_sumG a.room.handled ⟨_,g,rfl,ep,rfl⟩ fun h' tk t' hk=>?_;rw[preSum_eq,List.take_of_length_le (by simp)];simp only[hi];refine p _ ρ1 h' tk (g1.trans (au.keeps x1 hk)) (x1.keeps hk) ⟨t',?_⟩;rw[ux];simp) (fun _ _=>rfl)
theorem qS:∀(r:List Int) (i:Int),i<=r.foldl (fun m x=>if x>m then x else m) i/\(∀x∈r,x<=r.foldl (fun m x=>if x>m then x else m) i)/\(r.foldl (fun m x=>if x>m then x else m) i=i\/r.foldl (fun m x=>if x>m then x else m) i∈r):=by
 intro A0;induction A0 with
 |nil=>
  intro i;exact⟨Int.le_refl _,by simp,.inl rfl⟩
 |cons y r ih=>
  intro i;simp only[List.foldl_cons];obtain⟨h1,h2,h3⟩:=ih (if y>i then y else i);have hy:y<=(if y>i then y else i)/\i<=(if y>i then y else i):=by split<;>omega
  refine⟨by omega,fun x hx=>?_,?_⟩
  ·rcases List.mem_cons.mp hx with rfl|hx
   ·omega
   ·exact h2 x hx
  ·rcases h3 with h3|h3
   ·rw[h3];by_cases q:y>i
    ·rw[if_pos q];exact .inr (List.mem_cons_self ..)
    ·rw[if_neg q];exact .inl rfl
   ·exact .inr (List.mem_cons_of_mem _ h3)
theorem aK.ik {np pos:Pos} {e:Expr} {X:Mine.X} {fr:Bool} (hg:c.scope.names.lookup ("max":Str)=some .globalImplicit) (hs:az e=true) (hx:eC K c fr e X):aK K c (.Call (.Name ("max":Str) np) [e] [] pos) (.ik X):=
 aK.of (fun env n A s ρ J l d J' Q E a hC he=>by
  refine ui (fun ds J1 k h1 h2 p=>?_) he
  refine iM (id:="max") a hg (by decide) (by decide) (by decide) (by decide +kernel) hs (hx _ _ _ _ _ _ _ _ _ _ _ a hC h1 fun ad vs ep ρ1 hp1 tk1 g1 x1 _ hh r1=>?_);obtain⟨i,r,hi,rfl⟩:=vX h2;obtain⟨xs,hv,hi'⟩:=px (K:=K) r1 hi;have hv':vs=intItems xs.toArray:=by
   have:vs=vs.toList.toArray:=by simp
   rw[this,hv];simp[intItems]
  subst hv';have hne:0<xs.toArray.size:=by
   cases xs with
   |nil=>simp at hi'
   |cons _ _=>simp
  refine max_intList a.room.handled ⟨_,hh,rfl,ep,rfl⟩ hne fun v h' tk hv2 hk=>?_;obtain⟨t,rfl⟩:=intItems_at hv2;refine p _ ρ1 h' tk (g1.trans (au.keeps x1 hk)) (x1.keeps hk) ?_;have ha:=argBest_gt (numAt xs.toArray) (xs.toArray.size-1)
  generalize hm:argBest (fun i j=>decide (numAt xs.toArray i>numAt xs.toArray j)) (xs.toArray.size-1)=m at ha;obtain⟨b1,b2,b3⟩:=qS r i
  generalize hM:r.foldl (fun m x=>if x>m then x else m) i=M at b1 b2 b3
  have numIs:∀j,j<xs.length->numAt xs.toArray j∈i::r:=fun j hj=>by
   rw[<-hi'];simp only[numAt,List.getElem?_toArray,List.getElem?_eq_getElem hj,Option.map_some,Option.getD_some];exact List.mem_map_of_mem (List.getElem_mem hj)
  have isNum:∀x∈i::r,∃j,j<xs.length/\numAt xs.toArray j=x:=fun x hx=>by
   rw[<-hi'] at hx;obtain⟨j,hj,e⟩:=List.getElem_of_mem hx;simp only[List.length_map] at hj;refine⟨j,hj,?_⟩;simp only[numAt,List.getElem?_toArray,List.getElem?_eq_getElem hj,Option.map_some,Option.getD_some];simpa using e
  have hle:∀x∈i::r,x<=M:=fun x hx=>by
   rcases List.mem_cons.mp hx with rfl|hx
   ·exact b1
   ·exact b2 x hx
  have hmem:M∈i::r:=by
   rcases b3 with b3|b3
   ·rw[b3];exact List.mem_cons_self ..
   ·exact List.mem_cons_of_mem _ b3
  have hml:m<xs.length:=by simp at hne ha;omega
  have e1:=hle _ (numIs m hml);obtain⟨j,hj,e2⟩:=isNum M hmem;have e3:=ha.2 j (by simp;exists L30,0x20001011202111100610111202210111167810000836,hj,(fs (xs.length) (1)));show ∃t',Value.int _ t=Value.int _ t';exact⟨t,by congr 1;exists L03,0x1000500204810205810004806,e1,e2,e3⟩) (fun _ _=>rfl)
theorem aK.max2 {np pos:Pos} {x y:Expr} {X Y:Mine.X} (hg:c.scope.names.lookup ("max":Str)=some .globalImplicit) (hs:az x=true) (hs':az y=true) (hx:bg K c x X) (hy:bg K c y Y):aK K c (.Call (.Name ("max":Str) np) [x,y] [] pos) (.max2 X Y):=
 aK.of (fun env n A s ρ J l d J' Q E a hC he=>by
  refine wA (fun i1 J1 i2 J2 h1 h2 p=>?_) he;refine wpAny_Call_NameR (hY a hg (by decide) (by decide) (by decide) (v:=.builtin "max") (by decide +kernel) ?_);rw[show backTo pos (starEach [x,y] env)=[(false,eval x env),(false,eval y env)] by rw[aC hs,aC hs'];rfl]
  refine Calls.callWith_builtin rfl (Calls.evalArgs_plain (Calls.spliced_cons (hx _ _ _ _ _ _ _ _ _ _ _ a hC h1 fun v1 ρ1 hp1 tk1 g1 x1 r1=>?_)))
  refine Calls.spliced_cons (hy _ _ _ _ _ _ _ _ _ _ _ (a.grow g1 x1 tk1) hC h2 fun v2 ρ2 hp2 tk2 g2 x2 r2=>?_);refine Calls.spliced_nil ?_;obtain⟨t,rfl⟩:=r1;obtain⟨u,rfl⟩:=r2
  refine max_two_ints a.room.handled fun h' tk hk=>?_;refine p _ ρ2 h' tk ((g1.trans g2).trans (au.keeps x2 hk)) (x2.keeps hk) ?_;split
  ·exact⟨u,rfl⟩
  ·exact⟨t,rfl⟩) (fun _ _=>rfl)
end
section
variable {prog:Program} {w:World} {H₀:Heap} {A:Around} {E:Value->Shared->Prop} {s:Shared}
theorem jz {ys:List (List Int×Addr×Value)} {fs:Es} {h:Heap} {ρ:List Addr} (hm:ys.map (·.1)=fs.map (·.1)) (hr:ak H₀ h ρ (ys.map (·.2.2)) (fs.map (·.2))) {k:List Int} (e:atKey ys k=none):aU fs k=none:=by
 cases q:aU fs k with
 |none=>rfl
 |some d=>obtain⟨b,u,e',_⟩:=(dB k ys fs hm hr).2 d q;rw[e] at e';cases e'
theorem jy {ys:List (List Int×Addr×Value)} {fs:Es} {h:Heap} {ρ:List Addr} (hm:ys.map (·.1)=fs.map (·.1)) (hr:ak H₀ h ρ (ys.map (·.2.2)) (fs.map (·.2))) {k:List Int} {p:Addr×Value} (e:atKey ys k=some p):∃d,aU fs k=some d/\cj H₀ h ρ p.2 d:=by
 cases q:aU fs k with
 |none=>rw[(dB k ys fs hm hr).1 q] at e;cases e
 |some d=>
  obtain⟨b,u,e',r⟩:=(dB k ys fs hm hr).2 d q;rw[e] at e'
  cases e';exact⟨d,rfl,r⟩
theorem pM {h:Heap} {ρ:List Addr} {k:List Int} {ys:List (List Int×Addr×Value)}:∀{fs:Es},ys.map (·.1)=fs.map (·.1)->ak H₀ h ρ (ys.map (·.2.2)) (fs.map (·.2))->
  (ys.filter fun x=>decide (x.1≠k)).map (·.1)=(dT fs k).map (·.1)/\ak H₀ h ρ ((ys.filter fun x=>decide (x.1≠k)).map (·.2.2)) ((dT fs k).map (·.2)):=by
 induction ys with
 |nil=>
  intro fs hm _
  cases fs with
  |nil=>exact⟨rfl,trivial⟩
  |cons _ _=>exact nomatch hm
 |cons y ys ih=>
  intro fs hm hr
  cases fs with
  |nil=>exact nomatch hm
  |cons f fs=>
   have hm1:y.1=f.1:=(List.cons.inj hm).1;obtain⟨i1,i2⟩:=ih (List.cons.inj hm).2 hr.2;unfold dT at i1 i2 ⊢;by_cases q:y.1=k
   ·rw[List.filter_cons,List.filter_cons,if_neg (show ¬decide (y.1≠k)=true from fun z=>of_decide_eq_true z q),if_neg (show ¬decide (f.1≠k)=true from fun z=>of_decide_eq_true z (hm1▸q))];exact⟨i1,i2⟩
   ·rw[List.filter_cons,List.filter_cons,if_pos (show decide (y.1≠k)=true from decide_eq_true q),if_pos (show decide (f.1≠k)=true from decide_eq_true (hm1▸q))];exact⟨congr (congrArg List.cons hm1) i1,hr.1,i2⟩
theorem ou {k:List Int} (p:Addr×Value) (ys:List (List Int×Addr×Value)):∀j:Nat,(ys.map (·.1)).Nodup->ys[j]?=some (k,p)->ys.eraseIdx j=ys.filter fun x=>decide (x.1≠k):=by
 induction ys with
 |nil=>exact fun _ _=>nofun
 |cons y ys ih=>
  intro j hn e;obtain⟨n1,n2⟩:=List.nodup_cons.mp hn
  cases j with
  |zero=>
   obtain rfl:=Option.some.inj e;rw[List.filter_cons,if_neg (show ¬decide (k≠k)=true from fun z=>of_decide_eq_true z rfl)];exact(List.filter_eq_self.mpr fun x hx=>decide_eq_true (show ¬x.1=k from fun q=>n1 (List.mem_map.mpr ⟨x,hx,q⟩))).symm
  |succ j=>
   have hm:k∈ys.map (·.1):=List.mem_map_of_mem (f:=(·.1)) (List.mem_of_getElem? (show ys[j]?=some (k,p) from e))
   have hy:y.1≠k:=fun q=>n1 (show y.1∈_ by rw[q];exact hm);rw[List.filter_cons,if_pos (show decide (y.1≠k)=true from decide_eq_true hy),<-ih j n2 e];rfl
theorem uI {fs:Es} {k:List Int} (e:aU fs k=none):dT fs k=fs:=by
 unfold dT;rw[List.filter_eq_self];intro x hx;simp only[aU,Option.map_eq_none_iff,List.find?_eq_none] at e;simpa using e x hx
theorem tW {α β:Type} (f:α->β) (xs:List α):∀j:Nat,(xs.map f).eraseIdx j=(xs.eraseIdx j).map f:=by
 induction xs with
 |nil=>exact fun _=>rfl
 |cons x xs ih=>
  intro j
  cases j with
  |zero=>rfl
  |succ j=>exact congrArg (List.cons (f x)) (ih j)
theorem k6 {ρ:List Addr} {a t:Addr} {es:Es} {k:List Int} {Q:Option DictEntry->Shared->Prop} (hu:A.units+1<cLine) (r:aM prog w H₀ s.heap ρ a es) (hk:(ci prog w).is s.heap k t) (hl:es.length<ay)
  (hnone:∀tk,aU es k=none->Q none { s with toks:=tk })
  (hsome:∀e d h' tk,aU es k=some d->cj H₀ h' ρ e.val d->Heap.SameBut a s.heap h'->aM prog w H₀ h' ρ a (dT es k)->Q (some e) { s with heap:=h',toks:=tk }) :
  wpAny (model prog w) A (Builtin.Dict.takeOut a (.ref t)) Q E s:=by
 have hnt:=r.notTup;obtain⟨xs,⟨o,ens,ep,ho,hc,hd,he,his,hn⟩,hm,hr,kr⟩:=r;have hlen:ens.size=xs.length:=size_of_entries he;have hs:xs.length=es.length:=by simpa using congrArg List.length hm
 have hz:=bC hl;unfold Builtin.Dict.takeOut;try with_reducible refine wpAny_holding ?_
 refine wpAny_bind ((ci prog w).pyHash (show A.units<cLine by exact Nat.lt_of_succ_lt hu) hk ?_);refine wpAny_bind (wpAny_dictFind_heap (knd:=ci prog w) (s:={ s with toks:=s.toks+(ci prog w).draws k }) (show A.units<cLine by exact Nat.lt_of_succ_lt hu) hk ho hd he his hn ?_ ?_)
 ·intro hno;exact wpAny_pure (hnone _ (jz hm hr (atKey_none_of_get hno)))
 ·intro j p hj;obtain⟨d,e1,e2⟩:=jy hm hr (atKey_of_get hn hj);refine wpAny_bind (wpAny_dictEntries (s:={ s with toks:=s.toks+(ci prog w).draws k }) ho hd ?_);have he':ens[j]?=some (entryOfKey (ci prog w) (k,p)):=by rw[entry_at he j,hj];rfl
  rw[he'];have hsb:Heap.SameBut a s.heap (s.heap.update a (Obj.mapDictKeys (·.eraseIdxIfInBounds j))):=Heap.SameBut.update ..;refine wpAny_bind (wpAny_updateDictKeys (hz:=by rw[hlen,hs];exact hz) (s:={ s with toks:=s.toks+(ci prog w).draws k }) ho hd (wpAny_pure (hsome _ d _ _ e1 (e2.other hsb hnt) hsb ?_)));obtain⟨f1,f2⟩:=pM (k:=k) hm hr;refine⟨xs.filter (fun x=>decide (x.1≠k)),⟨_,_,ep+1,Heap.get?_update_self _ ho (Obj.isFreed_of_dict (Obj.data_mapDictKeys hd _)),hc.mapDictKeys _,Obj.data_mapDictKeys hd _,?_,fun x hx=>gK (his x (List.mem_filter.mp hx).1) hsb hnt,?_⟩,f1,f2.other hsb hnt,fun y hy=>cj.other (kr y (List.mem_filter.mp hy).1) hsb hnt⟩
  ·rw[<-ou p xs j hn hj];have:((ens.eraseIdxIfInBounds j).toList)=ens.toList.eraseIdx j:=by obtain⟨l⟩:=ens;simp
   rw[this,he];exact tW _ _ _
  ·exact hn.sublist ((List.filter_sublist).map _)
theorem kz (dft:Option Value) (a t:Addr) (ρ:List Addr) (k:List Int) (hd:(a==sysModules)=false) :
  MeetsIn prog w (Builtin.«dict.pop» ⟨.ref a::.ref t::dft.toList,[]⟩) (fun A R s=>A.units+3<cLine/\∃es,aM prog w H₀ s.heap ρ a es/\(ci prog w).is s.heap k t/\es.length<ay/\
   (aU es k=none->∃x,dft=some x/\∀tk,R (.ok (.ret x)) { s with toks:=tk })/\
   ∀v d h' tk,aU es k=some d->cj H₀ h' ρ v d->Heap.SameBut a s.heap h'->aM prog w H₀ h' ρ a (dT es k)->R (.ok (.ret v)) { s with heap:=h',toks:=tk }):=
 .of_wp fun A R s ⟨hu,es,r,hk,hl,hnone,hsome⟩=>by
  have hT:s.TypeIs (.ref a) "dict":=by obtain⟨xs,dx,_⟩:=r;exact dx.typeIs
  unfold Builtin.«dict.pop»;refine wpAny_bind ?_;unfold Builtin.Dict.keyAndDefault;refine wpAny_bind (wpAny_notOrdered_dict hT ?_);have hp:(keyPart (.ref t)).isSome=false:=rfl;obtain⟨xs,⟨o,ens,ep,ho,hc,hdd,he,his,hn⟩,hm,hr,_⟩:=id r
  cases dft with
  |none=>
   show wpAny _ _ (pure (a,Value.ref t,none)) _ _ s;refine wpAny_pure ?_;simp only[hp,Bool.false_eq_true,if_false];refine wpAny_bind (wpAny_dictEntries ho hdd (wpAny_bind (wpAny_pure ?_)));by_cases hem:ens.isEmpty=true
   ·have hx:xs=[]:=by
     have:=size_of_entries he;have h0:ens.size=0:=by simpa using hem
     exact List.length_eq_zero_iff.mp (by exists L20,0x11102011002810002824,this,h0)
    subst hx;have hes:es=[]:=by simpa using hm.symm
    subst hes;obtain⟨x,hx,_⟩:=hnone rfl
    cases hx
   ·rw[if_neg hem]
    refine wpAny_bind (k6 (A:=A.in1) (show A.units+1+1<cLine by omega) r hk hl (fun tk e=>?_) fun e d h' tk e1 e2 e3 e4=>?_)
    ·obtain⟨x,hx,_⟩:=hnone e
     cases hx
    ·simp only[Option.isNone_some,Bool.false_eq_true,if_false];exact wpAny_bind (wpAny_letGo (wpAny_pure ⟨e.val,rfl,hsome e.val d h' tk e1 e2 e3 e4⟩))
  |some y=>
   show wpAny _ _ (pure (a,Value.ref t,some y)) _ _ s;refine wpAny_pure ?_;simp only[hp,Bool.false_eq_true,if_false];refine wpAny_bind (wpAny_dictEntries ho hdd (wpAny_bind (wpAny_pure ?_)));by_cases hem:ens.isEmpty=true
   ·have hx:xs=[]:=by
     have:=size_of_entries he;have h0:ens.size=0:=by simpa using hem
     exact List.length_eq_zero_iff.mp (by exists L20,0x11102011002810002824,this,h0)
    subst hx;have hes:es=[]:=by simpa using hm.symm
    subst hes;obtain⟨x,hx,hR⟩:=hnone rfl
    cases hx;rw[if_pos hem];refine wpAny_bind (wpAny_rule (wpAny_bind (wpAny_pure ?_)));simp only[Option.isNone_none,if_true];refine wpAny_bind (wpAny_missedRemoval_other hd ?_);exact wpAny_bind (wpAny_rule (wpAny_pure ⟨y,rfl,hR s.toks⟩))
   ·rw[if_neg hem]
    refine wpAny_bind (k6 (A:=A.in1) (show A.units+1+1<cLine by omega) r hk hl (fun tk e=>?_) fun e d h' tk e1 e2 e3 e4=>?_)
    ·obtain⟨x,hx,hR⟩:=hnone e
     cases hx;simp only[Option.isNone_none,if_true];refine wpAny_bind (wpAny_missedRemoval_other hd ?_);exact wpAny_bind (wpAny_rule (wpAny_pure ⟨y,rfl,hR tk⟩))
    ·simp only[Option.isNone_some,Bool.false_eq_true,if_false];exact wpAny_bind (wpAny_letGo (wpAny_pure ⟨e.val,rfl,hsome e.val d h' tk e1 e2 e3 e4⟩))
end
section
variable {K:dj} {c:bV} {env:Env} {n:Nat} {A:Around} {s:Shared} {ρ:List Addr} {J:St} {l:aB}
theorem jP {h:Heap} (ok:K.Ok) (x:K.sr ρ J h) {a:Addr} (ha:a∈ρ):(a==sysModules)=false:=by
 have h1:=x.new a ha;obtain⟨o,e⟩:=ok.big;simp only[beq_eq_false_iff_ne,ne_eq];intro q;rw[q,e] at h1
 cases h1
noncomputable def cA (e:Expr):Bool:=Nat.beq e.ctorIdx 23 || Nat.beq e.ctorIdx 21
theorem cT {o:Expr} (h:cA o=true) (name:Str) (env:Env):attributeBase o name env (eval o env)=eval o env:=by
 cases o<;>first|rfl|exact(Bool.false_ne_true h).elim
theorem gH {T id:String} {name:Str} {pos:Pos} {ob:Obj} {a:Addr} {trees:List (Bool×Sem Value)} {Q E:Value->Shared->Prop} (pa:PlainAttrs T) (slot:Slot T name id) (hty:typeOf (.builtin id)=pure (.type "method_descriptor"))
  (ho:s.heap.get? a=some ob) (hc:ob.cls = .type T) (hd:ob.dict=none) (h:wpAny K.M A (callWith pos (.builtin id) [.ref a] trees []) Q E s):MethodOn K.prog K.w A name pos (.ref a) trees Q E s:=
 ⟨T,id,pa,slot,hty,⟨ob,ho,hc⟩,fun b e=>by cases e;exact⟨ob,ho,hd⟩,h⟩
theorem SR.listAt {h:Heap} (x:K.sr ρ J h) {r:Nat} {a:Addr} {ds:List D} {w0:Nat} (g:ρ[r]?=some a) (e:J[r]?=some (.list ds w0)):∃vs ep,h.get? a=some (seqObj "list" vs ep)/\ak K.H₀ h ρ vs.toList ds:=x.objs _ _ _ g e
theorem SR.dictAt {h:Heap} (x:K.sr ρ J h) {r:Nat} {a:Addr} {es:Es} {w0:Nat} (g:ρ[r]?=some a) (e:J[r]?=some (.dict es w0)):aM K.prog K.w K.H₀ h ρ a es:=
 (x.objs _ _ (.dict es w0) g e:ObjRep K.prog K.w K.H₀ h ρ a (.dict es w0))
theorem SR.isLst {h:Heap} (x:K.sr ρ J h) {r:Nat} {a:Addr} (g:ρ[r]?=some a) (e:ef J r=true):∃vs ep,h.get? a=some (seqObj "list" vs ep):=by
 replace e:(match J[r]? with|some (.list _ _)=>true|_=>false)=true:=e
 cases q:J[r]? with
 |none=>rw[q] at e;cases e
 |some o=>
  cases o with
  |list ds w=>
   obtain⟨vs,ep,h1,_⟩:=SR.listAt x g q;exact⟨vs,ep,h1⟩
  |dict _ _=>rw[q] at e;cases e
theorem aM.exact {h:Heap} {a:Addr} {es:Es} (x:aM K.prog K.w K.H₀ h ρ a es):∃ob,h.get? a=some ob/\ob.cls = .type "dict"/\ob.dict=none:=by
 obtain⟨xs,⟨o,es',ep,e',c,_⟩,_⟩:=x;exact⟨o,e',c.1,c.2.1⟩
theorem SR.isDct {h:Heap} (x:K.sr ρ J h) {r:Nat} {a:Addr} (g:ρ[r]?=some a) (e:eh J r=true):∃ob,h.get? a=some ob/\ob.cls = .type "dict"/\ob.dict=none:=by
 replace e:(match J[r]? with|some (.dict _ _)=>true|_=>false)=true:=e
 cases q:J[r]? with
 |none=>rw[q] at e;cases e
 |some o=>
  cases o with
  |dict es w=>exact(SR.dictAt x g q).exact
  |list _ _=>rw[q] at e;cases e
theorem iW {h:Heap} (x:K.sr ρ J h) {r:Nat} {a:Addr} {ds es:List D} {vs:Array Value} {ep w0:Nat} (g:ρ[r]?=some a) (e:J[r]?=some (.list ds w0)) (ho:h.get? a=some (seqObj "list" vs ep)) (f:Array Value->Array Value)
  (hr:ak K.H₀ h ρ (f vs).toList es):au ρ J ρ (J.set r (.list es (w0+1))) h (h.update a (Obj.mapSeq f))/\K.sr ρ (J.set r (.list es (w0+1))) (h.update a (Obj.mapSeq f)):=by
 have hu:IsL (h.update a (Obj.mapSeq f)) a (f vs) (if (f vs).size==vs.size then ep else ep+1):=IsL.update ho f;have hm:=List.mem_of_getElem? g;have hs:Heap.SameBut a h (h.update a (Obj.mapSeq f)):=Heap.SameBut.update ..;exact⟨au.update x.nd g e (Nat.lt_succ_self _) hs hu,x.update g e hs ⟨f vs,_,hu,hr.same x hm hs⟩⟩
theorem kN {h h':Heap} (x:K.sr ρ J h) {r:Nat} {a:Addr} {es fs:Es} {w0:Nat} (g:ρ[r]?=some a) (e:J[r]?=some (.dict es w0)) (hs:Heap.SameBut a h h') (hr:aM K.prog K.w K.H₀ h' ρ a fs) :
  au ρ J ρ (J.set r (.dict fs (w0+1))) h h'/\K.sr ρ (J.set r (.dict fs (w0+1))) h':=by
 obtain⟨o,e'⟩:=hr.here;exact⟨au.update x.nd g e (Nat.lt_succ_self _) hs e',x.update g e hs hr⟩
theorem aK.append {o e:Expr} {O X:Mine.X} {apos pos:Pos} (ho:bg K c o O) (hx:bg K c e X) (hb:cA o=true) (hs:az e=true) (hl:(apos.endLine==pos.line)=true) :
  aK K c (.Call (.Attribute o ("append":Str) apos) [e] [] pos) (.append O X):=
 aK.of (fun env n A s ρ J l d J' Q E a hC he=>by
  refine rz (fun r J1 xd J2 ds w0 h1 hk h2 h3 hlim p=>?_) he
  refine wpAny_Call_method1_late (cT hb _ _) hl (by rw[aC hs];rfl) (ho _ _ _ _ _ _ _ _ _ _ _ a hC h1 fun v1 ρ1 hp1 tk1 g1 x1 r1=>?_);obtain⟨t,rfl,gt⟩:=r1;obtain⟨vs0,ep0,e1⟩:=SR.isLst x1 gt hk;refine gH PySem.F.plainAttrs_list PySem.F.slot_list_append PySem.F.type_list_append e1 rfl rfl ?_
  refine seqMethod1_meets PySem.F.slot_list_append PySem.F.entry_list_append (hx _ _ _ _ _ _ _ _ _ _ _ (a.grow g1 x1 tk1) hC h2 fun v2 ρ2 hp2 tk2 g2 x2 r2=>?_);have gt2:=g2.get gt;obtain⟨vs,ep,e2,rr⟩:=SR.listAt x2 gt2 h3;have hsz:vs.size=ds.length:=by have:=rr.length;simpa using this
  refine⟨⟨_,e2,rfl⟩,PySem.F.args_list_append_2 _ _,_,AutoListH.list_append_list_val_0 t vs ep v2 (by rw[hsz];exact bC hlim),e2,?_⟩;obtain⟨u1,u2⟩:=iW x2 gt2 h3 e2 (fun x=>x.push v2) (es:=ds++[xd]) (by
   rw[Array.toList_push];exact rr.append ⟨r2,trivial⟩)
  exact p .none ρ2 _ _ ((g1.trans g2).trans u1) u2 rfl) (fun _ _=>rfl)
theorem aK.extend {o e:Expr} {O X:Mine.X} {fr:Bool} {apos pos:Pos} (ho:bg K c o O) (hx:eC K c fr e X) (hb:cA o=true) (hs:az e=true) (hl:(apos.endLine==pos.line)=true) :
  aK K c (.Call (.Attribute o ("extend":Str) apos) [e] [] pos) (.extend O X):=
 aK.of (fun env n A s ρ J l d J' Q E a hC he=>by
  refine rq (fun r J1 xs J2 ds w0 h1 hk h2 h3 hlim p=>?_) he
  refine wpAny_Call_method1_late (cT hb _ _) hl (by rw[aC hs];rfl) (ho _ _ _ _ _ _ _ _ _ _ _ a hC h1 fun v1 ρ1 hp1 tk1 g1 x1 r1=>?_);obtain⟨t,rfl,gt⟩:=r1;obtain⟨vs0,ep0,e1⟩:=SR.isLst x1 gt hk;refine gH PySem.F.plainAttrs_list PySem.F.slot_list_extend PySem.F.type_list_extend e1 rfl rfl ?_
  refine seqMethod1_meets PySem.F.slot_list_extend PySem.F.entry_list_extend (hx _ _ _ _ _ _ _ _ _ _ _ (a.grow g1 x1 tk1) hC h2 fun ad ws ep' ρ2 hp2 tk2 g2 x2 _ e3 r2=>?_);have gt2:=g2.get gt;obtain⟨vs,ep,e2,rr⟩:=SR.listAt x2 gt2 h3;have hsz:vs.size=ds.length:=by have:=rr.length;simpa using this
  have hsz2:ws.size=xs.length:=by have:=r2.length;simpa using this
  have hz:=bC hlim;have hz2:(2:Nat)^20=ay:=rfl;have hlt:vs.size+ws.size<2^20:=by rw[hsz,hsz2];exact hlim
  refine⟨⟨_,e2,rfl⟩,PySem.F.args_list_extend_2 _ _,_,AutoSeq1.list_extend_list_list_0 t vs ep ad ws ep' (by simp[Builtin.List.listTooLong,sizeLine];omega) (by rw[sizeLine_eq];omega) (by rw[sizeLine_eq];omega),e2,e3,?_⟩;obtain⟨u1,u2⟩:=iW x2 gt2 h3 e2 (fun x=>x++ws) (es:=ds++xs) (by
   rw[Array.toList_append];exact rr.append r2)
  exact p .none ρ2 _ _ ((g1.trans g2).trans u1) u2 rfl) (fun _ _=>rfl)
theorem aK.ii {o e:Expr} {O X:Mine.X} {apos pos:Pos} (ho:bg K c o O) (hx:bg K c e X) (hb:cA o=true) (hs:az e=true) (hl:(apos.endLine==pos.line)=true) :
  aK K c (.Call (.Attribute o ("pop":Str) apos) [e] [] pos) (.ii O X):=
 aK.of (fun env n A s ρ J l d J' Q E a hC he=>by
  refine ug (fun r J1 i J2 ds w0 xd h1 hk h2 h3 hlim h4 p=>?_) he
  refine wpAny_Call_method1_late (cT hb _ _) hl (by rw[aC hs];rfl) (ho _ _ _ _ _ _ _ _ _ _ _ a hC h1 fun v1 ρ1 hp1 tk1 g1 x1 r1=>?_);obtain⟨t,rfl,gt⟩:=r1;obtain⟨vs0,ep0,e1⟩:=SR.isLst x1 gt hk;refine gH PySem.F.plainAttrs_list PySem.F.slot_list_pop PySem.F.type_list_pop e1 rfl rfl ?_
  refine seqMethod1_meets PySem.F.slot_list_pop PySem.F.entry_list_pop (hx _ _ _ _ _ _ _ _ _ _ _ (a.grow g1 x1 tk1) hC h2 fun v2 ρ2 hp2 tk2 g2 x2 r2=>?_);obtain⟨u,rfl⟩:=r2;have gt2:=g2.get gt;obtain⟨vs,ep,e2,rr⟩:=SR.listAt x2 gt2 h3;have hsz:vs.size=ds.length:=by have:=rr.length;simpa using this
  obtain⟨y,hy,ry⟩:=rr.get h4;have hlt:i.toNat<ds.length:=(List.getElem?_eq_some_iff.mp h4).1;have hidx:seqIndex? i vs.size=some i.toNat:=by
   unfold seqIndex?;have h1:¬i<0:=by exists L21,0x901100380010000700360001146824,hlim
   have h2:i<(vs.size:Int):=by exists L31,0x7003011202011003600207500011467810200810002836,hsz,hlt,(ft (i))
   simp[h1,h2,hlim.1]
  have hfit:Builtin.List.listFitsIndex i=true:=by
   have:=hlim.2.1;unfold ay at this;simp[Builtin.List.listFitsIndex];exists L21,0x8000000000000000f10030008000000000000000f164610000061700380010000700360001146824,hlim,this
  refine⟨⟨_,e2,rfl⟩,PySem.F.args_list_pop_2 _ _,_,MeetsSeq.list_pop_at t vs ep i u i.toNat y hfit hidx (by simpa using hy) (by rw[hsz];exact bC hlim.2.2),e2,?_⟩;obtain⟨u1,u2⟩:=iW x2 gt2 h3 e2 (fun x=>x.eraseIdxIfInBounds i.toNat) (es:=ds.eraseIdx i.toNat) (by
   have:(vs.eraseIdxIfInBounds i.toNat).toList=vs.toList.eraseIdx i.toNat:=by obtain⟨q⟩:=vs;simp
   rw[this];exact rr.eraseIdx _)
  exact p y ρ2 _ _ ((g1.trans g2).trans u1) u2 (ry.grow x2 u1)) (fun _ _=>rfl)
theorem aK.get2 {o e f:Expr} {O X Y:Mine.X} {apos pos:Pos} (ho:bg K c o O) (hx:bg K c e X) (hy:bg K c f Y) (hb:cA o=true) (hs:az e=true) (hs':az f=true) (hl:(apos.endLine==pos.line)=true) :
  aK K c (.Call (.Attribute o ("get":Str) apos) [e,f] [] pos) (.get2 O X Y):=
 aK.of (fun env n A s ρ J l d J' Q E a hC he=>by
  refine wC (fun r J1 ks J2 yd J3 es w0 kk h1 hk h2 h3 h4 h5 p=>?_) he
  refine wpAny_Call_method2_late (cT hb _ _) hl (by rw[aC hs,aC hs'];rfl) (ho _ _ _ _ _ _ _ _ _ _ _ a hC h1 fun v1 ρ1 hp1 tk1 g1 x1 r1=>?_);obtain⟨t,rfl,gt⟩:=r1;obtain⟨ob,e1,e1c,e1d⟩:=SR.isDct x1 gt hk;refine gH PySem.F.plainAttrs_dict PySem.F.slot_dict_get PySem.F.type_dict_get e1 e1c e1d ?_;refine wpAny_dict_get2_heap (knd:=ci K.prog K.w) (by have:=a.room.u;show A.units+1<cLine;exists L20,0x1011100201028210020824,this) (jP a.ok x1 (List.mem_of_getElem? gt)) ?_
  refine hx _ _ _ _ _ _ _ _ _ _ _ (a.grow g1 x1 tk1) hC h2 fun v2 ρ2 hp2 tk2 g2 x2 r2=>?_
  refine hy _ _ _ _ _ _ _ _ _ _ _ (a.grow (g1.trans g2) x2 tk2) hC h3 fun v3 ρ3 hp3 tk3 g3 x3 r3=>?_;obtain⟨u,ws,ep',rfl,g',r'⟩:=r2.grow x2 g3;obtain⟨xs,dx,hm,hr,_⟩:=SR.dictAt x3 ((g2.trans g3).get gt) h4;refine⟨u,kk,xs,rfl,lF g' r' h5,dx,?_⟩;refine p _ ρ3 hp3 _ ((g1.trans g2).trans g3) x3 ?_
  cases q:atKey xs kk with
  |none=>rw[jz hm hr q];exact r3
  |some pr=>obtain⟨dd,e6,e7⟩:=jy hm hr q;rw[e6];exact e7) (fun _ _=>rfl)
theorem aK.pop2 {o e f:Expr} {O X:Mine.X} {apos pos:Pos} (ho:bg K c o O) (hx:bg K c e X) (hy:bg K c f (.lit .none)) (hb:cA o=true) (hs:az e=true) (hs':az f=true) (hl:(apos.endLine==pos.line)=true) :
  aK K c (.Call (.Attribute o ("pop":Str) apos) [e,f] [] pos) (.pop2 O X):=
 aK.of (fun env n A s ρ J l d J' Q E a hC he=>by
  refine wx (fun r J1 ks J2 es w0 kk h1 hk h2 h4 h5 hlim p=>?_) he
  refine wpAny_Call_method2_late (cT hb _ _) hl (by rw[aC hs,aC hs'];rfl) (ho _ _ _ _ _ _ _ _ _ _ _ a hC h1 fun v1 ρ1 hp1 tk1 g1 x1 r1=>?_);obtain⟨t,rfl,gt⟩:=r1;obtain⟨ob,e1,e1c,e1d⟩:=SR.isDct x1 gt hk;refine gH PySem.F.plainAttrs_dict PySem.F.slot_dict_pop PySem.F.type_dict_pop e1 e1c e1d ?_;refine method2_meetsIn PySem.F.slot_dict_pop PySem.F.entry_dict_pop ?_
  refine hx _ _ _ _ _ _ _ _ _ _ _ (a.grow g1 x1 tk1) hC h2 fun v2 ρ2 hp2 tk2 g2 x2 r2=>?_
  refine hy _ _ _ _ _ _ _ _ _ _ _ (a.grow (g1.trans g2) x2 tk2) hC rfl fun v3 ρ3 hp3 tk3 g3 x3 r3=>?_;obtain⟨u,ws,ep',rfl,g',r'⟩:=r2.grow x2 g3;have gt3:=(g2.trans g3).get gt;have dx:=SR.dictAt x3 gt3 h4;obtain⟨ob3,e3,e3c,e3d⟩:=dx.exact;obtain rfl:v3=Value.none:=r3;refine⟨⟨ob3,e3,e3c⟩,PySem.F.args_dict_pop_3 _ _ _,_,kz (some .none) t u ρ3 kk (jP a.ok x3 (List.mem_of_getElem? gt3)),by have:=a.room.u;(exists L20,0x1031100201028210020824,this),es,dx,lF g' r' h5,hlim,fun e=>⟨_,rfl,fun tk=>?_⟩,fun v d h' tk e6 e7 e8 e9=>?_⟩
  ·have dx':aM K.prog K.w K.H₀ hp3 ρ3 t (dT es kk):=by rw[uI e];exact dx
   obtain⟨u1,u2⟩:=kN x3 gt3 h4 (Heap.SameBut.refl _ _) dx';rw[e] at p;exact p _ ρ3 hp3 tk (((g1.trans g2).trans g3).trans u1) u2 rfl
  ·obtain⟨u1,u2⟩:=kN x3 gt3 h4 e8 e9;rw[e6] at p
   exact p v ρ3 h' tk (((g1.trans g2).trans g3).trans u1) u2 e7) (fun _ _=>rfl)
theorem aK.pop1 {o e:Expr} {O X:Mine.X} {apos pos:Pos} (ho:bg K c o O) (hx:bg K c e X) (hb:cA o=true) (hs:az e=true) (hl:(apos.endLine==pos.line)=true) :
  aK K c (.Call (.Attribute o ("pop":Str) apos) [e] [] pos) (.pop1 O X):=
 aK.of (fun env n A s ρ J l d J' Q E a hC he=>by
  refine wy (fun r J1 ks J2 es w0 kk xd h1 hk h2 h4 h5 h6 hlim p=>?_) he
  refine wpAny_Call_method1_late (cT hb _ _) hl (by rw[aC hs];rfl) (ho _ _ _ _ _ _ _ _ _ _ _ a hC h1 fun v1 ρ1 hp1 tk1 g1 x1 r1=>?_);obtain⟨t,rfl,gt⟩:=r1;obtain⟨ob,e1,e1c,e1d⟩:=SR.isDct x1 gt hk;refine gH PySem.F.plainAttrs_dict PySem.F.slot_dict_pop PySem.F.type_dict_pop e1 e1c e1d ?_;refine method1_meetsIn PySem.F.slot_dict_pop PySem.F.entry_dict_pop ?_
  refine hx _ _ _ _ _ _ _ _ _ _ _ (a.grow g1 x1 tk1) hC h2 fun v2 ρ2 hp2 tk2 g2 x2 r2=>?_;obtain⟨u,ws,ep',rfl,g',r'⟩:=r2;have gt3:=g2.get gt;have dx:=SR.dictAt x2 gt3 h4;obtain⟨ob3,e3,e3c,e3d⟩:=dx.exact;refine⟨⟨ob3,e3,e3c⟩,PySem.F.args_dict_pop_2 _ _,_,kz none t u ρ2 kk (jP a.ok x2 (List.mem_of_getElem? gt3)),by have:=a.room.u;(exists L20,0x1031100201028210020824,this),es,dx,lF g' r' h5,hlim,fun e=>?_,fun v d h' tk e6 e7 e8 e9=>?_⟩
  ·rw[h6] at e;cases e
  ·obtain⟨u1,u2⟩:=kN x2 gt3 h4 e8 e9;rw[h6] at e6
   cases e6
   exact p v ρ2 h' tk ((g1.trans g2).trans u1) u2 e7) (fun _ _=>rfl)
end
section
variable {K:dj} {c:bV} {env:Env} {n:Nat} {A:Around} {s:Shared} {ρ:List Addr} {J:St} {l:aB}
theorem SR.liveAll {h:Heap} (x:K.sr ρ J h):∀b∈ρ,∃o,h.get? b=some o:=fun _ hb=>let ⟨o,e,_⟩:=x.is hb;⟨o,e⟩
theorem tF (v:Value) (k:Nat):(List.foldl (fun x1 x2=>x1++x2) #[] (List.replicate (if (#[v]:Array Value).isEmpty=true then 0 else k) #[v])).toList=List.replicate k v:=by
 have h:∀(k:Nat) (a:Array Value),(List.foldl (fun x1 x2=>x1++x2) a (List.replicate k #[v])).toList=a.toList++List.replicate k v:=by
  intro k;induction k with
  |zero=>intro a;simp
  |succ k ih=>intro a;rw[List.replicate_succ,List.foldl_cons,ih,List.replicate_succ];simp
 have h0:(#[v]:Array Value).isEmpty=false:=rfl;rw[h0];simpa using h k #[]
theorem aK.rep {e m:Expr} {X N:Mine.X} {lp pos:Pos} (hs:az e=true) (hx:bg K c e X) (hm:bg K c m N):aK K c (.BinOp (.List [e] lp) .Mult m pos) (.rep X N):=
 aK.of (fun env n A s ρ J l d J' Q E a hC he=>by
  refine zg (fun xd J1 k J2 h1 h2 hk p=>?_) he;refine wpAny_BinOp ?_;rw[arm_eval_List];refine wpAny_bind (wpAny_standAt (wpAny_bind ?_));rw[aC hs];show wpAny K.M A (spliced [(false,eval e env)]) _ E s
  refine Calls.spliced_cons (hx _ _ _ _ _ _ _ _ _ _ _ a hC h1 fun v1 ρ1 hp1 tk1 g1 x1 r1=>?_);refine Calls.spliced_nil ?_;refine wpAny_newList ?_ (by simp[sizeLine]);have ho:(hp1.push { cls:=.type "list",data:=.seq [v1].toArray }).get? hp1.objs.size=some (seqObj "list" #[v1] 0):=Heap.get?_push_size _ rfl;have gp:=au.push x1 { cls:=.type "list",data:=.seq [v1].toArray };have xp:=x1.push { cls:=.type "list",data:=.seq [v1].toArray }
  refine hm _ _ _ _ _ _ _ _ _ _ _ (a.grow (g1.trans gp) xp tk1) hC h2 fun v2 ρ2 hp2 tk2 g2 x2 r2=>?_;obtain⟨u,rfl⟩:=r2;have hn:hp1.objs.size∉ρ1:=x1.sizeNot;have ho2:hp2.get? hp1.objs.size=some (seqObj "list" #[v1] 0):=g2.ext _ _ ho hn;have hk':k.natAbs<2^20:=hk
  refine wpAny_binaryOp_repeat_ref (T:="list") (U:="int") (by decide) ⟨_,ho2,rfl⟩ (fun s'=>typeIs_int s' k u) noFill_list_mul PySem.F.fills_int_mul PySem.F.slot_int_rmul repeat_list PySem.F.slot_int_index.lookup
   (call_meets PySem.F.slot_int_rmul (typeIs_int _ k u) PySem.F.entry_int_rmul (PySem.F.args_int_rmul_2 _ _) (int___rmul___int_list k u hp1.objs.size #[v1] 0)
    ⟨ho2,rfl,⟨_,ho2,rfl⟩,call_meets PySem.F.slot_list_mul ⟨_,ho2,rfl⟩ PySem.F.entry_list_mul (PySem.F.args_list_mul_2 _ _)
     (AutoListH.list___mul___list_int_3 hp1.objs.size #[v1] 0 k u (by simp[Builtin.List.listFitsIndex];exists L11,0x8000000000000000f10030008000000000000000f16460060075011003600007500011467810000061000812,hk',(fa (k))) (by simp;omega) (by simp[Builtin.List.listTooLong,sizeLine];omega)) ⟨ho2,?_⟩⟩)
  have rr:ak K.H₀ hp2 ρ2 (List.replicate k.toNat v1) (List.replicate k.toNat xd):=ak.replicate ((r1.grow x1 gp).grow xp g2) _;have he:=tF v1 k.toNat
  have hc:(List.foldl (fun x1 x2=>x1++x2) #[] (List.replicate (if (#[v1]:Array Value).isEmpty=true then 0 else k.toNat) #[v1]))=(List.replicate k.toNat v1).toArray:=by
   rw[<-he]
  show Q (.ref hp2.objs.size) { s with heap:=hp2.push { cls:=.type "list",data:=.seq (List.foldl (fun x1 x2=>x1++x2) #[] (List.replicate (if (#[v1]:Array Value).isEmpty=true then 0 else k.toNat) #[v1])) },toks:=tk2 };rw[hc]
  exact fp.newList (s:={ s with heap:=hp2,toks:=tk2 }) (fp.grow p ((g1.trans gp).trans g2)) x2 tk2 rr) (fun _ _=>rfl)
theorem lz {a b:Addr} {ds:List D} {vs:Array Value} {ep:Nat} {Q E:Value->Shared->Prop} (ok:K.Ok) (hu:A.units+40<cLine) (x:K.sr ρ J s.heap) {i:Nat} (ga:ρ[i]?=some a) {w0:Nat} (gi:J[i]?=some (.list ds w0))
  (hb:s.heap.get? b=some (seqObj "list" vs ep)) (hv:vs.toList=[]) (hn:b∉ρ) (h0:K.H₀.get? b=none) (h:∀tk,Q (.bool (!ds.isEmpty)) { s with toks:=tk }) :
  wpAny K.M A (compareOp .NotEq (.ref a) (.ref b)) Q E s:=by
 have x':K.sr (ρ++[b]) (J++[.list [] 0]) s.heap:=x.adopt hn h0 ⟨vs,ep,hb,by rw[hv];trivial⟩;have hi:i<J.length:=(List.getElem?_eq_some_iff.mp gi).1;have hl:ρ.length=J.length:=x.len;refine xB (op:=.ne) ok.big x' hu (a:=.ref i) (b:=.ref J.length) ⟨a,rfl,?_⟩ ⟨b,rfl,?_⟩ (r:=!ds.isEmpty) ?_ h
 ·rw[List.getElem?_append_left (by exists L30,0x2000010202810000836,hi,hl)];exact ga
 ·rw[<-hl,List.getElem?_append_right (Nat.le_refl _),Nat.sub_self];rfl
 ·have h1:¬i=J.length:=by exact Nat.ne_of_lt hi
  have e1:(J++[AO.list [] 0])[i]?=some (.list ds w0):=by rw[List.getElem?_append_left hi];exact gi
  have e2:(J++[AO.list [] 0])[J.length]?=some (.list [] 0):=by rw[List.getElem?_append_right (Nat.le_refl _),Nat.sub_self];rfl
  show(if i=J.length then none else Option.map (!·) (if i=J.length then some true else _))=_;rw[if_neg h1,if_neg h1,e1,e2]
  cases ds<;>rfl
theorem aK.jd {e:Expr} {X:Mine.X} {lp pos:Pos} (hx:bg K c e X):aK K c (.Compare e [.NotEq] [.List [] lp] pos) (.jd X):=
 r9.sim (fun env n A s ρ J l d J' a hC he=>by
  refine uh (fun r J1 ds w0 h1 h2=>⟨_,rfl,fun Q E h=>?_⟩) he
  refine hx _ _ _ _ _ _ _ _ _ _ _ a hC h1 fun v1 ρ1 hp1 tk1 g1 x1 r1=>?_;obtain⟨t,rfl,gt⟩:=r1;rw[arm_eval_List];refine wpAny_bind (wpAny_standAt (wpAny_bind (Calls.spliced_nil (wpAny_newList ?_ (by simp[sizeLine])))));have gp:=au.push x1 { cls:=.type "list",data:=.seq ([]:List Value).toArray };have xp:=x1.push { cls:=.type "list",data:=.seq ([]:List Value).toArray }
  exact lz a.ok a.room.u xp gt h2 (Heap.get?_push_size _ rfl) rfl x1.sizeNot (x1.freshBase (aO _)) fun tk=>h ρ1 _ tk (g1.trans gp) xp) rfl
theorem aK.gj {e:Expr} {X:Mine.X} {lp pos:Pos} (hx:eC K c true e X):aK K c (.Compare e [.NotEq] [.List [] lp] pos) (.gj X):=
 r9.sim (fun env n A s ρ J l d J' a hC he=>by
  refine rh (fun ds J1 h1=>⟨_,rfl,fun Q E h=>?_⟩) he
  refine hx _ _ _ _ _ _ _ _ _ _ _ a hC h1 fun ad vs ep ρ1 hp1 tk1 g1 x1 hf hg r1=>?_;obtain⟨f1,f2⟩:=hf rfl;rw[arm_eval_List];refine wpAny_bind (wpAny_standAt (wpAny_bind (Calls.spliced_nil (wpAny_newList ?_ (by simp[sizeLine])))));have gp:=au.push x1 { cls:=.type "list",data:=.seq ([]:List Value).toArray };have xp:=x1.push { cls:=.type "list",data:=.seq ([]:List Value).toArray };have hg':=Heap.get?_push_of_some { cls:=.type "list",data:=.seq ([]:List Value).toArray } hg
  have hne:hp1.objs.size≠ad:=fun q=>Nat.lt_irrefl _ (q▸Heap.lt_size hg);have xa:=xp.adopt (o:=.list ds 0) f2 (a.sr.freshBase f1) ⟨vs,ep,hg',(r1.push x1 _).more _⟩
  refine lz (i:=ρ1.length) (w0:=0) a.ok a.room.u xa (by rw[List.getElem?_append_right (Nat.le_refl _),Nat.sub_self];rfl) (by rw[x1.len,List.getElem?_append_right (Nat.le_refl _),Nat.sub_self];rfl) (Heap.get?_push_size _ rfl) rfl ?_ (x1.freshBase (aO _)) fun tk=>h ρ1 _ tk (g1.trans gp) xp;intro hm;rcases List.mem_append.mp hm with hm|hm
  ·exact x1.sizeNot hm
  ·exact hne (List.mem_singleton.mp hm)) rfl
noncomputable def s9:List (Value×Value)->List Value
 | []=>[]
 |(k,v)::r=>k::v::s9 r
noncomputable def jE (K:dj) (c:bV) (ks:List (Option Expr)) (es:List Expr) (x:X):Prop:=
 ∀pos env n A s ρ J l ds J' Q E,At K c env n A s ρ J l->bW K n->iU (K.C n) x l J=some (ds,J')->
  (∀vs ρ' h' tk',au ρ J ρ' J' s.heap h'->K.sr ρ' J' h'->ak K.H₀ h' ρ' (s9 vs) ds->Q vs { s with heap:=h',toks:=tk' })->wpAny K.M A (evalPairs (pairTrees ks es env pos)) Q E s
theorem jE.nil:jE K c [] [] .af:=fun pos env n A s ρ J l ds J' Q E a hC he=>by
 refine pG (fun h=>?_) he;exact pairTrees_nil_walk (h _ _ _ _ (au.refl _ _ _) a.sr (by simp[ak,s9]))
theorem jE.cons {k v:Expr} {ks:List (Option Expr)} {es:List Expr} {X Y Z:Mine.X} (hk:bg K c k X) (hv:bg K c v Y) (hr:jE K c ks es Z):jE K c (some k::ks) (v::es) (.aa X (.aa Y Z)):=
 fun pos env n A s ρ J l ds J' Q E a hC he=>by
  refine jT (fun d1 J1 ds2 J2 h1 h2=>?_) he
  refine jT (fun d3 J3 ds4 J4 h3 h4 h=>?_) h2
  refine pairTrees_cons_walk (hk _ _ _ _ _ _ _ _ _ _ _ a hC h1 fun v1 ρ1 hp1 tk1 g1 x1 r1=>?_)
  refine hv _ _ _ _ _ _ _ _ _ _ _ (a.grow g1 x1 tk1) hC h3 fun v2 ρ2 hp2 tk2 g2 x2 r2=>?_
  refine hr pos _ _ _ _ _ _ _ _ _ _ _ (a.grow (g1.trans g2) x2 tk2) hC h4 fun vs ρ3 hp3 tk3 g3 x3 r3=>?_;exact h _ _ _ _ ((g1.trans g2).trans g3) x3 ⟨(r1.grow x1 g2).grow x2 g3,r2.grow x2 g3,r3⟩
theorem nh {P:Prop} {ds:List D} {es0 es:Es} (e:eF ds es0=some es) (h0:ds=[]->es0=es->P) (h1:∀kd kk dv r,ds = .tup kd::dv::r->aG kd=some kk->eF r (bZ es0 kk dv)=some es->P):P:=by
 cases ds with
 |nil=>exact h0 rfl (Option.some.inj e)
 |cons d r=>
  cases r with
  |nil=>cases d<;>exact dR e
  |cons dv r=>
   cases d with
   |tup kd=>
    cases q:aG kd with
    |none=>rw[show eF (.tup kd::dv::r) es0=(match aG kd with|some k=>eF r (bZ es0 k dv)|none=>none) from rfl,q] at e;cases e
    |some kk=>exact h1 kd kk dv r rfl q ((show(match aG kd with|some k=>eF r (bZ es0 k dv)|none=>none)=eF r (bZ es0 kk dv) by rw[q]).symm.trans e)
   |_=>exact dR e
theorem xj (es:Es) (k:List Int) (d:D):(bZ es k d).length<=es.length+1:=by
 unfold bZ;by_cases h:(aU es k).isSome=true
 ·rw[if_pos h,List.length_map];exact Nat.le_succ _
 ·rw[if_neg h,List.length_append];exact Nat.le_refl _
theorem oO {b:Addr} {h0:Heap} {J0:St} {ρ0 ρ:List Addr} {J:St} {E:Value->Shared->Prop} (hu:A.units+1<cLine) (x0:K.sr ρ0 J0 h0) (hb:h0.get? b=none) (hn:b∉ρ):∀(vs:List (Value×Value)) (ds:List D) (es0 es:Es) (s:Shared) (Q:PUnit->Shared->Prop),K.sr ρ J s.heap->au ρ0 J0 ρ J h0 s.heap->
  aM K.prog K.w K.H₀ s.heap ρ b es0->ak K.H₀ s.heap ρ (s9 vs) ds->eF ds es0=some es->es0.length+ds.length<ay->
  (∀h' tk',au ρ0 J0 ρ J h0 h'->K.sr ρ J h'->aM K.prog K.w K.H₀ h' ρ b es->Q PUnit.unit { s with heap:=h',toks:=tk' })->wpAny K.M A (storeAll b vs) Q E s:=by
 intro vs;induction vs with
 |nil=>
  intro ds es0 es s Q x g r rr e _ h;show wpAny _ _ (forIn ([]:List (Value×Value)) PUnit.unit _) _ _ _;rw[List.forIn_nil]
  refine nh e (fun _ q=>?_) (fun _ _ _ _ q=>by subst q;exact rr.elim);subst q;exact wpAny_pure (h s.heap s.toks g x r)
 |cons p vs ih=>
  obtain⟨k,v⟩:=p;intro ds es0 es s Q x g r rr e hl h
  refine nh e (fun q=>by subst q;exact rr.elim) fun kd kk dv rd q hk e'=>?_;subst q;obtain⟨⟨t,ws,ep,rfl,gk,rk⟩,r2,r3⟩:=rr;show wpAny _ _ (forIn ((Value.ref t,v)::vs) PUnit.unit _) _ _ _;rw[List.forIn_cons];have hl2:es0.length+1+rd.length+1<ay:=by simp only[List.length_cons] at hl;omega
  have hnt:=r.notTup
  refine wpAny_bind (wpAny_bind (iH (A:=A) hu r (gW ⟨t,ws,ep,rfl,gk,rk⟩ hk) r2 (by omega) fun h' tk' hs dx=>wpAny_pure ?_));obtain⟨ob,eb⟩:=dx.here;have x':=x.other hs hn (x0.freshBase hb) hnt;exact ih rd (bZ es0 kk dv) es { s with heap:=h',toks:=tk' } Q x' (g.other (SR.liveAll x0) hb hs eb) dx (r3.other hs hnt) e' (by have:=xj es0 kk dv;omega) h
theorem aK.dict0 {pos:Pos}:aK K c (.Dict [] [] pos) (.dict .af):=
 aK.of (fun env n A s ρ J l d J' Q E a hC he p=>by
  cases (show some (D.ref J.length,J++[.dict [] 0])=_ from he);refine wpAny_Dict_empty ?_;refine p _ (ρ++[s.heap.objs.size]) _ s.toks ((au.push a.sr _).adopt (aO _)) ((a.sr.push _).adopt a.sr.sizeNot (a.sr.freshBase (aO _)) (aM.new _ _)) ⟨_,rfl,?_⟩;rw[<-a.sr.len,List.getElem?_append_right (Nat.le_refl _),Nat.sub_self];rfl) (fun _ _=>rfl)
theorem aK.dict {k:Expr} {ks:List (Option Expr)} {v:Expr} {es:List Expr} {X:Mine.X} {pos:Pos} (hall:(some k::ks).all (·.isSome)=true) (hlen:(some k::ks).length=(v::es).length) (hfew:(some k::ks).length<=15) (hp:jE K c (some k::ks) (v::es) X) :
  aK K c (.Dict (some k::ks) (v::es) pos) (.dict X):=
 aK.of (fun env n A s ρ J l d J' Q E a hC he=>by
  refine wE (fun ds J1 fs h1 h16 h2 p=>?_) he;refine wpAny_Dict_any hall hlen (by simp) hfew ?_;have gp:=au.push a.sr { cls:=.type "dict",data:=.dict #[] };have xp:=a.sr.push { cls:=.type "dict",data:=.dict #[] }
  refine hp pos _ _ _ _ _ _ _ _ _ _ _ (a.grow gp xp s.toks) hC h1 fun vs ρ1 hp1 tk1 g1 x1 r1=>?_;have hb0:s.heap.get? s.heap.objs.size=none:=aO _;have hn1:s.heap.objs.size∉ρ1:=by
   have:=g1.notIn a.sr.sizeNot (Heap.get?_push_size (o:={ cls:=.type "dict",data:=.dict #[] }) s.heap rfl);exact this
  have dx:aM K.prog K.w K.H₀ hp1 ρ1 s.heap.objs.size []:=(aM.new s.heap ρ).stay xp a.sr.sizeNot g1
  refine oO (by have:=a.room.u;exists L20,0x1011100201028210020824,this) a.sr hb0 hn1 vs ds [] fs { s with heap:=hp1,toks:=tk1 } _ x1 (gp.trans g1) dx r1 h2 (by simp only[List.length_nil];unfold ay;exists L10,0x1000006100011201021000812,h16) fun h' tk' g2 x2 dx2=>?_;refine p _ (ρ1++[s.heap.objs.size]) _ tk' (g2.adopt hb0) (x2.adopt hn1 (a.sr.freshBase hb0) (ObjRep.more dx2 _)) ⟨_,rfl,?_⟩;rw[<-x2.len,List.getElem?_append_right (Nat.le_refl _),Nat.sub_self];rfl) (fun _ _=>rfl)
where
 ObjRep.more {h:Heap} {ρ:List Addr} {a:Addr} {es:Es} (x:aM K.prog K.w K.H₀ h ρ a es) (b:Addr):ObjRep K.prog K.w K.H₀ h (ρ++[b]) a (.dict es 0):=by
  obtain⟨xs,dx,m,r,kr⟩:=x;exact⟨xs,dx,m,r.more b,fun y hy=>cj.mono (fun _ _ _ e=>e) (fun _ _ e=>by rw[List.getElem?_append_left (List.getElem?_eq_some_iff.mp e).1];exact e) _ (kr y hy)⟩
end
section
variable {prog:Program} {w:World} {H₀:Heap} {A:Around} {E:Value->Shared->Prop} {s:Shared} {ρ:List Addr} {J:St}
theorem CM {γ:Type} {P:Prop} {z:γ} {o q:Option D} {f:D->D->Option γ} (k:∀a b,o=some a->q=some b->f a b=some z->P):(match (generalizing:=false) o,q with|some a,some b=>f a b|_,_=>none)=some z->P:=by
 cases o with
 |none=>exact dR
 |some a=>cases q with
  |none=>exact dR
  |some b=>exact k a b rfl rfl
theorem AQ {κ:SortKind} {vs:List Value} {ask:Nat->Nat->Option Bool} (hask:∀i j b (C:Bool->Shared->Prop),ask i j=some b->C b s->kas_ask prog w A κ vs i j C s) {α:Type} (t:KasT α) (p:α) (G:α->Shared->Prop):qt ask t=some p->G p s->t.kasWp (kas_ask prog w A κ vs) G s:=by
 induction t with
 |ret a=>exact fun e g=>os (P:=fun p=>G p s->G a s) id e g
 |ask i j k ih=>exact fun e g=>CQ (fun b hb e=>hask i j b _ hb (ih b e g)) (show(match ask i j with|some b=>qt ask (k b)|none=>none)=some p from e)
theorem Bc {b:Bool} {n:Nat} (hl:∃o,H₀.get? sysModules=some o) (x:SR prog w H₀ ρ J s.heap) (hu:A.units+3*n<cLine) (fin:Bool) {Q:Bool->Shared->Prop} (r:Bool) (q:Q r s) (vs:List Value) :
  ∀(us:List Value) (xs ys:List D) (i m:Nat),(fin=decide (vs.length+m<us.length+m))->ak H₀ s.heap ρ vs xs->ak H₀ s.heap ρ us ys->(b=true->i=0->∃p q xr yr,xs = .int p::xr/\ys = .int q::yr)->gC (cY J n) (lA J n) xs ys=some r->
   KatLex prog w A b fin Q (vs.zip us) i s:=by
 induction vs with
 |nil=>
  intro us xs ys i m hf rx ry _ e
  cases xs with
  |cons d ds=>exact rx.elim
  |nil=>
   cases ys with
   |nil=>
    cases us with
    |cons u us=>exact ry.elim
    |nil=>
     rw[<-Option.some.inj e] at q;show Q fin s;rw[hf.trans (decide_eq_false (Nat.lt_irrefl _))];exact q
   |cons d ds=>
    cases us with
    |nil=>exact ry.elim
    |cons u us=>
     rw[<-Option.some.inj e] at q;show Q fin s;rw[hf.trans (decide_eq_true (Nat.add_lt_add_right (Nat.succ_pos us.length) m))];exact q
 |cons v vs ih=>
  intro us xs ys i m hf rx ry hb e
  cases xs with
  |nil=>exact rx.elim
  |cons xd xs=>
   obtain⟨rx1,rx2⟩:=rx
   cases ys with
   |nil=>
    cases us with
    |cons u us=>exact ry.elim
    |nil=>
     rw[<-Option.some.inj e] at q;show Q fin s;rw[hf.trans (decide_eq_false fun h=>Nat.not_lt_zero (vs.length+1) (Nat.lt_of_add_lt_add_right h))];exact q
   |cons yd ys=>
    cases us with
    |nil=>exact ry.elim
    |cons u us=>
     obtain⟨ry1,ry2⟩:=ry
     refine vO (fun he e=>?_) (fun he e=>?_) e
     ·refine kat_cons (th hl x n A v u xd yd true hu rx1 ry1 he prog w _ _ (kat_yes ?_))
      exact ih us xs ys (i+1) (m+1) (by rw[hf];simp only[List.length_cons,Nat.add_assoc,Nat.add_comm 1]) rx2 ry2 (fun _=>nofun) e
     ·refine kat_cons (th hl x n A v u xd yd false hu rx1 ry1 he prog w _ _ (kat_no ?_))
      cases h0:(b&&i==0) with
      |true=>
       obtain⟨hb1,hi⟩:=Bool.and_eq_true_iff.mp h0;obtain⟨p,q',xr,yr,ex,ey⟩:=hb hb1 (eq_of_beq hi)
       cases ex;cases ey;obtain⟨t,rfl⟩:=rx1;obtain⟨u',rfl⟩:=ry1
       cases n with
       |zero=>cases e
       |succ n=>
        rw[<-Option.some.inj e] at q;rw[<-keyLt'_oneType];exact kat_lt_int q
      |false=>exact kat_one v u (Cl hl x n A v u xd yd r hu rx1 ry1 e prog w _ _ q)
theorem tO {h:Heap} {vs:List Value} {ds:List D} (r:ak H₀ h ρ vs ds):∀p:List Nat,ak H₀ h ρ (p.map fun i=>vs.getD i Value.none) (p.map fun i=>ds.getD i D.none):=by
 intro A0;induction A0 with
 |nil=>
  exact trivial
 |cons i p ih=>
  refine⟨?_,ih⟩
  cases e:ds[i]? with
  |none=>
   have e2:vs[i]?=none:=by
    rw[List.getElem?_eq_none_iff] at e ⊢;rw[r.length];exact e
   simp only[List.getD,e,e2,Option.getD_none];rfl
  |some d=>
   obtain⟨v,e2,rv⟩:=r.get e;simp only[List.getD,e,e2,Option.getD_some];exact rv
theorem oL {h:Heap} {p:D->Bool} {G:Value->Prop} (hp:∀d v,p d=true->cj H₀ h ρ v d->∃f,KatTups h [v] [f]/\G f) (vs:List Value):∀ds:List D,ak H₀ h ρ vs ds->ds.all p=true->∃fs:List Value,KatTups h vs fs/\fs.length=vs.length/\∀f∈fs,G f:=by
 induction vs with
 |nil=>exact fun _ _ _=>⟨[],trivial,rfl,nofun⟩
 |cons v vs ih=>
  intro ds rr e
  cases ds with
  |nil=>exact rr.elim
  |cons d ds=>
   obtain⟨e1,e2⟩:=Bool.and_eq_true_iff.mp e;obtain⟨fs,h1,h2,h3⟩:=ih ds rr.2 e2;obtain⟨f,k1,k2⟩:=hp d v e1 rr.1;exact⟨f::fs,⟨k1.1,h1⟩,congrArg Nat.succ h2,fun g hm=>by
    rcases List.mem_cons.mp hm with rfl|hm
    ·exact k2
    ·exact h3 g hm⟩
theorem wu {d:D} (h:(match (generalizing:=false) d with | .tup (.int _::_)=>true|_=>false)=true):∃i r,d = .tup (.int i::r):=by
 cases d with
 |tup l=>
  cases l with
  |nil=>cases h
  |cons x r=>cases x with
   |int i=>exact⟨i,r,rfl⟩
   |_=>exact(Bool.false_ne_true h).elim
 |_=>exact(Bool.false_ne_true h).elim
theorem Ag {d:D} (h:(match (generalizing:=false) d with | .tup (.tup _::_)=>true|_=>false)=true):∃i r,d = .tup (.tup i::r):=by
 cases d with
 |tup l=>
  cases l with
  |nil=>cases h
  |cons x r=>cases x with
   |tup i=>exact⟨i,r,rfl⟩
   |_=>exact(Bool.false_ne_true h).elim
 |_=>exact(Bool.false_ne_true h).elim
theorem mz {h:Heap} {v:Value} {x:D} {r:List D} (rr:cj H₀ h ρ v (.tup (x::r))):∃f,KatTups h [v] [f]/\cj H₀ h ρ f x:=by
 obtain⟨a,ws,ep,rfl,g,rw'⟩:=rr;obtain⟨f,hf,rf⟩:=rw'.get (i:=0) rfl;exact⟨f,⟨⟨a,_,ws,ep,rfl,g,rfl,rfl,Array.getElem?_toList▸hf⟩,trivial⟩,rf⟩
@[elab_as_elim] theorem jL {ds es:List D} {P:List D->Prop} (e:bS J ds=some es) (h1:ds.length<2->P ds) (h2:¬ds.length<2->ds.length<64->eQ ds=true->(∀p,qt (fun i j=>match ds[i]?,ds[j]? with|some a,some b=>lA J CF a b|_,_=>none) (kas_sort ds.length)=some p->P (p.toList.map fun i=>ds.getD i .none))):P es:=by
 unfold bS at e
 refine oX (P:=P es) (fun h e=>os (P:=P) (h1 h) e) (fun h e=>?_) e
 refine ch (fun hc e=>?_) e;obtain⟨c1,c2⟩:=Bool.and_eq_true_iff.mp hc;obtain⟨p,e2,e3⟩:=Option.map_eq_some_iff.mp e;exact e3▸h2 h (of_decide_eq_true c1) c2 p e2
theorem mE {a:Addr} {vs:List Value} {n:Nat} {ds es:List D} {P:PySem.Fin->Shared->Prop} (hl:∃o,H₀.get? sysModules=some o) (hu:A.units+30<cLine) (ho:s.heap.get? a=some (seqObj "list" vs.toArray n))
  (x:SR prog w H₀ ρ J (((s.heap.update a (Obj.mapSeq fun _=>(#[]:Array Value))).push (seqObj "tuple" vs.toArray 0)).push (seqObj "list" #[] 0)))
  (r:ak H₀ (((s.heap.update a (Obj.mapSeq fun _=>(#[]:Array Value))).push (seqObj "tuple" vs.toArray 0)).push (seqObj "list" #[] 0)) ρ vs ds) (e:bS J ds=some es)
  (h:∀outs:List Value,ak H₀ (((s.heap.update a (Obj.mapSeq fun _=>(#[]:Array Value))).push (seqObj "tuple" vs.toArray 0)).push (seqObj "list" #[] 0)) ρ outs es->P (.done (.ret .none)) { s with heap:=(((s.heap.update a (Obj.mapSeq fun _=>(#[]:Array Value))).push (seqObj "tuple" vs.toArray 0)).push (seqObj "list" #[] 0)).update a (Obj.mapSeq fun _=>outs.toArray) }) :
  wpAny (model prog w) A (Builtin.«list.sort» ⟨[.ref a],[]⟩) P E s:=by
 have ha:a<s.heap.objs.size:=Heap.lt_size ho;have hlen:=r.length;have h64:vs.length<64:=by
  rw[hlen]
  exact jL e (fun q=>Nat.lt_of_lt_of_le q (Nat.le_of_ble_eq_true rfl)) fun _ q _ _ _=>q
 rw[list_sort_plain];refine wpAny_bind (listItems_at ho rfl ?_);refine wpAny_bind (listUpdate_at ho rfl ?_ (by rw[List.size_toArray,sizeLine_eq];exists L10,0x1000000710014021000812,h64) (Nat.zero_le _));obtain⟨e1,ho1⟩:∃e1,(s.heap.update a (Obj.mapSeq fun _=>(#[]:Array Value))).get? a=some (seqObj "list" #[] e1):=⟨_,get?_update_seq ho fun _=>#[]⟩;refine wpAny_bind (seqEpoch_at ho1 rfl ?_);refine wpAny_bind (wpAny_newTuple ?_ (by show vs.length<=_;rw[sizeLine_eq];exists L10,0x1000000710014021000812,h64));refine wpAny_bind (wpAny_newList ?_ (Nat.zero_le _));refine wpAny_holding ?_
 have ho6:(((s.heap.update a (Obj.mapSeq fun _=>(#[]:Array Value))).push (seqObj "tuple" vs.toArray 0)).push (seqObj "list" #[] 0)).get? a=some (seqObj "list" #[] e1):=Heap.get?_push_of_some _ (Heap.get?_push_of_some _ ho1)
 show wpAny (model prog w) A _ P E { s with heap:=((s.heap.update a (Obj.mapSeq fun _=>(#[]:Array Value))).push (seqObj "tuple" vs.toArray 0)).push (seqObj "list" #[] 0) }
 generalize ((s.heap.update a (Obj.mapSeq fun _=>(#[]:Array Value))).push (seqObj "tuple" vs.toArray 0)).push (seqObj "list" #[] 0)=h1 at *;dsimp only;by_cases h2:vs.toArray.size<2
 ·rw[if_pos h2,if_pos h2];refine wpAny_bind (wpAny_pure ?_);rw[StateT.run_pure];refine wpAny_bind (wpAny_pure ?_);dsimp only;refine wpAny_bind (seqEpoch_at ho6 rfl ?_);have hout:(arrOf (SortSt.mk' general' (vs.toArray.zip vs.toArray) #[] 7 none)).map (·.2)=vs.toArray:=by
   show(vs.toArray.zip vs.toArray).map (·.2)=vs.toArray;apply Array.toList_inj.mp
   simp[List.map_snd_zip]
  rw[hout];refine wpAny_bind (listUpdate_at ho6 rfl ?_ (Nat.zero_le _) (by show vs.toArray.size<=_;rw[List.size_toArray,sizeLine_eq];exists L10,0x1000001710014021000812,h64));simp only[bne_self_eq_false,Bool.false_eq_true,if_false];have hes:es=ds:=by
   have h2':ds.length<2:=by rw[<-hlen];simpa using h2
   exact jL (P:=fun es=>es=ds) e (fun _=>rfl) fun q=>(q h2').elim
  subst hes;exact wpAny_pure (h vs r)
 ·rw[if_neg h2,if_neg h2];have h2':2<=vs.length:=by simpa using h2
  refine jL (P:=fun es=>(∀outs:List Value,ak H₀ h1 ρ outs es->P (.done (.ret .none)) { s with heap:=h1.update a (Obj.mapSeq fun _=>outs.toArray) })->_) e (fun q=>absurd q (Nat.not_lt.mpr (hlen▸h2'))) (fun _ _ hsort p e2 h=>?_) h
  ·clear e;have fin:∀b:Bool,(b=true->∀d∈ds,∃i r,d = .tup (.int i::r))->(∀d∈ds,∃r,d = .tup r)->wpAny (model prog w) A (do
     let ((),s)<-(sortRuns').run (SortSt.mk' (tuples' b) (vs.toArray.zip vs.toArray) #[] 7 none)
     let sorted:=(arrOf s).map (·.2)
     let touched:=(<-seqEpoch a) != e1
     Builtin.List.listUpdate (.ref a) fun _=>sorted
     if let some e:=failedOf s then rule "list.sort.comparison-raised";throw e
     if touched then rule "list.sort.modified";raiseError "ValueError" "list modified during sort"
     ret .none) P E { s with heap:=h1 }:=by
    intro b hb ht
    have hask:∀i j q (C:Bool->Shared->Prop),(match ds[i]?,ds[j]? with|some a,some b=>lA J CF a b|_,_=>none)=some q->C q { s with heap:=h1 }->kas_ask prog w A (tuples' b) vs i j C { s with heap:=h1 }:=by
     intro i j q C hq hC
     refine CM (fun da db e3 e4 hq=>?_) hq
     ·obtain⟨va,f1,ra⟩:=r.get e3;obtain⟨vb,f2,rb⟩:=r.get e4;obtain⟨xa,rfl⟩:=ht da (List.mem_of_getElem? e3);obtain⟨xb,rfl⟩:=ht db (List.mem_of_getElem? e4);obtain⟨ta,wa,epa,rfl,ga,ra⟩:=ra;obtain⟨tb,wb,epb,rfl,gb,rb⟩:=rb;unfold kas_ask;have g1:vs.getD i Value.none = .ref ta:=by simp[List.getD,f1]
      have g2:vs.getD j Value.none = .ref tb:=by simp[List.getD,f2]
      rw[g1,g2];refine kat_lt ga rfl gb rfl ?_
      refine Bc (n:=7) (s:={ s with heap:=h1 }) hl x (by exists L20,0x1015210020101e210020824,hu) _ q hC wa.toList wb.toList xa xb 0 0 rfl ra rb (fun hb1 _=>?_) hq;obtain⟨i1,r1,z1⟩:=hb hb1 _ (List.mem_of_getElem? e3);obtain⟨i2,r2,z2⟩:=hb hb1 _ (List.mem_of_getElem? e4)
      cases z1;cases z2;exact⟨i1,i2,r1,r2,rfl,rfl⟩
    have run:=AQ (s:={ s with heap:=h1 }) hask (kas_sort ds.length) p (fun p' s'=>p'=p/\s'={ s with heap:=h1 }) e2 ⟨rfl,rfl⟩;rw[<-hlen] at run
    refine wpAny_bind (wpAny_mono (kat_run (Q:=fun st' s'=>∃p':Array Nat,p'.size=vs.length/\arrOf st'=p'.map (kas_item (vs.toArray.zip vs.toArray))/\failedOf st'=none/\p'=p/\s'={ s with heap:=h1 })
     rfl h2' h64 (fun p' st' s' a1 a2 a3 a4=>⟨p',a1,a2,a3,a4⟩) run) ?_ fun _ _ e=>e)
    rintro⟨⟨⟩,st'⟩ s' ⟨p',hp,har,hf,rfl,rfl⟩;dsimp only;have hout:=kat_snds rfl har;rw[hout];refine wpAny_bind (seqEpoch_at ho6 rfl ?_);refine wpAny_bind (listUpdate_at ho6 rfl ?_ (Nat.zero_le _) (by show(List.toArray _).size<=_;rw[List.size_toArray,List.length_map,Array.length_toList,hp,sizeLine_eq];exists L10,0x1000001710014021000812,h64));rw[hf];simp only[bne_self_eq_false,Bool.false_eq_true,if_false];exact wpAny_pure (h _ (tO r _))
   have hds:0<ds.length:=by exists L20,0x100110002111810002824,hlen,h2'
   rcases Bool.or_eq_true_iff.mp hsort with hs|hs
   ·obtain⟨fs,k1,k2,k3⟩:=oL (G:=fun f=>∃i t,f = .int i t) (fun d v hd rr=>by
     obtain⟨i,r,rfl⟩:=wu hd;obtain⟨f,hf,t,rfl⟩:=mz rr;exact⟨_,hf,i,t,rfl⟩) vs ds r hs
    refine wpAny_bind (kat_kind (s:={ s with heap:=h1 }) (T:=Value.type "int") k1 (by exists L20,0x100110001028002111824,h2',k2) (fun f hf=>?_) (by decide) ?_)
    ·obtain⟨i,t,rfl⟩:=k3 f hf;exact Looks.of_pure rfl
    ·refine fin true (fun _ d hd=>wu (List.all_eq_true.mp hs d hd)) fun d hd=>?_;obtain⟨i,r,rfl⟩:=wu (List.all_eq_true.mp hs d hd);exact⟨_,rfl⟩
   ·obtain⟨fs,k1,k2,k3⟩:=oL (G:=fun f=>∃a vs ep,f = .ref a/\h1.get? a=some (seqObj "tuple" vs ep)) (fun d v hd rr=>by
     obtain⟨i,r,rfl⟩:=Ag hd;obtain⟨f,hf,b,us,ep2,rfl,g2,_⟩:=mz rr;exact⟨_,hf,b,us,ep2,rfl,g2⟩) vs ds r hs
    refine wpAny_bind (kat_kind (s:={ s with heap:=h1 }) (T:=Value.type "tuple") k1 (by exists L20,0x100110001028002111824,h2',k2) (fun f hf=>?_) (by decide) ?_)
    ·obtain⟨a',vs',ep',rfl,g'⟩:=k3 f hf;exact(Looks.ld g').andThen .now
    ·refine fin false nofun fun d hd=>?_;obtain⟨i,r,rfl⟩:=Ag (List.all_eq_true.mp hs d hd);exact⟨_,rfl⟩
end
section
variable {K:dj} {c:bV} {env:Env} {n:Nat} {A:Around} {s:Shared} {ρ:List Addr} {J:St} {l:aB}
theorem aK.sort {o:Expr} {O:Mine.X} {apos pos:Pos} (ho:bg K c o O) (hb:cA o=true) (hl:(apos.endLine==pos.line)=true) :
  aK K c (.Call (.Attribute o ("sort":Str) apos) [] [] pos) (.sort O):=
 aK.of (fun env n A s ρ J l d J' Q E a hC he=>by
  refine ww (fun r J1 ds w0 es h1 h3 h4 p=>?_) he
  refine wpAny_Call_method0_late (cT hb _ _) hl (ho _ _ _ _ _ _ _ _ _ _ _ a hC h1 fun v1 ρ1 hp1 tk1 g1 x1 r1=>?_);obtain⟨t,rfl,gt⟩:=r1;obtain⟨vs,ep,e1,rr⟩:=SR.listAt x1 gt h3;refine gH PySem.F.plainAttrs_list PySem.F.slot_list_sort PySem.F.type_list_sort e1 rfl rfl ?_;refine method_meetsIn PySem.F.slot_list_sort PySem.F.entry_list_sort rfl (PySem.evalArgs_none ⟨rfl,⟨_,e1,rfl⟩,PySem.F.args_list_sort_1 _,?_⟩);have hm:=List.mem_of_getElem? gt
  have hs1:Heap.SameBut t hp1 (hp1.update t (Obj.mapSeq fun _=>(#[]:Array Value))):=Heap.SameBut.update ..
  have u1:=iW x1 gt h3 e1 (fun _=>#[]) (es:=[]) trivial
  have rr1:ak K.H₀ (hp1.update t (Obj.mapSeq fun _=>(#[]:Array Value))) ρ1 vs.toList ds:=rr.same x1 hm hs1;have x2:=(u1.2.push (seqObj "tuple" vs.toList.toArray 0));have x3:=x2.push (seqObj "list" #[] 0);have rr3:=(rr1.push u1.2 (seqObj "tuple" vs.toList.toArray 0)).push x2 (seqObj "list" #[] 0);have e1':hp1.get? t=some (seqObj "list" vs.toList.toArray ep):=by simpa using e1
  refine⟨fun A R s'=>True/\s'={ s with heap:=hp1,toks:=tk1 }/\A.units+31<cLine/\R=wants Q E,?_,trivial,rfl,by have:=a.room.u;(exists L20,0x101f2100201028210020824,this),rfl⟩
  refine MeetsIn.of_wp fun A' R s' hh=>?_;obtain⟨-,rfl,hu,rfl⟩:=hh
  refine mE (A:=A'.in1) (vs:=vs.toList) a.ok.big (show A'.units+1+30<cLine by omega) e1' x3 rr3 h4 fun outs ro=>⟨_,rfl,?_⟩
  have ea:(((hp1.update t (Obj.mapSeq fun _=>(#[]:Array Value))).push (seqObj "tuple" vs.toList.toArray 0)).push (seqObj "list" #[] 0)).get? t=some (seqObj "list" #[] (if (#[]:Array Value).size==vs.size then ep else ep+1)):=
   Heap.get?_push_of_some _ (Heap.get?_push_of_some _ (IsL.update e1 fun _=>#[]))
  have gt':ρ1[r]?=some t:=gt;have h3':(J1.set r (.list [] (w0+1)))[r]?=some (.list [] (w0+1)):=List.getElem?_set_self (List.getElem?_eq_some_iff.mp h3).1
  have hE:IsL ((((hp1.update t (Obj.mapSeq fun _=>(#[]:Array Value))).push (seqObj "tuple" vs.toList.toArray 0)).push (seqObj "list" #[] 0)).update t (Obj.mapSeq fun _=>outs.toArray)) t outs.toArray _:=IsL.update ea fun _=>outs.toArray
  have hs2:Heap.SameBut t (((hp1.update t (Obj.mapSeq fun _=>(#[]:Array Value))).push (seqObj "tuple" vs.toList.toArray 0)).push (seqObj "list" #[] 0)) _:=Heap.SameBut.update _ t (Obj.mapSeq fun _=>outs.toArray);have xf:=x3.update gt' h3' hs2 (o':=.list es (w0+1)) ⟨outs.toArray,_,hE,ro.same x3 hm hs2⟩;rw[List.set_set] at xf
  have gf:au ρ1 J1 ρ1 (J1.set r (.list es (w0+1))) hp1 ((((hp1.update t (Obj.mapSeq fun _=>(#[]:Array Value))).push (seqObj "tuple" vs.toList.toArray 0)).push (seqObj "list" #[] 0)).update t (Obj.mapSeq fun _=>outs.toArray)):=by
   have hne:∀b o,b≠t->hp1.get? b=some o->((((hp1.update t (Obj.mapSeq fun _=>(#[]:Array Value))).push (seqObj "tuple" vs.toList.toArray 0)).push (seqObj "list" #[] 0)).update t (Obj.mapSeq fun _=>outs.toArray)).get? b=some o:=fun b o hb e=>
    (hs2.2 b hb).trans (Heap.get?_push_of_some _ (Heap.get?_push_of_some _ ((hs1.2 b hb).trans e)))
   refine⟨⟨[],by simp,by simp⟩,fun b o e hb=>hne b o (fun q=>hb (q▸hm)) e,fun b o e=>?_,fun j o e=>?_,fun j b o o1 ej eo eo1 hv=>?_⟩
   ·by_cases q:b=t
    ·subst q;exact⟨_,hE⟩
    ·exact⟨o,hne b o q e⟩
   ·by_cases q:r=j
    ·subst q;rw[h3] at e;cases e;exact⟨_,List.getElem?_set_self (List.getElem?_eq_some_iff.mp h3).1,Nat.le_succ _⟩
    ·exact⟨o,by rw[List.getElem?_set_ne q];exact e,Nat.le_refl _⟩
   ·by_cases q:r=j
    ·subst q;rw[h3] at eo;cases eo;rw[List.getElem?_set_self (List.getElem?_eq_some_iff.mp h3).1] at eo1
     cases eo1;simp only[AO.ver] at hv;omega
    ·have hba:b≠t:=fun z=>q ((List.getElem?_inj (List.getElem?_eq_some_iff.mp gt).1 x1.nd).mp (by rw[gt,ej,z]));obtain⟨ob,eb⟩:=SR.liveAll x1 b (List.mem_of_getElem? ej);rw[eb,hne b ob hba eb]
  exact p _ ρ1 _ _ (g1.trans gf) xf rfl) (fun _ _=>rfl)
theorem oQ {vs:List Value} {ds es:List D} {Q:PySem.Fin->Shared->Prop} {E:Value->Shared->Prop} (ok:K.Ok) (hu:A.units+40<cLine) (x:K.sr ρ J s.heap) (r:ak K.H₀ s.heap ρ vs ds) (e:bS J ds=some es)
  (p:kG K ρ J (J++[.list es 0]) s (.ref J.length) (fun v s'=>Q (.done (.ret v)) s')):wpAny K.M A (newList vs >>= fun l=>holding [l] (PySem.call (.builtin "list.sort") [l]) >>= fun _=>ret l) Q E s:=by
 have h64:vs.length<64:=by
  unfold bS at e;rw[r.length];split at e
  ·omega
  ·split at e
   ·rename_i hc;simp only[Bool.and_eq_true,decide_eq_true_eq] at hc;exact hc.1
   ·cases e
 refine wpAny_bind (wpAny_newList ?_ (by rw[sizeLine_eq];exists L10,0x1000000710014021000812,h64));have hoL:(s.heap.push { cls:=.type "list",data:=.seq vs.toArray }).get? s.heap.objs.size=some (seqObj "list" vs.toArray 0):=Heap.get?_push_size _ rfl;have hn0:=aO s.heap;refine wpAny_bind (wpAny_holding (wpAny_call_entry slot_list_sort ⟨_,hoL,rfl⟩ entry_list_sort ?body (args_list_sort _)))
 case body=>
  have keepU:∀b o (f:Obj->Obj),s.heap.get? b=some o->((s.heap.push { cls:=.type "list",data:=.seq vs.toArray }).update s.heap.objs.size f).get? b=some o:=fun b o f eb=>by
   have hb:b≠s.heap.objs.size:=Nat.ne_of_lt (Heap.lt_size eb);exact(Heap.get?_update_other _ _ (Ne.symm hb)).trans (Heap.get?_push_of_some _ eb)
  have keep1:∀b o,s.heap.get? b=some o->((((s.heap.push { cls:=.type "list",data:=.seq vs.toArray }).update s.heap.objs.size (Obj.mapSeq fun _=>(#[]:Array Value))).push (seqObj "tuple" vs.toArray 0)).push (seqObj "list" #[] 0)).get? b=some o:=fun b o eb=>
   Heap.get?_push_of_some _ (Heap.get?_push_of_some _ (keepU b o _ eb))
  have x1:=x.keeps keep1
  refine mE (s:={ s with heap:=s.heap.push { cls:=.type "list",data:=.seq vs.toArray } }) ok.big (show A.units+1+30<cLine by exists L20,0x101e21111002201028210020824,hu) hoL x1 (r.grow x (au.keeps x keep1)) e fun outs ro=>⟨_,rfl,?_⟩
  refine wpAny_pure ?_
  have ea:((((s.heap.push { cls:=.type "list",data:=.seq vs.toArray }).update s.heap.objs.size (Obj.mapSeq fun _=>(#[]:Array Value))).push (seqObj "tuple" vs.toArray 0)).push (seqObj "list" #[] 0)).get? s.heap.objs.size=some (seqObj "list" #[] (if (#[]:Array Value).size==vs.toArray.size then 0 else 0+1)):=
   Heap.get?_push_of_some _ (Heap.get?_push_of_some _ (IsL.update hoL fun _=>#[]))
  have hE:=IsL.update ea fun _=>outs.toArray
  have keep2:∀b o,s.heap.get? b=some o->(((((s.heap.push { cls:=.type "list",data:=.seq vs.toArray }).update s.heap.objs.size (Obj.mapSeq fun _=>(#[]:Array Value))).push (seqObj "tuple" vs.toArray 0)).push (seqObj "list" #[] 0)).update s.heap.objs.size (Obj.mapSeq fun _=>outs.toArray)).get? b=some o:=fun b o eb=>by
   have hb:b≠s.heap.objs.size:=Nat.ne_of_lt (Heap.lt_size eb);exact(Heap.get?_update_other _ _ (Ne.symm hb)).trans (keep1 b o eb)
  have x2:=x.keeps keep2
  have ro2:ak K.H₀ _ ρ outs es:=ro.other (Heap.SameBut.update _ s.heap.objs.size (Obj.mapSeq fun _=>outs.toArray)) (fun ob items n e1 hc hd=>by rw[ea] at e1;cases e1;simp at hc);refine p _ (ρ++[s.heap.objs.size]) _ _ ((au.keeps x keep2).adopt hn0) (x2.adopt x.sizeNot (x.freshBase hn0) ⟨outs.toArray,_,hE,ro2.more _⟩) ⟨_,rfl,?_⟩;rw[<-x.len,List.getElem?_append_right (Nat.le_refl _),Nat.sub_self];rfl
theorem aK.sorted {o:Expr} {O:Mine.X} {np pos:Pos} (hg:c.scope.names.lookup ("sorted":Str)=some .globalImplicit) (hs:az o=true) (ho:bg K c o O) :
  aK K c (.Call (.Name ("sorted":Str) np) [o] [] pos) (.sorted O):=
 aK.of (fun env n A s ρ J l d J' Q E a hC he=>by
  refine rg (fun r J1 ds w0 es h1 h3 h4 p=>?_) he
  refine iM (id:="sorted") a hg (by decide) (by decide) (by decide) (by decide +kernel) hs (ho _ _ _ _ _ _ _ _ _ _ _ a hC h1 fun v1 ρ1 hp1 tk1 g1 x1 r1=>?_);obtain⟨t,rfl,gt⟩:=r1;obtain⟨vs,ep,e1,rr⟩:=SR.listAt x1 gt h3;have h64:vs.toList.length<64:=by
   unfold bS at h4;rw[rr.length];split at h4
   ·omega
   ·split at h4
    ·rename_i hc;simp only[Bool.and_eq_true,decide_eq_true_eq] at hc;exact hc.1
    ·cases h4
  refine Calls.call_function_entry kind_sorted plain_sorted entry_sorted (args_sorted1 _) ?_
  unfold Builtin.«sorted»;refine wpAny_bind (m:=checkCount "sorted" 1 1 _) (wpAny_pure ?_);refine wpAny_bind (collect_list (vs:=vs.toList) ⟨_,e1,rfl,ep,by simp⟩ ?_ (by rw[sizeLine_eq];exists L10,0x1000000710014021000812,h64))
  have keep:∀b o,hp1.get? b=some o->((hp1.push (seqObj "list" #[] 0)).update hp1.objs.size (Obj.mapSeq (·++vs.toList.toArray))).get? b=some o:=fun b o eb=>by
   have hb:b≠hp1.objs.size:=Nat.ne_of_lt (Heap.lt_size eb);exact(Heap.get?_update_other _ _ (Ne.symm hb)).trans (Heap.get?_push_of_some _ eb)
  exact oQ (A:=A.in1) (s:={ s with heap:=(hp1.push (seqObj "list" #[] 0)).update hp1.objs.size (Obj.mapSeq (·++vs.toList.toArray)),toks:=tk1 }) a.ok (show A.units+1+40<cLine by have:=a.room.units;exists L30,0x2028211110022020c821101e2300220836,this) (x1.keeps keep) (rr.grow x1 (au.keeps x1 keep)) h4
   (fun v ρ' h' tk' g x r=>⟨v,rfl,p v ρ' h' tk' ((g1.trans (au.keeps x1 keep)).trans g) x r⟩)) (fun _ _=>rfl)
end
section
variable {prog:Program} {w:World} {H₀:Heap}
noncomputable abbrev eE (L:List Addr) (h h':Heap):Prop:=∀b o,b∉L->h.get? b=some o->h'.get? b=some o
theorem jj {h h':Heap} {ks:List Int} {L:List Addr} {b:Addr} (x:(ci prog w).is h ks b) (hs:eE L h h') (hn:∀a∈L,bm h a):(ci prog w).is h' ks b:=by
 obtain⟨o,items,n,ho,hc,hd,hi⟩:=x;exact⟨o,items,n,hs b o (fun q=>hn b q o items n ho hc hd) ho,hc,hd,hi⟩
theorem cz {h h':Heap} {L:List Addr} (hs:eE L h h') (hn:∀a∈L,bm h a):cg h h':=fun c vs ep e=>hs c _ (fun q=>hn c q _ vs ep e rfl rfl) e
theorem SR.otherL {ρ:List Addr} {J:St} {h h':Heap} {L:List Addr} (x:SR prog w H₀ ρ J h) (hs:eE L h h') (hL:∀a∈L,a∉ρ/\H₀.get? a=none/\bm h a):SR prog w H₀ ρ J h' where
 keep:=fun b o e=>hs b o (fun q=>by rw[(hL b q).2.1] at e;cases e) (x.keep b o e)
 len:=x.len
 nd:=x.nd
 new:=x.new
 objs:=fun i b o e e'=>by
  have hb:b∉L:=fun q=>(hL b q).1 (List.mem_of_getElem? e)
  have hk:cg h h':=cz hs fun a ha=>(hL a ha).2.2;have r:=x.objs i b o e e'
  cases o with
  |list ds=>
   obtain⟨vs,ep,e,r⟩:=r;exact⟨vs,ep,hs b _ hb e,ak.mono hk (fun _ _ e=>e) _ r⟩
  |dict es=>
   obtain⟨xs,⟨o,es',ep,e,c,d,he,hkk,hnn⟩,hm,r,kr⟩:=r;exact⟨xs,⟨o,es',ep,hs b _ hb e,c,d,he,fun y hy=>jj (hkk y hy) hs fun a ha=>(hL a ha).2.2,hnn⟩,hm,ak.mono hk (fun _ _ e=>e) _ r,fun y hy=>cj.mono hk (fun _ _ e=>e) _ (kr y hy)⟩
theorem au.otherL {ρ ρ':List Addr} {J J':St} {h h1 h2:Heap} {L:List Addr} (g:au ρ J ρ' J' h h1) (hl:∀b∈ρ',∃o,h1.get? b=some o) (ha:∀a∈L,h.get? a=none/\a∉ρ') (hs:eE L h1 h2):au ρ J ρ' J' h h2 where
 pre:=g.pre
 ext:=fun b ob eb hb=>hs b ob (fun q=>by rw[(ha b q).1] at eb;cases eb) (g.ext b ob eb hb)
 live:=fun b ob eb=>by
  obtain⟨o',e'⟩:=g.live b ob eb;exact⟨o',hs b o' (fun q=>by rw[(ha b q).1] at eb;cases eb) e'⟩
 vers:=g.vers
 same:=fun i b p p' eb ep ep' hv=>by
  have h1':=g.same i b p p' eb ep ep' hv;have hm:b∈ρ':=List.mem_of_getElem? (g.get eb);obtain⟨o,e⟩:=hl b hm;rw[<-h1',e]
  exact hs b o (fun q=>(ha b q).2 hm) e
structure bE (X:List Addr) (ρ:List Addr) (J:St) (ρ':List Addr) (J':St) (h h':Heap):Prop where
 pre:∃τ,ρ'=ρ++τ/\∀a∈τ,h.get? a=none
 ext:∀b o,h.get? b=some o->b∉ρ->b∉X->h'.get? b=some o
 live:∀b o,h.get? b=some o->∃o',h'.get? b=some o'
 vers:∀(i:Nat) (o:AO),J[i]?=some o->∃o',J'[i]?=some o'/\o.ver<=o'.ver
 same:∀(i:Nat) (a:Addr) (o o':AO),ρ[i]?=some a->a∉X->J[i]?=some o->J'[i]?=some o'->o.ver=o'.ver->h'.get? a=h.get? a
theorem bE.of {X ρ ρ':List Addr} {J J':St} {h h':Heap} (g:au ρ J ρ' J' h h'):bE X ρ J ρ' J' h h':=
 ⟨g.pre,fun b o e hb _=>g.ext b o e hb,g.live,g.vers,fun i a o o' e _=>g.same i a o o' e⟩
theorem bE.refl (X ρ:List Addr) (J:St) (h:Heap):bE X ρ J ρ J h h:=.of (au.refl ρ J h)
theorem bE.trans {X ρ ρ' ρ'':List Addr} {J J' J'':St} {h h' h'':Heap} (x:bE X ρ J ρ' J' h h') (y:bE X ρ' J' ρ'' J'' h' h''):bE X ρ J ρ'' J'' h h'':=by
 obtain⟨τ,rfl,hτ⟩:=x.pre;obtain⟨τ',rfl,hτ'⟩:=y.pre;refine⟨⟨τ++τ',by simp,fun a ha=>?_⟩,fun b o e hb hX=>?_,fun b o e=>?_,fun i o e=>?_,fun i a o o'' ea hX eo eo'' hv=>?_⟩
 ·rcases List.mem_append.mp ha with ha|ha
  ·exact hτ a ha
  ·cases q:h.get? a with
   |none=>rfl
   |some o=>
    obtain⟨o',e⟩:=x.live a o q;rw[hτ' a ha] at e;cases e
 ·refine y.ext b o (x.ext b o e hb hX) (fun hm=>?_) hX;rcases List.mem_append.mp hm with hm|hm
  ·exact hb hm
  ·rw[hτ b hm] at e;cases e
 ·obtain⟨o',e'⟩:=x.live b o e;exact y.live b o' e'
 ·obtain⟨o1,e1,l1⟩:=x.vers i o e;obtain⟨o2,e2,l2⟩:=y.vers i o1 e1;exact⟨o2,e2,Nat.le_trans l1 l2⟩
 ·obtain⟨o1,e1,l1⟩:=x.vers i o eo;obtain⟨o2,e2,l2⟩:=y.vers i o1 e1;rw[eo''] at e2
  cases e2;have h1:=x.same i a o o1 ea hX eo e1 (by exists L30,0x2000210201820001810002836,hv,l1,l2);have h2:=y.same i a o1 o'' (by rw[List.getElem?_append_left (List.getElem?_eq_some_iff.mp ea).1];exact ea) hX e1 eo'' (by exists L30,0x1020210201820001810002836,hv,l1,l2);rw[h2,h1]
theorem bE.toGrow {X ρ ρ':List Addr} {J J':St} {h h':Heap} (g:bE X ρ J ρ' J' h h') (hX:∀b∈X,h.get? b=none) (hl:∀b∈ρ,∃o,h.get? b=some o):au ρ J ρ' J' h h':=
 ⟨g.pre,fun b o e hb=>g.ext b o e hb (fun q=>by rw[hX b q] at e;cases e),g.live,g.vers,fun i a o o' e=>g.same i a o o' e (fun q=>by
  obtain⟨ob,eb⟩:=hl a (List.mem_of_getElem? e);rw[hX a q] at eb;cases eb)⟩
theorem bE.get {X ρ ρ':List Addr} {J J':St} {h h':Heap} (x:bE X ρ J ρ' J' h h') {n:Nat} {a:Addr} (e:ρ[n]?=some a):ρ'[n]?=some a:=by
 obtain⟨τ,rfl,_⟩:=x.pre;rw[List.getElem?_append_left (List.getElem?_eq_some_iff.mp e).1];exact e
theorem bE.tupKeep {X ρ ρ':List Addr} {J J₀ J':St} {h h':Heap} (g:bE X ρ J₀ ρ' J' h h') (x:SR prog w H₀ ρ J h) (hX:∀a∈X,bm h a):cg h h':=
 fun c vs ep e=>g.ext c _ e (x.tupNot e) fun q=>hX c q _ vs ep e rfl rfl
theorem bE.notIn {X ρ ρ':List Addr} {J J':St} {h h':Heap} {a:Addr} {o:Obj} (g:bE X ρ J ρ' J' h h') (ha:a∉ρ) (hl:h.get? a=some o):a∉ρ':=by
 obtain⟨τ,rfl,hτ⟩:=g.pre;intro hm;rcases List.mem_append.mp hm with hm|hm
 ·exact ha hm
 ·rw[hτ a hm] at hl;cases hl
theorem bE.otherL {X ρ ρ':List Addr} {J J':St} {h h1 h2:Heap} {L:List Addr} (g:bE X ρ J ρ' J' h h1) (hl:∀b∈ρ',∃o,h1.get? b=some o) (ha:∀a∈L,(h.get? a=none\/a∈X)/\a∉ρ')
  (hlive:∀a∈L,a∈X->∃o,h2.get? a=some o) (hs:eE L h1 h2):bE X ρ J ρ' J' h h2 where
 pre:=g.pre
 ext:=fun b ob eb hb hX=>hs b ob (fun q=>by
  rcases(ha b q).1 with q1|q1
  ·rw[q1] at eb;cases eb
  ·exact hX q1) (g.ext b ob eb hb hX)
 live:=fun b ob eb=>by
  by_cases q:b∈L
  ·rcases(ha b q).1 with q1|q1
   ·rw[q1] at eb;cases eb
   ·exact hlive b q q1
  ·obtain⟨o',e'⟩:=g.live b ob eb;exact⟨o',hs b o' q e'⟩
 vers:=g.vers
 same:=fun i b p p' eb hX ep ep' hv=>by
  have h1':=g.same i b p p' eb hX ep ep' hv;have hm:b∈ρ':=List.mem_of_getElem? (g.get eb);obtain⟨o,e⟩:=hl b hm;rw[<-h1',e]
  exact hs b o (fun q=>(ha b q).2 hm) e
end
structure dQ (K:dj) (A:Around) (target:Expr) (it:Addr) (own:List Addr) (src:f9) (ds:List D) (S:Nat->Heap->List Addr->Prop):Prop where
 live:∀i h ρ,S i h ρ->∀b∈own,∃o,h.get? b=some o
 notTup:∀i h ρ,S i h ρ->∀b∈own,bm h b
 keep:∀i h ρ h' ρ',S i h ρ->(∀b∈own,∀o,h.get? b=some o->h'.get? b=some o)->(∀r v a,src=some (r,v)->ρ[r]?=some a->h'.get? a=h.get? a)->cg h h'->xU ρ ρ'->S i h' ρ'
 next:∀i d (s:Shared) ρ (Qn:Shared->Prop) (Q:Value->Shared->Prop) (E E₂:Value->Shared->Prop),A.handled=none->ds[i]?=some d->S i s.heap ρ->
  (∀v h' tk,eE own s.heap h'->cj K.H₀ h' ρ v d->S (i+1) h' ρ->Q v { s with heap:=h',toks:=tk })->
  wpAny K.M A (pyNext (.ref it)) (fun r s₁=>match r with
   |none=>Qn s₁
   |some v=>wpAny K.M A (letOwnedTupleGo target (.ref it) v) (fun _ s₂=>Q v s₂) E₂ s₁) E s
 done:∀(s:Shared) ρ (Q:Option Value->Shared->Prop) (E:Value->Shared->Prop),A.handled=none->S ds.length s.heap ρ->(∀h' tk,eE own s.heap h'->Q none { s with heap:=h',toks:=tk })->wpAny K.M A (pyNext (.ref it)) Q E s
 self:∀i (s:Shared) ρ (Q:Value->Shared->Prop) (E:Value->Shared->Prop),S i s.heap ρ->Q (.ref it) s->wpAny K.M A (pyIter (.ref it)) Q E s
section
variable {K:dj} {A:Around} {target:Expr}
theorem d7 {it:Addr} {h h':Heap} (hs:Heap.SameBut it h h'):eE [it] h h':=fun b o hb e=>(hs.2 b (fun q=>hb (by rw[q];exact List.mem_singleton.mpr rfl))).trans e
theorem fY {it:Addr} {h h':Heap} (hs:Heap.ExtBut it h h'):eE [it] h h':=fun b o hb e=>hs b o (fun q=>hb (by rw[q];exact List.mem_singleton.mpr rfl)) e
theorem dQ.list {it a:Addr} {r v:Nat} {ds:List D} (hne:a≠it) :
  dQ K A target it [it] (some (r,v)) ds (fun i h ρ=>h.IsListIter it a i/\ρ[r]?=some a/\∃vs ep,h.get? a=some (seqObj "list" vs ep)/\ak K.H₀ h ρ vs.toList ds) where
 live:=fun i h ρ st b hb=>by
  obtain⟨⟨o,e,_⟩,_⟩:=st;rw[List.mem_singleton.mp hb];exact⟨o,e⟩
 notTup:=fun i h ρ st b hb ob items n e hc hd=>by
  obtain⟨⟨o,e1,hc1,_⟩,_⟩:=st;rw[List.mem_singleton.mp hb,e1] at e
  cases e;rw[hc1] at hc;simp at hc
 keep:=fun i h ρ h' ρ' st hk hsrc htk hp=>by
  obtain⟨⟨o,e1,r1⟩,hr,vs,ep,e2,rr⟩:=st;exact⟨⟨o,hk it (List.mem_singleton.mpr rfl) o e1,r1⟩,hp r a hr,vs,ep,(hsrc r v a rfl hr).trans e2,ak.mono htk hp _ rr⟩
 next:=fun i d s ρ Qn Q E E₂ hh hd st hQ=>by
  obtain⟨hit,hr,vs,ep,e2,rr⟩:=st;obtain⟨x,hx,rx⟩:=rr.get hd
  refine wpAny_pyNext_list_item hit ⟨_,e2,rfl,ep,rfl⟩ (by simpa using hx) fun h' hit' hs'=>?_;refine letGo_listiter hit' ?_
  have hnt:bm s.heap it:=fun ob items n e hc hd=>by
   obtain⟨o,e1,hc1,_⟩:=hit;rw[e1] at e;cases e;rw[hc1] at hc;simp at hc
  exact hQ x h' s.toks (d7 hs') (rx.other hs' hnt) ⟨hit',hr,vs,ep,(hs'.2 a hne).trans e2,rr.other hs' hnt⟩
 done:=fun s ρ Q E hh st hQ=>by
  obtain⟨hit,hr,vs,ep,e2,rr⟩:=st
  refine wpAny_pyNext_list_end hh hit ⟨_,e2,rfl,ep,rfl⟩ ?_ fun h' he=>hQ h' s.toks (fY he);have:=rr.length;simp at this ⊢;exact Nat.le_of_eq this
 self:=fun i s ρ Q E st hQ=>wpAny_pyIter_listiter st.1 hQ
theorem dQ.tup {it a:Addr} {ds:List D} (hne:a≠it) :
  dQ K A target it [it] none ds (fun i h ρ=>h.IsTupleIter it a i/\∃vs ep,h.get? a=some (seqObj "tuple" vs ep)/\ak K.H₀ h ρ vs.toList ds) where
 live:=fun i h ρ st b hb=>by
  obtain⟨⟨o,e,_⟩,_⟩:=st;rw[List.mem_singleton.mp hb];exact⟨o,e⟩
 notTup:=fun i h ρ st b hb ob items n e hc hd=>by
  obtain⟨⟨o,e1,hc1,_⟩,_⟩:=st;rw[List.mem_singleton.mp hb,e1] at e
  cases e;rw[hc1] at hc;simp at hc
 keep:=fun i h ρ h' ρ' st hk hsrc htk hp=>by
  obtain⟨⟨o,e1,r1⟩,vs,ep,e2,rr⟩:=st;exact⟨⟨o,hk it (List.mem_singleton.mpr rfl) o e1,r1⟩,vs,ep,htk a vs ep e2,ak.mono htk hp _ rr⟩
 next:=fun i d s ρ Qn Q E E₂ hh hd st hQ=>by
  obtain⟨hit,vs,ep,e2,rr⟩:=st;obtain⟨x,hx,rx⟩:=rr.get hd
  refine wpAny_pyNext_tuple_item hit ⟨_,e2,rfl,ep,rfl⟩ (by simpa using hx) fun h' hit' hs'=>?_;refine letGo_tupleiter hit' ?_
  have hnt:bm s.heap it:=fun ob items n e hc hd=>by
   obtain⟨o,e1,hc1,_⟩:=hit;rw[e1] at e;cases e;rw[hc1] at hc;simp at hc
  exact hQ x h' s.toks (d7 hs') (rx.other hs' hnt) ⟨hit',vs,ep,(hs'.2 a hne).trans e2,rr.other hs' hnt⟩
 done:=fun s ρ Q E hh st hQ=>by
  obtain⟨hit,vs,ep,e2,rr⟩:=st
  refine wpAny_pyNext_tuple_end hh hit ⟨_,e2,rfl,ep,rfl⟩ ?_ fun h' he=>hQ h' s.toks (fY he);have:=rr.length;simp at this ⊢;exact Nat.le_of_eq this
 self:=fun i s ρ Q E st hQ=>wpAny_pyIter_tupleiter st.1 hQ
theorem kH {I:Addr} {x left step:Int} {v:Value} {E:Value->Shared->Prop} {Q':Unit->Shared->Prop} {s':Shared} (hit:IsRangeIter s'.heap I x left step) (h:Q' () s') :
  wpAny K.M A (letOwnedTupleGo target (.ref I) v) Q' E s':=by
 unfold letOwnedTupleGo
 cases target<;>first
  |exact wpAny_pure h
  |(cases v<;>first
    |exact wpAny_pure h
    |(refine wpAny_bind (wpAny_load hit ?_)
      exact wpAny_pure h))
theorem dQ.range {it:Addr} {a b:Int} :
  dQ K A target it [it] none (du a b) (fun i h _=>IsRangeIter h it (a+i) ((b-a).toNat-(i:Int)) 1) where
 live:=fun i h ρ st b hb=>by rw[List.mem_singleton.mp hb];exact⟨_,st⟩
 notTup:=fun i h ρ st b hb ob items n e hc hd=>by
  rw[List.mem_singleton.mp hb,st] at e
  cases e;simp at hc
 keep:=fun i h ρ h' ρ' st hk hsrc htk hp=>hk it (List.mem_singleton.mpr rfl) _ st
 next:=fun i d s ρ Qn Q E E₂ hh hd st hQ=>by
  have hi:i<(b-a).toNat:=by
   have:=(List.getElem?_eq_some_iff.mp hd).1;simpa [du] using this
  have hdd:d = .int (a+i):=by
   have:=hd;simp only[du,List.getElem?_map,List.getElem?_range hi,Option.map_some,Option.some.injEq] at this;exact this.symm
  subst hdd
  refine wpAny_pyNext_range_item st (by exists L22,0x710750113011102011100053610005107510005011467810000824,hi,(ft (b-a))) fun h' hit' hs'=>?_;refine kH hit' ?_;refine hQ _ h' _ (d7 hs') ⟨_,rfl⟩ ?_;have e1:a+(i:Int)+1=a+((i+1:Nat):Int):=by exact Int.add_assoc _ _ _
  have e2:((b-a).toNat:Int)-(i:Int)-1=(b-a).toNat-((i+1:Nat):Int):=by exists L22,0x11110270075111107007555011002011100053610005007510005011467824,(ft (b-a))
  show IsRangeIter h' it (a+((i+1:Nat):Int)) ((b-a).toNat-((i+1:Nat):Int)) 1;rw[<-e1,<-e2];exact hit'
 done:=fun s ρ Q E hh st hQ=>by
  refine wpAny_pyNext_range_end hh st ?_ fun h' he=>hQ h' s.toks (fY he);simp[du]
 self:=fun i s ρ Q E st hQ=>wpAny_pyIter_rangeiter st hQ
end
section
variable {prog:Program} {w:World} {A:Around} {E:Value->Shared->Prop} {s:Shared}
section
variable {β:Type} {M:Model} {Q:β->Shared->Prop}
theorem kY {o:Option DictEntry} {x:DictEntry} {f:DictEntry->Sem β} {g:Sem β} (h:o=some x) (k:wpAny M A (f x) Q E s):wpAny M A (match (generalizing:=false) o with|some x=>f x|none=>g) Q E s:=by subst h;exact k
theorem kZ {o:Option DictEntry} {f:DictEntry->Sem β} {g:Sem β} (h:o=none) (k:wpAny M A g Q E s):wpAny M A (match (generalizing:=false) o with|some x=>f x|none=>g) Q E s:=by subst h;exact k
theorem qh {o:Option Value} {x:Value} {f:Value->Sem β} {g:Sem β} (h:o=some x) (k:wpAny M A (f x) Q E s):wpAny M A (match (generalizing:=false) o with|some x=>f x|none=>g) Q E s:=by subst h;exact k
theorem qi {o:Option Value} {f:Value->Sem β} {g:Sem β} (h:o=none) (k:wpAny M A g Q E s):wpAny M A (match (generalizing:=false) o with|some x=>f x|none=>g) Q E s:=by subst h;exact k
theorem nF {E2:Value->Shared->Prop} {f:List (Code×Pos)->Bool} {R:Bool->Shared->Prop} (h:∀q,R q s):wpAny M A stack (fun a s'=>wpAny M A (pure (f a)) R E2 s') E s:=wpAny_stack_any fun _=>wpAny_pure (h _)
end
theorem t8 {d:Addr} {o:Obj} {es:Array DictEntry} {ep:Nat} {Q:Value->Shared->Prop} (hd:(d==sysModules)=false) (ho:s.heap.get? d=some o) (hc:o.cls = .type "dict") (hdat:o.data = .dict es ep)
  (hQ:Q (.ref s.heap.objs.size) { s with heap:=s.heap.push { cls:=.type "dict_keyiterator",data:=.fields #[.ref d,.int 0 0,.int es.size 0,.int ep 0] } }) :
  wpAny (model prog w) A (pyIter (.ref d)) Q E s:=by
 have hT:s.TypeIs (.ref d) "dict":=⟨o,ho,hc⟩;refine wpAny_pyIter_slot hT PySem.F.slot_dict_iter (wpAny_call_entry PySem.F.slot_dict_iter hT PySem.F.entry_dict_iter ?_ (PySem.F.args_dict_iter_1 _));unfold Builtin.«dict.__iter__»;refine wpAny_bind ?_;unfold Builtin.Dict.dictSlotNone;refine wpAny_bind (wpAny_notOrdered_dict hT ?_);show wpAny _ _ (pure (Value.ref d)) _ _ s;refine wpAny_pure ?_;show wpAny _ _ (Builtin.Dict.showsAll d >>= _) _ _ s;unfold Builtin.Dict.showsAll;rw[if_neg (by rw[hd];exact Bool.false_ne_true)];refine wpAny_bind (wpAny_pure ?_);refine wpAny_bind (wpAny_dictEntries ho hdat ?_);refine wpAny_bind (wpAny_dictEpoch ho hdat ?_);refine wpAny_bind (wpAny_newObj_type (wpAny_pure ⟨_,rfl, "dict_keyiterator",_,⟨_,Heap.get?_push_size _ rfl,rfl⟩,PySem.F.slot_dict_keyiterator_next.lookup,?_⟩));simpa [rawInt] using hQ
theorem vQ {it d:Addr} {i ep:Nat} {od:Obj} {es:Array DictEntry} {e:DictEntry} {Q:Option Value->Shared->Prop} (hit:s.heap.IsKeyIter it d i es.size ep)
  (hod:s.heap.get? d=some od) (hdd:od.data = .dict es ep) (hx:es[i]?=some e)
  (hQ:∀h',h'.IsKeyIter it d (i+1) es.size ep->Heap.SameBut it s.heap h'->Q (some e.key) { s with heap:=h' }) :
  wpAny (model prog w) A (pyNext (.ref it)) Q E s:=by
 obtain⟨o,ho,hc,hd⟩:=id hit;unfold pyNext;refine wpAny_bind (wpAny_attempt (wpAny_callSpecial?_slot (name:=Str.ofString "__next__") hit.typeIs PySem.F.slot_dict_keyiterator_next
  (wpAny_call_entry PySem.F.slot_dict_keyiterator_next hit.typeIs PySem.F.entry_dict_keyiterator_next ?_ (PySem.F.args_dict_keyiterator_next_1 _))))
 refine wpAny_bind (wpAny_pure ?_);refine wpAny_bind ?_;refine wpAny_bind ?_;first|refine wpAny_bind (wpAny_typeNameOfWhole_keyiter hit.typeIs (wpAny_pure ?_))|refine wpAny_bind (wpAny_typeNameOf_keyiter hit.typeIs (wpAny_pure ?_))
 refine wpAny_bind (wpAny_fieldsOf ho hd ?_);show wpAny _ _ (if (Value.ref d==Value.none)=true then _ else _) _ _ s;rw[if_neg (show ¬((Value.ref d==Value.none)=true) from Bool.false_ne_true)];refine wpAny_bind (wpAny_pure ?_);refine wpAny_bind (wpAny_dictEntries hod hdd ?_);rw[if_neg (by simp)];refine wpAny_bind (wpAny_pure ?_);refine wpAny_bind (wpAny_dictEpoch hod hdd ?_);rw[if_neg (by simp)];refine wpAny_pure ?_;refine kY ((if_neg (Int.not_lt.mpr (Int.natCast_nonneg i))).trans hx) ?_;refine wpAny_bind ?_;first|refine wpAny_bind (wpAny_typeNameOfWhole_keyiter hit.typeIs (wpAny_pure ?_))|refine wpAny_bind (wpAny_typeNameOf_keyiter hit.typeIs (wpAny_pure ?_))
 refine wpAny_bind (wpAny_isOneOf_keyiter hit.typeIs ?_);show wpAny _ _ (setField (.ref it) 1 (rawInt ((i:Int)+1)) >>= _) _ _ s;refine wpAny_bind (wpAny_setField ho hd (by simp) ?_);have hit':(s.heap.update it (Obj.mapFields (·.setIfInBounds 1 (rawInt ((i:Int)+1))))).IsKeyIter it d (i+1) es.size ep:=
  ⟨_,Heap.get?_update_self _ ho (Obj.isFreed_of_fields (Obj.data_mapFields hd _)),(Obj.cls_mapFields ..).trans hc,by rw[Obj.data_mapFields hd];simp[rawInt]⟩
 refine wpAny_bind (wpAny_holding ?_);refine wpAny_bind (wpAny_isOneOf_keyiter (s:={ s with heap:=s.heap.update it (Obj.mapFields (·.setIfInBounds 1 (rawInt ((i:Int)+1)))) }) hit'.typeIs ?_);show wpAny _ _ (pure e.key) _ _ _;exact wpAny_pure (wpAny_pure ⟨_,rfl,wpAny_pure (hQ _ hit' (Heap.SameBut.update ..))⟩)
theorem zO {it d:Addr} {i ep:Nat} {od:Obj} {es:Array DictEntry} {Q:Option Value->Shared->Prop} (hh:A.handled=none) (hit:s.heap.IsKeyIter it d i es.size ep)
  (hod:s.heap.get? d=some od) (hdd:od.data = .dict es ep) (hx:es[i]?=none)
  (hQ:∀h',Heap.ExtBut it s.heap h'->Q none { s with heap:=h' }):wpAny (model prog w) A (pyNext (.ref it)) Q E s:=by
 obtain⟨o,ho,hc,hd⟩:=id hit;unfold pyNext;refine wpAny_bind (wpAny_attempt (wpAny_callSpecial?_slot (name:=Str.ofString "__next__") hit.typeIs PySem.F.slot_dict_keyiterator_next
  (wpAny_call_entry PySem.F.slot_dict_keyiterator_next hit.typeIs PySem.F.entry_dict_keyiterator_next ?_ (PySem.F.args_dict_keyiterator_next_1 _))))
 refine wpAny_bind (wpAny_pure ?_);refine wpAny_bind ?_;refine wpAny_bind ?_;first|refine wpAny_bind (wpAny_typeNameOfWhole_keyiter hit.typeIs (wpAny_pure ?_))|refine wpAny_bind (wpAny_typeNameOf_keyiter hit.typeIs (wpAny_pure ?_))
 refine wpAny_bind (wpAny_fieldsOf ho hd ?_);show wpAny _ _ (if (Value.ref d==Value.none)=true then _ else _) _ _ s;rw[if_neg (show ¬((Value.ref d==Value.none)=true) from Bool.false_ne_true)];refine wpAny_bind (wpAny_pure ?_);refine wpAny_bind (wpAny_dictEntries hod hdd ?_);rw[if_neg (by simp)];refine wpAny_bind (wpAny_pure ?_);refine wpAny_bind (wpAny_dictEpoch hod hdd ?_);rw[if_neg (by simp)];refine wpAny_pure ?_;refine kZ ((if_neg (Int.not_lt.mpr (Int.natCast_nonneg i))).trans hx) ?_;refine wpAny_bind ?_;first|refine wpAny_bind (wpAny_typeNameOfWhole_keyiter hit.typeIs (wpAny_pure ?_))|refine wpAny_bind (wpAny_typeNameOf_keyiter hit.typeIs (wpAny_pure ?_))
 show wpAny _ _ (setField (.ref it) 0 .none >>= _) _ _ s;refine wpAny_bind (wpAny_setField ho hd (by simp) ?_);show wpAny _ _ (newExc (.type "StopIteration") [] >>= _) _ _ _;refine wpAny_bind ?_;simp only[newExc,newTuple];refine wpAny_bind (wpAny_newObj_type ?_ (by size_fits));refine wpAny_bind (m:=firstArgMember _ _) (wpAny_of_eq (a:=Value.none) (by first|rfl|(simp only[firstArgMember];rfl)) ?_);refine wpAny_newObj_type ?_ (by size_fits);simp only[raiseNew];refine wpAny_bind (wpAny_handled ?_);rw[show A.in1.handled=none from hh];refine wpAny_bind (wpAny_pure (wpAny_throw ?_));refine wpAny_bind (wpAny_isInstance (T:="StopIteration") (b:=true) ⟨_,Heap.get?_push_size _ rfl,rfl⟩ isSubtype_stop ?_);exact wpAny_pure (hQ _ (((Heap.SameBut.update ..).extBut.push _).push _))
theorem qM {it l:Addr} {i:Nat} {items} {x:Value} {Q:Value->Shared->Prop} (hit:s.heap.IsTupleIter it l i)
  (hl:s.heap.IsTuple l items) (hx:items[i]?=some x)
  (hQ:∀h',h'.IsTupleIter it l (i+1)->Heap.SameBut it s.heap h'->Q x { s with heap:=h' }) :
  wpAny (model prog w) A (Builtin.SmallTypes.nextOf (.ref it)) Q E s:=by
 obtain⟨o,ho,hc,hd⟩:=id hit;obtain⟨ol,hol,_,nl,hdl⟩:=hl;unfold Builtin.SmallTypes.nextOf;refine wpAny_bind (wpAny_callSpecial?_slot (name:=Str.ofString "__next__") hit.typeIs PySem.F.slot_tuple_iterator_next
  (wpAny_call_entry PySem.F.slot_tuple_iterator_next hit.typeIs PySem.F.entry_tuple_iterator_next ?_ (PySem.F.args_tuple_iterator_next_1 _)))
 show wpAny _ _ (field (.ref it) 0 >>= _) _ _ s;refine wpAny_bind (wpAny_field ho hd (x:=.ref l) rfl ?_);show wpAny _ _ (if (Value.ref l==Value.none)=true then _ else _) _ _ s;rw[if_neg (show ¬((Value.ref l==Value.none)=true) from Bool.false_ne_true)];show wpAny _ _ (field (.ref it) 1 >>= _) _ _ s;refine wpAny_bind (wpAny_field ho hd (x:=.int i 0) rfl ?_);show wpAny _ _ (seqItems? (.ref l) >>= _) _ _ s;refine wpAny_bind (wpAny_seqItems hol hdl ?_);refine qh hx ?_;refine wpAny_bind (wpAny_setField ho hd (by simp) (wpAny_pure ⟨x,rfl,wpAny_pure (hQ _ ?_ (Heap.SameBut.update ..))⟩));exact⟨_,Heap.get?_update_self _ ho (Obj.isFreed_of_fields (Obj.data_mapFields hd _)),(Obj.cls_mapFields ..).trans hc,by
  rw[Obj.data_mapFields hd];simp[rawInt]⟩
theorem ly {it l:Addr} {i:Nat} {items} {Q:Value->Shared->Prop} (hh:A.handled=none) (hit:s.heap.IsTupleIter it l i)
  (hl:s.heap.IsTuple l items) (hx:items[i]?=none)
  (hE:∀h' e,Heap.ExtBut it s.heap h'->(∃o,h'.get? e=some o/\o.cls = .type "StopIteration")->E (.ref e) { s with heap:=h' }) :
  wpAny (model prog w) A (Builtin.SmallTypes.nextOf (.ref it)) Q E s:=by
 obtain⟨o,ho,hc,hd⟩:=id hit;obtain⟨ol,hol,_,nl,hdl⟩:=hl;unfold Builtin.SmallTypes.nextOf;refine wpAny_bind (wpAny_callSpecial?_slot (name:=Str.ofString "__next__") hit.typeIs PySem.F.slot_tuple_iterator_next
  (wpAny_call_entry PySem.F.slot_tuple_iterator_next hit.typeIs PySem.F.entry_tuple_iterator_next ?_ (PySem.F.args_tuple_iterator_next_1 _)))
 show wpAny _ _ (field (.ref it) 0 >>= _) _ _ s;refine wpAny_bind (wpAny_field ho hd (x:=.ref l) rfl ?_);show wpAny _ _ (if (Value.ref l==Value.none)=true then _ else _) _ _ s;rw[if_neg (show ¬((Value.ref l==Value.none)=true) from Bool.false_ne_true)];show wpAny _ _ (field (.ref it) 1 >>= _) _ _ s;refine wpAny_bind (wpAny_field ho hd (x:=.int i 0) rfl ?_);show wpAny _ _ (seqItems? (.ref l) >>= _) _ _ s;refine wpAny_bind (wpAny_seqItems hol hdl ?_);refine qi hx ?_;refine wpAny_bind (wpAny_rule (wpAny_bind (wpAny_setField ho hd (by simp) ?_)));show wpAny _ _ (newExc (.type "StopIteration") [] >>= _) _ _ _;refine wpAny_bind ?_;simp only[newExc,newTuple];refine wpAny_bind (wpAny_newObj_type ?_ (by size_fits));refine wpAny_bind (m:=firstArgMember _ _) (wpAny_of_eq (a:=Value.none) (by first|rfl|(simp only[firstArgMember];rfl)) ?_);refine wpAny_newObj_type ?_ (by size_fits);simp only[raiseNew];refine wpAny_bind (wpAny_handled ?_);first|rw[show A.in1.handled=none from hh]|rw[hh]
 refine wpAny_bind (wpAny_pure (wpAny_throw ?_));exact hE _ _ (((Heap.SameBut.update ..).extBut.push _).push _) ⟨_,Heap.get?_push_size _ rfl,rfl⟩
theorem xi {prog:Program} {w:World} {A:Around} (hh:A.handled=none) (it l:Addr) (hne:l≠it) (items:Array Value) :
  Draws prog w A it [it,l] items.size (fun i v=>items[i]?=some v) (fun i h=>h.IsTupleIter it l i/\h.IsTuple l items) where
 live:=fun _ _ st=>let ⟨o,ho,_⟩:=st.1;⟨o,ho⟩
 frame:=fun _ _ _ st hk=>⟨let ⟨o,ho,r⟩:=st.1;⟨o,hk it (by simp) o ho,r⟩,let ⟨o,ho,r⟩:=st.2;⟨o,hk l (by simp) o ho,r⟩⟩
 item:=fun i s Q E hi st hQ=>by
  refine qM st.1 st.2 (x:=items[i]) (by simp[hi]) fun h' hit' hs'=>?_;exact hQ _ h' s.toks (by simp[hi]) ⟨hit',st.2.extBut hs'.extBut hne⟩ hs'
 done:=fun s Q E st hE=>ly hh st.1 st.2 (by simp) hE
theorem rL (l:Addr) (items:Array Value) (n:Nat) :
  Meets (Builtin.«enumerate.__new__» ⟨[.type "enumerate",.ref l],[]⟩) (fun _ R s=>s.heap.get? l=some { cls:=.type "tuple",dict:=none,data:=.seq items n,slots:=#[] }/\
   R (.ok (.ret (.ref (s.heap.push { cls:=.type "tuple_iterator",data:=.fields #[.ref l,.int 0 0] }).objs.size)))
    { s with heap:=(s.heap.push { cls:=.type "tuple_iterator",data:=.fields #[.ref l,.int 0 0] }).push { cls:=.type "enumerate",data:=.fields #[.none,.bool false,.ref s.heap.objs.size,rawInt 0,.none,.none] } }):=
 .of_wp fun prog w A R s h=>by
  obtain⟨hp,g,d,tk,os⟩:=s;obtain⟨hl,h⟩:=h;have hsub:=sub_enumerate;have hL:Heap.IsTuple (Shared.heap ⟨hp,g,d,tk,os⟩) l items:=⟨_,hl,rfl,n,rfl⟩;wp_walk using AutoSeq1.wpAny_loadPart' hl
  refine nF fun q=>?_
  cases q
  ·wp_walk using AutoSeq1.wpAny_loadPart' hl,wpAny_pyIter_tuple hL
   exact⟨_,rfl,h⟩
  ·wp_walk using AutoSeq1.wpAny_loadPart' hl,wpAny_pyIter_tuple hL
   exact⟨_,rfl,h⟩
theorem oC {l:Addr} {items:Array Value} {n:Nat} {Q:Value->Shared->Prop}
  (hl:s.heap.get? l=some (seqObj "tuple" items n))
  (h:∀h',IsEnum h' (s.heap.objs.size+1) s.heap.objs.size 0 .none->h'.IsTupleIter s.heap.objs.size l 0->h'.objs.size=s.heap.objs.size+2->
   (∀b o,s.heap.get? b=some o->h'.get? b=some o)->Q (.ref (s.heap.objs.size+1)) { s with heap:=h' }) :
  wpAny (model prog w) A (call (.type "enumerate") [.ref l]) Q E s:=by
 refine callType_new PySem.F.called_enumerate (by decide) (PySem.F.typeCall_enumerate_1 _) (PySem.F.newCall_enumerate_1 _) (fun obj=>PySem.F.args_object_init_2 obj _) PySem.F.entry_enumerate_new
  (rL l items n) ⟨hl,?_⟩
 have hz:(s.heap.push { cls:=.type "tuple_iterator",data:=.fields #[.ref l,.int 0 0] }).objs.size=s.heap.objs.size+1:=Heap.size_push ..;show _/\_;rw[hz];have he:IsEnum ((s.heap.push { cls:=.type "tuple_iterator",data:=.fields #[.ref l,.int 0 0] }).push
   { cls:=.type "enumerate",data:=.fields #[.none,.bool false,.ref s.heap.objs.size,rawInt 0,.none,.none] }) (s.heap.objs.size+1) s.heap.objs.size 0 .none:=by
  have:=Heap.get?_push_size (s.heap.push { cls:=.type "tuple_iterator",data:=.fields #[.ref l,.int 0 0] })
   (o:={ cls:=.type "enumerate",data:=.fields #[.none,.bool false,.ref s.heap.objs.size,rawInt 0,.none,.none] }) rfl
  rw[hz] at this;exact this
 refine⟨⟨_,he,rfl⟩,h _ he ⟨_,Heap.get?_push_of_some _ (Heap.get?_push_size _ rfl),rfl,rfl⟩ (by rw[Heap.size_push,hz]) fun b o x=>Heap.get?_push_of_some _ (Heap.get?_push_of_some _ x)⟩
end
section
variable {K:dj} {A:Around} {target:Expr}
theorem nf:∀(ds:List D) (n i:Nat) (d:D),(b8 n ds)[i]?=some d->∃x,ds[i]?=some x/\d = .tup [.int ((n+i:Nat):Int),x]
 | [],n,i,d,e=>by simp[b8] at e
 |x::r,n,0,d,e=>by
  simp only[b8,List.getElem?_cons_zero,Option.some.injEq] at e;exact⟨x,rfl,by rw[<-e];rfl⟩
 |x::r,n,i+1,d,e=>by
  simp only[b8,List.getElem?_cons_succ] at e;obtain⟨y,h1,h2⟩:=nf r (n+1) i d e;refine⟨y,by simpa using h1,?_⟩;rw[h2];have:n+1+i=n+(i+1):=by exact Nat.add_right_comm _ _ _
  rw[this]
theorem m9:∀(ds:List D) (n:Nat),(b8 n ds).length=ds.length
 | [],_=>rfl
 |_::r,n=>by simp only[b8,List.length_cons,m9 r]
theorem dQ.keys {it a:Addr} {r v ep:Nat} {es:Array DictEntry} {ks:List (List Int)} (hne:a≠it) :
  dQ K A target it [it] (some (r,v)) (ks.map ae) (fun i h ρ=>h.IsKeyIter it a i es.size ep/\ρ[r]?=some a/\(∃o,h.get? a=some o/\o.data = .dict es ep/\o.cls = .type "dict")/\∃xs:List (List Int×Addr×Value),es.toList=xs.map (entryOfKey (ci K.prog K.w))/\xs.map (·.1)=ks/\nA K.H₀ h ρ xs) where
 live:=fun i h ρ st b hb=>by
  obtain⟨⟨o,e,_⟩,_⟩:=st;rw[List.mem_singleton.mp hb];exact⟨o,e⟩
 notTup:=fun i h ρ st b hb ob items n e hc hd=>by
  obtain⟨⟨o,e1,hc1,_⟩,_⟩:=st;rw[List.mem_singleton.mp hb,e1] at e
  cases e;rw[hc1] at hc;simp at hc
 keep:=fun i h ρ h' ρ' st hk hsrc htk hp=>by
  obtain⟨⟨o,e1,r1⟩,hr,⟨od,e2,r2⟩,xs,x1,x2,x3⟩:=st;exact⟨⟨o,hk it (List.mem_singleton.mpr rfl) o e1,r1⟩,hp r a hr,⟨od,(hsrc r v a rfl hr).trans e2,r2⟩,xs,x1,x2,fun y hy=>cj.mono htk hp _ (x3 y hy)⟩
 next:=fun i d s ρ Qn Q E E₂ hh hd st hQ=>by
  obtain⟨hit,hr,⟨od,e2,r2,r3⟩,xs,x1,x2,x3⟩:=st;obtain⟨k,hk,rfl⟩:=List.getElem?_map ..▸hd |> (Option.map_eq_some_iff.mp ·);rw[<-x2,List.getElem?_map,Option.map_eq_some_iff] at hk;obtain⟨y,hy,rfl⟩:=hk;have he:es[i]?=some (entryOfKey (ci K.prog K.w) y):=by rw[entry_at x1 i,hy];rfl
  refine vQ hit e2 r2 he fun h' hit' hs'=>?_;refine letGo_keyiter hit' ?_
  have hnt:bm s.heap it:=fun ob items n e hc hd=>by
   obtain⟨o,e1,hc1,_⟩:=hit;rw[e1] at e;cases e;rw[hc1] at hc;simp at hc
  exact hQ _ h' s.toks (d7 hs') ((x3 y (List.mem_of_getElem? hy)).other hs' hnt) ⟨hit',hr,⟨od,(hs'.2 a hne).trans e2,r2,r3⟩,xs,x1,x2,fun z hz=>(x3 z hz).other hs' hnt⟩
 done:=fun s ρ Q E hh st hQ=>by
  obtain⟨hit,hr,⟨od,e2,r2,r3⟩,xs,x1,x2,x3⟩:=st
  refine zO hh hit e2 r2 ?_ fun h' he=>hQ h' s.toks (fY he);have h1:=size_of_entries x1;have h2:xs.length=ks.length:=by rw[<-x2];simp
  simp;exists L30,0x2000120102810002836,h1,h2
 self:=fun i s ρ Q E st hQ=>wpAny_pyIter_keyiter st.1 hQ
theorem dQ.enum {cls:String} {e it a:Addr} {src:f9} {items:Array Value} {ep:Nat} {ds:List D} {elts:List Expr} {q:Nat} {tpos:Pos} {St:Nat->Heap->Prop} (hcls:(cls = "tuple"/\src=none)\/∃r v,src=some (r,v))
  (D:∀A:Around,A.handled=none->Draws K.prog K.w A it [it,a] items.size (fun i v=>items[i]?=some v) St) (hnt:∀i h,St i h->bm h it) (hei:e≠it) (hea:e≠a) (hia:it≠a) :
  dQ K A (.Tuple elts q tpos) e [e,it] src (b8 0 ds) (fun i h ρ=>(∃old,IsEnum h e it i old)/\St i h/\h.get? a=some (seqObj cls items ep)/\(∀r v,src=some (r,v)->ρ[r]?=some a)/\ak K.H₀ h ρ items.toList ds) where
 live:=fun i h ρ st b hb=>by
  obtain⟨⟨old,he⟩,hs,_⟩:=st;rcases List.mem_cons.mp hb with rfl|hb
  ·exact⟨_,he⟩
  ·rw[List.mem_singleton.mp hb];exact(D {} rfl).live i h hs
 notTup:=fun i h ρ st b hb=>by
  obtain⟨⟨old,he⟩,hs,_⟩:=st;rcases List.mem_cons.mp hb with rfl|hb
  ·intro ob items n e hc hd;rw[he] at e;cases e;simp at hc
  ·rw[List.mem_singleton.mp hb];exact hnt i h hs
 keep:=fun i h ρ h' ρ' st hk hsrc htk hp=>by
  obtain⟨⟨old,he⟩,hs,ha,hr,rr⟩:=st;have ha':h'.get? a=some (seqObj cls items ep):=by
   rcases hcls with⟨rfl,rfl⟩ | ⟨r,v,rfl⟩
   ·exact htk a items ep ha
   ·exact(hsrc r v a rfl (hr r v rfl)).trans ha
  refine⟨⟨old,hk e (by simp) _ he⟩,(D {} rfl).frame i h h' hs fun b hb o eb=>?_,ha',fun r v e=>hp r a (hr r v e),ak.mono htk hp _ rr⟩;rcases List.mem_cons.mp hb with rfl|hb
  ·exact hk b (by simp) o eb
  ·rw[List.mem_singleton.mp hb] at eb ⊢;rw[ha] at eb;cases eb;exact ha'
 next:=fun i d s ρ Qn Q E E₂ hh hd st hQ=>by
  obtain⟨⟨old,he⟩,hs,ha,hr,rr⟩:=st;obtain⟨x,hx,rfl⟩:=nf ds 0 i d hd;obtain⟨xv,hxv,rx⟩:=rr.get hx;have hi:i<items.size:=by
   have:=(List.getElem?_eq_some_iff.mp hxv).1;simpa using this
  have hef:e∉[it,a]:=by simp[hei,hea]
  refine wpAny_pyNext_enum_itemD (D A.in1 hh) he hs hi hei hef fun y h' tk hP ho hs' hT hsz hk=>?_;have hyx:y=xv:=by
   have h1:items[i]?=some xv:=by simpa using hxv
   rw[h1] at hP;cases hP;rfl
  subst hyx
  refine wpAny_letOwnedTupleGo_enum ho fun h2 he2 hs2=>?_;have hlt:e<s.heap.objs.size:=Heap.lt_size he
  have hb1:eE [e,it] s.heap h':=fun b o hb eb=>hk b o (fun q=>hb (by simp[q])) (fun q=>hb (by simp[q])) eb
  have hb2:eE [e,it] s.heap h2:=fun b o hb eb=>(hs2.2 b (fun q=>hb (by simp[q]))).trans (hb1 b o hb eb)
  have hnts:∀b∈[e,it],bm s.heap b:=fun b hb=>by
   rcases List.mem_cons.mp hb with rfl|hb
   ·intro ob items n e hc hd;rw[he] at e;cases e;simp at hc
   ·rw[List.mem_singleton.mp hb];exact hnt i _ hs
  have htk:=cz hb2 hnts;have hT2:h2.get? s.heap.objs.size=some (seqObj "tuple" #[.int i tk,y] 0):=(hs2.2 _ (Nat.ne_of_gt hlt)).trans hT
  refine hQ _ h2 _ hb2 ?_ ⟨⟨y,by simpa using he2⟩,?_,hb2 a _ (by simp[Ne.symm hea,Ne.symm hia]) ha,hr,ak.mono htk (fun _ _ e=>e) _ rr⟩
  ·refine⟨_,_,_,rfl,hT2,⟨tk,?_⟩,cj.mono htk (fun _ _ e=>e) _ rx,trivial⟩;simp
  ·refine(D A.in1 hh).frame (i+1) h' h2 hs' fun b hb o eb=>(hs2.2 b fun q=>?_).trans eb;subst q;exact hef hb
 done:=fun s ρ Q E hh st hQ=>by
  obtain⟨⟨old,he⟩,hs,ha,hr,rr⟩:=st;have h1:(b8 0 ds).length=items.size:=by
   rw[m9];have:=rr.length;simp at this;exact(this).symm
  rw[h1] at he hs
  exact wpAny_pyNext_enum_endD (D A.in1 hh) he hs fun h' hx=>hQ h' s.toks fun b o hb y=>hx b o (fun e'=>hb (by simp[e'])) y
 self:=fun i s ρ Q E st hQ=>by
  obtain⟨⟨old,he⟩,_⟩:=st;exact wpAny_pyIter_enum he hQ
end
noncomputable def bV.ok (c:bV):Bool:=(decide (c.vars.map (·.1)).Nodup&&decide (c.vars.map (·.2)).Nodup)&&c.vars.all fun p=>decide (p.2<c.next)
section
variable {K:dj} {c:bV} {env:Env} {n:Nat} {A:Around} {s:Shared} {ρ:List Addr} {J:St} {l:aB}
theorem tR {h:Heap} {a:Addr} {m m':Str->Option Value} (x:h.Ns a m) (y:h.Ns a m') (z:Str):m z=m' z:=by
 obtain⟨o,es,ep,e,d,_,f⟩:=x;obtain⟨o',es',ep',e',d',_,f'⟩:=y;rw[e] at e';cases e';rw[d] at d';cases d';rw[<-f z,<-f' z]
theorem jO {h:Heap} {a:Addr} {m:Str->Option Value} (x:h.Ns a m):bm h a:=fun ob items n e _ hd=>by
 obtain⟨o,es,ep,e',d,_⟩:=x;rw[e] at e';cases e';rw[hd] at d;cases d
theorem pW {h:Heap} {a:Addr} {ov:Option Value} (x:h.IsCell a ov):bm h a:=fun ob items n e _ hd=>by
 obtain⟨o,e',d⟩:=x;rw[e] at e';cases e';rw[hd] at d;cases d
theorem sU {h:Heap} {a:Addr} {m:Str->Option Value} {ov:Option Value} (x:h.Ns a m) (y:h.IsCell a ov):False:=by
 obtain⟨o,es,ep,e,d,_⟩:=x;obtain⟨o',e',d'⟩:=y;rw[e] at e';cases e';rw[d] at d';cases d'
theorem fL {α β:Type} (f:α->β):∀{xs:List α},(xs.map f).Nodup->∀p∈xs,∀q∈xs,f p=f q->p=q:=by
 intro A0;induction A0 with
 |nil=>
  intro _ _ hp _ _ _;simp at hp
 |cons x xs ih=>
  intro h p hp q hq e;simp only[List.map_cons,List.nodup_cons] at h;rcases List.mem_cons.mp hp with hp1|hp1
  ·rcases List.mem_cons.mp hq with hq1|hq1
   ·rw[hp1,hq1]
   ·exact absurd (by rw[<-hp1,e];exact List.mem_map_of_mem hq1) h.1
  ·rcases List.mem_cons.mp hq with hq1|hq1
   ·exact absurd (by rw[<-hq1,<-e];exact List.mem_map_of_mem hp1) h.1
   ·exact ih h.2 p hp1 q hq1 e
theorem bV.names_inj (ok:c.ok=true) {p q:Str×Nat} (hp:p∈c.vars) (hq:q∈c.vars) (e:p.1=q.1):p=q:=by
 simp only[bV.ok,Bool.and_eq_true,decide_eq_true_eq] at ok;exact fL _ ok.1.1 p hp q hq e
theorem bV.idx_inj (ok:c.ok=true) {p q:Str×Nat} (hp:p∈c.vars) (hq:q∈c.vars) (e:p.2=q.2):p=q:=by
 simp only[bV.ok,Bool.and_eq_true,decide_eq_true_eq] at ok;exact fL _ ok.1.2 p hp q hq e
theorem bV.idx_lt (ok:c.ok=true) {p:Str×Nat} (hp:p∈c.vars):p.2<c.next:=by
 simp only[bV.ok,Bool.and_eq_true,List.all_eq_true,decide_eq_true_eq] at ok;exact ok.2 p hp
theorem oT (ok:c.ok=true) {x:Str} {i:Nat} (hx:(x,i)∈c.vars) {l:aB} (h:∀j,c.next<=j->(l[j]?).join=none) (d:D):∀j,c.next<=j->((l.set i (some d))[j]?).join=none:=fun j hj=>by
 have:=bV.idx_lt ok hx;rw[List.getElem?_set_ne (by simp only at this;exists L30,0x910202800200810001836,hj,this)];exact h j hj
theorem rY (ev:fk c env) (v:df K c env s.heap ρ l) {p:Str×Nat} (hp:p∈c.vars) (hk:c.scope.names.lookup p.1=some .cell):∃a ov,env.cells.lookup p.1=some a/\s.heap.IsCell a ov/\a∈frame c env:=by
 have hk':env.kindOf p.1=some .cell:=by
  rcases ev.names _ _ hk with h | ⟨h,_⟩
  ·exact h
  ·cases h
 rcases v.at_ p hp with⟨hl,_⟩ | ⟨_,a,ov,h1,h2,_⟩
 ·rw[hk'] at hl;cases hl
 ·refine⟨a,ov,h1,h2,List.mem_cons_of_mem _ (List.mem_filterMap.mpr ⟨p,hp,?_⟩)⟩;rw[if_pos hk];exact h1
theorem df.frameOk (ev:fk c env) (x:K.sr ρ J s.heap) (v:df K c env s.heap ρ l):∀a∈frame c env,a∉ρ/\K.H₀.get? a=none/\bm s.heap a/\∃o,s.heap.get? a=some o:=by
 intro a ha;refine⟨?_,v.base a ha,?_⟩
 ·rcases List.mem_cons.mp ha with rfl|h
  ·exact v.apart
  ·obtain⟨p,hp,e⟩:=List.mem_filterMap.mp h;split at e
   ·rename_i hk;obtain⟨b,ov,h1,h2,_⟩:=rY ev v hp hk;rw[h1] at e;cases e;exact SR.cellNot x h2
   ·cases e
 ·rcases List.mem_cons.mp ha with rfl|h
  ·obtain⟨m,e⟩:=v.ns;refine⟨jO e,?_⟩;obtain⟨o,_,_,e,_⟩:=e;exact⟨o,e⟩
  ·obtain⟨p,hp,e⟩:=List.mem_filterMap.mp h;split at e
   ·rename_i hk;obtain⟨b,ov,h1,h2,_⟩:=rY ev v hp hk;rw[h1] at e;cases e;refine⟨pW h2,?_⟩;obtain⟨o,e,_⟩:=h2;exact⟨o,e⟩
   ·cases e
theorem im {l:aB} {i:Nat} {d d':D} (h:((l.set i (some d))[i]?).join=some d'):d'=d:=by
 by_cases hi:i<l.length
 ·rw[List.getElem?_set_self hi] at h;simpa using h.symm
 ·rw[List.getElem?_eq_none (by simpa using hi)] at h
  cases h
theorem gF {x:Str} {i:Nat} {v:Value} {d:D} {Q:Unit->Shared->Prop} {E:Value->Shared->Prop} (ev:fk c env) (xr:K.sr ρ J s.heap) (vs:df K c env s.heap ρ l) (ok:c.ok=true) (hx:(x,i)∈c.vars)
  (hk:c.scope.names.lookup x=some .local\/c.scope.names.lookup x=some .cell) (r:K.rep s.heap ρ v d)
  (h:∀h' tk,eE (frame c env) s.heap h'->(∀a∈frame c env,∃o,h'.get? a=some o)->K.sr ρ J h'->df K c env h' ρ (l.set i (some d))->cg s.heap h'->Q () { s with heap:=h',toks:=tk }):wpAny K.M A (storeName env x v) Q E s:=by
 have fr:=vs.frameOk ev xr;have done:∀b h' tk,b∈frame c env->Heap.SameBut b s.heap h'->(∃o,h'.get? b=some o)->(cg s.heap h'->df K c env h' ρ (l.set i (some d)))->Q () { s with heap:=h',toks:=tk }:=by
  intro b h' tk hb hs hlive hv
  have htk:cg s.heap h':=fun a vs ep e=>(hs.2 a (fun q=>(fr b hb).2.2.1 _ vs ep (q▸e) rfl rfl)).trans e
  refine h h' tk (fun a o ha e=>(hs.2 a (fun q=>ha (q▸hb))).trans e) (fun a ha=>?_) (xr.other hs (fr b hb).1 (fr b hb).2.1 (fr b hb).2.2.1) (hv htk) htk;by_cases q:a=b
  ·rw[q];exact hlive
  ·obtain⟨o,e⟩:=(fr a ha).2.2.2;exact⟨o,(hs.2 a q).trans e⟩
 have other:∀p∈c.vars,p.1≠x->(l.set i (some d))[p.2]?=l[p.2]?:=fun p hp hne=>by
  rw[List.getElem?_set_ne];intro q;have:=bV.idx_inj ok hp hx q.symm;rw[this] at hne;exact hne rfl
 rcases hk with hk|hk
 ·have hl:env.kindOf x=some .local:=by
   rcases ev.names _ _ hk with h | ⟨h,_⟩
   ·exact h
   ·cases h
  obtain⟨m,hm⟩:=vs.ns
  refine wpAny_storeName_local hl hm (fun h' hn' hs'=>done env.locals h' _ (List.mem_cons_self ..) hs' (let ⟨o,_,_,e,_⟩:=hn';⟨o,e⟩) fun htk=>?_) (by rw[ev.kind];rfl);refine⟨⟨_,hn'⟩,vs.apart,fun p hp=>?_,vs.inj,vs.base,oT ok hx vs.rest d⟩;by_cases hpx:p.1=x
  ·have:p=(x,i):=bV.names_inj ok hp hx hpx;subst this
   exact .inl ⟨hl,_,hn',fun d' hd'=>⟨v,by simp,by rw[im hd'];exact cj.mono htk (fun _ _ e=>e) _ r⟩⟩
  ·rw[other p hp hpx];rcases vs.at_ p hp with⟨h1,m0,h2,h3⟩ | ⟨h1,a,ov,h2,h3,h4⟩
   ·refine .inl ⟨h1,_,hn',fun d' hd'=>?_⟩;obtain⟨u,e1,e2⟩:=h3 d' hd';refine⟨u,?_,cj.mono htk (fun _ _ e=>e) _ e2⟩;simp only[hpx,if_false];rw[tR hm h2];exact e1
   ·refine .inr ⟨h1,a,ov,h2,?_,fun d' hd'=>let ⟨u,e1,e2⟩:=h4 d' hd';⟨u,e1,cj.mono htk (fun _ _ e=>e) _ e2⟩⟩;obtain⟨o,e,dd⟩:=h3;exact⟨o,(hs'.2 a (fun q=>by subst q;exact sU hm ⟨o,e,dd⟩)).trans e,dd⟩
 ·have hl:env.kindOf x=some .cell:=by
   rcases ev.names _ _ hk with h | ⟨h,_⟩
   ·exact h
   ·cases h
  obtain⟨a,ov,h1,h2,h3⟩:=rY ev vs hx hk;obtain⟨m,hm⟩:=vs.ns
  refine wpAny_storeName_cell ev.kind hl h1 h2 (fun h' hc' hs'=>done a h' s.toks h3 hs' (let ⟨o,e,_⟩:=hc';⟨o,e⟩) fun htk=>?_)
  have hne:env.locals≠a:=fun q=>sU hm (q▸h2)
  have keepNs:∀m,s.heap.Ns env.locals m->h'.Ns env.locals m:=fun m ⟨o,es,ep,e,r⟩=>⟨o,es,ep,(hs'.2 _ hne).trans e,r⟩
  refine⟨⟨m,keepNs m hm⟩,vs.apart,fun p hp=>?_,vs.inj,vs.base,oT ok hx vs.rest d⟩;by_cases hpx:p.1=x
  ·have:p=(x,i):=bV.names_inj ok hp hx hpx;subst this
   exact .inr ⟨.inl hl,a,some v,h1,hc',fun d' hd'=>⟨v,rfl,by rw[im hd'];exact cj.mono htk (fun _ _ e=>e) _ r⟩⟩
  ·rw[other p hp hpx];rcases vs.at_ p hp with⟨q1,m0,q2,q3⟩ | ⟨q1,b,ov',q2,q3,q4⟩
   ·exact .inl ⟨q1,m0,keepNs m0 q2,fun d' hd'=>let ⟨u,e1,e2⟩:=q3 d' hd';⟨u,e1,cj.mono htk (fun _ _ e=>e) _ e2⟩⟩
   ·refine .inr ⟨q1,b,ov',q2,?_,fun d' hd'=>let ⟨u,e1,e2⟩:=q4 d' hd';⟨u,e1,cj.mono htk (fun _ _ e=>e) _ e2⟩⟩;obtain⟨o,e,dd⟩:=q3;exact⟨o,(hs'.2 b (fun q=>vs.inj _ hp _ hx hpx b q2 (q▸h1))).trans e,dd⟩
end
noncomputable def nL (e:Expr):Option Str:=by
 cases e with
 |Name x _=>exact some x
 |_=>exact none
theorem tT {e:Expr} {x:Str} (h:nL e=some x):∃pos,e = .Name x pos:=by
 cases e with
 |Name y p=>exact⟨p,by rw[Option.some.inj h]⟩
 |_=>exact(Option.some_ne_none _ h.symm).elim
noncomputable def eH (es:List Expr):Option (List Str):=es.foldr (fun e ih=>(nL e).bind fun x=>ih.map (x::·)) (some [])
theorem je {e:Expr} {r:List Expr} {xs:List Str} (h:eH (e::r)=some xs):∃x ys p,e = .Name x p/\eH r=some ys/\xs=x::ys:=by
 obtain⟨x,h1,h2⟩:=Option.bind_eq_some_iff.mp (show((nL e).bind fun x=>(eH r).map (x::·))=some xs from h);obtain⟨ys,h3,rfl⟩:=Option.map_eq_some_iff.mp h2;obtain⟨p,rfl⟩:=tT h1;exact⟨x,ys,p,rfl,h3,rfl⟩
noncomputable def iX (e:Expr):Option (List Str×Bool):=by
 cases e with
 |Name x _=>exact some ([x],false)
 |Tuple es _ _=>exact(eH es).map fun xs=>(xs,true)
 |_=>exact none
noncomputable def fI (c:bV) (p:Str×Nat):Bool:=decide (p∈c.vars)&&(decide (c.scope.names.lookup p.1=some .local) || decide (c.scope.names.lookup p.1=some .cell))
noncomputable def eu (c:bV) (target:Expr) (ts:List Nat) (many:Bool):Bool:=match iX target with
 |some (xs,m)=>m==many&&decide (xs.length=ts.length)&&(xs.zip ts).all (fI c)
 |none=>false
section
variable {K:dj} {c:bV} {env:Env} {n:Nat} {A:Around} {s:Shared} {ρ:List Addr} {J:St} {l:aB}
noncomputable abbrev nz (K:dj) (c:bV) (env:Env) (ρ:List Addr) (J:St) (l':aB) (s:Shared) (Q:Unit->Shared->Prop):Prop:=
 ∀h' tk,eE (frame c env) s.heap h'->(∀a∈frame c env,∃o,h'.get? a=some o)->K.sr ρ J h'->df K c env h' ρ l'->cg s.heap h'->Q () { s with heap:=h',toks:=tk }
theorem eE.trans {L:List Addr} {h h' h'':Heap} (x:eE L h h') (y:eE L h' h''):eE L h h'':=fun b o hb e=>y b o hb (x b o hb e)
theorem nz.step {l':aB} {h1:Heap} {tk:Nat} {Q:Unit->Shared->Prop} (p:nz K c env ρ J l' s Q) (b:eE (frame c env) s.heap h1) (t:cg s.heap h1):nz K c env ρ J l' { s with heap:=h1,toks:=tk } Q:=
 fun h' tk' b' lv x v t'=>p h' tk' (b.trans b') lv x v fun a vs ep e=>t' a vs ep (t a vs ep e)
theorem i6 {p:Str×Nat} (h:fI c p=true):p∈c.vars/\(c.scope.names.lookup p.1=some .local\/c.scope.names.lookup p.1=some .cell):=
 ⟨of_decide_eq_true (Bool.and_eq_true_iff.mp h).1,(Bool.or_eq_true_iff.mp (Bool.and_eq_true_iff.mp h).2).imp of_decide_eq_true of_decide_eq_true⟩
theorem k8 {E:Value->Shared->Prop} (ev:fk c env) (ok:c.ok=true):∀(es:List Expr) (xs:List Str) (ts:List Nat) (vs:List Value) (ds:List D) (s:Shared) (l l':aB) (Q:Unit->Shared->Prop),K.sr ρ J s.heap->df K c env s.heap ρ l->eH es=some xs->xs.length=ts.length->(xs.zip ts).all (fI c)=true->
  ak K.H₀ s.heap ρ vs ds->ds.length=ts.length->l'=(ts.zip ds).foldl (fun l p=>l.set p.1 (some p.2)) l->nz K c env ρ J l' s Q->
  wpAny K.M A (assignInOrder ((assignEach es env).map (·.2)) vs) Q E s:=by
 intro A0;induction A0 with
 |nil=>
  intro xs ts vs ds s l l' Q x v hn hl hs r hd e p
  cases (show some []=some xs from hn);have ht:ts=[]:=List.length_eq_zero_iff.mp hl.symm;subst ht;subst e;refine PyProof.Rows.assignInOrder_nil ?_
  exact p s.heap s.toks (fun _ _ _ e=>e) (fun a ha=>(v.frameOk ev x a ha).2.2.2) x v fun _ _ _ e=>e
 |cons e1 es ih=>
  intro xs ts vs ds s l l' Q x v hn hl hs r hd e p;obtain⟨y,ys,pos,rfl,h2,rfl⟩:=je hn
  cases ts with
  |nil=>cases hl
  |cons t ts=>cases ds with
   |nil=>cases hd
   |cons d ds=>cases vs with
    |nil=>exact r.elim
    |cons v1 vs=>
     obtain⟨hs1,hs⟩:=Bool.and_eq_true_iff.mp hs;obtain⟨hm,hk⟩:=i6 hs1;refine PyProof.Rows.assignInOrder_cons ?_
     refine wpAny_assign_Name (gF ev x v ok hm hk r.1 fun h' tk b lv x' v' t'=>?_)
     exact ih ys ts vs ds { s with heap:=h',toks:=tk } (l.set t (some d)) l' Q x' v' h2 (Nat.succ.inj hl) hs (ak.mono t' (fun _ _ e=>e) _ r.2) (Nat.succ.inj hd) e (p.step b t')
theorem mc (env:Env):∀(es:List Expr) (xs:List Str),eH es=some xs->(assignEach es env).length=xs.length/\(assignEach es env).findIdx? (·.1)=none:=by
 intro A0;induction A0 with
 |nil=>
  intro xs h
  cases (show some []=some xs from h);exact⟨rfl,rfl⟩
 |cons e es ih=>
  intro xs h;obtain⟨y,ys,pos,rfl,h2,rfl⟩:=je h;obtain⟨i1,i2⟩:=ih ys h2;have:assignEach (Expr.Name y pos::es) env=(false,assign (Expr.Name y pos) env)::assignEach es env:=rfl;refine⟨by rw[this];exact congrArg Nat.succ i1,by rw[this];simp[List.findIdx?_cons,i2]⟩
theorem hZ {target:Expr} {ts:List Nat} {many:Bool} {v:Value} {d:D} {l':aB} {Q:Unit->Shared->Prop} {E:Value->Shared->Prop} (hh:A.handled=none) (ev:fk c env) (ok:c.ok=true) (x:K.sr ρ J s.heap) (vs:df K c env s.heap ρ l)
  (ht:eu c target ts many=true) (r:K.rep s.heap ρ v d) (hb:aw ts many d l=some l') (p:nz K c env ρ J l' s Q):wpAny K.M A (assign target env v) Q E s:=by
 replace ht:(match iX target with|some (xs,m)=>m==many&&decide (xs.length=ts.length)&&(xs.zip ts).all (fI c)|none=>false)=true:=ht
 cases hto:iX target with
 |none=>rw[hto] at ht;cases ht
 |some xm=>
  obtain⟨xs,m⟩:=xm;rw[hto] at ht;obtain⟨h12,hs⟩:=Bool.and_eq_true_iff.mp ht;obtain⟨h1,hl⟩:=Bool.and_eq_true_iff.mp h12;obtain rfl:=eq_of_beq h1;replace hl:=of_decide_eq_true hl;clear ht h12 h1
  cases target with
  |Name y pos=>
   cases (show some ([y],false)=some (xs,m) from hto);obtain⟨t,rfl⟩:=List.length_eq_one_iff.mp hl.symm
   cases hb;obtain⟨hm,hk⟩:=i6 (Bool.and_eq_true_iff.mp hs).1;exact wpAny_assign_Name (gF ev x vs ok hm hk r p)
  |Tuple es q pos=>
   obtain⟨ys,hn,hq⟩:=Option.map_eq_some_iff.mp hto
   cases hq
   cases d with
   |tup ds=>
    refine ch (fun hdl e=>?_) hb
    cases e;obtain⟨t,ws,ep,rfl,g,rr⟩:=r;obtain⟨a1,a2⟩:=mc env es xs hn;have hw:ws.size=ds.length:=rr.size
    refine wpAny_assign_Tuple hh ⟨_,g,rfl,ep,rfl⟩ (by rw[a1,hl,hw,hdl]) a2 fun h' he=>?_
    have keep:∀b o,s.heap.get? b=some o->h'.get? b=some o:=fun b o e=>he b o (Nat.ne_of_lt (Heap.lt_size e)) e;have gk:=au.keeps x keep
    exact k8 ev ok es xs ts ws.toList ds { s with heap:=h' } l _ Q (x.keeps keep) (vs.grow x gk) hn hl hs (rr.grow x gk) hdl rfl (p.step (tk:=s.toks) (fun b o _ e=>keep b o e) fun _ _ _ e=>keep _ _ e)
   |_=>exact dR hb
  |_=>exact(Option.some_ne_none _ hto.symm).elim
theorem vf (q:Nat×D):∀(r:List (Nat×D)) (l:aB),q.1∉r.map (·.1)->r.foldl (fun l p=>l.set p.1 (some p.2)) (l.set q.1 (some q.2))=(r.foldl (fun l p=>l.set p.1 (some p.2)) l).set q.1 (some q.2):=by
 intro A0;induction A0 with
 |nil=>
  intro l _;exact rfl
 |cons p r ih=>
  intro l h;simp only[List.map_cons,List.mem_cons,not_or] at h;simp only[List.foldl_cons];rw[List.set_comm _ _ h.1,ih _ h.2]
theorem uy:∀(r:List (Nat×D)) (l:aB),(r.map (·.1)).Nodup->r.reverse.foldl (fun l p=>l.set p.1 (some p.2)) l=r.foldl (fun l p=>l.set p.1 (some p.2)) l:=by
 intro A0;induction A0 with
 |nil=>
  intro l _;exact rfl
 |cons p r ih=>
  intro l h;simp only[List.map_cons,List.nodup_cons] at h;rw[List.reverse_cons,List.foldl_append,List.foldl_cons,List.foldl_nil,ih l h.2,List.foldl_cons,vf p r l h.1]
end
noncomputable def eN (K:dj) (c:bV) (target e:Expr) (x:X):Prop:=
 ∀env n A s ρ J l ds src J' (Q:Value->Shared->Prop) (E:Value->Shared->Prop),At K c env n A s ρ J l->bW K n->eA (K.C n) x l J=some (ds,src,J')->
  (∀it own S ρ' h' tk',dQ K A target it own src ds S->(∀b∈own,s.heap.get? b=none/\b∉ρ')->S 0 h' ρ'->aI src J'=true->au ρ J ρ' J' s.heap h'->K.sr ρ' J' h'->Q (.ref it) { s with heap:=h',toks:=tk' })->
  wpAny K.M A (eval e env) (fun v s₁=>wpAny K.M A (pyIter v) Q E s₁) E s
noncomputable def eW (e:Expr):Bool:=Nat.beq e.ctorIdx 25
theorem ub {e:Expr} (h:eW e=true):∃elts q p,e = .Tuple elts q p:=by
 cases e<;>first|exact⟨_,_,_,rfl⟩|exact(Bool.false_ne_true h).elim
section
variable {K:dj} {c:bV} {env:Env} {n:Nat} {A:Around} {s:Shared} {ρ:List Addr} {J:St} {l:aB}
theorem iw {r:Nat} {o:AO} (h:J[r]?=some o):aI (some (r,o.ver)) J=true:=by
 show(match J[r]? with|some p=>Nat.beq p.ver o.ver|none=>false)=_;rw[h];exact Nat.beq_refl _
theorem AT {ρ1 ρ2:List Addr} {hp1:Heap} (hn0:s.heap.get? hp1.objs.size=none) (x1:K.sr ρ1 J hp1):∀b∈[hp1.objs.size],s.heap.get? b=none/\b∉ρ1:=fun b hb=>by rw[List.mem_singleton.mp hb];exact⟨hn0,x1.sizeNot⟩
theorem eN.ix {target e:Expr} {X:Mine.X} (hx:bg K c e X):eN K c target e (.ix X):=
 fun env n A s ρ J l ds src J' Q E a hC he h=>by
  refine Bi (fun d h1 h2=>?_) he
  refine hx _ _ _ _ _ _ _ _ _ _ _ a hC h1 fun v1 ρ1 hp1 tk1 g1 x1 r1=>?_;have hn0:=AT (ρ2:=ρ1) (g1.fresh (aO hp1)) x1
  cases d with
  |tup ds1=>
   cases h2;obtain⟨t,vs,ep,rfl,g,rr⟩:=r1;refine wpAny_pyIter_tuple ⟨_,g,rfl,ep,rfl⟩ ?_;refine h hp1.objs.size [hp1.objs.size] _ ρ1 _ _ (dQ.tup (Nat.ne_of_lt (Heap.lt_size g))) hn0 ?_ rfl (g1.trans (au.push x1 _)) (x1.push _);exact⟨⟨_,Heap.get?_push_size _ rfl,rfl,rfl⟩,vs,ep,Heap.get?_push_of_some _ g,rr.push x1 _⟩
  |ref r=>
   obtain⟨t,rfl,gt⟩:=r1
   replace h2:(match J'[r]? with|some (.list ds w)=>some (ds,some (r,w))|some (.dict es w)=>some (List.map (fun e:List Int×D=>ae e.1) es,some (r,w))|none=>none)=some (ds,src):=h2
   cases h3:J'[r]? with
   |none=>rw[h3] at h2;cases h2
   |some o=>
    rw[h3] at h2
    cases o with
    |list ds2 w0=>
     cases h2;obtain⟨vs,ep,g,rr⟩:=SR.listAt x1 gt h3;refine wpAny_pyIter_list ⟨_,g,rfl,ep,rfl⟩ ?_;refine h hp1.objs.size [hp1.objs.size] _ ρ1 _ _ (dQ.list (Nat.ne_of_lt (Heap.lt_size g))) hn0 ?_ (iw h3) (g1.trans (au.push x1 _)) (x1.push _);exact⟨⟨_,Heap.get?_push_size _ rfl,rfl,rfl⟩,gt,vs,ep,Heap.get?_push_of_some _ g,rr.push x1 _⟩
    |dict es w0=>
     cases h2;obtain⟨xs,⟨o,ens,ep,ho,hc,hd,he,his,hn⟩,hm,hr,kr⟩:=SR.dictAt x1 gt h3;refine t8 (jP a.ok x1 (List.mem_of_getElem? gt)) ho hc.1 hd ?_
     have e1:(es.map fun e=>ae e.1)=(es.map (·.1)).map ae:=(List.map_map (g:=ae)).symm;rw[e1] at h;refine h hp1.objs.size [hp1.objs.size] _ ρ1 _ _ (dQ.keys (ep:=ep) (es:=ens) (Nat.ne_of_lt (Heap.lt_size ho))) hn0 ?_ (iw h3) (g1.trans (au.push x1 _)) (x1.push _);exact⟨⟨_,Heap.get?_push_size _ rfl,rfl,rfl⟩,gt,⟨o,Heap.get?_push_of_some _ ho,hd,hc.1⟩,xs,he,hm,fun y hy=>(kr y hy).push x1 _⟩
  |_=>cases h2
theorem pT {hp1 h':Heap} {ρ1:List Addr} {tk1:Nat} {vs:Array Value} {ep t:Nat} {ds:List D} {src:f9} {J1:St} {cls:String} {elts:List Expr} {q:Nat} {tpos:Pos} {St:Nat->Heap->Prop} {old:Value} {Q:Value->Shared->Prop}
  (h:∀it own S ρ' h' tk',dQ K A (.Tuple elts q tpos) it own src (b8 0 ds) S->(∀b∈own,s.heap.get? b=none/\b∉ρ')->S 0 h' ρ'->aI src J1=true->au ρ J ρ' J1 s.heap h'->K.sr ρ' J1 h'->Q (.ref it) { s with heap:=h',toks:=tk' })
  (g1:au ρ J ρ1 J1 s.heap hp1) (x1:K.sr ρ1 J1 hp1) (hcls:(cls = "tuple"/\src=none)\/∃r v,src=some (r,v)) (D:∀A:Around,A.handled=none->Draws K.prog K.w A hp1.objs.size [hp1.objs.size,t] vs.size (fun i v=>vs[i]?=some v) St)
  (hnt:∀i h,St i h->bm h hp1.objs.size) (g:hp1.get? t=some (seqObj cls vs ep)) (rr:ak K.H₀ hp1 ρ1 vs.toList ds) (gt:∀r v,src=some (r,v)->ρ1[r]?=some t) (so:aI src J1=true)
  (he:IsEnum h' (hp1.objs.size+1) hp1.objs.size 0 old) (st:St 0 h') (hk:∀b o,hp1.get? b=some o->h'.get? b=some o):Q (.ref (hp1.objs.size+1)) { s with heap:=h',toks:=tk1 }:=by
 have hlt:=Heap.lt_size g
 refine h (hp1.objs.size+1) [hp1.objs.size+1,hp1.objs.size] _ ρ1 h' tk1 (dQ.enum hcls D hnt (Nat.succ_ne_self _) (Nat.ne_of_gt (Nat.lt_succ_of_lt hlt)) (Nat.ne_of_gt hlt)) (fun b hb=>?_) ⟨⟨old,he⟩,st,hk _ _ g,gt,rr.grow x1 (au.keeps x1 hk)⟩ so (g1.trans (au.keeps x1 hk)) (x1.keeps hk);have hz:hp1.get? b=none:=gS (by
  rcases List.mem_cons.mp hb with rfl|hb
  ·exact Nat.le_succ _
  ·rw[List.mem_singleton.mp hb];exact Nat.le_refl _)
 exact⟨g1.fresh hz,x1.freshNot hz⟩
theorem eN.dc {target e:Expr} {X:Mine.X} {np pos:Pos} (ht:eW target=true) (hg:c.scope.names.lookup ("enumerate":Str)=some .globalImplicit) (hs:az e=true) (hx:bg K c e X):eN K c target (.Call (.Name ("enumerate":Str) np) [e] [] pos) (.dc X):=
 fun env n A s ρ J l ds src J' Q E a hC he=>by
  obtain⟨elts,q,tpos,rfl⟩:=ub ht
  refine un (fun ds1 J1 h1 h=>?_) (fun r J1 ds1 w0 h1 h3 h=>?_) he
  ·refine iL (T:="enumerate") a hg (by decide) (by decide) (by decide) (by decide +kernel) hs (hx _ _ _ _ _ _ _ _ _ _ _ a hC h1 fun v1 ρ1 hp1 tk1 g1 x1 r1=>?_);obtain⟨t,vs,ep,rfl,g,rr⟩:=r1
   refine oC g fun h' he hit hz hk=>?_
   refine wpAny_pyIter_enum he (pT (s:=s) h g1 x1 (.inl ⟨rfl,rfl⟩) (fun A' hA=>xi hA _ _ (Nat.ne_of_lt (Heap.lt_size g)) vs) (fun i hh st=>?_) g rr (fun r v e=>nomatch e) rfl he ⟨hit,⟨_,hk _ _ g,rfl,ep,rfl⟩⟩ hk);intro ob items n e hc hd;obtain⟨⟨o,e1,hc1,_⟩,_⟩:=st;rw[e1] at e;cases e;rw[hc1] at hc;simp at hc
  ·refine iL (T:="enumerate") a hg (by decide) (by decide) (by decide) (by decide +kernel) hs (hx _ _ _ _ _ _ _ _ _ _ _ a hC h1 fun v1 ρ1 hp1 tk1 g1 x1 r1=>?_);obtain⟨t,rfl,gt⟩:=r1;obtain⟨vs,ep,g,rr⟩:=SR.listAt x1 gt h3
   refine call_enumerate_list ⟨_,g,rfl,ep,rfl⟩ fun h' he hit hz hk=>?_
   refine wpAny_pyIter_enum he (pT (s:=s) h g1 x1 (.inr ⟨_,_,rfl⟩) (fun A' hA=>Draws.list hA _ _ (Nat.ne_of_lt (Heap.lt_size g)) vs) (fun i hh st=>?_) g rr (fun r v e=>by cases e;exact gt) (iw h3) he ⟨hit,⟨_,hk _ _ g,rfl,ep,rfl⟩⟩ hk);intro ob items n e hc hd;obtain⟨⟨o,e1,hc1,_⟩,_⟩:=st;rw[e1] at e;cases e;rw[hc1] at hc;simp at hc
theorem kT {x:Int} (h:x.natAbs<2^22):Builtin.Range.rangeFitsLong x=true:=by
 have h1 : -(2^63:Int)<=x:=by omega
 have h2:x<(2^63:Int):=by omega
 exact Bool.and_eq_true_iff.mpr ⟨decide_eq_true h1,decide_eq_true h2⟩
theorem kc {a b:Int} (ha:a.natAbs<ay) (hb:b.natAbs<ay):Builtin.Range.small a b 1=true:=by
 have e:Builtin.Range.rangeSize a b 1=((b-a).toNat:Int):=by rw[PyProof.Rows.rangeSize_nat]
 have ha':a.natAbs<2^22:=Nat.lt_trans ha (Nat.le_of_ble_eq_true rfl);have hb':b.natAbs<2^22:=Nat.lt_trans hb (Nat.le_of_ble_eq_true rfl);have hc:(((b-a).toNat:Int)).natAbs<2^22:=by
  have h1:(b-a).natAbs<=b.natAbs+a.natAbs:=Int.natAbs_sub_le _ _;have h2:(((b-a).toNat:Int)).natAbs<=(b-a).natAbs:=by
   cases b-a with
   |ofNat n=>exact Nat.le_refl _
   |negSucc n=>exact Nat.zero_le _
  have ha:a.natAbs<2^20:=ha;have hb:b.natAbs<2^20:=hb;omega
 unfold Builtin.Range.small;rw[e,kT ha',kT hb',kT hc,if_pos (by decide),show b+(1-1)=b from Int.add_zero b,kT hb',Bool.or_true];rfl
theorem eN.range2 {target x y:Expr} {X Y:Mine.X} {np pos:Pos} (hg:c.scope.names.lookup ("range":Str)=some .globalImplicit) (hs:az x=true) (hs':az y=true) (hx:bg K c x X) (hy:bg K c y Y):eN K c target (.Call (.Name ("range":Str) np) [x,y] [] pos) (.cD X Y):=
 fun env n A s ρ J l ds src J' Q E a hC he=>by
     refine lH (fun i1 J1 i2 J2 h1 h2 hlim h=>?_) he;refine wpAny_Call_NameR (hY a hg (by decide) (by decide) (by decide) (v:=.type "range") (by decide +kernel) ?_);rw[show backTo pos (starEach [x,y] env)=[(false,eval x env),(false,eval y env)] by rw[aC hs,aC hs'];rfl]
     refine PyProof.Rows.callWith_type rfl (Calls.evalArgs_plain (Calls.spliced_cons (hx _ _ _ _ _ _ _ _ _ _ _ a hC h1 fun v1 ρ1 hp1 tk1 g1 x1 r1=>?_)))
     refine Calls.spliced_cons (hy _ _ _ _ _ _ _ _ _ _ _ (a.grow g1 x1 tk1) hC h2 fun v2 ρ2 hp2 tk2 g2 x2 r2=>?_);refine Calls.spliced_nil ?_;obtain⟨t,rfl⟩:=r1;obtain⟨u,rfl⟩:=r2;refine call_range_2 ?_;refine wpAny_pyIter_range (Heap.get?_push_size _ rfl) (kc hlim.1 hlim.2) ?_;have xa:=x2.push { cls:=.type "range",data:=.fields #[.int i1 t,.int i2 u,.int 1 tk2] };have ga:=au.push x2 { cls:=.type "range",data:=.fields #[.int i1 t,.int i2 u,.int 1 tk2] };have gall:=(g1.trans g2).trans ga
     refine h _ [_] _ ρ2 _ _ dQ.range (fun b hb=>by rw[List.mem_singleton.mp hb];exact⟨gall.fresh (aO _),xa.sizeNot⟩) ?_ rfl (gall.trans (au.push xa _)) (xa.push _);show IsRangeIter (Heap.push _ _) _ (i1+((0:Nat):Int)) _ 1;have e1:i1+((0:Nat):Int)=i1:=by simp
     have e2:((i2-i1).toNat:Int)-((0:Nat):Int)=Builtin.Range.rangeSize i1 i2 1:=by rw[PyProof.Rows.rangeSize_nat];simp
     rw[e1,e2];exact Heap.get?_push_size _ rfl
theorem eN.range1 {target y:Expr} {Y:Mine.X} {np pos:Pos} (hg:c.scope.names.lookup ("range":Str)=some .globalImplicit) (hs':az y=true) (hy:bg K c y Y):eN K c target (.Call (.Name ("range":Str) np) [y] [] pos) (.cD (.lit (.int 0)) Y):=
 fun env n A s ρ J l ds src J' Q E a hC he=>by
    refine lH (fun i1 J1 i2 J2 h1 h2 hlim h=>?_) he
    cases h1
    refine iL (T:="range") a hg (by decide) (by decide) (by decide) (by decide +kernel) hs' (hy _ _ _ _ _ _ _ _ _ _ _ a hC h2 fun v2 ρ2 hp2 tk2 g2 x2 r2=>?_);obtain⟨u,rfl⟩:=r2;refine call_range_1 ?_;refine wpAny_pyIter_range (Heap.get?_push_size _ rfl) (kc hlim.1 hlim.2) ?_;have xa:=x2.push { cls:=.type "range",data:=.fields #[.int 0 tk2,.int i2 u,.int 1 (tk2+1)] };have ga:=au.push x2 { cls:=.type "range",data:=.fields #[.int 0 tk2,.int i2 u,.int 1 (tk2+1)] };have gall:=g2.trans ga
    refine h _ [_] _ ρ2 _ _ dQ.range (fun b hb=>by rw[List.mem_singleton.mp hb];exact⟨gall.fresh (aO _),xa.sizeNot⟩) ?_ rfl (gall.trans (au.push xa _)) (xa.push _);show IsRangeIter (Heap.push _ _) _ (0+((0:Nat):Int)) _ 1;have e2:((i2-0).toNat:Int)-((0:Nat):Int)=Builtin.Range.rangeSize 0 i2 1:=by rw[PyProof.Rows.rangeSize_nat];simp
    rw[e2];exact Heap.get?_push_size _ rfl
end
section
variable (K:dj)
noncomputable def Cz (h:Heap) (ρ:List Addr) (f:Flow):Fl->Prop
 | .next=>f = .next
 | .cont=>f = .cont
 | .ret d=>∃v,f = .ret v/\K.rep h ρ v d
noncomputable abbrev kF (c:bV) (env:Env) (ρ:List Addr) (J J':St) (l':aB) (fl:Fl) (s:Shared) (Q:Flow->Shared->Prop):Prop:=
 ∀f ρ' h' tk',bE (frame c env) ρ J ρ' J' s.heap h'->K.sr ρ' J' h'->df K c env h' ρ' l'->Cz K h' ρ' f fl->Q f { s with heap:=h',toks:=tk' }
noncomputable def bB (c:bV) (st:Stmt) (x:XS):Prop:=
 ∀env n A s ρ J l fl l' J' (Q:Flow->Shared->Prop) (E:Value->Shared->Prop),At K c env n A s ρ J l->bW K n->aP (K.C n) K.W x l J=some (fl,l',J')->kF K c env ρ J J' l' fl s Q->wpAny K.M A (exec st env) Q E s
noncomputable def fo (c:bV) (sts:List Stmt) (x:XS):Prop:=
 ∀env n A s ρ J l fl l' J' (Q:Flow->Shared->Prop) (E:Value->Shared->Prop),At K c env n A s ρ J l->bW K n->aP (K.C n) K.W x l J=some (fl,l',J')->kF K c env ρ J J' l' fl s Q->wpAny K.M A (execs sts env) Q E s
end
section
variable {K:dj} {c:bV} {env:Env} {n:Nat} {A:Around} {s:Shared} {ρ:List Addr} {J:St} {l:aB}
theorem At.step {ρ':List Addr} {J₁:St} {l1:aB} {h1:Heap} (a:At K c env n A s ρ J l) (x:K.sr ρ' J₁ h1) (v:df K c env h1 ρ' l1) (tk:Nat):At K c env n A { s with heap:=h1,toks:=tk } ρ' J₁ l1:=⟨a.ok,a.ev,a.room,x,v⟩
theorem kF.step {ρ1:List Addr} {J₁ J':St} {l':aB} {fl:Fl} {h1:Heap} {tk:Nat} {Q:Flow->Shared->Prop} (p:kF K c env ρ J J' l' fl s Q) (g:bE (frame c env) ρ J ρ1 J₁ s.heap h1):kF K c env ρ1 J₁ J' l' fl { s with heap:=h1,toks:=tk } Q:=
 fun f ρ' h' tk' g' x v r=>p f ρ' h' tk' (g.trans g') x v r
theorem cX {h':Heap} (ev:fk c env) (x:K.sr ρ J s.heap) (v:df K c env s.heap ρ l) (b:eE (frame c env) s.heap h') (lv:∀a∈frame c env,∃o,h'.get? a=some o):bE (frame c env) ρ J ρ J s.heap h':=
 bE.otherL (bE.refl _ _ _ _) (SR.liveAll x) (fun a ha=>⟨.inr ha,(v.frameOk ev x a ha).1⟩) (fun a ha _=>lv a ha) b
theorem bB.fail (st:Stmt):bB K c st .fail:=fun _ _ _ _ _ _ _ _ _ _ _ _ _ _ (he:none=some _)=>nomatch he
theorem fo.nil:fo K c [] .nil:=fun env n A s ρ J l fl l' J' Q E a hC he=>by
 refine zh (fun p=>?_) he;exact wpAny_execs_nil (p .next ρ s.heap s.toks (bE.refl _ _ _ _) a.sr a.vars rfl)
theorem fo.one {st:Stmt} {x:XS} (h:bB K c st x):fo K c [st] x:=fun env n A s ρ J l fl l' J' Q E a hC he p=>by
 refine wpAny_execs_cons (h _ _ _ _ _ _ _ _ _ _ _ _ a hC he fun f ρ' h' tk' g x' v r=>?_);have:=p f ρ' h' tk' g x' v r
 cases f<;>first|exact wpAny_execs_nil this|exact this
theorem fo.cons {st:Stmt} {r:List Stmt} {x y:XS} (h:bB K c st x) (hr:fo K c r y):fo K c (st::r) (.seq x y):=fun env n A s ρ J l fl l' J' Q E a hC he p=>by
 refine ze (fun l1 J1 h1 h2=>?_) (fun h1 hne=>?_) he
 ·refine wpAny_execs_cons (h _ _ _ _ _ _ _ _ _ _ _ _ a hC h1 fun f ρ1 hp1 tk1 g1 x1 v1 r1=>?_)
  cases (show f = .next from r1);exact hr env n A { s with heap:=hp1,toks:=tk1 } ρ1 J1 l1 fl l' J' Q E (a.step x1 v1 tk1) hC h2 (kF.step p g1)
 ·refine wpAny_execs_cons (h _ _ _ _ _ _ _ _ _ _ _ _ a hC h1 fun f ρ1 hp1 tk1 g1 x1 v1 r1=>?_);have:=p f ρ1 hp1 tk1 g1 x1 v1 r1
  cases fl with
  |next=>exact absurd rfl hne
  |cont=>cases (show f = .cont from r1);exact this
  |ret d=>obtain⟨u,rfl,_⟩:=r1;exact this
theorem bB.ret {e:Expr} {X:Mine.X} {pos:Pos} (hx:bg K c e X):bB K c (.Return (some e) pos) (.ret X):=fun env n A s ρ J l fl l' J' Q E a hC he=>by
 refine zf (fun d J1 h1 p=>?_) he
 exact wpAny_Return_some (hx _ _ _ _ _ _ _ _ _ _ _ a hC h1 fun v1 ρ1 hp1 tk1 g1 x1 r1=>p (.ret v1) ρ1 hp1 tk1 (.of g1) x1 (a.vars.grow a.sr g1) ⟨v1,rfl,r1⟩)
theorem bB.cont {pos:Pos}:bB K c (.Continue pos) .cont:=fun env n A s ρ J l fl l' J' Q E a hC he=>by
 refine wF (fun p=>?_) he;exact wpAny_Continue (p .cont ρ s.heap s.toks (bE.refl _ _ _ _) a.sr a.vars rfl)
theorem bB.ifs {e:Expr} {X:Mine.X} {b1 b2:List Stmt} {x y:XS} {pos:Pos} (hx:md K c e X) (h1:fo K c b1 x) (h2:fo K c b2 y):bB K c (.If e b1 b2 pos) (.ifs X x y):=fun env n A s ρ J l fl l' J' Q E a hC he p=>by
 refine zm (fun d b J1 q1 q2 he=>?_) he
 refine wpAny_If (hx _ _ _ _ _ _ _ _ _ _ _ _ a hC q1 q2 fun ρ1 hp1 tk1 g1 x1=>?_)
 cases b with
 |true=>exact h1 _ _ _ _ _ _ _ _ _ _ _ _ (a.grow g1 x1 tk1) hC he (kF.step p (.of g1))
 |false=>exact h2 _ _ _ _ _ _ _ _ _ _ _ _ (a.grow g1 x1 tk1) hC he (kF.step p (.of g1))
inductive rZ (K:dj) (c:bV) (env:Env) (n:Nat) (X:Mine.X) (x:XS) (s:Shared) (ρ:List Addr) (J:St) (fl:Fl) (l':aB) (J':St):Nat->Shared->Prop
 |mk {m:Nat} {ρ1:List Addr} {J1:St} {l1:aB} {h1:Heap} (tk1:Nat) (g1:bE (frame c env) ρ J ρ1 J1 s.heap h1) (x1:K.sr ρ1 J1 h1) (v1:df K c env h1 ρ1 l1) (hw:cr (iV (K.C n) X) (aP (K.C n) K.W x) m l1 J1=some (fl,l',J')) :
  rZ K c env n X x s ρ J fl l' J' m { s with heap:=h1,toks:=tk1 }
theorem bB.whl {e:Expr} {X:Mine.X} {b:List Stmt} {x:XS} {pos:Pos} (hx:md K c e X) (hb:fo K c b x):bB K c (.While e b [] pos) (.whl X x):=fun env n A s ρ J l fl l' J' Q E a hC he p=>by
 refine wpAny_While ?_
 refine codeAny_whileLoop (env:=env) (rZ K c env n X x s ρ J fl l' J') (fun m s' i=>?_) K.W (.mk s.toks (bE.refl _ _ _ _) a.sr a.vars he)
 cases i with
 | @mk ρ1 J1 l1 h1 tk1 g1 x1 v1 hw=>
 cases m with
 |zero=>cases hw
 |succ m=>
  have a1:=a.step x1 v1 tk1
  refine ue (fun J2 q p=>?_) (fun J2 r l2 J4 q q3 p=>?_) (fun J2 f2 l2 J4 q q3 hnr hw p=>?_) hw p
  ·refine jm (fun d q1 q2=>?_) q
   refine hx _ _ _ _ _ _ _ _ _ _ _ _ a1 hC q1 q2 fun ρ2 hp2 tk2 g2 x2=>?_;exact wpAny_execs_nil (p .next ρ2 hp2 tk2 (g1.trans (.of g2)) x2 (v1.grow x1 g2) rfl)
  ·refine jm (fun d q1 q2=>?_) q
   refine hx _ _ _ _ _ _ _ _ _ _ _ _ a1 hC q1 q2 fun ρ2 hp2 tk2 g2 x2=>?_
   refine hb _ _ _ _ _ _ _ _ _ _ _ _ (a1.grow g2 x2 tk2) hC q3 fun f ρ3 hp3 tk3 g3 x3 v3 r3=>?_;have:=p f ρ3 hp3 tk3 ((g1.trans (.of g2)).trans g3) x3 v3 r3;obtain⟨u,rfl,_⟩:=r3;exact this
  ·refine jm (fun d q1 q2=>?_) q
   refine hx _ _ _ _ _ _ _ _ _ _ _ _ a1 hC q1 q2 fun ρ2 hp2 tk2 g2 x2=>?_
   refine hb _ _ _ _ _ _ _ _ _ _ _ _ (a1.grow g2 x2 tk2) hC q3 fun f ρ3 hp3 tk3 g3 x3 v3 r3=>?_;have next:∃m',m'<m+1/\rZ K c env n X x s ρ J fl l' J' m' { s with heap:=hp3,toks:=tk3 }:=⟨m,Nat.lt_succ_self _,.mk tk3 ((g1.trans (.of g2)).trans g3) x3 v3 hw⟩
   cases f2 with
   |next=>cases (show f = .next from r3);exact next
   |cont=>cases (show f = .cont from r3);exact next
   |ret d=>exact absurd rfl (hnr d)
end
noncomputable def gn (e:Expr):Bool:=Nat.beq e.ctorIdx 8 || (Nat.beq e.ctorIdx 9 || Nat.beq e.ctorIdx 10)
theorem fq {e:Expr} (h:gn e=false) (t:Option Expr) (ln:Nat) (env:Env):swapsWith e t ln env=pure false:=by
 cases e<;>first|rfl|exact(Bool.false_ne_true h.symm).elim
section
variable {K:dj} {c:bV} {env:Env} {n:Nat} {A:Around} {s:Shared} {ρ:List Addr} {J:St} {l:aB}
theorem i5 {x:Str} {i:Nat} {v:Value} {d:D} {Q:Unit->Shared->Prop} {E:Value->Shared->Prop} (ev:fk c env) (xr:K.sr ρ J s.heap) (vs:df K c env s.heap ρ l) (ok:c.ok=true) (hs:fI c (x,i)=true) (r:K.rep s.heap ρ v d)
  (h:∀h' tk,bE (frame c env) ρ J ρ J s.heap h'->K.sr ρ J h'->df K c env h' ρ (l.set i (some d))->cg s.heap h'->Q () { s with heap:=h',toks:=tk }):wpAny K.M A (storeName env x v) Q E s:=by
 obtain⟨hm,hk⟩:=i6 hs
 exact gF ev xr vs ok hm hk r fun h' tk b lv x' v' t'=>h h' tk (cX ev xr vs b lv) x' v' t'
theorem bB.asg {x:Str} {i:Nat} {e:Expr} {X:Mine.X} {np pos:Pos} (hx:bg K c e X) (ok:c.ok=true) (hs:fI c (x,i)=true) (hc:gn e=false):bB K c (.Assign [.Name x np] e pos) (.asg i X):=fun env n A s ρ J l fl l' J' Q E a hC he=>by
 refine s5 (fun d J1 h1 p=>?_) he
 refine wpAny_Assign_Name (hx _ _ _ _ _ _ _ _ _ _ _ a hC h1 fun v1 ρ1 hp1 tk1 g1 x1 r1=>?_) (fq hc _ _ _)
 exact i5 a.ev x1 (a.vars.grow a.sr g1) ok hs r1 fun h' tk g x' v' _=>p .next ρ1 h' tk ((bE.of g1).trans g) x' v' rfl
theorem bB.expr {e:Expr} {X:Mine.X} {pos:Pos} (hx:bg K c e X) (hc:gn e=false):bB K c (.Expr e pos) (.expr X):=fun env n A s ρ J l fl l' J' Q E a hC he=>by
 refine wD (fun d J1 h1 p=>?_) he
 refine wpAny_Expr_any (hx _ _ _ _ _ _ _ _ _ _ _ a hC h1 fun v1 ρ1 hp1 tk1 g1 x1 r1=>?_) (by unfold interactive;rw[a.ev.kind];rfl) (fq hc _ _ _);exact p .next ρ1 hp1 tk1 (.of g1) x1 (a.vars.grow a.sr g1) rfl
theorem yF {P:Prop} {o i d:D} {J':St} (k1:∀r k ds w,o = .ref r->i = .int k->J[r]?=some (.list ds w)->0<=k/\k<(ay:Int)/\k.toNat<ds.length->J.set r (.list (ds.set k.toNat d) (w+1))=J'->P)
  (k2:∀r ks es w k,o = .ref r->i = .tup ks->J[r]?=some (.dict es w)->aG ks=some k->es.length<ay->J.set r (.dict (bZ es k d) (w+1))=J'->P) (e:ic J o i d=some J'):P:=by
 cases o with
 |ref r=>
  cases i with
  |int k=>exact ew (fun ds w hr=>ch fun hk e=>k1 r k ds w rfl rfl hr hk (Option.some.inj e)) e
  |tup ks=>exact tP (fun es w k hr hk=>ch fun hl e=>k2 r ks es w k rfl rfl hr hk hl (Option.some.inj e)) e
  |_=>exact dR e
 |_=>exact dR e
theorem sO {vo vi v:Value} {o i d:D} {J':St} {Q:Unit->Shared->Prop} {E:Value->Shared->Prop} (hu:A.units+40<cLine) (x:K.sr ρ J s.heap) (ro:K.rep s.heap ρ vo o) (ri:K.rep s.heap ρ vi i) (rv:K.rep s.heap ρ v d)
  (e:ic J o i d=some J') (h:∀h' tk,au ρ J ρ J' s.heap h'->K.sr ρ J' h'->Q () { s with heap:=h',toks:=tk }):wpAny K.M A (setItem vo vi v) Q E s:=by
 refine yF (fun r k ds w0 q1 q2 hr hk q3=>?_) (fun r ks es w0 k q1 q2 hr hk hlim q3=>?_) e
 ·subst q1;subst q2;subst q3;obtain⟨t,rfl,g⟩:=ro;obtain⟨u,rfl⟩:=ri;obtain⟨vs,ep,gl,rr⟩:=SR.listAt x g hr;have hsz:vs.size=ds.length:=rr.size;refine ki_setAt gl hk.1 (sd hk.2.1) (by rw[hsz];exists L31,0x20700301110201100360010750001146782010000700360001146836,hk,(ft (k))) ?_;obtain⟨u1,u2⟩:=iW x g hr gl (fun x=>x.setIfInBounds k.toNat v) (es:=ds.set k.toNat d) (by
   rw[Array.toList_setIfInBounds];exact rr.set _ rv)
  exact h _ s.toks u1 u2
 ·subst q1;subst q2;subst q3;obtain⟨t,rfl,g⟩:=ro;obtain⟨u,ws,ep,rfl,g',r'⟩:=ri;have dx:=SR.dictAt x g hr
  refine qr (by exists L20,0x1011100201028210020824,hu) dx (gW ⟨u,ws,ep,rfl,g',r'⟩ hk) rv hlim fun h' tk hs dx'=>?_;obtain⟨u1,u2⟩:=kN x g hr hs dx';exact h h' tk u1 u2
theorem bB.set {o k e:Expr} {O I X:Mine.X} {tp pos:Pos} (ho:bg K c o O) (hk:bg K c k I) (hx:bg K c e X) (hc:gn e=false):bB K c (.Assign [.Subscript o k tp] e pos) (.set O I X):=fun env n A s ρ J l fl l' J' Q E a hC he=>by
 refine zd (fun xd J1 od J2 kd J3 J4 h1 h2 h3 h4 p=>?_) he
 refine wpAny_Assign_Subscript (hx _ _ _ _ _ _ _ _ _ _ _ a hC h1 fun v1 ρ1 hp1 tk1 g1 x1 r1=>?_) (fq hc _ _ _)
 refine ho _ _ _ _ _ _ _ _ _ _ _ (a.grow g1 x1 tk1) hC h2 fun v2 ρ2 hp2 tk2 g2 x2 r2=>?_
 refine hk _ _ _ _ _ _ _ _ _ _ _ (a.grow (g1.trans g2) x2 tk2) hC h3 fun v3 ρ3 hp3 tk3 g3 x3 r3=>?_
 refine sO a.room.u x3 (r2.grow x2 g3) r3 ((r1.grow x1 g2).grow x2 g3) h4 fun h' tk g4 x4=>?_;have gall:=((g1.trans g2).trans g3).trans g4;exact p .next ρ3 h' tk (.of gall) x4 (a.vars.grow a.sr gall) rfl
theorem bB.aug {o k e:Expr} {O I X:Mine.X} {tp pos:Pos} (ho:bg K c o O) (hk:bg K c k I) (hx:bg K c e X) (hsl:jh k=false):bB K c (.AugAssign (.Subscript o k tp) .Add e pos) (.aug O I .add X):=fun env n A s ρ J l fl l' J' Q E a hC he=>by
 refine zu (fun od J1 kd J2 old y J3 rd J4 J5 h1 h2 h3 h4 hb h5 p=>?_) he
 cases hb
 refine wpAny_AugAssign_SubscriptAny (ho _ _ _ _ _ _ _ _ _ _ _ a hC h1 fun v1 ρ1 hp1 tk1 g1 x1 r1=>?_) (fun ov iv new=>by cases k<;>first|rfl|exact(Bool.false_ne_true hsl.symm).elim)
 refine hk _ _ _ _ _ _ _ _ _ _ _ (a.grow g1 x1 tk1) hC h2 fun v2 ρ2 hp2 tk2 g2 x2 r2=>?_;refine(wI (A:=A) (s:={ s with heap:=hp2,toks:=tk2 }) a.ok x2 a.room.u (r1.grow x1 g2) r2 h3 fun v tk rv=>?_).1;obtain⟨t,rfl⟩:=rv
 refine hx _ _ _ _ _ _ _ _ _ _ _ (a.grow (g1.trans g2) x2 tk) hC h4 fun v3 ρ3 hp3 tk3 g3 x3 r3=>?_;obtain⟨u,rfl⟩:=r3;refine P.iadd_int ?_
 refine sO (d:=D.int (old+y)) a.room.u x3 ((r1.grow x1 g2).grow x2 g3) (r2.grow x2 g3) ⟨_,rfl⟩ h5 fun h' tk' g4 x4=>?_;have gall:=((g1.trans g2).trans g3).trans g4;exact p .next ρ3 h' tk' (.of gall) x4 (a.vars.grow a.sr gall) rfl
noncomputable def k7:Expr->Bool
 | .Tuple vs _ _=>!(vs.all (constantsAlone 8)) || vs.all (foldedForSure 8)
 |_=>true
theorem kK (f:Expr->Option Str) (hf:∀e x,f e=some x->nL e=some x):∀ts:List Expr,(ts.filterMap f).length=ts.length->eH ts=some (ts.filterMap f):=by
 intro A0;induction A0 with
 |nil=>
  intro _;exact rfl
 |cons t ts ih=>
  intro h
  cases e:f t with
  |none=>
   rw[List.filterMap_cons_none e] at h;have:=List.length_filterMap_le f ts;simp at h;omega
  |some x=>
   rw[List.filterMap_cons_some e] at h ⊢;have:=ih (by simpa using h);exact Option.bind_eq_some_iff.mpr ⟨x,hf t x e,Option.map_eq_some_iff.mpr ⟨_,this,rfl⟩⟩
noncomputable def An (ts:List Expr) (t:Sem (Option (List Str))):Prop:=t=pure none\/∃names,eH ts=some names/\t=pure (some names)
theorem An.ite {ts:List Expr} {c:Prop} [Decidable c] {t:Sem (Option (List Str))} (h:¬c->An ts t):An ts (if c then pure none else t):=by
 by_cases hc:c
 ·rw[if_pos hc];exact .inl rfl
 ·rw[if_neg hc];exact h hc
theorem mh {ts:List Expr} {q:Nat} {tp:Pos} {value:Expr} (hv:k7 value=true) (env:Env):An ts (swappedStores [.Tuple ts q tp] value env):=by
 cases value with
 |Tuple vs q' vp=>
  refine An.ite fun _=>An.ite fun _=>An.ite fun hnl=>An.ite fun hf=>?_;rw[if_neg fun hc=>(Bool.or_eq_true_iff.mp hv).elim (fun hv=>by rw[hc] at hv;cases hv) hf]
  refine .inr ⟨_,kK _ (fun e x h=>?_) ts ?_,rfl⟩
  ·cases e with
   |Name y pos=>exact ch (fun _ q=>q) h
   |_=>exact dR h
  ·simp only[Bool.or_eq_true,bne_iff_ne,ne_eq,not_or,Decidable.not_not] at hnl;exact hnl.1
 |_=>exact .inl rfl
end
section
variable {K:dj} {c:bV} {env:Env} {n:Nat} {A:Around} {s:Shared} {ρ:List Addr} {J:St} {l:aB}
theorem mi {E:Value->Shared->Prop} (ev:fk c env) (ok:c.ok=true):∀(xs:List Str) (ts:List Nat) (vs:List Value) (ds:List D) (s:Shared) (l l':aB) (Q:Unit->Shared->Prop),K.sr ρ J s.heap->df K c env s.heap ρ l->xs.length=ts.length->(xs.zip ts).all (fI c)=true->
  ak K.H₀ s.heap ρ vs ds->ds.length=ts.length->l'=(ts.zip ds).foldl (fun l p=>l.set p.1 (some p.2)) l->nz K c env ρ J l' s Q->
  wpAny K.M A (assignInOrder (xs.map fun x=>bindName env x) vs) Q E s:=by
 intro A0;induction A0 with
 |nil=>
  intro ts vs ds s l l' Q x v hl hs r hd e p;have ht:ts=[]:=List.length_eq_zero_iff.mp hl.symm;subst ht;subst e;refine PyProof.Rows.assignInOrder_nil ?_
  exact p s.heap s.toks (fun _ _ _ e=>e) (fun a ha=>(v.frameOk ev x a ha).2.2.2) x v fun _ _ _ e=>e
 |cons y ys ih=>
  intro ts vs ds s l l' Q x v hl hs r hd e p
  cases ts with
  |nil=>cases hl
  |cons t ts=>cases ds with
   |nil=>cases hd
   |cons d ds=>cases vs with
    |nil=>exact r.elim
    |cons v1 vs=>
     obtain⟨hs1,hs⟩:=Bool.and_eq_true_iff.mp hs;obtain⟨hm,hk⟩:=i6 hs1;refine PyProof.Rows.assignInOrder_cons ?_
     refine wpAny_bindName (gF ev x v ok hm hk r.1 fun h' tk b lv x' v' t'=>?_)
     exact ih ts vs ds { s with heap:=h',toks:=tk } (l.set t (some d)) l' Q x' v' (Nat.succ.inj hl) hs (ak.mono t' (fun _ _ e=>e) _ r.2) (Nat.succ.inj hd) e (p.step b t')
theorem sg {α β:Type} {xs:List α}:∀{ys:List β},xs.length=ys.length->xs.reverse.zip ys.reverse=(xs.zip ys).reverse:=by
 induction xs with
 |nil=>exact fun _=>rfl
 |cons x xs ih=>
  intro ys h
  cases ys with
  |nil=>cases h
  |cons y ys=>
   replace h:=Nat.succ.inj h;rw[List.reverse_cons,List.reverse_cons,List.zip_cons_cons,List.reverse_cons,List.zip_append (by rw[List.length_reverse,List.length_reverse];exact h),ih h];rfl
theorem pd {α β:Type} {xs:List α}:∀{ys:List β},xs.length=ys.length->(xs.zip ys).map (·.1)=xs:=by
 induction xs with
 |nil=>exact fun _=>rfl
 |cons x xs ih=>
  intro ys h
  cases ys with
  |nil=>cases h
  |cons y ys=>exact congrArg (List.cons x) (ih (Nat.succ.inj h))
theorem bB.eM {es:List Expr} {q:Nat} {tp:Pos} {e:Expr} {X:Mine.X} {is:List Nat} {pos:Pos} (hx:bg K c e X) (ok:c.ok=true) (ht:eu c (.Tuple es q tp) is true=true) (hn:is.Nodup) (hc:gn e=false) (hsw:k7 e=true):bB K c (.Assign [.Tuple es q tp] e pos) (.eM is X):=fun env n A s ρ J l fl l' J' Q E a hC he=>by
   refine wH (fun d J1 l1 h1 hb p=>?_) he;have hs0:swapsWithSole [.Tuple es q tp] e pos.line env=pure false:=fq hc (some (.Tuple es q tp)) pos.line env;rcases mh (ts:=es) (q:=q) (tp:=tp) hsw env with hw | ⟨names,hnm,hw⟩
   ·refine wpAny_Assign_stores (hx _ _ _ _ _ _ _ _ _ _ _ a hC h1 fun v1 ρ1 hp1 tk1 g1 x1 r1=>?_) hs0 hw;show wpAny K.M A (assign (.Tuple es q tp) env v1) _ _ _;have a1:=a.grow g1 x1 tk1
    exact hZ a.room.handled a.ev ok x1 a1.vars ht r1 hb fun h' tk b lv x' v' _=>p .next ρ1 h' tk ((bE.of g1).trans (cX (s:={ s with heap:=hp1,toks:=tk1 }) a.ev x1 a1.vars b lv)) x' v' rfl
   ·rw[exec_Assign_arm];refine wpAny_bind (wpAny_standAt ?_);rw[hs0];refine wpAny_bind (wpAny_pure ?_);rw[if_neg (by decide)]
    refine wpAny_bind (hx _ _ _ _ _ _ _ _ _ _ _ a hC h1 fun v1 ρ1 hp1 tk1 g1 x1 r1=>?_);rw[hw];refine wpAny_bind (wpAny_pure ?_);have a1:=a.grow g1 x1 tk1
    replace ht:(match (eH es).map fun xs=>(xs,true) with|some (xs,m)=>m==true&&decide (xs.length=is.length)&&(xs.zip is).all (fI c)|none=>false)=true:=ht;rw[hnm] at ht;obtain⟨h12,hall⟩:=Bool.and_eq_true_iff.mp ht;have hl:=of_decide_eq_true (Bool.and_eq_true_iff.mp h12).2
    cases d with
    |tup ds=>
     refine ch (fun hdl e=>?_) hb
     cases e;obtain⟨t,ws,ep,rfl,g,rr⟩:=r1;have hw2:ws.size=names.length:=by
      have:=rr.length;simp at this;exists L40,0x30220302810202810002848,hl,hdl,this
     show wpAny K.M A (rule "assign.swapped-stores" >>= fun _=>unpackItems (.ref t) names.length none >>= fun items=>assignInOrder (names.reverse.map fun n=>bindName env n) items.reverse >>= fun _=>(pure Flow.next:Sem Flow)) _ _ _;refine wpAny_bind (wpAny_rule ?_);rw[<-hw2]
     refine wpAny_bind (wpAny_unpackItems_tuple a.room.handled ⟨_,g,rfl,ep,rfl⟩ fun h' hee=>?_)
     have keep:∀b o,hp1.get? b=some o->h'.get? b=some o:=fun b o e=>hee b o (Nat.ne_of_lt (Heap.lt_size e)) e;have x':=x1.keeps keep;have gk:=au.keeps x1 keep;have v':df K c env h' ρ1 l:=a1.vars.grow x1 gk;have hzl:(is.zip ds).map (·.1)=is:=pd (by exact(hdl).symm);refine wpAny_bind (mi a.ev ok names.reverse is.reverse ws.toList.reverse ds.reverse { s with heap:=h',toks:=tk1 } l _ _ x' v' (by simp[hl]) (by rw[sg hl,List.all_reverse];exact hall) ((rr.grow x1 gk).rev) (by simp[hdl])
      (by rw[sg (by exact(hdl).symm),uy _ _ (by rw[hzl];exact hn)]) fun h2 tk2 b lv x2 v2 _=>?_)
     exact wpAny_pure (p .next ρ1 h2 tk2 ((bE.of (g1.trans gk)).trans (cX (s:={ s with heap:=h',toks:=tk1 }) a.ev x' v' b lv)) x2 v2 rfl)
    |_=>exact dR hb
theorem df.otherL {h h':Heap} {L:List Addr} (v:df K c env h ρ l) (hs:eE L h h') (hL:env.locals∉L) (hc:∀p∈c.vars,∀b,env.cells.lookup p.1=some b->(env.kindOf p.1=some .cell\/env.kindOf p.1=some .free)->b∉L) (hn:∀a∈L,bm h a):df K c env h' ρ l where
 ns:=let ⟨m,o,es,ep,e,r⟩:=v.ns;⟨m,o,es,ep,hs _ _ hL e,r⟩
 apart:=v.apart
 inj:=v.inj
 base:=v.base
 rest:=v.rest
 at_:=fun p hp=>by
  have tk:=cz hs hn;rcases v.at_ p hp with⟨q1,m0,⟨o,es,ep,e,r⟩,q3⟩ | ⟨q1,b,ov',q2,⟨o,e,dd⟩,q4⟩
  ·exact .inl ⟨q1,m0,⟨o,es,ep,hs _ _ hL e,r⟩,fun d' hd'=>let ⟨u,e1,e2⟩:=q3 d' hd';⟨u,e1,cj.mono tk (fun _ _ e=>e) _ e2⟩⟩
  ·exact .inr ⟨q1,b,ov',q2,⟨o,hs _ _ (hc p hp b q2 q1) e,dd⟩,fun d' hd'=>let ⟨u,e1,e2⟩:=q4 d' hd';⟨u,e1,cj.mono tk (fun _ _ e=>e) _ e2⟩⟩
theorem df.cellsLive {h:Heap} (v:df K c env h ρ l):∀p∈c.vars,∀b,env.cells.lookup p.1=some b->(env.kindOf p.1=some .cell\/env.kindOf p.1=some .free)->∃o,h.get? b=some o:=fun p hp b hb hk=>by
 rcases v.at_ p hp with⟨q1,_⟩ | ⟨_,b',ov',q2,⟨o,e,dd⟩,_⟩
 ·rcases hk with hk|hk<;>rw[q1] at hk<;>cases hk
 ·rw[hb] at q2;cases q2;exact⟨o,e⟩
theorem pU {α:Type} {ds:List α} {i:Nat} {d:α} {r:List α} (h:ds.drop i=d::r):ds[i]?=some d/\ds.drop (i+1)=r:=by
 have h1:(ds.drop i)[0]?=some d:=by rw[h];rfl
 rw[List.getElem?_drop] at h1;refine⟨by simpa using h1,?_⟩;rw[<-List.drop_drop,h];rfl
theorem mC {src:f9} {J J':St} {r v:Nat} (e:src=some (r,v)) (h:aI src J=true) (h':aI src J'=true):∃o o',J[r]?=some o/\J'[r]?=some o'/\o.ver=o'.ver:=by
 subst e
 have one:∀{J:St},aI (some (r,v)) J=true->∃o,J[r]?=some o/\o.ver=v:=fun {J} h=>by
  replace h:(match J[r]? with|some p=>Nat.beq p.ver v|none=>false)=true:=h
  cases e:J[r]? with
  |none=>rw[e] at h;cases h
  |some o=>rw[e] at h;exact⟨o,rfl,Nat.eq_of_beq_eq_true h⟩
 obtain⟨o,e,q⟩:=one h;obtain⟨o',e',q'⟩:=one h';exact⟨o,o',e,e',q.trans q'.symm⟩
inductive se (K:dj) (c:bV) (env:Env) (n:Nat) (ts:List Nat) (many:Bool) (x:XS) (own:List Addr) (src:f9) (ds:List D) (S:Nat->Heap->List Addr->Prop) (s:Shared) (ρ:List Addr) (J:St) (fl:Fl) (l':aB) (J':St):Nat->Shared->Prop
 |mk (m i:Nat) {ρ2:List Addr} {J2:St} {l2:aB} {h2:Heap} (tk2:Nat) (hm:m+i=ds.length+1) (hile:i<=ds.length) (st2:S i h2 ρ2) (sok2:aI src J2=true) (g2:bE (frame c env) ρ J ρ2 J2 s.heap h2) (x2:K.sr ρ2 J2 h2) (v2:df K c env h2 ρ2 l2) (own2:∀b∈own,b∉ρ2)
  (hgo:a9 (aw ts many) (aP (K.C n) K.W x) src (ds.drop i) l2 J2=some (fl,l',J')):se K c env n ts many x own src ds S s ρ J fl l' J' m { s with heap:=h2,toks:=tk2 }
theorem bB.for_ {target it:Expr} {b:List Stmt} {ts:List Nat} {many:Bool} {I:Mine.X} {x:XS} {pos:Pos} (hi:eN K c target it I) (ok:c.ok=true) (ht:eu c target ts many=true) (hb:fo K c b x) (hs:∀env v,foldedSetIterable it env v=pure v) :
  bB K c (.For target it b [] pos) (.for_ ts many I x):=fun env n A s ρ J l fl l' J' Q E a hC he p=>by
 refine zo (fun ds src J1 h1 he=>?_) he
 refine wpAny_For (hi _ _ _ _ _ _ _ _ _ _ _ _ a hC h1 fun itA own S ρ1 hp1 tk1 T fresh st sok g1 x1=>?_) (hs env)
 have ownF:∀b∈own,b∉frame c env:=fun b hb hf=>by
  obtain⟨o,e⟩:=(a.vars.frameOk a.ev a.sr b hf).2.2.2;rw[(fresh b hb).1] at e;cases e
 have ownC:∀p∈c.vars,∀b,env.cells.lookup p.1=some b->(env.kindOf p.1=some .cell\/env.kindOf p.1=some .free)->b∉own:=fun p hp b hb hk ho=>by
  obtain⟨o,e⟩:=a.vars.cellsLive p hp b hb hk;rw[(fresh b ho).1] at e;cases e
 refine codeAny_forLoop_any (env:=env) (se K c env n ts many x own src ds S s ρ J fl l' J') (fun m s' inv=>?_) (ds.length+1)
  (.mk _ 0 tk1 rfl (Nat.zero_le _) st sok (.of g1) x1 (a.vars.grow a.sr g1) (fun b hb=>(fresh b hb).2) he)
 cases inv with
 | @mk i ρ2 J2 l2 h2 tk2 hm hile st2 sok2 g2 x2 v2 own2 hgo=>
 have after:∀h3,eE own h2 h3->K.sr ρ2 J2 h3/\df K c env h3 ρ2 l2/\bE (frame c env) ρ J ρ2 J2 s.heap h3:=fun h3 b3=>
  have o2:∀b∈own,b∉ρ2/\K.H₀.get? b=none/\bm h2 b:=fun b hb=>⟨own2 b hb,a.sr.freshBase (fresh b hb).1,T.notTup _ _ _ st2 b hb⟩
  ⟨x2.otherL b3 o2,v2.otherL b3 (fun ho=>ownF _ ho (List.mem_cons_self ..)) ownC fun b hb=>(o2 b hb).2.2,g2.otherL (SR.liveAll x2) (fun b hb=>⟨.inl (fresh b hb).1,own2 b hb⟩) (fun b hb hX=>absurd hX (ownF b hb)) b3⟩
 cases hd:ds.drop i with
 |nil=>
  rw[hd] at hgo;obtain rfl:i=ds.length:=Nat.le_antisymm hile (List.drop_eq_nil_iff.mp hd)
  refine rm (fun p=>?_) hgo p
  refine T.done { s with heap:=h2,toks:=tk2 } ρ2 _ _ a.room.handled st2 fun h3 tk3 b3=>?_;obtain⟨x3,v3,g3⟩:=after h3 b3;exact wpAny_execs_nil (p .next ρ2 h3 tk3 g3 x3 v3 rfl)
 |cons d r=>
  obtain⟨hdi,hdr⟩:=pU hd;have hil:i<ds.length:=(List.getElem?_eq_some_iff.mp hdi).1;rw[hd] at hgo
  refine wpAny_mono (T.next i d { s with heap:=h2,toks:=tk2 } ρ2 (fun _=>False) ?Q _ ?E2 a.room.handled hdi st2 ?main) ?dU fun _ _ e=>e
  case dU=>
   intro r s1 hr
   cases r with
   |none=>exact hr.elim
   |some v=>exact hr
  intro v h3 tk3 b3 r3 st3;obtain⟨x3,v3,g3⟩:=after h3 b3
  refine pE (fun l3 rd l5 J5 hbind q5 p=>?_) (fun l3 fl5 l5 J5 hbind q5 hnr sok5 hgo p=>?_) hgo p
  ·refine hZ (s:={ s with heap:=h3,toks:=tk3 }) a.room.handled a.ev ok x3 v3 ht r3 hbind fun h4 tk4 b4 lv4 x4 v4 t4=>?_
   refine hb _ _ _ _ _ _ _ _ _ _ _ _ ⟨a.ok,a.ev,a.room,x4,v4⟩ hC q5 fun f ρ5 h5 tk5 g5 x5 v5 r5=>?_;have:=p f ρ5 h5 tk5 ((g3.trans (cX (s:={ s with heap:=h3,toks:=tk3 }) a.ev x3 v3 b4 lv4)).trans g5) x5 v5 r5;obtain⟨u,rfl,_⟩:=r5;exact this
  ·refine hZ (s:={ s with heap:=h3,toks:=tk3 }) a.room.handled a.ev ok x3 v3 ht r3 hbind fun h4 tk4 b4 lv4 x4 v4 t4=>?_
   refine hb _ _ _ _ _ _ _ _ _ _ _ _ ⟨a.ok,a.ev,a.room,x4,v4⟩ hC q5 fun f ρ5 h5 tk5 g5 x5 v5 r5=>?_;have fr4:=df.frameOk (s:={ s with heap:=h4,toks:=tk4 }) a.ev x4 v4;have st5:S (i+1) h5 ρ5:=by
    refine T.keep (i+1) h3 ρ2 h5 ρ5 st3 (fun b hb o eb=>?_) (fun r' v' a' es er=>?_) (fun b vs ep e=>?_) (fun k b e=>g5.get e)
    ·exact g5.ext b o (b4 b o (ownF b hb) eb) (own2 b hb) (ownF b hb)
    ·obtain⟨o,o',e1,e2,e3⟩:=mC es sok2 sok5;have ha':a'∈ρ2:=List.mem_of_getElem? er
     have hnf:a'∉frame c env:=fun hf=>(fr4 a' hf).1 ha';rw[g5.same r' a' o o' er hnf e1 e2 e3];obtain⟨ob,eb⟩:=SR.liveAll x3 a' ha';rw[eb];exact b4 a' ob hnf eb
    ·exact g5.tupKeep x4 (fun b hb=>(fr4 b hb).2.2.1) b vs ep (t4 b vs ep e)
   have next:∃m',m'<m/\se K c env n ts many x own src ds S s ρ J fl l' J' m' { s with heap:=h5,toks:=tk5 }:=
    ⟨ds.length-i,by (exists L40,0x3000113021020062010302220101678201008111202100022848,hm,hil,(fs (ds.length) (i))),.mk _ (i+1) tk5 (by (exists L30,0x1111021110022022011202001006100020221000167810000836,hil,(fs (ds.length) (i)))) hil st5 sok5 ((g3.trans (cX (s:={ s with heap:=h3,toks:=tk3 }) a.ev x3 v3 b4 lv4)).trans g5) x5 v5 (fun b hb=>by
     obtain⟨o,e⟩:=T.live _ _ _ st3 b hb;exact g5.notIn (own2 b hb) (b4 b o (ownF b hb) e)) (by rw[hdr];exact hgo)⟩
   cases fl5 with
   |next=>cases (show f = .next from r5);exact next
   |cont=>cases (show f = .cont from r5);exact next
   |ret d=>exact absurd rfl (hnr d)
end
noncomputable def aW (c:bV) (scope:Scope) (names:List Str) (ts:List Nat) (next:Nat):bV:=
 { scope:=scope,vars:=names.zip ts++c.vars.filter (fun p=>decide (scope.names.lookup p.1=some .free)),next:=next }
noncomputable def nH (c:bV) (scope:Scope) (names:List Str) (ts:List Nat) (next:Nat):Bool:=
 decide (scope.kind = .function)&&scope.names.all (fun y=>decide (y.2≠.cell))&&scope.names.all (fun y=>decide (y.2 = .local->scope.names.lookup y.1=some .local)) &&
 scope.names.all (fun y=>decide (y.2 = .free->(y.1∈c.vars.map (·.1))/\(c.scope.names.lookup y.1=some .cell\/c.scope.names.lookup y.1=some .free))) &&
 (aW c scope names ts next).ok&&decide (names.length=ts.length)&&ts.all (fun t=>decide (c.next<=t))&&decide (c.next<=next) &&
 names.all (fun x=>decide (scope.names.lookup x=some .local))
section
variable {prog:Program} {w:World} {A:Around} {E:Value->Shared->Prop} {s:Shared}
theorem zS {env:Env}:∀(names:List (Str×NameKind)) (acc:List (Str×Addr)),(∀y∈names,y.2 = .free->∃a,env.cells.lookup y.1=some a)->
  ∃cl,(forIn names acc fun(x:Str×NameKind) (cs:List (Str×Addr))=>(if (x.2==.free)=true then do let a<-cellOf env x.1;pure (ForInStep.yield ((x.1,a)::cs)) else pure (ForInStep.yield cs):Sem (ForInStep (List (Str×Addr)))))=pure cl/\
   (∀q∈cl,q∈acc\/(env.cells.lookup q.1=some q.2/\(q.1,NameKind.free)∈names))/\(∀q∈acc,q∈cl)/\∀y∈names,y.2 = .free->∃a,(y.1,a)∈cl:=by
 intro names;induction names with
 |nil=>exact fun acc _=>⟨acc,by rw[List.forIn_nil],fun q hq=>.inl hq,fun q hq=>hq,fun y hy=>nomatch hy⟩
 |cons xk r ih=>
  obtain⟨x,k⟩:=xk;intro acc h;by_cases hk:k = .free
  ·obtain⟨a,ha⟩:=h (x,k) (List.mem_cons_self ..) hk;obtain⟨cl,h1,h2,h3,h4⟩:=ih ((x,a)::acc) fun y hy=>h y (List.mem_cons_of_mem _ hy);refine⟨cl,?_,fun q hq=>?_,fun q hq=>h3 q (List.mem_cons_of_mem _ hq),fun y hy hf=>?_⟩
   ·rw[List.forIn_cons];have e1:(k==NameKind.free)=true:=by simp[hk]
    have e2:cellOf env x=pure a:=by unfold cellOf;rw[ha]
    simp only[e1,if_true,e2,pure_bind];exact h1
   ·rcases h2 q hq with h|h
    ·rcases List.mem_cons.mp h with rfl|h
     ·exact .inr ⟨ha,by rw[hk];exact List.mem_cons_self ..⟩
     ·exact .inl h
    ·exact .inr ⟨h.1,List.mem_cons_of_mem _ h.2⟩
   ·rcases List.mem_cons.mp hy with rfl|hy
    ·exact⟨a,h3 _ (List.mem_cons_self ..)⟩
    ·exact h4 y hy hf
  ·obtain⟨cl,h1,h2,h3,h4⟩:=ih acc fun y hy=>h y (List.mem_cons_of_mem _ hy);refine⟨cl,?_,fun q hq=>(h2 q hq).imp id fun h=>⟨h.1,List.mem_cons_of_mem _ h.2⟩,h3,fun y hy hf=>?_⟩
   ·rw[List.forIn_cons];have e1:(k==NameKind.free)=false:=by simp[hk]
    simp only[e1,Bool.false_eq_true,if_false,pure_bind];exact h1
   ·rcases List.mem_cons.mp hy with rfl|hy
    ·exact absurd hf hk
    ·exact h4 y hy hf
theorem rX {scope:Scope} {env:Env} (h:∀y∈scope.names,y.2 = .free->∃a,env.cells.lookup y.1=some a) :
  ∃cl,closureFor scope env=pure cl/\(∀x,(x,NameKind.free)∈scope.names->∃a,cl.lookup x=some a/\env.cells.lookup x=some a)/\∀x a,cl.lookup x=some a->env.cells.lookup x=some a/\(x,NameKind.free)∈scope.names:=by
 obtain⟨cl,h1,h2,h3,h4⟩:=zS (env:=env) scope.names [] h
 have key:∀x a,cl.lookup x=some a->env.cells.lookup x=some a/\(x,NameKind.free)∈scope.names:=fun x a hl=>by
  obtain⟨l1,l2,rfl,_⟩:=List.lookup_eq_some_iff.mp hl;rcases h2 (x,a) (by simp) with h|h
  ·simp at h
  ·exact h
 refine⟨cl,?_,fun x hx=>?_,key⟩
 ·have:closureFor scope env=(forIn scope.names [] fun(x:Str×NameKind) (cs:List (Str×Addr))=>(if (x.2==.free)=true then do let a<-cellOf env x.1;pure (ForInStep.yield ((x.1,a)::cs)) else pure (ForInStep.yield cs):Sem (ForInStep (List (Str×Addr))))) >>= fun cs=>pure cs:=rfl
  rw[this,h1,pure_bind]
 ·obtain⟨a,ha⟩:=h4 _ hx rfl
  cases hl:cl.lookup x with
  |none=>
   rw[List.lookup_eq_none_iff] at hl;have:=hl _ ha;simp at this
  |some b=>exact⟨b,rfl,(key x b hl).1⟩
theorem dz {α β:Type} [BEq α] [LawfulBEq α] {xs:List (α×β)} {x:α} {y:β} (h:xs.lookup x=some y):(x,y)∈xs:=by
 obtain⟨l1,l2,rfl,_⟩:=List.lookup_eq_some_iff.mp h;simp
theorem eR {env:Env}:∀(names:List (Str×NameKind)) {x:Str} {k:NameKind},names.lookup x=some k->
  (names.map fun(n,k)=>if (k==NameKind.free&&env.scope.kind==.function&&env.kindOf n==some .cell) then (n,NameKind.cell) else (n,k)).lookup x=some k\/
  (k = .free/\(names.map fun(n,k)=>if (k==NameKind.free&&env.scope.kind==.function&&env.kindOf n==some .cell) then (n,NameKind.cell) else (n,k)).lookup x=some .cell):=by
 intro names;induction names with
 |nil=>exact nofun
 |cons nk r ih=>
  obtain⟨n,k'⟩:=nk;intro x k h;simp only[List.map_cons]
  cases hx:x==n with
  |true=>
   simp only[List.lookup_cons,hx,Option.some.injEq] at h;subst h;by_cases hc:(k'==NameKind.free&&env.scope.kind==.function&&env.kindOf n==some .cell)=true
   ·rw[if_pos hc];simp only[List.lookup_cons,hx];simp only[Bool.and_eq_true,beq_iff_eq] at hc;exact .inr ⟨hc.1.1,by simp⟩
   ·rw[if_neg hc];simp only[List.lookup_cons,hx];exact .inl trivial
  |false=>
   simp only[List.lookup_cons,hx] at h;have ih:=ih h;by_cases hc:(k'==NameKind.free&&env.scope.kind==.function&&env.kindOf n==some .cell)=true
   ·rw[if_pos hc];simp only[List.lookup_cons,hx];exact ih
   ·rw[if_neg hc];simp only[List.lookup_cons,hx];exact ih
noncomputable def jG (prog:Program) (w:World) (A:Around) (target:Expr) (ifs:List Expr) (it:Value) (env:Env) (E:Value->Shared->Prop) (Qn:Shared->Prop) (Bt:(Shared->Prop)->Shared->Prop) (goal:Shared->Prop):Prop:=
 ∀I:Nat->Shared->Prop,(∀n s,I n s->wpAny (model prog w) A (pyNext it) (fun r s₁=>match r with
   |none=>Qn s₁
   |some v=>wpAny (model prog w) A (letOwnedTupleGo target it v) (fun _ s₁'=>wpAny (model prog w) A (assign target env v) (fun _ s₂=>
     wpAny (model prog w) A (forIn ifs true fun c r=>if r=true then do let ok<-isTrue c env (eval c env);pure (ForInStep.yield ok) else pure (ForInStep.yield r)) (fun ok s₃=>
      if ok=true then Bt (fun s₅=>∃m,m<n/\I m s₅) s₃ else ∃m,m<n/\I m s₃) E s₂) E s₁') E s₁) E s)->∀n s,I n s->goal s
variable {R:Result->Shared->Prop}
theorem ms {elt target iter:Expr} {ifs:List Expr} {scope:Scope} {pos:Pos} {it acc:Value} {env:Env}:jG prog w A target ifs it env (notedBy (model prog w) A env fun e s'=>R (.error e) s') (fun s=>R (.ok .next) s)
  (fun k s=>wpAny (model prog w) A (eval elt env) (fun x s₄=>wpAny (model prog w) A (call (.builtin "list.append") [acc,x]) (fun _ s₅=>k s₅) (notedBy (model prog w) A env fun e s'=>R (.error e) s') s₄) (notedBy (model prog w) A env fun e s'=>R (.error e) s') s)
  (fun s=>codeAny (model prog w) A (.compLoop (.ListComp elt [⟨target,iter,ifs,0⟩] scope pos) 0 it acc env) R s):=fun I turn n s h=>by
 refine codeAny_loop rfl I (fun n s hI=>?_) n h
 show wpAny _ A ((compTurn (.ListComp elt [⟨target,iter,ifs,0⟩] scope pos) 0 it acc env).onRaise (fun x=>do noteFrame x env;theTreesLotGoes x)) _ _ s;refine wpAny_noted ?_;rw[compTurn_list]
 refine wpAny_bind (wpAny_standAt (wpAny_bind (wpAny_mono (turn n s hI) (fun r s₁ h₁=>?_) fun _ _ h'=>h')))
 cases r with
 |none=>exact wpAny_pure h₁
 |some v=>
  refine wpAny_bind (wpAny_mono h₁ (fun _ s₁' h₁'=>?_) fun _ _ h'=>h')
  refine wpAny_bind (wpAny_mono h₁' (fun _ s₂ h₂=>wpAny_bind (wpAny_mono h₂ (fun ok s₃ h₃=>?_) fun _ _ h'=>h')) fun _ _ h'=>h')
  cases ok with
  |false=>exact wpAny_pure ⟨rfl,h₃⟩
  |true=>exact wpAny_bind (wpAny_bind (wpAny_mono h₃ (fun x s₄ h₄=>wpAny_bind (wpAny_mono h₄ (fun _ s₅ h₅=>wpAny_pure (wpAny_pure ⟨rfl,h₅⟩)) fun _ _ h'=>h')) fun _ _ h'=>h'))
theorem mu {kx vx target iter:Expr} {ifs:List Expr} {scope:Scope} {pos:Pos} {it:Value} {D:Addr} {env:Env}:jG prog w A target ifs it env (notedBy (model prog w) A env fun e s'=>R (.error e) s') (fun s=>R (.ok .next) s)
  (fun k s=>wpAny (model prog w) A (eval kx env) (fun kv s₄=>wpAny (model prog w) A (eval vx env) (fun vv s₅=>wpAny (model prog w) A (dictSet D kv vv) (fun _ s₆=>k s₆) (notedBy (model prog w) A env fun e s'=>R (.error e) s') s₅) (notedBy (model prog w) A env fun e s'=>R (.error e) s') s₄) (notedBy (model prog w) A env fun e s'=>R (.error e) s') s)
  (fun s=>codeAny (model prog w) A (.compLoop (.DictComp kx vx [⟨target,iter,ifs,0⟩] scope pos) 0 it (.ref D) env) R s):=fun I turn n s h=>by
 refine codeAny_loop rfl I (fun n s hI=>?_) n h
 show wpAny _ A ((compTurn (.DictComp kx vx [⟨target,iter,ifs,0⟩] scope pos) 0 it (.ref D) env).onRaise (fun x=>do noteFrame x env;theTreesLotGoes x)) _ _ s;refine wpAny_noted ?_;rw[compTurn_dict]
 refine wpAny_bind (wpAny_standAt (wpAny_bind (wpAny_mono (turn n s hI) (fun r s₁ h₁=>?_) fun _ _ h'=>h')))
 cases r with
 |none=>exact wpAny_pure h₁
 |some v=>
  refine wpAny_bind (wpAny_mono h₁ (fun _ s₁' h₁'=>?_) fun _ _ h'=>h')
  refine wpAny_bind (wpAny_mono h₁' (fun _ s₂ h₂=>wpAny_bind (wpAny_mono h₂ (fun ok s₃ h₃=>?_) fun _ _ h'=>h')) fun _ _ h'=>h')
  cases ok with
  |false=>exact wpAny_pure ⟨rfl,h₃⟩
  |true=>
   exact wpAny_bind (wpAny_bind (wpAny_mono h₃ (fun kv s₄ h₄=>wpAny_bind (wpAny_holding (wpAny_mono h₄ (fun vv s₅ h₅=>wpAny_bind (wpAny_standAt (wpAny_holding (wpAny_mono h₅ (fun _ s₆ h₆=>wpAny_pure ⟨rfl,h₆⟩) fun _ _ h'=>h')))) fun _ _ h'=>h'))) fun _ _ h'=>h'))
end
section
variable {K:dj} {c:bV} {env:Env} {n:Nat} {A:Around} {s:Shared} {ρ:List Addr} {J:St} {l:aB} {scope:Scope} {names:List Str} {ts:List Nat} {next:Nat}
structure cR (c:bV) (scope:Scope) (names:List Str) (ts:List Nat) (next:Nat):Prop where
 kind:scope.kind = .function
 cell:∀y∈scope.names,y.2≠.cell
 loc:∀y∈scope.names,y.2 = .local->scope.names.lookup y.1=some .local
 free:∀y∈scope.names,y.2 = .free->(y.1∈c.vars.map (·.1))/\(c.scope.names.lookup y.1=some .cell\/c.scope.names.lookup y.1=some .free)
 ok:(aW c scope names ts next).ok=true
 len:names.length=ts.length
 slots:∀t∈ts,c.next<=t
 next:c.next<=next
 names:∀x∈names,scope.names.lookup x=some .local
theorem cR.of (h:nH c scope names ts next=true):cR c scope names ts next:=by
 simp only[nH,Bool.and_eq_true,decide_eq_true_eq,List.all_eq_true] at h;obtain⟨⟨⟨⟨⟨⟨⟨⟨h1,h2⟩,h3⟩,h4⟩,h5⟩,h6⟩,h7⟩,h8⟩,h9⟩:=h;exact⟨h1,h2,h3,h4,h5,h6,h7,h8,h9⟩
theorem l9 (a:At K c env n A s ρ J l) (so:cR c scope names ts next):∀y∈scope.names,y.2 = .free->∃p∈c.vars,p.1=y.1/\∃b ov,(env.kindOf y.1=some .cell\/env.kindOf y.1=some .free)/\env.cells.lookup y.1=some b/\s.heap.IsCell b ov/\∀d,(l[p.2]?).join=some d->∃v,ov=some v/\K.rep s.heap ρ v d:=by
 intro y hy hf;obtain⟨h1,h2⟩:=so.free y hy hf;obtain⟨p,hp,e⟩:=List.mem_map.mp h1;have hk:env.kindOf y.1=some .cell\/env.kindOf y.1=some .free:=by
  rcases h2 with h2|h2
  ·rcases a.ev.names _ _ h2 with h | ⟨h,_⟩
   ·exact .inl h
   ·cases h
  ·rcases a.ev.names _ _ h2 with h | ⟨_,h⟩
   ·exact .inr h
   ·exact .inl h
 refine⟨p,hp,e,?_⟩;rcases a.vars.at_ p hp with⟨q,_⟩ | ⟨_,b,ov,q1,q2,q3⟩
 ·rw[e] at q;rcases hk with hk|hk<;>rw[q] at hk<;>cases hk
 ·rw[e] at q1;exact⟨b,ov,hk,q1,q2,q3⟩
theorem rT {cl:List (Str×Addr)} {C:Addr} (ev:fk c env) (so:cR c scope names ts next):fk (aW c scope names ts next) (compEnvC scope cl C env) where
 kind:=so.kind
 names:=fun x k h=>eR scope.names h
 globals:=ev.globals
 builtins:=ev.builtins
theorem hV {cl:List (Str×Addr)} {C:Addr} (so:cR c scope names ts next):∀b∈frame (aW c scope names ts next) (compEnvC scope cl C env),b=C:=by
 intro b hb;rcases List.mem_cons.mp hb with h|h
 ·exact h
 ·obtain⟨p,_,e⟩:=List.mem_filterMap.mp h;split at e
  ·rename_i hk;exact absurd rfl (so.cell _ (dz hk))
  ·cases e
theorem xz {cl:List (Str×Addr)} {C:Addr} {h1:Heap} {m:Str->Option Value} (a:At K c env n A s ρ J l) (so:cR c scope names ts next)
  (hcl:∀x,(x,NameKind.free)∈scope.names->∃a,cl.lookup x=some a/\env.cells.lookup x=some a) (hcl2:∀x a,cl.lookup x=some a->env.cells.lookup x=some a/\(x,NameKind.free)∈scope.names)
  (keep:∀b o,s.heap.get? b=some o->h1.get? b=some o) (hns:h1.Ns C m) (hC:C∉ρ) (hC0:K.H₀.get? C=none):df K (aW c scope names ts next) (compEnvC scope cl C env) h1 ρ l where
 ns:=⟨m,hns⟩
 apart:=hC
 at_:=fun p hp=>by
  rcases List.mem_append.mp hp with hp|hp
  ·have hp1:p.1∈names:=(List.of_mem_zip hp).1;have hp2:p.2∈ts:=(List.of_mem_zip hp).2
   refine .inl ⟨?_,m,hns,fun d hd=>?_⟩
   ·rcases eR (env:=env) scope.names (so.names _ hp1) with h | ⟨h,_⟩
    ·exact h
    ·cases h
   ·rw[a.vars.rest _ (so.slots _ hp2)] at hd;cases hd
  ·obtain⟨hp1,hp2⟩:=List.mem_filter.mp hp;simp only[decide_eq_true_eq] at hp2;obtain⟨p',hp',e',b,ov,hk,q1,⟨o,q2,q2'⟩,q3⟩:=l9 a so _ (dz hp2) rfl
   have hnm:∀q∈c.vars,q.1=p.1->Am K env s.heap ρ q.1 (l[q.2]?).join:=fun q hq _=>a.vars.at_ q hq;obtain⟨b2,w1,w2⟩:=hcl p.1 (dz hp2);rw[q1] at w2;cases w2
   refine .inr ⟨?_,b,ov,w1,⟨o,keep _ _ q2,q2'⟩,fun d hd=>?_⟩
   ·rcases eR (env:=env) scope.names hp2 with h | ⟨_,h⟩
    ·exact .inr h
    ·exact .inl h
   ·rcases a.vars.at_ p hp1 with⟨z,_⟩ | ⟨_,b3,ov3,z1,⟨o3,z2,z2'⟩,z3⟩
    ·rcases hk with hk|hk<;>rw[z] at hk<;>cases hk
    ·rw[q1] at z1;cases z1;rw[q2] at z2;cases z2;rw[q2'] at z2';cases z2';obtain⟨v,y1,y2⟩:=z3 d hd;exact⟨v,y1,y2.grow a.sr (au.keeps a.sr keep)⟩
 inj:=fun p hp q hq hne b hb hb'=>by
  obtain⟨h1,h2⟩:=hcl2 _ _ hb;obtain⟨h3,h4⟩:=hcl2 _ _ hb';obtain⟨p',hp',e1⟩:=List.mem_map.mp (so.free _ h2 rfl).1;obtain⟨q',hq',e2⟩:=List.mem_map.mp (so.free _ h4 rfl).1;simp only at e1 e2;exact a.vars.inj p' hp' q' hq' (by rw[e1,e2];exact hne) b (by rw[e1];exact h1) (by rw[e2];exact h3)
 base:=fun b hb=>by rw[hV so b hb];exact hC0
 rest:=fun j hj=>a.vars.rest j (Nat.le_trans so.next hj)
inductive xY (K:dj) (c':bV):List Expr->(Nat->aB->St->Option (Bool×St))->Prop
 |none:xY K c' [] (fun _ _ J=>some (true,J))
 |one {e:Expr} {X:Mine.X}:md K c' e X->xY K c' [e] (fun n=>iV (K.C n) X)
theorem xY.ok {c':bV} {ifs:List Expr} {f:Nat->aB->St->Option (Bool×St)} (h:xY K c' ifs f) {cenv:Env} {b:Bool} {J':St} {Q:Bool->Shared->Prop} {E:Value->Shared->Prop} (a:At K c' cenv n A s ρ J l) (hC:bW K n) (he:f n l J=some (b,J'))
  (hq:∀ρ' h' tk',au ρ J ρ' J' s.heap h'->K.sr ρ' J' h'->Q b { s with heap:=h',toks:=tk' }) :
  wpAny K.M A (forIn ifs true fun c r=>if r=true then do let ok<-isTrue c cenv (eval c cenv);pure (ForInStep.yield ok) else pure (ForInStep.yield r)) Q E s:=by
 cases h with
 |none=>
  cases he;exact wpAny_tests_nil (hq ρ s.heap s.toks (au.refl _ _ _) a.sr)
 |one hx=>exact jm (fun d h1 h2=>wpAny_tests_one (hx _ _ _ _ _ _ _ _ _ _ _ _ a hC h1 h2 hq)) he
end
section
variable {K:dj} {c:bV} {env:Env} {n:Nat} {A:Around} {s:Shared} {ρ:List Addr} {J:St} {l:aB} {scope:Scope} {names:List Str} {ts:List Nat} {next:Nat}
structure fF (K:dj) (s:Shared) (ρ:List Addr) (J:St) (ρ':List Addr) (J':St) (h':Heap) (D C:Addr):Prop where
 d0:s.heap.get? D=none
 c0:s.heap.get? C=none
 dn:D∉ρ'
 cn:C∉ρ'
 ne:D≠C
 ns:∃m,h'.Ns C m
 g:au ρ J ρ' J' s.heap h'
 x:K.sr ρ' J' h'
structure tw (K:dj) (D:Addr) {γ:Type} (Acc:γ->Heap->List Addr->Prop):Prop where
 here:∀{x h ρ},Acc x h ρ->∃o,h.get? D=some o
 notTup:∀{x h ρ},Acc x h ρ->bm h D
 grow:∀{x h h' ρ ρ' J J₀ J'},Acc x h ρ->K.sr ρ J h->D∉ρ->au ρ J₀ ρ' J' h h'->Acc x h' ρ'
 butL:∀{x h h' ρ L},Acc x h ρ->eE L h h'->D∉L->(∀a∈L,bm h a)->Acc x h' ρ
inductive Ao {γ:Type} (f:aB->St->Option (Bool×St)) (B1:aB->St->γ->γ->St->Prop) (G:γ->St->Prop) (src:f9) (l1:aB) (J2:St) (x:γ):Prop
 |skip {J3:St} (hf:f l1 J2=some (false,J3)) (ok:aI src J3=true) (hg:G x J3)
 |take {J3:St} {x':γ} {J4:St} (hf:f l1 J2=some (true,J3)) (b1:B1 l1 J3 x x' J4) (ok:aI src J4=true) (hg:G x' J4)
inductive oG {γ:Type} (K:dj) (Acc:γ->Heap->List Addr->Prop) (G:Nat->γ->St->Prop) (own:List Addr) (src:f9) (N:Nat) (S:Nat->Heap->List Addr->Prop) (D C:Addr) (s:Shared) (ρ:List Addr) (J:St):Nat->Shared->Prop
 |mk (m i:Nat) {ρ2:List Addr} {J2:St} {h3:Heap} {x:γ} (tk3:Nat) (hm:m+i=N+1) (hile:i<=N) (st3:S i h3 ρ2) (sok3:aI src J2=true) (g3:au ρ J ρ2 J2 s.heap h3) (x3:K.sr ρ2 J2 h3) (ns3:∃m,h3.Ns C m) (cn3:C∉ρ2) (dn3:D∉ρ2)
  (own3:∀b∈own,b∉ρ2) (acc:Acc x h3 ρ2) (hgo:G i x J2):oG K Acc G own src N S D C s ρ J m { s with heap:=h3,toks:=tk3 }
theorem rS {γ:Type} {Acc:γ->Heap->List Addr->Prop} {G:Nat->γ->St->Prop} {B1:aB->St->γ->γ->St->Prop} {Bt:(Shared->Prop)->Shared->Prop} {goal Qn:Shared->Prop} {E:Value->Shared->Prop} {target:Expr} {ifs:List Expr} {many:Bool} {f:Nat->aB->St->Option (Bool×St)}
  {itA B C:Addr} {own:List Addr} {S:Nat->Heap->List Addr->Prop} {src:f9} {ds:List D} {cl:List (Str×Addr)} {x0 xf:γ} {J1 J':St} {ρ1:List Addr} {h2:Heap} {tk1:Nat}
  (a:At K c env n A s ρ J l) (hC:bW K n) (so:cR c scope names ts next) (ht:eu (aW c scope names ts next) target ts many=true) (hf:xY K (aW c scope names ts next) ifs f)
  (T:dQ K A target itA own src ds S) (fresh:∀b∈own,s.heap.get? b=none) (ac:tw K B Acc) (hne:B≠C) (hD0:s.heap.get? B=none) (hC0:s.heap.get? C=none) (ownD:B∉own) (ownC:C∉own)
  (k2:∀x,(x,NameKind.free)∈scope.names->∃a,cl.lookup x=some a/\env.cells.lookup x=some a) (k3:∀x a,cl.lookup x=some a->env.cells.lookup x=some a/\(x,NameKind.free)∈scope.names)
  (gdone:∀x J2,G ds.length x J2->x=xf/\J2=J') (gstep:∀i d x J2,ds[i]?=some d->G i x J2->∃l1,aw ts many d l=some l1/\Ao (f n) B1 (G (i+1)) src l1 J2 x)
  (body:∀s3 ρ3 J3 l1 x x' J4 (k:Shared->Prop),At K (aW c scope names ts next) (compEnvC scope cl C env) n A s3 ρ3 J3 l1->B∉ρ3->Acc x s3.heap ρ3->B1 l1 J3 x x' J4->
   (∀ρ4 h' h4 tk4,au ρ3 J3 ρ4 J4 s3.heap h'->K.sr ρ4 J4 h'->Heap.SameBut B h' h4->Acc x' h4 ρ4->k { s3 with heap:=h4,toks:=tk4 })->Bt k s3)
  (fin:∀ρ' h' tk',fF K s ρ J ρ' J' h' B C->Acc xf h' ρ'->Qn { s with heap:=h',toks:=tk' })
  (rule:jG K.prog K.w A target ifs (.ref itA) (compEnvC scope cl C env) E Qn Bt goal)
  (st:S 0 h2 ρ1) (sok:aI src J1=true) (g:au ρ J ρ1 J1 s.heap h2) (x2:K.sr ρ1 J1 h2) (ns:∃m,h2.Ns C m) (cn:C∉ρ1) (dn:B∉ρ1) (AT:∀b∈own,b∉ρ1) (acc:Acc x0 h2 ρ1) (hg:G 0 x0 J1):goal { s with heap:=h2,toks:=tk1 }:=by
 refine rule (oG K Acc G own src ds.length S B C s ρ J) (fun m s' inv=>?_) (ds.length+1) _ (.mk _ 0 tk1 rfl (Nat.zero_le _) st sok g x2 ns cn dn AT acc hg)
 cases inv with
 | @mk i ρ2 J2 h3 x tk3 hm hile st3 sok3 g3 x3 ns3 cn3 dn3 own3 acc hgo=>
 have after:∀h4,eE own h3 h4->K.sr ρ2 J2 h4/\au ρ J ρ2 J2 s.heap h4/\(∃m,h4.Ns C m)/\Acc x h4 ρ2:=fun h4 b4=>
  have o3:∀b∈own,b∉ρ2/\K.H₀.get? b=none/\bm h3 b:=fun b hb=>⟨own3 b hb,a.sr.freshBase (fresh b hb),T.notTup _ _ _ st3 b hb⟩
  ⟨x3.otherL b4 o3,g3.otherL (SR.liveAll x3) (fun b hb=>⟨fresh b hb,own3 b hb⟩) b4,let ⟨m,o,es,ep,e,r⟩:=ns3;⟨m,o,es,ep,b4 C o ownC e,r⟩,ac.butL acc b4 ownD fun b hb=>(o3 b hb).2.2⟩
 by_cases hil:i<ds.length
 ·have hdi:=List.getElem?_eq_getElem hil
  refine wpAny_mono (T.next i _ { s with heap:=h3,toks:=tk3 } ρ2 (fun _=>False) ?Q _ ?E2 a.room.handled hdi st3 ?main) ?dU fun _ _ e=>e
  case dU=>
   intro r s1 hr
   cases r with
   |none=>exact hr.elim
   |some v=>exact hr
  intro v h4 tk4 b4 r4 st4;obtain⟨x4,g4,⟨m4,ns4⟩,acc4⟩:=after h4 b4;obtain⟨l1,hbind,turn⟩:=gstep i _ x J2 hdi hgo;have ev':fk (aW c scope names ts next) (compEnvC scope cl C env):=rT a.ev so
  have v4:=xz (s:={ s with heap:=h4,toks:=tk4 }) (a.grow g4 x4 tk4) so k2 k3 (fun _ _ e=>e) ns4 cn3 (a.sr.freshBase hC0);have fr4:=df.frameOk (s:={ s with heap:=h4,toks:=tk4 }) ev' x4 v4
  refine hZ (s:={ s with heap:=h4,toks:=tk4 }) a.room.handled ev' so.ok x4 v4 ht r4 hbind fun h5 tk5 b5 lv5 x5 v5 t5=>?_
  have g5:au ρ J ρ2 J2 s.heap h5:=g4.otherL (SR.liveAll x4) (fun b hb=>by rw[hV so b hb];exact⟨hC0,cn3⟩) b5
  have acc5:=ac.butL acc4 b5 (fun q=>hne (hV so B q)) fun b hb=>(fr4 b hb).2.2.1;have a5:At K (aW c scope names ts next) (compEnvC scope cl C env) n A { s with heap:=h5,toks:=tk5 } ρ2 J2 l1:=⟨a.ok,ev',a.room,x5,v5⟩
  have own5:∀b∈own,∀o,h4.get? b=some o->h5.get? b=some o:=fun b hb o e=>b5 b o (fun q=>ownC (hV so b q▸hb)) e;have nxt:∀{ρ6 J6 h' h6 x6} tk6,au ρ2 J2 ρ6 J6 h5 h'->K.sr ρ6 J6 h'->Heap.SameBut B h' h6->Acc x6 h6 ρ6->aI src J6=true->G (i+1) x6 J6->∃m',m'<m/\oG K Acc G own src ds.length S B C s ρ J m' { s with heap:=h6,toks:=tk6 }:=by
   intro ρ6 J6 h' h6 x6 tk6 g6 x6' hs acc6 sok6 hg6;have hnt:=ac.notTup (ac.grow acc5 x5 dn3 g6);obtain⟨oD,eD⟩:=ac.here acc5;obtain⟨oD6,eD6⟩:=ac.here acc6;obtain⟨m5,o5,es5,ep5,e5,r5⟩:=v5.ns;have dn6:=g6.notIn dn3 eD;refine⟨ds.length-i,by (exists L40,0x3000113021020062010302220101678201008111202100022848,hm,hil,(fs (ds.length) (i))),.mk _ (i+1) tk6 (by (exists L30,0x1111021110022022011202001006100020221000167810000836,hil,(fs (ds.length) (i)))) hil (T.keep (i+1) h4 ρ2 h6 ρ6 st4 (fun b hb o eb=>?_) (fun r' v' a' es er=>?_) (fun b vs ep e=>?_) fun _ _ e=>g6.get e) sok6
    ((g5.trans g6).other (SR.liveAll a.sr) hD0 hs eD6) (x6'.other hs dn6 (a.sr.freshBase hD0) hnt) ⟨m5,o5,es5,ep5,(hs.2 C hne.symm).trans (g6.ext C o5 e5 cn3),r5⟩ (g6.notIn cn3 e5) dn6 (fun b hb=>?_) acc6 hg6⟩
   ·exact(hs.2 b fun q=>ownD (q▸hb)).trans (g6.ext b o (own5 b hb o eb) (own3 b hb))
   ·obtain⟨o,o',e1,e2,e3⟩:=mC es sok3 sok6;have ha':a'∈ρ2:=List.mem_of_getElem? er;obtain⟨ob,eb⟩:=SR.liveAll x4 a' ha';rw[hs.2 a' fun q=>dn3 (q▸ha'),g6.same r' a' o o' er e1 e2 e3,eb]
    exact b5 a' ob (fun hf=>(fr4 a' hf).1 ha') eb
   ·have e6:=x5.tupKeep g6 b vs ep (t5 b vs ep e);exact(hs.2 b fun q=>hnt _ _ _ (q▸e6) rfl rfl).trans e6
   ·obtain⟨o,e⟩:=T.live _ _ _ st4 b hb;exact g6.notIn (own3 b hb) (own5 b hb o e)
  cases turn with
  |skip hf6 sok6 hg6=>
   refine xY.ok hf a5 hC hf6 fun ρ6 h6 tk6 g6 x6=>?_;rw[if_neg (by decide)]
   exact nxt tk6 g6 x6 ⟨rfl,fun _ _=>rfl⟩ (ac.grow acc5 x5 dn3 g6) sok6 hg6
  |take hf6 b1 sok6 hg6=>
   refine xY.ok hf a5 hC hf6 fun ρ6 h6 tk6 g6 x6=>?_;rw[if_pos rfl];obtain⟨oD,eD⟩:=ac.here acc5
   exact body _ ρ6 _ l1 x _ _ _ (a5.grow g6 x6 tk6) (g6.notIn dn3 eD) (ac.grow acc5 x5 dn3 g6) b1 fun ρ7 h' h7 tk7 g7 x7 hs acc7=>nxt tk7 (g6.trans g7) x7 hs acc7 sok6 hg6
 ·obtain rfl:i=ds.length:=Nat.le_antisymm hile (Nat.le_of_not_lt hil);obtain⟨rfl,rfl⟩:=gdone x J2 hgo
  refine T.done { s with heap:=h3,toks:=tk3 } ρ2 _ _ a.room.handled st3 fun h4 tk4 b4=>?_;obtain⟨x4,g4,ns4,acc4⟩:=after h4 b4;exact fin ρ2 h4 tk4 ⟨hD0,hC0,dn3,cn3,hne,ns4,g4,x4⟩ acc4
theorem nn {γ:Type} {Acc:Addr->γ->Heap->List Addr->Prop} {G:Nat->γ->St->Prop} {B1:aB->St->γ->γ->St->Prop} {Bt:Addr->(Value->Shared->Prop)->Env->(Shared->Prop)->Shared->Prop} {R:Addr->Addr->Result->Shared->Prop} {cx:Expr} {target iter:Expr} {ifs:List Expr} {many:Bool} {f:Nat->aB->St->Option (Bool×St)}
  {I:Mine.X} {src:f9} {ds:List D} {x0 xf:γ} {J1 J':St} {ob:Obj} {newAcc:Sem Value} {pos:Pos} {use:Option (Value->Sem Unit)} {Q:Value->Shared->Prop} {E:Value->Shared->Prop}
  (a:At K c env n A s ρ J l) (hC:bW K n) (so:cR c scope names ts next) (hi:eN K c target iter I) (ht:eu (aW c scope names ts next) target ts many=true) (hf:xY K (aW c scope names ts next) ifs f) (hs:∀v,foldedSetIterable iter env v=pure v)
  (he:eA (K.C n) I l J=some (ds,src,J1)) (hR:R=fun D C r s=>compPost K.M A E use Q (.ref D) C r s) (hcx:clausesOf cx=[⟨target,iter,ifs,0⟩])
  (hnew:∀{s:Shared} {Q E:Value->Shared->Prop},Q (.ref s.heap.objs.size) { s with heap:=s.heap.push ob }->wpAny K.M A newAcc Q E s)
  (ac:∀D,tw K D (Acc D)) (acc0:∀{h:Heap} {ρ:List Addr},Acc h.objs.size x0 (h.push ob) ρ)
  (hg:G 0 x0 J1) (gdone:∀x J2,G ds.length x J2->x=xf/\J2=J') (gstep:∀i d x J2,ds[i]?=some d->G i x J2->∃l1,aw ts many d l=some l1/\Ao (f n) B1 (G (i+1)) src l1 J2 x)
  (body:∀D cenv E' s3 ρ3 J3 l1 x x' J4 (k:Shared->Prop),At K (aW c scope names ts next) cenv n A s3 ρ3 J3 l1->D∉ρ3->K.H₀.get? D=none->Acc D x s3.heap ρ3->B1 l1 J3 x x' J4->
   (∀ρ4 h' h4 tk4,au ρ3 J3 ρ4 J4 s3.heap h'->K.sr ρ4 J4 h'->Heap.SameBut D h' h4->Acc D x' h4 ρ4->k { s3 with heap:=h4,toks:=tk4 })->Bt D E' cenv k s3)
  (fin:∀D C ρ' h' tk',fF K s ρ J ρ' J' h' D C->Acc D xf h' ρ'->R D C (.ok .next) { s with heap:=h',toks:=tk' })
  (rule:∀D C it env',jG K.prog K.w A target ifs (.ref it) env' (notedBy K.M A env' fun e s'=>R D C (.error e) s') (fun s=>R D C (.ok .next) s) (Bt D (notedBy K.M A env' fun e s'=>R D C (.error e) s') env') (fun s=>codeAny K.M A (.compLoop cx 0 (.ref it) (.ref D) env') (R D C) s))
  (start:∀D C it env' (s:Shared),codeAny K.M A (.compLoop cx 0 (.ref it) (.ref D) env') (R D C) s->wpAny K.M A (pyIter (.ref it)) (fun it' s'=>codeAny K.M A (.compLoop cx 0 it' (.ref D) env') (R D C) s') (notedBy K.M A env' fun x s'=>R D C (.error x) s') s->codeAny K.M A (.compStart cx 0 (.ref it) (.ref D) env') (R D C) s) :
  wpAny K.M A (comprehension cx scope env pos newAcc false (eval iter env) use) Q E s:=by
 subst hR;obtain⟨cl,k1,k2,k3⟩:=rX (scope:=scope) (env:=env) fun y hy hf=>by
  obtain⟨p,hp,e,b,ov,_,q1,_⟩:=l9 a so y hy hf;exact⟨b,q1⟩
 refine wpAny_comprehension_free hcx hs k1 so.kind so.loc (hi _ _ _ _ _ _ _ _ _ _ _ _ a hC he fun itA own S ρ1 hp1 tk1 T fresh st sok g1 x1=>?_)
 refine hnew (wpAny_newFunctionEnv so.cell nofun (fun h2 hns hsb=>?_) so.kind);have hsz:=Heap.size_push hp1 ob
 have k':∀b o,(hp1.push ob).get? b=some o->h2.get? b=some o:=fun b o e=>hsb.extBut b o (Nat.ne_of_lt (Heap.lt_size e)) (Heap.get?_push_of_some _ e)
 have keep:∀b o,hp1.get? b=some o->h2.get? b=some o:=fun b o e=>k' b o (Heap.get?_push_of_some _ e);have hDz:hp1.get? hp1.objs.size=none:=aO _;have hCz:hp1.get? (hp1.push ob).objs.size=none:=gS (by rw[hsz];exact Nat.le_succ _)
 have no:∀{b},hp1.get? b=none->b∉own:=fun hz ho=>by
  obtain⟨o,e⟩:=T.live 0 hp1 ρ1 st _ ho;rw[hz] at e;cases e
 have st2:S 0 h2 ρ1:=T.keep 0 hp1 ρ1 h2 ρ1 st (fun b hb o e=>keep b o e) (fun r v a' es er=>by
  obtain⟨ob,eb⟩:=SR.liveAll x1 a' (List.mem_of_getElem? er);rw[eb,keep a' ob eb]) (fun _ _ _ e=>keep _ _ e) (fun _ _ e=>e)
 have loop:=rS a hC so ht hf T (fun b hb=>(fresh b hb).1) (ac hp1.objs.size) (C:=(hp1.push ob).objs.size) (by rw[hsz];exact Nat.ne_of_lt (Nat.lt_succ_self _)) (g1.fresh hDz) (g1.fresh hCz) (no hDz) (no hCz) k2 k3 gdone gstep
  (fun s3 ρ3 J3 l1 x x' J4 k a3 d3=>body _ _ _ s3 ρ3 J3 l1 x x' J4 k a3 d3 (a.sr.freshBase (g1.fresh hDz))) (fin _ _) (rule _ _ _ _) (tk1:=tk1) st2 sok (g1.trans (au.keeps x1 keep)) (x1.keeps keep) ⟨_,hns⟩ (x1.freshNot hCz) x1.sizeNot (fun b hb=>(fresh b hb).2)
  ((ac _).grow acc0 (x1.push ob) x1.sizeNot (au.keeps (x1.push ob) k')) hg
 exact start _ _ _ _ _ loop (T.self 0 _ ρ1 _ _ st2 loop)
end
section
variable {K:dj} {c:bV} {env:Env} {n:Nat} {A:Around} {s:Shared} {ρ:List Addr} {J:St} {l:aB} {scope:Scope} {names:List Str} {ts:List Nat} {next:Nat}
theorem kX {Q:Value->Shared->Prop} {E:Value->Shared->Prop} (h:Q (.ref s.heap.objs.size) { s with heap:=s.heap.push { cls:=.type "dict",data:=.dict #[] } }):wpAny K.M A newDict Q E s:=by
 simp only[newDict,newObj];exact wpAny_bind (wpAny_alloc (wpAny_pure h))
theorem aM.stayL {h h':Heap} {L:List Addr} {D:Addr} {es:Es} (r:aM K.prog K.w K.H₀ h ρ D es) (hs:eE L h h') (hD:D∉L) (hn:∀a∈L,bm h a):aM K.prog K.w K.H₀ h' ρ D es:=by
 obtain⟨xs,⟨o,es',ep,e,c,d,he,hkk,hnn⟩,hm,r,kr⟩:=r;have hk:=cz hs hn;exact⟨xs,⟨o,es',ep,hs D _ hD e,c,d,he,fun y hy=>jj (hkk y hy) hs hn,hnn⟩,hm,ak.mono hk (fun _ _ e=>e) _ r,fun y hy=>cj.mono hk (fun _ _ e=>e) _ (kr y hy)⟩
theorem tj {α:Type} {ds:List α} {i:Nat} {d:α} (h:ds[i]?=some d):ds.drop i=d::ds.drop (i+1):=by
 obtain⟨hi,rfl⟩:=List.getElem?_eq_some_iff.mp h;exact List.drop_eq_getElem_cons hi
noncomputable def CB (K:dj) (B:Addr) (out:List D) (h:Heap) (ρ:List Addr):Prop:=∃vs ep,h.get? B=some (seqObj "list" vs ep)/\ak K.H₀ h ρ vs.toList out
theorem Cx (B:Addr):tw K B (CB K B) where
 here:=fun⟨_,_,e,_⟩=>⟨_,e⟩
 notTup:=fun⟨_,_,e,_⟩ ob items n e' hc _=>by rw[e] at e';cases e';simp at hc
 grow:=fun⟨vs,ep,e,r⟩ x hd g=>⟨vs,ep,g.ext B _ e hd,r.grow x g⟩
 butL:=fun⟨vs,ep,e,r⟩ b hd hn=>⟨vs,ep,b B _ hd e,ak.mono (cz b hn) (fun _ _ e=>e) _ r⟩
theorem CV (B:Addr):tw K B (fun es h ρ=>aM K.prog K.w K.H₀ h ρ B es) where
 here:=fun r=>r.here
 notTup:=fun r=>r.notTup
 grow:=fun r x hd g=>r.stay x hd g
 butL:=fun r b hd hn=>r.stayL b hd hn
theorem mL {elt target iter:Expr} {ifs:List Expr} {spos pos:Pos} {use:Option (Value->Sem Unit)} {I X:Mine.X} {many:Bool} {f:Nat->aB->St->Option (Bool×St)} {ds es:List D} {src:f9} {J1 J':St} {Q:Value->Shared->Prop} {E:Value->Shared->Prop}
  (a:At K c env n A s ρ J l) (hC:bW K n) (so:cR c scope names ts next) (hi:eN K c target iter I) (ht:eu (aW c scope names ts next) target ts many=true) (hf:xY K (aW c scope names ts next) ifs f)
  (hx:bg K (aW c scope names ts next) elt X) (hs:∀v,foldedSetIterable iter env v=pure v)
  (he:eA (K.C n) I l J=some (ds,src,J1)) (hl:ds.length<ay) (hg:aY (aw ts many) (f n) (ev (K.C n) X) src l ds J1=some (es,J'))
  (fin:∀D C ρ' h' tk' vs ep,fF K s ρ J ρ' J' h' D C->h'.get? D=some (seqObj "list" vs ep)->ak K.H₀ h' ρ' vs.toList es->compPost K.M A E use Q (.ref D) C (.ok .next) { s with heap:=h',toks:=tk' }) :
  wpAny K.M A (comprehension (.ListComp elt [⟨target,iter,ifs,0⟩] scope spos) scope env pos (newList []) false (eval iter env) use) Q E s:=
 nn (Acc:=CB K) (Bt:=fun B E' cenv k s=>wpAny K.M A (eval elt cenv) (fun x s₄=>wpAny K.M A (call (.builtin "list.append") [.ref B,x]) (fun _ s₅=>k s₅) E' s₄) E' s) (x0:=[]) (xf:=es) (G:=fun i x J2=>x.length<=i/\∃es',es=x++es'/\aY (aw ts many) (f n) (ev (K.C n) X) src l (ds.drop i) J2=some (es',J'))
  (B1:=fun l1 J3 x x' J4=>∃e,ev (K.C n) X l1 J3=some (e,J4)/\x'=x++[e]/\x.length<ay) a hC so hi ht hf hs he rfl rfl (fun h=>wpAny_newList h (Nat.zero_le _)) Cx ⟨#[],0,Heap.get?_push_size _ rfl,trivial⟩ ⟨Nat.le_refl _,es,rfl,hg⟩
  (fun x J2 ⟨_,es',e,h⟩=>by
   rw[List.drop_length] at h
   cases (show some ([],J2)=_ from h);exact⟨(e.trans (List.append_nil x)).symm,rfl⟩)
  (fun i d x J2 hd ⟨hl1,es',e,h⟩=>by
   rw[tj hd] at h;have hi:=(List.getElem?_eq_some_iff.mp hd).1;revert e
   refine n4 (fun l1 J3 h1 h2 h3 h4 e=>⟨l1,h1,.skip h2 h3 ⟨Nat.le_succ_of_le hl1,_,e,h4⟩⟩) (fun l1 J3 e1 J4 es1 J5 h1 h2 h3 h4 h5 e=>⟨l1,h1,.take h2 ⟨e1,h3,rfl,Nat.lt_trans (Nat.lt_of_le_of_lt hl1 hi) hl⟩ h4 ⟨by rw[List.length_append];exact Nat.succ_le_succ hl1,es1,by rw[e,List.append_assoc];rfl,h5⟩⟩) h)
  (fun B cenv E' s3 ρ3 J3 l1 x x' J4 k a3 hB hB0 ⟨vs,ep,e,r⟩ ⟨e1,h1,ex,hl1⟩ hk=>by
   refine hx _ _ _ _ _ _ _ _ _ _ _ a3 hC h1 fun v7 ρ7 h7 tk7 g7 x7 r7=>?_;have hd7:=g7.ext B _ e hB;have rr7:=r.grow a3.sr g7;have hnt:=(Cx (K:=K) B).notTup ⟨vs,ep,hd7,rr7⟩;have hsz:vs.size=x.length:=by have:=r.length;simpa using this
   have hU:IsL (h7.update B (Obj.mapSeq fun x=>x.push v7)) B (vs.push v7) (if (vs.push v7).size==vs.size then ep else ep+1):=IsL.update hd7 fun x=>x.push v7
   have hsU:Heap.SameBut B h7 (h7.update B (Obj.mapSeq fun x=>x.push v7)):=Heap.SameBut.update ..;refine call_meets PySem.F.slot_list_append ⟨_,hd7,rfl⟩ PySem.F.entry_list_append (PySem.F.args_list_append_2 _ _) (AutoListH.list_append_list_val_0 B vs ep v7 (by rw[hsz];exact bC hl1)) ⟨hd7,?_⟩;refine hk ρ7 h7 _ tk7 g7 x7 hsU ⟨_,_,hU,?_⟩;rw[ex,Array.toList_push];exact(rr7.other hsU hnt).append ⟨r7.other hsU hnt,trivial⟩)
  (fun B C ρ' h' tk' ce ⟨vs,ep,e,r⟩=>fin B C ρ' h' tk' vs ep ce e r) (fun _ _ _ _=>ms) fun _ _ _ _ _=>codeAny_compStart_list
theorem ni {kx vx target iter:Expr} {ifs:List Expr} {spos pos:Pos} {use:Option (Value->Sem Unit)} {I X Y:Mine.X} {many:Bool} {f:Nat->aB->St->Option (Bool×St)} {ds:List D} {es:Es} {src:f9} {J1 J':St} {Q:Value->Shared->Prop} {E:Value->Shared->Prop}
  (a:At K c env n A s ρ J l) (hC:bW K n) (so:cR c scope names ts next) (hi:eN K c target iter I) (ht:eu (aW c scope names ts next) target ts many=true) (hf:xY K (aW c scope names ts next) ifs f)
  (hx:bg K (aW c scope names ts next) kx X) (hy:bg K (aW c scope names ts next) vx Y) (hs:∀v,foldedSetIterable iter env v=pure v)
  (he:eA (K.C n) I l J=some (ds,src,J1)) (hg:bf (aw ts many) (f n) (ev (K.C n) X) (ev (K.C n) Y) src l ds [] J1=some (es,J'))
  (fin:∀D C ρ' h' tk',fF K s ρ J ρ' J' h' D C->aM K.prog K.w K.H₀ h' ρ' D es->compPost K.M A E use Q (.ref D) C (.ok .next) { s with heap:=h',toks:=tk' }) :
  wpAny K.M A (comprehension (.DictComp kx vx [⟨target,iter,ifs,0⟩] scope spos) scope env pos newDict false (eval iter env) use) Q E s:=
 nn (Acc:=fun B es h ρ=>aM K.prog K.w K.H₀ h ρ B es) (Bt:=fun B E' cenv k s=>wpAny K.M A (eval kx cenv) (fun kv s₄=>wpAny K.M A (eval vx cenv) (fun vv s₅=>wpAny K.M A (dictSet B kv vv) (fun _ s₆=>k s₆) E' s₅) E' s₄) E' s) (x0:=[]) (xf:=es) (G:=fun i x J2=>bf (aw ts many) (f n) (ev (K.C n) X) (ev (K.C n) Y) src l (ds.drop i) x J2=some (es,J'))
  (B1:=fun l1 J3 x x' J4=>∃ks kk v J5,ev (K.C n) X l1 J3=some (.tup ks,J5)/\aG ks=some kk/\ev (K.C n) Y l1 J5=some (v,J4)/\x.length<ay/\x'=bZ x kk v) a hC so hi ht hf hs he rfl rfl kX CV (aM.new _ _) hg
  (fun x J2 h=>by
   rw[List.drop_length] at h
   cases (show some (x,J2)=_ from h);exact⟨rfl,rfl⟩)
  (fun i d x J2 hd h=>by
   rw[tj hd] at h
   exact mo (fun l1 J3 h1 h2 h3 h4=>⟨l1,h1,.skip h2 h3 h4⟩) (fun l1 J3 ks J4 kk v J5 h1 h2 h3 h4 h5 h6 h7 h8=>⟨l1,h1,.take h2 ⟨ks,kk,v,J4,h3,h4,h5,h7,rfl⟩ h6 h8⟩) h)
  (fun B cenv E' s3 ρ3 J3 l1 x x' J4 k a3 hB hB0 acc ⟨ks,kk,v,J5,h1,h2,h3,hl,ex⟩ hk=>by
   refine hx _ _ _ _ _ _ _ _ _ _ _ a3 hC h1 fun v7 ρ7 h7 tk7 g7 x7 r7=>?_
   refine hy _ _ _ _ _ _ _ _ _ _ _ (a3.grow g7 x7 tk7) hC h3 fun v8 ρ8 h8 tk8 g8 x8 r8=>?_;obtain⟨t,ws,epk,rfl,gk8,rk8⟩:=r7.grow x7 g8
   refine iH (A:=A) (by have:=a3.room.u;exists L20,0x1011100201028210020824,this) (acc.stay a3.sr hB (g7.trans g8)) (gW ⟨t,ws,epk,rfl,gk8,rk8⟩ h2) r8 hl fun h9 tk9 hsU dx9=>?_;exact hk ρ8 h8 h9 tk9 (g7.trans g8) x8 hsU (ex▸dx9))
  (fun B C ρ' h' tk' ce r=>fin B C ρ' h' tk' ce r) (fun _ _ _ _=>mu) fun _ _ _ _ _=>codeAny_compStart_dict
end
section
variable {K:dj} {c:bV} {env:Env} {n:Nat} {A:Around} {s:Shared} {ρ:List Addr} {J:St} {l:aB} {scope:Scope} {names:List Str} {ts:List Nat} {next:Nat}
theorem fF.gone {ρ':List Addr} {J':St} {h' h'':Heap} {D C:Addr} (e:fF K s ρ J ρ' J' h' D C) (x0:K.sr ρ J s.heap) (hs:Heap.SameBut C h' h'') :
  au ρ J ρ' J' s.heap h''/\K.sr ρ' J' h''/\eE [C] h' h''/\bm h' C:=by
 obtain⟨m,hn⟩:=e.ns;have hb:=d7 hs;have hnt:=jO hn;refine⟨e.g.otherL (SR.liveAll e.x) (fun b hb=>by rw[List.mem_singleton.mp hb];exact⟨e.c0,e.cn⟩) hb,e.x.otherL hb (fun b hb=>by rw[List.mem_singleton.mp hb];exact⟨e.cn,x0.freshBase e.c0,hnt⟩),hb,hnt⟩
structure qd (K:dj) (c:bV) (elt target iter:Expr) (ifs:List Expr) (scope:Scope) (X I:Mine.X) (ts:List Nat) (many:Bool) (o:Option Mine.X):Prop where
 it:∀env v,foldedSetIterable iter env v=pure v
 ok:∃names next,cR c scope names ts next/\eN K c target iter I/\eu (aW c scope names ts next) target ts many=true/\bg K (aW c scope names ts next) elt X/\
  (match o with|none=>ifs=[]|some Y=>∃e,ifs=[e]/\md K (aW c scope names ts next) e Y)
theorem qd.run {elt target iter:Expr} {ifs:List Expr} {X I:Mine.X} {many:Bool} {o:Option Mine.X} {spos pos:Pos} {use:Option (Value->Sem Unit)} {es:List D} {J':St} {Q:Value->Shared->Prop} {E:Value->Shared->Prop} (L:qd K c elt target iter ifs scope X I ts many o)
  (a:At K c env n A s ρ J l) (hC:bW K n) (he:di (K.C n) (.aE X ts many I o) l J=some (es,J'))
  (fin:∀D C ρ' h' tk' vs ep,fF K s ρ J ρ' J' h' D C->h'.get? D=some (seqObj "list" vs ep)->ak K.H₀ h' ρ' vs.toList es->compPost K.M A E use Q (.ref D) C (.ok .next) { s with heap:=h',toks:=tk' }) :
  wpAny K.M A (comprehension (.ListComp elt [⟨target,iter,ifs,0⟩] scope spos) scope env pos (newList []) false (eval iter env) use) Q E s:=by
 obtain⟨names,next,so,hi,ht,hx,hif⟩:=L.ok
 cases o with
 |none=>
  simp only at hif;subst hif
  exact um (fun ds src J1 h1 hl he=>mL a hC so hi ht .none hx (L.it env) h1 hl he fin) he
 |some Y=>
  obtain⟨e,rfl,hT⟩:=hif
  exact pD (fun ds src J1 h1 hl he=>mL a hC so hi ht (.one hT) hx (L.it env) h1 hl he fin) he
theorem eC.comp {elt target iter:Expr} {ifs:List Expr} {X I:Mine.X} {many:Bool} {o:Option Mine.X} {pos:Pos} (L:qd K c elt target iter ifs scope X I ts many o):eC K c true (.ListComp elt [⟨target,iter,ifs,0⟩] scope pos) (.aE X ts many I o):=
 fun env n A s ρ J l ds J' Q E a hC he h=>by
  rw[arm_eval_ListComp]
  refine L.run (use:=none) a hC he fun D C ρ' h' tk' vs ep ce hD rr=>?_;obtain⟨m,hn⟩:=ce.ns;refine⟨m,hn,fun h'' hs=>?_⟩;obtain⟨g,x,b,hnt⟩:=ce.gone a.sr hs
  exact h D vs ep ρ' h'' tk' g x (fun _=>⟨ce.d0,ce.dn⟩) ((hs.2 D ce.ne).trans hD) (rr.other hs hnt)
theorem A6 {C:Nat->List D->St->Option (D×St)} {L:Mine.X} {J1:St} {ds:List D} (h:di C L l J=some (ds,J1)):ev C (.lst L) l J=some (.ref J1.length,J1++[.list ds 0]):=by
 show(match di C L l J with|some (ds,J1)=>some (D.ref J1.length,J1++[AO.list ds 0])|none=>none)=_;rw[h]
theorem bB.asgL {x:Str} {i:Nat} {np pos:Pos} {elt target iter:Expr} {ifs:List Expr} {X I:Mine.X} {many:Bool} {o:Option Mine.X} {cp:Pos} (L:qd K c elt target iter ifs scope X I ts many o) (ok:c.ok=true) (hs:fI c (x,i)=true) :
  bB K c (.Assign [.Name x np] (.ListComp elt [⟨target,iter,ifs,0⟩] scope cp) pos) (.asg i (.lst (.aE X ts many I o))):=fun env n A s ρ J l fl l' J' Q E a hC he p=>by
 have hsw:swapsWith (.ListComp elt [⟨target,iter,ifs,0⟩] scope cp) (some (.Name x np)) pos.line env=pure (env.blockKind==.function&&env.kindOf x==some .local&&np.line==cp.line
   && !(scope.names.any fun(n,k)=>n==x&&(k==.local || k==.cell))):=rfl
 revert p
 refine s5 (fun d J1 h1=>?_) he
 refine sZ (fun es J2 h2 p=>?_) h1
 ··skip
   cases hb:(env.blockKind==.function&&env.kindOf x==some .local&&np.line==cp.line&&!(scope.names.any fun(n,k)=>n==x&&(k==.local || k==.cell))) with
   |false=>
    rw[hb] at hsw;refine wpAny_Assign_Name ?_ hsw
    have hX:=aK.lst (eC.comp (pos:=cp) L) (fun _ _=>rfl)
    refine hX.1 _ _ _ _ _ _ _ _ _ _ _ a hC (A6 h2) fun v1 ρ1 hp1 tk1 g1 x1 r1=>?_
    exact i5 a.ev x1 (a.vars.grow a.sr g1) ok hs r1 fun h' tk g x' v' _=>p .next ρ1 h' tk ((bE.of g1).trans g) x' v' rfl
   |true=>
    rw[hb] at hsw;rw[exec_Assign_Name_used _ _ _ _ hsw];refine wpAny_bind (wpAny_standAt ?_)
    show wpAny K.M A ((comprehension (.ListComp elt [⟨target,iter,ifs,0⟩] scope cp) scope env _ (newList []) false (eval iter env) (some (assign (.Name x np) env)) >>= fun _=>pure ()) >>= fun _=>pure Flow.next) Q E s
    refine wpAny_bind (wpAny_bind (L.run (use:=some (assign (.Name x np) env)) a hC h2 fun D C ρ' h' tk' vs ep ce hD rr=>?_));have g1:=ce.g.adopt (ob:=.list es 0) ce.d0;have x1:K.sr (ρ'++[D]) (J2++[.list es 0]) h':=ce.x.adopt ce.dn (a.sr.freshBase ce.d0) ⟨vs,ep,hD,rr.more _⟩;have v1:=a.vars.grow a.sr g1;have r1:K.rep h' (ρ'++[D]) (.ref D) (.ref (List.length J2)):=⟨D,rfl,by rw[<-ce.x.len,List.getElem?_append_right (Nat.le_refl _),Nat.sub_self];rfl⟩;obtain⟨hm,hk⟩:=i6 hs
    have cn1:C∉ρ'++[D]:=fun q=>by
     rcases List.mem_append.mp q with q|q
     ·exact ce.cn q
     ·exact ce.ne (List.mem_singleton.mp q).symm
    have cF:C∉frame c env:=fun q=>by
     obtain⟨ob,eb⟩:=(a.vars.frameOk a.ev a.sr C q).2.2.2;rw[ce.c0] at eb;cases eb
    refine wpAny_assign_Name (gF (s:={ s with heap:=h',toks:=tk' }) a.ev x1 v1 ok hm hk r1 fun h2 tk2 b2 lv2 x2 v2 t2=>?_);obtain⟨m,o,eo,ep',en,rn⟩:=ce.ns;have en2:h2.get? C=some o:=b2 C o cF en;refine⟨m,⟨o,eo,ep',en2,rn⟩,fun h3 hs3=>?_⟩;refine wpAny_pure (wpAny_pure ?_);have hb3:=d7 hs3;have hnt:bm h2 C:=jO ⟨o,eo,ep',en2,rn⟩
    have x3:K.sr (ρ'++[D]) (J2++[.list es 0]) h3:=x2.otherL hb3 fun b hb=>by rw[List.mem_singleton.mp hb];exact⟨cn1,a.sr.freshBase ce.c0,hnt⟩
    have gX:bE (frame c env) ρ J (ρ'++[D]) (J2++[.list es 0]) s.heap h2:=(bE.of g1).trans (cX (s:={ s with heap:=h',toks:=tk' }) a.ev x1 v1 b2 lv2)
    have gX3:=gX.otherL (SR.liveAll x2) (L:=[C]) (fun b hb=>by rw[List.mem_singleton.mp hb];exact⟨.inl ce.c0,cn1⟩) (fun b hb hX=>by rw[List.mem_singleton.mp hb] at hX;exact absurd hX cF) hb3
    have v3:df K c env h3 (ρ'++[D]) (l.set i (some (.ref (List.length J2)))):=v2.otherL hb3 (fun q=>cF (by rw[<-List.mem_singleton.mp q];exact List.mem_cons_self ..)) (fun q hq b hb hk hbC=>by
     obtain⟨ob,eb⟩:=a.vars.cellsLive q hq b hb hk;rw[List.mem_singleton.mp hbC,ce.c0] at eb;cases eb) fun b hb=>by rw[List.mem_singleton.mp hb];exact hnt
    exact p .next _ h3 tk2 gX3 x3 v3 rfl
structure Ap (K:dj) (c:bV) (kx vx target iter:Expr) (ifs:List Expr) (scope:Scope) (X Y I:Mine.X) (ts:List Nat) (many:Bool) (o:Option Mine.X):Prop where
 it:∀env v,foldedSetIterable iter env v=pure v
 ok:∃names next,cR c scope names ts next/\eN K c target iter I/\eu (aW c scope names ts next) target ts many=true/\bg K (aW c scope names ts next) kx X/\bg K (aW c scope names ts next) vx Y/\
  (match o with|none=>ifs=[]|some Z=>∃e,ifs=[e]/\md K (aW c scope names ts next) e Z)
theorem aK.ff {kx vx target iter:Expr} {ifs:List Expr} {X Y I:Mine.X} {many:Bool} {o:Option Mine.X} {pos:Pos} (L:Ap K c kx vx target iter ifs scope X Y I ts many o):aK K c (.DictComp kx vx [⟨target,iter,ifs,0⟩] scope pos) (.ff X Y ts many I o):=
 aK.of (fun env n A s ρ J l d J' Q E a hC he=>by
  obtain⟨names,next,so,hi,ht,hx,hy,hif⟩:=L.ok;rw[arm_eval_DictComp];have fin:∀{es:Es} {J2:St},kG K ρ J (J2++[.dict es 0]) s (.ref J2.length) Q->∀D C ρ' h' tk',fF K s ρ J ρ' J2 h' D C->aM K.prog K.w K.H₀ h' ρ' D es->compPost K.M A E none Q (.ref D) C (.ok .next) { s with heap:=h',toks:=tk' }:=by
   intro es J2 p D C ρ' h' tk' ce dx;obtain⟨m,hn⟩:=ce.ns;refine⟨m,hn,fun h'' hs=>?_⟩;obtain⟨g,x,b,hnt⟩:=ce.gone a.sr hs
   have dx':aM K.prog K.w K.H₀ h'' ρ' D es:=dx.stayL b (fun q=>ce.ne (List.mem_singleton.mp q)) fun q hq=>by rw[List.mem_singleton.mp hq];exact hnt
   refine p _ (ρ'++[D]) h'' tk' (g.adopt ce.d0) (x.adopt ce.dn (a.sr.freshBase ce.d0) (aK.dict.ObjRep.more dx' _)) ⟨D,rfl,?_⟩;rw[<-x.len,List.getElem?_append_right (Nat.le_refl _),Nat.sub_self];rfl
  cases o with
  |none=>
   cases hif
   exact uo (fun ds src J1 es J2 h1 h2 p=>ni a hC so hi ht .none hx hy (L.it env) h1 h2 (fin p)) he
  |some Z=>
   obtain⟨e,rfl,hT⟩:=hif
   exact pF (fun ds src J1 es J2 h1 h2 p=>ni a hC so hi ht (.one hT) hx hy (L.it env) h1 h2 (fin p)) he) (fun _ _=>rfl)
end
section
variable {prog:Program} {w:World} {A:Around} {E:Value->Shared->Prop} {s:Shared}
theorem jQ {es:Array DictEntry} (hn:(es.toList.map (·.hash)).Nodup) (e:DictEntry):¬(es.filter (·.hash==e.hash)).size>1:=by
 intro h;have key:∀l:List DictEntry,(l.map (·.hash)).Nodup->(l.filter (·.hash==e.hash)).length<=1:=by
  intro l;induction l with
  |nil=>intro _;simp
  |cons x r ih=>
   intro hn;simp only[List.map_cons,List.nodup_cons] at hn;by_cases q:x.hash==e.hash
   ·simp only[List.filter_cons,q,if_true];have:r.filter (·.hash==e.hash)=[]:=by
     rw[List.filter_eq_nil_iff];intro y hy hq;exact hn.1 (by
      have:x.hash=y.hash:=by rw[beq_iff_eq] at q hq;rw[q,hq]
      rw[this];exact List.mem_map_of_mem hy)
    rw[this];simp
   ·have q':(x.hash==e.hash)=false:=by simpa using q
    simp only[List.filter_cons,q',Bool.false_eq_true,if_false];exact ih hn.2
 have h1:=key es.toList hn;rw[<-Array.toList_filter,Array.length_toList] at h1;exact Nat.lt_le_asymm h h1
theorem xc {id:String} {d:Addr} {o:Obj} {es:Array DictEntry} {ep:Nat} {xs:List (List Int×Addr×Value)} {Q:Array DictEntry->Shared->Prop} (ho:s.heap.get? d=some o) (hd:o.data = .dict es ep) (he:es.toList=xs.map (entryOfKey (ci prog w)))
  (his:∀x∈xs,(ci prog w).is s.heap x.1 x.2.1) (hn:(es.toList.map (·.hash)).Nodup) (h:Q es s):wpAny (model prog w) A (Builtin.Dict.entriesForEmpty id d) Q E s:=by
 unfold Builtin.Dict.entriesForEmpty;refine wpAny_bind (wpAny_dictEntries ho hd ?_);refine wpAny_bind ?_;rw[<-Array.forIn_toList]
 refine wpAny_forIn_list _ (fun rest _ s'=>s'=s/\∀e∈rest,e∈es.toList) _ ?_ ?_ _ _ ⟨rfl,fun e he=>he⟩
 ·rintro e rest b s' ⟨rfl,hr⟩;have hm:=hr e (List.mem_cons_self ..);rw[he] at hm;obtain⟨x,hx,rfl⟩:=List.mem_map.mp hm;have hT:s'.TypeIs (.ref x.2.1) "tuple":=by
   obtain⟨o',_,_,ho',hc',_⟩:=his x hx;exact⟨o',ho',hc'⟩
  refine wpAny_bind ?_;unfold Builtin.Dict.quietEq;refine wpAny_bind (wpAny_specialOf hT PySem.F.slot_tuple_eq.lookup (wpAny_pure ?_));have e1:(some (Value.builtin "tuple.__eq__")==some (Value.builtin "object.__eq__"))=false:=by decide
  rw[e1];simp only[Bool.not_false,if_true];rw[if_neg (jQ hn _)]
  exact wpAny_pure ⟨rfl,fun e he=>hr e (List.mem_cons_of_mem _ he)⟩
 ·rintro b s' ⟨rfl,_⟩;exact wpAny_pure h
end
section
variable {K:dj} {c:bV} {env:Env} {n:Nat} {A:Around} {s:Shared} {ρ:List Addr} {J:St} {l:aB}
theorem aK.dictOf {o:Expr} {O:Mine.X} {np pos:Pos} (hg:c.scope.names.lookup ("dict":Str)=some .globalImplicit) (hs:az o=true) (ho:bg K c o O):aK K c (.Call (.Name ("dict":Str) np) [o] [] pos) (.dictOf O):=
 aK.of (fun env n A s ρ J l d J' Q E a hC he=>by
  refine ru (fun r J1 es w0 h1 h3 hlim p=>?_) he
  refine iL (T:="dict") a hg (by decide) (by decide) (by decide) (by decide +kernel) hs (ho _ _ _ _ _ _ _ _ _ _ _ a hC h1 fun v1 ρ1 hp1 tk1 g1 x1 r1=>?_);obtain⟨t,rfl,gt⟩:=r1;have hS:=jP a.ok x1 (List.mem_of_getElem? gt);obtain⟨xs,⟨oo,ens,ep,ho,hc,hd,hee,his,hn⟩,hm,hr,kr⟩:=SR.dictAt x1 gt h3
  refine callType_codes (Q₁:=fun obj s₁=>obj = .ref hp1.objs.size/\s₁={ s with heap:=hp1.push { cls:=.type "dict",data:=.dict #[] },toks:=tk1 }) PySem.F.kt_called_dict (PySem.F.kt_typeCall_dict_1 _) PySem.F.entry_dict_init (kt_code_dict_new _ ⟨rfl,rfl⟩) ?_;rintro obj s₁ ⟨rfl,rfl⟩;have hnewg:(hp1.push { cls:=.type "dict",data:=.dict #[] }).get? hp1.objs.size=some { cls:=.type "dict",data:=.dict #[] }:=Heap.get?_push_size _ rfl;have hnT:Shared.TypeIs { s with heap:=hp1.push { cls:=.type "dict",data:=.dict #[] },toks:=tk1 } (.ref hp1.objs.size) "dict":=⟨_,hnewg,rfl⟩;have ho':(hp1.push { cls:=.type "dict",data:=.dict #[] }).get? t=some oo:=Heap.get?_push_of_some _ ho;have hoT:Shared.TypeIs { s with heap:=hp1.push { cls:=.type "dict",data:=.dict #[] },toks:=tk1 } (.ref t) "dict":=⟨_,ho',hc.1⟩
  have hdo:hp1.objs.size≠t:=fun e=>absurd (Heap.lt_size ho) (by rw[e];exact Nat.lt_irrefl _);refine⟨hnT,PySem.F.args_dict_init_2 _ _,?_⟩;unfold Builtin.«dict.__init__»;refine wpAny_bind ?_;unfold Builtin.Dict.selfAndRest;refine wpAny_bind (wpAny_notOrdered_dict hnT ?_);show wpAny _ _ (pure (hp1.objs.size,[Value.ref t])) _ _ _;refine wpAny_pure ?_;show wpAny _ _ (Builtin.Dict.updateFrom "dict.__init__" hp1.objs.size (.ref t) [] .none) _ _ _;unfold Builtin.Dict.updateFrom;refine wpAny_bind (wpAny_typeOf hoT ?_);rw[if_neg (by decide)];refine wpAny_bind ?_;unfold Builtin.Dict.merge;refine wpAny_bind ?_;unfold Builtin.Dict.readDirectly;refine wpAny_bind (wpAny_isInstance hoT isSubtype_dict_dict ?_);simp only[Bool.not_true,Bool.false_eq_true,if_false];refine wpAny_bind (wpAny_specialOf hoT PySem.F.slot_dict_iter.lookup (wpAny_pure ?_));simp only[beq_self_eq_true,if_true];refine wpAny_bind (wpAny_pure ?_);have hxl:xs.length=es.length:=by simpa using congrArg List.length hm
  have hel:ens.size=xs.length:=size_of_entries hee
  have fin:∀h',Heap.SameBut hp1.objs.size (hp1.push { cls:=.type "dict",data:=.dict #[] }) h'->h'.DictOfH (ci K.prog K.w) hp1.objs.size xs->Q (.ref hp1.objs.size) { s with heap:=h',toks:=tk1 }:=fun h' hs' dx=>by
   have keep:∀b o,hp1.get? b=some o->h'.get? b=some o:=fun b o e=>(hs'.2 b (Nat.ne_of_lt (Heap.lt_size e))).trans (Heap.get?_push_of_some _ e);have gk:=au.keeps x1 keep;have htk:=x1.tupKeep gk
   have pre:xU ρ1 (ρ1++[hp1.objs.size]):=fun _ _ e=>by rw[List.getElem?_append_left (List.getElem?_eq_some_iff.mp e).1];exact e
   refine p _ (ρ1++[hp1.objs.size]) h' tk1 ((g1.trans gk).adopt (g1.fresh (aO _))) ((x1.keeps keep).adopt x1.sizeNot (x1.freshBase (aO _)) ⟨xs,dx,hm,ak.mono htk pre _ hr,fun y hy=>cj.mono htk pre _ (kr y hy)⟩) ⟨_,rfl,?_⟩;rw[<-x1.len,List.getElem?_append_right (Nat.le_refl _),Nat.sub_self];rfl
  unfold Builtin.Dict.mergeDict;rw[if_neg (by simpa using hdo)];unfold Builtin.Dict.showsAll;rw[if_neg (by rw[hS];exact Bool.false_ne_true)];refine wpAny_bind (wpAny_pure ?_);refine wpAny_bind (wpAny_dictEntries ho' hd ?_);have hnd:(ens.toList.map (·.hash)).Nodup:=by
   have h1:=hlim.2;simp only[dK,decide_eq_true_eq] at h1
   have e1:(es.map fun e=>kj e.1)=ens.toList.map (·.hash):=by
    rw[hee,List.map_map];have:(es.map fun e=>kj e.1)=(es.map (·.1)).map kj:=by rw[List.map_map];rfl
    rw[this,<-hm,List.map_map];rfl
   rw[<-e1];exact h1
  have hsz:ens.size<=sizeLine:=by rw[hel,hxl];exact bC hlim.1
  dsimp only;split
  ·refine wpAny_bind (wpAny_dictEntries hnewg rfl ?_);rw[if_pos (show(#[]:Array DictEntry).isEmpty=true from rfl)]
   have keepP:∀b o,hp1.get? b=some o->(hp1.push { cls:=.type "dict",data:=.dict #[] }).get? b=some o:=fun b o e=>Heap.get?_push_of_some _ e
   refine wpAny_bind (xc (s:={ s with heap:=hp1.push { cls:=.type "dict",data:=.dict #[] },toks:=tk1 }) ho' hd hee (fun x hx=>gL (his x hx) fun o e=>keepP _ o e) hnd ?_);split
   ·refine wpAny_bind (wpAny_updateDictKeysTo hnewg rfl (wpAny_pure (wpAny_bind (wpAny_pure (wpAny_pure ⟨rfl,fin _ (Heap.SameBut.update ..) ⟨_,_,0+1,Heap.get?_update_self _ hnewg (Obj.isFreed_of_dict (Obj.data_mapDictKeys rfl _)),(show Obj.ExactDict _ from ⟨rfl,rfl,rfl⟩),Obj.data_mapDictKeys rfl _,hee,fun x hx=>?_,hn⟩⟩)))) (by omega))
    have hk1:=gL (his x hx) fun o e=>keepP _ o e
    exact gK hk1 (Heap.SameBut.update ..) (fun ob items n e hc _=>by rw[hnewg] at e;cases e;simp at hc)
   ·rename_i hem;have h0:ens=#[]:=Array.isEmpty_iff.mp (by simpa using hem);have hx0:xs=[]:=List.length_eq_zero_iff.mp (by rw[<-hel,h0];rfl);refine wpAny_pure (wpAny_bind (wpAny_pure (wpAny_pure ⟨rfl,fin _ (Heap.SameBut.refl _ _) ?_⟩)));rw[hx0];exact Heap.DictOfH.new _
  ·rename_i hfew;have h0:ens=#[]:=by
    have hfew':(ens.all fun e=>(keyPart e.key).isSome)=true:=by
     have:(decide (ens.size<=8)&&ens.all fun e=>(keyPart e.key).isSome)=true:=by
      revert hfew
      generalize (decide (ens.size<=8)&&ens.all fun e=>(keyPart e.key).isSome)=bb
      cases bb<;>simp
     exact(Bool.and_eq_true _ _▸this).2
    cases hx:xs with
    |nil=>
     have:ens.size=0:=by rw[hel,hx];rfl
     exact Array.eq_empty_of_size_eq_zero this
    |cons y ys=>
     have hm0:entryOfKey (ci K.prog K.w) y∈ens:=by
      rw[<-Array.mem_toList_iff,hee,hx];simp
     have:=(Array.all_eq_true_iff_forall_mem.mp hfew') _ hm0;simp[entryOfKey,keyPart] at this
   have hx0:xs=[]:=List.length_eq_zero_iff.mp (by rw[<-hel,h0];rfl);subst h0;refine wpAny_bind (wpAny_dictEpoch ho' hd ?_);refine wpAny_bind (wpAny_dictEntries ho' hd ?_);refine wpAny_bind (wpAny_of_eq (a:=PUnit.unit) (by rw[Std.Legacy.Range.forIn_eq_forIn_range'];rfl) ?_);refine wpAny_pure (wpAny_bind (wpAny_pure (wpAny_pure ⟨rfl,fin _ (Heap.SameBut.refl _ _) ?_⟩)));rw[hx0];exact Heap.DictOfH.new _) (fun _ _=>rfl)
end
theorem nU:typeLookup (.type "list") "keys"=pure none:=by rw[typeLookup_type,builtinLookup_eq_fast];kernel_rfl
section
variable {prog:Program} {w:World} {A:Around} {E:Value->Shared->Prop} {s:Shared}
theorem uO {a:Addr} {xs:Array Value} {k:Nat} {Q:Option Value->Shared->Prop} (hx:s.heap.get? a=some (seqObj "list" xs k)) (hA:A.handled=none)
  (h:∀h' tk,(∀b o,s.heap.get? b=some o->h'.get? b=some o)->Q none { s with heap:=h',toks:=tk }):wpAny (model prog w) A (getAttr? (.ref a) "keys") Q E s:=by
 have hmiss:=nU;obtain⟨hp,g,d,tk,os⟩:=s
 have hT:∀tk',(⟨hp,g,d,tk',os⟩:Shared).TypeIs (.ref a) "list":=fun _=>⟨_,hx,rfl⟩
 have f1:=sub_AttributeError;have f3:=PySem.F.slot_list_getattribute.lookup;have f4:=PySem.F.slot_list_getattribute.bind (.ref a);have f5:=am_list_getattr_none;unfold getAttr? getAttrBy? getAttrBy
 repeat (any_goals (first|assumption|exact hT _|((with_reducible show wpAny _ _ (call (Value.builtin "list.__getattribute__") _ _) _ _ _);refine call_meets PySem.F.slot_list_getattribute (hT _) am_entry_list_getattribute (PySem.F.args_list_getattribute_2 _ _) (meets_getattribute_miss_list a xs k #[] "keys" _ hmiss (by decide) (by decide +kernel)) ⟨hx,hA,fun h' tk' e hx'=>?_⟩)|wp_step))
 obtain⟨t',u',he⟩:=hx'.there;show wpAny _ _ (getattributeRaised _ _ _ _ _ _ _) _ _ _;unfold getattributeRaised;repeat (any_goals (first|assumption|wp_step))
 all_goals exact h _ _ hx'.keeps
theorem ng:entryFor table "dict.update.loop"=some Builtin.«dict.update.loop»:=entryFor_of_tree (by kernel_rfl)
theorem gU:plainId "dict.update.loop"=true:=by decide +kernel
end
section
variable {K:dj} {c:bV} {env:Env} {n:Nat} {A:Around} {s:Shared} {ρ:List Addr} {J:St} {l:aB}
theorem ak.two {H:Heap} {h:Heap} {ws:List Value} {a b:D} (r:ak H h ρ ws [a,b]):∃x y,ws=[x,y]/\cj H h ρ x a/\cj H h ρ y b:=by
 cases ws with
 |nil=>exact r.elim
 |cons x ws=>
  obtain⟨r1,r⟩:=r
  cases ws with
  |nil=>exact r.elim
  |cons y ws=>
   obtain⟨r2,r⟩:=r
   cases ws with
   |nil=>exact⟨x,y,rfl,r1,r2⟩
   |cons _ _=>exact r.elim
theorem qC {P:Prop} {acc es:Es} {dd:D} {r:List D} (k:∀ks dv kk,dd = .tup [.tup ks,dv]->aG ks=some kk->acc.length<ay->dX (bZ acc kk dv) r=some es->P) (e:dX acc (dd::r)=some es):P:=by
 cases dd with
 |tup l=>
  cases l with
  |nil=>exact dR e
  |cons x l=>
   cases x with
   |tup ks=>
    cases l with
    |nil=>exact dR e
    |cons dv l=>
     cases l with
     |nil=>
      replace e:(match aG ks with|some k=>if acc.length<ay then dX (bZ acc k dv) r else none|none=>none)=some es:=e
      cases q:aG ks with
      |none=>rw[q] at e;cases e
      |some kk=>rw[q] at e;exact ch (k ks dv kk rfl q) e
     |cons _ _=>exact dR e
   |_=>exact dR e
 |_=>exact dR e
theorem yc {h0:Heap} {it ad d:Addr} {vs:Array Value} {ep:Nat} {ds:List D} {es:Es} {R:Result->Shared->Prop} (hu:A.units+10<cLine) (hh:A.handled=none) (x:K.sr ρ J h0) (hl:h0.get? ad=some (seqObj "list" vs ep)) (rr:ak K.H₀ h0 ρ vs.toList ds)
  (hne:it≠d) (hit0:h0.get? it=none) (hd0:h0.get? d=none)
  (fin:∀h' tk',(∀b o,h0.get? b=some o->h'.get? b=some o)->aM K.prog K.w K.H₀ h' ρ d es->R (.ok (.ret .none)) { s with heap:=h',toks:=tk' }) :
  ∀(r:List D) (i:Nat) (acc:Es) (h:Heap) (tk:Nat),ds.drop i=r->dX acc r=some es->(∀b o,h0.get? b=some o->h.get? b=some o)->h.IsListIter it ad i->aM K.prog K.w K.H₀ h ρ d acc->
   codeAny K.M A (.builtin "dict.update.loop" ⟨[.ref d,.ref it,rawInt i,.none],[]⟩) R { s with heap:=h,toks:=tk }:=by
 intro r;induction r with
 |nil=>
  intro i acc h tk hr he keep hit dx
  cases he;refine codeAny_builtin ng ?_;rw[Around.under_plainId gU _];have hlen:=rr.length;have hi:ds.length<=i:=List.drop_eq_nil_iff.mp hr;show wpAny _ A.in1 (pyNext (.ref it) >>= _) _ _ _
  refine wpAny_bind (wpAny_pyNext_list_end (s:={ s with heap:=h,toks:=tk }) hh hit ⟨_,keep _ _ hl,rfl,ep,rfl⟩ (by simp at hlen ⊢;exists L30,0x2000120101810002836,hlen,hi) fun h' he'=>?_);refine wpAny_bind (wpAny_pure (wpAny_pure ?_))
  have keep':∀b o,h0.get? b=some o->h'.get? b=some o:=fun b o e=>he' b o (fun q=>by rw[q,hit0] at e;cases e) (keep b o e)
  have hnt:bm h it:=fun ob items n e hc hd=>by
   obtain⟨o,e1,hc1,_⟩:=hit;rw[e1] at e;cases e;rw[hc1] at hc;simp at hc
  exact fin h' tk keep' (dx.stayL (L:=[it]) (fY he') (fun q=>hne (List.mem_singleton.mp q).symm) fun b hb=>by rw[List.mem_singleton.mp hb];exact hnt)
 |cons dd r ih=>
  intro i acc h tk hr he keep hit dx;obtain⟨hdi,hdr⟩:=pU hr;refine codeAny_builtin ng ?_;rw[Around.under_plainId gU _];obtain⟨v,hv,rv⟩:=rr.get hdi;show wpAny _ A.in1 (pyNext (.ref it) >>= _) _ _ _
  refine wpAny_bind (wpAny_pyNext_list_item (s:={ s with heap:=h,toks:=tk }) hit ⟨_,keep _ _ hl,rfl,ep,rfl⟩ (by simpa using hv) fun h' hit' hs'=>?_)
  have hnt:bm h it:=fun ob items n e hc hd=>by
   obtain⟨o,e1,hc1,_⟩:=hit;rw[e1] at e;cases e;rw[hc1] at hc;simp at hc
  have keep':∀b o,h0.get? b=some o->h'.get? b=some o:=fun b o e=>(hs'.2 b (fun q=>by rw[q,hit0] at e;cases e)).trans (keep b o e)
  have dx':aM K.prog K.w K.H₀ h' ρ d acc:=dx.stayL (L:=[it]) (d7 hs') (fun q=>hne (List.mem_singleton.mp q).symm) fun b hb=>by rw[List.mem_singleton.mp hb];exact hnt
  have x':=x.keeps keep';have gk:=au.keeps x keep'
  refine qC (fun ks dv kk q hkk hlim he2=>?_) he;subst q;obtain⟨t,⟨wl⟩,ep2,rfl,gt,rw'⟩:=rv.grow x gk;obtain⟨kv,vv,rfl,rk,rvv⟩:=ak.two rw';obtain⟨tk',ws',ep3,rfl,gk',rk'⟩:=rk;refine wpAny_bind (wpAny_holding ?_);refine wpAny_bind (wpAny_tryCatch ?_);unfold Builtin.Dict.pairItems;refine wpAny_bind (wpAny_typeOf (T:="tuple") ⟨_,gt,rfl⟩ ?_);rw[if_pos (by decide)];refine wpAny_bind (wpAny_seqItems gt rfl (wpAny_pure ?_));show wpAny _ _ (holding [Value.ref tk',vv] (dictSet d (.ref tk') vv)) _ _ _
  refine wpAny_holding (iH (A:=A.in1) (show A.units+1+1<cLine by exists L20,0x101111110022010a110020824,hu) dx' (gW ⟨tk',ws',ep3,rfl,gk',rk'⟩ hkk) rvv hlim fun h2 tk2 hs2 dx2=>?_);refine wpAny_pure ⟨plainId_quiet gU _,?_⟩
  have hdn:∀b o,h0.get? b=some o->h2.get? b=some o:=fun b o e=>(hs2.2 b (fun q=>by rw[q,hd0] at e;cases e)).trans (keep' b o e);have hcast:rawInt ((i:Int)+1)=rawInt ((i+1:Nat):Int):=by rw[show((i+1:Nat):Int)=(i:Int)+1 by exact Int.natCast_succ _]
  show codeAny K.M A (.builtin "dict.update.loop" ⟨[.ref d,.ref it,rawInt ((i:Int)+1),.none],[]⟩) R _;rw[hcast];refine ih (i+1) (bZ acc kk dv) h2 tk2 hdr he2 hdn ?_ dx2;obtain⟨o,e1,r1⟩:=hit';exact⟨o,(hs2.2 it hne).trans e1,r1⟩
theorem aK.cI {e:Expr} {X:Mine.X} {np pos:Pos} {fr:Bool} (hg:c.scope.names.lookup ("dict":Str)=some .globalImplicit) (hs:az e=true) (hx:eC K c fr e X):aK K c (.Call (.Name ("dict":Str) np) [e] [] pos) (.cI X):=
 aK.of (fun env n A s ρ J l d J' Q E a hC he=>by
  refine mn (fun ds J1 es h1 h2 p=>?_) he
  refine iL (T:="dict") a hg (by decide) (by decide) (by decide) (by decide +kernel) hs (hx _ _ _ _ _ _ _ _ _ _ _ a hC h1 fun ad vs ep ρ1 hp1 tk1 g1 x1 _ hl r1=>?_)
  refine callType_codes (Q₁:=fun obj s₁=>obj = .ref hp1.objs.size/\s₁={ s with heap:=hp1.push { cls:=.type "dict",data:=.dict #[] },toks:=tk1 }) PySem.F.kt_called_dict (PySem.F.kt_typeCall_dict_1 _) PySem.F.entry_dict_init (kt_code_dict_new _ ⟨rfl,rfl⟩) ?_;rintro obj s₁ ⟨rfl,rfl⟩;have hnewg:(hp1.push { cls:=.type "dict",data:=.dict #[] }).get? hp1.objs.size=some { cls:=.type "dict",data:=.dict #[] }:=Heap.get?_push_size _ rfl;have hnT:Shared.TypeIs { s with heap:=hp1.push { cls:=.type "dict",data:=.dict #[] },toks:=tk1 } (.ref hp1.objs.size) "dict":=⟨_,hnewg,rfl⟩;have hl':(hp1.push { cls:=.type "dict",data:=.dict #[] }).get? ad=some (seqObj "list" vs ep):=Heap.get?_push_of_some _ hl;refine⟨hnT,PySem.F.args_dict_init_2 _ _,?_⟩;unfold Builtin.«dict.__init__»;refine wpAny_bind ?_;unfold Builtin.Dict.selfAndRest;refine wpAny_bind (wpAny_notOrdered_dict hnT ?_);show wpAny _ _ (pure (hp1.objs.size,[Value.ref ad])) _ _ _;refine wpAny_pure ?_;show wpAny _ _ (Builtin.Dict.updateFrom "dict.__init__" hp1.objs.size (.ref ad) [] .none) _ _ _;unfold Builtin.Dict.updateFrom;refine wpAny_bind (wpAny_typeOf (T:="list") ⟨_,hl',rfl⟩ ?_);rw[if_pos (by decide)]
  refine wpAny_bind (uO (s:={ s with heap:=hp1.push { cls:=.type "dict",data:=.dict #[] },toks:=tk1 }) hl' a.room.handled fun h3 tk3 k3=>?_);rw[if_pos (by rfl)];refine wpAny_bind (wpAny_rule ?_);refine wpAny_bind ?_;refine wpAny_pyIter_list ⟨_,k3 _ _ hl',rfl,ep,rfl⟩ ?_;refine wpAny_pure ⟨plainId_quiet gU _,?_⟩
  have keepI:∀b o,hp1.get? b=some o->(h3.push { cls:=.type "list_iterator",data:=.fields #[.ref ad,.int 0 0] }).get? b=some o:=fun b o e=>Heap.get?_push_of_some _ (k3 b o (Heap.get?_push_of_some _ e))
  have hlt:hp1.objs.size<h3.objs.size:=Heap.lt_size (k3 _ _ hnewg)
  refine yc (s:=s) (A:=A.in1) (it:=h3.objs.size) (d:=hp1.objs.size) (ds:=ds) (es:=es) (by have:=a.room.units;show A.units+1+10<cLine;exists L30,0x20a111110022020c821101e2300220836,this) a.room.handled x1 hl r1 (Nat.ne_of_gt hlt) (gS (Nat.le_of_lt hlt)) (aO _) (fun h' tk' k' dx=>?_) ds 0 [] _ tk3 rfl h2 keepI ⟨_,Heap.get?_push_size _ rfl,rfl,rfl⟩ ?_
  ·have gk:=au.keeps x1 k';refine⟨rfl,p _ (ρ1++[hp1.objs.size]) h' tk' ((g1.trans gk).adopt (g1.fresh (aO _))) ((x1.keeps k').adopt x1.sizeNot (x1.freshBase (aO _)) (aK.dict.ObjRep.more dx _)) ⟨_,rfl,?_⟩⟩;rw[<-x1.len,List.getElem?_append_right (Nat.le_refl _),Nat.sub_self];rfl
  ·have xp:K.sr ρ1 J1 (hp1.push { cls:=.type "dict",data:=.dict #[] }):=x1.push _;exact(aM.new hp1 ρ1).stay xp x1.sizeNot (au.keeps xp fun b o e=>Heap.get?_push_of_some _ (k3 b o e))) (fun _ _=>rfl)
end
section
variable {prog:Program} {w:World} {A:Around} {E:Value->Shared->Prop} {s:Shared}
theorem qZ {v d:Addr} {o:Obj} {es:Array DictEntry} {ep:Nat} {Q:Value->Shared->Prop} (hv:s.heap.IsItemsView v d) (ho:s.heap.get? d=some o) (hdat:o.data = .dict es ep)
  (hQ:Q (.ref s.heap.objs.size) { s with heap:=s.heap.push { cls:=.type "dict_itemiterator",data:=.fields #[.none,.bool false,.ref d,.int 0 0,.int es.size 0,.int ep 0,.none,.none] } }) :
  wpAny (model prog w) A (pyIter (.ref v)) Q E s:=by
 obtain⟨ov,hov,hcv,hdv⟩:=id hv;refine wpAny_pyIter_slot hv.typeIs PySem.F.slot_dict_items_iter (wpAny_call_entry PySem.F.slot_dict_items_iter hv.typeIs PySem.F.entry_dict_items_iter ?_ (PySem.F.args_dict_items_iter_1 _));unfold Builtin.«dict_items.__iter__»;refine wpAny_bind (wpAny_pure ?_);refine wpAny_bind ?_;unfold Builtin.Dict_items.dictOf;refine wpAny_bind (wpAny_field hov hdv (x:=.ref d) rfl (wpAny_pure ?_));refine wpAny_bind ?_;unfold Builtin.Dict_items.newIterator;refine wpAny_bind (wpAny_dictEntries ho hdat ?_);refine wpAny_bind (wpAny_dictEpoch ho hdat ?_);have hown:Builtin.Dict_items.ownsTuple "dict_itemiterator"=true:=by decide
 simp only[hown,if_true];refine wpAny_newObj_type (wpAny_pure ⟨_,rfl, "dict_itemiterator",_,⟨_,Heap.get?_push_size _ rfl,rfl⟩,PySem.F.slot_dict_itemiterator_next.lookup,?_⟩)
  (by simp only[sizeOk,Builtin.Dict_items.ownedTupleFields,List.size_toArray,List.length_append,List.length_cons,List.length_nil,sizeLine_eq];exact Nat.le_add_left _ _)
 simpa [rawInt,Builtin.Dict_items.ownedTupleFields] using hQ
inductive mf (h:Heap) (it d S:Addr) (i n ep:Nat):Prop
 |start (e:i=0) (ok ov:Value) (g:IsItemIter h it d i n ep ok ov):mf h it d S i n ep
 |out (ok ov:Value) (a:Addr) (f:Bool) (oa:Obj) (g:KdxIt h it d i n ep ok ov a f) (ga:h.get? a=some oa) (n1:a≠it) (n2:a≠S):mf h it d S i n ep
theorem mf.keep {h h':Heap} {it d S:Addr} {i n ep:Nat} (x:mf h it d S i n ep) (hk:∀b o,b≠S->h.get? b=some o->h'.get? b=some o) (hI:it≠S):mf h' it d S i n ep:=by
 cases x with
 |start e ok ov g=>exact .start e ok ov (hk _ _ hI g)
 |out ok ov a f oa g ga n1 n2=>exact .out ok ov a f oa (hk _ _ hI g) (hk _ _ n2 ga) n1 n2
theorem mf.get {h:Heap} {it d S:Addr} {i n ep:Nat} (x:mf h it d S i n ep):∃o,h.get? it=some o/\o.cls = .type "dict_itemiterator":=by
 cases x with
 |start e ok ov g=>exact⟨_,g,rfl⟩
 |out ok ov a f oa g ga n1 n2=>exact⟨_,g,rfl⟩
noncomputable def CZ (c0 f0 ok ov:Value) (d:Addr) (i n ep:Nat):Obj:={ cls:=.type "dict_itemiterator",dict:=none,data:=.fields #[c0,f0,.ref d,.int i 0,.int n 0,.int ep 0,ok,ov],slots:=#[] }
theorem lG {it d:Addr} {i ep:Nat} {od:Obj} {es:Array DictEntry} {e:DictEntry} {c0 f0 ok ov:Value} {Q:Option Value->Shared->Prop} (hit:s.heap.get? it=some (CZ c0 f0 ok ov d i es.size ep))
  (hod:s.heap.get? d=some od) (hdd:od.data = .dict es ep) (hx:es[i]?=some e)
  (k:∀h₁,h₁.get? it=some (CZ c0 f0 ok ov d (i+1) es.size ep)->Heap.SameBut it s.heap h₁->∀(E' Q':Value->Shared->Prop),(∀v s',Q (some v) s'->Q' v s')->wpAny (model prog w) A.in1 (Builtin.Dict_items.pairFromOwner (.ref it) 6 e.key e.val) Q' E' { s with heap:=h₁ }) :
  wpAny (model prog w) A (pyNext (.ref it)) Q E s:=by
 have hT:s.TypeIs (.ref it) "dict_itemiterator":=⟨_,hit,rfl⟩;unfold pyNext;refine wpAny_bind (wpAny_attempt (wpAny_callSpecial?_slot (name:=Str.ofString "__next__") hT PySem.F.slot_dict_itemiterator_next
  (wpAny_call_entry PySem.F.slot_dict_itemiterator_next hT PySem.F.entry_dict_itemiterator_next ?_ (PySem.F.args_dict_itemiterator_next_1 _))))
 refine wpAny_bind (wpAny_pure ?_);refine wpAny_bind ?_;refine wpAny_bind ?_;first|refine wpAny_bind (wpAny_typeNameOfWhole_itemiter hT (wpAny_pure ?_))|refine wpAny_bind (wpAny_typeNameOf_itemiter hT (wpAny_pure ?_))
 refine wpAny_bind (wpAny_fieldsOf hit rfl ?_);show wpAny _ _ (if (Value.ref d==Value.none)=true then _ else _) _ _ _;rw[if_neg (show ¬((Value.ref d==Value.none)=true) from Bool.false_ne_true)];refine wpAny_bind (wpAny_pure ?_);refine wpAny_bind (wpAny_dictEntries hod hdd ?_);rw[if_neg (by simp)];refine wpAny_bind (wpAny_pure ?_);refine wpAny_bind (wpAny_dictEpoch hod hdd ?_);rw[if_neg (by simp)];refine wpAny_pure ?_;refine kY ((if_neg (Int.not_lt.mpr (Int.natCast_nonneg i))).trans hx) ?_;refine wpAny_bind ?_;first|refine wpAny_bind (wpAny_typeNameOfWhole_itemiter hT (wpAny_pure ?_))|refine wpAny_bind (wpAny_typeNameOf_itemiter hT (wpAny_pure ?_))
 refine wpAny_bind (wpAny_isOneOf_itemiter hT ?_);show wpAny _ _ (setField (.ref it) 3 (rawInt ((i:Int)+1)) >>= _) _ _ _
 refine wpAny_bind (wpAny_setField_rec hit (Nat.le_of_ble_eq_true rfl) fun h₁ he₁ hs₁=>?_);have hT₁:Shared.TypeIs { s with heap:=h₁ } (.ref it) "dict_itemiterator":=⟨_,he₁,rfl⟩;refine wpAny_bind (wpAny_holding ?_);refine wpAny_bind (wpAny_isOneOf_itemiter hT₁ ?_);refine wpAny_bind (wpAny_isOneOf_itemiter hT₁ ?_)
 exact k h₁ he₁ hs₁ _ _ fun v s' h=>wpAny_pure ⟨_,rfl,wpAny_pure h⟩
theorem qL {it d S:Addr} {i ep:Nat} {od:Obj} {es:Array DictEntry} {e:DictEntry} {Q:Option Value->Shared->Prop} (hst:mf s.heap it d S i es.size ep) (hS:S<s.heap.objs.size)
  (hod:s.heap.get? d=some od) (hdd:od.data = .dict es ep) (hx:es[i]?=some e)
  (hQ:∀h',mf h' it d S (i+1) es.size ep->h'.get? s.heap.objs.size=some (seqObj "tuple" #[e.key,e.val] 0)->h'.objs.size=s.heap.objs.size+1->
   (∀b o,b≠it->s.heap.get? b=some o->h'.get? b=some o)->Q (some (.ref s.heap.objs.size)) { s with heap:=h' }) :
  wpAny (model prog w) A (pyNext (.ref it)) Q E s:=by
 obtain⟨hp,g,dr,tk,os⟩:=s;obtain⟨oit,hgit,hcit⟩:=hst.get;have hil:it<hp.objs.size:=Heap.lt_size hgit
 cases hst with
 |start ei ok ov hit=>
  refine lG hit hod hdd hx fun h₁ he₁ hs₁ E' Q' hQ'=>?_;replace he₁:IsItemIter h₁ it d (i+1) es.size ep ok ov:=he₁;replace hs₁:Heap.SameBut it hp h₁:=hs₁;show wpAny _ _ (Builtin.Dict_items.pairFromOwner (.ref it) 6 e.key e.val) _ _ ⟨h₁,g,dr,tk,os⟩;unfold Builtin.Dict_items.pairFromOwner;refine wpAny_bind (wpAny_newTuple ?_);have he₂:IsItemIter (h₁.push { cls:=.type "tuple",data:=.seq #[e.key,e.val] }) it d (i+1) es.size ep ok ov:=Heap.get?_push_of_some _ he₁;generalize hh₂:h₁.push { cls:=.type "tuple",data:=.seq #[e.key,e.val] }=h₂ at he₂;have hz₁:h₁.objs.size=hp.objs.size:=hs₁.1;have ht₂:h₂.get? hp.objs.size=some (seqObj "tuple" #[e.key,e.val] 0):=by rw[<-hh₂,<-hz₁];exact Heap.get?_push_size _ rfl
  have hz₂:h₂.objs.size=hp.objs.size+1:=by rw[<-hh₂,Heap.size_push,hz₁]
  have hk₂:∀b o,b≠it->hp.get? b=some o->h₂.get? b=some o:=fun b o hb e=>by rw[<-hh₂];exact Heap.get?_push_of_some _ (hs₁.extBut b o hb e)
  show wpAny _ _ (Builtin.Dict_items.ownedTupleIsFree (.ref it) >>= _) _ _ ⟨h₂,g,dr,tk,os⟩;rw[hz₁];clear hh₂ he₁ hs₁ hz₁ h₁;refine wpAny_bind ?_;unfold Builtin.Dict_items.ownedTupleIsFree;refine wpAny_bind (wpAny_field he₂ rfl (x:=.none) rfl (wpAny_pure ?_));simp only[if_true];refine wpAny_bind (wpAny_field he₂ rfl (x:=ok) rfl ?_);refine wpAny_bind (wpAny_field he₂ rfl (x:=ov) rfl ?_)
  refine wpAny_bind (wpAny_setField_rec he₂ (by simp) fun h₃ he₃ hs₃=>?_);replace hs₃:Heap.SameBut it h₂ h₃:=hs₃;replace he₃:IsItemIter h₃ it d (i+1) es.size ep e.key ov:=he₃
  refine wpAny_bind (wpAny_setField_rec he₃ (by simp) fun h₄ he₄ hs₄=>?_);replace hs₄:Heap.SameBut it h₃ h₄:=hs₄;replace he₄:IsItemIter h₄ it d (i+1) es.size ep e.key e.val:=he₄
  refine wpAny_bind (wpAny_setField_rec he₄ (by simp) fun h₅ he₅ hs₅=>?_);replace hs₅:Heap.SameBut it h₄ h₅:=hs₅;replace he₅:IsItemIterOut h₅ it d (i+1) es.size ep e.key e.val hp.objs.size:=he₅
  refine wpAny_bind (wpAny_setField_rec he₅ (by simp) fun h₆ he₆ hs₆=>?_);replace hs₆:Heap.SameBut it h₅ h₆:=hs₆;replace he₆:IsItemIterOut h₆ it d (i+1) es.size ep e.key e.val hp.objs.size:=he₆;have ht₆:h₆.get? hp.objs.size=some (seqObj "tuple" #[e.key,e.val] 0):=hs₆.extBut _ _ (Nat.ne_of_gt hil) (hs₅.extBut _ _ (Nat.ne_of_gt hil) (hs₄.extBut _ _ (Nat.ne_of_gt hil) (hs₃.extBut _ _ (Nat.ne_of_gt hil) ht₂)));refine wpAny_bind (wpAny_letGo (wpAny_pure (hQ' _ _ (hQ h₆ (.out _ _ hp.objs.size false _ he₆ ht₆ (Nat.ne_of_gt hil) (Nat.ne_of_gt hS)) ht₆ ?_ ?_))))
  ·show h₆.objs.size=hp.objs.size+1;rw[hs₆.1,hs₅.1,hs₄.1,hs₃.1,hz₂]
  ·exact fun b o hb e=>hs₆.extBut b o hb (hs₅.extBut b o hb (hs₄.extBut b o hb (hs₃.extBut b o hb (hk₂ b o hb e))))
 |out ok ov a f oa hit ha hai haS=>
  refine lG hit hod hdd hx fun h₁ he₁ hs₁ E' Q' hQ'=>?_;replace he₁:KdxIt h₁ it d (i+1) es.size ep ok ov a f:=he₁;replace hs₁:Heap.SameBut it hp h₁:=hs₁;show wpAny _ _ (Builtin.Dict_items.pairFromOwner (.ref it) 6 e.key e.val) _ _ ⟨h₁,g,dr,tk,os⟩;unfold Builtin.Dict_items.pairFromOwner;refine wpAny_bind (wpAny_newTuple ?_);have he₂:KdxIt (h₁.push { cls:=.type "tuple",data:=.seq #[e.key,e.val] }) it d (i+1) es.size ep ok ov a f:=Heap.get?_push_of_some _ he₁;generalize hh₂:h₁.push { cls:=.type "tuple",data:=.seq #[e.key,e.val] }=h₂ at he₂;have hz₁:h₁.objs.size=hp.objs.size:=hs₁.1;have ht₂:h₂.get? hp.objs.size=some (seqObj "tuple" #[e.key,e.val] 0):=by rw[<-hh₂,<-hz₁];exact Heap.get?_push_size _ rfl
  have hz₂:h₂.objs.size=hp.objs.size+1:=by rw[<-hh₂,Heap.size_push,hz₁]
  have hk₂:∀b o,b≠it->hp.get? b=some o->h₂.get? b=some o:=fun b o hb e=>by rw[<-hh₂];exact Heap.get?_push_of_some _ (hs₁.extBut b o hb e)
  show wpAny _ _ (Builtin.Dict_items.ownedTupleIsFree (.ref it) >>= _) _ _ ⟨h₂,g,dr,tk,os⟩;rw[hz₁];clear hh₂ he₁ hs₁ hz₁ h₁;have ha₂:h₂.get? a=some oa:=hk₂ a oa hai ha;refine wpAny_bind ?_;unfold Builtin.Dict_items.ownedTupleIsFree;refine wpAny_bind (wpAny_field he₂ rfl (x:=rawInt a) rfl ?_);show wpAny _ _ (loadIfAlive ((a:Int).toNat) >>= _) _ _ _;rw[Int.toNat_natCast];refine wpAny_bind (kdx_alive ha₂ ?_);simp only[Option.isNone_some,Bool.false_eq_true,if_false];refine wpAny_bind (wpAny_field he₂ rfl (x:=.bool f) rfl ?_)
  have fin:∀h₃:Heap,KdxIt h₃ it d (i+1) es.size ep ok ov a true->Heap.SameBut it h₂ h₃->Q (some (.ref hp.objs.size)) ⟨h₃,g,dr,tk,os⟩:=fun h₃ he₃ hs₃=>
   hQ h₃ (.out ok ov a true oa he₃ (hs₃.extBut _ _ hai ha₂) hai haS) (hs₃.extBut _ _ (Nat.ne_of_gt hil) ht₂) (by show h₃.objs.size=hp.objs.size+1;rw[hs₃.1,hz₂]) fun b o hb e=>hs₃.extBut b o hb (hk₂ b o hb e)
  cases f with
  |true=>
   rw[if_neg (show ¬((Value.bool true != Value.bool true)=true) from Bool.false_ne_true)];refine wpAny_pure ?_;simp only[Bool.false_eq_true,if_false];exact wpAny_pure (hQ' _ _ (fin h₂ he₂ (Heap.SameBut.refl _ _)))
  |false=>
   rw[if_pos (show(Value.bool false != Value.bool true)=true from rfl)]
   refine wpAny_bind (wpAny_setField_rec he₂ (by simp) fun h₃ he₃ hs₃=>?_);replace hs₃:Heap.SameBut it h₂ h₃:=hs₃;replace he₃:KdxIt h₃ it d (i+1) es.size ep ok ov a true:=he₃;refine wpAny_pure ?_;simp only[Bool.false_eq_true,if_false];exact wpAny_pure (hQ' _ _ (fin h₃ he₃ hs₃))
theorem uF {it d S:Addr} {i ep:Nat} {od:Obj} {es:Array DictEntry} {Q:Option Value->Shared->Prop} (hh:A.handled=none) (hst:mf s.heap it d S i es.size ep)
  (hod:s.heap.get? d=some od) (hdd:od.data = .dict es ep) (hx:es[i]?=none) (hQ:∀h',Heap.ExtBut it s.heap h'->Q none { s with heap:=h' }):wpAny (model prog w) A (pyNext (.ref it)) Q E s:=by
 obtain⟨oit,hgit,hcit⟩:=hst.get;have hT:s.TypeIs (.ref it) "dict_itemiterator":=⟨_,hgit,hcit⟩;obtain⟨c0,f0,ok,ov,hit⟩:∃(c0:Value) (f0:Bool) (ok ov:Value),s.heap.get? it=some { cls:=.type "dict_itemiterator",dict:=none,data:=.fields #[c0,.bool f0,.ref d,.int i 0,.int es.size 0,.int ep 0,ok,ov],slots:=#[] }:=by
  cases hst with
  |start e ok ov g=>exact⟨_,_,_,_,g⟩
  |out ok ov a f oa g ga n1 n2=>exact⟨_,_,_,_,g⟩
 unfold pyNext;refine wpAny_bind (wpAny_attempt (wpAny_callSpecial?_slot (name:=Str.ofString "__next__") hT PySem.F.slot_dict_itemiterator_next
  (wpAny_call_entry PySem.F.slot_dict_itemiterator_next hT PySem.F.entry_dict_itemiterator_next ?_ (PySem.F.args_dict_itemiterator_next_1 _))))
 refine wpAny_bind (wpAny_pure ?_);refine wpAny_bind ?_;refine wpAny_bind ?_;first|refine wpAny_bind (wpAny_typeNameOfWhole_itemiter hT (wpAny_pure ?_))|refine wpAny_bind (wpAny_typeNameOf_itemiter hT (wpAny_pure ?_))
 refine wpAny_bind (wpAny_fieldsOf hit rfl ?_);show wpAny _ _ (if (Value.ref d==Value.none)=true then _ else _) _ _ s;rw[if_neg (show ¬((Value.ref d==Value.none)=true) from Bool.false_ne_true)];refine wpAny_bind (wpAny_pure ?_);refine wpAny_bind (wpAny_dictEntries hod hdd ?_);rw[if_neg (by simp)];refine wpAny_bind (wpAny_pure ?_);refine wpAny_bind (wpAny_dictEpoch hod hdd ?_);rw[if_neg (by simp)];refine wpAny_pure ?_;refine kZ ((if_neg (Int.not_lt.mpr (Int.natCast_nonneg i))).trans hx) ?_;refine wpAny_bind ?_;first|refine wpAny_bind (wpAny_typeNameOfWhole_itemiter hT (wpAny_pure ?_))|refine wpAny_bind (wpAny_typeNameOf_itemiter hT (wpAny_pure ?_))
 show wpAny _ _ (setField (.ref it) 2 .none >>= _) _ _ s;refine wpAny_bind (wpAny_setField hit rfl (by simp) ?_);show wpAny _ _ (newExc (.type "StopIteration") [] >>= _) _ _ _;refine wpAny_bind ?_;simp only[newExc,newTuple];refine wpAny_bind (wpAny_newObj_type ?_ (by size_fits));refine wpAny_bind (m:=firstArgMember _ _) (wpAny_of_eq (a:=Value.none) (by first|rfl|(simp only[firstArgMember];rfl)) ?_);refine wpAny_newObj_type ?_ (by size_fits);simp only[raiseNew];refine wpAny_bind (wpAny_handled ?_);rw[show A.in1.handled=none from hh];refine wpAny_bind (wpAny_pure (wpAny_throw ?_));refine wpAny_bind (wpAny_isInstance (T:="StopIteration") (b:=true) ⟨_,Heap.get?_push_size _ rfl,rfl⟩ isSubtype_stop ?_);exact wpAny_pure (hQ _ (((Heap.SameBut.update ..).extBut.push _).push _))
end
section
variable {K:dj} {c:bV} {env:Env} {n:Nat} {A:Around} {s:Shared} {ρ:List Addr} {J:St} {l:aB}
noncomputable def dg (es:Es):List D:=es.map fun e=>.tup [ae e.1,e.2]
theorem t9 {h1:Heap} {S I d:Addr} {od:Obj} {ens:Array DictEntry} {ep:Nat} {xs:List (List Int×Addr×Value)} {es:Es} {res:Value} {R:Result->Shared->Prop} (hh:A.handled=none) (x:K.sr ρ J h1)
  (hod:h1.get? d=some od) (hdd:od.data = .dict ens ep) (hee:ens.toList=xs.map (entryOfKey (ci K.prog K.w))) (hm:xs.map (·.1)=es.map (·.1)) (hr:ak K.H₀ h1 ρ (xs.map (·.2.2)) (es.map (·.2))) (kr:nA K.H₀ h1 ρ xs) (hn:ens.size<=sizeLine)
  (hSI:S≠I) (hS0:h1.get? S=none) (hI0:h1.get? I=none)
  (fin:∀h' tk' vs k,(∀b o,h1.get? b=some o->h'.get? b=some o)->h'.get? S=some (seqObj "list" vs k)->ak K.H₀ h' ρ vs.toList (dg es)->R (.ok (.ret res)) { s with heap:=h',toks:=tk' }) :
  ∀(k i:Nat) (h:Heap) (tk q:Nat) (acc:Array Value),ens.size-i=k->i<=ens.size->mf h I d S i ens.size ep->(∀b o,h1.get? b=some o->h.get? b=some o)->h.get? S=some (seqObj "list" acc q)->ak K.H₀ h ρ acc.toList ((dg es).take i)->
   codeAny K.M A (.builtin "list.extend.loop" ⟨[.ref S,.ref I,res],[]⟩) R { s with heap:=h,toks:=tk }:=by
 have hlen:ens.size=es.length:=by
  rw[size_of_entries hee];simpa using congrArg List.length hm
 intro k;induction k with
 |zero=>
  intro i h tk q acc hk hi st keep hS rr;have hin:i=ens.size:=by exists L30,0x201020110021020062010002220101678201018011002836,hk,hi,(fs (ens.size) (i))
  refine codeAny_builtin PySem.F.entry_extend_loop ?_;rw[Around.under_plainId PySem.F.plain_extend_loop _];show wpAny _ A.in1 (pyNext (.ref I) >>= _) _ _ _
  refine wpAny_bind (uF (s:={ s with heap:=h,toks:=tk }) (A:=A.in1) hh st (keep _ _ hod) hdd (by simp;exists L20,0x10110002824,hin) fun h' he=>?_)
  have keep':∀b o,h1.get? b=some o->h'.get? b=some o:=fun b o e=>he b o (fun z=>by rw[z,hI0] at e;cases e) (keep b o e);refine wpAny_pure (fin h' tk acc q keep' (he S _ hSI hS) ?_);rw[List.take_of_length_le (by simp[dg];exists L30,0x2010100202810002836,hlen,hin)] at rr;obtain⟨oi,eg,ec⟩:=st.get
  have hnt:bm h I:=fun ob items n e hc hd=>by
   rw[eg] at e;cases e;rw[ec] at hc;simp at hc
  exact ak.mono (cz (L:=[I]) (fY he) fun b hb=>by rw[List.mem_singleton.mp hb];exact hnt) (fun _ _ e=>e) _ rr
 |succ k ih=>
  intro i h tk q acc hk hi st keep hS rr;have hlt:i<ens.size:=by exists L40,0x302000110022030063020002230201678111102002848,hk,(fs (ens.size) (i))
  have hilt:i<es.length:=by exact Nat.lt_of_lt_of_eq hlt hlen
  have hxlt:i<xs.length:=by rw[<-size_of_entries hee];exact hlt
  have hei:ens[i]?=some (entryOfKey (ci K.prog K.w) xs[i]):=by rw[entry_at hee i,List.getElem?_eq_getElem hxlt];rfl
  refine codeAny_builtin PySem.F.entry_extend_loop ?_;rw[Around.under_plainId PySem.F.plain_extend_loop _];show wpAny _ A.in1 (pyNext (.ref I) >>= _) _ _ _
  refine wpAny_bind (qL (s:={ s with heap:=h,toks:=tk }) (S:=S) st (Heap.lt_size hS) (keep _ _ hod) hdd hei fun h' st' ht hz hkp=>?_);dsimp only at ht hz hkp ⊢;have hS':h'.get? S=some (seqObj "list" acc q):=hkp S _ hSI hS;have hSl:S<h.objs.size:=Heap.lt_size hS
  have up:∀b o,b≠S->h'.get? b=some o->(h'.update S (Obj.mapSeq (·.push (Value.ref h.objs.size)))).get? b=some o:=fun b o hb e=>(Heap.get?_update_other _ _ (Ne.symm hb)).trans e;have hsz:acc.size=i:=by
   have:=rr.length;simp[dg] at this;omega
  have keep':∀b o,h1.get? b=some o->(h'.update S (Obj.mapSeq (·.push (Value.ref h.objs.size)))).get? b=some o:=fun b o e=>
   up b o (fun z=>by rw[z,hS0] at e;cases e) (hkp b o (fun z=>by rw[z,hI0] at e;cases e) (keep b o e))
  obtain⟨oi,eg,ec⟩:=st.get
  have htk:cg h (h'.update S (Obj.mapSeq (·.push (Value.ref h.objs.size)))):=fun b vs' ep' e=>by
   have hbS:b≠S:=fun z=>by
    rw[z,hS] at e;have:=congrArg (fun o=>o.map Obj.cls) e;simp at this
   have hbI:b≠I:=fun z=>by
    rw[z,eg] at e
    cases e;simp at ec
   exact up b _ hbS (hkp b _ hbI e)
  show wpAny _ A.in1 (updateSeq S (·.push (Value.ref h.objs.size)) >>= _) _ _ _;refine wpAny_bind ?_;have gk:=au.keeps x keep';refine wpAny_updateSeq hS' rfl (wpAny_pure ⟨plainId_quiet PySem.F.plain_extend_loop _,ih (i+1) _ tk _ (acc.push (Value.ref h.objs.size)) (by exists L50,0x102020112021114023006301114022022301114021678011002403006304000223040167811110200285a,hk,(fs (ens.size) (i)),(fs (ens.size) (i+1))) hlt (st'.keep up (Ne.symm hSI)) keep' (IsL.update hS' _) ?_⟩) (by rw[hsz];omega) (by show(acc.push (Value.ref h.objs.size)).size<=sizeLine+1;rw[Array.size_push,hsz];omega);have hp:(dg es).take (i+1)=(dg es).take i++[.tup [ae es[i].1,es[i].2]]:=by
   rw[List.take_add_one];congr 1
   simp[dg,List.getElem?_eq_getElem hilt]
  rw[hp,Array.toList_push];refine(ak.mono htk (fun _ _ e=>e) _ rr).append ⟨?_,trivial⟩;have hk1:xs[i].1=es[i].1:=by
   have h1:=congrArg (fun l=>l[i]?) hm;simp only[List.getElem?_map,List.getElem?_eq_getElem hxlt,List.getElem?_eq_getElem hilt,Option.map_some,Option.some.injEq] at h1;exact h1
  have r1:cj K.H₀ h1 ρ (.ref xs[i].2.1) (ae es[i].1):=hk1▸kr xs[i] (List.getElem_mem hxlt);have r2:cj K.H₀ h1 ρ xs[i].2.2 es[i].2:=by
   obtain⟨v,e1,e2⟩:=hr.get (i:=i) (d:=es[i].2) (by simp[List.getElem?_eq_getElem hilt]);rw[List.getElem?_map,List.getElem?_eq_getElem hxlt] at e1;simp only[Option.map_some,Option.some.injEq] at e1;rw[e1];exact e2
  exact⟨_,_,_,rfl,up _ _ (Nat.ne_of_gt hSl) ht,r1.grow x gk,r2.grow x gk,trivial⟩
noncomputable def jH (K:dj) (ρ:List Addr) (es:Es) (S:Addr) (s:Shared) (q:Result) (s':Shared):Prop:=
 ∃(h':Heap) (tk:Nat) (vs:Array Value) (k:Nat),q = .ok (.ret (.ref S))/\s'={ s with heap:=h',toks:=tk }/\(∀b o,s.heap.get? b=some o->h'.get? b=some o)/\h'.get? S=some (seqObj "list" vs k)/\ak K.H₀ h' ρ vs.toList (dg es)
theorem oB {r d:Addr} {od:Obj} {ens:Array DictEntry} {ep:Nat} {xs:List (List Int×Addr×Value)} {es:Es} {Q:List Value->Shared->Prop} {E:Value->Shared->Prop} (hh:A.handled=none) (x:K.sr ρ J s.heap) (hv:s.heap.IsItemsView r d)
  (hod:s.heap.get? d=some od) (hdd:od.data = .dict ens ep) (hee:ens.toList=xs.map (entryOfKey (ci K.prog K.w))) (hm:xs.map (·.1)=es.map (·.1)) (hr:ak K.H₀ s.heap ρ (xs.map (·.2.2)) (es.map (·.2))) (kr:nA K.H₀ s.heap ρ xs) (hn:ens.size<=sizeLine)
  (h:∀vs h' tk',(∀b o,s.heap.get? b=some o->h'.get? b=some o)->ak K.H₀ h' ρ vs (dg es)->Q vs { s with heap:=h',toks:=tk' }) :
  wpAny K.M A (collect (.ref r)) Q E s:=by
 unfold collect;refine wpAny_bind (wpAny_runValue (codeAny_builtin entry_proto_collect' ?_));rw[Around.under_plainId PySem.F.plain_proto_collect _]
 show wpAny _ A.in1 (newList [] >>= fun l=>again (.builtin "list.__iadd__" ⟨[l,.ref r],[]⟩)) _ _ s;refine wpAny_bind (wpAny_newObj_type ?_);refine wpAny_pure ⟨plainId_quiet PySem.F.plain_list_iadd _,codeAny_builtin entry_list_iadd' ?_⟩;rw[Around.under_plainId PySem.F.plain_list_iadd _];generalize hS:s.heap.objs.size=S;have hS0:s.heap.get? S=none:=by rw[<-hS];exact aO _
 have hSg:(s.heap.push { cls:=.type "list",data:=.seq ([]:List Value).toArray }).get? S=some (seqObj "list" #[] 0):=by rw[<-hS];exact Heap.get?_push_size _ rfl
 have hSz:(s.heap.push { cls:=.type "list",data:=.seq ([]:List Value).toArray }).objs.size=S+1:=by rw[Heap.size_push,hS]
 have kp:∀b o,s.heap.get? b=some o->(s.heap.push { cls:=.type "list",data:=.seq ([]:List Value).toArray }).get? b=some o:=fun b o e=>Heap.get?_push_of_some _ e
 generalize s.heap.push { cls:=.type "list",data:=.seq ([]:List Value).toArray }=h2 at hSg hSz kp ⊢;show wpAny _ A.in1 (Builtin.List.listExtendWith (.ref S) (.ref r) (.ref S)) _ _ _;have hvr:∃o,s.heap.get? r=some o:=let ⟨o,e,_⟩:=hv;⟨o,e⟩
 have hSr:S≠r:=fun z=>by obtain⟨o,e⟩:=hvr;rw[<-z,hS0] at e;cases e
 have hv2:h2.IsItemsView r d:=let ⟨o,e,z⟩:=hv;⟨o,kp _ _ e,z⟩
 have key:∀(h:Heap) (q tk:Nat),(∀b o,b≠S->(h2.push { cls:=.type "dict_itemiterator",data:=.fields #[.none,.bool false,.ref d,.int 0 0,.int ens.size 0,.int ep 0,.none,.none] }).get? b=some o->h.get? b=some o)->h.get? S=some (seqObj "list" #[] q)->
   codeAny K.M A (.builtin "list.extend.loop" ⟨[.ref S,.ref (S+1),.ref S],[]⟩) (jH K ρ es S s) { s with heap:=h,toks:=tk }:=by
  intro h q tk hk hSh;have hI:h.get? (S+1)=some { cls:=.type "dict_itemiterator",data:=.fields #[.none,.bool false,.ref d,.int 0 0,.int ens.size 0,.int ep 0,.none,.none] }:=hk _ _ (Nat.succ_ne_self _) (by rw[<-hSz];exact Heap.get?_push_size _ rfl)
  exact t9 (s:=s) hh x hod hdd hee hm hr kr hn (Nat.ne_of_lt (Nat.lt_succ_self _)) hS0 (gS (by rw[hS];exact Nat.le_succ _)) (fun h' tk' vs k k1 k2 k3=>⟨h',tk',vs,k,rfl,rfl,k1,k2,k3⟩)
   ens.size 0 h tk q #[] (Nat.sub_zero _) (Nat.zero_le _) (.start rfl .none .none hI) (fun b o e=>hk b o (fun z=>by rw[z,hS0] at e;cases e) (Heap.get?_push_of_some _ (kp b o e))) hSh (by simp[ak])
 have body:wpAny K.M A.in1 (Builtin.List.listExtendWith (.ref S) (.ref r) (.ref S)) (fun fin s'=>match fin with | .done f=>jH K ρ es S s (.ok f) s' | .again c'=>c'.quiet=true/\codeAny K.M A c' (jH K ρ es S s) s') (fun e s'=>jH K ρ es S s (.error e) s') { s with heap:=h2 }:=by
  unfold Builtin.List.listExtendWith;refine wpAny_bind (wpAny_typeOf (T:="dict_items") (Heap.IsItemsView.typeIs (s:={ s with heap:=h2 }) hv2) ?_);have e1:Builtin.List.listSameRef (.ref S) (.ref r)=false:=by simp[Builtin.List.listSameRef,hSr]
  have e2:(Value.type "dict_items"==Value.type "list")=false:=by decide
  have e3:(Value.type "dict_items"==Value.type "tuple")=false:=by decide
  simp only[e1,e2,e3,Bool.or_false,Bool.false_eq_true,if_false];refine wpAny_bind (qZ (s:={ s with heap:=h2 }) hv2 (kp _ _ hod) hdd ?_);have hS₁:=Heap.get?_push_of_some { cls:=.type "dict_itemiterator",data:=.fields #[.none,.bool false,.ref d,.int 0 0,.int ens.size 0,.int ep 0,.none,.none] } hSg;rw[show(Shared.heap { s with heap:=h2 }).objs.size=S+1 from hSz];refine wpAny_bind (wpAny_holding (kdx_hint (let ⟨o,ho,hc,_⟩:=hv2;⟨o,Heap.get?_push_of_some _ ho,hc⟩) ?_))
  refine wpAny_ite_split (fun _=>?_) (fun _=>wpAny_pure ⟨plainId_quiet PySem.F.plain_extend_loop _,key _ _ _ (fun b o _ e=>e) hS₁⟩);refine wpAny_bind (wpAny_rule ?_);refine wpAny_bind ?_
  show wpAny _ _ (updateSeq S (·.push .none) >>= fun _=>updateSeq S (·.pop)) _ _ _;refine wpAny_bind (wpAny_updateSeq hS₁ rfl ?_);have hS₂:=Heap.get?_update_self (Obj.mapSeq (·.push Value.none)) hS₁ rfl;refine wpAny_updateSeq (hz:=by seq_fits) hS₂ rfl ?_;have hS₃:=Heap.get?_update_self (Obj.mapSeq (·.pop)) hS₂ rfl
  refine wpAny_pure ⟨plainId_quiet PySem.F.plain_extend_loop _,key _ _ _ (fun b o hb e=>?_) hS₃⟩;exact(Heap.get?_update_other _ _ (Ne.symm hb)).trans ((Heap.get?_update_other _ _ (Ne.symm hb)).trans e)
 have last:∀(h':Heap) (tk:Nat) (vs:Array Value) (k:Nat),(∀b o,s.heap.get? b=some o->h'.get? b=some o)->h'.get? S=some (seqObj "list" vs k)->ak K.H₀ h' ρ vs.toList (dg es)->wpAny K.M A (do
   let o<-load S
   match o.data with
   | .seq xs _=>pure xs.toList
   |_=>unsupported "internal:collect") Q E { s with heap:=h',toks:=tk }:=fun h' tk vs k k1 k2 k3=>wpAny_bind (wpAny_load k2 (wpAny_pure (h vs.toList h' tk k1 k3)))
 refine wpAny_mono body (fun fin s' z=>?_) fun e s' z=>?_;rotate_left
 ·obtain⟨_,_,_,_,z,_⟩:=z
  cases z
 cases fin with
 |done f=>
  obtain⟨h',tk,vs,k,e,rfl,k1,k2,k3⟩:=z
  cases e;exact last h' tk vs k k1 k2 k3
 |again c₁=>
  refine⟨z.1,codeAny_mono z.2 fun q s₂ y=>?_⟩;obtain⟨h',tk,vs,k,rfl,rfl,k1,k2,k3⟩:=y;exact last h' tk vs k k1 k2 k3
theorem aK.cU {o:Expr} {O:Mine.X} {np ap cp pos:Pos} (hg:c.scope.names.lookup ("sorted":Str)=some .globalImplicit) (hb:cA o=true) (hl:(ap.endLine==cp.line)=true) (ho:bg K c o O) :
  aK K c (.Call (.Name ("sorted":Str) np) [.Call (.Attribute o ("items":Str) ap) [] [] cp] [] pos) (.cU O):=
 aK.of (fun env n A s ρ J l d J' Q E a hC he=>by
  refine mj (fun r J1 es w0 ds h1 h3 h4 p=>?_) he;refine iM (id:="sorted") a hg (by decide) (by decide) (by decide) (by decide +kernel) rfl ?_
  refine wpAny_Call_method0_late (cT hb _ _) hl (ho _ _ _ _ _ _ _ _ _ _ _ a hC h1 fun v1 ρ1 hp1 tk1 g1 x1 r1=>?_);obtain⟨t,rfl,gt⟩:=r1;have hS:=jP a.ok x1 (List.mem_of_getElem? gt);obtain⟨xs,⟨oo,ens,ep,hoo,hc,hd,hee,his,hn⟩,hm,hr,kr⟩:=SR.dictAt x1 gt h3;refine gH PySem.F.plainAttrs_dict PySem.F.slot_dict_items PySem.F.type_dict_items hoo hc.1 hc.2.1 ?_
  refine method_meetsIn PySem.F.slot_dict_items PySem.F.entry_dict_items rfl (PySem.evalArgs_none ⟨rfl,⟨_,hoo,hc.1⟩,PySem.F.args_dict_items_1 _,(fun _ R s'=>s'.TypeIs (.ref t) "dict"/\R (.ok (.ret (.ref s'.heap.objs.size))) { s' with heap:=s'.heap.push { cls:=.type "dict_items",data:=.fields #[.ref t] } }),?_,⟨_,hoo,hc.1⟩,?_⟩)
  ·refine MeetsIn.of_wp fun A' R s' hh=>?_;unfold Builtin.«dict.items»;refine wpAny_bind ?_;unfold Builtin.Dict.noArgs;refine wpAny_bind (wpAny_notOrdered_dict hh.1 ?_);show wpAny _ _ (pure t) _ _ s';refine wpAny_pure ?_;show wpAny _ _ (Builtin.Dict.showsAll t >>= _) _ _ s';unfold Builtin.Dict.showsAll;rw[if_neg (by rw[hS];exact Bool.false_ne_true)];refine wpAny_bind (wpAny_pure ?_);exact wpAny_bind (wpAny_newObj_type (wpAny_pure ⟨_,rfl,hh.2⟩))
  ·refine Calls.call_function_entry kind_sorted plain_sorted entry_sorted (args_sorted1 _) ?_
   unfold Builtin.«sorted»;refine wpAny_bind (m:=checkCount "sorted" 1 1 _) (wpAny_pure ?_);have xp:K.sr ρ1 J1 (hp1.push { cls:=.type "dict_items",data:=.fields #[.ref t] }):=x1.push _;have gp:=au.push x1 { cls:=.type "dict_items",data:=.fields #[.ref t] };have h64:es.length<64:=by
    unfold bS at h4;split at h4
    ·rename_i q;simp at q;exists L10,0x4021000211000812,q
    ·split at h4
     ·rename_i hc;simp only[Bool.and_eq_true,decide_eq_true_eq] at hc;have:=hc.1;simpa using this
     ·cases h4
   have hxl:ens.size=es.length:=by rw[size_of_entries hee];simpa using congrArg List.length hm
   refine wpAny_bind (oB (s:={ s with heap:=hp1.push { cls:=.type "dict_items",data:=.fields #[.ref t] },toks:=tk1 }) (A:=A.in1) (es:=es) a.room.handled xp ⟨_,Heap.get?_push_size _ rfl,rfl,rfl⟩ (Heap.get?_push_of_some _ hoo) hd hee hm (hr.push x1 _) (fun y hy=>(kr y hy).push x1 _) (by rw[hxl,sizeLine_eq];exists L10,0x1000000710014021000812,h64) fun vs h' tk' k' rr=>?_);have gk:=au.keeps xp k'
   refine oQ (A:=A.in1) (s:={ s with heap:=h',toks:=tk' }) a.ok (show A.units+1+40<cLine by have:=a.room.units;exists L30,0x2028211110022020c821101e2300220836,this) (xp.keeps k') rr h4 (fun v ρ' h'' tk'' g x r=>⟨v,rfl,p v ρ' h'' tk'' (((g1.trans gp).trans gk).trans g) x r⟩)) (fun _ _=>rfl)
end
structure sf (K:dj) (d:DefRec) (fn:Fn):Prop where
 c:∃c:bV,c.scope=d.scope/\c.ok=true/\fo K c d.body fn.body/\
  (∀i x,(d.params.args.map (·.arg))[i]?=some x->(x,i)∈c.vars)/\(∀p∈c.vars,d.scope.names.lookup p.1=some .local\/d.scope.names.lookup p.1=some .cell)/\fn.nargs<=c.next
 len:(d.params.args.map (·.arg)).length=fn.nargs
 nd:(d.params.args.map (·.arg)).Nodup
 bind:∀(pm cd doc:Value) (vals:List Value),vals.length=fn.nargs->bindArgs (Calls.docDef d.name d.params d.body d.scope pm cd doc) ⟨vals,[]⟩=pure ((d.params.args.map (·.arg)).zip vals)
 slots:fn.nargs<=fn.nslots
 co:d.scope.isCoroutine=false
 gen:d.scope.isGenerator=false
 kind:d.scope.kind = .function
noncomputable def BF (K:dj) (i:Nat) (d:DefRec):Prop:=
 ∃o pm cd doc,K.H₀.get? (K.fa i)=some o/\o.data = .func (Calls.docDef d.name d.params d.body d.scope pm cd doc)/\K.H₀.CodeRec cd d.name
theorem dP:∀(names:List (Str×NameKind)) (n:Nat) (acc:List (Str×Addr)) (x:Str),((acc.lookup x).isSome=true\/names.lookup x=some .cell)->((cellsFrom n names acc).lookup x).isSome=true
 | [],n,acc,x,h=>by
  rcases h with h|h
  ·exact h
  ·cases h
 |(y,k)::r,n,acc,x,h=>by
  unfold cellsFrom;split
  ·refine dP r _ _ x ?_;by_cases hxy:x=y
   ·subst hxy;left;simp
   ·rcases h with h|h
    ·left
     rw[List.lookup_cons,show(x==y)=false by simpa using hxy];exact h
    ·right
     rwa [List.lookup_cons,show(x==y)=false by simpa using hxy] at h
  ·rename_i hk;refine dP r _ _ x ?_;rcases h with h|h
   ·exact .inl h
   ·right
    by_cases hxy:x=y
    ·subst hxy;rw[List.lookup_cons,show(x==x)=true by simp] at h;simp only[Option.some.injEq] at h;subst h;exact absurd rfl hk
    ·rwa [List.lookup_cons,show(x==y)=false by simpa using hxy] at h
theorem kB (kd:Str->Option NameKind):∀(bs:List (Str×Value)) (m:Str->Option Value) (x:Str),x∉bs.map (·.1)->bindL kd bs m x=m x
 | [],m,x,_=>rfl
 |(y,v)::r,m,x,h=>by
  simp only[List.map_cons,List.mem_cons,not_or] at h;rw[bindL,kB kd r _ x h.2];split
  ·simp[h.1]
  ·rfl
theorem kC (kd:Str->Option NameKind):∀(bs:List (Str×Value)) (m:Str->Option Value) (x:Str),x∉bs.map (·.1)->bindC kd bs m x=m x
 | [],m,x,_=>rfl
 |(y,v)::r,m,x,h=>by
  simp only[List.map_cons,List.mem_cons,not_or] at h;rw[bindC,kC kd r _ x h.2];split
  ·rfl
  ·simp[h.1]
theorem p7 (kd:Str->Option NameKind):∀(bs:List (Str×Value)) (m:Str->Option Value) (i:Nat) (x:Str) (v:Value),(bs.map (·.1)).Nodup->bs[i]?=some (x,v)->kd x=some .local->bindL kd bs m x=some v
 | [],m,i,x,v,_,h,_=>by simp at h
 |(y,u)::r,m,0,x,v,nd,h,hk=>by
  simp only[List.getElem?_cons_zero,Option.some.injEq,Prod.mk.injEq] at h;obtain⟨rfl,rfl⟩:=h;simp only[List.map_cons,List.nodup_cons] at nd;rw[bindL,kB kd r _ y nd.1,if_pos hk];simp
 |(y,u)::r,m,i+1,x,v,nd,h,hk=>by
  simp only[List.map_cons,List.nodup_cons] at nd;rw[bindL];exact p7 kd r _ i x v nd.2 (by simpa using h) hk
theorem p8 (kd:Str->Option NameKind):∀(bs:List (Str×Value)) (m:Str->Option Value) (i:Nat) (x:Str) (v:Value),(bs.map (·.1)).Nodup->bs[i]?=some (x,v)->kd x≠some .local->bindC kd bs m x=some v
 | [],m,i,x,v,_,h,_=>by simp at h
 |(y,u)::r,m,0,x,v,nd,h,hk=>by
  simp only[List.getElem?_cons_zero,Option.some.injEq,Prod.mk.injEq] at h;obtain⟨rfl,rfl⟩:=h;simp only[List.map_cons,List.nodup_cons] at nd;rw[bindC,kC kd r _ y nd.1,if_neg hk];simp
 |(y,u)::r,m,i+1,x,v,nd,h,hk=>by
  simp only[List.map_cons,List.nodup_cons] at nd;rw[bindC];exact p8 kd r _ i x v nd.2 (by simpa using h) hk
theorem nB {α β:Type}:∀(xs:List α) (ys:List β),xs.length=ys.length->(xs.zip ys).map (·.1)=xs
 | [],_,_=>rfl
 |x::xs,[],h=>by simp at h
 |x::xs,y::ys,h=>by simp only[List.zip_cons_cons,List.map_cons];rw[nB xs ys (by simpa using h)]
theorem jW {h:Heap} {a:Addr} (ha:h.objs.size<=a):h.get? a=none:=by
 cases q:h.get? a with
 |none=>rfl
 |some o=>
  have:=(Heap.get?_some_iff.mp q).1;rw[Array.getElem?_eq_some_iff] at this;obtain⟨hlt,_⟩:=this;exact absurd hlt (by exact Nat.not_lt.mpr ha)
theorem ak.at_ {H₀ h:Heap} {ρ:List Addr}:∀{vs:List Value} {ds:List D} (_:ak H₀ h ρ vs ds) (i:Nat) (d:D),ds[i]?=some d->∃v,vs[i]?=some v/\cj H₀ h ρ v d
 | [],[],_,i,d,e=>by simp at e
 | [],_::_,r,_,_,_=>by simp[ak] at r
 |_::_,[],r,_,_,_=>by simp[ak] at r
 |v::vs,d'::ds,r,0,d,e=>by
  simp only[ak] at r;simp only[List.getElem?_cons_zero,Option.some.injEq] at e;subst e;exact⟨v,rfl,r.1⟩
 |v::vs,d'::ds,r,i+1,d,e=>by
  simp only[ak] at r;simpa using ak.at_ r.2 i d (by simpa using e)
section
variable {K:dj} {A:Around} {s:Shared} {ρ:List Addr} {J:St}
theorem vP {cs:List (Str×Addr)} (h:cs.Pairwise fun x y=>x.2≠y.2) {x y:Str} {a:Addr} (hx:(x,a)∈cs) (hy:(y,a)∈cs):x=y:=by
 induction cs with
 |nil=>simp at hx
 |cons c r ih=>
  simp only[List.pairwise_cons] at h;rcases List.mem_cons.mp hx with e|hx'
  ·rcases List.mem_cons.mp hy with e'|hy'
   ·rw[<-e] at e';cases e';rfl
   ·exact absurd (by rw[<-e]) (h.1 _ hy')
  ·rcases List.mem_cons.mp hy with e'|hy'
   ·exact absurd (by rw[<-e']) (h.1 _ hx')
   ·exact ih h.2 hx' hy'
theorem qj {d:DefRec} {fn:Fn} {c:bV} {env:Env} {s s₁:Shared} {vals:List Value} {ds:List D}
  (hs:c.scope=d.scope) (hok:c.ok=true) (hpar:∀i x,(d.params.args.map (·.arg))[i]?=some x->(x,i)∈c.vars)
  (hk:∀p∈c.vars,d.scope.names.lookup p.1=some .local\/d.scope.names.lookup p.1=some .cell) (hnx:fn.nargs<=c.next)
  (hlen:(d.params.args.map (·.arg)).length=fn.nargs) (hnd:(d.params.args.map (·.arg)).Nodup)
  (hks:env.scope=d.scope) (hL:env.locals=s.heap.objs.size) (hcs:env.cells=cellsFrom (s.heap.objs.size+1) d.scope.names [])
  (X:InCallC s env.locals (bindL env.kindOf ((d.params.args.map (·.arg)).zip vals) fun _=>none) env.cells (bindC env.kindOf ((d.params.args.map (·.arg)).zip vals) fun _=>none) s₁)
  (x:K.sr ρ J s.heap) (r:ak K.H₀ s.heap ρ vals ds) (hds:ds.length=fn.nargs) (m:Nat) :
  df K c env s₁.heap ρ (ds.map some++List.replicate m none):=by
 have hkof:∀y,env.kindOf y=d.scope.names.lookup y:=fun y=>by rw[<-hks];rfl
 have hvl:vals.length=fn.nargs:=by rw[ak.length r,hds]
 have hfst:=nB (d.params.args.map (·.arg)) vals (by rw[hlen,hvl]);have hval:∀p∈c.vars,∀dd,((ds.map some++List.replicate m (none:Option D))[p.2]?).join=some dd->∃v,((d.params.args.map (·.arg)).zip vals)[p.2]?=some (p.1,v)/\K.rep s₁.heap ρ v dd:=by
  intro p hp dd hdd;by_cases hlt:p.2<ds.length
  ·rw[List.getElem?_append_left (by simpa using hlt)] at hdd;rw[List.getElem?_map,List.getElem?_eq_getElem hlt] at hdd;simp only[Option.map_some,Option.join_some,Option.some.injEq] at hdd;obtain⟨v,hv,hr⟩:=ak.at_ r p.2 dd (by rw[List.getElem?_eq_getElem hlt,hdd]);have hpl:p.2<(d.params.args.map (·.arg)).length:=by rw[hlen,<-hds];exact hlt
   have hm:=hpar p.2 _ (List.getElem?_eq_getElem hpl);have hpe:=bV.idx_inj hok hm hp rfl;refine⟨v,?_,hr.grow x (au.keeps x X.toInCall.keep)⟩;rw[List.getElem?_zip_eq_some];refine⟨?_,hv⟩;rw[List.getElem?_eq_getElem hpl]
   exact congrArg (fun q:Str×Nat=>some q.1) hpe
  ·rw[List.getElem?_append_right (by simpa using hlt)] at hdd;rw[List.getElem?_replicate] at hdd;split at hdd<;>simp at hdd
 have hcell:∀y a,env.cells.lookup y=some a->s.heap.objs.size<a:=fun y a e=>by
  have:=X.above y a (dz e);rwa [hL] at this
 refine⟨⟨_,X.toInCall.ns⟩,?_,?_,?_,?_,?_⟩
 ·intro hm;obtain⟨ob,e,_⟩:=SR.data x hm;rw[hL,jW (Nat.le_refl _)] at e
  cases e
 ·intro p hp;rcases hk p hp with h1|h1
  ·refine .inl ⟨by rw[hkof];exact h1,_,X.toInCall.ns,fun dd hdd=>?_⟩;obtain⟨v,hv,hr⟩:=hval p hp dd hdd;exact⟨v,p7 _ _ _ p.2 p.1 v (by rw[hfst];exact hnd) hv (by rw[hkof];exact h1),hr⟩
  ·have hsome:=dP d.scope.names (s.heap.objs.size+1) [] p.1 (.inr h1);rw[<-hcs] at hsome;obtain⟨a,ha⟩:=Option.isSome_iff_exists.mp hsome
   refine .inr ⟨.inl (by rw[hkof];exact h1),a,_,ha,X.cell _ _ ha,fun dd hdd=>?_⟩;obtain⟨v,hv,hr⟩:=hval p hp dd hdd;exact⟨v,p8 _ _ _ p.2 p.1 v (by rw[hfst];exact hnd) hv (by rw[hkof,h1];simp),hr⟩
 ·intro p hp q hq hne a ha hb;exact hne (vP X.apart (dz ha) (dz hb))
 ·intro a ha;have hge:s.heap.objs.size<=a:=by
   simp only[frame,List.mem_cons,List.mem_filterMap] at ha;rcases ha with rfl | ⟨p,hp,hpa⟩
   ·rw[hL];exact Nat.le_refl _
   ·split at hpa
    ·exact Nat.le_of_lt (hcell _ _ hpa)
    ·cases hpa
  cases q:K.H₀.get? a with
  |none=>rfl
  |some o=>
   have:=x.keep _ _ q;rw[jW hge] at this
   cases this
 ·intro j hj;by_cases hlt:j<ds.length
  ·omega
  ·rw[List.getElem?_append_right (by simpa using hlt),List.getElem?_replicate];split<;>rfl
theorem pY {ds:List DefRec} (ht:∀(i:Nat) (fn:Fn),K.FT[i]?=some fn->∃d,ds[i]?=some d/\sf K d fn) (ha:∀(i:Nat) (d:DefRec),ds[i]?=some d->BF K i d) {n:Nat} (IH:bW K n) {f:Nat} {args:List D} {dv:D} {J':St} {vals:List Value} {R:Result->Shared->Prop}
  (he:K.C (n+1) f args J=some (dv,J')) (ok:K.Ok) (x:K.sr ρ J s.heap) (r:ak K.H₀ s.heap ρ vals args) (room:xT (n+1) A) (p:kG K ρ J J' s dv fun v s'=>R (.ok (.ret v)) s') :
  codeAny K.M A (.call (.ref (K.fa f)) ⟨vals,[]⟩) R s:=by
    refine rt (fun fn fl l1 hfn hlen h1 hfl=>?_) he;obtain⟨d,hd,t⟩:=ht f fn hfn;obtain⟨o,pm,cd,doc,ho,hdat,hcr⟩:=ha f d hd;obtain⟨c,hs,hok,hsim,hpar,hk,hnx⟩:=t.c;have hvl:vals.length=fn.nargs:=by rw[ak.length r,hlen]
    have hfst:=nB (d.params.args.map (·.arg)) vals (by rw[t.len,hvl]);refine(codeAny_call_cells (fd:=Calls.docDef d.name d.params d.body d.scope pm cd doc) (by have:=room.depth;exact Nat.lt_of_le_of_lt (Nat.le_add_right _ _) this) (x.keep _ _ ho) hdat
     (ok.nolimit.keeps x.keep) (hcr.keeps x.keep) rfl (t.bind pm cd doc vals hvl) rfl ?_ (fun s₁ X=>?_) t.co t.gen t.kind)
    ·intro b hb;have hb1:b.1∈(d.params.args.map (·.arg)):=by rw[<-hfst];exact List.mem_map_of_mem hb
     obtain⟨i,hi⟩:=List.mem_iff_getElem?.mp hb1;rcases hk _ (hpar i _ hi) with h1|h1
     ·exact .inl h1
     ·exact .inr ⟨h1,dP _ _ _ _ (.inr h1)⟩
    ·obtain⟨h₁,tk,e1⟩:=X.toInCall.same;have kp:=X.toInCall.keep;have V:=qj (m:=fn.nslots-fn.nargs) (env:=callEnvC (Calls.docDef d.name d.params d.body d.scope pm cd doc) s.heap.objs.size (K.fa f)) hs hok hpar hk hnx t.len t.nd rfl rfl rfl X x r hlen;subst e1
     have ev:fk c (callEnvC (Calls.docDef d.name d.params d.body d.scope pm cd doc) s.heap.objs.size (K.fa f)):=⟨t.kind,fun y k hy=>by rw[hs] at hy;exact .inl hy,rfl,rfl⟩;have at_:At K c (callEnvC (Calls.docDef d.name d.params d.body d.scope pm cd doc) s.heap.objs.size (K.fa f)) n (A.deeper (callEnvC (Calls.docDef d.name d.params d.body d.scope pm cd doc) s.heap.objs.size (K.fa f)))
       { s with heap:=h₁,toks:=tk } ρ J (args.map some++List.replicate (fn.nslots-fn.nargs) none):=
      ⟨ok,ev,⟨room.handled,by have:=room.depth;show A.depth+1+n<_;(exists L30,0x201011100220201111020020836,this),by have:=room.units;show A.units+3+30*n+200<_;exists L30,0x20c821101e2331100222020c8211111021e2300220836,this⟩,SR.keeps x kp,V⟩
     have g0:au ρ J ρ J s.heap h₁:=au.keeps x kp;have hX:∀b∈frame c (callEnvC (Calls.docDef d.name d.params d.body d.scope pm cd doc) s.heap.objs.size (K.fa f)),s.heap.get? b=none:=by
      intro a ha;refine jW ?_;simp only[frame,List.mem_cons,List.mem_filterMap] at ha;rcases ha with rfl | ⟨p,hp,hpa⟩
      ·exact Nat.le_refl _
      ·split at hpa
       ·exact Nat.le_of_lt (X.above _ _ (dz hpa))
       ·cases hpa
     have hback:∀{ρ':List Addr} {J':St} {h':Heap},bE (frame c (callEnvC (Calls.docDef d.name d.params d.body d.scope pm cd doc) s.heap.objs.size (K.fa f))) ρ J ρ' J' h₁ h'->au ρ J ρ' J' s.heap h':=
      fun g=>((bE.of g0).trans g).toGrow hX (SR.liveAll x)
     refine hsim _ n _ _ ρ J _ _ _ _ _ _ at_ IH h1 fun f ρ' h' tk' g x' v' rr=>?_;rcases hfl with rfl | ⟨rfl,rfl⟩
     ·obtain⟨v,rfl,rv⟩:=rr;exact p v ρ' h' tk' (hback g) x' rv
     ·cases (show f = .next from rr);exact p .none ρ' h' tk' (hback g) x' rfl
theorem xD {ds:List DefRec} (ht:∀(i:Nat) (fn:Fn),K.FT[i]?=some fn->∃d,ds[i]?=some d/\sf K d fn) (ha:∀(i:Nat) (d:DefRec),ds[i]?=some d->BF K i d):∀n,bW K n:=by
 intro A0;induction A0 with
 |zero=>
  exact fun f ds J d J' A s ρ vals Q E (he:none=some _)=>nomatch he
 |succ n ih=>
  exact fun f args J dv J' A s ρ vals Q E he ok x r room p=>wpAny_call (pY ht ha (ih) he ok x r room p)
end
structure T1 (F:List Str) {α:Type} (P:dj->α->Prop) where
 x:α
 h:∀K:dj,K.fn=F->P K x
noncomputable abbrev TX (F:List Str) (c:bV) (e:Expr):=T1 F fun K (x:X)=>aK K c e x
noncomputable abbrev TE (F:List Str):=∀(c:bV) (e:Expr),TX F c e
theorem iS.no {K:dj} {c:bV} {es:List Expr}:iS K c es .fail:=fun _ _ _ _ _ _ _ _ _ _ _ _ _ _ (he:none=some _)=>nomatch he
theorem jE.no {K:dj} {c:bV} {ks:List (Option Expr)} {es:List Expr}:jE K c ks es .fail:=fun _ _ _ _ _ _ _ _ _ _ _ _ _ _ (he:none=some _)=>nomatch he
noncomputable def re (e:Expr):Bool:=Nat.beq e.ctorIdx 23
theorem uc {e:Expr} (h:re e=true) (o r:Value):letTemporaryGo e o r=pure ():=by
 cases e<;>first|exact(Bool.false_ne_true h).elim|skip
 cases o<;>rfl
noncomputable def lq (e:Expr):Bool:=!Nat.beq e.ctorIdx 7
theorem gG {e:Expr} (h:lq e=true) (env:Env) (v:Value):foldedSetIterable e env v=pure v:=by
 cases e<;>first|rfl|exact(Bool.false_ne_true h).elim
section
variable {F:List Str} {c:bV}
noncomputable def TX.no (e:Expr):TX F c e:=⟨.fail,fun _ _=>aK.fail e⟩
noncomputable def BH (R:TE F) (c:bV) (es:List Expr):T1 F fun K (x:X)=>iS K c es x:=by
 induction es with
 |nil=>exact⟨.af,fun _ _=>iS.nil⟩
 |cons e es ih=>exact if hs:az e=true then ⟨.aa (R c e).x ih.x,fun K hK=>iS.cons hs ((R c e).h K hK).1 (ih.h K hK)⟩ else ⟨.fail,fun _ _=>iS.no⟩
noncomputable def CW (R:TE F) (c:bV) (ks:List (Option Expr)):∀es,T1 F fun K (x:X)=>jE K c ks es x:=by
 induction ks with
 |nil=>exact fun es=>List.casesOn es ⟨.af,fun _ _=>jE.nil⟩ fun _ _=>⟨.fail,fun _ _=>jE.no⟩
 |cons k ks ih=>exact fun es=>List.casesOn es ⟨.fail,fun _ _=>jE.no⟩ fun v es=>Option.casesOn k ⟨.fail,fun _ _=>jE.no⟩ fun k=>
   ⟨.aa (R c k).x (.aa (R c v).x (ih es).x),fun K hK=>jE.cons ((R c k).h K hK).1 ((R c v).h K hK).1 ((ih es).h K hK)⟩
noncomputable def CC (R:TE F) (c:bV) (b:Bool) (r:List Expr):∀e,T1 F fun K (x:X)=>jF K c b (e::r) x:=by
 induction r with
 |nil=>exact fun e=>⟨(R c e).x,fun K hK=>jF.one ((R c e).h K hK)⟩
 |cons f r ih=>exact fun e=>⟨if b then .and (R c e).x (ih f).x else .or (R c e).x (ih f).x,fun K hK=>jF.more ((R c e).h K hK) ((ih f).h K hK)⟩
noncomputable def AV {α:Expr->Sort _} (e:Expr) (k:∀x p,α (.Name x p)) (d:∀e,α e):α e:=by
 cases e<;>first|exact k _ _|exact d _
noncomputable def qE {α:Expr->Sort _} (e:Expr) (k:∀q p,α (.Constant .none q p)) (d:∀e,α e):α e:=by
 cases e with
 |Constant v q p=>cases v<;>first|exact k _ _|exact d _
 |_=>exact d _
noncomputable def vI {α:Expr->Sort _} (e:Expr) (k:∀es p,α (.List es p)) (d:∀e,α e):α e:=by
 cases e<;>first|exact k _ _|exact d _
noncomputable def vL {α:Expr->Sort _} (e:Expr) (k:∀f as ks p,α (.Call f as ks p)) (d:∀e,α e):α e:=by
 cases e with
 |Call f as ks p=>exact k f as ks p
 |_=>exact d _
noncomputable def AW {α:Expr->Sort _} (e:Expr) (k:∀o m p,α (.Attribute o m p)) (d:∀e,α e):α e:=by
 cases e with
 |Attribute o m p=>exact k o m p
 |_=>exact d _
noncomputable def cm (target:Expr):List Str:=match iX target with
 |some (xs,_)=>xs
 |none=>[]
noncomputable def qF {α:List Expr->Sort _} (as:List Expr) (k1:∀a,α [a]) (k2:∀a b,α [a,b]) (d:∀as,α as):α as:=by
 cases as with
 |nil=>exact d _
 |cons a as=>cases as with
  |nil=>exact k1 a
  |cons b as=>cases as with
   |nil=>exact k2 a b
   |cons _ _=>exact d _
noncomputable abbrev Gl (c:bV) (x:Str):Prop:=c.scope.names.lookup x=some .globalImplicit
noncomputable def BG (R:TE F) (c:bV) (t e:Expr):T1 F fun K (x:X)=>eN K c t e x:=
 vL (α:=fun e=>T1 F fun K (x:X)=>eN K c t e x) e (fun f as ks p=>AV (α:=fun f=>T1 F fun K (x:X)=>eN K c t (.Call f as ks p) x) f (fun f np=>
  List.casesOn (motive:=fun ks=>T1 F fun K (x:X)=>eN K c t (.Call (.Name f np) as ks p) x) ks (qF (α:=fun as=>T1 F fun K (x:X)=>eN K c t (.Call (.Name f np) as [] p) x) as
   (fun a=>if h:f=("enumerate":Str)/\Gl c "enumerate"/\eW t=true/\az a=true then ⟨.dc (R c a).x,fun K hK=>h.1▸eN.dc h.2.2.1 h.2.1 h.2.2.2 ((R c a).h K hK).1⟩ else
    if h:f=("range":Str)/\Gl c "range"/\az a=true then ⟨.cD (.lit (.int 0)) (R c a).x,fun K hK=>h.1▸eN.range1 h.2.1 h.2.2 ((R c a).h K hK).1⟩ else dflt _)
   (fun a b=>if h:f=("range":Str)/\Gl c "range"/\az a=true/\az b=true then ⟨.cD (R c a).x (R c b).x,fun K hK=>h.1▸eN.range2 h.2.1 h.2.2.1 h.2.2.2 ((R c a).h K hK).1 ((R c b).h K hK).1⟩ else dflt _) fun _=>dflt _) fun _ _=>dflt _) fun _=>dflt _) fun _=>dflt _
where dflt (e:Expr):T1 F fun K (x:X)=>eN K c t e x:=⟨.ix (R c e).x,fun K hK=>eN.ix ((R c e).h K hK).1⟩
structure TC (F:List Str) (P:dj->X->X->Option X->Prop) where
 x:X
 i:X
 o:Option X
 h:∀K:dj,K.fn=F->P K x i o
noncomputable def slots (c:bV) (t:Expr):List Nat:=List.range' c.next (cm t).length
noncomputable def io (c:bV) (t:Expr) (scope:Scope):bV:=aW c scope (cm t) (slots c t) (c.next+(cm t).length)
noncomputable abbrev xX (c:bV) (t it:Expr) (scope:Scope):Prop:=lq it=true/\nH c scope (cm t) (slots c t) (c.next+(cm t).length)=true/\eu (io c t scope) t (slots c t) (eW t)=true
noncomputable def CX (R:TE F) (c:bV) (ifs:List Expr):Option (T1 F fun K (o:Option X)=>match o with|none=>ifs=[]|some Y=>∃e,ifs=[e]/\md K c e Y):=by
 cases ifs with
 |nil=>exact some ⟨none,fun _ _=>rfl⟩
 |cons e r=>cases r with
  |nil=>exact some ⟨some (R c e).x,fun K hK=>⟨e,rfl,((R c e).h K hK).2⟩⟩
  |cons _ _=>exact none
noncomputable def BO (R:TE F) (c:bV) (elt t it:Expr) (ifs:List Expr) (scope:Scope):Option (TC F fun K x i o=>qd K c elt t it ifs scope x i (slots c t) (eW t) o):=
 if h:xX c t it scope then (CX R (io c t scope) ifs).map fun o=>⟨(R (io c t scope) elt).x,(BG R c t it).x,o.x,fun K hK=>⟨gG h.1,_,_,cR.of h.2.1,(BG R c t it).h K hK,h.2.2,((R (io c t scope) elt).h K hK).1,o.h K hK⟩⟩ else none
noncomputable def CK (R:TE F) (c:bV) (kx vx t it:Expr) (ifs:List Expr) (scope:Scope):Option (TC F fun K x i o=>Ap K c kx vx t it ifs scope x (R (io c t scope) vx).x i (slots c t) (eW t) o):=
 if h:xX c t it scope then (CX R (io c t scope) ifs).map fun o=>⟨(R (io c t scope) kx).x,(BG R c t it).x,o.x,fun K hK=>⟨gG h.1,_,_,cR.of h.2.1,(BG R c t it).h K hK,h.2.2,((R (io c t scope) kx).h K hK).1,((R (io c t scope) vx).h K hK).1,o.h K hK⟩⟩ else none
noncomputable def vK {α:List Comprehension->Sort _} (gs:List Comprehension) (k:∀t it ifs,α [⟨t,it,ifs,0⟩]) (d:∀gs,α gs):α gs:=by
 cases gs with
 |nil=>exact d _
 |cons g gs=>cases gs with
  |cons _ _=>exact d _
  |nil=>
   obtain⟨t,it,ifs,a⟩:=g
   cases a with
   |negSucc _=>exact d _
   |ofNat n=>cases n with
    |zero=>exact k t it ifs
    |succ _=>exact d _
noncomputable def As (R:TE F) (c:bV) (e:Expr):Option (T1 F fun K (x:X)=>eC K c true e x):=by
 cases e with
 |List es p=>exact some ⟨.cC (BH R c es).x,fun K hK=>eC.disp ((BH R c es).h K hK)⟩
 |ListComp elt gs scope p=>exact vK (α:=fun gs=>Option (T1 F fun K (x:X)=>eC K c true (.ListComp elt gs scope p) x)) gs (fun t it ifs=>(BO R c elt t it ifs scope).map fun y=>⟨.aE y.x (slots c t) (eW t) y.i y.o,fun K hK=>eC.comp (y.h K hK)⟩) fun _=>none
 |Subscript o sl p=>
  cases sl with
  |Slice lo hi st q=>cases st with
   |some _=>exact none
   |none=>exact
    match h1:lu lo,h2:lu hi with
    |some l,some u=>if h:re o=true then some ⟨.lsl (R c o).x l u,fun K hK=>eC.slice ((R c o).h K hK).1 h1 h2 (uc h)⟩ else none
    |_,_=>none
  |_=>exact none
 |_=>exact none
noncomputable def z8 (R:TE F) (c:bV) (e:Expr):T1 F fun K (x:X)=>∃b,eC K c b e x:=
 match As R c e with
 |some y=>⟨y.x,fun K hK=>⟨true,y.h K hK⟩⟩
 |none=>⟨.qV (R c e).x,fun K hK=>⟨false,eC.ofx ((R c e).h K hK).1⟩⟩
end
variable {F:List Str}
noncomputable def mB (R:TE F) (c:bV) (a b:Expr) (p:Pos) (op:uR):TX F c (.BinOp a op.py b p):=⟨.bin op (R c a).x (R c b).x,fun K hK=>aK.bin ((R c a).h K hK).1 ((R c b).h K hK).1⟩
noncomputable def k5 (R:TE F) (c:bV) (a b:Expr) (p:Pos) (op:z5):TX F c (.Compare a [op.py] [b] p):=
 if h:behindInMarks op.py b=false then ⟨.cmp op (R c a).x (R c b).x,fun K hK=>aK.cmp ((R c a).h K hK).1 ((R c b).h K hK).1 h⟩ else .no _
noncomputable def fK (c:bV) (x:Str):Nat:=(c.vars.lookup x).getD 0
noncomputable def Av (R:TE F) (c:bV) (f:Str) (np:Pos) (as:List Expr) (p:Pos):TX F c (.Call (.Name f np) as [] p):=
 if hu:F[F.idxOf f]?=some f/\Gl c f/\cV f=true then by
  cases as with
  |nil=>exact .no _
  |cons a as=>exact if hs:az a=true then ⟨.call (F.idxOf f) (.aa (R c a).x (BH R c as).x),fun K hK=>aK.call (by rw[hK];exact hu.1) hu.2.1 hu.2.2 hs (iS.cons hs ((R c a).h K hK).1 ((BH R c as).h K hK))⟩ else .no _
 else qF (α:=fun as=>TX F c (.Call (.Name f np) as [] p)) as (fun a=>
  if hs:Gl c f/\az a=true then
   if h:f=("len":Str) then (As R c a).elim ⟨.len (R c a).x,fun K hK=>by subst h;exact aK.len hs.1 hs.2 ((R c a).h K hK).1⟩ fun y=>⟨.jg y.x,fun K hK=>by subst h;exact aK.jg hs.1 hs.2 (y.h K hK)⟩
   else if h:f=("dict":Str) then (As R c a).elim ⟨.dictOf (R c a).x,fun K hK=>by subst h;exact aK.dictOf hs.1 hs.2 ((R c a).h K hK).1⟩ fun y=>⟨.cI y.x,fun K hK=>by subst h;exact aK.cI hs.1 hs.2 (y.h K hK)⟩
   else if h:f=("list":Str) then ⟨.gm (z8 R c a).x,fun K hK=>by subst h;exact(z8 R c a).h K hK |>.elim fun _ q=>aK.gm hs.1 hs.2 q⟩
   else if h:f=("tuple":Str) then ⟨.fN (z8 R c a).x,fun K hK=>by subst h;exact(z8 R c a).h K hK |>.elim fun _ q=>aK.fN hs.1 hs.2 q⟩
   else if h:f=("max":Str) then ⟨.ik (z8 R c a).x,fun K hK=>by subst h;exact(z8 R c a).h K hK |>.elim fun _ q=>aK.ik hs.1 hs.2 q⟩
   else if h:f=("abs":Str) then ⟨.abs (R c a).x,fun K hK=>by subst h;exact aK.abs hs.1 hs.2 ((R c a).h K hK).1⟩
   else if h:f=("sum":Str) then ⟨.sum (R c a).x,fun K hK=>by subst h;exact aK.sum hs.1 hs.2 ((R c a).h K hK).1⟩
   else if h:f=("sorted":Str) then
    vL (α:=fun a=>az a=true->TX F c (.Call (.Name f np) [a] [] p)) a (fun g as ks cp _=>AW (α:=fun g=>TX F c (.Call (.Name f np) [.Call g as ks cp] [] p)) g (fun o m ap=>List.casesOn (motive:=fun as=>TX F c (.Call (.Name f np) [.Call (.Attribute o m ap) as ks cp] [] p)) as (List.casesOn (motive:=fun ks=>TX F c (.Call (.Name f np) [.Call (.Attribute o m ap) [] ks cp] [] p)) ks (if h2:m=("items":Str)/\cA o=true/\(ap.endLine==cp.line)=true then ⟨.cU (R c o).x,fun K hK=>by subst h;rw[h2.1];exact aK.cU hs.1 h2.2.1 h2.2.2 ((R c o).h K hK).1⟩ else .no _) fun _ _=>.no _) fun _ _=>.no _) fun _=>.no _)
    (fun a ha=>⟨.sorted (R c a).x,fun K hK=>by subst h;exact aK.sorted hs.1 ha ((R c a).h K hK).1⟩) hs.2
   else .no _
  else .no _) (fun a b=>if h:f=("max":Str)/\Gl c "max"/\az a=true/\az b=true then ⟨.max2 (R c a).x (R c b).x,fun K hK=>h.1▸aK.max2 h.2.1 h.2.2.1 h.2.2.2 ((R c a).h K hK).1 ((R c b).h K hK).1⟩ else .no _) fun _=>.no _
noncomputable def Au (R:TE F) (c:bV) (o:Expr) (m:Str) (ap:Pos) (as:List Expr) (p:Pos):TX F c (.Call (.Attribute o m ap) as [] p):=
 if hb:cA o=true/\(ap.endLine==p.line)=true then by
  cases as with
  |nil=>exact if h:m=("sort":Str) then ⟨.sort (R c o).x,fun K hK=>by subst h;exact aK.sort ((R c o).h K hK).1 hb.1 hb.2⟩ else .no _
  |cons a as=>
   refine dite (az a=true) (fun hs=>?_) fun _=>.no _
   ·cases as with
    |nil=>exact
     if h:m=("append":Str) then ⟨.append (R c o).x (R c a).x,fun K hK=>by subst h;exact aK.append ((R c o).h K hK).1 ((R c a).h K hK).1 hb.1 hs hb.2⟩
     else if h:m=("extend":Str) then ⟨.extend (R c o).x (z8 R c a).x,fun K hK=>by subst h;exact(z8 R c a).h K hK |>.elim fun _ q=>aK.extend ((R c o).h K hK).1 q hb.1 hs hb.2⟩
     else if h:m=("pop":Str) then if re a=true then ⟨.pop1 (R c o).x (R c a).x,fun K hK=>by subst h;exact aK.pop1 ((R c o).h K hK).1 ((R c a).h K hK).1 hb.1 hs hb.2⟩
      else ⟨.ii (R c o).x (R c a).x,fun K hK=>by subst h;exact aK.ii ((R c o).h K hK).1 ((R c a).h K hK).1 hb.1 hs hb.2⟩
     else .no _
    |cons b as=>cases as with
     |cons _ _=>exact .no _
     |nil=>exact
      if hs':az b=true then
       if h:m=("get":Str) then ⟨.get2 (R c o).x (R c a).x (R c b).x,fun K hK=>by subst h;exact aK.get2 ((R c o).h K hK).1 ((R c a).h K hK).1 ((R c b).h K hK).1 hb.1 hs hs' hb.2⟩
       else if h:m=("pop":Str) then qE (α:=fun b=>TX F c (.Call (.Attribute o m ap) [a,b] [] p)) b (fun q np=>⟨.pop2 (R c o).x (R c a).x,fun K hK=>by subst h;exact aK.pop2 ((R c o).h K hK).1 ((R c a).h K hK).1 (aK.lit rfl).1 hb.1 hs rfl hb.2⟩) fun _=>.no _
       else .no _
      else .no _
 else .no _
noncomputable def TX.lst {c:bV} {e:Expr} (he:∀env whole,isTrue e env whole=(do let v<-whole;standAt e.pos;holding [v] (truthy v))) (y:Option (T1 F fun K (x:X)=>eC K c true e x)):TX F c e:=
 Option.casesOn y (.no e) fun y=>⟨.lst y.x,fun K hK=>aK.lst (y.h K hK) he⟩
noncomputable def C2 (R:TE F) (c:bV) (e:Expr):TX F c e:=by
 cases e with
 |Constant k q p=>cases k with
  |none=>exact⟨.lit .none,fun _ _=>aK.lit rfl⟩
  |bool b=>exact⟨.lit (.bool b),fun _ _=>aK.lit rfl⟩
  |int i=>exact⟨.lit (.int i),fun _ _=>aK.lit rfl⟩
  |str x=>exact⟨.lit (.str x),fun _ _=>aK.lit rfl⟩
  |_=>exact .no _
 |Name x p=>exact if h:x=("R0":Str)/\Gl c "R0" then ⟨.lit (.tup [.int 0,.int 1]),fun K hK=>h.1▸aK.r0 h.2⟩ else
   if h:(x,fK c x)∈c.vars/\cV x=true then ⟨.var (fK c x),fun K hK=>aK.var h.1 h.2⟩ else .no _
 |BinOp a o b p=>cases o with
  |Add=>exact mB R c a b p .add
  |Sub=>exact mB R c a b p .sub
  |FloorDiv=>exact mB R c a b p .fdiv
  |Mod=>exact mB R c a b p .mod
  |Pow=>exact mB R c a b p .pow
  |Mult=>exact vI (α:=fun a=>TX F c (.BinOp a .Mult b p)) a (fun es lp=>qF (α:=fun es=>TX F c (.BinOp (.List es lp) .Mult b p)) es (fun e=>if hs:az e=true then ⟨.rep (R c e).x (R c b).x,fun K hK=>aK.rep hs ((R c e).h K hK).1 ((R c b).h K hK).1⟩ else .no _) (fun _ _=>.no _) fun _=>.no _) fun a=>mB R c a b p .mul
  |_=>exact .no _
 |UnaryOp op a p=>cases op with
  |USub=>exact⟨.neg (R c a).x,fun K hK=>aK.neg ((R c a).h K hK).1⟩
  |Not=>exact⟨.not (R c a).x,fun K hK=>aK.not ((R c a).h K hK)⟩
  |_=>exact .no _
 |BoolOp op es p=>cases es with
  |nil=>exact .no _
  |cons e r=>cases op with
   |And=>exact⟨(CC R c true r e).x,fun K hK=>jF.sim (isAnd:=true) ((CC R c true r e).h K hK)⟩
   |Or=>exact⟨(CC R c false r e).x,fun K hK=>jF.sim (isAnd:=false) ((CC R c false r e).h K hK)⟩
 |IfExp t a b p=>exact⟨.ite (R c t).x (R c a).x (R c b).x,fun K hK=>aK.ite ((R c t).h K hK).2 ((R c a).h K hK) ((R c b).h K hK)⟩
 |Call f as ks p=>cases ks with
  |cons _ _=>exact .no _
  |nil=>cases f with
   |Name f np=>exact Av R c f np as p
   |Attribute o m ap=>exact Au R c o m ap as p
   |_=>exact .no _
 |Tuple es k p=>exact⟨.tup (BH R c es).x,fun K hK=>aK.tup ((BH R c es).h K hK)⟩
 |Dict ks vs p=>cases ks with
  |nil=>cases vs with
   |nil=>exact⟨.dict .af,fun _ _=>aK.dict0⟩
   |cons _ _=>exact .no _
  |cons k ks=>cases vs with
   |nil=>exact .no _
   |cons v vs=>cases k with
    |none=>exact .no _
    |some k=>exact if h:(some k::ks).all (·.isSome)=true/\(some k::ks).length=(v::vs).length/\(some k::ks).length<=15 then
      ⟨.dict (CW R c (some k::ks) (v::vs)).x,fun K hK=>aK.dict h.1 h.2.1 h.2.2 ((CW R c (some k::ks) (v::vs)).h K hK)⟩ else .no _
 |Subscript o i p=>exact if hs:jh i=false then ⟨.idx (R c o).x (R c i).x,fun K hK=>aK.idx ((R c o).h K hK).1 ((R c i).h K hK).1 hs⟩ else .lst (fun _ _=>rfl) (As R c (.Subscript o i p))
 |List es p=>exact .lst (fun _ _=>rfl) (As R c (.List es p))
 |ListComp elt gs scope p=>exact .lst (fun _ _=>rfl) (As R c (.ListComp elt gs scope p))
 |DictComp kx vx gs scope p=>exact vK (α:=fun gs=>TX F c (.DictComp kx vx gs scope p)) gs (fun t it ifs=>(CK R c kx vx t it ifs scope).elim (.no _) fun y=>⟨.ff y.x (R (io c t scope) vx).x (slots c t) (eW t) y.i y.o,fun K hK=>aK.ff (y.h K hK)⟩) fun _=>.no _
 |Compare a ops bs p=>cases ops with
  |nil=>exact .no _
  |cons op ops=>cases ops with
   |cons _ _=>exact .no _
   |nil=>cases bs with
    |nil=>exact .no _
    |cons b bs=>cases bs with
     |cons _ _=>exact .no _
     |nil=>cases op with
      |Eq=>exact k5 R c a b p .eq
      |Lt=>exact k5 R c a b p .lt
      |Gt=>exact k5 R c a b p .gt
      |In=>exact k5 R c a b p .isin
      |NotIn=>exact k5 R c a b p .ke
      |Is=>exact qE (α:=fun b=>TX F c (.Compare a [.Is] [b] p)) b (fun q np=>⟨.isn (R c a).x,fun K hK=>aK.isn ((R c a).h K hK).1⟩) fun _=>.no _
      |IsNot=>exact qE (α:=fun b=>TX F c (.Compare a [.IsNot] [b] p)) b (fun q np=>⟨.notn (R c a).x,fun K hK=>aK.notn ((R c a).h K hK).1⟩) fun _=>.no _
      |NotEq=>exact vI (α:=fun b=>TX F c (.Compare a [.NotEq] [b] p)) b (fun es lp=>List.casesOn es ((As R c a).elim ⟨.jd (R c a).x,fun K hK=>aK.jd ((R c a).h K hK).1⟩ fun y=>⟨.gj y.x,fun K hK=>aK.gj (y.h K hK)⟩) fun e es=>k5 R c a (.List (e::es) lp) p .ne) fun b=>k5 R c a b p .ne
      |_=>exact .no _
 |_=>exact .no _
noncomputable def C4 (n:Nat):TE F:=Nat.rec (fun _ e=>.no e) (fun _ R c e=>C2 R c e) n
variable {F:List Str}
theorem fo.no {K:dj} {c:bV} {ss:List Stmt}:fo K c ss .fail:=fun _ _ _ _ _ _ _ _ _ _ _ _ _ _ (he:none=some _)=>nomatch he
noncomputable abbrev BM (F:List Str) (c:bV) (s:Stmt):=T1 F fun K (x:XS)=>bB K c s x
noncomputable abbrev TS (F:List Str):=∀(c:bV) (ss:List Stmt),T1 F fun K (x:XS)=>fo K c ss x
noncomputable def BM.no {c:bV} (s:Stmt):BM F c s:=⟨.fail,fun _ _=>bB.fail s⟩
noncomputable def yO {α:Expr->Sort _} (e:Expr) (k:∀a gs s p,α (.ListComp a gs s p)) (d:∀e,α e):α e:=by
 cases e with
 |ListComp a gs s p=>exact k a gs s p
 |_=>exact d _
noncomputable def BP (R:TE F) (c:bV) (ok:c.ok=true) (t e:Expr) (p:Pos):BM F c (.Assign [t] e p):=by
 cases t with
 |Subscript o k tp=>exact if h:gn e=false then ⟨.set (R c o).x (R c k).x (R c e).x,fun K hK=>bB.set ((R c o).h K hK).1 ((R c k).h K hK).1 ((R c e).h K hK).1 h⟩ else .no _
 |Tuple es q tp=>exact if h:gn e=false/\eu c (.Tuple es q tp) ((cm (.Tuple es q tp)).map (fK c)) true=true/\((cm (.Tuple es q tp)).map (fK c)).Nodup/\k7 e=true then
   ⟨.eM ((cm (.Tuple es q tp)).map (fK c)) (R c e).x,fun K hK=>bB.eM ((R c e).h K hK).1 ok h.2.1 h.2.2.1 h.1 h.2.2.2⟩ else .no _
 |Name y np=>
  exact dite (fI c (y,fK c y)=true) (fun h1=>yO (α:=fun e=>BM F c (.Assign [.Name y np] e p)) e (fun elt gs scope cp=>vK (α:=fun gs=>BM F c (.Assign [.Name y np] (.ListComp elt gs scope cp) p)) gs (fun t it ifs=>(BO R c elt t it ifs scope).elim (.no _) fun z=>⟨.asg (fK c y) (.lst (.aE z.x (slots c t) (eW t) z.i z.o)),fun K hK=>bB.asgL (z.h K hK) ok h1⟩) fun _=>.no _) fun e=>if h:gn e=false then ⟨.asg (fK c y) (R c e).x,fun K hK=>bB.asg ((R c e).h K hK).1 ok h1 h⟩ else .no _) fun _=>.no _
 |_=>exact .no _
noncomputable def yg (R:TE F) (T:TS F) (c:bV) (ok:c.ok=true) (s:Stmt):BM F c s:=by
 cases s with
 |Return v p=>exact Option.casesOn v (.no _) fun e=>⟨.ret (R c e).x,fun K hK=>bB.ret ((R c e).h K hK).1⟩
 |Continue p=>exact⟨.cont,fun _ _=>bB.cont⟩
 |If e a b p=>exact⟨.ifs (R c e).x (T c a).x (T c b).x,fun K hK=>bB.ifs ((R c e).h K hK).2 ((T c a).h K hK) ((T c b).h K hK)⟩
 |While e a o p=>exact List.casesOn o ⟨.whl (R c e).x (T c a).x,fun K hK=>bB.whl ((R c e).h K hK).2 ((T c a).h K hK)⟩ fun _ _=>.no _
 |For t it b o p=>exact List.casesOn o (if h:eu c t ((cm t).map (fK c)) (eW t)=true/\lq it=true then
   ⟨.for_ ((cm t).map (fK c)) (eW t) (BG R c t it).x (T c b).x,fun K hK=>bB.for_ ((BG R c t it).h K hK) ok h.1 ((T c b).h K hK) (gG h.2)⟩ else .no _) fun _ _=>.no _
 |Expr e p=>exact if h:gn e=false then ⟨.expr (R c e).x,fun K hK=>bB.expr ((R c e).h K hK).1 h⟩ else .no _
 |AugAssign t op e p=>cases t with
  |Subscript o k tp=>cases op with
   |Add=>exact if h:jh k=false then ⟨.aug (R c o).x (R c k).x .add (R c e).x,fun K hK=>bB.aug ((R c o).h K hK).1 ((R c k).h K hK).1 ((R c e).h K hK).1 h⟩ else .no _
   |_=>exact .no _
  |_=>exact .no _
 |Assign ts e p=>exact List.casesOn ts (.no _) fun t r=>List.casesOn r (BP R c ok t e p) fun _ _=>.no _
 |_=>exact .no _
noncomputable def CI (R:TE F) (T:TS F) (c:bV) (ok:c.ok=true) (r:List Stmt):∀s,T1 F fun K (x:XS)=>fo K c (s::r) x:=by
 induction r with
 |nil=>exact fun s=>⟨(yg R T c ok s).x,fun K hK=>fo.one ((yg R T c ok s).h K hK)⟩
 |cons s' r ih=>exact fun s=>⟨.seq (yg R T c ok s).x (ih s').x,fun K hK=>fo.cons ((yg R T c ok s).h K hK) ((ih s').h K hK)⟩
noncomputable def C3 (R:TE F) (n:Nat):TS F:=Nat.rec (fun _ _=>⟨.fail,fun _ _=>fo.no⟩) (fun _ T c ss=>List.casesOn ss ⟨.nil,fun _ _=>fo.nil⟩ fun s r=>if ok:c.ok=true then CI R T c ok r s else ⟨.fail,fun _ _=>fo.no⟩) n
noncomputable def Al (xs:List Str) (ys:List Str):List Str:=ys.foldl (fun acc y=>if acc.contains y then acc else acc++[y]) xs
noncomputable def Bw (B:List Stmt->List Str->List Str) (s:Stmt) (acc:List Str):List Str:=by
 cases s with
 |Assign ts _ _=>exact List.casesOn ts acc fun t r=>List.casesOn r (Al acc (cm t)) fun _ _=>acc
 |For t _ b _ _=>exact B b (Al acc (cm t))
 |While _ b _ _=>exact B b acc
 |If _ a b _=>exact B b (B a acc)
 |_=>exact acc
noncomputable def Cw (n:Nat):List Stmt->List Str->List Str:=Nat.rec (fun _ acc=>acc) (fun _ B ss acc=>ss.foldl (fun acc s=>Bw B s acc) acc) n
noncomputable def lY (d:DefRec):bV:=
 let xs:=Cw 60 d.body (d.params.args.map (·.arg))
 { scope:=d.scope,vars:=xs.zip (List.range xs.length),next:=xs.length }
noncomputable def vG (d:DefRec) (c:bV):Bool:=((d.params.args.map (·.arg)).zip (List.range d.params.args.length)).all fun p=>decide (p∈c.vars)
theorem vF {d:DefRec} {c:bV} (h:vG d c=true):∀(i:Nat) (x:Str),(d.params.args.map (·.arg))[i]?=some x->(x,i)∈c.vars:=fun i x e=>by
 simp only[vG,List.all_eq_true,decide_eq_true_eq] at h;refine h (x,i) (List.mem_iff_getElem?.mpr ⟨i,?_⟩);rw[List.getElem?_zip_eq_some];refine⟨e,?_⟩;have:=(List.getElem?_eq_some_iff.mp e).1;rw[List.getElem?_range (by simpa using this)]
noncomputable def nX (d:DefRec) (c:bV):Bool:=c.vars.all fun p=>decide (d.scope.names.lookup p.1=some .local) || decide (d.scope.names.lookup p.1=some .cell)
theorem qY {d:DefRec} {c:bV} (h:nX d c=true):∀p∈c.vars,d.scope.names.lookup p.1=some .local\/d.scope.names.lookup p.1=some .cell:=fun p hp=>by
 simp only[nX,List.all_eq_true,Bool.or_eq_true,decide_eq_true_eq] at h;exact h p hp
noncomputable def oE (F:List Str) (d:DefRec):T1 F fun K (x:XS)=>fo K (lY d) d.body x:=C3 (C4 40) 20 (lY d) d.body
noncomputable abbrev CA (d:DefRec) (fn:Fn):Prop:=(((lY d).ok&&vG d (lY d))&&nX d (lY d))=true/\fn.nargs<=(lY d).next/\(d.params.args.map (·.arg)).length=fn.nargs/\(d.params.args.map (·.arg)).Nodup/\fn.nargs<=fn.nslots/\d.scope.isCoroutine=false/\d.scope.isGenerator=false/\d.scope.kind = .function
noncomputable def gB:List DefRec:=recsOf vw
noncomputable def tv:List Str:=gB.map (·.name)
theorem qn:gB.map (fun d=>(oE tv d).x)=FT.map (·.body):=by kernel_rfl!
theorem zR:((gB.zip FT).all fun p=>decide (CA p.1 p.2))=true:=by kernel_rfl!
theorem vr:gB.length=FT.length:=by kernel_rfl!
noncomputable def z6 (d:DefRec) (n:Nat):Prop:=∀(pm cd doc:Value) (vals:List Value),vals.length=n->bindArgs (Calls.docDef d.name d.params d.body d.scope pm cd doc) ⟨vals,[]⟩=pure ((d.params.args.map (·.arg)).zip vals)
noncomputable def C1 (d:DefRec) (pm cd doc v1 v2 v3 v4:Value):Sem (List (Str×Value)):=bindArgs (Calls.docDef d.name d.params d.body d.scope pm cd doc) ⟨[v1,v2,v3,v4].take d.params.args.length,[]⟩
noncomputable def C0 (d:DefRec) (pm cd doc v1 v2 v3 v4:Value):Sem (List (Str×Value)):=pure ((d.params.args.map (·.arg)).zip ([v1,v2,v3,v4].take d.params.args.length))
theorem vy:(gB.all fun d=>Nat.ble d.params.args.length 4)=true:=by kernel_rfl!
theorem tG:gB.map C1=gB.map C0:=by kernel_rfl!
theorem yh {vals:List Value} (h:vals.length<=4):∃v1 v2 v3 v4,[v1,v2,v3,v4].take vals.length=vals:=by
 cases vals with
 |nil=>exact⟨.none,.none,.none,.none,rfl⟩
 |cons a r=>cases r with
  |nil=>exact⟨a,.none,.none,.none,rfl⟩
  |cons b r=>cases r with
   |nil=>exact⟨a,b,.none,.none,rfl⟩
   |cons c r=>cases r with
    |nil=>exact⟨a,b,c,.none,rfl⟩
    |cons d r=>cases r with
     |nil=>exact⟨a,b,c,d,rfl⟩
     |cons _ _=>exact absurd h (by simp)
theorem xF {d:DefRec} (hd:d∈gB) {n:Nat} (hn:(d.params.args.map (·.arg)).length=n):z6 d n:=by
 intro pm cd doc vals hv;rw[List.length_map] at hn;have hl:d.params.args.length=vals.length:=hn.trans hv.symm;obtain⟨v1,v2,v3,v4,e⟩:=yh (hl▸Nat.le_of_ble_eq_true (List.all_eq_true.mp vy d hd));have h:=congrFun (congrFun (congrFun (congrFun (congrFun (congrFun (congrFun (List.map_inj_left.mp tG d hd) pm) cd) doc) v1) v2) v3) v4;unfold C1 C0 at h;rw[hl,e] at h;exact h
theorem oM {K:dj} (hK:K.fn=tv) (hFT:K.FT=FT):∀(i:Nat) (fn:Fn),K.FT[i]?=some fn->∃d,gB[i]?=some d/\sf K d fn:=by
 intro i fn hi;rw[hFT] at hi;have hlt:i<gB.length:=by rw[vr];exact(List.getElem?_eq_some_iff.mp hi).1
 have hd:gB[i]?=some gB[i]:=List.getElem?_eq_getElem hlt;have hb:(oE tv gB[i]).x=fn.body:=by
  have:(gB.map fun d=>(oE tv d).x)[i]?=(FT.map (·.body))[i]?:=congrArg (fun l:List XS=>l[i]?) qn;rw[List.getElem?_map,List.getElem?_map,hd,hi] at this;exact Option.some.inj this
 obtain⟨h1,h2,h3,h4,h5,h6,h7,h8⟩:=of_decide_eq_true (List.all_eq_true.mp zR (gB[i],fn) (List.mem_iff_getElem?.mpr ⟨i,List.getElem?_zip_eq_some.mpr ⟨hd,hi⟩⟩));obtain⟨h1,hk⟩:=Bool.and_eq_true_iff.mp h1;obtain⟨h1,hp⟩:=Bool.and_eq_true_iff.mp h1;exact⟨_,hd,⟨lY gB[i],rfl,h1,hb▸(oE tv gB[i]).h K hK,vF hp,qY hk,h2⟩,h3,h4,xF (List.getElem_mem hlt) h3,h5,h6,h7,h8⟩
noncomputable def gE (prog:Program) (w:World) (h:Heap) (mg mb:Str->Option Value) (W:Nat):dj:=
 { prog,w,H₀:=h,mg,mb,FT:=FT,W,fa:=fun i=>match tv[i]? with|some x=>(match mg x with|some (.ref a)=>a|_=>0)|none=>0,fn:=tv }
section
variable {prog:Program} {w:World} {s₁:Shared} {mg mb:Str->Option Value} {mean:ExcName->Option Value} {W:Nat}
theorem wN (T:Top vw (looseW vw []) mean mg mb s₁.heap):∀(i:Nat) (d:DefRec),gB[i]?=some d->
  mg d.name=some (.ref ((gE prog w s₁.heap mg mb W).fa i))/\BF (gE prog w s₁.heap mg mb W) i d:=by
 intro i d hd;obtain⟨a,o,pm,code,doc,h1,h2,h3,h4⟩:=T.fn d (List.mem_of_getElem? hd);have hn:tv[i]?=some d.name:=by rw[tv,List.getElem?_map,hd];rfl
 have hfa:(gE prog w s₁.heap mg mb W).fa i=a:=by
  show(match tv[i]? with|some x=>(match mg x with|some (.ref a)=>a|_=>0)|none=>0)=a;rw[hn];dsimp only;rw[h1]
 refine⟨by rw[hfa];exact h1,o,pm,code,doc,?_,h3,h4⟩;show s₁.heap.get? ((gE prog w s₁.heap mg mb W).fa i)=some o;rw[hfa];exact h2
theorem tS:importsNone vw=true:=by decide +kernel
theorem uv:(BN.all fun x=>!startupNames.contains x&&!(looseW vw []).contains x&&!((recsOf vw).map (·.name)).contains x&&!((litsOf vw).map (·.1)).contains x&&!((clssOf vw (looseW vw [])).map (·.name)).contains x)=true:=by decide +kernel
theorem Bs (T:Top vw (looseW vw []) mean mg mb s₁.heap) (Y:hk.says w s₁.heap):(gE prog w s₁.heap mg mb W).Ok where
 g:=T.g
 b:=T.b
 built:=T.builtins
 nolimit:=T.nolimit
 big:=by
  obtain⟨mm,⟨o,_,_,e,_⟩,_⟩:=(T.seer tS).mods;exact⟨o,e⟩
 free:=fun x hx=>by
  have:=List.all_eq_true.mp uv x hx;simp only[Bool.and_eq_true,Bool.not_eq_true',List.contains_eq_mem,decide_eq_false_iff_not] at this;obtain⟨⟨⟨⟨h1,h2⟩,h3⟩,h4⟩,h5⟩:=this;exact T.free x h1 h2 h3 h4 h5
 fns:=fun i x hx=>by
  have hx':tv[i]?=some x:=hx;rw[tv,List.getElem?_map] at hx';obtain⟨d,hd,rfl⟩:=Option.map_eq_some_iff.mp hx';obtain⟨h1,o,pm,cd,doc,h2,h3,_⟩:=wN (prog:=prog) (w:=w) (W:=W) T i d hd;exact⟨h1,o,_,h2,h3⟩
 r0:=by
  obtain⟨o,h1,h2,h3⟩:=Y
  have KX:Frag.In [(mainGlobals,o)] s₁.heap:=fun b o' e=>by
   rw[List.lookup_cons] at e;split at e
   ·rename_i q;have hb:b=mainGlobals:=by simpa using q
    cases e;rw[hb];exact h1
   ·cases e
  exact⟨64,0,_,_,mg_of KX T.g h2,h3⟩
theorem jn {h:Heap}:∀{vs:List Value} {is:List Int},IntsAre vs is->ak h h [] vs (is.map D.int)
 |_,_,.nil=>by simp[ak]
 |_,_,.cons _ _ hr=>by simp only[List.map_cons,ak];exact⟨⟨_,rfl⟩,jn hr⟩
end
noncomputable def qc (W:Nat) (n:Nat):Prop:=∀is:List Int,is.length<=63->∃J',ab FT W (n+1) Cu [.fro (is.map D.int)] []=some (.bool true,J')
theorem Bg:tv[37]?=some ("law":Str):=by decide +kernel
theorem tM (as bs:List WData):Challenge.rw_pf0048_01.row.claim.post as (WData.bool true) bs=true:=by
 show(WShape.has [] (WData.bool true) .bool&&(WTm.eq .res (.lit (.bool true))).holds [] { args:=as,res:=some (WData.bool true),after:=bs })=true;have h1:WShape.has [] (WData.bool true) .bool=true:=by decide +kernel
 rw[h1];have h2:same (WData.bool true) (WData.bool true)=true:=by decide +kernel
 have h3:WTm.value [] (.eq .res (.lit (.bool true))) { args:=as,res:=some (WData.bool true),after:=bs }=some (.bool (same (.bool true) (.bool true))):=rfl;show(true&&(match WTm.value [] (.eq .res (.lit (.bool true))) { args:=as,res:=some (WData.bool true),after:=bs } with|some (.bool true)=>true|_=>false))=true;rw[h3,h2];rfl
theorem nW {W n:Nat} (hn:n<=100) (hP:qc W n):PySem.Challenge.rw_pf0048_01.Holds:=Bj (by
 intro w s₀ s₁ mg mb G Y fa o pm cd doc dV kV ho hdd hcd hD hmg hg args vals as hpre hlay hrd hwl hlo;refine Ground.open G ?_;intro T B D TE TW;wrow_args hpre hlay hrd hwl hlo
 all_goals (
  first|refine callC_kw (enter_call ?_)|refine enter_call ?_|refine callC_kw (enter_callW ?_)|refine enter_callW ?_|w_how
  w_top on
  try refine codeAny_mono ?_ (fun _ _ g=>GoodW.toG g))
 rename_i ns hs hlay0 hL1 hr1 hl2 w4 w3 la vs w0 hL ra w1 r0 hI hr hc hc';clear hdd hcd hD;have hlen:ns.length<=63:=by exists L10,0x3f2100190073f21738812,hc
 obtain⟨J',hev⟩:=hP ns hlen;have hfa:(gE Challenge.rw_pf0048_01.row.prog w s₁.heap mg mb W).fa 37=fa:=by
  show(match tv[37]? with|some x=>(match mg x with|some (.ref a)=>a|_=>0)|none=>0)=fa;rw[Bg];dsimp only;rw[show mg ("law":Str)=some (.ref fa) from hmg]
 have ok:(gE Challenge.rw_pf0048_01.row.prog w s₁.heap mg mb W).Ok:=Bs T Y;have H:=pY (K:=gE Challenge.rw_pf0048_01.row.prog w s₁.heap mg mb W) (A:=callerA) (s:=s₁) (ρ:=[]) (J:=[]) (n:=n) (f:=37) (args:=[.fro (ns.map Mine.D.int)]) (vals:=[.ref la])
  (R:=GoodW Challenge.rw_pf0048_01.row.claim (classAt s₀.heap) (ExcName.means s₀.heap) [ofPy (PyData.list (List.map PyData.int ns))] s₁)
  (oM rfl rfl) (fun i d hd=>(wN T i d hd).2) (xD (oM rfl rfl) (fun i d hd=>(wN T i d hd).2) n) hev ok ?zx ?zr ?zroom ?zp
 ·rw[hfa] at H;exact H
 case zroom=>exact⟨rfl,by show 1+claimMargin+(n+1)<recursionLimit;have:claimMargin=300:=rfl;have:recursionLimit=1000:=rfl;omega,by show 4+30*(n+1)+200<cLine;have:cLine=9900:=rfl;exists L20,0x10c8211110021e2341122026ac4110286421001824,hn,this⟩
 case zx=>exact⟨fun b o e=>e,rfl,List.nodup_nil,fun a ha=>by simp at ha,fun i a o e=>by simp at e⟩
 case zp=>
  intro v ρ' h' tk' g x r;obtain rfl:v=Value.bool true:=r;refine⟨.inl ⟨.bool true,.bool true,[],rfl,?c1,?c2,?c3,?c4⟩,fun b o e=>g.ext b o e (by simp),rfl,hg⟩
  case c1=>intro cls;rfl
  case c2=>exact .bool true
  case c3=>exact tM _ _
  case c4=>intro _;exact⟨List.nodup_nil,fun a ha=>by simp at ha⟩
 case zr=>
  obtain⟨ob,eo,ec,k,ed⟩:=hL;refine⟨⟨la,ob,_,k,rfl,eo,ec,ed,?_⟩,trivial⟩;exact jn hI)
section
variable {C:Nat->List D->St->Option (D×St)} {W:Nat} {l l1 l2:aB} {J J1 J2 J3 J4:St} {a b c e o k v xs L it:X} {x y z d:D} {ds es:List D} {r:Nat} {src:f9}
theorem aj {i:Nat} (h:l[i]?=some (some d)):ev C (.var i) l J=some (d,J):=by
 show(match l[i]? with|some (some d)=>some (d,J)|_=>none)=_;rw[h]
theorem av:ev C (.lit d) l J=some (d,J):=rfl
theorem aA {op:uR} {R:Option (D×St)} (ha:ev C a l J=some (x,J1)) (hb:ev C b l J1=some (y,J2)) (h:dW op x y J2=R):ev C (.bin op a b) l J=R:=by
 show(match ev C a l J with|some (x,J1)=>(match ev C b l J1 with|some (y,J2)=>dW op x y J2|none=>none)|none=>none)=_;rw[ha];dsimp only;rw[hb];exact h
theorem ah {f:Nat} {R:Option (D×St)} (ha:iU C xs l J=some (ds,J1)) (h:C f ds J1=R):ev C (.call f xs) l J=R:=by
 show(match iU C xs l J with|some (ds,J1)=>C f ds J1|none=>none)=_;rw[ha];exact h
theorem fw:iU C .af l J=some ([],J):=rfl
theorem cG (ha:ev C a l J=some (x,J1)) (hb:iU C xs l J1=some (ds,J2)):iU C (.aa a xs) l J=some (x::ds,J2):=by
 show(match ev C a l J with|some (d,J1)=>(match iU C xs l J1 with|some (ds,J2)=>some (d::ds,J2)|none=>none)|none=>none)=_;rw[ha];dsimp only;rw[hb]
theorem b7 (ha:ev C a l J=some (x,J1)):iU C (.aa a .af) l J=some ([x],J1):=cG ha fw
theorem al (ha:ev C a l J=some (x,J1)) (hb:ev C b l J1=some (y,J2)):iU C (.aa a (.aa b .af)) l J=some ([x,y],J2):=cG ha (b7 hb)
theorem dF (ha:ev C a l J=some (x,J1)) (hb:ev C b l J1=some (y,J2)) (hc:ev C c l J2=some (z,J3)):iU C (.aa a (.aa b (.aa c .af))) l J=some ([x,y,z],J3):=cG ha (al hb hc)
theorem aS (ha:iU C xs l J=some (ds,J1)) (h:ds.length<ay):ev C (.tup xs) l J=some (.tup ds,J1):=by
 show(match iU C xs l J with|some (ds,J1)=>if ds.length<ay then some (D.tup ds,J1) else none|none=>none)=_;rw[ha];exact if_pos h
theorem cQ {fs:Es} (ha:iU C xs l J=some (ds,J1)) (h:ds.length<16) (hd:eF ds []=some fs):ev C (.dict xs) l J=some (.ref J1.length,J1++[.dict fs 0]):=by
 show(match iU C xs l J with|some (ds,J1)=>(if ds.length<16 then (match eF ds [] with|some es=>some (D.ref J1.length,J1++[AO.dict es 0])|none=>none) else none)|none=>none)=_;rw[ha];dsimp only;rw[if_pos h,hd]
theorem ao (ha:ev C o l J=some (x,J1)) (hb:ev C k l J1=some (y,J2)) (h:bo J2 x y=some d):ev C (.idx o k) l J=some (d,J2):=by
 show(match ev C o l J with|some (x,J1)=>(match ev C k l J1 with|some (y,J2)=>(match bo J2 x y with|some d=>some (d,J2)|none=>none)|none=>none)|none=>none)=_;rw[ha];dsimp only;rw[hb];dsimp only;rw[h]
theorem bz {n:Int} (ha:ev C a l J=some (x,J1)) (h:fM J1 x=some n):ev C (.len a) l J=some (.int n,J1):=by
 show(match ev C a l J with|some (x,J1)=>(match fM J1 x with|some n=>some (D.int n,J1)|none=>none)|none=>none)=_;rw[ha];dsimp only;rw[h]
theorem bR (h:di C L l J=some (ds,J1)):ev C (.lst L) l J=some (.ref J1.length,J1++[.list ds 0]):=by
 show(match di C L l J with|some (ds,J1)=>some (D.ref J1.length,J1++[AO.list ds 0])|none=>none)=_;rw[h]
theorem mV (h:di C L l J=some (ds,J1)) (hl:ds.length<ay):ev C (.gm L) l J=some (.ref J1.length,J1++[.list ds 0]):=by
 show(match di C L l J with|some (ds,J1)=>(if ds.length<ay then some (D.ref J1.length,J1++[AO.list ds 0]) else none)|none=>none)=_;rw[h];exact if_pos hl
theorem wU (h:di C L l J=some (ds,J1)) (hl:ds.length<ay):ev C (.fN L) l J=some (.tup ds,J1):=by
 show(match di C L l J with|some (ds,J1)=>(if ds.length<ay then some (D.tup ds,J1) else none)|none=>none)=_;rw[h];exact if_pos hl
theorem wX (h:di C L l J=some (ds,J1)) (hl:ds.length<ay):ev C (.jg L) l J=some (.int ds.length,J1):=by
 show(match di C L l J with|some (ds,J1)=>(if ds.length<ay then some (D.int ds.length,J1) else none)|none=>none)=_;rw[h];exact if_pos hl
theorem wW {n:Int} (h:di C L l J=some (ds,J1)) (hm:tV ds=some n):ev C (.ik L) l J=some (.int n,J1):=by
 show(match di C L l J with|some (ds,J1)=>(match tV ds with|some n=>some (D.int n,J1)|none=>none)|none=>none)=_;rw[h];dsimp only;rw[hm]
theorem js {fs:Es} (h:di C L l J=some (ds,J1)) (hp:dX [] ds=some fs):ev C (.cI L) l J=some (.ref J1.length,J1++[.dict fs 0]):=by
 show(match di C L l J with|some (ds,J1)=>(match dX [] ds with|some es=>some (D.ref J1.length,J1++[AO.dict es 0])|none=>none)|none=>none)=_;rw[h];dsimp only;rw[hp]
theorem mW {fs:Es} {w:Nat} (h:ev C o l J=some (.ref r,J1)) (hr:J1[r]?=some (.dict fs w)) (h1:fs.length<ay) (h2:dK fs=true):ev C (.dictOf o) l J=some (.ref J1.length,J1++[.dict fs 0]):=by
 show(match ev C o l J with|some (.ref r,J1)=>(match J1[r]? with|some (.dict es _)=>(if es.length<ay/\dK es=true then some (D.ref J1.length,J1++[AO.dict es 0]) else none)|_=>none)|_=>none)=_;rw[h];dsimp only;rw[hr];exact if_pos ⟨h1,h2⟩
theorem wV {n:Int} (h:ev C a l J=some (.int n,J1)):ev C (.neg a) l J=some (.int (-n),J1):=by
 show(match ev C a l J with|some (.int x,J1)=>some (D.int (-x),J1)|_=>none)=_;rw[h]
theorem ot {n:Int} (h:ev C a l J=some (x,J1)) (hn:ev C b l J1=some (.int n,J2)) (hl:n.natAbs<ay):ev C (.rep a b) l J=some (.ref J2.length,J2++[.list (List.replicate n.toNat x) 0]):=by
 show(match ev C a l J with|some (x,J1)=>(match ev C b l J1 with|some (.int k,J2)=>(if k.natAbs<ay then some (D.ref J2.length,J2++[AO.list (List.replicate k.toNat x) 0]) else none)|_=>none)|none=>none)=_;rw[h];dsimp only;rw[hn];exact if_pos hl
theorem pQ {w:Nat} (h:ev C a l J=some (.ref r,J1)) (hr:J1[r]?=some (.list ds w)):ev C (.jd a) l J=some (.bool (!ds.isEmpty),J1):=by
 show(match ev C a l J with|some (.ref r,J1)=>(match J1[r]? with|some (.list ds _)=>some (D.bool (!ds.isEmpty),J1)|_=>none)|_=>none)=_;rw[h];dsimp only;rw[hr]
theorem mU (h:di C L l J=some (ds,J1)):ev C (.gj L) l J=some (.bool (!ds.isEmpty),J1):=by
 show(match di C L l J with|some (ds,J1)=>some (D.bool (!ds.isEmpty),J1)|none=>none)=_;rw[h]
theorem ct (h:iU C xs l J=some (ds,J1)) (hl:ds.length<ay):di C (.cC xs) l J=some (ds,J1):=by
 show(match iU C xs l J with|some (ds,J1)=>(if ds.length<ay then some (ds,J1) else none)|none=>none)=_;rw[h];exact if_pos hl
theorem cH {ts:List Nat} {many:Bool} {R:Option (List D×St)} (h:eA C it l J=some (ds,src,J1)) (hl:ds.length<ay) (hc:aY (aw ts many) (fun _ J=>some (true,J)) (ev C e) src l ds J1=R):di C (.aE e ts many it none) l J=R:=by
 show(match eA C it l J with|some (ds,src,J1)=>(if ds.length<ay then aY (aw ts many) (fun _ J=>some (true,J)) (ev C e) src l ds J1 else none)|none=>none)=_;rw[h];dsimp only;rw[if_pos hl];exact hc
theorem fe {ts:List Nat} {many:Bool} {R:Option (List D×St)} (h:eA C it l J=some (ds,src,J1)) (hl:ds.length<ay) (hc:aY (aw ts many) (iV C c) (ev C e) src l ds J1=R):di C (.aE e ts many it (some c)) l J=R:=by
 show(match eA C it l J with|some (ds,src,J1)=>(if ds.length<ay then aY (aw ts many) (iV C c) (ev C e) src l ds J1 else none)|none=>none)=_;rw[h];dsimp only;rw[if_pos hl];exact hc
theorem tg {w:Nat} {lo hi:Option Nat} (h:ev C o l J=some (.ref r,J1)) (hr:J1[r]?=some (.list ds w)) (hl:ds.length<ay):di C (.lsl o lo hi) l J=some ((ds.take (hi.getD ds.length)).drop (lo.getD 0),J1):=by
 show(match ev C o l J with|some (.fro ds,J1)=>(if ds.length<ay then some ((ds.take (hi.getD ds.length)).drop (lo.getD 0),J1) else none)|some (.ref r,J1)=>(match J1[r]? with|some (.list ds _)=>(if ds.length<ay then some ((ds.take (hi.getD ds.length)).drop (lo.getD 0),J1) else none)|_=>none)|_=>none)=_;rw[h];dsimp only;rw[hr];exact if_pos hl
theorem w7 {w:Nat} (h:ev C o l J=some (.ref r,J1)) (hr:J1[r]?=some (.list ds w)):di C (.qV o) l J=some (ds,J1):=by
 show(match ev C o l J with|some (.ref r,J1)=>(match J1[r]? with|some (.list ds _)=>some (ds,J1)|_=>none)|_=>none)=_;rw[h];dsimp only;rw[hr]
theorem rG (h:ev C a l J=some (x,J1)) (hi:nZ J1 x=some (ds,src)):eA C (.ix a) l J=some (ds,src,J1):=by
 show(match ev C a l J with|some (x,J1)=>(match nZ J1 x with|some (ds,src)=>some (ds,src,J1)|none=>none)|none=>none)=_;rw[h];dsimp only;rw[hi]
theorem cf {w:Nat} (h:ev C a l J=some (.ref r,J1)) (hr:J1[r]?=some (.list ds w)):eA C (.ix a) l J=some (ds,some (r,w),J1):=rG h (by show(match J1[r]? with|some (.list ds w)=>some (ds,some (r,w))|some (.dict es w)=>some (List.map (fun e:List Int×D=>ae e.1) es,some (r,w))|none=>none)=_;rw[hr])
theorem bA {w:Nat} {fs:Es} (h:ev C a l J=some (.ref r,J1)) (hr:J1[r]?=some (.dict fs w)):eA C (.ix a) l J=some (fs.map fun e=>ae e.1,some (r,w),J1):=rG h (by show(match J1[r]? with|some (.list ds w)=>some (ds,some (r,w))|some (.dict es w)=>some (List.map (fun e:List Int×D=>ae e.1) es,some (r,w))|none=>none)=_;rw[hr])
theorem jt (h:ev C a l J=some (.tup ds,J1)):eA C (.ix a) l J=some (ds,none,J1):=rG h rfl
theorem fW {w:Nat} (h:ev C a l J=some (.ref r,J1)) (hr:J1[r]?=some (.list ds w)):eA C (.dc a) l J=some (b8 0 ds,some (r,w),J1):=by
 show(match ev C a l J with|some (.tup ds,J1)=>some (b8 0 ds,none,J1)|some (.ref r,J1)=>(match J1[r]? with|some (.list ds w)=>some (b8 0 ds,some (r,w),J1)|_=>none)|_=>none)=_;rw[h];dsimp only;rw[hr]
theorem fV {m n:Int} (ha:ev C a l J=some (.int m,J1)) (hb:ev C b l J1=some (.int n,J2)) (h1:m.natAbs<ay) (h2:n.natAbs<ay):eA C (.cD a b) l J=some (du m n,none,J2):=by
 show(match ev C a l J with|some (.int x,J1)=>(match ev C b l J1 with|some (.int y,J2)=>(if x.natAbs<ay/\y.natAbs<ay then some (du x y,none,J2) else none)|_=>none)|_=>none)=_;rw[ha];dsimp only;rw[hb];exact if_pos ⟨h1,h2⟩
theorem d6 {q:Bool} (h:ev C c l J=some (.bool q,J1)):iV C c l J=some (q,J1):=by
 unfold iV;rw[h];rfl
theorem aD {i:Nat} (h:ev C e l J=some (d,J1)):aP C W (.asg i e) l J=some (.next,l.set i (some d),J1):=by
 show(match ev C e l J with|some (d,J1)=>some (Fl.next,l.set i (some d),J1)|none=>none)=_;rw[h]
theorem dO {is:List Nat} (h:ev C e l J=some (d,J1)) (hb:aw is true d l=some l1):aP C W (.eM is e) l J=some (.next,l1,J1):=by
 show(match ev C e l J with|some (d,J1)=>(match aw is true d l with|some l1=>some (Fl.next,l1,J1)|none=>none)|none=>none)=_;rw[h];dsimp only;rw[hb]
theorem iE (h1:ev C v l J=some (x,J1)) (h2:ev C o l J1=some (y,J2)) (h3:ev C k l J2=some (z,J3)) (h4:ic J3 y z x=some J4):aP C W (.set o k v) l J=some (.next,l,J4):=by
 show(match ev C v l J with|some (x,J1)=>(match ev C o l J1 with|some (od,J2)=>(match ev C k l J2 with|some (kd,J3)=>(match ic J3 od kd x with|some J4=>some (Fl.next,l,J4)|none=>none)|none=>none)|none=>none)|none=>none)=_;rw[h1];dsimp only;rw[h2];dsimp only;rw[h3];dsimp only;rw[h4]
theorem ko (h:ev C e l J=some (d,J1)):aP C W (.expr e) l J=some (.next,l,J1):=by
 show(match ev C e l J with|some (_,J1)=>some (Fl.next,l,J1)|none=>none)=_;rw[h]
theorem jq {A B:XS} {R:Option (Fl×aB×St)} (h:ev C c l J=some (.bool true,J1)) (ha:aP C W A l J1=R):aP C W (.ifs c A B) l J=R:=by
 show(match iV C c l J with|some (true,J1)=>aP C W A l J1|some (false,J1)=>aP C W B l J1|none=>none)=_;rw[d6 h];exact ha
theorem eL {A B:XS} {R:Option (Fl×aB×St)} (h:ev C c l J=some (.bool false,J1)) (ha:aP C W B l J1=R):aP C W (.ifs c A B) l J=R:=by
 show(match iV C c l J with|some (true,J1)=>aP C W A l J1|some (false,J1)=>aP C W B l J1|none=>none)=_;rw[d6 h];exact ha
theorem bO {w:Nat} {n:Nat} (hr:J[r]?=some (.list ds w)) (hl:n<ay) (hd:ds[n]?=some d):bo J (.ref r) (.int (n:Nat))=some d:=by
 show(match J[r]? with|some (.list ds _)=>(if 0<=(n:Int)/\(n:Int)<(ay:Int) then ds[(n:Int).toNat]? else none)|_=>none)=_;rw[hr];dsimp only;rw[if_pos ⟨Int.natCast_nonneg n,Int.ofNat_lt.mpr hl⟩];exact hd
theorem bP {w:Nat} {fs:Es} {ks:List Int} (hr:J[r]?=some (.dict fs w)) (hd:aU fs ks=some d) (hk:aG (ks.map D.int)=some ks):bo J (.ref r) (ae ks)=some d:=by
 show(match J[r]?,aG (ks.map D.int) with|some (.dict es _),some k=>aU es k|_,_=>none)=_;rw[hr,hk];exact hd
theorem cu {m n:Int} (h:m.natAbs<2^63\/n.natAbs<2^63):dW .mul (.int m) (.int n) J=some (.int (m*n),J):=if_pos h
theorem jD {i j v w:Nat} {as bs:List D} (hi:J[i]?=some (.list as v)) (hj:J[j]?=some (.list bs w)) (hl:as.length+bs.length<ay):dW .add (.ref i) (.ref j) J=some (.ref J.length,J++[.list (as++bs) 0]):=by
 show(match J[i]?,J[j]? with|some (.list xs _),some (.list ys _)=>(if xs.length+ys.length<ay then some (D.ref J.length,J++[AO.list (xs++ys) 0]) else none)|_,_=>none)=_;rw[hi,hj];exact if_pos hl
theorem eV {w:Nat} (hr:J[r]?=some (.list ds w)) (hl:ds.length<ay):fM J (.ref r)=some (ds.length:Int):=by
 show(match J[r]? with|some (.list ds _)=>(if ds.length<ay then some (ds.length:Int) else none)|some (.dict es _)=>(if es.length<ay then some (es.length:Int) else none)|none=>none)=_;rw[hr];exact if_pos hl
theorem gI {n m:Nat} (h:n<=m) (hm:Nat.ble m 1048575=true):n<ay:=Nat.lt_succ_of_le (Nat.le_trans h (Nat.le_of_ble_eq_true hm))
theorem jf {α:Type} {f:α->D} {l:List α} {m:Nat} (h:l.length<=m) (hm:Nat.ble m 1048575=true):(l.map f).length<ay:=by rw[List.length_map];exact gI h hm
end
section
variable {C:Nat->List D->St->Option (D×St)} {W:Nat} {l l1 l2:aB} {J J1 J2 J3 J4:St} {a b c e o k v xs L it:X} {x y z d:D} {ds es:List D} {r:Nat} {src:f9}
theorem aq {op:z5} {q:Bool} (ha:ev C a l J=some (x,J1)) (hb:ev C b l J1=some (y,J2)) (hc:cP op x y J2=some q):ev C (.cmp op a b) l J=some (.bool q,J2):=by
 show(match ev C a l J with|some (x,J1)=>(match ev C b l J1 with|some (y,J2)=>(match cP op x y J2 with|some r=>some (D.bool r,J2)|none=>none)|none=>none)|none=>none)=_;rw[ha];dsimp only;rw[hb];dsimp only;rw[hc]
theorem gP {R:Option (D×St)} (ha:ev C a l J=some (.bool true,J1)) (hb:ev C b l J1=R):ev C (.and a b) l J=R:=by
 show(match ev C a l J with|some (x,J1)=>(match bG x with|some true=>ev C b l J1|some false=>some (x,J1)|none=>none)|none=>none)=_;rw[ha];exact hb
theorem dq {R:Option (D×St)} (ha:ev C a l J=some (.bool false,J1)) (hb:ev C b l J1=R):ev C (.or a b) l J=R:=by
 show(match ev C a l J with|some (x,J1)=>(match bG x with|some false=>ev C b l J1|some true=>some (x,J1)|none=>none)|none=>none)=_;rw[ha];exact hb
theorem iG {q:Bool} (ha:ev C a l J=some (.bool q,J1)):ev C (.not a) l J=some (.bool (!q),J1):=by
 show(match ev C a l J with|some (x,J1)=>(match bG x with|some r=>some (D.bool (!r),J1)|none=>none)|none=>none)=_;rw[ha];rfl
theorem fc {R:Option (D×St)} (ha:ev C a l J=some (.bool true,J1)) (hb:ev C b l J1=R):ev C (.ite a b c) l J=R:=by
 show(match ev C a l J with|some (x,J1)=>(match bG x with|some true=>ev C b l J1|some false=>ev C c l J1|none=>none)|none=>none)=_;rw[ha];exact hb
theorem fU {R:Option (D×St)} (ha:ev C a l J=some (.bool false,J1)) (hb:ev C c l J1=R):ev C (.ite a b c) l J=R:=by
 show(match ev C a l J with|some (x,J1)=>(match bG x with|some true=>ev C b l J1|some false=>ev C c l J1|none=>none)|none=>none)=_;rw[ha];exact hb
theorem bk (ha:ev C a l J=some (x,J1)):aP C W (.ret a) l J=some (.ret x,l,J1):=by
 show(match ev C a l J with|some (d,J1)=>some (Fl.ret d,l,J1)|none=>none)=_;rw[ha]
theorem wZ {n:Int} (ha:ev C a l J=some (.int n,J1)):ev C (.abs a) l J=some (.int (if n<0 then -n else n),J1):=by
 show(match ev C a l J with|some (.int x,J1)=>some (D.int (if x<0 then -x else x),J1)|_=>none)=_;rw[ha]
theorem Bo {n:Int} (ha:ev C a l J=some (.tup ds,J1)) (h:yj ds=some n):ev C (.sum a) l J=some (.int n,J1):=by
 show(match ev C a l J with|some (.tup ds,J1)=>(match yj ds with|some n=>some (D.int n,J1)|none=>none)|_=>none)=_;rw[ha];dsimp only;rw[h]
theorem zK {m n:Int} (ha:ev C a l J=some (.int m,J1)) (hb:ev C b l J1=some (.int n,J2)):ev C (.max2 a b) l J=some (.int (if n>m then n else m),J2):=by
 show(match ev C a l J with|some (.int x,J1)=>(match ev C b l J1 with|some (.int y,J2)=>some (D.int (if y>x then y else x),J2)|_=>none)|_=>none)=_;rw[ha];dsimp only;rw[hb]
theorem jk {w:Nat} {fs:Es} (hr:J[r]?=some (.dict fs w)):eh J r=true:=by
 show(match J[r]? with|some (.dict _ _)=>true|_=>false)=_;rw[hr]
theorem ji {w:Nat} (hr:J[r]?=some (.list ds w)):ef J r=true:=by
 show(match J[r]? with|some (.list _ _)=>true|_=>false)=_;rw[hr]
theorem tf {w:Nat} {fs:Es} {ks:List Int} (ha:ev C o l J=some (.ref r,J1)) (hb:ev C k l J1=some (ae ks,J2)) (hc:ev C v l J2=some (x,J3)) (hd:eh J1 r=true) (hr:J3[r]?=some (.dict fs w)) (hk:aG (ks.map D.int)=some ks) :
  ev C (.get2 o k v) l J=some ((aU fs ks).getD x,J3):=by
 show(match ev C o l J with|some (.ref r,J1)=>(if eh J1 r then (match ev C k l J1 with|some (.tup ks,J2)=>(match ev C v l J2 with|some (x,J3)=>(match J3[r]?,aG ks with|some (.dict es _),some kk=>some ((aU es kk).getD x,J3)|_,_=>none)|none=>none)|_=>none) else none)|_=>none)=_;rw[ha];dsimp only;rw[if_pos hd,hb];dsimp only[ae];rw[hc];dsimp only;rw[hr,hk]
theorem zH {w:Nat} {fs:Es} {ks:List Int} (ha:ev C o l J=some (.ref r,J1)) (hb:ev C k l J1=some (ae ks,J2)) (hd:eh J1 r=true) (hr:J2[r]?=some (.dict fs w)) (hk:aG (ks.map D.int)=some ks) (hl:fs.length<ay) :
  ev C (.pop2 o k) l J=some ((aU fs ks).getD .none,J2.set r (.dict (dT fs ks) (w+1))):=by
 show(match ev C o l J with|some (.ref r,J1)=>(if eh J1 r then (match ev C k l J1 with|some (.tup ks,J2)=>(match J2[r]?,aG ks with|some (.dict es w),some kk=>(if es.length<ay then some ((aU es kk).getD .none,J2.set r (.dict (dT es kk) (w+1))) else none)|_,_=>none)|_=>none) else none)|_=>none)=_;rw[ha];dsimp only;rw[if_pos hd,hb];dsimp only[ae];rw[hr,hk];exact if_pos hl
theorem zI {w:Nat} {fs:Es} {ks:List Int} (ha:ev C o l J=some (.ref r,J1)) (hb:ev C k l J1=some (ae ks,J2)) (hd:eh J1 r=true) (hr:J2[r]?=some (.dict fs w)) (hk:aG (ks.map D.int)=some ks) (hx:aU fs ks=some x) (hl:fs.length<ay) :
  ev C (.pop1 o k) l J=some (x,J2.set r (.dict (dT fs ks) (w+1))):=by
 show(match ev C o l J with|some (.ref r,J1)=>(if eh J1 r then (match ev C k l J1 with|some (.tup ks,J2)=>(match J2[r]?,aG ks with|some (.dict es w),some kk=>(match aU es kk with|some x=>(if es.length<ay then some (x,J2.set r (.dict (dT es kk) (w+1))) else none)|none=>none)|_,_=>none)|_=>none) else none)|_=>none)=_;rw[ha];dsimp only;rw[if_pos hd,hb];dsimp only[ae];rw[hr,hk];dsimp only;rw[hx];exact if_pos hl
theorem pP {w:Nat} {n:Nat} (ha:ev C o l J=some (.ref r,J1)) (hb:ev C k l J1=some (.int (n:Nat),J2)) (hd:ef J1 r=true) (hr:J2[r]?=some (.list ds w)) (hx:ds[n]?=some x) (hl:ds.length<ay) :
  ev C (.ii o k) l J=some (x,J2.set r (.list (ds.eraseIdx n) (w+1))):=by
 show(match ev C o l J with|some (.ref r,J1)=>(if ef J1 r then (match ev C k l J1 with|some (.int i,J2)=>(match J2[r]? with|some (.list ds w)=>(if 0<=i/\i<(ay:Int)/\ds.length<ay then (match ds[i.toNat]? with|some x=>some (x,J2.set r (.list (ds.eraseIdx i.toNat) (w+1)))|none=>none) else none)|_=>none)|_=>none) else none)|_=>none)=_;rw[ha];dsimp only;rw[if_pos hd,hb];dsimp only;rw[hr];dsimp only;rw[if_pos ⟨Int.natCast_nonneg n,Int.ofNat_lt.mpr (Nat.lt_trans (List.getElem?_eq_some_iff.mp hx).1 hl),hl⟩];show(match ds[n]? with|some x=>some (x,J2.set r (.list (ds.eraseIdx n) (w+1)))|none=>none)=_;rw[hx]
theorem mX {w:Nat} (ha:ev C o l J=some (.ref r,J1)) (hb:ev C v l J1=some (x,J2)) (hd:ef J1 r=true) (hr:J2[r]?=some (.list ds w)) (hl:ds.length<ay):ev C (.append o v) l J=some (.none,J2.set r (.list (ds++[x]) (w+1))):=by
 show(match ev C o l J with|some (.ref r,J1)=>(if ef J1 r then (match ev C v l J1 with|some (x,J2)=>(match J2[r]? with|some (.list ds w)=>(if ds.length<ay then some (D.none,J2.set r (.list (ds++[x]) (w+1))) else none)|_=>none)|none=>none) else none)|_=>none)=_;rw[ha];dsimp only;rw[if_pos hd,hb];dsimp only;rw[hr];exact if_pos hl
theorem uA {w:Nat} (ha:ev C o l J=some (.ref r,J1)) (hb:di C L l J1=some (es,J2)) (hd:ef J1 r=true) (hr:J2[r]?=some (.list ds w)) (hl:ds.length+es.length<ay):ev C (.extend o L) l J=some (.none,J2.set r (.list (ds++es) (w+1))):=by
 show(match ev C o l J with|some (.ref r,J1)=>(if ef J1 r then (match di C L l J1 with|some (xs,J2)=>(match J2[r]? with|some (.list ds w)=>(if ds.length+xs.length<ay then some (D.none,J2.set r (.list (ds++xs) (w+1))) else none)|_=>none)|none=>none) else none)|_=>none)=_;rw[ha];dsimp only;rw[if_pos hd,hb];dsimp only;rw[hr];exact if_pos hl
theorem zG {w:Nat} (ha:ev C o l J=some (.ref r,J1)) (hr:J1[r]?=some (.list ds w)) (hs:bS (J1.set r (.list [] (w+1))) ds=some es):ev C (.sort o) l J=some (.none,J1.set r (.list es (w+1))):=by
 show(match ev C o l J with|some (.ref r,J1)=>(match J1[r]? with|some (.list ds w)=>(match bS (J1.set r (AO.list [] (w+1))) ds with|some es=>some (D.none,J1.set r (AO.list es (w+1)))|none=>none)|_=>none)|_=>none)=_;rw[ha];dsimp only;rw[hr];dsimp only;rw[hs]
theorem mS {w:Nat} (ha:ev C o l J=some (.ref r,J1)) (hr:J1[r]?=some (.list ds w)) (hs:bS J1 ds=some es):ev C (.sorted o) l J=some (.ref J1.length,J1++[.list es 0]):=by
 show(match ev C o l J with|some (.ref r,J1)=>(match J1[r]? with|some (.list ds w)=>(match bS J1 ds with|some es=>some (D.ref J1.length,J1++[AO.list es 0])|none=>none)|_=>none)|_=>none)=_;rw[ha];dsimp only;rw[hr];dsimp only;rw[hs]
theorem oq {w:Nat} {fs:Es} (ha:ev C o l J=some (.ref r,J1)) (hr:J1[r]?=some (.dict fs w)) (hs:bS J1 (fs.map fun e=>.tup [ae e.1,e.2])=some ds):ev C (.cU o) l J=some (.ref J1.length,J1++[.list ds 0]):=by
 show(match ev C o l J with|some (.ref r,J1)=>(match J1[r]? with|some (.dict es _)=>(match bS J1 (es.map fun e:List Int×D=>D.tup [ae e.1,e.2]) with|some ds=>some (D.ref J1.length,J1++[AO.list ds 0])|none=>none)|_=>none)|_=>none)=_;rw[ha];dsimp only;rw[hr];dsimp only;rw[hs]
theorem lT {ts:List Nat} {many:Bool} {fs:Es} (h:eA C it l J=some (ds,src,J1)) (hc:bf (aw ts many) (fun _ J=>some (true,J)) (ev C k) (ev C v) src l ds [] J1=some (fs,J2)):ev C (.ff k v ts many it none) l J=some (.ref J2.length,J2++[.dict fs 0]):=by
 show(match eA C it l J with|some (ds,src,J1)=>(match bf (aw ts many) (fun _ J=>some (true,J)) (ev C k) (ev C v) src l ds [] J1 with|some (es,J2)=>some (D.ref J2.length,J2++[AO.dict es 0])|none=>none)|none=>none)=_;rw[h];dsimp only;rw[hc]
theorem rF {ts:List Nat} {many:Bool} {fs:Es} (h:eA C it l J=some (ds,src,J1)) (hc:bf (aw ts many) (iV C c) (ev C k) (ev C v) src l ds [] J1=some (fs,J2)):ev C (.ff k v ts many it (some c)) l J=some (.ref J2.length,J2++[.dict fs 0]):=by
 show(match eA C it l J with|some (ds,src,J1)=>(match bf (aw ts many) (iV C c) (ev C k) (ev C v) src l ds [] J1 with|some (es,J2)=>some (D.ref J2.length,J2++[AO.dict es 0])|none=>none)|none=>none)=_;rw[h];dsimp only;rw[hc]
theorem jC {m n:Int} (h1:n≠0) (h2:n.natAbs<2^30):dW .fdiv (.int m) (.int n) J=some (.int (m.fdiv n),J):=if_pos ⟨h1,h2⟩
theorem kU {m n:Int} (h1:n≠0):dW .mod (.int m) (.int n) J=some (.int (m.fmod n),J):=if_pos h1
theorem xH (h:ds.length+es.length<ay):dW .add (.tup ds) (.tup es) J=some (.tup (ds++es),J):=if_pos h
theorem fO {w:Nat} {fs:Es} {ks:List Int} (hr:J[r]?=some (.dict fs w)) (hk:aG (ks.map D.int)=some ks) (h:fs.length<ay):ic J (.ref r) (ae ks) x=some (J.set r (.dict (bZ fs ks x) (w+1))):=by
 show(match J[r]?,aG (ks.map D.int) with|some (.dict es w),some k=>(if es.length<ay then some (J.set r (.dict (bZ es k x) (w+1))) else none)|_,_=>none)=_;rw[hr,hk];exact if_pos h
theorem ua {w:Nat} {fs:Es} {ks:List Int} (hr:J[r]?=some (.dict fs w)) (hk:aG (ks.map D.int)=some ks):cP .isin (ae ks) (.ref r) J=some (aU fs ks).isSome:=by
 show(match J[r]?,aG (ks.map D.int) with|some (.dict es _),some k=>some (aU es k).isSome|_,_=>none)=_;rw[hr,hk]
theorem dh {w:Nat} {fs:Es} (hr:J[r]?=some (.dict fs w)) (hl:fs.length<ay):fM J (.ref r)=some (fs.length:Int):=by
 show(match J[r]? with|some (.list ds _)=>(if ds.length<ay then some (ds.length:Int) else none)|some (.dict es _)=>(if es.length<ay then some (es.length:Int) else none)|none=>none)=_;rw[hr];exact if_pos hl
theorem wT {n m:Int} {op:uR} (h1:ev C o l J=some (x,J1)) (h2:ev C k l J1=some (y,J2)) (h3:bo J2 x y=some (.int n)) (h4:ev C v l J2=some (.int m,J3)) (h5:dW op (.int n) (.int m) J3=some (z,J4)) {J5:St} (h6:ic J4 x y z=some J5):aP C W (.aug o k op v) l J=some (.next,l,J5):=by
 show(match ev C o l J with|some (od,J1)=>(match ev C k l J1 with|some (kd,J2)=>(match bo J2 od kd with|some (.int old)=>(match ev C v l J2 with|some (.int y,J3)=>(match dW op (.int old) (.int y) J3 with|some (r,J4)=>(match ic J4 od kd r with|some J5=>some (Fl.next,l,J5)|none=>none)|none=>none)|_=>none)|_=>none)|none=>none)|none=>none)=_;rw[h1];dsimp only;rw[h2];dsimp only;rw[h3];dsimp only;rw[h4];dsimp only;rw[h5];dsimp only;rw[h6]
theorem iF {ts:List Nat} {many:Bool} {B:XS} {R:Option (Fl×aB×St)} (h:eA C it l J=some (ds,src,J1)) (hf:a9 (aw ts many) (aP C W B) src ds l J1=R):aP C W (.for_ ts many it B) l J=R:=by
 show(match eA C it l J with|some (ds,src,J1)=>a9 (aw ts many) (aP C W B) src ds l J1|none=>none)=_;rw[h];exact hf
theorem pR {τ:St} {fs:Es} (ha:iU C xs l J1=some (ds,J++τ)) (h:ds.length<16) (hd:eF ds []=some fs):ev C (.dict xs) l J1=some (.ref (J.length+τ.length),J++(τ++[.dict fs 0])):=
 (cQ ha h hd).trans (by rw[List.length_append,List.append_assoc])
theorem zL {τ:St} (h:di C L l J1=some (ds,J++τ)):ev C (.lst L) l J1=some (.ref (J.length+τ.length),J++(τ++[.list ds 0])):=
 (bR h).trans (by rw[List.length_append,List.append_assoc])
theorem rE {τ:St} {fs:Es} {w:Nat} (h:ev C o l J1=some (.ref r,J++τ)) (hr:(J++τ)[r]?=some (.dict fs w)) (h1:fs.length<ay) (h2:dK fs=true):ev C (.dictOf o) l J1=some (.ref (J.length+τ.length),J++(τ++[.dict fs 0])):=
 (mW h hr h1 h2).trans (by rw[List.length_append,List.append_assoc])
section
variable {bind:D->aB->Option aB} {test:aB->St->Option (Bool×St)} {elt key val:aB->St->Option (D×St)}
theorem fX (hb:bind x l=some l1) (ht:test l1 J=some (true,J1)) (he:elt l1 J1=some (y,J2)) (hs:aI src J2=true) (h:aY bind test elt src l ds J2=some (es,J3)):aY bind test elt src l (x::ds) J=some (y::es,J3):=by
 show(match bind x l with|none=>none|some l'=>match test l' J with|none=>none|some (false,J1)=>(if aI src J1 then aY bind test elt src l ds J1 else none)|some (true,J1)=>match elt l' J1 with|none=>none|some (e,J2)=>if aI src J2 then (match aY bind test elt src l ds J2 with|some (es,J3)=>some (e::es,J3)|none=>none) else none)=_;rw[hb];dsimp only;rw[ht];dsimp only;rw[he];dsimp only;rw[if_pos hs,h]
theorem j7 {R:Option (List D×St)} (hb:bind x l=some l1) (ht:test l1 J=some (false,J1)) (hs:aI src J1=true) (h:aY bind test elt src l ds J1=R):aY bind test elt src l (x::ds) J=R:=by
 show(match bind x l with|none=>none|some l'=>match test l' J with|none=>none|some (false,J1)=>(if aI src J1 then aY bind test elt src l ds J1 else none)|some (true,J1)=>match elt l' J1 with|none=>none|some (e,J2)=>if aI src J2 then (match aY bind test elt src l ds J2 with|some (es,J3)=>some (e::es,J3)|none=>none) else none)=_;rw[hb];dsimp only;rw[ht];dsimp only;rw[if_pos hs];exact h
theorem pV (hb:bind x l=some l1) (ht:test l1 J=some (true,J1)) (he:elt l1 J1=some (y,J2)) (hs:aI src J2=true):aY bind test elt src l [x] J=some ([y],J2):=fX hb ht he hs rfl
theorem lI (k:List Int):aG (k.map D.int)=some k:=by
 induction k with
 |nil=>rfl
 |cons i k ih=>exact congrArg (Option.map (i::·)) ih
theorem lX {fs:Es} {ks:List Int} (h1:bind x l=some l1) (h2:test l1 J=some (true,J)) (h3:key l1 J=some (ae ks,J)) (h4:val l1 J=some (y,J)) (h5:aI src J=true) (h6:fs.length<ay):bf bind test key val src l (x::ds) fs J=bf bind test key val src l ds (bZ fs ks y) J:=by
 show(match bind x l with|none=>none|some l'=>match test l' J with|none=>none|some (false,J1)=>(if aI src J1 then bf bind test key val src l ds fs J1 else none)|some (true,J1)=>match key l' J1 with|some (.tup ks,J2)=>(match aG ks with|none=>none|some k=>match val l' J2 with|none=>none|some (v,J3)=>if aI src J3&&decide (fs.length<ay) then bf bind test key val src l ds (bZ fs k v) J3 else none)|_=>none)=_;rw[h1];dsimp only;rw[h2];dsimp only;rw[h3];dsimp only[ae];rw[lI];dsimp only;rw[h4];dsimp only;rw[h5,decide_eq_true h6];rfl
theorem rO {fs:Es} (h1:bind x l=some l1) (h2:test l1 J=some (false,J1)) (h5:aI src J1=true):bf bind test key val src l (x::ds) fs J=bf bind test key val src l ds fs J1:=by
 show(match bind x l with|none=>none|some l'=>match test l' J with|none=>none|some (false,J1)=>(if aI src J1 then bf bind test key val src l ds fs J1 else none)|some (true,J1)=>match key l' J1 with|some (.tup ks,J2)=>(match aG ks with|none=>none|some k=>match val l' J2 with|none=>none|some (v,J3)=>if aI src J3&&decide (fs.length<ay) then bf bind test key val src l ds (bZ fs k v) J3 else none)|_=>none)=_;rw[h1];dsimp only;rw[h2];exact if_pos h5
end
section
variable {f g:D->D->Option Bool} {p q:Bool}
theorem uD {F:Es} {ks:List Int} {r:Es} (h:aU F ks=none):jv f F ((ks,x)::r)=some false:=by
 show(match aU F ks with|none=>some false|some y=>match f x y,jv f F r with|some a,some b=>some (a&&b)|_,_=>none)=_;rw[h]
theorem uE {F:Es} {ks:List Int} {r:Es} (h:aU F ks=some y) (h1:f x y=some p) (h2:jv f F r=some q):jv f F ((ks,x)::r)=some (p&&q):=by
 show(match aU F ks with|none=>some false|some y=>match f x y,jv f F r with|some a,some b=>some (a&&b)|_,_=>none)=_;rw[h];dsimp only;rw[h1,h2]
theorem xR (h1:cY J CF y x=some p) (h2:cP.anyEq J x ds=some q):cP.anyEq J x (y::ds)=some (p || q):=by
 show(match cY J CF y x,cP.anyEq J x ds with|some p,some q=>some (p || q)|_,_=>none)=_;rw[h1,h2]
theorem bK (h1:f x y=some p) (h2:de f ds es=some q):de f (x::ds) (y::es)=some (p&&q):=by
 show(match f x y,de f ds es with|some a,some b=>some (a&&b)|_,_=>none)=_;rw[h1,h2]
theorem eU (h:f x y=some true):gC f g (x::ds) (y::es)=gC f g ds es:=by
 show(match f x y with|some true=>gC f g ds es|some false=>g x y|none=>none)=_;rw[h]
theorem eT (h:f x y=some false):gC f g (x::ds) (y::es)=g x y:=by
 show(match f x y with|some true=>gC f g ds es|some false=>g x y|none=>none)=_;rw[h]
end
theorem jU {w:Nat} {m:Int} (hr:J[r]?=some (.list ds w)) (h:0<=m/\m<(ay:Int)) (hd:ds[m.toNat]?=some d):bo J (.ref r) (.int m)=some d:=by
 show(match J[r]? with|some (.list ds _)=>(if 0<=m/\m<(ay:Int) then ds[m.toNat]? else none)|_=>none)=_;rw[hr];dsimp only;rw[if_pos h];exact hd
theorem qB {acc:Es} {ks:List Int} (h:acc.length<ay):dX acc (.tup [ae ks,x]::ds)=dX (bZ acc ks x) ds:=by
 show(match aG (ks.map D.int) with|some k=>if acc.length<ay then dX (bZ acc k x) ds else none|none=>none)=_;rw[lI];exact if_pos h
theorem jM {w:Nat} {m:Int} (hr:J[r]?=some (.list ds w)) (h:0<=m/\m<(ay:Int)) (hl:m.toNat<ds.length):ic J (.ref r) (.int m) x=some (J.set r (.list (ds.set m.toNat x) (w+1))):=by
 show(match J[r]? with|some (.list ds w)=>(if 0<=m/\m<(ay:Int)/\m.toNat<ds.length then some (J.set r (.list (ds.set m.toNat x) (w+1))) else none)|_=>none)=_;rw[hr];exact if_pos ⟨h.1,h.2,hl⟩
theorem eK {α:Type} {w:Nat} {f:α->D} {as:List α} (hr:J[r]?=some (.list (as.map f) w)) (hl:as.length<ay):fM J (.ref r)=some ((as.length:Nat):Int):=
 (eV hr (by rw[List.length_map];exact hl)).trans (by rw[List.length_map])
theorem nQ {α β:Type} {f:α->β} {as:List α} {i:Nat} {a:α} (h:as[i]?=some a):(as.map f)[i]?=some (f a):=by rw[List.getElem?_map,h];rfl
theorem nr {m n:Nat} (h1:0<n) (h2:n<2^30):dW .fdiv (.int m) (.int n) J=some (.int ((m/n:Nat):Int),J):=
 (jC (Int.ne_of_gt (Int.natCast_pos.mpr h1)) h2).trans (by rw[Int.fdiv_eq_ediv_of_nonneg _ (Int.natCast_nonneg _),Int.natCast_ediv])
theorem xG {m n:Nat} (h1:0<n):dW .mod (.int m) (.int n) J=some (.int ((m%n:Nat):Int),J):=
 (kU (Int.ne_of_gt (Int.natCast_pos.mpr h1))).trans (by rw[Int.fmod_eq_emod_of_nonneg _ (Int.natCast_nonneg _),Int.natCast_emod])
theorem p9 {m:Nat} (h:m<64):dW .pow (.int 2) (.int m) J=some (.int ((2^m:Nat):Int),J):=
 (show(if (2:Int)=2/\0<=(m:Int)/\(m:Int)<64 then some (D.int (2^(m:Int).toNat),J) else none)=_ by rw[if_pos ⟨rfl,Int.natCast_nonneg _,Int.ofNat_lt.mpr h⟩,Int.toNat_natCast,Int.natCast_pow];rfl)
theorem vA (n:Nat):du 0 (n:Int)=(List.range n).map fun a:Nat=>D.int (a:Int):=by
 show((List.range ((n:Int)-0).toNat).map fun i:Nat=>D.int (0+(i:Int)))=_;rw[Int.sub_zero,Int.toNat_natCast]
 exact List.map_congr_left fun a _=>congrArg D.int (Int.zero_add _)
theorem pi:0<ay:=Nat.le_of_ble_eq_true rfl
theorem jR:1<ay:=Nat.le_of_ble_eq_true rfl
theorem fm:2<ay:=Nat.le_of_ble_eq_true rfl
theorem A8:3<ay:=Nat.le_of_ble_eq_true rfl
section
variable {m n:Int}
theorem ut (h:m>n):cP .gt (.int m) (.int n) J=some true:=congrArg some (decide_eq_true h)
theorem zB (h:¬m>n):cP .gt (.int m) (.int n) J=some false:=congrArg some (decide_eq_false h)
theorem Cv (h:m=n):cP .eq (.int m) (.int n) J=some true:=congrArg some (beq_iff_eq.mpr h)
theorem Bp (h:m≠n):cP .eq (.int m) (.int n) J=some false:=congrArg some (beq_eq_false_iff_ne.mpr h)
theorem yR (h:m≠n):cP .ne (.int m) (.int n) J=some true:=congrArg (fun b=>some (!b)) (beq_eq_false_iff_ne.mpr h)
theorem A3 (h:m=n):cP .ne (.int m) (.int n) J=some false:=congrArg (fun b=>some (!b)) (beq_iff_eq.mpr h)
end
theorem an {τ:St} {i:Nat} {o:AO} (h:J[i]?=some o):(J++τ)[i]?=some o:=(List.getElem?_append_left (List.getElem?_eq_some_iff.mp h).1).trans h
theorem lM {τ:St} {i:Nat} {o:AO} (h:τ[i]?=some o):(J++τ)[J.length+i]?=some o:=(List.getElem?_append_right (Nat.le_add_right _ _)).trans ((congrArg (fun j=>τ[j]?) (Nat.add_sub_cancel_left ..)).trans h)
theorem n9 {τ:St} {o:AO}:(J++o::τ)[J.length]?=some o:=lM (i:=0) rfl
theorem ai (J:St) (o:AO):(J++[o])[J.length]?=some o:=n9
theorem qq {τ:St} {i:Nat} {o:AO}:(J++τ).set (J.length+i) o=J++τ.set i o:=(List.set_append_right _ _ (Nat.le_add_right _ _)).trans (congrArg (fun j=>J++τ.set j o) (Nat.add_sub_cancel_left ..))
theorem yG {τ:St} {o o':AO}:(J++o::τ).set J.length o'=J++o'::τ:=qq (i:=0)
theorem dk (J:St) (o o':AO):(J++[o]).set J.length o'=J++[o']:=yG
theorem qo {w:Nat} {o:AO} (hr:J[r]?=some o) (hv:Nat.beq o.ver w=true):aI (some (r,w)) J=true:=by
 show(match J[r]? with|some p=>Nat.beq p.ver w|none=>false)=_;rw[hr];exact hv
theorem bN {w:Nat} (hr:J[r]?=some (.list ds w)):aI (some (r,w)) J=true:=qo hr (Nat.beq_refl w)
theorem aL {w:Nat} {fs:Es} (hr:J[r]?=some (.dict fs w)):aI (some (r,w)) J=true:=qo hr (Nat.beq_refl w)
end
theorem am {W n f:Nat} {fn:Fn} {ds:List D} {J:St} {d:D} {l:aB} {J1:St} (h:FT[f]?=some fn) (hl:ds.length=fn.nargs)
  (hb:aP (ab FT W n) W fn.body (ds.map some++List.replicate (fn.nslots-fn.nargs) none) J=some (.ret d,l,J1)):ab FT W (n+1) f ds J=some (d,J1):=by
 show(match FT[f]? with|none=>none|some fn=>if ds.length=fn.nargs then (match aP (ab FT W n) W fn.body (ds.map some++List.replicate (fn.nslots-fn.nargs) none) J with|some (.ret d,_,J1)=>some (d,J1)|some (.next,_,J1)=>some (D.none,J1)|_=>none) else none)=_;rw[h];dsimp only;rw[if_pos hl,hb]
theorem nq {W n f:Nat} {fn:Fn} {ds:List D} {J:St} {l:aB} {J1:St} (h:FT[f]?=some fn) (hl:ds.length=fn.nargs)
  (hb:aP (ab FT W n) W fn.body (ds.map some++List.replicate (fn.nslots-fn.nargs) none) J=some (.next,l,J1)):ab FT W (n+1) f ds J=some (.none,J1):=by
 show(match FT[f]? with|none=>none|some fn=>if ds.length=fn.nargs then (match aP (ab FT W n) W fn.body (ds.map some++List.replicate (fn.nslots-fn.nargs) none) J with|some (.ret d,_,J1)=>some (d,J1)|some (.next,_,J1)=>some (D.none,J1)|_=>none) else none)=_;rw[h];dsimp only;rw[if_pos hl,hb]
theorem ag {C:Nat->List D->St->Option (D×St)} {W:Nat} {a b:XS} {l l1:aB} {J J1:St} {r:Option (Fl×aB×St)} (ha:aP C W a l J=some (.next,l1,J1)) (hb:aP C W b l1 J1=r):aP C W (.seq a b) l J=r:=
 (congrArg (fun o:Option (Fl×aB×St)=>match o with|some (.next,l1,J1)=>aP C W b l1 J1|r=>r) ha).trans hb
theorem fv {C:Nat->List D->St->Option (D×St)} {W:Nat} {a b:XS} {l l1:aB} {J J1:St} {d:D} (ha:aP C W a l J=some (.ret d,l1,J1)):aP C W (.seq a b) l J=some (.ret d,l1,J1):=
 congrArg (fun o:Option (Fl×aB×St)=>match o with|some (.next,l1,J1)=>aP C W b l1 J1|r=>r) ha
theorem vh {C:Nat->List D->St->Option (D×St)} {W:Nat} {a b:XS} {l l1:aB} {J J1:St} (ha:aP C W a l J=some (.cont,l1,J1)):aP C W (.seq a b) l J=some (.cont,l1,J1):=
 congrArg (fun o:Option (Fl×aB×St)=>match o with|some (.next,l1,J1)=>aP C W b l1 J1|r=>r) ha
theorem eP {test:aB->St->Option (Bool×St)} {body:aB->St->Option (Fl×aB×St)} {n:Nat} {l l2:aB} {J J1 J2:St} {fl:Fl} (ht:test l J=some (true,J1)) (hb:body l J1=some (fl,l2,J2)) (hf:∀d,fl≠.ret d) :
  cr test body (n+1) l J=cr test body n l2 J2:=by
 show(match test l J with|none=>none|some (false,J1)=>some (Fl.next,l,J1)|some (true,J1)=>match body l J1 with|none=>none|some (Fl.ret r,l2,J2)=>some (Fl.ret r,l2,J2)|some (_,l2,J2)=>cr test body n l2 J2)=_;rw[ht];dsimp only;rw[hb]
 cases fl with
 |ret d=>exact absurd rfl (hf d)
 |_=>rfl
theorem gc {test:aB->St->Option (Bool×St)} {body:aB->St->Option (Fl×aB×St)} {n:Nat} {l:aB} {J J1:St} (ht:test l J=some (false,J1)):cr test body (n+1) l J=some (.next,l,J1):=by
 show(match test l J with|none=>none|some (false,J1)=>some (Fl.next,l,J1)|some (true,J1)=>match body l J1 with|none=>none|some (Fl.ret r,l2,J2)=>some (Fl.ret r,l2,J2)|some (_,l2,J2)=>cr test body n l2 J2)=_;rw[ht]
theorem dL {bind:D->aB->Option aB} {body:aB->St->Option (Fl×aB×St)} {src:f9} {d:D} {ds:List D} {l l1 l2:aB} {J J2:St} {fl:Fl} (h1:bind d l=some l1) (h2:body l1 J=some (fl,l2,J2)) (hf:∀d,fl≠.ret d) (hs:aI src J2=true) :
  a9 bind body src (d::ds) l J=a9 bind body src ds l2 J2:=by
 show(match bind d l with|none=>none|some l1=>match body l1 J with|none=>none|some (Fl.ret r,l2,J2)=>some (Fl.ret r,l2,J2)|some (_,l2,J2)=>if aI src J2 then a9 bind body src ds l2 J2 else none)=_;rw[h1];dsimp only;rw[h2]
 cases fl with
 |ret d=>exact absurd rfl (hf d)
 |_=>exact if_pos hs
theorem kS {bind:D->aB->Option aB} {body:aB->St->Option (Fl×aB×St)} {src:f9} {d r:D} {ds:List D} {l l1 l2:aB} {J J2:St} (h1:bind d l=some l1) (h2:body l1 J=some (.ret r,l2,J2)) :
  a9 bind body src (d::ds) l J=some (.ret r,l2,J2):=by
 show(match bind d l with|none=>none|some l1=>match body l1 J with|none=>none|some (Fl.ret r,l2,J2)=>some (Fl.ret r,l2,J2)|some (_,l2,J2)=>if aI src J2 then a9 bind body src ds l2 J2 else none)=_;rw[h1];dsimp only;rw[h2]
theorem pK {C:Nat->List D->St->Option (D×St)} {W:Nat} {J:St}:∀(fuel a b:Nat),b<fuel->
  cr (iV C (.cmp .ne (.var 1) (.lit (.int 0)))) (aP C W (.eM [0,1] (.tup (.aa (.var 1) (.aa (.bin .mod (.var 0) (.var 1)) .af))))) fuel [some (.int (a:Int)),some (.int (b:Int))] J
   = some (.next,[some (.int ((Nat.gcd a b:Nat):Int)),some (.int 0)],J)
 |0,_,_,h=>by exact(Nat.not_lt_zero _ h).elim
 |fuel+1,a,0,_=>by
  rw[gc (J1:=J)]
  ·simp
  ·rfl
 |fuel+1,a,b+1,h=>by
  have hlt:a%(b+1)<b+1:=Nat.mod_lt _ (Nat.succ_pos b);have ih:=pK (C:=C) (W:=W) (J:=J) fuel (b+1) (a%(b+1)) (by exists L30,0x1020011100220081111021110020836,h,hlt);have hne':((b:Int)+1)≠0:=by exists L10,0x901111100725812
  have hm:((a:Int).fmod ((b:Int)+1))=((a%(b+1):Nat):Int):=(Int.ofNat_fmod a (b+1)).symm;have hg:Nat.gcd (b+1) (a%(b+1))=Nat.gcd a (b+1):=by rw[Nat.gcd_comm (b+1),<-Nat.gcd_rec,Nat.gcd_comm]
  rw[eP (J1:=J) (l2:=[some (.int ((b+1:Nat):Int)),some (.int ((a%(b+1):Nat):Int))]) (J2:=J) (fl:=.next),ih,hg]
  ·rfl
  ·exact hm▸rfl
  ·simp
theorem lO {W n:Nat} {a b:Int} {J:St} (hb:b.natAbs<W):ab FT W (n+1) lR [.int a,.int b] J=some (.int ((Int.gcd a b:Nat):Int),J):=by
 have hab:∀x:Int,(if x<0 then -x else x)=((x.natAbs:Nat):Int):=fun x=>by split<;>omega
 refine am (fn:=⟨2,2,Ak⟩) rfl rfl (l:=[some (.int ((Int.gcd a b:Nat):Int)),some (.int 0)]) ?_;refine ag (l1:=[some (.int (a.natAbs:Nat)),some (.int (b.natAbs:Nat))]) (J1:=J) ?_ (ag (pK W a.natAbs b.natAbs hb) ?_)
 ·exact(dO (aS (al (wZ rfl) (wZ rfl)) fm) rfl).trans (by rw[hab,hab];rfl)
 ·rfl
noncomputable abbrev qD (t b:Int):D:=.tup [.int t,.int b]
noncomputable def lh (t b:Int):Int:=if b>0 then (Int.gcd t b:Nat) else 0-((Int.gcd t b:Nat):Int)
noncomputable def aV (t b:Int):D:=qD (t.fdiv (lh t b)) (b.fdiv (lh t b))
theorem yK {t b:Int} (hb:b≠0):lh t b≠0:=by
 have:Int.gcd t b≠0:=fun h=>hb (Int.gcd_eq_zero_iff.mp h).2;unfold lh;split<;>(first|exists L10,0x90110075890110028812,this|exists L10,0x901100701155890110028812,this)
theorem yL {t b:Int} (hb:b≠0):(lh t b).natAbs<=b.natAbs:=by
 have:Int.gcd t b<=b.natAbs:=Nat.le_of_dvd (Int.natAbs_pos.mpr hb) (Nat.gcd_dvd_right _ _);unfold lh;split<;>(first|exact this|exists L31,0x1020100701156207501100701153600701152075007011501146780061075011003600107500011467810001836,this,(fa _),(fa _))
section
variable {W n:Nat} {J:St}
theorem d9 {t b:Int} (hb:b≠0) (hs:b.natAbs<2^30) (hw:b.natAbs<W):ab FT W (n+2) gz [.int t,.int b] J=some (aV t b,J):=by
 have hg:=yK (t:=t) hb;have hl:=yL (t:=t) hb;refine am (fn:=⟨2,3,Aj⟩) rfl rfl (l:=[some (.int t),some (.int b),some (.int (lh t b))]) ?_;refine ag (l1:=[some (.int t),some (.int b),none]) (J1:=J) ?_ (ag (l1:=[some (.int t),some (.int b),some (.int (lh t b))]) (J1:=J) ?_ ?_)
 ·have hb':(b==0)=false:=by exact decide_eq_false hb
  exact eL (aq rfl rfl (Bp hb)) rfl
 ·have hc:=lO (n:=n) (J:=J) (a:=t) hw;show aP _ _ _ _ _=some (Fl.next,[some (.int t),some (.int b),some (.int (if b>0 then (Int.gcd t b:Nat) else 0-((Int.gcd t b:Nat):Int)))],J);by_cases hp:b>0
  ·rw[if_pos hp];exact aD (fc (aq rfl rfl (ut hp)) (ah (al rfl rfl) hc))
  ·rw[if_neg hp];exact aD (fU (aq rfl rfl (zB hp)) (aA rfl (ah (al rfl rfl) hc) rfl))
 ·have:(lh t b).natAbs<1073741824:=by omega
  exact bk (aS (al (aA rfl rfl (jC hg this)) (aA rfl rfl (jC hg this))) fm)
noncomputable abbrev qf (x y:Int):Prop:=x.natAbs<2^63\/y.natAbs<2^63
theorem gT {a b c d:Int} (h1:qf a c) (h2:qf b d) (hb:b*d≠0) (hs:(b*d).natAbs<2^30) (hw:(b*d).natAbs<W):ab FT W (n+3) eY [qD a b,qD c d] J=some (aV (a*c) (b*d),J):=by
 have hc:=d9 (n:=n) (J:=J) (t:=a*c) hb hs hw;refine am (fn:=⟨2,2,xL⟩) rfl rfl (l:=[some (qD a b),some (qD c d)]) ?_;exact bk (ah (al (aA rfl rfl (cu h1)) (aA rfl rfl (cu h2))) hc)
theorem tH {a b c d:Int} (h1:qf a d) (h2:qf b c) (hb:b*c≠0) (hs:(b*c).natAbs<2^30) (hw:(b*c).natAbs<W):ab FT W (n+3) rD [qD a b,qD c d] J=some (aV (a*d) (b*c),J):=by
 have hc:=d9 (n:=n) (J:=J) (t:=a*d) hb hs hw;refine am (fn:=⟨2,2,xN⟩) rfl rfl (l:=[some (qD a b),some (qD c d)]) ?_;exact bk (ah (al (aA rfl rfl (cu h1)) (aA rfl rfl (cu h2))) hc)
theorem tK {a b c d:Int} (h1:qf a d) (h2:qf c b) (h3:qf b d) (hb:b*d≠0) (hs:(b*d).natAbs<2^30) (hw:(b*d).natAbs<W):ab FT W (n+3) oh [qD a b,qD c d] J=some (aV (a*d+c*b) (b*d),J):=by
 have hc:=d9 (n:=n) (J:=J) (t:=a*d+c*b) hb hs hw;refine am (fn:=⟨2,2,xO⟩) rfl rfl (l:=[some (qD a b),some (qD c d)]) ?_;exact bk (ah (al (aA (aA rfl rfl (cu h1)) (aA rfl rfl (cu h2)) rfl) (aA rfl rfl (cu h3))) hc)
theorem tC {a b:Int}:ab FT W (n+1) rC [qD a b] J=some (qD (0-a) b,J):=by
 refine am (fn:=⟨1,1,xK⟩) rfl rfl (l:=[some (qD a b)]) ?_;rfl
theorem tE {a b:Int} (ha:a≠0) (hs:a.natAbs<2^30) (hw:a.natAbs<W):ab FT W (n+3) wS [qD a b] J=some (aV b a,J):=by
 have hc:=d9 (n:=n) (J:=J) (t:=b) ha hs hw;refine am (fn:=⟨1,1,xM⟩) rfl rfl (l:=[some (qD a b)]) ?_;exact bk (ah rfl hc)
end
theorem fP {t b:Int} (hb:0<b):aV t b=qD (t/(Int.gcd t b:Nat)) (b/(Int.gcd t b:Nat)):=by
 have h0:(0:Int)<=((Int.gcd t b:Nat):Int):=Int.natCast_nonneg _;unfold aV lh;rw[if_pos hb,Int.fdiv_eq_ediv_of_nonneg _ h0,Int.fdiv_eq_ediv_of_nonneg _ h0]
theorem uu {t b t' b':Int} (hb:0<b) (hb':0<b') (h:t*b'=t'*b):((Int.gcd t b:Nat):Int)*b'=((Int.gcd t' b':Nat):Int)*b:=by
 have h1:Int.gcd (t*b') (b*b')=Int.gcd t b*b'.natAbs:=Int.gcd_mul_right t b' b;have h2:Int.gcd (t'*b) (b'*b)=Int.gcd t' b'*b.natAbs:=Int.gcd_mul_right t' b b';rw[<-h,Int.mul_comm b' b,h1] at h2;have h3:((Int.gcd t b*b'.natAbs:Nat):Int)=((Int.gcd t' b'*b.natAbs:Nat):Int):=by rw[h2]
 have e1:(b'.natAbs:Int)=b':=Int.natAbs_of_nonneg (by exact Int.le_of_lt hb');have e2:(b.natAbs:Int)=b:=Int.natAbs_of_nonneg (by exact Int.le_of_lt hb);rw[Int.natCast_mul,Int.natCast_mul,e1,e2] at h3;exact h3
theorem i8 {t b t' b':Int} (hb:0<b) (hb':0<b') (h:t*b'=t'*b):aV t b=aV t' b':=by
 rw[fP hb,fP hb'];have hx:=uu hb hb' h;have hg:0<Int.gcd t b:=Int.gcd_pos_of_ne_zero_right _ (by exact Int.ne_of_gt hb);have hg':0<Int.gcd t' b':=Int.gcd_pos_of_ne_zero_right _ (by exact Int.ne_of_gt hb');have d1:=Int.gcd_dvd_left t b;have d2:=Int.gcd_dvd_right t b;have d3:=Int.gcd_dvd_left t' b';have d4:=Int.gcd_dvd_right t' b';generalize ((Int.gcd t b:Nat))=g at *;generalize ((Int.gcd t' b':Nat))=g' at *;obtain⟨t0,rfl⟩:=d1;obtain⟨b0,rfl⟩:=d2;obtain⟨t0',rfl⟩:=d3;obtain⟨b0',rfl⟩:=d4;have hgz:(g:Int)≠0:=by exists L10,0x901100758000110812,hg
 have hgz':(g':Int)≠0:=by exists L10,0x901100758000110812,hg'
 rw[Int.mul_ediv_cancel_left _ hgz,Int.mul_ediv_cancel_left _ hgz,Int.mul_ediv_cancel_left _ hgz',Int.mul_ediv_cancel_left _ hgz'];have hbb:b0=b0':=by
  have:((g:Int)*g')*b0'=((g:Int)*g')*b0:=by
   rw[Int.mul_assoc,hx];rw[<-Int.mul_assoc,Int.mul_comm (g':Int) g]
  exact(Int.eq_of_mul_eq_mul_left (Int.mul_ne_zero hgz hgz') this).symm
 subst hbb;have hb0:b0≠0:=by rintro rfl;simp at hb
 have htt:t0=t0':=by
  have:((g:Int)*g'*b0)*t0=((g:Int)*g'*b0)*t0':=by
   have e1:((g:Int)*g'*b0)*t0=(g:Int)*t0*(g'*b0):=by
    simp only[Int.mul_assoc,Int.mul_comm,Int.mul_left_comm]
   have e2:((g:Int)*g'*b0)*t0'=(g':Int)*t0'*(g*b0):=by
    simp only[Int.mul_assoc,Int.mul_comm,Int.mul_left_comm]
   rw[e1,e2,h]
  exact Int.eq_of_mul_eq_mul_left (Int.mul_ne_zero (Int.mul_ne_zero hgz hgz') hb0) this
 rw[htt]
theorem aF (t:Int):aV t 1=qD t 1:=by
 rw[fP (by exact Int.le_refl _)];simp
theorem jN {b:Int} (hb:0<b):aV 0 b=qD 0 1:=by
 rw[i8 (t':=0) (b':=1) hb (by exact Int.le_refl _) (by simp),aF]
theorem eG {t b:Int} (hb:0<b) (ht:t≠0):∃p q,aV t b=qD p q/\p≠0/\0<q/\q<=b/\p.natAbs<=t.natAbs/\p*b=t*q:=by
 rw[fP hb];have hg:0<Int.gcd t b:=Int.gcd_pos_of_ne_zero_right _ (by exact Int.ne_of_gt hb);have d1:=Int.gcd_dvd_left t b;have d2:=Int.gcd_dvd_right t b;generalize ((Int.gcd t b:Nat))=g at *;obtain⟨t0,rfl⟩:=d1;obtain⟨b0,rfl⟩:=d2;have hgz:(g:Int)≠0:=by exists L10,0x901100758000110812,hg
 have hgp:(0:Int)<g:=by exact Int.natCast_pos.mpr hg
 rw[Int.mul_ediv_cancel_left _ hgz,Int.mul_ediv_cancel_left _ hgz]
 have hb0:0<b0:=Int.pos_of_mul_pos_right hb (by omega) |> fun h=>h;refine⟨t0,b0,rfl,fun h=>ht (by rw[h];rfl),hb0,?_,?_,?_⟩
 ·calc b0=1*b0:=by simp
   _<=g*b0:=Int.mul_le_mul_of_nonneg_right (by exact Int.natCast_pos.mpr hg) (by exact Int.le_of_lt hb0)
 ·rw[Int.natAbs_mul];have:1*t0.natAbs<=(g:Int).natAbs*t0.natAbs:=Nat.mul_le_mul_right _ (by exact hg);exists L21,0x100010060075011003600007500011467810001131824,this,(fa (t0))
 ·simp only[Int.mul_assoc,Int.mul_comm,Int.mul_left_comm]
theorem iK (k:List Int):aU [] k=none:=rfl
theorem uH (es fs:Es) (k:List Int):aU (es++fs) k=(aU es k).or (aU fs k):=by
 induction es with
 |nil=>simp[iK]
 |cons e es ih=>
  obtain⟨k',v⟩:=e;rw[List.cons_append,bU,bU,ih];split<;>rfl
theorem iI {es:Es} {k:List Int} (h:k∉es.map (·.1)):aU es k=none:=by
 induction es with
 |nil=>rfl
 |cons e es ih=>
  obtain⟨k',v⟩:=e;simp only[List.map_cons,List.mem_cons,not_or] at h;rw[bU,if_neg (fun q=>h.1 q.symm),ih h.2]
theorem lW {es:Es} {k:List Int} {v:D} (h:aU es k=some v):(k,v)∈es:=by
 induction es with
 |nil=>cases h
 |cons e es ih=>
  obtain⟨k',v'⟩:=e;rw[bU] at h;split at h
  ·rename_i q;cases h;rw[q];exact List.mem_cons_self
  ·exact List.mem_cons_of_mem _ (ih h)
theorem eO {es:Es} (nd:(es.map (·.1)).Nodup) {e:List Int×D} (h:e∈es):aU es e.1=some e.2:=by
 induction es with
 |nil=>cases h
 |cons e' es ih=>
  obtain⟨k',v'⟩:=e';simp only[List.map_cons,List.nodup_cons] at nd;rw[bU];rcases List.mem_cons.mp h with rfl|h2
  ·simp
  ·have hne:k'≠e.1:=by rintro rfl;exact nd.1 (List.mem_map_of_mem h2)
   rw[if_neg hne,ih nd.2 h2]
theorem rM {es:Es} (k:List Int) (v:D) (k':List Int):aU (es.map fun e=>if e.1=k then (e.1,v) else e) k'=if k'=k then (aU es k).map (fun _=>v) else aU es k':=by
 induction es with
 |nil=>simp[iK]
 |cons e es ih=>
  obtain⟨k0,v0⟩:=e;simp only[List.map_cons];by_cases h:k0=k
  ·subst h;simp only[if_true,bU,ih];by_cases h':k'=k0
   ·subst h';simp
   ·have h'':k0≠k':=fun q=>h' q.symm;simp[h',h'']
  ·simp only[h,if_false,bU,ih];by_cases h':k'=k
   ·subst h';simp[h]
   ·simp[h']
theorem xx (es:Es) (k:List Int) (v:D) (k':List Int):aU (bZ es k v) k'=if k'=k then some v else aU es k':=by
 unfold bZ;split
 ·rename_i h;rw[rM];obtain⟨u,hu⟩:=Option.isSome_iff_exists.mp h;rw[hu];rfl
 ·rename_i h;have hn:aU es k=none:=by simpa using h
  rw[uH,bU,iK];by_cases h':k'=k
  ·subst h';simp[hn]
  ·have h'':k≠k':=fun q=>h' q.symm;simp[h',h'']
theorem Br (es:Es) (k:List Int) (k':List Int):aU (dT es k) k'=if k'=k then none else aU es k':=by
 unfold dT;induction es with
 |nil=>simp[iK]
 |cons e es ih=>
  obtain⟨k0,v0⟩:=e;rw[List.filter_cons];by_cases h:k0=k
  ·subst h;simp only[ne_eq,not_true_eq_false,decide_false,Bool.false_eq_true,if_false,ih,bU];by_cases h':k'=k0
   ·simp[h']
   ·have h'':k0≠k':=fun q=>h' q.symm;simp[h',h'']
  ·simp only[ne_eq,h,not_false_eq_true,decide_true,if_true,bU,ih];by_cases h':k'=k
   ·subst h';simp[h]
   ·simp[h']
theorem vR {es:Es} (nd:(es.map (·.1)).Nodup) (k:List Int) (v:D):((bZ es k v).map (·.1)).Nodup:=by
 unfold bZ;split
 ·have:(es.map fun e=>if e.1=k then (e.1,v) else e).map (·.1)=es.map (·.1):=by
   rw[List.map_map];apply List.map_congr_left
   intro e _;simp only[Function.comp];split<;>rfl
  rw[this];exact nd
 ·rename_i h;rw[List.map_append,List.nodup_append];refine⟨nd,by simp,?_⟩;intro a ha b hb;simp only[List.map_cons,List.map_nil,List.mem_singleton] at hb;subst hb;rintro rfl;obtain⟨e,he,rfl⟩:=List.mem_map.mp ha;rw[eO nd he] at h;exact(h rfl).elim
theorem A4 {es:Es} (nd:(es.map (·.1)).Nodup) (k:List Int):((dT es k).map (·.1)).Nodup:=by
 unfold dT;exact List.Nodup.sublist (List.Sublist.map _ List.filter_sublist) nd
structure cy (n d:Int) (c:Int->Int->Int) (es:Es):Prop where
 nd:(es.map (·.1)).Nodup
 get:∀x y,aU es [x,y]=if c x y=0 then none else some (aV (c x y*n) d)
 two:∀e∈es,∃x y,e.1=[x,y]
theorem cy.at {n d:Int} {c:Int->Int->Int} {es:Es} {x y:Int} (p:cy n d c es) (h:c x y≠0):aU es [x,y]=some (aV (c x y*n) d):=(p.get x y).trans (if_neg h)
theorem cy.entry {n d:Int} {c:Int->Int->Int} {es:Es} (p:cy n d c es) {e:List Int×D} (h:e∈es):∃x y,e=([x,y],aV (c x y*n) d)/\c x y≠0:=by
 obtain⟨x,y,hk⟩:=p.two e h;have hg:=eO p.nd h;rw[hk,p.get] at hg;split at hg
 ·cases hg
 ·rename_i hc;refine⟨x,y,?_,hc⟩;obtain⟨k,v⟩:=e;simp only[Option.some.injEq] at hg;simp only at hk;rw[hk,hg]
noncomputable def fG (c:Int->Int->Int) (x y v:Int):Int->Int->Int:=fun x' y'=>if x'=x/\y'=y then v else c x' y'
theorem nP {es:Es} {k:List Int} {v:D} {e:List Int×D} (h:e∈bZ es k v):e∈es\/e.1=k:=by
 unfold bZ at h;split at h
 ·obtain⟨e',he',rfl⟩:=List.mem_map.mp h;by_cases q:e'.1=k
  ·right;simp[q]
  ·left;simpa [q] using he'
 ·rcases List.mem_append.mp h with h|h
  ·exact .inl h
  ·right;simp at h;rw[h]
theorem cy.put {n d:Int} {c:Int->Int->Int} {es:Es} (p:cy n d c es) {x y v:Int} (hv:v≠0):cy n d (fG c x y v) (bZ es [x,y] (aV (v*n) d)) where
 nd:=vR p.nd _ _
 get:=fun x' y'=>by
  rw[xx,p.get];simp only[List.cons.injEq,and_true,fG];by_cases h:x'=x/\y'=y
  ·simp[h,hv]
  ·simp[h]
 two:=fun e he=>by
  rcases nP he with he|he
  ·exact p.two e he
  ·exact⟨x,y,he⟩
theorem cy.del {n d:Int} {c:Int->Int->Int} {es:Es} (p:cy n d c es) {x y:Int}:cy n d (fG c x y 0) (dT es [x,y]) where
 nd:=A4 p.nd _
 get:=fun x' y'=>by
  rw[Br,p.get];simp only[List.cons.injEq,and_true,fG];by_cases h:x'=x/\y'=y
  ·simp[h]
  ·simp[h]
 two:=fun e he=>p.two e ((List.mem_filter.mp he).1)
theorem cy.nil {n d:Int}:cy n d (fun _ _=>0) [] where
 nd:=List.nodup_nil
 get:=fun x y=>by rfl
 two:=fun e he=>by cases he
theorem ju {J:St} {a b c d:Int}:cP .eq (qD a b) (qD c d) J=some (a==c&&b==d):=by
 show some (a==c&&(b==d&&true))=_;rw[Bool.and_true]
theorem oU {n d u v p1 q1 p2 q2:Int} (hd:0<d) (h1:0<q1) (h2:0<q2) (e1:p1*d=(u*n)*q1) (e2:p2*d=(v*n)*q2):aV (p1*q2+p2*q1) (q1*q2)=aV ((u+v)*n) d:=by
 refine i8 (Int.mul_pos h1 h2) hd ?_;have a1:p1*q2*d=(u*n)*q1*q2:=by rw[<-e1];simp only[Int.mul_assoc,Int.mul_comm,Int.mul_left_comm]
 have a2:p2*q1*d=(v*n)*q2*q1:=by rw[<-e2];simp only[Int.mul_assoc,Int.mul_comm,Int.mul_left_comm]
 rw[Int.add_mul,a1,a2,Int.add_mul,Int.add_mul];congr 1<;>simp only[Int.mul_assoc,Int.mul_comm,Int.mul_left_comm]
section
variable {W k:Nat} {J:St}
theorem tI {n d u v:Int} (hW:2^30<=W) (hd:0<d) (hd':d<2^15) (hn:n≠0) (hu:u≠0) (hv:v≠0) (bu:(u*n).natAbs<2^40) (bv:(v*n).natAbs<2^40) :
  ab FT W (k+3) oh [aV (u*n) d,aV (v*n) d] J=some (aV ((u+v)*n) d,J):=by
 obtain⟨p1,q1,e1,z1,o1,l1,s1,x1⟩:=eG hd (Int.mul_ne_zero hu hn);obtain⟨p2,q2,e2,z2,o2,l2,s2,x2⟩:=eG hd (Int.mul_ne_zero hv hn);rw[e1,e2,<-oU hd o1 o2 x1 x2];have hq:0<q1*q2:=Int.mul_pos o1 o2;have hq':(q1*q2).natAbs<2^30:=by
  rw[Int.natAbs_mul];have:q1.natAbs*q2.natAbs<=2^15*q2.natAbs:=Nat.mul_le_mul_right _ (by exists L12,0x800041001106007501110361000751001146780010481001138800041003814,hd',o1,l1,(fa (q1)));have:2^15*q2.natAbs<2^15*2^15:=Nat.mul_lt_mul_of_pos_left (by omega) (by exact Nat.succ_pos _);omega
 exact tK (.inl (by omega)) (.inl (by omega)) (.inl (by omega)) (by exact Int.ne_of_gt hq) hq' (by omega)
theorem lk {J:St} {n d v:Int} (hd:0<d) (hn:n≠0):cP .eq (aV (v*n) d) (.tup [.int 0,.int 1]) J=some (decide (v=0)):=by
 by_cases hv:v=0
 ·subst hv;rw[Int.zero_mul,jN hd,ju];rfl
 ·obtain⟨p,q,e,z,_⟩:=eG hd (Int.mul_ne_zero hv hn);rw[e,ju];have:(p==0)=false:=by exact decide_eq_false z
  simp[this,hv]
theorem li (t b:Int):∃p q,aV t b = .tup [.int p,.int q]:=⟨_,_,rfl⟩
theorem ir {n d:Int} {c:Int->Int->Int} {es:Es} {r w:Nat} {x y v:Int} (hW:2^30<=W) (hd:0<d) (hd':d<2^15) (hn:n≠0) (hv:v≠0)
  (hc:(c x y*n).natAbs<2^40) (bv:(v*n).natAbs<2^40) (p:cy n d c es) (hl:es.length<ay) (hr:J[r]?=some (.dict es w))
  {Gl:Prop} (kk:∀es',ab FT W (k+4) fb [.ref r,ae [x,y],aV (v*n) d] J=some (.none,J.set r (.dict es' (w+1)))->cy n d (fG c x y (c x y+v)) es'->Gl):Gl:=by
 have hin:cP .isin (ae [x,y]) (.ref r) J=some (decide (c x y≠0)):=(ua (ks:=[x,y]) hr rfl).trans (by
  by_cases h:c x y=0
  ·rw[p.get,if_pos h,decide_eq_false fun q=>q h];rfl
  ·rw[p.at h,decide_eq_true h];rfl)
 have hkey:ae [x,y] = .tup [.int x,.int y]:=rfl;have hfirst:aP (ab FT W (k+3)) W (.asg 3 (.ite (.cmp .isin (.var 1) (.var 0)) (.call oh (.aa (.idx (.var 0) (.var 1)) (.aa (.var 2) .af))) (.var 2)))
   [some (.ref r),some (ae [x,y]),some (aV (v*n) d),none] J=some (.next,[some (.ref r),some (ae [x,y]),some (aV (v*n) d),some (aV ((c x y+v)*n) d)],J):=by
  by_cases h:c x y=0
  ·exact aD (fU (aq rfl rfl (hin.trans (congrArg some (decide_eq_false fun q=>q h)))) (by rw[h,Int.zero_add];rfl))
  ·have hrad:=tI (k:=k) (J:=J) hW hd hd' hn h hv hc bv;have hidx:bo J (.ref r) (ae [x,y])=some (aV (c x y*n) d):=bP (hr) (p.at h) rfl;exact aD (fc (aq rfl rfl (hin.trans (congrArg some (decide_eq_true h)))) (ah (al (ao rfl rfl hidx) rfl) hrad))
 by_cases h:c x y+v=0
 ·refine kk (dT es [x,y]) ?_ (by rw[h];exact p.del);refine nq (fn:=⟨3,4,iR⟩) rfl rfl (l:=[some (.ref r),some (ae [x,y]),some (aV (v*n) d),some (aV ((c x y+v)*n) d)]) (ag hfirst ?_);have h0:=lk (J:=J) (v:=c x y+v) hd hn;have hdc:eh J r=true:=by exact jk hr
  rw[hkey];rw[h] at h0 ⊢;simp only[Int.zero_mul,decide_true] at h0 ⊢;exact jq (aq rfl rfl h0) (ko (zH rfl rfl hdc hr rfl hl))
 ·refine kk (bZ es [x,y] (aV ((c x y+v)*n) d)) ?_ (p.put h);refine nq (fn:=⟨3,4,iR⟩) rfl rfl (l:=[some (.ref r),some (ae [x,y]),some (aV (v*n) d),some (aV ((c x y+v)*n) d)]) (ag hfirst ?_);have h0:=lk (J:=J) (v:=c x y+v) hd hn;exact eL (aq rfl rfl (h0.trans (congrArg some (decide_eq_false h)))) (iE rfl rfl rfl (fO (ks:=[x,y]) hr rfl hl))
end
noncomputable def uN:List (List Int):=(List.range 9).flatMap fun(x:Nat)=>(List.range 9).map fun(y:Nat)=>[(Int.ofNat x),(Int.ofNat y)]
theorem xE:(uN.map kj).Nodup:=by decide +kernel
theorem tn:uN.length=81:=by decide +kernel
noncomputable def jK (c:Int->Int->Int):Prop:=∀x y,c x y≠0->0<=x/\x<9/\0<=y/\y<9
theorem sV {x y:Int} (h:0<=x/\x<9/\0<=y/\y<9):[x,y]∈uN:=by
 simp only[uN,List.mem_flatMap,List.mem_map,List.mem_range];exact⟨x.toNat,by (exists L12,0x9110000110020110036000075000114678911103100114691100360001146814,h,(ft (x))),y.toNat,by (exists L12,0x9110000110020111036100075100114678911103100114691100360001146814,h,(ft (y))),by rw[Int.ofNat_eq_natCast,Int.ofNat_eq_natCast,Int.toNat_of_nonneg h.1,Int.toNat_of_nonneg h.2.2.1]⟩
theorem jS {α:Type}:∀(l L:List α),l.Nodup->(∀x∈l,x∈L)->l.length<=L.length:=by
 intro A0;induction A0 with
 |nil=>
  intro _ _ _;exact Nat.zero_le _
 |cons x l ih=>
  intro L nd h;simp only[List.nodup_cons] at nd;obtain⟨s,t,rfl⟩:=List.append_of_mem (h x List.mem_cons_self);have:=ih (s++t) nd.2 fun y hy=>by
   have hm:=h y (List.mem_cons_of_mem _ hy);simp only[List.mem_append,List.mem_cons] at hm ⊢;rcases hm with hm|hm|hm
   ·exact .inl hm
   ·subst hm;exact absurd hy nd.1
   ·exact .inr hm
  simp only[List.length_cons,List.length_append] at this ⊢;exact Nat.succ_le_succ this
theorem jc {α β:Type} (f:α->β):∀{l:List α},l.Nodup->(∀a∈l,∀b∈l,f a=f b->a=b)->(l.map f).Nodup:=by
 intro A0;induction A0 with
 |nil=>
  intro _ _;exact List.nodup_nil
 |cons x l ih=>
  intro nd h;simp only[List.nodup_cons] at nd;simp only[List.map_cons,List.nodup_cons];refine⟨fun hm=>?_,ih nd.2 fun a ha b hb=>h a (List.mem_cons_of_mem _ ha) b (List.mem_cons_of_mem _ hb)⟩;obtain⟨y,hy,e⟩:=List.mem_map.mp hm;have:=h y (List.mem_cons_of_mem _ hy) x List.mem_cons_self e;exact nd.1 (this▸hy)
section
variable {n d:Int} {c:Int->Int->Int} {es:Es}
theorem cy.keys (p:cy n d c es) (b:jK c):∀k∈es.map (·.1),k∈uN:=fun k hk=>by
 obtain⟨e,he,rfl⟩:=List.mem_map.mp hk;obtain⟨x,y,rfl,hc⟩:=p.entry he;exact sV (b x y hc)
theorem cy.len (p:cy n d c es) (b:jK c):es.length<ay:=by
 have:=jS _ _ p.nd (p.keys b);rw[tn,List.length_map] at this;have:ay=1048576:=rfl;omega
theorem cy.hashes (p:cy n d c es) (b:jK c):dK es=true:=by
 unfold dK;rw[decide_eq_true_eq,show(es.map fun e=>kj e.1)=(es.map (·.1)).map kj by rw[List.map_map];rfl]
 exact jc _ p.nd fun a ha b' hb e=>fL kj xE a (p.keys b a ha) b' (p.keys b b' hb) e
end
theorem jK.upd {c:Int->Int->Int} (b:jK c) {x y v:Int} (h:0<=x/\x<9/\0<=y/\y<9):jK (fG c x y v):=fun x' y' hc=>by
 simp only[Mine.fG] at hc;split at hc
 ·rename_i q;rw[q.1,q.2];exact h
 ·exact b x' y' hc
section
variable {W k:Nat} {J:St} {n d:Int}
noncomputable def only (ks:List (List Int)) (c:Int->Int->Int):Int->Int->Int:=fun x y=>if [x,y]∈ks then c x y else 0
theorem qQ {ca cb:Int->Int->Int} {fs:Es} {i j wb:Nat} (hW:2^30<=W) (hd:0<d) (hd':d<2^15) (hn:n≠0) (hb:cy n d cb fs) (hj:J[j]?=some (.dict fs wb)) (bb:jK cb)
  (ba:jK ca) (h1:∀x y,(ca x y*n).natAbs<2^40) (h2:∀x y,(cb x y*n).natAbs<2^40) :
  ∀(suf pre:Es) (gs:Es) (w:Nat) (o:Option D),fs=pre++suf->cy n d (fun x y=>ca x y+only (pre.map (·.1)) cb x y) gs->
   ∀{Gl:Prop},(∀gs' w' o',a9 (aw [3] false) (aP (ab FT W (k+4)) W (.expr (.call fb (.aa (.var 2) (.aa (.var 3) (.aa (.idx (.var 1) (.var 3)) .af)))))) (some (j,wb)) (suf.map fun e=>ae e.1)
     [some (.ref i),some (.ref j),some (.ref J.length),o] (J++[.dict gs w])=some (.next,[some (.ref i),some (.ref j),some (.ref J.length),o'],J++[.dict gs' w'])->cy n d (fun x y=>ca x y+cb x y) gs'->Gl)->Gl:=by
 intro A0;induction A0 with
 |nil=>
  intro pre gs w o hf p _ kk;refine kk gs w o rfl ?_;have:(fun x y=>ca x y+only (pre.map (·.1)) cb x y)=fun x y=>ca x y+cb x y:=by
   funext x y
   unfold only;split
   ·rfl
   ·rename_i hk;have hz:cb x y=0:=by
     have hg:=hb.get x y;rw[hf,List.append_nil,iI hk] at hg;split at hg
     ·assumption
     ·cases hg
    rw[hz]
  rw[<-this];exact p
 |cons e suf ih=>
  intro pre gs w o hf p _ kk;have hmem:e∈fs:=by rw[hf];simp
  obtain⟨x,y,rfl,hc⟩:=hb.entry hmem;have hnot:[x,y]∉pre.map (·.1):=by
   have:=hb.nd;rw[hf,List.map_append,List.map_cons,List.nodup_append] at this;intro hm;exact this.2.2 _ hm _ List.mem_cons_self rfl
  have hbx:jK (fun x y=>ca x y+only (pre.map (·.1)) cb x y):=fun x' y' h=>by
   by_cases hz:ca x' y'=0
   ·refine bb x' y' fun hq=>h ?_
    simp[hz,only,hq]
   ·exact ba x' y' hz
  have hnow:ca x y+only (pre.map (·.1)) cb x y=ca x y:=by simp[only,hnot]
  refine ir (k:=k) (r:=J.length) (J:=J++[.dict gs w]) (w:=w) (x:=x) (y:=y) (v:=cb x y) hW hd hd' hn hc (by rw[hnow];exact h1 x y) (h2 x y) p (p.len hbx) (ai _ _) fun gs' hcall p'=>?_;rw[dk] at hcall;have hidx:bo (J++[.dict gs w]) (.ref j) (ae [x,y])=some (aV (cb x y*n) d):=bP (an hj) (hb.at hc) rfl
  have hupd:fG (fun x y=>ca x y+only (pre.map (·.1)) cb x y) x y (ca x y+only (pre.map (·.1)) cb x y+cb x y)=fun x' y'=>ca x' y'+only ((pre++[([x,y],aV (cb x y*n) d)]).map (·.1)) cb x' y':=by
   funext x' y'
   unfold fG;split
   ·rename_i q;rw[q.1,q.2,hnow];simp[only]
   ·rename_i q;have:([x',y']=[x,y])↔False:=by simp only[List.cons.injEq,and_true,iff_false];exact q
    have hm:[x',y']∈(pre++[([x,y],aV (cb x y*n) d)]).map (·.1)↔[x',y']∈pre.map (·.1):=by
     rw[List.map_append,List.mem_append];simp only[List.map_cons,List.map_nil,List.mem_singleton,this,or_false]
    simp only[only,hm]
  rw[hupd] at p'
  refine ih (pre++[([x,y],aV (cb x y*n) d)]) gs' (w+1) (some (ae [x,y])) (by rw[hf];simp) p' fun gs'' w'' o'' hl pl=>?_;refine kk gs'' w'' o'' ?_ pl;rw[List.map_cons,dL (l1:=[some (.ref i),some (.ref j),some (.ref J.length),some (ae [x,y])]) (fl:=.next) (l2:=[some (.ref i),some (.ref j),some (.ref J.length),some (ae [x,y])]) (J2:=J++[.dict gs' (w+1)]),hl]
  ·rfl
  ·exact ko (ah (dF rfl rfl (ao rfl rfl hidx)) hcall)
  ·simp
  ·exact aL (an hj)
theorem qR {ca cb:Int->Int->Int} {es fs:Es} {i j wa wb:Nat} (hW:2^30<=W) (hd:0<d) (hd':d<2^15) (hn:n≠0) (ha:cy n d ca es) (hi:J[i]?=some (.dict es wa)) (hb:cy n d cb fs) (hj:J[j]?=some (.dict fs wb)) (ba:jK ca) (bb:jK cb)
  (h1:∀x y,(ca x y*n).natAbs<2^40) (h2:∀x y,(cb x y*n).natAbs<2^40)
  {Gl:Prop} (kk:∀gs w,ab FT W (k+5) te [.ref i,.ref j] J=some (.ref J.length,J++[.dict gs w])->cy n d (fun x y=>ca x y+cb x y) gs->Gl):Gl:=by
 have p0:cy n d (fun x y=>ca x y+only (([]:Es).map (·.1)) cb x y) es:=by
  have:(fun x y=>ca x y+only (([]:Es).map (·.1)) cb x y)=ca:=by funext x y;simp[only]
  rw[this];exact ha
 refine qQ (k:=k) (J:=J) (i:=i) hW hd hd' hn hb hj bb ba h1 h2 fs [] es 0 none rfl p0 fun gs w o hl p=>?_;refine kk gs w ?_ p;refine am (fn:=⟨2,4,tr⟩) rfl rfl (l:=[some (.ref i),some (.ref j),some (.ref J.length),o]) ?_;refine ag (l1:=[some (.ref i),some (.ref j),some (.ref J.length),none]) (J1:=J++[.dict es 0]) ?_ (ag (l1:=[some (.ref i),some (.ref j),some (.ref J.length),o]) (J1:=J++[.dict gs w]) ?_ ?_)
 ·exact aD (mW rfl hi (ha.len ba) (ha.hashes ba))
 ·have hj':=an (τ:=[.dict es 0]) hj;exact iF (bA rfl hj') hl
 ·rfl
end
theorem kO {es:Es} {k:List Int} {v:D} (h:k∉es.map (·.1)):bZ es k v=es++[(k,v)]:=by
 unfold bZ;rw[iI h];rfl
theorem j6 {bind:D->aB->Option aB} {test:aB->St->Option (Bool×St)} {key val:aB->St->Option (D×St)} {src:f9} {l:aB} {J:St} (φ:List Int×D->List Int) (ψ:List Int×D->D) (ht:∀l,test l J=some (true,J)) (hs:aI src J=true) :
  ∀(suf:Es) (acc:Es),(∀e∈suf,∃l',bind (ae e.1) l=some l'/\key l' J=some (ae (φ e),J)/\val l' J=some (ψ e,J))->((acc.map (·.1))++suf.map φ).Nodup->acc.length+suf.length<ay->
   bf bind test key val src l (suf.map fun e=>ae e.1) acc J=some (acc++suf.map (fun e=>(φ e,ψ e)),J):=by
 intro A0;induction A0 with
 |nil=>
  intro acc _ _ _
  exact congrArg (fun a=>some (a,J)) (List.append_nil acc).symm
 |cons e suf ih=>
  intro acc h nd hl;obtain⟨l',h1,h3,h4⟩:=h e List.mem_cons_self;have hnot:φ e∉acc.map (·.1):=by
   intro hm;rw[List.nodup_append] at nd;exact nd.2.2 _ hm _ List.mem_cons_self rfl
  simp only[List.length_cons] at hl;rw[List.map_cons,lX h1 (ht l') h3 h4 hs (by omega),kO hnot,ih (acc++[(φ e,ψ e)]) (fun e' he=>h e' (List.mem_cons_of_mem _ he)) ?_ (by simp only[List.length_append,List.length_cons,List.length_nil];omega)]
  ·simp
  ·simpa using nd
theorem vz {t b p q:Int} (hb:0<b) (h:aV t b=qD p q):aV (-t) b=qD (0-p) q:=by
 rw[fP hb] at h ⊢;rw[show Int.gcd (-t) b=Int.gcd t b by simp[Int.gcd]]
 have h1:t/(Int.gcd t b:Nat)=p:=by simpa using congrArg (fun d=>match d with|D.tup [.int p,.int _]=>p|_=>0) h
 have h2:b/(Int.gcd t b:Nat)=q:=by simpa using congrArg (fun d=>match d with|D.tup [.int _,.int q]=>q|_=>0) h
 rw[Int.neg_ediv_of_dvd (Int.gcd_dvd_left t b),h1,h2,Int.zero_sub]
theorem zQ (ψ:List Int×D->D) (es:Es) (k:List Int):aU (es.map fun e=>(e.1,ψ e)) k=(aU es k).map fun v=>ψ (k,v):=by
 induction es with
 |nil=>rfl
 |cons e es ih=>
  obtain⟨k',v⟩:=e;rw[List.map_cons,bU,bU,ih];by_cases h:k'=k
  ·subst h;simp
  ·simp[h]
theorem cy.mapv {n d n' d':Int} {c c':Int->Int->Int} {es:Es} (p:cy n d c es) (ψ:List Int×D->D) (h0:∀x y,c x y=0↔c' x y=0) (h:∀x y,c x y≠0->ψ ([x,y],aV (c x y*n) d)=aV (c' x y*n') d'):cy n' d' c' (es.map fun e=>(e.1,ψ e)) where
 nd:=by rw[List.map_map];exact p.nd
 get:=fun x y=>by
  rw[zQ,p.get];by_cases hc:c x y=0
  ·simp[hc,(h0 x y).mp hc]
  ·have hc':c' x y≠0:=fun q=>hc ((h0 x y).mpr q);simp[hc,hc',h x y hc]
 two:=fun e he=>by
  obtain⟨e',he',rfl⟩:=List.mem_map.mp he;exact p.two e' he'
theorem cy.keysKept {n d:Int} {c:Int->Int->Int} {es:Es} (p:cy n d c es):((([]:Es).map (·.1))++es.map (fun e=>e.1)).Nodup:=by
 exact(p).1
section
variable {W k:Nat} {J:St} {n d:Int}
noncomputable def yQ (e:List Int×D):D:=match e.2 with
 | .tup [.int p,.int q]=>qD (0-p) q
 |_=>.none
theorem qO {c:Int->Int->Int} {es:Es} {i w:Nat} (hd:0<d) (p:cy n d c es) (b:jK c) (hi:J[i]?=some (.dict es w))
  {Gl:Prop} (kk:∀gs,ab FT W (k+2) td [.ref i] J=some (.ref J.length,J++[.dict gs 0])->cy n d (fun x y=>- c x y) gs->Gl):Gl:=by
 refine kk (es.map fun e=>(e.1,yQ e)) ?_ (p.mapv yQ (fun x y=>by omega) fun x y hc=>?_)
 ·refine am (fn:=⟨1,2,tq⟩) rfl rfl (l:=[some (.ref i),none]) ?_;have hl:=p.len b;have:=j6 (bind:=aw [1] false) (test:=fun _ J=>some (true,J)) (key:=ev (ab FT W (k+1)) (.var 1)) (val:=ev (ab FT W (k+1)) (.call rC (.aa (.idx (.var 0) (.var 1)) .af)))
   (src:=some (i,w)) (l:=[some (.ref i),none]) (J:=J) (fun e=>e.1) yQ (fun _=>rfl) (aL hi) es [] (fun e he=>?_) p.keysKept (by simpa using hl)
  ·simp only[List.nil_append] at this;exact bk (lT (bA rfl hi) this)
  ·obtain⟨x,y,rfl,hc⟩:=p.entry he;obtain⟨a,q,e⟩:=li (c x y*n) d;have hidx:bo J (.ref i) (ae [x,y])=some (qD a q):=(bP hi (p.at hc) rfl).trans (congrArg some e);refine⟨[some (.ref i),some (ae [x,y])],by rfl,by rfl,?_⟩;have:=tC (W:=W) (n:=k) (J:=J) (a:=a) (b:=q);show _=some (yQ ([x,y],aV (c x y*n) d),J);rw[e];exact ah (b7 (ao rfl rfl hidx)) this
 ·obtain⟨a,q,e⟩:=li (c x y*n) d;have:=vz hd e;rw[Int.neg_mul,this];exact e▸rfl
end
section
variable {W k:Nat} {J:St} {n d:Int}
theorem qN {ca cb:Int->Int->Int} {es fs:Es} {i j wa wb:Nat} (hW:2^30<=W) (hd:0<d) (hd':d<2^15) (hn:n≠0) (ha:cy n d ca es) (hi:J[i]?=some (.dict es wa)) (hb:cy n d cb fs) (hj:J[j]?=some (.dict fs wb)) (ba:jK ca) (bb:jK cb)
  (h1:∀x y,(ca x y*n).natAbs<2^40) (h2:∀x y,(cb x y*n).natAbs<2^40)
  {Gl:Prop} (kk:∀τ gs w r,ab FT W (k+6) oj [.ref i,.ref j] J=some (.ref r,J++τ)->(J++τ)[r]?=some (.dict gs w)->J.length<=r->cy n d (fun x y=>ca x y-cb x y) gs->Gl):Gl:=by
 refine qO (W:=W) (k:=k+3) (J:=J) hd hb bb hj fun ns hneg pn=>?_
 have bn:jK (fun x y=>- cb x y):=fun x y h=>bb x y fun q=>h (by show-cb x y=0;exists L01,0x110065011005802,q)
 refine qR (k:=k) (J:=J++[.dict ns 0]) (j:=J.length) hW hd hd' hn ha (an hi) pn (ai _ _) ba bn h1 (fun x y=>by show(- cb x y*n).natAbs<2^40;rw[Int.neg_mul,Int.natAbs_neg];exact h2 x y) fun gs w hadd pa=>?_;refine kk [.dict ns 0,.dict gs w] gs w (J.length+1) ?_ ?_ (by exact Nat.le_succ _) ?_
 ·refine am (fn:=⟨2,2,to⟩) rfl rfl (l:=[some (.ref i),some (.ref j)]) ?_;exact(bk (ah (al rfl (ah (b7 rfl) hneg)) hadd)).trans (by rw[List.length_append,List.append_assoc];rfl)
 ·simp
 ·have:(fun x y=>ca x y-cb x y)=fun x y=>ca x y+- cb x y:=by funext x y;exact rfl
  rw[this];exact pa
end
section
variable {W k:Nat} {J:St}
theorem qz {x y a b:Int}:ab FT W (k+1) d5 [ae [x,y],ae [a,b]] J=some (ae [x+a,y+b],J):=by
 refine am (fn:=⟨2,4,fZ⟩) rfl rfl (l:=[some (ae [x,y]),some (ae [a,b]),none,none]) ?_;rfl
theorem qy {x y a b:Int}:ab FT W (k+1) dM [ae [x,y],ae [a,b]] J=some (ae [x-a,y-b],J):=by
 refine am (fn:=⟨2,4,fz⟩) rfl rfl (l:=[some (ae [x,y]),some (ae [a,b]),none,none]) ?_;rfl
theorem mH {x y a b:Int}:ab FT W (k+1) gA [ae [x,y],ae [a,b]] J=some (.bool (decide (x<=a/\y<=b)),J):=by
 have it:eA (ab FT W k) (.dc (.var 0)) [some (ae [x,y]),some (ae [a,b]),none,none] J=some ([.tup [.int 0,.int x],.tup [.int 1,.int y]],none,J):=rfl;by_cases h1:x>a
 ·refine am (fn:=⟨2,4,dt⟩) rfl rfl (l:=[some (ae [x,y]),some (ae [a,b]),some (.int 0),some (.int x)]) ?_;rw[decide_eq_false fun q:x<=a/\y<=b=>Int.not_le.mpr h1 q.1];exact fv (iF it (kS rfl (jq (J1:=J) (aq rfl (ao rfl rfl rfl) (ut h1)) rfl)))
 ·have f1:aP (ab FT W k) W (.ifs (.cmp .gt (.var 3) (.idx (.var 1) (.var 2))) (.ret (.lit (.bool false))) (.nil)) [some (ae [x,y]),some (ae [a,b]),some (.int 0),some (.int x)] J=some (.next,[some (ae [x,y]),some (ae [a,b]),some (.int 0),some (.int x)],J):=eL (aq rfl (ao rfl rfl rfl) (zB h1)) rfl;by_cases h2:y>b
  ·refine am (fn:=⟨2,4,dt⟩) rfl rfl (l:=[some (ae [x,y]),some (ae [a,b]),some (.int 1),some (.int y)]) ?_;rw[decide_eq_false fun q:x<=a/\y<=b=>Int.not_le.mpr h2 q.2]
   exact fv (iF it ((dL rfl f1 (fun _=>nofun) rfl).trans (kS rfl (jq (J1:=J) (aq rfl (ao rfl rfl rfl) (ut h2)) rfl))))
  ·refine am (fn:=⟨2,4,dt⟩) rfl rfl (l:=[some (ae [x,y]),some (ae [a,b]),some (.int 1),some (.int y)]) ?_;rw[decide_eq_true (And.intro (Int.not_lt.mp h1) (Int.not_lt.mp h2))]
   refine ag (iF it ((dL rfl f1 (fun _=>nofun) rfl).trans ((dL (fl:=.next) (l2:=[some (ae [x,y]),some (ae [a,b]),some (.int 1),some (.int y)]) (J2:=J) rfl (eL (J1:=J) (aq rfl (ao rfl rfl rfl) (zB h2)) rfl) (fun _=>nofun) rfl).trans rfl))) rfl
end
theorem kg {c:Int->Int->Int} {n d:Int} {es:Es} (p:cy n d c es) (a b:Int) (φ:List Int×D->List Int) (hφ:∀x y v,φ ([x,y],v)=[x+a,y+b]):((([]:Es).map (·.1))++es.map φ).Nodup:=by
 have he:es.map φ=(es.map (·.1)).map fun k=>List.zipWith (·+·) k [a,b]:=by
  rw[List.map_map];apply List.map_congr_left
  intro e he;obtain⟨x,y,hk⟩:=p.two e he;obtain⟨k,v⟩:=e;simp only at hk;subst hk;rw[hφ];rfl
 rw[he];simp only[List.map_nil,List.nil_append]
 refine jc _ p.nd fun k hk k' hk' e=>?_;obtain⟨e1,he1,rfl⟩:=List.mem_map.mp hk;obtain⟨e2,he2,rfl⟩:=List.mem_map.mp hk';obtain⟨x,y,h1⟩:=p.two e1 he1;obtain⟨x',y',h2⟩:=p.two e2 he2;rw[h1,h2] at e ⊢;change [x+a,y+b]=[x'+a,y'+b] at e
 simp only[List.cons.injEq,and_true] at e ⊢;exists L06,0x503052000564050240302510202100025680c,e
section
variable {W k:Nat} {J:St}
noncomputable abbrev cK (c:Int->Int->Int) (es:Es):Prop:=cy 1 1 c es
theorem cK.val {c:Int->Int->Int} {es:Es} (p:cK c es) (x y:Int):aU es [x,y]=if c x y=0 then none else some (qD (c x y) 1):=by
 rw[p.get,Int.mul_one,aF]
noncomputable def CD (a b v:Int) (e:List Int×D):D:=match e.2 with
 | .tup [.int p,.int _]=>qD (p*v) 1
 |_=>.none
noncomputable def z9 (a b:Int) (e:List Int×D):List Int:=List.zipWith (·+·) e.1 [a,b]
theorem xw {c:Int->Int->Int} {es:Es} (p:cK c es) (a b v x y:Int):aU (es.map fun e=>(z9 a b e,CD a b v e)) [x,y]=(aU es [x-a,y-b]).map fun u=>CD a b v ([],u):=by
 obtain⟨nd,hget,two⟩:=p;clear nd hget;induction es with
 |nil=>rfl
 |cons e es ih=>
  obtain⟨x',y',hk⟩:=two e List.mem_cons_self;obtain⟨k',u⟩:=e;simp only at hk;subst hk;rw[List.map_cons,bU,bU,ih fun e0 he0=>two e0 (List.mem_cons_of_mem _ he0)];by_cases h:x'=x-a/\y'=y-b
  ·have:x'+a=x/\y'+b=y:=by exists L06,0x405030251020002565040530520105005680c,h
   rw[if_pos (show z9 a b ([x',y'],u)=[x,y] by rw[<-this.1,<-this.2];rfl),if_pos (show [x',y']=[x-a,y-b] by rw[h.1,h.2])];rfl
  ·have:¬(x'+a=x/\y'+b=y):=by exists L06,0x9405030251020002568950405305201050056880c,h
   rw[if_neg (show ¬z9 a b ([x',y'],u)=[x,y] from fun q=>this ⟨congrArg (·.headD 0) q,congrArg (·.tail.headD 0) q⟩),if_neg (show ¬[x',y']=[x-a,y-b] from fun q=>h ⟨congrArg (·.headD 0) q,congrArg (·.tail.headD 0) q⟩)]
end
section
variable {W k:Nat} {J:St}
theorem cK.shift {c:Int->Int->Int} {es:Es} (p:cK c es) (a b v:Int) (hv:v≠0):cK (fun x y=>c (x-a) (y-b)*v) (es.map fun e=>(z9 a b e,CD a b v e)) where
 nd:=by
  have:=kg p a b (z9 a b) (fun x y v=>rfl);rw[List.map_map];exact(show(es.map (z9 a b)).Nodup by trivial)
 get:=fun x y=>by
  rw[xw p,cK.val p,Int.mul_one,aF];by_cases h:c (x-a) (y-b)=0
  ·rw[if_pos h,if_pos (by rw[h,Int.zero_mul])];rfl
  ·have:c (x-a) (y-b)*v≠0:=Int.mul_ne_zero h hv;rw[if_neg h,if_neg this];rfl
 two:=fun e he=>by
  obtain⟨e',he',rfl⟩:=List.mem_map.mp he;obtain⟨x,y,h⟩:=p.two e' he';exact⟨x+a,y+b,show List.zipWith (·+·) e'.1 [a,b]=_ by rw[h];rfl⟩
end
section
variable {W k:Nat} {J:St}
theorem nM {c:Int->Int->Int} {es:Es} {i w:Nat} {a b v:Int} (hW:2^30<=W) (p:cK c es) (bx:jK c) (hi:J[i]?=some (.dict es w)) (hv:v≠0) (hs:v.natAbs<2^40)
  {Gl:Prop} (kk:∀gs,ab FT W (k+4) jY [.ref i,ae [a,b],qD v 1] J=some (.ref J.length,J++[.dict gs 0])->cK (fun x y=>c (x-a) (y-b)*v) gs->Gl):Gl:=by
 refine kk _ ?_ (p.shift a b v hv);have h0:(v==0)=false:=by exact decide_eq_false hv
 refine am (fn:=⟨3,4,nt⟩) rfl rfl (l:=[some (.ref i),some (ae [a,b]),some (qD v 1),none]) (ag (l1:=[some (.ref i),some (ae [a,b]),some (qD v 1),none]) (J1:=J) ?_ ?_)
 ·exact eL (aq (x:=qD v 1) (y:=qD 0 1) rfl rfl (ju.trans (by rw[h0];rfl))) rfl
 ·have hl:=p.len bx;have:=j6 (bind:=aw [3] false) (test:=fun _ J=>some (true,J)) (key:=ev (ab FT W (k+3)) (.call d5 (.aa (.var 3) (.aa (.var 1) .af)))) (val:=ev (ab FT W (k+3)) (.call eY (.aa (.idx (.var 0) (.var 3)) (.aa (.var 2) .af))))
   (src:=some (i,w)) (l:=[some (.ref i),some (ae [a,b]),some (qD v 1),none]) (J:=J) (z9 a b) (CD a b v) (fun _=>rfl) (aL hi) es [] (fun e he=>?_) (kg p a b (z9 a b) fun _ _ _=>rfl) (by simpa using hl)
  ·simp only[List.nil_append] at this;exact bk (lT (bA rfl hi) this)
  ·obtain⟨x,y,rfl,hc⟩:=p.entry he;rw[Int.mul_one,aF] at *;have hidx:bo J (.ref i) (ae [x,y])=some (qD (c x y) 1):=(bP (hi) (p.at hc) rfl).trans (by rw[Int.mul_one,aF]);have h1:=qz (W:=W) (k:=k+2) (J:=J) (x:=x) (y:=y) (a:=a) (b:=b);have h2:=gT (W:=W) (n:=k) (J:=J) (a:=c x y) (b:=1) (c:=v) (d:=1) (.inr (by omega)) (.inl (by decide)) (by decide) (by decide) (by simp;exact Nat.lt_of_le_of_lt (Nat.le_add_left _ _) hW);refine⟨[some (.ref i),some (ae [a,b]),some (qD v 1),some (ae [x,y])],by rfl,?_,?_⟩
   ·exact h1
   ·rw[show(1:Int)*1=1 from rfl,aF] at h2;exact ah (al (ao rfl rfl hidx) rfl) h2
end
section
variable {W k:Nat} {J:St} {n d:Int}
noncomputable abbrev b9:D:=.str (Str.ofString "lex")
theorem pt {x:D}:ab FT W (k+1) gO [b9,x] J=some (x,J):=by
 refine am (fn:=⟨2,3,kD⟩) rfl rfl (l:=[some b9,some x,none]) (fv ?_);rfl
end
noncomputable def bh (x' y' x y:Int):Prop:=x'<x\/(x'=x/\y'<=y)
theorem s6 (x' y' x y:Int):eX [x',y'] [x,y]=true↔¬bh x' y' x y:=by
 have e:eX [x',y'] [x,y]=if x'=x then if y'=y then false else decide (y'>y) else decide (x'>x):=rfl
 rw[e];unfold bh;by_cases h:x'=x
 ·rw[if_pos h];by_cases h2:y'=y
  ·rw[if_pos h2];exact⟨nofun,fun q=>(q (.inr ⟨h,Int.le_of_eq h2⟩)).elim⟩
  ·rw[if_neg h2,decide_eq_true_eq];omega
 ·rw[if_neg h,decide_eq_true_eq];omega
section
variable {W k:Nat} {J:St} {n d:Int}
noncomputable abbrev lE:XS:=.seq (.asg 5 (.call gO (.aa (.var 1) (.aa (.var 4) .af))))
  (.ifs (.or (.isn (.var 2)) (.cmp .gt (.var 5) (.var 3))) (.eM [2,3] (.tup (.aa (.var 4) (.aa (.var 5) .af)))) (.nil))
theorem t6 {i:Nat} {x y x' y':Int} {o o':Option D} :
  aP (ab FT W (k+1)) W lE [some (.ref i),some b9,some (ae [x,y]),some (ae [x,y]),some (ae [x',y']),o] J
   = some (.next,[some (.ref i),some b9,some (ae (if eX [x',y'] [x,y] then [x',y'] else [x,y])),some (ae (if eX [x',y'] [x,y] then [x',y'] else [x,y])),some (ae [x',y']),some (ae [x',y'])],J):=by
 refine ag (l1:=[some (.ref i),some b9,some (ae [x,y]),some (ae [x,y]),some (ae [x',y']),some (ae [x',y'])]) (J1:=J) ?_ ?_
 ·have:=pt (W:=W) (k:=k) (J:=J) (x:=ae [x',y']);rfl
 ·cases h:eX [x',y'] [x,y] with
  |true=>exact jq (dq rfl (aq rfl rfl (congrArg some h))) (dO (aS (al rfl rfl) fm) rfl)
  |false=>exact eL (dq rfl (aq rfl rfl (congrArg some h))) rfl
theorem qX {i:Nat} {x' y':Int} {o:Option D} :
  aP (ab FT W (k+1)) W lE [some (.ref i),some b9,some .none,some .none,some (ae [x',y']),o] J
   = some (.next,[some (.ref i),some b9,some (ae [x',y']),some (ae [x',y']),some (ae [x',y']),some (ae [x',y'])],J):=by
 refine ag (l1:=[some (.ref i),some b9,some .none,some .none,some (ae [x',y']),some (ae [x',y'])]) (J1:=J) ?_ ?_
 ·have:=pt (W:=W) (k:=k) (J:=J) (x:=ae [x',y']);rfl
 ·rfl
end
theorem bY {C:Nat->List D->St->Option (D×St)} {W:Nat} {ts:List Nat} {many:Bool} {it:X} {b:XS} {l:aB} {J J1:St} {ds:List D} {src:f9} (h:eA C it l J=some (ds,src,J1)) :
  aP C W (.for_ ts many it b) l J=a9 (aw ts many) (aP C W b) src ds l J1:=by
 exact iF h rfl
theorem iz (x y:Int):bh x y x y:=.inr ⟨rfl,Int.le_refl _⟩
theorem ki {a b c d e f:Int} (h:bh a b c d) (h':bh c d e f):bh a b e f:=by unfold bh at *;exists L06,0x502044000564000375030440105640103783020410005610003780c,h,h'
theorem pk (a b c d:Int):bh a b c d\/bh c d a b:=by unfold bh;exists L04,0x2030400105600103730204100056100037708
theorem lD {a b c d:Int} (h:bh a b c d) (h':bh c d a b):a=c/\b=d:=by unfold bh at *;exists L04,0x3020510005620304001056001037830204100056100037808,h,h'
section
variable {W k:Nat} {J:St} {n d:Int}
theorem t7 {i w:Nat} {es:Es} (hi:J[i]?=some (.dict es w)):∀(suf:Es) (x y:Int) (o o':Option D),(∀e∈suf,∃x' y',e.1=[x',y'])->
   ∀{Gl:Prop},(∀x1 y1 o1 o2,a9 (aw [4] false) (aP (ab FT W (k+1)) W lE) (some (i,w)) (suf.map fun e=>ae e.1) [some (.ref i),some b9,some (ae [x,y]),some (ae [x,y]),o,o'] J
    = some (.next,[some (.ref i),some b9,some (ae [x1,y1]),some (ae [x1,y1]),o1,o2],J)->((x1=x/\y1=y)\/[x1,y1]∈suf.map (·.1))->bh x y x1 y1->(∀x' y',[x',y']∈suf.map (·.1)->bh x' y' x1 y1)->Gl)->Gl:=by
 intro A0;induction A0 with
 |nil=>
  intro x y o o' _ _ kk
  exact kk x y o o' rfl (.inl ⟨rfl,rfl⟩) (iz _ _) (fun _ _ h=>by cases h)
 |cons e suf ih=>
  intro x y o o' h _ kk;obtain⟨x',y',hk⟩:=h e List.mem_cons_self;obtain⟨k',v⟩:=e;simp only at hk;subst hk;have ht:=t6 (W:=W) (k:=k) (J:=J) (i:=i) (x:=x) (y:=y) (x':=x') (y':=y') (o:=o') (o':=none);by_cases hg:eX [x',y'] [x,y]=true
  ·have hg':=(s6 _ _ _ _).mp hg;rw[if_pos hg] at ht
   refine ih x' y' (some (ae [x',y'])) (some (ae [x',y'])) (fun e he=>h e (List.mem_cons_of_mem _ he)) fun x1 y1 o1 o2 hl h1 h2 h3=>?_;refine kk x1 y1 o1 o2 ?_ ?_ ?_ ?_
   ·rw[List.map_cons,dL (l1:=[some (.ref i),some b9,some (ae [x,y]),some (ae [x,y]),some (ae [x',y']),o']) (by rfl) ht (by simp) (by first|exact aL (hi)|exact bN (hi)),hl]
   ·rcases h1 with⟨rfl,rfl⟩|h1
    ·exact .inr (by exact List.mem_cons_self)
    ·exact .inr (by simp only[List.map_cons];exact List.mem_cons_of_mem _ h1)
   ·exact ki ((pk x y x' y').resolve_right hg') h2
   ·intro a b hab;simp only[List.map_cons,List.mem_cons,List.cons.injEq,and_true] at hab;rcases hab with⟨rfl,rfl⟩|hab
    ·exact h2
    ·exact h3 a b hab
  ·have hg':bh x' y' x y:=Classical.byContradiction fun q=>hg ((s6 _ _ _ _).mpr q);rw[if_neg hg] at ht
   refine ih x y (some (ae [x',y'])) (some (ae [x',y'])) (fun e he=>h e (List.mem_cons_of_mem _ he)) fun x1 y1 o1 o2 hl h1 h2 h3=>?_;refine kk x1 y1 o1 o2 ?_ ?_ h2 ?_
   ·rw[List.map_cons,dL (l1:=[some (.ref i),some b9,some (ae [x,y]),some (ae [x,y]),some (ae [x',y']),o']) (by rfl) ht (by simp) (by first|exact aL (hi)|exact bN (hi)),hl]
   ·rcases h1 with h1|h1
    ·exact .inl h1
    ·exact .inr (by simp only[List.map_cons];exact List.mem_cons_of_mem _ h1)
   ·intro a b hab;simp only[List.map_cons,List.mem_cons,List.cons.injEq,and_true] at hab;rcases hab with⟨rfl,rfl⟩|hab
    ·exact ki hg' h2
    ·exact h3 a b hab
theorem kh {i w:Nat} {c:Int->Int->Int} {es:Es} (p:cy n d c es) (hi:J[i]?=some (.dict es w)) (hne:es≠[])
  {Gl:Prop} (kk:∀x y,ab FT W (k+2) ek [.ref i,b9] J=some (.tup [ae [x,y],aV (c x y*n) d],J)->c x y≠0->(∀x' y',c x' y'≠0->bh x' y' x y)->Gl):Gl:=by
 obtain⟨e,r,rfl⟩:=List.exists_cons_of_ne_nil hne;obtain⟨x',y',rfl,hc'⟩:=p.entry List.mem_cons_self
 refine t7 (W:=W) (k:=k) hi r x' y' (some (ae [x',y'])) (some (ae [x',y'])) (fun e he=>p.two e (List.mem_cons_of_mem _ he)) fun x y o1 o2 hl h1 h2 h3=>?_;have hm:[x,y]∈(([x',y'],aV (c x' y'*n) d)::r).map (·.1):=by
  rcases h1 with⟨rfl,rfl⟩|h1
  ·exact List.mem_cons_self
  ·simp only[List.map_cons];exact List.mem_cons_of_mem _ h1
 have hc:c x y≠0:=by
  obtain⟨e,he,hk⟩:=List.mem_map.mp hm;obtain⟨a,b,rfl,hz⟩:=p.entry he;simp only[List.cons.injEq,and_true] at hk;rw[<-hk.1,<-hk.2];exact hz
 refine kk x y ?_ hc (fun a b hab=>?_)
 ·refine am (fn:=⟨2,6,qa⟩) rfl rfl (l:=[some (.ref i),some b9,some (ae [x,y]),some (ae [x,y]),o1,o2]) (ag (l1:=[some (.ref i),some b9,some .none,some .none,none,none]) (J1:=J) ?_ (ag (l1:=[some (.ref i),some b9,some (ae [x,y]),some (ae [x,y]),o1,o2]) (J1:=J) ?_ ?_))
  ·rfl
  ·have hf:=qX (W:=W) (k:=k) (J:=J) (i:=i) (x':=x') (y':=y') (o:=none);rw[bY (ds:=(([x',y'],aV (c x' y'*n) d)::r).map fun e=>ae e.1) (src:=some (i,w)) (J1:=J) (by exact bA rfl hi),List.map_cons,dL (l1:=[some (.ref i),some b9,some .none,some .none,some (ae [x',y']),none]) (by rfl) hf (by simp) (by first|exact aL (hi)|exact bN (hi))];exact hl
  ·have hidx:bo J (.ref i) (ae [x,y])=some (aV (c x y*n) d):=by
    exact bP hi (p.at hc) rfl
   exact bk (fU rfl (aS (al rfl (ao rfl rfl hidx)) fm))
 ·have hg:=p.get a b;rw[if_neg hab] at hg;have:=lW hg;rcases List.mem_cons.mp this with q|q
  ·cases q;exact h2
  ·exact h3 a b (List.mem_map.mpr ⟨_,q,rfl⟩)
end
noncomputable def aN (J J':St):Prop:=∃τ,J'=J++τ
theorem aN.refl (J:St):aN J J:=⟨[],by exact(List.append_nil _).symm⟩
theorem aN.app (J τ:St):aN J (J++τ):=⟨τ,rfl⟩
theorem aN.trans {a b c:St} (h:aN a b) (h':aN b c):aN a c:=by
 obtain⟨t,rfl⟩:=h;obtain⟨u,rfl⟩:=h';exact⟨t++u,by exact List.append_assoc _ _ _⟩
theorem aN.get {a b:St} (h:aN a b) {i:Nat} {o:AO} (e:a[i]?=some o):b[i]?=some o:=by
 obtain⟨t,rfl⟩:=h;exact an e
theorem aN.app_r {a b:St} (h:aN a b) (t:St):aN a (b++t):=h.trans (aN.app _ _)
noncomputable def ar (n d:Int) (c:Int->Int->Int) (r:Nat) (J:St):Prop:=∃es w,J[r]?=some (.dict es w)/\cy n d c es
theorem ar.ext {n d:Int} {c:Int->Int->Int} {r:Nat} {a b:St} (h:ar n d c r a) (e:aN a b):ar n d c r b:=by
 obtain⟨es,w,h1,h2⟩:=h;exact⟨es,w,e.get h1,h2⟩
noncomputable abbrev Cf:=Int->Int->Int
structure aZ where
 e:Int
 a:Int
 b:Int
 deriving DecidableEq
noncomputable def T (p:aZ) (c:Cf):Cf:=fun x y=>c (x-1) (y-p.e)+p.a*c x (y-1)+p.b*c x y
noncomputable def cw:Cf:=fun x y=>if x=0/\y=0 then 1 else 0
theorem BD (p q:aZ) (c:Cf):T p (T q c)=T q (T p c):=by
 funext x y
 unfold T;rw[show y-p.e-q.e=y-q.e-p.e by (exists L03,0x1020005520100055506),show y-p.e-1=y-1-p.e by (exists L02,0x101110055111100055504),show y-q.e-1=y-1-q.e by exists L02,0x101110055111100055504];grind
noncomputable def bt (ps:List aZ):Cf:=ps.foldr T cw
theorem gg {ps qs:List aZ} (h:ps.Perm qs):bt ps=bt qs:=by
 induction h with
 |nil=>rfl
 |cons p _ ih=>show T p _=T p _;exact congrArg _ ih
 |swap p q l=>show T q (T p _)=T p (T q _);exact BD _ _ _
 |trans _ _ h1 h2=>exact h1.trans h2
structure aZ.Ok (p:aZ):Prop where
 e:(p.e=0\/p.e=1)
 ea:p.e=1->p.a=0
 eb:p.e=1->p.b≠0
 a : -1<=p.a/\p.a<=2
 b : -2<=p.b/\p.b<=3
noncomputable def cv (k:Nat) (c:Cf):Prop:=∀x y,c x y≠0->0<=x/\x<=k/\0<=y/\y<=k
noncomputable def oH (k:Nat) (c:Cf):Prop:=∀x y,(c x y).natAbs<=6^k
noncomputable def gD (X Y:Int) (c:Cf):Prop:=c X Y=1/\∀x y,c x y≠0->bh x y X Y
theorem bM:cv 0 cw:=fun x y h=>by
 unfold cw at h;split at h
 ·omega
 ·exact absurd rfl h
theorem gu:oH 0 cw:=fun x y=>by
 unfold cw;split<;>simp
theorem ee:gD 0 0 cw:=⟨rfl,fun x y h=>by
 unfold cw at h;split at h
 ·rename_i q;rw[q.1,q.2];exact iz _ _
 ·exact absurd rfl h⟩
theorem BC {p:aZ} {c:Cf} {x y:Int} (h:T p c x y≠0):c (x-1) (y-p.e)≠0\/(p.a≠0/\c x (y-1)≠0)\/c x y≠0:=by
 unfold T at h
 refine Classical.byContradiction fun q=>h ?_
 simp only[not_or,not_and,Classical.not_not] at q;obtain⟨h1,h2,h3⟩:=q;rw[h1,h3];by_cases ha:p.a=0
 ·simp[ha]
 ·simp[h2 ha]
theorem cv.T {k:Nat} {c:Cf} {p:aZ} (h:cv k c) (o:p.Ok):cv (k+1) (T p c):=fun x y hn=>by
 have he:=o.e;rcases BC hn with q|q|q
 ·have:=h _ _ q;exists L13,0x111002720420011461110027104610011460070020540020501146007111105461111050114681110050110057816,he,this
 ·have:=h _ _ q.2;exists L12,0x1110027104100114611100270046000114600711110541111050114600700460001146814,this
 ·have:=h _ _ q;exists L12,0x11100271041001146111002700460001146007104100114600700460001146814,this
theorem oH.T {k:Nat} {c:Cf} {p:aZ} (h:oH k c) (o:p.Ok):oH (k+1) (T p c):=fun x y=>by
 have h1:=h (x-1) (y-p.e);have h2:=h x (y-1);have h3:=h x y;unfold Mine.T;have ha:(p.a*c x (y-1)).natAbs<=2*6^k:=by
  rw[Int.natAbs_mul];exact Nat.mul_le_mul (by have:=o.a;exists L11,0x2110010060075011003600007500011467821100400111646812,this,(fa (p.a))) h2
 have hb:(p.b*c x y).natAbs<=3*6^k:=by
  rw[Int.natAbs_mul];exact Nat.mul_le_mul (by have:=o.b;exists L11,0x3110010060075011003600007500011467831100400211646812,this,(fa (p.b))) h3
 refine Nat.le_trans (Nat.le_trans (Int.natAbs_add_le _ _) (Nat.add_le_add_right (Int.natAbs_add_le _ _) _)) (Nat.le_trans (Nat.add_le_add (Nat.add_le_add h1 ha) hb) (Nat.le_of_eq ?_));rw[Nat.pow_succ];generalize 6^k=z;omega
theorem gD.T {X Y:Int} {c:Cf} {p:aZ} (h:gD X Y c) (o:p.Ok):gD (X+1) (Y+p.e) (T p c):=by
 have he:=o.e
 have hz:∀x y,¬bh x y X Y->c x y=0:=fun x y q=>Classical.byContradiction fun z=>q (h.2 x y z);refine⟨?_,fun x y hn=>?_⟩
 ·unfold Mine.T;rw[show X+1-1=X by exact Int.add_sub_cancel _ _,show Y+p.e-p.e=Y by exact Int.add_sub_cancel _ _,h.1,hz (X+1) (Y+p.e-1) (by unfold bh;exists L03,0x910111201025400111002560011100237806),hz (X+1) (Y+p.e) (by unfold bh;exists L03,0x91020102400111002560011100237806)];simp
 ·rcases BC hn with q|q|q
  ·have:=h.2 _ _ q;unfold bh at *;exists L05,0x3040220411110200561111020037403020541011100556101110053780a,this
  ·have:=h.2 _ _ q.2;unfold bh at *;exists L05,0x403022041111020056111102003730111205410005610003780a,this
  ·have:=h.2 _ _ q;unfold bh at *;exists L05,0x40302204111102005611110200373020410005610003780a,this
theorem cO:∀{ps:List aZ},(∀p∈ps,p.Ok)->cv ps.length (bt ps)
 | [],_=>bM
 |p::ps,h=>(cO (ps:=ps) fun q hq=>h q (List.mem_cons_of_mem _ hq)).T (h p List.mem_cons_self)
theorem fS:∀{ps:List aZ},(∀p∈ps,p.Ok)->oH ps.length (bt ps)
 | [],_=>gu
 |p::ps,h=>(fS (ps:=ps) fun q hq=>h q (List.mem_cons_of_mem _ hq)).T (h p List.mem_cons_self)
theorem fR:∀{ps:List aZ},(∀p∈ps,p.Ok)->∃X Y,gD X Y (bt ps)
 | [],_=>⟨0,0,ee⟩
 |p::ps,h=>by
  obtain⟨X,Y,l⟩:=fR (ps:=ps) fun q hq=>h q (List.mem_cons_of_mem _ hq);exact⟨_,_,l.T (h p List.mem_cons_self)⟩
theorem cv.box {k:Nat} {c:Cf} (h:cv k c) (hk:k<=8):jK c:=fun x y q=>by have:=h x y q;exists L12,0x9111031001146911003600011460071041001146007004600011468811001814,hk,this
theorem oH.lt {k:Nat} {c:Cf} (h:oH k c) (hk:k<=8) (x y:Int):(c x y).natAbs<=1679616:=by
 have:=h x y;have:6^k<=6^8:=Nat.pow_le_pow_right (by exact Nat.succ_pos _) hk;omega
structure cL (enc:Int->D) (c:Cf) (es:Es):Prop where
 nd:(es.map (·.1)).Nodup
 get:∀x y,aU es [x,y]=some (enc (c x y))\/(aU es [x,y]=none/\c x y=0)
 inb:∀e∈es,∃x y,e.1=[x,y]/\0<=x/\x<9/\0<=y/\y<9
noncomputable def nx (c:Cf) (x y v:Int):Cf:=fun x' y'=>c x' y'+if x'=x/\y'=y then v else 0
theorem cL.add {enc:Int->D} {c:Cf} {es:Es} (p:cL enc c es) {x y v:Int} (hb:0<=x/\x<9/\0<=y/\y<9):cL enc (nx c x y v) (bZ es [x,y] (enc (c x y+v))) where
 nd:=vR p.nd _ _
 get:=fun x' y'=>by
  rw[xx];simp only[List.cons.injEq,and_true,nx];by_cases h:x'=x/\y'=y
  ·rw[if_pos h,if_pos h,h.1,h.2];exact .inl rfl
  ·rw[if_neg h,if_neg h,Int.add_zero];exact p.get x' y'
 inb:=fun e he=>by
  rcases nP he with he|he
  ·exact p.inb e he
  ·exact⟨x,y,he,hb⟩
theorem cL.nil {enc:Int->D}:cL enc (fun _ _=>0) [] where
 nd:=List.nodup_nil
 get:=fun x y=>.inr ⟨rfl,rfl⟩
 inb:=fun e he=>by cases he
theorem cL.keys {enc:Int->D} {c:Cf} {es:Es} (p:cL enc c es):∀k∈es.map (·.1),k∈uN:=fun k hk=>by
 obtain⟨e,he,rfl⟩:=List.mem_map.mp hk;obtain⟨x,y,h,hc⟩:=p.inb e he;rw[h];exact sV hc
theorem cL.len {enc:Int->D} {c:Cf} {es:Es} (p:cL enc c es):es.length<ay:=by
 have:=jS _ _ p.nd p.keys;rw[tn,List.length_map] at this;have:ay=1048576:=rfl;omega
theorem cL.getD {enc:Int->D} {c:Cf} {es:Es} (p:cL enc c es) (x y:Int):(aU es [x,y]).getD (enc 0)=enc (c x y):=by
 rcases p.get x y with h | ⟨h,hz⟩
 ·rw[h];rfl
 ·rw[h,hz];rfl
noncomputable def kx (k:List Int):Int:=k.headD 0
noncomputable def ky (k:List Int):Int:=k.tail.headD 0
noncomputable def Aa (x y v:Int) (cb:Cf) (fs:Es) (c:Cf):Cf:=fs.foldl (fun c e=>nx c (x+kx e.1) (y+ky e.1) (v*cb (kx e.1) (ky e.1))) c
noncomputable def BQ (ca cb:Cf) (fs:Es) (es:Es) (c:Cf):Cf:=es.foldl (fun c e=>Aa (kx e.1) (ky e.1) (ca (kx e.1) (ky e.1)) cb fs c) c
noncomputable def dU (ca:Cf) (es:Es) (cb:Cf):Cf:=fun x y=>(es.map fun e=>ca (kx e.1) (ky e.1)*cb (x-kx e.1) (y-ky e.1)).sum
theorem yI {x y v:Int} {cb:Cf}:∀(fs:Es) (c:Cf),(fs.map (·.1)).Nodup->(∀e∈fs,∃x y,e.1=[x,y])->∀X Y,
  Aa x y v cb fs c X Y=c X Y+if [X-x,Y-y]∈fs.map (·.1) then v*cb (X-x) (Y-y) else 0:=by
 intro A0;induction A0 with
 |nil=>
  intro c _ _ X Y;simp[Aa]
 |cons e fs ih=>
  intro c nd two X Y;obtain⟨x',y',h⟩:=two e List.mem_cons_self;simp only[List.map_cons,List.nodup_cons] at nd
  have ih:=ih (nx c (x+kx e.1) (y+ky e.1) (v*cb (kx e.1) (ky e.1))) nd.2 (fun e he=>two e (List.mem_cons_of_mem _ he)) X Y;show Aa x y v cb fs _ X Y=_;rw[ih];have hk:kx e.1=x'/\ky e.1=y':=by rw[h];exact⟨rfl,rfl⟩
  rw[hk.1,hk.2];simp only[List.map_cons,List.mem_cons,h,List.cons.injEq,and_true];by_cases hq:X-x=x'/\Y-y=y'
  ·have hn:[X-x,Y-y]∉fs.map (·.1):=by rw[hq.1,hq.2,<-h];exact nd.1
   rw[if_neg hn,if_pos (.inl hq),hq.1,hq.2];unfold nx;rw[if_pos (by exists L06,0x504023052010200565040305520100055680c,hq)];exact Int.add_zero _
  ·unfold nx;rw[if_neg (show ¬(X=x+x'/\Y=y+y') by exists L06,0x9504023052010200568950403055201000556880c,hq)];simp only[hq,false_or,Int.add_zero]
theorem cy.supp {n d:Int} {c:Cf} {es:Es} (p:cy n d c es) {x y:Int} (h:[x,y]∉es.map (·.1)):c x y=0:=by
 have hg:=p.get x y;rw[iI h] at hg;split at hg
 ·assumption
 ·cases hg
theorem AR {x y v n d:Int} {cb:Cf} {fs:Es} (p:cy n d cb fs) (c:Cf):Aa x y v cb fs c=fun X Y=>c X Y+v*cb (X-x) (Y-y):=by
 funext X Y
 rw[yI fs c p.nd p.two];split
 ·rfl
 ·rename_i h;rw[p.supp h];simp
theorem vc {n d:Int} {ca cb:Cf} {fs:Es} (p:cy n d cb fs):∀(es:Es) (c:Cf),BQ ca cb fs es c=fun X Y=>c X Y+dU ca es cb X Y:=by
 intro A0;induction A0 with
 |nil=>
  intro c;funext X Y;simp[BQ,dU]
 |cons e es ih=>
  intro c;have ih:=ih (Aa (kx e.1) (ky e.1) (ca (kx e.1) (ky e.1)) cb fs c);show BQ ca cb fs es _=_;rw[ih,AR p];funext X Y
  simp only[dU,List.map_cons,List.sum_cons];exact Int.add_assoc _ _ _
theorem rR (ca:Cf) (p:aZ) (cb:Cf):∀es:Es,dU ca es (T p cb)=T p (dU ca es cb):=by
 intro A0;induction A0 with
 |nil=>
  funext x y;simp[dU,T]
 |cons e es ih=>
  funext x y
  have ih:=congrFun (congrFun (ih) x) y;simp only[dU,List.map_cons,List.sum_cons,T] at ih ⊢;rw[ih,show x-1-kx e.1=x-kx e.1-1 by (exists L02,0x111100055101110055504),show y-p.e-ky e.1=y-ky e.1-p.e by (exists L03,0x1020005520100055506),show y-1-ky e.1=y-ky e.1-1 by exists L02,0x111100055101110055504];grind
theorem jB (ca:Cf):∀es:Es,(es.map (·.1)).Nodup->(∀e∈es,∃x y,e.1=[x,y])->∀X Y,dU ca es cw X Y=if [X,Y]∈es.map (·.1) then ca X Y else 0:=by
 intro A0;induction A0 with
 |nil=>
  intro _ _ X Y;rfl
 |cons e es ih=>
  intro nd two X Y;obtain⟨x',y',h⟩:=two e List.mem_cons_self;simp only[List.map_cons,List.nodup_cons] at nd
  have ih:=ih nd.2 (fun e he=>two e (List.mem_cons_of_mem _ he)) X Y;have hk:kx e.1=x'/\ky e.1=y':=by rw[h];exact⟨rfl,rfl⟩
  simp only[dU,List.map_cons,List.sum_cons] at ih ⊢;rw[ih,hk.1,hk.2];simp only[List.mem_cons,h,List.cons.injEq,and_true];by_cases hq:X=x'/\Y=y'
  ·have hn:[X,Y]∉es.map (·.1):=by rw[hq.1,hq.2,<-h];exact nd.1
   rw[if_neg hn,if_pos (.inl hq),hq.1,hq.2];simp[cw]
  ·simp only[hq,false_or,cw];rw[if_neg (show ¬(X-x'=0/\Y-y'=0) by exists L04,0x9011302055011100055689302051000568808,hq)];simp
theorem lZ {n d:Int} {ca:Cf} {es:Es} (p:cy n d ca es):dU ca es cw=ca:=by
 funext X Y
 rw[jB ca es p.nd p.two];split
 ·rfl
 ·rename_i h;rw[p.supp h]
theorem rQ {n d:Int} {ca:Cf} {es:Es} (p:cy n d ca es):∀ps:List aZ,dU ca es (bt ps)=ps.foldr T ca:=by
 intro A0;induction A0 with
 |nil=>
  exact lZ p
 |cons q ps ih=>
  show dU ca es (T q (bt ps))=T q _;rw[rR,ih]
theorem nj {n d:Int} {qs:List aZ} {es:Es} (p:cy n d (bt qs) es) (ps:List aZ):dU (bt qs) es (bt ps)=bt (ps++qs):=by
 rw[rQ p];unfold bt;rw[List.foldr_append]
theorem uK (ca:Cf):∀es:Es,dU ca es (fun _ _=>0)=fun _ _=>0:=by
 intro A0;induction A0 with
 |nil=>
  exact rfl
 |cons e es ih=>
  funext x y
  have ih:=congrFun (congrFun (ih) x) y;simp only[dU,List.map_cons,List.sum_cons] at ih ⊢;rw[ih];simp
theorem uG (f:List Int->Bool) (ψ:List Int×D->D) (es:Es) (k:List Int):aU ((es.filter fun e=>f e.1).map fun e=>(e.1,ψ e)) k=if f k then (aU es k).map (fun v=>ψ (k,v)) else none:=by
 induction es with
 |nil=>simp[iK]
 |cons e es ih=>
  obtain⟨k0,v0⟩:=e;rw[List.filter_cons];by_cases h:f k0=true
  ·rw[if_pos h,List.map_cons,bU,ih,bU];by_cases h':k0=k
   ·subst h';simp[h]
   ·simp[h']
  ·rw[if_neg h,ih,bU];by_cases h':k0=k
   ·subst h';simp[h]
   ·simp[h']
theorem cL.filter {enc:Int->D} {c:Cf} {es:Es} {n d:Int} (p:cL enc c es) (ψ:List Int×D->D) (hψ:∀x y,c x y≠0->ψ ([x,y],enc (c x y))=aV (c x y*n) d) :
  cy n d c ((es.filter fun e=>decide (c (kx e.1) (ky e.1)≠0)).map fun e=>(e.1,ψ e)) where
 nd:=by
  rw[List.map_map];exact List.Nodup.sublist (List.Sublist.map _ List.filter_sublist) p.nd
 get:=fun x y=>by
  rw[uG (fun k=>decide (c (kx k) (ky k)≠0)) ψ];show(if decide (c x y≠0)=true then _ else _)=_;by_cases h:c x y=0
  ·simp[h]
  ·rcases p.get x y with q|q
   ·simp[h,q,hψ]
   ·exact absurd q.2 h
 two:=fun e he=>by
  obtain⟨e',he',rfl⟩:=List.mem_map.mp he;obtain⟨x,y,hx,_⟩:=p.inb e' (List.mem_filter.mp he').1;exact⟨x,y,hx⟩
theorem fQ (t:Int) {b:Int} (hb:0<b):∃p q,aV t b=qD p q/\0<q/\q<=b/\p.natAbs<=t.natAbs/\p*b=t*q:=by
 by_cases ht:t=0
 ·subst ht;exact⟨0,1,jN hb,by exact Int.le_refl _,by exact hb,by exact Nat.zero_le _,by exists L01,0x1100013502⟩
 ·obtain⟨p,q,h1,_,h3,h4,h5,h6⟩:=eG hb ht;exact⟨p,q,h1,h3,h4,h5,h6⟩
theorem mK {a b m:Int} (ha:0<a) (hb:0<b) (h1:a<=m) (h2:b<=m) (hm:m<2^15):(a*b).natAbs<2^30:=by
 rw[Int.natAbs_mul];have:a.natAbs*b.natAbs<=2^15*b.natAbs:=Nat.mul_le_mul_right _ (by exists L12,0x800041001006007501100360000750001146788000411038100048000113814,ha,h1,hm,(fa (a)));have:2^15*b.natAbs<2^15*2^15:=Nat.mul_lt_mul_of_pos_left (by omega) (by exact Nat.succ_pos _);omega
section
variable {W k:Nat} {J:St}
theorem tD {n d n' d' u v:Int} (hW:2^30<=W) (hd:0<d) (hd':0<d') (hm:d*d'<2^15) (bv:(v*n').natAbs<2^63) :
  ab FT W (k+3) eY [aV (u*n) d,aV (v*n') d'] J=some (aV (u*v*(n*n')) (d*d'),J):=by
 obtain⟨p1,q1,e1,o1,l1,s1,x1⟩:=fQ (u*n) hd;obtain⟨p2,q2,e2,o2,l2,s2,x2⟩:=fQ (v*n') hd';have hq:0<q1*q2:=Int.mul_pos o1 o2;have hle:q1*q2<=d*d':=Int.mul_le_mul l1 l2 (by exact Int.le_of_lt o2) (by exact Int.le_of_lt hd);rw[e1,e2,gT (.inr (by omega)) (.inl ?_) (by exact Int.ne_of_gt hq) (by omega) (by exists L22,0x10010610750111036101075100114678001048100113880004100380040000000811824,hW,hm,hq,hle,(fa (q1*q2)))]
 ·congr 2
  refine i8 hq (Int.mul_pos hd hd') ?_;have:p1*p2*(d*d')=(p1*d)*(p2*d'):=by grind
  rw[this,x1,x2];grind
 ·have:q1*1<=q1*q2:=Int.mul_le_mul_of_nonneg_left (by exact o2) (by exact Int.le_of_lt o1);omega
noncomputable abbrev lV (m q:Int):Int->D:=fun v=>aV (v*m) q
noncomputable abbrev lm:XS:=.seq (.asg 5 (.tup (.aa (.bin .add (.idx (.var 3) (.lit (.int 0))) (.idx (.var 4) (.lit (.int 0)))) (.aa (.bin .add (.idx (.var 3) (.lit (.int 1))) (.idx (.var 4) (.lit (.int 1)))) .af))))
  (.seq (.asg 6 (.call eY (.aa (.idx (.var 0) (.var 3)) (.aa (.idx (.var 1) (.var 4)) .af))))
  (.seq (.asg 7 (.get2 (.var 2) (.var 5) (.lit (.tup [.int 0,.int 1]))))
  (.set (.var 2) (.var 5) (.call gz (.aa (.bin .add (.bin .mul (.idx (.var 7) (.lit (.int 0))) (.idx (.var 6) (.lit (.int 1)))) (.bin .mul (.idx (.var 6) (.lit (.int 0))) (.idx (.var 7) (.lit (.int 1))))) (.aa (.bin .mul (.idx (.var 7) (.lit (.int 1))) (.idx (.var 6) (.lit (.int 1)))) .af))))))
theorem tL {i j wa wb w:Nat} {n d n' d' x y x' y':Int} {ca cb c:Cf} {es fs gs:Es} {o5 o6 o7 o8:Option D} (hW:2^30<=W) (hd:0<d) (hd':0<d') (hm:d*d'<2^15)
  (pa:cy n d ca es) (hi:J[i]?=some (.dict es wa)) (pb:cy n' d' cb fs) (hj:J[j]?=some (.dict fs wb)) (bv:(cb x' y'*n').natAbs<2^63)
  (h1:ca x y≠0) (h2:cb x' y'≠0) (p:cL (lV (n*n') (d*d')) c gs) :
  aP (ab FT W (k+3)) W lm [some (.ref i),some (.ref j),some (.ref J.length),some (ae [x,y]),some (ae [x',y']),o5,o6,o7,o8] (J++[.dict gs w])
   = some (.next,[some (.ref i),some (.ref j),some (.ref J.length),some (ae [x,y]),some (ae [x',y']),some (ae [x+x',y+y']),some (lV (n*n') (d*d') (ca x y*cb x' y')),some (lV (n*n') (d*d') (c (x+x') (y+y'))),o8],
     J++[.dict (bZ gs [x+x',y+y'] (lV (n*n') (d*d') (c (x+x') (y+y')+ca x y*cb x' y'))) (w+1)]):=by
 have hD:0<d*d':=Int.mul_pos hd hd';have hr:=tD (W:=W) (k:=k) (J:=J++[.dict gs w]) (u:=ca x y) (v:=cb x' y') (n:=n) (n':=n') hW hd hd' hm bv;have hg:=p.getD (x+x') (y+y');have hl:=p.len;rw[show lV (n*n') (d*d') 0 = .tup [.int 0,.int 1] by show aV (0*(n*n')) (d*d')=_;rw[Int.zero_mul,jN hD]] at hg;obtain⟨p1,q1,e1,o1,l1,s1,x1⟩:=fQ (c (x+x') (y+y')*(n*n')) hD;obtain⟨p2,q2,e2,o2,l2,s2,x2⟩:=fQ (ca x y*cb x' y'*(n*n')) hD;have hq:=mK o1 o2 l1 l2 hm;have hqq:0<q1*q2:=Int.mul_pos o1 o2;have hrat:=d9 (W:=W) (n:=k+1) (J:=J++[.dict gs w]) (t:=p1*q2+p2*q1) (b:=q1*q2) (by exact Int.ne_of_gt hqq) hq (by omega);have hsum:=oU hD o1 o2 x1 x2;rw[hsum] at hrat;replace hrat:ab FT W (k+3) gz [D.int (p1*q2+p2*q1),D.int (q1*q2)] (J++[AO.dict gs w])=_:=hrat;have ia:bo (J++[.dict gs w]) (.ref i) (ae [x,y])=some (aV (ca x y*n) d):=bP (an hi) (pa.at h1) rfl;have ib:bo (J++[.dict gs w]) (.ref j) (ae [x',y'])=some (aV (cb x' y'*n') d'):=bP (an hj) (pb.at h2) rfl;have m1:qf p1 q2:=.inr (by omega);have m2:qf p2 q1:=.inr (by omega);have m3:qf q1 q2:=.inr (by omega);have hdc:eh (J++[.dict gs w]) J.length=true:=by exact jk (ai _ _)
 refine ag (l1:=[some (.ref i),some (.ref j),some (.ref J.length),some (ae [x,y]),some (ae [x',y']),some (ae [x+x',y+y']),o6,o7,o8]) (J1:=J++[.dict gs w]) ?_
  (ag (l1:=[some (.ref i),some (.ref j),some (.ref J.length),some (ae [x,y]),some (ae [x',y']),some (ae [x+x',y+y']),some (aV (ca x y*cb x' y'*(n*n')) (d*d')),o7,o8]) (J1:=J++[.dict gs w]) ?_
  (ag (l1:=[some (.ref i),some (.ref j),some (.ref J.length),some (ae [x,y]),some (ae [x',y']),some (ae [x+x',y+y']),some (aV (ca x y*cb x' y'*(n*n')) (d*d')),some (aV (c (x+x') (y+y')*(n*n')) (d*d')),o8]) (J1:=J++[.dict gs w]) ?_ ?_))
 ·rfl
 ·exact aD (ah (al (ao rfl rfl ia) (ao rfl rfl ib)) hr)
 ·exact aD ((tf (ks:=[x+x',y+y']) rfl rfl rfl hdc (ai _ _) rfl).trans (by rw[hg]))
 ·simp only[lV,e1,e2];exact iE (ah (al (aA (aA (ao rfl rfl rfl) (ao rfl rfl rfl) (cu m1)) (aA (ao rfl rfl rfl) (ao rfl rfl rfl) (cu m2)) rfl) (aA (ao rfl rfl rfl) (ao rfl rfl rfl) (cu m3))) hrat) rfl rfl ((fO (ks:=[x+x',y+y']) (ai _ _) rfl hl).trans (congrArg some (dk _ _ _)))
end
theorem l0 (xs ys:List D) (J:St):cP .ne (.tup xs) (.tup ys) J=(cP .eq (.tup xs) (.tup ys) J).map (!·):=rfl
theorem aT {bind:D->aB->Option aB} {body:aB->St->Option (Fl×aB×St)} {src:f9} {d:D} {ds:List D} {l l1 l2:aB} {J J2:St} (h1:bind d l=some l1) (h2:body l1 J=some (.next,l2,J2)) (hs:aI src J2=true) :
  a9 bind body src (d::ds) l J=a9 bind body src ds l2 J2:=dL h1 h2 (by simp) hs
theorem oz {bind:D->aB->Option aB} {test:aB->St->Option (Bool×St)} {key val:aB->St->Option (D×St)} {src:f9} {l:aB} {J:St} (keep:List Int×D->Bool) (ψ:List Int×D->D) (hs:aI src J=true) :
  ∀(suf:Es) (acc:Es),(∀e∈suf,∃l',bind (ae e.1) l=some l'/\test l' J=some (keep e,J)/\(keep e=true->key l' J=some (ae e.1,J)/\val l' J=some (ψ e,J)))->((acc.map (·.1))++suf.map (·.1)).Nodup->acc.length+suf.length<ay->
   bf bind test key val src l (suf.map fun e=>ae e.1) acc J=some (acc++(suf.filter keep).map (fun e=>(e.1,ψ e)),J):=by
 intro A0;induction A0 with
 |nil=>
  intro acc _ _ _
  exact congrArg (fun a=>some (a,J)) (List.append_nil acc).symm
 |cons e suf ih=>
  intro acc h nd hl;obtain⟨l',h1,ht,hkv⟩:=h e List.mem_cons_self;have hnot:e.1∉acc.map (·.1):=by
   intro hm;rw[List.nodup_append] at nd;exact nd.2.2 _ hm _ List.mem_cons_self rfl
  simp only[List.length_cons] at hl
  cases hk:keep e with
  |true=>
   obtain⟨h3,h4⟩:=hkv hk;rw[hk] at ht;rw[List.map_cons,lX h1 ht h3 h4 hs (by omega),kO hnot,ih (acc++[(e.1,ψ e)]) (fun e' he=>h e' (List.mem_cons_of_mem _ he)) ?_ (by simp only[List.length_append,List.length_cons,List.length_nil];omega)]
   ·rw[List.filter_cons,if_pos hk];simp
   ·simpa using nd
  |false=>
   rw[hk] at ht;rw[List.map_cons,rO h1 ht hs];rw[ih acc (fun e' he=>h e' (List.mem_cons_of_mem _ he)) ?_ (by exact Nat.le_of_lt hl),List.filter_cons,hk]
   ·rfl
   ·rw[List.nodup_append] at nd ⊢;exact⟨nd.1,(List.nodup_cons.mp nd.2.1).2,fun a ha b hb=>nd.2.2 a ha b (List.mem_cons_of_mem _ hb)⟩
section
variable {W k:Nat} {J:St}
theorem qx {i j wa wb:Nat} {n d n' d' x y:Int} {ca cb:Cf} {es fs:Es} {o8:Option D} {ka kb:Nat} (hW:2^30<=W) (hd:0<d) (hd':0<d') (hm:d*d'<2^15)
  (pa:cy n d ca es) (hi:J[i]?=some (.dict es wa)) (pb:cy n' d' cb fs) (hj:J[j]?=some (.dict fs wb)) (bv:∀x' y',(cb x' y'*n').natAbs<2^63)
  (h1:ca x y≠0) (sa:cv ka ca) (sb:cv kb cb) (hk:ka+kb<=8) :
  ∀(suf:Es) (c:Cf) (gs:Es) (w:Nat) (o4 o5 o6 o7:Option D),(∀e∈suf,e∈fs)->cL (lV (n*n') (d*d')) c gs->
   ∀{Gl:Prop},(∀gs' w' q4 q5 q6 q7,a9 (aw [4] false) (aP (ab FT W (k+3)) W lm) (some (j,wb)) (suf.map fun e=>ae e.1)
     [some (.ref i),some (.ref j),some (.ref J.length),some (ae [x,y]),o4,o5,o6,o7,o8] (J++[.dict gs w])
    = some (.next,[some (.ref i),some (.ref j),some (.ref J.length),some (ae [x,y]),q4,q5,q6,q7,o8],J++[.dict gs' w'])->cL (lV (n*n') (d*d')) (Aa x y (ca x y) cb suf c) gs'->Gl)->Gl:=by
 intro A0;induction A0 with
 |nil=>
  intro c gs w o4 o5 o6 o7 _ p _ kk;exact kk gs w o4 o5 o6 o7 rfl p
 |cons e suf ih=>
  intro c gs w o4 o5 o6 o7 hf p _ kk;obtain⟨x',y',rfl,hc⟩:=pb.entry (hf e List.mem_cons_self);have ht:=tL (k:=k) (w:=w) (o5:=o5) (o6:=o6) (o7:=o7) (o8:=o8) hW hd hd' hm pa hi pb hj (bv x' y') h1 hc p;have b1:=sa x y h1;have b2:=sb x' y' hc;have p':=p.add (x:=x+x') (y:=y+y') (v:=ca x y*cb x' y') (by exists L24,0x91130102330102011469112000236200020114610730430011461072046200114680071041001146007004600011468811100021828,hk,b1,b2);refine' ih _ _ (w+1) _ _ _ _ (fun e he=>hf e (List.mem_cons_of_mem _ he)) p' fun gs' w' q4 q5 q6 q7 hl pl=>?main
  case' main=>skip
  refine kk gs' w' q4 q5 q6 q7 ?_ pl;rw[List.map_cons,dL (l1:=[some (.ref i),some (.ref j),some (.ref J.length),some (ae [x,y]),some (ae [x',y']),o5,o6,o7,o8]) (by rfl) ht (by simp) (by first|exact aL (an hj)|exact bN (an hj))];exact hl
theorem qv {i j wa wb:Nat} {n d n' d':Int} {ca cb:Cf} {es fs:Es} {o8:Option D} {ka kb:Nat} (hW:2^30<=W) (hd:0<d) (hd':0<d') (hm:d*d'<2^15)
  (pa:cy n d ca es) (hi:J[i]?=some (.dict es wa)) (pb:cy n' d' cb fs) (hj:J[j]?=some (.dict fs wb)) (bv:∀x' y',(cb x' y'*n').natAbs<2^63)
  (sa:cv ka ca) (sb:cv kb cb) (hk:ka+kb<=8) :
  ∀(suf:Es) (c:Cf) (gs:Es) (w:Nat) (o3 o4 o5 o6 o7:Option D),(∀e∈suf,e∈es)->cL (lV (n*n') (d*d')) c gs->
   ∀{Gl:Prop},(∀gs' w' q3 q4 q5 q6 q7,a9 (aw [3] false) (aP (ab FT W (k+3)) W (.for_ [4] false (.ix (.var 1)) lm)) (some (i,wa)) (suf.map fun e=>ae e.1)
     [some (.ref i),some (.ref j),some (.ref J.length),o3,o4,o5,o6,o7,o8] (J++[.dict gs w])
    = some (.next,[some (.ref i),some (.ref j),some (.ref J.length),q3,q4,q5,q6,q7,o8],J++[.dict gs' w'])->cL (lV (n*n') (d*d')) (BQ ca cb fs suf c) gs'->Gl)->Gl:=by
 intro A0;induction A0 with
 |nil=>
  intro c gs w o3 o4 o5 o6 o7 _ p _ kk;exact kk gs w o3 o4 o5 o6 o7 rfl p
 |cons e suf ih=>
  intro c gs w o3 o4 o5 o6 o7 hf p _ kk;obtain⟨x,y,rfl,hc⟩:=pa.entry (hf e List.mem_cons_self)
  refine qx (k:=k) (o8:=o8) hW hd hd' hm pa hi pb hj bv hc sa sb hk fs c gs w o4 o5 o6 o7 (fun e he=>he) p fun gs1 w1 q4 q5 q6 q7 hl1 p1=>?_;refine' ih _ _ w1 (some (ae [x,y])) q4 q5 q6 q7 (fun e he=>hf e (List.mem_cons_of_mem _ he)) p1 fun gs' w' q3' q4' q5' q6' q7' hl pl=>?main
  case' main=>skip
  refine kk gs' w' q3' q4' q5' q6' q7' ?_ pl;rw[List.map_cons];refine(aT (l1:=[some (.ref i),some (.ref j),some (.ref J.length),some (ae [x,y]),o4,o5,o6,o7,o8]) (l2:=[some (.ref i),some (.ref j),some (.ref J.length),some (ae [x,y]),q4,q5,q6,q7,o8]) (J2:=J++[.dict gs1 w1]) (by rfl) ?_ ?_).trans hl
  ·rw[bY (ds:=fs.map fun e=>ae e.1) (src:=some (j,wb)) (J1:=J++[.dict gs w]) (by exact bA rfl (an hj))];exact hl1
  ·exact aL (an hi)
theorem dI {i j:Nat} {n d n' d':Int} {ca cb:Cf} {es fs:Es} {wa wb:Nat} {ka kb:Nat} (hW:2^30<=W) (hn:n≠0) (hn':n'≠0) (hd:0<d) (hd':0<d') (hm:d*d'<2^15)
  (pa:cy n d ca es) (hi:J[i]?=some (.dict es wa)) (pb:cy n' d' cb fs) (hj:J[j]?=some (.dict fs wb)) (bv:∀x' y',(cb x' y'*n').natAbs<2^63)
  (sa:cv ka ca) (sb:cv kb cb) (hk:ka+kb<=8)
  {Gl:Prop} (kk:∀r J',ab FT W (k+4) ax [.ref i,.ref j] J=some (.ref r,J')->aN J J'->J.length<=r->ar (n*n') (d*d') (dU ca es cb) r J'->Gl):Gl:=by
 have hD:0<d*d':=Int.mul_pos hd hd';have hN:n*n'≠0:=Int.mul_ne_zero hn hn'
 refine qv (k:=k) (o8:=none) hW hd hd' hm pa hi pb hj bv sa sb hk es _ [] 0 none none none none none (fun e he=>he) cL.nil fun gs w q3 q4 q5 q6 q7 hl p=>?_;rw[vc pb] at p;simp only[Int.zero_add] at p;have hsrc:(J++[AO.dict gs w])[J.length]?=some (.dict gs w):=ai _ _
 have pf:=p.filter (n:=n*n') (d:=d*d') (fun e=>e.2) (fun x y _=>rfl);refine kk (J.length+1) (J++[.dict gs w]++[.dict _ 0]) ?_ ((aN.app _ _).app_r _) (by exact Nat.le_succ _) ⟨_,0,by rw[show J.length+1=(J++[AO.dict gs w]).length by simp];exact ai _ _,pf⟩;refine am (fn:=⟨2,9,fh⟩) rfl rfl (l:=[some (.ref i),some (.ref j),some (.ref J.length),q3,q4,q5,q6,q7,none])
  (ag (l1:=[some (.ref i),some (.ref j),some (.ref J.length),none,none,none,none,none,none]) (J1:=J++[.dict [] 0]) ?_ (ag (l1:=[some (.ref i),some (.ref j),some (.ref J.length),q3,q4,q5,q6,q7,none]) (J1:=J++[.dict gs w]) ?_ ?_))
 ·rfl
 ·rw[bY (ds:=es.map fun e=>ae e.1) (src:=some (i,wa)) (J1:=J++[.dict [] 0]) (by exact bA rfl (an hi))];exact hl
 ·have:=oz (bind:=aw [8] false) (test:=iV (ab FT W (k+3)) (.cmp .ne (.idx (.var 2) (.var 8)) (.lit (.tup [.int 0,.int 1])))) (key:=ev (ab FT W (k+3)) (.var 8)) (val:=ev (ab FT W (k+3)) (.idx (.var 2) (.var 8)))
   (src:=some (J.length,w)) (l:=[some (.ref i),some (.ref j),some (.ref J.length),q3,q4,q5,q6,q7,none]) (J:=J++[.dict gs w]) (fun e=>decide (dU ca es cb (kx e.1) (ky e.1)≠0)) (fun e=>e.2) (aL (ai _ _)) gs [] (fun e he=>?_) (by exact(p).1) (by simpa using p.len)
  ·simp only[List.nil_append] at this
   have hit:eA (ab FT W (k+3)) (.ix (.var 2)) [some (.ref i),some (.ref j),some (.ref J.length),q3,q4,q5,q6,q7,none] (J++[.dict gs w])=some (gs.map fun e=>ae e.1,some (J.length,w),J++[.dict gs w]):=by
    exact bA rfl hsrc
   have hev:ev (ab FT W (k+3)) (.ff (.var 8) (.idx (.var 2) (.var 8)) [8] false (.ix (.var 2)) (some (.cmp .ne (.idx (.var 2) (.var 8)) (.lit (.tup [.int 0,.int 1]))))) [some (.ref i),some (.ref j),some (.ref J.length),q3,q4,q5,q6,q7,none] (J++[.dict gs w])
     = some (.ref (J.length+1),J++[.dict gs w]++[.dict ((gs.filter fun e=>decide (dU ca es cb (kx e.1) (ky e.1)≠0)).map fun e=>(e.1,e.2)) 0]):=by
    exact(rF hit this).trans (by rw[List.length_append];rfl)
   exact bk hev
  ·obtain⟨x,y,h,hb⟩:=p.inb e he;obtain⟨k0,v⟩:=e;simp only at h;subst h;have hg:=eO p.nd he;have hidx:bo (J++[AO.dict gs w]) (.ref J.length) (ae [x,y])=some v:=by
    exact bP hsrc hg rfl
   refine⟨[some (.ref i),some (.ref j),some (.ref J.length),q3,q4,q5,q6,q7,some (ae [x,y])],by rfl,?_,fun _=>⟨by rfl,?_⟩⟩
   ·have hv:v=lV (n*n') (d*d') (dU ca es cb x y):=by
     rcases p.get x y with q|q
     ·rw[q] at hg;simpa using hg.symm
     ·rw[q.1] at hg;cases hg
    have h0:=lk (J:=J++[.dict gs w]) (v:=dU ca es cb x y) hD hN;have hne:cP .ne v (.tup [.int 0,.int 1]) (J++[.dict gs w])=some (decide (dU ca es cb x y≠0)):=by
     rw[hv];refine(l0 _ _ _).trans ?_;refine(congrArg (Option.map (!·)) h0).trans ?_;simp
    exact d6 (aq (ao rfl rfl hidx) rfl hne)
   ·exact ao rfl rfl hidx
end
noncomputable abbrev jw:Int->D:=fun v=>.int v
noncomputable def me (j:Nat) (es:Es):Prop:=∀e∈es,∃x y,e.1=[x,y]/\0<=x/\x<=j/\0<=y/\y<=j
theorem me.put {j:Nat} {es:Es} (h:me j es) {x y:Int} {v:D} (hb:0<=x/\x<=j/\0<=y/\y<=j):me j (bZ es [x,y] v):=fun e he=>by
 rcases nP he with he|he
 ·exact h e he
 ·exact⟨x,y,he,hb⟩
theorem cL.supp {enc:Int->D} {c:Cf} {es:Es} (p:cL enc c es) {x y:Int} (h:[x,y]∉es.map (·.1)):c x y=0:=by
 rcases p.get x y with q|q
 ·exact absurd (List.mem_map_of_mem (lW q)) h
 ·exact q.2
theorem cL.two {enc:Int->D} {c:Cf} {es:Es} (p:cL enc c es):∀e∈es,∃x y,e.1=[x,y]:=fun e he=>by
 obtain⟨x,y,h,_⟩:=p.inb e he;exact⟨x,y,h⟩
theorem cL.val {enc:Int->D} {c:Cf} {es:Es} (p:cL enc c es) {x y:Int} {v:D} (he:([x,y],v)∈es):v=enc (c x y):=by
 have hg:=eO p.nd he;rcases p.get x y with q|q
 ·rw[q] at hg;simpa using hg.symm
 ·rw[q.1] at hg;cases hg
theorem uL {enc:Int->D} {ca:Cf} {es:Es} (p:cL enc ca es):dU ca es cw=ca:=by
 funext X Y
 rw[jB ca es p.nd p.two];split
 ·rfl
 ·rename_i h;rw[p.supp h]
section
variable {W k:Nat} {J:St}
noncomputable abbrev nS:XS:=.seq (.asg 6 (.tup (.aa (.bin .add (.idx (.var 4) (.lit (.int 0))) (.idx (.var 5) (.lit (.int 0)))) (.aa (.bin .add (.idx (.var 4) (.lit (.int 1))) (.idx (.var 5) (.lit (.int 1)))) .af))))
  (.set (.var 3) (.var 6) (.bin .add (.get2 (.var 3) (.var 6) (.lit (.int 0))) (.bin .mul (.idx (.var 1) (.var 4)) (.idx (.idx (.var 2) (.var 5)) (.lit (.int 0))))))
theorem yX {i j wa wb w:Nat} {x y x' y':Int} {ca cb c:Cf} {es fs gs:Es} {o0 o6 o7:Option D}
  (pa:cL jw ca es) (hi:J[i]?=some (.dict es wa)) (pb:cK cb fs) (hj:J[j]?=some (.dict fs wb)) (bv:(cb x' y').natAbs<2^63)
  (h1:[x,y]∈es.map (·.1)) (h2:cb x' y'≠0) (p:cL jw c gs) :
  aP (ab FT W k) W nS [o0,some (.ref i),some (.ref j),some (.ref J.length),some (ae [x,y]),some (ae [x',y']),o6,o7] (J++[.dict gs w])
   = some (.next,[o0,some (.ref i),some (.ref j),some (.ref J.length),some (ae [x,y]),some (ae [x',y']),some (ae [x+x',y+y']),o7],
     J++[.dict (bZ gs [x+x',y+y'] (.int (c (x+x') (y+y')+ca x y*cb x' y'))) (w+1)]):=by
 have hg:=p.getD (x+x') (y+y');have hl:gs.length<1048576:=p.len;have ia:bo (J++[.dict gs w]) (.ref i) (ae [x,y])=some (.int (ca x y)):=by
  obtain⟨e,he,hk⟩:=List.mem_map.mp h1;obtain⟨k0,v⟩:=e;simp only at hk;subst hk;have:=eO pa.nd he;rw[pa.val he] at this;exact bP (an hi) this rfl
 have ib:bo (J++[.dict gs w]) (.ref j) (ae [x',y'])=some (qD (cb x' y') 1):=(bP (an hj) (pb.at h2) rfl).trans (by rw[Int.mul_one,aF]);have m1:qf (ca x y) (cb x' y'):=.inr bv;have hdc:eh (J++[.dict gs w]) J.length=true:=by exact jk (ai _ _)
 refine ag (l1:=[o0,some (.ref i),some (.ref j),some (.ref J.length),some (ae [x,y]),some (ae [x',y']),some (ae [x+x',y+y']),o7]) (J1:=J++[.dict gs w]) ?_ ?_
 ·rfl
 ·have i0:bo (J++[.dict gs w]) (qD (cb x' y') 1) (.int 0)=some (.int (cb x' y')):=by rfl
  exact iE (aA ((tf (ks:=[x+x',y+y']) rfl rfl rfl hdc (ai _ _) rfl).trans (congrArg (fun d=>some (d,J++[.dict gs w])) hg)) (aA (ao rfl rfl ia) (ao (ao rfl rfl ib) rfl i0) (cu m1)) rfl) rfl rfl ((fO (ks:=[x+x',y+y']) (ai _ _) rfl hl).trans (congrArg some (dk _ _ _)))
theorem we {i j wa wb:Nat} {x y:Int} {ca cb:Cf} {es fs:Es} {o0 o7:Option D} {ka:Nat}
  (pa:cL jw ca es) (hi:J[i]?=some (.dict es wa)) (pb:cK cb fs) (hj:J[j]?=some (.dict fs wb)) (bv:∀x' y',(cb x' y').natAbs<2^63)
  (h1:[x,y]∈es.map (·.1)) (sa:0<=x/\x<=ka/\0<=y/\y<=ka) (sb:cv 1 cb) (hk:ka+1<=8) :
  ∀(suf:Es) (c:Cf) (gs:Es) (w:Nat) (o5 o6:Option D),(∀e∈suf,e∈fs)->cL jw c gs->me (ka+1) gs->
   ∀{Gl:Prop},(∀gs' w' q5 q6,a9 (aw [5] false) (aP (ab FT W k) W nS) (some (j,wb)) (suf.map fun e=>ae e.1)
     [o0,some (.ref i),some (.ref j),some (.ref J.length),some (ae [x,y]),o5,o6,o7] (J++[.dict gs w])
    = some (.next,[o0,some (.ref i),some (.ref j),some (.ref J.length),some (ae [x,y]),q5,q6,o7],J++[.dict gs' w'])->cL jw (Aa x y (ca x y) cb suf c) gs'->me (ka+1) gs'->Gl)->Gl:=by
 intro A0;induction A0 with
 |nil=>
  intro c gs w o5 o6 _ p kb _ kk;exact kk gs w o5 o6 rfl p kb
 |cons e suf ih=>
  intro c gs w o5 o6 hf p kb _ kk;obtain⟨x',y',rfl,hc⟩:=pb.entry (hf e List.mem_cons_self);have ht:=yX (W:=W) (k:=k) (w:=w) (o0:=o0) (o6:=o6) (o7:=o7) pa hi pb hj (bv x' y') h1 hc p;have b2:=sb x' y' hc;have p':=p.add (x:=x+x') (y:=y+y') (v:=ca x y*cb x' y') (by exists L14,0x91130102330102011469112000236200020114611173043001146111720462001146881111100218007104100114600700460001146818,sa,hk,b2);have kb':=kb.put (x:=x+x') (y:=y+y') (v:=jw (c (x+x') (y+y')+ca x y*cb x' y')) (by exists L14,0x11100273010243010201146111002720002462000201146111730430011461117204620011468007104100114600700460001146818,sa,b2)
  refine ih _ _ (w+1) (some (ae [x',y'])) (some (ae [x+x',y+y'])) (fun e he=>hf e (List.mem_cons_of_mem _ he)) p' kb' fun gs' w' q5 q6 hl pl kl=>?_;refine kk gs' w' q5 q6 ?_ pl kl;rw[List.map_cons];exact(aT (by rfl) ht (by first|exact aL (an hj)|exact bN (an hj))).trans hl
theorem wd {i j wa wb:Nat} {ca cb:Cf} {es fs:Es} {o0 o7:Option D} {ka:Nat}
  (pa:cL jw ca es) (hi:J[i]?=some (.dict es wa)) (pb:cK cb fs) (hj:J[j]?=some (.dict fs wb)) (bv:∀x' y',(cb x' y').natAbs<2^63)
  (sa:me ka es) (sb:cv 1 cb) (hk:ka+1<=8) :
  ∀(suf:Es) (c:Cf) (gs:Es) (w:Nat) (o4 o5 o6:Option D),(∀e∈suf,e∈es)->cL jw c gs->me (ka+1) gs->
   ∀{Gl:Prop},(∀gs' w' q4 q5 q6,a9 (aw [4] false) (aP (ab FT W k) W (.for_ [5] false (.ix (.var 2)) nS)) (some (i,wa)) (suf.map fun e=>ae e.1)
     [o0,some (.ref i),some (.ref j),some (.ref J.length),o4,o5,o6,o7] (J++[.dict gs w])
    = some (.next,[o0,some (.ref i),some (.ref j),some (.ref J.length),q4,q5,q6,o7],J++[.dict gs' w'])->cL jw (BQ ca cb fs suf c) gs'->me (ka+1) gs'->Gl)->Gl:=by
 intro A0;induction A0 with
 |nil=>
  intro c gs w o4 o5 o6 _ p kb _ kk;exact kk gs w o4 o5 o6 rfl p kb
 |cons e suf ih=>
  intro c gs w o4 o5 o6 hf p kb _ kk;have he:=hf e List.mem_cons_self;obtain⟨x,y,h,hb⟩:=sa e he;obtain⟨k0,v⟩:=e;simp only at h;subst h
  refine we (W:=W) (k:=k) (o0:=o0) (o7:=o7) pa hi pb hj bv (List.mem_map_of_mem he) hb sb hk fs c gs w o5 o6 (fun e he=>he) p kb fun gs1 w1 q5 q6 hl1 p1 k1=>?_;refine' ih _ _ w1 (some (ae [x,y])) q5 q6 (fun e he=>hf e (List.mem_cons_of_mem _ he)) p1 k1 fun gs' w' q4' q5' q6' hl pl kl=>?main
  case' main=>skip
  refine kk gs' w' q4' q5' q6' ?_ pl kl;rw[List.map_cons];refine(aT (l1:=[o0,some (.ref i),some (.ref j),some (.ref J.length),some (ae [x,y]),o5,o6,o7]) (l2:=[o0,some (.ref i),some (.ref j),some (.ref J.length),some (ae [x,y]),q5,q6,o7]) (J2:=J++[.dict gs1 w1]) (by rfl) ?_ ?_).trans hl
  ·rw[bY (ds:=fs.map fun e=>ae e.1) (src:=some (j,wb)) (J1:=J++[.dict gs w]) (by exact bA rfl (an hj))];exact hl1
  ·exact aL (an hi)
noncomputable abbrev wk:XS:=.seq (.asg 3 (.dict .af)) (.seq (.for_ [4] false (.ix (.var 1)) (.for_ [5] false (.ix (.var 2)) nS)) (.asg 1 (.var 3)))
noncomputable def iu (L:List (Nat×aZ)) (J:St):Prop:=∀q∈L,ar 1 1 (T q.2 cw) q.1 J/\q.2.Ok
theorem iu.ext {L:List (Nat×aZ)} {a b:St} (h:iu L a) (e:aN a b):iu L b:=fun q hq=>⟨(h q hq).1.ext e,(h q hq).2⟩
theorem yY {i wa:Nat} {q:Nat×aZ} {ca:Cf} {es:Es} {o0 o3 o4 o5 o6 o7:Option D} {ka:Nat} (pa:cL jw ca es) (hi:J[i]?=some (.dict es wa)) (hq:ar 1 1 (T q.2 cw) q.1 J) (ok:q.2.Ok) (sa:me ka es) (hk:ka+1<=8)
  {Gl:Prop} (kk:∀gs w q4 q5 q6,aP (ab FT W k) W wk [o0,some (.ref i),some (.ref q.1),o3,o4,o5,o6,o7] J=some (.next,[o0,some (.ref J.length),some (.ref q.1),some (.ref J.length),q4,q5,q6,o7],J++[.dict gs w])->cL jw (T q.2 ca) gs->me (ka+1) gs->Gl):Gl:=by
 obtain⟨fs,wb,hj,pb⟩:=hq;have sb:cv 1 (T q.2 cw):=bM.T ok;have bb:oH 1 (T q.2 cw):=gu.T ok
 refine wd (W:=W) (k:=k) (o0:=o0) (o7:=o7) pa hi pb hj (fun x' y'=>by have:=bb.lt (by exact Nat.succ_pos _) x' y';exact Nat.lt_of_le_of_lt this (by decide)) sa sb hk es _ [] 0 o4 o5 o6 (fun e he=>he) cL.nil (fun e he=>by cases he) fun gs w q4 q5 q6 hl p kb=>?_;rw[vc pb] at p;simp only[Int.zero_add] at p;rw[show(fun X Y=>dU ca es (T q.2 cw) X Y)=T q.2 ca by show dU ca es (T q.2 cw)=_;rw[rR,uL pa]] at p;refine kk gs w q4 q5 q6 ?_ p kb;refine ag (l1:=[o0,some (.ref i),some (.ref q.1),some (.ref J.length),o4,o5,o6,o7]) (J1:=J++[.dict [] 0]) ?_ (ag (l1:=[o0,some (.ref i),some (.ref q.1),some (.ref J.length),q4,q5,q6,o7]) (J1:=J++[.dict gs w]) ?_ ?_)
 ·rfl
 ·rw[bY (ds:=es.map fun e=>ae e.1) (src:=some (i,wa)) (J1:=J++[.dict [] 0]) (by exact bA rfl (an hi))];exact hl
 ·rfl
theorem wg {j0 w0:Nat} {ds:List D} {o0 o7:Option D}:∀(L:List (Nat×aZ)) (J:St) (i wa:Nat) (ca:Cf) (es:Es) (ka:Nat) (o2 o3 o4 o5 o6:Option D),J[j0]?=some (.list ds w0)->iu L J->cL jw ca es->J[i]?=some (.dict es wa)->me ka es->ka+L.length<=8->
   ∀{Gl:Prop},(∀τ i' wa' es' q2 q3 q4 q5 q6,a9 (aw [2] false) (aP (ab FT W k) W wk) (some (j0,w0)) (L.map fun q=>.ref q.1) [o0,some (.ref i),o2,o3,o4,o5,o6,o7] J
   = some (.next,[o0,some (.ref i'),q2,q3,q4,q5,q6,o7],J++τ)->cL jw ((L.map (·.2)).foldl (fun c p=>T p c) ca) es'->(J++τ)[i']?=some (.dict es' wa')->Gl)->Gl:=by
 intro A0;induction A0 with
 |nil=>
  intro J i wa ca es ka o2 o3 o4 o5 o6 _ _ p hi _ _ _ kk;exact kk [] i wa es o2 o3 o4 o5 o6 (by rw[List.append_nil];rfl) p (by exact an hi)
 |cons q L ih=>
  intro J i wa ca es ka o2 o3 o4 o5 o6 h0 hF p hi kb hk _ kk;simp only[List.length_cons] at hk;obtain⟨hq,ok⟩:=hF q List.mem_cons_self
  refine yY (W:=W) (k:=k) (o0:=o0) (o3:=o3) (o4:=o4) (o5:=o5) (o6:=o6) (o7:=o7) p hi hq ok kb (by exact Nat.lt_of_le_of_lt (Nat.le_add_right _ _) hk) fun gs w q4 q5 q6 h1 p1 k1=>?_;refine' ih (J++[.dict gs w]) J.length w _ gs (ka+1) (some (.ref q.1)) (some (.ref J.length)) q4 q5 q6 (an h0) (fun q' hq'=>(iu.ext (L:=q::L) hF (aN.app _ _)) q' (List.mem_cons_of_mem _ hq')) p1 (ai _ _) k1 (by exists L20,0x81110111002218111111020021824,hk) fun τ i' wa' es' r2 r3 r4 r5 r6 hl pl hi'=>?main
  case' main=>skip
  refine kk ([.dict gs w]++τ) i' wa' es' r2 r3 r4 r5 r6 ?_ pl (by rw[<-List.append_assoc];exact hi');rw[List.map_cons];refine(aT (l1:=[o0,some (.ref i),some (.ref q.1),o3,o4,o5,o6,o7]) (by rfl) h1 (by first|exact aL (an h0)|exact bN (an h0))).trans ?_;rw[<-List.append_assoc];exact hl
theorem zD (ps:List aZ) (c:Cf):ps.foldl (fun c p=>T p c) c=ps.reverse.foldr T c:=by
 rw[List.foldr_reverse]
theorem gM (ps:List aZ):ps.foldl (fun c p=>T p c) cw=bt ps:=by
 rw[zD];exact gg (List.reverse_perm ps)
end
theorem fy {α:Type} {bind:D->aB->Option aB} {test:aB->St->Option (Bool×St)} {elt:aB->St->Option (D×St)} {src:f9} {l:aB} {J:St} (g:α->D) (keep:α->Bool) (ψ:α->D) (hs:aI src J=true) :
  ∀(suf:List α),(∀e∈suf,∃l',bind (g e) l=some l'/\test l' J=some (keep e,J)/\(keep e=true->elt l' J=some (ψ e,J)))->
   aY bind test elt src l (suf.map g) J=some ((suf.filter keep).map ψ,J):=by
 intro A0;induction A0 with
 |nil=>
  intro _;rfl
 |cons e suf ih=>
  intro h;obtain⟨l',h1,ht,hkv⟩:=h e List.mem_cons_self
  have ih:=ih fun e' he=>h e' (List.mem_cons_of_mem _ he)
  cases hk:keep e with
  |true=>
   have h3:=hkv hk;rw[hk] at ht;rw[List.filter_cons,if_pos hk];exact fX h1 ht h3 hs ih
  |false=>
   rw[hk] at ht;rw[List.filter_cons,hk];exact j7 h1 ht hs ih
theorem el {α:Type} {bind:D->aB->Option aB} {elt:aB->St->Option (D×St)} {src:f9} {l:aB} {J:St} (g:α->D) (ψ:α->D) (hs:aI src J=true) (suf:List α) (h:∀e∈suf,∃l',bind (g e) l=some l'/\elt l' J=some (ψ e,J)) :
  aY bind (fun _ J=>some (true,J)) elt src l (suf.map g) J=some (suf.map ψ,J):=by
 have:=fy (bind:=bind) (test:=fun _ J=>some (true,J)) (elt:=elt) (l:=l) g (fun _=>true) ψ hs suf fun e he=>by
  obtain⟨l',h1,h2⟩:=h e he;exact⟨l',h1,rfl,fun _=>h2⟩
 rw[this,List.filter_eq_self.mpr (fun _ _=>rfl)]
theorem mI:∀(L acc:Es),((acc.map (·.1))++L.map (·.1)).Nodup->acc.length+L.length<ay->dX acc (L.map fun e=>.tup [ae e.1,e.2])=some (acc++L):=by
 intro A0;induction A0 with
 |nil=>
  intro acc _ _;exact congrArg some (List.append_nil acc).symm
 |cons e L ih=>
  intro acc nd hl;have hnot:e.1∉acc.map (·.1):=by
   intro hm;rw[List.nodup_append] at nd;exact nd.2.2 _ hm _ List.mem_cons_self rfl
  simp only[List.length_cons] at hl;have ih:=ih (acc++[(e.1,e.2)]) (by simpa using nd) (by simp only[List.length_append,List.length_cons,List.length_nil];omega);have hl':acc.length<ay:=by omega
  rw[List.map_cons,qB hl',kO hnot,ih];simp
section
variable {W k:Nat} {J:St}
theorem xl:cL jw cw [([0,0],.int 1)] where
 nd:=by decide
 get:=fun x y=>by
  rw[bU,iK];by_cases h:x=0/\y=0
  ·simp[h,cw]
  ·have:¬(0=x/\0=y):=by exists L02,0x910011500011568901110501100568804,h
   simp[h,cw,this]
 inb:=fun e he=>by simp at he;subst he;exact⟨0,0,rfl,by exists L00,0x911011301101146911011360110114600⟩
theorem cW {L:List (Nat×aZ)} {j0 w0:Nat} (h0:J[j0]?=some (.list (L.map fun q=>.ref q.1) w0)) (hF:iu L J) (hL:L.length<=8)
  {Gl:Prop} (kk:∀r J',ab FT W (k+1) bL [.ref j0] J=some (.ref r,J')->aN J J'->J.length<=r->ar 1 1 (bt (L.map (·.2))) r J'->Gl):Gl:=by
 refine wg (W:=W) (k:=k) (o0:=some (.ref j0)) (o7:=none) L (J++[.dict [([0,0],.int 1)] 0]) J.length 0 _ _ 0 none none none none none (an h0) (hF.ext (aN.app _ _)) xl (ai _ _)
  (fun e he=>by simp at he;subst he;exact⟨0,0,rfl,by exists L00,0x1170114011011460117011460110114600⟩) (by exists L10,0x8110001121811001812,hL) fun τ i wa es q2 q3 q4 q5 q6 hl p hi=>?_
 rw[gM] at p;generalize hJ:J++[AO.dict [([0,0],.int 1)] 0]++τ=J1 at *;have hx:aN J J1:=by rw[<-hJ];exact(aN.app _ _).app_r _
 have hlen:J.length<=J1.length:=by rw[<-hJ];simp
 have pf:=p.filter (n:=1) (d:=1) (fun e=>match e.2 with | .int v=>qD v 1|_=>.none) (fun x y _=>by rw[Int.mul_one,aF]);refine kk J1.length (J1++[.dict _ 0]) ?_ (hx.app_r _) hlen ⟨_,0,ai _ _,pf⟩;refine am (fn:=⟨1,8,iq⟩) rfl rfl (l:=[some (.ref j0),some (.ref i),q2,q3,q4,q5,q6,none])
  (ag (l1:=[some (.ref j0),some (.ref J.length),none,none,none,none,none,none]) (J1:=J++[.dict [([0,0],.int 1)] 0]) ?_ (ag (l1:=[some (.ref j0),some (.ref i),q2,q3,q4,q5,q6,none]) (J1:=J1) ?_ ?_))
 ·exact aD (cQ (al rfl rfl) (Nat.le_of_ble_eq_true rfl) rfl)
 ·rw[bY (ds:=L.map fun q=>.ref q.1) (src:=some (j0,w0)) (J1:=J++[.dict [([0,0],.int 1)] 0]) (by exact cf rfl (an h0))];exact hl
 ·have hc:=fy (bind:=aw [7] false) (test:=iV (ab FT W k) (.cmp .ne (.idx (.var 1) (.var 7)) (.lit (.int 0)))) (elt:=ev (ab FT W k) (.tup (.aa (.var 7) (.aa (.tup (.aa (.idx (.var 1) (.var 7)) (.aa (.lit (.int 1)) .af))) .af))))
   (src:=some (i,wa)) (l:=[some (.ref j0),some (.ref i),q2,q3,q4,q5,q6,none]) (J:=J1) (fun e=>ae e.1) (fun e=>decide (bt (L.map (·.2)) (kx e.1) (ky e.1)≠0)) (fun e=>.tup [ae e.1,match e.2 with | .int v=>qD v 1|_=>.none]) (aL hi) es (fun e he=>?_)
  ·have hp:=mI ((es.filter fun e=>decide (bt (L.map (·.2)) (kx e.1) (ky e.1)≠0)).map fun e=>(e.1,match e.2 with | .int v=>qD v 1|_=>.none)) [] (by exact(pf).1) (by
    simp only[List.length_nil,List.length_map,Nat.zero_add];exact Nat.lt_of_le_of_lt (List.length_filter_le _ _) p.len)
   simp only[List.map_map,List.nil_append] at hp
   have hlen':(es.map fun e=>ae e.1).length<ay:=by rw[List.length_map];exact p.len
   have hit:eA (ab FT W k) (.ix (.var 1)) [some (.ref j0),some (.ref i),q2,q3,q4,q5,q6,none] J1=some (es.map fun e=>ae e.1,some (i,wa),J1):=by
    exact bA rfl hi
   have hevL:di (ab FT W k) (.aE (.tup (.aa (.var 7) (.aa (.tup (.aa (.idx (.var 1) (.var 7)) (.aa (.lit (.int 1)) .af))) .af))) [7] false (.ix (.var 1)) (some (.cmp .ne (.idx (.var 1) (.var 7)) (.lit (.int 0))))) [some (.ref j0),some (.ref i),q2,q3,q4,q5,q6,none] J1
     = some ((es.filter fun e=>decide (bt (L.map (·.2)) (kx e.1) (ky e.1)≠0)).map (fun e=>.tup [ae e.1,match e.2 with | .int v=>qD v 1|_=>.none]),J1):=fe hit hlen' hc
   have hev:ev (ab FT W k) (.cI (.aE (.tup (.aa (.var 7) (.aa (.tup (.aa (.idx (.var 1) (.var 7)) (.aa (.lit (.int 1)) .af))) .af))) [7] false (.ix (.var 1)) (some (.cmp .ne (.idx (.var 1) (.var 7)) (.lit (.int 0)))))) [some (.ref j0),some (.ref i),q2,q3,q4,q5,q6,none] J1
     = some (.ref J1.length,J1++[.dict ((es.filter fun e=>decide (bt (L.map (·.2)) (kx e.1) (ky e.1)≠0)).map fun e=>(e.1,match e.2 with | .int v=>qD v 1|_=>.none)) 0]):=js hevL hp
   exact bk hev
  ·obtain⟨x,y,h,hb⟩:=p.inb e he;obtain⟨k0,v⟩:=e;simp only at h;subst h;have hg:=eO p.nd he;have hv:=p.val he;have hidx:bo J1 (.ref i) (ae [x,y])=some v:=by
    exact bP hi hg rfl
   refine⟨[some (.ref j0),some (.ref i),q2,q3,q4,q5,q6,some (ae [x,y])],by rfl,?_,fun _=>?_⟩
   ·have hne:cP .ne v (.int 0) J1=some (decide (bt (L.map (·.2)) x y≠0)):=by
     rw[hv];show some (!(bt (L.map (·.2)) x y==0))=_;exact congrArg some (by rw[Bool.eq_iff_iff];simp)
    exact d6 (aq (ao rfl rfl hidx) rfl hne)
   ·subst hv;exact aS (al rfl (aS (al (ao rfl rfl hidx) rfl) fm)) fm
end
theorem Cy (p:aZ) (c:Cf) (x0 y0:Int):(fun x y=>T p c x y-T p cw (x-x0) (y-y0)*c x0 y0)=T p (fG c x0 y0 0):=by
 have hu:∀x y,fG c x0 y0 0 x y=c x y-cw (x-x0) (y-y0)*c x0 y0:=fun x y=>by
  unfold fG cw;by_cases h:x=x0/\y=y0
  ·rw[if_pos h,if_pos (by exists L04,0x11302055011100055630205100056808,h),h.1,h.2];exists L01,0x113005011502
  ·rw[if_neg h,if_neg (by exists L04,0x9011302055011100055689302051000568808,h)];exists L02,0x1001300500504
 funext x y
 unfold T;rw[hu,hu,hu,show x-x0-1=x-1-x0 by (exists L02,0x101110055111100055504),show y-y0-p.e=y-p.e-y0 by (exists L03,0x1020005520100055506),show y-y0-1=y-1-y0 by exists L02,0x101110055111100055504];grind
theorem BB (p:aZ):T p (fun _ _=>0)=fun _ _=>0:=by funext x y;simp[T]
theorem cy.empty {n d:Int} {c:Cf} {es:Es} (p:cy n d c es) (h:∀x y,c x y=0):es=[]:=by
 cases es with
 |nil=>rfl
 |cons e es=>
  obtain⟨x,y,_,hc⟩:=p.entry List.mem_cons_self;exact absurd (h x y) hc
theorem cy.ne_nil {n d:Int} {c:Cf} {es:Es} (p:cy n d c es) {x y:Int} (h:c x y≠0):es≠[]:=by
 rintro rfl;have:=p.get x y;rw[if_neg h] at this
 cases this
section
variable {W k:Nat} {J:St}
theorem Bn {i w:Nat} {x y a b:Int} {v:D} (hi:J[i]?=some (.list [.tup [ae [a,b],v]] w)) (h:a<=x/\b<=y):ab FT W (k+2) dm [ae [x,y],.ref i] J=some (.int 0,J):=by
 refine am (fn:=⟨2,4,eB⟩) rfl rfl (l:=[some (ae [x,y]),some (.ref i),some (.int 0),some (.tup [ae [a,b],v])]) (fv ?_);have:=mH (W:=W) (k:=k) (J:=J) (x:=a) (y:=b) (a:=x) (b:=y);rw[decide_eq_true h] at this;exact iF (fW rfl hi) (kS rfl (jq (J1:=J) (gP rfl (ah (al (ao rfl rfl rfl) rfl) this)) (bk rfl)))
theorem Ct {i w:Nat} {x y a b:Int} {v:D} (hi:J[i]?=some (.list [.tup [ae [a,b],v]] w)) (h:¬(a<=x/\b<=y)):ab FT W (k+2) dm [ae [x,y],.ref i] J=some (.int (-1),J):=by
 refine am (fn:=⟨2,4,eB⟩) rfl rfl (l:=[some (ae [x,y]),some (.ref i),some (.int 0),some (.tup [ae [a,b],v])]) (ag (l1:=[some (ae [x,y]),some (.ref i),some (.int 0),some (.tup [ae [a,b],v])]) (J1:=J) ?_ ?_)
 ·have:=mH (W:=W) (k:=k) (J:=J) (x:=a) (y:=b) (a:=x) (b:=y);rw[decide_eq_false h] at this;exact iF (fW rfl hi) ((aT rfl (eL (J1:=J) (gP rfl (ah (al (ao rfl rfl rfl) rfl) this)) rfl) (bN hi)).trans rfl)
 ·rfl
noncomputable abbrev zP:XS:=.seq (.eM [10,11] (.tup (.aa (.call dM (.aa (.var 7) (.aa (.idx (.idx (.var 3) (.var 9)) (.lit (.int 0))) .af))) (.aa (.call rD (.aa (.var 8) (.aa (.idx (.idx (.var 3) (.var 9)) (.lit (.int 1))) .af))) .af))))
  (.seq (.expr (.call fb (.aa (.idx (.var 4) (.var 9)) (.aa (.var 10) (.aa (.var 11) .af)))))
  (.asg 6 (.call oj (.aa (.var 6) (.aa (.call jY (.aa (.idx (.var 1) (.var 9)) (.aa (.var 10) (.aa (.var 11) .af)))) .af)))))
noncomputable abbrev tl:XS:=.ifs (.cmp .lt (.var 9) (.lit (.int 0))) (.seq (.set (.var 5) (.var 7) (.var 8))
  (.seq (.expr (.pop1 (.var 6) (.var 7)))
  (.cont))) (.nil)
noncomputable abbrev hO:XS:=.seq (.eM [7,8] (.call ek (.aa (.var 6) (.aa (.var 2) .af))))
  (.seq (.asg 9 (.call dm (.aa (.var 7) (.aa (.var 3) .af))))
  (.seq tl zP))
theorem yE (J τ:St) (a b c:AO):(J++a::b::τ).set (J.length+1) c=J++a::c::τ:=by
 rw[List.set_append_right _ _ (by exact Nat.le_succ _)];simp
theorem xn {j wj bi wb r wl wl' wq w5:Nat} {p:aZ} {c q:Cf} {ls qs bs:Es} {τ:St} {x0 y0:Int} {f0 o7 o8 o9 o10 o11 o12:Option D} {K:Nat} (hW:2^30<=W) (ok:p.Ok)
  (hj:J[j]?=some (.list [.ref bi] wj)) (hb:J[bi]?=some (.dict bs wb)) (pb:cK (T p cw) bs)
  (hr:(J++.list [.tup [ae [1,p.e],qD 1 1]] 0::.dict qs wq::.list [.ref (J.length+1)] 0::τ)[r]?=some (.dict ls wl)) (hrn:r≠J.length+1) (pl:cK (T p c) ls) (pq:cK q qs)
  (sc:cv K c) (hK:K+1<=8) (bc:∀x y,(c x y).natAbs<=6^8) (bq:∀x y,(q x y).natAbs<=6^8) (sq:cv K q)
  (hc0:c x0 y0≠0) (hmax:∀x y,c x y≠0->bh x y x0 y0)
  {Gl:Prop} (kk:∀qs' τ' r' ls' wl' l8,aP (ab FT W (k+7)) W hO [f0,some (.ref j),some b9,some (.ref J.length),some (.ref (J.length+2)),some (.ref w5),some (.ref r),o7,o8,o9,o10,o11,o12] (J++.list [.tup [ae [1,p.e],qD 1 1]] 0::.dict qs wq::.list [.ref (J.length+1)] 0::τ)
    = some (.next,[f0,some (.ref j),some b9,some (.ref J.length),some (.ref (J.length+2)),some (.ref w5),some (.ref r'),some (ae [x0+1,y0+p.e]),some l8,some (.int 0),some (ae [x0,y0]),some (qD (c x0 y0) 1),o12],
      J++.list [.tup [ae [1,p.e],qD 1 1]] 0::.dict qs' (wq+1)::.list [.ref (J.length+1)] 0::(τ++τ'))->(J++.list [.tup [ae [1,p.e],qD 1 1]] 0::.dict qs' (wq+1)::.list [.ref (J.length+1)] 0::(τ++τ'))[r']?=some (.dict ls' wl')->J.length+3<=r'->cK (T p (fG c x0 y0 0)) ls'->cK (fG q x0 y0 (q x0 y0+c x0 y0)) qs'->Gl):Gl:=by
 have he:=ok.e;have h6:(6:Nat)^8=1679616:=by rfl
 rw[h6] at bc bq
 have hz:∀x y,¬bh x y x0 y0->c x y=0:=fun x y h=>Classical.byContradiction fun z=>h (hmax x y z);have htop:T p c (x0+1) (y0+p.e)=c x0 y0:=by
  unfold T;rw[show x0+1-1=x0 by exact Int.add_sub_cancel _ _,show y0+p.e-p.e=y0 by exact Int.add_sub_cancel _ _,hz (x0+1) (y0+p.e-1) (by unfold bh;exists L03,0x910111201025400111002560011100237806),hz (x0+1) (y0+p.e) (by unfold bh;exists L03,0x91020102400111002560011100237806)];simp
 have hb0:=sc x0 y0 hc0
 have bT:∀x y,(T p c x y).natAbs<=6*1679616:=fun x y=>by
  have h1:=bc (x-1) (y-p.e);have h2:=bc x (y-1);have h3:=bc x y;unfold Mine.T;have ha:(p.a*c x (y-1)).natAbs<=2*1679616:=by
   rw[Int.natAbs_mul];exact Nat.mul_le_mul (by have:=ok.a;exists L11,0x2110010060075011003600007500011467821100400111646812,this,(fa (p.a))) h2
  have hb:(p.b*c x y).natAbs<=3*1679616:=by
   rw[Int.natAbs_mul];exact Nat.mul_le_mul (by have:=ok.b;exists L11,0x3110010060075011003600007500011467831100400211646812,this,(fa (p.b))) h3
  exists L43,0x99c60061301201000226307501120100022362010002230752010002201146782062075011203620207520011467810610750111036101075100114678006007501100360000750001146784ce30061201833420061101819a10061001848,h1,ha,hb,(fa (c (x-1) (y-p.e))),(fa (p.a*c x (y-1))),(fa (p.b*c x y)),(fa (c (x-1) (y-p.e)+p.a*c x (y-1)+p.b*c x y))
 have sT:cv (K+1) (T p c):=sc.T ok;generalize hA:AO.list [.tup [ae [1,p.e],qD 1 1]] 0=A at *;generalize hQ:AO.list [.ref (J.length+1)] 0=Q at *;generalize hS:J++A::.dict qs wq::Q::τ=S at *;have hSe:aN J S:=by rw[<-hS];exact aN.app _ _
 have sA:S[J.length]?=some A:=by rw[<-hS];simp
 have sq1:S[J.length+1]?=some (.dict qs wq):=by rw[<-hS];simp
 have sQ:S[J.length+2]?=some Q:=by rw[<-hS];simp
 refine kh (W:=W) (k:=k+5) (J:=S) pl hr (pl.ne_nil (by rw[htop];exact hc0)) fun x y hlead hcx hxm=>?_;have hxy:x0+1=x/\y0+p.e=y:=by
  have h1:=hxm (x0+1) (y0+p.e) (by rw[htop];exact hc0);refine lD h1 ?_;rcases BC hcx with z|z|z
  ·have:=hmax _ _ z;unfold bh at *;exists L05,0x3040220411110200561111020037403020541011100556101110053780a,this
  ·have:=hmax _ _ z.2;unfold bh at *;exists L05,0x403022041111020056111102003730111205410005610003780a,this
  ·have:=hmax _ _ z;unfold bh at *;exists L05,0x40302204111102005611110200373020410005610003780a,this
 obtain⟨rfl,rfl⟩:=hxy;rw[htop,Int.mul_one,aF] at hlead;have hfd:=Bn (W:=W) (k:=k+5) (J:=S) (i:=J.length) (x:=x0+1) (y:=y0+p.e) (a:=1) (b:=p.e) (v:=qD 1 1) (by rw[sA,<-hA]) (by exists L13,0x2010220411100211146007104100114600700460001146816,hb0);have hpq:=qy (W:=W) (k:=k+6) (J:=S) (x:=x0+1) (y:=y0+p.e) (a:=1) (b:=p.e);rw[show x0+1-1=x0 by exact Int.add_sub_cancel _ _,show y0+p.e-p.e=y0 by exact Int.add_sub_cancel _ _] at hpq;have hrd:=tH (W:=W) (n:=k+4) (J:=S) (a:=c x0 y0) (b:=1) (c:=1) (d:=1) (.inr (by exact Nat.le_add_left _ _)) (.inr (by exact Nat.le_add_left _ _)) (by exists L00,0x90111115800) (by decide) (by simp;exact Nat.lt_of_le_of_lt (Nat.le_add_left _ _) hW);rw[Int.mul_one,Int.mul_one,aF] at hrd;have hcb:=bc x0 y0
 refine ir (W:=W) (k:=k+3) (J:=S) (n:=1) (d:=1) (c:=q) (x:=x0) (y:=y0) (v:=c x0 y0) hW (by exact Int.le_refl _) (by exact Int.natCast_nonneg _) (by exists L00,0x90111115800) hc0 (by have:=bq x0 y0;exists L21,0x10000000000b1100001146107501100114360011410750011401146780060075011003600007500011467819a10061001824,this,(fa (q x0 y0)),(fa (q x0 y0*1))) (by exists L21,0x10000000000b1100001146107501100114360011410750011401146780060075011003600007500011467819a10061001824,hcb,(fa (c x0 y0)),(fa (c x0 y0*1))) pq (pq.len (sq.box (by exact Nat.le_of_lt hK))) sq1 fun qs' hat pq'=>?_;rw[Int.mul_one,aF] at hat;have hset:S.set (J.length+1) (.dict qs' (wq+1))=J++A::.dict qs' (wq+1)::Q::τ:=by rw[<-hS];exact yE _ _ _ _ _
 have hr':(S.set (J.length+1) (.dict qs' (wq+1)))[r]?=some (.dict ls wl):=by rw[List.getElem?_set_ne (Ne.symm hrn)];exact hr
 rw[hset] at hat hr';generalize hS2:J++A::.dict qs' (wq+1)::Q::τ=S2 at *;have hS2e:aN J S2:=by rw[<-hS2];exact aN.app _ _
 have s2b:S2[bi]?=some (.dict bs wb):=hS2e.get hb;have sb1:cv 1 (T p cw):=bM.T ok;have bb1:oH 1 (T p cw):=gu.T ok
 refine nM (W:=W) (k:=k+3) (J:=S2) (a:=x0) (b:=y0) (v:=c x0 y0) hW pb (sb1.box (by exact Nat.succ_pos _)) s2b hc0 (by exact Nat.lt_of_le_of_lt hcb (by decide)) fun gs hsh pg=>?_
 have bxg:jK (fun x y=>T p cw (x-x0) (y-y0)*c x0 y0):=fun x y h=>by
  have:T p cw (x-x0) (y-y0)≠0:=fun z=>h (by show T p cw (x-x0) (y-y0)*c x0 y0=0;rw[z];simp);have:=sb1 _ _ this;exists L14,0x91130330011469112036200114611171030541030501146111700205460020501146800710410011460070046000114688111110021818,hK,hb0,this
 refine qN (W:=W) (k:=k+1) (J:=S2++[.dict gs 0]) (i:=r) (j:=S2.length) (n:=1) (d:=1) hW (by exact Int.le_refl _) (by exact Int.natCast_nonneg _) (by exists L00,0x90111115800) pl (an hr') pg (ai _ _) (sT.box (by omega)) bxg
  (fun x y=>by have:=bT x y;exists L21,0x10000000000b1100001146107501100114360011410750011401146780060075011003600007500011467899c60061001824,this,(fa (T p c x y)),(fa (T p c x y*1))) (fun x y=>by
   have h1:=bb1 (x-x0) (y-y0);rw[Nat.pow_one] at h1;rw[Int.mul_one,Int.natAbs_mul];have h2:(T p cw (x-x0) (y-y0)).natAbs*(c x0 y0).natAbs<=6*1679616:=Nat.mul_le_mul h1 hcb
   exact Nat.lt_of_le_of_lt h2 (by decide)) fun τ2 ls' wl' r' hms hr2 hrl pls=>?_
 rw[Cy] at pls;have hfin:S2++[AO.dict gs 0]++τ2=J++A::.dict qs' (wq+1)::Q::(τ++(.dict gs 0::τ2)):=by rw[<-hS2];simp
 refine kk qs' (.dict gs 0::τ2) r' ls' wl' (qD (c x0 y0) 1) ?_ ?_ ?_ pls pq'
 ·rw[<-hfin];have iA:bo S (.ref J.length) (.int 0)=some (.tup [ae [1,p.e],qD 1 1]):=bO (n:=0) (sA.trans (congrArg some hA.symm)) pi rfl;have iA0:bo S (.tup [ae [1,p.e],qD 1 1]) (.int 0)=some (ae [1,p.e]):=rfl;have iA1:bo S (.tup [ae [1,p.e],qD 1 1]) (.int 1)=some (qD 1 1):=rfl;have iQ:bo S (.ref (J.length+2)) (.int 0)=some (.ref (J.length+1)):=bO (n:=0) (sQ.trans (congrArg some hQ.symm)) pi rfl;have ij:bo S2 (.ref j) (.int 0)=some (.ref bi):=bO (n:=0) (hS2e.get hj) pi rfl;refine ag (l1:=[f0,some (.ref j),some b9,some (.ref J.length),some (.ref (J.length+2)),some (.ref w5),some (.ref r),some (ae [x0+1,y0+p.e]),some (qD (c x0 y0) 1),o9,o10,o11,o12]) (J1:=S) ?_
   (ag (l1:=[f0,some (.ref j),some b9,some (.ref J.length),some (.ref (J.length+2)),some (.ref w5),some (.ref r),some (ae [x0+1,y0+p.e]),some (qD (c x0 y0) 1),some (.int 0),o10,o11,o12]) (J1:=S) ?_
   (ag (l1:=[f0,some (.ref j),some b9,some (.ref J.length),some (.ref (J.length+2)),some (.ref w5),some (.ref r),some (ae [x0+1,y0+p.e]),some (qD (c x0 y0) 1),some (.int 0),o10,o11,o12]) (J1:=S) ?_
   (ag (l1:=[f0,some (.ref j),some b9,some (.ref J.length),some (.ref (J.length+2)),some (.ref w5),some (.ref r),some (ae [x0+1,y0+p.e]),some (qD (c x0 y0) 1),some (.int 0),some (ae [x0,y0]),some (qD (c x0 y0) 1),o12]) (J1:=S) ?_
   (ag (l1:=[f0,some (.ref j),some b9,some (.ref J.length),some (.ref (J.length+2)),some (.ref w5),some (.ref r),some (ae [x0+1,y0+p.e]),some (qD (c x0 y0) 1),some (.int 0),some (ae [x0,y0]),some (qD (c x0 y0) 1),o12]) (J1:=S2) ?_ ?_))))
  ·exact dO (ah (al rfl rfl) hlead) rfl
  ·exact aD (ah (al rfl rfl) hfd)
  ·rfl
  ·exact dO (aS (al (ah (al rfl (ao (ao rfl rfl iA) rfl iA0)) hpq) (ah (al rfl (ao (ao rfl rfl iA) rfl iA1)) hrd)) fm) rfl
  ·exact ko (ah (dF (ao rfl rfl iQ) rfl rfl) hat)
  ·exact aD (ah (al rfl (ah (dF (ao rfl rfl ij) rfl rfl) hsh)) hms)
 ·rw[<-hfin];exact hr2
 ·have:S2.length=J.length+3+τ.length:=by rw[<-hS2];simp;exists L20,0x10311002211111111110222002224
  simp only[List.length_append] at hrl;exists L50,0x40311102140300021820311102200285a,this,hrl
end
section
variable {W k:Nat} {J:St}
noncomputable abbrev jx:X:=.cmp .gt (.len (.var 6)) (.lit (.int 0))
theorem Bv {N K:Nat} {x y:Int} (hK:K+1<=8) (h1:9*x+y<(N+1:Nat)) (h2:0<=x/\x<=K/\0<=y/\y<=K):(x=((N/9:Nat):Int)/\y=((N%9:Nat):Int))\/(9*x+y<(N:Int)/\bh x y ((N/9:Nat):Int) ((N%9:Nat):Int)):=by unfold bh;omega
theorem xo {j wj bi wb w5:Nat} {p:aZ} {bs:Es} {Qt:Cf} {f0 o12:Option D} {K:Nat} (hW:2^30<=W) (ok:p.Ok)
  (hj:J[j]?=some (.list [.ref bi] wj)) (hb:J[bi]?=some (.dict bs wb)) (pb:cK (T p cw) bs) (sQ:cv K Qt) (hK:K+1<=8) (bQ:oH 8 Qt) :
  ∀(N fuel:Nat) (c q:Cf) (qs ls:Es) (τ:St) (r wl wq:Nat) (o7 o8 o9 o10 o11:Option D),N<fuel->(∀x y,c x y≠0->9*x+y<N)->
   (∀x y,(c x y=0/\q x y=Qt x y)\/(c x y=Qt x y/\q x y=0))->cK (T p c) ls->cK q qs->
   (J++.list [.tup [ae [1,p.e],qD 1 1]] 0::.dict qs wq::.list [.ref (J.length+1)] 0::τ)[r]?=some (.dict ls wl)->J.length+3<=r->
   ∀{Gl:Prop},(∀qs' wq' τ' q6 q7 q8 q9 Ac Ab,cr (iV (ab FT W (k+7)) jx) (aP (ab FT W (k+7)) W hO) fuel
     [f0,some (.ref j),some b9,some (.ref J.length),some (.ref (J.length+2)),some (.ref w5),some (.ref r),o7,o8,o9,o10,o11,o12] (J++.list [.tup [ae [1,p.e],qD 1 1]] 0::.dict qs wq::.list [.ref (J.length+1)] 0::τ)
    = some (.next,[f0,some (.ref j),some b9,some (.ref J.length),some (.ref (J.length+2)),some (.ref w5),q6,q7,q8,q9,Ac,Ab,o12],J++.list [.tup [ae [1,p.e],qD 1 1]] 0::.dict qs' wq'::.list [.ref (J.length+1)] 0::(τ++τ'))->cK Qt qs'->Gl)->Gl:=by
 intro A0;induction A0 with
 |zero=>
  intro fuel c q qs ls τ r wl wq o7 o8 o9 o10 o11 hf hN hq pl pq hr hrn _ kk
  have hc:∀x y,c x y=0:=fun x y=>Classical.byContradiction fun h=>by
   have h1:=hN x y h;have h2:c x y=Qt x y:=by rcases hq x y with z|z;exact absurd z.1 h;exact z.1
   have:=sQ x y (by rw[<-h2];exact h);exists L12,0x900710410011460070046000114680117100091323814,h1,this
  have hcz:c=fun _ _=>0:=by funext x y;exact hc x y
  have hle:ls=[]:=pl.empty fun x y=>by rw[hcz,BB]
  have hqe:q=Qt:=by
   funext x y
   rcases hq x y with z|z
   ·exact z.2
   ·rw[z.2,<-z.1,hc]
  subst hle;obtain⟨fuel,rfl⟩:∃f,fuel=f+1:=⟨fuel-1,by exists L20,0x1111020020111021110006001111022001111678000110824,hf,(fs (fuel) (1))⟩;refine kk qs wq [] (some (.ref r)) o7 o8 o9 o10 o11 ?_ (by rw[<-hqe];exact pq);rw[List.append_nil];refine gc ?_;exact d6 (aq (bz rfl (dh hr ((by decide)))) rfl rfl)
 |succ N ih=>
  intro fuel c q qs ls τ r wl wq o7 o8 o9 o10 o11 hf hN hq pl pq hr hrn _ kk
  have hcQ:∀x y,c x y≠0->c x y=Qt x y:=fun x y h=>by rcases hq x y with z|z;exact absurd z.1 h;exact z.1
  have hqQ:∀x y,q x y≠0->q x y=Qt x y:=fun x y h=>by rcases hq x y with z|z;exact z.2;exact absurd z.2 h
  have sc:cv K c:=fun x y h=>sQ x y (by rw[<-hcQ x y h];exact h)
  have sq:cv K q:=fun x y h=>sQ x y (by rw[<-hqQ x y h];exact h);by_cases hc0:c (((N/9:Nat)):Int) (((N%9:Nat)):Int)=0
  ·refine ih fuel c q qs ls τ r wl wq o7 o8 o9 o10 o11 (by exact Nat.lt_of_succ_lt hf) (fun x y h=>?_) hq pl pq hr hrn kk;have h1:=hN x y h;have h2:=sc x y h;have:¬(x=((N/9:Nat):Int)/\y=((N%9:Nat):Int)):=fun z=>h (by rw[z.1,z.2];exact hc0);exact((Bv hK h1 h2).resolve_left this).1
  ·have hmax:∀x y,c x y≠0->bh x y ((N/9:Nat):Int) ((N%9:Nat):Int):=fun x y h=>by
    have h1:=hN x y h;have h2:=sc x y h;rcases Bv hK h1 h2 with q|q
    ·rw[q.1,q.2];exact iz _ _
    ·exact q.2
   have bc:∀x y,(c x y).natAbs<=6^8:=fun x y=>by
    by_cases h:c x y=0
    ·rw[h];exact Nat.zero_le _
    ·rw[hcQ x y h];exact bQ x y
   have bq:∀x y,(q x y).natAbs<=6^8:=fun x y=>by
    by_cases h:q x y=0
    ·rw[h];exact Nat.zero_le _
    ·rw[hqQ x y h];exact bQ x y
   refine xn (k:=k) (w5:=w5) (wl':=0) (f0:=f0) (o7:=o7) (o8:=o8) (o9:=o9) (o10:=o10) (o11:=o11) (o12:=o12) hW ok hj hb pb hr (by exists L20,0x91110021028103110021824,hrn) pl pq sc hK bc bq sq hc0 hmax fun qs1 τ1 r1 ls1 wl1 l8 ht hr1 hrn1 pl1 pq1=>?_;obtain⟨fuel,rfl⟩:∃f,fuel=f+1:=⟨fuel-1,by exists L30,0x1112021020112021111006101112022101111678101110020836,hf,(fs (fuel) (1))⟩
   refine ih fuel _ _ qs1 ls1 (τ++τ1) r1 wl1 (wq+1) (some (ae [((N/9:Nat):Int)+1,((N%9:Nat):Int)+p.e])) (some l8) (some (.int 0)) (some (ae [((N/9:Nat):Int),((N%9:Nat):Int)])) (some (qD (c ((N/9:Nat):Int) ((N%9:Nat):Int)) 1)) (by exact Nat.lt_of_succ_lt_succ hf) (fun x y h=>by
    unfold fG at h;by_cases hz:x=((N/9:Nat):Int)/\y=((N%9:Nat):Int)
    ·rw[if_pos hz] at h;exact absurd rfl h
    ·rw[if_neg hz] at h;exact((Bv hK (hN x y h) (sc x y h)).resolve_left hz).1) (fun x y=>by
    unfold fG;split
    ·rename_i hz;rw[hz.1,hz.2];have h1:=hcQ _ _ hc0;have h2:=hq ((N/9:Nat):Int) ((N%9:Nat):Int);left
     exists L03,0x20001025011011560111052000562010501100567806,h2
    ·exact hq x y) pl1 pq1 hr1 hrn1 fun qs' wq' τ' q6 q7 q8 q9 Ac Ab hl pf=>?_
   refine kk qs' wq' (τ1++τ') q6 q7 q8 q9 Ac Ab ?_ pf;rw[eP (fl:=.next) ?_ ht (by simp),hl,List.append_assoc];have hls:ls≠[]:=pl.ne_nil (x:=((N/9:Nat):Int)+1) (y:=((N%9:Nat):Int)+p.e) (by
    have hz:∀x y,¬bh x y ((N/9:Nat):Int) ((N%9:Nat):Int)->c x y=0:=fun x y h=>Classical.byContradiction fun z=>h (hmax x y z);have he:=ok.e;unfold T;rw[show((N/9:Nat):Int)+1-1=((N/9:Nat):Int) by exact Int.add_sub_cancel _ _,show((N%9:Nat):Int)+p.e-p.e=((N%9:Nat):Int) by exact Int.add_sub_cancel _ _,hz (((N/9:Nat):Int)+1) (((N%9:Nat):Int)+p.e-1) (by unfold bh;exists L21,0x910711100107254007111007256007111007237824),hz (((N/9:Nat):Int)+1) (((N%9:Nat):Int)+p.e) (by unfold bh;exists L21,0x91070010724007111007256007111007237824)];simpa using hc0)
   have hlen:ls.length<ay:=pl.len ((sc.T ok).box hK);have hpos:0<ls.length:=List.length_pos_iff.mpr hls;exact d6 (aq (bz rfl (dh hr hlen)) rfl (ut (Int.natCast_pos.mpr hpos)))
end
section
variable {W k:Nat} {J:St}
theorem nV {n d:Int} {i w:Nat} {c:Cf} {es:Es} {X Y:Int} (p:cy n d c es) (hi:J[i]?=some (.dict es w)) (h0:c X Y≠0) (h:∀x y,c x y≠0->bh x y X Y) :
  ab FT W (k+2) ek [.ref i,b9] J=some (.tup [ae [X,Y],aV (c X Y*n) d],J):=by
 refine kh (W:=W) (k:=k) p hi (p.ne_nil h0) fun x y hl hc hm=>?_;obtain⟨rfl,rfl⟩:=lD (hm X Y h0) (h x y hc);exact hl
theorem ku {j wj bi wb i wi:Nat} {p:aZ} {bs es:Es} (ok:p.Ok) (hj:J[j]?=some (.list [.ref bi] wj)) (hb:J[bi]?=some (.dict bs wb)) (pb:cK (T p cw) bs) (hi:J[i]?=some (.dict es wi))
  (hel:es.length<ay) (heh:dK es=true) {R:XS} {res:Option (Fl×aB×St)}
  (h:aP (ab FT W (k+2)) W R [some (.ref i),some (.ref j),some b9,some (.ref J.length),some (.ref (J.length+2)),some (.ref (J.length+3)),some (.ref (J.length+4)),none,none,none,none,none,none]
    (J++.list [.tup [ae [1,p.e],qD 1 1]] 0::.dict [] 0::.list [.ref (J.length+1)] 0::[.dict [] 0,.dict es 0])=res) :
  aP (ab FT W (k+2)) W (.seq (.asg 3 (.lst (.aE (.call ek (.aa (.var 12) (.aa (.var 2) .af))) [12] false (.ix (.var 1)) none)))
  (.seq (.asg 4 (.lst (.aE (.dict .af) [12] false (.ix (.var 1)) none)))
  (.seq (.eM [5,6] (.tup (.aa (.dict .af) (.aa (.dictOf (.var 0)) .af)))) R))) [some (.ref i),some (.ref j),some b9,none,none,none,none,none,none,none,none,none,none] J=res:=by
 have hl:gD (0+1) (0+p.e) (T p cw):=ee.T ok;rw[Int.zero_add,Int.zero_add] at hl;have hlead:=nV (W:=W) (k:=k) pb hb (by rw[hl.1];decide) hl.2;rw[hl.1,Int.one_mul,aF] at hlead;have hj1:=an (τ:=[AO.list [.tup [ae [1,p.e],qD 1 1]] 0]) hj;have hj2:(J++[AO.list [.tup [ae [1,p.e],qD 1 1]] 0,AO.dict [] 0])[j]?=some (.list [.ref bi] wj):=an hj;have hi3:(J++[AO.list [.tup [ae [1,p.e],qD 1 1]] 0,AO.dict [] 0,AO.list [.ref (J.length+1)] 0,AO.dict [] 0])[i]?=some (.dict es wi):=an hi;refine ag (l1:=[some (.ref i),some (.ref j),some b9,some (.ref J.length),none,none,none,none,none,none,none,none,none]) (J1:=J++[.list [.tup [ae [1,p.e],qD 1 1]] 0]) ?_
  (ag (l1:=[some (.ref i),some (.ref j),some b9,some (.ref J.length),some (.ref (J.length+2)),none,none,none,none,none,none,none,none]) (J1:=J++[.list [.tup [ae [1,p.e],qD 1 1]] 0,.dict [] 0,.list [.ref (J.length+1)] 0]) ?_
  (ag (l1:=[some (.ref i),some (.ref j),some b9,some (.ref J.length),some (.ref (J.length+2)),some (.ref (J.length+3)),some (.ref (J.length+4)),none,none,none,none,none,none]) (J1:=J++.list [.tup [ae [1,p.e],qD 1 1]] 0::.dict [] 0::.list [.ref (J.length+1)] 0::[.dict [] 0,.dict es 0]) ?_ h))
 ·exact aD (bR (cH (cf rfl hj) jR (pV rfl rfl (ah (al rfl rfl) hlead) (bN hj))))
 ·exact aD (zL (cH (cf rfl hj1) jR (pV rfl rfl (pR fw (Nat.le_of_ble_eq_true rfl) rfl) (bN hj2))))
 ·exact dO (aS (al (pR fw (Nat.le_of_ble_eq_true rfl) rfl) (rE rfl hi3 hel heh)) fm) rfl
theorem nO {j wj bi wb i wi:Nat} {p:aZ} {bs es:Es} {Qt:Cf} {K:Nat} (hW:2^30<=W) (ok:p.Ok) (hj:J[j]?=some (.list [.ref bi] wj)) (hb:J[bi]?=some (.dict bs wb)) (pb:cK (T p cw) bs)
  (hi:J[i]?=some (.dict es wi)) (pe:cK (T p Qt) es) (sQ:cv K Qt) (hK:K+1<=8) (bQ:oH 8 Qt)
  {Gl:Prop} (kk:∀qs wq τ,ab FT W (k+8) iD [.ref i,.ref j,b9] J=some (.tup [.ref (J.length+2),.ref (J.length+3)],J++.list [.tup [ae [1,p.e],qD 1 1]] 0::.dict qs wq::.list [.ref (J.length+1)] 0::.dict [] 0::τ)->cK Qt qs->Gl):Gl:=by
 have bx:jK (T p Qt):=(sQ.T ok).box hK
 refine xo (k:=k) (w5:=J.length+3) (f0:=some (.ref i)) (o12:=none) hW ok hj hb pb sQ hK bQ 81 W Qt (fun _ _=>0) [] es [.dict [] 0,.dict es 0] (J.length+4) 0 0 none none none none none (by exact Nat.lt_of_le_of_lt (Nat.le_add_left _ _) hW)
  (fun x y h=>by have:=sQ x y h;exists L12,0x5121710009132300710410011460070046000114688111110021814,hK,this) (fun x y=>.inr ⟨rfl,rfl⟩) pe cy.nil (by simp) (by exact Nat.le_succ _) fun qs wq τ' q6 q7 q8 q9 Ac Ab hl pq=>?_
 refine kk qs wq (.dict es 0::τ') ?_ pq;refine am (fn:=⟨3,13,iN⟩) rfl rfl (l:=[some (.ref i),some (.ref j),some b9,some (.ref J.length),some (.ref (J.length+2)),some (.ref (J.length+3)),q6,q7,q8,q9,Ac,Ab,none])
  (ku (k:=k+5) ok hj hb pb hi (pe.len bx) (pe.hashes bx) (ag (l1:=[some (.ref i),some (.ref j),some b9,some (.ref J.length),some (.ref (J.length+2)),some (.ref (J.length+3)),q6,q7,q8,q9,Ac,Ab,none])
   (J1:=J++.list [.tup [ae [1,p.e],qD 1 1]] 0::.dict qs wq::.list [.ref (J.length+1)] 0::.dict [] 0::.dict es 0::τ') ?_ ?_))
 ·exact hl
 ·rfl
theorem oZ {bi i:Nat} {p:aZ} {Qt:Cf} {K:Nat} (hW:2^30<=W) (ok:p.Ok) (hb:ar 1 1 (T p cw) bi J) (hi:ar 1 1 (T p Qt) i J) (sQ:cv K Qt) (hK:K+1<=8) (bQ:oH 8 Qt)
  {Gl:Prop} (kk:∀r J',ab FT W (k+9) hH [.ref i,.ref bi] J=some (.ref r,J')->aN J J'->ar 1 1 Qt r J'->Gl):Gl:=by
 obtain⟨bs,wb,hb,pb⟩:=hb;obtain⟨es,wi,hi,pe⟩:=hi
 refine nO (k:=k) (J:=J++[.list [.ref bi] 0]) hW ok (ai _ _) (an hb) pb (an hi) pe sQ hK bQ fun qs wq τ hd pq=>?_;have hlen:(J++[AO.list [.ref bi] 0]).length=J.length+1:=by exact List.length_append
 rw[hlen] at hd;generalize hJ:J++[AO.list [.ref bi] 0]=J1 at *;have e1:aN J J1:=by rw[<-hJ];exact aN.app _ _
 have hl:gD (0+1) (0+p.e) (T p cw):=ee.T ok;have hbl:bs.length<ay:=pb.len ((bM.T ok).box (by exact Nat.succ_pos _));have hbs:bs≠[]:=pb.ne_nil (x:=0+1) (y:=0+p.e) (by rw[hl.1];decide);have hbp:bs.length≠0:=by simpa using hbs
 have hbz:((bs.length:Int)==0)=false:=by simpa using hbs
 refine kk (J.length+2) (J1++.list [.tup [ae [1,p.e],qD 1 1]] 0::.dict qs wq::.list [.ref (J.length+1+1)] 0::.dict [] 0::τ) ?_ (e1.app_r _) ⟨qs,wq,?_,pq⟩
 ·refine am (fn:=⟨2,4,j8⟩) rfl rfl (l:=[some (.ref i),some (.ref bi),some (.ref (J.length+1+2)),some (.ref (J.length+1+3))])
   (ag (l1:=[some (.ref i),some (.ref bi),none,none]) (J1:=J) ?_ (ag (l1:=[some (.ref i),some (.ref bi),some (.ref (J.length+1+2)),some (.ref (J.length+1+3))]) (J1:=J1++.list [.tup [ae [1,p.e],qD 1 1]] 0::.dict qs wq::.list [.ref (J.length+1+1)] 0::.dict [] 0::τ) ?_ ?_))
  ·exact eL (aq (bz rfl (dh hb hbl)) rfl (congrArg some hbz)) rfl
  ·subst hJ;exact dO (ah (dF rfl (bR (ct (b7 rfl) jR)) rfl) hd) rfl
  ·have g3:(J1++.list [.tup [ae [1,p.e],qD 1 1]] 0::.dict qs wq::.list [.ref (J.length+1+1)] 0::.dict [] 0::τ)[J.length+1+3]?=some (.dict [] 0):=by rw[<-hlen];simp
   have g2:(J1++.list [.tup [ae [1,p.e],qD 1 1]] 0::.dict qs wq::.list [.ref (J.length+1+1)] 0::.dict [] 0::τ)[J.length+1+2]?=some (.list [.ref (J.length+1+1)] 0):=by rw[<-hlen];simp
   generalize (J1++.list [.tup [ae [1,p.e],qD 1 1]] 0::.dict qs wq::.list [.ref (J.length+1+1)] 0::.dict [] 0::τ)=S at *;exact bk (fc (aq (bz rfl (dh g3 ((by decide)))) rfl rfl) (ao rfl rfl (bO g2 ((by decide)) rfl)))
 ·rw[show J.length+2=J1.length+1 by exists L20,0x1110022111022111102002824,hlen];simp
end
section
variable {W k:Nat} {J:St}
theorem mF {e x0 y0:Int} {v:D} {ls rs:Es} {q Q:AO} {c:Cf} {wl wr:Nat} {f0 j o4 o7 o8 o9 o10 o11 o12:Option D} (pl:cK c ls) (bl:ls.length<ay) (br:rs.length<ay)
  (h0:c x0 y0≠0) (hm:∀x y,c x y≠0->bh x y x0 y0) (hd:¬(1<=x0/\e<=y0)) :
  aP (ab FT W (k+2)) W hO [f0,j,some b9,some (.ref J.length),o4,some (.ref (J.length+3)),some (.ref (J.length+4)),o7,o8,o9,o10,o11,o12] (J++[.list [.tup [ae [1,e],v]] 0,q,Q,.dict rs wr,.dict ls wl])
   = some (.cont,[f0,j,some b9,some (.ref J.length),o4,some (.ref (J.length+3)),some (.ref (J.length+4)),some (ae [x0,y0]),some (qD (c x0 y0) 1),some (.int (-1)),o10,o11,o12],
     J++[.list [.tup [ae [1,e],v]] 0,q,Q,.dict (bZ rs [x0,y0] (qD (c x0 y0) 1)) (wr+1),.dict (dT ls [x0,y0]) (wl+1)]):=by
 have hr:(J++[.list [.tup [ae [1,e],v]] 0,q,Q,.dict rs wr,.dict ls wl])[J.length+4]?=some (.dict ls wl):=by simp
 have hlead:=nV (W:=W) (k:=k) pl hr h0 hm;rw[Int.mul_one,aF] at hlead;have hfd:=Ct (W:=W) (k:=k) (J:=J++[.list [.tup [ae [1,e],v]] 0,q,Q,.dict rs wr,.dict ls wl]) (i:=J.length) (w:=0) (x:=x0) (y:=y0) (a:=1) (b:=e) (v:=v) (by simp) hd;refine ag (l1:=[f0,j,some b9,some (.ref J.length),o4,some (.ref (J.length+3)),some (.ref (J.length+4)),some (ae [x0,y0]),some (qD (c x0 y0) 1),o9,o10,o11,o12]) (J1:=J++[.list [.tup [ae [1,e],v]] 0,q,Q,.dict rs wr,.dict ls wl]) ?_
  (ag (l1:=[f0,j,some b9,some (.ref J.length),o4,some (.ref (J.length+3)),some (.ref (J.length+4)),some (ae [x0,y0]),some (qD (c x0 y0) 1),some (.int (-1)),o10,o11,o12]) (J1:=J++[.list [.tup [ae [1,e],v]] 0,q,Q,.dict rs wr,.dict ls wl]) ?_ (vh ?_))
 ·exact dO (ah rfl hlead) rfl
 ·exact aD (ah rfl hfd)
 ·have hx:∀S:St,aP (ab FT W (k+2)) W tl [f0,j,some b9,some (.ref J.length),o4,some (.ref (J.length+3)),some (.ref (J.length+4)),some (ae [x0,y0]),some (qD (c x0 y0) 1),some (.int (-1)),o10,o11,o12] S
    = aP (ab FT W (k+2)) W (.seq (.set (.var 5) (.var 7) (.var 8)) (.seq (.expr (.pop1 (.var 6) (.var 7))) (.cont))) [f0,j,some b9,some (.ref J.length),o4,some (.ref (J.length+3)),some (.ref (J.length+4)),some (ae [x0,y0]),some (qD (c x0 y0) 1),some (.int (-1)),o10,o11,o12] S:=fun S=>by
   rfl
  rw[hx];have hg:=cK.val pl x0 y0;rw[if_neg h0] at hg;refine ag (l1:=[f0,j,some b9,some (.ref J.length),o4,some (.ref (J.length+3)),some (.ref (J.length+4)),some (ae [x0,y0]),some (qD (c x0 y0) 1),some (.int (-1)),o10,o11,o12]) (J1:=J++[.list [.tup [ae [1,e],v]] 0,q,Q,.dict (bZ rs [x0,y0] (qD (c x0 y0) 1)) (wr+1),.dict ls wl]) ?_
   (ag (l1:=[f0,j,some b9,some (.ref J.length),o4,some (.ref (J.length+3)),some (.ref (J.length+4)),some (ae [x0,y0]),some (qD (c x0 y0) 1),some (.int (-1)),o10,o11,o12]) (J1:=J++[.list [.tup [ae [1,e],v]] 0,q,Q,.dict (bZ rs [x0,y0] (qD (c x0 y0) 1)) (wr+1),.dict (dT ls [x0,y0]) (wl+1)]) ?_ rfl)
  ·exact iE rfl rfl rfl ((fO (ks:=[x0,y0]) (lM (i:=3) rfl) rfl br).trans (congrArg some (qq (i:=3))))
  ·exact(ko (zI (ks:=[x0,y0]) rfl rfl (jk (lM (i:=4) rfl)) (lM (i:=4) rfl) rfl hg bl)).trans (by rw[qq];rfl)
noncomputable def rH:Es:=[([0,2],qD 1 1),([0,0],qD 7 1)]
noncomputable def c7:Cf:=fG (fG (fun _ _=>0) 0 2 1) 0 0 7
theorem BU:cK c7 rH:=by
 have:=(cy.nil (n:=1) (d:=1)).put (x:=0) (y:=2) (v:=1) (by decide) |>.put (x:=0) (y:=0) (v:=7) (by decide);rw[Int.mul_one,Int.mul_one,aF,aF] at this;exact this
theorem pc {j wj bi wb i wi:Nat} {p:aZ} {bs:Es} (hW:2^30<=W) (ok:p.Ok) (hj:J[j]?=some (.list [.ref bi] wj)) (hb:J[bi]?=some (.dict bs wb)) (pb:cK (T p cw) bs)
  (hi:J[i]?=some (.dict rH wi))
  {Gl:Prop} (kk:∀J' rs w,ab FT W (k+8) iD [.ref i,.ref j,b9] J=some (.tup [.ref (J.length+2),.ref (J.length+3)],J')->aN J J'->J'[J.length+3]?=some (.dict rs w)->rs≠[]->rs.length<ay->Gl):Gl:=by
 have h1:=mF (W:=W) (k:=k+5) (J:=J) (e:=p.e) (x0:=0) (y0:=2) (v:=qD 1 1) (ls:=rH) (rs:=[]) (q:=.dict [] 0) (Q:=.list [.ref (J.length+1)] 0) (wl:=0) (wr:=0) (f0:=some (.ref i)) (j:=some (.ref j)) (o4:=some (.ref (J.length+2))) (o7:=none) (o8:=none) (o9:=none) (o10:=none) (o11:=none) (o12:=none)
  BU (by exact fm) (by exact Nat.succ_pos _) (by decide) (fun x y h=>by
   unfold c7 fG at h;unfold bh;by_cases h1:x=0/\y=0
   ·exists L02,0x211104011005601100370111050110056804,h1
   ·rw[if_neg h1] at h;by_cases h2:x=0/\y=2
    ·exists L02,0x211104011005601100372111050110056804,h2
    ·rw[if_neg h2] at h;exact absurd rfl h) (by exists L01,0x921100401111146802)
 have p2:=BU.del (x:=0) (y:=2);have h2:=mF (W:=W) (k:=k+5) (J:=J) (e:=p.e) (x0:=0) (y0:=0) (v:=qD 1 1) (ls:=dT rH [0,2]) (rs:=bZ [] [0,2] (qD (c7 0 2) 1)) (q:=.dict [] 0) (Q:=.list [.ref (J.length+1)] 0) (wl:=0+1) (wr:=0+1) (f0:=some (.ref i)) (j:=some (.ref j)) (o4:=some (.ref (J.length+2))) (o7:=some (ae [0,2])) (o8:=some (qD (c7 0 2) 1)) (o9:=some (.int (-1))) (o10:=none) (o11:=none) (o12:=none)
  p2 (by exact jR) (by exact jR) (by decide) (fun x y h=>by
   unfold c7 fG at h;unfold bh;by_cases h1:x=0/\y=2
   ·rw[if_pos h1] at h;exact absurd rfl h
   ·rw[if_neg h1] at h;by_cases h2:x=0/\y=0
    ·exists L02,0x11104011005601100370111050110056804,h2
    ·rw[if_neg h2,if_neg h1] at h;exact absurd rfl h) (by exists L01,0x901100401111146802)
 have hle:dT (dT rH [0,2]) [0,0]=[]:=by rfl
 rw[hle] at h2;generalize hrs:bZ (bZ [] [0,2] (qD (c7 0 2) 1)) [0,0] (qD (fG c7 0 2 0 0 0) 1)=rs at h2;have hrs1:rs≠[]:=by rw[<-hrs];decide
 have hrs2:rs.length<ay:=by rw[<-hrs];exact fm
 refine kk (J++[.list [.tup [ae [1,p.e],qD 1 1]] 0,.dict [] 0,.list [.ref (J.length+1)] 0,.dict rs (0+1+1),.dict [] (0+1+1)]) rs (0+1+1) ?_ (aN.app _ _) (by simp) hrs1 hrs2;obtain⟨W',hW'⟩:∃w,W=w+3:=⟨W-3,by exists L20,0x31110200201110231100060031110220031116780040000000811824,hW,(fs (W) (3))⟩;refine am (fn:=⟨3,13,iN⟩) rfl rfl (l:=[some (.ref i),some (.ref j),some b9,some (.ref J.length),some (.ref (J.length+2)),some (.ref (J.length+3)),some (.ref (J.length+4)),some (ae [0,0]),some (qD (fG c7 0 2 0 0 0) 1),some (.int (-1)),none,none,none])
  (ku (k:=k+5) ok hj hb pb hi (by exact fm) (by decide +kernel) (ag (l1:=[some (.ref i),some (.ref j),some b9,some (.ref J.length),some (.ref (J.length+2)),some (.ref (J.length+3)),some (.ref (J.length+4)),some (ae [0,0]),some (qD (fG c7 0 2 0 0 0) 1),some (.int (-1)),none,none,none])
   (J1:=J++[.list [.tup [ae [1,p.e],qD 1 1]] 0,.dict [] 0,.list [.ref (J.length+1)] 0,.dict rs (0+1+1),.dict [] (0+1+1)]) ?_ ?_))
 ·show cr (iV (ab FT W (k+7)) jx) (aP (ab FT W (k+7)) W hO) W _ _=_;rw[show cr (iV (ab FT W (k+7)) jx) (aP (ab FT W (k+7)) W hO) W=cr (iV (ab FT W (k+7)) jx) (aP (ab FT W (k+7)) W hO) (W'+3) by rw[<-hW']];have ht:∀(ls:Es) (w w3:Nat) (rs:Es) (o7 o8 o9:Option D),ls.length<ay->iV (ab FT W (k+7)) jx [some (.ref i),some (.ref j),some b9,some (.ref J.length),some (.ref (J.length+2)),some (.ref (J.length+3)),some (.ref (J.length+4)),o7,o8,o9,none,none,none] (J++[.list [.tup [ae [1,p.e],qD 1 1]] 0,.dict [] 0,.list [.ref (J.length+1)] 0,.dict rs w3,.dict ls w])
    = some (decide (0<ls.length),J++[.list [.tup [ae [1,p.e],qD 1 1]] 0,.dict [] 0,.list [.ref (J.length+1)] 0,.dict rs w3,.dict ls w]):=fun ls w w3 rs o7 o8 o9 hl=>by
   exact d6 (aq (bz rfl (dh (lM (i:=4) rfl) hl)) rfl (congrArg some (decide_eq_decide.mpr Int.natCast_pos)))
  rw[eP (fl:=.cont) (ht rH 0 0 [] none none none (by exact fm)) h1 (by simp),eP (fl:=.cont) (ht (dT rH [0,2]) _ _ _ _ _ _ (by exact jR)) h2 (by simp)];exact gc (ht [] _ _ _ _ _ _ (by exact Nat.succ_pos _))
 ·rfl
theorem qP {bi i wi:Nat} {p:aZ} (hW:2^30<=W) (ok:p.Ok) (hb:ar 1 1 (T p cw) bi J) (hi:J[i]?=some (.dict rH wi))
  {Gl:Prop} (kk:∀J',ab FT W (k+9) hH [.ref i,.ref bi] J=some (.none,J')->aN J J'->Gl):Gl:=by
 obtain⟨bs,wb,hb,pb⟩:=hb
 refine pc (k:=k) (J:=J++[.list [.ref bi] 0]) hW ok (ai _ _) (an hb) pb (an hi) fun J2 rs w hd e2 g3 hne hrl=>?_;have hlen:(J++[AO.list [.ref bi] 0]).length=J.length+1:=by exact List.length_append
 rw[hlen] at hd g3;generalize hJ:J++[AO.list [.ref bi] 0]=J1 at *;have e1:aN J J1:=by rw[<-hJ];exact aN.app _ _
 have hl:gD (0+1) (0+p.e) (T p cw):=ee.T ok;have hbl:bs.length<ay:=pb.len ((bM.T ok).box (by exact Nat.succ_pos _));have hbs:bs≠[]:=pb.ne_nil (x:=0+1) (y:=0+p.e) (by rw[hl.1];decide);have hbz:((bs.length:Int)==0)=false:=by simpa using hbs
 have hrz:((rs.length:Int)==0)=false:=by simpa using hne
 refine kk J2 ?_ (e1.trans e2);refine am (fn:=⟨2,4,j8⟩) rfl rfl (l:=[some (.ref i),some (.ref bi),some (.ref (J.length+1+2)),some (.ref (J.length+1+3))])
  (ag (l1:=[some (.ref i),some (.ref bi),none,none]) (J1:=J) ?_ (ag (l1:=[some (.ref i),some (.ref bi),some (.ref (J.length+1+2)),some (.ref (J.length+1+3))]) (J1:=J2) ?_ ?_))
 ·exact eL (aq (bz rfl (dh hb hbl)) rfl (congrArg some hbz)) rfl
 ·subst hJ;exact dO (ah (dF rfl (bR (ct (b7 rfl) jR)) rfl) hd) rfl
 ·exact bk (fU (aq (bz rfl (dh g3 hrl)) rfl (congrArg some hrz)) rfl)
end
theorem lj (t:Int) {dn:Nat} (h:0<dn):aV t dn=qD (t/(Int.gcd t dn:Nat)) ((dn/Int.gcd t dn:Nat):Int):=by
 rw[fP (by exact Int.natCast_pos.mpr h),Int.natCast_ediv]
theorem ll {n:Int} {dn:Nat} (h:0<dn) (hg:Int.gcd n dn=1):aV n dn=qD n dn:=by
 rw[lj n h,hg];simp
theorem Be (B q:Nat):B/Nat.gcd B q*q=Nat.lcm B q:=by
 rw[Nat.lcm,Nat.div_mul_right_comm (Nat.gcd_dvd_left B q)]
section
variable {W k:Nat} {J:St}
theorem nN {n d u v:Int} {c:Cf} {es:Es} {i w:Nat} (hW:2^30<=W) (hd:0<d) (hd':d<2^15) (hu:u≠0) (hu':u.natAbs<2^15) (hv:0<v) (hv':v<2^15) (hn:n*u=d*v) (p:cy n d c es) (b:jK c) (hi:J[i]?=some (.dict es w))
  {Gl:Prop} (kk:∀gs,ab FT W (k+4) mR [.ref i,qD u v] J=some (.ref J.length,J++[.dict gs 0])->cK c gs->Gl):Gl:=by
 have hval:∀x y,c x y≠0->ab FT W (k+3) eY [aV (c x y*n) d,qD u v] J=some (qD (c x y) 1,J):=fun x y hc=>by
  obtain⟨p1,q1,e1,o1,l1,s1,x1⟩:=fQ (c x y*n) hd;have hq:0<q1*v:=Int.mul_pos o1 hv;have hq':(q1*v).natAbs<2^30:=mK (m:=2^15-1) o1 hv (by exists L02,0x1118000415104001048800041003804,hd',l1) (by exists L01,0x1118000415004800041003802,hv') (by exact Int.le_refl _);rw[e1,gT (.inr (by exact Nat.lt_of_lt_of_le hu' (by decide))) (.inr (by omega)) (by exact Int.ne_of_gt hq) hq' (by omega)];congr 2
  rw[<-aF];refine i8 hq (by exact Int.le_refl _) ?_;have h1:d*(p1*u)=d*(c x y*(q1*v)):=by
   have h2:d*(p1*u)=(p1*d)*u:=by grind
   rw[h2,x1];have h3:c x y*n*q1*u=c x y*q1*(n*u):=by grind
   rw[h3,hn];grind
  have:=Int.eq_of_mul_eq_mul_left (by exact Int.ne_of_gt hd:d≠0) h1;rw[Int.mul_one];exact this
 refine kk (es.map fun e=>(e.1,qD (c (kx e.1) (ky e.1)) 1)) ?_ (p.mapv (fun e=>qD (c (kx e.1) (ky e.1)) 1) (fun x y=>Iff.rfl) fun x y hc=>by rw[Int.mul_one,aF];rfl);have h0:(u==0)=false:=by exact decide_eq_false hu
 refine am (fn:=⟨2,3,nv⟩) rfl rfl (l:=[some (.ref i),some (qD u v),none]) (ag (l1:=[some (.ref i),some (qD u v),none]) (J1:=J) ?_ ?_)
 ·exact eL (aq (x:=qD u v) (y:=qD 0 1) rfl rfl (ju.trans (by rw[h0];rfl))) rfl
 ·have hl:=p.len b;have:=j6 (bind:=aw [2] false) (test:=fun _ J=>some (true,J)) (key:=ev (ab FT W (k+3)) (.var 2)) (val:=ev (ab FT W (k+3)) (.call eY (.aa (.idx (.var 0) (.var 2)) (.aa (.var 1) .af))))
   (src:=some (i,w)) (l:=[some (.ref i),some (qD u v),none]) (J:=J) (fun e=>e.1) (fun e=>qD (c (kx e.1) (ky e.1)) 1) (fun _=>rfl) (aL hi) es [] (fun e he=>?_) p.keysKept (by simpa using hl)
  ·simp only[List.nil_append] at this;exact bk (lT (bA rfl hi) this)
  ·obtain⟨x,y,rfl,hc⟩:=p.entry he;have hidx:bo J (.ref i) (ae [x,y])=some (aV (c x y*n) d):=bP (hi) (p.at hc) rfl;have h2:=hval x y hc;refine⟨[some (.ref i),some (qD u v),some (ae [x,y])],by rfl,by rfl,?_⟩;exact ah (al (ao rfl rfl hidx) rfl) h2
noncomputable abbrev yb:XS:=.asg 1 (.bin .mul (.bin .fdiv (.var 1) (.call lR (.aa (.var 1) (.aa (.idx (.idx (.var 0) (.var 3)) (.lit (.int 1))) .af)))) (.idx (.idx (.var 0) (.var 3)) (.lit (.int 1))))
noncomputable abbrev ya:XS:=.asg 2 (.call lR (.aa (.var 2) (.aa (.idx (.call eY (.aa (.idx (.var 0) (.var 3)) (.aa (.tup (.aa (.var 1) (.aa (.lit (.int 1)) .af))) .af))) (.lit (.int 0))) .af)))
theorem uZ {n:Int} {dn:Nat} {c:Cf} {es:Es} {i w:Nat} {o2 o4:Option D} (hW:2^30<=W) (hd:0<dn) (hd':dn<2^15) (hg:Int.gcd n dn=1) (p:cy n dn c es) (hi:J[i]?=some (.dict es w)) :
  ∀(suf:Es) (B:Nat) (o3:Option D),(∀e∈suf,e∈es)->B ∣ dn->0<B->
   ∀{Gl:Prop},(∀B' q3,a9 (aw [3] false) (aP (ab FT W (k+3)) W yb) (some (i,w)) (suf.map fun e=>ae e.1) [some (.ref i),some (.int (B:Nat)),o2,o3,o4] J
    = some (.next,[some (.ref i),some (.int (B':Nat)),o2,q3,o4],J)->B' ∣ dn->B ∣ B'->(∀e∈suf,c (kx e.1) (ky e.1)=1->dn ∣ B')->Gl)->Gl:=by
 intro A0;induction A0 with
 |nil=>
  intro B o3 _ hB _ _ kk
  exact kk B o3 rfl hB (Nat.dvd_refl _) (fun e he=>by cases he)
 |cons e suf ih=>
  intro B o3 hf hB hB0 _ kk;obtain⟨x,y,rfl,hc⟩:=p.entry (hf e List.mem_cons_self);have hq:=lj (c x y*n) hd;have hqd:dn/Int.gcd (c x y*n) dn ∣ dn:=Nat.div_dvd_of_dvd (by have:=Int.gcd_dvd_right (c x y*n) dn;exact Int.natCast_dvd_natCast.mp this);have hq0:0<dn/Int.gcd (c x y*n) dn:=Nat.pos_of_dvd_of_pos hqd hd;generalize (c x y*n)/(Int.gcd (c x y*n) dn:Nat)=pp at hq
  have hone:c x y=1->dn/Int.gcd (c x y*n) dn=dn:=fun h=>by rw[h,Int.one_mul,hg];simp
  generalize dn/Int.gcd (c x y*n) dn=q at *;have hlc:Nat.lcm B q ∣ dn:=Nat.lcm_dvd hB hqd;have hl0:0<Nat.lcm B q:=Nat.pos_of_dvd_of_pos hlc hd;have hqle:q<=dn:=Nat.le_of_dvd hd hqd;have hBle:B<=dn:=Nat.le_of_dvd hd hB;have hgle:Nat.gcd B q<=q:=Nat.le_of_dvd hq0 (Nat.gcd_dvd_right _ _);have hg0:0<Nat.gcd B q:=Nat.gcd_pos_of_pos_right _ hq0;refine' ih (Nat.lcm B q) (some (ae [x,y])) (fun e he=>hf e (List.mem_cons_of_mem _ he)) hlc hl0 fun B' q3 hl h1 h2 h3=>?main
  case' main=>skip
  refine kk B' q3 ?_ h1 (Nat.dvd_trans (Nat.dvd_lcm_left _ _) h2) (fun e he=>?_)
  ·rw[List.map_cons];refine(aT (l1:=[some (.ref i),some (.int (B:Nat)),o2,some (ae [x,y]),o4]) (l2:=[some (.ref i),some (.int (Nat.lcm B q:Nat)),o2,some (ae [x,y]),o4]) (J2:=J) (by rfl) ?_ (aL hi)).trans hl;have hidx:bo J (.ref i) (ae [x,y])=some (qD pp q):=(bP hi (p.at hc) rfl).trans (congrArg some hq);have hi1:bo J (qD pp q) (.int 1)=some (.int q):=rfl;have hgc:=lO (W:=W) (n:=k+2) (J:=J) (a:=(B:Int)) (b:=(q:Int)) (by simp;exists L30,0x20010201880004110080040000000811836,hW,hd',hqle);have hgn:Int.gcd (B:Int) (q:Int)=Nat.gcd B q:=rfl;rw[hgn] at hgc;have hm:(((B/Nat.gcd B q:Nat):Int)*(q:Int))=((Nat.lcm B q:Nat):Int):=by rw[<-Be,Int.natCast_mul]
   have hdv:dW .fdiv (.int B) (.int (Nat.gcd B q:Nat)) J=some (.int ((B/Nat.gcd B q:Nat):Int),J):=by
    exact nr hg0 (Nat.lt_of_le_of_lt (Nat.le_trans hgle hqle) (Nat.lt_trans hd' (Nat.le_of_ble_eq_true rfl)))
   have hmu:dW .mul (.int ((B/Nat.gcd B q:Nat):Int)) (.int (q:Int)) J=some (.int (Nat.lcm B q:Nat),J):=by
    exact(cu (.inr (Nat.lt_trans (Nat.lt_of_le_of_lt hqle hd') (Nat.le_of_ble_eq_true rfl)))).trans (congrArg (fun z=>some (D.int z,J)) hm)
   exact aD (aA (aA rfl (ah (al rfl (ao (ao rfl rfl hidx) rfl hi1)) hgc) hdv) (ao (ao rfl rfl hidx) rfl hi1) hmu)
  ·rcases List.mem_cons.mp he with rfl|he
   ·intro h;rw[hone h] at h2;exact Nat.dvd_trans (Nat.dvd_lcm_right B dn) h2
   ·exact h3 e he
theorem uY {n:Int} {dn:Nat} {c:Cf} {es:Es} {i w:Nat} {o4:Option D} (hW:2^30<=W) (hd:0<dn) (hd':dn<2^15) (hb:∀x y,(c x y*n).natAbs<2^30) (p:cy n dn c es) (hi:J[i]?=some (.dict es w)) :
  ∀(suf:Es) (G:Nat) (o3:Option D),(∀e∈suf,e∈es)->n.natAbs ∣ G->
   ∀{Gl:Prop},(∀G' q3,a9 (aw [3] false) (aP (ab FT W (k+3)) W ya) (some (i,w)) (suf.map fun e=>ae e.1) [some (.ref i),some (.int (dn:Nat)),some (.int (G:Nat)),o3,o4] J
    = some (.next,[some (.ref i),some (.int (dn:Nat)),some (.int (G':Nat)),q3,o4],J)->n.natAbs ∣ G'->G' ∣ G->(∀e∈suf,c (kx e.1) (ky e.1)=1->G' ∣ n.natAbs)->Gl)->Gl:=by
 intro A0;induction A0 with
 |nil=>
  intro G o3 _ hG _ kk
  exact kk G o3 rfl hG (Nat.dvd_refl _) (fun e he=>by cases he)
 |cons e suf ih=>
  intro G o3 hf hG _ kk;obtain⟨x,y,rfl,hc⟩:=p.entry (hf e List.mem_cons_self);obtain⟨p1,q1,e1,o1,l1,s1,x1⟩:=fQ (c x y*n) (b:=(dn:Int)) (by exact Int.natCast_pos.mpr hd);have hidx:bo J (.ref i) (ae [x,y])=some (qD p1 q1):=(bP hi (p.at hc) rfl).trans (congrArg some e1);have hnt:n.natAbs ∣ (c x y*n).natAbs:=by rw[Int.natAbs_mul];exact Nat.dvd_mul_left _ _
  have hone:c x y=1->(c x y*n).natAbs=n.natAbs:=fun h=>by rw[h,Int.one_mul]
  have hbb:=hb x y;have hr:=gT (W:=W) (n:=k) (J:=J) (a:=p1) (b:=q1) (c:=(dn:Int)) (d:=1) (.inr (by exact Nat.lt_of_lt_of_le hd' (by decide))) (.inr (by exact Nat.le_add_left _ _)) (by exists L01,0x90110011458000113802,o1) (by rw[Int.mul_one];omega) (by rw[Int.mul_one];exists L31,0x200006207501100360020750001146781070048000113880004110080040000000811836,hW,hd',o1,l1,(fa (q1)));rw[x1,Int.mul_one,i8 (t':=c x y*n) (b':=1) o1 (by exact Int.le_refl _) (by exists L01,0x114502),aF] at hr;generalize c x y*n=t at *;refine' ih (Nat.gcd G t.natAbs) (some (ae [x,y])) (fun e he=>hf e (List.mem_cons_of_mem _ he)) (Nat.dvd_gcd hG hnt) fun G' q3 hl h1 h2 h3=>?main
  case' main=>skip
  refine kk G' q3 ?_ h1 (Nat.dvd_trans h2 (Nat.gcd_dvd_left _ _)) (fun e he=>?_)
  ·rw[List.map_cons];refine(aT (l1:=[some (.ref i),some (.int (dn:Nat)),some (.int (G:Nat)),some (ae [x,y]),o4]) (l2:=[some (.ref i),some (.int (dn:Nat)),some (.int (Nat.gcd G t.natAbs:Nat)),some (ae [x,y]),o4]) (J2:=J) (by rfl) ?_ (aL hi)).trans hl;have hi0:bo J (qD t 1) (.int 0)=some (.int t):=rfl;have hgc:=lO (W:=W) (n:=k+2) (J:=J) (a:=(G:Int)) (b:=t) (by omega);have hgn:Int.gcd (G:Int) t=Nat.gcd G t.natAbs:=rfl;rw[hgn] at hgc;exact aD (ah (al rfl (ao (ah (al (ao rfl rfl hidx) rfl) hr) rfl rfl)) hgc)
  ·rcases List.mem_cons.mp he with rfl|he
   ·intro h;rw[hone h] at h2;exact Nat.dvd_trans h2 (Nat.gcd_dvd_right _ _)
   ·exact h3 e he
end
theorem rW (a b:Int) (J:St):cP .eq (.int a) (.int b) J=some (a==b):=rfl
theorem tc (a:Int):a.fdiv (-1) = -a:=by
 rw[Int.fdiv_eq_ediv_of_dvd ⟨-a,by omega⟩];omega
section
variable {W k:Nat} {J:St}
theorem et {n:Int} {dn:Nat} {c:Cf} {i:Nat} {X Y:Int} (hW:2^30<=W) (hd:0<dn) (hd':dn<2^15) (hn:n≠0) (hn':n.natAbs<2^15) (hg:Int.gcd n dn=1) (hb:∀x y,(c x y*n).natAbs<2^30) (bx:jK c) (hl:gD X Y c)
  (hi:ar n dn c i J)
  {Gl:Prop} (kk:∀r J',ab FT W (k+5) be [.ref i] J=some (.tup [qD n dn,.ref r],J')->aN J J'->J.length<=r->ar 1 1 c r J'->Gl):Gl:=by
 obtain⟨es,w,hi,p⟩:=hi;have hne:es≠[]:=p.ne_nil (x:=X) (y:=Y) (by rw[hl.1];decide);have hel:es.length<ay:=p.len bx;have hez:((es.length:Int)==0)=false:=by simpa using hne
 have hmem:∃e∈es,c (kx e.1) (ky e.1)=1:=by
  have hgx:=p.get X Y;rw[if_neg (by rw[hl.1];decide)] at hgx;exact⟨_,lW hgx,hl.1⟩
 obtain⟨e1,he1,hc1⟩:=hmem
 refine uZ (W:=W) (k:=k+1) (o2:=some (.int 0)) (o4:=none) hW hd hd' hg p hi es 1 none (fun e he=>he) (Nat.one_dvd _) (by exact Nat.one_pos) fun B q3 h1 hB1 _ hB2=>?_;have hB:B=dn:=Nat.dvd_antisymm hB1 (hB2 e1 he1 hc1);subst hB
 refine uY (W:=W) (k:=k+1) (o4:=none) hW hd hd' hb p hi es 0 q3 (fun e he=>he) (Nat.dvd_zero _) fun G q3' h2 hG1 _ hG2=>?_;have hG:G=n.natAbs:=Nat.dvd_antisymm (hG2 e1 he1 hc1) hG1;subst hG;have hlead:=nV (W:=W) (k:=k+2) p hi (by rw[hl.1];decide) hl.2;rw[hl.1,Int.one_mul,ll hd hg] at hlead;have hrat:=d9 (W:=W) (n:=k+2) (J:=J) (t:=n) (b:=(B:Int)) (by exists L10,0x901100758000110812,hd) (by exact Nat.lt_of_lt_of_le hd' (by decide)) (by exists L30,0x20010762075011107361072075107011467880004110080040000000811836,hW,hd',(fa (↑B)));rw[ll hd hg] at hrat;have hrinv:=tE (W:=W) (n:=k+1) (J:=J) (a:=n) (b:=(B:Int)) hn (by exact Nat.lt_of_lt_of_le hn' (by decide)) (by exists L21,0x1000061075011003600107500011467880004110080040000000811824,hW,hn',(fa (n)));have hgc:Int.gcd (B:Int) n=1:=by rw[Int.gcd_comm];exact hg
 have hinv:∃u v:Int,aV (B:Int) n=qD u v/\u≠0/\u.natAbs<2^15/\0<v/\v<2^15/\n*u=(B:Int)*v:=by
  unfold aV lh;rw[hgc];by_cases hp:n>0
  ·rw[if_pos hp];refine⟨B,n,by simp,by (exists L10,0x901100758000110812,hd),by exact hd',by omega,by omega,Int.mul_comm _ _⟩
  ·rw[if_neg hp];refine⟨-B,-n,?_,by (exists L10,0x9011007658000110812,hd),by (exists L20,0x8000411000076610750110076360076107500760114678800041000824,hd',(fa _)),by (exists L01,0x6011390001138890110058802,hn,hp),by omega,?_⟩
   ·rw[show(0:Int)-((1:Nat):Int) = -1 by rfl,tc,tc]
   ·grind
 obtain⟨u,v,huv,hu,hu',hv,hv',he⟩:=hinv;rw[huv] at hrinv
 refine nN (W:=W) (k:=k) hW (by exact Int.natCast_pos.mpr hd) (by omega) hu hu' hv hv' he p bx hi fun gs hsc pg=>?_;refine kk J.length (J++[.dict gs 0]) ?_ (aN.app _ _) (Nat.le_refl _) ⟨gs,0,ai _ _,pg⟩;refine am (fn:=⟨1,5,gv⟩) rfl rfl (l:=[some (.ref i),some (.int (B:Nat)),some (.int (n.natAbs:Nat)),q3',some (qD n B)])
  (ag (l1:=[some (.ref i),none,none,none,none]) (J1:=J) ?_
  (ag (l1:=[some (.ref i),some (.int 1),some (.int 0),none,none]) (J1:=J) ?_
  (ag (l1:=[some (.ref i),some (.int (B:Nat)),some (.int 0),q3,none]) (J1:=J) ?_
  (ag (l1:=[some (.ref i),some (.int (B:Nat)),some (.int (n.natAbs:Nat)),q3',none]) (J1:=J) ?_
  (ag (l1:=[some (.ref i),some (.int (B:Nat)),some (.int (n.natAbs:Nat)),q3',some (qD n B)]) (J1:=J) ?_ ?_)))))
 ·exact eL (aq (bz rfl (dh hi hel)) rfl (congrArg some hez)) rfl
 ·rfl
 ·rw[bY (ds:=es.map fun e=>ae e.1) (src:=some (i,w)) (J1:=J) (by exact bA rfl hi)];exact h1
 ·rw[bY (ds:=es.map fun e=>ae e.1) (src:=some (i,w)) (J1:=J) (by exact bA rfl hi)];exact h2
 ·have i1:∀x:D,bo J (.tup [x,qD n B]) (.int 1)=some (qD n B):=fun _=>rfl;have i0:bo J (qD n B) (.int 0)=some (.int n):=rfl;have hg:ev (ab FT W (k+4)) (.idx (.idx (.call ek (.aa (.var 0) (.aa (.lit (.str (Str.ofString "lex"))) .af))) (.lit (.int 1))) (.lit (.int 0))) [some (.ref i),some (.int (B:Nat)),some (.int (n.natAbs:Nat)),q3',none] J=some (.int n,J):=ao (ao (ah (al rfl rfl) hlead) rfl (i1 _)) rfl i0;refine aD (ah (al (x:=.int n) (J1:=J) ?_ rfl) hrat);by_cases hp:n>0
  ·have:((n.natAbs:Nat):Int)=n:=by exists L11,0x7500600750110036000075000114678000113812,hp,(fa (n))
   exact fc (aq hg rfl (ut hp)) (congrArg (fun x=>some (D.int x,J)) this)
  ·have : -((n.natAbs:Nat):Int)=n:=by exists L11,0x7650060075011003600007500011467890001138812,hp,(fa (n))
   exact fU (aq hg rfl (zB hp)) (congrArg (fun x=>some (D.int x,J)) this)
 ·exact bk (aS (al rfl (ah (al rfl (ah (b7 rfl) hrinv)) hsc)) fm)
theorem k4 {i w:Nat} (hi:J[i]?=some (.dict [] w)):ab FT W (k+1) be [.ref i] J=some (.tup [qD 0 1,.ref J.length],J++[.dict [] 0]):=by
 refine am (fn:=⟨1,5,gv⟩) rfl rfl (l:=[some (.ref i),none,none,none,none]) (fv ?_);exact jq (aq (bz rfl (dh hi ((by decide)))) rfl rfl) rfl
theorem oY {c:Cf} {es:Es} {i w:Nat} {n d:Int} (p:cy n d c es) (hi:J[i]?=some (.dict es w)) (bx:jK c):ab FT W (k+1) aQ [.ref i] J=some (.bool ((es.filter fun e=>decide (kx e.1+ky e.1>0)).length==0),J):=by
 refine am (fn:=⟨1,2,f8⟩) rfl rfl (l:=[some (.ref i),none]) ?_
 have hc:=fy (bind:=aw [1] false) (test:=iV (ab FT W k) (.cmp .gt (.sum (.var 1)) (.lit (.int 0)))) (elt:=ev (ab FT W k) (.var 1)) (src:=some (i,w)) (l:=[some (.ref i),none]) (J:=J) (fun e=>ae e.1) (fun e=>decide (kx e.1+ky e.1>0)) (fun e=>ae e.1) (aL hi) es (fun e he=>by
  obtain⟨x,y,rfl,_⟩:=p.entry he;refine⟨[some (.ref i),some (ae [x,y])],by rfl,?_,fun _=>by rfl⟩
  exact d6 (aq (Bo (n:=x+y) rfl (congrArg (fun z=>some (z+y)) (Int.zero_add x))) rfl rfl))
 have hl:(es.map fun e=>ae e.1).length<ay:=by rw[List.length_map];exact p.len bx
 have hl2:((es.filter fun e=>decide (kx e.1+ky e.1>0)).map fun e=>ae e.1).length<ay:=by
  rw[List.length_map];exact Nat.lt_of_le_of_lt (List.length_filter_le _ _) (p.len bx)
 have hit:eA (ab FT W k) (.ix (.var 0)) [some (.ref i),none] J=some (es.map fun e=>ae e.1,some (i,w),J):=by exact bA rfl hi
 have hevL:di (ab FT W k) (.aE (.var 1) [1] false (.ix (.var 0)) (some (.cmp .gt (.sum (.var 1)) (.lit (.int 0))))) [some (.ref i),none] J=some ((es.filter fun e=>decide (kx e.1+ky e.1>0)).map (fun e=>ae e.1),J):=fe hit hl hc;show aP (ab FT W k) W (.ret (.cmp .eq (.jg (.aE (.var 1) [1] false (.ix (.var 0)) (some (.cmp .gt (.sum (.var 1)) (.lit (.int 0)))))) (.lit (.int 0)))) [some (.ref i),none] J=_;refine(bk (aq (wX hevL hl2) rfl rfl)).trans ?_;rw[List.length_map]
 generalize (es.filter fun e=>decide (kx e.1+ky e.1>0)).length=m;have:((m:Int)==0)=(m==0):=by rw[Bool.eq_iff_iff];simp
 rw[this]
theorem qK {c:Cf} {i:Nat} {n d:Int} {x y:Int} (hi:ar n d c i J) (bx:jK c) (h:c x y≠0) (hp:0<x+y):ab FT W (k+1) aQ [.ref i] J=some (.bool false,J):=by
 obtain⟨es,w,hi,p⟩:=hi;rw[oY p hi bx];have hg:=p.get x y;rw[if_neg h] at hg;have hm:=lW hg;have:([x,y],aV (c x y*n) d)∈es.filter fun e=>decide (kx e.1+ky e.1>0):=by
  rw[List.mem_filter];exact⟨hm,by exact decide_eq_true hp⟩
 have hne:=List.length_pos_of_mem this;have:((es.filter fun e=>decide (kx e.1+ky e.1>0)).length==0)=false:=by simpa using Nat.pos_iff_ne_zero.mp hne
 rw[this]
theorem nK {c:Cf} {i:Nat} {n d:Int} (hi:ar n d c i J) (h:∀x y,c x y≠0->x=0/\y=0):ab FT W (k+1) aQ [.ref i] J=some (.bool true,J):=by
 obtain⟨es,w,hi,p⟩:=hi;rw[oY p hi (fun x y q=>by have:=h x y q;exists L02,0x9111031001146911003600011460111050110056804,this)];have:(es.filter fun e=>decide (kx e.1+ky e.1>0))=[]:=by
  rw[List.filter_eq_nil_iff];intro e he;obtain⟨x,y,rfl,hc⟩:=p.entry he;obtain⟨rfl,rfl⟩:=h x y hc;simp[kx,ky]
 rw[this];rfl
end
noncomputable def cZ (z:List Int) (p:Int):Int:=if 0<=p then z.getD p.toNat 0 else 0
theorem d8 (p:Int):cZ [] p=0:=by unfold cZ;split<;>rfl
theorem dG (x:Int) (z:List Int) (p:Int):cZ (x::z) p=(if p=0 then x else 0)+cZ z (p-1):=by
 unfold cZ;by_cases h:0<=p
 ·by_cases h0:p=0
  ·subst h0;simp
  ·obtain⟨m,rfl⟩:∃m:Nat,p=(m:Int)+1:=⟨(p-1).toNat,by exists L11,0x11100720050110020111110053611100500751110050114678901100588000114812,h,h0,(ft (p-1))⟩;rw[if_pos h,if_neg h0,if_pos (by exists L10,0x11111100725011412),show((m:Int)+1).toNat=m+1 by exact rfl,show((m:Int)+1-1).toNat=m by exists L20,0x10002011002011111111107253611111110725007511111110725011467824,(ft _)];simp
 ·rw[if_neg h,if_neg (by exists L01,0x9011005890001148802,h),if_neg (by exists L01,0x91110050114890001148802,h)];rfl
theorem nC {z:List Int} {m:Nat} (hm:m<z.length) (v p:Int):cZ (z.set m v) p=if p=(m:Int) then v else cZ z p:=by
 unfold cZ;by_cases h:0<=p
 ·by_cases h0:p=(m:Int)
  ·subst h0;simp[hm,List.getElem?_set]
  ·have:m≠p.toNat:=by exists L21,0x91000280111020110036001075000114678900700588000114824,h,h0,(ft (p))
   simp[h,h0,List.getElem?_set,this]
 ·rw[if_neg h,if_neg h,if_neg (by exists L11,0x9007005890001148812,h)]
theorem kW {z:List Int} {m:Nat} (hm:m<z.length):z[m]?=some (cZ z m):=by
 unfold cZ;rw[if_pos (by exact Int.natCast_nonneg _),Int.toNat_natCast,List.getElem?_eq_getElem hm];simp[hm]
theorem uX {z:List Int} {p:Int} (h:(z.length:Int)<=p):cZ z p=0:=by
 unfold cZ;split
 ·rw[List.getD_eq_getElem?_getD,List.getElem?_eq_none (by exists L21,0x100010111020110036001075000114678000074824,h,(ft (p)))];rfl
 ·rfl
theorem x9 {a b:List Int} (hl:a.length=b.length) (h:∀p,cZ a p=cZ b p):a=b:=by
 apply List.ext_getElem?
 intro m;by_cases hm:m<a.length
 ·rw[kW hm,kW (by exact Nat.lt_of_lt_of_eq hm hl),h]
 ·rw[List.getElem?_eq_none (by exact Nat.le_of_not_lt hm),List.getElem?_eq_none (by exists L30,0x201019002008810002836,hl,hm)]
theorem nD (n:Nat) (p:Int):cZ (List.replicate n 0) p=0:=by
 unfold cZ;split
 ·by_cases h:p.toNat<n<;>simp[List.getElem?_replicate,h]
 ·rfl
noncomputable def zs:List Int->List Int->Int->Int
 | [],_,_=>0
 |x::a,b,p=>x*cZ b p+zs a b (p-1)
noncomputable def fj (z:List Int) (r:Nat) (J:St):Prop:=∃w,J[r]?=some (.list (z.map .int) w)
theorem fj.ext {z:List Int} {r:Nat} {a b:St} (h:fj z r a) (e:aN a b):fj z r b:=by
 obtain⟨w,h⟩:=h;exact⟨w,e.get h⟩
section
variable {W k:Nat} {J:St}
noncomputable abbrev qg:XS:=.aug (.var 2) (.bin .add (.var 3) (.var 5)) .add (.bin .mul (.var 4) (.var 6))
theorem uV {i wj j:Nat} {db:List D} {o0 o1:Option D} {x:Int} (hj:J[j]?=some (.list db wj)) :
  ∀(suf:List Int) (j0:Nat) (z:List Int) (w:Nat) (o5 o6:Option D),i+j0+suf.length<=z.length->z.length<1048576->(∀y∈suf,y.natAbs<2^63)->
   ∀{Gl:Prop},(∀z' w' q5 q6,a9 (aw [5,6] true) (aP (ab FT W k) W qg) (some (j,wj)) (b8 j0 (suf.map .int)) [o0,o1,some (.ref J.length),some (.int (i:Nat)),some (.int x),o5,o6] (J++[.list (z.map .int) w])
    = some (.next,[o0,o1,some (.ref J.length),some (.int (i:Nat)),some (.int x),q5,q6],J++[.list (z'.map .int) w'])->z'.length=z.length->(∀p,cZ z' p=cZ z p+x*cZ suf (p-i-j0))->Gl)->Gl:=by
 intro A0;induction A0 with
 |nil=>
  intro j0 z w o5 o6 _ _ _ _ kk
  exact kk z w o5 o6 rfl rfl (fun p=>by rw[d8];simp)
 |cons y suf ih=>
  intro j0 z w o5 o6 hl hz hy _ kk;simp only[List.length_cons] at hl;have hm:i+j0<z.length:=by exact Nat.lt_of_le_of_lt (Nat.le_add_right _ _) hl
  refine ih (j0+1) (z.set (i+j0) (cZ z ((i+j0:Nat):Int)+x*y)) (w+1) (some (.int (j0:Nat))) (some (.int y)) (by rw[List.length_set];exists L40,0x302011110200221301112021000221848,hl) (by rw[List.length_set];omega) (fun y hy'=>hy y (List.mem_cons_of_mem _ hy')) fun z' w' q5 q6 hlp h1 h2=>?_
  refine kk z' w' q5 q6 ?_ (by rw[h1,List.length_set]) (fun p=>?_)
  ·rw[List.map_cons];show a9 _ _ _ (.tup [.int (j0:Nat),.int y]::b8 (j0+1) (suf.map .int)) _ _=_;refine(aT (l1:=[o0,o1,some (.ref J.length),some (.int (i:Nat)),some (.int x),some (.int (j0:Nat)),some (.int y)]) (by rfl) ?_ (bN (an hj))).trans hlp;have hm1:qf x y:=.inr (hy y List.mem_cons_self);have h3:(J++[AO.list (z.map .int) w])[J.length]?=some (.list (z.map .int) w):=ai _ _;have hs:(J++[AO.list (z.map .int) w]).set J.length (.list ((z.set (i+j0) (cZ z ((i+j0:Nat):Int)+x*y)).map .int) (w+1))=_:=dk _ _ _;have hk:(0:Int)<=(i:Int)+(j0:Int)/\(i:Int)+(j0:Int)<(ay:Int):=by
    have:ay=1048576:=rfl;exists L40,0x3072071072320710720114610000061302800201020810000061000848,hz,hm,this
   have hkn:((i:Int)+(j0:Int)).toNat=i+j0:=by exact rfl
   have hix:bo (J++[AO.list (z.map .int) w]) (.ref J.length) (.int ((i:Int)+(j0:Int)))=some (.int (cZ z ((i+j0:Nat):Int))):=by
    exact jU h3 hk (by rw[hkn,List.getElem?_map,kW hm];rfl)
   have hset:ic (J++[AO.list (z.map .int) w]) (.ref J.length) (.int ((i:Int)+(j0:Int))) (.int (cZ z ((i+j0:Nat):Int)+x*y))=some (J++[.list ((z.set (i+j0) (cZ z ((i+j0:Nat):Int)+x*y)).map .int) (w+1)]):=by
    exact(jM h3 hk (by rw[hkn,List.length_map];exact hm)).trans (by rw[hkn,<-List.map_set,hs])
   exact wT rfl (aA rfl rfl rfl) hix (aA rfl rfl (cu hm1)) rfl hset
  ·rw[h2,nC hm,dG,show p-(i:Int)-((j0+1:Nat):Int)=p-i-j0-1 by exists L21,0x1111070070055511110270070055524];by_cases hp:p=((i+j0:Nat):Int)
   ·rw[if_pos hp,if_pos (by exists L21,0x1110700700555100027005824,hp),<-hp,Int.mul_add,Int.add_assoc]
   ·rw[if_neg hp,if_neg (by exists L21,0x901110700700555891000270058824,hp),Int.zero_add]
theorem uU {ia wi j wj:Nat} {da:List D} {b:List Int} (hi:J[ia]?=some (.list da wi)) (hj:J[j]?=some (.list (b.map .int) wj)) (hb:∀y∈b,y.natAbs<2^63) :
  ∀(suf:List Int) (i0:Nat) (z:List Int) (w:Nat) (o3 o4 o5 o6:Option D),i0+suf.length+b.length<=z.length+1->z.length<1048576->
   ∀{Gl:Prop},(∀z' w' q3 q4 q5 q6,a9 (aw [3,4] true) (aP (ab FT W k) W (.ifs (.cmp .ne (.var 4) (.lit (.int 0))) (.for_ [5,6] true (.dc (.var 1)) qg) (.nil))) (some (ia,wi)) (b8 i0 (suf.map .int)) [some (.ref ia),some (.ref j),some (.ref J.length),o3,o4,o5,o6] (J++[.list (z.map .int) w])
    = some (.next,[some (.ref ia),some (.ref j),some (.ref J.length),q3,q4,q5,q6],J++[.list (z'.map .int) w'])->z'.length=z.length->(∀p,cZ z' p=cZ z p+zs suf b (p-i0))->Gl)->Gl:=by
 intro A0;induction A0 with
 |nil=>
  intro i0 z w o3 o4 o5 o6 _ _ _ kk
  exact kk z w o3 o4 o5 o6 rfl rfl (fun p=>(Int.add_zero _).symm)
 |cons x suf ih=>
  intro i0 z w o3 o4 o5 o6 hl hz _ kk;simp only[List.length_cons] at hl;have hstep:∃z1 w1 q5 q6,aP (ab FT W k) W (.ifs (.cmp .ne (.var 4) (.lit (.int 0))) (.for_ [5,6] true (.dc (.var 1)) qg) (.nil)) [some (.ref ia),some (.ref j),some (.ref J.length),some (.int (i0:Nat)),some (.int x),o5,o6] (J++[.list (z.map .int) w])
    = some (.next,[some (.ref ia),some (.ref j),some (.ref J.length),some (.int (i0:Nat)),some (.int x),q5,q6],J++[.list (z1.map .int) w1])/\z1.length=z.length/\∀p,cZ z1 p=cZ z p+x*cZ b (p-i0):=by
   by_cases hx:x=0
   ·refine⟨z,w,o5,o6,?_,rfl,fun p=>by rw[hx];simp⟩;exact eL (aq rfl rfl (A3 hx)) rfl
   ·refine uV (W:=W) (k:=k) (i:=i0) (o0:=some (.ref ia)) (o1:=some (.ref j)) (x:=x) hj b 0 z w o5 o6 (by exists L40,0x3020011002211113022011110200221848,hl) hz hb fun z1 w1 q5 q6 h1 h2 h3=>?_;refine⟨z1,w1,q5,q6,?_,h2,fun p=>by rw[h3];simp⟩;rw[<-h1];exact jq (aq rfl rfl (yR hx)) (bY (fW rfl (an hj)))
  obtain⟨z1,w1,q5,q6,h1,h2,h3⟩:=hstep
  refine ih (i0+1) z1 w1 (some (.int (i0:Nat))) (some (.int x)) q5 q6 (by exists L50,0x1114022010111002221304028111302201111020022185a,hl,h2) (by exists L20,0x1000006110000102810000061000824,hz,h2) fun z' w' q3' q4' q5' q6' hlp h4 h5=>?_
  refine kk z' w' q3' q4' q5' q6' ?_ (by exact Eq.trans h4 h2) (fun p=>?_)
  ·rw[List.map_cons];show a9 _ _ _ (.tup [.int (i0:Nat),.int x]::b8 (i0+1) (suf.map .int)) _ _=_;exact(aT (by rfl) h1 (bN (an hi))).trans hlp
  ·rw[h5,h3,show p-((i0+1:Nat):Int)=p-i0-1 by exists L11,0x11100700551110027005512];exact Int.add_assoc _ _ _
theorem mw {i j:Nat} {a b:List Int} (hi:fj a i J) (hj:fj b j J) (hb:∀y∈b,y.natAbs<2^63) (ha0:a≠[]) (hb0:b≠[]) (hl:a.length+b.length<1048576)
  {Gl:Prop} (kk:∀z w,ab FT W (k+1) og [.ref i,.ref j] J=some (.ref J.length,J++[.list (z.map .int) w])->z.length+1=a.length+b.length->(∀p,cZ z p=zs a b p)->Gl):Gl:=by
 obtain⟨wi,hi⟩:=hi;obtain⟨wj,hj⟩:=hj;have la:0<a.length:=List.length_pos_iff.mpr ha0;have lb:0<b.length:=List.length_pos_iff.mpr hb0
 refine uU (W:=W) (k:=k) hi hj hb a 0 (List.replicate (a.length+b.length-1) 0) 0 none none none none (by rw[List.length_replicate];exists L30,0x1112021000011221011202111100020610002111202210002111167836,(fs (a.length+b.length) (1))) (by rw[List.length_replicate];exact Nat.lt_of_le_of_lt (Nat.sub_le _ _) hl) fun z w q3 q4 q5 q6 h1 h2 h3=>?_;rw[List.length_replicate] at h2
 refine kk z w ?_ (by exists L40,0x30211110220112021110030206003021112022003021111678201028000110848,lb,h2,(fs (a.length+b.length) (1))) (fun p=>by rw[h3,nD];simp);have hla:a.length<1048576:=by exact Nat.lt_of_le_of_lt (Nat.le_add_right _ _) hl
 have hlb:b.length<1048576:=by exact Nat.lt_of_le_of_lt (Nat.le_add_left _ _) hl
 have ea:((a.length:Int)==0)=false:=by simpa using ha0
 have eb:((b.length:Int)==0)=false:=by simpa using hb0
 refine am (fn:=⟨2,7,xI⟩) rfl rfl (l:=[some (.ref i),some (.ref j),some (.ref J.length),q3,q4,q5,q6])
  (ag (l1:=[some (.ref i),some (.ref j),none,none,none,none,none]) (J1:=J) ?_
  (ag (l1:=[some (.ref i),some (.ref j),some (.ref J.length),none,none,none,none]) (J1:=J++[.list ((List.replicate (a.length+b.length-1) (0:Int)).map .int) 0]) ?_
  (ag (l1:=[some (.ref i),some (.ref j),some (.ref J.length),q3,q4,q5,q6]) (J1:=J++[.list (z.map .int) w]) ?_ ?_)))
 ·exact eL (dq (aq (bz rfl (eV hi (by rw[List.length_map];exact hla))) rfl (congrArg some (by rw[List.length_map];exact ea))) (aq (bz rfl (eV hj (by rw[List.length_map];exact hlb))) rfl (congrArg some (by rw[List.length_map];exact eb)))) rfl
 ·have hn:((a.length:Int)+(b.length:Int)-1).natAbs<1048576:=by exists L30,0x100000612001111070072562075011111107007253611110700725207511110700725011467810000061100020836,hl,(fa _)
  have hn2:((a.length:Int)+(b.length:Int)-1).toNat=a.length+b.length-1:=by exists L40,0x100020111021113020206302021111022302021111678011002011111307207253611130720725007511130720725011467848,(ft _),(fs _ _)
  exact(aD (ot rfl (aA (aA (bz rfl (eK hi hla)) (bz rfl (eK hj hlb)) rfl) rfl rfl) hn)).trans (by rw[hn2,List.map_replicate];rfl)
 ·rw[bY (ds:=b8 0 (a.map .int)) (src:=some (i,wi)) (J1:=J++[.list ((List.replicate (a.length+b.length-1) (0:Int)).map .int) 0]) (by exact fW rfl (an hi))];exact h1
 ·rfl
end
theorem rU (a b:Int) (J:St):cP .ne (.int a) (.int b) J=some (!(a==b)):=rfl
theorem kP {x y p w:Int} (h0:0<=x) (h1:x<w):p=x+w*y↔(p%w=x/\p/w=y):=by
 have hw:0<w:=by exact Int.lt_of_le_of_lt h0 h1
 constructor
 ·rintro rfl;rw[Int.add_mul_emod_self_left,Int.emod_eq_of_lt h0 h1,Int.add_mul_ediv_left _ _ (by exact Int.ne_of_gt hw),Int.ediv_eq_zero_of_lt h0 h1];exact⟨rfl,by exact Int.zero_add _⟩
 ·rintro⟨rfl,rfl⟩;have:=Int.emod_add_mul_ediv p w;exact(this).symm
noncomputable def fl (c:Cf) (w p:Int):Int:=if 0<=p then c (p%w) (p/w) else 0
noncomputable def uQ (w:Int) (es:Es):Prop:=∀e∈es,∃x y,e.1=[x,y]/\0<=x/\x<w/\0<=y/\y<=8
noncomputable def a6 (w:Int) (e:List Int×D):Int:=kx e.1+w*ky e.1
noncomputable def bj (w:Int) (es:Es) (m:Int):Int:=es.foldl (fun m e=>if a6 w e+1>m then a6 w e+1 else m) m
theorem lc (w:Int):∀(es:Es) (m:Int),m<=bj w es m/\∀e∈es,a6 w e<bj w es m:=by
 intro A0;induction A0 with
 |nil=>
  intro m;exact⟨Int.le_refl _,fun e he=>by cases he⟩
 |cons e es ih=>
  intro m;have hm:a6 w e+1<=(if a6 w e+1>m then a6 w e+1 else m)/\m<=(if a6 w e+1>m then a6 w e+1 else m):=by split<;>omega
  show m<=bj w es (if a6 w e+1>m then a6 w e+1 else m)/\∀e'∈e::es,a6 w e'<bj w es (if a6 w e+1>m then a6 w e+1 else m);generalize (if a6 w e+1>m then a6 w e+1 else m)=m' at *;have ih:=ih m';refine⟨by omega,fun e' he'=>?_⟩;rcases List.mem_cons.mp he' with rfl|he'
  ·omega
  ·exact ih.2 e' he'
theorem ve (w B:Int):∀(es:Es) (m:Int),m<=B->(∀e∈es,a6 w e<B)->bj w es m<=B:=by
 intro A0;induction A0 with
 |nil=>
  intro m h _;exact h
 |cons e es ih=>
  intro m h h2
  exact ih _ (by have:=h2 e List.mem_cons_self;dsimp only;split<;>(first|exact this|omega)) fun e he=>h2 e (List.mem_cons_of_mem _ he)
theorem mG {w:Int} (hw:0<=w) {es:Es} (hk:uQ w es) {B:Int} (hB:∀e∈es,ky e.1<=B) {e:List Int×D} (he:e∈es):0<=a6 w e/\a6 w e<w+w*B:=by
 obtain⟨x,y,h,h1,h2,h3,h4⟩:=hk e he;have hb:=hB e he;unfold a6;rw[h] at hb ⊢;show 0<=x+w*y/\x+w*y<w+w*B;have a1:0<=w*y:=Int.mul_nonneg hw h3;have a2:w*y<=w*B:=Int.mul_le_mul_of_nonneg_left hb hw;exists L04,0x3010220002320002011463020482001148100038000114808,h1,h2,a1,a2
section
variable {W k:Nat} {J:St}
noncomputable abbrev wR:X:=.bin .add (.idx (.var 3) (.lit (.int 0))) (.bin .mul (.var 1) (.idx (.var 3) (.lit (.int 1))))
noncomputable abbrev zF:XS:=.asg 2 (.max2 (.var 2) (.bin .add wR (.lit (.int 1))))
noncomputable abbrev zE:XS:=.aug (.var 4) wR .add (.idx (.idx (.var 0) (.var 3)) (.lit (.int 0)))
theorem vB {C:Nat->List D->St->Option (D×St)} {w x y:Int} {o0 o2 o4:Option D} (hw:0<=w) (hw':w<=8):ev C wR [o0,some (.int w),o2,some (ae [x,y]),o4] J=some (.int (x+w*y),J):=by
 have m:qf w y:=.inl (by omega);have i0:bo J (ae [x,y]) (.int 0)=some (.int x):=rfl;have i1:bo J (ae [x,y]) (.int 1)=some (.int y):=rfl;exact aA rfl (aA rfl rfl (cu m)) rfl
theorem wQ {i wi:Nat} {ds:Es} {w:Int} {o4:Option D} (hw:0<=w) (hw':w<=8) (hi:J[i]?=some (.dict ds wi)):∀(suf:Es) (m:Int) (o3:Option D),uQ w suf->
   ∀{Gl:Prop},(∀q3,a9 (aw [3] false) (aP (ab FT W k) W zF) (some (i,wi)) (suf.map fun e=>ae e.1) [some (.ref i),some (.int w),some (.int m),o3,o4] J
   = some (.next,[some (.ref i),some (.int w),some (.int (bj w suf m)),q3,o4],J)->Gl)->Gl:=by
 intro A0;induction A0 with
 |nil=>
  intro m o3 _ _ kk;exact kk o3 rfl
 |cons e suf ih=>
  intro m o3 hk _ kk;obtain⟨x,y,h,_⟩:=hk e List.mem_cons_self;obtain⟨k0,v⟩:=e;simp only at h;subst h;refine' ih (if x+w*y+1>m then x+w*y+1 else m) (some (ae [x,y])) (fun e he=>hk e (List.mem_cons_of_mem _ he)) fun q3 hl=>?main
  case' main=>skip
  refine kk q3 ?_;rw[List.map_cons];refine(aT (l1:=[some (.ref i),some (.int w),some (.int m),some (ae [x,y]),o4]) (by rfl) ?_ (aL hi)).trans hl;have hp:=vB (J:=J) (C:=ab FT W k) (o0:=some (.ref i)) (x:=x) (y:=y) (o2:=some (.int m)) (o4:=o4) hw hw';exact aD (zK rfl (aA hp rfl rfl))
theorem eI {w p x y:Int} (hp:0<=p) (h0:0<=x) (h1:x<w):[p%w,p/w]=[x,y]↔p=x+w*y:=by
 rw[kP h0 h1];simp
theorem wP {i wi:Nat} {es:Es} {c:Cf} {w:Int} {o2:Option D} (hw:0<=w) (hw':w<=8) (p:cK c es) (hi:J[i]?=some (.dict es wi)) :
  ∀(suf:Es) (z:List Int) (v:Nat) (o3:Option D),(∀e∈suf,e∈es)->(suf.map (·.1)).Nodup->uQ w suf->(∀e∈suf,0<=a6 w e/\a6 w e<z.length)->z.length<1048576->
   ∀{Gl:Prop},(∀z' v' q3,a9 (aw [3] false) (aP (ab FT W k) W zE) (some (i,wi)) (suf.map fun e=>ae e.1) [some (.ref i),some (.int w),o2,o3,some (.ref J.length)] (J++[.list (z.map .int) v])
    = some (.next,[some (.ref i),some (.int w),o2,q3,some (.ref J.length)],J++[.list (z'.map .int) v'])->z'.length=z.length->(∀q,0<=q->cZ z' q=cZ z q+if [q%w,q/w]∈suf.map (·.1) then c (q%w) (q/w) else 0)->Gl)->Gl:=by
 intro A0;induction A0 with
 |nil=>
  intro z v o3 _ _ _ _ _ _ kk
  exact kk z v o3 rfl rfl (fun q _=>by simp)
 |cons e suf ih=>
  intro z v o3 hf nd hk hp hz _ kk;obtain⟨x,y,h,h0,h1,_⟩:=hk e List.mem_cons_self;have hpe:=hp e List.mem_cons_self;obtain⟨x',y',he,hc⟩:=p.entry (hf e List.mem_cons_self);subst he;simp only[List.cons.injEq,and_true] at h;obtain⟨rfl,rfl⟩:=h;rw[Int.mul_one,aF] at *;simp only[List.map_cons,List.nodup_cons] at nd;change 0<=x'+w*y'/\x'+w*y'<z.length at hpe
  have hm:(x'+w*y').toNat<z.length:=by exists L22,0x10001110201110002361000210751000201146780071000231000201146824,hpe,(ft (x'+w*y'))
  have hcast:(((x'+w*y').toNat:Nat):Int)=x'+w*y':=by exists L22,0x10002107501110201110002361000210751000201146780071000231000201146824,hpe,(ft (x'+w*y'))
  refine' ih (z.set (x'+w*y').toNat (cZ z (x'+w*y')+c x' y')) (v+1) (some (ae [x',y'])) (fun e he=>hf e (List.mem_cons_of_mem _ he)) nd.2 (fun e he=>hk e (List.mem_cons_of_mem _ he))
   (fun e he=>by rw[List.length_set];exact hp e (List.mem_cons_of_mem _ he)) (by rw[List.length_set];exact hz) fun z' v' q3 hl hlen hz'=>?main
  case' main=>skip
  refine kk z' v' q3 ?_ (by rw[hlen,List.length_set]) (fun q hq=>?_)
  ·rw[List.map_cons];refine(aT (l1:=[some (.ref i),some (.int w),o2,some (ae [x',y']),some (.ref J.length)]) (by rfl) ?_ (by first|exact aL (an hi)|exact bN (an hi))).trans hl;have hpv:=vB (J:=J++[AO.list (z.map .int) v]) (C:=ab FT W k) (o0:=some (.ref i)) (x:=x') (y:=y') (o2:=o2) (o4:=some (.ref J.length)) hw hw';have h3:(J++[AO.list (z.map .int) v])[J.length]?=some (.list (z.map .int) v):=ai _ _;have hs:(J++[AO.list (z.map .int) v]).set J.length (.list ((z.set (x'+w*y').toNat (cZ z (x'+w*y')+c x' y')).map .int) (v+1))=_:=dk _ _ _;have hkk:(0:Int)<=x'+w*y'/\x'+w*y'<(ay:Int):=by
    have:ay=1048576:=rfl;exists L22,0x10710002310002011461000006110280071000231000201146810000061000824,hz,hpe,this
   have hix:bo (J++[AO.list (z.map .int) v]) (.ref J.length) (.int (x'+w*y'))=some (.int (cZ z (x'+w*y'))):=by
    exact jU h3 hkk (by rw[List.getElem?_map,kW hm,hcast];rfl)
   have hset:ic (J++[AO.list (z.map .int) v]) (.ref J.length) (.int (x'+w*y')) (.int (cZ z (x'+w*y')+c x' y'))=some (J++[.list ((z.set (x'+w*y').toNat (cZ z (x'+w*y')+c x' y')).map .int) (v+1)]):=by
    exact(jM h3 hkk (by rw[List.length_map];exact hm)).trans (by rw[<-List.map_set,hs])
   have hidx:bo (J++[AO.list (z.map .int) v]) (.ref i) (ae [x',y'])=some (qD (c x' y') 1):=(bP (an hi) (p.at hc) rfl).trans (by rw[Int.mul_one,aF]);have i0:bo (J++[AO.list (z.map .int) v]) (qD (c x' y') 1) (.int 0)=some (.int (c x' y')):=rfl;have e0:ev (ab FT W k) (.idx (.idx (.var 0) (.var 3)) (.lit (.int 0))) [some (.ref i),some (.int w),o2,some (ae [x',y']),some (.ref J.length)] (J++[AO.list (z.map .int) v])=some (.int (c x' y'),J++[AO.list (z.map .int) v]):=by
    exact ao (ao rfl rfl hidx) rfl rfl
   have e4:ev (ab FT W k) (.var 4) [some (.ref i),some (.int w),o2,some (ae [x',y']),some (.ref J.length)] (J++[AO.list (z.map .int) v])=some (.ref J.length,J++[AO.list (z.map .int) v]):=rfl;exact wT rfl hpv hix e0 rfl hset
  ·rw[hz' q hq,nC hm,hcast];simp only[List.map_cons,List.mem_cons];by_cases hqe:q=x'+w*y'
   ·have hk1:=(eI (y:=y') hq h0 h1).mpr hqe;have hn:[q%w,q/w]∉suf.map (·.1):=by rw[hk1];exact nd.1
    rw[if_pos hqe,if_neg hn,if_pos (.inl hk1),<-hqe];simp only[List.cons.injEq,and_true] at hk1;rw[hk1.1,hk1.2];exact Int.add_zero _
   ·have hk1:¬[q%w,q/w]=[x',y']:=fun z=>hqe ((eI hq h0 h1).mp z);rw[if_neg hqe];simp only[hk1,false_or]
theorem nE {z:List Int} {p:Int} (h:p<0):cZ z p=0:=by unfold cZ;rw[if_neg (by exact Int.not_le.mpr h)]
theorem gN {i wi:Nat} {es:Es} {c:Cf} {w:Nat} {K:Nat} (hw:2<=w) (hw':w<=8) (p:cK c es) (hi:J[i]?=some (.dict es wi)) (sc:cv K c) (hK:K<w)
  {Gl:Prop} (kk:∀z v,ab FT W (k+1) cS [.ref i,.int w] J=some (.ref J.length,J++[.list (z.map .int) v])->(z.length:Int)=bj w es 0->(∀q,cZ z q=fl c w q)->z.length<=w+w*K->Gl):Gl:=by
 have hkw:uQ w es:=fun e he=>by
  obtain⟨x,y,rfl,hc⟩:=p.entry he;have:=sc x y hc;exact⟨x,y,rfl,by exists L22,0x8111041001146007003600011461071041001146107004600011468001008811001824,hw',hK,this⟩
 have hkb:∀e∈es,ky e.1<=(K:Int):=fun e he=>by
  obtain⟨x,y,rfl,hc⟩:=p.entry he;have:=sc x y hc;show y<=K;exact(this).2.2.2
 have hpb:∀e∈es,0<=a6 w e/\a6 w e<w+w*K:=fun e he=>mG (by exact Int.natCast_nonneg _) hkw hkb he;have hs0:=(lc w es 0).1;have hwk:0<=(w:Int)*(K:Int):=Int.mul_nonneg (by exact Int.natCast_nonneg _) (by exact Int.natCast_nonneg _)
 have hs1:=ve w (w+w*K) es 0 (by exact Int.natCast_nonneg _) fun e he=>(hpb e he).2;have hs2:=(lc w es 0).2;have hwk2:(w:Int)*K<=8*8:=Int.mul_le_mul (by exact Int.ofNat_le.mpr hw') (by exists L20,0x8111074001008811001824,hw',hK) (by exact Int.natCast_nonneg _) (by exact Int.natCast_nonneg _)
 refine wQ (W:=W) (k:=k) (w:=(w:Int)) (o4:=none) (by exact Int.natCast_nonneg _) (by exact Int.ofNat_le.mpr hw') hi es 0 none hkw fun q3 h1=>?_
 refine wP (W:=W) (k:=k) (w:=(w:Int)) (o2:=some (.int (bj w es 0))) (by exact Int.natCast_nonneg _) (by exact Int.ofNat_le.mpr hw') p hi es (List.replicate (bj w es 0).toNat 0) 0 q3 (fun e he=>he) p.nd hkw
  (fun e he=>⟨(hpb e he).1,by rw[List.length_replicate];have:=hs2 e he;exists L12,0x7003011002011103610007510011467810003814,this,(ft (bj (↑w) es 0))⟩) (by rw[List.length_replicate];omega) fun z v q3' h2 hlen hz=>?_
 rw[List.length_replicate] at hlen
 refine kk z v ?_ (by exists L21,0x750111020110036001075000114678100028000114824,hs0,hlen,(ft (bj (↑w) es 0))) (fun q=>?_) (by have:((w*K:Nat):Int)=(w:Int)*K:=Int.natCast_mul _ _;omega)
 ·have hn:(bj w es 0).natAbs<1048576:=by omega
  refine am (fn:=⟨2,5,kE⟩) rfl rfl (l:=[some (.ref i),some (.int w),some (.int (bj w es 0)),q3',some (.ref J.length)])
   (ag (l1:=[some (.ref i),some (.int w),some (.int 0),none,none]) (J1:=J) ?_
   (ag (l1:=[some (.ref i),some (.int w),some (.int (bj w es 0)),q3,none]) (J1:=J) ?_
   (ag (l1:=[some (.ref i),some (.int w),some (.int (bj w es 0)),q3,some (.ref J.length)]) (J1:=J++[.list ((List.replicate (bj w es 0).toNat (0:Int)).map .int) 0]) ?_
   (ag (l1:=[some (.ref i),some (.int w),some (.int (bj w es 0)),q3',some (.ref J.length)]) (J1:=J++[.list (z.map .int) v]) ?_ ?_))))
  ·rfl
  ·rw[bY (ds:=es.map fun e=>ae e.1) (src:=some (i,wi)) (J1:=J) (by exact bA rfl hi)];exact h1
  ·exact(aD (ot rfl rfl hn)).trans (by rw[List.map_replicate];rfl)
  ·rw[bY (ds:=es.map fun e=>ae e.1) (src:=some (i,wi)) (J1:=J++[.list ((List.replicate (bj w es 0).toNat (0:Int)).map .int) 0]) (by exact bA rfl (an hi))];exact h2
  ·rfl
 ·unfold fl;by_cases hq:0<=q
  ·rw[hz q hq,nD,if_pos hq,Int.zero_add];split
   ·rfl
   ·rename_i hm;rw[p.supp hm]
  ·rw[if_neg hq,nE (by exact Int.not_le.mp hq)]
noncomputable def oI (z:List Int) (w:Int):Cf:=fun x y=>if 0<=x/\x<w then cZ z (x+w*y) else 0
theorem Ar {z:List Int} {c:Cf} {w:Nat} {K:Nat} (h:∀q,cZ z q=fl c w q) (sc:cv K c) (hK:K<w):oI z w=c:=by
 funext x y
 unfold oI;by_cases hx:0<=x/\x<(w:Int)
 ·rw[if_pos hx,h];unfold fl;have:=(kP (p:=x+w*y) (y:=y) hx.1 hx.2).mp rfl;rw[this.1,this.2];split
  ·rfl
  ·rename_i hn;refine(Classical.byContradiction fun hc=>hn ?_);have:=sc x y (fun q=>hc q.symm);have:0<=(w:Int)*y:=Int.mul_nonneg (by exact Int.natCast_nonneg _) (by exact(this).2.2.1);exists L12,0x10002011410011480070030001146814,hx,this
 ·rw[if_neg hx];refine(Classical.byContradiction fun hc=>hx ?_);have:=sc x y (fun q=>hc q.symm);exists L22,0x1070030001146007104100114600700460001146810000824,hK,this
theorem uW (z:List Int) (v p:Int):cZ (z++[v]) p=if p=(z.length:Int) then v else cZ z p:=by
 unfold cZ;by_cases h:0<=p
 ·rw[if_pos h,if_pos h];by_cases h0:p=(z.length:Int)
  ·subst h0;simp
  ·rw[if_neg h0];simp only[List.getD_eq_getElem?_getD];by_cases h1:p.toNat<z.length
   ·rw[List.getElem?_append_left h1]
   ·rw[List.getElem?_eq_none (by rw[List.length_append];simp;exists L21,0x101110021011102011003600107500011467890010088900700588000114824,h,h0,h1,(ft (p))),List.getElem?_eq_none (by exact Nat.le_of_not_lt h1)]
 ·rw[if_neg h,if_neg h,if_neg (by exists L11,0x9007005890001148812,h)]
theorem ye {z:List Int} {w:Nat} (hw:2<=w) (hw':w<=8) (hl:z.length<=9*w):jK (oI z w):=fun x y h=>by
 unfold oI at h;split at h
 ·rename_i hx
  have h0:0<=x+w*y:=Classical.byContradiction fun q=>h (nE (by exact Int.not_le.mp q))
  have h1:x+w*y<z.length:=Classical.byContradiction fun q=>h (uX (by exact Int.not_lt.mp q))
  have hy0:0<=y:=Classical.byContradiction fun q=>by
   have:(w:Int)*y<=w*(-1):=Int.mul_le_mul_of_nonneg_left (by exact Int.not_lt.mp q) (by exact Int.natCast_nonneg _);omega
  have hy9:y<9:=Classical.byContradiction fun q=>by
   have:(w:Int)*9<=w*y:=Int.mul_le_mul_of_nonneg_left (by exact Int.not_lt.mp q) (by exact Int.natCast_nonneg _);exists L22,0x9101079144800710002381070030001146810913001824,hl,hx,h1,this
  exists L12,0x9111031001146911003600011469111038100114800700300011468811001814,hw',hx,hy0,hy9
 ·exact absurd rfl h
theorem u8 {z:List Int} {w:Nat} (hw:2<=w) (v:Int):oI (z++[v]) w=fG (oI z w) ((z.length:Int)%w) ((z.length:Int)/w) v:=by
 funext x y
 unfold fG oI;have hb:=Int.emod_nonneg (z.length:Int) (show(w:Int)≠0 by exists L10,0x901100758002111812,hw);have hb2:=Int.emod_lt_of_pos (z.length:Int) (show(0:Int)<w by exists L10,0x70113002111812,hw);by_cases hx:0<=x/\x<(w:Int)
 ·rw[if_pos hx,if_pos hx,uW];by_cases hq:x=(z.length:Int)%w/\y=(z.length:Int)/w
  ·rw[if_pos hq,if_pos];rw[hq.1,hq.2];have:=Int.emod_add_mul_ediv (z.length:Int) w;omega
  ·rw[if_neg hq,if_neg];intro h;have:=(kP (p:=(z.length:Int)) (y:=y) hx.1 hx.2).mp h.symm;exact hq ⟨this.1.symm,this.2.symm⟩
 ·rw[if_neg hx,if_neg hx,if_neg];rintro⟨rfl,rfl⟩;exact hx ⟨hb,hb2⟩
theorem sh (w:Int):oI [] w=fun _ _=>0:=by
 funext x y
 unfold oI;split
 ·exact d8 _
 ·rfl
noncomputable abbrev u9:XS:=.ifs (.cmp .ne (.var 4) (.lit (.int 0))) (.set (.var 2) (.tup (.aa (.bin .mod (.var 3) (.var 1)) (.aa (.bin .fdiv (.var 3) (.var 1)) .af))) (.tup (.aa (.var 4) (.aa (.lit (.int 1)) .af)))) (.nil)
theorem yf {i wi:Nat} {w:Nat} {da:List D} (hw:2<=w) (hw':w<=8) (hi:J[i]?=some (.list da wi)):∀(suf pre:List Int) (gs:Es) (v:Nat) (o3 o4:Option D),pre.length+suf.length<=9*w->cK (oI pre w) gs->
   ∀{Gl:Prop},(∀gs' v' q3 q4,a9 (aw [3,4] true) (aP (ab FT W k) W u9) (some (i,wi)) (b8 pre.length (suf.map .int)) [some (.ref i),some (.int w),some (.ref J.length),o3,o4] (J++[.dict gs v])
   = some (.next,[some (.ref i),some (.int w),some (.ref J.length),q3,q4],J++[.dict gs' v'])->cK (oI (pre++suf) w) gs'->Gl)->Gl:=by
 intro A0;induction A0 with
 |nil=>
  intro pre gs v o3 o4 _ p _ kk;exact kk gs v o3 o4 rfl (by rw[List.append_nil];exact p)
 |cons x suf ih=>
  intro pre gs v o3 o4 hl p _ kk;simp only[List.length_cons] at hl;have hlen:gs.length<1048576:=p.len (ye hw hw' (by exact Nat.le_trans (Nat.le_add_right _ _) hl));have hstep:∃gs1 v1,aP (ab FT W k) W u9 [some (.ref i),some (.int w),some (.ref J.length),some (.int (pre.length:Nat)),some (.int x)] (J++[.dict gs v])
    = some (.next,[some (.ref i),some (.int w),some (.ref J.length),some (.int (pre.length:Nat)),some (.int x)],J++[.dict gs1 v1])/\cK (oI (pre++[x]) w) gs1:=by
   rw[u8 hw];by_cases hx:x=0
   ·refine⟨gs,v,by exact hx▸rfl,?_⟩;have:fG (oI pre w) ((pre.length:Int)%w) ((pre.length:Int)/w) x=oI pre w:=by
     funext a b
     unfold fG;split
     ·rename_i hq;rw[hq.1,hq.2,hx];unfold oI;split
      ·rw[uX];have:=Int.emod_add_mul_ediv (pre.length:Int) w;exists L12,0x100020074007100025814,this
      ·rfl
     ·rfl
    rw[this];exact p
   ·refine⟨bZ gs [(pre.length:Int)%w,(pre.length:Int)/w] (qD x 1),v+1,?_,?_⟩
    ·have hx':(x==0)=false:=by exact decide_eq_false hx
     have hwz:(w:Int)≠0:=by exists L10,0x901100758002111812,hw
     have hwn:((w:Int)).natAbs<2^30:=by exact Nat.lt_of_le_of_lt hw' (by decide)
     have hwn':w<1073741824:=by exists L10,0x4000000081000811001812,hw'
     have hwz':w≠0:=by exists L10,0x90110028002111812,hw
     have hfm:(pre.length:Int).fmod w=(pre.length:Int)%w:=Int.fmod_eq_emod_of_nonneg _ (by exact Int.natCast_nonneg _);have hfd:(pre.length:Int).fdiv w=(pre.length:Int)/w:=Int.fdiv_eq_ediv_of_nonneg _ (by exact Int.natCast_nonneg _)
     have hs:∀X,(J++[AO.dict gs v]).set J.length X=_:=fun X=>dk _ _ _;exact jq (aq rfl rfl (yR hx)) (iE (aS (al rfl rfl) fm) rfl (aS (al (aA rfl rfl ((kU hwz).trans (by rw[hfm]))) (aA rfl rfl ((jC hwz hwn).trans (by rw[hfd])))) fm) ((fO (ks:=[(pre.length:Int)%w,(pre.length:Int)/w]) (ai _ _) rfl hlen).trans (by rw[dk])))
    ·have:=p.put (x:=(pre.length:Int)%w) (y:=(pre.length:Int)/w) hx;rw[Int.mul_one,aF] at this;exact this
  obtain⟨gs1,v1,h1,p1⟩:=hstep
  refine ih (pre++[x]) gs1 v1 (some (.int (pre.length:Nat))) (some (.int x)) (by simp only[List.length_append,List.length_cons,List.length_nil];exists L30,0x209131011100221209131111020021836,hl) p1 fun gs' v' q3 q4 h2 p2=>?_;refine kk gs' v' q3 q4 ?_ (by simpa using p2);rw[List.map_cons];show a9 _ _ _ (.tup [.int (pre.length:Nat),.int x]::b8 (pre.length+1) (suf.map .int)) _ _=_;refine(aT (by rfl) h1 (by first|exact aL (an hi)|exact bN (an hi))).trans ?_;rw[List.length_append] at h2;exact h2
theorem fH {i:Nat} {z:List Int} {w:Nat} (hw:2<=w) (hw':w<=8) (hi:fj z i J) (hl:z.length<=9*w)
  {Gl:Prop} (kk:∀gs v,ab FT W (k+1) dZ [.ref i,.int w] J=some (.ref J.length,J++[.dict gs v])->cK (oI z w) gs->Gl):Gl:=by
 obtain⟨wi,hi⟩:=hi
 refine yf (W:=W) (k:=k) hw hw' hi z [] [] 0 none none (by simpa using hl) (by rw[sh];exact cy.nil) fun gs v q3 q4 h1 p=>?_;refine kk gs v ?_ p;refine am (fn:=⟨2,5,ma⟩) rfl rfl (l:=[some (.ref i),some (.int w),some (.ref J.length),q3,q4])
  (ag (l1:=[some (.ref i),some (.int w),some (.ref J.length),none,none]) (J1:=J++[.dict [] 0]) ?_ (ag (l1:=[some (.ref i),some (.int w),some (.ref J.length),q3,q4]) (J1:=J++[.dict gs v]) ?_ ?_))
 ·rfl
 ·rw[bY (ds:=b8 0 (z.map .int)) (src:=some (i,wi)) (J1:=J++[.dict [] 0]) (by exact fW rfl (an hi))];exact h1
 ·rfl
end
noncomputable def a8:Nat->Nat->List (List Int)
 |0,_=>[[]]
 |s+1,m=>(List.range (m-s)).flatMap fun t=>(a8 s (s+t)).map (·++[((s+t:Nat):Int)])
theorem qU:∀(s m:Nat),∀t∈a8 s m,t.length=s:=by
 intro A0;induction A0 with
 |zero=>
  intro m t h;rw[List.mem_singleton.mp h];rfl
 |succ s ih=>
  intro m t h;obtain⟨a,_,h⟩:=List.mem_flatMap.mp h;obtain⟨b,hb,rfl⟩:=List.mem_map.mp h;rw[List.length_append,ih _ b hb];rfl
theorem wO {α β:Type} (f:α->List β) (B:Nat):∀l:List α,(∀a∈l,(f a).length<=B)->(l.flatMap f).length<=l.length*B:=by
 intro A0;induction A0 with
 |nil=>
  intro _;exact Nat.zero_le _
 |cons a l ih=>
  intro h;have h1:=h a List.mem_cons_self
  have h2:=ih fun a ha=>h a (List.mem_cons_of_mem _ ha);rw[List.flatMap_cons,List.length_append,List.length_cons,Nat.succ_mul];exists L40,0x1030220002130201810001848,h1,h2
theorem gV:∀(s m:Nat),m<=8->(a8 s m).length<=8^s:=by
 intro A0;induction A0 with
 |zero=>
  intro m _;exact Nat.le_refl _
 |succ s ih=>
  intro m h
  have h1:=wO (fun t=>(a8 s (s+t)).map (·++[((s+t:Nat):Int)])) (8^s) (List.range (m-s)) fun t ht=>by
   rw[List.length_map];rw[List.mem_range] at ht;exact ih (s+t) (by exists L40,0x8111030210112023000060030202200301678201008811001848,h,ht,(fs (m) (s)))
  rw[List.length_range] at h1;have h2:(m-s)*8^s<=8*8^s:=Nat.mul_le_mul_right _ (by exact Nat.le_trans (Nat.sub_le _ _) h);rw[Nat.pow_succ];show((List.range (m-s)).flatMap _).length<=_;exists L30,0x2081400120813101810001836,h1,h2
theorem vg (J τ:St) (a c:AO):(J++a::τ).set J.length c=J++c::τ:=by
 rw[List.set_append_right _ _ (by exact Nat.le_refl _)];simp
section
variable {W k:Nat} {J:St}
noncomputable abbrev A7:XS:=.expr (.extend (.var 2) (.aE (.bin .add (.var 4) (.tup (.aa (.var 3) .af))) [4] false (.ix (.call bF (.aa (.var 3) (.aa (.bin .sub (.var 1) (.lit (.int 1))) .af)))) none))
noncomputable def xV (W k s:Nat):Prop:=∀(m:Nat) (J:St),m<=8->∃r J' v,ab FT W (k+s+1) bF [.int (m:Nat),.int (s:Nat)] J=some (.ref r,J')/\aN J J'/\J.length<=r/\J'[r]?=some (.list ((a8 s m).map ae) v)
theorem y4 {s m:Nat} (hs:s<=4) (ih:xV W k s):∀(suf:List Nat) (ds:List D) (v:Nat) (τ:St) (o3:Option D),(∀t∈suf,s+t<=8)->ds.length+suf.length*8^s<=8*8^s->
   ∀{Gl:Prop},(∀v' τ' q3,a9 (aw [3] false) (aP (ab FT W (k+s+1)) W A7) none (suf.map fun t=>.int ((s+t:Nat):Int)) [some (.int (m:Nat)),some (.int ((s+1:Nat):Int)),some (.ref J.length),o3,none] (J++.list ds v::τ)
   = some (.next,[some (.int (m:Nat)),some (.int ((s+1:Nat):Int)),some (.ref J.length),q3,none],J++.list (ds++(suf.flatMap fun t=>(a8 s (s+t)).map (·++[((s+t:Nat):Int)])).map ae) v'::τ')->Gl)->Gl:=by
 intro A0;induction A0 with
 |nil=>
  intro ds v τ o3 _ _ _ kk
  exact kk v τ o3 (congrArg (fun q=>some (Fl.next,_,J++AO.list q v::τ)) (List.append_nil ds).symm)
 |cons t suf ih2=>
  intro ds v τ o3 ht hl _ kk;simp only[List.length_cons,Nat.succ_mul] at hl;have ht0:=ht t List.mem_cons_self;obtain⟨r,J',v1,hc,⟨τ1,rfl⟩,hr,hg⟩:=ih (s+t) (J++.list ds v::τ) ht0;have hlen:=gV s (s+t) ht0;have h84:8^s<=8^4:=Nat.pow_le_pow_right (by exact Nat.succ_pos _) hs;have hl2:((a8 s (s+t)).map (·++[((s+t:Nat):Int)])).length<=8^s:=by rw[List.length_map];exact hlen
  refine ih2 (ds++((a8 s (s+t)).map (·++[((s+t:Nat):Int)])).map ae) (v+1) (τ++τ1) (some (.int ((s+t:Nat):Int))) (fun t h=>ht t (List.mem_cons_of_mem _ h)) (by
   rw[List.length_append,List.length_map];exists L40,0x2081310300022120301820202020202020202001322222222201020021848,hl,hl2) fun v' τ' q3 hlp=>?_
  refine kk v' τ' q3 ?_;rw[List.map_cons];refine(aT (l1:=[some (.int (m:Nat)),some (.int ((s+1:Nat):Int)),some (.ref J.length),some (.int ((s+t:Nat):Int)),none]) (by rfl) ?_ (by simp[aI])).trans (hlp.trans (by simp));have hS:(J++.list ds v::τ)++τ1=J++.list ds v::(τ++τ1):=by exact List.append_assoc _ _ _
  rw[hS] at hc hg;have e1:eA (ab FT W (k+s+1)) (.ix (.call bF (.aa (.var 3) (.aa (.bin .sub (.var 1) (.lit (.int 1))) .af)))) [some (.int (m:Nat)),some (.int ((s+1:Nat):Int)),some (.ref J.length),some (.int ((s+t:Nat):Int)),none] (J++.list ds v::τ)
    = some ((a8 s (s+t)).map ae,some (r,v1),J++.list ds v::(τ++τ1)):=by
   have hs1:((s+1:Nat):Int)-1=(s:Int):=by exists L10,0x711111100275512
   exact cf (ah (al rfl (aA rfl rfl (congrArg (fun n=>some (D.int n,_)) hs1))) hc) hg
  have e2:=el (bind:=aw [4] false) (elt:=ev (ab FT W (k+s+1)) (.bin .add (.var 4) (.tup (.aa (.var 3) .af)))) (src:=some (r,v1)) (l:=[some (.int (m:Nat)),some (.int ((s+1:Nat):Int)),some (.ref J.length),some (.int ((s+t:Nat):Int)),none]) (J:=J++.list ds v::(τ++τ1)) ae (fun x=>ae (x++[((s+t:Nat):Int)])) (by first|exact aL (hg)|exact bN (hg)) (a8 s (s+t)) (fun x hx=>by
    refine⟨[some (.int (m:Nat)),some (.int ((s+1:Nat):Int)),some (.ref J.length),some (.int ((s+t:Nat):Int)),some (ae x)],by rfl,?_⟩;have hxl:x.length+1<1048576:=by rw[qU s _ x hx];exists L10,0x100000611110020411001812,hs
    exact(aA rfl (aS (b7 rfl) jR) (xH (by rw[List.length_map];exact hxl))).trans (by simp[ae]))
  have e3:di (ab FT W (k+s+1)) (.aE (.bin .add (.var 4) (.tup (.aa (.var 3) .af))) [4] false (.ix (.call bF (.aa (.var 3) (.aa (.bin .sub (.var 1) (.lit (.int 1))) .af)))) none) [some (.int (m:Nat)),some (.int ((s+1:Nat):Int)),some (.ref J.length),some (.int ((s+t:Nat):Int)),none] (J++.list ds v::τ)
    = some (((a8 s (s+t)).map (·++[((s+t:Nat):Int)])).map ae,J++.list ds v::(τ++τ1)):=by
   exact(cH e1 (by rw[List.length_map];have:ay=1048576:=rfl;exists L30,0x20000100000612028100041101810001836,hlen,h84,this) e2).trans (by rw[List.map_map];rfl)
  have e4:(J++AO.list ds v::(τ++τ1))[J.length]?=some (.list ds v):=n9;have e5:ef (J++AO.list ds v::τ) J.length=true:=ji n9;have e6:ds.length+(((a8 s (s+t)).map (·++[((s+t:Nat):Int)])).map ae).length<ay:=by
   rw[List.length_map];have:ay=1048576:=rfl;exists L50,0x4030002010000061402820301810004120182020202020202020200132222222220102002185a,hl,h84,hl2,this
  exact(ko (uA rfl e3 e5 e4 e6)).trans (by rw[vg])
theorem yZ:∀s,s<=4->xV W k s:=by
 intro A0;induction A0 with
 |zero=>
  intro _
  exact fun m J hm=>by
   refine⟨J.length,J++[.list ([[]].map ae) 0],0,?_,aN.app _ _,Nat.le_refl _,ai _ _⟩;refine am (fn:=⟨2,5,j9⟩) rfl rfl (l:=[some (.int (m:Nat)),some (.int 0),none,none,none]) (fv ?_);rfl
 |succ s ih=>
  intro hs
  exact fun m J hm=>by
   have h84:8^s<=8^4:=Nat.pow_le_pow_right (by exact Nat.succ_pos _) (by exact Nat.le_of_lt hs)
   refine y4 (W:=W) (k:=k) (J:=J) (m:=m) (by exact Nat.le_of_lt hs) (ih (by exact Nat.le_of_lt hs)) (List.range (m-s)) [] 0 [] none (fun t ht=>by rw[List.mem_range] at ht;exists L40,0x8111030210112023000060030202200301678201008811001848,hm,ht,(fs _ _)) (by
    rw[List.length_range];have h2:(m-s)*8^s<=8*8^s:=Nat.mul_le_mul_right _ (by exact Nat.le_trans (Nat.sub_le _ _) hm)
    simpa using h2) fun v' τ' q3 hl=>?_
   refine⟨J.length,J++.list ((a8 (s+1) m).map ae) v'::τ',v',?_,aN.app _ _,Nat.le_refl _,by simp⟩;refine am (fn:=⟨2,5,j9⟩) rfl rfl (l:=[some (.int (m:Nat)),some (.int ((s+1:Nat):Int)),some (.ref J.length),q3,none])
    (ag (l1:=[some (.int (m:Nat)),some (.int ((s+1:Nat):Int)),none,none,none]) (J1:=J) ?_ (ag (l1:=[some (.int (m:Nat)),some (.int ((s+1:Nat):Int)),some (.ref J.length),none,none]) (J1:=J++[.list [] 0]) ?_
    (ag (l1:=[some (.int (m:Nat)),some (.int ((s+1:Nat):Int)),some (.ref J.length),q3,none]) (J1:=J++.list ((a8 (s+1) m).map ae) v'::τ') ?_ ?_)))
   ·have:(((s+1:Nat):Int)==0)=false:=by rw[beq_eq_false_iff_ne];exists L10,0x901111100275812
    exact eL (aq rfl rfl (congrArg some this)) rfl
   ·rfl
   ·rw[bY (ds:=(List.range (m-s)).map fun t=>.int ((s+t:Nat):Int)) (src:=none) (J1:=J++[.list [] 0])]
    ·exact hl
    ·have hs1:((s+1:Nat):Int)-1=(s:Int):=by exists L10,0x711111100275512
     refine(fV (m:=(s:Nat)) (n:=(m:Nat)) (aA (op:=.sub) (x:=.int ((s+1:Nat):Int)) (y:=.int 1) (J1:=J++[AO.list [] 0]) (J2:=J++[AO.list [] 0]) rfl rfl (congrArg (fun n=>some (D.int n,J++[AO.list [] 0])) hs1)) rfl (show s<ay from Nat.lt_of_lt_of_le hs (Nat.le_of_ble_eq_true rfl)) (show m<ay from Nat.lt_of_le_of_lt hm (Nat.le_of_ble_eq_true rfl))).trans ?_;simp only[du];rw[show((m:Int)-(s:Int)).toNat=m-s by exists L40,0x100020111023020062030102220301678011002011307207536307207500753072075011467848,(ft _),(fs _ _)];simp
   ·rfl
theorem tX {m s:Nat} (hm:m<=8) (hs:s<=4)
  {Gl:Prop} (kk:∀r J' v,ab FT W (k+s+1) bF [.int (m:Nat),.int (s:Nat)] J=some (.ref r,J')->aN J J'->J.length<=r->J'[r]?=some (.list ((a8 s m).map ae) v)->Gl):Gl:=by
 obtain⟨r,J',v,h1,h2,h3,h4⟩:=yZ (W:=W) (k:=k) s hs m J hm;exact kk r J' v h1 h2 h3 h4
end
noncomputable def dE (many mask:Nat):List Int:=((List.range many).filter fun a=>decide (mask/2^a%2=1)).map fun a:Nat=>(a:Int)
noncomputable def kL (many size:Nat):List (List Int):=((List.range (2^many)).map (dE many)).filter fun t=>decide (t.length=size)
noncomputable def CE:D->Option (List Int)
 | .tup ks=>aG ks
 |_=>none
noncomputable def mv:List D->Option (List (List Int))
 | []=>some []
 |d::r=>match CE d,mv r with
  |some k,some ks=>some (k::ks)
  |_,_=>none
noncomputable def nT (A B:List (List Int)):Bool:=match bS [] (A.map ae),bS [] (B.map ae) with
 |some a,some b=>match mv a,mv b with
  |some x,some y=>decide (x=y)
  |_,_=>false
 |_,_=>false
theorem uq:∀{ds:List D} {k:List Int},aG ds=some k->ds=k.map .int:=by
 intro A0;induction A0 with
 |nil=>
  intro k h
  cases h;rfl
 |cons d ds ih=>
  intro k h
  cases d with
  |int i=>
   obtain⟨k',h1,rfl⟩:=Option.map_eq_some_iff.mp h;rw[ih h1];rfl
  |_=>cases h
theorem xP {d:D} {k:List Int} (h:CE d=some k):d=ae k:=by
 cases d with
 |tup l=>rw[uq h];rfl
 |_=>cases h
theorem nw:∀{ds:List D} {ks:List (List Int)},mv ds=some ks->ds=ks.map ae:=by
 intro A0;induction A0 with
 |nil=>
  intro ks h
  cases h;rfl
 |cons d ds ih=>
  intro ks h
  replace h:(match CE d,mv ds with|some k,some ks=>some (k::ks)|_,_=>none)=some ks:=h
  cases h1:CE d with
  |none=>rw[h1] at h;cases h
  |some k=>
   cases h2:mv ds with
   |none=>rw[h1,h2] at h;cases h
   |some ks'=>
    rw[h1,h2] at h
    cases h;rw[xP h1,ih h2];rfl
theorem ph {A B:List (List Int)} (h:nT A B=true):∃S:List (List Int),bS [] (A.map ae)=some (S.map ae)/\bS [] (B.map ae)=some (S.map ae):=by
 unfold nT at h
 cases h1:bS [] (A.map ae) with
 |none=>rw[h1] at h;cases h
 |some a=>
  cases h2:bS [] (B.map ae) with
  |none=>rw[h1,h2] at h;cases h
  |some b=>
   rw[h1,h2] at h
   replace h:(match mv a,mv b with|some x,some y=>decide (x=y)|_,_=>false)=true:=h
   cases h3:mv a with
   |none=>rw[h3] at h;cases h
   |some x=>
    cases h4:mv b with
    |none=>rw[h3,h4] at h;cases h
    |some y=>
     rw[h3,h4] at h;obtain rfl:=of_decide_eq_true h;exact⟨x,by rw[nw h3],by rw[nw h4]⟩
theorem pj (J:St) (n:Nat):∀a b:List Int,gC (cY J (n+1)) (lA J (n+1)) (a.map .int) (b.map .int)=gC (cY [] (n+1)) (lA [] (n+1)) (a.map .int) (b.map .int)
 | [],[]=>rfl
 | [],_::_=>rfl
 |_::_,[]=>rfl
 |x::a,y::b=>by
  have e1:∀s:St,cY s (n+1) (.int x) (.int y)=some (x==y):=fun _=>rfl
  have e2:∀s:St,lA s (n+1) (.int x) (.int y)=some (decide (x<y)):=fun _=>rfl;by_cases h:x=y
  ·have h:(x==y)=true:=beq_iff_eq.mpr h;rw[List.map_cons,List.map_cons,eU ((e1 _).trans (congrArg some h)),eU ((e1 _).trans (congrArg some h)),pj J n a b]
  ·have h:(x==y)=false:=beq_eq_false_iff_ne.mpr h;rw[List.map_cons,List.map_cons,eT ((e1 _).trans (congrArg some h)),eT ((e1 _).trans (congrArg some h)),e2,e2]
theorem yT (J:St) (a b:List Int):lA J CF (ae a) (ae b)=lA [] CF (ae a) (ae b):=pj J 6 a b
theorem mD (J:St) (A:List (List Int)):bS J (A.map ae)=bS [] (A.map ae):=by
 unfold bS;by_cases h1:(A.map ae).length<2
 ·rw[if_pos h1,if_pos h1]
 ·rw[if_neg h1,if_neg h1];by_cases h2:(decide ((A.map ae).length<64)&&eQ (A.map ae))=true
  ·rw[if_pos h2,if_pos h2]
   refine congrArg _ (congrArg (fun f=>qt f _) ?_);funext i j
   rw[List.getElem?_map,List.getElem?_map]
   cases A[i]? with
   |none=>rfl
   |some a=>
    cases A[j]? with
    |none=>rfl
    |some b=>exact yT J a b
  ·rw[if_neg h2,if_neg h2]
theorem zM (J:St) (n:Nat):∀S:List (List Int),de (cY J (n+2)) (S.map ae) (S.map ae)=some true:=by
 intro A0;induction A0 with
 |nil=>
  exact rfl
 |cons s S ih=>
  have h1:∀k:List Int,de (cY J (n+1)) (k.map .int) (k.map .int)=some true:=fun k=>by
   induction k with
   |nil=>rfl
   |cons x k ih=>
    have e1:cY J (n+1) (.int x) (.int x)=some (x==x):=rfl;exact(bK e1 ih).trans (by rw[beq_self_eq_true];rfl)
  have h2:cY J (n+2) (ae s) (ae s)=some true:=by
   show(if _ then de (cY J (n+1)) (s.map .int) (s.map .int) else none)=_;rw[if_pos rfl,h1]
  exact bK h2 ih
section
variable {W k:Nat} {J:St}
theorem dY {n m s:Nat} (hm:m<=8) (hs:s<=4) (hn:s+1<=n)
  {Gl:Prop} (kk:∀r J' v,ab FT W n bF [.int (m:Nat),.int (s:Nat)] J=some (.ref r,J')->aN J J'->J.length<=r->J'[r]?=some (.list ((a8 s m).map ae) v)->Gl):Gl:=by
 obtain⟨k,rfl⟩:∃k,n=k+s+1:=⟨n-s-1,by exists L40,0x11100202210201130200100610003022100016780112021113006301112022301111678101110021848,hn,(fs (n-s) (1)),(fs (n) (s))⟩;exact tX hm hs kk
noncomputable abbrev nR:X:=.cmp .eq (.bin .mod (.bin .fdiv (.var 3) (.bin .pow (.lit (.int 2)) (.var 6))) (.lit (.int 2))) (.lit (.int 1))
noncomputable abbrev wc:XS:=.seq (.asg 4 (.fN (.aE (.var 6) [6] false (.cD (.lit (.int 0)) (.var 0)) (some nR))))
  (.ifs (.cmp .eq (.len (.var 4)) (.var 1)) (.expr (.append (.var 2) (.var 4))) (.nil))
theorem yV {n m s mask v:Nat} {ds:List D} {o4 o5 o6:Option D} (hm:m<=6) (hds:ds.length<ay)
  {Gl:Prop} (kk:∀v',aP (ab FT W n) W wc [some (.int (m:Nat)),some (.int (s:Nat)),some (.ref J.length),some (.int (mask:Nat)),o4,o5,o6] (J++[.list ds v])
   = some (.next,[some (.int (m:Nat)),some (.int (s:Nat)),some (.ref J.length),some (.int (mask:Nat)),some (ae (dE m mask)),o5,o6],J++[.list (ds++(if (dE m mask).length=s then [ae (dE m mask)] else [])) v'])->Gl):Gl:=by
 have hc:=fy (bind:=aw [6] false) (test:=iV (ab FT W n) nR) (elt:=ev (ab FT W n) (.var 6)) (src:=none) (l:=[some (.int (m:Nat)),some (.int (s:Nat)),some (.ref J.length),some (.int (mask:Nat)),o4,o5,o6]) (J:=J++[.list ds v])
  (fun a:Nat=>.int (a:Int)) (fun a=>decide (mask/2^a%2=1)) (fun a=>.int (a:Int)) rfl (List.range m) (fun a ha=>by
   rw[List.mem_range] at ha;refine⟨[some (.int (m:Nat)),some (.int (s:Nat)),some (.ref J.length),some (.int (mask:Nat)),o4,o5,some (.int (a:Nat))],by rfl,?_,fun _=>by rfl⟩;have h1:dW .pow (.int 2) (.int (a:Int)) (J++[.list ds v])=some (.int ((2^a:Nat):Int),J++[.list ds v]):=by
    exact p9 (Nat.lt_trans (Nat.lt_of_lt_of_le ha hm) (Nat.le_of_ble_eq_true rfl))
   have h2p:0<2^a:=Nat.two_pow_pos a;have h2l:2^a<=2^6:=Nat.pow_le_pow_right (by exact Nat.two_pos) (by exists L20,0x611101001008611001824,hm,ha);have h2:dW .fdiv (.int (mask:Int)) (.int ((2^a:Nat):Int)) (J++[.list ds v])=some (.int ((mask/2^a:Nat):Int),J++[.list ds v]):=by
    exact nr h2p (Nat.lt_of_le_of_lt h2l (Nat.le_of_ble_eq_true rfl))
   have h3:dW .mod (.int ((mask/2^a:Nat):Int)) (.int 2) (J++[.list ds v])=some (.int ((mask/2^a%2:Nat):Int),J++[.list ds v]):=by
    exact xG Nat.two_pos
   have h4:(((mask/2^a%2:Nat):Int)==1)=decide (mask/2^a%2=1):=by
    rw[Bool.eq_iff_iff,beq_iff_eq,decide_eq_true_eq];omega
   exact d6 (aq (aA (aA rfl (aA rfl rfl h1) h2) rfl h3) rfl (congrArg some h4)))
 have hit:eA (ab FT W n) (.cD (.lit (.int 0)) (.var 0)) [some (.int (m:Nat)),some (.int (s:Nat)),some (.ref J.length),some (.int (mask:Nat)),o4,o5,o6] (J++[.list ds v])
   = some ((List.range m).map (fun a:Nat=>.int (a:Int)),none,J++[.list ds v]):=by
  exact(fV (n:=(m:Nat)) rfl rfl (Nat.le_of_ble_eq_true rfl) (show m<ay from Nat.lt_of_le_of_lt hm (Nat.le_of_ble_eq_true rfl))).trans (by rw[vA])
 have hL:di (ab FT W n) (.aE (.var 6) [6] false (.cD (.lit (.int 0)) (.var 0)) (some nR)) [some (.int (m:Nat)),some (.int (s:Nat)),some (.ref J.length),some (.int (mask:Nat)),o4,o5,o6] (J++[.list ds v])
   = some ((dE m mask).map .int,J++[.list ds v]):=by
  exact(fe hit (by rw[List.length_map,List.length_range];exact gI hm rfl) hc).trans (by rw[dE,List.map_map];rfl)
 have hll:(dE m mask).length<ay:=by
  have h1:(dE m mask).length<=m:=by
   unfold dE;rw[List.length_map];have:=List.length_filter_le (fun a=>decide (mask/2^a%2=1)) (List.range m);rwa [List.length_range] at this
  have:ay=1048576:=rfl;exists L30,0x20100100000612028001018611001836,hm,h1,this
 have hll':((dE m mask).map D.int).length<ay:=by rw[List.length_map];exact hll
 have hfirst:aP (ab FT W n) W (.asg 4 (.fN (.aE (.var 6) [6] false (.cD (.lit (.int 0)) (.var 0)) (some nR)))) [some (.int (m:Nat)),some (.int (s:Nat)),some (.ref J.length),some (.int (mask:Nat)),o4,o5,o6] (J++[.list ds v])
   = some (.next,[some (.int (m:Nat)),some (.int (s:Nat)),some (.ref J.length),some (.int (mask:Nat)),some (ae (dE m mask)),o5,o6],J++[.list ds v]):=by
  exact aD (wU hL hll')
 have hlen:fM (J++[.list ds v]) (ae (dE m mask))=some ((((dE m mask).length:Nat):Int)):=by
  exact(if_pos hll').trans (by rw[List.length_map])
 by_cases h:(dE m mask).length=s
 ·refine kk (v+1) (ag hfirst ?_);rw[if_pos h];exact jq (aq (bz rfl hlen) rfl (Cv (by rw[h]))) ((ko (mX rfl rfl (ji (ai _ _)) (ai _ _) hds)).trans (by rw[dk]))
 ·refine kk v (ag hfirst ?_);rw[if_neg h,List.append_nil]
  exact eL (aq (bz rfl hlen) rfl (Bp fun q=>h (Int.ofNat_inj.mp q))) rfl
theorem yW {n m s:Nat} {o5 o6:Option D} (hm:m<=6):∀(suf:List Nat) (ds:List D) (v:Nat) (o3 o4:Option D),ds.length+suf.length<ay->
   ∀{Gl:Prop},(∀v' q3 q4,a9 (aw [3] false) (aP (ab FT W n) W wc) none (suf.map fun a:Nat=>.int (a:Int)) [some (.int (m:Nat)),some (.int (s:Nat)),some (.ref J.length),o3,o4,o5,o6] (J++[.list ds v])
   = some (.next,[some (.int (m:Nat)),some (.int (s:Nat)),some (.ref J.length),q3,q4,o5,o6],J++[.list (ds++((suf.map (dE m)).filter fun t=>decide (t.length=s)).map ae) v'])->Gl)->Gl:=by
 intro A0;induction A0 with
 |nil=>
  intro ds v o3 o4 _ _ kk
  exact kk v o3 o4 (congrArg (fun q=>some (Fl.next,_,J++[AO.list q v])) (List.append_nil ds).symm)
 |cons a suf ih=>
  intro ds v o3 o4 hl _ kk;simp only[List.length_cons] at hl
  refine yV (W:=W) (J:=J) (n:=n) (m:=m) (s:=s) (mask:=a) (v:=v) (ds:=ds) (o4:=o4) (o5:=o5) (o6:=o6) hm (by omega) fun v1 ht=>?_;refine' ih (ds++(if (dE m a).length=s then [ae (dE m a)] else [])) v1 (some (.int (a:Nat))) (some (ae (dE m a))) (by
   rw[List.length_append];split<;>simp<;>omega) fun v' q3 q4 h2=>?main
  case' main=>skip
  refine kk v' q3 q4 ?_;rw[List.map_cons];refine(aT (by rfl) ht rfl).trans (h2.trans ?_);by_cases h:(dE m a).length=s<;>simp[h]
theorem ez {n m s:Nat} (hm:m<=6) (hs:s<=3) (hn:s+2<=n) (hc:nT (a8 s m) (kL m s)=true) (hcl:(a8 s m).length=(kL m s).length)
  {Gl:Prop} (kk:∀J',ab FT W n bI [.int (m:Nat),.int (s:Nat)] J=some (.bool true,J')->aN J J'->Gl):Gl:=by
 obtain⟨n,rfl⟩:∃k,n=k+1:=⟨n-1,by exists L30,0x1112021020112021111006101112022101111678102110021836,hn,(fs (n) (1))⟩;have h2m:2^m<=2^6:=Nat.pow_le_pow_right (by exact Nat.two_pos) hm;refine yW (W:=W) (J:=J) (n:=n) (m:=m) (s:=s) (o5:=none) (o6:=none) hm (List.range (2^m)) [] 0 none none (by
  rw[List.length_range];have:ay=1048576:=rfl;simp;exact Nat.lt_of_le_of_lt h2m (by decide)) fun v q3 q4 h1=>?_
 have hdue:([]:List D)++(((List.range (2^m)).map (dE m)).filter fun t=>decide (t.length=s)).map ae=(kL m s).map ae:=rfl;rw[hdue] at h1
 refine dY (W:=W) (n:=n) (m:=m) (s:=s) (J:=J++[.list ((kL m s).map ae) v]) (by exists L10,0x811001611001812,hm) (by exact Nat.le_succ_of_le hs) (by exact Nat.le_of_lt_succ hn) fun r J2 v2 h2 e2 hr g2=>?_;have g0:J2[J.length]?=some (.list ((kL m s).map ae) v):=e2.get (ai _ _);have hrne:r≠J.length:=by simp at hr;exact Nat.ne_of_gt hr
 obtain⟨S,s1,s2⟩:=ph hc
 have t1:∀J,bS J ((a8 s m).map ae)=some (S.map ae):=fun J=>by rw[mD,s1]
 have t2:∀J,bS J ((kL m s).map ae)=some (S.map ae):=fun J=>by rw[mD,s2]
 refine kk (J2++[.list (S.map ae) 0]++[.list (S.map ae) 0]) ?_ ((((aN.app _ _).trans e2).app_r _).app_r _);have hl1:((a8 s m).map ae).length<ay:=by
  rw[List.length_map];have:=gV s m (by exists L10,0x811001611001812,hm);have:8^s<=8^3:=Nat.pow_le_pow_right (by exact Nat.succ_pos _) hs;have:ay=1048576:=rfl;omega
 have hl2:((kL m s).map ae).length<ay:=by rw[List.length_map,<-hcl];rw[List.length_map] at hl1;exact hl1
 refine am (fn:=⟨2,7,f6⟩) rfl rfl (l:=[some (.int (m:Nat)),some (.int (s:Nat)),some (.ref J.length),q3,q4,some (.ref r),none])
  (ag (l1:=[some (.int (m:Nat)),some (.int (s:Nat)),some (.ref J.length),none,none,none,none]) (J1:=J++[.list [] 0]) ?_
  (ag (l1:=[some (.int (m:Nat)),some (.int (s:Nat)),some (.ref J.length),q3,q4,none,none]) (J1:=J++[.list ((kL m s).map ae) v]) ?_
  (ag (l1:=[some (.int (m:Nat)),some (.int (s:Nat)),some (.ref J.length),q3,q4,some (.ref r),none]) (J1:=J2) ?_ ?_)))
 ·rfl
 ·rw[bY (ds:=(List.range (2^m)).map fun a:Nat=>.int (a:Int)) (src:=none) (J1:=J++[.list [] 0])]
  ·exact h1
  ·have hp:dW .pow (.int 2) (.int (m:Int)) (J++[.list [] 0])=some (.int ((2^m:Nat):Int),J++[.list [] 0]):=by
    exact p9 (Nat.lt_of_le_of_lt hm (Nat.le_of_ble_eq_true rfl))
   refine(fV (n:=((2^m:Nat):Int)) rfl (aA rfl rfl hp) (Nat.le_of_ble_eq_true rfl) (show 2^m<ay from Nat.lt_of_le_of_lt h2m (Nat.le_of_ble_eq_true rfl))).trans ?_;rw[vA]
 ·exact aD (ah (al rfl rfl) h2)
 ·have ea:ev (ab FT W n) (.sorted (.var 5)) [some (.int (m:Nat)),some (.int (s:Nat)),some (.ref J.length),q3,q4,some (.ref r),none] J2=some (.ref J2.length,J2++[.list (S.map ae) 0]):=mS rfl g2 (t1 _);have g0':=an (τ:=[AO.list (S.map ae) 0]) g0;have eb:ev (ab FT W n) (.sorted (.var 2)) [some (.int (m:Nat)),some (.int (s:Nat)),some (.ref J.length),q3,q4,some (.ref r),none] (J2++[.list (S.map ae) 0])=some (.ref (J2.length+1),J2++[.list (S.map ae) 0]++[.list (S.map ae) 0]):=
   (mS rfl g0' (t2 _)).trans (by rw[List.length_append];rfl)
  have ga:(J2++[AO.list (S.map ae) 0]++[AO.list (S.map ae) 0])[J2.length]?=some (.list (S.map ae) 0):=by exact an (ai _ _)
  have gb:(J2++[AO.list (S.map ae) 0]++[AO.list (S.map ae) 0])[J2.length+1]?=some (.list (S.map ae) 0):=by simp
  have gr:=an (τ:=[AO.list (S.map ae) 0]) (an (τ:=[AO.list (S.map ae) 0]) g2);have gd:=an (τ:=[AO.list (S.map ae) 0]) g0';generalize J2++[AO.list (S.map ae) 0]++[AO.list (S.map ae) 0]=J3 at *;have hq:cP .eq (.ref J2.length) (.ref (J2.length+1)) J3=some true:=by
   have hne:¬J2.length=J2.length+1:=by exists L10,0x9111002002812
   show(if J2.length=J2.length+1 then none else cY J3 8 (.ref J2.length) (.ref (J2.length+1)))=_;rw[if_neg hne];show(if J2.length=J2.length+1 then some true else _)=_;rw[if_neg hne,ga,gb];show(if _ then de (cY J3 7) (S.map ae) (S.map ae) else _)=_;rw[if_pos rfl];exact zM J3 5 S
  have hl:cP .eq (.int (((a8 s m).map ae).length:Nat)) (.int (((kL m s).map ae).length:Nat)) J3=some true:=by
   rw[rW,List.length_map,List.length_map,hcl];simp
  have hc1:=aq (op:=.eq) ea eb hq;have hc2:ev (ab FT W n) (.cmp .eq (.len (.var 5)) (.len (.var 2))) [some (.int (m:Nat)),some (.int (s:Nat)),some (.ref J.length),q3,q4,some (.ref r),none] J3=some (.bool true,J3):=by
   refine aq (J1:=J3) (x:=.int (((a8 s m).map ae).length:Nat)) (y:=.int (((kL m s).map ae).length:Nat)) ?_ ?_ hl
   ·exact bz rfl (eV gr hl1)
   ·exact bz rfl (eV gd hl2)
  exact bk (gP hc1 hc2)
theorem lB:∀m∈List.range 6,∀s∈List.range 4,nT (a8 s m) (kL m s)=true/\(a8 s m).length=(kL m s).length:=by decide +kernel
end
theorem km {k:Nat} {c:Cf} {w:Nat} (sc:cv k c) {x y:Int} (h0:0<=x) (h1:x<w):fl c w (x+w*y)=c x y:=by
 unfold fl;have h:=(kP (p:=x+w*y) (y:=y) h0 h1).mp rfl;rw[h.1,h.2];split
 ·rfl
 ·rename_i hn;refine(Classical.byContradiction fun hc=>hn ?_);have:=sc x y (fun q=>hc q.symm);have:0<=(w:Int)*y:=Int.mul_nonneg (by exact Int.natCast_nonneg _) (by exact(this).2.2.1);exact Int.add_nonneg h0 this
theorem oc {c:Cf} {w q:Int} (h:q<0):fl c w q=0:=by unfold fl;rw[if_neg (by exact Int.not_le.mpr h)]
theorem Cr {k:Nat} {c:Cf} {w:Nat} {p:aZ} (ok:p.Ok) (sc:cv k c) (hk:k+1<w) (q:Int):fl (T p c) w q=fl c w (q-(1+p.e*w))+p.a*fl c w (q-w)+p.b*fl c w q:=by
 have he:=ok.e;by_cases hq:0<=q
 ·have hb:=Int.emod_nonneg q (show(w:Int)≠0 by exists L20,0x901110758101110020824,hk);have hb2:=Int.emod_lt_of_pos q (show(0:Int)<w by exists L20,0x1070113101110020824,hk);have hx:=Int.emod_add_mul_ediv q w;have hqv:q=q%w+w*(q/w):=by exact(hx).symm
  generalize q%w=x at *;generalize q/w=y at *;subst hqv;rw[km (sc.T ok) hb hb2,km sc hb hb2];unfold T;have h2:x+(w:Int)*y-w=x+w*(y-1):=by grind
  rw[h2,km sc hb hb2];congr 2
  by_cases hx1:1<=x
  ·have h3:x+(w:Int)*y-(1+p.e*w)=(x-1)+w*(y-p.e):=by grind
   rw[h3,km sc (by exists L01,0x1110050114001114802,hx1) (by exists L11,0x71110053007003812,hb2)]
  ·have h3:x+(w:Int)*y-(1+p.e*w)=(w-1)+w*(y-p.e-1):=by
    rw[show x=0 by exists L01,0x11005900111488000114802,hb,hx1];grind
   rw[h3,km sc (by exists L11,0x111007501140070038000114812,hb,hb2) (by exists L10,0x71110075312)]
   have z1:c (x-1) (y-p.e)=0:=Classical.byContradiction fun h=>by have:=sc _ _ h;exists L13,0x900720105420105011460071110054611100501146890011148816,hx1,this
   have z2:c ((w:Int)-1) (y-p.e-1)=0:=Classical.byContradiction fun h=>by have:=sc _ _ h;exists L22,0x90071111000554111100055011460071111075461111075011468101110020824,hk,this
   rw[z1,z2]
 ·have hw:0<=p.e*(w:Int):=Int.mul_nonneg (by exists L01,0x1141110050110057802,he) (by exact Int.natCast_nonneg _);rw[oc (by exact Int.not_le.mp hq),oc (by exists L02,0x111011120053100114890001148804,hq,hw),oc (by exists L11,0x11007005390001148812,hq),oc (by exact Int.not_le.mp hq)];simp
theorem lP {w:Nat} (hw:2<=w) (q:Int):fl cw w q=if q=0 then 1 else 0:=by
 by_cases hq:q=0
 ·subst hq;have:=km (w:=w) bM (x:=0) (y:=0) (by exact Int.le_refl _) (by exists L10,0x70113002111812,hw);rw[Int.mul_zero,Int.zero_add] at this;rw[this];rfl
 ·rw[if_neg hq];unfold fl;split
  ·unfold cw;rw[if_neg];rintro⟨h1,h2⟩;have:=Int.emod_add_mul_ediv q w;rw[h1,h2] at this;exists L11,0x90000701401125890110058812,hq,this
  ·rfl
theorem oK {b:List Int} {s1 s2 s3 v1 v2 v3:Int} (hb:∀q,cZ b q=(if q=s1 then v1 else 0)+(if q=s2 then v2 else 0)+(if q=s3 then v3 else 0)) :
  ∀(a:List Int) (q:Int),zs a b q=v1*cZ a (q-s1)+v2*cZ a (q-s2)+v3*cZ a (q-s3):=by
 intro A0;induction A0 with
 |nil=>
  intro q;show(0:Int)=_;rw[d8,d8,d8];simp
 |cons x a ih=>
  intro q;have ih:=ih (q-1);show x*cZ b q+zs a b (q-1)=_;rw[ih,hb,dG,dG,dG,show q-1-s1=q-s1-1 by (exists L02,0x111100055101110055504),show q-1-s2=q-s2-1 by (exists L02,0x111100055101110055504),show q-1-s3=q-s3-1 by exists L02,0x111100055101110055504]
  have e:∀s v:Int,(if q=s then v else 0)*x=v*(if q-s=0 then x else 0):=fun s v=>by
   by_cases h:q=s
   ·rw[if_pos h,if_pos (by exists L02,0x1110005510005804,h)]
   ·rw[if_neg h,if_neg (by exists L02,0x901110005589100058804,h)];simp
  have e1:=e s1 v1;have e2:=e s2 v2;have e3:=e s3 v3;generalize (if q=s1 then v1 else 0)=u1 at *;generalize (if q=s2 then v2 else 0)=u2 at *;generalize (if q=s3 then v3 else 0)=u3 at *;grind
theorem CH {k:Nat} {c:Cf} {w:Nat} {p:aZ} {n m:Int} {a b:List Int} (ok:p.Ok) (sc:cv k c) (hk:k+1<w) (ha:∀q,cZ a q=m*fl c w q) (hb:∀q,cZ b q=n*fl (T p cw) w q) (q:Int) :
  zs a b q=(m*n)*fl (T p c) w q:=by
 have hb':∀q,cZ b q=(if q=1+p.e*w then n else 0)+(if q=(w:Int) then n*p.a else 0)+(if q=0 then n*p.b else 0):=fun q=>by
  rw[hb,Cr ok bM (by exact Nat.lt_of_le_of_lt (Nat.le_add_left _ _) hk),lP (by exact Nat.lt_of_le_of_lt (Nat.le_add_left _ _) hk),lP (by exact Nat.lt_of_le_of_lt (Nat.le_add_left _ _) hk),lP (by exact Nat.lt_of_le_of_lt (Nat.le_add_left _ _) hk)];have e1:(q-(1+p.e*(w:Int))=0)↔(q=1+p.e*w):=by omega
  have e2:(q-(w:Int)=0)↔(q=w):=by omega
  simp only[e1,e2];generalize hA:(if q=1+p.e*(w:Int) then (1:Int) else 0)=A;generalize hB:(if q=(w:Int) then (1:Int) else 0)=B;generalize hC:(if q=0 then (1:Int) else 0)=C;have fA:(if q=1+p.e*(w:Int) then n else 0)=n*A:=by rw[<-hA];split<;>simp
  have fB:(if q=(w:Int) then n*p.a else 0)=n*p.a*B:=by rw[<-hB];split<;>simp
  have fC:(if q=0 then n*p.b else 0)=n*p.b*C:=by rw[<-hC];split<;>simp
  rw[fA,fB,fC];grind
 rw[oK hb',ha,ha,ha,Cr ok sc hk,Int.sub_zero];grind
theorem Aq {c:Cf} {w:Nat} {n m:Int} {a b:List Int} (ha:∀q,cZ a q=m*fl c w q) (hb:∀q,cZ b q=if q=0 then n else 0) (q:Int):zs a b q=(m*n)*fl c w q:=by
 have hb':∀q,cZ b q=(if q=0 then n else 0)+(if q=0 then 0 else 0)+(if q=0 then 0 else 0):=fun q=>by rw[hb];simp
 rw[oK hb',ha,Int.sub_zero];grind
structure b6 (n:Int) (w:Nat) (p:aZ) (r:Nat) (J:St):Prop where
 ex:∃z,fj z r J/\(∀q,cZ z q=n*fl (T p cw) w q)/\z.length<=2*w/\z≠[]/\∀y∈z,y.natAbs<2^63
theorem b6.ext {n:Int} {w:Nat} {p:aZ} {r:Nat} {a b:St} (h:b6 n w p r a) (e:aN a b):b6 n w p r b:=by
 obtain⟨z,h1,h2⟩:=h.ex;exact⟨z,h1.ext e,h2⟩
theorem cK.scale {c:Cf} {n:Int} {es:Es} (hn:n≠0) (p:cK (fun x y=>n*c x y) es):cy n 1 c es where
 nd:=p.nd
 get:=fun x y=>by
  rw[p.get];by_cases h:c x y=0
  ·simp[h]
  ·have:n*c x y≠0:=Int.mul_ne_zero hn h;rw[if_neg this,if_neg h,Int.mul_one,Int.mul_comm]
 two:=p.two
theorem tx {z:List Int} {c:Cf} {w:Nat} {K:Nat} {n:Int} (h:∀q,cZ z q=n*fl c w q) (sc:cv K c) (hK:K<w):oI z w=fun x y=>n*c x y:=by
 funext x y
 unfold oI;by_cases hx:0<=x/\x<(w:Int)
 ·rw[if_pos hx,h,km sc hx.1 hx.2]
 ·rw[if_neg hx];have:c x y=0:=Classical.byContradiction fun hc=>hx (by have:=sc x y hc;exists L22,0x1070030001146007104100114600700460001146810000824,hK,this);rw[this];simp
section
variable {W k:Nat} {J:St}
theorem pX {z:List Int} {r w K:Nat} {n:Int} {c:Cf} {X Y:Int} {o0 o1 o4:Option D} (hW:2^30<=W) (hw:2<=w) (hw':w<=8) (hr:fj z r J) (hz:∀q,cZ z q=n*fl c w q) (hl:z.length<=9*w) (sc:cv K c) (hK:K<w) (hn:n≠0) (hn':n.natAbs<=9)
  (bc:oH 8 c) (hL:gD X Y c)
  {Gl:Prop} (kk:∀r' J',aP (ab FT W (k+5)) W (.ret (.idx (.call be (.aa (.call dZ (.aa (.var 3) (.aa (.var 2) .af))) .af)) (.lit (.int 1)))) [o0,o1,some (.int w),some (.ref r),o4] J
   = some (.ret (.ref r'),[o0,o1,some (.int w),some (.ref r),o4],J')->aN J J'->J.length<=r'->ar 1 1 c r' J'->Gl):Gl:=by
 refine fH (W:=W) (k:=k+4) hw hw' hr hl fun gs v h1 p=>?_;rw[tx hz sc hK] at p;have pn:=cK.scale hn p
 refine et (W:=W) (k:=k) (J:=J++[.dict gs v]) (n:=n) (dn:=1) (c:=c) (i:=J.length) (X:=X) (Y:=Y) hW (by exact Nat.one_pos) (by exact Nat.le_add_left _ _) hn (by exact Nat.lt_of_le_of_lt hn' (by decide)) (by simp) (fun x y=>by
  have h1:=bc x y;rw[Int.natAbs_mul];have:(c x y).natAbs*n.natAbs<=6^8*9:=Nat.mul_le_mul h1 hn';have h68:(6:Nat)^8*9<2^30:=by decide
  omega) (sc.box (by exists L20,0x811101001008811001824,hw',hK)) hL ⟨gs,v,ai _ _,pn⟩ fun r' J' h2 e2 hr2 hp=>?_
 refine kk r' J' ?_ ((aN.app _ _).trans e2) (by simp at hr2;exact Nat.le_of_lt hr2) hp;have i1:bo J' (.tup [qD n (1:Nat),.ref r']) (.int 1)=some (.ref r'):=rfl;exact bk (ao (ah (b7 (ah (al rfl rfl) h1)) h2) rfl i1)
noncomputable abbrev Bu:XS:=.asg 3 (.call og (.aa (.var 3) (.aa (.idx (.var 0) (.var 4)) .af)))
theorem zV {ip wp w:Nat} {n:Int} {P:List (Nat×aZ)} (hw':w<=8) (o1:Option D) :
  ∀(L:List (Nat×(Nat×aZ))) (J:St) (z:List Int) (r K:Nat) (c:Cf) (m:Int) (o4:Option D),J[ip]?=some (.list (P.map fun q=>.ref q.1) wp)->(∀x∈L,P[x.1]?=some x.2/\b6 n w x.2.2 x.2.1 J/\x.2.2.Ok/\x.1<100)->
   fj z r J->(∀q,cZ z q=m*fl c w q)->cv K c->K+L.length<w->z.length<=1+K*(2*w)->z≠[]->
   ∀{Gl:Prop},(∀z' r' J' q4,a9 (aw [4] false) (aP (ab FT W (k+1)) W Bu) none (L.map fun x=>.int (x.1:Nat)) [some (.ref ip),o1,some (.int w),some (.ref r),o4] J
    = some (.next,[some (.ref ip),o1,some (.int w),some (.ref r'),q4],J')->aN J J'->fj z' r' J'->(∀q,cZ z' q=(m*n^L.length)*fl ((L.map (·.2.2)).foldl (fun c p=>T p c) c) w q)->z'.length<=1+(K+L.length)*(2*w)->Gl)->Gl:=by
 intro A0;induction A0 with
 |nil=>
  intro J z r K c m o4 _ _ hr hz _ _ hl _ _ kk;exact kk z r J o4 rfl (aN.refl _) hr (by simpa using hz) (by simpa using hl)
 |cons x L ih=>
  intro J z r K c m o4 hp hL hr hz sc hk hl hz0 _ kk;simp only[List.length_cons] at hk ⊢;obtain⟨hx,hpc,ok,hx100⟩:=hL x List.mem_cons_self;obtain⟨b,hb1,hb2,hb3,hb4,hb5⟩:=hpc.ex;have hKw:K*(2*w)<=8*16:=Nat.mul_le_mul (by exists L30,0x8111010011120210208811001836,hw',hk) (by exists L10,0x1021002131811001812,hw')
  refine mw (W:=W) (k:=k) hr hb1 hb5 hz0 hb4 (by exists L40,0x10000061301020802120180021330182011121018811001848,hw',hl,hb3,hKw) fun z1 v h1 h2 h3=>?_
  have hz1:∀q,cZ z1 q=(m*n)*fl (T x.2.2 c) w q:=fun q=>by rw[h3];exact CH ok sc (by exists L30,0x201110020201111020020836,hk) hz hb2 q
  have hz10:z1≠[]:=by
   rintro rfl;have:=List.length_pos_iff.mpr hz0;have:=List.length_pos_iff.mpr hb4;simp at h2;omega
  have e1:=aN.app J [.list (z1.map .int) v]
  refine ih (J++[.list (z1.map .int) v]) z1 J.length (K+1) (T x.2.2 c) (m*n) (some (.int (x.1:Nat))) (e1.get hp) (fun y hy=>by
   obtain⟨a1,a2,a3,a4⟩:=hL y (List.mem_cons_of_mem _ hy);exact⟨a1,a2.ext e1,a3,a4⟩) ⟨v,ai _ _⟩ hz1 (sc.T ok) (by exists L30,0x201011100220201111020020836,hk) (by
    have:(K+1)*(2*w)=K*(2*w)+2*w:=by rw[Nat.succ_mul]
    exists L60,0x501112401302131025028200021114022830213201810111200186c,hl,hb3,h2,this) hz10 fun z' r' J' q4 hlp e2 hr' hz' hl'=>?_
  refine kk z' r' J' q4 ?_ (e1.trans e2) hr' (fun q=>?_) ?_
  ·rw[List.map_cons];refine(aT (l1:=[some (.ref ip),o1,some (.int w),some (.ref r),some (.int (x.1:Nat))]) rfl ?_ rfl).trans hlp;have ix:bo J (.ref ip) (.int (x.1:Nat))=some (.ref x.2.1):=by
    exact bO hp (Nat.lt_trans hx100 (Nat.le_of_ble_eq_true rfl)) (nQ hx)
   exact aD (ah (al rfl (ao rfl rfl ix)) h1)
  ·rw[hz'];simp only[List.map_cons,List.foldl_cons];rw[List.length_cons,Int.pow_succ,Int.mul_comm (n^L.length),<-Int.mul_assoc]
  ·rw[show K+1+L.length=K+(L.length+1) by exact Nat.add_right_comm _ _ _] at hl';exact hl'
theorem fg {ip wp w:Nat} {n:Int} {P:List (Nat×aZ)} {L:List (Nat×(Nat×aZ))} (hW:2^30<=W) (hw:2<=w) (hw':w<=8) (hn:n≠0) (hn':n.natAbs<=3) (hp:J[ip]?=some (.list (P.map fun q=>.ref q.1) wp))
  (hL:∀x∈L,P[x.1]?=some x.2/\b6 n w x.2.2 x.2.1 J/\x.2.2.Ok/\x.1<100) (hl:L.length<w) (hl2:L.length<=2)
  {Gl:Prop} (kk:∀r J',ab FT W (k+6) bw [.ref ip,ae (L.map fun x=>((x.1:Nat):Int)),.int w] J=some (.ref r,J')->aN J J'->J.length<=r->ar 1 1 (bt (L.map (·.2.2))) r J'->Gl):Gl:=by
 have hpe:=an (τ:=[AO.list [.int 1] 0]) hp
 refine zV (W:=W) (k:=k+4) (w:=w) (n:=n) hw' (some (ae (L.map fun x=>((x.1:Nat):Int)))) L (J++[.list [.int 1] 0]) [1] J.length 0 cw 1 none hpe (fun y hy=>by
  obtain⟨a1,a2,a3,a4⟩:=hL y hy;exact⟨a1,a2.ext (aN.app _ _),a3,a4⟩) ⟨0,ai _ _⟩ (fun q=>by rw[lP hw,dG,d8];simp) bM (by exists L20,0x10000112010000824,hl) (by simp) (by simp) fun z r J1 q4 h1 e1 hr hz hzl=>?_
 rw[gM,Int.one_mul] at hz;rw[Nat.zero_add] at hzl
 have okL:∀p∈L.map (·.2.2),p.Ok:=fun p hp=>by
  obtain⟨x,hx,rfl⟩:=List.mem_map.mp hp;exact(hL x hx).2.2.1
 obtain⟨X,Y,hlead⟩:=fR okL;have sp:=cO okL;have bp:=fS okL;rw[List.length_map] at sp bp;have hnp:n^L.length≠0/\(n^L.length).natAbs<=9:=by
  refine⟨Int.pow_ne_zero hn,?_⟩;rw[Int.natAbs_pow];have h1:n.natAbs^L.length<=3^L.length:=Nat.pow_le_pow_left hn' _;have h2:3^L.length<=3^2:=Nat.pow_le_pow_right (by exact Nat.succ_pos _) hl2;exact Nat.le_trans h1 h2
 have hLw:L.length*(2*w)<=2*(2*w):=Nat.mul_le_mul_right _ hl2
 refine pX (W:=W) (k:=k) (o0:=some (.ref ip)) (o1:=some (ae (L.map fun x=>((x.1:Nat):Int)))) (o4:=q4) hW hw hw' hr hz (by exists L30,0x9131010021321320182011121018002111836,hw,hzl,hLw) sp (by omega) hnp.1 hnp.2 (fun x y=>Nat.le_trans (bp x y) (Nat.pow_le_pow_right (by exact Nat.succ_pos _) (by exact Nat.le_trans hl2 (by decide)))) hlead fun r' J' h2 e2 hr' hpol=>?_;refine kk r' J' ?_ (((aN.app _ _).trans e1).trans e2) ?_ hpol
 ·refine am (fn:=⟨3,5,fi⟩) rfl rfl (l:=[some (.ref ip),some (ae (L.map fun x=>((x.1:Nat):Int))),some (.int w),some (.ref r),q4])
   (ag (l1:=[some (.ref ip),some (ae (L.map fun x=>((x.1:Nat):Int))),some (.int w),some (.ref J.length),none]) (J1:=J++[.list [.int 1] 0]) ?_ (ag (l1:=[some (.ref ip),some (ae (L.map fun x=>((x.1:Nat):Int))),some (.int w),some (.ref r),q4]) (J1:=J1) ?_ h2))
  ·exact aD (bR (ct (b7 rfl) jR))
  ·rw[bY (ds:=L.map fun x=>.int (x.1:Nat)) (src:=none) (J1:=J++[.list [.int 1] 0])]
   ·exact h1
   ·exact(jt rfl).trans (by rw[List.map_map];rfl)
 ·obtain⟨t,rfl⟩:=e1;simp only[List.length_append] at hr';exists L40,0x3000130201000221848,hr'
end
section
variable {W k:Nat} {J:St}
theorem wm (m:Nat):a8 1 m=(List.range m).map fun t:Nat=>[(t:Int)]:=by
 show(List.range m).flatMap (fun t=>[[((0+t:Nat):Int)]])=_;induction List.range m with
 |nil=>rfl
 |cons a l ih=>rw[List.flatMap_cons,ih,Nat.zero_add];rfl
noncomputable abbrev CU:XS:=.ifs (.not (.call aQ (.aa (.var 5) .af))) (.seq (.asg 6 (.call hH (.aa (.var 0) (.aa (.var 5) .af))))
  (.ifs (.notn (.var 6)) (.ret (.tup (.aa (.var 4) (.aa (.var 5) (.aa (.idx (.call be (.aa (.var 6) .af)) (.lit (.int 1))) .af))))) (.nil))) (.nil)
noncomputable abbrev rB:XS:=.seq (.asg 5 (.call bw (.aa (.var 1) (.aa (.var 4) (.aa (.var 3) .af))))) CU
theorem ny {p:aZ} (ok:p.Ok) {r:Nat} (h:ar 1 1 (T p cw) r J):ab FT W (k+1) aQ [.ref r] J=some (.bool false,J):=by
 have hl:gD (0+1) (0+p.e) (T p cw):=ee.T ok;have he:=ok.e;exact qK h ((bM.T ok).box (by exact Nat.succ_pos _)) (x:=0+1) (y:=0+p.e) (by rw[hl.1];decide) (by exists L01,0x112111201131110050110057802,he)
theorem Bm {ip wp w i a:Nat} {n:Int} {P:List (Nat×aZ)} {q:Nat×aZ} {Qt:Cf} {K:Nat} {X Y:Int} {o2 o5 o6:Option D} (hW:2^30<=W) (hw:2<=w) (hw':w<=8) (hn:n≠0) (hn':n.natAbs<=3) (hp:J[ip]?=some (.list (P.map fun q=>.ref q.1) wp))
  (hq:P[a]?=some q) (hpc:b6 n w q.2 q.1 J) (ok:q.2.Ok) (ha:a<100) (hi:ar 1 1 (T q.2 Qt) i J) (sQ:cv K Qt) (hK:K+1<=8) (bQ:oH 8 Qt) (hL:gD X Y Qt)
  {Gl:Prop} (kk:∀l' r1 r2 J',aP (ab FT W (k+9)) W rB [some (.ref i),some (.ref ip),o2,some (.int w),some (ae [(a:Int)]),o5,o6] J=some (.ret (.tup [ae [(a:Int)],.ref r1,.ref r2]),l',J')->aN J J'->ar 1 1 (T q.2 cw) r1 J'->ar 1 1 Qt r2 J'->J.length<=r1->J.length<=r2->Gl):Gl:=by
 refine fg (W:=W) (k:=k+3) (L:=[(a,q)]) hW hw hw' hn hn' hp (fun x hx=>by simp only[List.mem_singleton] at hx;subst hx;exact⟨hq,hpc,ok,ha⟩) (by simp;exact hw) (by simp) fun r1 J1 h1 e1 hr1 p1=>?_;have p1':ar 1 1 (T q.2 cw) r1 J1:=p1;have h2:=ny (W:=W) (k:=k+8) ok p1'
 refine oZ (W:=W) (k:=k) (J:=J1) hW ok p1' (hi.ext e1) sQ hK bQ fun r3 J2 h3 e2 p3=>?_
 refine et (W:=W) (k:=k+4) (J:=J2) (n:=1) (dn:=1) (c:=Qt) (i:=r3) (X:=X) (Y:=Y) hW (by exact Nat.one_pos) (by exact Nat.le_add_left _ _) (by exists L00,0x90111115800) (by exact Nat.le_add_left _ _) (by simp) (fun x y=>by
  have h1:=bQ x y;have h68:(6:Nat)^8<2^30:=by decide
  omega) (sQ.box (by exact Nat.le_of_lt hK)) hL p3 fun r2 J3 h4 e3 hr2 p4=>?_
 refine kk [some (.ref i),some (.ref ip),o2,some (.int w),some (ae [(a:Int)]),some (.ref r1),some (.ref r3)] r1 r2 J3 ?_ ((e1.trans e2).trans e3) ((p1'.ext e2).ext e3) p4 hr1 ?_
 ·refine ag (l1:=[some (.ref i),some (.ref ip),o2,some (.int w),some (ae [(a:Int)]),some (.ref r1),o6]) (J1:=J1) ?_ ?_
  ·have h1':ab FT W (k+9) bw [.ref ip,ae [(a:Int)],.int w] J=some (.ref r1,J1):=h1;exact aD (ah (dF rfl rfl rfl) h1')
  ·exact jq (iG (q:=false) (ah (b7 rfl) h2)) (ag (aD (ah (al rfl rfl) h3)) (jq rfl (bk (aS (dF rfl rfl (ao (ah (b7 rfl) h4) rfl rfl)) A8))))
 ·obtain⟨t1,rfl⟩:=e1;obtain⟨t2,rfl⟩:=e2;simp only[List.length_append] at hr2;exists L40,0x3000130201000221848,hr2
theorem mq {ip wp w i:Nat} {n:Int} {P:List (Nat×aZ)} {q:Nat×aZ} {Qt:Cf} {K:Nat} {X Y:Int} (hW:2^30<=W) (hw:2<=w) (hw':w<=8) (hn:n≠0) (hn':n.natAbs<=3) (hp:J[ip]?=some (.list ((q::P).map fun q=>.ref q.1) wp)) (hP:P.length<8)
  (hpc:b6 n w q.2 q.1 J) (ok:q.2.Ok) (hi:ar 1 1 (T q.2 Qt) i J) (sQ:cv K Qt) (hK:K+1<=8) (bQ:oH 8 Qt) (hL:gD X Y Qt)
  {Gl:Prop} (kk:∀r1 r2 J',ab FT W (k+10) cM [.ref i,.ref ip,.int 1,.int w] J=some (.tup [ae [0],.ref r1,.ref r2],J')->aN J J'->ar 1 1 (T q.2 cw) r1 J'->ar 1 1 Qt r2 J'->J.length<=r1->J.length<=r2->Gl):Gl:=by
 refine dY (W:=W) (n:=k+9) (m:=P.length+1) (s:=1) (J:=J) (by exact hP) (by exact Nat.succ_pos _) (by exact Nat.le_add_left _ _) fun r J1 v h1 e1 hr g1=>?_
 refine Bm (W:=W) (k:=k) (J:=J1) (P:=q::P) (o2:=some (.int 1)) (o5:=none) (o6:=none) hW hw hw' hn hn' (e1.get hp) (a:=0) (q:=q) rfl (hpc.ext e1) ok (by exact Nat.succ_pos _) (hi.ext e1) sQ hK bQ hL fun l' r1 r2 J2 h2 e2 p1 p2 hr1 hr2=>?_;obtain⟨t1,rfl⟩:=e1;refine kk r1 r2 J2 ?_ ((aN.app _ _).trans e2) p1 p2 (by simp at hr1;exact Nat.le_trans (Nat.le_add_right _ _) hr1) (by simp at hr2;exact Nat.le_trans (Nat.le_add_right _ _) hr2);refine am (fn:=⟨4,7,fE⟩) rfl rfl (l:=l') (fv ?_);rw[bY (ds:=(a8 1 (P.length+1)).map ae) (src:=some (r,v)) (J1:=J++t1)]
 ·rw[wm,List.range_succ_eq_map];simp only[List.map_cons];exact kS rfl h2
 ·have hlen:fM J (.ref ip)=some ((P.length+1:Nat):Int):=by
   exact eK hp (gI hP rfl)
  have h1':ab FT W (k+9) bF [.int ((P.length+1:Nat):Int),.int 1] J=some (.ref r,J++t1):=h1;exact cf (ah (al (bz rfl hlen) rfl) h1') g1
theorem Cs {ip wp w i wi a:Nat} {n:Int} {P:List (Nat×aZ)} {q:Nat×aZ} {o2 o5 o6:Option D} (hW:2^30<=W) (hw:2<=w) (hw':w<=8) (hn:n≠0) (hn':n.natAbs<=3) (hp:J[ip]?=some (.list (P.map fun q=>.ref q.1) wp))
  (hq:P[a]?=some q) (hpc:b6 n w q.2 q.1 J) (ok:q.2.Ok) (ha:a<100) (hi:J[i]?=some (.dict rH wi))
  {Gl:Prop} (kk:∀r1 J',aP (ab FT W (k+9)) W rB [some (.ref i),some (.ref ip),o2,some (.int w),some (ae [(a:Int)]),o5,o6] J=some (.next,[some (.ref i),some (.ref ip),o2,some (.int w),some (ae [(a:Int)]),some (.ref r1),some .none],J')->aN J J'->Gl):Gl:=by
 refine fg (W:=W) (k:=k+3) (L:=[(a,q)]) hW hw hw' hn hn' hp (fun x hx=>by simp only[List.mem_singleton] at hx;subst hx;exact⟨hq,hpc,ok,ha⟩) (by simp;exact hw) (by simp) fun r1 J1 h1 e1 hr1 p1=>?_;have p1':ar 1 1 (T q.2 cw) r1 J1:=p1;have h2:=ny (W:=W) (k:=k+8) ok p1'
 refine qP (W:=W) (k:=k) (J:=J1) hW ok p1' (e1.get hi) fun J2 h3 e2=>?_;refine kk r1 J2 ?_ (e1.trans e2);refine ag (l1:=[some (.ref i),some (.ref ip),o2,some (.int w),some (ae [(a:Int)]),some (.ref r1),o6]) (J1:=J1) ?_ ?_
 ·have h1':ab FT W (k+9) bw [.ref ip,ae [(a:Int)],.int w] J=some (.ref r1,J1):=h1;exact aD (ah (dF rfl rfl rfl) h1')
 ·exact jq (iG (q:=false) (ah (b7 rfl) h2)) (ag (aD (ah (al rfl rfl) h3)) (eL rfl rfl))
theorem oe {ip wp w i wi rl vl:Nat} {dl:List D} {n:Int} {P:List (Nat×aZ)} {o2:Option D} (hW:2^30<=W) (hw:2<=w) (hw':w<=8) (hn:n≠0) (hn':n.natAbs<=3) :
  ∀(suf:List Nat) (J:St) (o4 o5 o6:Option D),J[ip]?=some (.list (P.map fun q=>.ref q.1) wp)->J[i]?=some (.dict rH wi)->J[rl]?=some (.list dl vl)->(∀a∈suf,a<100/\∃q,P[a]?=some q/\b6 n w q.2 q.1 J/\q.2.Ok)->
   ∀{Gl:Prop},(∀J' l',a9 (aw [4] false) (aP (ab FT W (k+9)) W rB) (some (rl,vl)) (suf.map fun t:Nat=>ae [(t:Int)]) [some (.ref i),some (.ref ip),o2,some (.int w),o4,o5,o6] J=some (.next,l',J')->aN J J'->Gl)->Gl:=by
 intro A0;induction A0 with
 |nil=>
  intro J o4 o5 o6 _ _ _ _ _ kk;exact kk J _ rfl (aN.refl _)
 |cons a suf ih=>
  intro J o4 o5 o6 hp hi hrl hs _ kk;obtain⟨ha,q,hq,hpc,ok⟩:=hs a List.mem_cons_self
  refine Cs (W:=W) (k:=k) (J:=J) (o2:=o2) (o5:=o5) (o6:=o6) hW hw hw' hn hn' hp hq hpc ok ha hi fun r1 J1 h1 e1=>?_
  refine ih J1 (some (ae [(a:Int)])) (some (.ref r1)) (some .none) (e1.get hp) (e1.get hi) (e1.get hrl) (fun b hb=>by
   obtain⟨hb1,q,hq,hpc,ok⟩:=hs b (List.mem_cons_of_mem _ hb);exact⟨hb1,q,hq,hpc.ext e1,ok⟩) fun J' l' h2 e2=>?_
  refine kk J' l' ?_ (e1.trans e2);rw[List.map_cons];exact(aT rfl h1 (bN (e1.get hrl))).trans h2
theorem lQ {ip wp w i wi:Nat} {n:Int} {P:List (Nat×aZ)} (hW:2^30<=W) (hw:2<=w) (hw':w<=8) (hn:n≠0) (hn':n.natAbs<=3) (hp:J[ip]?=some (.list (P.map fun q=>.ref q.1) wp)) (hP:P.length<=8)
  (hpc:∀q∈P,b6 n w q.2 q.1 J/\q.2.Ok) (hi:J[i]?=some (.dict rH wi))
  {Gl:Prop} (kk:∀J',ab FT W (k+10) cM [.ref i,.ref ip,.int 1,.int w] J=some (.none,J')->aN J J'->Gl):Gl:=by
 refine dY (W:=W) (n:=k+9) (m:=P.length) (s:=1) (J:=J) (by omega) (by exact Nat.succ_pos _) (by exact Nat.le_add_left _ _) fun r J1 v h1 e1 hr g1=>?_
 refine oe (W:=W) (k:=k) (o2:=some (.int 1)) hW hw hw' hn hn' (List.range P.length) J1 none none none (e1.get hp) (e1.get hi) g1 (fun a ha=>by
  rw[List.mem_range] at ha;have hm:=hpc P[a] (List.getElem_mem ha);exact⟨by (exists L20,0x6421100001008811001824,hP,ha),P[a],List.getElem?_eq_getElem ha,hm.1.ext e1,hm.2⟩) fun J2 l' h2 e2=>?_
 refine kk J2 ?_ (e1.trans e2);refine am (fn:=⟨4,7,fE⟩) rfl rfl (l:=l') (ag (l1:=l') (J1:=J2) ?_ (bk rfl));rw[bY (ds:=(a8 1 P.length).map ae) (src:=some (r,v)) (J1:=J1)]
 ·rw[wm,List.map_map];exact h2
 ·have hlen:fM J (.ref ip)=some ((P.length:Nat):Int):=by
   exact eK hp (gI hP rfl)
  have h1':ab FT W (k+9) bF [.int ((P.length:Nat):Int),.int 1] J=some (.ref r,J1):=h1;exact cf (ah (al (bz rfl hlen) rfl) h1') g1
theorem mr {ip wp w i r5:Nat} (hW:2^30<=W) (hw:2<=w) (hw':w<=8) (hp:J[ip]?=some (.list [.ref r5] wp)) (h5:fj [5] r5 J)
  {Gl:Prop} (kk:∀J',ab FT W (k+10) cM [.ref i,.ref ip,.int 1,.int w] J=some (.none,J')->aN J J'->Gl):Gl:=by
 refine dY (W:=W) (n:=k+9) (m:=1) (s:=1) (J:=J) (by exact Nat.succ_pos _) (by exact Nat.succ_pos _) (by exact Nat.le_add_left _ _) fun r J1 v h1 e1 hr g1=>?_;have e2:=aN.app J1 [AO.list [.int 1] 0]
 refine mw (W:=W) (k:=k+7) (J:=J1++[.list [.int 1] 0]) (i:=J1.length) (a:=[1]) (b:=[5]) ⟨0,ai _ _⟩ ((h5.ext e1).ext e2) (by simp) (by simp) (by simp) (by simp) fun z1 v1 h2 h3 h4=>?_
 have hz:∀q,cZ z1 q=5*fl cw w q:=fun q=>by
  rw[h4];refine(Aq (m:=1) (n:=5) (c:=cw) (w:=w) (fun q=>?_) (fun q=>?_) q).trans (by rw[Int.one_mul])
  ·rw[lP hw,dG,d8];simp
  ·rw[dG,d8];simp
 have e3:=aN.app (J1++[AO.list [.int 1] 0]) [.list (z1.map .int) v1];refine pX (W:=W) (k:=k+3) (J:=J1++[.list [.int 1] 0]++[.list (z1.map .int) v1]) (z:=z1) (r:=(J1++[AO.list [.int 1] 0]).length) (o0:=some (.ref ip)) (o1:=some (ae [0])) (o4:=some (.int 0)) (n:=5) (K:=0) (c:=cw) (X:=0) (Y:=0) hW hw hw' ⟨v1,ai _ _⟩ hz (by simp at h3;exists L20,0x9131011111028002111824,hw,h3) bM (by exact Nat.lt_of_succ_lt hw) (by decide) (by decide)
  (fun x y=>Nat.le_trans (gu x y) (by decide)) ee fun rc J2 h6 e4 _ p6=>?_
 have ix:bo (J1++[AO.list [.int 1] 0]) (.ref ip) (.int 0)=some (.ref r5):=by
  exact bO (n:=0) (e2.get (e1.get hp)) (Nat.le_of_ble_eq_true rfl) rfl
 have e23:=e2.trans e3;have h2':ab FT W (k+8) og [.ref J1.length,.ref r5] (J1++[.list [.int 1] 0])=_:=h2;have hfirst:aP (ab FT W (k+8)) W (.asg 3 (.lst (.cC (.aa (.lit (.int 1)) .af)))) [some (.ref ip),some (ae [0]),some (.int w),none,none] J1=some (.next,[some (.ref ip),some (ae [0]),some (.int w),some (.ref J1.length),none],J1++[AO.list [.int 1] 0]):=aD (bR (ct (b7 rfl) jR));generalize (J1++[AO.list [.int 1] 0])++[.list (z1.map .int) v1]=J4 at *;generalize (J1++[AO.list [.int 1] 0])=J3 at *;have hcand:ab FT W (k+9) bw [.ref ip,ae [0],.int w] J1=some (.ref rc,J2):=by
  refine am (fn:=⟨3,5,fi⟩) rfl rfl (l:=[some (.ref ip),some (ae [0]),some (.int w),some (.ref J3.length),some (.int 0)])
   (ag (l1:=[some (.ref ip),some (ae [0]),some (.int w),some (.ref J1.length),none]) (J1:=J3) ?_ (ag (l1:=[some (.ref ip),some (ae [0]),some (.int w),some (.ref J3.length),some (.int 0)]) (J1:=J4) ?_ ?_))
  ·exact hfirst
  ·rw[bY (ds:=[.int 0]) (src:=none) (J1:=J3)]
   ·refine(aT (l1:=[some (.ref ip),some (ae [0]),some (.int w),some (.ref J1.length),some (.int 0)]) (l2:=[some (.ref ip),some (ae [0]),some (.int w),some (.ref J3.length),some (.int 0)]) (J2:=J4) rfl ?_ rfl).trans rfl;exact aD (ah (al rfl (ao rfl rfl ix)) h2')
   ·exact jt rfl
  ·exact h6
 have hnum:=nK (W:=W) (k:=k+8) p6 (fun x y h=>by
  have:=bM x y h;exists L02,0x11105011005601171041001146011700460001146804,this)
 have hx:aN J J2:=(e1.trans e23).trans e4;refine kk J2 ?_ hx;refine am (fn:=⟨4,7,fE⟩) rfl rfl (l:=[some (.ref i),some (.ref ip),some (.int 1),some (.int w),some (ae [0]),some (.ref rc),none]) (ag (l1:=[some (.ref i),some (.ref ip),some (.int 1),some (.int w),some (ae [0]),some (.ref rc),none]) (J1:=J2) ?_ (bk rfl));rw[bY (ds:=[ae [0]]) (src:=some (r,v)) (J1:=J1)]
 ·refine(aT (l1:=[some (.ref i),some (.ref ip),some (.int 1),some (.int w),some (ae [0]),none,none]) (l2:=[some (.ref i),some (.ref ip),some (.int 1),some (.int w),some (ae [0]),some (.ref rc),none]) (J2:=J2) rfl ?_ ?_).trans rfl
  ·refine ag (l1:=[some (.ref i),some (.ref ip),some (.int 1),some (.int w),some (ae [0]),some (.ref rc),none]) (J1:=J2) ?_ ?_
   ·exact aD (ah (dF rfl rfl rfl) hcand)
   ·exact eL (iG (q:=true) (ah (b7 rfl) hnum)) rfl
  ·exact bN ((e23.trans e4).get g1)
 ·have hlen:fM J (.ref ip)=some 1:=by
   exact eV hp jR
  have h1':ab FT W (k+9) bF [.int 1,.int 1] J=some (.ref r,J1):=h1;exact(cf (ah (al (bz rfl hlen) rfl) h1') g1).trans (by rw[wm];rfl)
end
theorem uC (f:D->D->Option Bool) (fs:Es):∀suf:Es,(∀e∈suf,aU fs e.1=some e.2/\f e.2 e.2=some true)->jv f fs suf=some true:=by
 intro A0;induction A0 with
 |nil=>
  intro _;exact rfl
 |cons e suf ih=>
  intro h;obtain⟨k,x⟩:=e;have h1:=h (k,x) List.mem_cons_self;simp only at h1;show(match aU fs k with|none=>some false|some y=>match f x y,jv f fs suf with|some a,some b=>some (a&&b)|_,_=>none)=_;rw[h1.1];dsimp only;rw[h1.2,ih fun e he=>h e (List.mem_cons_of_mem _ he)];rfl
theorem w9 (J:St) (m:Nat) (a b:Int):cY J (m+2) (qD a b) (qD a b)=some true:=by
 show(if [D.int a,D.int b].length=[D.int a,D.int b].length then de (cY J (m+1)) [.int a,.int b] [.int a,.int b] else none)=_;rw[if_pos rfl]
 have e:∀x:Int,cY J (m+1) (.int x) (.int x)=some true:=fun x=>congrArg some (beq_self_eq_true x);exact bK (e a) (bK (e b) rfl)
section
variable {W k:Nat} {J:St} {n d:Int} {c:Cf}
theorem cy.same_len {es fs:Es} (p:cy n d c es) (q:cy n d c fs):es.length=fs.length:=by
 have h:∀{es fs:Es},cy n d c es->cy n d c fs->es.length<=fs.length:=fun {es fs} p q=>by
  have:=jS (es.map (·.1)) (fs.map (·.1)) p.nd fun k hk=>by
   obtain⟨e,he,rfl⟩:=List.mem_map.mp hk;obtain⟨x,y,rfl,hc⟩:=p.entry he
   exact Classical.byContradiction fun hn=>hc (q.supp hn)
  rwa [List.length_map,List.length_map] at this
 exact Nat.le_antisymm (h p q) (h q p)
theorem jZ {i j m:Nat} (hi:ar n d c i J) (hj:ar n d c j J):cY J (m+3) (.ref i) (.ref j)=some true:=by
 obtain⟨es,w,hi,p⟩:=hi;obtain⟨fs,v,hj,q⟩:=hj;by_cases h:i=j
 ·show(if i=j then some true else _)=_;rw[if_pos h]
 ·show(if i=j then some true else _)=_;rw[if_neg h,hi,hj];show(if es.length=fs.length then jv (cY J (m+2)) fs es else some false)=_;rw[if_pos (p.same_len q)]
  refine uC _ _ _ fun e he=>?_;obtain⟨x,y,rfl,hc⟩:=p.entry he;refine⟨by rw[q.get,if_neg hc],?_⟩;obtain⟨a,b,e⟩:=li (c x y*n) d;rw[e];exact w9 J m a b
theorem l7 {i j:Nat} (hne:i≠j) (hi:ar n d c i J) (hj:ar n d c j J):cP .eq (.ref i) (.ref j) J=some true:=by
 show(if i=j then none else cY J 8 (.ref i) (.ref j))=_;rw[if_neg hne];exact jZ (m:=5) hi hj
theorem dA {i j:Nat} (hne:i≠j) (hi:ar n d c i J) (hj:ar n d c j J):cP .ne (.ref i) (.ref j) J=some false:=by
 show(if i=j then none else (cY J 8 (.ref i) (.ref j)).map (!·))=_;rw[if_neg hne,jZ (m:=5) hi hj];rfl
theorem rV {i j:Nat} {z:List Int} (hne:i≠j) (hi:fj z i J) (hj:fj z j J):cP .eq (.ref i) (.ref j) J=some true:=by
 obtain⟨w,hi⟩:=hi;obtain⟨v,hj⟩:=hj;show(if i=j then none else (if i=j then some true else _))=_;rw[if_neg hne,if_neg hne,hi,hj];show(if _ then de (cY J 7) (z.map .int) (z.map .int) else some false)=_;rw[if_pos rfl];clear hi hj;induction z with
 |nil=>rfl
 |cons x z ih=>
  have e:cY J 7 (.int x) (.int x)=some true:=congrArg some (beq_self_eq_true x);exact bK e ih
noncomputable def vC (v:Nat):X:=.bin .add (.idx (.var v) (.lit (.int 0))) (.bin .mul (.var 1) (.idx (.var v) (.lit (.int 1))))
theorem sR {C:Nat->List D->St->Option (D×St)} {w x y:Int} {l:aB} {v:Nat} (h1:l[1]?=some (some (.int w))) (hv:l[v]?=some (some (ae [x,y]))) (hw:0<=w) (hw':w<=8):ev C (vC v) l J=some (.int (x+w*y),J):=by
 have m:qf w y:=.inl (by omega);exact aA (ao (aj hv) rfl rfl) (aA (aj h1) (ao (aj hv) rfl rfl) (cu m)) rfl
theorem vV (w:Int):∀(es:Es) (m:Int),(es.map (a6 w)).foldl (fun m x=>if x>m then x else m) m=bj w es (m+1)-1:=by
 intro A0;induction A0 with
 |nil=>
  intro m;simp[bj]
 |cons e es ih=>
  intro m;have ih:=ih (if a6 w e>m then a6 w e else m);rw[List.map_cons,List.foldl_cons,ih];show _=bj w es (if a6 w e+1>m+1 then a6 w e+1 else m+1)-1;congr 2
  by_cases h:a6 w e>m
  ·rw[if_pos h,if_pos (by exists L02,0x111102111002310003804,h)]
  ·rw[if_neg h,if_neg (by exists L02,0x9111102111002389100038804,h)]
theorem vW {w:Int} {es:Es} (hne:es≠[]) (h0:∀e∈es,0<=a6 w e):tV (es.map fun e=>.int (a6 w e))=some (bj w es 0-1):=by
 obtain⟨e,r,rfl⟩:=List.exists_cons_of_ne_nil hne;show(match aG ((e::r).map fun e=>.int (a6 w e)) with|some (i::r)=>some (r.foldl (fun m x=>if x>m then x else m) i)|_=>none)=_;have:aG ((e::r).map fun e=>D.int (a6 w e))=some (a6 w e::r.map (a6 w)):=by
  have:=lI ((e::r).map (a6 w));rw[List.map_map] at this;exact this
 rw[this];show some ((r.map (a6 w)).foldl _ _)=_;rw[vV];have:=h0 e List.mem_cons_self;show _=some (bj w r (if a6 w e+1>0 then a6 w e+1 else 0)-1);rw[if_pos (by exists L01,0x1110020113000114802,this)]
noncomputable abbrev wL:XS:=.set (.var 3) (vC 4) (.idx (.idx (.var 0) (.var 4)) (.lit (.int 0)))
theorem zC {i wi:Nat} {es:Es} {w:Int} {o2 o5:Option D} (hw:0<=w) (hw':w<=8) (p:cK c es) (hi:J[i]?=some (.dict es wi)) :
  ∀(suf:Es) (z:List Int) (v:Nat) (o4:Option D),(∀e∈suf,e∈es)->uQ w suf->(∀e∈suf,0<=a6 w e/\a6 w e<z.length)->z.length<1048576->
   ∀{Gl:Prop},(∀z' v' q4,a9 (aw [4] false) (aP (ab FT W k) W wL) (some (i,wi)) (suf.map fun e=>ae e.1) [some (.ref i),some (.int w),o2,some (.ref J.length),o4,o5] (J++[.list (z.map .int) v])
    = some (.next,[some (.ref i),some (.int w),o2,some (.ref J.length),q4,o5],J++[.list (z'.map .int) v'])->z'.length=z.length->(∀q,0<=q->cZ z' q=if [q%w,q/w]∈suf.map (·.1) then c (q%w) (q/w) else cZ z q)->Gl)->Gl:=by
 intro A0;induction A0 with
 |nil=>
  intro z v o4 _ _ _ _ _ kk
  exact kk z v o4 rfl rfl (fun q _=>by simp)
 |cons e suf ih=>
  intro z v o4 hf hk hp hz _ kk;obtain⟨x,y,h,h0,h1,_⟩:=hk e List.mem_cons_self;have hpe:=hp e List.mem_cons_self;obtain⟨x',y',he,hc⟩:=p.entry (hf e List.mem_cons_self);subst he;simp only[List.cons.injEq,and_true] at h;obtain⟨rfl,rfl⟩:=h;rw[Int.mul_one,aF] at *;change 0<=x'+w*y'/\x'+w*y'<z.length at hpe
  have hm:(x'+w*y').toNat<z.length:=by exists L22,0x10001110201110002361000210751000201146780071000231000201146824,hpe,(ft (x'+w*y'))
  have hcast:(((x'+w*y').toNat:Nat):Int)=x'+w*y':=by exists L22,0x10002107501110201110002361000210751000201146780071000231000201146824,hpe,(ft (x'+w*y'))
  refine' ih (z.set (x'+w*y').toNat (c x' y')) (v+1) (some (ae [x',y'])) (fun e he=>hf e (List.mem_cons_of_mem _ he)) (fun e he=>hk e (List.mem_cons_of_mem _ he))
   (fun e he=>by rw[List.length_set];exact hp e (List.mem_cons_of_mem _ he)) (by rw[List.length_set];exact hz) fun z' v' q4 hl hlen hz'=>?main
  case' main=>skip
  refine kk z' v' q4 ?_ (by rw[hlen,List.length_set]) (fun q hq=>?_)
  ·rw[List.map_cons];refine(aT (l1:=[some (.ref i),some (.int w),o2,some (.ref J.length),some (ae [x',y']),o5]) rfl ?_ (aL (an hi))).trans hl;have hpv:=sR (J:=J++[AO.list (z.map .int) v]) (C:=ab FT W k) (l:=[some (.ref i),some (.int w),o2,some (.ref J.length),some (ae [x',y']),o5]) (v:=4) rfl rfl hw hw';have h3:(J++[AO.list (z.map .int) v])[J.length]?=some (.list (z.map .int) v):=ai _ _;have hs:(J++[AO.list (z.map .int) v]).set J.length (.list ((z.set (x'+w*y').toNat (c x' y')).map .int) (v+1))=_:=dk _ _ _;have hkk:(0:Int)<=x'+w*y'/\x'+w*y'<(ay:Int):=by
    have:ay=1048576:=rfl;exists L22,0x10710002310002011461000006110280071000231000201146810000061000824,hz,hpe,this
   have hset:ic (J++[AO.list (z.map .int) v]) (.ref J.length) (.int (x'+w*y')) (.int (c x' y'))=some (J++[.list ((z.set (x'+w*y').toNat (c x' y')).map .int) (v+1)]):=by
    exact(jM h3 hkk (by rw[List.length_map];exact hm)).trans (by rw[<-List.map_set,hs])
   have hidx:bo (J++[AO.list (z.map .int) v]) (.ref i) (ae [x',y'])=some (qD (c x' y') 1):=(bP (an hi) (p.at hc) rfl).trans (by rw[Int.mul_one,aF]);have e0:ev (ab FT W k) (.idx (.idx (.var 0) (.var 4)) (.lit (.int 0))) [some (.ref i),some (.int w),o2,some (.ref J.length),some (ae [x',y']),o5] (J++[AO.list (z.map .int) v])=some (.int (c x' y'),J++[AO.list (z.map .int) v]):=ao (ao rfl rfl hidx) rfl rfl;have e3:ev (ab FT W k) (.var 3) [some (.ref i),some (.int w),o2,some (.ref J.length),some (ae [x',y']),o5] (J++[AO.list (z.map .int) v])=some (.ref J.length,J++[AO.list (z.map .int) v]):=rfl;exact iE e0 e3 hpv hset
  ·rw[hz' q hq,nC hm,hcast];simp only[List.map_cons,List.mem_cons];by_cases hqe:q=x'+w*y'
   ·have hk1:=(eI (y:=y') hq h0 h1).mpr hqe;have hor:([q%w,q/w]=[x',y']\/[q%w,q/w]∈suf.map (·.1)):=.inl hk1;rw[if_pos hqe,if_pos hor];simp only[List.cons.injEq,and_true] at hk1;rw[hk1.1,hk1.2];simp
   ·have hk1:¬[q%w,q/w]=[x',y']:=fun z=>hqe ((eI hq h0 h1).mp z);rw[if_neg hqe];simp only[hk1,false_or]
theorem kI {i:Nat} {w:Nat} {K:Nat} (hw:2<=w) (hw':w<=8) (hi:ar 1 1 c i J) (sc:cv K c) (hK:K<w) {x0 y0:Int} (h0:c x0 y0≠0) (hlt:i<J.length)
  {Gl:Prop} (kk:∀J',ab FT W (k+2) cE [.ref i,.int w] J=some (.bool true,J')->aN J J'->Gl):Gl:=by
 obtain⟨es,wi,hi,p⟩:=hi;have hne:es≠[]:=p.ne_nil h0
 have hkw:uQ w es:=fun e he=>by
  obtain⟨x,y,rfl,hc⟩:=p.entry he;have:=sc x y hc;exact⟨x,y,rfl,by exists L22,0x8111041001146007003600011461071041001146107004600011468001008811001824,hw',hK,this⟩
 have hkb:∀e∈es,ky e.1<=(K:Int):=fun e he=>by
  obtain⟨x,y,rfl,hc⟩:=p.entry he;have:=sc x y hc;show y<=K;exact(this).2.2.2
 have hpb:∀e∈es,0<=a6 w e/\a6 w e<w+w*K:=fun e he=>mG (by exact Int.natCast_nonneg _) hkw hkb he
 refine gN (W:=W) (k:=k) hw hw' p hi sc hK fun z v h1 hzl hz hzb=>?_;have e1:=aN.app J [AO.list (z.map .int) v];have hi1:=e1.get hi;have hwK:w*K<=8*8:=Nat.mul_le_mul hw' (by exists L20,0x811101001008811001824,hw',hK)
 refine zC (W:=W) (k:=k+1) (J:=J++[.list (z.map .int) v]) (w:=(w:Int)) (o2:=some (.ref J.length)) (o5:=none) (by exact Int.natCast_nonneg _) (by exact Int.ofNat_le.mpr hw') p hi1 es (List.replicate z.length 0) 0 none (fun e he=>he) hkw
  (fun e he=>⟨(hpb e he).1,by rw[List.length_replicate,hzl];exact(lc w es 0).2 e he⟩) (by rw[List.length_replicate];exists L30,0x1000006110040212018200021018811001836,hw',hzb,hwK) fun z2 v2 q4 h2 hl2 hz2=>?_
 rw[List.length_replicate] at hl2
 have hzz:z2=z:=x9 hl2 fun q=>by
  rw[hz];unfold fl;by_cases hq:0<=q
  ·rw[hz2 q hq,nD,if_pos hq];split
   ·rfl
   ·rename_i hm;rw[p.supp hm]
  ·rw[if_neg hq,nE (by exact Int.not_le.mp hq)]
 subst hzz;have e2:=aN.app (J++[AO.list (z2.map .int) v]) [AO.list (z2.map .int) v2];have hlen1:(J++[AO.list (z2.map .int) v]).length=J.length+1:=by simp
 rw[hlen1] at h2;have hrow:fj z2 J.length ((J++[AO.list (z2.map .int) v])++[AO.list (z2.map .int) v2]):=⟨v,e2.get (ai _ _)⟩;have hdue:fj z2 (J.length+1) ((J++[AO.list (z2.map .int) v])++[AO.list (z2.map .int) v2]):=⟨v2,by rw[<-hlen1];exact ai _ _⟩;have hfirst:aP (ab FT W (k+1)) W (.asg 2 (.call cS (.aa (.var 0) (.aa (.var 1) .af)))) [some (.ref i),some (.int w),none,none,none,none] J=some (.next,[some (.ref i),some (.int w),some (.ref J.length),none,none,none],J++[AO.list (z2.map .int) v]):=by
  exact aD (ah (al rfl rfl) h1)
 have hsecond:aP (ab FT W (k+1)) W (.asg 3 (.rep (.lit (.int 0)) (.bin .add (.ik (.aE (.bin .add (.idx (.var 5) (.lit (.int 0))) (.bin .mul (.var 1) (.idx (.var 5) (.lit (.int 1))))) [5] false (.ix (.var 0)) none)) (.lit (.int 1))))) [some (.ref i),some (.int w),some (.ref J.length),none,none,none] (J++[AO.list (z2.map .int) v])
   = some (.next,[some (.ref i),some (.int w),some (.ref J.length),some (.ref (J.length+1)),none,none],(J++[AO.list (z2.map .int) v])++[.list ((List.replicate z2.length (0:Int)).map .int) 0]):=by
  have hc:=el (bind:=aw [5] false) (elt:=ev (ab FT W (k+1)) (vC 5)) (src:=some (i,wi)) (l:=[some (.ref i),some (.int w),some (.ref J.length),none,none,none]) (J:=J++[AO.list (z2.map .int) v]) (fun e:List Int×D=>ae e.1) (fun e=>.int (a6 w e)) (aL hi1) es (fun e he=>by
   obtain⟨x,y,h,_⟩:=hkw e he;refine⟨[some (.ref i),some (.int w),some (.ref J.length),none,none,some (ae e.1)],rfl,?_⟩;obtain⟨k0,v0⟩:=e;simp only at h;subst h;exact sR (v:=5) (x:=x) (y:=y) (w:=(w:Int)) rfl rfl (by exact Int.natCast_nonneg _) (by exact Int.ofNat_le.mpr hw'))
  have hit:eA (ab FT W (k+1)) (.ix (.var 0)) [some (.ref i),some (.int w),some (.ref J.length),none,none,none] (J++[AO.list (z2.map .int) v])=some (es.map fun e=>ae e.1,some (i,wi),J++[AO.list (z2.map .int) v]):=bA rfl hi1
  have hle:(es.map fun e=>ae e.1).length<ay:=by rw[List.length_map];exact p.len (sc.box (by exists L20,0x811101001008811001824,hw',hK))
  have hL:di (ab FT W (k+1)) (.aE (vC 5) [5] false (.ix (.var 0)) none) [some (.ref i),some (.int w),some (.ref J.length),none,none,none] (J++[AO.list (z2.map .int) v])=some (es.map (fun e=>.int (a6 w e)),J++[AO.list (z2.map .int) v]):=cH hit hle hc
  have hmx:=vW (w:=(w:Int)) hne fun e he=>(hpb e he).1;have hn1:(bj (w:Int) es 0-1+1)=(z2.length:Int):=by exists L11,0x711111100525000075812,hzl
  have hn2:((z2.length:Int)).natAbs<ay:=by have:ay=1048576:=rfl;exists L50,0x304002076407501120736207407520701146781000006130281000220184021101881100185a,hw',hwK,hzb,this,(fa (↑z2.length))
  show aP (ab FT W (k+1)) W (.asg 3 (.rep (.lit (.int 0)) (.bin .add (.ik (.aE (vC 5) [5] false (.ix (.var 0)) none)) (.lit (.int 1))))) _ _=_;rw[<-hlen1,List.map_replicate]
  exact aD (ot (n:=(z2.length:Int)) rfl (aA (wW hL hmx) rfl (congrArg (fun n=>some (D.int n,_)) hn1)) hn2)
 have hthird:aP (ab FT W (k+1)) W (.for_ [4] false (.ix (.var 0)) wL) [some (.ref i),some (.int w),some (.ref J.length),some (.ref (J.length+1)),none,none] ((J++[AO.list (z2.map .int) v])++[.list ((List.replicate z2.length (0:Int)).map .int) 0])
   = some (.next,[some (.ref i),some (.int w),some (.ref J.length),some (.ref (J.length+1)),q4,none],(J++[AO.list (z2.map .int) v])++[AO.list (z2.map .int) v2]):=by
  rw[bY (ds:=es.map fun e=>ae e.1) (src:=some (i,wi)) (J1:=(J++[AO.list (z2.map .int) v])++[.list ((List.replicate z2.length (0:Int)).map .int) 0]) (bA rfl (an hi1))];exact h2
 have hi2:=e2.get hi1;have hlen2:((J++[AO.list (z2.map .int) v])++[AO.list (z2.map .int) v2]).length=J.length+2:=by simp
 have e12:=e1.trans e2;generalize (J++[AO.list (z2.map .int) v])++[AO.list (z2.map .int) v2]=J2 at *;have hwk:w*K<=w*w:=Nat.mul_le_mul_left _ (by exact Nat.le_of_lt hK);have hwkw:w*w<=w*8:=Nat.mul_le_mul_left _ hw'
 refine fH (W:=W) (k:=k) hw hw' hrow (by exists L40,0x1091300110814301830201820102001848,hzb,hwk,hwkw) fun gs v3 h3 p3=>?_;rw[Ar hz sc hK] at p3;have e3:=aN.app J2 [AO.dict gs v3];have pi3:ar 1 1 c i (J2++[AO.dict gs v3]):=⟨es,wi,e3.get hi2,p⟩;have pr3:ar 1 1 c J2.length (J2++[AO.dict gs v3]):=⟨gs,v3,ai _ _,p3⟩;have hlen3:(J2++[AO.dict gs v3]).length=J.length+3:=by simp[hlen2]
 generalize hJ3:(J2++[AO.dict gs v3])=J3 at *
 refine fH (W:=W) (k:=k) (J:=J3++[.list (([]:List Int).map .int) 0]) (i:=J3.length) (z:=[]) hw hw' ⟨0,ai _ _⟩ (by simp) fun hs v4 h4 p4=>?_;rw[sh] at p4;have hlen4:(J3++[AO.list (([]:List Int).map .int) 0]).length=J.length+4:=by simp[hlen3]
 rw[hlen4] at h4;generalize hJ5:(J3++[AO.list (([]:List Int).map .int) 0]++[AO.dict hs v4])=J5 at *
 have pa:ar 1 1 (fun _ _=>0) (J.length+4) (J5++[AO.dict [] 0]):=by
  rw[<-hJ5,<-hlen4];exact⟨hs,v4,an (ai _ _),p4⟩
 have hlen5:J5.length=J.length+5:=by rw[<-hJ5];simp[hlen3]
 have pb:ar 1 1 (fun _ _=>0) J5.length (J5++[AO.dict [] 0]):=⟨[],0,ai _ _,cy.nil⟩;have e5:aN J3 (J5++[AO.dict [] 0]):=by rw[<-hJ5];exact((aN.app _ _).app_r _).app_r _
 refine kk (J5++[.dict [] 0]) ?_ ((e12.trans e3).trans e5);refine am (fn:=⟨2,6,f7⟩) rfl rfl (l:=[some (.ref i),some (.int w),some (.ref J.length),some (.ref (J.length+1)),q4,none])
  (ag hfirst (ag hsecond (ag hthird ?_)))
 refine bk (gP (J1:=J2) ?_ (gP (J1:=J3) ?_ ?_))
 ·exact aq (x:=.ref J.length) (y:=.ref (J.length+1)) (J1:=J2) rfl rfl (rV (by exists L10,0x9111002002812) hrow hdue)
 ·refine aq (x:=.ref J2.length) (y:=.ref i) (J1:=J3) ?_ rfl (l7 (by exists L30,0x9002028211102202810000836,hlt,hlen2) pr3 pi3);exact ah (al rfl rfl) h3
 ·refine aq (x:=.ref (J.length+4)) (y:=.ref J5.length) (J1:=J5) ?_ ?_ (l7 (by exists L20,0x90041110228511102002824,hlen5) pa pb)
  ·have h4':ab FT W (k+1) dZ [.ref J3.length,.int w] (J3++[AO.list [] 0])=some (.ref (J.length+4),J5):=h4;exact ah (al (bR (ct rfl (Nat.le_of_ble_eq_true rfl))) rfl) h4'
  ·exact cQ (xs:=.af) rfl (Nat.le_of_ble_eq_true rfl) rfl
end
noncomputable def aH (J τ:St):Prop:=∃(is:List Int) (n:Int) (v0 v1:Nat),is.length<=30/\J = .list (is.map D.int) v0::.list [.ref 0,.int n] v1::τ
theorem aH.app {J τ:St} (h:aH J τ) (t:St):aH (J++t) (τ++t):=by
 obtain⟨is,n,v0,v1,hl,rfl⟩:=h;exact⟨is,n,v0,v1,hl,rfl⟩
theorem aH.len {J τ:St} (h:aH J τ):J.length=τ.length+2:=by
 obtain⟨is,n,v0,v1,hl,rfl⟩:=h;simp
theorem aH.get {J τ:St} (h:aH J τ) (i:Nat):J[i+2]?=τ[i]?:=by
 obtain⟨is,n,v0,v1,hl,rfl⟩:=h;simp
theorem aH.ext {J τ J':St} (h:aH J τ) (e:aN J J'):∃τ',aH J' τ'/\aN τ τ':=by
 obtain⟨t,rfl⟩:=e;exact⟨τ++t,h.app t,t,rfl⟩
section
variable {W k:Nat}
theorem cq {J τ:St} {m:Int} (h:aH J τ) (hm:0<m)
  {Gl:Prop} (kk:∀v J',ab FT W (k+1) aX [.ref 1,.int m] J=some (.int v,J')->0<=v->v<m->aH J' τ->Gl):Gl:=by
 obtain⟨is,n,v0,v1,hl,rfl⟩:=h;have hmz:m≠0:=by exact Int.ne_of_gt hm
 have hfm:∀x:Int,x.fmod m=x%m:=fun x=>Int.fmod_eq_emod_of_nonneg _ (by exact Int.le_of_lt hm)
 cases is with
 |nil=>
  refine kk ((5*(n+1)+(n+1).fdiv 2)%m) (.list [] v0::.list [.ref 0,.int (n+1)] (v1+1)::τ) ?_ (Int.emod_nonneg _ hmz) (Int.emod_lt_of_pos _ hm) ⟨[],n+1,v0,v1+1,by simp,rfl⟩;refine am (fn:=⟨2,3,iO⟩) rfl rfl (l:=[some (.ref 1),some (.int m),some (.int (5*(n+1)+(n+1).fdiv 2))])
   (ag (l1:=[some (.ref 1),some (.int m),none]) (J1:=.list [] v0::.list [.ref 0,.int (n+1)] (v1+1)::τ) ?_ (ag (l1:=[some (.ref 1),some (.int m),some (.int (5*(n+1)+(n+1).fdiv 2))]) (J1:=.list [] v0::.list [.ref 0,.int (n+1)] (v1+1)::τ) ?_ ?_))
  ·kernel_rfl!
  ·kernel_rfl!
  ·rw[<-hfm];exact bk (aA rfl rfl (kU hmz))
 |cons i is=>
  simp only[List.length_cons] at hl;have hl':is.length+1<1048576:=by exact Nat.lt_of_le_of_lt hl (by decide)
  refine kk (i%m) (.list (is.map .int) (v0+1)::.list [.ref 0,.int (n+1)] (v1+1)::τ) ?_ (Int.emod_nonneg _ hmz) (Int.emod_lt_of_pos _ hm) ⟨is,n+1,v0+1,v1+1,by exact Nat.le_of_lt hl,rfl⟩;refine am (fn:=⟨2,3,iO⟩) rfl rfl (l:=[some (.ref 1),some (.int m),some (.int i)])
   (ag (l1:=[some (.ref 1),some (.int m),none]) (J1:=.list ((i::is).map .int) v0::.list [.ref 0,.int (n+1)] (v1+1)::τ) ?_ (ag (l1:=[some (.ref 1),some (.int m),some (.int i)]) (J1:=.list (is.map .int) (v0+1)::.list [.ref 0,.int (n+1)] (v1+1)::τ) ?_ ?_))
  ·kernel_rfl!
  ·have h0:0<(is.length:Int)+1:=by exact Int.ofNat_succ_pos _
   have hm:((i::is).map D.int).length<ay:=by rw[List.length_map];exact hl'
   have hi:ev (ab FT W k) (.idx (.var 0) (.lit (.int 0))) [some (.ref 1),some (.int m),none] (.list ((i::is).map .int) v0::.list [.ref 0,.int (n+1)] (v1+1)::τ)=some (.ref 0,.list ((i::is).map .int) v0::.list [.ref 0,.int (n+1)] (v1+1)::τ):=ao rfl rfl (by kernel_rfl!);exact aD (fc (aq (bz hi (eV rfl hm)) rfl (ut (by rw[List.length_map];exact h0))) ((pP (n:=0) (w:=v0) (ds:=(i::is).map D.int) hi rfl rfl rfl rfl hm).trans rfl))
  ·rw[<-hfm];exact bk (aA rfl rfl (kU hmz))
noncomputable def bX (p:aZ):Es:=if p.e=1 then [([1,1],qD 1 1),([0,0],qD p.b 1)] else
 ([1,0],qD 1 1)::((if p.a≠0 then [([0,1],qD p.a 1)] else [])++(if p.b≠0 then [([0,0],qD p.b 1)] else []))
noncomputable def kM:List aZ:=[⟨1,0,-2⟩,⟨1,0,-1⟩,⟨1,0,3⟩,⟨1,0,1⟩,⟨1,0,2⟩]++([-1,0,1,2].flatMap fun a:Int=>[-2,-1,0,1,2].map fun b:Int=>⟨0,a,b⟩)
theorem yP:∀p∈kM,(p.e=0\/p.e=1)/\(p.e=1->p.a=0)/\(p.e=1->p.b≠0)/\(-1<=p.a/\p.a<=2)/\(-2<=p.b/\p.b<=3):=by decide
theorem qG:∀p∈kM,p.Ok:=fun p hp=>by
 obtain⟨h1,h2,h3,h4,h5⟩:=yP p hp;exact⟨h1,h2,h3,h4,h5⟩
theorem qb (p:aZ) (x y:Int):T p cw x y=(if x=1/\y=p.e then 1 else 0)+p.a*(if x=0/\y=1 then 1 else 0)+p.b*(if x=0/\y=0 then 1 else 0):=by
 unfold T cw;have e1:(x-1=0/\y-p.e=0)↔(x=1/\y=p.e):=by omega
 have e2:(x=0/\y-1=0)↔(x=0/\y=1):=by omega
 simp only[e1,e2]
theorem wM {p:aZ} (ok:p.Ok):cK (T p cw) (bX p):=by
 unfold bX;have n0:=cy.nil (n:=1) (d:=1);by_cases he:p.e=1
 ·rw[if_pos he];have h:=(n0.put (x:=1) (y:=1) (v:=1) (by decide)).put (x:=0) (y:=0) (v:=p.b) (ok.eb he);rw[Int.mul_one,Int.mul_one,aF,aF] at h
  have hf:T p cw=fG (fG (fun _ _=>0) 1 1 1) 0 0 p.b:=by
   funext x y
   rw[qb,ok.ea he,he];unfold fG;by_cases h0:x=0/\y=0
   ·have:¬(x=1/\y=1):=by exists L02,0x9111105111005680111050110056804,h0
    simp[h0]
   ·by_cases h1:x=1/\y=1<;>simp[h0,h1]
  rw[hf];exact h
 ·have he0:p.e=0:=by have:=ok.e;exists L01,0x110051110050110057891110058802,he,this
  rw[if_neg he];have h1:=n0.put (x:=1) (y:=0) (v:=1) (by decide);rw[Int.mul_one,aF] at h1;by_cases ha:p.a=0
  ·by_cases hb:p.b=0
   ·have hf:T p cw=fG (fun _ _=>0) 1 0 1:=by
     funext x y
     rw[qb,he0,ha,hb];unfold fG;by_cases h1:x=1/\y=0<;>simp[h1]
    rw[hf,if_neg (by simpa using ha),if_neg (by simpa using hb)];exact h1
   ·have h2:=h1.put (x:=0) (y:=0) (v:=p.b) hb;rw[Int.mul_one,aF] at h2
    have hf:T p cw=fG (fG (fun _ _=>0) 1 0 1) 0 0 p.b:=by
     funext x y
     rw[qb,he0,ha];unfold fG;by_cases h0:x=0/\y=0
     ·simp[h0]
     ·by_cases h1:x=1/\y=0<;>simp[h0,h1]
    rw[hf,if_neg (by simpa using ha),if_pos hb];exact h2
  ·have h2:=h1.put (x:=0) (y:=1) (v:=p.a) ha;rw[Int.mul_one,aF] at h2;by_cases hb:p.b=0
   ·have hf:T p cw=fG (fG (fun _ _=>0) 1 0 1) 0 1 p.a:=by
     funext x y
     rw[qb,he0,hb];unfold fG;by_cases h0:x=0/\y=1
     ·simp[h0]
     ·by_cases h1:x=1/\y=0<;>simp[h0,h1]
    rw[hf,if_pos ha,if_neg (by simpa using hb)];exact h2
   ·have h3:=h2.put (x:=0) (y:=0) (v:=p.b) hb;rw[Int.mul_one,aF] at h3
    have hf:T p cw=fG (fG (fG (fun _ _=>0) 1 0 1) 0 1 p.a) 0 0 p.b:=by
     funext x y
     rw[qb,he0];unfold fG;by_cases h00:x=0/\y=0
     ·simp[h00]
     ·by_cases h0:x=0/\y=1
      ·simp[h0]
      ·by_cases h1:x=1/\y=0<;>simp[h00,h0,h1]
    rw[hf,if_pos ha,if_pos hb];exact h3
theorem By:∀b∈[(-2:Int),-1,0,1,2],(⟨1,0,if b=0 then 3 else b⟩:aZ)∈kM:=by decide
theorem Bz:∀a∈[(-1:Int),0,1,2],∀b∈[(-2:Int),-1,0,1,2],(⟨0,a,b⟩:aZ)∈kM:=by decide
noncomputable abbrev A9:XS:=.ifs (.cmp .ne (.var 4) (.lit (.int 0))) (.set (.var 2) (.var 3) (.tup (.aa (.var 4) (.aa (.lit (.int 1)) .af)))) (.nil)
theorem sX {J:St} {r w:Nat} {es:Es} {x y v:Int} {o0 o1:Option D} (hr:J[r]?=some (.dict es w)) (hl:es.length<ay) (hnew:[x,y]∉es.map (·.1))
  {Gl:Prop} (kk:∀w',aP (ab FT W k) W A9 [o0,o1,some (.ref r),some (ae [x,y]),some (.int v)] J=some (.next,[o0,o1,some (.ref r),some (ae [x,y]),some (.int v)],J.set r (.dict (es++if v≠0 then [([x,y],qD v 1)] else []) w'))->Gl):Gl:=by
 by_cases h:v=0
 ·refine kk w ?_;have hs:J.set r (.dict es w)=J:=by
   apply List.ext_getElem?
   intro i;by_cases hi:i=r
   ·subst hi;rw[List.getElem?_set_self (List.getElem?_eq_some_iff.mp hr).1,hr]
   ·rw[List.getElem?_set_ne (Ne.symm hi)]
  have hv:(if v≠0 then [([x,y],qD v 1)] else [])=[]:=if_neg (by simpa using h);rw[hv,List.append_nil,hs];exact eL (aq rfl rfl (A3 h)) rfl
 ·refine kk (w+1) ?_;rw[if_pos h];have hp:=kO (v:=qD v 1) hnew;have hset:ic J (.ref r) (ae [x,y]) (qD v 1)=some (J.set r (.dict (es++[([x,y],qD v 1)]) (w+1))):=by
   exact(fO (ks:=[x,y]) hr rfl hl).trans (by rw[hp])
  exact jq (aq rfl rfl (yR h)) (iE (aS (al rfl rfl) fm) rfl rfl hset)
theorem aH.set {J τ:St} (h:aH J τ) (i:Nat) (o:AO):aH (J.set (i+2) o) (τ.set i o):=by
 obtain⟨is,n,v0,v1,hl,rfl⟩:=h;exact⟨is,n,v0,v1,hl,rfl⟩
theorem uw {J τ:St} (h:aH J τ)
  {Gl:Prop} (kk:∀p w J',ab FT W (k+2) eZ [.ref 1] J=some (.ref (τ.length+2),J')->p∈kM->aH J' (τ++[.dict (bX p) w])->Gl):Gl:=by
 refine cq (W:=W) (k:=k) (m:=5) h (by exact Int.natCast_nonneg _) fun vb J1 h1 hb0 hb5 B1=>?_
 refine cq (W:=W) (k:=k) (m:=3) B1 (by exact Int.natCast_nonneg _) fun vt J2 h2 ht0 ht3 B2=>?_;have hfirst:aP (ab FT W (k+1)) W (.asg 1 (.bin .sub (.call aX (.aa (.var 0) (.aa (.lit (.int 5)) .af))) (.lit (.int 2)))) [some (.ref 1),none,none,none,none] J=some (.next,[some (.ref 1),some (.int (vb-2)),none,none,none],J1):=by
  exact aD (aA (ah (al rfl rfl) h1) rfl rfl)
 have hbm:(vb-2)∈[(-2:Int),-1,0,1,2]:=by
  have:vb=0\/vb=1\/vb=2\/vb=3\/vb=4:=by exists L01,0x41100531100572110057111005701100575110038000114802,hb0,hb5
  rcases this with rfl|rfl|rfl|rfl|rfl<;>decide
 by_cases ht:vt=1
 ·refine kk ⟨1,0,if vb-2=0 then 3 else vb-2⟩ 0 (J2++[.dict (bX ⟨1,0,if vb-2=0 then 3 else vb-2⟩) 0]) ?_ (By _ hbm) (B2.app _);refine am (fn:=⟨1,5,iP⟩) rfl rfl (l:=[some (.ref 1),some (.int (vb-2)),none,none,none]) (ag hfirst (fv ?_));have hl2:=B2.len;have hX:ev (ab FT W (k+1)) (.ite (.cmp .ne (.var 1) (.lit (.int 0))) (.var 1) (.lit (.int 3))) [some (.ref 1),some (.int (vb-2)),none,none,none] J2=some (.int (if vb-2=0 then 3 else vb-2),J2):=by
   by_cases hz:vb-2=0
   ·rw[if_pos hz];exact fU (aq rfl rfl (A3 hz)) rfl
   ·rw[if_neg hz];exact fc (aq rfl rfl (yR hz)) rfl
  rw[<-hl2];exact jq (aq (ah (al rfl rfl) h2) rfl (Cv ht)) (bk (cQ (cG rfl (cG rfl (cG rfl (b7 (aS (al hX rfl) fm))))) (Nat.le_of_ble_eq_true rfl) (by kernel_rfl!)))
 ·have B3:=B2.app [.dict [([1,0],qD 1 1)] 0]
  refine cq (W:=W) (k:=k) (m:=4) B3 (by exact Int.natCast_nonneg _) fun va J4 h4 ha0 ha4 B4=>?_;have ham:(va-1)∈[(-1:Int),0,1,2]:=by
   have:va=0\/va=1\/va=2\/va=3:=by exists L01,0x3110052110057111005701100574110038000114802,ha0,ha4
   rcases this with rfl|rfl|rfl|rfl<;>decide
  have g4:J4[τ.length+2]?=some (.dict [([1,0],qD 1 1)] 0):=by rw[B4.get];simp
  refine sX (W:=W) (k:=k+1) (J:=J4) (x:=0) (y:=1) (v:=va-1) (o0:=some (.ref 1)) (o1:=some (.int (vb-2))) g4 (by decide) (by decide) fun w5 h5=>?_;have B5:=B4.set τ.length (.dict ([([1,0],qD 1 1)]++if va-1≠0 then [([0,1],qD (va-1) 1)] else []) w5)
  have hs5:∀o o',(τ++[o]).set τ.length o'=τ++[o']:=fun o o'=>dk τ o o';rw[hs5] at B5;have g5:(J4.set (τ.length+2) (.dict ([([1,0],qD 1 1)]++if va-1≠0 then [([0,1],qD (va-1) 1)] else []) w5))[τ.length+2]?=some (.dict ([([1,0],qD 1 1)]++if va-1≠0 then [([0,1],qD (va-1) 1)] else []) w5):=by rw[B5.get];simp
  generalize hJ5:J4.set (τ.length+2) (.dict ([([1,0],qD 1 1)]++if va-1≠0 then [([0,1],qD (va-1) 1)] else []) w5)=J5 at *
  refine sX (W:=W) (k:=k+1) (J:=J5) (x:=0) (y:=0) (v:=vb-2) (o0:=some (.ref 1)) (o1:=some (.int (vb-2))) g5 (by split<;>simp[ay]) (by split<;>simp) fun w6 h6=>?_;have B6:=B5.set τ.length (.dict ([([1,0],qD 1 1)]++(if va-1≠0 then [([0,1],qD (va-1) 1)] else [])++if vb-2≠0 then [([0,0],qD (vb-2) 1)] else []) w6);rw[hs5] at B6;have hfe:[([1,0],qD 1 1)]++(if va-1≠0 then [([0,1],qD (va-1) 1)] else [])++(if vb-2≠0 then [([0,0],qD (vb-2) 1)] else [])=bX ⟨0,va-1,vb-2⟩:=by
   unfold bX;rw[if_neg (show ¬((0:Int)=1) by decide)];simp
  rw[hfe] at B6 h6;refine kk ⟨0,va-1,vb-2⟩ w6 _ ?_ (Bz _ ham _ hbm) B6;have hl2:=B2.len;refine am (fn:=⟨1,5,iP⟩) rfl rfl (l:=[some (.ref 1),some (.int (vb-2)),some (.ref (τ.length+2)),some (ae [0,0]),some (.int (vb-2))]) (ag hfirst
   (ag (l1:=[some (.ref 1),some (.int (vb-2)),none,none,none]) (J1:=J2) ?_ (ag (l1:=[some (.ref 1),some (.int (vb-2)),some (.ref (τ.length+2)),none,none]) (J1:=J2++[.dict [([1,0],qD 1 1)] 0]) ?_
   (ag (l1:=[some (.ref 1),some (.int (vb-2)),some (.ref (τ.length+2)),some (ae [0,0]),some (.int (vb-2))]) (J1:=J5.set (τ.length+2) (.dict (bX ⟨0,va-1,vb-2⟩) w6)) ?_ ?_))))
  ·exact eL (aq (ah (al rfl rfl) h2) rfl (Bp ht)) rfl
  ·rw[<-hl2];exact aD (cQ (al rfl rfl) (Nat.le_of_ble_eq_true rfl) (by kernel_rfl!))
  ·rw[bY (ds:=[.tup [ae [0,1],.int (va-1)],.tup [ae [0,0],.int (vb-2)]]) (src:=none) (J1:=J4)]
   ·refine(aT (l1:=[some (.ref 1),some (.int (vb-2)),some (.ref (τ.length+2)),some (ae [0,1]),some (.int (va-1))]) rfl h5 rfl).trans ?_;exact(aT (l1:=[some (.ref 1),some (.int (vb-2)),some (.ref (τ.length+2)),some (ae [0,0]),some (.int (vb-2))]) rfl h6 rfl).trans rfl
   ·exact jt (aS (al (aS (al rfl (aA (ah (al rfl rfl) h4) rfl rfl)) fm) rfl) fm)
  ·exact bk rfl
end
noncomputable def jV (n:Nat) (b:Nat->Nat->Bool):Option (List Nat):=(qt (fun i j=>if i<n/\j<n then some (b i j) else none) (kas_sort n)).map (·.toList)
theorem lL {n:Nat} {b b':Nat->Nat->Bool} (h:∀i j,i<n->j<n->b i j=b' i j):jV n b=jV n b':=by
 unfold jV;have:(fun i j=>if i<n/\j<n then some (b i j) else none)=(fun i j=>if i<n/\j<n then some (b' i j) else none):=by
  funext i j
  split
  ·rename_i hh;rw[h i j hh.1 hh.2]
  ·rfl
 rw[this]
theorem oR {J:St} {ds:List D} {b:Nat->Nat->Bool} (h2:2<=ds.length) (h64:ds.length<64) (hs:eQ ds=true) (h:∀i j,i<ds.length->j<ds.length->∃x y,ds[i]?=some x/\ds[j]?=some y/\lA J CF x y=some (b i j)) :
  bS J ds=(jV ds.length b).map fun is=>is.map fun i=>ds.getD i .none:=by
 unfold bS jV;rw[if_neg (by exact Nat.not_lt.mpr h2),if_pos (by simp[h64,hs]),Option.map_map]
 refine congrArg (Option.map (fun p:Array Nat=>p.toList.map fun i=>ds.getD i .none)) (congrArg (fun f=>qt f (kas_sort ds.length)) ?_)
 ·funext i j
  by_cases hij:i<ds.length/\j<ds.length
  ·obtain⟨x,y,hx,hy,hl⟩:=h i j hij.1 hij.2;rw[if_pos hij,hx,hy];exact hl
  ·rw[if_neg hij];by_cases hi:i<ds.length
   ·have:ds[j]?=none:=List.getElem?_eq_none (by exists L30,0x201011000089102001000068836,hij,hi);rw[this]
    cases ds[i]?<;>rfl
   ·have:ds[i]?=none:=List.getElem?_eq_none (by exact Nat.le_of_not_lt hi);rw[this]
theorem y6 {α:Type}:∀{l:List α},l.length=2->∃a b,l=[a,b]
 | [a,b],_=>⟨a,b,rfl⟩
theorem t3 {α:Type}:∀{l:List α},l.length=3->∃a b c,l=[a,b,c]
 | [a,b,c],_=>⟨a,b,c,rfl⟩
noncomputable abbrev Tr:=Int×Int×Int
noncomputable def iT (a:Tr):D:=.tup [ae [a.1,a.2.1],qD a.2.2 1]
noncomputable def Cm (a b:Tr):Bool:=if a.1=b.1 then (if a.2.1=b.2.1 then decide (a.2.2<b.2.2) else decide (a.2.1<b.2.1)) else decide (a.1<b.1)
noncomputable def y5:List Tr->List Tr->Bool
 |x::xr,y::yr=>if x=y then y5 xr yr else Cm x y
 | [],_::_=>true
 |_,[]=>false
theorem j3 (J:St) (m:Nat) (x y:Int):cY J (m+1) (.int x) (.int y)=some (x==y):=rfl
theorem ow (J:St) (m:Nat) (a b c d:D):cY J (m+1) (.tup [a,b]) (.tup [c,d])=de (cY J m) [a,b] [c,d]:=rfl
theorem vY (J:St) (m:Nat) (a b:List D):lA J (m+1) (.tup a) (.tup b)=gC (cY J m) (lA J m) a b:=rfl
theorem kt (J:St) (m:Nat) (x y x' y':Int):cY J (m+2) (.tup [.int x,.int y]) (.tup [.int x',.int y'])=some (x==x'&&y==y'):=by
 rw[ow,bK (j3 ..) (bK (j3 ..) rfl),Bool.and_true]
theorem vZ (J:St) (m:Nat) (x y x' y':Int):lA J (m+2) (.tup [.int x,.int y]) (.tup [.int x',.int y'])=some (if x=x' then decide (y<y') else decide (x<x')):=by
 rw[vY];by_cases h:x=x'
 ·rw[eU ((j3 ..).trans (congrArg some (beq_iff_eq.mpr h))),if_pos h];by_cases h2:y=y'
  ·rw[eU ((j3 ..).trans (congrArg some (beq_iff_eq.mpr h2))),decide_eq_false (h2▸Int.lt_irrefl _)];rfl
  ·exact eT ((j3 ..).trans (congrArg some (beq_eq_false_iff_ne.mpr h2)))
 ·rw[if_neg h];exact eT ((j3 ..).trans (congrArg some (beq_eq_false_iff_ne.mpr h)))
theorem rK (J:St) (m:Nat) (a b:Tr):cY J (m+3) (iT a) (iT b)=some (decide (a=b)):=by
 obtain⟨x,y,v⟩:=a;obtain⟨x',y',v'⟩:=b;show cY J (m+3) (.tup [.tup [.int x,.int y],.tup [.int v,.int 1]]) (.tup [.tup [.int x',.int y'],.tup [.int v',.int 1]])=_;rw[ow];rw[bK (kt ..) (bK (kt ..) rfl)];simp only[Prod.mk.injEq];congr 1
 rw[Bool.eq_iff_iff];simp[and_assoc]
theorem v9 (J:St) (m:Nat) (a b:Tr):lA J (m+3) (iT a) (iT b)=some (Cm a b):=by
 obtain⟨x,y,v⟩:=a;obtain⟨x',y',v'⟩:=b;show lA J (m+3) (.tup [.tup [.int x,.int y],.tup [.int v,.int 1]]) (.tup [.tup [.int x',.int y'],.tup [.int v',.int 1]])=_;rw[vY];unfold Cm;by_cases h:x=x'
 ·subst h;by_cases h2:y=y'
  ·subst h2;rw[if_pos rfl,if_pos rfl,eU ((kt ..).trans (by rw[beq_self_eq_true,beq_self_eq_true];rfl))];by_cases h3:v=v'
   ·rw[eU ((kt ..).trans (by rw[h3,beq_self_eq_true];rfl)),decide_eq_false (h3▸Int.lt_irrefl _)];rfl
   ·rw[eT ((kt ..).trans (by rw[beq_eq_false_iff_ne.mpr h3];rfl)),vZ,if_neg h3]
  ·rw[if_pos rfl,if_neg h2,eT ((kt ..).trans (by rw[beq_self_eq_true,beq_eq_false_iff_ne.mpr h2];rfl)),vZ,if_pos rfl]
 ·rw[if_neg h,eT ((kt ..).trans (by rw[beq_eq_false_iff_ne.mpr h];rfl)),vZ,if_neg h]
theorem m8 (J:St) (m:Nat):∀A B:List Tr,A.length=B.length->de (cY J (m+3)) (A.map iT) (B.map iT)=some (decide (A=B)):=by
 intro A0;induction A0 with
 |nil=>
  intro C h
  cases C with
  |nil=>rfl
  |cons b B=>cases h
 |cons a A ih=>
  intro C h
  cases C with
  |nil=>cases h
  |cons b B=>
  have ih:=ih B (by simpa using h);refine(bK (rK ..) ih).trans (congrArg some ?_);simp only[List.cons.injEq];rw[Bool.eq_iff_iff];simp
theorem po (J:St) (m:Nat):∀A B:List Tr,gC (cY J (m+3)) (lA J (m+3)) (A.map iT) (B.map iT)=some (y5 A B)
 | [],[]=>rfl
 | [],_::_=>rfl
 |_::_,[]=>rfl
 |a::A,b::B=>by
  by_cases h:a=b
  ·exact(eU ((rK ..).trans (congrArg some (decide_eq_true h)))).trans ((po J m A B).trans (congrArg some (if_pos h).symm))
  ·exact(eT ((rK ..).trans (congrArg some (decide_eq_false h)))).trans ((v9 ..).trans (congrArg some (if_neg h).symm))
noncomputable def aR (p:aZ):List Tr:=if p.e=1 then [(1,1,1),(0,0,p.b)] else
 (1,0,1)::((if p.a≠0 then [(0,1,p.a)] else [])++(if p.b≠0 then [(0,0,p.b)] else []))
theorem jX (p:aZ):(bX p).map (fun e=>D.tup [ae e.1,e.2])=(aR p).map iT:=by
 unfold bX aR;by_cases he:p.e=1
 ·simp[he,iT]
 ·by_cases ha:p.a=0<;>by_cases hb:p.b=0<;>simp[he,ha,hb,iT]
theorem mQ (p:aZ):(bX p).length=(aR p).length:=by
 have:=congrArg List.length (jX p);simpa using this
theorem nY:∀A:List Tr,eQ (A.map iT)=true
 |A=>by
  unfold eQ;rw[Bool.or_eq_true];right
  rw[List.all_eq_true];intro d hd;obtain⟨a,_,rfl⟩:=List.mem_map.mp hd;rfl
theorem mO:∀p∈kM,(aR p).length=1\/(((aR p).length=2\/(aR p).length=3)/\jV (aR p).length (fun i j=>Cm ((aR p).getD i (0,0,0)) ((aR p).getD j (0,0,0)))=some (List.range (aR p).length).reverse):=by decide +kernel
theorem qp {J:St} {p:aZ} (hp:p∈kM):bS J ((bX p).map fun e=>D.tup [ae e.1,e.2])=some ((aR p).reverse.map iT):=by
 rw[jX];rcases mO p hp with h | ⟨h,hi⟩
 ·obtain⟨a,ha⟩:=List.length_eq_one_iff.mp h;rw[ha];rfl
 ·have hl:((aR p).map iT).length=(aR p).length:=List.length_map _;rw[oR (b:=fun i j=>Cm ((aR p).getD i (0,0,0)) ((aR p).getD j (0,0,0))) (by exists L20,0x1021110010283110022110027824,h,hl) (by exists L20,0x40211000010283110022110027824,h,hl) (nY _) (fun i j hi hj=>by
   rw[hl] at hi hj;refine⟨iT ((aR p).getD i (0,0,0)),iT ((aR p).getD j (0,0,0)),?_,?_,v9 J 5 _ _⟩
   ·rw[List.getElem?_map,List.getElem?_eq_getElem hi];simp[hi]
   ·rw[List.getElem?_map,List.getElem?_eq_getElem hj];simp[hj]),hl,hi]
  rcases h with h|h
  ·obtain⟨a,b,hab⟩:=y6 h;rw[hab];rfl
  ·obtain⟨a,b,c,habc⟩:=t3 h;rw[habc];rfl
noncomputable def dS (p:aZ):Int:=(aR p).reverse.foldl (fun acc t=>acc*10000+(t.1*1000+t.2.1*100+(t.2.2+10))) ((aR p).length:Int)
theorem oV:∀p∈kM,∀q∈kM,(dS p=dS q↔p=q)/\((aR p).reverse=(aR q).reverse↔p=q)/\
  (p≠q->(if (aR p).length=(aR q).length then y5 (aR p).reverse (aR q).reverse else decide ((aR p).length<(aR q).length))=decide (dS p<dS q)):=by decide +kernel
theorem BI {a b c:Int} (h:a<=b) (h':b<=c):[a,b,c].Pairwise (·<=·):=
 .cons (fun x hx=>(List.mem_cons.mp hx).elim (fun e=>e▸h) fun hx=>(List.mem_singleton.mp hx)▸Int.le_trans h h') (.cons (fun x hx=>(List.mem_singleton.mp hx)▸h') (.cons nofun .nil))
theorem CY {a b:Int} (h:a<=b):[a,b].Pairwise (·<=·):=.cons (fun x hx=>(List.mem_singleton.mp hx)▸h) (.cons nofun .nil)
theorem nI (a b:Int) {i j:Nat} (h:i<j):decide (a<b\/(a=b/\i<j)) = !decide (b<a):=by
 rw[Bool.eq_iff_iff,decide_eq_true_eq,Bool.not_eq_true',decide_eq_false_iff_not];omega
theorem lx (a b:Int) {i j:Nat} (h:¬i<j):decide (a<b\/(a=b/\i<j))=decide (a<b):=decide_eq_decide.mpr ⟨fun h'=>h'.elim id fun q=>absurd q.2 h,.inl⟩
theorem zX {P:Nat->Prop} (h0:P 0) (h1:P 1) (h2:P 2):∀i,i<3->P i
 |0,_=>h0
 |1,_=>h1
 |2,_=>h2
 |n+3,h=>absurd h (by simp)
theorem BA {P:Nat->Prop} (h0:P 0) (h1:P 1):∀i,i<2->P i
 |0,_=>h0
 |1,_=>h1
 |n+2,h=>absurd h (by simp)
noncomputable def ty (x y z:Bool) (i j:Nat):Bool:=([[false,!x,!y],[x,false,!z],[y,z,false]].getD i []).getD j false
noncomputable def AU (x y z:Bool):List Nat:=if x then (if z then [2,1,0] else if y then [1,2,0] else [1,0,2]) else (if y then [2,0,1] else if z then [0,2,1] else [0,1,2])
theorem CS:∀x y z:Bool,(x&&z&&!y)=false->(!x&&!z&&y)=false->jV 3 (ty x y z)=some (AU x y z)/\(AU x y z).isPerm (List.range 3)=true:=by decide +kernel
theorem CT:∀x:Bool,jV 2 (ty x false false)=some (if x then [1,0] else [0,1]):=by decide +kernel
theorem eS (a:Int) (i:Nat):decide (a<a\/(a=a/\i<i))=false:=(lx a a (Nat.lt_irrefl i)).trans (decide_eq_false (Int.lt_irrefl a))
theorem ur {n:Nat} (hn:n=2\/n=3) (r:Nat->Int):∃is,jV n (fun i j=>decide (r i<r j\/(r i=r j/\i<j)))=some is/\is.Perm (List.range n)/\(is.map r).Pairwise (·<=·):=by
 rcases hn with rfl|rfl
 ·have hb:jV 2 (fun i j=>decide (r i<r j\/(r i=r j/\i<j)))=jV 2 (ty (decide (r 1<r 0)) false false):=lL fun i j hi hj=>
   BA (P:=fun i=>∀j,j<2->decide (r i<r j\/(r i=r j/\i<j))=ty (decide (r 1<r 0)) false false i j) (BA (eS _ 0) (nI _ _ (by decide))) (BA (lx _ _ (by decide)) (eS _ 1)) i hi j hj
  rw[hb,CT];by_cases x:r 1<r 0
  ·rw[decide_eq_true x];exact⟨_,rfl,.swap .., CY (Int.le_of_lt x)⟩
  ·rw[decide_eq_false x];exact⟨_,rfl,.refl _,CY (Int.not_lt.mp x)⟩
 ·have hb:jV 3 (fun i j=>decide (r i<r j\/(r i=r j/\i<j)))=jV 3 (ty (decide (r 1<r 0)) (decide (r 2<r 0)) (decide (r 2<r 1))):=lL fun i j hi hj=>
   zX (P:=fun i=>∀j,j<3->decide (r i<r j\/(r i=r j/\i<j))=ty (decide (r 1<r 0)) (decide (r 2<r 0)) (decide (r 2<r 1)) i j) (zX (eS _ 0) (nI _ _ (by decide)) (nI _ _ (by decide))) (zX (lx _ _ (by decide)) (eS _ 1) (nI _ _ (by decide))) (zX (lx _ _ (by decide)) (lx _ _ (by decide)) (eS _ 2)) i hi j hj
  rw[hb];have h1:(decide (r 1<r 0)&&decide (r 2<r 1)&&!decide (r 2<r 0))=false:=by
   rw[Bool.eq_false_iff];simp only[ne_eq,Bool.and_eq_true,decide_eq_true_eq,Bool.not_eq_true',decide_eq_false_iff_not];exists L03,0x99102038002031000366806
  have h2:(!decide (r 1<r 0)&&!decide (r 2<r 1)&&decide (r 2<r 0))=false:=by
   rw[Bool.eq_false_iff];simp only[ne_eq,Bool.and_eq_true,decide_eq_true_eq,Bool.not_eq_true',decide_eq_false_iff_not];exists L03,0x9102039002038910003866806
  obtain⟨e1,e2⟩:=CS _ _ _ h1 h2;refine⟨_,e1,List.isPerm_iff.mp e2,?_⟩;clear hb e1 e2 h1 h2;unfold AU;by_cases x:r 1<r 0
  ·rw[decide_eq_true x];by_cases z:r 2<r 1
   ·rw[decide_eq_true z];exact BI (Int.le_of_lt z) (Int.le_of_lt x)
   ·rw[decide_eq_false z];by_cases y:r 2<r 0
    ·rw[decide_eq_true y];exact BI (Int.not_lt.mp z) (Int.le_of_lt y)
    ·rw[decide_eq_false y];exact BI (Int.le_of_lt x) (Int.not_lt.mp y)
  ·rw[decide_eq_false x];by_cases y:r 2<r 0
   ·rw[decide_eq_true y];exact BI (Int.le_of_lt y) (Int.not_lt.mp x)
   ·rw[decide_eq_false y];by_cases z:r 2<r 1
    ·rw[decide_eq_true z];exact BI (Int.not_lt.mp y) (Int.le_of_lt z)
    ·rw[decide_eq_false z];exact BI (Int.not_lt.mp x) (Int.not_lt.mp z)
theorem k9 {α:Type} {r:α->Int}:∀{l m:List α},l.Perm m->(l.map r).Pairwise (·<=·)->(m.map r).Pairwise (·<=·)->(∀a∈l,∀b∈l,r a=r b->a=b)->l=m
 | [],m,h,_,_,_=>by rw[List.nil_perm.mp h]
 |a::l,[],h,_,_,_=>by have:=h.length_eq;simp at this
 |a::l,b::m,h,h1,h2,hi=>by
  simp only[List.map_cons,List.pairwise_cons] at h1 h2;have hab:a=b:=by
   have ha:a∈b::m:=h.mem_iff.mp List.mem_cons_self;have hb:b∈a::l:=h.mem_iff.mpr List.mem_cons_self;rcases List.mem_cons.mp ha with q|q
   ·exact q
   ·rcases List.mem_cons.mp hb with q'|q'
    ·exact q'.symm
    ·have e1:=h1.1 _ (List.mem_map_of_mem q');have e2:=h2.1 _ (List.mem_map_of_mem q);exact hi a List.mem_cons_self b hb (by exact Int.le_antisymm e1 e2)
  subst hab;rw[k9 ((List.perm_cons a).mp h) h1.2 h2.2 fun x hx y hy=>hi x (List.mem_cons_of_mem _ hx) y (List.mem_cons_of_mem _ hy)]
theorem dH {J:St} {j w:Nat} {o:AO} (h:J[j]?=some o) (hw:o.ver=w):aI (some (j,w)) J=true:=by
 exact qo h (hw▸Nat.beq_refl _)
noncomputable def dD (J:St) (q:Nat×aZ):Prop:=∃w,J[q.1]?=some (.dict (bX q.2) w)/\q.2∈kM
theorem dD.ext {q:Nat×aZ} {a b:St} (h:dD a q) (e:aN a b):dD b q:=by
 obtain⟨w,h1,h2⟩:=h;exact⟨w,e.get h1,h2⟩
theorem dD.pol {q:Nat×aZ} {J:St} (h:dD J q):ar 1 1 (T q.2 cw) q.1 J:=by
 obtain⟨w,h1,h2⟩:=h;exact⟨_,w,h1,wM (qG _ h2)⟩
noncomputable abbrev Ky:=Nat×aZ×Nat
noncomputable def fT (x:Ky):D:=.tup [.int ((aR x.2.1).length:Nat),.ref x.1,.int (x.2.2:Nat)]
noncomputable def xW (J:St) (x:Ky):Prop:=J[x.1]?=some (.list ((aR x.2.1).reverse.map iT) 0)/\x.2.1∈kM
theorem y9 (a b:Tr) (h:iT a=iT b):a=b:=by
 obtain⟨x,y,v⟩:=a;obtain⟨x',y',v'⟩:=b;simp[iT,ae] at h;simp[h]
theorem w8 (J:St) (m:Nat) {i j:Nat} (h:i=j):cY J (m+1) (.int ((i:Nat):Int)) (.int ((j:Nat):Int))=some true:=congrArg some (beq_iff_eq.mpr (congrArg Int.ofNat h))
theorem Ai (J:St) (m:Nat) {i j:Nat} (h:i≠j):cY J (m+1) (.int ((i:Nat):Int)) (.int ((j:Nat):Int))=some false:=congrArg some (beq_eq_false_iff_ne.mpr fun q=>h (Int.ofNat.inj q))
theorem yU {J:St} {x y:Ky} (hx:xW J x) (hy:xW J y):lA J CF (fT x) (fT y)=some (decide (dS x.2.1<dS y.2.1\/(dS x.2.1=dS y.2.1/\x.2.2<y.2.2))):=by
 obtain⟨a,p,i⟩:=x;obtain⟨b,q,j⟩:=y;obtain⟨h1,hp⟩:=hx;obtain⟨h2,hq⟩:=hy;simp only at h1 h2 hp hq;obtain⟨r1,r2,r3⟩:=oV p hp q hq;show gC (cY J 7) (lA J 7) [.int ((aR p).length:Nat),.ref a,.int (i:Nat)] [.int ((aR q).length:Nat),.ref b,.int (j:Nat)]=some (decide (dS p<dS q\/(dS p=dS q/\i<j)));have er:cY J 7 (.ref a) (.ref b)=if a=b then some true else if ((aR p).reverse.map iT).length=((aR q).reverse.map iT).length then de (cY J 6) ((aR p).reverse.map iT) ((aR q).reverse.map iT) else some false:=by
  show(if a=b then some true else _)=_;split
  ·rfl
  ·rw[h1,h2]
 have lr:lA J 7 (.ref a) (.ref b)=some (y5 (aR p).reverse (aR q).reverse):=by
  rw[<-po J 3];show(match J[a]?,J[b]? with|some (.list xs _),some (.list ys _)=>gC (cY J 6) (lA J 6) xs ys|_,_=>none)=_;rw[h1,h2]
 by_cases hpq:p=q
 ·subst hpq;have e1:cY J 7 (.ref a) (.ref b)=some true:=by
   rw[er];split
   ·rfl
   ·rw[if_pos rfl,m8 J 3 _ _ rfl];simp
  rw[eU (w8 J 6 rfl),eU e1];by_cases hij:i=j
  ·subst hij;rw[eU (w8 J 6 rfl)]
   exact congrArg some (decide_eq_false fun h=>h.elim (Int.lt_irrefl _) fun h=>Nat.lt_irrefl _ h.2).symm
  ·rw[eT (Ai J 6 hij)];show some (decide ((i:Int)<(j:Int)))=_
   exact congrArg some (decide_eq_decide.mpr ⟨fun h=>.inr ⟨rfl,Int.ofNat_lt.mp h⟩,fun h=>Int.ofNat_lt.mpr (h.elim (fun h=>(Int.lt_irrefl _ h).elim) (·.2))⟩)
 ·have hr:=r3 hpq
  have fin:decide (dS p<dS q)=decide (dS p<dS q\/(dS p=dS q/\i<j)):=decide_eq_decide.mpr ⟨.inl,fun h=>h.elim id fun h=>(hpq (r1.mp h.1)).elim⟩;by_cases hl:(aR p).length=(aR q).length
  ·rw[if_pos hl] at hr
   have hAB:(aR p).reverse≠(aR q).reverse:=fun h=>hpq (r2.mp h);have hab:a≠b:=by
    rintro rfl;rw[h1] at h2;simp only[Option.some.injEq,AO.list.injEq,and_true] at h2;exact hAB ((List.map_inj_right y9).mp h2)
   have e1:cY J 7 (.ref a) (.ref b)=some false:=by
    rw[er,if_neg hab,if_pos (by simp[hl]),m8 J 3 _ _ (by simp[hl])];simp only[Option.some.injEq,decide_eq_false_iff_not];exact hAB
   rw[eU (w8 J 6 hl),eT e1,lr,hr,fin]
  ·rw[if_neg hl] at hr;rw[eT (Ai J 6 hl)];show some (decide ((((aR p).length:Nat):Int)<(((aR q).length:Nat):Int)))=_;rw[decide_eq_decide.mpr Int.ofNat_lt,hr,fin]
noncomputable def Aw:Nat->List (Nat×aZ)->List (aZ×Nat)
 |_,[]=>[]
 |i,q::L=>(q.2,i)::Aw (i+1) L
section
variable {W k:Nat}
noncomputable abbrev sN:X:=.tup (.aa (.len (.var 3)) (.aa (.cU (.var 3)) (.aa (.var 2) .af)))
theorem wt {j w:Nat} {ds:List D} {o1 o2 o3 o4:Option D}:∀(L:List (Nat×aZ)) (i0:Nat) (J:St),J[j]?=some (.list ds w)->(∀q∈L,dD J q)->
   ∀{Gl:Prop},(∀(K:List Ky) (J':St),aY (aw [2,3] true) (fun _ J=>some (true,J)) (ev (ab FT W k) sN) (some (j,w)) [some (.ref j),o1,o2,o3,o4] (b8 i0 (L.map fun q=>.ref q.1)) J=some (K.map fT,J')->aN J J'->K.map (·.2)=Aw i0 L->(∀x∈K,xW J' x)->Gl)->Gl:=by
 intro A0;induction A0 with
 |nil=>
  intro i0 J _ _ _ kk
  exact kk [] J rfl (aN.refl _) rfl (fun x hx=>by cases hx)
 |cons q L ih=>
  intro i0 J hj hF _ kk;obtain⟨w1,hq,hp⟩:=hF q List.mem_cons_self;have e1:=aN.app J [AO.list ((aR q.2).reverse.map iT) 0]
  refine ih (i0+1) (J++[.list ((aR q.2).reverse.map iT) 0]) (e1.get hj) (fun q' hq'=>(hF q' (List.mem_cons_of_mem _ hq')).ext e1) fun K J' h1 e2 h2 h3=>?_
  refine kk ((J.length,q.2,i0)::K) J' ?_ (e1.trans e2) (congrArg (List.cons (q.2,i0)) h2) (fun x hx=>?_)
  ·have hs:=qp (J:=J) hp;have hl:fM J (.ref q.1)=some (((aR q.2).length:Nat):Int):=by
    have h5:(bX q.2).length<ay:=by
     rw[mQ];have:=mO q.2 hp;have:ay=1048576:=rfl;omega
    exact(dh hq h5).trans (by rw[mQ])
   have he:ev (ab FT W k) sN [some (.ref j),o1,some (.int (i0:Nat)),some (.ref q.1),o4] J=some (fT (J.length,q.2,i0),J++[.list ((aR q.2).reverse.map iT) 0]):=aS (dF (bz rfl hl) (oq rfl hq hs) rfl) A8;have hb:aw [2,3] true (.tup [.int (i0:Nat),.ref q.1]) [some (.ref j),o1,o2,o3,o4]=some [some (.ref j),o1,some (.int (i0:Nat)),some (.ref q.1),o4]:=rfl;have hsrc:aI (some (j,w)) (J++[.list ((aR q.2).reverse.map iT) 0])=true:=dH (e1.get hj) rfl;rw[List.map_cons]
   show aY _ _ _ _ _ (.tup [.int (i0:Nat),.ref q.1]::b8 (i0+1) (L.map fun q=>.ref q.1)) J=_;exact fX hb rfl he hsrc h1
  ·rcases List.mem_cons.mp hx with rfl|hx
   ·exact⟨e2.get (ai _ _),hp⟩
   ·exact h3 x hx
theorem oN (L:List (Nat×aZ)):∀i0 t:Nat,(Aw i0 L)[t]?=(L[t]?).map fun q=>(q.2,i0+t):=by
 induction L with
 |nil=>exact fun _ _=>rfl
 |cons q L ih=>
  intro i0 t
  cases t with
  |zero=>rfl
  |succ t=>exact(ih (i0+1) t).trans (by rw[List.getElem?_cons_succ,Nat.add_right_comm];rfl)
theorem qu {α:Type} (L:List α) (d:α):(List.range L.length).map (fun t=>L.getD t d)=L:=by
 apply List.ext_getElem?
 intro i;rw[List.getElem?_map];by_cases h:i<L.length
 ·rw[List.getElem?_range h,List.getElem?_eq_getElem h];simp[h]
 ·rw[List.getElem?_eq_none (by rw[List.length_range];exact Nat.le_of_not_lt h),List.getElem?_eq_none (by exact Nat.le_of_not_lt h)];rfl
noncomputable def q0:Nat×aZ:=(0,⟨0,0,0⟩)
theorem fu {j w:Nat} {L:List (Nat×aZ)} {J:St} (hj:J[j]?=some (.list (L.map fun q=>.ref q.1) w)) (hF:∀q∈L,dD J q) (hL:1<=L.length/\L.length<=3)
  {Gl:Prop} (kk:∀(r v:Nat) (J':St) (M:List (Nat×aZ)),ab FT W (k+1) bd [.ref j] J=some (.ref r,J')->aN J J'->J.length<=r->J'[r]?=some (.list (M.map fun q:Nat×aZ=>.ref q.1) v)->M.Perm L->(M.map fun q=>dS q.2).Pairwise (·<=·)->Gl):Gl:=by
 refine wt (W:=W) (k:=k) (o1:=none) (o2:=none) (o3:=none) (o4:=none) L 0 J hj hF fun K J1 h1 e1 hK hKo=>?_
 have hKget:∀t:Nat,t<L.length->∃a,K[t]?=some (a,(L.getD t q0).2,t):=fun t ht=>by
  have h:=congrArg (·[t]?) hK;simp only[List.getElem?_map,oN,List.getElem?_eq_getElem ht,Option.map_some] at h
  cases hx:K[t]? with
  |none=>rw[hx] at h;cases h
  |some x=>
   rw[hx] at h;simp only[Option.map_some,Option.some.injEq,Nat.zero_add] at h;refine⟨x.1,?_⟩;rw[show x=(x.1,x.2) from rfl,h];simp[ht]
 have hKl:K.length=L.length:=by
  have h1:K.length<=L.length:=by
   refine Nat.le_of_not_lt fun hlt=>?_;have h:=congrArg (·[L.length]?) hK;simp only[List.getElem?_map,oN,List.getElem?_eq_none (Nat.le_refl L.length),Option.map_none,List.getElem?_eq_getElem hlt,Option.map_some] at h
   cases h
  have h2:L.length<=K.length:=by
   refine Nat.le_of_not_lt fun hlt=>?_;obtain⟨a,ha⟩:=hKget K.length hlt;rw[List.getElem?_eq_none (Nat.le_refl _)] at ha
   cases ha
  exact Nat.le_antisymm h1 h2
 have hord:∃is:List Nat,bS (J1++[.list [] 1]) (K.map fT)=some (is.map fun t=>(K.map fT).getD t .none)/\is.Perm (List.range L.length)/\(is.map fun t=>dS (L.getD t q0).2).Pairwise (·<=·):=by
  by_cases h1l:L.length=1
  ·refine⟨[0],?_,by rw[h1l];exact List.Perm.refl _,by simp⟩;obtain⟨x,hx⟩:=List.length_eq_one_iff.mp (hKl.trans h1l);rw[hx];rfl
  ·obtain⟨is,hi1,hi2,hi3⟩:=ur (n:=L.length) (by exists L10,0x31100221100279111002883110010011116812,hL,h1l) fun t=>dS (L.getD t q0).2;refine⟨is,?_,hi2,hi3⟩;have hml:(K.map fT).length=L.length:=by rw[List.length_map,hKl]
   rw[oR (b:=fun i j=>decide (dS (L.getD i q0).2<dS (L.getD j q0).2\/(dS (L.getD i q0).2=dS (L.getD j q0).2/\i<j))) (by exists L20,0x1021110010289111002883110010011116824,hL,h1l,hml) (by exists L20,0x40211000010283110010011116824,hL,hml) ?_ (fun i j hi hj=>?_),hml,hi1]
   ·rfl
   ·unfold eQ;rw[Bool.or_eq_true];left
    rw[List.all_eq_true];intro d hd;obtain⟨a,_,rfl⟩:=List.mem_map.mp hd;rfl
   ·rw[hml] at hi hj;obtain⟨a,ha⟩:=hKget i hi;obtain⟨b,hb⟩:=hKget j hj;refine⟨fT (a,(L.getD i q0).2,i),fT (b,(L.getD j q0).2,j),by rw[List.getElem?_map,ha];rfl,by rw[List.getElem?_map,hb];rfl,?_⟩;have o1:=hKo _ (List.mem_of_getElem? ha);have o2:=hKo _ (List.mem_of_getElem? hb);have h:=yU (J:=J1++[.list [] 1]) (x:=(a,(L.getD i q0).2,i)) (y:=(b,(L.getD j q0).2,j)) ⟨an o1.1,o1.2⟩ ⟨an o2.1,o2.2⟩;generalize fT (a,(L.getD i q0).2,i)=kx at *;generalize fT (b,(L.getD j q0).2,j)=ky at *;dsimp only at h;rw[h]
 obtain⟨is,hs,hperm,hsorted⟩:=hord
 have hil:∀t∈is,t<L.length:=fun t ht=>by
  have:=hperm.mem_iff.mp ht;rwa [List.mem_range] at this
 have hisl:is.length=L.length:=by rw[hperm.length_eq,List.length_range]
 have hes:(is.map fun t=>(K.map fT).getD t .none)=is.map fun t=>fT ((K.getD t (0,⟨0,0,0⟩,0)).1,(L.getD t q0).2,t):=by
  apply List.map_congr_left
  intro t ht;obtain⟨a,ha⟩:=hKget t (hil t ht);simp only[List.getD_eq_getElem?_getD,List.getElem?_map,ha,Option.map_some,Option.getD_some]
 rw[hes] at hs
 have e2:=aN.app J1 [AO.list (is.map fun t=>fT ((K.getD t (0,⟨0,0,0⟩,0)).1,(L.getD t q0).2,t)) 1]
 generalize hT:(is.map fun t=>fT ((K.getD t (0,⟨0,0,0⟩,0)).1,(L.getD t q0).2,t))=Ts at *;have hTl:Ts.length<ay:=by
  rw[<-hT,List.length_map,hisl];have:ay=1048576:=rfl;exists L20,0x100001000006110283110010011116824,hL,this
 have hj2:(J1++[AO.list Ts 1])[j]?=some (.list (L.map fun q=>.ref q.1) w):=e2.get (e1.get hj);have hc:=el (bind:=aw [2,3,4] true) (elt:=ev (ab FT W k) (.idx (.var 0) (.var 4))) (src:=some (J1.length,1)) (l:=[some (.ref j),some (.ref J1.length),none,none,none]) (J:=J1++[.list Ts 1])
  (fun t:Nat=>fT ((K.getD t (0,⟨0,0,0⟩,0)).1,(L.getD t q0).2,t)) (fun t=>.ref (L.getD t q0).1) (bN (ai _ _)) is (fun t ht=>by
   have htl:=hil t ht;refine⟨[some (.ref j),some (.ref J1.length),some (.int ((aR (L.getD t q0).2).length:Nat)),some (.ref (K.getD t (0,⟨0,0,0⟩,0)).1),some (.int (t:Nat))],rfl,?_⟩;have hx:bo (J1++[AO.list Ts 1]) (.ref j) (.int (t:Nat))=some (.ref (L.getD t q0).1):=by
    exact bO hj2 (gI (m:=3) (Nat.le_trans (Nat.le_of_lt htl) hL.2) rfl) (nQ (by rw[List.getElem?_eq_getElem htl];simp[htl]))
   exact ao rfl rfl hx)
 rw[hT] at hc
 refine kk (J1.length+1) 0 (J1++[.list Ts 1]++[.list (is.map fun t=>.ref (L.getD t q0).1) 0]) (is.map fun t=>L.getD t q0) ?_ ((e1.trans e2).app_r _) (by obtain⟨t,rfl⟩:=e1;simp;exists L20,0x11110002200124) ?_ ?_ ?_
 ·have hlen:(L.map fun q:Nat×aZ=>D.ref q.1).length<ay:=by rw[List.length_map];have:ay=1048576:=rfl;exists L20,0x100001000006110283110010011116824,hL,this
  have hel:∀(n:Nat) (ds:List D),(b8 n ds).length=ds.length:=fun n ds=>by
   induction ds generalizing n with
   |nil=>rfl
   |cons d ds ih=>simp[b8,ih]
  have hit1:eA (ab FT W k) (.dc (.var 0)) [some (.ref j),none,none,none,none] J=some (b8 0 (L.map fun q=>.ref q.1),some (j,w),J):=fW rfl hj;have hL1:di (ab FT W k) (.aE sN [2,3] true (.dc (.var 0)) none) [some (.ref j),none,none,none,none] J=some (K.map fT,J1):=cH hit1 (by rw[hel];exact hlen) h1;have hit2:eA (ab FT W k) (.ix (.var 1)) [some (.ref j),some (.ref J1.length),none,none,none] (J1++[.list Ts 1])=some (Ts,some (J1.length,1),J1++[.list Ts 1]):=cf rfl (ai _ _)
  have hL2:di (ab FT W k) (.aE (.idx (.var 0) (.var 4)) [2,3,4] true (.ix (.var 1)) none) [some (.ref j),some (.ref J1.length),none,none,none] (J1++[.list Ts 1])=some (is.map fun t=>.ref (L.getD t q0).1,J1++[.list Ts 1]):=cH hit2 hTl hc;refine am (fn:=⟨1,5,gR⟩) rfl rfl (l:=[some (.ref j),some (.ref J1.length),none,none,none])
   (ag (l1:=[some (.ref j),some (.ref J1.length),none,none,none]) (J1:=J1++[.list (K.map fT) 0]) ?_ (ag (l1:=[some (.ref j),some (.ref J1.length),none,none,none]) (J1:=J1++[.list Ts 1]) ?_ ?_))
  ·show aP (ab FT W k) W (.asg 1 (.lst (.aE sN [2,3] true (.dc (.var 0)) none))) [some (.ref j),none,none,none,none] J=_;exact aD (bR hL1)
  ·have hg:(J1++[AO.list (K.map fT) 0])[J1.length]?=some (.list (K.map fT) 0):=ai _ _;exact(ko (zG rfl hg (by rw[dk];exact hs))).trans (by rw[dk])
  ·exact(bk (bR hL2)).trans (by rw[List.length_append];rfl)
 ·rw[show J1.length+1=(J1++[AO.list Ts 1]).length by simp,ai,List.map_map];rfl
 ·have:=hperm.map fun t=>L.getD t q0;rwa [qu] at this
 ·rw[List.map_map];exact hsorted
end
section
variable {W k:Nat}
theorem qm {J:St} {i:Nat} {n d:Int} {q:Nat×aZ} {c:Cf} {K:Nat} (hW:2^30<=W) (hn:n≠0) (hd:0<d) (hd':d<2^15) (hi:ar n d c i J) (hq:ar 1 1 (T q.2 cw) q.1 J) (ok:q.2.Ok) (sc:cv K c) (hK:K+1<=8)
  {Gl:Prop} (kk:∀r J',ab FT W (k+4) ax [.ref i,.ref q.1] J=some (.ref r,J')->aN J J'->J.length<=r->ar n d (T q.2 c) r J'->Gl):Gl:=by
 obtain⟨es,wa,hi,pa⟩:=hi;obtain⟨fs,wb,hj,pb⟩:=hq;have bb:oH 1 (T q.2 cw):=gu.T ok
 refine dI (W:=W) (k:=k) (n':=1) (d':=1) hW hn (by exists L00,0x90111115800) hd (by exact Int.le_refl _) (by exists L01,0x800041001143800041003802,hd') pa hi pb hj (fun x y=>by have:=bb.lt (by exact Nat.succ_pos _) x y;exists L21,0x8000000000000000f1100001146107501100114360011410750011401146780060075011003600007500011467819a10061001824,this,(fa (T q.snd cw x y)),(fa (T q.snd cw x y*1))) sc (bM.T ok) hK fun r J' h1 h2 h3 h4=>?_;rw[Int.mul_one,Int.mul_one,rR,lZ pa] at h4;exact kk r J' h1 h2 h3 h4
noncomputable abbrev Ck:XS:=.asg 2 (.call ax (.aa (.var 2) (.aa (.var 3) .af)))
theorem vU {n d:Int} {q:Nat×aZ} {o0 o1 o4:Option D} (hW:2^30<=W) (hn:n≠0) (hd:0<d) (hd':d<2^15) (ok:q.2.Ok) :
  ∀(suf:List D) (J:St) (i K:Nat) (c:Cf) (o5:Option D),ar n d c i J->ar 1 1 (T q.2 cw) q.1 J->cv K c->K+suf.length<=8->
   ∀{Gl:Prop},(∀i' J' q5,a9 (aw [5] false) (aP (ab FT W (k+4)) W Ck) none suf [o0,o1,some (.ref i),some (.ref q.1),o4,o5] J=some (.next,[o0,o1,some (.ref i'),some (.ref q.1),o4,q5],J')->aN J J'->ar n d ((List.replicate suf.length q.2).foldl (fun c p=>T p c) c) i' J'->cv (K+suf.length) ((List.replicate suf.length q.2).foldl (fun c p=>T p c) c)->Gl)->Gl:=by
 intro A0;induction A0 with
 |nil=>
  intro J i K c o5 hi _ sc _ _ kk;exact kk i J o5 rfl (aN.refl _) hi sc
 |cons e suf ih=>
  intro J i K c o5 hi hq sc hk _ kk;simp only[List.length_cons] at hk ⊢
  refine qm (W:=W) (k:=k) hW hn hd hd' hi hq ok sc (by exact Nat.lt_of_le_of_lt (Nat.le_add_right _ _) hk) fun r J1 h1 e1 _ p1=>?_
  refine ih J1 r (K+1) (T q.2 c) (some e) p1 (hq.ext e1) (sc.T ok) (by exists L20,0x81110111002218111111020021824,hk) fun i' J' q5 h2 e2 p2 s2=>?_;refine kk i' J' q5 ?_ (e1.trans e2) (by rw[List.length_cons,List.replicate_succ];exact p2) (by rw[List.length_cons,List.replicate_succ,show K+(suf.length+1)=K+1+suf.length by exists L20,0x101110022111102002224];exact s2);refine(aT (l1:=[o0,o1,some (.ref i),some (.ref q.1),o4,some e]) (l2:=[o0,o1,some (.ref r),some (.ref q.1),o4,some e]) (J2:=J1) rfl ?_ rfl).trans h2;exact aD (ah (al (aj rfl) (aj rfl)) h1)
noncomputable def jp (L:List ((Nat×aZ)×Nat)):List aZ:=L.flatMap fun x=>List.replicate x.2 x.1.2
theorem vT {n d:Int} {ip wp:Nat} {dp:List D} {o0:Option D} (hW:2^30<=W) (hn:n≠0) (hd:0<d) (hd':d<2^15) :
  ∀(L:List ((Nat×aZ)×Nat)) (J:St) (i K:Nat) (c:Cf) (o3 o4 o5:Option D),J[ip]?=some (.list dp wp)->ar n d c i J->(∀x∈L,ar 1 1 (T x.1.2 cw) x.1.1 J/\x.1.2.Ok)->cv K c->K+(jp L).length<=8->
   ∀{Gl:Prop},(∀i' J' q3 q4 q5,a9 (aw [3,4] true) (aP (ab FT W (k+4)) W (.for_ [5] false (.cD (.lit (.int 0)) (.var 4)) Ck)) (some (ip,wp)) (L.map fun x=>.tup [.ref x.1.1,.int (x.2:Nat)]) [o0,some (.ref ip),some (.ref i),o3,o4,o5] J=some (.next,[o0,some (.ref ip),some (.ref i'),q3,q4,q5],J')->aN J J'->ar n d ((jp L).foldl (fun c p=>T p c) c) i' J'->Gl)->Gl:=by
 intro A0;induction A0 with
 |nil=>
  intro J i K c o3 o4 o5 _ hi _ _ _ _ kk;exact kk i J o3 o4 o5 rfl (aN.refl _) hi
 |cons x L ih=>
  intro J i K c o3 o4 o5 hp hi hF sc hk _ kk;have hex:jp (x::L)=List.replicate x.2 x.1.2++jp L:=by simp[jp]
  rw[hex,List.length_append,List.length_replicate] at hk;obtain⟨hx,ok⟩:=hF x List.mem_cons_self
  have hsl:((List.range x.2).map (fun t:Nat=>D.int (t:Int))).length=x.2:=by simp
  refine vU (W:=W) (k:=k) (q:=x.1) (o0:=o0) (o1:=some (.ref ip)) (o4:=some (.int (x.2:Nat))) hW hn hd hd' ok ((List.range x.2).map fun t:Nat=>.int (t:Int)) J i K c o5 hi hx sc (by rw[hsl];exists L30,0x811100021811201020021836,hk) fun i1 J1 q5 h1 e1 p1 s1=>?_;rw[hsl] at p1 s1
  refine ih J1 i1 (K+x.2) _ (some (.ref x.1.1)) (some (.int (x.2:Nat))) q5 (e1.get hp) p1 (fun y hy=>⟨(hF y (List.mem_cons_of_mem _ hy)).1.ext e1,(hF y (List.mem_cons_of_mem _ hy)).2⟩) s1 (by exists L30,0x811201000221811201020021836,hk) fun i' J' q3' q4' q5' h2 e2 p2=>?_;refine kk i' J' q3' q4' q5' ?_ (e1.trans e2) (by rw[hex,List.foldl_append];exact p2);rw[List.map_cons];refine(aT (l1:=[o0,some (.ref ip),some (.ref i),some (.ref x.1.1),some (.int (x.2:Nat)),o5]) (l2:=[o0,some (.ref ip),some (.ref i1),some (.ref x.1.1),some (.int (x.2:Nat)),q5]) (J2:=J1) rfl ?_ (dH (e1.get hp) rfl)).trans h2;rw[bY (ds:=(List.range x.2).map fun t:Nat=>.int (t:Int)) (src:=none) (J1:=J)]
  ·exact h1
  ·exact(fV (n:=(x.2:Nat)) rfl rfl (Nat.le_of_ble_eq_true rfl) (show x.2<ay by have:ay=1048576:=rfl;exists L40,0x30100100000613028811201020021848,hk,this)).trans (by simp[du])
theorem iy {n:Int} {dn:Nat} (hd:0<dn) (hg:Int.gcd n dn=1):cy n dn cw [([0,0],qD n dn)] where
 nd:=by simp
 get:=fun x y=>by
  rw[bU,iK];by_cases h:x=0/\y=0
  ·simp[h,cw,ll hd hg]
  ·have:¬(0=x/\0=y):=by exists L02,0x910011500011568901110501100568804,h
   simp[h,cw,this]
 two:=fun e he=>by simp at he;subst he;exact⟨0,0,rfl⟩
theorem yS {J:St} {n:Int} {dn ip wp:Nat} {L:List ((Nat×aZ)×Nat)} (hW:2^30<=W) (hn:n≠0) (hd:0<dn) (hd':dn<2^15) (hg:Int.gcd n dn=1) (hp:J[ip]?=some (.list (L.map fun x=>.tup [.ref x.1.1,.int (x.2:Nat)]) wp))
  (hF:∀x∈L,ar 1 1 (T x.1.2 cw) x.1.1 J/\x.1.2.Ok) (hk:(jp L).length<=8)
  {Gl:Prop} (kk:∀r J',ab FT W (k+5) dN [qD n dn,.ref ip] J=some (.ref r,J')->aN J J'->ar n dn (bt (jp L)) r J'->Gl):Gl:=by
 have e0:=aN.app J [AO.dict [([0,0],qD n dn)] 0]
 refine vT (W:=W) (k:=k) (o0:=some (qD n dn)) hW hn (d:=(dn:Int)) (by exact Int.natCast_pos.mpr hd) (by omega) L (J++[.dict [([0,0],qD n dn)] 0]) J.length 0 cw none none none (e0.get hp) ⟨_,0,ai _ _,iy hd hg⟩ (fun x hx=>⟨(hF x hx).1.ext e0,(hF x hx).2⟩) bM (by exists L10,0x8110001121811001812,hk) fun r J' q3 q4 q5 h1 e1 p1=>?_;rw[gM] at p1;refine kk r J' ?_ (e0.trans e1) p1;refine am (fn:=⟨2,6,fD⟩) rfl rfl (l:=[some (qD n dn),some (.ref ip),some (.ref r),q3,q4,q5])
  (ag (l1:=[some (qD n dn),some (.ref ip),some (.ref J.length),none,none,none]) (J1:=J++[.dict [([0,0],qD n dn)] 0]) ?_ (ag (l1:=[some (qD n dn),some (.ref ip),some (.ref r),q3,q4,q5]) (J1:=J') ?_ ?_))
 ·have hne:cP .ne (qD n dn) (.tup [.int 0,.int 1]) J=some true:=by
   rw[l0,ju];have:(n==0)=false:=by simpa using hn
   simp[this]
  exact aD (fc (aq rfl rfl hne) (cQ (al rfl rfl) (Nat.le_of_ble_eq_true rfl) rfl))
 ·rw[bY (ds:=L.map fun x=>.tup [.ref x.1.1,.int (x.2:Nat)]) (src:=some (ip,wp)) (J1:=J++[.dict [([0,0],qD n dn)] 0]) (cf rfl (e0.get hp))];exact h1
 ·exact bk rfl
noncomputable abbrev vj:X:=.tup (.aa (.var 19) (.aa (.call gz (.aa (.bin .mul (.idx (.idx (.var 16) (.var 19)) (.lit (.int 0))) (.idx (.var 13) (.lit (.int 0)))) (.aa (.idx (.var 13) (.lit (.int 1))) .af))) .af))
theorem tA {J:St} {i:Nat} {n:Int} {dn:Nat} {c:Cf} {l:aB} (hW:2^30<=W) (hd:0<dn) (hd':dn<2^15) (hn:n≠0) (hn':n.natAbs<2^15) (hi:ar 1 1 c i J) (bx:jK c)
  (h16:l[16]?=some (some (.ref i))) (h13:l[13]?=some (some (qD n dn))) (hl:l.length=21)
  {Gl:Prop} (kk:∀J',ev (ab FT W (k+2)) (.cI (.aE vj [19] false (.ix (.var 16)) none)) l J=some (.ref J.length,J')->aN J J'->ar n dn c J.length J'->Gl):Gl:=by
 obtain⟨es,w,hi,p⟩:=hi
 have pv:cy n dn c (es.map fun e=>(e.1,aV (c (kx e.1) (ky e.1)*n) dn)):=p.mapv (fun e=>aV (c (kx e.1) (ky e.1)*n) dn) (fun x y=>Iff.rfl) fun x y hc=>rfl
 refine kk (J++[.dict (es.map fun e=>(e.1,aV (c (kx e.1) (ky e.1)*n) dn)) 0]) ?_ (aN.app _ _) ⟨_,0,ai _ _,pv⟩
 have hc:=el (bind:=aw [19] false) (elt:=ev (ab FT W (k+2)) vj) (src:=some (i,w)) (l:=l) (J:=J) (fun e:List Int×D=>ae e.1) (fun e=>.tup [ae e.1,aV (c (kx e.1) (ky e.1)*n) dn]) (dH hi rfl) es (fun e he=>by
  obtain⟨x,y,rfl,hc⟩:=p.entry he;refine⟨l.set 19 (some (ae [x,y])),rfl,?_⟩;have g19:(l.set 19 (some (ae [x,y])))[19]?=some (some (ae [x,y])):=List.getElem?_set_self (by exists L10,0x132101521002812,hl);have g16:(l.set 19 (some (ae [x,y])))[16]?=some (some (.ref i)):=by rw[List.getElem?_set_ne (by exists L00,0x9102113212800)];exact h16
  have g13:(l.set 19 (some (ae [x,y])))[13]?=some (some (qD n dn)):=by rw[List.getElem?_set_ne (by exists L00,0x9d1113212800)];exact h13
  have hidx:bo J (.ref i) (ae [x,y])=some (qD (c x y) 1):=(bP (hi) (p.at hc) rfl).trans (by rw[Int.mul_one,aF])
  have i0:∀a b:Int,bo J (qD a b) (.int 0)=some (.int a):=fun _ _=>rfl
  have i1:∀a b:Int,bo J (qD a b) (.int 1)=some (.int b):=fun _ _=>rfl;have m:qf (c x y) n:=.inr (by exact Nat.lt_of_lt_of_le hn' (by decide));have hrat:=d9 (W:=W) (n:=k) (J:=J) (t:=c x y*n) (b:=(dn:Int)) (by exists L10,0x901100758000110812,hd) (by exact Nat.lt_of_lt_of_le hd' (by decide)) (by exists L30,0x20010762075011107361072075107011467880004110080040000000811836,hW,hd',(fa (↑dn)));have h2:2<ay:=by decide
  exact aS (al (aj g19) (ah (al (aA (ao (ao (aj g16) (aj g19) hidx) av (i0 _ _)) (ao (aj g13) av (i0 _ _)) (cu m)) (ao (aj g13) av (i1 _ _))) hrat)) h2)
 have hit:eA (ab FT W (k+2)) (.ix (.var 16)) l J=some (es.map fun e=>ae e.1,some (i,w),J):=bA (aj h16) hi
 have hle:(es.map fun e=>ae e.1).length<ay:=by rw[List.length_map];exact p.len bx
 have hL:di (ab FT W (k+2)) (.aE vj [19] false (.ix (.var 16)) none) l J=some (es.map (fun e=>.tup [ae e.1,aV (c (kx e.1) (ky e.1)*n) dn]),J):=cH hit hle hc
 have hp:=mI (es.map fun e=>(e.1,aV (c (kx e.1) (ky e.1)*n) dn)) [] (by simpa using pv.nd) (by rw[List.length_map];simpa using p.len bx);simp only[List.map_map,List.nil_append] at hp;exact js hL hp
end
theorem wo:tt = .seq AP (.seq AN (.seq AM (.seq AL (.seq AK (.seq AI (.seq AH (.seq AG (.seq yD (.seq sM (.seq sL (.seq sK (.seq sI (.seq sH (.seq sG (.seq sF (.seq sE (.seq sC (.seq sz (.seq sw (.seq sv (.seq su (.seq sn (.seq sm (.seq sk (sj))))))))))))))))))))))))):=rfl
noncomputable def Kp (J J':St):Prop:=∀i o,2<=i->J[i]?=some o->J'[i]?=some o
theorem Kp.trans {a b c:St} (h:Kp a b) (h':Kp b c):Kp a c:=fun i o h2 e=>h' i o h2 (h i o h2 e)
theorem aN.kp {a b:St} (h:aN a b):Kp a b:=fun i o _ e=>h.get e
theorem mM {J J' τ τ':St} (h:aH J τ) (h':aH J' τ') (e:aN τ τ'):Kp J J':=fun i o h2 hi=>by
 obtain⟨j,rfl⟩:∃j,i=j+2:=⟨i-2,by exists L20,0x2111020020111022110006002111022002111678002111824,h2,(fs (i) (2))⟩;rw[h.get] at hi;rw[h'.get];exact e.get hi
theorem ar.kp {n d:Int} {c:Cf} {r:Nat} {a b:St} (h:ar n d c r a) (h2:2<=r) (k:Kp a b):ar n d c r b:=by
 obtain⟨es,w,h1,p⟩:=h;exact⟨es,w,k _ _ h2 h1,p⟩
theorem dD.kp {q:Nat×aZ} {a b:St} (h:dD a q) (h2:2<=q.1) (k:Kp a b):dD b q:=by
 obtain⟨w,h1,hp⟩:=h;exact⟨w,k _ _ h2 h1,hp⟩
noncomputable def ie (J:St) (L:List (Nat×aZ)):Prop:=∀q∈L,dD J q/\2<=q.1
theorem ie.kp {L:List (Nat×aZ)} {a b:St} (h:ie a L) (k:Kp a b):ie b L:=fun q hq=>⟨(h q hq).1.kp (h q hq).2 k,(h q hq).2⟩
theorem ie.forms {L:List (Nat×aZ)} {a:St} (h:ie a L):iu L a:=fun q hq=>⟨(h q hq).1.pol,by obtain⟨w,_,hp⟩:=(h q hq).1;exact qG _ hp⟩
theorem aH.ge {J τ:St} (h:aH J τ):2<=J.length:=by rw[h.len];exact Nat.le_add_left _ _
theorem gs {l:aB} {i j:Nat} {v:Option D} {x:Option (Option D)} (h:l[j]?=x) (hij:i≠j):(l.set i v)[j]?=x:=by
 rw[List.getElem?_set_ne hij];exact h
theorem kR {l:aB} {i:Nat} {v:Option D} (h:i<l.length):(l.set i v)[i]?=some v:=List.getElem?_set_self h
section
variable {W k:Nat}
theorem rA {l:aB} {C:Nat->List D->St->Option (D×St)} (hC:C=ab FT W (k+14)) (h1:l[1]?=some (some (.ref 1))) (hl:l.length=21):∀(ds:List D) (J τ:St),aH J τ->
   ∀{Gl:Prop},(∀(L:List (Nat×aZ)) (J' t:St),aY (aw [19] false) (fun _ J=>some (true,J)) (ev C (.call eZ (.aa (.var 1) .af))) none l ds J=some (L.map fun q=>.ref q.1,J')->aH J' (τ++t)->ie J' L->L.length=ds.length->Gl)->Gl:=by
 intro A0;induction A0 with
 |nil=>
  intro J τ h _ kk
  exact kk [] J [] rfl (by simpa using h) (fun q hq=>by cases hq) rfl
 |cons d ds ih=>
  intro J τ h _ kk
  refine uw (W:=W) (k:=k+12) h fun p w J1 hc hp B1=>?_
  refine ih J1 _ B1 fun L J' t h2 B2 hF hlen=>?_;have e:aN (τ++[.dict (bX p) w]) (τ++[.dict (bX p) w]++t):=aN.app _ _;have hg:J1[τ.length+2]?=some (.dict (bX p) w):=by rw[B1.get];simp
  refine kk ((τ.length+2,p)::L) J' ([.dict (bX p) w]++t) ?_ (by rw[<-List.append_assoc];exact B2) (fun q hq=>?_) (by simp[hlen])
  ·have g1:(l.set 19 (some d))[1]?=some (some (.ref 1)):=gs h1 (by decide);have hev:ev C (.call eZ (.aa (.var 1) .af)) (l.set 19 (some d)) J=some (.ref (τ.length+2),J1):=by
    subst hC;exact ah (b7 (aj g1)) hc
   have hb:aw [19] false d l=some (l.set 19 (some d)):=rfl;have hs:aI none J1=true:=rfl;exact fX hb rfl hev hs h2
  ·rcases List.mem_cons.mp hq with rfl|hq
   ·exact⟨⟨w,mM B1 B2 e _ _ (by exact Nat.le_add_left _ _) hg,hp⟩,by show 2<=τ.length+2;exact Nat.le_add_left _ _⟩
   ·exact hF q hq
theorem AF {is:List Int} (h:is.length<=63):aP (ab FT W (k+14)) W AP (some (.fro (is.map .int))::List.replicate 20 none) []=some (.next,some (.fro (is.map .int))::some (.ref 1)::List.replicate 19 none,[.list ((is.take 30).map .int) 0,.list [.ref 0,.int 0] 0]):=by
 have hl:(is.map D.int).length<ay:=by rw[List.length_map];exact Nat.lt_of_le_of_lt h (Nat.le_of_ble_eq_true rfl)
 have hL:di (ab FT W (k+14)) (.lsl (.var 0) none (some 30)) (some (.fro (is.map .int))::List.replicate 20 none) []=some ((is.take 30).map .int,[]):=by
  rw[List.map_take];exact if_pos hl
 exact aD (bR (J1:=[.list ((is.take 30).map .int) 0]) (ct (al (J1:=[.list ((is.take 30).map .int) 0]) (mV hL (by rw[List.length_map,List.length_take];exact Nat.lt_of_le_of_lt (Nat.min_le_left _ _) (Nat.le_of_ble_eq_true rfl))) rfl) fm))
theorem AE {l:aB} {J τ:St} (B:aH J τ) (h1:l[1]?=some (some (.ref 1))) (hl:l.length=21)
  {Gl:Prop} (kk:∀(L:List (Nat×aZ)) (rf:Nat) (J' τ':St),aP (ab FT W (k+14)) W AN l J=some (.next,l.set 2 (some (.ref rf)),J')->aH J' τ'->2<=rf->J'[rf]?=some (.list (L.map fun q=>.ref q.1) 0)->ie J' L->1<=L.length->L.length<=3->Gl):Gl:=by
 refine cq (W:=W) (k:=k+13) (m:=3) B (by exact Int.natCast_nonneg _) fun v J1 ht hv0 hv3 B1=>?_
 refine rA (W:=W) (k:=k) rfl h1 hl (du 0 (1+v)) J1 τ B1 fun L J2 t h2 B2 hF hlen=>?_;have hrl:(du 0 (1+v)).length=(1+v).toNat:=by simp[du]
 have e2:=aN.app J2 [AO.list (L.map fun q:Nat×aZ=>.ref q.1) 0]
 refine kk L J2.length (J2++[.list (L.map fun q=>.ref q.1) 0]) _ ?_ (B2.app _) B2.ge (ai _ _) (hF.kp e2.kp) (by exists L31,0x11110112020110011123600111220750011120114678201028100028000114836,hv0,hlen,hrl,(ft (1+v))) (by exists L31,0x3110010112020110011123600111220750011120114678201028100028311003836,hv3,hlen,hrl,(ft (1+v)));have hit:eA (ab FT W (k+14)) (.cD (.lit (.int 0)) (.bin .add (.lit (.int 1)) (.call aX (.aa (.var 1) (.aa (.lit (.int 3)) .af))))) l J=some (du 0 (1+v),none,J1):=fV av (aA av (ah (al (aj h1) av) ht) rfl) (by decide) (by have:ay=1048576:=rfl;omega)
 have hL:di (ab FT W (k+14)) (.aE (.call eZ (.aa (.var 1) .af)) [19] false (.cD (.lit (.int 0)) (.bin .add (.lit (.int 1)) (.call aX (.aa (.var 1) (.aa (.lit (.int 3)) .af))))) none) l J=some (L.map fun q=>.ref q.1,J2):=by
  exact cH hit (by rw[hrl];have:ay=1048576:=rfl;omega) h2
 exact aD (bR hL)
theorem AD {l:aB} {J τ:St} (B:aH J τ) (h1:l[1]?=some (some (.ref 1))) (hl:l.length=21)
  {Gl:Prop} (kk:∀(m s:Nat) (J':St),aP (ab FT W (k+14)) W AM l J=some (.next,(l.set 3 (some (.int (m:Nat)))).set 4 (some (.int (s:Nat))),J')->aH J' τ->m<6->s<4->Gl):Gl:=by
 refine cq (W:=W) (k:=k+13) (m:=6) B (by exact Int.natCast_nonneg _) fun v J1 ht hv0 hv3 B1=>?_
 refine cq (W:=W) (k:=k+13) (m:=4) B1 (by exact Int.natCast_nonneg _) fun v2 J2 ht2 hv20 hv23 B2=>?_;refine kk v.toNat v2.toNat J2 ?_ B2 (by exists L11,0x6110000110020110036000075000114678611003812,hv3,(ft (v))) (by exists L11,0x4110000110020110036000075000114678411003812,hv23,(ft (v2)));rw[Int.toNat_of_nonneg hv0,Int.toNat_of_nonneg hv20];exact dO (aS (al (ah (al (aj h1) av) ht) (ah (al (aj h1) av) ht2)) (show 2<ay by decide)) rfl
theorem AC {l:aB} {J:St} {m s rf wf:Nat} {L:List (Nat×aZ)} (h3:l[3]?=some (some (.int (m:Nat)))) (h4:l[4]?=some (some (.int (s:Nat)))) (h2:l[2]?=some (some (.ref rf))) (hf:J[rf]?=some (.list (L.map fun q=>.ref q.1) wf)) (hm:m<6) (hs:s<4) (hL:L.length<=3)
  {Gl:Prop} (kk:∀J',aP (ab FT W (k+14)) W AL l J=some (.next,l,J')->aN J J'->Gl):Gl:=by
 have ha:=lB m (List.mem_range.mpr hm) s (List.mem_range.mpr hs)
 refine ez (W:=W) (J:=J) (n:=k+14) (m:=m) (s:=s) (by exact Nat.le_of_lt hm) (by exact Nat.le_of_lt_succ hs) (by exists L20,0xe111022110021411000824,hs) ha.1 ha.2 fun J1 c1 e1=>?_;have hb:=lB L.length (List.mem_range.mpr (by exact Nat.lt_of_le_of_lt hL (by decide))) 1 (List.mem_range.mpr (by exact Nat.le_add_left _ _))
 refine ez (W:=W) (J:=J1) (n:=k+14) (m:=L.length) (s:=1) (by exact Nat.le_trans hL (by decide)) (by exact Nat.succ_pos _) (by exact Nat.le_add_left _ _) hb.1 hb.2 fun J2 c2 e2=>?_;have hc:=lB 3 (List.mem_range.mpr (by exact Nat.le_add_left _ _)) 0 (List.mem_range.mpr (by exact Nat.succ_pos _))
 refine ez (W:=W) (J:=J2) (n:=k+14) (m:=3) (s:=0) (by exact Nat.le_add_left _ _) (by exact Nat.zero_le _) (by exact Nat.le_add_left _ _) hc.1 hc.2 fun J3 c3 e3=>?_;refine kk J3 ?_ ((e1.trans e2).trans e3);have hlen:fM J1 (.ref rf)=some ((L.length:Nat):Int):=by
  exact eK (e1.get hf) (gI hL rfl)
 have a1:ev (ab FT W (k+14)) (.not (.call bI (.aa (.var 3) (.aa (.var 4) .af)))) l J=some (.bool false,J1):=by
  refine(iG (q:=true) ?_).trans rfl;exact ah (al (aj h3) (aj h4)) c1
 have a2:ev (ab FT W (k+14)) (.not (.call bI (.aa (.len (.var 2)) (.aa (.lit (.int 1)) .af)))) l J1=some (.bool false,J2):=by
  refine(iG (q:=true) ?_).trans rfl;exact ah (al (bz (aj h2) hlen) av) c2
 have a3:ev (ab FT W (k+14)) (.not (.call bI (.aa (.lit (.int 3)) (.aa (.lit (.int 0)) .af)))) l J2=some (.bool false,J3):=by
  refine(iG (q:=true) ?_).trans rfl;exact ah (al av av) c3
 have ha:ev (ab FT W (k+14)) _ l J=some (.bool false,J3):=dq a1 (dq a2 a3);exact eL ha rfl
theorem AB {l:aB} {J τ:St} {rf wf:Nat} {L:List (Nat×aZ)} (B:aH J τ) (h1:l[1]?=some (some (.ref 1))) (h2:l[2]?=some (some (.ref rf))) (hf:J[rf]?=some (.list (L.map fun q=>.ref q.1) wf)) (hL:L.length<=3)
  {Gl:Prop} (kk:∀(w:Nat) (J':St),aP (ab FT W (k+14)) W AK l J=some (.next,l.set 5 (some (.int (w:Nat))),J')->aH J' τ->L.length<w->w<=L.length+2->Gl):Gl:=by
 refine cq (W:=W) (k:=k+13) (m:=2) B (by exact Int.natCast_nonneg _) fun v J1 ht hv0 hv3 B1=>?_;refine kk (L.length+1+v.toNat) J1 ?_ B1 (by exact Nat.le_add_right _ _) (by exists L21,0x21100210111002210111020110036001075000114678211003824,hv3,(ft (v)));have hlen:fM J (.ref rf)=some ((L.length:Nat):Int):=by
  exact eK hf (gI hL rfl)
 have hv:((L.length:Nat):Int)+1+v=((L.length+1+v.toNat:Nat):Int):=by exists L21,0x1011100227001110072250111020110036001075000114678000114824,hv0,(ft (v))
 rw[<-hv];exact aD (aA (aA (bz (aj h2) hlen) av rfl) (ah (al (aj h1) av) ht) rfl)
end
theorem lU {α:Type}:∀(l:List α) (i:Nat) (x:α),l[i]?=some x->(x::l.eraseIdx i).Perm l
 | [],i,x,h=>by simp at h
 |a::l,0,x,h=>by simp at h;subst h;exact List.Perm.refl _
 |a::l,i+1,x,h=>by
  rw[List.getElem?_cons_succ] at h;rw[List.eraseIdx_cons_succ];exact(List.Perm.swap a x _).trans ((lU l i x h).cons a)
theorem mY {α β:Type} (f:α->β):∀(l:List α) (i:Nat),(l.eraseIdx i).map f=(l.map f).eraseIdx i
 | [],i=>rfl
 |a::l,0=>rfl
 |a::l,i+1=>by
  show f a::(l.eraseIdx i).map f=f a::(l.map f).eraseIdx i;rw[mY f l i]
theorem BS (ρ:St) (a b x:AO):(ρ++[a,b]).set ρ.length x=ρ++[x,b]:=by
 rw[List.set_append_right _ _ (by exact Nat.le_refl _)];simp
theorem BR (ρ:St) (a b x:AO):(ρ++[a,b]).set (ρ.length+1) x=ρ++[a,x]:=by
 rw[List.set_append_right _ _ (by exact Nat.le_succ _)];simp
theorem s8 (ρ:St) (a b:AO):(ρ++[a,b])[ρ.length]?=some a:=by simp
theorem s7 (ρ:St) (a b:AO):(ρ++[a,b])[ρ.length+1]?=some b:=by
 rw[List.getElem?_append_right (by exact Nat.le_succ _)];simp
noncomputable abbrev bH (L:List (Nat×aZ)):List D:=L.map fun q=>.ref q.1
section
variable {W k:Nat}
noncomputable abbrev vd:XS:=.expr (.append (.var 7) (.ii (.var 8) (.call aX (.aa (.var 1) (.aa (.len (.var 8)) .af)))))
theorem yi {l:aB} {J ρ:St} {A B:List (Nat×aZ)} {v1 v2:Nat} (hB:B≠[]) (hb3:A.length+B.length<=3) (h:aH J (ρ++[.list (bH A) v1,.list (bH B) v2])) (h1:l[1]?=some (some (.ref 1))) (h7:l[7]?=some (some (.ref (ρ.length+2)))) (h8:l[8]?=some (some (.ref (ρ.length+1+2))))
  {Gl:Prop} (kk:∀q i J',aP (ab FT W (k+14)) W vd l J=some (.next,l,J')->B[i]?=some q->aH J' (ρ++[.list (bH (A++[q])) (v1+1),.list (bH (B.eraseIdx i)) (v2+1)])->Gl):Gl:=by
 have hbl:0<B.length:=List.length_pos_iff.mpr hB
 refine cq (W:=W) (k:=k+13) (m:=(B.length:Int)) h (by exact Int.natCast_pos.mpr hbl) fun v J1 ht hv0 hv3 B1=>?_;have hvl:v.toNat<B.length:=by exists L21,0x10001110201100360010750001146780070038000110824,hbl,hv3,(ft (v))
 have g7:J[ρ.length+2]?=some (.list (bH A) v1):=by rw[h.get,s8]
 have g8:J[ρ.length+1+2]?=some (.list (bH B) v2):=by rw[h.get,s7]
 have g71:J1[ρ.length+2]?=some (.list (bH A) v1):=by rw[B1.get,s8]
 have g81:J1[ρ.length+1+2]?=some (.list (bH B) v2):=by rw[B1.get,s7]
 have B2:=B1.set (ρ.length+1) (.list ((bH B).eraseIdx v.toNat) (v2+1));rw[BR] at B2;have B3:=B2.set ρ.length (.list (bH A++[.ref (B[v.toNat]).1]) (v1+1));rw[BS] at B3;have g72:(J1.set (ρ.length+1+2) (.list ((bH B).eraseIdx v.toNat) (v2+1)))[ρ.length+2]?=some (.list (bH A) v1):=by rw[B2.get,s8]
 refine kk (B[v.toNat]) v.toNat ((J1.set (ρ.length+1+2) (.list ((bH B).eraseIdx v.toNat) (v2+1))).set (ρ.length+2) (.list (bH A++[.ref (B[v.toNat]).1]) (v1+1))) ?_ (List.getElem?_eq_getElem hvl) ?_
 ·have lim:ay=1048576:=rfl;have hlen:fM J (.ref (ρ.length+1+2))=some ((B.length:Nat):Int):=by
   exact eK g8 (by exists L30,0x20100100000612028311100021836,hb3,lim)
  have hx:(bH B)[v.toNat]?=some (.ref (B[v.toNat]).1):=by
   rw[List.getElem?_map,List.getElem?_eq_getElem hvl];rfl
  have hl1:ef J (ρ.length+2)=true:=ji g7;have hl2:ef J (ρ.length+1+2)=true:=ji g8;have hc2:(bH A).length<ay:=by rw[List.length_map];exists L30,0x20000100000612028311100021836,hb3,lim
  exact ko (mX (aj h7) (pP (n:=v.toNat) (aj h8) ((ah (al (aj h1) (bz (aj h8) hlen)) ht).trans (by rw[Int.toNat_of_nonneg hv0])) hl2 g81 hx (by rw[List.length_map];exists L30,0x20100100000612028311100021836,hb3,lim)) hl1 g72 hc2)
 ·rw[show bH (A++[B[v.toNat]])=bH A++[.ref (B[v.toNat]).1] by simp[bH],show bH (B.eraseIdx v.toNat)=(bH B).eraseIdx v.toNat from mY _ B _];exact B3
theorem si {l:aB} {ρ:St} (h1:l[1]?=some (some (.ref 1))) (h7:l[7]?=some (some (.ref (ρ.length+2)))) (h8:l[8]?=some (some (.ref (ρ.length+1+2)))) :
  ∀(N:Nat) (A B:List (Nat×aZ)) (v1 v2 fuel:Nat) (J:St),B.length=N->N<fuel->A.length+B.length<=3->aH J (ρ++[.list (bH A) v1,.list (bH B) v2])->
   ∀{Gl:Prop},(∀M w1 w2 J',cr (iV (ab FT W (k+14)) (.jd (.var 8))) (aP (ab FT W (k+14)) W vd) fuel l J=some (.next,l,J')->M.Perm B->aH J' (ρ++[.list (bH (A++M)) w1,.list [] w2])->Gl)->Gl
 |N,A,B,v1,v2,0,J,_,hf,_,_,_,kk=>by exact(Nat.not_lt_zero _ hf).elim
 |0,A,B,v1,v2,fuel+1,J,hN,hf,h3,h,_,kk=>by
  have hB:B=[]:=List.length_eq_zero_iff.mp hN;subst hB;refine kk [] v1 v2 J (gc ?_) (List.Perm.refl _) (by rw[List.append_nil];exact h);have g8:J[ρ.length+1+2]?=some (.list (bH []) v2):=by rw[h.get,s7]
  exact d6 (pQ (aj h8) g8)
 |N+1,A,B,v1,v2,fuel+1,J,hN,hf,h3,h,_,kk=>by
  have hB:B≠[]:=fun h=>by subst h;simp at hN
  refine yi (W:=W) (k:=k) hB h3 h h1 h7 h8 fun q i J1 hx hq B1=>?_;have hi:i<B.length:=by
   refine Nat.lt_of_not_le fun hle=>?_;rw[List.getElem?_eq_none hle] at hq;cases hq
  have hel:(B.eraseIdx i).length=N:=by rw[List.length_eraseIdx,if_pos hi];exists L30,0x102020112021110006001112022001111678111102002836,hN,(fs (B.length) (1))
  refine si h1 h7 h8 N (A++[q]) (B.eraseIdx i) (v1+1) (v2+1) fuel J1 hel (by exact Nat.lt_of_succ_lt_succ hf) (by simp;exists L40,0x31130111202211030283110020218111102002848,hN,h3,hel) B1 fun M w1 w2 J' h2 hp B2=>?_;refine kk (q::M) w1 w2 J' ?_ ((hp.cons q).trans (lU B i q hq)) (by rw[List.append_assoc] at B2;exact B2);rw[eP (fl:=.next) (l2:=l) (J2:=J1) (J1:=J) ?_ hx (by simp)]
  ·exact h2
  ·have g8:J[ρ.length+1+2]?=some (.list (bH B) v2):=by rw[h.get,s7]
   obtain⟨b,r,rfl⟩:=List.exists_cons_of_ne_nil hB;exact d6 (pQ (aj h8) g8)
theorem AA {l:aB} {J τ:St} {rf wf:Nat} {L:List (Nat×aZ)} (B:aH J τ) (h2:l[2]?=some (some (.ref rf))) (hf:J[rf]?=some (.list (bH L) wf)) (hF:ie J L) (hL:L.length<=3) (hl:l.length=21)
  {Gl:Prop} (kk:∀(wh:Nat) (J1 ρ:St),aP (ab FT W (k+14)) W AI l J=some (.next,((l.set 6 (some (.ref wh))).set 7 (some (.ref (ρ.length+2)))).set 8 (some (.ref (ρ.length+1+2))),J1++[.list (bH []) 0,.list (bH L) 0])->aH J1 ρ->aN J J1->2<=wh->ar 1 1 (bt (L.map (·.2))) wh J1->Gl):Gl:=by
 refine cW (W:=W) (k:=k+13) hf hF.forms (by exact Nat.le_trans hL (by decide)) fun wh J1 h1 e1 hr p=>?_;obtain⟨ρ,B1,e2⟩:=B.ext e1;refine kk wh J1 ρ ?_ B1 e1 (Nat.le_trans B.ge hr) p;have g2:(J1++[AO.list [] 0])[rf]?=some (.list (bH L) wf):=an (e1.get hf);have hll:(bH L).length<ay:=by rw[List.length_map];have:ay=1048576:=rfl;exact Nat.lt_of_le_of_lt hL (by decide)
 have h3:3<ay:=by decide
 have h0:0<ay:=by decide
 have hlen:=B1.len;have e:=aS (dF (ah (b7 (aj h2)) h1) (bR (ct fw h0)) (mV (w7 (aj h2) g2) hll)) h3;rw[List.append_assoc,List.length_append,hlen] at e;exact dO e rfl
end
theorem ie.perm {L M:List (Nat×aZ)} {J:St} (h:ie J L) (p:M.Perm L):ie J M:=fun q hq=>h q (p.mem_iff.mp hq)
theorem ie.par {L:List (Nat×aZ)} {J:St} (h:ie J L):∀p∈L.map (·.2),p.Ok:=fun p hp=>by
 obtain⟨q,hq,rfl⟩:=List.mem_map.mp hp;obtain⟨w,_,hp⟩:=(h q hq).1;exact qG _ hp
theorem ar.lt {n d:Int} {c:Cf} {r:Nat} {J:St} (h:ar n d c r J):r<J.length:=by
 obtain⟨es,w,h,_⟩:=h
 refine Nat.lt_of_not_le fun hle=>?_;rw[List.getElem?_eq_none hle] at h;cases h
noncomputable def z4 (w r:Nat) (J:St):Prop:=∃(c:Cf) (K:Nat) (X Y:Int),ar 1 1 c r J/\cv K c/\K<w/\c X Y≠0
theorem z4.ext {w r:Nat} {a b:St} (h:z4 w r a) (e:aN a b):z4 w r b:=by
 obtain⟨c,K,X,Y,h1,h2⟩:=h;exact⟨c,K,X,Y,h1.ext e,h2⟩
section
variable {W k:Nat}
theorem Az {l:aB} {J1 ρ:St} {L:List (Nat×aZ)} (hW:2^30<=W) (B:aH J1 ρ) (hF:ie J1 L) (hL:L.length<=3) (h1:l[1]?=some (some (.ref 1))) (h7:l[7]?=some (some (.ref (ρ.length+2)))) (h8:l[8]?=some (some (.ref (ρ.length+1+2))))
  {Gl:Prop} (kk:∀(M:List (Nat×aZ)) (v:Nat) (J' τ':St),aP (ab FT W (k+14)) W AH l (J1++[.list (bH []) 0,.list (bH L) 0])=some (.next,l,J')->aH J' τ'->Kp J1 J'->M.Perm L->ie J' M->J'[ρ.length+2]?=some (.list (bH M) v)->Gl):Gl:=by
 refine si (W:=W) (k:=k) h1 h7 h8 L.length [] L 0 0 W _ rfl (Nat.lt_of_le_of_lt hL (Nat.lt_of_lt_of_le (by decide) hW)) (by simpa using hL) (B.app [.list (bH []) 0,.list (bH L) 0]) fun M w1 w2 J' h2 hp B2=>?_;rw[List.nil_append] at B2;have hk:Kp J1 J':=mM B B2 (aN.app _ _);refine kk M w1 J' _ h2 B2 hk hp ((hF.kp hk).perm hp) ?_;rw[B2.get,s8]
theorem uz {l:aB} {w:Nat} {src:f9} (hw:2<=w) (hw':w<=8) (h5:l[5]?=some (some (.int (w:Nat)))) (hl:l.length=21):∀(rs:List Nat) (J:St),(∀τ,aN J τ->aI src τ=true)->(∀r∈rs,z4 w r J)->
   ∀{Gl:Prop},(∀J',aY (aw [19] false) (iV (ab FT W (k+14)) (.not (.call cE (.aa (.var 19) (.aa (.var 5) .af))))) (ev (ab FT W (k+14)) (.var 19)) src l (rs.map .ref) J=some ([],J')->aN J J'->Gl)->Gl:=by
 intro A0;induction A0 with
 |nil=>
  intro J _ _ _ kk;exact kk J rfl (aN.refl _)
 |cons r rs ih=>
  intro J hs hF _ kk;obtain⟨c,K,X,Y,hp,sc,hK,h0⟩:=hF r List.mem_cons_self
  refine kI (W:=W) (k:=k+12) hw hw' hp sc hK h0 hp.lt fun J1 hc e1=>?_
  refine ih J1 (fun τ e=>hs τ (e1.trans e)) (fun r' hr'=>(hF r' (List.mem_cons_of_mem _ hr')).ext e1) fun J' h2 e2=>?_;refine kk J' ?_ (e1.trans e2);have g19:(l.set 19 (some (.ref r)))[19]?=some (some (.ref r)):=kR (by exists L10,0x132101521002812,hl);have g5:(l.set 19 (some (.ref r)))[5]?=some (some (.int (w:Nat))):=gs h5 (by decide);have ht:iV (ab FT W (k+14)) (.not (.call cE (.aa (.var 19) (.aa (.var 5) .af)))) (l.set 19 (some (.ref r))) J=some (false,J1):=by
   exact d6 (iG (q:=true) (ah (al (aj g19) (aj g5)) hc))
  have hb:aw [19] false (.ref r) l=some (l.set 19 (some (.ref r))):=rfl;exact j7 hb ht (hs J1 e1) h2
theorem Ay {l:aB} {J:St} {rf wf w wh:Nat} {L:List (Nat×aZ)} (hw:2<=w) (hw':w<=8) (hLw:L.length<w) (h2:l[2]?=some (some (.ref rf))) (h5:l[5]?=some (some (.int (w:Nat)))) (h6:l[6]?=some (some (.ref wh))) (hl:l.length=21)
  (hf:J[rf]?=some (.list (bH L) wf)) (hF:ie J L) (hL:L.length<=3) (hwh:ar 1 1 (bt (L.map (·.2))) wh J)
  {Gl:Prop} (kk:∀J',aP (ab FT W (k+14)) W AG l J=some (.next,l,J')->aN J J'->Gl):Gl:=by
 have e1:=aN.app J [AO.list [.ref wh] 0];have e2:=aN.app (J++[AO.list [.ref wh] 0]) [AO.list (bH L++[D.ref wh]) 0];have h4:(bH L).length+1<ay:=by rw[List.length_map];have:ay=1048576:=rfl;exists L20,0x101110020100000611028311001824,hL,this
 have gw:(J++[AO.list [.ref wh] 0])[J.length]?=some (.list [.ref wh] 0):=ai _ _;have gs2:=ai (J++[AO.list [.ref wh] 0]) (AO.list (bH L++[D.ref wh]) 0)
 refine uz (W:=W) (k:=k) (l:=l) (src:=some ((J++[AO.list [.ref wh] 0]).length,0)) hw hw' h5 hl ((L.map (·.1))++[wh]) (J++[AO.list [.ref wh] 0]++[AO.list (bH L++[D.ref wh]) 0]) (fun τ e=>dH (e.get gs2) rfl) (fun r hr=>by
  have e:=e1.trans e2;rcases List.mem_append.mp hr with hr|hr
  ·obtain⟨q,hq,rfl⟩:=List.mem_map.mp hr;have ok:q.2.Ok:=hF.par _ (List.mem_map_of_mem hq);have lead:gD (0+1) (0+q.2.e) (T q.2 cw):=ee.T ok;exact⟨T q.2 cw,1,0+1,0+q.2.e,(hF q hq).1.pol.ext e,bM.T ok,by exact hw,by rw[lead.1];decide⟩
  ·simp only[List.mem_singleton] at hr;subst hr;obtain⟨X,Y,lead⟩:=fR hF.par;have hs:=cO hF.par;rw[List.length_map] at hs;exact⟨_,L.length,X,Y,hwh.ext e,hs,hLw,by rw[lead.1];decide⟩) fun J' h1 e3=>?_
 refine kk J' ?_ ((e1.trans e2).trans e3);have hit:eA (ab FT W (k+14)) (.ix (.bin .add (.var 2) (.lst (.cC (.aa (.var 6) .af))))) l J=some (bH L++[D.ref wh],some ((J++[AO.list [.ref wh] 0]).length,0),J++[AO.list [.ref wh] 0]++[AO.list (bH L++[D.ref wh]) 0]):=by
  have h1l:1<ay:=by decide
  exact cf (aA (aj h2) (bR (ct (b7 (aj h6)) h1l)) (jD (e1.get hf) gw h4)) gs2
 have hds:((L.map (·.1))++[wh]).map D.ref=bH L++[D.ref wh]:=by simp[bH]
 rw[hds] at h1;have hL:di (ab FT W (k+14)) (.aE (.var 19) [19] false (.ix (.bin .add (.var 2) (.lst (.cC (.aa (.var 6) .af))))) (some (.not (.call cE (.aa (.var 19) (.aa (.var 5) .af)))))) l J=some ([],J'):=by
  exact fe hit (by rw[List.length_append];exact h4) h1
 exact eL (mU hL) rfl
theorem Ax {l:aB} {J τ:St} (B:aH J τ) (h1:l[1]?=some (some (.ref 1)))
  {Gl:Prop} (kk:∀(n:Int) (J' τ':St),aP (ab FT W (k+14)) W yD l J=some (.next,l.set 9 (some (.int n)),J')->aH J' τ'->Kp J J'->n≠0->n.natAbs<=3->Gl):Gl:=by
 have B0:=B.app [AO.list [.int 1,.int 2,.int (-3)] 0]
 refine cq (W:=W) (k:=k+13) (m:=3) B0 (by exact Int.natCast_nonneg _) fun v J1 ht hv0 hv3 B1=>?_;have g:J1[J.length]?=some (.list [.int 1,.int 2,.int (-3)] 0):=by rw[B.len,B1.get];simp
 have kp:Kp J J1:=mM B B1 (aN.app _ _)
 have key:∀n,bo J1 (.ref J.length) (.int v)=some (.int n)->aP (ab FT W (k+14)) W yD l J=some (.next,l.set 9 (some (.int n)),J1):=fun n hn=>by
  exact aD (ao (bR (ct (dF av av (wV av)) (show 3<ay by decide))) (ah (al (aj h1) av) ht) hn)
 have hc:v=0\/v=1\/v=2:=by exists L01,0x211005111005701100573110038000114802,hv0,hv3
 rcases hc with rfl|rfl|rfl
 ·exact kk 1 J1 _ (key 1 (bO (n:=0) g pi rfl)) B1 kp (by decide) (by decide)
 ·exact kk 2 J1 _ (key 2 (bO (n:=1) g jR rfl)) B1 kp (by decide) (by decide)
 ·exact kk (-3) J1 _ (key (-3) (bO (n:=2) g fm rfl)) B1 kp (by decide) (by decide)
end
theorem xZ (n:Int):∀(z:List Int) (q:Int),cZ (z.map fun y=>n*y) q=n*cZ z q:=by
 intro A0;induction A0 with
 |nil=>
  intro q;rw[List.map_nil,d8,Int.mul_zero]
 |cons y z ih=>
  intro q;rw[List.map_cons,dG,dG,ih,Int.mul_add];split<;>simp
section
variable {W k:Nat}
noncomputable abbrev vE:X:=.lst (.aE (.bin .mul (.var 9) (.var 20)) [20] false (.ix (.call cS (.aa (.var 19) (.aa (.var 5) .af)))) none)
theorem vD {l:aB} {J:St} {n:Int} {w r:Nat} {p:aZ} (hw:2<=w) (hw':w<=8) (hn:n≠0) (hn':n.natAbs<=3) (ok:p.Ok) (hp:ar 1 1 (T p cw) r J) (h9:l[9]?=some (some (.int n))) (h5:l[5]?=some (some (.int (w:Nat)))) (h19:l[19]?=some (some (.ref r))) (hl:l.length=21)
  {Gl:Prop} (kk:∀r' J',ev (ab FT W (k+14)) vE l J=some (.ref r',J')->aN J J'->b6 n w p r' J'->Gl):Gl:=by
 obtain⟨es,wi,hi,p0⟩:=hp;have sc:cv 1 (T p cw):=bM.T ok;have bc:oH 1 (T p cw):=gu.T ok;have lead:gD (0+1) (0+p.e) (T p cw):=ee.T ok
 refine gN (W:=W) (k:=k+13) hw hw' p0 hi sc (by exact hw) fun z v h1 hzl hz hzl2=>?_;have e1:=aN.app J [AO.list (z.map .int) v]
 have e2:=aN.app (J++[AO.list (z.map .int) v]) [AO.list ((z.map fun y=>n*y).map .int) 0]
 refine kk ((J++[AO.list (z.map .int) v]).length) _ ?_ (e1.trans e2) ⟨z.map (fun y=>n*y),⟨0,ai _ _⟩,fun q=>by rw[xZ,hz],by rw[List.length_map];(exists L20,0x1021300110114102001824,hzl2),fun h=>?_,fun y hy=>?_⟩
 ·have g:=ai J (AO.list (z.map .int) v)
  have hc:=el (bind:=aw [20] false) (elt:=ev (ab FT W (k+14)) (.bin .mul (.var 9) (.var 20))) (src:=some (J.length,v)) (l:=l) (J:=J++[AO.list (z.map .int) v]) D.int (fun y=>.int (n*y)) (dH g rfl) z (fun y _=>by
   refine⟨l.set 20 (some (.int y)),rfl,?_⟩;have g20:(l.set 20 (some (.int y)))[20]?=some (some (.int y)):=kR (by exists L10,0x142101521002812,hl);have g9:(l.set 20 (some (.int y)))[9]?=some (some (.int n)):=gs h9 (by decide);have m:qf n y:=.inl (by exact Nat.lt_of_le_of_lt hn' (by decide));exact aA (aj g9) (aj g20) (cu m))
  have hit:eA (ab FT W (k+14)) (.ix (.call cS (.aa (.var 19) (.aa (.var 5) .af)))) l J=some (z.map .int,some (J.length,v),J++[AO.list (z.map .int) v]):=cf (ah (al (aj h19) (aj h5)) h1) g
  have hL:di (ab FT W (k+14)) (.aE (.bin .mul (.var 9) (.var 20)) [20] false (.ix (.call cS (.aa (.var 19) (.aa (.var 5) .af)))) none) l J=some ((z.map fun y=>n*y).map .int,J++[AO.list (z.map .int) v]):=by
   refine cH hit (jf (m:=1000) (by exists L20,0x3e831101001140021018811001824,hw',hzl2) rfl) (hc.trans ?_);rw[List.map_map];rfl
  exact bR hL
 ·have h0:=km sc (w:=w) (x:=0+1) (y:=0+p.e) (by exact Int.natCast_nonneg _) (by exact Int.ofNat_lt.mpr hw);rw[<-hz,lead.1] at h0;have:z=[]:=List.map_eq_nil_iff.mp h;rw[this,d8] at h0;exact absurd h0 (by decide)
 ·obtain⟨y0,hy0,rfl⟩:=List.mem_map.mp hy;obtain⟨i,hi,hgi⟩:=List.getElem_of_mem hy0;have hzi:z[i]?=some y0:=by rw[List.getElem?_eq_getElem hi,hgi]
  rw[kW hi] at hzi;have hy1:y0=fl (T p cw) w i:=by rw[<-hz];simpa using hzi.symm
  have hb:y0.natAbs<=6:=by
   rw[hy1];unfold fl;split
   ·exact bc _ _
   ·decide
  rw[Int.natAbs_mul];have:n.natAbs*y0.natAbs<=3*6:=Nat.mul_le_mul hn' hb;exact Nat.lt_of_le_of_lt this (by decide)
theorem qA {l:aB} {n:Int} {w:Nat} {src:f9} (hw:2<=w) (hw':w<=8) (hn:n≠0) (hn':n.natAbs<=3) (h9:l[9]?=some (some (.int n))) (h5:l[5]?=some (some (.int (w:Nat)))) (hl:l.length=21) :
  ∀(M:List (Nat×aZ)) (J:St),(∀τ,aN J τ->aI src τ=true)->iu M J->
   ∀{Gl:Prop},(∀(P:List (Nat×aZ)) (J':St),aY (aw [19] false) (fun _ J=>some (true,J)) (ev (ab FT W (k+14)) vE) src l (bH M) J=some (bH P,J')->aN J J'->P.map (·.2)=M.map (·.2)->(∀q∈P,b6 n w q.2 q.1 J'/\q.2.Ok)->Gl)->Gl:=by
 intro A0;induction A0 with
 |nil=>
  intro J _ _ _ kk
  exact kk [] J rfl (aN.refl _) rfl (fun q hq=>by cases hq)
 |cons q M ih=>
  intro J hs hF _ kk;have g19:(l.set 19 (some (.ref q.1)))[19]?=some (some (.ref q.1)):=kR (by exists L10,0x132101521002812,hl);have g5:(l.set 19 (some (.ref q.1)))[5]?=some (some (.int (w:Nat))):=gs h5 (by decide);have g9:(l.set 19 (some (.ref q.1)))[9]?=some (some (.int n)):=gs h9 (by decide)
  refine vD (W:=W) (k:=k) (l:=l.set 19 (some (.ref q.1))) hw hw' hn hn' (hF q List.mem_cons_self).2 (hF q List.mem_cons_self).1 g9 g5 g19 (by rw[List.length_set];exact hl) fun r' J1 h1 e1 p1=>?_
  refine ih J1 (fun τ e=>hs τ (e1.trans e)) (fun q' hq'=>⟨(hF q' (List.mem_cons_of_mem _ hq')).1.ext e1,(hF q' (List.mem_cons_of_mem _ hq')).2⟩) fun P J' h2 e2 hP hPp=>?_
  refine kk ((r',q.2)::P) J' ?_ (e1.trans e2) (by rw[List.map_cons,List.map_cons,hP]) (fun x hx=>?_)
  ·have hb:aw [19] false (.ref q.1) l=some (l.set 19 (some (.ref q.1))):=rfl;show aY _ _ _ _ _ (.ref q.1::bH M) J=_;exact fX hb rfl h1 (hs J1 e1) h2
  ·rcases List.mem_cons.mp hx with rfl|hx
   ·exact⟨p1.ext e2,(hF q List.mem_cons_self).2⟩
   ·exact hPp x hx
theorem yC {l:aB} {J:St} {n:Int} {w tu v:Nat} {M:List (Nat×aZ)} (hw:2<=w) (hw':w<=8) (hn:n≠0) (hn':n.natAbs<=3) (h9:l[9]?=some (some (.int n))) (h5:l[5]?=some (some (.int (w:Nat)))) (h7:l[7]?=some (some (.ref tu))) (hl:l.length=21)
  (ht:J[tu]?=some (.list (bH M) v)) (hF:ie J M) (hM:M.length<=3)
  {Gl:Prop} (kk:∀(P:List (Nat×aZ)) (rp:Nat) (J':St),aP (ab FT W (k+14)) W sM l J=some (.next,l.set 10 (some (.ref rp)),J')->aN J J'->J.length<=rp->J'[rp]?=some (.list (bH P) 0)->P.map (·.2)=M.map (·.2)->(∀q∈P,b6 n w q.2 q.1 J'/\q.2.Ok)->Gl):Gl:=by
 refine qA (W:=W) (k:=k) (l:=l) (src:=some (tu,v)) hw hw' hn hn' h9 h5 hl M J (fun τ e=>dH (e.get ht) rfl) hF.forms fun P J1 h1 e1 hP hPp=>?_;have e2:=aN.app J1 [AO.list (bH P) 0]
 refine kk P J1.length (J1++[.list (bH P) 0]) ?_ (e1.trans e2) ?_ (ai _ _) hP (fun q hq=>⟨(hPp q hq).1.ext e2,(hPp q hq).2⟩)
 ·have hit:eA (ab FT W (k+14)) (.ix (.var 7)) l J=some (bH M,some (tu,v),J):=cf (aj h7) ht;have hL:di (ab FT W (k+14)) (.aE vE [19] false (.ix (.var 7)) none) l J=some (bH P,J1):=cH hit (jf hM rfl) h1;exact aD (bR hL)
 ·obtain⟨t,rfl⟩:=e1;simp
end
theorem wK {P M:List (Nat×aZ)} (h:P.map (·.2)=M.map (·.2)) (i:Nat):(P.getD i q0).2=(M.getD i q0).2:=by
 have h1:=congrArg (·[i]?) h;simp only[List.getElem?_map] at h1;rw[List.getD_eq_getElem?_getD,List.getD_eq_getElem?_getD]
 cases hp:P[i]?<;>cases hm:M[i]?<;>rw[hp,hm] at h1<;>simp at h1 ⊢;exact h1
theorem lN {α:Type} {P:List α} {i:Nat} (d:α) (h:i<P.length):P[i]?=some (P.getD i d):=by
 rw[List.getD_eq_getElem?_getD,List.getElem?_eq_getElem h];rfl
theorem pI {α:Type} {P:List α} {i:Nat} (d:α) (h:i<P.length):P.getD i d∈P:=List.mem_of_getElem? (lN d h)
theorem qT:∀m∈List.range 4,∀t∈a8 1 m++a8 2 m,t.length<=2/\t.length<=m/\∀a∈t,0<=a/\a<(m:Int):=by decide +kernel
section
variable {W k:Nat}
noncomputable abbrev xC:XS:=.ifs (.cmp .ne (.call bw (.aa (.var 10) (.aa (.var 11) (.aa (.var 5) .af)))) (.call bL (.aa (.lst (.aE (.idx (.var 7) (.var 19)) [19] false (.ix (.var 11)) none)) .af))) (.ret (.lit (.bool false))) (.nil)
theorem zT {l:aB} {J:St} {n:Int} {w tu rp v v':Nat} {M P:List (Nat×aZ)} {t:List Int} (hW:2^30<=W) (hw:2<=w) (hw':w<=8) (hn:n≠0) (hn':n.natAbs<=3)
  (h5:l[5]?=some (some (.int (w:Nat)))) (h7:l[7]?=some (some (.ref tu))) (h10:l[10]?=some (some (.ref rp))) (h11:l[11]?=some (some (ae t))) (hl:l.length=21)
  (ht:J[tu]?=some (.list (bH M) v)) (hp:J[rp]?=some (.list (bH P) v')) (hF:iu M J) (hP:P.map (·.2)=M.map (·.2)) (hPp:∀q∈P,b6 n w q.2 q.1 J/\q.2.Ok) (hM:M.length<=3) (hMw:M.length<w)
  (ht2:t.length<=2) (htm:t.length<=M.length) (hta:∀a∈t,0<=a/\a<(M.length:Int))
  {Gl:Prop} (kk:∀J',aP (ab FT W (k+14)) W xC l J=some (.next,l,J')->aN J J'->Gl):Gl:=by
 have hPl:P.length=M.length:=by simpa using congrArg List.length hP
 have lim:ay=1048576:=rfl
 refine fg (W:=W) (k:=k+8) (L:=t.map fun a=>(a.toNat,P.getD a.toNat q0)) hW hw hw' hn hn' hp (fun x hx=>by
  obtain⟨a,ha,rfl⟩:=List.mem_map.mp hx;have h:=hta a ha;have hlt:a.toNat<P.length:=by exists L31,0x20001120201100360020750001146781070030001146810002836,hPl,h,(ft (a))
  have hm:=hPp _ (pI q0 hlt);exact⟨lN q0 hlt,hm.1,hm.2,by show a.toNat<100;exists L31,0x64212000112020110036002075000114678102008001028311001836,hM,hPl,hlt,(ft (a))⟩) (by rw[List.length_map];exact Nat.lt_of_le_of_lt htm hMw) (by rw[List.length_map];omega) fun r1 J1 h1 e1 hr1 p1=>?_
 have hk:ae ((t.map fun a=>(a.toNat,P.getD a.toNat q0)).map fun x=>((x.1:Nat):Int))=ae t:=by
  rw[List.map_map];refine congrArg ae ?_;refine(List.map_congr_left (g:=id) fun a ha=>?_).trans (List.map_id t);have:=hta a ha;show((a.toNat:Nat):Int)=a;exists L21,0x107501110201100360010750001146780070030001146824,this,(ft (a))
 rw[hk] at h1
 have e2:=aN.app J1 [AO.list (bH (t.map fun a=>M.getD a.toNat q0)) 0];have ht1:=e1.get ht
 refine cW (W:=W) (k:=k+13) (J:=J1++[.list (bH (t.map fun a=>M.getD a.toNat q0)) 0]) (L:=t.map fun a=>M.getD a.toNat q0) (j0:=J1.length) (w0:=0) (ai _ _) (fun q hq=>by
  obtain⟨a,ha,rfl⟩:=List.mem_map.mp hq;have h:=hta a ha;exact(hF.ext (e1.trans e2)) _ (pI q0 (by exists L21,0x10001110201100360010750001146780070030001146824,h,(ft (a))))) (by rw[List.length_map];exact Nat.le_trans ht2 (by decide)) fun r2 J3 h3 e3 hr2 p3=>?_
 have hpe:(t.map fun a=>(a.toNat,P.getD a.toNat q0)).map (·.2.2)=(t.map fun a=>M.getD a.toNat q0).map (·.2):=by
  rw[List.map_map,List.map_map]
  exact List.map_congr_left fun a _=>wK hP a.toNat
 rw[hpe] at p1;have hlt:=p1.lt;have hne:r1≠r2:=by simp at hr2;exists L30,0x9200028201111021810000836,hlt,hr2
 have hcmp:=dA hne (p1.ext (e2.trans e3)) p3;refine kk J3 ?_ (e1.trans (e2.trans e3))
 have hc:=el (bind:=aw [19] false) (elt:=ev (ab FT W (k+14)) (.idx (.var 7) (.var 19))) (src:=none) (l:=l) (J:=J1) D.int (fun a=>.ref (M.getD a.toNat q0).1) rfl t (fun a ha=>by
  refine⟨l.set 19 (some (.int a)),rfl,?_⟩;have h:=hta a ha;have hlt:a.toNat<M.length:=by exists L21,0x10001110201100360010750001146780070030001146824,h,(ft (a))
  have g19:(l.set 19 (some (.int a)))[19]?=some (some (.int a)):=kR (by exists L10,0x132101521002812,hl);have g7:(l.set 19 (some (.int a)))[7]?=some (some (.ref tu)):=gs h7 (by decide);have hx:bo J1 (.ref tu) (.int a)=some (.ref (M.getD a.toNat q0).1):=by
   exact jU ht1 (by exists L21,0x107003000114600700300011468100000611028311001824,hM,lim,h) (nQ (lN q0 hlt))
  exact ao (aj g7) (aj g19) hx)
 have hit:eA (ab FT W (k+14)) (.ix (.var 11)) l J1=some (t.map .int,none,J1):=jt (aj h11)
 have hL:di (ab FT W (k+14)) (.aE (.idx (.var 7) (.var 19)) [19] false (.ix (.var 11)) none) l J1=some (bH (t.map fun a=>M.getD a.toNat q0),J1):=by
  refine cH hit (jf ht2 rfl) (hc.trans ?_);rw[bH,List.map_map];rfl
 have a1:ev (ab FT W (k+14)) (.call bw (.aa (.var 10) (.aa (.var 11) (.aa (.var 5) .af)))) l J=some (.ref r1,J1):=ah (dF (aj h10) (aj h11) (aj h5)) h1;have a2:ev (ab FT W (k+14)) (.call bL (.aa (.lst (.aE (.idx (.var 7) (.var 19)) [19] false (.ix (.var 11)) none)) .af)) l J1=some (.ref r2,J3):=ah (b7 (bR hL)) h3;exact eL (aq a1 a2 hcmp) rfl
theorem zU {n:Int} {w tu rp v v':Nat} {M P:List (Nat×aZ)} {src:f9} (hW:2^30<=W) (hw:2<=w) (hw':w<=8) (hn:n≠0) (hn':n.natAbs<=3)
  (hP:P.map (·.2)=M.map (·.2)) (hM:M.length<=3) (hMw:M.length<w) :
  ∀(ts:List (List Int)) (l:aB) (J:St),(∀τ,aN J τ->aI src τ=true)->l[5]?=some (some (.int (w:Nat)))->l[7]?=some (some (.ref tu))->l[10]?=some (some (.ref rp))->l.length=21->
   J[tu]?=some (.list (bH M) v)->J[rp]?=some (.list (bH P) v')->iu M J->(∀q∈P,b6 n w q.2 q.1 J/\q.2.Ok)->(∀t∈ts,t.length<=2/\t.length<=M.length/\∀a∈t,0<=a/\a<(M.length:Int))->
   ∀{Gl:Prop},(∀l' J',a9 (aw [11] false) (aP (ab FT W (k+14)) W xC) src (ts.map ae) l J=some (.next,l',J')->aN J J'->l'.length=21->(∀j,j≠11->l'[j]?=l[j]?)->Gl)->Gl:=by
 intro A0;induction A0 with
 |nil=>
  intro l J _ _ _ _ hl _ _ _ _ _ _ kk
  exact kk l J rfl (aN.refl _) hl (fun _ _=>rfl)
 |cons t ts ih=>
  intro l J hs h5 h7 h10 hl ht hp hF hPp hts _ kk;obtain⟨ht2,htm,hta⟩:=hts t List.mem_cons_self;have hl':(l.set 11 (some (ae t))).length=21:=by rw[List.length_set];exact hl
  refine zT (W:=W) (k:=k) (l:=l.set 11 (some (ae t))) (t:=t) hW hw hw' hn hn' (gs h5 (by decide)) (gs h7 (by decide)) (gs h10 (by decide)) (kR (by exists L10,0xb1101521002812,hl)) hl' ht hp hF hP hPp hM hMw ht2 htm hta fun J1 h1 e1=>?_
  refine ih (l.set 11 (some (ae t))) J1 (fun τ e=>hs τ (e1.trans e)) (gs h5 (by decide)) (gs h7 (by decide)) (gs h10 (by decide)) hl' (e1.get ht) (e1.get hp) (hF.ext e1)
   (fun q hq=>⟨(hPp q hq).1.ext e1,(hPp q hq).2⟩) (fun t ht=>hts t (List.mem_cons_of_mem _ ht)) fun l' J' h2 e2 hl2 hg=>?_
  refine kk l' J' ?_ (e1.trans e2) hl2 (fun j hj=>?_)
  ·rw[List.map_cons];exact(aT rfl h1 (hs J1 e1)).trans h2
  ·rw[hg j hj,List.getElem?_set_ne (Ne.symm hj)]
theorem yB {l:aB} {J:St} {n:Int} {w tu rp v v':Nat} {M P:List (Nat×aZ)} (hW:2^30<=W) (hw:2<=w) (hw':w<=8) (hn:n≠0) (hn':n.natAbs<=3)
  (h5:l[5]?=some (some (.int (w:Nat)))) (h7:l[7]?=some (some (.ref tu))) (h10:l[10]?=some (some (.ref rp))) (hl:l.length=21)
  (ht:J[tu]?=some (.list (bH M) v)) (hp:J[rp]?=some (.list (bH P) v')) (hF:ie J M) (hP:P.map (·.2)=M.map (·.2)) (hPp:∀q∈P,b6 n w q.2 q.1 J/\q.2.Ok) (hM:M.length<=3) (hMw:M.length<w)
  {Gl:Prop} (kk:∀l' J',aP (ab FT W (k+14)) W sL l J=some (.next,l',J')->aN J J'->l'.length=21->(∀j,j≠11->l'[j]?=l[j]?)->Gl):Gl:=by
 have lim:ay=1048576:=rfl
 have hlen:∀τ,aN J τ->fM τ (.ref tu)=some ((M.length:Nat):Int):=fun τ e=>by
  simp only[fM,e.get ht];rw[if_pos (by rw[List.length_map];exact Nat.lt_of_le_of_lt hM (by decide)),List.length_map]
 refine dY (W:=W) (n:=k+14) (m:=M.length) (s:=1) (J:=J) (by exact Nat.le_trans hM (by decide)) (by exact Nat.succ_pos _) (by exact Nat.le_add_left _ _) fun r1 J1 v1 h1 e1 hr1 g1=>?_
 refine dY (W:=W) (n:=k+14) (m:=M.length) (s:=2) (J:=J1) (by exact Nat.le_trans hM (by decide)) (by exact Nat.le_add_left _ _) (by exact Nat.le_add_left _ _) fun r2 J2 v2 h2 e2 hr2 g2=>?_;have h1':ab FT W (k+14) bF [.int (M.length:Nat),.int 1] J=some (.ref r1,J1):=h1;have h2':ab FT W (k+14) bF [.int (M.length:Nat),.int 2] J1=some (.ref r2,J2):=h2;have l1:=gV 1 M.length (by exact Nat.le_trans hM (by decide));have l2:=gV 2 M.length (by exact Nat.le_trans hM (by decide));have e3:=aN.app J2 [AO.list ((a8 1 M.length).map ae++(a8 2 M.length).map ae) 0];have g3:=ai J2 (AO.list ((a8 1 M.length).map ae++(a8 2 M.length).map ae) 0);have e13:=(e1.trans e2).trans e3;refine zU (W:=W) (k:=k) (src:=some (J2.length,0)) hW hw hw' hn hn' hP hM hMw (a8 1 M.length++a8 2 M.length) l (J2++[.list ((a8 1 M.length).map ae++(a8 2 M.length).map ae) 0])
  (fun τ e=>dH (e.get g3) rfl) h5 h7 h10 hl (e13.get ht) (e13.get hp) (hF.forms.ext e13) (fun q hq=>⟨(hPp q hq).1.ext e13,(hPp q hq).2⟩) (fun t ht=>qT M.length (List.mem_range.mpr (by exact Nat.succ_le_succ hM)) t ht) fun l' J' h4 e4 hl4 hg=>?_
 refine kk l' J' ?_ (e13.trans e4) hl4 hg;rw[bY (ds:=(a8 1 M.length++a8 2 M.length).map ae) (src:=some (J2.length,0)) (J1:=J2++[.list ((a8 1 M.length).map ae++(a8 2 M.length).map ae) 0])]
 ·exact h4
 ·have hb:dW .add (.ref r1) (.ref r2) J2=some (.ref J2.length,J2++[.list ((a8 1 M.length).map ae++(a8 2 M.length).map ae) 0]):=by
   refine(jD (e2.get g1) g2 ?_);rw[List.length_map,List.length_map];exists L30,0x20102040212018811101810000061002836,lim,l1,l2
  rw[List.map_append];exact cf (aA (ah (al (bz (aj h7) (hlen J (aN.refl _))) av) h1') (ah (al (bz (aj h7) (hlen J1 e1)) av) h2') hb) g3
end
section
variable {W k:Nat}
theorem yA {l:aB} {J:St} {n:Int} {w wh rp v':Nat} {q:Nat×aZ} {M P L:List (Nat×aZ)} (hW:2^30<=W) (hw:2<=w) (hw':w<=8) (hn:n≠0) (hn':n.natAbs<=3)
  (h5:l[5]?=some (some (.int (w:Nat)))) (h6:l[6]?=some (some (.ref wh))) (h10:l[10]?=some (some (.ref rp)))
  (hp:J[rp]?=some (.list (bH P) v')) (hok:∀p∈(q::M).map (·.2),p.Ok) (hP:P.map (·.2)=(q::M).map (·.2)) (hPp:∀q∈P,b6 n w q.2 q.1 J/\q.2.Ok) (hM:(q::M).length<=3)
  (hwh:ar 1 1 (bt ((q::M).map (·.2))) wh J)
  {Gl:Prop} (kk:∀r1 r2 J',aP (ab FT W (k+14)) W sK l J=some (.next,l.set 12 (some (.tup [ae [0],.ref r1,.ref r2])),J')->aN J J'->ar 1 1 (T q.2 cw) r1 J'->ar 1 1 (bt (M.map (·.2))) r2 J'->J.length<=r1->J.length<=r2->Gl):Gl:=by
 obtain⟨q',P',rfl⟩:∃q' P',P=q'::P':=by
  cases P with
  |nil=>simp at hP
  |cons a b=>exact⟨a,b,rfl⟩
 have hq':q'.2=q.2:=by simpa using (List.cons.inj hP).1
 have hPl:P'.length=M.length:=by simpa using congrArg List.length hP
 have hM':M.length<=2:=by simpa using hM
 have okM:∀p∈M.map (·.2),p.Ok:=fun p hp=>hok p (List.mem_cons_of_mem _ hp);obtain⟨X,Y,hlead⟩:=fR okM;have sp:=cO okM;have bp:=fS okM;rw[List.length_map] at sp bp;have hpc:=hPp q' List.mem_cons_self
 refine mq (W:=W) (k:=k+4) (J:=J) (ip:=rp) (i:=wh) (P:=P') (q:=q') (Qt:=bt (M.map (·.2))) hW hw hw' hn hn' hp (by exists L20,0x811000211101810002824,hPl,hM') hpc.1 hpc.2 (by rw[hq'];exact hwh) sp (by exact Nat.lt_of_le_of_lt hM' (by decide)) (fun x y=>Nat.le_trans (bp x y) (Nat.pow_le_pow_right (by exact Nat.succ_pos _) (by exact Nat.le_trans hM' (by decide)))) hlead fun r1 r2 J' h1 e1 p1 p2 hr1 hr2=>?_;rw[hq'] at p1;refine kk r1 r2 J' ?_ e1 p1 p2 hr1 hr2;exact aD (ah (cG (aj h6) (dF (aj h10) av (aj h5))) h1)
theorem wY {C:Nat->List D->St->Option (D×St)} {l:aB} {J J1:St} {ds:List D} {a:X} (h:ev C a l J=some (.tup ds,J1)):ev C (.isn a) l J=some (.bool false,J1):=by
 show(match ev C a l J with|some (.none,J1)=>some (D.bool true,J1)|some (_,J1)=>some (.bool false,J1)|none=>none)=_;rw[h]
theorem yz {l:aB} {J:St} {tu v r1 r2:Nat} {q:Nat×aZ} {M:List (Nat×aZ)}
  (h7:l[7]?=some (some (.ref tu))) (h12:l[12]?=some (some (.tup [ae [0],.ref r1,.ref r2])))
  (ht:J[tu]?=some (.list (bH (q::M)) v)) (hF:ie J (q::M)) (hM:(q::M).length<=3)
  (p1:ar 1 1 (T q.2 cw) r1 J) (p2:ar 1 1 (bt (M.map (·.2))) r2 J) (hne:q.1≠r1)
  {Gl:Prop} (kk:∀J',aP (ab FT W (k+14)) W sI l J=some (.next,l,J')->aN J J'->Gl):Gl:=by
 have hM':M.length<=2:=by simpa using hM
 have lim:ay=1048576:=rfl;have e1:=aN.app J [AO.list (bH M) 0]
 have hFM:ie J M:=fun x hx=>hF x (List.mem_cons_of_mem _ hx)
 refine cW (W:=W) (k:=k+13) (J:=J++[.list (bH M) 0]) (L:=M) (j0:=J.length) (w0:=0) (ai _ _) (hFM.forms.ext e1) (by exact Nat.le_trans hM' (by decide)) fun r3 J2 h3 e3 hr3 p3=>?_;refine kk J2 ?_ (e1.trans e3);have v12:ev (ab FT W (k+14)) (.var 12) l J=some (.tup [ae [0],.ref r1,.ref r2],J):=aj h12;have a0:=wY v12;have i0:bo J (.tup [ae [0],.ref r1,.ref r2]) (.int 0)=some (ae [0]):=rfl;have i1:bo J (.tup [ae [0],.ref r1,.ref r2]) (.int 1)=some (.ref r1):=rfl;have i2:bo J (.tup [ae [0],.ref r1,.ref r2]) (.int 2)=some (.ref r2):=rfl;have i7:bo J (.ref tu) (.int 0)=some (.ref q.1):=by
  exact bO (n:=0) ht pi rfl
 have a1:ev (ab FT W (k+14)) (.cmp .ne (.idx (.var 12) (.lit (.int 0))) (.tup (.aa (.lit (.int 0)) .af))) l J=some (.bool false,J):=aq (ao v12 av i0) (aS (b7 av) (show 1<ay by decide)) rfl;have a2:ev (ab FT W (k+14)) (.cmp .ne (.idx (.var 12) (.lit (.int 1))) (.idx (.var 7) (.lit (.int 0)))) l J=some (.bool false,J):=aq (ao v12 av i1) (ao (aj h7) av i7) (dA (Ne.symm hne) p1 (hF q List.mem_cons_self).1.pol);have hlt:=p2.lt;have a3:ev (ab FT W (k+14)) (.cmp .ne (.idx (.var 12) (.lit (.int 2))) (.call bL (.aa (.lst (.lsl (.var 7) (some 1) none)) .af))) l J=some (.bool false,J2):=by
  have hc:=dA (i:=r2) (j:=r3) (by simp at hr3;exists L30,0x9200028201111021810000836,hlt,hr3) (p2.ext (e1.trans e3)) p3;have hs:(List.take (bH (q::M)).length (bH (q::M))).drop 1=bH M:=by rw[List.take_length];rfl
  have hle:(bH (q::M)).length<ay:=by rw[List.length_map];exact Nat.lt_of_le_of_lt hM (by decide)
  have hL:di (ab FT W (k+14)) (.lsl (.var 7) (some 1) none) l J=some (bH M,J):=(tg (lo:=some 1) (hi:=none) (aj h7) ht hle).trans (by rw[Option.getD_none,Option.getD_some,hs]);exact aq (ao v12 av i2) (ah (b7 (bR hL)) h3) hc
 have ha:=dq a0 (dq a1 (dq a2 a3));exact eL ha rfl
theorem mT {C:Nat->List D->St->Option (D×St)} {l:aB} {J J1:St} {a:X} (h:ev C a l J=some (.none,J1)):ev C (.notn a) l J=some (.bool false,J1):=by
 show(match ev C a l J with|some (.none,J1)=>some (D.bool false,J1)|some (_,J1)=>some (.bool true,J1)|none=>none)=_;rw[h]
theorem lK {C:Nat->List D->St->Option (D×St)} {l:aB} {J J1:St} {c:X} {A:XS} (h:ev C c l J=some (.bool false,J1)):aP C W (.ifs c A .nil) l J=some (.next,l,J1):=by
 exact eL h rfl
theorem yy {l:aB} {J:St} {n:Int} {w rp v':Nat} {P:List (Nat×aZ)} (hW:2^30<=W) (hw:2<=w) (hw':w<=8) (hn:n≠0) (hn':n.natAbs<=3)
  (h5:l[5]?=some (some (.int (w:Nat)))) (h10:l[10]?=some (some (.ref rp)))
  (hp:J[rp]?=some (.list (bH P) v')) (hPp:∀q∈P,b6 n w q.2 q.1 J/\q.2.Ok) (hP:P.length<=3)
  {Gl:Prop} (kk:∀J',aP (ab FT W (k+14)) W sH l J=some (.next,l,J')->aN J J'->Gl):Gl:=by
 have e1:=aN.app J [AO.dict rH 0]
 refine lQ (W:=W) (k:=k+4) (J:=J++[.dict rH 0]) (ip:=rp) (i:=J.length) (wi:=0) (P:=P) hW hw hw' hn hn' (e1.get hp) (by exact Nat.le_trans hP (by decide)) (fun q hq=>⟨(hPp q hq).1.ext e1,(hPp q hq).2⟩) (ai _ _) fun J' h1 e2=>?_;have h1':ab FT W (k+14) cM [.ref J.length,.ref rp,.int 1,.int (w:Nat)] (J++[.dict rH 0])=_:=h1;refine kk J' (lK (mT ?_)) (e1.trans e2);have h2:2<ay:=by decide
 have h4:4<16:=by decide
 have hd:eF [D.tup [.int 0,.int 2],D.tup [.int 1,.int 1],D.tup [.int 0,.int 0],D.tup [.int 7,.int 1]] []=some rH:=rfl;exact ah (cG (cQ (cG (aS (al av av) h2) (dF (aS (al av av) h2) (aS (al av av) h2) (aS (al av av) h2))) h4 hd) (dF (aj h10) av (aj h5))) h1'
theorem yx {l:aB} {J:St} {w wh:Nat} (hW:2^30<=W) (hw:2<=w) (hw':w<=8)
  (h5:l[5]?=some (some (.int (w:Nat)))) (h6:l[6]?=some (some (.ref wh)))
  {Gl:Prop} (kk:∀J',aP (ab FT W (k+14)) W sG l J=some (.next,l,J')->aN J J'->Gl):Gl:=by
 have e1:=aN.app J [AO.list [.int 5] 0];have e2:=aN.app (J++[AO.list [.int 5] 0]) [AO.list [.ref J.length] 0];have hl:(J++[AO.list [.int 5] 0]).length=J.length+1:=by simp
 have g2:=ai (J++[AO.list [.int 5] 0]) (AO.list [.ref J.length] 0)
 refine mr (W:=W) (k:=k+4) (J:=J++[.list [.int 5] 0]++[.list [.ref J.length] 0]) (ip:=(J++[AO.list [.int 5] 0]).length) (i:=wh) (r5:=J.length) hW hw hw' g2 ⟨0,e2.get (ai _ _)⟩ fun J' h1 e3=>?_;have h1':ab FT W (k+14) cM [.ref wh,.ref (J++[AO.list [.int 5] 0]).length,.int 1,.int (w:Nat)] (J++[.list [.int 5] 0]++[.list [.ref J.length] 0])=_:=h1;refine kk J' (lK (mT ?_)) ((e1.trans e2).trans e3);have hk:1<ay:=by decide
 exact ah (cG (aj h6) (dF (bR (ct (b7 (bR (ct (b7 av) hk))) hk)) av (aj h5))) h1'
end
theorem pS (J:St) (m:Nat) (A:List (Nat×aZ)):∀B:List (Nat×aZ),A.map (·.2)=B.map (·.2)->(∀q∈A,ar 1 1 (T q.2 cw) q.1 J)->(∀q∈B,ar 1 1 (T q.2 cw) q.1 J)->de (cY J (m+3)) (bH A) (bH B)=some true:=by
 induction A with
 |nil=>
  intro B h _ _
  cases B with
  |nil=>rfl
  |cons _ _=>exact nomatch h
 |cons a A ih=>
  intro B h hA hB
  cases B with
  |nil=>exact nomatch h
  |cons b B=>
   obtain⟨h1,h2⟩:=List.cons.inj h;have h3:=hB b List.mem_cons_self;rw[<-show a.2=b.2 from h1] at h3
   exact bK (jZ (hA a List.mem_cons_self) h3) (ih B h2 (fun q hq=>hA q (List.mem_cons_of_mem _ hq)) fun q hq=>hB q (List.mem_cons_of_mem _ hq))
theorem oP {A B M L:List (Nat×aZ)} {J:St} (hL:ie J L) (hA:A.Perm M) (hB:B.Perm L) (hM:M.Perm L) (sA:(A.map fun q=>dS q.2).Pairwise (·<=·)) (sB:(B.map fun q=>dS q.2).Pairwise (·<=·)):A.map (·.2)=B.map (·.2):=by
 have hp:(A.map (·.2)).Perm (B.map (·.2)):=(hA.trans (hM.trans hB.symm)).map _
 have hall:∀p∈A.map (·.2),p∈kM:=fun p hp=>by
  obtain⟨q,hq,rfl⟩:=List.mem_map.mp hp;obtain⟨_,_,h⟩:=(hL q ((hA.trans hM).mem_iff.mp hq)).1;exact h
 refine k9 (r:=dS) hp ?_ ?_ fun a ha b hb h=>(oV a (hall a ha) b (hall b hb)).1.mp h
 ·rw[List.map_map];exact sA
 ·rw[List.map_map];exact sB
theorem uB (J:St) (m:Nat) (fs:Es) (hf:∀e∈fs,∃a b,e.2=qD a b) (suf:Es):(∀e∈suf,∃a b,e.2=qD a b)->∃r,jv (cY J (m+2)) fs suf=some r:=by
 induction suf with
 |nil=>exact fun _=>⟨true,rfl⟩
 |cons e suf ih=>
  intro h;obtain⟨k,x⟩:=e;obtain⟨r,hr⟩:=ih fun e he=>h e (List.mem_cons_of_mem _ he);obtain⟨a,b,hx⟩:=h (k,x) List.mem_cons_self;replace hx:x=qD a b:=hx;subst hx
  cases hd:aU fs k with
  |none=>exact⟨false,uD hd⟩
  |some y=>
   obtain⟨c,d,hy⟩:=hf _ (lW hd);replace hy:y=qD c d:=hy;subst hy;exact⟨_,uE hd (kt ..) hr⟩
theorem pL (p:aZ):∀e∈bX p,∃a b,e.2=qD a b:=fun e he=>by
 have h:∀e∈bX p,∃a,e.2=qD a 1:=by
  have:=jX p;intro e he;have hm:D.tup [ae e.1,e.2]∈(aR p).map iT:=by
   rw[<-this];exact List.mem_map_of_mem (f:=fun e:List Int×D=>D.tup [ae e.1,e.2]) he
  obtain⟨t,_,ht⟩:=List.mem_map.mp hm;refine⟨t.2.2,?_⟩;simp only[iT,D.tup.injEq,List.cons.injEq] at ht;exact ht.2.1.symm
 obtain⟨a,ha⟩:=h e he;exact⟨a,1,ha⟩
theorem ox {J:St} {x q:Nat×aZ} (hx:dD J x) (hq:dD J q):∃b,cY J 8 (.ref x.1) (.ref q.1)=some b:=by
 obtain⟨w1,h1,_⟩:=hx;obtain⟨w2,h2,_⟩:=hq;by_cases h:x.1=q.1
 ·refine⟨true,?_⟩;show(if x.1=q.1 then some true else _)=_;rw[if_pos h]
 ·show ∃b,(if x.1=q.1 then some true else _)=some b;rw[if_neg h,h1,h2];show ∃b,(if (bX x.2).length=(bX q.2).length then jv (cY J 7) (bX q.2) (bX x.2) else some false)=some b;by_cases hl:(bX x.2).length=(bX q.2).length
  ·rw[if_pos hl];exact uB J 5 _ (pL _) _ (pL _)
  ·rw[if_neg hl];exact⟨false,rfl⟩
theorem xQ {J:St} {q:Nat×aZ} (hq:dD J q):∀A:List (Nat×aZ),(∀x∈A,dD J x)->∃b,cP.anyEq J (.ref q.1) (bH A)=some b/\(q.2∈A.map (·.2)->b=true):=by
 intro A0;induction A0 with
 |nil=>
  intro _;exact⟨false,rfl,fun h=>by simp at h⟩
 |cons x A ih=>
  intro h;have hx:=h x List.mem_cons_self;obtain⟨b,hb,hb2⟩:=ih fun y hy=>h y (List.mem_cons_of_mem _ hy);obtain⟨a,ha⟩:=ox hx hq;refine⟨a || b,?_,fun hm=>?_⟩
  ·exact xR ha hb
  ·rw[List.map_cons,List.mem_cons] at hm;rcases hm with hm|hm
   ·have h1:=hx.pol;rw[<-hm] at h1;have:=jZ (m:=5) h1 hq.pol;rw[ha] at this;simp only[Option.some.injEq] at this;rw[this];rfl
   ·rw[hb2 hm];simp
section
variable {W k:Nat}
theorem A5 {J:St} {r:Nat} {o:AO} (h:J[r]?=some o):r<J.length:=(List.getElem?_eq_some_iff.mp h).1
theorem yw {l:aB} {J:St} {rf wf tu v:Nat} {L M:List (Nat×aZ)} (h2:l[2]?=some (some (.ref rf))) (h7:l[7]?=some (some (.ref tu)))
  (hf:J[rf]?=some (.list (bH L) wf)) (ht:J[tu]?=some (.list (bH M) v)) (hF:ie J L) (hp:M.Perm L) (hL1:1<=L.length) (hL:L.length<=3)
  {Gl:Prop} (kk:∀J',aP (ab FT W (k+14)) W sF l J=some (.next,l,J')->aN J J'->Gl):Gl:=by
 have lim:ay=1048576:=rfl;have hFM:ie J M:=hF.perm hp;have hMl:=hp.length_eq
 refine fu (W:=W) (k:=k+13) (J:=J) ht (fun q hq=>(hFM q hq).1) (by exists L20,0x31110110111160010283110018001111824,hL1,hL,hMl) fun r1 v1 J1 A c1 e1 hr1 g1 pA sA=>?_
 refine fu (W:=W) (k:=k+13) (J:=J1) (e1.get hf) (fun q hq=>(hF q hq).1.ext e1) (by exact And.intro hL1 hL) fun r2 v2 J2 B c2 e2 hr2 g2 pB sB=>?_
 refine fu (W:=W) (k:=k+13) (J:=J2) ((e1.trans e2).get ht) (fun q hq=>(hFM q hq).1.ext (e1.trans e2)) (by exists L20,0x31110110111160010283110018001111824,hL1,hL,hMl) fun r3 v3 J3 A' c3 e3 hr3 g3 pA' sA'=>?_;have e12:=e1.trans e2;have hAB:=oP hF pA pB hp sA sB;have hlt:=A5 g1;have hne:r1≠r2:=by exists L30,0x910202800200810001836,hr2,hlt
 have hle:(bH A).length=(bH B).length:=by
  have:=congrArg List.length hAB;simpa using this
 have hcmp:cP .ne (.ref r1) (.ref r2) J2=some false:=by
  show(if r1=r2 then none else (cY J2 8 (.ref r1) (.ref r2)).map (!·))=_;rw[if_neg hne];have:cY J2 8 (.ref r1) (.ref r2)=some true:=by
   show(if r1=r2 then some true else _)=_;rw[if_neg hne,e2.get g1,g2];show(if (bH A).length=(bH B).length then de (cY J2 7) (bH A) (bH B) else some false)=_;rw[if_pos hle]
   refine pS J2 4 A B hAB (fun q hq=>?_) fun q hq=>?_
   ·exact((hFM q (pA.mem_iff.mp hq)).1.ext e12).pol
   ·exact((hF q (pB.mem_iff.mp hq)).1.ext e12).pol
  rw[this];rfl
 have a1:ev (ab FT W (k+14)) (.cmp .ne (.call bd (.aa (.var 7) .af)) (.call bd (.aa (.var 2) .af))) l J=some (.bool false,J2):=by
  refine aq (x:=.ref r1) (y:=.ref r2) (J1:=J1) ?_ ?_ hcmp
  ·exact ah (b7 (aj h7)) c1
  ·exact ah (b7 (aj h2)) c2
 have l3:fM J3 (.ref r3)=some ((L.length:Nat):Int):=by
  have:=pA'.length_eq;exact(eK g3 (by exists L40,0x10300203028002028100000611028311001848,hL,lim,hMl,this)).trans (by rw[this,hMl])
 have lf:fM J3 (.ref rf)=some ((L.length:Nat):Int):=by
  exact eK ((e12.trans e3).get hf) (gI hL rfl)
 have a2:ev (ab FT W (k+14)) (.cmp .ne (.len (.call bd (.aa (.var 7) .af))) (.len (.var 2))) l J2=some (.bool false,J3):=by
  refine aq (x:=.int (L.length:Nat)) (y:=.int (L.length:Nat)) (J1:=J3) ?_ ?_ ?_
  ·exact bz (ah (b7 (aj h7)) c3) l3
  ·exact bz (aj h2) lf
  ·rw[rU];simp
 exact kk J3 (lK (dq a1 a2)) (e12.trans e3)
theorem tU {l:aB} {tu v:Nat} {M:List (Nat×aZ)} {src:f9} (h7:l[7]?=some (some (.ref tu))) (hl:l.length=21) (hM1:1<=M.length) (hM:M.length<=3) :
  ∀(L:List (Nat×aZ)) (J:St),(∀τ,aN J τ->aI src τ=true)->J[tu]?=some (.list (bH M) v)->ie J M->(∀q∈L,q∈M)->
   ∀{Gl:Prop},(∀J',aY (aw [19] false) (iV (ab FT W (k+14)) (.cmp .ke (.var 19) (.call bd (.aa (.var 7) .af)))) (ev (ab FT W (k+14)) (.var 19)) src l (bH L) J=some ([],J')->aN J J'->Gl)->Gl:=by
 intro A0;induction A0 with
 |nil=>
  intro J _ _ _ _ _ kk;exact kk J rfl (aN.refl _)
 |cons q L ih=>
  intro J hs ht hF hm _ kk
  refine fu (W:=W) (k:=k+13) (J:=J) ht (fun q hq=>(hF q hq).1) (by exact And.intro hM1 hM) fun r1 v1 J1 A c1 e1 hr1 g1 pA sA=>?_;have hq:=hm q List.mem_cons_self;obtain⟨b,hb,hb2⟩:=xQ ((hF q hq).1.ext e1) A fun x hx=>(hF x (pA.mem_iff.mp hx)).1.ext e1;have hbt:=hb2 (List.mem_map_of_mem (pA.mem_iff.mpr hq));subst hbt
  refine ih J1 (fun τ e=>hs τ (e1.trans e)) (e1.get ht) (fun x hx=>⟨(hF x hx).1.ext e1,(hF x hx).2⟩) (fun x hx=>hm x (List.mem_cons_of_mem _ hx)) fun J' h2 e2=>?_;refine kk J' ?_ (e1.trans e2);have g19:(l.set 19 (some (.ref q.1)))[19]?=some (some (.ref q.1)):=kR (by exists L10,0x132101521002812,hl);have g7:(l.set 19 (some (.ref q.1)))[7]?=some (some (.ref tu)):=gs h7 (by decide);have hcmp:cP .ke (.ref q.1) (.ref r1) J1=some false:=by
   show(match J1[r1]? with|some (.list ds _)=>(cP.anyEq J1 (.ref q.1) ds).map (!·)|_=>none)=_;rw[g1];dsimp only;rw[hb];rfl
  have ht:iV (ab FT W (k+14)) (.cmp .ke (.var 19) (.call bd (.aa (.var 7) .af))) (l.set 19 (some (.ref q.1))) J=some (false,J1):=d6 (aq (aj g19) (ah (b7 (aj g7)) c1) hcmp);have hb:aw [19] false (.ref q.1) l=some (l.set 19 (some (.ref q.1))):=rfl;show aY _ _ _ _ _ (.ref q.1::bH L) J=_;exact j7 hb ht (hs J1 e1) h2
theorem yv {l:aB} {J:St} {rf wf tu v:Nat} {L M:List (Nat×aZ)} (h2:l[2]?=some (some (.ref rf))) (h7:l[7]?=some (some (.ref tu))) (hl:l.length=21)
  (hf:J[rf]?=some (.list (bH L) wf)) (ht:J[tu]?=some (.list (bH M) v)) (hF:ie J L) (hp:M.Perm L) (hL1:1<=L.length) (hL:L.length<=3)
  {Gl:Prop} (kk:∀J',aP (ab FT W (k+14)) W sE l J=some (.next,l,J')->aN J J'->Gl):Gl:=by
 have hMl:=hp.length_eq
 refine tU (W:=W) (k:=k) (l:=l) (src:=some (rf,wf)) h7 hl (by exists L20,0x101111001028001111824,hL1,hMl) (by exists L20,0x311101001028311001824,hL,hMl) L J (fun τ e=>dH (e.get hf) rfl) ht (hF.perm hp) (fun q hq=>hp.mem_iff.mpr hq) fun J' h1 e1=>?_;refine kk J' ?_ e1;exact lK (mU (fe (cf (aj h2) hf) (jf hL rfl) h1))
end
theorem tQ:∀t∈[(1:Int),2,-3,5],∀d∈[1,2,3],(t/(Int.gcd t (d:Nat):Nat))≠0/\(t/(Int.gcd t (d:Nat):Nat)).natAbs<=5/\0<d/Int.gcd t (d:Nat)/\d/Int.gcd t (d:Nat)<=3/\Int.gcd (t/(Int.gcd t (d:Nat):Nat)) ((d/Int.gcd t (d:Nat):Nat):Int)=1:=by decide +kernel
theorem A2 {t:Int} {d:Nat} (ht:t∈[(1:Int),2,-3,5]) (hd:d∈[1,2,3]):∃(n:Int) (dn:Nat),aV t d=qD n dn/\n≠0/\n.natAbs<=5/\0<dn/\dn<=3/\Int.gcd n dn=1:=by
 have hp:0<d:=by
  simp only[List.mem_cons,List.not_mem_nil,or_false] at hd;exists L10,0x11031100221100271110027812,hd
 exact⟨_,_,lj t hp,tQ t ht d hd⟩
section
variable {W k:Nat}
theorem yu {l:aB} {J τ:St} (hW:2^30<=W) (B:aH J τ) (h1:l[1]?=some (some (.ref 1)))
  {Gl:Prop} (kk:∀(n:Int) (dn pw:Nat) (J' τ':St),aP (ab FT W (k+14)) W sC l J=some (.next,(l.set 13 (some (qD n dn))).set 14 (some (.int (pw:Nat))),J')->aH J' τ'->Kp J J'->n≠0->n.natAbs<=5->0<dn->dn<=3->Int.gcd n dn=1->1<=pw->pw<=2->Gl):Gl:=by
 have B0:=B.app [AO.list [.int 1,.int 2,.int (-3),.int 5] 0]
 refine cq (W:=W) (k:=k+13) (m:=4) B0 (by exact Int.natCast_nonneg _) fun v J1 ht hv0 hv3 B1=>?_
 refine cq (W:=W) (k:=k+13) (m:=3) B1 (by exact Int.natCast_nonneg _) fun v2 J2 ht2 hv20 hv23 B2=>?_
 refine cq (W:=W) (k:=k+13) (m:=2) B2 (by exact Int.natCast_nonneg _) fun v3 J3 ht3 hv30 hv33 B3=>?_;have g:J1[J.length]?=some (.list [.int 1,.int 2,.int (-3),.int 5] 0):=by rw[B.len,B1.get];simp
 have kp:Kp J J3:=mM B B3 (aN.app _ _);have ht4:∃t,t∈[(1:Int),2,-3,5]/\bo J1 (.ref J.length) (.int v)=some (.int t):=by
  have hc:v=0\/v=1\/v=2\/v=3:=by exists L01,0x3110052110057111005701100574110038000114802,hv0,hv3
  rcases hc with rfl|rfl|rfl|rfl
  ·exact⟨1,by decide,bO (n:=0) g pi rfl⟩
  ·exact⟨2,by decide,bO (n:=1) g jR rfl⟩
  ·exact⟨-3,by decide,bO (n:=2) g fm rfl⟩
  ·exact⟨5,by decide,bO (n:=3) g A8 rfl⟩
 obtain⟨t,htm,hix⟩:=ht4;have hd:(1+v2).toNat∈[1,2,3]:=by
  have hc:v2=0\/v2=1\/v2=2:=by exists L01,0x211005111005701100573110038000114802,hv20,hv23
  rcases hc with rfl|rfl|rfl<;>decide
 obtain⟨n,dn,hq,hn,hn5,hdn,hdn3,hg⟩:=A2 htm hd;rw[Int.toNat_of_nonneg (by exists L01,0x11120114000114802,hv20)] at hq;have hrat:=d9 (W:=W) (n:=k+12) (J:=J2) (t:=t) (b:=1+v2) (by exists L01,0x901100111258000114802,hv20) (by omega) (by exists L21,0x100001112610750110011123600111210750011120114678311003800011480040000000811824,hW,hv20,hv23,(fa (1+v2)));rw[hq] at hrat;refine kk n dn ((1+v3).toNat) J3 _ ?_ B3 kp hn hn5 hdn hdn3 hg (by exists L11,0x11110110020110011123600111200750011120114678000114812,hv30,(ft (1+v3))) (by exists L11,0x2110010110020110011123600111200750011120114678211003812,hv33,(ft (1+v3)));rw[Int.toNat_of_nonneg (by exists L01,0x11120114000114802,hv30)];have hl4:4<ay:=by decide
 have hl2:2<ay:=by decide
 refine dO (aS (al (ah (al (ao (bR (ct (cG av (dF av (wV av) av)) hl4)) (ah (al (aj h1) av) ht) hix) (aA av (ah (al (aj h1) av) ht2) rfl)) hrat) (aA av (ah (al (aj h1) av) ht3) rfl)) hl2) rfl
theorem pN (M:List (Nat×aZ)):jp (M.map fun x=>(x,1))=M.map (·.2):=by
 induction M with
 |nil=>rfl
 |cons a M ih=>
  unfold jp at ih ⊢;simp[ih]
theorem xh (q:Nat×aZ) (M:List (Nat×aZ)) (p:Nat):bt (jp ((q,p+1)::M.map fun x=>(x,1)))=bt ((q::M++List.replicate p q).map (·.2)):=by
 refine gg ?_
 have h1:jp ((q,p+1)::M.map fun x=>(x,1))=List.replicate (p+1) q.2++M.map (·.2):=by
  show List.replicate (p+1) q.2++jp (M.map fun x=>(x,1))=_;rw[pN]
 rw[h1,List.replicate_succ,List.cons_append,List.cons_append,List.map_cons,List.map_append,List.map_replicate];exact(List.perm_append_comm).cons _
noncomputable abbrev nG:X:=.tup (.aa (.var 19) (.aa (.lit (.int 1)) .af))
theorem yt {l:aB} {J:St} {n:Int} {dn p rf wf:Nat} {q:Nat×aZ} {M:List (Nat×aZ)} (hW:2^30<=W) (h2:l[2]?=some (some (.ref rf))) (h13:l[13]?=some (some (qD n dn))) (h14:l[14]?=some (some (.int ((p+1:Nat):Int)))) (hl:l.length=21)
  (hf:J[rf]?=some (.list (bH (q::M)) wf)) (hF:ie J (q::M)) (hM:M.length<=2) (hn:n≠0) (hd:0<dn) (hd':dn<=3) (hg:Int.gcd n dn=1) (hp:p<=1)
  {Gl:Prop} (kk:∀r J',aP (ab FT W (k+14)) W sz l J=some (.next,l.set 15 (some (.ref r)),J')->aN J J'->ar n dn (bt ((q::M++List.replicate p q).map (·.2))) r J'->Gl):Gl:=by
 have lim:ay=1048576:=rfl;have e1:=aN.app J [AO.list [.tup [.ref q.1,.int ((p+1:Nat):Int)]] 0];generalize hJ1:J++[AO.list [.tup [.ref q.1,.int ((p+1:Nat):Int)]] 0]=J1 at *;have g1:J1[J.length]?=some (.list [.tup [.ref q.1,.int ((p+1:Nat):Int)]] 0):=by rw[<-hJ1];exact ai _ _
 have e2:=aN.app J1 [AO.list (bH M) 0];have g2:=ai J1 (AO.list (bH M) 0);generalize hJ2:J1++[AO.list (bH M) 0]=J2 at *
 have e3:=aN.app J2 [AO.list (M.map fun x=>.tup [.ref x.1,.int 1]) 0]
 have g3:=ai J2 (AO.list (M.map fun x=>.tup [.ref x.1,.int 1]) 0)
 generalize hJ3:J2++[AO.list (M.map fun x=>.tup [.ref x.1,.int 1]) 0]=J3 at *
 have hpairs:[D.tup [.ref q.1,.int ((p+1:Nat):Int)]]++(M.map fun x=>D.tup [.ref x.1,.int 1])=(((q,p+1)::M.map fun x=>(x,1)):List ((Nat×aZ)×Nat)).map fun x=>.tup [.ref x.1.1,.int (x.2:Nat)]:=by
  rw[List.map_cons,List.map_map];rfl
 have e4:=aN.app J3 [AO.list ([D.tup [.ref q.1,.int ((p+1:Nat):Int)]]++(M.map fun x=>D.tup [.ref x.1,.int 1])) 0]
 have g4:=ai J3 (AO.list ([D.tup [.ref q.1,.int ((p+1:Nat):Int)]]++(M.map fun x=>D.tup [.ref x.1,.int 1])) 0)
 generalize hJ4:J3++[AO.list ([D.tup [.ref q.1,.int ((p+1:Nat):Int)]]++(M.map fun x=>D.tup [.ref x.1,.int 1])) 0]=J4 at *;rw[hpairs] at g4;have e14:=((e1.trans e2).trans e3).trans e4
 have hpol:∀x∈q::M,ar 1 1 (T x.2 cw) x.1 J4/\x.2.Ok:=fun x hx=>(hF.forms.ext e14) x hx
 have hexl:(jp ((q,p+1)::M.map fun x=>(x,1))).length<=8:=by
  show(List.replicate (p+1) q.2++jp (M.map fun x=>(x,1))).length<=8;rw[pN,List.length_append,List.length_replicate,List.length_map];exists L20,0x81100111102211111018211001824,hM,hp
 refine yS (W:=W) (k:=k+9) (J:=J4) (n:=n) (dn:=dn) (ip:=J3.length) (wp:=0) (L:=(q,p+1)::M.map fun x=>(x,1)) hW hn hd (by exact Nat.lt_of_le_of_lt hd' (by decide)) hg g4 (fun x hx=>by
  rcases List.mem_cons.mp hx with rfl|hx
  ·exact hpol q List.mem_cons_self
  ·obtain⟨y,hy,rfl⟩:=List.mem_map.mp hx
   exact hpol y (List.mem_cons_of_mem _ hy)) hexl fun r J' h5 e5 p5=>?_
 rw[xh] at p5;refine kk r J' ?_ (e14.trans e5) p5;have h5':ab FT W (k+14) dN [qD n dn,.ref J3.length] J4=some (.ref r,J'):=h5;have i0:bo J (.ref rf) (.int 0)=some (.ref q.1):=by
  exact bO (n:=0) hf pi rfl
 have hc:=el (bind:=aw [19] false) (elt:=ev (ab FT W (k+14)) nG) (src:=some (J1.length,0)) (l:=l) (J:=J2) (fun x:Nat×aZ=>D.ref x.1) (fun x=>.tup [.ref x.1,.int 1]) (dH g2 rfl) M (fun x hx=>by
  refine⟨l.set 19 (some (.ref x.1)),rfl,?_⟩;have g19:(l.set 19 (some (.ref x.1)))[19]?=some (some (.ref x.1)):=kR (by exists L10,0x132101521002812,hl);exact aS (al (aj g19) av) (show 2<ay by decide))
 have hs:(List.take (bH (q::M)).length (bH (q::M))).drop 1=bH M:=by rw[List.take_length];rfl
 have hle:(bH (q::M)).length<ay:=by rw[List.length_map,List.length_cons];exists L20,0x101110020100000611028211001824,hM,lim
 have hL0:di (ab FT W (k+14)) (.lsl (.var 2) (some 1) none) l J1=some (bH M,J1):=by
  exact(tg (lo:=some 1) (hi:=none) (aj h2) (e1.get hf) hle).trans (by rw[Option.getD_none,Option.getD_some,hs])
 have hit:eA (ab FT W (k+14)) (.ix (.lst (.lsl (.var 2) (some 1) none))) l J1=some (bH M,some (J1.length,0),J2):=by
  exact cf ((bR hL0).trans (by rw[hJ2])) g2
 have hL:di (ab FT W (k+14)) (.aE nG [19] false (.ix (.lst (.lsl (.var 2) (some 1) none))) none) l J1=some (M.map fun x=>.tup [.ref x.1,.int 1],J2):=cH hit (jf hM rfl) hc;have a1:ev (ab FT W (k+14)) (.lst (.cC (.aa (.tup (.aa (.idx (.var 2) (.lit (.int 0))) (.aa (.var 14) .af))) .af))) l J=some (.ref J.length,J1):=by
  rw[<-hJ1];exact bR (ct (b7 (aS (al (ao (aj h2) av i0) (aj h14)) (show 2<ay by decide))) (show 1<ay by decide))
 have a2:ev (ab FT W (k+14)) (.lst (.aE nG [19] false (.ix (.lst (.lsl (.var 2) (some 1) none))) none)) l J1=some (.ref J2.length,J3):=by
  exact(bR hL).trans (by rw[hJ3])
 have hb:dW .add (.ref J.length) (.ref J2.length) J3=some (.ref J3.length,J4):=by
  exact(jD (e3.get (e2.get g1)) g3 (by rw[List.length_map,List.length_singleton];exists L20,0x100011120100000611028211001824,hM,lim)).trans (by rw[hJ4])
 have v13:ev (ab FT W (k+14)) (.var 13) l J=some (qD n dn,J):=aj h13;have a3:ev (ab FT W (k+14)) (.bin .add (.lst (.cC (.aa (.tup (.aa (.idx (.var 2) (.lit (.int 0))) (.aa (.var 14) .af))) .af))) (.lst (.aE nG [19] false (.ix (.lst (.lsl (.var 2) (some 1) none))) none))) l J=some (.ref J3.length,J4):=aA a1 a2 hb;exact aD (ah (al v13 a3) h5')
theorem yq {l:aB} {J:St} {p rf wf:Nat} {q:Nat×aZ} {M:List (Nat×aZ)} (h2:l[2]?=some (some (.ref rf))) (h14:l[14]?=some (some (.int ((p+1:Nat):Int))))
  (hf:J[rf]?=some (.list (bH (q::M)) wf)) (hF:ie J (q::M)) (hM:M.length<=2) (hp:p<=1)
  {Gl:Prop} (kk:∀r J',aP (ab FT W (k+14)) W sw l J=some (.next,l.set 16 (some (.ref r)),J')->aN J J'->J.length<=r->ar 1 1 (bt ((q::M++List.replicate p q).map (·.2))) r J'->Gl):Gl:=by
 have lim:ay=1048576:=rfl;have e1:=aN.app J [AO.list (List.replicate p (.ref q.1)) 0];have g1:=ai J (AO.list (List.replicate p (.ref q.1)) 0);generalize hJ1:J++[AO.list (List.replicate p (.ref q.1)) 0]=J1 at *;have hx:bH (q::M)++List.replicate p (.ref q.1)=bH (q::M++List.replicate p q):=by
  rw[bH,bH,List.map_append,List.map_replicate]
 have e2:=aN.app J1 [AO.list (bH (q::M)++List.replicate p (.ref q.1)) 0];have g2:=ai J1 (AO.list (bH (q::M)++List.replicate p (.ref q.1)) 0);generalize hJ2:J1++[AO.list (bH (q::M)++List.replicate p (.ref q.1)) 0]=J2 at *;rw[hx] at g2;have e12:=e1.trans e2
 refine cW (W:=W) (k:=k+13) (J:=J2) (L:=q::M++List.replicate p q) g2 (fun x hx=>by
  refine(hF.forms.ext e12) x ?_;rcases List.mem_append.mp hx with hx|hx
  ·exact hx
  ·rw[(List.mem_replicate.mp hx).2];exact List.mem_cons_self) (by simp;exists L20,0x7111000211111018211001824,hM,hp) fun r J' h3 e3 hr p3=>?_
 have hlen:J.length<=J2.length:=by rw[<-hJ2,<-hJ1];simp
 refine kk r J' ?_ (e12.trans e3) (by exact Nat.le_trans hlen hr) p3;have h3':ab FT W (k+14) bL [.ref J1.length] J2=some (.ref r,J'):=h3;have i0:bo J (.ref rf) (.int 0)=some (.ref q.1):=by
  exact bO (n:=0) hf pi rfl
 have hsub:((p+1:Nat):Int)-1=(p:Int):=by exists L10,0x711111100275512
 have hpl:((p:Nat):Int).natAbs<ay:=by exact Nat.lt_of_le_of_lt hp (by decide)
 have hb:dW .add (.ref rf) (.ref J.length) J1=some (.ref J1.length,J2):=by
  exact(jD (e1.get hf) g1 (by rw[List.length_map,List.length_replicate,List.length_cons];exists L30,0x2010111002201000006120281111018211001836,hM,hp,lim)).trans (by rw[hJ2])
 have a1:ev (ab FT W (k+14)) (.rep (.idx (.var 2) (.lit (.int 0))) (.bin .sub (.var 14) (.lit (.int 1)))) l J=some (.ref J.length,J1):=by
  refine(ot (ao (aj h2) av i0) (aA (aj h14) av (show dW .sub (.int ((p+1:Nat):Int)) (.int 1) J=some (.int p,J) from congrArg (fun n:Int=>some (D.int n,J)) hsub)) hpl).trans ?_;rw[Int.toNat_natCast,hJ1]
 exact aD (ah (b7 (aA (aj h2) a1 hb)) h3')
theorem yp {l:aB} {J:St} {n:Int} {dn r:Nat} {c:Cf} (hW:2^30<=W) (hd:0<dn) (hd':dn<=3) (hn:n≠0) (hn':n.natAbs<=5) (hi:ar 1 1 c r J) (bx:jK c)
  (h16:l[16]?=some (some (.ref r))) (h13:l[13]?=some (some (qD n dn))) (hl:l.length=21)
  {Gl:Prop} (kk:∀J',aP (ab FT W (k+14)) W sv l J=some (.next,l.set 17 (some (.ref J.length)),J')->aN J J'->ar n dn c J.length J'->Gl):Gl:=by
 refine tA (W:=W) (k:=k+12) hW hd (by exact Nat.lt_of_le_of_lt hd' (by decide)) hn (by exact Nat.lt_of_le_of_lt hn' (by decide)) hi bx h16 h13 hl fun J' h1 e1 p1=>?_;refine kk J' ?_ e1 p1;exact aD h1
end
theorem kA {J:St} {a b:Int} {i j:Nat} (h:cY J 7 (.ref i) (.ref j)=some true):cP .ne (.tup [qD a b,.ref i]) (.tup [qD a b,.ref j]) J=some false:=by
 have h1:cY J 7 (qD a b) (qD a b)=some true:=w9 J 5 a b;have h2:cY J 8 (.tup [qD a b,.ref i]) (.tup [qD a b,.ref j])=some true:=by
  rw[show(8:Nat)=7+1 from rfl,ow];generalize qD a b=x at *;exact bK h1 (bK h rfl)
 show(cY J 8 (.tup [qD a b,.ref i]) (.tup [qD a b,.ref j])).map (!·)=_;rw[h2];rfl
theorem qw {p:aZ} {ps:List aZ} (h:∀q∈p::ps,q.Ok):∃X Y,gD X Y (bt (p::ps))/\0<X+Y:=by
 have h':∀q∈ps,q.Ok:=fun q hq=>h q (List.mem_cons_of_mem _ hq);obtain⟨X,Y,l⟩:=fR h';have ok:=h p List.mem_cons_self;have hs:=cO h' X Y (by rw[l.1];decide);have he:=ok.e;exact⟨_,_,l.T ok,by exists L13,0x201021110022011311120501120578007104100114600700460001146816,hs,he⟩
theorem sW {c:Cf} {K:Nat} {n:Int} (b:oH K c) (hK:K<=8) (hn:n.natAbs<=5) (x y:Int):(c x y*n).natAbs<2^30:=by
 have:=b.lt hK x y;rw[Int.natAbs_mul];have:(c x y).natAbs*n.natAbs<=1679616*5:=Nat.mul_le_mul this hn;omega
section
variable {W k:Nat}
theorem yo {l:aB} {J:St} {n X Y:Int} {dn r15 r16 r17 K:Nat} {c:Cf} (hW:2^30<=W) (hn:n≠0) (hn':n.natAbs<=5) (hd:0<dn) (hd':dn<=3) (hg:Int.gcd n dn=1)
  (h13:l[13]?=some (some (qD n dn))) (h15:l[15]?=some (some (.ref r15))) (h16:l[16]?=some (some (.ref r16))) (h17:l[17]?=some (some (.ref r17)))
  (p15:ar n dn c r15 J) (p16:ar 1 1 c r16 J) (p17:ar n dn c r17 J) (hne:r15≠r17) (sc:cv K c) (bc:oH K c) (hK:K<=8) (hL:gD X Y c)
  {Gl:Prop} (kk:∀J',aP (ab FT W (k+14)) W su l J=some (.next,l,J')->aN J J'->Gl):Gl:=by
 have v13:∀J,ev (ab FT W (k+14)) (.var 13) l J=some (qD n dn,J):=fun J=>aj h13
 have v15:∀J,ev (ab FT W (k+14)) (.var 15) l J=some (.ref r15,J):=fun J=>aj h15
 have v16:∀J,ev (ab FT W (k+14)) (.var 16) l J=some (.ref r16,J):=fun J=>aj h16
 have v17:∀J,ev (ab FT W (k+14)) (.var 17) l J=some (.ref r17,J):=fun J=>aj h17;have a1:ev (ab FT W (k+14)) (.cmp .ne (.var 15) (.var 17)) l J=some (.bool false,J):=aq (v15 J) (v17 J) (dA hne p15 p17)
 refine et (W:=W) (k:=k+9) (J:=J) hW hd (by exact Nat.lt_of_le_of_lt hd' (by decide)) hn (by exact Nat.lt_of_le_of_lt hn' (by decide)) hg (sW bc hK hn') (sc.box hK) hL p15 fun r J1 h1 e1 hr p1=>?_;have h1':ab FT W (k+14) be [.ref r15] J=some (.tup [qD n dn,.ref r],J1):=h1;have l2:2<ay:=by decide
 have a2:ev (ab FT W (k+14)) (.cmp .ne (.call be (.aa (.var 15) .af)) (.tup (.aa (.var 13) (.aa (.var 16) .af)))) l J=some (.bool false,J1):=by
  refine aq (x:=.tup [qD n dn,.ref r]) (y:=.tup [qD n dn,.ref r16]) (J1:=J1) ?_ ?_ (kA (jZ (m:=4) p1 (p16.ext e1)))
  ·exact ah (b7 (v15 J)) h1'
  ·exact aS (al (v13 J1) (v16 J1)) l2
 have e2:=aN.app J1 [AO.dict [] 0];have g2:=ai J1 (AO.dict [] 0);generalize hJ2:J1++[AO.dict [] 0]=J2 at *;have h3:=k4 (W:=W) (k:=k+13) (i:=J1.length) (w:=0) g2;have h3':ab FT W (k+14) be [.ref J1.length] J2=_:=h3;have e3:=aN.app J2 [AO.dict [] 0];have g3:=ai J2 (AO.dict [] 0);generalize hJ3:J2++[AO.dict [] 0]=J3 at *;have e4:=aN.app J3 [AO.dict [] 0];have g4:=ai J3 (AO.dict [] 0);generalize hJ4:J3++[AO.dict [] 0]=J4 at *
 have pz2:ar 1 1 (fun _ _=>0) J2.length J4:=⟨[],0,e4.get g3,cy.nil⟩
 have pz3:ar 1 1 (fun _ _=>0) J3.length J4:=⟨[],0,g4,cy.nil⟩;have a3:ev (ab FT W (k+14)) (.cmp .ne (.call be (.aa (.dict .af) .af)) (.tup (.aa (.tup (.aa (.lit (.int 0)) (.aa (.lit (.int 1)) .af))) (.aa (.dict .af) .af)))) l J1=some (.bool false,J4):=by
  refine aq (x:=.tup [qD 0 1,.ref J2.length]) (y:=.tup [qD 0 1,.ref J3.length]) (J1:=J3) ?_ ?_ (kA (jZ (m:=4) pz2 pz3))
  ·exact ah (b7 (cQ fw (by decide) rfl)) (by rw[hJ2];exact h3')
  ·rw[<-hJ4];exact aS (al (aS (al av av) l2) (cQ fw (by decide) rfl)) l2
 exact kk J4 (lK (dq a1 (dq a2 a3))) (((e1.trans e2).trans e3).trans e4)
theorem yn {l:aB} {J:St} {n:Int} {dn r16 r17 K:Nat} {c:Cf} (hW:2^30<=W) (hn:n≠0) (hn':n.natAbs<=5) (hd:0<dn) (hd':dn<=3) (hg:Int.gcd n dn=1)
  (h13:l[13]?=some (some (qD n dn))) (h16:l[16]?=some (some (.ref r16))) (h17:l[17]?=some (some (.ref r17)))
  (p16:ar 1 1 c r16 J) (p17:ar n dn c r17 J) (sc:cv K c) (hK:K<=8)
  {Gl:Prop} (kk:∀J',aP (ab FT W (k+14)) W sn l J=some (.next,l,J')->aN J J'->Gl):Gl:=by
 have v13:∀J,ev (ab FT W (k+14)) (.var 13) l J=some (qD n dn,J):=fun J=>aj h13
 have v16:∀J,ev (ab FT W (k+14)) (.var 16) l J=some (.ref r16,J):=fun J=>aj h16
 have v17:∀J,ev (ab FT W (k+14)) (.var 17) l J=some (.ref r17,J):=fun J=>aj h17;obtain⟨es,w16,g16,pe⟩:=id p16;have e1:=aN.app J [AO.dict [([0,0],qD n dn)] 0];have g1:=ai J (AO.dict [([0,0],qD n dn)] 0);have hd1:eF [D.tup [.int 0,.int 0],qD n dn] []=some [([0,0],qD n dn)]:=rfl;have l2:2<ay:=by decide
 have l16:2<16:=by decide
 have hdict:∀J,ev (ab FT W (k+14)) (.dict (.aa (.tup (.aa (.lit (.int 0)) (.aa (.lit (.int 0)) .af))) (.aa (.var 13) .af))) l J=some (.ref J.length,J++[AO.dict [([0,0],qD n dn)] 0]):=fun J=>cQ (al (aS (al av av) l2) (aj h13)) l16 hd1
 have hnil:∀J,ev (ab FT W (k+14)) (.dict .af) l J=some (.ref J.length,J++[AO.dict [] 0]):=fun J=>cQ fw (by decide) rfl;generalize hJ1:J++[AO.dict [([0,0],qD n dn)] 0]=J1 at *
 refine dI (W:=W) (k:=k+10) (J:=J1) (n:=1) (d:=1) (n':=n) (d':=dn) hW (by exists L00,0x90111115800) hn (by exact Int.le_refl _) (by exact Int.natCast_pos.mpr hd) (by omega) pe (e1.get g16) (iy hd hg) g1 (fun x y=>by
  have:=sW (K:=0) (n:=n) gu (by exact Nat.zero_le _) hn' x y;omega) sc bM (by omega) fun r J2 h2 e2 hr p2=>?_
 rw[lZ pe,Int.one_mul,Int.one_mul] at p2;have h2':ab FT W (k+14) ax [.ref r16,.ref J.length] J1=some (.ref r,J2):=h2;have e12:=e1.trans e2;have hlt:r17<J1.length:=(p17.ext e1).lt;have a1:ev (ab FT W (k+14)) (.cmp .ne (.call ax (.aa (.var 16) (.aa (.dict (.aa (.tup (.aa (.lit (.int 0)) (.aa (.lit (.int 0)) .af))) (.aa (.var 13) .af))) .af))) (.var 17)) l J=some (.bool false,J2):=by
  refine aq (x:=.ref r) (y:=.ref r17) (J1:=J2) ?_ (v17 J2) (dA (by exists L30,0x920102800200810001836,hr,hlt) p2 (p17.ext e12));exact ah (al (v16 J) ((hdict J).trans (by rw[hJ1]))) h2'
 have e3:=aN.app J2 [AO.dict [] 0];have g3:=ai J2 (AO.dict [] 0);have hnil2:=hnil J2;generalize hJ3:J2++[AO.dict [] 0]=J3 at *
 refine dI (W:=W) (k:=k+10) (J:=J3) (n:=1) (d:=1) (n':=1) (d':=1) (kb:=0) hW (by exists L00,0x90111115800) (by exists L00,0x90111115800) (by exact Int.le_refl _) (by exact Int.le_refl _) (by exact Int.natCast_nonneg _) pe ((e12.trans e3).get g16) cy.nil g3 (fun x y=>by simp) sc (fun x y h=>absurd rfl h) (by omega) fun r' J4 h4 e4 hr4 p4=>?_;rw[uK,Int.one_mul] at p4;have h4':ab FT W (k+14) ax [.ref r16,.ref J2.length] J3=some (.ref r',J4):=h4;have e5:=aN.app J4 [AO.dict [] 0];have g5:=ai J4 (AO.dict [] 0);have hlt4:=p4.lt;have a2:ev (ab FT W (k+14)) (.cmp .ne (.call ax (.aa (.var 16) (.aa (.dict .af) .af))) (.dict .af)) l J2=some (.bool false,J4++[AO.dict [] 0]):=by
  refine aq (x:=.ref r') (y:=.ref J4.length) (J1:=J4) ?_ (hnil J4) (dA (n:=1) (d:=1) (c:=fun _ _=>0) (by exact Nat.ne_of_lt hlt4) (p4.ext e5) ⟨[],0,g5,cy.nil⟩);exact ah (al (v16 J2) hnil2) h4'
 exact kk _ (lK (dq a1 a2)) (((e12.trans e3).trans e4).trans e5)
theorem ym {l:aB} {J:St} {n:Int} {dn r6 r17:Nat} {A B:List aZ} (hW:2^30<=W) (hn:n≠0) (hn':n.natAbs<=5) (hd:0<dn) (hd':dn<=3)
  (h6:l[6]?=some (some (.ref r6))) (h17:l[17]?=some (some (.ref r17)))
  (p6:ar 1 1 (bt A) r6 J) (p17:ar n dn (bt B) r17 J) (okA:∀p∈A,p.Ok) (okB:∀p∈B,p.Ok) (hlen:A.length+B.length<=8)
  {Gl:Prop} (kk:∀J',aP (ab FT W (k+14)) W sm l J=some (.next,l,J')->aN J J'->Gl):Gl:=by
 have v6:∀J,ev (ab FT W (k+14)) (.var 6) l J=some (.ref r6,J):=fun J=>aj h6
 have v17:∀J,ev (ab FT W (k+14)) (.var 17) l J=some (.ref r17,J):=fun J=>aj h17;obtain⟨es,w6,g6,pe⟩:=id p6;obtain⟨fs,w17,g17,pf⟩:=id p17
 refine dI (W:=W) (k:=k+10) (J:=J) (n:=n) (d:=dn) (n':=1) (d':=1) hW hn (by exists L00,0x90111115800) (by exact Int.natCast_pos.mpr hd) (by exact Int.le_refl _) (by omega) pf g17 pe g6 (fun x y=>by
  have:=sW (n:=1) (fS okA) (by exact Nat.le_trans (Nat.le_add_right _ _) hlen) (by exact Nat.succ_pos _) x y;omega) (cO okB) (cO okA) (by exists L20,0x811001021811100021824,hlen) fun r J1 h1 e1 hr p1=>?_
 rw[nj pf,Int.mul_one,Int.mul_one] at p1
 refine dI (W:=W) (k:=k+10) (J:=J1) (n:=1) (d:=1) (n':=n) (d':=dn) hW (by exists L00,0x90111115800) hn (by exact Int.le_refl _) (by exact Int.natCast_pos.mpr hd) (by omega) pe (e1.get g6) pf (e1.get g17) (fun x y=>by
  have:=sW (n:=n) (fS okB) (by exact Nat.le_trans (Nat.le_add_left _ _) hlen) hn' x y;omega) (cO okA) (cO okB) hlen fun r' J2 h2 e2 hr2 p2=>?_
 rw[nj pe,Int.one_mul,Int.one_mul,gg (List.perm_append_comm (l₁:=B) (l₂:=A))] at p2;have h1':ab FT W (k+14) ax [.ref r17,.ref r6] J=some (.ref r,J1):=h1;have h2':ab FT W (k+14) ax [.ref r6,.ref r17] J1=some (.ref r',J2):=h2;have hlt:=p1.lt;refine kk J2 (lK (aq (x:=.ref r) (y:=.ref r') (J1:=J1) ?_ ?_ (dA (by exists L30,0x910202800200810001836,hr2,hlt) (p1.ext e2) p2))) (e1.trans e2)
 ·exact ah (al (v17 J) (v6 J)) h1'
 ·exact ah (al (v6 J1) (v17 J1)) h2'
theorem yl {l:aB} {J:St} {n:Int} {dn r16:Nat} (h13:l[13]?=some (some (qD n dn))) (h16:l[16]?=some (some (.ref r16))) :
  aP (ab FT W (k+14)) W sk l J=some (.next,l.set 18 (some (.tup [.ref J.length,.ref (J.length+1),.ref r16,.ref (J.length+2)])),J++[.dict [] 0,.dict [([0,0],qD n dn)] 0,.dict [([0,1],qD 1 1)] 0]):=by
 have hd1:eF [D.tup [.int 0,.int 0],qD n dn] []=some [([0,0],qD n dn)]:=rfl;have l2:2<ay:=by decide
 have l16:2<16:=by decide
 have h:=aS (cG (cQ (C:=ab FT W (k+14)) (l:=l) (J:=J) fw (by decide) rfl) (dF (cQ (al (aS (al av av) l2) (aj h13)) l16 hd1) (aj h16) (cQ (al (aS (al (x:=.int 0) (y:=.int 1) av av) l2) (aS (al (x:=.int 1) (y:=.int 1) av av) l2)) l16 rfl))) (show 4<ay by decide);simp only[List.append_assoc,List.cons_append,List.nil_append,List.length_append,List.length_cons,List.length_nil,Nat.zero_add,Nat.reduceAdd] at h;exact aD h
theorem yk {l:aB} {J:St} {n X Y:Int} {dn a b r16 e:Nat} {c:Cf} (hd:0<dn) (hg:Int.gcd n dn=1) (bx:jK c) (hL:gD X Y c) (hXY:0<X+Y)
  (h18:l[18]?=some (some (.tup [.ref a,.ref b,.ref r16,.ref e]))) (hl:l.length=21)
  (ga:J[a]?=some (.dict [] 0)) (gb:J[b]?=some (.dict [([0,0],qD n dn)] 0)) (p16:ar 1 1 c r16 J) (ge:J[e]?=some (.dict [([0,1],qD 1 1)] 0))
  {Gl:Prop} (kk:∀J',aP (ab FT W (k+14)) W sj l J=some (.ret (.bool true),l,J')->Gl):Gl:=by
 have pa:ar 1 1 (fun _ _=>0) a J:=⟨[],0,ga,cy.nil⟩;have pb:ar n dn cw b J:=⟨_,0,gb,iy hd hg⟩
 have pe:ar 1 1 (fG (fun _ _=>0) 0 1 1) e J:=by
  have h:=(cy.nil (n:=1) (d:=1)).put (x:=0) (y:=1) (v:=1) (by decide);rw[Int.mul_one,aF] at h;exact⟨_,0,ge,h⟩
 have na:=nK (W:=W) (k:=k+13) pa (fun x y h=>absurd rfl h)
 have nb:=nK (W:=W) (k:=k+13) pb (fun x y h=>by have:=bM x y h;exists L02,0x11105011005601171041001146011700460001146804,this);have nc:=qK (W:=W) (k:=k+13) p16 bx (x:=X) (y:=Y) (by rw[hL.1];decide) hXY
 have ne:=qK (W:=W) (k:=k+13) pe (jK.upd (fun x y h=>absurd rfl h) (by exists L00,0x911111311101146911011360110114600)) (x:=0) (y:=1) (by decide) (by decide)
 have hc:=el (bind:=aw [19] false) (elt:=ev (ab FT W (k+14)) (.call aQ (.aa (.var 19) .af))) (src:=none) (l:=l) (J:=J) (fun x:Nat×Bool=>.ref x.1) (fun x=>.bool x.2) rfl [(a,true),(b,true),(r16,false),(e,false)] (fun x hx=>by
  refine⟨l.set 19 (some (.ref x.1)),rfl,?_⟩;have g19:(l.set 19 (some (.ref x.1)))[19]?=some (some (.ref x.1)):=kR (by exists L10,0x132101521002812,hl);have key:ab FT W (k+14) aQ [.ref x.1] J=some (.bool x.2,J):=by
   simp only[List.mem_cons,List.not_mem_nil,or_false] at hx;rcases hx with rfl|rfl|rfl|rfl
   ·exact na
   ·exact nb
   ·exact nc
   ·exact ne
  exact ah (b7 (aj g19)) key)
 have hit:eA (ab FT W (k+14)) (.ix (.var 18)) l J=some ([.ref a,.ref b,.ref r16,.ref e],none,J):=jt (aj h18);have l4:4<ay:=by decide
 have hLc:di (ab FT W (k+14)) (.aE (.call aQ (.aa (.var 19) .af)) [19] false (.ix (.var 18)) none) l J=some ([.bool true,.bool true,.bool false,.bool false],J):=cH hit l4 hc;have g1:=ai J (AO.list [.bool true,.bool true,.bool false,.bool false] 0);have e2:=aN.app (J++[AO.list [.bool true,.bool true,.bool false,.bool false] 0]) [AO.list [.bool true,.bool true,.bool false,.bool false] 0];have g2:=ai (J++[AO.list [.bool true,.bool true,.bool false,.bool false] 0]) (AO.list [.bool true,.bool true,.bool false,.bool false] 0);have hlen:(J++[AO.list [.bool true,.bool true,.bool false,.bool false] 0]).length=J.length+1:=by simp
 rw[hlen] at g2;have hcmp:cP .eq (.ref J.length) (.ref (J.length+1)) ((J++[AO.list [.bool true,.bool true,.bool false,.bool false] 0])++[AO.list [.bool true,.bool true,.bool false,.bool false] 0])=some true:=by
  show(if J.length=J.length+1 then none else (if J.length=J.length+1 then some true else _))=_;rw[if_neg (by exists L10,0x9111002002812),if_neg (by exists L10,0x9111002002812),e2.get g1,g2];rfl
 refine kk _ (bk (aq (x:=.ref J.length) (y:=.ref (J.length+1)) (J1:=J++[AO.list [.bool true,.bool true,.bool false,.bool false] 0]) ?_ ?_ hcmp))
 ·exact bR hLc
 ·rw[<-hlen];exact bR (ct (cG av (dF av av av)) l4)
end
noncomputable def dC (W k:Nat) (R:XS) (l:aB) (J:St):Prop:=∃l' J',aP (ab FT W (k+14)) W R l J=some (.ret (.bool true),l',J')
theorem dC.seq {W k:Nat} {a R:XS} {l l1:aB} {J J1:St} (h:aP (ab FT W (k+14)) W a l J=some (.next,l1,J1)) (g:dC W k R l1 J1):dC W k (.seq a R) l J:=by
 obtain⟨l',J',g⟩:=g;exact⟨l',J',ag h g⟩
section
variable {W k:Nat}
noncomputable abbrev vm:XS:=.seq sC (.seq sz (.seq sw (.seq sv (.seq su (.seq sn (.seq sm (.seq sk sj)))))))
theorem Bk {l:aB} {J τ:St} {rf wf wh:Nat} {q:Nat×aZ} {L:List (Nat×aZ)} (hW:2^30<=W) (B:aH J τ) (h1:l[1]?=some (some (.ref 1))) (h2:l[2]?=some (some (.ref rf))) (h6:l[6]?=some (some (.ref wh))) (hl:l.length=21)
  (hrf:2<=rf) (hwh:2<=wh) (hf:J[rf]?=some (.list (bH (q::L)) wf)) (hF:ie J (q::L)) (hL:L.length<=2) (pw:ar 1 1 (bt ((q::L).map (·.2))) wh J):dC W k vm l J:=by
 refine yu (W:=W) (k:=k) hW B h1 fun n dn pp J18 τ18 c18 B18 k18 hn hn5 hd hd3 hg hp1 hp2=>?_;obtain⟨p,rfl⟩:∃p,pp=p+1:=⟨pp-1,by exists L20,0x1111020020111021110006001111022001111678001111824,hp1,(fs (pp) (1))⟩;refine dC.seq c18 ?_;have m2:((l.set 13 (some (qD n dn))).set 14 (some (.int ((p+1:Nat):Int))))[2]?=some (some (.ref rf)):=gs (gs h2 (by decide)) (by decide);have m6:((l.set 13 (some (qD n dn))).set 14 (some (.int ((p+1:Nat):Int))))[6]?=some (some (.ref wh)):=gs (gs h6 (by decide)) (by decide);have m13:((l.set 13 (some (qD n dn))).set 14 (some (.int ((p+1:Nat):Int))))[13]?=some (some (qD n dn)):=gs (kR (by exists L10,0xd1101521002812,hl)) (by decide);have m14:((l.set 13 (some (qD n dn))).set 14 (some (.int ((p+1:Nat):Int))))[14]?=some (some (.int ((p+1:Nat):Int))):=kR (by rw[List.length_set];exists L10,0xe1101521002812,hl);have ml:((l.set 13 (some (qD n dn))).set 14 (some (.int ((p+1:Nat):Int)))).length=21:=by rw[List.length_set,List.length_set];exact hl
 clear c18;generalize (l.set 13 (some (qD n dn))).set 14 (some (.int ((p+1:Nat):Int)))=m at *;have hf18:=k18 _ _ hrf hf;have hF18:=hF.kp k18;have pw18:=pw.kp hwh k18;have hlen:((q::L++List.replicate p q).map (·.2)).length<=4:=by simp;exists L20,0x31110002121111110218211001824,hL,hp2
 have okD:∀x∈(q::L++List.replicate p q).map (·.2),x.Ok:=fun x hx=>by
  obtain⟨y,hy,rfl⟩:=List.mem_map.mp hx;have okL:=hF.par;rcases List.mem_append.mp hy with hy|hy
  ·exact okL _ (List.mem_map_of_mem hy)
  ·rw[(List.mem_replicate.mp hy).2];exact okL _ (List.mem_map_of_mem List.mem_cons_self)
 refine yt (W:=W) (k:=k) (l:=m) hW m2 m13 m14 ml hf18 hF18 hL hn hd hd3 hg (by exact Nat.le_of_lt_succ hp2) fun r15 J19 c19 e19 p15=>?_;have hD:∃a A,(q::L++List.replicate p q).map (·.2)=a::A:=⟨q.2,(L++List.replicate p q).map (·.2),rfl⟩;refine dC.seq c19 ?_
 refine yq (W:=W) (k:=k) (l:=m.set 15 (some (.ref r15))) (gs m2 (by decide)) (gs m14 (by decide)) (e19.get hf18) (fun x hx=>⟨(hF18 x hx).1.ext e19,(hF18 x hx).2⟩) hL (by exact Nat.le_of_lt_succ hp2) fun r16 J20 c20 e20 hr16 p16=>?_;refine dC.seq c20 ?_;generalize hDp:(q::L++List.replicate p q).map (·.2)=Dp at *;obtain⟨a,A,rfl⟩:=hD;have sD:=cO okD;have bD:=fS okD;obtain⟨X,Y,lead,hXY⟩:=qw okD;have n6:((m.set 15 (some (.ref r15))).set 16 (some (.ref r16)))[6]?=some (some (.ref wh)):=gs (gs m6 (by decide)) (by decide);have n13:((m.set 15 (some (.ref r15))).set 16 (some (.ref r16)))[13]?=some (some (qD n dn)):=gs (gs m13 (by decide)) (by decide);have n15:((m.set 15 (some (.ref r15))).set 16 (some (.ref r16)))[15]?=some (some (.ref r15)):=gs (kR (by exists L10,0xf1101521002812,ml)) (by decide);have n16:((m.set 15 (some (.ref r15))).set 16 (some (.ref r16)))[16]?=some (some (.ref r16)):=kR (by rw[List.length_set];exists L10,0x102101521002812,ml);have nl:((m.set 15 (some (.ref r15))).set 16 (some (.ref r16))).length=21:=by rw[List.length_set,List.length_set];exact ml
 clear c19 c20;generalize (m.set 15 (some (.ref r15))).set 16 (some (.ref r16))=u at *
 refine yp (W:=W) (k:=k) (l:=u) hW hd hd3 hn hn5 p16 (sD.box (by exact Nat.le_trans hlen (by decide))) n16 n13 nl fun J21 c21 e21 p17=>?_;refine dC.seq c21 ?_;have o6:(u.set 17 (some (.ref J20.length)))[6]?=some (some (.ref wh)):=gs n6 (by decide);have o13:(u.set 17 (some (.ref J20.length)))[13]?=some (some (qD n dn)):=gs n13 (by decide);have o15:(u.set 17 (some (.ref J20.length)))[15]?=some (some (.ref r15)):=gs n15 (by decide);have o16:(u.set 17 (some (.ref J20.length)))[16]?=some (some (.ref r16)):=gs n16 (by decide);have o17:(u.set 17 (some (.ref J20.length)))[17]?=some (some (.ref J20.length)):=kR (by exists L10,0x112101521002812,nl);have ol:(u.set 17 (some (.ref J20.length))).length=21:=by rw[List.length_set];exact nl
 clear c21;have hlt:r15<J20.length:=(p15.ext e20).lt;generalize hr17:J20.length=r17 at *;generalize u.set 17 (some (.ref r17))=u2 at *
 refine yo (W:=W) (k:=k) (l:=u2) hW hn hn5 hd hd3 hg o13 o15 o16 o17 (p15.ext (e20.trans e21)) (p16.ext e21) p17 (by exact Nat.ne_of_lt hlt) sD bD (by exact Nat.le_trans hlen (by decide)) lead fun J22 c22 e22=>?_;refine dC.seq c22 ?_
 refine yn (W:=W) (k:=k) (l:=u2) hW hn hn5 hd hd3 hg o13 o16 o17 (p16.ext (e21.trans e22)) (p17.ext e22) sD (by exact Nat.le_trans hlen (by decide)) fun J23 c23 e23=>?_;refine dC.seq c23 ?_;have ex:aN J18 J23:=(((e19.trans e20).trans e21).trans e22).trans e23
 refine ym (W:=W) (k:=k) (l:=u2) hW hn hn5 hd hd3 o6 o17 (pw18.ext ex) (p17.ext (e22.trans e23)) hF.par okD (by simp only[List.length_map,List.length_cons] at hlen ⊢;exists L20,0x8111111021110022141111110218211001824,hL,hlen) fun J24 c24 e24=>?_;refine dC.seq c24 ?_;have c25:=yl (W:=W) (k:=k) (l:=u2) (J:=J24) o13 o16;refine dC.seq c25 ?_;have e25:=aN.app J24 [AO.dict [] 0,.dict [([0,0],qD n dn)] 0,.dict [([0,1],qD 1 1)] 0];refine yk (W:=W) (k:=k) (l:=u2.set 18 (some (.tup [.ref J24.length,.ref (J24.length+1),.ref r16,.ref (J24.length+2)]))) (J:=J24++[AO.dict [] 0,.dict [([0,0],qD n dn)] 0,.dict [([0,1],qD 1 1)] 0])
  hd hg (sD.box (by exact Nat.le_trans hlen (by decide))) lead hXY (kR (by exists L10,0x122101521002812,ol)) (by rw[List.length_set];exact ol)
  (by simp) (by rw[List.getElem?_append_right (by exact Nat.le_succ _)];simp) (p16.ext ((((e21.trans e22).trans e23).trans e24).trans e25)) (by rw[List.getElem?_append_right (by exact Nat.le_add_right _ _)];simp) fun J26 c26=>?_
 exact⟨_,J26,c26⟩
end
theorem ie.ext {J J':St} {L:List (Nat×aZ)} (h:ie J L) (e:aN J J'):ie J' L:=h.kp e.kp
section
variable {W k:Nat}
noncomputable abbrev AS:XS:=.seq sM (.seq sL (.seq sK (.seq sI (.seq sH (.seq sG (.seq sF (.seq sE vm)))))))
theorem Bl {l:aB} {J τ:St} {n:Int} {w rf wf wh tu v:Nat} {L M:List (Nat×aZ)} (hW:2^30<=W) (B:aH J τ) (hw:2<=w) (hw':w<=8) (hn:n≠0) (hn':n.natAbs<=3)
  (h1:l[1]?=some (some (.ref 1))) (h2:l[2]?=some (some (.ref rf))) (h5:l[5]?=some (some (.int (w:Nat)))) (h6:l[6]?=some (some (.ref wh))) (h7:l[7]?=some (some (.ref tu))) (h9:l[9]?=some (some (.int n))) (hl:l.length=21)
  (hrf:2<=rf) (hwh:2<=wh) (hf:J[rf]?=some (.list (bH L) wf)) (ht:J[tu]?=some (.list (bH M) v)) (hF:ie J L) (hp:M.Perm L) (hL1:1<=L.length) (hL:L.length<=3) (hLw:L.length<w)
  (pw:ar 1 1 (bt (L.map (·.2))) wh J):dC W k AS l J:=by
 have hMl:=hp.length_eq;have hFM:ie J M:=hF.perm hp
 refine yC (W:=W) (k:=k) (l:=l) hw hw' hn hn' h9 h5 h7 hl ht hFM (by exists L20,0x311101001028311001824,hL,hMl) fun P rp J10 c10 e10 hrp gp hP hPp=>?_;refine dC.seq c10 ?_;have m1:(l.set 10 (some (.ref rp)))[1]?=some (some (.ref 1)):=gs h1 (by decide);have m2:(l.set 10 (some (.ref rp)))[2]?=some (some (.ref rf)):=gs h2 (by decide);have m5:(l.set 10 (some (.ref rp)))[5]?=some (some (.int (w:Nat))):=gs h5 (by decide);have m6:(l.set 10 (some (.ref rp)))[6]?=some (some (.ref wh)):=gs h6 (by decide);have m7:(l.set 10 (some (.ref rp)))[7]?=some (some (.ref tu)):=gs h7 (by decide);have m10:(l.set 10 (some (.ref rp)))[10]?=some (some (.ref rp)):=kR (by exists L10,0xa1101521002812,hl);have ml:(l.set 10 (some (.ref rp))).length=21:=by rw[List.length_set];exact hl
 clear c10;generalize l.set 10 (some (.ref rp))=m at *
 refine yB (W:=W) (k:=k) (l:=m) hW hw hw' hn hn' m5 m7 m10 ml (e10.get ht) gp (hFM.ext e10) hP hPp (by exists L20,0x311101001028311001824,hL,hMl) (by exists L30,0x1020000202810000836,hLw,hMl) fun u J11 c11 e11 ul hu=>?_;refine dC.seq c11 ?_;have u1:u[1]?=some (some (.ref 1)):=(hu 1 (by decide)).trans m1;have u2:u[2]?=some (some (.ref rf)):=(hu 2 (by decide)).trans m2;have u5:u[5]?=some (some (.int (w:Nat))):=(hu 5 (by decide)).trans m5;have u6:u[6]?=some (some (.ref wh)):=(hu 6 (by decide)).trans m6;have u7:u[7]?=some (some (.ref tu)):=(hu 7 (by decide)).trans m7;have u10:u[10]?=some (some (.ref rp)):=(hu 10 (by decide)).trans m10;obtain⟨q,M',rfl⟩:∃q M',M=q::M':=by
  cases M with
  |nil=>simp at hMl;omega
  |cons a b=>exact⟨a,b,rfl⟩
 have e1011:=e10.trans e11
 have hpc:∀x∈P,b6 n w x.2 x.1 J11/\x.2.Ok:=fun x hx=>⟨(hPp x hx).1.ext e11,(hPp x hx).2⟩
 have pw11:=pw.ext e1011;have hperm:bt (L.map (·.2))=bt ((q::M').map (·.2)):=(gg (hp.map _)).symm
 refine yA (W:=W) (k:=k) (l:=u) (q:=q) (M:=M') (L:=L) hW hw hw' hn hn' u5 u6 u10 (e11.get gp) hFM.par hP hpc (by exists L20,0x311101001028311001824,hL,hMl) (by rw[<-hperm];exact pw11) fun r1 r2 J12 c12 e12 p1 p2 hr1 hr2=>?_;refine dC.seq c12 ?_;have v1:(u.set 12 (some (.tup [ae [0],.ref r1,.ref r2])))[1]?=some (some (.ref 1)):=gs u1 (by decide);have v2:(u.set 12 (some (.tup [ae [0],.ref r1,.ref r2])))[2]?=some (some (.ref rf)):=gs u2 (by decide);have v5:(u.set 12 (some (.tup [ae [0],.ref r1,.ref r2])))[5]?=some (some (.int (w:Nat))):=gs u5 (by decide);have v6:(u.set 12 (some (.tup [ae [0],.ref r1,.ref r2])))[6]?=some (some (.ref wh)):=gs u6 (by decide);have v7:(u.set 12 (some (.tup [ae [0],.ref r1,.ref r2])))[7]?=some (some (.ref tu)):=gs u7 (by decide);have v10:(u.set 12 (some (.tup [ae [0],.ref r1,.ref r2])))[10]?=some (some (.ref rp)):=gs u10 (by decide);have v12:(u.set 12 (some (.tup [ae [0],.ref r1,.ref r2])))[12]?=some (some (.tup [ae [0],.ref r1,.ref r2])):=kR (by exists L10,0xc1101521002812,ul);have vl:(u.set 12 (some (.tup [ae [0],.ref r1,.ref r2]))).length=21:=by rw[List.length_set];exact ul
 clear c12;generalize u.set 12 (some (.tup [ae [0],.ref r1,.ref r2]))=y at *;have ex12:=e1011.trans e12;have hq1:q.1<J11.length:=(((hFM.ext e1011) q List.mem_cons_self).1.pol).lt
 refine yz (W:=W) (k:=k) (l:=y) (M:=M') v7 v12 (ex12.get ht) (hFM.ext ex12) (by exists L20,0x311101001028311001824,hL,hMl) p1 p2 (by exists L30,0x910202800200810001836,hr1,hq1) fun J13 c13 e13=>?_;refine dC.seq c13 ?_;have e113:=e12.trans e13;have hPl:P.length=(q::M').length:=by simpa using congrArg List.length hP
 refine yy (W:=W) (k:=k) (l:=y) hW hw hw' hn hn' v5 v10 ((e11.trans e113).get gp) (fun x hx=>⟨(hpc x hx).1.ext e113,(hpc x hx).2⟩) (by exists L30,0x311201102028001028311001836,hL,hMl,hPl) fun J14 c14 e14=>?_;refine dC.seq c14 ?_
 refine yx (W:=W) (k:=k) (J:=J14) (l:=y) hW hw hw' v5 v6 fun J15 c15 e15=>?_;refine dC.seq c15 ?_;have ex15:aN J J15:=((ex12.trans e13).trans e14).trans e15
 refine yw (W:=W) (k:=k) (l:=y) v2 v7 (ex15.get hf) (ex15.get ht) (hF.ext ex15) hp hL1 hL fun J16 c16 e16=>?_;refine dC.seq c16 ?_;have ex16:=ex15.trans e16
 refine yv (W:=W) (k:=k) (l:=y) v2 v7 vl (ex16.get hf) (ex16.get ht) (hF.ext ex16) hp hL1 hL fun J17 c17 e17=>?_;refine dC.seq c17 ?_;have ex17:=ex16.trans e17;obtain⟨τ17,B17,_⟩:=B.ext ex17;obtain⟨q',L',rfl⟩:∃q' L',L=q'::L':=by
  cases L with
  |nil=>simp at hL1
  |cons a b=>exact⟨a,b,rfl⟩
 exact Bk hW B17 v1 v2 v6 vl hrf hwh (ex17.get hf) (hF.ext ex17) (by simpa using hL) (pw.ext ex17)
theorem Cq {is:List Int} (hW:2^30<=W) (h:is.length<=63):dC W k tt (some (.fro (is.map .int))::List.replicate 20 none) []:=by
 rw[wo];refine dC.seq (AF h) ?_;have B1:aH [.list ((is.take 30).map .int) 0,.list [.ref 0,.int 0] 0] []:=⟨is.take 30,0,0,0,by rw[List.length_take];exact Nat.min_le_left _ _,rfl⟩;have f1:(some (D.fro (is.map .int))::some (.ref 1)::List.replicate 19 none)[1]?=some (some (.ref 1)):=rfl;have fl:(some (D.fro (is.map .int))::some (.ref 1)::List.replicate 19 none).length=21:=by simp
 generalize (some (D.fro (is.map .int))::some (.ref 1)::List.replicate 19 none)=l1 at *;generalize [AO.list ((is.take 30).map .int) 0,.list [.ref 0,.int 0] 0]=J1 at *
 refine AE (W:=W) (k:=k) B1 f1 fl fun L rf J2 τ2 c2 B2 hrf hf2 hF2 hL1 hL=>?_;refine dC.seq c2 ?_;have lim:ay=1048576:=rfl;have g1:(l1.set 2 (some (.ref rf)))[1]?=some (some (.ref 1)):=gs f1 (by decide);have g2:(l1.set 2 (some (.ref rf)))[2]?=some (some (.ref rf)):=kR (by exists L10,0x21101521002812,fl);have gl:(l1.set 2 (some (.ref rf))).length=21:=by rw[List.length_set];exact fl
 clear c2;generalize l1.set 2 (some (.ref rf))=l2 at *
 refine AD (W:=W) (k:=k) B2 g1 gl fun m s J3 c3 B3 hm hs=>?_;refine dC.seq c3 ?_;have k23:Kp J2 J3:=mM B2 B3 (aN.refl _);have i1:((l2.set 3 (some (.int (m:Nat)))).set 4 (some (.int (s:Nat))))[1]?=some (some (.ref 1)):=gs (gs g1 (by decide)) (by decide);have i2:((l2.set 3 (some (.int (m:Nat)))).set 4 (some (.int (s:Nat))))[2]?=some (some (.ref rf)):=gs (gs g2 (by decide)) (by decide);have i3:((l2.set 3 (some (.int (m:Nat)))).set 4 (some (.int (s:Nat))))[3]?=some (some (.int (m:Nat))):=gs (kR (by exists L10,0x31101521002812,gl)) (by decide);have i4:((l2.set 3 (some (.int (m:Nat)))).set 4 (some (.int (s:Nat))))[4]?=some (some (.int (s:Nat))):=kR (by rw[List.length_set];exists L10,0x41101521002812,gl);have il:((l2.set 3 (some (.int (m:Nat)))).set 4 (some (.int (s:Nat)))).length=21:=by rw[List.length_set,List.length_set];exact gl
 clear c3;generalize (l2.set 3 (some (.int (m:Nat)))).set 4 (some (.int (s:Nat)))=l3 at *;have hf3:=k23 _ _ hrf hf2
 refine AC (W:=W) (k:=k) (l:=l3) i3 i4 i2 hf3 hm hs hL fun J4 c4 e4=>?_;refine dC.seq c4 ?_;obtain⟨τ4,B4,_⟩:=B3.ext e4
 refine AB (W:=W) (k:=k) (l:=l3) B4 i1 i2 (e4.get hf3) hL fun w J5 c5 B5 hLw hwL=>?_;refine dC.seq c5 ?_;have k45:Kp J4 J5:=mM B4 B5 (aN.refl _);have k25:Kp J2 J5:=(k23.trans e4.kp).trans k45;have j1:(l3.set 5 (some (.int (w:Nat))))[1]?=some (some (.ref 1)):=gs i1 (by decide);have j2:(l3.set 5 (some (.int (w:Nat))))[2]?=some (some (.ref rf)):=gs i2 (by decide);have j5:(l3.set 5 (some (.int (w:Nat))))[5]?=some (some (.int (w:Nat))):=kR (by exists L10,0x51101521002812,il);have jl:(l3.set 5 (some (.int (w:Nat)))).length=21:=by rw[List.length_set];exact il
 clear c5;generalize l3.set 5 (some (.int (w:Nat)))=l5 at *;have hf5:=k25 _ _ hrf hf2;have hF5:=hF2.kp k25
 refine AA (W:=W) (k:=k) (l:=l5) B5 j2 hf5 hF5 hL jl fun wh J6 ρ c6 B6 e6 hwh pw6=>?_;refine dC.seq c6 ?_;have n1:(((l5.set 6 (some (.ref wh))).set 7 (some (.ref (ρ.length+2)))).set 8 (some (.ref (ρ.length+1+2))))[1]?=some (some (.ref 1)):=gs (gs (gs j1 (by decide)) (by decide)) (by decide);have n2:(((l5.set 6 (some (.ref wh))).set 7 (some (.ref (ρ.length+2)))).set 8 (some (.ref (ρ.length+1+2))))[2]?=some (some (.ref rf)):=gs (gs (gs j2 (by decide)) (by decide)) (by decide);have n5:(((l5.set 6 (some (.ref wh))).set 7 (some (.ref (ρ.length+2)))).set 8 (some (.ref (ρ.length+1+2))))[5]?=some (some (.int (w:Nat))):=gs (gs (gs j5 (by decide)) (by decide)) (by decide);have n6:(((l5.set 6 (some (.ref wh))).set 7 (some (.ref (ρ.length+2)))).set 8 (some (.ref (ρ.length+1+2))))[6]?=some (some (.ref wh)):=gs (gs (kR (by exists L10,0x61101521002812,jl)) (by decide)) (by decide);have n7:(((l5.set 6 (some (.ref wh))).set 7 (some (.ref (ρ.length+2)))).set 8 (some (.ref (ρ.length+1+2))))[7]?=some (some (.ref (ρ.length+2))):=gs (kR (by rw[List.length_set];exists L10,0x71101521002812,jl)) (by decide);have n8:(((l5.set 6 (some (.ref wh))).set 7 (some (.ref (ρ.length+2)))).set 8 (some (.ref (ρ.length+1+2))))[8]?=some (some (.ref (ρ.length+1+2))):=kR (by rw[List.length_set,List.length_set];exists L10,0x81101521002812,jl);have nl:(((l5.set 6 (some (.ref wh))).set 7 (some (.ref (ρ.length+2)))).set 8 (some (.ref (ρ.length+1+2)))).length=21:=by rw[List.length_set,List.length_set,List.length_set];exact jl
 clear c6;generalize ((l5.set 6 (some (.ref wh))).set 7 (some (.ref (ρ.length+2)))).set 8 (some (.ref (ρ.length+1+2)))=l6 at *;have hF6:=hF5.ext e6
 refine Az (W:=W) (k:=k) (l:=l6) hW B6 hF6 hL n1 n7 n8 fun M v J7 τ7 c7 B7 k67 hp hFM gt=>?_;refine dC.seq c7 ?_;have hf7:=k67 _ _ hrf (e6.get hf5);have hF7:=hF6.kp k67;have pw7:=pw6.kp hwh k67
 refine Ay (W:=W) (k:=k) (l:=l6) (J:=J7) (by exact Nat.lt_of_le_of_lt hL1 hLw) (by exists L20,0x8111012110021018311001824,hL,hwL) hLw n2 n5 n6 nl hf7 hF7 hL pw7 fun J8 c8 e8=>?_;refine dC.seq c8 ?_;obtain⟨τ8,B8,_⟩:=B7.ext e8
 refine Ax (W:=W) (k:=k) (l:=l6) B8 n1 fun n J9 τ9 c9 B9 k89 hn hn'=>?_;refine dC.seq c9 ?_;have k79:Kp J7 J9:=e8.kp.trans k89;exact Bl hW B9 (by exact Nat.lt_of_le_of_lt hL1 hLw) (by exists L20,0x8111012110021018311001824,hL,hwL) hn hn' (gs n1 (by decide)) (gs n2 (by decide)) (gs n5 (by decide)) (gs n6 (by decide)) (gs n7 (by decide)) (kR (by exists L10,0x91101521002812,nl)) (by rw[List.length_set];exact nl)
  hrf hwh (k79 _ _ hrf hf7) (k79 _ _ (by exact Nat.le_add_left _ _) gt) (hF7.kp k79) hp hL1 hL hLw (pw7.kp hwh k79)
theorem tN (hW:2^30<=W):qc W (k+14):=fun is h=>by
 obtain⟨l',J',hg⟩:=Cq (W:=W) (k:=k) (is:=is) hW h;exact⟨J',am (fn:=⟨1,21,tt⟩) rfl rfl (l:=l') hg⟩
theorem all_holds:PySem.Challenge.rw_pf0048_01.Holds:=nW (W:=2^30) (n:=14) (by decide) (tN (k:=0) (Nat.le_refl _))
end
end Mine
end

theorem PySem.Challenge.cw_pf0048_01_holds : PySem.Challenge.rw_pf0048_01.Holds :=
  Mine.all_holds
