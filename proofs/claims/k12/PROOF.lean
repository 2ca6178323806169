import PyProof.Rows.All
import Wide.All
import OpenK.AllK
import Wide.FinOn
import HandS.TupSets
import KE.KDictKeyed
import HandS.Strs
import HandS.SetBool
import HandS.SortOrd
import KE.KDictDisplayH
import HandS.ForMost
import HandS.ForExc
import HandS.Flow
import HandS.IsInst
import HandS.Property
import HandS.Lambda
import HandS.ExcCtx
import HandS.WordsExc
import HandS.ExcInit
import KE.KDflt
import PyProof.StrBlock2
import HandS.FStr
import HandS.TryOnly
import KE.GoesNew
import KE.GoesEnum
import KE.GoesMore
import HandS.Zip
import HandS.Nested
import KE.KExcSuper
import HandS.NestedK
import HandS.HotCalls
import HandS.ExcField
import KE.KTryMore
import PyProof.CollectStr
import HandS.Text
import HandS.OwnEq
import OpenK.KOps
import OpenK.KMeth
import PyProof.InstNe
import HandS.MakeKw
import HandS.HeadHook1
import HandS.HeadHook2
import HandS.HeadWalk
import KE.KNestM
import HandS.Replace
import PyProof.ListStr
import HandS.Dict
import HandS.Star
import HandS.TupMul
import HandS.Style
import PyProof.NeKinds
import HandS.TupAny
import HandS.RaiseMore
import HandS.Conv
import HandS.StrMore
import HandS.Iter
import HandS.WordsDict
import PyProof.Rows.SumAny
import HandS.ClsMeth
import HandS.NestedHot
import HandS.SuiteRaise
import HandS.RaiseFrom
import HandS.ExcInitHot
import HandS.GenYield
import HandS.GenList
import HandS.ExcIs
import PyProof.SetRoads
import HandS.DictComp
import HandS.TupLen
import PyProof.Conv_bool
import PyProof.ListNew
import KE.GoesComp
import KE.KAsSuite
import HandS.SetFor
import HandS.SortRule
import HandS.SetKeys
import KE.GoesZip
import PyProof.WalksMore
import PyProof.DictDisplay
import PyProof.Rows.MatchSeqLen
import KE.KWithOwn
import HandS.Finally
import HandS.More
import KE.KDictPairs
import KE.KDictWalk
import HandS.Deep
import HandS.Head2
import HandS.Head0
import HandS.Head1
import PyProof.StrLawsIn
import KE.KStateDown
import Lean
import PySem.Challenge.RW_lotbarter_k12_whole_least_automata
set_option Elab.async false
set_option linter.all false
set_option maxRecDepth 100000
set_option maxHeartbeats 4000000
namespace L3
open PySem PySem.Spec PyProof.Rows L2
abbrev NK:=PySem.NestedKey
mutual
def NK.PF:NK->Bool|.num _=>true|.tup ks=>NK.FP ks|_=>false
def NK.FP:List NK->Bool|[]=>true|k::r=>NK.PF k&&NK.FP r
end
structure fB (h:Heap) (k:NK) (b:Addr):Prop where
 is:NestedIs h k (.ref b)
 deep:k.depth<=8
 num:k.PF=true
theorem fB.moved{h h':Heap}{k:NK}{b:Addr}(x:fB h k b)(st:∀c o vs n,h.get? c=some o->o.data=.seq vs n->h'.get? c=some o):fB h' k b:=⟨NestedIs.at st k _ x.is,x.deep,x.num⟩
theorem fB.keep{h h':Heap}{k:NK}{b:Addr}(x:fB h k b)(st:∀c o,h.get? c=some o->h'.get? c=some o):fB h' k b:=x.moved λc o _ _ e _=>st c o e
def wW:Nat->Nat|0=>0|n+1=>5*wW n+1
theorem Hj(a:Nat):∀n,wW (a+n)=wW a+4*(wW a*wW n)+wW n|0=>rfl|n+1=>by have ih:=Hj a n;show 5*wW (a+n)+1=wW a+4*(wW a*(5*wW n+1))+(5*wW n+1);rw[ih,Nat.mul_add (wW a),Nat.mul_one,Nat.mul_left_comm (wW a) 5];omega
theorem Hk:∀k,∃o,wW (2 ^ k)=2 ^ k+2 ^ (k+1)*o
 |0=>⟨0,rfl⟩|k+1=>by
  obtain⟨o,e⟩:=Hk k;have e2:(2:Nat) ^ (k+1)=2 ^ k+2 ^ k:=by rw[Nat.pow_succ];omega
  refine⟨o+wW (2 ^ k)*(1+2*o),?_⟩;have e3:(2:Nat) ^ (k+1+1)=4*2 ^ k:=by rw[Nat.pow_succ,Nat.pow_succ];omega
  rw[e2,Hj];generalize wW (2 ^ k)=G at e ⊢;rw[e2]at e;rw[e3];generalize (2:Nat) ^ k=M at e ⊢;have h1:G*G=G*(M+(M+M)*o):=by rw[<-e]
  have h2:G*(M+(M+M)*o)=G*M+2*(G*M*o):=by rw[Nat.mul_add,<-Nat.mul_assoc,Nat.mul_add,Nat.add_mul];omega
  have h3:4*M*(o+G*(1+2*o))=4*(M*o)+4*(G*M)+8*(G*M*o):=by rw[Nat.mul_add,Nat.mul_add,Nat.mul_add,Nat.mul_one];have a1:4*M*o=4*(M*o):=Nat.mul_assoc ..;have a2:4*M*G=4*(G*M):=(by rw[Nat.mul_assoc,Nat.mul_comm M G]);have a3:4*M*(G*(2*o))=8*(G*M*o):=(by rw[Nat.mul_assoc 4 M,Nat.mul_left_comm M G,Nat.mul_left_comm M 2,Nat.mul_left_comm G 2,Nat.mul_assoc G M o];omega);omega
  have h4:(M+M)*o=2*(M*o):=by rw[Nat.add_mul];omega
  omega
theorem MD:∀(k j:Nat),j<2 ^ k->∃b,b<2 ^ k/\wW b%2 ^ k=j
 |0,j,h=>by
  have e:j=0:=by simpa using h
  subst e;exact⟨0,by decide,rfl⟩
 |k+1,j,h=>by
  have e2:(2:Nat) ^ (k+1)=2 ^ k+2 ^ k:=by rw[Nat.pow_succ];omega
  have pos:0<(2:Nat) ^ k:=Nat.pow_pos (by decide);obtain⟨b,hb,e⟩:=MD k (j%2 ^ k) (Nat.mod_lt _ pos);obtain⟨o,eo⟩:=Hk k;have ea:=Hj b (2 ^ k);rw[eo]at ea;rw[e2]at h ea ⊢;generalize (2:Nat) ^ k=M at *
  have hq:wW b%(M+M)<M+M:=Nat.mod_lt _ (by omega);have hq2:wW b%(M+M)%M=j%M:=by rw[Nat.mod_mod_of_dvd _ ⟨2,by omega⟩];exact e
  have red:∀x,x<M+M->x%M=if x<M then x else x-M:=λx hx=>by split;exact Nat.mod_eq_of_lt ‹_›;·rw[Nat.mod_eq_sub_mod (by omega),Nat.mod_eq_of_lt (by omega)]
  rw[red _ hq,red _ h]at hq2;by_cases c:wW b%(M+M)=j;exact⟨b,by omega,c⟩;refine⟨b+M,by omega,?_⟩;have sp:wW (b+M)=wW b+M+(M+M)*(2*(wW b*(1+2*o))+o):=by rw[ea];have h1:wW b*(M+(M+M)*o)=M*wW b+2*(M*(wW b*o)):=(by rw[Nat.mul_add,Nat.mul_comm (wW b) M,Nat.mul_left_comm (wW b),Nat.add_mul];omega);have h2:(M+M)*(2*(wW b*(1+2*o))+o)=4*(M*wW b)+8*(M*(wW b*o))+(M+M)*o:=(by rw[Nat.mul_add,Nat.mul_add (wW b),Nat.mul_one,Nat.mul_left_comm (wW b) 2,Nat.add_mul M M (2*_),Nat.mul_left_comm M 2,Nat.mul_add M,Nat.mul_left_comm M 2];omega);omega
  rw[sp,Nat.add_mul_mod_self_left];have a1:(wW b+M)%(M+M)=(wW b%(M+M)+M)%(M+M):=by rw[Nat.mod_add_mod]
  rw[a1];by_cases c1:wW b%(M+M)<M;rw[Nat.mod_eq_of_lt (by omega)];split at hq2<;>split at hq2<;>omega;·rw[Nat.mod_eq_sub_mod (by omega),Nat.mod_eq_of_lt (by omega)];split at hq2<;>split at hq2<;>omega
theorem DX(m:Nat):∀b,lcgN m b=wW b%(m+1)|0=>(Nat.zero_mod _).symm|b+1=>by show(lcgN m b*5+1)%(m+1)=(5*wW b+1)%(m+1);rw[DX m b,Nat.add_mod,Nat.mul_mod,Nat.mod_mod,<-Nat.mul_mod,<-Nat.add_mod,Nat.mul_comm]
def rE(m:Nat):Prop:=m=7\/m=31\/m=127\/m=511\/m=2047\/m=8191
theorem rE.pow{m:Nat}(h:rE m):∃k,m+1=2 ^ k:=by rcases h with rfl|rfl|rfl|rfl|rfl|rfl;exact⟨3,rfl⟩;exact⟨5,rfl⟩;exact⟨7,rfl⟩;exact⟨9,rfl⟩;exact⟨11,rfl⟩;·exact⟨13,rfl⟩
theorem MF{m k:Nat}(h:m+1=2 ^ k):∀n,lcgN m (m+1+n)=lcgN m n
 |0=>by obtain⟨o,e⟩:=Hk k;show lcgN m (m+1)=0;rw[DX,h,e,Nat.pow_succ,Nat.mul_assoc,Nat.add_mul_mod_self_left,Nat.mod_self]
 |n+1=>congrArg (λx=>(x*5+1)%(m+1)) (MF h n)
theorem rE.meets{m:Nat}(hm:rE m)(h:Int){j:Nat}(hj:j<=m):∃n,n<=m+12/\runI m (SetTable.bits h) n=j:=by
 obtain⟨k,hk⟩:=hm.pow;have sur:∀i,i<=m->∃b,b<=m/\lcgN m b=i:=λi hi=>by obtain⟨b,h1,h2⟩:=MD k i (by omega);exact⟨b,by omega,by rw[DX,hk];exact h2⟩
 obtain⟨a,ha,ea⟩:=sur _ (runI_le m (SetTable.bits h) 12);obtain⟨b,hb,eb⟩:=sur j hj;have fin:∀n,n<=m->lcgN m (a+n)=j->∃n,n<=m+12/\runI m (SetTable.bits h) n=j:=λn hn e =>⟨12+n,by omega,by rw[runI_tail (bits_lt h),<-ea,lcgN_add];exact e⟩;by_cases c:a<=b;·exact fin (b-a) (by omega) (by rw[Nat.add_sub_cancel' c];exact eb)
 ·refine fin (m+1+b-a) (by omega) ?_;rw[Nat.add_sub_cancel' (by omega),MF hk];exact eb
structure FU (t:SetTable) (hs:List Int):Prop where
 ris:Ris t.place.toList
 dm:t.dummies=#[]
 sz:t.place.size=hs.length
 mok:rE t.mask
 bd:∀x∈t.place.toList,x<=t.mask
 reach:∀(i:Nat) (h:Int) (j:Nat),hs[i]?=some h->t.place.toList[i]?=some j->∃k,way t.mask h k=j/\∀k',k'<k->way t.mask h k'∈t.place.toList
section
variable {t:SetTable}{hs:List Int}{m:Nat}
theorem F8(hm:rE m)(h:Int){p:Nat->Prop}{j:Nat}(hj:j<=m)(hp:p j):∃n K,n<=m+12/\K<=off m (SetTable.bits h%(m+1)) (SetTable.bits h) n/\K<=10*n/\p (way m h K)/\∀k,k<K->¬p (way m h k):=by
 obtain⟨n,hn,e⟩:=hm.meets h hj;obtain⟨q,hq,eq⟩:=run_nth m (SetTable.bits h) n;have e1:way m h q=j:=by show(nth m _ q).j=j;rw[eq];exact e
 have e2:way m h (off m (SetTable.bits h%(m+1)) (SetTable.bits h) n)=j:=by show(nth m _ _).j=j;rw[nth_off,itL_run];exact e
 obtain⟨K,a1,a2,a3⟩:=st_least (p:=λk=>p (way m h k)) q (by show p (way m h q);rw[e1];exact hp);refine⟨n,K,hn,?_,by omega,a2,a3⟩;rcases Nat.lt_or_ge (off m (SetTable.bits h%(m+1)) (SetTable.bits h) n) K with c|c;exact absurd (by rw[e2];exact hp) (a3 _ c);·exact c
theorem FU.first(T:FU t hs)(hl:hs.length<=t.mask)(h:Int):∃K,K<10*SetTable.turns t.mask/\way t.mask h K∉t.place.toList/\∀k,k<K->way t.mask h k∈t.place.toList:=by obtain⟨j,hj,hn⟩:=st_missing t.place.toList (t.mask+1) (by rw[Array.length_toList,T.sz];omega);obtain⟨n,K,h1,_,h2,h3,h4⟩:=F8 (p:=λx=>x∉t.place.toList) T.mok h (Nat.le_of_lt_succ hj) hn;exact⟨K,by unfold SetTable.turns;omega,h3,λk hk=>Classical.byContradiction (h4 k hk)⟩
theorem FU.before(T:FU t hs){h:Int}{K i j:Nat}(hK:way t.mask h K∉t.place.toList)(hi:hs[i]?=some h)(hj:t.place.toList[i]?=some j):∃k,k<K/\way t.mask h k=j:=by
 obtain⟨k,e,hb⟩:=T.reach i h j hi hj;refine⟨k,Nat.lt_of_not_le λc=>hK ?_,e⟩;rcases Nat.lt_or_eq_of_le c with d|rfl;·exact hb K d
 ·rw[e];exact List.mem_of_getElem? hj
end
abbrev KL:=List (Addr×NK)
abbrev cH(w:World)(k:NK):Int:=k.hash w
def BJ(w:World)(p:Addr×NK):Int×Value:=(cH w p.2,.ref p.1)
structure F9 (w:World) (h:Heap) (D:Addr) (L:KL):Prop where
 ex:∃rows ep tb,(∃od,h.get? D=some od/\od.ExactSet/\od.data=.set rows ep tb)/\rows.toList=L.map (BJ w)/\FU tb (L.map λp=>cH w p.2)/\(L.map (·.2)).Nodup/\tb.plain=true /\
  (w.params.followText "set-order" = true\/tb.led=true)/\L.length*5<tb.mask*3/\L.length<4000
def tF(w:World)(D:Addr)(L:KL):HO:=.ext λh=>F9 w h D L
mutual
def numOf:NK->Option Int|.num i=>some i|_=>none
def Av:List NK->Option (List Int)
 |[]=>some []|k::r=>match numOf k,Av r with
  |some i,some is=>some (i::is)|_,_=>none
end
def pairOf:NK->Option (Int×List Int)|.tup [.num n,.tup ks]=>(Av ks).map (n,·)|_=>none
def MH(n:Int)(ms:List Int):NK:=.tup [.num n,.tup (ms.map .num)]
theorem nM(n:Int)(ms:List Int):pairOf (MH n ms)=some (n,ms):=by
 have e:∀ms:List Int,Av (ms.map .num)=some ms:=by
  intro ms;induction ms with
  |nil=>rfl|cons m ms ih =>show(match numOf (.num m),Av (ms.map .num) with|some i,some is=>some (i::is)|_,_=>none)=_;rw[ih];rfl
 show(Av (ms.map .num)).map (n,·)=_;rw[e];rfl
structure PairAt (h:Heap) (n:Int) (ms:List Int) (b:Addr):Prop where
 ex:∃(xs:Array Value) (t:Addr) (tk:Tok) (ys:Array Value),IsTup h b xs/\xs.toList=[Value.int n tk,Value.ref t]/\IsTup h t ys/\IntsAre ys.toList ms
theorem Ju{h h':Heap}{b:Addr}{xs:Array Value}(x:IsTup h b xs)(k:∀c o,h.get? c=some o->o.cls=.type "tuple" -> h'.get? c=some o):IsTup h' b xs:=by obtain⟨o,ho,hc,n,hd⟩:=x;exact⟨o,k _ _ ho hc,hc,n,hd⟩
theorem PairAt.keep{h h':Heap}{n:Int}{ms:List Int}{b:Addr}(x:PairAt h n ms b)(k:∀c o,h.get? c=some o->o.cls=.type "tuple" -> h'.get? c=some o):PairAt h' n ms b:=by obtain⟨xs,t,tk,ys,a,e,c,d⟩:=x.ex;exact⟨xs,t,tk,ys,Ju a k,e,Ju c k,d⟩
theorem tH{h:Heap}:∀{vs:List Value}{ms:List Int},IntsAre vs ms->NestedAll h (ms.map .num) vs|_,_,.nil=>.nil|_,_,.cons n t r=>.cons (.int _ _) (tH r)
theorem vL:∀ms:List Int,NestedKey.depthAll (ms.map .num)<=1|[]=>by simp[NestedKey.depthAll]|m::ms=>by have:=vL ms;simp only[List.map_cons,NestedKey.depthAll,NestedKey.depth];omega
theorem vM:∀ms:List Int,NK.FP (ms.map .num)=true|[]=>rfl|m::ms=>by show(true&&NK.FP (ms.map .num))=true;rw[vM ms];rfl
theorem PairAt.key{h:Heap}{n:Int}{ms:List Int}{b:Addr}(x:PairAt h n ms b):fB h (MH n ms) b:=by obtain⟨xs,t,tk,ys,⟨o,ho,hc,c,hd⟩,e,⟨o2,ho2,hc2,c2,hd2⟩,hi⟩:=x.ex;refine⟨.tup ho hc hd ?_,?_,?_⟩;rw[e];exact .cons (.int _ _) (.cons (.tup ho2 hc2 hd2 (tH hi)) .nil);have:=vL ms;simp only[MH,NestedKey.depth,NestedKey.depthAll];omega;·show(true&&(NK.PF (.tup (ms.map .num))&&true))=true;rw[show NK.PF (.tup (ms.map .num))=NK.FP (ms.map .num) from rfl,vM];rfl
theorem PairAt.inj{h:Heap}{n n':Int}{ms ms':List Int}{b:Addr}(x:PairAt h n ms b)(y:PairAt h n' ms' b):n=n'/\ms=ms':=by have e:=NestedIs.inj _ _ _ x.key.is y.key.is;have e2:=nM n ms;rw[e,nM]at e2;cases e2;exact⟨rfl,rfl⟩
def tJ(h:Heap)(d:Nat)(B:Int)(vs:List Value):Prop:=∀v∈vs,∃b n ms,v=Value.ref b/\PairAt h n ms b/\ms.length=d/\TS.Bd B ((n::ms).map (· + 1))
theorem tJ.keep{h h':Heap}{d:Nat}{B:Int}{vs:List Value}(x:tJ h d B vs)(k:∀c o,h.get? c=some o->o.cls=.type "tuple" -> h'.get? c=some o):tJ h' d B vs:=λv hv=>by obtain⟨b,n,ms,e,p,r⟩:=x v hv;exact⟨b,n,ms,e,p.keep k,r⟩
abbrev NE:=List (NK×Addr×V)
structure Di (h:Heap) (k:NK) (b:Addr):Prop where
 is:NestedIs h k (.ref b)
 deep:k.depth<=8
def gz(e:NK×Addr×V)(x:NK×Addr×Value):Prop:=e.1=x.1/\e.2.1=x.2.1/\RelV e.2.2 x.2.2
structure wX (w:World) (h:Heap) (D:Addr) (es:NE):Prop where
 ex:∃(od:Obj) (rows:Array DictEntry) (ep:Nat) (xs:List (NK×Addr×Value)),h.get? D=some od/\od.ExactDict/\od.data=.dict rows ep/\rows.toList=xs.map (λx=>⟨x.1.hash w,.ref x.2.1,x.2.2⟩)/\(xs.map (·.1)).Nodup/\Paired gz es xs
 few:es.length<=sizeLine
 big:(D == sysModules)=false
def jH(w:World)(D:Addr)(es:NE):HO:=.ext λh=>wX w h D es
theorem gz.keys:∀{es:NE}{xs:List (NK×Addr×Value)},Paired gz es xs->xs.map (·.1)=es.map (·.1)/\∀x∈xs,∃e∈es,e.1=x.1/\e.2.1=x.2.1
 |_,_,.nil=>⟨rfl,λx hx=>by cases hx⟩|_,_,.cons h t=>by
  obtain⟨h1,h2⟩:=gz.keys t;refine⟨by rw[List.map_cons,List.map_cons,h1,h.1],λx hx=>?_⟩;rcases List.mem_cons.mp hx with rfl|hx;·exact⟨_,List.mem_cons_self,h.1,h.2.1⟩
  ·obtain⟨e,he,r⟩:=h2 x hx;exact⟨e,List.mem_cons_of_mem _ he,r⟩
def ur(es:NE)(k:NK):Option (Addr×V):=(es.find? λe=>decide (e.1=k)).map (·.2)
theorem gz.at_:∀{es:NE}{xs:List (NK×Addr×Value)},Paired gz es xs->∀k:NK,match ur es k,atKey xs k with
  |some (a,v),some (b,u)=>a=b/\RelV v u|none,none=>True|_,_=>False
 |_,_,.nil,k=>trivial|_,_,.cons (a:=e) (b:=x) h t,k=>by have ih:=gz.at_ t k;unfold ur atKey at ih ⊢;by_cases q:e.1=k;have q2:x.1=k:=h.1▸q;rw[List.find?_cons_of_pos (by simp[q]),List.find?_cons_of_pos (by simp[q2])];exact h.2;·have q2:¬x.1=k:=h.1▸q;rw[List.find?_cons_of_neg (by simp[q]),List.find?_cons_of_neg (by simp[q2])];exact ih
section
variable {D:Addr}{es:NE}
theorem wX.of{P:Program}{w:World}{h:Heap}{D:Addr}{es:NE}(R:wX w h D es)(keys:∀e∈es,Di h e.1 e.2.1):∃xs,h.DictOfH (nestedKind P w) D xs/\Paired gz es xs:=by obtain⟨od,rows,ep,xs,ho,hx,hd,hr,nd,pe⟩:=R.ex;refine⟨xs,⟨od,rows,ep,ho,hx,hd,hr,λy hy=>?_,nd⟩,pe⟩;obtain⟨e,he,e1,e2⟩:=(gz.keys pe).2 y hy;rw[<-e1,<-e2];exact⟨(keys e he).is,(keys e he).deep⟩
end
open LamX
inductive D where
 |non|bl (b:Bool)|int (i:Int)|str (x:Str)|tup (xs:List D)|lst (xs:List D)|obj (k:Nat) (fs:List (Str×D))|cls (k:Nat)|fz (xs:List D)|ty (n:String)|fn (i:Nat)|adr (a:Addr)|gX (ks:List L2.Key) (xs:List D)|exc (k:Nat) (fs:List (Str×D))|yD (ks xs:List D)|ptr (n:Nat)
inductive A where
 |v (d:D)|m (n:Nat)
inductive Xd where
 |si|sk|dn
inductive MO where
 |lst (xs:List D)|ins (k:Nat) (fs:List (Str×D))|tab (P:Addr) (q:Str)|gX (kvs:List (L2.Key×D))|Tf (kvs:List (L2.Key×D))|x (kd:Xd) (ks xs:List D)
abbrev ag:=List MO
structure Er where
 k:Nat
 fs:List (Str×D)
inductive R (α:Type) where
 |ok (a:α) (S:ag)|err (e:Er) (S:ag)|stk
namespace R
def bind{α β:Type}:R α->(α->ag->R β)->R β|.ok a S,f=>f a S|.err e S,_=>.err e S|.stk,_=>.stk
def xm{α:Type}(o:Option α)(S:ag):R α:=match o with
 |some a=>.ok a S|none=>.stk
end R
def zt:List Str:=["bases", "columns", "pairs", "known", "steps", "states", "marks", "taken", "sources", "waiting", "before", "after", "own_log"]
def fixF:List Str:=["bases", "columns", "pairs", "known", "steps", "states", "marks", "taken", "sources", "waiting", "own_log"]
def Xe:List Str:=["own_shelf"]
def FV(H:Hp)(p q:Addr):Prop:=∃C dx fs f,H p=some (.ins C dx fs)/\zt.contains f=true/\(f,V.ref q)∈fs
def NI(μ:List Addr)(H:Hp)(a:Addr):Prop:=a∉μ/\∀p∈μ,¬FV H p a
abbrev IdF(μ:List Addr)(H H':Hp):Prop:=∀p∈μ,∀C dx fs f q,H p=some (.ins C dx fs)->fixF.contains f=true->fs.lookup f=some (V.ref q)->∃C' dx' fs',H' p=some (.ins C' dx' fs')/\fs'.lookup f=some (V.ref q)
structure Ext (μ:List Addr) (H:Hp) (μ':List Addr) (H':Hp):Prop where
 pre:∃t,μ'=μ++t
 keep:∀a o,H a=some o->NI μ H a->H' a=some o
 new:∀a∈μ',a∉μ->H a=none
 own:∀a o,H a=some o->NI μ H a->∀p∈μ',¬FV H' p a
 Mx:∀a o,H a=some o->∃u,H' a=some u
 ZO:IdF μ H H'
theorem FV.of_eq{H H':Hp}{p q:Addr}(h:FV H p q)(e:∀o,H p=some o->H' p=some o):FV H' p q:=
 let ⟨C,dx,fs,f,h1,h2,h3⟩:=h
 ⟨C,dx,fs,f,e _ h1,h2,h3⟩
theorem Lk{φ:Heap->Prop}{k:List (L2.Key×V)}{p:Prop}(z:HO.ext φ=.dK k):p:=by cases z
theorem Hl{φ:Heap->Prop}{o:Obj}{u:HO}{p:Prop}(z:HO.ext φ=.frz o u):p:=by cases z
structure Sw (μ:List Addr) (H H':Hp):Prop where
 F7:∀a o,H a=some o->(∀k,o≠.dK k)->(∀ob k,o≠.frz ob (.dK k))->H' a=some o
 gX:∀a k,Rd H a (.dK k)->Rd H' a (.dK k)
 Ts:∀a∈μ,H' a=H a
 own:∀p∈μ,∀q,FV H p q->H' q=H q
theorem NI.sw{μ:List Addr}{H H':Hp}{a:Addr}(n:NI μ H a)(e:Sw μ H H'):NI μ H' a:=⟨n.1,λp hp h=>n.2 p hp (h.of_eq λo q=>by rw[<-e.Ts p hp];exact q)⟩
structure LF where
 params:Arguments
 body:Expr
 scope:Scope
 qual:Str
 cl:List (Str×Addr)
 dv:List Int
structure Tb where
 K:PySem.W.Frag
 cA:Nat->Addr
 lam:Nat->LF
 I:List Addr->Hp->Prop
 mono:∀{μ H μ' H'},Ext μ H μ' H'->I μ H->I μ' H'
 sw:∀{μ H H'},Sw μ H H'->I μ H->I μ H'
 nn:Bool
 w:World
mutual
def gN:D->Option NK|.int i=>some (.num i)|.bl b=>some (.num (if b=true then 1 else 0))|.str x=>some (.text x)|.non=>some .none|.tup ds=>(zu ds).map .tup|_=>none
def zu:List D->Option (List NK)
 |[]=>some []|d::r=>match gN d,zu r with
  |some k,some ks=>some (k::ks)|_,_=>none
end
def intD:D->Option Int|.int i=>some i|_=>none
def vN:List D->Option (List Int)
 |[]=>some []|d::r=>match intD d,vN r with
  |some i,some is=>some (i::is)|_,_=>none
def pairD:D->Option (Int×List Int)|.tup [.int n,.tup ds]=>(vN ds).map (n,·)|_=>none
def XR(T:Tb)(a:Addr)(ks:List D)(ws us:List V)(o:HO):Xd->Prop|.si=>∃(ns:List Int) (Sf:Int->Bool),ks=ns.map D.int/\o=SetO T.w a Sf ns.length/\ns.Nodup/\∀k,Sf k=true↔k∈ns|.sk=>∃(L:KL) (ps:List (Addr×Int×List Int)),o=tF T.w a L/\L.Perm (ps.map λp=>(p.1,MH p.2.1 p.2.2))/\ws=ps.map (λp=>V.ref p.1)/\ks.map pairD=ps.map λp=>some p.2|.dn=>∃es:NE,o=jH T.w a es/\ws=es.map (λe=>V.ref e.2.1)/\us=es.map (λe=>e.2.2)/\ks.map gN=es.map (λe=>some e.1)/\∀e∈es,e.1.depth<=8
abbrev LF.fd(L:LF)(dV doc pm:Value)(c':Addr)(ctv:Value):FuncData:=PySem.W.kdv_fn "<lambda>" L.qual L.params (.expr L.body) L.scope L.cl dV doc pm (.ref c') ctv
def LmO(f:Addr)(L:LF)(c':Addr)(dV:Value):HO:=.ext λh=>∃(od:Option Addr) (sl:Array (Option Value)) (doc pm ctv:Value),h.get? f=some (⟨.type "function",od,.func (L.fd dV doc pm c' ctv),sl⟩:Obj)
def adn(μ:List Addr)(H:Hp)(ds:List Int)(dV:Value):Prop:=(ds=[]/\dV=.none)\/∃dt,dV=.ref dt/\NI μ H dt/\H dt=some (.tup (ds.map .int))
section
variable (T:Tb) (μ:List Addr) (H:Hp)
def Ga(a:Addr)(vs:List V):Prop:=NI μ H a/\H a=some (.lst vs)
def ML(a:Addr)(kvs:List (L2.Key×V)):Prop:=NI μ H a/\Rd H a (.dK kvs)
def Cy(a:Addr)(vs:List V):Prop:=(NI μ H a/\Rd H a (.lst vs)) \/
 ∃(o:Obj) (its:Array Value) (n:Nat),T.K.lookup a=some o/\o.cls=.type "list" /\ o.dict=none/\o.data=.seq its n/\its.size<=sizeLine/\Vals vs its.toList
def DY(a:Addr)(vs:List V):Prop:=(NI μ H a/\Rd H a (.tup vs)) \/
 ∃(o:Obj) (its:Array Value) (n:Nat),T.K.lookup a=some o/\o.cls=.type "tuple" /\ o.data=.seq its n/\its.size<=sizeLine/\Vals vs its.toList
def aah(k:Nat)(a dx:Addr)(vfs:List (Str×V)):Prop:=NI μ H a/\H a=some (exo a (T.cA k) (some dx))/\NI μ H dx/\H dx=some (exd dx vfs)
def aai(a:Addr)(o:HO)(ks:List D)(ws us:List V):Prop:=NI μ H a/\H a=some o/\XR T a ks ws us o .dn
mutual
def Rep:D->V->Prop|.non,v=>v=.non|.bl b,v=>v=.bl b|.int i,v=>v=.int i|.str x,v=>v=.str x|.tup ds,v=>∃a vs,v=.ref a/\DY T μ H a vs/\av ds vs|.lst ds,v=>∃a vs,v=.ref a/\Ga μ H a vs/\av ds vs|.obj k fs,v=>∃a dx vfs,v=.ref a/\NI μ H a/\H a=some (.ins (T.cA k) dx vfs)/\dB fs vfs|.cls k,v=>v=.ref (T.cA k)|.fz ds,v=>∃a vs,v=.ref a/\Cy T μ H a vs/\av ds vs|.ty n,v=>v=.ty n|.adr a,v=>v=.ref a|.ptr _,v=>∃b,v=.ref b|.gX ks ds,v=>∃a vs,v=.ref a/\ML μ H a (ks.zip vs)/\av ds vs|.exc k fs,v=>∃a dx vfs,v=.ref a/\aah T μ H k a dx vfs/\dB fs vfs|.yD ks xs,v=>∃a o ws us,v=.ref a/\aai T μ H a o ks ws us/\av ks ws/\av xs us|.fn i,v=>∃f c' dV,v=.ref f/\NI μ H f/\H f=some (LmO f (T.lam i) c' dV)/\NI μ H c'/\H c'=some (CodeO c' (T.lam i).qual)/\adn μ H (T.lam i).dv dV
def av:List D->List V->Prop|[],vs=>vs=[]|d::ds,vs=>∃v ws,vs=v::ws/\Rep d v/\av ds ws
def dB:List (Str×D)->List (Str×V)->Prop|[],vs=>vs=[]|(f,d)::ds,vs=>∃v ws,vs=(f,v)::ws/\Rep d v/\dB ds ws
end
def aH:A->V->Prop|.v d,v=>Rep T μ H d v|.m n,v=>∃a,μ[n]?=some a/\v=.ref a
def cU:List A->List V->Prop|[],vs=>vs=[]|d::ds,vs=>∃v ws,vs=v::ws/\aH T μ H d v/\cU ds ws
def vO:D->V->Prop|.lst ds,v=>∃q vs,v=.ref q/\q∉μ/\H q=some (.lst vs)/\av T μ H ds vs|.gX ks ds,v=>∃q vs,v=.ref q/\q∉μ/\H q=some (.dK (ks.zip vs))/\ks.length=ds.length/\av T μ H ds vs|.yD ks xs,v=>∃q o ws us,v=.ref q/\q∉μ/\H q=some o/\XR T q ks ws us o .dn/\av T μ H ks ws/\av T μ H xs us|_,_=>False
def j8:List (Str×D)->List (Str×V)->Prop|[],vs=>vs=[]|(f,d)::ds,vs=>∃v ws,vs=(f,v)::ws/\(if zt.contains f=true then vO T μ H d v/\ds.lookup f=none else Rep T μ H d v)/\j8 ds ws
def uu(a:Addr):MO->Prop|.lst ds=>∃vs,H a=some (.lst vs)/\av T μ H ds vs|.ins k fs=>∃dx vfs,H a=some (.ins (T.cA k) dx vfs)/\j8 T μ H fs vfs|.gX kvs=>∃vs,H a=some (.dK ((kvs.map Prod.fst).zip vs))/\av T μ H (kvs.map Prod.snd) vs|.Tf kvs=>∃od vs,H a=some (.frz od (.dK ((kvs.map Prod.fst).zip vs)))/\av T μ H (kvs.map Prod.snd) vs|.x kd ks xs=>∃o ws us,H a=some o/\XR T a ks ws us o kd/\av T μ H ks ws/\av T μ H xs us|.tab P q=>∃ps:Array Value,a=P/\H a=some (.tbl ps)/\TriplesOk ps.toList/\∀(pos:Pos) (cv:Value),codeAmong pos ps.toList=some cv->∃c,cv=.ref c/\NI μ H c/\H c=some (CodeO c q)
def OL(μ:List Addr)(H:Hp)(S:ag):Prop:=∀(i:Nat) (a:Addr) (k:Nat) (fs:List (Str×D)) (f:Str) (n:Nat),μ[i]?=some a->S[i]?=some (.ins k fs)->Xe.contains f=true->fs.lookup f=some (.ptr n)->n<i/\∃b C dx vfs,μ[n]?=some b/\H a=some (.ins C dx vfs)/\vfs.lookup f=some (V.ref b)
structure aI (S:ag):Prop where
 len:μ.length=S.length
 nd:μ.Nodup
 at_:∀(i:Nat) a o,μ[i]?=some a->S[i]?=some o->uu T μ H a o
 tr:∀a∈μ,∃o,H a=some o
 inv:T.I μ H
 ex:∀p∈μ,∀p'∈μ,∀q C dx fs f C' dx' fs' f',H p=some (.ins C dx fs)->H p'=some (.ins C' dx' fs')->zt.contains f=true->zt.contains f'=true->(f,V.ref q)∈fs->(f',V.ref q)∈fs'->p=p'/\f=f'
 pt:OL μ H S
end
abbrev Jv(μ:List Addr)(H:Hp):Prop:=∀p∈μ,∀p'∈μ,∀q C dx fs f C' dx' fs' f',H p=some (.ins C dx fs)->H p'=some (.ins C' dx' fs')->zt.contains f=true->zt.contains f'=true->(f,V.ref q)∈fs->(f',V.ref q)∈fs'->p=p'/\f=f'
theorem Jv.mv{μ μ':List Addr}{H H':Hp}(x:Jv μ H)(k:∀p∈μ',∀C dx fs,H' p=some (.ins C dx fs)->(p∈μ/\H p=some (.ins C dx fs))\/∀f v,(f,v)∈fs->zt.contains f=false):Jv μ' H':=by
 intro p hp p' hp' q C dx fs f C' dx' fs' f' h1 h2 h3 h4 h5 h6;rcases k p hp _ _ _ h1 with ⟨a1,a2⟩|a;·rcases k p' hp' _ _ _ h2 with ⟨b1,b2⟩|b;exact x p a1 p' b1 q C dx fs f C' dx' fs' f' a2 b2 h3 h4 h5 h6;·rw[b _ _ h6]at h4;cases h4
 ·rw[a _ _ h5]at h3;cases h3
abbrev Env:=List (Option A)
structure dw (T:Tb) (μ:List Addr) (H:Hp) (ρ:Env) (σ:L2.St):Prop where
 len:ρ.length=σ.length
 at_:∀(i:Nat) x,ρ[i]?=some (some x)->∃v,σ[i]?=some (some v)/\aH T μ H x v
section
variable {T:Tb}{μ μ' μ1:List Addr}{H H' H1:Hp}{S:ag}
theorem Ext.out(e:Ext μ H μ' H'){a:Addr}{o:HO}(h:H a=some o)(n:a∉μ):a∉μ':=λm=>by have:=e.new a m n;rw[h]at this;cases this
theorem Ext.nB(e:Ext μ H μ' H'){a:Addr}{o:HO}(h:H a=some o)(n:NI μ H a):NI μ' H' a:=⟨e.out h n.1,e.own a o h n⟩
theorem Ext.trans(e:Ext μ H μ1 H1)(f:Ext μ1 H1 μ' H'):Ext μ H μ' H':=by
 obtain⟨t1,e1⟩:=e.pre;obtain⟨t2,e2⟩:=f.pre;refine⟨⟨t1++t2,by rw[e2,e1,List.append_assoc]⟩,λa o h n=>f.keep a o (e.keep a o h n) (e.nB h n),λa h n=>?_,λa o h n=>f.own a o (e.keep a o h n) (e.nB h n),λa o h=>?_,λp hp C dx fs g q h c l=>?_⟩
 ·by_cases m:a∈μ1;·exact e.new a m n
  ·cases q:H a with|none=>rfl|some o =>have z:=f.new a h m;obtain⟨u,q2⟩:=e.Mx a o q;rw[q2]at z;cases z
 obtain⟨u,q⟩:=e.Mx a o h;exact f.Mx a u q;·obtain⟨C1,dx1,fs1,h1,l1⟩:=e.ZO p hp C dx fs g q h c l;exact f.ZO p (by rw[e1];exact List.mem_append_left _ hp) C1 dx1 fs1 g q h1 c l1
theorem Ext.aet(e:Ext μ H μ' H'){i:Nat}{a:Addr}(h:μ[i]?=some a):μ'[i]?=some a:=by obtain⟨t,e1⟩:=e.pre;rw[e1,List.getElem?_append_left (by exact(List.getElem?_eq_some_iff.mp h).1)];exact h
theorem Ext.grow(hs:∀a∈μ,∃o,H a=some o)(h:Same H H'):Ext μ H μ H':=⟨⟨[],by simp⟩,λa o e _=>h a o e,λ_ h n=>absurd h n,λa o e n p hp z=>n.2 p hp (by obtain⟨u,q⟩:=hs p hp;obtain⟨C,dx,fs,f,h1,h2,h3⟩:=z;rw[h p u q]at h1;cases h1;exact⟨C,dx,fs,f,q,h2,h3⟩),λa o e=>⟨o,h a o e⟩,λp _ _ _ _ _ _ e _ l=>⟨_,_,_,h p _ e,l⟩⟩
theorem Ga.mono{a:Addr}{vs:List V}(e:Ext μ H μ' H')(h:Ga μ H a vs):Ga μ' H' a vs:=⟨e.nB h.2 h.1,e.keep _ _ h.2 h.1⟩
theorem ML.mono{a:Addr}{kvs:List (L2.Key×V)}(e:Ext μ H μ' H')(h:ML μ H a kvs):ML μ' H' a kvs:=by obtain⟨n,h|⟨o,h⟩⟩:=h;exact⟨e.nB h n,.inl (e.keep _ _ h n)⟩;·exact⟨e.nB h n,.inr ⟨o,e.keep _ _ h n⟩⟩
theorem Cy.mono{a:Addr}{vs:List V}(e:Ext μ H μ' H')(h:Cy T μ H a vs):Cy T μ' H' a vs:=by rcases h with ⟨n,h|⟨o,h⟩⟩|h;exact .inl ⟨e.nB h n,.inl (e.keep _ _ h n)⟩;exact .inl ⟨e.nB h n,.inr ⟨o,e.keep _ _ h n⟩⟩;·exact .inr h
theorem DY.mono{a:Addr}{vs:List V}(e:Ext μ H μ' H')(h:DY T μ H a vs):DY T μ' H' a vs:=by rcases h with ⟨n,h|⟨o,h⟩⟩|h;exact .inl ⟨e.nB h n,.inl (e.keep _ _ h n)⟩;exact .inl ⟨e.nB h n,.inr ⟨o,e.keep _ _ h n⟩⟩;·exact .inr h
theorem Ga.sq{K:PySem.W.Frag}{a:Addr}{vs:List V}(h:Ga μ H a vs):SqL K H a vs:=.inl (.inl h.2)
theorem Cy.sq{a:Addr}{vs:List V}(h:Cy T μ H a vs):SqL T.K H a vs:=by rcases h with ⟨_,h⟩|h;exact .inl h;·exact .inr h
theorem DY.sq{a:Addr}{vs:List V}(h:DY T μ H a vs):SqT T.K H a vs:=by rcases h with ⟨_,h⟩|h;exact .inl h;·exact .inr h
mutual
theorem Rep.mono(e:Ext μ H μ' H'):∀{d:D}{v:V},Rep T μ H d v->Rep T μ' H' d v
 |.fn i,_,h=>by simp only[Rep]at h ⊢;obtain⟨f,c',dV,e1,n,h1,n2,h2,h3⟩:=h;refine⟨f,c',dV,e1,e.nB h1 n,e.keep _ _ h1 n,e.nB h2 n2,e.keep _ _ h2 n2,?_⟩;rcases h3 with h3|⟨dt,e3,n3,h3⟩;exact .inl h3;·exact .inr ⟨dt,e3,e.nB h3 n3,e.keep _ _ h3 n3⟩
 |.non,_,h=>by simpa only[Rep]using h|.bl _,_,h=>by simpa only[Rep]using h|.int _,_,h=>by simpa only[Rep]using h|.str _,_,h=>by simpa only[Rep]using h|.cls _,_,h=>by simpa only[Rep]using h|.ty _,_,h=>by simpa only[Rep]using h|.adr _,_,h=>by simpa only[Rep]using h|.ptr _,_,h=>by simpa only[Rep]using h|.tup ds,v,h=>by simp only[Rep]at h ⊢;obtain⟨a,vs,e1,h1,h2⟩:=h;exact⟨a,vs,e1,h1.mono e,av.mono e h2⟩
 |.lst ds,v,h=>by simp only[Rep]at h ⊢;obtain⟨a,vs,e1,h1,h2⟩:=h;exact⟨a,vs,e1,h1.mono e,av.mono e h2⟩
 |.gX ks ds,v,h=>by simp only[Rep]at h ⊢;obtain⟨a,vs,e1,h1,h2⟩:=h;exact⟨a,vs,e1,h1.mono e,av.mono e h2⟩
 |.fz ds,v,h=>by simp only[Rep]at h ⊢;obtain⟨a,vs,e1,h1,h2⟩:=h;exact⟨a,vs,e1,h1.mono e,av.mono e h2⟩
 |.obj k fs,v,h=>by simp only[Rep]at h ⊢;obtain⟨a,dx,vfs,e1,n,h1,h2⟩:=h;exact⟨a,dx,vfs,e1,e.nB h1 n,e.keep _ _ h1 n,dB.mono e h2⟩
 |.exc k fs,v,h=>by simp only[Rep]at h ⊢;obtain⟨a,dx,vfs,e1,⟨n,h1,n2,h3⟩,h2⟩:=h;exact⟨a,dx,vfs,e1,⟨e.nB h1 n,e.keep _ _ h1 n,e.nB h3 n2,e.keep _ _ h3 n2⟩,dB.mono e h2⟩
 |.yD ks xs,v,h=>by simp only[Rep]at h ⊢;obtain⟨a,o,ws,us,e1,⟨n,h1,h2⟩,h3,h4⟩:=h;exact⟨a,o,ws,us,e1,⟨e.nB h1 n,e.keep _ _ h1 n,h2⟩,av.mono e h3,av.mono e h4⟩
theorem av.mono(e:Ext μ H μ' H'):∀{ds:List D}{vs:List V},av T μ H ds vs->av T μ' H' ds vs|[],_,h=>by simpa only[av]using h|d::ds,vs,h=>by simp only[av]at h ⊢;obtain⟨v,ws,e1,h1,h2⟩:=h;exact⟨v,ws,e1,Rep.mono e h1,av.mono e h2⟩
theorem dB.mono(e:Ext μ H μ' H'):∀{ds:List (Str×D)}{vs:List (Str×V)},dB T μ H ds vs->dB T μ' H' ds vs|[],_,h=>by simpa only[dB]using h|(f,d)::ds,vs,h=>by simp only[dB]at h ⊢;obtain⟨v,ws,e1,h1,h2⟩:=h;exact⟨v,ws,e1,Rep.mono e h1,dB.mono e h2⟩
end
theorem aH.mono(e:Ext μ H μ' H'){x:A}{v:V}(h:aH T μ H x v):aH T μ' H' x v:=by
 cases x with
 |v d=>exact Rep.mono e h|m n =>obtain⟨a,h1,h2⟩:=h;exact⟨a,e.aet h1,h2⟩
theorem cU.mono(e:Ext μ H μ' H'):∀{ds:List A}{vs:List V},cU T μ H ds vs->cU T μ' H' ds vs|[],_,h=>h|d::ds,vs,⟨v,ws,e1,h1,h2⟩=>⟨v,ws,e1,aH.mono e h1,cU.mono e h2⟩
theorem dw.mono(e:Ext μ H μ' H'){ρ:Env}{σ:L2.St}(h:dw T μ H ρ σ):dw T μ' H' ρ σ:=
 ⟨h.len,λi x q=>let ⟨v,e1,r⟩:=h.at_ i x q;⟨v,e1,r.mono e⟩⟩
theorem vO.mv{d:D}{q:Addr}(e:Ext μ H μ' H')(k:∀u,H q=some u->H' q=some u)(h:vO T μ H d (.ref q)):vO T μ' H' d (.ref q):=by
 cases d with
 |lst ds =>obtain⟨p,vs,e1,n,h1,h2⟩:=h;cases e1;exact⟨_,vs,rfl,e.out h1 n,k _ h1,h2.mono e⟩
 |gX ks ds =>obtain⟨p,vs,e1,n,h1,hl,h2⟩:=h;cases e1;exact⟨_,vs,rfl,e.out h1 n,k _ h1,hl,h2.mono e⟩
 |yD ks xs =>obtain⟨p,o,ws,us,e1,n,h1,hx,h2,h3⟩:=h;cases e1;exact⟨_,o,ws,us,rfl,e.out h1 n,k _ h1,hx,h2.mono e,h3.mono e⟩
 |_=>exact h.elim
theorem vO.ref{d:D}{v:V}(h:vO T μ H d v):∃q o,v=.ref q/\q∉μ/\H q=some o:=by
 cases d with
 |lst ds =>obtain⟨p,vs,e1,n,h1,h2⟩:=h;exact⟨p,_,e1,n,h1⟩
 |gX ks ds =>obtain⟨p,vs,e1,n,h1,hl,h2⟩:=h;exact⟨p,_,e1,n,h1⟩
 |yD ks xs =>obtain⟨p,o,ws,us,e1,n,h1,hx,h2,h3⟩:=h;exact⟨p,o,e1,n,h1⟩
 |_=>exact h.elim
theorem j8.mv(e:Ext μ H μ' H'):∀{fs:List (Str×D)}{vs:List (Str×V)},(∀f q,zt.contains f=true->(f,V.ref q)∈vs->∀u,H q=some u->H' q=some u)->j8 T μ H fs vs->j8 T μ' H' fs vs|[],_,_,h=>h|(f,d)::fs,vs,k,h=>by obtain⟨v,ws,e1,h1,h2⟩:=h;subst e1;refine⟨v,ws,rfl,?_,j8.mv e (λf q o m=>k f q o (List.mem_cons_of_mem _ m)) h2⟩;by_cases c:zt.contains f=true;rw[if_pos c]at h1 ⊢;obtain⟨q,o,rfl,n,h3⟩:=h1.1.ref;exact⟨h1.1.mv e (k f q c List.mem_cons_self),h1.2⟩;·rw[if_neg c]at h1 ⊢;exact h1.mono e
theorem j8.own:∀{fs:List (Str×D)}{vs:List (Str×V)}{f:Str}{q:Addr},j8 T μ H fs vs->zt.contains f=true->(f,V.ref q)∈vs->q∉μ/\∃o,H q=some o|[],vs,f,q,h,c,m=>by have:vs=[]:=h;subst this;cases m|(g,d)::fs,vs,f,q,h,c,m=>by obtain⟨v,ws,e1,h1,h2⟩:=h;subst e1;rcases List.mem_cons.mp m with m|m;cases m;rw[if_pos c]at h1;obtain⟨q',o,e2,n,h3⟩:=h1.1.ref;cases e2;exact⟨n,o,h3⟩;·exact j8.own h2 c m
theorem uu.mv{a:Addr}{o:MO}(e:Ext μ H μ' H')(k:∀u,H a=some u->H' a=some u)(ko:∀q,FV H a q->∀u,H q=some u->H' q=some u)(q:uu T μ H a o):uu T μ' H' a o:=by
 cases o with
 |lst ds =>obtain⟨vs,q1,q2⟩:=q;exact⟨vs,k _ q1,q2.mono e⟩
 |gX kvs =>obtain⟨vs,q1,q2⟩:=q;exact⟨vs,k _ q1,q2.mono e⟩
 |Tf kvs =>obtain⟨od,vs,q1,q2⟩:=q;exact⟨od,vs,k _ q1,q2.mono e⟩
 |x kd ks xs =>obtain⟨u,ws,us,q1,q2,q3,q4⟩:=q;exact⟨u,ws,us,k _ q1,q2,q3.mono e,q4.mono e⟩
 |ins c fs =>obtain⟨dx,vfs,q1,q2⟩:=q;exact⟨dx,vfs,k _ q1,q2.mv e λf q c m=>ko q ⟨_,_,_,f,q1,c,m⟩⟩
 |tab P nm =>obtain⟨ps,q0,q1,q2,q3⟩:=q;refine⟨ps,q0,k _ q1,q2,λpos cv hc=>?_⟩;obtain⟨c,z1,z2,z3⟩:=q3 pos cv hc;exact⟨c,z1,e.nB z3 z2,e.keep _ _ z3 z2⟩
mutual
theorem Rep.sw(e:Sw μ H H'):∀{d:D}{v:V},Rep T μ H d v->Rep T μ H' d v
 |.non,_,h=>by simpa only[Rep]using h|.bl _,_,h=>by simpa only[Rep]using h|.int _,_,h=>by simpa only[Rep]using h|.str _,_,h=>by simpa only[Rep]using h|.cls _,_,h=>by simpa only[Rep]using h|.ty _,_,h=>by simpa only[Rep]using h|.adr _,_,h=>by simpa only[Rep]using h|.ptr _,_,h=>by simpa only[Rep]using h|.fn i,_,h=>by simp only[Rep]at h ⊢;obtain⟨f,c',dV,e1,n,h1,n2,h2,h3⟩:=h;refine⟨f,c',dV,e1,n.sw e,e.F7 _ _ h1 (λk z=>by unfold LmO at z;cases z) (λo k z=>by unfold LmO at z;cases z),n2.sw e,e.F7 _ _ h2 (λk z=>by unfold CodeO at z;cases z) (λo k z=>by unfold CodeO at z;cases z),?_⟩;rcases h3 with h3|⟨dt,e3,n3,h3⟩;exact .inl h3;·exact .inr ⟨dt,e3,n3.sw e,e.F7 _ _ h3 (λk z=>by cases z) (λo k z=>by cases z)⟩
 |.tup ds,v,h=>by simp only[Rep]at h ⊢;obtain⟨a,vs,e1,h1,h2⟩:=h;refine⟨a,vs,e1,?_,av.sw e h2⟩;rcases h1 with ⟨n,h|⟨o,h⟩⟩|h;exact .inl ⟨n.sw e,.inl (e.F7 _ _ h (λk z=>by cases z) (λo k z=>by cases z))⟩;exact .inl ⟨n.sw e,.inr ⟨o,e.F7 _ _ h (λk z=>by cases z) (λo k z=>by cases z)⟩⟩;·exact .inr h
 |.lst ds,v,h=>by simp only[Rep]at h ⊢;obtain⟨a,vs,e1,h1,h2⟩:=h;exact⟨a,vs,e1,⟨h1.1.sw e,e.F7 _ _ h1.2 (λk z=>by cases z) (λo k z=>by cases z)⟩,av.sw e h2⟩
 |.gX ks ds,v,h=>by simp only[Rep]at h ⊢;obtain⟨a,vs,e1,h1,h2⟩:=h;exact⟨a,vs,e1,⟨h1.1.sw e,e.gX _ _ h1.2⟩,av.sw e h2⟩
 |.fz ds,v,h=>by simp only[Rep]at h ⊢;obtain⟨a,vs,e1,h1,h2⟩:=h;refine⟨a,vs,e1,?_,av.sw e h2⟩;rcases h1 with ⟨n,h|⟨o,h⟩⟩|h;exact .inl ⟨n.sw e,.inl (e.F7 _ _ h (λk z=>by cases z) (λo k z=>by cases z))⟩;exact .inl ⟨n.sw e,.inr ⟨o,e.F7 _ _ h (λk z=>by cases z) (λo k z=>by cases z)⟩⟩;·exact .inr h
 |.obj k fs,v,h=>by simp only[Rep]at h ⊢;obtain⟨a,dx,vfs,e1,n,h1,h2⟩:=h;exact⟨a,dx,vfs,e1,n.sw e,e.F7 _ _ h1 (λk z=>by cases z) (λo k z=>by cases z),dB.sw e h2⟩
 |.exc k fs,v,h=>by simp only[Rep]at h ⊢;obtain⟨a,dx,vfs,e1,⟨n,h1,n2,h3⟩,h2⟩:=h;exact⟨a,dx,vfs,e1,⟨n.sw e,e.F7 _ _ h1 (λk z=>Lk z) (λo k z=>Hl z),n2.sw e,e.F7 _ _ h3 (λk z=>Lk z) (λo k z=>Hl z)⟩,dB.sw e h2⟩
 |.yD ks xs,v,h=>by simp only[Rep]at h ⊢;obtain⟨a,o,ws,us,e1,⟨n,h1,h2⟩,h3,h4⟩:=h;obtain⟨es,eo,h5⟩:=id h2;subst eo;exact⟨a,_,ws,us,e1,⟨n.sw e,e.F7 _ _ h1 (λk z=>Lk z) (λo k z=>Hl z),h2⟩,av.sw e h3,av.sw e h4⟩
theorem av.sw(e:Sw μ H H'):∀{ds:List D}{vs:List V},av T μ H ds vs->av T μ H' ds vs|[],_,h=>by simpa only[av]using h|d::ds,vs,h=>by simp only[av]at h ⊢;obtain⟨v,ws,e1,h1,h2⟩:=h;exact⟨v,ws,e1,Rep.sw e h1,av.sw e h2⟩
theorem dB.sw(e:Sw μ H H'):∀{ds:List (Str×D)}{vs:List (Str×V)},dB T μ H ds vs->dB T μ H' ds vs|[],_,h=>by simpa only[dB]using h|(f,d)::ds,vs,h=>by simp only[dB]at h ⊢;obtain⟨v,ws,e1,h1,h2⟩:=h;exact⟨v,ws,e1,Rep.sw e h1,dB.sw e h2⟩
end
theorem vO.sw{d:D}{q:Addr}(e:Sw μ H H')(k:H' q=H q)(h:vO T μ H d (.ref q)):vO T μ H' d (.ref q):=by
 cases d with
 |lst ds =>obtain⟨p,vs,e1,n,h1,h2⟩:=h;cases e1;exact⟨_,vs,rfl,n,k.trans h1,h2.sw e⟩
 |gX ks ds =>obtain⟨p,vs,e1,n,h1,hl,h2⟩:=h;cases e1;exact⟨_,vs,rfl,n,k.trans h1,hl,h2.sw e⟩
 |yD ks xs =>obtain⟨p,o,ws,us,e1,n,h1,hx,h2,h3⟩:=h;cases e1;exact⟨_,o,ws,us,rfl,n,k.trans h1,hx,h2.sw e,h3.sw e⟩
 |_=>exact h.elim
theorem j8.sw(e:Sw μ H H'):∀{fs:List (Str×D)}{vs:List (Str×V)},(∀f q,zt.contains f=true->(f,V.ref q)∈vs->H' q=H q)->j8 T μ H fs vs->j8 T μ H' fs vs|[],_,_,h=>h|(f,d)::fs,vs,k,h=>by obtain⟨v,ws,e1,h1,h2⟩:=h;subst e1;refine⟨v,ws,rfl,?_,j8.sw e (λf q o m=>k f q o (List.mem_cons_of_mem _ m)) h2⟩;by_cases c:zt.contains f=true;rw[if_pos c]at h1 ⊢;obtain⟨q,o,rfl,n,h3⟩:=h1.1.ref;exact⟨h1.1.sw e (k f q c List.mem_cons_self),h1.2⟩;·rw[if_neg c]at h1 ⊢;exact h1.sw e
theorem aH.sw(e:Sw μ H H'){x:A}{v:V}(h:aH T μ H x v):aH T μ H' x v:=by
 cases x with
 |v d=>exact Rep.sw e h|m n=>exact h
theorem dw.sw(e:Sw μ H H'){ρ:Env}{σ:L2.St}(h:dw T μ H ρ σ):dw T μ H' ρ σ:=
 ⟨h.len,λi x q=>let ⟨v,e1,r⟩:=h.at_ i x q;⟨v,e1,r.sw e⟩⟩
theorem uu.sw{a:Addr}{o:MO}(e:Sw μ H H')(ha:a∈μ)(nb:∀b o,H b=some o->b∉μ->(∀k,o≠.dK k)->(∀ob k,o≠.frz ob (.dK k))->H' b=some o)(q:uu T μ H a o):uu T μ H' a o:=by
 have k:H' a=H a:=e.Ts a ha;cases o with
 |lst ds =>obtain⟨vs,q1,q2⟩:=q;exact⟨vs,by rw[k];exact q1,q2.sw e⟩
 |gX kvs =>obtain⟨vs,q1,q2⟩:=q;exact⟨vs,by rw[k];exact q1,q2.sw e⟩
 |Tf kvs =>obtain⟨od,vs,q1,q2⟩:=q;exact⟨od,vs,by rw[k];exact q1,q2.sw e⟩
 |x kd ks xs =>obtain⟨u,ws,us,q1,q2,q3,q4⟩:=q;exact⟨u,ws,us,by rw[k];exact q1,q2,q3.sw e,q4.sw e⟩
 |ins c fs =>obtain⟨dx,vfs,q1,q2⟩:=q;exact⟨dx,vfs,by rw[k];exact q1,q2.sw e λf q c m=>e.own a ha q ⟨_,_,_,f,q1,c,m⟩⟩
 |tab P nm =>obtain⟨ps,q0,q1,q2,q3⟩:=q;refine⟨ps,q0,by rw[k];exact q1,q2,λpos cv hc=>?_⟩;obtain⟨c,z1,z2,z3⟩:=q3 pos cv hc;exact⟨c,z1,z2.sw e,nb _ _ z3 z2.1 (λk z=>by unfold CodeO at z;cases z) (λo k z=>by unfold CodeO at z;cases z)⟩
theorem aI.owned(k:aI T μ H S){p q:Addr}(hp:p∈μ)(h:FV H p q):q∉μ/\∃o,H q=some o:=by
 obtain⟨C,dx,fs,f,h1,c,m⟩:=h;obtain⟨i,hi⟩:=List.mem_iff_getElem?.mp hp;have hl:i<S.length:=by rw[<-k.len];exact(List.getElem?_eq_some_iff.mp hi).1
 have q:=k.at_ i p S[i] hi (by simp[hl]);cases eo:S[i]with
 |ins k' fs' =>rw[eo]at q;obtain⟨dx',vfs,q1,q2⟩:=q;rw[h1]at q1;cases q1;exact q2.own c m
 |lst ds =>rw[eo]at q;obtain⟨vs,q1,q2⟩:=q;rw[h1]at q1;cases q1
 |gX kvs =>rw[eo]at q;obtain⟨vs,q1,q2⟩:=q;rw[h1]at q1;cases q1
 |Tf kvs =>rw[eo]at q;obtain⟨od,vs,q1,q2⟩:=q;rw[h1]at q1;cases q1
 |tab P nm =>rw[eo]at q;obtain⟨ps,q0,q1,q2,q3⟩:=q;rw[h1]at q1;cases q1
 |x kd ks xs=>
  rw[eo]at q;obtain⟨u,ws,us,q1,q2,q3,q4⟩:=q;cases kd with
  |si=>obtain⟨_,_,_,e,_⟩:=q2;rw[h1,e]at q1;cases q1
  |sk=>obtain⟨_,_,e,_⟩:=q2;rw[h1,e]at q1;cases q1
  |dn=>obtain⟨_,e,_⟩:=q2;rw[h1,e]at q1;cases q1
theorem OL.mv(x:OL μ H S)(e:∀a∈μ,∀C dx fs,H a=some (.ins C dx fs)->H' a=some (.ins C dx fs)):OL μ H' S:=λi a k fs f n h1 h2 hr h3=>
 let ⟨q,b,C,dx,vfs,q1,q2,q3⟩:=x i a k fs f n h1 h2 hr h3
 ⟨q,b,C,dx,vfs,q1,e a (List.mem_of_getElem? h1) _ _ _ q2,q3⟩
theorem OL.take{t:List Addr}{j:Nat}(x:OL (μ++t) H S):OL μ H (S.take j):=λi a k fs f n h1 h2 hr h3=>by
 have hi:=(List.getElem?_eq_some_iff.mp h1).1;have h2':S[i]?=some (.ins k fs):=by rw[List.getElem?_take]at h2;split at h2;exact h2;·cases h2
 obtain⟨q,b,C,dx,vfs,q1,q2,q3⟩:=x i a k fs f n (by rw[List.getElem?_append_left hi];exact h1) h2' hr h3;exact⟨q,b,C,dx,vfs,by rwa[List.getElem?_append_left (by omega)]at q1,q2,q3⟩
theorem OL.set(x:OL μ H S)(nd:μ.Nodup){n:Nat}{p:Addr}{o:MO}(hp:μ[n]?=some p)(e:∀a∈μ,a≠p->H' a=H a)(ho:∀k fs f m,o=.ins k fs->Xe.contains f=true->fs.lookup f=some (.ptr m)->m<n/\∃b C dx vfs,μ[m]?=some b/\H' p=some (.ins C dx vfs)/\vfs.lookup f=some (V.ref b)):OL μ H' (S.set n o):=λi a k fs f m h1 h2 hr h3=>by
 by_cases hi:n=i
 ·subst hi;rw[hp]at h1;cases h1;have hn:n<S.length:=by have:=(List.getElem?_eq_some_iff.mp h2).1;simpa using this
  rw[List.getElem?_set_self hn]at h2;cases h2;exact ho k fs f m rfl hr h3
 ·rw[List.getElem?_set_ne hi]at h2;have ne:a≠p:=by rintro rfl;exact hi (nd_ix nd hp h1)
  obtain⟨q,b,C,dx,vfs,q1,q2,q3⟩:=x i a k fs f m h1 h2 hr h3;exact⟨q,b,C,dx,vfs,q1,by rw[e a (List.mem_of_getElem? h1) ne];exact q2,q3⟩
theorem aI.sw(e:Sw μ H H')(k:aI T μ H S):aI T μ H' S:=
 ⟨k.len,k.nd,λi a o h1 h2=>(k.at_ i a o h1 h2).sw e (List.mem_of_getElem? h1) (λb o h _=>e.F7 b o h),λa ha=>let ⟨o,q⟩:=k.tr a ha;⟨o,by rw[e.Ts a ha];exact q⟩,T.sw e k.inv,
  Jv.mv k.ex λp hp C dx fs h=>.inl ⟨hp,by rw[<-e.Ts p hp];exact h⟩,k.pt.mv λa ha C dx fs h=>by rw[e.Ts a ha];exact h⟩
theorem aI.ext(k:aI T μ H S)(h:Same H H'):Ext μ H μ H':=Ext.grow k.tr h
theorem aI.grow(k:aI T μ H S)(h:Same H H'):aI T μ H' S:=by
 have e:Ext μ H μ H':=k.ext h;exact⟨k.len,k.nd,λi a o h1 h2=>(k.at_ i a o h1 h2).mv e (λu=>h _ u) λq _ u=>h q u,λa ha=>let ⟨o,q⟩:=k.tr a ha;⟨o,h a o q⟩,T.mono e k.inv,
  Jv.mv k.ex λp hp C dx fs q=>.inl ⟨hp,by obtain⟨o,q2⟩:=k.tr p hp;rw[h p o q2]at q;rw[q2];exact q⟩,k.pt.mv λa _ C dx fs z=>h a _ z⟩
theorem aI.free(k:aI T μ H S){p:Addr}(h:H p=none):NI μ H p:=by constructor;intro m;obtain⟨o,e⟩:=k.tr p m;rw[h]at e;cases e;·intro q hq z;obtain⟨_,o,e⟩:=k.owned hq z;rw[h]at e;cases e
def Tt(μ:List Addr)(H:Hp):Prop:=(∀a∈μ,∃o,H a=some o)/\∀p∈μ,∀q,FV H p q->∃o,H q=some o
theorem Tt.ext(t:Tt μ H)(h:Same H H'):Ext μ H μ H':=Ext.grow t.1 h
theorem Tt.free(t:Tt μ H){p:Addr}(h:H p=none):NI μ H p:=by constructor;intro m;obtain⟨o,e⟩:=t.1 p m;rw[h]at e;cases e;·intro q hq z;obtain⟨o,e⟩:=t.2 q hq p z;rw[h]at e;cases e
theorem Ext.cutS{D:Addr}{H0:Hp}{t:List Addr}(tr:∀a∈μ,∃o,H a=some o)(hD:H D=none)(sm:Same H H0)(nl:∀C dx fs,H0 D=some (.ins C dx fs)->∀f v,(f,v)∈fs->zt.contains f=false)(ex:Ext (μ++[D]) H0 (μ++t) H'):Ext μ H μ H':=by
 have ni:∀a o,H a=some o->NI μ H a->NI (μ++[D]) H0 a:=λa o ha na=>by
  have naD:a≠D:=ne_of_none ha hD;refine⟨λmm=>?_,λp hp z=>?_⟩;·rcases List.mem_append.mp mm with z|z;exact na.1 z;·exact naD (List.mem_singleton.mp z)
  ·obtain⟨C,dx,fs,f,h1,h2,h3⟩:=z;rcases List.mem_append.mp hp with z|z;obtain⟨u,q⟩:=tr p z;rw[sm p u q]at h1;cases h1;exact na.2 p z ⟨C,dx,fs,f,q,h2,h3⟩;·rw[List.mem_singleton.mp z]at h1;rw[nl C dx fs h1 f _ h3]at h2;cases h2
 exact⟨⟨[],by simp⟩,λa o ha na=>ex.keep a o (sm a o ha) (ni a o ha na),λa ha na=>absurd ha na,λa o ha na p hp=>ex.own a o (sm a o ha) (ni a o ha na) p (List.mem_append_left _ hp),λa o ha=>ex.Mx a o (sm a o ha),λp hp C dx fs f q e c l=>ex.ZO p (List.mem_append_left _ hp) C dx fs f q (sm p _ e) c l⟩
theorem aI.niD{t:List Addr}{D:Addr}(k:aI T (μ++t) H S)(m:D∈μ++t)(n:D∉μ):NI μ H D:=⟨n,λ_ hp z=>(k.owned (List.mem_append_left _ hp) z).1 m⟩
theorem NI.less{t:List Addr}{a:Addr}(n:NI (μ++t) H a):NI μ H a:=⟨λm=>n.1 (List.mem_append_left _ m),λp hp=>n.2 p (List.mem_append_left _ hp)⟩
theorem av.length:∀{ds:List D}{vs:List V},av T μ H ds vs->vs.length=ds.length|[],_,h=>by simp only[av]at h;subst h;rfl|d::ds,vs,h=>by simp only[av]at h;obtain⟨v,ws,e1,_,h2⟩:=h;subst e1;simp[av.length h2]
theorem cU.length:∀{ds:List A}{vs:List V},cU T μ H ds vs->vs.length=ds.length|[],_,h=>by simp only[cU]at h;subst h;rfl|d::ds,vs,⟨v,ws,e1,_,h2⟩=>by subst e1;simp[cU.length h2]
theorem av.get:∀{ds:List D}{vs:List V}{i:Nat}{d:D},av T μ H ds vs->ds[i]?=some d->∃v,vs[i]?=some v/\Rep T μ H d v
 |[],_,_,_,_,e=>by simp at e|d::ds,vs,i,x,h,e=>by
  simp only[av]at h;obtain⟨v,ws,e1,h1,h2⟩:=h;subst e1;cases i with
  |zero=>simp at e;subst e;exact⟨v,rfl,h1⟩|succ i=>simp at e;simpa using av.get h2 e
theorem dw.set{ρ:Env}{σ:L2.St}{i:Nat}{x:A}{v:V}(h:dw T μ H ρ σ)(r:aH T μ H x v):dw T μ H (ρ.set i (some x)) (σ.set i (some v)):=by
 refine⟨by simp[h.len],λj y e=>?_⟩;by_cases hj:i=j
 ·subst hj;have hl:i<ρ.length:=by have:=(List.getElem?_eq_some_iff.mp e).1;simpa using this
  rw[List.getElem?_set_self hl]at e;cases e;exact⟨v,by rw[List.getElem?_set_self (by rw[<-h.len];exact hl)],r⟩
 ·rw[List.getElem?_set_ne hj]at e;obtain⟨w,e1,r1⟩:=h.at_ j y e;exact⟨w,by rw[List.getElem?_set_ne hj];exact e1,r1⟩
end
def Aw(T:Tb)(μ:List Addr)(H:Hp)(e:Er)(cls:Value)(d:Option Addr):Prop:=
 cls=.ref (T.cA e.k)/\∃dd vfs,d=some dd/\NI μ H dd/\H dd=some (.xd vfs)/\dB T μ H e.fs vfs
section
variable {α β:Type}(T:Tb) (Rp:List Addr->Hp->α->β->Prop)
def oU(μ:List Addr)(H:Hp)(Q:β->Hp->Prop)(W:XK):R α->Prop|.ok a S'=>∀μ' H' v,Ext μ H μ' H'->aI T μ' H' S'->Rp μ' H' a v->Q v H'|.err e S'=>∀μ' H' cls d,Ext μ H μ' H'->aI T μ' H' S'->Aw T μ' H' e cls d->W cls d H'|.stk=>False
end
section
variable {α β γ δ:Type}{T:Tb}{Rp:List Addr->Hp->α->β->Prop}{Rq:List Addr->Hp->γ->δ->Prop}{μ μ':List Addr}{H H':Hp}{Q:β->Hp->Prop}{Q':δ->Hp->Prop}{W:XK}
theorem oU.later(e:Ext μ H μ' H'):∀{c:R α},oU T Rp μ H Q W c->oU T Rp μ' H' Q W c|.ok _ _,h=>λμ2 H2 v e2=>h μ2 H2 v (e.trans e2)|.err _ _,h=>λμ2 H2 c d e2=>h μ2 H2 c d (e.trans e2)|.stk,h=>h
theorem oU.split{c:R α}{k:α->ag->R γ}(h:oU T Rq μ H Q' W (c.bind k)) :oU T Rp μ H (λv H1=>∃μ1 S1 a,Ext μ H μ1 H1/\aI T μ1 H1 S1/\Rp μ1 H1 a v/\oU T Rq μ1 H1 Q' W (k a S1)) W c:=by
 cases c with
 |ok a S=>exactλμ1 H1 v e ok r=>⟨μ1,S,a,e,ok,r,oU.later e h⟩|err e S=>exact h|stk=>exact h
theorem oU.imp{P:β->Hp->Prop}{c:R α}(h:oU T Rp μ H Q W c)(k:∀v H',Q v H'->P v H'):oU T Rp μ H P W c:=by
 cases c with
 |ok a S=>exactλμ1 H1 v e ok r=>k _ _ (h μ1 H1 v e ok r)|err e S=>exact h|stk=>exact h
end
def Au(b:Bool)(P:Program)(w:World):CXT:=match b with
 |true=>L2N.CX P w|false=>L2.CX P w
def Tu(b:Bool)(X:Cx)(W:WX):Prop:=match b with
 |true=>L2N.Takes X W|false=>Takes X W
theorem Tu.imp{b:Bool}{X:Cx}{W W':WX}(t:Tu b X W)(h:∀c d σ H,W' c d σ H->W c d σ H):Tu b X W':=by
 cases b with
 |true=>exact L2N.Takes.imp t h|false=>exact Takes.imp t h
section
variable {T:Tb}{e:Expr}{es:List Expr}
abbrev tK:=A->A->ag->Option A
def asD:List A->Option (List D)|[]=>some []|.v d::r=>(asD r).map (d::·)|.m _::_=>none
theorem cU.data{μ:List Addr}{H:Hp}:∀{xs:List A}{vs:List V}{ds:List D},cU T μ H xs vs->asD xs=some ds->av T μ H ds vs
 |[],vs,ds,h,e=>by
  have e':ds=[]:=by simpa[asD]using e.symm
  subst e';have h':vs=[]:=h;simp only[av];exact h'
 |.v d::r,vs,ds,⟨v,ws,e1,h1,h2⟩,e=>by
  cases q:asD r with
  |none=>simp[asD,q]at e|some es =>simp[asD,q]at e;subst e e1;simp only[av];exact⟨v,ws,rfl,h1,cU.data h2 q⟩
 |.m _::_,_,_,_,e=>by simp[asD]at e
end
inductive SR where
 |nx (ρ:Env) (S:ag)|rt (a:A) (S:ag)|bk (ρ:Env) (S:ag)|ct (ρ:Env) (S:ag)|er (e:Er) (S:ag)|stk
abbrev SM:=Env->ag->SR
def mB(T:Tb)(μ:List Addr)(H:Hp)(D:Ends)(W:XK):SR->Prop|.nx ρ' S'=>∀μ' H' σ',Ext μ H μ' H'->aI T μ' H' S'->dw T μ' H' ρ' σ'->D.nx σ' H'|.rt a S'=>∀μ' H' v,Ext μ H μ' H'->aI T μ' H' S'->aH T μ' H' a v->D.rt v H'|.bk ρ' S'=>∀μ' H' σ',Ext μ H μ' H'->aI T μ' H' S'->dw T μ' H' ρ' σ'->D.bk σ' H'|.ct ρ' S'=>∀μ' H' σ',Ext μ H μ' H'->aI T μ' H' S'->dw T μ' H' ρ' σ'->D.ct σ' H'|.er e S'=>∀μ' H' cls d,Ext μ H μ' H'->aI T μ' H' S'->Aw T μ' H' e cls d->W cls d H'|.stk=>False
theorem mB.later{T:Tb}{μ μ1:List Addr}{H H1:Hp}{D:Ends}{W:XK}(e:Ext μ H μ1 H1):∀{c:SR},mB T μ H D W c->mB T μ1 H1 D W c|.nx _ _,h=>λμ2 H2 v e2=>h μ2 H2 v (e.trans e2)|.rt _ _,h=>λμ2 H2 v e2=>h μ2 H2 v (e.trans e2)|.bk _ _,h=>λμ2 H2 v e2=>h μ2 H2 v (e.trans e2)|.ct _ _,h=>λμ2 H2 v e2=>h μ2 H2 v (e.trans e2)|.er _ _,h=>λμ2 H2 c d e2=>h μ2 H2 c d (e.trans e2)|.stk,h=>h
def SR.of(r:R A)(k:A->ag->SR):SR:=match r with
 |.ok a S=>k a S|.err e S=>.er e S|.stk=>.stk
section
variable {T:Tb}{r:AM}{t:TM}{a c:Expr}{m:EM}{pos p:Pos}
inductive Tg where
 |nm (i:Nat)|tp (ts:List Tg)
mutual
def Tg.sl:Tg->List Nat|.nm i=>[i]|.tp ts=>Tg.sls ts
def Tg.sls:List Tg->List Nat|[]=>[]|t::ts=>Tg.sl t++Tg.sls ts
end
def ON(sl:List Nat)(σ σ':L2.St):Prop:=σ'.length=σ.length/\∀j,j∉sl->σ'[j]?=σ[j]?
theorem av.set{μ:List Addr}{H:Hp}:∀{ds:List D}{vs:List V}{d:D}{v:V}(j:Nat),av T μ H ds vs->Rep T μ H d v->av T μ H (ds.set j d) (vs.set j v)
 |[],vs,d,v,j,h,r=>by simp only[av]at h;subst h;simp only[List.set_nil,av]|x::ds,vs,d,v,j,h,r=>by
  simp only[av]at h;obtain⟨w,ws,rfl,h1,h2⟩:=h;cases j with
  |zero=>simp only[List.set_cons_zero,av];exact⟨v,ws,rfl,r,h2⟩|succ j=>simp only[List.set_cons_succ,av];exact⟨w,_,rfl,h1,av.set j h2 r⟩
theorem ON.sub{sl vs:List Nat}{σ σ':L2.St}(h:ON sl σ σ')(k:∀j∈sl,j∈vs):ON vs σ σ':=⟨h.1,λj hj=>h.2 j λz=>hj (k j z)⟩
mutual
theorem uQ{μ:List Addr}{t:List Addr}{H:Hp}:∀{d:D}{v:V},Rep T (μ++t) H d v->Rep T μ H d v
 |.non,_,h=>by simpa only[Rep]using h|.bl _,_,h=>by simpa only[Rep]using h|.int _,_,h=>by simpa only[Rep]using h|.str _,_,h=>by simpa only[Rep]using h|.cls _,_,h=>by simpa only[Rep]using h|.ty _,_,h=>by simpa only[Rep]using h|.adr _,_,h=>by simpa only[Rep]using h|.ptr _,_,h=>by simpa only[Rep]using h|.fn i,_,h=>by simp only[Rep]at h ⊢;obtain⟨f,c',dV,e1,n,h1,n2,h2,h3⟩:=h;refine⟨f,c',dV,e1,n.less,h1,n2.less,h2,?_⟩;rcases h3 with h3|⟨dt,e3,n3,h3⟩;exact .inl h3;·exact .inr ⟨dt,e3,n3.less,h3⟩
 |.tup ds,v,h=>by simp only[Rep]at h ⊢;obtain⟨a,vs,e1,h1,h2⟩:=h;refine⟨a,vs,e1,?_,aM h2⟩;rcases h1 with ⟨n,h1⟩|h1;exact .inl ⟨n.less,h1⟩;·exact .inr h1
 |.lst ds,v,h=>by simp only[Rep]at h ⊢;obtain⟨a,vs,e1,h1,h2⟩:=h;exact⟨a,vs,e1,⟨h1.1.less,h1.2⟩,aM h2⟩
 |.gX ks ds,v,h=>by simp only[Rep]at h ⊢;obtain⟨a,vs,e1,h1,h2⟩:=h;exact⟨a,vs,e1,⟨h1.1.less,h1.2⟩,aM h2⟩
 |.fz ds,v,h=>by simp only[Rep]at h ⊢;obtain⟨a,vs,e1,h1,h2⟩:=h;refine⟨a,vs,e1,?_,aM h2⟩;rcases h1 with ⟨n,h1⟩|h1;exact .inl ⟨n.less,h1⟩;·exact .inr h1
 |.obj k fs,v,h=>by simp only[Rep]at h ⊢;obtain⟨a,dx,vfs,e1,n,h1,h2⟩:=h;exact⟨a,dx,vfs,e1,n.less,h1,uR h2⟩
 |.exc k fs,v,h=>by simp only[Rep]at h ⊢;obtain⟨a,dx,vfs,e1,⟨n,h1,n2,h3⟩,h2⟩:=h;exact⟨a,dx,vfs,e1,⟨n.less,h1,n2.less,h3⟩,uR h2⟩
 |.yD ks xs,v,h=>by simp only[Rep]at h ⊢;obtain⟨a,o,ws,us,e1,⟨n,h1,h2⟩,h3,h4⟩:=h;exact⟨a,o,ws,us,e1,⟨n.less,h1,h2⟩,aM h3,aM h4⟩
theorem aM{μ:List Addr}{t:List Addr}{H:Hp}:∀{ds:List D}{vs:List V},av T (μ++t) H ds vs->av T μ H ds vs|[],_,h=>by simpa only[av]using h|d::ds,vs,h=>by simp only[av]at h ⊢;obtain⟨v,ws,e1,h1,h2⟩:=h;exact⟨v,ws,e1,uQ h1,aM h2⟩
theorem uR{μ:List Addr}{t:List Addr}{H:Hp}:∀{ds:List (Str×D)}{vs:List (Str×V)},dB T (μ++t) H ds vs->dB T μ H ds vs|[],_,h=>by simpa only[dB]using h|(f,d)::ds,vs,h=>by simp only[dB]at h ⊢;obtain⟨v,ws,e1,h1,h2⟩:=h;exact⟨v,ws,e1,uQ h1,uR h2⟩
end
theorem OO{μ t:List Addr}{H:Hp}{d:D}{v:V}(h:vO T (μ++t) H d v):vO T μ H d v:=by
 cases d with
 |lst ds =>obtain⟨q,vs,e1,n,h1,h2⟩:=h;exact⟨q,vs,e1,λm=>n (List.mem_append_left _ m),h1,aM h2⟩
 |gX ks ds =>obtain⟨q,vs,e1,n,h1,h2,h3⟩:=h;exact⟨q,vs,e1,λm=>n (List.mem_append_left _ m),h1,h2,aM h3⟩
 |yD ks xs =>obtain⟨q,o,ws,us,e1,n,h1,h2,h3,h4⟩:=h;exact⟨q,o,ws,us,e1,λm=>n (List.mem_append_left _ m),h1,h2,aM h3,aM h4⟩
 |_=>exact h.elim
theorem rB{μ t:List Addr}{H:Hp}:∀{ds:List (Str×D)}{vs:List (Str×V)},j8 T (μ++t) H ds vs->j8 T μ H ds vs|[],_,h=>h|(f,d)::ds,vs,h=>by obtain⟨v,ws,e1,h1,h2⟩:=h;refine⟨v,ws,e1,?_,rB h2⟩;by_cases c:zt.contains f=true;rw[if_pos c]at h1 ⊢;exact⟨OO h1.1,h1.2⟩;·rw[if_neg c]at h1 ⊢;exact uQ h1
theorem aI.drop{μ:List Addr}{H:Hp}{S:ag}{p:Addr}{acc:List D}(k:aI T (μ++[p]) H S)(hn:S.length=μ.length+1)(hl:S[μ.length]?=some (.lst acc))(hi:T.I μ H) :aI T μ H (S.take μ.length)/\∃vs,H p=some (.lst vs)/\av T (μ++[p]) H acc vs:=by
 have np:p∉μ:=λm=>by have:=k.nd;rw[List.nodup_append]at this;exact this.2.2 p m p (by simp) rfl
 have gp:(μ++[p])[μ.length]?=some p:=by rw[List.getElem?_append_right (Nat.le_refl _)];simp
 refine⟨⟨by rw[List.length_take];omega,(List.nodup_append.mp k.nd).1,λi a o h1 h2=>?_,λa ha=>k.tr a (List.mem_append_left _ ha),hi,λp hp p' hp'=>k.ex p (List.mem_append_left _ hp) p' (List.mem_append_left _ hp'),k.pt.take⟩,k.at_ _ _ _ gp hl⟩;have hi:i<μ.length:=(List.getElem?_eq_some_iff.mp h1).1;rw[List.getElem?_take_of_lt hi]at h2;have q:=k.at_ i a o (by rw[List.getElem?_append_left hi];exact h1) h2;cases o with
 |lst ds =>obtain⟨vs,q1,q2⟩:=q;exact⟨vs,q1,aM q2⟩
 |gX kvs =>obtain⟨vs,q1,q2⟩:=q;exact⟨vs,q1,aM q2⟩
 |Tf kvs =>obtain⟨od,vs,q1,q2⟩:=q;exact⟨od,vs,q1,aM q2⟩
 |x kd ks xs =>obtain⟨u,ws,us,q1,q2,q3,q4⟩:=q;exact⟨u,ws,us,q1,q2,aM q3,aM q4⟩
 |ins c fs =>obtain⟨dx,vfs,q1,q2⟩:=q;exact⟨dx,vfs,q1,rB q2⟩
 |tab P nm =>obtain⟨ps,q0,q1,q2,q3⟩:=q;refine⟨ps,q0,q1,q2,λpos cv hc=>?_⟩;obtain⟨c,z1,z2,z3⟩:=q3 pos cv hc;exact⟨c,z1,z2.less,z3⟩
end
abbrev FM:=List A->ag->R A
def FW(T:Tb)(fM:FM):Sp:=λvs H Q E=>∃μ S xs,cU T μ H xs vs/\aI T μ H S/\oU T (λμ H=>aH T μ H) μ H Q E (fM xs S)
def SR.Lj:SR->R A|.nx _ S=>.ok (.v .non) S|.rt a S=>.ok a S|.er e S=>.err e S|_=>.stk
section
variable {P:Program}{w:World}{T:Tb}{mg:Str->Option Value}{base:Heap}{e a c:Expr}{r:AM}{pos p:Pos}{x m:Str}{k:Nat}{f:Addr}{ps:List Str}{ds:List Value}
abbrev FD(P:Program)(w:World)(T:Tb)(mg:Str->Option Value)(base:Heap)(k:Nat)(f:Addr)(fd:FuncData)(ps:List Str)(fM:FM):Prop:=FnOk P w T.K mg base (Au T.nn P w) k f fd ps (FW T fM)
theorem vO.Lj{μ:List Addr}{H:Hp}{d:D}{q:Addr}(n:NI μ H q)(h:vO T μ H d (.ref q)):Rep T μ H d (.ref q):=by
 cases d with
 |lst ds =>obtain⟨p,vs,e1,_,h1,h2⟩:=h;cases e1;simp only[Rep];exact⟨q,vs,rfl,⟨n,h1⟩,h2⟩
 |gX ks ds =>obtain⟨p,vs,e1,_,h1,_,h3⟩:=h;cases e1;simp only[Rep];exact⟨q,vs,rfl,⟨n,.inl h1⟩,h3⟩
 |yD ks xs =>obtain⟨p,o,ws,us,e1,_,h1,h2,h3,h4⟩:=h;cases e1;simp only[Rep];exact⟨q,o,ws,us,rfl,⟨n,h1,h2⟩,h3,h4⟩
 |_=>exact h.elim
theorem j8.toF{μ:List Addr}{H:Hp}:∀{fs:List (Str×D)}{vs:List (Str×V)},(∀f q,zt.contains f=true->(f,V.ref q)∈vs->NI μ H q)->j8 T μ H fs vs->dB T μ H fs vs|[],vs,_,h=>by have:vs=[]:=h;subst this;simp only[dB]|(f,d)::fs,vs,k,h=>by obtain⟨v,ws,e1,h1,h2⟩:=h;subst e1;simp only[dB];refine⟨v,ws,rfl,?_,j8.toF (λf q o m=>k f q o (List.mem_cons_of_mem _ m)) h2⟩;by_cases c:zt.contains f=true;rw[if_pos c]at h1;obtain⟨q,o,rfl,n,h3⟩:=h1.1.ref;exact h1.1.Lj (k f q c List.mem_cons_self);·rw[if_neg c]at h1;exact h1
theorem aI.ZP{μ t:List Addr}{H:Hp}{S:ag}{x dx C:Addr}{fs:List (Str×D)}{vfs:List (Str×V)}(k:aI T (μ++t) H S)(mx:x∈μ++t)(nx:x∉μ)(hx:H x=some (.ins C dx vfs))(r:j8 T (μ++t) H fs vfs):dB T μ H fs vfs:=
 j8.toF (λf q c m=>⟨λz=>(k.owned mx (⟨C,dx,vfs,f,hx,c,m⟩:FV H x q)).1 (List.mem_append_left _ z),λp hp ⟨C',dx',vfs',f',h1,c1,m1⟩=>by obtain⟨e,_⟩:=k.ex p (List.mem_append_left _ hp) x mx q _ _ _ f' _ _ _ f h1 hx c1 c m1 m;subst e;exact nx hp⟩) (rB r)
theorem aI.less{μ:List Addr}{H:Hp}{S:ag}{p:Addr}(st:aI T (μ++[p]) H S)(hn:S.length=μ.length+1)(hi:T.I μ H):aI T μ H (S.take μ.length):=by
 refine⟨by rw[List.length_take];omega,(List.nodup_append.mp st.nd).1,λi a o h1 h2=>?_,λa ha=>st.tr a (List.mem_append_left _ ha),hi,λp hp p' hp'=>st.ex p (List.mem_append_left _ hp) p' (List.mem_append_left _ hp'),st.pt.take⟩;have hi:i<μ.length:=(List.getElem?_eq_some_iff.mp h1).1;rw[List.getElem?_take_of_lt hi]at h2;have q:=st.at_ i a o (by rw[List.getElem?_append_left hi];exact h1) h2;cases o with
 |lst ds =>obtain⟨vs,q1,q2⟩:=q;exact⟨vs,q1,aM q2⟩
 |gX kvs =>obtain⟨vs,q1,q2⟩:=q;exact⟨vs,q1,aM q2⟩
 |Tf kvs =>obtain⟨od,vs,q1,q2⟩:=q;exact⟨od,vs,q1,aM q2⟩
 |x kd ks xs =>obtain⟨u,ws,us,q1,q2,q3,q4⟩:=q;exact⟨u,ws,us,q1,q2,aM q3,aM q4⟩
 |ins c fs =>obtain⟨dx,vfs,q1,q2⟩:=q;exact⟨dx,vfs,q1,rB q2⟩
 |tab P nm =>obtain⟨ps,q0,q1,q2,q3⟩:=q;refine⟨ps,q0,q1,q2,λpos cv hc=>?_⟩;obtain⟨c,z1,z2,z3⟩:=q3 pos cv hc;exact⟨c,z1,z2.less,z3⟩
end
open NdefX
def Gb(K:PySem.W.Frag)(cc:Addr):Option Value:=match K.lookup cc with
 |some ⟨_,_,.cell (some v),_⟩=>some v|_=>none
def Ge(K:PySem.W.Frag)(c:Addr)(main:Str):Bool:=match K.lookup c with
 |some ⟨_,_,.fields vs,_⟩=>(match vs[2]? with
  |some (Value.str g _)=>main == g|_=>false)
 |_=>false
abbrev kO:=Nat ⊕ Str
def Tb.wI(T:Tb)(J:List Addr->Hp->Prop)(hJ:∀{μ H μ' H'},Ext μ H μ' H'->J μ H->J μ' H')(hS:∀{μ H H'},Sw μ H H'->J μ H->J μ H'):Tb:={ T with I:=J,mono:=hJ,sw:=hS }
def DZ(P:Program)(w:World)(K:PySem.W.Frag)(mg:Str->Option Value)(base:Heap)(T:Tb)(k i:Nat)(m:ag->R A):Prop:=
 ∀(A:Around) (outer:List PySem.Env) (s:Shared) (H:Hp) (μ:List Addr) (S:ag) (Q:VK) (E:XK) (f:Addr),Room k A->Env0 P w K mg base A outer s H->aI T μ H S->aH T μ H (.v (.fn i)) (.ref f)->oU T (λμ H=>aH T μ H) μ H Q E (m S) ->
  codeAny (model P w) A (.call (.ref f) ⟨[],[]⟩) (CR (Au T.nn P w) outer P w H s Q E) s
theorem DZ.mono{P:Program}{w:World}{K:PySem.W.Frag}{mg:Str->Option Value}{base:Heap}{T:Tb}{j k i:Nat}{m:ag->R A}(h:DZ P w K mg base T j i m)(hj:j<=k):DZ P w K mg base T k i m:=λA outer s H μ S Q E f hr=>h A outer s H μ S Q E f (hr.mono hj)
section
open L2H (RoomH PinOk cxH inv_startH roomH_of)
def ErD(T:Tb)(e:Er)(d:Option Addr):List Addr->Hp->Prop:=λμ H=>∃dd vfs,d=some dd/\NI μ H dd/\H dd=some (.xd vfs)/\dB T μ H e.fs vfs
theorem ErD.mono{T:Tb}{e:Er}{d:Option Addr}:∀{μ H μ' H'},Ext μ H μ' H'->ErD T e d μ H->ErD T e d μ' H':=λx ⟨dd,vfs,h1,h2,h3,h4⟩=>⟨dd,vfs,h1,x.nB h3 h2,x.keep _ _ h3 h2,h4.mono x⟩
def exI(T:Tb)(e:Er)(d:Option Addr):List Addr->Hp->Prop:=λμ H=>T.I μ H/\ErD T e d μ H
theorem PQ{T:Tb}{e:Er}{d:Option Addr}:∀{μ H μ' H'},Ext μ H μ' H'->exI T e d μ H->exI T e d μ' H':=λx h=>⟨T.mono x h.1,h.2.mono x⟩
theorem Xf{T:Tb}{e:Er}{d:Option Addr}:∀{μ H H'},Sw μ H H'->exI T e d μ H->exI T e d μ H':=λx ⟨h,dd,vfs,h1,h2,h3,h4⟩=>⟨T.sw x h,dd,vfs,h1,h2.sw x,x.F7 _ _ h3 (λk z=>by cases z) (λo k z=>by cases z),h4.sw x⟩
abbrev Tb.ex(T:Tb)(e:Er)(d:Option Addr):Tb:=T.wI (exI T e d) PQ Xf
end
section
open L2H (RoomH PinOk cxH inv_startH roomH_of)
abbrev Th:=A->A->ag->R A
def Th.of(g:tK):Th:=λa b S=>.xm (g a b S) S
end
section
open L2H (RoomH PinOk cxH inv_startH roomH_of)
def yV:List String:=["NoneType", "bool", "int", "str", "tuple", "list"]
end
theorem FD.none{P:Program}{w:World}{T:Tb}{mg:Str->Option Value}{base:Heap}{k:Nat}{f:Addr}{fd:FuncData}{ps:List Str}:FD P w T mg base k f fd ps (λ_ _=>.stk):=
 ⟨λvs H Q E ⟨_,_,_,_,_,h⟩=>h.elim,λA outer s H args us vs Q E hr e0 hb r ⟨_,_,_,_,_,h⟩=>h.elim⟩
inductive AtQ where
 |ga (x:Str)|ma (C m:Str)|re (T:String) (C m:Str)
def AtQ.at(K:PySem.W.Frag):AtQ->Addr
 |.ga x=>He.ga K x|.ma C m=>He.ma K (He.ga K C) m|.re T C m=>match PySem.W.recIn K (He.ma K (He.ga K C) m) T with
  |some (.ref g::_)=>g|_=>0
structure bA where
 a:AtQ
 name:Str
 qual:Str
 st:Stmt
 FT:List Str:=[]
def bA.at_(d:bA)(K:PySem.W.Frag):Addr:=d.a.at K
abbrev FnO:Type:=Option (Str×Str×Arguments×FuncBody×Scope×Addr×List Str×Addr)
def PR(K:PySem.W.Frag)(a:Addr):FnO:=match K.lookup a with
 |some ⟨_,_,.func fd,_⟩=>some (fd.name,fd.qualname,fd.params,fd.body,fd.scope,fd.globals,fd.closure.map (·.1),fd.builtins)|_=>none
def bA.val(d:bA):FnO:=some (d.name,d.qual,defArgs d.st,.stmts (defBody d.st),defScope d.st,mainGlobals,d.FT,builtinsNs)
def PU:Value->Bool|.none=>true|_=>false
theorem PV{v:Value}(h:PU v=true):v=.none:=by cases v<;>first|rfl|cases h
def bA.ok(K:PySem.W.Frag)(d:bA):Bool:=PySem.W.keepIn K (.ref (d.at_ K))&&(match K.lookup (d.at_ K) with
 |some ⟨_,_,.func fd,_⟩=>PySem.W.codeIn K fd.code d.qual&&PU fd.defaults|_=>false)
theorem jk{a b:Bool}(h:(a&&b)=true):a=true/\b=true:=Bool.and_eq_true_iff.mp h
theorem bA.get{K:PySem.W.Frag}{d:bA}(e:PR K (d.at_ K)=d.val)(c:d.ok K=true):PySem.W.keepIn K (.ref (d.at_ K))=true/\∃oc od osl FT kV doc pm an cdv ct,FT.map (·.1)=d.FT/\PySem.W.codeIn K cdv d.qual=true /\
  K.lookup (d.at_ K)=some ⟨oc,od,.func (PySem.W.fnX d.name d.qual (defArgs d.st) (defBody d.st) (defScope d.st) FT .none kV doc pm an cdv ct),osl⟩:=by
 obtain⟨kp,c2⟩:=jk c;refine⟨kp,?_⟩;unfold PR at e;cases q:K.lookup (d.at_ K) with
 |none=>rw[q]at c2;cases c2|some o=>
  obtain⟨oc,od,dt,osl⟩:=o;rw[q]at c2 e;cases dt with
  |func fd =>obtain⟨n1,n2,n3,n4,n5,n6,n7,n8,n9,n10,n11,n12,n13,n14,n15⟩:=fd;have e2:(some (n1,n2,n3,n4,n5,n6,n7.map (·.1),n15):FnO)=some (d.name,d.qual,defArgs d.st,.stmts (defBody d.st),defScope d.st,mainGlobals,d.FT,builtinsNs):=e;simp only[Option.some.injEq,Prod.mk.injEq]at e2;obtain⟨h1,h2,h3,h4,h5,h6,h7,h8⟩:=e2;subst h1 h2 h3 h4 h5 h6 h8;obtain⟨k1,k2⟩:=jk (show(PySem.W.codeIn K n13 d.qual&&PU n8)=true from c2);have e8:n8=.none:=PV k2;subst e8;exact⟨oc,od,osl,n7,n9,n10,n11,n12,n13,n14,h7,k1,rfl⟩
  |_=>cases c2
def Hm(K:PySem.W.Frag):Value:=match K.lookup (He.ga K "law") with
 |some ⟨_,_,.func fd,_⟩=>fd.code|_=>.none
def Xg(o:Option Obj):Bool:=match o with
 |some ⟨.none,none,.fields vs,sl⟩=>vs.size == 0&&sl.size == 0|_=>false
theorem Tv{o:Option Obj}(h:Xg o=true):o=some { cls:=.none,data:=.fields #[] }:=by unfold Xg at h;split at h;rename_i vs sl;obtain⟨h1,h2⟩:=jk h;have e1:vs=#[]:=Array.eq_empty_of_size_eq_zero (by simpa using h1);have e2:sl=#[]:=Array.eq_empty_of_size_eq_zero (by simpa using h2);subst e1 e2;rfl;·cases h
def cut(K:PySem.W.Frag)(P:Addr):PySem.W.Frag:=K.filter λp=>p.1 != P
theorem Ax{P:Addr}:∀K:PySem.W.Frag,(cut K P).lookup P=none
 |[]=>rfl|(b,o)::r=>by
  unfold cut;rw[List.filter_cons];split
  ·rename_i h;rw[List.lookup_cons];have:(P == b)=false:=by have h2:(b != P)=true:=h;simp only[bne_iff_ne,ne_eq]at h2;simpa using λz:P=b=>h2 z.symm
   rw[this];exact Ax r
  ·exact Ax r
theorem Hn{P a:Addr}{o:Obj}:∀K:PySem.W.Frag,(cut K P).lookup a=some o->K.lookup a=some o
 |[],e=>by cases e|(b,o')::r,e=>by
  unfold cut at e;rw[List.filter_cons]at e;split at e;·rw[List.lookup_cons]at e ⊢;cases q:a == b with|true=>rw[q]at e;exact e|false=>rw[q]at e;exact Hn r e
  ·rename_i h;have e2:=Hn r e;rw[List.lookup_cons];cases q:a == b with|true =>have hb:b=P:=(by simpa using h);have ha:a=P:=(eq_of_beq q).trans hb;subst ha;have hn:=Ax (P:=a) r;have e3:(cut r a).lookup a=some o:=e;rw[hn]at e3;cases e3|false=>exact e2
def Xh(m a:Nat):Bool:=Nat.beq (Nat.land (Nat.shiftRight m a) 1) 1
def Ho:List Addr->Nat->List Addr->List Addr×Nat
 |[],m,l=>(l,m)|a::r,m,l=>match Xh m a with
  |true=>Ho r m l|false=>Ho r (Nat.lor m (Nat.shiftLeft 1 a)) (a::l)
def aak(g:Addr->Option Obj)(as:List Addr):List Addr:=as.flatMap λa=>match g a with
 |some o=>He.refsD o|none=>[]
def PY(g:Addr->Option Obj):Nat->List Addr->Nat->List Addr
 |0,as,_=>as|n+1,as,m=>match Ho (aak g as) m []with
  |(bs,m2)=>as++PY g n bs m2
def asU(g:Addr->Option Obj)(roots:List Addr)(n:Nat):List Addr:=match Ho roots 0 []with
 |(as,m)=>PY g n as m
abbrev AlU:Type:=Bool×List FnO
def Xi(ok:PySem.W.Frag->Bool)(fn:List bA)(K0:PySem.W.Frag):AlU:=match PySem.W.tabIn K0 "law" with
 |some (c,P)=>(Xg (K0.lookup P)&&(PySem.W.codeHdIn (cut K0 P) c P&&(decide (Hm (cut K0 P)=.ref c)&&(ok (cut K0 P)&&fn.all λd=>d.ok (cut K0 P)))),fn.map λd=>PR (cut K0 P) (d.at_ (cut K0 P)))|none=>(false,[])
def aal(fn:List bA):AlU:=(true,fn.map bA.val)
structure D1 (ok:PySem.W.Frag->Bool) (fn:List bA) (K:PySem.W.Frag) (c P:Addr) (h:Heap):Prop where
 kin:K.In h
 no:K.lookup P=none
 tab:h.get? P=some { cls:=.none,data:=.fields #[] }
 hd:PySem.W.CodeHd h c P
 code:Hm K=.ref c
 ok:ok K=true
 Xb:∀d∈fn,d.ok K=true
 fn:fn.map (λd=>PR K (d.at_ K))=fn.map bA.val
section
variable {ok:PySem.W.Frag->Bool}{fn:List bA}{K:PySem.W.Frag}{c P:Addr}{h:Heap}
theorem D1.eq(z:D1 ok fn K c P h)(i:Nat){d:bA}(hd:fn[i]?=some d):PR K (d.at_ K)=d.val:=by
 have e2:(fn.map λd=>PR K (d.at_ K))[i]?=(fn.map bA.val)[i]?:=by rw[z.fn]
 rw[List.getElem?_map,List.getElem?_map,hd]at e2;exact Option.some.inj e2
end
def oB(a b:Option (Option Value)):Bool:=decide (a=b)
section
variable {K:PySem.W.Frag}
def PZ(K:PySem.W.Frag)(C:Addr)(f:Str):Addr:=match PySem.W.recIn K (He.ma K C f) "property" with
 |some (.ref g::_)=>g|_=>0
def P0(K:PySem.W.Frag)(C:Addr)(f:Str):Bool:=oB (PySem.W.findIn K (.ref C) f) (some (some (.ref (He.ma K C f))))&&(oB (PySem.W.specialIn K (.ref (He.ma K C f)) "__get__") (some (some (.builtin "property.__get__")))&&(decide (PySem.W.takesIn K (.ref (He.ma K C f))=some true)&&(PySem.W.recIn K (He.ma K C f) "property").any λl=>match l with
 |.ref g::_=>g == PZ K C f|_=>false))
def MM(K:PySem.W.Frag)(C:Addr)(m:Str):Addr:=match PySem.W.recIn K (He.ma K C m) "staticmethod" with
 |some (.ref f::_)=>f|_=>0
def V8(K:PySem.W.Frag)(C:Addr)(m:Str):Bool:=oB (PySem.W.specialIn K (.ref C) "__getattribute__") (some (some (.builtin "type.__getattribute__")))&&(PySem.W.keepIn K (.ref (MM K C m))&&(match PySem.W.typeIn K (.ref C) with
 |some mc=>PySem.W.readsIn K C mc&&(match PySem.W.findCls K (.ref C) mc m with
  | some (.get (.builtin b) (.ref p) .none (.ref C'))=>decide (b = "staticmethod.__get__")&&(decide (p=He.ma K C m)&&(decide (C'=C)&&(PySem.W.recIn K (He.ma K C m) "staticmethod").any λl=>match l with
   |.ref g::_=>g == MM K C m|_=>false))
  |_=>false)
 |none=>false))
def P1(K:PySem.W.Frag)(C:Addr):Bool:=(match K.lookup C with
 |some ⟨.type "type",_,.cls cd,sl⟩=>(match cd.mro,sl.toList with
  |.ref C'::bm,[_,_,_,_,some (.builtin n),_]=>C' == C&&(n == "ValueError.__new__" && (!cd.hasDel&&(cd.hasDict&&PySem.HandSPX.refsVE bm)))|_,_=>false)
 |_=>false)&&(oB (PySem.W.findIn K (.ref C) "__setattr__") (some (some (.builtin "object.__setattr__")))&&(decide (PySem.W.subIn K (.ref C) (.type "BaseException")=some true)&&(decide (PySem.W.typeIn K (.ref C)=some (.type "type"))&&PySem.W.keepIn K (.ref C))))
def Tw(K:PySem.W.Frag)(C:Addr)(main:Str)(cdv:Value)(FT:List (Str×Addr)):Bool:=match cdv,FT with
 |.ref c,[(_,cc)]=>decide (Gb K cc=some (.ref C))&&Ge K c main|_,_=>false
def Tx(K:PySem.W.Frag)(d:bA)(C:Addr)(main:Str)(fl:List Str):Bool:=oB (PySem.W.findIn K (.ref C) "__init__") (some (some (.ref (d.at_ K))))&&(decide (PySem.W.typeIn K (.ref (d.at_ K))=some (.type "function"))&&(oB (PySem.W.ks_superIn K C C "__init__") (some (some (.builtin "ValueError.__init__")))&&(decide (PySem.W.subIn K (.ref C) (.type "ValueError")=some true)&&(decide (PySem.W.mroIn K C (.ref C)=some true)&&(oB (PySem.W.nsIn K cStatics "thirdparty.any") (some none) &&
 ((fl.all λf=>oB (PySem.W.findIn K (.ref C) f) (some none))&&(match K.lookup (d.at_ K) with
  |some ⟨_,_,.func fd,_⟩=>Tw K C main fd.code fd.closure|_=>false)))))))
def Xj(K:PySem.W.Frag)(C:Addr):Bool:=(yV.all λn=>decide (PySem.W.kitOne K (.type n) (.ref C)=some false))&&(oB (PySem.W.findIn K (.ref C) "__class__") (some (some (.builtin "object.__class__")))&&(oB (PySem.W.specialIn K (.builtin "object.__class__") "__get__") (some (some (.builtin "getset_descriptor.__get__")))&&(decide (PySem.W.takesIn K (.builtin "object.__class__")=some true)&&decide (PySem.W.mroIn K C (.type "object")=some true))))
def aam(K:PySem.W.Frag)(cA:Nat->Addr)(cs:List Nat):Bool:=cs.all λk=>Xj K (cA k)&&(PySem.W.plainGet K (cA k) Str.empty&&(PySem.W.hasDictIn K (cA k)&&(PySem.W.plainOver K (cA k)&&(He.eqO (PySem.W.findIn K (.ref (cA k)) "__setattr__") (some (some (.builtin "object.__setattr__")))&&cs.all λk'=>decide (PySem.W.kitOne K (.ref (cA k')) (.ref (cA k))=some (k' == k))))))
end
abbrev e0:Expr:=.Name "" ⟨0,0,0,0⟩
theorem DZ.none{P:Program}{w:World}{K:PySem.W.Frag}{mg:Str->Option Value}{base:Heap}{T:Tb}{k i:Nat}:DZ P w K mg base T k i (λ_=>.stk):=λ_ _ _ _ _ _ _ _ _ _ _ _ _ h=>h.elim
section
variable {T:Tb}{μ t:List Addr}{H:Hp}{S:ag}
theorem aI.cutS(k:aI T (μ++t) H S)(hi:T.I μ H):aI T μ H (S.take μ.length):=by
 have hl:μ.length<=S.length:=by have:=k.len;rw[List.length_append]at this;omega
 refine⟨by rw[List.length_take];omega,(List.nodup_append.mp k.nd).1,λi a o h1 h2=>?_,λa ha=>k.tr a (List.mem_append_left _ ha),hi,λp hp p' hp'=>k.ex p (List.mem_append_left _ hp) p' (List.mem_append_left _ hp'),k.pt.take⟩;have hi:i<μ.length:=(List.getElem?_eq_some_iff.mp h1).1;rw[List.getElem?_take_of_lt hi]at h2;have q:=k.at_ i a o (by rw[List.getElem?_append_left hi];exact h1) h2;cases o with
 |lst ds =>obtain⟨vs,q1,q2⟩:=q;exact⟨vs,q1,aM q2⟩
 |gX kvs =>obtain⟨vs,q1,q2⟩:=q;exact⟨vs,q1,aM q2⟩
 |Tf kvs =>obtain⟨od,vs,q1,q2⟩:=q;exact⟨od,vs,q1,aM q2⟩
 |x kd ks xs =>obtain⟨u,ws,us,q1,q2,q3,q4⟩:=q;exact⟨u,ws,us,q1,q2,aM q3,aM q4⟩
 |ins c fs =>obtain⟨dx,vfs,q1,q2⟩:=q;exact⟨dx,vfs,q1,rB q2⟩
 |tab P nm =>obtain⟨ps,q0,q1,q2,q3⟩:=q;refine⟨ps,q0,q1,q2,λpos cv hc=>?_⟩;obtain⟨c,z1,z2,z3⟩:=q3 pos cv hc;exact⟨c,z1,z2.less,z3⟩
theorem Ext.Mz{H':Hp}(e:Ext μ H (μ++t) H'):Ext μ H μ H':=⟨⟨[],by simp⟩,e.keep,λa ha na=>absurd ha na,λa o h n p hp=>e.own a o h n p (List.mem_append_left _ hp),e.Mx,e.ZO⟩
theorem Aw.acs{e:Er}{c:Value}{d:Option Addr}(h:Aw T (μ++t) H e c d):Aw T μ H e c d:=by obtain⟨h1,dd,vfs,h2,h3,h4,h5⟩:=h;exact⟨h1,dd,vfs,h2,h3.less,h4,uR h5⟩
theorem P2{p:Addr}{n:Nat}(h:(μ++t).Nodup)(hp:(μ++t)[n]?=some p)(hn:μ.length<=n):p∉μ:=λm=>by rw[List.getElem?_append_right hn]at hp;exact(List.nodup_append.mp h).2.2 p m p (List.mem_of_getElem? hp) rfl
def MN(n:Nat):R A->R A
 |.ok (.v d) S'=>.ok (.v d) (S'.take n)|.ok (.m j) S'=>if j<n then .ok (.m j) (S'.take n) else match S'[j]? with
  |some (.lst ds)=>.ok (.v (.lst ds)) (S'.take n)|some (.ins k fs)=>.ok (.v (.obj k fs)) (S'.take n)|some (.gX kvs)=>.ok (.v (.gX (kvs.map Prod.fst) (kvs.map Prod.snd))) (S'.take n)|some (.x .dn ks xs)=>.ok (.v (.yD ks xs)) (S'.take n)|_=>.stk
 |.err e S'=>.err e (S'.take n)|.stk=>.stk
theorem MQ{Q:VK}{W:XK}{c:R A}(hs:aI T μ H S)(h:oU T (λμ H=>aH T μ H) μ H Q W (MN S.length c)):oU T (λμ H=>aH T μ H) μ H Q W c:=by
 have hl:=hs.len;cases c with
 |stk=>exact h|err e S' =>intro μ' H' cls d ex hs' r;obtain⟨t,rfl⟩:=ex.pre;have e1:=ex.Mz;have k:=hs'.cutS (T.mono e1 hs.inv);rw[hl]at k;exact h μ H' cls d e1 k r.acs
 |ok a S'=>
  cases a with
  |v d =>intro μ' H' v ex hs' r;obtain⟨t,rfl⟩:=ex.pre;have e1:=ex.Mz;have k:=hs'.cutS (T.mono e1 hs.inv);rw[hl]at k;exact h μ H' v e1 k (uQ r)
  |m j=>
   intro μ' H' v ex hs' r;obtain⟨t,rfl⟩:=ex.pre;have e1:=ex.Mz;have k:=hs'.cutS (T.mono e1 hs.inv);rw[hl]at k;obtain⟨p,hp,rfl⟩:=r;simp only[MN]at h;by_cases hj:j<S.length;·rw[if_pos hj]at h;refine h μ H' _ e1 k ⟨p,?_,rfl⟩;rwa[List.getElem?_append_left (by rw[hl];exact hj)]at hp
   ·rw[if_neg hj]at h;have np0:=P2 hs'.nd hp (by omega);have np:=hs'.niD (List.mem_of_getElem? hp) np0;cases q:S'[j]? with
    |none=>simp only[q]at h;exact h.elim|some o=>
     simp only[q]at h;have at1:=hs'.at_ _ _ _ hp q;cases o with
     |lst ds =>obtain⟨vs,q1,q2⟩:=at1;refine h μ H' _ e1 k ?_;simp only[aH,Rep];exact⟨p,vs,rfl,⟨np,q1⟩,aM q2⟩
     |ins c fs =>obtain⟨dx,vfs,q1,q2⟩:=at1;refine h μ H' _ e1 k ?_;simp only[aH,Rep];exact⟨p,dx,vfs,rfl,np,q1,hs'.ZP (List.mem_of_getElem? hp) np0 q1 q2⟩
     |tab _ _=>exact h.elim|gX kvs =>obtain⟨vs,q1,q2⟩:=at1;refine h μ H' _ e1 k ?_;simp only[aH,Rep];exact⟨p,vs,rfl,⟨np,.inl q1⟩,aM q2⟩
     |Tf _=>exact h.elim|x kd ks xs=>
      cases kd with
      |si=>exact h.elim|sk=>exact h.elim|dn =>obtain⟨u,ws,us,q1,q2,q3,q4⟩:=at1;refine h μ H' _ e1 k ?_;simp only[aH,Rep];exact⟨p,u,ws,us,rfl,⟨np,q1,q2⟩,aM q3,aM q4⟩
def PH(fM:FM):FM:=λxs S=>MN S.length (fM xs S)
theorem P4{fM:FM}{vs:List V}{Q:VK}{E:XK}(h:FW T (PH fM) vs H Q E):FW T fM vs H Q E:=by obtain⟨μ,S,xs,r,hs,a⟩:=h;exact⟨μ,S,xs,r,hs,MQ hs a⟩
end
theorem FD.sc{P:Program}{w:World}{T:Tb}{mg:Str->Option Value}{base:Heap}{k:Nat}{f:Addr}{fd:FuncData}{ps:List Str}{fM:FM}(h:FD P w T mg base k f fd ps fM):FD P w T mg base k f fd ps (PH fM):=FnOk.imp h λvs H Q E=>P4
def fA(n:Nat)(S:ag):Option A->Option A
 |some (.m j)=>if j<n then some (.m j) else match S[j]? with
  |some (.lst ds)=>some (.v (.lst ds))|some (.ins k fs)=>some (.v (.obj k fs))|some (.gX kvs)=>some (.v (.gX (kvs.map Prod.fst) (kvs.map Prod.snd)))|some (.x .dn ks xs)=>some (.v (.yD ks xs))|_=>none
 |o=>o
section
variable {T:Tb}{μ t:List Addr}{H:Hp}{S':ag}{ρ:Env}{σ:L2.St}
theorem dw.Mz{n:Nat}(h:dw T (μ++t) H ρ σ)(hs:aI T (μ++t) H S')(hn:μ.length=n):dw T μ H (ρ.map (fA n S')) σ:=by
 refine⟨by rw[List.length_map];exact h.len,λi x e=>?_⟩;rw[List.getElem?_map]at e;cases q:ρ[i]? with
 |none=>rw[q]at e;cases e|some o=>
  rw[q]at e;cases o with
  |none=>cases e|some y=>
   obtain⟨v,e1,r⟩:=h.at_ i y q;refine⟨v,e1,?_⟩;cases y with
   |v d =>simp only[Option.map_some,fA,Option.some.injEq]at e;subst e;exact uQ r|m j=>
    obtain⟨p,hp,rfl⟩:=r;simp only[Option.map_some,fA,Option.some.injEq]at e;by_cases hj:j<n;·rw[if_pos hj]at e;cases e;refine⟨p,?_,rfl⟩;rwa[List.getElem?_append_left (by omega)]at hp
    ·rw[if_neg hj]at e;have np0:=P2 hs.nd hp (by omega);have np:=hs.niD (List.mem_of_getElem? hp) np0;cases q2:S'[j]? with
     |none=>simp only[q2]at e;cases e|some o=>
      simp only[q2]at e;have at1:=hs.at_ _ _ _ hp q2;cases o with
      |lst ds =>cases e;obtain⟨vs,z1,z2⟩:=at1;simp only[aH,Rep];exact⟨p,vs,rfl,⟨np,z1⟩,aM z2⟩
      |ins c fs =>cases e;obtain⟨dx,vfs,z1,z2⟩:=at1;simp only[aH,Rep];exact⟨p,dx,vfs,rfl,np,z1,hs.ZP (List.mem_of_getElem? hp) np0 z1 z2⟩
      |tab _ _=>cases e|gX kvs =>cases e;obtain⟨vs,z1,z2⟩:=at1;simp only[aH,Rep];exact⟨p,vs,rfl,⟨np,.inl z1⟩,aM z2⟩
      |Tf _=>cases e|x kd ks xs=>
       cases kd with
       |si=>cases e|sk=>cases e|dn =>cases e;obtain⟨u,ws,us,z1,z2,z3,z4⟩:=at1;simp only[aH,Rep];exact⟨p,u,ws,us,rfl,⟨np,z1,z2⟩,aM z3,aM z4⟩
end
inductive CV where
 |int (i:Int)|str (x:Str)
def CV.d:CV->D|.int i=>.int i|.str x=>.str x
def CV.v:CV->V|.int i=>.int i|.str x=>.str x
theorem CV.rep{T:Tb}{μ:List Addr}{H:Hp}(c:CV):Rep T μ H c.d c.v:=by cases c<;>simp only[CV.d,CV.v,Rep]
def P5(e:DictEntry):Option (Int×Str×CV):=match e.key,e.val with
 |.str k _,.str v _=>some (e.hash,k,.str v)|.str k _,.int v _=>some (e.hash,k,.int v)|_,_=>none
def P6(K:PySem.W.Frag)(a:Addr):Option (List (Option (Int×Str×CV))):=match K.lookup a with
 |some ⟨.type t,none,.dict es _,sl⟩=>if (t == "dict" && (sl.size == 0))=true then some (es.toList.map P5) else none
 |_=>none
def P7(w:World)(kvs:List (Str×CV)):Option (List (Option (Int×Str×CV))):=some (kvs.map λp=>some (hashStr w p.1,p.1,p.2))
structure KDict (P:Program) (w:World) (K:PySem.W.Frag) (a:Addr) (kvs:List (Str×CV)):Prop where
 ns:(a == sysModules)=false
 ex:∃vs:List (Key×Value),KV (kvs.map λp=>((.inr p.1:Key),p.2.v)) vs/\∀h:Heap,K.In h->h.DictOf (mixKind P w) a vs
theorem MR{e:DictEntry}{h:Int}{k:Str}{c:CV}(q:P5 e=some (h,k,c)):e.hash=h/\(∃t,e.key=.str k t)/\RelV c.v e.val:=by unfold P5 at q;split at q;rename_i k1 t1 v1 t2 e1 e2;cases q;exact⟨rfl,⟨t1,e1⟩,by rw[e2];exact⟨t2,rfl⟩⟩;rename_i k1 t1 v1 t2 e1 e2;cases q;exact⟨rfl,⟨t1,e1⟩,by rw[e2];exact⟨t2,rfl⟩⟩;·cases q
theorem Jw{P:Program}{w:World}{K:PySem.W.Frag}{a:Addr}{kvs:List (Str×CV)}(e:P6 K a=P7 w kvs)(nd:(kvs.map (·.1)).Nodup)(ns:(a == sysModules)=false):KDict P w K a kvs:=by
 unfold P6 P7 at e;split at e
 ·rename_i t es ep sl lk;split at e
  ·rename_i ht;simp only[Bool.and_eq_true,beq_iff_eq]at ht;obtain⟨rfl,hsl⟩:=ht;have e1:=Option.some.inj e;have key:∀(es:List DictEntry) (kvs:List (Str×CV)),es.map P5=kvs.map (λp=>some (hashStr w p.1,p.1,p.2)) ->
     ∃vs:List (Key×Value),KV (kvs.map λp=>((.inr p.1:Key),p.2.v)) vs/\(∀e∈es,∃k,(mixKind P w).is k e.key=true/\e.hash=(mixKind P w).hash k)/\Pairs (mixKind P w) es vs/\vs.map (·.1)=kvs.map λp=>(.inr p.1:Key):=by
    intro es;induction es with
    |nil=>
     intro kvs e;cases kvs with
     |nil=>exact⟨[],.nil,λe he=>by simp at he,.nil,rfl⟩|cons _ _=>cases e
    |cons x es ih=>
     intro kvs e;cases kvs with
     |nil=>cases e|cons p kvs =>simp only[List.map_cons,List.cons.injEq]at e;obtain⟨q1,q2⟩:=e;obtain⟨h1,⟨t,h2⟩,h3⟩:=MR q1;obtain⟨vs,g1,g2,g3,g4⟩:=ih kvs q2;have hk:(mixKind P w).is (.inr p.1) x.key=true:=kV_is (k:=.inr p.1) (by rw[h2];exact⟨t,rfl⟩);refine⟨(.inr p.1,x.val)::vs,.cons ⟨rfl,h3⟩ g1,λe he=>?_,.cons hk rfl g3,by rw[List.map_cons,List.map_cons,g4]⟩;rcases List.mem_cons.mp he with rfl|he;exact⟨_,hk,h1⟩;·exact g2 e he
   obtain⟨vs,g1,g2,g3,g4⟩:=key _ _ e1;refine⟨ns,vs,g1,λh KX=>⟨_,es,ep,KX _ _ lk,⟨rfl,rfl,Array.eq_empty_of_size_eq_zero hsl⟩,rfl,λe he=>g2 e (by simpa using he),g3,?_⟩⟩;rw[g4];have:(kvs.map λp=>(.inr p.1:Key))=(kvs.map (·.1)).map Sum.inr:=(by rw[List.map_map];rfl);rw[this];exact List.Pairwise.map _ (λa b h c=>h (Sum.inr.inj c)) nd
  ·cases e
 ·cases e
abbrev Jx:Type:=Str×List (Str×CV)
abbrev AlW:Type:=AlU×List (Option (List (Option (Int×Str×CV))))
def Xk(ok:PySem.W.Frag->Bool)(fn:List bA)(dc:List Jx)(K0:PySem.W.Frag):AlW:=(Xi ok fn K0,match PySem.W.tabIn K0 "law" with
 |some (_,P)=>dc.map λd=>P6 (cut K0 P) (He.ga (cut K0 P) d.1)|none=>[])
def aao(fn:List bA)(dc:List Jx)(w:World):AlW:=(aal fn,dc.map λd=>P7 w d.2)
structure D2 (ok:PySem.W.Frag->Bool) (fn:List bA) (dc:List Jx) (w:World) (K:PySem.W.Frag) (c P:Addr) (h:Heap):Prop where
 u:D1 ok fn K c P h
 dk:(dc.map λd=>P6 K (He.ga K d.1))=dc.map λd=>P7 w d.2
def P8(n:Nat)(roots:List Addr)(ok:PySem.W.Frag->Bool)(fn:List bA)(dc:List Jx)(g:Addr->Option Obj):AlW:=Xk ok fn dc (He.frG g (asU g roots n))
theorem P9{ok:PySem.W.Frag->Bool}{fn:List bA}{K0:PySem.W.Frag}{h:Heap}(e':Xi ok fn K0=aal fn)(kin:K0.In h):∃c P,PySem.W.tabIn K0 "law" = some (c,P)/\D1 ok fn (cut K0 P) c P h:=by unfold Xi at e';split at e';rename_i c P ht;have e1:_=true:=congrArg Prod.fst e';have e2:=congrArg Prod.snd e';obtain⟨a1,e1⟩:=jk e1;obtain⟨a2,e1⟩:=jk e1;obtain⟨a3,e1⟩:=jk e1;obtain⟨a4,a5⟩:=jk e1;have kc:(cut K0 P).In h:=λa o z=>kin a o (Hn K0 z);exact⟨c,P,ht,kc,Ax K0,kin _ _ (Tv a1),PySem.W.codeHd_of_K kc a2,of_decide_eq_true a3,a4,λd hd=>List.all_eq_true.mp a5 d hd,e2⟩;·cases congrArg Prod.fst e'
def V9(n:Nat)(roots:List Addr)(ok:PySem.W.Frag->Bool)(fn:List bA)(dc:List Jx):PySem.W.Hook where
 α:=AlW
 obs:=λs=>P8 n roots ok fn dc s.heap.get?
 val:=aao fn dc
 says:=λw h=>∃K c P,D2 ok fn dc w K c P h
 of:=λw s e=>by have e':Xk ok fn dc (He.frG s.heap.get? (asU s.heap.get? roots n))=aao fn dc w:=e;have kin:(He.frG s.heap.get? (asU s.heap.get? roots n)).In s.heap:=He.frG_in;generalize He.frG s.heap.get? (asU s.heap.get? roots n)=K0 at e' kin;obtain⟨c,P,ht,z⟩:=P9 (congrArg Prod.fst e') kin;have e2:=congrArg Prod.snd e';unfold Xk at e2;simp only[ht]at e2;exact⟨cut K0 P,c,P,z,e2⟩
 keeps:=λ_ _ _ ⟨K,c,P,z⟩ k=>⟨K,c,P,⟨PySem.W.Frag.In.keeps z.u.kin k,z.u.no,k _ _ z.u.tab,z.u.hd.keeps k,z.u.code,z.u.ok,z.u.Xb,z.u.fn⟩,z.dk⟩
theorem Qa{n:Nat}{roots:List Addr}{ok:PySem.W.Frag->Bool}{fn:List bA}{dc:List Jx}{g:Addr->Option Obj}{s:Shared}(h:∀a,g a=s.heap.get? a):P8 n roots ok fn dc g=(V9 n roots ok fn dc).obs s:=by have e:g=s.heap.get?:=funext h;rw[e];rfl
theorem D2.kd{ok:PySem.W.Frag->Bool}{fn:List bA}{dc:List Jx}{w:World}{K:PySem.W.Frag}{c P:Addr}{h:Heap}{Pr:Program}(z:D2 ok fn dc w K c P h)(i:Nat){d:Jx}(hd:dc[i]?=some d)(nd:(d.2.map (·.1)).Nodup)(ns:(He.ga K d.1 == sysModules)=false):KDict Pr w K (He.ga K d.1) d.2:=by
 have e2:(dc.map λd=>P6 K (He.ga K d.1))[i]?=(dc.map λd=>P7 w d.2)[i]?:=by rw[z.dk]
 rw[List.getElem?_map,List.getElem?_map,hd]at e2;exact Jw (Option.some.inj e2) nd ns
def Xl(K:PySem.W.Frag)(nm:Str):Value:=match K.lookup (He.ga K nm) with
 |some ⟨_,_,.func fd,_⟩=>fd.code|_=>.none
structure Cz (nms:List Str) (ok:PySem.W.Frag->Bool) (fn:List bA) (dc:List Jx) (w:World) (K:PySem.W.Frag) (l:List (Addr×Addr)) (h:Heap):Prop where
 kin:K.In h
 len:l.length=nms.length
 no:∀p∈l,K.lookup p.2=none
 tab:∀p∈l,h.get? p.2=some { cls:=.none,data:=.fields #[] }
 hd:∀p∈l,PySem.W.CodeHd h p.1 p.2
 code:∀p∈nms.zip l,Xl K p.1=.ref p.2.1
 nd:(l.map Prod.snd).Nodup
 ok:ok K=true
 Xb:∀d∈fn,d.ok K=true
 fn:fn.map (λd=>PR K (d.at_ K))=fn.map bA.val
 dk:(dc.map λd=>P6 K (He.ga K d.1))=dc.map λd=>P7 w d.2
section
variable {nms:List Str}{ok:PySem.W.Frag->Bool}{fn:List bA}{dc:List Jx}{w:World}{K:PySem.W.Frag}{l:List (Addr×Addr)}{h:Heap}{Pr:Program}
theorem Cz.eq(z:Cz nms ok fn dc w K l h)(i:Nat){d:bA}(hd:fn[i]?=some d):PR K (d.at_ K)=d.val:=by
 have e2:(fn.map λd=>PR K (d.at_ K))[i]?=(fn.map bA.val)[i]?:=by rw[z.fn]
 rw[List.getElem?_map,List.getElem?_map,hd]at e2;exact Option.some.inj e2
theorem Cz.kd(z:Cz nms ok fn dc w K l h)(i:Nat){d:Jx}(hd:dc[i]?=some d)(nd:(d.2.map (·.1)).Nodup)(ns:(He.ga K d.1 == sysModules)=false):KDict Pr w K (He.ga K d.1) d.2:=by
 have e2:(dc.map λd=>P6 K (He.ga K d.1))[i]?=(dc.map λd=>P7 w d.2)[i]?:=by rw[z.dk]
 rw[List.getElem?_map,List.getElem?_map,hd]at e2;exact Jw (Option.some.inj e2) nd ns
end
open ClX
structure Qb (K:PySem.W.Frag) (a:Addr) (ks:List Str):Prop where
 ns:(a == sysModules)=false
 ex:∃(o:Obj) (es:Array DictEntry) (ep:Nat),K.lookup a=some o/\o.ExactDict/\o.data=.dict es ep/\es.size=ks.length/\∀(i:Nat) (k:Str),ks[i]?=some k->∃(en:DictEntry) (t:Tok),es[i]?=some en/\en.key=.str k t
theorem Jy{K:PySem.W.Frag}{a:Addr}{w:World}{kvs:List (Str×CV)}(e:P6 K a=P7 w kvs)(ns:(a == sysModules)=false):Qb K a (kvs.map Prod.fst):=by
 unfold P6 P7 at e;split at e
 ·rename_i t es ep sl lk;split at e
  ·rename_i ht;simp only[Bool.and_eq_true,beq_iff_eq]at ht;obtain⟨rfl,hsl⟩:=ht;have e1:=Option.some.inj e;have hs:sl=#[]:=Array.eq_empty_of_size_eq_zero (by simpa using hsl);have hl:=congrArg List.length e1;simp only[List.length_map,Array.length_toList]at hl;refine⟨ns,_,es,ep,lk,⟨rfl,rfl,hs⟩,rfl,by rw[List.length_map];exact hl,λi k hk=>?_⟩;rw[List.getElem?_map]at hk;cases q:kvs[i]? with
   |none=>rw[q]at hk;cases hk|some p=>
    rw[q]at hk;have hk':p.1=k:=(by simpa using hk);have g:=congrArg (λl=>l[i]?) e1;simp only[List.getElem?_map,q,Option.map_some]at g;cases q2:es.toList[i]? with
    |none=>rw[q2]at g;cases g|some en =>rw[q2]at g;have g':P5 en=some (hashStr w p.1,p.1,p.2):=(by simpa using g);obtain⟨_,⟨tk,h2⟩,_⟩:=MR g';exact⟨en,tk,by simpa using q2,by rw[<-hk'];exact h2⟩
  ·cases e
 ·cases e
theorem D2.kk{ok:PySem.W.Frag->Bool}{fn:List bA}{dc:List Jx}{w:World}{K:PySem.W.Frag}{c P:Addr}{h:Heap}(z:D2 ok fn dc w K c P h)(i:Nat){d:Jx}(hd:dc[i]?=some d)(ns:(He.ga K d.1 == sysModules)=false):Qb K (He.ga K d.1) (d.2.map (·.1)):=by
 have e2:(dc.map λd=>P6 K (He.ga K d.1))[i]?=(dc.map λd=>P7 w d.2)[i]?:=by rw[z.dk]
 rw[List.getElem?_map,List.getElem?_map,hd]at e2;exact Jy (Option.some.inj e2) ns
theorem Cz.kk{nms:List Str}{ok:PySem.W.Frag->Bool}{fn:List bA}{dc:List Jx}{w:World}{K:PySem.W.Frag}{l:List (Addr×Addr)}{h:Heap}(z:Cz nms ok fn dc w K l h)(i:Nat){d:Jx}(hd:dc[i]?=some d)(ns:(He.ga K d.1 == sysModules)=false):Qb K (He.ga K d.1) (d.2.map (·.1)):=by
 have e2:(dc.map λd=>P6 K (He.ga K d.1))[i]?=(dc.map λd=>P7 w d.2)[i]?:=by rw[z.dk]
 rw[List.getElem?_map,List.getElem?_map,hd]at e2;exact Jy (Option.some.inj e2) ns
def Xm(T:Tb)(μ:List Addr)(H:Hp)(Q:List V->Hp->Prop)(W:XK):R A->Prop|.ok (.v (.lst ds)) S'=>∀μ' H' vs,Ext μ H μ' H'->aI T μ' H' S'->av T μ' H' ds vs->Q vs H'|.err e S'=>∀μ' H' cls d,Ext μ H μ' H'->aI T μ' H' S'->Aw T μ' H' e cls d->W cls d H'|_=>False
theorem Xm.later{T:Tb}{μ μ1:List Addr}{H H1:Hp}{Q:List V->Hp->Prop}{W:XK}(e:Ext μ H μ1 H1):∀{c:R A},Xm T μ H Q W c->Xm T μ1 H1 Q W c|.ok (.v (.lst ds)) S,h=>λμ2 H2 v e2=>h μ2 H2 v (e.trans e2)|.err er S,h=>λμ2 H2 c d e2=>h μ2 H2 c d (e.trans e2)|.stk,h=>h
end L3
namespace PySem
namespace HandSPX
open Builtin Builtin.ObjectAttr
end HandSPX
end PySem
namespace L3
open PySem PySem.Spec PyProof.Rows L2 NdefX
end L3
namespace PySem.W
open PySem PySem.Spec PySem.Calls PyProof.Rows
end PySem.W
namespace L3
open PySem PySem.Spec PyProof.Rows L2 NdefX LamX
section
variable {X:Cx}{T:Tb}{pins:List (Addr×Obj)}{σ:L2.St}{H:Hp}{s:Shared}{μ:List Addr}
mutual
theorem yW(hK:X.K=T.K)(I:Inv X pins σ H s):∀{d:D}{k:NK}{v:V}{u:Value},gN d=some k->Rep T μ H d v->RelV v u->NestedIs s.heap k u
 |.int i,k,v,u,e,r,q=>by simp only[gN,Option.some.injEq]at e;simp only[Rep]at r;subst e r;obtain⟨t,rfl⟩:=q;exact .int _ _
 |.bl b,k,v,u,e,r,q=>by simp only[gN,Option.some.injEq]at e;simp only[Rep]at r;subst e r;rw[show u=Value.bool b from q];exact .bool rfl|.str x,k,v,u,e,r,q=>by simp only[gN,Option.some.injEq]at e;simp only[Rep]at r;subst e r;obtain⟨t,rfl⟩:=q;exact .text _ _
 |.non,k,v,u,e,r,q=>by simp only[gN,Option.some.injEq]at e;simp only[Rep]at r;subst e r;rw[show u=Value.none from q];exact .none|.tup ds,k,v,u,e,r,q=>by simp only[gN]at e;obtain⟨ks,e1,e2⟩:=Option.map_eq_some_iff.mp e;subst e2;simp only[Rep]at r;obtain⟨a,vs,rfl,hh,rl⟩:=r;rw[show u=Value.ref a from q];obtain⟨its,rv,⟨o,ho,hc,n,hd⟩,_⟩:=I.tuple (hK▸hh.sq);exact .tup ho hc hd (by simpa using Jz hK I e1 rl rv)
 |.lst _,_,_,_,e,_,_=>by simp[gN]at e|.obj _ _,_,_,_,e,_,_=>by simp[gN]at e|.cls _,_,_,_,e,_,_=>by simp[gN]at e|.fz _,_,_,_,e,_,_=>by simp[gN]at e|.ty _,_,_,_,e,_,_=>by simp[gN]at e|.fn _,_,_,_,e,_,_=>by simp[gN]at e|.adr _,_,_,_,e,_,_=>by simp[gN]at e|.ptr _,_,_,_,e,_,_=>by simp[gN]at e|.gX _ _,_,_,_,e,_,_=>by simp[gN]at e|.exc _ _,_,_,_,e,_,_=>by simp[gN]at e|.yD _ _,_,_,_,e,_,_=>by simp[gN]at e
theorem Jz(hK:X.K=T.K)(I:Inv X pins σ H s):∀{ds:List D}{ks:List NK}{vs:List V}{us:List Value},zu ds=some ks->av T μ H ds vs->Vals vs us->NestedAll s.heap ks us
 |[],ks,vs,us,e,r,q=>by simp only[zu,Option.some.injEq]at e;simp only[av]at r;subst e r;cases q;exact .nil|d::ds,ks,vs,us,e,r,q=>by
  simp only[zu]at e;simp only[av]at r;obtain⟨v,ws,rfl,r1,r2⟩:=r;cases q with
  |cons q1 q2 =>split at e;rename_i k ks' e1 e2;cases e;exact .cons (yW hK I e1 r1 q1) (Jz hK I e2 r2 q2);·cases e
end
structure Gf (T:Tb) (μ:List Addr) (H:Hp) (a:Addr) (ks xs:List D) (es:NE):Prop where
 ob:H a=some (jH T.w a es)
 ky:av T μ H ks (es.map λe=>V.ref e.2.1)
 kk:ks.map gN=es.map λe=>some e.1
 vl:av T μ H xs (es.map λe=>e.2.2)
 dp:∀e∈es,e.1.depth<=8
theorem Gf.keys{a:Addr}{ks xs:List D}{es:NE}(R:Gf T μ H a ks xs es)(hK:X.K=T.K)(I:Inv X pins σ H s):∀e∈es,Di s.heap e.1 e.2.1:=λe he=>by
 refine⟨?_,R.dp e he⟩;obtain⟨i,hi,ee⟩:=List.getElem_of_mem he;have lk:ks.length=es.length:=by have:=congrArg List.length R.kk;simpa using this
 have h1:ks[i]?=some ks[i]:=List.getElem?_eq_getElem (by omega);obtain⟨v,h2,h3⟩:=R.ky.get h1;rw[List.getElem?_map,List.getElem?_eq_getElem hi,ee]at h2;cases h2;have h4:(ks.map gN)[i]?=some (some e.1):=by rw[R.kk,List.getElem?_map,List.getElem?_eq_getElem hi,ee];rfl
 rw[List.getElem?_map,h1]at h4;exact yW hK I (Option.some.inj h4) h3 rfl
end
def Ay:A->Option NK
 |.v (.tup ds)=>match gN (.tup ds) with
  |some k=>if k.depth<=8 then some k else none
  |none=>none
 |_=>none
open ClX
section
variable {T:Tb}{μ:List Addr}{H:Hp}
theorem j8.names:∀{fs:List (Str×D)}{vs:List (Str×V)},j8 T μ H fs vs->vs.map Prod.fst=fs.map Prod.fst|[],vs,h=>by have:vs=[]:=h;subst this;rfl|(g,d)::fs,vs,h=>by obtain⟨v,ws,rfl,_,h2⟩:=h;simp[j8.names h2]
theorem uu.less{t:List Addr}{a:Addr}{o:MO}(h:uu T (μ++t) H a o):uu T μ H a o:=by
 cases o with
 |lst ds =>obtain⟨vs,q1,q2⟩:=h;exact⟨vs,q1,aM q2⟩
 |gX kvs =>obtain⟨vs,q1,q2⟩:=h;exact⟨vs,q1,aM q2⟩
 |Tf kvs =>obtain⟨od,vs,q1,q2⟩:=h;exact⟨od,vs,q1,aM q2⟩
 |x kd ks xs =>obtain⟨u,ws,us,q1,q2,q3,q4⟩:=h;exact⟨u,ws,us,q1,q2,aM q3,aM q4⟩
 |ins c fs =>obtain⟨dx,vfs,q1,q2⟩:=h;exact⟨dx,vfs,q1,rB q2⟩
 |tab P nm =>obtain⟨ps,q0,q1,q2,q3⟩:=h;refine⟨ps,q0,q1,q2,λpos cv hc=>?_⟩;obtain⟨c,z1,z2,z3⟩:=q3 pos cv hc;exact⟨c,z1,z2.less,z3⟩
end
structure Qc (T:Tb) (μ:List Addr) (H:Hp) (S:ag) (σ:L2.St) (i n k:Nat) (fs:List (Str×D)) (f:Str) (d:D) (p dx:Addr) (vfs:List (Str×V)) (q:Addr):Prop where
 loc:σ[i]?=some (some (.ref p))
 mu:μ[n]?=some p
 st:S[n]?=some (.ins k fs)
 fl:fs.lookup f=some d
 at_:H p=some (.ins (T.cA k) dx vfs)
 rep:j8 T μ H fs vfs
 vl:vfs.lookup f=some (.ref q)
 mem:(f,V.ref q)∈vfs
 own:vO T μ H d (.ref q)
section
variable {T:Tb}{μ μ':List Addr}{H H':Hp}{S S':ag}{σ:L2.St}{i:Nat}{f:Str}
theorem Qc.later{n k n1 k1:Nat}{fs fs1:List (Str×D)}{d d1:D}{p dx p1 dx1:Addr}{vfs vfs1:List (Str×V)}{q q1:Addr}(a:Qc T μ H S σ i n k fs f d p dx vfs q)(b:Qc T μ' H' S' σ i n1 k1 fs1 f d1 p1 dx1 vfs1 q1)(fx:fixF.contains f=true)(ex:Ext μ H μ' H'):p1=p/\q1=q:=by
 have e1:p1=p:=by have:=a.loc.symm.trans b.loc;cases this;rfl
 subst e1;obtain⟨C,dy,gs,h1,h2⟩:=ex.ZO _ (List.mem_of_getElem? a.mu) _ _ _ _ _ a.at_ fx a.vl;rw[b.at_]at h1;cases h1;rw[b.vl]at h2;cases h2;exact⟨rfl,rfl⟩
end
abbrev FDR(P:Program)(w:World)(T:Tb)(mg:Str->Option Value)(base:Heap)(k:Nat)(f:Addr)(fM:FM):Prop:=FnR P w T.K mg base (Au T.nn P w) k f (FW T fM)
section
variable {P:Program}{w:World}{mg:Str->Option Value}{base:Heap}{T:Tb}{H:Hp}
theorem FDR.sc{k:Nat}{f:Addr}{fM:FM}(h:FDR P w T mg base k f fM):FDR P w T mg base k f (PH fM):=FnR.imp h λvs H Q E=>P4
end
def dataE(ρ:Env):Env:=ρ.map λo=>match o with
 |some (.v d)=>some (.v d)|_=>none
section
variable {T:Tb}{μ:List Addr}{H:Hp}{ρ:Env}{σ:L2.St}
theorem dw.data(h:dw T μ H ρ σ):dw T μ H (dataE ρ) σ:=by
 refine⟨by unfold dataE;rw[List.length_map];exact h.len,λi x e=>?_⟩;unfold dataE at e;rw[List.getElem?_map]at e;cases q:ρ[i]? with
 |none=>rw[q]at e;cases e|some o=>
  rw[q]at e;cases o with
  |none=>cases e|some a=>
   cases a with
   |v d =>simp only[Option.map_some,Option.some.injEq]at e;subst e;exact h.at_ i _ q|m j=>cases e
end
section
open L2H (RoomH PinOk)
theorem Aw.mono{T:Tb}{μ μ':List Addr}{H H':Hp}{e:Er}{c:Value}{d:Option Addr}(ex:Ext μ H μ' H')(h:Aw T μ H e c d):Aw T μ' H' e c d:=by obtain⟨h1,dd,vfs,h2,h3,h4,h5⟩:=h;exact⟨h1,dd,vfs,h2,ex.nB h4 h3,ex.keep _ _ h4 h3,dB.mono ex h5⟩
end
section
variable {T:Tb}{H:Hp}{μ:List Addr}
structure PrN (T:Tb) (μ:List Addr) (H:Hp) (kv:D×D) (t:Addr) (e:NK×Addr×V):Prop where
 sq:SqT T.K H t [.ref e.2.1,e.2.2]
 nk:Ay (.v kv.1)=some e.1
 kn:gN kv.1=some e.1
 dp:e.1.depth<=8
 rk:Rep T μ H kv.1 (.ref e.2.1)
 rv:Rep T μ H kv.2 e.2.2
inductive Hq (T:Tb) (μ:List Addr) (H:Hp):List (D×D)->List Addr->NE->Prop
 |nil:Hq T μ H [] [] []|cons {kv:D×D}{t:Addr}{e:NK×Addr×V}{l:List (D×D)}{ts:List Addr}{es:NE}:PrN T μ H kv t e->Hq T μ H l ts es->Hq T μ H (kv::l) (t::ts) (e::es)
theorem Hq.len{l:List (D×D)}{ts:List Addr}{es:NE}(h:Hq T μ H l ts es):ts.length=es.length:=by
 induction h with
 |nil=>rfl|cons _ _ ih=>rw[List.length_cons,List.length_cons,ih]
end
theorem ads{α β γ δ:Type}{E:Option α}{f:α->β}{g:α->γ}{h:α->δ}{b:β}{c:γ}{d:δ}(e1:E.map f=some b)(e2:E.map g=some c)(e3:E.map h=some d):E.map (λs=>(f s,g s,h s))=some (b,c,d):=by
 cases E with
 |none=>cases e1|some s =>simp only[Option.map_some,Option.some.injEq]at e1 e2 e3 ⊢;rw[e1,e2,e3]
open PySem.W HandSHeadRun
noncomputable section
def wY(t:BT):Nat->Option Obj:=@BT.rec (λ_=>Nat->Option Obj) (λ_=>none) (λv _ _ gl gr i=>@Bool.rec (λ_=>Option Obj) (@Bool.rec (λ_=>Option Obj) (gr (Nat.sub (Nat.div i 2) 1)) (gl (Nat.div i 2)) (Nat.beq (Nat.mod i 2) 1)) (some v) (Nat.beq i 0)) t
theorem uS:∀(t:BT) (i:Nat),wY t i=t.get i|.nil,_=>rfl|.node v l r,i=>by show@Bool.rec (λ_=>Option Obj) (@Bool.rec (λ_=>Option Obj) (wY r (i / 2-1)) (wY l (i / 2)) (Nat.beq (i%2) 1)) (some v) (Nat.beq i 0)=(match Nat.beq i 0 with|true=>some v|false=>match Nat.beq (i%2) 1 with|true=>l.get (i / 2)|false=>r.get (i / 2-1));rw[uS,uS];cases Nat.beq i 0<;>cases Nat.beq (i%2) 1<;>rfl
def D3(o:Obj)(t:BT):Nat->BT:=@BT.rec (λ_=>Nat->BT) (λ_=>.node o .nil .nil) (λv l r gl gr i=>@Bool.rec (λ_=>BT) (@Bool.rec (λ_=>BT) (.node v l (gr (Nat.sub (Nat.div i 2) 1))) (.node v (gl (Nat.div i 2)) r) (Nat.beq (Nat.mod i 2) 1)) (.node o l r) (Nat.beq i 0)) t
theorem D4(o:Obj):∀(t:BT) (i:Nat),D3 o t i=t.ins i o|.nil,_=>rfl|.node v l r,i=>by show@Bool.rec (λ_=>BT) (@Bool.rec (λ_=>BT) (.node v l (D3 o r (i / 2-1))) (.node v (D3 o l (i / 2)) r) (Nat.beq (i%2) 1)) (.node o l r) (Nat.beq i 0)=(match Nat.beq i 0 with|true=>BT.node o l r|false=>match Nat.beq (i%2) 1 with|true=>BT.node v (l.ins (i / 2) o) r|false=>BT.node v l (r.ins (i / 2-1) o));rw[D4,D4];cases Nat.beq i 0<;>cases Nat.beq (i%2) 1<;>rfl
def Gg(f:Obj->Obj)(t:BT):Nat->BT:=@BT.rec (λ_=>Nat->BT) (λ_=>.nil) (λv l r gl gr i=>@Bool.rec (λ_=>BT) (@Bool.rec (λ_=>BT) (.node v l (gr (Nat.sub (Nat.div i 2) 1))) (.node v (gl (Nat.div i 2)) r) (Nat.beq (Nat.mod i 2) 1)) (.node (f v) l r) (Nat.beq i 0)) t
theorem D5(f:Obj->Obj):∀(t:BT) (i:Nat),Gg f t i=t.set i f|.nil,_=>rfl|.node v l r,i=>by show@Bool.rec (λ_=>BT) (@Bool.rec (λ_=>BT) (.node v l (Gg f r (i / 2-1))) (.node v (Gg f l (i / 2)) r) (Nat.beq (i%2) 1)) (.node (f v) l r) (Nat.beq i 0)=(match Nat.beq i 0 with|true=>BT.node (f v) l r|false=>match Nat.beq (i%2) 1 with|true=>BT.node v (l.set (i / 2) f) r|false=>BT.node v l (r.set (i / 2-1) f));rw[D5,D5];cases Nat.beq i 0<;>cases Nat.beq (i%2) 1<;>rfl
abbrev OP:Type:=BT->Nat->Array GenState->Drawn->Nat->OsState->Sem PySem.Fin->Code->Pos->List Frame->Option SharedT
structure D6 where
 ih:OP
 T:BT
 n:Nat
 gens:Array GenState
 drawn:Drawn
 toks:Nat
 os:OsState
 code:Code
 pos:Pos
 stack:List Frame
variable (den:Code->Sem PySem.Fin) (p:Program) (w:World) (n0:Nat) (ann:Option Value) (life:Life)
def uT(X:D6)(c:Sem PySem.Fin):Option SharedT:=match through ⟨c,X.code,X.pos,X.stack⟩ with
 |true=>some ⟨X.T,X.n,life,X.gens,X.drawn,X.toks,X.os⟩|false=>match stepOk n0 ann ⟨c,X.code,X.pos,X.stack⟩ with
  |false=>none|true=>match stepQ den p w ⟨X.T,X.n,life,X.gens,X.drawn,X.toks,X.os⟩ ⟨c,X.code,X.pos,X.stack⟩ with
   |some (⟨T,n,_,gens,drawn,toks,os⟩,⟨cur,code,pos,stack⟩)=>frNat n λn=>frNat toks λtoks=>X.ih T n gens drawn toks os cur code pos stack|none=>none
def Ll(X:D6)(k:Obj->Sem PySem.Fin)(o:Option Obj):Option SharedT:=@Option.rec Obj (λ_=>Option SharedT) none (λo'=>@D6.rec (λ_=>Option SharedT) (λih T n gens drawn toks os code pos stack=>ih T n gens drawn toks os (k o') code pos stack) X) o
def aap(X:D6)(a:Addr)(k:Obj->Sem PySem.Fin):Option SharedT:=@Bool.rec (λ_=>Option SharedT) none (@Option.rec Obj (λ_=>Option SharedT) none (λo=>Ll X k (alive o)) (wY X.T a)) (Nat.blt a X.n)
def hIf(X:D6)(a:Addr)(k:Option Obj->Sem PySem.Fin):Option SharedT:=@D6.rec (λ_=>Option SharedT) (λih T n gens drawn toks os code pos stack=>
 @Bool.rec (λ_=>Option SharedT) (ih T n gens drawn toks os (k none) code pos stack) (@Option.rec Obj (λ_=>Option SharedT) none (λo=>ih T n gens drawn toks os (k (alive o)) code pos stack) (wY T a)) (Nat.blt a n)) X
def adt(X:D6)(a:Addr)(q:Option Value)(f:Obj->Obj)(k:Unit->Sem PySem.Fin):Option SharedT:=@Bool.rec (λ_=>Option SharedT) (uT den p w n0 ann life X (.update a q f k))
 (@D6.rec (λ_=>Option SharedT) (λih T n gens drawn toks os code pos stack=>@Bool.rec (λ_=>Option SharedT) none (@Option.rec Obj (λ_=>Option SharedT) none (λo=>@Option.rec Obj (λ_=>Option SharedT) none (λ_=>ih (Gg f T a) n gens drawn toks os (k ()) code pos stack) (alive o)) (wY T a)) (Nat.blt a n)) X) (Nat.ble n0 a)
def Xn(X:D6)(o:Obj)(k:Addr->Sem PySem.Fin):Option SharedT:=@D6.rec (λ_=>Option SharedT) (λih T n gens drawn toks os code pos stack=>@Option.rec Obj (λ_=>Option SharedT) none (λ_=>frNat (Nat.succ n) λn1=>ih (D3 o T n) n1 gens drawn toks os (k n) code pos stack) (wY (D3 o T n) n)) X
def Wa(X:D6)(k:Unit->Sem PySem.Fin):Option SharedT:=@D6.rec (λ_=>Option SharedT) (λih T n gens drawn toks os code pos stack=>ih T n gens drawn toks os (k ()) code pos stack) X
def hAt(X:D6)(p':Pos)(k:Unit->Sem PySem.Fin):Option SharedT:=@D6.rec (λ_=>Option SharedT) (λih T n gens drawn toks os code pos stack=>ih T n gens drawn toks os (k ()) code p' stack) X
def adu(X:D6)(k:Setting->Sem PySem.Fin):Option SharedT:=@D6.rec (λ_=>Option SharedT) (λih T n gens drawn toks os code pos stack=>ih T n gens drawn toks os (k ⟨p,w.params⟩) code pos stack) X
def Xo(X:D6)(k:Tok->Sem PySem.Fin):Option SharedT:=@D6.rec (λ_=>Option SharedT) (λih T n gens drawn toks os code pos stack=>frNat (Nat.succ toks) λt1=>ih T n gens drawn t1 os (k toks) code pos stack) X
def aaq(c code:Code)(l:List Value):List Value:=match c,code with
 |.builtin _ a,_=>unmarked a.refs|.call f a,.builtin ..|.call f a,.call ..=>unmarked (if l.contains borrowed then a.refs else f::a.refs)|_,_=>[]
def aar(X:D6)(c:Code)(h:Option Value)(g:Bool)(l:List Value)(k:Result->Sem PySem.Fin):Option SharedT:=@D6.rec (λ_=>Option SharedT) (λih T n gens drawn toks os code pos stack=>ih T n gens drawn toks os (den c) c pos (.ret k h g l code pos (aaq c code l)::stack)) X
def aas(X:D6)(f:PySem.Fin):Option SharedT:=@PySem.Fin.rec (λ_=>Option SharedT) (λf=>@D6.rec (λ_=>Option SharedT) (λih T n gens drawn toks os code pos stack=>@List.rec Frame (λ_=>Option SharedT) (some ⟨T,n,life,gens,drawn,toks,os⟩)
  (λfr rest _=>@Frame.rec (λ_=>Option SharedT) (λk _ _ _ c p' _=>ih T n gens drawn toks os (k (.ok f)) c p' rest) (λ_ _ _ _ _=>uT den p w n0 ann life X (.pure (.done f))) fr) stack) X)
 (λc=>uT den p w n0 ann life X (.pure (.again c))) f
def Wb(X:D6)(cur:Sem PySem.Fin):Option SharedT:=@Sem.rec PySem.Fin (λ_=>Option SharedT) (aas den p w n0 ann life X) (λe=>uT den p w n0 ann life X (.raise e)) (λe=>uT den p w n0 ann life X (.unsupported e)) (λe=>uT den p w n0 ann life X (.finish e))
 (λ_ k _=>Wa X k) (λp' k _=>hAt X p' k) (λa _ k _=>aap X a k) (λa q f k _=>adt den p w n0 ann life X a q f k) (λo k _=>Xn X o k) (λa k _=>hIf X a k) (λ_ k _=>Wa X k)
 (λa k _=>uT den p w n0 ann life X (.register a k)) (λk _=>Xo X k) (λk _=>adu p w X k) (λs n k _=>uT den p w n0 ann life X (.choose s n k)) (λq l k _=>uT den p w n0 ann life X (.os q l k))
 (λc h g l k _=>aar den X c h g l k) (λo k _=>uT den p w n0 ann life X (.handled o k)) (λc k _=>uT den p w n0 ann life X (.newGen c k)) (λg k _=>uT den p w n0 ann life X (.genState g k))
 (λg r l k _=>uT den p w n0 ann life X (.resume g r l k)) (λv g l k _=>uT den p w n0 ann life X (.yield v g l k)) (λk _=>uT den p w n0 ann life X (.stack k)) (λc k _=>uT den p w n0 ann life X (.fork c k))
 (λk _=>uT den p w n0 ann life X (.thread k)) (λa t d l k _=>uT den p w n0 ann life X (.await a t d l k)) cur
def goH(m:Nat):OP:=@Nat.rec (λ_=>OP) (λ_ _ _ _ _ _ _ _ _ _=>none) (λ_ ih T n gens drawn toks os cur code pos stack=>Wb den p w n0 ann life ⟨ih,T,n,gens,drawn,toks,os,code,pos,stack⟩ cur) m
def Tz(M:Nat)(p:Program)(w:World)(os:OsState):Option SharedT:=match putAll (boot_heap w.params).objs.toList .nil 0 with
 |some (t,n)=>frNat n λn0=>goH (denQ tabQ) p w n0 (bootAnn w) (boot_heap w.params).life M t n0 #[] boot_drawn boot_toks os (topStub p).cur (topStub p).code (topStub p).pos (topStub p).stack|none=>none
end
section
variable {den:Code->Sem PySem.Fin}{p:Program}{w:World}{n0:Nat}{ann:Option Value}{life:Life}
theorem JA(s:SharedT)(t:Thread):stepQ den p w s t=stepT den p w s t:=by rw[<-stepQ_eq]
theorem rF{st:SharedT->Thread->Option (SharedT×Thread)}{m:Nat}{s:SharedT}{t:Thread}(h1:through t=false)(h2:stepOk n0 ann t=true) :goF st n0 ann (m+1) s t=(match st s t with|some (s',t')=>goF st n0 ann m s' t'|none=>none):=by
 show(match through t with|true=>some s|false=>match stepOk n0 ann t with|false=>none|true=>match st s t with|some (s',t')=>frS s' λs'=>goF st n0 ann m s' t'|none=>none)=_;rw[h1,h2];show(match st s t with|some (s',t')=>frS s' λs'=>goF st n0 ann m s' t'|none=>none)=_;cases st s t with
 |none=>rfl|some r=>obtain⟨s',t'⟩:=r;exact frS_eq s' _
theorem Lm{s s':SharedT}{t t':Thread}(h:stepT den p w s t=some (s',t')):s'.life=s.life:=by obtain⟨T,n,life,gens,drawn,toks,os⟩:=s;obtain⟨cur,code,pos,stack⟩:=t;unfold stepT at h;dsimp only at h;split at h<;>(repeat' split at h)<;>first|cases h;rfl|cases h
def Hr(den:Code->Sem PySem.Fin)(p:Program)(w:World)(n0:Nat)(ann:Option Value)(life:Life)(m:Nat)(ih:OP):Prop:=
 ∀T n gens drawn toks os cur code pos stack,ih T n gens drawn toks os cur code pos stack=goF (stepT den p w) n0 ann m ⟨T,n,life,gens,drawn,toks,os⟩ ⟨cur,code,pos,stack⟩
theorem Dy{m:Nat}{ih:OP}(I:Hr den p w n0 ann life m ih){T:BT}{n:Nat}{gens:Array GenState}{drawn:Drawn}{toks:Nat}{os:OsState}{code:Code}{pos:Pos}{stack:List Frame}(c:Sem PySem.Fin) :uT den p w n0 ann life ⟨ih,T,n,gens,drawn,toks,os,code,pos,stack⟩ c=goF (stepT den p w) n0 ann (m+1) ⟨T,n,life,gens,drawn,toks,os⟩ ⟨c,code,pos,stack⟩:=by
 show(match through ⟨c,code,pos,stack⟩ with
  |true=>some (⟨T,n,life,gens,drawn,toks,os⟩:SharedT)|false=>match stepOk n0 ann ⟨c,code,pos,stack⟩ with
   |false=>none|true=>match stepQ den p w ⟨T,n,life,gens,drawn,toks,os⟩ ⟨c,code,pos,stack⟩ with
    |some (⟨T,n,_,gens,drawn,toks,os⟩,⟨cur,code,pos,stack⟩)=>frNat n λn=>frNat toks λtoks=>ih T n gens drawn toks os cur code pos stack|none=>none)=(match through ⟨c,code,pos,stack⟩ with
  |true=>some ⟨T,n,life,gens,drawn,toks,os⟩|false=>match stepOk n0 ann ⟨c,code,pos,stack⟩ with
   |false=>none|true=>match stepT den p w ⟨T,n,life,gens,drawn,toks,os⟩ ⟨c,code,pos,stack⟩ with
    |some (s',t')=>frS s' λs'=>goF (stepT den p w) n0 ann m s' t'|none=>none)
 rw[JA];cases through ⟨c,code,pos,stack⟩ with
 |true=>rfl|false=>
  cases stepOk n0 ann ⟨c,code,pos,stack⟩ with
  |false=>rfl|true=>
   cases e:stepT den p w ⟨T,n,life,gens,drawn,toks,os⟩ ⟨c,code,pos,stack⟩ with
   |none=>rfl|some r =>obtain⟨⟨T',n',life',gens',drawn',toks',os'⟩,⟨c',code',pos',stack'⟩⟩:=r;have hl:life'=life:=Lm e;subst hl;show(frNat n' λn=>frNat toks' λtoks=>ih T' n gens' drawn' toks os' c' code' pos' stack')=frS ⟨T',n',life',gens',drawn',toks',os'⟩ λs'=>goF (stepT den p w) n0 ann m s' ⟨c',code',pos',stack'⟩;rw[frS_eq,frNat_eq,frNat_eq];exact I _ _ _ _ _ _ _ _ _ _
theorem eZ{t:Thread}(h:(match t.cur with|.pure (.done _)=>true|_=>false)=false):through t=false:=by exact(congrArg (t.stack.isEmpty&&·) h).trans (Bool.and_false _)
theorem Qd{m:Nat}{ih:OP}(I:Hr den p w n0 ann life m ih){T:BT}{n:Nat}{gens:Array GenState}{drawn:Drawn}{toks:Nat}{os:OsState}{code:Code}{pos:Pos}{stack:List Frame}(c:Sem PySem.Fin) :Wb den p w n0 ann life ⟨ih,T,n,gens,drawn,toks,os,code,pos,stack⟩ c=goF (stepT den p w) n0 ann (m+1) ⟨T,n,life,gens,drawn,toks,os⟩ ⟨c,code,pos,stack⟩:=by
 cases c with
 |pure f=>
  cases f with
  |again c=>exact Dy I _|done f=>
   cases stack with
   |nil=>rfl|cons fr rest=>
    cases fr with
    |gen g k l c' p'=>exact Dy I (T:=T) (n:=n) (gens:=gens) (drawn:=drawn) (toks:=toks) (os:=os) (code:=code) (pos:=pos) (stack:=.gen g k l c' p'::rest) (.pure (.done f))|ret k a b c' d e g =>rw[rF rfl rfl];exact I _ _ _ _ _ _ _ _ _ _
 |load a q k=>
  rw[rF (eZ rfl) rfl];show@Bool.rec (λ_=>Option SharedT) none (@Option.rec Obj (λ_=>Option SharedT) none (λo=>Ll ⟨ih,T,n,gens,drawn,toks,os,code,pos,stack⟩ k (alive o)) (wY T a)) (Nat.blt a n)=(match (match Nat.blt a n with
   |true=>match T.get a with
    |some o=>match alive o with
     |some o'=>some ((⟨T,n,life,gens,drawn,toks,os⟩:SharedT),(⟨k o',code,pos,stack⟩:Thread))|none=>none
    |none=>none
   |false=>none) with|some (s',t')=>goF (stepT den p w) n0 ann m s' t'|none=>none)
  rw[uS];cases Nat.blt a n with
  |false=>rfl|true=>
   cases T.get a with
   |none=>rfl|some o=>
    show Ll _ k (alive o)=_;dsimp only;cases alive o with
    |none=>rfl|some o'=>exact I _ _ _ _ _ _ _ _ _ _
 |loadIfAlive a k=>
  rw[rF (eZ rfl) rfl];show@Bool.rec (λ_=>Option SharedT) (ih T n gens drawn toks os (k none) code pos stack) (@Option.rec Obj (λ_=>Option SharedT) none (λo=>ih T n gens drawn toks os (k (alive o)) code pos stack) (wY T a)) (Nat.blt a n)=(match (match Nat.blt a n with
   |true=>match T.get a with
    |some o=>some ((⟨T,n,life,gens,drawn,toks,os⟩:SharedT),(⟨k (alive o),code,pos,stack⟩:Thread))|none=>none
   |false=>some (⟨T,n,life,gens,drawn,toks,os⟩,⟨k none,code,pos,stack⟩)) with|some (s',t')=>goF (stepT den p w) n0 ann m s' t'|none=>none)
  rw[uS];cases Nat.blt a n with
  |false=>exact I _ _ _ _ _ _ _ _ _ _|true=>
   cases T.get a with
   |none=>rfl|some o=>exact I _ _ _ _ _ _ _ _ _ _
 |update a q f k=>
  show@Bool.rec (λ_=>Option SharedT) (uT den p w n0 ann life ⟨ih,T,n,gens,drawn,toks,os,code,pos,stack⟩ (.update a q f k)) (@Bool.rec (λ_=>Option SharedT) none (@Option.rec Obj (λ_=>Option SharedT) none (λo=>@Option.rec Obj (λ_=>Option SharedT) none (λ_=>ih (Gg f T a) n gens drawn toks os (k ()) code pos stack) (alive o)) (wY T a)) (Nat.blt a n)) (Nat.ble n0 a)=_;cases hb:Nat.ble n0 a with
  |false=>exact Dy I _|true=>
   have h2:stepOk n0 ann ⟨.update a q f k,code,pos,stack⟩=true:=(by show(true&&(Nat.ble n0 a||a == mainNs||a == cStatics||ann == some (.ref a)))=true;rw[hb];rfl);rw[rF (eZ rfl) h2];show@Bool.rec (λ_=>Option SharedT) none (@Option.rec Obj (λ_=>Option SharedT) none (λo=>@Option.rec Obj (λ_=>Option SharedT) none (λ_=>ih (Gg f T a) n gens drawn toks os (k ()) code pos stack) (alive o)) (wY T a)) (Nat.blt a n)=(match (match Nat.blt a n with
    |true=>match T.get a with
     |some o=>match alive o with
      |some _=>some ((⟨T.set a f,n,life,gens,drawn,toks,os⟩:SharedT),(⟨k (),code,pos,stack⟩:Thread))|none=>none
     |none=>none
    |false=>none) with|some (s',t')=>goF (stepT den p w) n0 ann m s' t'|none=>none)
   rw[uS,D5];cases Nat.blt a n with
   |false=>rfl|true=>
    cases T.get a with
    |none=>rfl|some o=>
     dsimp only;cases alive o with
     |none=>rfl|some o'=>exact I _ _ _ _ _ _ _ _ _ _
 |alloc o k=>
  rw[rF (eZ rfl) rfl];show@Option.rec Obj (λ_=>Option SharedT) none (λ_=>frNat (Nat.succ n) λn1=>ih (D3 o T n) n1 gens drawn toks os (k n) code pos stack) (wY (D3 o T n) n)=(match (match ((T.ins n o).get n).isSome with
   |true=>some ((⟨T.ins n o,n+1,life,gens,drawn,toks,os⟩:SharedT),(⟨k n,code,pos,stack⟩:Thread))|false=>none) with|some (s',t')=>goF (stepT den p w) n0 ann m s' t'|none=>none)
  rw[uS,D4];cases (T.ins n o).get n with
  |none=>rfl|some o=>exact I _ _ _ _ _ _ _ _ _ _
 |rule=>rw[rF (eZ rfl) rfl];exact I _ _ _ _ _ _ _ _ _ _|«at»=>rw[rF (eZ rfl) rfl];exact I _ _ _ _ _ _ _ _ _ _|point=>rw[rF (eZ rfl) rfl];exact I _ _ _ _ _ _ _ _ _ _|ask=>rw[rF (eZ rfl) rfl];exact I _ _ _ _ _ _ _ _ _ _|fresh=>rw[rF (eZ rfl) rfl];exact I _ _ _ _ _ _ _ _ _ _|call=>rw[rF (eZ rfl) rfl];exact I _ _ _ _ _ _ _ _ _ _|_=>exact Dy I _
theorem Qe:∀m:Nat,Hr den p w n0 ann life m (goH den p w n0 ann life m)|0=>λ_ _ _ _ _ _ _ _ _ _=>rfl|m+1=>λ_ _ _ _ _ _ _ _ _ _=>Qd (Qe m) _
end
theorem TF(M:Nat)(p:Program)(w:World)(os:OsState):endF (stepQ (denQ tabQ) p w) M p w os=Tz M p w os:=by
 unfold endF Tz;cases putAll (boot_heap w.params).objs.toList .nil 0 with
 |none=>rfl|some r =>obtain⟨t,n⟩:=r;show(frNat n λn0=>goF (stepQ (denQ tabQ) p w) n0 (bootAnn w) M (bootT w os (t,n0)) (topStub p))=frNat n λn0=>goH (denQ tabQ) p w n0 (bootAnn w) (boot_heap w.params).life M t n0 #[] boot_drawn boot_toks os (topStub p).cur (topStub p).code (topStub p).pos (topStub p).stack;rw[frNat_eq,frNat_eq,Qe M];have e:stepQ (denQ tabQ) p w=stepT (denQ tabQ) p w:=funext λs=>funext λt=>JA s t;rw[e];rfl
def hdH(p:Params)(s:Str):Int:=if s.cps.isEmpty then 0 else reduceHash (p.strHash s.cps)
def Dz(p:Params)(s:Str)(t:Nat)(v:Value):DictEntry:=⟨hdH p s,.str s t,v⟩
def Az(vs:List Value):Obj:=⟨.type "tuple",none,.seq vs.toArray 0,#[]⟩
def BI(n:Nat):Value:=.int n 0
def Xp:List Str->Nat->List Value|[],_=>[]|s::r,t=>.str s t::Xp r (t+1)
def hdF(vs:List Value):Obj:=⟨.none,none,.fields vs.toArray,#[]⟩
def TH(c:String)(vs:List Value):Obj:=⟨.type c,none,.fields vs.toArray,#[]⟩
def Gh(es:List DictEntry)(n:Nat):Obj:=⟨.type "dict",none,.dict es.toArray n,#[]⟩
def Xq(sc:Scope):List Str:=(sc.names.filter (·.2 == .free)).map (·.1)
def Hs(file nm q:Str)(fl ac po ko fg:Nat)(fr:List Str)(isF:Bool)(kids:List Value)(loc:Option (List Str×List Str))(tm:Option FuncData)(tx a t:Nat):List Obj×Nat×Nat:=
 let t1:=t+3+fr.length
 match loc,tm with
 |some (l1,l2),some fd=>
  let t2:=t1+l1.length+l2.length
  ([Az (Xp fr (t+3)),hdF kids,Az (Xp l1 t1),Az (Xp l2 (t1+l1.length)),⟨.none,none,.func fd,#[]⟩,
   TH "code" [.str nm t,.str q (t+1),.str file (t+2),BI fl,BI ac,BI po,BI ko,BI fg,.ref a,.bool isF,BI tx,.ref (a+1),.none,.ref (a+2),.ref (a+3),.ref (a+4),BI t2,BI fl,.str file (t2+1)]],a+5,t2+2)
 |none,some fd=>
  ([Az (Xp fr (t+3)),hdF kids,⟨.none,none,.func fd,#[]⟩,
   TH "code" [.str nm t,.str q (t+1),.str file (t+2),BI fl,BI ac,BI po,BI ko,BI fg,.ref a,.bool isF,BI tx,.ref (a+1),.none,.none,.none,.ref (a+2),BI t1,BI fl,.str file (t1+1)]],a+3,t1+2)
 |_,none=>
  ([Az (Xp fr (t+3)),hdF kids,
   TH "code" [.str nm t,.str q (t+1),.str file (t+2),BI fl,BI ac,BI po,BI ko,BI fg,.ref a,.bool isF,BI tx,.ref (a+1),.none,.none,.none,.none,BI t1,BI fl,.str file (t1+1)]],a+2,t1+2)
def hdC:Expr->Value|.Constant (.bool b) _ _=>.bool b|_=>.none
def Xr:List Arg->List (Option Expr)->List (Str×Value)|a::r,some e::s=>(a.arg,hdC e)::Xr r s|_::r,none::s=>Xr r s|_,_=>[]
def aat(p:Params):List (Str×Value)->Nat->List DictEntry|[],_=>[]|(s,v)::r,t=>Dz p s t v::aat p r (t+1)
structure HdG where
 objs:List Obj
 v:Value
 code:Nat
 a:Nat
 t:Nat
def Xs(p:Params)(file q:Str)(m:Value)(cell:Option Addr)(an:Bool)(nm:Str)(args:Arguments)(body:List Stmt)(ds:List Expr)(sc:Scope)(pos:Pos)(a t:Nat):HdG:=
 let dv:=args.defaults.map hdC;let kw:=Xr args.kwonlyargs args.kw_defaults;let o1:=if dv.isEmpty then []else [Az dv]
 let a1:=a+o1.length;let o2:=if kw.isEmpty then []else [Gh (aat p kw t) kw.length]
 let a2:=a1+o2.length;let fr:=Xq sc;let cl:List (Str×Addr):=match cell with|some c=>fr.map λs=>(s,c)|none=>[]
 let o3:=if cl.isEmpty then []else [Az (cl.map λx=>.ref x.2)]
 let a3:=a2+o3.length;let fl:=firstLineOf ds pos;let qn:=q++nm;let fd:FuncData:={ name:=nm,qualname:=qn,params:=args,body:=.stmts body,scope:=sc,globals:=0,closure:=[],defaults:=.none,kwdefaults:=.none };let c:=Hs file nm qn fl (args.posonlyargs.length+args.args.length) args.posonlyargs.length args.kwonlyargs.length (functionFlags args.vararg.isSome args.kwarg.isSome sc ⟨file,0,false,0⟩) fr true [] (localNames args sc (.stmts body)) (some fd) 181 a3 (t+kw.length);let cd:=c.2.1;let fo:Obj:=⟨.type "function",none,.func { fd with globals:=3,closure:=cl,defaults:=if dv.isEmpty then .none else .ref a,kwdefaults:=if kw.isEmpty then .none else .ref a1,pyModule:=m,annotations:=if an then some (cd+4) else none,code:=.ref cd,closureTuple:=if cl.isEmpty then .none else .ref a2 },#[]⟩
 ⟨o1++o2++o3++c.1++[fo],.ref (cd+1),cd,cd+2,c.2.2⟩
def aau(p:Params)(m:Value)(nm q:Str)(d:Str)(g:HdG):HdG:=
 if d == "property" then⟨g.objs++[TH "property" [g.v,.none,.none,.none,.str nm (g.t+1),.bool false]],.ref g.a,g.code,g.a+1,g.t+1⟩
 else
  let t:=g.t
  ⟨g.objs++[Gh [Dz p "__module__" (t+1) m,Dz p "__name__" (t+4) (.str nm (t+3)),Dz p "__qualname__" (t+7) (.str (q++nm) (t+6)),Dz p "__doc__" (t+9) .none,Dz p "__annotations__" (t+11) (.ref (g.a+2))] 5,
   ⟨.type d.toString,some g.a,.fields #[g.v,.bool false],#[]⟩,Gh [] 0],.ref (g.a+1),g.code,g.a+3,t+12⟩
def hdPos(pos:Pos)(c:Nat):List Value:=[BI pos.line,BI pos.col,.ref c]
def Ht(p:Params)(file q:Str)(m:Value)(cell:Option Addr):List Stmt->List Obj->List DictEntry->List Value->Nat->Nat->List Obj×List DictEntry×List Value×Nat×Nat
 |[],os,es,ks,a,t=>(os,es,ks,a,t)|.FunctionDef nm args body ds _ _ sc _ _ pos::r,os,es,ks,a,t=>
  let g:=match ds with|.Name d _::_=>aau p m nm q d (Xs p file q m cell (d != "property") nm args body ds sc pos a t)|_=>Xs p file q m cell false nm args body ds sc pos a t
  frNat g.a λa=>frNat g.t λt=>Ht p file q m cell r (os++g.objs) (es++[Dz p nm t g.v]) (ks++hdPos pos g.code) a (t+1)
 |.Assign (.Name n _::_) (.Constant (.int i) _ _) _::r,os,es,ks,a,t=>Ht p file q m cell r os (es++[Dz p n (t+1) (.int i t)]) ks a (t+2)|_::r,os,es,ks,a,t=>Ht p file q m cell r os es ks a t
structure ZQ where
 nm:Str
 mro:List Value
 base:String
def Qf:List ZQ->Str->ZQ
 |k::r,n=>if k.nm == n then k else Qf r n
 |[],n=>⟨n,[.type n.toString]++(if n == "IndexError" then [.type "LookupError"]else [])++[.type "Exception",.type "BaseException",.type "object"],n.toString⟩
structure aav where
 objs:List Obj
 addr:Nat
 code:Nat
 k:ZQ
 base:Value
 a:Nat
 t:Nat
def aaw(p:Params)(file:Str)(m:Value)(ks:List ZQ)(nm:Str)(bases:List Expr)(body:List Stmt)(sc:Scope)(sts:List Str)(pos:Pos)(a t:Nat):aav:=
 let b:Option ZQ:=match bases with|.Name n _::_=>some (Qf ks n)|_=>none
 let bv:Value:=match b with|some k=>k.mro.headD .none|none=>.type "object"
 let own:Bool:=match bv with|.ref _=>true|_=>false
 let hasC:=sc.names.lookup ("__class__" : Str) == some NameKind.cell;let ac:=a+3;let a1:=if hasC then a+4 else a+3
 let c:=Hs file nm nm pos.line 0 0 0 0 [] false [] none none 181 a1 (t+2);let cd:=c.2.1;let t1:=c.2.2;let q:Str:=nm ++ "."
 match Ht p file q m (some ac) body [] [] [] (cd+2) (t1+5) with
 |(os,es,kids,a2,t2)=>
  let t3:=t2+sts.length;let e0:=[Dz p "__module__" t1 m];let e1:=[Dz p "__qualname__" (t1+2) (.str nm (t1+1))];let e2:=[Dz p "__firstlineno__" (t1+4) (.int pos.line (t1+3))]++es++[Dz p "__static_attributes__" t3 (.ref a2)];let e3:=if hasC then [Dz p "__classcell__" (t3+1) (.ref ac)]else []
  let t4:=t3+1+e3.length;let ob:=bv == .type "object";let at':=a2+2;let g1:=if ob then [Dz p "__dict__" (t4+1) (.ref (at'+1))]else []
  let t5:=if ob then t4+2 else t4
  let ad:=if ob then at'+2 else at'+1
  let g2:=if own then []else [Dz p "__weakref__" (t5+1) (.ref ad)]
  let t6:=if own then t5 else t5+2
  let ae:=if own then ad else ad+1
  let eqnh:=body.any λs=>match s with|.FunctionDef n _ _ _ _ _ _ _ _ _=>n == "__eq__" |_=>false
  let g3:=[Dz p "__doc__" t6 .none]++(if eqnh then [Dz p "__hash__" (t6+1) .none]else []);let t7:=t6+g3.length;let rt:=match b with|some k=>k.base|none=> "object"
  let mro:=match b with|some k=>k.mro|none=>[.type "object"]
  let cv:Value:=.ref at'
  ⟨[Az (match b with|some k=>[bv]|none=>[]),TH "builtin_function_or_method" [.builtin "type.__prepare__",.type "type"],Gh (e0++e1++e2++e3) (3+es.length+1+e3.length)]
   ++ (if hasC then [⟨.type "cell",none,.cell (some cv),#[]⟩]else [])
   ++ (Hs file nm nm pos.line 0 0 0 0 [] false kids none none 181 a1 (t+2)).1
   ++ [⟨.type "frame",none,.plain,#[some (.ref cd),some (.ref 3),some (.ref (a+2)),none,some m,none,some (.ref 0)]⟩]
   ++ os++[Az (Xp sts t2),Gh (e0++e2++g1++g2++g3) (1+e3.length+g1.length+g2.length+g3.length),
    ⟨.type "type",none,.cls { name:=nm,bases:=[bv],mro:=cv::mro,ns:=a2+1,qualname:=nm },#[if b.isSome then some (.ref a) else none,none,some (.str nm t),some (.str nm (t1+1)),some (.builtin (rt ++ ".__new__")),some (.bool true)]⟩]
   ++ (if ob then [TH "getset_descriptor" [.str "__dict__" t4,cv,.builtin "function.__dict__",.builtin "function.__dict__#set"]]else [])
   ++ (if own then []else [TH "getset_descriptor" [.str "__weakref__" t5,cv,.builtin "ExceptionGroup.__weakref__",.none]])
   ++ [TH "super" [cv,cv,cv],TH "builtin_function_or_method" [.builtin "object.__init_subclass__",cv]],at',cd,⟨nm,cv::mro,rt⟩,bv,ae+2,t7+1⟩
def Hu(t:Nat):Expr->Value|.Constant (.int i) _ _=>.int i t|.Constant (.str s) _ _=>.str s t|_=>.none
def Qg(p:Params):List (Option Expr)->List Expr->Nat->List DictEntry|some (.Constant (.str k) _ _)::r,v::s,t=>Dz p k t (Hu (t+1) v)::Qg p r s (t+2)|_,_,_=>[]
def Ln:List DictEntry->Str->Value
 |⟨_,.str s _,v⟩::r,n=>if s == n then v else Ln r n
 |_::r,n=>Ln r n|[],_=>.none
def Qh(p:Params)(n:Str)(t:Nat)(v:Value):List DictEntry->List DictEntry
 |⟨h,.str s t',v'⟩::r=>if s == n then⟨h,.str s t',v⟩::r else⟨h,.str s t',v'⟩::Qh p n t v r
 |e::r=>e::Qh p n t v r|[]=>[]
def Qi(n:Str):List DictEntry->Bool
 |⟨_,.str s _,_⟩::r=>if s == n then true else Qi n r
 |_::r=>Qi n r|[]=>false
structure HdS where
 m:Value
 os:List (List Obj)
 es:List DictEntry
 ks:List (List Value)
 cs:List ZQ
 sb:List (Addr×Value)
 st:List DictEntry
 a:Nat
 t:Nat
def Wc(p:Params)(dup:List Str)(n:Str)(t:Nat)(v:Value)(es:List DictEntry):List DictEntry:=if dup.elem n&&Qi n es then Qh p n t v es else Dz p n t v::es
def JB(p:Params)(file:Str)(dup:List Str):List Stmt->HdS->HdS
 |[],s=>s|.FunctionDef nm args body ds _ _ sc _ _ pos::r,s=>
  let g:=Xs p file "" s.m none false nm args body ds sc pos s.a s.t
  frNat g.a λa=>frNat g.t λt=>JB p file dup r { s with os:=g.objs::s.os,es:=Wc p dup nm t g.v s.es,ks:=hdPos pos g.code::s.ks,a:=a,t:=t+1 }
 |.ClassDef nm bases _ body _ _ sc _ _ sts pos::r,s=>
  let g:=aaw p file s.m s.cs nm bases body sc sts pos s.a s.t;let ix:=g.base == .type "IndexError"
  frNat g.a λa=>frNat (if ix then g.t+2 else g.t) λt=>JB p file dup r { s with os:=g.objs::s.os,es:=Dz p nm t (.ref g.addr)::s.es,ks:=hdPos pos g.code::s.ks,a:=a,t:=t+1,cs:=g.k::s.cs,sb:=(match g.base with|.ref b=>(b,.ref g.addr)::s.sb|_=>s.sb),st:=if ix then s.st++[Dz p "type.__subclasses__.IndexError.0" (g.t-1) (BI g.addr),Dz p "type.__subclasses__.IndexError.n" g.t (BI 1)]else s.st }
 |.Assign (.Name n _::_) (.Name x _) _::r,s=>JB p file dup r { s with es:=Wc p dup n s.t (Ln s.es x) s.es,t:=s.t+1 }|.Assign (.Name n _::_) (.Dict ks vs _) _::r,s=>frNat (s.t+3*vs.length) λt=>JB p file dup r { s with os:=[Gh (Qg p ks vs s.t) vs.length]::s.os,es:=Dz p n t (.ref s.a)::s.es,a:=s.a+1,t:=t+1 }|.Assign (.Name n _::_) v _::r,s=>
  if n == "__name__" then JB p file dup r { s with m:=Hu s.t v,t:=s.t+2 }
  else JB p file dup r { s with es:=Dz p n (s.t+1) (Hu s.t v)::s.es,t:=s.t+2 }
 |_::r,s=>JB p file dup r s
def aax(m:Value)(es:List DictEntry):Obj->Obj
 |⟨c,d,.dict e n,s⟩=>match e.toList with
  |⟨h,k,_⟩::r=>⟨c,d,.dict ((⟨h,k,m⟩::r)++es.reverse).toArray (n+es.length),s⟩|[]=>⟨c,d,.dict e n,s⟩
 |o=>o
def Xt(es:List DictEntry):Obj->Obj|⟨c,d,.dict e n,s⟩=>⟨c,d,.dict (e.toList++es).toArray (n+es.length),s⟩|o=>o
def aay(v:Value):Obj->Obj|⟨c,d,.cls k,s⟩=>⟨c,d,.cls { k with subclasses:=k.subclasses++[v] },s⟩|o=>o
def MU:List Obj->List Obj×List Obj|[]=>([],[])|x::r=>(x::(MU r).2,(MU r).1)
def Lo:Nat->List Obj->BT|0,_=>.nil|_+1,[]=>.nil|n+1,x::r=>.node x (Lo n (MU r).1) (Lo n (MU r).2)
def aaz(l:List Obj)(n:Nat)(f:Obj->Obj):List Obj:=l.take n++(match l.drop n with|o::r=>f o::r|[]=>[])
def aaA(P:Program)(dup:List Str)(p:Params)(bo:List Obj)(life:Life)(dr:Drawn)(os:OsState):SharedT:=
 let s:=JB p P.main.file dup (behindTheImports P) ⟨.str "__main__" 164,[],[],[],[],[],[],15,187⟩;let b2:=aaz (aaz bo 3 (aax s.m s.es)) 2 (Xt s.st);let c:=Hs P.main.file "<module>" "<module>" 1 0 0 0 0 [] false s.ks.reverse.flatten none none 181 11 182;let all:=b2++c.1++[⟨.type "frame",none,.plain,#[some (.ref 13),some (.ref 3),some (.ref 3),none,some (.str "__main__" 164),none,some (.ref 0)]⟩]++s.os.reverse.flatten
 ⟨s.sb.reverse.foldl (λt x=>t.set x.1 (aay x.2)) (Lo 20 all),s.a,life,#[],dr,s.t,os⟩
noncomputable section
def hdX(P:Program)(dup:List Str)(w:World)(os:OsState):SharedT:=aaA P dup w.params (boot_heap w.params).objs.toList (boot_heap w.params).life boot_drawn os
end
section
variable {n:SM}{r:AM}{e:Er}
def SR.sq(r:SR)(n:SM):SR:=match r with
 |.nx ρ' S'=>n ρ' S'|.rt a S'=>.rt a S'|.bk ρ' S'=>.bk ρ' S'|.ct ρ' S'=>.ct ρ' S'|.er e S'=>.er e S'|.stk=>.stk
end
def SR.sat(N:Env->ag->Prop)(T:A->ag->Prop)(B C:Env->ag->Prop)(E:Er->ag->Prop):SR->Prop|.nx ρ S=>N ρ S|.rt a S=>T a S|.bk ρ S=>B ρ S|.ct ρ S=>C ρ S|.er e S=>E e S|.stk=>False
section
variable {N B C N' B' C':Env->ag->Prop}{T T':A->ag->Prop}{E E':Er->ag->Prop}{ρ:Env}{S:ag}
theorem SR.sat.imp{r:SR}(h:r.sat N T B C E)(hN:∀ρ S,N ρ S->N' ρ S)(hT:∀a S,T a S->T' a S)(hB:∀ρ S,B ρ S->B' ρ S)(hC:∀ρ S,C ρ S->C' ρ S)(hE:∀e S,E e S->E' e S):r.sat N' T' B' C' E':=by
 cases r with
 |nx ρ S=>exact hN _ _ h|rt ρ S=>exact hT _ _ h|bk ρ S=>exact hB _ _ h|ct ρ S=>exact hC _ _ h|er ρ S=>exact hE _ _ h|stk=>exact h
end
section
open L2H (RoomH PinOk cxH inv_startH roomH_of)
def top(i:Nat):Stmt:=PySem.Challenge.pw_lotbarter_k12_whole_least_automata.main.body.getD i (.Pass ⟨0,0,0,0⟩)
abbrev uv:Stmt:=inClass (top 34) 13
abbrev rG:Stmt:=inClass (top 28) 10
abbrev xw:Stmt:=top 4
abbrev xy:Stmt:=top 5
abbrev BK:Stmt:=top 6
abbrev pD:Stmt:=top 26
abbrev rH:Stmt:=inClass (top 34) 12
abbrev rJ:Stmt:=top 27
abbrev g7:Stmt:=inClass (top 28) 0
abbrev j9:Stmt:=top 29
abbrev oV:Stmt:=top 21
abbrev bY:Stmt:=top 22
abbrev nN:Stmt:=inClass (top 19) 1
abbrev nO:Stmt:=inClass (top 19) 2
abbrev kP:Stmt:=inClass (top 19) 3
abbrev ka:Stmt:=top 20
abbrev qi:Stmt:=inClass (top 19) 0
abbrev gi:Stmt:=top 23
abbrev jq:Stmt:=inClass (top 28) 8
abbrev qj:Stmt:=inClass (top 28) 9
abbrev zI:Stmt:=top 37
abbrev D7:Stmt:=top 38
abbrev qW:Stmt:=top 33
abbrev vP:Stmt:=top 9
abbrev oW:Stmt:=top 32
abbrev qo:Stmt:=inClass (top 34) 0
abbrev nP:Stmt:=inClass (top 34) 1
abbrev vQ:Stmt:=top 39
abbrev kg:Stmt:=inClass (top 28) 3
abbrev mF:Stmt:=inClass (top 28) 2
abbrev nQ:Stmt:=top 48
abbrev lH:Stmt:=top 40
abbrev lP:Stmt:=inClass (top 34) 2
abbrev gO:Stmt:=inClass (top 28) 4
abbrev iP:Stmt:=inClass (top 34) 7
abbrev kQ:Stmt:=inClass (top 28) 5
abbrev zJ:Stmt:=top 42
abbrev zK:Stmt:=top 45
abbrev jI:Stmt:=inClass (top 28) 1
abbrev vR:Stmt:=top 47
abbrev qX:Stmt:=top 41
abbrev br:Stmt:=top 43
abbrev gA:Stmt:=top 46
abbrev jr:Stmt:=top 44
abbrev zL:Stmt:=top 36
def TJ(K:PySem.W.Frag):Nat->Addr|0=>He.ga K "Alphabet"|1=>He.ga K "Automaton"|10=>He.ga K "InvalidAlphabet"|11=>He.ga K "InvalidLetter"|12=>He.ga K "InvalidColor"|13=>He.ga K "InvalidWord"|14=>He.ga K "InvalidRow"|18=>He.ga K "InvalidAutomaton"|20=>He.ga K "LotError"|70=>He.ga K "Quotient"|_=>0
def MV:List Jx:=[]
abbrev rK:Stmt:=top 49
def uw:bA:=⟨.ma "Alphabet" "__eq__", "__eq__", "Alphabet.__eq__",uv,[]⟩
def rM:bA:=⟨.ma "Automaton" "__eq__", "__eq__", "Automaton.__eq__",rG,[]⟩
def xA:bA:=⟨.ga "is_number", "is_number", "is_number",xw,[]⟩
def xB:bA:=⟨.ga "is_within", "is_within", "is_within",xy,[]⟩
def BL:bA:=⟨.ga "is_list", "is_list", "is_list",BK,[]⟩
def xC:bA:=⟨.ga "are_goals", "are_goals", "are_goals",pD,[]⟩
def rN:bA:=⟨.ma "Alphabet" "__len__", "__len__", "Alphabet.__len__",rH,[]⟩
def zM:bA:=⟨.ga "are_ends", "are_ends", "are_ends",rJ,[]⟩
def nR:bA:=⟨.ma "Automaton" "__init__", "__init__", "Automaton.__init__",g7,[]⟩
def nS:bA:=⟨.ga "automaton_from", "automaton_from", "automaton_from",j9,[]⟩
def ux:bA:=⟨.ga "live_places", "live_places", "live_places",oV,[]⟩
def qp:bA:=⟨.ga "class_numbers", "class_numbers", "class_numbers",bY,[]⟩
def nT:bA:=⟨.ma "Quotient" "begin", "begin", "Quotient.begin",nN,[]⟩
def nU:bA:=⟨.ma "Quotient" "later", "later", "Quotient.later",nO,[]⟩
def kR:bA:=⟨.ma "Quotient" "is_final", "is_final", "Quotient.is_final",kP,[]⟩
def nV:bA:=⟨.ga "explored_table", "explored_table", "explored_table",ka,[]⟩
def qu:bA:=⟨.ma "Quotient" "__init__", "__init__", "Quotient.__init__",qi,[]⟩
def qv:bA:=⟨.ga "reduced_table", "reduced_table", "reduced_table",gi,[]⟩
def mG:bA:=⟨.ma "Automaton" "least", "least", "Automaton.least",jq,[]⟩
def qw:bA:=⟨.ma "Automaton" "__len__", "__len__", "Automaton.__len__",qj,[]⟩
def zN:bA:=⟨.ga "_law_pick", "_law_pick", "_law_pick",zI,[]⟩
def D8:bA:=⟨.ga "_law_of", "_law_of", "_law_of",D7,[]⟩
def vS:bA:=⟨.ga "are_digits", "are_digits", "are_digits",qW,[]⟩
def zO:bA:=⟨.ga "is_small", "is_small", "is_small",vP,[]⟩
def uy:bA:=⟨.ga "are_letters", "are_letters", "are_letters",oW,[]⟩
def qx:bA:=⟨.ma "Alphabet" "__init__", "__init__", "Alphabet.__init__",qo,[]⟩
def nW:bA:=⟨.re "staticmethod" "Alphabet" "plain", "plain", "Alphabet.plain",nP,[]⟩
def zP:bA:=⟨.ga "_law_like", "_law_like", "_law_like",vQ,[]⟩
def nX:bA:=⟨.ma "Automaton" "ends", "ends", "Automaton.ends",kg,[]⟩
def mH:bA:=⟨.ma "Automaton" "goals", "goals", "Automaton.goals",mF,[]⟩
def nY:bA:=⟨.ga "_law_long_chain", "_law_long_chain", "_law_long_chain",nQ,[]⟩
def qy:bA:=⟨.ga "_law_all_words", "_law_all_words", "_law_all_words",lH,[]⟩
def lQ:bA:=⟨.re "property" "Alphabet" "letters", "letters", "Alphabet.letters",lP,[]⟩
def gQ:bA:=⟨.ma "Automaton" "place_behind", "place_behind", "Automaton.place_behind",gO,[]⟩
def lR:bA:=⟨.ma "Alphabet" "is_word", "is_word", "Alphabet.is_word",iP,[]⟩
def kS:bA:=⟨.ma "Automaton" "accepts", "accepts", "Automaton.accepts",kQ,[]⟩
def zQ:bA:=⟨.ga "_law_move", "_law_move", "_law_move",zJ,[]⟩
def zR:bA:=⟨.ga "_law_walk", "_law_walk", "_law_walk",zK,[]⟩
def jJ:bA:=⟨.re "property" "Automaton" "alphabet", "alphabet", "Automaton.alphabet",jI,[]⟩
def zS:bA:=⟨.ga "_law_ends", "_law_ends", "_law_ends",vR,[]⟩
def vT:bA:=⟨.ga "_law_unlike", "_law_unlike", "_law_unlike",qX,[]⟩
def uz:bA:=⟨.ga "_law_reduced", "_law_reduced", "_law_reduced",br,[]⟩
def mI:bA:=⟨.ga "_law_drawn_table", "_law_drawn_table", "_law_drawn_table",gA,[]⟩
def mJ:bA:=⟨.ga "_law_small_signs", "_law_small_signs", "_law_small_signs",jr,[]⟩
def zT:bA:=⟨.ga "_law_hand", "_law_hand", "_law_hand",zL,[]⟩
def Wd:bA:=⟨.ga "law", "law", "law",rK,[]⟩
abbrev vU:Stmt:=inClass (top 12) 0
def bV:bA:=⟨.ma "InvalidAlphabet" "__init__", "__init__", "InvalidAlphabet.__init__",vU,["__class__"]⟩
abbrev uU:Stmt:=inClass (top 17) 0
def bN:bA:=⟨.ma "InvalidAutomaton" "__init__", "__init__", "InvalidAutomaton.__init__",uU,["__class__"]⟩
abbrev zU:Stmt:=inClass (top 15) 0
def cP:bA:=⟨.ma "InvalidWord" "__init__", "__init__", "InvalidWord.__init__",zU,["__class__"]⟩
def fns:List bA:=[uw,rM,xA,xB,BL,xC,rN,zM,nR,nS,ux,qp,nT,nU,kR,nV,qu,qv,mG,qw,zN,D8,vS,zO,uy,qx,nW,zP,nX,mH,nY,qy,lQ,gQ,lR,kS,zQ,zR,jJ,zS,vT,uz,mI,mJ,zT,Wd,bV,bN,cP]
def facts:List (PySem.W.Frag->Bool):=[
 λK=>(He.Fa.glo "is_number").ok K,
 λK=>(He.Fa.glo "is_within").ok K,
 λK=>(He.Fa.glo "is_list").ok K,
 λK=>(He.Fa.glo "are_goals").ok K,
 λK=>(He.Fa.glo "are_ends").ok K,
 λK=>(He.Fa.glo "automaton_from").ok K,
 λK=>(He.Fa.glo "live_places").ok K,
 λK=>(He.Fa.glo "class_numbers").ok K,
 λK=>(He.Fa.glo "explored_table").ok K,
 λK=>(He.Fa.glo "reduced_table").ok K,
 λK=>(He.Fa.glo "_law_pick").ok K,
 λK=>(He.Fa.glo "_law_of").ok K,
 λK=>(He.Fa.glo "are_digits").ok K,
 λK=>(He.Fa.glo "is_small").ok K,
 λK=>(He.Fa.glo "are_letters").ok K,
 λK=>(He.Fa.glo "_law_like").ok K,
 λK=>(He.Fa.glo "_law_long_chain").ok K,
 λK=>(He.Fa.glo "_law_all_words").ok K,
 λK=>(He.Fa.glo "_law_move").ok K,
 λK=>(He.Fa.glo "_law_walk").ok K,
 λK=>(He.Fa.glo "_law_ends").ok K,
 λK=>(He.Fa.glo "_law_unlike").ok K,
 λK=>(He.Fa.glo "_law_reduced").ok K,
 λK=>(He.Fa.glo "_law_drawn_table").ok K,
 λK=>(He.Fa.glo "_law_small_signs").ok K,
 λK=>(He.Fa.glo "_law_hand").ok K,
 λK=>(He.Fa.free "all").ok K,
 λK=>(He.Fa.free "any").ok K,
 λK=>(He.Fa.free "bool").ok K,
 λK=>(He.Fa.free "dict").ok K,
 λK=>(He.Fa.free "enumerate").ok K,
 λK=>(He.Fa.free "int").ok K,
 λK=>(He.Fa.free "isinstance").ok K,
 λK=>(He.Fa.free "len").ok K,
 λK=>(He.Fa.free "list").ok K,
 λK=>(He.Fa.free "range").ok K,
 λK=>(He.Fa.free "sorted").ok K,
 λK=>(He.Fa.free "str").ok K,
 λK=>(He.Fa.free "tuple").ok K,
 λK=>(He.Fa.free "zip").ok K,
 λK=>(He.Fa.int "MOST_LETTERS" 8).ok K,
 λK=>(He.Fa.int "MOST_PLACES" 200).ok K,
 λK=>(He.Fa.str "SMALL" "abcdefghijklmnopqrstuvwxyz").ok K,
 λK=>(He.Fa.glo "Alphabet").ok K,
 λK=>(He.Fa.glo "Automaton").ok K,
 λK=>(He.Fa.glo "InvalidAlphabet").ok K,
 λK=>(He.Fa.glo "InvalidAutomaton").ok K,
 λK=>(He.Fa.glo "InvalidWord").ok K,
 λK=>(He.Fa.glo "Quotient").ok K,
 λK=>(He.Fa.cls "Alphabet").ok K,
 λK=>(He.Fa.mkr "Alphabet").ok K,
 λK=>(He.Fa.cls "Automaton").ok K,
 λK=>(He.Fa.mkr "Automaton").ok K,
 λK=>(He.Fa.cls "Quotient").ok K,
 λK=>(He.Fa.mkr "Quotient").ok K,
 λK=>P1 K (He.ga K "InvalidAlphabet"),
 λK=>Tx K bV (He.ga K "InvalidAlphabet") PySem.Challenge.pw_lotbarter_k12_whole_least_automata.main.file (([("given",.inl 0),("code",.inr "InvalidAlphabet")]:List (Str×kO)).map (·.1)),
 λK=>(He.Fa.free "super").ok K,
 λK=>P1 K (He.ga K "InvalidAutomaton"),
 λK=>Tx K bN (He.ga K "InvalidAutomaton") PySem.Challenge.pw_lotbarter_k12_whole_least_automata.main.file (([("code",.inr "InvalidAutomaton")]:List (Str×kO)).map (·.1)),
 λK=>P1 K (He.ga K "InvalidWord"),
 λK=>Tx K cP (He.ga K "InvalidWord") PySem.Challenge.pw_lotbarter_k12_whole_least_automata.main.file (([("given",.inl 0),("code",.inr "InvalidWord")]:List (Str×kO)).map (·.1)),
 λK=>P0 K (He.ga K "Alphabet") "letters",
 λK=>P0 K (He.ga K "Automaton") "alphabet",
 λK=>(He.Fa.meth "Alphabet" "__eq__").ok K,
 λK=>(He.Fa.meth "Alphabet" "__len__").ok K,
 λK=>(He.Fa.meth "Alphabet" "is_word").ok K,
 λK=>(He.Fa.meth "Automaton" "__eq__").ok K,
 λK=>(He.Fa.meth "Automaton" "__len__").ok K,
 λK=>(He.Fa.meth "Automaton" "accepts").ok K,
 λK=>(He.Fa.meth "Automaton" "ends").ok K,
 λK=>(He.Fa.meth "Automaton" "goals").ok K,
 λK=>(He.Fa.meth "Automaton" "least").ok K,
 λK=>(He.Fa.meth "Automaton" "place_behind").ok K,
 λK=>(He.Fa.meth "Quotient" "begin").ok K,
 λK=>(He.Fa.meth "Quotient" "is_final").ok K,
 λK=>(He.Fa.meth "Quotient" "later").ok K,
 λK=>V8 K (He.ga K "Alphabet") "plain",
 λK=>(He.Fa.noat "Alphabet" "own_digits").ok K,
 λK=>(He.Fa.noat "Alphabet" "own_letters").ok K,
 λK=>(He.Fa.noat "Automaton" "own_alphabet").ok K,
 λK=>(He.Fa.noat "Automaton" "own_ends").ok K,
 λK=>(He.Fa.noat "Automaton" "own_goals").ok K,
 λK=>(He.Fa.noat "Quotient" "flags").ok K,
 λK=>(He.Fa.noat "Quotient" "goal_rows").ok K,
 λK=>(He.Fa.noat "Quotient" "numbers").ok K,
 λK=>(He.Fa.noat "Quotient" "samples").ok K,
 λK=>aam K (TJ K) [0,1],
 λK=>oB (PySem.W.findIn K (.ref (He.ga K "Alphabet")) "__ne__") (some (some (.builtin "object.__ne__"))),
 λK=>decide (PySem.W.mroIn K (He.ga K "Alphabet") (.type "object")=some true),
 λK=>oB (PySem.W.findIn K (.ref (He.ga K "Automaton")) "__ne__") (some (some (.builtin "object.__ne__"))),
 λK=>decide (PySem.W.mroIn K (He.ga K "Automaton") (.type "object")=some true),
 λK=>(He.Fa.glo "law").ok K]
def okK:PySem.W.Frag->Bool:=λK=>facts.all λf=>f K
abbrev xD:PySem.W.OpenRow:=PySem.W.OpenLaw.row PySem.Challenge.rw_lotbarter_k12_whole_least_automata
abbrev hk:PySem.W.Hook:=V9 5 [mainGlobals,cStatics] okK fns MV
def ob(s:PySem.W.SharedT):AlW:=P8 5 [mainGlobals,cStatics] okK fns MV (HandSHeadRun.getT s)
theorem aaD(s:PySem.W.SharedT):ob s=hk.obs s.abs:=Qa (HandSHeadRun.getT_eq s)
def names:List PySem.Str:=(["_wall", "__name__", "SMALL", "MOST_COLOR", "is_number", "is_within", "is_list", "is_color", "is_row", "is_small", "LotError", "InvalidAlphabet", "InvalidLetter", "InvalidColor", "InvalidWord", "InvalidRow", "InvalidAutomaton", "Quotient", "explored_table", "live_places"]:List PySem.Str)++(["class_numbers", "reduced_table", "MOST_PLACES", "are_goals", "are_ends", "Automaton", "automaton_from", "MOST_LETTERS", "are_letters", "are_digits", "Alphabet", "_law_hand", "_law_pick", "_law_of", "_law_like", "_law_all_words", "_law_unlike", "_law_move", "_law_reduced", "_law_small_signs"]:List PySem.Str)++(["_law_walk", "_law_drawn_table", "_law_ends", "_law_long_chain"]:List PySem.Str)
open PySem.W HandSHeadRun in
theorem hdR(w:World)(os:OsState):Tz 30000 xD.prog w os=some (hdX xD.prog [] w os):=by kernel_rfl
open PySem.W HandSHeadRun in
theorem adz(w:World)(os:OsState):looksF xD.prog (boot_heap w.params) (hdX xD.prog [] w os).abs=true:=by kernel_rfl
open PySem.W HandSHeadRun in
theorem adA(w:World)(os:OsState):seenQ (PySem.W.view xD.prog [49]) names (importedModules xD.prog.main.body) (λs=>xlAt (PySem.W.view xD.prog [49]) [] s&&recOk xD.toRowW.records s) (hdX xD.prog [] w os).abs=openGood (PySem.W.view xD.prog [49]) names:=by kernel_rfl
open PySem.W HandSHeadRun in
theorem adB(w:World)(os:OsState):ob (hdX xD.prog [] w os)=hk.val w:=by kernel_rfl
open PySem.W HandSHeadRun in
theorem aaE(w:World)(e:∀os:OsState,Tz 30000 xD.prog w os=some (hdX xD.prog [] w os)):HandSHeadRun.RunEq xD (PySem.W.view xD.prog [49]) hk ob 30000 names w:=by intro os;rw[TF,e os];exact ads (congrArg some (adz w os)) (congrArg some (adA w os)) (congrArg some (adB w os))
theorem TN(w:World):HandSHeadRun.RunEq xD (PySem.W.view xD.prog [49]) hk ob 30000 names w:=aaE w (hdR w)
end
end L3
section
open PySem PySem.W PySem.Calls PyProof.Rows
theorem L3.opening(hc:WalkO (view (OpenLaw.row PySem.Challenge.rw_lotbarter_k12_whole_least_automata).prog [49]) L3.names (XL (view (OpenLaw.row PySem.Challenge.rw_lotbarter_k12_whole_least_automata).prog [49]) []) L3.hk.says (OpenLaw.row PySem.Challenge.rw_lotbarter_k12_whole_least_automata).toRowW (HandSHeadRun.topDef (OpenLaw.row PySem.Challenge.rw_lotbarter_k12_whole_least_automata).prog 49) [] λf vs=>PySem.call f vs):PySem.Challenge.rw_lotbarter_k12_whole_least_automata.Holds:=by
 w_on;o_law
 refine HandSHeadRun.head_any (r:=OpenLaw.row PySem.Challenge.rw_lotbarter_k12_whole_least_automata) (q:=view (OpenLaw.row PySem.Challenge.rw_lotbarter_k12_whole_least_automata).prog [49]) (H:=L3.hk) (ob:=L3.ob) (M:=30000) (loose:=L3.names) (d:=HandSHeadRun.topDef (OpenLaw.row PySem.Challenge.rw_lotbarter_k12_whole_least_automata).prog 49) (kwd:=[]) L3.aaD
  (by kernel_rfl) (λs=>by kernel_rfl) L3.TN (by kernel_rfl) (by kernel_rfl) (by kernel_rfl) (by rfl) (by first|assumption|decide +kernel) (by decide +kernel) ⟨rfl,rfl,rfl,rfl,rfl,by decide +kernel⟩ ?hw hc
 case hw=>w_witness2
end
namespace L3
open PySem PySem.Spec PyProof.Rows L2
theorem fB.but{h h':Heap}{k:NK}{b D:Addr}{od:Obj}{rows:Array (Int×Value)}{ep:Nat}{tb:SetTable}(x:fB h k b)(hD:h.get? D=some od)(hdt:od.data=.set rows ep tb)(sb:Heap.SameBut D h h'):fB h' k b:=
 x.moved λc o vs n e q=>(sb.2 c λz=>by subst z;rw[hD]at e;cases e;rw[hdt]at q;cases q).trans e
section
variable {P:Program}{w:World}
def ClsAt(P:Program)(w:World)(n:Nat)(s:Shared)(v:Value):Prop:=∀(A:Around) (E:Value->Shared->Prop) (Q:Bool->Shared->Prop),Q false s->wpAny (model P w) A (ofAClassStatement n v) Q E s
def JC(P:Program)(w:World)(n:Nat)(s:Shared)(v:Value):Prop:=∀(A:Around) (E:Value->Shared->Prop) (Q:Bool->Shared->Prop),Q true s->wpAny (model P w) A (hashByValue n v) Q E s
theorem zV{n:Nat}{s:Shared}{v:Value}(h:carriedByValue v=true):ClsAt P w n s v:=λA E Q q=>by
 have e:ofAClassStatement n v=pure false:=by cases v<;>first|(cases n<;>rfl)|cases h
 rw[e];exact wpAny_pure q
theorem OQ{n:Nat}{s:Shared}{b:Addr}{o:Obj}{vs:Array Value}{m:Nat}(ho:s.heap.get? b=some o)(hc:o.cls=.type "tuple")(hd:o.data=.seq vs m)(hin:∀v∈vs.toList,ClsAt P w n s v):ClsAt P w (n+1) s (.ref b):=λA E Q q=>by
 unfold ofAClassStatement;refine wpAny_bind (wpAny_typeOf (⟨o,ho,hc⟩:s.TypeIs (.ref b) "tuple") ?_);dsimp only;have tt:(("tuple" : String) == "tuple")=true:=by decide
 simp only[tt,if_true,Bool.not_true,Bool.false_eq_true,if_false]
 try refine wpAny_bind (wpAny_pure ?_)
 try simp only[Bool.not_true,Bool.false_eq_true,if_false]
 show wpAny _ _ (seqItems? (.ref b) >>= _) _ _ s;refine wpAny_bind (wpAny_seqItems ho hd ?_);dsimp only;refine wpAny_bind ?_;show wpAny _ _ (forIn vs _ _) _ _ s;rw[<-Array.forIn_toList];refine wpAny_forIn_list _ (λleft r s1=>r.1=none/\s1=s/\∀v∈left,ClsAt P w n s v) _ ?_ ?_ _ _ ⟨rfl,rfl,hin⟩;rintro v left r s1 ⟨_,rfl,al⟩;refine wpAny_bind (al v List.mem_cons_self _ _ _ ?_);simp only[Bool.false_eq_true,if_false];exact wpAny_pure ⟨rfl,rfl,λu z=>al u (List.mem_cons_of_mem _ z)⟩;·rintro⟨r1,_⟩ s1 ⟨e1,rfl,_⟩;simp only at e1;subst e1;exact wpAny_pure q
theorem OR{n:Nat}{s:Shared}{b:Addr}{o:Obj}{vs:Array Value}{m:Nat}(ho:s.heap.get? b=some o)(hc:o.cls=.type "tuple")(hd:o.data=.seq vs m)(hin:∀v∈vs.toList,JC P w n s v):JC P w (n+1) s (.ref b):=λA E Q q=>by unfold hashByValue;refine wpAny_bind (wpAny_specialOf (⟨o,ho,hc⟩:s.TypeIs (.ref b) "tuple") F.slot_tuple_hash.lookup ?_);show wpAny _ _ (seqItems? (.ref b) >>= _) _ _ s;refine wpAny_bind (wpAny_seqItems ho hd ?_);refine wpAny_bind ?_;show wpAny _ _ (forIn vs _ _) _ _ s;rw[<-Array.forIn_toList];refine wpAny_forIn_list _ (λleft r s1=>r.1=none/\s1=s/\∀v∈left,JC P w n s v) _ ?_ ?_ _ _ ⟨rfl,rfl,hin⟩;rintro v left r s1 ⟨_,rfl,al⟩;refine wpAny_bind (al v List.mem_cons_self _ _ _ ?_);simp only[Bool.not_true,Bool.false_eq_true,if_false];exact wpAny_pure ⟨rfl,rfl,λu z=>al u (List.mem_cons_of_mem _ z)⟩;·rintro⟨r1,_⟩ s1 ⟨e1,rfl,_⟩;simp only at e1;subst e1;exact wpAny_pure q
mutual
theorem MX:∀(k:NK) (v:Value) (n:Nat) (s:Shared),NestedIs s.heap k v->k.depth<=n->ClsAt P w n s v
 |.none,_,n,s,x,_=>by cases x;exact zV rfl|.num i,_,n,s,x,_=>by cases x<;>exact zV rfl|.text y,_,n,s,x,_=>by cases x;exact zV rfl|.tup ks,_,n,s,x,hn=>by
  cases x with
  |tup x1 x2 x3 x4=>
   simp only[NestedKey.depth]at hn;cases n with
   |zero=>omega|succ n=>exact OQ x1 x2 x3 (JD ks _ n s x4 (by omega))
theorem JD:∀(ks:List NK) (vs:List Value) (n:Nat) (s:Shared),NestedAll s.heap ks vs->NestedKey.depthAll ks<=n->∀v∈vs,ClsAt P w n s v
 |[],_,n,s,x,_,v,hv=>by cases x;cases hv|k::ks,_,n,s,x,hn,v,hv=>by
  cases x with
  |cons x1 x2 =>simp only[NestedKey.depthAll]at hn;rcases List.mem_cons.mp hv with e|hv;rw[e];exact MX k _ n s x1 (by omega);·exact JD ks _ n s x2 (by omega) v hv
end
mutual
theorem Hv:∀(k:NK) (v:Value) (n:Nat) (s:Shared),NestedIs s.heap k v->k.depth<=n->k.PF=true->JC P w n s v
 |.none,_,n,s,x,_,h=>by cases h|.num i,_,n,s,x,_,_=>by cases x<;>intro A E Q q;rw[show hashByValue n (.bool _)=pure true by cases n<;>rfl];exact wpAny_pure q;·rw[show hashByValue n (.int _ _)=pure true by cases n<;>rfl];exact wpAny_pure q
 |.text y,_,n,s,x,_,h=>by cases h|.tup ks,_,n,s,x,hn,h=>by
  cases x with
  |tup x1 x2 x3 x4=>
   simp only[NestedKey.depth]at hn;cases n with
   |zero=>omega|succ n=>exact OR x1 x2 x3 (JE ks _ n s x4 (by omega) (by simpa only[NK.PF]using h))
theorem JE:∀(ks:List NK) (vs:List Value) (n:Nat) (s:Shared),NestedAll s.heap ks vs->NestedKey.depthAll ks<=n->NK.FP ks=true->∀v∈vs,JC P w n s v
 |[],_,n,s,x,_,_,v,hv=>by cases x;cases hv|k::ks,_,n,s,x,hn,h,v,hv=>by
  cases x with
  |cons x1 x2 =>simp only[NestedKey.depthAll]at hn;simp only[NK.FP,Bool.and_eq_true]at h;rcases List.mem_cons.mp hv with e|hv;rw[e];exact Hv k _ n s x1 (by omega) h.1;·exact JE ks _ n s x2 (by omega) h.2 v hv
end
end
section
variable {P:Program}{w:World}{A:Around}{E:Value->Shared->Prop}{s:Shared}
theorem Qj{x y:NK}{a b:Addr}{Q:Bool->Shared->Prop}(hu:A.units+8<cLine)(hx:fB s.heap x a)(hy:fB s.heap y b)(h:Q (decide (x=y)) s):wpAny (model P w) A (eqBool (.ref a) (.ref b)) Q E s:=
 (nestedKind P w).eqBool hu ⟨hx.is,hx.deep⟩ ⟨hy.is,hy.deep⟩ h
theorem Qk{k:NK}{b:Addr}{Q:Bool->Shared->Prop}(hk:fB s.heap k b){ys:List Value}(hy:∀y∈ys,∃k' c,y=Value.ref c/\fB s.heap k' c)(h:Q false s):wpAny (model P w) A (searchCouldBeSeen (.ref b) ys) Q E s:=by
 have qt:∀{k c},fB s.heap k c->QuietAt P w 8 s (.ref c):=λx=>quiet_key _ _ 8 s x.is x.deep;have ct:∀{k c},fB s.heap k c->ClsAt P w 8 s (.ref c):=λx=>MX _ _ 8 s x.is x.deep;unfold searchCouldBeSeen;refine wpAny_bind ?_;refine wpAny_forIn_list _ (λleft r s1=>r.1=none/\s1=s/\∀y∈left,∃k' c,y=Value.ref c/\fB s.heap k' c) _ ?_ ?_ _ _ ⟨rfl,rfl,hy⟩;·rintro v left r s1 ⟨_,rfl,al⟩;obtain⟨k',c,rfl,hc⟩:=al v List.mem_cons_self;have al':∀y∈left,∃k' c,y=Value.ref c/\fB s1.heap k' c:=λu z=>al u (List.mem_cons_of_mem _ z);dsimp only;by_cases very:(b == c||(carriedByValue (.ref b)&&carriedByValue (.ref c)))=true;refine wp_if_pos very ?_;exact wpAny_pure ⟨rfl,rfl,al'⟩;·refine wp_if_neg very ?_;refine wpAny_bind (qt hk _ _ _ ?_);simp only[Bool.not_true,Bool.false_eq_true,if_false];refine wpAny_bind (qt hc _ _ _ ?_);simp only[Bool.not_true,Bool.false_eq_true,if_false];refine wpAny_bind (ct hk _ _ _ ?_);simp only[Bool.false_eq_true,if_false];refine wpAny_bind (ct hc _ _ _ ?_);simp only[Bool.false_eq_true,if_false];exact wpAny_pure ⟨rfl,rfl,al'⟩
 ·rintro⟨r1,_⟩ s1 ⟨e1,rfl,_⟩;simp only at e1;subst e1;exact wpAny_pure h
end
theorem rE.odd{m:Nat}(h:rE m):m%2=1:=by rcases h with rfl|rfl|rfl|rfl|rfl|rfl<;>rfl
theorem rE.le{m:Nat}(h:rE m):m<=8191:=by rcases h with rfl|rfl|rfl|rfl|rfl|rfl<;>decide
section
variable {t:SetTable}{hs:List Int}{m:Nat}
theorem Hw(h:Int)(k:Nat):way m h k<=m:=by
 have h0:SetTable.bits h%(m+1)<=m:=Nat.le_of_lt_succ (Nat.mod_lt _ (Nat.succ_pos _));have h1:=runEnd_bd h0;have h2:SetTable.bits h%(m+1)+(SetTable.runEnd m (SetTable.bits h%(m+1))-SetTable.bits h%(m+1))<=m:=by omega
 have h3:=nth_in (m:=m) k (runAt m (SetTable.bits h%(m+1)) (SetTable.bits h)) h2;exact Nat.le_trans (Nat.le_add_right _ _) h3
theorem FU.put(T:FU t hs){h:Int}{K:Nat}(hK:way t.mask h K∉t.place.toList)(hb:∀k,k<K->way t.mask h k∈t.place.toList) :(t.put (way t.mask h K)).2=SetTable.below t.place (way t.mask h K)/\SetTable.below t.place (way t.mask h K)<=hs.length /\
  FU (t.put (way t.mask h K)).1 (hs.take (SetTable.below t.place (way t.mask h K))++h::hs.drop (SetTable.below t.place (way t.mask h K))) /\
  (t.put (way t.mask h K)).1.mask=t.mask/\(t.put (way t.mask h K)).1.led=t.led/\(t.put (way t.mask h K)).1.plain=t.plain/\(t.put (way t.mask h K)).1.fill=hs.length+1:=by
 have hle:=Hw (m:=t.mask) h K;generalize hj:way t.mask h K=j at hK hle ⊢;have cut:=(below_cut T.ris j).1;have lp:t.place.toList.length=hs.length:=by rw[Array.length_toList,T.sz]
 have b1:SetTable.below t.place j<=t.place.toList.length:=cut;have b2:SetTable.below t.place j<=hs.length:=by rw[<-lp];exact b1
 have pl:=put_place t j;have sz:(t.put j).1.place.size=hs.length+1:=by rw[<-Array.length_toList,pl,len_ins _ b1,lp]
 have Ts:∀x∈t.place.toList,x∈(t.put j).1.place.toList:=λx hx=>by rw[pl];exact mem_ins.mpr (.inr hx)
 refine⟨rfl,b2,⟨ris_insert T.ris λe=>hK (List.mem_of_getElem? (by rw[Array.getElem?_toList];exact e)),put_dm T.dm j,by rw[len_ins _ b2];exact sz,T.mok,?_,?_⟩,rfl,rfl,rfl,?_⟩;·intro x hx;rw[pl]at hx;rcases mem_ins.mp hx with rfl|hx;exact hle;·exact T.bd x hx
 ·intro i h' j' e1 e2;rw[tins_get hs b2]at e1;rw[pl,tins_get _ b1]at e2;have old:∀i',hs[i']?=some h'->t.place.toList[i']?=some j'->∃k,way t.mask h' k=j'/\∀k',k'<k->way t.mask h' k'∈(t.put j).1.place.toList:=λi' a1 a2=>by obtain⟨k,e,z⟩:=T.reach i' h' j' a1 a2;exact⟨k,e,λk' hk'=>Ts _ (z k' hk')⟩
  split at e1;·rw[if_pos ‹_›]at e2;exact old i e1 e2
  ·rw[if_neg ‹_›]at e2;split at e1;rw[if_pos ‹_›]at e2;cases e1;cases e2;exact⟨K,hj,λk' hk'=>Ts _ (hb k' hk')⟩;·rw[if_neg ‹_›]at e2;exact old (i-1) e1 e2
 ·show(t.put j).1.place.size+(t.put j).1.dummies.size=_;rw[sz,put_dm T.dm j];rfl
theorem Ql(hm:rE m){done:List Int}{owner:Array (Option Nat)}(W:Own m done owner)(hl:done.length<=m)(h:Int) :∃j,SetTable.layClean.free m owner (SetTable.turns m) (SetTable.bits h%(m+1)) (SetTable.bits h)=some j/\Own m (done++[h]) (owner.setIfInBounds j (some done.length)):=by
 obtain⟨ps,lps,ips⟩:=W.ps;obtain⟨j0,h0,n0⟩:=st_missing ps (m+1) (by omega);have f0:oAt owner j0=none:=Option.eq_none_iff_forall_ne_some.mpr λk e=>n0 (ips j0 (by omega) (by rw[e];simp));obtain⟨n,K,hn,hK,_,p1,p2⟩:=F8 (p:=λx=>oAt owner x=none) hm h (Nat.le_of_lt_succ h0) f0;have le:=Hw (m:=m) h K;have fr:=free_spec m owner (SetTable.turns m) n _ _ K (by unfold SetTable.turns;omega) hK (λk hk=>by
  have q:=p2 k hk;show(oAt owner (way m h k)).isNone=false;cases z:oAt owner (way m h k) with
  |none=>exact absurd z q|some _=>rfl) (by show(oAt owner (way m h K)).isNone=true;rw[p1];rfl)
 refine⟨way m h K,fr,?_⟩;obtain⟨j,hj⟩:∃j,way m h K=j:=⟨_,rfl⟩;rw[hj]at p1 le ⊢;have self:oAt (owner.setIfInBounds j (some done.length)) j=some done.length:=oAt_set_self _ (by rw[W.sz];omega);have F7:∀{i:Nat},i≠j->oAt (owner.setIfInBounds j (some done.length)) i=oAt owner i:=λc=>oAt_set_ne _ c;have kept:∀{i:Nat},oAt owner i≠none->oAt (owner.setIfInBounds j (some done.length)) i≠none:=λ{i} q=>by by_cases c:i=j;rw[c,self];simp;·rw[F7 c];exact q
 refine⟨by rw[Array.size_setIfInBounds];exact W.sz,?_,?_,j::ps,by simp[lps],?_⟩;·intro i k hi e;by_cases c:i=j;subst c;rw[self]at e;cases e;exact⟨h,K,by simp,hj,λk' hk'=>kept (p2 k' hk')⟩;·rw[F7 c]at e;obtain⟨h',K',a1,a2,a3⟩:=W.at_ i k hi e;exact⟨h',K',by rw[List.getElem?_append_left (List.getElem?_eq_some_iff.mp a1).1];exact a1,a2,λk' hk'=>kept (a3 k' hk')⟩
 ·intro k hk;rw[List.length_append,List.length_singleton]at hk;by_cases c:k=done.length;·subst c;exact⟨j,le,self⟩
  ·obtain⟨i,hi,e⟩:=W.all k (by omega);exact⟨i,hi,by rw[F7 λz=>by rw[z,p1]at e;cases e];exact e⟩
 ·intro i hi e;by_cases c:i=j;·rw[c];exact List.mem_cons_self
  ·rw[F7 c]at e;exact List.mem_cons_of_mem _ (ips i hi e)
theorem MY(hm:rE m):∀(rest done:List Int) (owner:Array (Option Nat)),Own m done owner->done.length+rest.length<=m ->
  ∃owner' n,rest.foldl (stepF m) (some (owner,done.length))=some (owner',n)/\Own m (done++rest) owner'
 |[],done,owner,W,_=>⟨owner,done.length,rfl,by rw[List.append_nil];exact W⟩|h::rest,done,owner,W,hl=>by
  simp only[List.length_cons]at hl;obtain⟨j,e,W1⟩:=Ql hm W (by omega) h;have l1:(done++[h]).length=done.length+1:=by simp
  obtain⟨owner',n,f,W2⟩:=MY hm rest (done++[h]) _ W1 (by rw[l1];omega);rw[List.append_assoc]at W2;rw[l1]at f;exact⟨owner',n,by rw[List.foldl_cons,stepF_some e];exact f,W2⟩
theorem Lp(t:SetTable){hs:Array Int}{wanted M:Nat}(hw:SetTable.sizeAbove wanted-1=M)(hM:rE M)(hn:hs.size<=M) :∃t' order,t.relaid hs wanted=some (t',order)/\order.toList.Perm (List.range hs.size)/\FU t' (order.toList.map λi=>hs.getD i 0)/\t'.mask=M/\t'.led=t.led/\t'.plain=t.plain:=by
 obtain⟨owner,n,f,W⟩:=MY hM hs.toList [] _ (Own.init M) (by rw[Array.length_toList];simpa using hn);rw[List.nil_append]at W;have lay:SetTable.layClean M hs=some owner:=by rw[layClean_eq];exact congrArg (Option.map (·.1)) f
 have ris:=ris_live (λj=>owner.getD j none) (List.range (M+1)) List.pairwise_lt_range;have memL:∀{j k:Nat},(j,k)∈liveOf M owner↔j<=M/\oAt owner j=some k:=mem_live W.sz;have nd:((liveOf M owner).map (·.1)).Nodup:=ris.1.imp λh=>Nat.ne_of_lt h;have got:∀k,k<hs.size->k∈(liveOf M owner).map (·.2):=λk hk=>by obtain⟨j,h1,h2⟩:=W.all k (by rw[Array.length_toList];exact hk);exact List.mem_map.mpr ⟨(j,k),memL.mpr ⟨h1,h2⟩,rfl⟩
 have len:(liveOf M owner).length=hs.size:=by
  obtain⟨ps,lps,ips⟩:=W.ps;have up:=nat_nodup_len _ ps nd λx hx=>by obtain⟨⟨j,k⟩,hq,rfl⟩:=List.mem_map.mp hx;obtain⟨h1,h2⟩:=memL.mp hq;exact ips j h1 (by rw[h2];simp)
  have dn:=nat_nodup_len (List.range hs.size) ((liveOf M owner).map (·.2)) List.nodup_range λk hk=>got k (List.mem_range.mp hk);simp only[List.length_map,List.length_range,lps,Array.length_toList]at up dn;omega
 refine⟨tabOf t M owner,((liveOf M owner).map (·.2)).toArray,by rw[relaid_eq,hw,lay];rfl,?_,⟨ris.1,rfl,by simp[tabOf],hM,?_,?_⟩,rfl,rfl,rfl⟩;·exact perm_range hs.size _ (by simp[len]) λk hk=>by simpa using got k hk
 ·intro x hx;exact Nat.le_of_lt_succ (List.mem_range.mp (ris.2 x hx))
 ·intro i h j e1 e2;have e1:(((liveOf M owner).map (·.2)).map λi=>hs.getD i 0)[i]?=some h:=e1;have e2:((liveOf M owner).map (·.1))[i]?=some j:=e2;rw[List.getElem?_map,List.getElem?_map]at e1;rw[List.getElem?_map]at e2;obtain⟨⟨j',k⟩,hq,rfl⟩:=Option.map_eq_some_iff.mp e2;rw[hq]at e1;cases e1;obtain⟨h1,h2⟩:=memL.mp (List.mem_of_getElem? hq);obtain⟨h0,K,a1,a2,a3⟩:=W.at_ j' k h1 h2;have e0:hs.getD k 0=h0:=by rw[Array.getD_eq_getD_getElem?,<-Array.getElem?_toList,a1];rfl
  show∃K,way M (hs.getD k 0) K=j'/\∀k',k'<K->way M (hs.getD k 0) k'∈(liveOf M owner).map (·.1);rw[e0];refine⟨K,a2,λk' hk'=>?_⟩;obtain⟨z,ez⟩:=Option.ne_none_iff_exists'.mp (a3 k' hk');exact List.mem_map.mpr ⟨(way M h0 k',z),memL.mpr ⟨Hw h0 k',ez⟩,rfl⟩
end
theorem Xu:SetTable.sizeAbove (SetTable.grown 5)=32/\SetTable.sizeAbove (SetTable.grown 19)=128/\SetTable.sizeAbove (SetTable.grown 77)=512/\SetTable.sizeAbove (SetTable.grown 307)=2048/\SetTable.sizeAbove (SetTable.grown 1229)=8192:=by decide +kernel
structure SetK (w:World) (h:Heap) (D:Addr) (L:KL) (rows:Array (Int×Value)) (ep:Nat) (tb:SetTable):Prop where
 ob:∃od,h.get? D=some od/\od.ExactSet/\od.data=.set rows ep tb
 zA:rows.toList=L.map (BJ w)
 tab:FU tb (L.map λp=>cH w p.2)
 nd:(L.map (·.2)).Nodup
 keys:∀p∈L,fB h p.2 p.1
 plain:tb.plain=true
 led:w.params.followText "set-order" = true\/tb.led=true
 room:L.length*5<tb.mask*3
 few:L.length<4000
section
variable {P:Program}{w:World}{A:Around}{E:Value->Shared->Prop}{s:Shared}{D:Addr}{L:KL}{rows:Array (Int×Value)}{ep:Nat}{tb:SetTable}
theorem uV{L:KL}{rows:Array (Int×Value)}(e:rows.toList=L.map (BJ w)):rows.size=L.length:=by rw[<-Array.length_toList,e,List.length_map]
theorem MZ{n:Nat}(h1:tb.place.size=n)(h2:tb.dummies=#[])(h3:n<=tb.mask):tb.fits n=true:=by unfold SetTable.fits SetTable.fill;rw[h2,h1,Bool.and_eq_true,beq_self_eq_true,decide_eq_true_eq];exact⟨rfl,h3⟩
theorem SetK.fits(R:SetK w s.heap D L rows ep tb):tb.fits rows.size=true:=by have e1:=R.tab.sz;rw[List.length_map]at e1;have e2:=uV R.zA;have e3:=R.room;exact MZ (e1.trans e2.symm) R.tab.dm (by omega)
theorem Lq{L:KL}{rows:Array (Int×Value)}(e:rows.toList=L.map (BJ w)){i:Nat}{p:Addr×NK}(hp:L[i]?=some p):rows[i]?=some (BJ w p):=by rw[<-Array.getElem?_toList,e,List.getElem?_map,hp];rfl
abbrev AA(tb:SetTable)(hh:Int)(c:Nat):SetTable.Probe:=nth tb.mask (runAt tb.mask (SetTable.bits hh%(tb.mask+1)) (SetTable.bits hh)) c
theorem D9(m:Nat):∀(n:Nat) (p:SetTable.Probe),p.dummy=none->(nth m p n).dummy=none|0,_,h=>h|n+1,p,h=>D9 m n (adv m p) (by unfold adv;split<;>exact h)
theorem vV(tb:SetTable)(hh:Int)(c q:Nat):(nth tb.mask (AA tb hh c) q).j=way tb.mask hh (c+q):=congrArg SetTable.Probe.j (nth_add tb.mask c _ q).symm
theorem seek(R:SetK w s.heap D L rows ep tb){x:Addr}{k:NK}(hx:fB s.heap k x)(hu:A.units+8<cLine){N:Nat}(hN:N<10*SetTable.turns tb.mask)(free:way tb.mask (cH w k) N∉tb.place.toList)(full:∀c,c<N->way tb.mask (cH w k) c∈tb.place.toList)
  {Q:SetFound->Shared->Prop}(yes:k∈L.map (·.2)->Q (.there none) s) (no:k∉L.map (·.2)->Q (.free (way tb.mask (cH w k) N) false) s) :
  ∀(f c:Nat) (stand:Option SetTable.Probe),stand.getD (tb.probeStart (cH w k))=AA tb (cH w k) c->c<=N->N-c<f ->
   (∀(i:Nat) p,L[i]?=some p->p.2=k->∃c',c<=c'/\c'<N/\tb.place.toList[i]?=some (way tb.mask (cH w k) c'))->wpAny (model P w) A (setSearchFrom D (.ref x) (cH w k) true f stand) Q E s
 |0,_,_,_,_,lt,_=>absurd lt (Nat.not_lt_zero _)|f+1,c,stand,hst,hc,lt,ahead=>by
  obtain⟨od,hod,hex,hdt⟩:=R.ob;have st:∀{B:Type}{g:Array (Int×Value)×Nat×SetTable->Sem B}{Q':B->Shared->Prop},wpAny (model P w) A (g (rows,ep,tb)) Q' E s->wpAny (model P w) A (setState D >>= g) Q' E s:=λz=>wpAny_bind (wpAny_setState_of hod hdt R.fits z);have odd:¬tb.gaveWay=true:=by unfold SetTable.gaveWay;rw[R.tab.mok.odd];decide
  have hashOf:∀{i:Nat}{p:Addr×NK},L[i]?=some p->(rows[i]?.map (·.1)).getD 0=cH w p.2:=λhp=>by rw[Lq R.zA hp];rfl
  have back:∀{i c':Nat}{p:Addr×NK},tb.place.toList[i]?=some (way tb.mask (cH w k) c')->L[i]?=some p->tb.slot (way tb.mask (cH w k) c')=.live i:=λq _=>slot_live R.tab.ris q;rw[setSearchFrom_succ];refine st ?_;dsimp only;refine wp_if_neg odd ?_
  try refine wpAny_bind (wpAny_pure ?_)
  have found:=go_spec tb R.tab.ris R.tab.dm (λi=>(rows[i]?.map (·.1)).getD 0) (cH w k) (10*SetTable.turns tb.mask) (N-c) (AA tb (cH w k) c) (D9 _ c _ rfl) (by omega)
   (λq hq=>by rw[vV];exact full (c+q) (by omega)) (by rw[vV,Nat.add_sub_cancel' hc];exact free)
  have start:∀{m:SetTable.Met},SetTable.probe.go tb (λi=>(rows[i]?.map (·.1)).getD 0) (cH w k) (10*SetTable.turns tb.mask) (AA tb (cH w k) c)=some m->tb.probe (λi=>(rows[i]?.map (·.1)).getD 0) (cH w k) (stand.getD (tb.probeStart (cH w k)))=some m:=λz=>by rw[hst];exact z
  rcases found with ⟨q,i,lq,hi,_,first,hgo⟩|⟨first,hgo⟩
  ·rw[start hgo];dsimp only;rw[vV]at hi;rw[vV];have len:tb.place.toList.length=L.length:=by have e:=R.tab.sz;rw[List.length_map]at e;rw[Array.length_toList,e]
   have li:i<L.length:=(by rw[<-len];exact(List.getElem?_eq_some_iff.mp hi).1);obtain⟨p,hp⟩:∃p,L[i]?=some p:=⟨L[i],List.getElem?_eq_getElem li⟩;have mp:p∈L:=List.mem_of_getElem? hp;have live:=back hi hp;have go:wpAny (model P w) A (searchRest D (.ref x) (cH w k) true f rows tb (way tb.mask (cH w k) (c+q)) i (nth tb.mask (AA tb (cH w k) c) (q+1))) Q E s:=by
    unfold searchRest;rw[Lq R.zA hp];dsimp only[BJ];refine wpAny_bind (wpAny_holding (Qj hu (R.keys p mp) hx ?_));refine st ?_;dsimp only;by_cases same:p.2=k;·refine wp_if_pos (by simp[same]) ?_;exact wpAny_pure (yes (List.mem_map.mpr ⟨p,mp,same⟩))
    ·refine wp_if_neg (by simp[same]) ?_
     try refine wpAny_bind (wpAny_pure ?_)
     have mem:tb.sameMemory tb.moves tb.mask=some true:=(by unfold SetTable.sameMemory;rw[if_pos (beq_self_eq_true _)]);rw[mem];dsimp only;simp only[if_true,live,Lq R.zA hp,BJ];refine wpAny_bind (wpAny_isSame_ref_self (wpAny_bind (wpAny_pure ?_)));simp only[if_true];refine wp_if_neg (by simp[same]) ?_;refine seek R hx hu hN free full yes no f (c+(q+1)) _ (nth_add tb.mask c _ (q+1)).symm (by omega) (by omega) λj p' hj hk=>?_;obtain⟨c',a1,a2,a3⟩:=ahead j p' hj hk;refine⟨c',?_,a2,a3⟩;rcases Nat.lt_trichotomy c' (c+q) with z|z|z;refine absurd ((hashOf hj).trans (congrArg (cH w) hk)) (first (c'-c) j (by omega) ?_);rw[vV,Nat.add_sub_cancel' a1];exact a3;subst z;have live':=back a3 hj;rw[live]at live';injection live' with ij;rw[<-ij,hp]at hj;cases hj;exact absurd hk same;·omega
   by_cases ld:tb.led=true
   ·refine wp_if_neg (by simp[ld]) ?_
    try refine wpAny_bind (wpAny_pure ?_)
    exact go
   ·refine wp_if_pos (by simp[ld]) ?_;refine wpAny_bind (Qk hx (λy hy=>?_) ?_)
    ·obtain⟨e,he,ee⟩:=List.mem_map.mp hy;have he1:e∈rows/\e.1=cH w k:=by simpa using he
     have he2:e∈L.map (BJ w):=(by rw[<-R.zA];simpa using he1.1);obtain⟨p2,hp2,e2⟩:=List.mem_map.mp he2;exact⟨p2.2,p2.1,by rw[<-ee,<-e2]<;>rfl,R.keys p2 hp2⟩
    ·refine wp_if_neg (by decide) ?_
     try refine wpAny_bind (wpAny_pure ?_)
     exact go
  ·rw[start hgo];dsimp only;rw[vV,Nat.add_sub_cancel' hc];refine wpAny_pure (no λhm=>?_);obtain⟨p,mp,hk⟩:=List.mem_map.mp hm;obtain⟨i,li,e⟩:=List.getElem_of_mem mp;have hp:L[i]?=some p:=by rw[List.getElem?_eq_getElem li,e]
   obtain⟨c',a1,a2,a3⟩:=ahead i p hp hk;refine first (c'-c) i (by omega) ?_ ((hashOf hp).trans (congrArg (cH w) hk))
   rw[vV,Nat.add_sub_cancel' a1];exact a3
theorem Qm(R:SetK w s.heap D L rows ep tb){x:Addr}{k:NK}(hx:fB s.heap k x)(hu:A.units+8<cLine){Q:SetFound->Shared->Prop}(yes:k∈L.map (·.2)->Q (.there none) s)
  (no:∀N,k∉L.map (·.2)->way tb.mask (cH w k) N∉tb.place.toList->(∀c,c<N->way tb.mask (cH w k) c∈tb.place.toList)->Q (.free (way tb.mask (cH w k) N) false) s) :
  wpAny (model P w) A (setSearch D (.ref x) (cH w k) true) Q E s:=by
 have few:=R.room;obtain⟨N,hN,free,full⟩:=R.tab.first (by rw[List.length_map];omega) (cH w k);have small:N<100000:=by
  have h1:=R.tab.mok.le;have h2:10*SetTable.turns tb.mask<=82060:=by unfold SetTable.turns;omega
  omega
 unfold setSearch;refine seek R hx hu hN free full yes (λz=>no N z free full) 100000 0 none rfl (Nat.zero_le _) (by omega) λi p hp hk=>?_;have hh:(L.map λp=>cH w p.2)[i]?=some (cH w k):=by rw[List.getElem?_map,hp,<-hk];rfl
 have li:i<tb.place.toList.length:=by have e:=R.tab.sz;rw[List.length_map]at e;rw[Array.length_toList,e];exact(List.getElem?_eq_some_iff.mp hp).1
 obtain⟨c,lc,e⟩:=R.tab.before free hh (List.getElem?_eq_getElem li);exact⟨c,Nat.zero_le _,lc,by rw[List.getElem?_eq_getElem li,e]⟩
theorem JF{α:Type}(L:List α):∀n,n<=L.length->(List.range n).filterMap (λi=>L[i]?)=L.take n|0,_=>rfl|n+1,h=>by have e:=List.getElem?_eq_getElem (by omega:n<L.length);rw[List.range_succ,List.filterMap_append,JF L n (by omega),List.filterMap_cons_some e,List.take_succ,e];rfl
theorem reorder{order:Array Nat}(e:rows.toList=L.map (BJ w))(pm:order.toList.Perm (List.range L.length)) :∃L2:KL,(order.filterMap (rows[·]?)).toList=L2.map (BJ w)/\L2.Perm L/\(L2.map λp=>cH w p.2)=order.toList.map λi=>(rows.map (·.1)).getD i 0:=by
 have at_:∀i,rows[i]?=(L[i]?).map (BJ w):=λi=>by rw[<-Array.getElem?_toList,e,List.getElem?_map]
 refine⟨order.toList.filterMap λi=>L[i]?,?_,?_,?_⟩
 ·have e1:(order.filterMap (rows[·]?)).toList=order.toList.filterMap (rows[·]?):=by simp
  rw[e1,List.map_filterMap];congr 1;funext i;rw[at_]
 ·have p1:=pm.filterMap λi=>L[i]?;rw[JF L _ (Nat.le_refl _),List.take_length]at p1;exact p1
 ·have Ts:∀l:List Nat,(∀i∈l,i<L.length)->(l.filterMap λi=>L[i]?).map (λp=>cH w p.2)=l.map λi=>(rows.map (·.1)).getD i 0:=by
   intro l;induction l with
   |nil=>intro _;rfl
   |cons i l ih =>intro hl;have li:=hl i List.mem_cons_self;have hp:=List.getElem?_eq_getElem li;rw[List.filterMap_cons_some hp,List.map_cons,List.map_cons,ih λj hj=>hl j (List.mem_cons_of_mem _ hj)];have g:(rows.map (·.1)).getD i 0=cH w (L[i]).2:=(by have g1:(rows.map (·.1))[i]?=some (cH w (L[i]).2):=(by rw[Array.getElem?_map,at_,hp];rfl);rw[Array.getD_eq_getD_getElem?,g1];rfl);rw[g]
  exact Ts _ λi hi=>List.mem_range.mp (pm.mem_iff.mp hi)
theorem regrow{od:Obj}(hod:s.heap.get? D=some od)(hex:od.ExactSet)(hdt:od.data=.set rows ep tb)(er:rows.toList=L.map (BJ w))(sz:tb.place.size=rows.size)(dm:tb.dummies=#[])(le:rows.size<=tb.mask)
  (nd:(L.map (·.2)).Nodup) (keys:∀p∈L,fB s.heap p.2 p.1) (pl:tb.plain=true) (ld:w.params.followText "set-order" = true\/tb.led=true) (few:L.length<4000){wanted M:Nat}
  (hw:SetTable.sizeAbove wanted-1=M) (hM:rE M) (hb:SetTable.sizeAbove wanted<=8192) (hn:L.length*5<M*3){Q:Unit->Shared->Prop}
  (hQ:∀h' L' rows' ep' tb',Heap.SameBut D s.heap h'->SetK w h' D L' rows' ep' tb'->L'.Perm L->Q () { s with heap:=h' }):wpAny (model P w) A (setRelay D wanted) Q E s:=by
 have len:=uV er;obtain⟨tb',order,eo,pm,T,em,el,epl⟩:=Lp tb (hs:=rows.map (·.1)) (wanted:=wanted) hw hM (by rw[Array.size_map,len];omega);rw[Array.size_map,len]at pm;obtain⟨L2,r1,r2,r3⟩:=reorder er pm;rw[<-r3]at T;have len2:(order.filterMap (rows[·]?)).size=rows.size:=by rw[uV r1,r2.length_eq,len]
 rw[setRelay_eq];refine wpAny_bind (wpAny_setState_of hod hdt (MZ sz dm le) ?_);dsimp only;refine wp_if_neg (by rw[sizeLine_eq];omega) ?_
 try refine wpAny_bind (wpAny_pure ?_)
 rw[eo];dsimp only;refine wpAny_bind ?_;refine wp_if_neg (by rw[len2];simp) ?_
 try refine wpAny_bind (wpAny_pure ?_)
 refine wpAny_pure ?_;dsimp only;refine wpAny_storeSet_of hod hdt ?_ (by rw[len2,len,sizeLine_eq];omega);have sb:Heap.SameBut D s.heap (s.heap.update D (Obj.putSet (order.filterMap (rows[·]?)) tb')):=Heap.SameBut.update ..;refine hQ _ L2 (order.filterMap (rows[·]?)) (ep+1) tb' sb ⟨⟨_,store_at hod hdt,⟨hex.1,hex.2.1,hex.2.2⟩,rfl⟩,r1,T,(r2.map (·.2)).nodup_iff.mpr nd,λp hp=>(keys p (r2.mem_iff.mp hp)).but hod hdt sb,by rw[epl];exact pl,by rw[el];exact ld,by rw[r2.length_eq,em];exact hn,by rw[r2.length_eq];exact few⟩ r2
theorem Xv(R:SetK w s.heap D L rows ep tb){x:Addr}{k:NK}(hx:fB s.heap k x)(hu:A.units+8<cLine)(few:L.length+1<4000){Q:Bool->Shared->Prop}
  (hQ:∀b h' L' rows' ep' tb',Heap.SameBut D s.heap h'->SetK w h' D L' rows' ep' tb'->(k∈L.map (·.2)->L'=L)->(k∉L.map (·.2)->L'.Perm ((x,k)::L))->Q b { s with heap:=h' }) :
  wpAny (model P w) A (setAddHashed D (.ref x) (cH w k)) Q E s:=by
 obtain⟨od,hod,hex,hdt⟩:=R.ob;have len:=uV R.zA;have room:=R.room;unfold setAddHashed;refine wpAny_holding ?_;rw[show(100000:Nat)=99999+1 from rfl,setAddHashedIn_succ];refine wpAny_bind (wpAny_setState_of hod hdt R.fits ?_);dsimp only;refine wp_if_neg (by simp[byScan,Value.scannable]) ?_
 try refine wpAny_bind (wpAny_pure ?_)
 refine wpAny_bind (Qm R hx hu (λhm=>?_) λN hm free full=>?_);dsimp only;exact wpAny_pure (hQ false s.heap L rows ep tb (Heap.SameBut.refl D s.heap) R (λ_=>rfl) λz=>absurd hm z);dsimp only;refine wpAny_bind (wpAny_setState_of hod hdt R.fits ?_);dsimp only;have put:=R.tab.put free full;rw[List.length_map]at put;cases ept:tb.put (way tb.mask (cH w k) N) with
 |mk tb1 at1=>
  rw[ept]at put;dsimp only at put ⊢;obtain⟨ea,la,T1,em,el,epl,ef⟩:=put;have pl1:tb1.plain=true:=by rw[epl];exact R.plain
  have ld1:w.params.followText "set-order" = true\/tb1.led=true:=by rw[el];exact R.led
  first
   |(refine wpAny_bind ?_;refine wp_if_pos pl1 ?_;refine Hv _ _ 8 s hx.is hx.deep hx.num _ _ _ ?_)|refine wp_if_pos pl1 (wpAny_bind (Hv _ _ 8 s hx.is hx.deep hx.num _ _ _ ?_))
  simp only[if_true];rw[<-ea]at la T1;have er1:(SetTable.insertAt rows at1 (cH w k,Value.ref x)).toList=(L.take at1++(x,k)::L.drop at1).map (BJ w):=by rw[SetTable.toList_insertAt,R.zA,List.map_append,List.map_cons,List.map_take,List.map_drop];rfl
  have pm:(L.take at1++(x,k)::L.drop at1).Perm ((x,k)::L):=by have z:(L.take at1++(x,k)::L.drop at1).Perm ((x,k)::(L.take at1++L.drop at1)):=List.perm_middle;rwa[List.take_append_drop]at z
  have hs1:(L.map λp=>cH w p.2).take at1++cH w k::(L.map λp=>cH w p.2).drop at1=(L.take at1++(x,k)::L.drop at1).map λp=>cH w p.2:=by rw[List.map_append,List.map_cons,List.map_take,List.map_drop]
  rw[hs1]at T1;have len1:=pm.length_eq;rw[List.length_cons]at len1;have nd1:((L.take at1++(x,k)::L.drop at1).map (·.2)).Nodup:=(pm.map (·.2)).nodup_iff.mpr (by rw[List.map_cons];exact List.nodup_cons.mpr ⟨hm,R.nd⟩);have lr1:=uV er1;generalize SetTable.insertAt rows at1 (cH w k,Value.ref x)=rows1 at er1 lr1 ⊢;generalize L.take at1++(x,k)::L.drop at1=L1 at er1 pm T1 len1 nd1 lr1;refine wpAny_bind (wpAny_storeSet_of hod hdt ?_ (by rw[lr1,sizeLine_eq];omega));have sb:Heap.SameBut D s.heap (s.heap.update D (Obj.putSet rows1 tb1)):=Heap.SameBut.update ..;have hod1:=store_at (es':=rows1) (t':=tb1) hod hdt;generalize s.heap.update D (Obj.putSet rows1 tb1)=h1 at sb hod1 ⊢;have keys1:∀p∈L1,fB h1 p.2 p.1:=λp hp=>by rcases List.mem_cons.mp (pm.mem_iff.mp hp) with e|z;rw[e];exact hx.but hod hdt sb;·exact(R.keys p z).but hod hdt sb
  by_cases hf:tb1.tooFull=true
  ·first
    |(refine wpAny_bind ?_;refine wp_if_pos (by simp[hf]) ?_)|(refine wp_if_pos (by simp[hf]) ?_;refine wpAny_bind ?_)
   have many:(L.length+1)*5>=tb1.mask*3:=(by have z:=hf;unfold SetTable.tooFull at z;rwa[decide_eq_true_eq,ef]at z);rw[len];have two:(tb.mask=7/\L.length=4)\/(tb.mask=31/\L.length=18)\/(tb.mask=127/\L.length=76)\/(tb.mask=511/\L.length=306)\/(tb.mask=2047/\L.length=1228):=(by rw[em]at many;rcases R.tab.mok with e|e|e|e|e|e<;>rw[e]at many room;exact .inl ⟨e,by omega⟩;exact .inr (.inl ⟨e,by omega⟩);exact .inr (.inr (.inl ⟨e,by omega⟩));exact .inr (.inr (.inr (.inl ⟨e,by omega⟩)));exact .inr (.inr (.inr (.inr ⟨e,by omega⟩)));·omega);have sz1:tb1.place.size=rows1.size:=(by rw[T1.sz,List.length_map,lr1]);have go:∀M,SetTable.sizeAbove (SetTable.grown (L.length+1))-1=M->rE M->SetTable.sizeAbove (SetTable.grown (L.length+1))<=8192->(L.length+1)*5<M*3 ->
     wpAny (model P w) A (setRelay D (SetTable.grown (L.length+1))) (λ_ s'=>wpAny (model P w) A (pure true) Q E s') E { s with heap:=h1 }:=λM m1 m2 m3 m4=>
    regrow (s:={ s with heap:=h1 }) hod1 ⟨hex.1,hex.2.1,hex.2.2⟩ rfl er1 sz1 T1.dm (by rw[lr1,len1,em];rcases two with ⟨e,e2⟩|⟨e,e2⟩|⟨e,e2⟩|⟨e,e2⟩|⟨e,e2⟩<;>omega) nd1 keys1 pl1 ld1 (by rw[len1];exact few) m1 m2 m3 (by rw[len1];exact m4)
     λh2 L2 rows2 ep2 tb2 sb2 R2 pm2=>wpAny_pure (hQ true h2 L2 rows2 ep2 tb2 (sb.trans sb2) R2 (λz=>absurd z hm) λ_=>pm2.trans pm)
   obtain⟨g1,g2,g3,g4,g5⟩:=Xu;rcases two with ⟨_,e⟩|⟨_,e⟩|⟨_,e⟩|⟨_,e⟩|⟨_,e⟩
   exact go 31 (by rw[e,g1]) (.inr (.inl rfl)) (by rw[e,g1];decide) (by omega);exact go 127 (by rw[e,g2]) (.inr (.inr (.inl rfl))) (by rw[e,g2];decide) (by omega);exact go 511 (by rw[e,g3]) (.inr (.inr (.inr (.inl rfl)))) (by rw[e,g3];decide) (by omega);exact go 2047 (by rw[e,g4]) (.inr (.inr (.inr (.inr (.inl rfl))))) (by rw[e,g4];decide) (by omega);·exact go 8191 (by rw[e,g5]) (.inr (.inr (.inr (.inr (.inr rfl))))) (by rw[e,g5];decide) (by omega)
  ·first
    |refine wp_if_neg (by simp[hf]) ?_|(refine wpAny_bind ?_;refine wp_if_neg (by simp[hf]) ?_;refine wpAny_pure ?_)
   refine wpAny_pure (hQ true h1 L1 rows1 (ep+1) tb1 sb ⟨⟨_,hod1,⟨hex.1,hex.2.1,hex.2.2⟩,rfl⟩,er1,T1,nd1,keys1,pl1,ld1,?_,by rw[len1];exact few⟩ (λz=>absurd z hm) λ_=>pm);have z:=hf;unfold SetTable.tooFull at z;rw[decide_eq_true_eq,ef]at z;rw[len1];omega
theorem setK_new(w:World){h:Heap}{D:Addr}(hD:h.get? D=some { cls:=.type "set",dict:=none,data:=.set #[] 0 (.fresh 0 0 (!w.params.followText "set-order")) }):SetK w h D [] #[] 0 (.fresh 0 0 (!w.params.followText "set-order")):=
 ⟨⟨_,hD,⟨rfl,rfl,rfl⟩,rfl⟩,rfl,⟨List.Pairwise.nil,rfl,rfl,.inl rfl,λx hx=>(by cases hx),λi h j hi=>(by simp at hi)⟩,List.nodup_nil,λp hp=>(by cases hp),rfl,
  by show _\/(!w.params.followText "set-order")=true;cases w.params.followText "set-order" <;>simp,by show 0*5<7*3;decide,by show 0<4000;decide⟩
end
theorem SetK.bare{w:World}{h:Heap}{D:Addr}{L:KL}{rows:Array (Int×Value)}{ep:Nat}{tb:SetTable}(R:SetK w h D L rows ep tb):F9 w h D L:=⟨rows,ep,tb,R.ob,R.zA,R.tab,R.nd,R.plain,R.led,R.room,R.few⟩
theorem F9.full{w:World}{h:Heap}{D:Addr}{L:KL}(R:F9 w h D L)(keys:∀p∈L,fB h p.2 p.1):∃rows ep tb,SetK w h D L rows ep tb:=by obtain⟨rows,ep,tb,a,b,c,d,e,f,g,i⟩:=R.ex;exact⟨rows,ep,tb,a,b,c,d,keys,e,f,g,i⟩
theorem JG{P:Program}{w:World}{H:Hp}{h:Heap}{D:Addr}{L:KL}(R:F9 w h D L):ObjOk P w H h D (tF w D L):=by obtain⟨_,_,_,⟨o,ho,_⟩,_⟩:=R.ex;exact⟨R,⟨o,ho⟩,λh1 h2 p k=>by obtain⟨rows,ep,tb,⟨o,ho,r⟩,r2⟩:=p.ex;exact⟨rows,ep,tb,⟨o,k o ho,r⟩,r2⟩⟩
abbrev Qn(w:World):Obj:={ cls:=.type "set",dict:=none,data:=.set #[] 0 (.fresh 0 0 (!w.params.followText "set-order")) }
section
variable {X:Cx}{pins:List (Addr×Obj)}{σ:L2.St}{H:Hp}{s:Shared}{D x:Addr}{L:KL}{k:NK}
theorem Gi(I:Inv X pins σ H s)(hD:H D=some (tF X.w D L)):F9 X.w s.heap D L:=(I.hok D _ hD).1
theorem TQ{Q:Value->Shared->Prop}{E:Value->Shared->Prop}(I:Inv X pins σ H s)(hu:X.A.units+64<cLine)(hD:H D=some (tF X.w D L))(few:L.length+1<4000)(keys:∀p∈L,fB s.heap p.2 p.1)(hx:fB s.heap k x)
  (h:∀L' s',(k∈L.map (·.2)->L'=L)->(k∉L.map (·.2)->L'.Perm ((x,k)::L))->Inv X pins σ (upd H D (tF X.w D L')) s'->Q .none s'):wpAny (model X.prog X.w) X.A (call (.builtin "set.add") [.ref D,.ref x]) Q E s:=by
 obtain⟨rows,ep,tb,R⟩:=(Gi I hD).full keys;have ty:s.TypeIs (.ref D) "set" := by obtain⟨o,ho,hc,_⟩:=R.ob;exact⟨o,ho,hc.1⟩
 refine wpAny_call_entry F.slot_set_add ty F.entry_set_add ?_ (F.args_set_add_2 _ _);unfold Builtin.«set.add» Builtin.Frozenset.oneOther;simp only[List.isEmpty_nil,bind_assoc];unfold Builtin.Frozenset.addrOf setAdd;refine wpAny_bind (wpAny_pure ?_)
 try dsimp only
 refine wpAny_bind (wpAny_pure ?_)
 try dsimp only
 refine wpAny_bind ?_;refine wpAny_holding ?_;have hu1:X.A.in1.units+8<cLine:=by show X.A.units+1+8<cLine;omega
 refine wpAny_bind ((nestedKind X.prog X.w).pyHash (s:=s) (k:=k) (a:=x) hu1 ⟨hx.is,hx.deep⟩ ?_);have R1:SetK X.w ({ s with toks:=s.toks+(nestedKind X.prog X.w).draws k }:Shared).heap D L rows ep tb:=R;refine Xv (s:={ s with toks:=s.toks+(nestedKind X.prog X.w).draws k }) R1 hx hu1 few λb h' L' rows' ep' tb' sb R' same more=>?_;show wpAny _ _ (ret Value.none) _ _ _;refine wpAny_pure ⟨_,rfl,h L' _ same more ?_⟩;have he:∃u,h'.get? D=some u:=by obtain⟨o,ho,_⟩:=R'.ob;exact⟨o,ho⟩
 exact I.write (e:=D) (t':=s.toks+(nestedKind X.prog X.w).draws k) (by rw[hD];trivial) (.inl rfl) (λb u hb hu=>(sb.2 b hb).trans hu) he (JG R'.bare)
theorem OS{w:World}{P:Program}{H:Hp}{h:Heap}(hD:h.get? D=some (Qn w)):ObjOk P w H h D (tF w D []):=JG (setK_new w hD).bare
end
def g8(B:Int)(p:Int×List Int):Int:=TS.code B ((p.1::p.2).map (· + 1))
def wZ(B:Int)(k:NK):Int:=match pairOf k with
 |some p=>g8 B p|none=>0
theorem JH{B:Int}:∀{ns ms:List Int},ns.length=ms.length->TS.Bd B (ns.map (· + 1))->TS.Bd B (ms.map (· + 1))->HT.lexLt ns ms=decide (TS.code B (ns.map (· + 1))<TS.code B (ms.map (· + 1)))
 |[],[],_,_,_=>rfl|[],_::_,h,_,_=>by cases h|_::_,[],h,_,_=>by cases h|n::ns,m::ms,hl,h1,h2=>by
  have hl':ns.length=ms.length:=by simpa using hl
  have l2:(ns.map (· + 1)).length=(ms.map (· + 1)).length:=by rw[List.length_map,List.length_map];exact hl'
  have ih:=JH hl' h1.tail h2.tail;show(if n=m then HT.lexLt ns ms else decide (n<m))=_;by_cases e:n=m;·subst e;rw[if_pos rfl,ih];exact(decide_eq_decide.mpr (TS.code_same l2)).symm
  ·rw[if_neg e];refine decide_eq_decide.mpr ⟨λx=>TS.code_lt l2 h1.tail h2.tail (by show n+1<m+1;omega),λx=>?_⟩;rcases Int.lt_trichotomy n m with y|y|y;exact y;·exact absurd y e
   ·have:=TS.code_lt l2.symm h2.tail h1.tail (show m+1<n+1 by omega);simp only[List.map_cons]at x;omega
section
variable {P:Program}{w:World}{A:Around}{E:Value->Shared->Prop}{s:Shared}
theorem Qo{B:Int}{n n':Int}{ms ms':List Int}{a b:Addr}{Q:Bool->Shared->Prop}(hu:A.units+8<cLine)(x:PairAt s.heap n ms a)(y:PairAt s.heap n' ms' b)(hl:ms.length=ms'.length)(h1:TS.Bd B ((n::ms).map (· + 1)))(h2:TS.Bd B ((n'::ms').map (· + 1)))
  (h:Q (decide (g8 B (n,ms)<g8 B (n',ms'))) s):wpAny (model P w) A (keyLt' (tuples' true) (.ref a) (.ref b)) Q E s:=by
 obtain⟨xs,t,tk,ts,⟨o,ho,hc,c,hd⟩,e,T,hi⟩:=x.ex;obtain⟨ys,t',tk',ts',⟨o',ho',hc',c',hd'⟩,e',T',hi'⟩:=y.ex;have l2:(ms.map (· + 1)).length=(ms'.map (· + 1)).length:=by rw[List.length_map,List.length_map];exact hl
 refine PySem.W.kat_lt ho hd ho' hd' ?_;have sz:decide (xs.size<ys.size)=false:=by have l1:=congrArg List.length e;have l2:=congrArg List.length e';rw[Array.length_toList]at l1 l2;exact decide_eq_false (by rw[l1,l2];simp)
 rw[sz,e,e'];show PySem.W.KatLex P w A true false Q [(Value.int n tk,Value.int n' tk'),(Value.ref t,Value.ref t')] 0 s;refine PySem.W.kat_cons (wpAny_eqBool_int ?_);by_cases q:n=n'
 ·subst q;rw[beq_self_eq_true];refine PySem.W.kat_yes ?_;have kt:fB s.heap (.tup (ms.map .num)) t:=by obtain⟨o2,ho2,hc2,c2,hd2⟩:=T;refine⟨.tup ho2 hc2 hd2 (tH hi),?_,vM ms⟩;have:=vL ms;simp only[NestedKey.depth];omega
  have kt':fB s.heap (.tup (ms'.map .num)) t':=by obtain⟨o2,ho2,hc2,c2,hd2⟩:=T';refine⟨.tup ho2 hc2 hd2 (tH hi'),?_,vM ms'⟩;have:=vL ms';simp only[NestedKey.depth];omega
  have same:decide (g8 B (n,ms)<g8 B (n,ms'))=decide (TS.code B (ms.map (· + 1))<TS.code B (ms'.map (· + 1))):=decide_eq_decide.mpr (TS.code_same l2);rw[same]at h;refine PySem.W.kat_cons (Qj hu kt kt' ?_);by_cases q2:ms=ms';·subst q2;rw[decide_eq_true rfl];refine PySem.W.kat_yes (PySem.W.kat_nil ?_);rw[decide_eq_false (Int.lt_irrefl _)]at h;exact h
  ·have ne:(NestedKey.tup (ms.map .num):NK)≠.tup (ms'.map .num):=λz=>by injection z with z;exact q2 ((List.map_inj_right (λa b e=>by injection e)).mp z)
   rw[decide_eq_false ne];refine PySem.W.kat_no (PySem.W.kat_one _ _ ?_);exact HT.lt_tupInts (Q:=PySem.W.BoolBack Q) T T' hi hi' (by omega) (by rw[JH hl h1.tail h2.tail];exact h)
 ·rw[show(n == n')=false from beq_eq_false_iff_ne.mpr q];refine PySem.W.kat_no (TS.oneLt_ints _ ?_);have d:decide (g8 B (n,ms)<g8 B (n',ms'))=decide (n<n'):=by
   refine decide_eq_decide.mpr ⟨λx=>?_,λx=>TS.code_lt l2 h1.tail h2.tail (by show n+1<n'+1;omega)⟩;rcases Int.lt_trichotomy n n' with y|y|y;exact y;·exact absurd y q
   ·have:=TS.code_lt (B:=B) l2.symm h2.tail h1.tail (show n'+1<n+1 by omega);unfold g8 at x;simp only[List.map_cons]at x;omega
  rw[d]at h;exact h
end
abbrev ltR(r:Value->Int)(u v:Value):Bool:=decide (r u<r v)
theorem JI(r:Value->Int):SrtO.Swo (ltR r):=by refine⟨λx y h=>?_,λx y z h1 h2=>?_⟩;have:=of_decide_eq_true h;exact decide_eq_false (by omega);·have a:=of_decide_eq_false h1;have b:=of_decide_eq_false h2;exact decide_eq_false (by omega)
section
variable {P:Program}{w:World}{A:Around}{E:Value->Shared->Prop}{s:Shared}
theorem CA{h:Heap}{d:Nat}{B:Int}:∀vs:List Value,tJ h d B vs->∃fs,PySem.W.KatTups h vs fs/\fs.length=vs.length/\∀f∈fs,∃n t,f=Value.int n t|[],_=>⟨[],PySem.W.KatTups.nil,rfl,λf hf=>by cases hf⟩|v::vs,x=>by obtain⟨fs,k,hl,hi⟩:=CA vs λu hu=>x u (List.mem_cons_of_mem _ hu);obtain⟨b,n,ms,rfl,p,_⟩:=x v List.mem_cons_self;obtain⟨xs,t,tk,ys,⟨o,ho,hc,c,hd⟩,e,_⟩:=p.ex;refine⟨.int n tk::fs,PySem.W.KatTups.cons ho hc hd ?_ k,by simp[hl],λf hf=>?_⟩;have z:=congrArg (λl:List Value=>l[0]?) e;simpa using z;·rcases List.mem_cons.mp hf with rfl|hf;exact⟨n,tk,rfl⟩;·exact hi f hf
theorem pairs_sortable{a:Addr}{d:Nat}{B:Int}{vs:List Value}{r:Value->Int}(hu:A.units+8<cLine)(h0:0<vs.length)(x:tJ s.heap d B vs)(ha:∀o,s.heap.get? a=some o->o.cls≠.type "tuple")
  (hr:∀b n ms,Value.ref b∈vs->PairAt s.heap n ms b->r (.ref b)=g8 B (n,ms)):SrtO.SortableO P w A s a vs (ltR r):=by
 intro h' keep;have kp:∀c o,s.heap.get? c=some o->o.cls=.type "tuple" -> h'.get? c=some o:=λc o e hc=>keep c o (by rintro rfl;exact ha o e hc) e;have x':=x.keep kp;obtain⟨fs,k,hl,hi⟩:=CA vs x';refine⟨tuples' true,λQ E hq=>?_,λp q hp hq=>?_⟩
 ·refine PySem.W.kat_kind (T:=Value.type "int") k (by omega) (λf hf=>?_) rfl ?_;·obtain⟨n,t,rfl⟩:=hi f hf;exact PySem.W.Looks.of_pure rfl
  ·have e:(Value.type "int" != Value.type "tuple")=true:=by first|decide +kernel|rfl|decide
   rw[e];exact hq
 ·obtain⟨b1,n,ms,e1,p1,l1,d1⟩:=x _ hp;obtain⟨b2,n',ms',e2,p2,l2,d2⟩:=x _ hq;have hp':Value.ref b1∈vs:=by rw[<-e1];exact hp
  have hq':Value.ref b2∈vs:=by rw[<-e2];exact hq
  have er:SrtO.lt2 (ltR r) p q=decide (g8 B (n,ms)<g8 B (n',ms')):=by show decide (r p.1<r q.1)=_;rw[e1,e2,hr b1 n ms hp' p1,hr b2 n' ms' hq' p2]
  rw[er,e1,e2];refine Qo (s:={ s with heap:=h' }) hu (p1.keep kp) (p2.keep kp) (by omega) d1 d2 ⟨rfl,rfl⟩
theorem Lr{a:Addr}{vs:List Value}{n d:Nat}{B:Int}{F:PySem.Fin->Shared->Prop}(hu:A.units+8<cLine)(ho:s.heap.get? a=some (seqObj "list" vs.toArray n))(hz:vs.length<=sizeLine)(x:tJ s.heap d B vs)
  (r:Value->Int) (hr:∀b n ms,Value.ref b∈vs->PairAt s.heap n ms b->r (.ref b)=g8 B (n,ms))
  (h:∀out:Array Value,out.toList.Perm vs->out.toList.Pairwise (λu v=>r u<=r v)->F (.done (.ret .none)) { s with heap:=sortedHeap s.heap a vs out }) :
  wpAny (model P w) A (Builtin.«list.sort» ⟨[.ref a],[]⟩) F E s:=by
 refine SrtO.list_sort_ord (JI r) ho hz (λh2=>pairs_sortable hu (by omega) x (λo e=>?_) hr) λout h1 h2=>h out.toArray h2.perm (h1.imp λq=>?_);rw[ho]at e;cases e;exactλc=>absurd (show Value.type "list" = Value.type "tuple" from c) (by simp);·have:=of_decide_eq_false q;omega
end
section
variable {X:Cx}{pins:List (Addr×Obj)}{σ:L2.St}{H:Hp}{s:Shared}{D:Addr}{L:KL}
theorem M0{L:KL}:∀vs:List Value,(∀v∈vs,v∈L.map λp=>Value.ref p.1)->∃L1:KL,vs=L1.map (λp=>Value.ref p.1)/\∀p∈L1,p∈L|[],_=>⟨[],rfl,λp hp=>by cases hp⟩|v::vs,h=>by obtain⟨L1,e,hs⟩:=M0 vs λu hu=>h u (List.mem_cons_of_mem _ hu);obtain⟨p,hp,e2⟩:=List.mem_map.mp (h v List.mem_cons_self);refine⟨p::L1,by rw[List.map_cons,e,e2],λq hq=>?_⟩;rcases List.mem_cons.mp hq with rfl|hq;exact hp;·exact hs q hq
theorem Ls{d:Nat}{B:Int}{Q:Value->Shared->Prop}{E:Value->Shared->Prop}(I:Inv X pins σ H s)(hc:X.calm=true)(hu:X.A.units+64<cLine)(hD:H D=some (tF X.w D L))(hp:∀p∈L,∃n ms,p.2=MH n ms/\PairAt s.heap n ms p.1/\ms.length=d/\TS.Bd B ((n::ms).map (· + 1)))
  (h:∀(q:Addr) (L':KL) (s':Shared),H q=none->L'.Perm L->(L'.Pairwise λx y=>wZ B x.2<=wZ B y.2)->Inv X pins σ (upd H q (.lst (L'.map λp=>V.ref p.1))) s'->Q (.ref q) s') :
  wpAny (model X.prog X.w) X.A (call (.builtin "sorted") [.ref D]) Q E s:=by
 have keys:∀p∈L,fB s.heap p.2 p.1:=λp hp'=>by obtain⟨n,ms,e,pa,_⟩:=hp p hp';rw[e];exact pa.key
 obtain⟨rows,ep,tb,R⟩:=(Gi I hD).full keys;obtain⟨od,hod,hex,hdt⟩:=R.ob;have few:=R.few;refine Calls.call_function_entry kind_sorted plain_sorted entry_sorted (args_sorted1 _) ?_;unfold Builtin.«sorted»;refine wpAny_bind (m:=checkCount "sorted" 1 1 _) (wpAny_pure ?_);refine wpAny_bind (collect_set (A:=X.A.in1) (I.ok.hd hc) ⟨od,hod,hex.1,hdt⟩ R.fits (by have:=uV R.zA;unfold scanBound;omega) R.tab.ris R.led λs1 vs k1 hz g1 o1 pm=>?_);have er:rows.toList.map (·.2)=L.map λp=>Value.ref p.1:=by rw[R.zA,List.map_map];rfl
 rw[er]at pm;have lv:vs.length<4000:=by rw[pm.length_eq,List.length_map];exact few
 refine wpAny_bind (wpAny_newList ?_ (by rw[sizeLine_eq];omega));have hoL:(s1.heap.push (seqObj "list" vs.toArray 0)).get? s1.heap.objs.size=some (seqObj "list" vs.toArray 0):=Heap.get?_push_size _ rfl;have k2:∀b o,s.heap.get? b=some o->(s1.heap.push (seqObj "list" vs.toArray 0)).get? b=some o:=λb o e=>Heap.get?_push_of_some _ (k1 b o e);have okv:tJ (s1.heap.push (seqObj "list" vs.toArray 0)) d B vs:=λv hv=>by obtain⟨p,hp',e⟩:=List.mem_map.mp (pm.mem_iff.mp hv);obtain⟨n,ms,_,pa,r⟩:=hp p hp';exact⟨p.1,n,ms,e.symm,pa.keep λc o z _=>k2 c o z,r⟩
 -- each address has one key
 have one:∀p∈L,∀q∈L,p.1=q.1->p=q:=λp hp' q hq e=>by have a1:=(keys p hp').is;have a2:=(keys q hq).is;rw[e]at a1;exact Prod.ext e (NestedIs.inj _ _ _ a1 a2)
 let rk:Value->Int:=λv=>match v with|.ref b=>(L.find? λp=>p.1 == b).elim 0 λp=>wZ B p.2|_=>0
 have rk_at:∀p∈L,rk (.ref p.1)=wZ B p.2:=λp hp'=>by
  show((L.find? λq=>q.1 == p.1).elim 0 λq=>wZ B q.2)=_;cases q:L.find? λq=>q.1 == p.1 with
  |none =>have:=List.find?_eq_none.mp q p hp';simp at this|some z =>have h1:=List.mem_of_find?_eq_some q;have h2:=List.find?_some q;rw[one z h1 p hp' (by simpa using h2)];rfl
 refine wpAny_bind (wpAny_holding (wpAny_call_entry slot_list_sort ⟨_,hoL,rfl⟩ entry_list_sort (Lr (s:={ s1 with heap:=s1.heap.push (seqObj "list" vs.toArray 0) }) (by show X.A.units+1+1+8<cLine;omega) hoL (by rw[sizeLine_eq];omega) okv rk (λb n ms hb pb=>?_) λout a1 a2=>⟨_,rfl,?_⟩) (args_list_sort _)));·obtain⟨p,hp',e⟩:=List.mem_map.mp (pm.mem_iff.mp hb);cases e;rw[rk_at p hp'];obtain⟨n',ms',e2,pa,_⟩:=hp p hp';obtain⟨rfl,rfl⟩:=pb.inj (pa.keep λc o z _=>k2 c o z);unfold wZ;rw[e2,nM]
 obtain⟨c,hc'⟩:=sortedHeap_at (vs:=vs) (out:=out) hoL;obtain⟨L',e',hs'⟩:=M0 out.toList λv hv=>pm.mem_iff.mp (a1.mem_iff.mp hv);have pL:L'.Perm L:=by
  have pref:(L'.map λp=>Value.ref p.1).Perm (L.map λp=>Value.ref p.1):=by rw[<-e'];exact a1.trans pm
  have nL:L.Nodup:=nodup_of_map R.nd;have nref:(L.map λp=>Value.ref p.1).Nodup:=List.pairwise_map.mpr (List.Pairwise.imp_of_mem (λ{p q} hp' hq ne e=>by injection e with e;exact ne (one p hp' q hq e)) nL);refine(List.perm_ext_iff_of_nodup (nodup_of_map (pref.nodup_iff.mpr nref)) nL).mpr λp=>⟨hs' p,λhp'=>?_⟩;obtain⟨q,hq,e⟩:=List.mem_map.mp (pref.mem_iff.mpr (List.mem_map.mpr ⟨p,hp',rfl⟩));injection e with e;rw[<-one q (hs' q hq) p hp' e];exact hq
 have pw:L'.Pairwise λx y=>wZ B x.2<=wZ B y.2:=by rw[e']at a2;refine List.Pairwise.imp_of_mem (λ{p q} hp' hq z=>?_) (List.pairwise_map.mp a2);rw[rk_at p (hs' p hp'),rk_at q (hs' q hq)]at z;exact z
 have kp:∀b o,s.heap.get? b=some o->(sortedHeap (s1.heap.push (seqObj "list" vs.toArray 0)) s1.heap.objs.size vs out).get? b=some o:=λb o e=>by have q:=k1 b o e;have lt:=Heap.lt_size q;rw[sortedHeap_old (Nat.ne_of_lt lt) (by rw[size_push'];exact Nat.lt_succ_of_lt lt)];exact Heap.get?_push_of_some _ q
 have hn:H s1.heap.objs.size=none:=I.hok.fresh hz;have few':(L'.map λp=>V.ref p.1).length<=sizeLine:=by rw[List.length_map,pL.length_eq,sizeLine_eq];omega
 have vals:Vals (L'.map λp=>V.ref p.1) out.toList:=by
  rw[e'];clear pL pw e' hs' few';induction L' with
  |nil=>exact .nil|cons p L' ih=>exact .cons rfl ih
 refine wpAny_pure ⟨_,rfl,h s1.heap.objs.size L' _ hn pL pw ?_⟩;have J:Inv X pins σ (upd H s1.heap.objs.size (.lst (L'.map λp=>V.ref p.1))) { s with heap:=sortedHeap (s1.heap.push (seqObj "list" vs.toArray 0)) s1.heap.objs.size vs out,gens:=s1.gens,drawn:=s1.drawn,toks:=s1.toks }:=
  I.call (ch:=[]) (Un.laid kp hz hn) (I.hok.laid kp hz ⟨few',out.toList,c,vals,hc'⟩) (by rw[g1];exact I.bare) (λ_ z=>nomatch z)
 have e:({ s1 with heap:=sortedHeap (s1.heap.push (seqObj "list" vs.toArray 0)) s1.heap.objs.size vs out }:Shared)={ s with heap:=sortedHeap (s1.heap.push (seqObj "list" vs.toArray 0)) s1.heap.objs.size vs out,gens:=s1.gens,drawn:=s1.drawn,toks:=s1.toks }:=by cases s1;cases s;cases o1;rfl
 rw[e];exact J
end
theorem Hx{P:Program}{w:World}{H:Hp}{h:Heap}{D:Addr}{es:NE}(R:wX w h D es):ObjOk P w H h D (jH w D es):=by obtain⟨od,rows,ep,xs,ho,_⟩:=R.ex;exact⟨R,⟨od,ho⟩,λh1 h2 p k=>by obtain⟨od,rows,ep,xs,ho,r⟩:=p.ex;exact⟨⟨od,rows,ep,xs,k od ho,r⟩,p.few,p.big⟩⟩
def cS(es:NE)(k:NK)(x:Addr)(v:V):NE:=if (ur es k).isSome then es.map λe=>if e.1=k then(e.1,e.2.1,v) else e else es++[(k,x,v)]
theorem Gj(es:NE)(k:NK)(x:Addr)(v:V):(cS es k x v).length<=es.length+1:=by unfold cS;split;rw[List.length_map];omega;·simp
theorem gz.map_put{k:NK}{v:V}{u:Value}(r:RelV v u):∀{es:NE}{xs:List (NK×Addr×Value)},Paired gz es xs->Paired gz (es.map λe=>if e.1=k then(e.1,e.2.1,v) else e) (xs.map (putAt k u))|_,_,.nil=>.nil|_,_,.cons (a:=e) (b:=x) h t=>by rw[List.map_cons,List.map_cons];refine .cons ?_ (gz.map_put r t);unfold putAt;by_cases q:e.1=k;have q2:x.1=k:=h.1▸q;rw[if_pos q,if_pos q2];exact⟨h.1,h.2.1,r⟩;·have q2:¬x.1=k:=h.1▸q;rw[if_neg q,if_neg q2];exact h
theorem Ea{α β:Type}{F:α->β->Prop}:∀{as:List α}{bs:List β}{a:α}{b:β},Paired F as bs->F a b->Paired F (as++[a]) (bs++[b])|_,_,_,_,.nil,h=>.cons h .nil|_,_,_,_,.cons r t,h=>.cons r (Ea t h)
theorem gz.put{k:NK}{x:Addr}{v:V}{u:Value}{es:NE}{xs:List (NK×Addr×Value)}(r:RelV v u)(h:Paired gz es xs):Paired gz (cS es k x v) (storedH xs k x u):=by
 have z:=gz.at_ h k;unfold cS storedH;cases q:ur es k with
 |none=>
  cases q2:atKey xs k with
  |none=>exact Ea h ⟨rfl,rfl,r⟩|some p=>rw[q,q2]at z;exact z.elim
 |some p=>
  cases q2:atKey xs k with
  |none=>rw[q,q2]at z;exact z.elim|some p2=>exact gz.map_put r h
section
variable {X:Cx}{pins:List (Addr×Obj)}{σ:L2.St}{H:Hp}{s:Shared}{D x:Addr}{es:NE}{k:NK}{E:Value->Shared->Prop}
theorem vW(I:Inv X pins σ H s)(hD:H D=some (jH X.w D es)):wX X.w s.heap D es:=(I.hok D _ hD).1
theorem wX.made{P:Program}{w:World}{h:Heap}{D:Addr}{es:NE}{xs:List (NK×Addr×Value)}(m:h.DictOfH (nestedKind P w) D xs)(pe:Paired gz es xs)(few:es.length<=sizeLine)(big:(D == sysModules)=false):wX w h D es:=by obtain⟨od,rows,ep,ho,hx,hd,hr,_,nd⟩:=m;exact⟨⟨od,rows,ep,xs,ho,hx,hd,hr,nd,pe⟩,few,big⟩
theorem Eb{P:Program}{w:World}{h':Heap}{v:V}{u:Value}{xs:List (NK×Addr×Value)}(pe:Paired gz es xs)(r:RelV v u)(few:es.length<sizeLine)(big:(D == sysModules)=false)(m:h'.DictOfH (nestedKind P w) D (storedH xs k x u)):wX w h' D (cS es k x v):=
 wX.made m (gz.put r pe) (by have:=Gj es k x v;omega) big
theorem Gk{h':Heap}{es':NE}{t:Nat}(I:Inv X pins σ H s)(hD:H D=some (jH X.w D es))(sb:Heap.SameBut D s.heap h')(R:wX X.w h' D es'):Inv X pins σ (upd H D (jH X.w D es')) { s with heap:=h',toks:=t }:=by
 have he:∃u,h'.get? D=some u:=by obtain⟨od,_,_,_,ho,_⟩:=R.ex;exact⟨od,ho⟩
 exact I.write (e:=D) (t':=t) (by rw[hD];trivial) (.inl rfl) (λb u hb hu=>(sb.2 b hb).trans hu) he (Hx R)
theorem AB{P:Program}{w:World}(hu:X.A.units+64<cLine):(nestedKind P w).room X.A.in1:=by show X.A.units+1+8<cLine;omega
theorem JJ{v:V}{u:Value}{Q:Unit->Shared->Prop}(I:Inv X pins σ H s)(hu:X.A.units+64<cLine)(hD:H D=some (jH X.w D es))(keys:∀e∈es,Di s.heap e.1 e.2.1)(hx:Di s.heap k x)(few:es.length<sizeLine)(r:RelV v u)
  (h:∀s',Inv X pins σ (upd H D (jH X.w D (cS es k x v))) s'->Q () s'):wpAny (model X.prog X.w) X.A (setItem (.ref D) (.ref x) u) Q E s:=by
 have R:=vW I hD;obtain⟨xs,m,pe⟩:=R.of (P:=X.prog) keys;exact wpAny_setItem_heap (hsz:=by rw[<-pe.length];exact R.few) (AB hu) ⟨hx.is,hx.deep⟩ m λh' m' sb=>h _ (Gk I hD sb (Eb pe r few R.big m'))
theorem CB{v:V}{u:Value}{Q:Unit->Shared->Prop}(I:Inv X pins σ H s)(hu:X.A.units+64<cLine)(hD:H D=some (jH X.w D es))(keys:∀e∈es,Di s.heap e.1 e.2.1)(hx:Di s.heap k x)(few:es.length<sizeLine)(r:RelV v u)
  (h:∀s',Inv X pins σ (upd H D (jH X.w D (cS es k x v))) s'->Q () s'):wpAny (model X.prog X.w) X.A (dictSet D (.ref x) u) Q E s:=by
 have R:=vW I hD;obtain⟨xs,m,pe⟩:=R.of (P:=X.prog) keys;exact wpAny_dictSet_heap (knd:=nestedKind X.prog X.w) (hsz:=by rw[<-pe.length];exact R.few) (by show X.A.units+8<cLine;omega) ⟨hx.is,hx.deep⟩ m λh' m' sb=>h _ (Gk I hD sb (Eb pe r few R.big m'))
theorem JK{p:Addr×V}{Q:Value->Shared->Prop}(I:Inv X pins σ H s)(hu:X.A.units+64<cLine)(hD:H D=some (jH X.w D es))(keys:∀e∈es,Di s.heap e.1 e.2.1)(hx:Di s.heap k x)(hp:ur es k=some p)
  (h:∀u s',RelV p.2 u->Inv X pins σ H s'->Q u s'):wpAny (model X.prog X.w) X.A (getItem (.ref D) (.ref x)) Q E s:=by
 obtain⟨xs,m,pe⟩:=(vW I hD).of (P:=X.prog) keys;have z:=gz.at_ pe k;rw[hp]at z;cases q:atKey xs k with
 |none=>rw[q]at z;exact z.elim|some y =>rw[q]at z;exact wpAny_getItem_heap (knd:=nestedKind X.prog X.w) (AB hu) ⟨hx.is,hx.deep⟩ m q (h _ _ z.2 (I.tok _))
theorem Xw{neg:Bool}{Q:Value->Shared->Prop}(I:Inv X pins σ H s)(hu:X.A.units+64<cLine)(hD:H D=some (jH X.w D es))(keys:∀e∈es,Di s.heap e.1 e.2.1)(hx:Di s.heap k x)
  (h:∀s',Inv X pins σ H s'->Q (.bool (if neg=true then !(ur es k).isSome else(ur es k).isSome)) s'):wpAny (model X.prog X.w) X.A (compareOp (if neg=true then .NotIn else .In) (.ref x) (.ref D)) Q E s:=by
 have R:=vW I hD;obtain⟨xs,m,pe⟩:=R.of (P:=X.prog) keys;have z:=gz.at_ pe k;have e:(atKey xs k).isSome=(ur es k).isSome:=by cases q:ur es k<;>cases q2:atKey xs k<;>rw[q,q2]at z<;>first|rfl|exact z.elim
 have e2:(valueAt (pairsH xs) k).isSome=(ur es k).isSome:=by rw[valueAt_pairsH,Option.isSome_map,e]
 cases neg with
 |true=>exact notIn_keyed (knd:=nestedKind X.prog X.w) (AB hu) ⟨hx.is,hx.deep⟩ R.big ⟨xs,m,rfl⟩ (by rw[e2];exact h _ (I.tok _))|false=>exact in_keyed (knd:=nestedKind X.prog X.w) (AB hu) ⟨hx.is,hx.deep⟩ R.big ⟨xs,m,rfl⟩ (by rw[e2];exact h _ (I.tok _))
theorem M3{P:Program}{w:World}{H:Hp}(h:Heap)(hb:sysModules<h.objs.size):ObjOk P w H (h.push { cls:=.type "dict",data:=.dict #[] }) h.objs.size (jH w h.objs.size []):=
 Hx (wX.made (Heap.DictOfH.new (knd:=nestedKind P w) h) .nil (Nat.zero_le _) (beq_eq_false_iff_ne.mpr (Ne.symm (Nat.ne_of_lt hb))))
end
open LamX
namespace R
@[simp] theorem ak{α β:Type}{a:α}{S:ag}{f:α->ag->R β}:(R.ok a S).bind f=f a S:=rfl
@[simp] theorem aaF{α β:Type}{e:Er}{S:ag}{f:α->ag->R β}:(R.err e S:R α).bind f=.err e S:=rfl
@[simp] theorem aaG{α β:Type}{f:α->ag->R β}:(R.stk:R α).bind f=.stk:=rfl
@[simp] theorem aaH{α:Type}{a:α}{S:ag}:xm (some a) S=.ok a S:=rfl
@[simp] theorem aaI{α:Type}{S:ag}:xm (none:Option α) S=.stk:=rfl
end R
section
variable {T:Tb}{μ μ':List Addr}{H H':Hp}{S:ag}
theorem Ext.refl:Ext μ H μ H:=⟨⟨[],by simp⟩,λ_ _ h _=>h,λ_ h n=>absurd h n,λ_ _ _ n p hp=>n.2 p hp,λ_ o h=>⟨o,h⟩,λ_ _ _ _ _ _ _ h _ l=>⟨_,_,_,h,l⟩⟩
theorem OL.push(x:OL μ H S)(hl:μ.length=S.length){p:Addr}{o:MO}(e:∀a∈μ,∀C dx fs,H a=some (.ins C dx fs)->H' a=some (.ins C dx fs))(ho:∀k fs f n,o=.ins k fs->fs.lookup f≠some (.ptr n)):OL (μ++[p]) H' (S++[o]):=λi a k fs f n h1 h2 hr h3=>by
 by_cases hi:i<S.length;·rw[List.getElem?_append_left (by omega)]at h1;rw[List.getElem?_append_left hi]at h2;obtain⟨q,b,C,dx,vfs,q1,q2,q3⟩:=x i a k fs f n h1 h2 hr h3;exact⟨q,b,C,dx,vfs,by rw[List.getElem?_append_left (by omega)];exact q1,e a (List.mem_of_getElem? h1) _ _ _ q2,q3⟩
 ·rw[List.getElem?_append_right (by omega)]at h2;have e1:i-S.length=0:=by have:=(List.getElem?_eq_some_iff.mp h2).1;simpa using this
  rw[e1]at h2;simp at h2;exact absurd h3 (ho k fs f n h2)
theorem aI.tro(k:aI T μ H S):Tt μ H:=⟨k.tr,λ_ hp _ z=>(k.owned hp z).2⟩
theorem aI.push(k:aI T μ H S){p:Addr}(sm:Same H H')(hp:H p=none)(ho:∀C dx fs,H' p=some (.ins C dx fs)->∀f v,(f,v)∈fs->zt.contains f=false):Ext μ H (μ++[p]) H'/\Jv (μ++[p]) H':=by
 refine⟨⟨⟨[p],rfl⟩,λa o h _=>sm a o h,λa h n=>?_,λa o h n b hb z=>?_,λa o h=>⟨o,sm a o h⟩,λp _ _ _ _ _ _ e _ l=>⟨_,_,_,sm p _ e,l⟩⟩,Jv.mv k.ex λb hb C dx fs h=>?_⟩;·rcases List.mem_append.mp h with h|h;exact absurd h n;·rw[List.mem_singleton.mp h];exact hp
 ·rcases List.mem_append.mp hb with hb|hb;refine n.2 b hb ?_;obtain⟨u,q⟩:=k.tr b hb;obtain⟨C,dx,fs,f,h1,h2,h3⟩:=z;rw[sm b u q]at h1;cases h1;exact⟨C,dx,fs,f,q,h2,h3⟩;·rw[List.mem_singleton.mp hb]at z;obtain⟨C,dx,fs,f,h1,h2,h3⟩:=z;rw[ho C dx fs h1 f _ h3]at h2;cases h2
 ·rcases List.mem_append.mp hb with hb|hb;refine .inl ⟨hb,?_⟩;obtain⟨u,q⟩:=k.tr b hb;rw[sm b u q]at h;rw[q];exact h;·rw[List.mem_singleton.mp hb]at h;exact .inr (ho C dx fs h)
theorem aI.wrE(k:aI T μ H S){p:Addr}{o:HO}(mem:p∈μ)(hsub:∀C dx fs f q,o=.ins C dx fs->zt.contains f=true->(f,V.ref q)∈fs->∃C0 dx0 fs0,H p=some (.ins C0 dx0 fs0)/\(f,V.ref q)∈fs0)(hfix:∀C dx fs f q,H p=some (.ins C dx fs)->fixF.contains f=true->fs.lookup f=some (V.ref q)->∃C' dx' fs',o=.ins C' dx' fs'/\fs'.lookup f=some (V.ref q)):Ext μ H μ (L2.upd H p o)/\Jv μ (L2.upd H p o):=by
 have back:∀b C dx fs f q,L2.upd H p o b=some (.ins C dx fs)->zt.contains f=true->(f,V.ref q)∈fs->∃C0 dx0 fs0,H b=some (.ins C0 dx0 fs0)/\(f,V.ref q)∈fs0:=λb C dx fs f q e c m=>by by_cases hb:b=p;subst hb;rw[upd_same]at e;cases e;exact hsub _ _ _ f q rfl c m;·rw[upd_ne hb]at e;exact⟨_,_,_,e,m⟩
 refine⟨⟨⟨[],by simp⟩,λa u h na=>by rw[upd_ne (by rintro rfl;exact na.1 mem)];exact h,λa h na=>absurd h na,λa u h na b hb z=>?_,λa u h=>?_,λb hb C dx fs f q e c l=>?_⟩,λb hb b' hb' q C dx fs f C' dx' fs' f' e1 e2 c1 c2 m1 m2=>?_⟩;obtain⟨C,dx,fs,f,e1,c,m⟩:=z;obtain⟨C0,dx0,fs0,e0,m0⟩:=back b _ _ _ f a e1 c m;exact na.2 b hb ⟨C0,dx0,fs0,f,e0,c,m0⟩;·by_cases ha:a=p;subst ha;exact⟨_,upd_same⟩;·exact⟨u,by rw[upd_ne ha];exact h⟩
 ·by_cases hbp:b=p;subst hbp;obtain⟨C',dx',fs',e1,l1⟩:=hfix C dx fs f q e c l;exact⟨C',dx',fs',by rw[upd_same,e1],l1⟩;·exact⟨C,dx,fs,by rw[upd_ne hbp];exact e,l⟩
 ·obtain⟨C0,dx0,fs0,g1,n1⟩:=back b _ _ _ f q e1 c1 m1;obtain⟨C1,dx1,fs1,g2,n2⟩:=back b' _ _ _ f' q e2 c2 m2;exact k.ex b hb b' hb' q _ _ _ f _ _ _ f' g1 g2 c1 c2 n1 n2
theorem aI.mvp(k:aI T μ H S){p:Addr}{u:HO}(mem:p∈μ)(e:Ext μ H μ (L2.upd H p u)){i:Nat}{a:Addr}{o:MO}(ne:a≠p)(h1:μ[i]?=some a)(h2:S[i]?=some o):uu T μ (L2.upd H p u) a o:=
 (k.at_ i a o h1 h2).mv e (λv z=>by rw[upd_ne ne];exact z) λq z v y=>by rw[upd_ne (by rintro rfl;exact(k.owned (List.mem_of_getElem? h1) z).1 mem)];exact y
theorem aI.mvs(k:aI T μ H S){μ':List Addr}(e:Ext μ H μ' H')(sm:Same H H'){i:Nat}{a:Addr}{o:MO}(h1:μ[i]?=some a)(h2:S[i]?=some o):uu T μ' H' a o:=(k.at_ i a o h1 h2).mv e (λu=>sm _ u) λq _ u=>sm q u
theorem NI.upd{p:Addr}(n:NI μ H p){a:Addr}{o:HO}(ha:a∉μ) : NI μ (L2.upd H a o) p:=⟨n.1,λq hq z=>n.2 q hq (by obtain⟨C,dx,fs,f,h1,h2,h3⟩:=z;rw[upd_ne (by rintro rfl;exact ha hq)]at h1;exact⟨C,dx,fs,f,h1,h2,h3⟩)⟩
theorem aI.yU(k:aI T μ H S){p:Addr}{o:HO}(h:H p=none):NI μ (L2.upd H p o) p:=(k.free h).upd (k.free h).1
theorem Tt.yU(t:Tt μ H){p:Addr}{o:HO}(h:H p=none):NI μ (L2.upd H p o) p:=(t.free h).upd (t.free h).1
theorem Ext.acu{D:Addr}{u:HO}{t:List Addr}(hD:H D=none)(nl:∀C dx fs,u≠.ins C dx fs)(ex:Ext (μ++[D]) (L2.upd H D u) (μ++t) H'):Ext μ H μ H':=by
 have ni:∀a o,H a=some o->NI μ H a->NI (μ++[D]) (L2.upd H D u) a:=λa o ha na=>by
  have naD:a≠D:=ne_of_none ha hD;refine⟨λmm=>?_,λp hp z=>?_⟩;·rcases List.mem_append.mp mm with z|z;exact na.1 z;·exact naD (List.mem_singleton.mp z)
  ·obtain⟨C,dx,fs,f,h1,h2,h3⟩:=z;by_cases e:p=D;·subst e;rw[upd_same]at h1;cases h1;exact absurd rfl (nl _ _ _)
   ·rcases List.mem_append.mp hp with z|z;rw[upd_ne e]at h1;exact na.2 p z ⟨C,dx,fs,f,h1,h2,h3⟩;·exact e (List.mem_singleton.mp z)
 have st:∀a o,H a=some o->L2.upd H D u a=some o:=λa o ha=>by rw[upd_ne (ne_of_none ha hD)];exact ha
 exact⟨⟨[],by simp⟩,λa o ha na=>ex.keep a o (st a o ha) (ni a o ha na),λa ha na=>absurd ha na,λa o ha na p hp=>ex.own a o (st a o ha) (ni a o ha na) p (List.mem_append_left _ hp),λa o ha=>ex.Mx a o (st a o ha),λp hp C dx fs f q e c l=>ex.ZO p (List.mem_append_left _ hp) C dx fs f q (st p _ e) c l⟩
theorem fD{p:Addr}{o:HO}(h:H p=none):Same H (upd H p o):=λb u e=>by rw[upd_ne (ne_of_none e h)];exact e
theorem av.app:∀{ds es:List D}{vs ws:List V},av T μ H ds vs->av T μ H es ws->av T μ H (ds++es) (vs++ws)|[],_,_,_,h,g=>by simp only[av]at h;subst h;exact g|d::ds,es,vs,ws,h,g=>by simp only[av,List.cons_append]at h ⊢;obtain⟨v,us,e1,h1,h2⟩:=h;subst e1;exact⟨v,us++ws,rfl,h1,av.app h2 g⟩
theorem av.one{d:D}{v:V}(h:Rep T μ H d v):av T μ H [d] [v]:=by simp only[av];exact⟨v,[],rfl,h,rfl⟩
end
abbrev EM:=Env->ag->R A
abbrev TM:=Env->ag->R Bool
abbrev AM:=Env->ag->R (List A)
def rd(T:Tb)(W:XK)(m:EM):TE:=λσ H Q=>∃μ ρ S,dw T μ H ρ σ/\aI T μ H S/\oU T (λμ H=>aH T μ H) μ H Q W (m ρ S)
def Ti(T:Tb)(W:XK)(m:TM):TT:=λσ H Q=>∃μ ρ S,dw T μ H ρ σ/\aI T μ H S/\oU T (λ_ _ a b=>a=b) μ H Q W (m ρ S)
def Tj(T:Tb)(W:XK)(m:AM):TA:=λσ H Q=>∃μ ρ S,dw T μ H ρ σ/\aI T μ H S/\oU T (λμ H=>cU T μ H) μ H Q W (m ρ S)
theorem aaJ{b:Bool}{X:Cx}:Tu b X (λ_ _ _ _=>False):=by
 cases b with
 |true=>exactλu s' ⟨_,_,_,_,_,_,_,_,_,_,_,_,_,_,_,_,w⟩=>w.elim|false=>exactλu s' ⟨_,_,_,_,_,_,_,_,_,_,_,_,_,_,_,_,w⟩=>w.elim
theorem Qp{b:Bool}{X:Cx}{E:XK}(hs:X.stack=X.env::X.outer)(hf:X.env.frame=some X.env.locals)(hex:X.ex=[]){E₁:Value->Shared->Prop}
  (hx:X.xe=λe s'=>wpAny (model X.prog X.w) X.A (leaving X.env e) (λ_ s''=>Au b X.prog X.w X.outer X.H_0 X.s_0 E e s'') E₁ s'):Tu b X (λcls d _ H=>E cls d H):=by
 cases b with
 |true=>exact L2N.takes_of hs hf hex hx|false=>exact takes_of hs hf hex hx
theorem TR{b:Bool}{X:Cx}{W:XK}(t:Tu b X (λc d _ H=>W c d H)):Passes (Au b X.prog X.w) X W:=by
 cases b with
 |true=>exact L2N.passes_call t λ_ _ _ _ h=>h|false=>exact passes_call t λ_ _ _ _ h=>h
theorem aaK{b:Bool}{P:Program}{w:World}{l:List PySem.Env}{H:Hp}{s s':Shared}{e:Value}(h:Au b P w l H s (λ_ _ _=>False) e s'):False:=by
 cases b with
 |true=>exact let ⟨_,_,_,_,_,_,_,_,_,_,_,_,z⟩:=h;z|false=>exact let ⟨_,_,_,_,_,_,_,_,_,_,_,_,z⟩:=h;z
theorem Qq{b:Bool}{X:Cx}:Passes (Au b X.prog X.w) X E0:=by
 cases b with
 |true=>exactλ_ _ _ _ _ _ _ ⟨_,_,_,_,_,_,_,_,_,_,_,_,z⟩=>z.elim|false=>exact passL
structure Lv (X:Cx) (T:Tb) (W:XK):Prop where
 k:X.K=T.K
 tk:Tu T.nn X (λc d _ H=>W c d H)
abbrev ME(X:Cx)(T:Tb)(W:XK)(e:Expr)(m:EM):Prop:=PE X e (rd T W m)
abbrev MT(X:Cx)(T:Tb)(W:XK)(e:Expr)(m:TM):Prop:=PT X e (Ti T W m)
abbrev MW(X:Cx)(T:Tb)(W:XK)(e:Expr)(m:TM):Prop:=PW X e (Ti T W m)
abbrev MA(X:Cx)(T:Tb)(W:XK)(e:List Expr)(m:AM):Prop:=PA X e (Tj T W m)
theorem b5{X:Cx}{e:Expr}{t t':TE}(h:PE X e t)(k:∀σ H Q,t' σ H Q->t σ H Q):PE X e t':=⟨λpins s σ H Q I q=>h.run pins s σ H Q I (k σ H Q q)⟩
theorem Hy{X:Cx}{e:Expr}{t t':TT}(h:PT X e t)(k:∀σ H Q,t' σ H Q->t σ H Q):PT X e t':=⟨λpins s σ H Q I q=>h.run pins s σ H Q I (k σ H Q q)⟩
theorem Qr{X:Cx}{e:Expr}{t t':TT}(h:PW X e t)(k:∀σ H Q,t' σ H Q->t σ H Q):PW X e t':=⟨λwh pins s σ H Q I q=>h.run wh pins s σ H Q I (k σ H Q q)⟩
theorem Lu{X:Cx}{e:List Expr}{t t':TA}(h:PA X e t)(k:∀σ H Q,t' σ H Q->t σ H Q):PA X e t':=⟨λpos pins s σ H Q I q=>h.run pos pins s σ H Q I (k σ H Q q)⟩
section
variable {X:Cx}{T:Tb}{W:XK}{e a b c:Expr}{es:List Expr}{ma mb mc:EM}{pos:Pos}{μ:List Addr}{H:Hp}{S:ag}
theorem bL{σ:L2.St}{H:Hp}{μ:List Addr}{ρ:Env}{S:ag}{γ δ:Type}{Rq:List Addr->Hp->γ->δ->Prop}{Q:V->Hp->Prop}{Q':δ->Hp->Prop}{k:A->ag->R γ}(he:dw T μ H ρ σ)(hs:aI T μ H S)(h:oU T Rq μ H Q' W ((ma ρ S).bind k))
  (q:∀v H1 μ1 S1 x,Ext μ H μ1 H1->dw T μ1 H1 ρ σ->aI T μ1 H1 S1->aH T μ1 H1 x v->oU T Rq μ1 H1 Q' W (k x S1)->Q v H1):rd T W ma σ H Q:=
 ⟨μ,ρ,S,he,hs,(oU.split (Rp:=λμ H=>aH T μ H) h).imp λv H1 ⟨μ1,S1,x,ex,hs1,r,h1⟩=>q v H1 μ1 S1 x ex (he.mono ex) hs1 r h1⟩
theorem AD{m:TM}{σ:L2.St}{H:Hp}{μ:List Addr}{ρ:Env}{S:ag}{γ δ:Type}{Rq:List Addr->Hp->γ->δ->Prop}{Q:Bool->Hp->Prop}{Q':δ->Hp->Prop}{k:Bool->ag->R γ}(he:dw T μ H ρ σ)(hs:aI T μ H S)(h:oU T Rq μ H Q' W ((m ρ S).bind k))
  (q:∀b H1 μ1 S1,Ext μ H μ1 H1->dw T μ1 H1 ρ σ->aI T μ1 H1 S1->oU T Rq μ1 H1 Q' W (k b S1)->Q b H1):Ti T W m σ H Q:=
 ⟨μ,ρ,S,he,hs,(oU.split (Rp:=λ_ _ a b=>a=b) h).imp λv H1 ⟨μ1,S1,x,ex,hs1,r,h1⟩=>q v H1 μ1 S1 ex (he.mono ex) hs1 (r▸h1)⟩
theorem gB{m:AM}{σ:L2.St}{H:Hp}{μ:List Addr}{ρ:Env}{S:ag}{γ δ:Type}{Rq:List Addr->Hp->γ->δ->Prop}{Q:List V->Hp->Prop}{Q':δ->Hp->Prop}{k:List A->ag->R γ}(he:dw T μ H ρ σ)(hs:aI T μ H S)(h:oU T Rq μ H Q' W ((m ρ S).bind k))
  (q:∀vs H1 μ1 S1 xs,Ext μ H μ1 H1->dw T μ1 H1 ρ σ->aI T μ1 H1 S1->cU T μ1 H1 xs vs->oU T Rq μ1 H1 Q' W (k xs S1)->Q vs H1):Tj T W m σ H Q:=
 ⟨μ,ρ,S,he,hs,(oU.split (Rp:=λμ H=>cU T μ H) h).imp λv H1 ⟨μ1,S1,x,ex,hs1,r,h1⟩=>q v H1 μ1 S1 x ex (he.mono ex) hs1 r h1⟩
def eC(d:D):EM:=λ_ S=>.ok (.v d) S
def eV(i:Nat):EM:=λρ S=>match ρ[i]? with
 |some (some x)=>.ok x S|_=>.stk
theorem Lw{d:D}{v:V}(r:∀μ H,Rep T μ H d v)(h:PE X e (tC v)):ME X T W e (eC d):=b5 h λσ H Q ⟨μ,ρ,S,he,hs,h⟩=>h μ H v Ext.refl hs (r μ H)
theorem aq{i:Int}{j:Nat}:ME X T W (.Constant (.int i) j pos) (eC (.int i)):=Lw (v:=.int i) (λ_ _=>by simp only[Rep]) pe_int
theorem jK{x:Str}{j:Nat}:ME X T W (.Constant (.str x) j pos) (eC (.str x)):=Lw (v:=.str x) (λ_ _=>by simp only[Rep]) pe_str
theorem pF{k:Bool}{j:Nat}:ME X T W (.Constant (.bool k) j pos) (eC (.bl k)):=Lw (v:=.bl k) (λ_ _=>by simp only[Rep]) pe_bl
theorem rO{x:Str}{n:String}(hg:Gl X x)(hm:X.mg x=none)(hv:bootBuiltins x=some (.type n))(hn:x ≠ "__name__" := by decide)(hd:(x == ("__debug__" : Str))=false:=by decide):ME X T W (.Name x pos) (eC (.ty n)):=Lw (v:=.ty n) (λ_ _=>by simp only[Rep]) (pe_bltn hg hm hv rfl hn hd)
theorem zW{j:Nat}:ME X T W (.Constant .none j pos) (eC .non):=Lw (v:=.non) (λ_ _=>by simp only[Rep]) pe_non
theorem aj(i:Nat){x:Str}(hN:X.N[i]?=some x:=by rfl)(hv:Vis X.env.scope x:=by first|exact Or.inl rfl|exact Or.inr (Or.inl rfl)|exact Or.inr (Or.inr rfl))(hd:(x == ("__debug__" : Str))=false:=by decide)
  (hcd:(x == ("__classdict__" : Str))=false:=by decide):ME X T W (.Name x pos) (eV i):=b5 (pe_var hN hv hd hcd) λσ H Q ⟨μ,ρ,S,he,hs,h⟩=>by
 unfold eV at h;cases q:ρ[i]? with
 |none=>rw[q]at h;exact h.elim|some o=>
  cases o with
  |none=>rw[q]at h;exact h.elim|some x =>rw[q]at h;obtain⟨v,e1,r⟩:=he.at_ i x q;exact⟨v,e1,h μ H v Ext.refl hs r⟩
theorem Xx{d:D}{x:Str}{v:V}{u:Value}(r:∀μ H,Rep T μ H d v)(hg:Gl X x)(hm:X.mg x=some u)(rv:RelV v u)(hd:(x == ("__debug__" : Str))=false:=by decide):ME X T W (.Name x pos) (eC d):=Lw r (pe_glob hg hm rv hd)
def zv(X:Cx)(T:Tb)(f:Value->Value->Sem Value)(g:tK):Prop:=
 OpR X f (λx y H Q=>∃μ S a b z,aI T μ H S/\aH T μ H a x/\aH T μ H b y/\g a b S=some z/\∀μ' H' v,Ext μ H μ' H'->aI T μ' H' S->aH T μ' H' z v->Q v H')
def aA(g:tK)(ma mb:EM):EM:=λρ S=>(ma ρ S).bind λx S1=>(mb ρ S1).bind λy S2=>.xm (g x y S2) S2
theorem qY{o:Option A}{S:ag}{μ:List Addr}{H:Hp}{Q:VK}(h:oU T (λμ H=>aH T μ H) μ H Q W (.xm o S)):∃z,o=some z/\∀μ' H' v,Ext μ H μ' H'->aI T μ' H' S->aH T μ' H' z v->Q v H':=by
 cases o with
 |none=>exact h.elim|some z=>exact⟨z,rfl,h⟩
theorem Lx{g:tK}{r:R2}(hr:∀x y H Q,(∃μ S a b z,aI T μ H S/\aH T μ H a x/\aH T μ H b y/\g a b S=some z/\∀μ' H' v,Ext μ H μ' H'->aI T μ' H' S->aH T μ' H' z v->Q v H')->r x y H Q) :∀σ H Q,rd T W (aA g ma mb) σ H Q->tOp r (rd T W ma) (rd T W mb) σ H Q:=λσ H Q ⟨μ,ρ,S,he,hs,h⟩=>by refine bL he hs h λx H1 μ1 S1 a ex he1 hs1 ra h1=>?_;refine bL he1 hs1 h1 λy H2 μ2 S2 b ex2 he2 hs2 rb h2=>?_;obtain⟨z,e,q⟩:=qY h2;exact hr _ _ _ _ ⟨μ2,S2,a,b,z,hs2,ra.mono ex2,rb,e,q⟩
theorem bJ{op:Operator}{g:tK}(ho:zv X T (binaryOp op) g)(ha:ME X T W a ma)(hb:ME X T W b mb):ME X T W (.BinOp a op b pos) (aA g ma mb):=
 b5 (pe_op ho ha hb) (Lx λ_ _ _ _ h=>h)
theorem fF{op:CmpOp}{g:tK}(ho:zv X T (compareOp op) g)(ha:ME X T W a ma)(hb:ME X T W b mb)(hm:behindInMarks op b=false:=by first|exact nomark _|rfl|with_unfolding_all rfl):ME X T W (.Compare a [op] [b] pos) (aA g ma mb):=
 b5 (pe_cmpR ho ha hb hm) (Lx λ_ _ _ _ h=>h)
def Hz(g g':tK)(ma mb mc:EM):EM:=λρ S=>(ma ρ S).bind λx S1=>(mb ρ S1).bind λy S2=>match g x y S2 with
 |some (.v (.bl true))=>(mc ρ S2).bind λz S3=>.xm (g' y z S3) S3|some (.v (.bl false))=>.ok (.v (.bl false)) S2|_=>.stk
theorem JL{op op':CmpOp}{g g':tK}(ho:zv X T (compareOp op) g)(ho':zv X T (compareOp op') g')(ha:ME X T W a ma)(hb:ME X T W b mb)(hc:ME X T W c mc)(hm:lastMarks [op,op'] [b,c]=false:=by with_unfolding_all rfl) :ME X T W (.Compare a [op,op'] [b,c] pos) (Hz g g' ma mb mc):=b5 (pe_chain ho ho' ha hb hc hm) λσ H Q ⟨μ,ρ,S,he,hs,h⟩=>by
 refine bL he hs h λx H1 μ1 S1 p ex he1 hs1 ra h1=>?_;refine bL he1 hs1 h1 λy H2 μ2 S2 q ex2 he2 hs2 rb h2=>?_;cases e:g p q S2 with
 |none=>rw[e]at h2;exact h2.elim|some z=>
  rw[e]at h2;cases z with
  |m n=>exact h2.elim|v d=>
   cases d with
   |bl k=>
    refine⟨μ2,S2,p,q,_,hs2,ra.mono ex2,rb,e,λμ3 H3 v ex3 hs3 r3=>⟨k,by simpa only[aH,Rep]using r3,?_⟩⟩;cases k with
    |false =>refine iteF (h2 μ3 H3 _ ex3 hs3 (by simp only[aH,Rep]))|true =>refine iteT ?_;refine bL (he2.mono ex3) hs3 (oU.later ex3 h2) λz H4 μ4 S4 z' ex4 he4 hs4 rz h4=>?_;obtain⟨w,e4,q4⟩:=qY h4;exact⟨μ4,S4,q,z',w,hs4,(rb.mono ex3).mono ex4,rz,e4,q4⟩
   |non=>exact h2.elim|int _=>exact h2.elim|str _=>exact h2.elim|tup _=>exact h2.elim|lst _=>exact h2.elim|obj _ _=>exact h2.elim|cls _=>exact h2.elim|fz _=>exact h2.elim|ty _=>exact h2.elim|fn _=>exact h2.elim|adr _=>exact h2.elim|ptr _=>exact h2.elim|gX _ _=>exact h2.elim|exc _ _=>exact h2.elim|yD _ _=>exact h2.elim
def UnD(X:Cx)(T:Tb)(f:Value->Sem Value)(g:A->ag->Option A):Prop:=
 UnR X f (λx H Q=>∃μ S a z,aI T μ H S/\aH T μ H a x/\g a S=some z/\∀μ' H' v,Ext μ H μ' H'->aI T μ' H' S->aH T μ' H' z v->Q v H')
def xt(g:A->ag->Option A)(ma:EM):EM:=λρ S=>(ma ρ S).bind λx S1=>.xm (g x S1) S1
theorem tL{op:UnaryOp}{g:A->ag->Option A}(ho:UnD X T (unaryOp op) g)(ha:ME X T W a ma):ME X T W (.UnaryOp op a pos) (xt g ma):=b5 (pe_un ho ha) λσ H Q ⟨μ,ρ,S,he,hs,h⟩=>by refine bL he hs h λx H1 μ1 S1 p ex he1 hs1 ra h1=>?_;obtain⟨z,e,q⟩:=qY h1;exact⟨μ1,S1,p,z,hs1,ra,e,q⟩
def ah:AM:=λ_ S=>.ok [] S
def aa(m:EM)(r:AM):AM:=λρ S=>(m ρ S).bind λx S1=>(r ρ S1).bind λxs S2=>.ok (x::xs) S2
theorem ai:MA X T W [] ah:=Lu pa_nil λσ H Q ⟨μ,ρ,S,he,hs,h⟩=>h μ H [] Ext.refl hs rfl
theorem af{m:EM}{r:AM}(ha:ME X T W e m)(hr:MA X T W es r)(hs:starEach (e::es) X.env=(false,eval e X.env)::starEach es X.env:=by rfl):MA X T W (e::es) (aa m r):=Lu (pa_cons ha hr hs) λσ H Q ⟨μ,ρ,S,he,hs,h⟩=>by refine bL he hs h λx H1 μ1 S1 p ex he1 hs1 ra h1=>?_;refine gB he1 hs1 h1 λxs H2 μ2 S2 ps ex2 he2 hs2 rs h2=>?_;exact h2 μ2 H2 _ Ext.refl hs2 ⟨x,xs,rfl,ra.mono ex2,rs⟩
def mK(r:AM):EM:=λρ S=>(r ρ S).bind λxs S1=>match asD xs with
 |some ds=>if ds.length<=1000 then .ok (.v (.tup ds)) S1 else .stk
 |none=>.stk
def cn(r:AM):EM:=λρ S=>(r ρ S).bind λxs S1=>match asD xs with
 |some ds=>if ds.length<=1000 then .ok (.v (.lst ds)) S1 else .stk
 |none=>.stk
def mC(r:AM):EM:=λρ S=>(r ρ S).bind λxs S1=>match asD xs with
 |some ds=>if ds.length<=1000 then .ok (.m S1.length) (S1++[.lst ds]) else .stk
 |none=>.stk
theorem DA{n:Nat}(h:n<=1000):n<=sizeLine:=Nat.le_trans h (by decide)
theorem HB{μ:List Addr}{H:Hp}{S:ag}{ds:List D}{vs:List V}{p:Addr}(hs:aI T μ H S)(r:av T μ H ds vs)(hp:H p=none) :Ext μ H μ (upd H p (.tup vs))/\aI T μ (upd H p (.tup vs)) S/\Rep T μ (upd H p (.tup vs)) (.tup ds) (.ref p):=by have sm:Same H (upd H p (.tup vs)):=fD hp;refine⟨hs.ext sm,hs.grow sm,?_⟩;simp only[Rep];exact⟨p,vs,rfl,.inl ⟨hs.yU hp,.inl upd_same⟩,r.mono (hs.ext sm)⟩
theorem rP{μ:List Addr}{H:Hp}{S:ag}{ds:List D}{vs:List V}{p:Addr}(hs:aI T μ H S)(r:av T μ H ds vs)(hp:H p=none) :Ext μ H μ (upd H p (.lst vs))/\aI T μ (upd H p (.lst vs)) S/\Rep T μ (upd H p (.lst vs)) (.lst ds) (.ref p):=by have sm:Same H (upd H p (.lst vs)):=fD hp;refine⟨hs.ext sm,hs.grow sm,?_⟩;simp only[Rep];exact⟨p,vs,rfl,⟨hs.yU hp,upd_same⟩,r.mono (hs.ext sm)⟩
theorem HD{μ:List Addr}{H:Hp}{S:ag}{ds:List D}{vs:List V}{p:Addr}(hs:aI T μ H S)(r:av T μ H ds vs)(hp:H p=none) :Ext μ H (μ++[p]) (upd H p (.lst vs))/\aI T (μ++[p]) (upd H p (.lst vs)) (S++[.lst ds])/\aH T (μ++[p]) (upd H p (.lst vs)) (.m S.length) (.ref p):=by
 have sm:Same H (upd H p (.lst vs)):=fD hp;have np:=hs.free hp;obtain⟨ex,sx⟩:=hs.push sm hp λC dx fs h=>by rw[upd_same]at h;cases h
 have gl:(μ++[p])[S.length]?=some p:=by rw[<-hs.len,List.getElem?_append_right (Nat.le_refl _)];simp
 refine⟨ex,⟨by simp[hs.len],?_,λi a o h1 h2=>?_,λa ha=>?_,T.mono ex hs.inv,sx,hs.pt.push hs.len (λa _ C dx fs z=>sm a _ z) λk fs f n z=>by cases z⟩,⟨p,gl,rfl⟩⟩;·rw[List.nodup_append];exact⟨hs.nd,by simp,λa ha b hb=>by rw[List.mem_singleton.mp hb];rintro rfl;exact np.1 ha⟩
 ·by_cases hi:i<S.length;·rw[List.getElem?_append_left (by rw[hs.len];exact hi)]at h1;rw[List.getElem?_append_left hi]at h2;exact hs.mvs ex sm h1 h2
  ·rw[List.getElem?_append_right (by omega)]at h2;have e1:i-S.length=0:=by have:=(List.getElem?_eq_some_iff.mp h2).1;simpa using this
   have e2:i=S.length:=(by omega);subst e2;rw[gl]at h1;simp at h2;cases h1;subst h2;exact⟨vs,upd_same,r.mono ex⟩
 ·rcases List.mem_append.mp ha with h|h;obtain⟨o,q⟩:=hs.tr a h;exact⟨o,sm _ _ q⟩;·rw[List.mem_singleton.mp h];exact⟨_,upd_same⟩
theorem jL{r:AM}{x1:Nat}(h:MA X T W es r):ME X T W (.Tuple es x1 pos) (mK r):=b5 (pe_tup h) λσ H Q ⟨μ,ρ,S,he,hs,h⟩=>by
 refine gB he hs h λvs H1 μ1 S1 xs ex he1 hs1 rs h1=>?_;cases e:asD xs with
 |none=>rw[e]at h1;exact h1.elim|some ds=>
  have rl:=rs.data e;have q:(if ds.length<=1000 then(.ok (.v (.tup ds)) S1:R A) else .stk)=(match asD xs with
   |some ds=>if ds.length<=1000 then .ok (.v (.tup ds)) S1 else .stk
   |none=>.stk):=by rw[e]
  rw[<-q]at h1;by_cases hl:ds.length<=1000;rw[if_pos hl]at h1;refine⟨by rw[rl.length];exact DA hl,λp hp=>?_⟩;obtain⟨x1,x2,x3⟩:=HB hs1 rl hp;exact h1 μ1 _ _ x1 x2 x3;·rw[if_neg hl]at h1;exact h1.elim
theorem cX{r:AM}(h:MA X T W es r):ME X T W (.List es pos) (cn r):=b5 (pe_lst h) λσ H Q ⟨μ,ρ,S,he,hs,h⟩=>by
 refine gB he hs h λvs H1 μ1 S1 xs ex he1 hs1 rs h1=>?_;cases e:asD xs with
 |none=>rw[e]at h1;exact h1.elim|some ds=>
  have rl:=rs.data e;have q:(if ds.length<=1000 then(.ok (.v (.lst ds)) S1:R A) else .stk)=(match asD xs with
   |some ds=>if ds.length<=1000 then .ok (.v (.lst ds)) S1 else .stk
   |none=>.stk):=by rw[e]
  rw[<-q]at h1;by_cases hl:ds.length<=1000;rw[if_pos hl]at h1;refine⟨by rw[rl.length];exact DA hl,λp hp=>?_⟩;obtain⟨x1,x2,x3⟩:=rP hs1 rl hp;exact h1 μ1 _ _ x1 x2 x3;·rw[if_neg hl]at h1;exact h1.elim
theorem vX{r:AM}(h:MA X T W es r):ME X T W (.List es pos) (mC r):=b5 (pe_lst h) λσ H Q ⟨μ,ρ,S,he,hs,h⟩=>by
 refine gB he hs h λvs H1 μ1 S1 xs ex he1 hs1 rs h1=>?_;cases e:asD xs with
 |none=>rw[e]at h1;exact h1.elim|some ds=>
  have rl:=rs.data e;have q:(if ds.length<=1000 then(.ok (.m S1.length) (S1++[.lst ds]):R A) else .stk)=(match asD xs with
   |some ds=>if ds.length<=1000 then .ok (.m S1.length) (S1++[.lst ds]) else .stk
   |none=>.stk):=by rw[e]
  rw[<-q]at h1;by_cases hl:ds.length<=1000;rw[if_pos hl]at h1;refine⟨by rw[rl.length];exact DA hl,λp hp=>?_⟩;obtain⟨x1,x2,x3⟩:=HD hs1 rl hp;exact h1 _ _ _ x1 x2 x3;·rw[if_neg hl]at h1;exact h1.elim
theorem nZ{i:Int}:aH T μ H (.v (.int i)) (.int i):=by simp only[aH,Rep]
theorem Ec{i:Str}:aH T μ H (.v (.str i)) (.str i):=by simp only[aH,Rep]
theorem aaL{i:Bool}:aH T μ H (.v (.bl i)) (.bl i):=by simp only[aH,Rep]
theorem Qs:aH T μ H (.v .non) .non:=by simp only[aH,Rep]
theorem cq{i:Int}{v:V}(h:aH T μ H (.v (.int i)) v):v=.int i:=by simpa only[aH,Rep]using h
theorem g9{i:Str}{v:V}(h:aH T μ H (.v (.str i)) v):v=.str i:=by simpa only[aH,Rep]using h
theorem M4{i:Bool}{v:V}(h:aH T μ H (.v (.bl i)) v):v=.bl i:=by simpa only[aH,Rep]using h
theorem HF{v:V}(h:aH T μ H (.v .non) v):v=.non:=by simpa only[aH,Rep]using h
def cE:Nat:=1000000
theorem bS{n:Nat}(h:n<=cE):n<=sizeLine:=Nat.le_trans h (by unfold cE;decide)
theorem OT{n:Nat}(h:n<=cE):n<=16777216:=Nat.le_trans h (by unfold cE;decide)
def cY:tK
 |.v (.int i),.v (.int j),_=>some (.v (.int (i+j)))|.v (.str x),.v (.str y),_=>if x.length+y.length<=cE then some (.v (.str (x++y))) else none
 |.v (.lst xs),.v (.lst ys),_=>if xs.length+ys.length<=cE then some (.v (.lst (xs++ys))) else none
 |.v (.tup (x::xs)),.v (.tup (y::ys)),_=>if (x::xs).length+(y::ys).length<=cE then some (.v (.tup ((x::xs)++(y::ys)))) else none
 |_,_,_=>none
theorem cZ(hK:X.K=T.K):zv X T (binaryOp .Add) cY:=by
 rintro pins s σ H x y v u Q I rx ry ⟨μ,S,a,b,z,hs,ra,rb,hg,k⟩;unfold cY at hg;split at hg;·cases hg;exact op_add pins s σ H x y v u Q I rx ry ⟨_,_,cq ra,cq rb,k μ H _ Ext.refl hs nZ⟩
 ·split at hg;rename_i hl;cases hg;exact op_add_str pins s σ H x y v u Q I rx ry ⟨_,_,g9 ra,g9 rb,bS hl,k μ H _ Ext.refl hs Ec⟩;·cases hg
 ·split at hg
  ·rename_i hl;cases hg;simp only[aH,Rep]at ra rb;obtain⟨p,vs,e1,h1,r1⟩:=ra;obtain⟨q,ws,e2,h2,r2⟩:=rb;refine op_cat pins s σ H x y v u Q I rx ry ⟨p,q,vs,ws,e1,e2,h1.2,h2.2,?_,λl hp=>?_⟩;·rw[r1.length,r2.length];exact bS hl
   ·obtain⟨x1,x2,x3⟩:=rP hs (r1.app r2) hp;exact k _ _ _ x1 x2 x3
  ·cases hg
 ·split at hg
  ·rename_i hl;cases hg;have ra':=ra;have rb':=rb;simp only[aH,Rep]at ra rb;obtain⟨p,vs,e1,h1,r1⟩:=ra;obtain⟨q,ws,e2,h2,r2⟩:=rb;have l1:=r1.length;have l2:=r2.length;refine op_catT pins s σ H x y v u Q I rx ry ⟨p,q,vs,ws,e1,e2,hK▸h1.sq,hK▸h2.sq,?_,?_,λe=>?_,λ_ l hp=>?_⟩;rintro rfl;simp at l1;rw[l1,l2];exact bS hl;·rw[e]at l2;simp at l2
   ·obtain⟨x1,x2,x3⟩:=HB hs (r1.app r2) hp;exact k _ _ _ x1 x2 x3
  ·cases hg
 ·cases hg
def gSub:tK|.v (.int i),.v (.int j),_=>some (.v (.int (i-j)))|_,_,_=>none
theorem yX:zv X T (binaryOp .Sub) gSub:=by rintro pins s σ H x y v u Q I rx ry ⟨μ,S,a,b,z,hs,ra,rb,hg,k⟩;unfold gSub at hg;split at hg;cases hg;exact op_sub pins s σ H x y v u Q I rx ry ⟨_,_,cq ra,cq rb,k μ H _ Ext.refl hs nZ⟩;·cases hg
theorem CD:∀(n:Nat){ds:List D}{vs:List V},av T μ H ds vs->av T μ H (List.replicate n ds).flatten (List.replicate n vs).flatten|0,_,_,_=>by simp only[List.replicate_zero,List.flatten_nil,av]|n+1,ds,vs,h=>by rw[List.replicate_succ,List.replicate_succ,List.flatten_cons,List.flatten_cons];exact h.app (CD n h)
theorem mulOk_of{x:Str}{n:Int}(h:n<=1000000)(hl:-1000000<=n)(h2:x.length*n.toNat<=cE):MulOk x n:=by
 refine⟨?_,λhn hx=>?_,λhn hx=>?_⟩;·rw[Bool.or_eq_false_iff];exact⟨decide_eq_false (by omega),decide_eq_false (by omega)⟩
 ·have hn1:(1:Int)<=n:=by omega
  have hx':x.length<=1000000:=by have e1:x.length*1<=x.length*n.toNat:=Nat.mul_le_mul_left _ (by omega);unfold cE at h2;omega
  have:(9223372036854:Int)<=(2 ^ 63-1) / n:=by rw[Int.le_ediv_iff_mul_le (by omega)];omega
  omega
 ·have e:=OT h2;show decide (x.length*n.toNat > sizeLine)=false;exact decide_eq_false (Nat.not_lt.mpr (bS h2))
def hA:tK
 |.v (.int i),.v (.int j),_=>if (-(2 ^ 64)<i/\i<2 ^ 64)\/(-(2 ^ 64)<j/\j<2 ^ 64) then some (.v (.int (i*j))) else none
 |.v (.str x),.v (.int n),_=>if n<=1000000/\-1000000<=n/\x.length*n.toNat<=cE then some (.v (.str (Txt.mul x n))) else none
 |.v (.lst xs),.v (.int n),_=>if n<=1000000/\-1000000<=n/\xs.length*n.toNat<=cE then some (.v (.lst (List.replicate n.toNat xs).flatten)) else none
 |_,_,_=>none
theorem iQ:zv X T (binaryOp .Mult) hA:=by
 rintro pins s σ H x y v u Q I rx ry ⟨μ,S,a,b,z,hs,ra,rb,hg,k⟩;unfold hA at hg;split at hg;·split at hg;rename_i hc;cases hg;exact op_mul pins s σ H x y v u Q I rx ry ⟨_,_,cq ra,cq rb,hc,k μ H _ Ext.refl hs nZ⟩;·cases hg
 ·split at hg;rename_i hc;cases hg;obtain rfl:=g9 ra;obtain rfl:=cq rb;obtain⟨t,rfl⟩:=rx;obtain⟨t',rfl⟩:=ry;exact SB.mul (mulOk_of hc.1 hc.2.1 hc.2.2) λt2 kk=>⟨.str _,H,I.tok _,⟨_,rfl⟩,k μ H _ Ext.refl hs Ec⟩;·cases hg
 ·split at hg
  ·rename_i hc;cases hg;obtain rfl:=cq rb;simp only[aH,Rep]at ra;obtain⟨p,vs,e1,h1,r1⟩:=ra;refine op_rep pins s σ H x _ v u Q I rx ry ⟨p,_,vs,e1,rfl,h1.2,by omega,by omega,?_,λl hp=>?_⟩;·rw[r1.length];exact bS hc.2.2
   ·obtain⟨x1,x2,x3⟩:=rP hs (CD _ r1) hp;exact k _ _ _ x1 x2 x3
  ·cases hg
 ·cases hg
def zX:tK
 |.v (.int i),.v (.int j),_=>if 0<j then some (.v (.int (i%j))) else none
 |_,_,_=>none
theorem tM:zv X T (binaryOp .Mod) zX:=by
 rintro pins s σ H x y v u Q I rx ry ⟨μ,S,a,b,z,hs,ra,rb,hg,k⟩;unfold zX at hg;split at hg;·split at hg;rename_i hc;cases hg;exact op_mod pins s σ H x y v u Q I rx ry ⟨_,_,cq ra,cq rb,hc,k μ H _ Ext.refl hs nZ⟩;·cases hg
 ·cases hg
def Ed:tK
 |.v (.int i),.v (.int j),_=>if 0<j/\j<1073741824 then some (.v (.int (i / j))) else none
 |_,_,_=>none
theorem JM:zv X T (binaryOp .FloorDiv) Ed:=by
 rintro pins s σ H x y v u Q I rx ry ⟨μ,S,a,b,z,hs,ra,rb,hg,k⟩;unfold Ed at hg;split at hg;·split at hg;rename_i hc;cases hg;exact op_fdiv pins s σ H x y v u Q I rx ry ⟨_,_,cq ra,cq rb,hc,k μ H _ Ext.refl hs nZ⟩;·cases hg
 ·cases hg
def OU:tK
 |.v (.int i),.v (.int j),_=>if 0<=j/\j<=1000/\-18446744073709551616<i/\i<18446744073709551616 then some (.v (.int (i ^ j.toNat))) else none
 |_,_,_=>none
theorem M7:zv X T (binaryOp .Pow) OU:=by
 rintro pins s σ H x y v u Q I rx ry ⟨μ,S,a,b,z,hs,ra,rb,hg,k⟩;unfold OU at hg;split at hg;·split at hg;rename_i hc;cases hg;exact op_pow pins s σ H x y v u Q I rx ry ⟨_,_,cq ra,cq rb,⟨hc.1,by omega,by omega⟩,k μ H _ Ext.refl hs nZ⟩;·cases hg
 ·cases hg
def nC(b:Bool):A:=.v (.bl b)
theorem cO{b:Bool}:aH T μ H (nC b) (.bl b):=aaL
def CF:tK|.v (.int i),.v (.int j),_=>some (nC (decide (i<j)))|.v (.str x),.v (.str y),_=>some (nC (decide (x.cps.toList<y.cps.toList)))|_,_,_=>none
theorem vY:zv X T (compareOp .Lt) CF:=by rintro pins s σ H x y v u Q I rx ry ⟨μ,S,a,b,z,hs,ra,rb,hg,k⟩;unfold CF at hg;split at hg;cases hg;exact op_lt pins s σ H x y v u Q I rx ry ⟨_,_,cq ra,cq rb,k μ H _ Ext.refl hs cO⟩;cases hg;exact op_lt_str pins s σ H x y v u Q I rx ry ⟨_,_,g9 ra,g9 rb,k μ H _ Ext.refl hs cO⟩;·cases hg
def Xy:tK|.v (.int i),.v (.int j),_=>some (nC (decide (i<=j)))|_,_,_=>none
theorem HH:zv X T (compareOp .LtE) Xy:=by rintro pins s σ H x y v u Q I rx ry ⟨μ,S,a,b,z,hs,ra,rb,hg,k⟩;unfold Xy at hg;split at hg;cases hg;exact op_le pins s σ H x y v u Q I rx ry ⟨_,_,cq ra,cq rb,k μ H _ Ext.refl hs cO⟩;·cases hg
def JN:tK|.v (.int i),.v (.int j),_=>some (nC (decide (j<i)))|_,_,_=>none
theorem Ee:zv X T (compareOp .Gt) JN:=by rintro pins s σ H x y v u Q I rx ry ⟨μ,S,a,b,z,hs,ra,rb,hg,k⟩;unfold JN at hg;split at hg;cases hg;exact op_gt pins s σ H x y v u Q I rx ry ⟨_,_,cq ra,cq rb,k μ H _ Ext.refl hs cO⟩;·cases hg
def tq:tK|.v (.int i),.v (.int j),_=>some (nC (decide (j<=i)))|_,_,_=>none
theorem oa:zv X T (compareOp .GtE) tq:=by rintro pins s σ H x y v u Q I rx ry ⟨μ,S,a,b,z,hs,ra,rb,hg,k⟩;unfold tq at hg;split at hg;cases hg;exact op_ge pins s σ H x y v u Q I rx ry ⟨_,_,cq ra,cq rb,k μ H _ Ext.refl hs cO⟩;·cases hg
def We:D->D->Option Bool|.non,.non=>some true|.non,.int _=>some false|.int _,.non=>some false|.non,.bl _=>some false|.bl _,.non=>some false|.non,.str _=>some false|.str _,.non=>some false|.int i,.int j=>some (decide (i=j))|.bl i,.bl j=>some (decide (i=j))|.str i,.str j=>some (decide (i=j))|.int _,.str _=>some false|.str _,.int _=>some false|.bl _,.str _=>some false|.str _,.bl _=>some false|_,_=>none
def gEq:tK|.v x,.v y,_=>(We x y).map nC|_,_,_=>none
def gNe:tK|.v x,.v y,_=>(We x y).map λb=>nC (!b)|_,_,_=>none
theorem Gm{x y:D}{v w:V}{k:Bool}(h:We x y=some k)(rx:Rep T μ H x v)(ry:Rep T μ H y w):scal v w=true/\decide (v=w)=k:=by
 unfold We at h;split at h<;>first
  |(cases h;done)|(simp only[Rep]at rx ry;subst rx ry;cases h;exact⟨rfl,by simp⟩)
theorem Xz:zv X T (compareOp .Eq) gEq:=by
 rintro pins s σ H x y v u Q I rx ry ⟨μ,S,a,b,z,hs,ra,rb,hg,k⟩;unfold gEq at hg;split at hg;·rename_i d e;cases q:We d e with|none=>rw[q]at hg;cases hg|some c =>rw[q]at hg;cases hg;obtain⟨h1,h2⟩:=Gm q ra rb;refine op_eq pins s σ H x y v u Q I rx ry ⟨h1,?_⟩;rw[h2];exact k μ H _ Ext.refl hs cO
 ·cases hg
theorem XA:zv X T (compareOp .NotEq) gNe:=by
 rintro pins s σ H x y v u Q I rx ry ⟨μ,S,a,b,z,hs,ra,rb,hg,k⟩;unfold gNe at hg;split at hg;·rename_i d e;cases q:We d e with|none=>rw[q]at hg;cases hg|some c =>rw[q]at hg;cases hg;obtain⟨h1,h2⟩:=Gm q ra rb;refine op_ne pins s σ H x y v u Q I rx ry ⟨h1,?_⟩;rw[h2];exact k μ H _ Ext.refl hs cO
 ·cases hg
def isNon:A->Bool|.v .non=>true|_=>false
theorem CG{a:A}{v:V}(r:aH T μ H a v):decide (v=.non)=isNon a:=by
 cases a with
 |m n=>obtain⟨p,_,rfl⟩:=r;rfl
 |v d =>cases d<;>simp only[aH,Rep]at r;subst r;rfl;subst r;rfl;subst r;rfl;subst r;rfl;obtain⟨_,_,rfl,_⟩:=r;rfl;obtain⟨_,_,rfl,_⟩:=r;rfl;obtain⟨_,_,_,rfl,_⟩:=r;rfl;subst r;rfl;obtain⟨_,_,rfl,_⟩:=r;rfl;subst r;rfl;obtain⟨_,_,_,rfl,_⟩:=r;rfl;subst r;rfl;obtain⟨_,_,rfl,_⟩:=r;rfl;obtain⟨_,_,_,rfl,_⟩:=r;rfl;obtain⟨_,_,_,_,rfl,_⟩:=r;rfl;·obtain⟨_,rfl⟩:=r;rfl
def PL:tK|a,.v .non,_=>some (nC (isNon a))|_,_,_=>none
def rQ:tK|a,.v .non,_=>some (nC (!isNon a))|_,_,_=>none
theorem Ef:zv X T (compareOp .Is) PL:=by rintro pins s σ H x y v u Q I rx ry ⟨μ,S,a,b,z,hs,ra,rb,hg,k⟩;unfold PL at hg;split at hg;cases hg;refine op_isN pins s σ H x y v u Q I rx ry ⟨HF rb,?_⟩;rw[CG ra];exact k μ H _ Ext.refl hs cO;·cases hg
theorem OV:zv X T (compareOp .IsNot) rQ:=by rintro pins s σ H x y v u Q I rx ry ⟨μ,S,a,b,z,hs,ra,rb,hg,k⟩;unfold rQ at hg;split at hg;cases hg;refine op_notN pins s σ H x y v u Q I rx ry ⟨HF rb,?_⟩;rw[CG ra];exact k μ H _ Ext.refl hs cO;·cases hg
def mL:D->Bool|.non=>true|.bl _=>true|.int _=>true|.str _=>true|_=>false
def eqF:D->D->Bool|.non,.non=>true|.bl a,.bl b=>a == b|.bl a,.int b=>(if a then 1 else 0) == b|.int a,.bl b=>a == (if b then 1 else 0)|.int a,.int b=>a == b|.str a,.str b=>a == b|_,_=>false
def Tn(x:D)(xs:List D):Bool:=xs.any λy=>eqF y x
def pH:A->ag->Option (List D)
 |.v (.lst ds),_=>some ds|.v (.tup ds),_=>some ds|.v (.fz ds),_=>some ds|.m n,S=>match S[n]? with
  |some (.lst ds)=>some ds|_=>none
 |_,_=>none
theorem lZ{a:A}{v:V}{ds:List D}(hs:aI T μ H S)(r:aH T μ H a v)(e:pH a S=some ds):∃p vs,v=.ref p/\(SqL T.K H p vs\/SqT T.K H p vs)/\av T μ H ds vs:=by
 unfold pH at e;split at e;cases e;simp only[aH,Rep]at r;obtain⟨p,vs,e1,h,rl⟩:=r;exact⟨p,vs,e1,.inl h.sq,rl⟩;cases e;simp only[aH,Rep]at r;obtain⟨p,vs,e1,h,rl⟩:=r;exact⟨p,vs,e1,.inr h.sq,rl⟩;·cases e;simp only[aH,Rep]at r;obtain⟨p,vs,e1,h,rl⟩:=r;exact⟨p,vs,e1,.inl h.sq,rl⟩
 ·split at e;rename_i q;cases e;obtain⟨p,h1,h2⟩:=r;obtain⟨vs,h3,h4⟩:=hs.at_ _ _ _ h1 q;exact⟨p,vs,h2,.inl (SqL.of h3),h4⟩;·cases e
 ·cases e
theorem Eg{d:D}{v:V}(r:Rep T μ H d v)(h:mL d=true):flatV v=true:=by cases d<;>simp only[mL]at h<;>first|(cases h;done)|(simp only[Rep]at r;subst r;rfl)
theorem CH:∀{ds:List D}{vs:List V},av T μ H ds vs->ds.all mL=true->vs.all flatV=true|[],vs,r,_=>by simp only[av]at r;subst r;rfl|d::ds,vs,r,h=>by simp only[av]at r;obtain⟨v,ws,rfl,r1,r2⟩:=r;rw[List.all_cons,Bool.and_eq_true]at h ⊢;exact⟨Eg r1 h.1,CH r2 h.2⟩
theorem OW{d e:D}{v w:V}(r:Rep T μ H d v)(q:Rep T μ H e w)(h1:mL d=true)(h2:mL e=true):eqV v w=eqF d e:=by
 cases d<;>simp only[mL]at h1<;>first
  |(cases h1;done)
  | (cases e <;> simp only[mL] at h2 <;> first
    |(cases h2;done)|(simp only[Rep]at r q;subst r q;rfl))
theorem Gp{x:D}{v:V}(rx:Rep T μ H x v)(hx:mL x=true):∀{ds:List D}{vs:List V},av T μ H ds vs->ds.all mL=true->inV v vs=Tn x ds|[],vs,r,_=>by simp only[av]at r;subst r;rfl|d::ds,vs,r,h=>by simp only[av]at r;obtain⟨w,ws,rfl,r1,r2⟩:=r;rw[List.all_cons,Bool.and_eq_true]at h;have ih:=Gp rx hx r2 h.2;unfold inV Tn at ih ⊢;rw[List.any_cons,List.any_cons,ih,OW r1 rx h.1 hx]
def isSign(x:Str):Option Nat:=match x.cps.toList with
 |[c]=>some c|_=>none
theorem OX{x:Str}{c:Nat}(h:isSign x=some c):x=⟨#[c]⟩:=by
 unfold isSign at h;split at h;·rename_i q;cases h;cases x with|mk a =>congr;exact Array.ext' q
 ·cases h
def inG(neg:Bool):tK
 |.v (.str x),.v (.str y),_=>match isSign x with
  |some c=>some (nC (if neg then !decide (c∈y.cps.toList) else decide (c∈y.cps.toList)))|none=>none
 |.v x,b,S=>match pH b S with
  |some ds=>if mL x=true/\ds.all mL=true then some (nC (if neg then !Tn x ds else Tn x ds)) else none
  |none=>none
 |_,_,_=>none
abbrev Ly:tK:=inG false
abbrev XB:tK:=inG true
theorem XC(hK:X.K=T.K){op:CmpOp}{neg:Bool}(h1:OpR X (compareOp op) (λx y H Q=>∃(c:Nat) (z:Str),x=.str ⟨#[c]⟩/\y=.str z/\Q (.bl (if neg then !decide (c∈z.cps.toList) else decide (c∈z.cps.toList))) H))(h2:OpR X (compareOp op) (rIn X.K neg)) :zv X T (compareOp op) (inG neg):=by
 rintro pins s σ H x y v u Q I rx ry ⟨μ,S,a,b,z,hs,ra,rb,hg,k⟩;unfold inG at hg;split at hg;·split at hg;rename_i c q;cases hg;obtain rfl:=g9 ra;obtain rfl:=g9 rb;rw[OX q]at rx;exact h1 pins s σ H _ _ v u Q I rx ry ⟨_,_,rfl,rfl,k μ H _ Ext.refl hs cO⟩;·cases hg
 ·split at hg;·rename_i ds q;split at hg;rename_i hf;cases hg;obtain⟨p,vs,e1,hq,rl⟩:=lZ hs rb q;refine h2 pins s σ H x y v u Q I rx ry ⟨p,vs,e1,hK▸hq,Eg ra hf.1,CH rl hf.2,?_⟩;rw[Gp ra hf.1 rl hf.2];exact k μ H _ Ext.refl hs cO;·cases hg
  ·cases hg
 ·cases hg
theorem Eh(hK:X.K=T.K):zv X T (compareOp .In) Ly:=XC hK (λpins s σ H x y v u Q I rx ry ⟨c,z,e1,e2,q⟩=>op_in_sign pins s σ H x y v u Q I rx ry ⟨c,z,e1,e2,q⟩) op_in_seq
def jl:A->ag->Option A|.v (.int i),_=>some (.v (.int (-i)))|_,_=>none
theorem jt:UnD X T (unaryOp .USub) jl:=by rintro pins s σ H x v Q I rx ⟨μ,S,a,z,hs,ra,hg,k⟩;unfold jl at hg;split at hg;cases hg;exact un_neg pins s σ H x v Q I rx ⟨_,cq ra,k μ H _ Ext.refl hs nZ⟩;·cases hg
def uW:A->ag->Option Bool
 |.v .non,_=>some false|.v (.bl b),_=>some b|.v (.int i),_=>some (i != 0)|.v (.str y),_=>if y.length<=cE then some (!decide (y.length=0)) else none
 |.v (.tup xs),_=>some (!xs.isEmpty)|.v (.lst xs),_=>some (!xs.isEmpty)|.v (.fz xs),_=>some (!xs.isEmpty)|.m n,S=>match S[n]? with
  |some (.lst ds)=>some (!ds.isEmpty)|_=>none
 |_,_=>none
theorem tN{ds:List D}{vs:List V}(r:av T μ H ds vs):vs.isEmpty=ds.isEmpty:=by have:=r.length;cases ds<;>cases vs<;>simp_all
theorem vZ{a:A}{v:V}{k:Bool}(hs:aI T μ H S)(r:aH T μ H a v)(e:uW a S=some k):TruV T.K v H k:=by
 unfold uW at e;split at e;cases e;rw[HF r];rfl;cases e;rw[M4 r];rfl;·cases e;rw[cq r];rfl
 ·split at e;rename_i hl;cases e;rw[g9 r];refine⟨bS hl,?_⟩;rw[Bool.eq_iff_iff];simp;·cases e
 cases e;simp only[aH,Rep]at r;obtain⟨p,vs,rfl,h,rl⟩:=r;exact .inr (.inl ⟨vs,h.sq,by rw[tN rl]⟩);cases e;simp only[aH,Rep]at r;obtain⟨p,vs,rfl,h,rl⟩:=r;exact .inl ⟨vs,h.sq,by rw[tN rl]⟩;·cases e;simp only[aH,Rep]at r;obtain⟨p,vs,rfl,h,rl⟩:=r;exact .inl ⟨vs,h.sq,by rw[tN rl]⟩
 ·split at e;rename_i q;cases e;obtain⟨p,h1,rfl⟩:=r;obtain⟨vs,h3,h4⟩:=hs.at_ _ _ _ h1 q;exact .inl ⟨vs,SqL.of h3,by rw[tN h4]⟩;·cases e
 ·cases e
end
section
variable {X:Cx}{T:Tb}{W:XK}{e a b c:Expr}{rest:List Expr}{ma mb:EM}{pos:Pos}
def og(ma mb:EM):EM:=λρ S=>(ma ρ S).bind λx S1=>match uW x S1 with
 |some true=>mb ρ S1|some false=>.ok x S1|none=>.stk
def XD(ma mb:EM):EM:=λρ S=>(ma ρ S).bind λx S1=>match uW x S1 with
 |some true=>.ok x S1|some false=>mb ρ S1|none=>.stk
def TU(ma:EM):EM:=λρ S=>(ma ρ S).bind λx S1=>match uW x S1 with
 |some k=>.ok (nC (!k)) S1|none=>.stk
theorem kT{op:BoolOp}(h:ME X T W a ma):ME X T W (.BoolOp op [a] pos) ma:=pe_one h
theorem jM(hL:Lv X T W)(ha:ME X T W a ma)(hb:ME X T W (.BoolOp .And (b::rest) pos) mb):ME X T W (.BoolOp .And (a::b::rest) pos) (og ma mb):=b5 (pe_andT ha hb) λσ H Q ⟨μ,ρ,S,he,hs,h⟩=>by
 refine bL he hs h λx H1 μ1 S1 p ex he1 hs1 ra h1=>?_;cases q:uW p S1 with
 |none=>rw[q]at h1;exact h1.elim|some k=>
  rw[q]at h1;refine⟨k,hL.k▸vZ hs1 ra q,?_⟩;cases k with
  |true=>exact iteT ⟨μ1,ρ,S1,he1,hs1,h1⟩|false=>exact iteF (h1 μ1 H1 x Ext.refl hs1 ra)
theorem aaQ(hL:Lv X T W)(ha:ME X T W a ma)(hb:ME X T W (.BoolOp .Or (b::rest) pos) mb):ME X T W (.BoolOp .Or (a::b::rest) pos) (XD ma mb):=b5 (pe_orT ha hb) λσ H Q ⟨μ,ρ,S,he,hs,h⟩=>by
 refine bL he hs h λx H1 μ1 S1 p ex he1 hs1 ra h1=>?_;cases q:uW p S1 with
 |none=>rw[q]at h1;exact h1.elim|some k=>
  rw[q]at h1;refine⟨k,hL.k▸vZ hs1 ra q,?_⟩;cases k with
  |true=>exact iteT (h1 μ1 H1 x Ext.refl hs1 ra)|false=>exact iteF ⟨μ1,ρ,S1,he1,hs1,h1⟩
theorem XF(hL:Lv X T W)(ha:ME X T W a ma):ME X T W (.UnaryOp .Not a pos) (TU ma):=b5 (pe_notT ha) λσ H Q ⟨μ,ρ,S,he,hs,h⟩=>by
 refine bL he hs h λx H1 μ1 S1 p ex he1 hs1 ra h1=>?_;cases q:uW p S1 with
 |none=>rw[q]at h1;exact h1.elim|some k =>rw[q]at h1;exact⟨k,hL.k▸vZ hs1 ra q,h1 μ1 H1 _ Ext.refl hs1 cO⟩
def tE(m:EM):TM:=λρ S=>(m ρ S).bind λx S1=>.xm (uW x S1) S1
theorem mM(hL:Lv X T W)(ha:ME X T W a ma)(he:∀whole,isTrue a X.env whole=(do let v <-whole;standAt a.pos;holding [v] (truthy v)):=by intro _;rfl):MT X T W a (tE ma):=Hy (pt_truth ha he) λσ H Q ⟨μ,ρ,S,he,hs,h⟩=>by
 refine bL he hs h λx H1 μ1 S1 p ex he1 hs1 ra h1=>?_;cases q:uW p S1 with
 |none=>rw[q]at h1;exact h1.elim|some k =>rw[q]at h1;exact⟨k,hL.k▸vZ hs1 ra q,h1 μ1 H1 _ Ext.refl hs1 rfl⟩
theorem cu{op:CmpOp}{g:tK}(hL:Lv X T W)(ho:zv X T (compareOp op) g)(hg:∀x y S z,g x y S=some z->∃k,z=nC k)(ha:ME X T W a ma)(hb:ME X T W b mb)(hm:behindInMarks op b=false:=by first|exact nomark _|rfl|with_unfolding_all rfl) :MT X T W (.Compare a [op] [b] pos) (tE (aA g ma mb)):=Hy (pt_cmpR ho ha hb hm) λσ H Q ⟨μ,ρ,S,he,hs,h⟩=>by
 unfold tE aA at h;cases q1:ma ρ S with
 |stk=>rw[q1]at h;exact h.elim|err e1 S1=> 
  rw[q1]at h;exact⟨μ,ρ,S,he,hs,by rw[q1];exact h⟩
 |ok x S1 =>rw[q1]at h;refine⟨μ,ρ,S,he,hs,by
   rw[q1];intro μ1 H1 v ex hs1 ra;have h1:=oU.later ex h;refine⟨μ1,ρ,S1,he.mono ex,hs1,?_⟩;cases q2:mb ρ S1 with
   |stk=>simp only[R.ak,q2]at h1;exact h1.elim|err e1 S2 =>simp only[R.ak,q2]at h1;exact h1|ok y S2=>
    simp only[R.ak,q2]at h1;intro μ2 H2 w ex2 hs2 rb;have h2:=oU.later ex2 h1;cases q3:g x y S2 with
    |none=>simp only[R.ak,q3]at h2;exact h2.elim|some z =>obtain⟨k,rfl⟩:=hg _ _ _ _ q3;refine⟨μ2,S2,x,y,_,hs2,ra.mono ex2,rb,q3,λμ3 H3 u ex3 hs3 r3=>⟨k,M4 r3,?_⟩⟩;simp only[R.ak,q3]at h2;exact h2 μ3 H3 k ex3 hs3 rfl⟩
theorem zY:∀x y S z,CF x y S=some z->∃k,z=nC k:=λx y S z e=>by unfold CF at e;split at e<;>first|(cases e;exact⟨_,rfl⟩)|cases e
theorem Lz:∀x y S z,JN x y S=some z->∃k,z=nC k:=λx y S z e=>by unfold JN at e;split at e<;>first|(cases e;exact⟨_,rfl⟩)|cases e
theorem v5:∀x y S z,tq x y S=some z->∃k,z=nC k:=λx y S z e=>by unfold tq at e;split at e<;>first|(cases e;exact⟨_,rfl⟩)|cases e
theorem LA:∀x y S z,PL x y S=some z->∃k,z=nC k:=λx y S z e=>by unfold PL at e;split at e<;>first|(cases e;exact⟨_,rfl⟩)|cases e
theorem OY:∀x y S z,rQ x y S=some z->∃k,z=nC k:=λx y S z e=>by unfold rQ at e;split at e<;>first|(cases e;exact⟨_,rfl⟩)|cases e
theorem XG:∀x y S z,gEq x y S=some z->∃k,z=nC k:=λx y S z e=>by
 unfold gEq at e;split at e;·rename_i p q;cases h:We p q with|none=>rw[h]at e;cases e|some k=>rw[h]at e;cases e;exact⟨_,rfl⟩
 ·cases e
theorem XH:∀x y S z,gNe x y S=some z->∃k,z=nC k:=λx y S z e=>by
 unfold gNe at e;split at e;·rename_i p q;cases h:We p q with|none=>rw[h]at e;cases e|some k=>rw[h]at e;cases e;exact⟨_,rfl⟩
 ·cases e
def pI(m n:TM):TM:=λρ S=>(m ρ S).bind λk S1=>if k=true then n ρ S1 else .ok false S1
def uA(m n:TM):TM:=λρ S=>(m ρ S).bind λk S1=>if k=true then .ok true S1 else n ρ S1
def hV(m:TM):TM:=λρ S=>(m ρ S).bind λk S1=>.ok (!k) S1
variable {m n:TM}
theorem v7(h:MT X T W a m):MW X T W (.BoolOp .And [a] pos) m:=pw_and1 h
theorem uB(h:MT X T W a m):MW X T W (.BoolOp .Or [a] pos) m:=pw_or1 h
theorem zZ(h:MT X T W a m)(h':MW X T W (.BoolOp .And (b::rest) pos) n):MW X T W (.BoolOp .And (a::b::rest) pos) (pI m n):=Qr (pw_and h h') λσ H Q ⟨μ,ρ,S,he,hs,h⟩=>by
 refine AD he hs h λk H1 μ1 S1 ex he1 hs1 h1=>?_;cases k with
 |true=>exact iteT ⟨μ1,ρ,S1,he1,hs1,h1⟩|false=>exact iteF (h1 μ1 H1 _ Ext.refl hs1 rfl)
theorem w4(h:MT X T W a m)(h':MW X T W (.BoolOp .Or (b::rest) pos) n):MW X T W (.BoolOp .Or (a::b::rest) pos) (uA m n):=Qr (pw_or h h') λσ H Q ⟨μ,ρ,S,he,hs,h⟩=>by
 refine AD he hs h λk H1 μ1 S1 ex he1 hs1 h1=>?_;cases k with
 |true=>exact iteT (h1 μ1 H1 _ Ext.refl hs1 rfl)|false=>exact iteF ⟨μ1,ρ,S1,he1,hs1,h1⟩
theorem xF(h:MW X T W a m):MT X T W a m:=PW.pt h
theorem lS(h:MT X T W a m):MT X T W (.UnaryOp .Not a pos) (hV m):=Hy (pt_not h) λσ H Q ⟨μ,ρ,S,he,hs,h⟩=>by refine AD he hs h λk H1 μ1 S1 ex he1 hs1 h1=>?_;exact h1 μ1 H1 _ Ext.refl hs1 rfl
def xG(m:TM)(ma mb:EM):EM:=λρ S=>(m ρ S).bind λk S1=>if k=true then ma ρ S1 else mb ρ S1
theorem tO(hc:MT X T W c m)(ha:ME X T W a ma)(hb:ME X T W b mb):ME X T W (.IfExp c a b pos) (xG m ma mb):=b5 (pe_ifExp hc ha hb) λσ H Q ⟨μ,ρ,S,he,hs,h⟩=>by
 refine AD he hs h λk H1 μ1 S1 ex he1 hs1 h1=>?_;cases k with
 |true=>exact iteT ⟨μ1,ρ,S1,he1,hs1,h1⟩|false=>exact iteF ⟨μ1,ρ,S1,he1,hs1,h1⟩
end
abbrev e9:=List A->ag->Option A
def hW(X:Cx)(T:Tb)(f:Value)(g:e9):Prop:=
 CallR X f (λvs H Q=>∃μ S xs z,aI T μ H S/\cU T μ H xs vs/\g xs S=some z/\∀μ' H' v,Ext μ H μ' H'->aI T μ' H' S->aH T μ' H' z v->Q v H')
def au(g:e9)(r:AM):EM:=λρ S=>(r ρ S).bind λxs S1=>.xm (g xs S1) S1
section
variable {X:Cx}{T:Tb}{W:XK}{e a b c:Expr}{es:List Expr}{ma mb:EM}{r:AM}{pos p:Pos}{x:Str}{bid:String}
theorem Gq{g:e9}{rr:List V->Hp->VK->Prop}(hr:∀vs H Q,(∃μ S xs z,aI T μ H S/\cU T μ H xs vs/\g xs S=some z/\∀μ' H' v,Ext μ H μ' H'->aI T μ' H' S->aH T μ' H' z v->Q v H')->rr vs H Q) :∀σ H Q,rd T W (au g r) σ H Q->tCB rr (Tj T W r) σ H Q:=λσ H Q ⟨μ,ρ,S,he,hs,h⟩=>by refine gB he hs h λvs H1 μ1 S1 xs ex he1 hs1 rs h1=>?_;obtain⟨z,e,q⟩:=qY h1;exact hr _ _ _ ⟨μ1,S1,xs,z,hs1,rs,e,q⟩
theorem aF{g:e9}(hc:hW X T (.builtin bid) g)(hg:Gl X x)(hm:X.mg x=none)(hv:bootBuiltins x=some (.builtin bid))(ha:MA X T W (e::es) r)(hn:x ≠ "__name__" := by decide)(hdb:(x == ("__debug__" : Str))=false:=by decide)
  (he:starEach (e::es) X.env=(false,eval e X.env)::starEach es X.env:=by rfl) (hpl:(backTo pos (starEach es X.env)).any (·.1)=false:=by rfl):ME X T W (.Call (.Name x p) (e::es) [] pos) (au g r):=
 b5 (pe_callB hc hg hm hv ha hn hdb he hpl) (Gq λ_ _ _ h=>h)
theorem bO{g:e9}(hc:hW X T (.type bid) g)(hg:Gl X x)(hm:X.mg x=none)(hv:bootBuiltins x=some (.type bid))(ha:MA X T W (e::es) r)(hn:x ≠ "__name__" := by decide)(hdb:(x == ("__debug__" : Str))=false:=by decide)
  (he:starEach (e::es) X.env=(false,eval e X.env)::starEach es X.env:=by rfl) (hpl:(backTo pos (starEach es X.env)).any (·.1)=false:=by rfl):ME X T W (.Call (.Name x p) (e::es) [] pos) (au g r):=
 b5 (pe_callTy hc hg hm hv ha hn hdb he hpl) (Gq λ_ _ _ h=>h)
theorem gW{μ:List Addr}{H:Hp}{y:A}{vs:List V}(h:cU T μ H [y] vs):∃v,vs=[v]/\aH T μ H y v:=by obtain⟨v,ws,e,h1,h2⟩:=h;have h2':ws=[]:=h2;subst h2';exact⟨v,e,h1⟩
theorem Gr{μ:List Addr}{H:Hp}{y z:A}{vs:List V}(h:cU T μ H [y,z] vs):∃v w,vs=[v,w]/\aH T μ H y v/\aH T μ H z w:=by obtain⟨v,ws,e,h1,h2⟩:=h;obtain⟨w,rfl,h3⟩:=gW h2;exact⟨v,w,e,h1,h3⟩
def cj:e9
 |[.v (.str y)],_=>if y.length<=cE then some (.v (.int y.length)) else none
 |[y],S=>(pH y S).map λds=>.v (.int ds.length)|_,_=>none
theorem bu(hK:X.K=T.K):hW X T (.builtin "len") cj:=by
 rintro pins s σ H vs us Q I rr ⟨μ,S,xs,z,hs,rs,hg,k⟩;unfold cj at hg;split at hg;·split at hg;rename_i hl;cases hg;obtain⟨v,rfl,r1⟩:=gW rs;exact call_len pins s σ H _ us Q I rr ⟨_,_,rfl,by rw[g9 r1];exact⟨bS hl,rfl⟩,k μ H _ Ext.refl hs nZ⟩;·cases hg
 ·obtain⟨v,rfl,r1⟩:=gW rs;cases q:pH ‹A› S with|none=>rw[q]at hg;cases hg|some ds =>rw[q]at hg;cases hg;obtain⟨pp,ws,rfl,hq,rl⟩:=lZ hs r1 q;refine call_len pins s σ H _ us Q I rr ⟨_,ds.length,rfl,?_,k μ H _ Ext.refl hs nZ⟩;rw[hK,<-rl.length];rcases hq with hq|hq;exact .inl ⟨_,hq,rfl⟩;·exact .inr ⟨_,hq,rfl⟩
 ·cases hg
def k8:List D->Option (List Bool)|[]=>some []|.bl b::r=>(k8 r).map (b::·)|_::_=>none
theorem z5{μ:List Addr}{H:Hp}:∀{ds:List D}{bs:List Bool}{vs:List V},k8 ds=some bs->av T μ H ds vs->vs=bs.map V.bl
 |[],bs,vs,e,r=>by simp only[k8,Option.some.injEq]at e;subst e;simp only[av]at r;rw[r];rfl|d::ds,bs,vs,e,r=>by
  cases d with
  |bl b=>
   simp only[av,Rep]at r;obtain⟨v,ws,rfl,rfl,r2⟩:=r;cases q:k8 ds with
   |none=>simp[k8,q]at e|some cs =>simp only[k8,q,Option.map_some,Option.some.injEq]at e;subst e;rw[z5 q r2];rfl
  |non=>simp[k8]at e|int _=>simp[k8]at e|str _=>simp[k8]at e|tup _=>simp[k8]at e|lst _=>simp[k8]at e|obj _ _=>simp[k8]at e|cls _=>simp[k8]at e|fz _=>simp[k8]at e|ty _=>simp[k8]at e|fn _=>simp[k8]at e|adr _=>simp[k8]at e|ptr _=>simp[k8]at e|gX _ _=>simp[k8]at e|exc _ _=>simp[k8]at e|yD _ _=>simp[k8]at e
def xH:e9|[.v (.lst ds)],_=>(k8 ds).map λbs=>nC (bs.all id)|_,_=>none
def Qt:e9|[.v (.lst ds)],_=>(k8 ds).map λbs=>nC (bs.any id)|_,_=>none
theorem ki(hK:X.K=T.K)(hc:X.calm=true):hW X T (.builtin "all") xH:=by
 rintro pins s σ H vs us Q I rr ⟨μ,S,xs,z,hs,rs,hg,k⟩;unfold xH at hg;split at hg;·rename_i ds;obtain⟨v,rfl,r1⟩:=gW rs;cases q:k8 ds with|none=>rw[q]at hg;cases hg|some bs =>rw[q]at hg;cases hg;simp only[aH,Rep]at r1;obtain⟨pp,ws,rfl,h,rl⟩:=r1;exact cr_all hc pins s σ H _ us Q I rr ⟨pp,bs,rfl,by rw[<-z5 q rl];exact h.sq,k μ H _ Ext.refl hs cO⟩
 ·cases hg
theorem OZ(hK:X.K=T.K)(hc:X.calm=true):hW X T (.builtin "any") Qt:=by
 rintro pins s σ H vs us Q I rr ⟨μ,S,xs,z,hs,rs,hg,k⟩;unfold Qt at hg;split at hg;·rename_i ds;obtain⟨v,rfl,r1⟩:=gW rs;cases q:k8 ds with|none=>rw[q]at hg;cases hg|some bs =>rw[q]at hg;cases hg;simp only[aH,Rep]at r1;obtain⟨pp,ws,rfl,h,rl⟩:=r1;exact cr_any hc pins s σ H _ us Q I rr ⟨pp,bs,rfl,by rw[<-z5 q rl];exact h.sq,k μ H _ Ext.refl hs cO⟩
 ·cases hg
def pJ:e9
 |[.v (.int i)],_=>some (.v (.int i))|[.v (.bl k)],_=>some (.v (.int (if k then 1 else 0)))|[.v (.str y)],_=>if y.length<=640 then(PySem.intText? y).map λn=>.v (.int n) else none
 |_,_=>none
theorem ia:hW X T (.type "int") pJ:=by
 rintro pins s σ H vs us Q I rr ⟨μ,S,xs,z,hs,rs,hg,k⟩;unfold pJ at hg;split at hg;cases hg;obtain⟨v,rfl,r1⟩:=gW rs;exact call_int1 pins s σ H _ us Q I rr (.inl ⟨_,by rw[cq r1],k μ H _ Ext.refl hs nZ⟩);·cases hg;obtain⟨v,rfl,r1⟩:=gW rs;exact call_int1 pins s σ H _ us Q I rr (.inr ⟨_,by rw[M4 r1],k μ H _ Ext.refl hs nZ⟩)
 ·rename_i y;obtain⟨v,rfl,r1⟩:=gW rs;split at hg;·rename_i hl;cases q:PySem.intText? y with|none=>rw[q]at hg;cases hg|some n =>rw[q]at hg;cases hg;exact call_int_str pins s σ H _ us Q I rr ⟨_,_,by rw[g9 r1],q,hl,k μ H _ Ext.refl hs nZ⟩
  ·cases hg
 ·cases hg
def adC:e9
 |[.v (.int i)],_=>if i.natAbs.log2<1920 then some (.v (.str (toString i))) else none
 |_,_=>none
def BM:e9|[y],S=>(pH y S).map λds=>.v (.lst ds)|_,_=>none
theorem JO(hK:X.K=T.K):hW X T (.type "list") BM:=by
 rintro pins s σ H vs us Q I rr ⟨μ,S,xs,z,hs,rs,hg,k⟩;unfold BM at hg;split at hg;·obtain⟨v,rfl,r1⟩:=gW rs;cases q:pH ‹A› S with|none=>rw[q]at hg;cases hg|some ds =>rw[q]at hg;cases hg;obtain⟨pp,ws,rfl,hq,rl⟩:=lZ hs r1 q;refine call_list_of pins s σ H _ us Q I rr ⟨pp,ws,rfl,hK▸hq,λl hl=>?_⟩;obtain⟨x1,x2,x3⟩:=rP hs rl hl;exact k _ _ _ x1 x2 x3
 ·cases hg
def tyN:D->Option String|.non=>some "NoneType"|.bl _=>some "bool"|.int _=>some "int"|.str _=>some "str"|.tup _=>some "tuple"|.lst _=>some "list"|.fz _=>some "list"|_=>none
theorem O1{μ:List Addr}{H:Hp}{d:D}{v:V}{n:String}(r:Rep T μ H d v)(e:tyN d=some n):TyX T.K H v (.type n):=by
 cases d<;>simp only[tyN,Option.some.injEq,reduceCtorEq]at e<;>simp only[Rep]at r;subst e r;exact .base .non;subst e r;exact .base (.bl _);subst e r;exact .base (.int _);·subst e r;exact .base (.str _)
 ·obtain⟨p,vs,rfl,h,_⟩:=r;subst e;rcases h with ⟨_,h|⟨o,h⟩⟩|⟨o,its,nn,h1,h2,_⟩
  exact .base (.tup h);exact .fTuple h;·exact .kTuple h1 h2
 ·obtain⟨p,vs,rfl,h,_⟩:=r;subst e;exact .base (.lst h.2)
 ·obtain⟨p,vs,rfl,h,_⟩:=r;subst e;rcases h with ⟨_,h|⟨o,h⟩⟩|⟨o,its,nn,h1,h2,_⟩
  exact .base (.lst h);exact .base (.frz h);·exact .kList h1 h2
def zw(a:A)(S:ag):Option String:=match a with
 |.v d=>tyN d|.m n=>match S[n]? with
  |some (.lst _)=>some "list"|_=>none
theorem yY{μ:List Addr}{H:Hp}{S:ag}{a:A}{v:V}{n:String}(hs:aI T μ H S)(r:aH T μ H a v)(e:zw a S=some n):TyX T.K H v (.type n):=by
 cases a with
 |v d=>exact O1 r e|m i =>unfold zw at e;simp only at e;split at e;rename_i q;cases e;obtain⟨p,h1,rfl⟩:=r;obtain⟨vs,h3,h4⟩:=hs.at_ _ _ _ h1 q;exact .base (.lst h3);·cases e
def isB:String->String->Option Bool
 | "NoneType",n=>if n∈["int", "bool", "str", "list", "tuple"]then some false else none
 | "bool",n=>if n∈["bool", "int"]then some true else if n∈["str", "list", "tuple"]then some false else none
 | "int",n=>if n = "int" then some true else if n∈["bool", "str", "list", "tuple"]then some false else none
 | "str",n=>if n = "str" then some true else if n∈["bool", "int", "list", "tuple"]then some false else none
 | "tuple",n=>if n = "tuple" then some true else if n∈["bool", "int", "list", "str"]then some false else none
 | "list",n=>if n = "list" then some true else if n∈["bool", "int", "tuple", "str"]then some false else none
 |_,_=>none
theorem Gu{K:PySem.W.Frag}{a n:String}{k:Bool}(h:isB a n=some k):PySem.W.kitOne K (.type a) (.type n)=some k:=by
 have key:∀a∈["NoneType", "bool", "int", "str", "tuple", "list"],∀n∈["int", "bool", "str", "list", "tuple"],kitB a n=isB a n:=by decide +kernel
 refine kit_ty ?_;have ha:a∈["NoneType", "bool", "int", "str", "tuple", "list"]:=by unfold isB at h;split at h<;>first|(cases h;done)|decide
 have hn:n∈["int", "bool", "str", "list", "tuple"]:=by
  unfold isB at h;split at h<;>first
   |(cases h;done)
   | (split at h
      · rename_i q;simp only[List.mem_cons,List.not_mem_nil,or_false]at q ⊢;first|(rcases q with q|q|q|q|q<;>simp[q])|(rcases q with q|q<;>simp[q])|simp[q]
      · first
        |(cases h;done)
        | (split at h
           · rename_i q;simp only[List.mem_cons,List.not_mem_nil,or_false]at q ⊢;first|(rcases q with q|q|q|q<;>simp[q])|(rcases q with q|q|q<;>simp[q])
           · cases h))
 rw[key a ha n hn];exact h
def dN:e9|[x,.v (.ty n)],S=>((zw x S).bind λt=>isB t n).map nC|_,_=>none
theorem df(hK:X.K=T.K):hW X T (.builtin "isinstance") dN:=by
 rintro pins s σ H vs us Q I rr ⟨μ,S,xs,z,hs,rs,hg,k⟩;unfold dN at hg;split at hg
 ·rename_i x n;obtain⟨v,w,rfl,r1,r2⟩:=Gr rs;cases q:zw x S with
  |none=>rw[q]at hg;cases hg|some t=>
   rw[q]at hg;simp only[Option.bind_some]at hg;cases q2:isB t n with
   |none=>rw[q2]at hg;cases hg|some b =>rw[q2]at hg;cases hg;have e2:w=.ty n:=(by simpa only[aH,Rep]using r2);subst e2;exact call_isi pins s σ H _ us Q I rr ⟨v,.ty n,_,_,b,rfl,.ty n,hK▸yY hs r1 q,Gu q2,k μ H _ Ext.refl hs cO⟩
 ·cases hg
def isAny(t:String):List String->Option Bool|[]=>some false|n::ns=>(isB t n).bind λk=>(isAny t ns).map λl=>k||l
def M8(ns:List String)(ma:EM):EM:=λρ S=>(ma ρ S).bind λx S1=>.xm (((zw x S1).bind λt=>isAny t ns).map nC) S1
theorem CI{K:PySem.W.Frag}{t:String}:∀{ns:List String}{k:Bool},isAny t ns=some k->PySem.W.kitAny K (.type t) (ns.map Value.type)=some k
 |[],k,h=>by simp only[isAny,Option.some.injEq]at h;subst h;rfl|n::ns,k,h=>by
  unfold isAny at h;cases q:isB t n with
  |none=>rw[q]at h;cases h|some b=>
   rw[q]at h;simp only[Option.bind_some]at h;cases q2:isAny t ns with
   |none=>rw[q2]at h;cases h|some l =>rw[q2]at h;simp only[Option.map_some,Option.some.injEq]at h;subst h;refine kitAny_cons (Gu q) (λe=>?_) (λe=>by rw[e];rfl);rw[e,Bool.false_or];exact CI q2
def Qu(X:Cx):List Expr->List String->Prop|[],ns=>ns=[]|e::es,ns=>∃n ms,ns=n::ms/\PE X e (tC (.ty n))/\starEach (e::es) X.env=(false,eval e X.env)::starEach es X.env/\Qu X es ms
def adD(ns:List String):TA:=λσ H Q=>Q (ns.map V.ty) H
theorem Qv:∀{es:List Expr}{ns:List String},Qu X es ns->PA X es (adD ns)|[],ns,h=>by have e:ns=[]:=h;subst e;exact pa_nil|e::es,ns,h=>by obtain⟨n,ms,rfl,h1,h2,h3⟩:=h;exact Lu (pa_cons h1 (Qv h3) h2) λσ H Q h=>h
theorem JP:∀ns:List String,Paired ClsV (ns.map V.ty) (ns.map Value.type)|[]=>.nil|n::ns=>.cons (.ty n) (JP ns)
theorem M9{ns:List String}{x1:Nat}{tp:Pos}(hK:X.K=T.K)(hg:Gl X "isinstance")(hm:X.mg "isinstance" = none)(ha:ME X T W a ma)(ht:Qu X es ns)(hns:ns.length<=10)
  (he:starEach [a,.Tuple es x1 tp] X.env=(false,eval a X.env)::starEach [.Tuple es x1 tp] X.env:=by rfl) (he2:starEach [.Tuple es x1 tp] X.env=(false,eval (.Tuple es x1 tp) X.env)::starEach [] X.env:=by rfl) (hpl:(backTo pos (starEach [.Tuple es x1 tp] X.env)).any (·.1)=false:=by rfl) :
  ME X T W (.Call (.Name "isinstance" p) [a,.Tuple es x1 tp] [] pos) (M8 ns ma):=
 b5 (pe_callB call_isiT hg hm (by decide +kernel) (pa_cons ha (pa_cons (pe_tup (Qv ht)) pa_nil he2) he) (by decide) (by decide) he hpl) λσ H Q ⟨μ,ρ,S,he,hs,h⟩=>by
  refine bL he hs h λv H1 μ1 S1 y ex he1 hs1 ra h1=>?_;obtain⟨z,e,q⟩:=qY h1;refine⟨by rw[List.length_map];exact DA (by omega),λp' hp=>?_⟩;cases q1:zw y S1 with
  |none=>rw[q1]at e;cases e|some t=>
   rw[q1]at e;simp only[Option.bind_some]at e;cases q2:isAny t ns with
   |none=>rw[q2]at e;cases e|some b =>rw[q2]at e;cases e;have sm:Same H1 (upd H1 p' (.tup (ns.map V.ty))):=fD hp;have ex2:Ext μ1 H1 μ1 (upd H1 p' (.tup (ns.map V.ty))):=hs1.ext sm;exact⟨v,p',_,_,_,b,rfl,upd_same,JP ns,hK▸yY (hs1.grow sm) (ra.mono ex2) q1,CI q2,q _ _ _ ex2 (hs1.grow sm) cO⟩
def b6:tK
 |.v (.str y),.v (.int i),_=>if y.length<=cE then(atI y.cps.toList i).map λc=>.v (.str ⟨#[c]⟩) else none
 |x,.v (.int i),S=>(pH x S).bind λds=>(atI ds i).map A.v|_,_,_=>none
theorem TV{μ:List Addr}{H:Hp}{ds:List D}{vs:List V}{i:Int}{d:D}(r:av T μ H ds vs)(h:atI ds i=some d):∃v,atI vs i=some v/\Rep T μ H d v:=by
 unfold atI at h ⊢;rw[r.length];cases q:ixN ds.length i with
 |none=>rw[q]at h;cases h|some j =>rw[q]at h;exact r.get h
theorem aZ(hK:X.K=T.K)(ha:ME X T W a ma)(hb:ME X T W b mb)(hs:PlainIx b:=by exactλ_ _=>rfl):ME X T W (.Subscript a b pos) (aA b6 ma mb):=
 b5 (pe_ix (IxR.or ix_str (IxR.or ix_list ix_tup)) ha hb hs) (Lx λx y H Q ⟨μ,S,p,q,z,hs,ra,rb,hg,k⟩=>by
  unfold b6 at hg;split at hg
  ·rename_i yy i;split at hg;·rename_i hl;cases e:atI yy.cps.toList i with|none=>rw[e]at hg;cases hg|some c =>rw[e]at hg;cases hg;exact .inl ⟨yy,i,c,g9 ra,cq rb,bS hl,e,k μ H _ Ext.refl hs Ec⟩
   ·cases hg
  ·rename_i i hne;cases e:pH p S with
   |none=>rw[e]at hg;cases hg|some ds=>
    rw[e]at hg;simp only[Option.bind_some]at hg;cases e2:atI ds i with
    |none=>rw[e2]at hg;cases hg|some d =>rw[e2]at hg;cases hg;obtain⟨pp,ws,h1,hq,rl⟩:=lZ hs ra e;obtain⟨w,h2,rw'⟩:=TV rl e2;have kk:=k μ H w Ext.refl hs rw';rcases hq with hq|hq;exact .inr (.inl ⟨pp,ws,i,w,h1,cq rb,hK▸hq,h2,kk⟩);·exact .inr (.inr ⟨pp,ws,i,w,h1,cq rb,hK▸hq,h2,kk⟩)
  ·cases hg)
abbrev OM:=Env->ag->R (Option Int)
def CJ:OM:=λ_ S=>.ok none S
def CK(m:EM):OM:=λρ S=>(m ρ S).bind λx S1=>match x with
 |.v (.int i)=>.ok (some i) S1|_=>.stk
abbrev rdO(T:Tb)(W:XK)(m:OM):TO:=λσ H Q=>∃μ ρ S,dw T μ H ρ σ/\aI T μ H S/\oU T (λ_ _ a b=>a=b) μ H Q W (m ρ S)
abbrev MOo(X:Cx)(T:Tb)(W:XK)(e:Option Expr)(m:OM):Prop:=PO X e (rdO T W m)
theorem Qw{eo:Option Expr}{t t':TO}(h:PO X eo t)(k:∀σ H Q,t' σ H Q->t σ H Q):PO X eo t':=⟨λpins s σ H Q I q=>h.run pins s σ H Q I (k σ H Q q)⟩
theorem DB:MOo X T W none CJ:=Qw po_none λσ H Q ⟨μ,ρ,S,he,hs,h⟩=>h μ H none Ext.refl hs rfl
theorem DC(ha:ME X T W a ma):MOo X T W (some a) (CK ma):=Qw (po_some ha) λσ H Q ⟨μ,ρ,S,he,hs,h⟩=>by refine bL he hs h λv H1 μ1 S1 y ex he1 hs1 ra h1=>?_;split at h1;exact⟨_,cq ra,h1 μ1 H1 _ Ext.refl hs1 rfl⟩;·exact h1.elim
theorem JQ{m:OM}{σ:L2.St}{H:Hp}{μ:List Addr}{ρ:Env}{S:ag}{γ δ:Type}{Rq:List Addr->Hp->γ->δ->Prop}{Q:Option Int->Hp->Prop}{Q':δ->Hp->Prop}{k:Option Int->ag->R γ}(he:dw T μ H ρ σ)(hs:aI T μ H S)(h:oU T Rq μ H Q' W ((m ρ S).bind k))
  (q:∀b H1 μ1 S1,Ext μ H μ1 H1->dw T μ1 H1 ρ σ->aI T μ1 H1 S1->oU T Rq μ1 H1 Q' W (k b S1)->Q b H1):rdO T W m σ H Q:=
 ⟨μ,ρ,S,he,hs,(oU.split (Rp:=λ_ _ a b=>a=b) h).imp λv H1 ⟨μ1,S1,x,ex,hs1,r,h1⟩=>q v H1 μ1 S1 ex (he.mono ex) hs1 (r▸h1)⟩
def cutD(xs:List D)(lo hi:Option Int):List D:=(xs.drop (HT.sIx xs.length 0 lo)).take (HT.sIx xs.length xs.length hi-HT.sIx xs.length 0 lo)
def XI(x:A)(lo hi:Option Int)(S:ag):Option A:=match x with
 |.v (.str y)=>if y.length<=cE then some (.v (.str (cutS y lo hi))) else none
 |.v (.lst ds)=>some (.v (.lst (cutD ds lo hi)))|.v (.fz ds)=>some (.v (.lst (cutD ds lo hi)))|.v (.tup ds)=>if (cutD ds lo hi).length<ds.length then some (.v (.tup (cutD ds lo hi))) else none
 |.m n=>match S[n]? with
  |some (.lst ds)=>some (.v (.lst (cutD ds lo hi)))|_=>none
 |_=>none
def Wf(ma:EM)(lo hi:OM):EM:=λρ S=>(ma ρ S).bind λx S1=>(lo ρ S1).bind λl S2=>(hi ρ S2).bind λh S3=>.xm (XI x l h S3) S3
theorem DD{μ:List Addr}{H:Hp}{ds:List D}{vs:List V}(r:av T μ H ds vs)(lo hi:Option Int):av T μ H (cutD ds lo hi) (cutV vs lo hi):=by
 unfold cutD cutV;rw[r.length];have hd:∀(n:Nat){ds:List D}{vs:List V},av T μ H ds vs->av T μ H (ds.drop n) (vs.drop n):=by
  intro n;induction n with
  |zero=>intro ds vs r;exact r
  |succ n ih=>
   intro ds vs r;cases ds with
   |nil=>simp only[av]at r;subst r;simp only[List.drop_nil,av]|cons d ds =>simp only[av]at r;obtain⟨v,ws,rfl,_,r2⟩:=r;exact ih r2
 have ht:∀(n:Nat){ds:List D}{vs:List V},av T μ H ds vs->av T μ H (ds.take n) (vs.take n):=by
  intro n;induction n with
  |zero=>intro ds vs r;simp only[List.take_zero,av]
  |succ n ih=>
   intro ds vs r;cases ds with
   |nil=>simp only[av]at r;subst r;simp only[List.take_nil,av]|cons d ds =>simp only[av]at r;obtain⟨v,ws,rfl,r1,r2⟩:=r;simp only[List.take_succ_cons,av];exact⟨v,_,rfl,r1,ih r2⟩
 exact ht _ (hd _ r)
theorem SlR.or{r r':V->Option Int->Option Int->Hp->VK->Prop}(h:SlR X r)(h':SlR X r'):SlR X (λx lo hi H Q=>r x lo hi H Q\/r' x lo hi H Q):=by intro pins s σ H x v vl vu lo hi sl Q I rx hs pl pu q;rcases q with q|q;exact h pins s σ H x v vl vu lo hi sl Q I rx hs pl pu q;·exact h' pins s σ H x v vl vu lo hi sl Q I rx hs pl pu q
theorem AE{lo hi:Option Expr}{p2:Pos}{ml mh:OM}(hK:X.K=T.K)(ha:ME X T W a ma)(hl:MOo X T W lo ml)(hh:MOo X T W hi mh):ME X T W (.Subscript a (.Slice lo hi none p2) pos) (Wf ma ml mh):=
 b5 (pe_slice (SlR.or sl_str (SlR.or sl_list sl_tup)) ha hl hh) λσ H Q ⟨μ,ρ,S,he,hs,h⟩=>by
  refine bL he hs h λv H1 μ1 S1 y ex he1 hs1 ra h1=>?_;refine JQ he1 hs1 h1 λl H2 μ2 S2 ex2 he2 hs2 h2=>?_;refine JQ he2 hs2 h2 λu H3 μ3 S3 ex3 he3 hs3 h3=>?_;obtain⟨z,e,q⟩:=qY h3;have ra3:=(ra.mono ex2).mono ex3;unfold XI at e;split at e;·split at e;rename_i hl;cases e;exact .inl ⟨_,g9 ra3,bS hl,q μ3 H3 _ Ext.refl hs3 Ec⟩;·cases e
  cases e;simp only[aH,Rep]at ra3;obtain⟨pp,ws,e1,h,rl⟩:=ra3;refine .inr (.inl ⟨pp,ws,e1,h.sq,λl' hp=>?_⟩);obtain⟨x1,x2,x3⟩:=rP hs3 (DD rl _ _) hp;exact q _ _ _ x1 x2 x3;·cases e;simp only[aH,Rep]at ra3;obtain⟨pp,ws,e1,h,rl⟩:=ra3;refine .inr (.inl ⟨pp,ws,e1,hK▸h.sq,λl' hp=>?_⟩);obtain⟨x1,x2,x3⟩:=rP hs3 (DD rl _ _) hp;exact q _ _ _ x1 x2 x3
  ·split at e;·rename_i hlt;cases e;simp only[aH,Rep]at ra3;obtain⟨pp,ws,e1,h,rl⟩:=ra3;have cr:=DD rl l u;refine .inr (.inr ⟨pp,ws,e1,hK▸h.sq,?_,λl' hp=>?_⟩);rintro⟨z1,z2⟩;rw[rl.length]at z1 z2;unfold cutD at hlt;rw[z1,z2]at hlt;simp at hlt;·obtain⟨x1,x2,x3⟩:=HB hs3 cr hp;exact q _ _ _ x1 x2 x3
   ·cases e
  ·split at e;rename_i qq;cases e;obtain⟨pp,h1',rfl⟩:=ra3;obtain⟨ws,h3',h4⟩:=hs3.at_ _ _ _ h1' qq;refine .inr (.inl ⟨pp,ws,rfl,SqL.of h3',λl' hp=>?_⟩);obtain⟨x1,x2,x3⟩:=rP hs3 (DD h4 _ _) hp;exact q _ _ _ x1 x2 x3;·cases e
  ·cases e
end
def rdS(T:Tb)(W:XK)(m:SM):TS:=λD σ H=>∃μ ρ S,dw T μ H ρ σ/\aI T μ H S/\mB T μ H D W (m ρ S)
abbrev MS(X:Cx)(T:Tb)(W:XK)(st:Stmt)(m:SM):Prop:=PS X st (rdS T W m)
abbrev MB(X:Cx)(T:Tb)(W:XK)(st:List Stmt)(m:SM):Prop:=PSs X st (rdS T W m)
theorem mN{X:Cx}{st:Stmt}{t t':TS}(h:PS X st t)(k:∀D σ H,t' D σ H->t D σ H):PS X st t':=⟨λpins s σ H D I q=>h.run pins s σ H D I (k D σ H q)⟩
theorem mO{X:Cx}{st:List Stmt}{t t':TS}(h:PSs X st t)(k:∀D σ H,t' D σ H->t D σ H):PSs X st t':=⟨λpins s σ H D I q=>h.run pins s σ H D I (k D σ H q)⟩
@[simp] theorem SR.of_ok{a:A}{S:ag}{k:A->ag->SR}:SR.of (.ok a S) k=k a S:=rfl
@[simp] theorem SR.aex{e:Er}{S:ag}{k:A->ag->SR}:SR.of (.err e S) k=.er e S:=rfl
@[simp] theorem SR.aey{k:A->ag->SR}:SR.of .stk k=.stk:=rfl
def SR.ofT(r:R Bool)(k:Bool->ag->SR):SR:=match r with
 |.ok a S=>k a S|.err e S=>.er e S|.stk=>.stk
@[simp] theorem SR.Jt{a:Bool}{S:ag}{k:Bool->ag->SR}:SR.ofT (.ok a S) k=k a S:=rfl
@[simp] theorem SR.adj{e:Er}{S:ag}{k:Bool->ag->SR}:SR.ofT (.err e S) k=.er e S:=rfl
@[simp] theorem SR.adk{k:Bool->ag->SR}:SR.ofT .stk k=.stk:=rfl
section
variable {X:Cx}{T:Tb}{W:XK}{e a b c:Expr}{es:List Expr}{st:Stmt}{sts:List Stmt}{ma:EM}{r:AM}{m n:SM}{t:TM}{pos p:Pos}
theorem uX{σ:L2.St}{H:Hp}{μ:List Addr}{ρ:Env}{S:ag}{D:Ends}{Q:V->Hp->Prop}{k:A->ag->SR}(he:dw T μ H ρ σ)(hs:aI T μ H S)(h:mB T μ H D W (SR.of (ma ρ S) k))
  (q:∀v H1 μ1 S1 x,Ext μ H μ1 H1->dw T μ1 H1 ρ σ->aI T μ1 H1 S1->aH T μ1 H1 x v->mB T μ1 H1 D W (k x S1)->Q v H1):rd T W ma σ H Q:=by
 refine⟨μ,ρ,S,he,hs,?_⟩;cases e:ma ρ S with
 |ok x S1 =>rw[e]at h;exactλμ1 H1 v ex hs1 r=>q v H1 μ1 S1 x ex (he.mono ex) hs1 r (mB.later ex h)|err e S1=>rw[e]at h;exact h|stk=>rw[e]at h;exact h
theorem Wg{σ:L2.St}{H:Hp}{μ:List Addr}{ρ:Env}{S:ag}{D:Ends}{Q:Bool->Hp->Prop}{k:Bool->ag->SR}(he:dw T μ H ρ σ)(hs:aI T μ H S)(h:mB T μ H D W (SR.ofT (t ρ S) k))
  (q:∀b H1 μ1 S1,Ext μ H μ1 H1->dw T μ1 H1 ρ σ->aI T μ1 H1 S1->mB T μ1 H1 D W (k b S1)->Q b H1):Ti T W t σ H Q:=by
 refine⟨μ,ρ,S,he,hs,?_⟩;cases e:t ρ S with
 |ok x S1 =>rw[e]at h;exactλμ1 H1 v ex hs1 r=>r▸q x H1 μ1 S1 ex (he.mono ex) hs1 (mB.later ex h)|err e S1=>rw[e]at h;exact h|stk=>rw[e]at h;exact h
def iR:SM:=λρ S=>.nx ρ S
def aG(m n:SM):SM:=λρ S=>match m ρ S with
 |.nx ρ' S'=>n ρ' S'|.rt a S'=>.rt a S'|.bk ρ' S'=>.bk ρ' S'|.ct ρ' S'=>.ct ρ' S'|.er e S'=>.er e S'|.stk=>.stk
theorem eA:MB X T W [] iR:=mO pss_nil λD σ H ⟨μ,ρ,S,he,hs,h⟩=>h μ H σ Ext.refl hs he
theorem aw(h1:MS X T W st m)(h2:MB X T W sts n):MB X T W (st::sts) (aG m n):=mO (pss_cons h1 h2) λD σ H ⟨μ,ρ,S,he,hs,h⟩=>by
 refine⟨μ,ρ,S,he,hs,?_⟩;unfold aG at h;cases q:m ρ S with
 |nx ρ' S' =>rw[q]at h;exactλμ' H' σ' ex hs' he'=>⟨μ',ρ',S',he',hs',mB.later ex h⟩|rt a S'=>rw[q]at h;exact h|bk ρ' S'=>rw[q]at h;exact h|ct ρ' S'=>rw[q]at h;exact h|er e S'=>rw[q]at h;exact h|stk=>rw[q]at h;exact h
theorem aB(h1:MS X T W st m):MB X T W [st] m:=pss_one h1
def aaS:SM:=λρ S=>.nx ρ S
def sBk:SM:=λρ S=>.bk ρ S
def sCt:SM:=λρ S=>.ct ρ S
def ju(ma:EM):SM:=λρ S=>SR.of (ma ρ S) λ_ S1=>.nx ρ S1
theorem tP(ha:ME X T W a ma)(hs:swapsWith a none pos.line X.env=pure false:=by rfl):MS X T W (.Expr a pos) (ju ma):=mN (ps_expr ha hs) λD σ H ⟨μ,ρ,S,he,hs,h⟩=>
 uX he hs h λv H1 μ1 S1 x ex he1 hs1 r h1=>h1 μ1 H1 σ Ext.refl hs1 he1
def ck(ma:EM):SM:=λρ S=>SR.of (ma ρ S) λx S1=>.rt x S1
theorem aP(ha:ME X T W a ma):MS X T W (.Return (some a) pos) (ck ma):=mN (ps_ret ha) λD σ H ⟨μ,ρ,S,he,hs,h⟩=>
 uX he hs h λv H1 μ1 S1 x ex he1 hs1 r h1=>h1 μ1 H1 v Ext.refl hs1 r
def aaT:SM:=λ_ S=>.rt (.v .non) S
def uP(t:TM)(m n:SM):SM:=λρ S=>SR.ofT (t ρ S) λb S1=>if b=true then m ρ S1 else n ρ S1
theorem iN{bs cs:List Stmt}(hc:MT X T W c t)(ha:MB X T W bs m)(hb:MB X T W cs n):MS X T W (.If c bs cs pos) (uP t m n):=mN (ps_if hc ha hb) λD σ H ⟨μ,ρ,S,he,hs,h⟩=>
 Wg he hs h λb H1 μ1 S1 ex he1 hs1 h1=>by
  cases b with
  |true=>exact iteT ⟨μ1,ρ,S1,he1,hs1,h1⟩|false=>exact iteF ⟨μ1,ρ,S1,he1,hs1,h1⟩
def bB(i:Nat)(ma:EM):SM:=λρ S=>SR.of (ma ρ S) λx S1=>.nx (ρ.set i (some x)) S1
theorem bc(i:Nat){x:Str}{pos':Pos}(hN:X.N.Nodup)(ha:ME X T W a ma)(hi:X.N[i]?=some x:=by rfl)(hx:Loc X.env.scope x:=by first|exact Or.inl rfl|exact Or.inr rfl)(hs:swapsWith a (some (.Name x pos')) pos.line X.env=pure false:=by rfl)
  (hf:X.fn x=true\/X.env.scope.names.lookup x=some .local:=by first|exact .inl rfl|exact .inr rfl|assumption):MS X T W (.Assign [.Name x pos'] a pos) (bB i ma):=mN (ps_set hN hi hx ha hs hf) λD σ H ⟨μ,ρ,S,he,hs,h⟩=>
 uX he hs h λv H1 μ1 S1 x ex he1 hs1 r h1=>h1 μ1 H1 _ Ext.refl hs1 (he1.set r)
mutual
def Tg.put:Tg->A->Env->Option Env|.nm i,x,ρ=>some (ρ.set i (some x))|.tp ts,.v (.tup ds),ρ=>Tg.qP ts ds ρ|.tp ts,.v (.lst ds),ρ=>Tg.qP ts ds ρ|.tp _,_,_=>none
def Tg.qP:List Tg->List D->Env->Option Env
 |[],[],ρ=>some ρ|t::ts,d::ds,ρ=>match Tg.put t (.v d) ρ with
  |some ρ1=>Tg.qP ts ds ρ1|none=>none
 |_,_,_=>none
end
def ZR(T:Tb)(t:Tg):TG:=λv σ H Q=>∃μ ρ S x ρ',dw T μ H ρ σ/\aI T μ H S/\aH T μ H x v/\t.put x ρ=some ρ'/\∀μ' H' σ',Ext μ H μ' H'->aI T μ' H' S->dw T μ' H' ρ' σ'->ON t.sl σ σ'->Q σ' H'
def adE(T:Tb)(ts:List Tg):TGs:=λvs σ H Q=>∃μ ρ S ds ρ',dw T μ H ρ σ/\aI T μ H S/\av T μ H ds vs/\Tg.qP ts ds ρ=some ρ'/\∀μ' H' σ',Ext μ H μ' H'->aI T μ' H' S->dw T μ' H' ρ' σ'->ON (Tg.sls ts) σ σ'->Q σ' H'
abbrev MG(X:Cx)(T:Tb)(tg:Expr)(t:Tg):Prop:=PG X tg (ZR T t)
abbrev MGs(X:Cx)(T:Tb)(tg:List Expr)(t:List Tg):Prop:=PGs X tg (adE T t)
theorem Qx{tg:Expr}{t t':TG}(h:PG X tg t)(k:∀v σ H Q,t' v σ H Q->t v σ H Q):PG X tg t':=⟨λpins s σ H v u Q I r q=>h.run pins s σ H v u Q I r (k v σ H Q q)⟩
theorem Na{tg:List Expr}{t t':TGs}(h:PGs X tg t)(k:∀v σ H Q,t' v σ H Q->t v σ H Q):PGs X tg t':=⟨λpins s σ H v u Q I r q=>h.run pins s σ H v u Q I r (k v σ H Q q)⟩
theorem aR(i:Nat){x:Str}(hN:X.N.Nodup)(hi:X.N[i]?=some x:=by rfl)(hx:Loc X.env.scope x:=by first|exact Or.inl rfl|exact Or.inr rfl)(hf:X.fn x=true\/X.env.scope.names.lookup x=some .local:=by first|exact .inl rfl|exact .inr rfl|assumption):MG X T (.Name x pos) (.nm i):=
 Qx (pg_name hN hi hx hf) λv σ H Q ⟨μ,ρ,S,x,ρ',he,hs,r,e,q⟩=>by simp only[Tg.put,Option.some.injEq]at e;subst e;exact q μ H _ Ext.refl hs (he.set r) ⟨by simp,λj hj=>List.getElem?_set_ne (by rintro rfl;exact hj (by simp[Tg.sl]))⟩
theorem kj:MGs X T [] []:=Na pgs_nil λvs σ H Q ⟨μ,ρ,S,ds,ρ',he,hs,r,e,q⟩=>by
 cases ds with
 |nil =>simp only[Tg.qP,Option.some.injEq]at e;subst e;simp only[av]at r;exact⟨r,q μ H σ Ext.refl hs he ⟨rfl,λ_ _=>rfl⟩⟩|cons d ds=>simp[Tg.qP]at e
theorem bT{ts:List Expr}{g:Tg}{gs:List Tg}(h1:MG X T a g)(h2:MGs X T ts gs)(hs:(assignEach (a::ts) X.env).map (·.2)=assign a X.env::(assignEach ts X.env).map (·.2):=by rfl):MGs X T (a::ts) (g::gs):=
 Na (pgs_cons h1 h2 hs) λvs σ H Q ⟨μ,ρ,S,ds,ρ',he,hs,r,e,q⟩=>by
  cases ds with
  |nil=>simp[Tg.qP]at e|cons d ds=>
   simp only[av]at r;obtain⟨v,ws,rfl,r1,r2⟩:=r;cases e1:g.put (.v d) ρ with
   |none=>simp[Tg.qP,e1]at e|some ρ1 =>simp only[Tg.qP,e1]at e;refine⟨v,ws,rfl,μ,ρ,S,.v d,ρ1,he,hs,r1,e1,λμ1 H1 σ1 ex hs1 he1 o1=>?_⟩;refine⟨μ1,ρ1,S,ds,ρ',he1,hs1,r2.mono ex,e,λμ2 H2 σ2 ex2 hs2 he2 o2=>?_⟩;exact q μ2 H2 σ2 (ex.trans ex2) hs2 he2 ⟨o2.1.trans o1.1,λj hj=>(o2.2 j λz=>hj (by simp[Tg.sls,z])).trans (o1.2 j λz=>hj (by simp[Tg.sls,z]))⟩
theorem Ei:∀{ts:List Tg}{ds:List D}{ρ ρ':Env},Tg.qP ts ds ρ=some ρ'->ds.length=ts.length
 |[],[],_,_,_=>rfl|[],_::_,_,_,h=>by simp[Tg.qP]at h|_::_,[],_,_,h=>by simp[Tg.qP]at h|t::ts,d::ds,ρ,ρ',h=>by
  cases e1:t.put (.v d) ρ with
  |none=>simp[Tg.qP,e1]at h|some ρ1 =>simp only[Tg.qP,e1]at h;simp[Ei h]
theorem aaU{tg:Expr}{t t':TG}(h:PG X tg t)(h':PG X tg t'):PG X tg (λv σ H Q=>t v σ H Q\/t' v σ H Q):=⟨λpins s σ H v u Q I r q=>by rcases q with q|q;exact h.run pins s σ H v u Q I r q;·exact h'.run pins s σ H v u Q I r q⟩
theorem uY{k:Nat}{gs:List Tg}(hK:X.K=T.K)(hc:X.calm=true)(h:MGs X T es gs)(hn:(assignEach es X.env).length=gs.length:=by rfl)(hst:(assignEach es X.env).findIdx? (·.1)=none:=by rfl):MG X T (.Tuple es k pos) (.tp gs):=
 Qx (aaU (pg_tup hc h hn hst) (pg_lst hc h hn hst)) λv σ H Q ⟨μ,ρ,S,x,ρ',he,hs,r,e,q⟩=>by
  cases x with
  |m n=>simp[Tg.put]at e|v d=>
   cases d with
   |tup ds =>simp only[Tg.put]at e;simp only[aH,Rep]at r;obtain⟨p',vs,rfl,hh,rl⟩:=r;exact .inl ⟨p',vs,rfl,hK▸hh.sq,by rw[rl.length];exact Ei e,μ,ρ,S,ds,ρ',he,hs,rl,e,q⟩
   |lst ds =>simp only[Tg.put]at e;simp only[aH,Rep]at r;obtain⟨p',vs,rfl,hh,rl⟩:=r;exact .inr ⟨p',vs,rfl,hK▸hh.sq,by rw[rl.length];exact Ei e,μ,ρ,S,ds,ρ',he,hs,rl,e,q⟩
   |_=>simp[Tg.put]at e
def FX(g:Tg)(ma:EM):SM:=λρ S=>SR.of (ma ρ S) λx S1=>match g.put x ρ with
 |some ρ'=>.nx ρ' S1|none=>.stk
theorem HM{tg:Expr}{g:Tg}(ha:ME X T W a ma)(hg:MG X T tg g)(hs:swapsWithSole [tg] a pos.line X.env=pure false:=by rfl)(hw:swappedStores [tg] a X.env=pure none:=by rfl)
  (h1:(assignEach [tg] X.env).map (·.2)=[assign tg X.env]:=by rfl):MS X T W (.Assign [tg] a pos) (FX g ma):=mN (ps_asg ha hg hs hw h1) λD σ H ⟨μ,ρ,S,he,hs,h⟩=>
 uX he hs h λv H1 μ1 S1 x ex he1 hs1 r h1=>by
  cases q:g.put x ρ with
  |none=>rw[q]at h1;exact h1.elim|some ρ' =>rw[q]at h1;exact⟨μ1,ρ,S1,x,ρ',he1,hs1,r,q,λμ' H' σ' ex' hs' he' _=>h1 μ' H' σ' ex' hs' he'⟩
def xI(i j:Nat)(r:AM):SM:=λρ S=>match r ρ S with
 |.ok [x,y] S1=>.nx ((ρ.set i (some x)).set j (some y)) S1|.err e S1=>.er e S1|_=>.stk
theorem Ej(i j:Nat){x y:Str}{px py pt:Pos}{kt k2:Nat}{pt2:Pos}(hc:X.calm=true)(hN:X.N.Nodup)(ha:MA X T W [a,b] r)
  (hi:X.N[i]?=some x:=by rfl) (hj:X.N[j]?=some y:=by rfl) (hij:i≠j:=by decide) (hx:X.env.scope.names.lookup x=some .local:=by rfl) (hy:X.env.scope.names.lookup y=some .local:=by rfl)
  (hw:swappedStores [.Tuple [.Name x px,.Name y py] kt pt] (.Tuple [a,b] k2 pt2) X.env=pure (some [x,y]):=by rfl) (hs:swapsWithSole [.Tuple [.Name x px,.Name y py] kt pt] (.Tuple [a,b] k2 pt2) pos.line X.env=pure false:=by rfl) :
  MS X T W (.Assign [.Tuple [.Name x px,.Name y py] kt pt] (.Tuple [a,b] k2 pt2) pos) (xI i j r):=mN (ps_par hc hN hi hj hij hx hy ha hw hs) λD σ H ⟨μ,ρ,S,he,hs,h⟩=>by
 unfold xI at h;refine⟨μ,ρ,S,he,hs,?_⟩;cases q:r ρ S with
 |stk=>rw[q]at h;exact h.elim|err e S1=>rw[q]at h;exact h|ok xs S1=>
  rw[q]at h
  match xs,h with
  |[],h=>exact h.elim|[_],h=>exact h.elim|_::_::_::_,h=>exact h.elim|[x1,y1],h =>intro μ1 H1 vs ex hs1 rs;obtain⟨v,w,rfl,r1,r2⟩:=Gr rs;exact⟨v,w,rfl,h μ1 H1 _ ex hs1 (((he.mono ex).set r1).set r2)⟩
def sIx(mo mi mv:EM):SM:=λρ S=>SR.of (mv ρ S) λx S1=>SR.of (mo ρ S1) λo S2=>SR.of (mi ρ S2) λi S3=>match x,o,i with
 |.v d,.m n,.v (.int k)=>match S3[n]? with
  |some (.lst ds)=>match ixN ds.length k with
   |some j=>.nx ρ (S3.set n (.lst (ds.set j d)))|none=>.stk
  |_=>.stk
 |_,_,_=>.stk
theorem Ek{α:Type}{l:List α}(h:l.Nodup){i j:Nat}{x:α}(a:l[i]?=some x)(b:l[j]?=some x):i=j:=nd_ix h a b
theorem aI.put{μ:List Addr}{H:Hp}{S:ag}{n:Nat}{p:Addr}{ds:List D}{vs:List V}(k:aI T μ H S)(hp:μ[n]?=some p)(hn:n<S.length)(r:av T μ H ds vs)(hl:∃us,H p=some (.lst us):=by exact⟨_,by assumption⟩) :Ext μ H μ (upd H p (.lst vs))/\aI T μ (upd H p (.lst vs)) (S.set n (.lst ds)):=by
 have mem:p∈μ:=List.mem_of_getElem? hp;obtain⟨ex,sx⟩:=k.wrE (o:=.lst vs) mem (λC dx fs f q e=>by cases e) λC dx fs f q e=>by obtain⟨us,hl⟩:=hl;rw[hl]at e;cases e
 refine⟨ex,⟨by rw[List.length_set];exact k.len,k.nd,λi a o h1 h2=>?_,λa ha=>?_,T.mono ex k.inv,sx,k.pt.set k.nd hp (λa _ ne=>upd_ne ne) λ_ _ _ _ e=>by cases e⟩⟩
 ·by_cases hi:n=i;·subst hi;rw[hp]at h1;cases h1;rw[List.getElem?_set_self hn]at h2;cases h2;exact⟨vs,upd_same,r.mono ex⟩
  ·rw[List.getElem?_set_ne hi]at h2;have ne:a≠p:=by rintro rfl;exact hi (Ek k.nd hp h1)
   exact k.mvp mem ex ne h1 h2
 ·by_cases hap:a=p;·subst hap;exact⟨_,upd_same⟩
  ·obtain⟨o,q⟩:=k.tr a ha;exact⟨o,by rw[upd_ne hap];exact q⟩
theorem El{o i:Expr}{mo mi mv:EM}{tpos:Pos}(ho:ME X T W o mo)(hi:ME X T W i mi)(ha:ME X T W a mv)
  (hst:∀v,assign (.Subscript o i tpos) X.env v=(do
   let ov <-holding [v] (eval o X.env);let iv <-holding [v,ov] (eval i X.env)
   standAt tpos
   holding [v,ov,iv] (setItem ov iv v)
   release [v,ov,iv] []):=by intro _;rfl)
  (hs:swapsWithSole [.Subscript o i tpos] a pos.line X.env=pure false:=by rfl) (hw:swappedStores [.Subscript o i tpos] a X.env=pure none:=by rfl)
  (h1:(assignEach [.Subscript o i tpos] X.env).map (·.2)=[assign (.Subscript o i tpos) X.env]:=by rfl):MS X T W (.Assign [.Subscript o i tpos] a pos) (sIx mo mi mv):=
 mN (ps_asg ha (pg_sub ho hi set_list hst) hs hw h1) λD σ H ⟨μ,ρ,S,he,hs,h⟩=>by
  refine uX he hs h λv H1 μ1 S1 x ex he1 hs1 rx h1=>?_;refine uX he1 hs1 h1 λov H2 μ2 S2 y ex2 he2 hs2 ro h2=>?_;refine uX he2 hs2 h2 λiv H3 μ3 S3 z ex3 he3 hs3 ri h3=>?_;have ro3:=ro.mono ex3;have rx3:=(rx.mono ex2).mono ex3;cases x with
  |m _=>exact h3.elim|v d=>
   cases y with
   |v _=>exact h3.elim|m n=>
    cases z with
    |m _=>exact h3.elim|v dz=>
     cases dz with
     |int k=>
      simp only at h3;split at h3;·rename_i ds q;split at h3;rename_i j q2;obtain⟨pp,g1,rfl⟩:=ro3;obtain⟨vs,g2,g3⟩:=hs3.at_ _ _ _ g1 q;refine⟨pp,vs,k,j,rfl,cq ri,g2,by rw[g3.length];exact q2,?_⟩;have hn:n<S3.length:=(List.getElem?_eq_some_iff.mp q).1;obtain⟨e1,e2⟩:=hs3.put g1 hn (av.set j g3 rx3);exact h3 μ3 _ σ e1 e2 (he3.mono e1);·exact h3.elim
      ·exact h3.elim
     |_=>exact h3.elim
structure Yl (T:Tb) (J:It) (ds:List D) (μ:List Addr) (H:Hp):Prop where
 step:∀μ' H',Ext μ H μ' H'->Tt μ' H'->∀(i:Nat) d,ds[i]?=some d->J.go i H'/\∀x H2,J.yld i H' x H2->Same H' H2/\Rep T μ' H2 d x
 fin:∀μ' H',Ext μ H μ' H'->J.stop ds.length H'
abbrev IM:=Env->ag->R (List D)
def ZS(T:Tb)(W:XK)(m:IM):TI:=λσ H Q=>∃μ ρ S,dw T μ H ρ σ/\aI T μ H S/\oU T (λμ H ds J=>Yl T J ds μ H) μ H Q W (m ρ S)
abbrev MI(X:Cx)(T:Tb)(W:XK)(tg iter:Expr)(m:IM):Prop:=PI X tg iter (ZS T W m)
theorem Em{tg iter:Expr}{t t':TI}(h:PI X tg iter t)(k:∀σ H Q,t' σ H Q->t σ H Q):PI X tg iter t':=⟨λpins s σ H Q I q=>h.run pins s σ H Q I (k σ H Q q)⟩
def cJ(ma:EM):IM:=λρ S=>(ma ρ S).bind λx S1=>match x with
 |.v (.lst ds)=>.ok ds S1|.v (.fz ds)=>.ok ds S1|_=>.stk
def aaV(ma:EM):IM:=λρ S=>(ma ρ S).bind λx S1=>match x with
 |.v (.tup ds)=>.ok ds S1|_=>.stk
theorem Nb{K:PySem.W.Frag}{p:Addr}{vs:List V}{ds:List D}{μ:List Addr}{H:Hp}(hq:∀μ' H',Ext μ H μ' H'->SqL K H' p vs)(rl:av T μ H ds vs):Yl T (Itl K p) ds μ H:=by refine⟨λμ' H' ex _ i d hd=>?_,λμ' H' ex=>⟨vs,hq _ _ ex,by rw[rl.length];exact Nat.le_refl _⟩⟩;obtain⟨v,e1,r1⟩:=rl.get hd;refine⟨⟨vs,v,hq _ _ ex,e1⟩,λx H2 ⟨e2,k⟩=>?_⟩;subst e2;have z:=k vs (hq _ _ ex);rw[e1]at z;cases z;exact⟨Same.refl _,r1.mono ex⟩
theorem dj{tg:Expr}(hK:X.K=T.K)(ha:ME X T W a ma):MI X T W tg a (cJ ma):=Em (pi_list ha) λσ H Q ⟨μ,ρ,S,he,hs,h⟩=>by refine bL he hs h λv H1 μ1 S1 x ex he1 hs1 r h1=>?_;split at h1;simp only[aH,Rep]at r;obtain⟨pp,vs,rfl,hh,rl⟩:=r;exact⟨pp,rfl,⟨vs,hh.sq⟩,h1 μ1 H1 _ Ext.refl hs1 (Nb (λμ' H' ex'=>(hh.mono ex').sq) rl)⟩;simp only[aH,Rep]at r;obtain⟨pp,vs,rfl,hh,rl⟩:=r;exact⟨pp,rfl,⟨vs,hK▸hh.sq⟩,h1 μ1 H1 _ Ext.refl hs1 (Nb (λμ' H' ex'=>hK▸(hh.mono ex').sq) rl)⟩;·exact h1.elim
def gR(lo:Int)(n:Nat):List D:=(List.range n).map λ(i:Nat)=>D.int (lo+(i:Int))
theorem XJ{lo:Int}{n:Nat}{μ:List Addr}{H:Hp}:Yl T (Itr lo n) (gR lo n) μ H:=by refine⟨λμ' H' ex _ i d hd=>?_,λμ' H' ex=>by simp[gR,Itr]⟩;unfold gR at hd;rw[List.getElem?_map]at hd;by_cases hi:i<n;rw[List.getElem?_range hi]at hd;cases hd;refine⟨hi,λx H2 ⟨e1,e2⟩=>?_⟩;subst e1 e2;exact⟨Same.refl _,by simp only[Rep]⟩;·rw[List.getElem?_eq_none (by simpa using hi)]at hd;cases hd
def bG(r:AM):IM:=λρ S=>(r ρ S).bind λxs S1=>match xs with
 |[.v (.int j)]=>if j<4611686018427387904/\-4611686018427387904<=j then .ok (gR 0 j.toNat) S1 else .stk
 |_=>.stk
theorem jv{tg:Expr}(hg:Gl X "range")(hm:X.mg "range" = none)(ha:MA X T W [a] r)(hs:starEach [a] X.env=[(false,eval a X.env)]:=by rfl):MI X T W tg (.Call (.Name "range" p) [a] [] pos) (bG r):=
 Em (pi_range1 hg hm ha hs) λσ H Q ⟨μ,ρ,S,he,hs,h⟩=>by
  refine gB he hs h λvs H1 μ1 S1 xs ex he1 hs1 rs h1=>?_;split at h1;·split at h1;rename_i hb;obtain⟨v,rfl,r1⟩:=gW rs;exact⟨_,by rw[cq r1],by omega,by omega,h1 μ1 H1 _ Ext.refl hs1 XJ⟩;·exact h1.elim
  ·exact h1.elim
def mP(z:Str):List D:=z.cps.toList.map λc=>.str ⟨#[c]⟩
def iStr(ma:EM):IM:=λρ S=>(ma ρ S).bind λx S1=>match x with
 |.v (.str z)=>.ok (mP z) S1|_=>.stk
end
def forL(g:Tg)(m:SM):List D->SM
 |[],ρ,S=>.nx ρ S|d::ds,ρ,S=>match g.put (.v d) ρ with
  |none=>.stk|some ρ1=>match m ρ1 S with
   |.nx ρ2 S2=>forL g m ds ρ2 S2|.ct ρ2 S2=>forL g m ds ρ2 S2|.bk ρ2 S2=>.nx ρ2 S2|.rt a S2=>.rt a S2|.er e S2=>.er e S2|.stk=>.stk
def SR.ofI(r:R (List D))(k:List D->ag->SR):SR:=match r with
 |.ok a S=>k a S|.err e S=>.er e S|.stk=>.stk
def mQ(mi:IM)(g:Tg)(m:SM):SM:=λρ S=>SR.ofI (mi ρ S) λds S1=>forL g m ds ρ S1
def kU(t:TM)(m:SM):Nat->SM
 |0,_,_=>.stk|n+1,ρ,S=>SR.ofT (t ρ S) λb S1=>if b=true then match m ρ S1 with
   |.nx ρ2 S2=>kU t m n ρ2 S2|.ct ρ2 S2=>kU t m n ρ2 S2|.bk ρ2 S2=>.nx ρ2 S2|.rt a S2=>.rt a S2|.er e S2=>.er e S2|.stk=>.stk
  else .nx ρ S1
section
variable {X:Cx}{T:Tb}{W:XK}{b c:Expr}{body:List Stmt}{m:SM}{t:TM}{pos:Pos}
theorem uZ(n:Nat)(hp:PassesOwn (model X.prog X.w) X.A X.env X.xe)(hc:MT X T W c t)(hb:MB X T W body m):MS X T W (.While c body [] pos) (kU t m n):=mN (ps_while hp hc hb) λD σ H ⟨μ,ρ,S,he,hs,h⟩=>by
 refine⟨λk σ H=>∃μ ρ S,dw T μ H ρ σ/\aI T μ H S/\mB T μ H D W (kU t m k ρ S),⟨n,μ,ρ,S,he,hs,h⟩,?_⟩;rintro k σ1 H1 ⟨μ1,ρ1,S1,he1,hs1,h1⟩;cases k with
 |zero=>exact h1.elim|succ k=>
  refine Wg he1 hs1 h1 λb H2 μ2 S2 ex he2 hs2 h2=>?_;cases b with
  |false=>exact iteF (h2 μ2 H2 σ1 Ext.refl hs2 he2)|true=>
   refine iteT ⟨λσ' H'=>∃μ' ρ' S',dw T μ' H' ρ' σ'/\aI T μ' H' S'/\mB T μ' H' D W (kU t m k ρ' S'),λσ' H' q=>⟨k,Nat.lt_succ_self _,q⟩,μ2,ρ1,S2,he2,hs2,?_⟩;simp only[if_true]at h2;cases q:m ρ1 S2 with
   |nx ρ3 S3=>rw[q]at h2;exactλμ' H' σ' e1 e2 e3=>⟨μ',ρ3,S3,e3,e2,mB.later e1 h2⟩|ct ρ3 S3=>rw[q]at h2;exactλμ' H' σ' e1 e2 e3=>⟨μ',ρ3,S3,e3,e2,mB.later e1 h2⟩|bk ρ3 S3=>rw[q]at h2;exact h2|rt _ _=>rw[q]at h2;exact h2|er _ _=>rw[q]at h2;exact h2|stk=>rw[q]at h2;exact h2
theorem oh{tg iter:Expr}{mi:IM}{g:Tg}(hp:PassesOwn (model X.prog X.w) X.A X.env X.xe)(hc:X.calm=true)(hi:MI X T W tg iter mi)(hg:MG X T tg g)(hb:MB X T W body m)
  (hs:∀x,foldedSetIterable iter X.env x=pure x:=by intro _;rfl):MS X T W (.For tg iter body [] pos) (mQ mi g m):=mN (ps_for hp hc hi hg hb hs) λD σ H ⟨μ,ρ,S,he,hs,h⟩=>by
 refine⟨μ,ρ,S,he,hs,?_⟩;unfold mQ at h;cases q:mi ρ S with
 |stk=>rw[q]at h;exact h|err e S1=>rw[q]at h;exact h|ok ds S1=>
  rw[q]at h;intro μ1 H1 J ex1 hs1 yl;have h1:mB T μ1 H1 D W (forL g m ds ρ S1):=mB.later ex1 h;refine⟨λi k σ H=>k=ds.length-i/\i<=ds.length/\∃μ' ρ' S',Ext μ1 H1 μ' H/\aI T μ' H S'/\dw T μ' H ρ' σ/\mB T μ' H D W (forL g m (ds.drop i) ρ' S'),⟨ds.length,by simp,Nat.zero_le _,μ1,ρ,S1,Ext.refl,hs1,he.mono ex1,h1⟩,?_⟩;rintro i k σ2 H2 ⟨rfl,hi,μ2,ρ2,S2,ex2,hs2,he2,h2⟩;by_cases hlt:i<ds.length
  ·have ed:ds[i]?=some ds[i]:=by simp[hlt]
   rw[List.drop_eq_getElem_cons hlt]at h2;obtain⟨go,st⟩:=yl.step μ2 H2 ex2 hs2.tro i _ ed;refine .inr ⟨go,λσ' H'=>∃μ' ρ' S',Ext μ1 H1 μ' H'/\aI T μ' H' S'/\dw T μ' H' ρ' σ'/\mB T μ' H' D W (forL g m (ds.drop (i+1)) ρ' S'),λσ' H' q=>⟨ds.length-(i+1),by omega,rfl,hlt,q⟩,λx H3 y=>?_⟩;obtain⟨sm,rx⟩:=st x H3 y;have ex3:Ext μ2 H2 μ2 H3:=hs2.ext sm;unfold forL at h2;cases q1:g.put (.v ds[i]) ρ2 with
   |none=>rw[q1]at h2;exact h2.elim|some ρ3=>
    rw[q1]at h2;refine⟨μ2,ρ2,S2,.v ds[i],ρ3,he2.mono ex3,hs2.grow sm,rx,q1,λμ4 H4 σ4 ex4 hs4 he4 _=>⟨μ4,ρ3,S2,he4,hs4,?_⟩⟩;have h4:=mB.later (ex3.trans ex4) h2;simp only at h4;have exx:=(ex2.trans ex3).trans ex4;cases q2:m ρ3 S2 with
    |nx ρ5 S5=>rw[q2]at h4;exactλμ' H' σ' e1 e2 e3=>⟨μ',ρ5,S5,exx.trans e1,e2,e3,mB.later e1 h4⟩|ct ρ5 S5=>rw[q2]at h4;exactλμ' H' σ' e1 e2 e3=>⟨μ',ρ5,S5,exx.trans e1,e2,e3,mB.later e1 h4⟩|bk ρ5 S5=>rw[q2]at h4;exact h4|rt _ _=>rw[q2]at h4;exact h4|er _ _=>rw[q2]at h4;exact h4|stk=>rw[q2]at h4;exact h4
  ·have e:i=ds.length:=by omega
   subst e;rw[List.drop_length]at h2;exact .inl ⟨yl.fin μ2 H2 ex2,h2 μ2 H2 σ2 Ext.refl hs2 he2⟩
end
def XM(x y:Str):It:=
 ⟨λi _=>i<x.cps.size/\i<y.cps.size,
  λi H v H'=>∃p c d,v=.ref p/\H p=none/\x.cps[i]?=some c/\y.cps[i]?=some d/\H'=upd H p (.tup [.str ⟨#[c]⟩,.str ⟨#[d]⟩]),
  λi _=>min x.cps.size y.cps.size=i⟩
def XN(x y:Str)(t u:Tok)(z TI TO i1 i2:Addr)(i:Nat)(h:Heap):Prop:=
 IsZip h z TI TO .none/\IsTupOf2 h TI (.ref i1) (.ref i2)/\(∃a1 a2,IsTupOf2 h TO a1 a2)/\h.IsStrIter i1 (strIterType x) x t i/\h.IsStrIter i2 (strIterType y) y u i
theorem O2{P:Program}{w:World}{K:PySem.W.Frag}{elts:List Expr}{kk:Nat}{tpos:Pos}{x y:Str}{t u:Tok}{z TI TO i1 i2:Addr}(D:ZipSep2 z TI TO i1 i2 [i1] [i2]) :Turn P w K (.Tuple elts kk tpos) (XM x y) (z::TI::TO::([i1]++[i2])) z (XN x y t u z TI TO i1 i2) where
 mem:=by simp
 obj:=λi h st c hc=>by
  obtain⟨hz,hTI,⟨a1,a2,hTO⟩,⟨o1,e1,_,d1⟩,⟨o2,e2,_,d2⟩⟩:=st;have e':c=z\/c=TI\/c=TO\/c=i1\/c=i2:=by simpa using hc
  rcases e' with q|q|q|q|q;rw[q];exact⟨_,hz,λv r=>by cases r⟩;rw[q];exact⟨_,hTI,λv r=>by cases r⟩;rw[q];exact⟨_,hTO,λv r=>by cases r⟩;rw[q];exact⟨o1,e1,λv r=>by rw[d1]at r;cases r⟩;·rw[q];exact⟨o2,e2,λv r=>by rw[d2]at r;cases r⟩
 keep:=λi h h' st k=>by obtain⟨hz,hTI,⟨a1,a2,hTO⟩,⟨o1,e1,c1,d1⟩,⟨o2,e2,c2,d2⟩⟩:=st;exact⟨k z (by simp) _ hz,k TI (by simp) _ hTI,⟨a1,a2,k TO (by simp) _ hTO⟩,⟨o1,k i1 (by simp) o1 e1,c1,d1⟩,⟨o2,k i2 (by simp) o2 e2,c2,d2⟩⟩
 item:=by
  intro X hP hw hK hc i pins s σ H E I hf st hg;subst hP hw hK;have G:=GoesN.zip2 (prog:=X.prog) (w:=X.w) (A:=X.A) (elts:=elts) (x1:=kk) (pos:=tpos) D (Draws.text (A:=X.A.in1) (I.ok.hd hc) i1 x t) (Draws.text (A:=X.A.in1) (I.ok.hd hc) i2 y u);have hlt:∀c∈(z::TI::TO::([i1]++[i2])),c<s.heap.objs.size:=λc hcm=>by obtain⟨hz,hTI,⟨a1,a2,hTO⟩,⟨o1,e1,_⟩,⟨o2,e2,_⟩⟩:=st;have e':c=z\/c=TI\/c=TO\/c=i1\/c=i2:=(by simpa using hcm);rcases e' with q|q|q|q|q;rw[q];exact Heap.lt_size hz;rw[q];exact Heap.lt_size hTI;rw[q];exact Heap.lt_size hTO;rw[q];exact Heap.lt_size e1;·rw[q];exact Heap.lt_size e2
  refine G.goes i s _ E (Nat.lt_min.mpr hg) st λv h' tk hY st' keep htk=>?_;obtain⟨p,vx,vy,rfl,hnew,⟨c,tc,hx,rfl⟩,⟨d,td,hy,rfl⟩,op,hop,hcp,nn,hdp⟩:=hY;have hpn:H p=none:=I.hok.fresh hnew;have new:ObjOk X.prog X.w (upd H p (.tup [.str ⟨#[c]⟩,.str ⟨#[d]⟩])) h' p (.tup [.str ⟨#[c]⟩,.str ⟨#[d]⟩]):=
   ⟨by show 2<=sizeLine;decide,[_,_],.cons ⟨tc,rfl⟩ (.cons ⟨td,rfl⟩ .nil),⟨op,hop,hcp,nn,hdp⟩⟩
  have I1:Inv X pins σ (upd H p (.tup [.str ⟨#[c]⟩,.str ⟨#[d]⟩])) { s with heap:=h',toks:=tk }:=
   I.turnedNew (ch:=z::TI::TO::([i1]++[i2])) (λb o hb q=>keep b o (λm=>hb (by have e':b=z\/b=TO\/b=i1\/b=i2:=(by simpa using m);rcases e' with q|q|q|q<;>simp[q])) q) hf hnew new
  refine⟨.ref p,_,I1,rfl,⟨p,c,d,rfl,hpn,hx,hy,rfl⟩,st',λb hb=>?_⟩;rw[upd_ne (Nat.ne_of_lt (Nat.lt_of_lt_of_le (hlt b hb) hnew))];exact(hf b hb).1
 done:=by intro X hP hw hK hc i pins s σ H E I hf st hg;subst hP hw hK;have G:=GoesN.zip2 (prog:=X.prog) (w:=X.w) (A:=X.A) (elts:=elts) (x1:=kk) (pos:=tpos) D (Draws.text (A:=X.A.in1) (I.ok.hd hc) i1 x t) (Draws.text (A:=X.A.in1) (I.ok.hd hc) i2 y u);have hg':min x.cps.size y.cps.size=i:=hg;refine G.stops s _ E (by rw[hg'];exact st) λh' tk keep htk=>?_;exact I.turnedL (ch:=z::TI::TO::([i1]++[i2])) (λb o hb q=>keep b o (λm=>hb (by have e':b=z\/b=TO\/b=i1\/b=i2:=(by simpa using m);rcases e' with q|q|q|q<;>simp[q])) q) hf
 self:=λA i s Q E st h=>wpAny_pyIter_zip st.1 h
def aaW(ta:TA):TI:=λσ H R=>ta σ H λvs H1=>∃x y,vs=[.str x,.str y]/\R (XM x y) H1
theorem TX{X:Cx}{e e2:Expr}{ta:TA}{p pos tpos:Pos}{elts:List Expr}{kk:Nat}(hg:Gl X "zip")(hm:X.mg "zip" = none)(ha:PA X [e,e2] ta)
  (hs:starEach [e,e2] X.env=(false,eval e X.env)::starEach [e2] X.env:=by rfl) (hpl:(backTo pos (starEach [e2] X.env)).any (·.1)=false:=by rfl) :
  PI X (.Tuple elts kk tpos) (.Call (.Name "zip" p) [e,e2] [] pos) (aaW ta):=by
 refine⟨λpins s σ H R I h=>?_⟩;refine Call_ (ld_blt I hg hm PyProof.Rows.boot_zip (PyProof.Rows.callWith_type1 (thn (ha.run pos pins s σ H _ I h) λus s1 ⟨vs,H1,I1,r1,q1⟩=>?_) hs hpl));obtain⟨x,y,ex,q⟩:=q1;subst ex;obtain⟨u1,u2,rfl,⟨t,rfl⟩,⟨u,rfl⟩⟩:=vals2 r1;refine zip_begins2 (begins_text x t) (begins_text y u) trivial trivial λh' hz hTI hTO h1 h2 hsz hk=>wpAny_pyIter_zip hz ?_;have I2:Inv X pins σ H1 { s1 with heap:=h' }:=I1.kept (t':=s1.toks) hk;refine⟨s1.heap.objs.size+4,_,_,_,H1,rfl,I2,O2 (t:=t) (u:=u) (zip_sep2 (N:=s1.heap.objs.size) (fp1:=[]) (fp2:=[]) (by simp) (by simp)),⟨hz,hTI,⟨_,_,hTO⟩,⟨_,h1,rfl,rfl⟩,⟨_,h2,rfl,rfl⟩⟩,λc hcm=>?_,q⟩;have e':c=s1.heap.objs.size+4\/c=s1.heap.objs.size+2\/c=s1.heap.objs.size+3\/c=s1.heap.objs.size\/c=s1.heap.objs.size+1:=by simpa using hcm
 have hle:s1.heap.objs.size<=c:=by rcases e' with z|z|z|z|z;rw[z];exact Nat.le_add_right _ _;rw[z];exact Nat.le_add_right _ _;rw[z];exact Nat.le_add_right _ _;rw[z];exact Nat.le_refl _;·rw[z];exact Nat.le_add_right _ _
 exact I1.fpOk hle (I1.hok.fresh hle)
section
variable {X:Cx}{T:Tb}{W:XK}{a b c:Expr}{ma:EM}{r:AM}{pos p tpos:Pos}{elts:List Expr}{kk:Nat}
theorem PI.or{tg iter:Expr}{t t':TI}(h:PI X tg iter t)(h':PI X tg iter t'):PI X tg iter (λσ H R=>t σ H R\/t' σ H R):=⟨λpins s σ H R I q=>by rcases q with q|q;exact h.run pins s σ H R I q;·exact h'.run pins s σ H R I q⟩
theorem BN{tg:Expr}(ha:ME X T W a ma):MI X T W tg a (iStr ma):=Em (pi_str ha) λσ H Q ⟨μ,ρ,S,he,hs,h⟩=>by
 refine bL he hs h λv H1 μ1 S1 x ex he1 hs1 r h1=>?_;split at h1;·rename_i z;refine⟨z,g9 r,h1 μ1 H1 _ Ext.refl hs1 ⟨λμ' H' ex _ i d hd=>?_,λμ' H' ex=>by simp[mP,Its]⟩⟩;unfold mP at hd;rw[List.getElem?_map]at hd;cases q:z.cps.toList[i]? with|none=>rw[q]at hd;cases hd|some cc =>rw[q]at hd;cases hd;have q':z.cps[i]?=some cc:=(by simpa using q);refine⟨(Array.getElem?_eq_some_iff.mp q').1,λx H2 ⟨e1,c2,e2,e3⟩=>?_⟩;subst e1 e3;rw[q']at e2;cases e2;exact⟨Same.refl _,by simp only[Rep]⟩
 ·exact h1.elim
def AF(xs ys:List D):List D:=(xs.zip ys).map λp=>.tup [p.1,p.2]
def En:List A->Option (List D)|[.v (.str x),.v (.str y)]=>some (AF (mP x) (mP y))|[.v (.lst x),.v (.lst y)]=>some (AF x y)|[.v (.tup x),.v (.tup y)]=>some (AF x y)|_=>none
def tQ(r:AM):IM:=λρ S=>(r ρ S).bind λxs S1=>match En xs with
 |some ds=>.ok ds S1|none=>.stk
theorem HP{xs ys:List D}{i:Nat}{d:D}(h:(AF xs ys)[i]?=some d):∃x y,xs[i]?=some x/\ys[i]?=some y/\d=.tup [x,y]:=by
 unfold AF at h;rw[List.getElem?_map]at h;cases q:(xs.zip ys)[i]? with
 |none=>rw[q]at h;cases h|some p =>rw[q]at h;cases h;rw[List.getElem?_zip_eq_some]at q;exact⟨_,_,q.1,q.2,rfl⟩
theorem AG{μ:List Addr}{H:Hp}{S:ag}{x y:D}{v w:V}{p:Addr}(tr:Tt μ H)(hp:H p=none)(rx:Rep T μ H x v)(ry:Rep T μ H y w):Same H (upd H p (.tup [v,w]))/\Rep T μ (upd H p (.tup [v,w])) (.tup [x,y]) (.ref p):=by have sm:Same H (upd H p (.tup [v,w])):=fD hp;refine⟨sm,?_⟩;simp only[Rep,av];exact⟨p,_,rfl,.inl ⟨tr.yU hp,.inl upd_same⟩,v,[w],rfl,rx.mono (tr.ext sm),w,[],rfl,ry.mono (tr.ext sm),rfl⟩
theorem LB{X:Cx}{W:XK}(hK:X.K=T.K)(hg:Gl X "zip")(hm:X.mg "zip" = none)(ha:MA X T W [a,b] r)
  (hs:starEach [a,b] X.env=(false,eval a X.env)::starEach [b] X.env:=by rfl) (hpl:(backTo pos (starEach [b] X.env)).any (·.1)=false:=by rfl) :
  MI X T W (.Tuple elts kk tpos) (.Call (.Name "zip" p) [a,b] [] pos) (tQ r):=Em (PI.or (TX hg hm ha hs hpl) (RZ.pi_zipA hg hm ha hs hpl)) λσ H Q ⟨μ,ρ,S,he,hst,h⟩=>by
 unfold tQ at h;cases q:r ρ S with
 |stk=>rw[q]at h;exact h.elim|err e1 S1=>rw[q]at h;exact .inl ⟨μ,ρ,S,he,hst,by rw[q];exact h⟩|ok xs S1=>
  rw[q]at h;simp only[R.ak]at h;cases q2:En xs with
  |none=>rw[q2]at h;exact h.elim|some ds=>
   rw[q2]at h;unfold En at q2;split at q2
   ·cases q2;refine .inl ⟨μ,ρ,S,he,hst,?_⟩;rw[q];intro μ1 H1 vs ex hs1 rs;obtain⟨v,w,rfl,r1,r2⟩:=Gr rs;rw[g9 r1,g9 r2];refine⟨_,_,rfl,h μ1 H1 _ ex hs1 ⟨λμ' H' ex' tr i d hd=>?_,λμ' H' ex'=>by simp[AF,mP,XM]⟩⟩;obtain⟨x,y,hx,hy,rfl⟩:=HP hd;unfold mP at hx hy;rw[List.getElem?_map]at hx hy;rename_i sx sy;cases g1:sx.cps.toList[i]? with
    |none=>rw[g1]at hx;cases hx|some c1=>
     cases g2:sy.cps.toList[i]? with
     |none=>rw[g2]at hy;cases hy|some c2 =>rw[g1]at hx;rw[g2]at hy;cases hx;cases hy;have g1':sx.cps[i]?=some c1:=(by simpa using g1);have g2':sy.cps[i]?=some c2:=(by simpa using g2);refine⟨⟨(Array.getElem?_eq_some_iff.mp g1').1,(Array.getElem?_eq_some_iff.mp g2').1⟩,λx H2 ⟨pp,c,d,e1,e2,e3,e4,e5⟩=>?_⟩;rw[g1']at e3;rw[g2']at e4;cases e3;cases e4;subst e1 e5;exact AG (S:=S) tr e2 (by simp only[Rep]) (by simp only[Rep])
   cases q2;refine .inr ⟨μ,ρ,S,he,hst,?_⟩;rw[q];intro μ1 H1 vs ex hs1 rs;obtain⟨v,w,rfl,r1,r2⟩:=Gr rs;simp only[aH,Rep]at r1 r2;obtain⟨p1,vs1,rfl,g1,l1⟩:=r1;obtain⟨p2,vs2,rfl,g2,l2⟩:=r2;refine⟨p1,p2,vs1,vs2,rfl,.inl ⟨g1.sq,g2.sq,h μ1 H1 _ ex hs1 ⟨λμ' H' ex' tr i d hd=>?_,λμ' H' ex'=>⟨vs1,vs2,(g1.mono ex').sq,(g2.mono ex').sq,by rw[l1.length,l2.length];simp[AF];omega⟩⟩⟩⟩;obtain⟨x,y,hx,hy,rfl⟩:=HP hd;obtain⟨v1,f1,rx⟩:=l1.get hx;obtain⟨v2,f2,ry⟩:=l2.get hy;refine⟨⟨vs1,vs2,v1,v2,(g1.mono ex').sq,(g2.mono ex').sq,f1,f2⟩,λx H2 ⟨pp,c,d,e1,e2,e3,e4,e5⟩=>?_⟩;have z1:=e4 vs1 (g1.mono ex').sq;have z2:=e5 vs2 (g2.mono ex').sq;rw[f1]at z1;rw[f2]at z2;cases z1;cases z2;subst e1 e3;exact AG (S:=S) tr e2 (rx.mono ex') (ry.mono ex');cases q2;refine .inr ⟨μ,ρ,S,he,hst,?_⟩;rw[q];intro μ1 H1 vs ex hs1 rs;obtain⟨v,w,rfl,r1,r2⟩:=Gr rs;simp only[aH,Rep]at r1 r2;obtain⟨p1,vs1,rfl,g1,l1⟩:=r1;obtain⟨p2,vs2,rfl,g2,l2⟩:=r2;refine⟨p1,p2,vs1,vs2,rfl,.inr ⟨hK▸g1.sq,hK▸g2.sq,h μ1 H1 _ ex hs1 ⟨λμ' H' ex' tr i d hd=>?_,λμ' H' ex'=>⟨vs1,vs2,hK▸(g1.mono ex').sq,hK▸(g2.mono ex').sq,by rw[l1.length,l2.length];simp[AF];omega⟩⟩⟩⟩;obtain⟨x,y,hx,hy,rfl⟩:=HP hd;obtain⟨v1,f1,rx⟩:=l1.get hx;obtain⟨v2,f2,ry⟩:=l2.get hy;refine⟨⟨vs1,vs2,v1,v2,hK▸(g1.mono ex').sq,hK▸(g2.mono ex').sq,f1,f2⟩,λx H2 ⟨pp,c,d,e1,e2,e3,e4,e5⟩=>?_⟩;have z1:=e4 vs1 (hK▸(g1.mono ex').sq);have z2:=e5 vs2 (hK▸(g2.mono ex').sq);rw[f1]at z1;rw[f2]at z2;cases z1;cases z2;subst e1 e3;exact AG (S:=S) tr e2 (rx.mono ex') (ry.mono ex');·cases q2
end
def aT(ρ:Env):List Nat->Env|[]=>ρ|v::vs=>(aT ρ vs).set v none
def HQ(g:Tg)(t:TM)(m:EM)(ρ:Env)(n:Nat):List D->ag->R Unit
 |[],S=>.ok () S|d::ds,S=>match g.put (.v d) ρ with
  |none=>.stk|some ρ1=>match t ρ1 S with
   |.ok true S1=>match m ρ1 S1 with
    |.ok (.v y) S2=>match S2[n]? with
     |some (.lst acc)=>if S2.length=n+1/\acc.length<cE then HQ g t m ρ n ds (S2.set n (.lst (acc++[y]))) else .stk
     |_=>.stk
    |_=>.stk
   |.ok false S1=>HQ g t m ρ n ds S1|_=>.stk
def fX(own:List Nat)(mi:IM)(g:Tg)(t:TM)(m:EM):EM:=λρ S=>(mi ρ S).bind λds S1=>match HQ g t m (aT ρ own) S1.length ds (S1++[.lst []]) with
 |.ok _ S2=>match S2[S1.length]? with
  |some (.lst acc)=>if S2.length=S1.length+1 then .ok (.v (.lst acc)) (S2.take S1.length) else .stk
  |_=>.stk
 |_=>.stk
def aL:TM:=λ_ S=>.ok true S
abbrev Wh(X:Cx)(T:Tb)(W:XK)(e:List Expr)(m:TM):Prop:=PTs X e (Ti T W m)
section
variable {X:Cx}{T:Tb}{W:XK}{c e:Expr}{es:List Expr}{t:TM}
theorem TY{t t':TT}(h:PTs X es t)(k:∀σ H Q,t' σ H Q->t σ H Q):PTs X es t':=⟨λpins s σ H Q I q=>h.run pins s σ H Q I (k σ H Q q)⟩
theorem aY:Wh X T W [] aL:=TY pts_nil λσ H Q ⟨μ,ρ,S,he,hs,h⟩=>h μ H true Ext.refl hs rfl
theorem DE(h:MT X T W c t):Wh X T W [c] t:=pts_one h
abbrev W0:XK:=λ_ _ _=>False
theorem u3{μ:List Addr}{H:Hp}{ρ:Env}{σ:L2.St}(h:dw T μ H ρ σ):∀vs,dw T μ H (aT ρ vs) (wipe σ vs)
 |[]=>h|v::vs=>by
  have ih:=u3 h vs;refine⟨by simp[aT,wipe,ih.len],λi x e=>?_⟩;unfold aT at e;unfold wipe;by_cases hi:v=i
  ·subst hi;have hl:v<(aT ρ vs).length:=by have:=(List.getElem?_eq_some_iff.mp e).1;simpa using this
   rw[List.getElem?_set_self hl]at e;cases e
  ·rw[List.getElem?_set_ne hi]at e ⊢;exact ih.at_ i x e
theorem u4{σ σ':L2.St}{vs:List Nat}(h:ON vs σ σ'):wipe σ' vs=wipe σ vs:=by
 apply List.ext_getElem?;intro i;by_cases hi:i∈vs
 ·have key:∀(τ:L2.St) (vs:List Nat),i∈vs->(wipe τ vs)[i]?=if i<τ.length then some none else none:=by
   intro τ vs;induction vs with
   |nil=>intro h;cases h
   |cons v vs ih=>
    intro hm;unfold wipe;by_cases hv:v=i;·subst hv;by_cases hl:v<τ.length;rw[List.getElem?_set_self (by rw[wipe_length];exact hl),if_pos hl];·rw[List.getElem?_eq_none (by rw[List.length_set,wipe_length];omega),if_neg hl]
    ·rw[List.getElem?_set_ne hv];rcases List.mem_cons.mp hm with z|z;exact absurd z.symm hv;·exact ih z
  rw[key _ _ hi,key _ _ hi,h.1]
 ·rw[wipe_out hi,wipe_out hi];exact h.2 i hi
theorem u5(σ:L2.St):∀vs,wipe (wipe σ vs) vs=wipe σ vs:=λvs=>by apply u4;exact⟨wipe_length σ vs,λj hj=>wipe_out hj⟩
end
theorem k9{μ1 μ':List Addr}{D:Addr}{n:Nat}(h:∃t,μ'=(μ1++[D])++t)(hl:μ'.length=μ1.length+1):μ'=μ1++[D]:=by
 obtain⟨t,rfl⟩:=h;have:t.length=0:=by rw[List.length_append,List.length_append,List.length_singleton]at hl;omega
 rw[List.eq_nil_of_length_eq_zero this,List.append_nil]
theorem Eo{T:Tb}{W:XK}{mi:IM}{g:Tg}{t:TM}{m:EM}{vs:List Nat}(hsl:∀j∈g.sl,j∈vs):∀σ H Q,rd T W (fX vs mi g t m) σ H Q->tLc (ZS T W mi) (ZR T g) (Ti T W0 t) (rd T W0 m) vs σ H Q:=by
 rintro σ H Q ⟨μ,ρ,S,he,hs,h⟩;unfold fX at h;refine⟨μ,ρ,S,he,hs,?_⟩;cases q:mi ρ S with
 |stk=>rw[q]at h;exact h.elim|err e1 S1=>rw[q]at h;exact h|ok ds S1=>
  rw[q]at h;simp only[R.ak]at h;intro μ1 H1 J ex1 hs1 yl D hD;cases qr:HQ g t m (aT ρ vs) S1.length ds (S1++[.lst []]) with
  |stk=>rw[qr]at h;exact h.elim|err e2 S2=>rw[qr]at h;exact h.elim|ok u Sf=>
   rw[qr]at h;obtain⟨exn,hsn,_⟩:=HD (ds:=[]) (vs:=[]) hs1 (by simp only[av]) hD;have nD:D∉μ1:=(hs1.free hD).1;have len1:S1.length=μ1.length:=hs1.len.symm;have atD:∀{μ':List Addr},μ'=μ1++[D]->μ'[S1.length]?=some D:=λe=>(by rw[e,len1,List.getElem?_append_right (Nat.le_refl _)];simp);refine⟨λi k H'=>k=ds.length-i/\i<=ds.length/\∃μ' S',Ext (μ1++[D]) (upd H1 D (.lst [])) μ' H'/\aI T μ' H' S'/\HQ g t m (aT ρ vs) S1.length (ds.drop i) S'=.ok u Sf,⟨ds.length,by simp,Nat.zero_le _,_,_,Ext.refl,hsn,qr⟩,?_⟩;rintro i k H2 ⟨rfl,hi,μ2,S2,ex2,hs2,e2⟩;by_cases hlt:i<ds.length
   ·have ed:ds[i]?=some ds[i]:=by simp[hlt]
    rw[List.drop_eq_getElem_cons hlt]at e2;obtain⟨go,st⟩:=yl.step μ2 H2 (exn.trans ex2) hs2.tro i _ ed;refine .inr ⟨go,λH'=>∃μ' S',Ext (μ1++[D]) (upd H1 D (.lst [])) μ' H'/\aI T μ' H' S'/\HQ g t m (aT ρ vs) S1.length (ds.drop (i+1)) S'=.ok u Sf,λH' q=>⟨ds.length-(i+1),by omega,rfl,hlt,q⟩,λx H3 y=>?_⟩;obtain⟨sm,rx⟩:=st x H3 y;have ex3:Ext μ2 H2 μ2 H3:=hs2.ext sm;unfold HQ at e2;cases q1:g.put (.v ds[i]) (aT ρ vs) with
    |none=>rw[q1]at e2;cases e2|some ρ1=>
     rw[q1]at e2;simp only at e2;refine⟨μ2,aT ρ vs,S2,.v ds[i],ρ1,u3 ((((he.mono ex1).mono exn).mono ex2).mono ex3) vs,hs2.grow sm,rx,q1,λμ4 H4 σ4 ex4 hs4 he4 off=>⟨?_,?_⟩⟩;·rw[u4 (off.sub hsl),u5]
     ·refine⟨μ4,ρ1,S2,he4,hs4,?_⟩;cases q2:t ρ1 S2 with
      |stk=>rw[q2]at e2;cases e2|err _ _=>rw[q2]at e2;cases e2|ok b S3=>
       rw[q2]at e2;intro μ5 H5 b' ex5 hs5 eb;subst eb;have exx:=((ex2.trans ex3).trans ex4).trans ex5;cases b with
       |false =>refine iteF ⟨μ5,S3,exx,hs5,e2⟩|true=>
        refine iteT ⟨μ5,ρ1,S3,he4.mono ex5,hs5,?_⟩;simp only at e2;cases q3:m ρ1 S3 with
        |stk=>rw[q3]at e2;cases e2|err _ _=>rw[q3]at e2;cases e2|ok w S4=>
         rw[q3]at e2;cases w with
         |m _=>cases e2|v yd=>
          simp only at e2;split at e2
          ·rename_i acc qa;split at e2;·rename_i hc;intro μ6 H6 v ex6 hs6 ry;have exy:=exx.trans ex6;have eμ:μ6=μ1++[D]:=k9 (n:=0) exy.pre (by rw[hs6.len,hc.1,len1]);obtain⟨us,g1,g2⟩:=hs6.at_ _ _ _ (atD eμ) qa;refine⟨us,g1,by rw[g2.length];exact Nat.lt_of_lt_of_le hc.2 (bS (Nat.le_refl _)),μ6,_,?_,?_,e2⟩;obtain⟨x1,x2⟩:=hs6.put (atD eμ) (by omega) (g2.app (av.one ry));exact exy.trans x1;·obtain⟨x1,x2⟩:=hs6.put (atD eμ) (by omega) (g2.app (av.one ry));exact x2
           ·cases e2
          ·cases e2
   ·have e:i=ds.length:=by omega
    subst e;rw[List.drop_length]at e2;simp only[HQ]at e2;cases e2;refine .inl ⟨yl.fin μ2 H2 (exn.trans ex2),?_⟩;simp only at h;split at h
    ·rename_i acc qa;split at h;·rename_i hl;have eμ:μ2=μ1++[D]:=k9 (n:=0) ex2.pre (by rw[hs2.len,hl,len1]);subst eμ;rw[len1]at hl qa h;have e12:Ext μ1 H1 μ1 H2:=ex2.acu hD (λ_ _ _ z=>by cases z);obtain⟨hs3,us,g1,g2⟩:=aI.drop hs2 hl qa (T.mono e12 hs1.inv);refine h μ1 H2 (.ref D) (ex1.trans e12) hs3 ?_;·simp only[aH,Rep];exact⟨D,us,rfl,⟨hs2.niD (by simp) nD,g1⟩,aM g2⟩
     ·exact h.elim
    ·exact h.elim
section
variable {X:Cx}{T:Tb}{W:XK}{elt tg iter:Expr}{ifs:List Expr}{scope:Scope}{own:List (Str×Nat)}{mi:IM}{g:Tg}{t:TM}{m:EM}{pos spos py:Pos}
theorem eN(hc:X.calm=true)(hN:X.N.Nodup)(ok:BlkOk X.N X.env.scope scope own)(hi:MI X T W tg iter mi)
  (hg:∀(s:Shared) (H:Hp) (C:Addr) (cl:List (Str×Addr)) (fp:List Addr),MG (X.blk s H scope (compEnvC scope cl C X.env) fp) T tg g) (ht:∀(s:Shared) (H:Hp) (C:Addr) (cl:List (Str×Addr)) (fp:List Addr),Wh (X.blk s H scope (compEnvC scope cl C X.env) fp) T W0 ifs t)
  (he:∀(s:Shared) (H:Hp) (C:Addr) (cl:List (Str×Addr)) (fp:List Addr),ME (X.blk s H scope (compEnvC scope cl C X.env) fp) T W0 elt m) (hsl:∀j∈g.sl,j∈own.map (·.2):=by decide) (hs:∀x,foldedSetIterable iter X.env x=pure x:=by intro _;rfl) :
  ME X T W (.ListComp elt [⟨tg,iter,ifs,0⟩] scope pos) (fX (own.map (·.2)) mi g t m):=b5 (pe_lc hc hN hi ok hg ht he hs) (Eo hsl)
theorem u6(i:Nat){y:Str}(hc:X.calm=true)(hN:X.N.Nodup)(ok:BlkOk X.N X.env.scope scope own)(hi:MI X T W tg iter mi)
  (hg:∀(s:Shared) (H:Hp) (C:Addr) (cl:List (Str×Addr)) (fp:List Addr),MG (X.blk s H scope (compEnvC scope cl C X.env) fp) T tg g) (ht:∀(s:Shared) (H:Hp) (C:Addr) (cl:List (Str×Addr)) (fp:List Addr),Wh (X.blk s H scope (compEnvC scope cl C X.env) fp) T W0 ifs t)
  (he:∀(s:Shared) (H:Hp) (C:Addr) (cl:List (Str×Addr)) (fp:List Addr),ME (X.blk s H scope (compEnvC scope cl C X.env) fp) T W0 elt m)
  (hsw:swapsWith (.ListComp elt [⟨tg,iter,ifs,0⟩] scope pos) (some (.Name y py)) spos.line X.env=pure true)
  (hsl:∀j∈g.sl,j∈own.map (·.2):=by decide) (hy:X.N[i]?=some y:=by rfl) (hyl:X.env.scope.names.lookup y=some .local:=by rfl) (hs:∀x,foldedSetIterable iter X.env x=pure x:=by intro _;rfl) :
  MS X T W (.Assign [.Name y py] (.ListComp elt [⟨tg,iter,ifs,0⟩] scope pos) spos) (bB i (fX (own.map (·.2)) mi g t m)):=
 mN (ps_setLc hc hN hy hyl hsw hi ok hg ht he hs) λD σ H ⟨μ,ρ,S,he,hs,h⟩=>by refine Eo hsl σ H _ ?_;exact uX he hs h λv H1 μ1 S1 x ex he1 hs1 r h1=>h1 μ1 H1 _ Ext.refl hs1 (he1.set r)
end
def bU(n l:Nat)(m:SM):FM:=λxs S=>if xs.length=n then(m (xs.map some++List.replicate (l-n) none) S).Lj else .stk
theorem Gv{T:Tb}{μ:List Addr}{H:Hp}{N:List Str}{xs:List A}{vs:List V}(r:cU T μ H xs vs):dw T μ H (xs.map some++List.replicate (N.length-xs.length) none) (L2.start N vs):=by
 have hl:=r.length;refine⟨by unfold L2.start;simp[hl],λi x e=>?_⟩;have key:∀{xs:List A}{vs:List V}{i:Nat}{x:A},cU T μ H xs vs->xs[i]?=some x->∃v,vs[i]?=some v/\aH T μ H x v:=by
  intro xs;induction xs with
  |nil=>intro vs i x _ e;simp at e
  |cons y ys ih=>
   rintro vs i x ⟨v,ws,rfl,h1,h2⟩ e;cases i with
   |zero=>simp at e;subst e;exact⟨v,rfl,h1⟩|succ i=>simp at e;simpa using ih h2 e
 by_cases hi:i<xs.length;·rw[List.getElem?_append_left (by simpa using hi),List.getElem?_map]at e;cases q:xs[i]? with|none=>rw[q]at e;cases e|some y =>rw[q]at e;cases e;obtain⟨v,e1,r1⟩:=key r q;refine⟨v,?_,r1⟩;unfold L2.start;rw[List.getElem?_append_left (by simp;omega),List.getElem?_map,e1];rfl
 ·rw[List.getElem?_append_right (by simpa using hi),List.getElem?_replicate]at e;split at e<;>cases e
theorem TZ{T:Tb}{n l:Nat}{m:SM}{vs:List V}{H:Hp}{Q:VK}{E:XK}(h:FW T (bU n l m) vs H Q E):vs.length=n:=by obtain⟨μ,S,xs,r,hs,h⟩:=h;unfold bU at h;split at h;rename_i e;rw[r.length,e];·exact h.elim
section
variable {P:Program}{w:World}{T:Tb}{mg:Str->Option Value}{base:Heap}
theorem cD{x qual:Str}{st:Stmt}{f:Addr}{fd:FuncData}{N ps:List Str}{k:Nat}{m:SM}(F:Fun T.K x qual st f fd)(S:FnScope N ps (defScope st))
  (hbody:∀(cdv:Value) (A:Around) (outer:List PySem.Env) (s:Shared) (H:Hp) (E:XK),Room k (A.deeper (envOfC qual (defScope st) s.heap.objs.size f cdv)) ->
   Lv (cxOf (Au T.nn P w) P w T.K mg base N qual (defScope st) f cdv A outer s H E) T E->PassesOwn (model P w) (A.deeper (envOfC qual (defScope st) s.heap.objs.size f cdv)) (envOfC qual (defScope st) s.heap.objs.size f cdv) (cxOf (Au T.nn P w) P w T.K mg base N qual (defScope st) f cdv A outer s H E).xe ->
   MB (cxOf (Au T.nn P w) P w T.K mg base N qual (defScope st) f cdv A outer s H E) T E (defBody st) m):FD P w T mg base (k+1) f fd ps (bU ps.length N.length m):=by
 obtain⟨oc,od,kV,doc,pm,an,cdv,ct,osl,rfl,lk,hcd⟩:=F.ex;refine fn_of lk hcd S (λvs H Q E h=>TZ h) λA outer s H vs Q E hr h=>?_;have tk:Tu T.nn (cxOf (Au T.nn P w) P w T.K mg base N qual (defScope st) f cdv A outer s H E) (λc d _ H=>E c d H):=Qp rfl rfl rfl rfl;refine⟨_,hbody cdv A outer s H E hr ⟨rfl,tk⟩ (passes_of (K:=λe s''=>Au T.nn P w outer H s E e s'') rfl),?_⟩;obtain⟨μ,St,xs,r,hs,h⟩:=h;unfold bU at h;split at h
 ·rename_i e;refine⟨μ,xs.map some++List.replicate (N.length-ps.length) none,St,?_,hs,?_⟩;·rw[<-e];exact Gv r
  ·cases q:m (xs.map some++List.replicate (N.length-ps.length) none) St with|nx ρ' S'=>rw[q]at h;exactλμ' H' σ' ex hs' he'=>h μ' H' .non ex hs' Qs|rt a S'=>rw[q]at h;exact h|er e S'=>rw[q]at h;exact h|bk _ _=>rw[q]at h;exact h.elim|ct _ _=>rw[q]at h;exact h.elim|stk=>rw[q]at h;exact h.elim
 ·exact h.elim
end
def aS(fM:FM)(r:AM):EM:=λρ S=>(r ρ S).bind λxs S1=>fM xs S1
section
variable {X:Cx}{T:Tb}{W:XK}{e a b c:Expr}{es:List Expr}{ma mv:EM}{r:AM}{pos p apos:Pos}{x m:Str}{k j:Nat}{f:Addr}{fd:FuncData}{ps:List Str}{fM:FM}{dvs:List V}
theorem Lv.pass(L:Lv X T W):Passes (Au T.nn X.prog X.w) X W:=TR L.tk
theorem JR{μ:List Addr}{H:Hp}:∀{xs ys:List A}{vs ws:List V},cU T μ H xs vs->cU T μ H ys ws->cU T μ H (xs++ys) (vs++ws)|[],_,_,_,h,g=>by have e:_=[]:=h;subst e;exact g|x::xs,ys,_,ws,⟨v,us,rfl,h1,h2⟩,g=>⟨v,us++ws,rfl,h1,JR h2 g⟩
theorem aU(L:Lv X T W)(F:FnOk X.prog X.w X.K X.mg X.base (Au T.nn X.prog X.w) k f fd ps (FW T fM))(hr:Room k X.A)(hg:Gl X x)(hm:X.mg x=some (.ref f))(hk:PySem.W.keepIn X.K (.ref f)=true)(hb:Binds X.K fd ps [])
  (ha:MA X T W (e::es) r) (hdb:(x == ("__debug__" : Str))=false:=by decide) (he:starEach (e::es) X.env=(false,eval e X.env)::starEach es X.env:=by rfl) (hpl:(backTo pos (starEach es X.env)).any (·.1)=false:=by rfl) :
  ME X T W (.Call (.Name x p) (e::es) [] pos) (aS fM r):=b5 (pe_call (E:=W) (dvs:=[]) F hr hg hm hk hb .nil L.pass ha hdb he hpl) λσ H Q ⟨μ,ρ,S,hE,hs,h⟩=>by
 refine gB hE hs h λvs H1 μ1 S1 xs ex he1 hs1 rs h1=>?_;refine⟨μ1,S1,xs,?_,hs1,h1⟩;rw[List.append_nil];exact rs
def putD(f:Str)(d:D):List (Str×D)->List (Str×D)|[]=>[(f,d)]|(g,e)::r=>if g=f then(g,d)::r else(g,e)::putD f d r
theorem BO{μ:List Addr}{H:Hp}{f:Str}:∀{fs:List (Str×D)}{vfs:List (Str×V)},dB T μ H fs vfs->(∀d,fs.lookup f=some d->∃v,vfs.lookup f=some v/\Rep T μ H d v)/\(fs.lookup f=none->vfs.lookup f=none)
 |[],vfs,h=>by simp only[dB]at h;subst h;exact⟨λd e=>(by cases e),λ_=>rfl⟩|(g,e)::fs,vfs,h=>by
  simp only[dB]at h;obtain⟨w,ws,rfl,h1,h2⟩:=h;have ih:=BO (f:=f) h2;rw[List.lookup_cons,List.lookup_cons];cases q:f == g with
  |true=>exact⟨λd e'=>by cases e';exact⟨w,rfl,h1⟩,λe'=>by cases e'⟩|false=>exact ih
theorem JS{f g:Str}{v:V}{q:Addr}(c:zt.contains f=false)(c2:zt.contains g=true):∀{vfs:List (Str×V)},(g,V.ref q)∈putF f v vfs->(g,V.ref q)∈vfs
 |[],m=>by rcases List.mem_cons.mp m with e|m;cases e;rw[c]at c2;cases c2;·cases m
 |(g',w)::r,m=>by
  unfold putF at m;by_cases e:g'=f;·rw[if_pos e]at m;rcases List.mem_cons.mp m with z|m;cases z;subst e;rw[c]at c2;cases c2;·exact List.mem_cons_of_mem _ m
  ·rw[if_neg e]at m;rcases List.mem_cons.mp m with z|m;rw[z];exact List.mem_cons_self;·exact List.mem_cons_of_mem _ (JS c c2 m)
theorem z6{f g:Str}{d:D}(ne:g≠f):∀{fs:List (Str×D)},(putD f d fs).lookup g=fs.lookup g|[]=>by unfold putD;rw[List.lookup_cons,beq_false_of_ne ne]|(g',e)::r=>by unfold putD;by_cases q:g'=f;rw[if_pos q,List.lookup_cons,List.lookup_cons,q,beq_false_of_ne ne];·rw[if_neg q,List.lookup_cons,List.lookup_cons,z6 ne]
theorem z7{f g:Str}{d:V}(ne:g≠f):∀{fs:List (Str×V)},(putF f d fs).lookup g=fs.lookup g|[]=>by unfold putF;rw[List.lookup_cons,beq_false_of_ne ne]|(g',e)::r=>by unfold putF;by_cases q:g'=f;rw[if_pos q,List.lookup_cons,List.lookup_cons,q,beq_false_of_ne ne];·rw[if_neg q,List.lookup_cons,List.lookup_cons,z7 ne]
theorem T3{g:Str}(h:fixF.contains g=true):zt.contains g=true:=by
 have k:∀x∈fixF,zt.contains x=true:=by decide
 rw[List.contains_iff_mem]at h;exact k g h
theorem Gx{μ:List Addr}{H:Hp}{f:Str}{d:D}{v:V}(c:zt.contains f=false)(r:Rep T μ H d v):∀{fs:List (Str×D)}{vfs:List (Str×V)},j8 T μ H fs vfs->j8 T μ H (putD f d fs) (putF f v vfs)
 |[],vfs,h=>by have:vfs=[]:=h;subst this;exact⟨v,[],rfl,by rw[if_neg (by rw[c];simp)];exact r,rfl⟩|(g,e)::fs,vfs,h=>by
  obtain⟨w,ws,rfl,h1,h2⟩:=h;unfold putD putF;by_cases q:g=f;·rw[if_pos q,if_pos q];subst q;exact⟨v,ws,rfl,by rw[if_neg (by rw[c];simp)];exact r,h2⟩
  ·rw[if_neg q,if_neg q];refine⟨w,_,rfl,?_,Gx c r h2⟩;by_cases cg:zt.contains g=true;rw[if_pos cg]at h1 ⊢;exact⟨h1.1,by rw[z6 (by rintro rfl;exact q rfl)];exact h1.2⟩;·rw[if_neg cg]at h1 ⊢;exact h1
theorem JT{μ:List Addr}{H:Hp}:∀{fs:List (Str×D)}{vfs:List (Str×V)},j8 T μ H fs vfs->vfs.length=fs.length|[],vfs,h=>by have:vfs=[]:=h;subst this;rfl|(g,e)::fs,vfs,h=>by obtain⟨w,ws,rfl,h1,h2⟩:=h;simp[JT h2]
def XO(T:Tb)(μ:List Addr)(H:Hp)(fs:List (Str×D))(vfs:List (Str×V)):Prop:=∀f,(∀d,fs.lookup f=some d->∃v,vfs.lookup f=some v/\(zt.contains f=false->Rep T μ H d v))/\(fs.lookup f=none->vfs.lookup f=none)
theorem dB.toH{μ:List Addr}{H:Hp}{fs:List (Str×D)}{vfs:List (Str×V)}(h:dB T μ H fs vfs):XO T μ H fs vfs:=λ_=>⟨λd e=>let ⟨v,e1,r⟩:=(BO h).1 d e;⟨v,e1,λ_=>r⟩,(BO h).2⟩
theorem j8.toH{μ:List Addr}{H:Hp}:∀{fs:List (Str×D)}{vfs:List (Str×V)},j8 T μ H fs vfs->XO T μ H fs vfs
 |[],vfs,h=>by have:vfs=[]:=h;subst this;exactλf=>⟨λd e=>(by cases e),λ_=>rfl⟩|(g,e)::fs,vfs,h=>λf=>by
  obtain⟨w,ws,rfl,h1,h2⟩:=h;have ih:=j8.toH h2 f;rw[List.lookup_cons,List.lookup_cons];cases q:f == g with
  |true =>have:f=g:=(by simpa using q);subst this;exact⟨λd e'=>by cases e';exact⟨w,rfl,λc=>by rw[if_neg (by rw[c];simp)]at h1;exact h1⟩,λe'=>by cases e'⟩|false=>exact ih
def c0:A->ag->Option (Nat×List (Str×D))
 |.v (.obj k fs),_=>some (k,fs)|.m n,S=>match S[n]? with
  |some (.ins k fs)=>some (k,fs)|_=>none
 |_,_=>none
theorem iO{μ:List Addr}{H:Hp}{S:ag}{y:A}{v:V}{k:Nat}{fs:List (Str×D)}(hs:aI T μ H S)(r:aH T μ H y v)(e:c0 y S=some (k,fs)):∃p dx vfs,v=.ref p/\H p=some (.ins (T.cA k) dx vfs)/\XO T μ H fs vfs:=by
 unfold c0 at e;split at e;·cases e;simp only[aH,Rep]at r;obtain⟨p,dx,vfs,e1,_,h,rf⟩:=r;exact⟨p,dx,vfs,e1,h,rf.toH⟩
 ·split at e;rename_i q;cases e;obtain⟨p,h1,h2⟩:=r;obtain⟨dx,vfs,h3,h4⟩:=hs.at_ _ _ _ h1 q;exact⟨p,dx,vfs,h2,h3,h4.toH⟩;·cases e
 ·cases e
def fZ(ks:List Nat)(f:Str)(ma:EM):EM:=λρ S=>(ma ρ S).bind λx S1=>match c0 x S1 with
 |some (k,fs)=>if k∈ks then match fs.lookup f with
   |some d=>.ok (.v d) S1|none=>.stk
  else .stk
 |none=>.stk
theorem cK{ks:List Nat}{f:Str}(hK:X.K=T.K)(hc:∀k∈ks,Cls T.K (T.cA k)/\NoAttr T.K (T.cA k) f)(ha:ME X T W a ma)(hb:attributeBase a f X.env (eval a X.env)=eval a X.env:=by rfl)(ho:zt.contains f=false:=by rfl):ME X T W (.Attribute a f pos) (fZ ks f ma):=
 b5 (pe_fld ha hb) λσ H Q ⟨μ,ρ,S,he,hs,h⟩=>by
  refine bL he hs h λv H1 μ1 S1 y ex he1 hs1 ry h1=>?_;cases q:c0 y S1 with
  |none=>rw[q]at h1;exact h1.elim|some kf=>
   obtain⟨k,fs⟩:=kf;rw[q]at h1;simp only at h1;split at h1;·rename_i hk;split at h1;rename_i d qd;obtain⟨p',dx,vfs,rfl,g1,g2⟩:=iO hs1 ry q;obtain⟨w,l1,rw'⟩:=(g2 f).1 _ qd;exact⟨p',_,dx,vfs,w,rfl,g1,hK▸(hc k hk).1,hK▸(hc k hk).2,l1,h1 μ1 H1 w Ext.refl hs1 (rw' ho)⟩;·exact h1.elim
   ·exact h1.elim
def rR(ks:List Nat)(f:Str)(mo mv:EM):SM:=λρ S=>SR.of (mv ρ S) λx S1=>SR.of (mo ρ S1) λo S2=>match x,o with
 |.v d,.m n=>match S2[n]? with
  |some (.ins k fs)=>if k∈ks/\fs.length<100 then .nx ρ (S2.set n (.ins k (putD f d fs))) else .stk
  |_=>.stk
 |_,_=>.stk
theorem aI.aeA{μ:List Addr}{H:Hp}{S:ag}{n:Nat}{p dx:Addr}{k:Nat}{fs:List (Str×D)}{vfs:List (Str×V)}(st:aI T μ H S)(hp:μ[n]?=some p)(hn:n<S.length)(r:j8 T μ H fs vfs)(hsub:∀f q,zt.contains f=true->(f,V.ref q)∈vfs->∃C0 dx0 fs0,H p=some (.ins C0 dx0 fs0)/\(f,V.ref q)∈fs0)(hfix:∀C dx fs f q,H p=some (.ins C dx fs)->fixF.contains f=true->fs.lookup f=some (V.ref q)->vfs.lookup f=some (V.ref q))(hpt:∀f m,Xe.contains f=true->fs.lookup f=some (.ptr m)->m<n/\∃b,μ[m]?=some b/\vfs.lookup f=some (V.ref b)) :Ext μ H μ (upd H p (.ins (T.cA k) dx vfs))/\aI T μ (upd H p (.ins (T.cA k) dx vfs)) (S.set n (.ins k fs)):=by
 have mem:p∈μ:=List.mem_of_getElem? hp;obtain⟨ex,xx⟩:=st.wrE (p:=p) (o:=.ins (T.cA k) dx vfs) mem (λC dx fs f q e c m=>by cases e;exact hsub f q c m) (λC dx fs f q e c l=>⟨_,_,_,rfl,hfix C dx fs f q e c l⟩);have own:∀f q,zt.contains f=true->(f,V.ref q)∈vfs->q∉μ:=λf q c m=>by obtain⟨C0,dx0,fs0,h1,h2⟩:=hsub f q c m;exact(st.owned mem ⟨C0,dx0,fs0,f,h1,c,h2⟩).1
 refine⟨ex,⟨by rw[List.length_set];exact st.len,st.nd,λi a o h1 h2=>?_,λa ha=>?_,T.mono ex st.inv,xx,st.pt.set st.nd hp (λa _ ne=>upd_ne ne) λk0 fs0 f m e hr hm=>by cases e;obtain⟨q1,b,q2,q3⟩:=hpt f m hr hm;exact⟨q1,b,_,dx,vfs,q2,upd_same,q3⟩⟩⟩
 ·by_cases hi:n=i;·subst hi;rw[hp]at h1;cases h1;rw[List.getElem?_set_self hn]at h2;cases h2;exact⟨dx,vfs,upd_same,r.mv ex λf q c m u z=>by rw[upd_ne (by rintro rfl;exact own f _ c m mem)];exact z⟩
  ·rw[List.getElem?_set_ne hi]at h2;have ne:a≠p:=by rintro rfl;exact hi (Ek st.nd hp h1)
   exact st.mvp mem ex ne h1 h2
 ·by_cases hap:a=p;·subst hap;exact⟨_,upd_same⟩
  ·obtain⟨o,q⟩:=st.tr a ha;exact⟨o,by rw[upd_ne hap];exact q⟩
theorem aI.ptF{μ:List Addr}{H:Hp}{S:ag}{n k:Nat}{p dx C:Addr}{fs:List (Str×D)}{vfs:List (Str×V)}{f:Str}{d:D}{v:V}(hs:aI T μ H S)(hr0:Xe.contains f=false)(g1:μ[n]?=some p)(q:S[n]?=some (.ins k fs))(g2:H p=some (.ins C dx vfs))(g:Str)(m:Nat)(hr:Xe.contains g=true)(hm:(putD f d fs).lookup g=some (.ptr m)):m<n/\∃b,μ[m]?=some b/\(putF f v vfs).lookup g=some (V.ref b):=by
 have hg:g≠f:=by rintro rfl;rw[hr0]at hr;cases hr
 rw[z6 hg]at hm;obtain⟨q1,b,C1,dx1,vfs1,q2,q3,q4⟩:=hs.pt n p k fs g m g1 q hr hm;rw[g2]at q3;cases q3;exact⟨q1,b,q2,by rw[z7 hg];exact q4⟩
theorem v8{ks:List Nat}{f:Str}{mo:EM}(hK:X.K=T.K)(hc:∀k∈ks,Cls T.K (T.cA k)/\NoAttr T.K (T.cA k) f)(ha:ME X T W a mo)(hv:ME X T W b mv)(hs:swapsWith b (some (.Attribute a f p)) pos.line X.env=pure false:=by rfl)(ho:zt.contains f=false:=by rfl)(hr0:Xe.contains f=false:=by rfl) :MS X T W (.Assign [.Attribute a f p] b pos) (rR ks f mo mv):=mN (ps_fld ha hv hs) λD σ H ⟨μ,ρ,S,he,hs,h⟩=>by
 refine uX he hs h λv H1 μ1 S1 x ex he1 hs1 rx h1=>?_;refine uX he1 hs1 h1 λov H2 μ2 S2 y ex2 he2 hs2 ro h2=>?_;have rx2:=rx.mono ex2;cases x with
 |m _=>exact h2.elim|v d=>
  cases y with
  |v _=>exact h2.elim|m n=>
   simp only at h2;split at h2;·rename_i k fs q;split at h2;rename_i hk;obtain⟨p',g1,rfl⟩:=ro;obtain⟨dx,vfs,g2,g3⟩:=hs2.at_ _ _ _ g1 q;refine⟨p',_,dx,vfs,rfl,g2,hK▸(hc k hk.1).1,hK▸(hc k hk.1).2,by rw[JT g3];omega,?_⟩;have hn:n<S2.length:=(List.getElem?_eq_some_iff.mp q).1;obtain⟨e1,e2⟩:=aI.aeA (k:=k) (dx:=dx) hs2 g1 hn (Gx (f:=f) ho rx2 g3) (λg q c m=>⟨_,_,_,g2,JS ho c m⟩) (λC dx fs g q e c l=>by rw[g2]at e;cases e;rw[z7 (by rintro rfl;rw[T3 c]at ho;cases ho)];exact l) (hs2.ptF hr0 g1 q g2);exact h2 μ2 _ σ e1 e2 (he2.mono e1);·exact h2.elim
   ·exact h2.elim
def fb(k:Nat)(m:Str)(fM:FM)(mo:EM)(r:AM):EM:=λρ S=>(mo ρ S).bind λo S1=>match c0 o S1 with
 |some (k',fs)=>if k'=k/\(fs.lookup m).isNone=true then(r ρ S1).bind λxs S2=>fM (o::xs) S2 else .stk
 |none=>.stk
theorem O3{α:Type}{o:Option α}(h:o.isNone=true):o=none:=by cases o<;>first|rfl|cases h
theorem JU{mo:EM}:∀σ H Q,rd T W (fb k m fM mo r) σ H Q->tMeth (T.cA k) m (FW T fM) [] W (rd T W mo) (Tj T W r) σ H Q:=λσ H Q ⟨μ,ρ,S,he,hs,h⟩=>by
 refine bL he hs h λv H1 μ1 S1 y ex he1 hs1 ry h1=>?_;cases q:c0 y S1 with
 |none=>rw[q]at h1;exact h1.elim|some kf =>obtain⟨k',fs⟩:=kf;rw[q]at h1;simp only at h1;split at h1;rename_i hk;obtain⟨rfl,hl⟩:=hk;obtain⟨p',dx,vfs,rfl,g1,g2⟩:=iO hs1 ry q;refine⟨p',dx,vfs,rfl,g1,(g2 _).2 (O3 hl),?_⟩;refine gB he1 hs1 h1 λvs H2 μ2 S2 xs ex2 he2 hs2 rs h2=>?_;exact⟨μ2,S2,y::xs,⟨_,_,rfl,ry.mono ex2,by rw[List.append_nil];exact rs⟩,hs2,h2⟩;·exact h1.elim
theorem AH{o:Expr}{mo:EM}{pl:Sem Bool}(L:Lv X T W)(ho:ME X T W o mo)(cc:Cls X.K (T.cA k))(hm:Meth X.K (T.cA k) m f)(F:FnOk X.prog X.w X.K X.mg X.base (Au T.nn X.prog X.w) j f fd ps (FW T fM))(hr:Room j X.A)(hb:Binds X.K fd ps [])(ha:MA X T W (e::es) r)
  (hst:starEach (e::es) X.env=(false,eval e X.env)::starEach es X.env:=by rfl) (hpl:(backTo pos (starEach es X.env)).any (·.1)=false:=by rfl)
  (ht:eval (.Call (.Attribute o m apos) (e::es) [] pos) X.env=(do
   let ov <-eval o X.env
   standAt apos.atName
   let (f,first) <-holding [ov] (getMethod ov m pl)
   callWith pos f first (backTo pos (starEach (e::es) X.env)) (backToKw pos (keywordEach [] X.env))):=by rfl) :
  ME X T W (.Call (.Attribute o m apos) (e::es) [] pos) (fb k m fM mo r):=b5 (pe_meth (E:=W) (dvs:=[]) ho cc hm F hr hb .nil L.pass ha hst hpl ht) JU
theorem lh{o:Expr}{mo:EM}{pl:Sem Bool}(L:Lv X T W)(ho:ME X T W o mo)(cc:Cls X.K (T.cA k))(hm:Meth X.K (T.cA k) m f)(F:FnOk X.prog X.w X.K X.mg X.base (Au T.nn X.prog X.w) j f fd ps (FW T fM))(hr:Room j X.A)(hb:Binds X.K fd ps [])
  (ht:eval (.Call (.Attribute o m apos) [] [] pos) X.env=(do
   let ov <-eval o X.env
   standAt apos.atName
   let (f,first) <-holding [ov] (getMethod ov m pl)
   callWith pos f first (backTo pos (starEach [] X.env)) (backToKw pos (keywordEach [] X.env))):=by rfl) :
  ME X T W (.Call (.Attribute o m apos) [] [] pos) (fb k m fM mo ah):=b5 (pe_meth0 (E:=W) (dvs:=[]) ho cc hm F hr hb .nil L.pass ht) λσ H Q h=>by
 obtain⟨μ,ρ,S,he,hs,h⟩:=JU σ H Q h;refine⟨μ,ρ,S,he,hs,h.imp λv H1 ⟨p',dx,fs,e1,e2,e3,μ2,ρ2,S2,he2,hs2,h2⟩=>⟨p',dx,fs,e1,e2,e3,?_⟩⟩;exact h2 μ2 H1 [] Ext.refl hs2 rfl
def CL(k:Nat)(fM:FM)(mo:EM):EM:=λρ S=>(mo ρ S).bind λo S1=>match c0 o S1 with
 |some (k',_)=>if k'=k then match fM [o] S1 with
   |.ok x S2=>.ok x S2|_=>.stk
  else .stk
 |none=>.stk
theorem Nc{o:Expr}{mo:EM}{g pp:Addr}{fn:Str}(L:Lv X T W)(ho:ME X T W o mo)(cc:Cls X.K (T.cA k))(hp:PropOf X.K (T.cA k) fn pp g)(F:FnOk X.prog X.w X.K X.mg X.base (Au T.nn X.prog X.w) j g fd ps (FW T fM))(hr:Room (j+1) X.A)(hb:Binds X.K fd ps [])
  (hab:attributeBase o fn X.env (eval o X.env)=eval o X.env:=by rfl):ME X T W (.Attribute o fn pos) (CL k fM mo):=b5 (pe_prop (E:=λ_ _ _=>False) (dvs:=[]) ho cc hp F hr hb .nil (λpins σ H s e s' I c=>(aaK c).elim) hab) λσ H Q ⟨μ,ρ,S,he,hs,h⟩=>by
 refine bL he hs h λv H1 μ1 S1 y ex he1 hs1 ry h1=>?_;cases q:c0 y S1 with
 |none=>rw[q]at h1;exact h1.elim|some kf=>
  obtain⟨k',fs⟩:=kf;rw[q]at h1;simp only at h1;split at h1;·rename_i hk;subst hk;obtain⟨p',dx,vfs,rfl,g1,g2⟩:=iO hs1 ry q;refine⟨p',dx,vfs,rfl,g1,μ1,S1,[y],⟨_,_,rfl,ry,rfl⟩,hs1,?_⟩;cases qf:fM [y] S1 with|ok x S2=>rw[qf]at h1;exact h1|err _ _=>rw[qf]at h1;exact h1.elim|stk=>rw[qf]at h1;exact h1.elim
  ·exact h1.elim
def Nd(k n:Nat):R A->R A
 |.ok (.v .non) S2=>match S2[n]? with
  |some (.ins k' fs)=>if k'=k/\S2.length=n+1 then .ok (.v (.obj k fs)) (S2.take n) else .stk
  |_=>.stk
 |.err e S2=>if S2.length=n+1 then match S2[n]? with
  |some (.ins _ _)=>.err e (S2.take n)|_=>.stk
  else .stk
 |_=>.stk
def l4(k:Nat)(fM:FM)(r:AM):EM:=λρ S=>(r ρ S).bind λxs S1=>Nd k S1.length (fM (.m S1.length::xs) (S1++[.ins k []]))
theorem XP{μ:List Addr}{H:Hp}{S:ag}{p dx:Addr}{k:Nat}(hs:aI T μ H S)(hp:H p=none)(hd:H dx=none)(ne:dx≠p) :Ext μ H (μ++[p]) (upd (upd H dx (.own p)) p (.ins (T.cA k) dx []))/\aI T (μ++[p]) (upd (upd H dx (.own p)) p (.ins (T.cA k) dx [])) (S++[.ins k []])/\aH T (μ++[p]) (upd (upd H dx (.own p)) p (.ins (T.cA k) dx [])) (.m S.length) (.ref p):=by
 have sm:Same H (upd (upd H dx (.own p)) p (.ins (T.cA k) dx [])):=λb o e=>by rw[upd_ne (ne_of_none e hp),upd_ne (ne_of_none e hd)];exact e
 have np:=(hs.free hp).1;obtain⟨ex,xx⟩:=hs.push sm hp (λC dx' fs e f v m=>by rw[upd_same]at e;cases e;cases m);have gl:(μ++[p])[S.length]?=some p:=by rw[<-hs.len,List.getElem?_append_right (Nat.le_refl _)];simp
 refine⟨ex,⟨by simp[hs.len],?_,λi a o h1 h2=>?_,λa ha=>?_,T.mono ex hs.inv,xx,hs.pt.push hs.len (λa _ C dx fs z=>sm a _ z) λk fs f n z=>by cases z;simp⟩,⟨p,gl,rfl⟩⟩;·rw[List.nodup_append];exact⟨hs.nd,by simp,λa ha b hb=>by rw[List.mem_singleton.mp hb];rintro rfl;exact np ha⟩
 ·by_cases hi:i<S.length;·rw[List.getElem?_append_left (by rw[hs.len];exact hi)]at h1;rw[List.getElem?_append_left hi]at h2;exact hs.mvs ex sm h1 h2
  ·rw[List.getElem?_append_right (by omega)]at h2;have e1:i-S.length=0:=by have:=(List.getElem?_eq_some_iff.mp h2).1;simpa using this
   have e2:i=S.length:=(by omega);subst e2;rw[gl]at h1;simp at h2;cases h1;subst h2;exact⟨dx,[],upd_same,rfl⟩
 ·rcases List.mem_append.mp ha with h|h;obtain⟨o,q⟩:=hs.tr a h;exact⟨o,sm _ _ q⟩;·rw[List.mem_singleton.mp h];exact⟨_,upd_same⟩
theorem Qy{k:Nat}{μ1:List Addr}{H1:Hp}{S1:ag}{Q:VK}{xs:List A}{vs:List V}{x dx:Addr}{c:R A}(hs1:aI T μ1 H1 S1)(hx:H1 x=none)(hdx:H1 dx=none)(ne:dx≠x)(rs:cU T μ1 H1 xs vs)
  (h1:oU T (λμ H=>aH T μ H) μ1 H1 Q W (Nd k S1.length c)):∃μ2,aI T μ2 (upd (upd H1 dx (.own x)) x (.ins (T.cA k) dx [])) (S1++[.ins k []])/\cU T μ2 (upd (upd H1 dx (.own x)) x (.ins (T.cA k) dx [])) (.m S1.length::xs) (.ref x::vs) /\
   oU T (λμ H=>aH T μ H) μ2 (upd (upd H1 dx (.own x)) x (.ins (T.cA k) dx [])) (λv H3=>v=.non/\Q (.ref x) H3) W c:=by
 obtain⟨exn,hsn,rn⟩:=XP (k:=k) hs1 hx hdx ne;refine⟨μ1++[x],hsn,⟨_,_,rfl,rn,rs.mono exn⟩,?_⟩;have nx:x∉μ1:=(hs1.free hx).1;have back:∀{H':Hp},Ext (μ1++[x]) (upd (upd H1 dx (.own x)) x (.ins (T.cA k) dx [])) (μ1++[x]) H'->Ext μ1 H1 μ1 H':=λ{H'} ex2 =>ex2.cutS hs1.tr hx (λb o e=>by rw[upd_ne (ne_of_none e hx),upd_ne (ne_of_none e hdx)];exact e) (λC dx' fs e f v m=>by rw[upd_same]at e;cases e;cases m);cases c with
 |stk=>exact h1.elim|err e S2=>
  unfold Nd at h1;simp only at h1;split at h1;·rename_i hl;split at h1;intro μ2 H2 cls d ex2 hs2 re;have eμ:μ2=μ1++[x]:=k9 (n:=0) ex2.pre (by rw[hs2.len,hl,<-hs1.len]);subst eμ;rw[<-hs1.len]at hl h1;refine h1 μ1 H2 cls d (back ex2) (hs2.less hl (T.mono (back ex2) hs1.inv)) ?_;obtain⟨e1,dd',vfs,e2,n2,e3,e4⟩:=re;exact⟨e1,dd',vfs,e2,n2.less,e3,uR e4⟩;·exact h1.elim
  ·exact h1.elim
 |ok w S2=>
  cases w with
  |m _=>exact h1.elim|v dv=>
   cases dv with
   |non=>
    unfold Nd at h1;simp only at h1;split at h1
    ·rename_i k' fs q;split at h1
     ·rename_i hk;obtain⟨rfl,hl⟩:=hk;intro μ2 H2 v ex2 hs2 rv;refine⟨HF rv,?_⟩;have eμ:μ2=μ1++[x]:=k9 (n:=0) ex2.pre (by rw[hs2.len,hl,<-hs1.len]);subst eμ;rw[<-hs1.len]at hl h1 q;have gp:(μ1++[x])[μ1.length]?=some x:=by rw[List.getElem?_append_right (Nat.le_refl _)];simp
      obtain⟨dx2,vfs,g1,g2⟩:=hs2.at_ _ _ _ gp q;refine h1 μ1 H2 (.ref x) (back ex2) (hs2.less hl (T.mono (back ex2) hs1.inv)) ?_;simp only[aH,Rep];exact⟨x,dx2,vfs,rfl,hs2.niD (by simp) nx,g1,hs2.ZP (by simp) nx g1 g2⟩
     ·exact h1.elim
    ·exact h1.elim
   |_=>exact h1.elim
theorem Qz:∀σ H Q,rd T W (l4 k fM r) σ H Q->tMake (T.cA k) (FW T fM) [] W (Tj T W r) σ H Q:=λσ H Q ⟨μ,ρ,S,he,hs,h⟩=>by refine gB he hs h λvs H1 μ1 S1 xs ex he1 hs1 rs h1=>?_;intro x dx hx hdx ne;obtain⟨μ2,g1,g2,g3⟩:=Qy hs1 hx hdx ne rs h1;exact⟨μ2,_,_,by rw[List.append_nil];exact g2,g1,g3⟩
theorem v9{fI:Addr}(L:Lv X T W)(M:Mk X.K (T.cA k) fI)(F:FnOk X.prog X.w X.K X.mg X.base (Au T.nn X.prog X.w) j fI fd ps (FW T fM))(hr:Room (j+1) X.A)(hg:Gl X x)(hm:X.mg x=some (.ref (T.cA k)))(hb:Binds X.K fd ps [])(ha:MA X T W (e::es) r)
  (hdb:(x == ("__debug__" : Str))=false:=by decide) (he:starEach (e::es) X.env=(false,eval e X.env)::starEach es X.env:=by rfl) (hpl:(backTo pos (starEach es X.env)).any (·.1)=false:=by rfl) :
  ME X T W (.Call (.Name x p) (e::es) [] pos) (l4 k fM r):=b5 (pe_make (E:=W) (dvs:=[]) M F hr hg hm hb .nil L.pass ha hdb he hpl) Qz
end
open NdefX
theorem Ep{K:PySem.W.Frag}{h:Heap}(X:K.In h){cc:Addr}{v:Value}(e:Gb K cc=some v):h.IsCell cc (some v):=by unfold Gb at e;split at e;rename_i q;cases e;exact⟨_,X _ _ q,rfl⟩;·cases e
theorem QA{K:PySem.W.Frag}{h:Heap}(X:K.In h){c:Addr}{main:Str}(e:Ge K c main=true):∃(oc:Obj) (vs:Array Value) (file:Str) (tf:Tok),h.get? c=some oc/\oc.data=.fields vs/\vs[2]?=some (.str file tf)/\(main == file)=true:=by
 unfold Ge at e;split at e;·rename_i q;split at e;rename_i q2;exact⟨_,_,_,_,X _ _ q,rfl,q2,e⟩;·cases e
 ·cases e
structure XQ (K:PySem.W.Frag) (C cc c:Addr) (qual:Str) (main:Str):Prop where
 cell:Gb K cc=some (.ref C)
 sup:PySem.W.ks_superIn K C C "__init__" = some (some (.builtin "ValueError.__init__"))
 vE:PySem.W.subIn K (.ref C) (.type "ValueError")=some true
 self:PySem.W.mroIn K C (.ref C)=some true
 opq:PySem.W.nsIn K cStatics "thirdparty.any" = some none
 code:PySem.W.codeIn K (.ref c) qual=true
 file:Ge K c main=true
abbrev tR(p0 p1 p2 pos:Pos):Expr:=.Call (.Attribute (.Call (.Name "super" p0) [] [] p1) "__init__" p2) [] [] pos
section
variable {X:Cx}{C cc c a f:Addr}{qual:Str}{p0 p1 p2 pos spos:Pos}
theorem O4{pins:List (Addr×Obj)}{σ:L2.St}{H:Hp}{s:Shared}{body:List Stmt}{fd:FuncData}{of:Obj}{ar:Arg}{i j:Nat}{Q:Flow->Shared->Prop}{E:Value->Shared->Prop}(I:Inv X pins σ H s)(T:OexC X.K C)(U:XQ X.K C cc c qual X.prog.main.file)
  (he:H a=some (exo a C none)) (hs0:σ[i]?=some (some (.ref a))) (hs1:σ[j]?=some (some (.ref C))) (hN0:X.N[i]?=some ar.arg) (hN1:X.N[j]?=some ("__class__" : Str)) (hL:X.env.scope.names.lookup ar.arg=some .local) (hF:X.env.scope.names.lookup ("__class__" : Str)=some .free)
  (hS:X.env.scope.names.lookup ("super" : Str)=some .globalImplicit) (hm:X.mg "super" = none) (hfu:X.env.func=some f) (hf:s.heap.get? f=some of) (hfd:of.data=.func fd) (hp:(fd.params.posonlyargs++fd.params.args).head?=some ar) (hco:X.env.code=.ref c)
  (htop:(X.prog.main.scope.names.lookup ("super" : Str)).isSome=false) (hi:interactive X.env=false) (hsw:swapsWith (tR p0 p1 p2 pos) none spos.line X.env=pure false)
  (hd:(ar.arg == ("__debug__" : Str))=false) (hcd:(ar.arg == ("__classdict__" : Str))=false)
  (hev:∃pl,eval (tR p0 p1 p2 pos) X.env=(do
   let ov <-attributeBase (.Call (.Name "super" p0) [] [] p1) "__init__" X.env (eval (.Call (.Name "super" p0) [] [] p1) X.env)
   standAt p2.atName
   let (f,first) <-holding [ov] (getMethod ov "__init__" pl)
   callWith pos f first (backTo pos (starEach [] X.env)) []))
  (h:∀s',Inv X pins σ H s'->Q .next s'):_root_.PySem.wpAt (model X.prog X.w) X.A (.func body X.env) (exec (.Expr (tR p0 p1 p2 pos) spos) X.env) Q E s:=by
 obtain⟨pl,hev⟩:=hev;obtain⟨nm,q,N,bs,bm,sn,sub,ab,col,dd,k0,k1,k2,k3,k5,hC,hbm⟩:=T.cls;have hcl:PySem.W.clsIn X.K C=some { name:=nm,bases:=bs,mro:=.ref C::bm,ns:=N,qualname:=q,hasDict:=true,slotNames:=sn,subclasses:=sub,abstract:=ab,collection:=col,hasDel:=false }:=by unfold PySem.W.clsIn;rw[hC]<;>rfl
 obtain⟨oc,vs,file,tf,hcc,hoc,hvs,hfile⟩:=QA I.kIn U.file;refine ks_wpAt_Expr_any ?_ hi hsw;refine ks_wpAt_MethodCall ?_ hev;refine ks_wpAt_super_base (cc:=c) hS hF (by decide) hfu hf hfd hp hco hcc hoc hvs hfile htop ?_;refine PySem.W.ks_loadName_global I.ok.kind hS ?_;obtain⟨mb,g1,g2⟩:=I.mod.blt;refine Calls.loadGlobal_builtin (by rw[I.ok.glob];exact I.mod.glob.keeps I.bk) hm (by rw[I.ok.blt];exact g1.keeps I.bk) ((g2 "super" (by decide)).trans rfl) ⟨rfl,?_⟩;obtain⟨m,hn,hl⟩:=id I.loc;obtain⟨u1,r1,l1⟩:=hl j _ _ hN1 hs1 (.inr (.inr hF));obtain rfl:u1=Value.ref C:=r1;obtain⟨c1,hc1,hcell1⟩:∃c1,X.env.cells.lookup ("__class__" : Str)=some c1/\s.heap.IsCell c1 (some (.ref C)):=by
  rcases l1 with ⟨z,_⟩|⟨_,q⟩
  have hk:X.env.kindOf "__class__" = some .free:=hF;rw[hk]at z;cases z;·exact q
 refine wpAny_loadName_free I.ok.kind hF hc1 hcell1 ?_ (by decide);obtain⟨u0,r0,l0⟩:=hl i _ _ hN0 hs0 (.inl hL);obtain rfl:u0=Value.ref a:=r0;have hma:m ar.arg=some (.ref a):=by
  rcases l0 with ⟨_,hma⟩|⟨z,_⟩
  exact hma;·have hk:X.env.kindOf ar.arg=some .local:=hL;rcases z with z|z<;>rw[hk]at z<;>cases z
 refine wpAny_loadName_local I.ok.kind hL hn hma ?_;obtain⟨t1,ho⟩:=exo_at I.hok he;have hCo:=I.kIn _ _ hC;have aC:a≠C:=by rintro rfl;rw[hCo]at ho;cases ho
 obtain⟨hp0,g,d,tk,os⟩:=s;refine ks_wpAny_isType_cls hCo rfl ⟨rfl,?_⟩;refine ks_wpAny_call_super hCo rfl ho rfl (λc e=>by cases e) (PySem.W.looks_mroIn I.kIn U.self) (λh1 e1 k1=>?_);have I1:Inv X pins σ H ⟨h1,g,d,tk,os⟩:=I.kept (t':=tk) k1;have hI:PySem.W.Looks (model X.prog X.w) h1 (isInstance (.ref a) (.type "ValueError")) true:=by have q:PySem.W.InstAt h1 a { cls:=.ref C,dict:=none,data:=.fields #[.ref t1,.none,.none,.none,.bool false,.none] } C none:=⟨k1 _ _ ho,rfl,rfl,trivial⟩;exact q.type.andThen (PySem.W.looks_subIn I1.kIn U.vE)
 have hU:=U.sup;unfold PySem.W.ks_superIn at hU;rw[hcl]at hU;refine PySem.W.kxs_getMethod PySem.W.kxs_ValueError (x:=a) e1 (PySem.W.looks_opaque I1.kIn U.opq) ((PySem.W.looks_clsIn I1.kIn hcl).andThen .now) rfl I1.kIn hU hI aC (by decide) ?_;have eu:(h1.push (PySem.W.kxs_mw "ValueError.__init__" a)).get? h1.objs.size=some (PySem.W.kxs_mw "ValueError.__init__" a):=Heap.get?_push_at rfl rfl;have k2:∀b o,h1.get? b=some o->(h1.push (PySem.W.kxs_mw "ValueError.__init__" a)).get? b=some o:=λb o e=>Heap.get?_push_of_some _ e;have I2:Inv X pins σ H ⟨h1.push (PySem.W.kxs_mw "ValueError.__init__" a),g,d,tk+1,os⟩:=Inv.kept (t':=tk+1) I1 k2;refine PySem.W.kxs_callWith (i:= "ValueError.__init__") (x:=a) rfl (evalArgs_empty ⟨eu,?_⟩);refine wpAny_call (codeAny_of_tree ?_);show wpAny _ X.A.in1 (callAny (.ref h1.objs.size) ⟨[],[]⟩) _ _ _;simp only[callAny];refine wpAny_bind (wpAny_load eu ?_);simp only[PySem.W.kxs_mw,show(Value.type "method-wrapper" == Value.type "method" || Value.type "method-wrapper" == Value.type "builtin_function_or_method" || Value.type "method-wrapper" == Value.type "method-wrapper")=true by decide,if_true];refine PySem.W.KFB.if_so (by decide) ?_;have he2:=k2 _ _ (k1 _ _ ho);refine wpAny_bind (PySem.W.check_bound_init F.excBase_ValueError.toExcCallFacts (k2 _ _ (k1 _ _ hCo)) he2 rfl ?_);refine wpAny_bind (wpAny_pure (wpAny_pure ?_));refine⟨plainId_quiet F.excBase_ValueError.init.plain _,codeAny_builtin F.excBase_ValueError.initEntry ?_⟩;refine PySem.W.exc_init_tree (cls:=.ref C) (t0:=t1) (dv:=none) (c2:=.none) (c3:=.none) (b4:=.bool false) he2 (by simp[sizeLine_eq]) λh3 k3 e3 _=>?_;have J:=I2.write (t':=tk+1) (h':=h3) (x:=a) (e:=a) (o:=exo a C none) (by rw[he];exact True.intro) (.inl rfl) k3 ⟨_,e3⟩ (exo_ok e3);have eu:upd H a (exo a C none)=H:=by funext b;by_cases hb:b=a;rw[hb,upd_same,he];·rw[upd_ne hb]
 rw[eu]at J;exact h _ J
end
def LC(ps:List Str):Stmt->Option (Str×kO)
 |.Assign [.Attribute (.Name x0 _) f _] (.Name y _) _=>if ps[0]?=some x0/\(x0 == ("__debug__" : Str))=false/\(x0 == ("__classdict__" : Str))=false/\(y == ("__debug__" : Str))=false/\(y == ("__classdict__" : Str))=false then
   (match ps.idxOf? y with|some (i+1)=>some (f,.inl i)|_=>none) else none
 |.Assign [.Attribute (.Name x0 _) f _] (.Constant (.str z) _ _) _=>if ps[0]?=some x0/\(x0 == ("__debug__" : Str))=false/\(x0 == ("__classdict__" : Str))=false then some (f,.inr z) else none
 |_=>none
def CM(ps:List Str):List Stmt->Option (List (Str×kO))
 |[]=>some []|st::r=>match LC ps st,CM ps r with
  |some x,some xs=>some (x::xs)|_,_=>none
def valV(ys:List V):kO->V|.inl i=>ys.getD i .non|.inr z=>.str z
def xn(fl:List (Str×kO))(ys:List V):List (Str×V):=(fl.map λp=>(p.1,valV ys p.2)).reverse
def valD(ys:List D):kO->D|.inl i=>ys.getD i .non|.inr z=>.str z
def LD(fl:List (Str×kO))(ys:List D):List (Str×D):=(fl.map λp=>(p.1,valD ys p.2)).reverse
def aaX(K:PySem.W.Frag)(C:Addr)(fl:List (Str×kO)):TS:=λD σ H=>∃(a dx:Addr) (fs:List (Str×V)) (ys:List V),σ[0]?=some (some (.ref a))/\(∀i,i<ys.length->σ[i+1]?=some (some (ys.getD i .non))) /\
 a≠dx/\H a=some (exo a C (some dx))/\H dx=some (exd dx fs)/\fs.length+fl.length<=900/\(∀p∈fl,∀i,p.2=.inl i->i<ys.length)/\OexC K C/\(∀p∈fl,PySem.W.findIn K (.ref C) p.1=some none)/\D.nx σ (upd H dx (exd dx (xn fl ys++fs)))
def aaY(K:PySem.W.Frag)(C:Addr)(fl:List (Str×kO)):TS:=λD σ H=>∃(a:Addr) (ys:List V),σ[0]?=some (some (.ref a))/\(∀i,i<ys.length->σ[i+1]?=some (some (ys.getD i .non))) /\
 H a=some (exo a C none)/\fl.length<=900/\fl≠[]/\(∀p∈fl,∀i,p.2=.inl i->i<ys.length)/\OexC K C/\(∀p∈fl,PySem.W.findIn K (.ref C) p.1=some none)/\∀dx,H dx=none->dx≠a->D.nx σ (upd (upd H dx (exd dx (xn fl ys))) a (exo a C (some dx)))
theorem XS{H:Hp}{a:Addr}{o:HO}(e:H a=some o):upd H a o=H:=by funext b;by_cases hb:b=a;rw[hb,upd_same,e];·rw[upd_ne hb]
theorem upd_upd{H:Hp}{a:Addr}{o u:HO}:upd (upd H a o) a u=upd H a u:=by funext b;by_cases hb:b=a;rw[hb,upd_same,upd_same];·rw[upd_ne hb,upd_ne hb,upd_ne hb]
theorem QB{H:Hp}{a b:Addr}{o u:HO}(ne:a≠b):upd (upd H a o) b u=upd (upd H b u) a o:=by
 funext c;by_cases hc:c=a;·subst hc;rw[upd_ne ne,upd_same,upd_same]
 ·by_cases hb:c=b;subst hb;rw[upd_same,upd_ne hc,upd_same];·rw[upd_ne hb,upd_ne hc,upd_ne hc,upd_ne hb]
section
variable {X:Cx}{C:Addr}{ps:List Str}
theorem Nf{st:Stmt}{p:Str×kO}(hX:∀(i:Nat) y,ps[i]?=some y->X.N[i]?=some y/\Vis X.env.scope y)(e:LC ps st=some p) :PS X st (tOst X.K p.1 (tVar 0) (match p.2 with|.inl i=>tVar (i+1)|.inr z=>tC (.str z))):=by
 unfold LC at e;split at e
 ·rename_i x0 pa f pb y pc pd;split at e
  ·rename_i h;obtain⟨h1,h2,h3,h4,h5⟩:=h;split at e
   ·rename_i i q;cases e;obtain⟨n0,v0⟩:=hX _ _ h1;have hi:ps[i+1]?=some y:=by have q2:=List.idxOf?_eq_some_iff.mp q;obtain⟨hlt,he,_⟩:=q2;rw[List.getElem?_eq_getElem hlt];exact congrArg some he
    obtain⟨n1,v1⟩:=hX _ _ hi;exact ps_ost (pe_var n0 v0 h2 h3) (pe_var n1 v1 h4 h5) rfl
   ·cases e
  ·cases e
 ·split at e;rename_i h;obtain⟨h1,h2,h3⟩:=h;cases e;obtain⟨n0,v0⟩:=hX _ _ h1;exact ps_ost (pe_var n0 v0 h2 h3) pe_str rfl;·cases e
 ·cases e
theorem QC{σ:L2.St}{D:Ends}{H:Hp}{ys:List V}{w:kO}{Q:V->Hp->Prop}(hy:∀i,i<ys.length->σ[i+1]?=some (some (ys.getD i .non)))(hw:∀i,w=.inl i->i<ys.length)(q:Q (valV ys w) H):(match w with|.inl i=>tVar (i+1)|.inr z=>tC (.str z)) σ H Q:=by
 cases w with
 |inl i=>exact⟨_,hy i (hw i rfl),q⟩|inr z=>exact q
theorem JV(hX:∀(i:Nat) y,ps[i]?=some y->X.N[i]?=some y/\Vis X.env.scope y):∀{sts:List Stmt}{fl:List (Str×kO)},CM ps sts=some fl->PSs X sts (aaX X.K C fl)
 |[],fl,e=>by
  have e':fl=[]:=by simpa[CM]using e.symm
  subst e';refine mO pss_nil λD σ H ⟨a,dx,fs,ys,_,_,_,_,h2,_,_,_,_,q⟩=>?_;have:upd H dx (exd dx (xn [] ys++fs))=H:=XS (by simpa[xn]using h2);rw[this]at q;exact q
 |st::r,fl,e=>by
  unfold CM at e;split at e
  ·rename_i p xs e1 e2;cases e;refine mO (pss_cons (Nf hX e1) (JV hX e2)) λD σ H ⟨a,dx,fs,ys,h0,hy,ne,h1,h2,h3,h4,h5,h6,q⟩=>?_;refine QC (D:=D) hy (λi e=>h4 p List.mem_cons_self i e) ⟨.ref a,h0,a,C,rfl,h5,h6 p List.mem_cons_self,.inr ⟨dx,fs,h1,h2,by simp at h3;omega,?_⟩⟩;refine⟨a,dx,_,ys,h0,hy,ne,by rw[upd_ne ne];exact h1,upd_same,by simp at h3 ⊢;omega,λx hx=>h4 x (List.mem_cons_of_mem _ hx),h5,λx hx=>h6 x (List.mem_cons_of_mem _ hx),?_⟩;rw[upd_upd];have el:xn xs ys++(p.1,valV ys p.2)::fs=xn (p::xs) ys++fs:=by simp[xn]
   rw[el];exact q
  ·cases e
theorem T4(hX:∀(i:Nat) y,ps[i]?=some y->X.N[i]?=some y/\Vis X.env.scope y){sts:List Stmt}{fl:List (Str×kO)}(e:CM ps sts=some fl):PSs X sts (aaY X.K C fl):=by
 cases sts with
 |nil=>
  have e':fl=[]:=by simpa[CM]using e.symm
  subst e';exact mO pss_nil λD σ H ⟨a,ys,_,_,_,_,h,_⟩=>absurd rfl h
 |cons st r=>
  unfold CM at e;split at e
  ·rename_i p xs e1 e2;cases e;refine mO (pss_cons (Nf hX e1) (JV (C:=C) hX e2)) λD σ H ⟨a,ys,h0,hy,h1,h3,_,h4,h5,h6,q⟩=>?_;refine QC (D:=D) hy (λi e=>h4 p List.mem_cons_self i e) ⟨.ref a,h0,a,C,rfl,h5,h6 p List.mem_cons_self,.inl ⟨h1,λdx hn ne=>?_⟩⟩;refine⟨a,dx,_,ys,h0,hy,Ne.symm ne,upd_same,by rw[upd_ne ne];exact upd_same,by simp at h3 ⊢;omega,λx hx=>h4 x (List.mem_cons_of_mem _ hx),h5,λx hx=>h6 x (List.mem_cons_of_mem _ hx),?_⟩;have q':=q dx hn ne;have el:xn xs ys++[(p.1,valV ys p.2)]=xn (p::xs) ys:=by simp[xn]
   rw[el,<-QB (Ne.symm ne.symm),upd_upd];exact q'
  ·cases e
end
def XT(C:Addr)(n:Nat)(fl:List (Str×kO)):Sp:=λvs H Q _=>∃(a:Addr) (ys:List V),vs=.ref a::ys/\ys.length=n/\H a=some (exo a C none)/\∀dx,H dx=none->dx≠a->Q .non (upd (upd H dx (exd dx (xn fl ys))) a (exo a C (some dx)))
def Wi(p0 p1 p2 pos:Pos):Prop:=∀env:PySem.Env,∃pl,eval (tR p0 p1 p2 pos) env=(do
   let ov <-attributeBase (.Call (.Name "super" p0) [] [] p1) "__init__" env (eval (.Call (.Name "super" p0) [] [] p1) env)
   standAt p2.atName
   let (f,first) <-holding [ov] (getMethod ov "__init__" pl)
   callWith pos f first (backTo pos (starEach [] env)) [])
structure QD (N ps:List Str) (scope:Scope) (params:Arguments) (fl:List (Str×kO)) (rest:List Stmt):Prop where
 sc:NScope N ps ["__class__"] scope
 sup:scope.names.lookup ("super" : Str)=some .globalImplicit
 par:(params.posonlyargs++params.args).head?.map (·.arg)=ps.head?
 pos:0<ps.length
 aes:CM ps rest=some fl
 ne:fl≠[]/\fl.length<=900
 ix:∀p∈fl,∀i,p.2=.inl i->i+1<ps.length
 dbg:∀y∈ps.head?,(y == ("__debug__" : Str))=false/\(y == ("__classdict__" : Str))=false
theorem hint{env:PySem.Env}(h:env.scope.kind=.function):interactive env=false:=by unfold interactive;rw[h];rfl
section
variable {P:Program}{w:World}{K:PySem.W.Frag}{mg:Str->Option Value}{base:Heap}{N ps:List Str}{name qual:Str}{params:Arguments}{rest:List Stmt}{scope:Scope}{dV kV doc pm ct oc:Value}{an od:Option Addr}{osl:Array (Option Value)}{C cc c f:Addr}{p0 p1 p2 pos spos:Pos}{fl:List (Str×kO)}{k:Nat}
theorem QE{CX:CXT}(lk:K.lookup f=some ⟨oc,od,.func (PySem.W.ksFn name qual params (.Expr (tR p0 p1 p2 pos) spos::rest) scope dV kV doc pm an (.ref c) ct cc),osl⟩)(T:OexC K C)(U:XQ K C cc c qual P.main.file)(S:QD N ps scope params fl rest)
  (hfi:∀p∈fl,PySem.W.findIn K (.ref C) p.1=some none) (hm:mg "super" = none) (htop:(P.main.scope.names.lookup ("super" : Str)).isSome=false) (hev:Wi p0 p1 p2 pos:=by exactλ_=>⟨_,by rfl⟩) :
  FnOk P w K mg base CX (k+1) f (PySem.W.ksFn name qual params (.Expr (tR p0 p1 p2 pos) spos::rest) scope dV kV doc pm an (.ref c) ct cc) ps (XT C (ps.length-1) fl):=by
 have hp0:=S.pos;refine⟨λvs H Q E ⟨a,ys,e,hl,_⟩=>by subst e;simp;omega,λA outer s H args us vs Q E hr e0 hb r hsp=>?_⟩;obtain⟨a,ys,rfl,hl,hea,hsp⟩:=hsp;have hvl:(V.ref a::ys).length=ps.length:=by simp;omega
 have KX:K.In s.heap:=e0.mod.kin.keeps λb o e=>(e0.bs b o e).1;have lim:s.heap.NoLimit:=e0.mod.nolimit.keeps λb o e=>(e0.bs b o e).1;refine ks_codeAny_call_defAt (fd:=PySem.W.ksFn name qual params (.Expr (tR p0 p1 p2 pos) spos::rest) scope dV kV doc pm an (.ref c) ct cc) hr.depth (KX _ _ lk) rfl lim (PySem.W.codeRec_of KX U.code) rfl hb S.sc.nocell (λ⟨n,v⟩ hy=>S.sc.par n (List.of_mem_zip hy).1) (λh₁ hns kp=>?_) S.sc.co S.sc.gen S.sc.kind;obtain⟨ob,cb⟩:∃ob,base.get? cc=some ob:=by obtain⟨o,ho,_⟩:=Ep e0.mod.kin U.cell;exact⟨o,ho⟩
 have hC:CellsAt [(("__class__" : Str),cc)] ["__class__"] [some (V.ref C)] s.heap H:=by
  refine⟨rfl,λy c1 e=>?_,λx y c1 e1 e2=>?_,λi y e=>?_⟩
  ·have:c1=cc:=by rw[List.lookup_cons]at e;split at e;exact(Option.some.inj e).symm;·cases e
   subst this;exact⟨(e0.bs _ _ cb).2,_,Ep KX U.cell⟩
  ·rw[List.lookup_cons]at e1 e2;split at e1;·rename_i q1;split at e2;rename_i q2;rw[beq_iff_eq.mp q1,beq_iff_eq.mp q2];·cases e2
   ·cases e1
  ·cases i with|zero =>cases e;exact⟨cc,by simp,λv ev=>by cases ev;exact⟨.ref C,rfl,Ep KX U.cell⟩⟩|succ i=>cases e
 have I:Inv (ncx CX P w K mg base N ⟨name,qual,params,.Expr (tR p0 p1 p2 pos) spos::rest,scope,[(("__class__" : Str),cc)],c⟩ f A outer s H E) [] (startF N (V.ref a::ys) [some (V.ref C)]) H { s with heap:=h₁,toks:=s.toks+(ps.zip us).length }:=
  inv_startN S.sc hr.hd e0 hvl r hC hns kp
 have nl:ps.length+1<=N.length:=by have q:=congrArg List.length S.sc.pre;rw[List.length_take,List.length_append,List.length_singleton]at q;omega
 have hNi:∀(i:Nat) y,ps[i]?=some y->N[i]?=some y:=λi y e=>by
  have hi:i<ps.length:=(List.getElem?_eq_some_iff.mp e).1;have q:(N.take (ps.length+1))[i]?=(ps++[("__class__" : Str)])[i]?:=by have z:=S.sc.pre;rw[List.length_singleton]at z;rw[z]
  rw[List.getElem?_take_of_lt (by omega),List.getElem?_append_left hi]at q;rw[q,e]
 have hNc:N[ps.length]?=some ("__class__" : Str):=by
  have q:(N.take (ps.length+1))[ps.length]?=(ps++[("__class__" : Str)])[ps.length]?:=by have z:=S.sc.pre;rw[List.length_singleton]at z;rw[z]
  rw[List.getElem?_take_of_lt (by omega),List.getElem?_append_right (Nat.le_refl _)]at q;rw[q];simp
 have hys:∀i,i<ys.length->(startF N (V.ref a::ys) [some (V.ref C)])[i+1]?=some (some (ys.getD i .non)):=λi hi=>by unfold startF;rw[List.getElem?_append_left (by simp;omega)];simp[hi,List.getD_eq_getElem?_getD]
 have hsc:(startF N (V.ref a::ys) [some (V.ref C)])[ps.length]?=some (some (.ref C)):=by
  unfold startF;rw[List.getElem?_append_right (by simp;omega)];have:ps.length-(List.map some (V.ref a::ys)).length=0:=by simp;omega
  rw[this];rfl
 obtain⟨y0,hy0⟩:∃y0,ps[0]?=some y0:=⟨ps[0],List.getElem?_eq_getElem hp0⟩;have hh:ps.head?=some y0:=by rw[List.head?_eq_getElem?];exact hy0
 obtain⟨ar,har,hare⟩:∃ar,(params.posonlyargs++params.args).head?=some ar/\ar.arg=y0:=by
  have q:=S.par;rw[hh]at q;cases z:(params.posonlyargs++params.args).head? with
  |none=>rw[z]at q;cases q|some ar=>rw[z]at q;exact⟨ar,rfl,Option.some.inj q⟩
 obtain⟨d1,d2⟩:=S.dbg y0 hh;have hlist:=S.sc.par y0 (List.mem_of_getElem? hy0);refine ks_wpAt_execs_cons (ks_wpAt_mono (O4 (X:=ncx CX P w K mg base N ⟨name,qual,params,.Expr (tR p0 p1 p2 pos) spos::rest,scope,[(("__class__" : Str),cc)],c⟩ f A outer s H E) (E:=(ncx CX P w K mg base N ⟨name,qual,params,.Expr (tR p0 p1 p2 pos) spos::rest,scope,[(("__class__" : Str),cc)],c⟩ f A outer s H E).xe)
  (i:=0) (j:=ps.length) (ar:=ar) (f:=f) (fd:=PySem.W.ksFn name qual params (.Expr (tR p0 p1 p2 pos) spos::rest) scope dV kV doc pm an (.ref c) ct cc)
  (Q:=λfl s'=>match fl with|.next=>Inv (ncx CX P w K mg base N ⟨name,qual,params,.Expr (tR p0 p1 p2 pos) spos::rest,scope,[(("__class__" : Str),cc)],c⟩ f A outer s H E) [] (startF N (V.ref a::ys) [some (V.ref C)]) H s'|_=>False)
  I T U hea (by rfl) hsc (by rw[hare];exact hNi 0 _ hy0) hNc (by rw[hare];exact hlist) (S.sc.frk _ (by simp)) S.sup hm rfl (kp _ _ (KX _ _ lk)) rfl har rfl htop (hint S.sc.kind) rfl (by rw[hare];exact d1) (by rw[hare];exact d2) (hev _) λs' J=>J) (λfw s' hf=>?_) λe s' h=>h)
 cases fw with
 |ret _=>exact hf.elim|brk=>exact hf.elim|cont=>exact hf.elim|next=>
  have hb2:PSs (ncx CX P w K mg base N ⟨name,qual,params,.Expr (tR p0 p1 p2 pos) spos::rest,scope,[(("__class__" : Str),cc)],c⟩ f A outer s H E) rest (aaY K C fl):=T4 (ps:=ps) (λi y e=>⟨hNi i y e,.inl (S.sc.par y (List.mem_of_getElem? e))⟩) S.aes;have hq:=hb2.run [] s' _ H { nx:=λ_ H'=>Q .non H',rt:=Q } hf ⟨a,ys,rfl,hys,hea,S.ne.2,S.ne.1,λp hp i e=>by have:=S.ix p hp i e;omega,T,hfi,hsp⟩;refine PySem.wpAt_of_wpAny (wpAny_mono hq (λfl s' hs=>?_) λe s' hs=>hs);cases fl with
  |ret u =>obtain⟨v,σ',H',J,rv,q⟩:=hs;exact⟨v,H',J.os,J.bare,J.base,J.hok,rv,q⟩
  |next =>obtain⟨σ',H',J,q⟩:=hs;exact⟨.non,H',J.os,J.bare,J.base,J.hok,rfl,q⟩
  |brk =>obtain⟨_,_,_,q⟩:=hs;exact False.elim q
  |cont =>obtain⟨_,_,_,q⟩:=hs;exact False.elim q
end
theorem T5{T:Tb}{μ:List Addr}{H:Hp}{ds:List D}{vs:List V}(r:av T μ H ds vs){fl:List (Str×kO)}:dB T μ H (LD fl ds) (xn fl vs):=by
 have val:∀w,Rep T μ H (valD ds w) (valV vs w):=λw=>by
  cases w with
  |inr z=>simp only[valD,valV,Rep]|inl i=>
   simp only[valD,valV];rw[List.getD_eq_getElem?_getD,List.getD_eq_getElem?_getD];cases q:ds[i]? with
   |some d =>obtain⟨v,e,rv⟩:=r.get q;rw[e];exact rv
   |none =>have:vs[i]?=none:=(by rw[List.getElem?_eq_none_iff]at q ⊢;rw[r.length];exact q);rw[this];simp only[Option.getD_none,Rep]
 have app:∀{fs gs:List (Str×D)}{us ws:List (Str×V)},dB T μ H fs us->dB T μ H gs ws->dB T μ H (fs++gs) (us++ws):=by
  intro fs;induction fs with
  |nil=>intro gs us ws h g;simp only[dB]at h;subst h;exact g
  |cons p fs ih =>intro gs us ws h g;obtain⟨f,d⟩:=p;simp only[dB,List.cons_append]at h ⊢;obtain⟨v,xs,rfl,h1,h2⟩:=h;exact⟨v,xs++ws,rfl,h1,ih h2 g⟩
 unfold LD xn;induction fl with
 |nil=>simp only[List.map_nil,List.reverse_nil,dB]|cons p fl ih =>simp only[List.map_cons,List.reverse_cons];refine app ih ?_;simp only[dB];exact⟨_,[],rfl,val p.2,rfl⟩
theorem Ng{X:Cx}{pins:List (Addr×Obj)}{σ:L2.St}{H H':Hp}{Q:XK}{hp hp2 h':Heap}{g1 g2:Array GenState}{d1 d2:Drawn}{t1 t2:Nat}{os1 os2:OsState}{a C d:Addr}{fs:List (Str×V)}(rs:Raises X (.ref C))(I:Inv X pins σ H ⟨hp,g1,d1,t1,os1⟩)
  (le:hp.objs.size<=a) (k:∀b o,hp.get? b=some o->hp2.get? b=some o) (un:Un (frs X.stack) [] (upd H a (exo a C none)) H' hp2 h') (hok:HOk X.prog X.w H' h') (eo:os2=os1) (bare:AllBare g2)
  (ea:H' a=some (exo a C (some d))) (ed:H' d=some (exd d fs)) (nd:H d=none) (q:Q (.ref C) (some d) (upd (del H' a) d (.xd fs))):L2N.MkP X pins σ Q (.ref a) ⟨h',g2,d2,t2,os2⟩:=by
 obtain⟨_,G,J,kG,ge,hoe,na⟩:=mk_end0 (d2:=d2) (t2:=t2) I le k un hok eo bare ea ed nd;exact⟨a,_,_,⟨G,g2,d2,t2,os2⟩,_,.ref C,some d,rfl,J,kG,ge,hoe,⟨rfl,rfl,λvs hv=>by cases hv;rfl⟩,rfl,rfl,na,rfl,bare,rs,q⟩
theorem QF{X:Cx}{x:Str}{e:Expr}{es:List Expr}{ta:TA}{p pos:Pos}{fd:FuncData}{ps:List Str}{CX:CXT}{C fI:Addr}{k:Nat}{sp:Sp}(O:OexC X.K C)(hi:PySem.W.findIn X.K (.ref C) "__init__" = some (some (.ref fI)))(ht:PySem.W.typeIn X.K (.ref fI)=some (.type "function"))
  (F:FnOk X.prog X.w X.K X.mg X.base CX k fI fd ps sp) (room:Room (k+1) X.A) (hb:Binds X.K fd ps []) (hx:Passes CX X (λ_ _ _=>False)) (hg:Gl X x) (hm:X.mg x=some (.ref C)) (ha:PA X (e::es) ta)
  (hdb:(x == ("__debug__" : Str))=false:=by decide) (he:starEach (e::es) X.env=(false,eval e X.env)::starEach es X.env:=by rfl) (hpl:(backTo pos (starEach es X.env)).any (·.1)=false:=by rfl) :
  L2N.PMk X (.Call (.Name x p) (e::es) [] pos) (tMkO C sp [] ta):=λpins s σ H Q I h=>by
 obtain⟨_,_,_,_,bm,_,_,_,_,_,_,_,_,_,_,isC,isB⟩:=O.cls;refine wpAny_Call_Name_kw (ld_glob I hg hm ?_ hdb);refine PySem.W.callWith_K (h₀:=X.base) I.ok.mod.kin O.kC (thn (ha.run pos pins s σ H _ I h) λus s1 ⟨vs,H1,I1,ru,few,want⟩=>⟨I1.kIn,?_⟩) he hpl;show wpAny _ _ (call (.ref C) us) _ _ _;obtain⟨hp,gs,dr,tk,os⟩:=s1;have le1:hp.objs.size<=hp.objs.size+1:=by omega
 have fresh:=I1.hok.fresh le1;have want:=want (hp.objs.size+1) fresh;have grown:∀b o,hp.get? b=some o->((hp.push (PySem.W.kdv_tup us)).push (PySem.HandSPX.excO C hp.objs.size)).get? b=some o:=λb o e=>by exact Heap.get?_push_of_some _ (Heap.get?_push_of_some _ e)
 have here:((hp.push (PySem.W.kdv_tup us)).push (PySem.HandSPX.excO C hp.objs.size)).get? (hp.objs.size+1)=some (PySem.HandSPX.excO C hp.objs.size):=by heap_get
 have J:Inv X pins σ (upd H1 (hp.objs.size+1) (exo (hp.objs.size+1) C none)) ⟨(hp.push (PySem.W.kdv_tup us)).push (PySem.HandSPX.excO C hp.objs.size),gs,dr,tk,os⟩:=
  I1.laid (t':=tk) (a:=hp.objs.size+1) (o:=exo (hp.objs.size+1) C none) (h':=(hp.push (PySem.W.kdv_tup us)).push (PySem.HandSPX.excO C hp.objs.size)) grown le1 (exo_ok here)
 have vals:Vals (V.ref (hp.objs.size+1)::(vs++[])) (Value.ref (hp.objs.size+1)::(us++[])):=.cons rfl (ru.append .nil);have len:(Value.ref (hp.objs.size+1)::us++[]).length=ps.length:=by have e:=vals.length;rw[F.len _ _ _ _ want]at e;exact e.symm
 have nus:us.length<=sizeLine:=by rw[<-Paired.length ru,sizeLine_eq];omega
 refine wpAny_call (PySem.HandSPX.call_own PySem.F.excBase_ValueError (λY=>PySem.HandSPX.refsVE_contains Y bm isB) (I1.kIn _ _ isC) (PySem.W.looks_findIn I1.kIn hi) (λself=>PySem.W.bind_fn I1.kIn self ht) nus ?_);refine codeAny_mono (F.run _ X.stack _ _ ⟨Value.ref (hp.objs.size+1)::us,[]⟩ (Value.ref (hp.objs.size+1)::(us++[])) _ _ (λ_ _ _=>False) (room.make C us []) (J.env0.make C us []) (by have bd:=hb _ (Value.ref (hp.objs.size+1)::us) J.kIn len;rw[List.cons_append]at bd;exact bd) vals want) λr s' got=>?_;cases r with
 |error er=>exact hx pins σ _ _ er s' J got|ok fl=>
  cases fl with
  |ret u =>obtain⟨v,H2,os2,bare2,un2,hok2,rv,ev,d,fs,ea,ed,hd1,q2⟩:=got;subst ev;obtain⟨h2,g2,d2,t2,os'⟩:=s';exact⟨rv,Ng (raises_own O.exC O.tyC) I1 le1 grown un2 hok2 os2 bare2 ea ed hd1 q2⟩
  |next=>exact got.elim
  |brk=>exact got.elim|cont=>exact got.elim
theorem XU{X:Cx}{e:Expr}{t:L2.St->Hp->XK->Prop}(h:L2N.PMk X e t):PMk X e t:=λpins s σ H Q I q=>
 wpAny_mono (h pins s σ H Q I q) (λu s' ⟨a,oe,vs,sI,H',cls,d,e1,J,k,hne,ha,hz,r⟩=>⟨a,oe,vs,sI,H',cls,d,e1,J,k,hne,ha,hz.zc,r⟩) λ_ _ x=>x
theorem Gy{b:Bool}{X:Cx}{W:WX}{e:Expr}{t:L2.St->Hp->XK->Prop}{pos:Pos}(hc:X.calm=true)(tk:Tu b X W)(he:L2N.PMk X e t):PS X (.Raise (some e) none pos) (λ_ σ H=>t σ H λcls d H'=>W cls d σ H'):=by
 cases b with
 |true=>exact L2N.ps_raise hc tk he|false=>exact ps_raise hc tk (XU he)
def qz(k n:Nat)(fl:List (Str×kO))(r:AM):SM:=λρ S=>match r ρ S with
 |.ok xs S1=>(match asD xs with
  |some ds=>if ds.length=n/\n<=900 then .er ⟨k,LD fl ds⟩ S1 else .stk
  |none=>.stk)
 |.err e S1=>.er e S1|.stk=>.stk
section
variable {X:Cx}{T:Tb}{W:XK}{r:AM}{x:Str}{e:Expr}{es:List Expr}{p pos rpos:Pos}{k n j:Nat}{fl:List (Str×kO)}{fI:Addr}{fd:FuncData}{ps:List Str}
theorem Es(hn:ps.length-1=n){D:Ends}:∀σ H,rdS T W (qz k n fl r) D σ H->tMkO (T.cA k) (XT (T.cA k) (ps.length-1) fl) [] (Tj T W r) σ H (λcls d H'=>W cls d H'):=λσ H ⟨μ,ρ,S,he,hs,h⟩=>by
 unfold qz at h;refine⟨μ,ρ,S,he,hs,?_⟩;cases q:r ρ S with
 |stk=>rw[q]at h;exact h.elim|err e1 S1=>rw[q]at h;exact h|ok xs S1=>
  rw[q]at h;intro μ1 H1 vs ex hs1 rs;cases qa:asD xs with
  |none=>simp only[qa]at h;exact h.elim|some ds=>
   simp only[qa]at h;have rl:=rs.data qa;split at h
   ·rename_i hl;refine⟨by rw[rl.length];omega,λa ha=>⟨a,vs++[],rfl,by rw[List.append_nil,rl.length,hn];exact hl.1,upd_same,λdx hd ne=>⟨rfl,dx,xn fl vs,upd_same,?_,?_,?_⟩⟩⟩;rw[List.append_nil,upd_ne ne];exact upd_same;·rw[upd_ne ne]at hd;exact hd
    ·rw[upd_ne ne]at hd;have e1:upd (del (upd (upd (upd H1 a (exo a (T.cA k) none)) dx (exd dx (xn fl (vs++[])))) a (exo a (T.cA k) (some dx))) a) dx (.xd (xn fl vs))=upd H1 dx (.xd (xn fl vs)):=by
      funext b;by_cases hb:b=dx;·rw[hb,upd_same,upd_same]
      ·rw[upd_ne hb,upd_ne hb];by_cases hba:b=a;rw[hba,del_same,ha];·rw[del_ne hba,upd_ne hba,upd_ne hb,upd_ne hba]
     rw[e1];have sm:Same H1 (upd H1 dx (.xd (xn fl vs))):=fD hd;refine h μ1 _ _ _ (ex.trans (hs1.ext sm)) (hs1.grow sm) ⟨rfl,dx,_,rfl,hs1.yU hd,upd_same,T5 (rl.mono (hs1.ext sm))⟩
   ·exact h.elim
theorem QG(L:Lv X T W)(hc:X.calm=true)(hn:ps.length-1=n)(O:OexC X.K (T.cA k))(iC:PySem.W.findIn X.K (.ref (T.cA k)) "__init__" = some (some (.ref fI)))(tI:PySem.W.typeIn X.K (.ref fI)=some (.type "function"))
  (F:FnOk X.prog X.w X.K X.mg X.base (Au T.nn X.prog X.w) j fI fd ps (XT (T.cA k) (ps.length-1) fl)) (hr:Room (j+1) X.A) (hb:Binds X.K fd ps []) (hg:Gl X x) (hm:X.mg x=some (.ref (T.cA k))) (ha:MA X T W (e::es) r)
  (hdb:(x == ("__debug__" : Str))=false:=by decide) (he:starEach (e::es) X.env=(false,eval e X.env)::starEach es X.env:=by rfl) (hpl:(backTo pos (starEach es X.env)).any (·.1)=false:=by rfl) :
  MS X T W (.Raise (some (.Call (.Name x p) (e::es) [] pos)) none rpos) (qz k n fl r):=mN (Gy hc L.tk (QF O iC tI F hr hb Qq hg hm ha hdb he hpl)) λD σ H h=>Es hn σ H h
end
section
variable {T:Tb}{H:Hp}{μ:List Addr}{S:ag}{J:List Addr->Hp->Prop}{hJ:∀{μ H μ' H'},Ext μ H μ' H'->J μ H->J μ' H'}{hS:∀{μ H H'},Sw μ H H'->J μ H->J μ H'}
theorem aI.wr{n:Nat}{p:Addr}{o:HO}{m:MO}(k:aI T μ H S)(hp:μ[n]?=some p)(hn:n<S.length)(r:Ext μ H μ (upd H p o)->uu T μ (upd H p o) p m)(hsub:∀C dx fs f q,o=.ins C dx fs->zt.contains f=true->(f,V.ref q)∈fs->∃C0 dx0 fs0,H p=some (.ins C0 dx0 fs0)/\(f,V.ref q)∈fs0:=by intro C dx fs f q e;cases e)(hl:∃u,H p=some u/\∀C dx fs,u≠.ins C dx fs:=by exact⟨_,by assumption,by intro _ _ _ z;cases z⟩)(hpt:∀k fs f j,m=.ins k fs->Xe.contains f=true->fs.lookup f=some (.ptr j)->j<n/\∃b C dx vfs,μ[j]?=some b/\upd H p o p=some (.ins C dx vfs)/\vfs.lookup f=some (V.ref b):=by intro _ _ _ _ z;cases z):Ext μ H μ (upd H p o)/\aI T μ (upd H p o) (S.set n m):=by
 have mem:p∈μ:=List.mem_of_getElem? hp;obtain⟨ex,sx⟩:=k.wrE (o:=o) mem hsub λC dx fs f q e=>by obtain⟨u,hl,hn⟩:=hl;rw[hl]at e;cases e;exact absurd rfl (hn _ _ _)
 refine⟨ex,⟨by rw[List.length_set];exact k.len,k.nd,λi a u h1 h2=>?_,λa ha=>?_,T.mono ex k.inv,sx,k.pt.set k.nd hp (λa _ ne=>upd_ne ne) hpt⟩⟩
 ·by_cases hi:n=i;·subst hi;rw[hp]at h1;cases h1;rw[List.getElem?_set_self hn]at h2;cases h2;exact r ex
  ·rw[List.getElem?_set_ne hi]at h2;have ne:a≠p:=by rintro rfl;exact hi (Ek k.nd hp h1)
   exact k.mvp mem ex ne h1 h2
 ·by_cases hap:a=p;·subst hap;exact⟨_,upd_same⟩
  ·obtain⟨u,q⟩:=k.tr a ha;exact⟨u,by rw[upd_ne hap];exact q⟩
def aaZ(n:Nat)(P:Addr)(q:Str)(i:Nat):EM:=λ_ S=>match S[n]? with
 |some (.tab P' q')=>if P'=P/\q'=q then .ok (.v (.fn i)) S else .stk
 |_=>.stk
mutual
theorem LG:∀{d:D}{v:V},Rep (T.wI J hJ hS) μ H d v↔Rep T μ H d v|.non,v=>by simp only[Rep]|.bl b,v=>by simp only[Rep]|.int b,v=>by simp only[Rep]|.str b,v=>by simp only[Rep]|.cls b,v=>by simp only[Rep];exact Iff.rfl|.ty b,v=>by simp only[Rep]|.adr b,v=>by simp only[Rep]|.ptr b,v=>by simp only[Rep]|.fn b,v=>by simp only[Rep];exact Iff.rfl|.tup ds,v=>by simp only[Rep,km];exact Iff.rfl|.lst ds,v=>by simp only[Rep,km]|.fz ds,v=>by simp only[Rep,km];exact Iff.rfl|.gX ks ds,v=>by simp only[Rep,km]|.exc k fs,v=>by simp only[Rep,HR];exact Iff.rfl|.yD ks xs,v=>by simp only[Rep,km];exact Iff.rfl|.obj k fs,v=>by simp only[Rep,HR];exact Iff.rfl
theorem km:∀{d:List D}{v:List V},av (T.wI J hJ hS) μ H d v↔av T μ H d v|[],v=>by simp only[av]|d::ds,v=>by simp only[av,LG,km]
theorem HR:∀{d:List (Str×D)}{v:List (Str×V)},dB (T.wI J hJ hS) μ H d v↔dB T μ H d v|[],v=>by simp only[dB]|(f,d)::ds,v=>by simp only[dB,LG,HR]
end
theorem XW{d:D}{v:V}:vO (T.wI J hJ hS) μ H d v↔vO T μ H d v:=by
 cases d with
 |lst ds=>simp only[vO,km]|gX ks ds=>simp only[vO,km]|yD ks xs=>simp only[vO,km];exact Iff.rfl|_=>exact Iff.rfl
theorem Nh:∀{d:List (Str×D)}{v:List (Str×V)},j8 (T.wI J hJ hS) μ H d v↔j8 T μ H d v|[],v=>Iff.rfl|(f,d)::ds,v=>by simp only[j8,LG,XW,Nh]
theorem aa0{a:Addr}{o:MO}:uu (T.wI J hJ hS) μ H a o↔uu T μ H a o:=by
 cases o with
 |lst ds=>simp only[uu,km]|ins k fs=>simp only[uu,Nh];exact Iff.rfl|gX kvs=>simp only[uu,km]|Tf kvs=>simp only[uu,km]|x kd ks xs=>simp only[uu,km];cases kd<;>exact Iff.rfl|tab P q=>exact Iff.rfl
theorem aI.ofI(h:aI (T.wI J hJ hS) μ H S)(j:J μ H->T.I μ H):aI T μ H S:=⟨h.len,h.nd,λi a o h1 h2=>aa0.mp (h.at_ i a o h1 h2),h.tr,j h.inv,h.ex,h.pt⟩
end
structure aeG (X:Cx) (base:Heap) (σ:L2.St):Prop where
 ok:X.Ok
 mod:Mod X.K X.mg base
 sub:∀b o,X.base.get? b=some o->base.get? b=some o
 cell:∀y c,X.env.cells.lookup y=some c->∃v,base.IsCell c v
 val:∀(i:Nat) y v,X.N[i]?=some y->σ[i]?=some (some v)->(X.env.scope.names.lookup y=some .cell\/X.env.scope.names.lookup y=some .free)->∃u c,RelV v u/\X.env.cells.lookup y=some c/\base.IsCell c (some u)
def XX(fM:Env->FM)(r:AM):EM:=λρ S=>(r ρ S).bind λxs S1=>fM ρ xs S1
section
open L2H (RoomH PinOk cxH inv_startH roomH_of)
def SR.wipe(i:Nat):SR->SR|.nx ρ S=>.nx (ρ.set i none) S|.rt a S=>.rt a S|.bk ρ S=>.bk (ρ.set i none) S|.ct ρ S=>.ct (ρ.set i none) S|.er _ _=>.stk|.stk=>.stk
end
section
open L2H (RoomH PinOk cxH inv_startH roomH_of)
def HS(c:Nat):Str:=⟨#[c]⟩
theorem LH{x:Str}{acc:Array Value}(h:ItemsOf (SignAt x) acc x.cps.size):StrsAre acc.toList (x.cps.toList.map HS):=by
 obtain⟨hs,ha⟩:=h;have key:∀(vs:List Value) (cs:List Nat),vs.length=cs.length->(∀(j:Nat) v,vs[j]?=some v->∃c u,cs[j]?=some c/\v=.str (HS c) u)->StrsAre vs (cs.map HS):=by
  intro vs;induction vs with
  |nil=>intro cs hl _;cases cs with
   |nil=>exact .nil|cons _ _=>cases hl
  |cons v vs ih=>
   intro cs hl h;cases cs with
   |nil=>cases hl|cons c cs =>obtain⟨c',u,e1,rfl⟩:=h 0 v rfl;cases e1;exact .cons _ _ (ih cs (by simpa using hl) λj w e=>h (j+1) w e)
 refine key _ _ (by simpa using hs) λj v e=>?_;obtain⟨c,u,e1,e2⟩:=ha j v (by simpa using e);exact⟨c,u,by simpa using e1,e2⟩
theorem Gz{T:Tb}{μ:List Addr}{H:Hp}:∀{ss:List Str},av T μ H (ss.map .str) (ss.map V.str)|[]=>by simp only[List.map_nil,av]|s::ss=>by simp only[List.map_cons,av,Rep];exact⟨_,_,rfl,rfl,Gz⟩
def oi:List D->Option (List Str)|[]=>some []|.str y::r=>(oi r).map (y::·)|_::_=>none
theorem Et:∀{ds:List D}{ys:List Str},oi ds=some ys->ds=ys.map .str
 |[],ys,h=>by
  have:ys=[]:=by simpa[oi]using h.symm
  subst this;rfl
 |d::ds,ys,h=>by
  cases d with
  |str y=>
   cases q:oi ds with
   |none=>simp[oi,q]at h|some zs =>simp[oi,q]at h;subst h;rw[Et q];rfl
  |_=>simp[oi]at h
@[simp] theorem JW:∀ys:List Str,oi (ys.map .str)=some ys|[]=>rfl|y::ys=>by simp[oi,JW ys]
theorem AI{T:Tb}{μ:List Addr}{H:Hp}:∀{ss:List Str}{vs:List V},av T μ H (ss.map .str) vs->vs=ss.map V.str|[],vs,h=>by simpa only[List.map_nil,av]using h|s::ss,vs,h=>by simp only[List.map_cons,av,Rep]at h;obtain⟨v,ws,rfl,rfl,h2⟩:=h;rw[AI h2];rfl
def JX(mo ma:EM):EM:=λρ S=>(mo ρ S).bind λo S1=>match o with
 |.v (.str a)=>(ma ρ S1).bind λx S2=>(match (pH x S2).bind oi with
  |some ys=>if (ys.map (·.length)).sum+ys.length*a.length<=1000000 then .ok (.v (.str (Txt.join a ys))) S2 else .stk
  |none=>.stk)
 |_=>.stk
section
variable {X:Cx}{T:Tb}{W:XK}{o e:Expr}{mo ma:EM}{apos pos:Pos}
theorem T6(hK:X.K=T.K)(ho:ME X T W o mo)(ha:ME X T W e ma)(hs:starEach [e] X.env=[(false,eval e X.env)]:=by rfl)(hbase:attributeBase o "join" X.env (eval o X.env)=eval o X.env:=by rfl)(hline:(apos.endLine == pos.line)=true:=by rfl) :ME X T W (.Call (.Attribute o "join" apos) [e] [] pos) (JX mo ma):=b5 (pe_join ho ha hs hbase hline) λσ H Q ⟨μ,ρ,S,he,hs,h⟩=>by
 refine bL he hs h λv H1 μ1 S1 x ex he1 hs1 rx h1=>?_;split at h1
 ·have ev:=g9 rx;subst ev;refine⟨⟨_,rfl⟩,bL he1 hs1 h1 λv2 H2 μ2 S2 x2 ex2 he2 hs2 rx2 h2=>?_⟩;split at h2;·rename_i ys q;split at h2;rename_i hl;obtain⟨ds,qd,qa⟩:=Option.bind_eq_some_iff.mp q;obtain⟨pp,ws,rfl,hq,rl⟩:=lZ hs2 rx2 qd;have ed:=Et qa;subst ed;have ew:=AI rl;subst ew;exact⟨_,pp,ys,rfl,rfl,by rw[hK];exact hq,by omega,h2 μ2 H2 _ Ext.refl hs2 Ec⟩;·exact h2.elim
  ·exact h2.elim
 ·exact h1.elim
end
def aa1(ma:EM):EM:=λρ S=>(ma ρ S).bind λx S1=>match x with
 |.v (.str y)=>if y.length<=cE then .ok (.v (.str y)) S1 else .stk
 |.v (.int i)=>if i.natAbs.log2<1920 then .ok (.v (.str (toString i))) S1 else .stk
 |_=>.stk
def XY:List EM->Str->Env->ag->R A
 |[],acc,_,S=>.ok (.v (.str acc)) S|m::ms,acc,ρ,S=>(m ρ S).bind λx S1=>match x with
  |.v (.str y)=>if (acc++y).length<=cE then XY ms (acc++y) ρ S1 else .stk
  |_=>.stk
def aa2(ms:List EM):EM:=λρ S=>XY ms Str.empty ρ S
inductive MJ (X:Cx) (T:Tb) (W:XK):List Expr->List EM->Prop where
 |nil:MJ X T W [] []|cons {e:Expr}{m:EM}{es:List Expr}{ms:List EM}(h:ME X T W e m) (r:MJ X T W es ms):MJ X T W (e::es) (m::ms)
end
section
open L2H (RoomH PinOk cxH inv_startH roomH_of)
def T7(X:Cx)(T:Tb)(W:XK)(f:Value->Value->Sem Value)(g:Th):Prop:=
 OpR X f (λx y H Q=>∃μ S a b,aI T μ H S/\aH T μ H a x/\aH T μ H b y/\oU T (λμ H=>aH T μ H) μ H Q W (g a b S))
def wa(g:Th)(ma mb:EM):EM:=λρ S=>(ma ρ S).bind λx S1=>(mb ρ S1).bind λy S2=>g x y S2
section
variable {X:Cx}{T:Tb}{W:XK}{a b:Expr}{ma mb:EM}{pos:Pos}
theorem T8{g:Th}{r:R2}(hr:∀x y H Q,(∃μ S a b,aI T μ H S/\aH T μ H a x/\aH T μ H b y/\oU T (λμ H=>aH T μ H) μ H Q W (g a b S))->r x y H Q) :∀σ H Q,rd T W (wa g ma mb) σ H Q->tOp r (rd T W ma) (rd T W mb) σ H Q:=λσ H Q ⟨μ,ρ,S,he,hs,h⟩=>by refine bL he hs h λx H1 μ1 S1 a ex he1 hs1 ra h1=>?_;refine bL he1 hs1 h1 λy H2 μ2 S2 b ex2 he2 hs2 rb h2=>?_;exact hr _ _ _ _ ⟨μ2,S2,a,b,hs2,ra.mono ex2,rb,h2⟩
theorem Ni{op:CmpOp}{g:Th}(ho:T7 X T W (compareOp op) g)(ha:ME X T W a ma)(hb:ME X T W b mb)(hm:behindInMarks op b=false:=by first|exact nomark _|rfl|with_unfolding_all rfl):ME X T W (.Compare a [op] [b] pos) (wa g ma mb):=
 b5 (pe_cmpR ho ha hb hm) (T8 λ_ _ _ _ h=>h)
end
abbrev CN:=List A->ag->R A
def HU(X:Cx)(T:Tb)(W:XK)(f:Value)(g:CN):Prop:=
 CallR X f (λvs H Q=>∃μ S xs,aI T μ H S/\cU T μ H xs vs/\oU T (λμ H=>aH T μ H) μ H Q W (g xs S))
def cF(g:CN)(r:AM):EM:=λρ S=>(r ρ S).bind λxs S1=>g xs S1
section
variable {X:Cx}{T:Tb}{W:XK}{e:Expr}{es:List Expr}{r:AM}{x:Str}{p pos:Pos}{bid:String}
theorem ff{g:CN}(hc:HU X T W (.builtin bid) g)(hg:Gl X x)(hm:X.mg x=none)(hv:bootBuiltins x=some (.builtin bid))(ha:MA X T W (e::es) r)(hn:x ≠ "__name__" := by decide)(hdb:(x == ("__debug__" : Str))=false:=by decide)
  (he:starEach (e::es) X.env=(false,eval e X.env)::starEach es X.env:=by rfl) (hpl:(backTo pos (starEach es X.env)).any (·.1)=false:=by rfl):ME X T W (.Call (.Name x p) (e::es) [] pos) (cF g r):=
 b5 (pe_callB hc hg hm hv ha hn hdb he hpl) λσ H Q ⟨μ,ρ,S,hE,hs,h⟩=>gB hE hs h λvs H1 μ1 S1 xs ex he1 hs1 rs h1=>⟨μ1,S1,xs,hs1,rs,h1⟩
end
mutual
def toPy:D->Option PyData|.non=>some .none|.bl b=>some (.bool b)|.int i=>some (.int i)|.str x=>some (.str x)|.tup ds=>(kL ds).map .tuple|.lst ds=>(kL ds).map .list|.fz ds=>(kL ds).map .list|_=>none
def kL:List D->Option (List PyData)
 |[]=>some []|d::ds=>match toPy d,kL ds with
  |some p,some ps=>some (p::ps)|_,_=>none
end
section
variable {T:Tb}{μ:List Addr}{H:Hp}
mutual
theorem AJ:∀{d:D}{v:V}{p:PyData},Rep T μ H d v->toPy d=some p->Dp T.K H v p
 |.non,v,p,r,e=>by simp only[toPy,Option.some.injEq]at e;simp only[Rep]at r;subst e r;exact .non|.bl b,v,p,r,e=>by simp only[toPy,Option.some.injEq]at e;simp only[Rep]at r;subst e r;exact .bl b|.int b,v,p,r,e=>by simp only[toPy,Option.some.injEq]at e;simp only[Rep]at r;subst e r;exact .int b|.str b,v,p,r,e=>by simp only[toPy,Option.some.injEq]at e;simp only[Rep]at r;subst e r;exact .str b|.tup ds,v,p,r,e=>by simp only[toPy,Option.map_eq_some_iff]at e;simp only[Rep]at r;obtain⟨a,vs,rfl,h,rl⟩:=r;obtain⟨ps,e1,rfl⟩:=e;exact .tup h.sq (AK rl e1)
 |.lst ds,v,p,r,e=>by simp only[toPy,Option.map_eq_some_iff]at e;simp only[Rep]at r;obtain⟨a,vs,rfl,h,rl⟩:=r;obtain⟨ps,e1,rfl⟩:=e;exact .lst h.sq (AK rl e1)
 |.fz ds,v,p,r,e=>by simp only[toPy,Option.map_eq_some_iff]at e;simp only[Rep]at r;obtain⟨a,vs,rfl,h,rl⟩:=r;obtain⟨ps,e1,rfl⟩:=e;exact .lst h.sq (AK rl e1)
 |.obj _ _,v,p,r,e=>by simp[toPy]at e|.cls _,v,p,r,e=>by simp[toPy]at e|.ty _,v,p,r,e=>by simp[toPy]at e|.fn _,v,p,r,e=>by simp[toPy]at e|.adr _,v,p,r,e=>by simp[toPy]at e|.ptr _,v,p,r,e=>by simp[toPy]at e|.gX _ _,v,p,r,e=>by simp[toPy]at e|.exc _ _,v,p,r,e=>by simp[toPy]at e|.yD _ _,v,p,r,e=>by simp[toPy]at e
theorem AK:∀{ds:List D}{vs:List V}{ps:List PyData},av T μ H ds vs->kL ds=some ps->DpAll T.K H vs ps|[],vs,ps,r,e=>by simp only[kL,Option.some.injEq]at e;simp only[av]at r;subst e r;exact .nil|d::ds,vs,ps,r,e=>by simp only[av]at r;obtain⟨v,ws,rfl,r1,r2⟩:=r;unfold kL at e;split at e;rename_i p qs e1 e2;cases e;exact .cons (AJ r1 e1) (AK r2 e2);·cases e
end
end
def Eu:tK
 |.v x,.v y,_=>match toPy x,toPy y with
  |some p,some q=>if SeqAt.shaped p=true/\SeqAt.shaped q=true then some (nC (PyData.eqv p q)) else none
  |_,_=>none
 |_,_,_=>none
def LI:tK
 |.v x,.v y,_=>match toPy x,toPy y with
  |some p,some q=>if SeqAt.shaped p=true/\SeqAt.shaped q=true then some (nC (!PyData.eqv p q)) else none
  |_,_=>none
 |_,_,_=>none
section
variable {X:Cx}{T:Tb}
theorem T9(hK:X.K=T.K)(hu:X.A.units+64<cLine):zv X T (compareOp .Eq) Eu:=by
 rintro pins s σ H x y v u Q I rx ry ⟨μ,S,a,b,z,hs,ra,rb,hg,k⟩;unfold Eu at hg;split at hg
 ·split at hg;·rename_i e1 e2;split at hg;rename_i hh;cases hg;exact op_eqD hu pins s σ H x y v u Q I rx ry ⟨_,_,hK▸AJ ra e1,hK▸AJ rb e2,hh.1,hh.2,k μ H _ Ext.refl hs cO⟩;·cases hg
  ·cases hg
 ·cases hg
theorem Ua(hK:X.K=T.K)(hu:X.A.units+64<cLine):zv X T (compareOp .NotEq) LI:=by
 rintro pins s σ H x y v u Q I rx ry ⟨μ,S,a,b,z,hs,ra,rb,hg,k⟩;unfold LI at hg;split at hg
 ·split at hg;·rename_i e1 e2;split at hg;rename_i hh;cases hg;exact op_neD hu pins s σ H x y v u Q I rx ry ⟨_,_,hK▸AJ ra e1,hK▸AJ rb e2,hh.1,hh.2,k μ H _ Ext.refl hs cO⟩;·cases hg
  ·cases hg
 ·cases hg
end
def LJ(X:Cx)(T:Tb)(nm:Str)(J:Nat)(mt:Nat->Option FM):Prop:=∀k fM,mt k=some fM->∃f fd ps,Cls X.K (T.cA k)/\Meth X.K (T.cA k) nm f/\FnOk X.prog X.w X.K X.mg X.base (Au T.nn X.prog X.w) J f fd ps (FW T fM)/\Binds X.K fd ps []
section
variable {X:Cx}{T:Tb}{W:XK}{pins:List (Addr×Obj)}{σ:L2.St}{H:Hp}{s:Shared}{J:Nat}{A':Around}{fM:FM}{mt:Nat->Option FM}
theorem HV{f:Addr}{fd:FuncData}{ps:List Str}{us:List Value}{vs:List V}{Q:VK}(L:Lv X T W)(I:Inv X pins σ H s)(F:FnOk X.prog X.w X.K X.mg X.base (Au T.nn X.prog X.w) J f fd ps (FW T fM))(hr:Room J A')(hfr:A'.frames=X.A.frames)(hb:Binds X.K fd ps [])(r:Vals vs us)(h:FW T fM vs H Q W) :wpAny (model X.prog X.w) A' (call (.ref f) us) (EP X pins σ Q) X.xe s:=by
 have hl:(us++[]).length=ps.length:=by rw[List.append_nil,<-r.length,F.len _ _ _ _ h]
 have b2:=hb s us I.kIn hl;rw[List.append_nil]at b2;have e:=I.env0;have e0:Env0 X.prog X.w X.K X.mg X.base A' X.stack s H:=⟨by rw[hfr];exact e.frames,e.mod,e.bs,e.bsz,e.funs,e.frf,e.hok,e.bare⟩;refine wpAny_call (codeAny_mono (F.run A' X.stack s H ⟨us,[]⟩ us vs Q W hr e0 b2 r h) λr s' hq=>?_);cases r with
 |error e=>exact L.pass pins σ H s e s' I hq|ok fl=>
  cases fl with
  |ret u=>exact I.after hq|next=>exact False.elim hq
  |brk=>exact False.elim hq|cont=>exact False.elim hq
theorem DF{k:Nat}{p dx:Addr}{vfs:List (Str×V)}(I:Inv X pins σ H s)(h:H p=some (.ins (T.cA k) dx vfs)):∃ox od,PySem.W.InstAt s.heap p ox (T.cA k) od:=by obtain⟨mA,J,_⟩:=ins_get I.hok h;obtain⟨od,J2,_⟩:=J.look;exact⟨_,_,J2⟩
def HW:R A->R A
 |.ok (.v (.int n)) S=>if 0<=n/\n<9223372036854775808 then .ok (.v (.int n)) S else .stk
 |.err e S=>.err e S|_=>.stk
def adF:R A->R A|.ok (.v (.str x)) S=>.ok (.v (.str x)) S|.err e S=>.err e S|_=>.stk
def Ub(f:Bool->Bool):R A->R A|.ok (.v (.bl x)) S=>.ok (nC (f x)) S|.err e S=>.err e S|_=>.stk
section
variable {μ:List Addr}{Q:VK}{r:R A}
theorem Uc(h:oU T (λμ H=>aH T μ H) μ H Q W (HW r)):oU T (λμ H=>aH T μ H) μ H (λv H'=>∃n:Int,v=.int n/\(0<=n/\n<9223372036854775808)/\Q (.int n) H') W r:=by
 cases r with
 |stk=>exact h|err e S1=>exact h|ok w S1=>
  unfold HW at h;split at h;·rename_i eq;cases eq;split at h;rename_i hn;exactλμ' H' v ex hs' r=>⟨_,cq r,hn,cq r▸h μ' H' v ex hs' r⟩;·exact h.elim
  rename_i eq;cases eq;·exact h.elim
theorem QH{f:Bool->Bool}(h:oU T (λμ H=>aH T μ H) μ H Q W (Ub f r)):oU T (λμ H=>aH T μ H) μ H (λv H'=>∃b:Bool,v=.bl b/\Q (.bl (f b)) H') W r:=by
 cases r with
 |stk=>exact h|err e S1=>exact h|ok w S1 =>unfold Ub at h;split at h;rename_i eq;cases eq;refineλμ' H' v ex hs' r=>⟨_,by simpa only[aH,Rep]using r,h μ' H' _ ex hs' cO⟩;rename_i eq;cases eq;·exact h.elim
end
def b7(mt:Nat->Option FM):CN
 |[o],S=>match c0 o S with
  |some (k,_)=>(match mt k with
   |some fM=>HW (fM [o] S)|none=>.stk)
  |none=>.xm (cj [o] S) S
 |_,_=>.stk
theorem dC(L:Lv X T W)(hr:Room (J+1) X.A)(O:LJ X T "__len__" J mt):HU X T W (.builtin "len") (b7 mt):=by
 rintro pins s σ H vs us Q I rr ⟨μ,S,xs,hs,rs,k⟩;unfold b7 at k;split at k
 ·rename_i o;cases q:c0 o S with
  |none =>rw[q]at k;obtain⟨z,e,kk⟩:=qY k;exact bu L.k pins s σ H vs us Q I rr ⟨μ,S,[o],z,hs,rs,e,kk⟩
  |some kf=>
   obtain⟨kk,fs⟩:=kf;simp only[q]at k;cases qm:mt kk with
   |none=>rw[qm]at k;exact k.elim|some fM=>
    rw[qm]at k;obtain⟨v,rfl,r1⟩:=gW rs;obtain⟨p,dx,vfs,rfl,hp,_⟩:=iO hs r1 q;obtain⟨f,fd,ps,cl,m,F,b⟩:=O kk fM qm;obtain⟨ox,od,IA⟩:=DF I hp;cases rr with
    |cons r2 r3 =>cases r3;obtain rfl:=(show _=Value.ref p from r2);obtain⟨mm,hF⟩:=I.fr;refine PySem.W.len_K hF I.ok.mod.kin IA m.at_ m.fn (thn (HV L I F hr.in1 rfl b (us:=[.ref p]) (vs:=[.ref p]) (.cons rfl .nil) ⟨μ,S,[o],rs,hs,Uc k⟩) λu s1 ⟨v,H1,I1,r1,n,ev,hn,q1⟩=>?_);subst ev;obtain⟨t,rfl⟩:=r1;exact⟨⟨by omega,by omega⟩,⟨.int n,H1,I1.tok _,⟨_,rfl⟩,q1⟩⟩
 ·exact k.elim
end
end
section
open L2H (RoomH PinOk cxH inv_startH roomH_of)
theorem Ud{K:PySem.W.Frag}{C:Addr}:∀n∈yV,PySem.W.subIn K (.type n) (.ref C)=some false:=by intro n hn;simp only[yV,List.mem_cons,List.not_mem_nil,or_false]at hn;rcases hn with rfl|rfl|rfl|rfl|rfl|rfl<;>kernel_rfl
def QI(k:Nat)(y:A)(S:ag):Bool:=match c0 y S with
 |some (k',_)=>k' == k|none=>match zw y S with
  |some n=>yV.contains n|none=>false
section
variable {X:Cx}{T:Tb}{W:XK}{pins:List (Addr×Obj)}{σ:L2.St}{H:Hp}{s:Shared}{μ:List Addr}{S:ag}
theorem GA{k:Nat}{y:A}{v:V}{u:Value}(L:Lv X T W)(I:Inv X pins σ H s)(hs:aI T μ H S)(r:aH T μ H y v)(ru:RelV v u)(h:QI k y S=true):∃tb,PySem.W.Looks (model X.prog X.w) s.heap (typeOf u) tb/\PySem.W.notFirst X.K (T.cA k) tb=true:=by
 unfold QI at h;split at h
 ·rename_i k' fs q;have e:k'=k:=by simpa using h
  subst e;obtain⟨p,dx,vfs,rfl,hp,_⟩:=iO hs r q;obtain rfl:=(show u=Value.ref p from ru);obtain⟨ox,od,IA⟩:=DF I hp;exact⟨.ref (T.cA k'),IA.type,by unfold PySem.W.notFirst;rw[Bool.or_eq_true];exact .inl (by simp)⟩
 ·split at h;rename_i n q;obtain⟨P,KX,hP,_⟩:=kit_of I ru (L.k▸yY hs r q);refine⟨.type n,KX.ty _ _ I.kIn hP,?_⟩;unfold PySem.W.notFirst;rw[Ud n (by simpa using h)];simp;·cases h
def nE(mt:Nat->Option FM)(neg:Bool->Bool)(g:tK):Th:=λx y S=>match c0 x S with
 |some (k,_)=>(match mt k with
  |some fM=>if QI k y S=true then Ub neg (fM [x,y] S) else .stk
  |none=>.stk)
 |none=>(match c0 y S with
  |some _=>.stk|none=>.xm (g x y S) S)
variable {J:Nat}{mt:Nat->Option FM}
theorem Nj(L:Lv X T W)(hr:Room J X.A)(O:LJ X T "__eq__" J mt){g:tK}(hg:zv X T (compareOp .Eq) g):T7 X T W (compareOp .Eq) (nE mt id g):=by
 rintro pins s σ H x y v u Q I rx ry ⟨μ,S,a,b,hs,ra,rb,k⟩;unfold nE at k;cases q:c0 a S with
 |none=>
  rw[q]at k;simp only at k;split at k;·exact k.elim
  ·obtain⟨z,e,kk⟩:=qY k;exact hg pins s σ H x y v u Q I rx ry ⟨μ,S,a,b,z,hs,ra,rb,e,kk⟩
 |some kf=>
  obtain⟨kk,fs⟩:=kf;simp only[q]at k;cases qm:mt kk with
  |none=>rw[qm]at k;exact k.elim|some fM =>rw[qm]at k;simp only at k;split at k;rename_i ho;obtain⟨p,dx,vfs,rfl,hp,_⟩:=iO hs ra q;obtain⟨f,fd,ps,cl,m,F,b'⟩:=O kk fM qm;obtain⟨ox,od,IA⟩:=DF I hp;obtain rfl:=(show v=Value.ref p from rx);obtain⟨mm,hF⟩:=I.fr;obtain⟨tb,ht,hn⟩:=GA L I hs rb ry ho;refine PySem.W.cmp_ofEq (PySem.W.cmp_K (op:=.Eq) (tb:=tb) hr.units0 hF I.ok.mod.kin IA ht hn m.at_ m.fn (thn (HV L I F hr rfl b' (us:=[.ref p,u]) (vs:=[.ref p,y]) (.cons rfl (.cons ry .nil)) ⟨μ,S,[a,b],⟨_,_,rfl,ra,_,_,rfl,rb,rfl⟩,hs,QH k⟩) λw s1 ⟨z,H1,I1,r1,n,ev,q1⟩=>?_));subst ev;cases (show w=Value.bool n from r1);exact⟨.bl n,H1,I1,rfl,q1⟩;·exact k.elim
end
section
variable {prog:Program}{w:World}{A:Around}{E:Value->Shared->Prop}{s:Shared}{K:PySem.W.Frag}{x C f:Addr}{ox:Obj}{od:Option Obj}{u tb:Value}
theorem O5{Q:Option Value->Shared->Prop}(X:K.In s.heap)(IA:PySem.W.InstAt s.heap x ox C od)(hu:A.units+1<cLine)(hne:PySem.W.findIn K (.ref C) "__ne__" = some (some (.builtin "object.__ne__")))(hm:PySem.W.mroIn K C (.type "object")=some true)
  (heq:PySem.W.findIn K (.ref C) "__eq__" = some (some (.ref f))) (hf:PySem.W.isFn K (.ref f)=true) (h:wpAny (model prog w) A.in1 (call (.ref f) [.ref x,u]) (λv s1=>∃b,v=.bool b/\Q (some (.bool (!b))) s1) E s) :
  wpAny (model prog w) A (tryCompare (.ref x) "__ne__" u) Q E s:=by
 have bd:bindSpecial (.builtin "object.__ne__") (.ref x)=pure (.builtin "object.__ne__",[.ref x]):=F.cmp_object.ne.bind (.ref x);have main:wpAny (model prog w) A (callSpecialIfBound? (.ref x) "__ne__" [u]) (λr s1=>∃b,r=some (.bool b)/\Q (some (.bool b)) s1) E s:=by
  simp only[callSpecialIfBound?,bindSpecialIfBound?];refine wpAny_holding (wpAny_bind (wpAny_bind (wpAny_bind (IA.type.here ((PySem.W.looks_findIn X hne).here ?_)))));refine wpAny_bind (wpAny_askSetting (wpAny_ite ?_));have go:wpAny (model prog w) A (call (.builtin "object.__ne__") ([.ref x]++[u]) >>= λv=>pure (some v)) (λr s1=>∃b,r=some (.bool b)/\Q (some (.bool b)) s1) E s:=by refine wpAny_bind (wpAny_call (codeAny_call_builtin F.cmp_object.ne.plain F.cmpEntry_ne (@PySem.W.check_slot (model prog w) _ _ s "object.__ne__" "object" "__ne__" (.ref x) [u] [] _ F.cmpKind_ne F.cmpSplit_ne (IA.type.andThen (PySem.W.looks_mroIn X hm)) (F.cmpArgs_ne _ _) ?_)));unfold Builtin.«object.__ne__»;refine wpAny_bind (wpAny_of_eq (a:=(.ref x,[u])) (by rfl) ?_);refine wpAny_bind (wpAny_cRoomFor hu ?_);refine wpAny_bind (PySem.W.ifBound_K X IA heq hf (wpAny_mono h (λv s1 hv=>?_) λ_ _ z=>z));obtain⟨b,rfl,hq⟩:=hv;refine wpAny_bind (wpAny_truthy_bool ?_);exact wpAny_pure (wpAny_pure ⟨!b,rfl,hq⟩)
  split;exact wpAny_bind (wpAny_of_eq bd (wpAny_pure (by exact go)));·exact wpAny_tryCatch (wpAny_bind (wpAny_of_eq bd (wpAny_pure (by exact go))))
 unfold tryCompare;refine wpAny_bind (wpAny_mono main (λr s1 hr=>?_) λ_ _ z=>z);obtain⟨b,rfl,hq⟩:=hr;exact wpAny_pure hq
theorem LK{Q:Value->Shared->Prop}(X:K.In s.heap)(IA:PySem.W.InstAt s.heap x ox C od)(hu:A.units+1<cLine)(hne:PySem.W.findIn K (.ref C) "__ne__" = some (some (.builtin "object.__ne__")))(hm:PySem.W.mroIn K C (.type "object")=some true)
  (heq:PySem.W.findIn K (.ref C) "__eq__" = some (some (.ref f))) (hf:PySem.W.isFn K (.ref f)=true) (hb:PySem.W.Looks (model prog w) s.heap (typeOf u) tb) (hn:PySem.W.notFirst K C tb=true)
  (h:wpAny (model prog w) A.in1 (call (.ref f) [.ref x,u]) (λv s1=>∃b,v=.bool b/\Q (.bool (!b)) s1) E s):wpAny (model prog w) A (richCompare .NotEq (.ref x) u) Q E s:=by
 have one:wpAny (model prog w) A (tryCompare (.ref x) (cmpInfo .NotEq).2.1 u) (λr s1=>∃v,r=some v/\Q v s1) E s:=
  O5 X IA hu hne hm heq hf (wpAny_mono h (λv s1 hv=>by obtain⟨b,e,q⟩:=hv;exact⟨b,e,_,rfl,q⟩) λ_ _ z=>z)
 unfold richCompare;simp only[oneThing_ref];refine wpAny_holding (wpAny_bind (wpAny_cRoomFor (Nat.lt_of_succ_lt hu) ?_));refine wpAny_bind (IA.type.here (wpAny_bind (hb.here ?_)));split
 ·rename_i q;have e:PySem.W.subIn K tb (.ref C)=some false:=by
   unfold PySem.W.notFirst at hn;cases Bool.or_eq_true_iff.mp hn with
   |inl z =>rw[beq_iff_eq.mp z]at q;simp at q|inr z=>exact beq_iff_eq.mp z
  refine wpAny_bind ((PySem.W.looks_subIn X e).here ?_);simp only[Bool.false_eq_true,if_false];refine wpAny_bind (wpAny_mono one (λr s1 z=>?_) λ_ _ e=>e);obtain⟨v,rfl,hq⟩:=z;exact wpAny_pure hq
 ·refine wpAny_bind (wpAny_pure ?_);simp only[Bool.false_eq_true,if_false];refine wpAny_bind (wpAny_mono one (λr s1 z=>?_) λ_ _ e=>e);obtain⟨v,rfl,hq⟩:=z;exact wpAny_pure hq
end
def NeT(X:Cx)(T:Tb)(mt:Nat->Option FM):Prop:=∀k fM,mt k=some fM->PySem.W.findIn X.K (.ref (T.cA k)) "__ne__" = some (some (.builtin "object.__ne__"))/\PySem.W.mroIn X.K (T.cA k) (.type "object")=some true
section
variable {X:Cx}{T:Tb}{W:XK}{J:Nat}{mt:Nat->Option FM}
theorem AL(L:Lv X T W)(hr:Room (J+1) X.A)(O:LJ X T "__eq__" J mt)(N:NeT X T mt){g:tK}(hg:zv X T (compareOp .NotEq) g):T7 X T W (compareOp .NotEq) (nE mt (!·) g):=by
 rintro pins s σ H x y v u Q I rx ry ⟨μ,S,a,b,hs,ra,rb,k⟩;unfold nE at k;cases q:c0 a S with
 |none=>
  rw[q]at k;simp only at k;split at k;·exact k.elim
  ·obtain⟨z,e,kk⟩:=qY k;exact hg pins s σ H x y v u Q I rx ry ⟨μ,S,a,b,z,hs,ra,rb,e,kk⟩
 |some kf=>
  obtain⟨kk,fs⟩:=kf;simp only[q]at k;cases qm:mt kk with
  |none=>rw[qm]at k;exact k.elim|some fM =>rw[qm]at k;simp only at k;split at k;rename_i ho;obtain⟨p,dx,vfs,rfl,hp,_⟩:=iO hs ra q;obtain⟨f,fd,ps,cl,m,F,b'⟩:=O kk fM qm;obtain⟨n1,n2⟩:=N kk fM qm;obtain⟨ox,od,IA⟩:=DF I hp;obtain rfl:=(show v=Value.ref p from rx);obtain⟨tb,ht,hn⟩:=GA L I hs rb ry ho;refine PySem.W.cmp_ofNotEq (LK I.kIn IA (by have:=hr.un;omega) n1 n2 m.at_ m.fn ht hn (thn (HV L I F hr.in1 rfl b' (us:=[.ref p,u]) (vs:=[.ref p,y]) (.cons rfl (.cons ry .nil)) ⟨μ,S,[a,b],⟨_,_,rfl,ra,_,_,rfl,rb,rfl⟩,hs,QH k⟩) λw s1 ⟨z,H1,I1,r1,n,ev,q1⟩=>?_));subst ev;cases (show w=Value.bool n from r1);exact⟨n,rfl,.bl (!n),H1,I1,rfl,q1⟩;·exact k.elim
end
end
section
open L2H (RoomH PinOk cxH inv_startH roomH_of)
abbrev MK(X:Cx)(T:Tb)(W:XK)(kws:List Keyword)(r:AM):Prop:=PK X kws (Tj T W r)
theorem XZ{X:Cx}{kws:List Keyword}{t t':TA}(h:PK X kws t)(k:∀σ H Q,t' σ H Q->t σ H Q):PK X kws t':=⟨λpos pins s σ H Q I q=>h.run pos pins s σ H Q I (k σ H Q q)⟩
section
variable {X:Cx}{T:Tb}{W:XK}{e:Expr}{es:List Expr}{kws:List Keyword}{m:EM}{r rk:AM}{pos:Pos}
theorem QJ:MK X T W [] ah:=XZ pk_nil λσ H Q ⟨μ,ρ,S,he,hs,h⟩=>h μ H [] Ext.refl hs rfl
def perm{α:Type}(ix:List Nat)(l:List α):List α:=ix.filterMap λi=>l[i]?
theorem O6{ix:List Nat}{vs:List V}{us:List Value}(r:Vals vs us):Vals (perm ix vs) (perm ix us):=by
 unfold perm;induction ix with
 |nil=>exact .nil|cons i ix ih=>
  rw[List.filterMap_cons,List.filterMap_cons];cases q:vs[i]? with
  |none =>have:us[i]?=none:=(by rw[List.getElem?_eq_none_iff]at q ⊢;rw[<-r.length];exact q);rw[this];exact ih|some v =>obtain⟨u,hu,rv⟩:=r.get q;rw[hu];exact .cons rv ih
theorem O7{T:Tb}{μ:List Addr}{H:Hp}{ix:List Nat}{xs:List A}{vs:List V}(r:cU T μ H xs vs):cU T μ H (perm ix xs) (perm ix vs):=by
 have get:∀{xs:List A}{vs:List V}{i:Nat},cU T μ H xs vs->(xs[i]?=none->vs[i]?=none)/\∀x,xs[i]?=some x->∃v,vs[i]?=some v/\aH T μ H x v:=by
  intro xs;induction xs with
  |nil=>rintro vs i h;have h':vs=[]:=h;subst h';exact⟨λ_=>rfl,λx e=>by cases e⟩
  |cons y ys ih=>
   rintro vs i ⟨v,ws,rfl,h1,h2⟩;cases i with
   |zero=>exact⟨λe=>by simp at e,λx e=>by simp at e;subst e;exact⟨v,rfl,h1⟩⟩|succ i=>simpa using ih (i:=i) h2
 unfold perm;induction ix with
 |nil=>rfl|cons i ix ih=>
  rw[List.filterMap_cons,List.filterMap_cons];cases q:xs[i]? with
  |none=>rw[(get r).1 q];exact ih|some x =>obtain⟨v,e,rv⟩:=(get r).2 x q;rw[e];exact⟨v,_,rfl,rv,ih⟩
def KB(fd:FuncData)(ps:List Str)(n:Nat)(ks:List Str)(ix:List Nat):Prop:=∀us ws:List Value,us.length=n->ws.length=ks.length->bindArgs fd ⟨us,ks.zip ws⟩=pure (ps.zip (perm ix (us++ws)))
def xJ(n m:Nat)(ix:List Nat)(fM:FM)(r rk:AM):EM:=λρ S=>(r ρ S).bind λxs S1=>(rk ρ S1).bind λzs S2=>if xs.length=n/\zs.length=m then fM (perm ix (xs++zs)) S2 else .stk
theorem aa3{pins:List (Addr×Obj)}{σ:L2.St}{H:Hp}{s:Shared}{Q:Value->Shared->Prop}{μ:List Addr}{ρ:Env}{S:ag}{f:Value}{first:List Value}{γ δ:Type}{Rq:List Addr->Hp->γ->δ->Prop}{Q':δ->Hp->Prop}{k:List A->List A->ag->R γ}
  (I:Inv X pins σ H s) (hk:PySem.W.keepIn X.K f=true) (ha:MA X T W es r) (hkw:MK X T W kws rk) (he:dw T μ H ρ σ) (hs:aI T μ H S) (h:oU T Rq μ H Q' W ((r ρ S).bind λxs S1=>(rk ρ S1).bind λzs S2=>k xs zs S2))
  (go:∀s2 H2 μ2 S2 vs us zs ws xs ys,Inv X pins σ H2 s2->aI T μ2 H2 S2->cU T μ2 H2 xs vs->cU T μ2 H2 ys zs->Vals vs us->Vals zs ws->Ext μ H μ2 H2->oU T Rq μ2 H2 Q' W (k xs ys S2)->wpAny (model X.prog X.w) X.A (call f (first++us) (((backToKw pos (keywordEach kws X.env)).filterMap (·.1)).zip ws)) Q X.xe s2)
  (hst:∀e es',es=e::es'->starEach (e::es') X.env=(false,eval e X.env)::starEach es' X.env:=by intro _ _ h;cases h<;>rfl) (hpl:((backTo pos (starEach es X.env)).any (·.1)||(backToKw pos (keywordEach kws X.env)).any (·.1.isNone))=false:=by rfl) (hall:(backToKw pos (keywordEach kws X.env)).all (·.1.isSome)=true:=by rfl) (hr0:es=[]->r=ah:=by intro h;first|rfl|cases h) :
  wpAny (model X.prog X.w) X.A (callWith pos f first (backTo pos (starEach es X.env)) (backToKw pos (keywordEach kws X.env))) Q X.xe s:=by
 have body:∀{us:List Value}{vs:List V}{s1:Shared}{H1:Hp}{μ1:List Addr}{S1:ag}{xs:List A},Inv X pins σ H1 s1->dw T μ1 H1 ρ σ->aI T μ1 H1 S1->cU T μ1 H1 xs vs->Vals vs us->Ext μ H μ1 H1->oU T Rq μ1 H1 Q' W ((rk ρ S1).bind λzs S2=>k xs zs S2) ->
   wpAny (model X.prog X.w) X.A (evalAll ((backToKw pos (keywordEach kws X.env)).map (·.2))) (λks s₂=>X.K.In s₂.heap/\wpAny (model X.prog X.w) X.A (call f (first++us) (((backToKw pos (keywordEach kws X.env)).filterMap (·.1)).zip ks)) Q X.xe s₂) X.xe s1:=by
  intro us vs s1 H1 μ1 S1 xs I1 he1 hs1 rs rv ex h1;have q2:Tj T W rk σ H1 λzs H2=>∃μ2 S2 ys,aI T μ2 H2 S2/\cU T μ2 H2 ys zs/\Ext μ1 H1 μ2 H2/\oU T Rq μ2 H2 Q' W (k xs ys S2):=gB he1 hs1 h1 λzs H2 μ2 S2 ys ex2 he2 hs2 rs2 h2=>⟨μ2,S2,ys,hs2,rs2,ex2,h2⟩;exact thn (hkw.run pos pins s1 σ H1 _ I1 q2) λws s2 ⟨zs,H2,I2,rz,μ2,S2,ys,hs2,rs2,ex2,h2⟩=>⟨I2.kIn,go s2 H2 μ2 S2 vs us zs ws xs ys I2 hs2 (rs.mono ex2) rs2 rv rz (ex.trans ex2) h2⟩
 have q1:Tj T W r σ H λvs H1=>∃μ1 S1 xs,dw T μ1 H1 ρ σ/\aI T μ1 H1 S1/\cU T μ1 H1 xs vs/\Ext μ H μ1 H1/\oU T Rq μ1 H1 Q' W ((rk ρ S1).bind λzs S2=>k xs zs S2):=gB he hs h λvs H1 μ1 S1 xs ex he1 hs1 rs h1=>⟨μ1,S1,xs,he1,hs1,rs,ex,h1⟩;cases es with
 |nil =>refine PySem.W.callWith_KW0 (h₀:=X.base) I.ok.mod.kin hk hall ?_ hpl;have e0:=hr0 rfl;subst e0;exact body (us:=[]) (vs:=[]) I he hs (xs:=[]) rfl .nil Ext.refl h|cons e es' =>refine PySem.W.callWith_KW (h₀:=X.base) I.ok.mod.kin hk hall (thn (ha.run pos pins s σ H _ I q1) λus s1 ⟨vs,H1,I1,rv,μ1,S1,xs,he1,hs1,rs,ex,h1⟩=>?_) hpl (hst e es' rfl);exact body I1 he1 hs1 rs rv ex h1
variable {m:Str}{p apos:Pos}{f:Addr}{fd:FuncData}{ps ks:List Str}{fM:FM}{j n:Nat}{ix:List Nat}
structure QK (K:PySem.W.Frag) (C:Addr) (m:Str) (f:Addr):Prop where
 ga:PySem.W.specialIn K (.ref C) "__getattribute__" = some (some (.builtin "type.__getattribute__"))
 ex:∃mc p rest,PySem.W.typeIn K (.ref C)=some mc/\PySem.W.readsIn K C mc=true/\PySem.W.findCls K (.ref C) mc m=some (.get (.builtin "staticmethod.__get__") (.ref p) .none (.ref C))/\PySem.W.recIn K p "staticmethod" = some (.ref f::rest)
 kp:PySem.W.keepIn K (.ref f)=true
theorem Nk{cx:Str}{cp:Pos}{C:Addr}{pl:Sem Bool}(L:Lv X T W)(SM:QK X.K C m f)(F:FnOk X.prog X.w X.K X.mg X.base (Au T.nn X.prog X.w) j f fd ps (FW T fM))(hr:Room j X.A)(hg:Gl X cx)(hm:X.mg cx=some (.ref C))(hb:KB fd ps n ks ix)(ha:MA X T W es r)(hkw:MK X T W kws rk)
  (ht:eval (.Call (.Attribute (.Name cx cp) m apos) es kws pos) X.env=(do
   let ov <-eval (.Name cx cp) X.env
   standAt apos.atName
   let (f,first) <-holding [ov] (getMethod ov m pl)
   callWith pos f first (backTo pos (starEach es X.env)) (backToKw pos (keywordEach kws X.env))):=by rfl) (hdb:(cx == ("__debug__" : Str))=false:=by decide)
  (hks:(backToKw pos (keywordEach kws X.env)).filterMap (·.1)=ks:=by rfl) (hst:∀e es',es=e::es'->starEach (e::es') X.env=(false,eval e X.env)::starEach es' X.env:=by intro _ _ h;cases h<;>rfl) (hpl:((backTo pos (starEach es X.env)).any (·.1)||(backToKw pos (keywordEach kws X.env)).any (·.1.isNone))=false:=by rfl) (hall:(backToKw pos (keywordEach kws X.env)).all (·.1.isSome)=true:=by rfl) (hr0:es=[]->r=ah:=by intro h;first|rfl|cases h) :
  ME X T W (.Call (.Attribute (.Name cx cp) m apos) es kws pos) (xJ n ks.length ix fM r rk):=⟨λpins s σ H Q I ⟨μ,ρ,S,he,hs,h⟩=>by
 obtain⟨mc,q,rest,g1,g2,g3,g4⟩:=SM.ex;refine PySem.W.methodCall_KW (pl:=pl) (ld_glob I hg hm ?_ hdb) ht;obtain⟨mm,hF⟩:=I.fr;refine PySem.W.method_of_cls hF I.ok.mod.kin SM.ga (PySem.W.cls_sm hF I.ok.mod.kin g1 g2 g3 g4 rfl ?_);have I1:=I.tok (s.toks+1);refine aa3 (first:=[]) I1 SM.kp ha hkw he hs h (λs2 H2 μ2 S2 vs us zs ws xs ys I2 hs2 rs2 rk2 rv rz ex h2=>?_) hst hpl hall hr0;split at h2
 ·rename_i hl;rw[hks];have e1:us.length=n:=by rw[<-rv.length,rs2.length];exact hl.1
  have e2:ws.length=ks.length:=by rw[<-rz.length,rk2.length];exact hl.2
  have sp:FW T fM (perm ix (vs++zs)) H2 Q W:=⟨μ2,S2,_,O7 (JR rs2 rk2),hs2,h2⟩;show wpAny _ _ (call (.ref f) us (ks.zip ws)) _ _ _;refine wpAny_call (codeAny_mono (F.run X.A X.stack s2 H2 ⟨us,ks.zip ws⟩ (perm ix (us++ws)) _ Q W hr I2.env0 (.of_eq (hb us ws e1 e2)) (O6 (rv.append rz)) sp) λr s' hq=>?_);cases r with
  |error e=>exact L.pass pins σ H2 s2 e s' I2 hq|ok fl=>
   cases fl with
   |ret u=>exact I2.after hq|next=>exact False.elim hq
   |brk=>exact False.elim hq|cont=>exact False.elim hq
 ·exact h2.elim⟩
def X0(k n m:Nat)(ix:List Nat)(fM:FM)(r rk:AM):EM:=λρ S=>(r ρ S).bind λxs S1=>(rk ρ S1).bind λzs S2=>if xs.length=n/\zs.length=m then Nd k S2.length (fM (perm ix (.m S2.length::xs++zs)) (S2++[.ins k []])) else .stk
end
structure aa4 (T:Tb) (k:Nat):Prop where
 bt:∀n∈yV,PySem.W.kitOne T.K (.type n) (.ref (T.cA k))=some false
 cl:Cls T.K (T.cA k)
 ha:PySem.W.findIn T.K (.ref (T.cA k)) "__class__" = some (some (.builtin "object.__class__"))
 hn:PySem.W.specialIn T.K (.builtin "object.__class__") "__get__" = some (some (.builtin "getset_descriptor.__get__"))
 tk:PySem.W.takesIn T.K (.builtin "object.__class__")=some true
 hm:PySem.W.mroIn T.K (T.cA k) (.type "object")=some true
structure Ue (T:Tb) (cs:List Nat):Prop where
 one:∀k∈cs,aa4 T k
 two:∀k'∈cs,∀k∈cs,PySem.W.kitOne T.K (.ref (T.cA k')) (.ref (T.cA k))=some (k' == k)
def GB(cs:List Nat):e9:=λxs S=>match xs with
 |[x,.v (.cls k)]=>if cs.contains k then(match c0 x S with
  |some (k',_)=>if cs.contains k' then some (nC (k' == k)) else none
  |none=>(zw x S).bind λn=>if yV.contains n then some (nC false) else none) else none
 |[x,y]=>dN [x,y] S|_=>none
theorem Ew{X:Cx}{T:Tb}(hK:X.K=T.K){cs:List Nat}(C:Ue T cs):hW X T (.builtin "isinstance") (GB cs):=by
 rintro pins s σ H vs us Q I rr ⟨μ,S,xs,z,hs,rs,hg,k⟩;unfold GB at hg;split at hg
 ·rename_i x kc;split at hg
  ·rename_i hc;have hc':kc∈cs:=by simpa using hc
   obtain⟨v,w,rfl,r1,r2⟩:=Gr rs;have ew:w=.ref (T.cA kc):=(by simpa only[aH,Rep]using r2);subst ew;split at hg
   ·rename_i k' fs q;split at hg
    ·rename_i hc2;have hc3:k'∈cs:=by simpa using hc2
     cases hg;obtain⟨p,dx,vfs,rfl,hp,_⟩:=iO hs r1 q;have D:=C.one k' hc3;exact call_isi pins s σ H _ us Q I rr ⟨.ref p,.ref (T.cA kc),_,_,_,rfl,.own _,.base (.ins hp (hK▸D.cl) (hK▸D.ha) (hK▸D.hn) (hK▸D.tk) (hK▸D.hm)),hK▸C.two k' hc3 kc hc',k μ H _ Ext.refl hs cO⟩
    ·cases hg
   ·cases q:zw x S with|none=>rw[q]at hg;cases hg|some n =>rw[q]at hg;simp only[Option.bind_some]at hg;split at hg;rename_i hn;cases hg;exact call_isi pins s σ H _ us Q I rr ⟨v,.ref (T.cA kc),_,_,_,rfl,.own _,hK▸yY hs r1 q,hK▸(C.one kc hc').bt n (by simpa using hn),k μ H _ Ext.refl hs cO⟩;·cases hg
  ·cases hg
 exact df hK pins s σ H vs us Q I rr ⟨μ,S,_,z,hs,rs,hg,k⟩;·cases hg
end
section
open L2H (RoomH PinOk cxH inv_startH roomH_of)
theorem jw{X:Cx}{T:Tb}(hK:X.K=T.K):Lv X T W0:=⟨hK,aaJ⟩
def eU:tK:=λa b S=>match gEq a b S with
 |some z=>some z|none=>Eu a b S
def mD:tK:=λa b S=>match gNe a b S with
 |some z=>some z|none=>LI a b S
section
variable {X:Cx}{T:Tb}{W:XK}{a b:Expr}{ma mb:EM}{pos:Pos}
theorem op_or{f:Value->Value->Sem Value}{g h k:tK}(hg:zv X T f g)(hh:zv X T f h)(e:∀a b S,k a b S=g a b S\/k a b S=h a b S):zv X T f k:=by rintro pins s σ H x y v u Q I rx ry ⟨μ,S,a,b,z,hs,ra,rb,hk,q⟩;rcases e a b S with e|e;exact hg pins s σ H x y v u Q I rx ry ⟨μ,S,a,b,z,hs,ra,rb,by rw[<-e];exact hk,q⟩;·exact hh pins s σ H x y v u Q I rx ry ⟨μ,S,a,b,z,hs,ra,rb,by rw[<-e];exact hk,q⟩
theorem iS(hK:X.K=T.K)(hu:X.A.units+64<cLine):zv X T (compareOp .Eq) eU:=op_or Xz (T9 hK hu) λa b S=>by unfold eU;split;rename_i q;exact .inl q.symm;·exact .inr rfl
theorem oX(hK:X.K=T.K)(hu:X.A.units+64<cLine):zv X T (compareOp .NotEq) mD:=op_or XA (Ua hK hu) λa b S=>by unfold mD;split;rename_i q;exact .inl q.symm;·exact .inr rfl
theorem AN{op:CmpOp}{g:Th}(hL:Lv X T W)(ho:T7 X T W (compareOp op) g)(hg:∀x y S z S',g x y S=.ok z S'->∃k,z=nC k)(ha:ME X T W a ma)(hb:ME X T W b mb)(hm:behindInMarks op b=false:=by first|exact nomark _|rfl|with_unfolding_all rfl) :MT X T W (.Compare a [op] [b] pos) (tE (wa g ma mb)):=Hy (pt_cmpR ho ha hb hm) λσ H Q ⟨μ,ρ,S,he,hs,h⟩=>by
 have h2:oU T (λ_ _ a b=>a=b) μ H Q W ((ma ρ S).bind λx S1=>(mb ρ S1).bind λy S2=>(g x y S2).bind λz S3=>R.xm (uW z S3) S3):=by
  unfold tE wa at h;cases q1:ma ρ S with
  |stk=>rw[q1]at h;exact h|err e S1=>rw[q1]at h;exact h|ok x S1=>
   simp only[q1,R.ak]at h ⊢;cases q2:mb ρ S1 with
   |stk=>rw[q2]at h;exact h|err e S2=>rw[q2]at h;exact h|ok y S2=>simpa only[q2,R.ak]using h
 refine bL he hs h2 λv H1 μ1 S1 x ex he1 hs1 ra h3=>?_;refine bL he1 hs1 h3 λu H2 μ2 S2 y ex2 he2 hs2 rb h4=>?_;refine⟨μ2,S2,x,y,hs2,ra.mono ex2,rb,?_⟩;cases q:g x y S2 with
 |stk=>rw[q]at h4;exact h4|err e S3=>rw[q]at h4;exact h4|ok z S3 =>obtain⟨k,rfl⟩:=hg _ _ _ _ _ q;rw[q]at h4;intro μ' H' w ex3 hs3 r3;exact⟨k,M4 r3,h4 μ' H' k ex3 hs3 rfl⟩
theorem X1{f:Bool->Bool}{r:R A}{z:A}{S:ag}(h:Ub f r=.ok z S):∃k,z=nC k:=by unfold Ub at h;split at h;cases h;exact⟨_,rfl⟩;cases h;·cases h
theorem X2{o:Option A}{S S':ag}{z:A}(h:R.xm o S=.ok z S'):o=some z:=by
 cases o with
 |none=>cases h|some y=>cases h;rfl
theorem AO{mt:Nat->Option FM}{neg:Bool->Bool}{g:tK}(hg:∀x y S z,g x y S=some z->∃k,z=nC k):∀x y S z S',nE mt neg g x y S=.ok z S'->∃k,z=nC k:=λx y S z S' h=>by
 unfold nE at h;split at h
 ·split at h;·split at h;exact X1 h;·cases h
  ·cases h
 ·split at h;cases h;·exact hg _ _ _ _ (X2 h)
theorem Ug:∀x y S z,Eu x y S=some z->∃k,z=nC k:=λx y S z h=>by
 unfold Eu at h;split at h
 ·split at h;·split at h;cases h;exact⟨_,rfl⟩;·cases h
  ·cases h
 ·cases h
theorem Uh:∀x y S z,LI x y S=some z->∃k,z=nC k:=λx y S z h=>by
 unfold LI at h;split at h
 ·split at h;·split at h;cases h;exact⟨_,rfl⟩;·cases h
  ·cases h
 ·cases h
theorem yZ:∀x y S z,eU x y S=some z->∃k,z=nC k:=λx y S z h=>by unfold eU at h;split at h;rename_i q;cases h;exact XG _ _ _ _ q;·exact Ug _ _ _ _ h
theorem qZ:∀x y S z,mD x y S=some z->∃k,z=nC k:=λx y S z h=>by unfold mD at h;split at h;rename_i q;cases h;exact XH _ _ _ _ q;·exact Uh _ _ _ _ h
end
structure ZT (P:Program) (K:PySem.W.Frag) (mg:Str->Option Value) (C:Addr) (ps:List Str) (fl:List (Str×kO)):Prop where
 o:OexC K C
 ex:∃fI fd,PySem.W.findIn K (.ref C) "__init__" = some (some (.ref fI))/\PySem.W.typeIn K (.ref fI)=some (.type "function")/\Binds K fd ps []/\∀(w:World) (base:Heap) (b:Bool),FnOk P w K mg base (Au b P w) 1 fI fd ps (XT C (ps.length-1) fl)
section
variable {X:Cx}{T:Tb}{W:XK}{r:AM}{x:Str}{e:Expr}{es:List Expr}{p pos rpos:Pos}{k:Nat}{fl:List (Str×kO)}{ps:List Str}
theorem BP(L:Lv X T W)(hc:X.calm=true)(E:ZT X.prog X.K X.mg (T.cA k) ps fl)(hr:Room 2 X.A)(hg:Gl X x)(hm:X.mg x=some (.ref (T.cA k)))(ha:MA X T W (e::es) r)
  (hdb:(x == ("__debug__" : Str))=false:=by decide) (he:starEach (e::es) X.env=(false,eval e X.env)::starEach es X.env:=by rfl) (hpl:(backTo pos (starEach es X.env)).any (·.1)=false:=by rfl) :
  MS X T W (.Raise (some (.Call (.Name x p) (e::es) [] pos)) none rpos) (qz k (ps.length-1) fl r):=by
 obtain⟨fI,fd,h1,h2,h3,h4⟩:=E.ex;exact QG L hc rfl E.o h1 h2 (h4 X.w X.base T.nn) hr h3 hg hm ha hdb he hpl
end
end
theorem QL{X:Cx}{T:Tb}{W:XK}{x:Str}{pos:Pos}(k:Nat)(hg:Gl X x)(hm:X.mg x=some (.ref (T.cA k)))(hd:(x == ("__debug__" : Str))=false:=by decide):ME X T W (.Name x pos) (eC (.cls k)):=
 Lw (v:=.ref (T.cA k)) (λ_ _=>by simp only[Rep]) (pe_glob hg hm rfl hd)
section
open L2H (RoomH PinOk cxH inv_startH roomH_of)
theorem _root_.L2H.RoomH.units{k:Nat}{A:Around}(r:RoomH k A):A.units+64<cLine:=by have:=r.un;omega
end
theorem JY{α β:Type}{f:α->β}{l:List α}(h:l.map f=[]):l=[]:=by cases l<;>first|rfl|cases h
theorem bA.acv{K:PySem.W.Frag}{d:bA}(e:PR K (d.at_ K)=d.val)(c:d.ok K=true)(hc:d.FT=[]:=by rfl):∃fd,Fun K d.name d.qual d.st (d.at_ K) fd/\PySem.W.keepIn K (.ref (d.at_ K))=true:=by obtain⟨kp,oc,od,osl,FT,kV,doc,pm,an,cdv,ct,h1,h2,h3⟩:=d.get e c;rw[hc]at h1;have:=JY h1;subst this;exact⟨_,fun_mk (st:=d.st) h3 h2 kp,kp⟩
section
variable {ok:PySem.W.Frag->Bool}{fn:List bA}{K:PySem.W.Frag}{c P:Addr}{h:Heap}
theorem D1.def_(z:D1 ok fn K c P h)(i:Nat){d:bA}(hd:fn[i]?=some d:=by rfl)(hc:d.FT=[]:=by rfl):∃fd,Fun K d.name d.qual d.st (d.at_ K) fd/\PySem.W.keepIn K (.ref (d.at_ K))=true:=
 d.acv (z.eq i hd) (z.Xb d (List.mem_of_getElem? hd)) hc
end
theorem w5{a b:Option (Option Value)}(h:oB a b=true):a=b:=of_decide_eq_true h
section
variable {K:PySem.W.Frag}
theorem JZ{C:Addr}{f:Str}(h:P0 K C f=true):PropOf K C f (He.ma K C f) (PZ K C f):=by
 obtain⟨h1,h⟩:=jk h;obtain⟨h2,h⟩:=jk h;obtain⟨h3,h4⟩:=jk h;refine⟨w5 h1,w5 h2,of_decide_eq_true h3,?_⟩;cases q:PySem.W.recIn K (He.ma K C f) "property" with
 |none=>rw[q]at h4;cases h4|some l=>
  rw[q]at h4
  match l,h4 with
  |.ref g::r,h4 =>have e:g=PZ K C f:=(by simpa using h4);exact⟨r,by rw[<-e]⟩
theorem QM{C:Addr}{m:Str}(h:V8 K C m=true):QK K C m (MM K C m):=by
 obtain⟨h1,h⟩:=jk h;obtain⟨h2,h⟩:=jk h;refine⟨w5 h1,?_,h2⟩;cases q:PySem.W.typeIn K (.ref C) with
 |none=>rw[q]at h;cases h|some mc=>
  rw[q]at h;obtain⟨h3,h⟩:=jk h;cases q2:PySem.W.findCls K (.ref C) mc m with
  |none=>rw[q2]at h;cases h|some r=>
   rw[q2]at h;split at h
   ·rename_i b p C' e;cases e;obtain⟨h4,h⟩:=jk h;obtain⟨h5,h⟩:=jk h;obtain⟨h6,h7⟩:=jk h;have e4:=of_decide_eq_true h4;have e5:=of_decide_eq_true h5;have e6:=of_decide_eq_true h6;subst e4 e5 e6;cases q3:PySem.W.recIn K (He.ma K C' m) "staticmethod" with
    |none=>rw[q3]at h7;cases h7|some l=>
     rw[q3]at h7
     match l,h7 with
     |.ref g::r,h7 =>have e:g=MM K C' m:=(by simpa using h7);exact⟨mc,_,r,rfl,h3,q2,by rw[<-e];exact q3⟩
   ·cases h
theorem Nl{C:Addr}(h:P1 K C=true):OexC K C:=by
 obtain⟨q,h⟩:=jk h;obtain⟨h2,h⟩:=jk h;obtain⟨h3,h⟩:=jk h;obtain⟨h4,h5⟩:=jk h;refine⟨?_,w5 h2,of_decide_eq_true h3,of_decide_eq_true h4,h5⟩;split at q
 ·rename_i dd cd sl ho;split at q
  ·rename_i C' bm k0 k1 k2 k3 n k5 hm hs;simp only[Bool.and_eq_true,beq_iff_eq,Bool.not_eq_true']at q;obtain⟨rfl,rfl,hdel,hdict,hr⟩:=q;obtain⟨nm,bs,mro,ns,qn,hd,sn,sub,ab,col,del⟩:=cd;dsimp only at hm hdel hdict;subst hm hdel hdict;have hsl:sl=#[k0,k1,k2,k3,some (.builtin "ValueError.__new__"),k5]:=by obtain⟨l⟩:=sl;simp only at hs;rw[hs]
   subst hsl;exact⟨nm,qn,ns,bs,bm,sn,sub,ab,col,dd,k0,k1,k2,k3,k5,ho,hr⟩
  ·cases q
 ·cases q
theorem Ui{C:Addr}{main:Str}{cdv:Value}{FT:List (Str×Addr)}(h:Tw K C main cdv FT=true):∃c x cc,cdv=.ref c/\FT=[(x,cc)]/\Gb K cc=some (.ref C)/\Ge K c main=true:=by unfold Tw at h;split at h;obtain⟨k1,k2⟩:=jk h;exact⟨_,_,_,rfl,rfl,of_decide_eq_true k1,k2⟩;·cases h
def ixB(n:Nat)(fl:List (Str×kO)):Bool:=fl.all λp=>match p.2 with
 |.inl i=>decide (i+1<n)|.inr _=>true
theorem LL{n:Nat}{fl:List (Str×kO)}(h:ixB n fl=true):∀p∈fl,∀i,p.2=.inl i->i+1<n:=λp hp i e=>by have:=List.all_eq_true.mp h p hp;rw[e]at this;exact of_decide_eq_true this
theorem HX{P:Program}{mg:Str->Option Value}{d:bA}{C:Addr}{main:Str}{N ps:List Str}{fl:List (Str×kO)}{rest:List Stmt}{p0 p1 p2 pos spos:Pos}(h0:P1 K C=true)(h:Tx K d C main (fl.map (·.1))=true)(e:PR K (d.at_ K)=d.val)(c:d.ok K=true)(hclo:d.FT=[("__class__" : Str)])(hmain:P.main.file=main)
  (hst:defBody d.st=.Expr (tR p0 p1 p2 pos) spos::rest) (S:QD N ps (defScope d.st) (defArgs d.st) fl rest) (hm:mg "super" = none) (htop:(P.main.scope.names.lookup ("super" : Str)).isSome=false)
  (hb:∀(FT:List (Str×Addr)) (kV doc pm:Value) (an:Option Addr) (cdv ct:Value) (us:List Value),us.length=ps.length->bindArgs (PySem.W.fnX d.name d.qual (defArgs d.st) (defBody d.st) (defScope d.st) FT .none kV doc pm an cdv ct) ⟨us,[]⟩=pure (ps.zip us)) (hev:Wi p0 p1 p2 pos:=by exactλ_=>⟨_,by rfl⟩):ZT P K mg C ps fl:=by
 obtain⟨kp,oc,od,osl,FT,kV,doc,pm,an,cdv,ct,g1,g2,g3⟩:=d.get e c;obtain⟨h1,h⟩:=jk h;obtain⟨h2,h⟩:=jk h;obtain⟨h3,h⟩:=jk h;obtain⟨h4,h⟩:=jk h;obtain⟨h5,h⟩:=jk h;obtain⟨h6,h⟩:=jk h;obtain⟨h7,h⟩:=jk h;rw[g3]at h;obtain⟨cc0,x,y,rfl,rfl,k1,k2⟩:=Ui (show Tw K C main cdv FT=true from h);rw[hclo]at g1;have ey:x = "__class__" := by simpa using g1
 subst ey;refine⟨Nl h0,_,PySem.W.fnX d.name d.qual (defArgs d.st) (defBody d.st) (defScope d.st) [(("__class__" : Str),y)] .none kV doc pm an (.ref cc0) ct,w5 h1,of_decide_eq_true h2,.all λus hl=>hb _ kV doc pm an _ ct us hl,λw base b=>?_⟩;have U:XQ K C y cc0 d.qual P.main.file:=⟨k1,w5 h3,of_decide_eq_true h4,of_decide_eq_true h5,w5 h6,g2,by rw[hmain];exact k2⟩;rw[hst]at g3 ⊢;exact QE (k:=0) g3 (Nl h0) U S (λp hp=>w5 (List.all_eq_true.mp h7 p.1 (List.mem_map_of_mem hp))) hm htop hev
theorem Uj{T:Tb}{k:Nat}(h:Xj T.K (T.cA k)=true)(hc:Cls T.K (T.cA k)):aa4 T k:=by obtain⟨h1,h⟩:=jk h;obtain⟨h2,h⟩:=jk h;obtain⟨h3,h⟩:=jk h;obtain⟨h4,h5⟩:=jk h;exact⟨λn hn=>of_decide_eq_true (List.all_eq_true.mp h1 n hn),hc,w5 h2,w5 h3,of_decide_eq_true h4,of_decide_eq_true h5⟩
theorem Uk{cA:Nat->Addr}{cs:List Nat}(h:aam K cA cs=true):∀T:Tb,T.K=K->T.cA=cA->Ue T cs:=by
 rintro T rfl rfl;have one:∀k∈cs,Xj T.K (T.cA k)=true/\Cls T.K (T.cA k)/\∀k'∈cs,PySem.W.kitOne T.K (.ref (T.cA k')) (.ref (T.cA k))=some (k' == k):=λk hk=>by obtain⟨h1,h⟩:=jk (List.all_eq_true.mp h k hk);obtain⟨h2,h⟩:=jk h;obtain⟨h3,h⟩:=jk h;obtain⟨h4,h⟩:=jk h;obtain⟨h5,h6⟩:=jk h;exact⟨h1,⟨h2,h3,h4,He.eqO_ok h5⟩,λk' hk'=>of_decide_eq_true (List.all_eq_true.mp h6 k' hk')⟩
 exact⟨λk hk=>Uj (one k hk).1 (one k hk).2.1,λk' hk' k hk=>(one k hk).2.2 k' hk'⟩
theorem X3{x qual:Str}{st:Stmt}{f:Addr}{fd:FuncData}{ps ks:List Str}{n:Nat}{ix:List Nat}(F:Fun K x qual st f fd)
  (h:∀(kV doc pm:Value) (an:Option Addr) (cdv ct:Value) (us ws:List Value),us.length=n->ws.length=ks.length->bindArgs (PySem.W.fnOf x qual (defArgs st) (defBody st) (defScope st) .none kV doc pm an cdv ct) ⟨us,ks.zip ws⟩=pure (ps.zip (perm ix (us++ws)))):KB fd ps n ks ix:=by
 obtain⟨oc,od,kV,doc,pm,an,cdv,ct,osl,rfl,lk,hcd⟩:=F.ex;exactλus ws h1 h2=>h kV doc pm an cdv ct us ws h1 h2
end
def aa5:Expr->List Expr|.BoolOp _ vs _=>vs|.BinOp a _ b _=>[a,b]|.UnaryOp _ a _=>[a]|.Lambda _ b _ _=>[b]|.IfExp a b c _=>[a,b,c]|.ListComp e _ _ _=>[e]|.SetComp e _ _ _=>[e]|.GeneratorExp e _ _ _=>[e]|.Compare a _ bs _=>a::bs|.Call f as _ _=>f::as|.Attribute a _ _=>[a]|.Subscript a b _=>[a,b]|.Starred a _=>[a]|.List es _=>es|.Tuple es _ _=>es|_=>[]
def aa6:Stmt->List Expr|.Return (some e) _=>[e]|.Assign _ e _=>[e]|.AugAssign _ _ e _=>[e]|.For _ e _ _ _=>[e]|.While e _ _ _=>[e]|.If e _ _ _=>[e]|.Expr e _=>[e]|_=>[]
def adH:Stmt->List Stmt|.For _ _ b o _=>b++o|.While _ b o _=>b++o|.If _ b o _=>b++o|.FunctionDef _ _ b _ _ _ _ _ _ _=>b|_=>[]
def atE:List Nat->Expr->Expr|[],e=>e|i::r,e=>atE r ((aa5 e).getD i e0)
def atS:List Nat->List Nat->Stmt->Expr|[],i::r,s=>atE r ((aa6 s).getD i e0)|[],[],_=>e0|j::p,q,s=>atS p q ((adH s).getD j s)
def Ul:Expr->Arguments|.Lambda a _ _ _=>a|_=>⟨[],[],none,[],[],none,[]⟩
def Um:Expr->Expr|.Lambda _ b _ _=>b|e=>e
def Ex:Expr->Scope|.Lambda _ _ s _=>s|_=>⟨.function,[],false,false,[]⟩
def adI(q:Str)(cells:List (Str×Addr))(dv:List Int)(e:Expr):LF:=⟨Ul e,Um e,Ex e,q,cloFrom cells (Ex e).names [],dv⟩
def Uo(w:World)(K:PySem.W.Frag)(cA:Nat->Addr)(lam:Nat->LF):Tb:=⟨K,cA,lam,λ_ _=>True,λ_ _=>trivial,λ_ _=>trivial,false,w⟩
def Nm(K:PySem.W.Frag)(P:Addr):Sp:=λvs H Q _=>∃(a:Addr) (ns:List Int),vs=[.ref a]/\ns.length<=63/\(∀z∈ns,Builtin.Int.intBits z<=1048576)/\SqL K H a (ns.map V.int)/\K.lookup P=none/\H P=some (.tbl #[])/\∀H',Q (.bl true) H'
def c4(ns:List Int):List D:=ns.map D.int
theorem J0{T:Tb}{μ:List Addr}{H:Hp}:∀ns:List Int,av T μ H (c4 ns) (ns.map V.int)|[]=>rfl|n::r=>⟨.int n,_,rfl,by simp only[Rep],J0 r⟩
def Plain(l:Nat)(m:SM)(P:Addr)(q:Str):Prop:=∀ns:List Int,ns.length<=63->(∀z∈ns,Builtin.Int.intBits z<=1048576)->∃S',m (some (.v (.fz (c4 ns)))::List.replicate (l-1) none) [.tab P q]=.rt (.v (.bl true)) S'
theorem X4{w0:World}{K:PySem.W.Frag}{P:Addr}{q:Str}{cA:Nat->Addr}{lam:Nat->LF}{W:XK}{N:List Str}{m:SM}{vs:List V}{H:Hp}{Q:VK}{E:XK}(hp:Plain N.length m P q)(h:Nm K P vs H Q E) :rdS (Uo w0 K cA lam) W m { nx:=λ_ H'=>Q .non H',rt:=Q } (L2.start N vs) H:=by
 obtain⟨a,ns,rfl,hl,hb,hS,hK,hP,hQ⟩:=h;obtain⟨S',e⟩:=hp ns hl hb;have noP:∀p∈[P],∀C dx fs,H p=some (.ins C dx fs)->False:=λp hm C dx fs z=>by
  have:p=P:=by simpa using hm
  subst this;rw[hP]at z;cases z
 have hZ:Cy (Uo w0 K cA lam) [P] H a (ns.map V.int):=by
  rcases hS with hS|hS
  ·refine .inl ⟨⟨λhm=>?_,λp hm ⟨C,dx,fs,f,z,_⟩=>noP p hm C dx fs z⟩,hS⟩;have:a=P:=by simpa using hm
   subst this;rcases hS with z|⟨o,z⟩;rw[hP]at z;cases z;·rw[hP]at z;cases z
  ·exact .inr hS
 have ra:cU (Uo w0 K cA lam) [P] H [.v (.fz (c4 ns))] [.ref a]:=⟨_,_,rfl,by simp only[aH,Rep];exact⟨_,_,rfl,hZ,J0 ns⟩,rfl⟩;refine⟨[P],_,[.tab P q],Gv (N:=N) ra,⟨rfl,by simp,λi b o h1 h2=>?_,λb hb=>?_,trivial,λp hm p' hm' q C dx fs f C' dx' fs' f' z=>(noP p hm C dx fs z).elim,λi _ k fs f n _ h2=>by
  match i,h2 with
  |0,h2=>cases h2|i+1,h2=>simp at h2⟩,?_⟩
 ·match i,h1,h2 with|0,h1,h2 =>cases h1;cases h2;exact⟨#[],rfl,hP,by simp[TriplesOk],λpos cv z=>by simp[codeAmong]at z⟩|i+1,h1,_=>cases h1
 ·have:b=P:=by simpa using hb
  subst this;exact⟨_,hP⟩
 ·show mB _ _ _ _ _ (m (some (.v (.fz (c4 ns)))::List.replicate (N.length-1) none) [.tab P q]);rw[e];intro μ' H' v ex hs r;simp only[aH,Rep]at r;subst r;exact hQ H'
theorem O8{K:PySem.W.Frag}{P:Addr}{x:Str}(vs:List V)(H:Hp)(Q:VK)(E:XK)(h:Nm K P vs H Q E):vs.length=[x].length:=by obtain⟨_,_,rfl,_⟩:=h;rfl
theorem Uq{ok:PySem.W.Frag->Bool}{fn:List bA}{K:PySem.W.Frag}{c P:Addr}{h:Heap}(z:D1 ok fn K c P h)(i:Nat){d:bA}(hd:fn[i]?=some d)(ha:d.at_ K=He.ga K "law")(hc:d.FT=[]:=by rfl) :∃oc od osl kV doc pm an ct,K.lookup (He.ga K "law")=some ⟨oc,od,.func (PySem.W.fnOf d.name d.qual (defArgs d.st) (defBody d.st) (defScope d.st) .none kV doc pm an (.ref c) ct),osl⟩/\PySem.W.codeIn K (.ref c) d.qual=true:=by obtain⟨kp,oc,od,osl,FT,kV,doc,pm,an,cdv,ct,h1,h2,h3⟩:=d.get (z.eq i hd) (z.Xb d (List.mem_of_getElem? hd));rw[hc]at h1;have:=JY h1;subst this;rw[ha]at h3;have e:=z.code;unfold Hm at e;rw[h3]at e;have e':cdv=.ref c:=e;subst e';exact⟨oc,od,osl,kV,doc,pm,an,ct,h3,h2⟩
def ZU(n:Nat):SR->SR
 |.nx ρ S'=>.nx (ρ.map (fA n S')) (S'.take n)|.ct ρ S'=>.ct (ρ.map (fA n S')) (S'.take n)|.bk ρ S'=>.bk (ρ.map (fA n S')) (S'.take n)|.rt a S'=>match MN n (.ok a S') with
  |.ok b S2=>.rt b S2|_=>.stk
 |.er e S'=>.er e (S'.take n)|.stk=>.stk
def Ey(m:SM):SM:=λρ S=>ZU S.length (m ρ S)
section
variable {T:Tb}{μ t:List Addr}{H:Hp}{S S':ag}{X:Cx}{W:XK}{sts:List Stmt}{m:SM}
theorem Nn{D:Ends}{W:XK}{c:SR}(hs:aI T μ H S)(h:mB T μ H D W (ZU S.length c)):mB T μ H D W c:=by
 have hl:=hs.len;have key:∀(ρ':Env) (S':ag) (K:L2.St->Hp->Prop),(∀μ' H' σ',Ext μ H μ' H'->aI T μ' H' (S'.take S.length)->dw T μ' H' (ρ'.map (fA S.length S')) σ'->K σ' H')->∀μ' H' σ',Ext μ H μ' H'->aI T μ' H' S'->dw T μ' H' ρ' σ'->K σ' H':=by intro ρ' S' K hk μ' H' σ' ex hs' he;obtain⟨t,rfl⟩:=ex.pre;have e1:=ex.Mz;have k:=hs'.cutS (T.mono e1 hs.inv);rw[hl]at k;exact hk μ H' σ' e1 k (he.Mz hs' hl)
 cases c with
 |stk=>exact h|er e S' =>intro μ' H' cls d ex hs' r;obtain⟨t,rfl⟩:=ex.pre;have e1:=ex.Mz;have k:=hs'.cutS (T.mono e1 hs.inv);rw[hl]at k;exact h μ H' cls d e1 k r.acs
 |rt a S'=>
  have h2:oU T (λμ H=>aH T μ H) μ H D.rt W (MN S.length (.ok a S')):=by
   simp only[ZU]at h;cases q:MN S.length (.ok a S') with
   |ok b S2=>rw[q]at h;exact h|err _ _=>rw[q]at h;exact h.elim|stk=>rw[q]at h;exact h.elim
  exact MQ hs h2
 |nx ρ' S'=>exact key ρ' S' D.nx h|bk ρ' S'=>exact key ρ' S' D.bk h|ct ρ' S'=>exact key ρ' S' D.ct h
theorem Wj(h:MB X T W sts m):MB X T W sts (Ey m):=mO h λD σ H ⟨μ,ρ,S,he,hs,h⟩=>⟨μ,ρ,S,he,hs,Nn hs h⟩
end
def u7:Expr->Scope|.ListComp _ _ s _=>s|_=>Ex e0
def relS(scope sc:Scope):Scope:=relabel scope { scope:=sc,locals:=0,globals:=0,cells:=[],qual:= "",func:=.none,code:=.none,frame:=.none,builtins:=0 }
abbrev O9:=A->List A->ag->Option (A×ag)
theorem Ur{T:Tb}{μ:List Addr}{H:Hp}{S:ag}{a:A}{v:V}{ty:String}(hs:aI T μ H S)(r:aH T μ H a v)(e:zw a S=some ty)(h:ty = "list" \/ ty = "str"):tyV T.K ty v H:=by
 cases a with
 |m j =>obtain⟨p,hp,rfl⟩:=r;unfold zw at e;simp only at e;split at e;rename_i q;cases e;obtain⟨vs,q1,_⟩:=hs.at_ _ _ _ hp q;exact .inl ⟨rfl,vs,.inl (.inl q1)⟩;·cases e
 |v d=>
  unfold zw at e;simp only at e;cases d<;>simp only[tyN,Option.some.injEq,reduceCtorEq]at e<;>subst e<;>simp only[aH,Rep]at r;rcases h with h|h<;>exact absurd h (by decide);rcases h with h|h<;>exact absurd h (by decide);rcases h with h|h<;>exact absurd h (by decide);subst r;rfl;·rcases h with h|h<;>exact absurd h (by decide)
  obtain⟨a,vs,rfl,h1,_⟩:=r;exact .inl ⟨rfl,vs,h1.sq⟩;·obtain⟨a,vs,rfl,h1,_⟩:=r;exact .inl ⟨rfl,vs,h1.sq⟩
def X5(X:Cx)(T:Tb)(id:String)(g:O9):Prop:=
 MtR X id (λx xs H Q=>∃μ S a as z S',aI T μ H S/\aH T μ H a x/\cU T μ H as xs/\g a as S=some (z,S')/\∀μ' H' v,Ext μ H μ' H'->aI T μ' H' S'->aH T μ' H' z v->Q v H')
def mR(ty:String)(g:O9)(mo:EM)(r:AM):EM:=λρ S=>(mo ρ S).bind λo S1=>if zw o S1=some ty then(r ρ S1).bind λxs S2=>(match g o xs S2 with
 |some (z,S3)=>.ok z S3|none=>.stk) else .stk
section
variable {X:Cx}{T:Tb}{W:XK}{o e:Expr}{es:List Expr}{mo:EM}{r:AM}{name:Str}{apos cpos:Pos}{ty id:String}{g:O9}
theorem Us(hK:X.K=T.K)(ht:ty = "list" \/ ty = "str"):∀σ H Q,rd T W (mR ty g mo r) σ H Q ->
  tBM X.K ty (λx xs H Q=>∃μ S a as z S',aI T μ H S/\aH T μ H a x/\cU T μ H as xs/\g a as S=some (z,S')/\∀μ' H' v,Ext μ H μ' H'->aI T μ' H' S'->aH T μ' H' z v->Q v H') (rd T W mo) (Tj T W r) σ H Q:=λσ H Q ⟨μ,ρ,S,he,hs,h⟩=>by
 refine bL he hs h λv H1 μ1 S1 y ex he1 hs1 ry h1=>?_;split at h1;·rename_i hty;refine⟨by rw[hK];exact Ur hs1 ry hty ht,?_⟩;refine gB he1 hs1 h1 λvs H2 μ2 S2 xs ex2 he2 hs2 rs h2=>?_;cases q:g y xs S2 with|none=>rw[q]at h2;exact h2.elim|some zs =>obtain⟨z,S3⟩:=zs;rw[q]at h2;exact⟨μ2,S2,y,xs,z,S3,hs2,ry.mono ex2,rs,q,h2⟩
 ·exact h1.elim
theorem uC(hK:X.K=T.K)(ht:ty = "list" \/ ty = "str")(pa:PlainAttrs ty)(slot:Slot ty name id)(hty:typeOf (.builtin id)=pure (.type "method_descriptor"))(hm:X5 X T id g)(ho:ME X T W o mo)(ha:MA X T W (e::es) r)
  (hbase:attributeBase o name X.env (eval o X.env)=eval o X.env:=by rfl)
  (hfew:((backTo cpos (starEach (e::es) X.env)).all (λx=>!x.1)&&(backToKw cpos (keywordEach [] X.env)).all (λx=>x.1.isSome)
   && decide ((e::es).length+([]:List Keyword).length+(if ([]:List Keyword).isEmpty then 0 else 1)<30))=true:=by rfl)
  (hline:(apos.endLine == cpos.line)=true:=by rfl) (hs:starEach (e::es) X.env=(false,eval e X.env)::starEach es X.env:=by rfl) (hplain:(backTo cpos (starEach es X.env)).any (·.1)=false:=by rfl) :
  ME X T W (.Call (.Attribute o name apos) (e::es) [] cpos) (mR ty g mo r):=b5 (pe_bm pa slot hty hm ho ha hbase hfew hline hs hplain) (Us hK ht)
def cI:O9
 |.m n,[.v d],S=>match S[n]? with
  |some (.lst ds)=>if ds.length<cE then some (.v .non,S.set n (.lst (ds++[d]))) else none
  |_=>none
 |_,_,_=>none
theorem jN:X5 X T "list.append" cI:=by
 rintro pins s σ H x xs v us Q I rx rxs ⟨μ,S,a,as,z,S',hs,ra,ras,hg,k⟩;unfold cI at hg;split at hg
 ·rename_i n d S0;split at hg;·rename_i ds q;split at hg;rename_i hl;cases hg;obtain⟨p,hp,rfl⟩:=ra;obtain⟨y,rfl,ry⟩:=gW ras;obtain⟨vs,q1,q2⟩:=hs.at_ _ _ _ hp q;have hn:=(List.getElem?_eq_some_iff.mp q).1;obtain⟨x1,x2⟩:=hs.put hp hn (q2.app (av.one ry));exact mt_append pins s σ H _ _ v us Q I rx rxs ⟨p,vs,y,rfl,rfl,q1,by rw[q2.length];exact Nat.lt_of_lt_of_le hl (bS (Nat.le_refl _)),k μ _ _ x1 x2 Qs⟩;·cases hg
  ·cases hg
 ·cases hg
def rg:O9
 |.v (.str a),[.v (.str b)],S=>match Builtin.Str.occurrences a b 0 a.length 1 with
  |i::_=>some (.v (.int (i:Nat)),S)|[]=>none
 |_,_,_=>none
theorem Ez:X5 X T "str.index" rg:=by
 rintro pins s σ H x xs v us Q I rx rxs ⟨μ,S,a,as,z,S',hs,ra,ras,hg,k⟩;unfold rg at hg;split at hg;·split at hg;rename_i i rest hi;cases hg;obtain⟨y,rfl,ry⟩:=gW ras;exact mt_sindex pins s σ H _ _ v us Q I rx rxs ⟨_,_,i,rest,g9 ra,by rw[g9 ry],hi,k μ H _ Ext.refl hs nZ⟩;·cases hg
 ·cases hg
def rS:e9
 |[.v (.tup ds)],_=>some (.v (.tup ds))|[.v (.lst ds)],_=>some (.v (.tup ds))|[.v (.fz ds)],_=>some (.v (.tup ds))|[.m n],S=>match S[n]? with
  |some (.lst ds)=>some (.v (.tup ds))|_=>none
 |_,_=>none
theorem rT(hK:X.K=T.K):hW X T (.type "tuple") rS:=by
 rintro pins s σ H vs us Q I rr ⟨μ,S,xs,z,hs,rs,hg,k⟩;have lis:∀{v:V}{p:Addr}{ws:List V}{ds:List D},v=.ref p->vs=[v]->SqL T.K H p ws->av T μ H ds ws->z=.v (.tup ds)->wpAny (model X.prog X.w) X.A (call (.type "tuple") us) (EP X pins σ Q) X.xe s:=by rintro v p ws ds rfl rfl h1 h2 rfl;refine call_tuple_of pins s σ H _ us Q I rr ⟨p,ws,rfl,.inl ⟨by rw[hK];exact h1,λl hl=>?_⟩⟩;obtain⟨x1,x2,x3⟩:=HB hs h2 hl;exact k μ _ _ x1 x2 x3
 unfold rS at hg;split at hg;cases hg;obtain⟨v,rfl,r1⟩:=gW rs;have r2:=r1;simp only[aH,Rep]at r1;obtain⟨p,ws,rfl,h1,h2⟩:=r1;exact call_tuple_of pins s σ H _ us Q I rr ⟨p,ws,rfl,.inr ⟨by rw[hK];exact h1.sq,k μ H _ Ext.refl hs r2⟩⟩;cases hg;obtain⟨v,e,r1⟩:=gW rs;simp only[aH,Rep]at r1;obtain⟨p,ws,e2,h1,h2⟩:=r1;exact lis e2 e h1.sq h2 rfl;·cases hg;obtain⟨v,e,r1⟩:=gW rs;simp only[aH,Rep]at r1;obtain⟨p,ws,e2,h1,h2⟩:=r1;exact lis e2 e h1.sq h2 rfl
 ·split at hg;rename_i q;cases hg;obtain⟨v,e,r1⟩:=gW rs;obtain⟨p,hp,e2⟩:=r1;obtain⟨ws,q1,q2⟩:=hs.at_ _ _ _ hp q;exact lis e2 e (.inl (.inl q1)) q2 rfl;·cases hg
 ·cases hg
end
def QN(k:Nat)(m:Str)(n mk:Nat)(ix:List Nat)(fM:FM)(mo:EM)(r rk:AM):EM:=λρ S=>(mo ρ S).bind λo S1=>match c0 o S1 with
 |some (k',fs)=>if k'=k/\(fs.lookup m).isNone=true then(r ρ S1).bind λxs S2=>(rk ρ S2).bind λzs S3=>if xs.length=n/\zs.length=mk then fM (perm ix (o::xs++zs)) S3 else .stk else .stk
 |none=>.stk
section
variable {X:Cx}{T:Tb}{μ:List Addr}{H:Hp}{S:ag}{a b e:Expr}{p:Pos}
theorem QO{x:Str}{acc:Array Value}(h:ItemsOf (SignAt x) acc x.cps.size):StrsAre acc.toList (x.cps.toList.map HS):=LH h
theorem AQ{f:Value}{g h k:e9}(hg:hW X T f g)(hh:hW X T f h)(e:∀xs S,k xs S=g xs S\/k xs S=h xs S):hW X T f k:=by rintro pins s σ H vs us Q I rr ⟨μ,S,xs,z,hs,rs,hk,q⟩;rcases e xs S with e|e;rw[e]at hk;exact hg pins s σ H vs us Q I rr ⟨μ,S,xs,z,hs,rs,hk,q⟩;·rw[e]at hk;exact hh pins s σ H vs us Q I rr ⟨μ,S,xs,z,hs,rs,hk,q⟩
def EA:e9
 |[.v (.str y)],_=>if y.cps.size<=cE then some (.v (.lst (mP y))) else none
 |_,_=>none
theorem J3(hc:X.calm=true):hW X T (.type "list") EA:=by
 rintro pins s σ H vs us Q I rr ⟨μ,S,xs,z,hs,rs,hg,k⟩;unfold EA at hg;split at hg
 ·rename_i y;split at hg
  ·rename_i hy;cases hg;obtain⟨v,rfl,r1⟩:=gW rs;have ev:=g9 r1;subst ev;cases rr with
   |cons r2 r3=>
    cases r3;obtain⟨t,rfl⟩:=r2;refine PySem.call_list_str (I.ok.hd hc) y t (λh' tk acc c' k1 k2 hi=>?_) (bS hy);have hS:=QO hi;have hlen:(y.cps.toList.map HS).length<=sizeLine:=(by rw[List.length_map];exact bS (by simpa using hy));have nH:H s.heap.objs.size=none:=I.hok.fresh (Nat.le_refl _);have I2:Inv X pins σ (upd H s.heap.objs.size (.lst ((y.cps.toList.map HS).map V.str))) { s with heap:=h',toks:=tk }:=
     I.laid (t':=tk) k1 (Nat.le_refl _) ⟨by rw[List.length_map];exact hlen,acc.toList,c',vals_of_strs hS,k2⟩
    have sm:Same H (upd H s.heap.objs.size (.lst ((y.cps.toList.map HS).map V.str))):=fD nH;refine⟨.ref s.heap.objs.size,_,I2,rfl,k μ _ _ (hs.ext sm) (hs.grow sm) ?_⟩;simp only[aH,Rep];refine⟨_,_,rfl,⟨hs.yU nH,upd_same⟩,?_⟩;show av T μ _ (mP y) _;have e:mP y=(y.cps.toList.map HS).map D.str:=by unfold mP;rw[List.map_map];rfl
    rw[e];exact Gz
  ·cases hg
 ·cases hg
def qA:e9:=λxs S=>match EA xs S with
 |some z=>some z|none=>BM xs S
theorem tS(hK:X.K=T.K)(hc:X.calm=true):hW X T (.type "list") qA:=AQ (J3 hc) (JO hK) λxs S=>by
 unfold qA;cases q:EA xs S with
 |none=>exact .inr rfl|some z=>exact .inl rfl
def GD:A->ag->Option (List D)
 |.v (.lst ds),_=>some ds|.v (.fz ds),_=>some ds|.m n,S=>match S[n]? with
  |some (.lst ds)=>some ds|_=>none
 |_,_=>none
theorem xK{a:A}{v:V}{ds:List D}(hs:aI T μ H S)(r:aH T μ H a v)(e:GD a S=some ds):∃p vs,v=.ref p/\SqL T.K H p vs/\av T μ H ds vs:=by
 unfold GD at e;split at e;cases e;simp only[aH,Rep]at r;obtain⟨p,vs,rfl,h1,h2⟩:=r;exact⟨p,vs,rfl,h1.sq,h2⟩;·cases e;simp only[aH,Rep]at r;obtain⟨p,vs,rfl,h1,h2⟩:=r;exact⟨p,vs,rfl,h1.sq,h2⟩
 ·split at e;rename_i q;cases e;obtain⟨p,hp,rfl⟩:=r;obtain⟨vs,q1,q2⟩:=hs.at_ _ _ _ hp q;exact⟨p,vs,rfl,.inl (.inl q1),q2⟩;·cases e
 ·cases e
def LM(neg:Bool):tK:=λx y S=>match GD x S,y with
 |some ds,.v (.lst [])=>some (nC (if neg then !ds.isEmpty else ds.isEmpty))|_,_=>none
theorem Np{neg:Bool}{x y z:A}{S:ag}(h:LM neg x y S=some z):∃ds,GD x S=some ds/\y=.v (.lst [])/\z=nC (if neg then !ds.isEmpty else ds.isEmpty):=by unfold LM at h;split at h;rename_i ds q;cases h;exact⟨ds,q,rfl,rfl⟩;·cases h
theorem Pa(hK:X.K=T.K)(hu:X.A.units+64<cLine):zv X T (compareOp .NotEq) (LM true):=by
 rintro pins s σ H x y v u Q I rx ry ⟨μ,S,a,b,z,hs,ra,rb,hg,k⟩;obtain⟨ds,h1,rfl,rfl⟩:=Np hg;obtain⟨p,vs,rfl,h2,h3⟩:=xK hs ra h1;simp only[aH,Rep,av]at rb;obtain⟨q,ws,rfl,h4,rfl⟩:=rb;cases rx;cases ry;obtain⟨i1,r1,l1,_⟩:=I.list (hK▸h2);obtain⟨i2,r2,l2,_⟩:=I.list (h4.sq (K:=X.K));have n1:=r1.length;have n2:=r2.length;rw[h3.length]at n1;simp only[List.length_nil]at n2;have hu2:X.A.units<cLine:=by omega
 have fin:∀k0:Bool,k0=(!ds.isEmpty)->EP X pins σ Q (.bool k0) s:=λk0 e=>⟨.bl k0,H,I,rfl,by subst e;exact k μ H _ Ext.refl hs cO⟩;cases ds with
 |nil=>
  refine PySem.SeqAt.RcNeAt.lists (e:=λ_=>false) l1.isList l2.isList (by simp at n1 ⊢;omega) hu2 (λj h _=>by simp at n1 h;omega) X.prog X.w _ _ ?_;have e0:i1.toArray.size=0:=by rw[List.size_toArray,<-r1.length,h3.length];rfl
  rw[e0];exact fin _ rfl
 |cons d ds =>refine PySem.SeqAt.RcNeAt.lists_lengths l1.isList l2.isList (by simp at n1 ⊢;omega) hu2 X.prog X.w _ _ ?_;exact fin _ rfl
theorem Ut{neg:Bool}:∀x y S z,LM neg x y S=some z->∃k,z=nC k:=λx y S z e=>by obtain⟨_,_,_,rfl⟩:=Np e;exact⟨_,rfl⟩
end
inductive KCs (X:Cx):List (Option Expr)->List Expr->List (Str×CV)->Prop where
 |nil:KCs X [] [] []|cons {ke ve:Expr}{ks:List (Option Expr)}{vs:List Expr}{k:Str}{c:CV}{kvs:List (Str×CV)}(hk:PE X ke (tC (.str k))) (hv:PE X ve (tC c.v)) (r:KCs X ks vs kvs):KCs X (some ke::ks) (ve::vs) ((k,c)::kvs)
theorem Uu{t:TM}{x r:SM}{ρ:Env}{S:ag}(h:t ρ S=.ok false S):aG (uP t x iR) r ρ S=r ρ S:=by unfold aG uP iR;rw[h];rfl
def aa7:e9|[.v (.str x)],_=>some (.v (.str x))|xs,S=>adC xs S
@[simp] theorem acD{x:Str}{S:ag}:aa7 [.v (.str x)] S=some (.v (.str x)):=rfl
def EB(g:Tg)(t:TM)(mi1:IM)(g1:Tg)(t1:TM)(m:EM)(vs1:List Nat)(ρ:Env)(n:Nat):List D->ag->R Unit
 |[],S=>.ok () S|d::ds,S=>match g.put (.v d) ρ with
  |none=>.stk|some ρ1=>match t ρ1 S with
   |.ok true S1=>match mi1 ρ1 S1 with
    |.ok es S2=>match HQ g1 t1 m (aT ρ1 vs1) n es S2 with
     |.ok _ S3=>EB g t mi1 g1 t1 m vs1 ρ n ds S3|_=>.stk
    |_=>.stk
   |.ok false S1=>EB g t mi1 g1 t1 m vs1 ρ n ds S1|_=>.stk
def LN(own vs1:List Nat)(mi:IM)(g:Tg)(t:TM)(mi1:IM)(g1:Tg)(t1:TM)(m:EM):EM:=λρ S=>(mi ρ S).bind λds S1=>match EB g t mi1 g1 t1 m vs1 (aT ρ own) S1.length ds (S1++[.lst []]) with
 |.ok _ S2=>match S2[S1.length]? with
  |some (.lst acc)=>if S2.length=S1.length+1 then .ok (.v (.lst acc)) (S2.take S1.length) else .stk
  |_=>.stk
 |_=>.stk
theorem J4{T:Tb}{W:XK}{mi mi1:IM}{g g1:Tg}{t t1:TM}{m:EM}{vs vs1:List Nat}(hsl:∀j∈g.sl,j∈vs)(hsl1:∀j∈g1.sl,j∈vs1) :∀σ H Q,rd T W (LN vs vs1 mi g t mi1 g1 t1 m) σ H Q->tLc2 (ZS T W mi) (ZR T g) (Ti T W0 t) (ZS T W0 mi1) (ZR T g1) (Ti T W0 t1) (rd T W0 m) vs vs1 σ H Q:=by
 rintro σ H Q ⟨μ,ρ,S,he,hs,h⟩;unfold LN at h;refine⟨μ,ρ,S,he,hs,?_⟩;cases q:mi ρ S with
 |stk=>rw[q]at h;exact h.elim|err e1 S1=>rw[q]at h;exact h|ok ds S1=>
  rw[q]at h;simp only[R.ak]at h;intro μ1 H1 J ex1 hs1 yl D hD;cases qr:EB g t mi1 g1 t1 m vs1 (aT ρ vs) S1.length ds (S1++[.lst []]) with
  |stk=>rw[qr]at h;exact h.elim|err e2 S2=>rw[qr]at h;exact h.elim|ok u Sf=>
   rw[qr]at h;obtain⟨exn,hsn,_⟩:=HD (ds:=[]) (vs:=[]) hs1 (by simp only[av]) hD;have nD:D∉μ1:=(hs1.free hD).1;have len1:S1.length=μ1.length:=hs1.len.symm;have atD:∀{μ':List Addr},μ'=μ1++[D]->μ'[S1.length]?=some D:=λe=>(by rw[e,len1,List.getElem?_append_right (Nat.le_refl _)];simp);refine⟨λi k H'=>k=ds.length-i/\i<=ds.length/\∃μ' S',Ext (μ1++[D]) (upd H1 D (.lst [])) μ' H'/\aI T μ' H' S'/\EB g t mi1 g1 t1 m vs1 (aT ρ vs) S1.length (ds.drop i) S'=.ok u Sf,⟨ds.length,by simp,Nat.zero_le _,_,_,Ext.refl,hsn,qr⟩,?_⟩;rintro i k H2 ⟨rfl,hi,μ2,S2,ex2,hs2,e2⟩;by_cases hlt:i<ds.length
   ·have ed:ds[i]?=some ds[i]:=by simp[hlt]
    rw[List.drop_eq_getElem_cons hlt]at e2;obtain⟨go,st⟩:=yl.step μ2 H2 (exn.trans ex2) hs2.tro i _ ed;refine .inr ⟨go,λH'=>∃μ' S',Ext (μ1++[D]) (upd H1 D (.lst [])) μ' H'/\aI T μ' H' S'/\EB g t mi1 g1 t1 m vs1 (aT ρ vs) S1.length (ds.drop (i+1)) S'=.ok u Sf,λH' q=>⟨ds.length-(i+1),by omega,rfl,hlt,q⟩,λx H3 y=>?_⟩;obtain⟨sm,rx⟩:=st x H3 y;have ex3:Ext μ2 H2 μ2 H3:=hs2.ext sm;unfold EB at e2;cases q1:g.put (.v ds[i]) (aT ρ vs) with
    |none=>rw[q1]at e2;cases e2|some ρ1=>
     rw[q1]at e2;simp only at e2;refine⟨μ2,aT ρ vs,S2,.v ds[i],ρ1,u3 ((((he.mono ex1).mono exn).mono ex2).mono ex3) vs,hs2.grow sm,rx,q1,λμ4 H4 σ4 ex4 hs4 he4 off=>⟨?_,?_⟩⟩;·rw[u4 (off.sub hsl),u5]
     ·refine⟨μ4,ρ1,S2,he4,hs4,?_⟩;cases q2:t ρ1 S2 with
      |stk=>rw[q2]at e2;cases e2|err _ _=>rw[q2]at e2;cases e2|ok b S3=>
       rw[q2]at e2;intro μ5 H5 b' ex5 hs5 eb;subst eb;have exx:=((ex2.trans ex3).trans ex4).trans ex5;cases b with
       |false =>refine iteF ⟨μ5,S3,exx,hs5,e2⟩|true=>
        refine iteT ⟨μ5,ρ1,S3,he4.mono ex5,hs5,?_⟩;simp only at e2;cases q3:mi1 ρ1 S3 with
        |stk=>rw[q3]at e2;cases e2|err _ _=>rw[q3]at e2;cases e2|ok es S4=>
         rw[q3]at e2;simp only at e2;intro μ6 H6 J1 ex6 hs6 yl1;cases q4:HQ g1 t1 m (aT ρ1 vs1) S1.length es S4 with
         |stk=>rw[q4]at e2;cases e2|err _ _=>rw[q4]at e2;cases e2|ok u1 S5=>
          rw[q4]at e2;simp only at e2;have ex06:=exx.trans ex6;refine⟨λj k H'=>k=es.length-j/\j<=es.length/\∃μ' S',Ext μ6 H6 μ' H'/\aI T μ' H' S'/\HQ g1 t1 m (aT ρ1 vs1) S1.length (es.drop j) S'=.ok u1 S5,⟨es.length,by simp,Nat.zero_le _,_,_,Ext.refl,hs6,q4⟩,?_⟩;rintro j k H7 ⟨rfl,hj,μ7,S7,ex7,hs7,e7⟩;by_cases hlt2:j<es.length
          ·have ed2:es[j]?=some es[j]:=by simp[hlt2]
           rw[List.drop_eq_getElem_cons hlt2]at e7;obtain⟨go1,st1⟩:=yl1.step μ7 H7 ex7 hs7.tro j _ ed2;refine .inr ⟨go1,λH'=>∃μ' S',Ext μ6 H6 μ' H'/\aI T μ' H' S'/\HQ g1 t1 m (aT ρ1 vs1) S1.length (es.drop (j+1)) S'=.ok u1 S5,λH' q=>⟨es.length-(j+1),by omega,rfl,hlt2,q⟩,λx1 H8 y1=>?_⟩;obtain⟨sm1,rx1⟩:=st1 x1 H8 y1;have ex8:Ext μ7 H7 μ7 H8:=hs7.ext sm1;unfold HQ at e7;cases q5:g1.put (.v es[j]) (aT ρ1 vs1) with
           |none=>rw[q5]at e7;cases e7|some ρ2=>
            rw[q5]at e7;simp only at e7;refine⟨μ7,aT ρ1 vs1,S7,.v es[j],ρ2,u3 ((((he4.mono ex5).mono ex6).mono ex7).mono ex8) vs1,hs7.grow sm1,rx1,q5,λμ9 H9 σ9 ex9 hs9 he9 off1=>⟨?_,?_⟩⟩;·rw[u4 (off1.sub hsl1),u5]
            ·refine⟨μ9,ρ2,S7,he9,hs9,?_⟩;cases q6:t1 ρ2 S7 with
             |stk=>rw[q6]at e7;cases e7|err _ _=>rw[q6]at e7;cases e7|ok b1 S8=>
              rw[q6]at e7;intro μ10 H10 b' ex10 hs10 eb;subst eb;have exy:=((ex7.trans ex8).trans ex9).trans ex10;cases b1 with
              |false=>exact iteF ⟨μ10,S8,exy,hs10,e7⟩|true=>
               refine iteT ⟨μ10,ρ2,S8,he9.mono ex10,hs10,?_⟩;simp only at e7;cases q7:m ρ2 S8 with
               |stk=>rw[q7]at e7;cases e7|err _ _=>rw[q7]at e7;cases e7|ok w S9=>
                rw[q7]at e7;cases w with
                |m _=>cases e7|v yd=>
                 simp only at e7;split at e7;·rename_i acc qa;split at e7;rename_i hc;intro μ11 H11 v ex11 hs11 ry;have exz:=exy.trans ex11;have eμ:μ11=μ1++[D]:=k9 (n:=0) (ex06.trans exz).pre (by rw[hs11.len,hc.1,len1]);obtain⟨us,g1',g2'⟩:=hs11.at_ _ _ _ (atD eμ) qa;obtain⟨x1,x2⟩:=hs11.put (atD eμ) (by omega) (g2'.app (av.one ry));exact⟨us,g1',by rw[g2'.length];exact Nat.lt_of_lt_of_le hc.2 (bS (Nat.le_refl _)),μ11,_,exz.trans x1,x2,e7⟩;·cases e7
                 ·cases e7
          ·have e:j=es.length:=by omega
           subst e;rw[List.drop_length]at e7;simp only[HQ]at e7;cases e7;exact .inl ⟨yl1.fin μ7 H7 ex7,μ7,_,ex06.trans ex7,hs7,e2⟩
   ·have e:i=ds.length:=by omega
    subst e;rw[List.drop_length]at e2;simp only[EB]at e2;cases e2;refine .inl ⟨yl.fin μ2 H2 (exn.trans ex2),?_⟩;simp only at h;split at h
    ·rename_i acc qa;split at h;·rename_i hl;have eμ:μ2=μ1++[D]:=k9 (n:=0) ex2.pre (by rw[hs2.len,hl,len1]);subst eμ;rw[len1]at hl qa h;have e12:Ext μ1 H1 μ1 H2:=ex2.acu hD (λ_ _ _ z=>by cases z);obtain⟨hs3,us,g1',g2'⟩:=aI.drop hs2 hl qa (T.mono e12 hs1.inv);refine h μ1 H2 (.ref D) (ex1.trans e12) hs3 ?_;·simp only[aH,Rep];exact⟨D,us,rfl,⟨hs2.niD (by simp) nD,g1'⟩,aM g2'⟩
     ·exact h.elim
    ·exact h.elim
section
variable {X:Cx}{T:Tb}{W:XK}{elt tg iter tg1 iter1:Expr}{ifs ifs1:List Expr}{scope:Scope}{own:List (Str×Nat)}{vs1:List Nat}{mi mi1:IM}{g g1:Tg}{t t1:TM}{m:EM}{pos:Pos}{x:Str}{p:Pos}{fd:FuncData}{ps:List Str}
theorem X6(hc:X.calm=true)(hN:X.N.Nodup)(ok:BlkOk X.N X.env.scope scope own)(hi:MI X T W tg iter mi)
  (hg:∀(s:Shared) (H:Hp) (C:Addr) (cl:List (Str×Addr)) (fp:List Addr),MG (X.blk s H scope (compEnvC scope cl C X.env) fp) T tg g) (ht:∀(s:Shared) (H:Hp) (C:Addr) (cl:List (Str×Addr)) (fp:List Addr),Wh (X.blk s H scope (compEnvC scope cl C X.env) fp) T W0 ifs t)
  (hi1:∀(s:Shared) (H:Hp) (C:Addr) (cl:List (Str×Addr)) (fp:List Addr),MI (X.blk s H scope (compEnvC scope cl C X.env) fp) T W0 tg1 iter1 mi1)
  (hg1:∀(s:Shared) (H:Hp) (C:Addr) (cl:List (Str×Addr)) (fp:List Addr),MG (X.blk s H scope (compEnvC scope cl C X.env) fp) T tg1 g1) (ht1:∀(s:Shared) (H:Hp) (C:Addr) (cl:List (Str×Addr)) (fp:List Addr),Wh (X.blk s H scope (compEnvC scope cl C X.env) fp) T W0 ifs1 t1)
  (he:∀(s:Shared) (H:Hp) (C:Addr) (cl:List (Str×Addr)) (fp:List Addr),ME (X.blk s H scope (compEnvC scope cl C X.env) fp) T W0 elt m)
  (hsl:∀j∈g.sl,j∈own.map (·.2):=by decide) (hsl1:∀j∈g1.sl,j∈vs1:=by decide) (hv:∀i∈vs1,i∈own.map (·.2):=by decide) (hs:∀x,foldedSetIterable iter X.env x=pure x:=by intro _;rfl) (hs1:∀env x,foldedSetIterable iter1 env x=pure x:=by intro _ _;rfl) :
  ME X T W (.ListComp elt [⟨tg,iter,ifs,0⟩,⟨tg1,iter1,ifs1,0⟩] scope pos) (LN (own.map (·.2)) vs1 mi g t mi1 g1 t1 m):=b5 (pe_lc2 hc hN hi ok hv hg ht hi1 hg1 ht1 he hs hs1) (J4 hsl hsl1)
theorem QP{CX:CXT}{C fI:Addr}{k:Nat}{sp:Sp}{ds:List Value}{dvs:List V}(O:OexC X.K C)(hi:PySem.W.findIn X.K (.ref C) "__init__" = some (some (.ref fI)))(ht:PySem.W.typeIn X.K (.ref fI)=some (.type "function"))
  (F:FnOk X.prog X.w X.K X.mg X.base CX k fI fd ps sp) (room:Room (k+1) X.A) (hb:Binds X.K fd ps ds) (hv:Vals dvs ds) (hx:Passes CX X (λ_ _ _=>False)) (hg:Gl X x) (hm:X.mg x=some (.ref C)) (hdb:(x == ("__debug__" : Str))=false:=by decide) :
  L2N.PMk X (.Call (.Name x p) [] [] pos) (tMkO C sp dvs tNil):=λpins s σ H Q I h=>by
 obtain⟨_,_,_,_,bm,_,_,_,_,_,_,_,_,_,_,isC,isB⟩:=O.cls;refine wpAny_Call_Name_kw (ld_glob I hg hm ?_ hdb);refine PySem.W.callWith_K0 I.kIn O.kC ?_;show wpAny _ _ (call (.ref C) []) _ _ _;obtain⟨hp,gs,dr,tk,os⟩:=s;have le1:hp.objs.size<=hp.objs.size+1:=by omega
 have fresh:=I.hok.fresh le1;have want:=h.2 (hp.objs.size+1) fresh;have grown:∀b o,hp.get? b=some o->((hp.push (PySem.W.kdv_tup [])).push (PySem.HandSPX.excO C hp.objs.size)).get? b=some o:=λb o e=>by exact Heap.get?_push_of_some _ (Heap.get?_push_of_some _ e)
 have here:((hp.push (PySem.W.kdv_tup [])).push (PySem.HandSPX.excO C hp.objs.size)).get? (hp.objs.size+1)=some (PySem.HandSPX.excO C hp.objs.size):=by heap_get
 have J:Inv X pins σ (upd H (hp.objs.size+1) (exo (hp.objs.size+1) C none)) ⟨(hp.push (PySem.W.kdv_tup [])).push (PySem.HandSPX.excO C hp.objs.size),gs,dr,tk,os⟩:=
  I.laid (t':=tk) (a:=hp.objs.size+1) (o:=exo (hp.objs.size+1) C none) (h':=(hp.push (PySem.W.kdv_tup [])).push (PySem.HandSPX.excO C hp.objs.size)) grown le1 (exo_ok here)
 have vals:Vals (V.ref (hp.objs.size+1)::([]++dvs)) (Value.ref (hp.objs.size+1)::([]++ds)):=.cons rfl hv;have len:(Value.ref (hp.objs.size+1)::[]++ds).length=ps.length:=by have e:=vals.length;rw[F.len _ _ _ _ want]at e;exact e.symm
 refine wpAny_call (PySem.HandSPX.call_own PySem.F.excBase_ValueError (λY=>PySem.HandSPX.refsVE_contains Y bm isB) (I.kIn _ _ isC) (PySem.W.looks_findIn I.kIn hi) (λself=>PySem.W.bind_fn I.kIn self ht) (Nat.zero_le _) ?_);refine codeAny_mono (F.run _ X.stack _ _ ⟨[Value.ref (hp.objs.size+1)],[]⟩ ([Value.ref (hp.objs.size+1)]++ds) _ _ (λ_ _ _=>False) (room.make C [] []) (J.env0.make C [] []) (hb _ [Value.ref (hp.objs.size+1)] J.kIn len) vals want) λr s' got=>?_;cases r with
 |error er=>exact hx pins σ _ _ er s' J got|ok fl=>
  cases fl with
  |ret u =>obtain⟨v,H2,os2,bare2,un2,hok2,rv,ev,d,fs,ea,ed,hd1,q2⟩:=got;subst ev;obtain⟨h2,g2,d2,t2,os'⟩:=s';exact⟨rv,Ng (raises_own O.exC O.tyC) I le1 grown un2 hok2 os2 bare2 ea ed hd1 q2⟩
  |next=>exact got.elim
  |brk=>exact got.elim|cont=>exact got.elim
end
section
variable {X:Cx}{T:Tb}{W:XK}{x:Str}{p pos rpos:Pos}{k:Nat}{fl:List (Str×kO)}{ps:List Str}{a:Expr}{ma:EM}{p2 pos2:Pos}{st:Stmt}{pre rest:List Stmt}{m n:SM}
theorem LO(L:Lv X T W)(hc:X.calm=true)(E:ZT X.prog X.K X.mg (T.cA k) ps fl)(hr:Room 2 X.A)(hg:Gl X x)(hm:X.mg x=some (.ref (T.cA k)))
  (hdb:(x == ("__debug__" : Str))=false:=by decide) :
  MS X T W (.Raise (some (.Call (.Name x p) [] [] pos)) none rpos) (qz k (ps.length-1) fl ah):=by
 obtain⟨fI,fd,h1,h2,h3,h4⟩:=E.ex;refine mN (Gy hc L.tk (QP (dvs:=[]) E.o h1 h2 (h4 X.w X.base T.nn) hr h3 .nil Qq hg hm hdb)) λD σ H h=>?_;obtain⟨μ,ρ,S,he,hs,q⟩:=Es (W:=W) (r:=ah) rfl σ H h;exact q μ H [] Ext.refl hs rfl
def lrR(x:A)(S:ag):R A:=match x with
 |.v (.int n)=>if n<=1000000/\-1000000<=n then .ok (.v (.lst (gR 0 n.toNat))) S else .stk
 |_=>.stk
def BQ(ma:EM):EM:=λρ S=>(ma ρ S).bind lrR
theorem Uv{μ:List Addr}{H:Hp}{a:Int}:∀{n:Nat}{l:List Nat},av T μ H (l.map λi=>D.int (a+(i:Nat))) (l.map λi=>V.int (a+(i:Nat))):=λ{n} {l}=>by
 induction l with
 |nil=>simp only[List.map_nil,av]|cons i l ih =>simp only[List.map_cons,av];exact⟨_,_,rfl,by simp only[Rep],ih⟩
theorem QQ(hc:X.calm=true)(hg:Gl X "list")(hm:X.mg "list" = none)(hg2:Gl X "range")(hm2:X.mg "range" = none)(ha:ME X T W a ma)(na:starEach [a] X.env=(false,eval a X.env)::starEach [] X.env:=by rfl):ME X T W (.Call (.Name "list" p) [.Call (.Name "range" p2) [a] [] pos2] [] pos) (BQ ma):=
 b5 (pe_listRg hc hg hm (prg_1 hg2 hm2 ha na)) λσ H Q ⟨μ,ρ,S,he,hs,h⟩=>by
  refine bL he hs h λv H1 μ1 S1 x ex he1 hs1 ra h1=>?_;unfold lrR at h1;split at h1
  ·rename_i n;split at h1
   ·rename_i hn;refine⟨n,cq ra,?_,λq hq=>?_⟩;·exact⟨by omega,by omega,by omega,by omega,by omega⟩
    ·have r:av T μ1 H1 (gR 0 n.toNat) (rgV 0 n):=by unfold gR rgV;rw[Int.sub_zero];exact Uv (n:=0)
     obtain⟨e1,e2,e3⟩:=rP hs1 r hq;exact h1 μ1 _ _ e1 e2 e3
   ·exact h1.elim
  ·exact h1.elim
@[simp] theorem QR{ρ:Env}{S:ag}:BQ ma ρ S=(ma ρ S).bind lrR:=rfl
theorem aa8{n:Int}{S:ag}(h:n<=1000000/\-1000000<=n):lrR (.v (.int n)) S=.ok (.v (.lst (gR 0 n.toNat))) S:=if_pos h
def adK(T:Tb)(W:XK)(m:SM)(t:TS):TS:=λD σ H=>rdS T W m { D with nx:=λσ' H'=>t D σ' H' } σ H
def MP(X:Cx)(T:Tb)(W:XK)(pre:List Stmt)(m:SM):Prop:=∀{rest:List Stmt}{t:TS},PSs X rest t->PSs X (pre++rest) (adK T W m t)
theorem z8(h:MS X T W st m):MP X T W [st] m:=λ{rest} {t} hr=>mO (pss_cons h hr) λD σ H q=>q
theorem oY(h:MS X T W st m)(h2:MP X T W pre n):MP X T W (st::pre) (aG m n):=λ{rest} {t} hr=>mO (pss_cons h (h2 hr)) λD σ H ⟨μ,ρ,S,he,hs,q⟩=>by
 refine⟨μ,ρ,S,he,hs,?_⟩;unfold aG at q;cases e:m ρ S with
 |nx ρ' S' =>rw[e]at q;exactλμ' H' σ' ex hs' he'=>⟨μ',ρ',S',he',hs',mB.later ex q⟩|rt a S'=>rw[e]at q;exact q|bk ρ' S'=>rw[e]at q;exact q|ct ρ' S'=>rw[e]at q;exact q|er e' S'=>rw[e]at q;exact q|stk=>rw[e]at q;exact q
theorem EC(h:MP X T W pre m):MP X T W pre (Ey m):=λ{rest} {t} hr=>mO (h hr) λD σ H ⟨μ,ρ,S,he,hs,q⟩=>⟨μ,ρ,S,he,hs,Nn hs q⟩
theorem z9(h:MP X T W pre m)(h2:MB X T W rest n):MB X T W (pre++rest) (aG m n):=mO (h h2) λD σ H ⟨μ,ρ,S,he,hs,q⟩=>by
 refine⟨μ,ρ,S,he,hs,?_⟩;unfold aG at q;cases e:m ρ S with
 |nx ρ' S' =>rw[e]at q;exactλμ' H' σ' ex hs' he'=>⟨μ',ρ',S',he',hs',mB.later ex q⟩|rt a S'=>rw[e]at q;exact q|bk ρ' S'=>rw[e]at q;exact q|ct ρ' S'=>rw[e]at q;exact q|er e' S'=>rw[e]at q;exact q|stk=>rw[e]at q;exact q
end
theorem newObj{T:Tb}{μ:List Addr}{H:Hp}{S:ag}{p:Addr}{o:HO}{m:MO}(hs:aI T μ H S)(hp:H p=none)(r:Ext μ H (μ++[p]) (upd H p o)->uu T (μ++[p]) (upd H p o) p m)(ho:∀C dx fs,o=.ins C dx fs->∀f v,(f,v)∈fs->zt.contains f=false:=by intro _ _ _ z;cases z)(hm:∀k fs f n,m=.ins k fs->fs.lookup f≠some (.ptr n):=by intro _ _ _ _ z;cases z) :Ext μ H (μ++[p]) (upd H p o)/\aI T (μ++[p]) (upd H p o) (S++[m])/\aH T (μ++[p]) (upd H p o) (.m S.length) (.ref p):=by
 have sm:Same H (upd H p o):=fD hp;have np:=(hs.free hp).1;obtain⟨ex,xx⟩:=hs.push sm hp (λC dx fs e=>ho C dx fs (by rw[upd_same]at e;cases e;rfl));have gl:(μ++[p])[S.length]?=some p:=by rw[<-hs.len,List.getElem?_append_right (Nat.le_refl _)];simp
 refine⟨ex,⟨by simp[hs.len],?_,λi a u h1 h2=>?_,λa ha=>?_,T.mono ex hs.inv,xx,hs.pt.push hs.len (λa _ C dx fs z=>sm a _ z) hm⟩,⟨p,gl,rfl⟩⟩;·rw[List.nodup_append];exact⟨hs.nd,by simp,λa ha b hb=>by rw[List.mem_singleton.mp hb];rintro rfl;exact np ha⟩
 ·by_cases hi:i<S.length;·rw[List.getElem?_append_left (by rw[hs.len];exact hi)]at h1;rw[List.getElem?_append_left hi]at h2;exact hs.mvs ex sm h1 h2
  ·rw[List.getElem?_append_right (by omega)]at h2;have e1:i-S.length=0:=by have:=(List.getElem?_eq_some_iff.mp h2).1;simpa using this
   have e2:i=S.length:=(by omega);subst e2;rw[gl]at h1;simp at h2;cases h1;subst h2;exact r ex
 ·rcases List.mem_append.mp ha with h|h;obtain⟨u,q⟩:=hs.tr a h;exact⟨u,sm _ _ q⟩;·rw[List.mem_singleton.mp h];exact⟨_,upd_same⟩
def FY:D->Option L2.Key|.int i=>some (.inl i)|.str x=>some (.inr x)|_=>none
theorem u9{T:Tb}{μ:List Addr}{H:Hp}{d:D}{k:L2.Key}{v:V}(h:FY d=some k)(r:aH T μ H (.v d) v):v=kV k:=by cases d<;>simp only[FY,Option.some.injEq]at h<;>first|(subst h;first|exact cq r|exact g9 r)|cases h
def b3(kvs:List (L2.Key×D))(k:L2.Key):Option D:=(kvs.find? λkv=>decide (kv.1=k)).map (·.2)
def Dj(kvs:List (L2.Key×D))(k:L2.Key)(d:D):List (L2.Key×D):=
 if (kvs.any λkv=>decide (kv.1=k))=true then kvs.map (λkv=>if kv.1=k then(kv.1,d) else kv) else kvs++[(k,d)]
section
variable {T:Tb}{μ:List Addr}{H:Hp}{X:Cx}{W:XK}{a b c:Expr}{ma mb mc:EM}{pos apos:Pos}
theorem AR{k:L2.Key}:∀{kvs:List (L2.Key×D)}{vs:List V},av T μ H (kvs.map Prod.snd) vs ->
  (∀d,b3 kvs k=some d->∃v,L2.valV ((kvs.map Prod.fst).zip vs) k=some v/\Rep T μ H d v)/\(b3 kvs k=none->L2.valV ((kvs.map Prod.fst).zip vs) k=none)
 |[],vs,r=>by refine⟨λd h=>(by cases h),λ_=>?_⟩;simp only[List.map_nil,List.zip_nil_left];rfl|(j,e)::kvs,vs,r=>by
  simp only[List.map_cons,av]at r;obtain⟨v,ws,rfl,r1,r2⟩:=r;have ih:=AR (k:=k) r2;simp only[List.map_cons,List.zip_cons_cons];by_cases hj:j=k
  ·have e1:b3 ((j,e)::kvs) k=some e:=by simp[b3,List.find?_cons,hj]
   rw[e1,L2.valV_pos hj];exact⟨λd h=>by cases h;exact⟨v,rfl,r1⟩,λh=>by cases h⟩
  ·have e1:b3 ((j,e)::kvs) k=b3 kvs k:=by simp[b3,List.find?_cons,hj]
   rw[e1,L2.valV_neg hj];exact ih
theorem Nq{k:L2.Key}:∀{kvs:List (L2.Key×D)}{vs:List V},vs.length=kvs.length->(((kvs.map Prod.fst).zip vs).any λkv=>decide (kv.1=k))=kvs.any λkv=>decide (kv.1=k)|[],vs,_=>by simp|(j,e)::kvs,[],h=>by simp at h|(j,e)::kvs,v::vs,h=>by simp only[List.map_cons,List.zip_cons_cons,List.any_cons];rw[Nq (by simpa using h)]
theorem Nr{k:L2.Key}{d:D}{y:V}(ry:Rep T μ H d y):∀{kvs:List (L2.Key×D)}{vs:List V},av T μ H (kvs.map Prod.snd) vs->∃ws,(((kvs.map Prod.fst).zip vs).map λkv=>if kv.1=k then(kv.1,y) else kv)=((kvs.map λkv=>if kv.1=k then(kv.1,d) else kv).map Prod.fst).zip ws/\av T μ H ((kvs.map λkv=>if kv.1=k then(kv.1,d) else kv).map Prod.snd) ws
 |[],vs,r=>⟨[],by simp,by simp only[List.map_nil,av]⟩|(j,e)::kvs,vs,r=>by
  simp only[List.map_cons,av]at r;obtain⟨v,us,rfl,r1,r2⟩:=r;obtain⟨ws,h1,h2⟩:=Nr (k:=k) ry r2;by_cases hj:j=k
  ·refine⟨y::ws,?_,?_⟩;·simp only[List.map_cons,List.zip_cons_cons,h1,if_pos hj]
   ·simp only[List.map_cons,if_pos hj,av];exact⟨y,ws,rfl,ry,h2⟩
  ·refine⟨v::ws,?_,?_⟩;·simp only[List.map_cons,List.zip_cons_cons,h1,if_neg hj]
   ·simp only[List.map_cons,if_neg hj,av];exact⟨v,ws,rfl,r1,h2⟩
theorem Nt{k:L2.Key}{d:D}{y:V}{kvs:List (L2.Key×D)}{vs:List V}(ry:Rep T μ H d y)(r:av T μ H (kvs.map Prod.snd) vs):∃ws,putK ((kvs.map Prod.fst).zip vs) k y=((Dj kvs k d).map Prod.fst).zip ws/\av T μ H ((Dj kvs k d).map Prod.snd) ws:=by
 have hl:vs.length=kvs.length:=by rw[r.length,List.length_map]
 unfold putK Dj;rw[Nq hl];by_cases h:(kvs.any λkv=>decide (kv.1=k))=true;·rw[if_pos h,if_pos h];exact Nr ry r
 ·rw[if_neg h,if_neg h];refine⟨vs++[y],?_,?_⟩;rw[List.map_append,List.zip_append (by rw[List.length_map,hl])];rfl;·rw[List.map_append];exact r.app (av.one ry)
def QS:EM:=λ_ S=>.ok (.m S.length) (S++[.gX []])
theorem Uw:ME X T W (.Dict [] [] pos) QS:=b5 pe_dnewK λσ H Q ⟨μ,ρ,S,he,hs,h⟩=>λp hp=>by obtain⟨x1,x2,x3⟩:=newObj (o:=.dK []) (m:=.gX []) hs hp λex=>⟨[],upd_same,by simp only[List.map_nil,av]⟩;exact h _ _ _ x1 x2 x3
def CO(n:Nat)(k:L2.Key)(d:D)(ρ:Env)(S:ag):SR:=match S[n]? with
 |some (.gX kvs)=>if kvs.length<cE then .nx ρ (S.set n (.gX (Dj kvs k d))) else .stk
 |_=>.stk
def Wl(ρ:Env)(x o y:A)(S:ag):SR:=match x,o,y with
 |.v d,.m n,.v e=>match FY e with
  |some k=>CO n k d ρ S|none=>.stk
 |_,_,_=>.stk
def jO:A->ag->Option (List (L2.Key×D))
 |.m n,S=>match S[n]? with
  |some (.gX kvs)=>some kvs|_=>none
 |.v (.gX ks ds),_=>if ks.length=ds.length then some (ks.zip ds) else none
 |_,_=>none
theorem rC{μ:List Addr}{H:Hp}{S:ag}{o:A}{v:V}{kvs:List (L2.Key×D)}(h:jO o S=some kvs)(hs:aI T μ H S)(r:aH T μ H o v):∃p vs,v=.ref p/\Rd H p (.dK ((kvs.map Prod.fst).zip vs))/\av T μ H (kvs.map Prod.snd) vs:=by
 unfold jO at h;split at h;·split at h;rename_i n S0 q kv2 q2;cases h;obtain⟨p,g1,rfl⟩:=r;obtain⟨vs,g2,g3⟩:=hs.at_ _ _ _ g1 q2;exact⟨p,vs,rfl,.inl g2,g3⟩;·cases h
 ·split at h;·rename_i ks ds S0 hl;cases h;simp only[aH,Rep]at r;obtain⟨p,vs,rfl,g2,g3⟩:=r;refine⟨p,vs,rfl,?_,?_⟩;rw[List.map_fst_zip (by omega)];exact g2.2;·rw[List.map_snd_zip (by omega)];exact g3
  ·cases h
 ·cases h
def Nu(z y:A)(o:Option (List (L2.Key×D)))(S:ag):R A:=match z,y,o with
 |.v d,.v e,some kvs=>match FY e with
  |some k=>.ok (.v ((b3 kvs k).getD d)) S|none=>.stk
 |_,_,_=>.stk
def J5(md mk mx:EM):EM:=λρ S=>(md ρ S).bind λo S1=>if (jO o S1).isSome=true then(mk ρ S1).bind λy S2=>(mx ρ S2).bind λz S3=>Nu z y (jO o S3) S3 else .stk
theorem Ux{cpos:Pos}(hu:X.A.units+1<cLine)(ha:ME X T W a ma)(hb:ME X T W b mb)(hc:ME X T W c mc)(m:M2 X a "get" apos b c cpos) :ME X T W (.Call (.Attribute a "get" apos) [b,c] [] cpos) (J5 ma mb mc):=b5 (pe_dget2 hu ha hb hc m) λσ H Q ⟨μ,ρ,S,he,hs,h⟩=>by
 refine bL he hs h λv H1 μ1 S1 o ex he1 hs1 ro h1=>?_;split at h1
 ·rename_i hd;obtain⟨kv0,q0⟩:=Option.isSome_iff_exists.mp hd;obtain⟨p,vs,rfl,d1,_⟩:=rC q0 hs1 ro;refine⟨p,rfl,.inl ⟨_,d1⟩,?_⟩;refine bL he1 hs1 h1 λv2 H2 μ2 S2 y ex2 he2 hs2 ry h2=>?_;refine bL he2 hs2 h2 λv3 H3 μ3 S3 z ex3 he3 hs3 rz h3=>?_;unfold Nu at h3;split at h3
  ·rename_i d e kvs qd;split at h3
   ·rename_i k qk;obtain⟨p',vs',e',d2,r2⟩:=rC qd hs3 (aH.mono ex3 (aH.mono ex2 ro));cases e';have ky:=u9 qk (aH.mono ex3 ry);have lr:=AR (k:=k) r2;refine⟨_,.inl ⟨_,k,d2,ky,rfl⟩,?_⟩;cases ql:b3 kvs k with
    |some x =>obtain⟨w,w1,w2⟩:=lr.1 x ql;rw[ql]at h3;rw[w1];exact h3 μ3 H3 w Ext.refl hs3 w2
    |none =>rw[ql]at h3;rw[lr.2 ql];exact h3 μ3 H3 v3 Ext.refl hs3 rz
   ·exact h3.elim
  ·exact h3.elim
 ·exact h1.elim
end
mutual
def QT:D->Bool|.fn _=>false|.tup ds=>HY ds|.lst ds=>HY ds|.fz ds=>HY ds|.obj _ fs=>QU fs|.gX _ ds=>HY ds|.exc _ fs=>QU fs|.yD ks xs=>HY ks&&HY xs|.non=>true|.bl _=>true|.int _=>true|.str _=>true|.cls _=>true|.ty _=>true|.adr _=>true|.ptr _=>true
def HY:List D->Bool|[]=>true|d::ds=>QT d&&HY ds
def QU:List (Str×D)->Bool|[]=>true|(_,d)::fs=>QT d&&QU fs
end
abbrev Tb.wL(T:Tb)(lam:Nat->LF):Tb:={ T with lam:=lam }
section
variable {T:Tb}{lam:Nat->LF}{μ:List Addr}{H:Hp}{nms:List Str}{ok:PySem.W.Frag->Bool}{fn:List bA}{dc:List Jx}{w:World}{K:PySem.W.Frag}{l:List (Addr×Addr)}{h:Heap}
mutual
theorem QV:∀{d:D}{v:V},QT d=true->(Rep (T.wL lam) μ H d v↔Rep T μ H d v)|.fn b,v,h=>by simp[QT]at h|.non,v,_=>by simp only[Rep]|.bl b,v,_=>by simp only[Rep]|.int b,v,_=>by simp only[Rep]|.str b,v,_=>by simp only[Rep]|.cls b,v,_=>by simp only[Rep]|.ty b,v,_=>by simp only[Rep]|.adr b,v,_=>by simp only[Rep]|.ptr b,v,_=>by simp only[Rep]|.tup ds,v,h=>by simp only[QT]at h;simp only[Rep,wb h];exact Iff.rfl|.lst ds,v,h=>by simp only[QT]at h;simp only[Rep,wb h]|.fz ds,v,h=>by simp only[QT]at h;simp only[Rep,wb h];exact Iff.rfl|.gX ks ds,v,h=>by simp only[QT]at h;simp only[Rep,wb h]|.obj k fs,v,h=>by simp only[QT]at h;simp only[Rep,HZ h]|.exc k fs,v,h=>by simp only[QT]at h;simp only[Rep,HZ h];exact Iff.rfl|.yD ks xs,v,h=>by simp only[QT,Bool.and_eq_true]at h;simp only[Rep,wb h.1,wb h.2];exact Iff.rfl
theorem wb:∀{d:List D}{v:List V},HY d=true->(av (T.wL lam) μ H d v↔av T μ H d v)|[],v,_=>by simp only[av]|d::ds,v,h=>by simp only[HY,Bool.and_eq_true]at h;simp only[av,QV h.1,wb h.2]
theorem HZ:∀{d:List (Str×D)}{v:List (Str×V)},QU d=true->(dB (T.wL lam) μ H d v↔dB T μ H d v)|[],v,_=>by simp only[dB]|(f,d)::ds,v,h=>by simp only[QU,Bool.and_eq_true]at h;simp only[dB,QV h.1,HZ h.2]
end
theorem Cz.def_(z:Cz nms ok fn dc w K l h)(i:Nat){d:bA}(hd:fn[i]?=some d:=by rfl)(hc:d.FT=[]:=by rfl):∃fd,Fun K d.name d.qual d.st (d.at_ K) fd/\PySem.W.keepIn K (.ref (d.at_ K))=true:=
 d.acv (z.eq i hd) (z.Xb d (List.mem_of_getElem? hd)) hc
end
open ClX
section
open L2H (RoomH PinOk Hot1 FnH HotC cxH inv_startH roomH_of PMk5 Six suiteX wPass)
structure afl (P:Program) (K:PySem.W.Frag) (mg:Str->Option Value) (C:Addr) (ps:List Str) (fl:List (Str×kO)):Prop where
 o:OexC K C
 ex:∃fI fd,PySem.W.findIn K (.ref C) "__init__" = some (some (.ref fI))/\PySem.W.typeIn K (.ref fI)=some (.type "function")/\Binds K fd ps []/\∀(w:World) (base:Heap) (b:Bool),FnH P w K mg base (Au b P w) 1 fI fd ps (XT C (ps.length-1) fl)
def Tb.wN(T:Tb):Tb:={ T with nn:=true }
section
variable {T:Tb}{μ:List Addr}{H:Hp}
mutual
theorem QW:∀{d:D}{v:V},Rep T.wN μ H d v↔Rep T μ H d v|.non,v=>by simp only[Rep]|.bl b,v=>by simp only[Rep]|.int b,v=>by simp only[Rep]|.str b,v=>by simp only[Rep]|.cls b,v=>by simp only[Rep];exact Iff.rfl|.ty b,v=>by simp only[Rep]|.adr b,v=>by simp only[Rep]|.ptr b,v=>by simp only[Rep]|.fn b,v=>by simp only[Rep];exact Iff.rfl|.tup ds,v=>by simp only[Rep,y4];exact Iff.rfl|.lst ds,v=>by simp only[Rep,y4]|.fz ds,v=>by simp only[Rep,y4];exact Iff.rfl|.gX ks ds,v=>by simp only[Rep,y4]|.exc k fs,v=>by simp only[Rep,Ia];exact Iff.rfl|.yD ks xs,v=>by simp only[Rep,y4];exact Iff.rfl|.obj k fs,v=>by simp only[Rep,Ia];exact Iff.rfl
theorem y4:∀{d:List D}{v:List V},av T.wN μ H d v↔av T μ H d v|[],v=>by simp only[av]|d::ds,v=>by simp only[av,QW,y4]
theorem Ia:∀{d:List (Str×D)}{v:List (Str×V)},dB T.wN μ H d v↔dB T μ H d v|[],v=>by simp only[dB]|(f,d)::ds,v=>by simp only[dB,QW,Ia]
end
end
end
abbrev tT(X:Cx)(scope:Scope)(s:Shared):List (Str×Addr):=cellsFrom (s.heap.objs.size+1) scope.names (cloFrom X.env.cells scope.names [])
structure aeI (X:Cx) (scope:Scope) (s:Shared) (H:Hp) (cl:List (Str×Addr)):Prop where
 inv:∃pins σ,Inv X pins σ H s
 cells:cl=tT X scope s
 free:∀y∈scope.names,y.2=.free->∃c,X.env.cells.lookup y.1=some c
end L3
namespace PySem
namespace HandSPX
open Builtin Builtin.ObjectAttr
def Wm(tl:List Value):List Value->Bool|.ref _::r=>Wm tl r|l=>l == tl
structure Wo (B newId initId:String) (tl:List Value):Prop where
 F:ExcBaseFacts B newId initId tl
 K:PySem.W.KxsFacts B initId
 pass:∀self:Value,refuseLoop self "__setattr__" tl=pure ()
 ob:tl.contains (.type "object")=true
 ne:tl.isEmpty=false
end HandSPX
end PySem
namespace L3
open PySem PySem.Spec PyProof.Rows L2 NdefX
structure aa9 (K:PySem.W.Frag) (C:Addr) (nI:String) (tl:List Value):Prop where
 cls:∃nm q N bs bm sn sub ab col dd k0 k1 k2 k3 k5,K.lookup C=some (excClassObj nm q C N bs bm true sn sub ab col dd k0 k1 k2 k3 k5 nI)/\PySem.HandSPX.Wm tl bm=true
 sa:PySem.W.findIn K (.ref C) "__setattr__" = some (some (.builtin "object.__setattr__"))
 exC:PySem.W.subIn K (.ref C) (.type "BaseException")=some true
 tyC:PySem.W.typeIn K (.ref C)=some (.type "type")
 kC:PySem.W.keepIn K (.ref C)=true
structure afm (K:PySem.W.Frag) (B iI:String) (C cc c:Addr) (qual:Str) (main:Str):Prop where
 cell:Gb K cc=some (.ref C)
 sup:PySem.W.ks_superIn K C C "__init__" = some (some (.builtin iI))
 vE:PySem.W.subIn K (.ref C) (.type B)=some true
 self:PySem.W.mroIn K C (.ref C)=some true
 opq:PySem.W.nsIn K cStatics "thirdparty.any" = some none
 code:PySem.W.codeIn K (.ref c) qual=true
 file:Ge K c main=true
end L3
namespace PySem.W
open PySem PySem.Spec PySem.Calls PyProof.Rows
end PySem.W
namespace L3
open PySem PySem.Spec PyProof.Rows L2 NdefX LamX
structure ExG (P:Program) (K:PySem.W.Frag) (mg:Str->Option Value) (C:Addr) (B nI iI:String) (tl:List Value) (ps:List Str) (fl:List (Str×kO)) (kbl:List (Nat×List Str×List Nat)):Prop where
 bf:PySem.HandSPX.Wo B nI iI tl
 o:aa9 K C nI tl
 ex:∃fI fd,PySem.W.findIn K (.ref C) "__init__" = some (some (.ref fI))/\PySem.W.typeIn K (.ref fI)=some (.type "function")/\(∀q∈kbl,KB fd ps q.1 q.2.1 q.2.2)/\∀(w:World) (base:Heap) (b:Bool),FnOk P w K mg base (Au b P w) 1 fI fd ps (XT C (ps.length-1) fl)
def jx:Nat->List D->List D|_,[]=>[]|i,d::r=>.tup [.int i,d]::jx (i+1) r
theorem ED:∀{ds:List D}{k i:Nat}{d:D},(jx k ds)[i]?=some d->∃x,ds[i]?=some x/\d=.tup [.int ((k+i:Nat):Int),x]|[],k,i,d,h=>by simp[jx]at h|x::r,k,0,d,h=>by simp only[jx,List.getElem?_cons_zero,Option.some.injEq]at h;exact⟨x,rfl,h.symm⟩|x::r,k,i+1,d,h=>by simp only[jx,List.getElem?_cons_succ]at h;obtain⟨y,e1,e2⟩:=ED h;exact⟨y,by simpa using e1,by rw[e2,show k+1+i=k+(i+1) by omega]⟩
theorem y5:∀{ds:List D}{k:Nat},(jx k ds).length=ds.length|[],_=>rfl|_::r,k=>by simp[jx,y5 (ds:=r)]
section
variable {T:Tb}{H:Hp}{μ:List Addr}
def AS:A->ag->Option (List D×List D)
 |.m n,S=>match S[n]? with
  |some (.x .dn ks xs)=>some (ks,xs)|_=>none
 |.v (.yD ks xs),_=>some (ks,xs)|_,_=>none
theorem xM{S:ag}{o:A}{v:V}{ks xs:List D}(h:AS o S=some (ks,xs))(hs:aI T μ H S)(r:aH T μ H o v):∃a es,v=.ref a/\Gf T μ H a ks xs es:=by
 unfold AS at h;split at h;·split at h;rename_i n S0 q ks' xs' q2;cases h;obtain⟨a,g1,rfl⟩:=r;obtain⟨u,ws,us,g2,⟨es,rfl,rfl,rfl,g3,g4⟩,g5,g6⟩:=hs.at_ _ _ _ g1 q2;exact⟨a,es,rfl,g2,g5,g3,g6,g4⟩;·cases h
 cases h;simp only[aH,Rep]at r;obtain⟨a,u,ws,us,rfl,⟨_,g2,⟨es,rfl,rfl,rfl,g3,g4⟩⟩,g5,g6⟩:=r;exact⟨a,es,rfl,g2,g5,g3,g6,g4⟩;·cases h
def lT(ks xs:List D)(k:NK):Option D:=((ks.zip xs).find? λp=>decide (gN p.1=some k)).map (·.2)
theorem AU{k:NK}:∀{ks xs:List D}{es:NE},ks.map gN=es.map (λe=>some e.1)->av T μ H xs (es.map λe=>e.2.2)->match lT ks xs k,ur es k with
  |some d,some p=>Rep T μ H d p.2|none,none=>True|_,_=>False
 |[],[],[],_,_=>trivial|[],x::xs,[],_,r=>by simp only[List.map_nil,av]at r;obtain⟨_,_,e,_⟩:=r;cases e
 |k'::ks,[],e::es,_,r=>by simp only[List.map_cons,av]at r;cases r|k'::ks,x::xs,e::es,hk,r=>by
  simp only[List.map_cons,List.cons.injEq]at hk;simp only[List.map_cons,av]at r;obtain⟨v,ws,q,r1,r2⟩:=r;cases q;have ih:=AU (k:=k) hk.2 r2;unfold lT ur at ih ⊢;by_cases c:e.1=k
  ·have c2:gN k'=some k:=by rw[hk.1,c]
   rw[List.zip_cons_cons,List.find?_cons_of_pos (by simp[c2]),List.find?_cons_of_pos (by simp[c])];exact r1
  ·have c2:¬gN k'=some k:=by rw[hk.1];exactλz=>c (Option.some.inj z)
   rw[List.zip_cons_cons,List.find?_cons_of_neg (by simp[c2]),List.find?_cons_of_neg (by simp[c])];exact ih
 |[],_,e::es,hk,_=>by simp at hk|k'::ks,_,[],hk,_=>by simp at hk
def l5(ks xs:List D)(kd d:D)(k:NK):List D×List D:=
 if (lT ks xs k).isSome=true then(ks,(ks.zip xs).map λp=>if gN p.1=some k then d else p.2) else(ks++[kd],xs++[d])
theorem LP{k:NK}{d:D}{v:V}(rv:Rep T μ H d v):∀{ks xs:List D}{es:NE},ks.map gN=es.map (λe=>some e.1)->av T μ H xs (es.map λe=>e.2.2) ->
  av T μ H ((ks.zip xs).map λp=>if gN p.1=some k then d else p.2) ((es.map λe=>if e.1=k then(e.1,e.2.1,v) else e).map λe=>e.2.2)
 |[],xs,[],_,r=>by simp only[List.zip_nil_left,List.map_nil,av]|k'::ks,[],e::es,_,r=>by simp only[List.map_cons,av]at r;cases r|k'::ks,x::xs,e::es,hk,r=>by simp only[List.map_cons,List.cons.injEq]at hk;simp only[List.map_cons,av]at r;obtain⟨w,ws,q,r1,r2⟩:=r;cases q;have ih:=LP (k:=k) rv hk.2 r2;simp only[List.zip_cons_cons,List.map_cons,av];by_cases c:e.1=k;rw[if_pos c,if_pos (by rw[hk.1,c])];exact⟨_,_,rfl,rv,ih⟩;·rw[if_neg c,if_neg (by rw[hk.1];exactλz=>c (Option.some.inj z))];exact⟨_,_,rfl,r1,ih⟩
 |[],_,e::es,hk,_=>by simp at hk|k'::ks,_,[],hk,_=>by simp at hk
theorem EE{es:NE}{k:NK}{x:Addr}{v:V}:(cS es k x v).map (λe=>(e.1,e.2.1))=if (ur es k).isSome=true then es.map (λe=>(e.1,e.2.1)) else es.map (λe=>(e.1,e.2.1))++[(k,x)]:=by unfold cS;split;rw[List.map_map];refine List.map_congr_left λe _=>?_;by_cases c:e.1=k<;>simp[c];·simp
theorem Gf.put{a x:Addr}{ks xs:List D}{es:NE}{kd d:D}{k:NK}{v:V}(R:Gf T μ H a ks xs es)(hk:gN kd=some k)(rk:Rep T μ H kd (.ref x))(rv:Rep T μ H d v)(dk:k.depth<=8) :av T μ H (l5 ks xs kd d k).1 ((cS es k x v).map λe=>V.ref e.2.1)/\(l5 ks xs kd d k).1.map gN=(cS es k x v).map (λe=>some e.1)/\av T μ H (l5 ks xs kd d k).2 ((cS es k x v).map λe=>e.2.2)/\∀e∈cS es k x v,e.1.depth<=8:=by
 have z:=AU (k:=k) R.kk R.vl;have pk:=EE (es:=es) (k:=k) (x:=x) (v:=v);have e1:(cS es k x v).map (λe=>V.ref e.2.1)=((cS es k x v).map λe=>(e.1,e.2.1)).map λq=>V.ref q.2:=by rw[List.map_map];rfl
 have e2:(cS es k x v).map (λe=>some e.1)=((cS es k x v).map λe=>(e.1,e.2.1)).map λq=>some q.1:=by rw[List.map_map];rfl
 have e3:∀q∈(cS es k x v).map λe=>(e.1,e.2.1),q.1.depth<=8:=by
  rw[pk];intro q hq;split at hq;·obtain⟨e,he,rfl⟩:=List.mem_map.mp hq;exact R.dp e he
  ·rcases List.mem_append.mp hq with hq|hq;obtain⟨e,he,rfl⟩:=List.mem_map.mp hq;exact R.dp e he;·rw[List.mem_singleton.mp hq];exact dk
 have e4:∀e∈cS es k x v,e.1.depth<=8:=λe he=>e3 _ (List.mem_map.mpr ⟨e,he,rfl⟩);refine⟨?_,?_,?_,e4⟩
 all_goals unfold l5
 all_goals cases q1:lT ks xs k with
  |some d0=>
   cases q2:ur es k with
   |none=>rw[q1,q2]at z;exact z.elim|some p0=>
    rw[q2]at pk;simp only[Option.isSome_some,if_true]at pk ⊢
    first
     |(rw[e1,pk,List.map_map];exact R.ky)|(rw[e2,pk,List.map_map];exact R.kk)|(unfold cS;rw[q2];simp only[Option.isSome_some,if_true];exact LP rv R.kk R.vl)
  |none=>
   cases q2:ur es k with
   |some p0=>rw[q1,q2]at z;exact z.elim|none=>
    rw[q2]at pk;simp only[Option.isSome_none,Bool.false_eq_true,if_false]at pk ⊢
    first
     |(rw[e1,pk,List.map_append,List.map_map];exact R.ky.app (av.one rk))|(rw[e2,pk,List.map_append,List.map_append,List.map_map,R.kk];simp[hk])|(unfold cS;rw[q2];simp only[Option.isSome_none,Bool.false_eq_true,if_false];rw[List.map_append];exact R.vl.app (av.one rv))
end
def aba(X:Cx)(H:Hp)(k:NK)(b:Addr):Prop:=∀(pins:List (Addr×Obj)) (σ:L2.St) (s:Shared),Inv X pins σ H s->Di s.heap k b
theorem AV{X:Cx}{T:Tb}{μ:List Addr}{H:Hp}{x:A}{k:NK}{v:V}(hK:X.K=T.K)(h:Ay x=some k)(r:aH T μ H x v):∃ds b,x=.v (.tup ds)/\gN (.tup ds)=some k/\v=.ref b/\k.depth<=8/\Rep T μ H (.tup ds) (.ref b)/\aba X H k b:=by
 unfold Ay at h;split at h
 ·rename_i ds;split at h;·rename_i k0 e;split at h;rename_i hd;cases h;have r0:Rep T μ H (.tup ds) v:=r;have r1:=r0;simp only[Rep]at r1;obtain⟨b,vs,rfl,hh,rl⟩:=r1;exact⟨ds,b,rfl,e,rfl,hd,r0,λpins σ s I=>⟨yW hK I e r0 rfl,hd⟩⟩;·cases h
  ·cases h
 ·cases h
def FZ(neg:Bool):tK:=λy o S=>match jO o S with
 |some kvs=>(match y with
  |.v e=>(FY e).map λk=>nC (if neg=true then !(b3 kvs k).isSome else(b3 kvs k).isSome)|_=>none)
 |none=>match AS o S,Ay y with
  |some (ks,xs),some k=>some (nC (if neg=true then !(lT ks xs k).isSome else(lT ks xs k).isSome))|_,_=>none
theorem Uy{neg:Bool}:∀x y S z,FZ neg x y S=some z->∃k,z=nC k:=λx y S z h=>by
 unfold FZ at h;split at h;·split at h;obtain⟨k,_,rfl⟩:=Option.map_eq_some_iff.mp h;exact⟨_,rfl⟩;·cases h
 ·split at h;cases h;exact⟨_,rfl⟩;·cases h
section
variable {X:Cx}{T:Tb}{W:XK}{a b c:Expr}{ma mb mc:EM}{pos pos':Pos}
theorem Nv(hu:X.A.units+64<cLine):X.A.units+1<cLine:=by omega
theorem Uz(neg:Bool)(hK:X.K=T.K)(hw:X.w=T.w)(hu:X.A.units+64<cLine):zv X T (compareOp (if neg=true then .NotIn else .In)) (FZ neg):=by
 rintro pins s σ H x y v u Q I rx ry ⟨μ,S,a,b,z,hs,ra,rb,hg,q⟩;unfold FZ at hg;split at hg
 ·rename_i kvs hd;split at hg
  ·rename_i e;obtain⟨k,qk,rfl⟩:=Option.map_eq_some_iff.mp hg;obtain⟨p,vs,rfl,d1,r1⟩:=rC hd hs rb;obtain rfl:u=Value.ref p:=ry;have ek:=u9 qk ra;have lr:=AR (k:=k) r1;have hb:(L2.valV ((kvs.map Prod.fst).zip vs) k).isSome=(b3 kvs k).isSome:=by
    cases ql:b3 kvs k with
    |some d =>obtain⟨w,e1,_⟩:=lr.1 d ql;rw[e1];rfl
    |none=>rw[lr.2 ql];rfl
   have g:DGet H p x (L2.valV ((kvs.map Prod.fst).zip vs) k):=.inl ⟨_,k,d1,ek,rfl⟩;cases neg with
   |true=>exact d_notIn (Nv hu) I g rx λs' I'=>⟨.bl _,H,I',rfl,by rw[hb];exact q μ H _ Ext.refl hs cO⟩|false=>exact d_in (Nv hu) I g rx λs' I'=>⟨.bl _,H,I',rfl,by rw[hb];exact q μ H _ Ext.refl hs cO⟩
  ·cases hg
 ·split at hg
  ·rename_i ks xs k hd hk;cases hg;obtain⟨p,es,rfl,R⟩:=xM hd hs rb;obtain rfl:u=Value.ref p:=ry;obtain⟨ds,x0,rfl,e1,rfl,dk,r0,kh⟩:=AV hK hk ra;obtain rfl:v=Value.ref x0:=rx;have z:=AU (k:=k) R.kk R.vl;have e2:(ur es k).isSome=(lT ks xs k).isSome:=by cases q1:lT ks xs k<;>cases q2:ur es k<;>rw[q1,q2]at z<;>first|rfl|exact z.elim
   exact Xw I hu (by rw[hw];exact R.ob) (R.keys hK I) (kh _ _ _ I) λs' I'=>⟨.bl _,H,I',rfl,by rw[e2];exact q μ H _ Ext.refl hs cO⟩
  ·cases hg
def xN(o y:A)(S:ag):R A:=match jO o S with
 |some kvs=>(match y with
  |.v e=>(match FY e with
   |some k=>(match b3 kvs k with
    |some d=>.ok (.v d) S|none=>.stk)
   |none=>.stk)
  |_=>.stk)
 |none=>match AS o S,Ay y with
  |some (ks,xs),some k=>(match lT ks xs k with
   |some d=>.ok (.v d) S|none=>.stk)
  |_,_=>.stk
def rV(md mk:EM):EM:=λρ S=>(md ρ S).bind λo S1=>(mk ρ S1).bind λy S2=>xN o y S2
theorem AW(hK:X.K=T.K)(hw:X.w=T.w)(hu:X.A.units+64<cLine)(ha:ME X T W a ma)(hb:ME X T W b mb)(hs:NoSl b:=by exactλ_ _=>rfl):ME X T W (.Subscript a b pos) (rV ma mb):=⟨λpins s σ H Q I ⟨μ,ρ,S,he,hS,q⟩=>by
 refine subD_of PySem.F.slot_dict_getitem.lookup hs (thn (ha.run pins s σ H (λv H1=>∃μ1 S1 x,dw T μ1 H1 ρ σ/\aI T μ1 H1 S1/\aH T μ1 H1 x v/\oU T (λμ H=>aH T μ H) μ1 H1 Q W ((mb ρ S1).bind λy S2=>xN x y S2)) I (bL he hS q λv H1 μ1 S1 x ex he1 hs1 rx h1=>⟨μ1,S1,x,he1,hs1,rx,h1⟩)) λu s1 ⟨v,H1,I1,rv,μ1,S1,x,he1,hs1,rx,h1⟩=>?_);refine thn (hb.run pins s1 σ H1 (λv2 H2=>∃μ2 S2 y,Ext μ1 H1 μ2 H2/\aI T μ2 H2 S2/\aH T μ2 H2 y v2/\oU T (λμ H=>aH T μ H) μ2 H2 Q W (xN x y S2)) I1 (bL he1 hs1 h1 λv2 H2 μ2 S2 y ex he2 hs2 ry h2=>⟨μ2,S2,y,ex,hs2,ry,h2⟩)) λiv s2 ⟨v2,H2,I2,rv2,μ2,S2,y,ex,hs2,ry,h2⟩=>?_;have rx2:=rx.mono ex;unfold xN at h2;split at h2
 ·rename_i kvs hd;split at h2
  ·rename_i e;split at h2;·rename_i k qk;split at h2;rename_i d ql;obtain⟨p,vs,rfl,d1,r1⟩:=rC hd hs2 rx2;obtain rfl:u=Value.ref p:=rv;have ek:=u9 qk ry;obtain⟨w,e1,rw'⟩:=(AR (k:=k) r1).1 d ql;have g:DGet H2 p v2 (some w):=.inl ⟨_,k,d1,ek,e1.symm⟩;exact⟨dict_typeIs I2 g,d_getItem (Nv hu) I2 g rv2 λw' s3 I3 r3=>⟨w,H2,I3,r3,h2 μ2 H2 w Ext.refl hs2 rw'⟩⟩;·exact h2.elim
   ·exact h2.elim
  ·exact h2.elim
 ·split at h2
  ·rename_i ks xs k hd hk;split at h2;·rename_i d qf;obtain⟨p,es,rfl,R⟩:=xM hd hs2 rx2;obtain rfl:u=Value.ref p:=rv;obtain⟨ds,x0,rfl,e1,rfl,dk,r0,kh⟩:=AV hK hk ry;obtain rfl:iv=Value.ref x0:=rv2;have z:=AU (k:=k) R.kk R.vl;rw[qf]at z;cases q2:ur es k with|none=>rw[q2]at z;exact z.elim|some pr =>rw[q2]at z;have ob:H2 p=some (jH X.w p es):=(by rw[hw];exact R.ob);refine⟨?_,JK I2 hu ob (R.keys hK I2) (kh _ _ _ I2) q2 λw' s3 r3 I3=>⟨pr.2,H2,I3,r3,h2 μ2 H2 _ Ext.refl hs2 z⟩⟩;obtain⟨od,rows,ep,xs',ho,hx,_⟩:=(vW I2 ob).ex;exact⟨od,ho,hx.1⟩
   ·exact h2.elim
  ·exact h2.elim⟩
def va(x o y:A)(ρ:Env)(S:ag):SR:=match x,o with
 |.v d,.m n=>(match S[n]? with
  |some (.gX _)=>Wl ρ (.v d) (.m n) y S|some (.x .dn ks xs)=>(match y,Ay y with
   |.v kd,some k=>if ks.length<cE then .nx ρ (S.set n (.x .dn (l5 ks xs kd d k).1 (l5 ks xs kd d k).2)) else .stk
   |_,_=>.stk)
  |_=>.stk)
 |_,_=>.stk
def CP(md mk mv:EM):SM:=λρ S=>SR.of (mv ρ S) λx S1=>SR.of (md ρ S1) λo S2=>SR.of (mk ρ S2) λy S3=>va x o y ρ S3
theorem Nw(hK:X.K=T.K)(hw:X.w=T.w)(hu:X.A.units+64<cLine)(ha:ME X T W a ma)(hb:ME X T W b mb)(hc:ME X T W c mc)(hs:swapsWith c (some (.Subscript a b pos')) pos.line X.env=pure false:=by rfl) :MS X T W (.Assign [.Subscript a b pos'] c pos) (CP ma mb mc):=⟨λpins s σ H D I ⟨μ,ρ,S,he,hS,h⟩=>by
 refine wpAny_Assign_Subscript (thn (hc.run pins s σ H (λv H1=>∃μ1 S1 x,dw T μ1 H1 ρ σ/\aI T μ1 H1 S1/\aH T μ1 H1 x v/\mB T μ1 H1 D W (SR.of (ma ρ S1) λo S2=>SR.of (mb ρ S2) λy S3=>va x o y ρ S3)) I (uX he hS h λv H1 μ1 S1 x ex he1 hs1 rx h1=>⟨μ1,S1,x,he1,hs1,rx,h1⟩)) λrv s1 ⟨v,H1,I1,r1,μ1,S1,x,he1,hs1,rx,h1⟩=>?_) hs;refine thn (ha.run pins s1 σ H1 (λov H2=>∃μ2 S2 o,Ext μ1 H1 μ2 H2/\dw T μ2 H2 ρ σ/\aI T μ2 H2 S2/\aH T μ2 H2 o ov/\mB T μ2 H2 D W (SR.of (mb ρ S2) λy S3=>va x o y ρ S3)) I1 (uX he1 hs1 h1 λov H2 μ2 S2 o ex he2 hs2 ro h2=>⟨μ2,S2,o,ex,he2,hs2,ro,h2⟩)) λu s2 ⟨ov,H2,I2,r2,μ2,S2,o,ex2,he2,hs2,ro,h2⟩=>?_;refine thn (hb.run pins s2 σ H2 (λkv H3=>∃μ3 S3 y,Ext μ2 H2 μ3 H3/\dw T μ3 H3 ρ σ/\aI T μ3 H3 S3/\aH T μ3 H3 y kv/\mB T μ3 H3 D W (va x o y ρ S3)) I2 (uX he2 hs2 h2 λkv H3 μ3 S3 y ex he3 hs3 ry h3=>⟨μ3,S3,y,ex,he3,hs3,ry,h3⟩)) λiv s3 ⟨kv,H3,I3,r3,μ3,S3,y,ex3,he3,hs3,ry,h3⟩=>?_;rename_i z0 z1 z2 z3;clear h1 h2 z1 z2 z3;have rx3:=aH.mono ex3 (aH.mono ex2 rx);have ro3:=aH.mono ex3 ro;unfold va at h3;split at h3
 ·rename_i d n;have rv3:Rep T μ3 H3 d v:=rx3;split at h3
  ·rename_i kv0 q0;unfold Wl at h3;split at h3
   ·rename_i d' n' e e1 e2;cases e1;cases e2;split at h3
    ·rename_i k qk;unfold CO at h3;split at h3
     ·rename_i kvs q;split at h3
      ·rename_i hl;obtain⟨p,g1,rfl⟩:=ro3;obtain rfl:u=Value.ref p:=r2;obtain⟨vs,g2,g3⟩:=hs3.at_ _ _ _ g1 q;obtain⟨ws,w1,w2⟩:=Nt (k:=k) rv3 g3;have hn:n<S3.length:=(List.getElem?_eq_some_iff.mp q).1;have kl:((kvs.map Prod.fst).zip vs).length<sizeLine:=by rw[List.length_zip,List.length_map];exact Nat.lt_of_le_of_lt (Nat.min_le_left _ _) (Nat.lt_of_lt_of_le hl (bS (Nat.le_refl _)))
       obtain⟨e1,e2⟩:=aI.wr (o:=.dK (putK ((kvs.map Prod.fst).zip vs) k v)) (m:=.gX (Dj kvs k d)) hs3 g1 hn λex=>⟨ws,by rw[upd_same,w1],w2.mono ex⟩;exact d_setItem (Nv hu) I3 (.inl ⟨_,k,g2,u9 qk ry,kl,rfl⟩) r3 r1 λs4 I4=>⟨σ,_,I4,h3 μ3 _ σ e1 e2 (he3.mono e1)⟩
      ·exact h3.elim
     ·exact h3.elim
    ·exact h3.elim
   ·exact h3.elim
  ·rename_i ks xs q;split at h3
   ·rename_i kd k hk;split at h3
    ·rename_i hl;have dn:AS (.m n) S3=some (ks,xs):=by unfold AS;simp only[q]
     obtain⟨p,es,rfl,R⟩:=xM dn hs3 ro3;obtain⟨p',g1,e0⟩:=ro3;cases e0;obtain rfl:u=Value.ref p:=r2;obtain⟨ds,x0,e3,e4,rfl,dk,r0,kh⟩:=AV hK hk ry;cases e3;obtain rfl:iv=Value.ref x0:=r3;have hn:n<S3.length:=(List.getElem?_eq_some_iff.mp q).1;have lk:es.length=ks.length:=(by have:=congrArg List.length R.kk;simpa using this.symm);have P:=R.put e4 r0 rv3 dk;obtain⟨e1,e2⟩:=aI.wr (hl:=⟨_,R.1,by intro _ _ _ z;cases z⟩) (o:=jH T.w p (cS es k x0 v)) (m:=.x .dn (l5 ks xs (.tup ds) d k).1 (l5 ks xs (.tup ds) d k).2) hs3 g1 hn λex=>⟨_,_,_,upd_same,⟨_,rfl,rfl,rfl,P.2.1,P.2.2.2⟩,P.1.mono ex,P.2.2.1.mono ex⟩;refine JJ I3 hu (by rw[hw];exact R.ob) (R.keys hK I3) (kh _ _ _ I3) (by rw[lk];exact Nat.lt_of_lt_of_le hl (bS (Nat.le_refl _))) r1 λs4 I4=>⟨σ,_,I4,?_⟩;rw[hw];exact h3 μ3 _ σ e1 e2 (he3.mono e1)
    ·exact h3.elim
   ·exact h3.elim
  ·exact h3.elim
 ·exact h3.elim⟩
def X7(X:Cx)(tk tv:TE):TE:=λσ H Q=>∀p,H p=none->tPairs [(tk,tv)] σ (upd H p (jH X.w p [])) λps H2=>∃(kv vv:V) (k:NK) (b:Addr),ps=[(kv,vv)]/\H2 p=some (jH X.w p [])/\kv=.ref b/\aba X H2 k b/\Q (.ref p) (upd H2 p (jH X.w p (cS [] k b vv)))
theorem QX{ke ve:Expr}{tk tv:TE}(hu:X.A.units+64<cLine)(hk:PE X ke tk)(hv:PE X ve tv):PE X (.Dict [some ke] [ve] pos) (X7 X tk tv):=by
 refine⟨λpins s σ H Q I q=>?_⟩;have hn:=I.hok.fresh (Nat.le_refl s.heap.objs.size);have I1:=I.laid (a:=s.heap.objs.size) (o:=jH X.w s.heap.objs.size []) (h':=s.heap.push { cls:=.type "dict",data:=.dict #[] }) (t':=s.toks) (λ_ _ q=>Heap.get?_push_of_some _ q) (Nat.le_refl _) (M3 s.heap I.big);refine wpAny_Dict_any rfl rfl (by simp) (by simp) (thn ((pps_cons hk hv pps_nil).run pins _ σ _ _ I1 (q _ hn)) λws s2 ⟨ps,H2,I2,rel,kv,vv,k,b,e1,e2,e3,kh,q2⟩=>?_);subst e1 e3;cases rel with
 |@cons _ q0 _ _ h t =>cases t;obtain⟨r1,r2⟩:=h;obtain⟨b1,b2⟩:=q0;obtain rfl:b1=Value.ref b:=r1;unfold storeAll;rw[List.forIn_cons];refine wpAny_bind (wpAny_bind (CB I2 hu e2 (by simp) (kh _ _ _ I2) (by simp[sizeLine_eq]) r2 λs3 I3=>?_));refine wpAny_pure ?_;show wpAny _ _ (forIn [] PUnit.unit _) _ _ _;rw[List.forIn_nil];exact wpAny_pure ⟨.ref s.heap.objs.size,_,I3,rfl,q2⟩
theorem pe_orT{e:Expr}{t t':TE}(h:PE X e t)(h':PE X e t'):PE X e (λσ H Q=>t σ H Q\/t' σ H Q):=⟨λpins s σ H Q I q=>q.elim (h.run pins s σ H Q I) (h'.run pins s σ H Q I)⟩
def GF(i:Nat)(j:Int):EM:=λρ S=>match ρ[i]? with
 |some (some (.v d))=>(match FY d with
  |some k=>.ok (.m S.length) (S++[.gX [(k,.int j)]])|none=>(match Ay (.v d) with
   |some _=>.ok (.m S.length) (S++[.x .dn [d] [.int j]])|none=>.stk))
 |_=>.stk
theorem GG{H:Hp}{a:Addr}{o u:HO}:upd (upd H a o) a u=upd H a u:=by funext b;by_cases hb:b=a;rw[hb,upd_same,upd_same];·rw[upd_ne hb,upd_ne hb,upd_ne hb]
theorem UA(i:Nat){x:Str}{j:Int}{jj:Nat}{p1 p2:Pos}(hK:X.K=T.K)(hw:X.w=T.w)(hu:X.A.units+64<cLine)(hN:X.N[i]?=some x:=by rfl)(hv:Vis X.env.scope x:=by first|exact Or.inl rfl|exact Or.inr (Or.inl rfl)|exact Or.inr (Or.inr rfl))(hd:(x == ("__debug__" : Str))=false:=by decide)
  (hcd:(x == ("__classdict__" : Str))=false:=by decide):ME X T W (.Dict [some (.Name x p1)] [.Constant (.int j) jj p2] pos) (GF i j):=
 b5 (pe_orT (pe_disp (pps_cons (pe_var hN hv hd hcd) pe_int pps_nil) rfl rfl (by simp) (by simp)) (QX hu (pe_var hN hv hd hcd) pe_int)) λσ H Q ⟨μ,ρ,S,he,hs,h⟩=>by
  unfold GF at h;split at h
  ·rename_i d q;obtain⟨v,e1,r⟩:=he.at_ i _ q;split at h;·rename_i k qk;refine .inl λp hp=>?_;have ev:=u9 qk r;refine⟨v,e1,?_⟩;show(upd H p (.dK [])) p=some (.dK [])/\_;refine⟨upd_same,[(k,.int j)],by rw[ev];rfl,by simp,?_⟩;have e2:upd (upd H p (.dK [])) p (.dK (mergeK [] [(k,V.int j)]))=upd H p (.dK [(k,.int j)]):=GG;rw[e2];obtain⟨x1,x2,x3⟩:=newObj (o:=.dK [(k,.int j)]) (m:=.gX [(k,.int j)]) hs hp λex=>⟨[.int j],upd_same,by simp only[List.map_cons,List.map_nil,av,Rep];exact⟨_,_,rfl,rfl,rfl⟩⟩;exact h _ _ _ x1 x2 x3
   ·split at h
    ·rename_i k qk;refine .inr λp hp=>?_;obtain⟨ds,b,e3,e4,rfl,dk,r0,kh⟩:=AV hK qk r;cases e3;refine⟨.ref b,e1,?_⟩;have sm:Same H (upd H p (jH X.w p [])):=fD hp;obtain⟨x1,x2,x3⟩:=newObj (o:=jH X.w p []) (m:=.x .dn [] []) hs hp λex=>⟨_,[],[],upd_same,⟨[],by rw[hw],rfl,rfl,rfl,by simp⟩,by simp only[av],by simp only[av]⟩;have r1:Rep T (μ++[p]) (upd H p (jH X.w p [])) (.tup ds) (.ref b):=r0.mono x1;refine⟨.ref b,.int j,k,b,rfl,upd_same,rfl,λpins σ' s I=>⟨yW hK I e4 r1 rfl,dk⟩,?_⟩;rw[GG];obtain⟨y1,y2,y3⟩:=newObj (o:=jH X.w p (cS [] k b (.int j))) (m:=.x .dn [.tup ds] [.int j]) hs hp λex=>by
      refine⟨_,[.ref b],[.int j],upd_same,⟨cS [] k b (.int j),by rw[hw],rfl,rfl,?_,?_⟩,?_,?_⟩;·show [gN (.tup ds)]=[some k];rw[e4]
      ·intro e he;have:e=(k,b,V.int j):=by simpa[cS,ur]using he
       rw[this];exact dk
      simp only[av];exact⟨_,_,rfl,r0.mono ex,rfl⟩;·simp only[av,Rep];exact⟨_,_,rfl,rfl,rfl⟩
     exact h _ _ _ y1 y2 y3
    ·exact h.elim
  ·exact h.elim
end
def X8(K:PySem.W.Frag)(H:Hp)(k:NK)(b:Addr):Prop:=∀(X:Cx) (pins:List (Addr×Obj)) (σ:L2.St) (s:Shared),X.K=K->Inv X pins σ H s->fB s.heap k b
def X9(w:World)(K:PySem.W.Frag)(D:Addr)(y:V)(H:Hp)(Nx:Hp->Prop):Prop:=
 (∃(c:Int) (S:Int->Bool) (n:Nat),y=.int c/\H D=some (SetO w D S n)/\n+1<scanBound/\Nx (upd H D (SetO w D (λj=>S j||decide (j=c)) (if S c=true then n else n+1)))) \/
 ∃(L:KL) (k:NK) (x:Addr),y=.ref x/\H D=some (tF w D L)/\L.length+1<4000/\(∀p∈L,X8 K H p.2 p.1)/\X8 K H k x/\∀L',(k∈L.map (·.2)->L'=L)->(k∉L.map (·.2)->L'.Perm ((x,k)::L))->Nx (upd H D (tF w D L'))
theorem Ya{X:Cx}{pins:List (Addr×Obj)}{σ:L2.St}{H:Hp}{s:Shared}{D:Addr}{y:V}{z:Value}{Nx:Hp->Prop}{Q:Shared->Prop}{E:Value->Shared->Prop}(hu:X.A.units+64<cLine)(I:Inv X pins σ H s)(h:X9 X.w X.K D y H Nx)(r:RelV y z)(q:∀H' s',Inv X pins σ H' s'->Nx H'->Q s') :wpAny (model X.prog X.w) X.A (call (.builtin "set.add") [.ref D,z]) (λ_ s'=>Q s') E s:=by
 rcases h with ⟨c,S,n,rfl,hD,few,nx⟩|⟨L,k,x,rfl,hD,few,keys,hx,nx⟩
 ·obtain⟨t,rfl⟩:=r;refine setR_add (setO_get I hD) few λh' sb new=>?_;have he:∃u,h'.get? D=some u:=by have⟨o,_,_,_,ho,_⟩:=new;exact⟨o,ho⟩
  exact q _ _ (I.write (e:=D) (t':=s.toks+1) (by rw[hD];trivial) (.inl rfl) (λb u hb hu=>(sb.2 b hb).trans hu) he (setO_new new)) nx
 ·obtain rfl:z=Value.ref x:=r;exact TQ I hu hD few (λp hp=>keys p hp X pins σ s rfl I) (hx X pins σ s rfl I) λL' s' h1 h2 I'=>q _ s' I' (nx L' h1 h2)
def abb(w:World)(K:PySem.W.Frag)(wi:TI)(g:TG)(tt:TT)(te:TE)(vs:List Nat):TE:=λσ H Q=>wi σ H λJ H1=>∀D,H1 D=none->∃O0:HO,(O0=SetO w D (λ_=>false) 0\/O0=tF w D [])/\∃W:Nat->Nat->Hp->Prop,(∃m,W 0 m (upd H1 D O0))/\∀i m H,W i m H ->
 (J.stop i H/\Q (.ref D) H)\/(J.go i H/\∃Nx:Hp->Prop,(∀H',Nx H'->∃m',m'<m/\W (i+1) m' H')/\∀x H',J.yld i H x H'->g x (wipe σ vs) H' λσ2 H2=>wipe σ2 vs=wipe σ vs/\tt σ2 H2 λb H3 =>if b=true then te σ2 H3 λy H4=>X9 w K D y H4 Nx else Nx H3)
section
variable {X:Cx}{elt tg iter:Expr}{ifs:List Expr}{scope:Scope}{own:List (Str×Nat)}{pos:Pos}{wi:TI}{g:TG}{tt:TT}{te:TE}
theorem Yb(hcalm:X.calm=true)(hu:X.A.units+64<cLine)(hnd:X.N.Nodup)(hit:PI X tg iter wi)(hbl:BlkOk X.N X.env.scope scope own)
  (hgo:∀(s:Shared) (H:Hp) (C:Addr) (cl:List (Str×Addr)) (fp:List Addr),PG (X.blk s H scope (compEnvC scope cl C X.env) fp) tg g) (hif:∀(s:Shared) (H:Hp) (C:Addr) (cl:List (Str×Addr)) (fp:List Addr),PTs (X.blk s H scope (compEnvC scope cl C X.env) fp) ifs tt)
  (hel:∀(s:Shared) (H:Hp) (C:Addr) (cl:List (Str×Addr)) (fp:List Addr),PE (X.blk s H scope (compEnvC scope cl C X.env) fp) elt te) (hfold:∀x,foldedSetIterable iter X.env x=pure x:=by intro _;rfl) :
  PE X (.SetComp elt [⟨tg,iter,ifs,0⟩] scope pos) (abb X.w X.K wi g tt te (own.map (·.2))):=by
 constructor;intro pins sA σ HA Q IA hQ;have hcap:∀y∈scope.names,y.2=.free->∃c,X.env.cells.lookup y.1=some c:=λy hy ey=>(hbl.free y hy ey).elim (λz=>IA.ok.has _ (.inl z)) λz=>IA.ok.has _ (.inr z);rw[PpSet.eval_SetComp];refine wpAny_comprehension_free rfl hfold (closure_ok hcap) hbl.kind (λy hy ey=>by rw[hbl.uniq y hy,ey])
  (thn (hit.run pins sA σ HA _ IA hQ) λxv sB hB=>thn hB λiv sC hC=>?_)
 obtain⟨ita,fpa,tna,Ja,HC,rfl,IC,TC,t0,fC,qC⟩:=hC;refine PpSet.newSet_ok (newEnv_comp ?_);obtain⟨Dn,eD⟩:∃Dn,Dn=sC.heap.objs.size:=⟨_,rfl⟩;rw[<-eD];have freshD:HC Dn=none:=IC.hok.fresh (Nat.le_of_eq eD.symm);obtain⟨O0,hO,Wn,⟨k0,hW0⟩,hturn⟩:=qC Dn freshD;obtain⟨sE,eE⟩:∃sE:Shared,sE={ sC with heap:=sC.heap.push { cls:=.type "set",dict:=none,data:=.set #[] 0 (.fresh 0 0 (!X.w.params.followText "set-order")) } }:=⟨_,rfl⟩;have hpE:sE.heap=sC.heap.push { cls:=.type "set",dict:=none,data:=.set #[] 0 (.fresh 0 0 (!X.w.params.followText "set-order")) }:=by rw[eE]
 obtain⟨HE,eHE⟩:∃HE,HE=upd HC Dn O0:=⟨_,rfl⟩;have IE:Inv X pins σ HE sE:=by rw[eE,eHE];refine IC.laid (t':=sC.toks) (λb o q=>Heap.get?_push_of_some _ q) (Nat.le_of_eq eD.symm) ?_;rcases hO with rfl|rfl;rw[eD];exact setO_new (setR_fresh X.w);·rw[eD];exact OS (Heap.get?_push_size _ rfl)
 have ltC:∀b∈fpa,b<sC.heap.objs.size:=λb hb=>by obtain⟨o,q,_⟩:=TC.obj _ _ t0 b hb;exact Heap.lt_size q
 have fE:∀b∈fpa,FpOk X pins HE b/\b<sE.heap.objs.size:=λb hb=>by have hb1:=ltC b hb;constructor;refine⟨?_,(fC b hb).2⟩;rw[eHE,upd_ne (by rw[eD];exact Nat.ne_of_lt hb1)];exact(fC b hb).1;·rw[hpE,Heap.size_push];exact Nat.lt_succ_of_lt hb1
 have tE0:tna 0 sE.heap:=TC.keep _ _ _ t0 λb _ o q=>by rw[hpE];exact Heap.get?_push_of_some _ q
 have IB:=block_start IE hbl hnd fE;have pG:=hgo sE HE sE.heap.objs.size (tT X scope sE) fpa;have pT:=hif sE HE sE.heap.objs.size (tT X scope sE) fpa;have pE:=hel sE HE sE.heap.objs.size (tT X scope sE) fpa;have noneE:∀b∈fpa,HE b=none:=λb hb=>(fE b hb).1.1;rw[<-eHE]at hW0;rw[<-eE];change codeAny _ _ (.compStart _ 0 (.ref ita) (.ref Dn) (compEnvC scope (tT X scope sE) sE.heap.objs.size X.env)) _ { sE with heap:=pushCells (sE.heap.push { cls:=.type "dict",data:=.dict #[] }) scope.names };obtain⟨cv,ecv⟩:∃cv,cv=compEnvC scope (tT X scope sE) sE.heap.objs.size X.env:=⟨_,rfl⟩;change Inv (X.blk sE HE scope (compEnvC scope (tT X scope sE) sE.heap.objs.size X.env) fpa) _ _ _ _ at IB;rw[<-ecv]at IB pG pT pE ⊢;have lcv:cv.locals=sE.heap.objs.size:=by rw[ecv];rfl
 obtain⟨sF,eF⟩:∃sF:Shared,sF={ sE with heap:=pushCells (sE.heap.push { cls:=.type "dict",data:=.dict #[] }) scope.names }:=⟨_,rfl⟩;rw[<-eF]at IB ⊢;have tF0:tna 0 sF.heap:=TC.keep _ _ _ tE0 λb _ o q=>by rw[eF];exact pushCells_keeps _ _ _ _ (Heap.get?_push_of_some _ q)
 have nopin:∀{p:Addr×Obj}{A:Prop},p∈([]:List (Addr×Obj))++[]->A:=λhp=>absurd hp (by simp);have fpB:∀{σ1:L2.St}{H1:Hp}{s1:Shared},Inv (X.blk sE HE scope cv fpa) [] σ1 H1 s1->(∀b∈fpa,H1 b=none)->∀b∈fpa,FpOk (X.blk sE HE scope cv fpa) [] H1 b:=λJ hn b hb =>⟨hn b hb,(J.ok.exf b hb).1,J.ok.exfs b hb,.inl hb,λx c q=>(J.ok.exf b hb).2 x c q,λp hp=>nopin hp⟩;refine PpSet.codeAny_compStart_set ?_ (TC.self X.A 0 _ _ _ tF0 ?_)
 all_goals
  refine PpSet.compLoopS_any (λk s1=>∃i H1,Inv (X.blk sE HE scope cv fpa) [] (wipe σ (own.map (·.2))) H1 s1/\tna i s1.heap/\(∀b∈fpa,H1 b=none)/\Wn i k H1) ?_ k0 ⟨0,HE,IB,tF0,noneE,hW0⟩;rintro k sG ⟨i,HG,IG,tG,nG,wG⟩;rcases hturn i k HG wG with ⟨stop,hend⟩|⟨go,Nx,hNx,hst⟩
  ·refine thnF (TC.done (X.blk sE HE scope cv fpa) rfl rfl rfl hcalm i [] sG _ HG (λ_ _=>False) IG (fpB IG nG) tG stop) λr sH ⟨er,IH⟩=>?_;subst er;have IX:Inv X pins σ HG sH:=IE.call' (ch:=fpa) IH.os IH.base IH.hok IH.bare λb hb=>⟨(fE b hb).1.2.2.2.1,(fE b hb).1.2.1,(fE b hb).1.2.2.2.2.1,(fE b hb).1.2.2.2.2.2⟩;have nloc:HG sE.heap.objs.size=none:=by rw[<-lcv];exact IH.free
   obtain⟨mm,hmm,_⟩:=IH.loc;have hmm:sH.heap.Ns cv.locals mm:=hmm;rw[lcv]at hmm;obtain⟨g0,g1,g2,g3,g4,g5⟩:=IE.fpOk (b:=sE.heap.objs.size) (Nat.le_refl _) nloc;exact⟨mm,hmm,λhh sb=>⟨.ref Dn,HG,IX.turned (t':=sH.toks) (λb o hb q=>(sb.2 b hb).trans q) g0 g1 g3 g4 g5,rfl,hend⟩⟩
  ·refine thnF (TC.item (X.blk sE HE scope cv fpa) rfl rfl rfl hcalm i [] sG _ HG (λ_ _=>False) IG (fpB IG nG) tG go) λr sH ⟨u,er,hH⟩=>?_;subst er;refine thnF hH λ_ sI ⟨x,HI,II,rI,yI,tI,nI⟩=>?_;refine thnF (pG.run _ sI _ HI x u _ (II.pinned (fpB II nI) (TC.obj _ _ tI)) rI (hst x HI yI)) λ_ sJ ⟨σJ,HJ,IJ,wJ,qJ⟩=>?_;refine thnF (pT.run _ sJ σJ HJ _ IJ qJ) λb sK ⟨HK,IK,qK⟩=>?_;have back:∀{s1:Shared}{H1:Hp},Inv (X.blk sE HE scope cv fpa) ([]++pinsAt fpa sI.heap) σJ H1 s1->Nx H1->∃k',k'<k/\∃i H1,Inv (X.blk sE HE scope cv fpa) [] (wipe σ (own.map (·.2))) H1 s1/\tna i s1.heap/\(∀b∈fpa,H1 b=none)/\Wn i k' H1:=λ{s1 H1} J1 nx=>by obtain⟨k',lk',wk'⟩:=hNx H1 nx;have pn1:∀b∈fpa,∀o,sI.heap.get? b=some o->s1.heap.get? b=some o/\H1 b=none:=λb hb o q=>(by have z:=J1.pin (b,o) (List.mem_append_right _ (List.mem_append_right _ (mem_pinsAt hb q)));exact⟨z.1,z.2.1⟩);refine⟨k',lk',i+1,H1,(J1.unpinned (pins:=[])).weak (by rw[<-wJ,wipe_length]) (λj v q=>(wipe_some (by rw[<-wJ]at q;exact q)).1),TC.keep _ _ _ tI λb hb o q=>(pn1 b hb o q).1,λb hb=>?_,wk'⟩;obtain⟨o,q,_⟩:=TC.obj _ _ tI b hb;exact(pn1 b hb o q).2
   cases b with
   |true =>simp only[if_true]at qK ⊢;exact thnF (pE.run _ sK σJ HK _ IK qK) λz sL ⟨yv,HL,IL,rL,ad⟩=>Ya (X:=X.blk sE HE scope cv fpa) hu IL ad rL λH' s' IM nx=>back IM nx|false =>simp only[Bool.false_eq_true,if_false]at qK ⊢;exact back IK qK
end
def Ib:MO->D->Option MO
 |.x .si ks [],.int c=>match vN ks with
  |some ns=>if ns.length<60 then(if ns.contains c=true then some (.x .si ks []) else some (.x .si (ks++[.int c]) [])) else none
  |none=>none
 |.x .sk ks [],.tup ds=>match pairD (.tup ds) with
  |some p=>if ks.length<3900 then(if (ks.any λk=>decide (pairD k=some p))=true then some (.x .sk ks []) else some (.x .sk (ks++[.tup ds]) [])) else none
  |none=>none
 |_,_=>none
def GH(w:World)(D:Addr):Xd->HO|.si=>SetO w D (λ_=>false) 0|_=>tF w D []
def To(g:Tg)(t:TM)(m:EM)(ρ:Env)(n:Nat):List D->ag->R Unit
 |[],S=>.ok () S|d::ds,S=>match g.put (.v d) ρ with
  |none=>.stk|some ρ1=>match t ρ1 S with
   |.ok true S1=>match m ρ1 S1 with
    |.ok (.v y) S2=>match S2[n]? with
     |some mo=>if S2.length=n+1 then(match Ib mo y with
      |some mo'=>To g t m ρ n ds (S2.set n mo')|none=>.stk) else .stk
     |_=>.stk
    |_=>.stk
   |.ok false S1=>To g t m ρ n ds S1|_=>.stk
def zx(kd:Xd)(own:List Nat)(mi:IM)(g:Tg)(t:TM)(m:EM):EM:=λρ S=>(mi ρ S).bind λds S1=>match To g t m (aT ρ own) S1.length ds (S1++[.x kd [] []]) with
 |.ok _ S2=>if S2.length=S1.length+1 then .ok (.m S1.length) S2 else .stk
 |_=>.stk
theorem vb:∀{ds:List D}{ns:List Int},vN ds=some ns->ds=ns.map D.int|[],ns,e=>by cases e;rfl|d::ds,ns,e=>by unfold vN at e;split at e;rename_i i is h1 h2;cases e;cases d<;>simp[intD]at h1;subst h1;rw[vb h2];rfl;·cases e
theorem wc(ns:List Int):vN (ns.map D.int)=some ns:=by
 induction ns with
 |nil=>rfl|cons n ns ih =>show(match intD (D.int n),vN (ns.map D.int) with|some i,some is=>some (i::is)|_,_=>none)=_;rw[ih];rfl
theorem GJ{T:Tb}{μ:List Addr}{H:Hp}{ns:List Int}:av T μ H (ns.map D.int) (ns.map V.int):=by
 induction ns with
 |nil=>simp only[List.map_nil,av]|cons n ns ih=>simp only[List.map_cons,av,Rep];exact⟨_,_,rfl,rfl,ih⟩
theorem wd{T:Tb}{μ:List Addr}{H:Hp}:∀{ns:List Int}{vs:List V},av T μ H (ns.map D.int) vs->vs=ns.map V.int|[],vs,r=>by simpa only[List.map_nil,av]using r|n::ns,vs,r=>by simp only[List.map_cons,av,Rep]at r;obtain⟨v,ws,rfl,rfl,r2⟩:=r;rw[wd r2];rfl
theorem ints_vals:∀{ns:List Int}{us:List Value},Vals (ns.map V.int) us->IntsAre us ns
 |[],_,h=>by cases h;exact .nil|n::ns,_,h=>by
  cases h with
  |cons h1 h2 =>obtain⟨t,rfl⟩:=h1;exact .cons n t (ints_vals h2)
theorem BR{X:Cx}{T:Tb}{pins:List (Addr×Obj)}{σ:L2.St}{H:Hp}{s:Shared}{μ:List Addr}{d:D}{n:Int}{ms:List Int}{v:V}(hK:X.K=T.K)(I:Inv X pins σ H s)(e:pairD d=some (n,ms))(r:Rep T μ H d v):∃b,v=.ref b/\PairAt s.heap n ms b:=by
 unfold pairD at e;split at e
 ·rename_i n0 ds;obtain⟨is,e1,e2⟩:=Option.map_eq_some_iff.mp e;cases e2;have ed:=vb e1;subst ed;simp only[Rep]at r;obtain⟨a,vs,rfl,hh,rl⟩:=r;simp only[av,Rep]at rl;obtain⟨v1,w1,rfl,rfl,v2,w2,rfl,⟨a2,vs2,rfl,hh2,rl2⟩,rfl⟩:=rl;obtain⟨its,rv,it1,_⟩:=I.tuple (hK▸hh.sq);obtain⟨its2,rv2,it2,_⟩:=I.tuple (hK▸hh2.sq);rw[wd rl2]at rv2;cases rv with
  |cons q1 q2=>
   cases q2 with
   |cons q2 q3 =>cases q3;obtain⟨t,rfl⟩:=q1;rename_i z;obtain rfl:z=Value.ref a2:=q2;obtain⟨o,ho,hc,c,hd⟩:=it1;obtain⟨o2,ho2,hc2,c2,hd2⟩:=it2;exact⟨a,rfl,⟨_,a2,t,_,⟨o,ho,hc,c,hd⟩,by simp,⟨o2,ho2,hc2,c2,hd2⟩,by simpa using ints_vals rv2⟩⟩
 ·cases e
theorem UC{p q:Int×List Int}(h:MH p.1 p.2=MH q.1 q.2):p=q:=by have e:=nM p.1 p.2;rw[h,nM]at e;exact(Option.some.inj e).symm
section
variable {T:Tb}{μ:List Addr}{H:Hp}{S:ag}{D0:Addr}{n:Nat}{mo mo':MO}{y:D}{v:V}{K:PySem.W.Frag}
theorem CQ{a b:List Int}(h:a.map D.int=b.map D.int):a=b:=by have e:=wc a;rw[h,wc]at e;exact(Option.some.inj e).symm
theorem UD(hs:aI T μ H S)(hD:μ[n]?=some D0)(hn:n<S.length)(qa:S[n]?=some mo)(ha:Ib mo y=some mo')(ry:Rep T μ H y v)(hK:K=T.K){Nx:Hp->Prop}(nx:∀H',Ext μ H μ H'->aI T μ H' (S.set n mo')->Nx H'):X9 T.w K D0 v H Nx:=by
 have M:=hs.at_ _ _ _ hD qa;unfold Ib at ha;split at ha
 ·rename_i ks c;split at ha
  ·rename_i ns e;split at ha
   ·rename_i hl;have ek:=vb e;obtain⟨o,ws,us,g1,⟨ns',Sf,f1,f2,f3,f4⟩,g2,g3⟩:=M;have en:ns'=ns:=CQ (f1.symm.trans ek);subst en;have ev:v=.int c:=by simpa only[Rep]using ry
    subst ev f2;refine .inl ⟨c,Sf,ns'.length,rfl,g1,by unfold scanBound;omega,?_⟩;have hc:ns'.contains c=Sf c:=by
     have:=f4 c;cases q:Sf c with
     |true=>rw[q]at this;simpa using this.mp rfl|false =>rw[q]at this;have z:c∉ns':=λm=>(by have:=this.mpr m;cases this);simpa using z
    split at ha;·rename_i hcon;cases ha;rw[hc]at hcon;rw[if_pos hcon];obtain⟨e1,e2⟩:=aI.wr (o:=SetO T.w D0 (λj=>Sf j||decide (j=c)) ns'.length) (m:=.x .si ks []) hs hD hn λex=>⟨_,ws,us,upd_same,⟨ns',_,f1,rfl,f3,λk=>by rw[Bool.or_eq_true,f4,decide_eq_true_iff];exact⟨λz=>z.elim id λz=>z▸(f4 c).mp hcon,.inl⟩⟩,g2.mono ex,g3.mono ex⟩;exact nx _ e1 e2
    ·rename_i hcon;cases ha;rw[hc]at hcon;rw[if_neg hcon];obtain⟨e1,e2⟩:=aI.wr (o:=SetO T.w D0 (λj=>Sf j||decide (j=c)) (ns'.length+1)) (m:=.x .si (ks++[.int c]) []) hs hD hn λex=>⟨_,ws++[.int c],us,upd_same,⟨ns'++[c],_,by rw[f1,List.map_append];rfl,by rw[List.length_append];rfl,by
      rw[List.nodup_append];refine⟨f3,by simp,λa ha b hb=>?_⟩;rw[List.mem_singleton.mp hb];rintro rfl;exact hcon ((f4 a).mpr ha),λk=>by
      rw[Bool.or_eq_true,f4,decide_eq_true_iff,List.mem_append,List.mem_singleton]⟩,(g2.mono ex).app (av.one (by simp only[Rep])),g3.mono ex⟩
     exact nx _ e1 e2
   ·cases ha
  ·cases ha
 ·rename_i ks ds;split at ha
  ·rename_i p e;split at ha
   ·rename_i hl;obtain⟨o,ws,us,g1,⟨L,ps,f1,f2,f3,f4⟩,g2,g3⟩:=M;subst f1 f3;have r0:=ry;simp only[Rep]at r0;obtain⟨b,vs,rfl,_,_⟩:=r0;have lk:ks.length=ps.length:=by have:=congrArg List.length f4;simpa using this
    have each:∀q∈ps,∃d,pairD d=some q.2/\Rep T μ H d (.ref q.1):=λq hq=>(by obtain⟨i,hi,eq⟩:=List.getElem_of_mem hq;have h1:ks[i]?=some (ks[i]'(by omega)):=List.getElem?_eq_getElem (by omega);obtain⟨v,h2,h3⟩:=g2.get h1;rw[List.getElem?_map,List.getElem?_eq_getElem hi,eq]at h2;cases h2;have h4:(ks.map pairD)[i]?=some (some q.2):=(by rw[f4,List.getElem?_map,List.getElem?_eq_getElem hi,eq];rfl);rw[List.getElem?_map,h1]at h4;exact⟨_,Option.some.inj h4,h3⟩);have keyT:∀{d:D}{q:Int×List Int}{a:Addr},pairD d=some q->Rep T μ H d (.ref a)->X8 K H (MH q.1 q.2) a:=λ{d q a} h1 h2 X pins σ s hX I=>(by obtain⟨b,e1,e2⟩:=BR (n:=q.1) (ms:=q.2) (hX.trans hK) I h1 h2;cases e1;exact e2.key);have inL:∀q:Int×List Int,MH q.1 q.2∈L.map (·.2)↔∃a,(a,q)∈ps:=λq=>(by constructor;intro h;obtain⟨z,hz,e1⟩:=List.mem_map.mp h;obtain⟨pp,hpp,e2⟩:=List.mem_map.mp (f2.mem_iff.mp hz);rw[<-e2]at e1;rw[<-UC (p:=pp.2) (q:=q) e1];exact⟨pp.1,hpp⟩;·rintro⟨a,h⟩;exact List.mem_map.mpr ⟨_,f2.mem_iff.mpr (List.mem_map.mpr ⟨_,h,rfl⟩),rfl⟩);have any:(ks.any λk=>decide (pairD k=some p))=true↔∃a,(a,p)∈ps:=by
     rw[List.any_eq_true];constructor
     ·rintro⟨d,hd,e1⟩;have e1:=of_decide_eq_true e1;have:some p∈ks.map pairD:=by rw[<-e1];exact List.mem_map_of_mem hd
      rw[f4]at this;obtain⟨z,hz,e2⟩:=List.mem_map.mp this;cases e2;exact⟨z.1,hz⟩
     ·rintro⟨a,h⟩;have:some p∈ps.map λq=>some q.2:=List.mem_map.mpr ⟨_,h,rfl⟩;rw[<-f4]at this;obtain⟨d,hd,e2⟩:=List.mem_map.mp this;exact⟨d,hd,decide_eq_true e2⟩
    refine .inr ⟨L,MH p.1 p.2,b,rfl,g1,by rw[f2.length_eq,List.length_map];omega,λq hq=>?_,keyT e ry,λL' h1 h2=>?_⟩;·obtain⟨pp,hpp,rfl⟩:=List.mem_map.mp (f2.mem_iff.mp hq);obtain⟨d,h3,h4⟩:=each pp hpp;exact keyT h3 h4
    ·split at ha;·rename_i hany;cases ha;have eL:=h1 ((inL p).mpr (any.mp hany));subst eL;obtain⟨e1,e2⟩:=aI.wr (o:=tF T.w D0 L') (m:=.x .sk ks []) hs hD hn λex=>⟨_,_,us,upd_same,⟨L',ps,rfl,f2,rfl,f4⟩,g2.mono ex,g3.mono ex⟩;exact nx _ e1 e2
     ·rename_i hany;cases ha;have pL:=h2 λh=>hany (any.mpr ((inL p).mp h));obtain⟨e1,e2⟩:=aI.wr (o:=tF T.w D0 L') (m:=.x .sk (ks++[.tup ds]) []) hs hD hn λex=>⟨_,_,us,upd_same,⟨L',ps++[(b,p)],rfl,by
       refine pL.trans ((List.Perm.cons _ f2).trans ?_);rw[List.map_append];exact(List.perm_append_singleton _ _).symm,rfl,by rw[List.map_append,List.map_append,f4];simp[e]⟩,by
       rw[List.map_append];exact(g2.mono ex).app (av.one (ry.mono ex)),g3.mono ex⟩
      exact nx _ e1 e2
   ·cases ha
  ·cases ha
 ·cases ha
end
theorem Ic{T:Tb}{W:XK}{mi:IM}{g:Tg}{t:TM}{m:EM}{vs:List Nat}{kd:Xd}{w:World}{K:PySem.W.Frag}(hsl:∀j∈g.sl,j∈vs)(hw:w=T.w)(hK:K=T.K)(hkd:kd=.si\/kd=.sk):∀σ H Q,rd T W (zx kd vs mi g t m) σ H Q->abb w K (ZS T W mi) (ZR T g) (Ti T W0 t) (rd T W0 m) vs σ H Q:=by
 subst hw;rintro σ H Q ⟨μ,ρ,S,he,hs,h⟩;unfold zx at h;refine⟨μ,ρ,S,he,hs,?_⟩;cases q:mi ρ S with
 |stk=>rw[q]at h;exact h.elim|err e1 S1=>rw[q]at h;exact h|ok ds S1=>
  rw[q]at h;simp only[R.ak]at h;intro μ1 H1 J ex1 hs1 yl D hD;cases qr:To g t m (aT ρ vs) S1.length ds (S1++[.x kd [] []]) with
  |stk=>rw[qr]at h;exact h.elim|err e2 S2=>rw[qr]at h;exact h.elim|ok u Sf=>
   rw[qr]at h;have nw:Ext μ1 H1 (μ1++[D]) (upd H1 D (GH T.w D kd))/\aI T (μ1++[D]) (upd H1 D (GH T.w D kd)) (S1++[.x kd [] []]):=(by have z:=newObj (o:=GH T.w D kd) (m:=.x kd [] []) hs1 hD (λex=>by refine⟨_,[],[],upd_same,?_,by simp only[av],by simp only[av]⟩;rcases hkd with rfl|rfl;exact⟨[],_,rfl,rfl,List.nodup_nil,λk=>by simp⟩;·exact⟨[],[],rfl,.nil,rfl,rfl⟩) (λC dx fs z=>by rcases hkd with rfl|rfl<;>cases z);exact⟨z.1,z.2.1⟩);obtain⟨exn,hsn⟩:=nw;have len1:S1.length=μ1.length:=hs1.len.symm;have atD:∀{μ':List Addr},μ'=μ1++[D]->μ'[S1.length]?=some D:=λe=>(by rw[e,len1,List.getElem?_append_right (Nat.le_refl _)];simp);refine⟨GH T.w D kd,hkd.elim (λz=>z▸.inl rfl) (λz=>z▸.inr rfl),λi k H'=>k=ds.length-i/\i<=ds.length/\∃μ' S',Ext (μ1++[D]) (upd H1 D (GH T.w D kd)) μ' H'/\aI T μ' H' S'/\To g t m (aT ρ vs) S1.length (ds.drop i) S'=.ok u Sf,⟨ds.length,by simp,Nat.zero_le _,_,_,Ext.refl,hsn,qr⟩,?_⟩;rintro i k H2 ⟨rfl,hi,μ2,S2,ex2,hs2,e2⟩;by_cases hlt:i<ds.length
   ·have ed:ds[i]?=some ds[i]:=by simp[hlt]
    rw[List.drop_eq_getElem_cons hlt]at e2;obtain⟨go,st⟩:=yl.step μ2 H2 (exn.trans ex2) hs2.tro i _ ed;refine .inr ⟨go,λH'=>∃μ' S',Ext (μ1++[D]) (upd H1 D (GH T.w D kd)) μ' H'/\aI T μ' H' S'/\To g t m (aT ρ vs) S1.length (ds.drop (i+1)) S'=.ok u Sf,λH' q=>⟨ds.length-(i+1),by omega,rfl,hlt,q⟩,λx H3 y=>?_⟩;obtain⟨sm,rx⟩:=st x H3 y;have ex3:Ext μ2 H2 μ2 H3:=hs2.ext sm;unfold To at e2;cases q1:g.put (.v ds[i]) (aT ρ vs) with
    |none=>rw[q1]at e2;cases e2|some ρ1=>
     rw[q1]at e2;simp only at e2;refine⟨μ2,aT ρ vs,S2,.v ds[i],ρ1,u3 ((((he.mono ex1).mono exn).mono ex2).mono ex3) vs,hs2.grow sm,rx,q1,λμ4 H4 σ4 ex4 hs4 he4 off=>⟨?_,?_⟩⟩;·rw[u4 (off.sub hsl),u5]
     ·refine⟨μ4,ρ1,S2,he4,hs4,?_⟩;cases q2:t ρ1 S2 with
      |stk=>rw[q2]at e2;cases e2|err _ _=>rw[q2]at e2;cases e2|ok b S3=>
       rw[q2]at e2;intro μ5 H5 b' ex5 hs5 eb;subst eb;have exx:=((ex2.trans ex3).trans ex4).trans ex5;cases b with
       |false =>refine iteF ⟨μ5,S3,exx,hs5,e2⟩|true=>
        refine iteT ⟨μ5,ρ1,S3,he4.mono ex5,hs5,?_⟩;simp only at e2;cases q3:m ρ1 S3 with
        |stk=>rw[q3]at e2;cases e2|err _ _=>rw[q3]at e2;cases e2|ok wv S4=>
         rw[q3]at e2;cases wv with
         |m _=>cases e2|v yd=>
          simp only at e2;split at e2
          ·rename_i mo qa;split at e2;·rename_i hc;split at e2;rename_i mo' qm;intro μ6 H6 v ex6 hs6 ry;have exy:=exx.trans ex6;have eμ:μ6=μ1++[D]:=k9 (n:=0) exy.pre (by rw[hs6.len,hc,len1]);exact UD (n:=S1.length) hs6 (atD eμ) (by omega) qa qm ry hK λH' x1 x2=>⟨μ6,_,exy.trans x1,x2,e2⟩;·cases e2
           ·cases e2
          ·cases e2
   ·have e:i=ds.length:=by omega
    subst e;rw[List.drop_length]at e2;simp only[To]at e2;cases e2;refine .inl ⟨yl.fin μ2 H2 (exn.trans ex2),?_⟩;simp only at h;split at h;rename_i hl;have eμ:μ2=μ1++[D]:=k9 (n:=0) ex2.pre (by rw[hs2.len,hl,len1]);exact h μ2 H2 (.ref D) (ex1.trans (exn.trans ex2)) hs2 ⟨D,atD eμ,rfl⟩;·exact h.elim
section
variable {X:Cx}{T:Tb}{W:XK}{elt tg iter:Expr}{ifs:List Expr}{scope:Scope}{own:List (Str×Nat)}{mi:IM}{g:Tg}{t:TM}{m:EM}{pos:Pos}
theorem Ny(kd:Xd)(hK:X.K=T.K)(hw:X.w=T.w)(hkd:kd=.si\/kd=.sk)(hu:X.A.units+64<cLine)(hc:X.calm=true)(hN:X.N.Nodup)(ok:BlkOk X.N X.env.scope scope own)(hi:MI X T W tg iter mi)
  (hg:∀(s:Shared) (H:Hp) (C:Addr) (cl:List (Str×Addr)) (fp:List Addr),MG (X.blk s H scope (compEnvC scope cl C X.env) fp) T tg g) (ht:∀(s:Shared) (H:Hp) (C:Addr) (cl:List (Str×Addr)) (fp:List Addr),Wh (X.blk s H scope (compEnvC scope cl C X.env) fp) T W0 ifs t)
  (he:∀(s:Shared) (H:Hp) (C:Addr) (cl:List (Str×Addr)) (fp:List Addr),ME (X.blk s H scope (compEnvC scope cl C X.env) fp) T W0 elt m) (hsl:∀j∈g.sl,j∈own.map (·.2):=by decide) (hs:∀x,foldedSetIterable iter X.env x=pure x:=by intro _;rfl) :
  ME X T W (.SetComp elt [⟨tg,iter,ifs,0⟩] scope pos) (zx kd (own.map (·.2)) mi g t m):=b5 (Yb hc hu hN hi ok hg ht he hs) (Ic hsl hw hK hkd)
end
theorem jP{α:Type}{rk:α->Int}:∀{l m:List α},l.Perm m->l.Pairwise (λx y=>rk x<=rk y)->m.Pairwise (λx y=>rk x<rk y)->l=m
 |l,[],p,_,_=>p.eq_nil|[],b::m,p,_,_=>by have:=p.length_eq;simp at this|a::l,b::m,p,h1,h2=>by
  have h1':=List.pairwise_cons.mp h1;have h2':=List.pairwise_cons.mp h2;have ma:a∈b::m:=p.mem_iff.mp List.mem_cons_self;have mb:b∈a::l:=p.mem_iff.mpr List.mem_cons_self;have e:a=b:=by
   rcases List.mem_cons.mp ma with e|e;·exact e
   ·rcases List.mem_cons.mp mb with e2|e2;·exact e2.symm
    ·have:=h2'.1 a e;have:=h1'.1 b e2;omega
  subst e;rw[jP (List.Perm.cons_inv p) h1'.2 h2'.2]
def Dk{α:Type}(rk:α->Int)(a:α):List α->List α|[]=>[a]|b::r=>if rk a<=rk b then a::b::r else b::Dk rk a r
def fc{α:Type}(rk:α->Int)(l:List α):List α:=l.foldr (Dk rk) []
def jy{α:Type}(rk:α->Int):List α->Bool|a::b::r=>decide (rk a<rk b)&&jy rk (b::r)|_=>true
theorem BS{α:Type}{rk:α->Int}{a:α}:∀{l:List α},(Dk rk a l).Perm (a::l)|[]=>.refl _|b::r=>by unfold Dk;split;exact .refl _;·exact(List.Perm.cons b BS).trans (List.Perm.swap a b r)
theorem eB{α:Type}{rk:α->Int}:∀{l:List α},(fc rk l).Perm l|[]=>.refl _|a::l=>(BS).trans (List.Perm.cons a eB)
theorem rW{α:Type}{rk:α->Int}:∀{l:List α},jy rk l=true->l.Pairwise λx y=>rk x<rk y
 |[],_=>.nil|[a],_=>by simp|a::b::r,h=>by
  unfold jy at h;rw[Bool.and_eq_true]at h;have ih:=rW h.2;refine List.pairwise_cons.mpr ⟨λc hc=>?_,ih⟩;have hab:=of_decide_eq_true h.1;rcases List.mem_cons.mp hc with rfl|hc;·exact hab
  ·have:=(List.pairwise_cons.mp ih).1 c hc;omega
theorem J6{α β:Type}{rk:α->Int}{rk':β->Int}{f:α->β}{a:α}:∀{l:List α},(∀x∈a::l,rk' (f x)=rk x)->(Dk rk a l).map f=Dk rk' (f a) (l.map f)|[],_=>rfl|b::r,h=>by simp only[Dk,List.map_cons];rw[h a List.mem_cons_self,h b (List.mem_cons_of_mem _ List.mem_cons_self)];split;rfl;·rw[List.map_cons,J6 (l:=r) λx hx=>h x ((List.mem_cons.mp hx).elim (λz=>z▸List.mem_cons_self) λz=>List.mem_cons_of_mem _ (List.mem_cons_of_mem _ z))]
theorem y6{α β:Type}{rk:α->Int}{rk':β->Int}{f:α->β}:∀{l:List α},(∀x∈l,rk' (f x)=rk x)->(fc rk l).map f=fc rk' (l.map f)|[],_=>rfl|a::l,h=>by show(Dk rk a (fc rk l)).map f=Dk rk' (f a) (fc rk' (l.map f));rw[<-y6 (l:=l) λx hx=>h x (List.mem_cons_of_mem _ hx)];exact J6 λx hx=>h x ((List.mem_cons.mp hx).elim (λz=>z▸List.mem_cons_self) λz=>List.mem_cons_of_mem _ (eB.mem_iff.mp z))
theorem tU{α β:Type}{rk:α->Int}{rk':β->Int}{f:α->β}:∀{l:List α},(∀x∈l,rk' (f x)=rk x)->jy rk' (l.map f)=jy rk l|[],_=>rfl|[a],_=>rfl|a::b::r,h=>by simp only[jy,List.map_cons];rw[h a List.mem_cons_self,h b (List.mem_cons_of_mem _ List.mem_cons_self)];have:=tU (l:=b::r) λx hx=>h x (List.mem_cons_of_mem _ hx);rw[List.map_cons]at this;rw[this]
def BB:Int:=1000000
def FQ(d:D):Int:=match pairD d with
 |some p=>g8 BB p|none=>0
def LQ(n:Nat)(d:D):Bool:=match pairD d with
 |some p=>decide (p.2.length=n)&&(p.1::p.2).all λx=>decide (-1<=x/\x<BB-1)|none=>false
def tV:List D->Nat|d::_=>((pairD d).map λp=>p.2.length).getD 0|[]=>0
def Aa:e9:=λxs S=>match xs with
 |[.m n]=>(match S[n]? with
  |some (.x .si ks [])=>(match vN ks with
   |some ns=>if ns.length<64/\jy id (fc id ns)=true then some (.v (.lst ((fc id ns).map D.int))) else none
   |none=>none)
  |some (.x .sk ks [])=>if ks.all (LQ (tV ks))=true/\jy FQ (fc FQ ks)=true then some (.v (.lst (fc FQ ks))) else none
  |_=>none)
 |_=>none
def J7:e9:=λxs S=>match xs with
 |[.m n]=>(match S[n]? with
  |some (.x .si ks [])=>if ks.length<64 then some (.v (.int (ks.length:Nat))) else none
  |_=>none)
 |_=>none
theorem Yc:∀{a b:List Int},a.Pairwise (·<·)->b.Pairwise (·<·)->(∀k,k∈a↔k∈b)->a=b:=λ{a b} ha hb h=>by have na:a.Nodup:=ha.imp λx=>Int.ne_of_lt x;have nb:b.Nodup:=hb.imp λx=>Int.ne_of_lt x;exact jP (rk:=id) ((List.perm_ext_iff_of_nodup na nb).mpr h) (ha.imp λx=>Int.le_of_lt x) hb
section
variable {X:Cx}{T:Tb}
theorem LR(hK:X.K=T.K)(hw:X.w=T.w):hW X T (.builtin "len") J7:=by
 rintro pins s σ H vs us Q I rr ⟨μ,S,xs,z,hs,rs,hg,q⟩;unfold J7 at hg;split at hg
 ·rename_i n;split at hg
  ·rename_i ks qa;split at hg
   ·rename_i hl;cases hg;obtain⟨v,rfl,r1⟩:=gW rs;obtain⟨p,g1,rfl⟩:=r1;obtain⟨o,ws,us',g2,⟨ns,Sf,f1,f2,f3,f4⟩,_,_⟩:=hs.at_ _ _ _ g1 qa;cases rr with
    |cons r1 r2=>
     cases r2;rename_i u;obtain rfl:u=Value.ref p:=r1;subst f2;obtain⟨ob,es,ep,t,ho,hex,hd,hgood,hnd,hm,hb,hf,hn,hr,hl2⟩:=setO_get I (show H p=some (SetO X.w p Sf ns.length) by rw[hw];exact g2);have en:ns.length=ks.length:=by rw[f1,List.length_map]
     exact call_len_set ho hex hd hf (by rw[hn]<;>omega) ⟨.int ns.length,H,I.tok _,⟨_,by rw[hn]⟩,q μ H _ Ext.refl hs (by simp only[aH,Rep];rw[en])⟩
   ·cases hg
  ·cases hg
 ·cases hg
theorem EF{α β:Type}:∀{a:List α}{b:List β},a.length=b.length->(a.zip b).map Prod.fst=a/\(a.zip b).map Prod.snd=b
 |[],[],_=>⟨rfl,rfl⟩|x::a,y::b,h=>by obtain⟨h1,h2⟩:=EF (a:=a) (b:=b) (by simpa using h);exact⟨by rw[List.zip_cons_cons,List.map_cons,h1],by rw[List.zip_cons_cons,List.map_cons,h2]⟩
 |[],_::_,h=>by cases h|_::_,[],h=>by cases h
theorem DG{α β:Type}:∀{a:List α}{b:List β}{p:α×β},p∈a.zip b->∃i:Nat,a[i]?=some p.1/\b[i]?=some p.2
 |[],_,_,h=>by simp at h|_::_,[],_,h=>by simp at h|x::a,y::b,p,h=>by
  rw[List.zip_cons_cons]at h;rcases List.mem_cons.mp h with rfl|h;·exact⟨0,rfl,rfl⟩
  ·obtain⟨i,h1,h2⟩:=DG h;exact⟨i+1,h1,h2⟩
theorem Ie{μ:List Addr}{H:Hp}{γ:Type}{f:γ->D}{g:γ->V}:∀{l:List γ},(∀x∈l,Rep T μ H (f x) (g x))->av T μ H (l.map f) (l.map g)|[],_=>by simp only[List.map_nil,av]|x::l,h=>by simp only[List.map_cons,av];exact⟨_,_,rfl,h x List.mem_cons_self,Ie λy hy=>h y (List.mem_cons_of_mem _ hy)⟩
theorem J8(hK:X.K=T.K)(hw:X.w=T.w)(hu:X.A.units+64<cLine)(hc:X.calm=true):hW X T (.builtin "sorted") Aa:=by
 rintro pins s σ H vs us Q I rr ⟨μ,S,xs,z,hs,rs,hg,q⟩;unfold Aa at hg;split at hg
 ·rename_i n;obtain⟨v,rfl,r1⟩:=gW rs;obtain⟨p,g1,rfl⟩:=r1;split at hg
  ·rename_i ks qa;split at hg
   ·rename_i ns e;split at hg
    ·rename_i hl;cases hg;obtain⟨o,ws,us',g2,⟨ns',Sf,f1,f2,f3,f4⟩,_,_⟩:=hs.at_ _ _ _ g1 qa;have en:ns'=ns:=CQ (f1.symm.trans (vb e));subst en f2;refine cr_sortedSet hc pins s σ H _ us Q I rr ⟨p,Sf,ns'.length,rfl,by rw[hw];exact g2,hl.1,λms p' pw mem len hp'=>?_⟩;have em:ms=fc id ns':=Yc pw (rW hl.2) λk=>by rw[mem k,f4,eB.mem_iff]
     rw[<-em]at q;obtain⟨x1,x2,x3⟩:=rP hs (GJ (T:=T) (μ:=μ) (H:=H) (ns:=ms)) hp';exact q _ _ _ x1 x2 x3
    ·cases hg
   ·cases hg
  ·rename_i ks qa;split at hg
   ·rename_i hl;cases hg;obtain⟨hfit,hst⟩:=hl;obtain⟨o,ws,us',g2,⟨L,ps,f1,f2,f3,f4⟩,g3,_⟩:=hs.at_ _ _ _ g1 qa;subst f1 f3;have lk:ks.length=ps.length:=by have:=congrArg List.length f4;simpa using this
    -- a member with its place
    obtain⟨zk,zp⟩:=EF lk;have each:∀x∈ks.zip ps,pairD x.1=some x.2.2/\Rep T μ H x.1 (.ref x.2.1):=λx hx=>(by obtain⟨i,h1,h2⟩:=DG hx;obtain⟨v,h3,h4⟩:=g3.get h1;rw[List.getElem?_map,h2]at h3;cases h3;have h5:(ks.map pairD)[i]?=some (some x.2.2):=(by rw[f4,List.getElem?_map,h2];rfl);rw[List.getElem?_map,h1]at h5;exact⟨Option.some.inj h5,h4⟩);have rks:∀x∈ks.zip ps,FQ x.1=g8 BB x.2.2:=λx hx=>(by unfold FQ;rw[(each x hx).1]);have e1:(fc (λx:D×Addr×Int×List Int=>g8 BB x.2.2) (ks.zip ps)).map Prod.fst=fc FQ ks:=(by rw[y6 (rk':=FQ) (f:=Prod.fst) rks,zk]);generalize hR:fc (λx:D×Addr×Int×List Int=>g8 BB x.2.2) (ks.zip ps)=R at e1;have pR:R.Perm (ks.zip ps):=(by rw[<-hR];exact eB);rw[<-e1]at hst;rw[tU (rk:=λx:D×Addr×Int×List Int=>g8 BB x.2.2) λx hx=>rks x (pR.mem_iff.mp hx)]at hst;have pw:=rW hst;obtain rfl:us=[Value.ref p]:=by
     cases rr with
     |cons r1 r2=>cases r2;rename_i u;obtain rfl:u=Value.ref p:=r1;rfl
    have fit:∀x∈ks.zip ps,x.2.2.2.length=tV ks/\TS.Bd BB ((x.2.2.1::x.2.2.2).map (· + 1)):=λx hx=>(by obtain⟨i,h1,_⟩:=DG hx;have:=List.all_eq_true.mp hfit x.1 (List.mem_of_getElem? h1);unfold LQ at this;rw[(each x hx).1]at this;simp only[Bool.and_eq_true,decide_eq_true_eq]at this;refine⟨this.1,λm hm=>?_⟩;obtain⟨k,hk,rfl⟩:=List.mem_map.mp hm;have:=of_decide_eq_true (List.all_eq_true.mp this.2 k hk);omega);refine Ls (d:=tV ks) (B:=BB) I hc hu (show H p=some (tF X.w p L) by rw[hw];exact g2) (λk hk=>?_) λq' L' s' hq' pL pw' I'=>?_
    ·obtain⟨pp,hpp,rfl⟩:=List.mem_map.mp (f2.mem_iff.mp hk);obtain⟨x,hx,ex⟩:∃x∈ks.zip ps,x.2=pp:=by rw[<-zp]at hpp;exact List.mem_map.mp hpp
     subst ex;obtain⟨b,e2,e3⟩:=BR (n:=x.2.2.1) (ms:=x.2.2.2) hK I (each x hx).1 (each x hx).2;cases e2;exact⟨_,_,rfl,e3,fit x hx⟩
    ·have eL:L'=R.map λx=>(x.2.1,MH x.2.2.1 x.2.2.2):=by refine jP (rk:=λx=>wZ BB x.2) ?_ pw' ?_;refine pL.trans (f2.trans ?_);have:=(pR.symm.map Prod.snd);rw[zp]at this;have:=this.map λp:Addr×Int×List Int=>(p.1,MH p.2.1 p.2.2);rw[List.map_map]at this;exact this;·rw[List.pairwise_map];refine pw.imp λ{x y} h=>?_;show wZ BB (MH x.2.2.1 x.2.2.2)<wZ BB (MH y.2.2.1 y.2.2.2);unfold wZ;rw[nM,nM];exact h
     have eV:(L'.map λp=>V.ref p.1)=R.map λx=>V.ref x.2.1:=(by rw[eL,List.map_map];rfl);rw[eV]at I';rw[<-e1]at q;obtain⟨x1,x2,x3⟩:=rP hs (Ie (T:=T) (μ:=μ) (H:=H) (f:=Prod.fst) (g:=λx:D×Addr×Int×List Int=>V.ref x.2.1) (l:=R) λx hx=>(each x (pR.mem_iff.mp hx)).2) hq';exact⟨.ref q',_,I',rfl,q _ _ _ x1 x2 x3⟩
   ·cases hg
  ·cases hg
 ·cases hg
end
def abd(K:PySem.W.Frag)(H:Hp)(k:NK)(b:Addr):Prop:=∀(X:Cx) (pins:List (Addr×Obj)) (σ:L2.St) (s:Shared),X.K=K->Inv X pins σ H s->Di s.heap k b
def abe(w:World)(K:PySem.W.Frag)(D:Addr)(y z:V)(H:Hp)(Nx:Hp->Prop):Prop:=
 ∃(es:NE) (k:NK) (x:Addr),y=.ref x/\H D=some (jH w D es)/\es.length<sizeLine/\(∀e∈es,abd K H e.1 e.2.1)/\abd K H k x/\Nx (upd H D (jH w D (cS es k x z)))
theorem Yd{X:Cx}{pins:List (Addr×Obj)}{σ:L2.St}{H:Hp}{s:Shared}{D:Addr}{y z:V}{u v:Value}{Nx:Hp->Prop}{Q:Shared->Prop}{E:Value->Shared->Prop}(hu:X.A.units+64<cLine)(I:Inv X pins σ H s)(h:abe X.w X.K D y z H Nx)(r:RelV y u)(rz:RelV z v)(q:∀H' s',Inv X pins σ H' s'->Nx H'->Q s') :wpAny (model X.prog X.w) X.A (dictSet D u v) (λ_ s'=>Q s') E s:=by obtain⟨es,k,x,rfl,hD,few,keys,hx,nx⟩:=h;obtain rfl:u=Value.ref x:=r;exact CB I hu hD (λe he=>keys e he X pins σ s rfl I) (hx X pins σ s rfl I) few rz λs' I'=>q _ s' I' nx
def abf(w:World)(K:PySem.W.Frag)(wi:TI)(g:TG)(tt:TT)(tk te:TE)(vs:List Nat):TE:=λσ H Q=>wi σ H λJ H1=>∀D,H1 D=none->∃W:Nat->Nat->Hp->Prop,(∃m,W 0 m (upd H1 D (jH w D [])))/\∀i m H,W i m H ->
 (J.stop i H/\Q (.ref D) H)\/(J.go i H/\∃Nx:Hp->Prop,(∀H',Nx H'->∃m',m'<m/\W (i+1) m' H')/\∀x H',J.yld i H x H'->g x (wipe σ vs) H' λσ2 H2=>wipe σ2 vs=wipe σ vs/\tt σ2 H2 λb H3 =>if b=true then tk σ2 H3 λy H4=>te σ2 H4 λz H5=>abe w K D y z H5 Nx else Nx H3)
section
variable {X:Cx}{kx elt tg iter:Expr}{ifs:List Expr}{scope:Scope}{own:List (Str×Nat)}{pos:Pos}{wi:TI}{g:TG}{tt:TT}{tk te:TE}
theorem Ye(hcalm:X.calm=true)(hu:X.A.units+64<cLine)(hnd:X.N.Nodup)(hit:PI X tg iter wi)(hbl:BlkOk X.N X.env.scope scope own)
  (hgo:∀(s:Shared) (H:Hp) (C:Addr) (cl:List (Str×Addr)) (fp:List Addr),PG (X.blk s H scope (compEnvC scope cl C X.env) fp) tg g) (hif:∀(s:Shared) (H:Hp) (C:Addr) (cl:List (Str×Addr)) (fp:List Addr),PTs (X.blk s H scope (compEnvC scope cl C X.env) fp) ifs tt)
  (hke:∀(s:Shared) (H:Hp) (C:Addr) (cl:List (Str×Addr)) (fp:List Addr),PE (X.blk s H scope (compEnvC scope cl C X.env) fp) kx tk)
  (hel:∀(s:Shared) (H:Hp) (C:Addr) (cl:List (Str×Addr)) (fp:List Addr),PE (X.blk s H scope (compEnvC scope cl C X.env) fp) elt te) (hfold:∀x,foldedSetIterable iter X.env x=pure x:=by intro _;rfl) :
  PE X (.DictComp kx elt [⟨tg,iter,ifs,0⟩] scope pos) (abf X.w X.K wi g tt tk te (own.map (·.2))):=by
 constructor;intro pins sA σ HA Q IA hQ;have hcap:∀y∈scope.names,y.2=.free->∃c,X.env.cells.lookup y.1=some c:=λy hy ey=>(hbl.free y hy ey).elim (λz=>IA.ok.has _ (.inl z)) λz=>IA.ok.has _ (.inr z);rw[arm_eval_DictComp];refine wpAny_comprehension_free rfl hfold (closure_ok hcap) hbl.kind (λy hy ey=>by rw[hbl.uniq y hy,ey])
  (thn (hit.run pins sA σ HA _ IA hQ) λxv sB hB=>thn hB λiv sC hC=>?_)
 obtain⟨ita,fpa,tna,Ja,HC,rfl,IC,TC,t0,fC,qC⟩:=hC;refine wpAny_newObj_type (newEnv_comp ?_);obtain⟨Dn,eD⟩:∃Dn,Dn=sC.heap.objs.size:=⟨_,rfl⟩;rw[<-eD];have freshD:HC Dn=none:=IC.hok.fresh (Nat.le_of_eq eD.symm);obtain⟨Wn,⟨k0,hW0⟩,hturn⟩:=qC Dn freshD;obtain⟨sE,eE⟩:∃sE:Shared,sE={ sC with heap:=sC.heap.push { cls:=.type "dict",data:=.dict #[] } }:=⟨_,rfl⟩;have hpE:sE.heap=sC.heap.push { cls:=.type "dict",data:=.dict #[] }:=by rw[eE]
 obtain⟨HE,eHE⟩:∃HE,HE=upd HC Dn (jH X.w Dn []):=⟨_,rfl⟩;have IE:Inv X pins σ HE sE:=by rw[eE,eHE];refine IC.laid (t':=sC.toks) (λb o q=>Heap.get?_push_of_some _ q) (Nat.le_of_eq eD.symm) ?_;rw[eD];exact M3 sC.heap IC.big
 have ltC:∀b∈fpa,b<sC.heap.objs.size:=λb hb=>by obtain⟨o,q,_⟩:=TC.obj _ _ t0 b hb;exact Heap.lt_size q
 have fE:∀b∈fpa,FpOk X pins HE b/\b<sE.heap.objs.size:=λb hb=>by have hb1:=ltC b hb;constructor;refine⟨?_,(fC b hb).2⟩;rw[eHE,upd_ne (by rw[eD];exact Nat.ne_of_lt hb1)];exact(fC b hb).1;·rw[hpE,Heap.size_push];exact Nat.lt_succ_of_lt hb1
 have tE0:tna 0 sE.heap:=TC.keep _ _ _ t0 λb _ o q=>by rw[hpE];exact Heap.get?_push_of_some _ q
 have IB:=block_start IE hbl hnd fE;have pG:=hgo sE HE sE.heap.objs.size (tT X scope sE) fpa;have pT:=hif sE HE sE.heap.objs.size (tT X scope sE) fpa;have pK:=hke sE HE sE.heap.objs.size (tT X scope sE) fpa;have pE:=hel sE HE sE.heap.objs.size (tT X scope sE) fpa;have noneE:∀b∈fpa,HE b=none:=λb hb=>(fE b hb).1.1;rw[<-eHE]at hW0;rw[<-eE];change codeAny _ _ (.compStart _ 0 (.ref ita) (.ref Dn) (compEnvC scope (tT X scope sE) sE.heap.objs.size X.env)) _ { sE with heap:=pushCells (sE.heap.push { cls:=.type "dict",data:=.dict #[] }) scope.names };obtain⟨cv,ecv⟩:∃cv,cv=compEnvC scope (tT X scope sE) sE.heap.objs.size X.env:=⟨_,rfl⟩;change Inv (X.blk sE HE scope (compEnvC scope (tT X scope sE) sE.heap.objs.size X.env) fpa) _ _ _ _ at IB;rw[<-ecv]at IB pG pT pK pE ⊢;have lcv:cv.locals=sE.heap.objs.size:=by rw[ecv];rfl
 obtain⟨sF,eF⟩:∃sF:Shared,sF={ sE with heap:=pushCells (sE.heap.push { cls:=.type "dict",data:=.dict #[] }) scope.names }:=⟨_,rfl⟩;rw[<-eF]at IB ⊢;have tF0:tna 0 sF.heap:=TC.keep _ _ _ tE0 λb _ o q=>by rw[eF];exact pushCells_keeps _ _ _ _ (Heap.get?_push_of_some _ q)
 have nopin:∀{p:Addr×Obj}{A:Prop},p∈([]:List (Addr×Obj))++[]->A:=λhp=>absurd hp (by simp);have fpB:∀{σ1:L2.St}{H1:Hp}{s1:Shared},Inv (X.blk sE HE scope cv fpa) [] σ1 H1 s1->(∀b∈fpa,H1 b=none)->∀b∈fpa,FpOk (X.blk sE HE scope cv fpa) [] H1 b:=λJ hn b hb =>⟨hn b hb,(J.ok.exf b hb).1,J.ok.exfs b hb,.inl hb,λx c q=>(J.ok.exf b hb).2 x c q,λp hp=>nopin hp⟩;refine codeAny_compStart_dict ?_ (TC.self X.A 0 _ _ _ tF0 ?_)
 all_goals
  refine compLoop_anyD (λk s1=>∃i H1,Inv (X.blk sE HE scope cv fpa) [] (wipe σ (own.map (·.2))) H1 s1/\tna i s1.heap/\(∀b∈fpa,H1 b=none)/\Wn i k H1) ?_ k0 ⟨0,HE,IB,tF0,noneE,hW0⟩;rintro k sG ⟨i,HG,IG,tG,nG,wG⟩;rcases hturn i k HG wG with ⟨stop,hend⟩|⟨go,Nx,hNx,hst⟩
  ·refine thnF (TC.done (X.blk sE HE scope cv fpa) rfl rfl rfl hcalm i [] sG _ HG (λ_ _=>False) IG (fpB IG nG) tG stop) λr sH ⟨er,IH⟩=>?_;subst er;have IX:Inv X pins σ HG sH:=IE.call' (ch:=fpa) IH.os IH.base IH.hok IH.bare λb hb=>⟨(fE b hb).1.2.2.2.1,(fE b hb).1.2.1,(fE b hb).1.2.2.2.2.1,(fE b hb).1.2.2.2.2.2⟩;have nloc:HG sE.heap.objs.size=none:=by rw[<-lcv];exact IH.free
   obtain⟨mm,hmm,_⟩:=IH.loc;have hmm:sH.heap.Ns cv.locals mm:=hmm;rw[lcv]at hmm;obtain⟨g0,g1,g2,g3,g4,g5⟩:=IE.fpOk (b:=sE.heap.objs.size) (Nat.le_refl _) nloc;exact⟨mm,hmm,λhh sb=>⟨.ref Dn,HG,IX.turned (t':=sH.toks) (λb o hb q=>(sb.2 b hb).trans q) g0 g1 g3 g4 g5,rfl,hend⟩⟩
  ·refine thnF (TC.item (X.blk sE HE scope cv fpa) rfl rfl rfl hcalm i [] sG _ HG (λ_ _=>False) IG (fpB IG nG) tG go) λr sH ⟨u,er,hH⟩=>?_;subst er;refine thnF hH λ_ sI ⟨x,HI,II,rI,yI,tI,nI⟩=>?_;refine thnF (pG.run _ sI _ HI x u _ (II.pinned (fpB II nI) (TC.obj _ _ tI)) rI (hst x HI yI)) λ_ sJ ⟨σJ,HJ,IJ,wJ,qJ⟩=>?_;refine thnF (pT.run _ sJ σJ HJ _ IJ qJ) λb sK ⟨HK,IK,qK⟩=>?_;have back:∀{s1:Shared}{H1:Hp},Inv (X.blk sE HE scope cv fpa) ([]++pinsAt fpa sI.heap) σJ H1 s1->Nx H1->∃k',k'<k/\∃i H1,Inv (X.blk sE HE scope cv fpa) [] (wipe σ (own.map (·.2))) H1 s1/\tna i s1.heap/\(∀b∈fpa,H1 b=none)/\Wn i k' H1:=λ{s1 H1} J1 nx=>by obtain⟨k',lk',wk'⟩:=hNx H1 nx;have pn1:∀b∈fpa,∀o,sI.heap.get? b=some o->s1.heap.get? b=some o/\H1 b=none:=λb hb o q=>(by have z:=J1.pin (b,o) (List.mem_append_right _ (List.mem_append_right _ (mem_pinsAt hb q)));exact⟨z.1,z.2.1⟩);refine⟨k',lk',i+1,H1,(J1.unpinned (pins:=[])).weak (by rw[<-wJ,wipe_length]) (λj v q=>(wipe_some (by rw[<-wJ]at q;exact q)).1),TC.keep _ _ _ tI λb hb o q=>(pn1 b hb o q).1,λb hb=>?_,wk'⟩;obtain⟨o,q,_⟩:=TC.obj _ _ tI b hb;exact(pn1 b hb o q).2
   cases b with
   |true =>simp only[if_true]at qK ⊢;exact thnF (pK.run _ sK σJ HK _ IK qK) λz0 sL0 ⟨yk,HL0,IL0,rL0,qL0⟩=>thnF (pE.run _ sL0 σJ HL0 _ IL0 qL0) λz sL ⟨yv,HL,IL,rL,ad⟩=>Yd (X:=X.blk sE HE scope cv fpa) hu IL ad rL0 rL λH' s' IM nx=>back IM nx|false =>simp only[Bool.false_eq_true,if_false]at qK ⊢;exact back IK qK
end
def QY(g:Tg)(t:TM)(mk mv:EM)(ρ:Env)(n:Nat):List D->ag->R Unit
 |[],S=>.ok () S|d::ds,S=>match g.put (.v d) ρ with
  |none=>.stk|some ρ1=>match t ρ1 S with
   |.ok true S1=>match mk ρ1 S1 with
    |.ok y S2=>match mv ρ1 S2 with
     |.ok (.v z) S3=>match S3[n]? with
      |some (.x .dn ks xs)=>if S3.length=n+1/\ks.length<cE then(match y,Ay y with
       |.v kd,some k=>QY g t mk mv ρ n ds (S3.set n (.x .dn (l5 ks xs kd z k).1 (l5 ks xs kd z k).2))|_,_=>.stk) else .stk
      |_=>.stk
     |_=>.stk
    |_=>.stk
   |.ok false S1=>QY g t mk mv ρ n ds S1|_=>.stk
def GN(own:List Nat)(mi:IM)(g:Tg)(t:TM)(mk mv:EM):EM:=λρ S=>(mi ρ S).bind λds S1=>match QY g t mk mv (aT ρ own) S1.length ds (S1++[.x .dn [] []]) with
 |.ok _ S2=>if S2.length=S1.length+1 then .ok (.m S1.length) S2 else .stk
 |_=>.stk
theorem QZ{T:Tb}{μ:List Addr}{H:Hp}{x:A}{k:NK}{v:V}(h:Ay x=some k)(r:aH T μ H x v):∃ds b,x=.v (.tup ds)/\gN (.tup ds)=some k/\v=.ref b/\k.depth<=8/\Rep T μ H (.tup ds) (.ref b):=by
 unfold Ay at h;split at h
 ·rename_i ds;split at h;·rename_i k0 e;split at h;rename_i hd;cases h;have r0:Rep T μ H (.tup ds) v:=r;have r1:=r0;simp only[Rep]at r1;obtain⟨b,vs,rfl,hh,rl⟩:=r1;exact⟨ds,b,rfl,e,rfl,hd,r0⟩;·cases h
  ·cases h
 ·cases h
theorem Ig{T:Tb}{W:XK}{mi:IM}{g:Tg}{t:TM}{mk mv:EM}{vs:List Nat}{w:World}{K:PySem.W.Frag}(hsl:∀j∈g.sl,j∈vs)(hw:w=T.w)(hK:K=T.K):∀σ H Q,rd T W (GN vs mi g t mk mv) σ H Q->abf w K (ZS T W mi) (ZR T g) (Ti T W0 t) (rd T W0 mk) (rd T W0 mv) vs σ H Q:=by
 subst hw;rintro σ H Q ⟨μ,ρ,S,he,hs,h⟩;unfold GN at h;refine⟨μ,ρ,S,he,hs,?_⟩;cases q:mi ρ S with
 |stk=>rw[q]at h;exact h.elim|err e1 S1=>rw[q]at h;exact h|ok ds S1=>
  rw[q]at h;simp only[R.ak]at h;intro μ1 H1 J ex1 hs1 yl D hD;cases qr:QY g t mk mv (aT ρ vs) S1.length ds (S1++[.x .dn [] []]) with
  |stk=>rw[qr]at h;exact h.elim|err e2 S2=>rw[qr]at h;exact h.elim|ok u Sf=>
   rw[qr]at h;have nw:Ext μ1 H1 (μ1++[D]) (upd H1 D (jH T.w D []))/\aI T (μ1++[D]) (upd H1 D (jH T.w D [])) (S1++[.x .dn [] []]):=(by have z:=newObj (o:=jH T.w D []) (m:=.x .dn [] []) hs1 hD λex=>(by exact⟨_,[],[],upd_same,⟨[],rfl,rfl,rfl,rfl,by simp⟩,by simp only[av],by simp only[av]⟩);exact⟨z.1,z.2.1⟩);obtain⟨exn,hsn⟩:=nw;have len1:S1.length=μ1.length:=hs1.len.symm;have atD:∀{μ':List Addr},μ'=μ1++[D]->μ'[S1.length]?=some D:=λe=>(by rw[e,len1,List.getElem?_append_right (Nat.le_refl _)];simp);refine⟨λi k H'=>k=ds.length-i/\i<=ds.length/\∃μ' S',Ext (μ1++[D]) (upd H1 D (jH T.w D [])) μ' H'/\aI T μ' H' S'/\QY g t mk mv (aT ρ vs) S1.length (ds.drop i) S'=.ok u Sf,⟨ds.length,by simp,Nat.zero_le _,_,_,Ext.refl,hsn,qr⟩,?_⟩;rintro i k H2 ⟨rfl,hi,μ2,S2,ex2,hs2,e2⟩;by_cases hlt:i<ds.length
   ·have ed:ds[i]?=some ds[i]:=by simp[hlt]
    rw[List.drop_eq_getElem_cons hlt]at e2;obtain⟨go,st⟩:=yl.step μ2 H2 (exn.trans ex2) hs2.tro i _ ed;refine .inr ⟨go,λH'=>∃μ' S',Ext (μ1++[D]) (upd H1 D (jH T.w D [])) μ' H'/\aI T μ' H' S'/\QY g t mk mv (aT ρ vs) S1.length (ds.drop (i+1)) S'=.ok u Sf,λH' q=>⟨ds.length-(i+1),by omega,rfl,hlt,q⟩,λx H3 y=>?_⟩;obtain⟨sm,rx⟩:=st x H3 y;have ex3:Ext μ2 H2 μ2 H3:=hs2.ext sm;unfold QY at e2;cases q1:g.put (.v ds[i]) (aT ρ vs) with
    |none=>rw[q1]at e2;cases e2|some ρ1=>
     rw[q1]at e2;simp only at e2;refine⟨μ2,aT ρ vs,S2,.v ds[i],ρ1,u3 ((((he.mono ex1).mono exn).mono ex2).mono ex3) vs,hs2.grow sm,rx,q1,λμ4 H4 σ4 ex4 hs4 he4 off=>⟨?_,?_⟩⟩;·rw[u4 (off.sub hsl),u5]
     ·refine⟨μ4,ρ1,S2,he4,hs4,?_⟩;cases q2:t ρ1 S2 with
      |stk=>rw[q2]at e2;cases e2|err _ _=>rw[q2]at e2;cases e2|ok b S3=>
       rw[q2]at e2;intro μ5 H5 b' ex5 hs5 eb;subst eb;have exx:=((ex2.trans ex3).trans ex4).trans ex5;cases b with
       |false =>refine iteF ⟨μ5,S3,exx,hs5,e2⟩|true=>
        refine iteT ⟨μ5,ρ1,S3,he4.mono ex5,hs5,?_⟩;simp only at e2;cases q3:mk ρ1 S3 with
        |stk=>rw[q3]at e2;cases e2|err _ _=>rw[q3]at e2;cases e2|ok yk S4=>
         rw[q3]at e2;simp only at e2;intro μ6 H6 v ex6 hs6 ry;refine⟨μ6,ρ1,S4,(he4.mono ex5).mono ex6,hs6,?_⟩;cases q4:mv ρ1 S4 with
         |stk=>rw[q4]at e2;cases e2|err _ _=>rw[q4]at e2;cases e2|ok wv S5=>
          rw[q4]at e2;cases wv with
          |m _=>cases e2|v zd=>
           simp only at e2;intro μ7 H7 z ex7 hs7 rz;split at e2
           ·rename_i ks xs qa;split at e2
            ·rename_i hc;split at e2
             ·rename_i kd kk qk;have exy:=(exx.trans ex6).trans ex7;have eμ:μ7=μ1++[D]:=k9 (n:=0) exy.pre (by rw[hs7.len,hc.1,len1]);have ry7:=aH.mono ex7 ry;obtain⟨dd,x0,e3,e4,rfl,dk,r0⟩:=QZ qk ry7;cases e3;have M:=hs7.at_ _ _ _ (atD eμ) qa;obtain⟨o,ws,us,g1,⟨es,rfl,rfl,rfl,f4,f5⟩,g2,g3⟩:=M;have R:Gf T μ7 H7 D ks xs es:=⟨g1,g2,f4,g3,f5⟩;have lk:es.length=ks.length:=by have:=congrArg List.length f4;simpa using this.symm
              have P:=R.put e4 r0 rz dk;have hn:S1.length<S5.length:=(by omega);obtain⟨y1,y2⟩:=aI.wr (o:=jH T.w D (cS es kk x0 z)) (m:=.x .dn (l5 ks xs (.tup dd) zd kk).1 (l5 ks xs (.tup dd) zd kk).2) hs7 (atD eμ) hn λex=>⟨_,_,_,upd_same,⟨_,rfl,rfl,rfl,P.2.1,P.2.2.2⟩,P.1.mono ex,P.2.2.1.mono ex⟩;refine⟨es,kk,x0,rfl,g1,by rw[lk];exact Nat.lt_of_lt_of_le hc.2 (bS (Nat.le_refl _)),λe he' X pins σ s hX I=>R.keys (hX.trans hK) I e he',λX pins σ s hX I=>⟨yW (hX.trans hK) I e4 r0 rfl,dk⟩,μ7,_,exy.trans y1,y2,e2⟩
             ·cases e2
            ·cases e2
           ·cases e2
   ·have e:i=ds.length:=by omega
    subst e;rw[List.drop_length]at e2;simp only[QY]at e2;cases e2;refine .inl ⟨yl.fin μ2 H2 (exn.trans ex2),?_⟩;simp only at h;split at h;rename_i hl;have eμ:μ2=μ1++[D]:=k9 (n:=0) ex2.pre (by rw[hs2.len,hl,len1]);exact h μ2 H2 (.ref D) (ex1.trans (exn.trans ex2)) hs2 ⟨D,atD eμ,rfl⟩;·exact h.elim
section
variable {X:Cx}{T:Tb}{W:XK}{kx elt tg iter:Expr}{ifs:List Expr}{scope:Scope}{own:List (Str×Nat)}{mi:IM}{g:Tg}{t:TM}{mk mv:EM}{pos:Pos}{e:Expr}{es:List Expr}{r:AM}{p:Pos}{x:Str}
theorem UE(hK:X.K=T.K)(hw:X.w=T.w)(hu:X.A.units+64<cLine)(hc:X.calm=true)(hN:X.N.Nodup)(ok:BlkOk X.N X.env.scope scope own)(hi:MI X T W tg iter mi)
  (hg:∀(s:Shared) (H:Hp) (C:Addr) (cl:List (Str×Addr)) (fp:List Addr),MG (X.blk s H scope (compEnvC scope cl C X.env) fp) T tg g) (ht:∀(s:Shared) (H:Hp) (C:Addr) (cl:List (Str×Addr)) (fp:List Addr),Wh (X.blk s H scope (compEnvC scope cl C X.env) fp) T W0 ifs t)
  (hk:∀(s:Shared) (H:Hp) (C:Addr) (cl:List (Str×Addr)) (fp:List Addr),ME (X.blk s H scope (compEnvC scope cl C X.env) fp) T W0 kx mk) (he:∀(s:Shared) (H:Hp) (C:Addr) (cl:List (Str×Addr)) (fp:List Addr),ME (X.blk s H scope (compEnvC scope cl C X.env) fp) T W0 elt mv) (hsl:∀j∈g.sl,j∈own.map (·.2):=by decide) (hs:∀x,foldedSetIterable iter X.env x=pure x:=by intro _;rfl) :
  ME X T W (.DictComp kx elt [⟨tg,iter,ifs,0⟩] scope pos) (GN (own.map (·.2)) mi g t mk mv):=b5 (Ye hc hu hN hi ok hg ht hk he hs) (Ig hsl hw hK)
def LS:CN:=λxs S=>match xs with
 |[y]=>(match pH y S with
  |some ds=>.ok (.m S.length) (S++[.lst ds])|none=>.stk)
 |_=>.stk
theorem J9(hK:X.K=T.K):HU X T W (.type "list") LS:=by
 rintro pins s σ H vs us Q I rr ⟨μ,S,xs,hs,rs,k⟩;unfold LS at k;split at k;·rename_i y;obtain⟨v,rfl,r1⟩:=gW rs;split at k;rename_i ds q;obtain⟨pp,ws,rfl,hq,rl⟩:=lZ hs r1 q;refine call_list_of pins s σ H _ us Q I rr ⟨pp,ws,rfl,hK▸hq,λl hl=>?_⟩;obtain⟨x1,x2,x3⟩:=HD hs rl hl;exact k _ _ _ x1 x2 x3;·exact k.elim
 ·exact k.elim
theorem LU{g:CN}{bid:String}(hc:HU X T W (.type bid) g)(hg:Gl X x)(hm:X.mg x=none)(hv:bootBuiltins x=some (.type bid))(ha:MA X T W (e::es) r)(hn:x ≠ "__name__" := by decide)(hdb:(x == ("__debug__" : Str))=false:=by decide)
  (he:starEach (e::es) X.env=(false,eval e X.env)::starEach es X.env:=by rfl) (hpl:(backTo pos (starEach es X.env)).any (·.1)=false:=by rfl):ME X T W (.Call (.Name x p) (e::es) [] pos) (cF g r):=
 b5 (pe_callTy hc hg hm hv ha hn hdb he hpl) λσ H Q ⟨μ,ρ,S,hE,hs,h⟩=>by refine gB hE hs h λvs H1 μ1 S1 xs ex he1 hs1 rs h1=>?_;exact⟨μ1,S1,xs,hs1,rs,h1⟩
def Ka:e9:=λxs S=>match xs with
 |[o]=>(AS o S).bind λp=>if p.1.length<1000000000 then some (.v (.int (p.1.length:Nat))) else none
 |_=>none
theorem EG(hK:X.K=T.K)(hw:X.w=T.w):hW X T (.builtin "len") Ka:=by
 rintro pins s σ H vs us Q I rr ⟨μ,S,xs,z,hs,rs,hg,q⟩;unfold Ka at hg;split at hg
 ·rename_i o;cases hd:AS o S with
  |none=>rw[hd]at hg;cases hg|some pr=>
   obtain⟨ks,xs'⟩:=pr;rw[hd]at hg;simp only[Option.bind_some]at hg;split at hg;·rename_i hl;cases hg;obtain⟨v,rfl,r1⟩:=gW rs;obtain⟨p,es,rfl,R⟩:=xM hd hs r1;cases rr with|cons r2 r3 =>cases r3;rename_i u;obtain rfl:u=Value.ref p:=r2;have ob:H p=some (jH X.w p es):=(by rw[hw];exact R.ob);have D:=vW I ob;obtain⟨xs2,m,pe⟩:=D.of (P:=X.prog) (R.keys hK I);have lk:ks.length=es.length:=(by have:=congrArg List.length R.kk;simpa using this);have le:xs2.length=ks.length:=(by rw[lk,pe.length]);refine PySem.call_len_dictH D.big m (by rw[le];omega) ⟨.int xs2.length,H,I.tok _,⟨_,rfl⟩,q μ H _ Ext.refl hs (by simp only[aH,Rep];rw[le])⟩
   ·cases hg
 ·cases hg
end
def xO(i j k:Nat)(r:AM):SM:=λρ S=>match r ρ S with
 |.ok [x,y,z] S1=>.nx (((ρ.set i (some x)).set j (some y)).set k (some z)) S1|.err e S1=>.er e S1|_=>.stk
theorem abg{T:Tb}{μ:List Addr}{H:Hp}{x y z:A}{vs:List V}(h:cU T μ H [x,y,z] vs):∃v w u,vs=[v,w,u]/\aH T μ H x v/\aH T μ H y w/\aH T μ H z u:=by obtain⟨v,ws,rfl,h1,w,us,rfl,h2,u,ts,rfl,h3,h4⟩:=h;have:ts=[]:=h4;subst this;exact⟨v,w,u,rfl,h1,h2,h3⟩
open ClX
section
variable {W:XK}{m:Str}{f:Addr}
structure aeJ (K:PySem.W.Frag) (C:Addr) (m:Str) (f:Addr):Prop where
 ex:∃mc q,CRead K C mc/\CMet K C mc m q f
end
def shA(n:Nat):A->A|.v d=>.v d|.m j=>.m (n+j)
def Wq(n:Nat)(ρ:Env):Env:=ρ.map (Option.map (shA n))
def liR{α:Type}(f:α->α)(S:ag):R α->R α|.ok a X=>.ok (f a) (S++X)|.err e X=>.err e (S++X)|.stk=>.stk
def ShE(m:EM):Prop:=∀S ρ X,m (Wq S.length ρ) (S++X)=liR (shA S.length) S (m ρ X)
section
variable {ρ:Env}{n:Nat}{t:TM}{g:tK}
theorem UG{i:Nat}{x:A}:(Wq n ρ).set i (some (shA n x))=Wq n (ρ.set i (some x)):=by unfold Wq;rw[List.map_set];rfl
mutual
theorem Yf{n:Nat}:∀{g:Tg}{d:D}{ρ:Env},g.put (.v d) (Wq n ρ)=(g.put (.v d) ρ).map (Wq n)
 |.nm i,d,ρ=>by simp only[Tg.put,Option.map];exact congrArg some (UG (x:=.v d))|.tp ts,d,ρ=>by
  cases d with
  |tup ds=>exact Ih|lst ds=>exact Ih|_=>rfl
theorem Ih{n:Nat}:∀{ts:List Tg}{ds:List D}{ρ:Env},Tg.qP ts ds (Wq n ρ)=(Tg.qP ts ds ρ).map (Wq n)
 |[],[],ρ=>rfl|[],_::_,ρ=>rfl|_::_,[],ρ=>rfl|t::ts,d::ds,ρ=>by
  simp only[Tg.qP];rw[Yf];cases Tg.put t (.v d) ρ with
  |none=>rfl|some ρ1=>exact Ih
end
end
theorem ov{n:Nat}{o:Option A}(h:∀z,o=some z->∃d,z=.v d):o.map (shA n)=o:=by
 cases o with
 |none=>rfl|some z=>obtain⟨d,rfl⟩:=h z rfl;rfl
theorem all_cons{m:EM}{ms:List EM}(h:ShE m)(hs:∀m∈ms,ShE m):∀x∈m::ms,ShE x:=λx hx=>by rcases List.mem_cons.mp hx with rfl|hx;exact h;·exact hs x hx
section
variable {μ:List Addr}{H:Hp}
theorem Ext.Iz{μ0:List Addr}{H0:Hp}{t:List Addr}(e:Ext μ0 H0 (μ++t) H)(hp:∃t,μ=μ0++t):Ext μ0 H0 μ H:=
 ⟨hp,e.keep,λa h n=>e.new a (List.mem_append_left _ h) n,λa o h n b hb=>e.own a o h n b (List.mem_append_left _ hb),e.Mx,e.ZO⟩
end
def oAt(ks:List Nat)(i:Nat)(f:Str)(ρ:Env)(S:ag):Option (Nat×Nat×List (Str×D)×D):=match ρ[i]? with
 |some (some (.m n))=>match S[n]? with
  |some (.ins k fs)=>if k∈ks then(fs.lookup f).map λd=>(n,k,fs,d) else none
  |_=>none
 |_=>none
abbrev aeK:=D->List A->Option (D×D)
def Tb.w0(T:Tb):Tb:=T.wI (λ_ _=>True) (λ_ _=>trivial) (λ_ _=>trivial)
def aeL:D->Bool|.non=>true|.bl _=>true|.int _=>true|.str _=>true|_=>false
open Classical in
noncomputable def UH(h:Heap)(B:Int):Value->Int
 |.ref b=>if x:∃p:Int×List Int,PairAt h p.1 p.2 b then g8 B x.choose else 0
 |_=>0
open Classical in
theorem Nz{h:Heap}{B:Int}{b:Addr}{n:Int}{ms:List Int}(x:PairAt h n ms b):UH h B (.ref b)=g8 B (n,ms):=by have ex:∃p:Int×List Int,PairAt h p.1 p.2 b:=⟨(n,ms),x⟩;show(if x:∃p:Int×List Int,PairAt h p.1 p.2 b then g8 B x.choose else 0)=_;rw[dif_pos ex];obtain⟨e1,e2⟩:=ex.choose_spec.inj x;rw[show ex.choose=(n,ms) from Prod.ext e1 e2]
def Ii:e9:=λxs _=>match xs with
 |[.v (.lst ks)]=>if ks.all (LQ (tV ks))=true/\jy FQ (fc FQ ks)=true then some (.v (.lst (fc FQ ks))) else none
 |_=>none
section
variable {X:Cx}{T:Tb}
theorem UI{n:Nat}{k:D}(h:LQ n k=true):∃p,pairD k=some p/\p.2.length=n/\TS.Bd BB ((p.1::p.2).map (· + 1)):=by unfold LQ at h;split at h;rename_i p e;simp only[Bool.and_eq_true,decide_eq_true_eq]at h;refine⟨p,e,h.1,λm hm=>?_⟩;obtain⟨k,hk,rfl⟩:=List.mem_map.mp hm;have:=of_decide_eq_true (List.all_eq_true.mp h.2 k hk);omega;·cases h
theorem AX:∀{vs:List V}{us:List Value},Vals vs us->∀{i:Nat}{v:V},vs[i]?=some v->∃u,us[i]?=some u/\RelV v u
 |_,_,.nil,i,v,h=>by simp at h|_,_,.cons r t,i,v,h=>by
  cases i with
  |zero=>simp at h;subst h;exact⟨_,rfl,r⟩|succ i=>exact AX t (by simpa using h)
theorem Kb(hK:X.K=T.K)(hu:X.A.units+64<cLine):hW X T (.builtin "sorted") Ii:=by
 rintro pins s σ H vs us Q I rr ⟨μ,S,xs,z,hs,rs,hg,q⟩;unfold Ii at hg;split at hg
 ·rename_i ks;split at hg
  ·rename_i hl;cases hg;obtain⟨hfit,hst⟩:=hl;obtain⟨v,rfl,r1⟩:=gW rs;simp only[aH,Rep]at r1;obtain⟨a,ws,rfl,h1,h2⟩:=r1;obtain⟨its,rv,hl,hz⟩:=I.list (h1.sq (K:=X.K));obtain⟨u,rfl,ru⟩:=vals1 rr;obtain rfl:u=Value.ref a:=ru
   -- each item with its place
   have each:∀x∈ks.zip its,∃b n ms,x.2=Value.ref b/\pairD x.1=some (n,ms)/\PairAt s.heap n ms b/\ms.length=tV ks/\TS.Bd BB ((n::ms).map (· + 1))/\Rep T μ H x.1 (.ref b):=λx hx=>(by obtain⟨i,g1,g2⟩:=DG hx;obtain⟨w,g3,g4⟩:=h2.get g1;obtain⟨p,e,e2,e3⟩:=UI (List.all_eq_true.mp hfit x.1 (List.mem_of_getElem? g1));obtain⟨b,rfl,pa⟩:=BR (n:=p.1) (ms:=p.2) hK I e g4;obtain⟨u2,g5,g6⟩:=AX rv g3;rw[g2]at g5;cases g5;exact⟨b,p.1,p.2,g6,e,pa,e2,e3,g4⟩);have lk:ks.length=its.length:=(by rw[<-rv.length,h2.length]);obtain⟨zk,zi⟩:=EF lk;have mem:∀v∈its,∃x∈ks.zip its,x.2=v:=λv hv=>(by rw[<-zi]at hv;obtain⟨x,hx,e⟩:=List.mem_map.mp hv;exact⟨x,hx,e⟩);have okp:tJ s.heap (tV ks) BB its:=λv hv=>(by obtain⟨x,hx,rfl⟩:=mem v hv;obtain⟨b,n,ms,e1,_,e3,e4,e5,_⟩:=each x hx;exact⟨b,n,ms,e1,e3,e4,e5⟩);have refs:∀v∈its,∃b,v=Value.ref b:=λv hv=>(by obtain⟨b,_,_,e,_⟩:=okp v hv;exact⟨b,e⟩);refine SrtO.sorted_ord (ltv:=ltR (UH s.heap BB)) (JI _) hl.isList (by rw[<-rv.length];exact hz) (λh2' h₁ a' ha kk=>?_) λout hsrt hstb=>?_;·have kp:∀c o,s.heap.get? c=some o->o.cls=.type "tuple" -> h₁.get? c=some o:=λc o e _=>(kk c o e).2;refine pairs_sortable (s:={ s with heap:=h₁ }) (by show X.A.units+1+1+8<cLine;omega) (by omega) (okp.keep kp) (λo e=>?_) λb n ms hb p=>?_;have e':some o=some (seqObj "list" its.toArray 0):=e.symm.trans ha;cases e';intro c;exact absurd (Value.type.inj c) (by decide);·obtain⟨b',n',ms',e,pa,_⟩:=okp _ hb;cases e;obtain⟨rfl,rfl⟩:=p.inj (pa.keep kp);exact Nz pa
   ·have rks:∀x∈ks.zip its,UH s.heap BB x.2=FQ x.1:=λx hx=>by obtain⟨b,n,ms,e1,e2,e3,_⟩:=each x hx;rw[e1,Nz e3];unfold FQ;rw[e2]
    have e1:(fc (λx:D×Value=>FQ x.1) (ks.zip its)).map Prod.fst=fc FQ ks:=(by rw[y6 (rk':=FQ) (f:=Prod.fst) λ_ _=>rfl,zk]);generalize hR:fc (λx:D×Value=>FQ x.1) (ks.zip its)=R at e1;have pR:R.Perm (ks.zip its):=(by rw[<-hR];exact eB);rw[<-e1]at hst;rw[tU (rk:=λx:D×Value=>FQ x.1) λ_ _=>rfl]at hst;have pw:=rW hst;have eo:out=R.map Prod.snd:=(by refine jP (rk:=UH s.heap BB) ?_ ?_ ?_;refine hstb.perm.trans ?_;have:=(pR.symm.map Prod.snd);rw[zi]at this;exact this;refine hsrt.imp λ{x y} h=>?_;have:=of_decide_eq_false h;omega;·rw[List.pairwise_map];refine List.Pairwise.imp_of_mem (λ{x y} hx hy h=>?_) pw;rw[rks x (pR.mem_iff.mp hx),rks y (pR.mem_iff.mp hy)];exact h);have ho:∀u∈out,∃b,u=Value.ref b:=λu hu=>refs u (hstb.perm.mem_iff.mp hu);have hn:H (s.heap.objs.size+1)=none:=I.hok.fresh (Nat.le_succ _);obtain⟨n,hn2⟩:=sortedAll_at s.heap its out.toArray;rw[<-e1]at q;have rl:av T μ H (R.map Prod.fst) (out.map backV):=(by rw[eo,List.map_map];refine Ie (T:=T) (μ:=μ) (H:=H) (f:=Prod.fst) (g:=λx:D×Value=>backV x.2) (l:=R) λx hx=>?_;obtain⟨b,n,ms,e1,_,_,_,_,e6⟩:=each x (pR.mem_iff.mp hx);show Rep T μ H x.1 (backV x.2);rw[e1];exact e6);obtain⟨x1,x2,x3⟩:=rP hs rl hn;refine⟨.ref (s.heap.objs.size+1),upd H (s.heap.objs.size+1) (.lst (out.map backV)),I.laid (t':=s.toks) (λb o e=>sortedAll_old e) (Nat.le_succ _) ⟨?_,out,n,vals_back ho,hn2⟩,rfl,q _ _ _ x1 x2 x3⟩;rw[List.length_map,hstb.perm.length_eq,<-rv.length];exact hz
  ·cases hg
 ·cases hg
end
abbrev GL:=List (L2.Key×List D)
def UJ(k:Bool)(K:PySem.W.Frag)(H:Hp)(a:Addr)(xs:List V):Prop:=match k with
 |true=>SqT K H a xs|false=>SqL K H a xs
def Q0(k:Bool)(h:Heap)(a:Addr)(vs:Array Value):Prop:=match k with
 |true=>h.IsTuple a vs|false=>h.IsList a vs
def Yg(k:Bool)(h:Heap)(j a:Addr)(i:Nat):Prop:=match k with
 |true=>h.IsTupleIter j a i|false=>h.IsListIter j a i
def obB(k:Bool)(a:Addr):Obj:=match k with
 |true=>{ cls:=.type "tuple_iterator",data:=.fields #[.ref a,.int 0 0] }|false=>{ cls:=.type "list_iterator",data:=.fields #[.ref a,.int 0 0] }
theorem Q2{k:Bool}{h h':Heap}{j a:Addr}{i:Nat}(x:Yg k h j a i)(e:∀o,h.get? j=some o->h'.get? j=some o):Yg k h' j a i:=by
 cases k with
 |true=>exact Heap.IsTupleIter.at x e|false=>exact Heap.IsListIter.at x e
theorem Q3{k:Bool}{h:Heap}{j a:Addr}{i:Nat}(x:Yg k h j a i):∃o,h.get? j=some o/\∀v,o.data≠.cell v:=by
 cases k with
 |true=>obtain⟨o,e,_,d⟩:=x;exact⟨o,e,λv q=>by rw[d]at q;cases q⟩
 |false=>obtain⟨o,e,_,d⟩:=x;exact⟨o,e,λv q=>by rw[d]at q;cases q⟩
theorem UK{k:Bool}{h:Heap}{j a:Addr}(e:h.get? j=some (obB k a)):Yg k h j a 0:=by
 cases k with
 |true=>exact⟨_,e,rfl,rfl⟩|false=>exact⟨_,e,rfl,rfl⟩
theorem EH{k:Bool}{h:Heap}{j a:Addr}{i:Nat}{vs:Array Value}(x:Q0 k h a vs)(y:Yg k h j a i):a≠j:=by
 rintro rfl;cases k with
 |true =>obtain⟨o,e,c,_⟩:=x;obtain⟨o',e',c',_⟩:=y;rw[e]at e';cases e';rw[c]at c';exact absurd (Value.type.inj c') (by decide)
 |false =>obtain⟨o,e,c,_⟩:=x;obtain⟨o',e',c',_⟩:=y;rw[e]at e';cases e';rw[c]at c';exact absurd (Value.type.inj c') (by decide)
theorem Wr{P:Program}{w:World}{A:Around}(k:Bool)(hh:A.handled=none)(j a:Addr)(hne:a≠j)(vs:Array Value):Draws P w A j [j,a] vs.size (λi v=>vs[i]?=some v) (λi h=>Yg k h j a i/\Q0 k h a vs):=by
 cases k with
 |true=>exact Draws.tuple hh j a hne vs|false=>exact Draws.list hh j a hne vs
theorem Yh(k:Bool)(a:Addr)(vs:Array Value):Begins (.ref a) (obB k a) λh=>Q0 k h a vs:=by
 cases k with
 |true=>exact begins_tuple a vs|false=>exact begins_list a vs
theorem LX{X:Cx}{pins:List (Addr×Obj)}{σ:L2.St}{H:Hp}{s:Shared}{k:Bool}{a:Addr}{xs:List V}(I:Inv X pins σ H s)(h:UJ k X.K H a xs):∃its:List Value,Vals xs its/\Q0 k s.heap a its.toArray:=by
 cases k with
 |true=>obtain⟨its,r,p,_⟩:=I.tuple h;exact⟨its,r,p⟩
 |false=>obtain⟨its,r,p,_⟩:=I.list h;exact⟨its,r,p.isList⟩
theorem UL{X:Cx}{pins:List (Addr×Obj)}{σ:L2.St}{H:Hp}{s:Shared}{k:Bool}{a:Addr}{xs ys:List V}(I:Inv X pins σ H s)(h:UJ k X.K H a xs)(h':UJ k X.K H a ys):xs=ys:=by
 cases k with
 |true=>exact I.tuple_inj h h'|false=>exact I.list_inj h h'
def ItB(k:Bool)(K:PySem.W.Frag)(a:Addr):It:=
 ⟨λi H=>∃(xs:List V) (x:V),UJ k K H a xs/\xs[i]?=some x,
  λi H v H'=>∃t x,v=.ref t/\H t=none/\H'=upd H t (.tup [.int (i:Nat),x])/\∀xs,UJ k K H a xs->xs[i]?=some x,
  λi H=>∃xs:List V,UJ k K H a xs/\xs.length=i⟩
theorem abi{P:Program}{w:World}{K:PySem.W.Frag}{es:List Expr}{kk:Nat}{tpos:Pos}(k:Bool)(a e j:Addr) :Turn P w K (.Tuple es kk tpos) (ItB k K a) [e,j] e (λi h=>(∃old,IsEnum h e j ((i:Nat):Int) old)/\Yg k h j a i/\e≠j) where
 mem:=by simp
 obj:=λi h ⟨⟨old,he⟩,hj,_⟩ b hb=>by rcases(show b=e\/b=j by simpa using hb) with rfl|rfl;exact⟨_,he,λv q=>nomatch q⟩;·exact Q3 hj
 keep:=λi h h' ⟨⟨old,he⟩,hj,ne⟩ kp=>⟨⟨old,kp e (by simp) _ he⟩,Q2 hj λo q=>kp j (by simp) o q,ne⟩
 item:=by
  rintro X rfl rfl rfl hc i pins s σ H E I fp ⟨⟨old,he⟩,hj,ne⟩ ⟨xs,x,hq,hx⟩;obtain⟨its,rv,p⟩:=LX I hq;obtain⟨u,hu,ru⟩:=rv.get hx;have apt:=EH p hj;have hea:e≠a:=by
   rintro rfl;cases k with
   |true=>obtain⟨o,e1,c,_⟩:=p;rw[he]at e1;cases e1;exact absurd (Value.type.inj c) (by decide)
   |false=>obtain⟨o,e1,c,_⟩:=p;rw[he]at e1;cases e1;exact absurd (Value.type.inj c) (by decide)
  have lt_e:=Heap.lt_size he;obtain⟨oj,hoj,_⟩:=Q3 hj;have lt_j:=Heap.lt_size hoj;have hlt:i<its.toArray.size:=by have:=(List.getElem?_eq_some_iff.mp hu).1;simpa using this
  refine wpAny_pyNext_enum_itemD (Wr k (A:=X.A.in1) (I.ok.hd hc) j a apt its.toArray) he ⟨hj,p⟩ hlt ne (by simp[ne,hea]) λy h1 tk hy ho st ht hsz kp=>?_;have eu:y=u:=by have z:its.toArray[i]?=some y:=hy;rw[List.getElem?_toArray,hu]at z;exact(Option.some.inj z).symm
  subst eu;refine⟨_,rfl,wpAny_letOwnedTupleGo_enum (s:={ s with heap:=h1,toks:=tk+1 }) ho λh2 he2 sb=>?_⟩;have ht2:h2.get? s.heap.objs.size=some { cls:=.type "tuple",data:=.seq #[.int i tk,y] }:=(sb.2 _ (Nat.ne_of_gt lt_e)).trans ht;have F7:∀b o,b∉[e,j]->s.heap.get? b=some o->h2.get? b=some o:=λb o hb q=>by have n1:b≠e:=λz=>hb (by simp[z]);have n2:b≠j:=λz=>hb (by simp[z]);exact(sb.2 b n1).trans (kp b o n1 n2 q)
  have nw:ObjOk X.prog X.w (upd H s.heap.objs.size (.tup [.int (i:Nat),x])) h2 s.heap.objs.size (.tup [.int (i:Nat),x]):=⟨by show 2<=sizeLine;decide,[.int i tk,y],.cons ⟨_,rfl⟩ (.cons ru .nil),⟨_,ht2,rfl,_,rfl⟩⟩;refine⟨.ref s.heap.objs.size,_,I.turnedNew (ch:=[e,j]) (t':=tk+1) F7 fp (Nat.le_refl _) nw,rfl,⟨_,x,rfl,I.hok.fresh (Nat.le_refl _),rfl,λys hy=>by rw[UL I hy hq];exact hx⟩,⟨⟨y,?_⟩,Q2 st.1 λo q=>(sb.2 j (Ne.symm ne)).trans q,ne⟩,λb hb=>?_⟩
  ·have e1:((i+1:Nat):Int)=(i:Int)+1:=by omega
   rw[e1];exact he2
  ·have lb:b<s.heap.objs.size:=by rcases(show b=e\/b=j by simpa using hb) with rfl|rfl;exact lt_e;·exact lt_j
   rw[upd_ne (Nat.ne_of_lt lb)];exact(fp b hb).1
 done:=by
  rintro X rfl rfl rfl hc i pins s σ H E I fp ⟨⟨old,he⟩,hj,ne⟩ ⟨xs,hq,hx⟩;obtain⟨its,rv,p⟩:=LX I hq;obtain⟨f0,f1,f2,f3,f4,f5⟩:=fp j (by simp);have hn:i=its.toArray.size:=by rw[<-hx,rv.length];simp
  subst hn;exact wpAny_pyNext_enum_endD (Wr k (A:=X.A.in1) (I.ok.hd hc) j a (EH p hj) its.toArray) he ⟨hj,p⟩ λh1 eb=>⟨rfl,I.turned (t':=s.toks) (λb o hb q=>eb b o hb q) f0 f1 f3 f4 f5⟩
 self:=λA i s Q E ⟨⟨_,he⟩,_⟩ h=>wpAny_pyIter_enum he h
theorem Kc{v:Value}{o:Obj}{U:Heap->Prop}(B:Begins v o U) :Meets (Builtin.«enumerate.__new__» ⟨[.type "enumerate",v],[]⟩) (λ_ R s=>U s.heap /\
   R (.ok (.ret (.ref (s.heap.push o).objs.size))) { s with heap:=(s.heap.push o).push { cls:=.type "enumerate",data:=.fields #[.none,.bool false,.ref s.heap.objs.size,rawInt 0,.none,.none] } }):=
 .of_wp λP w A R s0 h0=>by
  obtain⟨hp,gs,dr,tk,os⟩:=s0;obtain⟨u1,u2⟩:=h0;have sub:=sub_enumerate;have goI:∀{A1:Around}{E1:Value->Shared->Prop}{Q1:Value->Shared->Prop},Q1 (.ref hp.objs.size) ⟨hp.push o,gs,dr,tk,os⟩->wpAny (model P w) A1 (pyIter v) Q1 E1 ⟨hp,gs,dr,tk,os⟩:=λq=>B.iter P w _ _ ⟨hp,gs,dr,tk,os⟩ _ u1 q
  wp_walk using goI
  refine wpAny_stack_any λ_=>wpAny_pure ?_;split;·rename_i c _ _ _ _ _;cases (c == Value.type "enumerate")<;>(wp_walk using goI;exact⟨_,rfl,u2⟩)
  ·wp_walk using goI
   exact⟨_,rfl,u2⟩
section
variable {X:Cx}{T:Tb}{W:XK}{a b:Expr}{ma:EM}{p pos tpos:Pos}{es:List Expr}{kk:Nat}
def adN(K:PySem.W.Frag)(ta:TA):TI:=λσ H R=>ta σ H λvs H1=>∃k q xs,vs=[.ref q]/\UJ k K H1 q xs/\R (ItB k K q) H1
theorem LY{A:Around}{P:Program}{w:World}{E:Value->Shared->Prop}{s:Shared}{k:Bool}{q:Addr}{vs:Array Value}{Q:Value->Shared->Prop}(hq:Q0 k s.heap q vs)
  (h:∀h',IsEnum h' (s.heap.objs.size+1) s.heap.objs.size 0 .none->h'.get? s.heap.objs.size=some (obB k q)->(∀b o,s.heap.get? b=some o->h'.get? b=some o)->Q (.ref (s.heap.objs.size+1)) { s with heap:=h' }) :
  wpAny (model P w) A (call (.type "enumerate") [.ref q]) Q E s:=by
 have B:=Yh k q vs;refine callType_new F.called_enumerate (by decide) (F.typeCall_enumerate_1 _) (F.newCall_enumerate_1 _) (λob=>F.args_object_init_2 ob _) F.entry_enumerate_new (Kc B) ⟨hq,?_⟩;have n1:(s.heap.push (obB k q)).objs.size=s.heap.objs.size+1:=Heap.size_push ..;have en:=Heap.get?_push_size (s.heap.push (obB k q)) (o:={ cls:=.type "enumerate",data:=.fields #[.none,.bool false,.ref s.heap.objs.size,rawInt 0,.none,.none] }) rfl;show _/\_;rw[n1]at en ⊢;exact⟨⟨_,en,rfl⟩,h _ en (Heap.get?_push_of_some _ (Heap.get?_push_size _ B.free)) λb o x=>Heap.get?_push_of_some _ (Heap.get?_push_of_some _ x)⟩
theorem Yi{e:Expr}{ta:TA}(hg:Gl X "enumerate")(hm:X.mg "enumerate" = none)(ha:PA X [e] ta)(hs:starEach [e] X.env=[(false,eval e X.env)]:=by rfl):PI X (.Tuple es kk tpos) (.Call (.Name "enumerate" p) [e] [] pos) (adN X.K ta):=by
 refine⟨λpins s σ H R I h=>Call_ (ld_blt I hg hm boot_enumerate (PyProof.Rows.callWith_type1 (thn (ha.run pos pins s σ H _ I h) λus s1 ⟨vs,H1,I1,r1,k,q,xs,ex,hq,q1⟩=>?_) hs rfl))⟩;subst ex;obtain⟨u,rfl,ru⟩:=vals1 r1;obtain rfl:u=Value.ref q:=ru;obtain⟨its,rv,pl⟩:=LX I1 hq;refine LY pl λh' he hit kp=>wpAny_pyIter_enum he ?_;have I2:Inv X pins σ H1 { s1 with heap:=h' }:=I1.kept (t':=s1.toks) kp;refine⟨s1.heap.objs.size+1,[s1.heap.objs.size+1,s1.heap.objs.size],_,_,H1,rfl,I2,abi k q (s1.heap.objs.size+1) s1.heap.objs.size,⟨⟨.none,he⟩,UK hit,Nat.succ_ne_self _⟩,λb hb=>?_,q1⟩;have hle:s1.heap.objs.size<=b:=by rcases(show b=s1.heap.objs.size+1\/b=s1.heap.objs.size by simpa using hb) with rfl|rfl;exact Nat.le_succ _;·exact Nat.le_refl _
 exact I1.fpOk hle (I1.hok.fresh hle)
theorem Yj{k:Bool}{K:PySem.W.Frag}{μ:List Addr}{H:Hp}{ds:List D}{vs:List V}{q:Addr}(hq:∀μ' H',Ext μ H μ' H'->UJ k K H' q vs)(rl:av T μ H ds vs):Yl T (ItB k K q) (jx 0 ds) μ H:=by refine⟨λμ' H' ex tr i d hi=>?_,λμ' H' ex=>⟨vs,hq _ _ ex,by rw[y5,rl.length]⟩⟩;obtain⟨x,e1,e2⟩:=ED hi;rw[Nat.zero_add]at e2;obtain⟨v,e3,r3⟩:=rl.get e1;refine⟨⟨vs,v,hq _ _ ex,e3⟩,λy H2 ⟨t,w,ey,ht,eH,hw⟩=>?_⟩;have ew:=hw vs (hq _ _ ex);rw[e3]at ew;cases ew;subst ey eH e2;exact AG (S:=[]) tr ht (by simp only[Rep]) (r3.mono ex)
def UM:A->Option (List D)|.v (.lst ds)=>some ds|.v (.tup ds)=>some ds|.v (.fz ds)=>some ds|_=>none
theorem UN{μ:List Addr}{H:Hp}{x:A}{v:V}{ds:List D}(e:UM x=some ds)(rx:aH T μ H x v):∃k q vs,v=.ref q/\av T μ H ds vs/\∀μ' H',Ext μ H μ' H'->UJ k T.K H' q vs:=by unfold UM at e;split at e;cases e;simp only[aH,Rep]at rx;obtain⟨q,vs,rfl,hh,rl⟩:=rx;exact⟨false,q,vs,rfl,rl,λμ' H' ex=>(hh.mono ex).sq⟩;cases e;simp only[aH,Rep]at rx;obtain⟨q,vs,rfl,hh,rl⟩:=rx;exact⟨true,q,vs,rfl,rl,λμ' H' ex=>(DY.mono ex hh).sq⟩;cases e;simp only[aH,Rep]at rx;obtain⟨q,vs,rfl,hh,rl⟩:=rx;exact⟨false,q,vs,rfl,rl,λμ' H' ex=>(Cy.mono ex hh).sq⟩;·cases e
def ib(ma:EM):IM:=λρ S=>(ma ρ S).bind λx S1=>match UM x with
 |some ds=>.ok (jx 0 ds) S1|none=>.stk
theorem vc(hK:X.K=T.K)(hg:Gl X "enumerate")(hm:X.mg "enumerate" = none)(ha:ME X T W a ma)(hs:starEach [a] X.env=[(false,eval a X.env)]:=by rfl) :MI X T W (.Tuple es kk tpos) (.Call (.Name "enumerate" p) [a] [] pos) (ib ma):=Em (Yi hg hm (pa_cons ha pa_nil hs) hs) λσ H Q ⟨μ,ρ,S,he,hst,h⟩=>by
 refine bL he hst h λv H1 μ1 S1 x ex he1 hs1 rx h1=>?_;cases e:UM x with
 |none=>rw[e]at h1;exact h1.elim|some ds =>rw[e]at h1;obtain⟨k,q,vs,rfl,rl,hq⟩:=UN e rx;exact⟨k,q,vs,rfl,hK▸hq _ _ Ext.refl,h1 μ1 H1 _ Ext.refl hs1 (Yj (λμ' H' ex'=>hK▸hq _ _ ex') rl)⟩
end
theorem Sw.refl{μ:List Addr}{H:Hp}:Sw μ H H:=⟨λ_ _ h _ _=>h,λ_ _ h=>h,λ_ _=>rfl,λ_ _ _ _=>rfl⟩
inductive Caps (X:Cx):List Pattern->List Str->List Nat->Prop
 |nil:Caps X [] [] []|cons {n:Str}{pos:Pos}{ps:List Pattern}{ns:List Str}{i:Nat}{js:List Nat}:X.N[i]?=some n->Loc X.env.scope n->(X.fn n=true\/X.env.scope.names.lookup n=some .local)->Caps X ps ns js->Caps X (.MatchAs none (some n) pos::ps) (n::ns) (i::js)
section
variable {X:Cx}{pins:List (Addr×Obj)}{H:Hp}
structure PMC (X:Cx) (cases:List MatchCase) (t:V->TS):Prop where
 run:∀(pins:List (Addr×Obj)) (s:Shared) (σ:L2.St) (H:Hp) (D:Ends) (v:V) (u:Value) (first:Bool),Inv X pins σ H s->RelV v u->t v D σ H->wpAny (model X.prog X.w) X.A (matchCases cases X.env u first) (SP X pins D) X.xe s
end
abbrev MC:=A->SM
section
open L2H (RoomH PinOk cxH inv_startH roomH_of)
structure FnQ (P:Program) (w:World) (K:PySem.W.Frag) (mg:Str->Option Value) (base:Heap) (CX:CXT) (k:Nat) (f:Addr) (fd:FuncData) (ps:List Str) (sp:Sp):Prop where
 len:∀vs H Q E,sp vs H Q E->vs.length=ps.length
 run:∀(A:Around) (outer:List PySem.Env) (s:Shared) (H:Hp) (args:Args) (us:List Value) (vs:List V) (Q:VK) (E:XK) (p:Addr×Obj),RoomH k A->PinOk outer H s p->Env0 P w K mg base A outer s H->BindsTo s fd args (ps.zip us)->Vals vs us->sp vs H Q E ->
  codeAny (model P w) A (.call (.ref f) args) (CR CX outer P w H s Q E) s
end
structure afo (P:Program) (K:PySem.W.Frag) (mg:Str->Option Value) (C:Addr) (B nI iI:String) (tl:List Value) (ps:List Str) (fl:List (Str×kO)):Prop where
 bf:PySem.HandSPX.Wo B nI iI tl
 o:aa9 K C nI tl
 ex:∃fI fd,PySem.W.findIn K (.ref C) "__init__" = some (some (.ref fI))/\PySem.W.typeIn K (.ref fI)=some (.type "function")/\Binds K fd ps []/\∀(w:World) (base:Heap) (b:Bool),FnOk P w K mg base (Au b P w) 1 fI fd ps (XT C (ps.length-1) fl)
def F0:List D->Option (List (L2.Key×D))
 |[]=>some []|.tup [k,x]::r=>match FY k,F0 r with
  |some kk,some l=>some ((kk,x)::l)|_,_=>none
 |_::_=>none
def Q4(acc kvs:List (L2.Key×D)):List (L2.Key×D):=kvs.foldl (λa kv=>Dj a kv.1 kv.2) acc
def Yk(x:A)(S:ag):Option (List (L2.Key×D)):=match jO x S with
 |some kvs=>some kvs|none=>match GD x S with
  |some ds=>(F0 ds).map (Q4 [])|none=>none
def Ab:e9:=λxs S=>match xs with
 |[y]=>(Yk y S).map λkvs=>.v (.gX (kvs.map Prod.fst) (kvs.map Prod.snd))|_=>none
section
variable {T:Tb}{μ:List Addr}{H:Hp}{X:Cx}{pins:List (Addr×Obj)}{σ:L2.St}{s:Shared}{S:ag}
theorem NA:∀{more acc:List (L2.Key×D)}{us vs:List V},av T μ H (acc.map Prod.snd) vs->av T μ H (more.map Prod.snd) us ->
  ∃ws,mergeK ((acc.map Prod.fst).zip vs) ((more.map Prod.fst).zip us)=((Q4 acc more).map Prod.fst).zip ws/\av T μ H ((Q4 acc more).map Prod.snd) ws
 |[],acc,us,vs,ra,_=>⟨vs,rfl,ra⟩|(k,d)::more,acc,us,vs,ra,rm=>by simp only[List.map_cons,av]at rm;obtain⟨y,us',rfl,ry,rm⟩:=rm;obtain⟨ws,e1,r1⟩:=Nt (k:=k) ry ra;obtain⟨zs,e2,r2⟩:=NA r1 rm;refine⟨zs,?_,r2⟩;show mergeK (putK ((acc.map Prod.fst).zip vs) k y) ((more.map Prod.fst).zip us')=_;rw[e1];exact e2
theorem NB:∀{ds:List D}{vs:List V}{kvs:List (L2.Key×D)},F0 ds=some kvs->av T μ H ds vs ->
  ∃(ps:List Addr) (us:List V),vs=ps.map V.ref/\Paired (λp kv=>SqT T.K H p [kV kv.1,kv.2]) ps ((kvs.map Prod.fst).zip us)/\av T μ H (kvs.map Prod.snd) us
 |[],vs,kvs,h,r=>by cases h;simp only[av]at r;subst r;exact⟨[],[],rfl,.nil,by simp only[List.map_nil,av]⟩|d::ds,vs,kvs,h,r=>by
  unfold F0 at h;split at h;·rename_i e;cases e
  ·rename_i k x r0 e;cases e;split at h;rename_i kk l hk hl;cases h;simp only[av,Rep]at r;obtain⟨v,ws,rfl,⟨a,vs2,rfl,ht,kv,vs3,rfl,rk,xv,vs4,rfl,rx,rfl⟩,rr⟩:=r;obtain⟨ps,us,rfl,hp,ru⟩:=NB hl rr;have ek:=u9 hk rk;subst ek;exact⟨a::ps,xv::us,rfl,.cons ht.sq hp,by simp only[List.map_cons,av];exact⟨xv,us,rfl,rx,ru⟩⟩;·cases h
  ·cases h
theorem Kd(hcalm:X.calm=true)(hK:X.K=T.K):hW X T (.type "dict") Ab:=by
 rintro pins s σ H vs us Q I rr ⟨μ,S,xs,z,hs,rs,hg,k⟩;unfold Ab at hg;split at hg
 ·rename_i y;obtain⟨v,rfl,r1⟩:=gW rs;obtain⟨kvs,q,rfl⟩:=Option.map_eq_some_iff.mp hg;unfold Yk at q;have fin:∀(p:Addr) (ws:List V) (hp:H p=none),av T μ H (kvs.map Prod.snd) ws->Q (.ref p) (upd H p (.dK ((kvs.map Prod.fst).zip ws))):=λp ws hp rl=>by have sm:Same H (upd H p (.dK ((kvs.map Prod.fst).zip ws))):=fD hp;refine k μ _ _ (hs.ext sm) (hs.grow sm) ?_;simp only[aH,Rep];exact⟨p,ws,rfl,⟨hs.yU hp,.inl upd_same⟩,rl.mono (hs.ext sm)⟩
  split at q;·rename_i kv2 q2;cases q;obtain⟨p,vs,rfl,hd,rl⟩:=rC q2 hs r1;obtain⟨u,rfl,ru⟩:=vals1 rr;cases ru;refine d_copyOf I hd λp' s' hp' I'=>?_;exact⟨.ref p',_,I',rfl,fin p' vs hp' rl⟩
  ·split at q;rename_i ds q3;obtain⟨l,hl,rfl⟩:=Option.map_eq_some_iff.mp q;obtain⟨p,vs,rfl,hq,rl⟩:=xK hs r1 q3;obtain⟨ps,us2,rfl,hp,ru⟩:=NB hl rl;obtain⟨ws,e1,r2⟩:=NA (acc:=[]) (more:=l) (vs:=[]) (by simp only[List.map_nil,av]) ru;refine call_dictP hcalm pins s σ H _ us Q I rr ⟨p,ps,(l.map Prod.fst).zip us2,rfl,hK▸hq,hK▸hp,λp' hp'=>?_⟩;have:=fin p' ws hp' r2;rw[<-e1]at this;exact this;·cases q
 ·cases hg
end
def LZ:L2.Key->D|.inl i=>.int i|.inr x=>.str x
def Ij:e9:=λxs S=>match xs with
 |[y]=>(jO y S).map λkvs=>.v (.lst (kvs.map λkv=>LZ kv.1))|_=>none
theorem Ke{T:Tb}{μ:List Addr}{H:Hp}:∀{kvs:List (L2.Key×D)}{vs:List V},vs.length=kvs.length->av T μ H (kvs.map λkv=>LZ kv.1) (((kvs.map Prod.fst).zip vs).map λkv=>kV kv.1)|[],vs,h=>by simp only[List.map_nil,List.zip_nil_left,av]|(k,d)::kvs,[],h=>by cases h|(k,d)::kvs,v::vs,h=>by have ih:=Ke (T:=T) (μ:=μ) (H:=H) (kvs:=kvs) (vs:=vs) (Nat.succ.inj h);simp only[List.map_cons,List.zip_cons_cons,av];refine⟨_,_,rfl,?_,ih⟩;cases k<;>simp only[LZ,Rep]<;>rfl
section
variable {X:Cx}{T:Tb}{W:XK}{a b c:Expr}{r:AM}{pos:Pos}
theorem Kf(hcalm:X.calm=true):hW X T (.type "list") Ij:=by
 rintro pins s σ H vs us Q I rr ⟨μ,S,xs,z,hs,rs,hg,k⟩;unfold Ij at hg;split at hg
 ·rename_i y;obtain⟨v,rfl,r1⟩:=gW rs;obtain⟨kvs,q,rfl⟩:=Option.map_eq_some_iff.mp hg;obtain⟨p,vs,rfl,hd,rl⟩:=rC q hs r1;refine call_listD hcalm pins s σ H _ us Q I rr ⟨p,_,rfl,hd,λp' hp'=>?_⟩;have hl:vs.length=kvs.length:=by rw[rl.length,List.length_map]
  have sm:Same H (upd H p' (.lst (((kvs.map Prod.fst).zip vs).map λkv=>kV kv.1))):=fD hp';refine k μ _ _ (hs.ext sm) (hs.grow sm) ?_;simp only[aH,Rep];exact⟨p',_,rfl,⟨hs.yU hp',upd_same⟩,Ke hl⟩
 ·cases hg
theorem EI(i j l:Nat){x y z:Str}{px py pz pt:Pos}{kt k2:Nat}{pt2:Pos}(hc:X.calm=true)(hK:X.K=T.K)(hN:X.N.Nodup)(ha:MA X T W [a,b,c] r)
  (hi:X.N[i]?=some x:=by rfl) (hj:X.N[j]?=some y:=by rfl) (hl:X.N[l]?=some z:=by rfl) (hx:Loc X.env.scope x:=by first|exact Or.inl rfl|exact Or.inr rfl) (hy:Loc X.env.scope y:=by first|exact Or.inl rfl|exact Or.inr rfl) (hz:Loc X.env.scope z:=by first|exact Or.inl rfl|exact Or.inr rfl)
  (hf:X.fn x=true\/X.env.scope.names.lookup x=some .local:=by first|exact .inl rfl|exact .inr rfl|assumption) (hf2:X.fn y=true\/X.env.scope.names.lookup y=some .local:=by first|exact .inl rfl|exact .inr rfl|assumption) (hf3:X.fn z=true\/X.env.scope.names.lookup z=some .local:=by first|exact .inl rfl|exact .inr rfl|assumption)
  (hn:(assignEach [.Name x px,.Name y py,.Name z pz] X.env).length=3:=by rfl) (hst:(assignEach [.Name x px,.Name y py,.Name z pz] X.env).findIdx? (·.1)=none:=by rfl)
  (h1:(assignEach [.Name x px,.Name y py,.Name z pz] X.env).map (·.2)=assign (.Name x px) X.env::(assignEach [.Name y py,.Name z pz] X.env).map (·.2):=by rfl) (h2:(assignEach [.Name y py,.Name z pz] X.env).map (·.2)=assign (.Name y py) X.env::(assignEach [.Name z pz] X.env).map (·.2):=by rfl) (h3:(assignEach [.Name z pz] X.env).map (·.2)=assign (.Name z pz) X.env::(assignEach [] X.env).map (·.2):=by rfl)
  (hs:swapsWithSole [.Tuple [.Name x px,.Name y py,.Name z pz] kt pt] (.Tuple [a,b,c] k2 pt2) pos.line X.env=pure false:=by rfl) (hw:swappedStores [.Tuple [.Name x px,.Name y py,.Name z pz] kt pt] (.Tuple [a,b,c] k2 pt2) X.env=pure none:=by rfl)
  (hq:(assignEach [.Tuple [.Name x px,.Name y py,.Name z pz] kt pt] X.env).map (·.2)=[assign (.Tuple [.Name x px,.Name y py,.Name z pz] kt pt) X.env]:=by rfl) :
  MS X T W (.Assign [.Tuple [.Name x px,.Name y py,.Name z pz] kt pt] (.Tuple [a,b,c] k2 pt2) pos) (xO i j l r):=
 mN (ps_asg (pe_tup ha) (pg_tup hc (pgs_cons (pg_name hN hi hx hf) (pgs_cons (pg_name hN hj hy hf2) (pgs_cons (pg_name hN hl hz hf3) pgs_nil h3) h2) h1) hn hst) hs hw hq) λD σ H ⟨μ,ρ,S,he,hs,h⟩=>by
  unfold xO at h;refine⟨μ,ρ,S,he,hs,?_⟩;cases q:r ρ S with
  |stk=>rw[q]at h;exact h.elim|err e S1=>rw[q]at h;exact h|ok xs S1=>
   rw[q]at h
   match xs,h with
   |[],h=>exact h.elim|[_],h=>exact h.elim|[_,_],h=>exact h.elim|_::_::_::_::_,h=>exact h.elim|[x1,y1,z1],h =>intro μ1 H1 vs ex hs1 rs;obtain⟨v,w,u,rfl,r1,r2,r3⟩:=abg rs;refine⟨by simp[sizeLine_eq],λp hp=>?_⟩;have sm:Same H1 (upd H1 p (.tup [v,w,u])):=fD hp;have ex2:Ext μ1 H1 μ1 (upd H1 p (.tup [v,w,u])):=hs1.ext sm;exact⟨p,[v,w,u],rfl,.inl (.inl upd_same),rfl,v,[w,u],rfl,w,[u],rfl,u,[],rfl,rfl,h μ1 _ _ (ex.trans ex2) (hs1.grow sm) (((((he.mono ex).mono ex2).set (r1.mono ex2)).set (r2.mono ex2)).set (r3.mono ex2))⟩
end
def EJ:List D->Option (List (D×D))
 |[]=>some []|.tup [k,x]::r=>match Ay (.v k),EJ r with
  |some _,some l=>some ((k,x)::l)|_,_=>none
 |_::_=>none
def AY(a:List D×List D)(kv:D×D):List D×List D:=match Ay (.v kv.1) with
 |some k=>l5 a.1 a.2 kv.1 kv.2 k|none=>a
def EK(acc:List D×List D)(kvs:List (D×D)):List D×List D:=kvs.foldl AY acc
def adO(y:A)(S:ag):Option (List (D×D)):=(GD y S).bind EJ
def Ik:e9:=λxs S=>match xs with
 |[y]=>(adO y S).map λl=>.v (.yD (EK ([],[]) l).1 (EK ([],[]) l).2)|_=>none
structure Kg (T:Tb) (μ:List Addr) (H:Hp) (ks xs:List D) (es:NE):Prop where
 ky:av T μ H ks (es.map λe=>V.ref e.2.1)
 kk:ks.map gN=es.map λe=>some e.1
 vl:av T μ H xs (es.map λe=>e.2.2)
 dp:∀e∈es,e.1.depth<=8
section
variable {X:Cx}{T:Tb}{pins:List (Addr×Obj)}{σ:L2.St}{H:Hp}{s:Shared}{μ:List Addr}
theorem Kg.put{x:Addr}{ks xs:List D}{es:NE}{kd d:D}{k:NK}{v:V}(R:Kg T μ H ks xs es)(hk:gN kd=some k)(rk:Rep T μ H kd (.ref x))(rv:Rep T μ H d v)(dk:k.depth<=8):Kg T μ H (l5 ks xs kd d k).1 (l5 ks xs kd d k).2 (cS es k x v):=by
 have z:=AU (k:=k) R.kk R.vl;have pk:=EE (es:=es) (k:=k) (x:=x) (v:=v);have e1:(cS es k x v).map (λe=>V.ref e.2.1)=((cS es k x v).map λe=>(e.1,e.2.1)).map λq=>V.ref q.2:=by rw[List.map_map];rfl
 have e2:(cS es k x v).map (λe=>some e.1)=((cS es k x v).map λe=>(e.1,e.2.1)).map λq=>some q.1:=by rw[List.map_map];rfl
 have e3:∀q∈(cS es k x v).map λe=>(e.1,e.2.1),q.1.depth<=8:=by
  rw[pk];intro q hq;split at hq;·obtain⟨e,he,rfl⟩:=List.mem_map.mp hq;exact R.dp e he
  ·rcases List.mem_append.mp hq with hq|hq;obtain⟨e,he,rfl⟩:=List.mem_map.mp hq;exact R.dp e he;·rw[List.mem_singleton.mp hq];exact dk
 have e4:∀e∈cS es k x v,e.1.depth<=8:=λe he=>e3 _ (List.mem_map.mpr ⟨e,he,rfl⟩);refine⟨?_,?_,?_,e4⟩
 all_goals unfold l5
 all_goals cases q1:lT ks xs k with
  |some d0=>
   cases q2:ur es k with
   |none=>rw[q1,q2]at z;exact z.elim|some p0=>
    rw[q2]at pk;simp only[Option.isSome_some,if_true]at pk ⊢
    first
     |(rw[e1,pk,List.map_map];exact R.ky)|(rw[e2,pk,List.map_map];exact R.kk)|(unfold cS;rw[q2];simp only[Option.isSome_some,if_true];exact LP rv R.kk R.vl)
  |none=>
   cases q2:ur es k with
   |some p0=>rw[q1,q2]at z;exact z.elim|none=>
    rw[q2]at pk;simp only[Option.isSome_none,Bool.false_eq_true,if_false]at pk ⊢
    first
     |(rw[e1,pk,List.map_append,List.map_map];exact R.ky.app (av.one rk))|(rw[e2,pk,List.map_append,List.map_append,List.map_map,R.kk];simp[hk])|(unfold cS;rw[q2];simp only[Option.isSome_none,Bool.false_eq_true,if_false];rw[List.map_append];exact R.vl.app (av.one rv))
theorem Kh(hK:X.K=T.K):∀{ds:List D}{vs:List V}{l:List (D×D)},EJ ds=some l->av T μ H ds vs->∃(ts:List Addr) (es:NE),vs=ts.map V.ref/\Hq T μ H l ts es
 |[],vs,l,h,r=>by cases h;simp only[av]at r;subst r;exact⟨[],[],rfl,.nil⟩|d::ds,vs,l,h,r=>by
  unfold EJ at h;split at h;·rename_i e;cases e
  ·rename_i k x r0 e;cases e;split at h;rename_i kk l' hk hl;cases h;simp only[av,Rep]at r;obtain⟨v,ws,rfl,⟨a,vs2,rfl,ht,kv,vs3,rfl,rk,xv,vs4,rfl,rx,rfl⟩,rr⟩:=r;obtain⟨ts,es,rfl,hp⟩:=Kh hK hl rr;obtain⟨ds',b,e1,e2,rfl,dk,r0,_⟩:=AV (X:=X) (T:=T) (μ:=μ) (H:=H) hK hk (show aH T μ H (.v k) kv from rk);cases e1;exact⟨a::ts,(kk,b,xv)::es,rfl,.cons ⟨ht.sq,hk,e2,dk,r0,rx⟩ hp⟩;·cases h
  ·cases h
def F1(acc es:NE):NE:=es.foldl (λa e=>cS a e.1 e.2.1 e.2.2) acc
theorem Ki:∀(es acc:NE),(F1 acc es).length<=acc.length+es.length|[],acc=>by simp[F1]|e::es,acc=>by have h1:=Ki es (cS acc e.1 e.2.1 e.2.2);have h2:=Gj acc e.1 e.2.1 e.2.2;show(F1 (cS acc e.1 e.2.1 e.2.2) es).length<=_;rw[List.length_cons];omega
theorem Q5{l:List (D×D)}{ts:List Addr}{es:NE}(h:Hq T μ H l ts es):∀{a:List D×List D}{acc:NE},Kg T μ H a.1 a.2 acc->Kg T μ H (EK a l).1 (EK a l).2 (F1 acc es):=by
 induction h with
 |nil=>exactλh=>h|@cons kv t e l ts es p _ ih=>
  intro a acc R;have e1:EK a (kv::l)=EK (l5 a.1 a.2 kv.1 kv.2 e.1) l:=by show EK (AY a kv) l=_;unfold AY;rw[p.nk]
  rw[e1];exact ih (R.put p.kn p.rk p.rv p.dp)
theorem L0(hK:X.K=T.K)(I:Inv X pins σ H s){l:List (D×D)}{ts:List Addr}{es:NE}(h:Hq T μ H l ts es):∃xs:List (NK×Addr×Value),Paired gz es xs/\(∀x∈xs,(nestedKind X.prog X.w).is s.heap x.1 x.2.1) /\
  ∀(j:Nat) (x:NK×Addr×Value),xs[j]?=some x->∃t,ts[j]?=some t/\PySem.PairAt s.heap t (Value.ref x.2.1) x.2.2:=by
 induction h with
 |nil=>exact⟨[],.nil,λx h=>(nomatch h),λj x e=>by simp at e⟩|@cons kv t e l ts es p _ ih=>
  obtain⟨xs,pe,ks,ht⟩:=ih;obtain⟨its,rv,tp,_⟩:=I.tuple (hK▸p.sq);obtain⟨u,y,ei,ru,ry⟩:=vals2 rv;subst ei;obtain rfl:u=Value.ref e.2.1:=ru;refine⟨(e.1,e.2.1,y)::xs,.cons ⟨rfl,rfl,ry⟩ pe,λx hx=>?_,λj x ex=>?_⟩;·rcases List.mem_cons.mp hx with rfl|hx;exact⟨yW hK I p.kn p.rk rfl,p.dp⟩;·exact ks x hx
  ·cases j with
   |zero =>have ex:(e.1,e.2.1,y)=x:=(by simpa using ex);subst ex;obtain⟨o,ho,hc,n,hd⟩:=tp;exact⟨t,rfl,.inl ⟨o,ho,hc,n,hd⟩⟩
   |succ j=>exact ht j x (by simpa using ex)
theorem AZ:∀{es:NE}{xs:List (NK×Addr×Value)}{acc:NE}{axs:List (NK×Addr×Value)},Paired gz es xs->Paired gz acc axs->Paired gz (F1 acc es) (storedAllH axs xs)|_,_,acc,axs,.nil,ha=>ha|_,_,acc,axs,.cons (a:=e) (b:=x) h t,ha=>by obtain⟨h1,h2,h3⟩:=h;obtain⟨k,b,v⟩:=e;obtain⟨k',b',u⟩:=x;cases h1;cases h2;show Paired gz (F1 (cS acc k b v) _) (storedAllH (storedH axs k b u) _);exact AZ t (gz.put h3 ha)
end
section
variable {X:Cx}{T:Tb}{W:XK}
theorem Ac{α β:Type}{F:α->β->Prop}:∀{as:List α}{bs:List β},Paired F as bs->as.length=bs.length|_,_,.nil=>rfl|_,_,.cons _ t=>by rw[List.length_cons,List.length_cons,Ac t]
theorem L4(hcalm:X.calm=true)(hK:X.K=T.K)(hu:X.A.units+64<cLine){pins:List (Addr×Obj)}{s:Shared}{σ:L2.St}{H:Hp}{μ:List Addr}{p:Addr}{Q:V->Hp->Prop}{l:List (D×D)}{ts:List Addr}{es:NE}(I:Inv X pins σ H s)(hq:SqL T.K H p (ts.map V.ref))(hp:Hq T μ H l ts es)
  (q:∀p',H p'=none->Q (.ref p') (upd H p' (jH X.w p' (F1 [] es)))) :
  wpAny (model X.prog X.w) X.A (call (.type "dict") [.ref p]) (EP X pins σ Q) X.xe s:=by
 obtain⟨its,rv,pl,hz⟩:=I.list (hK▸hq);have ei:=refs_at rv;subst ei;rw[List.length_map]at hz;obtain⟨xs,pe,ks,ht⟩:=L0 hK I hp;have lx:xs.length=ts.length:=by rw[hp.len,Ac pe]
 obtain⟨o,n,ho,hc,hd,hdat⟩:=pl;have P:=PairArg.list (prog:=X.prog) (w:=X.w) p (ts.map Value.ref).toArray (λj=>ts.getD j 0) (xs.map λx=>(Value.ref x.2.1,x.2.2));have hlen:(xs.map λx=>(Value.ref x.2.1,x.2.2)).length=xs.length:=List.length_map ..;refine call_dict_pairsH (knd:=nestedKind X.prog X.w) (ps:=xs) P (I.ok.hd hcalm) (by show X.A.units+1+1+8<cLine;omega) ⟨⟨o,n,ho,hc,hd,hdat⟩,by simp[lx],λj k v e=>?_⟩ ⟨by rw[hlen],λi key v e=>?_⟩ (λh' hk x hx=>?_) (by rw[hlen,lx];exact hz) λh' tk hd' hk=>?_
 ·rw[List.getElem?_map]at e;obtain⟨x,ex,e2⟩:=Option.map_eq_some_iff.mp e;cases e2;obtain⟨t,et,pa⟩:=ht j x ex;have eg:ts.getD j 0=t:=by rw[List.getD_eq_getElem?_getD,et];rfl
  exact⟨by simp[et,eg],by show PySem.PairAt s.heap (ts.getD j 0) _ _;rw[eg];exact pa⟩
 have e:(xs.map λx=>(Value.ref x.2.1,x.2.2))[i]?=some (key,v):=e;rw[List.getElem?_map]at e;obtain⟨x,ex,e2⟩:=Option.map_eq_some_iff.mp e;cases e2;exact⟨x.1,x.2.1,ex,rfl⟩;·exact nestedKind_stays.stays (λb ob vs m e _=>hk b ob (Nat.ne_of_lt (Heap.lt_size e)) (by simp) e) (ks x hx)
 ·have hm:(s.heap.objs.size == sysModules)=false:=beq_eq_false_iff_ne.mpr (Nat.ne_of_gt I.big);have pe2:=AZ pe (acc:=[]) (axs:=[]) .nil;have few:(F1 [] es).length<=sizeLine:=by have:=Ki es [];rw[List.length_nil,Nat.zero_add,<-hp.len]at this;omega
  exact⟨.ref s.heap.objs.size,_,I.laid (t':=tk) (λb ob e=>hk b ob (by simp) e) (Nat.le_refl _) (Hx (wX.made hd' pe2 few hm)),rfl,q _ (I.hok.fresh (Nat.le_refl _))⟩
theorem Il(hcalm:X.calm=true)(hK:X.K=T.K)(hw:X.w=T.w)(hu:X.A.units+64<cLine):hW X T (.type "dict") Ik:=by rintro pins s σ H vs us Q I rr ⟨μ,S,xs,z,hs,rs,hg,k⟩;unfold Ik at hg;split at hg;rename_i y;obtain⟨v,rfl,r1⟩:=gW rs;obtain⟨l,q,rfl⟩:=Option.map_eq_some_iff.mp hg;obtain⟨ds,q1,q2⟩:=Option.bind_eq_some_iff.mp q;obtain⟨p,vs,rfl,hq,rl⟩:=xK hs r1 q1;obtain⟨ts,es,rfl,hp⟩:=Kh hK q2 rl;obtain⟨u,rfl,ru⟩:=vals1 rr;cases ru;refine L4 hcalm hK hu I hq hp λp' hp'=>?_;have pre:=Q5 hp (a:=([],[])) (acc:=[]) ⟨by simp only[List.map_nil,av],rfl,by simp only[List.map_nil,av],λe h=>(nomatch h)⟩;have sm:Same H (upd H p' (jH X.w p' (F1 [] es))):=fD hp';have ex:=hs.ext sm;refine k μ _ _ ex (hs.grow sm) ?_;simp only[aH,Rep];exact⟨p',_,_,_,rfl,⟨hs.yU hp',upd_same,F1 [] es,by rw[hw],rfl,rfl,pre.kk,pre.dp⟩,pre.ky.mono ex,pre.vl.mono ex⟩;·cases hg
theorem kdl_raw{prog:Program}{w:World}{d:Addr}{es:Array DictEntry}{ep:Nat}(lo:(d == sysModules)=false):PySem.W.KdlSrc prog w "dict" d d es.size (λi v=>∃hi:i<es.size,v=es[i].key) (λh=>h.DictRaw d es ep) where
 type:=λ_ hm=>hm.typeIs
 there:=λ_ hm=>let ⟨_,ho,_⟩:=hm;⟨Heap.lt_size ho,Heap.lt_size ho⟩
 keep:=λ_ _ hm hk=>hm.at λo e=>hk d (.inl rfl) o e
 notList:=by decide
 notTuple:=by decide
 hint:=λ_ _ _ _ hm hq=>PySem.W.kdl_hint_dict hm.typeIs hq
 iter:=λ_ _ hh hm=>⟨_,_,(λ_ _ hq=>wpAny_pyIter_dict_raw lo hm hq),Walks.rawKeys hh _ d (let ⟨_,ho,_⟩:=hm;Nat.ne_of_lt (Heap.lt_size ho)) es ep,⟨⟨_,Heap.get?_push_size _ rfl,rfl,rfl⟩,hm.at λo e=>Heap.get?_push_of_some _ e⟩⟩
theorem vals_refs:∀bs:List Addr,Vals (bs.map V.ref) (bs.map Value.ref)|[]=>.nil|b::bs=>.cons rfl (vals_refs bs)
def L5:e9:=λxs S=>match xs with
 |[y]=>(AS y S).map λp=>.v (.lst p.1)|_=>none
theorem Kj(hcalm:X.calm=true)(hK:X.K=T.K)(hw:X.w=T.w):hW X T (.type "list") L5:=by
 rintro pins s σ H vs us Q I rr ⟨μ,S,xs,z,hs,rs,hg,k⟩;unfold L5 at hg;split at hg
 ·rename_i y;obtain⟨v,rfl,r1⟩:=gW rs;obtain⟨⟨ks,ds⟩,q,rfl⟩:=Option.map_eq_some_iff.mp hg;obtain⟨a,es,rfl,R⟩:=xM q hs r1;obtain⟨u,rfl,ru⟩:=vals1 rr;cases ru;obtain⟨⟨od,rows,ep,xs,ho,hx,hd,hr,nd,pe⟩,few,big⟩:=vW I (hw▸R.ob);have lr:rows.size=xs.length:=by have:=congrArg List.length hr;simpa using this
  have le:es.length=xs.length:=Ac pe;have bx:xs.map (λx=>x.2.1)=es.map λe=>e.2.1:=by
   clear hr nd lr le few R;induction pe with
   |nil=>rfl|cons h _ ih=>rw[List.map_cons,List.map_cons,ih,h.2.1]
  refine PySem.W.kdl_call (kdl_raw (es:=rows) (ep:=ep) big) (I.ok.hd hcalm) ⟨od,ho,hx,hd⟩ (by rw[lr,<-le];exact few) λh' tk acc c' hk hD hacc=>?_;have ea:acc.toList=(xs.map λx=>x.2.1).map Value.ref:=by refine List.ext_getElem (by rw[Array.length_toList,hacc.1,lr,List.length_map,List.length_map]) λj h1 h2=>?_;rw[Array.length_toList]at h1;obtain⟨hi,e⟩:=hacc.2 j acc[j] (Array.getElem?_eq_getElem h1);have hj:j<xs.length:=(by omega);have er:rows[j]=⟨xs[j].1.hash X.w,.ref xs[j].2.1,xs[j].2.2⟩:=(by have:=congrArg (λl=>l[j]?) hr;simp only[Array.getElem?_toList,Array.getElem?_eq_getElem hi,List.getElem?_map,List.getElem?_eq_getElem hj,Option.map_some,Option.some.injEq]at this;exact this);rw[Array.getElem_toList,e,er];simp
  rw[bx]at ea;have sm:Same H (upd H s.heap.objs.size (.lst (es.map λe=>V.ref e.2.1))):=fD (I.hok.fresh (Nat.le_refl _));refine⟨.ref s.heap.objs.size,upd H s.heap.objs.size (.lst (es.map λe=>V.ref e.2.1)),I.laid (t':=tk) hk (Nat.le_refl _)
   (show ObjOk X.prog X.w _ _ _ (.lst (es.map λe=>V.ref e.2.1)) from⟨by rw[List.length_map];exact few,acc.toList,c',by rw[ea];have:=vals_refs (es.map λe=>e.2.1);rw[List.map_map]at this;exact this,by rw[Array.toArray_toList];exact hD⟩),rfl,?_⟩
  refine k μ _ _ (hs.ext sm) (hs.grow sm) ?_;simp only[aH,Rep];exact⟨_,_,rfl,⟨hs.yU (I.hok.fresh (Nat.le_refl _)),upd_same⟩,R.ky.mono (hs.ext sm)⟩
 ·cases hg
def wg:e9:=λxs S=>match Ab xs S with
 |some z=>some z|none=>Ik xs S
theorem A0(hcalm:X.calm=true)(hK:X.K=T.K)(hw:X.w=T.w)(hu:X.A.units+64<cLine):hW X T (.type "dict") wg:=AQ (Kd hcalm hK) (Il hcalm hK hw hu) λxs S=>by
 unfold wg;cases q:Ab xs S with
 |none=>exact .inr rfl|some z=>exact .inl rfl
def Im:e9:=λxs S=>match Ij xs S with
 |some z=>some z|none=>L5 xs S
theorem Io(hcalm:X.calm=true)(hK:X.K=T.K)(hw:X.w=T.w):hW X T (.type "list") Im:=AQ (Kf hcalm) (Kj hcalm hK hw) λxs S=>by
 unfold Im;cases q:Ij xs S with
 |none=>exact .inr rfl|some z=>exact .inl rfl
end
def EL:e9:=λxs _=>match xs with
 |[.v (.lst ds)]=>(vN ds).bind λns=>if ns.length<64/\jy id (fc id ns)=true then some (.v (.lst ((fc id ns).map D.int))) else none
 |_=>none
def y7:e9:=λxs S=>match EL xs S with
 |some z=>some z|none=>Ii xs S
section
variable {X:Cx}{T:Tb}
theorem Kk(hK:X.K=T.K):hW X T (.builtin "sorted") EL:=by
 rintro pins s σ H vs us Q I rr ⟨μ,S,xs,z,hs,rs,hg,k⟩;unfold EL at hg;split at hg;·rename_i ds;obtain⟨ns,q,hg⟩:=Option.bind_eq_some_iff.mp hg;split at hg;rename_i hl;cases hg;obtain⟨v,rfl,r1⟩:=gW rs;simp only[aH,Rep]at r1;obtain⟨a,ws,rfl,hh,rl⟩:=r1;have ed:=vb q;subst ed;have ew:=wd rl;subst ew;refine cr_sorted pins s σ H [.ref a] us Q I rr ⟨a,ns,rfl,hh.sq,hl.1,λys p hp hS hH=>?_⟩;have ey:ys=fc id ns:=jP (rk:=id) (hp.trans eB.symm) (hS.imp λh=>h) (rW hl.2);subst ey;have sm:Same H (upd H p (.lst ((fc id ns).map V.int))):=fD hH;refine k μ _ _ (hs.ext sm) (hs.grow sm) ?_;simp only[aH,Rep];exact⟨p,_,rfl,⟨hs.yU hH,upd_same⟩,GJ⟩;·cases hg
 ·cases hg
theorem Ip(hK:X.K=T.K)(hu:X.A.units+64<cLine):hW X T (.builtin "sorted") y7:=AQ (Kk hK) (Kb hK hu) λxs S=>by
 unfold y7;cases q:EL xs S with
 |none=>exact .inr rfl|some z=>exact .inl rfl
end
open PySem.W HandSHeadRun
section
variable {ρ:Env}{S S1 S2:ag}{x y:A}{i:Nat}{d:D}{ma mb:EM}{t u:TM}{r:AM}{ρ1:Env}{j:Nat}{mo mv mi:EM}{m n:SM}{e:Er}
@[simp] theorem zj:eC d ρ S=.ok (.v d) S:=rfl
@[simp] theorem gY:eV 0 (some x::ρ) S=.ok x S:=rfl
@[simp] theorem f7{o:Option A}:eV (i+1) (o::ρ) S=eV i ρ S:=rfl
theorem rX(h:ρ[i]?=some (some x)):eV i ρ S=.ok x S:=by unfold eV;rw[h]
@[simp] theorem kM{g:tK}:aA g ma mb ρ S=(ma ρ S).bind λx S1=>(mb ρ S1).bind λy S2=>.xm (g x y S2) S2:=rfl
@[simp] theorem Ym{g:Th}:wa g ma mb ρ S=(ma ρ S).bind λx S1=>(mb ρ S1).bind λy S2=>g x y S2:=rfl
@[simp] theorem Ws{g:A->ag->Option A}:xt g ma ρ S=(ma ρ S).bind λx S1=>.xm (g x S1) S1:=rfl
@[simp] theorem eW:ah ρ S=.ok [] S:=rfl
@[simp] theorem bM{q:EM}:aa q r ρ S=(q ρ S).bind λx S1=>(r ρ S1).bind λxs S2=>.ok (x::xs) S2:=rfl
@[simp] theorem UO:asD []=some []:=rfl
@[simp] theorem Q6{l:List A}:asD (.v d::l)=(asD l).map (d::·):=rfl
def Yn(o:Option (List D))(f:List D->D)(S:ag):R A:=match o with
 |some ds=>if ds.length<=1000 then .ok (.v (f ds)) S else .stk
 |none=>.stk
@[simp] theorem L6:mK r ρ S=(r ρ S).bind λxs S1=>Yn (asD xs) .tup S1:=rfl
@[simp] theorem Q7:cn r ρ S=(r ρ S).bind λxs S1=>Yn (asD xs) .lst S1:=rfl
@[simp] theorem L7{ds:List D}{f:List D->D}:Yn (some ds) f S=if ds.length<=1000 then .ok (.v (f ds)) S else .stk:=rfl
@[simp] theorem tW{fM:FM}:aS fM r ρ S=(r ρ S).bind λxs S1=>fM xs S1:=rfl
@[simp] theorem vd{g:e9}:au g r ρ S=(r ρ S).bind λxs S1=>.xm (g xs S1) S1:=rfl
@[simp] theorem Kl{g:CN}:cF g r ρ S=(r ρ S).bind λxs S1=>g xs S1:=rfl
@[simp] theorem abj{a b:Nat}{ix:List Nat}{fM:FM}{rk:AM}:xJ a b ix fM r rk ρ S=(r ρ S).bind λxs S1=>(rk ρ S1).bind λzs S2=>if xs.length=a/\zs.length=b then fM (perm ix (xs++zs)) S2 else .stk:=rfl
@[simp] theorem F2:tE ma ρ S=(ma ρ S).bind λx S1=>.xm (uW x S1) S1:=rfl
@[simp] theorem wj:hV t ρ S=(t ρ S).bind λk S1=>.ok (!k) S1:=rfl
@[simp] theorem jz:pI t u ρ S=(t ρ S).bind λk S1=>if k=true then u ρ S1 else .ok false S1:=rfl
@[simp] theorem BU:uA t u ρ S=(t ρ S).bind λk S1=>if k=true then .ok true S1 else u ρ S1:=rfl
@[simp] theorem acH:aL ρ S=.ok true S:=rfl
@[simp] theorem EN:xG t ma mb ρ S=(t ρ S).bind λk S1=>if k=true then ma ρ S1 else mb ρ S1:=rfl
def UP(o:Option Bool)(x:A)(k:R A)(S:ag):R A:=match o with
 |some true=>k|some false=>.ok x S|none=>.stk
def orR(o:Option Bool)(x:A)(k:R A)(S:ag):R A:=match o with
 |some true=>.ok x S|some false=>k|none=>.stk
@[simp] theorem Q8{k:R A}:UP (some true) x k S=k:=rfl
@[simp] theorem Q9{k:R A}:UP (some false) x k S=.ok x S:=rfl
@[simp] theorem aeM{k:R A}:orR (some true) x k S=.ok x S:=rfl
@[simp] theorem aeN{k:R A}:orR (some false) x k S=k:=rfl
@[simp] theorem uD:og ma mb ρ S=(ma ρ S).bind λx S1=>UP (uW x S1) x (mb ρ S1) S1:=by unfold og UP;rfl
@[simp] theorem Wt:XD ma mb ρ S=(ma ρ S).bind λx S1=>orR (uW x S1) x (mb ρ S1) S1:=by unfold XD orR;rfl
@[simp] theorem EO:SR.sq (.nx ρ S) n=n ρ S:=rfl
@[simp] theorem aeO:SR.sq (.rt x S) n=.rt x S:=rfl
@[simp] theorem aeP:SR.sq (.bk ρ S) n=.bk ρ S:=rfl
@[simp] theorem aeQ:SR.sq (.ct ρ S) n=.ct ρ S:=rfl
@[simp] theorem aeR:SR.sq (.er e S) n=.er e S:=rfl
@[simp] theorem xP:aG m n ρ S=SR.sq (m ρ S) n:=rfl
@[simp] theorem Iq:iR ρ S=.nx ρ S:=rfl
@[simp] theorem acJ:aaS ρ S=.nx ρ S:=rfl
@[simp] theorem aeS:sBk ρ S=.bk ρ S:=rfl
@[simp] theorem aeT:sCt ρ S=.ct ρ S:=rfl
@[simp] theorem NC:ju ma ρ S=SR.of (ma ρ S) λ_ S1=>.nx ρ S1:=rfl
@[simp] theorem wk:ck ma ρ S=SR.of (ma ρ S) λx S1=>.rt x S1:=rfl
@[simp] theorem acK:aaT ρ S=.rt (.v .non) S:=rfl
@[simp] theorem GO:uP t m n ρ S=SR.ofT (t ρ S) λb S1=>if b=true then m ρ S1 else n ρ S1:=rfl
@[simp] theorem ER:bB i ma ρ S=SR.of (ma ρ S) λx S1=>.nx (ρ.set i (some x)) S1:=rfl
@[simp] theorem adP:(SR.nx ρ S).Lj=.ok (.v .non) S:=rfl
@[simp] theorem Ir:(SR.rt x S).Lj=.ok x S:=rfl
@[simp] theorem adQ:(SR.er e S).Lj=.err e S:=rfl
@[simp] theorem fY{a l:Nat}{xs:List A}:bU a l m xs S=if xs.length=a then(m (xs.map some++List.replicate (l-a) none) S).Lj else .stk:=rfl
@[simp] theorem abk{α:Type}{a:α}:List.replicate (i+1) a=a::List.replicate i a:=rfl
def abl(o:Option Env)(S:ag):SR:=match o with
 |some ρ=>.nx ρ S|none=>.stk
@[simp] theorem Yo:abl (some ρ) S=.nx ρ S:=rfl
@[simp] theorem Ra{g:Tg}:FX g ma ρ S=SR.of (ma ρ S) λx S1=>abl (g.put x ρ) S1:=rfl
@[simp] theorem jm:(Tg.nm i).put x ρ=some (ρ.set i (some x)):=by simp only[Tg.put]
@[simp] theorem adR{ts:List Tg}{ds:List D}:(Tg.tp ts).put (.v (.tup ds)) ρ=Tg.qP ts ds ρ:=by simp only[Tg.put]
@[simp] theorem adS{ts:List Tg}{ds:List D}:(Tg.tp ts).put (.v (.lst ds)) ρ=Tg.qP ts ds ρ:=by simp only[Tg.put]
@[simp] theorem abm:Tg.qP [] [] ρ=some ρ:=by simp only[Tg.qP]
def putN(o:Option Env)(ts:List Tg)(ds:List D):Option Env:=match o with
 |some ρ1=>Tg.qP ts ds ρ1|none=>none
@[simp] theorem adT{ts:List Tg}{ds:List D}:putN (some ρ) ts ds=Tg.qP ts ds ρ:=rfl
@[simp] theorem ZV{g:Tg}{ts:List Tg}{ds:List D}:Tg.qP (g::ts) (d::ds) ρ=putN (g.put (.v d) ρ) ts ds:=by rw[Tg.qP];unfold putN;rfl
def Yp(i j:Nat)(ρ:Env):R (List A)->SR|.ok [x,y] S1=>.nx ((ρ.set i (some x)).set j (some y)) S1|.err e S1=>.er e S1|_=>.stk
@[simp] theorem adU:Yp i j ρ (.ok [x,y] S)=.nx ((ρ.set i (some x)).set j (some y)) S:=rfl
@[simp] theorem Yq:xI i j r ρ S=Yp i j ρ (r ρ S):=by unfold xI Yp;rfl
def Yr(k n:Nat)(fl:List (Str×kO))(o:Option (List D))(S:ag):SR:=match o with
 |some ds=>if ds.length=n/\n<=900 then .er ⟨k,LD fl ds⟩ S else .stk
 |none=>.stk
@[simp] theorem adV{k q:Nat}{fl:List (Str×kO)}{ds:List D}:Yr k q fl (some ds) S=if ds.length=q/\q<=900 then .er ⟨k,LD fl ds⟩ S else .stk:=rfl
def SR.ofA(r:R (List A))(k:List A->ag->SR):SR:=match r with
 |.ok a S=>k a S|.err e S=>.er e S|.stk=>.stk
@[simp] theorem adW{xs:List A}{k:List A->ag->SR}:SR.ofA (.ok xs S) k=k xs S:=rfl
@[simp] theorem abn{k q:Nat}{fl:List (Str×kO)}:qz k q fl r ρ S=SR.ofA (r ρ S) λxs S1=>Yr k q fl (asD xs) S1:=by unfold qz SR.ofA Yr;cases r ρ S<;>rfl
def Ys(ks:List Nat)(f:Str)(d:D)(n:Nat)(ρ:Env)(S:ag)(o:Option MO):SR:=match o with
 |some (.ins k fs)=>if k∈ks/\fs.length<100 then .nx ρ (S.set n (.ins k (putD f d fs))) else .stk
 |_=>.stk
@[simp] theorem Iu{ks:List Nat}{f:Str}{k q:Nat}{fs:List (Str×D)}:Ys ks f d q ρ S (some (.ins k fs))=if k∈ks/\fs.length<100 then .nx ρ (S.set q (.ins k (putD f d fs))) else .stk:=rfl
def Wu(ks:List Nat)(f:Str)(ρ:Env)(S:ag):A->A->SR|.v d,.m n=>Ys ks f d n ρ S S[n]?|_,_=>.stk
@[simp] theorem DH{ks:List Nat}{f:Str}{q:Nat}:Wu ks f ρ S (.v d) (.m q)=Ys ks f d q ρ S S[q]?:=rfl
@[simp] theorem DI{ks:List Nat}{f:Str}:rR ks f mo mv ρ S=SR.of (mv ρ S) λx S1=>SR.of (mo ρ S1) λo S2=>Wu ks f ρ S2 x o:=rfl
def UQ(ρ:Env)(S:ag)(d:D)(n:Nat)(k:Int)(o:Option MO):SR:=match o with
 |some (.lst ds)=>match ixN ds.length k with
   |some j=>.nx ρ (S.set n (.lst (ds.set j d)))|none=>.stk
 |_=>.stk
def Rb(ρ:Env)(S:ag):A->A->A->SR|.v d,.m n,.v (.int k)=>UQ ρ S d n k S[n]?|_,_,_=>.stk
@[simp] theorem ND{q:Nat}{k:Int}:Rb ρ S (.v d) (.m q) (.v (.int k))=UQ ρ S d q k S[q]?:=rfl
theorem Rc{q:Nat}{k:Int}{ds:List D}(hj:ixN ds.length k=some j):UQ ρ S d q k (some (.lst ds))=.nx ρ (S.set q (.lst (ds.set j d))):=by unfold UQ;simp only[hj]
@[simp] theorem Wv:sIx mo mi mv ρ S=SR.of (mv ρ S) λx S1=>SR.of (mo ρ S1) λo S2=>SR.of (mi ρ S2) λi S3=>Rb ρ S3 x o i:=rfl
end
def sL(l:List Nat):Str:=⟨l.toArray⟩
@[simp] theorem xQ{l:List Nat}:(sL l).length=l.length:=by simp[sL,Str.length]
@[simp] theorem acL{l:List Nat}:(sL l).cps.size=l.length:=by simp[sL]
@[simp] theorem Iv{l:List Nat}:(sL l).cps.toList=l:=by simp[sL]
theorem Km(x:Str):x=sL x.cps.toList:=by cases x;simp[sL]
@[simp] theorem Yt{a b:List Nat}:sL a++sL b=sL (a++b):=by show Str.append (sL a) (sL b)=_;simp[sL,Str.append]
theorem Yu{a b:List Nat}:sL a=sL b↔a=b:=by simp[sL]
@[simp] theorem Ww{a b:List Nat}:(sL a=sL b)=(a=b):=propext Yu
@[simp] theorem Yv{a b:List Nat}:(sL a == sL b)=(a == b):=by rw[Bool.eq_iff_iff];simp
@[simp] theorem adX{c:Nat}:(⟨#[c]⟩:Str)=sL [c]:=rfl
@[simp] theorem acM{c:Nat}:HS c=sL [c]:=rfl
@[simp] theorem abo:Str.empty=sL []:=rfl
@[simp] theorem Pb{l:List Nat}:mP (sL l)=l.map λc=>D.str (sL [c]):=by simp[mP]
@[simp] theorem abp{c:Nat}:isSign (sL [c])=some c:=rfl
theorem GP:∀(n:Nat) (l acc:List Nat),((List.replicate n l.toArray).foldl (·++·) acc.toArray)=(acc++(List.replicate n l).flatten).toArray|0,l,acc=>by simp|n+1,l,acc=>by rw[List.replicate_succ,List.foldl_cons];rw[show acc.toArray++l.toArray=(acc++l).toArray by simp,GP n l (acc++l)];simp[List.replicate_succ]
@[simp] theorem Yw{l:List Nat}{n:Int}:Txt.mul (sL l) n=sL (List.replicate n.toNat l).flatten:=by
 unfold Txt.mul;by_cases h:n<1
 ·rw[if_pos h];have:n.toNat=0:=by omega
  simp[this]
 ·rw[if_neg h];split
  ·rename_i h2;have h3:n=1\/l=[]:=by simpa using h2
   rcases h3 with rfl|rfl;simp;·simp
  ·have:=GP n.toNat l [];simp only[List.nil_append]at this;show(⟨(List.replicate n.toNat (sL l).cps).foldl (·++·) #[]⟩:Str)=_;have e:(sL l).cps=l.toArray:=rfl;rw[e];rw[show(#[]:Array Nat)=([]:List Nat).toArray from rfl,this];rfl
def ES(s:List Nat):List (List Nat)->List Nat|[]=>[]|[x]=>x|x::y::r=>x++s++ES s (y::r)
theorem UR(s:List Nat):∀ys:List (List Nat),Txt.join (sL s) (ys.map sL)=sL (ES s ys):=by
 intro ys;unfold Txt.join;rw[StrLaws.glued_eq_join];induction ys with
 |nil=>rfl|cons x r ih=>
  cases r with
  |nil=>rfl|cons y r =>show sL x++sL s++Str.join (sL s) (sL y::r.map sL)=_;rw[show sL y::r.map sL=(y::r).map sL from rfl,ih];simp[ES]
@[simp] theorem GU:∀ys:List (List Nat),ES [] ys=ys.flatten|[]=>rfl|[x]=>by simp[ES]|x::y::r=>by have h:=GU (y::r);simp only[ES,h];simp
section
variable {ρ:Env}{S S1:ag}{i j:Int}{a b l:List Nat}{d e:D}{x:A}{ma mb:EM}{r:AM}{xs ys ds:List D}{k:Bool}{n:Nat}
@[simp] theorem Rf:cE=1000000:=rfl
@[simp] theorem adY:cY (.v (.int i)) (.v (.int j)) S=some (.v (.int (i+j))):=rfl
theorem Yx(h:a.length+b.length<=1000000):cY (.v (.str (sL a))) (.v (.str (sL b))) S=some (.v (.str (sL (a++b)))):=by unfold cY;simp only[xQ,Yt];exact if_pos h
theorem Iw(h:xs.length+ys.length<=1000000):cY (.v (.lst xs)) (.v (.lst ys)) S=some (.v (.lst (xs++ys))):=if_pos h
@[simp] theorem adZ:gSub (.v (.int i)) (.v (.int j)) S=some (.v (.int (i-j))):=rfl
theorem wm(h:(-(2 ^ 64)<i/\i<2 ^ 64)\/(-(2 ^ 64)<j/\j<2 ^ 64)):hA (.v (.int i)) (.v (.int j)) S=some (.v (.int (i*j))):=if_pos h
theorem Yy(h:j<=1000000/\-1000000<=j/\a.length*j.toNat<=1000000):hA (.v (.str (sL a))) (.v (.int j)) S=some (.v (.str (sL (List.replicate j.toNat a).flatten))):=by unfold hA;simp only[xQ,Yw];exact if_pos h
theorem Yz(h:j<=1000000/\-1000000<=j/\xs.length*j.toNat<=1000000):hA (.v (.lst xs)) (.v (.int j)) S=some (.v (.lst (List.replicate j.toNat xs).flatten)):=if_pos h
theorem xR(h:0<j):zX (.v (.int i)) (.v (.int j)) S=some (.v (.int (i%j))):=if_pos h
theorem NG(h:0<j/\j<1073741824):Ed (.v (.int i)) (.v (.int j)) S=some (.v (.int (i / j))):=if_pos h
theorem Rg(h:0<=j/\j<=1000/\-18446744073709551616<i/\i<18446744073709551616):OU (.v (.int i)) (.v (.int j)) S=some (.v (.int (i ^ j.toNat))):=if_pos h
@[simp] theorem Rh:jl (.v (.int i)) S=some (.v (.int (-i))):=rfl
@[simp] theorem NH:CF (.v (.int i)) (.v (.int j)) S=some (.v (.bl (decide (i<j)))):=rfl
@[simp] theorem aeU:CF (.v (.str (sL a))) (.v (.str (sL b))) S=some (.v (.bl (decide (a<b)))):=by unfold CF;simp only[Iv];rfl
@[simp] theorem aeV:Xy (.v (.int i)) (.v (.int j)) S=some (.v (.bl (decide (i<=j)))):=rfl
@[simp] theorem NJ:JN (.v (.int i)) (.v (.int j)) S=some (.v (.bl (decide (j<i)))):=rfl
@[simp] theorem mS:tq (.v (.int i)) (.v (.int j)) S=some (.v (.bl (decide (j<=i)))):=rfl
@[simp] theorem L8:eU (.v (.int i)) (.v (.int j)) S=some (.v (.bl (decide (i=j)))):=rfl
@[simp] theorem ad0:eU (.v (.str (sL a))) (.v (.str (sL b))) S=some (.v (.bl (decide (a=b)))):=by show some (nC (decide (sL a=sL b)))=_;simp only[Ww];rfl
@[simp] theorem ad1{m:Bool}:eU (.v (.bl k)) (.v (.bl m)) S=some (.v (.bl (decide (k=m)))):=rfl
@[simp] theorem acN:eU (.v .non) (.v .non) S=some (.v (.bl true)):=rfl
@[simp] theorem acO{z:Str}:eU (.v .non) (.v (.str z)) S=some (.v (.bl false)):=rfl
@[simp] theorem acP{z:Str}:eU (.v (.str z)) (.v .non) S=some (.v (.bl false)):=rfl
@[simp] theorem acQ{z:Str}:eU (.v (.int i)) (.v (.str z)) S=some (.v (.bl false)):=rfl
@[simp] theorem acR{z:Str}:eU (.v (.str z)) (.v (.int i)) S=some (.v (.bl false)):=rfl
@[simp] theorem ad2:mD (.v (.int i)) (.v (.int j)) S=some (.v (.bl (!decide (i=j)))):=rfl
@[simp] theorem ad3:mD (.v (.str (sL a))) (.v (.str (sL b))) S=some (.v (.bl (!decide (a=b)))):=by show some (nC (!decide (sL a=sL b)))=_;simp only[Ww];rfl
@[simp] theorem abq:PL x (.v .non) S=some (.v (.bl (isNon x))):=rfl
@[simp] theorem Kn:rQ x (.v .non) S=some (.v (.bl (!isNon x))):=rfl
@[simp] theorem aeW{c:Nat}:Ly (.v (.str (sL [c]))) (.v (.str (sL l))) S=some (.v (.bl (decide (c∈l)))):=by
 show(match isSign (sL [c]) with
  |some c=>some (nC (if false=true then !decide (c∈(sL l).cps.toList) else decide (c∈(sL l).cps.toList)))|none=>none)=_
 simp[nC]
@[simp] theorem abr{c:Nat}:XB (.v (.str (sL [c]))) (.v (.str (sL l))) S=some (.v (.bl (!decide (c∈l)))):=by
 show(match isSign (sL [c]) with
  |some c=>some (nC (if true=true then !decide (c∈(sL l).cps.toList) else decide (c∈(sL l).cps.toList)))|none=>none)=_
 simp[nC]
@[simp] theorem ad4:uW (.v .non) S=some false:=rfl
@[simp] theorem rY:uW (.v (.bl k)) S=some k:=rfl
@[simp] theorem ad5:uW (.v (.int i)) S=some (i != 0):=rfl
@[simp] theorem ad6:uW (.v (.lst xs)) S=some (!xs.isEmpty):=rfl
@[simp] theorem ad7:uW (.v (.tup xs)) S=some (!xs.isEmpty):=rfl
theorem rZ(h:a.length<=1000000):cj [.v (.str (sL a))] S=some (.v (.int a.length)):=by unfold cj;simp only[xQ];exact if_pos h
@[simp] theorem wq:cj [.v (.lst xs)] S=some (.v (.int xs.length)):=rfl
@[simp] theorem ad8:cj [.v (.tup xs)] S=some (.v (.int xs.length)):=rfl
@[simp] theorem ad9:cj [.v (.fz xs)] S=some (.v (.int xs.length)):=rfl
@[simp] theorem YA:xH [.v (.lst xs)] S=(k8 xs).map λbs=>.v (.bl (bs.all id)):=rfl
@[simp] theorem YB:Qt [.v (.lst xs)] S=(k8 xs).map λbs=>.v (.bl (bs.any id)):=rfl
@[simp] theorem ET{α:Type}{f:α->Bool}:∀{l:List α},k8 (l.map λz=>D.bl (f z))=some (l.map f)|[]=>rfl|z::l=>by simp only[List.map_cons,k8,ET];rfl
@[simp] theorem aea:pJ [.v (.int i)] S=some (.v (.int i)):=rfl
@[simp] theorem aeb:pJ [.v (.bl k)] S=some (.v (.int (if k then 1 else 0))):=rfl
@[simp] theorem abt:BM [.v (.lst xs)] S=some (.v (.lst xs)):=rfl
@[simp] theorem abu:BM [.v (.fz xs)] S=some (.v (.lst xs)):=rfl
@[simp] theorem abv:BM [.v (.tup xs)] S=some (.v (.lst xs)):=rfl
theorem abw(h:a.length<=1000000):b6 (.v (.str (sL a))) (.v (.int i)) S=(atI a i).map λc=>.v (.str (sL [c])):=by unfold b6;simp only[xQ,Iv];exact if_pos h
@[simp] theorem fG:b6 (.v (.lst xs)) (.v (.int i)) S=(atI xs i).map A.v:=rfl
@[simp] theorem Ko:b6 (.v (.tup xs)) (.v (.int i)) S=(atI xs i).map A.v:=rfl
@[simp] theorem aeX:b6 (.v (.fz xs)) (.v (.int i)) S=(atI xs i).map A.v:=rfl
theorem abx:b6 (.m n) (.v (.int i)) S=(pH (.m n) S).bind λds=>(atI ds i).map A.v:=rfl
theorem US(h:S[n]?=some (.lst ds)):pH (.m n) S=some ds:=by unfold pH;simp only[h]
theorem jQ(h:S[n]?=some (.lst ds)):b6 (.m n) (.v (.int i)) S=(atI ds i).map A.v:=by rw[abx,US h];rfl
theorem atI_nat{α:Type}{zs:List α}{z:α}(h:zs[n]?=some z):atI zs (n:Int)=some z:=by have hl:=(List.getElem?_eq_some_iff.mp h).1;unfold atI ixN;rw[if_pos (by omega),if_pos (by omega)];simpa using h
@[simp] theorem Kq{α:Type}{z:α}{zs:List α}:atI (z::zs) 0=some z:=atI_nat (n:=0) rfl
theorem EU{α:Type}{zs:List α}(h0:0<=i)(h1:i<zs.length):∃z,atI zs i=some z/\zs[i.toNat]?=some z:=by
 have hl:i.toNat<zs.length:=by omega
 refine⟨zs[i.toNat],?_,by simp[hl]⟩;have:=atI_nat (zs:=zs) (n:=i.toNat) (z:=zs[i.toNat]) (by simp[hl]);rwa[show((i.toNat:Nat):Int)=i by omega]at this
@[simp] theorem aec:iStr ma ρ S=(ma ρ S).bind λx S1=>match x with
 |.v (.str z)=>.ok (mP z) S1|_=>.stk:=rfl
@[simp] theorem YC:cJ ma ρ S=(ma ρ S).bind λx S1=>match x with
 |.v (.lst ds)=>.ok ds S1|.v (.fz ds)=>.ok ds S1|_=>.stk:=rfl
@[simp] theorem acS:aaV ma ρ S=(ma ρ S).bind λx S1=>match x with
 |.v (.tup ds)=>.ok ds S1|_=>.stk:=rfl
theorem YD{r:AM}(h:r ρ S=.ok [.v (.str (sL a)),.v (.str (sL b))] S1):tQ r ρ S=.ok ((a.zip b).map λp=>.tup [.str (sL [p.1]),.str (sL [p.2])]) S1:=by
 unfold tQ;rw[h];simp only[R.ak,En,Pb,AF];congr 1;induction a generalizing b with
 |nil=>rfl|cons c a ih=>cases b with
  |nil=>rfl|cons d b=>simp_all[List.zip]
def YE:List A->ag->R (List D):=λxs S1=>match xs with
 |[.v (.int j)]=>if j<4611686018427387904/\-4611686018427387904<=j then .ok (gR 0 j.toNat) S1 else .stk
 |_=>.stk
theorem xS(h:j<4611686018427387904/\-4611686018427387904<=j):YE [.v (.int j)] S=.ok (gR 0 j.toNat) S:=if_pos h
theorem tX:bG r ρ S=(r ρ S).bind YE:=by unfold bG YE;rfl
@[simp] theorem UT:CJ ρ S=.ok none S:=rfl
@[simp] theorem UU:CK ma ρ S=(ma ρ S).bind λx S1=>match x with
 |.v (.int i)=>.ok (some i) S1|_=>.stk:=rfl
@[simp] theorem aby{lo hi:OM}:Wf ma lo hi ρ S=(ma ρ S).bind λx S1=>(lo ρ S1).bind λl S2=>(hi ρ S2).bind λh S3=>.xm (XI x l h S3) S3:=rfl
theorem UW(h1:ma ρ S=.ok (.v (.str (sL a))) S){zs:List (List Nat)}(h2:mb ρ S=.ok (.v (.lst (zs.map λz=>D.str (sL z)))) S1)(hl:(zs.map List.length).sum+zs.length*a.length<=1000000):JX ma mb ρ S=.ok (.v (.str (sL (ES a zs)))) S1:=by
 unfold JX;rw[h1];simp only[R.ak,h2];have e:∀zs:List (List Nat),oi (zs.map λz=>D.str (sL z))=some (zs.map sL):=by
  intro zs;induction zs with
  |nil=>rfl|cons z zs ih=>simp only[List.map_cons,oi,ih];rfl
 show(match (some (zs.map λz=>D.str (sL z))).bind oi with
  |some ys=>if (List.map (λz:Str=>z.length) ys).sum+ys.length*(sL a).length<=1000000 then(.ok (.v (.str (Txt.join (sL a) ys))) S1:R A) else .stk
  |none=>.stk)=_
 rw[Option.bind_some,e];simp only[List.map_map,List.length_map,xQ,UR];rw[if_pos];simpa[Function.comp_def]using hl
end
abbrev Ad:Env->ag->Prop:=λ_ _=>False
abbrev Ri:Er->ag->Prop:=λ_ _=>False
section
variable {N B C:Env->ag->Prop}{T:A->ag->Prop}{E:Er->ag->Prop}{ρ ρ1:Env}{S S1:ag}{m n:SM}{g:Tg}{t:TM}{ma:EM}{mi:IM}{ds:List D}{i:Nat}{x:A}
theorem c5(h:(m ρ S).sat (λρ' S'=>(n ρ' S').sat N T B C E) T B C E):(aG m n ρ S).sat N T B C E:=by rw[xP];cases q:m ρ S<;>rw[q]at h<;>exact h
theorem iT(h:ma ρ S=.ok x S1)(k:N (ρ.set i (some x)) S1):(bB i ma ρ S).sat N T B C E:=by rw[ER,h];exact k
theorem UX(h:ma ρ S=.ok x S1)(hp:g.put x ρ=some ρ1)(k:N ρ1 S1):(FX g ma ρ S).sat N T B C E:=by rw[Ra,h];simp only[SR.of_ok,hp,Yo];exact k
theorem UY{i j:Nat}{r:AM}{y:A}(h:r ρ S=.ok [x,y] S1)(k:N ((ρ.set i (some x)).set j (some y)) S1):(xI i j r ρ S).sat N T B C E:=by rw[Yq,h];exact k
theorem EV{b:Bool}(h:t ρ S=.ok b S1)(k:(if b=true then m ρ S1 else n ρ S1).sat N T B C E):(uP t m n ρ S).sat N T B C E:=by rw[GO,h];exact k
theorem rh(h:ma ρ S=.ok x S1)(k:T x S1):(ck ma ρ S).sat N T B C E:=by rw[wk,h];exact k
theorem Rj(h:ma ρ S=.ok x S1)(k:N ρ S1):(ju ma ρ S).sat N T B C E:=by rw[NC,h];exact k
theorem Rk{I:List D->Env->ag->Prop}(step:∀(don:List D) d rest ρ S,ds=don++d::rest->I don ρ S->∃ρ1,g.put (.v d) ρ=some ρ1/\(m ρ1 S).sat (I (don++[d])) T N (I (don++[d])) E)
  (fin:∀ρ S,I ds ρ S->N ρ S) (h0:I [] ρ S):(forL g m ds ρ S).sat N T B C E:=by
 have key:∀(rest don:List D) ρ S,ds=don++rest->I don ρ S->(forL g m rest ρ S).sat N T B C E:=by
  intro rest;induction rest with
  |nil =>intro don ρ S e h;rw[List.append_nil]at e;subst e;exact fin _ _ h
  |cons d rest ih=>
   intro don ρ S e h;obtain⟨ρ1,e1,h1⟩:=step don d rest ρ S e h;rw[forL];simp only[e1];have e2:ds=(don++[d])++rest:=(by rw[e];simp);cases q:m ρ1 S with
   |nx ρ2 S2=>rw[q]at h1;exact ih _ _ _ e2 h1|ct ρ2 S2=>rw[q]at h1;exact ih _ _ _ e2 h1|bk ρ2 S2=>rw[q]at h1;exact h1|rt a S2=>rw[q]at h1;exact h1|er a S2=>rw[q]at h1;exact h1|stk=>rw[q]at h1;exact h1
 exact key ds [] ρ S rfl h0
theorem wt{I:List D->Env->ag->Prop}(hi:mi ρ S=.ok ds S1)(h0:I [] ρ S1)
  (step:∀(don:List D) d rest ρ S,ds=don++d::rest->I don ρ S->∃ρ1,g.put (.v d) ρ=some ρ1/\(m ρ1 S).sat (I (don++[d])) T N (I (don++[d])) E)
  (fin:∀ρ S,I ds ρ S->N ρ S):(mQ mi g m ρ S).sat N T B C E:=by
 show(SR.ofI (mi ρ S) λds S1=>forL g m ds ρ S1).sat N T B C E;rw[hi];exact Rk step fin h0
theorem Pc{I:Nat->Env->ag->Prop}{n k:Nat}(h0:I k ρ S)(hk:k<n)
  (step:∀k ρ S,I k ρ S->∃b S1,t ρ S=.ok b S1/\(b=false->N ρ S1)/\(b=true->(m ρ S1).sat (λρ' S'=>∃k',k'<k/\I k' ρ' S') T N (λρ' S'=>∃k',k'<k/\I k' ρ' S') E)):(kU t m n ρ S).sat N T B C E:=by
 induction n generalizing ρ S k with
 |zero=>omega|succ n ih=>
  obtain⟨b,S1,e,h1,h2⟩:=step k ρ S h0;rw[kU,e];cases b with
  |false=>exact h1 rfl|true=>
   have h3:=h2 rfl;simp only[SR.Jt,if_true];cases q:m ρ S1 with
   |nx ρ2 S2=>rw[q]at h3;obtain⟨k',hl,h4⟩:=h3;exact ih h4 (by omega)
   |ct ρ2 S2=>rw[q]at h3;obtain⟨k',hl,h4⟩:=h3;exact ih h4 (by omega)
   |bk ρ2 S2=>rw[q]at h3;exact h3|rt a S2=>rw[q]at h3;exact h3|er a S2=>rw[q]at h3;exact h3|stk=>rw[q]at h3;exact h3
theorem BV{r:SR}{P:A->ag->Prop}(h:r.sat Ad P Ad Ad Ri):∃x S',r.Lj=.ok x S'/\P x S':=by
 cases r with
 |rt a S=>exact⟨a,S,rfl,h⟩|nx _ _=>exact h.elim|bk _ _=>exact h.elim|ct _ _=>exact h.elim|er _ _=>exact h.elim|stk=>exact h.elim
end
section
variable {own:List Nat}{mi:IM}{g:Tg}{t:TM}{m:EM}{ρ:Env}{S S1:ag}{ds:List D}{α:Type}
theorem EW(I:List D->List D->ag->Prop)(hi:mi ρ S=.ok ds S1)(h0:I [] [] S1)(hl:ds.length<=1000000)
  (step:∀(don ys:List D) d rest S2,ds=don++d::rest->I don ys S2->S2.length=S1.length->∃ρ1 b S3,g.put (.v d) (aT ρ own)=some ρ1/\t ρ1 (S2++[.lst ys])=.ok b (S3++[.lst ys])/\S3.length=S1.length /\
   (b=false->I (don++[d]) ys S3)/\(b=true->∃y S4,m ρ1 (S3++[.lst ys])=.ok (.v y) (S4++[.lst ys])/\S4.length=S1.length/\I (don++[d]) (ys++[y]) S4)) :
  ∃ys S2,fX own mi g t m ρ S=.ok (.v (.lst ys)) S2/\I ds ys S2/\S2.length=S1.length:=by
 have key:∀(rest don ys:List D) S2,ds=don++rest->ys.length<=don.length->I don ys S2->S2.length=S1.length ->
   ∃zs S3,HQ g t m (aT ρ own) S1.length rest (S2++[.lst ys])=.ok () (S3++[.lst zs])/\I ds zs S3/\S3.length=S1.length:=by
  intro rest;induction rest with
  |nil =>intro don ys S2 e _ h hs;rw[List.append_nil]at e;subst e;exact⟨ys,S2,rfl,h,hs⟩
  |cons d rest ih=>
   intro don ys S2 e hy h hs;have e2:ds=(don++[d])++rest:=(by rw[e];simp);have hlen:don.length<1000000:=(by have:=congrArg List.length e;simp at this;omega);obtain⟨ρ1,b,S3,h1,h2,h3,h4,h5⟩:=step don ys d rest S2 e h hs;rw[HQ];simp only[h1,h2];cases b with
   |false=>exact ih _ _ _ e2 (by simp;omega) (h4 rfl) h3|true =>obtain⟨y,S4,h6,h7,h8⟩:=h5 rfl;simp only[h6];have e3:(S4++[MO.lst ys])[S1.length]?=some (.lst ys):=(by rw[List.getElem?_append_right (by omega)];simp[h7]);simp only[e3];rw[if_pos ⟨by simp[h7],by simp only[Rf];omega⟩];have e4:(S4++[MO.lst ys]).set S1.length (.lst (ys++[y]))=S4++[.lst (ys++[y])]:=(by rw[List.set_append_right _ _ (by omega)];simp[h7]);rw[e4];exact ih _ _ _ e2 (by simp;omega) h8 h7
 obtain⟨zs,S3,k1,k2,k3⟩:=key ds [] [] S1 rfl (Nat.le_refl _) h0 rfl;refine⟨zs,S3,?_,k2,k3⟩;unfold fX;rw[hi];simp only[R.ak,k1];have e3:(S3++[MO.lst zs])[S1.length]?=some (.lst zs):=by rw[List.getElem?_append_right (by omega)];simp[k3]
 simp only[e3];rw[if_pos (by simp[k3])];congr 1;rw[<-k3];simp
theorem Rl(f:D->Bool)(h:D->D)(hi:mi ρ S=.ok ds S1)(hl:ds.length<=1000000)
  (step:∀d∈ds,∀Z,∃ρ1,g.put (.v d) (aT ρ own)=some ρ1/\t ρ1 Z=.ok (f d) Z/\(f d=true->m ρ1 Z=.ok (.v (h d)) Z)) :
  fX own mi g t m ρ S=.ok (.v (.lst ((ds.filter f).map h))) S1:=by
 obtain⟨ys,S2,e,⟨i1,i2⟩,_⟩:=EW (own:=own) (g:=g) (t:=t) (m:=m) (λdon ys S2=>S2=S1/\ys=(don.filter f).map h) hi ⟨rfl,rfl⟩ hl (λdon ys d rest S2 e ⟨e1,e2⟩ _=>by
  subst e1;have hd:d∈ds:=by rw[e];simp
  obtain⟨ρ1,h1,h2,h3⟩:=step d hd (S2++[.lst ys]);refine⟨ρ1,f d,S2,h1,h2,rfl,λhf=>⟨rfl,by simp[List.filter_append,hf,e2]⟩,λhf=>⟨h d,S2,h3 hf,rfl,rfl,by simp[List.filter_append,hf,e2]⟩⟩)
 rw[e,i1,i2]
theorem UZ(h:D->D)(hi:mi ρ S=.ok ds S1)(hl:ds.length<=1000000)
  (step:∀d∈ds,∀Z,∃ρ1,g.put (.v d) (aT ρ own)=some ρ1/\t ρ1 Z=.ok true Z/\m ρ1 Z=.ok (.v (h d)) Z) :
  fX own mi g t m ρ S=.ok (.v (.lst (ds.map h))) S1:=by
 have:=Rl (own:=own) (g:=g) (t:=t) (m:=m) (λ_=>true) h hi hl (λd hd Z=>by obtain⟨ρ1,h1,h2,h3⟩:=step d hd Z;exact⟨ρ1,h1,h2,λ_=>h3⟩);rwa[List.filter_eq_self.mpr (by simp)]at this
theorem y8{mk:α->D}:∀{pre items:List α}{d:D}{rest:List D},items.map mk=pre.map mk++d::rest->pre <+: items->∃a,a∈items/\d=mk a/\(pre++[a]) <+: items/\pre.map mk++[d]=(pre++[a]).map mk:=by
 rintro pre items d rest e ⟨suf,rfl⟩;rw[List.map_append]at e;have e2:=List.append_cancel_left e;cases suf with
 |nil=>cases e2|cons a suf =>cases e2;exact⟨a,by simp,rfl,⟨suf,by simp⟩,by simp⟩
theorem A2(items:List α)(mk:α->D)(f:α->Bool)(h:α->D)(hi:mi ρ S=.ok (items.map mk) S1)(hl:items.length<=1000000)
  (step:∀a∈items,∀Z,∃ρ1,g.put (.v (mk a)) (aT ρ own)=some ρ1/\t ρ1 Z=.ok (f a) Z/\(f a=true->m ρ1 Z=.ok (.v (h a)) Z)) :
  fX own mi g t m ρ S=.ok (.v (.lst ((items.filter f).map h))) S1:=by
 obtain⟨ys,S2,e,⟨i1,pre,p1,p2,p3⟩,_⟩:=EW (own:=own) (g:=g) (t:=t) (m:=m) (λdon ys S2=>S2=S1/\∃pre:List α,don=pre.map mk/\pre <+: items/\ys=(pre.filter f).map h) hi ⟨rfl,[],rfl,List.nil_prefix,rfl⟩ (by simpa using hl) (λdon ys d rest S2 e ⟨e1,pre,p1,p2,p3⟩ _=>by subst e1 p1;obtain⟨a,ha,rfl,p4,p5⟩:=y8 e p2;obtain⟨ρ1,h1,h2,h3⟩:=step a ha (S2++[.lst ys]);refine⟨ρ1,f a,S2,h1,h2,rfl,λhf=>⟨rfl,_,p5,p4,by simp[List.filter_append,hf,p3]⟩,λhf=>⟨h a,S2,h3 hf,rfl,rfl,_,p5,p4,by simp[List.filter_append,hf,p3]⟩⟩);have pl:pre=items:=by have:=congrArg List.length p1;simp at this;exact p2.eq_of_length this.symm
 rw[e,i1,p3,pl]
theorem bP(items:List α)(mk:α->D)(h:α->D)(hi:mi ρ S=.ok (items.map mk) S1)(hl:items.length<=1000000)
  (step:∀a∈items,∀Z,∃ρ1,g.put (.v (mk a)) (aT ρ own)=some ρ1/\t ρ1 Z=.ok true Z/\m ρ1 Z=.ok (.v (h a)) Z) :
  fX own mi g t m ρ S=.ok (.v (.lst (items.map h))) S1:=by
 have:=A2 (own:=own) (g:=g) (t:=t) (m:=m) items mk (λ_=>true) h hi hl (λd hd Z=>by obtain⟨ρ1,h1,h2,h3⟩:=step d hd Z;exact⟨ρ1,h1,h2,λ_=>h3⟩);rwa[List.filter_eq_self.mpr (by simp)]at this
theorem Iy(items:List α)(mk:α->D)(P:α->D->Prop)(I:ag->Prop)(hi:mi ρ S=.ok (items.map mk) S1)(h0:I S1)(hl:items.length<=1000000)
  (step:∀a∈items,∀Z ys,I Z->Z.length=S1.length->∃ρ1 y Z2,g.put (.v (mk a)) (aT ρ own)=some ρ1/\t ρ1 (Z++[.lst ys])=.ok true (Z++[.lst ys])/\m ρ1 (Z++[.lst ys])=.ok (.v y) (Z2++[.lst ys])/\Z2.length=S1.length/\I Z2/\P a y) :
  ∃ys S2,fX own mi g t m ρ S=.ok (.v (.lst ys)) S2/\I S2/\S2.length=S1.length/\ys.length=items.length/\∀p∈items.zip ys,P p.1 p.2:=by
 obtain⟨ys,S2,e,⟨i1,pre,p1,p2,p3,p4⟩,i5⟩:=EW (own:=own) (g:=g) (t:=t) (m:=m) (λdon ys S2=>I S2/\∃pre:List α,don=pre.map mk/\pre <+: items/\ys.length=pre.length/\∀p∈pre.zip ys,P p.1 p.2) hi ⟨h0,[],rfl,List.nil_prefix,rfl,by simp⟩ (by simpa using hl) (λdon ys d rest S2 e ⟨e1,pre,p1,p2,p3,p4⟩ hs=>by subst p1;obtain⟨a,ha,rfl,p5,p6⟩:=y8 e p2;obtain⟨ρ1,y,Z2,h1,h2,h3,h4,h5,h6⟩:=step a ha S2 ys e1 hs;refine⟨ρ1,true,S2,h1,h2,hs,(λhf=>by cases hf),λhf=>⟨y,Z2,h3,h4,h5,_,p6,p5,by simp[p3],λp hp=>?_⟩⟩;rw[List.zip_append p3.symm]at hp;rcases List.mem_append.mp hp with hp|hp;exact p4 p hp;·simp at hp;subst hp;exact h6);have pl:pre=items:=by have:=congrArg List.length p1;simp at this;exact p2.eq_of_length this.symm
 subst pl;exact⟨ys,S2,e,i1,i5,p3,p4⟩
end
@[simp] theorem aeY{xs:List D}{lo hi:Option Int}{S:ag}:XI (.v (.fz xs)) lo hi S=some (.v (.lst (cutD xs lo hi))):=rfl
@[simp] theorem abz{xs:List D}{lo hi:Option Int}{S:ag}:XI (.v (.lst xs)) lo hi S=some (.v (.lst (cutD xs lo hi))):=rfl
def Iz{α:Type}(xs:List α)(lo hi:Option Int):List α:=(xs.drop (HT.sIx xs.length 0 lo)).take (HT.sIx xs.length xs.length hi-HT.sIx xs.length 0 lo)
theorem Pd{α:Type}{xs:List α}{n:Nat}:Iz xs (some (n:Int)) none=xs.drop n:=by unfold Iz;rw[HT.sIx_none,HT.sIx_nat];by_cases h:n<=xs.length;rw[Nat.min_eq_left h,List.take_of_length_le (by simp)];·rw[Nat.min_eq_right (by omega),List.drop_of_length_le (Nat.le_refl _),List.drop_of_length_le (by omega)];simp
theorem U0{α:Type}{xs:List α}{n:Nat}:Iz xs none (some (n:Int))=xs.take n:=by unfold Iz;rw[HT.sIx_none,HT.sIx_nat];simp only[List.drop_zero,Nat.sub_zero];by_cases h:n<=xs.length;rw[Nat.min_eq_left h];·rw[Nat.min_eq_right (by omega),List.take_of_length_le (Nat.le_refl _),List.take_of_length_le (by omega)]
theorem Rm{xs:List D}{lo hi:Option Int}:cutD xs lo hi=Iz xs lo hi:=rfl
section
variable {k:Bool}{i:Int}{z:Str}{xs:List D}{S:ag}{ρ:Env}{ma:EM}{ns:List String}{x:A}{S1:ag}{a:List Nat}{e:D}{y:A}{mb mc:EM}{n:Nat}
@[simp] theorem ZW:dN [.v .non,.v (.ty "int")] S=some (.v (.bl false)):=rfl
@[simp] theorem YF:dN [.v .non,.v (.ty "bool")] S=some (.v (.bl false)):=rfl
@[simp] theorem ZX:dN [.v .non,.v (.ty "str")] S=some (.v (.bl false)):=rfl
@[simp] theorem YG:dN [.v .non,.v (.ty "list")] S=some (.v (.bl false)):=rfl
@[simp] theorem Wx:dN [.v .non,.v (.ty "tuple")] S=some (.v (.bl false)):=rfl
@[simp] theorem aeZ:zw (.v .non) S=some "NoneType" := rfl
@[simp] theorem acT:isNon (.v .non)=true:=rfl
@[simp] theorem ZY:dN [.v (.bl k),.v (.ty "int")] S=some (.v (.bl true)):=rfl
@[simp] theorem YH:dN [.v (.bl k),.v (.ty "bool")] S=some (.v (.bl true)):=rfl
@[simp] theorem ZZ:dN [.v (.bl k),.v (.ty "str")] S=some (.v (.bl false)):=rfl
@[simp] theorem YI:dN [.v (.bl k),.v (.ty "list")] S=some (.v (.bl false)):=rfl
@[simp] theorem Wy:dN [.v (.bl k),.v (.ty "tuple")] S=some (.v (.bl false)):=rfl
@[simp] theorem ae0:zw (.v (.bl k)) S=some "bool" := rfl
@[simp] theorem acU:isNon (.v (.bl k))=false:=rfl
@[simp] theorem Z0:dN [.v (.int i),.v (.ty "int")] S=some (.v (.bl true)):=rfl
@[simp] theorem YJ:dN [.v (.int i),.v (.ty "bool")] S=some (.v (.bl false)):=rfl
@[simp] theorem Z1:dN [.v (.int i),.v (.ty "str")] S=some (.v (.bl false)):=rfl
@[simp] theorem YK:dN [.v (.int i),.v (.ty "list")] S=some (.v (.bl false)):=rfl
@[simp] theorem Wz:dN [.v (.int i),.v (.ty "tuple")] S=some (.v (.bl false)):=rfl
@[simp] theorem ae1:zw (.v (.int i)) S=some "int" := rfl
@[simp] theorem acV:isNon (.v (.int i))=false:=rfl
@[simp] theorem Z3:dN [.v (.str z),.v (.ty "int")] S=some (.v (.bl false)):=rfl
@[simp] theorem YL:dN [.v (.str z),.v (.ty "bool")] S=some (.v (.bl false)):=rfl
@[simp] theorem Z4:dN [.v (.str z),.v (.ty "str")] S=some (.v (.bl true)):=rfl
@[simp] theorem YM:dN [.v (.str z),.v (.ty "list")] S=some (.v (.bl false)):=rfl
@[simp] theorem WA:dN [.v (.str z),.v (.ty "tuple")] S=some (.v (.bl false)):=rfl
@[simp] theorem abA:zw (.v (.str z)) S=some "str" := rfl
@[simp] theorem acW:isNon (.v (.str z))=false:=rfl
@[simp] theorem Z5:dN [.v (.tup xs),.v (.ty "int")] S=some (.v (.bl false)):=rfl
@[simp] theorem YN:dN [.v (.tup xs),.v (.ty "bool")] S=some (.v (.bl false)):=rfl
@[simp] theorem Z6:dN [.v (.tup xs),.v (.ty "str")] S=some (.v (.bl false)):=rfl
@[simp] theorem YO:dN [.v (.tup xs),.v (.ty "list")] S=some (.v (.bl false)):=rfl
@[simp] theorem WB:dN [.v (.tup xs),.v (.ty "tuple")] S=some (.v (.bl true)):=rfl
@[simp] theorem ae2:zw (.v (.tup xs)) S=some "tuple" := rfl
@[simp] theorem acX:isNon (.v (.tup xs))=false:=rfl
@[simp] theorem Z7:dN [.v (.lst xs),.v (.ty "int")] S=some (.v (.bl false)):=rfl
@[simp] theorem YP:dN [.v (.lst xs),.v (.ty "bool")] S=some (.v (.bl false)):=rfl
@[simp] theorem Z8:dN [.v (.lst xs),.v (.ty "str")] S=some (.v (.bl false)):=rfl
@[simp] theorem YQ:dN [.v (.lst xs),.v (.ty "list")] S=some (.v (.bl true)):=rfl
@[simp] theorem WC:dN [.v (.lst xs),.v (.ty "tuple")] S=some (.v (.bl false)):=rfl
@[simp] theorem ae3:zw (.v (.lst xs)) S=some "list" := rfl
@[simp] theorem acY:isNon (.v (.lst xs))=false:=rfl
@[simp] theorem Z9:dN [.v (.fz xs),.v (.ty "int")] S=some (.v (.bl false)):=rfl
@[simp] theorem YR:dN [.v (.fz xs),.v (.ty "bool")] S=some (.v (.bl false)):=rfl
@[simp] theorem aaa:dN [.v (.fz xs),.v (.ty "str")] S=some (.v (.bl false)):=rfl
@[simp] theorem YS:dN [.v (.fz xs),.v (.ty "list")] S=some (.v (.bl true)):=rfl
@[simp] theorem WD:dN [.v (.fz xs),.v (.ty "tuple")] S=some (.v (.bl false)):=rfl
@[simp] theorem ae4:zw (.v (.fz xs)) S=some "list" := rfl
@[simp] theorem acZ:isNon (.v (.fz xs))=false:=rfl
@[simp] theorem ac0:M8 ns ma ρ S=(ma ρ S).bind λx S1=>.xm (((zw x S1).bind λt=>isAny t ns).map nC) S1:=rfl
@[simp] theorem Rn:isAny "NoneType" ["list", "tuple"]=some false:=rfl
@[simp] theorem YT:isAny "bool" ["list", "tuple"]=some false:=rfl
@[simp] theorem aab:isAny "int" ["list", "tuple"]=some false:=rfl
@[simp] theorem aac:isAny "str" ["list", "tuple"]=some false:=rfl
@[simp] theorem WG:isAny "tuple" ["list", "tuple"]=some true:=rfl
@[simp] theorem YU:isAny "list" ["list", "tuple"]=some true:=rfl
@[simp] theorem WH:nC k=.v (.bl k):=rfl
@[simp] theorem aed{m:Bool}:mD (.v (.bl k)) (.v (.bl m)) S=some (.v (.bl (!decide (k=m)))):=rfl
def chR(o:Option A)(k:R A)(S:ag):R A:=match o with
 |some (.v (.bl true))=>k|some (.v (.bl false))=>.ok (.v (.bl false)) S|_=>.stk
@[simp] theorem ae5{u:R A}:chR (some (.v (.bl true))) u S=u:=rfl
@[simp] theorem ae6{u:R A}:chR (some (.v (.bl false))) u S=.ok (.v (.bl false)) S:=rfl
@[simp] theorem abB{g g':tK}:Hz g g' ma mb mc ρ S=(ma ρ S).bind λx S1=>(mb ρ S1).bind λy S2=>chR (g x y S2) ((mc ρ S2).bind λz S3=>.xm (g' y z S3) S3) S2:=rfl
theorem abC{lo hi:Option Int}(h:a.length<=1000000):XI (.v (.str (sL a))) lo hi S=some (.v (.str (sL (Iz a lo hi)))):=by unfold XI;simp only[xQ];rw[if_pos (show a.length<=cE from h)];simp only[cutS,xQ,Iv,Iz];rfl
@[simp] theorem YV{α:Type}{zs:List α}:Iz zs (some 1) none=zs.drop 1:=Pd (n:=1)
def abc:List Nat:=[97,98,99,100,101,102,103,104,105,106,107,108,109,110,111,112,113,114,115,116,117,118,119,120,121,122]
@[simp] theorem aef{c e:Nat}:([c]<[e])=(c<e):=by rw[List.cons_lt_cons_iff];simp
theorem U1:("abcdefghijklmnopqrstuvwxyz" : Str)=sL abc:=by decide +kernel
end
section
variable {ρ:Env}{S S1:ag}{x y:A}{ma mo:EM}{r rk:AM}{k a b:Nat}{fM:FM}{fs:List (Str×D)}{ix:List Nat}{e:Er}{d:D}{mt:Nat->Option FM}{z:Str}{xs:List D}{neg:Bool->Bool}{g:tK}{i j:Int}
@[simp] theorem U2:l4 k fM r ρ S=(r ρ S).bind λxs S1=>Nd k S1.length (fM (.m S1.length::xs) (S1++[.ins k []])):=rfl
@[simp] theorem abE:X0 k a b ix fM r rk ρ S=(r ρ S).bind λxs S1=>(rk ρ S1).bind λzs S2=>if xs.length=a/\zs.length=b then Nd k S2.length (fM (perm ix (.m S2.length::xs++zs)) (S2++[.ins k []])) else .stk:=rfl
@[simp] theorem aeg{α:Type}{l:List α}:perm ix l=ix.filterMap λi=>l[i]?:=rfl
theorem L9{T:ag}(h:T=S++[.ins k fs]):Nd k S.length (.ok (.v .non) T)=.ok (.v (.obj k fs)) S:=by subst h;unfold Nd;simp
theorem ID{j:Nat}{T:ag}(h:T=S++[.ins j fs]):Nd k S.length (.err e T)=.err e S:=by subst h;unfold Nd;simp
@[simp] theorem NL:c0 (.v (.obj k fs)) S=some (k,fs):=rfl
@[simp] theorem ac1:c0 (.v (.str z)) S=none:=rfl
@[simp] theorem ac2:c0 (.v .non) S=none:=rfl
@[simp] theorem ac3{i:Int}:c0 (.v (.int i)) S=none:=rfl
@[simp] theorem ac4{i:Bool}:c0 (.v (.bl i)) S=none:=rfl
@[simp] theorem ac5{xs:List D}:c0 (.v (.tup xs)) S=none:=rfl
@[simp] theorem ac6{xs:List D}:c0 (.v (.lst xs)) S=none:=rfl
def Kr(ks:List Nat)(f:Str)(S:ag)(o:Option (Nat×List (Str×D))):R A:=match o with
 |some (k,fs)=>if k∈ks then match fs.lookup f with
   |some d=>.ok (.v d) S|none=>.stk
  else .stk
 |none=>.stk
@[simp] theorem BW{ks:List Nat}{f:Str}:fZ ks f ma ρ S=(ma ρ S).bind λx S1=>Kr ks f S1 (c0 x S1):=by unfold fZ Kr;rfl
theorem lU{ks:List Nat}{f:Str}(h1:k∈ks)(h2:fs.lookup f=some d):Kr ks f S (some (k,fs))=.ok (.v d) S:=by unfold Kr;simp only[h1,if_true,h2]
def U3(r:R A):R A:=match r with
 |.ok x S2=>.ok x S2|_=>.stk
@[simp] theorem YW:U3 (.ok x S)=.ok x S:=rfl
def U4(k:Nat)(fM:FM)(x:A)(S:ag)(o:Option (Nat×List (Str×D))):R A:=match o with
 |some (k',_)=>if k'=k then U3 (fM [x] S) else .stk
 |none=>.stk
@[simp] theorem Ro:U4 k fM x S (some (k,fs))=U3 (fM [x] S):=if_pos rfl
@[simp] theorem NM:CL k fM mo ρ S=(mo ρ S).bind λo S1=>U4 k fM o S1 (c0 o S1):=by unfold CL U4 U3;rfl
def EX(k:Nat)(m:Str)(S:ag)(o:Option (Nat×List (Str×D)))(u:R A):R A:=match o with
 |some (k',fs)=>if k'=k/\(fs.lookup m).isNone=true then u else .stk
 |none=>.stk
theorem Ma{m:Str}{u:R A}(h:fs.lookup m=none):EX k m S (some (k,fs)) u=u:=by unfold EX;simp[h]
@[simp] theorem IF{m:Str}:fb k m fM mo r ρ S=(mo ρ S).bind λo S1=>EX k m S1 (c0 o S1) ((r ρ S1).bind λxs S2=>fM (o::xs) S2):=by unfold fb EX;rfl
theorem U5{fM:FM}(h:mt k=some fM):b7 mt [.v (.obj k fs)] S=HW (fM [.v (.obj k fs)] S):=by unfold b7;simp[h]
theorem IP(h:c0 x S=none):b7 mt [x] S=.xm (cj [x] S) S:=by unfold b7;simp[h]
theorem IQ{neg:Bool->Bool}{g:tK}(h:c0 x S=none)(h2:c0 y S=none):nE mt neg g x y S=.xm (g x y S) S:=by unfold nE;simp[h,h2]
theorem YX{i:Int}(h:0<=i/\i<9223372036854775808):HW (.ok (.v (.int i)) S)=.ok (.v (.int i)) S:=if_pos h
@[simp] theorem aeh:adF (.ok (.v (.str z)) S)=.ok (.v (.str z)) S:=rfl
@[simp] theorem ae7{f:Bool->Bool}{q:Bool}:Ub f (.ok (.v (.bl q)) S)=.ok (.v (.bl (f q))) S:=rfl
@[simp] theorem ac7{ms:List EM}:aa2 ms ρ S=XY ms Str.empty ρ S:=rfl
@[simp] theorem ac8:XY [] z ρ S=.ok (.v (.str z)) S:=rfl
def jsR(ms:List EM)(acc:Str)(ρ:Env)(x:A)(S:ag):R A:=match x with
 |.v (.str y)=>if (acc++y).length<=cE then XY ms (acc++y) ρ S else .stk
 |_=>.stk
@[simp] theorem abF{m:EM}{ms:List EM}:XY (m::ms) z ρ S=(m ρ S).bind λx S1=>jsR ms z ρ x S1:=by rw[XY];unfold jsR;rfl
def abG(x:A)(S:ag):R A:=match x with
 |.v (.str y)=>if y.length<=cE then .ok (.v (.str y)) S else .stk
 |.v (.int i)=>if i.natAbs.log2<1920 then .ok (.v (.str (toString i))) S else .stk
 |_=>.stk
@[simp] theorem aei:aa1 ma ρ S=(ma ρ S).bind abG:=by unfold aa1 abG;rfl
theorem DJ{cs:List Nat}{j:Nat}(h:cs.contains j=true)(h2:cs.contains k=true):GB cs [.v (.obj k fs),.v (.cls j)] S=some (.v (.bl (k == j))):=by unfold GB;simp only[h,if_true,NL,h2,nC]
def A3(l:List Nat):Bool:=l.all λc=>decide (c<1114112)
theorem Ks{l:List Nat}(h:A3 l=true):PySem.PyData.strOk (sL l)=true:=by unfold PySem.PyData.strOk sL;rw[Array.all_eq_true'];intro c hc;have:=List.all_eq_true.mp h c (by simpa using hc);simpa using this
theorem l6{a b:List Nat}(h:A3 a=true)(h2:A3 b=true):SeqAt.shaped (.tuple [.str (sL a),.str (sL b)])=true:=by unfold SeqAt.shaped;simp[PySem.PyData.canLay0,PySem.PyData.canLayAll0,Ks h,Ks h2,PySem.PyData.depth,PySem.PyData.depthAll]
theorem DK{a1 a2 b1 b2:List Nat}(h:SeqAt.shaped (.tuple [.str (sL a1),.str (sL a2)])=true)(h2:SeqAt.shaped (.tuple [.str (sL b1),.str (sL b2)])=true):eU (.v (.tup [.str (sL a1),.str (sL a2)])) (.v (.tup [.str (sL b1),.str (sL b2)])) S=some (.v (.bl (decide (a1=b1)&&decide (a2=b2)))):=by
 have e:eU (.v (.tup [.str (sL a1),.str (sL a2)])) (.v (.tup [.str (sL b1),.str (sL b2)])) S=(if SeqAt.shaped (.tuple [.str (sL a1),.str (sL a2)])=true/\SeqAt.shaped (.tuple [.str (sL b1),.str (sL b2)])=true then some (nC ((sL a1 == sL b1)&&((sL a2 == sL b2)&&true))) else none):=rfl;rw[e,if_pos ⟨h,h2⟩];have bb:∀x y:List Nat,(x == y)=decide (x=y):=λx y=>by rw[Bool.eq_iff_iff];simp
 simp only[Yv,Bool.and_true,nC,bb]
@[simp] theorem ac9:b7 mt [.v (.str z)] S=.xm (cj [.v (.str z)] S) S:=IP rfl
@[simp] theorem U6:b7 mt [.v (.lst xs)] S=.xm (cj [.v (.lst xs)] S) S:=IP rfl
@[simp] theorem ada:b7 mt [.v (.tup xs)] S=.xm (cj [.v (.tup xs)] S) S:=IP rfl
@[simp] theorem adb{u v:Str}:nE mt neg g (.v (.str u)) (.v (.str v)) S=.xm (g (.v (.str u)) (.v (.str v)) S) S:=IQ rfl rfl
@[simp] theorem ade:nE mt neg g (.v (.int i)) (.v (.int j)) S=.xm (g (.v (.int i)) (.v (.int j)) S) S:=IQ rfl rfl
@[simp] theorem adf{u v:List D}:nE mt neg g (.v (.lst u)) (.v (.lst v)) S=.xm (g (.v (.lst u)) (.v (.lst v)) S) S:=IQ rfl rfl
@[simp] theorem adg{u v:List D}:nE mt neg g (.v (.tup u)) (.v (.tup v)) S=.xm (g (.v (.tup u)) (.v (.tup v)) S) S:=IQ rfl rfl
end
theorem Kt(s sub:Str)(hi:Nat):∀(l:List Nat) (free:Nat),(∀i∈l,free<=i) ->
  (forIn l ((#[]:Array Nat),free) (PySem.StrLaws.occBody s sub hi 1)).run.fst=match l.find? (λi=>decide (i+sub.length<=hi/\Builtin.Str.subAt s sub i=true)) with|some i=>#[i]|none=>#[]
 |[],free,_=>rfl|a::l,free,hf=>by
  rw[List.forIn_cons];have ha:free<=a:=hf a (List.mem_cons_self ..);by_cases hc:a+sub.length<=hi/\Builtin.Str.subAt s sub a=true
  ·rw[List.find?_cons_of_pos (by simpa using hc)];unfold PySem.StrLaws.occBody;rw[if_pos ⟨⟨⟨by simp,ha⟩,hc.1⟩,hc.2⟩];have key:∀(l:List Nat) (st:Array Nat×Nat),st.fst.size=1->(forIn l st (PySem.StrLaws.occBody s sub hi 1)).run.fst=st.fst:=by
    intro l;induction l with
    |nil=>intro st _;rfl
    |cons b l ih =>intro st h1;rw[List.forIn_cons];unfold PySem.StrLaws.occBody;rw[if_neg (by omega)];exact ih st h1
   exact key l _ rfl
  ·rw[List.find?_cons_of_neg (by simpa using hc)];unfold PySem.StrLaws.occBody;rw[if_neg (λh=>hc ⟨h.1.2,h.2⟩)];exact Kt s sub hi l free λi hi'=>hf i (List.mem_cons_of_mem _ hi')
theorem YY{l:List Nat}{c:Nat}(h:c∈l):Builtin.Str.occurrences (sL l) (sL [c]) 0 (sL l).length 1=[l.idxOf c]:=by
 rw[PySem.StrLaws.occ_eq,Kt _ _ _ _ _ (λ_ _=>Nat.zero_le _)];have hp:∀i,(i+(sL [c]).length<=(sL l).length/\Builtin.Str.subAt (sL l) (sL [c]) i=true)↔l[i]?=some c:=λi=>by have:=PySem.StrLaws.subAt_one (sL l) c i;rwa[Iv]at this
 have hl:l.idxOf c<l.length:=List.idxOf_lt_length_of_mem h;have e:(List.range' 0 ((sL l).length+1-0)).find? (λi=>decide (i+(sL [c]).length<=(sL l).length/\Builtin.Str.subAt (sL l) (sL [c]) i=true))=some (l.idxOf c):=by
  rw[<-List.range_eq_range',List.find?_range_eq_some];refine⟨?_,by rw[List.mem_range,xQ];omega,λj hj=>?_⟩;·rw[decide_eq_true_eq,hp,List.getElem?_eq_getElem hl];simp
  ·have:¬l[j]?=some c:=λe=>by have hjl:j<l.length:=(by omega);rw[List.getElem?_eq_getElem hjl]at e;have:=List.not_of_lt_findIdx (xs:=l) (p:=(· == c)) (i:=j) hj;simp at this e;exact this e
   simp only[Bool.not_eq_true',decide_eq_false_iff_not,hp];exact this
 rw[e]
section
variable {ρ:Env}{S S1 S2:ag}{x:A}{mo:EM}{r rk:AM}{k a b n:Nat}{fM:FM}{ix:List Nat}{d:D}{xs ds:List D}{l:List Nat}{c:Nat}{ty:String}{g:O9}{z:Str}
theorem Pe(h:c∈l):rg (.v (.str (sL l))) [.v (.str (sL [c]))] S=some (.v (.int (l.idxOf c:Nat)),S):=by unfold rg;simp only[YY h]
def abH(o:Option (A×ag)):R A:=match o with
 |some (z,S3)=>.ok z S3|none=>.stk
@[simp] theorem Rr:abH (some (x,S))=.ok x S:=rfl
@[simp] theorem Mb:mR ty g mo r ρ S=(mo ρ S).bind λo S1=>if zw o S1=some ty then(r ρ S1).bind λxs S2=>abH (g o xs S2) else .stk:=rfl
theorem WI(h:S[n]?=some (.lst ds)):zw (.m n) S=some "list" := by unfold zw;simp only[h]
theorem GV(h:S[n]?=some (.lst ds))(hl:ds.length<1000000):cI (.m n) [.v d] S=some (.v .non,S.set n (.lst (ds++[d]))):=by unfold cI;simp only[h];exact if_pos hl
@[simp] theorem IS:rS [.v (.lst xs)] S=some (.v (.tup xs)):=rfl
@[simp] theorem adh:rS [.v (.tup xs)] S=some (.v (.tup xs)):=rfl
@[simp] theorem abI:qA [.v (.lst xs)] S=some (.v (.lst xs)):=rfl
@[simp] theorem abJ:qA [.v (.fz xs)] S=some (.v (.lst xs)):=rfl
@[simp] theorem abK:qA [.v (.tup xs)] S=some (.v (.lst xs)):=rfl
@[simp] theorem abL{m:Str}:QN k m a b ix fM mo r rk ρ S=(mo ρ S).bind λo S1=>EX k m S1 (c0 o S1) ((r ρ S1).bind λxs S2=>(rk ρ S2).bind λzs S3=>if xs.length=a/\zs.length=b then fM (perm ix (o::xs++zs)) S3 else .stk):=by unfold QN EX;rfl
theorem GW:MN n (.ok (.v d) S)=.ok (.v d) (S.take n):=rfl
theorem abM(h:S[k]?=some (.lst ds))(hk:n<=k):MN n (.ok (.m k) S)=.ok (.v (.lst ds)) (S.take n):=by simp only[MN];rw[if_neg (by omega)];simp only[h]
@[simp] theorem WJ{ys:List A}:PH fM ys S=MN S.length (fM ys S):=rfl
@[simp] theorem WK{m:SM}:Ey m ρ S=ZU S.length (m ρ S):=rfl
theorem YZ{T:ag}:ZU n (.nx ρ T)=.nx (ρ.map (fA n T)) (T.take n):=rfl
theorem A4{T:ag}:fA n T (some (.v d))=some (.v d):=rfl
theorem w6{T:ag}(h:k<n):fA n T (some (.m k))=some (.m k):=if_pos h
theorem Ru{T:ag}:fA n T none=none:=rfl
theorem CS{T:ag}(hk:n<=k)(h:T[k]?=some (.lst ds)):fA n T (some (.m k))=some (.v (.lst ds)):=by simp only[fA];rw[if_neg (by omega)];simp only[h]
end
section
open L2H (RoomH PinOk cxH inv_startH roomH_of)
set_option genInjectivity false in
set_option genSizeOf false in
set_option genSizeOfSpec false in
structure G (P:Program) (w:World) (K:PySem.W.Frag) (cA:Nat->Addr) (mg:Str->Option Value) where
 lu:Addr
 jf:FuncData
 ly:Fun K "__eq__" "Alphabet.__eq__" uv lu jf
 uK:Binds K jf ["self", "other"] []
 uL:PySem.W.keepIn K (.ref lu)=true
 jY:Addr
 il:FuncData
 jZ:Fun K "__eq__" "Automaton.__eq__" rG jY il
 yE:Binds K il ["self", "other"] []
 sj:PySem.W.keepIn K (.ref jY)=true
 pV:Addr
 mq:FuncData
 pW:Fun K "is_number" "is_number" xw pV mq
 Dd:Binds K mq ["value"] []
 De:mg "is_number" = some (.ref pV)
 uh:PySem.W.keepIn K (.ref pV)=true
 pX:Addr
 mr:FuncData
 pY:Fun K "is_within" "is_within" xy pX mr
 yF:Binds K mr ["value", "least", "most"] []
 yG:mg "is_within" = some (.ref pX)
 pZ:PySem.W.keepIn K (.ref pX)=true
 vq:Addr
 rD:FuncData
 vr:Fun K "is_list" "is_list" BK vq rD
 vt:Binds K rD ["value"] []
 vw:mg "is_list" = some (.ref vq)
 oz:PySem.W.keepIn K (.ref vq)=true
 qb:Addr
 mw:FuncData
 qc:Fun K "are_goals" "are_goals" pD qb mw
 Df:Binds K mw ["goals", "many", "width"] []
 Dg:mg "are_goals" = some (.ref qb)
 ui:PySem.W.keepIn K (.ref qb)=true
 j3:Addr
 iq:FuncData
 j4:Fun K "__len__" "Alphabet.__len__" rH j3 iq
 yH:Binds K iq ["self"] []
 so:PySem.W.keepIn K (.ref j3)=true
 sr:Addr
 oA:FuncData
 su:Fun K "are_ends" "are_ends" rJ sr oA
 Fy:Binds K oA ["ends", "many"] []
 Fz:mg "are_ends" = some (.ref sr)
 wK:PySem.W.keepIn K (.ref sr)=true
 ir:Addr
 fh:FuncData
 iu:Fun K "__init__" "Automaton.__init__" g7 ir fh
 iy:Binds K fh ["self", "alphabet", "goals", "ends"] []
 oC:PySem.W.keepIn K (.ref ir)=true
 iz:Addr
 fk:FuncData
 iA:Fun K "automaton_from" "automaton_from" j9 iz fk
 vz:Binds K fk ["alphabet", "table"] []
 vA:mg "automaton_from" = some (.ref iz)
 kE:PySem.W.keepIn K (.ref iz)=true
 jg:Addr
 gS:FuncData
 lz:Fun K "live_places" "live_places" oV jg gS
 zB:Binds K gS ["goals", "ends"] []
 zC:mg "live_places" = some (.ref jg)
 pj:PySem.W.keepIn K (.ref jg)=true
 gj:Addr
 eK:FuncData
 i4:Fun K "class_numbers" "class_numbers" bY gj eK
 w9:Binds K eK ["goals", "ends"] []
 xa:mg "class_numbers" = some (.ref gj)
 lL:PySem.W.keepIn K (.ref gj)=true
 iB:Addr
 fm:FuncData
 iD:Fun K "begin" "Quotient.begin" nN iB fm
 vB:Binds K fm ["self"] []
 oD:PySem.W.keepIn K (.ref iB)=true
 iE:Addr
 fq:FuncData
 iF:Fun K "later" "Quotient.later" nO iE fq
 vC:Binds K fq ["self", "state", "letter"] []
 oE:PySem.W.keepIn K (.ref iE)=true
 eQ:Addr
 dg:FuncData
 eR:Fun K "is_final" "Quotient.is_final" kP eQ dg
 qR:Binds K dg ["self", "state"] []
 kY:PySem.W.keepIn K (.ref eQ)=true
 ft:Addr
 dE:FuncData
 iG:Fun K "explored_table" "explored_table" ka ft dE
 vD:Binds K dE ["machine", "width"] []
 vF:mg "explored_table" = some (.ref ft)
 kF:PySem.W.keepIn K (.ref ft)=true
 i6:Addr
 gm:FuncData
 i7:Fun K "__init__" "Quotient.__init__" qi i6 gm
 xb:Binds K gm ["self", "goals", "ends", "numbers", "samples"] []
 qF:PySem.W.keepIn K (.ref i6)=true
 gn:Addr
 eM:FuncData
 i8:Fun K "reduced_table" "reduced_table" gi gn eM
 xc:Binds K eM ["table", "width"] []
 xf:mg "reduced_table" = some (.ref gn)
 lM:PySem.W.keepIn K (.ref gn)=true
 gF:Addr
 dY:FuncData
 gH:Fun K "least" "Automaton.least" jq gF dY
 dZ:Binds K dY ["self"] []
 nf:PySem.W.keepIn K (.ref gF)=true
 i9:Addr
 gu:FuncData
 ja:Fun K "__len__" "Automaton.__len__" qj i9 gu
 xg:Binds K gu ["self"] []
 qG:PySem.W.keepIn K (.ref i9)=true
 sv:Addr
 oF:FuncData
 sD:Fun K "_law_pick" "_law_pick" zI sv oF
 oG:Binds K oF ["_law_hand_here", "_law_sides"] []
 oH:mg "_law_pick" = some (.ref sv)
 j5:PySem.W.keepIn K (.ref sv)=true
 yJ:Addr
 vG:FuncData
 yK:Fun K "_law_of" "_law_of" D7 yJ vG
 yL:Binds K vG ["_law_hand_here", "_law_things"] []
 yM:mg "_law_of" = some (.ref yJ)
 sM:PySem.W.keepIn K (.ref yJ)=true
 ng:Addr
 kH:FuncData
 nh:Fun K "are_digits" "are_digits" qW ng kH
 BD:Binds K kH ["value", "many"] []
 BE:mg "are_digits" = some (.ref ng)
 rq:PySem.W.keepIn K (.ref ng)=true
 sN:Addr
 oI:FuncData
 sO:Fun K "is_small" "is_small" vP sN oI
 FA:Binds K oI ["value"] []
 FC:mg "is_small" = some (.ref sN)
 wM:PySem.W.keepIn K (.ref sN)=true
 lA:Addr
 jh:FuncData
 lB:Fun K "are_letters" "are_letters" oW lA jh
 uM:Binds K jh ["value"] []
 uN:mg "are_letters" = some (.ref lA)
 lC:PySem.W.keepIn K (.ref lA)=true
 jb:Addr
 gv:FuncData
 jc:Fun K "__init__" "Alphabet.__init__" qo jb gv
 qH:Binds K gv ["self", "letters", "colors"] []
 qI:PySem.W.keepIn K (.ref jb)=true
 iH:Addr
 dF:FuncData
 fu:Fun K "plain" "Alphabet.plain" nP iH dF
 Cw:Binds K dF ["letters"] []
 oJ:PySem.W.keepIn K (.ref iH)=true
 oK:Addr
 lW:FuncData
 sP:Fun K "_law_like" "_law_like" vQ oK lW
 wO:Binds K lW ["_law_found", "_law_due"] []
 wQ:mg "_law_like" = some (.ref oK)
 oL:PySem.W.keepIn K (.ref oK)=true
 iJ:Addr
 fv:FuncData
 iK:Fun K "ends" "Automaton.ends" kg iJ fv
 oM:Binds K fv ["self"] []
 oN:PySem.W.keepIn K (.ref iJ)=true
 gI:Addr
 d3:FuncData
 gJ:Fun K "goals" "Automaton.goals" mF gI d3
 nj:Binds K d3 ["self"] []
 nq:PySem.W.keepIn K (.ref gI)=true
 fy:Addr
 dG:FuncData
 iL:Fun K "_law_long_chain" "_law_long_chain" nQ fy dG
 vH:Binds K dG ["_law_hand_here"] []
 vI:mg "_law_long_chain" = some (.ref fy)
 kJ:PySem.W.keepIn K (.ref fy)=true
 jd:Addr
 gy:FuncData
 je:Fun K "_law_all_words" "_law_all_words" lH jd gy
 xh:Binds K gy ["_law_letters", "_law_length"] []
 xi:mg "_law_all_words" = some (.ref jd)
 lN:PySem.W.keepIn K (.ref jd)=true
 fT:Addr
 dH:FuncData
 fU:Fun K "letters" "Alphabet.letters" lP fT dH
 sQ:Binds K dH ["self"] []
 lX:PySem.W.keepIn K (.ref fT)=true
 cL:Addr
 bZ:FuncData
 cM:Fun K "place_behind" "Automaton.place_behind" gO cL bZ
 lD:Binds K bZ ["self", "place", "word"] []
 gT:PySem.W.keepIn K (.ref cL)=true
 fV:Addr
 dI:FuncData
 fW:Fun K "is_word" "Alphabet.is_word" iP fV dI
 sR:Binds K dI ["self", "value"] []
 lY:PySem.W.keepIn K (.ref fV)=true
 eS:Addr
 dh:FuncData
 eT:Fun K "accepts" "Automaton.accepts" kQ eS dh
 qS:Binds K dh ["self", "word"] []
 kZ:PySem.W.keepIn K (.ref eS)=true
 sS:Addr
 oO:FuncData
 sT:Fun K "_law_move" "_law_move" zJ sS oO
 FE:Binds K oO ["_law_table", "_law_place", "_law_k"] []
 FF:mg "_law_move" = some (.ref sS)
 wR:PySem.W.keepIn K (.ref sS)=true
 sU:Addr
 oP:FuncData
 sV:Fun K "_law_walk" "_law_walk" zK sU oP
 FG:Binds K oP ["_law_table", "_law_letters", "_law_word"] []
 FH:mg "_law_walk" = some (.ref sU)
 wU:PySem.W.keepIn K (.ref sU)=true
 dR:Addr
 cT:FuncData
 dS:Fun K "alphabet" "Automaton.alphabet" jI dR cT
 qe:Binds K cT ["self"] []
 j6:PySem.W.keepIn K (.ref dR)=true
 sW:Addr
 oQ:FuncData
 sX:Fun K "_law_ends" "_law_ends" vR sW oQ
 Ar:Binds K oQ ["_law_table"] []
 As:mg "_law_ends" = some (.ref sW)
 sY:PySem.W.keepIn K (.ref sW)=true
 nr:Addr
 kK:FuncData
 nt:Fun K "_law_unlike" "_law_unlike" qX nr kK
 BF:Binds K kK ["_law_things"] []
 BG:mg "_law_unlike" = some (.ref nr)
 rA:PySem.W.keepIn K (.ref nr)=true
 ji:Addr
 gU:FuncData
 lE:Fun K "_law_reduced" "_law_reduced" br ji gU
 zD:Binds K gU ["_law_table", "_law_width"] []
 zE:mg "_law_reduced" = some (.ref ji)
 pq:PySem.W.keepIn K (.ref ji)=true
 d6:Addr
 da:FuncData
 gK:Fun K "_law_drawn_table" "_law_drawn_table" gA d6 da
 uj:Binds K da ["_law_hand_here", "_law_width", "_law_most"] []
 uk:mg "_law_drawn_table" = some (.ref d6)
 jF:PySem.W.keepIn K (.ref d6)=true
 gL:Addr
 d7:FuncData
 gM:Fun K "_law_small_signs" "_law_small_signs" jr gL d7
 um:Binds K d7 ["_law_hand_here"] []
 uo:mg "_law_small_signs" = some (.ref gL)
 jG:PySem.W.keepIn K (.ref gL)=true
 sZ:Addr
 oR:FuncData
 s7:Fun K "_law_hand" "_law_hand" zL sZ oR
 FI:Binds K oR ["_law_script"] []
 FJ:mg "_law_hand" = some (.ref sZ)
 wV:PySem.W.keepIn K (.ref sZ)=true
 zF:mg "all" = none
 Xc:mg "any" = none
 Js:mg "bool" = none
 My:mg "dict" = none
 j7:mg "enumerate" = none
 s8:mg "int" = none
 aX:mg "isinstance" = none
 cN:mg "len" = none
 qL:mg "list" = none
 gZ:mg "range" = none
 FL:mg "sorted" = none
 Hi:mg "str" = none
 pA:mg "tuple" = none
 OK:mg "zip" = none
 qM:Value
 xj:mg "MOST_LETTERS" = some qM
 xk:L2.RelV (.int 8) qM
 s9:Value
 yN:mg "MOST_PLACES" = some s9
 yO:L2.RelV (.int 200) s9
 FN:Value
 Lg:mg "SMALL" = some FN
 Lh:L2.RelV (.str "abcdefghijklmnopqrstuvwxyz") FN
 oS:mg "Alphabet" = some (.ref (cA 0))
 my:mg "Automaton" = some (.ref (cA 1))
 FO:mg "Quotient" = some (.ref (cA 70))
 mz:Cls K (cA 0)
 yP:Mk K (cA 0) jb
 bW:Cls K (cA 1)
 nu:Mk K (cA 1) ir
 uq:Cls K (cA 70)
 Dh:Mk K (cA 70) i6
 nv:mg "InvalidAlphabet" = some (.ref (cA 10))
 ny:ZT P K mg (cA 10) ["self", "given"] [("given",.inl 0),("code",.inr "InvalidAlphabet")]
 th:mg "InvalidAutomaton" = some (.ref (cA 18))
 ti:ZT P K mg (cA 18) ["self"] [("code",.inr "InvalidAutomaton")]
 zG:mg "InvalidWord" = some (.ref (cA 13))
 zH:ZT P K mg (cA 13) ["self", "given"] [("given",.inl 0),("code",.inr "InvalidWord")]
 qT:Addr
 tj:PropOf K (cA 0) "letters" qT fT
 nK:Addr
 qg:PropOf K (cA 1) "alphabet" nK dR
 uO:Meth K (cA 0) "__eq__" lu
 yQ:Meth K (cA 0) "__len__" j3
 tn:Meth K (cA 0) "is_word" fV
 yR:Meth K (cA 1) "__eq__" jY
 xl:Meth K (cA 1) "__len__" i9
 qU:Meth K (cA 1) "accepts" eS
 oT:Meth K (cA 1) "ends" iJ
 nz:Meth K (cA 1) "goals" gI
 eh:Meth K (cA 1) "least" gF
 lF:Meth K (cA 1) "place_behind" cL
 vJ:Meth K (cA 70) "begin" iB
 qV:Meth K (cA 70) "is_final" eQ
 vK:Meth K (cA 70) "later" iE
 nA:QK K (cA 0) "plain" iH
 lO:∀k∈[0],Cls K (cA k)/\NoAttr K (cA k) "own_digits"
 dJ:∀k∈[0],Cls K (cA k)/\NoAttr K (cA k) "own_letters"
 cf:∀k∈[1],Cls K (cA k)/\NoAttr K (cA k) "own_alphabet"
 gV:∀k∈[1],Cls K (cA k)/\NoAttr K (cA k) "own_ends"
 de:∀k∈[1],Cls K (cA k)/\NoAttr K (cA k) "own_goals"
 yS:∀k∈[70],Cls K (cA k)/\NoAttr K (cA k) "flags"
 qN:∀k∈[70],Cls K (cA k)/\NoAttr K (cA k) "goal_rows"
 pB:∀k∈[70],Cls K (cA k)/\NoAttr K (cA k) "numbers"
 pC:∀k∈[70],Cls K (cA k)/\NoAttr K (cA k) "samples"
 k4:KB dF ["letters"] 1 [] [0]
 acp:∀T:Tb,T.K=K->T.cA=cA->Ue T [0,1]
 yT:PySem.W.findIn K (.ref (cA 0)) "__ne__" = some (some (.builtin "object.__ne__"))/\PySem.W.mroIn K (cA 0) (.type "object")=some true
 BH:PySem.W.findIn K (.ref (cA 1)) "__ne__" = some (some (.builtin "object.__ne__"))/\PySem.W.mroIn K (cA 1) (.type "object")=some true
theorem G.isi{P:Program}{w:World}{T:Tb}{mg:Str->Option Value}(g:G P w T.K T.cA mg):Ue T [0,1]:=g.acp T rfl rfl
end
section
variable {P:Program}{mg:Str->Option Value}{base:Heap}{T:Tb}
open PySem PySem.Spec PyProof.Rows L2 NdefX LamX
open L2H (RoomH PinOk cxH inv_startH roomH_of)
def xT:SM:=aG (uP (hV (tE (au (GB [0,1]) (aa (eV 1) (aa (eC (.cls 0)) ah))))) (ck (eC (.bl false))) iR) (ck (aA eU (mK (aa (fZ [0] "own_letters" (eV 0)) (aa (fZ [0] "own_digits" (eV 0)) ah))) (mK (aa (fZ [0] "own_letters" (eV 1)) (aa (fZ [0] "own_digits" (eV 1)) ah)))))
def fH:FM:=bU 2 2 xT
theorem EY:FnScope ["self", "other"] ["self", "other"] (defScope uv):=⟨rfl,rfl,rfl,by decide +kernel,rfl,by decide +kernel,by decide +kernel⟩
theorem xU(g:G P T.w T.K T.cA mg):FD P T.w T mg base 2 g.lu g.jf ["self", "other"] fH:=
 cD g.ly EY λcdv A outer s H E hr L hp=>aw (iN (lS (mM L (aF (Ew L.k g.isi) (by rfl) g.aX (by rfl) (af (aj 1) (af (QL 0 (by rfl) g.oS) ai))))) (aB (aP pF)) eA) (aB (aP (fF (iS L.k hr.units) (jL (af (cK L.k g.dJ (aj 0)) (af (cK L.k g.lO (aj 0)) ai))) (jL (af (cK L.k g.dJ (aj 1)) (af (cK L.k g.lO (aj 1)) ai))))))
def iU:Nat->Option FM:=λk=>if k=0 then some fH else none
theorem vf{X:Cx}{T:Tb}(g:G X.prog T.w T.K T.cA X.mg)(hK:X.K=T.K:=by rfl)(hw:X.w=T.w:=by rfl):LJ X T "__eq__" 2 iU:=λk fM h=>by
 unfold iU at h;have key:∀K w0,K=T.K->w0=T.w->∃f fd ps,Cls K (T.cA k)/\Meth K (T.cA k) "__eq__" f/\FnOk X.prog w0 K X.mg X.base (Au T.nn X.prog w0) 2 f fd ps (FW T fM)/\Binds K fd ps []:=by rintro _ _ rfl rfl;split at h;rename_i hk;subst hk;cases h;exact⟨_,_,_,g.mz,g.uO,FnOk.mono (xU (base:=X.base) g) (by decide:2<=2),g.uK⟩;cases h
 exact key _ _ hK hw
theorem Dl{X:Cx}{T:Tb}(g:G X.prog T.w T.K T.cA X.mg)(hK:X.K=T.K:=by rfl)(hw:X.w=T.w:=by rfl):NeT X T iU:=λk fM h=>by unfold iU at h;split at h;rename_i hk;subst hk;rw[hK];exact g.yT;cases h
def Dm:SM:=aG (uP (uA (hV (tE (au (GB [0,1]) (aa (eV 1) (aa (eC (.cls 1)) ah))))) (tE (wa (nE iU (!·) mD) (fZ [1] "own_alphabet" (eV 0)) (fZ [1] "own_alphabet" (eV 1))))) (ck (eC (.bl false))) iR) (ck (wa (nE iU id eU) (mK (aa (fZ [1] "own_goals" (eV 0)) (aa (fZ [1] "own_ends" (eV 0)) ah))) (mK (aa (fZ [1] "own_goals" (eV 1)) (aa (fZ [1] "own_ends" (eV 1)) ah)))))
def lI:FM:=bU 2 2 Dm
theorem Dq:FnScope ["self", "other"] ["self", "other"] (defScope rG):=⟨rfl,rfl,rfl,by decide +kernel,rfl,by decide +kernel,by decide +kernel⟩
theorem Dr(g:G P T.w T.K T.cA mg):FD P T.w T mg base 4 g.jY g.il ["self", "other"] lI:=
 cD g.jZ Dq λcdv A outer s H E hr L hp=>aw (iN (xF (w4 (lS (mM L (aF (Ew L.k g.isi) (by rfl) g.aX (by rfl) (af (aj 1) (af (QL 1 (by rfl) g.my) ai))))) (uB (AN L (AL L (hr.mono (by omega)) (vf g) (Dl g) (oX L.k hr.units)) (AO qZ) (cK L.k g.cf (aj 0)) (cK L.k g.cf (aj 1)))))) (aB (aP pF)) eA) (aB (aP (Ni (Nj L (hr.mono (by omega)) (vf g) (iS L.k hr.units)) (jL (af (cK L.k g.de (aj 0)) (af (cK L.k g.gV (aj 0)) ai))) (jL (af (cK L.k g.de (aj 1)) (af (cK L.k g.gV (aj 1)) ai))))))
def aE:Nat->Option FM:=λk=>if k=0 then some fH else if k=1 then some lI else none
theorem cw{X:Cx}{T:Tb}(g:G X.prog T.w T.K T.cA X.mg)(hK:X.K=T.K:=by rfl)(hw:X.w=T.w:=by rfl):LJ X T "__eq__" 4 aE:=λk fM h=>by
 unfold aE at h;have key:∀K w0,K=T.K->w0=T.w->∃f fd ps,Cls K (T.cA k)/\Meth K (T.cA k) "__eq__" f/\FnOk X.prog w0 K X.mg X.base (Au T.nn X.prog w0) 4 f fd ps (FW T fM)/\Binds K fd ps []:=by rintro _ _ rfl rfl;split at h;rename_i hk;subst hk;cases h;exact⟨_,_,_,g.mz,g.uO,FnOk.mono (xU (base:=X.base) g) (by decide:2<=4),g.uK⟩;split at h;rename_i hk;subst hk;cases h;exact⟨_,_,_,g.bW,g.yR,FnOk.mono (Dr (base:=X.base) g) (by decide:4<=4),g.yE⟩;cases h
 exact key _ _ hK hw
theorem dq{X:Cx}{T:Tb}(g:G X.prog T.w T.K T.cA X.mg)(hK:X.K=T.K:=by rfl)(hw:X.w=T.w:=by rfl):NeT X T aE:=λk fM h=>by unfold aE at h;split at h;rename_i hk;subst hk;rw[hK];exact g.yT;split at h;rename_i hk;subst hk;rw[hK];exact g.BH;cases h
def wu:SM:=ck (og (au dN (aa (eV 0) (aa (eC (.ty "int")) ah))) (TU (au dN (aa (eV 0) (aa (eC (.ty "bool")) ah)))))
def rj:FM:=bU 1 1 wu
theorem IT:FnScope ["value"] ["value"] (defScope xw):=⟨rfl,rfl,rfl,by decide +kernel,rfl,by decide +kernel,by decide +kernel⟩
theorem IU(g:G P T.w T.K T.cA mg):FD P T.w T mg base 2 g.pV g.mq ["value"] rj:=
 cD g.pW IT λcdv A outer s H E hr L hp=>aB (aP (jM L (aF (df L.k) (by rfl) g.aX (by rfl) (af (aj 0) (af (rO (by rfl) g.s8 (by rfl)) ai))) (kT (XF L (aF (df L.k) (by rfl) g.aX (by rfl) (af (aj 0) (af (rO (by rfl) g.Js (by rfl)) ai)))))))
def wx:SM:=ck (og (aS rj (aa (eV 0) ah)) (Hz Xy Xy (eV 1) (eV 0) (eV 2)))
def gC:FM:=bU 3 3 wx
theorem IV:FnScope ["value", "least", "most"] ["value", "least", "most"] (defScope xy):=⟨rfl,rfl,rfl,by decide +kernel,rfl,by decide +kernel,by decide +kernel⟩
theorem A5(g:G P T.w T.K T.cA mg):FD P T.w T mg base 3 g.pX g.mr ["value", "least", "most"] gC:=
 cD g.pY IV λcdv A outer s H E hr L hp=>aB (aP (jM L (aU L (IU g) (hr.mono (by omega)) (by rfl) g.De g.uh g.Dd (af (aj 0) ai)) (kT (JL (HH) (HH) (aj 1) (aj 0) (aj 2)))))
def EZ:SM:=ck (M8 ["list", "tuple"] (eV 0))
def eG:FM:=bU 1 1 EZ
theorem Mc:FnScope ["value"] ["value"] (defScope BK):=⟨rfl,rfl,rfl,by decide +kernel,rfl,by decide +kernel,by decide +kernel⟩
theorem wy(g:G P T.w T.K T.cA mg):FD P T.w T mg base 2 g.vq g.rD ["value"] eG:=
 cD g.vr Mc λcdv A outer s H E hr L hp=>aB (aP (M9 L.k (by rfl) g.aX (aj 0) ⟨_,_,rfl,pe_bltn (by rfl) g.qL (by rfl) rfl (by decide) (by decide),by rfl,⟨_,_,rfl,pe_bltn (by rfl) g.pA (by rfl) rfl (by decide) (by decide),by rfl,rfl⟩⟩ (by decide)))
def A6:SM:=aG (uP (uA (hV (tE (aS eG (aa (eV 0) ah)))) (hV (tE (au xH (aa (fX [3] (cJ (eV 0)) (.nm 3) aL (og (aS eG (aa (eV 3) ah)) (aA eU (au cj (aa (eV 3) ah)) (eV 2)))) ah))))) (ck (eC (.bl false))) iR) (ck (au xH (aa (LN [3,4] [4] (cJ (eV 0)) (.nm 3) aL (cJ (eV 3)) (.nm 4) aL (aS gC (aa (eV 4) (aa (xt jl (eC (.int 1))) (aa (aA gSub (eV 1) (eC (.int 1))) ah))))) ah)))
def kq:FM:=bU 3 5 A6
theorem kr:FnScope ["goals", "many", "width", "row", "goal"] ["goals", "many", "width"] (defScope pD):=⟨rfl,rfl,rfl,by decide +kernel,rfl,by decide +kernel,by decide +kernel⟩
theorem IW(g:G P T.w T.K T.cA mg):FD P T.w T mg base 4 g.qb g.mw ["goals", "many", "width"] kq:=
 cD g.qc kr λcdv A outer s H E hr L hp=>aw (iN (xF (w4 (lS (mM L (aU L (wy g) (hr.mono (by omega)) (by rfl) g.vw g.oz g.vt (af (aj 0) ai)))) (uB (lS (mM L (aF (ki L.k (by rfl)) (by rfl) g.zF (by rfl) (af (eN (own:=[("row",3)]) (by rfl) kr.nd (blkOk_by (by show blkC ["goals", "many", "width", "row", "goal"] (defScope pD) _ [("row",3)]=true;decide +kernel)) (dj L.k (aj 0)) (λ_ _ _ _ _=>(aR 3 kr.nd)) (λ_ _ _ _ _=>aY) (λ_ _ _ _ _=>jM (jw (by rfl)) (aU (jw (by rfl)) (wy g) (hr.mono (by omega)) (by rfl) g.vw g.oz g.vt (af (aj 3) ai)) (kT (fF (iS (jw (by rfl)).k hr.units) (aF (bu (jw (by rfl)).k) (by rfl) g.cN (by rfl) (af (aj 3) ai)) (aj 2))))) ai))))))) (aB (aP pF)) eA) (aB (aP (aF (ki L.k (by rfl)) (by rfl) g.zF (by rfl) (af (X6 (own:=[("row",3),("goal",4)]) (vs1:=[4]) (by rfl) kr.nd (blkOk_by (by show blkC ["goals", "many", "width", "row", "goal"] (defScope pD) _ [("row",3),("goal",4)]=true;decide +kernel)) (dj L.k (aj 0)) (λ_ _ _ _ _=>(aR 3 kr.nd)) (λ_ _ _ _ _=>aY) (λ_ _ _ _ _=>dj (jw (by rfl)).k (aj 3)) (λ_ _ _ _ _=>(aR 4 kr.nd)) (λ_ _ _ _ _=>aY) (λ_ _ _ _ _=>aU (jw (by rfl)) (A5 g) (hr.mono (by omega)) (by rfl) g.yG g.pZ g.yF (af (aj 4) (af (tL jt aq) (af (bJ yX (aj 1) aq) ai))))) ai))))
def w7:SM:=ck (au cj (aa (fZ [0] "own_letters" (eV 0)) ah))
def eI:FM:=bU 1 1 w7
theorem Ds:FnScope ["self"] ["self"] (defScope rH):=⟨rfl,rfl,rfl,by decide +kernel,rfl,by decide +kernel,by decide +kernel⟩
theorem Dt(g:G P T.w T.K T.cA mg):FD P T.w T mg base 2 g.j3 g.iq ["self"] eI:=
 cD g.j4 Ds λcdv A outer s H E hr L hp=>aB (aP (aF (bu L.k) (by rfl) g.cN (by rfl) (af (cK L.k g.dJ (aj 0)) ai)))
def cW:Nat->Option FM:=λk=>if k=0 then some eI else none
theorem mT{X:Cx}{T:Tb}(g:G X.prog T.w T.K T.cA X.mg)(hK:X.K=T.K:=by rfl)(hw:X.w=T.w:=by rfl):LJ X T "__len__" 2 cW:=λk fM h=>by
 unfold cW at h;have key:∀K w0,K=T.K->w0=T.w->∃f fd ps,Cls K (T.cA k)/\Meth K (T.cA k) "__len__" f/\FnOk X.prog w0 K X.mg X.base (Au T.nn X.prog w0) 2 f fd ps (FW T fM)/\Binds K fd ps []:=by rintro _ _ rfl rfl;split at h;rename_i hk;subst hk;cases h;exact⟨_,_,_,g.mz,g.yQ,FnOk.mono (Dt (base:=X.base) g) (by decide:2<=2),g.yH⟩;cases h
 exact key _ _ hK hw
def CT:SM:=aG (uP (uA (hV (tE (aS eG (aa (eV 0) ah)))) (hV (tE (au xH (aa (fX [2] (cJ (eV 0)) (.nm 2) aL (aS gC (aa (eV 2) (aa (eC (.int 0)) (aa (aA gSub (eV 1) (eC (.int 1))) ah))))) ah))))) (ck (eC (.bl false))) iR) (ck (au xH (aa (fX [3,4] (tQ (aa (eV 0) (aa (Wf (eV 0) (CK (eC (.int 1))) CJ) ah))) (.tp ((.nm 3)::((.nm 4)::[]))) aL (aA CF (eV 3) (eV 4))) ah)))
def l7:FM:=bU 2 5 CT
theorem l9:FnScope ["ends", "many", "place", "one", "other"] ["ends", "many"] (defScope rJ):=⟨rfl,rfl,rfl,by decide +kernel,rfl,by decide +kernel,by decide +kernel⟩
theorem Ku(g:G P T.w T.K T.cA mg):FD P T.w T mg base 4 g.sr g.oA ["ends", "many"] l7:=
 cD g.su l9 λcdv A outer s H E hr L hp=>aw (iN (xF (w4 (lS (mM L (aU L (wy g) (hr.mono (by omega)) (by rfl) g.vw g.oz g.vt (af (aj 0) ai)))) (uB (lS (mM L (aF (ki L.k (by rfl)) (by rfl) g.zF (by rfl) (af (eN (own:=[("place",2)]) (by rfl) l9.nd (blkOk_by (by show blkC ["ends", "many", "place", "one", "other"] (defScope rJ) _ [("place",2)]=true;decide +kernel)) (dj L.k (aj 0)) (λ_ _ _ _ _=>(aR 2 l9.nd)) (λ_ _ _ _ _=>aY) (λ_ _ _ _ _=>aU (jw (by rfl)) (A5 g) (hr.mono (by omega)) (by rfl) g.yG g.pZ g.yF (af (aj 2) (af aq (af (bJ yX (aj 1) aq) ai))))) ai))))))) (aB (aP pF)) eA) (aB (aP (aF (ki L.k (by rfl)) (by rfl) g.zF (by rfl) (af (eN (own:=[("one",3),("other",4)]) (by rfl) l9.nd (blkOk_by (by show blkC ["ends", "many", "place", "one", "other"] (defScope rJ) _ [("one",3),("other",4)]=true;decide +kernel)) (LB L.k (by rfl) g.OK (af (aj 0) (af (AE L.k (aj 0) (DC aq) DB) ai))) (λ_ _ _ _ _=>(uY (jw (by rfl)).k (by rfl) (bT (aR 3 l9.nd) (bT (aR 4 l9.nd) kj)))) (λ_ _ _ _ _=>aY) (λ_ _ _ _ _=>fF (vY) (aj 3) (aj 4))) ai))))
def tY:SM:=aG (bB 4 (xG (tE (aS eG (aa (eV 2) ah))) (cF (b7 cW) (aa (eV 2) ah)) (eC (.int 0)))) (aG (uP (uA (tE (aA JN (eV 4) (eC (.int 200)))) (uA (hV (tE (aS kq (aa (eV 2) (aa (eV 4) (aa (cF (b7 cW) (aa (eV 1) ah)) ah)))))) (hV (tE (aS l7 (aa (eV 3) (aa (eV 4) ah))))))) (qz 18 0 [("code",.inr "InvalidAutomaton")] ah) iR) (aG (rR [1] "own_alphabet" (eV 0) (eV 1)) (aG (rR [1] "own_goals" (eV 0) (fX [5] (cJ (eV 2)) (.nm 5) aL (au rS (aa (eV 5) ah)))) (rR [1] "own_ends" (eV 0) (fX [6] (bG (aa (eV 4) ah)) (.nm 6) aL (aA Ly (eV 6) (eV 3)))))))
def aV:FM:=bU 4 7 tY
theorem dU:FnScope ["self", "alphabet", "goals", "ends", "many", "row", "place"] ["self", "alphabet", "goals", "ends"] (defScope g7):=⟨rfl,rfl,rfl,by decide +kernel,rfl,by decide +kernel,by decide +kernel⟩
theorem jA(g:G P T.w T.K T.cA mg):FD P T.w T mg base 5 g.ir g.fh ["self", "alphabet", "goals", "ends"] aV:=
 cD g.iu dU λcdv A outer s H E hr L hp=>aw (bc 4 dU.nd (tO (mM L (aU L (wy g) (hr.mono (by omega)) (by rfl) g.vw g.oz g.vt (af (aj 2) ai))) (ff (dC L (hr.mono (by omega)) (mT g)) (by rfl) g.cN (by rfl) (af (aj 2) ai)) aq)) (aw (iN (xF (w4 (cu L (Ee) Lz (aj 4) (Xx (d:=(.int 200)) (λ_ _=>by simp only[Rep]) (by rfl) g.yN g.yO)) (w4 (lS (mM L (aU L (IW g) (hr.mono (by omega)) (by rfl) g.Dg g.ui g.Df (af (aj 2) (af (aj 4) (af (ff (dC L (hr.mono (by omega)) (mT g)) (by rfl) g.cN (by rfl) (af (aj 1) ai)) ai)))))) (uB (lS (mM L (aU L (Ku g) (hr.mono (by omega)) (by rfl) g.Fz g.wK g.Fy (af (aj 3) (af (aj 4) ai))))))))) (aB (LO L (by rfl) g.ti (hr.mono (by omega)) (by rfl) g.th)) eA) (aw (v8 L.k g.cf (aj 0) (aj 1)) (aw (v8 L.k g.de (aj 0) (eN (own:=[("row",5)]) (by rfl) dU.nd (blkOk_by (by show blkC ["self", "alphabet", "goals", "ends", "many", "row", "place"] (defScope g7) _ [("row",5)]=true;decide +kernel)) (dj L.k (aj 2)) (λ_ _ _ _ _=>(aR 5 dU.nd)) (λ_ _ _ _ _=>aY) (λ_ _ _ _ _=>bO (rT (jw (by rfl)).k) (by rfl) g.pA (by rfl) (af (aj 5) ai)))) (aB (v8 L.k g.gV (aj 0) (eN (own:=[("place",6)]) (by rfl) dU.nd (blkOk_by (by show blkC ["self", "alphabet", "goals", "ends", "many", "row", "place"] (defScope g7) _ [("place",6)]=true;decide +kernel)) (jv (by rfl) g.gZ (af (aj 4) ai)) (λ_ _ _ _ _=>(aR 6 dU.nd)) (λ_ _ _ _ _=>aY) (λ_ _ _ _ _=>fF (Eh (jw (by rfl)).k) (aj 6) (aj 3))))))))
def A7:SM:=ck (l4 1 aV (aa (eV 0) (aa (aA b6 (eV 1) (eC (.int 0))) (aa (fX [2,3] (ib (aA b6 (eV 1) (eC (.int 1)))) (.tp ((.nm 2)::((.nm 3)::[]))) (tE (eV 3)) (eV 2)) ah))))
def mU:FM:=bU 2 4 A7
theorem jB:FnScope ["alphabet", "table", "place", "is_end"] ["alphabet", "table"] (defScope j9):=⟨rfl,rfl,rfl,by decide +kernel,rfl,by decide +kernel,by decide +kernel⟩
theorem A8(g:G P T.w T.K T.cA mg):FD P T.w T mg base 7 g.iz g.fk ["alphabet", "table"] mU:=
 cD g.iA jB λcdv A outer s H E hr L hp=>aB (aP (v9 L g.nu (jA g) (hr.mono (by omega)) (by rfl) g.my g.iy (af (aj 0) (af (aZ L.k (aj 1) aq) (af (eN (own:=[("place",2),("is_end",3)]) (by rfl) jB.nd (blkOk_by (by show blkC ["alphabet", "table", "place", "is_end"] (defScope j9) _ [("place",2),("is_end",3)]=true;decide +kernel)) (vc L.k (by rfl) g.j7 (aZ L.k (aj 1) aq)) (λ_ _ _ _ _=>(uY (jw (by rfl)).k (by rfl) (bT (aR 2 jB.nd) (bT (aR 3 jB.nd) kj)))) (λ_ _ _ _ _=>DE (mM (jw (by rfl)) (aj 3))) (λ_ _ _ _ _=>aj 2)) ai)))))
def xV:SM:=aG (bB 2 (cF LS (aa (eV 1) ah))) (aG (bB 3 (eC (.bl true))) (aG (kU (tE (eV 3)) (aG (bB 3 (eC (.bl false))) (mQ (ib (eV 0)) (.tp ((.nm 4)::((.nm 5)::[]))) (uP (pI (hV (tE (aA b6 (eV 2) (eV 4)))) (tE (au Qt (aa (fX [6] (cJ (eV 5)) (.nm 6) aL (og (aA tq (eV 6) (eC (.int 0))) (aA b6 (eV 2) (eV 6)))) ah)))) (aG (sIx (eV 2) (eV 4) (eC (.bl true))) (bB 3 (eC (.bl true)))) iR))) 2700) (ck (eV 2))))
def r4:FM:=bU 2 7 xV
def r5:FM:=PH r4
theorem c6:FnScope ["goals", "ends", "live", "changed", "place", "row", "goal"] ["goals", "ends"] (defScope oV):=⟨rfl,rfl,rfl,by decide +kernel,rfl,by decide +kernel,by decide +kernel⟩
theorem Du(g:G P T.w T.K T.cA mg):FD P T.w T mg base 2 g.jg g.gS ["goals", "ends"] r4:=
 cD g.lz c6 λcdv A outer s H E hr L hp=>aw (bc 2 c6.nd (LU (J9 L.k) (by rfl) g.qL (by rfl) (af (aj 1) ai))) (aw (bc 3 c6.nd pF) (aw (uZ 2700 hp (mM L (aj 3)) (aw (bc 3 c6.nd pF) (aB (oh hp (by rfl) (vc L.k (by rfl) g.j7 (aj 0)) (uY L.k (by rfl) (bT (aR 4 c6.nd) (bT (aR 5 c6.nd) kj))) (aB (iN (xF (zZ (lS (mM L (aZ L.k (aj 2) (aj 4)))) (v7 (mM L (aF (OZ L.k (by rfl)) (by rfl) g.Xc (by rfl) (af (eN (own:=[("goal",6)]) (by rfl) c6.nd (blkOk_by (by show blkC ["goals", "ends", "live", "changed", "place", "row", "goal"] (defScope oV) _ [("goal",6)]=true;decide +kernel)) (dj L.k (aj 5)) (λ_ _ _ _ _=>(aR 6 c6.nd)) (λ_ _ _ _ _=>aY) (λ_ _ _ _ _=>jM (jw (by rfl)) (fF (oa) (aj 6) aq) (kT (aZ (jw (by rfl)).k (aj 2) (aj 6))))) ai)))))) (aw (El (aj 2) (aj 4) pF) (aB (bc 3 c6.nd pF))) eA)))))) (aB (aP (aj 2)))))
theorem E2(g:G P T.w T.K T.cA mg):FD P T.w T mg base 2 g.jg g.gS ["goals", "ends"] r5:=FD.sc (Du g)
end
section
variable {P:Program}{mg:Str->Option Value}{base:Heap}{T:Tb}
open PySem PySem.Spec PyProof.Rows L2 NdefX LamX
open L2H (RoomH PinOk cxH inv_startH roomH_of)
def vg:SM:=aG (bB 2 (fX [6] (cJ (eV 1)) (.nm 6) aL (au pJ (aa (eV 6) ah)))) (aG (bB 3 (au J7 (aa (zx .si [6] (cJ (eV 2)) (.nm 6) aL (eV 6)) ah))) (kU (tE (eC (.bl true))) (aG (bB 4 (fX [7,8] (ib (eV 0)) (.tp ((.nm 7)::((.nm 8)::[]))) aL (mK (aa (aA b6 (eV 2) (eV 7)) (aa (au rS (aa (fX [11] (cJ (eV 8)) (.nm 11) aL (xG (tE (aA tq (eV 11) (eC (.int 0)))) (aA b6 (eV 2) (eV 11)) (xt jl (eC (.int 1))))) ah)) ah))))) (aG (bB 5 (GN [9,10] (ib (au Aa (aa (zx .sk [10] (cJ (eV 4)) (.nm 10) aL (eV 10)) ah))) (.tp ((.nm 9)::((.nm 10)::[]))) aL (eV 10) (eV 9))) (aG (bB 2 (fX [10] (cJ (eV 4)) (.nm 10) aL (rV (eV 5) (eV 10)))) (aG (uP (tE (aA eU (au Ka (aa (eV 5) ah)) (eV 3))) (ck (eV 2)) iR) (bB 3 (au Ka (aa (eV 5) ah))))))) 2700))
def om:FM:=bU 2 12 vg
def oo:FM:=PH om
theorem aJ:FnScope ["goals", "ends", "numbers", "many", "keys", "known", "one", "place", "row", "at", "key", "goal"] ["goals", "ends"] (defScope bY):=⟨rfl,rfl,rfl,by decide +kernel,rfl,by decide +kernel,by decide +kernel⟩
theorem A9(g:G P T.w T.K T.cA mg):FD P T.w T mg base 2 g.gj g.eK ["goals", "ends"] om:=
 cD g.i4 aJ λcdv A outer s H E hr L hp=>aw (bc 2 aJ.nd (eN (own:=[("one",6)]) (by rfl) aJ.nd (blkOk_by (by show blkC ["goals", "ends", "numbers", "many", "keys", "known", "one", "place", "row", "at", "key", "goal"] (defScope bY) _ [("one",6)]=true;decide +kernel)) (dj L.k (aj 1)) (λ_ _ _ _ _=>(aR 6 aJ.nd)) (λ_ _ _ _ _=>aY) (λ_ _ _ _ _=>bO ia (by rfl) g.s8 (by rfl) (af (aj 6) ai)))) (aw (bc 3 aJ.nd (aF (LR L.k (by rfl)) (by rfl) g.cN (by rfl) (af (Ny (own:=[("one",6)]) .si L.k (by rfl) (.inl rfl) hr.units (by rfl) aJ.nd (blkOk_by (by show blkC ["goals", "ends", "numbers", "many", "keys", "known", "one", "place", "row", "at", "key", "goal"] (defScope bY) _ [("one",6)]=true;decide +kernel)) (dj L.k (aj 2)) (λ_ _ _ _ _=>(aR 6 aJ.nd)) (λ_ _ _ _ _=>aY) (λ_ _ _ _ _=>aj 6)) ai))) (aB (uZ 2700 hp (mM L pF) (aw (u6 (own:=[("place",7),("row",8)]) 4 (by rfl) aJ.nd (blkOk_by (by show blkC ["goals", "ends", "numbers", "many", "keys", "known", "one", "place", "row", "at", "key", "goal"] (defScope bY) _ [("place",7),("row",8)]=true;decide +kernel)) (vc L.k (by rfl) g.j7 (aj 0)) (λ_ _ _ _ _=>(uY (jw (by rfl)).k (by rfl) (bT (aR 7 aJ.nd) (bT (aR 8 aJ.nd) kj)))) (λ_ _ _ _ _=>aY) (λ_ _ _ _ _=>jL (af (aZ (jw (by rfl)).k (aj 2) (aj 7)) (af (bO (rT (jw (by rfl)).k) (by rfl) g.pA (by rfl) (af (eN (own:=[("goal",11)]) (by rfl) aJ.nd (blkOk_by (by show blkC ["goals", "ends", "numbers", "many", "keys", "known", "one", "place", "row", "at", "key", "goal"] (relS (u7 (atS [2,0] [0] bY)) (defScope bY)) _ [("goal",11)]=true;decide +kernel)) (dj (jw (by rfl)).k (aj 8)) (λ_ _ _ _ _=>(aR 11 aJ.nd)) (λ_ _ _ _ _=>aY) (λ_ _ _ _ _=>tO (cu (jw (by rfl)) (oa) v5 (aj 11) aq) (aZ (jw (by rfl)).k (aj 2) (aj 11)) (tL jt aq))) ai)) ai))) (by rfl)) (aw (bc 5 aJ.nd (UE (own:=[("at",9),("key",10)]) L.k (by rfl) hr.units (by rfl) aJ.nd (blkOk_by (by show blkC ["goals", "ends", "numbers", "many", "keys", "known", "one", "place", "row", "at", "key", "goal"] (defScope bY) _ [("at",9),("key",10)]=true;decide +kernel)) (vc L.k (by rfl) g.j7 (aF (J8 L.k (by rfl) hr.units (by rfl)) (by rfl) g.FL (by rfl) (af (Ny (own:=[("key",10)]) .sk L.k (by rfl) (.inr rfl) hr.units (by rfl) aJ.nd (blkOk_by (by show blkC ["goals", "ends", "numbers", "many", "keys", "known", "one", "place", "row", "at", "key", "goal"] (defScope bY) _ [("key",10)]=true;decide +kernel)) (dj L.k (aj 4)) (λ_ _ _ _ _=>(aR 10 aJ.nd)) (λ_ _ _ _ _=>aY) (λ_ _ _ _ _=>aj 10)) ai))) (λ_ _ _ _ _=>(uY (jw (by rfl)).k (by rfl) (bT (aR 9 aJ.nd) (bT (aR 10 aJ.nd) kj)))) (λ_ _ _ _ _=>aY) (λ_ _ _ _ _=>aj 10) (λ_ _ _ _ _=>aj 9))) (aw (bc 2 aJ.nd (eN (own:=[("key",10)]) (by rfl) aJ.nd (blkOk_by (by show blkC ["goals", "ends", "numbers", "many", "keys", "known", "one", "place", "row", "at", "key", "goal"] (defScope bY) _ [("key",10)]=true;decide +kernel)) (dj L.k (aj 4)) (λ_ _ _ _ _=>(aR 10 aJ.nd)) (λ_ _ _ _ _=>aY) (λ_ _ _ _ _=>AW (jw (by rfl)).k (by rfl) hr.units (aj 5) (aj 10)))) (aw (iN (cu L (iS L.k hr.units) yZ (aF (EG L.k (by rfl)) (by rfl) g.cN (by rfl) (af (aj 5) ai)) (aj 3)) (aB (aP (aj 2))) eA) (aB (bc 3 aJ.nd (aF (EG L.k (by rfl)) (by rfl) g.cN (by rfl) (af (aj 5) ai)))))))))))
theorem BX(g:G P T.w T.K T.cA mg):FD P T.w T mg base 2 g.gj g.eK ["goals", "ends"] oo:=FD.sc (A9 g)
def Ba:SM:=ck (aA b6 (fZ [70] "numbers" (eV 0)) (eC (.int 0)))
def mV:FM:=bU 1 1 Ba
theorem Bb:FnScope ["self"] ["self"] (defScope nN):=⟨rfl,rfl,rfl,by decide +kernel,rfl,by decide +kernel,by decide +kernel⟩
theorem Bc(g:G P T.w T.K T.cA mg):FD P T.w T mg base 2 g.iB g.fm ["self"] mV:=
 cD g.iD Bb λcdv A outer s H E hr L hp=>aB (aP (aZ L.k (cK L.k g.pB (aj 0)) aq))
def Be:SM:=aG (bB 3 (aA b6 (aA b6 (fZ [70] "goal_rows" (eV 0)) (rV (fZ [70] "samples" (eV 0)) (eV 1))) (eV 2))) (ck (xG (tE (aA CF (eV 3) (eC (.int 0)))) (eC .non) (aA b6 (fZ [70] "numbers" (eV 0)) (eV 3))))
def mW:FM:=bU 3 4 Be
theorem tZ:FnScope ["self", "state", "letter", "goal"] ["self", "state", "letter"] (defScope nO):=⟨rfl,rfl,rfl,by decide +kernel,rfl,by decide +kernel,by decide +kernel⟩
theorem Bf(g:G P T.w T.K T.cA mg):FD P T.w T mg base 2 g.iE g.fq ["self", "state", "letter"] mW:=
 cD g.iF tZ λcdv A outer s H E hr L hp=>aw (bc 3 tZ.nd (aZ L.k (aZ L.k (cK L.k g.qN (aj 0)) (AW L.k (by rfl) hr.units (cK L.k g.pC (aj 0)) (aj 1))) (aj 2))) (aB (aP (tO (cu L (vY) zY (aj 3) aq) zW (aZ L.k (cK L.k g.pB (aj 0)) (aj 3)))))
def xW:SM:=ck (aA b6 (fZ [70] "flags" (eV 0)) (rV (fZ [70] "samples" (eV 0)) (eV 1)))
def jR:FM:=bU 2 2 xW
theorem xX:FnScope ["self", "state"] ["self", "state"] (defScope kP):=⟨rfl,rfl,rfl,by decide +kernel,rfl,by decide +kernel,by decide +kernel⟩
theorem xY(g:G P T.w T.K T.cA mg):FD P T.w T mg base 2 g.eQ g.dg ["self", "state"] jR:=
 cD g.eR xX λcdv A outer s H E hr L hp=>aB (aP (aZ L.k (cK L.k g.yS (aj 0)) (AW L.k (by rfl) hr.units (cK L.k g.pC (aj 0)) (aj 1))))
def t8:SM:=aG (Ey (aG (bB 2 (fb 70 "begin" mV (eV 0) ah)) (aG (bB 3 (mC (aa (eV 2) ah))) (aG (bB 4 (GF 2 0)) (aG (bB 5 (mC ah)) (kU (tE (aA CF (au cj (aa (eV 5) ah)) (au cj (aa (eV 3) ah)))) (Ey (aG (Ey (aG (bB 6 (mC ah)) (mQ (bG (aa (eV 1) ah)) (.nm 7) (aG (bB 8 (fb 70 "later" mW (eV 0) (aa (aA b6 (eV 3) (au cj (aa (eV 5) ah))) (aa (eV 7) ah)))) (aG (uP (pI (tE (aA rQ (eV 8) (eC .non))) (tE (aA (FZ true) (eV 8) (eV 4)))) (aG (CP (eV 4) (eV 8) (au cj (aa (eV 3) ah))) (ju (mR "list" cI (eV 3) (aa (eV 8) ah)))) iR) (ju (mR "list" cI (eV 6) (aa (xG (tE (aA PL (eV 8) (eC .non))) (xt jl (eC (.int 1))) (rV (eV 4) (eV 8))) ah)))))))) (ju (mR "list" cI (eV 5) (aa (eV 6) ah))))) 2700)))))) (ck (mK (aa (eV 5) (aa (fX [9] (cJ (eV 3)) (.nm 9) aL (fb 70 "is_final" jR (eV 0) (aa (eV 9) ah))) ah))))
def mX:FM:=bU 2 10 t8
def mY:FM:=PH mX
theorem bR:FnScope ["machine", "width", "first", "states", "found", "goals", "row", "letter", "later", "state"] ["machine", "width"] (defScope ka):=⟨rfl,rfl,rfl,by decide +kernel,rfl,by decide +kernel,by decide +kernel⟩
theorem Ae(g:G P T.w T.K T.cA mg):FD P T.w T mg base 3 g.ft g.dE ["machine", "width"] mX:=
 cD g.iG bR λcdv A outer s H E hr L hp=>z9 (pre:=[_,_,_,_,_]) (EC (oY (bc 2 bR.nd (lh L (aj 0) g.uq g.vJ (Bc g) (hr.mono (by omega)) g.vB)) (oY (bc 3 bR.nd (vX (af (aj 2) ai))) (oY (bc 4 bR.nd (UA 2 L.k (by rfl) hr.units)) (oY (bc 5 bR.nd (vX ai)) (z8 (uZ 2700 hp (cu L (vY) zY (aF (bu L.k) (by rfl) g.cN (by rfl) (af (aj 5) ai)) (aF (bu L.k) (by rfl) g.cN (by rfl) (af (aj 3) ai))) (Wj (z9 (pre:=[_,_]) (EC (oY (bc 6 bR.nd (vX ai)) (z8 (oh hp (by rfl) (jv (by rfl) g.gZ (af (aj 1) ai)) (aR 7 bR.nd) (aw (bc 8 bR.nd (AH L (aj 0) g.uq g.vK (Bf g) (hr.mono (by omega)) g.vC (af (aZ L.k (aj 3) (aF (bu L.k) (by rfl) g.cN (by rfl) (af (aj 5) ai))) (af (aj 7) ai)))) (aw (iN (xF (zZ (cu L (OV) OY (aj 8) zW) (v7 (cu L (Uz true L.k (by rfl) hr.units) Uy (aj 8) (aj 4))))) (aw (Nw L.k (by rfl) hr.units (aj 4) (aj 8) (aF (bu L.k) (by rfl) g.cN (by rfl) (af (aj 3) ai))) (aB (tP (uC L.k (.inl rfl) F.plainAttrs_list F.slot_list_append F.type_list_append jN (aj 3) (af (aj 8) ai))))) eA) (aB (tP (uC L.k (.inl rfl) F.plainAttrs_list F.slot_list_append F.type_list_append jN (aj 6) (af (tO (cu L (Ef) LA (aj 8) zW) (tL jt aq) (AW L.k (by rfl) hr.units (aj 4) (aj 8))) ai)))))))))) (aB (tP (uC L.k (.inl rfl) F.plainAttrs_list F.slot_list_append F.type_list_append jN (aj 5) (af (aj 6) ai))))))))))))) (aB (aP (jL (af (aj 5) (af (eN (own:=[("state",9)]) (by rfl) bR.nd (blkOk_by (by show blkC ["machine", "width", "first", "states", "found", "goals", "row", "letter", "later", "state"] (defScope ka) _ [("state",9)]=true;decide +kernel)) (dj L.k (aj 3)) (λ_ _ _ _ _=>(aR 9 bR.nd)) (λ_ _ _ _ _=>aY) (λ_ _ _ _ _=>AH (jw (by rfl)) (aj 0) g.uq g.qV (xY g) (hr.mono (by omega)) g.qR (af (aj 9) ai))) ai)))))
theorem Bg(g:G P T.w T.K T.cA mg):FD P T.w T mg base 3 g.ft g.dE ["machine", "width"] mY:=FD.sc (Ae g)
def BY:SM:=aG (rR [70] "goal_rows" (eV 0) (eV 1)) (aG (rR [70] "flags" (eV 0) (eV 2)) (aG (rR [70] "numbers" (eV 0) (eV 3)) (rR [70] "samples" (eV 0) (eV 4))))
def ku:FM:=bU 5 5 BY
theorem BZ:FnScope ["self", "goals", "ends", "numbers", "samples"] ["self", "goals", "ends", "numbers", "samples"] (defScope qi):=⟨rfl,rfl,rfl,by decide +kernel,rfl,by decide +kernel,by decide +kernel⟩
theorem B0(g:G P T.w T.K T.cA mg):FD P T.w T mg base 2 g.i6 g.gm ["self", "goals", "ends", "numbers", "samples"] ku:=
 cD g.i7 BZ λcdv A outer s H E hr L hp=>aw (v8 L.k g.qN (aj 0) (aj 1)) (aw (v8 L.k g.yS (aj 0) (aj 2)) (aw (v8 L.k g.pB (aj 0) (aj 3)) (aB (v8 L.k g.pC (aj 0) (aj 4)))))
def vh:SM:=aG (FX (.tp ((.nm 2)::((.nm 3)::[]))) (eV 0)) (aG (bB 4 (aS r5 (aa (eV 2) (aa (eV 3) ah)))) (aG (uP (uA (tE (aA eU (eV 2) (cn ah))) (hV (tE (aA b6 (eV 4) (eC (.int 0)))))) (ck (mK (aa (cn ah) (aa (cn ah) ah)))) iR) (aG (bB 5 (fX [10] (cJ (eV 2)) (.nm 10) aL (fX [11] (cJ (eV 10)) (.nm 11) aL (xG (pI (tE (aA tq (eV 11) (eC (.int 0)))) (tE (aA b6 (eV 4) (eV 11)))) (eV 11) (xt jl (eC (.int 1))))))) (aG (bB 6 (aS oo (aa (eV 5) (aa (eV 3) ah)))) (aG (Ey (aG (bB 7 QS) (mQ (ib (eV 6)) (.tp ((.nm 8)::((.nm 9)::[]))) (uP (tE (aA b6 (eV 4) (eV 8))) (CP (eV 7) (eV 9) (J5 (eV 7) (eV 9) (eV 8))) iR)))) (ck (aS mY (aa (l4 70 ku (aa (eV 5) (aa (eV 3) (aa (eV 6) (aa (eV 7) ah))))) (aa (eV 1) ah)))))))))
def oq:FM:=bU 2 12 vh
def kz:FM:=PH oq
theorem bC:FnScope ["table", "width", "goals", "ends", "live", "kept", "numbers", "samples", "place", "number", "row", "goal"] ["table", "width"] (defScope gi):=⟨rfl,rfl,rfl,by decide +kernel,rfl,by decide +kernel,by decide +kernel⟩
theorem Bh(g:G P T.w T.K T.cA mg):FD P T.w T mg base 4 g.gn g.eM ["table", "width"] oq:=
 cD g.i8 bC λcdv A outer s H E hr L hp=>aw (HM (aj 0) (uY L.k (by rfl) (bT (aR 2 bC.nd) (bT (aR 3 bC.nd) kj)))) (aw (bc 4 bC.nd (aU L (E2 g) (hr.mono (by omega)) (by rfl) g.zC g.pj g.zB (af (aj 2) (af (aj 3) ai)))) (aw (iN (xF (w4 (cu L (iS L.k hr.units) yZ (aj 2) (cX ai)) (uB (lS (mM L (aZ L.k (aj 4) aq)))))) (aB (aP (jL (af (cX ai) (af (cX ai) ai))))) eA) (aw (u6 (own:=[("row",10)]) 5 (by rfl) bC.nd (blkOk_by (by show blkC ["table", "width", "goals", "ends", "live", "kept", "numbers", "samples", "place", "number", "row", "goal"] (defScope gi) _ [("row",10)]=true;decide +kernel)) (dj L.k (aj 2)) (λ_ _ _ _ _=>(aR 10 bC.nd)) (λ_ _ _ _ _=>aY) (λ_ _ _ _ _=>eN (own:=[("goal",11)]) (by rfl) bC.nd (blkOk_by (by show blkC ["table", "width", "goals", "ends", "live", "kept", "numbers", "samples", "place", "number", "row", "goal"] (relS (u7 (atS [3] [0] gi)) (defScope gi)) _ [("goal",11)]=true;decide +kernel)) (dj (jw (by rfl)).k (aj 10)) (λ_ _ _ _ _=>(aR 11 bC.nd)) (λ_ _ _ _ _=>aY) (λ_ _ _ _ _=>tO (xF (zZ (cu (jw (by rfl)) (oa) v5 (aj 11) aq) (v7 (mM (jw (by rfl)) (aZ (jw (by rfl)).k (aj 4) (aj 11)))))) (aj 11) (tL jt aq))) (by rfl)) (aw (bc 6 bC.nd (aU L (BX g) (hr.mono (by omega)) (by rfl) g.xa g.lL g.w9 (af (aj 5) (af (aj 3) ai)))) (z9 (pre:=[_,_]) (EC (oY (bc 7 bC.nd Uw) (z8 (oh hp (by rfl) (vc L.k (by rfl) g.j7 (aj 6)) (uY L.k (by rfl) (bT (aR 8 bC.nd) (bT (aR 9 bC.nd) kj))) (aB (iN (mM L (aZ L.k (aj 4) (aj 8))) (aB (Nw L.k (by rfl) hr.units (aj 7) (aj 9) (Ux (Nat.lt_of_le_of_lt (Nat.add_le_add_left (by decide) _) hr.units) (aj 7) (aj 9) (aj 8) ⟨rfl,rfl,rfl,rfl⟩))) eA)))))) (aB (aP (aU L (Bg g) (hr.mono (by omega)) (by rfl) g.vF g.kF g.vD (af (v9 L g.Dh (B0 g) (hr.mono (by omega)) (by rfl) g.FO g.xb (af (aj 5) (af (aj 3) (af (aj 6) (af (aj 7) ai))))) (af (aj 1) ai))))))))))
theorem B1(g:G P T.w T.K T.cA mg):FD P T.w T mg base 4 g.gn g.eM ["table", "width"] kz:=FD.sc (Bh g)
def Af:SM:=aG (FX (.tp ((.nm 1)::((.nm 2)::[]))) (aS kz (aa (mK (aa (fX [3] (cJ (fZ [1] "own_goals" (eV 0))) (.nm 3) aL (au qA (aa (eV 3) ah))) (aa (fZ [1] "own_ends" (eV 0)) ah))) (aa (cF (b7 cW) (aa (fZ [1] "own_alphabet" (eV 0)) ah)) ah)))) (ck (aS mU (aa (fZ [1] "own_alphabet" (eV 0)) (aa (mK (aa (eV 1) (aa (eV 2) ah))) ah))))
def aO:FM:=bU 1 4 Af
theorem fJ:FnScope ["self", "goals", "ends", "row"] ["self"] (defScope jq):=⟨rfl,rfl,rfl,by decide +kernel,rfl,by decide +kernel,by decide +kernel⟩
theorem fK(g:G P T.w T.K T.cA mg):FD P T.w T mg base 8 g.gF g.dY ["self"] aO:=
 cD g.gH fJ λcdv A outer s H E hr L hp=>aw (HM (aU L (B1 g) (hr.mono (by omega)) (by rfl) g.xf g.lM g.xc (af (jL (af (eN (own:=[("row",3)]) (by rfl) fJ.nd (blkOk_by (by show blkC ["self", "goals", "ends", "row"] (defScope jq) _ [("row",3)]=true;decide +kernel)) (dj L.k (cK L.k g.de (aj 0))) (λ_ _ _ _ _=>(aR 3 fJ.nd)) (λ_ _ _ _ _=>aY) (λ_ _ _ _ _=>bO (tS (jw (by rfl)).k (by rfl)) (by rfl) g.qL (by rfl) (af (aj 3) ai))) (af (cK L.k g.gV (aj 0)) ai))) (af (ff (dC L (hr.mono (by omega)) (mT g)) (by rfl) g.cN (by rfl) (af (cK L.k g.cf (aj 0)) ai)) ai))) (uY L.k (by rfl) (bT (aR 1 fJ.nd) (bT (aR 2 fJ.nd) kj)))) (aB (aP (aU L (A8 g) (hr.mono (by omega)) (by rfl) g.vA g.kE g.vz (af (cK L.k g.cf (aj 0)) (af (jL (af (aj 1) (af (aj 2) ai))) ai)))))
def B2:SM:=ck (au cj (aa (fZ [1] "own_goals" (eV 0)) ah))
def kA:FM:=bU 1 1 B2
theorem B3:FnScope ["self"] ["self"] (defScope qj):=⟨rfl,rfl,rfl,by decide +kernel,rfl,by decide +kernel,by decide +kernel⟩
theorem B4(g:G P T.w T.K T.cA mg):FD P T.w T mg base 2 g.i9 g.gu ["self"] kA:=
 cD g.ja B3 λcdv A outer s H E hr L hp=>aB (aP (aF (bu L.k) (by rfl) g.cN (by rfl) (af (cK L.k g.de (aj 0)) ai)))
def az:Nat->Option FM:=λk=>if k=1 then some kA else none
theorem bH{X:Cx}{T:Tb}(g:G X.prog T.w T.K T.cA X.mg)(hK:X.K=T.K:=by rfl)(hw:X.w=T.w:=by rfl):LJ X T "__len__" 2 az:=λk fM h=>by
 unfold az at h;have key:∀K w0,K=T.K->w0=T.w->∃f fd ps,Cls K (T.cA k)/\Meth K (T.cA k) "__len__" f/\FnOk X.prog w0 K X.mg X.base (Au T.nn X.prog w0) 2 f fd ps (FW T fM)/\Binds K fd ps []:=by rintro _ _ rfl rfl;split at h;rename_i hk;subst hk;cases h;exact⟨_,_,_,g.bW,g.xl,FnOk.mono (B4 (base:=X.base) g) (by decide:2<=2),g.xg⟩;cases h
 exact key _ _ hK hw
end
section
variable {P:Program}{mg:Str->Option Value}{base:Heap}{T:Tb}
open PySem PySem.Spec PyProof.Rows L2 NdefX LamX
open L2H (RoomH PinOk cxH inv_startH roomH_of)
def xZ:SM:=aG (sIx (eV 0) (eC (.int 4)) (aA cY (aA b6 (eV 0) (eC (.int 4))) (eC (.int 1)))) (aG (uP (pI (tE (aA eU (aA b6 (eV 0) (eC (.int 2))) (eC (.int 0)))) (tE (aA CF (aA b6 (eV 0) (eC (.int 1))) (au cj (aa (aA b6 (eV 0) (eC (.int 0))) ah))))) (aG (bB 2 (aA b6 (aA b6 (eV 0) (eC (.int 0))) (aA b6 (eV 0) (eC (.int 1))))) (aG (sIx (eV 0) (eC (.int 1)) (aA cY (aA b6 (eV 0) (eC (.int 1))) (eC (.int 1)))) (uP (tE (aA tq (eV 2) (aA OU (eC (.int 10)) (eC (.int 18))))) (sIx (eV 0) (eC (.int 2)) (eV 2)) (sIx (eV 0) (eC (.int 3)) (aA zX (au pJ (aa (aA cY (aA cY (aA hA (aA b6 (eV 0) (eC (.int 3))) (eC (.int 39251))) (aA hA (aA zX (au pJ (aa (eV 2) ah)) (eC (.int 2147483563))) (eC (.int 40427)))) (eC (.int 43))) ah)) (eC (.int 2147483629))))))) iR) (aG (uP (tE (aA JN (aA b6 (eV 0) (eC (.int 2))) (eC (.int 0)))) (aG (bB 3 (aA zX (au pJ (aa (aA b6 (eV 0) (eC (.int 2))) ah)) (eV 1))) (aG (sIx (eV 0) (eC (.int 2)) (aA Ed (aA b6 (eV 0) (eC (.int 2))) (eV 1))) (ck (eV 3)))) iR) (aG (bB 4 (aA b6 (eV 0) (eC (.int 3)))) (aG (sIx (eV 0) (eC (.int 3)) (aA zX (au pJ (aa (aA cY (aA cY (aA cY (aA OU (eV 4) (eC (.int 3))) (aA hA (eV 4) (eC (.int 38557)))) (aA hA (aA b6 (eV 0) (eC (.int 4))) (eC (.int 1299709)))) (eC (.int 65293))) ah)) (eC (.int 2147483629)))) (ck (aA zX (au pJ (aa (aA cY (aA Ed (aA b6 (eV 0) (eC (.int 3))) (eC (.int 89))) (aA hA (aA zX (au pJ (aa (aA b6 (eV 0) (eC (.int 3))) ah)) (eC (.int 7933))) (eC (.int 59)))) ah)) (eV 1)))))))
def dO:FM:=bU 2 5 xZ
theorem t9:FnScope ["_law_hand_here", "_law_sides", "_law_cell", "_law_digit", "_law_seed"] ["_law_hand_here", "_law_sides"] (defScope zI):=⟨rfl,rfl,rfl,by decide +kernel,rfl,by decide +kernel,by decide +kernel⟩
theorem pM(g:G P T.w T.K T.cA mg):FD P T.w T mg base 2 g.sv g.oF ["_law_hand_here", "_law_sides"] dO:=
 cD g.sD t9 λcdv A outer s H E hr L hp=>aw (El (aj 0) aq (bJ (cZ L.k) (aZ L.k (aj 0) aq) aq)) (aw (iN (xF (zZ (cu L (iS L.k hr.units) yZ (aZ L.k (aj 0) aq) aq) (v7 (cu L (vY) zY (aZ L.k (aj 0) aq) (aF (bu L.k) (by rfl) g.cN (by rfl) (af (aZ L.k (aj 0) aq) ai)))))) (aw (bc 2 t9.nd (aZ L.k (aZ L.k (aj 0) aq) (aZ L.k (aj 0) aq))) (aw (El (aj 0) aq (bJ (cZ L.k) (aZ L.k (aj 0) aq) aq)) (aB (iN (cu L (oa) v5 (aj 2) (bJ M7 aq aq)) (aB (El (aj 0) aq (aj 2))) (aB (El (aj 0) aq (bJ tM (bO ia (by rfl) g.s8 (by rfl) (af (bJ (cZ L.k) (bJ (cZ L.k) (bJ iQ (aZ L.k (aj 0) aq) aq) (bJ iQ (bJ tM (bO ia (by rfl) g.s8 (by rfl) (af (aj 2) ai)) aq) aq)) aq) ai)) aq))))))) eA) (aw (iN (cu L (Ee) Lz (aZ L.k (aj 0) aq) aq) (aw (bc 3 t9.nd (bJ tM (bO ia (by rfl) g.s8 (by rfl) (af (aZ L.k (aj 0) aq) ai)) (aj 1))) (aw (El (aj 0) aq (bJ JM (aZ L.k (aj 0) aq) (aj 1))) (aB (aP (aj 3))))) eA) (aw (bc 4 t9.nd (aZ L.k (aj 0) aq)) (aw (El (aj 0) aq (bJ tM (bO ia (by rfl) g.s8 (by rfl) (af (bJ (cZ L.k) (bJ (cZ L.k) (bJ (cZ L.k) (bJ M7 (aj 4) aq) (bJ iQ (aj 4) aq)) (bJ iQ (aZ L.k (aj 0) aq) aq)) aq) ai)) aq)) (aB (aP (bJ tM (bO ia (by rfl) g.s8 (by rfl) (af (bJ (cZ L.k) (bJ JM (aZ L.k (aj 0) aq) aq) (bJ iQ (bJ tM (bO ia (by rfl) g.s8 (by rfl) (af (aZ L.k (aj 0) aq) ai)) aq) aq)) ai)) (aj 1))))))))
def B5:SM:=ck (aA b6 (eV 1) (aS dO (aa (eV 0) (aa (au cj (aa (eV 1) ah)) ah))))
def dW:FM:=bU 2 2 B5
theorem Pf:FnScope ["_law_hand_here", "_law_things"] ["_law_hand_here", "_law_things"] (defScope D7):=⟨rfl,rfl,rfl,by decide +kernel,rfl,by decide +kernel,by decide +kernel⟩
theorem y9(g:G P T.w T.K T.cA mg):FD P T.w T mg base 3 g.yJ g.vG ["_law_hand_here", "_law_things"] dW:=
 cD g.yK Pf λcdv A outer s H E hr L hp=>aB (aP (aZ L.k (aj 1) (aU L (pM g) (hr.mono (by omega)) (by rfl) g.oH g.j5 g.oG (af (aj 0) (af (aF (bu L.k) (by rfl) g.cN (by rfl) (af (aj 1) ai)) ai)))))
def oZ:SM:=ck (og (au dN (aa (eV 0) (aa (eC (.ty "str")) ah))) (og (aA eU (au cj (aa (eV 0) ah)) (eV 1)) (au xH (aa (fX [2] (iStr (eV 0)) (.nm 2) aL (aA Ly (eV 2) (eC (.str "123")))) ah))))
def fe:FM:=bU 2 3 oZ
theorem uF:FnScope ["value", "many", "sign"] ["value", "many"] (defScope qW):=⟨rfl,rfl,rfl,by decide +kernel,rfl,by decide +kernel,by decide +kernel⟩
theorem F3(g:G P T.w T.K T.cA mg):FD P T.w T mg base 2 g.ng g.kH ["value", "many"] fe:=
 cD g.nh uF λcdv A outer s H E hr L hp=>aB (aP (jM L (aF (df L.k) (by rfl) g.aX (by rfl) (af (aj 0) (af (rO (by rfl) g.Hi (by rfl)) ai))) (jM L (fF (iS L.k hr.units) (aF (bu L.k) (by rfl) g.cN (by rfl) (af (aj 0) ai)) (aj 1)) (kT (aF (ki L.k (by rfl)) (by rfl) g.zF (by rfl) (af (eN (own:=[("sign",2)]) (by rfl) uF.nd (blkOk_by (by show blkC ["value", "many", "sign"] (defScope qW) _ [("sign",2)]=true;decide +kernel)) (BN (aj 0)) (λ_ _ _ _ _=>(aR 2 uF.nd)) (λ_ _ _ _ _=>aY) (λ_ _ _ _ _=>fF (Eh (jw (by rfl)).k) (aj 2) jK)) ai))))))
def ya:SM:=ck (og (au dN (aa (eV 0) (aa (eC (.ty "str")) ah))) (au xH (aa (fX [1] (iStr (eV 0)) (.nm 1) aL (aA Ly (eV 1) (eC (.str "abcdefghijklmnopqrstuvwxyz")))) ah)))
def mf:FM:=bU 1 2 ya
theorem yb:FnScope ["value", "sign"] ["value"] (defScope vP):=⟨rfl,rfl,rfl,by decide +kernel,rfl,by decide +kernel,by decide +kernel⟩
theorem Kv(g:G P T.w T.K T.cA mg):FD P T.w T mg base 2 g.sN g.oI ["value"] mf:=
 cD g.sO yb λcdv A outer s H E hr L hp=>aB (aP (jM L (aF (df L.k) (by rfl) g.aX (by rfl) (af (aj 0) (af (rO (by rfl) g.Hi (by rfl)) ai))) (kT (aF (ki L.k (by rfl)) (by rfl) g.zF (by rfl) (af (eN (own:=[("sign",1)]) (by rfl) yb.nd (blkOk_by (by show blkC ["value", "sign"] (defScope vP) _ [("sign",1)]=true;decide +kernel)) (BN (aj 0)) (λ_ _ _ _ _=>(aR 1 yb.nd)) (λ_ _ _ _ _=>aY) (λ_ _ _ _ _=>fF (Eh (jw (by rfl)).k) (aj 1) (Xx (d:=(.str "abcdefghijklmnopqrstuvwxyz")) (λ_ _=>by simp only[Rep]) (by rfl) g.Lg g.Lh))) ai)))))
def r6:SM:=ck (og (aS mf (aa (eV 0) ah)) (og (Hz Xy Xy (eC (.int 1)) (au cj (aa (eV 0) ah)) (eC (.int 8))) (au xH (aa (fX [1,2] (tQ (aa (eV 0) (aa (Wf (eV 0) (CK (eC (.int 1))) CJ) ah))) (.tp ((.nm 1)::((.nm 2)::[]))) aL (aA CF (eV 1) (eV 2))) ah))))
def c7:FM:=bU 1 3 r6
theorem mZ:FnScope ["value", "one", "other"] ["value"] (defScope oW):=⟨rfl,rfl,rfl,by decide +kernel,rfl,by decide +kernel,by decide +kernel⟩
theorem yc(g:G P T.w T.K T.cA mg):FD P T.w T mg base 3 g.lA g.jh ["value"] c7:=
 cD g.lB mZ λcdv A outer s H E hr L hp=>aB (aP (jM L (aU L (Kv g) (hr.mono (by omega)) (by rfl) g.FC g.wM g.FA (af (aj 0) ai)) (jM L (JL (HH) (HH) aq (aF (bu L.k) (by rfl) g.cN (by rfl) (af (aj 0) ai)) (Xx (d:=(.int 8)) (λ_ _=>by simp only[Rep]) (by rfl) g.xj g.xk)) (kT (aF (ki L.k (by rfl)) (by rfl) g.zF (by rfl) (af (eN (own:=[("one",1),("other",2)]) (by rfl) mZ.nd (blkOk_by (by show blkC ["value", "one", "other"] (defScope oW) _ [("one",1),("other",2)]=true;decide +kernel)) (LB L.k (by rfl) g.OK (af (aj 0) (af (AE L.k (aj 0) (DC aq) DB) ai))) (λ_ _ _ _ _=>(uY (jw (by rfl)).k (by rfl) (bT (aR 1 mZ.nd) (bT (aR 2 mZ.nd) kj)))) (λ_ _ _ _ _=>aY) (λ_ _ _ _ _=>fF (vY) (aj 1) (aj 2))) ai))))))
def kB:SM:=aG (uP (hV (tE (aS c7 (aa (eV 1) ah)))) (qz 10 1 [("given",.inl 0),("code",.inr "InvalidAlphabet")] (aa (eV 1) ah)) iR) (aG (uP (hV (tE (aS fe (aa (eV 2) (aa (au cj (aa (eV 1) ah)) ah))))) (qz 10 1 [("given",.inl 0),("code",.inr "InvalidAlphabet")] (aa (eV 2) ah)) iR) (aG (rR [0] "own_letters" (eV 0) (eV 1)) (rR [0] "own_digits" (eV 0) (eV 2))))
def bD:FM:=bU 3 3 kB
theorem B6:FnScope ["self", "letters", "colors"] ["self", "letters", "colors"] (defScope qo):=⟨rfl,rfl,rfl,by decide +kernel,rfl,by decide +kernel,by decide +kernel⟩
theorem vi(g:G P T.w T.K T.cA mg):FD P T.w T mg base 4 g.jb g.gv ["self", "letters", "colors"] bD:=
 cD g.jc B6 λcdv A outer s H E hr L hp=>aw (iN (lS (mM L (aU L (yc g) (hr.mono (by omega)) (by rfl) g.uN g.lC g.uM (af (aj 1) ai)))) (aB (BP L (by rfl) g.ny (hr.mono (by omega)) (by rfl) g.nv (af (aj 1) ai))) eA) (aw (iN (lS (mM L (aU L (F3 g) (hr.mono (by omega)) (by rfl) g.BE g.rq g.BD (af (aj 2) (af (aF (bu L.k) (by rfl) g.cN (by rfl) (af (aj 1) ai)) ai))))) (aB (BP L (by rfl) g.ny (hr.mono (by omega)) (by rfl) g.nv (af (aj 2) ai))) eA) (aw (v8 L.k g.dJ (aj 0) (aj 1)) (aB (v8 L.k g.lO (aj 0) (aj 2)))))
def ua:SM:=ck (l4 0 bD (aa (eV 0) (aa (xG (tE (aS c7 (aa (eV 0) ah))) (aA hA (eC (.str "1")) (au cj (aa (eV 0) ah))) (eC (.str ""))) ah)))
def bE:FM:=bU 1 1 ua
theorem Bi:FnScope ["letters"] ["letters"] (defScope nP):=⟨rfl,rfl,rfl,by decide +kernel,rfl,by decide +kernel,by decide +kernel⟩
theorem ub(g:G P T.w T.K T.cA mg):FD P T.w T mg base 6 g.iH g.dF ["letters"] bE:=
 cD g.fu Bi λcdv A outer s H E hr L hp=>aB (aP (v9 L g.yP (vi g) (hr.mono (by omega)) (by rfl) g.oS g.qH (af (aj 0) (af (tO (mM L (aU L (yc g) (hr.mono (by omega)) (by rfl) g.uN g.lC g.uM (af (aj 0) ai))) (bJ iQ jK (aF (bu L.k) (by rfl) g.cN (by rfl) (af (aj 0) ai))) jK) ai))))
def jS(self_:FM):SM:=aG (uP (tE (M8 ["list", "tuple"] (eV 1))) (aG (uP (uA (tE (aA mD (au dN (aa (eV 0) (aa (eC (.ty "list")) ah))) (au dN (aa (eV 1) (aa (eC (.ty "list")) ah))))) (tE (aA mD (au dN (aa (eV 0) (aa (eC (.ty "tuple")) ah))) (au dN (aa (eV 1) (aa (eC (.ty "tuple")) ah)))))) (ck (eC (.bl false))) iR) (ck (og (aA eU (au cj (aa (eV 0) ah)) (au cj (aa (eV 1) ah))) (au xH (aa (fX [2,3] (tQ (aa (eV 0) (aa (eV 1) ah))) (.tp ((.nm 2)::((.nm 3)::[]))) aL (aS self_ (aa (eV 2) (aa (eV 3) ah)))) ah))))) iR) (aG (uP (uA (tE (aA PL (eV 1) (eC .non))) (tE (aA PL (eV 0) (eC .non)))) (ck (og (aA PL (eV 1) (eC .non)) (aA PL (eV 0) (eC .non)))) iR) (aG (uP (uA (tE (aA mD (au dN (aa (eV 1) (aa (eC (.ty "bool")) ah))) (au dN (aa (eV 0) (aa (eC (.ty "bool")) ah))))) (tE (aA mD (au dN (aa (eV 1) (aa (eC (.ty "int")) ah))) (au dN (aa (eV 0) (aa (eC (.ty "int")) ah)))))) (ck (eC (.bl false))) iR) (ck (og (aA eU (au dN (aa (eV 1) (aa (eC (.ty "str")) ah))) (au dN (aa (eV 0) (aa (eC (.ty "str")) ah)))) (aA eU (eV 0) (eV 1))))))
def bF:Nat->FM|0=>λ_ _=>.stk|n+1=>bU 2 4 (jS (bF n))
theorem uc:FnScope ["_law_found", "_law_due", "_law_a", "_law_b"] ["_law_found", "_law_due"] (defScope vQ):=⟨rfl,rfl,rfl,by decide +kernel,rfl,by decide +kernel,by decide +kernel⟩
theorem ye(g:G P T.w T.K T.cA mg):∀{n:Nat},FD P T.w T mg base (n+1) g.oK g.lW ["_law_found", "_law_due"] (bF n)|0=>FD.none|n+1=>by have self_ok:FD P T.w T mg base (n+1) g.oK g.lW ["_law_found", "_law_due"] (bF n):=ye g;exact(cD g.sP uc λcdv A outer s H E hr L hp=>aw (iN (mM L (M9 L.k (by rfl) g.aX (aj 1) ⟨_,_,rfl,pe_bltn (by rfl) g.qL (by rfl) rfl (by decide) (by decide),by rfl,⟨_,_,rfl,pe_bltn (by rfl) g.pA (by rfl) rfl (by decide) (by decide),by rfl,rfl⟩⟩ (by decide))) (aw (iN (xF (w4 (cu L (oX L.k hr.units) qZ (aF (df L.k) (by rfl) g.aX (by rfl) (af (aj 0) (af (rO (by rfl) g.qL (by rfl)) ai))) (aF (df L.k) (by rfl) g.aX (by rfl) (af (aj 1) (af (rO (by rfl) g.qL (by rfl)) ai)))) (uB (cu L (oX L.k hr.units) qZ (aF (df L.k) (by rfl) g.aX (by rfl) (af (aj 0) (af (rO (by rfl) g.pA (by rfl)) ai))) (aF (df L.k) (by rfl) g.aX (by rfl) (af (aj 1) (af (rO (by rfl) g.pA (by rfl)) ai))))))) (aB (aP pF)) eA) (aB (aP (jM L (fF (iS L.k hr.units) (aF (bu L.k) (by rfl) g.cN (by rfl) (af (aj 0) ai)) (aF (bu L.k) (by rfl) g.cN (by rfl) (af (aj 1) ai))) (kT (aF (ki L.k (by rfl)) (by rfl) g.zF (by rfl) (af (eN (own:=[("_law_a",2),("_law_b",3)]) (by rfl) uc.nd (blkOk_by (by show blkC ["_law_found", "_law_due", "_law_a", "_law_b"] (defScope vQ) _ [("_law_a",2),("_law_b",3)]=true;decide +kernel)) (LB L.k (by rfl) g.OK (af (aj 0) (af (aj 1) ai))) (λ_ _ _ _ _=>(uY (jw (by rfl)).k (by rfl) (bT (aR 2 uc.nd) (bT (aR 3 uc.nd) kj)))) (λ_ _ _ _ _=>aY) (λ_ _ _ _ _=>aU (jw (by rfl)) self_ok (hr.mono (by omega)) (by rfl) g.wQ g.oL g.wO (af (aj 2) (af (aj 3) ai)))) ai))))))) eA) (aw (iN (xF (w4 (cu L (Ef) LA (aj 1) zW) (uB (cu L (Ef) LA (aj 0) zW)))) (aB (aP (jM L (fF (Ef) (aj 1) zW) (kT (fF (Ef) (aj 0) zW))))) eA) (aw (iN (xF (w4 (cu L (oX L.k hr.units) qZ (aF (df L.k) (by rfl) g.aX (by rfl) (af (aj 1) (af (rO (by rfl) g.Js (by rfl)) ai))) (aF (df L.k) (by rfl) g.aX (by rfl) (af (aj 0) (af (rO (by rfl) g.Js (by rfl)) ai)))) (uB (cu L (oX L.k hr.units) qZ (aF (df L.k) (by rfl) g.aX (by rfl) (af (aj 1) (af (rO (by rfl) g.s8 (by rfl)) ai))) (aF (df L.k) (by rfl) g.aX (by rfl) (af (aj 0) (af (rO (by rfl) g.s8 (by rfl)) ai))))))) (aB (aP pF)) eA) (aB (aP (jM L (fF (iS L.k hr.units) (aF (df L.k) (by rfl) g.aX (by rfl) (af (aj 1) (af (rO (by rfl) g.Hi (by rfl)) ai))) (aF (df L.k) (by rfl) g.aX (by rfl) (af (aj 0) (af (rO (by rfl) g.Hi (by rfl)) ai)))) (kT (fF (iS L.k hr.units) (aj 0) (aj 1)))))))))
def Bj:SM:=ck (fX [1,2] (ib (fZ [1] "own_ends" (eV 0))) (.tp ((.nm 1)::((.nm 2)::[]))) (tE (eV 2)) (eV 1))
def gD:FM:=bU 1 3 Bj
theorem jC:FnScope ["self", "place", "is_end"] ["self"] (defScope kg):=⟨rfl,rfl,rfl,by decide +kernel,rfl,by decide +kernel,by decide +kernel⟩
theorem ud(g:G P T.w T.K T.cA mg):FD P T.w T mg base 2 g.iJ g.fv ["self"] gD:=
 cD g.iK jC λcdv A outer s H E hr L hp=>aB (aP (eN (own:=[("place",1),("is_end",2)]) (by rfl) jC.nd (blkOk_by (by show blkC ["self", "place", "is_end"] (defScope kg) _ [("place",1),("is_end",2)]=true;decide +kernel)) (vc L.k (by rfl) g.j7 (cK L.k g.gV (aj 0))) (λ_ _ _ _ _=>(uY (jw (by rfl)).k (by rfl) (bT (aR 1 jC.nd) (bT (aR 2 jC.nd) kj)))) (λ_ _ _ _ _=>DE (mM (jw (by rfl)) (aj 2))) (λ_ _ _ _ _=>aj 1)))
def Ag:SM:=ck (au qA (aa (fZ [1] "own_goals" (eV 0)) ah))
def fL:FM:=bU 1 1 Ag
theorem Ah:FnScope ["self"] ["self"] (defScope mF):=⟨rfl,rfl,rfl,by decide +kernel,rfl,by decide +kernel,by decide +kernel⟩
theorem r7(g:G P T.w T.K T.cA mg):FD P T.w T mg base 2 g.gI g.d3 ["self"] fL:=
 cD g.gJ Ah λcdv A outer s H E hr L hp=>aB (aP (bO (tS L.k (by rfl)) (by rfl) g.qL (by rfl) (af (cK L.k g.de (aj 0)) ai)))
def m5:SM:=aG (xI 1 2 (aa (aS dW (aa (eV 0) (aa (cn (aa (eC (.str "ab")) (aa (eC (.str "b")) (aa (eC (.str "xyz")) ah)))) ah))) (aa (aA cY (eC (.int 9)) (aS dO (aa (eV 0) (aa (eC (.int 92)) ah)))) ah))) (aG (Ey (aG (xI 3 4 (aa (cn ah) (aa (mC ah) ah))) (mQ (bG (aa (eV 2) ah)) (.nm 5) (aG (bB 6 (xG (tE (aA CF (aA cY (eV 5) (eC (.int 1))) (eV 2))) (aA cY (aA hA (eC (.int 2)) (eV 5)) (eC (.int 2))) (xt jl (eC (.int 1))))) (aG (bB 3 (aA cY (eV 3) (aA hA (cn (aa (aA cY (cn (aa (eV 6) ah)) (aA hA (cn (aa (aA cY (eV 6) (au pJ (aa (aA JN (eV 6) (eC (.int 0))) ah))) ah)) (aA gSub (cF (b7 az) (aa (eV 1) ah)) (eC (.int 1))))) ah)) (eC (.int 2))))) (ju (mR "list" cI (eV 4) (aa (au rS (aa (aA hA (cn (aa (xG (tE (aA CF (aA cY (eV 5) (eC (.int 1))) (eV 2))) (aA cY (eV 5) (eC (.int 1))) (xt jl (eC (.int 1)))) ah)) (cF (b7 az) (aa (eV 1) ah))) ah)) ah)))))))) (aG (bB 7 (l4 1 aV (aa (xJ 1 0 [0] bE (aa (eV 1) ah) ah) (aa (eV 3) (aa (cn (aa (aA gSub (aA hA (eC (.int 2)) (eV 2)) (eC (.int 2))) (aa (aA gSub (aA hA (eC (.int 2)) (eV 2)) (eC (.int 1))) ah))) ah))))) (ck (aS (bF 8) (aa (cn (aa (fb 1 "goals" fL (fb 1 "least" aO (eV 7) ah) ah) (aa (fb 1 "ends" gD (fb 1 "least" aO (eV 7) ah) ah) (aa (cF (b7 az) (aa (eV 7) ah)) ah)))) (aa (cn (aa (eV 4) (aa (cn (aa (aA gSub (eV 2) (eC (.int 1))) ah)) (aa (aA hA (eC (.int 2)) (eV 2)) ah)))) ah))))))
def jD:FM:=bU 1 8 m5
def gE:FM:=PH jD
theorem c8:FnScope ["_law_hand_here", "_law_letters", "_law_size", "_law_rows", "_law_due", "_law_k", "_law_later", "_law_one"] ["_law_hand_here"] (defScope nQ):=⟨rfl,rfl,rfl,by decide +kernel,rfl,by decide +kernel,by decide +kernel⟩
theorem Ai(g:G P T.w T.K T.cA mg):FD P T.w T mg base 11 g.fy g.dG ["_law_hand_here"] jD:=
 cD g.iL c8 λcdv A outer s H E hr L hp=>aw (Ej 1 2 (by rfl) c8.nd (af (aU L (y9 g) (hr.mono (by omega)) (by rfl) g.yM g.sM g.yL (af (aj 0) (af (cX (af jK (af jK (af jK ai)))) ai))) (af (bJ (cZ L.k) aq (aU L (pM g) (hr.mono (by omega)) (by rfl) g.oH g.j5 g.oG (af (aj 0) (af aq ai)))) ai))) (z9 (pre:=[_,_]) (EC (oY (Ej 3 4 (by rfl) c8.nd (af (cX ai) (af (vX ai) ai))) (z8 (oh hp (by rfl) (jv (by rfl) g.gZ (af (aj 2) ai)) (aR 5 c8.nd) (aw (bc 6 c8.nd (tO (cu L (vY) zY (bJ (cZ L.k) (aj 5) aq) (aj 2)) (bJ (cZ L.k) (bJ iQ aq (aj 5)) aq) (tL jt aq))) (aw (bc 3 c8.nd (bJ (cZ L.k) (aj 3) (bJ iQ (cX (af (bJ (cZ L.k) (cX (af (aj 6) ai)) (bJ iQ (cX (af (bJ (cZ L.k) (aj 6) (bO ia (by rfl) g.s8 (by rfl) (af (fF (Ee) (aj 6) aq) ai))) ai)) (bJ yX (ff (dC L (hr.mono (by omega)) (bH g)) (by rfl) g.cN (by rfl) (af (aj 1) ai)) aq))) ai)) aq))) (aB (tP (uC L.k (.inl rfl) F.plainAttrs_list F.slot_list_append F.type_list_append jN (aj 4) (af (bO (rT L.k) (by rfl) g.pA (by rfl) (af (bJ iQ (cX (af (tO (cu L (vY) zY (bJ (cZ L.k) (aj 5) aq) (aj 2)) (bJ (cZ L.k) (aj 5) aq) (tL jt aq)) ai)) (ff (dC L (hr.mono (by omega)) (bH g)) (by rfl) g.cN (by rfl) (af (aj 1) ai))) ai)) ai)))))))))) (aw (bc 7 c8.nd (v9 L g.nu (jA g) (hr.mono (by omega)) (by rfl) g.my g.iy (af (Nk L g.nA (ub g) (hr.mono (by omega)) (by rfl) g.oS (g.k4) (af (aj 1) ai) QJ) (af (aj 3) (af (cX (af (bJ yX (bJ iQ aq (aj 2)) aq) (af (bJ yX (bJ iQ aq (aj 2)) aq) ai))) ai))))) (aB (aP (aU L (ye (n:=8) g) (hr.mono (by omega)) (by rfl) g.wQ g.oL g.wO (af (cX (af (lh L (lh L (aj 7) g.bW g.eh (fK g) (hr.mono (by omega)) g.dZ) g.bW g.nz (r7 g) (hr.mono (by omega)) g.nj) (af (lh L (lh L (aj 7) g.bW g.eh (fK g) (hr.mono (by omega)) g.dZ) g.bW g.oT (ud g) (hr.mono (by omega)) g.oM) (af (ff (dC L (hr.mono (by omega)) (bH g)) (by rfl) g.cN (by rfl) (af (aj 7) ai)) ai)))) (af (cX (af (aj 4) (af (cX (af (bJ yX (aj 2) aq) ai)) (af (bJ iQ aq (aj 2)) ai)))) ai)))))))
theorem Bk(g:G P T.w T.K T.cA mg):FD P T.w T mg base 11 g.fy g.dG ["_law_hand_here"] gE:=FD.sc (Ai g)
end
section
variable {P:Program}{mg:Str->Option Value}{base:Heap}{T:Tb}
open PySem PySem.Spec PyProof.Rows L2 NdefX LamX
open L2H (RoomH PinOk cxH inv_startH roomH_of)
def ot:SM:=aG (bB 2 (cn (aa (eC (.str "")) ah))) (aG (mQ (bG (aa (eV 1) ah)) (.nm 3) (aG (bB 4 (cn ah)) (aG (mQ (cJ (eV 2)) (.nm 5) (bB 4 (aA cY (eV 4) (fX [6] (iStr (eV 0)) (.nm 6) aL (aA cY (eV 5) (eV 6)))))) (bB 2 (eV 4))))) (ck (eV 2)))
def ie:FM:=bU 2 7 ot
theorem cC:FnScope ["_law_letters", "_law_length", "_law_found", "_law_k", "_law_longer", "_law_word", "_law_letter"] ["_law_letters", "_law_length"] (defScope lH):=⟨rfl,rfl,rfl,by decide +kernel,rfl,by decide +kernel,by decide +kernel⟩
theorem B7(g:G P T.w T.K T.cA mg):FD P T.w T mg base 2 g.jd g.gy ["_law_letters", "_law_length"] ie:=
 cD g.je cC λcdv A outer s H E hr L hp=>aw (bc 2 cC.nd (cX (af jK ai))) (aw (oh hp (by rfl) (jv (by rfl) g.gZ (af (aj 1) ai)) (aR 3 cC.nd) (aw (bc 4 cC.nd (cX ai)) (aw (oh hp (by rfl) (dj L.k (aj 2)) (aR 5 cC.nd) (aB (bc 4 cC.nd (bJ (cZ L.k) (aj 4) (eN (own:=[("_law_letter",6)]) (by rfl) cC.nd (blkOk_by (by show blkC ["_law_letters", "_law_length", "_law_found", "_law_k", "_law_longer", "_law_word", "_law_letter"] (defScope lH) _ [("_law_letter",6)]=true;decide +kernel)) (BN (aj 0)) (λ_ _ _ _ _=>(aR 6 cC.nd)) (λ_ _ _ _ _=>aY) (λ_ _ _ _ _=>bJ (cZ (jw (by rfl)).k) (aj 5) (aj 6))))))) (aB (bc 2 cC.nd (aj 4)))))) (aB (aP (aj 2))))
def qQ:SM:=ck (fZ [0] "own_letters" (eV 0))
def eO:FM:=bU 1 1 qQ
theorem zl:FnScope ["self"] ["self"] (defScope lP):=⟨rfl,rfl,rfl,by decide +kernel,rfl,by decide +kernel,by decide +kernel⟩
theorem zm(g:G P T.w T.K T.cA mg):FD P T.w T mg base 2 g.fT g.dH ["self"] eO:=
 cD g.fU zl λcdv A outer s H E hr L hp=>aB (aP (cK L.k g.dJ (aj 0)))
def gb:SM:=aG (mQ (iStr (eV 2)) (.nm 3) (aG (uP (tE (aA CF (eV 1) (eC (.int 0)))) (ck (xt jl (eC (.int 1)))) iR) (bB 1 (aA b6 (aA b6 (fZ [1] "own_goals" (eV 0)) (eV 1)) (mR "str" rg (CL 0 eO (fZ [1] "own_alphabet" (eV 0))) (aa (eV 3) ah)))))) (ck (eV 1))
def du:FM:=bU 3 4 gb
theorem gc:FnScope ["self", "place", "word", "letter"] ["self", "place", "word"] (defScope gO):=⟨rfl,rfl,rfl,by decide +kernel,rfl,by decide +kernel,by decide +kernel⟩
theorem tu(g:G P T.w T.K T.cA mg):FD P T.w T mg base 4 g.cL g.bZ ["self", "place", "word"] du:=
 cD g.cM gc λcdv A outer s H E hr L hp=>aw (oh hp (by rfl) (BN (aj 2)) (aR 3 gc.nd) (aw (iN (cu L (vY) zY (aj 1) aq) (aB (aP (tL jt aq))) eA) (aB (bc 1 gc.nd (aZ L.k (aZ L.k (cK L.k g.de (aj 0)) (aj 1)) (uC L.k (.inr rfl) F.plainAttrs_str F.slot_str_index F.type_str_index Ez (Nc L (cK L.k g.cf (aj 0)) g.mz g.tj (zm g) (hr.mono (by omega)) g.sQ) (af (aj 3) ai))))))) (aB (aP (aj 1)))
def cG:SM:=ck (og (au dN (aa (eV 1) (aa (eC (.ty "str")) ah))) (au xH (aa (fX [2] (iStr (eV 1)) (.nm 2) aL (aA Ly (eV 2) (fZ [0] "own_letters" (eV 0)))) ah)))
def bw:FM:=bU 2 3 cG
theorem kW:FnScope ["self", "value", "letter"] ["self", "value"] (defScope iP):=⟨rfl,rfl,rfl,by decide +kernel,rfl,by decide +kernel,by decide +kernel⟩
theorem zo(g:G P T.w T.K T.cA mg):FD P T.w T mg base 2 g.fV g.dI ["self", "value"] bw:=
 cD g.fW kW λcdv A outer s H E hr L hp=>aB (aP (jM L (aF (df L.k) (by rfl) g.aX (by rfl) (af (aj 1) (af (rO (by rfl) g.Hi (by rfl)) ai))) (kT (aF (ki L.k (by rfl)) (by rfl) g.zF (by rfl) (af (eN (own:=[("letter",2)]) (by rfl) kW.nd (blkOk_by (by show blkC ["self", "value", "letter"] (defScope iP) _ [("letter",2)]=true;decide +kernel)) (BN (aj 1)) (λ_ _ _ _ _=>(aR 2 kW.nd)) (λ_ _ _ _ _=>aY) (λ_ _ _ _ _=>fF (Eh (jw (by rfl)).k) (aj 2) (cK (jw (by rfl)).k g.dJ (aj 0)))) ai)))))
def pN:SM:=aG (uP (hV (tE (fb 0 "is_word" bw (fZ [1] "own_alphabet" (eV 0)) (aa (eV 1) ah)))) (qz 13 1 [("given",.inl 0),("code",.inr "InvalidWord")] (aa (eV 1) ah)) iR) (aG (bB 2 (fb 1 "place_behind" du (eV 0) (aa (xG (tE (aA JN (au cj (aa (fZ [1] "own_goals" (eV 0)) ah)) (eC (.int 0)))) (eC (.int 0)) (xt jl (eC (.int 1)))) (aa (eV 1) ah)))) (ck (og (aA tq (eV 2) (eC (.int 0))) (aA b6 (fZ [1] "own_ends" (eV 0)) (eV 2)))))
def dP:FM:=bU 2 3 pN
theorem pO:FnScope ["self", "word", "place"] ["self", "word"] (defScope kQ):=⟨rfl,rfl,rfl,by decide +kernel,rfl,by decide +kernel,by decide +kernel⟩
theorem yf(g:G P T.w T.K T.cA mg):FD P T.w T mg base 5 g.eS g.dh ["self", "word"] dP:=
 cD g.eT pO λcdv A outer s H E hr L hp=>aw (iN (lS (mM L (AH L (cK L.k g.cf (aj 0)) g.mz g.tn (zo g) (hr.mono (by omega)) g.sR (af (aj 1) ai)))) (aB (BP L (by rfl) g.zH (hr.mono (by omega)) (by rfl) g.zG (af (aj 1) ai))) eA) (aw (bc 2 pO.nd (AH L (aj 0) g.bW g.lF (tu g) (hr.mono (by omega)) g.lD (af (tO (cu L (Ee) Lz (aF (bu L.k) (by rfl) g.cN (by rfl) (af (cK L.k g.de (aj 0)) ai)) aq) aq (tL jt aq)) (af (aj 1) ai)))) (aB (aP (jM L (fF (oa) (aj 2) aq) (kT (aZ L.k (cK L.k g.gV (aj 0)) (aj 2)))))))
def CU:SM:=ck (xG (tE (aA tq (eV 1) (eC (.int 0)))) (aA b6 (aA b6 (aA b6 (eV 0) (eC (.int 0))) (eV 1)) (eV 2)) (xt jl (eC (.int 1))))
def pP:FM:=bU 3 3 CU
theorem Kw:FnScope ["_law_table", "_law_place", "_law_k"] ["_law_table", "_law_place", "_law_k"] (defScope zJ):=⟨rfl,rfl,rfl,by decide +kernel,rfl,by decide +kernel,by decide +kernel⟩
theorem Kx(g:G P T.w T.K T.cA mg):FD P T.w T mg base 2 g.sS g.oO ["_law_table", "_law_place", "_law_k"] pP:=
 cD g.sT Kw λcdv A outer s H E hr L hp=>aB (aP (tO (cu L (oa) v5 (aj 1) aq) (aZ L.k (aZ L.k (aZ L.k (aj 0) aq) (aj 1)) (aj 2)) (tL jt aq)))
def yg:SM:=aG (bB 3 (xG (tE (aA (LM true) (aA b6 (eV 0) (eC (.int 0))) (cn ah))) (eC (.int 0)) (xt jl (eC (.int 1))))) (aG (mQ (iStr (eV 2)) (.nm 4) (bB 3 (aS pP (aa (eV 0) (aa (eV 3) (aa (mR "str" rg (eV 1) (aa (eV 4) ah)) ah)))))) (ck (og (aA tq (eV 3) (eC (.int 0))) (aA b6 (aA b6 (eV 0) (eC (.int 1))) (eV 3)))))
def pQ:FM:=bU 3 5 yg
theorem ue:FnScope ["_law_table", "_law_letters", "_law_word", "_law_place", "_law_letter"] ["_law_table", "_law_letters", "_law_word"] (defScope zK):=⟨rfl,rfl,rfl,by decide +kernel,rfl,by decide +kernel,by decide +kernel⟩
theorem Ky(g:G P T.w T.K T.cA mg):FD P T.w T mg base 3 g.sU g.oP ["_law_table", "_law_letters", "_law_word"] pQ:=
 cD g.sV ue λcdv A outer s H E hr L hp=>aw (bc 3 ue.nd (tO (cu L (Pa L.k hr.units) Ut (aZ L.k (aj 0) aq) (cX ai)) aq (tL jt aq))) (aw (oh hp (by rfl) (BN (aj 2)) (aR 4 ue.nd) (aB (bc 3 ue.nd (aU L (Kx g) (hr.mono (by omega)) (by rfl) g.FF g.wR g.FE (af (aj 0) (af (aj 3) (af (uC L.k (.inr rfl) F.plainAttrs_str F.slot_str_index F.type_str_index Ez (aj 1) (af (aj 4) ai)) ai))))))) (aB (aP (jM L (fF (oa) (aj 3) aq) (kT (aZ L.k (aZ L.k (aj 0) aq) (aj 3)))))))
def xo:SM:=ck (fZ [1] "own_alphabet" (eV 0))
def jn:FM:=bU 1 1 xo
theorem xp:FnScope ["self"] ["self"] (defScope jI):=⟨rfl,rfl,rfl,by decide +kernel,rfl,by decide +kernel,by decide +kernel⟩
theorem xq(g:G P T.w T.K T.cA mg):FD P T.w T mg base 2 g.dR g.cT ["self"] jn:=
 cD g.dS xp λcdv A outer s H E hr L hp=>aB (aP (cK L.k g.cf (aj 0)))
def CW:SM:=ck (fX [1] (bG (aa (au cj (aa (aA b6 (eV 0) (eC (.int 1))) ah)) ah)) (.nm 1) (tE (aA b6 (aA b6 (eV 0) (eC (.int 1))) (eV 1))) (eV 1))
def jT:FM:=bU 1 2 CW
theorem yh:FnScope ["_law_table", "_law_at"] ["_law_table"] (defScope vR):=⟨rfl,rfl,rfl,by decide +kernel,rfl,by decide +kernel,by decide +kernel⟩
theorem CY(g:G P T.w T.K T.cA mg):FD P T.w T mg base 2 g.sW g.oQ ["_law_table"] jT:=
 cD g.sX yh λcdv A outer s H E hr L hp=>aB (aP (eN (own:=[("_law_at",1)]) (by rfl) yh.nd (blkOk_by (by show blkC ["_law_table", "_law_at"] (defScope vR) _ [("_law_at",1)]=true;decide +kernel)) (jv (by rfl) g.gZ (af (aF (bu L.k) (by rfl) g.cN (by rfl) (af (aZ L.k (aj 0) aq) ai)) ai)) (λ_ _ _ _ _=>(aR 1 yh.nd)) (λ_ _ _ _ _=>DE (mM (jw (by rfl)) (aZ (jw (by rfl)).k (aZ (jw (by rfl)).k (aj 0) aq) (aj 1)))) (λ_ _ _ _ _=>aj 1)))
def F4:SM:=ck (au Im (aa (au wg (aa (fX [1] (cJ (eV 0)) (.nm 1) aL (mK (aa (eV 1) (aa (eC (.int 0)) ah)))) ah)) ah))
def pf:FM:=bU 1 2 F4
theorem uG:FnScope ["_law_things", "_law_one"] ["_law_things"] (defScope qX):=⟨rfl,rfl,rfl,by decide +kernel,rfl,by decide +kernel,by decide +kernel⟩
theorem F5(g:G P T.w T.K T.cA mg):FD P T.w T mg base 2 g.nr g.kK ["_law_things"] pf:=
 cD g.nt uG λcdv A outer s H E hr L hp=>aB (aP (bO (Io (by rfl) L.k (by rfl)) (by rfl) g.qL (by rfl) (af (bO (A0 (by rfl) L.k (by rfl) hr.units) (by rfl) g.My (by rfl) (af (eN (own:=[("_law_one",1)]) (by rfl) uG.nd (blkOk_by (by show blkC ["_law_things", "_law_one"] (defScope qX) _ [("_law_one",1)]=true;decide +kernel)) (dj L.k (aj 0)) (λ_ _ _ _ _=>(aR 1 uG.nd)) (λ_ _ _ _ _=>aY) (λ_ _ _ _ _=>jL (af (aj 1) (af aq ai)))) ai)) ai)))
def yi:SM:=aG (xO 2 3 4 (aa (aA b6 (eV 0) (eC (.int 0))) (aa (au qA (aa (aA b6 (eV 0) (eC (.int 1))) ah)) (aa (eC (.bl true)) ah)))) (aG (kU (tE (eV 4)) (aG (bB 5 (fX [13] (bG (aa (au cj (aa (eV 2) ah)) ah)) (.nm 13) aL (XD (aA b6 (eV 3) (eV 13)) (aA Ly (eC (.bl true)) (fX [16] (cJ (aA b6 (eV 2) (eV 13))) (.nm 16) aL (og (aA tq (eV 16) (eC (.int 0))) (aA b6 (eV 3) (eV 16)))))))) (FX (.tp ((.nm 4)::((.nm 3)::[]))) (mK (aa (aA mD (eV 5) (eV 3)) (aa (eV 5) ah))))) 2700) (aG (uP (uA (tE (aA eU (eV 2) (cn ah))) (hV (tE (aA b6 (eV 3) (eC (.int 0)))))) (ck (mK (aa (cn ah) (aa (cn ah) ah)))) iR) (aG (bB 6 (fX [15] (cJ (eV 2)) (.nm 15) aL (fX [16] (cJ (eV 15)) (.nm 16) aL (xG (pI (tE (aA tq (eV 16) (eC (.int 0)))) (tE (aA b6 (eV 3) (eV 16)))) (eV 16) (xt jl (eC (.int 1))))))) (aG (xO 7 8 4 (aa (fX [18] (cJ (aA b6 (eV 0) (eC (.int 1)))) (.nm 18) aL (au pJ (aa (eV 18) ah))) (aa (eC (.int 0)) (aa (eC (.bl true)) ah)))) (aG (kU (tE (eV 4)) (aG (bB 9 (fX [13] (bG (aa (au cj (aa (eV 2) ah)) ah)) (.nm 13) aL (mK (aa (aA b6 (eV 7) (eV 13)) (aa (au rS (aa (fX [16] (cJ (aA b6 (eV 6) (eV 13))) (.nm 16) aL (xG (tE (aA tq (eV 16) (eC (.int 0)))) (aA b6 (eV 7) (eV 16)) (xt jl (eC (.int 1))))) ah)) ah))))) (aG (bB 10 (au y7 (aa (aS pf (aa (eV 9) ah)) ah))) (aG (bB 11 (au wg (aa (fX [20] (bG (aa (au cj (aa (eV 10) ah)) ah)) (.nm 20) aL (mK (aa (aA b6 (eV 10) (eV 20)) (aa (eV 20) ah)))) ah))) (aG (bB 7 (fX [19] (cJ (eV 9)) (.nm 19) aL (rV (eV 11) (eV 19)))) (xI 4 8 (aa (aA JN (au cj (aa (eV 10) ah)) (eV 8)) (aa (au cj (aa (eV 10) ah)) ah))))))) 2700) (aG (Ey (aG (xO 12 13 14 (aa (mC (aa (eC (.int 0)) ah)) (aa (eC (.int 0)) (aa (mC ah) ah)))) (kU (tE (aA CF (eV 13) (au cj (aa (eV 12) ah)))) (Ey (aG (Ey (aG (bB 15 (mC ah)) (mQ (cJ (aA b6 (eV 6) (aA b6 (eV 12) (eV 13)))) (.nm 16) (aG (bB 17 (fX [20] (bG (aa (au cj (aa (eV 12) ah)) ah)) (.nm 20) (pI (tE (aA tq (eV 16) (eC (.int 0)))) (tE (aA eU (aA b6 (eV 7) (aA b6 (eV 12) (eV 20))) (aA b6 (eV 7) (eV 16))))) (eV 20))) (aG (uP (pI (tE (aA tq (eV 16) (eC (.int 0)))) (tE (aA eU (eV 17) (cn ah)))) (aG (bB 17 (cn (aa (au cj (aa (eV 12) ah)) ah))) (ju (mR "list" cI (eV 12) (aa (eV 16) ah)))) iR) (ju (mR "list" cI (eV 15) (aa (xG (tE (aA tq (eV 16) (eC (.int 0)))) (aA b6 (eV 17) (eC (.int 0))) (xt jl (eC (.int 1)))) ah)))))))) (aG (ju (mR "list" cI (eV 14) (aa (eV 15) ah))) (bB 13 (aA cY (eV 13) (eC (.int 1))))))) 2700))) (ck (mK (aa (eV 14) (aa (fX [18] (cJ (eV 12)) (.nm 18) aL (aA b6 (aA b6 (eV 0) (eC (.int 1))) (eV 18))) ah))))))))))
def r8:FM:=bU 2 21 yi
def fN:FM:=PH r8
theorem ax:FnScope ["_law_table", "_law_width", "_law_goals", "_law_live", "_law_more", "_law_later", "_law_kept", "_law_kinds", "_law_many", "_law_keys", "_law_known", "_law_places", "_law_order", "_law_at", "_law_found", "_law_row", "_law_goal", "_law_same", "_law_one", "_law_key", "_law_k"] ["_law_table", "_law_width"] (defScope br):=⟨rfl,rfl,rfl,by decide +kernel,rfl,by decide +kernel,by decide +kernel⟩
theorem Dw(g:G P T.w T.K T.cA mg):FD P T.w T mg base 3 g.ji g.gU ["_law_table", "_law_width"] r8:=
 cD g.lE ax λcdv A outer s H E hr L hp=>aw (EI 2 3 4 (by rfl) L.k ax.nd (af (aZ L.k (aj 0) aq) (af (bO (tS L.k (by rfl)) (by rfl) g.qL (by rfl) (af (aZ L.k (aj 0) aq) ai)) (af pF ai)))) (aw (uZ 2700 hp (mM L (aj 4)) (aw (u6 (own:=[("_law_at",13)]) 5 (by rfl) ax.nd (blkOk_by (by show blkC ["_law_table", "_law_width", "_law_goals", "_law_live", "_law_more", "_law_later", "_law_kept", "_law_kinds", "_law_many", "_law_keys", "_law_known", "_law_places", "_law_order", "_law_at", "_law_found", "_law_row", "_law_goal", "_law_same", "_law_one", "_law_key", "_law_k"] (defScope br) _ [("_law_at",13)]=true;decide +kernel)) (jv (by rfl) g.gZ (af (aF (bu L.k) (by rfl) g.cN (by rfl) (af (aj 2) ai)) ai)) (λ_ _ _ _ _=>(aR 13 ax.nd)) (λ_ _ _ _ _=>aY) (λ_ _ _ _ _=>aaQ (jw (by rfl)) (aZ (jw (by rfl)).k (aj 3) (aj 13)) (kT (fF (Eh (jw (by rfl)).k) pF (eN (own:=[("_law_goal",16)]) (by rfl) ax.nd (blkOk_by (by show blkC ["_law_table", "_law_width", "_law_goals", "_law_live", "_law_more", "_law_later", "_law_kept", "_law_kinds", "_law_many", "_law_keys", "_law_known", "_law_places", "_law_order", "_law_at", "_law_found", "_law_row", "_law_goal", "_law_same", "_law_one", "_law_key", "_law_k"] (relS (u7 (atS [1,0] [0] br)) (defScope br)) _ [("_law_goal",16)]=true;decide +kernel)) (dj (jw (by rfl)).k (aZ (jw (by rfl)).k (aj 2) (aj 13))) (λ_ _ _ _ _=>(aR 16 ax.nd)) (λ_ _ _ _ _=>aY) (λ_ _ _ _ _=>jM (jw (by rfl)) (fF (oa) (aj 16) aq) (kT (aZ (jw (by rfl)).k (aj 3) (aj 16)))))))) (by rfl)) (aB (HM (jL (af (fF (oX L.k hr.units) (aj 5) (aj 3)) (af (aj 5) ai))) (uY L.k (by rfl) (bT (aR 4 ax.nd) (bT (aR 3 ax.nd) kj))))))) (aw (iN (xF (w4 (cu L (iS L.k hr.units) yZ (aj 2) (cX ai)) (uB (lS (mM L (aZ L.k (aj 3) aq)))))) (aB (aP (jL (af (cX ai) (af (cX ai) ai))))) eA) (aw (bc 6 ax.nd (eN (own:=[("_law_row",15)]) (by rfl) ax.nd (blkOk_by (by show blkC ["_law_table", "_law_width", "_law_goals", "_law_live", "_law_more", "_law_later", "_law_kept", "_law_kinds", "_law_many", "_law_keys", "_law_known", "_law_places", "_law_order", "_law_at", "_law_found", "_law_row", "_law_goal", "_law_same", "_law_one", "_law_key", "_law_k"] (defScope br) _ [("_law_row",15)]=true;decide +kernel)) (dj L.k (aj 2)) (λ_ _ _ _ _=>(aR 15 ax.nd)) (λ_ _ _ _ _=>aY) (λ_ _ _ _ _=>eN (own:=[("_law_goal",16)]) (by rfl) ax.nd (blkOk_by (by show blkC ["_law_table", "_law_width", "_law_goals", "_law_live", "_law_more", "_law_later", "_law_kept", "_law_kinds", "_law_many", "_law_keys", "_law_known", "_law_places", "_law_order", "_law_at", "_law_found", "_law_row", "_law_goal", "_law_same", "_law_one", "_law_key", "_law_k"] (relS (u7 (atS [3] [0] br)) (defScope br)) _ [("_law_goal",16)]=true;decide +kernel)) (dj (jw (by rfl)).k (aj 15)) (λ_ _ _ _ _=>(aR 16 ax.nd)) (λ_ _ _ _ _=>aY) (λ_ _ _ _ _=>tO (xF (zZ (cu (jw (by rfl)) (oa) v5 (aj 16) aq) (v7 (mM (jw (by rfl)) (aZ (jw (by rfl)).k (aj 3) (aj 16)))))) (aj 16) (tL jt aq))))) (aw (EI 7 8 4 (by rfl) L.k ax.nd (af (eN (own:=[("_law_one",18)]) (by rfl) ax.nd (blkOk_by (by show blkC ["_law_table", "_law_width", "_law_goals", "_law_live", "_law_more", "_law_later", "_law_kept", "_law_kinds", "_law_many", "_law_keys", "_law_known", "_law_places", "_law_order", "_law_at", "_law_found", "_law_row", "_law_goal", "_law_same", "_law_one", "_law_key", "_law_k"] (defScope br) _ [("_law_one",18)]=true;decide +kernel)) (dj L.k (aZ L.k (aj 0) aq)) (λ_ _ _ _ _=>(aR 18 ax.nd)) (λ_ _ _ _ _=>aY) (λ_ _ _ _ _=>bO ia (by rfl) g.s8 (by rfl) (af (aj 18) ai))) (af aq (af pF ai)))) (aw (uZ 2700 hp (mM L (aj 4)) (aw (u6 (own:=[("_law_at",13)]) 9 (by rfl) ax.nd (blkOk_by (by show blkC ["_law_table", "_law_width", "_law_goals", "_law_live", "_law_more", "_law_later", "_law_kept", "_law_kinds", "_law_many", "_law_keys", "_law_known", "_law_places", "_law_order", "_law_at", "_law_found", "_law_row", "_law_goal", "_law_same", "_law_one", "_law_key", "_law_k"] (defScope br) _ [("_law_at",13)]=true;decide +kernel)) (jv (by rfl) g.gZ (af (aF (bu L.k) (by rfl) g.cN (by rfl) (af (aj 2) ai)) ai)) (λ_ _ _ _ _=>(aR 13 ax.nd)) (λ_ _ _ _ _=>aY) (λ_ _ _ _ _=>jL (af (aZ (jw (by rfl)).k (aj 7) (aj 13)) (af (bO (rT (jw (by rfl)).k) (by rfl) g.pA (by rfl) (af (eN (own:=[("_law_goal",16)]) (by rfl) ax.nd (blkOk_by (by show blkC ["_law_table", "_law_width", "_law_goals", "_law_live", "_law_more", "_law_later", "_law_kept", "_law_kinds", "_law_many", "_law_keys", "_law_known", "_law_places", "_law_order", "_law_at", "_law_found", "_law_row", "_law_goal", "_law_same", "_law_one", "_law_key", "_law_k"] (relS (u7 (atS [5,0] [0] br)) (defScope br)) _ [("_law_goal",16)]=true;decide +kernel)) (dj (jw (by rfl)).k (aZ (jw (by rfl)).k (aj 6) (aj 13))) (λ_ _ _ _ _=>(aR 16 ax.nd)) (λ_ _ _ _ _=>aY) (λ_ _ _ _ _=>tO (cu (jw (by rfl)) (oa) v5 (aj 16) aq) (aZ (jw (by rfl)).k (aj 7) (aj 16)) (tL jt aq))) ai)) ai))) (by rfl)) (aw (bc 10 ax.nd (aF (Ip L.k hr.units) (by rfl) g.FL (by rfl) (af (aU L (F5 g) (hr.mono (by omega)) (by rfl) g.BG g.rA g.BF (af (aj 9) ai)) ai))) (aw (bc 11 ax.nd (bO (A0 (by rfl) L.k (by rfl) hr.units) (by rfl) g.My (by rfl) (af (eN (own:=[("_law_k",20)]) (by rfl) ax.nd (blkOk_by (by show blkC ["_law_table", "_law_width", "_law_goals", "_law_live", "_law_more", "_law_later", "_law_kept", "_law_kinds", "_law_many", "_law_keys", "_law_known", "_law_places", "_law_order", "_law_at", "_law_found", "_law_row", "_law_goal", "_law_same", "_law_one", "_law_key", "_law_k"] (defScope br) _ [("_law_k",20)]=true;decide +kernel)) (jv (by rfl) g.gZ (af (aF (bu L.k) (by rfl) g.cN (by rfl) (af (aj 10) ai)) ai)) (λ_ _ _ _ _=>(aR 20 ax.nd)) (λ_ _ _ _ _=>aY) (λ_ _ _ _ _=>jL (af (aZ (jw (by rfl)).k (aj 10) (aj 20)) (af (aj 20) ai)))) ai))) (aw (bc 7 ax.nd (eN (own:=[("_law_key",19)]) (by rfl) ax.nd (blkOk_by (by show blkC ["_law_table", "_law_width", "_law_goals", "_law_live", "_law_more", "_law_later", "_law_kept", "_law_kinds", "_law_many", "_law_keys", "_law_known", "_law_places", "_law_order", "_law_at", "_law_found", "_law_row", "_law_goal", "_law_same", "_law_one", "_law_key", "_law_k"] (defScope br) _ [("_law_key",19)]=true;decide +kernel)) (dj L.k (aj 9)) (λ_ _ _ _ _=>(aR 19 ax.nd)) (λ_ _ _ _ _=>aY) (λ_ _ _ _ _=>AW (jw (by rfl)).k (by rfl) hr.units (aj 11) (aj 19)))) (aB (Ej 4 8 (by rfl) ax.nd (af (fF (Ee) (aF (bu L.k) (by rfl) g.cN (by rfl) (af (aj 10) ai)) (aj 8)) (af (aF (bu L.k) (by rfl) g.cN (by rfl) (af (aj 10) ai)) ai))))))))) (z9 (pre:=[_,_]) (EC (oY (EI 12 13 14 (by rfl) L.k ax.nd (af (vX (af aq ai)) (af aq (af (vX ai) ai)))) (z8 (uZ 2700 hp (cu L (vY) zY (aj 13) (aF (bu L.k) (by rfl) g.cN (by rfl) (af (aj 12) ai))) (Wj (z9 (pre:=[_,_]) (EC (oY (bc 15 ax.nd (vX ai)) (z8 (oh hp (by rfl) (dj L.k (aZ L.k (aj 6) (aZ L.k (aj 12) (aj 13)))) (aR 16 ax.nd) (aw (u6 (own:=[("_law_k",20)]) 17 (by rfl) ax.nd (blkOk_by (by show blkC ["_law_table", "_law_width", "_law_goals", "_law_live", "_law_more", "_law_later", "_law_kept", "_law_kinds", "_law_many", "_law_keys", "_law_known", "_law_places", "_law_order", "_law_at", "_law_found", "_law_row", "_law_goal", "_law_same", "_law_one", "_law_key", "_law_k"] (defScope br) _ [("_law_k",20)]=true;decide +kernel)) (jv (by rfl) g.gZ (af (aF (bu L.k) (by rfl) g.cN (by rfl) (af (aj 12) ai)) ai)) (λ_ _ _ _ _=>(aR 20 ax.nd)) (λ_ _ _ _ _=>DE (xF (zZ (cu (jw (by rfl)) (oa) v5 (aj 16) aq) (v7 (cu (jw (by rfl)) (iS (jw (by rfl)).k hr.units) yZ (aZ (jw (by rfl)).k (aj 7) (aZ (jw (by rfl)).k (aj 12) (aj 20))) (aZ (jw (by rfl)).k (aj 7) (aj 16))))))) (λ_ _ _ _ _=>aj 20) (by rfl)) (aw (iN (xF (zZ (cu L (oa) v5 (aj 16) aq) (v7 (cu L (iS L.k hr.units) yZ (aj 17) (cX ai))))) (aw (bc 17 ax.nd (cX (af (aF (bu L.k) (by rfl) g.cN (by rfl) (af (aj 12) ai)) ai))) (aB (tP (uC L.k (.inl rfl) F.plainAttrs_list F.slot_list_append F.type_list_append jN (aj 12) (af (aj 16) ai))))) eA) (aB (tP (uC L.k (.inl rfl) F.plainAttrs_list F.slot_list_append F.type_list_append jN (aj 15) (af (tO (cu L (oa) v5 (aj 16) aq) (aZ L.k (aj 17) aq) (tL jt aq)) ai)))))))))) (aw (tP (uC L.k (.inl rfl) F.plainAttrs_list F.slot_list_append F.type_list_append jN (aj 14) (af (aj 15) ai))) (aB (bc 13 ax.nd (bJ (cZ L.k) (aj 13) aq)))))))))) (aB (aP (jL (af (aj 14) (af (eN (own:=[("_law_one",18)]) (by rfl) ax.nd (blkOk_by (by show blkC ["_law_table", "_law_width", "_law_goals", "_law_live", "_law_more", "_law_later", "_law_kept", "_law_kinds", "_law_many", "_law_keys", "_law_known", "_law_places", "_law_order", "_law_at", "_law_found", "_law_row", "_law_goal", "_law_same", "_law_one", "_law_key", "_law_k"] (defScope br) _ [("_law_one",18)]=true;decide +kernel)) (dj L.k (aj 12)) (λ_ _ _ _ _=>(aR 18 ax.nd)) (λ_ _ _ _ _=>aY) (λ_ _ _ _ _=>aZ (jw (by rfl)).k (aZ (jw (by rfl)).k (aj 0) aq) (aj 18))) ai)))))))))))
theorem E3(g:G P T.w T.K T.cA mg):FD P T.w T mg base 3 g.ji g.gU ["_law_table", "_law_width"] fN:=FD.sc (Dw g)
end
section
variable {P:Program}{mg:Str->Option Value}{base:Heap}{T:Tb}
open PySem PySem.Spec PyProof.Rows L2 NdefX LamX
open L2H (RoomH PinOk cxH inv_startH roomH_of)
def lV:SM:=aG (bB 3 (aS dO (aa (eV 0) (aa (aA cY (eV 2) (eC (.int 1))) ah)))) (aG (Ey (aG (bB 4 (mC ah)) (mQ (bG (aa (eV 3) ah)) (.nm 5) (ju (mR "list" cI (eV 4) (aa (fX [6] (bG (aa (eV 1) ah)) (.nm 6) aL (aS dW (aa (eV 0) (aa (aA cY (cn (aa (xt jl (eC (.int 1))) ah)) (aA hA (BQ (eV 3)) (eC (.int 2)))) ah)))) ah)))))) (ck (mK (aa (eV 4) (aa (fX [5] (bG (aa (eV 3) ah)) (.nm 5) aL (aA eU (aS dO (aa (eV 0) (aa (eC (.int 3)) ah))) (eC (.int 0)))) ah)))))
def iV:FM:=bU 3 7 lV
def fO:FM:=PH iV
theorem cy:FnScope ["_law_hand_here", "_law_width", "_law_most", "_law_many", "_law_goals", "_law_at", "_law_k"] ["_law_hand_here", "_law_width", "_law_most"] (defScope gA):=⟨rfl,rfl,rfl,by decide +kernel,rfl,by decide +kernel,by decide +kernel⟩
theorem zq(g:G P T.w T.K T.cA mg):FD P T.w T mg base 4 g.d6 g.da ["_law_hand_here", "_law_width", "_law_most"] iV:=
 cD g.gK cy λcdv A outer s H E hr L hp=>aw (bc 3 cy.nd (aU L (pM g) (hr.mono (by omega)) (by rfl) g.oH g.j5 g.oG (af (aj 0) (af (bJ (cZ L.k) (aj 2) aq) ai)))) (z9 (pre:=[_,_]) (EC (oY (bc 4 cy.nd (vX ai)) (z8 (oh hp (by rfl) (jv (by rfl) g.gZ (af (aj 3) ai)) (aR 5 cy.nd) (aB (tP (uC L.k (.inl rfl) F.plainAttrs_list F.slot_list_append F.type_list_append jN (aj 4) (af (eN (own:=[("_law_k",6)]) (by rfl) cy.nd (blkOk_by (by show blkC ["_law_hand_here", "_law_width", "_law_most", "_law_many", "_law_goals", "_law_at", "_law_k"] (defScope gA) _ [("_law_k",6)]=true;decide +kernel)) (jv (by rfl) g.gZ (af (aj 1) ai)) (λ_ _ _ _ _=>(aR 6 cy.nd)) (λ_ _ _ _ _=>aY) (λ_ _ _ _ _=>aU (jw (by rfl)) (y9 g) (hr.mono (by omega)) (by rfl) g.yM g.sM g.yL (af (aj 0) (af (bJ (cZ (jw (by rfl)).k) (cX (af (tL jt aq) ai)) (bJ iQ (QQ (by rfl) (by rfl) g.qL (by rfl) g.gZ (aj 3)) aq)) ai)))) ai)))))))) (aB (aP (jL (af (aj 4) (af (eN (own:=[("_law_at",5)]) (by rfl) cy.nd (blkOk_by (by show blkC ["_law_hand_here", "_law_width", "_law_most", "_law_many", "_law_goals", "_law_at", "_law_k"] (defScope gA) _ [("_law_at",5)]=true;decide +kernel)) (jv (by rfl) g.gZ (af (aj 3) ai)) (λ_ _ _ _ _=>(aR 5 cy.nd)) (λ_ _ _ _ _=>aY) (λ_ _ _ _ _=>fF (iS (jw (by rfl)).k hr.units) (aU (jw (by rfl)) (pM g) (hr.mono (by omega)) (by rfl) g.oH g.j5 g.oG (af (aj 0) (af aq ai))) aq)) ai))))))
theorem Aj(g:G P T.w T.K T.cA mg):FD P T.w T mg base 4 g.d6 g.da ["_law_hand_here", "_law_width", "_law_most"] fO:=FD.sc (zq g)
def r9:SM:=aG (bB 1 (aS dW (aa (eV 0) (aa (cn (aa (eC (.str "ab")) (aa (eC (.str "ab")) (aa (eC (.str "abc")) (aa (eC (.str "xyz")) (aa (eC (.str "b")) (aa (eC (.str "kq")) (aa (eC (.str "aez")) ah)))))))) ah)))) (ck (mK (aa (eV 1) (aa (JX (eC (.str "")) (fX [2] (bG (aa (au cj (aa (eV 1) ah)) ah)) (.nm 2) aL (aS dW (aa (eV 0) (aa (eC (.str "1123")) ah))))) ah))))
def fP:FM:=bU 1 3 r9
theorem iW:FnScope ["_law_hand_here", "_law_letters", "_law_k"] ["_law_hand_here"] (defScope jr):=⟨rfl,rfl,rfl,by decide +kernel,rfl,by decide +kernel,by decide +kernel⟩
theorem Ak(g:G P T.w T.K T.cA mg):FD P T.w T mg base 4 g.gL g.d7 ["_law_hand_here"] fP:=
 cD g.gM iW λcdv A outer s H E hr L hp=>aw (bc 1 iW.nd (aU L (y9 g) (hr.mono (by omega)) (by rfl) g.yM g.sM g.yL (af (aj 0) (af (cX (af jK (af jK (af jK (af jK (af jK (af jK (af jK ai)))))))) ai)))) (aB (aP (jL (af (aj 1) (af (T6 L.k jK (eN (own:=[("_law_k",2)]) (by rfl) iW.nd (blkOk_by (by show blkC ["_law_hand_here", "_law_letters", "_law_k"] (defScope jr) _ [("_law_k",2)]=true;decide +kernel)) (jv (by rfl) g.gZ (af (aF (bu L.k) (by rfl) g.cN (by rfl) (af (aj 1) ai)) ai)) (λ_ _ _ _ _=>(aR 2 iW.nd)) (λ_ _ _ _ _=>aY) (λ_ _ _ _ _=>aU (jw (by rfl)) (y9 g) (hr.mono (by omega)) (by rfl) g.yM g.sM g.yL (af (aj 0) (af jK ai))))) ai)))))
def yj:SM:=aG (bB 1 (eC (.int 5627))) (aG (mQ (cJ (Wf (eV 0) CJ (CK (eC (.int 63))))) (.nm 2) (bB 1 (aA zX (au pJ (aa (aA cY (aA cY (aA hA (eV 1) (eC (.int 45161))) (aA zX (au pJ (aa (eV 2) ah)) (eC (.int 2147483587)))) (eC (.int 31))) ah)) (eC (.int 2147483629))))) (ck (mC (aa (au qA (aa (Wf (eV 0) CJ (CK (eC (.int 63)))) ah)) (aa (eC (.int 0)) (aa (eC (.int 0)) (aa (eV 1) (aa (eC (.int 0)) ah))))))))
def pS:FM:=bU 1 3 yj
theorem uf:FnScope ["_law_script", "_law_seed", "_law_cell"] ["_law_script"] (defScope zL):=⟨rfl,rfl,rfl,by decide +kernel,rfl,by decide +kernel,by decide +kernel⟩
theorem Kz(g:G P T.w T.K T.cA mg):FD P T.w T mg base 2 g.sZ g.oR ["_law_script"] pS:=
 cD g.s7 uf λcdv A outer s H E hr L hp=>aw (bc 1 uf.nd aq) (aw (oh hp (by rfl) (dj L.k (AE L.k (aj 0) DB (DC aq))) (aR 2 uf.nd) (aB (bc 1 uf.nd (bJ tM (bO ia (by rfl) g.s8 (by rfl) (af (bJ (cZ L.k) (bJ (cZ L.k) (bJ iQ (aj 1) aq) (bJ tM (bO ia (by rfl) g.s8 (by rfl) (af (aj 2) ai)) aq)) aq) ai)) aq)))) (aB (aP (vX (af (bO (tS L.k (by rfl)) (by rfl) g.qL (by rfl) (af (AE L.k (aj 0) DB (DC aq)) ai)) (af aq (af aq (af (aj 1) (af aq ai)))))))))
end
section
open L2H (RoomH PinOk cxH inv_startH roomH_of)
--FACTS--
end
section
open L2H (RoomH PinOk cxH inv_startH roomH_of)
theorem uH:QD ["self", "given", "__class__"] ["self", "given"] (defScope bV.st) (defArgs bV.st) [("given",.inl 0),("code",.inr "InvalidAlphabet")] ((defBody bV.st).drop 1):=⟨nscope_by (by decide +kernel),rfl,rfl,by decide,rfl,by decide,LL (by decide),by decide⟩
theorem tw:QD ["self", "__class__"] ["self"] (defScope bN.st) (defArgs bN.st) [("code",.inr "InvalidAutomaton")] ((defBody bN.st).drop 1):=⟨nscope_by (by decide +kernel),rfl,rfl,by decide,rfl,by decide,LL (by decide),by decide⟩
theorem ym:QD ["self", "given", "__class__"] ["self", "given"] (defScope cP.st) (defArgs cP.st) [("given",.inl 0),("code",.inr "InvalidWord")] ((defBody cP.st).drop 1):=⟨nscope_by (by decide +kernel),rfl,rfl,by decide,rfl,by decide,LL (by decide),by decide⟩
theorem dX{K:PySem.W.Frag}(h:okK K=true)(i:Nat){f:PySem.W.Frag->Bool}(hf:facts[i]?=some f):f K=true:=List.all_eq_true.mp h f (List.mem_of_getElem? hf)
theorem U7{w:World}{K:PySem.W.Frag}{c Pt:Addr}{h:Heap}{mg:Str->Option Value}(z:D2 okK fns MV w K c Pt h)(Gn:h.Ns mainGlobals mg):mg "law" = some (.ref (He.ga K "law")):=by have hz:=z.u.ok;exact He.glo_ok z.u.kin Gn (dX hz 92 (by rfl))
theorem aej{w:World}{K:PySem.W.Frag}{c Pt:Addr}{h:Heap}{mg:Str->Option Value}(z:D2 okK fns MV w K c Pt h)(Gn:h.Ns mainGlobals mg):∃g:G PySem.Challenge.pw_lotbarter_k12_whole_least_automata w K (TJ K) mg,True:=by
 have hz:=z.u.ok;obtain⟨jf,ly,uL⟩:=z.u.def_ 0 (d:=uw);obtain⟨il,jZ,sj⟩:=z.u.def_ 1 (d:=rM);obtain⟨mq,pW,uh⟩:=z.u.def_ 2 (d:=xA);obtain⟨mr,pY,pZ⟩:=z.u.def_ 3 (d:=xB);obtain⟨rD,vr,oz⟩:=z.u.def_ 4 (d:=BL);obtain⟨mw,qc,ui⟩:=z.u.def_ 5 (d:=xC);obtain⟨iq,j4,so⟩:=z.u.def_ 6 (d:=rN);obtain⟨oA,su,wK⟩:=z.u.def_ 7 (d:=zM);obtain⟨fh,iu,oC⟩:=z.u.def_ 8 (d:=nR);obtain⟨fk,iA,kE⟩:=z.u.def_ 9 (d:=nS);obtain⟨gS,lz,pj⟩:=z.u.def_ 10 (d:=ux);obtain⟨eK,i4,lL⟩:=z.u.def_ 11 (d:=qp);obtain⟨fm,iD,oD⟩:=z.u.def_ 12 (d:=nT);obtain⟨fq,iF,oE⟩:=z.u.def_ 13 (d:=nU);obtain⟨dg,eR,kY⟩:=z.u.def_ 14 (d:=kR);obtain⟨dE,iG,kF⟩:=z.u.def_ 15 (d:=nV);obtain⟨gm,i7,qF⟩:=z.u.def_ 16 (d:=qu);obtain⟨eM,i8,lM⟩:=z.u.def_ 17 (d:=qv);obtain⟨dY,gH,nf⟩:=z.u.def_ 18 (d:=mG);obtain⟨gu,ja,qG⟩:=z.u.def_ 19 (d:=qw);obtain⟨oF,sD,j5⟩:=z.u.def_ 20 (d:=zN);obtain⟨vG,yK,sM⟩:=z.u.def_ 21 (d:=D8);obtain⟨kH,nh,rq⟩:=z.u.def_ 22 (d:=vS);obtain⟨oI,sO,wM⟩:=z.u.def_ 23 (d:=zO);obtain⟨jh,lB,lC⟩:=z.u.def_ 24 (d:=uy);obtain⟨gv,jc,qI⟩:=z.u.def_ 25 (d:=qx);obtain⟨dF,fu,oJ⟩:=z.u.def_ 26 (d:=nW);obtain⟨lW,sP,oL⟩:=z.u.def_ 27 (d:=zP);obtain⟨fv,iK,oN⟩:=z.u.def_ 28 (d:=nX);obtain⟨d3,gJ,nq⟩:=z.u.def_ 29 (d:=mH);obtain⟨dG,iL,kJ⟩:=z.u.def_ 30 (d:=nY);obtain⟨gy,je,lN⟩:=z.u.def_ 31 (d:=qy);obtain⟨dH,fU,lX⟩:=z.u.def_ 32 (d:=lQ);obtain⟨bZ,cM,gT⟩:=z.u.def_ 33 (d:=gQ);obtain⟨dI,fW,lY⟩:=z.u.def_ 34 (d:=lR);obtain⟨dh,eT,kZ⟩:=z.u.def_ 35 (d:=kS);obtain⟨oO,sT,wR⟩:=z.u.def_ 36 (d:=zQ);obtain⟨oP,sV,wU⟩:=z.u.def_ 37 (d:=zR);obtain⟨cT,dS,j6⟩:=z.u.def_ 38 (d:=jJ);obtain⟨oQ,sX,sY⟩:=z.u.def_ 39 (d:=zS);obtain⟨kK,nt,rA⟩:=z.u.def_ 40 (d:=vT);obtain⟨gU,lE,pq⟩:=z.u.def_ 41 (d:=uz);obtain⟨da,gK,jF⟩:=z.u.def_ 42 (d:=mI);obtain⟨d7,gM,jG⟩:=z.u.def_ 43 (d:=mJ);obtain⟨oR,s7,wV⟩:=z.u.def_ 44 (d:=zT);obtain⟨t_MOST_LETTERS,e_MOST_LETTERS⟩:=He.int_ok z.u.kin Gn (dX hz 40 (by rfl));obtain⟨t_MOST_PLACES,e_MOST_PLACES⟩:=He.int_ok z.u.kin Gn (dX hz 41 (by rfl));obtain⟨t_SMALL,e_SMALL⟩:=He.str_ok z.u.kin Gn (dX hz 42 (by rfl))
 exact⟨{
  lu:=uw.at_ K
  jf:=jf
  ly:=ly
  uK:=ly.binds (ps:=["self", "other"]) λ_ _ _ _ _ _ us hl=>match us,hl with|[_,_],_=>rfl
  uL:=uL
  jY:=rM.at_ K
  il:=il
  jZ:=jZ
  yE:=jZ.binds (ps:=["self", "other"]) λ_ _ _ _ _ _ us hl=>match us,hl with|[_,_],_=>rfl
  sj:=sj
  pV:=xA.at_ K
  mq:=mq
  pW:=pW
  Dd:=pW.binds (ps:=["value"]) λ_ _ _ _ _ _ us hl=>match us,hl with|[_],_=>rfl
  De:=He.glo_ok z.u.kin Gn (dX hz 0 (by rfl))
  uh:=uh
  pX:=xB.at_ K
  mr:=mr
  pY:=pY
  yF:=pY.binds (ps:=["value", "least", "most"]) λ_ _ _ _ _ _ us hl=>match us,hl with|[_,_,_],_=>rfl
  yG:=He.glo_ok z.u.kin Gn (dX hz 1 (by rfl))
  pZ:=pZ
  vq:=BL.at_ K
  rD:=rD
  vr:=vr
  vt:=vr.binds (ps:=["value"]) λ_ _ _ _ _ _ us hl=>match us,hl with|[_],_=>rfl
  vw:=He.glo_ok z.u.kin Gn (dX hz 2 (by rfl))
  oz:=oz
  qb:=xC.at_ K
  mw:=mw
  qc:=qc
  Df:=qc.binds (ps:=["goals", "many", "width"]) λ_ _ _ _ _ _ us hl=>match us,hl with|[_,_,_],_=>rfl
  Dg:=He.glo_ok z.u.kin Gn (dX hz 3 (by rfl))
  ui:=ui
  j3:=rN.at_ K
  iq:=iq
  j4:=j4
  yH:=j4.binds (ps:=["self"]) λ_ _ _ _ _ _ us hl=>match us,hl with|[_],_=>rfl
  so:=so
  sr:=zM.at_ K
  oA:=oA
  su:=su
  Fy:=su.binds (ps:=["ends", "many"]) λ_ _ _ _ _ _ us hl=>match us,hl with|[_,_],_=>rfl
  Fz:=He.glo_ok z.u.kin Gn (dX hz 4 (by rfl))
  wK:=wK
  ir:=nR.at_ K
  fh:=fh
  iu:=iu
  iy:=iu.binds (ps:=["self", "alphabet", "goals", "ends"]) λ_ _ _ _ _ _ us hl=>match us,hl with|[_,_,_,_],_=>rfl
  oC:=oC
  iz:=nS.at_ K
  fk:=fk
  iA:=iA
  vz:=iA.binds (ps:=["alphabet", "table"]) λ_ _ _ _ _ _ us hl=>match us,hl with|[_,_],_=>rfl
  vA:=He.glo_ok z.u.kin Gn (dX hz 5 (by rfl))
  kE:=kE
  jg:=ux.at_ K
  gS:=gS
  lz:=lz
  zB:=lz.binds (ps:=["goals", "ends"]) λ_ _ _ _ _ _ us hl=>match us,hl with|[_,_],_=>rfl
  zC:=He.glo_ok z.u.kin Gn (dX hz 6 (by rfl))
  pj:=pj
  gj:=qp.at_ K
  eK:=eK
  i4:=i4
  w9:=i4.binds (ps:=["goals", "ends"]) λ_ _ _ _ _ _ us hl=>match us,hl with|[_,_],_=>rfl
  xa:=He.glo_ok z.u.kin Gn (dX hz 7 (by rfl))
  lL:=lL
  iB:=nT.at_ K
  fm:=fm
  iD:=iD
  vB:=iD.binds (ps:=["self"]) λ_ _ _ _ _ _ us hl=>match us,hl with|[_],_=>rfl
  oD:=oD
  iE:=nU.at_ K
  fq:=fq
  iF:=iF
  vC:=iF.binds (ps:=["self", "state", "letter"]) λ_ _ _ _ _ _ us hl=>match us,hl with|[_,_,_],_=>rfl
  oE:=oE
  eQ:=kR.at_ K
  dg:=dg
  eR:=eR
  qR:=eR.binds (ps:=["self", "state"]) λ_ _ _ _ _ _ us hl=>match us,hl with|[_,_],_=>rfl
  kY:=kY
  ft:=nV.at_ K
  dE:=dE
  iG:=iG
  vD:=iG.binds (ps:=["machine", "width"]) λ_ _ _ _ _ _ us hl=>match us,hl with|[_,_],_=>rfl
  vF:=He.glo_ok z.u.kin Gn (dX hz 8 (by rfl))
  kF:=kF
  i6:=qu.at_ K
  gm:=gm
  i7:=i7
  xb:=i7.binds (ps:=["self", "goals", "ends", "numbers", "samples"]) λ_ _ _ _ _ _ us hl=>match us,hl with|[_,_,_,_,_],_=>rfl
  qF:=qF
  gn:=qv.at_ K
  eM:=eM
  i8:=i8
  xc:=i8.binds (ps:=["table", "width"]) λ_ _ _ _ _ _ us hl=>match us,hl with|[_,_],_=>rfl
  xf:=He.glo_ok z.u.kin Gn (dX hz 9 (by rfl))
  lM:=lM
  gF:=mG.at_ K
  dY:=dY
  gH:=gH
  dZ:=gH.binds (ps:=["self"]) λ_ _ _ _ _ _ us hl=>match us,hl with|[_],_=>rfl
  nf:=nf
  i9:=qw.at_ K
  gu:=gu
  ja:=ja
  xg:=ja.binds (ps:=["self"]) λ_ _ _ _ _ _ us hl=>match us,hl with|[_],_=>rfl
  qG:=qG
  sv:=zN.at_ K
  oF:=oF
  sD:=sD
  oG:=sD.binds (ps:=["_law_hand_here", "_law_sides"]) λ_ _ _ _ _ _ us hl=>match us,hl with|[_,_],_=>rfl
  oH:=He.glo_ok z.u.kin Gn (dX hz 10 (by rfl))
  j5:=j5
  yJ:=D8.at_ K
  vG:=vG
  yK:=yK
  yL:=yK.binds (ps:=["_law_hand_here", "_law_things"]) λ_ _ _ _ _ _ us hl=>match us,hl with|[_,_],_=>rfl
  yM:=He.glo_ok z.u.kin Gn (dX hz 11 (by rfl))
  sM:=sM
  ng:=vS.at_ K
  kH:=kH
  nh:=nh
  BD:=nh.binds (ps:=["value", "many"]) λ_ _ _ _ _ _ us hl=>match us,hl with|[_,_],_=>rfl
  BE:=He.glo_ok z.u.kin Gn (dX hz 12 (by rfl))
  rq:=rq
  sN:=zO.at_ K
  oI:=oI
  sO:=sO
  FA:=sO.binds (ps:=["value"]) λ_ _ _ _ _ _ us hl=>match us,hl with|[_],_=>rfl
  FC:=He.glo_ok z.u.kin Gn (dX hz 13 (by rfl))
  wM:=wM
  lA:=uy.at_ K
  jh:=jh
  lB:=lB
  uM:=lB.binds (ps:=["value"]) λ_ _ _ _ _ _ us hl=>match us,hl with|[_],_=>rfl
  uN:=He.glo_ok z.u.kin Gn (dX hz 14 (by rfl))
  lC:=lC
  jb:=qx.at_ K
  gv:=gv
  jc:=jc
  qH:=jc.binds (ps:=["self", "letters", "colors"]) λ_ _ _ _ _ _ us hl=>match us,hl with|[_,_,_],_=>rfl
  qI:=qI
  iH:=nW.at_ K
  dF:=dF
  fu:=fu
  Cw:=fu.binds (ps:=["letters"]) λ_ _ _ _ _ _ us hl=>match us,hl with|[_],_=>rfl
  oJ:=oJ
  oK:=zP.at_ K
  lW:=lW
  sP:=sP
  wO:=sP.binds (ps:=["_law_found", "_law_due"]) λ_ _ _ _ _ _ us hl=>match us,hl with|[_,_],_=>rfl
  wQ:=He.glo_ok z.u.kin Gn (dX hz 15 (by rfl))
  oL:=oL
  iJ:=nX.at_ K
  fv:=fv
  iK:=iK
  oM:=iK.binds (ps:=["self"]) λ_ _ _ _ _ _ us hl=>match us,hl with|[_],_=>rfl
  oN:=oN
  gI:=mH.at_ K
  d3:=d3
  gJ:=gJ
  nj:=gJ.binds (ps:=["self"]) λ_ _ _ _ _ _ us hl=>match us,hl with|[_],_=>rfl
  nq:=nq
  fy:=nY.at_ K
  dG:=dG
  iL:=iL
  vH:=iL.binds (ps:=["_law_hand_here"]) λ_ _ _ _ _ _ us hl=>match us,hl with|[_],_=>rfl
  vI:=He.glo_ok z.u.kin Gn (dX hz 16 (by rfl))
  kJ:=kJ
  jd:=qy.at_ K
  gy:=gy
  je:=je
  xh:=je.binds (ps:=["_law_letters", "_law_length"]) λ_ _ _ _ _ _ us hl=>match us,hl with|[_,_],_=>rfl
  xi:=He.glo_ok z.u.kin Gn (dX hz 17 (by rfl))
  lN:=lN
  fT:=lQ.at_ K
  dH:=dH
  fU:=fU
  sQ:=fU.binds (ps:=["self"]) λ_ _ _ _ _ _ us hl=>match us,hl with|[_],_=>rfl
  lX:=lX
  cL:=gQ.at_ K
  bZ:=bZ
  cM:=cM
  lD:=cM.binds (ps:=["self", "place", "word"]) λ_ _ _ _ _ _ us hl=>match us,hl with|[_,_,_],_=>rfl
  gT:=gT
  fV:=lR.at_ K
  dI:=dI
  fW:=fW
  sR:=fW.binds (ps:=["self", "value"]) λ_ _ _ _ _ _ us hl=>match us,hl with|[_,_],_=>rfl
  lY:=lY
  eS:=kS.at_ K
  dh:=dh
  eT:=eT
  qS:=eT.binds (ps:=["self", "word"]) λ_ _ _ _ _ _ us hl=>match us,hl with|[_,_],_=>rfl
  kZ:=kZ
  sS:=zQ.at_ K
  oO:=oO
  sT:=sT
  FE:=sT.binds (ps:=["_law_table", "_law_place", "_law_k"]) λ_ _ _ _ _ _ us hl=>match us,hl with|[_,_,_],_=>rfl
  FF:=He.glo_ok z.u.kin Gn (dX hz 18 (by rfl))
  wR:=wR
  sU:=zR.at_ K
  oP:=oP
  sV:=sV
  FG:=sV.binds (ps:=["_law_table", "_law_letters", "_law_word"]) λ_ _ _ _ _ _ us hl=>match us,hl with|[_,_,_],_=>rfl
  FH:=He.glo_ok z.u.kin Gn (dX hz 19 (by rfl))
  wU:=wU
  dR:=jJ.at_ K
  cT:=cT
  dS:=dS
  qe:=dS.binds (ps:=["self"]) λ_ _ _ _ _ _ us hl=>match us,hl with|[_],_=>rfl
  j6:=j6
  sW:=zS.at_ K
  oQ:=oQ
  sX:=sX
  Ar:=sX.binds (ps:=["_law_table"]) λ_ _ _ _ _ _ us hl=>match us,hl with|[_],_=>rfl
  As:=He.glo_ok z.u.kin Gn (dX hz 20 (by rfl))
  sY:=sY
  nr:=vT.at_ K
  kK:=kK
  nt:=nt
  BF:=nt.binds (ps:=["_law_things"]) λ_ _ _ _ _ _ us hl=>match us,hl with|[_],_=>rfl
  BG:=He.glo_ok z.u.kin Gn (dX hz 21 (by rfl))
  rA:=rA
  ji:=uz.at_ K
  gU:=gU
  lE:=lE
  zD:=lE.binds (ps:=["_law_table", "_law_width"]) λ_ _ _ _ _ _ us hl=>match us,hl with|[_,_],_=>rfl
  zE:=He.glo_ok z.u.kin Gn (dX hz 22 (by rfl))
  pq:=pq
  d6:=mI.at_ K
  da:=da
  gK:=gK
  uj:=gK.binds (ps:=["_law_hand_here", "_law_width", "_law_most"]) λ_ _ _ _ _ _ us hl=>match us,hl with|[_,_,_],_=>rfl
  uk:=He.glo_ok z.u.kin Gn (dX hz 23 (by rfl))
  jF:=jF
  gL:=mJ.at_ K
  d7:=d7
  gM:=gM
  um:=gM.binds (ps:=["_law_hand_here"]) λ_ _ _ _ _ _ us hl=>match us,hl with|[_],_=>rfl
  uo:=He.glo_ok z.u.kin Gn (dX hz 24 (by rfl))
  jG:=jG
  sZ:=zT.at_ K
  oR:=oR
  s7:=s7
  FI:=s7.binds (ps:=["_law_script"]) λ_ _ _ _ _ _ us hl=>match us,hl with|[_],_=>rfl
  FJ:=He.glo_ok z.u.kin Gn (dX hz 25 (by rfl))
  wV:=wV
  zF:=He.free_ok z.u.kin Gn (dX hz 26 (by rfl))
  Xc:=He.free_ok z.u.kin Gn (dX hz 27 (by rfl))
  Js:=He.free_ok z.u.kin Gn (dX hz 28 (by rfl))
  My:=He.free_ok z.u.kin Gn (dX hz 29 (by rfl))
  j7:=He.free_ok z.u.kin Gn (dX hz 30 (by rfl))
  s8:=He.free_ok z.u.kin Gn (dX hz 31 (by rfl))
  aX:=He.free_ok z.u.kin Gn (dX hz 32 (by rfl))
  cN:=He.free_ok z.u.kin Gn (dX hz 33 (by rfl))
  qL:=He.free_ok z.u.kin Gn (dX hz 34 (by rfl))
  gZ:=He.free_ok z.u.kin Gn (dX hz 35 (by rfl))
  FL:=He.free_ok z.u.kin Gn (dX hz 36 (by rfl))
  Hi:=He.free_ok z.u.kin Gn (dX hz 37 (by rfl))
  pA:=He.free_ok z.u.kin Gn (dX hz 38 (by rfl))
  OK:=He.free_ok z.u.kin Gn (dX hz 39 (by rfl))
  qM:=.int 8 t_MOST_LETTERS
  xj:=e_MOST_LETTERS
  xk:=⟨_,rfl⟩
  s9:=.int 200 t_MOST_PLACES
  yN:=e_MOST_PLACES
  yO:=⟨_,rfl⟩
  FN:=.str "abcdefghijklmnopqrstuvwxyz" t_SMALL
  Lg:=e_SMALL
  Lh:=⟨_,rfl⟩
  oS:=He.glo_ok z.u.kin Gn (dX hz 43 (by rfl))
  my:=He.glo_ok z.u.kin Gn (dX hz 44 (by rfl))
  nv:=He.glo_ok z.u.kin Gn (dX hz 45 (by rfl))
  th:=He.glo_ok z.u.kin Gn (dX hz 46 (by rfl))
  zG:=He.glo_ok z.u.kin Gn (dX hz 47 (by rfl))
  FO:=He.glo_ok z.u.kin Gn (dX hz 48 (by rfl))
  mz:=He.cls_ok (dX hz 49 (by rfl))
  yP:=He.mkr_ok (dX hz 50 (by rfl))
  bW:=He.cls_ok (dX hz 51 (by rfl))
  nu:=He.mkr_ok (dX hz 52 (by rfl))
  uq:=He.cls_ok (dX hz 53 (by rfl))
  Dh:=He.mkr_ok (dX hz 54 (by rfl))
  ny:=HX (d:=bV) (main:=PySem.Challenge.pw_lotbarter_k12_whole_least_automata.main.file) (N:=["self", "given", "__class__"]) (ps:=["self", "given"]) (fl:=[("given",.inl 0),("code",.inr "InvalidAlphabet")]) (dX hz 55 (by rfl)) (dX hz 56 (by rfl)) (z.u.eq 46 (by rfl)) (z.u.Xb _ (List.mem_of_getElem? (show fns[46]?=some bV from rfl))) rfl rfl rfl uH (He.free_ok z.u.kin Gn (dX hz 57 (by rfl))) (by decide +kernel) λ_ _ _ _ _ _ _ us hl=>match us,hl with|[_,_],_=>rfl
  ti:=HX (d:=bN) (main:=PySem.Challenge.pw_lotbarter_k12_whole_least_automata.main.file) (N:=["self", "__class__"]) (ps:=["self"]) (fl:=[("code",.inr "InvalidAutomaton")]) (dX hz 58 (by rfl)) (dX hz 59 (by rfl)) (z.u.eq 47 (by rfl)) (z.u.Xb _ (List.mem_of_getElem? (show fns[47]?=some bN from rfl))) rfl rfl rfl tw (He.free_ok z.u.kin Gn (dX hz 57 (by rfl))) (by decide +kernel) λ_ _ _ _ _ _ _ us hl=>match us,hl with|[_],_=>rfl
  zH:=HX (d:=cP) (main:=PySem.Challenge.pw_lotbarter_k12_whole_least_automata.main.file) (N:=["self", "given", "__class__"]) (ps:=["self", "given"]) (fl:=[("given",.inl 0),("code",.inr "InvalidWord")]) (dX hz 60 (by rfl)) (dX hz 61 (by rfl)) (z.u.eq 48 (by rfl)) (z.u.Xb _ (List.mem_of_getElem? (show fns[48]?=some cP from rfl))) rfl rfl rfl ym (He.free_ok z.u.kin Gn (dX hz 57 (by rfl))) (by decide +kernel) λ_ _ _ _ _ _ _ us hl=>match us,hl with|[_,_],_=>rfl
  qT:=He.ma K (He.ga K "Alphabet") "letters"
  tj:=JZ (dX hz 62 (by rfl))
  nK:=He.ma K (He.ga K "Automaton") "alphabet"
  qg:=JZ (dX hz 63 (by rfl))
  uO:=He.meth_ok (dX hz 64 (by rfl))
  yQ:=He.meth_ok (dX hz 65 (by rfl))
  tn:=He.meth_ok (dX hz 66 (by rfl))
  yR:=He.meth_ok (dX hz 67 (by rfl))
  xl:=He.meth_ok (dX hz 68 (by rfl))
  qU:=He.meth_ok (dX hz 69 (by rfl))
  oT:=He.meth_ok (dX hz 70 (by rfl))
  nz:=He.meth_ok (dX hz 71 (by rfl))
  eh:=He.meth_ok (dX hz 72 (by rfl))
  lF:=He.meth_ok (dX hz 73 (by rfl))
  vJ:=He.meth_ok (dX hz 74 (by rfl))
  qV:=He.meth_ok (dX hz 75 (by rfl))
  vK:=He.meth_ok (dX hz 76 (by rfl))
  nA:=QM (dX hz 77 (by rfl))
  lO:=λk hk=>by simp only[List.mem_singleton]at hk;subst hk;exact⟨He.cls_ok (dX hz 49 (by rfl)),He.noat_ok (dX hz 78 (by rfl))⟩
  dJ:=λk hk=>by simp only[List.mem_singleton]at hk;subst hk;exact⟨He.cls_ok (dX hz 49 (by rfl)),He.noat_ok (dX hz 79 (by rfl))⟩
  cf:=λk hk=>by simp only[List.mem_singleton]at hk;subst hk;exact⟨He.cls_ok (dX hz 51 (by rfl)),He.noat_ok (dX hz 80 (by rfl))⟩
  gV:=λk hk=>by simp only[List.mem_singleton]at hk;subst hk;exact⟨He.cls_ok (dX hz 51 (by rfl)),He.noat_ok (dX hz 81 (by rfl))⟩
  de:=λk hk=>by simp only[List.mem_singleton]at hk;subst hk;exact⟨He.cls_ok (dX hz 51 (by rfl)),He.noat_ok (dX hz 82 (by rfl))⟩
  yS:=λk hk=>by simp only[List.mem_singleton]at hk;subst hk;exact⟨He.cls_ok (dX hz 53 (by rfl)),He.noat_ok (dX hz 83 (by rfl))⟩
  qN:=λk hk=>by simp only[List.mem_singleton]at hk;subst hk;exact⟨He.cls_ok (dX hz 53 (by rfl)),He.noat_ok (dX hz 84 (by rfl))⟩
  pB:=λk hk=>by simp only[List.mem_singleton]at hk;subst hk;exact⟨He.cls_ok (dX hz 53 (by rfl)),He.noat_ok (dX hz 85 (by rfl))⟩
  pC:=λk hk=>by simp only[List.mem_singleton]at hk;subst hk;exact⟨He.cls_ok (dX hz 53 (by rfl)),He.noat_ok (dX hz 86 (by rfl))⟩
  k4:=X3 fu λ_ _ _ _ _ _ us ws h1 h2=>match us,ws,h1,h2 with|[_],[],_,_=>rfl
  acp:=Uk (dX hz 87 (by rfl))
  yT:=⟨w5 (dX hz 88 (by rfl)),of_decide_eq_true (dX hz 89 (by rfl))⟩
  BH:=⟨w5 (dX hz 90 (by rfl)),of_decide_eq_true (dX hz 91 (by rfl))⟩
 },trivial⟩
end
section
open L2H (RoomH PinOk cxH inv_startH roomH_of)
def Md:Str:= "law.<locals>.<lambda>"
def aek(cells:List (Str×Addr)):Nat->LF|_=>adI Md cells [] e0
abbrev U8:List Str:=["_law_script", "_law_hand_here", "_law_turn", "_law_letters", "_law_digits", "_law_made", "_law_table", "_law_one", "_law_found", "_law_due", "_law_goals", "_law_word", "_law_none", "_law_row"]
abbrev Rv(s:Shared):List (Str×Addr):=cellsFrom (s.heap.objs.size+1) (defScope rK).names []
abbrev cV(w:World)(K:PySem.W.Frag)(cA:Nat->Addr)(s:Shared):Tb:=Uo w K cA (aek (Rv s))
abbrev Y0(P:Program)(w:World)(K:PySem.W.Frag)(mg:Str->Option Value)(base:Heap)(f c:Addr)(A:Around)(outer:List PySem.Env)(s:Shared)(H:Hp)(E:XK):Cx:=cxOf (L2.CX P w) P w K mg base U8 "law" (defScope rK) f (.ref c) A outer s H E
def E4(Pt:Addr):SM:=aG (bB 1 (aS pS (aa (eV 0) ah))) (aG (mQ (bG (aa (eC (.int 5)) ah)) (.nm 2) (aG (FX (.tp ((.nm 3)::((.nm 4)::[]))) (aS fP (aa (eV 1) ah))) (aG (xI 5 6 (aa (l4 0 bD (aa (eV 3) (aa (eV 4) ah))) (aa (aS fO (aa (eV 1) (aa (cF (b7 az) (aa (eV 3) ah)) (aa (eC (.int 7)) ah)))) ah))) (aG (bB 7 (l4 1 aV (aa (eV 5) (aa (aA b6 (eV 6) (eC (.int 0))) (aa (aS jT (aa (eV 6) ah)) ah))))) (aG (xI 8 9 (aa (fb 1 "least" aO (eV 7) ah) (aa (aS fN (aa (eV 6) (aa (cF (b7 az) (aa (eV 3) ah)) ah))) ah))) (aG (bB 10 (fX [13] (cJ (aA b6 (eV 9) (eC (.int 0)))) (.nm 13) aL (au rS (aa (eV 13) ah)))) (aG (uP (hV (tE (aS (bF 8) (aa (cn (aa (fb 1 "goals" fL (eV 8) ah) (aa (fb 1 "ends" gD (eV 8) ah) (aa (cF (b7 az) (aa (eV 8) ah)) ah)))) (aa (cn (aa (eV 10) (aa (aS jT (aa (eV 9) ah)) (aa (cF (b7 az) (aa (eV 10) ah)) ah)))) ah))))) (ck (eC (.bl false))) iR) (aG (uP (uA (tE (wa (nE aE (!·) mD) (fb 1 "least" aO (eV 8) ah) (eV 8))) (uA (tE (wa (nE aE (!·) mD) (CL 1 jn (eV 8)) (eV 5))) (tE (wa (nE aE (!·) mD) (cF (b7 az) (aa (eV 7) ah)) (cF (b7 az) (aa (aA b6 (eV 6) (eC (.int 0))) ah)))))) (ck (eC (.bl false))) iR) (mQ (cJ (aS ie (aa (eV 3) (aa (aS dO (aa (eV 1) (aa (eC (.int 6)) ah))) ah)))) (.nm 11) (uP (tE (wa (nE aE (!·) mD) (fb 1 "accepts" dP (eV 8) (aa (eV 11) ah)) (aS pQ (aa (eV 6) (aa (eV 3) (aa (eV 11) ah)))))) (ck (eC (.bl false))) iR)))))))))) (aG (bB 12 (l4 1 aV (aa (xJ 1 0 [0] bE (aa (eC (.str "a")) ah) ah) (aa (cn (aa (cn (aa (eC (.int 1)) ah)) (aa (cn (aa (eC (.int 0)) ah)) ah))) (aa (cn ah) ah))))) (ck (og (wa (nE aE id eU) (cF (b7 az) (aa (fb 1 "least" aO (eV 12) ah) ah)) (eC (.int 0))) (aS gE (aa (eV 1) ah))))))
theorem qB:FnScope U8 ["_law_script"] (defScope rK):=⟨rfl,rfl,rfl,by decide +kernel,rfl,by decide +kernel,by decide +kernel⟩
theorem Rw{P:Program}{w:World}{K:PySem.W.Frag}{cA:Nat->Addr}{mg:Str->Option Value}{base:Heap}{f c Pt:Addr}{s:Shared}(g:G P w K cA mg)(TB:TabB base mg c Pt){A:Around}{outer:List PySem.Env}{H:Hp}{E:XK}(hr:Room 11 (A.deeper (envOfC "law" (defScope rK) s.heap.objs.size f (.ref c))))(L:Lv (Y0 P w K mg base f c A outer s H E) (cV w K cA s) E)
  (hp:PassesOwn (model P w) (A.deeper (envOfC "law" (defScope rK) s.heap.objs.size f (.ref c))) (envOfC "law" (defScope rK) s.heap.objs.size f (.ref c)) (Y0 P w K mg base f c A outer s H E).xe):MB (Y0 P w K mg base f c A outer s H E) (cV w K cA s) E (defBody rK) (E4 Pt):=
 aw (bc 1 qB.nd (aU L (Kz (T:=cV w K cA s) g) (hr.mono (by omega)) (by rfl) g.FJ g.wV g.FI (af (aj 0) ai))) (aw (oh hp (by rfl) (jv (by rfl) g.gZ (af aq ai)) (aR 2 qB.nd) (aw (HM (aU L (Ak (T:=cV w K cA s) g) (hr.mono (by omega)) (by rfl) g.uo g.jG g.um (af (aj 1) ai)) (uY L.k (by rfl) (bT (aR 3 qB.nd) (bT (aR 4 qB.nd) kj)))) (aw (Ej 5 6 (by rfl) qB.nd (af (v9 L g.yP (vi (T:=cV w K cA s) g) (hr.mono (by omega)) (by rfl) g.oS g.qH (af (aj 3) (af (aj 4) ai))) (af (aU L (Aj (T:=cV w K cA s) g) (hr.mono (by omega)) (by rfl) g.uk g.jF g.uj (af (aj 1) (af (ff (dC L (hr.mono (by omega)) (bH (T:=cV w K cA s) g)) (by rfl) g.cN (by rfl) (af (aj 3) ai)) (af aq ai)))) ai))) (aw (bc 7 qB.nd (v9 L g.nu (jA (T:=cV w K cA s) g) (hr.mono (by omega)) (by rfl) g.my g.iy (af (aj 5) (af (aZ L.k (aj 6) aq) (af (aU L (CY (T:=cV w K cA s) g) (hr.mono (by omega)) (by rfl) g.As g.sY g.Ar (af (aj 6) ai)) ai))))) (aw (Ej 8 9 (by rfl) qB.nd (af (lh L (aj 7) g.bW g.eh (fK (T:=cV w K cA s) g) (hr.mono (by omega)) g.dZ) (af (aU L (E3 (T:=cV w K cA s) g) (hr.mono (by omega)) (by rfl) g.zE g.pq g.zD (af (aj 6) (af (ff (dC L (hr.mono (by omega)) (bH (T:=cV w K cA s) g)) (by rfl) g.cN (by rfl) (af (aj 3) ai)) ai))) ai))) (aw (u6 (own:=[("_law_row",13)]) 10 (by rfl) qB.nd (blkOk_by (by show blkC ["_law_script", "_law_hand_here", "_law_turn", "_law_letters", "_law_digits", "_law_made", "_law_table", "_law_one", "_law_found", "_law_due", "_law_goals", "_law_word", "_law_none", "_law_row"] (defScope rK) _ [("_law_row",13)]=true;decide +kernel)) (dj L.k (aZ L.k (aj 9) aq)) (λ_ _ _ _ _=>(aR 13 qB.nd)) (λ_ _ _ _ _=>aY) (λ_ _ _ _ _=>bO (rT (jw (by rfl)).k) (by rfl) g.pA (by rfl) (af (aj 13) ai)) (by rfl)) (aw (iN (lS (mM L (aU L (ye (T:=cV w K cA s) (n:=8) g) (hr.mono (by omega)) (by rfl) g.wQ g.oL g.wO (af (cX (af (lh L (aj 8) g.bW g.nz (r7 (T:=cV w K cA s) g) (hr.mono (by omega)) g.nj) (af (lh L (aj 8) g.bW g.oT (ud (T:=cV w K cA s) g) (hr.mono (by omega)) g.oM) (af (ff (dC L (hr.mono (by omega)) (bH (T:=cV w K cA s) g)) (by rfl) g.cN (by rfl) (af (aj 8) ai)) ai)))) (af (cX (af (aj 10) (af (aU L (CY (T:=cV w K cA s) g) (hr.mono (by omega)) (by rfl) g.As g.sY g.Ar (af (aj 9) ai)) (af (ff (dC L (hr.mono (by omega)) (bH (T:=cV w K cA s) g)) (by rfl) g.cN (by rfl) (af (aj 10) ai)) ai)))) ai))))) (aB (aP pF)) eA) (aw (iN (xF (w4 (AN L (AL L (hr.mono (by omega)) (cw (T:=cV w K cA s) g) (dq (T:=cV w K cA s) g) (oX L.k hr.units)) (AO qZ) (lh L (aj 8) g.bW g.eh (fK (T:=cV w K cA s) g) (hr.mono (by omega)) g.dZ) (aj 8)) (w4 (AN L (AL L (hr.mono (by omega)) (cw (T:=cV w K cA s) g) (dq (T:=cV w K cA s) g) (oX L.k hr.units)) (AO qZ) (Nc L (aj 8) g.bW g.qg (xq (T:=cV w K cA s) g) (hr.mono (by omega)) g.qe) (aj 5)) (uB (AN L (AL L (hr.mono (by omega)) (cw (T:=cV w K cA s) g) (dq (T:=cV w K cA s) g) (oX L.k hr.units)) (AO qZ) (ff (dC L (hr.mono (by omega)) (bH (T:=cV w K cA s) g)) (by rfl) g.cN (by rfl) (af (aj 7) ai)) (ff (dC L (hr.mono (by omega)) (bH (T:=cV w K cA s) g)) (by rfl) g.cN (by rfl) (af (aZ L.k (aj 6) aq) ai))))))) (aB (aP pF)) eA) (aB (oh hp (by rfl) (dj L.k (aU L (B7 (T:=cV w K cA s) g) (hr.mono (by omega)) (by rfl) g.xi g.lN g.xh (af (aj 3) (af (aU L (pM (T:=cV w K cA s) g) (hr.mono (by omega)) (by rfl) g.oH g.j5 g.oG (af (aj 1) (af aq ai))) ai)))) (aR 11 qB.nd) (aB (iN (AN L (AL L (hr.mono (by omega)) (cw (T:=cV w K cA s) g) (dq (T:=cV w K cA s) g) (oX L.k hr.units)) (AO qZ) (AH L (aj 8) g.bW g.qU (yf (T:=cV w K cA s) g) (hr.mono (by omega)) g.qS (af (aj 11) ai)) (aU L (Ky (T:=cV w K cA s) g) (hr.mono (by omega)) (by rfl) g.FH g.wU g.FG (af (aj 6) (af (aj 3) (af (aj 11) ai))))) (aB (aP pF)) eA)))))))))))) (aw (bc 12 qB.nd (v9 L g.nu (jA (T:=cV w K cA s) g) (hr.mono (by omega)) (by rfl) g.my g.iy (af (Nk L g.nA (ub (T:=cV w K cA s) g) (hr.mono (by omega)) (by rfl) g.oS (g.k4) (af jK ai) QJ) (af (cX (af (cX (af aq ai)) (af (cX (af aq ai)) ai))) (af (cX ai) ai))))) (aB (aP (jM L (Ni (Nj L (hr.mono (by omega)) (cw (T:=cV w K cA s) g) (iS L.k hr.units)) (ff (dC L (hr.mono (by omega)) (bH (T:=cV w K cA s) g)) (by rfl) g.cN (by rfl) (af (lh L (aj 12) g.bW g.eh (fK (T:=cV w K cA s) g) (hr.mono (by omega)) g.dZ) ai)) aq) (kT (aU L (Bk (T:=cV w K cA s) g) (hr.mono (by omega)) (by rfl) g.vI g.kJ g.vH (af (aj 1) ai))))))))
def abN:Nat:=12
theorem Y1{P:Program}{w:World}{K:PySem.W.Frag}{mg:Str->Option Value}{base:Heap}{c Pt:Addr}{oc kV doc pm ct:Value}{od an:Option Addr}{osl:Array (Option Value)}(g:G P w K (TJ K) mg)(TB:TabB base mg c Pt)(hpl:∀Pt,Plain U8.length (E4 Pt) Pt Md)
  (lk:K.lookup (He.ga K "law")=some ⟨oc,od,.func (PySem.W.fnOf "law" "law" (defArgs rK) (defBody rK) (defScope rK) .none kV doc pm an (.ref c) ct),osl⟩) (hcd:PySem.W.codeIn K (.ref c) "law" = true) :
  FnOk P w K mg base (L2.CX P w) abN (He.ga K "law") (PySem.W.fnOf "law" "law" (defArgs rK) (defBody rK) (defScope rK) .none kV doc pm an (.ref c) ct) ["_law_script"] (Nm K Pt):=
 fn_of (k:=11) lk hcd qB O8 λA outer s H vs Q E hr hsp =>⟨_,Rw (cA:=TJ K) (s:=s) g TB hr ⟨rfl,Qp (b:=false) rfl rfl rfl rfl⟩ (passes_of (K:=λe s2=>L2.CX P w outer H s E e s2) rfl),X4 (hpl Pt) hsp⟩
end
structure Hand where
 cells:List Int
 i:Int
 left:Int
 lG:Int
 cnt:Int
def Hand.mo(h:Hand):MO:=.lst [.lst (c4 h.cells),.int h.i,.int h.left,.int h.lG,.int h.cnt]
structure Hand.ok (h:Hand):Prop where
 i0:0<=h.i
 l0:0<=h.left
 s0:0<=h.lG
 s1:h.lG<2147483629
section
variable {N B C:Env->ag->Prop}{T:A->ag->Prop}{E:Er->ag->Prop}{ρ:Env}{S S1:ag}{ds:List D}{d:D}{n j:Nat}{k:Int}{mo mi mv:EM}
theorem za(h1:mv ρ S=.ok (.v d) S1)(h2:mo ρ S1=.ok (.m n) S1)(h3:mi ρ S1=.ok (.v (.int k)) S1)(h4:S1[n]?=some (.lst ds))(h5:ixN ds.length k=some j)(h6:N ρ (S1.set n (.lst (ds.set j d)))):(sIx mo mi mv ρ S).sat N T B C E:=by rw[Wv,h1];simp only[SR.of_ok,h2,h3,ND,h4,Rc h5];exact h6
end
theorem Rx{a b c d e:D}:atI [a,b,c,d,e] 0=some a:=rfl
theorem NN{a b c d e:D}:atI [a,b,c,d,e] 1=some b:=rfl
theorem KA{a b c d e:D}:atI [a,b,c,d,e] 2=some c:=rfl
theorem Ry{a b c d e:D}:atI [a,b,c,d,e] 3=some d:=rfl
theorem WL{a b c d e:D}:atI [a,b,c,d,e] 4=some e:=rfl
theorem fQ{α:Type}{a:α}{S:ag}:R.xm (some a) S=.ok a S:=rfl
theorem Pg{l:List Int}{i:Int}(h0:0<=i)(h1:i<l.length):∃z,atI (c4 l) i=some (.int z):=by
 obtain⟨z,e,e2⟩:=EU (zs:=c4 l) h0 (by simpa[c4]using h1);unfold c4 at e2;rw[List.getElem?_map]at e2;cases q:l[i.toNat]? with
 |none=>rw[q]at e2;cases e2|some y =>rw[q]at e2;cases e2;exact⟨y,e⟩
@[simp] theorem aad{l:List Int}:(c4 l).length=l.length:=by simp[c4]
theorem set_set{S:ag}{n:Nat}{a b:MO}:(S.set n a).set n b=S.set n b:=by simp
theorem zb{h:Hand}{S:ag}{n:Nat}{k:Int}(ho:h.ok)(hs:S[n]?=some h.mo)(hk:0<k)(hk2:k<1073741824) :∃r h',dO [.m n,.v (.int k)] S=.ok (.v (.int r)) (S.set n (Hand.mo h'))/\0<=r/\r<k/\h'.ok:=by
 have hn:n<S.length:=(List.getElem?_eq_some_iff.mp hs).1;have gs:∀(b:MO),(S.set n b)[n]?=some b:=λb=>by simp[hn]
 have key:(xZ [some (.m n),some (.v (.int k)),none,none,none] S).sat Ad (λa S'=>∃r h',a=.v (.int r)/\S'=S.set n (Hand.mo h')/\0<=r/\r<k/\h'.ok) Ad Ad Ri:=by
  unfold xZ;refine c5 ?_;refine za (n:=n) (k:=4) (j:=4) (S1:=S) (d:=.int (h.cnt+1)) (by simp[jQ hs,WL]) (by simp) (by simp) hs rfl ?_;obtain⟨cells,i,left,lG,cnt⟩:=h;simp only[List.set_cons_succ,List.set_cons_zero];have hm:=gs (.lst [.lst (c4 cells),.int i,.int left,.int lG,.int (cnt+1)])
  -- the second half,from any hand that is all right
  have half:∀(i left lG cnt:Int) (o2:Option A),0<=i->0<=left->0<=lG->lG<2147483629 ->
    (SR.sat Ad (λa S'=>∃r h',a=.v (.int r)/\S'=S.set n (Hand.mo h')/\0<=r/\r<k/\h'.ok) Ad Ad Ri
     ((aG (uP (tE (aA JN (aA b6 (eV 0) (eC (.int 2))) (eC (.int 0)))) (aG (bB 3 (aA zX (au pJ (aa (aA b6 (eV 0) (eC (.int 2))) ah)) (eV 1))) (aG (sIx (eV 0) (eC (.int 2)) (aA Ed (aA b6 (eV 0) (eC (.int 2))) (eV 1))) (ck (eV 3)))) iR) (aG (bB 4 (aA b6 (eV 0) (eC (.int 3)))) (aG (sIx (eV 0) (eC (.int 3)) (aA zX (au pJ (aa (aA cY (aA cY (aA cY (aA OU (eV 4) (eC (.int 3))) (aA hA (eV 4) (eC (.int 38557)))) (aA hA (aA b6 (eV 0) (eC (.int 4))) (eC (.int 1299709)))) (eC (.int 65293))) ah)) (eC (.int 2147483629)))) (ck (aA zX (au pJ (aa (aA cY (aA Ed (aA b6 (eV 0) (eC (.int 3))) (eC (.int 89))) (aA hA (aA zX (au pJ (aa (aA b6 (eV 0) (eC (.int 3))) ah)) (eC (.int 7933))) (eC (.int 59)))) ah)) (eV 1))))))
      [some (.m n),some (.v (.int k)),o2,none,none] (S.set n (.lst [.lst (c4 cells),.int i,.int left,.int lG,.int cnt])))):=by
   intro i left lG cnt o2 i0 l0 s0 s1;have hm:=gs (.lst [.lst (c4 cells),.int i,.int left,.int lG,.int cnt]);refine c5 (EV (b:=decide (0<left)) (S1:=S.set n (.lst [.lst (c4 cells),.int i,.int left,.int lG,.int cnt])) (by simp[jQ hm,KA]) ?_);by_cases hl:0<left;rw[if_pos (by simpa using hl)];refine c5 (iT (x:=.v (.int (left%k))) (S1:=S.set n (.lst [.lst (c4 cells),.int i,.int left,.int lG,.int cnt])) (by simp[jQ hm,KA,xR hk]) ?_);refine c5 (za (n:=n) (k:=2) (j:=2) (d:=.int (left / k)) (by simp[jQ hm,KA,NG ⟨hk,hk2⟩]) (by simp) (by simp) hm rfl ?_);refine rh (x:=.v (.int (left%k))) (S1:=(S.set n (.lst [.lst (c4 cells),.int i,.int left,.int lG,.int cnt])).set n (.lst [.lst (c4 cells),.int i,.int (left / k),.int lG,.int cnt])) (by simp) ?_;refine⟨_,⟨cells,i,left / k,lG,cnt⟩,rfl,?_,Int.emod_nonneg _ (by omega),Int.emod_lt_of_pos _ hk,⟨i0,Int.ediv_nonneg l0 (by omega),s0,s1⟩⟩;rw[set_set];rfl;·rw[if_neg (by simpa using hl)];simp only[Iq];refine c5 (iT (x:=.v (.int lG)) (S1:=S.set n (.lst [.lst (c4 cells),.int i,.int left,.int lG,.int cnt])) (by simp[jQ hm,Ry]) ?_);refine c5 (za (n:=n) (k:=3) (j:=3) (d:=.int ((lG ^ 3+lG*38557+cnt*1299709+65293)%2147483629)) (by simp[jQ hm,WL,Rg (i:=lG) (j:=3) ⟨by decide,by decide,by omega,by omega⟩,wm (i:=lG) (j:=38557) (.inr (by decide)),wm (i:=cnt) (j:=1299709) (.inr (by decide)),xR (j:=2147483629) (by decide)]) (by simp) (by simp) hm rfl ?_);rw[set_set];simp only[List.set_cons_succ,List.set_cons_zero];generalize hv:(lG ^ 3+lG*38557+cnt*1299709+65293)%2147483629=v;have hm2:=gs (.lst [.lst (c4 cells),.int i,.int left,.int v,.int cnt]);refine rh (x:=.v (.int ((v / 89+v%7933*59)%k))) (S1:=S.set n (.lst [.lst (c4 cells),.int i,.int left,.int v,.int cnt])) (by simp[jQ hm2,Ry,NG (j:=89) (by decide),xR (j:=7933) (by decide),wm (j:=59) (.inr (by decide)),xR hk]) ?_;exact⟨_,⟨cells,i,left,v,cnt⟩,rfl,rfl,Int.emod_nonneg _ (by omega),Int.emod_lt_of_pos _ hk,⟨i0,l0,(by omega:0<=v),(by omega:v<2147483629)⟩⟩
  refine c5 (EV (b:=decide (left=0)&&decide (i<cells.length)) (S1:=S.set n (.lst [.lst (c4 cells),.int i,.int left,.int lG,.int (cnt+1)])) (by by_cases hl:left=0;subst hl;simp[jQ hm,KA,NN,Rx];·simp[hl,jQ hm,KA,NN,Rx]) ?_);by_cases hc:left=0/\i<cells.length;·obtain⟨rfl,hi⟩:=hc;rw[if_pos (by simpa using hi)];obtain⟨z,hz⟩:=Pg ho.i0 hi;refine c5 (iT (x:=.v (.int z)) (S1:=S.set n (.lst [.lst (c4 cells),.int i,.int 0,.int lG,.int (cnt+1)])) (by simp[jQ hm,Rx,NN,hz]) ?_);refine c5 (za (n:=n) (k:=1) (j:=1) (d:=.int (i+1)) (by simp[jQ hm,NN]) (by simp) (by simp) hm rfl ?_);rw[set_set];simp only[List.set_cons_succ,List.set_cons_zero];have hm2:=gs (.lst [.lst (c4 cells),.int (i+1),.int 0,.int lG,.int (cnt+1)]);have i0:0<=i:=ho.i0;refine EV (b:=decide (1000000000000000000<=z)) (S1:=S.set n (.lst [.lst (c4 cells),.int (i+1),.int 0,.int lG,.int (cnt+1)])) (by simp[Rg (i:=10) (j:=18) ⟨by decide,by decide,by decide,by decide⟩]) ?_;by_cases hz2:1000000000000000000<=z;rw[if_pos (by simpa using hz2)];refine za (n:=n) (k:=2) (j:=2) (d:=.int z) (by simp) (by simp) (by simp) hm2 rfl ?_;rw[set_set];exact half (i+1) z lG (cnt+1) _ (by omega) (by omega) ho.s0 ho.s1;·rw[if_neg (by simpa using hz2)];refine za (n:=n) (k:=3) (j:=3) (d:=.int ((lG*39251+z%2147483563*40427+43)%2147483629)) (by simp[jQ hm2,Ry,wm (i:=lG) (j:=39251) (.inr (by decide)),xR (j:=2147483563) (by decide),wm (j:=40427) (.inr (by decide)),xR (j:=2147483629) (by decide)]) (by simp) (by simp) hm2 rfl ?_;rw[set_set];exact half (i+1) 0 _ (cnt+1) _ (by omega) (by omega) (by omega) (by omega)
  ·rw[if_neg (by simpa using hc)];exact half i left lG (cnt+1) _ ho.i0 ho.l0 ho.s0 ho.s1
 obtain⟨x,S',e,r,h',rfl,rfl,h2⟩:=BV key;exact⟨r,h',e,h2⟩
theorem Me{h:Hand}{S:ag}{n:Nat}{xs:List D}(ho:h.ok)(hs:S[n]?=some h.mo)(hx:xs≠[])(hl:xs.length<1000000) :∃d h',dW [.m n,.v (.lst xs)] S=.ok (.v d) (S.set n (Hand.mo h'))/\d∈xs/\h'.ok:=by have h0:0<xs.length:=List.length_pos_iff.mpr hx;obtain⟨r,h',e,r0,r1,o'⟩:=zb ho hs (k:=xs.length) (by omega) (by omega);obtain⟨d,e2,e3⟩:=EU r0 r1;refine⟨d,h',?_,List.mem_of_getElem? e3,o'⟩;unfold dW B5;simp[e,e2]
theorem Y2{h:Hand}{S:ag}{n:Nat}{xs:List Nat}(ho:h.ok)(hs:S[n]?=some h.mo)(hx:xs≠[])(hl:xs.length<1000000) :∃d h',dW [.m n,.v (.str (sL xs))] S=.ok (.v (.str (sL [d]))) (S.set n (Hand.mo h'))/\d∈xs/\h'.ok:=by have h0:0<xs.length:=List.length_pos_iff.mpr hx;obtain⟨r,h',e,r0,r1,o'⟩:=zb ho hs (k:=xs.length) (by omega) (by omega);obtain⟨d,e2,e3⟩:=EU r0 r1;refine⟨d,h',?_,List.mem_of_getElem? e3,o'⟩;unfold dW B5;simp[rZ (a:=xs) (by omega),e,abw (a:=xs) (by omega),e2]
theorem U9{ns:List Int}{S:ag}:∃h,pS [.v (.fz (c4 ns))] S=.ok (.m S.length) (S++[Hand.mo h])/\h.ok:=by
 have cut:cutD (c4 ns) none (some 63)=c4 (ns.take 63):=by rw[Rm,show(some (63:Int))=some (((63:Nat)):Int) from rfl,U0];unfold c4;rw[List.map_take]
 have key:(yj [some (.v (.fz (c4 ns))),none,none] S).sat Ad (λa S'=>∃h:Hand,a=A.m S.length/\S'=S++[Hand.mo h]/\h.ok) Ad Ad Ri:=by
  unfold yj;refine c5 (iT (x:=.v (.int 5627)) (S1:=S) (by simp) ?_);refine c5 (wt (I:=λ_ ρ S'=>S'=S/\∃s o,ρ=[some (.v (.fz (c4 ns))),some (.v (.int s)),o]/\0<=s/\s<2147483629) (ds:=c4 (ns.take 63)) (S1:=S) (by simp[cut]) ⟨rfl,_,_,rfl,by decide,by decide⟩ ?_ ?_)
  ·rintro don d rest ρ S' e ⟨rfl,s,o,rfl,s0,s1⟩;obtain⟨z,rfl⟩:∃z:Int,d=.int z:=by have:d∈c4 (ns.take 63):=(by rw[e];simp);unfold c4 at this;obtain⟨z,_,rfl⟩:=List.mem_map.mp this;exact⟨z,rfl⟩
   refine⟨_,jm,iT (x:=.v (.int ((s*45161+z%2147483587+31)%2147483629))) (S1:=S') (by simp[wm (i:=s) (j:=45161) (.inr (by decide)),xR (j:=2147483587) (by decide),xR (j:=2147483629) (by decide)]) ⟨rfl,_,_,rfl,by omega,by omega⟩⟩
  ·rintro ρ S' ⟨rfl,s,o,rfl,s0,s1⟩;refine rh (x:=.m S'.length) (S1:=S'++[Hand.mo ⟨ns.take 63,0,0,s,0⟩]) ?_ ⟨_,rfl,rfl,⟨Int.le_refl _,Int.le_refl _,s0,s1⟩⟩;unfold mC;simp[cut];rfl
 obtain⟨x,S',e,h,rfl,rfl,ho⟩:=BV key;exact⟨h,e,ho⟩
def fR:Nat->D->Bool|0,_=>false|_+1,.non=>true|_+1,.bl _=>true|_+1,.int _=>true|_+1,.str _=>true|n+1,.tup xs=>decide (xs.length<=1000000)&&xs.all (fR n)|n+1,.lst xs=>decide (xs.length<=1000000)&&xs.all (fR n)|_+1,_=>false
theorem B9{xs:List D}:AF xs xs=xs.map λx=>.tup [x,x]:=by
 unfold AF;induction xs with
 |nil=>rfl|cons x xs ih=>simp only[List.zip_cons_cons,List.map_cons,ih]
theorem KC{n:Nat}{xs:List D}{ρ:Env}{S:ag}{o1 o2 o3 o4:Option A}(hl:xs.length<=1000000)(ih:∀x∈xs,∀S,bF n [.v x,.v x] S=.ok (.v (.bl true)) S){mi:IM}(hm:mi [o1,o2,o3,o4] S=.ok (AF xs xs) S) :fX [2,3] mi (.tp ((.nm 2)::((.nm 3)::[]))) aL (aS (bF n) (aa (eV 2) (aa (eV 3) ah))) [o1,o2,o3,o4] S=.ok (.v (.lst (xs.map λ_=>.bl true))) S:=by have:=UZ (own:=[2,3]) (g:=.tp ((.nm 2)::((.nm 3)::[]))) (t:=aL) (m:=aS (bF n) (aa (eV 2) (aa (eV 3) ah))) (λ_=>.bl true) hm (by simp[B9];exact hl) (λd hd Z=>by rw[B9]at hd;obtain⟨x,hx,rfl⟩:=List.mem_map.mp hd;refine⟨_,by simp[aT];rfl,by simp,by simp[ih x hx]⟩);rw[this,B9,List.map_map];rfl
theorem GX{xs:List D}:(k8 (xs.map λ_=>D.bl true)).map (λbs=>A.v (.bl (bs.all id)))=some (.v (.bl true)):=by rw[ET];simp
theorem Ca:∀(n:Nat) (d:D) (S:ag),fR n d=true->bF n [.v d,.v d] S=.ok (.v (.bl true)) S
 |0,_,_,h=>by cases h|n+1,.non,S,_=>by simp[bF,jS]|n+1,.bl b,S,_=>by simp[bF,jS,uD]|n+1,.int b,S,_=>by simp[bF,jS,uD]|n+1,.str b,S,_=>by rw[Km b];simp[bF,jS,uD]|n+1,.tup xs,S,h=>by
  have h1:xs.length<=1000000/\∀x∈xs,fR n x=true:=by simpa[fR]using h
  have ih:∀x∈xs,∀S,bF n [.v x,.v x] S=.ok (.v (.bl true)) S:=λx hx S=>Ca n x S (h1.2 x hx);have e:=KC (S:=S) (ρ:=[]) (o1:=some (.v (.tup xs))) (o2:=some (.v (.tup xs))) (o3:=none) (o4:=none) h1.1 ih (mi:=tQ (aa (eV 0) (aa (eV 1) ah))) (by simp[tQ,En]);simp[bF,jS,uD,e,GX]
 |n+1,.lst xs,S,h=>by
  have h1:xs.length<=1000000/\∀x∈xs,fR n x=true:=by simpa[fR]using h
  have ih:∀x∈xs,∀S,bF n [.v x,.v x] S=.ok (.v (.bl true)) S:=λx hx S=>Ca n x S (h1.2 x hx);have e:=KC (S:=S) (ρ:=[]) (o1:=some (.v (.lst xs))) (o2:=some (.v (.lst xs))) (o3:=none) (o4:=none) h1.1 ih (mi:=tQ (aa (eV 0) (aa (eV 1) ah))) (by simp[tQ,En]);simp[bF,jS,uD,e,GX]
 |n+1,.obj _ _,_,h=>by cases h|n+1,.cls _,_,h=>by cases h|n+1,.fz _,_,h=>by cases h|n+1,.ty _,_,h=>by cases h|n+1,.fn _,_,h=>by cases h|n+1,.adr _,_,h=>by cases h|n+1,.ptr _,_,h=>by cases h|n+1,.gX _ _,_,h=>by cases h|n+1,.exc _ _,_,h=>by cases h|n+1,.yD _ _,_,h=>by cases h
theorem GZ{ma mb:EM}{ρ:Env}{S S1 S2:ag}{T:D}{n:Nat}(h1:ma ρ S=.ok (.v T) S1)(h2:mb ρ S1=.ok (.v T) S2)(hp:fR n T=true):aS (bF n) (aa ma (aa mb ah)) ρ S=.ok (.v (.bl true)) S2:=by simp[h1,h2,Ca n T S2 hp]
structure SR.sa (N:Env->ag->Prop) (T:A->ag->Prop) (B C:Env->ag->Prop) (E:Er->ag->Prop) (r:SR):Prop where
 h:r.sat N T B C E
section
variable {N B C:Env->ag->Prop}{T:A->ag->Prop}{E:Er->ag->Prop}{ρ ρ1:Env}{S S1:ag}{m n:SM}{g:Tg}{t:TM}{ma:EM}{mi:IM}{ds:List D}{i:Nat}{x:A}
theorem bI(h:(m ρ S).sa (λρ' S'=>(n ρ' S').sa N T B C E) T B C E):(aG m n ρ S).sa N T B C E:=
 ⟨c5 (h.h.imp (λ_ _ z=>z.h) (λ_ _ z=>z) (λ_ _ z=>z) (λ_ _ z=>z) (λ_ _ z=>z))⟩
theorem dD(h:ma ρ S=.ok x S1)(k:N (ρ.set i (some x)) S1):(bB i ma ρ S).sa N T B C E:=⟨iT h k⟩
theorem Rz(h:ma ρ S=.ok x S1)(hp:g.put x ρ=some ρ1)(k:N ρ1 S1):(FX g ma ρ S).sa N T B C E:=⟨UX h hp k⟩
theorem Y3{i j:Nat}{r:AM}{y:A}(h:r ρ S=.ok [x,y] S1)(k:N ((ρ.set i (some x)).set j (some y)) S1):(xI i j r ρ S).sa N T B C E:=⟨UY h k⟩
theorem CZ{b:Bool}(h:t ρ S=.ok b S1)(k:(if b=true then m ρ S1 else n ρ S1).sa N T B C E):(uP t m n ρ S).sa N T B C E:=⟨EV h k.h⟩
theorem wz(h:ma ρ S=.ok x S1)(k:T x S1):(ck ma ρ S).sa N T B C E:=⟨rh h k⟩
theorem Cb(k:N ρ S):(iR ρ S).sa N T B C E:=⟨k⟩
theorem IY{I:List D->Env->ag->Prop}(hi:mi ρ S=.ok ds S1)(h0:I [] ρ S1)
  (step:∀(don:List D) d rest ρ S,ds=don++d::rest->I don ρ S->∃ρ1,g.put (.v d) ρ=some ρ1/\(m ρ1 S).sa (I (don++[d])) T N (I (don++[d])) E)
  (fin:∀ρ S,I ds ρ S->N ρ S):(mQ mi g m ρ S).sa N T B C E:=
 ⟨wt hi h0 (λdon d rest ρ S e i=>let ⟨ρ1,a,b⟩:=step don d rest ρ S e i;⟨ρ1,a,b.h⟩) fin⟩
theorem vj{I:Nat->Env->ag->Prop}{n k:Nat}(h0:I k ρ S)(hk:k<n)
  (step:∀k ρ S,I k ρ S->∃b S1,t ρ S=.ok b S1/\(b=false->N ρ S1)/\(b=true->(m ρ S1).sa (λρ' S'=>∃k',k'<k/\I k' ρ' S') T N (λρ' S'=>∃k',k'<k/\I k' ρ' S') E)):(kU t m n ρ S).sa N T B C E:=
 ⟨Pc h0 hk λk ρ S i=>let ⟨b,S1,a,c,d⟩:=step k ρ S i;⟨b,S1,a,c,λe=>(d e).h⟩⟩
end
section
variable {ρ:Env}{S S1 S2:ag}{x y:A}{ma mb mo:EM}{t u:TM}{r:AM}{xs:List A}{fM:FM}{z:R A}{k:Nat}
theorem dA(h:r ρ S=.ok xs S1)(h2:fM xs S1=z):aS fM r ρ S=z:=by rw[tW,h];exact h2
theorem aW{g:e9}(h:r ρ S=.ok xs S1)(h2:g xs S1=some x):au g r ρ S=.ok x S1:=by rw[vd,h,R.ak,h2];rfl
theorem ig{g:CN}(h:r ρ S=.ok xs S1)(h2:g xs S1=z):cF g r ρ S=z:=by rw[Kl,h];exact h2
theorem ao(h:ma ρ S=.ok x S1)(h2:r ρ S1=.ok xs S2):aa ma r ρ S=.ok (x::xs) S2:=by rw[bM,h,R.ak,h2];rfl
theorem aD{g:tK}{w:A}(h:ma ρ S=.ok x S1)(h2:mb ρ S1=.ok y S2)(h3:g x y S2=some w):aA g ma mb ρ S=.ok w S2:=by rw[kM,h,R.ak,h2,R.ak,h3];rfl
theorem abO{b:Bool}(h:ma ρ S=.ok x S1)(h2:uW x S1=some b):tE ma ρ S=.ok b S1:=by rw[F2,h,R.ak,h2];rfl
theorem gh{b:Bool}(h:ma ρ S=.ok (.v (.bl b)) S1):tE ma ρ S=.ok b S1:=abO h rfl
theorem NO{b:Bool}(h:t ρ S=.ok b S1):hV t ρ S=.ok (!b) S1:=by rw[wj,h];rfl
theorem Mf(h:t ρ S=.ok true S1):hV t ρ S=.ok false S1:=by rw[wj,h];rfl
theorem Y4(h:t ρ S=.ok false S1):hV t ρ S=.ok true S1:=by rw[wj,h];rfl
theorem Mg{a b:Bool}(h:t ρ S=.ok a S)(h2:a=false->u ρ S=.ok b S):uA t u ρ S=.ok (a||b) S:=by
 rw[BU,h];cases a with
 |true=>rfl|false=>rw[R.ak,if_neg (by simp),h2 rfl];rfl
theorem Bl(h:t ρ S=.ok true S1)(h2:ma ρ S1=z):xG t ma mb ρ S=z:=by rw[EN,h,R.ak,if_pos rfl];exact h2
theorem yn(h:t ρ S=.ok false S1)(h2:mb ρ S1=z):xG t ma mb ρ S=z:=by rw[EN,h,R.ak,if_neg (by simp)];exact h2
theorem ph{ds:List D}(h:r ρ S=.ok xs S1)(h2:asD xs=some ds)(hl:ds.length<=1000):mK r ρ S=.ok (.v (.tup ds)) S1:=by rw[L6,h,R.ak,h2,L7,if_pos hl]
theorem m8{ds:List D}(h:r ρ S=.ok xs S1)(h2:asD xs=some ds)(hl:ds.length<=1000):cn r ρ S=.ok (.v (.lst ds)) S1:=by rw[Q7,h,R.ak,h2,L7,if_pos hl]
theorem iX{ks:List Nat}{f:Str}{d:D}{j:Nat}{fs:List (Str×D)}(h:mo ρ S=.ok (.v (.obj j fs)) S1)(h1:j∈ks)(h2:fs.lookup f=some d):fZ ks f mo ρ S=.ok (.v d) S1:=by rw[BW,h,R.ak];exact lU h1 h2
theorem ik{m:Str}{fs:List (Str×D)}(h:mo ρ S=.ok (.v (.obj k fs)) S1)(h1:fs.lookup m=none)(h2:r ρ S1=.ok xs S2)(h3:fM (.v (.obj k fs)::xs) S2=z):fb k m fM mo r ρ S=z:=by rw[IF,h,R.ak];show EX k m S1 (some (k,fs)) _=z;rw[Ma h1,h2];exact h3
theorem yo(h:r ρ S=.ok xs S1)(h2:Nd k S1.length (fM (.m S1.length::xs) (S1++[.ins k []]))=.ok x S1):l4 k fM r ρ S=.ok x S1:=by rw[U2,h];exact h2
theorem dM{ds:List D}(h:ma ρ S=.ok (.v (.lst ds)) S1):cJ ma ρ S=.ok ds S1:=by rw[YC,h];rfl
theorem sd{n:Int}(h:ma ρ S=.ok (.v (.int n)) S1)(hn:n<=1000000000)(h0:-1000000000<=n):bG (aa ma ah) ρ S=.ok (gR 0 n.toNat) S1:=by rw[tX,ao h rfl,R.ak];exact xS (by omega)
theorem IZ{mi:IM}{g:Tg}{m:SM}{ds:List D}(h:mi ρ S=.ok ds S1):mQ mi g m ρ S=forL g m ds ρ S1:=by unfold mQ;rw[h];rfl
theorem lJ{i:Nat}(h:ma ρ S=.ok x S1):bB i ma ρ S=.nx (ρ.set i (some x)) S1:=by rw[ER,h];rfl
theorem bz{m n:SM}{ρ1:Env}{q:SR}(h:m ρ S=.nx ρ1 S1)(h2:n ρ1 S1=q):aG m n ρ S=q:=by rw[xP,h];exact h2
theorem kD(h:ma ρ S=.ok x S1):ck ma ρ S=.rt x S1:=by rw[wk,h];rfl
theorem C2{m n:SM}{q:SR}(h:t ρ S=.ok false S1)(h2:n ρ S1=q):uP t m n ρ S=q:=by rw[GO,h];exact h2
theorem Y5{m:SM}{ρ1:Env}(h:m ρ S=.nx ρ1 S1):Ey m ρ S=.nx (ρ1.map (fA S.length S1)) (S1.take S.length):=by rw[WK,h];rfl
theorem yp{a l:Nat}{m:SM}{x:A}(hl:xs.length=a)(h:m (xs.map some++List.replicate (l-a) none) S=.rt x S1):bU a l m xs S=.ok x S1:=by rw[fY,if_pos hl,h];rfl
theorem DL{g:Tg}{m:SM}{d:D}{ds:List D}{ρ1 ρ2:Env}(hp:g.put (.v d) ρ=some ρ1)(hm:m ρ1 S=.nx ρ2 S2):forL g m (d::ds) ρ S=forL g m ds ρ2 S2:=by simp[forL,hp,hm]
end
section
variable {ρ:Env}{S S1 S2 S3:ag}{x y:A}{ma mb mo:EM}{k:Nat}{fM:FM}{α:Type}{own:List Nat}{mi:IM}{g:Tg}{t:TM}{m:EM}
theorem RA{fs:List (Str×D)}{d:D}(h:mo ρ S=.ok (.v (.obj k fs)) S1)(h2:fM [.v (.obj k fs)] S1=.ok (.v d) S2):CL k fM mo ρ S=.ok (.v d) S2:=by rw[NM,h,R.ak];show U4 k fM _ S1 (some (k,fs))=_;rw[Ro,h2];rfl
theorem RB(h:ma ρ S=.ok (.v (.bl false)) S1):og ma mb ρ S=.ok (.v (.bl false)) S1:=by rw[uD,h];rfl
theorem Mh{z:R A}(h:ma ρ S=.ok (.v (.bl true)) S1)(h2:mb ρ S1=z):og ma mb ρ S=z:=by rw[uD,h];exact h2
theorem DM{i j:Nat}{r:AM}(h:r ρ S=.ok [x,y] S1):xI i j r ρ S=.nx ((ρ.set i (some x)).set j (some y)) S1:=by unfold xI;rw[h]
theorem RC{t:TM}{m n:SM}{q:SR}(h:t ρ S=.ok true S1)(h2:m ρ S1=q):uP t m n ρ S=q:=by rw[GO,h];exact h2
theorem abP{a l:Nat}{m:SM}{xs:List A}{ρ1:Env}(hl:xs.length=a)(h:m (xs.map some++List.replicate (l-a) none) S=.nx ρ1 S1):bU a l m xs S=.ok (.v .non) S1:=by rw[fY,if_pos hl,h];rfl
theorem ug{ty:String}{g:A->List A->ag->Option (A×ag)}{r:AM}{xs:List A}(h:mo ρ S=.ok x S1)(h1:zw x S1=some ty)(h2:r ρ S1=.ok xs S2)(h3:g x xs S2=some (y,S3)):mR ty g mo r ρ S=.ok y S3:=by rw[Mb,h,R.ak,if_pos h1,h2,R.ak,h3];rfl
theorem pU(h:ma ρ S=.ok x S1):ju ma ρ S=.nx ρ S1:=by rw[NC,h];rfl
theorem KD(items:List α)(mk:α->D)(h:α->D)(hi:mi ρ S=.ok (items.map mk) S1)(hl:items.length<=1000000)
  (step:∀a∈items,∀as:List α,as <+: items->∃ρ1,g.put (.v (mk a)) (aT ρ own)=some ρ1/\t ρ1 (S1++[.lst (as.map h)])=.ok true (S1++[.lst (as.map h)])/\m ρ1 (S1++[.lst (as.map h)])=.ok (.v (h a)) (S1++[.lst (as.map h)])) :
  fX own mi g t m ρ S=.ok (.v (.lst (items.map h))) S1:=by
 obtain⟨ys,S2,e,⟨i1,pre,p1,p2,p3⟩,_⟩:=EW (own:=own) (g:=g) (t:=t) (m:=m) (λdon ys S2=>S2=S1/\∃pre:List α,don=pre.map mk/\pre <+: items/\ys=pre.map h) hi ⟨rfl,[],rfl,List.nil_prefix,rfl⟩ (by simpa using hl) (λdon ys d rest S2 e ⟨e1,pre,p1,p2,p3⟩ _=>by subst e1 p1 p3;obtain⟨a,ha,rfl,p4,p5⟩:=y8 e p2;obtain⟨ρ1,h1,h2,h3⟩:=step a ha pre p2;exact⟨ρ1,true,S2,h1,h2,rfl,⟨λhf=>(by cases hf),λhf=>⟨h a,S2,h3,rfl,rfl,_,p5,p4,by simp⟩⟩⟩);have pl:pre=items:=by have:=congrArg List.length p1;simp at this;exact p2.eq_of_length this.symm
 rw[e,i1,p3,pl]
end
theorem mj{α:Type}{mk:α->D}{pk:α->PySem.PyData}(h:∀a,toPy (mk a)=some (pk a)):∀xs:List α,kL (xs.map mk)=some (xs.map pk)|[]=>rfl|a::xs=>by rw[List.map_cons];unfold kL;rw[h a,mj h xs];rfl
theorem se{α:Type}[DecidableEq α]{pk:α->PySem.PyData}(h:∀a b,PySem.PyData.eqv (pk a) (pk b)=decide (a=b)):∀xs ys:List α,PySem.PyData.eqvAll (xs.map pk) (ys.map pk)=decide (xs=ys)|[],[]=>rfl|[],_::_=>rfl|_::_,[]=>rfl|a::xs,b::ys=>by have ih:=se h xs ys;show(PySem.PyData.eqv (pk a) (pk b)&&PySem.PyData.eqvAll (xs.map pk) (ys.map pk))=_;rw[h,ih];simp[Bool.decide_and]
theorem jU{α:Type}{pk:α->PySem.PyData}:∀(xs:List α),(∀a∈xs,PySem.PyData.canLay0 (pk a)=true)->PySem.PyData.canLayAll0 (xs.map pk)=true|[],_=>rfl|a::xs,h=>by show(PySem.PyData.canLay0 (pk a)&&PySem.PyData.canLayAll0 (xs.map pk))=true;rw[h a (by simp),jU xs λy hy=>h y (by simp[hy])];rfl
theorem jV{α:Type}{pk:α->PySem.PyData}{n:Nat}:∀(xs:List α),(∀a∈xs,PySem.PyData.depth (pk a)<=n)->PySem.PyData.depthAll (xs.map pk)<=n|[],_=>by show 0<=n;omega|a::xs,h=>by have h1:=h a (by simp);have h2:=jV xs λy hy=>h y (by simp[hy]);show max (PySem.PyData.depth (pk a)) (PySem.PyData.depthAll (xs.map pk))<=n;exact Nat.max_le.mpr ⟨h1,h2⟩
theorem zy{N B C:Env->ag->Prop}{T:A->ag->Prop}{E:Er->ag->Prop}{r:SR}{ρ1:Env}{S1:ag}(h:r=.nx ρ1 S1)(k:N ρ1 S1):r.sa N T B C E:=⟨h▸k⟩
theorem KG{a l:Nat}{m:SM}{xs:List A}{S:ag}{P:A->ag->Prop}(hl:xs.length=a)(h:(m (xs.map some++List.replicate (l-a) none) S).sa Ad P Ad Ad Ri):∃x S',bU a l m xs S=.ok x S'/\P x S':=by
 have h:=h.h;rw[fY,if_pos hl];cases q:m (xs.map some++List.replicate (l-a) none) S with
 |rt x S'=>rw[q]at h;exact⟨x,S',rfl,h⟩|nx _ _=>rw[q]at h;exact h.elim|bk _ _=>rw[q]at h;exact h.elim|ct _ _=>rw[q]at h;exact h.elim|er _ _=>rw[q]at h;exact h.elim|stk=>rw[q]at h;exact h.elim
def aQ(r:List Int):D:=.lst (r.map .int)
def aK(g:List (List Int)):D:=.lst (g.map aQ)
def aN(e:List Bool):List D:=e.map .bl
def bX(g:List (List Int))(e:List Bool):D:=.tup [aK g,.lst (aN e)]
structure k7 (w n:Nat) (g:List (List Int)) (e:List Bool):Prop where
 lg:g.length=n
 le:e.length=n
 lr:∀r∈g,r.length=w
 lo:∀r∈g,∀x∈r,-1<=x
 hi:∀r∈g,∀x∈r,x<n
theorem Tp{l:List Bool}{x:Int}(h0:0<=x)(h1:x<l.length):∃b,atI (aN l) x=some (.bl b)/\l[x.toNat]?=some b:=by obtain⟨z,e1,e2⟩:=EU (zs:=aN l) h0 (by simpa[aN]using h1);rw[aN,List.getElem?_map]at e2;obtain⟨b,e3,rfl⟩:=Option.map_eq_some_iff.mp e2;exact⟨b,e1,e3⟩
theorem atG{g:List (List Int)}{x:Int}(h0:0<=x)(h1:x<g.length):∃r,atI (g.map aQ) x=some (aQ r)/\g[x.toNat]?=some r:=by obtain⟨z,e1,e2⟩:=EU (zs:=g.map aQ) h0 (by simpa using h1);rw[List.getElem?_map]at e2;obtain⟨r,e3,rfl⟩:=Option.map_eq_some_iff.mp e2;exact⟨r,e1,e3⟩
def eX(l:List Bool):Nat:=l.countP λb=>!b
theorem G0(l:List Bool):eX l<=l.length:=List.countP_le_length
theorem E5:∀{l:List Bool}{j:Nat},l[j]?=some false->eX (l.set j true)+1=eX l
 |[],j,h=>by simp at h|b::l,0,h=>by
  have e:b=false:=by simpa using h
  subst e;simp[eX]
 |b::l,j+1,h=>by have ih:=E5 (l:=l) (j:=j) (by simpa using h);simp only[eX,List.set_cons_succ,List.countP_cons]at ih ⊢;omega
theorem G1:∀l:List Bool,k8 (aN l)=some l|[]=>rfl|b::l=>by show(k8 (aN l)).map (b::·)=_;rw[G1 l];rfl
theorem kX{S:ag}{m:MO}:(S++[m])[S.length]?=some m:=by simp
theorem Cc{S:ag}{m m':MO}:(S++[m]).set S.length m'=S++[m']:=by simp
theorem NP{ds:List D}{k:Nat}{don:List D}{d:D}{rest:List D}(h:jx k ds=don++d::rest):∃(x:D),ds[don.length]?=some x/\d=.tup [.int ((k+don.length:Nat):Int),x]:=by
 have e:(jx k ds)[don.length]?=some d:=by rw[h];simp
 obtain⟨x,e1,e2⟩:=ED e;exact⟨x,e1,e2⟩
theorem Y6{r:List Int}{l:List Bool}{S:ag}{x0 x1 x3 x4 x6:Option A}(hr:∀x∈r,x<l.length)(hz:r.length<=1000000) :fX [6] (cJ (eV 5)) (.nm 6) aL (og (aA tq (eV 6) (eC (.int 0))) (aA b6 (eV 2) (eV 6))) [x0,x1,some (.m S.length),x3,x4,some (.v (aQ r)),x6] (S++[.lst (aN l)])=.ok (.v (.lst (aN (r.map λx=>decide (0<=x)&&l.getD x.toNat false)))) (S++[.lst (aN l)]):=by
 have e:aN (r.map λx=>decide (0<=x)&&l.getD x.toNat false)=r.map λx=>D.bl (decide (0<=x)&&l.getD x.toNat false):=by unfold aN;rw[List.map_map];rfl
 rw[e];refine KD r D.int (λx=>.bl (decide (0<=x)&&l.getD x.toNat false)) (dM rfl) hz λa ha as _=>⟨[x0,x1,some (.m S.length),x3,x4,some (.v (aQ r)),some (.v (.int a))],rfl,rfl,?_⟩;by_cases h:0<=a
 ·obtain⟨b,e1,e2⟩:=Tp h (hr a ha);have e3:(decide (0<=a)&&l.getD a.toNat false)=b:=by rw[decide_eq_true h,Bool.true_and,List.getD_eq_getElem?_getD,e2];rfl
  rw[e3];refine Mh (S1:=S++[.lst (aN l)]++[.lst (as.map λx=>.bl (decide (0<=x)&&l.getD x.toNat false))]) (aD rfl rfl (by rw[mS,decide_eq_true h])) (aD rfl rfl ?_);rw[jQ (ds:=aN l) (by simp),e1];rfl
 ·have e3:(decide (0<=a)&&l.getD a.toNat false)=false:=by rw[decide_eq_false h,Bool.false_and]
  rw[e3];exact RB (aD rfl rfl (by rw[mS,decide_eq_false h]))
def bh(live:List Bool)(p:Nat):Bool:=live.getD p false
def f9(g:List (List Int))(live:List Bool):List (List Int):=g.map λr=>r.map λx=>if (decide (0<=x)&&bh live x.toNat)=true then x else -1
def cz(g:List (List Int))(p:Int)(a:Nat):Int:=if 0<=p then(g.getD p.toNat []).getD a 0 else -1
def endAt(e:List Bool)(p:Int):Bool:=decide (0<=p)&&e.getD p.toNat false
section
variable {α β:Type}
open Classical in
noncomputable def Bm(l:List α)(a:α):List α:=if a∈l then l else l++[a]
noncomputable def FR(acc l:List α):List α:=l.foldl Bm acc
theorem Cd{l:List α}{a:α}(h:a∈l):Bm l a=l:=if_pos h
theorem Ce{l:List α}{a:α}(h:a∉l):Bm l a=l++[a]:=if_neg h
theorem RD(l:List α)(a:α):∃m,Bm l a=l++m:=by by_cases h:a∈l;exact⟨[],by rw[Cd h,List.append_nil]⟩;·exact⟨[a],Ce h⟩
theorem KH{l:List α}{a x:α}:x∈Bm l a↔x∈l\/x=a:=by by_cases h:a∈l;rw[Cd h];exact⟨.inl,λh2=>h2.elim id λe=>e▸h⟩;·rw[Ce h];simp
theorem I5:∀(l acc:List α),∃m,FR acc l=acc++m|[],acc=>⟨[],(List.append_nil _).symm⟩|a::l,acc=>by obtain⟨m,e⟩:=I5 l (Bm acc a);obtain⟨m',e'⟩:=RD acc a;exact⟨m'++m,by show FR (Bm acc a) l=_;rw[e,e',List.append_assoc]⟩
theorem DN:∀{l acc:List α}{x:α},x∈FR acc l↔x∈acc\/x∈l|[],acc,x=>by simp[FR]|a::l,acc,x=>by show x∈FR (Bm acc a) l↔_;rw[DN,KH,List.mem_cons,or_assoc]
theorem I6(acc l m:List α):FR acc (l++m)=FR (FR acc l) m:=List.foldl_append
noncomputable def eJ(nx:α->List α)(s0:α):Nat->List α
 |0=>[s0]|n+1=>match (eJ nx s0 n)[n]? with
  |none=>eJ nx s0 n|some s=>FR (eJ nx s0 n) (nx s)
def I7(nx:α->List α)(s0:α)(sts:List α):Prop:=eJ nx s0 sts.length=sts
variable {nx:α->List α}{s0:α}
theorem yq{n:Nat}{s:α}(h:(eJ nx s0 n)[n]?=some s):eJ nx s0 (n+1)=FR (eJ nx s0 n) (nx s):=by rw[eJ,h]
theorem ze{n:Nat}(h:(eJ nx s0 n).length<=n):eJ nx s0 (n+1)=eJ nx s0 n:=by rw[eJ,List.getElem?_eq_none h]
theorem G2{n:Nat}(h:(eJ nx s0 n).length<=n):∀k,eJ nx s0 (n+k)=eJ nx s0 n|0=>rfl|k+1=>by have ih:=G2 h k;show eJ nx s0 (n+k+1)=_;rw[ze (by rw[ih];omega),ih]
theorem Ph{a b:List α}(ha:I7 nx s0 a)(hb:I7 nx s0 b):a=b:=by
 have aux:∀{a b:List α},I7 nx s0 a->I7 nx s0 b->a.length<=b.length->a=b:=λ{a b} ha hb h=>by have:=G2 (nx:=nx) (s0:=s0) (n:=a.length) (by rw[show eJ nx s0 a.length=a from ha];exact Nat.le_refl _) (b.length-a.length);rw[show a.length+(b.length-a.length)=b.length by omega,show eJ nx s0 b.length=b from hb,show eJ nx s0 a.length=a from ha]at this;exact this.symm
 rcases Nat.le_total a.length b.length with h|h;exact aux ha hb h;·exact(aux hb ha h).symm
theorem KI(n:Nat):∃m,eJ nx s0 (n+1)=eJ nx s0 n++m:=by
 cases h:(eJ nx s0 n)[n]? with
 |none=>exact⟨[],by rw[eJ,h,List.append_nil]⟩|some s=>rw[yq h];exact I5 _ _
theorem E6{P:α->Prop}(h0:P s0)(hs:∀s,P s->∀t∈nx s,P t):∀n,∀x∈eJ nx s0 n,P x
 |0,x,h=>by rw[List.mem_singleton.mp h];exact h0|n+1,x,h=>by
  have ih:=E6 h0 hs n;cases q:(eJ nx s0 n)[n]? with
  |none=>rw[eJ,q]at h;exact ih x h|some s =>rw[yq q]at h;rcases DN.mp h with h|h;exact ih x h;·exact hs s (ih s (List.mem_of_getElem? q)) x h
theorem I8:∀n i s,i<n->(eJ nx s0 n)[i]?=some s->∀t∈nx s,t∈eJ nx s0 n
 |0,i,s,h,_,_,_=>absurd h (Nat.not_lt_zero _)|n+1,i,s,h,e,t,ht=>by
  obtain⟨m,em⟩:=KI (nx:=nx) (s0:=s0) n;by_cases hi:i<n
  ·by_cases hl:i<(eJ nx s0 n).length
   ·have e2:(eJ nx s0 n)[i]?=some s:=by rw[em,List.getElem?_append_left hl]at e;exact e
    have:=I8 n i s hi e2 t ht;rw[em];exact List.mem_append_left _ this
   ·have:(eJ nx s0 n).length<=n:=by omega
    rw[ze this,List.getElem?_eq_none (by omega)]at e;cases e
  ·have hi:i=n:=by omega
   subst hi;cases q:(eJ nx s0 i)[i]? with
   |none =>rw[eJ,q]at e;rw[show(match (none:Option α) with|none=>eJ nx s0 i|some s=>FR (eJ nx s0 i) (nx s))=eJ nx s0 i from rfl,q]at e;cases e|some s' =>rw[yq q];have lt:=(List.getElem?_eq_some_iff.mp q).1;rw[em,List.getElem?_append_left lt,q]at e;cases e;exact DN.mpr (.inr ht)
theorem Va{sts:List α}(h:I7 nx s0 sts){s t:α}(hs:s∈sts)(ht:t∈nx s):t∈sts:=by obtain⟨i,hi⟩:=List.mem_iff_getElem?.mp hs;have lt:=(List.getElem?_eq_some_iff.mp hi).1;have e:eJ nx s0 sts.length=sts:=h;have:=I8 (nx:=nx) (s0:=s0) sts.length i s lt (by rw[e];exact hi) t ht;rwa[e]at this
theorem RE{sts:List α}(h:I7 nx s0 sts){P:α->Prop}(h0:P s0)(hs:∀s,P s->∀t∈nx s,P t):∀x∈sts,P x:=λx hx=>by have e:eJ nx s0 sts.length=sts:=h;exact E6 h0 hs sts.length x (by rw[e];exact hx)
theorem RF{sts:List α}(h:I7 nx s0 sts):sts[0]?=some s0:=by
 have e:eJ nx s0 sts.length=sts:=h;have:∀n,(eJ nx s0 n)[0]?=some s0:=λn=>by
  induction n with
  |zero=>rfl|succ n ih =>obtain⟨m,em⟩:=KI (nx:=nx) (s0:=s0) n;rw[em,List.getElem?_append_left (List.getElem?_eq_some_iff.mp ih).1,ih]
 rw[<-e];exact this _
open Classical in
noncomputable def DO:List α->α->Nat|[],_=>0|b::l,a=>if b=a then 0 else DO l a+1
theorem E7{l:List α}{a b:α}(h:b=a):DO (b::l) a=0:=if_pos h
theorem E8{l:List α}{a b:α}(h:¬b=a):DO (b::l) a=DO l a+1:=if_neg h
theorem RG:∀{l:List α}{a:α},a∈l->l[DO l a]?=some a
 |[],a,h=>nomatch h
 |b::l,a,h=>by
  by_cases e:b=a;·rw[E7 e,e];rfl
  ·rw[E8 e];rcases List.mem_cons.mp h with h|h;exact absurd h.symm e;·simpa using RG h
theorem I9:∀{l m:List α}{a:α},a∈l->DO (l++m) a=DO l a
 |[],m,a,h=>nomatch h
 |b::l,m,a,h=>by
  by_cases e:b=a;·rw[List.cons_append,E7 e,E7 e]
  ·rw[List.cons_append,E8 e,E8 e];rcases List.mem_cons.mp h with h|h;exact absurd h.symm e;·rw[I9 h]
theorem Jb:∀{l:List α}{a:α}{j:Nat},l.Nodup->l[j]?=some a->DO l a=j
 |[],a,j,_,h=>by simp at h|b::l,a,0,_,h=>E7 (by simpa using h)|b::l,a,j+1,nd,h=>by
  have h:l[j]?=some a:=by simpa using h
  have nd:=List.nodup_cons.mp nd;have ne:¬b=a:=λe=>nd.1 (by rw[e];exact List.mem_of_getElem? h);rw[E8 ne,Jb nd.2 h]
theorem NQ{P:α->Prop}{φ:α->β}(inj:∀a b,P a->P b->φ a=φ b->a=b):∀{l:List α}{a:α},(∀x∈l,P x)->P a->DO (l.map φ) (φ a)=DO l a|[],a,_,_=>rfl|b::l,a,h,ha=>by rw[List.map_cons];by_cases e:b=a;rw[E7 e,E7 (congrArg φ e)];·rw[E8 e,E8 λz=>e (inj b a (h b (by simp)) ha z),NQ inj (λx hx=>h x (by simp[hx])) ha]
theorem NR{P:α->Prop}{φ:α->β}(inj:∀a b,P a->P b->φ a=φ b->a=b):∀{l acc:List α},(∀x∈l,P x)->(∀x∈acc,P x)->FR (acc.map φ) (l.map φ)=(FR acc l).map φ
 |[],acc,_,_=>rfl|a::l,acc,h,ha=>by
  have pa:=h a (by simp);have e:Bm (acc.map φ) (φ a)=(Bm acc a).map φ:=by
   by_cases m:a∈acc;·rw[Cd m,Cd (List.mem_map.mpr ⟨a,m,rfl⟩)]
   ·rw[Ce m,Ce,List.map_append];·rfl
    ·intro z;obtain⟨b,hb,eb⟩:=List.mem_map.mp z;exact m (inj b a (ha b hb) pa eb▸hb)
  show FR (Bm (acc.map φ) (φ a)) (l.map φ)=(FR (Bm acc a) l).map φ;rw[e];refine NR inj (λx hx=>h x (by simp[hx])) λx hx=>?_;rcases KH.mp hx with hx|hx;exact ha x hx;·rw[hx];exact pa
def Jc(stp:α->Nat->Option α)(w:Nat)(s:α):List α:=(List.range w).filterMap (stp s)
noncomputable def xr(sts:List α)(stp:α->Nat->Option α)(w:Nat)(s:α):List Int:=(List.range w).map λk=>match stp s k with
 |none=>-1|some t=>(DO sts t:Nat)
def yr(stp:α->Nat->Option α)(fn:α->Bool)(w:Nat)(s0:α)(g:List (List Int))(e:List Bool):Prop:=∃sts,I7 (Jc stp w) s0 sts/\g=sts.map (xr sts stp w)/\e=sts.map fn
theorem yr.uniq{stp:α->Nat->Option α}{fn:α->Bool}{w:Nat}{g g':List (List Int)}{e e':List Bool}(h:yr stp fn w s0 g e)(h':yr stp fn w s0 g' e'):g=g'/\e=e':=by obtain⟨s,h1,rfl,rfl⟩:=h;obtain⟨s',h1',rfl,rfl⟩:=h';cases Ph h1 h1';exact⟨rfl,rfl⟩
theorem Jd{stp:α->Nat->Option α}{w:Nat}{s t:α}:t∈Jc stp w s↔∃k<w,stp s k=some t:=by unfold Jc;rw[List.mem_filterMap];exact⟨λ⟨k,hk,h⟩=>⟨k,List.mem_range.mp hk,h⟩,λ⟨k,hk,h⟩=>⟨k,List.mem_range.mpr hk,h⟩⟩
theorem yt{γ:Type}{f:γ->Option α}{f':γ->Option β}{φ:α->β}:∀{l:List γ},(∀k∈l,f' k=(f k).map φ)->l.filterMap f'=(l.filterMap f).map φ
 |[],_=>rfl|k::l,h=>by
  have ih:=yt (f:=f) (f':=f') (φ:=φ) (l:=l) λj hj=>h j (by simp[hj]);rw[List.filterMap_cons,List.filterMap_cons,h k (by simp)];cases f k with
  |none=>exact ih|some a=>simp only[Option.map_some,List.map_cons,ih]
theorem yr.map{stp:α->Nat->Option α}{fn:α->Bool}{w:Nat}{g:List (List Int)}{e:List Bool}{stp':β->Nat->Option β}{fn':β->Bool}(P:α->Prop)(φ:α->β)(p0:P s0)
  (pc:∀s,P s->∀k<w,∀t,stp s k=some t->P t) (inj:∀a b,P a->P b->φ a=φ b->a=b) (hs:∀s,P s->∀k<w,stp' (φ s) k=(stp s k).map φ) (hf:∀s,P s->fn' (φ s)=fn s)
  (h:yr stp fn w s0 g e):yr stp' fn' w (φ s0) g e:=by
 obtain⟨sts,h1,rfl,rfl⟩:=h;have cl:∀s,P s->∀t∈Jc stp w s,P t:=λs ps t ht=>by obtain⟨k,hk,e⟩:=Jd.mp ht;exact pc s ps k hk t e
 have hn:∀s,P s->Jc stp' w (φ s)=(Jc stp w s).map φ:=λs ps=>yt λk hk=>hs s ps k (List.mem_range.mp hk);have bm:∀n,eJ (Jc stp' w) (φ s0) n=(eJ (Jc stp w) s0 n).map φ:=λn=>by
  induction n with
  |zero=>rfl|succ n ih=>
   have pa:=E6 (nx:=Jc stp w) (s0:=s0) (P:=P) p0 cl n;cases q:(eJ (Jc stp w) s0 n)[n]? with
   |none =>rw[ze (by rw[ih,List.length_map];exact List.getElem?_eq_none_iff.mp q),ih,ze (List.getElem?_eq_none_iff.mp q)]|some s =>have q':(eJ (Jc stp' w) (φ s0) n)[n]?=some (φ s):=(by rw[ih,List.getElem?_map,q];rfl);have ps:=pa s (List.mem_of_getElem? q);rw[yq q,yq q',ih,hn s ps];exact NR inj (cl s ps) pa
 have all:=RE h1 p0 cl;refine⟨sts.map φ,?_,?_,?_⟩;·show eJ _ _ _=_;have e:eJ (Jc stp w) s0 sts.length=sts:=h1;rw[List.length_map,bm,e]
 ·rw[List.map_map];refine List.map_congr_left λs hsm=>?_;show xr sts stp w s=xr (sts.map φ) stp' w (φ s);unfold xr;refine List.map_congr_left λk hk=>?_;have hk:=List.mem_range.mp hk;rw[hs s (all s hsm) k hk];cases q:stp s k with|none=>rfl|some t =>show((DO sts t:Nat):Int)=((DO (sts.map φ) (φ t):Nat):Int);rw[NQ inj all (pc s (all s hsm) k hk t q)]
 ·rw[List.map_map];exact List.map_congr_left λs hsm=>(hf s (all s hsm)).symm
end
abbrev zr:=List Nat->Bool
def Mi(L:zr)(k:Nat):zr:=λu=>L (k::u)
def Y7(L:zr):Prop:=∀u,L u=false
open Classical in
noncomputable def wA(L:zr)(k:Nat):Option zr:=if Y7 (Mi L k) then none else some (Mi L k)
def fnL(L:zr):Bool:=L []
def Am(w:Nat)(L:zr)(g:List (List Int))(e:List Bool):Prop:=(Y7 L/\g=[]/\e=[])\/(¬Y7 L/\yr wA fnL w L g e)
theorem Am.uniq{w:Nat}{L:zr}{g g':List (List Int)}{e e':List Bool}(h:Am w L g e)(h':Am w L g' e'):g=g'/\e=e':=by
 rcases h with ⟨h1,rfl,rfl⟩|⟨h1,h2⟩<;>rcases h' with ⟨h3,rfl,rfl⟩|⟨h3,h4⟩
 exact⟨rfl,rfl⟩;exact absurd h1 h3;exact absurd h3 h1;·exact h2.uniq h4
section
variable {α:Type}{stp:α->Nat->Option α}{w:Nat}{s0 s t:α}{sts sts':List α}{row:List Int}{g:List (List Int)}{j:Nat}
noncomputable def RH(sts:List α)(stp:α->Nat->Option α)(s:α)(k:Nat):Int:=match stp s k with
 |none=>-1|some t=>(DO sts t:Nat)
structure jE (stp:α->Nat->Option α) (s:α) (sts:List α) (j:Nat) (sts':List α) (row:List Int):Prop where
 ss:sts'=FR sts ((List.range j).filterMap (stp s))
 rs:row=(List.range j).map (RH sts' stp s)
theorem jE.zero:jE stp s sts 0 sts []:=⟨rfl,rfl⟩
theorem jE.mem(h:jE stp s sts j sts' row){k:Nat}(hk:k<j){t:α}(e:stp s k=some t):t∈sts':=by rw[h.ss];exact DN.mpr (.inr (List.mem_filterMap.mpr ⟨k,List.mem_range.mpr hk,e⟩))
theorem jE.no(h:jE stp s sts j sts' row)(e:stp s j=none):jE stp s sts (j+1) sts' (row++[-1]):=by refine⟨?_,?_⟩;rw[List.range_succ,List.filterMap_append,I6,<-h.ss];simp[e,FR];·rw[List.range_succ,List.map_append,h.rs];simp[RH,e]
theorem jE.old(h:jE stp s sts j sts' row)(e:stp s j=some t)(m:t∈sts'):jE stp s sts (j+1) sts' (row++[((DO sts' t:Nat):Int)]):=by refine⟨?_,?_⟩;rw[List.range_succ,List.filterMap_append,I6,<-h.ss];simp[e,FR,Cd m];·rw[List.range_succ,List.map_append,h.rs];simp[RH,e]
theorem jE.new(h:jE stp s sts j sts' row)(e:stp s j=some t)(m:t∉sts'):jE stp s sts (j+1) (sts'++[t]) (row++[((sts'.length:Nat):Int)]):=by
 have ix:DO (sts'++[t]) t=sts'.length:=by
  have:∀l:List α,t∉l->DO (l++[t]) t=l.length:=λl=>by
   induction l with
   |nil=>intro _;exact E7 rfl
   |cons b l ih =>intro hm;have ne:¬b=t:=λz=>hm (by rw[z];exact .head _);rw[List.cons_append,E8 ne,ih λz=>hm (.tail _ z)];rfl
  exact this _ m
 refine⟨?_,?_⟩;·rw[List.range_succ,List.filterMap_append,I6,<-h.ss];simp[e,FR,Ce m]
 ·rw[List.range_succ,List.map_append,h.rs];congr 1;·refine List.map_congr_left λk hk=>?_;have hk:=List.mem_range.mp hk;unfold RH;cases q:stp s k with|none=>rfl|some t' =>show((DO sts' t':Nat):Int)=_;rw[<-I9 (m:=[t]) (h.mem hk q)]
  ·simp[RH,e,ix]
structure yu (stp:α->Nat->Option α) (w:Nat) (s0:α) (sts:List α) (g:List (List Int)):Prop where
 ss:sts=eJ (Jc stp w) s0 g.length
 le:g.length<=sts.length
 rs:g=(sts.take g.length).map (xr sts stp w)
theorem yu.zero:yu stp w s0 [s0] []:=⟨rfl,by simp,rfl⟩
theorem yu.step(h:yu stp w s0 sts g)(e:sts[g.length]?=some s)(p:jE stp s sts w sts' row):yu stp w s0 sts' (g++[row]):=by
 have lt:=(List.getElem?_eq_some_iff.mp e).1;have e1:eJ (Jc stp w) s0 (g.length+1)=sts':=by rw[yq (s:=s) (by rw[<-h.ss];exact e),<-h.ss,p.ss];rfl
 obtain⟨m,em⟩:∃m,sts'=sts++m:=by rw[p.ss];exact I5 _ _
 refine⟨by simp[e1],by rw[em];simp;omega,?_⟩;rw[List.length_append,List.length_singleton];have tk:sts'.take (g.length+1)=sts.take g.length++[s]:=by rw[em,List.take_append,show g.length+1-sts.length=0 by omega,List.take_zero,List.append_nil,List.take_add_one,e];rfl
 rw[tk,List.map_append,List.map_singleton];congr 1
 ·rw[h.rs];simp only[List.length_map,List.length_take,Nat.min_eq_left h.le];refine List.map_congr_left λx hx=>?_;unfold xr;refine List.map_congr_left λk hk=>?_;cases q:stp x k with
  |none=>rfl|some t=>
   show((DO sts t:Nat):Int)=((DO sts' t:Nat):Int);have:t∈sts:=by obtain⟨i,hi⟩:=List.mem_iff_getElem?.mp hx;have hi2:=(List.getElem?_eq_some_iff.mp hi).1;rw[List.length_take]at hi2;rw[List.getElem?_take,if_pos (by omega)]at hi;have:=I8 (nx:=Jc stp w) (s0:=s0) g.length i x (by omega) (by rw[<-h.ss];exact hi) t (Jd.mpr ⟨k,List.mem_range.mp hk,q⟩);rwa[<-h.ss]at this
   rw[em,I9 this]
 ·rw[p.rs];rfl
theorem yu.done{fn:α->Bool}(h:yu stp w s0 sts g)(e:g.length=sts.length):yr stp fn w s0 g (sts.map fn):=by refine⟨sts,?_,?_,rfl⟩;show eJ _ _ _=_;rw[<-e];exact h.ss.symm;·have:=h.rs;rw[e,List.take_length]at this;exact this
end
theorem eY{α:Type}{l:List α}{i:Nat}{a d:α}(h:l[i]?=some a):l.getD i d=a:=by rw[List.getD_eq_getElem?_getD,h];rfl
theorem Bn{α:Type}{l:List α}{i:Nat}{d:α}(h:l[i]?=none):l.getD i d=d:=by rw[List.getD_eq_getElem?_getD,h];rfl
def gG(g:List (List Int))(p:Int)(k:Nat):Int:=if 0<=p then(g.getD p.toNat []).getD k (-1) else -1
def tA(e:List Bool)(p:Int):Bool:=decide (0<=p)&&e.getD p.toNat false
def iM(g:List (List Int))(e:List Bool):Int->zr|p,[]=>tA e p|p,k::u=>iM g e (gG g p k) u
def kN(g:List (List Int))(e:List Bool)(p:Int):Prop:=∃u,iM g e p u=true
section
variable {w n:Nat}{g:List (List Int)}{e live:List Bool}
theorem iY{p:Int}(h:p<0):∀u,iM g e p u=false|[]=>by unfold iM tA;rw[decide_eq_false (by omega)];rfl|k::u=>by unfold iM;have:gG g p k=-1:=if_neg (by omega);rw[this];exact iY (by omega) u
theorem NS{p:Int}{k:Nat}:Mi (iM g e p) k=iM g e (gG g p k):=rfl
theorem wB{p:Int}(h:p<0):Y7 (iM g e p):=iY h
theorem lK{p:Int}:¬Y7 (iM g e p)↔kN g e p:=by
 constructor
 ·intro h;exact Classical.byContradiction λn=>h λu=>by
   cases q:iM g e p u with
   |false=>rfl|true=>exact absurd ⟨u,q⟩ n
 ·rintro⟨u,hu⟩ h;rw[h u]at hu;cases hu
theorem Vb{p:Int}(h:kN g e p):0<=p:=by obtain⟨u,hu⟩:=h;by_cases hp:0<=p;exact hp;·rw[iY (by omega)]at hu;cases hu
theorem Bo(W:k7 w n g e){p:Int}{k:Nat}:-1<=gG g p k/\gG g p k<n:=by
 unfold gG;split
 ·cases q:g[p.toNat]? with
  |none=>rw[Bn q,Bn rfl];omega|some r=>
   rw[eY q];have hr:=List.mem_of_getElem? q;cases q2:r[k]? with
   |none=>rw[Bn q2];omega|some x =>rw[eY q2];have hx:=List.mem_of_getElem? q2;exact⟨W.lo r hr x hx,W.hi r hr x hx⟩
 ·omega
theorem Cf(W:k7 w n g e){p:Int}{k:Nat}(hk:w<=k):gG g p k=-1:=by
 unfold gG;split;·cases q:g[p.toNat]? with|none=>rw[Bn q,Bn rfl]|some r=>rw[eY q,Bn (List.getElem?_eq_none (by rw[W.lr r (List.mem_of_getElem? q)];exact hk))]
 ·rfl
theorem Pj(W:k7 w n g e){p:Int}{k:Nat}(hp:p<n)(hk:k<w):cz g p k=gG g p k:=by
 unfold cz gG;split
 ·have hl:p.toNat<g.length:=by rw[W.lg];omega
  have e1:g.getD p.toNat []=g[p.toNat]:=eY (List.getElem?_eq_getElem hl);have lr:=W.lr _ (List.getElem_mem hl);rw[e1,eY (List.getElem?_eq_getElem (by rw[lr];exact hk)),eY (List.getElem?_eq_getElem (by rw[lr];exact hk))]
 ·rfl
theorem WM(W:k7 w n g e){p:Nat}{r:List Int}{x:Int}(hr:g[p]?=some r)(hx:x∈r):∃k<w,gG g (p:Nat) k=x:=by obtain⟨k,hk⟩:=List.mem_iff_getElem?.mp hx;have lr:=W.lr r (List.mem_of_getElem? hr);refine⟨k,by rw[<-lr];exact(List.getElem?_eq_some_iff.mp hk).1,?_⟩;unfold gG;rw[if_pos (by omega),Int.toNat_natCast,eY hr,eY hk]
theorem NT(W:k7 w n g e){p:Nat}{r:List Int}{k:Nat}(hr:g[p]?=some r)(hk:k<w):gG g (p:Nat) k∈r:=by have lr:=W.lr r (List.mem_of_getElem? hr);have h:r[k]?=some (r[k]'(by rw[lr];exact hk)):=List.getElem?_eq_getElem _;unfold gG;rw[if_pos (by omega),Int.toNat_natCast,eY hr,eY h];exact List.getElem_mem _
theorem G3{p:Int}{k:Nat}(h:kN g e (gG g p k)):kN g e p:=by obtain⟨u,hu⟩:=h;exact⟨k::u,hu⟩
theorem KJ{p:Nat}(h:e.getD p false=true):kN g e (p:Nat):=⟨[],by unfold iM tA;rw[decide_eq_true (by omega),Int.toNat_natCast,h];rfl⟩
structure Cg (n:Nat) (g:List (List Int)) (e live:List Bool):Prop where
 len:live.length=n
 iff:∀p:Nat,p<n->(bh live p=true↔kN g e p)
theorem KN(W:k7 w n g e)(hl:live.length=n)(a:∀p<n,e.getD p false=true->bh live p=true)(b:∀p<n,bh live p=true->kN g e (p:Nat))
  (c:∀p<n,bh live p=false->∀k<w,0<=gG g (p:Nat) k->bh live (gG g (p:Nat) k).toNat=false):Cg n g e live:=by
 refine⟨hl,λp hp=>⟨b p hp,?_⟩⟩;rintro⟨u,hu⟩;induction u generalizing p with
 |nil =>unfold iM tA at hu;rw[decide_eq_true (by omega)]at hu;exact a p hp hu|cons k u ih=>
  unfold iM at hu;have h0:0<=gG g (p:Nat) k:=Vb ⟨u,hu⟩;have hk:k<w:=by by_cases h:k<w;exact h;·rw[Cf W (by omega)]at h0;omega
  have b1:=(Bo W (p:=(p:Nat)) (k:=k)).2;have:=ih (gG g (p:Nat) k).toNat (by omega) (by rw[show(((gG g (p:Nat) k).toNat:Nat):Int)=gG g (p:Nat) k by omega];exact hu);cases q:bh live p with
  |true=>rfl|false=>rw[c p hp q k hk h0]at this;cases this
theorem NU{p:Int}{k:Nat}:gG (f9 g live) p k=if (decide (0<=gG g p k)&&bh live (gG g p k).toNat)=true then gG g p k else -1:=by
 unfold gG f9;split
 ·cases q:g[p.toNat]? with
  |none=>rw[Bn (l:=List.map _ g) (by rw[List.getElem?_map,q];rfl),Bn q,Bn rfl];rfl|some r=>
   rw[eY (l:=List.map _ g) (by rw[List.getElem?_map,q];rfl),eY q];cases q2:r[k]? with
   |none=>rw[Bn (l:=List.map _ r) (by rw[List.getElem?_map,q2];rfl),Bn q2];rfl|some x=>rw[eY (l:=List.map _ r) (by rw[List.getElem?_map,q2];rfl),eY q2]
 ·simp
theorem NV(W:k7 w n g e)(L:Cg n g e live):∀(u:List Nat) (p:Int),iM (f9 g live) e p u=iM g e p u
 |[],p=>rfl|k::u,p=>by
  unfold iM;rw[NV W L u,NU];split;·rfl
  ·rename_i h;rw[iY (by omega)];by_cases h0:0<=gG g p k;·have b:=(Bo W (p:=p) (k:=k)).2;rw[decide_eq_true h0,Bool.true_and]at h;have:¬kN g e (gG g p k):=λz=>h ((L.iff (gG g p k).toNat (by omega)).mpr (by rw[show(((gG g p k).toNat:Nat):Int)=gG g p k by omega];exact z));cases q:iM g e (gG g p k) u with|false=>rfl|true=>exact absurd ⟨u,q⟩ this
   ·rw[iY (by omega)]
theorem Bp(W:k7 w n g e)(L:Cg n g e live)(p:Int):iM (f9 g live) e p=iM g e p:=funext λu=>NV W L u p
theorem E9(W:k7 w n g e)(L:Cg n g e live){p:Int}{k:Nat}(h:0<=gG (f9 g live) p k):kN (f9 g live) e (gG (f9 g live) p k):=by rw[<-lK,Bp W L,lK];rw[NU]at h ⊢;split at h;rename_i hc;rw[if_pos hc];rw[Bool.and_eq_true]at hc;have h0:=of_decide_eq_true hc.1;have b:=(Bo W (p:=p) (k:=k)).2;have:=(L.iff (gG g p k).toNat (by omega)).mp hc.2;rwa[show(((gG g p k).toNat:Nat):Int)=gG g p k by omega]at this;·omega
end
structure Vc (n:Nat) (g:List (List Int)) (e l:List Bool):Prop where
 len:l.length=n
 a:∀p<n,e.getD p false=true->bh l p=true
 b:∀p<n,bh l p=true->kN g e (p:Nat)
def ClR(w:Nat)(g:List (List Int))(l:List Bool)(p:Nat):Prop:=bh l p=false->∀k<w,0<=gG g (p:Nat) k->bh l (gG g (p:Nat) k).toNat=false
theorem Vc.set{n:Nat}{g:List (List Int)}{e l:List Bool}(L:Vc n g e l){j:Nat}(hj:j<n)(h:kN g e (j:Nat)):Vc n g e (l.set j true):=by
 have at_:∀p,bh (l.set j true) p=if j=p then true else bh l p:=λp=>by unfold bh;rw[List.getD_eq_getElem?_getD,List.getD_eq_getElem?_getD,List.getElem?_set];by_cases e:j=p;rw[if_pos e,if_pos e,if_pos (by rw[L.len];exact hj)];rfl;·rw[if_neg e,if_neg e]
 refine⟨by rw[List.length_set,L.len],λp hp he=>?_,λp hp hl=>?_⟩;·rw[at_];split;rfl;·exact L.a p hp he
 ·rw[at_]at hl;split at hl;rename_i e;rw[<-e];exact h;·exact L.b p hp hl
theorem Vd{w n:Nat}{g:List (List Int)}{e:List Bool}(W:k7 w n g e)(hn:n<=2600)(hw:w<=1000)(S:ag):∃l:List Bool,r5 [.v (aK g),.v (.lst (aN e))] S=.ok (.v (.lst (aN l))) S/\Cg n g e l:=by
 have key:∃x S',r4 [.v (aK g),.v (.lst (aN e))] S=.ok x S'/\∃l:List Bool,x=.m S.length/\S'=S++[.lst (aN l)]/\Cg n g e l:=by
  refine KG rfl ?_;unfold xV;refine bI (dD (x:=.m S.length) (S1:=S++[.lst (aN e)]) rfl ?_);refine bI (dD (x:=.v (.bl true)) (S1:=S++[.lst (aN e)]) rfl ?_);refine bI (vj (k:=n+1) (I:=λk ρ S'=>∃(l:List Bool) (c:Bool) (o4 o5 o6:Option A),ρ=[some (.v (aK g)),some (.v (.lst (aN e))),some (.m S.length),some (.v (.bl c)),o4,o5,o6]/\S'=S++[.lst (aN l)]/\Vc n g e l/\eX l+(if c=true then 1 else 0)<=k/\(c=false->∀p<n,ClR w g l p))
   ⟨e,true,none,none,none,rfl,rfl,⟨W.le,λ_ _ h=>h,λp _ h=>KJ h⟩,by have:=G0 e;rw[W.le]at this;simpa using this,λh=>(by cases h)⟩ (by omega) ?_)
  rintro k ρ S' ⟨l,c,o4,o5,o6,rfl,rfl,hl,hk,hcl⟩;refine⟨c,_,gh rfl,λhc=>?_,λhc=>?_⟩;·exact wz (x:=.m S.length) (S1:=S++[.lst (aN l)]) rfl ⟨l,rfl,rfl,KN W hl.len hl.a hl.b (hcl hc)⟩
  ·subst hc;refine bI (dD (x:=.v (.bl false)) (S1:=S++[.lst (aN l)]) rfl ?_);refine IY (ds:=jx 0 (g.map aQ)) (S1:=S++[.lst (aN l)]) (I:=λdon ρ S'=>∃(l':List Bool) (c:Bool) (o4 o5 o6:Option A),ρ=[some (.v (aK g)),some (.v (.lst (aN e))),some (.m S.length),some (.v (.bl c)),o4,o5,o6]/\S'=S++[.lst (aN l')]/\Vc n g e l'/\eX l'+(if c=true then 1 else 0)<=eX l/\(c=false->∀p<don.length,ClR w g l' p))
    rfl ⟨l,false,o4,o5,o6,rfl,rfl,hl,by simp,λ_ p hp=>absurd hp (Nat.not_lt_zero _)⟩ ?_ ?_
   ·rintro don d rest ρ S' hd ⟨l',c',p4,p5,p6,rfl,rfl,hl',hk',hc'⟩;obtain⟨x,hx,rfl⟩:=NP hd;rw[List.getElem?_map]at hx;obtain⟨r,hr,rfl⟩:=Option.map_eq_some_iff.mp hx;have hrm:r∈g:=List.mem_of_getElem? hr;have hz:r.length<=1000000:=by rw[W.lr r hrm];omega
    have hj:don.length<n:=(by rw[<-W.lg];exact(List.getElem?_eq_some_iff.mp hr).1);refine⟨[some (.v (aK g)),some (.v (.lst (aN e))),some (.m S.length),some (.v (.bl c')),some (.v (.int ((0+don.length:Nat):Int))),some (.v (aQ r)),p6],rfl,?_⟩;obtain⟨b,e1,e2⟩:=Tp (l:=l') (x:=((0+don.length:Nat):Int)) (by omega) (by rw[hl'.len];simpa using hj);have ej:((0+don.length:Nat):Int).toNat=don.length:=(by simp);rw[ej]at e2;have hlx:tE (aA b6 (eV 2) (eV 4)) [some (.v (aK g)),some (.v (.lst (aN e))),some (.m S.length),some (.v (.bl c')),some (.v (.int ((0+don.length:Nat):Int))),some (.v (aQ r)),p6] (S++[.lst (aN l')])=.ok b (S++[.lst (aN l')]):=
     gh (aD rfl rfl (by rw[jQ (ds:=aN l') kX,e1];rfl))
    cases b with
    |true=>
     refine CZ (b:=false) (S1:=S++[.lst (aN l')]) (by rw[jz,Mf hlx];rfl) ?_;refine Cb ⟨l',c',_,_,_,rfl,rfl,hl',hk',λhf p hp=>?_⟩;rw[List.length_append,List.length_singleton]at hp;by_cases hp2:p<don.length;·exact hc' hf p hp2
     ·intro hq;have:p=don.length:=by omega
      subst this;rw[show bh l' don.length=true from eY e2]at hq;cases hq
    |false=>
     have ha:=Y6 (r:=r) (l:=l') (S:=S) (x0:=some (.v (aK g))) (x1:=some (.v (.lst (aN e)))) (x3:=some (.v (.bl c'))) (x4:=some (.v (.int ((0+don.length:Nat):Int)))) (x6:=p6) (by rw[hl'.len];exact W.hi r hrm) hz;obtain⟨q,hqq,hq⟩:∃q:Bool,q=(r.map λx=>decide (0<=x)&&l'.getD x.toNat false).any id/\tE (au Qt (aa (fX [6] (cJ (eV 5)) (.nm 6) aL (og (aA tq (eV 6) (eC (.int 0))) (aA b6 (eV 2) (eV 6)))) ah)) [some (.v (aK g)),some (.v (.lst (aN e))),some (.m S.length),some (.v (.bl c')),some (.v (.int ((0+don.length:Nat):Int))),some (.v (aQ r)),p6] (S++[.lst (aN l')])=.ok q (S++[.lst (aN l')]):=
      ⟨_,rfl,gh (aW (ao ha rfl) (by rw[YB,G1];rfl))⟩
     refine CZ (b:=q) (S1:=S++[.lst (aN l')]) (by rw[jz,Y4 hlx,R.ak,if_pos rfl];exact hq) ?_;cases q with
     |false=>
      refine Cb ⟨l',c',_,_,_,rfl,rfl,hl',hk',λhf p hp=>?_⟩;rw[List.length_append,List.length_singleton]at hp;by_cases hp2:p<don.length;·exact hc' hf p hp2
      ·intro _ kk hkk h0;have:p=don.length:=by omega
       subst this;have hm:=NT W hr hkk;have hqq:=List.any_eq_false.mp hqq.symm;have:=hqq _ (List.mem_map.mpr ⟨_,hm,rfl⟩);rw[decide_eq_true h0,Bool.true_and]at this;show l'.getD _ false=false;simpa using this
     |true=>
      have e5:aN (l'.set don.length true)=(aN l').set don.length (.bl true):=(by unfold aN;rw[List.map_set]);refine bI (zy (ρ1:=[some (.v (aK g)),some (.v (.lst (aN e))),some (.m S.length),some (.v (.bl c')),some (.v (.int ((0+don.length:Nat):Int))),some (.v (aQ r)),p6]) (S1:=S++[.lst (aN (l'.set don.length true))]) ?_ ?_);·rw[Wv];show Rb _ (S++[.lst (aN l')]) (.v (.bl true)) (.m S.length) (.v (.int ((0+don.length:Nat):Int)))=_;rw[ND,kX,Rc (j:=don.length) ?_,Cc,e5];rw[show(aN l').length=n by simp[aN,hl'.len]];unfold ixN;simp;omega
      ·refine dD (x:=.v (.bl true)) (S1:=S++[.lst (aN (l'.set don.length true))]) rfl ⟨_,true,_,_,_,rfl,rfl,hl'.set hj ?_,?_,λhf=>(by cases hf)⟩;·obtain⟨b,hb,hbt⟩:=List.any_eq_true.mp hqq.symm;obtain⟨x,hx,rfl⟩:=List.mem_map.mp hb;have hbt:(decide (0<=x)&&l'.getD x.toNat false)=true:=hbt;rw[Bool.and_eq_true]at hbt;have h0:=of_decide_eq_true hbt.1;obtain⟨kk,_,ek⟩:=WM W hr hx;have:=hl'.b x.toNat (by have:=W.hi r hrm x hx;omega) hbt.2;rw[show((x.toNat:Nat):Int)=x by omega]at this;exact G3 (k:=kk) (by rw[ek];exact this)
       ·have:=E5 e2;have:eX l'<=eX l:=by omega
        simp;omega
   ·rintro ρ S' ⟨l',c',p4,p5,p6,rfl,rfl,hl',hk',hc'⟩;refine⟨eX l'+(if c'=true then 1 else 0),by simp at hk;omega,l',c',p4,p5,p6,rfl,rfl,hl',Nat.le_refl _,λhf p hp=>hc' hf p ?_⟩;rw[y5,List.length_map,W.lg];exact hp
 obtain⟨x,S',e1,l,rfl,rfl,hl⟩:=key;refine⟨l,?_,hl⟩;show MN S.length _=_;rw[e1,abM kX (Nat.le_refl _)];simp
section
variable {α:Type} [DecidableEq α]
def rp(l:List α)(a:α):List α:=if a∈l then l else l++[a]
def PM(acc l:List α):List α:=l.foldl rp acc
theorem RI{l:List α}{a x:α}:x∈rp l a↔x∈l\/x=a:=by unfold rp;split;rename_i h;exact⟨.inl,λh2=>h2.elim id λe=>e▸h⟩;·simp
theorem NW{l:List α}{a:α}(h:l.Nodup):(rp l a).Nodup:=by
 unfold rp;split;·exact h
 ·rename_i hn;refine List.nodup_append.mpr ⟨h,by simp,?_⟩;intro x hx y hy e;rw[List.mem_singleton.mp hy]at e;exact hn (e▸hx)
theorem RJ{l:List α}{a:α}:(rp l a).length<=l.length+1:=by unfold rp;split<;>simp
theorem NX:∀{l acc:List α}{x:α},x∈PM acc l↔x∈acc\/x∈l|[],acc,x=>by simp[PM]|a::l,acc,x=>by show x∈PM (rp acc a) l↔_;rw[NX,RI,List.mem_cons,or_assoc]
theorem RK:∀{l acc:List α},acc.Nodup->(PM acc l).Nodup|[],acc,h=>h|a::l,acc,h=>RK (l:=l) (NW h)
theorem NY:∀{l acc:List α},(PM acc l).length<=acc.length+l.length|[],acc=>Nat.le_refl _|a::l,acc=>by have h1:=NY (l:=l) (acc:=rp acc a);have h2:=RJ (l:=acc) (a:=a);show(PM (rp acc a) l).length<=_;rw[List.length_cons];omega
abbrev dd(l:List α):List α:=PM [] l
theorem jo{l:List α}{x:α}:x∈dd l↔x∈l:=by rw[NX];simp
theorem C3{l:List α}:(dd l).Nodup:=RK .nil
theorem Fb{l:List α}:(dd l).length<=l.length:=by have:=NY (l:=l) (acc:=[]);simpa using this
theorem C4:∀{a b:List α},a.Nodup->(∀x∈a,x∈b)->a.length<=b.length|[],b,_,_=>Nat.zero_le _|x::a,b,h,hs=>by have h':=List.nodup_cons.mp h;have hx:=hs x (by simp);have:=C4 (b:=b.erase x) h'.2 λy hy=>(List.mem_erase_of_ne (λe=>h'.1 (by rw[<-e];exact hy))).mpr (hs y (by simp[hy]));rw[List.length_erase_of_mem hx]at this;have hb:0<b.length:=List.length_pos_of_mem hx;rw[List.length_cons];omega
variable {kd:Xd}{mk:α->D}{g:Tg}{t:TM}{m:EM}{ρ:Env}
theorem KO:∀{l acc:List α},acc.length<=(PM acc l).length
 |[],acc=>Nat.le_refl _|a::l,acc=>by
  have h1:=KO (l:=l) (acc:=rp acc a);have h2:acc.length<=(rp acc a).length:=by unfold rp;split<;>simp
  exact Nat.le_trans h2 h1
theorem RL{N:Nat}(hadd:∀(acc:List α) (a:α),acc.length<N->Ib (.x kd (acc.map mk) []) (mk a)=some (.x kd ((rp acc a).map mk) []))(S:ag)
  (he:∀(a:α) (Z:ag),∃ρ1,g.put (.v (mk a)) ρ=some ρ1/\t ρ1 Z=.ok true Z/\m ρ1 Z=.ok (.v (mk a)) Z) :
  ∀(l acc:List α),(PM acc l).length<N->To g t m ρ S.length (l.map mk) (S++[.x kd (acc.map mk) []])=.ok () (S++[.x kd ((PM acc l).map mk) []])
 |[],acc,_=>rfl|a::l,acc,h=>by obtain⟨ρ1,h1,h2,h3⟩:=he a (S++[.x kd (acc.map mk) []]);have h4:=KO (l:=a::l) (acc:=acc);rw[List.map_cons,To];simp only[h1,h2,h3,kX,hadd acc a (by omega)];rw[if_pos (by simp),Cc];exact RL hadd S he l (rp acc a) h
theorem KP{N:Nat}{own:List Nat}{mi:IM}{l:List α}{S:ag}(hadd:∀(acc:List α) (a:α),acc.length<N->Ib (.x kd (acc.map mk) []) (mk a)=some (.x kd ((rp acc a).map mk) []))
  (hi:mi ρ S=.ok (l.map mk) S) (he:∀(a:α) (Z:ag),∃ρ1,g.put (.v (mk a)) (aT ρ own)=some ρ1/\t ρ1 Z=.ok true Z/\m ρ1 Z=.ok (.v (mk a)) Z) (hl:(dd l).length<N) :
  zx kd own mi g t m ρ S=.ok (.m S.length) (S++[.x kd ((dd l).map mk) []]):=by
 unfold zx;rw[hi,R.ak];have:=RL hadd S he l [] hl;rw[List.map_nil]at this;rw[this];simp only;rw[if_pos (by simp)]
end
theorem Y8(acc:List Int)(a:Int)(h:acc.length<60):Ib (.x .si (acc.map D.int) []) (.int a)=some (.x .si ((rp acc a).map D.int) []):=by unfold Ib;simp only[wc,if_pos h];unfold rp;by_cases hm:a∈acc;rw[if_pos (by simpa using hm),if_pos hm];·rw[if_neg (by simpa using hm),if_neg hm,List.map_append];rfl
def bj(p:Int×List Int):D:=.tup [.int p.1,.tup (p.2.map D.int)]
theorem vk(p:Int×List Int):pairD (bj p)=some p:=by unfold bj pairD;simp only[wc];rfl
theorem Y9(acc:List (Int×List Int))(a:Int×List Int)(h:acc.length<3900):Ib (.x .sk (acc.map bj) []) (bj a)=some (.x .sk ((rp acc a).map bj) []):=by
 have e:bj a=.tup [.int a.1,.tup (a.2.map D.int)]:=rfl;have hp:pairD (.tup [.int a.1,.tup (a.2.map D.int)])=some a:=vk a;rw[e];unfold Ib;simp only[hp,List.length_map,if_pos h];have ha:((acc.map bj).any λk=>decide (pairD k=some a))=decide (a∈acc):=by rw[List.any_map];rw[Bool.eq_iff_iff];simp only[List.any_eq_true,Function.comp,decide_eq_true_eq,vk,Option.some.injEq];exact⟨λ⟨x,hx,e⟩=>e▸hx,λh=>⟨a,h,rfl⟩⟩
 rw[ha];unfold rp;by_cases hm:a∈acc;rw[if_pos (by simpa using hm),if_pos hm];·rw[if_neg (by simpa using hm),if_neg hm,List.map_append];rfl
theorem code_inj{B:Int}:∀{a b:List Int},a.length=b.length->TS.Bd B a->TS.Bd B b->TS.code B a=TS.code B b->a=b
 |[],[],_,_,_,_=>rfl|[],_::_,h,_,_,_=>by cases h|_::_,[],h,_,_,_=>by cases h|x::a,y::b,h,ha,hb,e=>by
  have hl:a.length=b.length:=Nat.succ.inj h;have hxy:x=y:=by rcases Int.lt_trichotomy x y with h1|h1|h1;have:=TS.code_lt hl ha.tail hb.tail h1;omega;exact h1;·have:=TS.code_lt hl.symm hb.tail ha.tail h1;omega
  subst hxy;have h2:=TS.code_same (B:=B) (d:=x) hl;have h3:=TS.code_same (B:=B) (d:=x) hl.symm;have:TS.code B a=TS.code B b:=by have n1:¬TS.code B a<TS.code B b:=λz=>(by have:=h2.mpr z;omega);have n2:¬TS.code B b<TS.code B a:=λz=>(by have:=h3.mpr z;omega);omega
  rw[code_inj hl ha.tail hb.tail this]
theorem C5{α:Type}{rk:α->Int}{a:α}:∀{l:List α},l.Pairwise (λx y=>rk x<=rk y)->(Dk rk a l).Pairwise λx y=>rk x<=rk y
 |[],_=>by simp[Dk]|b::r,h=>by
  have h':=List.pairwise_cons.mp h;unfold Dk;split;·rename_i hab;refine List.pairwise_cons.mpr ⟨λc hc=>?_,h⟩;rcases List.mem_cons.mp hc with rfl|hc;exact hab;·have:=h'.1 c hc;omega
  ·rename_i hab;refine List.pairwise_cons.mpr ⟨λc hc=>?_,C5 h'.2⟩;rcases List.mem_cons.mp (BS.mem_iff.mp hc) with rfl|hc;omega;·exact h'.1 c hc
theorem Bq{α:Type}{rk:α->Int}:∀{l:List α},(fc rk l).Pairwise λx y=>rk x<=rk y|[]=>.nil|a::l=>C5 (Bq (l:=l))
theorem Fc{α:Type}{rk:α->Int}:∀{l:List α},l.Pairwise (λx y=>rk x<rk y)->jy rk l=true|[],_=>rfl|[_],_=>rfl|a::b::r,h=>by have h':=List.pairwise_cons.mp h;unfold jy;rw[Fc h'.2,decide_eq_true (h'.1 b (by simp))];rfl
theorem KQ{α:Type}{rk:α->Int}{l:List α}(nd:l.Nodup)(inj:∀x∈l,∀y∈l,rk x=rk y->x=y):jy rk (fc rk l)=true:=by refine Fc ?_;have h1:=Bq (rk:=rk) (l:=l);have h2:(fc rk l).Nodup:=eB.nodup_iff.mpr nd;have h3:(fc rk l).Pairwise λx y=>rk x<=rk y/\x≠y:=h1.and h2;refine h3.imp_of_mem λ{x y} hx hy h=>?_;have:rk x≠rk y:=λe=>h.2 (inj x (eB.mem_iff.mp hx) y (eB.mem_iff.mp hy) e);omega
structure Fd (w:Nat) (p:Int×List Int):Prop where
 len:p.2.length=w
 bd:∀x∈p.1::p.2,-1<=x/\x<BB-1
theorem NZ(p:Int×List Int):FQ (bj p)=g8 BB p:=by unfold FQ;rw[vk]
theorem Pk{w:Nat}{p q:Int×List Int}(hp:Fd w p)(hq:Fd w q)(e:g8 BB p=g8 BB q):p=q:=by
 have bd:∀{p:Int×List Int},Fd w p->TS.Bd BB ((p.1::p.2).map (· + 1)):=λ{p} h m hm=>by obtain⟨x,hx,rfl⟩:=List.mem_map.mp hm;have:=h.bd x hx;show 0<=x+1/\x+1<BB;omega
 have h:=code_inj (B:=BB) (a:=(p.1::p.2).map (· + 1)) (b:=(q.1::q.2).map (· + 1)) (by simp[hp.len,hq.len]) (bd hp) (bd hq) e;have inj:∀{a b:List Int},a.map (· + 1)=b.map (· + 1)->a=b:=by
  intro a;induction a with
  |nil=>intro b h;cases b with
   |nil=>rfl|cons _ _=>cases h
  |cons x a ih=>intro b h;cases b with
   |nil=>cases h|cons y b =>simp only[List.map_cons,List.cons.injEq]at h;rw[ih h.2,show x=y by omega]
 have:=inj h;obtain⟨a,l⟩:=p;obtain⟨b,m⟩:=q;simp only[List.cons.injEq]at this;rw[this.1,this.2]
theorem N1{w n:Nat}{ps:List (Int×List Int)}{S:ag}(nd:ps.Nodup)(ok:∀p∈ps,Fd w p)(h:S[n]?=some (.x .sk (ps.map bj) [])) :Aa [.m n] S=some (.v (.lst ((fc (g8 BB) ps).map bj))):=by
 have em:(fc (g8 BB) ps).map bj=fc FQ (ps.map bj):=y6 λx _=>NZ x;have es:jy FQ (fc FQ (ps.map bj))=true:=by rw[<-em,tU λx _=>NZ x];exact KQ nd λx hx y hy e=>Pk (ok x hx) (ok y hy) e
 have ef:(ps.map bj).all (LQ (tV (ps.map bj)))=true:=by
  rw[List.all_eq_true];intro d hd;obtain⟨p,hp,rfl⟩:=List.mem_map.mp hd;have el:tV (ps.map bj)=w:=by
   cases ps with
   |nil=>cases hp|cons q r =>show((pairD (bj q)).map λp=>p.2.length).getD 0=w;rw[vk];exact(ok q (by simp)).len
  rw[el];unfold LQ;rw[vk];simp only[Bool.and_eq_true,decide_eq_true_eq,List.all_eq_true];exact⟨(ok p hp).len,λx hx=>(ok p hp).bd x hx⟩
 unfold Aa;simp only[h];rw[if_pos ⟨ef,es⟩,em]
theorem Za{n:Nat}{l:List Int}{S:ag}(hl:l.length<64)(h:S[n]?=some (.x .si (l.map D.int) [])):J7 [.m n] S=some (.v (.int (l.length:Nat))):=by unfold J7;simp only[h,List.length_map,if_pos hl]
section
variable {α:Type}{mk:α->D}{nk:α->NK}
structure Dx (mk:α->D) (nk:α->NK) (a:α):Prop where
 key:Ay (.v (mk a))=some (nk a)
 kn:gN (mk a)=some (nk a)
theorem wC:∀{ks:List α}{xs:List D}{j:Nat}{a:α},xs.length=ks.length->(∀b∈ks,Dx mk nk b)->(∀b∈ks,∀c∈ks,nk b=nk c->b=c)->ks.Nodup->ks[j]?=some a->lT (ks.map mk) xs (nk a)=xs[j]?
 |[],xs,j,a,_,_,_,_,h=>by simp at h|k::ks,[],j,a,hl,_,_,_,_=>by cases hl|k::ks,x::xs,0,a,hl,hf,hi,nd,h=>by
  have e:k=a:=by simpa using h
  subst e;unfold lT;simp[(hf k (by simp)).kn]
 |k::ks,x::xs,j+1,a,hl,hf,hi,nd,h=>by
  have h:ks[j]?=some a:=by simpa using h
  have ha:a∈ks:=List.mem_of_getElem? h;have ne:¬nk k=nk a:=λe=>(List.nodup_cons.mp nd).1 (hi k (by simp) a (by simp[ha]) e▸ha);have ih:=wC (xs:=xs) (j:=j) (a:=a) (Nat.succ.inj hl) (λb hb=>hf b (by simp[hb])) (λb hb c hc=>hi b (by simp[hb]) c (by simp[hc])) (List.nodup_cons.mp nd).2 h;unfold lT at ih ⊢;rw[List.map_cons,List.zip_cons_cons,List.find?_cons];rw[(hf k (by simp)).kn,decide_eq_false (by simpa using ne)];simpa using ih
theorem Pl{ks:List α}{xs:List D}{a:α}(hf:∀b∈ks,Dx mk nk b)(hi:∀b∈ks,nk b=nk a->b=a)(h:a∉ks):lT (ks.map mk) xs (nk a)=none:=by unfold lT;rw[Option.map_eq_none_iff,List.find?_eq_none];intro p hp;obtain⟨b,hb,e⟩:=List.mem_map.mp (List.of_mem_zip hp).1;rw[<-e,(hf b hb).kn];simp only[Option.some.injEq,decide_eq_true_eq];exactλe2=>h (hi b hb e2▸hb)
theorem Ci{ks:List α}{xs:List D}{a:α}{d:D}(hf:∀b∈ks,Dx mk nk b)(hi:∀b∈ks,nk b=nk a->b=a)(h:a∉ks):l5 (ks.map mk) xs (mk a) d (nk a)=((ks++[a]).map mk,xs++[d]):=by unfold l5;rw[Pl hf hi h,List.map_append];rfl
def idxs(n:Nat):List D:=(List.range n).map λi=>D.int (i:Nat)
theorem Br{n:Nat}:(idxs n).length=n:=by simp[idxs]
theorem Cj{n:Nat}:idxs (n+1)=idxs n++[.int (n:Nat)]:=by simp[idxs,List.range_succ]
theorem DP{n j:Nat}(h:j<n):(idxs n)[j]?=some (.int (j:Nat)):=by simp[idxs,h]
theorem RM{ρ:Env}{S:ag}:∀(L A:List α),A.length+L.length<4000->(∀b∈A++L,Dx mk nk b)->(∀b∈A++L,∀c∈A++L,nk b=nk c->b=c)->(A++L).Nodup ->
  (∀(i:Int) (d:D),∃ρ1,(Tg.tp [.nm 9,.nm 10]).put (.v (.tup [.int i,d])) ρ=some ρ1/\ρ1[9]?=some (some (.v (.int i)))/\ρ1[10]?=some (some (.v d))) ->
  QY (.tp [.nm 9,.nm 10]) aL (eV 10) (eV 9) ρ S.length (jx A.length (L.map mk)) (S++[.x .dn (A.map mk) (idxs A.length)])=.ok () (S++[.x .dn ((A++L).map mk) (idxs (A++L).length)])
 |[],A,_,_,_,_,_=>by rw[List.append_nil];rfl|b::L,A,hl,hf,hi,nd,hp=>by
  obtain⟨ρ1,e1,e2,e3⟩:=hp (A.length:Nat) (mk b);have hb:b∉A:=λh=>by have:=(List.nodup_append.mp nd).2.2 b h b (by simp);exact this rfl
  have put:=Ci (mk:=mk) (nk:=nk) (ks:=A) (xs:=idxs A.length) (a:=b) (d:=.int (A.length:Nat)) (λc hc=>hf c (by simp[hc])) (λc hc=>hi c (by simp[hc]) b (by simp)) hb;have ih:=RM (S:=S) L (A++[b]) (by simp at hl ⊢;omega) (by simpa using hf) (by simpa using hi) (by simpa using nd) hp;rw[List.length_cons]at hl;rw[List.map_cons,jx,QY];simp only[e1,show∀Z,aL ρ1 Z=.ok true Z fromλ_=>rfl,rX e3,rX e2,kX];rw[if_pos ⟨by simp,by simp[cE];omega⟩];simp only[(hf b (by simp)).key,put,Cc];rw[<-Cj];rw[List.append_assoc]at ih;simpa using ih
theorem RN{e:EM}{ρ:Env}{S S1:ag}{K:List α}(he:e ρ S=.ok (.v (.lst (K.map mk))) S1)(hl:K.length<4000)(hf:∀b∈K,Dx mk nk b)(hi:∀b∈K,∀c∈K,nk b=nk c->b=c)(nd:K.Nodup)
  (hp:∀(i:Int) (d:D),∃ρ1,(Tg.tp [.nm 9,.nm 10]).put (.v (.tup [.int i,d])) (aT ρ [9,10])=some ρ1/\ρ1[9]?=some (some (.v (.int i)))/\ρ1[10]?=some (some (.v d))) :
  GN [9,10] (ib e) (.tp [.nm 9,.nm 10]) aL (eV 10) (eV 9) ρ S=.ok (.m S1.length) (S1++[.x .dn (K.map mk) (idxs K.length)]):=by
 have h:=RM (ρ:=aT ρ [9,10]) (S:=S1) K ([]:List α) (by simpa using hl) (by simpa using hf) (by simpa using hi) (by simpa using nd) hp;unfold GN;have hi:ib e ρ S=.ok (jx 0 (K.map mk)) S1:=by unfold ib;rw[he];rfl
 rw[hi,R.ak];have h:QY (.tp [.nm 9,.nm 10]) aL (eV 10) (eV 9) (aT ρ [9,10]) S1.length (jx 0 (K.map mk)) (S1++[.x .dn [] []])=.ok () (S1++[.x .dn (K.map mk) (idxs K.length)]):=h;rw[h];simp only;rw[if_pos (by simp)]
theorem Ve{n j:Nat}{Z:ag}{K:List α}{a:α}(h:Z[n]?=some (.x .dn (K.map mk) (idxs K.length)))(hf:∀b∈K,Dx mk nk b)(hi:∀b∈K,∀c∈K,nk b=nk c->b=c)(nd:K.Nodup)(hj:K[j]?=some a) :xN (.m n) (.v (mk a)) Z=.ok (.v (.int (j:Nat))) Z:=by
 have lt:j<K.length:=(List.getElem?_eq_some_iff.mp hj).1;have e1:jO (.m n) Z=none:=by unfold jO;simp only[h]
 have e2:AS (.m n) Z=some (K.map mk,idxs K.length):=by unfold AS;simp only[h]
 unfold xN;rw[e1,e2];simp only[(hf a (List.mem_of_getElem? hj)).key];rw[wC (by rw[Br]) hf hi nd hj,DP lt]
end
def RO(p:Int×List Int):NK:=.tup [.num p.1,.tup (p.2.map .num)]
theorem Fe:∀l:List Int,zu (l.map D.int)=some (l.map .num)|[]=>rfl|x::l=>by rw[List.map_cons,zu,Fe l];rfl
theorem C6:∀l:List Int,NestedKey.depthAll (l.map .num)=0|[]=>rfl|x::l=>by rw[List.map_cons,NestedKey.depthAll,C6 l];rfl
theorem An(p:Int×List Int):Dx bj RO p:=by
 have h:gN (bj p)=some (RO p):=by unfold bj gN;rw[zu,zu,zu];rw[show gN (.tup (p.2.map D.int))=some (.tup (p.2.map .num)) by rw[gN,Fe];rfl];rfl
 refine⟨?_,h⟩;have hd:(RO p).depth<=8:=by unfold RO;simp only[NestedKey.depth,NestedKey.depthAll,C6];omega
 have e:bj p=.tup [.int p.1,.tup (p.2.map D.int)]:=rfl;unfold Ay;rw[e]at h ⊢;simp only[h,if_pos hd]
theorem N2:∀{a b:List Int},a.map NestedKey.num=b.map NestedKey.num->a=b|[],[],_=>rfl|[],_::_,h=>by cases h|_::_,[],h=>by cases h|x::a,y::b,h=>by simp only[List.map_cons,List.cons.injEq,NestedKey.num.injEq]at h;rw[h.1,N2 h.2]
theorem Bs{p q:Int×List Int}(h:RO p=RO q):p=q:=by obtain⟨a,l⟩:=p;obtain⟨b,m⟩:=q;unfold RO at h;simp only[NestedKey.tup.injEq,List.cons.injEq,NestedKey.num.injEq,and_true]at h;rw[h.1,N2 h.2]
def Mj:Nat->List (List Int)->List (Nat×List Int)|_,[]=>[]|k,r::g=>(k,r)::Mj (k+1) g
def mkE(p:Nat×List Int):D:=.tup [.int (p.1:Nat),aQ p.2]
theorem N3:∀(k:Nat) (g:List (List Int)),jx k (g.map aQ)=(Mj k g).map mkE|_,[]=>rfl|k,r::g=>by rw[List.map_cons,jx,Mj,List.map_cons,N3 (k+1) g];rfl
theorem Je:∀{k:Nat}{g:List (List Int)}{p:Nat×List Int},p∈Mj k g->k<=p.1/\p.1<k+g.length/\p.2∈g
 |_,[],_,h=>nomatch h
 |k,r::g,p,h=>by
  rcases List.mem_cons.mp h with rfl|h;·exact⟨Nat.le_refl _,by simp,by simp⟩
  ·obtain⟨h1,h2,h3⟩:=Je h;exact⟨by omega,by rw[List.length_cons];omega,by simp[h3]⟩
theorem Jf:∀{k:Nat}{g:List (List Int)},(Mj k g).length=g.length|_,[]=>rfl|k,r::g=>by rw[Mj,List.length_cons,List.length_cons,Jf]
theorem N4:∀{k:Nat}{g:List (List Int)}{i:Nat},k<=i->i<k+g.length->∃r,(i,r)∈Mj k g
 |k,[],i,h1,h2=>by simp at h2;omega|k,r::g,i,h1,h2=>by
  by_cases e:i=k;·exact⟨r,by rw[e];simp[Mj]⟩
  ·rw[List.length_cons]at h2;obtain⟨r',h⟩:=N4 (k:=k+1) (g:=g) (i:=i) (by omega) (by omega);exact⟨r',by simp[Mj,h]⟩
def keyOf(nums:List Int)(p:Nat×List Int):Int×List Int:=(nums.getD p.1 0,p.2.map λx=>if 0<=x then nums.getD x.toNat 0 else -1)
structure jW (n:Nat) (nums:List Int):Prop where
 len:nums.length=n
 lo:∀x∈nums,0<=x
 hi:∀x∈nums,x<n+2
theorem jW.at_{n:Nat}{nums:List Int}(h:jW n nums){i:Nat}(hi:i<n):nums.getD i 0∈nums:=by
 have:i<nums.length:=by rw[h.len];exact hi
 rw[List.getD_eq_getElem?_getD,List.getElem?_eq_getElem this];exact List.getElem_mem this
theorem jW.at2{n:Nat}{nums:List Int}(h:jW n nums){i:Nat}(hi:i<n):atI (nums.map D.int) (i:Nat)=some (.int (nums.getD i 0)):=by
 have:i<nums.length:=by rw[h.len];exact hi
 refine atI_nat ?_;rw[List.getElem?_map,List.getD_eq_getElem?_getD,List.getElem?_eq_getElem this];rfl
theorem RP{w n:Nat}{g:List (List Int)}{e:List Bool}(W:k7 w n g e)(hn:n<=2600){nums:List Int}(N:jW n nums){p:Nat×List Int}(hp:p∈Mj 0 g):Fd w (keyOf nums p):=by
 obtain⟨_,h2,h3⟩:=Je hp;have bd:∀{i:Nat},i<n->-1<=nums.getD i 0/\nums.getD i 0<BB-1:=λhi=>by have m:=N.at_ hi;have:=N.lo _ m;have:=N.hi _ m;have:BB=1000000:=rfl;omega
 refine⟨by simp[keyOf,W.lr _ h3],?_⟩;intro x hx;rcases List.mem_cons.mp hx with rfl|hx;·exact bd (by rw[W.lg]at h2;omega)
 ·obtain⟨y,hy,rfl⟩:=List.mem_map.mp hx;by_cases h:0<=y;rw[if_pos h];exact bd (by have:=W.hi _ h3 y hy;omega);·rw[if_neg h];have:BB=1000000:=rfl;omega
section
variable {w n:Nat}{g:List (List Int)}{e:List Bool}
abbrev N5(g:List (List Int))(e:List Bool)(nums:List Int)(m:Int)(o4 o5 o6 o7 o8 o9 o10 o11:Option A):Env:=[some (.v (aK g)),some (.v (.lst (aN e))),some (.v (.lst (nums.map .int))),some (.v (.int m)),o4,o5,o6,o7,o8,o9,o10,o11]
theorem Vf(W:k7 w n g e)(hn:n<=2600)(hw:w<=1000){nums:List Int}(N:jW n nums){m:Int}{o4 o5 o6 o7 o8 o9 o10 o11:Option A}{Z:ag} :fX [7,8] (ib (eV 0)) (.tp [.nm 7,.nm 8]) aL (mK (aa (aA b6 (eV 2) (eV 7)) (aa (au rS (aa (fX [11] (cJ (eV 8)) (.nm 11) aL (xG (tE (aA tq (eV 11) (eC (.int 0)))) (aA b6 (eV 2) (eV 11)) (xt jl (eC (.int 1))))) ah)) ah)))
   (N5 g e nums m o4 o5 o6 o7 o8 o9 o10 o11) Z=.ok (.v (.lst (((Mj 0 g).map (keyOf nums)).map bj))) Z:=by
 rw[List.map_map];refine bP (Mj 0 g) mkE (λp=>bj (keyOf nums p)) ?_ (by rw[Jf,W.lg];omega) ?_;·show ib (eV 0) _ Z=_;rw[<-N3];rfl
 ·intro p hp Z;obtain⟨_,h2,h3⟩:=Je hp;refine⟨N5 g e nums m o4 o5 o6 (some (.v (.int (p.1:Nat)))) (some (.v (aQ p.2))) o9 o10 o11,rfl,rfl,?_⟩;have hin:fX [11] (cJ (eV 8)) (.nm 11) aL (xG (tE (aA tq (eV 11) (eC (.int 0)))) (aA b6 (eV 2) (eV 11)) (xt jl (eC (.int 1)))) (N5 g e nums m o4 o5 o6 (some (.v (.int (p.1:Nat)))) (some (.v (aQ p.2))) o9 o10 o11) Z=.ok (.v (.lst (p.2.map λx=>D.int (if 0<=x then nums.getD x.toNat 0 else -1)))) Z:=by refine bP p.2 D.int (λx=>D.int (if 0<=x then nums.getD x.toNat 0 else -1)) (dM rfl) (by rw[W.lr _ h3];omega) λa ha Z=>⟨N5 g e nums m o4 o5 o6 (some (.v (.int (p.1:Nat)))) (some (.v (aQ p.2))) o9 o10 (some (.v (.int a))),rfl,rfl,?_⟩;by_cases h:0<=a;rw[if_pos h];refine Bl (S1:=Z) (gh (aD rfl rfl (by rw[mS,decide_eq_true h]))) (aD rfl rfl ?_);rw[fG,show a=((a.toNat:Nat):Int) by omega,N.at2 (by have:=W.hi _ h3 a ha;omega)];rfl;·rw[if_neg h];exact yn (S1:=Z) (gh (aD rfl rfl (by rw[mS,decide_eq_false h]))) rfl
  refine ph (ao (aD (w:=.v (.int (nums.getD p.1 0))) rfl rfl ?_) (ao (aW (ao hin rfl) (IS)) rfl)) ?_ (by simp);rw[fG,N.at2 (by rw[W.lg]at h2;omega)];rfl;·simp[bj,keyOf,List.map_map,asD]
end
def Li:List (Int×List Int)->Int×List Int->Nat|[],_=>0|q::r,p=>if q=p then 0 else Li r p+1
theorem yw:∀{l:List (Int×List Int)}{p:Int×List Int},p∈l->l[Li l p]?=some p
 |[],p,h=>nomatch h
 |q::r,p,h=>by
  unfold Li;by_cases e:q=p;·rw[if_pos e,e];rfl
  ·rw[if_neg e];rcases List.mem_cons.mp h with h|h;exact absurd h.symm e;·simpa using yw h
section
variable {w n:Nat}{g:List (List Int)}{e:List Bool}
abbrev bQ(g:List (List Int))(nums:List Int):List (Int×List Int):=(Mj 0 g).map (keyOf nums)
abbrev bK(g:List (List Int))(nums:List Int):List (Int×List Int):=fc (g8 BB) (dd (bQ g nums))
abbrev tD(g:List (List Int))(nums:List Int):List Int:=(bQ g nums).map λp=>((Li (bK g nums) p:Nat):Int)
theorem ou{nums:List Int}{p:Int×List Int}:p∈bK g nums↔p∈bQ g nums:=by rw[eB.mem_iff,jo]
theorem Bt{nums:List Int}:(bK g nums).Nodup:=eB.nodup_iff.mpr C3
theorem ow{nums:List Int}:(bK g nums).length=(dd (bQ g nums)).length:=eB.length_eq
theorem oy{nums:List Int}:(bQ g nums).length=g.length:=by rw[List.length_map,Jf]
theorem Zb{nums:List Int}{p:Int×List Int}(h:p∈bQ g nums):Li (bK g nums) p<(bK g nums).length:=
 (List.getElem?_eq_some_iff.mp (yw (ou.mpr h))).1
theorem Jg(W:k7 w n g e){nums:List Int}:jW n (tD g nums):=by refine⟨by rw[List.length_map,oy,W.lg],λx hx=>?_,λx hx=>?_⟩;obtain⟨p,_,rfl⟩:=List.mem_map.mp hx;omega;·obtain⟨p,hp,rfl⟩:=List.mem_map.mp hx;have h1:=Zb hp;have h2:(dd (bQ g nums)).length<=(bQ g nums).length:=Fb;rw[ow]at h1;rw[oy,W.lg]at h2;omega
theorem G4(W:k7 w n g e){nums:List Int}(N:jW n nums):(dd nums).length<=(dd (bQ g nums)).length:=by
 have:=C4 (a:=dd nums) (b:=(dd (bQ g nums)).map Prod.fst) C3 λx hx=>by rw[jo]at hx;obtain⟨i,hi⟩:=List.mem_iff_getElem?.mp hx;have lt:=(List.getElem?_eq_some_iff.mp hi).1;obtain⟨r,hr⟩:=N4 (k:=0) (g:=g) (i:=i) (by omega) (by rw[W.lg,<-N.len];omega);refine List.mem_map.mpr ⟨keyOf nums (i,r),jo.mpr (List.mem_map.mpr ⟨_,hr,rfl⟩),?_⟩;show nums.getD i 0=x;rw[List.getD_eq_getElem?_getD,hi];rfl
 rwa[List.length_map]at this
theorem Ff{nums:List Int}:(dd (tD g nums)).length=(dd (bQ g nums)).length:=by
 refine Nat.le_antisymm ?_ ?_
 ·have:=C4 (a:=dd (tD g nums)) (b:=(dd (bQ g nums)).map λp=>((Li (bK g nums) p:Nat):Int)) C3 λx hx=>by rw[jo]at hx;obtain⟨p,hp,rfl⟩:=List.mem_map.mp hx;exact List.mem_map.mpr ⟨p,jo.mpr hp,rfl⟩
  rwa[List.length_map]at this
 ·have nd:((dd (bQ g nums)).map λp=>((Li (bK g nums) p:Nat):Int)).Nodup:=by refine List.pairwise_map.mpr ((C3 (l:=bQ g nums)).imp_of_mem λ{a b} ha hb hne=>?_);intro h;have h:Li (bK g nums) a=Li (bK g nums) b:=(by omega);have h1:=yw (ou.mpr (jo.mp ha));have h2:=yw (ou.mpr (jo.mp hb));rw[h,h2]at h1;exact hne (Option.some.inj h1).symm
  have:=C4 (b:=dd (tD g nums)) nd λx hx=>by obtain⟨p,hp,rfl⟩:=List.mem_map.mp hx;exact jo.mpr (List.mem_map.mpr ⟨p,jo.mp hp,rfl⟩)
  rwa[List.length_map]at this
end
structure C7 (n:Nat) (g:List (List Int)) (e:List Bool) (nums:List Int):Prop where
 iff:∀p q:Nat,p<n->q<n->(nums.getD p 0=nums.getD q 0↔iM g e (p:Nat)=iM g e (q:Nat))
structure Ml (n:Nat) (g:List (List Int)) (e:List Bool) (nums:List Int):Prop where
 a:∀p q:Nat,p<n->q<n->iM g e (p:Nat)=iM g e (q:Nat)->nums.getD p 0=nums.getD q 0
 b:∀p q:Nat,p<n->q<n->nums.getD p 0=nums.getD q 0->tA e (p:Nat)=tA e (q:Nat)
 lo:∀x∈nums,0<=x
theorem N6{nums:List Int}(h:∀x∈nums,0<=x)(i:Nat):0<=nums.getD i 0:=by
 cases q:nums[i]? with
 |none=>rw[Bn q];omega|some x=>rw[eY q];exact h x (List.mem_of_getElem? q)
theorem Vg{α β:Type}[DecidableEq α][DecidableEq β]{l:List α}{m:List β}{f:α->β}(nm:m.Nodup)(sur:∀y∈m,∃a∈l,f a=y)(hl:l.length<=m.length){a b:α}(ha:a∈l)(hb:b∈l)(e:f a=f b):a=b:=by
 refine Classical.byContradiction λne=>?_;have h:=C4 (b:=(l.erase b).map f) nm λy hy=>by obtain⟨c,hc,ec⟩:=sur y hy;by_cases hcb:c=b;exact List.mem_map.mpr ⟨a,(List.mem_erase_of_ne ne).mpr ha,by rw[e,<-hcb,ec]⟩;·exact List.mem_map.mpr ⟨c,(List.mem_erase_of_ne hcb).mpr hc,ec⟩
 rw[List.length_map,List.length_erase_of_mem hb]at h;have:=List.length_pos_of_mem hb;omega
theorem N7:∀{k:Nat}{g:List (List Int)}{i:Nat}{r:List Int},g[i]?=some r->(Mj k g)[i]?=some (k+i,r)
 |k,[],i,r,h=>by simp at h|k,q::g,0,r,h=>by
  have:q=r:=by simpa using h
  rw[this];rfl
 |k,q::g,i+1,r,h=>by
  have h:g[i]?=some r:=by simpa using h
  rw[Mj,List.getElem?_cons_succ,N7 h,show k+1+i=k+(i+1) by omega]
def F6(g:List (List Int))(nums:List Int)(p:Nat):Int×List Int:=keyOf nums (p,g.getD p [])
def nkN(g:List (List Int))(nums:List Int)(p k:Nat):Int:=if 0<=gG g (p:Nat) k then nums.getD (gG g (p:Nat) k).toNat 0 else -1
section
variable {w n:Nat}{g:List (List Int)}{e:List Bool}{nums:List Int}
theorem Fg(W:k7 w n g e){p:Nat}(hp:p<n):(bQ g nums)[p]?=some (F6 g nums p):=by
 have hl:p<g.length:=by rw[W.lg];exact hp
 have h:=N7 (k:=0) (List.getElem?_eq_getElem hl);rw[List.getElem?_map,h,Option.map_some,Nat.zero_add];unfold F6;rw[eY (List.getElem?_eq_getElem hl)]
theorem zf(W:k7 w n g e){p:Nat}(hp:p<n):F6 g nums p∈bQ g nums:=List.mem_of_getElem? (Fg W hp)
theorem DQ(W:k7 w n g e){p q:Nat}(hp:p<n)(hq:q<n):F6 g nums p=F6 g nums q↔nums.getD p 0=nums.getD q 0/\∀k<w,nkN g nums p k=nkN g nums q k:=by
 have row:∀{p:Nat},p<n->(g.getD p []).map (λx=>if 0<=x then nums.getD x.toNat 0 else -1)=(List.range w).map (nkN g nums p):=λ{p} hp=>by
  have hl:p<g.length:=by rw[W.lg];exact hp
  have e1:g.getD p []=g[p]:=eY (List.getElem?_eq_getElem hl);have lr:=W.lr _ (List.getElem_mem hl);refine List.ext_getElem (by rw[e1,List.length_map,List.length_map,List.length_range,lr]) λk h1 h2=>?_;have hk:k<w:=by simpa using h2
  simp only[List.getElem_map,List.getElem_range];have:gG g (p:Nat) k=(g.getD p [])[k]'(by rw[e1,lr];exact hk):=by unfold gG;rw[if_pos (by omega),Int.toNat_natCast,eY (List.getElem?_eq_getElem (by rw[e1,lr];exact hk))]
  unfold nkN;rw[this]
 unfold F6 keyOf;rw[Prod.mk.injEq];refine and_congr_right λ_=>?_;show(g.getD p []).map _=(g.getD q []).map _↔_;rw[row hp,row hq];constructor;intro h k hk;have:=congrArg (λl=>l[k]?) h;simpa[hk]using this;·intro h;exact List.map_congr_left λk hk=>h k (List.mem_range.mp hk)
theorem N8(W:k7 w n g e){p:Nat}(hp:p<n):(tD g nums).getD p 0=((Li (bK g nums) (F6 g nums p):Nat):Int):=
 eY (by rw[List.getElem?_map,Fg W hp];rfl)
theorem Fh(W:k7 w n g e){p q:Nat}(hp:p<n)(hq:q<n):(tD g nums).getD p 0=(tD g nums).getD q 0↔F6 g nums p=F6 g nums q:=by
 rw[N8 W hp,N8 W hq];constructor
 ·intro h;have h:Li (bK g nums) (F6 g nums p)=Li (bK g nums) (F6 g nums q):=by omega
  have h1:=yw (ou.mpr (zf (nums:=nums) W hp));have h2:=yw (ou.mpr (zf (nums:=nums) W hq));rw[h,h2]at h1;exact(Option.some.inj h1).symm
 ·intro h;rw[h]
theorem abR(W:k7 w n g e):Ml n g e (e.map λb=>if b=true then(1:Int) else 0):=by
 have at_:∀p:Nat,p<n->(e.map λb=>if b=true then(1:Int) else 0).getD p 0=if tA e (p:Nat)=true then 1 else 0:=λp hp=>by
  have hl:p<e.length:=by rw[W.le];exact hp
  rw[eY (by rw[List.getElem?_map,List.getElem?_eq_getElem hl];rfl)];unfold tA;rw[decide_eq_true (by omega),Bool.true_and,Int.toNat_natCast,eY (List.getElem?_eq_getElem hl)]
 refine⟨λp q hp hq h=>?_,λp q hp hq h=>?_,λx hx=>?_⟩;have:tA e (p:Nat)=tA e (q:Nat):=congrFun h [];rw[at_ p hp,at_ q hq,this];rw[at_ p hp,at_ q hq]at h;revert h;cases tA e (p:Nat)<;>cases tA e (q:Nat)<;>simp;·obtain⟨b,_,rfl⟩:=List.mem_map.mp hx;split<;>omega
theorem Vh(W:k7 w n g e)(HK:∀p:Nat,∀k,0<=gG g (p:Nat) k->kN g e (gG g (p:Nat) k))(I:Ml n g e nums){p q:Nat}(hp:p<n)(hq:q<n)(h:iM g e (p:Nat)=iM g e (q:Nat)):F6 g nums p=F6 g nums q:=by rw[DQ W hp hq];refine⟨I.a p q hp hq h,λk hk=>?_⟩;have h2:iM g e (gG g (p:Nat) k)=iM g e (gG g (q:Nat) k):=funext λu=>congrFun h (k::u);have bp:=(Bo W (p:=(p:Nat)) (k:=k)).2;have bq:=(Bo W (p:=(q:Nat)) (k:=k)).2;unfold nkN;by_cases h0:0<=gG g (p:Nat) k<;>by_cases h1:0<=gG g (q:Nat) k;rw[if_pos h0,if_pos h1];refine I.a _ _ (by omega) (by omega) ?_;rw[show(((gG g (p:Nat) k).toNat:Nat):Int)=gG g (p:Nat) k by omega,show(((gG g (q:Nat) k).toNat:Nat):Int)=gG g (q:Nat) k by omega];exact h2;have:=HK p k h0;rw[<-lK,h2]at this;exact absurd (wB (by omega)) this;have:=HK q k h1;rw[<-lK,<-h2]at this;exact absurd (wB (by omega)) this;·rw[if_neg h0,if_neg h1]
theorem Jh(W:k7 w n g e)(HK:∀p:Nat,∀k,0<=gG g (p:Nat) k->kN g e (gG g (p:Nat) k))(I:Ml n g e nums):Ml n g e (tD g nums):=by
 refine⟨λp q hp hq h=>(Fh W hp hq).mpr (Vh W HK I hp hq h),λp q hp hq h=>?_,λx hx=>?_⟩;·exact I.b p q hp hq ((DQ W hp hq).mp ((Fh W hp hq).mp h)).1
 ·obtain⟨p,_,rfl⟩:=List.mem_map.mp hx;omega
theorem cls_ok(W:k7 w n g e)(HK:∀p:Nat,∀k,0<=gG g (p:Nat) k->kN g e (gG g (p:Nat) k))(I:Ml n g e nums)(hl:nums.length=n)(hd:(dd (bQ g nums)).length<=(dd nums).length):C7 n g e (tD g nums):=by
 have st:∀{p q:Nat},p<n->q<n->nums.getD p 0=nums.getD q 0->F6 g nums p=F6 g nums q:=λ{p q} hp hq h=>by
  refine Vg (l:=dd (bQ g nums)) (m:=dd nums) (f:=Prod.fst) C3 (λy hy=>?_) hd (jo.mpr (zf W hp)) (jo.mpr (zf W hq)) h;obtain⟨i,hi⟩:=List.mem_iff_getElem?.mp (jo.mp hy);have li:i<n:=by rw[<-hl];exact(List.getElem?_eq_some_iff.mp hi).1
  exact⟨F6 g nums i,jo.mpr (zf W li),eY hi⟩
 have ac:∀(u:List Nat) (p q:Nat),p<n->q<n->nums.getD p 0=nums.getD q 0->iM g e (p:Nat) u=iM g e (q:Nat) u:=by
  intro u;induction u with
  |nil=>exactλp q hp hq h=>I.b p q hp hq h|cons k u ih=>
   intro p q hp hq h;show iM g e (gG g (p:Nat) k) u=iM g e (gG g (q:Nat) k) u;by_cases hk:k<w;·have hn:=((DQ W hp hq).mp (st hp hq h)).2 k hk;have bp:=(Bo W (p:=(p:Nat)) (k:=k)).2;have bq:=(Bo W (p:=(q:Nat)) (k:=k)).2;unfold nkN at hn;by_cases h0:0<=gG g (p:Nat) k<;>by_cases h1:0<=gG g (q:Nat) k;rw[if_pos h0,if_pos h1]at hn;have:=ih _ _ (by omega) (by omega) hn;rwa[show(((gG g (p:Nat) k).toNat:Nat):Int)=gG g (p:Nat) k by omega,show(((gG g (q:Nat) k).toNat:Nat):Int)=gG g (q:Nat) k by omega]at this;rw[if_pos h0,if_neg h1]at hn;have:=N6 I.lo (gG g (p:Nat) k).toNat;omega;rw[if_neg h0,if_pos h1]at hn;have:=N6 I.lo (gG g (q:Nat) k).toNat;omega;·rw[iY (by omega),iY (by omega)]
   ·rw[Cf W (by omega),Cf W (by omega)]
 refine⟨λp q hp hq=>⟨λh=>?_,(Jh W HK I).a p q hp hq⟩⟩;have:=((DQ W hp hq).mp ((Fh W hp hq).mp h)).1;exact funext λu=>ac u p q hp hq this
end
section
variable {w n:Nat}{g:List (List Int)}{e:List Bool}
theorem RQ(W:k7 w n g e)(HK:∀p:Nat,∀k,0<=gG g (p:Nat) k->kN g e (gG g (p:Nat) k))(hn:n<=2600)(hw:w<=1000)(S:ag):∃nums:List Int,oo [.v (aK g),.v (.lst (aN e))] S=.ok (.v (.lst (nums.map .int))) S/\jW n nums/\C7 n g e nums:=by
 have key:∃x S',om [.v (aK g),.v (.lst (aN e))] S=.ok x S'/\∃(nums:List Int) (X:ag),x=.v (.lst (nums.map .int))/\S'=S++X/\jW n nums/\C7 n g e nums:=by
  refine KG rfl ?_;unfold vg;have hb:fX [6] (cJ (eV 1)) (.nm 6) aL (au pJ (aa (eV 6) ah)) [some (.v (aK g)),some (.v (.lst (aN e))),none,none,none,none,none,none,none,none,none,none] S=.ok (.v (.lst ((e.map λb=>if b=true then(1:Int) else 0).map .int))) S:=by rw[List.map_map];refine bP e D.bl (λb=>D.int (if b=true then 1 else 0)) (dM rfl) (by rw[W.le];omega) λb _ Z=>⟨[some (.v (aK g)),some (.v (.lst (aN e))),none,none,none,none,some (.v (.bl b)),none,none,none,none,none],rfl,rfl,?_⟩;cases b<;>exact aW rfl rfl
  refine bI (dD (x:=.v (.lst ((e.map λb=>if b=true then(1:Int) else 0).map .int))) (S1:=S) hb ?_);have I0:=abR W;generalize hn0:(e.map λb=>if b=true then(1:Int) else 0)=n0 at I0 ⊢;have N0:jW n n0:=by subst hn0;refine⟨by rw[List.length_map,W.le],λx hx=>?_,λx hx=>?_⟩<;>obtain⟨b,_,rfl⟩:=List.mem_map.mp hx<;>cases b<;>simp<;>omega
  have d2:(dd n0).length<=2:=by refine C4 (b:=[0,1]) C3 λx hx=>?_;have hx:=jo.mp hx;rw[<-hn0]at hx;obtain⟨b,_,rfl⟩:=List.mem_map.mp hx;cases b<;>simp
  have hs0:zx .si [6] (cJ (eV 2)) (.nm 6) aL (eV 6) [some (.v (aK g)),some (.v (.lst (aN e))),some (.v (.lst (n0.map .int))),none,none,none,none,none,none,none,none,none] S=.ok (.m S.length) (S++[.x .si ((dd n0).map .int) []]):=
   KP Y8 (dM rfl) (λa Z=>⟨[some (.v (aK g)),some (.v (.lst (aN e))),some (.v (.lst (n0.map .int))),none,none,none,some (.v (.int a)),none,none,none,none,none],rfl,rfl,rfl⟩) (by omega)
  have d0:(dd n0).length<=n:=by have:=Fb (l:=n0);rw[N0.len]at this;exact this
  refine bI (dD (x:=.v (.int ((dd n0).length:Nat))) (S1:=S++[.x .si ((dd n0).map .int) []]) (aW (ao hs0 rfl) (Za (by omega) kX)) ?_);refine vj (k:=n+1) (I:=λk ρ S'=>∃(nums:List Int) (X:ag) (o4 o5 o6 o7 o8 o9 o10 o11:Option A),ρ=N5 g e nums ((dd nums).length:Nat) o4 o5 o6 o7 o8 o9 o10 o11/\S'=S++X/\jW n nums/\n+1-(dd nums).length<=k/\Ml n g e nums)
   ⟨n0,_,none,none,none,none,none,none,none,none,rfl,rfl,N0,by omega,I0⟩ (by omega) ?_
  rintro k ρ S' ⟨nums,X,o4,o5,o6,o7,o8,o9,o10,o11,rfl,rfl,N,hk,I⟩;refine⟨true,S++X,rfl,λh=>(by cases h),λ_=>?_⟩;refine bI (dD (x:=.v (.lst ((bQ g nums).map bj))) (S1:=S++X) (Vf W hn hw N) ?_);have kok:∀p∈dd (bQ g nums),Fd w p:=λp hp=>by obtain⟨q,hq,rfl⟩:=List.mem_map.mp (jo.mp hp);exact RP W (by omega) N hq
  have kl:(bQ g nums).length=n:=by rw[oy,W.lg]
  have dk:(dd (bQ g nums)).length<=n:=by have:=Fb (l:=bQ g nums);rw[kl]at this;exact this
  have hset:zx .sk [10] (cJ (eV 4)) (.nm 10) aL (eV 10) (N5 g e nums ((dd nums).length:Nat) (some (.v (.lst ((bQ g nums).map bj)))) o5 o6 o7 o8 o9 o10 o11) (S++X)=.ok (.m (S++X).length) (S++X++[.x .sk ((dd (bQ g nums)).map bj) []]):=
   KP Y9 (dM rfl) (λa Z=>⟨N5 g e nums ((dd nums).length:Nat) (some (.v (.lst ((bQ g nums).map bj)))) o5 o6 o7 o8 o9 (some (.v (bj a))) o11,rfl,rfl,rfl⟩) (by omega)
  have hsort:au Aa (aa (zx .sk [10] (cJ (eV 4)) (.nm 10) aL (eV 10)) ah) (N5 g e nums ((dd nums).length:Nat) (some (.v (.lst ((bQ g nums).map bj)))) o5 o6 o7 o8 o9 o10 o11) (S++X)=.ok (.v (.lst ((bK g nums).map bj))) (S++X++[.x .sk ((dd (bQ g nums)).map bj) []]):=
   aW (ao hset rfl) (N1 C3 kok kX)
  have hdic:=RN (mk:=bj) (nk:=RO) (K:=bK g nums) (ρ:=N5 g e nums ((dd nums).length:Nat) (some (.v (.lst ((bQ g nums).map bj)))) o5 o6 o7 o8 o9 o10 o11) hsort (by rw[ow];omega) (λb _=>An b) (λb _ c _ h=>Bs h) Bt
   λi d=>⟨N5 g e nums ((dd nums).length:Nat) (some (.v (.lst ((bQ g nums).map bj)))) o5 o6 o7 o8 (some (.v (.int i))) (some (.v d)) o11,rfl,rfl,rfl⟩
  refine bI (dD hdic ?_);generalize hX1:S++X++[.x .sk ((dd (bQ g nums)).map bj) []]=S1;have hnew:fX [10] (cJ (eV 4)) (.nm 10) aL (rV (eV 5) (eV 10)) (N5 g e nums ((dd nums).length:Nat) (some (.v (.lst ((bQ g nums).map bj)))) (some (.m S1.length)) o6 o7 o8 o9 o10 o11) (S1++[.x .dn ((bK g nums).map bj) (idxs (bK g nums).length)])=.ok (.v (.lst ((tD g nums).map .int))) (S1++[.x .dn ((bK g nums).map bj) (idxs (bK g nums).length)]):=by have en:(tD g nums).map D.int=(bQ g nums).map λp=>D.int ((Li (bK g nums) p:Nat):Int):=List.map_map;rw[en];refine KD (S1:=S1++[.x .dn ((bK g nums).map bj) (idxs (bK g nums).length)]) (t:=aL) (m:=rV (eV 5) (eV 10)) (g:=.nm 10) (own:=[10]) (mi:=cJ (eV 4)) (S:=S1++[.x .dn ((bK g nums).map bj) (idxs (bK g nums).length)]) (ρ:=N5 g e nums ((dd nums).length:Nat) (some (.v (.lst ((bQ g nums).map bj)))) (some (.m S1.length)) o6 o7 o8 o9 o10 o11) (bQ g nums) bj (λp=>D.int ((Li (bK g nums) p:Nat):Int)) (dM rfl) (by rw[kl];omega) λp hp as _=>⟨N5 g e nums ((dd nums).length:Nat) (some (.v (.lst ((bQ g nums).map bj)))) (some (.m S1.length)) o6 o7 o8 o9 (some (.v (bj p))) o11,rfl,rfl,?_⟩;exact Ve (mk:=bj) (nk:=RO) (by simp) (λb _=>An b) (λb _ c _ h=>Bs h) Bt (yw (ou.mpr hp))
  refine bI (dD hnew ?_);have hlen:au Ka (aa (eV 5) ah) (N5 g e (tD g nums) ((dd nums).length:Nat) (some (.v (.lst ((bQ g nums).map bj)))) (some (.m S1.length)) o6 o7 o8 o9 o10 o11) (S1++[.x .dn ((bK g nums).map bj) (idxs (bK g nums).length)])=.ok (.v (.int ((bK g nums).length:Nat))) (S1++[.x .dn ((bK g nums).map bj) (idxs (bK g nums).length)]):=by refine aW rfl ?_;show(AS (.m S1.length) _).bind _=_;unfold AS;simp only[kX,Option.bind_some,List.length_map];rw[if_pos (by rw[ow];omega)]
  have mk_:=G4 W N;refine bI (CZ (b:=decide (((bK g nums).length:Int)=((dd nums).length:Nat))) (S1:=S1++[.x .dn ((bK g nums).map bj) (idxs (bK g nums).length)]) (gh (aD hlen rfl L8)) ?_);by_cases heq:((bK g nums).length:Int)=((dd nums).length:Nat);·rw[decide_eq_true heq,if_pos rfl];exact wz (x:=.v (.lst ((tD g nums).map .int))) rfl ⟨tD g nums,X++([.x .sk ((dd (bQ g nums)).map bj) []]++[.x .dn ((bK g nums).map bj) (idxs (bK g nums).length)]),rfl,by rw[<-hX1];simp[List.append_assoc],Jg W,cls_ok W HK I N.len (by rw[ow]at heq;omega)⟩
  ·rw[decide_eq_false heq,if_neg (by decide)];refine Cb (dD hlen ?_);have e1:(bK g nums).length=(dd (tD g nums)).length:=by rw[Ff,ow]
   rw[ow]at heq;have c1:=Ff (g:=g) (nums:=nums);refine⟨n+1-(dd (tD g nums)).length,by rw[c1];omega,tD g nums,X++([.x .sk ((dd (bQ g nums)).map bj) []]++[.x .dn ((bK g nums).map bj) (idxs (bK g nums).length)]),some (.v (.lst ((bQ g nums).map bj))),some (.m S1.length),o6,o7,o8,o9,o10,o11,?_,by rw[<-hX1];simp[List.append_assoc],Jg W,Nat.le_refl _,Jh W HK I⟩;rw[<-e1];rfl
 obtain⟨x,S',e1,nums,X,rfl,rfl,N,C⟩:=key;refine⟨nums,?_,N,C⟩;show MN S.length _=_;rw[e1,GW];simp
end
abbrev RS:EM:=fb 70 "begin" mV (eV 0) ah
abbrev Ji:EM:=fb 70 "later" mW (eV 0) (aa (aA b6 (eV 3) (au cj (aa (eV 5) ah))) (aa (eV 7) ah))
abbrev Vi:EM:=fb 70 "is_final" jR (eV 0) (aa (eV 9) ah)
abbrev xIf:SM:=uP (pI (tE (aA rQ (eV 8) (eC .non))) (tE (aA (FZ true) (eV 8) (eV 4)))) (aG (CP (eV 4) (eV 8) (au cj (aa (eV 3) ah))) (ju (mR "list" cI (eV 3) (aa (eV 8) ah)))) iR
abbrev Zd:SM:=ju (mR "list" cI (eV 6) (aa (xG (tE (aA PL (eV 8) (eC .non))) (xt jl (eC (.int 1))) (rV (eV 4) (eV 8))) ah))
abbrev WN:SM:=aG (bB 8 Ji) (aG xIf Zd)
abbrev WO:SM:=Ey (aG (Ey (aG (bB 6 (mC ah)) (mQ (bG (aa (eV 1) ah)) (.nm 7) WN))) (ju (mR "list" cI (eV 5) (aa (eV 6) ah))))
theorem RT:t8=aG (Ey (aG (bB 2 RS) (aG (bB 3 (mC (aa (eV 2) ah))) (aG (bB 4 (GF 2 0)) (aG (bB 5 (mC ah)) (kU (tE (aA CF (au cj (aa (eV 5) ah)) (au cj (aa (eV 3) ah)))) WO 2700)))))) (ck (mK (aa (eV 5) (aa (fX [9] (cJ (eV 3)) (.nm 9) aL Vi) ah)))):=rfl
theorem Fi{N B C:Env->ag->Prop}{T:A->ag->Prop}{E:Er->ag->Prop}{m:SM}{ρ:Env}{S:ag}(h:(m ρ S).sa (λρ' S'=>N (ρ'.map (fA S.length S')) (S'.take S.length)) (λ_ _=>False) Ad Ad Ri):(Ey m ρ S).sa N T B C E:=by
 have h:=h.h;constructor;show(ZU S.length (m ρ S)).sat N T B C E;cases q:m ρ S with
 |nx ρ' S'=>rw[q]at h;exact h|ct _ _=>rw[q]at h;exact h.elim|bk _ _=>rw[q]at h;exact h.elim|rt _ _=>rw[q]at h;exact h.elim|er _ _=>rw[q]at h;exact h.elim|stk=>rw[q]at h;exact h.elim
theorem wD{n:Nat}{S:ag}{ds:List D}(h:S[n]?=some (.lst ds)):cj [.m n] S=some (.v (.int ds.length)):=by show(pH (.m n) S).map _=_;unfold pH;simp only[h];rfl
theorem Ao{n:Nat}{S:ag}{ds:List D}{d:D}(h:S[n]?=some (.lst ds))(hl:ds.length<100000):cI (.m n) [.v d] S=some (.v .non,S.set n (.lst (ds++[d]))):=by unfold cI;simp only[h];rw[if_pos (by unfold cE;omega)]
structure Vj (FD:List D->MO) (U:List D):Prop where
 nw:∀d∈U,∀(ρ:Env) (S:ag),ρ[2]?=some (some (.v d))->GF 2 0 ρ S=.ok (.m S.length) (S++[FD [d]])
 no:∀(l:List D) (d:D) (n:Nat) (S:ag),(∀x∈l,x∈U)->d∈U->d∉l->S[n]?=some (FD l)->FZ true (.v d) (.m n) S=some (.v (.bl true))
 yes:∀(l:List D) (d:D) (n:Nat) (S:ag),(∀x∈l,x∈U)->l.Nodup->d∈l->S[n]?=some (FD l)->FZ true (.v d) (.m n) S=some (.v (.bl false))
 put:∀(l:List D) (d:D) (n:Nat) (ρ:Env) (S:ag),(∀x∈l,x∈U)->d∈U->d∉l->l.length<4000->S[n]?=some (FD l)->va (.v (.int (l.length:Nat))) (.m n) (.v d) ρ S=.nx ρ (S.set n (FD (l++[d])))
 sub:∀(l:List D) (d:D) (n j:Nat) (S:ag),(∀x∈l,x∈U)->l.Nodup->l[j]?=some d->S[n]?=some (FD l)->xN (.m n) (.v d) S=.ok (.v (.int (j:Nat))) S
structure Vk (O:D) (w:Nat) (U:List D) (first:D) (stp:D->Nat->Option D) (fn:D->Bool):Prop where
 b0:∀(ρ:Env) (S:ag),ρ[0]?=some (some (.v O))->RS ρ S=.ok (.v first) S
 b1:first∈U
 l0:∀(ρ:Env) (S:ag) (n3 n5:Nat) (sts gl:List D) (s:D) (a:Nat),ρ[0]?=some (some (.v O))->ρ[3]?=some (some (.m n3))->ρ[5]?=some (some (.m n5))->S[n3]?=some (.lst sts)->S[n5]?=some (.lst gl)->sts[gl.length]?=some s->s∈U ->
  ρ[7]?=some (some (.v (.int (a:Nat))))->a<w->Ji ρ S=.ok (.v ((stp s a).getD .non)) S
 l1:∀s∈U,∀a<w,∀t,stp s a=some t->t∈U
 l2:∀t∈U,isNon (.v t)=false
 f0:∀(ρ:Env) (S:ag) (s:D),ρ[0]?=some (some (.v O))->ρ[9]?=some (some (.v s))->s∈U->Vi ρ S=.ok (.v (.bl (fn s))) S
section
variable {O:D}{w:Nat}{U:List D}{first:D}{stp:D->Nat->Option D}{fn:D->Bool}{FD:List D->MO}
theorem Fj{r:List Int}{x:Int}:r.map D.int++[.int x]=(r++[x]).map D.int:=by simp
theorem yx{S:ag}{a b c:MO}{X:ag}:(S++(a::b::c::X))[S.length]?=some a:=by simp
theorem N9{S:ag}{a b c:MO}{X:ag}:(S++(a::b::c::X))[S.length+1]?=some b:=by rw[List.getElem?_append_right (by omega)];simp
theorem C9{S:ag}{a b c:MO}{X:ag}:(S++(a::b::c::X))[S.length+2]?=some c:=by rw[List.getElem?_append_right (by omega)];simp
theorem KR{S:ag}{a b c d:MO}{X:ag}:(S++(a::b::c::d::X))[S.length+3]?=some d:=by rw[List.getElem?_append_right (by omega)];simp
theorem WQ{S:ag}{a b c x:MO}{X:ag}:(S++(a::b::c::X)).set S.length x=S++(x::b::c::X):=by simp
theorem abS{S:ag}{a b c x:MO}{X:ag}:(S++(a::b::c::X)).set (S.length+1) x=S++(a::x::c::X):=by rw[List.set_append_right _ _ (by omega)];simp
theorem WR{S:ag}{a b c x:MO}{X:ag}:(S++(a::b::c::X)).set (S.length+2) x=S++(a::b::x::X):=by rw[List.set_append_right _ _ (by omega)];simp
theorem WS{S:ag}{a b c d x:MO}{X:ag}:(S++(a::b::c::d::X)).set (S.length+3) x=S++(a::b::c::x::X):=by rw[List.set_append_right _ _ (by omega)];simp
theorem Jj{a b:List D}(h:a.Nodup)(hs:∀x∈a,x∈b):a.length<=b.length:=by
 haveI:DecidableEq D:=λa b=>Classical.propDecidable (a=b)
 exact C4 h hs
theorem Vl(M:Vk O w U first stp fn)(F:Vj FD U)(hU:U.length<=2600){S:ag}{n:Nat}{sts gl:List D}{row:List Int}{a:Nat}{s:D}{w0 o2 o6' o8 o9:Option A}
  {sts0:List D}(hs:∀x∈sts,x∈U) (nd:sts.Nodup) (hc:sts[gl.length]?=some s) (ha:a<w) (hr:row.length<1000) (hP:jE stp s sts0 a sts row) :
  ∃(sts':List D) (x:Int) (t:Option A),WN [some (.v O),w0,o2,some (.m S.length),some (.m (S.length+1)),some (.m (S.length+2)),some (.m (S.length+3)),some (.v (.int (a:Nat))),o8,o9] (S++[.lst sts,FD sts,.lst gl,.lst (row.map .int)]) =
   .nx [some (.v O),w0,o2,some (.m S.length),some (.m (S.length+1)),some (.m (S.length+2)),some (.m (S.length+3)),some (.v (.int (a:Nat))),t,o9] (S++[.lst sts',FD sts',.lst gl,.lst ((row++[x]).map .int)]) /\
   (∀x∈sts',x∈U)/\sts'.Nodup/\(∃more,sts'=sts++more)/\(-1<=x/\x<sts'.length)/\jE stp s sts0 (a+1) sts' (row++[x]):=by
 have hsU:s∈U:=hs s (List.mem_of_getElem? hc);have e1:=M.l0 [some (.v O),w0,o2,some (.m S.length),some (.m (S.length+1)),some (.m (S.length+2)),some (.m (S.length+3)),some (.v (.int (a:Nat))),o8,o9] (S++[.lst sts,FD sts,.lst gl,.lst (row.map .int)]) S.length (S.length+2) sts gl s a rfl rfl rfl yx C9 hc hsU rfl ha;have sl:sts.length<=2600:=Nat.le_trans (Jj nd hs) hU;cases hq:stp s a with
 |none=>
  rw[hq]at e1;have harg:aa (xG (tE (aA PL (eV 8) (eC .non))) (xt jl (eC (.int 1))) (rV (eV 4) (eV 8))) ah ([some (.v O),w0,o2,some (.m S.length),some (.m (S.length+1)),some (.m (S.length+2)),some (.m (S.length+3)),some (.v (.int (a:Nat))),some (.v .non),o9]:Env) (S++[.lst sts,FD sts,.lst gl,.lst (row.map .int)])=.ok [.v (.int (-1))] (S++[.lst sts,FD sts,.lst gl,.lst (row.map .int)]):=rfl;have happ:Zd ([some (.v O),w0,o2,some (.m S.length),some (.m (S.length+1)),some (.m (S.length+2)),some (.m (S.length+3)),some (.v (.int (a:Nat))),some (.v .non),o9]) (S++[.lst sts,FD sts,.lst gl,.lst (row.map .int)])=.nx ([some (.v O),w0,o2,some (.m S.length),some (.m (S.length+1)),some (.m (S.length+2)),some (.m (S.length+3)),some (.v (.int (a:Nat))),some (.v .non),o9]) (S++[.lst sts,FD sts,.lst gl,.lst ((row++[-1]).map .int)]):=by refine pU (ug (x:=.m (S.length+3)) (xs:=[.v (.int (-1))]) (y:=.v .non) (S1:=S++[.lst sts,FD sts,.lst gl,.lst (row.map .int)]) (S2:=S++[.lst sts,FD sts,.lst gl,.lst (row.map .int)]) rfl ?_ harg ?_);unfold zw;simp only[KR];·rw[Ao KR (by simp;omega),WS,Fj]
  refine⟨sts,-1,some (.v .non),?_,hs,nd,⟨[],by simp⟩,⟨by omega,by omega⟩,hP.no hq⟩;refine bz (ρ1:=[some (.v O),w0,o2,some (.m S.length),some (.m (S.length+1)),some (.m (S.length+2)),some (.m (S.length+3)),some (.v (.int (a:Nat))),some (.v .non),o9]) (S1:=S++[.lst sts,FD sts,.lst gl,.lst (row.map .int)]) (lJ e1) ?_;refine bz (ρ1:=[some (.v O),w0,o2,some (.m S.length),some (.m (S.length+1)),some (.m (S.length+2)),some (.m (S.length+3)),some (.v (.int (a:Nat))),some (.v .non),o9]) (S1:=S++[.lst sts,FD sts,.lst gl,.lst (row.map .int)]) (C2 (S1:=S++[.lst sts,FD sts,.lst gl,.lst (row.map .int)]) (by rw[jz];rfl) rfl) ?_;exact happ
 |some t=>
  rw[hq]at e1;have htU:=M.l1 s hsU a ha t hq;have hnon:=M.l2 t htU;have e1:Ji _ _=.ok (.v t) _:=e1;have step:∀(sts':List D) (j:Nat) (Z:ag),Z=S++[.lst sts',FD sts',.lst gl,.lst (row.map .int)]->(∀x∈sts',x∈U)->sts'.Nodup->sts'[j]?=some t ->
    Zd [some (.v O),w0,o2,some (.m S.length),some (.m (S.length+1)),some (.m (S.length+2)),some (.m (S.length+3)),some (.v (.int (a:Nat))),some (.v t),o9] Z=.nx [some (.v O),w0,o2,some (.m S.length),some (.m (S.length+1)),some (.m (S.length+2)),some (.m (S.length+3)),some (.v (.int (a:Nat))),some (.v t),o9] (S++[.lst sts',FD sts',.lst gl,.lst ((row++[(j:Int)]).map .int)]):=by
   rintro sts' j Z rfl hs' nd' hj;refine pU (ug (x:=.m (S.length+3)) (xs:=[.v (.int (j:Nat))]) (y:=.v .non) (S1:=S++[.lst sts',FD sts',.lst gl,.lst (row.map .int)]) (S2:=S++[.lst sts',FD sts',.lst gl,.lst (row.map .int)]) rfl ?_ (ao (yn (S1:=S++[.lst sts',FD sts',.lst gl,.lst (row.map .int)]) ?_ ?_) rfl) ?_);unfold zw;simp only[KR];exact gh (aD rfl rfl (by rw[abq,hnon]));exact F.sub sts' t (S.length+1) j _ hs' nd' hj N9;·rw[Ao KR (by simp;omega),WS,Fj]
  have set8:bB 8 Ji [some (.v O),w0,o2,some (.m S.length),some (.m (S.length+1)),some (.m (S.length+2)),some (.m (S.length+3)),some (.v (.int (a:Nat))),o8,o9] (S++[.lst sts,FD sts,.lst gl,.lst (row.map .int)])=.nx ([some (.v O),w0,o2,some (.m S.length),some (.m (S.length+1)),some (.m (S.length+2)),some (.m (S.length+3)),some (.v (.int (a:Nat))),some (.v t),o9]) (S++[.lst sts,FD sts,.lst gl,.lst (row.map .int)]):=lJ e1;by_cases hm:t∈sts;·obtain⟨j,hj⟩:=List.mem_iff_getElem?.mp hm;have lt:=(List.getElem?_eq_some_iff.mp hj).1;refine⟨sts,j,some (.v t),?_,hs,nd,⟨[],by simp⟩,⟨by omega,by omega⟩,by have:=hP.old hq hm;rwa[Jb nd hj]at this⟩;refine bz set8 (bz (ρ1:=[some (.v O),w0,o2,some (.m S.length),some (.m (S.length+1)),some (.m (S.length+2)),some (.m (S.length+3)),some (.v (.int (a:Nat))),some (.v t),o9]) (S1:=S++[.lst sts,FD sts,.lst gl,.lst (row.map .int)]) (C2 (S1:=S++[.lst sts,FD sts,.lst gl,.lst (row.map .int)]) ?_ rfl) (step sts j _ rfl hs nd hj));rw[jz];have h1:tE (aA rQ (eV 8) (eC .non)) [some (.v O),w0,o2,some (.m S.length),some (.m (S.length+1)),some (.m (S.length+2)),some (.m (S.length+3)),some (.v (.int (a:Nat))),some (.v t),o9] (S++[.lst sts,FD sts,.lst gl,.lst (row.map .int)])=.ok true (S++[.lst sts,FD sts,.lst gl,.lst (row.map .int)]):=gh (aD rfl rfl (by rw[Kn,hnon];rfl));show(tE (aA rQ (eV 8) (eC .non)) [some (.v O),w0,o2,some (.m S.length),some (.m (S.length+1)),some (.m (S.length+2)),some (.m (S.length+3)),some (.v (.int (a:Nat))),some (.v t),o9] (S++[.lst sts,FD sts,.lst gl,.lst (row.map .int)])).bind _=_;rw[h1,R.ak,if_pos rfl];exact gh (aD rfl rfl (F.yes sts t (S.length+1) _ hs nd hm N9))
  ·have nd':(sts++[t]).Nodup:=List.nodup_append.mpr ⟨nd,by simp,λx hx y hy e=>by rw[List.mem_singleton.mp hy]at e;exact hm (e▸hx)⟩;have hs':∀x∈sts++[t],x∈U:=λx hx=>(List.mem_append.mp hx).elim (hs x) λh=>by rw[List.mem_singleton.mp h];exact htU
   have hj:(sts++[t])[sts.length]?=some t:=(by simp);refine⟨sts++[t],sts.length,some (.v t),?_,hs',nd',⟨[t],rfl⟩,⟨by omega,by simp;omega⟩,hP.new hq hm⟩;refine bz set8 (bz (ρ1:=[some (.v O),w0,o2,some (.m S.length),some (.m (S.length+1)),some (.m (S.length+2)),some (.m (S.length+3)),some (.v (.int (a:Nat))),some (.v t),o9]) (S1:=S++[.lst (sts++[t]),FD (sts++[t]),.lst gl,.lst (row.map .int)]) (RC (S1:=S++[.lst sts,FD sts,.lst gl,.lst (row.map .int)]) ?_ ?_) (step (sts++[t]) sts.length _ rfl hs' nd' hj));·rw[jz];have h1:tE (aA rQ (eV 8) (eC .non)) [some (.v O),w0,o2,some (.m S.length),some (.m (S.length+1)),some (.m (S.length+2)),some (.m (S.length+3)),some (.v (.int (a:Nat))),some (.v t),o9] (S++[.lst sts,FD sts,.lst gl,.lst (row.map .int)])=.ok true (S++[.lst sts,FD sts,.lst gl,.lst (row.map .int)]):=gh (aD rfl rfl (by rw[Kn,hnon];rfl));show(tE (aA rQ (eV 8) (eC .non)) [some (.v O),w0,o2,some (.m S.length),some (.m (S.length+1)),some (.m (S.length+2)),some (.m (S.length+3)),some (.v (.int (a:Nat))),some (.v t),o9] (S++[.lst sts,FD sts,.lst gl,.lst (row.map .int)])).bind _=_;rw[h1,R.ak,if_pos rfl];exact gh (aD rfl rfl (F.no sts t (S.length+1) _ hs htU hm N9))
   ·have hlen:au cj (aa (eV 3) ah) [some (.v O),w0,o2,some (.m S.length),some (.m (S.length+1)),some (.m (S.length+2)),some (.m (S.length+3)),some (.v (.int (a:Nat))),some (.v t),o9] (S++[.lst sts,FD sts,.lst gl,.lst (row.map .int)])=.ok (.v (.int (sts.length:Nat))) (S++[.lst sts,FD sts,.lst gl,.lst (row.map .int)]):=aW rfl (wD yx);refine bz (ρ1:=[some (.v O),w0,o2,some (.m S.length),some (.m (S.length+1)),some (.m (S.length+2)),some (.m (S.length+3)),some (.v (.int (a:Nat))),some (.v t),o9]) (S1:=S++[.lst sts,FD (sts++[t]),.lst gl,.lst (row.map .int)]) ?_ ?_;unfold CP;rw[hlen];show va (.v (.int (sts.length:Nat))) (.m (S.length+1)) (.v t) _ _=_;rw[F.put sts t (S.length+1) _ _ hs htU hm (by omega) N9,abS];·refine pU (ug (x:=.m S.length) (xs:=[.v t]) (y:=.v .non) (S1:=S++[.lst sts,FD (sts++[t]),.lst gl,.lst (row.map .int)]) (S2:=S++[.lst sts,FD (sts++[t]),.lst gl,.lst (row.map .int)]) rfl ?_ rfl ?_);unfold zw;simp only[yx];·rw[Ao yx (by omega),WQ]
end
theorem Ze{i:Int}{n:Nat}{don:List D}{d:D}{rest:List D}(h:gR i n=don++d::rest):d=.int (i+(don.length:Nat))/\don.length<n:=by
 have e:(gR i n)[don.length]?=some d:=by rw[h];simp
 unfold gR at e;rw[List.getElem?_map]at e;obtain⟨j,e1,e2⟩:=Option.map_eq_some_iff.mp e;obtain⟨lt,e3⟩:=List.getElem?_eq_some_iff.mp e1;rw[List.getElem_range]at e3;rw[List.length_range]at lt;rw[<-e2,<-e3];exact⟨rfl,lt⟩
theorem Vm{i:Int}{n:Nat}:(gR i n).length=n:=by simp[gR]
section
variable {O:D}{w:Nat}{U:List D}{first:D}{stp:D->Nat->Option D}{fn:D->Bool}{FD:List D->MO}
abbrev xE(O:D)(w:Nat)(first:D)(N:Nat)(o6 o7 o8 o9:Option A):Env:=[some (.v O),some (.v (.int (w:Nat))),some (.v first),some (.m N),some (.m (N+1)),some (.m (N+2)),o6,o7,o8,o9]
structure WT (w m:Nat) (r:List Int):Prop where
 len:r.length=w
 bd:∀x∈r,-1<=x/\x<m
theorem Vn(M:Vk O w U first stp fn)(F:Vj FD U)(hU:U.length<=2600)(hw:w<=900){S:ag}{sts:List D}{g:List (List Int)}{o6 o7 o8 o9:Option A}
  (hs:∀x∈sts,x∈U) (nd:sts.Nodup) (hg:g.length<sts.length){N B C:Env->ag->Prop}{T:A->ag->Prop}{E:Er->ag->Prop}
  (k:∀(more:List D) (r:List Int) (p6 p7 p8 p9:Option A),(∀x∈sts++more,x∈U)->(sts++more).Nodup->WT w (sts++more).length r->(∀s,sts[g.length]?=some s->jE stp s sts w (sts++more) r) ->
   N (xE O w first S.length p6 p7 p8 p9) (S++[.lst (sts++more),FD (sts++more),.lst ((g++[r]).map aQ)])) :
  (WO (xE O w first S.length o6 o7 o8 o9) (S++[.lst sts,FD sts,.lst (g.map aQ)])).sa N T B C E:=by
 have l3:∀{a b c:MO},(S++[a,b,c]).length=S.length+3:=by simp
 refine Fi ?_;refine bI (Fi ?_);refine bI (dD (x:=.m (S.length+3)) (S1:=S++[.lst sts,FD sts,.lst (g.map aQ),.lst []]) (by show mC ah _ _=_;unfold mC;show R.ok (A.m (S++[.lst sts,FD sts,.lst (g.map aQ)]).length) (S++[.lst sts,FD sts,.lst (g.map aQ)]++[.lst []])=_;rw[l3,List.append_assoc];rfl) ?_);obtain⟨s,hc⟩:∃s,sts[(g.map aQ).length]?=some s:=⟨_,List.getElem?_eq_getElem (by simpa using hg)⟩;refine IY (ds:=gR 0 w) (S1:=S++[.lst sts,FD sts,.lst (g.map aQ),.lst []]) (I:=λdon ρ S'=>∃(more:List D) (row:List Int) (p7 p8 p9:Option A),ρ=xE O w first S.length (some (.m (S.length+3))) p7 p8 p9/\S'=S++[.lst (sts++more),FD (sts++more),.lst (g.map aQ),.lst (row.map .int)] /\
   (∀x∈sts++more,x∈U)/\(sts++more).Nodup/\row.length=don.length/\(∀x∈row,-1<=x/\x<((sts++more).length:Nat))/\jE stp s sts don.length (sts++more) row) ?_ ⟨[],[],o7,o8,o9,rfl,by simp,by simpa using hs,by simpa using nd,rfl,by simp,by rw[List.append_nil];exact jE.zero⟩ ?_ ?_
 ·have:=sd (ma:=eV 1) (n:=(w:Int)) (ρ:=xE O w first S.length (some (.m (S.length+3))) o7 o8 o9) (S:=S++[.lst sts,FD sts,.lst (g.map aQ),.lst []]) (S1:=S++[.lst sts,FD sts,.lst (g.map aQ),.lst []]) rfl (by omega) (by omega);rw[Int.toNat_natCast]at this;exact this
 ·rintro don d rest ρ S' hd ⟨more,row,p7,p8,p9,rfl,rfl,hs',nd',hr,hb,hp⟩;obtain⟨rfl,hl⟩:=Ze hd;refine⟨xE O w first S.length (some (.m (S.length+3))) (some (.v (.int ((0:Int)+(don.length:Nat))))) p8 p9,rfl,?_⟩;have h0:(0:Int)+(don.length:Nat)=((don.length:Nat):Int):=by omega
  rw[h0];obtain⟨sts2,x,t,e,hs2,nd2,⟨more2,rfl⟩,⟨x0,x1⟩,hp2⟩:=Vl (S:=S) (n:=0) (a:=don.length) (s:=s) (gl:=g.map aQ) (row:=row) (w0:=some (.v (.int (w:Nat)))) (o2:=some (.v first)) (o6':=none) (o8:=p8) (o9:=p9) M F hU hs' nd' (by rw[List.getElem?_append_left (by simpa using hg)];exact hc) hl (by rw[hr];omega) hp;refine zy e ⟨more++more2,row++[x],_,_,_,rfl,by rw[List.append_assoc],by rw[<-List.append_assoc];exact hs2,by rw[<-List.append_assoc];exact nd2,by simp[hr],?_,by rw[<-List.append_assoc,List.length_append];exact hp2⟩;intro y hy;rcases List.mem_append.mp hy with hy|hy;have:=hb y hy;simp at this ⊢;omega;·rw[List.mem_singleton.mp hy];rw[<-List.append_assoc];exact⟨x0,x1⟩
 ·rintro ρ S' ⟨more,row,p7,p8,p9,rfl,rfl,hs',nd',hr,hb,hp⟩;rw[Vm]at hr hp;have tk:(S++[.lst (sts++more),FD (sts++more),.lst (g.map aQ),.lst (row.map .int)]).take (S++[.lst sts,FD sts,.lst (g.map aQ)]).length=S++[.lst (sts++more),FD (sts++more),.lst (g.map aQ)]:=by rw[l3,List.take_append,List.take_of_length_le (by omega)];simp
  rw[tk,l3];generalize hS4:S++[.lst (sts++more),FD (sts++more),.lst (g.map aQ),.lst (row.map .int)]=S4;have f3:fA (S.length+3) S4 (some (.m S.length))=some (.m S.length):=w6 (by omega);have f4:fA (S.length+3) S4 (some (.m (S.length+1)))=some (.m (S.length+1)):=w6 (by omega);have f5:fA (S.length+3) S4 (some (.m (S.length+2)))=some (.m (S.length+2)):=w6 (by omega);have f6:fA (S.length+3) S4 (some (.m (S.length+3)))=some (.v (aQ row)):=CS (Nat.le_refl _) (by rw[<-hS4];exact KR);have em:(xE O w first S.length (some (.m (S.length+3))) p7 p8 p9).map (fA (S.length+3) S4)=xE O w first S.length (some (.v (aQ row))) (fA (S.length+3) S4 p7) (fA (S.length+3) S4 p8) (fA (S.length+3) S4 p9):=by simp only[xE,List.map_cons,List.map_nil,f3,f4,f5,f6,A4]
  rw[em];have happ:(ju (mR "list" cI (eV 5) (aa (eV 6) ah))) (xE O w first S.length (some (.v (aQ row))) (fA (S.length+3) S4 p7) (fA (S.length+3) S4 p8) (fA (S.length+3) S4 p9)) (S++[.lst (sts++more),FD (sts++more),.lst (g.map aQ)])=.nx (xE O w first S.length (some (.v (aQ row))) (fA (S.length+3) S4 p7) (fA (S.length+3) S4 p8) (fA (S.length+3) S4 p9)) (S++[.lst (sts++more),FD (sts++more),.lst ((g++[row]).map aQ)]):=by
   refine pU (ug (x:=.m (S.length+2)) (xs:=[.v (aQ row)]) (y:=.v .non) (S1:=S++[.lst (sts++more),FD (sts++more),.lst (g.map aQ)]) (S2:=S++[.lst (sts++more),FD (sts++more),.lst (g.map aQ)]) rfl ?_ rfl ?_);·unfold zw;simp only[C9]
   ·have sl:=Jj nd hs;rw[Ao C9 (by rw[List.length_map];omega),WR,List.map_append];rfl
  refine zy happ ?_;have tk2:(S++[.lst (sts++more),FD (sts++more),.lst ((g++[row]).map aQ)]).take (S.length+3)=S++[.lst (sts++more),FD (sts++more),.lst ((g++[row]).map aQ)]:=List.take_of_length_le (by rw[l3];omega);rw[tk2];generalize hS5:S++[.lst (sts++more),FD (sts++more),.lst ((g++[row]).map aQ)]=S5;have g3:fA (S.length+3) S5 (some (.m S.length))=some (.m S.length):=w6 (by omega);have g4:fA (S.length+3) S5 (some (.m (S.length+1)))=some (.m (S.length+1)):=w6 (by omega);have g5:fA (S.length+3) S5 (some (.m (S.length+2)))=some (.m (S.length+2)):=w6 (by omega);generalize fA (S.length+3) S4 p7=q7;generalize fA (S.length+3) S4 p8=q8;generalize fA (S.length+3) S4 p9=q9;have em2:(xE O w first S.length (some (.v (aQ row))) q7 q8 q9).map (fA (S.length+3) S5)=xE O w first S.length (some (.v (aQ row))) (fA (S.length+3) S5 q7) (fA (S.length+3) S5 q8) (fA (S.length+3) S5 q9):=by simp only[xE,List.map_cons,List.map_nil,g3,g4,g5,A4]
  rw[em2,<-hS5];exact k more row _ _ _ _ hs' nd' ⟨hr,λx hx=>hb x hx⟩ λs2 h2=>by rw[List.length_map,h2]at hc;cases hc;exact hp
theorem Vo(M:Vk O w U first stp fn)(F:Vj FD U)(hU:U.length<=2600)(hw:w<=900)(S:ag):∃(g:List (List Int)) (e:List Bool) (m:Nat),mY [.v O,.v (.int (w:Nat))] S=.ok (.v (bX g e)) S/\k7 w m g e/\1<=m/\m<=U.length/\yr stp fn w first g e:=by
 have key:∃x S',mX [.v O,.v (.int (w:Nat))] S=.ok x S'/\∃(g:List (List Int)) (e:List Bool) (m:Nat),x=.v (bX g e)/\S'=S/\k7 w m g e/\1<=m/\m<=U.length/\yr stp fn w first g e:=by
  refine KG rfl ?_;rw[RT];refine bI (Fi ?_);refine bI (dD (x:=.v first) (S1:=S) (M.b0 _ _ rfl) ?_);refine bI (dD (x:=.m S.length) (S1:=S++[.lst [first]]) rfl ?_);refine bI (dD (F.nw first M.b1 _ _ rfl) ?_);have l2:(S++[MO.lst [first]]++[FD [first]]).length=S.length+2:=by simp
  refine bI (dD (x:=.m (S.length+2)) (S1:=S++[.lst [first],FD [first],.lst []]) (by unfold mC;show R.ok (A.m (S++[MO.lst [first]]++[FD [first]]).length) (S++[MO.lst [first]]++[FD [first]]++[MO.lst []])=_;rw[l2,List.append_assoc,List.append_assoc];rfl) ?_);refine vj (k:=U.length) (I:=λk ρ S'=>∃(sts:List D) (g:List (List Int)) (o6 o7 o8 o9:Option A),ρ=xE O w first S.length o6 o7 o8 o9/\S'=S++[.lst sts,FD sts,.lst (g.map aQ)]/\(∀x∈sts,x∈U)/\sts.Nodup/\1<=sts.length/\g.length<=sts.length/\(∀r∈g,WT w sts.length r)/\U.length-g.length<=k/\yu stp w first sts g)
   ⟨[first],[],none,none,none,none,?_,rfl,λx hx=>by rw[List.mem_singleton.mp hx];exact M.b1,by simp,by simp,by simp,by simp,by simp,yu.zero⟩ (by omega) ?_
  ·have e1:(S++[MO.lst [first]]).length=S.length+1:=by simp
   rw[e1];rfl
  rintro k ρ S' ⟨sts,g,o6,o7,o8,o9,rfl,rfl,hs,nd,h1,hg,hr,hk,hE⟩;refine⟨decide ((g.length:Int)<(sts.length:Nat)),S++[.lst sts,FD sts,.lst (g.map aQ)],gh (aD (aW rfl (wD C9)) (aW rfl (wD yx)) (by rw[NH,List.length_map])),λhf=>?_,λht=>?_⟩
  ·have hf:=of_decide_eq_false hf;have eq:g.length=sts.length:=by omega
   have tk:(S++[.lst sts,FD sts,.lst (g.map aQ)]).take S.length=S:=(by simp);rw[tk];generalize hS4:S++[.lst sts,FD sts,.lst (g.map aQ)]=S4;have f3:fA S.length S4 (some (.m S.length))=some (.v (.lst sts)):=CS (Nat.le_refl _) (by rw[<-hS4];exact yx);have f5:fA S.length S4 (some (.m (S.length+2)))=some (.v (aK g)):=CS (by omega) (by rw[<-hS4];exact C9);have em:(xE O w first S.length o6 o7 o8 o9).map (fA S.length S4)=[some (.v O),some (.v (.int (w:Nat))),some (.v first),some (.v (.lst sts)),fA S.length S4 (some (.m (S.length+1))),some (.v (aK g)),fA S.length S4 o6,fA S.length S4 o7,fA S.length S4 o8,fA S.length S4 o9]:=(by simp only[xE,List.map_cons,List.map_nil,f3,f5,A4]);rw[em];generalize fA S.length S4 (some (.m (S.length+1)))=q4;generalize fA S.length S4 o6=q6;generalize fA S.length S4 o7=q7;generalize fA S.length S4 o8=q8;generalize fA S.length S4 o9=q9;have sl:=Jj nd hs;have hfin:fX [9] (cJ (eV 3)) (.nm 9) aL Vi [some (.v O),some (.v (.int (w:Nat))),some (.v first),some (.v (.lst sts)),q4,some (.v (aK g)),q6,q7,q8,q9] S=.ok (.v (.lst (aN (sts.map fn)))) S:=(by have en:aN (sts.map fn)=sts.map λs=>D.bl (fn s):=List.map_map;rw[en];have hi:cJ (eV 3) [some (.v O),some (.v (.int (w:Nat))),some (.v first),some (.v (.lst sts)),q4,some (.v (aK g)),q6,q7,q8,q9] S=.ok (sts.map id) S:=(by rw[List.map_id];exact dM rfl);exact bP (own:=[9]) (g:=.nm 9) (t:=aL) (m:=Vi) sts id (λs=>.bl (fn s)) hi (by omega) λs hs' Z=>⟨[some (.v O),some (.v (.int (w:Nat))),some (.v first),some (.v (.lst sts)),q4,some (.v (aK g)),q6,q7,q8,some (.v s)],rfl,rfl,M.f0 _ _ _ rfl rfl (hs s hs')⟩);refine wz (x:=.v (bX g (sts.map fn))) (S1:=S) (ph (ao (x:=.v (aK g)) (S1:=S) rfl (ao hfin rfl)) rfl (Nat.le_of_ble_eq_true rfl)) ⟨g,sts.map fn,sts.length,rfl,rfl,⟨eq,by simp,λr hx=>(hr r hx).len,λr hx x hy=>((hr r hx).bd x hy).1,λr hx x hy=>((hr r hx).bd x hy).2⟩,h1,sl,hE.done eq⟩
  ·have ht:=of_decide_eq_true ht;have sl:=Jj nd hs;refine Vn M F hU hw hs nd (by omega) ?_;intro more r p6 p7 p8 p9 hs' nd' hrow hpart;refine⟨U.length-(g.length+1),by omega,sts++more,g++[r],p6,p7,p8,p9,rfl,rfl,hs',nd',by simp;omega,by simp;omega,?_,by simp,hE.step (List.getElem?_eq_getElem (by omega)) (hpart _ (List.getElem?_eq_getElem (by omega)))⟩;intro q hq;rcases List.mem_append.mp hq with hq|hq;refine⟨(hr q hq).len,λx hx=>?_⟩;have:=(hr q hq).bd x hx;simp;omega;·rw[List.mem_singleton.mp hq];exact hrow
 obtain⟨x,S',e1,g,e,m,rfl,rfl,hw2,h1,h2,h3⟩:=key;refine⟨g,e,m,?_,hw2,h1,h2,h3⟩;show MN S'.length _=_;rw[e1,GW];simp
end
theorem Mm{ρ:Env}{S:ag}{n3 n5:Nat}{sts gl:List D}{s:D}{a:Nat}(h3:ρ[3]?=some (some (.m n3)))(h5:ρ[5]?=some (some (.m n5)))(s3:S[n3]?=some (.lst sts))(s5:S[n5]?=some (.lst gl))(hc:sts[gl.length]?=some s)(h7:ρ[7]?=some (some (.v (.int (a:Nat))))) :aa (aA b6 (eV 3) (au cj (aa (eV 5) ah))) (aa (eV 7) ah) ρ S=.ok [.v s,.v (.int (a:Nat))] S:=
 ao (aD (rX h3) (aW (ao (rX h5) rfl) (wD s5)) (by rw[jQ s3,atI_nat hc];rfl)) (ao (rX h7) rfl)
section
variable {w n:Nat}{g:List (List Int)}{e:List Bool}
theorem Ck(W:k7 w n g e){p:Int}{a:Nat}(h1:p<n)(ha:a<w):-1<=cz g p a/\cz g p a<n:=by
 unfold cz;by_cases h:0<=p
 ·rw[if_pos h];obtain⟨r,_,er⟩:=atG (g:=g) h (by rw[W.lg];exact h1);have hr:r∈g:=List.mem_of_getElem? er;have lr:=W.lr r hr;have e2:(g.getD p.toNat []).getD a 0=r[a]'(by rw[lr];exact ha):=by rw[show g.getD p.toNat []=r by rw[List.getD_eq_getElem?_getD,er];rfl,List.getD_eq_getElem?_getD,List.getElem?_eq_getElem (by rw[lr];exact ha)];rfl
  rw[e2];have hm:r[a]'(by rw[lr];exact ha)∈r:=List.getElem_mem _;exact⟨W.lo r hr _ hm,W.hi r hr _ hm⟩
 ·rw[if_neg h];omega
theorem Vp(W:k7 w n g e){p:Int}{a:Nat}(h0:0<=p)(h1:p<n)(ha:a<w):∃r,atI (g.map aQ) p=some (aQ r)/\atI (r.map D.int) (a:Nat)=some (.int (cz g p a)):=by obtain⟨r,e1,er⟩:=atG (g:=g) h0 (by rw[W.lg];exact h1);have lr:=W.lr r (List.mem_of_getElem? er);refine⟨r,e1,atI_nat ?_⟩;rw[List.getElem?_map,List.getElem?_eq_getElem (by rw[lr];exact ha)];unfold cz;rw[if_pos h0,show g.getD p.toNat []=r by rw[List.getD_eq_getElem?_getD,er];rfl,List.getD_eq_getElem?_getD,List.getElem?_eq_getElem (by rw[lr];exact ha)];rfl
theorem RU(W:k7 w n g e){p:Int}(h0:0<=p)(h1:p<n):atI (aN e) p=some (.bl (endAt e p)):=by obtain⟨b,e1,er⟩:=Tp (l:=e) h0 (by rw[W.le];exact h1);rw[e1];unfold endAt;rw[decide_eq_true h0,Bool.true_and,List.getD_eq_getElem?_getD,er];rfl
end
def nF(n:Nat):Int:=if n=0 then -1 else 0
theorem DR{k:Nat}{ks:List Nat}{f:Str}{d:D}{fs:List (Str×D)}{ma:EM}{ρ:Env}{S:ag}(h:ma ρ (S++[.ins k fs])=.ok (.v d) (S++[.ins k fs]))(h0:ρ[0]?=some (some (.m S.length)))(hk:k∈ks)(hl:fs.length<100) :rR ks f (eV 0) ma ρ (S++[.ins k fs])=.nx ρ (S++[.ins k (putD f d fs)]):=by rw[DI,h,SR.of_ok,rX h0,SR.of_ok,DH,kX,Iu,if_pos ⟨hk,hl⟩,Cc]
abbrev abT(g:List (List Int))(e:List Bool)(nums:List Int)(ks:List L2.Key)(vs:List D):D:=.obj 70 [("goal_rows",aK g),("flags",.lst (aN e)),("numbers",.lst (nums.map .int)),("samples",.gX ks vs)]
theorem Zf{r:AM}{ρ:Env}{S:ag}{g:List (List Int)}{e:List Bool}{nums:List Int}{ks:List L2.Key}{vs:List D}(h:r ρ S=.ok [.v (aK g),.v (.lst (aN e)),.v (.lst (nums.map .int)),.v (.gX ks vs)] S):l4 70 ku r ρ S=.ok (.v (abT g e nums ks vs)) S:=by
 refine yo h ?_;have e:ku [.m S.length,.v (aK g),.v (.lst (aN e)),.v (.lst (nums.map .int)),.v (.gX ks vs)] (S++[.ins 70 []])=.ok (.v .non) (S++[.ins 70 [("goal_rows",aK g),("flags",.lst (aN e)),("numbers",.lst (nums.map .int)),("samples",.gX ks vs)]]):=
  abP rfl (bz (DR rfl rfl (by decide) (Nat.le_of_ble_eq_true rfl)) (bz (DR rfl rfl (by decide) (Nat.le_of_ble_eq_true rfl)) (bz (DR rfl rfl (by decide) (Nat.le_of_ble_eq_true rfl)) (DR rfl rfl (by decide) (Nat.le_of_ble_eq_true rfl)))))
 rw[e,L9 rfl]
theorem Pm{k:L2.Key}:b3 [] k=none:=rfl
theorem cQ{p:L2.Key×D}{r:List (L2.Key×D)}{k:L2.Key}:b3 (p::r) k=if p.1=k then some p.2 else b3 r k:=by unfold b3;rw[List.find?_cons];by_cases h:p.1=k;rw[decide_eq_true h,if_pos h];rfl;·rw[decide_eq_false h,if_neg h]
theorem Cm:∀{l:List (L2.Key×D)}{k k':L2.Key}{d:D},b3 l k=none->b3 (l++[(k,d)]) k'=if k'=k then some d else b3 l k'
 |[],k,k',d,_=>by rw[List.nil_append,cQ,Pm];by_cases h:k=k';rw[if_pos h,if_pos h.symm];·rw[if_neg h,if_neg (λe=>h e.symm)]|p::l,k,k',d,h=>by
  rw[cQ]at h;by_cases e:p.1=k;·rw[if_pos e]at h;cases h
  ·rw[if_neg e]at h;rw[List.cons_append,cQ,cQ,Cm h];by_cases e2:p.1=k';rw[if_pos e2,if_pos e2,if_neg (λz=>e (e2.trans z))];·rw[if_neg e2,if_neg e2]
theorem Cn:∀{l:List (L2.Key×D)}{k:L2.Key},(l.any λkv=>decide (kv.1=k))=(b3 l k).isSome|[],k=>rfl|p::l,k=>by rw[List.any_cons,cQ,Cn];by_cases e:p.1=k;rw[decide_eq_true e,if_pos e];rfl;·rw[decide_eq_false e,if_neg e];simp
theorem Oa{l:List (L2.Key×D)}{k:L2.Key}{d:D}(h:b3 l k=none):Dj l k d=l++[(k,d)]:=by unfold Dj;rw[Cn,h];rfl
def kI:D->L2.Key|.int i=>.inl i|_=>.inl 0
structure abU (U:List D):Prop where
 tp:∀d∈U,∃i,d=.int i
def fdI(l:List D):MO:=.gX ((l.map kI).zip (idxs l.length))
theorem Fl:∀{l:List D}{xs:List D}{i:Int},(∀d∈l,∃i,d=.int i)->D.int i∉l->b3 ((l.map kI).zip xs) (.inl i)=none|[],xs,i,_,_=>rfl|d::l,[],i,_,_=>rfl|d::l,x::xs,i,hl,h=>by obtain⟨j,rfl⟩:=hl d (by simp);rw[List.map_cons,List.zip_cons_cons,cQ,if_neg,Fl (λd hd=>hl d (by simp[hd])) (λz=>h (by simp[z]))];intro e;have e:j=i:=Sum.inl.inj e;exact h (by simp[e])
theorem Co:∀{l:List D}{xs:List D}{i:Int}{j:Nat},(∀d∈l,∃i,d=.int i)->l.Nodup->xs.length=l.length->l[j]?=some (D.int i)->b3 ((l.map kI).zip xs) (.inl i)=xs[j]?
 |[],xs,i,j,_,_,_,h=>by simp at h|d::l,[],i,j,_,_,h,_=>by cases h|d::l,x::xs,i,0,hl,nd,hx,h=>by
  have e:d=.int i:=by simpa using h
  subst e;rw[List.map_cons,List.zip_cons_cons,cQ,if_pos (show(kI (.int i),x).1=.inl i from rfl)];rfl
 |d::l,x::xs,i,j+1,hl,nd,hx,h=>by
  have h:l[j]?=some (D.int i):=by simpa using h
  obtain⟨m,rfl⟩:=hl d (by simp);have ne:¬kI (.int m)=.inl i:=λe=>by have e:m=i:=Sum.inl.inj e;exact(List.nodup_cons.mp nd).1 (e▸List.mem_of_getElem? h)
  rw[List.map_cons,List.zip_cons_cons,cQ,if_neg ne,Co (λd hd=>hl d (by simp[hd])) (List.nodup_cons.mp nd).2 (Nat.succ.inj hx) h];rfl
theorem Zg{U:List D}(K:abU U):Vj fdI U:=by
 have d1:∀{n:Nat}{l:List D}{S:ag},S[n]?=some (fdI l)->jO (.m n) S=some ((l.map kI).zip (idxs l.length)):=λ{n l S} h=>by unfold jO;simp only[h,fdI]
 refine⟨?_,?_,?_,?_,?_⟩;intro d hd ρ S h;obtain⟨i,rfl⟩:=K.tp d hd;unfold GF;rw[h];rfl;intro l d n S hl hd hm h;obtain⟨i,rfl⟩:=K.tp d hd;unfold FZ;rw[d1 h];show(some (Sum.inl i:L2.Key)).map _=_;rw[Option.map_some,Fl (λx hx=>K.tp x (hl x hx)) hm];rfl;·intro l d n S hl nd hm h;obtain⟨i,rfl⟩:=K.tp d (hl d hm);obtain⟨j,hj⟩:=List.mem_iff_getElem?.mp hm;unfold FZ;rw[d1 h];show(some (Sum.inl i:L2.Key)).map _=_;rw[Option.map_some,Co (λx hx=>K.tp x (hl x hx)) nd Br hj,DP (List.getElem?_eq_some_iff.mp hj).1];rfl
 ·intro l d n ρ S hl hd hm hlt h;obtain⟨i,rfl⟩:=K.tp d hd;have e1:va (.v (.int (l.length:Nat))) (.m n) (.v (.int i)) ρ S=CO n (.inl i) (.int (l.length:Nat)) ρ S:=by unfold va;simp only[h,fdI];rfl
  rw[e1];unfold CO;simp only[h,fdI];rw[if_pos (by simp[idxs];omega),Oa (Fl (λx hx=>K.tp x (hl x hx)) hm)];rw[List.length_append,List.length_cons,List.length_nil,Cj,List.map_append,List.zip_append (by simp[idxs])];rfl
 ·intro l d n j S hl nd hj h;obtain⟨i,rfl⟩:=K.tp d (hl d (List.mem_of_getElem? hj));unfold xN;rw[d1 h];show(match b3 ((l.map kI).zip (idxs l.length)) (.inl i) with
   |some d=>R.ok (A.v d) S|none=>.stk)=_
  rw[Co (λx hx=>K.tp x (hl x hx)) nd Br hj,DP (List.getElem?_eq_some_iff.mp hj).1]
theorem abW{n k:Nat}{T:ag}{kvs:List (L2.Key×D)}(hk:n<=k)(h:T[k]?=some (.gX kvs)):fA n T (some (.m k))=some (.v (.gX (kvs.map Prod.fst) (kvs.map Prod.snd))):=by unfold fA;simp only[h];rw[if_neg (by omega)]
section
variable {w n:Nat}{g:List (List Int)}{e live:List Bool}{nums:List Int}
theorem KS(W:k7 w n g e):k7 w n (f9 g live) e:=by
 have row:∀r∈f9 g live,∃r0∈g,r=r0.map λx=>if (decide (0<=x)&&bh live x.toNat)=true then x else -1:=λr hr=>by obtain⟨r0,h0,rfl⟩:=List.mem_map.mp hr;exact⟨r0,h0,rfl⟩
 refine⟨by simp[f9,W.lg],W.le,?_,?_,?_⟩;intro r hr;obtain⟨r0,h0,rfl⟩:=row r hr;rw[List.length_map,W.lr _ h0];·intro r hr x hx;obtain⟨r0,h0,rfl⟩:=row r hr;obtain⟨y,hy,rfl⟩:=List.mem_map.mp hx;split;exact W.lo _ h0 y hy;·omega
 ·intro r hr x hx;obtain⟨r0,h0,rfl⟩:=row r hr;obtain⟨y,hy,rfl⟩:=List.mem_map.mp hx;have:=W.hi _ h0 y hy;split<;>omega
theorem G5(W:k7 w n g e){p:Int}{a:Nat}(h0:0<=p)(h1:p<n)(ha:a<w)(hx:0<=cz (f9 g live) p a):bh live (cz (f9 g live) p a).toNat=true:=by
 obtain⟨r,e1,er⟩:=atG (g:=g) h0 (by rw[W.lg];exact h1);have lr:=W.lr r (List.mem_of_getElem? er);have e2:cz (f9 g live) p a=if (decide (0<=r[a]'(by rw[lr];exact ha))&&bh live (r[a]'(by rw[lr];exact ha)).toNat)=true then r[a]'(by rw[lr];exact ha) else -1:=by unfold cz f9;rw[if_pos h0,List.getD_eq_getElem?_getD,List.getD_eq_getElem?_getD,List.getElem?_map,er,Option.map_some,Option.getD_some,List.getElem?_map,List.getElem?_eq_getElem (by rw[lr];exact ha)];rfl
 rw[e2]at hx ⊢;split at hx;rename_i h;rw[if_pos h];rw[Bool.and_eq_true]at h;exact h.2;·omega
theorem Vq(W:k7 w n g e)(hn:n<=2600)(hw:w<=900)(hl:live.length=n){x0 x1 x3 x5 x6 x7 x8 x9 x10 x11:Option A}{S:ag} :fX [10] (cJ (eV 2)) (.nm 10) aL (fX [11] (cJ (eV 10)) (.nm 11) aL (xG (pI (tE (aA tq (eV 11) (eC (.int 0)))) (tE (aA b6 (eV 4) (eV 11)))) (eV 11) (xt jl (eC (.int 1)))))
   [x0,x1,some (.v (aK g)),x3,some (.v (.lst (aN live))),x5,x6,x7,x8,x9,x10,x11] S=.ok (.v (aK (f9 g live))) S:=by
 unfold aK f9;rw[List.map_map];refine bP g aQ (λr=>aQ (r.map λx=>if (decide (0<=x)&&bh live x.toNat)=true then x else -1)) (dM rfl) (by rw[W.lg];omega) λr hr Z=>⟨[x0,x1,some (.v (aK g)),x3,some (.v (.lst (aN live))),x5,x6,x7,x8,x9,some (.v (aQ r)),x11],rfl,rfl,?_⟩;unfold aQ;rw[List.map_map];refine bP r D.int (λx=>D.int (if (decide (0<=x)&&bh live x.toNat)=true then x else -1)) (dM rfl) (by rw[W.lr _ hr];omega) λx hx Z=>⟨[x0,x1,some (.v (aK g)),x3,some (.v (.lst (aN live))),x5,x6,x7,x8,x9,some (.v (aQ r)),some (.v (.int x))],rfl,rfl,?_⟩;by_cases h:0<=x
 ·obtain⟨b,i1,i2⟩:=Tp (l:=live) h (by rw[hl];exact W.hi _ hr x hx);have hb:bh live x.toNat=b:=by unfold bh;rw[List.getD_eq_getElem?_getD,i2];rfl
  have ht:pI (tE (aA tq (eV 11) (eC (.int 0)))) (tE (aA b6 (eV 4) (eV 11))) [x0,x1,some (.v (aK g)),x3,some (.v (.lst (aN live))),x5,x6,x7,x8,x9,some (.v (aQ r)),some (.v (.int x))] Z=.ok b Z:=by rw[jz,show tE (aA tq (eV 11) (eC (.int 0))) [x0,x1,some (.v (aK g)),x3,some (.v (.lst (aN live))),x5,x6,x7,x8,x9,some (.v (aQ r)),some (.v (.int x))] Z=.ok true Z from gh (aD rfl rfl (by rw[mS,decide_eq_true h])),R.ak,if_pos rfl];exact gh (aD rfl rfl (by rw[fG,i1];rfl))
  rw[hb,decide_eq_true h,Bool.true_and];cases b with
  |true=>rw[if_pos rfl];exact Bl ht rfl|false=>rw[if_neg (by decide)];exact yn ht rfl
 ·rw[decide_eq_false h,Bool.false_and,if_neg (by decide)];refine yn (S1:=Z) ?_ rfl;rw[jz,show tE (aA tq (eV 11) (eC (.int 0))) [x0,x1,some (.v (aK g)),x3,some (.v (.lst (aN live))),x5,x6,x7,x8,x9,some (.v (aQ r)),some (.v (.int x))] Z=.ok false Z from gh (aD rfl rfl (by rw[mS,decide_eq_false h]))];rfl
structure Cp (n:Nat) (live:List Bool) (nums:List Int) (i:Nat) (kvs:List (L2.Key×D)):Prop where
 has:∀p<i,bh live p=true->(b3 kvs (.inl (nums.getD p 0))).isSome=true
 is:∀c d,b3 kvs (.inl c)=some d->∃q:Nat,d=.int (q:Nat)/\q<n/\bh live q=true/\nums.getD q 0=c
 len:kvs.length<=i
abbrev Fm(a0 a1 a2 a3 a5:Option A)(live:List Bool)(nums:List Int)(a7 a8 a9 a10 a11:Option A):Env:=[a0,a1,a2,a3,some (.v (.lst (aN live))),a5,some (.v (.lst (nums.map .int))),a7,a8,a9,a10,a11]
abbrev ael:SM:=Ey (aG (bB 7 QS) (mQ (ib (eV 6)) (.tp [.nm 8,.nm 9]) (uP (tE (aA b6 (eV 4) (eV 8))) (CP (eV 7) (eV 9) (J5 (eV 7) (eV 9) (eV 8))) iR)))
theorem KU{kvs:List (L2.Key×D)}{k:L2.Key}{d:D}(h:b3 kvs k=some d):Dj kvs k d=kvs.map λkv=>if kv.1=k then(kv.1,d) else kv:=by unfold Dj;rw[Cn,h];rfl
theorem look_same:∀{kvs:List (L2.Key×D)}{k k':L2.Key}{d:D},b3 kvs k=some d->b3 (kvs.map λkv=>if kv.1=k then(kv.1,d) else kv) k'=b3 kvs k'
 |[],_,_,_,h=>by cases h|p::l,k,k',d,h=>by
  rw[cQ]at h;rw[List.map_cons,cQ,cQ];by_cases e:p.1=k
  ·rw[if_pos e]at h;rw[if_pos e];by_cases e2:p.1=k';·rw[if_pos (show(p.1,d).1=k' from e2),if_pos e2];exact h.symm
   ·rw[if_neg (show¬(p.1,d).1=k' from e2),if_neg e2];by_cases hl:(b3 l k).isSome
    ·obtain⟨d',hd'⟩:=Option.isSome_iff_exists.mp hl;have:∀{l:List (L2.Key×D)},b3 (l.map λkv=>if kv.1=k then(kv.1,d) else kv) k'=b3 l k':=by
      intro l;induction l with
      |nil=>rfl|cons q l ih =>rw[List.map_cons,cQ,cQ,ih];by_cases e3:q.1=k;rw[if_pos e3,if_neg (show¬(q.1,d).1=k' fromλz=>e2 (e.trans (e3.symm.trans z))),if_neg (λz=>e2 (e.trans (e3.symm.trans z)))];·rw[if_neg e3]
     exact this
    ·have:∀{l:List (L2.Key×D)},b3 (l.map λkv=>if kv.1=k then(kv.1,d) else kv) k'=b3 l k':=by
      intro l;induction l with
      |nil=>rfl|cons q l ih =>rw[List.map_cons,cQ,cQ,ih];by_cases e3:q.1=k;rw[if_pos e3,if_neg (show¬(q.1,d).1=k' fromλz=>e2 (e.trans (e3.symm.trans z))),if_neg (λz=>e2 (e.trans (e3.symm.trans z)))];·rw[if_neg e3]
     exact this
  ·rw[if_neg e]at h;rw[if_neg e,look_same h]
theorem Vr(N:jW n nums)(hn:n<=2600)(hl:live.length=n){a0 a1 a2 a3 a5:Option A}(S:ag)
  {M B C:Env->ag->Prop}{T:A->ag->Prop}{E:Er->ag->Prop}(f0:∀T,fA S.length T a0=a0) (f1:∀T,fA S.length T a1=a1) (f2:∀T,fA S.length T a2=a2) (f3:∀T,fA S.length T a3=a3) (f5:∀T,fA S.length T a5=a5)
  (k:∀kvs b8 b9,Cp n live nums n kvs->M (Fm a0 a1 a2 a3 a5 live nums (some (.v (.gX (kvs.map Prod.fst) (kvs.map Prod.snd)))) b8 b9 none none) S) :
  (ael (Fm a0 a1 a2 a3 a5 live nums none none none none none) S).sa M T B C E:=by
 refine Fi ?_;refine bI (dD (x:=.m S.length) (S1:=S++[.gX []]) rfl ?_);refine IY (ds:=jx 0 (nums.map .int)) (S1:=S++[.gX []]) (I:=λdon ρ S'=>∃kvs a8 a9,ρ=Fm a0 a1 a2 a3 a5 live nums (some (.m S.length)) a8 a9 none none/\S'=S++[.gX kvs]/\Cp n live nums don.length kvs) rfl ⟨[],none,none,rfl,rfl,⟨λp h=>absurd h (by simp),λc d h=>(by cases h),by simp⟩⟩ ?_ ?_
 ·rintro don d rest ρ S' hd ⟨kvs,a8,a9,rfl,rfl,K⟩;obtain⟨x,hx,rfl⟩:=NP hd;rw[List.getElem?_map]at hx;obtain⟨c,hc,rfl⟩:=Option.map_eq_some_iff.mp hx;have hi:don.length<n:=by rw[<-N.len];exact(List.getElem?_eq_some_iff.mp hc).1
  have ec:nums.getD don.length 0=c:=by rw[List.getD_eq_getElem?_getD,hc];rfl
  refine⟨Fm a0 a1 a2 a3 a5 live nums (some (.m S.length)) (some (.v (.int ((0+don.length:Nat):Int)))) (some (.v (.int c))) none none,rfl,?_⟩;obtain⟨b,e1,e2⟩:=Tp (l:=live) (x:=((0+don.length:Nat):Int)) (by omega) (by rw[hl];simpa using hi);have ej:((0+don.length:Nat):Int).toNat=don.length:=by simp
  rw[ej]at e2;have hb:bh live don.length=b:=by unfold bh;rw[List.getD_eq_getElem?_getD,e2];rfl
  refine CZ (b:=b) (S1:=S++[.gX kvs]) (gh (aD rfl rfl (by rw[fG,e1];rfl))) ?_;cases b with
  |false=>
   refine Cb ⟨kvs,_,_,rfl,rfl,⟨λp hp hlv=>?_,K.is,by have:=K.len;simp;omega⟩⟩;rw[List.length_append,List.length_cons,List.length_nil]at hp;by_cases h:p<don.length;·exact K.has p h hlv
   ·have:p=don.length:=by omega
    rw[this,hb]at hlv;cases hlv
  |true=>
   have hsl:kvs.length<=2600:=(by have:=K.len;omega);cases hq:b3 kvs (.inl c) with
   |some d0=>
    refine zy (ρ1:=Fm a0 a1 a2 a3 a5 live nums (some (.m S.length)) (some (.v (.int ((0+don.length:Nat):Int)))) (some (.v (.int c))) none none) (S1:=S++[.gX (Dj kvs (.inl c) d0)]) ?_ ?_
    ·have hv:J5 (eV 7) (eV 9) (eV 8) (Fm a0 a1 a2 a3 a5 live nums (some (.m S.length)) (some (.v (.int ((0+don.length:Nat):Int)))) (some (.v (.int c))) none none) (S++[.gX kvs])=.ok (.v d0) (S++[.gX kvs]):=by show(if (jO (.m S.length) (S++[MO.gX kvs])).isSome=true then Nu (.v (.int ((0+don.length:Nat):Int))) (.v (.int c)) (jO (.m S.length) (S++[MO.gX kvs])) (S++[MO.gX kvs]) else .stk)=_;rw[show jO (.m S.length) (S++[MO.gX kvs])=some kvs by unfold jO;simp only[kX]];rw[if_pos (show(some kvs).isSome=true from rfl)];show R.ok (A.v ((b3 kvs (.inl c)).getD _)) _=_;rw[hq];rfl
     unfold CP;rw[hv];show va (.v d0) (.m S.length) (.v (.int c)) _ _=_;unfold va;simp only[kX];show CO S.length (.inl c) d0 _ _=_;unfold CO;simp only[kX];rw[if_pos (by unfold cE;omega),Cc]
    ·have es:∀k',b3 (Dj kvs (.inl c) d0) k'=b3 kvs k':=λk'=>by rw[KU hq,look_same hq]
     refine⟨_,_,_,rfl,rfl,⟨λp hp hlv=>?_,λc' d' h=>K.is c' d' (by rw[<-es];exact h),by rw[KU hq,List.length_map];have:=K.len;simp;omega⟩⟩;rw[es];rw[List.length_append,List.length_cons,List.length_nil]at hp;by_cases h:p<don.length;·exact K.has p h hlv
     ·have:p=don.length:=by omega
      rw[this,ec,hq];rfl
   |none=>
    refine zy (ρ1:=Fm a0 a1 a2 a3 a5 live nums (some (.m S.length)) (some (.v (.int ((0+don.length:Nat):Int)))) (some (.v (.int c))) none none) (S1:=S++[.gX (kvs++[(.inl c,.int ((0+don.length:Nat):Int))])]) ?_ ?_
    ·have hv:J5 (eV 7) (eV 9) (eV 8) (Fm a0 a1 a2 a3 a5 live nums (some (.m S.length)) (some (.v (.int ((0+don.length:Nat):Int)))) (some (.v (.int c))) none none) (S++[.gX kvs])=.ok (.v (.int ((0+don.length:Nat):Int))) (S++[.gX kvs]):=by show(if (jO (.m S.length) (S++[MO.gX kvs])).isSome=true then Nu (.v (.int ((0+don.length:Nat):Int))) (.v (.int c)) (jO (.m S.length) (S++[MO.gX kvs])) (S++[MO.gX kvs]) else .stk)=_;rw[show jO (.m S.length) (S++[MO.gX kvs])=some kvs by unfold jO;simp only[kX]];rw[if_pos (show(some kvs).isSome=true from rfl)];show R.ok (A.v ((b3 kvs (.inl c)).getD _)) _=_;rw[hq];rfl
     unfold CP;rw[hv];show va (.v (.int ((0+don.length:Nat):Int))) (.m S.length) (.v (.int c)) _ _=_;unfold va;simp only[kX];show CO S.length (.inl c) (.int ((0+don.length:Nat):Int)) _ _=_;unfold CO;simp only[kX];rw[if_pos (by unfold cE;omega),Cc,Oa hq]
    ·refine⟨_,_,_,rfl,rfl,⟨λp hp hlv=>?_,λc' d' h=>?_,by have:=K.len;simp;omega⟩⟩
     ·rw[Cm hq];by_cases hc':(Sum.inl (nums.getD p 0):L2.Key)=.inl c;·rw[if_pos hc'];rfl
      ·rw[if_neg hc'];rw[List.length_append,List.length_cons,List.length_nil]at hp;by_cases h:p<don.length;·exact K.has p h hlv
       ·have:p=don.length:=by omega
        rw[this,ec]at hc';exact absurd rfl hc'
     ·rw[Cm hq]at h;split at h;rename_i hcc;have hcc:c'=c:=Sum.inl.inj hcc;exact⟨don.length,by rw[<-Option.some.inj h];simp,hi,hb,by rw[hcc,ec]⟩;·exact K.is c' d' h
 ·rintro ρ S' ⟨kvs,a8,a9,rfl,rfl,K⟩;have ln:(jx 0 (nums.map D.int)).length=n:=by rw[y5,List.length_map,N.len]
  rw[ln]at K;have tk:(S++[MO.gX kvs]).take S.length=S:=by simp
  rw[tk];have em:(Fm a0 a1 a2 a3 a5 live nums (some (.m S.length)) a8 a9 none none).map (fA S.length (S++[.gX kvs]))=Fm a0 a1 a2 a3 a5 live nums (some (.v (.gX (kvs.map Prod.fst) (kvs.map Prod.snd)))) (fA S.length (S++[.gX kvs]) a8) (fA S.length (S++[.gX kvs]) a9) none none:=by simp only[Fm,List.map_cons,List.map_nil,f0,f1,f2,f3,f5,A4,Ru,abW (Nat.le_refl _) kX]
  rw[em];exact k kvs _ _ K
end
def Tq(r:List Int):PySem.PyData:=.list (r.map .int)
theorem RV(r:List Int):toPy (aQ r)=some (Tq r):=by show(kL (r.map D.int)).map PySem.PyData.list=_;rw[mj (pk:=PySem.PyData.int) (λ_=>rfl)];rfl
theorem Ob(r:List Int)(g:List (List Int))(S:ag):eU (.v (aK (r::g))) (.v (.lst [])) S=some (.v (.bl false)):=by
 have e0:eU (.v (aK (r::g))) (.v (.lst [])) S=Eu (.v (aK (r::g))) (.v (.lst [])) S:=rfl;have t:toPy (aK (r::g))=some (.list ((r::g).map Tq)):=by show(kL ((r::g).map aQ)).map PySem.PyData.list=_;rw[mj RV];rfl
 have lay:∀r:List Int,PySem.PyData.canLay0 (Tq r)=true:=λr=>jU r λ_ _=>rfl;have dep:∀r:List Int,PySem.PyData.depth (Tq r)<=1:=λr=>by show PySem.PyData.depthAll (r.map PySem.PyData.int)+1<=1;have:=jV (pk:=PySem.PyData.int) (n:=0) r λ_ _=>Nat.le_refl _;omega
 have sh:PySem.SeqAt.shaped (.list ((r::g).map Tq))=true:=by unfold PySem.SeqAt.shaped;have e1:PySem.PyData.canLay0 (.list ((r::g).map Tq))=PySem.PyData.canLayAll0 ((r::g).map Tq):=rfl;have e2:PySem.PyData.depth (.list ((r::g).map Tq))=PySem.PyData.depthAll ((r::g).map Tq)+1:=rfl;have:=jV (pk:=Tq) (n:=1) (r::g) λa _=>dep a;rw[e1,jU _ λa _=>lay a,e2,decide_eq_true (by omega)];rfl
 rw[e0];unfold Eu;simp only[t,show toPy (.lst [])=some (.list []) from rfl];rw[if_pos ⟨sh,by rfl⟩];rfl
theorem Oc:∀l:List (L2.Key×D),(l.map Prod.fst).zip (l.map Prod.snd)=l|[]=>rfl|p::l=>by rw[List.map_cons,List.map_cons,List.zip_cons_cons,Oc l]
section
variable {w n:Nat}{g:List (List Int)}{e live:List Bool}{nums:List Int}{kvs:List (L2.Key×D)}
def RW(n:Nat)(live:List Bool)(nums:List Int):List Int:=((List.range n).filter λp=>bh live p).map λp=>nums.getD p 0
def Pn(n:Nat)(live:List Bool)(nums:List Int):List D:=(dd (RW n live nums)).map .int
theorem jX{d:D}:d∈Pn n live nums↔∃p<n,bh live p=true/\d=.int (nums.getD p 0):=by unfold Pn RW;simp only[List.mem_map,jo,List.mem_filter,List.mem_range];constructor;rintro⟨x,⟨p,⟨h1,h2⟩,rfl⟩,rfl⟩;exact⟨p,h1,h2,rfl⟩;·rintro⟨p,h1,h2,rfl⟩;exact⟨_,⟨p,⟨h1,h2⟩,rfl⟩,rfl⟩
theorem KW:(Pn n live nums).length<=n:=by unfold Pn RW;rw[List.length_map];refine Nat.le_trans Fb ?_;rw[List.length_map];refine Nat.le_trans (List.length_filter_le _ _) ?_;rw[List.length_range];exact Nat.le_refl _
def KY(g:List (List Int))(nums:List Int)(kvs:List (L2.Key×D))(s:D)(a:Nat):Option D:=match s with
 |.int c=>match b3 kvs (.inl c) with
  |some (.int q)=>if cz g q a<0 then none else some (.int (nums.getD (cz g q a).toNat 0))
  |_=>none
 |_=>none
def RX(e:List Bool)(kvs:List (L2.Key×D))(s:D):Bool:=match s with
 |.int c=>match b3 kvs (.inl c) with
  |some (.int q)=>endAt e q|_=>false
 |_=>false
abbrev qO(g:List (List Int))(e:List Bool)(nums:List Int)(kvs:List (L2.Key×D)):D:=abT g e nums (kvs.map Prod.fst) (kvs.map Prod.snd)
theorem Jk(K:Cp n live nums n kvs){p:Nat}(hp:p<n)(hl:bh live p=true):∃q:Nat,b3 kvs (.inl (nums.getD p 0))=some (.int (q:Nat))/\q<n/\bh live q=true:=by obtain⟨d,hd⟩:=Option.isSome_iff_exists.mp (K.has p hp hl);obtain⟨q,rfl,h1,h2,_⟩:=K.is _ _ hd;exact⟨q,hd,h1,h2⟩
theorem Od{c:Int}{q:Nat}(h:b3 kvs (.inl c)=some (.int (q:Nat))){ρ:Env}{S:ag}(h0:ρ[0]?=some (some (.v (qO g e nums kvs))))(h1:ρ[1]?=some (some (.v (.int c)))) :rV (fZ [70] "samples" (eV 0)) (eV 1) ρ S=.ok (.v (.int (q:Nat))) S:=by
 unfold rV;have hf:fZ [70] "samples" (eV 0) ρ S=.ok (.v (.gX (kvs.map Prod.fst) (kvs.map Prod.snd))) S:=iX (rX h0) (by decide) rfl;rw[hf,R.ak,rX h1,R.ak];unfold xN;have ed:jO (.v (.gX (kvs.map Prod.fst) (kvs.map Prod.snd))) S=some kvs:=by unfold jO;simp only[List.length_map,if_true];rw[Oc]
 rw[ed];show(match b3 kvs (.inl c) with
  |some d=>R.ok (A.v d) S|none=>.stk)=_
 rw[h]
theorem KZ(W:k7 w n g e)(N:jW n nums)(K:Cp n live nums n kvs)(h1:1<=n)(hl0:bh live 0=true)(hk:∀p<n,∀a<w,0<=cz g (p:Nat) a->bh live (cz g (p:Nat) a).toNat=true) :Vk (qO g e nums kvs) w (Pn n live nums) (.int (nums.getD 0 0)) (KY g nums kvs) (RX e kvs):=by
 refine⟨?_,jX.mpr ⟨0,by omega,hl0,rfl⟩,?_,?_,?_,?_⟩;·intro ρ S h;refine ik (rX h) rfl rfl (yp rfl (kD (aD rfl rfl ?_)));rw[fG,show(0:Int)=((0:Nat):Int) from rfl,N.at2 (by omega)];rfl
 ·intro ρ S n3 n5 sts gl s a h0 h3 h5 s3 s5 hc hs h7 ha;obtain⟨p,hp,hl,rfl⟩:=jX.mp hs;obtain⟨q,e1,hq,lq⟩:=Jk K hp hl;refine ik (rX h0) rfl (Mm h3 h5 s3 s5 hc h7) ?_;obtain⟨r,i1,i2⟩:=Vp W (p:=(q:Nat)) (by omega) (by omega) ha;have hset:bB 3 (aA b6 (aA b6 (fZ [70] "goal_rows" (eV 0)) (rV (fZ [70] "samples" (eV 0)) (eV 1))) (eV 2)) [some (.v (qO g e nums kvs)),some (.v (.int (nums.getD p 0))),some (.v (.int (a:Nat))),none] S=.nx [some (.v (qO g e nums kvs)),some (.v (.int (nums.getD p 0))),some (.v (.int (a:Nat))),some (.v (.int (cz g (q:Nat) a)))] S:=by refine lJ (x:=.v (.int (cz g (q:Nat) a))) (aD (aD rfl (Od e1 rfl rfl) (w:=.v (aQ r)) ?_) rfl ?_);unfold aK;rw[fG,i1];rfl;·unfold aQ;rw[fG,i2];rfl
  refine yp rfl (bz hset (kD ?_));have es:KY g nums kvs (.int (nums.getD p 0)) a=if cz g (q:Nat) a<0 then none else some (.int (nums.getD (cz g (q:Nat) a).toNat 0)):=by unfold KY;simp only[e1]
  rw[es];by_cases hneg:cz g (q:Nat) a<0;rw[if_pos hneg];exact Bl (S1:=S) (gh (aD rfl rfl (by rw[NH,decide_eq_true hneg]))) rfl;·rw[if_neg hneg];refine yn (S1:=S) (gh (aD rfl rfl (by rw[NH,decide_eq_false hneg]))) (aD rfl rfl ?_);have b:=(Ck W (p:=(q:Nat)) (by omega) ha).2;rw[fG,show cz g (q:Nat) a=(((cz g (q:Nat) a).toNat:Nat):Int) by omega,N.at2 (by omega)];rfl
 ·intro s hs a ha t ht;obtain⟨p,hp,hl,rfl⟩:=jX.mp hs;obtain⟨q,e1,hq,lq⟩:=Jk K hp hl;have es:KY g nums kvs (.int (nums.getD p 0)) a=if cz g (q:Nat) a<0 then none else some (.int (nums.getD (cz g (q:Nat) a).toNat 0)):=by unfold KY;simp only[e1]
  rw[es]at ht;split at ht;·cases ht
  ·rename_i hneg;have b:=(Ck W (p:=(q:Nat)) (by omega) ha).2;exact jX.mpr ⟨(cz g (q:Nat) a).toNat,by omega,hk q hq a ha (by omega),(Option.some.inj ht).symm⟩
 ·intro t ht;obtain⟨p,_,_,rfl⟩:=jX.mp ht;rfl
 ·intro ρ S s h0 h9 hs;obtain⟨p,hp,hl,rfl⟩:=jX.mp hs;obtain⟨q,e1,hq,lq⟩:=Jk K hp hl;have es:RX e kvs (.int (nums.getD p 0))=endAt e (q:Nat):=by unfold RX;simp only[e1]
  rw[es];refine ik (rX h0) rfl (ao (rX h9) rfl) (yp rfl (kD (aD rfl (Od e1 rfl rfl) ?_)));rw[fG,RU W (p:=(q:Nat)) (by omega) (by omega)];rfl
theorem Fn(K:Cp n live nums n kvs){p:Nat}(hp:p<n)(hl:bh live p=true):∃q:Nat,b3 kvs (.inl (nums.getD p 0))=some (.int (q:Nat))/\q<n/\bh live q=true/\nums.getD q 0=nums.getD p 0:=by obtain⟨d,hd⟩:=Option.isSome_iff_exists.mp (K.has p hp hl);obtain⟨q,rfl,h1,h2,h3⟩:=K.is _ _ hd;exact⟨q,hd,h1,h2,h3⟩
def Vs(g:List (List Int))(e:List Bool)(kvs:List (L2.Key×D))(s:D):zr:=match s with
 |.int c=>match b3 kvs (.inl c) with
  |some (.int q)=>iM g e q|_=>λ_=>false
 |_=>λ_=>false
theorem Vt(W:k7 w n g e)(N:jW n nums)(K:Cp n live nums n kvs)(C:C7 n g e nums)(h1:1<=n)(hl0:bh live 0=true)(hk:∀p<n,∀a<w,0<=cz g (p:Nat) a->bh live (cz g (p:Nat) a).toNat=true)
  (HL:∀p<n,bh live p=true->kN g e (p:Nat)){g':List (List Int)}{e':List Bool}(T:yr (KY g nums kvs) (RX e kvs) w (.int (nums.getD 0 0)) g' e'):yr wA fnL w (iM g e 0) g' e':=by
 have M:=KZ W N K h1 hl0 hk;have lo:∀{p q:Nat},b3 kvs (.inl (nums.getD p 0))=some (.int (q:Nat))->Vs g e kvs (.int (nums.getD p 0))=iM g e (q:Nat):=λ{p q} h=>by unfold Vs;simp only[h]
 have lp:∀{p:Nat},p<n->bh live p=true->Vs g e kvs (.int (nums.getD p 0))=iM g e (p:Nat):=λ{p} hp hl=>by obtain⟨q,e1,hq,_,e2⟩:=Fn K hp hl;rw[lo e1];exact(C.iff q p hq hp).mp e2
 have:=T.map (stp':=wA) (fn':=fnL) (λs=>s∈Pn n live nums) (Vs g e kvs) M.b1 M.l1 (λa b ha hb h=>?_) (λs hs k hkw=>?_) λs hs=>?_;rw[lp h1 hl0]at this;exact this;·obtain⟨p,hp,hl,rfl⟩:=jX.mp ha;obtain⟨q,hq,hlq,rfl⟩:=jX.mp hb;rw[lp hp hl,lp hq hlq]at h;rw[(C.iff p q hp hq).mpr h]
 ·obtain⟨p,hp,hl,rfl⟩:=jX.mp hs;obtain⟨q,e1,hq,lq,e2⟩:=Fn K hp hl;have es:KY g nums kvs (.int (nums.getD p 0)) k=if cz g (q:Nat) k<0 then none else some (.int (nums.getD (cz g (q:Nat) k).toNat 0)):=by unfold KY;simp only[e1]
  have eg:=Pj W (p:=(q:Nat)) (by omega) hkw;rw[es,lo e1];unfold wA;rw[NS,<-eg];by_cases hneg:cz g (q:Nat) k<0;·rw[if_pos hneg,if_pos (wB hneg)];rfl
  ·have b:=(Ck W (p:=(q:Nat)) (by omega) hkw).2;have hlv:=hk q hq k hkw (by omega);have hx:(cz g (q:Nat) k).toNat<n:=by omega
   have L:=HL _ hx hlv;rw[show(((cz g (q:Nat) k).toNat:Nat):Int)=cz g (q:Nat) k by omega]at L;rw[if_neg hneg,if_neg (lK.mpr L),Option.map_some,lp hx hlv,show(((cz g (q:Nat) k).toNat:Nat):Int)=cz g (q:Nat) k by omega]
 ·obtain⟨p,hp,hl,rfl⟩:=jX.mp hs;obtain⟨q,e1,hq,lq,e2⟩:=Fn K hp hl;rw[lo e1];unfold RX;simp only[e1];rfl
theorem Fo(W:k7 w n g e)(hn:n<=2600)(hw:w<=900)(S:ag):∃(g':List (List Int)) (e':List Bool) (m:Nat),kz [.v (bX g e),.v (.int (w:Nat))] S=.ok (.v (bX g' e')) S/\k7 w m g' e'/\m<=n/\Am w (iM g e (nF n)) g' e':=by
 obtain⟨live,hlive,LV⟩:=Vd W hn (by omega) S;have ll:=LV.len;have key:∃x S',oq [.v (bX g e),.v (.int (w:Nat))] S=.ok x S'/\∃(g':List (List Int)) (e':List Bool) (m:Nat),x=.v (bX g' e')/\S'=S/\k7 w m g' e'/\m<=n/\Am w (iM g e (nF n)) g' e':=by
  refine KG rfl ?_;unfold vh;refine bI (Rz (x:=.v (bX g e)) (ρ1:=[some (.v (bX g e)),some (.v (.int (w:Nat))),some (.v (aK g)),some (.v (.lst (aN e))),none,none,none,none,none,none,none,none]) (S1:=S) rfl rfl ?_);refine bI (dD (x:=.v (.lst (aN live))) (S1:=S) (dA rfl hlive) ?_);have empty:∀ρ:Env,(mK (aa (cn ah) (aa (cn ah) ah))) ρ S=.ok (.v (bX [] [])) S:=λρ=>rfl;have we:k7 w 0 [] []:=⟨rfl,rfl,λr h=>(nomatch h),λr h=>(nomatch h),λr h=>(nomatch h)⟩;cases g with
  |nil =>refine bI (CZ (b:=true) (S1:=S) rfl ?_);rw[if_pos rfl];exact wz (empty _) ⟨[],[],0,rfl,rfl,we,by omega,.inl ⟨wB (by have:n=0:=W.lg.symm;rw[this];decide),rfl,rfl⟩⟩|cons r0 g0=>
   have n1:1<=n:=(by have:=W.lg;rw[List.length_cons]at this;omega);obtain⟨b,i1,i2⟩:=Tp (l:=live) (x:=0) (by omega) (by rw[ll];omega);have hb:bh live 0=b:=(by unfold bh;rw[List.getD_eq_getElem?_getD,show(0:Nat)=(0:Int).toNat from rfl,i2];rfl);have ht:uA (tE (aA eU (eV 2) (cn ah))) (hV (tE (aA b6 (eV 4) (eC (.int 0))))) [some (.v (bX (r0::g0) e)),some (.v (.int (w:Nat))),some (.v (aK (r0::g0))),some (.v (.lst (aN e))),some (.v (.lst (aN live))),none,none,none,none,none,none,none] S=.ok (!b) S:=(by rw[BU,show tE (aA eU (eV 2) (cn ah)) [some (.v (bX (r0::g0) e)),some (.v (.int (w:Nat))),some (.v (aK (r0::g0))),some (.v (.lst (aN e))),some (.v (.lst (aN live))),none,none,none,none,none,none,none] S=.ok false S from gh (aD rfl rfl (Ob r0 g0 S)),R.ak,if_neg (by decide)];exact NO (gh (aD rfl rfl (by rw[fG,i1];rfl))));refine bI (CZ ht ?_);cases b with
   |false =>rw[if_pos (show(!false)=true from rfl)];refine wz (empty _) ⟨[],[],0,rfl,rfl,we,by omega,.inl ⟨?_,rfl,rfl⟩⟩;have:¬kN (r0::g0) e ((0:Nat):Int):=λz=>(by have:=(LV.iff 0 (by omega)).mpr z;rw[hb]at this;cases this);rw[show nF n=((0:Nat):Int) from if_neg (by omega)];exact Classical.byContradiction λz=>this (lK.mp z)|true =>rw[if_neg (show¬(!true)=true by decide)];refine Cb ?_;refine bI (dD (Vq W hn hw ll) ?_);have Wk:=KS (live:=live) W;obtain⟨nums,hnums,N,C⟩:=RQ Wk (λp k h=>E9 W LV h) hn (by omega) S;refine bI (dD (x:=.v (.lst (nums.map .int))) (S1:=S) (dA rfl hnums) ?_);refine bI (Vr (n:=n) (a0:=some (.v (bX (r0::g0) e))) (a1:=some (.v (.int (w:Nat)))) (a2:=some (.v (aK (r0::g0)))) (a3:=some (.v (.lst (aN e)))) (a5:=some (.v (aK (f9 (r0::g0) live)))) N hn ll S (λ_=>rfl) (λ_=>rfl) (λ_=>rfl) (λ_=>rfl) (λ_=>rfl) ?_);intro kvs b8 b9 K;obtain⟨g',e',m,q1,q2,_,q4,q5⟩:=Vo (KZ Wk N K n1 hb (λp hp a ha h=>G5 W (by omega) (by omega) ha h)) (Zg ⟨λd hd=>by obtain⟨p,_,_,rfl⟩:=jX.mp hd;exact⟨_,rfl⟩⟩) (by have:=KW (n:=n) (live:=live) (nums:=nums);omega) hw S;refine wz (x:=.v (bX g' e')) (S1:=S) (dA (xs:=[.v (qO (f9 (r0::g0) live) e nums kvs),.v (.int (w:Nat))]) (S1:=S) (ao (Zf rfl) rfl) q1) ⟨g',e',m,rfl,rfl,q2,?_,.inr ⟨?_,?_⟩⟩;have:=KW (n:=n) (live:=live) (nums:=nums);omega;rw[show nF n=((0:Nat):Int) from if_neg (by omega)];exact lK.mpr ((LV.iff 0 (by omega)).mp hb);·rw[show nF n=(0:Int) from if_neg (by omega),<-Bp W LV];exact Vt Wk N K C n1 hb (λp hp a ha h=>G5 W (by omega) (by omega) ha h) (λp hp hl=>by rw[<-lK,Bp W LV,lK];exact(LV.iff p hp).mp hl) q5
 obtain⟨x,S',e1,g',e',m,rfl,rfl,h1,h2,h3⟩:=key;refine⟨g',e',m,?_,h1,h2,h3⟩;show MN S'.length _=_;rw[e1,GW];simp
end
def Oe:D->Bool|.non=>true|.bl _=>true|.int _=>true|.tup _=>true|.lst _=>true|_=>false
def Fp(l:List Nat):Bool:=l.all λc=>decide (c∈abc)
theorem Mn{l:List Nat}{S S1:ag}{own:List Nat}{i:Nat}{ρ:Env}{m:EM}{mi:IM}(f:Nat->Bool)(hi:mi ρ S=.ok (l.map λc=>D.str (sL [c])) S1)(hl:l.length<=1000000)
  (hm:∀c Z,m ((aT ρ own).set i (some (.v (.str (sL [c]))))) Z=.ok (.v (.bl (f c))) Z):fX own mi (.nm i) aL m ρ S=.ok (.v (.lst (l.map λc=>D.bl (f c)))) S1:=
 bP l (λc=>D.str (sL [c])) (λc=>D.bl (f c)) hi hl λc _ Z=>⟨_,jm,rfl,hm c Z⟩
theorem DS{l:List Nat}{S:ag}(hl:l.length<=1000000):mf [.v (.str (sL l))] S=.ok (.v (.bl (Fp l))) S:=by have e:=Mn (own:=[1]) (i:=1) (ρ:=[some (.v (.str (sL l))),none]) (S:=S) (S1:=S) (mi:=iStr (eV 0)) (λc=>decide (c∈abc)) (m:=aA Ly (eV 1) (eC (.str "abcdefghijklmnopqrstuvwxyz"))) (by simp) hl (λc Z=>by simp[aT,U1]);simp[mf,ya,e,Fp,List.all_map]
theorem Vu{d:D}{S:ag}(h:Oe d=true):mf [.v d] S=.ok (.v (.bl false)) S:=by cases d<;>first|(cases h;done)|simp[mf,ya,uD]
def Fq(l:List Nat):Bool:=(l.zip (l.drop 1)).all λp=>decide (p.1<p.2)
def m9(l:List Nat):Bool:=Fp l&&(decide ((1:Int)<=(l.length:Int))&&(decide ((l.length:Int)<=8)&&Fq l))
theorem G6{l:List Nat}{S:ag}(hl:l.length<=1000000):c7 [.v (.str (sL l))] S=.ok (.v (.bl (m9 l))) S:=by
 have e:=bP (own:=[1,2]) (ρ:=[some (.v (.str (sL l))),none,none]) (S:=S) (S1:=S) (mi:=tQ (aa (eV 0) (aa (Wf (eV 0) (CK (eC (.int 1))) CJ) ah))) (g:=.tp ((.nm 1)::((.nm 2)::[]))) (t:=aL) (m:=aA CF (eV 1) (eV 2))
  (l.zip (l.drop 1)) (λp=>.tup [.str (sL [p.1]),.str (sL [p.2])]) (λp=>.bl (decide (p.1<p.2))) (by refine YD (S1:=S) ?_;simp[abC hl]) (by simp;omega) (λp _ Z=>⟨_,by simp[aT];rfl,rfl,by simp⟩)
 simp only[c7,r6,fY,m9];cases h1:Fp l with
 |false=>simp[DS hl,h1]|true=>
  by_cases h2:(1:Int)<=(l.length:Int);·by_cases h3:(l.length:Int)<=8;simp[DS hl,h1,rZ hl,h2,h3,e,Fq,List.all_map];·simp[DS hl,h1,rZ hl,h2,h3]
  ·simp[DS hl,h1,rZ hl,h2]
theorem vm{d:D}{S:ag}(h:Oe d=true):c7 [.v d] S=.ok (.v (.bl false)) S:=by simp[c7,r6,Vu h]
def Bu(l:List Nat):Bool:=l.all λc=>decide (c∈[49,50,51])
theorem Vv:("123" : Str)=sL [49,50,51]:=by decide +kernel
theorem RY{l:List Nat}{n:Int}{S:ag}(hl:l.length<=1000000):fe [.v (.str (sL l)),.v (.int n)] S=.ok (.v (.bl (decide ((l.length:Int)=n)&&Bu l))) S:=by have e:=Mn (own:=[2]) (i:=2) (ρ:=[some (.v (.str (sL l))),some (.v (.int n)),none]) (S:=S) (S1:=S) (mi:=iStr (eV 0)) (λc=>decide (c∈[49,50,51])) (m:=aA Ly (eV 2) (eC (.str "123"))) (by simp) hl (λc Z=>by simp[aT,Vv]);by_cases h:(l.length:Int)=n;subst h;simp[fe,oZ,e,Bu,rZ hl,List.all_map];·simp[fe,oZ,rZ hl,h]
theorem yz{d:D}{n:Int}{S:ag}(h:Oe d=true):fe [.v d,.v (.int n)] S=.ok (.v (.bl false)) S:=by cases d<;>first|(cases h;done)|simp[fe,oZ]
def vn:D->Bool|.str x=>m9 x.cps.toList|_=>false
def Tr:D->Bool|.str x=>decide (x.cps.toList.length<=1000000)|d=>Oe d
def ay(l c:List Nat):D:=.obj 0 [("own_letters",.str (sL l)),("own_digits",.str (sL c))]
def Fs(d:D):Er:=⟨10,[("code",.str "InvalidAlphabet"),("given",d)]⟩
theorem G7{d:D}{S:ag}(h:Tr d=true):c7 [.v d] S=.ok (.v (.bl (vn d))) S:=by
 cases d with
 |str x =>rw[Km x];rw[G6 (by simpa[Tr]using h)];simp[vn]|non=>exact vm h|bl _=>exact vm h|int _=>exact vm h|tup _=>exact vm h|lst _=>exact vm h|obj _ _=>cases h|cls _=>cases h|fz _=>cases h|ty _=>cases h|fn _=>cases h|adr _=>cases h|ptr _=>cases h|gX _ _=>cases h|exc _ _=>cases h|yD _ _=>cases h
def zg(e:D)(n:Nat):Bool:=match e with
 |.str x=>decide ((x.cps.toList.length:Int)=(n:Int))&&Bu x.cps.toList|_=>false
theorem K1{e:D}{n:Nat}{S:ag}(h:Tr e=true):fe [.v e,.v (.int n)] S=.ok (.v (.bl (zg e n))) S:=by
 cases e with
 |str x =>rw[Km x];rw[RY (by simpa[Tr]using h)];simp[zg]|non=>exact yz h|bl _=>exact yz h|int _=>exact yz h|tup _=>exact yz h|lst _=>exact yz h|obj _ _=>cases h|cls _=>cases h|fz _=>cases h|ty _=>cases h|fn _=>cases h|adr _=>cases h|ptr _=>cases h|gX _ _=>cases h|exc _ _=>cases h|yD _ _=>cases h
theorem Jl{l:List Nat}(h:m9 l=true):1<=l.length/\l.length<=8:=by unfold m9 at h;simp only[Bool.and_eq_true,decide_eq_true_eq]at h;omega
def G8(d e:D)(S:ag):R A:=match d with
 |.str x=>if m9 x.cps.toList=true then(if zg e x.cps.toList.length=true then .ok (.v (.obj 0 [("own_letters",d),("own_digits",e)])) S else .err (Fs e) S) else .err (Fs d) S
 |_=>.err (Fs d) S
theorem Of{d e:D}{S:ag}(hd:Tr d=true)(he:Tr e=true):Nd 0 S.length (bD [.m S.length,.v d,.v e] (S++[.ins 0 []]))=G8 d e S:=by
 have bad:vn d=false->bD [.m S.length,.v d,.v e] (S++[.ins 0 []])=.err (Fs d) (S++[.ins 0 []]):=λh1=>by simp[bD,kB,G7 hd,h1,Fs,LD,valD]
 cases d with
 |str x=>
  cases h1:m9 x.cps.toList with
  |false =>rw[bad (by simp[vn,h1]),ID rfl];simp[G8,h1]|true=>
   have hl:=Jl h1;have e1:∀Z,c7 [.v (.str x)] Z=.ok (.v (.bl true)) Z:=λZ=>(by rw[G7 hd];simp[vn,h1]);have e2:∀Z,cj [.v (.str x)] Z=some (.v (.int (x.cps.toList.length:Int))):=λZ=>by
    conv=>lhs;rw[Km x]
    rw[rZ (by omega)]
   cases h2:zg e x.cps.toList.length with
   |false =>have q:bD [.m S.length,.v (.str x),.v e] (S++[.ins 0 []])=.err (Fs e) (S++[.ins 0 []]):=(by simp only[bD,kB];simp[e1,e2,-Array.length_toList,K1 he,h2,Fs,LD,valD]);rw[q,ID rfl];simp[G8,h1,h2,-Array.length_toList]|true =>have q:bD [.m S.length,.v (.str x),.v e] (S++[.ins 0 []])=.ok (.v .non) (S++[.ins 0 [("own_letters",.str x),("own_digits",e)]]):=(by simp only[bD,kB];simp[e1,e2,-Array.length_toList,K1 he,h2,putD,show¬(("own_letters" : Str) = "own_digits") by decide +kernel]);rw[q,L9 rfl];simp[G8,h1,h2,-Array.length_toList]
 |_ =>rw[bad (by simp[vn]),ID rfl];rfl
section
variable {l c:List Nat}
theorem Ap:([("own_letters",D.str (sL l)),("own_digits",D.str (sL c))]:List (Str×D)).lookup ("own_letters" : Str)=some (D.str (sL l)):=rfl
theorem Jm:([("own_letters",D.str (sL l)),("own_digits",D.str (sL c))]:List (Str×D)).lookup ("own_digits" : Str)=some (D.str (sL c)):=by rw[List.lookup_cons,show(("own_digits" : Str) == "own_letters")=false by decide +kernel];rfl
end
theorem DT{S:ag}{n:Nat}{x:MO}{L:List MO}(h:n<S.length):(S++L).set n x=S.set n x++L:=List.set_append_left _ _ h
theorem DU{S:ag}{n:Nat}{x:MO}{L:List MO}(h:S[n]?=some x):(S++L)[n]?=some x:=by rw[List.getElem?_append_left (List.getElem?_eq_some_iff.mp h).1];exact h
theorem Vw{ys:List D}{C:Nat->Prop}(h:∀y∈ys,∃c,C c/\y=.str (sL [c])):∃cs:List Nat,ys=cs.map (λc=>D.str (sL [c]))/\∀c∈cs,C c:=by
 induction ys with
 |nil=>exact⟨[],rfl,by simp⟩|cons y ys ih =>obtain⟨c,hc,rfl⟩:=h y (by simp);obtain⟨cs,rfl,h2⟩:=ih λy hy=>h y (by simp[hy]);exact⟨c::cs,rfl,by simpa using ⟨hc,h2⟩⟩
theorem Ft:∀{l:List Nat},l.Pairwise (·<·)->Fq l=true|[],_=>rfl|[_],_=>rfl|a::b::l,h=>by rw[List.pairwise_cons]at h;have:=Ft h.2;unfold Fq at this ⊢;simp only[List.drop_succ_cons,List.drop_zero,List.zip_cons_cons,List.all_cons]at this ⊢;rw[Bool.and_eq_true];exact⟨by simpa using h.1 b (by simp),this⟩
theorem abX(cs:List Nat):(cs.map λc=>[c]).flatten=cs:=by
 induction cs with
 |nil=>rfl|cons c cs ih=>simp[ih]
theorem aem(cs:List Nat):((cs.map λc=>[c]).map List.length).sum=cs.length:=by
 induction cs with
 |nil=>rfl|cons c cs ih=>simp at ih ⊢;omega
theorem abY{ρ:Env}{S S1:ag}{mb:EM}{cs:List Nat}(h:mb ρ S=.ok (.v (.lst (cs.map λc=>D.str (sL [c])))) S1)(hl:cs.length<=1000000):JX (eC (.str "")) mb ρ S=.ok (.v (.str (sL cs))) S1:=by have e:=UW (ma:=eC (.str "")) (mb:=mb) (ρ:=ρ) (S:=S) (S1:=S1) (a:=[]) (zs:=cs.map λc=>[c]) rfl (by rw[h,List.map_map];rfl) (by rw[aem];simpa using hl);rw[e,GU,abX]
structure nc (l c:List Nat):Prop where
 low:∀x∈l,x∈abc
 up:l.Pairwise (·<·)
 l1:1<=l.length
 l8:l.length<=8
 lc:c.length=l.length
 dig:∀x∈c,x∈[49,50,51]
theorem nc.lets{l c:List Nat}(h:nc l c):m9 l=true:=by unfold m9 Fp;have h1:=h.l1;have h2:=h.l8;simp only[Bool.and_eq_true,List.all_eq_true,decide_eq_true_eq];exact⟨h.low,by omega,by omega,Ft h.up⟩
theorem nc.aeC{l c:List Nat}(h:nc l c):Bu c=true:=by unfold Bu;simp only[List.all_eq_true,decide_eq_true_eq];exact h.dig
theorem Po:("" : Str)=sL []:=by decide +kernel
theorem R0:("1123" : Str)=sL [49,49,50,51]:=by decide +kernel
theorem K2{l c:List Nat}{S:ag}(h:nc l c):G8 (.str (sL l)) (.str (sL c)) S=.ok (.v (ay l c)) S:=by
 have e:zg (.str (sL c)) l.length=true:=by simp[zg,h.lc,h.aeC]
 simp[G8,h.lets,e,ay]
theorem K3{l:List Nat}(h:l.length<=1000000):Tr (.str (sL l))=true:=by simpa[Tr]using h
theorem aen{l c:List Nat}{S:ag}:Kr [0] "own_letters" S (c0 (.v (ay l c)) S)=.ok (.v (.str (sL l))) S:=lU (k:=0) (List.mem_singleton.mpr rfl) Ap
@[simp] theorem aeo{P:Addr}{q:Str}{i:Nat}{ρ:Env}{S:ag}:aaZ 0 P q i ρ (.tab P q::S)=.ok (.v (.fn i)) (.tab P q::S):=by simp[aaZ]
@[simp] theorem abZ{fM:Env->FM}{r:AM}{ρ:Env}{S:ag}:XX fM r ρ S=(r ρ S).bind λxs S1=>fM ρ xs S1:=rfl
theorem Zh{l c:List Nat}{m:Str}(h1:m ≠ "own_letters")(h2:m ≠ "own_digits"):([("own_letters",D.str (sL l)),("own_digits",D.str (sL c))]:List (Str×D)).lookup m=none:=by
 have e1:(m == ("own_letters" : Str))=false:=by simpa using h1
 have e2:(m == ("own_digits" : Str))=false:=by simpa using h2
 rw[List.lookup_cons,e1];simp only;rw[List.lookup_cons,e2];rfl
theorem Zi{l c:List Nat}{m:Str}{S:ag}{u:R A}(h1:m ≠ "own_letters" := by decide +kernel)(h2:m ≠ "own_digits" := by decide +kernel):EX 0 m S (c0 (.v (ay l c)) S) u=u:=Ma (Zh h1 h2)
def Bv(l:List Nat):D->Bool|.str x=>x.cps.toList.all λc=>decide (c∈l)|_=>false
theorem Pp{l c:List Nat}{d:D}{S:ag}(h:Tr d=true):bw [.v (ay l c),.v d] S=.ok (.v (.bl (Bv l d))) S:=by
 cases d with
 |str x=>
  rw[Km x];have hl:x.cps.toList.length<=1000000:=by simpa[Tr]using h
  generalize x.cps.toList=w at hl ⊢;have e:=Mn (own:=[2]) (i:=2) (ρ:=[some (.v (ay l c)),some (.v (.str (sL w))),none]) (S:=S) (S1:=S) (mi:=iStr (eV 1)) (λc=>decide (c∈l)) (m:=aA Ly (eV 2) (fZ [0] "own_letters" (eV 0))) (by simp) hl (λc Z=>by simp[aT,aen]);simp[bw,cG,e,Bv,List.all_map]
 |non=>simp[bw,cG,Bv]|bl _=>simp[bw,cG,Bv]|int _=>simp[bw,cG,Bv]|tup _=>simp[bw,cG,Bv]|lst _=>simp[bw,cG,Bv]|obj _ _=>cases h|cls _=>cases h|fz _=>cases h|ty _=>cases h|fn _=>cases h|adr _=>cases h|ptr _=>cases h|gX _ _=>cases h|exc _ _=>cases h|yD _ _=>cases h
theorem Mo{l c:List Nat}{S:ag}{u:R A}:EX 0 "is_word" S (c0 (.v (ay l c)) S) u=u:=Zi
theorem K4{i a b:Int}{S:ag}:gC [.v (.int i),.v (.int a),.v (.int b)] S=.ok (.v (.bl (decide (a<=i)&&decide (i<=b)))) S:=by by_cases h:a<=i;simp[gC,wx,rj,wu,h,TU];·simp[gC,wx,rj,wu,h,TU]
theorem Mp{l c:List Nat}{S:ag}:eO [.v (ay l c)] S=.ok (.v (.str (sL l))) S:=by simp[eO,qQ,ay,lU (k:=0) (List.mem_singleton.mpr rfl) Ap]
theorem Vx{N B C:Env->ag->Prop}{T:A->ag->Prop}{E:Er->ag->Prop}{ρ:Env}{S:ag}(k:N ρ S):(iR ρ S).sat N T B C E:=k
section
variable {α:Type} [DecidableEq α] {mk:α->D}{nk:α->NK}
theorem Og:∀{ks:List D}{k:NK},(ks.zip (List.replicate ks.length (D.int 0))).map (λp=>if gN p.1=some k then D.int 0 else p.2)=List.replicate ks.length (.int 0)|[],_=>rfl|x::ks,k=>by rw[List.length_cons,List.replicate_succ,List.zip_cons_cons,List.map_cons,Og];simp
theorem Oh(hf:∀b,Dx mk nk b)(hi:∀b c,nk b=nk c->b=c):∀(l acc:List α),acc.Nodup ->
  EK (acc.map mk,List.replicate acc.length (.int 0)) (l.map λa=>(mk a,D.int 0))=((PM acc l).map mk,List.replicate (PM acc l).length (.int 0))
 |[],acc,_=>rfl|a::l,acc,nd=>by
  have e1:AY (acc.map mk,List.replicate acc.length (.int 0)) (mk a,.int 0)=((rp acc a).map mk,List.replicate (rp acc a).length (.int 0)):=by unfold AY;rw[(hf a).key];simp only;unfold rp;by_cases h:a∈acc;rw[if_pos h];obtain⟨j,hj⟩:=List.mem_iff_getElem?.mp h;unfold l5;have:=wC (mk:=mk) (nk:=nk) (ks:=acc) (xs:=List.replicate acc.length (D.int 0)) (a:=a) (j:=j) (by simp) (λb _=>hf b) (λb _ c _=>hi b c) nd hj;rw[this,List.getElem?_replicate,if_pos (List.getElem?_eq_some_iff.mp hj).1];simp only[Option.isSome_some,if_true];have z:=Og (ks:=acc.map mk) (k:=nk a);rw[List.length_map]at z;rw[z];·rw[if_neg h];rw[Ci (mk:=mk) (nk:=nk) (λb _=>hf b) (λb _ e=>hi b a e) h];rw[List.length_append,List.length_singleton,List.replicate_succ']
  show EK (AY _ _) _=_;rw[e1];exact Oh hf hi l (rp acc a) (NW nd)
theorem K5(hf:∀b,Dx mk nk b):∀l:List α,EJ (l.map λa=>D.tup [mk a,.int 0])=some (l.map λa=>(mk a,D.int 0))|[]=>rfl|a::l=>by rw[List.map_cons];unfold EJ;rw[(hf a).key,K5 hf l];rfl
theorem R3(hf:∀b,Dx mk nk b)(hi:∀b c,nk b=nk c->b=c)(hk:∀a,FY (mk a)=none){l:List α}(hl:l.length<=1000000)(S:ag):pf [.v (.lst (l.map mk))] S=.ok (.v (.lst ((dd l).map mk))) S:=by
 have h1:fX [1] (cJ (eV 0)) (.nm 1) aL (mK (aa (eV 1) (aa (eC (.int 0)) ah))) [some (.v (.lst (l.map mk))),none] S=.ok (.v (.lst (l.map λa=>D.tup [mk a,.int 0]))) S:=
  bP l mk (λa=>D.tup [mk a,.int 0]) (dM rfl) hl λa _ Z=>⟨[some (.v (.lst (l.map mk))),some (.v (mk a))],rfl,rfl,rfl⟩
 refine yp rfl (kD (aW (ao (aW (ao h1 rfl) (x:=.v (if l=[]then .gX [] []else .yD ((dd l).map mk) (List.replicate (dd l).length (.int 0)))) ?_) rfl) ?_));·cases l with|nil=>rfl|cons a l =>rw[if_neg (by simp)];have e1:Ab [.v (.lst ((a::l).map λa=>D.tup [mk a,.int 0]))] S=none:=(by show((F0 ((a::l).map λa=>D.tup [mk a,.int 0])).map (Q4 [])).map _=none;rw[List.map_cons];unfold F0;rw[hk a];rfl);unfold wg;rw[e1];show(EJ ((a::l).map λa=>D.tup [mk a,.int 0])).map _=_;rw[K5 hf,Option.map_some];have:=Oh hf hi (a::l) [] .nil;simp only[List.map_nil,List.length_nil,List.replicate_zero]at this;rw[this]
 ·cases l with|nil=>rfl|cons a l=>rw[if_neg (by simp)];rfl
end
theorem R4{w:Nat}{ps:List (Int×List Int)}{S:ag}(nd:ps.Nodup)(ok:∀p∈ps,Fd w p) :y7 [.v (.lst (ps.map bj))] S=some (.v (.lst ((fc (g8 BB) ps).map bj))):=by
 have h:=N1 (S:=[.x .sk (ps.map bj) []]) (n:=0) nd ok rfl;unfold Aa at h;simp only[List.getElem?_cons_zero]at h;cases ps with
 |nil=>rfl|cons p r =>have e1:EL [.v (.lst ((p::r).map bj))] S=none:=rfl;unfold y7;rw[e1];unfold Ii;exact h
section
variable {S:ag}{w n:Nat}{g:List (List Int)}{e live:List Bool}{α:Type}{mk:α->D}{nk:α->NK}{nums:List Int}
theorem R5:∀bs:List Bool,Tn (.bl true) (aN bs)=bs.any id|[]=>rfl|b::bs=>by show(eqF (.bl b) (.bl true)||Tn (.bl true) (aN bs))=_;rw[R5 bs,List.any_cons];cases b<;>rfl
theorem Oi:∀bs:List Bool,(aN bs).all mL=true|[]=>rfl|b::bs=>by show(mL (.bl b)&&(aN bs).all mL)=true;rw[Oi bs];rfl
theorem Zj(bs:List Bool)(S:ag):Ly (.v (.bl true)) (.v (.lst (aN bs))) S=some (.v (.bl (bs.any id))):=by show(if mL (.bl true)=true/\(aN bs).all mL=true then some (nC (if false=true then !Tn (.bl true) (aN bs) else Tn (.bl true) (aN bs))) else none)=_;rw[if_pos ⟨rfl,Oi bs⟩,R5];rfl
theorem Vy(a b:List Bool)(S:ag):mD (.v (.lst (aN a))) (.v (.lst (aN b))) S=some (.v (.bl (!decide (a=b)))):=by
 have e0:mD (.v (.lst (aN a))) (.v (.lst (aN b))) S=LI (.v (.lst (aN a))) (.v (.lst (aN b))) S:=rfl;have t:∀zs:List Bool,toPy (.lst (aN zs))=some (.list (zs.map .bool)):=λzs=>by show(kL (zs.map D.bl)).map PySem.PyData.list=_;rw[mj (pk:=PySem.PyData.bool) (λ_=>rfl)];rfl
 have sh:∀zs:List Bool,PySem.SeqAt.shaped (.list (zs.map .bool))=true:=λzs=>by unfold PySem.SeqAt.shaped;have e1:PySem.PyData.canLay0 (.list (zs.map .bool))=PySem.PyData.canLayAll0 (zs.map .bool):=rfl;have e2:PySem.PyData.depth (.list (zs.map .bool))=PySem.PyData.depthAll (zs.map .bool)+1:=rfl;have:=jV (pk:=PySem.PyData.bool) (n:=0) zs λ_ _=>Nat.le_refl _;rw[e1,jU zs λ_ _=>rfl,e2,decide_eq_true (by omega)];rfl
 rw[e0];unfold LI;simp only[t];rw[if_pos ⟨sh a,sh b⟩];have e3:PySem.PyData.eqv (.list (a.map .bool)) (.list (b.map .bool))=PySem.PyData.eqvAll (a.map .bool) (b.map .bool):=rfl;rw[e3,se λx y=>by cases x<;>cases y<;>rfl];rfl
def uI(g:List (List Int))(L:List Bool)(p:Nat):Bool:=((g.getD p []).map λx=>decide (0<=x)&&L.getD x.toNat false).any id
def qD(n:Nat)(g:List (List Int))(L:List Bool):List Bool:=(List.range n).map λp=>L.getD p false||uI g L p
theorem DV{L:List Bool}{p:Nat}(hp:p<n):bh (qD n g L) p=(L.getD p false||uI g L p):=by unfold bh qD;exact eY (by rw[List.getElem?_map,List.getElem?_range hp];rfl)
theorem R6{L:List Bool}(W:k7 w n g e){p:Nat}(hp:p<n)(h:uI g L p=true):∃k<w,0<=gG g (p:Nat) k/\L.getD (gG g (p:Nat) k).toNat false=true:=by
 have hl:p<g.length:=by rw[W.lg];exact hp
 have hr:g[p]?=some g[p]:=List.getElem?_eq_getElem hl;unfold uI at h;rw[eY hr]at h;obtain⟨b,hb,hbt⟩:=List.any_eq_true.mp h;obtain⟨x,hx,rfl⟩:=List.mem_map.mp hb;have hbt:(decide (0<=x)&&L.getD x.toNat false)=true:=hbt;rw[Bool.and_eq_true]at hbt;obtain⟨k,hk,ek⟩:=WM W hr hx;exact⟨k,hk,by rw[ek];exact of_decide_eq_true hbt.1,by rw[ek];exact hbt.2⟩
theorem R7{L:List Bool}(W:k7 w n g e){p:Nat}(hp:p<n)(h:uI g L p=false){k:Nat}(hk:k<w)(h0:0<=gG g (p:Nat) k):L.getD (gG g (p:Nat) k).toNat false=false:=by
 have hl:p<g.length:=by rw[W.lg];exact hp
 have hr:g[p]?=some g[p]:=List.getElem?_eq_getElem hl;unfold uI at h;rw[eY hr]at h;have:=List.any_eq_false.mp h _ (List.mem_map.mpr ⟨_,NT W hr hk,rfl⟩);rw[decide_eq_true h0,Bool.true_and]at this;simpa using this
theorem Vc.nxt{L:List Bool}(W:k7 w n g e)(I:Vc n g e L):Vc n g e (qD n g L):=by
 refine⟨by simp[qD],λp hp he=>?_,λp hp hl=>?_⟩;·rw[DV hp];have:=I.a p hp he;unfold bh at this;rw[this];rfl
 ·rw[DV hp,Bool.or_eq_true]at hl;rcases hl with hl|hl;·exact I.b p hp hl
  ·obtain⟨k,hk,h0,h1⟩:=R6 W hp hl;have b:=(Bo W (p:=(p:Nat)) (k:=k)).2;have:=I.b (gG g (p:Nat) k).toNat (by omega) h1;rw[show(((gG g (p:Nat) k).toNat:Nat):Int)=gG g (p:Nat) k by omega]at this;exact G3 this
theorem Zk{L:List Bool}(W:k7 w n g e)(h:qD n g L=L):∀p<n,ClR w g L p:=λp hp hl k hk h0=>by
 have e1:=DV (g:=g) (L:=L) hp;rw[h,hl]at e1;have e2:uI g L p=false:=by
  cases q:uI g L p with
  |false=>rfl|true=>rw[q,Bool.or_true]at e1;cases e1
 exact R7 W hp e2 hk h0
theorem G9:∀{a b:List Bool},a.length=b.length->(∀i,a.getD i false=true->b.getD i false=true)->eX b<=eX a/\(eX b=eX a->b=a)
 |[],[],_,_=>⟨Nat.le_refl _,λ_=>rfl⟩|[],_::_,h,_=>by cases h|_::_,[],h,_=>by cases h|x::a,y::b,h,hi=>by
  obtain⟨h1,h2⟩:=G9 (a:=a) (b:=b) (Nat.succ.inj h) λi hx=>by have:=hi (i+1) (by simpa using hx);simpa using this
  have h0:=hi 0;simp only[eX,List.countP_cons]at h1 h2 ⊢;cases x<;>cases y<;>simp at h0 ⊢;exact⟨h1,h2⟩;exact⟨by omega,λh=>by omega⟩;·exact⟨h1,h2⟩
theorem Mq{L:List Bool}(hl:L.length=n):eX (qD n g L)<=eX L/\(eX (qD n g L)=eX L->qD n g L=L):=by
 refine G9 (by simp[qD,hl]) λi hi=>?_;have hn:i<n:=by
  cases q:L[i]? with
  |none=>rw[Bn q]at hi;cases hi|some b=>rw[<-hl];exact(List.getElem?_eq_some_iff.mp q).1
 have:=DV (g:=g) (L:=L) hn;unfold bh at this;rw[this,hi];rfl
abbrev uE(T:D)(w:Nat)(g live:D)(a4 a5 a6 a7 a8 a9 a10 a11 a12 a13 a14 a15 a16 a17 a18 a19 a20:Option A):Env:=[some (.v T),some (.v (.int (w:Nat))),some (.v g),some (.v live),a4,a5,a6,a7,a8,a9,a10,a11,a12,a13,a14,a15,a16,a17,a18,a19,a20]
theorem ab0{ma mb:EM}{ρ:Env}{S1:ag}(h:ma ρ S=.ok (.v (.bl true)) S1):XD ma mb ρ S=.ok (.v (.bl true)) S1:=by rw[Wt,h];rfl
theorem ab1{ma mb:EM}{ρ:Env}{S1:ag}{z:R A}(h:ma ρ S=.ok (.v (.bl false)) S1)(h2:mb ρ S1=z):XD ma mb ρ S=z:=by rw[Wt,h];exact h2
theorem Zl(W:k7 w n g e)(hn:n<=2600)(hw:w<=900)(hl:live.length=n){T:D}{a4 a5 a6 a7 a8 a9 a10 a11 a12 a13 a14 a15 a16 a17 a18 a19 a20:Option A} :fX [13] (bG (aa (au cj (aa (eV 2) ah)) ah)) (.nm 13) aL (XD (aA b6 (eV 3) (eV 13)) (aA Ly (eC (.bl true)) (fX [16] (cJ (aA b6 (eV 2) (eV 13))) (.nm 16) aL (og (aA tq (eV 16) (eC (.int 0))) (aA b6 (eV 3) (eV 16))))))
   (uE T w (aK g) (.lst (aN live)) a4 a5 a6 a7 a8 a9 a10 a11 a12 a13 a14 a15 a16 a17 a18 a19 a20) S=.ok (.v (.lst (aN (qD n g live)))) S:=by
 have e0:aN (qD n g live)=(List.range n).map λp=>D.bl (live.getD p false||uI g live p):=by unfold aN qD;rw[List.map_map];rfl
 rw[e0];have hi:bG (aa (au cj (aa (eV 2) ah)) ah) (uE T w (aK g) (.lst (aN live)) a4 a5 a6 a7 a8 a9 a10 a11 a12 a13 a14 a15 a16 a17 a18 a19 a20) S=.ok ((List.range n).map λp=>D.int ((p:Nat):Int)) S:=by rw[sd (ma:=au cj (aa (eV 2) ah)) (n:=((n:Nat):Int)) (S1:=S) (aW rfl (by show cj [.v (aK g)] S=_;unfold aK;rw[wq,List.length_map,W.lg])) (by omega) (by omega),Int.toNat_natCast];unfold gR;simp
 refine bP (List.range n) (λp=>D.int ((p:Nat):Int)) (λp=>D.bl (live.getD p false||uI g live p)) hi (by rw[List.length_range];omega) λp hp Z=>⟨uE T w (aK g) (.lst (aN live)) a4 a5 a6 a7 a8 a9 a10 a11 a12 (some (.v (.int ((p:Nat):Int)))) a14 a15 a16 a17 a18 a19 a20,rfl,rfl,?_⟩;have hp:=List.mem_range.mp hp;obtain⟨b,i1,i2⟩:=Tp (l:=live) (x:=((p:Nat):Int)) (by omega) (by rw[hl];omega);have eb:live.getD p false=b:=eY (by simpa using i2);rw[eb];have h1:aA b6 (eV 3) (eV 13) (uE T w (aK g) (.lst (aN live)) a4 a5 a6 a7 a8 a9 a10 a11 a12 (some (.v (.int ((p:Nat):Int)))) a14 a15 a16 a17 a18 a19 a20) Z=.ok (.v (.bl b)) Z:=aD rfl rfl (by rw[fG,i1];rfl);cases b with
 |true=>exact ab0 h1|false=>
  rw[Bool.false_or];refine ab1 h1 (aD rfl (y:=.v (.lst (aN ((g.getD p []).map λx=>decide (0<=x)&&live.getD x.toNat false)))) ?_ (Zj _ Z));have hg:p<g.length:=by rw[W.lg];exact hp
  have hr:g[p]?=some g[p]:=List.getElem?_eq_getElem hg;have hrm:g[p]∈g:=List.getElem_mem hg;obtain⟨r,j1,j2⟩:=atG (g:=g) (x:=((p:Nat):Int)) (by omega) (by omega);have e5:g[p]?=some r:=by simpa using j2
  have er:r=g[p]:=Option.some.inj (e5.symm.trans hr);rw[eY hr];unfold aN;rw[List.map_map];refine bP g[p] D.int (λx=>D.bl (decide (0<=x)&&live.getD x.toNat false)) (dM (aD rfl rfl (w:=.v (aQ g[p])) (by unfold aK;rw[fG,j1,er];rfl))) (by rw[W.lr _ hrm];omega) λx hx Y=>⟨uE T w (aK g) (.lst (aN live)) a4 a5 a6 a7 a8 a9 a10 a11 a12 (some (.v (.int ((p:Nat):Int)))) a14 a15 (some (.v (.int x))) a17 a18 a19 a20,rfl,rfl,?_⟩;by_cases h:0<=x
  ·obtain⟨b,k1,k2⟩:=Tp (l:=live) h (by rw[hl];exact W.hi _ hrm x hx);have e3:(decide (0<=x)&&live.getD x.toNat false)=b:=by rw[decide_eq_true h,Bool.true_and];exact eY k2
   rw[e3];exact Mh (S1:=Y) (aD rfl rfl (by rw[mS,decide_eq_true h])) (aD rfl rfl (by rw[fG,k1];rfl))
  ·rw[decide_eq_false h,Bool.false_and];exact RB (aD rfl rfl (by rw[mS,decide_eq_false h]))
theorem Vz(W:k7 w n g e)(hn:n<=2600)(hw:w<=900)(hl:live.length=n){T:D}{a4 a5 a6 a7 a8 a9 a10 a11 a12 a13 a14 a15 a16 a17 a18 a19 a20:Option A} :fX [15] (cJ (eV 2)) (.nm 15) aL (fX [16] (cJ (eV 15)) (.nm 16) aL (xG (pI (tE (aA tq (eV 16) (eC (.int 0)))) (tE (aA b6 (eV 3) (eV 16)))) (eV 16) (xt jl (eC (.int 1)))))
   (uE T w (aK g) (.lst (aN live)) a4 a5 a6 a7 a8 a9 a10 a11 a12 a13 a14 a15 a16 a17 a18 a19 a20) S=.ok (.v (aK (f9 g live))) S:=by
 unfold aK f9;rw[List.map_map];refine bP g aQ (λr=>aQ (r.map λx=>if (decide (0<=x)&&bh live x.toNat)=true then x else -1)) (dM rfl) (by rw[W.lg];omega) λr hr Z=>⟨uE T w (.lst (g.map aQ)) (.lst (aN live)) a4 a5 a6 a7 a8 a9 a10 a11 a12 a13 a14 (some (.v (aQ r))) a16 a17 a18 a19 a20,rfl,rfl,?_⟩;unfold aQ;rw[List.map_map];refine bP r D.int (λx=>D.int (if (decide (0<=x)&&bh live x.toNat)=true then x else -1)) (dM rfl) (by rw[W.lr _ hr];omega) λx hx Z=>⟨uE T w (.lst (g.map λr=>.lst (r.map .int))) (.lst (aN live)) a4 a5 a6 a7 a8 a9 a10 a11 a12 a13 a14 (some (.v (.lst (r.map .int)))) (some (.v (.int x))) a17 a18 a19 a20,rfl,rfl,?_⟩;by_cases h:0<=x
 ·obtain⟨b,i1,i2⟩:=Tp (l:=live) h (by rw[hl];exact W.hi _ hr x hx);have hb:bh live x.toNat=b:=eY i2;have ht:pI (tE (aA tq (eV 16) (eC (.int 0)))) (tE (aA b6 (eV 3) (eV 16))) (uE T w (.lst (g.map λr=>.lst (r.map .int))) (.lst (aN live)) a4 a5 a6 a7 a8 a9 a10 a11 a12 a13 a14 (some (.v (.lst (r.map .int)))) (some (.v (.int x))) a17 a18 a19 a20) Z=.ok b Z:=by rw[jz,show tE (aA tq (eV 16) (eC (.int 0))) (uE T w (.lst (g.map λr=>.lst (r.map .int))) (.lst (aN live)) a4 a5 a6 a7 a8 a9 a10 a11 a12 a13 a14 (some (.v (.lst (r.map .int)))) (some (.v (.int x))) a17 a18 a19 a20) Z=.ok true Z from gh (aD rfl rfl (by rw[mS,decide_eq_true h])),R.ak,if_pos rfl];exact gh (aD rfl rfl (by rw[fG,i1];rfl))
  rw[hb,decide_eq_true h,Bool.true_and];cases b with
  |true=>rw[if_pos rfl];exact Bl ht rfl|false=>rw[if_neg (by decide)];exact yn ht rfl
 ·rw[decide_eq_false h,Bool.false_and,if_neg (by decide)];refine yn (S1:=Z) ?_ rfl;rw[jz,show tE (aA tq (eV 16) (eC (.int 0))) (uE T w (.lst (g.map λr=>.lst (r.map .int))) (.lst (aN live)) a4 a5 a6 a7 a8 a9 a10 a11 a12 a13 a14 (some (.v (.lst (r.map .int)))) (some (.v (.int x))) a17 a18 a19 a20) Z=.ok false Z from gh (aD rfl rfl (by rw[mS,decide_eq_false h]))];rfl
def Oj:Nat->List α->List (Nat×α)|_,[]=>[]|k,a::l=>(k,a)::Oj (k+1) l
theorem Ol(hf:∀b,Dx mk nk b)(hi:∀b c,nk b=nk c->b=c):∀(l acc:List α),(acc++l).Nodup ->
  EK (acc.map mk,idxs acc.length) ((Oj acc.length l).map λp=>(mk p.2,D.int (p.1:Nat)))=((acc++l).map mk,idxs (acc++l).length)
 |[],acc,_=>by rw[List.append_nil];rfl|a::l,acc,nd=>by
  have hn:a∉acc:=λh=>(List.nodup_append.mp nd).2.2 a h a (by simp) rfl;have e1:AY (acc.map mk,idxs acc.length) (mk a,.int (acc.length:Nat))=((acc++[a]).map mk,idxs (acc++[a]).length):=by unfold AY;rw[(hf a).key];simp only;rw[Ci (mk:=mk) (nk:=nk) (λb _=>hf b) (λb _ e=>hi b a e) hn,List.length_append,List.length_singleton,Cj]
  show EK (AY _ _) _=_;rw[e1];have:=Ol hf hi l (acc++[a]) (by rw[List.append_assoc];exact nd);rw[List.append_assoc]at this;rw[List.length_append,List.length_singleton]at this ⊢;exact this
theorem Om:∀(l:List α) (k:Nat),(List.range l.length).map (λi=>(k+i,l[i]?))=(Oj k l).map λp=>(p.1,some p.2)|[],k=>rfl|a::l,k=>by rw[Oj,List.length_cons,List.range_succ_eq_map,List.map_cons,List.map_map,List.map_cons,<-Om l (k+1)];simp only[List.getElem?_cons_zero,Nat.add_zero,Function.comp_def,List.getElem?_cons_succ];congr 1;exact List.map_congr_left λi _=>by rw[show k+1+i=k+(i+1) by omega]
theorem Oo(hf:∀b,Dx mk nk b):∀(l:List α) (k:Nat),EJ ((Oj k l).map λp=>D.tup [mk p.2,.int (p.1:Nat)])=some ((Oj k l).map λp=>(mk p.2,D.int (p.1:Nat)))|[],_=>rfl|a::l,k=>by show EJ (D.tup [mk a,.int (k:Nat)]::(Oj (k+1) l).map λp=>D.tup [mk p.2,.int (p.1:Nat)])=some ((mk a,D.int (k:Nat))::(Oj (k+1) l).map λp=>(mk p.2,D.int (p.1:Nat)));unfold EJ;rw[(hf a).key,Oo hf l (k+1)]
abbrev vE(T:D)(w:Nat)(g0:D)(live:D)(a4 a5:Option A)(kept:D)(nums:List Int)(many:Int)(a9 a10 a11 a12 a13 a14 a15 a16 a17 a18 a19 a20:Option A):Env:=uE T w g0 live a4 a5 (some (.v kept)) (some (.v (.lst (nums.map .int)))) (some (.v (.int many))) a9 a10 a11 a12 a13 a14 a15 a16 a17 a18 a19 a20
theorem VA(W:k7 w n g e)(hn:n<=2600)(hw:w<=900)(N:jW n nums){T live:D}{g0:List (List Int)}(h0:g0.length=n){many:Int}{a4 a5 a9 a10 a11 a12 a13 a14 a15 a16 a17 a18 a19 a20:Option A} :fX [13] (bG (aa (au cj (aa (eV 2) ah)) ah)) (.nm 13) aL (mK (aa (aA b6 (eV 7) (eV 13)) (aa (au rS (aa (fX [16] (cJ (aA b6 (eV 6) (eV 13))) (.nm 16) aL (xG (tE (aA tq (eV 16) (eC (.int 0)))) (aA b6 (eV 7) (eV 16)) (xt jl (eC (.int 1))))) ah)) ah)))
   (vE T w (aK g0) live a4 a5 (aK g) nums many a9 a10 a11 a12 a13 a14 a15 a16 a17 a18 a19 a20) S=.ok (.v (.lst ((bQ g nums).map bj))) S:=by
 have e0:(bQ g nums).map bj=(List.range n).map λp=>bj (F6 g nums p):=by refine List.ext_getElem? λi=>?_;rw[List.getElem?_map (f:=bj),List.getElem?_map (f:=λp=>bj (F6 g nums p))];by_cases hi:i<n;rw[Fg (nums:=nums) W hi,List.getElem?_range hi];rfl;·rw[List.getElem?_eq_none (l:=bQ g nums) (by rw[oy,W.lg];omega),List.getElem?_eq_none (l:=List.range n) (by rw[List.length_range];omega)];rfl
 rw[e0];have hi:bG (aa (au cj (aa (eV 2) ah)) ah) (vE T w (aK g0) live a4 a5 (aK g) nums many a9 a10 a11 a12 a13 a14 a15 a16 a17 a18 a19 a20) S=.ok ((List.range n).map λp=>D.int ((p:Nat):Int)) S:=by rw[sd (ma:=au cj (aa (eV 2) ah)) (n:=((n:Nat):Int)) (S1:=S) (aW rfl (by show cj [.v (aK g0)] S=_;unfold aK;rw[wq,List.length_map,h0])) (by omega) (by omega),Int.toNat_natCast];unfold gR;simp
 refine bP (List.range n) (λp=>D.int ((p:Nat):Int)) (λp=>bj (F6 g nums p)) hi (by rw[List.length_range];omega) λp hp Z=>⟨vE T w (aK g0) live a4 a5 (aK g) nums many a9 a10 a11 a12 (some (.v (.int ((p:Nat):Int)))) a14 a15 a16 a17 a18 a19 a20,rfl,rfl,?_⟩;have hp:=List.mem_range.mp hp;have hg:p<g.length:=by rw[W.lg];exact hp
 have hr:g[p]?=some g[p]:=List.getElem?_eq_getElem hg;have hrm:g[p]∈g:=List.getElem_mem hg;obtain⟨r,j1,j2⟩:=atG (g:=g) (x:=((p:Nat):Int)) (by omega) (by omega);have er:r=g[p]:=by
  have:g[p]?=some r:=by simpa using j2
  rw[hr]at this;exact(Option.some.inj this).symm
 have hin:fX [16] (cJ (aA b6 (eV 6) (eV 13))) (.nm 16) aL (xG (tE (aA tq (eV 16) (eC (.int 0)))) (aA b6 (eV 7) (eV 16)) (xt jl (eC (.int 1)))) (vE T w (aK g0) live a4 a5 (aK g) nums many a9 a10 a11 a12 (some (.v (.int ((p:Nat):Int)))) a14 a15 a16 a17 a18 a19 a20) Z=.ok (.v (.lst (g[p].map λx=>D.int (if 0<=x then nums.getD x.toNat 0 else -1)))) Z:=by refine bP g[p] D.int (λx=>D.int (if 0<=x then nums.getD x.toNat 0 else -1)) (dM (aD rfl rfl (w:=.v (aQ g[p])) (by unfold aK;rw[fG,j1,er];rfl))) (by rw[W.lr _ hrm];omega) λx hx Y=>⟨vE T w (aK g0) live a4 a5 (aK g) nums many a9 a10 a11 a12 (some (.v (.int ((p:Nat):Int)))) a14 a15 (some (.v (.int x))) a17 a18 a19 a20,rfl,rfl,?_⟩;by_cases h:0<=x;rw[if_pos h];refine Bl (S1:=Y) (gh (aD rfl rfl (by rw[mS,decide_eq_true h]))) (aD rfl rfl ?_);rw[fG,show x=((x.toNat:Nat):Int) by omega,N.at2 (by have:=W.hi _ hrm x hx;omega)];rfl;·rw[if_neg h];exact yn (S1:=Y) (gh (aD rfl rfl (by rw[mS,decide_eq_false h]))) rfl
 refine ph (ao (aD (w:=.v (.int (nums.getD p 0))) rfl rfl ?_) (ao (aW (ao hin rfl) IS) rfl)) ?_ (by simp);·rw[fG,N.at2 hp];rfl
 ·unfold F6;rw[eY hr];simp[bj,keyOf,List.map_map,asD]
theorem R8(W:k7 w n g e)(hn:n<=2600)(N:jW n nums){T live kept:D}{g0:D}{many:Int}{a4 a5 a10 a11 a12 a13 a14 a15 a16 a17 a18 a19 a20:Option A} :au y7 (aa (aS pf (aa (eV 9) ah)) ah) (vE T w g0 live a4 a5 kept nums many (some (.v (.lst ((bQ g nums).map bj)))) a10 a11 a12 a13 a14 a15 a16 a17 a18 a19 a20) S=.ok (.v (.lst ((bK g nums).map bj))) S:=by refine aW (ao (dA rfl (R3 An (λb c h=>Bs h) (λa=>rfl) (by rw[oy,W.lg];omega) S)) rfl) ?_;exact R4 C3 λp hp=>by obtain⟨q,hq,rfl⟩:=List.mem_map.mp (jo.mp hp);exact RP W hn N hq
theorem Pq{l:List (Int×List Int)}(nd:l.Nodup)(h1:l≠[])(hl:l.length<=2600){T live kept:D}{g0:D}{many:Int}{a4 a5 a9 a11 a12 a13 a14 a15 a16 a17 a18 a19 a20:Option A} :au wg (aa (fX [20] (bG (aa (au cj (aa (eV 10) ah)) ah)) (.nm 20) aL (mK (aa (aA b6 (eV 10) (eV 20)) (aa (eV 20) ah)))) ah) (vE T w g0 live a4 a5 kept nums many a9 (some (.v (.lst (l.map bj)))) a11 a12 a13 a14 a15 a16 a17 a18 a19 a20) S=.ok (.v (.yD (l.map bj) (idxs l.length))) S:=by
 have hlc:fX [20] (bG (aa (au cj (aa (eV 10) ah)) ah)) (.nm 20) aL (mK (aa (aA b6 (eV 10) (eV 20)) (aa (eV 20) ah))) (vE T w g0 live a4 a5 kept nums many a9 (some (.v (.lst (l.map bj)))) a11 a12 a13 a14 a15 a16 a17 a18 a19 a20) S=.ok (.v (.lst ((Oj 0 l).map λp=>D.tup [bj p.2,.int (p.1:Nat)]))) S:=by
  have e0:((Oj 0 l).map λp=>D.tup [bj p.2,.int (p.1:Nat)])=(List.range l.length).map λi=>D.tup [bj (l.getD i (0,[])),.int (i:Nat)]:=by
   have:=congrArg (List.map λq:Nat×Option (Int×List Int)=>D.tup [bj (q.2.getD (0,[])),.int (q.1:Nat)]) (Om l 0);rw[List.map_map,List.map_map]at this;refine Eq.trans ?_ (this.symm.trans ?_);·exact List.map_congr_left λp _=>rfl
   ·refine List.map_congr_left λi _=>?_;simp only[Function.comp,Nat.zero_add,List.getD_eq_getElem?_getD]
  rw[e0];have hi:bG (aa (au cj (aa (eV 10) ah)) ah) (vE T w g0 live a4 a5 kept nums many a9 (some (.v (.lst (l.map bj)))) a11 a12 a13 a14 a15 a16 a17 a18 a19 a20) S=.ok ((List.range l.length).map λp=>D.int ((p:Nat):Int)) S:=by rw[sd (ma:=au cj (aa (eV 10) ah)) (n:=((l.length:Nat):Int)) (S1:=S) (aW rfl (by rw[wq,List.length_map])) (by omega) (by omega),Int.toNat_natCast];unfold gR;simp
  refine bP (List.range l.length) (λp=>D.int ((p:Nat):Int)) (λi=>D.tup [bj (l.getD i (0,[])),.int (i:Nat)]) hi (by rw[List.length_range];omega) λi hi Z=>⟨vE T w g0 live a4 a5 kept nums many a9 (some (.v (.lst (l.map bj)))) a11 a12 a13 a14 a15 a16 a17 a18 a19 (some (.v (.int ((i:Nat):Int)))),rfl,rfl,?_⟩;have hi:=List.mem_range.mp hi;refine ph (ao (x:=.v (bj (l.getD i (0,[])))) (aD rfl rfl ?_) (ao rfl rfl)) rfl (Nat.le_of_ble_eq_true rfl);rw[fG,atI_nat (by rw[List.getElem?_map,List.getElem?_eq_getElem hi];rfl),eY (List.getElem?_eq_getElem hi)];rfl
 refine aW (ao hlc rfl) ?_;have e1:Ab [.v (.lst ((Oj 0 l).map λp=>D.tup [bj p.2,.int (p.1:Nat)]))] S=none:=by
  cases l with
  |nil=>exact absurd rfl h1|cons a l =>have e2:F0 ((Oj 0 (a::l)).map λp=>D.tup [bj p.2,.int (p.1:Nat)])=none:=(by show F0 (D.tup [bj a,.int (0:Nat)]::_)=none;unfold F0;rw[show FY (bj a)=none from rfl]);have e3:Yk (.v (.lst ((Oj 0 (a::l)).map λp=>D.tup [bj p.2,.int (p.1:Nat)]))) S=none:=(by show(F0 ((Oj 0 (a::l)).map λp=>D.tup [bj p.2,.int (p.1:Nat)])).map (Q4 [])=none;rw[e2];rfl);unfold Ab;simp only[e3,Option.map_none]
 unfold wg;rw[e1];show(EJ _).map _=_;rw[Oo An,Option.map_some];have:=Ol (mk:=bj) (nk:=RO) An (λb c h=>Bs h) l [] (by simpa using nd);rw[List.nil_append]at this;exact congrArg (λq:List D×List D=>some (A.v (.yD q.1 q.2))) this
theorem VB{l:List (Int×List Int)}(nd:l.Nodup){j:Nat}{p:Int×List Int}(hj:l[j]?=some p)(Z:ag):xN (.v (.yD (l.map bj) (idxs l.length))) (.v (bj p)) Z=.ok (.v (.int (j:Nat))) Z:=by have lt:j<l.length:=(List.getElem?_eq_some_iff.mp hj).1;have e1:jO (.v (.yD (l.map bj) (idxs l.length))) Z=none:=rfl;have e2:AS (.v (.yD (l.map bj) (idxs l.length))) Z=some (l.map bj,idxs l.length):=rfl;unfold xN;rw[e1,e2];simp only[(An p).key];rw[wC (mk:=bj) (nk:=RO) (by rw[Br]) (λb _=>An b) (λb _ c _ h=>Bs h) nd hj,DP lt]
theorem R9(W:k7 w n g e)(hn:n<=2600){T live kept:D}{g0:D}{many:Int}{a4 a5 a10 a12 a13 a14 a15 a16 a17 a18 a19 a20:Option A} :fX [19] (cJ (eV 9)) (.nm 19) aL (rV (eV 11) (eV 19)) (vE T w g0 live a4 a5 kept nums many (some (.v (.lst ((bQ g nums).map bj)))) a10 (some (.v (.yD ((bK g nums).map bj) (idxs (bK g nums).length)))) a12 a13 a14 a15 a16 a17 a18 a19 a20) S=.ok (.v (.lst ((tD g nums).map .int))) S:=by have e0:(tD g nums).map D.int=(bQ g nums).map λp=>D.int ((Li (bK g nums) p:Nat):Int):=List.map_map;rw[e0];refine bP (own:=[19]) (g:=.nm 19) (t:=aL) (m:=rV (eV 11) (eV 19)) (bQ g nums) bj (λp=>D.int ((Li (bK g nums) p:Nat):Int)) (dM rfl) (by rw[oy,W.lg];omega) λp hp Z=>⟨vE T w g0 live a4 a5 kept nums many (some (.v (.lst ((bQ g nums).map bj)))) a10 (some (.v (.yD ((bK g nums).map bj) (idxs (bK g nums).length)))) a12 a13 a14 a15 a16 a17 a18 (some (.v (bj p))) a20,rfl,rfl,?_⟩;exact VB Bt (yw (ou.mpr hp)) Z
end
abbrev wE(T:D)(w:Nat)(g0 live d4 d5 kept:D)(nums:List Int)(d8 d9 d10 d11:D)(N:Nat)(i:Int)(a15 a16 a17 a18 a19 a20:Option A):Env:=
 uE T w g0 live (some (.v d4)) (some (.v d5)) (some (.v kept)) (some (.v (.lst (nums.map .int)))) (some (.v d8)) (some (.v d9)) (some (.v d10)) (some (.v d11)) (some (.m N)) (some (.v (.int i))) (some (.m (N+1))) a15 a16 a17 a18 a19 a20
abbrev Oq:EM:=fX [20] (bG (aa (au cj (aa (eV 12) ah)) ah)) (.nm 20) (pI (tE (aA tq (eV 16) (eC (.int 0)))) (tE (aA eU (aA b6 (eV 7) (aA b6 (eV 12) (eV 20))) (aA b6 (eV 7) (eV 16))))) (eV 20)
abbrev rIf:SM:=uP (pI (tE (aA tq (eV 16) (eC (.int 0)))) (tE (aA eU (eV 17) (cn ah)))) (aG (bB 17 (cn (aa (au cj (aa (eV 12) ah)) ah))) (ju (mR "list" cI (eV 12) (aa (eV 16) ah)))) iR
abbrev ab2:SM:=ju (mR "list" cI (eV 15) (aa (xG (tE (aA tq (eV 16) (eC (.int 0)))) (aA b6 (eV 17) (eC (.int 0))) (xt jl (eC (.int 1)))) ah))
abbrev WU:SM:=aG (bB 17 Oq) (aG rIf ab2)
abbrev WV:SM:=Ey (aG (Ey (aG (bB 15 (mC ah)) (mQ (cJ (aA b6 (eV 6) (aA b6 (eV 12) (eV 13)))) (.nm 16) WU))) (aG (ju (mR "list" cI (eV 14) (aa (eV 15) ah))) (bB 13 (aA cY (eV 13) (eC (.int 1))))))
section
variable {α:Type}{ρ:Env}{S S1:ag}{own:List Nat}{mi:IM}{g:Tg}{t:TM}{m:EM}
theorem Sa(items:List α)(mk:α->D)(f:α->Bool)(h:α->D)(hi:mi ρ S=.ok (items.map mk) S1)(hl:items.length<=1000000)
  (step:∀a∈items,∀ys:List D,∃ρ1,g.put (.v (mk a)) (aT ρ own)=some ρ1/\t ρ1 (S1++[.lst ys])=.ok (f a) (S1++[.lst ys])/\(f a=true->m ρ1 (S1++[.lst ys])=.ok (.v (h a)) (S1++[.lst ys]))) :
  fX own mi g t m ρ S=.ok (.v (.lst ((items.filter f).map h))) S1:=by
 obtain⟨ys,S2,e,⟨i1,pre,p1,p2,p3⟩,_⟩:=EW (own:=own) (g:=g) (t:=t) (m:=m) (λdon ys S2=>S2=S1/\∃pre:List α,don=pre.map mk/\pre <+: items/\ys=(pre.filter f).map h) hi ⟨rfl,[],rfl,List.nil_prefix,rfl⟩ (by simpa using hl) (λdon ys d rest S2 e ⟨e1,pre,p1,p2,p3⟩ _=>by subst e1 p1;obtain⟨a,ha,rfl,p4,p5⟩:=y8 e p2;obtain⟨ρ1,h1,h2,h3⟩:=step a ha ys;refine⟨ρ1,f a,S2,h1,h2,rfl,λhf=>⟨rfl,_,p5,p4,by simp[List.filter_append,hf,p3]⟩,λhf=>⟨h a,S2,h3 hf,rfl,rfl,_,p5,p4,by simp[List.filter_append,hf,p3]⟩⟩);have pl:pre=items:=by have:=congrArg List.length p1;simp at this;exact p2.eq_of_length (by omega)
 subst pl i1;rw[e,p3]
end
def cm(l:List Nat):List D:=l.map λp=>D.int ((p:Nat):Int)
theorem Zm(c:Int)(l:List Int)(S:ag):eU (.v (.lst ((c::l).map .int))) (.v (.lst [])) S=some (.v (.bl false)):=by
 have e0:eU (.v (.lst ((c::l).map .int))) (.v (.lst [])) S=Eu (.v (.lst ((c::l).map .int))) (.v (.lst [])) S:=rfl;have t:toPy (.lst ((c::l).map .int))=some (.list ((c::l).map .int)):=by show(kL ((c::l).map D.int)).map PySem.PyData.list=_;rw[mj (pk:=PySem.PyData.int) λ_=>rfl];rfl
 have sh:PySem.SeqAt.shaped (.list ((c::l).map .int))=true:=by unfold PySem.SeqAt.shaped;have e1:PySem.PyData.canLay0 (.list ((c::l).map .int))=PySem.PyData.canLayAll0 ((c::l).map .int):=rfl;have e2:PySem.PyData.depth (.list ((c::l).map .int))=PySem.PyData.depthAll ((c::l).map .int)+1:=rfl;have:=jV (pk:=PySem.PyData.int) (n:=0) (c::l) λ_ _=>Nat.le_refl _;rw[e1,jU _ λ_ _=>rfl,e2,decide_eq_true (by omega)];rfl
 rw[e0];unfold Eu;simp only[t,show toPy (.lst [])=some (.list []) from rfl];rw[if_pos ⟨sh,by rfl⟩];rfl
section
variable {w n:Nat}{g:List (List Int)}{nums:List Int}
def Ha(nums:List Int)(ord:List Nat)(x:Int):List Nat:=(List.range ord.length).filter λk=>decide (0<=x)&&decide (nums.getD (ord.getD k 0) 0=nums.getD x.toNat 0)
theorem VC(N:jW n nums)(hn:n<=2600){ord:List Nat}(ho:∀p∈ord,p<n)(hl:ord.length<=2600){x:Int}(hx:x<n){T g0 live d4 d5 kept d8 d9 d10 d11:D}{N0:Nat}{i:Int}{a15 a17 a18 a19 a20:Option A}{Z:ag}(hZ:Z[N0]?=some (.lst (cm ord))) :Oq (wE T w g0 live d4 d5 kept nums d8 d9 d10 d11 N0 i a15 (some (.v (.int x))) a17 a18 a19 a20) Z=.ok (.v (.lst ((Ha nums ord x).map λk=>D.int ((k:Nat):Int)))) Z:=by
 have hi:bG (aa (au cj (aa (eV 12) ah)) ah) (wE T w g0 live d4 d5 kept nums d8 d9 d10 d11 N0 i a15 (some (.v (.int x))) a17 a18 a19 a20) Z=.ok ((List.range ord.length).map λp=>D.int ((p:Nat):Int)) Z:=by rw[sd (ma:=au cj (aa (eV 12) ah)) (n:=((ord.length:Nat):Int)) (S1:=Z) (aW rfl (by rw[wD hZ];unfold cm;rw[List.length_map])) (by omega) (by omega),Int.toNat_natCast];unfold gR;simp
 unfold Ha;have key:∀k∈List.range ord.length,∀Y:ag,Y[N0]?=some (.lst (cm ord))->∃ρ1,(Tg.nm 20).put (.v (D.int ((k:Nat):Int))) (aT (wE T w g0 live d4 d5 kept nums d8 d9 d10 d11 N0 i a15 (some (.v (.int x))) a17 a18 a19 a20) [20])=some ρ1 /\
   pI (tE (aA tq (eV 16) (eC (.int 0)))) (tE (aA eU (aA b6 (eV 7) (aA b6 (eV 12) (eV 20))) (aA b6 (eV 7) (eV 16)))) ρ1 Y=.ok (decide (0<=x)&&decide (nums.getD (ord.getD k 0) 0=nums.getD x.toNat 0)) Y/\eV 20 ρ1 Y=.ok (.v (.int ((k:Nat):Int))) Y:=by
  intro k hk Y hY;refine⟨wE T w g0 live d4 d5 kept nums d8 d9 d10 d11 N0 i a15 (some (.v (.int x))) a17 a18 a19 (some (.v (.int ((k:Nat):Int)))),rfl,?_,rfl⟩;have hk:=List.mem_range.mp hk;have hm:ord[k]∈ord:=List.getElem_mem hk;have ek:ord.getD k 0=ord[k]:=eY (List.getElem?_eq_getElem hk);by_cases h:0<=x;·rw[jz,show tE (aA tq (eV 16) (eC (.int 0))) (wE T w g0 live d4 d5 kept nums d8 d9 d10 d11 N0 i a15 (some (.v (.int x))) a17 a18 a19 (some (.v (.int ((k:Nat):Int))))) Y=.ok true Y from gh (aD rfl rfl (by rw[mS,decide_eq_true h])),R.ak,if_pos rfl,decide_eq_true h,Bool.true_and];refine gh (aD (x:=.v (.int (nums.getD (ord.getD k 0) 0))) (y:=.v (.int (nums.getD x.toNat 0))) (aD (y:=.v (.int ((ord[k]:Nat):Int))) rfl (aD rfl rfl ?_) ?_) (aD rfl rfl ?_) L8);rw[jQ hY,atI_nat (by unfold cm;rw[List.getElem?_map,List.getElem?_eq_getElem hk];rfl)];rfl;rw[fG,N.at2 (ho _ hm),ek];rfl;·rw[fG,show x=((x.toNat:Nat):Int) by omega,N.at2 (by omega)];rfl
  ·rw[decide_eq_false h,Bool.false_and,jz,show tE (aA tq (eV 16) (eC (.int 0))) (wE T w g0 live d4 d5 kept nums d8 d9 d10 d11 N0 i a15 (some (.v (.int x))) a17 a18 a19 (some (.v (.int ((k:Nat):Int))))) Y=.ok false Y from gh (aD rfl rfl (by rw[mS,decide_eq_false h]))];rfl
 have hb:N0<Z.length:=(List.getElem?_eq_some_iff.mp hZ).1;refine Sa (own:=[20]) (g:=.nm 20) (List.range ord.length) (λk=>D.int ((k:Nat):Int)) (λk=>decide (0<=x)&&decide (nums.getD (ord.getD k 0) 0=nums.getD x.toNat 0)) (λk=>D.int ((k:Nat):Int)) hi (by rw[List.length_range];omega) λk hk ys=>?_;obtain⟨ρ1,h1,h2,h3⟩:=key k hk (Z++[.lst ys]) (by rw[List.getElem?_append_left hb];exact hZ);exact⟨ρ1,h1,h2,λ_=>h3⟩
end
def qE(g:List (List Int))(e:List Bool)(p:Nat):zr:=iM g e ((p:Nat):Int)
section
variable {w n:Nat}{g:List (List Int)}{e:List Bool}{nums:List Int}{S:ag}{T g0 live d4 d5 kept d8 d9 d10 d11:D}
theorem K6{f:Nat->Bool}:∀{l:List Nat},(∃k∈l,f k=true)->∃j r,l.filter f=j::r/\j∈l/\f j=true
 |[],h=>by obtain⟨k,h,_⟩:=h;cases h
 |a::l,h=>by
  by_cases ha:f a=true;·exact⟨a,l.filter f,by rw[List.filter_cons,if_pos ha],.head _,ha⟩
  ·have:∃k∈l,f k=true:=by obtain⟨k,hk,h⟩:=h;rcases List.mem_cons.mp hk with rfl|hk;exact absurd h ha;·exact⟨k,hk,h⟩
   obtain⟨j,r,e,hj,h⟩:=K6 this;exact⟨j,r,by rw[List.filter_cons,if_neg ha,e],.tail _ hj,h⟩
theorem Sb{ord:List Nat}{x:Int}(h:0<=x):cm ord++[.int x]=cm (ord++[x.toNat]):=by unfold cm;rw[List.map_append,List.map_singleton,show((x.toNat:Nat):Int)=x by omega]
theorem Jn{ord:List Nat}(ho:∀p∈ord,p<n)(nd:(ord.map (qE g e)).Nodup):ord.length<=n:=by
 have nd1:ord.Nodup:=by have:=List.pairwise_map.mp nd;exact this.imp λh e=>h (by rw[e])
 have:=C4 (b:=List.range n) nd1 λp hp=>List.mem_range.mpr (ho p hp);rwa[List.length_range]at this
theorem Sd(C:C7 n g e nums)(N:jW n nums)(hn:n<=2600){ord:List Nat}(ho:∀p∈ord,p<n)(nd:(ord.map (qE g e)).Nodup){x:Int}(hx:x<n)(HL:0<=x->kN g e x){s:zr}{a:Nat}(hs:Mi s a=iM g e x){sts0:List zr}{row:List Int}(hr:row.length<1000)
  (hP:jE wA s sts0 a (ord.map (qE g e)) row){gl:List D}{i:Int}{a17 a18 a19 a20:Option A} :
  ∃(ord':List Nat) (y:Int) (b17:Option A),WU (wE T w g0 live d4 d5 kept nums d8 d9 d10 d11 S.length i (some (.m (S.length+2))) (some (.v (.int x))) a17 a18 a19 a20) (S++[.lst (cm ord),.lst gl,.lst (row.map .int)]) =
   .nx (wE T w g0 live d4 d5 kept nums d8 d9 d10 d11 S.length i (some (.m (S.length+2))) (some (.v (.int x))) b17 a18 a19 a20) (S++[.lst (cm ord'),.lst gl,.lst ((row++[y]).map .int)]) /\
   (∀p∈ord',p<n)/\(ord'.map (qE g e)).Nodup/\(∃more,ord'=ord++more)/\jE wA s sts0 (a+1) (ord'.map (qE g e)) (row++[y]):=by
 have ol:=Jn ho nd;have hsame:=VC (T:=T) (w:=w) (g0:=g0) (live:=live) (d4:=d4) (d5:=d5) (kept:=kept) (d8:=d8) (d9:=d9) (d10:=d10) (d11:=d11) (i:=i) (a15:=some (.m (S.length+2))) (a17:=a17) (a18:=a18) (a19:=a19) (a20:=a20) N hn ho (by omega) hx (Z:=S++[.lst (cm ord),.lst gl,.lst (row.map .int)]) (N0:=S.length) yx;have set17:∀d:D,Oq (wE T w g0 live d4 d5 kept nums d8 d9 d10 d11 S.length i (some (.m (S.length+2))) (some (.v (.int x))) a17 a18 a19 a20) (S++[.lst (cm ord),.lst gl,.lst (row.map .int)])=.ok (.v d) (S++[.lst (cm ord),.lst gl,.lst (row.map .int)]) ->
   bB 17 Oq (wE T w g0 live d4 d5 kept nums d8 d9 d10 d11 S.length i (some (.m (S.length+2))) (some (.v (.int x))) a17 a18 a19 a20) (S++[.lst (cm ord),.lst gl,.lst (row.map .int)])=.nx (wE T w g0 live d4 d5 kept nums d8 d9 d10 d11 S.length i (some (.m (S.length+2))) (some (.v (.int x))) (some (.v d)) a18 a19 a20) (S++[.lst (cm ord),.lst gl,.lst (row.map .int)]):=λd h=>lJ h
 have app:∀(o:List Nat) (y:Int) (b17:Option A),(xG (tE (aA tq (eV 16) (eC (.int 0)))) (aA b6 (eV 17) (eC (.int 0))) (xt jl (eC (.int 1)))) (wE T w g0 live d4 d5 kept nums d8 d9 d10 d11 S.length i (some (.m (S.length+2))) (some (.v (.int x))) b17 a18 a19 a20) (S++[.lst (cm o),.lst gl,.lst (row.map .int)])=.ok (.v (.int y)) (S++[.lst (cm o),.lst gl,.lst (row.map .int)]) ->
   ab2 (wE T w g0 live d4 d5 kept nums d8 d9 d10 d11 S.length i (some (.m (S.length+2))) (some (.v (.int x))) b17 a18 a19 a20) (S++[.lst (cm o),.lst gl,.lst (row.map .int)])=.nx (wE T w g0 live d4 d5 kept nums d8 d9 d10 d11 S.length i (some (.m (S.length+2))) (some (.v (.int x))) b17 a18 a19 a20) (S++[.lst (cm o),.lst gl,.lst ((row++[y]).map .int)]):=λo y b17 h=>by
  refine pU (ug (x:=.m (S.length+2)) (xs:=[.v (.int y)]) (y:=.v .non) (S1:=S++[.lst (cm o),.lst gl,.lst (row.map .int)]) (S2:=S++[.lst (cm o),.lst gl,.lst (row.map .int)]) rfl ?_ (ao h rfl) ?_);unfold zw;simp only[C9];·rw[Ao C9 (by simp;omega),WR,Fj]
 have tge:∀(b17:Option A) (Z:ag),tE (aA tq (eV 16) (eC (.int 0))) (wE T w g0 live d4 d5 kept nums d8 d9 d10 d11 S.length i (some (.m (S.length+2))) (some (.v (.int x))) b17 a18 a19 a20) Z=.ok (decide (0<=x)) Z:=λb17 Z=>gh (aD rfl rfl mS);by_cases h0:0<=x
 ·have tg1:∀(b17:Option A) (Z:ag),tE (aA tq (eV 16) (eC (.int 0))) (wE T w g0 live d4 d5 kept nums d8 d9 d10 d11 S.length i (some (.m (S.length+2))) (some (.v (.int x))) b17 a18 a19 a20) Z=.ok true Z:=λb17 Z=>by rw[tge,decide_eq_true h0]
  have hy:x.toNat<n:=by omega
  have ex:((x.toNat:Nat):Int)=x:=by omega
  have hst:wA s a=some (iM g e x):=by unfold wA;rw[hs,if_neg (lK.mpr (HL h0))]
  have lx:qE g e x.toNat=iM g e x:=by unfold qE;rw[ex]
  by_cases hm:iM g e x∈ord.map (qE g e)
  ·-- an old one
   obtain⟨q,hq,eq⟩:=List.mem_map.mp hm;obtain⟨k,hk⟩:=List.mem_iff_getElem?.mp hq;have hkl:=(List.getElem?_eq_some_iff.mp hk).1;obtain⟨j,r,ej,hj,fj⟩:=K6 (f:=λk=>decide (0<=x)&&decide (nums.getD (ord.getD k 0) 0=nums.getD x.toNat 0)) (l:=List.range ord.length) ⟨k,List.mem_range.mpr hkl,by rw[decide_eq_true h0,Bool.true_and,eY hk];exact decide_eq_true ((C.iff q x.toNat (ho q hq) hy).mpr (by rw[ex];exact eq))⟩;have ej:Ha nums ord x=j::r:=ej;have hjl:=List.mem_range.mp hj;rw[decide_eq_true h0,Bool.true_and]at fj;have fj:=of_decide_eq_true fj;have eo:ord.getD j 0=ord[j]:=eY (List.getElem?_eq_getElem hjl);rw[eo]at fj;have lj:qE g e ord[j]=iM g e x:=(by have:=(C.iff ord[j] x.toNat (ho _ (List.getElem_mem hjl)) hy).mp fj;rw[ex]at this;exact this);have hix:DO (ord.map (qE g e)) (iM g e x)=j:=Jb nd (by rw[List.getElem?_map,List.getElem?_eq_getElem hjl,Option.map_some,lj]);rw[ej]at hsame;refine⟨ord,j,some (.v (.lst (((j::r).map λk=>D.int ((k:Nat):Int))))),?_,ho,nd,⟨[],by simp⟩,by have:=hP.old hst hm;rwa[hix]at this⟩;refine bz (set17 _ hsame) (bz (C2 (S1:=S++[.lst (cm ord),.lst gl,.lst (row.map .int)]) ?_ rfl) (app ord j _ ?_));rw[jz];show(tE (aA tq (eV 16) (eC (.int 0))) (wE T w g0 live d4 d5 kept nums d8 d9 d10 d11 S.length i (some (.m (S.length+2))) (some (.v (.int x))) (some (.v (.lst (((j::r).map λk=>D.int ((k:Nat):Int)))))) a18 a19 a20) _).bind _=_;rw[tg1,R.ak,if_pos rfl];refine gh (aD rfl (y:=.v (.lst [])) rfl ?_);have:=Zm (j:Int) (r.map λk=>((k:Nat):Int)) (S++[.lst (cm ord),.lst gl,.lst (row.map .int)]);rw[List.map_cons,List.map_map]at this;exact this;·refine Bl (tg1 _ _) (aD rfl rfl ?_);rw[fG,List.map_cons,Kq];rfl
  ·-- a new one
   have ej:Ha nums ord x=[]:=(by refine List.filter_eq_nil_iff.mpr λk hk h=>hm ?_;have hkl:=List.mem_range.mp hk;rw[decide_eq_true h0,Bool.true_and,eY (List.getElem?_eq_getElem hkl)]at h;have:=(C.iff ord[k] x.toNat (ho _ (List.getElem_mem hkl)) hy).mp (of_decide_eq_true h);rw[ex]at this;exact List.mem_map.mpr ⟨ord[k],List.getElem_mem hkl,this⟩);rw[ej]at hsame;have nd':((ord++[x.toNat]).map (qE g e)).Nodup:=(by rw[List.map_append,List.map_singleton,lx];exact List.nodup_append.mpr ⟨nd,by simp,λu hu v hv e=>by rw[List.mem_singleton.mp hv]at e;exact hm (e▸hu)⟩);have hP':=hP.new hst hm;rw[List.length_map]at hP';refine⟨ord++[x.toNat],ord.length,some (.v (.lst [.int (ord.length:Nat)])),?_,λp hp=>?_,nd',⟨[x.toNat],rfl⟩,by rw[List.map_append,List.map_singleton,lx];exact hP'⟩
   ·refine bz (set17 _ hsame) (bz (ρ1:=wE T w g0 live d4 d5 kept nums d8 d9 d10 d11 S.length i (some (.m (S.length+2))) (some (.v (.int x))) (some (.v (.lst [.int (ord.length:Nat)]))) a18 a19 a20) (S1:=S++[.lst (cm (ord++[x.toNat])),.lst gl,.lst (row.map .int)]) (RC (S1:=S++[.lst (cm ord),.lst gl,.lst (row.map .int)]) ?_ ?_) (app (ord++[x.toNat]) ord.length _ ?_));rw[jz];show(tE (aA tq (eV 16) (eC (.int 0))) (wE T w g0 live d4 d5 kept nums d8 d9 d10 d11 S.length i (some (.m (S.length+2))) (some (.v (.int x))) (some (.v (.lst []))) a18 a19 a20) _).bind _=_;rw[tg1,R.ak,if_pos rfl];exact gh (aD rfl (y:=.v (.lst [])) rfl rfl);·have hlen:au cj (aa (eV 12) ah) (wE T w g0 live d4 d5 kept nums d8 d9 d10 d11 S.length i (some (.m (S.length+2))) (some (.v (.int x))) (some (.v (.lst []))) a18 a19 a20) (S++[.lst (cm ord),.lst gl,.lst (row.map .int)])=.ok (.v (.int (ord.length:Nat))) (S++[.lst (cm ord),.lst gl,.lst (row.map .int)]):=aW rfl (by rw[wD yx];unfold cm;rw[List.length_map]);refine bz (lJ (x:=.v (.lst [.int (ord.length:Nat)])) (m8 (ao hlen rfl) rfl (by simp))) (pU (ug (x:=.m S.length) (xs:=[.v (.int x)]) (y:=.v .non) (S1:=S++[.lst (cm ord),.lst gl,.lst (row.map .int)]) (S2:=S++[.lst (cm ord),.lst gl,.lst (row.map .int)]) rfl ?_ rfl ?_));unfold zw;simp only[yx];·rw[Ao yx (by unfold cm;rw[List.length_map];omega),WQ,Sb h0]
    ·exact Bl (tg1 _ _) (aD rfl rfl (by rw[fG,Kq];rfl))
   ·rcases List.mem_append.mp hp with hp|hp;exact ho p hp;·rw[List.mem_singleton.mp hp];exact hy
 ·have tg0:∀(b17:Option A) (Z:ag),tE (aA tq (eV 16) (eC (.int 0))) (wE T w g0 live d4 d5 kept nums d8 d9 d10 d11 S.length i (some (.m (S.length+2))) (some (.v (.int x))) b17 a18 a19 a20) Z=.ok false Z:=λb17 Z=>by rw[tge,decide_eq_false h0]
  have hst:wA s a=none:=by unfold wA;rw[hs,if_pos (wB (by omega))]
  refine⟨ord,-1,some (.v (.lst ((Ha nums ord x).map λk=>D.int ((k:Nat):Int)))),?_,ho,nd,⟨[],by simp⟩,hP.no hst⟩;refine bz (set17 _ hsame) (bz (C2 (S1:=S++[.lst (cm ord),.lst gl,.lst (row.map .int)]) ?_ rfl) (app ord (-1) _ (yn (tg0 _ _) rfl)));rw[jz];show(tE (aA tq (eV 16) (eC (.int 0))) (wE T w g0 live d4 d5 kept nums d8 d9 d10 d11 S.length i (some (.m (S.length+2))) (some (.v (.int x))) (some (.v (.lst ((Ha nums ord x).map λk=>D.int ((k:Nat):Int))))) a18 a19 a20) _).bind _=_;rw[tg0];rfl
theorem Se(W:k7 w n g e)(HK:∀p:Nat,∀k,0<=gG g (p:Nat) k->kN g e (gG g (p:Nat) k))(C:C7 n g e nums)(N:jW n nums)(hn:n<=2600)(hw:w<=900){ord:List Nat}{fg:List (List Int)}{a15 a16 a17 a18 a19 a20:Option A}
  (ho:∀p∈ord,p<n) (nd:(ord.map (qE g e)).Nodup) (hg:fg.length<ord.length){M B CC:Env->ag->Prop}{TT:A->ag->Prop}{E:Er->ag->Prop}
  (k:∀(more:List Nat) (r:List Int) (p15 p16 p17 p18 p19 p20:Option A),(∀p∈ord++more,p<n)->((ord++more).map (qE g e)).Nodup->(∀s,(ord.map (qE g e))[fg.length]?=some s->jE wA s (ord.map (qE g e)) w ((ord++more).map (qE g e)) r) ->
   M (wE T w g0 live d4 d5 (aK g) nums d8 d9 d10 d11 S.length ((fg.length+1:Nat):Int) p15 p16 p17 p18 p19 p20) (S++[MO.lst (cm (ord++more)),MO.lst ((fg++[r]).map aQ)])) :
  (WV (wE T w g0 live d4 d5 (aK g) nums d8 d9 d10 d11 S.length (fg.length:Nat) a15 a16 a17 a18 a19 a20) (S++[MO.lst (cm ord),MO.lst (fg.map aQ)])).sa M TT B CC E:=by
 have l2:∀{a b:MO},(S++[a,b]).length=S.length+2:=by simp
 refine Fi ?_;refine bI (Fi ?_);refine bI (dD (x:=.m (S.length+2)) (S1:=S++[MO.lst (cm ord),MO.lst (fg.map aQ),MO.lst []]) (by show mC ah _ _=_;unfold mC;show R.ok (A.m (S++[MO.lst (cm ord),MO.lst (fg.map aQ)]).length) (S++[MO.lst (cm ord),MO.lst (fg.map aQ)]++[MO.lst []])=_;rw[l2,List.append_assoc];rfl) ?_);obtain⟨p,hc⟩:∃p,ord[fg.length]?=some p:=⟨_,List.getElem?_eq_getElem hg⟩;have hpn:p<n:=ho p (List.mem_of_getElem? hc);have hgl:p<g.length:=by rw[W.lg];exact hpn
 have hr0:g[p]?=some g[p]:=List.getElem?_eq_getElem hgl;have lr:=W.lr _ (List.getElem_mem hgl);refine IY (ds:=g[p].map .int) (S1:=S++[MO.lst (cm ord),MO.lst (fg.map aQ),MO.lst []]) (I:=λdon ρ S'=>∃(more:List Nat) (row:List Int) (p16 p17 p18 p19 p20:Option A),ρ=wE T w g0 live d4 d5 (aK g) nums d8 d9 d10 d11 S.length (fg.length:Nat) (some (.m (S.length+2))) p16 p17 p18 p19 p20/\S'=S++[MO.lst (cm (ord++more)),MO.lst (fg.map aQ),MO.lst (row.map .int)] /\
   (∀p∈ord++more,p<n)/\((ord++more).map (qE g e)).Nodup/\row.length=don.length/\jE wA (qE g e p) (ord.map (qE g e)) don.length ((ord++more).map (qE g e)) row) ?_ ⟨[],[],a16,a17,a18,a19,a20,rfl,by simp,by simpa using ho,by simpa using nd,rfl,by rw[List.append_nil];exact jE.zero⟩ ?_ ?_
 ·refine dM (aD (y:=.v (.int ((p:Nat):Int))) rfl (aD rfl rfl ?_) ?_);·rw[jQ yx,atI_nat (by unfold cm;rw[List.getElem?_map,hc];rfl)];rfl
  ·unfold aK;rw[fG,atI_nat (by rw[List.getElem?_map,hr0];rfl)];rfl
 ·rintro don d rest ρ S' hd ⟨more,row,p16,p17,p18,p19,p20,rfl,rfl,hs',nd',hr,hp⟩;have hd2:(g[p].map D.int)[don.length]?=some d:=by rw[hd];simp
  rw[List.getElem?_map]at hd2;obtain⟨x,hx,rfl⟩:=Option.map_eq_some_iff.mp hd2;have hl:don.length<w:=by rw[<-lr];exact(List.getElem?_eq_some_iff.mp hx).1
  have ex:gG g (p:Nat) don.length=x:=by unfold gG;rw[if_pos (by omega),Int.toNat_natCast,eY hr0,eY hx]
  have bx:=Bo W (p:=(p:Nat)) (k:=don.length);refine⟨wE T w g0 live d4 d5 (aK g) nums d8 d9 d10 d11 S.length (fg.length:Nat) (some (.m (S.length+2))) (some (.v (.int x))) p17 p18 p19 p20,rfl,?_⟩;obtain⟨ord2,y,t,e1,hs2,nd2,⟨more2,rfl⟩,hp2⟩:=Sd (T:=T) (w:=w) (g0:=g0) (live:=live) (d4:=d4) (d5:=d5) (kept:=aK g) (d8:=d8) (d9:=d9) (d10:=d10) (d11:=d11) (S:=S) (i:=(fg.length:Nat)) (a17:=p17) (a18:=p18) (a19:=p19) (a20:=p20) (gl:=fg.map aQ) C N hn hs' nd' (x:=x) (by rw[<-ex];exact bx.2) (λh0=>by rw[<-ex]at h0 ⊢;exact HK p _ h0) (s:=qE g e p) (a:=don.length) (by rw[<-ex];rfl) (by rw[hr];omega) hp;exact zy e1 ⟨more++more2,row++[y],_,_,_,_,_,rfl,by rw[List.append_assoc],by rw[<-List.append_assoc];exact hs2,by rw[<-List.append_assoc];exact nd2,by simp[hr],by rw[<-List.append_assoc,List.length_append];exact hp2⟩
 ·rintro ρ S' ⟨more,row,p16,p17,p18,p19,p20,rfl,rfl,hs',nd',hr,hp⟩;rw[List.length_map,lr]at hr hp;have tk:(S++[MO.lst (cm (ord++more)),MO.lst (fg.map aQ),MO.lst (row.map .int)]).take (S++[MO.lst (cm ord),MO.lst (fg.map aQ)]).length=S++[MO.lst (cm (ord++more)),MO.lst (fg.map aQ)]:=by rw[l2,List.take_append,List.take_of_length_le (by omega)];simp
  rw[tk,l2];generalize hS4:S++[MO.lst (cm (ord++more)),MO.lst (fg.map aQ),MO.lst (row.map .int)]=S4;have f12:fA (S.length+2) S4 (some (.m S.length))=some (.m S.length):=w6 (by omega);have f14:fA (S.length+2) S4 (some (.m (S.length+1)))=some (.m (S.length+1)):=w6 (by omega);have f15:fA (S.length+2) S4 (some (.m (S.length+2)))=some (.v (aQ row)):=CS (Nat.le_refl _) (by rw[<-hS4];exact C9);have em:(wE T w g0 live d4 d5 (aK g) nums d8 d9 d10 d11 S.length (fg.length:Nat) (some (.m (S.length+2))) p16 p17 p18 p19 p20).map (fA (S.length+2) S4)=wE T w g0 live d4 d5 (aK g) nums d8 d9 d10 d11 S.length (fg.length:Nat) (some (.v (aQ row))) (fA (S.length+2) S4 p16) (fA (S.length+2) S4 p17) (fA (S.length+2) S4 p18) (fA (S.length+2) S4 p19) (fA (S.length+2) S4 p20):=by simp only[wE,uE,List.map_cons,List.map_nil,f12,f14,f15,A4]
  rw[em];generalize fA (S.length+2) S4 p16=q16;generalize fA (S.length+2) S4 p17=q17;generalize fA (S.length+2) S4 p18=q18;generalize fA (S.length+2) S4 p19=q19;generalize fA (S.length+2) S4 p20=q20;have happ:(ju (mR "list" cI (eV 14) (aa (eV 15) ah))) (wE T w g0 live d4 d5 (aK g) nums d8 d9 d10 d11 S.length (fg.length:Nat) (some (.v (aQ row))) q16 q17 q18 q19 q20) (S++[MO.lst (cm (ord++more)),MO.lst (fg.map aQ)])=.nx (wE T w g0 live d4 d5 (aK g) nums d8 d9 d10 d11 S.length (fg.length:Nat) (some (.v (aQ row))) q16 q17 q18 q19 q20) (S++[MO.lst (cm (ord++more)),MO.lst ((fg++[row]).map aQ)]):=by
   have s2:(S++[MO.lst (cm (ord++more)),MO.lst (fg.map aQ)])[S.length+1]?=some (.lst (fg.map aQ)):=(by rw[List.getElem?_append_right (by omega)];simp);refine pU (ug (x:=.m (S.length+1)) (xs:=[.v (aQ row)]) (y:=.v .non) (S1:=S++[MO.lst (cm (ord++more)),MO.lst (fg.map aQ)]) (S2:=S++[MO.lst (cm (ord++more)),MO.lst (fg.map aQ)]) rfl ?_ rfl ?_);·unfold zw;simp only[s2]
   ·have sl:=Jn ho nd;rw[Ao s2 (by rw[List.length_map];omega),List.set_append_right _ _ (by omega),List.map_append];simp
  refine bI (zy happ (dD (x:=.v (.int ((fg.length+1:Nat):Int))) (S1:=S++[MO.lst (cm (ord++more)),MO.lst ((fg++[row]).map aQ)]) (aD rfl rfl (by show some (A.v (D.int (((fg.length:Nat):Int)+1)))=_;rfl)) ?_));have tk2:(S++[MO.lst (cm (ord++more)),MO.lst ((fg++[row]).map aQ)]).take (S.length+2)=S++[MO.lst (cm (ord++more)),MO.lst ((fg++[row]).map aQ)]:=List.take_of_length_le (by rw[l2];omega);rw[tk2];generalize hS5:S++[MO.lst (cm (ord++more)),MO.lst ((fg++[row]).map aQ)]=S5;have g12:fA (S.length+2) S5 (some (.m S.length))=some (.m S.length):=w6 (by omega);have g14:fA (S.length+2) S5 (some (.m (S.length+1)))=some (.m (S.length+1)):=w6 (by omega);have em2:(wE T w g0 live d4 d5 (aK g) nums d8 d9 d10 d11 S.length ((fg.length+1:Nat):Int) (some (.v (aQ row))) q16 q17 q18 q19 q20).map (fA (S.length+2) S5)=wE T w g0 live d4 d5 (aK g) nums d8 d9 d10 d11 S.length ((fg.length+1:Nat):Int) (some (.v (aQ row))) (fA (S.length+2) S5 q16) (fA (S.length+2) S5 q17) (fA (S.length+2) S5 q18) (fA (S.length+2) S5 q19) (fA (S.length+2) S5 q20):=by simp only[wE,uE,List.map_cons,List.map_nil,g12,g14,A4]
  show M ((wE T w g0 live d4 d5 (aK g) nums d8 d9 d10 d11 S.length ((fg.length+1:Nat):Int) (some (.v (aQ row))) q16 q17 q18 q19 q20).map (fA (S.length+2) S5)) S5;rw[em2,<-hS5];refine k more row _ _ _ _ _ _ hs' nd' λs2 h2=>?_;rw[List.getElem?_map,hc,Option.map_some]at h2;rw[<-Option.some.inj h2];exact hp
theorem Sh(W:k7 w n g e)(HK:∀p:Nat,∀k,0<=gG g (p:Nat) k->kN g e (gG g (p:Nat) k))(C:C7 n g e nums)(N:jW n nums)(h1:1<=n)(hn:n<=2600)(hw:w<=900){a12 a13 a14 a15 a16 a17 a18 a19 a20:Option A}
  {M B CC:Env->ag->Prop}{TT:A->ag->Prop}{E:Er->ag->Prop}
  (k:∀(ord:List Nat) (fg:List (List Int)) (i:Int) (p15 p16 p17 p18 p19 p20:Option A),(∀p∈ord,p<n)->yr wA fnL w (qE g e 0) fg (ord.map λp=>tA e ((p:Nat):Int))->ord.length<=n ->
   M (uE T w g0 live (some (.v d4)) (some (.v d5)) (some (.v (aK g))) (some (.v (.lst (nums.map .int)))) (some (.v d8)) (some (.v d9)) (some (.v d10)) (some (.v d11)) (some (.v (.lst (cm ord)))) (some (.v (.int i))) (some (.v (aK fg))) p15 p16 p17 p18 p19 p20) S) :
  ((Ey (aG (xO 12 13 14 (aa (mC (aa (eC (.int 0)) ah)) (aa (eC (.int 0)) (aa (mC ah) ah)))) (kU (tE (aA CF (eV 13) (au cj (aa (eV 12) ah)))) WV 2700)))
   (uE T w g0 live (some (.v d4)) (some (.v d5)) (some (.v (aK g))) (some (.v (.lst (nums.map .int)))) (some (.v d8)) (some (.v d9)) (some (.v d10)) (some (.v d11)) a12 a13 a14 a15 a16 a17 a18 a19 a20) S).sa M TT B CC E:=by
 have l1:(S++[MO.lst (cm [0])]).length=S.length+1:=by simp
 refine Fi ?_;refine bI (zy (ρ1:=wE T w g0 live d4 d5 (aK g) nums d8 d9 d10 d11 S.length 0 a15 a16 a17 a18 a19 a20) (S1:=S++[MO.lst (cm [0]),MO.lst []]) ?_ ?_)
 ·have ha:(aa (mC (aa (eC (.int 0)) ah)) (aa (eC (.int 0)) (aa (mC ah) ah))) (uE T w g0 live (some (.v d4)) (some (.v d5)) (some (.v (aK g))) (some (.v (.lst (nums.map .int)))) (some (.v d8)) (some (.v d9)) (some (.v d10)) (some (.v d11)) a12 a13 a14 a15 a16 a17 a18 a19 a20) S=.ok [.m S.length,.v (.int 0),.m (S.length+1)] (S++[MO.lst (cm [0]),MO.lst []]):=by refine ao (x:=.m S.length) (S1:=S++[MO.lst (cm [0])]) rfl (ao (x:=.v (.int 0)) (S1:=S++[MO.lst (cm [0])]) rfl (ao (x:=.m (S.length+1)) (S1:=S++[MO.lst (cm [0]),MO.lst []]) ?_ rfl));show R.ok (A.m (S++[MO.lst (cm [0])]).length) (S++[MO.lst (cm [0])]++[MO.lst []])=_;rw[l1,List.append_assoc];rfl
  unfold xO;rw[ha];rfl
 refine vj (k:=n) (I:=λk ρ S'=>∃(ord:List Nat) (fg:List (List Int)) (o15 o16 o17 o18 o19 o20:Option A),ρ=wE T w g0 live d4 d5 (aK g) nums d8 d9 d10 d11 S.length (fg.length:Nat) o15 o16 o17 o18 o19 o20/\S'=S++[MO.lst (cm ord),MO.lst (fg.map aQ)]/\(∀p∈ord,p<n)/\(ord.map (qE g e)).Nodup/\fg.length<=ord.length/\n-fg.length<=k/\yu wA w (qE g e 0) (ord.map (qE g e)) fg)
  ⟨[0],[],_,_,_,_,_,_,rfl,rfl,λp hp=>by rw[List.mem_singleton.mp hp];omega,by simp,by simp,by simp,yu.zero⟩ (by omega) ?_
 rintro k' ρ S' ⟨ord,fg,o15,o16,o17,o18,o19,o20,rfl,rfl,ho,nd,hg,hk,hE⟩;have ol:=Jn ho nd;have z0:(S++[MO.lst (cm ord),MO.lst (fg.map aQ)])[S.length]?=some (.lst (cm ord)):=by simp
 have z1:(S++[MO.lst (cm ord),MO.lst (fg.map aQ)])[S.length+1]?=some (.lst (fg.map aQ)):=by rw[List.getElem?_append_right (by omega)];simp
 refine⟨decide ((fg.length:Int)<(ord.length:Nat)),S++[MO.lst (cm ord),MO.lst (fg.map aQ)],gh (aD rfl (aW rfl (wD z0)) (by rw[NH];unfold cm;rw[List.length_map])),λhf=>?_,λht=>?_⟩
 ·have hf:=of_decide_eq_false hf;have eq:fg.length=ord.length:=by omega
  have tk:(S++[MO.lst (cm ord),MO.lst (fg.map aQ)]).take S.length=S:=by simp
  rw[tk];generalize hS4:S++[MO.lst (cm ord),MO.lst (fg.map aQ)]=S4;have f12:fA S.length S4 (some (.m S.length))=some (.v (.lst (cm ord))):=CS (Nat.le_refl _) (by rw[<-hS4];exact z0);have f14:fA S.length S4 (some (.m (S.length+1)))=some (.v (aK fg)):=CS (by omega) (by rw[<-hS4];exact z1);have em:(wE T w g0 live d4 d5 (aK g) nums d8 d9 d10 d11 S.length (fg.length:Nat) o15 o16 o17 o18 o19 o20).map (fA S.length S4)=uE T w g0 live (some (.v d4)) (some (.v d5)) (some (.v (aK g))) (some (.v (.lst (nums.map .int)))) (some (.v d8)) (some (.v d9)) (some (.v d10)) (some (.v d11)) (some (.v (.lst (cm ord)))) (some (.v (.int (fg.length:Nat)))) (some (.v (aK fg))) (fA S.length S4 o15) (fA S.length S4 o16) (fA S.length S4 o17) (fA S.length S4 o18) (fA S.length S4 o19) (fA S.length S4 o20):=by simp only[wE,uE,List.map_cons,List.map_nil,f12,f14,A4]
  rw[em];have hT:=hE.done (fn:=fnL) (by rw[List.length_map];exact eq);rw[List.map_map]at hT;exact k ord fg _ _ _ _ _ _ _ ho hT ol
 ·have ht:=of_decide_eq_true ht;refine Se W HK C N hn hw ho nd (by omega) ?_;intro more r p15 p16 p17 p18 p19 p20 hs' nd' hpart;refine⟨n-(fg.length+1),by omega,ord++more,fg++[r],p15,p16,p17,p18,p19,p20,?_,rfl,hs',nd',by simp;omega,by simp,hE.step (List.getElem?_eq_getElem (by rw[List.length_map];omega)) (hpart _ (List.getElem?_eq_getElem (by rw[List.length_map];omega)))⟩;rw[List.length_append,List.length_singleton]
end
section
variable {w n:Nat}{g:List (List Int)}{e:List Bool}
theorem VD{live:List Bool}{b:Bool}(h:atI (aN live) 0=some (.bl b)){T:D}{w:Nat}{g0:D}{a4 a5 a6 a7 a8 a9 a10 a11 a12 a13 a14 a15 a16 a17 a18 a19 a20:Option A}{S:ag} :hV (tE (aA b6 (eV 3) (eC (.int 0)))) (uE T w g0 (.lst (aN live)) a4 a5 a6 a7 a8 a9 a10 a11 a12 a13 a14 a15 a16 a17 a18 a19 a20) S=.ok (!b) S:=
 NO (gh (aD rfl rfl (by rw[fG,h];rfl)))
theorem VE(W:k7 w n g e)(hn:n<=2600)(hw:w<=900)(S:ag):∃(g':List (List Int)) (e':List Bool),fN [.v (bX g e),.v (.int (w:Nat))] S=.ok (.v (bX g' e')) S/\Am w (iM g e (nF n)) g' e':=by
 have key:∃x S',r8 [.v (bX g e),.v (.int (w:Nat))] S=.ok x S'/\∃(g':List (List Int)) (e':List Bool),x=.v (bX g' e')/\S'=S/\Am w (iM g e (nF n)) g' e':=by
  refine KG rfl ?_;unfold yi;have ha:(aa (aA b6 (eV 0) (eC (.int 0))) (aa (au qA (aa (aA b6 (eV 0) (eC (.int 1))) ah)) (aa (eC (.bl true)) ah))) ([some (.v (bX g e)),some (.v (.int (w:Nat))),none,none,none,none,none,none,none,none,none,none,none,none,none,none,none,none,none,none,none]:Env) S=.ok [.v (aK g),.v (.lst (aN e)),.v (.bl true)] S:=
   ao (aD rfl rfl rfl) (ao (aW (ao (x:=.v (.lst (aN e))) (aD rfl rfl rfl) rfl) (by unfold qA EA;rfl)) rfl)
  refine bI (zy (ρ1:=uE (bX g e) w (aK g) (.lst (aN e)) (some (.v (.bl true))) none none none none none none none none none none none none none none none none) (S1:=S) ?_ ?_);·show xO 2 3 4 _ ([some (.v (bX g e)),some (.v (.int (w:Nat))),none,none,none,none,none,none,none,none,none,none,none,none,none,none,none,none,none,none,none]:Env) S=_;unfold xO;rw[ha];rfl
  refine bI (vj (k:=n+1) (I:=λk ρ S'=>S'=S/\∃(L:List Bool) (c:Bool) (o5 o13 o16:Option A),ρ=uE (bX g e) w (aK g) (.lst (aN L)) (some (.v (.bl c))) o5 none none none none none none none o13 none none o16 none none none none/\Vc n g e L/\eX L+(if c=true then 1 else 0)<=k/\(c=false->∀p<n,ClR w g L p)/\(c=false->∃d5,o5=some (.v d5)))
   ⟨rfl,e,true,none,none,none,rfl,⟨W.le,λ_ _ h=>h,λp _ h=>KJ h⟩,by have:=G0 e;rw[W.le]at this;simpa using this,λh=>(by cases h),λh=>(by cases h)⟩ (by omega) ?_)
  rintro k ρ S' ⟨rfl,L,c,o5,o13,o16,rfl,I,hk,hcl,h5⟩;refine⟨c,_,gh rfl,λhc=>?_,λhc=>?_⟩
  ·subst hc;have LV:=KN W I.len I.a I.b (hcl rfl);obtain⟨d5,rfl⟩:=h5 rfl;clear hcl hk h5;have empty:∀ρ:Env,(mK (aa (cn ah) (aa (cn ah) ah))) ρ S'=.ok (.v (bX [] [])) S':=λρ=>rfl;cases g with
   |nil =>refine bI (CZ (b:=true) (S1:=S') rfl ?_);rw[if_pos rfl];exact wz (empty _) ⟨[],[],rfl,rfl,.inl ⟨wB (by have:n=0:=W.lg.symm;rw[this];decide),rfl,rfl⟩⟩|cons r0 g0=>
    have n1:1<=n:=(by have:=W.lg;rw[List.length_cons]at this;omega);obtain⟨b,i1,i2⟩:=Tp (l:=L) (x:=0) (by omega) (by rw[I.len];omega);have hb:bh L 0=b:=eY (by simpa using i2);have ht:uA (tE (aA eU (eV 2) (cn ah))) (hV (tE (aA b6 (eV 3) (eC (.int 0))))) (uE (bX (r0::g0) e) w (aK (r0::g0)) (.lst (aN L)) (some (.v (.bl false))) (some (.v d5)) none none none none none none none o13 none none o16 none none none none) S'=.ok (!b) S':=(by rw[BU];show(tE (aA eU (eV 2) (cn ah)) (uE (bX (r0::g0) e) w (aK (r0::g0)) (.lst (aN L)) (some (.v (.bl false))) (some (.v d5)) none none none none none none none o13 none none o16 none none none none) S').bind _=_;rw[show tE (aA eU (eV 2) (cn ah)) (uE (bX (r0::g0) e) w (aK (r0::g0)) (.lst (aN L)) (some (.v (.bl false))) (some (.v d5)) none none none none none none none o13 none none o16 none none none none) S'=.ok false S' from gh (aD (y:=.v (.lst [])) rfl rfl (Ob r0 g0 S')),R.ak,if_neg (by decide)];exact VD i1);refine bI (CZ ht ?_);cases b with
    |false =>rw[if_pos (show(!false)=true from rfl)];refine wz (empty _) ⟨[],[],rfl,rfl,.inl ⟨?_,rfl,rfl⟩⟩;have:¬kN (r0::g0) e ((0:Nat):Int):=λz=>(by have:=(LV.iff 0 (by omega)).mpr z;rw[hb]at this;cases this);rw[show nF n=((0:Nat):Int) from if_neg (by omega)];exact Classical.byContradiction λz=>this (lK.mp z)|true=>
     rw[if_neg (show¬(!true)=true by decide)];refine Cb ?_;refine bI (dD (Vz W hn hw I.len) ?_);have Wk:=KS (live:=L) W;have HK:∀p:Nat,∀k,0<=gG (f9 (r0::g0) L) (p:Nat) k->kN (f9 (r0::g0) L) e (gG (f9 (r0::g0) L) (p:Nat) k):=λp k h=>E9 W LV h
     -- the kinds at first
     have hk0:fX [18] (cJ (aA b6 (eV 0) (eC (.int 1)))) (.nm 18) aL (au pJ (aa (eV 18) ah)) (uE (bX (r0::g0) e) w (aK (r0::g0)) (.lst (aN L)) (some (.v (.bl false))) (some (.v d5)) (some (.v (aK (f9 (r0::g0) L)))) none none none none none none o13 none none o16 none none none none) S'=.ok (.v (.lst ((e.map λb=>if b=true then(1:Int) else 0).map .int))) S':=(by rw[List.map_map];refine bP e D.bl (λb=>D.int (if b=true then 1 else 0)) (dM (aD rfl rfl rfl)) (by rw[W.le];omega) λb _ Z=>⟨uE (bX (r0::g0) e) w (aK (r0::g0)) (.lst (aN L)) (some (.v (.bl false))) (some (.v d5)) (some (.v (aK (f9 (r0::g0) L)))) none none none none none none o13 none none o16 none (some (.v (.bl b))) none none,rfl,rfl,?_⟩;cases b<;>exact aW rfl rfl);have I0:=abR Wk;have N0:jW n (e.map λb=>if b=true then(1:Int) else 0):=(by refine⟨by rw[List.length_map,W.le],λx hx=>?_,λx hx=>?_⟩<;>obtain⟨b,_,rfl⟩:=List.mem_map.mp hx<;>cases b<;>simp<;>omega);generalize (e.map λb=>if b=true then(1:Int) else 0)=n0 at hk0 I0 N0;refine bI (zy (ρ1:=vE (bX (r0::g0) e) w (aK (r0::g0)) (.lst (aN L)) (some (.v (.bl true))) (some (.v d5)) (aK (f9 (r0::g0) L)) n0 0 none none none none o13 none none o16 none none none none) (S1:=S') ?_ ?_);have hp:(aa (fX [18] (cJ (aA b6 (eV 0) (eC (.int 1)))) (.nm 18) aL (au pJ (aa (eV 18) ah))) (aa (eC (.int 0)) (aa (eC (.bl true)) ah))) (uE (bX (r0::g0) e) w (aK (r0::g0)) (.lst (aN L)) (some (.v (.bl false))) (some (.v d5)) (some (.v (aK (f9 (r0::g0) L)))) none none none none none none o13 none none o16 none none none none) S'=.ok [.v (.lst (n0.map .int)),.v (.int 0),.v (.bl true)] S':=ao hk0 rfl;show xO 7 8 4 _ (uE (bX (r0::g0) e) w (aK (r0::g0)) (.lst (aN L)) (some (.v (.bl false))) (some (.v d5)) (some (.v (aK (f9 (r0::g0) L)))) none none none none none none o13 none none o16 none none none none) S'=_;unfold xO;rw[hp];rfl;have lk:(f9 (r0::g0) L).length=n:=Wk.lg;have lg0:(r0::g0).length=n:=W.lg;generalize hG:f9 (r0::g0) L=gk at *
     refine bI (vj (k:=n+2) (I:=λk ρ S2=>S2=S'/\∃(nums:List Int) (m:Nat) (c:Bool) (o9 o10 o11 o13 o16 o19 o20:Option A),ρ=vE (bX (r0::g0) e) w (aK (r0::g0)) (.lst (aN L)) (some (.v (.bl c))) (some (.v d5)) (aK gk) nums (m:Nat) o9 o10 o11 none o13 none none o16 none none o19 o20 /\
       jW n nums/\Ml n gk e nums/\(m=0\/m=(dd nums).length)/\m<=n/\n+1-m+(if c=true then 1 else 0)<=k/\(c=false->C7 n gk e nums/\∃d9 d10 d11,o9=some (.v d9)/\o10=some (.v d10)/\o11=some (.v d11)))
      ⟨rfl,n0,0,true,none,none,none,o13,o16,none,none,rfl,N0,I0,.inl rfl,by omega,by simp,λh=>(by cases h)⟩ (by omega) ?_)
     rintro k ρ S2 ⟨rfl,nums,m,c,o9,o10,o11,p13,p16,o19,o20,rfl,N,IC,hm,hmn,hk,hC⟩;refine⟨c,_,gh rfl,λhc=>?_,λhc=>?_⟩
     ·-- the classes stand
      subst hc;obtain⟨C,d9,d10,d11,rfl,rfl,rfl⟩:=hC rfl;refine bI (Sh (T:=bX (r0::g0) e) (g0:=aK (r0::g0)) (live:=.lst (aN L)) (d4:=.bl false) (d5:=d5) (d8:=.int (m:Nat)) (d9:=d9) (d10:=d10) (d11:=d11) Wk HK C N n1 hn hw ?_);intro ord fg i p15 p16 p17 p18 p19 p20 ho hT hol;have hends:fX [18] (cJ (eV 12)) (.nm 18) aL (aA b6 (aA b6 (eV 0) (eC (.int 1))) (eV 18)) (uE (bX (r0::g0) e) w (aK (r0::g0)) (.lst (aN L)) (some (.v (.bl false))) (some (.v d5)) (some (.v (aK gk))) (some (.v (.lst (nums.map .int)))) (some (.v (.int (m:Nat)))) (some (.v d9)) (some (.v d10)) (some (.v d11)) (some (.v (.lst (cm ord)))) (some (.v (.int i))) (some (.v (aK fg))) p15 p16 p17 p18 p19 p20) S2=.ok (.v (.lst (aN (ord.map λp=>tA e ((p:Nat):Int))))) S2:=(by have en:aN (ord.map λp=>tA e ((p:Nat):Int))=ord.map λp=>D.bl (tA e ((p:Nat):Int)):=List.map_map;rw[en];refine bP (own:=[18]) (g:=.nm 18) (t:=aL) ord (λp=>D.int ((p:Nat):Int)) (λp=>D.bl (tA e ((p:Nat):Int))) (dM rfl) (by omega) λp hp Z=>⟨uE (bX (r0::g0) e) w (aK (r0::g0)) (.lst (aN L)) (some (.v (.bl false))) (some (.v d5)) (some (.v (aK gk))) (some (.v (.lst (nums.map .int)))) (some (.v (.int (m:Nat)))) (some (.v d9)) (some (.v d10)) (some (.v d11)) (some (.v (.lst (cm ord)))) (some (.v (.int i))) (some (.v (aK fg))) p15 p16 p17 (some (.v (.int ((p:Nat):Int)))) p19 p20,rfl,rfl,?_⟩;refine aD (aD rfl rfl (w:=.v (.lst (aN e))) rfl) rfl ?_;rw[fG,RU W (p:=((p:Nat):Int)) (by omega) (by have:=ho p hp;omega)];rfl);refine wz (x:=.v (bX fg (ord.map λp=>tA e ((p:Nat):Int)))) (S1:=S2) (ph (ao (x:=.v (aK fg)) (S1:=S2) rfl (ao hends rfl)) rfl (Nat.le_of_ble_eq_true rfl)) ⟨fg,_,rfl,rfl,.inr ⟨?_,?_⟩⟩;rw[show nF n=((0:Nat):Int) from if_neg (by omega)];exact lK.mpr ((LV.iff 0 (by omega)).mp hb);·rw[show nF n=((0:Nat):Int) from if_neg (by omega),<-Bp W LV,hG];exact hT
     ·-- one turn
      subst hc;have kl:(bQ gk nums).length=n:=(by rw[oy,lk]);have dk:(dd (bQ gk nums)).length<=n:=(by have:=Fb (l:=bQ gk nums);rw[kl]at this;exact this);have sl:(bK gk nums).length=(dd (bQ gk nums)).length:=ow;have more:=G4 Wk N;have pos:1<=(dd (bQ gk nums)).length:=(by have:F6 gk nums 0∈dd (bQ gk nums):=jo.mpr (zf Wk (by omega));exact List.length_pos_of_mem this);refine bI (dD (VA Wk hn hw N lg0) ?_);refine bI (dD (R8 Wk hn N) ?_);refine bI (dD (Pq Bt (λz=>by rw[z]at sl;simp at sl;omega) (by rw[sl];omega)) ?_);refine bI (dD (R9 Wk hn) ?_);have hlen:∀{o4 o9 o11 o13 o16 o19 o20:Option A},au cj (aa (eV 10) ah) (vE (bX (r0::g0) e) w (aK (r0::g0)) (.lst (aN L)) o4 (some (.v d5)) (aK gk) (tD gk nums) (m:Nat) o9 (some (.v (.lst ((bK gk nums).map bj)))) o11 none o13 none none o16 none none o19 o20) S2=.ok (.v (.int ((bK gk nums).length:Nat))) S2:=λ{o4 o9 o11 o13 o16 o19 o20}=>aW rfl (by rw[wq,List.length_map]);refine Y3 (x:=.v (.bl (decide (((m:Nat):Int)<((bK gk nums).length:Nat))))) (y:=.v (.int ((bK gk nums).length:Nat))) (S1:=S2) (ao (aD hlen rfl (by rw[NJ])) (ao hlen rfl)) ?_;have e1:(bK gk nums).length=(dd (tD gk nums)).length:=(by rw[Ff,sl]);refine⟨n+1-(bK gk nums).length+(if decide (((m:Nat):Int)<((bK gk nums).length:Nat))=true then 1 else 0),?_,rfl,tD gk nums,(bK gk nums).length,decide (((m:Nat):Int)<((bK gk nums).length:Nat)),_,_,_,_,_,_,_,rfl,Jg Wk,Jh Wk HK IC,.inr e1,by rw[sl];exact dk,Nat.le_refl _,λhc=>⟨?_,_,_,_,rfl,rfl,rfl⟩⟩
      ·rw[sl]at *
       by_cases hlt:((m:Nat):Int)<((dd (bQ gk nums)).length:Nat);·rw[decide_eq_true hlt];simp at hk ⊢;omega
       ·rw[decide_eq_false hlt];simp at hk ⊢;rcases hm with rfl|rfl;omega;·omega
      ·have hc:=of_decide_eq_false hc;refine cls_ok Wk HK IC N.len ?_;rw[sl]at hc;rcases hm with rfl|rfl;omega;·omega
  ·subst hc;refine bI (dD (Zl W hn hw I.len) ?_);refine Rz (x:=.v (.tup [.bl (!decide (qD n g L=L)),.lst (aN (qD n g L))])) (S1:=S') (ρ1:=uE (bX g e) w (aK g) (.lst (aN (qD n g L))) (some (.v (.bl (!decide (qD n g L=L))))) (some (.v (.lst (aN (qD n g L))))) none none none none none none none o13 none none o16 none none none none) (ph (ao (aD rfl rfl (Vy _ _ S')) (ao rfl rfl)) rfl (Nat.le_of_ble_eq_true rfl)) rfl ?_;have hf:=Mq (g:=g) I.len;refine⟨eX (qD n g L)+(if (!decide (qD n g L=L))=true then 1 else 0),?_,rfl,qD n g L,!decide (qD n g L=L),_,_,_,rfl,I.nxt W,Nat.le_refl _,λhc=>?_,λ_=>⟨_,rfl⟩⟩
   ·by_cases h:qD n g L=L;·rw[decide_eq_true h,h];simp at hk ⊢;omega
    ·have:eX (qD n g L)≠eX L:=λz=>h (hf.2 z);have:=hf.1;rw[decide_eq_false h];simp at hk ⊢;omega
   ·have h:qD n g L=L:=by
     cases q:decide (qD n g L=L) with
     |true=>exact of_decide_eq_true q|false=>rw[q]at hc;cases hc
    rw[h];exact Zk W h
 obtain⟨x,S',e1,g',e',rfl,rfl,h1⟩:=key;refine⟨g',e',?_,h1⟩;unfold fN PH;rw[e1,GW];simp
end
abbrev Tab:=List (List Int)×List Bool
def Tab.d(t:Tab):D:=bX t.1 t.2
theorem VF{g g':List (List Int)}{e e':List Bool}(h:g=g'/\e=e'):(g,e)=(g',e'):=by rw[h.1,h.2]
def Fu(w:Nat)(u:List Nat):Bool:=u.all λk=>decide (k<w)
def LW(w:Nat)(L:zr):Prop:=∀u,Fu w u=false->L u=false
section
variable {α:Type}{stp:α->Nat->Option α}{fn:α->Bool}{w:Nat}{s0:α}{g:List (List Int)}{e:List Bool}{n:Nat}{L:zr}
def yA(stp:α->Nat->Option α)(fn:α->Bool)(w:Nat):List Nat->α->Bool
 |[],s=>fn s|k::u,s=>if k<w then(match stp s k with
  |some t=>yA stp fn w u t|none=>false) else false
theorem Ot{u:List Nat}{k:Nat}{s:α}(h:k<w)(e:stp s k=none):yA stp fn w (k::u) s=false:=by rw[yA,if_pos h,e]
theorem Ou{u:List Nat}{k:Nat}{s t:α}(h:k<w)(e:stp s k=some t):yA stp fn w (k::u) s=yA stp fn w u t:=by rw[yA,if_pos h,e]
theorem Ov{u:List Nat}{k:Nat}{s:α}(h:¬k<w):yA stp fn w (k::u) s=false:=by rw[yA,if_neg h]
theorem Zo{sts:List α}{k:Nat}{s:α}(h:k<w)(e:stp s k=none):(xr sts stp w s)[k]?=some (-1):=by unfold xr;rw[List.getElem?_map,List.getElem?_range h,Option.map_some,e]
theorem Zp{sts:List α}{k:Nat}{s t:α}(h:k<w)(e:stp s k=some t):(xr sts stp w s)[k]?=some ((DO sts t:Nat):Int):=by unfold xr;rw[List.getElem?_map,List.getElem?_range h,Option.map_some,e]
theorem Zq{sts:List α}{k:Nat}{s:α}(h:¬k<w):(xr sts stp w s)[k]?=none:=by unfold xr;rw[List.getElem?_map,List.getElem?_eq_none (by rw[List.length_range];omega),Option.map_none]
theorem Hb{sts:List α}(B:I7 (Jc stp w) s0 sts):∀(u:List Nat) (i:Nat) (s:α),sts[i]?=some s->iM (sts.map (xr sts stp w)) (sts.map fn) (i:Nat) u=yA stp fn w u s
 |[],i,s,h=>by show(decide (0<=((i:Nat):Int))&&(sts.map fn).getD ((i:Nat):Int).toNat false)=fn s;rw[decide_eq_true (by omega),Bool.true_and,Int.toNat_natCast,eY (a:=fn s) (by rw[List.getElem?_map,h];rfl)]|k::u,i,s,h=>by
  show iM _ _ (gG (sts.map (xr sts stp w)) (i:Nat) k) u=_;have hg:gG (sts.map (xr sts stp w)) (i:Nat) k=(xr sts stp w s).getD k (-1):=by unfold gG;rw[if_pos (by omega),Int.toNat_natCast,eY (a:=xr sts stp w s) (by rw[List.getElem?_map,h];rfl)]
  rw[hg];by_cases hk:k<w;·cases e1:stp s k with|none =>rw[eY (Zo hk e1),Ot hk e1];exact iY (by decide) u|some t =>have ht:t∈sts:=Va B (List.mem_of_getElem? h) (Jd.mpr ⟨k,hk,e1⟩);rw[eY (Zp hk e1),Ou hk e1];exact Hb B u _ t (RG ht)
  ·rw[Bn (Zq hk),Ov hk];exact iY (by decide) u
theorem Zr(h:yr stp fn w s0 g e):nF g.length=0:=by obtain⟨sts,B,rfl,rfl⟩:=h;have h0:=RF B;unfold nF;rw[if_neg];rw[List.length_map];intro hz;rw[List.length_eq_zero_iff.mp hz]at h0;cases h0
theorem Si(h:yr stp fn w s0 g e):iM g e (nF g.length)=λu=>yA stp fn w u s0:=by rw[Zr h];obtain⟨sts,B,rfl,rfl⟩:=h;exact funext λu=>Hb B u 0 s0 (RF B)
theorem Ow:∀(u:List Nat) (L:zr),LW w L->yA wA fnL w u L=L u
 |[],_,_=>rfl|k::u,L,h=>by
  by_cases hk:k<w;·by_cases he:Y7 (Mi L k);have e1:wA L k=none:=if_pos he;rw[Ot hk e1];exact(he u).symm;·have e1:wA L k=some (Mi L k):=if_neg he;rw[Ou hk e1];refine Ow u (Mi L k) λx hx=>h (k::x) ?_;show(decide (k<w)&&Fu w x)=false;rw[hx,Bool.and_false]
  ·rw[Ov hk];refine(h (k::u) ?_).symm;show(decide (k<w)&&Fu w u)=false;rw[decide_eq_false hk,Bool.false_and]
theorem Am.acw(h:Am w L g e)(hL:LW w L):iM g e (nF g.length)=L:=by
 rcases h with ⟨h1,rfl,rfl⟩|⟨h1,h2⟩
 exact funext λu=>(iY (by decide) u).trans (h1 u).symm;·rw[Si h2];exact funext λu=>Ow u L hL
def Canon(w:Nat)(t:Tab):Prop:=Am w (iM t.1 t.2 (nF t.1.length)) t.1 t.2
theorem Canon.ext{t u:Tab}(ht:Canon w t)(hu:Canon w u)(h:iM t.1 t.2 (nF t.1.length)=iM u.1 u.2 (nF u.1.length)):t=u:=by unfold Canon at ht hu;rw[h]at ht;exact VF (ht.uniq hu)
theorem Ox(W:k7 w n g e):∀(u:List Nat) (p:Int),Fu w u=false->iM g e p u=false|[],_,h=>by cases h|k::u,p,h=>by show iM g e (gG g p k) u=false;by_cases hk:k<w;have h':(decide (k<w)&&Fu w u)=false:=h;rw[decide_eq_true hk,Bool.true_and]at h';exact Ox W u _ h';·rw[Cf W (Nat.le_of_not_lt hk)];exact iY (by decide) u
end
section
variable {α β:Type}{own vs1:List Nat}{mi mi1:IM}{g g1:Tg}{t t1:TM}{m:EM}{ρ:Env}{S S1:ag}
theorem Oy(mk h:α->D):∀{items:List α}{acc:List D},(∀a∈items,∀Z,∃ρ1,g.put (.v (mk a)) ρ=some ρ1/\t ρ1 Z=.ok true Z/\m ρ1 Z=.ok (.v (h a)) Z)->acc.length+items.length<=1000000 ->
  HQ g t m ρ S.length (items.map mk) (S++[.lst acc])=.ok () (S++[.lst (acc++items.map h)])
 |[],acc,_,_=>by simp[HQ]|a::r,acc,st,hl=>by
  obtain⟨ρ1,e1,e2,e3⟩:=st a (by simp) (S++[.lst acc]);simp only[List.map_cons,HQ,e1,e2,e3];have g1:(S++[MO.lst acc])[S.length]?=some (.lst acc):=by rw[List.getElem?_append_right (Nat.le_refl _)];simp
  simp only[List.length_cons]at hl;rw[g1];simp only;rw[if_pos ⟨by simp,by show acc.length<1000000;omega⟩];have e4:(S++[MO.lst acc]).set S.length (.lst (acc++[h a]))=S++[.lst (acc++[h a])]:=by rw[List.set_append_right _ _ (Nat.le_refl _)];simp
  rw[e4,Oy mk h (items:=r) (acc:=acc++[h a]) (λb hb=>st b (by simp[hb])) (by simp;omega)];simp
theorem K7(mk:α->D)(f:α->List β)(mk1:β->D)(h:α->β->D):∀{items:List α}{acc:List D},(∀a∈items,∀Z,∃ρ1,g.put (.v (mk a)) ρ=some ρ1/\t ρ1 Z=.ok true Z/\mi1 ρ1 Z=.ok ((f a).map mk1) Z /\
   ∀b∈f a,∀Z,∃ρ2,g1.put (.v (mk1 b)) (aT ρ1 vs1)=some ρ2/\t1 ρ2 Z=.ok true Z/\m ρ2 Z=.ok (.v (h a b)) Z)->acc.length+(items.flatMap f).length<=1000000 ->
  EB g t mi1 g1 t1 m vs1 ρ S.length (items.map mk) (S++[.lst acc])=.ok () (S++[.lst (acc++items.flatMap λa=>(f a).map (h a))])
 |[],acc,_,_=>by simp[EB]|a::r,acc,st,hl=>by obtain⟨ρ1,e1,e2,e3,e4⟩:=st a (by simp) (S++[.lst acc]);simp only[List.flatMap_cons,List.length_append]at hl;simp only[List.map_cons,EB,e1,e2,e3];rw[Oy mk1 (h a) (items:=f a) (acc:=acc) e4 (by omega)];simp only;rw[K7 mk f mk1 h (items:=r) (acc:=acc++(f a).map (h a)) (λb hb=>st b (by simp[hb])) (by simp only[List.length_append,List.length_map];omega)];simp
theorem Sj(items:List α)(mk:α->D)(f:α->List β)(mk1:β->D)(h:α->β->D)(hi:mi ρ S=.ok (items.map mk) S1)(hl:(items.flatMap f).length<=1000000)
  (st:∀a∈items,∀Z,∃ρ1,g.put (.v (mk a)) (aT ρ own)=some ρ1/\t ρ1 Z=.ok true Z/\mi1 ρ1 Z=.ok ((f a).map mk1) Z/\∀b∈f a,∀Z,∃ρ2,g1.put (.v (mk1 b)) (aT ρ1 vs1)=some ρ2/\t1 ρ2 Z=.ok true Z/\m ρ2 Z=.ok (.v (h a b)) Z) :
  LN own vs1 mi g t mi1 g1 t1 m ρ S=.ok (.v (.lst (items.flatMap λa=>(f a).map (h a)))) S1:=by
 unfold LN;rw[hi];simp only[R.ak];rw[K7 mk f mk1 h (items:=items) (acc:=[]) st (by simpa using hl)];have e1:(S1++[MO.lst ([]++items.flatMap λa=>(f a).map (h a))])[S1.length]?=some (.lst (items.flatMap λa=>(f a).map (h a))):=by rw[List.getElem?_append_right (Nat.le_refl _)];simp
 simp only[e1];rw[if_pos (by simp)];congr 1;simp
end
theorem ab3:("1" : Str)=sL [49]:=by decide +kernel
abbrev Pu(n c:Nat):List Nat:=List.replicate n c
theorem K8{n c:Nat}:(Pu n c).length=n:=by simp
theorem Sk{n c x:Nat}(h:x∈Pu n c):x=c:=List.eq_of_mem_replicate h
theorem VG{l c:List Nat}(h:nc l c):nc l (Pu l.length 49):=⟨h.low,h.up,h.l1,h.l8,K8,λx hx=>by rw[Sk hx];simp⟩
theorem Bw{l c:List Nat}{S:ag}(h:nc l c):bE [.v (.str (sL l))] S=.ok (.v (ay l (Pu l.length 49))) S:=by have h8:=h.l8;have e:=G6 (l:=l) (S:=S) (by omega);have hr:nc l (Pu l.length 49):=VG h;have m:=Of (d:=.str (sL l)) (e:=.str (sL (Pu l.length 49))) (S:=S) (K3 (by omega)) (K3 (by rw[K8];omega));rw[K2 hr]at m;simp only[bE,ua,fY];simp[-abk,e,h.lets,ab3,rZ (a:=l) (by omega),Yy (a:=[49]) (j:=(l.length:Int)) (by refine⟨by omega,by omega,?_⟩;simp;omega),m]
structure TabOk (w:Nat) (G:List (List Int)) (F:List Bool):Prop where
 len:F.length=G.length
 most:G.length<=200
 row:∀r∈G,r.length=w/\∀g∈r,-1<=g/\g<(G.length:Int)
 w8:w<=8
def uJ(r:List Int):D:=.lst (r.map .int)
def cB(r:List Int):D:=.tup (r.map .int)
def dQ(G:List (List Int)):D:=.lst (G.map uJ)
def cR(F:List Bool):D:=.lst (F.map .bl)
def eP(F:List Bool):List Nat:=(List.range F.length).filter λi=>F[i]?.getD false
def c9(F:List Bool):D:=.lst ((eP F).map λi=>.int ((i:Nat):Int))
def di(al:D)(G:List (List Int))(F:List Bool):D:=.obj 1 [("own_alphabet",al),("own_goals",.lst (G.map cB)),("own_ends",cR F)]
section
variable {w:Nat}{G:List (List Int)}{F:List Bool}{S:ag}{l c:List Nat}{al:D}
theorem Bx{xs:List D}:eG [.v (.lst xs)] S=.ok (.v (.bl true)) S:=by simp[eG,EZ]
theorem VH{α:Type}{xs:List α}{f:α->Bool}(h:∀x∈xs,f x=true):xH [.v (.lst (xs.map λz=>D.bl (f z)))] S=some (.v (.bl true)):=by rw[YA,ET];simp only[Option.map_some];congr 3;rw[List.all_map,List.all_eq_true];exact h
theorem Pw(h:TabOk w G F):(G.flatMap λr=>r).length<=10000:=by
 have key:∀(L:List (List Int)) (k:Nat),(∀r∈L,r.length<=k)->(L.flatMap λr=>r).length<=L.length*k:=by
  intro L k;induction L with
  |nil=>simp|cons r L ih =>intro hh;have h1:=hh r (by simp);have h2:=ih λr hr=>hh r (by simp[hr]);simp only[List.flatMap_cons,List.length_append,List.length_cons,Nat.add_mul];omega
 have:=key G w λr hr=>by rw[(h.row r hr).1];exact Nat.le_refl _
 have h1:=h.most;have h2:=h.w8;have h3:G.length*w<=200*8:=Nat.mul_le_mul h1 h2;omega
theorem Sl{m:Int}(h:TabOk w G F)(hm:m=G.length):kq [.v (dQ G),.v (.int m),.v (.int (w:Int))] S=.ok (.v (.bl true)) S:=by
 have h200:=h.most;have e1:fX [3] (cJ (eV 0)) (.nm 3) aL (og (aS eG (aa (eV 3) ah)) (aA eU (au cj (aa (eV 3) ah)) (eV 2))) [some (.v (dQ G)),some (.v (.int m)),some (.v (.int (w:Int))),none,none] S=.ok (.v (.lst (G.map λ_=>.bl true))) S:=
  bP G uJ (λ_=>.bl true) rfl (by omega) λr hr Z=>⟨_,jm,rfl,by have:=(h.row r hr).1;simp[aT,uJ,Bx,this]⟩
 have e2:LN [3,4] [4] (cJ (eV 0)) (.nm 3) aL (cJ (eV 3)) (.nm 4) aL (aS gC (aa (eV 4) (aa (xt jl (eC (.int 1))) (aa (aA gSub (eV 1) (eC (.int 1))) ah)))) [some (.v (dQ G)),some (.v (.int m)),some (.v (.int (w:Int))),none,none] S=.ok (.v (.lst (G.flatMap λr=>r.map λ_=>.bl true))) S:=
  Sj G uJ (λr=>r) D.int (λ_ _=>.bl true) rfl (by have:=Pw h;omega) λr hr Z=>⟨_,jm,rfl,rfl,λg hg Z=>⟨_,jm,rfl,by have:=(h.row r hr).2 g hg;have a:(-1:Int)<=g:=this.1;have b:g<=m-1:=(by omega);simp[aT,K4,a,b]⟩⟩
 have e3:∀Z,xH [.v (.lst (G.flatMap λr=>r.map λ_=>D.bl true))] Z=some (.v (.bl true)):=λZ=>by
  have:(G.flatMap λr=>r.map λ_=>D.bl true)=(G.flatMap λr=>r).map λ_=>D.bl true:=by rw[List.map_flatMap]
  rw[this];exact VH (f:=λ_=>true) λ_ _=>rfl
 have e4:∀Z,xH [.v (.lst (G.map λ_=>D.bl true))] Z=some (.v (.bl true)):=λZ=>VH (f:=λ_=>true) λ_ _=>rfl;have e5:∀Z,eG [.v (dQ G)] Z=.ok (.v (.bl true)) Z:=λZ=>Bx;unfold kq;rw[fY,if_pos (by rfl)];unfold A6;show(aG _ _ [some (.v (dQ G)),some (.v (.int m)),some (.v (.int (w:Int))),none,none] S).Lj=_;simp only[xP,GO,BU,wj,F2,tW,vd,bM,eW,gY,R.ak,e5,e1,e2,e3,e4,fQ,rY,Bool.not_true,SR.Jt,wk,SR.of_ok,Iq,EO,Ir,Bool.false_eq_true,if_false]
theorem Sm:(eP F).Pairwise (·<·):=by unfold eP;exact List.Pairwise.filter _ List.pairwise_lt_range
theorem Cq{i:Nat}:i∈eP F↔F[i]?=some true:=by unfold eP;rw[List.mem_filter,List.mem_range];constructor;rintro⟨h,e⟩;rw[List.getElem?_eq_getElem h]at e ⊢;simpa using e;·intro h;have:=(List.getElem?_eq_some_iff.mp h).1;exact⟨this,by rw[h];rfl⟩
theorem Hc:(eP F).length<=F.length:=by unfold eP;exact Nat.le_trans (List.length_filter_le _ _) (by simp)
theorem VI{m:Int}(h:TabOk w G F)(hm:m=G.length):l7 [.v (c9 F),.v (.int m)] S=.ok (.v (.bl true)) S:=by
 have h200:=h.most;have hl:=h.len;have el:=Hc (F:=F);have e1:fX [2] (cJ (eV 0)) (.nm 2) aL (aS gC (aa (eV 2) (aa (eC (.int 0)) (aa (aA gSub (eV 1) (eC (.int 1))) ah)))) [some (.v (c9 F)),some (.v (.int m)),none,none,none] S=.ok (.v (.lst ((eP F).map λ_=>.bl true))) S:=
  bP (eP F) (λi=>.int ((i:Nat):Int)) (λ_=>.bl true) rfl (by omega) λi hi Z=>⟨_,jm,rfl,by have:=(List.getElem?_eq_some_iff.mp (Cq.mp hi)).1;have b:((i:Nat):Int)<=m-1:=(by omega);simp[aT,K4,b]⟩
 have e2:fX [3,4] (tQ (aa (eV 0) (aa (Wf (eV 0) (CK (eC (.int 1))) CJ) ah))) (.tp ((.nm 3)::((.nm 4)::[]))) aL (aA CF (eV 3) (eV 4)) [some (.v (c9 F)),some (.v (.int m)),none,none,none] S=.ok (.v (.lst (((eP F).zip ((eP F).drop 1)).map λp=>.bl (decide (p.1<p.2))))) S:=by
  refine bP ((eP F).zip ((eP F).drop 1)) (λp=>.tup [.int ((p.1:Nat):Int),.int ((p.2:Nat):Int)]) (λp=>.bl (decide (p.1<p.2))) ?_ (by rw[List.length_zip];omega) λp _ Z=>⟨_,by simp[aT];rfl,rfl,by simp⟩;have z:cutD ((eP F).map λi=>D.int ((i:Nat):Int)) (some 1) none=((eP F).drop 1).map λi=>D.int ((i:Nat):Int):=by rw[Rm,YV,List.map_drop]
  have zz:AF ((eP F).map λi=>D.int ((i:Nat):Int)) (((eP F).drop 1).map λi=>D.int ((i:Nat):Int))=((eP F).zip ((eP F).drop 1)).map λp=>.tup [.int ((p.1:Nat):Int),.int ((p.2:Nat):Int)]:=by unfold AF;rw[List.zip_map,List.map_map];rfl
  unfold tQ c9;simp only[bM,eW,gY,R.ak,aby,UU,UT,zj,abz,z,fQ,En,zz]
 have e3:∀Z,xH [.v (.lst ((eP F).map λ_=>D.bl true))] Z=some (.v (.bl true)):=λZ=>VH (f:=λ_=>true) λ_ _=>rfl;have e4:∀Z,xH [.v (.lst (((eP F).zip ((eP F).drop 1)).map λp=>D.bl (decide (p.1<p.2))))] Z=some (.v (.bl true)):=λZ=>by refine VH λp hp=>?_;have:=Ft (l:=eP F) Sm;unfold Fq at this;exact List.all_eq_true.mp this p hp
 have e5:∀Z,eG [.v (c9 F)] Z=.ok (.v (.bl true)) Z:=λZ=>Bx;unfold l7;rw[fY,if_pos (by rfl)];unfold CT;show(aG _ _ [some (.v (c9 F)),some (.v (.int m)),none,none,none] S).Lj=_;simp only[xP,GO,BU,wj,F2,tW,vd,bM,eW,gY,R.ak,e5,e1,e2,e3,e4,fQ,rY,Bool.not_true,SR.Jt,wk,SR.of_ok,Iq,EO,Ir,Bool.false_eq_true,if_false]
theorem Sn{i:Nat}(h:i<F.length):Tn (.int (i:Int)) ((eP F).map λi=>D.int ((i:Nat):Int))=F[i]?.getD false:=by
 unfold Tn;rw[List.any_map];cases q:F[i]?.getD false with
 |true =>rw[List.any_eq_true];refine⟨i,Cq.mpr ?_,by simp[eqF]⟩;rw[List.getElem?_eq_getElem h]at q ⊢;simpa using q|false=>
  rw[List.any_eq_false];intro j hj;have:=Cq.mp hj;simp only[Function.comp,eqF];intro e;have e3:((j:Nat):Int)=i:=by simpa using e
  have e2:j=i:=by omega
  subst e2;rw[this]at q;cases q
theorem So(h:l.length<=1000000):eI [.v (ay l c)] S=.ok (.v (.int l.length)) S:=by simp[eI,w7,ay,lU (k:=0) (List.mem_singleton.mpr rfl) Ap,rZ h]
def Jo:EM:=fX [6] (bG (aa (eV 4) ah)) (.nm 6) aL (aA Ly (eV 6) (eV 3))
def Jp:EM:=fX [5] (cJ (eV 2)) (.nm 5) aL (au rS (aa (eV 5) ah))
theorem VJ{m:Int}{a0 a1 a2 a5 a6:Option A}(h:TabOk w G F)(hm:m=G.length):Jo [a0,a1,a2,some (.v (c9 F)),some (.v (.int m)),a5,a6] S=.ok (.v (cR F)) S:=by
 have h200:=h.most;have hl:=h.len;have el:=Hc (F:=F);have e:F.map D.bl=(List.range m.toNat).map λi=>D.bl (F[i]?.getD false):=by apply List.ext_getElem (by simp;omega);intro i h1 h2;simp only[List.length_map]at h1;simp[List.getElem?_eq_getElem h1]
 unfold cR;rw[e];refine bP (List.range m.toNat) (λi=>.int (0+(i:Int))) (λi=>.bl (F[i]?.getD false)) ?_ (by simp;omega) λi hi Z=>⟨_,jm,rfl,?_⟩;·rw[tX];simp only[bM,eW,f7,gY,R.ak];rw[xS (by omega)];rfl
 ·have hi2:i<F.length:=by rw[List.mem_range]at hi;omega
  have q:=Sn hi2;have fl:((eP F).map λi=>D.int ((i:Nat):Int)).all mL=true:=by rw[List.all_map];simp[mL]
  have g:Ly (.v (.int (0+(i:Int)))) (.v (c9 F)) Z=some (.v (.bl (F[i]?.getD false))):=by rw[Int.zero_add,<-q];unfold Ly inG c9;simp only[pH,mL,fl,and_self,if_true,Bool.false_eq_true,if_false,WH]
  simp only[aT,List.set_cons_succ,List.set_cons_zero,kM,f7,gY,R.ak,g,fQ]
theorem VL{a0 a1 a3 a4 a5 a6:Option A}(h:TabOk w G F):Jp [a0,a1,some (.v (dQ G)),a3,a4,a5,a6] S=.ok (.v (.lst (G.map cB))) S:=by have h200:=h.most;exact bP G uJ cB rfl (by omega) λr _ Z=>⟨_,jm,rfl,by simp[aT,uJ,cB]⟩
theorem Px:tY=aG (bB 4 (xG (tE (aS eG (aa (eV 2) ah))) (cF (b7 cW) (aa (eV 2) ah)) (eC (.int 0)))) (aG (uP (uA (tE (aA JN (eV 4) (eC (.int 200)))) (uA (hV (tE (aS kq (aa (eV 2) (aa (eV 4) (aa (cF (b7 cW) (aa (eV 1) ah)) ah)))))) (hV (tE (aS l7 (aa (eV 3) (aa (eV 4) ah))))))) (qz 18 0 [("code",.inr "InvalidAutomaton")] ah) iR) (aG (rR [1] "own_alphabet" (eV 0) (eV 1)) (aG (rR [1] "own_goals" (eV 0) Jp) (rR [1] "own_ends" (eV 0) Jo)))):=rfl
theorem By(al:nc l c)(h:TabOk l.length G F):Nd 1 S.length (aV [.m S.length,.v (ay l c),.v (dQ G),.v (c9 F)] (S++[.ins 1 []]))=.ok (.v (di (ay l c) G F)) S:=by
 have h200:=h.most;have l8:=al.l8;obtain⟨m,hm⟩:∃m:Int,m=G.length:=⟨_,rfl⟩;have gl:∀Z,b7 cW [.v (dQ G)] Z=.ok (.v (.int m)) Z:=λZ=>by unfold dQ;rw[U6,wq,List.length_map,<-hm];rfl
 have la:∀Z,b7 cW [.v (ay l c)] Z=.ok (.v (.int (l.length:Int))) Z:=λZ=>by unfold ay;rw[U5 (fM:=eI) rfl];have:=So (l:=l) (c:=c) (S:=Z) (by omega);unfold ay at this;rw[this,YX (by omega)]
 have gd:∀{i:Int},m=i->True:=λ_=>trivial;have m2:¬(200:Int)<m:=by omega
 have q:aV [.m S.length,.v (ay l c),.v (dQ G),.v (c9 F)] (S++[.ins 1 []])=.ok (.v .non) (S++[.ins 1 [("own_alphabet",ay l c),("own_goals",.lst (G.map cB)),("own_ends",cR F)]]):=by
  unfold aV;rw[fY,if_pos (by rfl),Px];show(aG _ _ [some (.m S.length),some (.v (ay l c)),some (.v (dQ G)),some (.v (c9 F)),none,none,none] _).Lj=_;have e5:∀Z,Jp [some (.m S.length),some (.v (ay l c)),some (.v (dQ G)),some (.v (c9 F)),some (.v (.int m)),none,none] Z=.ok (.v (.lst (G.map cB))) Z:=λZ=>VL h;have e6:∀Z,Jo [some (.m S.length),some (.v (ay l c)),some (.v (dQ G)),some (.v (c9 F)),some (.v (.int m)),none,none] Z=.ok (.v (cR F)) Z:=λZ=>VJ h hm;have i1:∀Z,eG [.v (dQ G)] Z=.ok (.v (.bl true)) Z:=λZ=>Bx;have i2:∀Z,kq [.v (dQ G),.v (.int m),.v (.int (l.length:Int))] Z=.ok (.v (.bl true)) Z:=λZ=>Sl h hm;have i3:∀Z,l7 [.v (c9 F),.v (.int m)] Z=.ok (.v (.bl true)) Z:=λZ=>VI h hm;have lk:∀fs,(S++[MO.ins 1 fs])[S.length]?=some (.ins 1 fs):=λfs=>by rw[List.getElem?_append_right (Nat.le_refl _)];simp
  have st:∀fs gs,(S++[MO.ins 1 fs]).set S.length (.ins 1 gs)=S++[.ins 1 gs]:=λfs gs=>by rw[List.set_append_right _ _ (Nat.le_refl _)];simp
  have n1:¬(("own_alphabet" : Str) = "own_goals"):=by decide +kernel
  have n2:¬(("own_alphabet" : Str) = "own_ends"):=by decide +kernel
  have n3:¬(("own_goals" : Str) = "own_ends"):=by decide +kernel
  generalize Jp=M5 at e5 ⊢;generalize Jo=M6 at e6 ⊢;simp only[xP,ER,EN,F2,tW,Kl,bM,eW,gY,f7,R.ak,i1,fQ,rY,if_true,gl,SR.of_ok,EO,List.set_cons_succ,List.set_cons_zero,GO,BU,wj,kM,zj,NJ,decide_eq_false m2,Bool.false_eq_true,if_false,la,i2,i3,Bool.not_true,SR.Jt,Iq,DI,DH,lk,Iu,putD,st,e5,e6];rw[if_pos (by simp)];simp only[xP,DI,EO,SR.of_ok,e5,gY,DH,lk,Iu,putD,n1,if_false,st];rw[if_pos (by simp)];simp only[DI,EO,SR.of_ok,e6,gY,DH,lk,Iu,putD,n2,n3,if_false,st];rw[if_pos (by simp)];rfl
 rw[q,L9 rfl];rfl
theorem WW:Kr [1] "own_alphabet" S (c0 (.v (di al G F)) S)=.ok (.v al) S:=lU (k:=1) (List.mem_singleton.mpr rfl) rfl
theorem WY:Kr [1] "own_goals" S (c0 (.v (di al G F)) S)=.ok (.v (.lst (G.map cB))) S:=lU (k:=1) (List.mem_singleton.mpr rfl) (by rw[List.lookup_cons,show(("own_goals" : Str) == "own_alphabet")=false by decide +kernel];rfl)
theorem ab4:Kr [1] "own_ends" S (c0 (.v (di al G F)) S)=.ok (.v (cR F)) S:=lU (k:=1) (List.mem_singleton.mpr rfl) (by rw[List.lookup_cons,show(("own_ends" : Str) == "own_alphabet")=false by decide +kernel];simp only;rw[List.lookup_cons,show(("own_ends" : Str) == "own_goals")=false by decide +kernel];rfl)
theorem Zs{m:Str}{u:R A}(h1:(m == ("own_alphabet" : Str))=false)(h2:(m == ("own_goals" : Str))=false)(h3:(m == ("own_ends" : Str))=false):EX 1 m S (c0 (.v (di al G F)) S) u=u:=Ma (by rw[List.lookup_cons,h1];simp only;rw[List.lookup_cons,h2];simp only;rw[List.lookup_cons,h3];rfl)
end
section
variable {l c:List Nat}{n:Nat}{g:List (List Int)}{e:List Bool}{S:ag}
theorem k7.tab(W:k7 l.length n g e)(hn:n<=200)(h8:l.length<=8):TabOk l.length g e:=
 ⟨by rw[W.le,W.lg],by rw[W.lg];exact hn,λr hr=>⟨W.lr r hr,λx hx=>⟨W.lo r hr x hx,by rw[W.lg];exact W.hi r hr x hx⟩⟩,h8⟩
theorem Fv:∀(e:List Bool) (k:Nat),jx k (aN e)=((List.range e.length).map λi=>(k+i,e[i]?.getD false)).map λp=>D.tup [.int ((p.1:Nat):Int),.bl p.2]
 |[],k=>rfl|b::e,k=>by
  have ih:=Fv e (k+1);rw[show aN (b::e)=D.bl b::aN e from rfl];show D.tup [.int ((k:Nat):Int),.bl b]::jx (k+1) (aN e)=_;rw[ih,List.length_cons,List.range_succ_eq_map,List.map_cons,List.map_cons,List.map_map,List.map_map,List.map_map];refine congr (congrArg List.cons ?_) (List.map_congr_left λi _=>?_);·simp
  ·simp only[Function.comp,List.getElem?_cons_succ];rw[show k+1+i=k+(i+1) by omega]
theorem VM(he:e.length<=1000){al:D}:fX [2,3] (ib (aA b6 (eV 1) (eC (.int 1)))) (.tp ((.nm 2)::((.nm 3)::[]))) (tE (eV 3)) (eV 2) [some (.v al),some (.v (bX g e)),none,none] S=.ok (.v (c9 e)) S:=by
 have hi:ib (aA b6 (eV 1) (eC (.int 1))) [some (.v al),some (.v (bX g e)),none,none] S=.ok (((List.range e.length).map λi=>(i,e[i]?.getD false)).map λp=>D.tup [.int ((p.1:Nat):Int),.bl p.2]) S:=by unfold ib;rw[aD (w:=.v (.lst (aN e))) (S1:=S) (S2:=S) rfl rfl rfl,R.ak];show R.ok (jx 0 (aN e)) S=_;have:=Fv e 0;simp only[Nat.zero_add]at this;rw[<-this]
 have h:=A2 (own:=[2,3]) (g:=.tp ((.nm 2)::((.nm 3)::[]))) (t:=tE (eV 3)) (m:=eV 2) (ρ:=[some (.v al),some (.v (bX g e)),none,none]) (S:=S) (S1:=S) (mi:=ib (aA b6 (eV 1) (eC (.int 1))))
  ((List.range e.length).map λi=>(i,e[i]?.getD false)) (λp=>D.tup [.int ((p.1:Nat):Int),.bl p.2]) (λp=>p.2) (λp=>D.int ((p.1:Nat):Int)) hi (by simp;omega) λp _ Z=>⟨[some (.v al),some (.v (bX g e)),some (.v (.int ((p.1:Nat):Int))),some (.v (.bl p.2))],rfl,gh rfl,λ_=>rfl⟩
 rw[h];unfold c9 eP;rw[List.filter_map,List.map_map];rfl
theorem VN(al:nc l c)(W:k7 l.length n g e)(hn:n<=200):mU [.v (ay l c),.v (bX g e)] S=.ok (.v (di (ay l c) g e)) S:=by
 have h8:=al.l8;have T:=W.tab hn h8;refine yp rfl (kD ?_);have ha:aa (eV 0) (aa (aA b6 (eV 1) (eC (.int 0))) (aa (fX [2,3] (ib (aA b6 (eV 1) (eC (.int 1)))) (.tp ((.nm 2)::((.nm 3)::[]))) (tE (eV 3)) (eV 2)) ah)) [some (.v (ay l c)),some (.v (bX g e)),none,none] S=.ok [.v (ay l c),.v (aK g),.v (c9 e)] S:=
  ao rfl (ao (aD rfl rfl rfl) (ao (VM (by rw[W.le];omega)) rfl))
 show l4 1 aV _ [some (.v (ay l c)),some (.v (bX g e)),none,none] S=_;unfold l4;rw[ha,R.ak];exact By al T
end
def sf(G:List (List Int))(l:List Nat)(p:Int)(x:Nat):Int:=if 0<=p then((G[p.toNat]?.getD [])[l.idxOf x]?.getD (-1)) else -1
def nJ(G:List (List Int))(l:List Nat)(p:Int)(w:List Nat):Int:=w.foldl (sf G l) p
def iZ(G:List (List Int)):Int:=if G.length=0 then -1 else 0
def vo(G:List (List Int))(F:List Bool)(l w:List Nat):Bool:=decide (0<=nJ G l (iZ G) w)&&(F[(nJ G l (iZ G) w).toNat]?.getD false)
section
variable {G:List (List Int)}{F:List Bool}{l:List Nat}{S:ag}{c:List Nat}
theorem VO(h:TabOk l.length G F){p:Int}{x:Nat}(hp:p<G.length)(hx:x∈l):-1<=sf G l p x/\sf G l p x<G.length:=by
 unfold sf;by_cases h0:0<=p
 ·rw[if_pos h0];have hl:p.toNat<G.length:=by omega
  rw[List.getElem?_eq_getElem hl];simp only[Option.getD_some];obtain⟨r1,r2⟩:=h.row _ (List.getElem_mem hl);have hx2:l.idxOf x<(G[p.toNat]'hl).length:=by rw[r1];exact List.idxOf_lt_length_of_mem hx
  rw[List.getElem?_eq_getElem hx2];exact r2 _ (List.getElem_mem hx2)
 ·rw[if_neg h0];omega
theorem K9{p:Int}{x:Nat}(hp:p<0):sf G l p x=-1:=by unfold sf;rw[if_neg (by omega)]
theorem VP{w:List Nat}:∀{p:Int},p=-1->nJ G l p w=-1:=by
 unfold nJ;induction w with
 |nil=>intro p h;exact h
 |cons x w ih=>intro p h;rw[List.foldl_cons];exact ih (K9 (by omega))
theorem Jq(h:TabOk l.length G F){w:List Nat}:∀{p:Int},-1<=p->p<G.length->(∀x∈w,x∈l)->-1<=nJ G l p w/\nJ G l p w<G.length:=by
 unfold nJ;induction w with
 |nil=>intro p h1 h2 _;exact⟨h1,h2⟩
 |cons x w ih =>intro p h1 h2 hw;rw[List.foldl_cons];have:=VO h h2 (hw x (by simp));exact ih this.1 this.2 λy hy=>hw y (by simp[hy])
theorem La:-1<=iZ G/\iZ G<G.length:=by unfold iZ;by_cases h:G.length=0;rw[if_pos h];omega;·rw[if_neg h];omega
theorem Oz{mk:List Int->D}{sq:List D->D}(hmk:∀r,mk r=sq (r.map .int))(hsq:∀ds i Z,b6 (.v (sq ds)) (.v (.int i)) Z=(atI ds i).map A.v)(h:TabOk l.length G F){p:Int}{x:Nat}(h0:0<=p)(hp:p<G.length)(hx:x∈l)(Z:ag) :∃r:List Int,b6 (.v (.lst (G.map mk))) (.v (.int p)) Z=some (.v (mk r))/\∀Z,b6 (.v (mk r)) (.v (.int ((l.idxOf x:Nat):Int))) Z=some (.v (.int (sf G l p x))):=by
 have hl:p.toNat<G.length:=by omega
 refine⟨G[p.toNat],?_,λZ=>?_⟩;·rw[fG];have:=atI_nat (zs:=G.map mk) (n:=p.toNat) (z:=mk G[p.toNat]) (by rw[List.getElem?_map,List.getElem?_eq_getElem hl];rfl);rw[show((p.toNat:Nat):Int)=p by omega]at this;rw[this];rfl
 ·obtain⟨r1,_⟩:=h.row _ (List.getElem_mem hl);have hx2:l.idxOf x<(G[p.toNat]'hl).length:=by rw[r1];exact List.idxOf_lt_length_of_mem hx
  rw[hmk,hsq,atI_nat (z:=.int ((G[p.toNat]'hl)[l.idxOf x]'hx2)) (by rw[List.getElem?_map,List.getElem?_eq_getElem hx2];rfl)];unfold sf;rw[if_pos h0,List.getElem?_eq_getElem hl];simp only[Option.getD_some];rw[List.getElem?_eq_getElem hx2];rfl
theorem OA{p:Int}(hF:F.length=G.length)(h0:0<=p)(hp:p<G.length)(Z:ag):b6 (.v (cR F)) (.v (.int p)) Z=some (.v (.bl (F[p.toNat]?.getD false))):=by
 have hl:p.toNat<F.length:=by omega
 unfold cR;rw[fG];have:=atI_nat (zs:=F.map D.bl) (n:=p.toNat) (z:=.bl F[p.toNat]) (by rw[List.getElem?_map,List.getElem?_eq_getElem hl];rfl);rw[show((p.toNat:Nat):Int)=p by omega]at this;rw[this,List.getElem?_eq_getElem hl];rfl
theorem WZ{x:Nat}{ρ:Env}{Z:ag}{mo mx:EM}(hx:x∈l)(h1:mo ρ Z=.ok (.v (.str (sL l))) Z)(h2:mx ρ Z=.ok (.v (.str (sL [x]))) Z):mR "str" rg mo (aa mx ah) ρ Z=.ok (.v (.int ((l.idxOf x:Nat):Int))) Z:=by rw[Mb,h1,R.ak,abA,if_pos rfl,bM,h2,R.ak,eW,R.ak,R.ak,Pe hx,Rr]
theorem Mr(h:TabOk l.length G F){w:List Nat}{p:Int}(h1:-1<=p)(h2:p<G.length)(hw:∀x∈w,x∈l):du [.v (di (ay l c) G F),.v (.int p),.v (.str (sL w))] S=.ok (.v (.int (nJ G l p w))) S:=by
 have key:(gb [some (.v (di (ay l c) G F)),some (.v (.int p)),some (.v (.str (sL w))),none] S).sat Ad (λa S'=>a=.v (.int (nJ G l p w))/\S'=S) Ad Ad Ri:=by
  unfold gb;refine c5 (wt (ds:=w.map λx=>D.str (sL [x])) (S1:=S) (I:=λdon ρ S'=>S'=S/\∃u v o,w=u++v/\don=u.map (λx=>D.str (sL [x]))/\ρ=[some (.v (di (ay l c) G F)),some (.v (.int (nJ G l p u))),some (.v (.str (sL w))),o]) (by simp) ⟨rfl,[],w,none,rfl,rfl,rfl⟩ ?_ ?_)
  ·rintro don d rest ρ S' e ⟨rfl,u,v,o,rfl,rfl,rfl⟩;rw[List.map_append]at e;have e2:=List.append_cancel_left e;cases v with
   |nil=>cases e2|cons x v=>
    simp only[List.map_cons,List.cons.injEq]at e2;obtain⟨rfl,_⟩:=e2;have hx:x∈l:=hw x (by simp);obtain⟨q1,q2⟩:=Jq h h1 h2 (w:=u) λy hy=>hw y (by simp[hy]);refine⟨_,jm,?_⟩;simp only[List.set_cons_succ,List.set_cons_zero];refine c5 (EV (b:=decide (nJ G l p u<0)) (S1:=S') (by simp) ?_);by_cases hn:nJ G l p u<0
    ·rw[if_pos (by simpa using hn)];refine rh (x:=.v (.int (-1))) (S1:=S') (by simp) ⟨?_,rfl⟩;have:nJ G l p (u++x::v)=-1:=by unfold nJ at hn q1 ⊢;rw[List.foldl_append];exact VP (by omega)
     rw[this]
    ·rw[if_neg (by simpa using hn)];obtain⟨r,g1,g2⟩:=Oz (mk:=cB) (sq:=.tup) (λ_=>rfl) (λ_ _ _=>Ko) h (by omega) q2 hx S';refine Vx (iT (x:=.v (.int (sf G l (nJ G l p u) x))) (S1:=S') ?_ ⟨rfl,u++[x],v,some (.v (.str (sL [x]))),by simp,by simp,by simp[nJ]⟩);have ix:∀ρ:Env,eV 0 ρ S'=.ok (.v (di (ay l c) G F)) S'->eV 3 ρ S'=.ok (.v (.str (sL [x]))) S'->mR "str" rg (CL 0 eO (fZ [1] "own_alphabet" (eV 0))) (aa (eV 3) ah) ρ S'=.ok (.v (.int ((l.idxOf x:Nat):Int))) S':=λρ i1 i2=>by refine WZ hx ?_ i2;rw[NM,BW,i1,R.ak,WW,R.ak];unfold ay;rw[NL,Ro];have:=Mp (l:=l) (c:=c) (S:=S');unfold ay at this;rw[this,YW]
     rw[kM,kM,BW,gY,R.ak,WY,R.ak,f7,gY,R.ak,g1,fQ,R.ak,ix _ rfl rfl,R.ak,g2,fQ]
  ·rintro ρ S' ⟨rfl,u,v,o,rfl,e,rfl⟩;have hv:v=[]:=by have:=congrArg List.length e;simp at this;exact this
   subst hv;rw[List.append_nil];exact rh (x:=.v (.int (nJ G l p u))) (S1:=S') (by simp) ⟨rfl,rfl⟩
 obtain⟨x,S',e,rfl,rfl⟩:=BV key;unfold du;rw[fY,if_pos (by rfl)];exact e
theorem Ms(al:nc l c)(h:TabOk l.length G F){w:List Nat}(hw:∀x∈w,x∈l)(hl:w.length<=1000):dP [.v (di (ay l c) G F),.v (.str (sL w))] S=.ok (.v (.bl (vo G F l w))) S:=by
 have b:=La (G:=G);have e1:=Mr (c:=c) (S:=S) h b.1 b.2 hw;obtain⟨r1,r2⟩:=Jq h b.1 b.2 hw;have hb:Bv l (.str (sL w))=true:=by simpa[Bv]using hw
 have iw:=Pp (l:=l) (c:=c) (d:=.str (sL w)) (S:=S) (K3 (by omega));rw[hb]at iw;have bg:(xG (tE (aA JN (au cj (aa (fZ [1] "own_goals" (eV 0)) ah)) (eC (.int 0)))) (eC (.int 0)) (xt jl (eC (.int 1)))) [some (.v (di (ay l c) G F)),some (.v (.str (sL w))),none] S=.ok (.v (.int (iZ G))) S:=by rw[EN,F2,kM,vd,bM,BW,gY,R.ak,WY,R.ak,eW,R.ak,R.ak,wq,fQ,R.ak,zj,R.ak,List.length_map,NJ,fQ,R.ak,rY,fQ,R.ak];unfold iZ;by_cases h0:G.length=0;rw[if_pos h0,if_neg (by rw[h0];decide)];rfl;·rw[if_neg h0,if_pos (decide_eq_true (by omega))];rfl
 have lm:EX 1 "place_behind" S (c0 (.v (di (ay l c) G F)) S)=λu=>u:=funext λu=>Zs (by decide +kernel) (by decide +kernel) (by decide +kernel);unfold dP;rw[fY,if_pos (by rfl)];unfold pN;show(aG _ _ [some (.v (di (ay l c) G F)),some (.v (.str (sL w))),none] S).Lj=_;have t1:hV (tE (fb 0 "is_word" bw (fZ [1] "own_alphabet" (eV 0)) (aa (eV 1) ah))) [some (.v (di (ay l c) G F)),some (.v (.str (sL w))),none] S=.ok false S:=by rw[wj,F2,IF,BW,gY,R.ak,WW,R.ak,Mo,bM,f7,gY,R.ak,eW,R.ak,R.ak,iw,R.ak,rY,fQ];rfl
 rw[Uu t1,xP,ER,IF,gY,R.ak,lm,bM,bg,R.ak,bM,f7,gY,R.ak,eW,R.ak,R.ak,R.ak,e1,SR.of_ok,EO];simp only[List.set_cons_succ,List.set_cons_zero];rw[wk,uD,kM,f7,f7,gY,R.ak,zj,R.ak,mS,fQ,R.ak,rY];unfold vo;by_cases h0:0<=nJ G l (iZ G) w;rw[decide_eq_true h0,Q8,kM,BW,gY,R.ak,ab4,R.ak,f7,f7,gY,R.ak,OA h.len h0 r2,fQ];rfl;·rw[decide_eq_false h0,Q9];rfl
end
structure ab5 (l c:List Nat):Prop where
 al:nc l c
 l3:l.length<=3
 no:∀x∈([100,49,32,65]:List Nat),x∉l
 st:l≠[115,116]
def Cr:List (List Nat):=[[97,98],[97,98],[97,98,99],[120,121,122],[98],[107,113],[97,101,122]]
theorem Sq{l:List Nat}(h:l∈Cr){c:List Nat}(hc:c.length=l.length)(hd:∀x∈c,x∈[49,50,51]):ab5 l c:=by simp only[Cr,List.mem_cons,List.not_mem_nil,or_false]at h;rcases h with rfl|rfl|rfl|rfl|rfl|rfl|rfl<;>exact⟨⟨by decide,by decide,by decide,by decide,hc,hd⟩,by decide,by decide,by decide⟩
theorem W3:("ab" : Str)=sL [97,98]:=by decide +kernel
theorem Zt:("abc" : Str)=sL [97,98,99]:=by decide +kernel
theorem Sr:("xyz" : Str)=sL [120,121,122]:=by decide +kernel
theorem ab6:("b" : Str)=sL [98]:=by decide +kernel
theorem ab7:("kq" : Str)=sL [107,113]:=by decide +kernel
theorem Zu:("aez" : Str)=sL [97,101,122]:=by decide +kernel
section
variable {h:Hand}{S:ag}{n:Nat}
theorem Ss{own:Nat}{mn:EM}{r:Int}{xs:List Nat}{ms:EM}{ρ:Env}(ho:h.ok)(hs:S[n]?=some h.mo)(hx:xs≠[])(hl:xs.length<=1000)(r0:0<=r)(r1:r<=1000)(hi:∃h1,Hand.ok h1/\bG (aa mn ah) ρ S=.ok (gR 0 r.toNat) (S.set n (Hand.mo h1)))
  (h0:∀Z v,eV 0 ((aT ρ [own]).set own v) Z=.ok (.m n) Z) (hm:∀Z v,ms ((aT ρ [own]).set own v) Z=.ok (.v (.str (sL xs))) Z) :
  ∃(cs:List Nat) (h2:Hand),fX [own] (bG (aa mn ah)) (.nm own) aL (aS dW (aa (eV 0) (aa ms ah))) ρ S=.ok (.v (.lst (cs.map λc=>D.str (sL [c])))) (S.set n (Hand.mo h2))/\h2.ok/\(cs.length:Int)=r/\∀x∈cs,x∈xs:=by
 have hn:n<S.length:=(List.getElem?_eq_some_iff.mp hs).1;have gs:∀(b:MO),(S.set n b)[n]?=some b:=λb=>by simp[hn]
 obtain⟨h1,o1,hi⟩:=hi;obtain⟨ys,S2,e,⟨h2,o2,rfl⟩,_,e2,e3⟩:=Iy (own:=[own]) (g:=.nm own) (t:=aL) (m:=aS dW (aa (eV 0) (aa ms ah))) (mi:=bG (aa mn ah)) (ρ:=ρ) (S:=S) (S1:=S.set n (Hand.mo h1))
  (List.range r.toNat) (λi=>.int (0+(i:Int))) (λ_ y=>∃c,c∈xs/\y=.str (sL [c])) (λZ=>∃h3,Hand.ok h3/\Z=S.set n (Hand.mo h3)) hi ⟨h1,o1,rfl⟩ (by simp;omega) (by rintro i _ Z ys ⟨h3,o3,rfl⟩ _;obtain⟨d,h4,e,hd,o4⟩:=Y2 (S:=S.set n h3.mo++[.lst ys]) (n:=n) (xs:=xs) o3 (DU (gs _)) hx (by omega);refine⟨_,.str (sL [d]),S.set n h4.mo,jm,rfl,?_,by simp,⟨h4,o4,rfl⟩,d,hd,rfl⟩;rw[tW,bM,h0,R.ak,bM,hm,R.ak,eW,R.ak,R.ak,R.ak,e,DT (by simpa using hn),set_set])
 obtain⟨cs,rfl,hcs⟩:=Vw (ys:=ys) (C:=λc=>c∈xs) λy hy=>by obtain⟨i,hi,rfl⟩:=List.getElem_of_mem hy;exact e3 ((List.range r.toNat)[i]'(by rw[e2]at hi;exact hi),ys[i]) (by rw[List.mem_iff_getElem];exact⟨i,by rw[List.length_zip,e2];rw[e2]at hi;omega,by simp⟩)
 refine⟨cs,h2,e,o2,?_,hcs⟩;rw[List.length_map,List.length_range]at e2;omega
theorem Su(ho:h.ok)(hs:S[n]?=some h.mo):∃l c h',fP [.m n] S=.ok (.v (.tup [.str (sL l),.str (sL c)])) (S.set n (Hand.mo h'))/\h'.ok/\ab5 l c:=by
 have hn:n<S.length:=(List.getElem?_eq_some_iff.mp hs).1;have gs:∀(b:MO),(S.set n b)[n]?=some b:=λb=>by simp[hn]
 obtain⟨d,h1,e1,hd,o1⟩:=Me (xs:=Cr.map λl=>D.str (sL l)) ho hs (by simp[Cr]) (by simp[Cr]);obtain⟨l,hl,rfl⟩:=List.mem_map.mp hd;have l3:l.length<=3:=by simp only[Cr,List.mem_cons,List.not_mem_nil,or_false]at hl;rcases hl with rfl|rfl|rfl|rfl|rfl|rfl|rfl<;>decide
 obtain⟨m,hm⟩:∃m:Int,m=l.length:=⟨_,rfl⟩;have gl:∀Z,cj [.v (.str (sL l))] Z=some (.v (.int m)):=λZ=>by rw[rZ (by omega),hm]
 obtain⟨cs,h2,e2,o2,cl,cd⟩:=Ss (own:=2) (mn:=au cj (aa (eV 1) ah)) (r:=m) (xs:=[49,49,50,51]) (ms:=eC (.str "1123")) (ρ:=[some (.m n),some (.v (.str (sL l))),none]) (S:=S.set n h1.mo) (n:=n) (h:=h1) o1 (gs _) (by simp) (by simp) (by omega) (by omega)
  ⟨h1,o1,by rw[set_set,tX];simp only[bM,eW,vd,f7,gY,R.ak,gl,fQ];exact xS (by omega)⟩ (λ_ _=>rfl) (λZ v=>by rw[zj,R0])
 rw[set_set]at e2;have j:=abY e2 (by omega);refine⟨l,cs,h2,?_,o2,Sq hl (by omega) λx hx=>by have:=cd x hx;simp at this ⊢;omega⟩;unfold fP;rw[fY,if_pos (by rfl)];unfold r9;show(aG _ _ [some (.m n),none,none] S).Lj=_;have e0:aS dW (aa (eV 0) (aa (cn (aa (eC (.str "ab")) (aa (eC (.str "ab")) (aa (eC (.str "abc")) (aa (eC (.str "xyz")) (aa (eC (.str "b")) (aa (eC (.str "kq")) (aa (eC (.str "aez")) ah)))))))) ah)) [some (.m n),none,none] S=.ok (.v (.str (sL l))) (S.set n h1.mo):=by rw[W3,Zt,Sr,ab6,ab7,Zu];exact e1
 rw[xP,ER,e0,SR.of_ok,EO];simp only[List.set_cons_succ,List.set_cons_zero];rw[wk,L6,bM,f7,gY,R.ak,bM,j,R.ak,eW,R.ak,R.ak,R.ak];rfl
end
theorem set_same{S:ag}{n:Nat}{x:MO}(h:S[n]?=some x):S=S.set n x:=by obtain⟨hl,e⟩:=List.getElem?_eq_some_iff.mp h;rw[<-e,List.set_getElem_self]
theorem take_set{S:ag}{n:Nat}{x:MO}:(S.set n x).take S.length=S.set n x:=List.take_of_length_le (by rw[List.length_set];exact Nat.le_refl _)
def yB(G:List (List Int))(F:List Bool):D:=.tup [dQ G,cR F]
section
variable {h:Hand}{S:ag}{n:Nat}
def vp(m:Int):List Int:=[-1]++((List.range m.toNat).map λi=>((i:Nat):Int))++((List.range m.toNat).map λi=>((i:Nat):Int))
theorem VQ{m g:Int}(h:g∈vp m):-1<=g/\(g<m\/g=-1):=by
 unfold vp at h;simp only[List.mem_append,List.mem_map,List.mem_range,List.mem_singleton]at h;rcases h with (rfl|⟨i,hi,rfl⟩)|⟨i,hi,rfl⟩
 exact⟨by omega,.inr rfl⟩;exact⟨by omega,.inl (by omega)⟩;·exact⟨by omega,.inl (by omega)⟩
def OB:EM:=fX [6] (bG (aa (eV 1) ah)) (.nm 6) aL (aS dW (aa (eV 0) (aa (aA cY (cn (aa (xt jl (eC (.int 1))) ah)) (aA hA (BQ (eV 3)) (eC (.int 2)))) ah)))
def Zv:EM:=fX [5] (bG (aa (eV 3) ah)) (.nm 5) aL (aA eU (aS dO (aa (eV 0) (aa (eC (.int 3)) ah))) (eC (.int 0)))
theorem Zw{m:Int}{a1 a2 a4 a5 a6:Option A}(m0:0<=m)(m6:m<=100):∀Z,aA cY (cn (aa (xt jl (eC (.int 1))) ah)) (aA hA (BQ (eV 3)) (eC (.int 2))) [some (.m n),a1,a2,some (.v (.int m)),a4,a5,a6] Z=.ok (.v (.lst ((vp m).map .int))) Z:=λZ=>by
 have e1:gR 0 m.toNat=((List.range m.toNat).map λi=>((i:Nat):Int)).map D.int:=by unfold gR;rw[List.map_map];refine List.map_congr_left λi _=>?_;simp[Function.comp]
 have e2:(gR 0 m.toNat).length<=100:=by unfold gR;simp;omega
 have g1:hA (.v (.lst (gR 0 m.toNat))) (.v (.int 2)) Z=some (.v (.lst (gR 0 m.toNat++gR 0 m.toNat))):=by rw[Yz ⟨by decide,by decide,by show _*2<=1000000;omega⟩];simp[List.replicate]
 rw[kM,Q7,bM,Ws,zj,R.ak,Rh,fQ,R.ak,eW,R.ak,R.ak,Q6,UO,Option.map_some,L7,if_pos (by decide),R.ak,kM,QR,f7,f7,f7,gY,R.ak,aa8 (by omega),R.ak,zj,R.ak,g1,fQ,R.ak,Iw (by simp;omega),fQ,e1];unfold vp;simp
theorem Zx{m:Int}{w:Int}{a2 a4 a5:Option A}(ho:h.ok)(hs:S[n]?=some h.mo)(m0:0<=m)(m6:m<=100)(w0:0<=w)(w3:w<=100):∃(r:List Int) (h1:Hand),OB [some (.m n),some (.v (.int w)),a2,some (.v (.int m)),a4,a5,none] S=.ok (.v (uJ r)) (S.set n (Hand.mo h1))/\h1.ok/\(r.length:Int)=w/\∀g∈r,g∈vp m:=by
 have hn:n<S.length:=(List.getElem?_eq_some_iff.mp hs).1;have gs:∀(b:MO),(S.set n b)[n]?=some b:=λb=>by simp[hn]
 obtain⟨ys,S2,e,⟨h2,o2,rfl⟩,_,e2,e3⟩:=Iy (own:=[6]) (g:=.nm 6) (t:=aL) (m:=aS dW (aa (eV 0) (aa (aA cY (cn (aa (xt jl (eC (.int 1))) ah)) (aA hA (BQ (eV 3)) (eC (.int 2)))) ah))) (mi:=bG (aa (eV 1) ah)) (ρ:=[some (.m n),some (.v (.int w)),a2,some (.v (.int m)),a4,a5,none]) (S:=S) (S1:=S)
  (List.range w.toNat) (λi=>.int (0+(i:Int))) (λ_ y=>∃g,g∈vp m/\y=.int g) (λZ=>∃h3,Hand.ok h3/\Z=S.set n (Hand.mo h3)) (by
   rw[tX];simp only[bM,eW,f7,gY,R.ak];rw[xS (by omega)];rfl) ⟨h,ho,set_same hs⟩ (by simp;omega) (by
   rintro i _ Z ys ⟨h3,o3,rfl⟩ _;obtain⟨d,h4,e,hd,o4⟩:=Me (S:=S.set n h3.mo++[.lst ys]) (n:=n) (xs:=(vp m).map .int) o3 (DU (gs _)) (by simp[vp]) (by simp[vp];omega);obtain⟨g,hg,rfl⟩:=List.mem_map.mp hd;refine⟨_,.int g,S.set n h4.mo,jm,rfl,?_,by simp,⟨h4,o4,rfl⟩,g,hg,rfl⟩;simp only[aT,List.set_cons_succ,List.set_cons_zero];rw[tW,bM,gY,R.ak,bM,Zw m0 m6,R.ak,eW,R.ak,R.ak,R.ak,e,DT (by simpa using hn),set_set])
 have key:∃r:List Int,ys=r.map .int/\∀g∈r,g∈vp m:=by
  have hy:∀y∈ys,∃g,g∈vp m/\y=.int g:=λy hy=>by obtain⟨i,hi,rfl⟩:=List.getElem_of_mem hy;exact e3 ((List.range w.toNat)[i]'(by rw[e2]at hi;exact hi),ys[i]) (by rw[List.mem_iff_getElem];exact⟨i,by rw[List.length_zip,e2];rw[e2]at hi;omega,by simp⟩)
  clear e e2 e3;induction ys with
  |nil=>exact⟨[],rfl,by simp⟩|cons y ys ih =>obtain⟨g,hg,rfl⟩:=hy y (by simp);obtain⟨r,rfl,h2⟩:=ih λy h=>hy y (by simp[h]);exact⟨g::r,rfl,by simpa using ⟨hg,h2⟩⟩
 obtain⟨r,rfl,hr⟩:=key;refine⟨r,h2,e,o2,?_,hr⟩;rw[List.length_map,List.length_range]at e2;omega
theorem Zy{m:Int}{a1 a2 a4 a6:Option A}(ho:h.ok)(hs:S[n]?=some h.mo)(m0:0<=m)(m6:m<=100):∃(F:List Bool) (h1:Hand),Zv [some (.m n),a1,a2,some (.v (.int m)),a4,none,a6] S=.ok (.v (cR F)) (S.set n (Hand.mo h1))/\h1.ok/\(F.length:Int)=m:=by
 have hn:n<S.length:=(List.getElem?_eq_some_iff.mp hs).1;have gs:∀(b:MO),(S.set n b)[n]?=some b:=λb=>by simp[hn]
 obtain⟨ys,S2,e,⟨h2,o2,rfl⟩,_,e2,e3⟩:=Iy (own:=[5]) (g:=.nm 5) (t:=aL) (m:=aA eU (aS dO (aa (eV 0) (aa (eC (.int 3)) ah))) (eC (.int 0))) (mi:=bG (aa (eV 3) ah)) (ρ:=[some (.m n),a1,a2,some (.v (.int m)),a4,none,a6]) (S:=S) (S1:=S)
  (List.range m.toNat) (λi=>.int (0+(i:Int))) (λ_ y=>∃b:Bool,y=.bl b) (λZ=>∃h3,Hand.ok h3/\Z=S.set n (Hand.mo h3)) (by
   rw[tX];simp only[bM,eW,f7,gY,R.ak];rw[xS (by omega)];rfl) ⟨h,ho,set_same hs⟩ (by simp;omega) (by
   rintro i _ Z ys ⟨h3,o3,rfl⟩ _;obtain⟨r,h4,e,r0,r1,o4⟩:=zb (S:=S.set n h3.mo++[.lst ys]) (n:=n) (k:=3) o3 (DU (gs _)) (by decide) (by decide);refine⟨_,.bl (decide (r=0)),S.set n h4.mo,jm,rfl,?_,by simp,⟨h4,o4,rfl⟩,_,rfl⟩;simp only[aT,List.set_cons_succ,List.set_cons_zero];rw[kM,tW,bM,gY,R.ak,bM,zj,R.ak,eW,R.ak,R.ak,R.ak,e,R.ak,zj,R.ak,L8,fQ,DT (by simpa using hn),set_set])
 have key:∃F:List Bool,ys=F.map .bl:=by
  have hy:∀y∈ys,∃b:Bool,y=.bl b:=λy hy=>by obtain⟨i,hi,rfl⟩:=List.getElem_of_mem hy;exact e3 ((List.range m.toNat)[i]'(by rw[e2]at hi;exact hi),ys[i]) (by rw[List.mem_iff_getElem];exact⟨i,by rw[List.length_zip,e2];rw[e2]at hi;omega,by simp⟩)
  clear e e2 e3;induction ys with
  |nil=>exact⟨[],rfl⟩|cons y ys ih =>obtain⟨b,rfl⟩:=hy y (by simp);obtain⟨r,rfl⟩:=ih λy h=>hy y (by simp[h]);exact⟨b::r,rfl⟩
 obtain⟨F,rfl⟩:=key;refine⟨F,h2,e,o2,?_⟩;rw[List.length_map,List.length_range]at e2;omega
theorem Mu:lV=aG (bB 3 (aS dO (aa (eV 0) (aa (aA cY (eV 2) (eC (.int 1))) ah)))) (aG (Ey (aG (bB 4 (mC ah)) (mQ (bG (aa (eV 3) ah)) (.nm 5) (ju (mR "list" cI (eV 4) (aa OB ah)))))) (ck (mK (aa (eV 4) (aa Zv ah))))):=rfl
theorem Sv{w k:Int}(ho:h.ok)(hs:S[n]?=some h.mo)(w1:0<=w)(w8:w<=8)(k0:0<=k)(k6:k<=50):∃(G:List (List Int)) (F:List Bool) (h1:Hand),fO [.m n,.v (.int w),.v (.int k)] S=.ok (.v (yB G F)) (S.set n (Hand.mo h1))/\h1.ok/\TabOk w.toNat G F/\(G.length:Int)<=k:=by
 have hn:n<S.length:=(List.getElem?_eq_some_iff.mp hs).1;have gs:∀(b:MO),(S.set n b)[n]?=some b:=λb=>by simp[hn]
 obtain⟨m,h1,e1,m0,m1,o1⟩:=zb ho hs (k:=k+1) (by omega) (by omega);have key:(lV [some (.m n),some (.v (.int w)),some (.v (.int k)),none,none,none,none] S).sat Ad (λa S'=>∃(G:List (List Int)) (F:List Bool) (h1:Hand),a=.v (yB G F)/\S'=S.set n (Hand.mo h1)/\h1.ok/\TabOk w.toNat G F/\(G.length:Int)<=k) Ad Ad Ri:=by
  rw[Mu];refine c5 (iT (x:=.v (.int m)) (S1:=S.set n h1.mo) (by simp[e1]) ?_);simp only[List.set_cons_succ,List.set_cons_zero];refine c5 ?_;have loop:(aG (bB 4 (mC ah)) (mQ (bG (aa (eV 3) ah)) (.nm 5) (ju (mR "list" cI (eV 4) (aa OB ah)))) [some (.m n),some (.v (.int w)),some (.v (.int k)),some (.v (.int m)),none,none,none] (S.set n h1.mo)).sat
    (λρ S'=>∃(G:List (List Int)) (h2:Hand) (o:Option A),Hand.ok h2/\(G.length:Int)=m/\(∀r∈G,(r.length:Int)=w/\∀g∈r,g∈vp m)/\ρ=[some (.m n),some (.v (.int w)),some (.v (.int k)),some (.v (.int m)),some (.m S.length),o,none]/\S'=S.set n (Hand.mo h2)++[.lst (G.map uJ)]) (λ_ _=>False) Ad Ad Ri:=by
   refine c5 (iT (x:=.m S.length) (S1:=S.set n h1.mo++[.lst []]) (by unfold mC;simp) ?_);simp only[List.set_cons_succ,List.set_cons_zero];refine wt (ds:=gR 0 m.toNat) (S1:=S.set n h1.mo++[.lst []]) (I:=λdon ρ S'=>∃(G:List (List Int)) (h2:Hand) (o:Option A),Hand.ok h2/\G.length=don.length/\(∀r∈G,(r.length:Int)=w/\∀g∈r,g∈vp m)/\ρ=[some (.m n),some (.v (.int w)),some (.v (.int k)),some (.v (.int m)),some (.m S.length),o,none]/\S'=S.set n (Hand.mo h2)++[.lst (G.map uJ)]) ?_ ⟨[],h1,none,o1,rfl,by simp,rfl,rfl⟩ ?_ ?_;·rw[tX];simp only[bM,eW,f7,gY,R.ak];exact xS (by omega)
   ·rintro don d rest ρ S' e ⟨G,h2,o,o2,gl,gr,rfl,rfl⟩;refine⟨_,jm,?_⟩;simp only[List.set_cons_succ,List.set_cons_zero];obtain⟨r,h3,e3,o3,rl,rm⟩:=Zx (S:=S.set n h2.mo++[.lst (G.map uJ)]) (n:=n) (m:=m) (w:=w) (a2:=some (.v (.int k))) (a4:=some (.m S.length)) (a5:=some (.v d)) o2 (DU (gs _)) m0 (by omega) w1 (by omega);rw[DT (by simpa using hn),set_set]at e3;have gd:don.length<=1000:=by have:=congrArg List.length e;unfold gR at this;simp at this;omega
    have at1:∀(x:List D) (b:MO),(S.set n b++[MO.lst x])[S.length]?=some (.lst x):=λx b=>(by rw[List.getElem?_append_right (by simp)];simp);have st1:∀(x y:List D) (b:MO),(S.set n b++[MO.lst x]).set S.length (.lst y)=S.set n b++[.lst y]:=λx y b=>(by rw[List.set_append_right _ _ (by simp)];simp);refine Rj (x:=.v .non) (S1:=S.set n h3.mo++[.lst ((G++[r]).map uJ)]) ?_ ⟨G++[r],h3,some (.v d),o3,by simp[gl],λq hq=>?_,rfl,rfl⟩;rw[Mb,f7,f7,f7,f7,gY,R.ak,WI (at1 _ _),if_pos rfl,bM,e3,R.ak,eW,R.ak,R.ak,GV (at1 _ _) (by rw[List.length_map];omega),Rr,st1];simp;·rcases List.mem_append.mp hq with hq|hq;exact gr q hq;·rw[List.mem_singleton.mp hq];exact⟨rl,rm⟩
   ·rintro ρ S' ⟨G,h2,o,o2,gl,gr,rfl,rfl⟩;refine⟨G,h2,o,o2,?_,gr,rfl,rfl⟩;rw[gl];unfold gR;simp;omega
  rw[WK];generalize hq:aG (bB 4 (mC ah)) (mQ (bG (aa (eV 3) ah)) (.nm 5) (ju (mR "list" cI (eV 4) (aa OB ah)))) [some (.m n),some (.v (.int w)),some (.v (.int k)),some (.v (.int m)),none,none,none] (S.set n h1.mo)=RR at loop ⊢;cases RR with
  |nx ρ S' =>obtain⟨G,h2,o,o2,gl,gr,rfl,rfl⟩:=loop;rw[YZ];have sl:(S.set n h1.mo).length=S.length:=(by simp);have at1:(S.set n h2.mo++[MO.lst (G.map uJ)])[S.length]?=some (.lst (G.map uJ)):=(by rw[List.getElem?_append_right (by simp)];simp);have tk:(S.set n h2.mo++[MO.lst (G.map uJ)]).take S.length=S.set n h2.mo:=(by rw[List.take_append_of_le_length (by rw[List.length_set];exact Nat.le_refl _),take_set]);rw[sl,tk];simp only[List.map_cons,List.map_nil,A4,Ru,w6 hn,CS (Nat.le_refl _) at1];generalize fA S.length (S.set n h2.mo++[MO.lst (G.map uJ)]) o=o;obtain⟨F,h3,e3,o3,fl⟩:=Zy (S:=S.set n h2.mo) (n:=n) (m:=m) (a1:=some (.v (.int w))) (a2:=some (.v (.int k))) (a4:=some (.v (.lst (G.map uJ)))) (a6:=none) o2 (gs _) m0 (by omega);rw[set_set]at e3;have e4:∀o,Zv [some (.m n),some (.v (.int w)),some (.v (.int k)),some (.v (.int m)),some (.v (.lst (G.map uJ))),o,none] (S.set n h2.mo)=.ok (.v (cR F)) (S.set n h3.mo):=λo=>e3;refine rh (x:=.v (yB G F)) (S1:=S.set n h3.mo) ?_ ⟨G,F,h3,rfl,rfl,o3,⟨by omega,by omega,λr hr=>?_,by omega⟩,by omega⟩;rw[L6,bM,f7,f7,f7,f7,gY,R.ak,bM,e4,R.ak,eW,R.ak,R.ak,R.ak];rfl;·obtain⟨z1,z2⟩:=gr r hr;refine⟨by omega,λg hg=>?_⟩;have:=VQ (z2 g hg);omega
  |rt _ _=>exact loop.elim|bk _ _=>exact loop.elim|ct _ _=>exact loop.elim|er _ _=>exact loop.elim|stk=>exact loop.elim
 obtain⟨x,S',e,G,F,h2,rfl,rfl,q⟩:=BV key;refine⟨G,F,h2,?_,q⟩;have r1:iV [.m n,.v (.int w),.v (.int k)] S=.ok (.v (yB G F)) (S.set n h2.mo):=by unfold iV;rw[fY,if_pos (by rfl)];exact e
 unfold fO;rw[WJ,r1,GW,take_set]
end
section
variable {G:List (List Int)}{F:List Bool}{S:ag}{l:List Nat}
theorem Sx{p k z:Int}(hz:0<=p->∃r,(∀Z,b6 (.v (dQ G)) (.v (.int p)) Z=some (.v (uJ r)))/\∀Z,b6 (.v (uJ r)) (.v (.int k)) Z=some (.v (.int z)))(hn:¬0<=p->z=-1):pP [.v (yB G F),.v (.int p),.v (.int k)] S=.ok (.v (.int z)) S:=by
 have gx:∀Z,b6 (.v (yB G F)) (.v (.int 0)) Z=some (.v (dQ G)):=λZ=>by unfold yB;rw[Ko];rfl
 unfold pP;rw[fY,if_pos (by rfl)];unfold CU;show(ck _ [some (.v (yB G F)),some (.v (.int p)),some (.v (.int k))] S).Lj=_;by_cases h0:0<=p;obtain⟨r,g1,g2⟩:=hz h0;simp only[wk,EN,F2,kM,gY,f7,zj,R.ak,mS,decide_eq_true h0,fQ,rY,if_true,gx,g1,g2,SR.of_ok,Ir];·rw[hn h0];simp only[wk,EN,F2,kM,gY,f7,zj,R.ak,mS,decide_eq_false h0,fQ,rY,Bool.false_eq_true,if_false,Ws,Rh,SR.of_ok,Ir]
theorem Sy(h:TabOk l.length G F){w:List Nat}(hw:∀x∈w,x∈l)(hl:w.length<=1000):pQ [.v (yB G F),.v (.str (sL l)),.v (.str (sL w))] S=.ok (.v (.bl (vo G F l w))) S:=by
 have b:=La (G:=G);have gx:∀Z,b6 (.v (yB G F)) (.v (.int 0)) Z=some (.v (dQ G)):=λZ=>by unfold yB;rw[Ko];rfl
 have gx1:∀Z,b6 (.v (yB G F)) (.v (.int 1)) Z=some (.v (cR F)):=λZ=>by unfold yB;rw[Ko];rfl
 have key:(yg [some (.v (yB G F)),some (.v (.str (sL l))),some (.v (.str (sL w))),none,none] S).sat Ad (λa S'=>a=.v (.bl (vo G F l w))/\S'=S) Ad Ad Ri:=by
  unfold yg;refine c5 (iT (x:=.v (.int (iZ G))) (S1:=S) ?_ ?_)
  ·have gem:LM true (.v (dQ G)) (.v (.lst [])) S=some (.v (.bl (!G.isEmpty))):=by unfold LM dQ;show some (nC (!(G.map uJ).isEmpty))=_;rw[WH];cases G<;>rfl
   have el:cn ah [some (.v (yB G F)),some (.v (.str (sL l))),some (.v (.str (sL w))),none,none] S=.ok (.v (.lst [])) S:=rfl;rw[EN,F2,kM,kM,gY,R.ak,zj,R.ak,gx,fQ,R.ak,el,R.ak,gem,fQ,R.ak,rY,fQ,R.ak];unfold iZ;cases G with
   |nil=>rfl|cons r G=>rfl
  ·simp only[List.set_cons_succ,List.set_cons_zero];refine c5 (wt (ds:=w.map λx=>D.str (sL [x])) (S1:=S) (I:=λdon ρ S'=>S'=S/\∃u v o,w=u++v/\don=u.map (λx=>D.str (sL [x]))/\ρ=[some (.v (yB G F)),some (.v (.str (sL l))),some (.v (.str (sL w))),some (.v (.int (nJ G l (iZ G) u))),o]) (by simp) ⟨rfl,[],w,none,rfl,rfl,rfl⟩ ?_ ?_);·rintro don d rest ρ S' e ⟨rfl,u,v,o,rfl,rfl,rfl⟩;rw[List.map_append]at e;have e2:=List.append_cancel_left e;cases v with|nil=>cases e2|cons x v =>simp only[List.map_cons,List.cons.injEq]at e2;obtain⟨rfl,_⟩:=e2;have hx:x∈l:=hw x (by simp);obtain⟨q1,q2⟩:=Jq h b.1 b.2 (w:=u) λy hy=>hw y (by simp[hy]);refine⟨_,jm,?_⟩;simp only[List.set_cons_succ,List.set_cons_zero];have mv:∀Z,pP [.v (yB G F),.v (.int (nJ G l (iZ G) u)),.v (.int ((l.idxOf x:Nat):Int))] Z=.ok (.v (.int (sf G l (nJ G l (iZ G) u) x))) Z:=λZ=>(by refine Sx (λh0=>?_) (λh0=>K9 (by omega));obtain⟨r,g1,g2⟩:=Oz (mk:=uJ) (sq:=.lst) (λ_=>rfl) (λ_ _ _=>fG) h h0 q2 hx Z;exact⟨r,λZ=>by rw[fG]at g1;unfold dQ;rw[fG];exact g1,g2⟩);have ix:∀ρ:Env,eV 1 ρ S'=.ok (.v (.str (sL l))) S'->eV 4 ρ S'=.ok (.v (.str (sL [x]))) S'->mR "str" rg (eV 1) (aa (eV 4) ah) ρ S'=.ok (.v (.int ((l.idxOf x:Nat):Int))) S':=λρ i1 i2=>WZ hx i1 i2;refine iT (x:=.v (.int (sf G l (nJ G l (iZ G) u) x))) (S1:=S') ?_ ⟨rfl,u++[x],v,some (.v (.str (sL [x]))),by simp,by simp,by simp[nJ]⟩;rw[tW,bM,gY,R.ak,bM,f7,f7,f7,gY,R.ak,bM,ix _ rfl rfl,R.ak,eW,R.ak,R.ak,R.ak,R.ak,mv]
   ·rintro ρ S' ⟨rfl,u,v,o,rfl,e,rfl⟩;have hv:v=[]:=by have:=congrArg List.length e;simp at this;exact this
    subst hv;rw[List.append_nil]at hw hl ⊢;obtain⟨q1,q2⟩:=Jq h b.1 b.2 hw;refine rh (x:=.v (.bl (vo G F l u))) (S1:=S') ?_ ⟨rfl,rfl⟩;rw[uD,kM,f7,f7,f7,gY,R.ak,zj,R.ak,mS,fQ,R.ak,rY];unfold vo;by_cases h0:0<=nJ G l (iZ G) u;rw[decide_eq_true h0,Q8,kM,kM,gY,R.ak,zj,R.ak,gx1,fQ,R.ak,f7,f7,f7,gY,R.ak,OA h.len h0 q2,fQ];rfl;·rw[decide_eq_false h0,Q9];rfl
 obtain⟨x,S',e,rfl,rfl⟩:=BV key;unfold pQ;rw[fY,if_pos (by rfl)];exact e
def fS(l:List Nat):Nat->List (List Nat)|0=>[[]]|n+1=>(fS l n).flatMap λw=>l.map λx=>w++[x]
theorem Cs{w:List Nat}:∀{n:Nat},w∈fS l n->w.length=n/\∀x∈w,x∈l|0,h=>by simp[fS]at h;subst h;simp|n+1,h=>by simp only[fS,List.mem_flatMap,List.mem_map]at h;obtain⟨v,hv,x,hx,rfl⟩:=h;obtain⟨h1,h2⟩:=Cs hv;refine⟨by simp[h1],λy hy=>?_⟩;rcases List.mem_append.mp hy with hy|hy;exact h2 y hy;·rw[List.mem_singleton.mp hy];exact hx
theorem Fw:∀{n:Nat},(fS l n).length=l.length ^ n
 |0=>rfl|n+1=>by
  have ih:=Fw (n:=n);have key:∀L:List (List Nat),(L.flatMap λw=>l.map λx=>w++[x]).length=L.length*l.length:=λL=>by
   induction L with
   |nil=>simp|cons a L ih=>simp only[List.flatMap_cons,List.length_append,List.length_map,ih,List.length_cons,Nat.add_mul];omega
  show((fS l n).flatMap λw=>l.map λx=>w++[x]).length=_;rw[key,ih,Nat.pow_succ]
def sg(ws:List (List Nat)):D:=.lst (ws.map λw=>.str (sL w))
theorem Sz{k:Int}(h3:l.length<=3)(k0:0<=k)(k3:k<=5):ie [.v (.str (sL l)),.v (.int k)] S=.ok (.v (sg (fS l k.toNat))) S:=by
 have big:∀n:Nat,n<=5->(fS l n).length<=243:=λn hn=>by rw[Fw];exact Nat.le_trans (Nat.pow_le_pow_left h3 n) (Nat.le_trans (Nat.pow_le_pow_right (by decide) hn) (by decide))
 have key:(ot [some (.v (.str (sL l))),some (.v (.int k)),none,none,none,none,none] S).sat Ad (λa S'=>a=.v (sg (fS l k.toNat))/\S'=S) Ad Ad Ri:=by
  unfold ot;refine c5 (iT (x:=.v (sg [[]])) (S1:=S) (by simp[sg,Po]) ?_);simp only[List.set_cons_succ,List.set_cons_zero];refine c5 (wt (ds:=gR 0 k.toNat) (S1:=S) (I:=λdon ρ S'=>S'=S/\∃o3 o4 o5 o6,ρ=[some (.v (.str (sL l))),some (.v (.int k)),some (.v (sg (fS l don.length))),o3,o4,o5,o6]) ?_ ⟨rfl,none,none,none,none,rfl⟩ ?_ ?_);·rw[tX];simp only[bM,eW,f7,gY,R.ak];exact xS (by omega)
  ·rintro don d rest ρ S' e ⟨rfl,o3,o4,o5,o6,rfl⟩;have dl:don.length+1<=5:=by have:=congrArg List.length e;unfold gR at this;simp at this;omega
   have bn:=big don.length (by omega);have bn1:=big (don.length+1) dl;refine⟨_,jm,?_⟩;simp only[List.set_cons_succ,List.set_cons_zero];refine c5 (iT (x:=.v (sg [])) (S1:=S') rfl ?_);simp only[List.set_cons_succ,List.set_cons_zero];refine c5 (wt (ds:=(fS l don.length).map λw=>D.str (sL w)) (S1:=S') (I:=λdn ρ S2=>S2=S'/\∃u v o5 o6,fS l don.length=u++v/\dn=u.map (λw=>D.str (sL w))/\ρ=[some (.v (.str (sL l))),some (.v (.int k)),some (.v (sg (fS l don.length))),some (.v d),some (.v (sg (u.flatMap λw=>l.map λx=>w++[x]))),o5,o6]) rfl ⟨rfl,[],_,_,_,rfl,rfl,rfl⟩ ?_ ?_)
   ·rintro dn d2 rest2 ρ S2 e2 ⟨rfl,u,v,o5,o6,ew,rfl,rfl⟩;rw[ew,List.map_append]at e2;have e3:=List.append_cancel_left e2;cases v with
    |nil=>cases e3|cons w v=>
     simp only[List.map_cons,List.cons.injEq]at e3;obtain⟨rfl,_⟩:=e3;refine⟨_,jm,?_⟩;simp only[List.set_cons_succ,List.set_cons_zero];have wl:=(Cs (l:=l) (w:=w) (n:=don.length) (by rw[ew];simp)).1;have lc:fX [6] (iStr (eV 0)) (.nm 6) aL (aA cY (eV 5) (eV 6)) [some (.v (.str (sL l))),some (.v (.int k)),some (.v (sg (fS l don.length))),some (.v d),some (.v (sg (u.flatMap λw=>l.map λx=>w++[x]))),some (.v (.str (sL w))),o6] S2=.ok (.v (.lst (l.map λx=>D.str (sL (w++[x]))))) S2:=
      bP l (λx=>.str (sL [x])) (λx=>.str (sL (w++[x]))) (by simp) (by omega) λx _ Z=>⟨_,jm,rfl,by simp only[aT,List.set_cons_succ,List.set_cons_zero,kM,f7,gY,R.ak,Yx (a:=w) (b:=[x]) (by simp;omega),fQ]⟩
     have ul:(u.flatMap λw=>l.map λx=>w++[x]).length+l.length<=243+3:=(by have:(fS l (don.length+1)).length=(u.flatMap λw=>l.map λx=>w++[x]).length+(l.length+(v.flatMap λw=>l.map λx=>w++[x]).length):=(by show((fS l don.length).flatMap λw=>l.map λx=>w++[x]).length=_;rw[ew,List.flatMap_append,List.length_append,List.flatMap_cons,List.length_append,List.length_map]);omega);refine iT (x:=.v (sg ((u++[w]).flatMap λw=>l.map λx=>w++[x]))) (S1:=S2) ?_ ⟨rfl,u++[w],v,some (.v (.str (sL w))),o6,by rw[ew];simp,by simp,rfl⟩;rw[kM,f7,f7,f7,f7,gY,R.ak,lc,R.ak];unfold sg;rw[Iw (by rw[List.length_map,List.length_map];omega),fQ];simp[List.flatMap_append]
   ·rintro ρ S2 ⟨rfl,u,v,o5,o6,ew,e2,rfl⟩;have hv:v=[]:=by have:=congrArg List.length e2;rw[ew]at this;simp at this;exact this
    subst hv;rw[List.append_nil]at ew;have ef:(u.flatMap λw=>l.map λx=>w++[x])=fS l (don.length+1):=(by show _=(fS l don.length).flatMap λw=>l.map λx=>w++[x];rw[ew]);rw[ef];exact iT (x:=.v (sg (fS l (don.length+1)))) (S1:=S2) rfl ⟨rfl,some (.v d),some (.v (sg (fS l (don.length+1)))),o5,o6,by rw[List.length_append,List.length_singleton];rfl⟩
  ·rintro ρ S' ⟨rfl,o3,o4,o5,o6,rfl⟩;refine rh (x:=.v (sg (fS l k.toNat))) (S1:=S') ?_ ⟨rfl,rfl⟩;rw[f7,f7,gY];unfold gR;simp
 obtain⟨x,S',e,rfl,rfl⟩:=BV key;unfold ie;rw[fY,if_pos (by rfl)];exact e
end
def ixs(l u:List Nat):List Nat:=u.map l.idxOf
section
variable {l:List Nat}{S:ag}
theorem Lb{T:Tab}(u:List Nat):vo T.1 T.2 l u=iM T.1 T.2 (iZ T.1) (ixs l u):=by
 have key:∀(u:List Nat) (p:Int),(decide (0<=nJ T.1 l p u)&&(T.2[(nJ T.1 l p u).toNat]?.getD false))=iM T.1 T.2 p (ixs l u):=by
  intro u;induction u with
  |nil =>intro p;show(decide (0<=p)&&(T.2[p.toNat]?.getD false))=(decide (0<=p)&&T.2.getD p.toNat false);rw[List.getD_eq_getElem?_getD]
  |cons x u ih =>intro p;have e:sf T.1 l p x=gG T.1 p (l.idxOf x):=(by unfold sf gG;rw[List.getD_eq_getElem?_getD,List.getD_eq_getElem?_getD]);show(decide (0<=nJ T.1 l (sf T.1 l p x) u)&&(T.2[(nJ T.1 l (sf T.1 l p x) u).toNat]?.getD false))=iM T.1 T.2 (gG T.1 p (l.idxOf x)) (ixs l u);rw[ih,e]
 exact key u _
theorem Hf{al:D}{g:List (List Int)}{e:List Bool}(he:e.length<=1000):gD [.v (di al g e)] S=.ok (.v (c9 e)) S:=by
 refine yp rfl (kD ?_);have hm:ib (fZ [1] "own_ends" (eV 0)) [some (.v (di al g e)),none,none] S=.ok (((List.range e.length).map λi=>(0+i,e[i]?.getD false)).map λp=>D.tup [.int ((p.1:Nat):Int),.bl p.2]) S:=by unfold ib;rw[iX (fs:=[("own_alphabet",al),("own_goals",.lst (g.map cB)),("own_ends",cR e)]) (d:=cR e) rfl (by decide) rfl,R.ak];show R.ok (jx 0 (aN e)) S=_;rw[Fv e 0]
 have:=A2 (own:=[1,2]) (g:=.tp ((.nm 1)::((.nm 2)::[]))) (t:=tE (eV 2)) (m:=eV 1) ((List.range e.length).map λi=>(0+i,e[i]?.getD false)) (λp=>D.tup [.int ((p.1:Nat):Int),.bl p.2]) (λp=>p.2) (λp=>.int ((p.1:Nat):Int)) hm (by simp;omega) λp _ Z=>⟨_,rfl,rfl,λ_=>rfl⟩;refine this.trans ?_;unfold c9 eP;rw[List.filter_map,List.map_map];simp only[Nat.zero_add];rfl
theorem Fx{al:D}{g:List (List Int)}{e:List Bool}:fL [.v (di al g e)] S=.ok (.v (.lst (g.map cB))) S:=
 yp rfl (kD (aW (ao (iX rfl (by decide) rfl) rfl) rfl))
theorem SA{g:List (List Int)}{e:List Bool}(h:e.length<=1000):jT [.v (bX g e)] S=.ok (.v (c9 e)) S:=by
 obtain⟨m,hm⟩:∃m:Int,m=e.length:=⟨_,rfl⟩;have gx:∀Z,b6 (.v (bX g e)) (.v (.int 1)) Z=some (.v (cR e)):=λZ=>by unfold bX;rw[Ko];rfl
 have gl:∀Z,cj [.v (cR e)] Z=some (.v (.int m)):=λZ=>by unfold cR;rw[wq,List.length_map,hm]
 have e1:fX [1] (bG (aa (au cj (aa (aA b6 (eV 0) (eC (.int 1))) ah)) ah)) (.nm 1) (tE (aA b6 (aA b6 (eV 0) (eC (.int 1))) (eV 1))) (eV 1) [some (.v (bX g e)),none] S=.ok (.v (.lst (((List.range e.length).filter λi=>e[i]?.getD false).map λi=>D.int ((i:Nat):Int)))) S:=by
  refine A2 (List.range e.length) (λi=>.int ((i:Nat):Int)) (λi=>e[i]?.getD false) (λi=>.int ((i:Nat):Int)) ?_ (by simp;omega) λi hi Z=>⟨_,jm,?_,λ_=>by simp[aT]⟩;·rw[tX,bM,vd,bM,kM,gY,R.ak,zj,R.ak,gx,fQ,R.ak,eW,R.ak,R.ak,gl,fQ,R.ak,eW,R.ak,R.ak,xS (by omega)];unfold gR;rw[show m.toNat=e.length by omega];congr 1;refine List.map_congr_left λi _=>?_;rw[Int.zero_add]
  ·have hi2:i<e.length:=List.mem_range.mp hi;have ga:b6 (.v (cR e)) (.v (.int ((i:Nat):Int))) Z=some (.v (.bl (e[i]?.getD false))):=by unfold cR;rw[fG,atI_nat (z:=.bl e[i]) (by rw[List.getElem?_map,List.getElem?_eq_getElem hi2];rfl),List.getElem?_eq_getElem hi2];rfl
   simp only[aT,List.set_cons_succ,List.set_cons_zero,F2,kM,gY,f7,zj,R.ak,gx,fQ,ga,rY]
 unfold jT;rw[fY,if_pos (by rfl)];unfold CW;show(ck _ [some (.v (bX g e)),none] S).Lj=_;rw[wk,e1];rfl
theorem Ct{k:Nat}(r:List Int)(h:r.length<=1000):fR (k+2) (.tup (r.map .int))=true/\fR (k+2) (.lst (r.map .int))=true:=by
 have e:(r.map D.int).all (fR (k+1))=true:=List.all_eq_true.mpr λx hx=>by obtain⟨i,_,rfl⟩:=List.mem_map.mp hx;rfl
 constructor;show(decide ((r.map D.int).length<=1000000)&&(r.map D.int).all (fR (k+1)))=true;rw[decide_eq_true (by rw[List.length_map];omega),e];rfl;·show(decide ((r.map D.int).length<=1000000)&&(r.map D.int).all (fR (k+1)))=true;rw[decide_eq_true (by rw[List.length_map];omega),e];rfl
end
section
open PySem (PyData)
def PN(k:Nat)(d:D)(p:PyData):Prop:=toPy d=some p/\PyData.canLay0 p=true/\PyData.depth p<=k
mutual
theorem SD:∀d:PyData,PyData.canLay0 d=true->PyData.eqv d d=true|.none,_=>rfl|.bool b,_=>by show(b == b)=true;exact beq_self_eq_true b|.int i,_=>by show(i == i)=true;exact beq_self_eq_true i|.str x,_=>by show(x == x)=true;exact beq_self_eq_true x|.list xs,h=>by rw[PyData.eqv];exact yC xs (by simpa[PyData.canLay0]using h)|.tuple xs,h=>by rw[PyData.eqv];exact yC xs (by simpa[PyData.canLay0]using h)|.dict _,h=>by simp[PyData.canLay0]at h
theorem yC:∀xs:List PyData,PyData.canLayAll0 xs=true->PyData.eqvAll xs xs=true
 |[],_=>rfl|x::xs,h=>by
  have h':PyData.canLay0 x=true/\PyData.canLayAll0 xs=true:=by simpa[PyData.canLayAll0]using h
  show(PyData.eqv x x&&PyData.eqvAll xs xs)=true;rw[SD x h'.1,yC xs h'.2];rfl
end
mutual
theorem VR:∀a b:PyData,PyData.eqv a b=true->PyData.depth a=PyData.depth b
 |.list xs,.list ys,h=>by
  have h':PyData.eqvAll xs ys=true:=by simpa[PyData.eqv]using h
  show PyData.depthAll xs+1=PyData.depthAll ys+1;rw[Aq xs ys h']
 |.tuple xs,.tuple ys,h=>by
  have h':PyData.eqvAll xs ys=true:=by simpa[PyData.eqv]using h
  show PyData.depthAll xs+1=PyData.depthAll ys+1;rw[Aq xs ys h']
 |.none,b,h=>by cases b<;>first|rfl|(simp[PyData.eqv]at h)
 |.bool _,b,h=>by cases b<;>first|rfl|(simp[PyData.eqv]at h)
 |.int _,b,h=>by cases b<;>first|rfl|(simp[PyData.eqv]at h)
 |.str _,b,h=>by cases b<;>first|rfl|(simp[PyData.eqv]at h)
 |.dict _,b,h=>by cases b<;>simp[PyData.eqv]at h|.list xs,.none,h|.list xs,.bool _,h|.list xs,.int _,h|.list xs,.str _,h|.list xs,.tuple _,h|.list xs,.dict _,h=>by simp[PyData.eqv]at h|.tuple xs,.none,h|.tuple xs,.bool _,h|.tuple xs,.int _,h|.tuple xs,.str _,h|.tuple xs,.list _,h|.tuple xs,.dict _,h=>by simp[PyData.eqv]at h
theorem Aq:∀xs ys:List PyData,PyData.eqvAll xs ys=true->PyData.depthAll xs=PyData.depthAll ys
 |[],[],_=>rfl|[],_::_,h=>by simp[PyData.eqvAll]at h|_::_,[],h=>by simp[PyData.eqvAll]at h|x::xs,y::ys,h=>by
  have h':PyData.eqv x y=true/\PyData.eqvAll xs ys=true:=by simpa[PyData.eqvAll]using h
  show max (PyData.depth x) (PyData.depthAll xs)=max (PyData.depth y) (PyData.depthAll ys);rw[VR x y h'.1,Aq xs ys h'.2]
end
theorem PN.mono{k j:Nat}{d:D}{p:PyData}(h:PN k d p)(hk:k<=j):PN j d p:=⟨h.1,h.2.1,Nat.le_trans h.2.2 hk⟩
theorem PN.sh{k:Nat}{d:D}{p:PyData}(h:PN k d p)(hk:k<=60):PySem.SeqAt.shaped p=true:=by unfold PySem.SeqAt.shaped;rw[h.2.1,decide_eq_true (Nat.le_trans h.2.2 (Nat.le_trans hk (by decide)))];rfl
section
variable {S:ag}
theorem VS{a b:D}{x y:PyData}{k j:Nat}(ha:PN k a x)(hb:PN j b y)(hk:k<=60)(hj:j<=60)(hs:eU (.v a) (.v b) S=Eu (.v a) (.v b) S):eU (.v a) (.v b) S=some (.v (.bl (PyData.eqv x y))):=by rw[hs];unfold Eu;simp only[ha.1,hb.1];rw[if_pos ⟨ha.sh hk,hb.sh hj⟩];rfl
end
end
section
variable {l c:List Nat}{S:ag}{al p:D}{g g':List (List Int)}{e e':List Bool}
theorem OC{g:Tg}{ma:EM}{ρ ρ1:Env}{a:A}{S1:ag}(h:ma ρ S=.ok a S1)(h2:g.put a ρ=some ρ1):FX g ma ρ S=.nx ρ1 S1:=by rw[Ra,h,SR.of_ok,h2];rfl
theorem W4(h:A3 l=true)(h2:A3 c=true):fH [.v (ay l c),.v (ay l c)] S=.ok (.v (.bl true)) S:=by
 simp only[fH,xT,fY,ay]
 first
 |(simp[DJ (cs:=[0,2]) (k:=0) (j:=0) rfl rfl,lU (k:=0) (List.mem_singleton.mpr rfl) Ap,lU (k:=0) (List.mem_singleton.mpr rfl) Jm,DK (l6 h h2) (l6 h h2)];done)|(simp[DJ (cs:=[0,1,2]) (k:=0) (j:=0) rfl rfl,lU (k:=0) (List.mem_singleton.mpr rfl) Ap,lU (k:=0) (List.mem_singleton.mpr rfl) Jm,DK (l6 h h2) (l6 h h2)];done)|(simp[DJ (cs:=[0,1,2,3]) (k:=0) (j:=0) rfl rfl,lU (k:=0) (List.mem_singleton.mpr rfl) Ap,lU (k:=0) (List.mem_singleton.mpr rfl) Jm,DK (l6 h h2) (l6 h h2)];done)|(simp[DJ (cs:=[0,1]) (k:=0) (j:=0) rfl rfl,lU (k:=0) (List.mem_singleton.mpr rfl) Ap,lU (k:=0) (List.mem_singleton.mpr rfl) Jm,DK (l6 h h2) (l6 h h2)];done)
theorem OD(h:nc l c):A3 l=true:=by
 refine List.all_eq_true.mpr λx hx=>?_;have:=h.low x hx;have h2:abc.all (λx=>decide (x<1114112))=true:=by decide
 exact List.all_eq_true.mp h2 x this
theorem OE(h:nc l c):A3 c=true:=by refine List.all_eq_true.mpr λx hx=>?_;have:=h.dig x hx;simp only[List.mem_cons,List.not_mem_nil,or_false]at this;rcases this with rfl|rfl|rfl<;>decide
theorem SE{ρ:Env}{i j:Nat}(al:nc l c)(hi:ρ[i]?=some (some (.v (.str (sL l)))))(hj:ρ[j]?=some (some (.v (.str (sL c))))):l4 0 bD (aa (eV i) (aa (eV j) ah)) ρ S=.ok (.v (ay l c)) S:=
 yo (ao (rX hi) (ao (rX hj) rfl)) ((Of (K3 (by have:=al.l8;omega)) (K3 (by have:=al.lc;have:=al.l8;omega))).trans (K2 al))
def goT(g:List (List Int)):PyData:=.list (g.map λr=>.tuple (r.map .int))
def flP(e:List Bool):PyData:=.list (e.map .bool)
theorem Py(r:List Int):kL (r.map .int)=some (r.map .int):=mj (pk:=PyData.int) (λ_=>rfl) r
theorem VT{a b:List Int}:PyData.eqvAll (a.map .int) (b.map .int)=decide (a=b):=se (pk:=PyData.int) (λi j=>by show(i == j)=_;by_cases h:i=j;rw[h,decide_eq_true rfl];exact beq_self_eq_true j;·rw[decide_eq_false h];exact beq_eq_false_iff_ne.mpr h) a b
theorem VU(r:List Int):toPy (cB r)=some (.tuple (r.map .int)):=by show(kL (r.map .int)).map PyData.tuple=_;rw[Py];rfl
theorem VW(r:List Int):PyData.canLayAll0 (r.map PyData.int)=true:=jU (pk:=PyData.int) r λ_ _=>rfl
theorem VX(r:List Int):PyData.depthAll (r.map PyData.int)<=0:=jV (pk:=PyData.int) r λ_ _=>Nat.le_refl 0
theorem OF(g:List (List Int)):PN 2 (.lst (g.map cB)) (goT g):=by refine⟨?_,?_,?_⟩;show(kL (g.map cB)).map PyData.list=_;rw[mj VU];rfl;show PyData.canLayAll0 (g.map λr=>PyData.tuple (r.map .int))=true;exact jU g λr _=>VW r;·show PyData.depthAll (g.map λr=>PyData.tuple (r.map .int))+1<=2;have:=jV (pk:=λr:List Int=>PyData.tuple (r.map .int)) (n:=1) g λr _=>Nat.succ_le_succ (VX r);omega
theorem SF(e:List Bool):PN 1 (.lst (aN e)) (flP e):=by refine⟨?_,?_,?_⟩;show(kL (e.map .bl)).map PyData.list=_;rw[mj (pk:=PyData.bool) λ_=>rfl];rfl;show PyData.canLayAll0 (e.map PyData.bool)=true;exact jU (pk:=PyData.bool) e λ_ _=>rfl;·show PyData.depthAll (e.map PyData.bool)+1<=1;have:=jV (pk:=PyData.bool) (n:=0) e λ_ _=>Nat.le_refl 0;omega
theorem VY:PyData.eqv (goT g) (goT g')=decide (g=g'):=by show PyData.eqv (.list _) (.list _)=_;rw[PyData.eqv];exact se (λa b=>by rw[PyData.eqv];exact VT) g g'
theorem Zz:PyData.eqv (flP e) (flP e')=decide (e=e'):=by show PyData.eqv (.list _) (.list _)=_;rw[PyData.eqv];exact se (λa b=>by cases a<;>cases b<;>rfl) e e'
theorem OG{k:Nat}{a b:D}{x y:PyData}(ha:PN k a x)(hb:PN k b y):PN (k+1) (.tup [a,b]) (.tuple [x,y]):=by
 refine⟨?_,?_,?_⟩
 ·show(kL [a,b]).map PyData.tuple=_;have:kL [a,b]=some [x,y]:=by
   show(match toPy a,kL [b]with
    |some p,some ps=>some (p::ps)|_,_=>none)=_
   have e2:kL [b]=some [y]:=by
    show(match toPy b,kL []with
     |some p,some ps=>some (p::ps)|_,_=>none)=_
    rw[hb.1];rfl
   rw[ha.1,e2]
  rw[this];rfl
 show(PyData.canLay0 x&&(PyData.canLay0 y&&true))=true;rw[ha.2.1,hb.2.1];rfl;·show max (PyData.depth x) (max (PyData.depth y) 0)+1<=k+1;have h1:=ha.2.2;have h2:=hb.2.2;exact Nat.succ_le_succ (Nat.max_le.mpr ⟨h1,Nat.max_le.mpr ⟨h2,Nat.zero_le _⟩⟩)
theorem VZ{x y z w:PyData}:PyData.eqv (.tuple [x,y]) (.tuple [z,w])=(PyData.eqv x z&&PyData.eqv y w):=by rw[PyData.eqv,PyData.eqvAll,PyData.eqvAll,PyData.eqvAll,Bool.and_true]
theorem ZA(h:A3 l=true)(h2:A3 c=true):nE iU (!·) mD (.v (ay l c)) (.v (ay l c)) S=.ok (.v (.bl false)) S:=by show Ub (!·) (fH [.v (ay l c),.v (ay l c)] S)=_;rw[W4 h h2];rfl
theorem wF{gg:Th}{ma mb:EM}{ρ:Env}{S S1 S2:ag}{x y:A}{z:R A}(h:ma ρ S=.ok x S1)(h2:mb ρ S1=.ok y S2)(h3:gg x y S2=z):wa gg ma mb ρ S=z:=by rw[Ym,h,R.ak,h2,R.ak];exact h3
theorem ZC(a:nc l c){t u:Tab}:lI [.v (di (ay l c) t.1 t.2),.v (di (ay l c) u.1 u.2)] S=.ok (.v (.bl (decide (t=u)))) S:=by
 refine yp rfl (bz (C2 (S1:=S) ?_ rfl) (kD (wF (x:=.v (.tup [.lst (t.1.map cB),.lst (aN t.2)])) (y:=.v (.tup [.lst (u.1.map cB),.lst (aN u.2)])) (ph (ao (iX rfl (by decide) rfl) (ao (iX rfl (by decide) rfl) rfl)) rfl (Nat.le_of_ble_eq_true rfl)) (ph (ao (iX rfl (by decide) rfl) (ao (iX rfl (by decide) rfl) rfl)) rfl (Nat.le_of_ble_eq_true rfl)) ?_)));·exact Mg (a:=false) (b:=false) (Mf (gh (aW (ao rfl (ao rfl rfl)) rfl))) λ_=>gh (wF (iX rfl (by decide) rfl) (iX rfl (by decide) rfl) (ZA (OD a) (OE a)))
 ·have h:=VS (S:=S) (OG (OF t.1) ((SF t.2).mono (by decide))) (OG (OF u.1) ((SF u.2).mono (by decide))) (by decide) (by decide) rfl;show(R.xm (eU _ _ S) S)=_;rw[h,VZ,VY,Zz,<-Bool.decide_and];show R.ok (A.v (.bl _)) S=_;congr 3;exact decide_eq_decide.mpr ⟨λz=>Prod.ext z.1 z.2,λz=>by rw[z];exact⟨rfl,rfl⟩⟩
end
@[irreducible] def W5(Pt:Addr):SM:=ck (og (wa (nE aE id eU) (cF (b7 az) (aa (fb 1 "least" aO (eV 12) ah) ah)) (eC (.int 0))) (aS gE (aa (eV 1) ah)))
@[irreducible] def SG(Pt:Addr):SM:=aG (bB 12 (l4 1 aV (aa (xJ 1 0 [0] bE (aa (eC (.str "a")) ah) ah) (aa (cn (aa (cn (aa (eC (.int 1)) ah)) (aa (cn (aa (eC (.int 0)) ah)) ah))) (aa (cn ah) ah))))) (W5 Pt)
@[irreducible] def OH(Pt:Addr):SM:=uP (tE (wa (nE aE (!·) mD) (fb 1 "accepts" dP (eV 8) (aa (eV 11) ah)) (aS pQ (aa (eV 6) (aa (eV 3) (aa (eV 11) ah)))))) (ck (eC (.bl false))) iR
@[irreducible] def ab9(Pt:Addr):SM:=mQ (cJ (aS ie (aa (eV 3) (aa (aS dO (aa (eV 1) (aa (eC (.int 6)) ah))) ah)))) (.nm 11) (OH Pt)
@[irreducible] def aca(Pt:Addr):SM:=aG (uP (uA (tE (wa (nE aE (!·) mD) (fb 1 "least" aO (eV 8) ah) (eV 8))) (uA (tE (wa (nE aE (!·) mD) (CL 1 jn (eV 8)) (eV 5))) (tE (wa (nE aE (!·) mD) (cF (b7 az) (aa (eV 7) ah)) (cF (b7 az) (aa (aA b6 (eV 6) (eC (.int 0))) ah)))))) (ck (eC (.bl false))) iR) (ab9 Pt)
@[irreducible] def acb(Pt:Addr):SM:=aG (uP (hV (tE (aS (bF 8) (aa (cn (aa (fb 1 "goals" fL (eV 8) ah) (aa (fb 1 "ends" gD (eV 8) ah) (aa (cF (b7 az) (aa (eV 8) ah)) ah)))) (aa (cn (aa (eV 10) (aa (aS jT (aa (eV 9) ah)) (aa (cF (b7 az) (aa (eV 10) ah)) ah)))) ah))))) (ck (eC (.bl false))) iR) (aca Pt)
@[irreducible] def acd(Pt:Addr):SM:=aG (bB 10 (fX [13] (cJ (aA b6 (eV 9) (eC (.int 0)))) (.nm 13) aL (au rS (aa (eV 13) ah)))) (acb Pt)
@[irreducible] def ace(Pt:Addr):SM:=aG (xI 8 9 (aa (fb 1 "least" aO (eV 7) ah) (aa (aS fN (aa (eV 6) (aa (cF (b7 az) (aa (eV 3) ah)) ah))) ah))) (acd Pt)
@[irreducible] def acf(Pt:Addr):SM:=aG (bB 7 (l4 1 aV (aa (eV 5) (aa (aA b6 (eV 6) (eC (.int 0))) (aa (aS jT (aa (eV 6) ah)) ah))))) (ace Pt)
@[irreducible] def acg(Pt:Addr):SM:=aG (xI 5 6 (aa (l4 0 bD (aa (eV 3) (aa (eV 4) ah))) (aa (aS fO (aa (eV 1) (aa (cF (b7 az) (aa (eV 3) ah)) (aa (eC (.int 7)) ah)))) ah))) (acf Pt)
@[irreducible] def V0(Pt:Addr):SM:=aG (FX (.tp ((.nm 3)::((.nm 4)::[]))) (aS fP (aa (eV 1) ah))) (acg Pt)
@[irreducible] def ach(Pt:Addr):SM:=aG (mQ (bG (aa (eC (.int 5)) ah)) (.nm 2) (V0 Pt)) (SG Pt)
@[irreducible] def aci(Pt:Addr):SM:=aG (bB 1 (aS pS (aa (eV 0) ah))) (ach Pt)
theorem ZD(Pt:Addr):E4 Pt=aci Pt:=by with_unfolding_all rfl
def dv(o:Option D):Option A:=o.map A.v
abbrev wH(Pt:Addr)(h:Hand):ag:=[.tab Pt Md,h.mo]
theorem ZE{a b:Bool}{S:ag}(h:a=b):mD (.v (.bl a)) (.v (.bl b)) S=some (.v (.bl false)):=by subst h;cases a<;>rfl
theorem TabOk.wf{w:Nat}{G:List (List Int)}{F:List Bool}(h:TabOk w G F):k7 w G.length G F:=
 ⟨rfl,h.len,λr hr=>(h.row r hr).1,λr hr x hx=>((h.row r hr).2 x hx).1,λr hr x hx=>((h.row r hr).2 x hx).2⟩
theorem W6{w n:Nat}{G:List (List Int)}{F:List Bool}(W:k7 w n G F){p:Int}:LW w (iM G F p):=λu hu=>Ox W u p hu
section
variable {l c:List Nat}{S:ag}{n:Nat}{G:List (List Int)}{F:List Bool}{w s:Nat}
theorem SH{mt:Nat->Option FM}(h:l.length<=1000000):b7 mt [.v (.str (sL l))] S=.ok (.v (.int (l.length:Nat))) S:=by show R.xm (cj [.v (.str (sL l))] S) S=_;rw[rZ h];rfl
theorem SI{mt:Nat->Option FM}{xs:List D}:b7 mt [.v (.lst xs)] S=.ok (.v (.int (xs.length:Nat))) S:=by show R.xm (cj [.v (.lst xs)] S) S=_;rw[wq];rfl
theorem DW{al:D}(h:G.length<=1000):b7 az [.v (di al G F)] S=.ok (.v (.int (G.length:Nat))) S:=by
 have e:kA [.v (di al G F)] S=.ok (.v (.int (G.length:Nat))) S:=yp rfl (kD (aW (ao (x:=.v (.lst (G.map cB))) (iX rfl (by decide) rfl) rfl) (by rw[wq,List.length_map])));show HW (kA [.v (di al G F)] S)=_;rw[e];have:(0:Int)<=(G.length:Int):=by omega
 simp[HW];omega
theorem V1(h8:l.length<=8):b7 cW [.v (ay l c)] S=.ok (.v (.int (l.length:Nat))) S:=by
 have e:eI [.v (ay l c)] S=.ok (.v (.int (l.length:Nat))) S:=So (by omega);show HW (eI [.v (ay l c)] S)=_;rw[e];have:(0:Int)<=(l.length:Int):=by omega
 simp[HW];omega
theorem Pz(al:nc l c)(hG:G.length<=200)(he:F.length<=200){g:List (List Int)}{e:List Bool}{m:Nat}(hr:kz [.v (bX G F),.v (.int (l.length:Nat))] S=.ok (.v (bX g e)) S)(W:k7 l.length m g e)(hm:m<=200) :aO [.v (di (ay l c) G F)] S=.ok (.v (di (ay l c) g e)) S:=by
 have h8:=al.l8;have e1:fX [3] (cJ (fZ [1] "own_goals" (eV 0))) (.nm 3) aL (au qA (aa (eV 3) ah)) [some (.v (di (ay l c) G F)),none,none,none] S=.ok (.v (aK G)) S:=
  bP (own:=[3]) (g:=.nm 3) G cB aQ (dM (iX rfl (by decide) rfl)) (by omega) λr _ Z=>⟨_,rfl,rfl,rfl⟩
 refine yp rfl (bz (OC (a:=.v (bX g e)) (dA (ao (x:=.v (bX G F)) (S1:=S) (ph (ao e1 (ao (x:=.v (cR F)) (iX rfl (by decide) rfl) rfl)) rfl (Nat.le_of_ble_eq_true rfl)) (ao (x:=.v (.int (l.length:Nat))) (ig (ao (x:=.v (ay l c)) (iX rfl (by decide) rfl) rfl) (V1 h8)) rfl)) hr) rfl) (kD (dA (ao (x:=.v (ay l c)) (iX rfl (by decide) rfl) (ao (x:=.v (bX g e)) (ph (ao (x:=.v (aK g)) rfl (ao (x:=.v (.lst (aN e))) rfl rfl)) rfl (Nat.le_of_ble_eq_true rfl)) rfl)) (VN al W hm))))
theorem Bz(al:nc l c)(W:k7 l.length n G F)(hn:n<=200):∃(g:List (List Int)) (e:List Bool) (m:Nat),(∀S,aO [.v (di (ay l c) G F)] S=.ok (.v (di (ay l c) g e)) S)/\k7 l.length m g e/\m<=n/\Am l.length (iM G F (nF n)) g e:=by have h8:=al.l8;obtain⟨g,e,m,_,W',hm,C⟩:=Fo W (by omega) (by omega) [];refine⟨g,e,m,λS=>?_,W',hm,C⟩;obtain⟨g',e',m',r,_,_,C'⟩:=Fo W (by omega) (by omega) S;obtain⟨rfl,rfl⟩:=C'.uniq C;exact Pz al (by rw[W.lg];exact hn) (by rw[W.le];exact hn) r W' (by omega)
theorem PB(al:nc l c)(W:k7 l.length n G F)(hn:n<=200){g:List (List Int)}{e:List Bool}(C:Am l.length (iM G F (nF n)) g e)(S:ag):fN [.v (bX G F),.v (.int (l.length:Nat))] S=.ok (.v (bX g e)) S:=by have h8:=al.l8;obtain⟨g',e',r,C'⟩:=VE W (by omega) (by omega) S;obtain⟨rfl,rfl⟩:=C'.uniq C;exact r
theorem Lc(al:nc l c)(W:k7 l.length n G F){g:List (List Int)}{e:List Bool}{m:Nat}(W':k7 l.length m g e)(hm:m<=200)(C:Am l.length (iM G F (nF n)) g e)(S:ag):aO [.v (di (ay l c) g e)] S=.ok (.v (di (ay l c) g e)) S:=by
 obtain⟨g',e',m',r,_,_,C'⟩:=Bz al W' hm;have eL:iM g e (nF m)=iM G F (nF n):=by have:=C.acw (W6 W);rw[W'.lg]at this;exact this
 rw[eL]at C';obtain⟨rfl,rfl⟩:=C'.uniq C;exact r S
theorem ZF(a:nc l c){t u:Tab}:nE aE (!·) mD (.v (di (ay l c) t.1 t.2)) (.v (di (ay l c) u.1 u.2)) S=.ok (.v (.bl (!decide (t=u)))) S:=by show Ub (!·) (lI _ S)=_;rw[ZC a];rfl
theorem ZG(a:nc l c):nE aE (!·) mD (.v (ay l c)) (.v (ay l c)) S=.ok (.v (.bl false)) S:=by show Ub (!·) (fH _ S)=_;rw[W4 (OD a) (OE a)];rfl
def ltI(s k:Nat):Int:=if k+1<s then 2*(k:Int)+2 else -1
def Cu(w s k:Nat):List Int:=ltI s k::List.replicate (w-1) (ltI s k+if ltI s k > 0 then 1 else 0)
def xu(w s n:Nat):List (List Int):=(List.range n).flatMap λk=>[Cu w s k,Cu w s k]
def Ld(s:Nat):List Bool:=(List.range (2*s)).map λp=>decide (2*s-2<=p)
def V2(w s k:Nat):List Int:=List.replicate w (if k+1<s then(k:Int)+1 else -1)
def qh(w s n:Nat):List (List Int):=(List.range n).map (V2 w s)
def BA(s:Nat):List Bool:=(List.range s).map λk=>decide (k=s-1)
theorem SJ{n:Nat}:xu w s (n+1)=xu w s n++[Cu w s n,Cu w s n]:=by unfold xu;rw[List.range_succ,List.flatMap_append];rfl
theorem acj{n:Nat}:qh w s (n+1)=qh w s n++[V2 w s n]:=by unfold qh;rw[List.range_succ,List.map_append];rfl
theorem zh:∀{n:Nat},(xu w s n).length=2*n|0=>rfl|n+1=>by have ih:=@zh n;rw[SJ,List.length_append,ih];show 2*n+2=_;omega
theorem OI:∀{n k b:Nat},k<n->b<=1->(xu w s n)[2*k+b]?=some (Cu w s k)
 |0,k,b,h,_=>absurd h (Nat.not_lt_zero _)|n+1,k,b,h,hb=>by
  rw[SJ];have hl:=@zh w s n;by_cases q:k<n;·rw[List.getElem?_append_left (by omega)];exact OI q hb
  ·have:k=n:=by omega
   subst this;rw[List.getElem?_append_right (by omega),hl,show 2*k+b-2*k=b by omega]
   match b,hb with
   |0,_=>rfl|1,_=>rfl
theorem SN{k:Nat}(hk:k<s):-1<=ltI s k/\ltI s k+1<2*(s:Int)/\ltI s k+(if ltI s k > 0 then 1 else 0)<2*(s:Int)/\-1<=ltI s k+(if ltI s k > 0 then 1 else 0):=by unfold ltI;split;rw[if_pos (by omega)];omega;·rw[if_neg (by omega)];omega
theorem SO(hw:1<=w){k:Nat}:(Cu w s k).length=w:=by unfold Cu;rw[List.length_cons,List.length_replicate];omega
theorem W7(hw:1<=w):k7 w (2*s) (xu w s s) (Ld s):=by
 have mem:∀r∈xu w s s,∃k,k<s/\r=Cu w s k:=λr hr=>by unfold xu at hr;obtain⟨k,hk,h⟩:=List.mem_flatMap.mp hr;refine⟨k,List.mem_range.mp hk,?_⟩;simp only[List.mem_cons,List.not_mem_nil,or_false,or_self]at h;exact h
 have rng:∀k,k<s->∀x∈Cu w s k,-1<=x/\x<2*(s:Int):=λk hk x hx=>by have b:=SN hk;unfold Cu at hx;rcases List.mem_cons.mp hx with rfl|hx;omega;·rw[List.eq_of_mem_replicate hx];omega
 refine⟨zh,by unfold Ld;simp,λr hr=>?_,λr hr x hx=>?_,λr hr x hx=>?_⟩;obtain⟨k,_,rfl⟩:=mem r hr;exact SO hw;obtain⟨k,hk,rfl⟩:=mem r hr;exact(rng k hk x hx).1;·obtain⟨k,hk,rfl⟩:=mem r hr;have:=(rng k hk x hx).2;omega
theorem ack{k a b:Nat}(hk:k<s)(hb:b<=1)(ha:a<w):gG (xu w s s) ((2*k+b:Nat):Int) a=if k+1<s then((2*(k+1)+(if a=0 then 0 else 1):Nat):Int) else -1:=by
 unfold gG;rw[if_pos (by omega),Int.toNat_natCast,eY (OI hk hb)];unfold Cu;cases a with
 |zero =>show ltI s k=_;unfold ltI;split;rw[if_pos rfl];omega;·rfl|succ a =>show(List.replicate (w-1) (ltI s k+if ltI s k > 0 then 1 else 0)).getD a (-1)=_;rw[eY (a:=ltI s k+if ltI s k > 0 then 1 else 0) (by rw[List.getElem?_replicate,if_pos (by omega)])];unfold ltI;split;rw[if_pos (by omega),if_neg (by omega)];omega;·rw[if_neg (by omega)];rfl
theorem W8{k a:Nat}(hk:k<s)(ha:a<w):gG (qh w s s) (k:Nat) a=if k+1<s then((k+1:Nat):Int) else -1:=by unfold gG;rw[if_pos (by omega),Int.toNat_natCast,eY (a:=V2 w s k) (by unfold qh;rw[List.getElem?_map,List.getElem?_range hk];rfl)];unfold V2;rw[eY (a:=if k+1<s then(k:Int)+1 else -1) (by rw[List.getElem?_replicate,if_pos ha])];split<;>rfl
theorem ZH{k b:Nat}(hk:k<s)(hb:b<=1):tA (Ld s) ((2*k+b:Nat):Int)=decide (k+1=s):=by unfold tA;rw[decide_eq_true (by omega),Bool.true_and,Int.toNat_natCast,eY (a:=decide (2*s-2<=2*k+b)) (by unfold Ld;rw[List.getElem?_map,List.getElem?_range (by omega)];rfl)];exact decide_eq_decide.mpr ⟨λ_=>by omega,λ_=>by omega⟩
theorem SQ{k:Nat}(hk:k<s):tA (BA s) (k:Nat)=decide (k+1=s):=by unfold tA;rw[decide_eq_true (by omega),Bool.true_and,Int.toNat_natCast,eY (a:=decide (k=s-1)) (by unfold BA;rw[List.getElem?_map,List.getElem?_range hk];rfl)];exact decide_eq_decide.mpr ⟨λ_=>by omega,λ_=>by omega⟩
theorem OJ(hw:1<=w):∀(u:List Nat) (k b:Nat),k<s->b<=1->iM (xu w s s) (Ld s) ((2*k+b:Nat):Int) u=(Fu w u&&decide (k+1+u.length=s))
 |[],k,b,hk,hb=>ZH hk hb|a::u,k,b,hk,hb=>by
  have W:=W7 (s:=s) hw;show iM _ _ (gG (xu w s s) ((2*k+b:Nat):Int) a) u=((decide (a<w)&&Fu w u)&&_);by_cases ha:a<w;·rw[ack hk hb ha,decide_eq_true ha,Bool.true_and];by_cases hs:k+1<s;rw[if_pos hs,OJ hw u (k+1) _ hs (by split<;>omega)];congr 1;exact decide_eq_decide.mpr (by rw[List.length_cons];omega);·rw[if_neg hs,iY (by decide),decide_eq_false (by rw[List.length_cons];omega),Bool.and_false]
  ·rw[Cf W (Nat.le_of_not_lt ha),iY (by decide),decide_eq_false ha,Bool.false_and,Bool.false_and]
theorem Jr{n:Nat}:(qh w s n).length=n:=by unfold qh;simp
theorem W9:k7 w s (qh w s s) (BA s):=by
 have mem:∀r∈qh w s s,∃k,k<s/\r=V2 w s k:=λr hr=>by unfold qh at hr;obtain⟨k,hk,h⟩:=List.mem_map.mp hr;exact⟨k,List.mem_range.mp hk,h.symm⟩
 refine⟨Jr,by unfold BA;simp,λr hr=>?_,λr hr x hx=>?_,λr hr x hx=>?_⟩;obtain⟨k,_,rfl⟩:=mem r hr;unfold V2;simp;obtain⟨k,hk,rfl⟩:=mem r hr;rw[List.eq_of_mem_replicate hx];split<;>omega;·obtain⟨k,hk,rfl⟩:=mem r hr;rw[List.eq_of_mem_replicate hx];split<;>omega
theorem BC:∀(u:List Nat) (k:Nat),k<s->iM (qh w s s) (BA s) (k:Nat) u=(Fu w u&&decide (k+1+u.length=s))
 |[],k,hk=>SQ hk|a::u,k,hk=>by
  show iM _ _ (gG (qh w s s) (k:Nat) a) u=((decide (a<w)&&Fu w u)&&_);by_cases ha:a<w;·rw[W8 hk ha,decide_eq_true ha,Bool.true_and];by_cases hs:k+1<s;rw[if_pos hs,BC u (k+1) hs];congr 1;exact decide_eq_decide.mpr (by rw[List.length_cons];omega);·rw[if_neg hs,iY (by decide),decide_eq_false (by rw[List.length_cons];omega),Bool.and_false]
  ·rw[Cf W9 (Nat.le_of_not_lt ha),iY (by decide),decide_eq_false ha,Bool.false_and,Bool.false_and]
def V3(s:Nat)(k _:Nat):Option Nat:=if k+1<s then some (k+1) else none
theorem Xa{k:Nat}:Jc (V3 s) w k=if k+1<s then List.replicate w (k+1) else []:=by
 unfold Jc;by_cases h:k+1<s
 ·rw[if_pos h];have:∀n,(List.range n).filterMap (V3 s k)=List.replicate n (k+1):=λn=>by
   induction n with
   |zero=>rfl|succ n ih =>have e:V3 s k n=some (k+1):=if_pos h;rw[List.range_succ,List.filterMap_append,ih,List.filterMap_cons,e,List.replicate_succ'];rfl
  exact this w
 ·rw[if_neg h];refine List.eq_nil_iff_forall_not_mem.mpr λt ht=>?_;obtain⟨a,_,e⟩:=List.mem_filterMap.mp ht;have e2:V3 s k a=none:=if_neg h;rw[e2]at e;cases e
theorem SU{l:List Nat}{a:Nat}(h:a∈l):∀n,FR l (List.replicate n a)=l|0=>rfl|n+1=>by show FR (Bm l a) (List.replicate n a)=l;rw[Cd h];exact SU h n
theorem SV(hw:1<=w):∀n,n<s->eJ (Jc (V3 s) w) 0 n=List.range (n+1)|0,_=>rfl|n+1,h=>by have ih:=SV hw n (by omega);rw[yq (s:=n) (by rw[ih,List.getElem?_range (by omega)]),ih,Xa,if_pos h];obtain⟨v,rfl⟩:∃v,w=v+1:=⟨w-1,by omega⟩;show FR (Bm (List.range (n+1)) (n+1)) (List.replicate v (n+1))=_;rw[Ce (by rw[List.mem_range];omega),SU (by simp),<-List.range_succ]
theorem ZI(hw:1<=w)(hs:1<=s):yr (V3 s) (λk=>decide (k+1=s)) w 0 (qh w s s) (BA s):=by
 refine⟨List.range s,?_,?_,?_⟩;·obtain⟨t,rfl⟩:∃t,s=t+1:=⟨s-1,by omega⟩;show eJ _ _ _=_;rw[List.length_range];have e:=SV (s:=t+1) hw t (by omega);rw[yq (s:=t) (by rw[e,List.getElem?_range (by omega)]),e,Xa,if_neg (by omega)];rfl
 ·unfold qh;refine List.map_congr_left λk hk=>?_;have hk:=List.mem_range.mp hk;unfold V2 xr;refine List.ext_getElem? λa=>?_;rw[List.getElem?_replicate,List.getElem?_map];by_cases ha:a<w;·rw[if_pos ha,List.getElem?_range ha,Option.map_some];unfold V3;by_cases h:k+1<s;rw[if_pos h,if_pos h];have:DO (List.range s) (k+1)=k+1:=Jb List.nodup_range (by rw[List.getElem?_range h]);show _=some (((DO (List.range s) (k+1):Nat):Int));rw[this];rfl;·rw[if_neg h,if_neg h]
  ·rw[if_neg ha,List.getElem?_eq_none (by rw[List.length_range];omega)];rfl
 ·unfold BA;exact List.map_congr_left λk hk=>decide_eq_decide.mpr ⟨λ_=>by have:=List.mem_range.mp hk;omega,λ_=>by omega⟩
theorem Mv(hw:1<=w):∀n,Fu w (List.replicate n 0)=true|0=>rfl|n+1=>by show(decide (0<w)&&Fu w (List.replicate n 0))=true;rw[Mv hw n,decide_eq_true (by omega)];rfl
theorem ZJ(hw:1<=w)(hs:1<=s):Am w (iM (qh w s s) (BA s) 0) (qh w s s) (BA s):=by
 have live:∀k:Nat,k<s->¬Y7 (iM (qh w s s) (BA s) (k:Nat)):=λk hk h=>by have:=h (List.replicate (s-(k+1)) 0);rw[BC _ k hk,Mv hw,List.length_replicate,decide_eq_true (by omega)]at this;cases this
 refine .inr ⟨live 0 (by omega),?_⟩;refine yr.map (λk=>k<s) (λk:Nat=>iM (qh w s s) (BA s) (k:Nat)) (show 0<s by omega) (λk _ a _ t ht=>?_) (λa b ha hb h=>?_) (λk hk a ha=>?_) (λk hk=>?_) (ZI hw hs);·unfold V3 at ht;split at ht;cases ht;assumption;·cases ht
 have h1:iM (qh w s s) (BA s) (a:Nat) (List.replicate (s-(a+1)) 0)=iM (qh w s s) (BA s) (b:Nat) (List.replicate (s-(a+1)) 0):=congrFun h _;rw[BC _ a ha,BC _ b hb,Mv hw,List.length_replicate,decide_eq_true (by omega),Bool.true_and,Bool.true_and]at h1;have:=of_decide_eq_true h1.symm;omega;·show wA (iM (qh w s s) (BA s) (k:Nat)) a=_;unfold wA;rw[NS,W8 hk ha];unfold V3;by_cases h:k+1<s;rw[if_pos h,if_pos h,if_neg (live _ h)];rfl;·rw[if_neg h,if_neg h,if_pos (wB (by decide))];rfl
 ·exact SQ hk
theorem V4(hw:1<=w)(hs:1<=s):iM (xu w s s) (Ld s) (nF (2*s))=iM (qh w s s) (BA s) 0:=by rw[show nF (2*s)=((2*0+0:Nat):Int) from if_neg (by omega)];funext u;rw[OJ hw u 0 0 (by omega) (by omega)];exact(BC u 0 (by omega)).symm
end
theorem ZK{i:Int}{n:Nat}:gR i (n+1)=.int i::gR (i+1) n:=by
 unfold gR;rw[List.range_succ_eq_map,List.map_cons,List.map_map];congr 1;·congr 1;omega
 ·refine List.map_congr_left λk _=>?_;show D.int (i+((k+1:Nat):Int))=D.int (i+1+(k:Int));congr 1;omega
theorem Mw{d:D}{n:Int}{S:ag}(h0:0<=n)(h1:n<=1000):hA (.v (.lst [d])) (.v (.int n)) S=some (.v (.lst (List.replicate n.toNat d))):=by have e:(List.replicate n.toNat [d]).flatten=List.replicate n.toNat d:=List.flatten_replicate_singleton;show(if n<=1000000/\-1000000<=n/\[d].length*n.toNat<=cE then some (A.v (.lst (List.replicate n.toNat [d]).flatten)) else none)=_;rw[if_pos (by simp only[List.length_singleton];unfold cE;omega),e]
section
variable {l:List Nat}{s k n:Nat}{z j:Int}{S:ag}{o6:Option A}
abbrev chB:SM:=aG (bB 6 (xG (tE (aA CF (aA cY (eV 5) (eC (.int 1))) (eV 2))) (aA cY (aA hA (eC (.int 2)) (eV 5)) (eC (.int 2))) (xt jl (eC (.int 1))))) (aG (bB 3 (aA cY (eV 3) (aA hA (cn (aa (aA cY (cn (aa (eV 6) ah)) (aA hA (cn (aa (aA cY (eV 6) (au pJ (aa (aA JN (eV 6) (eC (.int 0))) ah))) ah)) (aA gSub (cF (b7 az) (aa (eV 1) ah)) (eC (.int 1))))) ah)) (eC (.int 2))))) (ju (mR "list" cI (eV 4) (aa (au rS (aa (aA hA (cn (aa (xG (tE (aA CF (aA cY (eV 5) (eC (.int 1))) (eV 2))) (aA cY (eV 5) (eC (.int 1))) (xt jl (eC (.int 1)))) ah)) (cF (b7 az) (aa (eV 1) ah))) ah)) ah))))
abbrev Dc(n:Nat)(l:List Nat)(z:Int)(o3 o4 o5 o6 o7:Option A):Env:=[some (.m n),some (.v (.str (sL l))),some (.v (.int z)),o3,o4,o5,o6,o7]
theorem ZL(hl1:1<=l.length)(hl8:l.length<=8)(hz:z=s)(hj:j=k)(hk:k<s)(hs:s<=100) :chB (Dc n l z (some (.v (aK (xu l.length s k)))) (some (.m S.length)) (some (.v (.int j))) o6 none) (S++[.lst ((qh l.length s k).map cB)])=.nx (Dc n l z (some (.v (aK (xu l.length s (k+1))))) (some (.m S.length)) (some (.v (.int j))) (some (.v (.int (ltI s k)))) none) (S++[.lst ((qh l.length s (k+1)).map cB)]):=by
 obtain⟨w,hw⟩:∃w:Int,w=l.length:=⟨_,rfl⟩;have gl:∀Z,b7 az [.v (.str (sL l))] Z=.ok (.v (.int w)) Z:=λZ=>by rw[hw];exact SH (by omega)
 have t1:∀(o3 o4 o6 o7:Option A) (Z:ag),tE (aA CF (aA cY (eV 5) (eC (.int 1))) (eV 2)) (Dc n l z o3 o4 (some (.v (.int j))) o6 o7) Z=.ok (decide (j+1<z)) Z:=λo3 o4 o6 o7 Z=>gh (aD (x:=.v (.int (j+1))) (aD rfl rfl rfl) rfl rfl);have lb:=SN hk;have s6:∀(o3 o4 o6 o7:Option A) (Z:ag),bB 6 (xG (tE (aA CF (aA cY (eV 5) (eC (.int 1))) (eV 2))) (aA cY (aA hA (eC (.int 2)) (eV 5)) (eC (.int 2))) (xt jl (eC (.int 1)))) (Dc n l z o3 o4 (some (.v (.int j))) o6 o7) Z=.nx (Dc n l z o3 o4 (some (.v (.int j))) (some (.v (.int (ltI s k)))) o7) Z:=λo3 o4 o6 o7 Z=>by refine lJ ?_;unfold ltI;by_cases q:k+1<s;rw[if_pos q];refine Bl (S1:=Z) ((t1 o3 o4 o6 o7 Z).trans (by rw[decide_eq_true (by omega)])) ?_;refine(aD (x:=.v (.int (2*j))) (y:=.v (.int 2)) (aD rfl rfl (wm (by omega))) rfl rfl).trans ?_;rw[hj];·rw[if_neg q];exact yn (S1:=Z) ((t1 o3 o4 o6 o7 Z).trans (by rw[decide_eq_false (by omega)])) rfl
 have e3:∀(o4 o7:Option A) (Z:ag),aA cY (eV 3) (aA hA (cn (aa (aA cY (cn (aa (eV 6) ah)) (aA hA (cn (aa (aA cY (eV 6) (au pJ (aa (aA JN (eV 6) (eC (.int 0))) ah))) ah)) (aA gSub (cF (b7 az) (aa (eV 1) ah)) (eC (.int 1))))) ah)) (eC (.int 2))) (Dc n l z (some (.v (aK (xu l.length s k)))) o4 (some (.v (.int j))) (some (.v (.int (ltI s k)))) o7) Z=.ok (.v (aK (xu l.length s (k+1)))) Z:=λo4 o7 Z=>by
  have ei:aA cY (eV 6) (au pJ (aa (aA JN (eV 6) (eC (.int 0))) ah)) (Dc n l z (some (.v (aK (xu l.length s k)))) o4 (some (.v (.int j))) (some (.v (.int (ltI s k)))) o7) Z=.ok (.v (.int (ltI s k+if ltI s k > 0 then 1 else 0))) Z:=by refine aD (x:=.v (.int (ltI s k))) (y:=.v (.int (if ltI s k > 0 then 1 else 0))) rfl (aW (ao (aD rfl rfl NJ) rfl) ?_) rfl;by_cases q:ltI s k > 0;rw[if_pos q,decide_eq_true (by omega)];rfl;·rw[if_neg q,decide_eq_false (by omega)];rfl
  have er:aA cY (cn (aa (eV 6) ah)) (aA hA (cn (aa (aA cY (eV 6) (au pJ (aa (aA JN (eV 6) (eC (.int 0))) ah))) ah)) (aA gSub (cF (b7 az) (aa (eV 1) ah)) (eC (.int 1)))) (Dc n l z (some (.v (aK (xu l.length s k)))) o4 (some (.v (.int j))) (some (.v (.int (ltI s k)))) o7) Z=.ok (.v (aQ (Cu l.length s k))) Z:=by have em:=Mw (d:=.int (ltI s k+if ltI s k > 0 then 1 else 0)) (n:=w-1) (S:=Z) (by omega) (by omega);rw[show(w-1).toNat=l.length-1 by omega]at em;refine aD (x:=.v (.lst [.int (ltI s k)])) (m8 (ao rfl rfl) rfl (Nat.le_of_ble_eq_true rfl)) (aD (m8 (ao ei rfl) rfl (Nat.le_of_ble_eq_true rfl)) (y:=.v (.int (w-1))) (aD (ig (ao rfl rfl) (gl _)) rfl rfl) em) ?_;rw[Iw (by rw[List.length_replicate,List.length_singleton];omega)];unfold Cu aQ;rw[List.map_cons,List.map_replicate];rfl
  refine aD (x:=.v (aK (xu l.length s k))) rfl (aD (y:=.v (.int 2)) (m8 (ao er rfl) rfl (Nat.le_of_ble_eq_true rfl)) rfl (Mw (by decide) (by decide))) ?_;have hl:=@zh l.length s k;unfold aK;rw[Iw (by rw[List.length_map,hl,List.length_replicate];show 2*k+2<=_;omega),SJ,List.map_append];rfl
 have e4:∀(o3 o7:Option A) (Z:ag),au rS (aa (aA hA (cn (aa (xG (tE (aA CF (aA cY (eV 5) (eC (.int 1))) (eV 2))) (aA cY (eV 5) (eC (.int 1))) (xt jl (eC (.int 1)))) ah)) (cF (b7 az) (aa (eV 1) ah))) ah) (Dc n l z o3 (some (.m S.length)) (some (.v (.int j))) (some (.v (.int (ltI s k)))) o7) Z=.ok (.v (cB (V2 l.length s k))) Z:=λo3 o7 Z=>by
  have ei:xG (tE (aA CF (aA cY (eV 5) (eC (.int 1))) (eV 2))) (aA cY (eV 5) (eC (.int 1))) (xt jl (eC (.int 1))) (Dc n l z o3 (some (.m S.length)) (some (.v (.int j))) (some (.v (.int (ltI s k)))) o7) Z=.ok (.v (.int (if k+1<s then(k:Int)+1 else -1))) Z:=by by_cases q:k+1<s;rw[if_pos q];refine Bl (S1:=Z) ((t1 _ _ _ _ Z).trans (by rw[decide_eq_true (by omega)])) ?_;refine(aD (x:=.v (.int j)) (y:=.v (.int 1)) rfl rfl rfl).trans ?_;rw[hj];·rw[if_neg q];exact yn (S1:=Z) ((t1 _ _ _ _ Z).trans (by rw[decide_eq_false (by omega)])) rfl
  have em:=Mw (d:=.int (if k+1<s then(k:Int)+1 else -1)) (n:=w) (S:=Z) (by omega) (by omega);rw[show w.toNat=l.length by omega]at em;refine aW (ao (aD (m8 (ao ei rfl) rfl (Nat.le_of_ble_eq_true rfl)) (y:=.v (.int w)) (ig (ao rfl rfl) (gl _)) em) rfl) ?_;rw[IS];unfold cB V2;rw[List.map_replicate]
 have at1:(S++[MO.lst ((qh l.length s k).map cB)])[S.length]?=some (.lst ((qh l.length s k).map cB)):=by rw[List.getElem?_append_right (by simp)];simp
 have st1:∀y:List D,(S++[MO.lst ((qh l.length s k).map cB)]).set S.length (.lst y)=S++[.lst y]:=λy=>by rw[List.set_append_right _ _ (by simp)];simp
 refine bz (s6 _ _ _ _ _) (bz (lJ (e3 _ _ _)) (pU (x:=.v .non) ?_));refine ug (x:=.m S.length) rfl (WI at1) (ao (e4 _ _ _) rfl) ((GV at1 (by rw[List.length_map,Jr];omega)).trans ?_);rw[st1,acj,List.map_append];rfl
theorem SW(hl1:1<=l.length)(hl8:l.length<=8)(hz:z=s)(hs:s<=100):∀(m k:Nat) (o5 o6:Option A),k+m=s->∃p5 p6,forL (.nm 5) chB (gR (k:Nat) m) (Dc n l z (some (.v (aK (xu l.length s k)))) (some (.m S.length)) o5 o6 none) (S++[.lst ((qh l.length s k).map cB)])=.nx (Dc n l z (some (.v (aK (xu l.length s s)))) (some (.m S.length)) (dv p5) (dv p6) none) (S++[.lst ((qh l.length s s).map cB)])\/m=0
 |0,k,o5,o6,h=>⟨none,none,.inr rfl⟩|m+1,k,o5,o6,h=>by
  obtain⟨j,hj⟩:∃j:Int,j=k:=⟨_,rfl⟩;have st:=ZL (n:=n) (S:=S) (o6:=o6) hl1 hl8 hz hj (show k<s by omega) hs;rw[ZK,<-hj,show j+1=((k+1:Nat):Int) by omega];by_cases hm:m=0
  ·subst hm;have:k+1=s:=by omega
   rw[this]at st;exact⟨some (.int j),some (.int (ltI s k)),.inl ((DL (ρ1:=Dc n l z (some (.v (aK (xu l.length s k)))) (some (.m S.length)) (some (.v (.int j))) o6 none) rfl st).trans rfl)⟩
  ·obtain⟨p5,p6,e|e⟩:=SW hl1 hl8 hz hs m (k+1) (some (.v (.int j))) (some (.v (.int (ltI s k)))) (by omega);exact⟨p5,p6,.inl ((DL (ρ1:=Dc n l z (some (.v (aK (xu l.length s k)))) (some (.m S.length)) (some (.v (.int j))) o6 none) rfl st).trans e)⟩;·exact absurd e hm
theorem Hg:∀(f:Nat->Bool) (n:Nat),(∀i,i<n->f i=false)->(List.range n).filter f=[]:=λf n h=>List.filter_eq_nil_iff.mpr λi hi=>by rw[h i (List.mem_range.mp hi)];decide
theorem Le(hs:1<=s)(hz:z=s):c9 (BA s)=.lst [.int (z-1)]:=by
 have e:eP (BA s)=[s-1]:=by
  unfold eP;have hl:(BA s).length=s:=by unfold BA;simp
  have hg:∀i,i<s->(BA s)[i]?.getD false=decide (i=s-1):=λi hi=>by unfold BA;rw[List.getElem?_map,List.getElem?_range hi];rfl
  obtain⟨t,rfl⟩:∃t,s=t+1:=⟨s-1,by omega⟩;rw[hl,List.range_succ,List.filter_append,Hg _ t λi hi=>by rw[hg i (by omega)];exact decide_eq_false (by omega),List.nil_append];rw[List.filter_cons_of_pos (by rw[hg t (by omega)];exact decide_eq_true (by omega))];rfl
 unfold c9;rw[e];show D.lst [.int ((s-1:Nat):Int)]=_;rw[show((s-1:Nat):Int)=z-1 by omega]
theorem SY(hs:1<=s)(hz:z=s):c9 (Ld s)=.lst [.int (2*z-2),.int (2*z-1)]:=by
 have e:eP (Ld s)=[2*s-2,2*s-1]:=by
  unfold eP;have hl:(Ld s).length=2*s:=by unfold Ld;simp
  have hg:∀i,i<2*s->(Ld s)[i]?.getD false=decide (2*s-2<=i):=λi hi=>by unfold Ld;rw[List.getElem?_map,List.getElem?_range hi];rfl
  obtain⟨t,rfl⟩:∃t,s=t+1:=⟨s-1,by omega⟩;rw[hl,show 2*(t+1)=2*t+1+1 by omega,List.range_succ,List.range_succ,List.filter_append,List.filter_append,Hg _ (2*t) λi hi=>by rw[hg i (by omega)];exact decide_eq_false (by omega),List.nil_append];rw[List.filter_cons_of_pos (by rw[hg (2*t) (by omega)];exact decide_eq_true (by omega)),List.filter_cons_of_pos (by rw[hg (2*t+1) (by omega)];exact decide_eq_true (by omega))];rfl
 unfold c9;rw[e];show D.lst [.int ((2*s-2:Nat):Int),.int ((2*s-1:Nat):Int)]=_;rw[show((2*s-2:Nat):Int)=2*z-2 by omega,show((2*s-1:Nat):Int)=2*z-1 by omega]
end
section
variable {l:List Nat}{S:ag}{n:Nat}{h:Hand}
def Cv:List (List Nat):=[[97,98],[98],[120,121,122]]
theorem S6{l:List Nat}(hl:l∈Cv):nc l (l.map λ_=>49)/\∀Z,bE [.v (.str (sL l))] Z=.ok (.v (ay l (l.map λ_=>49))) Z:=by simp only[Cv,List.mem_cons,List.not_mem_nil,or_false]at hl;rcases hl with rfl|rfl|rfl;have al:nc [97,98] [49,49]:=⟨by decide +kernel,by decide,by decide,by decide,by decide,by decide +kernel⟩;exact⟨al,λZ=>Bw al⟩;have al:nc [98] [49]:=⟨by decide +kernel,by decide,by decide,by decide,by decide,by decide +kernel⟩;exact⟨al,λZ=>Bw al⟩;·have al:nc [120,121,122] [49,49,49]:=⟨by decide +kernel,by decide,by decide,by decide,by decide,by decide +kernel⟩;exact⟨al,λZ=>Bw al⟩
theorem Ta(ho:h.ok)(hs:S[n]?=some h.mo):∃h':Hand,gE [.m n] S=.ok (.v (.bl true)) (S.set n (Hand.mo h'))/\h'.ok:=by
 have hn:n<S.length:=(List.getElem?_eq_some_iff.mp hs).1;have gs:∀(b:MO),(S.set n b)[n]?=some b:=λb=>by simp[hn]
 obtain⟨d,h1,e1,hd,o1⟩:=Me (xs:=Cv.map λl=>D.str (sL l)) ho hs (by simp[Cv]) (by simp[Cv]);obtain⟨l,hl,rfl⟩:=List.mem_map.mp hd;obtain⟨al,hpl⟩:=S6 hl;have h8:=al.l8;have hl1:=al.l1;obtain⟨r,h2,e2,r0,r1,o2⟩:=zb (S:=S.set n h1.mo) (n:=n) (k:=92) o1 (gs _) (by decide) (by decide);rw[set_set]at e2;obtain⟨s,hsz⟩:∃s:Nat,(s:Int)=9+r:=⟨(9+r).toNat,by omega⟩;obtain⟨z,hz⟩:∃z:Int,z=s:=⟨_,rfl⟩;have hs1:1<=s:=by omega
 have hs2:s<=100:=by omega
 have W:=W7 (w:=l.length) (s:=s) hl1;have T:TabOk l.length (xu l.length s s) (Ld s):=k7.tab W (by omega) h8;obtain⟨g,e,m,hle,W',hm,C⟩:=Bz al W (by omega);rw[V4 hl1 hs1]at C;obtain⟨rfl,rfl⟩:=C.uniq (ZJ (w:=l.length) hl1 hs1);refine⟨h2,?_,o2⟩;have lnames:Cv.map (λl=>D.str (sL l))=[.str "ab",.str "b",.str "xyz"]:=by rw[W3,ab6,Sr];rfl
 rw[lnames]at e1
 -- the loop
 obtain⟨p5,p6,el⟩:∃p5 p6,forL (.nm 5) chB (gR (0:Nat) s) (Dc n l z (some (.v (aK (xu l.length s 0)))) (some (.m (S.set n h2.mo).length)) none none none) (S.set n h2.mo++[.lst ((qh l.length s 0).map cB)])=.nx (Dc n l z (some (.v (aK (xu l.length s s)))) (some (.m (S.set n h2.mo).length)) (dv p5) (dv p6) none) (S.set n h2.mo++[.lst ((qh l.length s s).map cB)]):=by obtain⟨p5,p6,q|q⟩:=SW (l:=l) (n:=n) (z:=z) (S:=S.set n h2.mo) hl1 h8 hz hs2 s 0 none none (by omega);exact⟨p5,p6,q⟩;·omega
 have sc:Ey (aG (xI 3 4 (aa (cn ah) (aa (mC ah) ah))) (mQ (bG (aa (eV 2) ah)) (.nm 5) chB)) (Dc n l z none none none none none) (S.set n h2.mo)=.nx (Dc n l z (some (.v (aK (xu l.length s s)))) (some (.v (.lst ((qh l.length s s).map cB)))) (dv p5) (dv p6) none) (S.set n h2.mo):=by
  have e0:aG (xI 3 4 (aa (cn ah) (aa (mC ah) ah))) (mQ (bG (aa (eV 2) ah)) (.nm 5) chB) (Dc n l z none none none none none) (S.set n h2.mo)=.nx (Dc n l z (some (.v (aK (xu l.length s s)))) (some (.m (S.set n h2.mo).length)) (dv p5) (dv p6) none) (S.set n h2.mo++[.lst ((qh l.length s s).map cB)]):=by refine bz (ρ1:=Dc n l z (some (.v (aK (xu l.length s 0)))) (some (.m (S.set n h2.mo).length)) none none none) (S1:=S.set n h2.mo++[.lst ((qh l.length s 0).map cB)]) (DM (ao (x:=.v (aK [])) rfl (ao (x:=.m (S.set n h2.mo).length) rfl rfl))) ((IZ (ds:=gR (0:Nat) s) (S1:=S.set n h2.mo++[.lst ((qh l.length s 0).map cB)]) ?_).trans el);have:=sd (ma:=eV 2) (n:=z) (ρ:=Dc n l z (some (.v (aK (xu l.length s 0)))) (some (.m (S.set n h2.mo).length)) none none none) (S:=S.set n h2.mo++[.lst ((qh l.length s 0).map cB)]) (S1:=S.set n h2.mo++[.lst ((qh l.length s 0).map cB)]) rfl (by omega) (by omega);rw[show z.toNat=s by omega]at this;exact this
  rw[Y5 e0];have at1:(S.set n h2.mo++[MO.lst ((qh l.length s s).map cB)])[(S.set n h2.mo).length]?=some (.lst ((qh l.length s s).map cB)):=by rw[List.getElem?_append_right (Nat.le_refl _),Nat.sub_self];rfl
  have tk:(S.set n h2.mo++[MO.lst ((qh l.length s s).map cB)]).take (S.set n h2.mo).length=S.set n h2.mo:=by rw[List.take_append_of_le_length (Nat.le_refl _),List.take_length]
  rw[tk];have fr:∀o:Option D,fA (S.set n h2.mo).length (S.set n h2.mo++[MO.lst ((qh l.length s s).map cB)]) (dv o)=dv o:=λo=>by cases o<;>rfl
  simp only[Dc,List.map_cons,List.map_nil,A4,Ru,w6 (show n<(S.set n h2.mo).length by rw[List.length_set];exact hn),CS (Nat.le_refl _) at1,fr]
 have mk:l4 1 aV (aa (xJ 1 0 [0] bE (aa (eV 1) ah) ah) (aa (eV 3) (aa (cn (aa (aA gSub (aA hA (eC (.int 2)) (eV 2)) (eC (.int 2))) (aa (aA gSub (aA hA (eC (.int 2)) (eV 2)) (eC (.int 1))) ah))) ah))) (Dc n l z (some (.v (aK (xu l.length s s)))) (some (.v (.lst ((qh l.length s s).map cB)))) (dv p5) (dv p6) none) (S.set n h2.mo)=.ok (.v (di (ay l (l.map λ_=>49)) (xu l.length s s) (Ld s))) (S.set n h2.mo):=by have g2:aA hA (eC (.int 2)) (eV 2) (Dc n l z (some (.v (aK (xu l.length s s)))) (some (.v (.lst ((qh l.length s s).map cB)))) (dv p5) (dv p6) none) (S.set n h2.mo)=.ok (.v (.int (2*z))) (S.set n h2.mo):=aD rfl rfl (wm (by omega));refine yo (ao (x:=.v (ay l (l.map λ_=>49))) (S1:=S.set n h2.mo) (hpl _) (ao (x:=.v (dQ (xu l.length s s))) rfl (ao (x:=.v (c9 (Ld s))) ?_ rfl))) (By al T);rw[SY hs1 hz];exact m8 (ao (aD g2 rfl rfl) (ao (aD g2 rfl rfl) rfl)) rfl (Nat.le_of_ble_eq_true rfl)
 have run:m5 [some (.m n),none,none,none,none,none,none,none] S=.rt (.v (.bl true)) (S.set n h2.mo):=by
  refine bz (ρ1:=Dc n l z none none none none none) (S1:=S.set n h2.mo) (DM (ao (x:=.v (.str (sL l))) (S1:=S.set n h1.mo) (dA (ao rfl (ao rfl rfl)) e1) (ao (x:=.v (.int z)) (S1:=S.set n h2.mo) (aD (x:=.v (.int 9)) rfl (dA (ao rfl (ao rfl rfl)) e2) (by rw[hz,hsz];rfl)) rfl))) ?_;refine bz sc (bz (lJ mk) (kD (GZ (T:=.lst [.lst ((qh l.length s s).map cB),c9 (BA s),.int (2*z)]) (m8 (ao (x:=.v (.lst ((qh l.length s s).map cB))) (ik (k:=1) (fs:=[("own_alphabet",ay l (l.map λ_=>49)),("own_goals",.lst ((qh l.length s s).map cB)),("own_ends",cR (BA s))]) (S1:=S.set n h2.mo) (ik (k:=1) (fs:=[("own_alphabet",ay l (l.map λ_=>49)),("own_goals",.lst ((xu l.length s s).map cB)),("own_ends",cR (Ld s))]) rfl rfl rfl (hle _)) rfl rfl Fx) (ao (x:=.v (c9 (BA s))) (ik (k:=1) (fs:=[("own_alphabet",ay l (l.map λ_=>49)),("own_goals",.lst ((qh l.length s s).map cB)),("own_ends",cR (BA s))]) (S1:=S.set n h2.mo) (ik (k:=1) (fs:=[("own_alphabet",ay l (l.map λ_=>49)),("own_goals",.lst ((xu l.length s s).map cB)),("own_ends",cR (Ld s))]) rfl rfl rfl (hle _)) rfl rfl (Hf (by unfold BA;simp;omega))) (ao (x:=.v (.int (2*z))) (ig (ao rfl rfl) ((DW (by rw[zh];omega)).trans (by rw[zh,hz];rfl))) rfl))) rfl (Nat.le_of_ble_eq_true rfl)) (m8 (ao (x:=.v (.lst ((qh l.length s s).map cB))) rfl (ao (x:=.v (c9 (BA s))) ?_ (ao (x:=.v (.int (2*z))) (aD rfl rfl (wm (by omega))) rfl))) rfl (Nat.le_of_ble_eq_true rfl)) ?_)));·rw[Le hs1 hz];exact m8 (ao (aD rfl rfl rfl) rfl) rfl (Nat.le_of_ble_eq_true rfl)
  ·have p1:fR 7 (.lst ((qh l.length s s).map cB))=true:=by show(decide (((qh l.length s s).map cB).length<=1000000)&&((qh l.length s s).map cB).all (fR 6))=true;rw[decide_eq_true (by rw[List.length_map,Jr];omega),Bool.true_and];refine List.all_eq_true.mpr λd hd=>?_;obtain⟨r,hr',rfl⟩:=List.mem_map.mp hd;exact(Ct (k:=4) r (by rw[W9.lr r hr'];omega)).1
   have p2:fR 7 (c9 (BA s))=true:=(by rw[Le hs1 hz];rfl);show(true&&(fR 7 (.lst ((qh l.length s s).map cB))&&(fR 7 (c9 (BA s))&&(true&&true))))=true;rw[p1,p2];rfl
 have r1:jD [.m n] S=.ok (.v (.bl true)) (S.set n h2.mo):=by unfold jD;rw[fY,if_pos (by rfl)];show(m5 [some (.m n),none,none,none,none,none,none,none] S).Lj=_;rw[run];rfl
 unfold gE;rw[WJ,r1,GW,List.take_of_length_le (by rw[List.length_set];exact Nat.le_refl _)]
end
section
variable {l c:List Nat}{sc:D}{S:ag}{Pt:Addr}{o2 o3 o4 o5 o6 o7 o8 o9 o10 o11 o12:Option D}{G g:List (List Int)}{F e:List Bool}{n m:Nat}
abbrev mE(sc:D)(o2 o3 o4 o5 o6 o7 o8 o9 o10 o11 o12:Option D):Env:=[some (.v sc),some (.m 1),dv o2,dv o3,dv o4,dv o5,dv o6,dv o7,dv o8,dv o9,dv o10,dv o11,dv o12,none]
structure Lst (l c:List Nat) (G:List (List Int)) (F:List Bool) (g:List (List Int)) (e:List Bool):Prop where
 al:nc l c
 l3:l.length<=3
 t:TabOk l.length G F
 n7:G.length<=7
 t2:TabOk l.length g e
 m7:g.length<=7
 can:Am l.length (iM G F (nF G.length)) g e
 run:∀S,aO [.v (di (ay l c) G F)] S=.ok (.v (di (ay l c) g e)) S
theorem Lst.same(K:Lst l c G F g e)(u:List Nat):vo g e l u=vo G F l u:=by have h1:=Lb (l:=l) (T:=(g,e)) u;have h2:=Lb (l:=l) (T:=(G,F)) u;have e1:iM g e (nF g.length)=iM G F (nF G.length):=K.can.acw (W6 K.t.wf);refine h1.trans (Eq.trans ?_ h2.symm);show iM g e (iZ g) (ixs l u)=iM G F (iZ G) (ixs l u);unfold iZ;unfold nF at e1;rw[e1]
theorem V5(K:Lst l c G F g e){u:List Nat}(hu:∀x∈u,x∈l)(hl:u.length<=1000){h:Hand}:OH Pt (mE sc o2 (some (.str (sL l))) o4 o5 (some (bX G F)) o7 (some (di (ay l c) g e)) o9 o10 (some (.str (sL u))) o12) (wH Pt h)=.nx (mE sc o2 (some (.str (sL l))) o4 o5 (some (bX G F)) o7 (some (di (ay l c) g e)) o9 o10 (some (.str (sL u))) o12) (wH Pt h):=by have ea:=Ms (S:=wH Pt h) K.al K.t2 hu hl;have ew:=Sy (S:=wH Pt h) K.t hu hl;unfold OH;refine C2 (gh (wF (x:=.v (.bl (vo g e l u))) (y:=.v (.bl (vo G F l u))) (ik (k:=1) (fs:=[("own_alphabet",ay l c),("own_goals",.lst (g.map cB)),("own_ends",cR e)]) rfl rfl (ao rfl rfl) ea) (dA (ao rfl (ao rfl (ao rfl rfl))) ew) ?_)) rfl;show R.xm (mD (.v (.bl (vo g e l u))) (.v (.bl (vo G F l u))) (wH Pt h)) (wH Pt h)=_;rw[ZE (K.same u)];rfl
theorem Hh(K:Lst l c G F g e){h:Hand}:∀(us:List (List Nat)) (o11:Option D),(∀u∈us,(∀x∈u,x∈l)/\u.length<=1000)->∃p11,forL (.nm 11) (OH Pt) (us.map λu=>D.str (sL u)) (mE sc o2 (some (.str (sL l))) o4 o5 (some (bX G F)) o7 (some (di (ay l c) g e)) o9 o10 o11 o12) (wH Pt h)=.nx (mE sc o2 (some (.str (sL l))) o4 o5 (some (bX G F)) o7 (some (di (ay l c) g e)) o9 o10 p11 o12) (wH Pt h)|[],o11,_=>⟨o11,rfl⟩|u::us,o11,hu=>by obtain⟨p11,e1⟩:=Hh K us (some (.str (sL u))) λv hv=>hu v (.tail _ hv);refine⟨p11,?_⟩;rw[List.map_cons];exact(DL (ρ1:=mE sc o2 (some (.str (sL l))) o4 o5 (some (bX G F)) o7 (some (di (ay l c) g e)) o9 o10 (some (.str (sL u))) o12) rfl (V5 K (hu u (.head _)).1 (hu u (.head _)).2)).trans e1
theorem V6{h:Hand}(ho:h.ok):∃p3 p4 p5 p6 p7 p8 p9 p10 p11 h',V0 Pt (mE sc o2 o3 o4 o5 o6 o7 o8 o9 o10 o11 o12) (wH Pt h)=.nx (mE sc o2 p3 p4 p5 p6 p7 p8 p9 p10 p11 o12) (wH Pt h')/\h'.ok:=by
 obtain⟨l,c,h1,e1,o1,sm⟩:=Su (n:=1) (S:=wH Pt h) ho rfl;have al:=sm.al;have h8:=al.l8;have l3:=sm.l3;obtain⟨w,hw⟩:∃w:Int,w=l.length:=⟨_,rfl⟩;have gl:∀Z,b7 az [.v (.str (sL l))] Z=.ok (.v (.int w)) Z:=λZ=>by rw[hw];exact SH (by omega)
 obtain⟨G,F,h2,e2,o2',T,hk⟩:=Sv (n:=1) (S:=wH Pt h1) (w:=w) (k:=7) o1 rfl (by omega) (by omega) (by decide) (by decide);rw[show w.toNat=l.length by omega]at T;have W:=T.wf;obtain⟨g,e,m,hle,W',hm,C⟩:=Bz (c:=c) al W (by omega);have T2:TabOk l.length g e:=W'.tab (by omega) h8;have hg:=W'.lg;have he:=W'.le;have hG:=T.len;have K:Lst l c G F g e:=⟨al,l3,T,by omega,T2,by omega,C,hle⟩;have e3:∀Z,fN [.v (bX G F),.v (.int w)] Z=.ok (.v (bX g e)) Z:=λZ=>by rw[hw];exact PB (c:=c) al W (by omega) C Z
 have again:∀Z,aO [.v (di (ay l c) g e)] Z=.ok (.v (di (ay l c) g e)) Z:=Lc al W W' (by omega) C;obtain⟨r,h3,e4,r0,r1,o3'⟩:=zb (S:=wH Pt h2) (n:=1) (k:=6) o2' rfl (by decide) (by decide);obtain⟨p11,ew⟩:=Hh (sc:=sc) (Pt:=Pt) (o2:=o2) (o4:=some (.str (sL c))) (o5:=some (ay l c)) (o7:=some (di (ay l c) G F)) (o9:=some (bX g e)) (o10:=some (.lst (g.map cB))) (o12:=o12) K (h:=h3) (fS l r.toNat) o11 λu hu=>by obtain⟨u1,u2⟩:=Cs hu;exact⟨u2,by omega⟩
 refine⟨some (.str (sL l)),some (.str (sL c)),some (ay l c),some (bX G F),some (di (ay l c) G F),some (di (ay l c) g e),some (bX g e),some (.lst (g.map cB)),p11,h3,?_,o3'⟩;unfold V0;refine bz (ρ1:=mE sc o2 (some (.str (sL l))) (some (.str (sL c))) o5 o6 o7 o8 o9 o10 o11 o12) (S1:=wH Pt h1) (OC (dA (ao rfl rfl) e1) rfl) ?_;unfold acg;refine bz (ρ1:=mE sc o2 (some (.str (sL l))) (some (.str (sL c))) (some (ay l c)) (some (bX G F)) o7 o8 o9 o10 o11 o12) (S1:=wH Pt h2) (DM (ao (SE al rfl rfl) (ao (x:=.v (bX G F)) (S1:=wH Pt h2) (dA (ao rfl (ao (ig (ao rfl rfl) (gl _)) (ao rfl rfl))) e2) rfl))) ?_;unfold acf;refine bz (lJ (x:=.v (di (ay l c) G F)) (S1:=wH Pt h2) (yo (ao rfl (ao (x:=.v (dQ G)) (S1:=wH Pt h2) (aD (x:=.v (bX G F)) rfl rfl rfl) (ao (x:=.v (c9 F)) (S1:=wH Pt h2) (dA (ao (x:=.v (bX G F)) rfl rfl) (SA (by omega))) rfl))) (By al T))) ?_;unfold ace;refine bz (ρ1:=mE sc o2 (some (.str (sL l))) (some (.str (sL c))) (some (ay l c)) (some (bX G F)) (some (di (ay l c) G F)) (some (di (ay l c) g e)) (some (bX g e)) o10 o11 o12) (S1:=wH Pt h2) (DM (ao (x:=.v (di (ay l c) g e)) (S1:=wH Pt h2) (ik (k:=1) (fs:=[("own_alphabet",ay l c),("own_goals",.lst (G.map cB)),("own_ends",cR F)]) rfl rfl rfl (hle _)) (ao (x:=.v (bX g e)) (S1:=wH Pt h2) (dA (ao rfl (ao (ig (ao rfl rfl) (gl _)) rfl)) (e3 _)) rfl))) ?_;unfold acd;refine bz (lJ (x:=.v (.lst (g.map cB))) (S1:=wH Pt h2) (bP (own:=[13]) (g:=.nm 13) g aQ cB (dM (ds:=g.map aQ) (aD (x:=.v (bX g e)) rfl rfl rfl)) (by omega) λr _ Z=>⟨_,rfl,rfl,rfl⟩)) ?_;obtain⟨q,hq⟩:∃q:Int,q=g.length:=⟨_,rfl⟩;obtain⟨q2,hq2⟩:∃q:Int,q=G.length:=⟨_,rfl⟩;have gq:∀Z,b7 az [.v (di (ay l c) g e)] Z=.ok (.v (.int q)) Z:=λZ=>by rw[hq];exact DW (by omega)
 have gq2:∀Z,b7 az [.v (di (ay l c) G F)] Z=.ok (.v (.int q2)) Z:=λZ=>by rw[hq2];exact DW (by omega)
 have gt:∀Z,b7 az [.v (.lst (g.map cB))] Z=.ok (.v (.int q)) Z:=λZ=>by rw[hq];exact SI.trans (by rw[List.length_map])
 have gt2:∀Z,b7 az [.v (aK G)] Z=.ok (.v (.int q2)) Z:=λZ=>by rw[hq2];unfold aK;exact SI.trans (by rw[List.length_map])
 unfold acb;refine bz (C2 (Mf (gh (GZ (T:=.lst [.lst (g.map cB),c9 e,.int q])
  (m8 (ao (x:=.v (.lst (g.map cB))) (S1:=wH Pt h2) (ik (k:=1) (fs:=[("own_alphabet",ay l c),("own_goals",.lst (g.map cB)),("own_ends",cR e)]) rfl rfl rfl Fx) (ao (x:=.v (c9 e)) (S1:=wH Pt h2) (ik (k:=1) (fs:=[("own_alphabet",ay l c),("own_goals",.lst (g.map cB)),("own_ends",cR e)]) rfl rfl rfl (Hf (by omega))) (ao (x:=.v (.int q)) (ig (ao rfl rfl) (gq _)) rfl))) rfl (Nat.le_of_ble_eq_true rfl))
  (m8 (ao (x:=.v (.lst (g.map cB))) (S1:=wH Pt h2) rfl (ao (x:=.v (c9 e)) (S1:=wH Pt h2) (dA (ao (x:=.v (bX g e)) rfl rfl) (SA (by omega))) (ao (x:=.v (.int q)) (ig (ao rfl rfl) (gt _)) rfl))) rfl (Nat.le_of_ble_eq_true rfl)) ?_))) rfl) ?_
 ·have p1:fR 7 (.lst (g.map cB))=true:=by show(decide ((g.map cB).length<=1000000)&&(g.map cB).all (fR 6))=true;rw[decide_eq_true (by rw[List.length_map];omega),Bool.true_and];refine List.all_eq_true.mpr λd hd=>?_;obtain⟨r,hr',rfl⟩:=List.mem_map.mp hd;exact(Ct (k:=4) r (by rw[W'.lr r hr'];omega)).1
  have p2:fR 7 (c9 e)=true:=by have:=(Ct (k:=5) ((eP e).map λi=>((i:Nat):Int)) (by rw[List.length_map];unfold eP;exact Nat.le_trans (List.length_filter_le _ _) (by rw[List.length_range];omega))).2;rw[List.map_map]at this;exact this
  show(true&&(fR 7 (.lst (g.map cB))&&(fR 7 (c9 e)&&(true&&true))))=true;rw[p1,p2];rfl
 unfold aca;refine bz (C2 (Mg (a:=false) (b:=false) (gh (wF (x:=.v (di (ay l c) g e)) (y:=.v (di (ay l c) g e)) (S1:=wH Pt h2) (ik (k:=1) (fs:=[("own_alphabet",ay l c),("own_goals",.lst (g.map cB)),("own_ends",cR e)]) rfl rfl rfl (again _)) rfl ((ZF al (t:=(g,e)) (u:=(g,e))).trans (by rw[decide_eq_true rfl];rfl)))) λ_=>Mg (a:=false) (b:=false) (gh (wF (x:=.v (ay l c)) (y:=.v (ay l c)) (RA (k:=1) (fs:=[("own_alphabet",ay l c),("own_goals",.lst (g.map cB)),("own_ends",cR e)]) rfl (yp rfl (kD (iX rfl (by decide) rfl)))) rfl (ZG al))) λ_=>gh (wF (x:=.v (.int q2)) (y:=.v (.int q2)) (ig (ao rfl rfl) (gq2 _)) (ig (ao (x:=.v (aK G)) (aD (x:=.v (bX G F)) rfl rfl rfl) rfl) (gt2 _)) ?_)) rfl) ?_;show R.xm (mD (.v (.int q2)) (.v (.int q2)) (wH Pt h2)) (wH Pt h2)=_;have:mD (.v (.int q2)) (.v (.int q2)) (wH Pt h2)=some (.v (.bl (!(q2 == q2)))):=rfl;rw[this,beq_self_eq_true];rfl;unfold ab9;have wo:=Sz (S:=wH Pt h3) (l:=l) (k:=r) l3 r0 (by omega);exact(IZ (ds:=(fS l r.toNat).map λu=>D.str (sL u)) (S1:=wH Pt h3) (dM (dA (ao rfl (ao (dA (ao rfl (ao rfl rfl)) e4) rfl)) wo))).trans ew
theorem Lf:∀(ds:List D){o2 o3 o4 o5 o6 o7 o8 o9 o10 o11 o12:Option D}{h:Hand},h.ok ->
  ∃p2 p3 p4 p5 p6 p7 p8 p9 p10 p11 h',forL (.nm 2) (V0 Pt) ds (mE sc o2 o3 o4 o5 o6 o7 o8 o9 o10 o11 o12) (wH Pt h)=.nx (mE sc p2 p3 p4 p5 p6 p7 p8 p9 p10 p11 o12) (wH Pt h')/\h'.ok
 |[],o2,o3,o4,o5,o6,o7,o8,o9,o10,o11,o12,h,ho=>⟨_,_,_,_,_,_,_,_,_,_,h,rfl,ho⟩|d::ds,o2,o3,o4,o5,o6,o7,o8,o9,o10,o11,o12,h,ho=>by obtain⟨q3,q4,q5,q6,q7,q8,q9,q10,q11,h1,e1,o1⟩:=V6 (Pt:=Pt) (sc:=sc) (o2:=some d) (o3:=o3) (o4:=o4) (o5:=o5) (o6:=o6) (o7:=o7) (o8:=o8) (o9:=o9) (o10:=o10) (o11:=o11) (o12:=o12) ho;obtain⟨p2,p3,p4,p5,p6,p7,p8,p9,p10,p11,h2,e2,z2⟩:=Lf ds (o2:=some d) (o3:=q3) (o4:=q4) (o5:=q5) (o6:=q6) (o7:=q7) (o8:=q8) (o9:=q9) (o10:=q10) (o11:=q11) (o12:=o12) o1;exact⟨p2,p3,p4,p5,p6,p7,p8,p9,p10,p11,h2,(DL (ρ1:=mE sc (some d) o3 o4 o5 o6 o7 o8 o9 o10 o11 o12) rfl e1).trans e2,z2⟩
theorem ZM:nc [97] [49]:=⟨by decide +kernel,by decide,by decide,by decide,by decide,by decide +kernel⟩
theorem aer{ρ:Env}:xJ 1 0 [0] bE (aa (eC (.str "a")) ah) ah ρ S=.ok (.v (ay [97] [49])) S:=by show bE [.v (.str "a")] S=_;rw[show("a" : Str)=sL [97]by decide +kernel];exact Bw (l:=[97]) (c:=[49]) ZM
theorem Tc:TabOk 1 [[1],[0]] [false,false]:=⟨rfl,by decide,by decide,by decide⟩
theorem Td:∀(u:List Nat) (p:Int),iM [[1],[0]] [false,false] p u=false
 |[],p=>by
  show(decide (0<=p)&&([false,false]:List Bool).getD p.toNat false)=false
  match p.toNat with
  |0=>exact Bool.and_false _|1=>exact Bool.and_false _|k+2=>exact Bool.and_false _
 |a::u,p=>Td u _
theorem Te:∀S,aO [.v (di (ay [97] [49]) [[1],[0]] [false,false])] S=.ok (.v (di (ay [97] [49]) [] [])) S:=by
 obtain⟨g,e,m,hle,W',hm,C⟩:=Bz (c:=[49]) ZM (n:=2) Tc.wf (by decide);have hge:g=[]/\e=[]:=by
  rcases C with ⟨_,h1,h2⟩|⟨h1,_⟩
  exact⟨h1,h2⟩;·exact absurd (λu=>Td u _) h1
 obtain⟨rfl,rfl⟩:=hge;exact hle
theorem aco{ρ:Env}:l4 1 aV (aa (xJ 1 0 [0] bE (aa (eC (.str "a")) ah) ah) (aa (cn (aa (cn (aa (eC (.int 1)) ah)) (aa (cn (aa (eC (.int 0)) ah)) ah))) (aa (cn ah) ah))) ρ S=.ok (.v (di (ay [97] [49]) [[1],[0]] [false,false])) S:=
 yo (xs:=[.v (ay [97] [49]),.v (dQ [[1],[0]]),.v (c9 [false,false])]) (S1:=S) (ao aer (ao (x:=.v (dQ [[1],[0]])) rfl (ao (x:=.v (c9 [false,false])) rfl rfl))) (By ZM Tc)
theorem ZN{ρ:Env}{i:Nat}(hi:ρ[i]?=some (some (.v (di (ay [97] [49]) [[1],[0]] [false,false])))):wa (nE aE id eU) (cF (b7 az) (aa (fb 1 "least" aO (eV i) ah) ah)) (eC (.int 0)) ρ S=.ok (.v (.bl true)) S:=
 wF (x:=.v (.int 0)) (y:=.v (.int 0)) (S1:=S) (ig (ao (x:=.v (di (ay [97] [49]) [] [])) (ik (k:=1) (fs:=[("own_alphabet",ay [97] [49]),("own_goals",.lst (([[1],[0]]:List (List Int)).map cB)),("own_ends",cR [false,false])]) (rX hi) rfl rfl (Te _)) rfl) (DW (by decide))) rfl rfl
theorem V7{h:Hand}(ho:h.ok):∃S',SG Pt (mE sc o2 o3 o4 o5 o6 o7 o8 o9 o10 o11 o12) (wH Pt h)=.rt (.v (.bl true)) S':=by obtain⟨h1,ec,o1⟩:=Ta (n:=1) (S:=wH Pt h) ho rfl;refine⟨wH Pt h1,?_⟩;unfold SG;refine bz (lJ aco) ?_;unfold W5;exact kD (Mh (ZN rfl) (dA (ao rfl rfl) ec))
theorem PD(Pt:Addr)(ns:List Int):∃S',E4 Pt [some (.v (.fz (c4 ns))),none,none,none,none,none,none,none,none,none,none,none,none,none] [.tab Pt Md]=.rt (.v (.bl true)) S':=by obtain⟨h0,e0,o0⟩:=U9 (ns:=ns) (S:=[.tab Pt Md]);have s1:bB 1 (aS pS (aa (eV 0) ah)) [some (.v (.fz (c4 ns))),none,none,none,none,none,none,none,none,none,none,none,none,none] [.tab Pt Md]=.nx (mE (.fz (c4 ns)) none none none none none none none none none none none) (wH Pt h0):=lJ (dA (ao rfl rfl) e0);obtain⟨p2,p3,p4,p5,p6,p7,p8,p9,p10,p11,h1,e1,o1⟩:=Lf (Pt:=Pt) (sc:=.fz (c4 ns)) (gR 0 5) (o2:=none) (o3:=none) (o4:=none) (o5:=none) (o6:=none) (o7:=none) (o8:=none) (o9:=none) (o10:=none) (o11:=none) (o12:=none) o0;obtain⟨S',e2⟩:=V7 (Pt:=Pt) (sc:=.fz (c4 ns)) (o2:=p2) (o3:=p3) (o4:=p4) (o5:=p5) (o6:=p6) (o7:=p7) (o8:=p8) (o9:=p9) (o10:=p10) (o11:=p11) (o12:=none) o1;refine⟨S',?_⟩;rw[ZD];unfold aci;refine bz s1 ?_;unfold ach;exact bz ((IZ (sd (n:=5) rfl (by decide) (by decide))).trans e1) e2
end
theorem plain(Pt:Addr):Plain U8.length (E4 Pt) Pt Md:=by intro ns _ _;exact PD Pt ns
end L3
open PySem PySem.W PySem.Calls PyProof.Rows
theorem PySem.Challenge.cw_lotbarter_k12_whole_least_automata_holds : PySem.Challenge.rw_lotbarter_k12_whole_least_automata.Holds := by
 refine L3.opening ?_
 ·refine LamX.walk_ofTsE (l:=PySem.Challenge.rw_lotbarter_k12_whole_least_automata) (n:=63) (k:=L3.abN) (x:= "_law_script") (CX:=λw=>L2.CX (PySem.Challenge.rw_lotbarter_k12_whole_least_automata).prog w) rfl (by decide) (by kernel_rfl) ⟨rfl,by decide,by decide⟩ ?F (λ_ _ _ _ _ z=>by simpa[L2.CX]using z);intro w mg fa h Y G hmg0;obtain⟨K,c,Pt,z⟩:=Y;have hmg:mg ("law" : PySem.Str)=some (.ref fa):=by have e:(HandSHeadRun.topDef (OpenLaw.row PySem.Challenge.rw_lotbarter_k12_whole_least_automata).prog 49).name=("law" : PySem.Str):=(by kernel_rfl);rw[<-e];exact hmg0
  have e:=hmg.symm.trans (L3.U7 z G);cases e;obtain⟨oc,od,osl,kV,doc,pm,an,ct,lk,hcd⟩:=L3.Uq z.u 45 (d:=L3.Wd) rfl rfl;exact⟨K,z.u.kin,_,[(c,Pt)],L3.Nm K Pt,λp hp=>by cases List.mem_singleton.mp hp;exact z.u.tab,λp hp=>by cases List.mem_singleton.mp hp;exact z.u.no,λp hp=>by cases List.mem_singleton.mp hp;exact z.u.hd,
   λs u=>.of_eq rfl,λH a ns h1 h2 h3 h4=>⟨a,ns,rfl,h1,h2,h4,z.u.no,h3 _ (List.mem_singleton.mpr rfl),λ_=>rfl⟩,
   λbase kb nb tb=>by obtain⟨g,_⟩:=L3.aej z G;exact L3.Y1 g (tb _ (List.mem_singleton.mpr rfl)) L3.plain lk hcd⟩
