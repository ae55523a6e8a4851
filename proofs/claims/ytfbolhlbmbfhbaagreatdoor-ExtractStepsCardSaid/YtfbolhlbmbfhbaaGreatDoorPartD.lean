import Derived.Test.YtfbolhlbmbfhbaaGreatDoorPartC
import Derived.Lib.LaidTab
import Derived.Test.YtfbolhlbmbfhbaaGreatDoorProg
import Derived.WalkKit
set_option linter.unusedVariables false
set_option linter.unusedSimpArgs false
set_option linter.unusedSectionVars false
set_option linter.defProp false
namespace Go.S
variable {n t:Nat}{i m p1 a e v j:Int}{l p p5 docs ts:List B8}{d:List bw}{s:List Sg}{g b p6:B8}{c:UInt8}{x:Int×Int×List Bool}{r:List Int}{f:List (List Int)}
theorem avN(h:2<=n):n<=2*sp n:=by
 have:=Nat.lt_log2_self (n:=n-1);grind[sp,Nat.pow_succ]
theorem Ä(h:2<=n)(H:n<=2^(t+1)):sp n<=2^t/\n-sp n<=2^t:=by
 have k:=iY h;have o:=avN h
 have :sp n<=2^t:=by
  unfold sp at *;have :2^Nat.log2 (n-1)<2^(t+1):=by omega
  grind[Nat.pow_lt_pow_iff_right]
 omega
theorem Ku:∀(t n:Nat) (i:Int),0<=i->i<n->n<=2^t->(cq i n).length<=t
 |0,n,i,k,h1,h=>by grind[wo]
 |t+1,n,i,k,h1,h=>by
  by_cases q:2<=n;have o:=Ä q h;by_cases H:i<((sp n:Nat));rw[zn w! (by exact H),E?];have:=Ku t _ i k H o.1;simp;omega
  rw[zo w! (by exact H),E?];have:=Ku t _ (i-((sp n:Nat))) w! w! o.2;rw[Int.natCast_sub w!] at this;simp;omega
  grind[wo]
theorem apP(H:0<=i)(k:i<l.length)(h:l.length<=2^t):(path l i).length<=t:=by
 rw[alw _ l i rfl];simp_all[Ku]
theorem ny(h:cP l=true)(k:Nat):cP (l.take k)=true:=(cQ _).2 λd H=>(cQ l).1 h d (List.mem_of_mem_take H)
theorem nz(h:cP l=true)(k:Nat):cP (l.drop k)=true:=(cQ _).2 λd H=>(cQ l).1 h d (List.mem_of_mem_drop H)
theorem Qr{d:B8}(h:cP l=true)(H:d.length=32):cP (l++[d])=true:=
 (cQ _).2 λx k=>by
   grind[cQ,List.mem_singleton]
theorem aal(n:Nat):∀(l:O) (i:Int),l.length=n->cP l=true->cP (path l i)=true:=by
 refine wu (C:=λn=>∀(l:M _) (i:Int),l.length=n->cP l=true->cP (path l i)=true) ?_ ?_ n;intro n h l i e _;rw[WC w!];rfl;intro n h H k l i e o;have q:=iY h;by_cases u:i<((sp l.length));grind[WD,Qr,ny,uD,nz,List.length_take];grind[WE,Qr,nz,uD,ny,List.length_drop]
theorem zp(h:2<=l.length)(H:l.length<=1099511627776):split l.length=((sp l.length:Nat):Int):=by
 grind[Aw,Int.toNat_natCast]
theorem aNr(h:cP l=true)(H:0<=i)(k:i<l.length):gD l i (l,i,[]):=
 ⟨h,M! _,H,k,z!,z!⟩
theorem aNs {m a:O}{j:Int}(h:gD l i (m,j,a))(H:2<=m.length)(o:j<((sp m.length:Nat):Int)):
  gD l i (m.take (sp m.length),j,a++[root (m.drop (sp m.length))]):=by
 obtain⟨A,q,k,u,w,y⟩:=h;have z:=iY H;refine⟨ny A _,?_,k,?_,?_,?_⟩;grind;grind;grind[WD,List.reverse_append];grind
theorem aNt {m a:O}{j:Int}(h:gD l i (m,j,a))(H:2<=m.length)(k:¬j<((sp m.length:Nat):Int)):
  gD l i (m.drop (sp m.length),j-((sp m.length:Nat):Int),a++[root (m.take (sp m.length))]):=by
 obtain⟨A,o,q,u,w,y⟩:=h;have z:=iY H;refine⟨nz A _,?_,x!,?_,?_,?_⟩;grind;grind;grind[WE,List.reverse_append];grind
theorem avO {m a:O}{j:Int}(h:gD l i (m,j,a))(H:¬1<(m.length:Int)):Qq a=path l i:=by
 have:=h.2.2.2.2.1;grind[Qq,WC]
def alx(l:O)(i:Int):Prop:=eW l/\0<=i/\i<l.length
theorem aGL {l:O}(h:cP l=false\/i<0\/(l.length:Int)<=i): []=oz l i/\1=tF l i:=by
 grind[cP,oz,tF]
theorem avP {l:O}(h:cP l=true/\¬i<0/\¬(l.length:Int)<=i):oz l i=path l i/\tF l i=0:=by
 grind[cP,oz,tF]
theorem I1{x:O×Int×O}(H:l.length<=1099511627776)(h:gD l i x)(k:1<(x.1.length:Int)):
  (0<=split x.1.length/\split x.1.length<=x.1.length/\ -9223372036854775808<=x.2.1-split x.1.length/\x.2.1-split x.1.length<=9223372036854775807)/\
  eW (x.1.take (split x.1.length).toNat)/\eW (x.1.drop (split x.1.length).toNat)/\(∀d:B8,x.2.2.length+[d].length<=8796093022208)/\
  len (x.1.take (split x.1.length).toNat)<len x.1/\len (x.1.drop (split x.1.length).toNat)<len x.1:=by
 have⟨a,A,o,q,u,w⟩:=h;have y:=iY (n:=x.1.length) w!;rw[zp w! w!,Int.toNat_natCast];refine⟨w!,⟨ny a _,x!⟩,⟨nz a _,x!⟩,λd=>by grind,?_,?_⟩;grind[len,List.length_take];grind[len,List.length_drop]
theorem aGM{x:O×Int×O}(H:l.length<=1099511627776)(h:gD l i x)(k:1<(x.1.length:Int))(o:x.2.1<split x.1.length):
  gD l i (x.1.take (split x.1.length).toNat,x.2.1,x.2.2++[root (x.1.drop (split x.1.length).toNat)]):=by
 have:=h.2.1;grind[zp,Int.toNat_natCast,aNs]
theorem aGN{x:O×Int×O}(k:l.length<=1099511627776)(h:gD l i x)(o:1<(x.1.length:Int))(H:¬x.2.1<split x.1.length):
  gD l i (x.1.drop (split x.1.length).toNat,x.2.1-split x.1.length,x.2.2++[root (x.1.take (split x.1.length).toNat)]):=by
 have:=h.2.1;rw[zp w! w!] at H |-;exact aNt h w! H
theorem aGO{x:O×Int×O}(H:l.length<=1099511627776)(h:gD l i x):small x.2.2:=by
 have:=h.2.2.2.2.2;grind[small]
theorem avQ {l:O}{x:O×Int×O}(H:cP l=true/\¬i<0/\¬(l.length:Int)<=i)(h:gD l i x)(k:¬1<(x.1.length:Int)):Qq x.2.2=oz l i/\0=tF l i:=by
 grind[avP,avO]
theorem aly {l:O}(h:cP l=true/\¬i<0/\¬(l.length:Int)<=i):gD l i (l,i,[]):=aNr h.1 w! w!
abbrev Pf:=Int×B8×B8×B8×O×B8
def aod(d:M bw)(t:B8):Pf:=
 (bo d t+1,(bg (apB d (bo d t+1).toNat)).1.1,(bg (apB d (bo d t+1).toNat)).1.2.1,(bg (apB d (bo d t+1).toNat)).1.2.2,path (leaves (dW d)) (bo d t+1),if fE d t then iH (dN d t) else [])
def aSL:Pf:=(0,[],[],[],[],[])
def wv(d:M bw)(t:B8):Pf×Int:=if aK d&&isTerm t then(aod d t,0) else(aSL,1)
variable {t:B8}{n:Int}
theorem afa(h:dE d≠0\/isTerm t=false):wv d t=(aSL,1):=by
 grind[wv,dE,aK]
theorem Qs(h:aK d=true)(H:isTerm t=true):wv d t=(aod d t,0):=by
 grind[wv]
theorem Å(h:aK d=true):0<=bo d t+1/\bo d t+1<=d.length/\(dW d).length=d.length+1:=by
 have:=IL (d:=d) (t:=t) d.length;unfold bo;grind[dW,eM]
theorem alz(d:M bw)(H:0<=i)(h:i<=d.length):(dW d).getD i.toNat []=apB d i.toNat:=by
 grind[dW,eM]
theorem Æ(H:aW d)(h:aK d=true)(t:B8):
  (0<=bo d t+1/\bo d t+1<=1048576/\bo d t+1<(bn d).length/\(bo d t+1).toNat<(bn d).length)/\((bn d).getD (bo d t+1).toNat []).length<=140737488355328/\dj (bn d)/\eX (leaves (bn d))/\alx (leaves (bn d)) (bo d t+1)/\
  (bn d).getD (bo d t+1).toNat []=apB d (bo d t+1).toNat/\oz (leaves (bn d)) (bo d t+1)=path (leaves (dW d)) (bo d t+1)/\bn d=dW d:=by
 obtain⟨f,F,w⟩:=Å (t:=t) h;have e:bn d=dW d:=by grind[bn]
 have y:=H.1;have o:(leaves (dW d)).length=d.length+1:=by grind[leaves]
 have u:=alz d f F;rw[e];refine⟨w!,?_,(kK H h).1,by grind[eX],⟨(kK H h).2,f,w!⟩,u,?_,rfl⟩;rcases wa h (k:=(bo d t+1).toNat) with q|q;grind[Ay,apB];omega;have q:cP (leaves (dW d))=true/\0<=bo d t+1/\bo d t+1<(leaves (dW d)).length:=⟨(kK H h).2.1,f,w!⟩;simp_all[oz,if_pos]
theorem aGP(H:aW d)(h:aK d=true)(t:B8):
  aod d t=(bo d t+1,(bg ((bn d).getD (bo d t+1).toNat [])).1.1,(bg ((bn d).getD (bo d t+1).toNat [])).1.2.1,(bg ((bn d).getD (bo d t+1).toNat [])).1.2.2,oz (leaves (bn d)) (bo d t+1),if fE d t then jH (dN d t) else []):=by
 have q:=Æ H h t;rw[q.2.2.2.2.2.1,q.2.2.2.2.2.2.1];unfold aod;congr 5
 split
 have :aV (dN d t)=true:=by
  unfold dN;rename_i h1;rw[if_pos h1];have k:=Ef h1;exact(v8 h (i:=(bo d t).toNat) w!).2
 unfold jH;rw[this];rfl;rfl
abbrev bj:=Int×B8
def cM(l:M bj)(i:Nat):bj:=l.getD i (0,[])
def nW(l:M bj):Nat->Int
 |0=>0
 |k+1=>nW l k+if(cM l k).1=0 then 1 else 0
def c9(l:M bj)(k:Nat):Int:=2*nW l k-k
def wx(l:M bj)(i:Nat):Bool:=
 if(cM l i).1=0 then isTerm (cM l i).2 else(decide (1<=(cM l i).1)&&decide ((cM l i).1<=3))&&(decide ((cM l i).2=[])&&decide (2<=c9 l i))
def aZ(l:M bj):Bool:=(List.range l.length).all (wx l)&&(decide (c9 l l.length=1)&&decide (nW l l.length<=16))
def ja(l:M bj)(k:Nat):Prop:=k<=l.length/\l.length<=1099511627776/\∀i,i<k->wx l i=true
def bL(l:M bj)(k:Nat):O:=((l.take k).filter λo=>decide (o.1=0)).map (·.2)
def pj(l:M bj):O:=bL l l.length
def al(l:M bj):O:=sorted (pj l)
theorem gR(l:M bj):∀k,0<=nW l k/\nW l k<=k
 |0=>by simp[nW]
 |k+1=>by have:=gR l k;grind[nW]
variable {l q:List bj}
theorem ND{k:Nat}(h:(cM l k).1=0):nW l (k+1)=nW l k+1:=by simp_all[nW,Q!]
theorem Kv{k:Nat}(h:¬(cM l k).1=0):nW l (k+1)=nW l k:=by simp_all[nW,R!]
theorem zq{k:Nat}(h:(cM l k).1=0):c9 l (k+1)=c9 l k+1:=by grind[c9,ND]
theorem uH{k:Nat}(h:¬(cM l k).1=0):c9 l (k+1)=c9 l k-1:=by grind[c9,Kv]
theorem aEz(h:small l):ja l 0:=⟨S! _,h,λi H=>by omega⟩
theorem Ç{k:Nat}(h:ja l k)(H:(k:Int)<l.length)(o:wx l k=true):ja l (k+1):=by
 refine⟨w!,h.2.1,λi u=>?_⟩;by_cases w:i=k;grind;exact h.2.2 i w!
theorem afb{k:Nat}(H:(k:Int)<l.length)(h:wx l k=false):false=aZ l:=by
 grind[List.range,wx,aZ]
theorem avR{k:Nat}(h:ja l k)(o:¬(k:Int)<l.length):(decide (c9 l k=1)&&decide (nW l k<=16))=aZ l:=by
 have e:k=l.length:=by have:=h.1;omega
 subst e;have :(List.range l.length).all (wx l)=true:=List.all_eq_true.2 λi H=>h.2.2 i (List.mem_range.1 H);grind[aZ]
theorem Qt{k:Nat}(h:(cM l k).1=0):wx l k=isTerm (cM l k).2:=by simp_all[wx,Q!]
theorem apR {l:M bj}{k:Nat}(h:¬(cM l k).1=0)(H:1<=(cM l k).1)(o:(cM l k).1<=3)(u:(cM l k).2=[])(w:2<=c9 l k):wx l k=true:=by
 simp_all[wx,R!]
theorem avS {l:M bj}{k:Nat}(h:¬(cM l k).1=0)(H:¬1<=(cM l k).1\/¬(cM l k).1<=3\/¬(cM l k).2=[]\/¬2<=c9 l k):wx l k=false:=by
 grind[wx]
theorem afc{k:Nat}(H:(k:Int)<l.length)(h:(cM l k).1=0):bL l k++[(cM l k).2]=bL l (k+1):=by
 unfold bL;rw[an l k (0,[]) w!,List.filter_append,List.map_append];have :(List.filter (λo:bj=>decide (o.1=0)) [l.getD k (0,[])])=[cM l k]:=by grind[cM]
 grind
theorem apU{k:Nat}(H:(k:Int)<l.length)(h:¬(cM l k).1=0):bL l k=bL l (k+1):=by
 unfold bL;rw[an l k (0,[]) w!,List.filter_append,List.map_append];have :(List.filter (λo:bj=>decide (o.1=0)) [l.getD k (0,[])])=[]:=by grind[cM]
 grind
theorem avV{k:Nat}(h:k<=l.length)(H:¬(k:Int)<l.length):bL l k=pj l:=by
 grind[pj]
theorem apV(l:M bj):∀k,k<=l.length->((bL l k).length:Int)=nW l k
 |0,_=>by rfl
 |k+1,hk=>by
  have i:=apV l k w!;by_cases h:(cM l k).1=0;rw[<-afc w! h,ND h,J!,<-i];simp;rw[<-apU w! h,Kv h,i]
theorem WH:aZ l=true↔(∀i,i<l.length->wx l i=true)/\c9 l l.length=1/\nW l l.length<=16:=by
 simp_all[aZ,B!,V!,f?,H!]
theorem qe(h:aZ l=true):(al l).length<=16:=by
 obtain⟨_,_,H⟩:=WH.1 h;have:=eh (pj l);have e:=apV l l.length (Nat.le_refl _);grind[al,pj]
theorem È(h:aZ l=true):∀t∈al l,isTerm t=true:=by
 obtain⟨u,_,_⟩:=WH.1 h;intro t H;have:=(ir (pj l) t).1 H;simp only[pj,bL,List.mem_map,List.mem_filter,decide_eq_true_eq,List.take_length] at this;obtain⟨o,⟨k,w⟩,rfl⟩:=this;obtain⟨i,y,rfl⟩:=List.mem_iff_getElem.1 k;grind[cM,Qt]
theorem É {l:M bj}{k:Nat}(h:ja l k)(H:(k:Int)<l.length)(o:(l.getD k (0,[])).1=0)(u:isTerm (l.getD (Int.toNat (k:Int)) (0,[])).2=true):ja l (k+1):=
 Ç h H (by rw[Qt o];rwa [E?] at u)
theorem Ê {l:M bj}{k:Nat}(h:(k:Int)<l.length)(H:(l.getD k (0,[])).1=0)(o:isTerm (l.getD (Int.toNat (k:Int)) (0,[])).2=false):false=aZ l:=
 afb h (by rw[Qt H];rwa [E?] at o)
theorem I2 {l:M bj}{k:Nat}(h:ja l k)(o:(k:Int)<l.length)(u:¬(l.getD k (0,[])).1=0)(H:1<=(l.getD k (0,[])).1/\(l.getD k (0,[])).1<=3)(w:(l.getD k (0,[])).2=[]/\¬c9 l k<2):ja l (k+1):=
 Ç h o (apR u H.1 H.2 w.1 w!)
theorem Da {l:M bj}{k:Nat}(H:(k:Int)<l.length)(o:¬(l.getD k (0,[])).1=0)(h:¬(1<=(l.getD k (0,[])).1/\(l.getD k (0,[])).1<=3)\/¬(l.getD k (0,[])).2=[]\/c9 l k<2):false=aZ l:=
 afb H (avS o (by
  grind[cM]))
theorem afd{k:Nat}(h:ja l k)(H:¬(k:Int)<l.length):(bif decide (c9 l k=1) then decide (nW l k<=16) else false)=aZ l:=by
 grind[avR]
theorem aNu(l:M bj): []=bL l 0:=rfl
theorem apY{k:Nat}(H:(k:Int)<l.length)(h:(l.getD k (0,[])).1=0):bL l k++[(l.getD (Int.toNat (k:Int)) (0,[])).2]=bL l (k+1):=by exact afc H h
theorem apZ{k:Nat}(H:l.length<=1099511627776)(h:dX l k)(s:B8):(bL l k).length+[s].length<=8796093022208/\small (bL l k)/\small (fp (bL l k))/\small (bU (fp (bL l k))):=by
 grind[ŧ,bL,eh,P0,dX,List.length_singleton,small]
theorem avW{k:Nat}(h:dX l k)(H:¬(k:Int)<l.length):bU (fp (bL l k))=al l/\sorted (bL l k)=al l:=by
 have:=avV h H;rw[P0,this];exact⟨rfl,rfl⟩
def yo:B8:=[104,97,121]
abbrev El:=Int×Int×B8
def Ë:M El:=[(-1,0,yo)]
def kE:M El:=[(-1,0,yo),(-2,3,[])]
def jK:M bj:=[(0,yo)]
def hdT(l:O):B8:=l.getD 0 []
def uI(k:Nat):Int:=if k=0 then -1 else 0
def BK(l:M El)(n:Int):El:=l.getD n.toNat (0,0,[])
def dq(l:M bj):Prop:=small l/\∀o∈l,small o.2
theorem ap1(h:dq l)(k:Nat):small (cM l k).2:=by
 by_cases H:k<l.length;exact h.2 _ (aU l k _ H);unfold cM;rw[List.getD_eq_getElem?_getD,List.getElem?_eq_none w!];exact Nat.zero_le _
theorem zr {x:Nat}(h:(x:Int)<(([104,97,121]:U).length:Int)):x=0\/x=1\/x=2:=by
 grind
theorem ge3 {x:Nat}(H:cC x 3)(h:¬(x:Int)<(([104,97,121]:U).length:Int)):x=3:=by
 grind[cC]
abbrev Wp:=B8×Bool
def jL(v:Int):Wp:=if gi v then([],true) else(num v,false)
def gn(b:B8)(g:Int):Wp:=if g<b.length then([],true) else(text b,false)
def kL(n:Int)(g:B8)(l:M Sg):Wp:=if cO n g l then gn (hB n g l) 10000 else([],true)
def Mt(d:B8):Bool:=decide ((d.length:Int)=32)
def jb(p:O):Wp:=if 64<(p.length:Int) then([],true) else(num p.length++(p.takeWhile Mt).flatten,!cP p)
def iv(p:O)(k:Nat):B8:=num p.length++(p.take k).flatten
def aqZ(p:O)(k:Nat):Prop:=p.length<=64/\k<=p.length/\∀d∈p.take k,(d.length:Int)=32
def cat(a b:Wp):Wp:=(a.1++b.1,a.2 || b.2)
def aof(p:Pf):Wp:=
 if eR p.2.1 p.2.2.1 p.2.2.2.1 then cat (cat (cat (jL p.1) (gn (mc p.2.1 p.2.2.1 p.2.2.2.1) 200)) (jb p.2.2.2.2.1)) (gn p.2.2.2.2.2 4000)
 else((jL p.1).1,true)
def pfD(l:M Pf)(i:Nat):Pf:=l.getD i aSL
def Qu(l:M Pf):Nat->Wp
 |0=>(num l.length,false)
 |k+1=>cat (Qu l k) (aof (pfD l k))
def aks(l:M (M Pf))(i:Nat):M Pf:=l.getD i []
def gj(n:Int)(g:B8)(s:M Sg)(l:M (M Pf)):Nat->Wp
 |0=>cat ([1],false) (kL n g s)
 |k+1=>cat (gj n g s l k) (Qu (aks l k) (aks l k).length)
def Fv(w:Wp):B8:=if w.2 then [] else if 1048576<(w.1.length:Int) then [] else w.1
def Fw(w:Wp):Int:=if w.2 then 1 else if 1048576<(w.1.length:Int) then 3 else 0
def WI(l:M (M Pf)):Bool:=l.all λx=>decide ((x.length:Int)<=16)
def xF(n:Int)(g:B8)(s:M Sg)(l:M (M Pf)):B8×Int:=
 if(l.length:Int)≠s.length\/WI l=false then([],1) else(Fv (gj n g s l l.length),Fw (gj n g s l l.length))
def afe(n:Int)(g:B8)(s:M Sg)(a:Int)(d:B8)(p:O):Wp:=
 cat (cat (cat (cat ([2],false) (kL n g s)) (jL a)) (gn d 2000)) (jb p)
def Kw(n:Int)(g:B8)(s:M Sg)(a:Int)(d:B8)(p:O):B8×Int:=(Fv (afe n g s a d p),Fw (afe n g s a d p))
def Ì(p:Pf):Bool:= !gi p.1&&(eR p.2.1 p.2.2.1 p.2.2.2.1&&(decide ((p.2.2.2.2.1.length:Int)<=64)&&(cP p.2.2.2.2.1&&decide ((p.2.2.2.2.2.length:Int)<=4000))))
abbrev Rs:=Int×Int
def ajM(b:B8)(a e:Int):Rs×Hd:=
 if(ao b a e 10000).1.2.2≠0 then((ao b a e 10000).1.2,(0,[],[]))
 else(((ao b a e 10000).1.2.1,(hR (ao b a e 10000).2).2),(hR (ao b a e 10000).2).1)
def lI(b:B8)(a e:Int):Rs×Lk:=
 if(ao b a e 200).1.2.2≠0 then((ao b a e 200).1.2,([],[],[]))
 else(((ao b a e 200).1.2.1,(bg (ao b a e 200).2).2),(bg (ao b a e 200).2).1)
def fj(b:B8)(a e g:Int):Rs×Int:=
 if g<(ag b a e).2 then(((ag b a e).1.2.1,2),0) else((ag b a e).1.2,(ag b a e).2)
def Dc(b:B8)(a e:Int):Nat->Rs×O
 |0=>((a,e),[])
 |k+1=>((aF b (Dc b a e k).1.1 (Dc b a e k).1.2).1.2,(Dc b a e k).2++[(aF b (Dc b a e k).1.1 (Dc b a e k).1.2).2])
def qT(b:B8)(a e:Int):Nat:=(fj b a e 64).2.toNat
def iw(b:B8)(a e:Int)(k:Nat):Rs×O:=Dc b (fj b a e 64).1.1 (fj b a e 64).1.2 k
def aur(b:B8)(a e:Int):Rs×O:=iw b a e (qT b a e)
def q1(b:B8)(a e:Int):Rs×Int:=((ag b a e).1.2,(ag b a e).2)
def q2(b:B8)(a e:Int):Rs×Lk:=lI b (q1 b a e).1.1 (q1 b a e).1.2
def q3(b:B8)(a e:Int):Rs×O:=aur b (q2 b a e).1.1 (q2 b a e).1.2
def q4(b:B8)(a e:Int):Rs×B8:=((ao b (q3 b a e).1.1 (q3 b a e).1.2 4000).1.2,(ao b (q3 b a e).1.1 (q3 b a e).1.2 4000).2)
def jc(b:B8)(a e:Int):Rs×Pf:=((q4 b a e).1,((q1 b a e).2,(q2 b a e).2.1,(q2 b a e).2.2.1,(q2 b a e).2.2.2,(q3 b a e).2,(q4 b a e).2))
def Fx(b:B8)(a e:Int):Nat->Rs×M Pf
 |0=>((a,e),[])
 |k+1=>((jc b (Fx b a e k).1.1 (Fx b a e k).1.2).1,(Fx b a e k).2++[(jc b (Fx b a e k).1.1 (Fx b a e k).1.2).2])
def aan(b:B8)(a e:Int):Nat:=(fj b a e 16).2.toNat
def aff(b:B8)(a e:Int)(k:Nat):Rs×M Pf:=Fx b (fj b a e 16).1.1 (fj b a e 16).1.2 k
def aEA(b:B8)(a e:Int):Rs×M Pf:=aff b a e (aan b a e)
def tG(b:B8)(a e:Int):Nat->Rs×M (M Pf)
 |0=>((a,e),[])
 |k+1=>((aEA b (tG b a e k).1.1 (tG b a e k).1.2).1,(tG b a e k).2++[(aEA b (tG b a e k).1.1 (tG b a e k).1.2).2])
def jd(b:B8)(k:UInt8):Int:=if 1048576<(b.length:Int) then 3 else if b.length=0 then 4 else if b.getD 0 0=k then 0 else 2
abbrev An:=Hd×M (M Pf)
def aH(b:B8):Rs×Hd:=ajM b 1 0
def kp(b:B8)(k:Nat):Rs×M (M Pf):=tG b (aH b).1.1 (aH b).1.2 k
def aN(b:B8):Nat:=(aH b).2.2.2.length
def aI(b:B8):(Int×B8×M Sg×M (M Pf))×Int:=
 if jd b 1≠0 then((0,[],[],[]),jd b 1)
 else if done b (kp b (aN b)).1.1 (kp b (aN b)).1.2≠0 then((0,[],[],[]),done b (kp b (aN b)).1.1 (kp b (aN b)).1.2)
 else(((aH b).2.1,(aH b).2.2.1,(aH b).2.2.2,(kp b (aN b)).2),0)
def Í(b:B8):Rs×Hd:=ajM b 1 0
def pg2(b:B8):Rs×Int:=q1 b (Í b).1.1 (Í b).1.2
def pg3(b:B8):Rs×B8:=((ao b (pg2 b).1.1 (pg2 b).1.2 2000).1.2,(ao b (pg2 b).1.1 (pg2 b).1.2 2000).2)
def I3(b:B8):Rs×O:=aur b (pg3 b).1.1 (pg3 b).1.2
def bx(b:B8):(Int×B8×M Sg×Int×B8×O)×Int:=
 if jd b 2≠0 then((0,[],[],0,[],[]),jd b 2)
 else if done b (I3 b).1.1 (I3 b).1.2≠0 then((0,[],[],0,[],[]),done b (I3 b).1.1 (I3 b).1.2)
 else(((Í b).2.1,(Í b).2.2.1,(Í b).2.2.2,(pg2 b).2,(pg3 b).2,(I3 b).2),0)
def st1(b:B8):Rs×Hd:=ajM b 1 0
def st2(b:B8):Rs×Hd:=ajM b (st1 b).1.1 (st1 b).1.2
def st3(b:B8):Rs×O:=aur b (st2 b).1.1 (st2 b).1.2
def Ě(b:B8):(Int×B8×M Sg×Int×B8×M Sg×O)×Int:=
 if jd b 3≠0 then((0,[],[],0,[],[],[]),jd b 3)
 else if done b (st3 b).1.1 (st3 b).1.2≠0 then((0,[],[],0,[],[],[]),done b (st3 b).1.1 (st3 b).1.2)
 else(((st1 b).2.1,(st1 b).2.2.1,(st1 b).2.2.2,(st2 b).2.1,(st2 b).2.2.1,(st2 b).2.2.2,(st3 b).2),0)
theorem avY(h:cP p=true):p.takeWhile Mt=p:=by
 induction p with
 |nil=>rfl
 |cons a l i=>
  simp_all[cP,List.all_cons,B!,List.takeWhile_cons_of_pos,Mt]
theorem Ut {p:Pf}:Ì p=true↔gi p.1=false/\eR p.2.1 p.2.2.1 p.2.2.2.1=true/\(p.2.2.2.2.1.length:Int)<=64/\cP p.2.2.2.2.1=true/\(p.2.2.2.2.2.length:Int)<=4000:=by
 simp_all[Ì,B!,K?,H!]
def oA(d:Bool)(w:Wp):Bool:=d || w.2
def bytesOf(w:Wp):B8:=w.1
def mU(w:Wp):Bool:=w.2
def zt(l:M (M Pf)):Prop:=l.length<=1000/\∀x∈l,∀p∈x,p.2.2.2.2.2.length<=1099511627776
def gE(n:Int)(g:B8)(s:M Sg)(l:M (M Pf))(k j:Nat):Wp:=cat (gj n g s l k) (Qu (aks l k) j)
def oV(s:M Sg)(l:M (M Pf))(k:Nat):Prop:=k<=l.length/\l.length=s.length/\zt l/\∀i,i<k->(aks l i).length<=16
def arN(s:M Sg)(l:M (M Pf))(k j:Nat):Prop:=oV s l k/\k<l.length/\(aks l k).length<=16/\j<=(aks l k).length
def I4(b:B8)(k j:Nat):Rs×M Pf:=aff b (kp b k).1.1 (kp b k).1.2 j
def qU(b:B8)(k:Nat):Nat:=aan b (kp b k).1.1 (kp b k).1.2
theorem ap3(s:B8):(text s).length<=s.length+9:=by
 grind[cU,text,List.length_append]
theorem zu(b:B8)(h:0<=m):((gn b m).1.length:Int)<=m+9:=by
 grind[gn,ap3]
theorem Qv(v:Int):(jL v).1.length<=9:=by
 grind[jL,cU]
theorem Uu(n:Int)(g:B8)(s:M Sg):(kL n g s).1.length<=10009:=by
 unfold kL;split;have:=zu (hB n g s) (m:=10000) (by decide);omega;grind
theorem afg:∀(p:O),(p.takeWhile Mt).flatten.length<=32*p.length
 |[]=>by simp
 |a::p=>by
  have:=afg p;by_cases h:Mt a=true;rw[List.takeWhile_cons_of_pos h,List.flatten_cons,J!,M?];have :(a.length:Int)=32:=of_decide_eq_true h;omega;simp_all
theorem Qw(p:O):(jb p).1.length<=2057:=by
 grind[jb,cU,afg,List.length_append]
theorem Î(p:Pf):(aof p).1.length<=7000:=by
 have h:=Qv p.1;have H:=zu (mc p.2.1 p.2.2.1 p.2.2.2.1) (m:=200) (by decide);have k:=Qw p.2.2.2.2.1;have o:=zu p.2.2.2.2.2 (m:=4000) (by decide);grind[aof,cat,List.length_append]
theorem Kx(l:M Pf):∀k,(Qu l k).1.length<=7000*k+9
 |0=>by grind[Qu,cU]
 |k+1=>by
  have:=Kx l k;have:=Î (pfD l k);simp[Qu,cat,J!];omega
theorem Uv(n:Int)(g:B8)(s:M Sg)(l:M (M Pf)):∀k,(∀i,i<k->(aks l i).length<=16)->(gj n g s l k).1.length<=120000*k+20000
 |0,_=>by
  grind[Uu,gj,cat,List.length_append,List.length_singleton]
 |k+1,h=>by
  have:=Uv n g s l k λi H=>h i w!;have:=Kx (aks l k) (aks l k).length;have:=h k w!;simp[gj,cat,J!];omega
theorem aNw(h:¬(64:Int)<p.length):aqZ p 0:=⟨w!,S! _,z!⟩
theorem avZ{k:Nat}(h:aqZ p k):(iv p k).length<=2057:=by
 obtain⟨H,o,u⟩:=h
 have q:∀(l:O),(∀d∈l,(d.length:Int)=32)->l.flatten.length=32*l.length:=by
  intro l;induction l with
  |nil=>grind
  |cons a l i=>
   grind
 grind[cU,List.length_take,iv,List.length_append]
theorem Ï {p:O}{k:Nat}(h:aqZ p k)(o:(k:Int)<p.length)(u:((p.getD k []).length:Int)=32):aqZ p (k+1)/\iv p k++p.getD k []=iv p (k+1):=by
 have e:=an p k [] w!;refine⟨⟨h.1,w!,?_⟩,?_⟩;rw[e];intro d H;rcases List.mem_append.1 H with q|q;exact h.2.2 d q;grind;grind[iv]
theorem av0:∀ {k:Nat},(∀d∈p.take k,(d.length:Int)=32)->k<p.length->¬((p.getD k []).length:Int)=32->p.takeWhile Mt=p.take k:=by
 induction p with
 |nil=>grind
 |cons a p i=>
  intro k h H hd;cases k with
  |zero=>simp_all[List.takeWhile_cons_of_neg,Mt,H!]
  |succ k=>
   have o:=h a z!;rw[List.takeWhile_cons_of_pos (show Mt a=true from L? o),List.take_succ_cons,i (k:=k) (λd hd=>h d (by exact F! _ hd)) (by simpa using H) hd]
theorem afh {p:O}{k:Nat}(h:aqZ p k)(o:(k:Int)<p.length)(hd:¬((p.getD k []).length:Int)=32):jb p=(iv p k,true):=by
 have H:cP p=false:=by
  grind[cQ,aU]
 unfold jb iv;rw[if_neg (by have:=h.1;omega),H,av0 h.2.2 w! hd];rfl
theorem afi{k:Nat}(h:aqZ p k)(o:¬(k:Int)<p.length):jb p=(iv p k,false):=by
 have e:k=p.length:=by have:=h.2.1;omega
 have H:cP p=true:=(cQ p).2 λd u=>by have:=h.2.2 d x!;omega
 unfold jb iv;rw[if_neg (by have:=h.1;omega),H,avY H,e,List.take_length];rfl
theorem ap4(h:(64:Int)<p.length):jb p=([],true):=by simp_all[jb,Q!]
theorem aNx{l:M (M Pf)}(H:zt l)(h:(l.length:Int)=s.length):oV s l 0:=⟨S! _,w!,H,λi k=>by omega⟩
variable {l:List (List Pf)}
theorem aGQ{k:Nat}(h:oV s l k)(H:(k:Int)<l.length)(o:¬(16:Int)<(aks l k).length):arN s l k 0:=⟨h,w!,w!,S! _⟩
theorem ap5{k j:Nat}(h:arN s l k j)(H:(j:Int)<(aks l k).length):arN s l k (j+1):=⟨h.1,h.2.1,h.2.2.1,w!⟩
theorem afj{k j:Nat}(h:arN s l k j)(H:¬(j:Int)<(aks l k).length):oV s l (k+1)/\gE n g s l k j=gj n g s l (k+1):=by
 have e:j=(aks l k).length:=by have:=h.2.2.2;omega
 refine⟨⟨by have:=h.2.1;omega,h.1.2.1,h.1.2.2.1,λi o=>?_⟩,by subst e;rfl⟩;by_cases q:i=k;subst q;exact h.2.2.1;exact h.1.2.2.2 i w!
theorem aGR{l:M (M Pf)}(h:¬(l.length:Int)=s.length):xF n g s l=([],1):=by simp_all[xF,Q!]
theorem afk{k:Nat}(H:(k:Int)<l.length)(h:(16:Int)<(aks l k).length):xF n g s l=([],1):=by
 have :WI l=false:=by
  rw[<-Bool.not_eq_true];intro q;have:=of_decide_eq_true (List.all_eq_true.1 q _ (aU l k [] w!));grind[aks]
 simp_all[xF,Q!]
theorem afl{k:Nat}(h:oV s l k)(o:¬(k:Int)<l.length):xF n g s l=(Fv (gj n g s l k),Fw (gj n g s l k)):=by
 have e:k=l.length:=by have:=h.1;omega
 subst e
 have :WI l=true:=V!.2 λx H=>by
  obtain⟨i,hi,rfl⟩:=List.mem_iff_getElem.1 H;have:=h.2.2.2 i hi;have e:aks l i=l[i]:=by simp[aks,E!,hi]
  rw[e] at this;exact L? w!
 unfold xF;rw[if_neg (by rw[this,h.2.1];simp)]
theorem ap6{k j:Nat}(h:arN s l k j)(H:(j:Int)<(aks l k).length):(pfD (aks l k) j).2.2.2.2.2.length<=1099511627776:=
 h.1.2.2.1.2 _ (aU l k [] h.2.1) _ (aU (aks l k) j aSL w!)
theorem afm{k:Nat}(h:oV s l k):(gj n g s l k).1.length<=130000000:=by
 have:=Uv n g s l k h.2.2.2;have:=h.1;have:=h.2.2.1.1;omega
theorem ap7{k j:Nat}(h:arN s l k j):(gE n g s l k j).1.length<=140000000:=by
 have:=afm (n:=n) (g:=g) h.1;have:=Kx (aks l k) j;have:=h.2.2.1;have:=h.2.2.2
 grind[gE,cat,List.length_append]
theorem av1(v:Int):(mq [] v).length<=9:=by
 grind[mq,cU]
theorem aNy(v:Int):mq [] v=(jL v).1:=by grind[mq,jL]
theorem aNz(v:Int)(d:Bool):(bif !decide (yW v=0) then true else d)=oA d (jL v):=by
 grind[yW,jL,oA,gi]
theorem WJ {n:Nat}(h:n<=1000):jL (n:Int)=(num (n:Int),false):=by
 grind[jL,Qo]
theorem afn(h:m<b.length):gn b m=([],true):=by simp_all[gn,Q!]
theorem ap8(h:¬m<b.length):gn b m=(text b,false):=by simp_all[gn,R!]
theorem ap9(h:¬(hW n g s).2=0):kL n g s=([],true):=by
 grind[cO,NC,kL]
theorem av3(h:(hW n g s).2=0):kL n g s=gn (hW n g s).1 10000/\(hW n g s).1.length<=100000:=by
 simp_all[apL,kL,Q!,ae9]
theorem av4(a b c:B8):(dw a b c).length<=200:=by
 grind[dw,Ay]
theorem aGS {a c:B8}(h:¬kJ a b c=0):eR a b c=false:=by
 grind[eR,kJ]
theorem av5 {a c:B8}(h:kJ a b c=0):eR a b c=true/\dw a b c=mc a b c:=by
 cases q:eR a b c with
 |true=>exact⟨rfl,by grind[dw]⟩
 |false=>grind[kJ]
theorem afo{p P k:B8}(h:¬kJ p P k=0):aof (p1,p,P,k,p5,p6)=((jL p1).1,true):=by
 grind[aof,aGS]
theorem aqa{p P k:B8}(h:kJ p P k=0):aof (p1,p,P,k,p5,p6)=cat (cat (cat (jL p1) (gn (dw p P k) 200)) (jb p5)) (gn p6 4000):=by
 grind[aof,av5]
theorem aEB {n:Int}{g:B8}{s:M Sg}{l:M (M Pf)}{k j:Nat}(p:Pf)(h:p=pfD (aks l k) j)(d:Bool)(b:B8)(H:d=mU (gE n g s l k j))(o:b=bytesOf (gE n g s l k j)):
  oA d (aof p)=mU (gE n g s l k (j+1))/\b++bytesOf (aof p)=bytesOf (gE n g s l k (j+1)):=by
 subst h;subst H;subst o;simp[oA,mU,bytesOf,gE,Qu,cat,Bool.or_assoc,X!,and_self]
theorem afp(h:(1048576:Int)<b.length):jd b c=3:=by simp_all[jd,Q!]
theorem afq {b:B8}(h:¬(1048576:Int)<b.length)(H:(b.length:Int)=0):jd b c=4:=by simp_all[jd,R!,Q!]
theorem aqb {b:B8}(h:¬(1048576:Int)<b.length)(H:¬(b.length:Int)=0)(k:¬((b.getD (Int.toNat 0) 0).toNat:Int)=c.toNat):jd b c=2:=by
 grind[jd]
theorem aGT {b:B8}(h:¬(1048576:Int)<b.length)(H:¬(b.length:Int)=0)(k:((b.getD (Int.toNat 0) 0).toNat:Int)=c.toNat):jd b c=0:=by
 unfold jd;grind[UInt8.toNat_inj]
theorem I5(b:B8)(a e m:Int):(ao b a e m).2.length<=b.length:=by
 grind[ao,akd]
theorem aqc(b:B8)(a e:Int)(h:0<=m):(fj b a e m).2<=m:=by
 grind[fj]
theorem av6(h:m<(ag b a e).2):fj b a e m=(((ag b a e).1.2.1,2),0):=by simp_all[fj,Q!]
theorem aGU(h:¬m<(ag b a e).2):fj b a e m=((ag b a e).1.2,(ag b a e).2):=by simp_all[fj,R!]
theorem aGV(h:¬(ao b a e 10000).1.2.2=0):ajM b a e=((ao b a e 10000).1.2,(0,[],[])):=by simp_all[ajM,Q!]
theorem av7(h:(ao b a e 10000).1.2.2=0):ajM b a e=(((ao b a e 10000).1.2.1,(hR (ao b a e 10000).2).2),(hR (ao b a e 10000).2).1):=by simp_all[ajM,R!]
theorem aGW(h:¬(ao b a e 200).1.2.2=0):lI b a e=((ao b a e 200).1.2,([],[],[])):=by simp_all[lI,Q!]
theorem av8(h:(ao b a e 200).1.2.2=0):lI b a e=(((ao b a e 200).1.2.1,(bg (ao b a e 200).2).2),(bg (ao b a e 200).2).1):=by simp_all[lI,R!]
theorem afr(b:B8)(a e:Int):∀k,(Dc b a e k).2.length=k
 |0=>rfl
 |k+1=>by simp only[Dc];rw[J!,afr b a e k];rfl
theorem WK(b:B8)(a e:Int)(k:Nat):(iw b a e k).2.length=k:=afr ..
theorem afs(b:B8)(a e:Int):∀k,(Fx b a e k).2.length=k
 |0=>rfl
 |k+1=>by simp only[Fx];rw[J!,afs b a e k];rfl
theorem av9(b:B8)(k j:Nat):(I4 b k j).2.length=j:=afs ..
theorem aft(b:B8)(a e:Int):∀k,(tG b a e k).2.length=k
 |0=>rfl
 |k+1=>by simp only[tG];rw[J!,aft b a e k];rfl
theorem awa(b:B8)(k:Nat):(kp b k).2.length=k:=aft ..
theorem WL(b:B8)(a e:Int):qT b a e<=64:=by simp_all[aqc,qT]
theorem aqd(b:B8)(k:Nat):qU b k<=16:=by simp_all[aqc,kp,qU,aan]
theorem aao {x:Nat}(h:(x:Int)<v):x+1<=v.toNat:=by omega
theorem Qx {x:Nat}(h:cC x v.toNat)(H:¬(x:Int)<v):x=v.toNat:=by grind[cC]
theorem awb(b:B8):(hR b).1.2.2.length<=64:=by
 by_cases h:(hR b).2=0;grind[sb,jq,aag];simp_all[apE,Nat.zero_le]
theorem aap(b:B8):aN b<=64:=by
 grind[aN,aH,ajM,awb]
theorem WM {b:B8}{x:Nat}(h:(x:Int)<((ajM b 1 0).2.2.2.length:Int)):x+1<=aN b:=by
 have :aN b=(ajM b 1 0).2.2.2.length:=rfl;omega
theorem aaq {b:B8}{x:Nat}(h:cC x (aN b))(H:¬(x:Int)<((ajM b 1 0).2.2.2.length:Int)):x=aN b:=by
 have :aN b=(ajM b 1 0).2.2.2.length:=rfl;grind[cC]
theorem aEC(h:¬jd b 1=0):aI b=((0,[],[],[]),jd b 1):=by simp_all[aI,Q!]
theorem aqe{k:Nat}(h:jd b 1=0)(H:k=aN b)(o:¬done b (kp b k).1.1 (kp b k).1.2=0):aI b=((0,[],[],[]),done b (kp b k).1.1 (kp b k).1.2):=by simp_all[aI,R!,Q!]
theorem aED{k:Nat}(h:jd b 1=0)(H:k=aN b)(o:done b (kp b k).1.1 (kp b k).1.2=0):aI b=(((aH b).2.1,(aH b).2.2.1,(aH b).2.2.2,(kp b k).2),0):=by simp_all[aI,R!]
theorem aGX(h:¬jd b 2=0):bx b=((0,[],[],0,[],[]),jd b 2):=by simp_all[bx,Q!]
theorem aqf(h:jd b 2=0)(H:¬done b (I3 b).1.1 (I3 b).1.2=0):bx b=((0,[],[],0,[],[]),done b (I3 b).1.1 (I3 b).1.2):=by simp_all[bx,R!,Q!]
theorem aqg(h:jd b 2=0)(H:done b (I3 b).1.1 (I3 b).1.2=0):bx b=(((Í b).2.1,(Í b).2.2.1,(Í b).2.2.2,(pg2 b).2,(pg3 b).2,(I3 b).2),0):=by simp_all[bx,R!]
theorem aYY(h:¬jd b 3=0):Ě b=((0,[],[],0,[],[],[]),jd b 3):=by simp_all[Ě,Q!]
theorem str_1(h:jd b 3=0)(H:¬done b (st3 b).1.1 (st3 b).1.2=0):Ě b=((0,[],[],0,[],[],[]),done b (st3 b).1.1 (st3 b).1.2):=by simp_all[Ě,R!,Q!]
theorem aVS(h:jd b 3=0)(H:done b (st3 b).1.1 (st3 b).1.2=0):Ě b=(((st1 b).2.1,(st1 b).2.2.1,(st1 b).2.2.2,(st2 b).2.1,(st2 b).2.2.1,(st2 b).2.2.2,(st3 b).2),0):=by simp_all[Ě,R!]
variable {l:List Sg}{s:List Int}
theorem I6(h:cO n g l=true):0<=n/\n<=1000/\g.length=32/\l.length<=64:=by
 grind[jq,sb]
theorem NF(h:gi v=false):0<=v/\v<=4611686018427387904:=by
 grind[gi,Bool.or_eq_false_iff,decide_eq_false_iff_not]
theorem WN(h:cO n g l=true):az (hB n g l)/\small (hB n g l):=by
 grind[ae9,az,small]
def qV(n:Int)(g:B8)(l:M Sg):B8×Int:=if cO n g l then(l7 3 (hB n g l),0) else([],1)
def afu(n:Int)(g:B8)(l:M Sg):B8:=pB 3 (hB n g l)
def fk(docs:O)(l:M aB):B8×Int:=
 if cy docs l then(l7 3 (hB docs.length (root (leaves docs)) (ya docs l)),0) else([],7)
def Qy(a b:B8):Bool:=decide (a=b)
def SQ(d:M bw)(ts:O):M Pf:=ts.map (aod d)
def sd(d:M bw)(ts:O)(k:Nat):M Pf:=(ts.take k).map (aod d)
def Qz(d:M bw)(ts:O):Prop:=aW d/\aK d=true/\ts.length<=1000/\∀t∈ts,isTerm t=true
def pPs(l:M aB)(ts:O):M (M Pf):=l.map λs=>SQ s.2.2 ts
def oB(l:M aB)(ts:O)(k:Nat):M (M Pf):=pPs (l.take k) ts
def rF(docs:O)(l:M aB)(q:M bj):B8×Int:=
 if cy docs l=false then([],7) else if aZ q=false then([],1)
 else xF docs.length (root (leaves docs)) (ya docs l) (pPs l (al q))
def oC(docs:O)(l:M aB)(i:Int):B8×Int:=
 if cy docs l=false then([],7) else if i<0\/(docs.length:Int)<=i then([],5)
 else Kw docs.length (root (leaves docs)) (ya docs l) i (docs.getD i.toNat []) (path (leaves docs) i)
def aNW(a b:O):Bool:=decide (a.length<=b.length)&&decide (a=b.take a.length)
variable {l:List aB}
theorem AI(h:cy docs l=true):docs.length<=1000/\(∀i,((docs.getD i []).length:Int)<=2000):=by
 have H:=(RI.of (iL.1 h).1).fair;simp[dm,Bool.and_eq_true,List.all_eq_true,decide_eq_true_eq] at H;grind
theorem nA(l:O):(leaves l).length=l.length:=by simp[leaves]
theorem aqh(h:v<16384):(num v).length<=2:=by
 grind[num,rD]
theorem aqi {l:U}(h:aV l=true):(iH l).length<=2*l.length+2:=by
 have o:=mz h
 have q:∀k,k<=l.length->((List.range k).flatMap (λi=>num (l.getD i 0-cD l i-1))).length<=2*k:=by
  intro k;induction k with
  |zero=>simp
  |succ k I=>
   intro u;have w:=Ue (aeR h (k:=k) w!);have y:=(iI l k).1 ((jI l).1 h k w!);have H:=aqh (v:=l.getD k 0-cD l k-1) w!;rw[List.range_succ,List.flatMap_append,J!];simp only[List.flatMap_cons,List.flatMap_nil,B?];omega
 have:=q l.length (M! _);have H:=aqh (v:=(l.length:Int)) w!;simp only[iH,b6,J!];omega
theorem Uw(h:aK d=true)(t:B8):aV (dN d t)=true:=by
 unfold dN;split;rename_i H;have k:=Ef H;simp_all[v8,bo]
 rfl
theorem aGY(h:aK d=true){i:Nat}(H:i<=d.length):eR (bg (apB d i)).1.1 (bg (apB d i)).1.2.1 (bg (apB d i)).1.2.2=true:=by
 rcases wa h (k:=i) with q|q;have e:apB d i=mc (if i=0 then [] else cF d (i-1)) (if i<d.length then cF d i else []) (kl (if i=0 then [] else iD d (i-1))):=rfl;grind[Qe];omega
theorem aas(h:aK d=true)(k:d.length<=1048576)(t:B8):Ì (aod d t)=true:=by
 obtain⟨f,F,f3⟩:=Å (t:=t) h;have H:(leaves (dW d)).length=d.length+1:=by rw[nA,f3]
 refine Ut.2 ⟨Qo f (by grind[aod]),aGY h w!,?_,aal _ _ _ rfl (kn _),?_⟩;have:=apP (l:=leaves (dW d)) (i:=bo d t+1) (t:=21) f w! w!;grind[aod];grind[aod,Uw,aqi,mz]
theorem aqj(h:aK d=true)(H:d.length<=1048576)(ts:O):∀p∈SQ d ts,Ì p=true:=by
 intro p G;obtain⟨t,_,rfl⟩:=List.mem_map.1 G;grind[aas]
theorem Eo(h:cy docs l=true):∀s∈l,aK s.2.2=true/\s.2.2.length<=1048576/\aW s.2.2:=by
 intro s k;have R:=RI.of (iL.1 h).1;obtain⟨o,H,_⟩:=R.seg s k;refine⟨?_,H.1,H⟩;have :eS s.1 s.2.1 s.2.2=true:=o;simp[eS,Bool.and_eq_true] at this;grind
theorem aqk(h:cy docs l=true)(k:ts.length<=16):∀x∈pPs l ts,(x.length:Int)<=16/\∀p∈x,Ì p=true:=by
 intro x H;obtain⟨s,o,rfl⟩:=List.mem_map.1 H;grind[Eo,SQ,aqj]
theorem Mu(h:cy docs l=true):(ya docs l).length=l.length:=by
 grind[ya,iK,iL,List.length_map]
def tH(docs:O)(l:M aB):B8:=afu docs.length (root (leaves docs)) (ya docs l)
def hx(l:M qd):Qi:=(bS (eZ l).1 (eZ l).2).1
def aEE(l m:M qd)(k:Nat):Qi:=mT (hx l) m k
theorem aGZ{l:M Sg}(h:¬(hW n g l).2=0):qV n g l=([],1)/\(hW n g l).2=1:=by
 grind[cO,NC,aai,qV]
theorem awc{l:M Sg}(h:(hW n g l).2=0):qV n g l=(l7 3 (hW n g l).1,0)/\az (hW n g l).1:=by
 simp_all[apL,qV,Q!,WN]
theorem aat(h:¬(gI docs l).2=0):cy docs l=false:=by
 grind[En]
theorem uJ(h:(gI docs l).2=0):cy docs l=true/\(gI docs l).1.1=(docs.length:Int)/\(gI docs l).1.2.1=root (leaves docs)/\(gI docs l).1.2.2=ya docs l:=by
 grind[cy,En,apK]
theorem aG0(h:¬(gI docs l).2=0):fk docs l=([],7):=by grind[fk,aat]
theorem awd(h:(gI docs l).2=0):qV (gI docs l).1.1 (gI docs l).1.2.1 (gI docs l).1.2.2=fk docs l:=by
 simp_all[uJ,fk,qV,Q!,wk]
theorem Mv(h:isTerm t=true):small t:=by grind[CU,small]
theorem awe(d:M bw)(ts:O)(k:Nat):(sd d ts k).length<=ts.length:=by grind[sd,List.length_take]
theorem aql{k:Nat}(h:(k:Int)<ts.length):sd d ts k++[aod d (ts.getD (Int.toNat (k:Int)) [])]=sd d ts (k+1):=by
 grind[Int.toNat_natCast,sd,an]
theorem awf{k:Nat}(h:dX ts k)(H:¬(k:Int)<ts.length):sd d ts k=SQ d ts:=by
 grind[dX,sd,SQ,List.take_length]
theorem aG1(h:Qz d ts){k:Nat}(H:(k:Int)<ts.length):isTerm (ts.getD (Int.toNat (k:Int)) [])=true:=by
 exact h.2.2.2 _ (aU ts k [] w!)
theorem awg(l:M aB)(ts:O)(k:Nat):(oB l ts k).length<=l.length:=by grind[oB,pPs,List.length_take]
theorem aqm{k:Nat}(h:(k:Int)<l.length):oB l ts k++[SQ (l.getD (Int.toNat (k:Int)) (0,0,[])).2.2 ts]=oB l ts (k+1):=by
 grind[Int.toNat_natCast,oB,pPs,an]
theorem awh{k:Nat}(h:dX l k)(H:¬(k:Int)<l.length):oB l ts k=pPs l ts:=by
 grind[dX,oB,List.take_length]
theorem Ux(h:cy docs l=true):l.length<=64:=by simpa[fT] using(RI.of (iL.1 h).1).le
theorem GI(h:cy docs l=true):dj docs/\eX (leaves docs)/\small (leaves docs):=by
 obtain⟨k,H⟩:=GF (iL.1 h).1;exact⟨k,H,H⟩
theorem awi(h:cy docs l=true)(H:aZ q=true){k:Nat}(o:(k:Int)<l.length):Qz (l.getD (Int.toNat (k:Int)) (0,0,[])).2.2 (al q):=by
 obtain⟨f,u,F⟩:=Eo h _ (aU l k (0,0,[]) w!);exact⟨F,f,by grind[qe],È H⟩
theorem aG2(h:¬(gI docs l).2=0):rF docs l q=([],7):=by simp_all[rF,Q!,aat]
theorem awj {docs:O}{l:M aB}(h:(gI docs l).2=0)(H:aZ q=false):rF docs l q=([],1):=by
 simp_all[rF,R!,uJ,Q!]
theorem awk(h:cy docs l=true)(H:aZ q=true){k:Nat}(h1:dX l k)(hk:¬(k:Int)<l.length):
  xF ((len docs:Nat):Int) (root (leaves docs)) (ya docs l) (oB l (al q) k)=rF docs l q/\zt (oB l (al q) k):=by
 rw[awh h1 hk];refine⟨by unfold rF;rw[if_neg x!,if_neg x!];rfl,?_,?_⟩;grind[Ux,pPs];intro x o p u;have:=(Ut.1 ((aqk h (qe H) x o).2 p u)).2.2.2.2;omega
theorem aG3(h:¬(gI docs l).2=0):oC docs l i=([],7):=by simp_all[oC,Q!,aat]
theorem awl {docs:O}{l:M aB}(h:(gI docs l).2=0)(H:i<0\/(docs.length:Int)<=i):oC docs l i=([],5):=by
 simp_all[oC,R!,uJ,Q!]
theorem afv {docs:O}{l:M aB}(h:(gI docs l).2=0)(H:¬i<0/\¬(docs.length:Int)<=i):
  tF (leaves docs) i=0/\Kw (gI docs l).1.1 (gI docs l).1.2.1 (gI docs l).1.2.2 i (docs.getD i.toNat []) (oz (leaves docs) i)=oC docs l i/\(docs.getD i.toNat []).length<=1099511627776:=by
 obtain⟨k,o,u,w⟩:=uJ h;have q:cP (leaves docs)=true/\0<=i/\i<(leaves docs).length:=⟨kn docs,w!,by grind[nA]⟩;refine⟨by simp_all[tF,if_pos],?_,by grind[AI]⟩;simp_all[oC,oz,if_pos,if_neg]
theorem aYZ(a b:O):(bif decide ((a.length:Int)<=b.length) then auD a (b.take (Int.toNat (a.length:Int))) else false)=aNW a b:=by
 grind[Int.toNat_natCast,aNW,auD,decide_eq_true,decide_eq_false]
def kx:Qi:=([yo],[(0,1,[(yo,[0])])])
theorem aqn:dq jK:=⟨by unfold small;decide,by unfold small;decide⟩
theorem aqo(h:cy docs l=true):fk docs l=(tH docs l,0):=by unfold fk;rw[if_pos h];rfl
def EH(n:Int)(g:B8)(l:M Sg)(r:B8):Bool:=decide ((qV n g l).2=0)&&decide ((qV n g l).1=r)
def qW(a:M (M Pf))(i:Int)(t:O):Bool:=decide ((a.getD i.toNat []).length=t.length)
def yp(l:U)(a b:Int)(k:Nat):Prop:=∀j,j<k->a<=l.getD j 0/\l.getD j 0<b
def xG(l:U)(a b:Int):Bool:=l.all λx=>decide (a<=x)&&decide (x<b)
theorem awm{l:M Sg}{r:B8}:(bif decide ((qV n g l).2=0) then decide ((qV n g l).1=r) else false)=EH n g l r:=by
 grind[decide,qV,EH]
variable {l:List Int}{d:B8}
theorem AJ{b:Int}{k:Nat}(h:yp l a b k)(H:a<=l.getD k 0)(o:l.getD k 0<b):yp l a b (k+1):=λj u=>by
 by_cases S:j=k;grind;exact h j w!
theorem Ep{b:Int}{k:Nat}(h:yp l a b k)(o:l.length<=k):xG l a b=true:=by
 simp[xG,List.all_eq_true,Bool.and_eq_true,decide_eq_true_eq];intro x H;obtain⟨j,u,rfl⟩:=List.getElem_of_mem H;have:=h j w!;grind
theorem I7{b:Int}{k:Nat}(hk:k<l.length)(h:l.getD k 0<a\/b<=l.getD k 0):xG l a b=false:=by
 rw[Bool.eq_false_iff];intro H;simp[xG,V!,B!,H!] at H;have:=H l[k] (List.getElem_mem hk);rw[E!,C! hk] at h;simp at h;omega
theorem aNA(h:ob i n):j4 i n (i,n,[]):=⟨h.1,h.2.1,Int.le_refl _,z!,z!⟩
theorem QA(H:ob i n)(h:j4 i n x)(k:1<x.2.1):
  split x.2.1=((sp x.2.1.toNat:Nat):Int)/\1<=split x.2.1/\split x.2.1<x.2.1/\x.2.1<=1099511627776/\x.2.2.length<=1099511627776/\0<=x.1/\x.1<x.2.1:=by
 have⟨_,_,p⟩:=H;have⟨q,Q,o,_,u⟩:=h;grind[Aw,iY]
theorem aNB(H:ob i n)(h:j4 i n x)(k:1<x.2.1)(o:x.1<split x.2.1):j4 i n (x.1,split x.2.1,x.2.2++[false]):=by
 have⟨b,B,u,w,y,_⟩:=QA H h k;have⟨q,Q,z,A,C⟩:=h;refine⟨q,o,x!,?_,x!⟩;grind[zn]
theorem aNC(H:ob i n)(h:j4 i n x)(k:1<x.2.1)(o:¬x.1<split x.2.1):j4 i n (x.1-split x.2.1,x.2.1-split x.2.1,x.2.2++[true]):=by
 have⟨b,B,u,w,y,_⟩:=QA H h k;have⟨q,Q,z,A,C⟩:=h;refine⟨w!,x!,x!,?_,x!⟩;grind[zo]
theorem sd_end(h:j4 i n x)(H:¬1<x.2.1):x.2.2=cq i n:=by
 rw[h.2.2.2.1,wo w!];simp
theorem aau(hp:ob i n):((cq i n).length:Int)<=1099511627776:=by
 have :∀m:Nat,∀i n:Int,n.toNat=m->0<=i->i<n->((cq i n).length)+1<=n:=by
  intro m;induction m using wu with
  |h0 m hm=>grind[wo]
  |h1 m hm ihl ihr=>
   intro i n e h0 h1;have hb:=iY hm;by_cases hi:i<((sp n.toNat:Nat));rw[zn w! hi];have:=ihl i ((sp n.toNat:Nat)) (by rw[e];simp) h0 hi;simp;rw[e] at this |-;omega;rw[zo w! hi];have:=ihr (i-((sp n.toNat:Nat):Int)) (n-((sp n.toNat:Nat):Int)) (by rw[e];omega) w! w!;simp;rw[e] at this |-;omega
 have:=this n.toNat i n rfl hp.1 hp.2.1;have:=hp.2.2;omega
theorem aG4 {d:B8}(h:¬((d.length:Int)=32/\1<=n/\n<=1099511627776/\0<=i/\i<n)): []=jO d i n p/\1=cB d i n p:=by
 simp_all[cB,R!,jO]
theorem afw {d:B8}(h:(d.length:Int)=32/\1<=n/\n<=1099511627776/\0<=i/\i<n):ob i n:=⟨h.2.2.2.1,h.2.2.2.2,h.2.2.1⟩
theorem awn {d:B8}{i n:Int}{p:O}(h:(d.length:Int)=32/\1<=n/\n<=1099511627776/\0<=i/\i<n)(H:¬((p.length:Int)=((cq i n).length:Int)/\cP p=true)): []=jO d i n p/\6=cB d i n p:=by
 have :cB d i n p=6:=by rw[cB,Q! h];exact R! H
 grind[jO]
theorem aG5 {d:B8}{i n:Int}{p:O}(h:(d.length:Int)=32/\1<=n/\n<=1099511627776/\0<=i/\i<n)(H:(p.length:Int)=((cq i n).length:Int)/\cP p=true):cB d i n p=0:=by
 rw[cB,Q! h];exact Q! H
theorem auv(h:cB d i n p=0):((d.length:Int)=32/\1<=n/\n<=1099511627776/\0<=i/\i<n)/\(p.length:Int)=((cq i n).length:Int)/\cP p=true:=by
 unfold cB at h;split at h;rename_i H;split at h;rename_i k;exact⟨H,k⟩;omega;omega
theorem aND(d:B8)(i n:Int)(p:O):d=cL d i n p 0:=by rfl
theorem Ð{k:Nat}(h:cB d i n p=0)(hk:k<p.length):
  (bif (cq i n).getD (((cq i n).length:Int)-1-(k:Int)).toNat false then bz (p.getD k []) (cL d i n p k) else bz (cL d i n p k) (p.getD k []))=cL d i n p (k+1):=by
 have⟨_,H,_⟩:=auv h;have hz:k<(List.zip (cq i n).reverse p).length:=by grind
 have e:cL d i n p (k+1)=O5 (cL d i n p k) ((List.zip _ p)[k]):=by
  unfold cL;rw[List.take_add_one,List.getElem?_eq_getElem hz,List.foldl_append];rfl
 rw[e,List.getElem_zip,List.getElem_reverse];have E:(((cq i n).length:Int)-1-k).toNat=(cq i n).length-1-k:=by omega
 rw[E,E!,C! w!,E!,C! hk];cases (cq i n)[(cq i n).length-1-k]<;>rfl
theorem awo{k:Nat}(h:cB d i n p=0)(H:p.length<=k):cL d i n p k=jO d i n p:=by
 rw[jO,if_pos h,apO,ko,cL,List.take_of_length_le];grind
def Ky(n:Int)(g d:B8)(p:O)(i:Int):Bool:=decide (cB (leaf d) i n p=0)&&decide (jO (leaf d) i n p=g)
abbrev Pg:=Int×B8×M Sg×Int×B8×O
def afx(r:B8)(i:Int)(p:Pg):Bool:=EH p.1 p.2.1 p.2.2.1 r&&(decide (p.2.2.2.1=i)&&Ky p.1 p.2.1 p.2.2.2.2.1 p.2.2.2.2.2 i)
def uc(r:B8)(i:Int)(b:B8):B8×Int:=
 if ¬r.length=32 then([],1) else if ¬(bx b).2=0 then([],(bx b).2) else if afx r i (bx b).1 then((bx b).1.2.2.2.2.1,0) else([],6)
theorem Ñ(b:B8):eX (bx b).1.2.2.2.2.2:=by
 unfold bx;split;exact Nat.zero_le _;split;exact Nat.zero_le _;show(I3 b).2.length<=_;grind[I3,aur,WK,WL]
theorem afy(b:B8):(bx b).1.2.2.2.2.1.length<=b.length:=by
 unfold bx;split;grind;split;grind;exact I5 _ _ _ _
theorem aqp(h:b.length<1099511627776):eX (bx b).1.2.2.2.2.2/\az (bx b).1.2.2.2.2.1:=⟨Ñ b,Nat.lt_of_le_of_lt (afy b) h⟩
theorem aG6 {r:B8}(h:¬(r.length:Int)=32):uc r i b=([],1):=by rw[uc,Q! w!]
theorem aG7 {r:B8}(h:(r.length:Int)=32)(H:¬(bx b).2=0):uc r i b=([],(bx b).2):=by rw[uc,R! w!,Q! H]
theorem aqq {r:B8}(h:(r.length:Int)=32)(H:(bx b).2=0):uc r i b=if afx r i (bx b).1 then((bx b).1.2.2.2.2.1,0) else([],6):=by rw[uc,R! w!,R! w!]
def Kz:U:=(List.range 1000).map Int.ofNat
abbrev Kp:=Bool->Bool->Bool
def Br:Kp:=λx y=>x&&y
def QB:Kp:=λx y=>x || y
def Bs:Kp:=λx y=>x&& !y
def wy(k:Kp)(a b:U):U:=Kz.filter λn=>k (qa a n) (qa b n)
def wz(k:Kp)(a b:U):U:=wy k (tA a) (tA b)
def AK(a b:U):U:=wz Br a b
def qX(a b:U):U:=wz QB a b
def I8(a b:U):U:=wz Bs a b
abbrev Pk:=U×U×U
def mG(k:Kp)(a b:U)(x:Pk):Prop:=x.2.2++wy k x.1 x.2.1=wz k a b/\aV x.1=true/\aV x.2.1=true
def je(x:Pk):Nat:=x.1.length+x.2.1.length
def opL(o:Int)(a b:U):U:=if o=1 then AK a b else if o=2 then qX a b else I8 a b
def mV(f:B8->U)(s:M U)(o:bj):M U:=
 if o.1=0 then s++[f o.2] else s.take (s.length-2)++[opL o.1 (s.getD (s.length-2) []) (s.getD (s.length-1) [])]
def jU(f:B8->U)(l:M bj)(k:Nat):M U:=(l.take k).foldl (mV f) []
def mH(x:O)(t:B8):Nat:=(x.filter λa=>Op.bytesLess a t).length
def Bt(x:O)(t:B8):Bool:=decide (t∈x)
def od(t:O)(f:M U)(s:B8):U:=if Bt t s then f.getD (mH t s) [] else []
def Dd(l:M bj)(t:O)(f:M U):U:=(jU (od t f) l l.length).getD 0 []
def lO(l:M bj)(f:M U):Bool:=aZ l&&(decide (f.length=(al l).length)&&f.all aV)
def iM(l:M bj)(f:M U):U×Int:=if lO l f then(Dd l (al l) f,0) else([],1)
def yq(x:O):Prop:=qM x/\small x
def qY(x:O)(t:B8)(i j:Int):Prop:=0<=i/\i<=j/\j<=x.length/\(∀k:Nat,(k:Int)<i->Op.bytesLess (x.getD k []) t=true)/\∀k:Nat,j<=(k:Int)->k<x.length->Op.bytesLess (x.getD k []) t=false
def pn(b:B8):Nat->Int->Int->Int->U->U×Int
 |0,a,e,_,l=>if done b a e=0 then(l,0) else([],done b a e)
 |n+1,a,e,p,l=>
  if(ag b a e).1.2.2≠0 then([],(ag b a e).1.2.2)
  else if 998-p<(ag b a e).2 then([],2)
  else pn b n (ag b a e).1.2.1 (ag b a e).1.2.2 (p+((ag b a e).2+1)) (l++[p+((ag b a e).2+1)])
def oe(b:B8):Rd×Int:=ag b 0 0
def cu(b:B8):U×Int:=
 if(oe b).1.2.2≠0 then([],(oe b).1.2.2) else if 1000<(oe b).2 then([],2) else pn b (oe b).2.toNat (oe b).1.2.1 (oe b).1.2.2 (-1) []
abbrev Pr:=Int×Int×Int×U
def wA(b:B8)(k:Nat)(x:Pr):Prop:=(k:Int)<=(oe b).2/\(oe b).1.2.2=0/\(oe b).2<=1000/\pn b ((oe b).2.toNat-k) x.1 x.2.1 x.2.2.1 x.2.2.2=cu b/\ -1<=x.2.2.1/\x.2.2.1<=999/\x.2.2.2.length=k
def I9(t:B8)(e:Int)(p P p6:B8):Bool:=decide (p=t)&&(decide (e=0)&&decide (l7 2 p6=P))
def Ja(t P p p6:B8):Bool:=Op.bytesLess P t&&((Op.bytesLess t p || decide (p=[]))&&decide (p6.length=0))
def WO(p P h:B8):B8:=leaf (mc p P h)
def De(r:B8)(n:Int)(t:B8):Bool:=decide ((r.length:Int)=32)&&(decide (1<=n)&&(decide (n<=1099511627776)&&isTerm t))
def Nf(r:B8)(n:Int)(p:Pf):Bool:=eR p.2.1 p.2.2.1 p.2.2.2.1&&(decide (cB (WO p.2.1 p.2.2.1 p.2.2.2.1) p.1 n p.2.2.2.2.1=0)&&decide (jO (WO p.2.1 p.2.2.1 p.2.2.2.1) p.1 n p.2.2.2.2.1=r))
def Jb(t:B8)(p:Pf):U×Int:=
 if I9 t (cu p.2.2.2.2.2).2 p.2.1 p.2.2.2.1 p.2.2.2.2.2 then((cu p.2.2.2.2.2).1,0) else if Ja t p.2.1 p.2.2.1 p.2.2.2.2.2 then([],0) else([],6)
def jr(r:B8)(n:Int)(t:B8)(p:Pf):U×Int:=if De r n t then(if Nf r n p then Jb t p else([],6)) else([],1)
def Jc(l:M U)(x:U):M U:=l++[x]
def Df(t:O)(f:M U):Prop:=yq t/\f.length=t.length/\∀x∈f,aV x=true
def sH(l:M U):Prop:=2<=l.length/\small l
def tI(o:Int)(l:M U):M U:=l.take (l.length-2)++[opL o (l.getD (l.length-2) []) (l.getD (l.length-1) [])]
def GJ(l:M bj)(t:O)(f:M U):Prop:=aZ l=true/\small l/\Df t f
def pI(l:M bj)(s:M U)(k:Nat):Prop:=k<=l.length/\(s.length:Int)=c9 l k
def GK(f:M U)(k:Nat):Prop:=k<=f.length/\∀x∈f.take k,aV x=true
def wB(t:B8)(p5:O)(p6:B8):Prop:=small t/\eX p5/\az p6/\small p6
def og(r:B8)(n:Int)(t:B8)(p:Pf)(k:Nat):Prop:=k<=2/\De r n t=true/\Nf r n p=true/\(1<=k->I9 t (cu p.2.2.2.2.2).2 p.2.1 p.2.2.2.1 p.2.2.2.2.2=false)/\(2<=k->Ja t p.2.1 p.2.2.1 p.2.2.2.2.2=false)
theorem QC:∀ {l m:U},l.Pairwise (· < ·)->m.Pairwise (· < ·)->(∀x,x∈l↔x∈m)->l=m
 |[],[],_,_,_=>rfl
 |[],y::m,_,_,h=>by grind[List.mem_cons_self]
 |x::l,[],_,_,h=>by grind[List.mem_cons_self]
 |x::l,y::m,H,hm,h=>by
  rw[W?] at H hm
  have k:x=y:=by
   rcases O!.1 ((h x).1 (G! ..)) with e|e;exact e;rcases O!.1 ((h y).2 (G! ..)) with e'|e';exact e'.symm;have:=H.1 y e';have:=hm.1 x e;omega
  subst k;refine congrArg _ (QC H.2 hm.2 λz=>⟨λo=>?_,λo=>?_⟩)<;>grind
theorem aaw:n∈Kz↔0<=n/\n<1000:=by
 simp[Kz,List.mem_map,List.mem_range];constructor;grind;rintro⟨h,H⟩;exact⟨n.toNat,w!,x!⟩
theorem aax:Kz.Pairwise (· < ·):=by
 rw[Kz,List.pairwise_map];exact List.pairwise_lt_range.imp λh=>by grind
variable {a:List Int}{p:Pf}
theorem pJ {k:Kp}{b:U}{x:Int}:x∈wy k a b↔(0<=x/\x<1000)/\k (qa a x) (qa b x)=true:=by
 rw[wy,List.mem_filter,aaw]
theorem AL(k:Kp)(a b:U):(wy k a b).Pairwise (· < ·):=aax.filter _
theorem aay(k:Kp)(a b:U):(wy k a b).length<=1000:=by
 refine b? (List.length_filter_le _ _) ?_;simp[Kz]
theorem xH {x:Int}(h:aV (x::l)=true):(0<=x/\x<1000)/\aV l=true/\∀y∈l,x<y:=by
 rw[jI] at h;have H:=(iI _ _).1 (h 0 z!)
 have k:∀i,i<l.length->(x::l).getD i 0<l.getD i 0/\l.getD i 0<1000:=λi hi=>by
  have:=(iI _ _).1 (h (i+1) x!);grind[lT]
 have o:∀i,i<l.length->x<l.getD i 0:=by
  intro i;induction i<;>grind
 rw[vZ] at H;simp at H;refine⟨⟨w!,H.2⟩,(jI l).2 λi hi=>(iI _ _).2 ⟨?_,(k i hi).2⟩,λy u=>?_⟩;cases i<;>grind[vZ,lT];obtain⟨i,hi,rfl⟩:=List.getElem_of_mem u;have:=o i hi;rwa [List.getD_eq_getElem?_getD,List.getElem?_eq_getElem hi] at this
def jQ(r s:U):Bool:=bif decide ((0:Int)<(r.length:Int)) then bif decide ((s.length:Int)=(0:Int)) then true else decide (r.getD (Int.toNat (0:Int)) 0<=s.getD (Int.toNat (0:Int)) 0) else false
def Jd(r s:U):Int:=bif jQ s r then s.getD (Int.toNat (0:Int)) 0 else bif jQ r s then r.getD (Int.toNat (0:Int)) 0 else 0
def pK(c:Bool)(r:U):U:=bif c then r.drop (Int.toNat (1:Int)) else r
def QE(r R:U)(c:Bool)(n:Int):Prop:=(∀x,x∈r↔x∈R\/(c=true/\x=n))/\(∀x∈R,n<x)/\aV R=true
theorem Uy(H:aV r=true)(h:aV s=true)(d:0<r.length\/0<s.length):
  (0<=Jd r s/\Jd r s<1000)/\QE r (pK (jQ r s) r) (jQ r s) (Jd r s)/\QE s (pK (jQ s r) s) (jQ s r) (Jd r s)/\(pK (jQ r s) r).length+(pK (jQ s r) s).length<r.length+s.length:=by
 cases r with
 |nil=>
  cases s with
  |nil=>grind
  |cons y s=>
   have⟨k,o,u⟩:=xH h;grind[jQ,Jd,pK,QE,List.length_nil,List.length_cons]
 |cons x r=>
  have⟨g,G,w⟩:=xH H;cases s with
  |nil=>
   grind[jQ,Jd,pK,QE,List.length_nil,List.length_cons]
  |cons y s=>
   have⟨k,o,u⟩:=xH h
   have e:jQ (x::r) (y::s)=decide (x<=y):=by
    grind[jQ,List.length_cons,decide_eq_true,decide_eq_false]
   have E:jQ (y::s) (x::r)=decide (y<=x):=by
    grind[jQ,List.length_cons,decide_eq_true,decide_eq_false]
   grind[Jd,pK,QE]
theorem awp {k:Kp}(hk:k false false=false)(w:aV r=true)(z:aV s=true)(d:0<r.length\/0<s.length):
  wy k r s=(if k (jQ r s) (jQ s r)=true then [Jd r s] else [])++wy k (pK (jQ r s) r) (pK (jQ s r) s):=by
 obtain⟨C,⟨D,a,_⟩,⟨E,b,_⟩,_⟩:=Uy w z d;generalize Jd r s=n at *;generalize pK _ r=R at *;generalize pK _ s=S at *;generalize jQ r s=A at *;generalize jQ s r=B at *
 have F:qa R n=false/\qa S n=false:=by
  grind[qa,decide_eq_false_iff_not]
 have h:∀x,qa r x=(qa R x || (A&&decide (x=n))):=λx=>by
  simp_all[qa,H!,Y?,B!]
 have H:∀x,qa s x=(qa S x || (B&&decide (x=n))):=λx=>by
  simp_all[qa,H!,Y?,B!]
 refine QC (AL k r s) ?_ λx=>?_
 . split
   . rw[List.singleton_append];refine W?.2 ⟨λy o=>?_,AL k R S⟩;rw[pJ] at o;cases h1:qa R y with
     |true=>exact a y (by simpa[qa] using h1)
     |false=>
      cases u:qa S y with
      |true=>exact b y (by simpa[qa] using u)
      |false=>rw[h1,u,hk] at o;cases o.2
   rw[o?];exact AL k R S
 rw[pJ,h,H,List.mem_append,pJ];grind
theorem Uz(l:U):aV (tA l)=true:=by
 unfold tA;split;omega;rfl
theorem Er(l:U):(bif !aV l then [] else l)=tA l:=by
 grind[tA,aV]
theorem aqr(k:Kp)(a b:U):mG k a b (tA a,tA b,[]):=⟨o? _,Uz a,Uz b⟩
theorem WQ {k:Kp}(o:k false false=false){b:U}{x:Pk}(h:mG k a b x)(u:(bif decide ((0:Int)<(x.1.length:Int)) then true else decide ((0:Int)<(x.2.1.length:Int)))=false):x.2.2=wz k a b:=by
 have⟨w,_,_⟩:=h
 have e:x.1=[]:=by
  simp_all
 have E:x.2.1=[]:=by
  simp_all
 have :wy k [] []=[]:=List.eq_nil_iff_forall_not_mem.2 λy H=>by
  rw[pJ] at H;have :qa [] y=false:=rfl;grind
 grind
theorem mw(h:jQ r s=true):(0:Int)<(r.length:Int)/\(1:Int)<=(r.length:Int):=by
 grind[jQ]
theorem aaz {k:Kp}(y:k false false=false){b:U}{x:Pk}(h:mG k a b x)(B:(bif decide ((0:Int)<(x.1.length:Int)) then true else decide ((0:Int)<(x.2.1.length:Int)))=true):
  x.2.2.length<=1000/\(k (jQ x.1 x.2.1) (jQ x.2.1 x.1)=true->mG k a b (pK (jQ x.1 x.2.1) x.1,pK (jQ x.2.1 x.1) x.2.1,x.2.2++[Jd x.1 x.2.1]))/\(k (jQ x.1 x.2.1) (jQ x.2.1 x.1)=false->mG k a b (pK (jQ x.1 x.2.1) x.1,pK (jQ x.2.1 x.1) x.2.1,x.2.2))/\
  je (pK (jQ x.1 x.2.1) x.1,pK (jQ x.2.1 x.1) x.2.1,x.2.2++[Jd x.1 x.2.1])<je x/\je (pK (jQ x.1 x.2.1) x.1,pK (jQ x.2.1 x.1) x.2.1,x.2.2)<je x:=by
 have⟨z,o,u⟩:=h
 have d:0<x.1.length\/0<x.2.1.length:=by
  grind
 have⟨_,⟨_,_,f⟩,⟨_,_,F⟩,w⟩:=Uy o u d;have C:=awp y o u d;have H:=congrArg List.length z;rw[List.length_append] at H;have:=aay k (tA a) (tA b);refine⟨?_,λA=>⟨?_,f,F⟩,λA=>⟨?_,f,F⟩,w,w⟩;unfold wz at H;omega;grind;grind
variable {x:List B8}{s:B8}{l:List bj}
theorem Je(H:yq x)(h:qY x t i j)(B:i<j):
  (i+j)%18446744073709551616/2^Int.toNat 1=(i+j)/2/\0<=i/\i<=(i+j)/2/\(i+j)/2<j/\j<=x.length/\(x.length:Int)<=1099511627776:=by
 have k:=H.2;unfold small at k;have⟨o,u,w,_⟩:=h;grind
theorem QG(h:qM x){a b:Nat}(k:a<b)(H:b<x.length):Op.bytesLess (x.getD a []) (x.getD b [])=true:=by
 rw[E!,C! w!,E!,C! H];exact List.pairwise_iff_getElem.1 h a b _ H k
theorem aG8(H:yq x)(h:qY x t i j)(z:i<=m)(A:m<j)(o:Op.bytesLess (x.getD m.toNat []) t=true):qY x t (m+1) j:=by
 have⟨B,C,u,D,w⟩:=h;refine⟨w!,w!,u,λk E=>?_,w⟩;by_cases y:k=m.toNat;grind;exact iC _ _ _ (QG H.1 (show k<m.toNat by omega) w!) o
theorem aG9(H:yq x)(h:qY x t i j)(o:i<=m)(A:m<j)(B:Op.bytesLess (x.getD m.toNat []) t=false):qY x t i m:=by
 have⟨u,C,D,w,E⟩:=h;refine⟨u,o,w!,w,λk F V=>?_⟩;by_cases y:k=m.toNat;grind;rw[Bool.eq_false_iff];intro z;have:=iC _ _ _ (QG H.1 (show m.toNat<k by omega) V) z;grind
theorem aHa(H:yq x)(h:qY x t i j)(k:i<=m)(o:m<j):
  qY x t (bif Op.bytesLess (x.getD m.toNat []) t then m+1 else i) (bif Op.bytesLess (x.getD m.toNat []) t then j else m)/\
  ((bif Op.bytesLess (x.getD m.toNat []) t then j else m)-(bif Op.bytesLess (x.getD m.toNat []) t then m+1 else i)).toNat<(j-i).toNat:=by
 grind[aG8,aG9]
theorem afz(h:qY x t i j)(B:¬i<j):i=(mH x t:Int):=by
 obtain⟨w,y,z,o,A⟩:=h
 have e:x.filter (λa=>Op.bytesLess a t)=x.take j.toNat:=by
  conv=>lhs;rw[<-O? j.toNat x]
  have E:(x.take j.toNat).filter (λa=>Op.bytesLess a t)=x.take j.toNat:=List.filter_eq_self.2 λa H=>by
   obtain⟨k,u,rfl⟩:=l? H;rw[C?] at u;have:=o k w!;rw[E!,C! w!] at this;rw[List.getElem_take];exact this
  have C:(x.drop j.toNat).filter (λa=>Op.bytesLess a t)=[]:=List.filter_eq_nil_iff.2 λa H=>by
   grind[List.getElem_of_mem]
  grind
 grind[mH,List.length_take]
theorem awq(u:yq x)(h:qY x t i j)(D:¬i<j):
  (bif decide (i<(x.length:Int)) then bif decide (x.getD i.toNat []=t) then true else bif false then false else false else false)=Bt x t:=by
 have⟨E,F,G,w,y⟩:=h;have z:j=i:=by omega
 subst z;rw[Bt,Bool.eq_iff_iff];have e:∀a b:Bool,(bif a then bif b then true else bif false then false else false else false)=true↔a=true/\b=true:=by decide
 rw[e,decide_eq_true_eq,decide_eq_true_eq,decide_eq_true_eq];constructor;grind;intro B;obtain⟨k,hk,rfl⟩:=List.getElem_of_mem B;have H:x.getD k []=x[k]:=by rw[List.getD_eq_getElem?_getD,List.getElem?_eq_getElem hk];rfl
 have C:j<=k:=by
  apply Classical.byContradiction;intro I;have:=w k w!;rw[H,cJ] at this;cases this
 refine⟨w!,?_⟩;by_cases A:k=j.toNat;rw[<-A];exact H;have h1:=QG u.1 (show j.toNat<k by omega) hk;have o:=y j.toNat w! w!;rw[H] at h1;rw[h1] at o;cases o
theorem afA(h:Bt x t=true):mH x t<x.length:=by
 have H:t∈x:=of_decide_eq_true h;grind[mH,Nat.not_le,List.filter_eq_self,List.Sublist.eq_of_length_le,List.filter_sublist,cJ]
variable {t:List B8}{x:Pr}{a:B8}
theorem aaA(k:Df t f)(h:(!Bt t s)=false):(0<=(mH t s:Int)/\(mH t s:Int)<(f.length:Int))/\small (f.getD (Int.toNat (mH t s:Int)) [])/\f.getD (Int.toNat (mH t s:Int)) []=od t f s:=by
 have H:Bt t s=true:=by grind
 have o:=afA H;have⟨_,u,w⟩:=k;rw[Int.toNat_natCast];refine⟨⟨w!,w!⟩,?_,by rw[od,if_pos H]⟩;grind[mz,aU,mH,small]
theorem awr(h:(!Bt t s)=true): []=od t f s:=by
 simp_all[Bt,od,R!]
theorem aws(f:B8->U)(l:M bj): []=jU f l 0:=by rfl
variable {f:B8->List Int}{s:List (List Int)}
theorem GL{k:Nat}(hk:k<l.length):jU f l (k+1)=mV f (jU f l k) (l.getD k (0,[])):=by
 rw[jU,an l k _ hk,List.foldl_append];rfl
theorem aqs {o:Int}(h:2<=s.length):(tI o s).length=s.length-1:=by
 grind[tI,List.length_append,List.length_take]
theorem Ò{k:Nat}(H:(k:Int)<l.length)(h:(cM l k).1=0):Jc (jU f l k) (f (cM l k).2)=jU f l (k+1):=by
 rw[GL w!];show _=mV f _ (cM l k);rw[mV,Q! h];rfl
theorem NG{l:M bj}{k:Nat}{o:Int}(H:(k:Int)<l.length)(h:(cM l k).1=o)(u:o≠0):tI o (jU f l k)=jU f l (k+1):=by
 rw[GL w!];show _=mV f _ (cM l k);rw[mV,R! w!,<-h];rfl
theorem aNF(h:aZ l=true){k:Nat}(H:(k:Int)<l.length):wx l k=true:=by
 simp_all[aZ,B!,V!,f?]
theorem Jf(h:aZ l=true){k:Nat}(H:(k:Int)<l.length):0<=(cM l k).1/\(cM l k).1<=3/\((cM l k).1≠0->2<=c9 l k):=by
 have:=aNF h H;grind[wx]
theorem WR(l:M bj)(k:Nat):c9 l k<=k:=by
 have:=gR l k;grind[c9]
theorem aNG(l:M bj):pI l [] 0:=⟨S! _,by rfl⟩
variable {f:List (List Int)}
theorem NH{k:Nat}(H:GJ l t f)(h:pI l s k)(o:(k:Int)<l.length)(u:(cM l k).1≠0):sH s:=by
 have:=(Jf H.1 o).2.2 u;have w:=h.2;have y:=WR l k;have z:=H.2.1;refine⟨w!,by grind[small]⟩
theorem alD{k:Nat}(H:GJ l t f)(h:pI l s k):small s:=by
 have o:=h.2;have u:=WR l k;have w:=H.2.1;have y:=h.1;grind[small]
theorem aqt {l:M bj}{g:B8->U}{k:Nat}(h:pI l (jU g l k) k)(hk:(k:Int)<l.length)(H:(cM l k).1=0):pI l (jU g l (k+1)) (k+1):=by
 refine⟨w!,?_⟩;rw[<-Ò hk H,Jc,J!,zq H,<-h.2];simp
theorem QH {l:M bj}{g:B8->U}{k:Nat}(H:GJ l t f)(h:pI l (jU g l k) k)(hk:(k:Int)<l.length){o:Int}(u:(cM l k).1=o)(w:o≠0):pI l (jU g l (k+1)) (k+1):=by
 have y:=(NH H h hk w!).1;refine⟨w!,?_⟩;rw[<-NG hk u w,aqs y,uH w!,<-h.2];omega
theorem afB{k:Nat}(H:GJ l t f)(h:pI l s k)(u:¬(k:Int)<l.length):0<s.length/\k=l.length:=by
 have e:k=l.length:=by have:=h.1;omega
 have o:=H.1;simp[aZ,Bool.and_eq_true,decide_eq_true_eq] at o;have w:=h.2;grind
theorem UA(h:small l):yq (al l):=by
 refine⟨iX _,?_⟩;have H:=eh (pj l);grind[pj,bL,List.length_map,Nat.le_trans,List.length_filter_le,small,al]
theorem KA(h:lO l f=false): []=(iM l f).1/\1=(iM l f).2:=by
 grind[iM]
theorem afC(h:lO l f=true):Dd l (al l) f=(iM l f).1/\0=(iM l f).2:=by
 grind[iM]
theorem aqu{k:Nat}(h:GK f k)(o:(k:Int)<f.length)(u:aV (f.getD k [])=true):GK f (k+1):=by
 refine⟨w!,λx H=>?_⟩;rw[an f k [] w!,I!,s?] at H;rcases H with H|rfl;exact h.2 x H;omega
theorem WS{k:Nat}(h:GK f k)(H:¬(k:Int)<f.length):f.all aV=true:=by
 have e:k=f.length:=by have:=h.1;omega
 have:=h.2;grind
theorem afD{k:Nat}(h:(k:Int)<f.length)(H:aV (f.getD k [])=false):f.all aV=false:=by
 grind
theorem qZ(b:B8)(a e:Int):0<=(ag b a e).2/\(ag b a e).2<=4611686018427387904:=by
 unfold ag;split;omega;split;omega;rename_i h _
 have H:dK b a:=by
  unfold bV at h;unfold dK;by_cases k:e=0/\inside b a=false;grind;simp_all[if_neg,inside,Bool.and_eq_true,decide_eq_true_eq]
 simp_all[PJ]
theorem aNH {b:B8}(h:(oe b).1.2.2=0)(H:¬1000<(oe b).2):wA b 0 ((oe b).1.2.1,(oe b).1.2.2,-1,[]):=by
 have:=(qZ b 0 0).1;refine⟨this,h,w!,?_,z!,z!,rfl⟩;simp_all[cu,R!]
theorem afE(h:¬(oe b).1.2.2=0): []=(cu b).1/\(oe b).1.2.2=(cu b).2:=by
 simp_all[cu,Q!]
theorem Ó {b:B8}(h:(oe b).1.2.2=0)(H:1000<(oe b).2): []=(cu b).1/\2=(cu b).2:=by
 simp_all[cu,R!,Q!]
theorem WT{k:Nat}(h:wA b k x)(H:(k:Int)<(oe b).2):cu b=
  if(ag b x.1 x.2.1).1.2.2≠0 then([],(ag b x.1 x.2.1).1.2.2) else if 998-x.2.2.1<(ag b x.1 x.2.1).2 then([],2)
  else pn b ((oe b).2.toNat-(k+1)) (ag b x.1 x.2.1).1.2.1 (ag b x.1 x.2.1).1.2.2 (x.2.2.1+((ag b x.1 x.2.1).2+1)) (x.2.2.2++[x.2.2.1+((ag b x.1 x.2.1).2+1)]):=by
 have o:=h.2.2.2.1;have e:(oe b).2.toNat-k=((oe b).2.toNat-(k+1))+1:=by omega
 grind[pn]
theorem afF {b:B8}{k:Nat}(h:wA b k x)(hk:(k:Int)<(oe b).2)(h1:¬(ag b x.1 x.2.1).1.2.2=0): []=(cu b).1/\(ag b x.1 x.2.1).1.2.2=(cu b).2:=by
 rw[WT h hk,if_pos h1];grind
theorem afG {b:B8}{k:Nat}{x:Pr}(h:wA b k x)(hk:(k:Int)<(oe b).2)(o:(ag b x.1 x.2.1).1.2.2=0)(H:998-x.2.2.1<(ag b x.1 x.2.1).2): []=(cu b).1/\2=(cu b).2:=by
 rw[WT h hk,if_neg w!,if_pos H];grind
theorem aqv {b:B8}{k:Nat}{x:Pr}(h:wA b k x)(o:(k:Int)<(oe b).2)(w:(ag b x.1 x.2.1).1.2.2=0)(u:¬998-x.2.2.1<(ag b x.1 x.2.1).2):
  wA b (k+1) ((ag b x.1 x.2.1).1.2.1,(ag b x.1 x.2.1).1.2.2,x.2.2.1+((ag b x.1 x.2.1).2+1),x.2.2.2++[x.2.2.1+((ag b x.1 x.2.1).2+1)]):=by
 have H:=WT h o;rw[if_neg w!,if_neg u] at H;have y:=(qZ b x.1 x.2.1).1;have⟨_,g,G,_,z,A,B⟩:=h;refine⟨w!,g,G,H.symm,x!,x!,x!⟩
theorem Jg{k:Nat}(h:wA b k x)(H:¬(k:Int)<(oe b).2):cu b=if done b x.1 x.2.1=0 then(x.2.2.2,0) else([],done b x.1 x.2.1):=by
 have o:=h.2.2.2.1;simp_all[oe,pn]
variable {t:B8}
theorem awt {r:B8}(p:Pf)(h:De r n t=false): []=(jr r n t p).1/\1=(jr r n t p).2:=by
 grind[jr]
theorem aqw {r:B8}(h:De r n t=true)(H:Nf r n p=false): []=(jr r n t p).1/\6=(jr r n t p).2:=by
 grind[jr]
theorem WU {r:B8}(h:De r n t=true)(H:Nf r n p=true):jr r n t p=Jb t p:=by
 grind[jr]
theorem aHc(a b:B8):(!(Op.bytesLess a b || decide (a=b)))=Op.bytesLess b a:=by
 grind[pg,y8,cJ,decide_eq_false]
theorem WV {r:B8}(h:(r.length:Int)=32/\¬n<1/\¬1099511627776<n/\isTerm t=true):De r n t=true:=by
 simp_all[De,B!,H!]
theorem awu {r:B8}(h:¬(r.length:Int)=32\/n<1\/1099511627776<n\/isTerm t=false):De r n t=false:=by
 simp[De,Ne,Bool.and_eq_true,decide_eq_true_eq];grind
theorem QI {c:B8}(h:kJ a b c=0):eR a b c=true/\dw a b c=mc a b c:=by
 simp_all[kJ,dw,Q!]
theorem aqx {c:B8}(h:¬kJ a b c=0):eR a b c=false:=by
 grind[kJ]
theorem aaB {c:B8}(h:kJ a b c=0):az (dw a b c):=by
 have⟨H,k⟩:=QI h;simp[eR,Bool.and_eq_true,decide_eq_true_eq] at H;grind[q1,cU,q2,az,mc,text,List.length_append]
theorem aHd {r:B8}(h:kJ p.2.1 p.2.2.1 p.2.2.2.1=0)(H:cB (leaf (dw p.2.1 p.2.2.1 p.2.2.2.1)) p.1 n p.2.2.2.2.1=0/\jO (leaf (dw p.2.1 p.2.2.1 p.2.2.2.1)) p.1 n p.2.2.2.2.1=r):Nf r n p=true:=by
 grind[QI,Nf,WO,decide_true,Bool.and_self]
theorem awv {r:B8}(h:¬kJ p.2.1 p.2.2.1 p.2.2.2.1=0):Nf r n p=false:=by
 simp_all[Nf,aqx,Bool.false_and]
theorem aww {r:B8}(h:kJ p.2.1 p.2.2.1 p.2.2.2.1=0)(H:¬cB (leaf (dw p.2.1 p.2.2.1 p.2.2.2.1)) p.1 n p.2.2.2.2.1=0\/¬jO (leaf (dw p.2.1 p.2.2.1 p.2.2.2.1)) p.1 n p.2.2.2.2.1=r):Nf r n p=false:=by
 have⟨g1,g⟩:=QI h;simp[Nf,WO,g1,Bool.true_and];grind
theorem aHe {r:B8}(h:De r n t=true)(H:Nf r n p=true):og r n t p 0:=⟨w!,h,H,w!,w!⟩
theorem aHf {r:B8}{k:Nat}(h:og r n t p k)(o:(k:Int)=0)(H:I9 t (cu p.2.2.2.2.2).2 p.2.1 p.2.2.2.1 p.2.2.2.2.2=false):og r n t p (k+1):=
 ⟨w!,h.2.1,h.2.2.1,λ_=>H,w!⟩
theorem aHg {r:B8}{k:Nat}(h:og r n t p k)(o:(k:Int)=1)(H:Ja t p.2.1 p.2.2.1 p.2.2.2.2.2=false):og r n t p (k+1):=
 ⟨w!,h.2.1,h.2.2.1,λ_=>h.2.2.2.1 w!,λ_=>H⟩
theorem afH {r:B8}{k:Nat}(h:og r n t p k)(h1:I9 t (cu p.2.2.2.2.2).2 p.2.1 p.2.2.2.1 p.2.2.2.2.2=true):(cu p.2.2.2.2.2).1=(jr r n t p).1/\0=(jr r n t p).2:=by
 rw[WU h.2.1 h.2.2.1,Jb,h1];grind
theorem afI {r:B8}{k:Nat}(h:og r n t p k)(H:(k:Int)=1)(h1:Ja t p.2.1 p.2.2.1 p.2.2.2.2.2=true): []=(jr r n t p).1/\0=(jr r n t p).2:=by
 rw[WU h.2.1 h.2.2.1,Jb,h.2.2.2.1 w!,h1];grind
theorem awx {r:B8}{k:Nat}(h:og r n t p k)(H:¬(k:Int)<((2:Nat):Int)): []=(jr r n t p).1/\6=(jr r n t p).2:=by
 rw[WU h.2.1 h.2.2.1,Jb,h.2.2.2.1 w!,h.2.2.2.2 w!];grind
end Go.S
namespace Go.S
open Go.Vg (CF Z bX)
def Mw(a:M (M Pf))(i j:Int):Pf:=pfD (aks a i.toNat) j.toNat
def wV(g:Sg)(w:B8)(a:M (M Pf))(i j:Int):U×Int:=jr g.2.2.2 g.2.2.1 w (Mw a i j)
def ud(g:Sg)(w:B8)(a:M (M Pf))(i j:Int):Bool:=decide ((wV g w a i j).2=0)&&xG (wV g w a i j).1 g.1 g.2.1
def QJ(w:B8)(a:M (M Pf))(i j:Int):Prop:=(0<=i/\i<a.length)/\(0<=j/\j<(aks a i.toNat).length)/\wB w (Mw a i j).2.2.2.2.1 (Mw a i j).2.2.2.2.2
def UB(j:Int)(q n:Nat)(l:U):Prop:=q=j.toNat/\q<n/\small l
def QK(l m:U):U:=l++m
def QL(g:Sg)(w:B8)(a:M (M Pf))(i j:Int)(l:U):U:=if ud g w a i j then QK l (wV g w a i j).1 else l
def aqy(r:B8)(n:Int)(g:B8)(l:M Sg):CF:=λz=>(True,.bool (EH n g l r),z)
def afJ(a:M (M Pf))(i:Int)(t:O):CF:=λz=>(0<=i/\i<(a.length:Int),.bool (qW a i t),z)
def GM(b E:Nat)(g:Sg)(w:B8)(a:M (M Pf))(i j:Int):CF:=λz=>match z with
 |.g e ei l=>(e=b/\ei=E/\QJ w a i j/\UB j j.toNat l.length (l.getD j.toNat []),.bool (ud g w a i j),.g e ei (l.set j.toNat (QL g w a i j (l.getD j.toNat []))))
 |z=>(False,.bool false,z)
def EI(l:M Sg)(i:Nat):Sg:=l.getD i (0,0,0,[])
def QM(E e:Nat)(s:M Sg)(a:M (M Pf))(t:O)(i k:Nat):M CF:=
 afJ a i t::(List.range k).map λ(j:Nat)=>GM E e (EI s i) (t.getD j []) a i j
def conds(E e:Nat)(r:B8)(n:Int)(g:B8)(s:M Sg)(a:M (M Pf))(t:O):Nat->M CF
 |0=>[aqy r n g s]
 |i+1=>conds E e r n g s a t i++QM E e s a t i t.length
def ra(E e:Nat)(r:B8)(n:Int)(g:B8)(s:M Sg)(a:M (M Pf))(t:O)(i k:Nat):M CF:=
 conds E e r n g s a t i++QM E e s a t i k
def AM(s:M Sg)(a:M (M Pf))(t:O)(i k:Nat):Bool:=(List.range k).all λ(j:Nat)=>ud (EI s i) (t.getD j []) a i j
def AN(s:M Sg)(a:M (M Pf))(t:O)(i:Nat):Bool:=(List.range i).all λ(i:Nat)=>qW a i t&&AM s a t i t.length
def tJ(s:M Sg)(a:M (M Pf))(t:O)(j:Nat):Nat->U
 |0=>[]
 |i+1=>QK (tJ s a t j i) (wV (EI s i) (t.getD j []) a i j).1
def wD(s:M Sg)(a:M (M Pf))(t:O)(i k:Nat):M U:=(List.range t.length).map λ(j:Nat)=>tJ s a t j (if j<k then i+1 else i)
def xI(s:M Sg)(a:M (M Pf))(t:O)(i:Nat):M U:=(List.range t.length).map λ(j:Nat)=>tJ s a t j i
def Fy(r:B8)(a:Int×B8×M Sg×M (M Pf))(t:O):Bool:=EH a.1 a.2.1 a.2.2.1 r&&AN a.2.2.1 a.2.2.2 t a.2.2.1.length
def fJ(r:B8)(l:M bj)(b:B8):U×Int:=
 if(bif !decide ((r.length:Int)=32) then true else !aZ l) then([],1) else if(aI b).2≠0 then([],(aI b).2)
 else if Fy r (aI b).1 (al l) then iM l (xI (aI b).1.2.2.1 (aI b).1.2.2.2 (al l) (aI b).1.2.2.1.length) else([],6)
def afK(b:B8)(k:Nat):Prop:=k<=(aI b).1.2.2.1.length/\(aI b).2=0
def WW(b:B8)(t:O)(k j:Nat):Prop:=k<(aI b).1.2.2.1.length/\j<=t.length/\(aI b).2=0
theorem Fz:∀(l m:M CF) (z:Z),((bX (l++m) z).1↔(bX l z).1/\((bX l z).2.1=true->(bX m (bX l z).2.2).1))/\(bX (l++m) z).2.1=((bX l z).2.1&&(bX m (bX l z).2.2).2.1)/\((bX l z).2.1=true->(bX (l++m) z).2.2=(bX m (bX l z).2.2).2.2)
 |[],m,z=>by simp[bX]
 |F::l,m,z=>by
  have⟨h,H,a⟩:=Fz l m (F z).2.2;simp[List.cons_append,bX];grind
structure rb (l:List CF) (z z':Z) (o:Bool):Prop where
 pre:(bX l z).1
 ok:(bX l z).2.1=o
 to:o=true->(bX l z).2.2=z'
theorem rb.snoc {l m:M CF}{z b c:Z}{o O:Bool}(h:rb l z b o)(g:o=true->rb m b c O):rb (l++m) z c (o&&O):=by
 have⟨H,a,d⟩:=Fz l m z;cases o with
 |false=>exact⟨H.2 ⟨h.pre,λq=>by rw[h.ok] at q;cases q⟩,by rw[a,h.ok];rfl,nofun⟩
 |true=>
  obtain⟨G,g2,e⟩:=g rfl;rw[(h.to rfl)] at H a d;exact⟨H.2 ⟨h.pre,λ_=>G⟩,by rw[a,h.ok,g2],λq=>by rw[d h.ok];grind⟩
theorem rb.one {F:CF}{z:Z}{b:Bool}(h:(F z).1)(h1:(F z).2.1= .bool b):rb [F] z (F z).2.2 b:=by
 refine⟨⟨h,by rw[h1];rfl,λ_=>trivial⟩,?_,λq=>?_⟩;simp[bX,h1];rfl;grind[bX]
theorem awy(s:M Sg)(a:M (M Pf))(t:O)(i:Nat):wD s a t i 0=xI s a t i:=by
 rfl
theorem alE(s:M Sg)(a:M (M Pf))(t:O)(i:Nat):wD s a t i t.length=xI s a t (i+1):=by
 simp_all[wD,xI,g?,Q!,f?]
theorem KB(s:M Sg)(a:M (M Pf))(t:O)(i k:Nat):(wD s a t i k).length=t.length:=by simp[wD]
variable {a:List (List Pf)}{i e0 ei0:Nat}{s:List Sg}{t:List B8}{b g:B8}{l:List bj}{n:Int}
theorem Ô{k:Nat}(hk:k<t.length):(wD s a t i k).getD k []=tJ s a t k i:=by
 rw[E!,wD,A?,List.getElem?_range hk];simp
theorem alF{k:Nat}(hk:k<t.length):(wD s a t i k).set k (tJ s a t k (i+1))=wD s a t i (k+1):=by
 apply List.ext_getElem?;intro j;rw[List.getElem?_set,KB];by_cases H:j<t.length;by_cases h:k=j;subst h;rw[if_pos rfl,if_pos hk,wD,List.getElem?_map,List.getElem?_range hk];simp;rw[if_neg h,wD,wD,List.getElem?_map,List.getElem?_map,List.getElem?_range H];grind;grind[List.getElem?_eq_none,KB]
theorem Mx(b:B8):∀(n:Nat) (a e p:Int) (l:U),(pn b n a e p l).1.length<=l.length+n
 |0,a,e,p,l=>by
  grind[pn]
 |n+1,a,e,p,l=>by
  unfold pn;split;simp;split;simp;have:=Mx b n (ag b a e).1.2.1 (ag b a e).1.2.2 (p+((ag b a e).2+1)) (l++[p+((ag b a e).2+1)]);rw[List.length_append,List.length_singleton] at this;omega
theorem Õ(b:B8):(cu b).1.length<=1000:=by
 grind[cu,Mx,oe,List.length_nil]
theorem UC(r:B8)(n:Int)(t:B8)(p:Pf):(jr r n t p).1.length<=1000:=by
 grind[jr,Jb,Õ]
theorem QN(s:M Sg)(a:M (M Pf))(t:O)(j:Nat):∀i,(tJ s a t j i).length<=1000*i
 |0=>by simp[tJ]
 |i+1=>by
  have h:=QN s a t j i;have H:=UC (EI s i).2.2.2 (EI s i).2.2.1 (t.getD j []) (Mw a i j);rw[tJ,QK,J!,wV];omega
def WX(s:M Sg)(a:M (M Pf))(t:O):Prop:=s.length=a.length/\s.length<=64/\t.length<=1099511627776/\(∀w∈t,small w)/\∀x∈a,∀p∈x,eX p.2.2.2.2.1/\az p.2.2.2.2.2/\small p.2.2.2.2.2
theorem aqz(c:WX s a t){k:Nat}(o:i<s.length)(d:qW a i t=true)(e:k<t.length):QJ (t.getD k []) a i k:=by
 have⟨p,r,u,f,j⟩:=c;have d:(a.getD i []).length=t.length:=by grind[qW]
 have h:i<a.length:=by omega
 have H:Mw a i k∈a.getD i []:=by
  grind[Mw,pfD,aks,aU,aSL]
 have⟨q,Q,m⟩:=j _ (aU a i [] h) _ H;refine⟨⟨w!,w!⟩,⟨w!,?_⟩,f _ (aU t k [] e),q,Q,m⟩;grind[aks]
theorem alG{k:Nat}(h:ud (EI s i) (t.getD k []) a i k=true):QL (EI s i) (t.getD k []) a i k (tJ s a t k i)=tJ s a t k (i+1):=by
 rw[QL,Q! h];rfl
theorem Bu {c:Type}(f:Nat->c)(k:Nat):(List.range (k+1)).map f=(List.range k).map f++[f k]:=by
 rw[List.range_succ,X?];rfl
theorem aEF {e0 ei0:Nat}{s:M Sg}{a:M (M Pf)}{t:O}(H:WX s a t){i:Nat}(c:i<s.length)(d:qW a i t=true):∀k,k<=t.length->
  rb ((List.range k).map λ(j:Nat)=>GM e0 ei0 (EI s i) (t.getD j []) a i j) (.g e0 ei0 (wD s a t i 0)) (.g e0 ei0 (wD s a t i k)) (AM s a t i k)
 |0,_=>⟨trivial,rfl,λ_=>rfl⟩
 |k+1,hk=>by
  rw[Bu]
  have e:AM s a t i (k+1)=(AM s a t i k&&ud (EI s i) (t.getD k []) a i k):=by
   unfold AM;rw[List.range_succ,List.all_append];simp
  rw[e];refine(aEF H c d k w!).snoc λ_=>?_;have y:k<t.length:=by omega
  have E:((k:Int)).toNat=k:=by simp
  have f:=QN s a t k i
  have h:=rb.one (F:=GM e0 ei0 (EI s i) (t.getD k []) a i k) (z:=.g e0 ei0 (wD s a t i k))
   ⟨rfl,rfl,aqz H c d y,by rw[E,Ô y,KB];exact⟨E.symm,y,by have:=H.2.1;grind[small]⟩⟩ rfl
  refine⟨h.pre,h.ok,λq=>?_⟩;rw[h.to q];grind[GM,Ô,alG,alF]
theorem aEG {e0 ei0:Nat}{root:B8}{n:Int}{g:B8}{s:M Sg}{a:M (M Pf)}{t:O}(h:WX s a t):∀i,i<=s.length->
  rb (conds e0 ei0 root n g s a t i) (.g e0 ei0 (xI s a t 0)) (.g e0 ei0 (xI s a t i)) (EH n g s root&&AN s a t i)
 |0,_=>by
  have:=rb.one (F:=aqy root n g s) (z:=.g e0 ei0 (xI s a t 0)) trivial rfl;have e:(EH n g s root&&AN s a t 0)=EH n g s root:=by simp[AN]
  rw[e];exact this
 |i+1,hi=>by
  have e:AN s a t (i+1)=(AN s a t i&&(qW a i t&&AM s a t i t.length)):=by
   unfold AN;rw[List.range_succ,List.all_append];simp
  rw[e,<-Bool.and_assoc];refine(aEG h i w!).snoc λ_=>?_
  have H:=(rb.one (F:=afJ a i t) (by have:=h.1;exact⟨w!,w!⟩) rfl).snoc λc=>by
   have:=aEF (e0:=e0) (ei0:=ei0) h (show i<s.length by omega) c t.length (M! _);rw[awy,alE] at this;exact this
  exact H
theorem awz(s:M Sg)(a:M (M Pf))(t:O):xI s a t 0=List.replicate t.length []:=by
 rw[List.eq_replicate_iff];refine⟨by simp[xI],λx h=>?_⟩;obtain⟨j,_,rfl⟩:=U?.1 h;rfl
theorem WY(z:b.length<1099511627776)(f:dq l)(h:(aI b).2=0):WX (aI b).1.2.2.1 (aI b).1.2.2.2 (al l):=by
 have j:∀(k:Nat) (a e:Int),(tG b a e k).2.length=k/\∀x∈(tG b a e k).2,∀p∈x,p.2.2.2.2.1.length<=64/\p.2.2.2.2.2.length<=b.length:=by
  intro k a e;induction k with
  |zero=>exact⟨rfl,nofun⟩
  |succ k i=>
   refine⟨by grind[tG],λx H=>?_⟩;simp only[tG,List.mem_append,List.mem_singleton] at H;rcases H with H|rfl;grind
   . have d:∀(m:Nat) (a e:Int),∀p∈(Fx b a e m).2,p.2.2.2.2.1.length<=64/\p.2.2.2.2.2.length<=b.length:=by
      intro m a e;induction m with
      |zero=>exact nofun
      |succ m i=>
       intro p c;simp only[Fx,List.mem_append,List.mem_singleton] at c;rcases c with c|rfl;grind;refine⟨?_,I5 _ _ _ _⟩<;>grind[I5,jc,q3,aur,WK,WL]
     exact d _ _ _
 have r:=(UA f.1).2
 have u:∀w∈al l,small w:=λw v=>by
  have:=(ir (pj l) w).1 v;simp only[pj,bL,U?,List.mem_filter] at this;obtain⟨o,⟨y,_⟩,rfl⟩:=this;exact f.2 o (List.mem_of_mem_take y)
 have Y:aI b=(((aH b).2.1,(aH b).2.2.1,(aH b).2.2.2,(kp b (aN b)).2),0):=by
  grind[aED,aqe,aEC]
 rw[Y];have:=j (aN b) (aH b).1.1 (aH b).1.2;refine⟨this.1.symm,aap b,r,u,λx H p c=>?_⟩;have q:=this.2 x H p c;grind[eX,az,small]
theorem QO(e0 ei0:Nat)(s:M Sg)(a:M (M Pf))(t:O)(i k:Nat):(QM e0 ei0 s a t i k).length=k+1:=by simp[QM]
theorem GN {e0 ei0:Nat}{r:B8}{n:Int}{g:B8}{s:M Sg}{a:M (M Pf)}{t:O}:∀i,(conds e0 ei0 r n g s a t i).length=1+i*(t.length+1)
 |0=>by simp[conds]
 |i+1=>by rw[conds,J!,GN i,QO,Nat.succ_mul];omega
theorem WZ{r:B8}(i k:Nat):(ra e0 ei0 r n g s a t i k).length=1+i*(t.length+1)+(k+1):=by
 rw[ra,J!,GN,QO]
theorem SR{r:B8}(i k:Nat):
  ra e0 ei0 r n g s a t i k++[GM e0 ei0 (EI s i) (t.getD k []) a i k]=ra e0 ei0 r n g s a t i (k+1):=by
 grind[ra,QM,Bu,List.append_assoc]
theorem afL(H:b.length<1099511627776)(c:dq l)(h:(aI b).2=0):(aI b).1.2.2.1.length<=64:=(WY H c h).2.1
theorem afM {b:B8}(H:b.length<1099511627776)(c:dq l)(h:(aI b).2=0)(d:aZ l=true)(e:i<=(aI b).1.2.2.1.length):i*((al l).length+1)<=1088:=by
 have f:=afL H c h;have j:=qe d;exact b? (Nat.mul_le_mul (show i<=64 by omega) (show(al l).length+1<=17 by omega)) (by decide)
theorem QP {r:B8}(h:(r.length:Int)=32/\aZ l=true):¬(bif !decide ((r.length:Int)=32) then true else !aZ l)=true:=by
 grind
theorem aHh {r:B8}(h:¬(r.length:Int)=32\/aZ l=false):(bif !decide ((r.length:Int)=32) then true else !aZ l)=true:=by
 grind
theorem awA {r:B8}(h:(bif !decide ((r.length:Int)=32) then true else !aZ l)=true): []=(fJ r l b).1/\1=(fJ r l b).2:=by
 simp_all[fJ,Q!]
theorem awB {r:B8}(h:¬(bif !decide ((r.length:Int)=32) then true else !aZ l)=true)(H:¬(aI b).2=0): []=(fJ r l b).1/\(aI b).2=(fJ r l b).2:=by
 simp_all[fJ,R!,Q!]
theorem Jh{r:B8}{b:B8}(H:b.length<1099511627776)(c:dq l)(h:(aI b).2=0){k:Nat}(d:k=(aI b).1.2.2.1.length):
  rb (conds e0 ei0 r (aI b).1.1 (aI b).1.2.1 (aI b).1.2.2.1 (aI b).1.2.2.2 (al l) k) (.g e0 ei0 (Vg.aE.L9 (Int.toNat ((al l).length:Int)))) (.g e0 ei0 (xI (aI b).1.2.2.1 (aI b).1.2.2.2 (al l) (aI b).1.2.2.1.length)) (Fy r (aI b).1 (al l)):=by
 subst d;have:=aEG (e0:=e0) (ei0:=ei0) (root:=r) (n:=(aI b).1.1) (g:=(aI b).1.2.1) (WY H c h) _ (M! _);rw[awz] at this;exact this
theorem aqA {r:B8}{l:M bj}{b:B8}{c:M CF}{z d:Z}(f:¬(bif !decide ((r.length:Int)=32) then true else !aZ l)=true)(h:(aI b).2=0)(H:rb c z d (Fy r (aI b).1 (al l)))(j:¬(bif (Vg.aE.run c z).2.1 then(0:Int) else 6)=0):
  []=(fJ r l b).1/\(bif (Vg.aE.run c z).2.1 then(0:Int) else 6)=(fJ r l b).2:=by
 have e:=H.ok;cases k:Fy r (aI b).1 (al l) with
 |true=>grind
 |false=>simp_all[fJ,R!]
theorem afN {e0 ei0:Nat}{r:B8}{l:M bj}{b:B8}{c:M CF}{z:Z}(f:¬(bif !decide ((r.length:Int)=32) then true else !aZ l)=true)(h:(aI b).2=0)(H:rb c z (.g e0 ei0 (xI (aI b).1.2.2.1 (aI b).1.2.2.2 (al l) (aI b).1.2.2.1.length)) (Fy r (aI b).1 (al l)))(j:(bif (Vg.aE.run c z).2.1 then(0:Int) else 6)=0):
  iM l (Vg.aE.rows (Vg.aE.run c z).2.2)=fJ r l b:=by
 have e:=H.ok;cases d:Fy r (aI b).1 (al l) with
 |false=>grind
 |true=>
  rw[H.to d,fJ,R! f,R! w!,Q! d];rfl
end Go.S
namespace Go.S
def cTl(s:M Bool)(k:Nat):M Bool:=s.drop (s.length-k)
def clS(i j:Int):M Bool:=cq ((strip i.toNat j.toNat).1:Int) ((strip i.toNat j.toNat).2+1:Int)
def aRP(s:M Bool)(i j:Int)(k:Nat):Prop:=0<=i/\i<=j/\j<=1099511627776/\k<=s.length/\s=cq i (j+1)++cTl s k
def aRQ(s:M Bool)(p:O)(k:Nat):B8×B8:=avL (cTl s k) (p.getD 0 [],p.getD 0 []) ((p.drop 1).take k)
abbrev Cl0:=Int×Int
abbrev Cl2:=Nat×Int×Int×B8×B8
abbrev Cl4:=Int×Int×Nat
def aFJ(i j:Int)(x:Cl0):Prop:=0<=x.1/\x.1<x.2/\x.2<=1099511627776/\strip x.1.toNat x.2.toNat=strip i.toNat j.toNat
def aue(i j:Int)(p:O)(x:Cl2):Prop:=aRP (clS i j) x.2.1 x.2.2.1 x.1/\(x.2.2.2.1,x.2.2.2.2)=aRQ (clS i j) p x.1/\x.1+1<=p.length
def aFK(i j:Int)(x:Cl4):Prop:=aRP (clS i j) x.1 x.2.1 x.2.2/\(x.1%2=1\/x.1=x.2.1/\x.1≠0)
def aIk(m n:Int)(p:O):Prop:=0<=m/\m<=n/\n<=1099511627776/\eX p
abbrev Stp:=Int×B8×M Sg×Int×B8×M Sg×O
def aMF(r:B8)(s:Stp):Bool:=EH s.1 s.2.1 s.2.2.1 r&&(decide (J7 s.1 s.2.2.2.1 s.2.1 s.2.2.2.2.1 s.2.2.2.2.2.2=0)&&decide ((qV s.2.2.2.1 s.2.2.2.2.1 s.2.2.2.2.2.1).2=0))
def anq(r b:B8):B8×Int×Int:=
 if ¬r.length=32 then([],0,1) else if ¬(Ě b).2=0 then([],0,(Ě b).2)
 else if aMF r (Ě b).1 then((qV (Ě b).1.2.2.2.1 (Ě b).1.2.2.2.2.1 (Ě b).1.2.2.2.2.2.1).1,(Ě b).1.2.2.2.1,0) else([],0,6)
theorem aVT(s:M Bool):cTl s 0=[]:=by simp[cTl]
variable {s:List Bool}{i j m n:Int}{p:List B8}{x:Cl0}{u v b:B8}
theorem aNY{k:Nat}(h:k<=s.length):(cTl s k).length=k:=by grind[cTl]
theorem aFL(i:Int):i/2^Int.toNat 1=i/2:=by
 rfl
theorem aQV(h:0<=i)(H:i<=j)(a:1<=j):cq i (j+1)=cq (i/2) (j/2+1)++(if i%2=1 then [true] else if i<j then [false] else []):=by
 have:=aSK (j+1).toNat i h w! w!;grind[aP2]
theorem aSN{j:Int}{k:Nat}{x:Bool}{I J:Int}(h:aRP s i j k)(H:cq i (j+1)=cq I (J+1)++[x])(a:0<=I)(c:I<=J)(d:J<=1099511627776):aRP s I J (k+1)/\cTl s (k+1)=x::cTl s k:=by
 have⟨_,_,_,g4,g⟩:=h;rw[H,X!] at g;have f:=congrArg List.length g;simp[J!,J?,aNY g4] at f
 have e:cTl s (k+1)=[x]++cTl s k:=by
  have :cTl s (k+1)=(cq I (J+1)++([x]++cTl s k)).drop (cq I (J+1)).length:=by
   unfold cTl;congr 1
   omega
  rw[this,List.drop_left]
 exact⟨⟨a,c,d,w!,by rw[e];exact g⟩,e⟩
theorem aVU{j:Int}{k:Nat}{I J:Int}(h:aRP s i j k)(H:cq i (j+1)=cq I (J+1))(a:0<=I)(c:I<=J)(d:J<=1099511627776):aRP s I J k:=
 ⟨a,c,d,h.2.2.2.1,by rw[<-H];exact h.2.2.2.2⟩
theorem aSO{k:Nat}{x:Bool}(he:cTl s (k+1)=x::cTl s k)(h:k<=s.length)(H:k+1<p.length):aRQ s p (k+1)=aNo (aRQ s p k) (x,p.getD (k+1) []):=by
 unfold aRQ avL
 have e:(p.drop 1).take (k+1)=(p.drop 1).take k++[p.getD (k+1) []]:=by
  rw[an _ k [] x!];grind
 rw[he,List.reverse_cons,e,List.zip_append (by grind[List.length_reverse,aNY,List.length_take,List.length_drop]),List.foldl_append];rfl
theorem aY3(h:at5 i j p):aFJ i j (i,j):=⟨h.1,h.2.1,by have:=h.2.2.2;omega,rfl⟩
theorem aMP(h:0<=i):Vg.aT i 1=i%2:=by
 have:=and_1 (j:=i.toNat);grind
theorem aU7(h:aFJ i j x)(H:x.1%2=1):aFJ i j (x.1/2,x.2/2):=by
 have⟨g,G,a,g4⟩:=h;refine⟨w!,w!,w!,?_⟩;rw[<-g4,aQU (i:=x.1.toNat) w!];grind
theorem aVV(H:at5 i j p)(h:aFJ i j x)(c:¬x.1%2=1):aue i j p (0,x.1,x.2,p.getD 0 [],p.getD 0 []):=by
 have⟨g,d,G,a⟩:=h;rw[aQC w!] at a
 have e:clS i j=cq x.1 (x.2+1):=by
  grind[clS]
 refine⟨⟨g,x!,G,Nat.zero_le _,by rw[aVT,List.append_nil,e]⟩,?_,by have:=H.2.2.1;omega⟩;simp_all[aRQ,aVT,avL]
theorem aS9(h:1<=j):cq i (j+1)≠ []:=by
 grind[zn,zo]
variable {x:Cl2}
theorem aWW{o t:B8}(a:at5 i j p)(h:aue i j p x)(c:p.length<=x.1+1):
  (bif (bif decide (x.2.2.1=0) then decide (x.2.2.2.1=o) else false) then decide (x.2.2.2.2=t) else false)=atF i j o t p:=by
 obtain⟨⟨G,d,e,g4,g⟩,f,k⟩:=h;have H:=congrArg List.length g;rw[List.length_append,aNY g4] at H;have E:atF i j o t p=(decide _&&(decide _&&decide _)):=rfl;by_cases l:x.2.2.1=0;grind[cq,wo,clS,cTl,List.take_of_length_le,aRQ];grind[cq,aS9,List.eq_nil_of_length_eq_zero,decide_eq_false,clS,List.length_drop]
theorem aU8{o t:B8}(h:aue i j p x)(a:x.1+1<p.length)(c:x.2.2.1=0):false=atF i j o t p:=by
 have⟨⟨G,d,e,g4,g⟩,f,k⟩:=h;have H:=congrArg List.length g;rw[List.length_append,aNY g4,wo w!] at H;have E:atF i j o t p=(decide _&&(decide ((p.drop 1).length=(clS i j).length)&&decide _)):=rfl;grind
theorem aU9(h:aue i j p x)(hk:x.1+1<p.length)(h1:¬x.2.1%2=1)(c:¬x.2.1=x.2.2.1):
  aue i j p (x.1+1,x.2.1/2,x.2.2.1/2,x.2.2.2.1,bz x.2.2.2.2 (p.getD (x.1+1) [])):=by
 have⟨g,g6,d⟩:=h;have G:=g.1;have a:=g.2.1;have e:=g.2.2.1;have H:=aQV G a w!;rw[R! h1,Q! w!] at H;have⟨q,q2⟩:=aSN g H w! w! w!;refine⟨q,?_,w!⟩;rw[aSO q2 g.2.2.2.1 hk,<-g6];rfl
theorem aY4(h:aue i j p x)(a:¬x.2.2.1=0)(H:x.2.1%2=1\/x.2.1=x.2.2.1):aFK i j (x.2.1,x.2.2.1,x.1):=
 ⟨h.1,H.imp id λe=>⟨e,w!⟩⟩
theorem aVa{x:Cl4}(h:aFK i j x)(a:x.1%2=0)(c:¬x.1=0):aFK i j (x.1/2,x.2.1/2,x.2.2):=by
 have⟨g,d⟩:=h;have G:=g.1;have e:=g.2.2.1;have H:=aQV G (g.2.1) w!;rw[if_neg w!,if_neg w!,List.append_nil] at H;exact⟨aVU g H w! x! x!,x!⟩
theorem aVW{y:Cl4}(h:aue i j p x)(hk:x.1+1<p.length)(a:aFK i j y)(c:y.2.2=x.1)(e:¬(y.1%2=0/\¬y.1=0)):
  aue i j p (x.1+1,y.1/2,y.2.1/2,bz (p.getD (x.1+1) []) x.2.2.2.1,bz (p.getD (x.1+1) []) x.2.2.2.2):=by
 have⟨g,g6,G⟩:=h;have⟨f,k⟩:=a;rw[c] at f;have F:=f.1;have d:=f.2.1;have l:=f.2.2.1;have H:=aQV F d w!;rw[Q! w!] at H;have⟨q,q2⟩:=aSN f H w! w! w!;refine⟨q,?_,w!⟩;rw[aSO q2 g.2.2.2.1 hk,<-g6];rfl
theorem a0h(h:m=0):(bif decide ((p.length:Int)=0) then decide (u=sum []) else false)=accepted m n u v p:=by
 simp_all[accepted,Q!]
theorem aY5(h:¬m=0)(H:m=n):(bif decide ((p.length:Int)=0) then decide (u=v) else false)=accepted m n u v p:=by
 simp_all[accepted,R!,Q!]
theorem aVX(H:aIk m n p)(h:¬m=0)(h1:¬m=n):accepted m n u v p=atF (m-1) (n-1) u v (if avM m then u::p else p):=by
 have⟨q,Q,a,_⟩:=H;rw[accepted,if_neg h,if_neg h1];have e:=aRK (m-1).toNat (n-1).toNat w!;grind[atF]
theorem a0i(H:aIk m n p)(h:¬m=0)(a:¬m=n)(c:Vg.aT m (m-1)=0):atF (m-1) (n-1) u v ([u]++p)=accepted m n u v p:=by
 simp_all[aVX,Q!,avM,H!]
theorem aYd(H:aIk m n p)(h:¬m=0)(a:¬m=n)(c:¬Vg.aT m (m-1)=0):atF (m-1) (n-1) u v p=accepted m n u v p:=by
 simp_all[aVX,R!,avM,H!]
theorem aWX {m:Int}{p:O}(H:aIk m n p)(h:¬m=0)(h1:¬m=n)(hw:¬Vg.aT m (m-1)=0)(a:(p.length:Int)=0):false=accepted m n u v p:=by
 rw[<-aYd H h h1 hw,atF,aNq,e? (show ¬1<=p.length by omega)];rfl
theorem aUc{q:O}(H:aIk m n p)(h:¬m=0)(a:¬m=n)(c:¬(q.length:Int)=0):at5 (m-1) (n-1) q:=by
 have⟨Q,d,e,_⟩:=H;refine⟨?_,?_,?_,?_⟩<;>omega
theorem aWY{u v:B8}(h:m<0\/n<m\/1099511627776<n\/¬(u.length:Int)=32\/¬(v.length:Int)=32):1=J7 m n u v p:=by
 rw[J7,Q! h]
theorem aTa{u v:B8}(h:¬m<0/\¬n<m/\¬1099511627776<n/\(u.length:Int)=32/\(v.length:Int)=32):J7 m n u v p=if cP p=true/\accepted m n u v p=true then 0 else 6:=by
 simp_all[J7,R!]
theorem aWZ {p:O}{k:Nat}(H:(k:Int)<p.length)(h:¬((p.getD k []).length:Int)=32):cP p=false:=by
 rw[Bool.eq_false_iff];intro q;have:=List.all_eq_true.1 q _ (aU p k [] w!);grind
theorem aVY {p:O}{k:Nat}(h:sZ p k)(a:(k:Int)<p.length)(c:((p.getD k []).length:Int)=32):sZ p (k+1):=by
 refine⟨λd H=>?_,w!⟩;rw[an p k [] w!,I!,s?] at H;rcases H with H|rfl;exact h.1 d H;omega
theorem aW0{k:Nat}(h:sZ p k)(a:¬(k:Int)<p.length):cP p=true:=by
 have e:k=p.length:=by have:=h.2;omega
 have:=h.1;rw[e,List.take_length] at this;exact V!.2 λd H=>L? (this d H)
theorem aY6 {r:B8}(h:¬(r.length:Int)=32):anq r b=([],0,1):=by rw[anq,Q! w!]
theorem aY7 {r:B8}(h:(r.length:Int)=32)(H:¬(Ě b).2=0):anq r b=([],0,(Ě b).2):=by rw[anq,R! w!,Q! H]
theorem aSk {r:B8}(h:(r.length:Int)=32)(H:(Ě b).2=0):anq r b=if aMF r (Ě b).1 then((qV (Ě b).1.2.2.2.1 (Ě b).1.2.2.2.2.1 (Ě b).1.2.2.2.2.2.1).1,(Ě b).1.2.2.2.1,0) else([],0,6):=by
 rw[anq,R! w!,R! w!]
theorem aQW(b:B8):eX (Ě b).1.2.2.2.2.2.2:=by
 unfold Ě;split;exact Nat.zero_le _;split;exact Nat.zero_le _;show(st3 b).2.length<=_;grind[st3,aur,WK,WL]
theorem aVZ(a b c:Bool):(bif (bif a then(bif b then(bif c then true else false) else false) else false) then(0:Int) else 6)=if a&&(b&&c) then 0 else 6:=by
 grind
theorem aTb {a b c:Bool}(h:(bif (bif a then(bif b then(bif c then true else false) else false) else false) then(0:Int) else 6)=0):(a&&(b&&c))=true:=by
 grind
theorem dl {p:O}{k:Nat}(h:(k:Int)<((p.drop (Int.toNat 1)).length:Int)):k+1<p.length:=by
 grind
theorem dl' {p:O}{k:Nat}(h:¬(k:Int)<((p.drop (Int.toNat 1)).length:Int)):p.length<=k+1:=by
 grind
theorem dgD(p:O)(k:Nat):(p.drop (Int.toNat 1)).getD (Int.toNat (k:Int)) []=p.getD (k+1) []:=by
 grind
def aNJ:B8:=[119,97,105,110,32,104,97,121]
def ky:Qi:=([yo,aNJ],[(0,2,[(yo,[0,1]),([119,97,105,110],[1])])])
theorem aY8 {r:B8}(h:(anq r b).2.2=0):aMF r (Ě b).1=true:=by
 grind[anq,absurd]
theorem aY9 {r:B8}(h:¬(Ě b).2=0):¬(anq r b).2.2=0:=by
 grind[anq]
variable {n:Nat}
theorem aUd(h:2<=n):∃t,sp n=2^t/\2^t<n/\n<=2^(t+1):=by
 refine⟨Nat.log2 (n-1),rfl,?_,?_⟩;grind[Nat.log2_self_le];grind[Nat.lt_log2_self]
theorem aZa {m:Nat}(h:2<=n)(H:sp n<m)(a:m<=n):sp m=sp n:=by
 grind[aUd,Ũ]
theorem aW1(t:Nat):avM ((2^t:Nat):Int)=true:=by
 grind[avM,qH,Int.natCast_nonneg,decide_eq_true,Int.emod_self]
theorem aUe {a t:Nat}(h:2^t<=a)(H:a<2^(t+1)):a.testBit t=true:=by
 rw[Nat.testBit_eq_decide_div_mod_eq,show a/2^t=1 from Nat.div_eq_of_lt_le w! w!];rfl
theorem aW2 {t:Nat}(h:((2^t:Nat):Int)<m)(a:m<((2^(t+1):Nat):Int)):avM m=false:=by
 refine decide_eq_false λe=>?_;have H:m.toNat&&&(m-1).toNat=0:=by grind[Vg.aT]
 have:=congrArg (λx=>x.testBit t) H;simp only[Nat.testBit_and,Nat.zero_testBit] at this;rw[aUe w! w!,aUe w! w!] at this;cases this
def hz(l m:M qd):Qi:=(bS (aEE l m (min m.length 40)).1 (aEE l m (min m.length 40)).2).1
end Go.S
namespace Go.S
open Go.Vg (CF AV gF)
abbrev Cl:=(B8×B8)×Bool
def ix:Cl:=(([],[]),false)
def iy(a b:B8):Prop:=small a/\small b
def QT(a b:B8):Bool:= !Qy a b&&decide (sum a=sum b)
def bt(a b:B8):Cl:=if QT a b then((a,b),true) else ix
def Bv(x:Cl):AV:=.bk [.agg [.sl [.int .u8] x.1.1,.sl [.int .u8] x.1.2],.bool x.2]
def Ý(a b:B8):CF:=λz=>(iy a b,Bv (bt a b),z)
def Ng(l:M CF):Cl:=(((gF l).2.1,(gF l).2.2.1),(gF l).2.2.2)
def QU(k:Nat)(a b:B8):Cl:=bt (bB k a) (bB k b)
def xJ(a b:B8):Prop:=az a/\az b
def wE(l:O):B8:=bB 1 (kI (l.take (split l.length).toNat)++kI (l.drop (split l.length).toNat))
def mW(l:O)(i:Int):O:=
 if h:l.length<2 then [] else if i<((sp l.length:Nat):Int) then wE l::mW (l.take (sp l.length)) i else wE l::mW (l.drop (sp l.length)) (i-((sp l.length:Nat):Int))
termination_by l.length
decreasing_by all_goals (have:=iY (n:=l.length) w!;simp only[C?,N?];omega)
def AO(l:O)(i:Int)(f:B8)(p:O)(k:O×M Bool×O×Int):Prop:=
 mW (leaves l) i=k.1++mW k.2.2.1 k.2.2.2/\cq i l.length=k.2.1++cq k.2.2.2 k.2.2.1.length/\0<=k.2.2.2/\k.2.2.2<k.2.2.1.length/\cP k.2.2.1=true/\k.2.2.1.length<=l.length/\cB (leaf f) i l.length p=0/\
  k.1.length+k.2.2.1.length<=l.length/\k.1.length=k.2.1.length
def Þ(f:B8)(i n:Int)(p:O)(j:Nat):B8:=
 if(cq i n).getD (p.length-1-j) false then bB 1 (p.getD j []++cL (leaf f) i n p j) else bB 1 (cL (leaf f) i n p j++p.getD j [])
def rG(l:O)(i:Int)(f:B8)(p:O):Nat->M CF
 |0=>Vg.aE.JY (p.length+1)
 |k+1=>(rG l i f p k).set (p.length-1-k) (Ý (Þ f i l.length p k) ((mW (leaves l) i).getD (p.length-1-k) []))
def yr(l:O)(i:Int)(f:B8)(p:O):M CF:=(rG l i f p p.length).set p.length (Ý (bB 0 f) (bB 0 (l.getD i.toNat [])))
def afQ(l:O)(i:Int):Prop:=0<=i/\i<l.length
instance (l:List B8) (i:Int):Decidable (afQ l i):=by unfold afQ;infer_instance
def jY(l:O)(i:Int)(f:B8)(p:O):Cl:=
 if ¬afQ l i then ix else if ¬cB (leaf f) i l.length p=0 then ix else Ng (yr l i f p)
def mI(l:O)(f:B8)(p:O):Prop:=dj l/\az f/\eX p
def xK(p:O)(k:Nat):Prop:=k<=p.length
def fv(d:M bw)(t:B8)(p:Pf):Cl:=
 if ¬dE d=0 then ix else if ¬(jr (pG d) (bn d).length t p).2=0 then ix
 else if(jY (bn d) p.1 (dw p.2.1 p.2.2.1 p.2.2.2.1) p.2.2.2.2.1).2 then jY (bn d) p.1 (dw p.2.1 p.2.2.1 p.2.2.2.1) p.2.2.2.2.1
 else if ¬p.2.1=t then ix else QU 2 p.2.2.2.2.2 (jH (dN d t))
def Dg(d:M bw)(t:B8)(p:O)(P:B8):Prop:=aW d/\wB t p P
def th(n:Int)(g:B8)(l:M Sg):B8:=(hW n g l).1
def zv(d:O)(l:M aB):B8:=th (gI d l).1.1 (gI d l).1.2.1 (gI d l).1.2.2
def Bw(n:Int)(g:B8)(s:M Sg)(d:O)(l:M aB):Bool:=Qy (th n g s) (zv d l)
def sI(n:Int)(g:B8)(s:M Sg)(d:O)(l:M aB):Cl:=QU 3 (th n g s) (zv d l)
def wC(d:M bw):O->M Pf->Cl
 |t::ts,p::ps=>if(fv d t p).2 then fv d t p else wC d ts ps
 |_,_=>ix
def sC(t:O):M aB->M (M Pf)->Cl
 |s::l,p::a=>if(wC s.2.2 t p).2 then wC s.2.2 t p else sC t l a
 |_,_=>ix
def aaF(t:O)(P:M Pf):Prop:=t.length<=P.length/\∀p∈P,eX p.2.2.2.2.1/\az p.2.2.2.2.2/\small p.2.2.2.2.2
def W2(l:M aB)(T:O)(a:M (M Pf)):Prop:=l.length<=a.length/\(∀r∈a,aaF T r)/\(∀t∈T,small t)/\∀s∈l,aW s.2.2
def lf(n:Int)(g:B8)(s:M Sg)(d:O)(l:M aB)(t:O)(a:M (M Pf)):Cl:=if Bw n g s d l then sC t l a else ix
def uK(n:Int)(g:B8)(s:M Sg)(d:O)(l:M aB)(t:O)(a:M (M Pf)):Prop:=Bw n g s d l=true->W2 l t a
def KD(l:M aB)(t:O)(a:M (M Pf))(k:Nat):Prop:=k<=l.length/\W2 l t a/\sC t l a=sC t (l.drop k) (a.drop k)
def wF(l:M aB)(k:Nat):aB:=l.getD k (0,0,[])
def uL(l:M aB)(t:O)(a:M (M Pf))(k j:Nat):Prop:=
 k<l.length/\j<=t.length/\W2 l t a/\sC t l a=sC t (l.drop k) (a.drop k)/\wC (wF l k).2.2 t (aks a k)=wC (wF l k).2.2 (t.drop j) ((aks a k).drop j)
def QV(n:Int)(g:B8)(s:M Sg)(d:O)(l:M aB)(i:Int)(f:B8)(p:O):Cl:=if Bw n g s d l then jY d i f p else ix
def hdF(n:Int)(g:B8)(s:M Sg)(d:O)(l:M aB):CF:=λz=>(True,Bv (sI n g s d l),z)
def lsF(n:Int)(g:B8)(s:M Sg)(d:O)(l:M aB)(t:O)(a:M (M Pf)):CF:=λz=>(uK n g s d l t a,Bv (lf n g s d l t a),z)
def dcF(n:Int)(g:B8)(s:M Sg)(d:O)(l:M aB)(i:Int)(f:B8)(p:O):CF:=λz=>(mI d f p,Bv (QV n g s d l i f p),z)
def dJ(d:O)(l:M aB)(q:M bj)(b:B8):Cl:=
 if ¬(fk d l).2=0 then ix else if ¬(fJ (fk d l).1 q b).2=0 then ix else if ¬(aI b).2=0 then ix
 else Ng [hdF (aI b).1.1 (aI b).1.2.1 (aI b).1.2.2.1 d l,lsF (aI b).1.1 (aI b).1.2.1 (aI b).1.2.2.1 d l (al q) (aI b).1.2.2.2]
def mX(d:O)(l:M aB)(i:Int)(b:B8):Cl:=
 if ¬(fk d l).2=0 then ix else if ¬(uc (fk d l).1 i b).2=0 then ix else if ¬(bx b).2=0 then ix
 else Ng [hdF (bx b).1.1 (bx b).1.2.1 (bx b).1.2.2.1 d l,dcF (bx b).1.1 (bx b).1.2.1 (bx b).1.2.2.1 d l i (bx b).1.2.2.2.2.1 (bx b).1.2.2.2.2.2]
end Go.S
namespace Go.S
open Go.Vg (CF AV gF tD)
theorem Et(n:Nat):0<=split n/\split n<=n:=by
 grind[split,iY,Int.toNat_natCast]
theorem UH(l:O):(kI l).length<=32:=by
 grind[kI,Nat.le_of_eq,uD]
variable {l p ts docs:List B8}{b f g:B8}{i n:Int}{d:List bw}{j:Nat}{ps:List Pf}{a:List (List Pf)}{s:List Sg}
theorem aqK:az (kI (l.take (split l.length).toNat)++kI (l.drop (split l.length).toNat)):=by
 grind[UH,split,az,List.length_append]
theorem UI {c:Type}{l:M c}(h:small l)(n:Nat):small (l.take n)/\small (l.drop n):=by grind[small]
theorem NJ {a:B8}(k:Nat)(h:xJ a b):iy (bB k a) (bB k b):=by grind[xJ,iy,az,small,bB]
theorem aqL {l:O}(h:i<0\/(l.length:Int)<=i):jY l i f p=ix:=by
 rw[jY,if_pos (by grind[afQ])]
theorem W3(h:¬cB (leaf f) i l.length p=0):jY l i f p=ix:=by
 rw[jY,Q! h,ite_self]
theorem aNM(h:cB (leaf f) i l.length p=0):AO l i f p ([],[],leaves l,i):=by
 have⟨⟨_,_,_,H,c⟩,_⟩:=auv h;exact⟨rfl,by grind[nA],H,by grind[nA],kn l,by simp_all[nA,Nat.le_refl],h,by simp[nA],rfl⟩
theorem AP{x:O×M Bool×O×Int}(h:AO l i f p x)(H:1<(x.2.2.1.length:Int)):
  split x.2.2.1.length=((sp x.2.2.1.length:Nat):Int)/\1<=sp x.2.2.1.length/\sp x.2.2.1.length<x.2.2.1.length/\small x.2.2.1/\x.1.length<1099511627776/\x.2.1.length<1099511627776:=by
 have⟨Q,c,e,k,m,o,q,r,t⟩:=h;have⟨⟨_,_,g,_,_⟩,_⟩:=auv q;grind[iY,zp,small]
theorem W4 {l:O}(h:2<=l.length)(hi:i<((sp l.length:Nat):Int)):mW l i=wE l::mW (l.take (sp l.length)) i:=by rw[mW,dif_neg w!,Q! hi]
theorem W5 {l:O}(h:2<=l.length)(hi:¬i<((sp l.length:Nat):Int)):mW l i=wE l::mW (l.drop (sp l.length)) (i-((sp l.length:Nat):Int)):=by rw[mW,dif_neg w!,R! hi]
theorem afR(h:l.length<2):mW l i=[]:=by rw[mW,dif_pos h]
theorem ß{x:O×M Bool×O×Int}(h:AO l i f p x)(H:1<(x.2.2.1.length:Int)):
  AO l i f p (x.1++[wE x.2.2.1],x.2.1++[decide (split x.2.2.1.length<=x.2.2.2)],(bif decide (x.2.2.2<split x.2.2.1.length) then x.2.2.1.take (split x.2.2.1.length).toNat else x.2.2.1.drop (split x.2.2.1.length).toNat),
   (bif decide (x.2.2.2<split x.2.2.1.length) then x.2.2.2 else x.2.2.2-split x.2.2.1.length))/\
  (bif decide (x.2.2.2<split x.2.2.1.length) then x.2.2.1.take (split x.2.2.1.length).toNat else x.2.2.1.drop (split x.2.2.1.length).toNat).length<x.2.2.1.length:=by
 have⟨e,B,b,_⟩:=AP h H;have⟨q1,q2,c,k,q,m,Q,o,r⟩:=h;rw[e,Int.toNat_natCast];have em:((x.2.2.1.length:Int)).toNat=x.2.2.1.length:=by grind
 by_cases hi:x.2.2.2<((sp x.2.2.1.length:Nat):Int);rw[decide_eq_true hi,decide_eq_false w!];simp;refine⟨⟨?_,?_,c,?_,ny q _,?_,Q,?_,?_⟩,?_⟩;simp[q1,W4 w! hi,List.append_assoc,List.cons_append,List.nil_append];simp[q2,zn (n:=(x.2.2.1.length:Int)) w! (by exact hi),em,List.append_assoc,List.cons_append,List.nil_append,List.length_take,Nat.min_eq_left (Nat.le_of_lt b)];grind;grind;grind;grind;grind;rw[decide_eq_false hi,decide_eq_true w!];simp;have E:((x.2.2.1.length-sp x.2.2.1.length:Nat):Int)=(x.2.2.1.length:Int)-((sp x.2.2.1.length:Nat):Int):=by omega
 refine⟨⟨?_,?_,Int.sub_nonneg_of_le (Int.not_lt.1 hi),?_,nz q _,?_,Q,?_,?_⟩,?_⟩;simp[q1,W5 w! hi,List.append_assoc,List.cons_append,List.nil_append];simp[q2,zo (n:=(x.2.2.1.length:Int)) w! (by exact hi),em,List.append_assoc,List.cons_append,List.nil_append,List.length_drop,E];grind;grind;grind;grind;grind
theorem re{x:O×M Bool×O×Int}(h:AO l i f p x)(H:¬1<(x.2.2.1.length:Int)):
  x.1=mW (leaves l) i/\x.2.1=cq i l.length/\x.1.length=p.length/\x.2.1.length=p.length/\cB (leaf f) i l.length p=0/\cP p=true/\0<=i/\i<l.length:=by
 have⟨q,q2,k,m,o,r,Q,t,u⟩:=h;have⟨⟨_,_,_,g,G⟩,c,e⟩:=auv Q;rw[afR (l:=x.2.2.1) w!,B?] at q;rw[wo (n:=(x.2.2.1.length)) w!,B?] at q2;refine⟨q.symm,q2.symm,?_,?_,Q,e,g,G⟩<;>(rw[q2] at c;omega)
theorem Eu(l:O)(i:Int)(f:B8)(p:O):∀k,(rG l i f p k).length=p.length+1
 |0=>List.length_replicate ..
 |k+1=>by rw[rG,List.length_set];exact Eu l i f p k
theorem aEH(h:cP p=true)(k:Nat):(cL (leaf f) i l.length p k).length=32:=
 C9 _ _ (PD _) λx H=>(cQ p).1 h _ (List.of_mem_zip (List.mem_of_mem_take H)).2
theorem aHj {l:O}{i:Int}{f:B8}{p:O}{k:Nat}(h:cB (leaf f) i l.length p=0)(H:k<p.length)(b:Bool):
  az ((bif b then p.getD k [] else cL (leaf f) i l.length p k)++(bif b then cL (leaf f) i l.length p k else p.getD k [])):=by
 have d:=(auv h).2.2;have c:=aEH (l:=l) (i:=i) (f:=f) d k;have e:(p.getD k []).length=32:=(cQ p).1 d _ x!;cases b<;>(simp_all[cond_true,cond_false,az,List.length_append])
theorem aHk {l:O}{i:Int}{f:B8}{p:O}{k:Nat}{a:M Bool}(h:cB (leaf f) i l.length p=0)(H:k<p.length)(c:a=cq i l.length)(e:a.length=p.length):
  bz (bif a.getD ((p.length:Int)-1-(k:Int)).toNat false then p.getD k [] else cL (leaf f) i l.length p k) (bif a.getD ((p.length:Int)-1-(k:Int)).toNat false then cL (leaf f) i l.length p k else p.getD k [])=cL (leaf f) i l.length p (k+1):=by
 rw[<-(Ð h H),<-c,e];cases a.getD _ false<;>rfl
theorem awL {l:O}{i:Int}{f:B8}{p:O}{k:Nat}{a:M Bool}{g:O}(m:k<p.length)(o:a=cq i l.length)(H:g=mW (leaves l) i){x y u v:B8}(q:u=p.getD k [])(r:v=cL (leaf f) i l.length p k)
  (hx:x=bB 1 ((bif a.getD ((p.length:Int)-1-(k:Int)).toNat false then u else v)++(bif a.getD ((p.length:Int)-1-(k:Int)).toNat false then v else u))) (h:y=g.getD ((p.length:Int)-1-(k:Int)).toNat []):
  Vg.aE.put (rG l i f p k) ((p.length:Int)-1-(k:Int)).toNat (iy x y) (Bv (bt x y))=rG l i f p (k+1):=by
 have e:((p.length:Int)-1-k).toNat=p.length-1-k:=by omega
 rw[e] at hx h |-;rw[rG]
 have c:x=Þ f i l.length p k:=by
  grind[hx,Þ]
 rw[<-c,<-H,<-h];rfl
theorem aqM(l:O)(i:Int)(f:B8)(p:O):∀(k:Nat),k<=p.length->∀m,p.length-k<=m->m<p.length->
  (rG l i f p k)[m]? =some (Ý (Þ f i l.length p (p.length-1-m)) ((mW (leaves l) i).getD m []))
 |0,_,m,h1,h=>by omega
 |k+1,hk,m,h1,h=>by
  rw[rG];by_cases e:p.length-1-k=m;rw[List.getElem?_set,if_pos e,if_pos (by grind[Eu])];grind;rw[List.getElem?_set,if_neg e];exact aqM l i f p k w! m w! h
theorem W6{m:Nat}(h:m<=p.length):
  (yr l i f p)[m]? =some (if m=p.length then Ý (bB 0 f) (bB 0 (l.getD i.toNat [])) else Ý (Þ f i l.length p (p.length-1-m)) ((mW (leaves l) i).getD m [])):=by
 unfold yr;by_cases e:m=p.length;simp_all[List.getElem?_set,if_pos,Eu]
 rw[List.getElem?_set,R! (Ne.symm e),R! e];exact aqM l i f p p.length (M! _) m w! w!
theorem aqN(l:O)(i:Int)(f:B8)(p:O):(yr l i f p).length=p.length+1:=by rw[yr,List.length_set,Eu]
theorem W7(x:Cl):tD (Bv x)=some (x.1.1,x.1.2,x.2):=rfl
theorem afS:∀(l:M CF),(∀F∈l,∃a b,F=Ý a b/\iy a b)->(gF l).1
 |[],_=>trivial
 |F::l,h=>by
  obtain⟨a,b,rfl,H⟩:=h F (G! ..);exact⟨H,λ_=>afS l λG c=>h G (F! _ c)⟩
theorem à(l:O):(wE l).length<=65:=by
 grind[UH,split,wE,bB,List.length_cons,List.length_append]
theorem aqO:∀(n:Nat) (l:O) (i:Int),l.length=n->∀b∈mW l i,b.length<=65:=by
 refine wu (λn h l i e b hb=>?_) (λn h I c l i e b hb=>?_);grind[afR];have H:=iY w!;subst e;by_cases hi:i<((sp l.length));rw[W4 h hi,List.mem_cons] at hb;rcases hb with rfl|hb;exact à l;exact I _ _ (by rw[List.length_take];omega) b hb;rw[W5 h hi,List.mem_cons] at hb;rcases hb with rfl|hb;exact à l;exact c _ _ (by rw[List.length_drop]) b hb
theorem W8 {l:O}{i:Int}{f:B8}{p:O}(h:cB (leaf f) i l.length p=0)(H:mI l f p)(F:CF)(k:F∈yr l i f p):∃a b,F=Ý a b/\iy a b:=by
 have⟨m,o,e⟩:=List.getElem_of_mem k;rw[aqN] at o;have q:=W6 (l:=l) (i:=i) (f:=f) (p:=p) (m:=m) w!;rw[List.getElem?_eq_getElem w!,e] at q;have q:=Option.some.inj q;have⟨⟨_,_,_,g,G⟩,r,t⟩:=auv h;by_cases c:m=p.length;have:=H.1.2 (l.getD i.toNat []) x!;have:=H.2.1;grind[iy,small,bB,az];rw[if_neg c] at q;refine⟨_,_,q,?_,?_⟩;grind[aEH,cQ,Þ,small,bB,List.length_cons,List.length_append];have:=aqO _ (leaves l) i rfl;grind[mW,leaves,small]
theorem awM {l:O}{i:Int}{f:B8}{p:O}(h:cB (leaf f) i l.length p=0)(H:mI l f p):(gF (yr l i f p)).1:=afS _ (W8 h H)
theorem NK(h:cB (leaf f) i l.length p=0):jY l i f p=Ng (yr l i f p):=by
 have⟨⟨_,_,_,g,G⟩,_⟩:=auv h;rw[jY,R! (not_not_intro ⟨g,G⟩),R! (not_not_intro h)]
theorem aSP{k:Nat}(h:cP p=true)(H:k<p.length):(p.getD k []).length=32:=(cQ p).1 h _ x!
theorem awN(a b c:B8):az (dw a b c):=by
 unfold dw;split;grind[Ay,eR,az];exact Nat.lt_of_lt_of_le (Nat.zero_lt_succ _) (Nat.le_refl _)
theorem afT(l:U):az (jH l):=by
 unfold jH;split;grind[Ax,aV,az];exact Nat.lt_of_lt_of_le (Nat.zero_lt_succ _) (Nat.le_refl _)
theorem NL(n:Int)(g:B8)(l:M Sg):az (th n g l):=by
 unfold th hW;split;grind[WN];exact Nat.lt_of_lt_of_le (Nat.zero_lt_succ _) (Nat.le_refl _)
theorem dEz(h:dE d=0):aK d=true:=by
 grind[dE]
theorem aaG{t:B8}{p:O}{P:B8}(H:Dg d t p P)(h:dE d=0)(a b c:B8):mI (bn d) (dw a b c) p:=by
 have h:=dEz h;refine⟨?_,awN ..,H.2.2.1⟩;rw[bn,Q! h];exact(kK H.1 h).1
theorem awO(h:ts.length<=j):wC d (ts.drop j) (ps.drop j)=ix:=by
 grind[List.drop_of_length_le,wC]
theorem aqP(h:j<ts.length)(h1:j<ps.length):
  wC d (ts.drop j) (ps.drop j)=if(fv d (ts.getD j []) (ps.getD j (0,[],[],[],[],[]))).2 then fv d (ts.getD j []) (ps.getD j (0,[],[],[],[],[])) else wC d (ts.drop (j+1)) (ps.drop (j+1)):=by
 rw[T? h,T? h1,wC,E!,C! h,E!,C! h1];rfl
variable {l:List aB}
theorem aqQ{k:Nat}(h:k<l.length)(h1:k<a.length):
  sC ts (l.drop k) (a.drop k)=if(wC (wF l k).2.2 ts (aks a k)).2 then wC (wF l k).2.2 ts (aks a k) else sC ts (l.drop (k+1)) (a.drop (k+1)):=by
 rw[T? h,T? h1,sC,wF,aks,E!,C! h,E!,C! h1];rfl
theorem afU{k:Nat}(h:W2 l ts a)(H:k<l.length):k<a.length/\aaF ts (aks a k)/\aW (wF l k).2.2:=by
 have V:k<a.length:=Y! H h.1;exact⟨V,h.2.1 _ (aU a k [] V),h.2.2.2 _ (aU l k _ H)⟩
theorem QW{k:Nat}(h:uL l ts a k j)(c:j<ts.length):
  k<a.length/\j<(aks a k).length/\Dg (wF l k).2.2 (ts.getD j []) ((aks a k).getD j (0,[],[],[],[],[])).2.2.2.2.1 ((aks a k).getD j (0,[],[],[],[],[])).2.2.2.2.2:=by
 obtain⟨m,t,e,u,v⟩:=h;obtain⟨o,Q,r⟩:=afU e m;have H:=Y! c Q.1;have q:=Q.2 _ (aU (aks a k) j (0,[],[],[],[],[]) H);exact⟨o,H,r,e.2.2.1 _ (aU ts j [] c),q.1,q.2.1,q.2.2⟩
theorem afV{k:Nat}(c:Bw n g s docs l=true)(h:uL l ts a k j)(H:j<ts.length)
  (e:(fv (wF l k).2.2 (ts.getD j []) ((aks a k).getD j (0,[],[],[],[],[]))).2=true):fv (wF l k).2.2 (ts.getD j []) ((aks a k).getD j (0,[],[],[],[],[]))=lf n g s docs l ts a:=by
 obtain⟨q1,q2,_⟩:=QW h H;obtain⟨m,o,q,r,t⟩:=h;simp_all[aqP,wF,q2,Q!,lf,aqQ,q1]
theorem aHl{k:Nat}(h:uL l ts a k j)(H:j<ts.length)
  (q:(fv (wF l k).2.2 (ts.getD j []) ((aks a k).getD j (0,[],[],[],[],[]))).2=false):uL l ts a k (j+1):=by
 obtain⟨Q,r,_⟩:=QW h H;obtain⟨c,t,e,m,o⟩:=h;refine⟨c,H,e,m,o.trans ?_⟩;grind[aqP]
theorem aqR{k:Nat}(h:uL l ts a k j)(c:ts.length<=j):KD l ts a (k+1):=by
 obtain⟨h1,o,H,e,m⟩:=h;obtain⟨q1,_⟩:=afU H h1;refine⟨h1,H,e.trans ?_⟩;rw[aqQ h1 q1,m,awO c];rfl
theorem afW{k:Nat}(H:Bw n g s docs l=true)(h:KD l ts a k)(c:l.length<=k):lf n g s docs l ts a=ix:=by
 obtain⟨e,m,o⟩:=h;simp_all[lf,Q!,List.drop_of_length_le,sC]
theorem á(h:(fk docs l).2=0):cy docs l=true:=by
 grind[fk]
theorem afX(c:cy docs l=true)(H:cO n g s=true)(h:Bw n g s docs l=true):n=docs.length/\g=root (leaves docs)/\s=ya docs l:=by
 have e:zv docs l=hB docs.length (root (leaves docs)) (ya docs l):=by
  simp_all[zv,gI,Q!,th,hW,wk]
 have h:=of_decide_eq_true h;rw[e,th,hW,if_pos H] at h;have q:=(Ms (a:=(n,g,s)) (b:=((docs.length:Int),root (leaves docs),ya docs l)) H (wk c)).1 h;grind
theorem GO{r:B8}(h:EH n g s r=true):cO n g s=true/\l7 3 (hB n g s)=r:=by
 simp[EH,Bool.and_eq_true,decide_eq_true_eq] at h;grind[qV,absurd]
theorem ckA {r b:B8}{q:M bj}(h:(fJ r q b).2=0)(H:(aI b).2=0):Fy r (aI b).1 (al q)=true:=by
 grind[fJ,absurd]
theorem afY {docs:O}{l:M aB}{q:M bj}{b:B8}(o:b.length<1099511627776)(t:dq q)(u:(fk docs l).2=0)(v:(fJ (fk docs l).1 q b).2=0)(c:(aI b).2=0):
  uK (aI b).1.1 (aI b).1.2.1 (aI b).1.2.2.1 docs l (al q) (aI b).1.2.2.2:=by
 intro w;have k:=á u;have H:=ckA v c;simp[Fy,Bool.and_eq_true] at H;obtain⟨h,_⟩:=GO H.1;obtain⟨_,_,e⟩:=afX k h w;obtain⟨A,B,C,P,x⟩:=WY o t c;have D:(aI b).1.2.2.1.length=l.length:=by grind[Mu]
 refine⟨w!,λr h=>⟨?_,λp y=>x r h p y⟩,P,λs z=>(Eo k s z).2.2⟩;obtain⟨i,hi,rfl⟩:=l? h;have m:=H.2;simp[AN,V!,f?,B!] at m;have:=(m i w!).1;simp[qW,H!,E?,E!,C! hi,Option.getD_some] at this;omega
theorem aHm(h:b.length<1099511627776)(H:(fk docs l).2=0):mI docs (bx b).1.2.2.2.2.1 (bx b).1.2.2.2.2.2:=by
 obtain⟨k,c⟩:=AI (á H);refine⟨⟨w!,λd e=>?_⟩,Nat.lt_of_le_of_lt (afy b) h,Ñ b⟩;obtain⟨i,m,rfl⟩:=List.getElem_of_mem e;have:=c i;grind
theorem W9 {docs:O}{l:M aB}{q:M bj}{b:B8}(h:(fk docs l).2=0)(H:(fJ (fk docs l).1 q b).2=0)(c:(aI b).2=0):
  dJ docs l q b=Ng [hdF (aI b).1.1 (aI b).1.2.1 (aI b).1.2.2.1 docs l,lsF (aI b).1.1 (aI b).1.2.1 (aI b).1.2.2.1 docs l (al q) (aI b).1.2.2.2]:=by
 simp_all[dJ,R!,not_not_intro]
theorem afZ {docs:O}{l:M aB}{i:Int}{b:B8}(h:(fk docs l).2=0)(H:(uc (fk docs l).1 i b).2=0)(c:(bx b).2=0):
  mX docs l i b=Ng [hdF (bx b).1.1 (bx b).1.2.1 (bx b).1.2.2.1 docs l,dcF (bx b).1.1 (bx b).1.2.1 (bx b).1.2.2.1 docs l i (bx b).1.2.2.2.2.1 (bx b).1.2.2.2.2.2]:=by
 simp_all[mX,R!,not_not_intro]
def KE(docs:O)(l:M aB)(b:B8):Bool:=sG docs l || decide (20000<(b.length:Int))
def kz:Qi:=([yo],[(0,1,[(yo,[0])])])
abbrev kz0:(O×M aB)×Int:=dF (Vg.pV B8) (Vg.pV (Int×Int×M (B8×U))) [104,97,121]
theorem Xa:(bS kz0.1.1 kz0.1.2).1=kz:=by rfl
theorem Xb:(rF kz.1 kz.2 jK).1.length<1099511627776/\(oC kz.1 kz.2 0).1.length<1099511627776:=by decide+kernel
theorem aNO:fJ (fk kz.1 kz.2).1 jK (rF kz.1 kz.2 jK).1=([0],0):=by decide+kernel
theorem aNP:(dJ kz.1 kz.2 jK (rF kz.1 kz.2 jK).1).2=false:=by decide+kernel
theorem aNQ:(mX kz.1 kz.2 0 (oC kz.1 kz.2 0).1).2=false:=by decide+kernel
theorem awQ:(bif lG (fJ (fk kz.1 kz.2).1 jK (rF kz.1 kz.2 jK).1).1 [0] then bif decide ((fJ (fk kz.1 kz.2).1 jK (rF kz.1 kz.2 jK).1).2=0) then bif !(dJ kz.1 kz.2 jK (rF kz.1 kz.2 jK).1).2 then !(mX kz.1 kz.2 0 (oC kz.1 kz.2 0).1).2 else false else false else false)=true:=by
 rw[aNO,aNP,aNQ];rfl
theorem QX {a b:B8}(h:(bt a b).2=false)(c:sum a=sum b):a=b:=by
 unfold bt at h;split at h;cases h;rename_i H;simp[QT,Bool.and_eq_true,Bool.not_eq_true',decide_eq_true_eq,not_and] at H;by_cases e:a=b;exact e;exact absurd c (H (decide_eq_false e))
def FA(x:Cl):Prop:=x.2=true->QT x.1.1 x.1.2=true/\iy x.1.1 x.1.2
theorem rf:FA ix:=nofun
theorem QY {a:B8}(h:iy a b):FA (bt a b):=by
 unfold bt;split;exact λ_=>⟨w!,h⟩;exact rf
theorem UJ:∀(l:M CF),(∀F∈l,∃x,(F .n).2.1=Bv x/\FA x)->FA (Ng l)
 |[],_=>nofun
 |F::l,h=>by
  obtain⟨x,h1,H⟩:=h F (List.mem_cons_self ..);have i:=UJ l λG c=>h G (List.mem_cons_of_mem _ c);unfold Ng gF;rw[h1,W7];cases e:x.2 with
  |true=>exact λ_=>H e
  |false=>exact i
theorem af0:∀(l:M CF),(∀F∈l,∃x,(F .n).2.1=Bv x)->(Ng l).2=false->∀F∈l,∀x,(F .n).2.1=Bv x->x.2=false
 |[],_,_,F,h=>nomatch h
 |F::l,h,c,G,H=>by
  obtain⟨x,h1⟩:=h F (List.mem_cons_self ..);unfold Ng gF at c;rw[h1,W7] at c;cases k:x.2 with
  |true=>grind
  |false=>
   rw[k] at c;rcases List.mem_cons.1 H with rfl|H;intro y m;have e:=(W7 y).symm.trans ((congrArg tD (m.symm.trans h1)).trans (W7 x));grind;exact af0 l (λG H=>h G (List.mem_cons_of_mem _ H)) c G H
theorem KF {a:B8}(h:a.length=32)(H:b.length=32):bz a b=sum (bB 1 (a++b)):=by
 simp[bz,Mc,h,H,decide_true,Bool.and_self,Q?];rfl
theorem alH {l:O}(h:2<=l.length)(H:l.length<=1099511627776)(c:cP l=true):wE l=bB 1 (root (l.take (sp l.length))++root (l.drop (sp l.length))):=by
 simp_all[wE,zp,E?,kI,Q!,ny,nz]
theorem aHp(n:Int)(g:B8)(s:M Sg)(docs:O)(l:M aB):FA (sI n g s docs l):=QY (NJ 3 ⟨NL ..,NL ..⟩)
theorem alJ{docs:O}{l:M aB}(h:cy docs l=true)(H:EH n g s (fk docs l).1=true)(c:(sI n g s docs l).2=false):Bw n g s docs l=true:=by
 obtain⟨k,e⟩:=GO H;have E:th n g s=hB n g s:=by rw[th,hW,Q! k]
 have m:zv docs l=hB docs.length (root (leaves docs)) (ya docs l):=by simp_all[zv,gI,Q!,th,hW,wk]
 have q:sum (bB 3 (th n g s))=sum (bB 3 (zv docs l)):=by
  rw[E,m];rw[fk,Q! h] at e;exact e
 exact L? (z? (QX c q))
theorem My(h:KE docs l b=false):b.length<=20000/\small l:=by
 grind[KE,Bool.or_eq_false_iff,decide_eq_false_iff_not,sG,small]
end Go.S
namespace Go.S
end Go.S
namespace Go.S
open Go.Vg (CF AV gF)
abbrev Sp5:=Int×Int×Int×Int×Bool
def desc(f m n:Int):M Sp5×Int:=
 if h:n<=m\/n<2 then([],f)
 else if m<=((sp n.toNat:Nat):Int) then((f,m,n,((sp n.toNat:Nat):Int),false)::(desc f m ((sp n.toNat:Nat):Int)).1,(desc f m ((sp n.toNat:Nat):Int)).2)
 else((f,m,n,((sp n.toNat:Nat):Int),true)::(desc (f+((sp n.toNat:Nat):Int)) (m-((sp n.toNat:Nat):Int)) (n-((sp n.toNat:Nat):Int))).1,(desc (f+((sp n.toNat:Nat):Int)) (m-((sp n.toNat:Nat):Int)) (n-((sp n.toNat:Nat):Int))).2)
termination_by n.toNat
decreasing_by all_goals (have:=iY (n:=n.toNat) w!;omega)
def aFO(m n:Int):M Sp5:=(desc 0 m n).1
def aFP(m n:Int):Int:=(desc 0 m n).2
def aF7(m n:Int):Prop:=1<=m/\m<=n/\n<=1099511627776
def awP(m n:Int)(k:M Sp5×Int×Int×Int):Prop:=
 aFO m n=k.1++(desc k.2.1 k.2.2.1 k.2.2.2).1/\aFP m n=(desc k.2.1 k.2.2.1 k.2.2.2).2/\1<=k.2.2.1/\k.2.2.1<=k.2.2.2/\0<=k.2.1/\k.2.1+k.2.2.2<=n/\k.2.1+k.2.2.1=m/\k.1.length+k.2.2.2<=n
def akf(a b:O):Cl:=
 if h:a.length<2 then bt (bB 0 (a.getD 0 [])) (bB 0 (b.getD 0 []))
 else if(bt (wE (leaves a)) (wE (leaves b))).2 then bt (wE (leaves a)) (wE (leaves b))
 else if(akf (a.take (sp a.length)) (b.take (sp a.length))).2 then akf (a.take (sp a.length)) (b.take (sp a.length))
 else akf (a.drop (sp a.length)) (b.drop (sp a.length))
termination_by a.length
decreasing_by all_goals (have:=iY (n:=a.length) w!;simp only[C?,N?];omega)
def aui(a b x y:O):Prop:=x=leaves a/\y=leaves b/\a.length=b.length/\1<=a.length/\dj a/\dj b
def ap0(a:O)(k:Int)(b x y:O):Prop:=aui a b x y/\1<=k/\k<a.length
def tkI(l:O)(k:Int):O:=l.take k.toNat
def dpI(l:O)(k:Int):O:=l.drop k.toNat
def auw(a b:O):Cl:=if a.length≠b.length\/a.length=0 then ix else akf a b
def ajL(l:O)(i j:Int):O:=(l.take j.toNat).drop i.toNat
def aI1(a:O)(i j:Int)(b:O):Prop:=dj a/\dj b/\0<=i/\i<=j/\j<=a.length/\j<=b.length
def ptF(a:O)(i j:Int)(b:O):CF:=λz=>(aI1 a i j b,Bv (auw (ajL a i j) (ajL b i j)),z)
def noF:CF:=λz=>(True,Bv ix,z)
def ep(a b:O):M Sp5:=aFO a.length b.length
def ccF(a b:O):Int:=aFP a.length b.length
def ajU(a b:O)(i:Nat):Sp5:=(ep a b).getD i (0,0,0,0,false)
def ccP(a b p:O):O:=bif decide (0<ccF a b) then p.drop 1 else p
def ccO(a b p:O):B8:=bif decide (0<ccF a b) then p.getD 0 [] else kI (leaves a)
def ccR(a b p:O)(k:Nat):B8×B8:=((List.zip ((ep a b).map λs=>s.2.2.2.2).reverse (ccP a b p)).take k).foldl aNo (ccO a b p,ccO a b p)
def an8(a b p:O)(k:Nat):B8:=(ccR a b p k).1
def anp(a b p:O)(k:Nat):B8:=(ccR a b p k).2
def aQD(a b p:O)(k:Nat)(s:Sp5):CF:=
 if s.2.2.2.2 then Ý (bB 1 ((ccP a b p).getD k []++an8 a b p k)) (wE (ajL (leaves a) s.1 (s.1+s.2.1))) else noF
def aQZ(a b p:O)(k:Nat)(s:Sp5):CF:=
 Ý (if s.2.2.2.2 then bB 1 ((ccP a b p).getD k []++anp a b p k) else bB 1 (anp a b p k++(ccP a b p).getD k [])) (wE (ajL (leaves b) s.1 (s.1+s.2.2.1)))
def an3(a b p:O):Nat->M CF
 |0=>Vg.aE.JY (ep a b).length
 |k+1=>(an3 a b p k).set ((ep a b).length-1-k) (aQD a b p k (ajU a b ((ep a b).length-1-k)))
def anH(a b p:O):Nat->M CF
 |0=>Vg.aE.JY (ep a b).length
 |k+1=>(anH a b p k).set ((ep a b).length-1-k) (aQZ a b p k (ajU a b ((ep a b).length-1-k)))
def aQ0(a b:O)(k:Nat):M CF:=(((ep a b).take k).filter λs=>s.2.2.2.2).map λs=>ptF a s.1 (s.1+s.2.2.2.1) b
def anw(a b p:O)(k:Nat):M CF:=an3 a b p (ep a b).length++anH a b p (ep a b).length++aQ0 a b k
def aI3(a b p:O):M CF:=anw a b p (ep a b).length++[ptF a (ccF a b) a.length b]
def anD(a b p:O):Prop:=a.length=0\/b.length<a.length\/¬J7 a.length b.length (kI (leaves a)) (kI (leaves b)) p=0
instance (a b p:List B8):Decidable (anD a b p):=by unfold anD;infer_instance
def aul(a b p:O):Cl:=if anD a b p then ix else Ng (aI3 a b p)
def leP(l:M Sp5)(k:Nat):Prop:=k<=l.length
def aFQ(a b p:O):Prop:=dj a/\dj b/\eX p
def aOi(n:Int)(g:B8)(s:M Sg)(d:O)(l:M aB)(N:Int)(G:B8)(S:M Sg)(a:O)(L:M aB)(p:O):Prop:=aFQ d a p
def at6(n:Int)(g:B8)(s:M Sg)(d:O)(l:M aB)(N:Int)(G:B8)(S:M Sg)(a:O)(L:M aB)(p:O):Cl:=
 if Bw n g s d l=true/\Bw N G S a L=true then aul d a p else ix
def pfF(n:Int)(g:B8)(s:M Sg)(d:O)(l:M aB)(N:Int)(G:B8)(S:M Sg)(a:O)(L:M aB)(p:O):CF:=
 λz=>(aOi n g s d l N G S a L p,Bv (at6 n g s d l N G S a L p),z)
def alN(d:O)(l:M aB)(a:O)(L:M aB)(b:B8):Cl:=
 if ¬(fk d l).2=0 then ix else if ¬(fk a L).2=0 then ix
 else if ¬(anq (fk d l).1 b).2.2=0\/¬(anq (fk d l).1 b).1=(fk a L).1 then ix else if ¬(Ě b).2=0 then ix
 else Ng [hdF (Ě b).1.1 (Ě b).1.2.1 (Ě b).1.2.2.1 d l,hdF (Ě b).1.2.2.2.1 (Ě b).1.2.2.2.2.1 (Ě b).1.2.2.2.2.2.1 a L,
  pfF (Ě b).1.1 (Ě b).1.2.1 (Ě b).1.2.2.1 d l (Ě b).1.2.2.2.1 (Ě b).1.2.2.2.2.1 (Ě b).1.2.2.2.2.2.1 a L (Ě b).1.2.2.2.2.2.2]
end Go.S
namespace Go.S
open Go.Vg (CF AV gF tD)
variable {m n i j:Int}{x:List Sp5×Int×Int×Int}{l a b y p:List B8}{s:Sp5}
theorem aOO {f:Int}(h:n<=m\/n<2):desc f m n=([],f):=by rw[desc,dif_pos h]
theorem aQM {f n:Int}(h:2<=n)(H:m<n)(hi:m<=((sp n.toNat:Nat):Int)):desc f m n=((f,m,n,((sp n.toNat:Nat):Int),false)::(desc f m ((sp n.toNat:Nat):Int)).1,(desc f m ((sp n.toNat:Nat):Int)).2):=by
 rw[desc,dif_neg w!,Q! hi]
theorem aQN {f n:Int}(h:2<=n)(H:m<n)(hi:¬m<=((sp n.toNat:Nat):Int)):
  desc f m n=((f,m,n,((sp n.toNat:Nat):Int),true)::(desc (f+((sp n.toNat:Nat):Int)) (m-((sp n.toNat:Nat):Int)) (n-((sp n.toNat:Nat):Int))).1,(desc (f+((sp n.toNat:Nat):Int)) (m-((sp n.toNat:Nat):Int)) (n-((sp n.toNat:Nat):Int))).2):=by
 rw[desc,dif_neg w!,R! hi]
theorem a0o(h:aF7 m n):awP m n ([],0,m,n):=by
 obtain⟨H,c,d⟩:=h;exact⟨rfl,rfl,H,c,Int.le_refl _,z!,z!,z!⟩
theorem aV0(H:aF7 m n)(h:awP m n x)(c:x.2.2.1<x.2.2.2):split x.2.2.2=((sp x.2.2.2.toNat:Nat):Int)/\1<=sp x.2.2.2.toNat/\((sp x.2.2.2.toNat:Nat):Int)<x.2.2.2/\x.2.2.2<=1099511627776:=by
 obtain⟨p,P,d⟩:=H;obtain⟨q,Q,e,f,g,k,o,r⟩:=h;have:=iY (n:=x.2.2.2.toNat) w!;exact⟨Aw w! w!,this.1,w!,w!⟩
theorem aSQ(c:aF7 m n)(h:awP m n x)(H:x.2.2.1<x.2.2.2):
  awP m n (x.1++[(x.2.1,x.2.2.1,x.2.2.2,split x.2.2.2,decide (split x.2.2.2<x.2.2.1))],(bif decide (split x.2.2.2<x.2.2.1) then x.2.1+split x.2.2.2 else x.2.1),(bif decide (split x.2.2.2<x.2.2.1) then x.2.2.1-split x.2.2.2 else x.2.2.1),(bif decide (split x.2.2.2<x.2.2.1) then x.2.2.2-split x.2.2.2 else split x.2.2.2))/\
  (bif decide (split x.2.2.2<x.2.2.1) then x.2.2.2-split x.2.2.2 else split x.2.2.2).toNat<x.2.2.2.toNat:=by
 obtain⟨e,b,B,k⟩:=aV0 c h H;obtain⟨q,Q,d,o,f,r,g,t⟩:=h;rw[e];by_cases hi:x.2.2.1<=((sp x.2.2.2.toNat:Nat):Int);rw[decide_eq_false w!,cond_false,cond_false,cond_false];rw[aQM w! H hi] at q Q;refine⟨⟨by simpa using q,Q,d,hi,f,?_,g,?_⟩,?_⟩;dsimp only;omega;simp;omega
 omega
 . rw[decide_eq_true w!,cond_true,cond_true,cond_true];rw[aQN w! H hi] at q Q;refine⟨⟨by simpa using q,Q,?_,?_,?_,?_,?_,?_⟩,?_⟩;all_goals (try dsimp only)
   all_goals (try simp only[J!,J?])
   all_goals omega
theorem aUf(h:awP m n x)(H:¬x.2.2.1<x.2.2.2):x.1=aFO m n/\x.2.1=aFP m n:=by
 obtain⟨q,Q,_⟩:=h;rw[aOO w!] at q Q;exact⟨by simpa using q.symm,Q.symm⟩
theorem a0p(H:aF7 m n)(h:awP m n x):x.1.length<=1099511627776:=by
 obtain⟨q,Q,c,d,e,f,g,k⟩:=h;have:=H.2.2;omega
theorem aI4(n:Nat):∀(f m:Int),1<=m->m<=n->0<=f->
  (∀s∈(desc f m n).1,0<=s.1/\f<=s.1/\1<=s.2.1/\s.2.1<s.2.2.1/\1<=s.2.2.2.1/\s.2.2.2.1<s.2.2.1/\s.1+s.2.1=f+m/\s.1+s.2.2.1<=f+n/\(s.2.2.2.2=true->s.2.2.2.1<s.2.1))/\
  f<=(desc f m n).2/\(desc f m n).2<=f+m/\(desc f m n).1.length<=n/\(desc f m n).1.map (λs=>s.2.2.2.2)=WG m n:=by
 induction n using Nat.strongRecOn with
 |_ n i=>
  intro f m c A d;by_cases B:m=n;rw[aOO w!,aPZ w!];exact⟨λs h=>(nomatch h),Int.le_refl _,by dsimp only;omega,Nat.zero_le _,rfl⟩;have C:=iY (n:=n) w!;have em:((n:Int)).toNat=n:=Int.toNat_natCast _;by_cases H:m<=((sp n:Nat):Int);rw[aQM (n:=(n:Int)) w! w! (by rw[em];exact H),aMs (n:=(n:Int)) w! w! (by rw[em];exact H),em];obtain⟨g,G,t,w,g5⟩:=i (sp n) w! f m c H d;refine⟨λs h=>?_,G,t,by simp;omega,by simp[g5]⟩;rcases List.mem_cons.1 h with rfl|h;dsimp only;refine⟨d,Int.le_refl _,c,w!,w!,w!,rfl,w!,nofun⟩;obtain⟨k,u,K,e,o,q,v,z,r⟩:=g s h;exact⟨k,u,K,e,o,q,v,w!,r⟩;rw[aQN (n:=(n:Int)) w! w! (by rw[em];exact H),aP0 (n:=(n:Int)) w! w! (by rw[em];exact H),em];have E:(n:Int)-((sp n:Nat):Int)=((n-sp n:Nat):Int):=by omega
  rw[E];obtain⟨g,G,t,w,g5⟩:=i (n-sp n) w! (f+((sp n:Nat):Int)) (m-((sp n:Nat):Int)) w! w! w!;refine⟨λs h=>?_,by dsimp only;omega,by dsimp only;omega,by simp;omega,by simp[g5]⟩;rcases List.mem_cons.1 h with rfl|h;dsimp only;refine⟨d,Int.le_refl _,c,w!,w!,w!,rfl,w!,λ_=>by omega⟩;obtain⟨k,u,K,e,o,q,v,z,r⟩:=g s h;exact⟨k,w!,K,e,o,q,w!,w!,r⟩
theorem aQ1(l:O)(k:Nat):leaves (l.take k)=(leaves l).take k:=by simp[leaves]
theorem aQ2(l:O)(k:Nat):leaves (l.drop k)=(leaves l).drop k:=by simp[leaves]
theorem aP3(h:dj l)(k:Nat):dj (l.take k):=⟨by rw[C?];have:=h.1;omega,λb H=>h.2 b (List.mem_of_mem_take H)⟩
theorem aP4(h:dj l)(k:Nat):dj (l.drop k):=⟨by rw[N?];have:=h.1;omega,λb H=>h.2 b (List.mem_of_mem_drop H)⟩
variable {x:List B8}
theorem aV1{k:Int}(h:ap0 a k b x y):aui (a.take k.toNat) (b.take k.toNat) (x.take k.toNat) (y.take k.toNat):=by
 obtain⟨⟨rfl,rfl,d,e,H,c⟩,f,g⟩:=h;refine⟨(aQ1 ..).symm,(aQ1 ..).symm,?_,?_,aP3 H _,aP3 c _⟩<;>(simp only[C?];omega)
theorem aV2{k:Int}(h:ap0 a k b x y):aui (a.drop k.toNat) (b.drop k.toNat) (x.drop k.toNat) (y.drop k.toNat):=by
 obtain⟨⟨rfl,rfl,d,e,H,c⟩,f,g⟩:=h;refine⟨(aQ2 ..).symm,(aQ2 ..).symm,?_,?_,aP4 H _,aP4 c _⟩<;>(simp only[N?];omega)
theorem aMR(h:aui a b x y):x.length=a.length/\y.length=a.length/\b.length=a.length/\a.length<=1099511627776:=by
 obtain⟨rfl,rfl,H,d,c,e⟩:=h;rw[nA,nA];exact⟨rfl,H.symm,H.symm,c.1⟩
theorem aQ3(h:a.length<2):akf a b=bt (bB 0 (a.getD 0 [])) (bB 0 (b.getD 0 [])):=by rw[akf,dif_pos h]
theorem aQO(h:2<=a.length):akf a b=if(bt (wE (leaves a)) (wE (leaves b))).2 then bt (wE (leaves a)) (wE (leaves b)) else if(akf (a.take (sp a.length)) (b.take (sp a.length))).2 then akf (a.take (sp a.length)) (b.take (sp a.length)) else akf (a.drop (sp a.length)) (b.drop (sp a.length)):=by
 rw[akf,dif_neg w!]
theorem aW3 {a b:B8}(h:(bt a b).2=false):bt a b=ix:=by
 unfold bt at *;split;rename_i h1;rw[if_pos h1] at h;cases h;rfl
theorem aV3(n:Nat):∀a b:O,a.length=n->(akf a b).2=false->akf a b=ix:=by
 refine wu (C:=λn=>∀a b:O,a.length=n->(akf a b).2=false->akf a b=ix) (λn h a b e H=>?_) (λn h I i a b e H=>?_) n;rw[aQ3 w!] at *;exact aW3 H;subst e;have c:=iY h;rw[aQO h] at *;split at H;rename_i q;rw[q] at H;cases H;rename_i q0;rw[R! q0];split at H;rename_i q;rw[q] at H;cases H;rename_i q1;rw[R! q1];exact i _ _ (by rw[N?]) H
theorem aQ4(x y v:Cl)(p q r:Prop):Ng [λz=>(p,Bv x,z),λz=>(q,Bv y,z),λz=>(r,Bv v,z)]=if x.2 then x else if y.2 then y else if v.2 then v else ix:=by
 obtain⟨⟨a,b⟩,c⟩:=x;obtain⟨⟨e,f⟩,d⟩:=y;obtain⟨⟨A,B⟩,C⟩:=v;cases c<;>cases d<;>cases C<;>rfl
theorem aUg(l L:O):iy (wE l) (wE L):=by
 have:=à l;have:=à L;unfold iy small;omega
theorem aW4(h:2<=a.length)(p q r:Prop):Ng [λz=>(p,Bv (bt (wE (leaves a)) (wE (leaves b))),z),λz=>(q,Bv (akf (a.take (sp a.length)) (b.take (sp a.length))),z),λz=>(r,Bv (akf (a.drop (sp a.length)) (b.drop (sp a.length))),z)]=akf a b:=by
 rw[aQ4,aQO h];cases H:(akf (a.drop (sp a.length)) (b.drop (sp a.length))).2 with
 |true=>rfl
 |false=>rw[aV3 _ _ _ rfl H];simp
theorem aQP(h:2<=l.length)(d:l.length<=1099511627776):
  wE (leaves l)=bB 1 (root (leaves (l.take (sp l.length)))++root (leaves (l.drop (sp l.length))))/\root (leaves l)=sum (wE (leaves l)):=by
 have H:=kn l;have c:=nA l;have e:=alH (l:=leaves l) w! w! H;rw[c] at e;have r:=za (l:=leaves l) w! rfl;rw[c] at r;rw[e,r,aQ1,aQ2,KF (uD (ny H _)) (uD (nz H _))];exact⟨rfl,rfl⟩
theorem aFw(l:O):(root (leaves l)).length=32:=uD (kn l)
theorem aW5(h:2<=a.length)(H:(akf a b).2=false):(bt (wE (leaves a)) (wE (leaves b))).2=false/\(akf (a.take (sp a.length)) (b.take (sp a.length))).2=false/\(akf (a.drop (sp a.length)) (b.drop (sp a.length))).2=false:=by
 rw[aQO h] at H;split at H;rename_i q;rw[q] at H;cases H;rename_i q;split at H;rename_i q;rw[q] at H;cases H;rename_i Q;exact⟨by simpa using q,by simpa using Q,H⟩
theorem aSl {a b c d:B8}(h:bB 1 (a++b)=bB 1 (c++d))(H:a.length=c.length):a=c/\b=d:=List.append_inj (z? h) H
theorem aTc(n:Nat):∀a b:O,a.length=n->b.length=n->1<=n->n<=1099511627776->(akf a b).2=false->root (leaves a)=root (leaves b)->a=b:=by
 refine wu (C:=λn=>∀a b:O,a.length=n->b.length=n->1<=n->n<=1099511627776->(akf a b).2=false->root (leaves a)=root (leaves b)->a=b) (λn h a b d E g f H c=>?_) (λn h i I a b d E g f H c=>?_) n;rw[aQ3 w!] at H;rw[Ed (by rw[nA];omega),Ed (by rw[nA];omega)] at c;obtain⟨x,rfl⟩:∃x,a=[x]:=List.length_eq_one_iff.1 w!;obtain⟨y,rfl⟩:∃x,b=[x]:=List.length_eq_one_iff.1 w!;have:=z? (QX H c);rw[show x=y from this];subst d;have v:=iY h;obtain⟨k,o,q⟩:=aW5 h H;obtain⟨r,t⟩:=aQP h f;obtain⟨f1,f2⟩:=aQP (l:=b) w! w!;have e:=QX k (by rw[<-t,<-f2];exact c);rw[r,f1,E] at e;obtain⟨K,u⟩:=aSl e (by rw[aFw,aFw]);have q1:=i _ _ (by rw[C?];omega) (by rw[C?];omega) w! w! o K;have q2:=I _ _ (by rw[N?]) (by rw[N?,E]) w! w! q u;rw[<-O? (sp a.length) a,q1,q2,O?]
theorem aVc(n:Nat):∀a b:O,a.length=n->(∀x∈a,x.length<1099511627776)->(∀x∈b,x.length<1099511627776)->FA (akf a b):=by
 refine wu (C:=λn=>∀a b:O,a.length=n->(∀x∈a,x.length<1099511627776)->(∀x∈b,x.length<1099511627776)->FA (akf a b)) (λn h a b e c d=>?_) (λn h i I a b e c d=>?_) n
 . rw[aQ3 w!]
   have q:∀l:O,(∀x∈l,x.length<1099511627776)->az (l.getD 0 []):=λl f=>by
    cases l with
    |nil=>exact Y! (Nat.zero_lt_succ _) (M! _)
    |cons x l=>exact f x (G! ..)
   exact QY (NJ 0 ⟨q a c,q b d⟩)
 subst e;rw[aQO h];split;exact QY (aUg ..);split;exact i _ _ (by rw[C?];have:=iY h;omega) (λx H=>c x (List.mem_of_mem_take H)) (λx H=>d x (List.mem_of_mem_take H));exact I _ _ (by rw[N?]) (λx H=>c x (List.mem_of_mem_drop H)) (λx H=>d x (List.mem_of_mem_drop H))
theorem aTd(h:dj a)(H:dj b):FA (auw a b):=by
 unfold auw;split;exact rf;exact aVc _ a b rfl h.2 H.2
theorem aQ5 {c:Type}(g:Nat->c)(L:Nat)(T:Nat->M c)(h:(T 0).length=L)(H:∀k,T (k+1)=(T k).set (L-1-k) (g k)):∀k,k<=L->(T k).length=L/\∀i,i<L->L-k<=i->(T k)[i]? =some (g (L-1-i))
 |0,_=>⟨h,λi d f=>by omega⟩
 |k+1,hk=>by
  obtain⟨G,o⟩:=aQ5 g L T h H k w!;rw[H];refine⟨by rw[List.length_set];exact G,λi d f=>?_⟩;rw[List.getElem?_set];by_cases e:L-1-k=i;rw[Q! e,Q! w!];have :L-1-i=k:=by omega
  rw[this];rw[R! e];exact o i d w!
theorem aO2{k:Nat}(h:k<=(ep a b).length):(an3 a b p k).length=(ep a b).length/\∀i,i<(ep a b).length->(ep a b).length-k<=i->(an3 a b p k)[i]? =some (aQD a b p ((ep a b).length-1-i) (ajU a b i)):=by
 obtain⟨g,g2⟩:=aQ5 (λk=>aQD a b p k (ajU a b ((ep a b).length-1-k))) (ep a b).length (an3 a b p) (List.length_replicate ..) (λ_=>rfl) k h;refine⟨g,λi h1 H=>?_⟩;rw[g2 i h1 H];have :(ep a b).length-1-((ep a b).length-1-i)=i:=by omega
 rw[this]
theorem aO3{k:Nat}(h:k<=(ep a b).length):(anH a b p k).length=(ep a b).length/\∀i,i<(ep a b).length->(ep a b).length-k<=i->(anH a b p k)[i]? =some (aQZ a b p ((ep a b).length-1-i) (ajU a b i)):=by
 obtain⟨g,g2⟩:=aQ5 (λk=>aQZ a b p k (ajU a b ((ep a b).length-1-k))) (ep a b).length (anH a b p) (List.length_replicate ..) (λ_=>rfl) k h;refine⟨g,λi h1 H=>?_⟩;rw[g2 i h1 H];have :(ep a b).length-1-((ep a b).length-1-i)=i:=by omega
 rw[this]
theorem aTe(n:Nat):∀(f m:Int),1<=m->m<n->0<=f->(f<(desc f m n).2↔avM m=false):=by
 induction n using Nat.strongRecOn with
 |_ n i=>
  intro f m c k d;have h:2<=n:=by omega
  have o:=iY h;obtain⟨t,e,q,r⟩:=aUd h;have em:((n:Int)).toNat=n:=E? _;by_cases H:m<=((sp n:Nat):Int);rw[aQM (n:=(n:Int)) w! w! (by rw[em];exact H),em];by_cases he:m=((sp n:Nat):Int);rw[aOO w!,he,e,aW1];simp;exact i (sp n) w! f m c w! d;rw[aQN (n:=(n:Int)) w! w! (by rw[em];exact H),em];have E:(n:Int)-((sp n:Nat):Int)=((n-sp n:Nat):Int):=by omega
  rw[E];obtain⟨_,G,_⟩:=aI4 (n-sp n) (f+((sp n:Nat):Int)) (m-((sp n:Nat):Int)) w! w! w!;have g:=aW2 (t:=t) (m:=m) w! w!;rw[g];simp;omega
theorem aQQ {a b p:O}{k:Nat}(H:(ccP a b p).length=(ep a b).length)(h:k<(ep a b).length):
  ccR a b p (k+1)=aNo (ccR a b p k) ((ajU a b ((ep a b).length-1-k)).2.2.2.2,(ccP a b p).getD k []):=by
 unfold ccR
 have e:(List.zip ((ep a b).map λs=>s.2.2.2.2).reverse (ccP a b p))[k]? =some ((ajU a b ((ep a b).length-1-k)).2.2.2.2,(ccP a b p).getD k []):=by
  rw[List.getElem?_zip_eq_some];refine⟨?_,?_⟩;rw[List.getElem?_reverse (by simpa using h),A?,List.length_map,ajU,E!,C! w!];rfl;rw[E!,C! w!];rfl
 rw[List.take_add_one,e,List.foldl_append];rfl
theorem aP5(h:¬anD a b p):1<=a.length/\a.length<=b.length/\b.length<=1099511627776/\cP p=true/\accepted a.length b.length (root (leaves a)) (root (leaves b)) p=true:=by
 unfold anD at h;simp only[not_or,Decidable.not_not] at h;obtain⟨c,d,H⟩:=h;rw[kI,kI,if_pos (kn a),if_pos (kn b)] at H;unfold J7 at H;split at H;cases H;split at H;rename_i q g;exact⟨w!,w!,w!,g.1,g.2⟩;cases H
theorem arO(h:¬anD a b p):(ccP a b p).length=(ep a b).length/\cP (ccP a b p)=true/\(ccO a b p).length=32/\(decide (0<ccF a b)=true->p.length≠0)/\ccR a b p (ep a b).length=(root (leaves a),root (leaves b)):=by
 obtain⟨C,D,F,g,H⟩:=aP5 h;have hO:kI (leaves a)=root (leaves a):=by rw[kI,Q! (kn a)]
 unfold accepted at H;rw[if_neg w!] at H;by_cases he:(a.length:Int)=b.length;rw[if_pos he] at H;simp only[Bool.and_eq_true,decide_eq_true_eq] at H;have r:desc 0 (a.length:Int) (b.length:Int)=([],0):=aOO w!;have e:ccF a b=0:=by rw[ccF,aFP,r]
 have t:ep a b=[]:=by rw[ep,aFO,r]
 have E:ccP a b p=p:=by rw[ccP,e];rfl
 have c:ccO a b p=root (leaves a):=by rw[ccO,e,<-hO];rfl
 refine⟨by rw[E,t];exact H.1,by rw[E];exact g,by rw[c,aFw],by rw[e];nofun,?_⟩;rw[ccR,t,c];simp[H.2]
 . rw[R! he] at H;have u:=aTe b.length 0 a.length w! w! (Int.le_refl _);obtain⟨_,_,_,_,w⟩:=aI4 b.length 0 a.length w! w! (Int.le_refl _);have i:(ep a b).map (λs=>s.2.2.2.2)=WG a.length b.length:=w;have v:(WG (a.length:Int) (b.length:Int)).length=(ep a b).length:=by rw[<-i,List.length_map]
   unfold aNq aNp at H;simp only[Bool.and_eq_true,decide_eq_true_eq] at H;obtain⟨o,k,K⟩:=H
   have d:∀(P:O) (O:B8),ccP a b p=P->ccO a b p=O->P.length=(WG (a.length:Int) (b.length:Int)).length->avL (WG a.length b.length) (O,O) P=(root (leaves a),root (leaves b))->ccR a b p (ep a b).length=(root (leaves a),root (leaves b)):=by
    intro P O z A G B;rw[ccR,z,A,i,d? (by simp;omega)];exact B
   cases f:avM (a.length:Int) with
   |true=>
    rw[f] at o k K;simp only[Q?,List.drop_succ_cons,List.drop_zero,List.getD_cons_zero] at o k K;have e:decide (0<ccF a b)=false:=e? λq=>by rw[u.1 q] at f;cases f
    have E:ccP a b p=p:=by rw[ccP,e];rfl
    have c:ccO a b p=root (leaves a):=by rw[ccO,e,<-hO];rfl
    exact⟨by rw[E,k,v],by rw[E];exact g,by rw[c,aFw],(by rw[e];nofun),d _ _ E c k K⟩
   |false=>
    rw[f] at o k K;simp only[c?,r?] at o k K;have e:decide (0<ccF a b)=true:=L? (u.2 f);have E:ccP a b p=p.drop 1:=by rw[ccP,e];rfl
    have c:ccO a b p=p.getD 0 []:=by rw[ccO,e];rfl
    exact⟨by rw[E,k,v],by rw[E];exact nz g 1,by rw[c];exact aSP g w!,λ_=>by omega,d _ _ E c k K⟩
theorem aQR(h:¬anD a b p):∀k,k<=(ep a b).length->(an8 a b p k).length=32/\(anp a b p k).length=32:=by
 obtain⟨h1,d,c,_⟩:=arO h;intro k;induction k with
 |zero=>intro _;exact⟨c,c⟩
 |succ k i=>
  intro e;obtain⟨g,G⟩:=i w!;have H:=aSP (p:=ccP a b p) d (k:=k) w!;unfold an8 anp at *;rw[aQQ h1 w!,aNo];split;exact⟨aum _ _ H g,aum _ _ H G⟩;exact⟨g,aum _ _ G H⟩
theorem aSm(l:O)(i j:Int):ajL (leaves l) i j=leaves (ajL l i j):=by simp[ajL,leaves]
theorem aPm(h:0<=i)(H:i<=j)(c:j<=l.length):((ajL l i j).length:Int)=j-i:=by
 simp only[ajL,N?,C?];omega
theorem aMu(k:Nat)(h:0<=i)(H:i+k<=j):(ajL l i j).take k=ajL l i (i+k):=by
 unfold ajL;rw[List.take_drop,List.take_take];congr 2
 omega
theorem aMv(k:Nat)(h:0<=i):(ajL l i j).drop k=ajL l (i+k) j:=by
 unfold ajL;rw[List.drop_drop];congr 1
 omega
theorem aPn(h:dj l)(i j:Int):dj (ajL l i j):=aP4 (aP3 h _) _
theorem aQE {a b:O}(h:a.length=b.length)(c:1<=a.length)(d:a.length<=1099511627776)(H:(auw a b).2=false)(e:root (leaves a)=root (leaves b)):a=b:=by
 rw[auw,R! w!] at H;exact aTc _ a b rfl h.symm c d H e
theorem aQ6 {a b:O}{j:Nat}{s:Sp5}{r:M Sp5}(h:(ep a b).drop j=s::r):j<(ep a b).length/\ajU a b j=s/\(ep a b).drop (j+1)=r:=by
 have H:j<(ep a b).length:=by
  by_cases q:j<(ep a b).length;exact q;rw[List.drop_of_length_le w!] at h;cases h
 rw[T? H] at h;obtain⟨rfl,c⟩:=List.cons.inj h;exact⟨H,by rw[ajU,E!,C! H];rfl,c⟩
theorem aTf {a b p:O}(h:¬anD a b p)
  (D:∀i,i<(ep a b).length->(bt (if(ajU a b i).2.2.2.2 then bB 1 ((ccP a b p).getD ((ep a b).length-1-i) []++anp a b p ((ep a b).length-1-i)) else bB 1 (anp a b p ((ep a b).length-1-i)++(ccP a b p).getD ((ep a b).length-1-i) [])) (wE (ajL (leaves b) (ajU a b i).1 ((ajU a b i).1+(ajU a b i).2.2.1)))).2=false)
  (T:∀i,i<(ep a b).length->(ajU a b i).2.2.2.2=true->(bt (bB 1 ((ccP a b p).getD ((ep a b).length-1-i) []++an8 a b p ((ep a b).length-1-i))) (wE (ajL (leaves a) (ajU a b i).1 ((ajU a b i).1+(ajU a b i).2.1)))).2=false)
  (V:∀i,i<(ep a b).length->(ajU a b i).2.2.2.2=true->(auw (ajL a (ajU a b i).1 ((ajU a b i).1+(ajU a b i).2.2.2.1)) (ajL b (ajU a b i).1 ((ajU a b i).1+(ajU a b i).2.2.2.1))).2=false)
  (F:(auw (ajL a (ccF a b) a.length) (ajL b (ccF a b) a.length)).2=false) (n:Nat):
  ∀(j:Nat) (f m:Int),1<=m->m<=n->0<=f->f+m=a.length->f+n<=b.length->j<=(ep a b).length->(ep a b).drop j=(desc f m n).1->ccF a b=(desc f m n).2->
   ccR a b p ((ep a b).length-j)=(root (leaves (ajL a f (f+m))),root (leaves (ajL b f (f+n))))->ajL a f (f+m)=ajL b f (f+m):=by
 obtain⟨_,_,X,_,_⟩:=aP5 h;obtain⟨I,Y,_,_,_⟩:=arO h;induction n using Nat.strongRecOn with
 |_ n J=>
  intro j f m Z h2 H N s P o g hR;have la:=aPm (l:=a) (i:=f) (j:=f+m) H w! w!;have lb:=aPm (l:=b) (i:=f) (j:=f+n) H w! s;by_cases x:m=n;rw[aOO w!] at o g
  have P:j=(ep a b).length:=by
   by_cases q:j<(ep a b).length;rw[T? q] at o;cases o;omega
  rw[P,Nat.sub_self] at hR;have y:ccO a b p=root (leaves (ajL a f (f+m))):=congrArg Prod.fst hR;have e2:ccO a b p=root (leaves (ajL b f (f+n))):=congrArg Prod.snd hR;dsimp only at g;rw[g,<-N] at F;subst x;exact aQE w! w! w! F (y.symm.trans e2);have Q:2<=n:=by omega
  have hs:=iY Q;have em:((n:Int)).toNat=n:=E? _;obtain⟨f1,f2⟩:=aQP (l:=ajL b f (f+n)) w! w!;have L:(ajL b f (f+n)).length=n:=by omega
  have K:∀k,k<(ep a b).length->((ccP a b p).getD k []).length=32:=λk hk=>aSP Y w!;rw[L,aMu (sp n) H w!,aMv (sp n) H] at f1;by_cases z:m<=((sp n:Nat):Int);rw[aQM (n:=(n:Int)) w! w! (by rw[em];exact z),em] at o g;obtain⟨c,M,d⟩:=aQ6 o;have G:=D j c;have r:=aQQ I (k:=(ep a b).length-1-j) w!;have E:(ep a b).length-1-((ep a b).length-1-j)=j:=by omega
  have A:(ep a b).length-1-j+1=(ep a b).length-j:=by omega
  rw[E,A,hR,M] at r;rw[M] at G;obtain⟨R,v⟩:=aQR h ((ep a b).length-1-j) w!;have q1:root (leaves (ajL a f (f+m)))=an8 a b p ((ep a b).length-1-j):=congrArg Prod.fst r;have q2:root (leaves (ajL b f (f+n)))=bz (anp a b p ((ep a b).length-1-j)) ((ccP a b p).getD ((ep a b).length-1-j) []):=congrArg Prod.snd r;simp only[c?,r?,aSm] at G;have e:=QX G (by rw[<-KF v (K _ w!),<-q2,f2]);rw[f1] at e;obtain⟨U,_⟩:=aSl e (by rw[v,aFw]);refine J (sp n) w! (j+1) f m Z z H N w! w! d g ?_;rw[q1,<-U];have B:(ep a b).length-(j+1)=(ep a b).length-1-j:=by omega
  rw[B];rfl;rw[aQN (n:=(n:Int)) w! w! (by rw[em];exact z),em] at o g;have en:(n:Int)-((sp n:Nat):Int)=((n-sp n:Nat):Int):=by omega
  obtain⟨c,M,d⟩:=aQ6 o;have G:=D j c;have t:=T j c;have u:=V j c;have r:=aQQ I (k:=(ep a b).length-1-j) w!;have E:(ep a b).length-1-((ep a b).length-1-j)=j:=by omega
  have A:(ep a b).length-1-j+1=(ep a b).length-j:=by omega
  rw[E,A,hR,M] at r;rw[M] at G t u;obtain⟨R,v⟩:=aQR h ((ep a b).length-1-j) w!;have q1:root (leaves (ajL a f (f+m)))=bz ((ccP a b p).getD ((ep a b).length-1-j) []) (an8 a b p ((ep a b).length-1-j)):=congrArg Prod.fst r;have q2:root (leaves (ajL b f (f+n)))=bz ((ccP a b p).getD ((ep a b).length-1-j) []) (anp a b p ((ep a b).length-1-j)):=congrArg Prod.snd r;simp only[if_true,aSm] at G;have t:=t rfl;have u:=u rfl;rw[aSm] at t;dsimp only at t u;have w:=K ((ep a b).length-1-j) w!;obtain⟨t1,t2⟩:=aQP (l:=ajL a f (f+m)) w! w!
  have C:sp (ajL a f (f+m)).length=sp n:=by
   have :(ajL a f (f+m)).length=m.toNat:=by omega
   rw[this];exact aZa Q w! w!
  rw[C,aMu (sp n) H w!,aMv (sp n) H] at t1;have e:=QX G (by rw[<-KF w v,<-q2,f2]);rw[f1] at e;obtain⟨U,u2⟩:=aSl e (by rw[w,aFw]);have e:=QX t (by rw[<-KF w R,<-q1,t2]);rw[t1] at e;obtain⟨v1,v2⟩:=aSl e (by rw[w,aFw]);have l1:=aPm (l:=a) (i:=f) (j:=f+((sp n:Nat):Int)) H w! w!;have l2:=aPm (l:=b) (i:=f) (j:=f+((sp n:Nat):Int)) H w! w!;have w1:=aQE w! w! w! u (v1.symm.trans U);have S:f+((sp n:Nat):Int)+(m-((sp n:Nat):Int))=f+m:=by omega
  have e6:f+((sp n:Nat):Int)+((n-sp n:Nat):Int)=f+n:=by omega
  rw[en] at d g
  have W:=J (n-sp n) w! (j+1) (f+((sp n:Nat):Int)) (m-((sp n:Nat):Int)) w! w! w! w! w! w! d g (by
   have B:(ep a b).length-(j+1)=(ep a b).length-1-j:=by omega
   rw[S,e6,<-u2,<-v2,B];rfl)
  rw[S] at W;rw[<-O? (sp n) (ajL a f (f+m)),<-O? (sp n) (ajL b f (f+m)),aMu (sp n) H w!,aMu (sp n) H w!,aMv (sp n) H,aMv (sp n) H,w1,W]
theorem aSo(h:¬anD a b p)(r:aFQ a b p):∀F∈aI3 a b p,∃x,(F .n).2.1=Bv x/\FA x/\(F .n).1:=by
 obtain⟨E,I,J,_,_⟩:=aP5 h;obtain⟨L,C,_⟩:=arO h;obtain⟨P,f,M⟩:=r;obtain⟨D,t,N,_,_⟩:=aI4 b.length 0 a.length w! w! (Int.le_refl _);have c:=aQR h;have K:∀k,k<(ep a b).length->((ccP a b p).getD k []).length=32:=λk R=>aSP C w!
 have B:∀(u v:B8) (l:O),u.length=32->v.length=32->iy (bB 1 (u++v)) (wE l):=λu v l T U=>by
  have:=à l;refine⟨?_,?_⟩<;>(unfold small;(try simp only[bB,List.length_cons,List.length_append]);omega)
 have o:∀i j:Int,0<=i->i<=j->j<=a.length->∃x,((ptF a i j b) .n).2.1=Bv x/\FA x/\((ptF a i j b) .n).1:=λi j Q w z=>
  ⟨_,rfl,aTd (aPn P ..) (aPn f ..),P,f,Q,w,z,w!⟩
 intro F H;rw[aI3,anw,List.mem_append,List.mem_append,List.mem_append] at H;rcases H with((H|H)|H)|H;obtain⟨i,hi,e⟩:=List.getElem_of_mem H;obtain⟨G,g⟩:=aO2 (a:=a) (b:=b) (p:=p) (Nat.le_refl _);have q:=g i w! w!;rw[List.getElem?_eq_getElem hi,e] at q;have q:=Option.some.inj q;subst q;unfold aQD;split;exact⟨_,rfl,QY (B _ _ _ (K _ w!) (c _ w!).1),B _ _ _ (K _ w!) (c _ w!).1⟩;exact⟨_,rfl,rf,trivial⟩;obtain⟨i,hi,e⟩:=List.getElem_of_mem H;obtain⟨G,g⟩:=aO3 (a:=a) (b:=b) (p:=p) (Nat.le_refl _);have q:=g i w! w!;rw[List.getElem?_eq_getElem hi,e] at q;have q:=Option.some.inj q;subst q;unfold aQZ;split;exact⟨_,rfl,QY (B _ _ _ (K _ w!) (c _ w!).2),B _ _ _ (K _ w!) (c _ w!).2⟩;exact⟨_,rfl,QY (B _ _ _ (c _ w!).2 (K _ w!)),B _ _ _ (c _ w!).2 (K _ w!)⟩;rw[aQ0,List.mem_map] at H;obtain⟨s,d,rfl⟩:=H;rw[List.mem_filter] at d;obtain⟨S,_,_,_,V,_,W,_,A⟩:=D s (List.mem_of_mem_take d.1);exact o _ _ S w! (by have:=A d.2;omega);rw[List.mem_singleton] at H;subst H;exact o _ _ t (by rw[ccF,aFP];omega) (Int.le_refl _)
theorem aUh:∀(l:M CF),(∀F∈l,∃x,(F .n).2.1=Bv x/\(F .n).1)->(gF l).1
 |[],_=>trivial
 |F::l,h=>by
  obtain⟨x,h1,H⟩:=h F (List.mem_cons_self ..);unfold gF;rw[h1,W7];exact⟨H,λ_=>aUh l λG c=>h G (List.mem_cons_of_mem _ c)⟩
theorem aW7(h:¬anD a b p)(H:aFQ a b p):(gF (aI3 a b p)).1:=aUh _ λF c=>by
 obtain⟨x,d,_,e⟩:=aSo h H F c;exact⟨x,d,e⟩
theorem aV5(H:aFQ a b p):FA (aul a b p):=by
 unfold aul;split;exact rf;rename_i h
 exact UJ _ λF c=>by
  obtain⟨x,d,e,_⟩:=aSo h H F c;exact⟨x,d,e⟩
theorem aSR(h:¬anD a b p)(o:aFQ a b p)(e:(aul a b p).2=false):a=b.take a.length:=by
 rw[aul,R! h] at e;have r:=af0 _ (λF H=>by obtain⟨x,f,_⟩:=aSo h o F H;exact⟨x,f⟩) e;have m:∀ {F:CF},F∈an3 a b p (ep a b).length->F∈aI3 a b p:=λH=>T! _ (T! _ (T! _ H));have M:∀ {F:CF},F∈anH a b p (ep a b).length->F∈aI3 a b p:=λH=>T! _ (T! _ (U! _ H));have t:∀ {F:CF},F∈aQ0 a b (ep a b).length->F∈aI3 a b p:=λH=>T! _ (U! _ H);obtain⟨f,w,z,_,_⟩:=aP5 h;obtain⟨_,_,_,_,u⟩:=arO h;have v:ajL b 0 b.length=b:=by simp[ajL]
 have E:ajL a 0 a.length=a:=by simp[ajL]
 have q:=aTf h (λi c=>?_) (λi c d=>?_) (λi c d=>?_) (r _ (U! _ (List.mem_singleton_self _)) _ rfl) b.length 0 0 a.length w! w! (Int.le_refl _) w! w! (S! _) rfl rfl (by
  rw[Int.zero_add,Int.zero_add,E,v];exact u)
 rw[Int.zero_add,E] at q;rw[q];simp[ajL];have g:=(aO3 (a:=a) (b:=b) (p:=p) (Nat.le_refl _)).2 i c w!;exact r _ (M (List.mem_of_getElem? g)) _ rfl;have g:=(aO2 (a:=a) (b:=b) (p:=p) (Nat.le_refl _)).2 i c w!;have k:=r _ (m (List.mem_of_getElem? g));unfold aQD at k;rw[if_pos d] at k;exact k _ rfl;refine r (ptF a (ajU a b i).1 ((ajU a b i).1+(ajU a b i).2.2.2.1) b) (t (List.mem_map.2 ⟨ajU a b i,List.mem_filter.2 ⟨?_,d⟩,rfl⟩)) _ rfl;rw[List.take_length,ajU];exact aU _ _ _ c
theorem aRR(h:aui a b x y):az (a.getD 0 [])/\az (b.getD 0 [])/\small x/\small y:=by
 obtain⟨l,L,e,f⟩:=aMR h;obtain⟨_,_,g,H,c,d⟩:=h;exact⟨c.2 _ (aU _ _ _ H),d.2 _ (aU _ _ _ w!),by unfold small;omega,by unfold small;omega⟩
theorem aTg {a:O}(h:aui a b x y)(H:¬(a.length:Int)=1):2<=a.length/\split a.length=((sp a.length:Nat):Int)/\1<=sp a.length/\sp a.length<a.length:=by
 obtain⟨l,L,c,d⟩:=aMR h;have e:=h.2.2.2.1;have:=iY (n:=a.length) w!;exact⟨w!,zp w! w!,this.1,w!⟩
theorem aV6 {a:O}(h:aui a b x y)(H:¬(a.length:Int)=1):ap0 a (split a.length) b x y:=by
 obtain⟨l,L,c,d⟩:=aTg h H;exact⟨h,w!,w!⟩
theorem aYe {m:Nat}{a:O}(h:aui a b x y)(H:¬(a.length:Int)=1)(c:len a<m+1):(split a.length).toNat+1<m+1/\len a-(split a.length).toNat+1<m+1:=by
 obtain⟨L,l,d,e⟩:=aTg h H;rw[l];unfold len at *;omega
theorem aV7 {a:O}(h:aui a b x y)(H:¬(a.length:Int)=1)(p q r:Prop):
  Ng [λz=>(p,Bv (bt (wE x) (wE y)),z),λz=>(q,Bv (akf (tkI a (split a.length)) (tkI b (split a.length))),z),λz=>(r,Bv (akf (dpI a (split a.length)) (dpI b (split a.length))),z)]=akf a b:=by
 obtain⟨l,L,c,d⟩:=aTg h H;obtain⟨rfl,rfl,_⟩:=h;unfold tkI dpI;rw[L,Int.toNat_natCast];exact aW4 l p q r
theorem aj1 {a b:O}(h:¬(a.length:Int)=0/\¬(b.length:Int)<a.length/\J7 a.length b.length (kI (leaves a)) (kI (leaves b)) p=0):¬anD a b p:=by
 rintro(q|q|q);omega;omega;exact q h.2.2
theorem aYf {a b:O}(h:(a.length:Int)=0\/(b.length:Int)<a.length\/¬J7 a.length b.length (kI (leaves a)) (kI (leaves b)) p=0):aul a b p=ix:=by
 rw[aul,Q!];rcases h with q|q|q;exact .inl w!;exact .inr (.inl w!);exact .inr (.inr q)
theorem aYg(h:¬anD a b p){i:Nat}(H:i<(ep a b).length):
  0<=(ajU a b i).1/\1<=(ajU a b i).2.1/\(ajU a b i).2.1<(ajU a b i).2.2.1/\1<=(ajU a b i).2.2.2.1/\(ajU a b i).1+(ajU a b i).2.1=a.length/\(ajU a b i).1+(ajU a b i).2.2.1<=b.length/\(ajU a b i).2.2.2.1<(ajU a b i).2.2.1/\((ajU a b i).2.2.2.2=true->(ajU a b i).2.2.2.1<(ajU a b i).2.1):=by
 obtain⟨k,o,q,_⟩:=aP5 h;obtain⟨d,_⟩:=aI4 b.length 0 a.length w! w! (Int.le_refl _);obtain⟨s,_,S,c,e,f,r,t,g⟩:=d (ajU a b i) (aU _ _ _ H);exact⟨s,S,c,e,w!,w!,f,g⟩
theorem aog(h:¬anD a b p):(ep a b).length<=b.length/\b.length<=1099511627776/\a.length<=b.length/\1<=a.length/\(leaves a).length=a.length/\(leaves b).length=b.length/\0<=ccF a b/\ccF a b<=a.length:=by
 obtain⟨H,c,d,_⟩:=aP5 h;obtain⟨_,D,f,e,_⟩:=aI4 b.length 0 a.length w! w! (Int.le_refl _);exact⟨e,d,c,H,nA a,nA b,D,by rw[ccF,aFP];omega⟩
theorem auz {a b p:O}{x:Nat}(h:¬anD a b p)(H:(x:Int)<((ccP a b p).length:Int)):x<(ep a b).length/\(((ep a b).length:Int)-1-(x:Int)).toNat=(ep a b).length-1-x/\(an3 a b p x).length=(ep a b).length/\(anH a b p x).length=(ep a b).length:=by
 obtain⟨c,_⟩:=arO h;have H:x<(ep a b).length:=by omega
 exact⟨H,w!,(aO2 w!).1,(aO3 w!).1⟩
theorem aTh {a b p:O}{x:Nat}(h:¬anD a b p)(H:(x:Int)<((ccP a b p).length:Int)):(ep a b).getD (((ep a b).length:Int)-1-(x:Int)).toNat (0,0,0,0,false)=ajU a b ((ep a b).length-1-x):=by
 rw[(auz h H).2.1];rfl
theorem auy {a b p:O}{x:Nat}(h:¬anD a b p)(hx:(x:Int)<((ccP a b p).length:Int))(H:s=(ep a b).getD (((ep a b).length:Int)-1-(x:Int)).toNat (0,0,0,0,false)):
  0<=s.1/\1<=s.2.1/\s.2.1<s.2.2.1/\s.1+s.2.1=a.length/\s.1+s.2.2.1<=b.length:=by
 rw[aTh h hx] at H;have hx:=(auz h hx).1;obtain⟨S,c,d,g,e,f,_⟩:=aYg h (i:=(ep a b).length-1-x) w!;subst H;exact⟨S,c,d,e,f⟩
theorem a0r {a b p:O}{x:Nat}(h:¬anD a b p)(H:(x:Int)<((ccP a b p).length:Int)):((ccP a b p).getD x []).length=32/\(an8 a b p x).length=32/\(anp a b p x).length=32:=by
 obtain⟨C,c,_⟩:=arO h;exact⟨aSP c w!,aQR h x w!⟩
theorem aTi {a b p:O}{x:Nat}(h:¬anD a b p)(H:(x:Int)<((ccP a b p).length:Int)):
  az ((ccP a b p).getD (x:Int).toNat []++an8 a b p x)/\az ((ccP a b p).getD (x:Int).toNat []++anp a b p x)/\az (anp a b p x++(ccP a b p).getD (x:Int).toNat []):=by
 obtain⟨k,K,c⟩:=a0r h H;rw[Int.toNat_natCast];unfold az;simp only[List.length_append];omega
theorem aSp {a b p:O}{x:Nat}(h:¬anD a b p)(hx:(x:Int)<((ccP a b p).length:Int)):
  (an8 a b p (x+1),anp a b p (x+1))=if((ep a b).getD (((ep a b).length:Int)-1-(x:Int)).toNat (0,0,0,0,false)).2.2.2.2 then(bz ((ccP a b p).getD (x:Int).toNat []) (an8 a b p x),bz ((ccP a b p).getD (x:Int).toNat []) (anp a b p x)) else(an8 a b p x,bz (anp a b p x) ((ccP a b p).getD (x:Int).toNat [])):=by
 obtain⟨c,_⟩:=arO h;rw[aTh h hx,E?];have q:=aQQ c (auz h hx).1;exact q
theorem aSq {a b p:O}{x:Nat}(h:¬anD a b p)(hx:(x:Int)<((ccP a b p).length:Int)):
  an3 a b p (x+1)=(an3 a b p x).set (((ep a b).length:Int)-1-(x:Int)).toNat (aQD a b p x ((ep a b).getD (((ep a b).length:Int)-1-(x:Int)).toNat (0,0,0,0,false)))/\
  anH a b p (x+1)=(anH a b p x).set (((ep a b).length:Int)-1-(x:Int)).toNat (aQZ a b p x ((ep a b).getD (((ep a b).length:Int)-1-(x:Int)).toNat (0,0,0,0,false))):=by
 rw[aTh h hx,(auz h hx).2.1];exact⟨rfl,rfl⟩
theorem aUi {a b p:O}{x:Nat}(h:¬anD a b p)(H:x<=len (ccP a b p))(c:¬(x:Int)<((ccP a b p).length:Int)):x=(ep a b).length/\(an3 a b p x).length=(ep a b).length/\(anH a b p x).length=(ep a b).length:=by
 obtain⟨C,_⟩:=arO h;unfold len at H;have e:x=(ep a b).length:=by omega
 subst e;exact⟨rfl,(aO2 (M! _)).1,(aO3 (M! _)).1⟩
theorem aV8(h:¬anD a b p)(k:Nat):(anw a b p k).length<=3*(ep a b).length:=by
 have e:=(aO2 (a:=a) (b:=b) (p:=p) (M! _)).1;have E:=(aO3 (a:=a) (b:=b) (p:=p) (M! _)).1
 have c:(aQ0 a b k).length<=(ep a b).length:=by
  unfold aQ0;rw[List.length_map];exact Nat.le_trans (List.length_filter_le ..) (by rw[List.length_take];omega)
 rw[anw,J!,J!];omega
theorem aZc(a b p:O):anw a b p 0=an3 a b p (ep a b).length++anH a b p (ep a b).length:=by simp[anw,aQ0]
theorem aV9 {a b:O}{k:Nat}(hk:(k:Int)<((ep a b).length:Int)):anw a b p (k+1)=if((ep a b).getD (k:Int).toNat (0,0,0,0,false)).2.2.2.2 then anw a b p k++[ptF a ((ep a b).getD (k:Int).toNat (0,0,0,0,false)).1 (((ep a b).getD (k:Int).toNat (0,0,0,0,false)).1+((ep a b).getD (k:Int).toNat (0,0,0,0,false)).2.2.2.1) b] else anw a b p k:=by
 have hk:k<(ep a b).length:=by omega
 rw[Int.toNat_natCast,List.getD_eq_getElem?_getD,List.getElem?_eq_getElem hk,Option.getD_some];unfold anw aQ0;rw[List.take_add_one,List.getElem?_eq_getElem hk];simp only[Option.toList_some,List.filter_append,List.map_append];split;rename_i q;rw[List.filter_cons_of_pos (by simpa using q)];simp;rename_i q;rw[List.filter_cons_of_neg (by simpa using q)];simp
theorem aZd {a b:O}{k:Nat}(h:¬anD a b p)(d:(k:Int)<((ep a b).length:Int))(H:s=(ep a b).getD (k:Int).toNat (0,0,0,0,false)):0<=s.1/\1<=s.2.2.2.1/\s.1+s.2.2.2.1<=b.length:=by
 rw[E?] at H;have H:s=ajU a b k:=H;obtain⟨S,e,f,c,g,o,q,_⟩:=aYg h (i:=k) w!;subst H;exact⟨S,c,w!⟩
theorem aUj(h:¬anD a b p):aul a b p=Ng (aI3 a b p):=by rw[aul,R! h]
theorem aF2 {c:Type}{l:M c}(h:l.length<=1099511627776):small l:=h
theorem aPt {D:O}{l:M aB}(h:(fk D l).2=0):dj D:=by
 obtain⟨e,H⟩:=AI (á h);refine⟨w!,λd c=>?_⟩;obtain⟨i,f,rfl⟩:=List.getElem_of_mem c;have:=H i;grind
theorem aSr {d:O}{l:M aB}{a:O}{L:M aB}{b:B8}(H:(fk d l).2=0)(c:(fk a L).2=0)(h:(anq (fk d l).1 b).2.2=0/\(anq (fk d l).1 b).1=(fk a L).1)(e:(Ě b).2=0):
  alN d l a L b=Ng [hdF (Ě b).1.1 (Ě b).1.2.1 (Ě b).1.2.2.1 d l,hdF (Ě b).1.2.2.2.1 (Ě b).1.2.2.2.2.1 (Ě b).1.2.2.2.2.2.1 a L,
  pfF (Ě b).1.1 (Ě b).1.2.1 (Ě b).1.2.2.1 d l (Ě b).1.2.2.2.1 (Ě b).1.2.2.2.2.1 (Ě b).1.2.2.2.2.2.1 a L (Ě b).1.2.2.2.2.2.2]:=by
 rw[alN,R! (not_not_intro H),R! (not_not_intro c),R! (by rw[h.1,h.2];simp),R! (not_not_intro e)]
theorem aW8 {r b:B8}(h:(anq r b).2.2=0):(anq r b).1=(qV (Ě b).1.2.2.2.1 (Ě b).1.2.2.2.2.1 (Ě b).1.2.2.2.2.2.1).1:=by
 unfold anq at *;split at h;cases h;rename_i q;rw[if_neg q];split at h;rename_i q2;exact absurd h q2;rename_i q2;rw[if_neg q2];split at h;rename_i q3;rw[if_pos q3];cases h
theorem aSS {d:O}{l:M aB}{a:O}{L:M aB}{b:B8}(g:cy d l=true)(H:cy a L=true)
  (h:(anq (tH d l) b).2.2=0) (o:(anq (tH d l) b).1=tH a L) (D:aNW d a=false):
  (alN d l a L b).2=true/\QT (alN d l a L b).1.1 (alN d l a L b).1.2=true/\iy (alN d l a L b).1.1 (alN d l a L b).1.2:=by
 have e:tH d l=(fk d l).1:=by rw[aqo g]
 have v:(fk d l).2=0:=by rw[aqo g]
 have F:tH a L=(fk a L).1:=by rw[aqo H]
 have E:(fk a L).2=0:=by rw[aqo H]
 rw[e,F] at o;rw[e] at h;have w:=aY8 h;have G:(Ě b).2=0:=Decidable.byContradiction λq=>aY9 q h;have z:=aW8 h;rw[o] at z;simp only[aMF,B!,H!] at w;obtain⟨K,k,I⟩:=w
 have A:EH (Ě b).1.2.2.2.1 (Ě b).1.2.2.2.2.1 (Ě b).1.2.2.2.2.2.1 (fk a L).1=true:=by
  simp only[EH,B!,H!];exact⟨I,z.symm⟩
 have f:aFQ d a (Ě b).1.2.2.2.2.2.2:=⟨aPt v,aPt E,aQW b⟩;rw[aSr v E ⟨h,o⟩ G]
 have J:=aQ4 (sI (Ě b).1.1 (Ě b).1.2.1 (Ě b).1.2.2.1 d l) (sI (Ě b).1.2.2.2.1 (Ě b).1.2.2.2.2.1 (Ě b).1.2.2.2.2.2.1 a L)
  (at6 (Ě b).1.1 (Ě b).1.2.1 (Ě b).1.2.2.1 d l (Ě b).1.2.2.2.1 (Ě b).1.2.2.2.2.1 (Ě b).1.2.2.2.2.2.1 a L (Ě b).1.2.2.2.2.2.2) True True (aFQ d a (Ě b).1.2.2.2.2.2.2)
 rw[show Ng [hdF _ _ _ d l,hdF _ _ _ a L,pfF _ _ _ d l _ _ _ a L _]=_ from J];cases r:(sI (Ě b).1.1 (Ě b).1.2.1 (Ě b).1.2.2.1 d l).2 with
 |true=>exact⟨r,aHp _ _ _ _ _ r⟩
 |false=>
  cases c:(sI (Ě b).1.2.2.2.1 (Ě b).1.2.2.2.2.1 (Ě b).1.2.2.2.2.2.1 a L).2 with
  |true=>exact⟨c,aHp _ _ _ _ _ c⟩
  |false=>
   have B:=alJ g K r;have V:=alJ H A c;obtain⟨n,N,_⟩:=afX g (GO K).1 B;obtain⟨m1,m2,_⟩:=afX H (GO A).1 V;rw[n,N,m1,m2] at k
   have P:at6 (Ě b).1.1 (Ě b).1.2.1 (Ě b).1.2.2.1 d l (Ě b).1.2.2.2.1 (Ě b).1.2.2.2.2.1 (Ě b).1.2.2.2.2.2.1 a L (Ě b).1.2.2.2.2.2.2=aul d a (Ě b).1.2.2.2.2.2.2:=by
    rw[at6,Q! ⟨B,V⟩]
   rw[P];cases t:(aul d a (Ě b).1.2.2.2.2.2.2).2 with
   |true=>exact⟨t,aV5 f t⟩
   |false=>
    exfalso
    have u:d.length<=a.length:=by
     unfold J7 at k;split at k;cases k;omega
    have C:∀q:d=a.take d.length,False:=λq=>by
     have :aNW d a=true:=by simp only[aNW,B!,H!];exact⟨u,q⟩
     rw[this] at D;cases D
    by_cases hz:d.length=0;exact C (by rw[hz,List.take_zero];exact D? hz)
    have Q:¬anD d a (Ě b).1.2.2.2.2.2.2:=by
     rintro(q|q|q);exact hz q;omega;rw[kI,kI,Q! (kn d),Q! (kn a)] at q;exact q k
    exact C (aSR Q f t)
theorem step_end {d:O}{l:M aB}{a:O}{L:M aB}{b:B8}(c:cy d l=true)(H:cy a L=true)
  (h:(anq (tH d l) b).2.2=0) (e:(anq (tH d l) b).1=tH a L) (D:aNW d a=false):
  (bif (alN d l a L b).2 then bif QT (alN d l a L b).1.1 (alN d l a L b).1.2 then true else false else false)=true/\iy (alN d l a L b).1.1 (alN d l a L b).1.2:=by
 obtain⟨q1,q2,q⟩:=aSS c H h e D;rw[q1,q2];exact⟨rfl,q⟩
end Go.S
namespace Go.Vg
open Go
variable [HP]
def Q1 {P:Program}{W:World}:∀ {l:M (String×DataW Unit)} {b:M MemPlace} {n:String} {d:DataW Unit},DataW.LaidVars P W l b->(n,d)∈l->
  ∃(g:Nat) (t:TypeId) (c:Array Value) (f:Nat) (p:M MemPlace),P.globalNamed n=some g/\(P.globals[g]?).map (·.type)=some t/\W.var? P n=some c/\DataW.trod (λ_=>()) P W 0 (λ_=>true) false f t c.toList=some (d,p)
 |[],_,_,_,_,hm=>by grind
 |x::rest,b,n,d,h,hm=>by
  obtain⟨G,T,c,f,p,q,y,H,a,e,i,j⟩:=h;rcases O!.1 hm with rfl|hm;exact⟨G,T,c,f,p,y,H,a,e⟩;exact Q1 i hm
def Q2 {H:Type}{E:TypeId×Value->H}{P:Program}{w:World}{B:Nat}{S:Nat->Bool}{d:Bool}{F:Nat}{t e:TypeId}{n m:Nat}{k:IntKind}{C:M Value}{Z:M U}{p:M MemPlace}{c:Array Field}
  (L:P.underlying t=some (.array n e)) (N:P.underlying e=some (.struct c)) (V:P.cellsOf e=m) (s:P.cellsOf t=n*m) (O:c.size=m) (Q:∀(i:Nat) (f:Field),c[i]? =some f->f.offset=i/\P.underlying f.type=some (.int k)/\P.cellsOf f.type=1)
  (R:∀r∈Z,r.length=m) (h:DataW.trod E P w B S d F t C=some (.agg (Z.map λr=>.agg (r.map λz=>.lit (.int k z))),p)):C.length=n*m/\Z.length=n/\
    ∀i j,i<n->j<m->C[i*m+j]? =some (.int k ((Z.getD i []).getD j 0)):=by
 cases F with
 |zero=>simp[DataW.trod] at h
 |succ F=>
  simp only[DataW.trod,L,V,s] at h;split at h;rename_i T;obtain⟨x,J,W⟩:=Option.map_eq_some_iff.1 h
  have g:x.map (·.1)=Z.map λr=>(DataW.agg (r.map λz=>.lit (.int k z)):DataW H):=by
   have:=congrArg Prod.fst W;simpa using this
  have M9:x.length=n:=by simpa using Lib.mapM_length J
  have u:Z.length=n:=by
   have:=congrArg List.length g;simp at this;omega
  refine⟨T,u,λi j hi X=>?_⟩;obtain⟨b,Y,v⟩:=Lib.mapM_at J i i (by simp[hi])
  have K:b.1=DataW.agg ((Z.getD i []).map λz=>.lit (.int k z)):=by
   have q:(x.map (·.1))[i]? =some b.1:=by simp[Y]
   rw[g] at q;rw[A?,C! w!] at q;simp at q;rw[<-q,E!,C! w!];rfl
  obtain⟨y,n',_,hy,_,hyl,A⟩:=DataW.trod_struct N v
  have D:y.map (·.1)=(Z.getD i []).map λz=>(DataW.lit (.int k z):DataW H):=by
   rw[hy] at K;simpa using K
  have hrl:(Z.getD i []).length=m:=R _ (by rw[E!,C! w!];exact List.getElem_mem _);have l:j<c.size:=by omega
  have a:=A j c[j] (u? l);obtain⟨f1,f2,f3⟩:=Q j c[j] (u? l);rw[f1,f3] at a;have o:j<y.length:=by omega
  rw[C! o] at a;obtain⟨z,hc,G,_⟩:=DataW.trod_int f2 a
  have h1:C[i*m+j]? =some (.int k z):=by
   have:=congrArg (·[0]?) hc;simpa[X,Nat.add_comm] using this
  have I:(y.map (·.1))[j]? =some (DataW.lit (.int k z)):=by rw[A?,C! o,G];rfl
  rw[D,List.getElem?_map,List.getElem?_eq_getElem w!] at I;simp only[Option.map_some,Option.some.injEq,DataW.lit.injEq,Lit.int.injEq,true_and] at I;rw[h1,List.getD_eq_getElem?_getD,List.getElem?_eq_getElem w!];simp only[Option.getD_some,I];grind
variable {W:World}
theorem af3 {P:Program}{n:String}{g:Nat}{c:Array Value}(H:P.globalNamed n=some g)(h:W.var? P n=some c)(a:0<c.size):g<W.heap.size:=by
 have b:=World.var?_cell H h 0;grind[Array.getElem?_eq_getElem,World.cell?,Array.getElem?_eq_some_iff]
def po(k:IntKind):(ts:M Ty)->U->Row ts->Prop
 |[],[],_=>True
 |.int k'::ts,z::zs,x=>k'=k/\DI.toInt k' (Row.hd (t:=.int k') (ts:=ts) x)=z/\lo k<=z/\z<=hi k/\po k ts zs (Row.tl x)
 |_,_,_=>False
def Q3 {w:World}{A:Nat->Prop}{k:IntKind}:∀(t:M Ty) (Z:U) (x:Row t),po k t Z x->bJ w A t (Z.map (Value.int k)) x
 |[],[],x,_=>by rfl
 |.int k'::t,z::Z,x,h=>by
   obtain⟨rfl,H,a,b,c⟩:=h;refine⟨_,_,rfl,?_,Q3 t Z _ c⟩;simp[Rd];rw[H];exact⟨rfl,a,b⟩
 |.bool::_,_,_,h|.str::_,_,_,h|.slice _::_,_,_,h|[],_::_,_,h|.int _::_,[],_,h=>by grind[po]
def yu(k:IntKind)(t:M Ty):M U->M (Row t)->Prop
 |[],[]=>True
 |z::r,x::l=>po k t z x/\yu k t r l
 |_,_=>False
theorem KH {w:World}{A:Nat->Prop}{k:IntKind}{t:M Ty}:∀(z:M U) (l:M (Row t)),yu k t z l->dZ (bJ w A t) (z.flatten.map (Value.int k)) l
 |[],[],_=>by rfl
 |Z::r,x::l,h=>by
  exact⟨Z.map (Value.int k),r.flatten.map (Value.int k),z!,Q3 t Z x h.1,KH r l h.2⟩
 |[],_::_,h|_::_,[],h=>by grind[yu]
def MA {m:Nat}:∀(Z:M U),(∀r∈Z,r.length=m)->∀q (z:Int),Z.flatten[q]? =some z->∃i j,i<Z.length/\j<m/\q=i*m+j/\(Z.getD i []).getD j 0=z
 |[],_,q,z,h=>by grind
 |r::rs,hz,q,z,h=>by
  have H:r.length=m:=hz r z!;by_cases a:q<m;refine⟨0,q,z!,a,z!,?_⟩;grind;rw[List.flatten_cons,List.getElem?_append_right w!,H] at h;obtain⟨i,j,c,b,d,e⟩:=MA rs (λr Q=>hz r x!) (q-m) z h;refine⟨i+1,j,x!,b,?_,x!⟩;grind
def Q4 {P:Program}{N:String}{g:Nat}{t e:TypeId}{n m:Nat}{k:IntKind}{F:Array Field}{zss:M U}{R:M Ty}{l:M (Row R)}{L:M (String×DataW Unit)}
  (w:laidMet P L W) (A:(N,DataW.agg (zss.map λr=>.agg (r.map λz=>.lit (.int k z))))∈L) (h:P.globalNamed N=some g) (C:(P.globals[g]?).map (·.type)=some t)
  (x:P.underlying t=some (.array n e)) (y:P.underlying e=some (.struct F)) (V:P.cellsOf e=m) (H:P.cellsOf t=n*m) (a:F.size=m) (B:∀(i:Nat) (f:Field),F[i]? =some f->f.offset=i/\P.underlying f.type=some (.int k)/\P.cellsOf f.type=1)
  (d:∀r∈zss,r.length=m) (T:0<n*m) (D:yu k R zss l):auo W (λb=>b<W.heap.size) g ⟨R,l⟩:=by
 obtain⟨X,S,_⟩:=w;obtain⟨Y,Z,E,o,p,G,I,s,J⟩:=Q1 S A;obtain rfl:=R? (h.symm.trans G);obtain rfl:=R? (C.symm.trans I);obtain⟨q1,q2,q3⟩:=Q2 x y V H a B d J;have K:E.size=n*m:=by omega
 refine⟨af3 h s w!,zss.flatten.map (Value.int k),λq v u=>?_,KH zss l D⟩;rw[A?] at u;obtain⟨z,c,rfl⟩:=Option.map_eq_some_iff.1 u;obtain⟨i,j,hi,O,rfl,Q⟩:=MA zss d q z c;rw[n?,World.var?_cell h s,<-m?,q3 i j w! O,Q]
theorem Jk:∀Z:U,(Z.map λz=>[z]).flatten=Z
 |[]=>rfl
 |z::Z=>by simp only[G?,List.flatten_cons,Jk Z];rfl
def Q5 {P:Program}{N:String}{g:Nat}{t e:TypeId}{n:Nat}{k:IntKind}{zs:U}{r:M Ty}{l:M (Row r)}{L:M (String×DataW Unit)}
  (c:laidMet P L W) (A:(N,DataW.agg (zs.map λz=>.lit (.int k z)))∈L) (h:P.globalNamed N=some g) (C:(P.globals[g]?).map (·.type)=some t)
  (d:P.underlying t=some (.array n e)) (i:P.underlying e=some (.int k)) (V:P.cellsOf e=1) (H:P.cellsOf t=n) (w:0<zs.length) (x:yu k r (zs.map λz=>[z]) l):auo W (λb=>b<W.heap.size) g ⟨r,l⟩:=by
 obtain⟨y,S,_⟩:=c;obtain⟨G,T,j,f,p,m,o,a,s⟩:=Q1 S A;obtain rfl:=R? (h.symm.trans m);obtain rfl:=R? (C.symm.trans o);have u:=Lib.cells_of_tab d i V H s
 have E:0<j.size:=by
  grind
 refine⟨af3 h a E,zs.map (Value.int k),λq v B=>?_,?_⟩;rw[Nat.zero_add,World.var?_cell h a,<-Array.getElem?_toList,u];omega;grind[KH,Jk]
end Go.Vg
namespace Go.Vg
open Go Go.ChangeShapes Go.WideShapes Go.ChangeAt Go.RowKit
variable [HP]
variable {A:Nat->Prop}{H:Type}{P:Program}{held:Bool}{n:Nat}{q:List MemPlace}{v:Value}{w:World}{β:Nat->Value}{T:b9}{sp:Nat->Bool}{enc:TypeId×Value->H}
theorem aTj{r:M Ty}{x:M (Row r)}{t e:TypeId}{sp:Nat->Bool}{d:DataW H}
  (h:aa w A β v (.sl r x)) (f:DataW.Trod enc P w 0 sp held t v d q) (hu:P.underlying t=some (.slice e)) (b:(d.weights P t).all (· <=n)=true):x.length*P.bytesOf e<=n:=by
 simp only[aa,Rd] at h;obtain⟨a,C,k,rfl,_⟩:=h;obtain⟨F,f⟩:=f;rcases DataW.trod_slice hu f with⟨c,_⟩|⟨o,l,L,E,R,m,_,c,g,_,_,_,p,_⟩;simp[Value.cells] at c;rw[c.2.1];simp;simp[Value.cells] at c;have i:=(Prod.mk.inj g).1;subst i;unfold DataW.weights at b;rw[hu] at b;simp only[List.all_cons,Bool.and_eq_true,decide_eq_true_eq,List.length_map] at b;have j:x.length=E.length:=by omega
 rw[j];refine b? (I? _ (Nat.le_add_right _ _)) b.1
def aQ7(X:bM T P)(Y:laidOutB P=true){G:Nat->Option GD}{f:FuncId}{F:Func}{s:ChangeSpec}{ps:M PS}{pre:Row (PS.flat ps)->Prop}(y:Valid P G f (fo ps λx=>(pre x,.bool true,[])))
  (C:PS.ofs T F.params.toList=some ps) (m:(F.params.toList.all λt=>P.readableRec t&&decide (t<P.types.size))=true) {O:TypeId} (Z:F.resultTypes= #[O]) (E:P.underlying O=some .bool)
  (o:s.vars=[]) (n:∀(H:Type) (D:M (DataW H)),D.length=F.params.toList.length->s.fn H D= {results:=[.lit (.bool true)],args:=D})
  {W:World} {a:Nat} {args:Array Value} {D I:M (DataW H)} {B:M MemPlace} (hG:∀i d,G i=some d->auo W (λb=>b<W.heap.size) i d)
  (Tp:∀(j:Nat) t v,F.params[j]? =some t->args[j]? =some v->Value.okWide P W .any a t v)
  (Q:DataW.Whole enc P F.params.toList s.vars false W args.toList D I B)
  (qC:∀(x:Row (PS.flat ps)) (sp:Nat->Bool) (held:Bool) (p:M MemPlace),ae W (λb=>b<W.heap.size) (λ_=>undef) args.toList (rU ps x)->DataW.TrodAll enc P W 0 sp held F.params.toList args.toList D p->pre x):
  Calls P f args W λe w=>∃v,e= .returned v/\s.post enc P F false true false false W args v w:=by
 have c:=Q;obtain⟨p,q,J,K,rfl,BD,hnd⟩:=Q;rw[o] at K
 have L:I=[]/\q=[]:=by
  cases I with
  |nil=>exact⟨rfl,by simpa[DataW.TrodVars] using K⟩
  |cons _ _=>simp[DataW.TrodVars] at K
 obtain⟨rfl,rfl⟩:=L;simp only[B?] at c;obtain⟨r,bm,cs,z,R,S,U⟩:=Pj (β:=λ_=>undef) (A:=λb=>b<W.heap.size) X (λb g=>g) _ ps _ _ _ C (λj t v hj y=>⟨a,Tp j t v (by simpa using hj) (by simpa using y)⟩) J;have V:=y W (λb=>b<W.heap.size) (λ_=>undef) args.toList bm (pre z) (.bool true) [] (λb g=>g) hG R (by simp only[fo,J5,S,U]) (qC z _ _ _ (vM ps (by simp only[J5,S,U]) R).1 J);rw[Array.toArray_toList] at V;refine V.mono ?_;rintro e w ⟨v,rfl,A',aC,l⟩;have u:=l.res;simp only[aa] at u;subst u;have g:Below W.heap.size W w:=⟨l.os,l.tape,l.output,l.size,λk hk=>l.same k hk⟩;have iT:∀x∈p,x.block<W.heap.size:=λx hx=>by simpa using c.lt x hx
 rw[V!] at m
 have bQ:=Pl Y g F.params.toList args.toList D p (λt ht=>by
  have:=m t ht;simp only[B!,H!] at this;exact this) J iT
 have N:=n H D r;refine⟨_,rfl,D,[],p,[],p,[],c,?_,?_,?_,g.frame _,λh=>by cases h⟩;rw[Z];simp only[B?,N,Value.resultList];exact trodAll_mk1 (shut_bool E true);simp only[B?,N];exact bQ;rw[o];simp only[B?,N];rfl
theorem aRS:∀ {T:M TypeId} {D:M (DataW H)} {i:Nat} {t:TypeId} {d:DataW H},(DataW.weightsEach P T D).all (· <=n)=true->T[i]? =some t->D[i]? =some d->(d.weights P t).all (· <=n)=true
 |[],_,_,_,_,_,h,_|_::_,[],_,_,_,_,_,h=>by cases h
 |t::T,d::D,0,_,_,h,h1,a=>by
  cases h1;cases a;simp only[DataW.weightsEach,List.all_append,B!] at h;exact h.1
 |t::T,d::D,i+1,_,_,h,h1,a=>by
  simp only[DataW.weightsEach,List.all_append,B!] at h;exact aRS h.2 (i:=i) (by simpa using h1) (by simpa using a)
def aTk{r:M Ty}{x:M (Row r)}{t e:TypeId}{F:Array Field}{i:Nat}{f:Field}{C:M AV}{d:DataW H}
  (h:aa w A β v (.agg C)) (c:DataW.Trod enc P w 0 sp held t v d q) (hu:P.underlying t=some (.struct F)) (g:F[i]? =some f) (s:P.cellsOf f.type=1) (y:C[f.offset]? =some (.sl r x)) (z:P.underlying f.type=some (.slice e))
  (j:(d.weights P t).all (· <=n)=true):x.length*P.bytesOf e<=n:=by
 simp only[aa] at h;obtain⟨b,rfl,B⟩:=h;obtain⟨u,k,E⟩:=xa _ _ _ _ B y;obtain⟨p,c⟩:=c;obtain⟨X,m,_,D,_,G,l⟩:=DataW.trod_struct hu c;have J:=(Prod.mk.inj D).1;subst J;have o:=l i f g
 have I:i<X.length:=by
  rw[G];exact(P!.1 g).1
 rw[C! I,s] at o
 have O:((Value.agg b).cells.toList.drop f.offset).take 1=[u]:=by
  have :(Value.agg b).cells.toList[f.offset]? =some u:=by simpa[Value.cells] using k
  obtain⟨q1,q2⟩:=F?.1 this;rw[T? q1,q2];rfl
 rw[O] at o
 have K:u.cells.toList=[u]:=by
  have:=E;simp only[aa,Rd] at this;obtain⟨a,L,N,rfl,_⟩:=this;simp[Value.cells]
 unfold DataW.weights at j;rw[hu] at j;refine aTj (sp:=sp) (held:=held) (enc:=enc) (d:=(X[i]).1) (q:=(X[i]).2) E ⟨m,by rw[K];exact o⟩ z (aRS j (i:=i) ?_ ?_);rw[List.getElem?_map,Array.getElem?_toList,g];rfl;rw[List.getElem?_map,List.getElem?_eq_getElem I];rfl
def aF8 {u:M TypeId}{G:M (DataW H)}:∀ {T:M TypeId} {V:M Value} {D:M (DataW H)} {B:M AV} {q:M MemPlace},
  ae w A β V B->DataW.TrodAll enc P w 0 sp held T V D q->(DataW.weightsEach P (T++u) (D++G)).all (· <=n)=true->
  ∀(j i:Nat) {t e:TypeId} {F:Array Field} {f:Field} {C:M AV} {r:M Ty} {x:M (Row r)},T[j]? =some t->B[j]? =some (.agg C)->P.underlying t=some (.struct F)->F[i]? =some f->P.cellsOf f.type=1->C[f.offset]? =some (.sl r x)->P.underlying f.type=some (.slice e)->x.length*P.bytesOf e<=n
 |[],_,_,_,_,_,_,_,j,_,_,_,_,_,_,_,_,a,_,_,_,_,_,_=>by cases a
 |t::T,[],_,_,_,_,h,_,_,_,_,_,_,_,_,_,_,_,_,_,_,_,_,_=>by simp[DataW.TrodAll] at h
 |t::T,v::V,[],_,_,_,h,_,_,_,_,_,_,_,_,_,_,_,_,_,_,_,_,_=>by simp[DataW.TrodAll] at h
 |t::T,v::V,d::D,[],_,c,_,_,_,_,_,_,_,_,_,_,_,_,_,_,_,_,_,_=>by simp[ae] at c
 |t::T,v::V,d::D,s::B,q,c,h,hw,j,i,t',e,F,f,C,r,x,a,b,hu,g,k,hx,l=>by
  simp only[ae] at c;obtain⟨y,z,E,R,m⟩:=c;cases E;simp only[DataW.TrodAll] at h;obtain⟨Q,I,o,p,_⟩:=h;simp only[k?,DataW.weightsEach,List.all_append,B!] at hw;match j,a,b with
  |0,a,b=>
   cases a;cases b;exact aTk R o hu g k hx l hw.1
  |j+1,a,b=>exact aF8 m p hw.2 j i (by simpa using a) (by simpa using b) hu g k hx l
end Go.Vg
namespace Go.Proofs
open Go Go.RowKit Go.ChangeShapes Go.Vg
set_option maxHeartbeats 1000000 in
def Tryz.aHx:anj Tryz.prog 239 240:=by
 refine⟨λargs w=>by kernel_rfl,λw y p=>?_⟩;go_enter Tryz.func239,Tryz.ntmps239
 go_wp2
 go_ret
 exact⟨_,rfl,rfl⟩
def Tryz.mkf(f:Nat):Option Nat:=bif Nat.beq f 239 then some 240 else none
theorem Tryz.Vb(P:Program)(H:P=Tryz.prog)(f g:Nat)(h:Tryz.mkf f=some g):anj P f g:=by
 subst H;unfold Tryz.mkf at h;cases h1:Nat.beq f 239 with
 |true=>
  rw[h1] at h;cases D! h1;cases h;exact Tryz.aHx
 |false=>
  rw[h1] at h;cases h
end Go.Proofs
namespace Go.Vg
open Go.Proofs
open Go
instance :HP:=⟨λP=>P=Tryz.prog,Tryz.mkf,Tryz.Vb⟩
def gm:Vg.b9:=(.node (.node (.node (.node (.node (.node (.node .leaf 3 ⟨.int .i64,1,8, .int .i64 (0)⟩ .leaf) 4 ⟨.bool,1,1, .bool false⟩ (.node .leaf 5 ⟨.int .u8,1,1, .int .u8 (0)⟩ .leaf)) 9 ⟨.string,1,16, .string ⟨#[]⟩⟩ (.node (.node .leaf 22 ⟨.slice 27,1,24, .slice none 0 0⟩ .leaf) 23 ⟨.slice 89,1,24, .slice none 0 0⟩ .leaf)) 25 ⟨.struct #[⟨ "Docs",22,0,false,"","",0⟩,⟨ "Segs",23,1,false,"","",24⟩],2,48, .agg #[.slice none 0 0, .slice none 0 0]⟩ (.node (.node (.node .leaf 26 ⟨.slice 81,1,24, .slice none 0 0⟩ .leaf) 27 ⟨.slice 5,1,24, .slice none 0 0⟩ .leaf) 31 ⟨.slice 87,1,24, .slice none 0 0⟩ (.node (.node .leaf 33 ⟨.struct #[⟨ "Docs",22,0,false,"","",0⟩,⟨ "Segs",31,1,false,"","",24⟩],2,48, .agg #[.slice none 0 0, .slice none 0 0]⟩ .leaf) 35 ⟨.func #[] #[4] false,1,8, .nilFunc⟩ .leaf))) 36 ⟨.slice 3,1,24, .slice none 0 0⟩ (.node (.node (.node (.node .leaf 37 ⟨.int .i64,1,8, .int .i64 (0)⟩ .leaf) 42 ⟨.slice 124,1,24, .slice none 0 0⟩ (.node .leaf 47 ⟨.struct #[⟨ "A",27,0,false,"","",0⟩,⟨ "B",27,1,false,"","",24⟩],2,48, .agg #[.slice none 0 0, .slice none 0 0]⟩ .leaf)) 56 ⟨.struct #[⟨ "A",27,0,false,"","",0⟩,⟨ "B",27,1,false,"","",24⟩],2,48, .agg #[.slice none 0 0, .slice none 0 0]⟩ (.node (.node .leaf 68 ⟨.slice 73,1,24, .slice none 0 0⟩ .leaf) 73 ⟨.struct #[⟨ "Kind",3,0,false,"","",0⟩,⟨ "I",3,1,false,"","",8⟩,⟨ "Many",3,2,false,"","",16⟩,⟨ "Doc",27,3,false,"","",24⟩],4,48, .agg #[.int .i64 (0), .int .i64 (0), .int .i64 (0), .slice none 0 0]⟩ .leaf)) 81 ⟨.struct #[⟨ "Kind",3,0,false,"","",0⟩,⟨ "Term",9,1,false,"","",8⟩],2,24, .agg #[.int .i64 (0), .string ⟨#[]⟩]⟩ (.node (.node (.node .leaf 84 ⟨.struct #[⟨ "From",3,0,false,"","",0⟩,⟨ "To",3,1,false,"","",8⟩],2,16, .agg #[.int .i64 (0), .int .i64 (0)]⟩ .leaf) 85 ⟨.slice 308,1,24, .slice none 0 0⟩ .leaf) 87 ⟨.struct #[⟨ "Span",84,0,false,"","",0⟩,⟨ "Dict",85,2,false,"","",16⟩],3,40, .agg #[.int .i64 (0), .int .i64 (0), .slice none 0 0]⟩ (.node (.node .leaf 89 ⟨.struct #[⟨ "Span",84,0,false,"","",0⟩,⟨ "Dict",85,2,false,"","",16⟩],3,40, .agg #[.int .i64 (0), .int .i64 (0), .slice none 0 0]⟩ .leaf) 95 ⟨.slice 109,1,24, .slice none 0 0⟩ .leaf)))) 97 ⟨.struct #[⟨ "Size",3,0,false,"","",0⟩,⟨ "Log",9,1,false,"","",8⟩,⟨ "Segs",95,2,false,"","",24⟩],3,48, .agg #[.int .i64 (0), .string ⟨#[]⟩, .slice none 0 0]⟩ (.node (.node (.node (.node (.node .leaf 98 ⟨.slice 110,1,24, .slice none 0 0⟩ .leaf) 100 ⟨.struct #[⟨ "Head",97,0,false,"","",0⟩,⟨ "Proofs",98,3,false,"","",48⟩],4,72, .agg #[.int .i64 (0), .string ⟨#[]⟩, .slice none 0 0, .slice none 0 0]⟩ (.node .leaf 103 ⟨.slice 9,1,24, .slice none 0 0⟩ .leaf)) 105 ⟨.slice 36,1,24, .slice none 0 0⟩ (.node (.node .leaf 107 ⟨.slice 35,1,24, .slice none 0 0⟩ .leaf) 109 ⟨.struct #[⟨ "Span",84,0,false,"","",0⟩,⟨ "Links",3,2,false,"","",16⟩,⟨ "Root",9,3,false,"","",24⟩],4,40, .agg #[.int .i64 (0), .int .i64 (0), .int .i64 (0), .string ⟨#[]⟩]⟩ .leaf)) 110 ⟨.slice 115,1,24, .slice none 0 0⟩ (.node (.node (.node .leaf 113 ⟨.struct #[⟨ "Term",9,0,false,"","",0⟩,⟨ "Next",9,1,false,"","",16⟩,⟨ "Posts",9,2,false,"","",32⟩],3,48, .agg #[.string ⟨#[]⟩, .string ⟨#[]⟩, .string ⟨#[]⟩]⟩ .leaf) 115 ⟨.struct #[⟨ "At",3,0,false,"","",0⟩,⟨ "Link",113,1,false,"","",8⟩,⟨ "Path",103,4,false,"","",56⟩,⟨ "Docs",27,5,false,"","",80⟩],6,104, .agg #[.int .i64 (0), .string ⟨#[]⟩, .string ⟨#[]⟩, .string ⟨#[]⟩, .slice none 0 0, .slice none 0 0]⟩ .leaf) 120 ⟨.slice 282,1,24, .slice none 0 0⟩ (.node (.node .leaf 122 ⟨.struct #[⟨ "Size",3,0,false,"","",0⟩,⟨ "Log",9,1,false,"","",8⟩,⟨ "Segs",120,2,false,"","",24⟩],3,48, .agg #[.int .i64 (0), .string ⟨#[]⟩, .slice none 0 0]⟩ .leaf) 124 ⟨.struct #[⟨ "Kind",3,0,false,"","",0⟩,⟨ "Term",9,1,false,"","",8⟩],2,24, .agg #[.int .i64 (0), .string ⟨#[]⟩]⟩ .leaf))) 128 ⟨.struct #[⟨ "claimed",97,0,false,"","rubrick/extract",0⟩,⟨ "honest",25,3,false,"","rubrick/extract",48⟩],5,96, .agg #[.int .i64 (0), .string ⟨#[]⟩, .slice none 0 0, .slice none 0 0, .slice none 0 0]⟩ (.node (.node (.node (.node .leaf 130 ⟨.struct #[⟨ "pair",128,0,true,"","rubrick/extract",0⟩,⟨ "terms",103,5,false,"","rubrick/extract",96⟩,⟨ "proofs",98,6,false,"","rubrick/extract",120⟩],7,144, .agg #[.int .i64 (0), .string ⟨#[]⟩, .slice none 0 0, .slice none 0 0, .slice none 0 0, .slice none 0 0, .slice none 0 0]⟩ .leaf) 132 ⟨.func #[] #[47,4] false,1,8, .nilFunc⟩ .leaf) 136 ⟨.struct #[⟨ "Head",97,0,false,"","",0⟩,⟨ "At",3,3,false,"","",48⟩,⟨ "Doc",27,4,false,"","",56⟩,⟨ "Path",103,5,false,"","",80⟩],6,104, .agg #[.int .i64 (0), .string ⟨#[]⟩, .slice none 0 0, .int .i64 (0), .slice none 0 0, .slice none 0 0]⟩ (.node (.node .leaf 141 ⟨.struct #[⟨ "pair",128,0,true,"","rubrick/extract",0⟩,⟨ "at",3,5,false,"","rubrick/extract",96⟩,⟨ "doc",27,6,false,"","rubrick/extract",104⟩,⟨ "path",103,7,false,"","rubrick/extract",128⟩],8,152, .agg #[.int .i64 (0), .string ⟨#[]⟩, .slice none 0 0, .slice none 0 0, .slice none 0 0, .int .i64 (0), .slice none 0 0, .slice none 0 0]⟩ .leaf) 144 ⟨.slice 156,1,24, .slice none 0 0⟩ .leaf)) 146 ⟨.struct #[⟨ "Head",122,0,false,"","",0⟩,⟨ "Proofs",144,3,false,"","",48⟩],4,72, .agg #[.int .i64 (0), .string ⟨#[]⟩, .slice none 0 0, .slice none 0 0]⟩ (.node (.node (.node .leaf 153 ⟨.struct #[⟨ "Term",9,0,false,"","",0⟩,⟨ "Next",9,1,false,"","",16⟩,⟨ "Posts",9,2,false,"","",32⟩],3,48, .agg #[.string ⟨#[]⟩, .string ⟨#[]⟩, .string ⟨#[]⟩]⟩ .leaf) 155 ⟨.struct #[⟨ "At",3,0,false,"","",0⟩,⟨ "Link",153,1,false,"","",8⟩,⟨ "Path",103,4,false,"","",56⟩,⟨ "Docs",27,5,false,"","",80⟩],6,104, .agg #[.int .i64 (0), .string ⟨#[]⟩, .string ⟨#[]⟩, .string ⟨#[]⟩, .slice none 0 0, .slice none 0 0]⟩ .leaf) 156 ⟨.slice 155,1,24, .slice none 0 0⟩ (.node (.node .leaf 160 ⟨.struct #[⟨ "Head",122,0,false,"","",0⟩,⟨ "At",3,3,false,"","",48⟩,⟨ "Doc",27,4,false,"","",56⟩,⟨ "Path",103,5,false,"","",80⟩],6,104, .agg #[.int .i64 (0), .string ⟨#[]⟩, .slice none 0 0, .int .i64 (0), .slice none 0 0, .slice none 0 0]⟩ .leaf) 165 ⟨.struct #[⟨ "Old",97,0,false,"","",0⟩,⟨ "New",97,3,false,"","",48⟩,⟨ "Proof",103,6,false,"","",96⟩],7,120, .agg #[.int .i64 (0), .string ⟨#[]⟩, .slice none 0 0, .int .i64 (0), .string ⟨#[]⟩, .slice none 0 0, .slice none 0 0]⟩ .leaf))))) 169 ⟨.struct #[⟨ "before",128,0,false,"","rubrick/extract",0⟩,⟨ "after",128,5,false,"","rubrick/extract",96⟩,⟨ "proof",103,10,false,"","rubrick/extract",192⟩],11,216, .agg #[.int .i64 (0), .string ⟨#[]⟩, .slice none 0 0, .slice none 0 0, .slice none 0 0, .int .i64 (0), .string ⟨#[]⟩, .slice none 0 0, .slice none 0 0, .slice none 0 0, .slice none 0 0]⟩ (.node (.node (.node (.node (.node (.node .leaf 173 ⟨.struct #[⟨ "Old",122,0,false,"","",0⟩,⟨ "New",122,3,false,"","",48⟩,⟨ "Proof",103,6,false,"","",96⟩],7,120, .agg #[.int .i64 (0), .string ⟨#[]⟩, .slice none 0 0, .int .i64 (0), .string ⟨#[]⟩, .slice none 0 0, .slice none 0 0]⟩ .leaf) 188 ⟨.func #[9] #[] false,1,8, .nilFunc⟩ (.node .leaf 203 ⟨.slice 209,1,24, .slice none 0 0⟩ .leaf)) 206 ⟨.struct #[⟨ "elems",203,0,false,"","rubrick/query",0⟩,⟨ "next",3,1,false,"","rubrick/query",24⟩,⟨ "words",3,2,false,"","rubrick/query",32⟩,⟨ "ops",26,3,false,"","rubrick/query",40⟩],4,64, .agg #[.slice none 0 0, .int .i64 (0), .int .i64 (0), .slice none 0 0]⟩ (.node (.node .leaf 209 ⟨.struct #[⟨ "kind",3,0,false,"","rubrick/query",0⟩,⟨ "at",3,1,false,"","rubrick/query",8⟩,⟨ "term",9,2,false,"","rubrick/query",16⟩],3,32, .agg #[.int .i64 (0), .int .i64 (0), .string ⟨#[]⟩]⟩ .leaf) 211 ⟨.pointer 221,1,8, .pointer none⟩ .leaf)) 219 ⟨.struct #[⟨ "B",27,0,false,"","",0⟩,⟨ "At",3,1,false,"","",24⟩,⟨ "E",37,2,false,"","",32⟩],3,40, .agg #[.slice none 0 0, .int .i64 (0), .int .i64 (0)]⟩ (.node (.node (.node .leaf 221 ⟨.struct #[⟨ "Reader",219,0,true,"","",0⟩],3,40, .agg #[.slice none 0 0, .int .i64 (0), .int .i64 (0)]⟩ .leaf) 225 ⟨.slice 229,1,24, .slice none 0 0⟩ .leaf) 227 ⟨.func #[115] #[4] false,1,8, .nilFunc⟩ (.node (.node .leaf 229 ⟨.struct #[⟨ "holds",227,0,false,"","rubrick/term",0⟩,⟨ "docs",36,1,false,"","rubrick/term",8⟩],2,32, .agg #[.nilFunc, .slice none 0 0]⟩ .leaf) 234 ⟨.func #[9] #[36] false,1,8, .nilFunc⟩ .leaf))) 236 ⟨.func #[36,36] #[36] false,1,8, .nilFunc⟩ (.node (.node (.node (.node .leaf 238 ⟨.struct #[⟨ "find",234,0,false,"","rubrick/eval",0⟩,⟨ "both",236,1,false,"","rubrick/eval",8⟩,⟨ "either",236,2,false,"","rubrick/eval",16⟩,⟨ "but",236,3,false,"","rubrick/eval",24⟩],4,32, .agg #[.nilFunc, .nilFunc, .nilFunc, .nilFunc]⟩ .leaf) 247 ⟨.slice 132,1,24, .slice none 0 0⟩ (.node .leaf 253 ⟨.int .u32,1,4, .int .u32 (0)⟩ .leaf)) 254 ⟨.array 8 253,8,32, .agg #[.int .u32 (0), .int .u32 (0), .int .u32 (0), .int .u32 (0), .int .u32 (0), .int .u32 (0), .int .u32 (0), .int .u32 (0)]⟩ (.node (.node .leaf 256 ⟨.struct #[⟨ "H",254,0,false,"","",0⟩,⟨ "Rest",27,8,false,"","",32⟩,⟨ "N",3,9,false,"","",56⟩],10,64, .agg #[.int .u32 (0), .int .u32 (0), .int .u32 (0), .int .u32 (0), .int .u32 (0), .int .u32 (0), .int .u32 (0), .int .u32 (0), .slice none 0 0, .int .i64 (0)]⟩ .leaf) 259 ⟨.func #[] #[3] false,1,8, .nilFunc⟩ .leaf)) 262 ⟨.slice 4,1,24, .slice none 0 0⟩ (.node (.node (.node .leaf 271 ⟨.struct #[⟨ "B",27,0,false,"","",0⟩,⟨ "E",3,1,false,"","",24⟩],2,32, .agg #[.slice none 0 0, .int .i64 (0)]⟩ .leaf) 282 ⟨.struct #[⟨ "Span",84,0,false,"","",0⟩,⟨ "Links",3,2,false,"","",16⟩,⟨ "Root",9,3,false,"","",24⟩],4,40, .agg #[.int .i64 (0), .int .i64 (0), .int .i64 (0), .string ⟨#[]⟩]⟩ .leaf) 308 ⟨.struct #[⟨ "Term",9,0,false,"","",0⟩,⟨ "Docs",36,1,false,"","",16⟩],2,40, .agg #[.string ⟨#[]⟩, .slice none 0 0]⟩ (.node (.node .leaf 312 ⟨.slice 84,1,24, .slice none 0 0⟩ .leaf) 323 ⟨.struct #[⟨ "b",27,0,false,"","rubrick/reply",0⟩,⟨ "bad",4,1,false,"","rubrick/reply",24⟩],2,32, .agg #[.slice none 0 0, .bool false]⟩ .leaf)))) 333 ⟨.pointer 206,1,8, .pointer none⟩ (.node (.node (.node (.node (.node .leaf 340 ⟨.int .u64,1,8, .int .u64 (0)⟩ .leaf) 343 ⟨.func #[9,9] #[4] false,1,8, .nilFunc⟩ (.node .leaf 345 ⟨.map 3 188,1,8, .map none⟩ .leaf)) 347 ⟨.func #[3,4,4] #[4] false,1,8, .nilFunc⟩ (.node (.node .leaf 354 ⟨.int .u64,1,8, .int .u64 (0)⟩ .leaf) 364 ⟨.slice 365,1,24, .slice none 0 0⟩ .leaf)) 365 ⟨.func #[] #[47,4] false,1,8, .nilFunc⟩ (.node (.node (.node .leaf 382 ⟨.slice 386,1,24, .slice none 0 0⟩ .leaf) 386 ⟨.struct #[⟨ "from",3,0,false,"","rubrick/clash",0⟩,⟨ "m",3,1,false,"","rubrick/clash",8⟩,⟨ "n",3,2,false,"","rubrick/clash",16⟩,⟨ "k",3,3,false,"","rubrick/clash",24⟩,⟨ "right",4,4,false,"","rubrick/clash",32⟩],5,40, .agg #[.int .i64 (0), .int .i64 (0), .int .i64 (0), .int .i64 (0), .bool false]⟩ .leaf) 393 ⟨.map 9 36,1,8, .map none⟩ (.node (.node .leaf 396 ⟨.func #[125] #[] false,1,8, .nilFunc⟩ .leaf) 404 ⟨.pointer 323,1,8, .pointer none⟩ .leaf))) 409 ⟨.struct #[⟨ "from",3,0,false,"","rubrick/utf",0⟩,⟨ "to",3,1,false,"","rubrick/utf",8⟩],2,16, .agg #[.int .i64 (0), .int .i64 (0)]⟩ (.node (.node (.node (.node .leaf 410 ⟨.array 9 409,18,144, .agg #[.int .i64 (0), .int .i64 (0), .int .i64 (0), .int .i64 (0), .int .i64 (0), .int .i64 (0), .int .i64 (0), .int .i64 (0), .int .i64 (0), .int .i64 (0), .int .i64 (0), .int .i64 (0), .int .i64 (0), .int .i64 (0), .int .i64 (0), .int .i64 (0), .int .i64 (0), .int .i64 (0)]⟩ .leaf) 412 ⟨.func #[] #[9] false,1,8, .nilFunc⟩ .leaf) 415 ⟨.int .i64,1,8, .int .i64 (0)⟩ (.node (.node .leaf 423 ⟨.slice 253,1,24, .slice none 0 0⟩ .leaf) 440 ⟨.func #[308,308] #[4] false,1,8, .nilFunc⟩ .leaf)) 442 ⟨.func #[9,9] #[3] false,1,8, .nilFunc⟩ (.node (.node (.node .leaf 444 ⟨.int .u64,1,8, .int .u64 (0)⟩ .leaf) 448 ⟨.pointer 3,1,8, .pointer none⟩ .leaf) 453 ⟨.array 64 253,64,256, .agg #[.int .u32 (0), .int .u32 (0), .int .u32 (0), .int .u32 (0), .int .u32 (0), .int .u32 (0), .int .u32 (0), .int .u32 (0), .int .u32 (0), .int .u32 (0), .int .u32 (0), .int .u32 (0), .int .u32 (0), .int .u32 (0), .int .u32 (0), .int .u32 (0), .int .u32 (0), .int .u32 (0), .int .u32 (0), .int .u32 (0), .int .u32 (0), .int .u32 (0), .int .u32 (0), .int .u32 (0), .int .u32 (0), .int .u32 (0), .int .u32 (0), .int .u32 (0), .int .u32 (0), .int .u32 (0), .int .u32 (0), .int .u32 (0), .int .u32 (0), .int .u32 (0), .int .u32 (0), .int .u32 (0), .int .u32 (0), .int .u32 (0), .int .u32 (0), .int .u32 (0), .int .u32 (0), .int .u32 (0), .int .u32 (0), .int .u32 (0), .int .u32 (0), .int .u32 (0), .int .u32 (0), .int .u32 (0), .int .u32 (0), .int .u32 (0), .int .u32 (0), .int .u32 (0), .int .u32 (0), .int .u32 (0), .int .u32 (0), .int .u32 (0), .int .u32 (0), .int .u32 (0), .int .u32 (0), .int .u32 (0), .int .u32 (0), .int .u32 (0), .int .u32 (0), .int .u32 (0)]⟩ (.node (.node .leaf 462 ⟨.struct #[⟨ "from",3,0,false,"","rubrick/utf",0⟩,⟨ "to",3,1,false,"","rubrick/utf",8⟩,⟨ "add",3,2,false,"","rubrick/utf",16⟩],3,24, .agg #[.int .i64 (0), .int .i64 (0), .int .i64 (0)]⟩ .leaf) 463 ⟨.array 7 462,21,168, .agg #[.int .i64 (0), .int .i64 (0), .int .i64 (0), .int .i64 (0), .int .i64 (0), .int .i64 (0), .int .i64 (0), .int .i64 (0), .int .i64 (0), .int .i64 (0), .int .i64 (0), .int .i64 (0), .int .i64 (0), .int .i64 (0), .int .i64 (0), .int .i64 (0), .int .i64 (0), .int .i64 (0), .int .i64 (0), .int .i64 (0), .int .i64 (0)]⟩ .leaf))))))
set_option maxRecDepth 100000 in
def af4:gm.Ok Tryz.prog:=⟨⟨⟨⟨⟨⟨⟨trivial,trivial,Tryz.underlying3,trivial,Tryz.t3,rfl,rfl,rfl,rfl⟩,⟨trivial,trivial,Tryz.underlying5,trivial,Tryz.t5,rfl,rfl,rfl,rfl⟩,Tryz.underlying4,trivial,Tryz.t4,rfl,rfl,rfl,rfl⟩,⟨⟨trivial,trivial,Tryz.underlying22,trivial,Tryz.t22,rfl,rfl,rfl,rfl⟩,trivial,Tryz.underlying23,trivial,Tryz.t23,rfl,rfl,rfl,rfl⟩,Tryz.underlying9,trivial,Tryz.t9,rfl,rfl,rfl,rfl⟩,⟨⟨⟨trivial,trivial,Tryz.underlying26,trivial,Tryz.t26,rfl,rfl,rfl,rfl⟩,trivial,Tryz.underlying27,trivial,Tryz.t27,rfl,rfl,rfl,rfl⟩,⟨⟨trivial,trivial,Tryz.underlying33,⟨y!,y!,y!⟩,Tryz.t33,rfl,rfl,rfl,rfl⟩,trivial,Tryz.underlying35,trivial,Tryz.t35,rfl,rfl,rfl,rfl⟩,Tryz.underlying31,trivial,Tryz.t31,rfl,rfl,rfl,rfl⟩,Tryz.underlying25,⟨y!,y!,y!⟩,Tryz.t25,rfl,rfl,rfl,rfl⟩,⟨⟨⟨⟨trivial,trivial,Tryz.underlying37,trivial,Tryz.t37,rfl,rfl,rfl,rfl⟩,⟨trivial,trivial,Tryz.underlying47,⟨y!,y!,y!⟩,Tryz.t47,rfl,rfl,rfl,rfl⟩,Tryz.underlying42,trivial,Tryz.t42,rfl,rfl,rfl,rfl⟩,⟨⟨trivial,trivial,Tryz.underlying68,trivial,Tryz.t68,rfl,rfl,rfl,rfl⟩,trivial,Tryz.underlying73,⟨y!,y!,y!⟩,Tryz.t73,rfl,rfl,rfl,rfl⟩,Tryz.underlying56,⟨y!,y!,y!⟩,Tryz.t56,rfl,rfl,rfl,rfl⟩,⟨⟨⟨trivial,trivial,Tryz.underlying84,⟨y!,y!,y!⟩,Tryz.t84,rfl,rfl,rfl,rfl⟩,trivial,Tryz.underlying85,trivial,Tryz.t85,rfl,rfl,rfl,rfl⟩,⟨⟨trivial,trivial,Tryz.underlying89,⟨y!,y!,y!⟩,Tryz.t89,rfl,rfl,rfl,rfl⟩,trivial,Tryz.underlying95,trivial,Tryz.t95,rfl,rfl,rfl,rfl⟩,Tryz.underlying87,⟨y!,y!,y!⟩,Tryz.t87,rfl,rfl,rfl,rfl⟩,Tryz.underlying81,⟨y!,y!,y!⟩,Tryz.t81,rfl,rfl,rfl,rfl⟩,Tryz.underlying36,trivial,Tryz.t36,rfl,rfl,rfl,rfl⟩,⟨⟨⟨⟨⟨trivial,trivial,Tryz.underlying98,trivial,Tryz.t98,rfl,rfl,rfl,rfl⟩,⟨trivial,trivial,Tryz.underlying103,trivial,Tryz.t103,rfl,rfl,rfl,rfl⟩,Tryz.underlying100,⟨y!,y!,y!⟩,Tryz.t100,rfl,rfl,rfl,rfl⟩,⟨⟨trivial,trivial,Tryz.underlying107,trivial,Tryz.t107,rfl,rfl,rfl,rfl⟩,trivial,Tryz.underlying109,⟨y!,y!,y!⟩,Tryz.t109,rfl,rfl,rfl,rfl⟩,Tryz.underlying105,trivial,Tryz.t105,rfl,rfl,rfl,rfl⟩,⟨⟨⟨trivial,trivial,Tryz.underlying113,⟨y!,y!,y!⟩,Tryz.t113,rfl,rfl,rfl,rfl⟩,trivial,Tryz.underlying115,⟨y!,y!,y!⟩,Tryz.t115,rfl,rfl,rfl,rfl⟩,⟨⟨trivial,trivial,Tryz.underlying122,⟨y!,y!,y!⟩,Tryz.t122,rfl,rfl,rfl,rfl⟩,trivial,Tryz.underlying124,⟨y!,y!,y!⟩,Tryz.t124,rfl,rfl,rfl,rfl⟩,Tryz.underlying120,trivial,Tryz.t120,rfl,rfl,rfl,rfl⟩,Tryz.underlying110,trivial,Tryz.t110,rfl,rfl,rfl,rfl⟩,⟨⟨⟨⟨trivial,trivial,Tryz.underlying130,⟨y!,y!,y!⟩,Tryz.t130,rfl,rfl,rfl,rfl⟩,trivial,Tryz.underlying132,trivial,Tryz.t132,rfl,rfl,rfl,rfl⟩,⟨⟨trivial,trivial,Tryz.underlying141,⟨y!,y!,y!⟩,Tryz.t141,rfl,rfl,rfl,rfl⟩,trivial,Tryz.underlying144,trivial,Tryz.t144,rfl,rfl,rfl,rfl⟩,Tryz.underlying136,⟨y!,y!,y!⟩,Tryz.t136,rfl,rfl,rfl,rfl⟩,⟨⟨⟨trivial,trivial,Tryz.underlying153,⟨y!,y!,y!⟩,Tryz.t153,rfl,rfl,rfl,rfl⟩,trivial,Tryz.underlying155,⟨y!,y!,y!⟩,Tryz.t155,rfl,rfl,rfl,rfl⟩,⟨⟨trivial,trivial,Tryz.underlying160,⟨y!,y!,y!⟩,Tryz.t160,rfl,rfl,rfl,rfl⟩,trivial,Tryz.underlying165,⟨y!,y!,y!⟩,Tryz.t165,rfl,rfl,rfl,rfl⟩,Tryz.underlying156,trivial,Tryz.t156,rfl,rfl,rfl,rfl⟩,Tryz.underlying146,⟨y!,y!,y!⟩,Tryz.t146,rfl,rfl,rfl,rfl⟩,Tryz.underlying128,⟨y!,y!,y!⟩,Tryz.t128,rfl,rfl,rfl,rfl⟩,Tryz.underlying97,⟨y!,y!,y!⟩,Tryz.t97,rfl,rfl,rfl,rfl⟩,⟨⟨⟨⟨⟨⟨trivial,trivial,Tryz.underlying173,⟨y!,y!,y!⟩,Tryz.t173,rfl,rfl,rfl,rfl⟩,⟨trivial,trivial,Tryz.underlying203,trivial,Tryz.t203,rfl,rfl,rfl,rfl⟩,Tryz.underlying188,trivial,Tryz.t188,rfl,rfl,rfl,rfl⟩,⟨⟨trivial,trivial,Tryz.underlying209,⟨y!,y!,y!⟩,Tryz.t209,rfl,rfl,rfl,rfl⟩,trivial,Tryz.underlying211,trivial,Tryz.t211,rfl,rfl,rfl,rfl⟩,Tryz.underlying206,⟨y!,y!,y!⟩,Tryz.t206,rfl,rfl,rfl,rfl⟩,⟨⟨⟨trivial,trivial,Tryz.underlying221,⟨y!,y!,y!⟩,Tryz.t221,rfl,rfl,rfl,rfl⟩,trivial,Tryz.underlying225,trivial,Tryz.t225,rfl,rfl,rfl,rfl⟩,⟨⟨trivial,trivial,Tryz.underlying229,⟨y!,y!,y!⟩,Tryz.t229,rfl,rfl,rfl,rfl⟩,trivial,Tryz.underlying234,trivial,Tryz.t234,rfl,rfl,rfl,rfl⟩,Tryz.underlying227,trivial,Tryz.t227,rfl,rfl,rfl,rfl⟩,Tryz.underlying219,⟨y!,y!,y!⟩,Tryz.t219,rfl,rfl,rfl,rfl⟩,⟨⟨⟨⟨trivial,trivial,Tryz.underlying238,⟨y!,y!,y!⟩,Tryz.t238,rfl,rfl,rfl,rfl⟩,⟨trivial,trivial,Tryz.underlying253,trivial,Tryz.t253,rfl,rfl,rfl,rfl⟩,Tryz.underlying247,trivial,Tryz.t247,rfl,rfl,rfl,rfl⟩,⟨⟨trivial,trivial,Tryz.underlying256,⟨y!,y!,y!⟩,Tryz.t256,rfl,rfl,rfl,rfl⟩,trivial,Tryz.underlying259,trivial,Tryz.t259,rfl,rfl,rfl,rfl⟩,Tryz.underlying254,trivial,Tryz.t254,rfl,rfl,rfl,rfl⟩,⟨⟨⟨trivial,trivial,Tryz.underlying271,⟨y!,y!,y!⟩,Tryz.t271,rfl,rfl,rfl,rfl⟩,trivial,Tryz.underlying282,⟨y!,y!,y!⟩,Tryz.t282,rfl,rfl,rfl,rfl⟩,⟨⟨trivial,trivial,Tryz.underlying312,trivial,Tryz.t312,rfl,rfl,rfl,rfl⟩,trivial,Tryz.underlying323,⟨y!,y!,y!⟩,Tryz.t323,rfl,rfl,rfl,rfl⟩,Tryz.underlying308,⟨y!,y!,y!⟩,Tryz.t308,rfl,rfl,rfl,rfl⟩,Tryz.underlying262,trivial,Tryz.t262,rfl,rfl,rfl,rfl⟩,Tryz.underlying236,trivial,Tryz.t236,rfl,rfl,rfl,rfl⟩,⟨⟨⟨⟨⟨trivial,trivial,Tryz.underlying340,trivial,Tryz.t340,rfl,rfl,rfl,rfl⟩,⟨trivial,trivial,Tryz.underlying345,trivial,Tryz.t345,rfl,rfl,rfl,rfl⟩,Tryz.underlying343,trivial,Tryz.t343,rfl,rfl,rfl,rfl⟩,⟨⟨trivial,trivial,Tryz.underlying354,trivial,Tryz.t354,rfl,rfl,rfl,rfl⟩,trivial,Tryz.underlying364,trivial,Tryz.t364,rfl,rfl,rfl,rfl⟩,Tryz.underlying347,trivial,Tryz.t347,rfl,rfl,rfl,rfl⟩,⟨⟨⟨trivial,trivial,Tryz.underlying382,trivial,Tryz.t382,rfl,rfl,rfl,rfl⟩,trivial,Tryz.underlying386,⟨y!,y!,y!⟩,Tryz.t386,rfl,rfl,rfl,rfl⟩,⟨⟨trivial,trivial,Tryz.underlying396,trivial,Tryz.t396,rfl,rfl,rfl,rfl⟩,trivial,Tryz.underlying404,trivial,Tryz.t404,rfl,rfl,rfl,rfl⟩,Tryz.underlying393,trivial,Tryz.t393,rfl,rfl,rfl,rfl⟩,Tryz.underlying365,trivial,Tryz.t365,rfl,rfl,rfl,rfl⟩,⟨⟨⟨⟨trivial,trivial,Tryz.underlying410,trivial,Tryz.t410,rfl,rfl,rfl,rfl⟩,trivial,Tryz.underlying412,trivial,Tryz.t412,rfl,rfl,rfl,rfl⟩,⟨⟨trivial,trivial,Tryz.underlying423,trivial,Tryz.t423,rfl,rfl,rfl,rfl⟩,trivial,Tryz.underlying440,trivial,Tryz.t440,rfl,rfl,rfl,rfl⟩,Tryz.underlying415,trivial,Tryz.t415,rfl,rfl,rfl,rfl⟩,⟨⟨⟨trivial,trivial,Tryz.underlying444,trivial,Tryz.t444,rfl,rfl,rfl,rfl⟩,trivial,Tryz.underlying448,trivial,Tryz.t448,rfl,rfl,rfl,rfl⟩,⟨⟨trivial,trivial,Tryz.underlying462,⟨y!,y!,y!⟩,Tryz.t462,rfl,rfl,rfl,rfl⟩,trivial,Tryz.underlying463,trivial,Tryz.t463,rfl,rfl,rfl,rfl⟩,Tryz.underlying453,trivial,Tryz.t453,rfl,rfl,rfl,rfl⟩,Tryz.underlying442,trivial,Tryz.t442,rfl,rfl,rfl,rfl⟩,Tryz.underlying409,⟨y!,y!,y!⟩,Tryz.t409,rfl,rfl,rfl,rfl⟩,Tryz.underlying333,trivial,Tryz.t333,rfl,rfl,rfl,rfl⟩,Tryz.underlying169,⟨y!,y!,y!⟩,Tryz.t169,rfl,rfl,rfl,rfl⟩
end Go.Vg
namespace Go.J
open Go.Proofs
def G0:Nat->Option Go.Vg.GD:=λi=>match i with
 |0=>some ⟨[.int .u32],[1779033703,3144134277,1013904242,2773480762,1359893119,2600822924,528734635,1541459225]⟩
 |1=>some ⟨[.int .i64,.int .i64],[(65,90),(97,122),(192,214),(216,246),(248,255),(913,929),(931,937),(945,969),(1024,1119)]⟩
 |2=>some ⟨[.int .u32],Go.S.Bo⟩
 |3=>some ⟨[.int .i64,.int .i64,.int .i64],[(65,90,32),(192,214,32),(216,222,32),(913,929,32),(931,937,32),(1024,1039,80),(1040,1071,32)]⟩
 |_=>none
end Go.J
namespace Go.J
open Go Vg
abbrev oq:M Ty:=[.int .i64,.int .i64,.int .i64,.str]
abbrev ue:M Ty:=[.int .i64,.str,.str,.str,.slice [.str],.slice [.int .u8]]
abbrev oX:M Ty:=[.slice [.int .u8]]
abbrev oY:M Ty:=[.slice [.int .u8],.slice [.int .u8]]
abbrev zw:M Ty:=[.str,.slice [.int .i64]]
abbrev xM:M Ty:=[.int .i64,.int .i64,.slice zw]
abbrev Q6:M Ty:=[.int .i64,.str,.slice oq,.slice [.slice ue]]
abbrev è:M Ty:=[.int .i64,.str,.slice oq,.int .i64,.slice [.int .u8],.slice [.str]]
abbrev wG:M Ty:=[.int .i64,.str,.slice oq,.int .i64,.str,.slice oq,.slice [.str]]
abbrev Dh:M Ty:=[.slice oX,.slice xM]
abbrev wH:M Ty:=[.slice [.int .i64]]
abbrev mJ:M Ty:=[.int .i64,.int .i64,.str]
abbrev KI:M Ty:=[.slice [.int .u8],.int .i64,.int .i64]
abbrev aaJ:M Ty:=[.int .i64,.str]
abbrev GQ:M Ty:=[.int .u32,.int .u32,.int .u32,.int .u32,.int .u32,.int .u32,.int .u32,.int .u32]
abbrev KJ:M Ty:=[.int .i64,.str,.slice oq]
abbrev aq0:M Ty:=[.slice [.int .u8],.int .i64]
abbrev Xd:M Ty:=[.int .u32,.int .u32,.int .u32,.int .u32,.int .u32,.int .u32,.int .u32,.int .u32,.slice [.int .u8],.int .i64]
abbrev GR:M Ty:=[.slice [.int .i64],.int .i64]
abbrev aMS:M Ty:=[.str,.int .i64]
abbrev q0p:M PS:=[]
abbrev aq1:Type:=Unit
abbrev q1p:M PS:=[.one (.int .u32),.one (.int .i64)]
abbrev aEJ:Type:=Int×Int
abbrev lL:M PS:=[.one (.slice [.int .u8])]
abbrev fm:Type:=B8
abbrev q3p:M PS:=[.one (.slice [.int .u32]),.one (.slice [.int .u8])]
abbrev aEK:Type:=U×B8
abbrev q4p:M PS:=[.agg Xd]
abbrev aq2:Type:=Int×Int×Int×Int×Int×Int×Int×Int×B8×Int
abbrev q5p:M PS:=[.agg GQ,.one (.slice [.int .u8])]
abbrev af5:Type:=Int×Int×Int×Int×Int×Int×Int×Int×B8
abbrev q6p:M PS:=[.agg Xd,.one (.slice [.int .u8])]
abbrev aNX:Type:=Int×Int×Int×Int×Int×Int×Int×Int×B8×Int×B8
abbrev EJ:M PS:=[.one (.int .i64)]
abbrev qg:Type:=Int
abbrev q8p:M PS:=[.one (.str)]
abbrev UM:Type:=B8
abbrev q9p:M TA:=[.own 50000,.dV (.int .i64)]
abbrev aEL:Type:=Int
abbrev q0q:M TB:=[.row 5 [.int .u8]]
abbrev aq4:Type:=B8×Unit
abbrev aN0:M TA:=[.own 50000,.dV (.str)]
abbrev aHB:Type:=B8
abbrev é:M PS:=[.one (.slice [.int .u8]),.one (.int .i64)]
abbrev Q7:Type:=B8×Int
abbrev aq5:M PS:=[.one (.slice [.int .u8]),.one (.str)]
abbrev Xe:Type:=B8×B8
abbrev UN:M PS:=[.agg KI]
abbrev Q8:Type:=B8×Int×Int
abbrev aEM:M PS:=[.one (.slice [.int .u8]),.one (.int .i64),.one (.int .i64)]
abbrev aHC:Type:=B8×Int×Int
abbrev aN1:M PS:=[.agg KI,.one (.int .i64)]
abbrev aHD:Type:=B8×Int×Int×Int
abbrev aq6:M PS:=[.one (.int .i64),.one (.slice [.int .u8])]
abbrev aaK:Type:=Int×B8
abbrev Q9:M PS:=[.one (.str),.one (.str)]
abbrev GS:Type:=B8×B8
abbrev aEN:M PS:=[.one (.int .u8),.one (.slice oX)]
abbrev aq7:Type:=UInt8×O
abbrev aN2:M PS:=[.one (.int .i64),.one (.int .i64),.one (.int .i64)]
abbrev aHE:Type:=Int×Int×Int
abbrev aEO:M PS:=[.one (.int .i64),.one (.int .i64)]
abbrev aaL:Type:=Int×Int
abbrev Di:M PS:=[.one (.slice [.int .i64])]
abbrev se:Type:=U
abbrev Dj:M PS:=[.one (.slice [.str])]
abbrev tM:Type:=O
abbrev ê:M TA:=[.own 50000]
abbrev GU:Type:=Unit
abbrev q1q:M TB:=[.row 9 [.str]]
abbrev MB:Type:=O×Unit
abbrev aN3:M TA:=[.dV (.str),.dV (.str),.ref 50000 0]
abbrev aHF:Type:=B8×B8
abbrev q2q:M TB:=[.cells [.fn (.func 359) [] []]]
abbrev aN4:Type:=Unit×Unit
abbrev aN5:M TA:=[.own 50000,.fn (.func 382) [] [.ref 50001 0]]
abbrev aq8:Type:=Unit
abbrev q3q:M TB:=[.row 9 [.str],.cells [.fn (.func 359) [] []]]
abbrev aEP:Type:=O×Unit×Unit
abbrev aN6:M TA:=[.own 50000,.fn (.func 359) [] []]
abbrev aHG:Type:=Unit
abbrev aN7:M TA:=[.dV (.slice [.str]),.fn (.func 359) [] []]
abbrev aHH:Type:=O
abbrev BL:M TB:=[]
abbrev xN:Type:=Unit
abbrev af6:M PS:=[.one (.slice oX)]
abbrev KK:Type:=O
abbrev aN8:M PS:=[.one (.slice [.str]),.one (.int .i64)]
abbrev aq9:Type:=O×Int
abbrev aN9:M TA:=[.dV (.int .i64),.dV (.bool),.dV (.bool),.ref 50000 0]
abbrev aHI:Type:=Int×Bool×Bool
abbrev q5q:M TB:=[.cells [.dV (.int .i64),.dV (.int .i64)]]
abbrev ara:Type:=(Int×Int)×Unit
abbrev aEQ:M TA:=[.dV (.slice [.int .i64]),.dV (.slice [.int .i64]),.fn (.func 384) [] [.ref 50000 0]]
abbrev arb:Type:=U×U
abbrev arc:M PS:=[.one (.slice [.int .i64]),.agg [.int .i64,.int .i64]]
abbrev aaM:Type:=U×Int×Int
abbrev Ra:M PS:=[.one (.slice [.int .i64]),.one (.slice [.int .i64])]
abbrev GV:Type:=U×U
abbrev Rb:M PS:=[.one (.slice zw)]
abbrev wI:Type:=M (B8×U)
abbrev aER:M PS:=[.agg [.str,.str,.str]]
abbrev ard:Type:=B8×B8×B8
abbrev are:M PS:=[.one (.slice zw),.one (.str)]
abbrev Xf:Type:=M (B8×U)×B8
abbrev Rc:M PS:=[.one (.slice oX),.agg [.int .i64,.int .i64]]
abbrev Dk:Type:=O×Int×Int
abbrev arf:M PS:=[.one (.slice zw),.one (.slice zw)]
abbrev aaN:Type:=M (B8×U)×M (B8×U)
abbrev aOa:M PS:=[.one (.slice oX),.one (.slice oX)]
abbrev aHK:Type:=O×O
abbrev ë:M PS:=[.agg [.int .i64,.int .i64]]
abbrev Re:Type:=Int×Int
abbrev aOb:M PS:=[.agg xM]
abbrev aHL:Type:=Int×Int×M (B8×U)
abbrev aOc:M PS:=[.agg oq]
abbrev arh:Type:=Int×Int×Int×B8
abbrev aOd:M PS:=[.one (.slice oq),.one (.int .i64)]
abbrev aHM:Type:=M (Int×Int×Int×B8)×Int
abbrev aOe:M PS:=[.agg xM,.agg xM]
abbrev aHN:Type:=Int×Int×M (B8×U)×Int×Int×M (B8×U)
abbrev aOf:M PS:=[.agg zw,.agg zw]
abbrev ari:Type:=B8×U×B8×U
abbrev lV:M TA:=[.dV (.slice zw),.dV (.slice zw),.fn (.func 356) [] []]
abbrev iz:Type:=M (B8×U)×M (B8×U)
abbrev arj:M PS:=[.agg Dh]
abbrev ark:Type:=O×M (Int×Int×M (B8×U))
abbrev Rf:M PS:=[.agg Dh,.one (.slice [.int .u8])]
abbrev GW:Type:=O×M (Int×Int×M (B8×U))×B8
abbrev af7:M PS:=[.agg KJ]
abbrev arl:Type:=Int×B8×M (Int×Int×Int×B8)
abbrev aOk:M TA:=[.dV (.int .i64),.ref 50000 0,.ref 50001 0]
abbrev aHO:Type:=Int
abbrev q6q:M TB:=[.cells [.dV (.int .i64)],.cells [.nil]]
abbrev aOh:Type:=Int×Unit×Unit
abbrev q7q:M TB:=[.cells [.dV (.int .i64)],.cells [.own 50002],.row 5 [.int .u8]]
abbrev aOj:Type:=Int×Unit×B8×Unit
abbrev Bx:M TA:=[.dV (.str),.ref 50000 0]
abbrev wJ:Type:=B8
abbrev q8q:M TB:=[.cells [.own 50001],.row 5 [.int .u8]]
abbrev aOl:Type:=Unit×B8×Unit
abbrev aOm:M TA:=[.ref 50000 0]
abbrev aHP:Type:=Unit
abbrev Xg:M TB:=[.cells [.dV (.slice [.int .u8]),.dV (.int .i64),.dV (.int .i64)]]
abbrev FB:Type:=(B8×Int×Int)×Unit
abbrev Jl:M TA:=[.ref 50000 0,.ref 50001 0,.ref 50002 0]
abbrev tN:Type:=Unit
abbrev aOn:M TB:=[.cells [.dV (.int .i64)],.cells [.fn (.func 319) [] [.ref 50003 0]],.cells [.fn (.func 320) [] [.ref 50003 0]],.cells [.dV (.slice [.int .u8]),.dV (.int .i64),.dV (.int .i64)]]
abbrev aHQ:Type:=Int×Unit×Unit×(B8×Int×Int)×Unit
abbrev aOo:M PS:=[.one (.slice aaJ)]
abbrev aHR:Type:=M (Int×B8)
abbrev UO:M TA:=[.ref 50000 0,.ref 50001 0,.ref 50002 0,.ref 50003 0]
abbrev Dl:Type:=Unit
abbrev aOp:M TB:=[.cells [.dV (.int .i64)],.cells [.nil],.cells [.dV (.slice [.int .u8])],.cells [.dV (.int .i64)]]
abbrev aHS:Type:=Int×Unit×B8×Int×Unit
abbrev ì:M TB:=[.cells [.dV (.slice mJ),.dV (.int .i64),.dV (.int .i64),.nil]]
abbrev KL:Type:=(M (Int×Int×B8)×Int×Int)×Unit
abbrev aES:M TB:=[.cells [.dV (.slice mJ),.dV (.int .i64),.dV (.int .i64),.own 50001],.row 81 aaJ]
abbrev aHT:Type:=(M (Int×Int×B8)×Int×Int)×(M (Int×B8))×Unit
abbrev aOq:M TA:=[.ref 50000 0,.dV (.int .i64)]
abbrev aHU:Type:=Int
abbrev UP:M TB:=[.cells [.own 50001,.dV (.bool)],.row 5 [.int .u8]]
abbrev GX:Type:=Bool×B8×Unit
abbrev aOr:M TA:=[.ref 50000 0,.dV (.slice [.int .u8]),.dV (.int .i64)]
abbrev aHV:Type:=B8×Int
abbrev aOs:M TA:=[.ref 50000 0,.agg [.dV (.int .i64),.dV (.str),.dV (.slice oq)]]
abbrev arn:Type:=Int×B8×M (Int×Int×Int×B8)
abbrev aOt:M TA:=[.ref 50000 0,.dV (.slice [.str])]
abbrev aHW:Type:=O
abbrev aET:M TA:=[.ref 50000 0,.agg [.dV (.int .i64),.dV (.str),.dV (.str),.dV (.str),.dV (.slice [.str]),.dV (.slice [.int .u8])]]
abbrev aro:Type:=Int×B8×B8×B8×O×B8
abbrev aOu:M PS:=[.agg Q6]
abbrev aHX:Type:=Int×B8×M (Int×Int×Int×B8)×M (M (Int×B8×B8×B8×O×B8))
abbrev MC:M PS:=[.agg è]
abbrev arp:Type:=Int×B8×M (Int×Int×Int×B8)×Int×B8×O
abbrev í:M TA:=[.dV (.slice [.int .u8]),.dV (.int .u8)]
abbrev Rg:Type:=B8×UInt8
abbrev af8:M PS:=[.one (.slice [.int .u8]),.one (.slice [.int .u8])]
abbrev arq:Type:=B8×B8
abbrev aEW:M TA:=[.dV (.str),.ref 50000 0,.ref 50001 0,.ref 50002 0]
abbrev ars:Type:=B8
abbrev aEU:M TB:=[.cells [.dV (.slice zw)],.cells [.dV (.int .i64)],.cells [.nil]]
abbrev aHY:Type:=(M (B8×U))×Int×Unit×Unit
abbrev aEV:M TB:=[.cells [.dV (.slice zw)],.cells [.dV (.int .i64)],.cells [.own 50003],.row 115 ue]
abbrev aHZ:Type:=(M (B8×U))×Int×Unit×(M (Int×B8×B8×B8×O×B8))×Unit
abbrev aEY:M TA:=[.dV (.slice zw),.ref 50000 0,.ref 50001 0]
abbrev aru:Type:=M (B8×U)
abbrev aEX:M TB:=[.cells [.dV (.int .i64)],.cells [.dV (.slice [.str])]]
abbrev art:Type:=Int×O×Unit
abbrev aOv:M PS:=[.agg Dh,.one (.slice aaJ)]
abbrev aH0:Type:=O×M (Int×Int×M (B8×U))×M (Int×B8)
abbrev aEZ:M PS:=[.agg Dh,.one (.int .i64)]
abbrev arv:Type:=O×M (Int×Int×M (B8×U))×Int
abbrev arw:M PS:=[.one (.str),.one (.int .i64),.one (.int .i64),.one (.slice [.str])]
abbrev aaO:Type:=B8×Int×Int×O
abbrev aE0:M PS:=[.one (.int .i64),.one (.bool),.one (.bool)]
abbrev arx:Type:=Int×Bool×Bool
abbrev aE1:M TA:=[.dV (.slice [.int .i64]),.dV (.slice [.int .i64]),.fn (.func 243) [] []]
abbrev ary:Type:=U×U
abbrev aE2:M TA:=[.dV (.slice [.int .i64]),.dV (.slice [.int .i64]),.fn (.func 244) [] []]
abbrev arz:Type:=U×U
abbrev aOw:M TA:=[.dV (.slice [.int .i64]),.dV (.slice [.int .i64]),.fn (.func 245) [] []]
abbrev arA:Type:=U×U
abbrev aOx:M PS:=[.one (.slice [.str]),.one (.str)]
abbrev aH1:Type:=O×B8
abbrev Rh:M PS:=[.one (.str),.var [.slice [.str]],.var [.slice wH]]
abbrev Xh:Type:=B8×O×M U
abbrev aOz:M TA:=[.dV (.str),.ref 50000 0,.ref 50001 0]
abbrev arB:Type:=B8
abbrev aE3:M TB:=[.cells [.own 50002],.cells [.fn (.func 130) [] []],.row 36 wH]
abbrev aH2:Type:=Unit×Unit×(M U)×Unit
abbrev aE4:M TB:=[.cells [.own 50002],.cells [.fn (.func 131) [] []],.row 36 wH]
abbrev aH3:Type:=Unit×Unit×(M U)×Unit
abbrev aE5:M TB:=[.cells [.own 50002],.cells [.fn (.func 132) [] []],.row 36 wH]
abbrev aH4:Type:=Unit×Unit×(M U)×Unit
abbrev aOy:M TB:=[.cells [.own 50002],.cells [.fn (.func 126) [] [.var [.slice [.str]],.var [.slice wH]],.fn (.func 130) [] [],.fn (.func 131) [] [],.fn (.func 132) [] []],.row 36 wH]
abbrev aH5:Type:=Unit×(O×M U)×(M U)×Unit
abbrev aE6:M TA:=[.dV (.slice aaJ),.agg [.fn (.func 126) [] [.var [.slice [.str]],.var [.slice wH]],.fn (.func 130) [] [],.fn (.func 131) [] [],.fn (.func 132) [] []]]
abbrev arC:Type:=M (Int×B8)×O×M U
abbrev aOA:M PS:=[.one (.slice aaJ),.one (.slice wH)]
abbrev aH6:Type:=M (Int×B8)×M U
abbrev aOB:M PS:=[.agg ue,.var [.str],.var [.int .i64]]
abbrev aH7:Type:=Int×B8×B8×B8×O×B8×B8×Int
abbrev aOC:M PS:=[.agg ue,.var [.str]]
abbrev aH8:Type:=Int×B8×B8×B8×O×B8×B8
abbrev aOD:M TA:=[.dV (.str),.agg [.dV (.int .i64),.dV (.str),.dV (.str),.dV (.str),.dV (.slice [.str]),.dV (.slice [.int .u8])]]
abbrev arD:Type:=B8×Int×B8×B8×B8×O×B8
abbrev aOE:M PS:=[.one (.str),.one (.int .i64),.one (.str),.agg ue]
abbrev aH9:Type:=B8×Int×B8×Int×B8×B8×B8×O×B8
abbrev aOF:M PS:=[.one (.int .i64),.one (.int .i64),.one (.str),.one (.str),.one (.slice [.str])]
abbrev aIa:Type:=Int×Int×B8×B8×O
abbrev aOG:M PS:=[.var KJ,.var [.str]]
abbrev aIb:Type:=Int×B8×M (Int×Int×Int×B8)×B8
abbrev aE7:M PS:=[.agg KJ,.one (.str)]
abbrev arE:Type:=Int×B8×M (Int×Int×Int×B8)×B8
abbrev aOH:M PS:=[.var Q6,.var [.int .i64],.var [.slice [.str]]]
abbrev aIc:Type:=Int×B8×M (Int×Int×Int×B8)×M (M (Int×B8×B8×B8×O×B8))×Int×O
abbrev î:M PS:=[.var è,.var [.int .i64]]
abbrev aaP:Type:=Int×B8×M (Int×Int×Int×B8)×Int×B8×O×Int
abbrev aE8:M PS:=[.one (.str),.one (.int .i64),.one (.slice [.int .u8])]
abbrev aId:Type:=B8×Int×B8
abbrev aOI:M TA:=[.var oq,.var [.str],.var Q6,.var [.int .i64],.var [.int .i64],.ref 50000 0]
abbrev arF:Type:=Int×Int×Int×B8×B8×Int×B8×M (Int×Int×Int×B8)×M (M (Int×B8×B8×B8×O×B8))×Int×Int
abbrev ï:M TB:=[.cells [.own 50001],.eG 36 50002,.row 3 [.int .i64]]
abbrev aaQ:Type:=Unit×(M Value×Nat)×U×Unit
abbrev aOJ:M PS:=[.var oq,.var [.str],.var Q6,.var [.int .i64],.var [.int .i64]]
abbrev aIe:Type:=Int×Int×Int×B8×B8×Int×B8×M (Int×Int×Int×B8)×M (M (Int×B8×B8×B8×O×B8))×Int×Int
abbrev aOK:M PS:=[.one (.str),.one (.slice aaJ),.one (.slice [.int .u8])]
abbrev aIf:Type:=B8×M (Int×B8)×B8
abbrev aE9:M TA:=[.var wG,.ref 50000 0]
abbrev arG:Type:=Int×B8×M (Int×Int×Int×B8)×Int×B8×M (Int×Int×Int×B8)×O
abbrev aYh:M TB:=[.cells [.dV (.str)]]
abbrev aZj:Type:=B8×Unit
abbrev aOL:M PS:=[.var wG]
abbrev aIg:Type:=Int×B8×M (Int×Int×Int×B8)×Int×B8×M (Int×Int×Int×B8)×O
abbrev arH:M PS:=[.one (.str),.one (.slice [.int .u8])]
abbrev aaR:Type:=B8×B8
abbrev aFa:M PS:=[.agg oY]
abbrev arI:Type:=B8×B8
abbrev aOM:M PS:=[.var oX,.var oX]
abbrev aIh:Type:=B8×B8
abbrev ð:M PS:=[.one (.slice oX),.one (.int .i64),.one (.slice [.int .u8]),.one (.slice [.str])]
abbrev arJ:Type:=O×Int×B8×O
abbrev aON:M PS:=[.one (.slice zw),.one (.str),.agg ue]
abbrev aIi:Type:=M (B8×U)×B8×Int×B8×B8×B8×O×B8
abbrev aFb:M PS:=[.agg [.int .i64,.str,.slice oq,.slice oX,.slice xM]]
abbrev arK:Type:=Int×B8×M (Int×Int×Int×B8)×O×M (Int×Int×M (B8×U))
abbrev arL:M PS:=[.agg [.int .i64,.str,.slice oq,.slice oX,.slice xM,.slice [.str],.slice [.slice ue]]]
abbrev af9:Type:=Int×B8×M (Int×Int×Int×B8)×O×M (Int×Int×M (B8×U))×O×M (M (Int×B8×B8×B8×O×B8))
abbrev aZk:M PS:=[.agg [.int .i64,.str,.slice oq,.slice oX,.slice xM,.int .i64,.slice [.int .u8],.slice [.str]]]
abbrev aXc:Type:=Int×B8×M (Int×Int×Int×B8)×O×M (Int×Int×M (B8×U))×Int×B8×O
abbrev aZl:M PS:=[.agg Dh,.one (.slice aaJ),.one (.slice [.int .u8])]
abbrev aXd:Type:=O×M (Int×Int×M (B8×U))×M (Int×B8)×B8
abbrev aZm:M PS:=[.agg Dh,.one (.int .i64),.one (.slice [.int .u8])]
abbrev aXe:Type:=O×M (Int×Int×M (B8×U))×Int×B8
abbrev aP6:M PS:=[.var [.slice oX],.var [.int .i64],.var [.slice oX],.var [.slice [.str]],.var [.slice [.str]]]
abbrev aQS:Type:=O×Int×O×O×O
abbrev aTl:M PS:=[.one (.slice oX),.one (.slice oX),.one (.slice [.str]),.one (.slice [.str])]
abbrev aUk:Type:=O×O×O×O
abbrev aWb:M PS:=[.var [.slice oX],.var [.int .i64],.var [.int .i64],.var [.slice oX]]
abbrev aXf:Type:=O×Int×Int×O
abbrev aWc:M PS:=[.one (.slice oX),.one (.slice oX),.one (.int .i64),.one (.int .i64)]
abbrev aXg:Type:=O×O×Int×Int
abbrev aWd:M PS:=[.one (.slice oX),.one (.slice oX),.one (.slice [.str])]
abbrev aUl:Type:=O×O×O
abbrev aWe:M PS:=[.agg [.int .i64,.str,.slice oq,.slice oX,.slice xM,.int .i64,.str,.slice oq,.slice oX,.slice xM,.slice [.str]]]
abbrev aXh:Type:=Int×B8×M (Int×Int×Int×B8)×O×M (Int×Int×M (B8×U))×Int×B8×M (Int×Int×Int×B8)×O×M (Int×Int×M (B8×U))×O
abbrev aMT:M PS:=[.agg Dh,.agg Dh,.one (.slice [.int .u8])]
abbrev aUm:Type:=O×M (Int×Int×M (B8×U))×O×M (Int×Int×M (B8×U))×B8
end Go.J
namespace Go
open List (length getD take drop replicate)
open Int (toNat)
def q0(a:Int×Int×B8)(b:S.El)(c:Prop):Prop:=a.1=b.1/\a.2.1=b.2.1/\a.2.2=b.2.2/\c
def q2(a:Int×Int)(b:S.Rs):Prop:=a.1=b.1/\a.2=b.2
def q4(a b:S.Hd)(c:Prop):Prop:=a.1=b.1/\a.2.1=b.2.1/\a.2.2=b.2.2/\c
def ñ(a:S.Cl)(b c:B8)(d:Bool):Prop:=b=a.1.1/\c=a.1.2/\d=a.2
def q11(a b:S.Cl):Prop:=a.1.1=b.1.1/\a.1.2=b.1.2/\a.2=b.2
def q18(a:S.Rd×B8)(b:B8)(c d:Int)(e:B8):Prop:=b=a.1.1/\c=a.1.2.1/\d=a.1.2.2/\e=a.2
def q39(a:U×U×U)(b c d:U):Prop:=b=a.1/\c=a.2.1/\d=a.2.2
def q40(a b:B8×Int):Prop:=a.1=b.1/\a.2=b.2
def q41(a:(Int×B8×M S.Sg×M (M S.Pf))×Int)(b:Int)(c:B8)(d:M S.Sg)(e:M (M S.Pf))(f:Int):Prop:=b=a.1.1/\c=a.1.2.1/\d=a.1.2.2.1/\e=a.1.2.2.2/\f=a.2
def q42(a b:S.Rs)(c:Prop):Prop:=a.1=b.1/\a.2=b.2/\c
def q43(a:(Int×B8×M S.Sg×Int×B8×O)×Int)(b:Int)(c:B8)(d:M S.Sg)(e:Int)(f:B8)(g:O)(h:Int):Prop:=b=a.1.1/\c=a.1.2.1/\d=a.1.2.2.1/\e=a.1.2.2.2.1/\f=a.1.2.2.2.2.1/\g=a.1.2.2.2.2.2/\h=a.2
def q44(a:(Int×B8×M S.Sg×Int×B8×M S.Sg×O)×Int)(b:Int)(c:B8)(d:M S.Sg)(e:Int)(f:B8)(g:M S.Sg)(h:O)(i:Int):Prop:=b=a.1.1/\c=a.1.2.1/\d=a.1.2.2.1/\e=a.1.2.2.2.1/\f=a.1.2.2.2.2.1/\g=a.1.2.2.2.2.2.1/\h=a.1.2.2.2.2.2.2/\i=a.2
def aRT(a:S.H8):=a.2.2.2.2.2.2.2
def aRU(a:S.H8):=a.2.2.2.2.2.2.1
def q45(a:S.H8)(b c d e f g h i:Int):Prop:=b=a.1/\c=a.2.1/\d=a.2.2.1/\e=a.2.2.2.1/\f=a.2.2.2.2.1/\g=a.2.2.2.2.2.1/\h=aRU a/\i=aRT a
def q46(a:Int×Int×Int×Int)(b c d e:Int):Prop:=b=a.1/\c=a.2.1/\d=a.2.2.1/\e=a.2.2.2
def aTn(a b:S.H8)(c:Prop):Prop:=a.1=b.1/\a.2.1=b.2.1/\a.2.2.1=b.2.2.1/\a.2.2.2.1=b.2.2.2.1/\c
def q53(a b:S.H8)(c:Prop):Prop:=aTn a b (a.2.2.2.2.1=b.2.2.2.2.1/\a.2.2.2.2.2.1=b.2.2.2.2.2.1/\aRU a=aRU b/\aRT a=aRT b/\c)
def q54(a b:S.H8):Prop:=aTn a b (a.2.2.2.2.1=b.2.2.2.2.1/\a.2.2.2.2.2.1=b.2.2.2.2.2.1/\aRU a=aRU b/\aRT a=aRT b)
def q55(a:S.Pf×Int)(b:Int)(c d e:B8)(f:O)(g:B8)(h:Int):Prop:=b=a.1.1/\c=a.1.2.1/\d=a.1.2.2.1/\e=a.1.2.2.2.1/\f=a.1.2.2.2.2.1/\g=a.1.2.2.2.2.2/\h=a.2
def q66(a:Nat):Prop:=a<=140737488355328
def oD(a b:Int):=Bool.not (decide (a=b))
def q71(a:Bool)(b c:Prop):Prop:=(a->b)/\(a=false->c)
def ct(a b:Bool):=bif a then true else b
def oh(a:O):Int:=a.length
def il(a b c:Int):Prop:=a<=b/\b<c
def q78(a:Int):Prop:=-9223372036854775808<=a/\a<=9223372036854775807
def jM(a:Bool)(b c d:Prop):Prop:=q71 a b (c/\d)
def q81(a b:Bool):=bif a then b else false
def bG(a:B8):Prop:=q66 a.length
def q85(a:Prop):Prop:=True/\a
def fU(a:Int):=a%4294967296
def de(a b c:Nat):Prop:=S.af a b<S.af a c
def q91(a:B8):Int:=a.length
def q96(a:U):Int:=a.length
def EK(a:O)(b:Nat):=getD a b []
def ot(a:Bool)(b c:Prop)(d:Bool)(e f:Prop):Prop:=jM a b c (jM d b e f)
def yb(a:O)(b:Int):=EK a (toNat b)
def dg(a:Bool)(b:Prop)(c:Int)(d:Prop):Prop:=jM a b (q78 c) d
def ti(a:Bool)(b:Prop):Prop:=q71 a b True
def fL(a:Int):=UInt8.ofNat (toNat a)
def at7(a:B8):Prop:=a.length<=35184372088832
def anS(a b c:Int)(d e:Prop):Prop:=q78 a/\il b a c/\d/\e
def awY(a b:Int):=a^toNat b
def Lf(a:Bool)(b c d e:Prop):Prop:=jM a b c (d/\e)
def Jn(a b:Int)(c:Bool):=ct (decide (a<b)) c
def ajJ(a:Int)(b:Prop):Prop:=q78 (a+1)/\b
def anG:=Vg.pV UInt8
def aMG(a b:Int)(c:Bool):=q81 (decide (a<=b)) c
def an5(a:Bool):Prop:=(a->True)/\(a=false->True)
def aj8(a b:Prop):Prop:=q85 (a/\b)
def anF(a:Bool)(b:Prop)(c:Int)(d:Prop):Prop:=dg a b (c+1) d
def nC(a:Bool)(b:Prop):Prop:=q71 a True b
def xO(a b:Bool):=ct a (Bool.not b)
def aHz(a:Nat):Prop:=a<=5864062014805
def aPv(a:Int):=a%18446744073709551616
def aST(a:Int):=140737488355328/a
def arR(a b:Prop):Prop:=aj8 a (a/\b)
def uf(a:S.Cl):Prop:=ñ a [] [] false
def nD(a:M (B8×U)):Int:=a.length
def ME(a:U×Int)(b:Int):Prop:=[]=a.1/\b=a.2
def Ri(a:Bool)(b c:B8):=q81 a (decide (b=c))
def anI(a:Int)(b:Nat)(c d:Prop)(e f:Nat):Prop:=(a=b/\c)/\d/\S.af e b<f
def xP(a:UInt8):=(S.dF (Vg.pV B8) (Vg.pV (Prod Int (Prod Int (M (Prod B8 U))))) [104,a,121]).1
def aua(a b:B8):Prop:=q66 (a.length+b.length)
def aMJ(a b c:Int):=Vg.e9 (Vg.e9 a b) c
def FE(a:Nat):Prop:=a<=3518437208883
def aFM(a:B8×Int)(b:Int):Prop:=[]=a.1/\b=a.2
def tm(a b c d:Int):Prop:=a<=b/\b<=c/\c<=d
def gJ:Prop:=true=true
def Dm(a:Bool)(b:Int)(c:U):=bif a then drop (toNat b) c else c
def anE(a b:Nat)(c d:Prop)(e:Nat):Prop:=((a:Int)+1=b/\c)/\d/\de e b a
def ku(a b c:Int):=aMG a b (decide (b<=c))
def aPz(a:Bool)(b c:Int):=ct a (decide (b<c))
def aI5(a b:B8):=Bool.not (decide (a=b))
def ug(a:UInt8):=(S.bS (xP a).1 (xP a).2).1
def Rj(a:B8)(b:Prop):Prop:=S.small a/\b
def FF(a b:Nat)(c:Prop)(d:Nat):Prop:=anE a b c (S.cC b d) d
def MH(a:Int):=Bool.not (decide (a=a))
def ant(a:B8)(b:S.Wp):=a++S.bytesOf b
def aLH(a b:Int):=S.rotl a (-b)
def US(a:Int):=fL (a%256)
def aug(a:B8)(b:Prop):Prop:=S.az a/\b
def Dp(a b:Int):Prop:=S.ux a (-b)
def Jp(a:M Vg.CF):Prop:=(Vg.aE.first a).1
def aMK(a b c:Int)(d:Prop):Prop:=q78 a/\il b a c/\d
def aQ8(a:B8):Prop:=a.length<=1099511627776
def aF4(a:U):=Bool.not (S.aV a)
def aLI(a b c:Bool):=ct a (ct b c)
def oZ(a b c:Int):=Jn a b (decide (c<=a))
def aLW(a:M U)(b:Nat):=getD a b []
def aFx(a:Prop)(b:Bool)(c d e:Int)(f g h:Prop):Prop:=a->q71 b (il c d e/\f/\g) h
def aQF(a b:Int):Prop:=toNat a<toNat b
def aFy(a:Bool)(b c:Prop):Prop:=q85 (q71 a b c)
def MJ(a:Prop)(b:Bool)(c d e:Int)(f g:Prop):Prop:=a->q71 b (il c d e/\f) g
def ajD(a:Int):=oD a 0
def aub(a b:Nat)(c:Prop)(d:Nat):Prop:=(a:Int)+1=b/\c/\de d b a
def aML(a b:Prop):Prop:=(a->False)/\b
def aPM:=q96 S.sF
def ô(a b c:Int)(d:Prop):Prop:=q78 a/\(b<=a/\a<=c)/\d
def aFA(a:M (B8×U))(b:Prop):Prop:=S.aW a/\b
def mZ(a b c:Int):=Jn a b (decide (c<a))
def aHA(a b:O):Prop:=a.length+b.length<=8796093022208
def aHJ(a b:U):Prop:=a.length+b.length<=17592186044416
def aoh(a:M (B8×U))(b:Int):=getD a (toNat b) ([],[])
def aqJ(a:Int)(b:Int×Int)(c:Int):Prop:=a=b.1/\c=b.2
def aIj(a:Int×Int)(b:Int):Prop:=aqJ 65533 a b
def aSU(a b c d:Int)(e:Prop):Prop:=(a<=b/\b<=c)/\(a<=b/\b<=d)/\e
def aaT(a:Int):=decide (a=0)
def aSV(a:B8):Prop:=a.length<1099511627776
def Jr(a:Bool)(b:Int)(c:Bool)(d e:Int):=bif a then b else bif c then d else e
def aPN(a:M Vg.CF):=(Vg.aE.first a).2.2
def aQ9(a b:Bool)(c:Prop):Prop:=nC a (q85 (nC b (q85 c)))
def aRi:Prop:=[]=S.jK
def aPO(a:Bool)(b:B8):=bif a then b else []
def aMN(a b:Bool)(c d:Prop):Prop:=jM a (false=b) c d
def aL2(a:Int)(b:B8):=decide (a<q91 b)
def aSW(a:Int)(b:U):=a::a::a::a::a::a::a::a::a::a::a::a::a::a::a::a::b
def UU(a:B8)(b:Nat):Prop:=q66 (a.length+b)
def aUn(a b:B8):=Op.bytesLess a b||decide (a=b)
def aRV(a b:Int)(c:Prop):Prop:=a=a/\b=b/\c
def aRW(a:S.Hd×Int)(b c:Int):Prop:=b=a.1.1/\[]=a.1.2.1/\[]=a.1.2.2/\c=a.2
def aPP(a b:Bool)(c d:Int):=q81 a (ct b (decide (c<=d)))
def anm(a b:Int)(c:Prop):Prop:=(0<=a/\a<=b)/\c
def an7(a b:Int):Prop:=0<=a/\a<=b
def aMO(a b c:Int):Prop:=(a<=a/\a<b)/\an7 c b
def anl(a:B8×B8)(b:S.Cl):=Vg.AV.bk [Vg.AV.agg [Vg.AV.sl [Vg.Ty.int IntKind.u8] a.1,Vg.AV.sl [Vg.Ty.int IntKind.u8] a.2],Vg.AV.bool b.2]
def aQG(a:Nat)(b:B8):Prop:=q66 (a+b.length)
def alf(a:M (Int×Int×M (B8×U)))(b c:Int):=getD a (toNat b) (c,c,[])
def aSX(a b c d e f g h:Int)(i:Prop):Prop:=il a b c/\il a d c/\il a e c/\il a f c/\il a g c/\il a h c/\i
def Jw(a:Int)(b:Prop):Prop:=S.jx a/\b
def aPQ(a:Bool)(b c d:Int):Prop:=Lf a True (b<=b/\b<c) (b<=b) (b<d)
def aRj(a:Int)(b:UInt8):=replicate (toNat a) b
def aRl(a:Int):Prop:=a=a/\S.jK=S.jK
def aRm(a b c:Int):Prop:=a<=b/\b<=b/\b<=aST c
def aRn(a b:B8):Prop:=Rj a (S.sum a=b)
def anu(a b:Int):=a/awY 2 b
def a0E(a:Int)(b:Nat)(c:Int)(d:M (Int×B8))(e:Int)(f g:Nat):Prop:=anI (a+1) b (c=S.c9 d b/\e=S.nW d b) (S.ja d b) f g
def aQH(a:Int):Int:=UInt8.toNat (S.more a)
def aQI(a:Int):=Bool.not (S.cA a)
def aSY(a:M Vg.CF):=(Vg.aE.first a).2.1
def aPR(a:Nat)(b:Prop)(c:Nat):Prop:=((0:Int)=a/\b)/\a<=c
def aSZ(a b c:Bool):=bif a then ct b c else c
def aFN(a:B8):=oD (q91 a) 32
def aWk(a b c d:Int):=fU (a+aMJ (Vg.aT b c) (Vg.aT b d) (Vg.aT c d))
def aUo(a:Int):=getD S.sF (toNat a) a
def aS0(a:M Vg.CF):Prop:=Nat.succ (Vg.aE.len a)<=17592186044416
def rj:=(ug 97).2
def aUp(a:UInt8):=(S.rF (ug a).1 rj S.jK).1
def aS1(a:O)(b:UInt8)(c:Nat)(d:B8):Prop:=S.oS a/\S.gQ b a=S.bB c d
def ank(a:B8)(b:Int):Int:=UInt8.toNat (getD a (toNat b) 0)
def alC(a:Int):=decide (0<a)
def aS2(a:Bool)(b c d e f g h i:Int):=(bif a then 1779033703 else b,bif a then 3144134277 else c,bif a then 1013904242 else d,bif a then 2773480762 else e,bif a then 1359893119 else f,bif a then 2600822924 else g,bif a then 528734635 else h,bif a then 1541459225 else i)
def aUq(a:M (Int×Int×B8)):Prop:=length S.Ë+a.length<=4398046511104
def aUr(a b:Int):=fL (Vg.cv a (b%256))
def anL(a:U)(b:Int):=getD a (toNat b) 0
def aRX(a:Int):=decide (a<128)
def auG:Prop:=(0:Int)=0
def aP8:=(ug 97).1
def awZ(a:Int):Prop:=(0:Int)<=0/\0<a
def aMU(a:Int):=decide (64<a)
def aFB(a:Nat)(b:Prop)(c:Nat):Prop:=((0:Int)=a/\b)/\S.cC a c
def aTp(a b c:Int):=bif q81 (aaT a) (oD (S.BK S.kE b).1 (-c)) then c else a
def aL4:Int:=((64:Nat):Int)
def aMV:Int×Int×Int×Int×Int×Int×Int×Int:=(1779033703,3144134277,1013904242,2773480762,1359893119,2600822924,528734635,1541459225)
def aou(a:U)(b:Nat):=getD a b 0
def anv(a:U):=getD a (toNat 0) 0
def aFC:Int:=((8:Nat):Int)
def aMW(a:B8×Int×Int)(b:Int):Prop:=[]=a.1/\aqJ 0 a.2 b
def aP9(a:Int):=decide (a=1)
def aut(a:Int):=decide (0<=a)
def aQa:Int:=((1:Nat):Int)
def aTq:=S.fJ (S.fk aP8 rj).1 S.jK (aUp 97)
def A5(a:B8)(b c:Int)(d:Nat):=S.aF a (S.iw a b c d).1.1 (S.iw a b c d).1.2
def jN(a:B8)(b c:Int):=S.lI a (S.ag a b c).1.2.1 (S.ag a b c).1.2.2
def abe(a:B8)(b c:Int):=S.aur a (jN a b c).1.1 (jN a b c).1.2
def G3(a:M (Int×Int×M (B8×U)))(b:O)(c:M (M (Int×B8×B8×B8×O×B8)))(d:Nat)(e:Nat×Nat):=S.fv (getD a (toNat d) (0,0,[])).2.2 (EK b (toNat e.1)) (getD (getD c (toNat d) []) (toNat e.1) (0,[],[],[],[],[]))
def auu(a b:O):Int:=length (S.aFO (oh a) (oh b))
def abg(a b:O)(c:Nat):=toNat (auu a b-1-c)
def arP(a b:O)(c:Nat):=getD (S.aFO (oh a) (oh b)) (abg a b c) (0,0,0,0,false)
def abf(a b:O)(c:Nat):=drop (toNat (arP a b c).1) (take (toNat ((arP a b c).1+(arP a b c).2.1)) (S.leaves a))
def abh(a b:O):=S.aFP (oh a) (oh b)
def mL(a b c:O):=bif alC (abh a b) then drop (toNat 1) c else c
def A6(a b:O)(c:Nat):=getD (S.aFO (oh a) (oh b)) (toNat c) (0,0,0,0,false)
def G4(a b:O)(c:Nat):=(A6 a b c).1+(A6 a b c).2.2.2.1
def aL5(a b:O)(c:Nat):=drop (toNat (arP a b c).1) (take (toNat ((arP a b c).1+(arP a b c).2.2.1)) (S.leaves b))
def abi(a b c:O):=S.len (S.ccP a b c)
def A7(a b:O)(c:Nat):=S.auw (S.ajL a (A6 a b c).1 (G4 a b c)) (S.ajL b (A6 a b c).1 (G4 a b c))
def Dy(a b:O):=S.auw (S.ajL a (abh a b) (oh a)) (S.ajL b (abh a b) (oh a))
def A8(a b c:O)(d:Nat):=Vg.aE.put (S.an3 a b c d) (abg a b d) True (anl S.ix.1 S.ix)
def Ld(a:O×M Bool×O×Int):=S.split (oh a.2.2.1)
def G5(a:O)(b:Nat):=toNat (oh a-1-b)
def Xt(a:B8)(b:Int)(c d:O)(e:O×M Bool×O×Int)(f:Nat):=bif getD e.2.1 (G5 d f) false then yb d f else S.cL (S.leaf a) b (S.len c) d f
def RG(a:B8)(b:Int)(c d:O)(e:O×M Bool×O×Int)(f:Nat):=bif getD e.2.1 (G5 d f) false then S.cL (S.leaf a) b (S.len c) d f else yb d f
def RH(a:B8)(b:Int)(c d:O)(e:Nat):=Vg.aE.first (Vg.aE.put (S.rG c b a d e) (toNat (oh d)) (S.iy (S.bB 0 a) (S.bB 0 (yb c b))) (anl (S.bt (S.bB 0 a) (S.bB 0 (yb c b))).1 (S.bt (S.bB 0 a) (S.bB 0 (yb c b)))))
def wP(a:M (Int×Int×Int×Int×Bool)×Int×Int×Int):=S.split a.2.2.2
def Xv(a:M (Int×Int×Int×Int×Bool)×Int×Int×Int):=decide (wP a<a.2.2.1)
def Xw(a:O):=toNat (S.split (oh a))
def tT(a:O):=S.kI (take (Xw a) a)++S.kI (drop (Xw a) a)
def Le(a:O):=S.split (oh a)
def abj(a:O):=toNat (Le a)
def G6(a b:O):=S.bt (S.wE a) (S.wE b)
def aGa(a b:O):=S.akf (S.dpI a (Le a)) (S.dpI b (Le a))
def aGc(a b:O):=S.akf (S.tkI a (Le a)) (S.tkI b (Le a))
def A9(a:B8):=(S.Ě a).1.2.2.2.2
def aSs(a:B8):=aaT (S.J7 (S.Ě a).1.1 (S.Ě a).1.2.2.2.1 (S.Ě a).1.2.1 (A9 a).1 (A9 a).2.2)
def aaS(a:B8):=S.qV (S.Ě a).1.2.2.2.1 (A9 a).1 (A9 a).2.1
def Lg(a b:B8):=S.EH (S.Ě a).1.1 (S.Ě a).1.2.1 (S.Ě a).1.2.2.1 b
def aTr(a b:B8):Int:=bif q81 (Lg a b) (q81 (aSs a) (ct (aaT (aaS a).2) false)) then 0 else 6
def aDJ(a:B8):=(S.aI a).1.2.2.1
def tU(a:B8):=(S.aI a).1.2.2.2
def aIo(a:B8):=(S.aI a).1.2.1
def aIp(a:B8)(b:M (Int×B8))(c:B8)(d:Nat):=S.conds 36 3 c (S.aI a).1.1 (aIo a) (aDJ a) (tU a) (S.al b) d
def aIm(a:B8)(b:M (Int×B8))(c:B8)(d:Nat):=Vg.aE.run (aIp a b c d) (Vg.Z.g 36 3 (Vg.aE.L9 (toNat (oh (S.al b)))))
def abk(a:B8)(b:M (Int×B8))(c:B8)(d:Nat×Nat):=S.ra 36 3 c (S.aI a).1.1 (aIo a) (aDJ a) (tU a) (S.al b) d.1 d.2
def aIn(a:B8)(b:Nat):=getD (aDJ a) (toNat b) (0,0,0,[])
def Ba(a:M (M (Int×B8×B8×B8×O×B8)))(b c:Int):=getD (getD a (toNat b) []) (toNat c) (0,[],[],[],[],[])
def lK(a:M (M (Int×B8×B8×B8×O×B8)))(b:Int)(c:B8)(d e:Int)(f:B8):=S.jr c b f ((Ba a d e).1,(Ba a d e).2.1,(Ba a d e).2.2.1,(Ba a d e).2.2.2.1,(Ba a d e).2.2.2.2.1,(Ba a d e).2.2.2.2.2)
def Dz(a:M (M (Int×B8×B8×B8×O×B8)))(b c:Int):=getD (getD a (toNat b) []) (toNat c) (0,[],[],[],[],[])
def G7(a:M (M (Int×B8×B8×B8×O×B8)))(b:Int)(c:B8)(d e:Int)(f:B8):=S.jr c b f ((Dz a d e).1,(Dz a d e).2.1,(Dz a d e).2.2.1,(Dz a d e).2.2.2.1,(Dz a d e).2.2.2.2.1,(Dz a d e).2.2.2.2.2)
def DA(a:B8):=(S.bx a).1.2
def Bb(a:B8):=(DA a).2.2.2
def abl(a:B8)(b:Int)(c:B8):Int:=bif q81 (S.EH (S.bx a).1.1 (DA a).1 (DA a).2.1 c) (q81 (decide ((DA a).2.2.1=b)) (ct (S.Ky (S.bx a).1.1 (DA a).1 (Bb a).1 (Bb a).2 b) false)) then 0 else 6
def abn(a:B8)(b:Int)(c:Nat):=Vg.aT (ank a (b+c)) 127*awY 2 (7*c)
def RJ(a:B8)(b:Int):=(S.aQ a b).2.1+(S.aQ a b).1
def G8(a:O):=drop (toNat 1) a
def Li(a:M (B8×U)):=a.length
def Lh(a:M (B8×U))(b:Nat):=[S.dw (bif decide ((b:Int)<Li a) then aPO (alC b) (aoh a (b-1)).1 else aPO (alC b) (aoh a (b-1)).1) (bif decide ((b:Int)<Li a) then(aoh a b).1 else aPO (alC b) []) (S.vY (bif alC b then(aoh a (b-1)).2 else []))]
def abp(a:B8):=S.ao (S.ao a 0 0 64).1.1 (S.ao a 0 0 64).1.2.1 (S.ao a 0 0 64).1.2.2 64
def aL6(a:B8):=S.aF (abp a).1.1 (abp a).1.2.1 (abp a).1.2.2
def DB(a:M U)(b:M (Int×B8))(c:O)(d:Nat):=S.jU (S.od c a) b d
def Xx(a:M (Int×B8))(b:Nat):=getD a (toNat b) (0,[])
def si(a:M U):=a.length
def abr(a:M U):=toNat (si a-1-1)
def wQ(a:M U):=[S.AK (aLW a (abr a)) (aLW a (toNat (si a-1)))]
def tV(a:M U):=a.length
def Xy(a:M U):=toNat (tV a-1-1)
def abt(a:M U):=[S.I8 (aLW a (Xy a)) (aLW a (toNat (tV a-1)))]
def sk(a:M U):=a.length
def yA(a:M U):=toNat (sk a-1-1)
def wR(a:M U):=[S.qX (aLW a (yA a)) (aLW a (toNat (sk a-1)))]
def aL7(a:B8):=(S.Ě a).1
def RL(a:B8):=(aL7 a).2.2.2
def tW(a:B8)(b:O)(c:M (Int×Int×M (B8×U))):=S.sI (RL a).1 (RL a).2.1 (RL a).2.2.1 b c
def DC(a:B8)(b:O)(c:M (Int×Int×M (B8×U)))(d:O)(e:M (Int×Int×M (B8×U))):=S.at6 (aL7 a).1 (aL7 a).2.1 (aL7 a).2.2.1 b c (RL a).1 (RL a).2.1 (RL a).2.2.1 d e (RL a).2.2.2
def aZp(a:B8)(b:O)(c:M (Int×Int×M (B8×U))):=S.sI (aL7 a).1 (aL7 a).2.1 (aL7 a).2.2.1 b c
def RN(a:B8):=(S.aI a).1
def Lj(a:B8)(b:M (Int×B8))(c:O)(d:M (Int×Int×M (B8×U))):=S.lf (RN a).1 (RN a).2.1 (RN a).2.2.1 c d (S.al b) (RN a).2.2.2
def Bc(a:B8)(b:O)(c:M (Int×Int×M (B8×U))):=S.sI (RN a).1 (RN a).2.1 (RN a).2.2.1 b c
def Xz(a:B8):=(S.bx a).1.2.2.2.2.1
def wS(a:B8)(b:O)(c:M (Int×Int×M (B8×U))):=S.sI (S.bx a).1.1 (S.bx a).1.2.1 (S.bx a).1.2.2.1 b c
def RO(a:B8):=(S.bx a).1.2.2.2.2.2
def RP(a:B8)(b:Int)(c:O)(d:M (Int×Int×M (B8×U))):=S.QV (S.bx a).1.1 (S.bx a).1.2.1 (S.bx a).1.2.2.1 c d b (Xz a) (RO a)
def mi(a:B8):=S.aF a (S.ag a 0 0).1.2.1 (S.ag a 0 0).1.2.2
def abu(a:B8):=S.ag a (mi a).1.2.1 (mi a).1.2.2
def aM7(a:B8)(b:Nat):=S.wj a (S.jP a b).1.1 (S.jP a b).1.2 (S.jP a b).2.1
def aTs(a:B8)(b:Nat):=[((S.jP a b).2.1,(aM7 a b).2.2.1,(aM7 a b).2.2.2.1,(aM7 a b).2.2.2.2)]
def Ll(a:B8):=(S.iA a).1
def Lm(a:B8)(b c:Int):=S.ag a (S.ag a b c).1.2.1 (S.ag a b c).1.2.2
def Ln(a:B8)(b c:Int):=S.aF a (Lm a b c).1.2.1 (Lm a b c).1.2.2
def aFV(a:M (Int×Int×Int×B8))(b:Nat):=(getD a (toNat b) (0,0,0,[])).2
def aRo(a:Int):=Vg.aT (aPv a) 31
def aGd(a:O)(b:M (Int×Int×M (B8×U))):=S.dp (S.ak a b).1 (S.dD (S.ak a b).2) (oh (S.ak a b).1)
def aRp(a:O)(b:M (Int×Int×M (B8×U)))(c:Nat):=getD (S.ak a b).2 (toNat c) (0,0,[])
def aGg(a:O)(b:M (Int×Int×M (B8×U)))(c:Nat):=(S.tB (aRp a b c).1 (aRp a b c).2.1 (aRp a b c).2.2).1
def aGh(a:M (Int×Int×M (B8×U)))(b:Nat):=getD a (toNat b) (0,0,[])
def aFp(a:B8)(b:Nat×Int×Int×Int×U):=S.ag a b.2.1 b.2.2.1
def aQb(a:U×U×U):=aPP (alC (q96 a.2.1)) (aaT (q96 a.1)) (anv a.2.1) (anv a.1)
def aQc(a:U×U×U):=aPP (alC (q96 a.1)) (aaT (q96 a.2.1)) (anv a.1) (anv a.2.1)
def aTt(a:U×U×U):=[Jr (aQb a) (anv a.2.1) (aQc a) (anv a.1) 0]
def aQd(a:U×U×U):=aPP (alC (q96 a.2.1)) (aaT (q96 a.1)) (anv a.2.1) (anv a.1)
def aQe(a:U×U×U):=aPP (alC (q96 a.1)) (aaT (q96 a.2.1)) (anv a.1) (anv a.2.1)
def aTu(a:U×U×U):=[Jr (aQd a) (anv a.2.1) (aQe a) (anv a.1) 0]
def aQf(a:U×U×U):=aPP (alC (q96 a.1)) (aaT (q96 a.2.1)) (anv a.1) (anv a.2.1)
def aQg(a:U×U×U):=aPP (alC (q96 a.2.1)) (aaT (q96 a.1)) (anv a.2.1) (anv a.1)
def aTv(a:U×U×U):=[Jr (aQg a) (anv a.2.1) (aQf a) (anv a.1) 0]
def aRq(a:U×U):=aPP (alC aPM) (aaT (q96 a.1)) (aUo 0) (anv a.1)
def aRr(a:U×U):=aPP (alC (q96 a.1)) (aaT aPM) (anv a.1) (aUo 0)
def aSt(a:U×U):=Jr (aRq a) (aUo 0) (aRr a) (anv a.1) 0
def aTw(a:M (B8×U))(b:B8):=[((S.wv a b).1.1,(S.wv a b).1.2.1,(S.wv a b).1.2.2.1,(S.wv a b).1.2.2.2.1,(S.wv a b).1.2.2.2.2.1,(S.wv a b).1.2.2.2.2.2)]
def aTx(a:M (B8×U))(b:B8):=[((S.wv a b).1.1,(S.wv a b).1.2.1,(S.wv a b).1.2.2.1,(S.wv a b).1.2.2.2.1,(S.wv a b).1.2.2.2.2.1,(S.wv a b).1.2.2.2.2.2)]
def aWl(a:M (Int×B8))(b:Nat):=getD a (toNat b) (0,[])
def aZq(a:M (Int×B8))(b:Nat):=aPz (aI5 (aWl a b).2 []) (S.c9 a b) 2
def aud(a:B8)(b:Nat):=aou (S.decode a) (toNat b)
def aSu(a:Int)(b:B8)(c:Int):=drop (toNat c) (take (toNat a) b)
def aMb(a:B8)(b:Nat×Nat):=S.I4 a b.2 b.1
def aMc(a:B8)(b:Nat×Nat):=S.jc a (aMb a b).1.1 (aMb a b).1.2
def aTy(a:B8)(b:Nat×Nat):=[((aMc a b).2.1,(aMc a b).2.2.1,(aMc a b).2.2.2.1,(aMc a b).2.2.2.2.1,(aMc a b).2.2.2.2.2.1,(aMc a b).2.2.2.2.2.2)]
def aSv(a:B8):=S.ag a (S.ajM a 1 0).1.1 (S.ajM a 1 0).1.2
def aSw(a:B8):=S.ao a (aSv a).1.2.1 (aSv a).1.2.2 2000
def aQh(a:B8):=S.aur a (aSw a).1.2.1 (aSw a).1.2.2
def aQi(a:B8):=S.ajM a (S.ajM a 1 0).1.1 (S.ajM a 1 0).1.2
def aQj(a:B8):=S.aur a (aQi a).1.1 (aQi a).1.2
def aMh(a:M (M (Int×B8×B8×B8×O×B8)))(b:Nat)(c:Nat×Nat):=getD (getD a (toNat b) []) (toNat c.1) (0,[],[],[],[],[])
def aQk(a:M (M (Int×B8×B8×B8×O×B8)))(b:Nat):Int:=length (getD a (toNat b) [])
def aTz(a:M (M (Int×B8×B8×B8×O×B8)))(b:Nat)(c:Nat×Nat):=S.aof ((aMh a b c).1,(aMh a b c).2.1,(aMh a b c).2.2.1,(aMh a b c).2.2.2.1,(aMh a b c).2.2.2.2.1,(aMh a b c).2.2.2.2.2)
def aTA(a:Int)(b:B8)(c:M (Int×Int×Int×B8))(d:Int)(e:B8)(f:O):=(ant (ant (ant (ant [2] (S.kL a b c)) (S.jL d)) (S.gn e 2000)) (S.jb f),S.oA (S.oA (S.oA (S.oA false (S.kL a b c)) (S.jL d)) (S.gn e 2000)) (S.jb f))
def aFr(a:B8):=S.tail a (S.pW a)
def aMk(a:B8)(b:Nat):=S.fb (S.proc S.H0 (aFr a) b)
def aGi(a:B8)(b:Nat):=length (aMk a b)
def aTB(a:B8)(b:Nat):=take (toNat (((64*b:Nat):Int)+64)-toNat ((64*b:Nat):Int)) (drop (toNat ((64*b:Nat):Int)) (aFr a))
def aTC(a:B8)(b c:Nat):=[US (aou (aMk a b) (toNat c)/16777216),US (aou (aMk a b) (toNat c)/65536%256),US (aou (aMk a b) (toNat c)/256%256),US (aou (aMk a b) (toNat c)%256)]
def aQl(a:B8):=S.cb S.H0 (aFr a)
def aFE(a:B8):=S.sched a 64
def anO(a:U)(b:B8)(c:Nat):=S.gz (aFE b) (S.tw a) c
def aGj(a:U)(b:B8)(c:Nat):=(anO a b c).2.2.2.2.2
def aTD(a:U)(b:B8)(c:Nat):=fU (fU (fU (fU ((aGj a b c).2.2+aMJ (S.right (anO a b c).2.2.2.2.1 6) (S.right (anO a b c).2.2.2.2.1 11) (S.right (anO a b c).2.2.2.2.1 25))+Vg.e9 (Vg.aT (anO a b c).2.2.2.2.1 (aGj a b c).1) (Vg.aT (Vg.e9 4294967295 (anO a b c).2.2.2.2.1) (aGj a b c).2.1))+getD S.Bo (toNat c) 0)+getD (aFE b) (toNat c) 0)
def aTE(a:B8)(b:Nat):=[fU (fU (fU (fU (ank a ((4*b:Nat):Int)*16777216)+fU (ank a (((4*b:Nat):Int)+1)*65536))+fU (ank a (((4*b:Nat):Int)+2)*256))+ank a (((4*b:Nat):Int)+3))]
def aNn(a:Nat):=toNat (a-2)
def aNv(a:Nat):=toNat (a-15)
def aTF(a:B8)(b:Nat):=[fU (fU (fU (getD (S.sched a b) (toNat (b-16)) 0+aMJ (S.right (aou (S.sched a b) (aNv b)) 7) (S.right (aou (S.sched a b) (aNv b)) 18) (anu (aou (S.sched a b) (aNv b)) 3))+getD (S.sched a b) (toNat (b-7)) 0)+aMJ (S.right (aou (S.sched a b) (aNn b)) 17) (S.right (aou (S.sched a b) (aNn b)) 19) (anu (aou (S.sched a b) (aNn b)) 10))]
def arV(a:B8)(b:Nat):=length (S.sched a b)
def aHb(a:B8):=a.length
def aQm(a:B8)(b:Nat×U)(c:Nat×Nat):=S.cg (drop (toNat b.1) a) ((c.1+1:Nat):Int)
def aTG(a:B8)(b:Nat×U)(c:Nat×Nat):=Ri (S.pe (aQm a b c)) (S.enc (aQm a b c)) (drop (toNat b.1) (take (toNat (S.qL (b.1+((c.1+1:Nat):Int)) (aHb a))) a))
def aNK(a:B8)(b:Nat×Nat):=S.iq (drop b.2 a) b.1
def aTH(a:Int):=q81 (decide (57343<a)) (decide (a<1114112))
def aHi(a:O×O):=length a.1
def aMl(a:O×O):=EK a.1 (toNat (S.eo a.1))
def aSx(a:U)(b:Nat×B8):=length (S.enc (S.aX (anL a b.1)))
def aNL(a:B8):=length (S.decode a)
def aSy(a:B8)(b:Nat×O)(c:Nat×Nat):=take (toNat c.1-toNat b.1) (drop (toNat b.1) (S.decode a))
def aRs(a:O):=take (toNat (S.split (oh a))) a
def aRt(a:O):=drop (toNat (S.split (oh a))) a
def aQn(a:U)(b:Nat):=anL a b-anL a (b-1)
def aFF(a:U):=a.length
def aFs(a:M (B8×U)):=a.length
def aTI(a:M (B8×U))(b:Nat):=bif aut (b-1) then S.kl (aoh a (b-1)).2 else S.kl (Vg.pV Int)
def aSz(a:M (B8×U))(b:Nat):=bif decide ((b:Int)-1+1<aFs a) then aTI a b else aTI a b
def aSA(a:M (B8×U))(b:Nat):=bif decide ((b:Int)-1+1<aFs a) then aPO (aut (b-1)) (aoh a (b-1)).1 else aPO (aut (b-1)) (aoh a (b-1)).1
def aSB(a:M (B8×U))(b:Nat):=bif decide ((b:Int)-1+1<aFs a) then(aoh a (b-1+1)).1 else aPO (aut (b-1)) []
def aQo(a:O)(b:Int)(c:Nat):=length (S.sorted (S.b7 a b c))
def aNN(a:O)(b:Int)(c d:Nat):=EK (S.sorted (S.b7 a b c)) (toNat d)
def aQp(a:O)(b:M (Int×Int×M (B8×U)))(c:Nat):=getD (S.ak a b).2 (toNat c) (0,0,[])
def aHr(a:O)(b:M (Int×Int×M (B8×U)))(c:Nat):=S.SO (aQp a b c).1 (aQp a b c).2.1 (aQp a b c).2.2
def aFt(a:M (Int×Int×Int×B8))(b:Nat):=(getD a (toNat b) (0,0,0,[])).2
def aov(a:M (Int×Int×Int×B8))(b:Nat):=getD a (toNat b) (0,0,0,[])
def aNS(a:B8)(b:Int)(c:B8):=aPz (Bool.not (S.qI c b)) (1099511627776-b) a.length
def aMn(a:B8)(b:Int)(c:B8):=bif aNS a b c then [] else c
def aMo(a:Int)(b:B8):=Bool.not (S.qI b a)
def aTJ(a:Int)(b:B8)(c:Nat):=[US (anu (aPv (aPv (bif aMo a b then 0 else a)*8)) (56-8*c))]
def aHu(a b c d e f g h i:Int)(j:B8)(k:Nat):=S.cb (aS2 (aMo a j) b c d e f g h i) (S.pA j a k)
def aRA(a b c d e f g h i:Int)(j:B8)(k l:Nat):=anL [(aHu a b c d e f g h i j k).1,(aHu a b c d e f g h i j k).2.1,(aHu a b c d e f g h i j k).2.2.1,(aHu a b c d e f g h i j k).2.2.2.1,(aHu a b c d e f g h i j k).2.2.2.2.1,(aHu a b c d e f g h i j k).2.2.2.2.2.1,(aHu a b c d e f g h i j k).2.2.2.2.2.2.1,(aHu a b c d e f g h i j k).2.2.2.2.2.2.2] l
def aTK(a b c d e f g h i:Int)(j:B8)(k l:Nat):=[US (anu (aRA a b c d e f g h i j k l) 24),US (anu (aRA a b c d e f g h i j k l) 16),US (anu (aRA a b c d e f g h i j k l) 8),US (aRA a b c d e f g h i j k l)]
def aRD(a:B8):=(S.cb aMV a).2.2.2.2
def aTL(a:B8):=((S.cb aMV a).1,(S.cb aMV a).2.1,(S.cb aMV a).2.2.1,(S.cb aMV a).2.2.2.1,(aRD a).1,(aRD a).2.1,(aRD a).2.2.1,(aRD a).2.2.2)
def aQq(a:B8)(b:Nat):=aou (S.bf a b) (0+toNat (b-15)*1)
def ajR(a:B8)(b c d e f g h i:Int)(j:Nat):=S.gz (S.sched a 64) (b,c,d,e,f,g,h,i) j
def aQr(a:B8)(b:Nat):=aou (S.bf a b) (0+toNat (b-2)*1)
def aNT(a:B8)(b:Nat):=length (S.bf a b)
def aTM(a:B8)(b c d e f g h i:Int)(j k:Nat):=fU (fU (fU (fU ((ajR a b c d e f g h i k).2.2.2.2.2.2.2+aMJ (aLH (ajR a b c d e f g h i k).2.2.2.2.1 6) (aLH (ajR a b c d e f g h i k).2.2.2.2.1 11) (aLH (ajR a b c d e f g h i k).2.2.2.2.1 25))+Vg.e9 (Vg.aT (ajR a b c d e f g h i k).2.2.2.2.1 (ajR a b c d e f g h i k).2.2.2.2.2.1) (Vg.aT (4294967296-1-(ajR a b c d e f g h i k).2.2.2.2.1) (ajR a b c d e f g h i k).2.2.2.2.2.2.1))+getD S.Bo (toNat k) 0)+getD (S.bf a j) (0+toNat k*1) 0)
def aTN(a:B8)(b c d e f g h i:Int)(j:Nat):=((S.proc (b,c,d,e,f,g,h,i) a j).1,(S.proc (b,c,d,e,f,g,h,i) a j).2.1,(S.proc (b,c,d,e,f,g,h,i) a j).2.2.1,(S.proc (b,c,d,e,f,g,h,i) a j).2.2.2.1,(S.proc (b,c,d,e,f,g,h,i) a j).2.2.2.2.1,(S.proc (b,c,d,e,f,g,h,i) a j).2.2.2.2.2.1,(S.proc (b,c,d,e,f,g,h,i) a j).2.2.2.2.2.2.1,(S.proc (b,c,d,e,f,g,h,i) a j).2.2.2.2.2.2.2)
def aMp(a:Int×Int):=anu (aPv (a.1+a.2)) 1
def aFu(a:O):=a.length
def avb(a:Nat):=toNat a
def aSC(a:Nat)(b:Nat×Nat×O×Nat):=aI5 (EK b.2.2.1 (avb a+toNat b.2.1)) (EK b.2.2.1 (avb a+toNat (b.2.1-1)))
def aFG(a:Nat×Nat×O×Nat):=length a.2.2.1
def aFX(a:Nat×Nat×O×Nat):=toNat a.1
def aTO(a:Nat×Nat×O×Nat):=take (aFX a) a.2.2.1++replicate (aFG a-aFX a) anG++drop (aFX a+(aFG a-aFX a)) a.2.2.1
def aFv(a:O):=a.length
def avD(a:Nat):=toNat a
def aFY(a:Nat×Nat×O×Nat):=toNat a.1
def aFH(a:Nat×Nat×O×Nat):=length a.2.2.1
def aTP(a:Nat×Nat×O×Nat):=take (aFY a) a.2.2.1++replicate (aFH a-aFY a) anG++drop (aFY a+(aFH a-aFY a)) a.2.2.1
def aSD(a:Nat)(b:Nat×Nat×O×Nat):=aI5 (EK b.2.2.1 (avD a+toNat b.2.1)) (EK b.2.2.1 (avD a+toNat (b.2.1-1)))
def aMq(a:M (B8×U))(b:B8):=EK (S.bn a) (toNat (S.bo a b+1))
def aRE(a:B8):=length (S.aS a)
def aQs(a:B8)(b:Nat×O×U):=aou (S.decode a) (toNat b.1)
def aRF(a:U)(b:Nat×B8):=S.im (S.aX (anL a b.1))
def aHw(a b:Int):=length (S.cq a b)
def aSE(a b:Int)(c:Nat):=getD (S.cq a b) (toNat (aHw a b-1-c)) false
def aFZ(a:O×Int×O):=S.split (oh a.1)
def aRG(a:O×Int×O):=take (toNat (aFZ a)) a.1
def aRH(a:O×Int×O):=drop (toNat (aFZ a)) a.1
def ato(a:O):=a.length
def aTQ(a:O):=List.set a (toNat (ato a-2)) (S.bz (EK a (toNat (ato a-2))) (EK a (toNat (ato a-2+1))))
def aQt(a:B8):=drop (toNat 1) (take (toNat 4) a)
def aQu(a:B8):=drop (toNat 1) (take (toNat 2) a)
def aQv(a:B8):=drop (toNat 1) (take (toNat 3) a)
theorem au {p q:Prop}(h:q)(e:p=q:=by(try delta q0 q2 q4 ñ q11 q18 q39 q40 q41 q42 q43 q44 aRT aRU q45 q46 aTn q53 q54 q55 q66 oD q71 ct oh il q78 jM q81 bG q85 fU de q91 q96 EK ot yb dg ti fL at7 anS awY Lf Jn ajJ anG aMG an5 aj8 anF nC xO aHz aPv aST arR uf nD ME Ri anI xP aua aMJ FE aFM tm gJ Dm anE ku aPz aI5 ug Rj FF MH ant aLH US aug Dp Jp aMK aQ8 aF4 aLI oZ aLW aFx aQF aFy MJ ajD aub aML aPM ô aFA mZ aHA aHJ aoh aqJ aIj aSU aaT aSV Jr aPN aQ9 aRi aPO aMN aL2 aSW UU aUn aRV aRW aPP anm an7 aMO anl aQG alf aSX Jw aPQ aRj aRl aRm aRn anu a0E aQH aQI aSY aPR aSZ aFN aWk aUo aS0 rj aUp aS1 ank alC aS2 aUq aUr anL aRX auG aP8 awZ aMU aFB aTp aL4 aMV aou anv aFC aMW aP9 aut aQa aTq A5 jN abe G3 auu abg arP abf abh mL A6 G4 aL5 abi A7 Dy A8 Ld G5 Xt RG RH wP Xv Xw tT Le abj G6 aGa aGc A9 aSs aaS Lg aTr aDJ tU aIo aIp aIm abk aIn Ba lK Dz G7 DA Bb abl abn RJ G8 Li Lh abp aL6 DB Xx si abr wQ tV Xy abt sk yA wR aL7 RL tW DC aZp RN Lj Bc Xz wS RO RP mi abu aM7 aTs Ll Lm Ln aFV aRo aGd aRp aGg aGh aFp aQb aQc aTt aQd aQe aTu aQf aQg aTv aRq aRr aSt aTw aTx aWl aZq aud aSu aMb aMc aTy aSv aSw aQh aQi aQj aMh aQk aTz aTA aFr aMk aGi aTB aTC aQl aFE anO aGj aTD aTE aNn aNv aTF arV aHb aQm aTG aNK aTH aHi aMl aSx aNL aSy aRs aRt aQn aFF aFs aTI aSz aSA aSB aQo aNN aQp aHr aFt aov aNS aMn aMo aTJ aHu aRA aTK aRD aTL aQq ajR aQr aNT aTM aTN aMp aFu avb aSC aFG aFX aTO aFv avD aFY aFH aTP aSD aMq aRE aQs aRF aHw aSE aFZ aRG aRH ato aTQ aQt aQu aQv);exact rfl):p:=e.mpr h
theorem cj6 {a A b c d e:Prop}(h:a)(H:A)(f:b)(g:c)(i:d)(j:e):a/\A/\b/\c/\d/\e:=⟨h,H,f,g,i,j⟩
theorem SU {a A b c d:Prop}(h:a)(H:A)(e:b)(f:c)(g:d):a/\A/\b/\c/\d:=⟨h,H,e,f,g⟩
end Go
