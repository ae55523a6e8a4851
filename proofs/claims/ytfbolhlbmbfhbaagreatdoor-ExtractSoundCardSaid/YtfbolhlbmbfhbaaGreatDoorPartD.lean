import Derived.Test.YtfbolhlbmbfhbaaGreatDoorPartC
import Derived.Lib.LaidTab
import Derived.Test.YtfbolhlbmbfhbaaGreatDoorProg
import Derived.WalkKit
set_option linter.unusedVariables false
set_option linter.unusedSimpArgs false
set_option linter.unusedSectionVars false
set_option linter.defProp false
namespace Go.S
variable {d:List bw}{t g b p6:B8}{p p5 docs ts:List B8}{m n p1 a e v i j:Int}{s:List Sg}{c:UInt8}{x:Int×Int×List Bool}{r:List Int}{f:List (List Int)}
theorem Æ(H:aW d)(h:aK d=true)(t:B8):
  (0<=bo d t+1/\bo d t+1<=1048576/\bo d t+1<(bn d).length/\(bo d t+1).toNat<(bn d).length)/\((bn d).getD (bo d t+1).toNat []).length<=140737488355328/\dj (bn d)/\eX (leaves (bn d))/\alx (leaves (bn d)) (bo d t+1)/\
  (bn d).getD (bo d t+1).toNat []=k9 d (bo d t+1).toNat/\oz (leaves (bn d)) (bo d t+1)=path (leaves (dW d)) (bo d t+1)/\bn d=dW d:=by
 obtain⟨f,F,u⟩:=Å (t:=t) h;have e:bn d=dW d:=by grind[bn]
 have w:=H.1;have l:(leaves (dW d)).length=d.length+1:=by grind[leaves]
 have o:=alz d f F;rw[e];refine⟨w!,?_,(kK H h).1,by grind[eX],⟨(kK H h).2,f,w!⟩,o,?_,rfl⟩;rcases wa h (k:=(bo d t+1).toNat) with q|q;grind[Ay,k9];omega;have q:cP (leaves (dW d))=true/\0<=bo d t+1/\bo d t+1<(leaves (dW d)).length:=⟨(kK H h).2.1,f,w!⟩;simp_all[oz,if_pos]
theorem aGP(H:aW d)(h:aK d=true)(t:B8):
  la d t=(bo d t+1,(bg ((bn d).getD (bo d t+1).toNat [])).1.1,(bg ((bn d).getD (bo d t+1).toNat [])).1.2.1,(bg ((bn d).getD (bo d t+1).toNat [])).1.2.2,oz (leaves (bn d)) (bo d t+1),if fE d t then jH (dN d t) else []):=by
 have q:=Æ H h t;rw[q.2.2.2.2.2.1,q.2.2.2.2.2.2.1];unfold la;congr 5
 split
 have :aV (dN d t)=true:=by
  unfold dN;rename_i h1;rw[if_pos h1];have k:=Ef h1;exact(v8 h (i:=(bo d t).toNat) w!).2
 unfold jH;rw[this];rfl;rfl
theorem apQ(H:aK d=true)(h:fE d t=true):0<=bo d t/\bo d t<d.length/\(d.getD (bo d t).toNat ([],[])).2=dN d t/\aV (dN d t)=true/\iH (dN d t)=jH (dN d t):=by
 have k:=Ef h
 have :aV (dN d t)=true:=by
  simp_all[dN,Q!,v8,bo]
 grind[jH]
abbrev bj:=Int×B8
def cM(l:M bj)(i:Nat):bj:=l.getD i (0,[])
def nW(l:M bj):Nat->Int
 |0=>0
 |k+1=>nW l k+if(cM l k).1=0 then 1 else 0
def c9(l:M bj)(k:Nat):Int:=2*nW l k-k
def wx(l:M bj)(i:Nat):Bool:=
 if(cM l i).1=0 then isTerm (cM l i).2 else(decide (1<=(cM l i).1)&&decide ((cM l i).1<=3))&&(decide ((cM l i).2=[])&&decide (2<=c9 l i))
def aZ(l:M bj):Bool:=(List.range l.length).all (wx l)&&(decide (c9 l l.length=1)&&decide (nW l l.length<=16))
def ja(l:M bj)(k:Nat):Prop:=k<=l.length/\l.length<=1099511627776/\∀i,i<k->wx l i=true
def oc(l:M bj):Bool:=l.any (λo=>decide ((200:Int)<o.2.length)) || decide ((60:Int)<l.length)
def GH(l:M bj)(k:Nat):Prop:=k<=l.length/\∀o∈l.take k,¬(200:Int)<o.2.length
def bL(l:M bj)(k:Nat):O:=((l.take k).filter λo=>decide (o.1=0)).map (·.2)
def pj(l:M bj):O:=bL l l.length
def al(l:M bj):O:=sorted (pj l)
theorem gR(l:M bj):∀k,0<=nW l k/\nW l k<=k
 |0=>by simp[nW]
 |k+1=>by have:=gR l k;grind[nW]
variable {l q:List bj}
theorem ND{k:Nat}(h:(cM l k).1=0):nW l (k+1)=nW l k+1:=by simp_all[nW,Q!]
theorem Kv{k:Nat}(h:¬(cM l k).1=0):nW l (k+1)=nW l k:=by simp_all[nW,R!]
theorem zq{k:Nat}(h:(cM l k).1=0):c9 l (k+1)=c9 l k+1:=by grind[c9,ND]
theorem uH{k:Nat}(h:¬(cM l k).1=0):c9 l (k+1)=c9 l k-1:=by grind[c9,Kv]
theorem aEz(h:small l):ja l 0:=⟨S! _,h,λi H=>by omega⟩
theorem Ç{k:Nat}(h:ja l k)(H:(k:Int)<l.length)(o:wx l k=true):ja l (k+1):=by
 refine⟨w!,h.2.1,λi u=>?_⟩;by_cases w:i=k;grind;exact h.2.2 i w!
theorem afb{k:Nat}(H:(k:Int)<l.length)(h:wx l k=false):false=aZ l:=by
 grind[List.range,wx,aZ]
theorem avR{k:Nat}(h:ja l k)(o:¬(k:Int)<l.length):(decide (c9 l k=1)&&decide (nW l k<=16))=aZ l:=by
 have e:k=l.length:=by have:=h.1;omega
 subst e;have :(List.range l.length).all (wx l)=true:=List.all_eq_true.2 λi H=>h.2.2 i (List.mem_range.1 H);grind[aZ]
theorem Qt{k:Nat}(h:(cM l k).1=0):wx l k=isTerm (cM l k).2:=by simp_all[wx,Q!]
theorem apR {l:M bj}{k:Nat}(h:¬(cM l k).1=0)(H:1<=(cM l k).1)(o:(cM l k).1<=3)(u:(cM l k).2=[])(w:2<=c9 l k):wx l k=true:=by
 simp_all[wx,R!]
theorem avS {l:M bj}{k:Nat}(h:¬(cM l k).1=0)(H:¬1<=(cM l k).1\/¬(cM l k).1<=3\/¬(cM l k).2=[]\/¬2<=c9 l k):wx l k=false:=by
 grind[wx]
theorem apS{k:Nat}(h:GH l k)(w:(k:Int)<l.length)(H:¬(200:Int)<(cM l k).2.length):GH l (k+1):=by
 refine⟨w!,?_⟩;rw[an l k (0,[]) w!];intro o u;rcases I!.1 u with q|q;exact h.2 o q;rw[s?.1 q];exact H
theorem avT{k:Nat}(H:(k:Int)<l.length)(h:(200:Int)<(cM l k).2.length):true=oc l:=by
 have :l.any (λo=>decide ((200:Int)<o.2.length))=true:=List.any_eq_true.2 ⟨_,aU l k _ (show k<l.length by omega),decide_eq_true h⟩;grind[oc]
theorem avU{k:Nat}(h:GH l k)(u:¬(k:Int)<l.length):decide ((60:Int)<l.length)=oc l:=by
 have :l.any (λo=>decide ((200:Int)<o.2.length))=false:=by
  rw[<-Bool.not_eq_true,List.any_eq_true];rintro⟨o,w,H⟩;exact h.2 o (by grind[List.take_of_length_le]) (of_decide_eq_true H)
 grind[oc]
theorem apT(h:oc l=false):l.length<=60/\∀o∈l,o.2.length<=200:=by
 grind[oc,Bool.or_eq_false_iff,of_decide_eq_false,decide,List.any_eq_true,decide_eq_true]
theorem alA(h:oc l=false):small l:=by grind[apT,small]
theorem afc{k:Nat}(H:(k:Int)<l.length)(h:(cM l k).1=0):bL l k++[(cM l k).2]=bL l (k+1):=by
 unfold bL;rw[an l k (0,[]) w!,List.filter_append,List.map_append];have :(List.filter (λo:bj=>decide (o.1=0)) [l.getD k (0,[])])=[cM l k]:=by grind[cM]
 grind
theorem apU{k:Nat}(H:(k:Int)<l.length)(h:¬(cM l k).1=0):bL l k=bL l (k+1):=by
 unfold bL;rw[an l k (0,[]) w!,List.filter_append,List.map_append];have :(List.filter (λo:bj=>decide (o.1=0)) [l.getD k (0,[])])=[]:=by grind[cM]
 grind
theorem avV{k:Nat}(h:k<=l.length)(H:¬(k:Int)<l.length):bL l k=pj l:=by
 grind[pj]
theorem apV(l:M bj):∀k,k<=l.length->((bL l k).length:Int)=nW l k
 |0,_=>by rfl
 |k+1,hk=>by
  have i:=apV l k w!;by_cases h:(cM l k).1=0;rw[<-afc w! h,ND h,J!,<-i];simp;rw[<-apU w! h,Kv h,i]
theorem WH:aZ l=true↔(∀i,i<l.length->wx l i=true)/\c9 l l.length=1/\nW l l.length<=16:=by
 simp_all[aZ,B!,V!,f?,H!]
theorem qe(h:aZ l=true):(al l).length<=16:=by
 obtain⟨_,_,H⟩:=WH.1 h;have:=bc (pj l);have e:=apV l l.length (Nat.le_refl _);grind[al,pj]
theorem È(h:aZ l=true):∀t∈al l,isTerm t=true:=by
 obtain⟨u,_,_⟩:=WH.1 h;intro t H;have:=(ir (pj l) t).1 H;simp only[pj,bL,List.mem_map,List.mem_filter,decide_eq_true_eq,List.take_length] at this;obtain⟨o,⟨k,w⟩,rfl⟩:=this;obtain⟨i,y,rfl⟩:=List.mem_iff_getElem.1 k;grind[cM,Qt]
theorem É {l:M bj}{k:Nat}(h:ja l k)(H:(k:Int)<l.length)(o:(l.getD k (0,[])).1=0)(u:isTerm (l.getD (Int.toNat (k:Int)) (0,[])).2=true):ja l (k+1):=
 Ç h H (by rw[Qt o];rwa [E?] at u)
theorem Ê {l:M bj}{k:Nat}(h:(k:Int)<l.length)(H:(l.getD k (0,[])).1=0)(o:isTerm (l.getD (Int.toNat (k:Int)) (0,[])).2=false):false=aZ l:=
 afb h (by rw[Qt H];rwa [E?] at o)
theorem I2 {l:M bj}{k:Nat}(h:ja l k)(o:(k:Int)<l.length)(u:¬(l.getD k (0,[])).1=0)(H:1<=(l.getD k (0,[])).1/\(l.getD k (0,[])).1<=3)(w:(l.getD k (0,[])).2=[]/\¬c9 l k<2):ja l (k+1):=
 Ç h o (apR u H.1 H.2 w.1 w!)
theorem Da {l:M bj}{k:Nat}(H:(k:Int)<l.length)(o:¬(l.getD k (0,[])).1=0)(h:¬(1<=(l.getD k (0,[])).1/\(l.getD k (0,[])).1<=3)\/¬(l.getD k (0,[])).2=[]\/c9 l k<2):false=aZ l:=
 afb H (avS o (by
  grind[cM]))
theorem alB {l:M bj}{k:Nat}(h:ja l k)(H:(k:Int)<l.length)(o:¬(l.getD k (0,[])).1=0)(u:¬(l.getD k (0,[])).1<0/\¬3<(l.getD k (0,[])).1/\(l.getD k (0,[])).2=[]/\¬nW l k<k-nW l k+2):ja l (k+1):=
 I2 h H o w! ⟨u.2.2.1,by grind[c9]⟩
theorem apW {l:M bj}{k:Nat}(H:(k:Int)<l.length)(o:¬(l.getD k (0,[])).1=0)(h:(l.getD k (0,[])).1<0\/3<(l.getD k (0,[])).1\/¬(l.getD k (0,[])).2=[]\/nW l k<k-nW l k+2):false=aZ l:=
 Da H o (by
  grind[c9])
theorem afd{k:Nat}(h:ja l k)(H:¬(k:Int)<l.length):(bif decide (c9 l k=1) then decide (nW l k<=16) else false)=aZ l:=by
 grind[avR]
theorem apX{k:Nat}(h:ja l k)(hk:¬(k:Int)<l.length):(bif decide (nW l k=l.length-nW l k+1) then decide (nW l k<=16) else false)=aZ l:=by
 rw[<-afd h hk];have:=h.1;grind[c9]
theorem aNu(l:M bj): []=bL l 0:=rfl
theorem apY{k:Nat}(H:(k:Int)<l.length)(h:(l.getD k (0,[])).1=0):bL l k++[(l.getD (Int.toNat (k:Int)) (0,[])).2]=bL l (k+1):=by exact afc H h
theorem apZ{k:Nat}(H:l.length<=1099511627776)(h:dX l k)(s:B8):(bL l k).length+[s].length<=8796093022208/\small (bL l k)/\small (fp (bL l k))/\small (bU (fp (bL l k))):=by
 grind[ŧ,bL,bc,P0,dX,List.length_singleton,small]
theorem avW{k:Nat}(h:dX l k)(H:¬(k:Int)<l.length):bU (fp (bL l k))=al l/\sorted (bL l k)=al l:=by
 have:=avV h H;rw[P0,this];exact⟨rfl,rfl⟩
def yo:B8:=[104,97,121]
abbrev El:=Int×Int×B8
def Ë:M El:=[(-1,0,yo)]
def kE:M El:=[(-1,0,yo),(-2,3,[])]
def jK:M bj:=[(0,yo)]
def hdT(l:O):B8:=l.getD 0 []
def uI(k:Nat):Int:=if k=0 then -1 else 0
def BK(l:M El)(n:Int):El:=l.getD n.toNat (0,0,[])
def dq(l:M bj):Prop:=small l/\∀o∈l,small o.2
theorem Db(h:oc l=false):dq l:=by
 refine⟨alA h,λo H=>?_⟩;have:=(apT h).2 o H;grind[small]
theorem ap1(h:dq l)(k:Nat):small (cM l k).2:=by
 by_cases H:k<l.length;exact h.2 _ (aU l k _ H);unfold cM;rw[List.getD_eq_getElem?_getD,List.getElem?_eq_none w!];exact Nat.zero_le _
theorem zr {x:Nat}(h:(x:Int)<(([104,97,121]:U).length:Int)):x=0\/x=1\/x=2:=by
 grind
theorem ge3 {x:Nat}(H:cC x 3)(h:¬(x:Int)<(([104,97,121]:U).length:Int)):x=3:=by
 grind[cC]
abbrev Wp:=B8×Bool
def jL(v:Int):Wp:=if gi v then([],true) else(num v,false)
def gn(b:B8)(g:Int):Wp:=if g<b.length then([],true) else(text b,false)
def kL(n:Int)(g:B8)(l:M Sg):Wp:=if cO n g l then gn (hB n g l) 10000 else([],true)
def Mt(d:B8):Bool:=decide ((d.length:Int)=32)
def jb(p:O):Wp:=if 64<(p.length:Int) then([],true) else(num p.length++(p.takeWhile Mt).flatten,!cP p)
def iv(p:O)(k:Nat):B8:=num p.length++(p.take k).flatten
def mA(p:O)(k:Nat):Prop:=p.length<=64/\k<=p.length/\∀d∈p.take k,(d.length:Int)=32
def cat(a b:Wp):Wp:=(a.1++b.1,a.2 || b.2)
def lb(p:Pf):Wp:=
 if eR p.2.1 p.2.2.1 p.2.2.2.1 then cat (cat (cat (jL p.1) (gn (mc p.2.1 p.2.2.1 p.2.2.2.1) 200)) (jb p.2.2.2.2.1)) (gn p.2.2.2.2.2 4000)
 else((jL p.1).1,true)
def pfD(l:M Pf)(i:Nat):Pf:=l.getD i Fu
def Qu(l:M Pf):Nat->Wp
 |0=>(num l.length,false)
 |k+1=>cat (Qu l k) (lb (pfD l k))
def fu(l:M (M Pf))(i:Nat):M Pf:=l.getD i []
def gj(n:Int)(g:B8)(s:M Sg)(l:M (M Pf)):Nat->Wp
 |0=>cat ([1],false) (kL n g s)
 |k+1=>cat (gj n g s l k) (Qu (fu l k) (fu l k).length)
def Fv(w:Wp):B8:=if w.2 then [] else if 1048576<(w.1.length:Int) then [] else w.1
def Fw(w:Wp):Int:=if w.2 then 1 else if 1048576<(w.1.length:Int) then 3 else 0
def WI(l:M (M Pf)):Bool:=l.all λx=>decide ((x.length:Int)<=16)
def xF(n:Int)(g:B8)(s:M Sg)(l:M (M Pf)):B8×Int:=
 if(l.length:Int)≠s.length\/WI l=false then([],1) else(Fv (gj n g s l l.length),Fw (gj n g s l l.length))
def afe(n:Int)(g:B8)(s:M Sg)(a:Int)(d:B8)(p:O):Wp:=
 cat (cat (cat (cat ([2],false) (kL n g s)) (jL a)) (gn d 2000)) (jb p)
def Kw(n:Int)(g:B8)(s:M Sg)(a:Int)(d:B8)(p:O):B8×Int:=(Fv (afe n g s a d p),Fw (afe n g s a d p))
def Ì(p:Pf):Bool:= !gi p.1&&(eR p.2.1 p.2.2.1 p.2.2.2.1&&(decide ((p.2.2.2.2.1.length:Int)<=64)&&(cP p.2.2.2.2.1&&decide ((p.2.2.2.2.2.length:Int)<=4000))))
abbrev Rs:=Int×Int
def fq(b:B8)(a e:Int):Rs×Hd:=
 if(ao b a e 10000).1.2.2≠0 then((ao b a e 10000).1.2,(0,[],[]))
 else(((ao b a e 10000).1.2.1,(hR (ao b a e 10000).2).2),(hR (ao b a e 10000).2).1)
def lI(b:B8)(a e:Int):Rs×Lk:=
 if(ao b a e 200).1.2.2≠0 then((ao b a e 200).1.2,([],[],[]))
 else(((ao b a e 200).1.2.1,(bg (ao b a e 200).2).2),(bg (ao b a e 200).2).1)
def fj(b:B8)(a e g:Int):Rs×Int:=
 if g<(ag b a e).2 then(((ag b a e).1.2.1,2),0) else((ag b a e).1.2,(ag b a e).2)
def Dc(b:B8)(a e:Int):Nat->Rs×O
 |0=>((a,e),[])
 |k+1=>((aF b (Dc b a e k).1.1 (Dc b a e k).1.2).1.2,(Dc b a e k).2++[(aF b (Dc b a e k).1.1 (Dc b a e k).1.2).2])
def qT(b:B8)(a e:Int):Nat:=(fj b a e 64).2.toNat
def iw(b:B8)(a e:Int)(k:Nat):Rs×O:=Dc b (fj b a e 64).1.1 (fj b a e 64).1.2 k
def sc(b:B8)(a e:Int):Rs×O:=iw b a e (qT b a e)
def q1(b:B8)(a e:Int):Rs×Int:=((ag b a e).1.2,(ag b a e).2)
def q2(b:B8)(a e:Int):Rs×Lk:=lI b (q1 b a e).1.1 (q1 b a e).1.2
def q3(b:B8)(a e:Int):Rs×O:=sc b (q2 b a e).1.1 (q2 b a e).1.2
def q4(b:B8)(a e:Int):Rs×B8:=((ao b (q3 b a e).1.1 (q3 b a e).1.2 4000).1.2,(ao b (q3 b a e).1.1 (q3 b a e).1.2 4000).2)
def jc(b:B8)(a e:Int):Rs×Pf:=((q4 b a e).1,((q1 b a e).2,(q2 b a e).2.1,(q2 b a e).2.2.1,(q2 b a e).2.2.2,(q3 b a e).2,(q4 b a e).2))
def Fx(b:B8)(a e:Int):Nat->Rs×M Pf
 |0=>((a,e),[])
 |k+1=>((jc b (Fx b a e k).1.1 (Fx b a e k).1.2).1,(Fx b a e k).2++[(jc b (Fx b a e k).1.1 (Fx b a e k).1.2).2])
def aan(b:B8)(a e:Int):Nat:=(fj b a e 16).2.toNat
def aff(b:B8)(a e:Int)(k:Nat):Rs×M Pf:=Fx b (fj b a e 16).1.1 (fj b a e 16).1.2 k
def aEA(b:B8)(a e:Int):Rs×M Pf:=aff b a e (aan b a e)
def tG(b:B8)(a e:Int):Nat->Rs×M (M Pf)
 |0=>((a,e),[])
 |k+1=>((aEA b (tG b a e k).1.1 (tG b a e k).1.2).1,(tG b a e k).2++[(aEA b (tG b a e k).1.1 (tG b a e k).1.2).2])
def jd(b:B8)(k:UInt8):Int:=if 1048576<(b.length:Int) then 3 else if b.length=0 then 4 else if b.getD 0 0=k then 0 else 2
abbrev An:=Hd×M (M Pf)
def aH(b:B8):Rs×Hd:=fq b 1 0
def kp(b:B8)(k:Nat):Rs×M (M Pf):=tG b (aH b).1.1 (aH b).1.2 k
def aN(b:B8):Nat:=(aH b).2.2.2.length
def aI(b:B8):(Int×B8×M Sg×M (M Pf))×Int:=
 if jd b 1≠0 then((0,[],[],[]),jd b 1)
 else if done b (kp b (aN b)).1.1 (kp b (aN b)).1.2≠0 then((0,[],[],[]),done b (kp b (aN b)).1.1 (kp b (aN b)).1.2)
 else(((aH b).2.1,(aH b).2.2.1,(aH b).2.2.2,(kp b (aN b)).2),0)
def Í(b:B8):Rs×Hd:=fq b 1 0
def pg2(b:B8):Rs×Int:=q1 b (Í b).1.1 (Í b).1.2
def pg3(b:B8):Rs×B8:=((ao b (pg2 b).1.1 (pg2 b).1.2 2000).1.2,(ao b (pg2 b).1.1 (pg2 b).1.2 2000).2)
def I3(b:B8):Rs×O:=sc b (pg3 b).1.1 (pg3 b).1.2
def bx(b:B8):(Int×B8×M Sg×Int×B8×O)×Int:=
 if jd b 2≠0 then((0,[],[],0,[],[]),jd b 2)
 else if done b (I3 b).1.1 (I3 b).1.2≠0 then((0,[],[],0,[],[]),done b (I3 b).1.1 (I3 b).1.2)
 else(((Í b).2.1,(Í b).2.2.1,(Í b).2.2.2,(pg2 b).2,(pg3 b).2,(I3 b).2),0)
def st1(b:B8):Rs×Hd:=fq b 1 0
def st2(b:B8):Rs×Hd:=fq b (st1 b).1.1 (st1 b).1.2
def st3(b:B8):Rs×O:=sc b (st2 b).1.1 (st2 b).1.2
def Ě(b:B8):(Int×B8×M Sg×Int×B8×M Sg×O)×Int:=
 if jd b 3≠0 then((0,[],[],0,[],[],[]),jd b 3)
 else if done b (st3 b).1.1 (st3 b).1.2≠0 then((0,[],[],0,[],[],[]),done b (st3 b).1.1 (st3 b).1.2)
 else(((st1 b).2.1,(st1 b).2.2.1,(st1 b).2.2.2,(st2 b).2.1,(st2 b).2.2.1,(st2 b).2.2.2,(st3 b).2),0)
theorem avY(h:cP p=true):p.takeWhile Mt=p:=by
 induction p with
 |nil=>rfl
 |cons a l i=>
  simp_all[cP,List.all_cons,B!,List.takeWhile_cons_of_pos,Mt]
theorem Ut {p:Pf}:Ì p=true↔gi p.1=false/\eR p.2.1 p.2.2.1 p.2.2.2.1=true/\(p.2.2.2.2.1.length:Int)<=64/\cP p.2.2.2.2.1=true/\(p.2.2.2.2.2.length:Int)<=4000:=by
 simp_all[Ì,B!,K?,H!]
def oA(d:Bool)(w:Wp):Bool:=d || w.2
def bytesOf(w:Wp):B8:=w.1
def mU(w:Wp):Bool:=w.2
def zt(l:M (M Pf)):Prop:=l.length<=1000/\∀x∈l,∀p∈x,p.2.2.2.2.2.length<=1099511627776
def gE(n:Int)(g:B8)(s:M Sg)(l:M (M Pf))(k j:Nat):Wp:=cat (gj n g s l k) (Qu (fu l k) j)
def oV(s:M Sg)(l:M (M Pf))(k:Nat):Prop:=k<=l.length/\l.length=s.length/\zt l/\∀i,i<k->(fu l i).length<=16
def mB(s:M Sg)(l:M (M Pf))(k j:Nat):Prop:=oV s l k/\k<l.length/\(fu l k).length<=16/\j<=(fu l k).length
def I4(b:B8)(k j:Nat):Rs×M Pf:=aff b (kp b k).1.1 (kp b k).1.2 j
def qU(b:B8)(k:Nat):Nat:=aan b (kp b k).1.1 (kp b k).1.2
theorem ap3(s:B8):(text s).length<=s.length+9:=by
 grind[cU,text,List.length_append]
theorem zu(b:B8)(h:0<=m):((gn b m).1.length:Int)<=m+9:=by
 grind[gn,ap3]
theorem Qv(v:Int):(jL v).1.length<=9:=by
 grind[jL,cU]
theorem Uu(n:Int)(g:B8)(s:M Sg):(kL n g s).1.length<=10009:=by
 unfold kL;split;have:=zu (hB n g s) (m:=10000) (by decide);omega;grind
theorem afg:∀(p:O),(p.takeWhile Mt).flatten.length<=32*p.length
 |[]=>by simp
 |a::p=>by
  have:=afg p;by_cases h:Mt a=true;rw[List.takeWhile_cons_of_pos h,List.flatten_cons,J!,M?];have :(a.length:Int)=32:=of_decide_eq_true h;omega;simp_all
theorem Qw(p:O):(jb p).1.length<=2057:=by
 grind[jb,cU,afg,List.length_append]
theorem Î(p:Pf):(lb p).1.length<=7000:=by
 have h:=Qv p.1;have H:=zu (mc p.2.1 p.2.2.1 p.2.2.2.1) (m:=200) (by decide);have k:=Qw p.2.2.2.2.1;have o:=zu p.2.2.2.2.2 (m:=4000) (by decide);grind[lb,cat,List.length_append]
theorem Kx(l:M Pf):∀k,(Qu l k).1.length<=7000*k+9
 |0=>by grind[Qu,cU]
 |k+1=>by
  have:=Kx l k;have:=Î (pfD l k);simp[Qu,cat,J!];omega
theorem Uv(n:Int)(g:B8)(s:M Sg)(l:M (M Pf)):∀k,(∀i,i<k->(fu l i).length<=16)->(gj n g s l k).1.length<=120000*k+20000
 |0,_=>by
  grind[Uu,gj,cat,List.length_append,List.length_singleton]
 |k+1,h=>by
  have:=Uv n g s l k λi H=>h i w!;have:=Kx (fu l k) (fu l k).length;have:=h k w!;simp[gj,cat,J!];omega
theorem aNw(h:¬(64:Int)<p.length):mA p 0:=⟨w!,S! _,z!⟩
theorem avZ{k:Nat}(h:mA p k):(iv p k).length<=2057:=by
 obtain⟨H,o,u⟩:=h
 have q:∀(l:O),(∀d∈l,(d.length:Int)=32)->l.flatten.length=32*l.length:=by
  intro l;induction l with
  |nil=>grind
  |cons a l i=>
   grind
 grind[cU,List.length_take,iv,List.length_append]
theorem Ï {p:O}{k:Nat}(h:mA p k)(o:(k:Int)<p.length)(u:((p.getD k []).length:Int)=32):mA p (k+1)/\iv p k++p.getD k []=iv p (k+1):=by
 have e:=an p k [] w!;refine⟨⟨h.1,w!,?_⟩,?_⟩;rw[e];intro d H;rcases List.mem_append.1 H with q|q;exact h.2.2 d q;grind;grind[iv]
theorem av0:∀ {k:Nat},(∀d∈p.take k,(d.length:Int)=32)->k<p.length->¬((p.getD k []).length:Int)=32->p.takeWhile Mt=p.take k:=by
 induction p with
 |nil=>grind
 |cons a p i=>
  intro k h H hd;cases k with
  |zero=>simp_all[List.takeWhile_cons_of_neg,Mt,H!]
  |succ k=>
   have o:=h a z!;rw[List.takeWhile_cons_of_pos (show Mt a=true from L? o),List.take_succ_cons,i (k:=k) (λd hd=>h d (by exact F! _ hd)) (by simpa using H) hd]
theorem afh {p:O}{k:Nat}(h:mA p k)(o:(k:Int)<p.length)(hd:¬((p.getD k []).length:Int)=32):jb p=(iv p k,true):=by
 have H:cP p=false:=by
  grind[cQ,aU]
 unfold jb iv;rw[if_neg (by have:=h.1;omega),H,av0 h.2.2 w! hd];rfl
theorem afi{k:Nat}(h:mA p k)(o:¬(k:Int)<p.length):jb p=(iv p k,false):=by
 have e:k=p.length:=by have:=h.2.1;omega
 have H:cP p=true:=(cQ p).2 λd u=>by have:=h.2.2 d x!;omega
 unfold jb iv;rw[if_neg (by have:=h.1;omega),H,avY H,e,List.take_length];rfl
theorem ap4(h:(64:Int)<p.length):jb p=([],true):=by simp_all[jb,Q!]
theorem aNx{l:M (M Pf)}(H:zt l)(h:(l.length:Int)=s.length):oV s l 0:=⟨S! _,w!,H,λi k=>by omega⟩
variable {l:List (List Pf)}
theorem aGQ{k:Nat}(h:oV s l k)(H:(k:Int)<l.length)(o:¬(16:Int)<(fu l k).length):mB s l k 0:=⟨h,w!,w!,S! _⟩
theorem ap5{k j:Nat}(h:mB s l k j)(H:(j:Int)<(fu l k).length):mB s l k (j+1):=⟨h.1,h.2.1,h.2.2.1,w!⟩
theorem afj{k j:Nat}(h:mB s l k j)(H:¬(j:Int)<(fu l k).length):oV s l (k+1)/\gE n g s l k j=gj n g s l (k+1):=by
 have e:j=(fu l k).length:=by have:=h.2.2.2;omega
 refine⟨⟨by have:=h.2.1;omega,h.1.2.1,h.1.2.2.1,λi o=>?_⟩,by subst e;rfl⟩;by_cases q:i=k;subst q;exact h.2.2.1;exact h.1.2.2.2 i w!
theorem aGR{l:M (M Pf)}(h:¬(l.length:Int)=s.length):xF n g s l=([],1):=by simp_all[xF,Q!]
theorem afk{k:Nat}(H:(k:Int)<l.length)(h:(16:Int)<(fu l k).length):xF n g s l=([],1):=by
 have :WI l=false:=by
  rw[<-Bool.not_eq_true];intro q;have:=of_decide_eq_true (List.all_eq_true.1 q _ (aU l k [] w!));grind[fu]
 simp_all[xF,Q!]
theorem afl{k:Nat}(h:oV s l k)(o:¬(k:Int)<l.length):xF n g s l=(Fv (gj n g s l k),Fw (gj n g s l k)):=by
 have e:k=l.length:=by have:=h.1;omega
 subst e
 have :WI l=true:=V!.2 λx H=>by
  obtain⟨i,hi,rfl⟩:=List.mem_iff_getElem.1 H;have:=h.2.2.2 i hi;have e:fu l i=l[i]:=by simp[fu,E!,hi]
  rw[e] at this;exact L? w!
 unfold xF;rw[if_neg (by rw[this,h.2.1];simp)]
theorem ap6{k j:Nat}(h:mB s l k j)(H:(j:Int)<(fu l k).length):(pfD (fu l k) j).2.2.2.2.2.length<=1099511627776:=
 h.1.2.2.1.2 _ (aU l k [] h.2.1) _ (aU (fu l k) j Fu w!)
theorem afm{k:Nat}(h:oV s l k):(gj n g s l k).1.length<=130000000:=by
 have:=Uv n g s l k h.2.2.2;have:=h.1;have:=h.2.2.1.1;omega
theorem ap7{k j:Nat}(h:mB s l k j):(gE n g s l k j).1.length<=140000000:=by
 have:=afm (n:=n) (g:=g) h.1;have:=Kx (fu l k) j;have:=h.2.2.1;have:=h.2.2.2
 grind[gE,cat,List.length_append]
theorem av1(v:Int):(mq [] v).length<=9:=by
 grind[mq,cU]
theorem aNy(v:Int):mq [] v=(jL v).1:=by grind[mq,jL]
theorem aNz(v:Int)(d:Bool):(bif !decide (yW v=0) then true else d)=oA d (jL v):=by
 grind[yW,jL,oA,gi]
theorem WJ {n:Nat}(h:n<=1000):jL (n:Int)=(num (n:Int),false):=by
 grind[jL,Qo]
theorem afn(h:m<b.length):gn b m=([],true):=by simp_all[gn,Q!]
theorem ap8(h:¬m<b.length):gn b m=(text b,false):=by simp_all[gn,R!]
theorem ap9(h:¬(hW n g s).2=0):kL n g s=([],true):=by
 grind[cO,NC,kL]
theorem av3(h:(hW n g s).2=0):kL n g s=gn (hW n g s).1 10000/\(hW n g s).1.length<=100000:=by
 simp_all[apL,kL,Q!,ae9]
theorem av4(a b c:B8):(dw a b c).length<=200:=by
 grind[dw,Ay]
theorem aGS {a c:B8}(h:¬kJ a b c=0):eR a b c=false:=by
 grind[eR,kJ]
theorem av5 {a c:B8}(h:kJ a b c=0):eR a b c=true/\dw a b c=mc a b c:=by
 cases q:eR a b c with
 |true=>exact⟨rfl,by grind[dw]⟩
 |false=>grind[kJ]
theorem afo{p P k:B8}(h:¬kJ p P k=0):lb (p1,p,P,k,p5,p6)=((jL p1).1,true):=by
 grind[lb,aGS]
theorem aqa{p P k:B8}(h:kJ p P k=0):lb (p1,p,P,k,p5,p6)=cat (cat (cat (jL p1) (gn (dw p P k) 200)) (jb p5)) (gn p6 4000):=by
 grind[lb,av5]
theorem aEB {n:Int}{g:B8}{s:M Sg}{l:M (M Pf)}{k j:Nat}(p:Pf)(h:p=pfD (fu l k) j)(d:Bool)(b:B8)(H:d=mU (gE n g s l k j))(o:b=bytesOf (gE n g s l k j)):
  oA d (lb p)=mU (gE n g s l k (j+1))/\b++bytesOf (lb p)=bytesOf (gE n g s l k (j+1)):=by
 subst h;subst H;subst o;simp[oA,mU,bytesOf,gE,Qu,cat,Bool.or_assoc,X!,and_self]
theorem afp(h:(1048576:Int)<b.length):jd b c=3:=by simp_all[jd,Q!]
theorem afq {b:B8}(h:¬(1048576:Int)<b.length)(H:(b.length:Int)=0):jd b c=4:=by simp_all[jd,R!,Q!]
theorem aqb {b:B8}(h:¬(1048576:Int)<b.length)(H:¬(b.length:Int)=0)(k:¬((b.getD (Int.toNat 0) 0).toNat:Int)=c.toNat):jd b c=2:=by
 grind[jd]
theorem aGT {b:B8}(h:¬(1048576:Int)<b.length)(H:¬(b.length:Int)=0)(k:((b.getD (Int.toNat 0) 0).toNat:Int)=c.toNat):jd b c=0:=by
 unfold jd;grind[UInt8.toNat_inj]
theorem I5(b:B8)(a e m:Int):(ao b a e m).2.length<=b.length:=by
 grind[ao,ek]
theorem aqc(b:B8)(a e:Int)(h:0<=m):(fj b a e m).2<=m:=by
 grind[fj]
theorem av6(h:m<(ag b a e).2):fj b a e m=(((ag b a e).1.2.1,2),0):=by simp_all[fj,Q!]
theorem aGU(h:¬m<(ag b a e).2):fj b a e m=((ag b a e).1.2,(ag b a e).2):=by simp_all[fj,R!]
theorem aGV(h:¬(ao b a e 10000).1.2.2=0):fq b a e=((ao b a e 10000).1.2,(0,[],[])):=by simp_all[fq,Q!]
theorem av7(h:(ao b a e 10000).1.2.2=0):fq b a e=(((ao b a e 10000).1.2.1,(hR (ao b a e 10000).2).2),(hR (ao b a e 10000).2).1):=by simp_all[fq,R!]
theorem aGW(h:¬(ao b a e 200).1.2.2=0):lI b a e=((ao b a e 200).1.2,([],[],[])):=by simp_all[lI,Q!]
theorem av8(h:(ao b a e 200).1.2.2=0):lI b a e=(((ao b a e 200).1.2.1,(bg (ao b a e 200).2).2),(bg (ao b a e 200).2).1):=by simp_all[lI,R!]
theorem afr(b:B8)(a e:Int):∀k,(Dc b a e k).2.length=k
 |0=>rfl
 |k+1=>by simp only[Dc];rw[J!,afr b a e k];rfl
theorem WK(b:B8)(a e:Int)(k:Nat):(iw b a e k).2.length=k:=afr ..
theorem afs(b:B8)(a e:Int):∀k,(Fx b a e k).2.length=k
 |0=>rfl
 |k+1=>by simp only[Fx];rw[J!,afs b a e k];rfl
theorem av9(b:B8)(k j:Nat):(I4 b k j).2.length=j:=afs ..
theorem aft(b:B8)(a e:Int):∀k,(tG b a e k).2.length=k
 |0=>rfl
 |k+1=>by simp only[tG];rw[J!,aft b a e k];rfl
theorem awa(b:B8)(k:Nat):(kp b k).2.length=k:=aft ..
theorem WL(b:B8)(a e:Int):qT b a e<=64:=by simp_all[aqc,qT]
theorem aqd(b:B8)(k:Nat):qU b k<=16:=by simp_all[aqc,kp,qU,aan]
theorem aao {x:Nat}(h:(x:Int)<v):x+1<=v.toNat:=by omega
theorem Qx {x:Nat}(h:cC x v.toNat)(H:¬(x:Int)<v):x=v.toNat:=by grind[cC]
theorem awb(b:B8):(hR b).1.2.2.length<=64:=by
 by_cases h:(hR b).2=0;grind[sb,jq,aag];simp_all[apE,Nat.zero_le]
theorem aap(b:B8):aN b<=64:=by
 grind[aN,aH,fq,awb]
theorem WM {b:B8}{x:Nat}(h:(x:Int)<((fq b 1 0).2.2.2.length:Int)):x+1<=aN b:=by
 have :aN b=(fq b 1 0).2.2.2.length:=rfl;omega
theorem aaq {b:B8}{x:Nat}(h:cC x (aN b))(H:¬(x:Int)<((fq b 1 0).2.2.2.length:Int)):x=aN b:=by
 have :aN b=(fq b 1 0).2.2.2.length:=rfl;grind[cC]
theorem aEC(h:¬jd b 1=0):aI b=((0,[],[],[]),jd b 1):=by simp_all[aI,Q!]
theorem aqe{k:Nat}(h:jd b 1=0)(H:k=aN b)(o:¬done b (kp b k).1.1 (kp b k).1.2=0):aI b=((0,[],[],[]),done b (kp b k).1.1 (kp b k).1.2):=by simp_all[aI,R!,Q!]
theorem aED{k:Nat}(h:jd b 1=0)(H:k=aN b)(o:done b (kp b k).1.1 (kp b k).1.2=0):aI b=(((aH b).2.1,(aH b).2.2.1,(aH b).2.2.2,(kp b k).2),0):=by simp_all[aI,R!]
theorem aGX(h:¬jd b 2=0):bx b=((0,[],[],0,[],[]),jd b 2):=by simp_all[bx,Q!]
theorem aqf(h:jd b 2=0)(H:¬done b (I3 b).1.1 (I3 b).1.2=0):bx b=((0,[],[],0,[],[]),done b (I3 b).1.1 (I3 b).1.2):=by simp_all[bx,R!,Q!]
theorem aqg(h:jd b 2=0)(H:done b (I3 b).1.1 (I3 b).1.2=0):bx b=(((Í b).2.1,(Í b).2.2.1,(Í b).2.2.2,(pg2 b).2,(pg3 b).2,(I3 b).2),0):=by simp_all[bx,R!]
variable {l:List Sg}{s:List Int}
theorem I6(h:cO n g l=true):0<=n/\n<=1000/\g.length=32/\l.length<=64:=by
 grind[jq,sb]
theorem NF(h:gi v=false):0<=v/\v<=4611686018427387904:=by
 grind[gi,Bool.or_eq_false_iff,decide_eq_false_iff_not]
theorem WN(h:cO n g l=true):az (hB n g l)/\small (hB n g l):=by
 grind[ae9,az,small]
def qV(n:Int)(g:B8)(l:M Sg):B8×Int:=if cO n g l then(l7 3 (hB n g l),0) else([],1)
def afu(n:Int)(g:B8)(l:M Sg):B8:=pB 3 (hB n g l)
def fk(docs:O)(l:M aB):B8×Int:=
 if cy docs l then(l7 3 (hB docs.length (root (leaves docs)) (bu docs l)),0) else([],7)
def Qy(a b:B8):Bool:=decide (a=b)
def SQ(d:M bw)(ts:O):M Pf:=ts.map (la d)
def sd(d:M bw)(ts:O)(k:Nat):M Pf:=(ts.take k).map (la d)
def Qz(d:M bw)(ts:O):Prop:=aW d/\aK d=true/\ts.length<=1000/\∀t∈ts,isTerm t=true
def pPs(l:M aB)(ts:O):M (M Pf):=l.map λs=>SQ s.2.2 ts
def oB(l:M aB)(ts:O)(k:Nat):M (M Pf):=pPs (l.take k) ts
def rF(docs:O)(l:M aB)(q:M bj):B8×Int:=
 if cy docs l=false then([],7) else if aZ q=false then([],1)
 else xF docs.length (root (leaves docs)) (bu docs l) (pPs l (al q))
def oC(docs:O)(l:M aB)(i:Int):B8×Int:=
 if cy docs l=false then([],7) else if i<0\/(docs.length:Int)<=i then([],5)
 else Kw docs.length (root (leaves docs)) (bu docs l) i (docs.getD i.toNat []) (path (leaves docs) i)
variable {l:List aB}
theorem AI(h:cy docs l=true):docs.length<=1000/\(∀i,((docs.getD i []).length:Int)<=2000):=by
 have H:=(RI.of (iL.1 h).1).fair;simp[dm,Bool.and_eq_true,List.all_eq_true,decide_eq_true_eq] at H;grind
theorem nA(l:O):(leaves l).length=l.length:=by simp[leaves]
theorem aqh(h:v<16384):(num v).length<=2:=by
 grind[num,rD]
theorem aqi {l:U}(h:aV l=true):(iH l).length<=2*l.length+2:=by
 have o:=mz h
 have q:∀k,k<=l.length->((List.range k).flatMap (λi=>num (l.getD i 0-cD l i-1))).length<=2*k:=by
  intro k;induction k with
  |zero=>simp
  |succ k I=>
   intro u;have w:=Ue (aeR h (k:=k) w!);have y:=(iI l k).1 ((jI l).1 h k w!);have H:=aqh (v:=l.getD k 0-cD l k-1) w!;rw[List.range_succ,List.flatMap_append,J!];simp only[List.flatMap_cons,List.flatMap_nil,B?];omega
 have:=q l.length (M! _);have H:=aqh (v:=(l.length:Int)) w!;simp only[iH,b6,J!];omega
theorem Uw(h:aK d=true)(t:B8):aV (dN d t)=true:=by
 unfold dN;split;rename_i H;have k:=Ef H;simp_all[v8,bo]
 rfl
theorem aGY(h:aK d=true){i:Nat}(H:i<=d.length):eR (bg (k9 d i)).1.1 (bg (k9 d i)).1.2.1 (bg (k9 d i)).1.2.2=true:=by
 rcases wa h (k:=i) with q|q;have e:k9 d i=mc (if i=0 then [] else cF d (i-1)) (if i<d.length then cF d i else []) (kl (if i=0 then [] else iD d (i-1))):=rfl;grind[Qe];omega
theorem aas(h:aK d=true)(k:d.length<=1048576)(t:B8):Ì (la d t)=true:=by
 obtain⟨f,F,f3⟩:=Å (t:=t) h;have H:(leaves (dW d)).length=d.length+1:=by rw[nA,f3]
 refine Ut.2 ⟨Qo f (by grind[la]),aGY h w!,?_,aal _ _ _ rfl (kn _),?_⟩;have:=apP (l:=leaves (dW d)) (i:=bo d t+1) (t:=21) f w! w!;grind[la];grind[la,Uw,aqi,mz]
theorem aqj(h:aK d=true)(H:d.length<=1048576)(ts:O):∀p∈SQ d ts,Ì p=true:=by
 intro p G;obtain⟨t,_,rfl⟩:=List.mem_map.1 G;grind[aas]
theorem Eo(h:cy docs l=true):∀s∈l,aK s.2.2=true/\s.2.2.length<=1048576/\aW s.2.2:=by
 intro s k;have R:=RI.of (iL.1 h).1;obtain⟨o,H,_⟩:=R.seg s k;refine⟨?_,H.1,H⟩;have :eS s.1 s.2.1 s.2.2=true:=o;simp[eS,Bool.and_eq_true] at this;grind
theorem aqk(h:cy docs l=true)(k:ts.length<=16):∀x∈pPs l ts,(x.length:Int)<=16/\∀p∈x,Ì p=true:=by
 intro x H;obtain⟨s,o,rfl⟩:=List.mem_map.1 H;grind[Eo,SQ,aqj]
theorem Mu(h:cy docs l=true):(bu docs l).length=l.length:=by
 grind[bu,iK,iL,List.length_map]
def tH(docs:O)(l:M aB):B8:=afu docs.length (root (leaves docs)) (bu docs l)
def hx(l:M qd):Qi:=(bS (eZ l).1 (eZ l).2).1
def aEE(l m:M qd)(k:Nat):Qi:=mT (hx l) m k
theorem aGZ{l:M Sg}(h:¬(hW n g l).2=0):qV n g l=([],1)/\(hW n g l).2=1:=by
 grind[cO,NC,aai,qV]
theorem awc{l:M Sg}(h:(hW n g l).2=0):qV n g l=(l7 3 (hW n g l).1,0)/\az (hW n g l).1:=by
 simp_all[apL,qV,Q!,WN]
theorem aat(h:¬(gI docs l).2=0):cy docs l=false:=by
 grind[En]
theorem uJ(h:(gI docs l).2=0):cy docs l=true/\(gI docs l).1.1=(docs.length:Int)/\(gI docs l).1.2.1=root (leaves docs)/\(gI docs l).1.2.2=bu docs l:=by
 grind[cy,En,apK]
theorem aG0(h:¬(gI docs l).2=0):fk docs l=([],7):=by grind[fk,aat]
theorem awd(h:(gI docs l).2=0):qV (gI docs l).1.1 (gI docs l).1.2.1 (gI docs l).1.2.2=fk docs l:=by
 simp_all[uJ,fk,qV,Q!,wk]
theorem Mv(h:isTerm t=true):small t:=by grind[CU,small]
theorem awe(d:M bw)(ts:O)(k:Nat):(sd d ts k).length<=ts.length:=by grind[sd,List.length_take]
theorem aql{k:Nat}(h:(k:Int)<ts.length):sd d ts k++[la d (ts.getD (Int.toNat (k:Int)) [])]=sd d ts (k+1):=by
 grind[Int.toNat_natCast,sd,an]
theorem awf{k:Nat}(h:dX ts k)(H:¬(k:Int)<ts.length):sd d ts k=SQ d ts:=by
 grind[dX,sd,SQ,List.take_length]
theorem aG1(h:Qz d ts){k:Nat}(H:(k:Int)<ts.length):isTerm (ts.getD (Int.toNat (k:Int)) [])=true:=by
 exact h.2.2.2 _ (aU ts k [] w!)
theorem awg(l:M aB)(ts:O)(k:Nat):(oB l ts k).length<=l.length:=by grind[oB,pPs,List.length_take]
theorem aqm{k:Nat}(h:(k:Int)<l.length):oB l ts k++[SQ (l.getD (Int.toNat (k:Int)) (0,0,[])).2.2 ts]=oB l ts (k+1):=by
 grind[Int.toNat_natCast,oB,pPs,an]
theorem awh{k:Nat}(h:dX l k)(H:¬(k:Int)<l.length):oB l ts k=pPs l ts:=by
 grind[dX,oB,List.take_length]
theorem Ux(h:cy docs l=true):l.length<=64:=by simpa[fT] using(RI.of (iL.1 h).1).le
theorem GI(h:cy docs l=true):dj docs/\eX (leaves docs)/\small (leaves docs):=by
 obtain⟨k,H⟩:=GF (iL.1 h).1;exact⟨k,H,H⟩
theorem awi(h:cy docs l=true)(H:aZ q=true){k:Nat}(o:(k:Int)<l.length):Qz (l.getD (Int.toNat (k:Int)) (0,0,[])).2.2 (al q):=by
 obtain⟨f,u,F⟩:=Eo h _ (aU l k (0,0,[]) w!);exact⟨F,f,by grind[qe],È H⟩
theorem aG2(h:¬(gI docs l).2=0):rF docs l q=([],7):=by simp_all[rF,Q!,aat]
theorem awj {docs:O}{l:M aB}(h:(gI docs l).2=0)(H:aZ q=false):rF docs l q=([],1):=by
 simp_all[rF,R!,uJ,Q!]
theorem awk(h:cy docs l=true)(H:aZ q=true){k:Nat}(h1:dX l k)(hk:¬(k:Int)<l.length):
  xF ((len docs:Nat):Int) (root (leaves docs)) (bu docs l) (oB l (al q) k)=rF docs l q/\zt (oB l (al q) k):=by
 rw[awh h1 hk];refine⟨by unfold rF;rw[if_neg x!,if_neg x!];rfl,?_,?_⟩;grind[Ux,pPs];intro x o p u;have:=(Ut.1 ((aqk h (qe H) x o).2 p u)).2.2.2.2;omega
theorem aG3(h:¬(gI docs l).2=0):oC docs l i=([],7):=by simp_all[oC,Q!,aat]
theorem awl {docs:O}{l:M aB}(h:(gI docs l).2=0)(H:i<0\/(docs.length:Int)<=i):oC docs l i=([],5):=by
 simp_all[oC,R!,uJ,Q!]
theorem afv {docs:O}{l:M aB}(h:(gI docs l).2=0)(H:¬i<0/\¬(docs.length:Int)<=i):
  tF (leaves docs) i=0/\Kw (gI docs l).1.1 (gI docs l).1.2.1 (gI docs l).1.2.2 i (docs.getD i.toNat []) (oz (leaves docs) i)=oC docs l i/\(docs.getD i.toNat []).length<=1099511627776:=by
 obtain⟨k,o,u,w⟩:=uJ h;have q:cP (leaves docs)=true/\0<=i/\i<(leaves docs).length:=⟨kn docs,w!,by grind[nA]⟩;refine⟨by simp_all[tF,if_pos],?_,by grind[AI]⟩;simp_all[oC,oz,if_pos,if_neg]
def kx:Qi:=([yo],[(0,1,[(yo,[0])])])
theorem aqn:dq jK:=⟨by unfold small;decide,by unfold small;decide⟩
theorem aqo(h:cy docs l=true):fk docs l=(tH docs l,0):=by unfold fk;rw[if_pos h];rfl
def EH(n:Int)(g:B8)(l:M Sg)(r:B8):Bool:=decide ((qV n g l).2=0)&&decide ((qV n g l).1=r)
def qW(a:M (M Pf))(i:Int)(t:O):Bool:=decide ((a.getD i.toNat []).length=t.length)
def yp(l:U)(a b:Int)(k:Nat):Prop:=∀j,j<k->a<=l.getD j 0/\l.getD j 0<b
def xG(l:U)(a b:Int):Bool:=l.all λx=>decide (a<=x)&&decide (x<b)
theorem awm{l:M Sg}{r:B8}:(bif decide ((qV n g l).2=0) then decide ((qV n g l).1=r) else false)=EH n g l r:=by
 grind[decide,qV,EH]
variable {l:List Int}{d:B8}
theorem AJ{b:Int}{k:Nat}(h:yp l a b k)(H:a<=l.getD k 0)(o:l.getD k 0<b):yp l a b (k+1):=λj u=>by
 by_cases S:j=k;grind;exact h j w!
theorem Ep{b:Int}{k:Nat}(h:yp l a b k)(o:l.length<=k):xG l a b=true:=by
 simp[xG,List.all_eq_true,Bool.and_eq_true,decide_eq_true_eq];intro x H;obtain⟨j,u,rfl⟩:=List.getElem_of_mem H;have:=h j w!;grind
theorem I7{b:Int}{k:Nat}(hk:k<l.length)(h:l.getD k 0<a\/b<=l.getD k 0):xG l a b=false:=by
 rw[Bool.eq_false_iff];intro H;simp[xG,V!,B!,H!] at H;have:=H l[k] (List.getElem_mem hk);rw[E!,C! hk] at h;simp at h;omega
theorem aNA(h:ob i n):j4 i n (i,n,[]):=⟨h.1,h.2.1,Int.le_refl _,z!,z!⟩
theorem QA(H:ob i n)(h:j4 i n x)(k:1<x.2.1):
  split x.2.1=((sp x.2.1.toNat:Nat):Int)/\1<=split x.2.1/\split x.2.1<x.2.1/\x.2.1<=1099511627776/\x.2.2.length<=1099511627776/\0<=x.1/\x.1<x.2.1:=by
 have⟨_,_,p⟩:=H;have⟨q,Q,o,_,u⟩:=h;grind[Aw,iY]
theorem aNB(H:ob i n)(h:j4 i n x)(k:1<x.2.1)(o:x.1<split x.2.1):j4 i n (x.1,split x.2.1,x.2.2++[false]):=by
 have⟨b,B,u,w,y,_⟩:=QA H h k;have⟨q,Q,z,A,C⟩:=h;refine⟨q,o,x!,?_,x!⟩;grind[zn]
theorem aNC(H:ob i n)(h:j4 i n x)(k:1<x.2.1)(o:¬x.1<split x.2.1):j4 i n (x.1-split x.2.1,x.2.1-split x.2.1,x.2.2++[true]):=by
 have⟨b,B,u,w,y,_⟩:=QA H h k;have⟨q,Q,z,A,C⟩:=h;refine⟨w!,x!,x!,?_,x!⟩;grind[zo]
theorem sd_end(h:j4 i n x)(H:¬1<x.2.1):x.2.2=cq i n:=by
 rw[h.2.2.2.1,wo w!];simp
theorem aau(hp:ob i n):((cq i n).length:Int)<=1099511627776:=by
 have :∀m:Nat,∀i n:Int,n.toNat=m->0<=i->i<n->((cq i n).length)+1<=n:=by
  intro m;induction m using wu with
  |h0 m hm=>grind[wo]
  |h1 m hm ihl ihr=>
   intro i n e h0 h1;have hb:=iY hm;by_cases hi:i<((sp n.toNat:Nat));rw[zn w! hi];have:=ihl i ((sp n.toNat:Nat)) (by rw[e];simp) h0 hi;simp;rw[e] at this |-;omega;rw[zo w! hi];have:=ihr (i-((sp n.toNat:Nat):Int)) (n-((sp n.toNat:Nat):Int)) (by rw[e];omega) w! w!;simp;rw[e] at this |-;omega
 have:=this n.toNat i n rfl hp.1 hp.2.1;have:=hp.2.2;omega
theorem aG4 {d:B8}(h:¬((d.length:Int)=32/\1<=n/\n<=1099511627776/\0<=i/\i<n)): []=jO d i n p/\1=cB d i n p:=by
 simp_all[cB,R!,jO]
theorem afw {d:B8}(h:(d.length:Int)=32/\1<=n/\n<=1099511627776/\0<=i/\i<n):ob i n:=⟨h.2.2.2.1,h.2.2.2.2,h.2.2.1⟩
theorem awn {d:B8}{i n:Int}{p:O}(h:(d.length:Int)=32/\1<=n/\n<=1099511627776/\0<=i/\i<n)(H:¬((p.length:Int)=((cq i n).length:Int)/\cP p=true)): []=jO d i n p/\6=cB d i n p:=by
 have :cB d i n p=6:=by rw[cB,Q! h];exact R! H
 grind[jO]
theorem aG5 {d:B8}{i n:Int}{p:O}(h:(d.length:Int)=32/\1<=n/\n<=1099511627776/\0<=i/\i<n)(H:(p.length:Int)=((cq i n).length:Int)/\cP p=true):cB d i n p=0:=by
 rw[cB,Q! h];exact Q! H
theorem mC(h:cB d i n p=0):((d.length:Int)=32/\1<=n/\n<=1099511627776/\0<=i/\i<n)/\(p.length:Int)=((cq i n).length:Int)/\cP p=true:=by
 unfold cB at h;split at h;rename_i H;split at h;rename_i k;exact⟨H,k⟩;omega;omega
theorem aND(d:B8)(i n:Int)(p:O):d=cL d i n p 0:=by rfl
theorem Ð{k:Nat}(h:cB d i n p=0)(hk:k<p.length):
  (bif (cq i n).getD (((cq i n).length:Int)-1-(k:Int)).toNat false then bz (p.getD k []) (cL d i n p k) else bz (cL d i n p k) (p.getD k []))=cL d i n p (k+1):=by
 have⟨_,H,_⟩:=mC h;have hz:k<(List.zip (cq i n).reverse p).length:=by grind
 have e:cL d i n p (k+1)=O5 (cL d i n p k) ((List.zip _ p)[k]):=by
  unfold cL;rw[List.take_add_one,List.getElem?_eq_getElem hz,List.foldl_append];rfl
 rw[e,List.getElem_zip,List.getElem_reverse];have E:(((cq i n).length:Int)-1-k).toNat=(cq i n).length-1-k:=by omega
 rw[E,E!,C! w!,E!,C! hk];cases (cq i n)[(cq i n).length-1-k]<;>rfl
theorem awo{k:Nat}(h:cB d i n p=0)(H:p.length<=k):cL d i n p k=jO d i n p:=by
 rw[jO,if_pos h,apO,ko,cL,List.take_of_length_le];grind
def Ky(n:Int)(g d:B8)(p:O)(i:Int):Bool:=decide (cB (leaf d) i n p=0)&&decide (jO (leaf d) i n p=g)
abbrev Pg:=Int×B8×M Sg×Int×B8×O
def afx(r:B8)(i:Int)(p:Pg):Bool:=EH p.1 p.2.1 p.2.2.1 r&&(decide (p.2.2.2.1=i)&&Ky p.1 p.2.1 p.2.2.2.2.1 p.2.2.2.2.2 i)
def uc(r:B8)(i:Int)(b:B8):B8×Int:=
 if ¬r.length=32 then([],1) else if ¬(bx b).2=0 then([],(bx b).2) else if afx r i (bx b).1 then((bx b).1.2.2.2.2.1,0) else([],6)
theorem Ñ(b:B8):eX (bx b).1.2.2.2.2.2:=by
 unfold bx;split;exact Nat.zero_le _;split;exact Nat.zero_le _;show(I3 b).2.length<=_;grind[I3,sc,WK,WL]
theorem afy(b:B8):(bx b).1.2.2.2.2.1.length<=b.length:=by
 unfold bx;split;grind;split;grind;exact I5 _ _ _ _
theorem aqp(h:b.length<1099511627776):eX (bx b).1.2.2.2.2.2/\az (bx b).1.2.2.2.2.1:=⟨Ñ b,Nat.lt_of_le_of_lt (afy b) h⟩
theorem aG6 {r:B8}(h:¬(r.length:Int)=32):uc r i b=([],1):=by rw[uc,Q! w!]
theorem aG7 {r:B8}(h:(r.length:Int)=32)(H:¬(bx b).2=0):uc r i b=([],(bx b).2):=by rw[uc,R! w!,Q! H]
theorem aqq {r:B8}(h:(r.length:Int)=32)(H:(bx b).2=0):uc r i b=if afx r i (bx b).1 then((bx b).1.2.2.2.2.1,0) else([],6):=by rw[uc,R! w!,R! w!]
def Kz:U:=(List.range 1000).map Int.ofNat
abbrev Kp:=Bool->Bool->Bool
def Br:Kp:=λx y=>x&&y
def QB:Kp:=λx y=>x || y
def Bs:Kp:=λx y=>x&& !y
def wy(k:Kp)(a b:U):U:=Kz.filter λn=>k (qa a n) (qa b n)
def wz(k:Kp)(a b:U):U:=wy k (tA a) (tA b)
def AK(a b:U):U:=wz Br a b
def qX(a b:U):U:=wz QB a b
def I8(a b:U):U:=wz Bs a b
abbrev Pk:=U×U×U
def mG(k:Kp)(a b:U)(x:Pk):Prop:=x.2.2++wy k x.1 x.2.1=wz k a b/\aV x.1=true/\aV x.2.1=true
def je(x:Pk):Nat:=x.1.length+x.2.1.length
def opL(o:Int)(a b:U):U:=if o=1 then AK a b else if o=2 then qX a b else I8 a b
def mV(f:B8->U)(s:M U)(o:bj):M U:=
 if o.1=0 then s++[f o.2] else s.take (s.length-2)++[opL o.1 (s.getD (s.length-2) []) (s.getD (s.length-1) [])]
def jU(f:B8->U)(l:M bj)(k:Nat):M U:=(l.take k).foldl (mV f) []
def mH(x:O)(t:B8):Nat:=(x.filter λa=>Op.bytesLess a t).length
def Bt(x:O)(t:B8):Bool:=decide (t∈x)
def od(t:O)(f:M U)(s:B8):U:=if Bt t s then f.getD (mH t s) [] else []
def Dd(l:M bj)(t:O)(f:M U):U:=(jU (od t f) l l.length).getD 0 []
def lO(l:M bj)(f:M U):Bool:=aZ l&&(decide (f.length=(al l).length)&&f.all aV)
def iM(l:M bj)(f:M U):U×Int:=if lO l f then(Dd l (al l) f,0) else([],1)
def yq(x:O):Prop:=qM x/\small x
def qY(x:O)(t:B8)(i j:Int):Prop:=0<=i/\i<=j/\j<=x.length/\(∀k:Nat,(k:Int)<i->Op.bytesLess (x.getD k []) t=true)/\∀k:Nat,j<=(k:Int)->k<x.length->Op.bytesLess (x.getD k []) t=false
def pn(b:B8):Nat->Int->Int->Int->U->U×Int
 |0,a,e,_,l=>if done b a e=0 then(l,0) else([],done b a e)
 |n+1,a,e,p,l=>
  if(ag b a e).1.2.2≠0 then([],(ag b a e).1.2.2)
  else if 998-p<(ag b a e).2 then([],2)
  else pn b n (ag b a e).1.2.1 (ag b a e).1.2.2 (p+((ag b a e).2+1)) (l++[p+((ag b a e).2+1)])
def oe(b:B8):Rd×Int:=ag b 0 0
def cu(b:B8):U×Int:=
 if(oe b).1.2.2≠0 then([],(oe b).1.2.2) else if 1000<(oe b).2 then([],2) else pn b (oe b).2.toNat (oe b).1.2.1 (oe b).1.2.2 (-1) []
abbrev Pr:=Int×Int×Int×U
def wA(b:B8)(k:Nat)(x:Pr):Prop:=(k:Int)<=(oe b).2/\(oe b).1.2.2=0/\(oe b).2<=1000/\pn b ((oe b).2.toNat-k) x.1 x.2.1 x.2.2.1 x.2.2.2=cu b/\ -1<=x.2.2.1/\x.2.2.1<=999/\x.2.2.2.length=k
def I9(t:B8)(e:Int)(p P p6:B8):Bool:=decide (p=t)&&(decide (e=0)&&decide (l7 2 p6=P))
def Ja(t P p p6:B8):Bool:=Op.bytesLess P t&&((Op.bytesLess t p || decide (p=[]))&&decide (p6.length=0))
def WO(p P h:B8):B8:=leaf (mc p P h)
def De(r:B8)(n:Int)(t:B8):Bool:=decide ((r.length:Int)=32)&&(decide (1<=n)&&(decide (n<=1099511627776)&&isTerm t))
def Nf(r:B8)(n:Int)(p:Pf):Bool:=eR p.2.1 p.2.2.1 p.2.2.2.1&&(decide (cB (WO p.2.1 p.2.2.1 p.2.2.2.1) p.1 n p.2.2.2.2.1=0)&&decide (jO (WO p.2.1 p.2.2.1 p.2.2.2.1) p.1 n p.2.2.2.2.1=r))
def Jb(t:B8)(p:Pf):U×Int:=
 if I9 t (cu p.2.2.2.2.2).2 p.2.1 p.2.2.2.1 p.2.2.2.2.2 then((cu p.2.2.2.2.2).1,0) else if Ja t p.2.1 p.2.2.1 p.2.2.2.2.2 then([],0) else([],6)
def jr(r:B8)(n:Int)(t:B8)(p:Pf):U×Int:=if De r n t then(if Nf r n p then Jb t p else([],6)) else([],1)
def Jc(l:M U)(x:U):M U:=l++[x]
def Df(t:O)(f:M U):Prop:=yq t/\f.length=t.length/\∀x∈f,aV x=true
def sH(l:M U):Prop:=2<=l.length/\small l
def tI(o:Int)(l:M U):M U:=l.take (l.length-2)++[opL o (l.getD (l.length-2) []) (l.getD (l.length-1) [])]
def GJ(l:M bj)(t:O)(f:M U):Prop:=aZ l=true/\small l/\Df t f
def pI(l:M bj)(s:M U)(k:Nat):Prop:=k<=l.length/\(s.length:Int)=c9 l k
def GK(f:M U)(k:Nat):Prop:=k<=f.length/\∀x∈f.take k,aV x=true
def wB(t:B8)(p5:O)(p6:B8):Prop:=small t/\eX p5/\az p6/\small p6
def og(r:B8)(n:Int)(t:B8)(p:Pf)(k:Nat):Prop:=k<=2/\De r n t=true/\Nf r n p=true/\(1<=k->I9 t (cu p.2.2.2.2.2).2 p.2.1 p.2.2.2.1 p.2.2.2.2.2=false)/\(2<=k->Ja t p.2.1 p.2.2.1 p.2.2.2.2.2=false)
theorem QC:∀ {l m:U},l.Pairwise (· < ·)->m.Pairwise (· < ·)->(∀x,x∈l↔x∈m)->l=m
 |[],[],_,_,_=>rfl
 |[],y::m,_,_,h=>by grind[List.mem_cons_self]
 |x::l,[],_,_,h=>by grind[List.mem_cons_self]
 |x::l,y::m,H,hm,h=>by
  rw[W?] at H hm
  have k:x=y:=by
   rcases O!.1 ((h x).1 (G! ..)) with e|e;exact e;rcases O!.1 ((h y).2 (G! ..)) with e'|e';exact e'.symm;have:=H.1 y e';have:=hm.1 x e;omega
  subst k;refine congrArg _ (QC H.2 hm.2 λz=>⟨λo=>?_,λo=>?_⟩)<;>grind
theorem aaw:n∈Kz↔0<=n/\n<1000:=by
 simp[Kz,List.mem_map,List.mem_range];constructor;grind;rintro⟨h,H⟩;exact⟨n.toNat,w!,x!⟩
theorem aax:Kz.Pairwise (· < ·):=by
 rw[Kz,List.pairwise_map];exact List.pairwise_lt_range.imp λh=>by grind
variable {a:List Int}{p:Pf}
theorem pJ {k:Kp}{b:U}{x:Int}:x∈wy k a b↔(0<=x/\x<1000)/\k (qa a x) (qa b x)=true:=by
 rw[wy,List.mem_filter,aaw]
theorem AL(k:Kp)(a b:U):(wy k a b).Pairwise (· < ·):=aax.filter _
theorem aay(k:Kp)(a b:U):(wy k a b).length<=1000:=by
 refine b? (List.length_filter_le _ _) ?_;simp[Kz]
theorem xH {x:Int}(h:aV (x::l)=true):(0<=x/\x<1000)/\aV l=true/\∀y∈l,x<y:=by
 rw[jI] at h;have H:=(iI _ _).1 (h 0 z!)
 have k:∀i,i<l.length->(x::l).getD i 0<l.getD i 0/\l.getD i 0<1000:=λi hi=>by
  have:=(iI _ _).1 (h (i+1) x!);grind[lT]
 have o:∀i,i<l.length->x<l.getD i 0:=by
  intro i;induction i<;>grind
 rw[vZ] at H;simp at H;refine⟨⟨w!,H.2⟩,(jI l).2 λi hi=>(iI _ _).2 ⟨?_,(k i hi).2⟩,λy u=>?_⟩;cases i<;>grind[vZ,lT];obtain⟨i,hi,rfl⟩:=List.getElem_of_mem u;have:=o i hi;rwa [List.getD_eq_getElem?_getD,List.getElem?_eq_getElem hi] at this
theorem QD:∀ {l:U},aV l=true->l.Pairwise (· < ·)/\∀x∈l,0<=x/\x<1000
 |[],_=>by simp_all
 |x::l,h=>by
  have⟨k,o,u⟩:=xH h;have⟨g,G⟩:=QD o;refine⟨W?.2 ⟨u,g⟩,λy H=>?_⟩;rcases O!.1 H with rfl|H;exact k;exact G y H
def jQ(r s:U):Bool:=bif decide ((0:Int)<(r.length:Int)) then bif decide ((s.length:Int)=(0:Int)) then true else decide (r.getD (Int.toNat (0:Int)) 0<=s.getD (Int.toNat (0:Int)) 0) else false
def Jd(r s:U):Int:=bif jQ s r then s.getD (Int.toNat (0:Int)) 0 else bif jQ r s then r.getD (Int.toNat (0:Int)) 0 else 0
def pK(c:Bool)(r:U):U:=bif c then r.drop (Int.toNat (1:Int)) else r
def QE(r R:U)(c:Bool)(n:Int):Prop:=(∀x,x∈r↔x∈R\/(c=true/\x=n))/\(∀x∈R,n<x)/\aV R=true
theorem Uy(H:aV r=true)(h:aV s=true)(d:0<r.length\/0<s.length):
  (0<=Jd r s/\Jd r s<1000)/\QE r (pK (jQ r s) r) (jQ r s) (Jd r s)/\QE s (pK (jQ s r) s) (jQ s r) (Jd r s)/\(pK (jQ r s) r).length+(pK (jQ s r) s).length<r.length+s.length:=by
 cases r with
 |nil=>
  cases s with
  |nil=>grind
  |cons y s=>
   have⟨k,o,u⟩:=xH h;grind[jQ,Jd,pK,QE,List.length_nil,List.length_cons]
 |cons x r=>
  have⟨g,G,w⟩:=xH H;cases s with
  |nil=>
   grind[jQ,Jd,pK,QE,List.length_nil,List.length_cons]
  |cons y s=>
   have⟨k,o,u⟩:=xH h
   have e:jQ (x::r) (y::s)=decide (x<=y):=by
    grind[jQ,List.length_cons,decide_eq_true,decide_eq_false]
   have E:jQ (y::s) (x::r)=decide (y<=x):=by
    grind[jQ,List.length_cons,decide_eq_true,decide_eq_false]
   grind[Jd,pK,QE]
theorem awp {k:Kp}(hk:k false false=false)(w:aV r=true)(z:aV s=true)(d:0<r.length\/0<s.length):
  wy k r s=(if k (jQ r s) (jQ s r)=true then [Jd r s] else [])++wy k (pK (jQ r s) r) (pK (jQ s r) s):=by
 obtain⟨C,⟨D,a,_⟩,⟨E,b,_⟩,_⟩:=Uy w z d;generalize Jd r s=n at *;generalize pK _ r=R at *;generalize pK _ s=S at *;generalize jQ r s=A at *;generalize jQ s r=B at *
 have F:qa R n=false/\qa S n=false:=by
  grind[qa,decide_eq_false_iff_not]
 have h:∀x,qa r x=(qa R x || (A&&decide (x=n))):=λx=>by
  simp_all[qa,H!,Y?,B!]
 have H:∀x,qa s x=(qa S x || (B&&decide (x=n))):=λx=>by
  simp_all[qa,H!,Y?,B!]
 refine QC (AL k r s) ?_ λx=>?_
 . split
   . rw[List.singleton_append];refine W?.2 ⟨λy o=>?_,AL k R S⟩;rw[pJ] at o;cases h1:qa R y with
     |true=>exact a y (by simpa[qa] using h1)
     |false=>
      cases u:qa S y with
      |true=>exact b y (by simpa[qa] using u)
      |false=>rw[h1,u,hk] at o;cases o.2
   rw[o?];exact AL k R S
 rw[pJ,h,H,List.mem_append,pJ];grind
theorem Uz(l:U):aV (tA l)=true:=by
 unfold tA;split;omega;rfl
theorem Er(l:U):(bif !aV l then [] else l)=tA l:=by
 grind[tA,aV]
theorem aqr(k:Kp)(a b:U):mG k a b (tA a,tA b,[]):=⟨o? _,Uz a,Uz b⟩
theorem WQ {k:Kp}(o:k false false=false){b:U}{x:Pk}(h:mG k a b x)(u:(bif decide ((0:Int)<(x.1.length:Int)) then true else decide ((0:Int)<(x.2.1.length:Int)))=false):x.2.2=wz k a b:=by
 have⟨w,_,_⟩:=h
 have e:x.1=[]:=by
  simp_all
 have E:x.2.1=[]:=by
  simp_all
 have :wy k [] []=[]:=List.eq_nil_iff_forall_not_mem.2 λy H=>by
  rw[pJ] at H;have :qa [] y=false:=rfl;grind
 grind
theorem mw(h:jQ r s=true):(0:Int)<(r.length:Int)/\(1:Int)<=(r.length:Int):=by
 grind[jQ]
theorem aaz {k:Kp}(y:k false false=false){b:U}{x:Pk}(h:mG k a b x)(B:(bif decide ((0:Int)<(x.1.length:Int)) then true else decide ((0:Int)<(x.2.1.length:Int)))=true):
  x.2.2.length<=1000/\(k (jQ x.1 x.2.1) (jQ x.2.1 x.1)=true->mG k a b (pK (jQ x.1 x.2.1) x.1,pK (jQ x.2.1 x.1) x.2.1,x.2.2++[Jd x.1 x.2.1]))/\(k (jQ x.1 x.2.1) (jQ x.2.1 x.1)=false->mG k a b (pK (jQ x.1 x.2.1) x.1,pK (jQ x.2.1 x.1) x.2.1,x.2.2))/\
  je (pK (jQ x.1 x.2.1) x.1,pK (jQ x.2.1 x.1) x.2.1,x.2.2++[Jd x.1 x.2.1])<je x/\je (pK (jQ x.1 x.2.1) x.1,pK (jQ x.2.1 x.1) x.2.1,x.2.2)<je x:=by
 have⟨z,o,u⟩:=h
 have d:0<x.1.length\/0<x.2.1.length:=by
  grind
 have⟨_,⟨_,_,f⟩,⟨_,_,F⟩,w⟩:=Uy o u d;have C:=awp y o u d;have H:=congrArg List.length z;rw[List.length_append] at H;have:=aay k (tA a) (tA b);refine⟨?_,λA=>⟨?_,f,F⟩,λA=>⟨?_,f,F⟩,w,w⟩;unfold wz at H;omega;grind;grind
variable {x:List B8}{s:B8}{l:List bj}
theorem Je(H:yq x)(h:qY x t i j)(B:i<j):
  (i+j)%18446744073709551616/2^Int.toNat 1=(i+j)/2/\0<=i/\i<=(i+j)/2/\(i+j)/2<j/\j<=x.length/\(x.length:Int)<=1099511627776:=by
 have k:=H.2;unfold small at k;have⟨o,u,w,_⟩:=h;grind
theorem QG(h:qM x){a b:Nat}(k:a<b)(H:b<x.length):Op.bytesLess (x.getD a []) (x.getD b [])=true:=by
 rw[E!,C! w!,E!,C! H];exact List.pairwise_iff_getElem.1 h a b _ H k
theorem aG8(H:yq x)(h:qY x t i j)(z:i<=m)(A:m<j)(o:Op.bytesLess (x.getD m.toNat []) t=true):qY x t (m+1) j:=by
 have⟨B,C,u,D,w⟩:=h;refine⟨w!,w!,u,λk E=>?_,w⟩;by_cases y:k=m.toNat;grind;exact iC _ _ _ (QG H.1 (show k<m.toNat by omega) w!) o
theorem aG9(H:yq x)(h:qY x t i j)(o:i<=m)(A:m<j)(B:Op.bytesLess (x.getD m.toNat []) t=false):qY x t i m:=by
 have⟨u,C,D,w,E⟩:=h;refine⟨u,o,w!,w,λk F V=>?_⟩;by_cases y:k=m.toNat;grind;rw[Bool.eq_false_iff];intro z;have:=iC _ _ _ (QG H.1 (show m.toNat<k by omega) V) z;grind
theorem aHa(H:yq x)(h:qY x t i j)(k:i<=m)(o:m<j):
  qY x t (bif Op.bytesLess (x.getD m.toNat []) t then m+1 else i) (bif Op.bytesLess (x.getD m.toNat []) t then j else m)/\
  ((bif Op.bytesLess (x.getD m.toNat []) t then j else m)-(bif Op.bytesLess (x.getD m.toNat []) t then m+1 else i)).toNat<(j-i).toNat:=by
 grind[aG8,aG9]
theorem afz(h:qY x t i j)(B:¬i<j):i=(mH x t:Int):=by
 obtain⟨w,y,z,o,A⟩:=h
 have e:x.filter (λa=>Op.bytesLess a t)=x.take j.toNat:=by
  conv=>lhs;rw[<-O? j.toNat x]
  have E:(x.take j.toNat).filter (λa=>Op.bytesLess a t)=x.take j.toNat:=List.filter_eq_self.2 λa H=>by
   obtain⟨k,u,rfl⟩:=l? H;rw[C?] at u;have:=o k w!;rw[E!,C! w!] at this;rw[List.getElem_take];exact this
  have C:(x.drop j.toNat).filter (λa=>Op.bytesLess a t)=[]:=List.filter_eq_nil_iff.2 λa H=>by
   grind[List.getElem_of_mem]
  grind
 grind[mH,List.length_take]
theorem awq(u:yq x)(h:qY x t i j)(D:¬i<j):
  (bif decide (i<(x.length:Int)) then bif decide (x.getD i.toNat []=t) then true else bif false then false else false else false)=Bt x t:=by
 have⟨E,F,G,w,y⟩:=h;have z:j=i:=by omega
 subst z;rw[Bt,Bool.eq_iff_iff];have e:∀a b:Bool,(bif a then bif b then true else bif false then false else false else false)=true↔a=true/\b=true:=by decide
 rw[e,decide_eq_true_eq,decide_eq_true_eq,decide_eq_true_eq];constructor;grind;intro B;obtain⟨k,hk,rfl⟩:=List.getElem_of_mem B;have H:x.getD k []=x[k]:=by rw[List.getD_eq_getElem?_getD,List.getElem?_eq_getElem hk];rfl
 have C:j<=k:=by
  apply Classical.byContradiction;intro I;have:=w k w!;rw[H,cJ] at this;cases this
 refine⟨w!,?_⟩;by_cases A:k=j.toNat;rw[<-A];exact H;have h1:=QG u.1 (show j.toNat<k by omega) hk;have o:=y j.toNat w! w!;rw[H] at h1;rw[h1] at o;cases o
theorem afA(h:Bt x t=true):mH x t<x.length:=by
 have H:t∈x:=of_decide_eq_true h;grind[mH,Nat.not_le,List.filter_eq_self,List.Sublist.eq_of_length_le,List.filter_sublist,cJ]
variable {t:List B8}{x:Pr}{a:B8}
theorem aaA(k:Df t f)(h:(!Bt t s)=false):(0<=(mH t s:Int)/\(mH t s:Int)<(f.length:Int))/\small (f.getD (Int.toNat (mH t s:Int)) [])/\f.getD (Int.toNat (mH t s:Int)) []=od t f s:=by
 have H:Bt t s=true:=by grind
 have o:=afA H;have⟨_,u,w⟩:=k;rw[Int.toNat_natCast];refine⟨⟨w!,w!⟩,?_,by rw[od,if_pos H]⟩;grind[mz,aU,mH,small]
theorem awr(h:(!Bt t s)=true): []=od t f s:=by
 simp_all[Bt,od,R!]
theorem aws(f:B8->U)(l:M bj): []=jU f l 0:=by rfl
variable {f:B8->List Int}{s:List (List Int)}
theorem GL{k:Nat}(hk:k<l.length):jU f l (k+1)=mV f (jU f l k) (l.getD k (0,[])):=by
 rw[jU,an l k _ hk,List.foldl_append];rfl
theorem aqs {o:Int}(h:2<=s.length):(tI o s).length=s.length-1:=by
 grind[tI,List.length_append,List.length_take]
theorem Ò{k:Nat}(H:(k:Int)<l.length)(h:(cM l k).1=0):Jc (jU f l k) (f (cM l k).2)=jU f l (k+1):=by
 rw[GL w!];show _=mV f _ (cM l k);rw[mV,Q! h];rfl
theorem NG{l:M bj}{k:Nat}{o:Int}(H:(k:Int)<l.length)(h:(cM l k).1=o)(u:o≠0):tI o (jU f l k)=jU f l (k+1):=by
 rw[GL w!];show _=mV f _ (cM l k);rw[mV,R! w!,<-h];rfl
theorem aNF(h:aZ l=true){k:Nat}(H:(k:Int)<l.length):wx l k=true:=by
 simp_all[aZ,B!,V!,f?]
theorem Jf(h:aZ l=true){k:Nat}(H:(k:Int)<l.length):0<=(cM l k).1/\(cM l k).1<=3/\((cM l k).1≠0->2<=c9 l k):=by
 have:=aNF h H;grind[wx]
theorem WR(l:M bj)(k:Nat):c9 l k<=k:=by
 have:=gR l k;grind[c9]
theorem aNG(l:M bj):pI l [] 0:=⟨S! _,by rfl⟩
variable {f:List (List Int)}
theorem NH{k:Nat}(H:GJ l t f)(h:pI l s k)(o:(k:Int)<l.length)(u:(cM l k).1≠0):sH s:=by
 have:=(Jf H.1 o).2.2 u;have w:=h.2;have y:=WR l k;have z:=H.2.1;refine⟨w!,by grind[small]⟩
theorem alD{k:Nat}(H:GJ l t f)(h:pI l s k):small s:=by
 have o:=h.2;have u:=WR l k;have w:=H.2.1;have y:=h.1;grind[small]
theorem aqt {l:M bj}{g:B8->U}{k:Nat}(h:pI l (jU g l k) k)(hk:(k:Int)<l.length)(H:(cM l k).1=0):pI l (jU g l (k+1)) (k+1):=by
 refine⟨w!,?_⟩;rw[<-Ò hk H,Jc,J!,zq H,<-h.2];simp
theorem QH {l:M bj}{g:B8->U}{k:Nat}(H:GJ l t f)(h:pI l (jU g l k) k)(hk:(k:Int)<l.length){o:Int}(u:(cM l k).1=o)(w:o≠0):pI l (jU g l (k+1)) (k+1):=by
 have y:=(NH H h hk w!).1;refine⟨w!,?_⟩;rw[<-NG hk u w,aqs y,uH w!,<-h.2];omega
theorem afB{k:Nat}(H:GJ l t f)(h:pI l s k)(u:¬(k:Int)<l.length):0<s.length/\k=l.length:=by
 have e:k=l.length:=by have:=h.1;omega
 have o:=H.1;simp[aZ,Bool.and_eq_true,decide_eq_true_eq] at o;have w:=h.2;grind
theorem UA(h:small l):yq (al l):=by
 refine⟨iX _,?_⟩;have H:=bc (pj l);grind[pj,bL,List.length_map,Nat.le_trans,List.length_filter_le,small,al]
theorem KA(h:lO l f=false): []=(iM l f).1/\1=(iM l f).2:=by
 grind[iM]
theorem afC(h:lO l f=true):Dd l (al l) f=(iM l f).1/\0=(iM l f).2:=by
 grind[iM]
theorem aqu{k:Nat}(h:GK f k)(o:(k:Int)<f.length)(u:aV (f.getD k [])=true):GK f (k+1):=by
 refine⟨w!,λx H=>?_⟩;rw[an f k [] w!,I!,s?] at H;rcases H with H|rfl;exact h.2 x H;omega
theorem WS{k:Nat}(h:GK f k)(H:¬(k:Int)<f.length):f.all aV=true:=by
 have e:k=f.length:=by have:=h.1;omega
 have:=h.2;grind
theorem afD{k:Nat}(h:(k:Int)<f.length)(H:aV (f.getD k [])=false):f.all aV=false:=by
 grind
theorem qZ(b:B8)(a e:Int):0<=(ag b a e).2/\(ag b a e).2<=4611686018427387904:=by
 unfold ag;split;omega;split;omega;rename_i h _
 have H:dK b a:=by
  unfold bV at h;unfold dK;by_cases k:e=0/\inside b a=false;grind;simp_all[if_neg,inside,Bool.and_eq_true,decide_eq_true_eq]
 simp_all[PJ]
theorem aNH {b:B8}(h:(oe b).1.2.2=0)(H:¬1000<(oe b).2):wA b 0 ((oe b).1.2.1,(oe b).1.2.2,-1,[]):=by
 have:=(qZ b 0 0).1;refine⟨this,h,w!,?_,z!,z!,rfl⟩;simp_all[cu,R!]
theorem afE(h:¬(oe b).1.2.2=0): []=(cu b).1/\(oe b).1.2.2=(cu b).2:=by
 simp_all[cu,Q!]
theorem Ó {b:B8}(h:(oe b).1.2.2=0)(H:1000<(oe b).2): []=(cu b).1/\2=(cu b).2:=by
 simp_all[cu,R!,Q!]
theorem WT{k:Nat}(h:wA b k x)(H:(k:Int)<(oe b).2):cu b=
  if(ag b x.1 x.2.1).1.2.2≠0 then([],(ag b x.1 x.2.1).1.2.2) else if 998-x.2.2.1<(ag b x.1 x.2.1).2 then([],2)
  else pn b ((oe b).2.toNat-(k+1)) (ag b x.1 x.2.1).1.2.1 (ag b x.1 x.2.1).1.2.2 (x.2.2.1+((ag b x.1 x.2.1).2+1)) (x.2.2.2++[x.2.2.1+((ag b x.1 x.2.1).2+1)]):=by
 have o:=h.2.2.2.1;have e:(oe b).2.toNat-k=((oe b).2.toNat-(k+1))+1:=by omega
 grind[pn]
theorem afF {b:B8}{k:Nat}(h:wA b k x)(hk:(k:Int)<(oe b).2)(h1:¬(ag b x.1 x.2.1).1.2.2=0): []=(cu b).1/\(ag b x.1 x.2.1).1.2.2=(cu b).2:=by
 rw[WT h hk,if_pos h1];grind
theorem afG {b:B8}{k:Nat}{x:Pr}(h:wA b k x)(hk:(k:Int)<(oe b).2)(o:(ag b x.1 x.2.1).1.2.2=0)(H:998-x.2.2.1<(ag b x.1 x.2.1).2): []=(cu b).1/\2=(cu b).2:=by
 rw[WT h hk,if_neg w!,if_pos H];grind
theorem aqv {b:B8}{k:Nat}{x:Pr}(h:wA b k x)(o:(k:Int)<(oe b).2)(w:(ag b x.1 x.2.1).1.2.2=0)(u:¬998-x.2.2.1<(ag b x.1 x.2.1).2):
  wA b (k+1) ((ag b x.1 x.2.1).1.2.1,(ag b x.1 x.2.1).1.2.2,x.2.2.1+((ag b x.1 x.2.1).2+1),x.2.2.2++[x.2.2.1+((ag b x.1 x.2.1).2+1)]):=by
 have H:=WT h o;rw[if_neg w!,if_neg u] at H;have y:=(qZ b x.1 x.2.1).1;have⟨_,g,G,_,z,A,B⟩:=h;refine⟨w!,g,G,H.symm,x!,x!,x!⟩
theorem Jg{k:Nat}(h:wA b k x)(H:¬(k:Int)<(oe b).2):cu b=if done b x.1 x.2.1=0 then(x.2.2.2,0) else([],done b x.1 x.2.1):=by
 have o:=h.2.2.2.1;simp_all[oe,pn]
variable {t:B8}
theorem awt {r:B8}(p:Pf)(h:De r n t=false): []=(jr r n t p).1/\1=(jr r n t p).2:=by
 grind[jr]
theorem aqw {r:B8}(h:De r n t=true)(H:Nf r n p=false): []=(jr r n t p).1/\6=(jr r n t p).2:=by
 grind[jr]
theorem WU {r:B8}(h:De r n t=true)(H:Nf r n p=true):jr r n t p=Jb t p:=by
 grind[jr]
theorem aHc(a b:B8):(!(Op.bytesLess a b || decide (a=b)))=Op.bytesLess b a:=by
 grind[pg,y8,cJ,decide_eq_false]
theorem WV {r:B8}(h:(r.length:Int)=32/\¬n<1/\¬1099511627776<n/\isTerm t=true):De r n t=true:=by
 simp_all[De,B!,H!]
theorem awu {r:B8}(h:¬(r.length:Int)=32\/n<1\/1099511627776<n\/isTerm t=false):De r n t=false:=by
 simp[De,Ne,Bool.and_eq_true,decide_eq_true_eq];grind
theorem QI {c:B8}(h:kJ a b c=0):eR a b c=true/\dw a b c=mc a b c:=by
 simp_all[kJ,dw,Q!]
theorem aqx {c:B8}(h:¬kJ a b c=0):eR a b c=false:=by
 grind[kJ]
theorem aaB {c:B8}(h:kJ a b c=0):az (dw a b c):=by
 have⟨H,k⟩:=QI h;simp[eR,Bool.and_eq_true,decide_eq_true_eq] at H;grind[q1,cU,q2,az,mc,text,List.length_append]
theorem aHd {r:B8}(h:kJ p.2.1 p.2.2.1 p.2.2.2.1=0)(H:cB (leaf (dw p.2.1 p.2.2.1 p.2.2.2.1)) p.1 n p.2.2.2.2.1=0/\jO (leaf (dw p.2.1 p.2.2.1 p.2.2.2.1)) p.1 n p.2.2.2.2.1=r):Nf r n p=true:=by
 grind[QI,Nf,WO,decide_true,Bool.and_self]
theorem awv {r:B8}(h:¬kJ p.2.1 p.2.2.1 p.2.2.2.1=0):Nf r n p=false:=by
 simp_all[Nf,aqx,Bool.false_and]
theorem aww {r:B8}(h:kJ p.2.1 p.2.2.1 p.2.2.2.1=0)(H:¬cB (leaf (dw p.2.1 p.2.2.1 p.2.2.2.1)) p.1 n p.2.2.2.2.1=0\/¬jO (leaf (dw p.2.1 p.2.2.1 p.2.2.2.1)) p.1 n p.2.2.2.2.1=r):Nf r n p=false:=by
 have⟨g1,g⟩:=QI h;simp[Nf,WO,g1,Bool.true_and];grind
theorem aHe {r:B8}(h:De r n t=true)(H:Nf r n p=true):og r n t p 0:=⟨w!,h,H,w!,w!⟩
theorem aHf {r:B8}{k:Nat}(h:og r n t p k)(o:(k:Int)=0)(H:I9 t (cu p.2.2.2.2.2).2 p.2.1 p.2.2.2.1 p.2.2.2.2.2=false):og r n t p (k+1):=
 ⟨w!,h.2.1,h.2.2.1,λ_=>H,w!⟩
theorem aHg {r:B8}{k:Nat}(h:og r n t p k)(o:(k:Int)=1)(H:Ja t p.2.1 p.2.2.1 p.2.2.2.2.2=false):og r n t p (k+1):=
 ⟨w!,h.2.1,h.2.2.1,λ_=>h.2.2.2.1 w!,λ_=>H⟩
theorem afH {r:B8}{k:Nat}(h:og r n t p k)(h1:I9 t (cu p.2.2.2.2.2).2 p.2.1 p.2.2.2.1 p.2.2.2.2.2=true):(cu p.2.2.2.2.2).1=(jr r n t p).1/\0=(jr r n t p).2:=by
 rw[WU h.2.1 h.2.2.1,Jb,h1];grind
theorem afI {r:B8}{k:Nat}(h:og r n t p k)(H:(k:Int)=1)(h1:Ja t p.2.1 p.2.2.1 p.2.2.2.2.2=true): []=(jr r n t p).1/\0=(jr r n t p).2:=by
 rw[WU h.2.1 h.2.2.1,Jb,h.2.2.2.1 w!,h1];grind
theorem awx {r:B8}{k:Nat}(h:og r n t p k)(H:¬(k:Int)<((2:Nat):Int)): []=(jr r n t p).1/\6=(jr r n t p).2:=by
 rw[WU h.2.1 h.2.2.1,Jb,h.2.2.2.1 w!,h.2.2.2.2 w!];grind
end Go.S
namespace Go.S
open Go.Vg (CF Z bX)
def Mw(a:M (M Pf))(i j:Int):Pf:=pfD (fu a i.toNat) j.toNat
def wV(g:Sg)(w:B8)(a:M (M Pf))(i j:Int):U×Int:=jr g.2.2.2 g.2.2.1 w (Mw a i j)
def ud(g:Sg)(w:B8)(a:M (M Pf))(i j:Int):Bool:=decide ((wV g w a i j).2=0)&&xG (wV g w a i j).1 g.1 g.2.1
def QJ(w:B8)(a:M (M Pf))(i j:Int):Prop:=(0<=i/\i<a.length)/\(0<=j/\j<(fu a i.toNat).length)/\wB w (Mw a i j).2.2.2.2.1 (Mw a i j).2.2.2.2.2
def UB(j:Int)(q n:Nat)(l:U):Prop:=q=j.toNat/\q<n/\small l
def QK(l m:U):U:=l++m
def QL(g:Sg)(w:B8)(a:M (M Pf))(i j:Int)(l:U):U:=if ud g w a i j then QK l (wV g w a i j).1 else l
def aqy(r:B8)(n:Int)(g:B8)(l:M Sg):CF:=λz=>(True,.bool (EH n g l r),z)
def afJ(a:M (M Pf))(i:Int)(t:O):CF:=λz=>(0<=i/\i<(a.length:Int),.bool (qW a i t),z)
def GM(b E:Nat)(g:Sg)(w:B8)(a:M (M Pf))(i j:Int):CF:=λz=>match z with
 |.g e ei l=>(e=b/\ei=E/\QJ w a i j/\UB j j.toNat l.length (l.getD j.toNat []),.bool (ud g w a i j),.g e ei (l.set j.toNat (QL g w a i j (l.getD j.toNat []))))
 |z=>(False,.bool false,z)
def EI(l:M Sg)(i:Nat):Sg:=l.getD i (0,0,0,[])
def QM(E e:Nat)(s:M Sg)(a:M (M Pf))(t:O)(i k:Nat):M CF:=
 afJ a i t::(List.range k).map λ(j:Nat)=>GM E e (EI s i) (t.getD j []) a i j
def conds(E e:Nat)(r:B8)(n:Int)(g:B8)(s:M Sg)(a:M (M Pf))(t:O):Nat->M CF
 |0=>[aqy r n g s]
 |i+1=>conds E e r n g s a t i++QM E e s a t i t.length
def ra(E e:Nat)(r:B8)(n:Int)(g:B8)(s:M Sg)(a:M (M Pf))(t:O)(i k:Nat):M CF:=
 conds E e r n g s a t i++QM E e s a t i k
def AM(s:M Sg)(a:M (M Pf))(t:O)(i k:Nat):Bool:=(List.range k).all λ(j:Nat)=>ud (EI s i) (t.getD j []) a i j
def AN(s:M Sg)(a:M (M Pf))(t:O)(i:Nat):Bool:=(List.range i).all λ(i:Nat)=>qW a i t&&AM s a t i t.length
def tJ(s:M Sg)(a:M (M Pf))(t:O)(j:Nat):Nat->U
 |0=>[]
 |i+1=>QK (tJ s a t j i) (wV (EI s i) (t.getD j []) a i j).1
def wD(s:M Sg)(a:M (M Pf))(t:O)(i k:Nat):M U:=(List.range t.length).map λ(j:Nat)=>tJ s a t j (if j<k then i+1 else i)
def xI(s:M Sg)(a:M (M Pf))(t:O)(i:Nat):M U:=(List.range t.length).map λ(j:Nat)=>tJ s a t j i
def Fy(r:B8)(a:Int×B8×M Sg×M (M Pf))(t:O):Bool:=EH a.1 a.2.1 a.2.2.1 r&&AN a.2.2.1 a.2.2.2 t a.2.2.1.length
def fJ(r:B8)(l:M bj)(b:B8):U×Int:=
 if(bif !decide ((r.length:Int)=32) then true else !aZ l) then([],1) else if(aI b).2≠0 then([],(aI b).2)
 else if Fy r (aI b).1 (al l) then iM l (xI (aI b).1.2.2.1 (aI b).1.2.2.2 (al l) (aI b).1.2.2.1.length) else([],6)
def afK(b:B8)(k:Nat):Prop:=k<=(aI b).1.2.2.1.length/\(aI b).2=0
def WW(b:B8)(t:O)(k j:Nat):Prop:=k<(aI b).1.2.2.1.length/\j<=t.length/\(aI b).2=0
theorem Fz:∀(l m:M CF) (z:Z),((bX (l++m) z).1↔(bX l z).1/\((bX l z).2.1=true->(bX m (bX l z).2.2).1))/\(bX (l++m) z).2.1=((bX l z).2.1&&(bX m (bX l z).2.2).2.1)/\((bX l z).2.1=true->(bX (l++m) z).2.2=(bX m (bX l z).2.2).2.2)
 |[],m,z=>by simp[bX]
 |F::l,m,z=>by
  have⟨h,H,a⟩:=Fz l m (F z).2.2;simp[List.cons_append,bX];grind
structure rb (l:List CF) (z z':Z) (o:Bool):Prop where
 pre:(bX l z).1
 ok:(bX l z).2.1=o
 to:o=true->(bX l z).2.2=z'
theorem rb.snoc {l m:M CF}{z b c:Z}{o O:Bool}(h:rb l z b o)(g:o=true->rb m b c O):rb (l++m) z c (o&&O):=by
 have⟨H,a,d⟩:=Fz l m z;cases o with
 |false=>exact⟨H.2 ⟨h.pre,λq=>by rw[h.ok] at q;cases q⟩,by rw[a,h.ok];rfl,nofun⟩
 |true=>
  obtain⟨G,g2,e⟩:=g rfl;rw[(h.to rfl)] at H a d;exact⟨H.2 ⟨h.pre,λ_=>G⟩,by rw[a,h.ok,g2],λq=>by rw[d h.ok];grind⟩
theorem rb.one {F:CF}{z:Z}{b:Bool}(h:(F z).1)(h1:(F z).2.1= .bool b):rb [F] z (F z).2.2 b:=by
 refine⟨⟨h,by rw[h1];rfl,λ_=>trivial⟩,?_,λq=>?_⟩;simp[bX,h1];rfl;grind[bX]
theorem awy(s:M Sg)(a:M (M Pf))(t:O)(i:Nat):wD s a t i 0=xI s a t i:=by
 rfl
theorem alE(s:M Sg)(a:M (M Pf))(t:O)(i:Nat):wD s a t i t.length=xI s a t (i+1):=by
 simp_all[wD,xI,g?,Q!,f?]
theorem KB(s:M Sg)(a:M (M Pf))(t:O)(i k:Nat):(wD s a t i k).length=t.length:=by simp[wD]
variable {a:List (List Pf)}{i e0 ei0:Nat}{s:List Sg}{t:List B8}{b g:B8}{l:List bj}{n:Int}
theorem Ô{k:Nat}(hk:k<t.length):(wD s a t i k).getD k []=tJ s a t k i:=by
 rw[E!,wD,A?,List.getElem?_range hk];simp
theorem alF{k:Nat}(hk:k<t.length):(wD s a t i k).set k (tJ s a t k (i+1))=wD s a t i (k+1):=by
 apply List.ext_getElem?;intro j;rw[List.getElem?_set,KB];by_cases H:j<t.length;by_cases h:k=j;subst h;rw[if_pos rfl,if_pos hk,wD,List.getElem?_map,List.getElem?_range hk];simp;rw[if_neg h,wD,wD,List.getElem?_map,List.getElem?_map,List.getElem?_range H];grind;grind[List.getElem?_eq_none,KB]
theorem Mx(b:B8):∀(n:Nat) (a e p:Int) (l:U),(pn b n a e p l).1.length<=l.length+n
 |0,a,e,p,l=>by
  grind[pn]
 |n+1,a,e,p,l=>by
  unfold pn;split;simp;split;simp;have:=Mx b n (ag b a e).1.2.1 (ag b a e).1.2.2 (p+((ag b a e).2+1)) (l++[p+((ag b a e).2+1)]);rw[List.length_append,List.length_singleton] at this;omega
theorem Õ(b:B8):(cu b).1.length<=1000:=by
 grind[cu,Mx,oe,List.length_nil]
theorem UC(r:B8)(n:Int)(t:B8)(p:Pf):(jr r n t p).1.length<=1000:=by
 grind[jr,Jb,Õ]
theorem QN(s:M Sg)(a:M (M Pf))(t:O)(j:Nat):∀i,(tJ s a t j i).length<=1000*i
 |0=>by simp[tJ]
 |i+1=>by
  have h:=QN s a t j i;have H:=UC (EI s i).2.2.2 (EI s i).2.2.1 (t.getD j []) (Mw a i j);rw[tJ,QK,J!,wV];omega
def WX(s:M Sg)(a:M (M Pf))(t:O):Prop:=s.length=a.length/\s.length<=64/\t.length<=1099511627776/\(∀w∈t,small w)/\∀x∈a,∀p∈x,eX p.2.2.2.2.1/\az p.2.2.2.2.2/\small p.2.2.2.2.2
theorem aqz(c:WX s a t){k:Nat}(o:i<s.length)(d:qW a i t=true)(e:k<t.length):QJ (t.getD k []) a i k:=by
 have⟨p,r,u,f,j⟩:=c;have d:(a.getD i []).length=t.length:=by grind[qW]
 have h:i<a.length:=by omega
 have H:Mw a i k∈a.getD i []:=by
  grind[Mw,pfD,fu,aU,Fu]
 have⟨q,Q,m⟩:=j _ (aU a i [] h) _ H;refine⟨⟨w!,w!⟩,⟨w!,?_⟩,f _ (aU t k [] e),q,Q,m⟩;grind[fu]
theorem alG{k:Nat}(h:ud (EI s i) (t.getD k []) a i k=true):QL (EI s i) (t.getD k []) a i k (tJ s a t k i)=tJ s a t k (i+1):=by
 rw[QL,Q! h];rfl
theorem Bu {c:Type}(f:Nat->c)(k:Nat):(List.range (k+1)).map f=(List.range k).map f++[f k]:=by
 rw[List.range_succ,X?];rfl
theorem aEF {e0 ei0:Nat}{s:M Sg}{a:M (M Pf)}{t:O}(H:WX s a t){i:Nat}(c:i<s.length)(d:qW a i t=true):∀k,k<=t.length->
  rb ((List.range k).map λ(j:Nat)=>GM e0 ei0 (EI s i) (t.getD j []) a i j) (.g e0 ei0 (wD s a t i 0)) (.g e0 ei0 (wD s a t i k)) (AM s a t i k)
 |0,_=>⟨trivial,rfl,λ_=>rfl⟩
 |k+1,hk=>by
  rw[Bu]
  have e:AM s a t i (k+1)=(AM s a t i k&&ud (EI s i) (t.getD k []) a i k):=by
   unfold AM;rw[List.range_succ,List.all_append];simp
  rw[e];refine(aEF H c d k w!).snoc λ_=>?_;have y:k<t.length:=by omega
  have E:((k:Int)).toNat=k:=by simp
  have f:=QN s a t k i
  have h:=rb.one (F:=GM e0 ei0 (EI s i) (t.getD k []) a i k) (z:=.g e0 ei0 (wD s a t i k))
   ⟨rfl,rfl,aqz H c d y,by rw[E,Ô y,KB];exact⟨E.symm,y,by have:=H.2.1;grind[small]⟩⟩ rfl
  refine⟨h.pre,h.ok,λq=>?_⟩;rw[h.to q];grind[GM,Ô,alG,alF]
theorem aEG {e0 ei0:Nat}{root:B8}{n:Int}{g:B8}{s:M Sg}{a:M (M Pf)}{t:O}(h:WX s a t):∀i,i<=s.length->
  rb (conds e0 ei0 root n g s a t i) (.g e0 ei0 (xI s a t 0)) (.g e0 ei0 (xI s a t i)) (EH n g s root&&AN s a t i)
 |0,_=>by
  have:=rb.one (F:=aqy root n g s) (z:=.g e0 ei0 (xI s a t 0)) trivial rfl;have e:(EH n g s root&&AN s a t 0)=EH n g s root:=by simp[AN]
  rw[e];exact this
 |i+1,hi=>by
  have e:AN s a t (i+1)=(AN s a t i&&(qW a i t&&AM s a t i t.length)):=by
   unfold AN;rw[List.range_succ,List.all_append];simp
  rw[e,<-Bool.and_assoc];refine(aEG h i w!).snoc λ_=>?_
  have H:=(rb.one (F:=afJ a i t) (by have:=h.1;exact⟨w!,w!⟩) rfl).snoc λc=>by
   have:=aEF (e0:=e0) (ei0:=ei0) h (show i<s.length by omega) c t.length (M! _);rw[awy,alE] at this;exact this
  exact H
theorem awz(s:M Sg)(a:M (M Pf))(t:O):xI s a t 0=List.replicate t.length []:=by
 rw[List.eq_replicate_iff];refine⟨by simp[xI],λx h=>?_⟩;obtain⟨j,_,rfl⟩:=U?.1 h;rfl
theorem WY(z:b.length<1099511627776)(f:dq l)(h:(aI b).2=0):WX (aI b).1.2.2.1 (aI b).1.2.2.2 (al l):=by
 have j:∀(k:Nat) (a e:Int),(tG b a e k).2.length=k/\∀x∈(tG b a e k).2,∀p∈x,p.2.2.2.2.1.length<=64/\p.2.2.2.2.2.length<=b.length:=by
  intro k a e;induction k with
  |zero=>exact⟨rfl,nofun⟩
  |succ k i=>
   refine⟨by grind[tG],λx H=>?_⟩;simp only[tG,List.mem_append,List.mem_singleton] at H;rcases H with H|rfl;grind
   . have d:∀(m:Nat) (a e:Int),∀p∈(Fx b a e m).2,p.2.2.2.2.1.length<=64/\p.2.2.2.2.2.length<=b.length:=by
      intro m a e;induction m with
      |zero=>exact nofun
      |succ m i=>
       intro p c;simp only[Fx,List.mem_append,List.mem_singleton] at c;rcases c with c|rfl;grind;refine⟨?_,I5 _ _ _ _⟩<;>grind[I5,jc,q3,sc,WK,WL]
     exact d _ _ _
 have r:=(UA f.1).2
 have u:∀w∈al l,small w:=λw v=>by
  have:=(ir (pj l) w).1 v;simp only[pj,bL,U?,List.mem_filter] at this;obtain⟨o,⟨y,_⟩,rfl⟩:=this;exact f.2 o (List.mem_of_mem_take y)
 have Y:aI b=(((aH b).2.1,(aH b).2.2.1,(aH b).2.2.2,(kp b (aN b)).2),0):=by
  grind[aED,aqe,aEC]
 rw[Y];have:=j (aN b) (aH b).1.1 (aH b).1.2;refine⟨this.1.symm,aap b,r,u,λx H p c=>?_⟩;have q:=this.2 x H p c;grind[eX,az,small]
theorem QO(e0 ei0:Nat)(s:M Sg)(a:M (M Pf))(t:O)(i k:Nat):(QM e0 ei0 s a t i k).length=k+1:=by simp[QM]
theorem GN {e0 ei0:Nat}{r:B8}{n:Int}{g:B8}{s:M Sg}{a:M (M Pf)}{t:O}:∀i,(conds e0 ei0 r n g s a t i).length=1+i*(t.length+1)
 |0=>by simp[conds]
 |i+1=>by rw[conds,J!,GN i,QO,Nat.succ_mul];omega
theorem WZ{r:B8}(i k:Nat):(ra e0 ei0 r n g s a t i k).length=1+i*(t.length+1)+(k+1):=by
 rw[ra,J!,GN,QO]
theorem SR{r:B8}(i k:Nat):
  ra e0 ei0 r n g s a t i k++[GM e0 ei0 (EI s i) (t.getD k []) a i k]=ra e0 ei0 r n g s a t i (k+1):=by
 grind[ra,QM,Bu,List.append_assoc]
theorem afL(H:b.length<1099511627776)(c:dq l)(h:(aI b).2=0):(aI b).1.2.2.1.length<=64:=(WY H c h).2.1
theorem afM {b:B8}(H:b.length<1099511627776)(c:dq l)(h:(aI b).2=0)(d:aZ l=true)(e:i<=(aI b).1.2.2.1.length):i*((al l).length+1)<=1088:=by
 have f:=afL H c h;have j:=qe d;exact b? (Nat.mul_le_mul (show i<=64 by omega) (show(al l).length+1<=17 by omega)) (by decide)
theorem QP {r:B8}(h:(r.length:Int)=32/\aZ l=true):¬(bif !decide ((r.length:Int)=32) then true else !aZ l)=true:=by
 grind
theorem aHh {r:B8}(h:¬(r.length:Int)=32\/aZ l=false):(bif !decide ((r.length:Int)=32) then true else !aZ l)=true:=by
 grind
theorem awA {r:B8}(h:(bif !decide ((r.length:Int)=32) then true else !aZ l)=true): []=(fJ r l b).1/\1=(fJ r l b).2:=by
 simp_all[fJ,Q!]
theorem awB {r:B8}(h:¬(bif !decide ((r.length:Int)=32) then true else !aZ l)=true)(H:¬(aI b).2=0): []=(fJ r l b).1/\(aI b).2=(fJ r l b).2:=by
 simp_all[fJ,R!,Q!]
theorem Jh{r:B8}{b:B8}(H:b.length<1099511627776)(c:dq l)(h:(aI b).2=0){k:Nat}(d:k=(aI b).1.2.2.1.length):
  rb (conds e0 ei0 r (aI b).1.1 (aI b).1.2.1 (aI b).1.2.2.1 (aI b).1.2.2.2 (al l) k) (.g e0 ei0 (Vg.aE.L9 (Int.toNat ((al l).length:Int)))) (.g e0 ei0 (xI (aI b).1.2.2.1 (aI b).1.2.2.2 (al l) (aI b).1.2.2.1.length)) (Fy r (aI b).1 (al l)):=by
 subst d;have:=aEG (e0:=e0) (ei0:=ei0) (root:=r) (n:=(aI b).1.1) (g:=(aI b).1.2.1) (WY H c h) _ (M! _);rw[awz] at this;exact this
theorem aqA {r:B8}{l:M bj}{b:B8}{c:M CF}{z d:Z}(f:¬(bif !decide ((r.length:Int)=32) then true else !aZ l)=true)(h:(aI b).2=0)(H:rb c z d (Fy r (aI b).1 (al l)))(j:¬(bif (Vg.aE.run c z).2.1 then(0:Int) else 6)=0):
  []=(fJ r l b).1/\(bif (Vg.aE.run c z).2.1 then(0:Int) else 6)=(fJ r l b).2:=by
 have e:=H.ok;cases k:Fy r (aI b).1 (al l) with
 |true=>grind
 |false=>simp_all[fJ,R!]
theorem afN {e0 ei0:Nat}{r:B8}{l:M bj}{b:B8}{c:M CF}{z:Z}(f:¬(bif !decide ((r.length:Int)=32) then true else !aZ l)=true)(h:(aI b).2=0)(H:rb c z (.g e0 ei0 (xI (aI b).1.2.2.1 (aI b).1.2.2.2 (al l) (aI b).1.2.2.1.length)) (Fy r (aI b).1 (al l)))(j:(bif (Vg.aE.run c z).2.1 then(0:Int) else 6)=0):
  iM l (Vg.aE.rows (Vg.aE.run c z).2.2)=fJ r l b:=by
 have e:=H.ok;cases d:Fy r (aI b).1 (al l) with
 |false=>grind
 |true=>
  rw[H.to d,fJ,R! f,R! w!,Q! d];rfl
end Go.S
namespace Go.S
theorem dl {p:O}{k:Nat}(h:(k:Int)<((p.drop (Int.toNat 1)).length:Int)):k+1<p.length:=by
 grind
def awC(b t:B8)(k:Nat):U:=((List.range k).filter λ(i:Nat)=>decide ((aS b).getD i []=t)).map λ(i:Nat)=>(i:Int)
def aNI(b t:B8):U:=awC b t (aS b).length
def qf(d t:B8):Bool:=decide ((0:Int)<((aNI d t).length:Int))
def W0(o:Int)(a b:Bool):Bool:=if o=1 then Br a b else if o=2 then QB a b else Bs a b
def tK(f:B8->Bool)(s:M Bool)(o:bj):M Bool:=
 if o.1=0 then s++[f o.2] else s.take (s.length-2)++[W0 o.1 (s.getD (s.length-2) false) (s.getD (s.length-1) false)]
def tL(f:B8->Bool)(l:M bj)(k:Nat):M Bool:=(l.take k).foldl (tK f) []
def gS(l:M bj)(d:B8):Bool:=(tL (qf d) l l.length).getD 0 false
def kM(d:O)(l:M bj)(k:Nat):U:=((List.range k).filter λ(i:Nat)=>gS l (d.getD i [])).map λ(i:Nat)=>(i:Int)
variable {p:Nat->Bool}{f s:List (List Int)}{l a:List Int}{i n:Nat}{docs T:List B8}{t:B8}{b:List Bool}{q:List bj}
theorem Ji{k:Nat}(h:p k=true)(f:Nat->Int):((List.range k).filter p).map f++[f k]=((List.range (k+1)).filter p).map f:=by
 rw[List.range_succ,t?,X?];simp[List.filter,h]
theorem NI{k:Nat}(h:p k=false)(f:Nat->Int):((List.range k).filter p).map f=((List.range (k+1)).filter p).map f:=by
 rw[List.range_succ,t?,X?];simp[List.filter,h]
theorem Es {f:B8->Bool}{l:M bj}{k:Nat}(hk:k<l.length):tL f l (k+1)=tK f (tL f l k) (l.getD k (0,[])):=by
 rw[tL,an l k (0,[]) hk,List.foldl_append];rfl
theorem awD(docs:O)(l:M bj)(k:Nat):(kM docs l k).length<=k:=by
 grind[kM,List.length_map,Nat.le_trans,List.length_filter_le]
def aNJ:B8:=[119,97,105,110,32,104,97,121]
def ky:Qi:=([yo,aNJ],[(0,2,[(yo,[0,1]),([119,97,105,110],[1])])])
theorem awE(o:Int):opL o [] []=[]:=by
 have :∀k:Kp,k false false=false->wz k [] []=[]:=λk h=>by
  unfold wz wy;have e:tA []=[]:=rfl;grind[List.filter_eq_nil_iff,qa]
 unfold opL AK qX I8;rw[this _ rfl,this _ rfl,this _ rfl];simp
theorem awF {f:B8->U}(g:∀t,f t=[])(l:M bj):∀s:M U,(∀x∈s,x=[])->∀x∈l.foldl (mV f) s,x=[]:=by
 induction l with
 |nil=>grind
 |cons o l I=>
  intro s c;refine I _ λx H=>?_
  have d:∀i,s.getD i []=[]:=λi=>by
   rw[E!];cases e:s[i]? with
   |none=>rfl
   |some y=>exact c y (W! e)
  unfold mV at H;split at H;rcases List.mem_append.1 H with h|h;exact c x h;rw[List.mem_singleton.1 h];exact g _;rcases List.mem_append.1 H with h|h;exact c x (List.mem_of_mem_take h);rw[List.mem_singleton.1 h,d,d];exact awE _
theorem awG {t:O}(h:∀x∈f,x=[])(s:B8):od t f s=[]:=by
 unfold od;split
 . rw[E!];cases e:f[mH t s]? with
   |none=>rfl
   |some y=>exact h y (W! e)
 rfl
theorem aqB {q:M bj}(H:aZ q=true)(c:f.length=(al q).length)(h:∀x∈f,x=[]):iM q f=([],0):=by
 have d:lO q f=true:=by
  simp[lO,H,c,decide_true,Bool.true_and,V!];intro x hx;rw[h x hx];rfl
 have g:Dd q (al q) f=[]:=by
  unfold Dd jU;have:=awF (awG (t:=al q) h) (q.take q.length) [] z!;rw[List.getD_eq_getElem?_getD];cases e:(List.foldl (mV (od (al q) f)) [] (q.take q.length))[0]? with
  |none=>rfl
  |some y=>exact this y (W! e)
 simp_all[iM,Q!]
theorem aqC {b P R:B8}{v:Int}(H:b=P++(num v++R))(h:0<=v)(c:v<=4611686018427387904):ag b (P.length:Int) 0=((b,(P.length:Int)+((num v).length:Int),0),v):=by
 have e:b.drop ((P.length:Int)).toNat=num v++R:=by simp_all
 grind[zm,GB]
theorem KC(l:U)(k:Nat):b6 l (k+1)=b6 l k++num (l.getD k 0-cD l k-1):=by
 simp[b6,List.range_succ]
theorem QQ(l:U):∀n k,k+n=l.length->∃R,iH l=b6 l k++R
 |0,k,h=>⟨[],by grind[iH]⟩
 |n+1,k,h=>by
  obtain⟨R,e⟩:=QQ l n (k+1) w!;grind[KC,List.append_assoc]
theorem Ö(h:aV l=true){k:Nat}(H:k<l.length):cD l k<l.getD k 0/\l.getD k 0<1000:=by
 have:=List.all_eq_true.1 h k (List.mem_range.2 H);grind[Kk]
theorem Ø {l:U}(h:aV l=true):∀ {k:Nat},k<=l.length-> -1<=cD l k
 |0,_=>by simp[cD]
 |k+1,hk=>by
  have i:=Ø h (k:=k) w!;have g:=Ö h (k:=k) w!;grind[cD]
theorem Ù {l:U}(h:aV l=true):∀n k,k+n=l.length->pn (iH l) n ((b6 l k).length:Int) 0 (cD l k) (l.take k)=(l,0)
 |0,k,hk=>by
  have :k=l.length:=by omega
  subst this
  have e:done (iH l) ((b6 l l.length).length:Int) 0=0:=by
   have :(b6 l l.length).length=(iH l).length:=rfl;grind[done,inside]
  rw[pn,Q! e,List.take_length]
 |n+1,k,hk=>by
  obtain⟨R,e⟩:=QQ l n (k+1) w!;rw[KC,X!] at e;have g:=Ö h (k:=k) w!;have p:=Ø h (k:=k) w!;have r:=aqC e w! w!;rw[pn,r,R! z!,R! w!];have i:=Ù h n (k+1) w!
  have E:cD l k+(l.getD k 0-cD l k-1+1)=cD l (k+1):=by
   have :cD l (k+1)=l.getD k 0:=by simp[cD]
   omega
  have c:l.take k++[cD l (k+1)]=l.take (k+1):=by
   have :cD l (k+1)=l.getD k 0:=by simp[cD]
   rw[this,an _ k 0 w!]
  have d:((b6 l k).length:Int)+((num (l.getD k 0-cD l k-1)).length:Int)=((b6 l (k+1)).length:Int):=by rw[KC,J!];omega
  simp only[E,c,d];exact i
theorem aaC(h:aV l=true):cu (iH l)=(l,0):=by
 obtain⟨R,e⟩:=QQ l l.length 0 w!;have H:=mz h;have E:b6 l 0=num (l.length:Int):=by simp[b6]
 have r:oe (iH l)=((iH l,((num (l.length:Int)).length:Int),0),(l.length:Int)):=by
  have:=aqC (b:=iH l) (P:=[]) (v:=(l.length:Int)) (R:=R) x! w! w!;grind[oe]
 have i:=Ù h l.length 0 w!;rw[cu,r,if_neg z!,if_neg w!];grind[Int.toNat_natCast,cD]
def kq(docs T:O):M U:=T.map λt=>bA docs 0 t docs.length
theorem QR {c:Type}{l:M c}(h:i<l.length)(x:c):l.getD i x=l[i]:=by
 grind
variable {l:List aB}
theorem awH(h:cy docs l=true)(H:i<l.length):EI (bu docs l) i=C5 l[i]:=by
 have e:bu docs l=l.map C5:=by unfold bu;rw[iK (iL.1 h).1]
 unfold EI;rw[e,QR (by simpa using H),List.getElem_map]
theorem aqD(h:cy docs l=true)(t:B8):(l.flatMap λs=>dN s.2.2 t)=bA docs 0 t docs.length:=by
 have R:=RI.of (iL.1 h).1;have h1:=xA (t:=t) R.row;have H:dD l=(docs.length:Int):=by grind[C8,iL]
 rw[<-R.eq,<-R.Wx,H,show(((docs.length:Nat):Int)-0).toNat=docs.length by omega] at h1;rw[<-h1];unfold Gu;rw[List.flatMap_def,List.flatMap_def];congr 1
 refine g? λs c=>?_;exact als (Qm (R.seg s c).1) t
theorem UD(h:cy docs l=true)(t:B8):aV (bA docs 0 t docs.length)=true:=by
 have H:=(RI.of (iL.1 h).1).fair
 have c:gb docs 0 docs.length:=by
  simp[dm,Bool.and_eq_true,List.all_eq_true,decide_eq_true_eq] at H;refine⟨w!,w!,w!,w!,λd g=>?_⟩;grind
 have e:=ŷ c t;grind[Uw,tc]
def afO(docs:O)(q:M bj):U:=Dd q (al q) (kq docs (al q))
theorem aqE(d t:B8):qf d t=ub d t:=rfl
theorem aqF {x:O}(c:qM x)(h:t∈x):x.getD (mH x t) []=t:=by
 obtain⟨i,d,e⟩:=List.mem_iff_getElem.1 h;have E:x.getD i []=t:=by grind
 have g:qY x t (i:Int) (i:Int):=by
  refine⟨w!,Int.le_refl _,w!,λk H=>?_,λk H j=>?_⟩;grind[QG];grind[cJ,QG,y8]
 grind[afz]
def pb(n:Nat)(a:U):Prop:=aV a=true/\∀y∈a,y<(n:Int)
theorem afP(h:aV a=true):tA a=a:=by grind[tA]
theorem Ú {l:U}(h:l.Pairwise (· < ·))(H:∀x∈l,0<=x/\x<1000):aV l=true:=by
 grind[jI,iI,aU,cD,QR,List.pairwise_iff_getElem]
theorem Û(k:Kp)(a b:U):aV (wy k a b)=true:=Ú (AL k a b) λx h=>(pJ.1 h).1
theorem awI {o:Int}{b:U}(j:n<=1000)(c:pb n a)(d:pb n b)(i:Nat)(m:i<n):((i:Int)∈opL o a b↔W0 o (decide ((i:Int)∈a)) (decide ((i:Int)∈b))=true)/\pb n (opL o a b):=by
 have K:∀k:Kp,k false false=false->(((i:Int)∈wz k a b↔k (decide ((i:Int)∈a)) (decide ((i:Int)∈b))=true)/\pb n (wz k a b)):=λk r=>by
  unfold wz;rw[afP c.1,afP d.1];refine⟨?_,Û k a b,λy e=>?_⟩;rw[pJ];constructor;exact λh=>h.2;exact λh=>⟨w!,h⟩;have H:=(pJ.1 e).2;by_cases Y:y∈a;exact c.2 y Y;by_cases g:y∈b;exact d.2 y g;grind[qa]
 unfold opL W0 AK qX I8;by_cases h1:o=1;rw[if_pos h1,if_pos h1];exact K Br rfl;rw[if_neg h1,if_neg h1];by_cases H:o=2;rw[if_pos H,if_pos H];exact K QB rfl;rw[if_neg H,if_neg H];exact K Bs rfl
theorem aqG(H:i<docs.length):(i:Int)∈bA docs 0 t docs.length↔ub (docs.getD i []) t=true:=by
 unfold bA;rw[List.mem_map];constructor;grind;intro h;refine⟨i,List.mem_filter.2 ⟨List.mem_range.2 H,?_⟩,w!⟩;grind
theorem awJ:∀y∈bA docs 0 t docs.length,y<(docs.length:Int):=by
 intro y h;obtain⟨k,H,rfl⟩:=List.mem_map.1 h;grind
theorem aqH(c:qM T){s:B8}(h:s∈T):od T (kq docs T) s=bA docs 0 s docs.length:=by
 have h1:Bt T s=true:=decide_eq_true h;have H:=afA h1;unfold od;rw[if_pos h1];unfold kq;rw[QR (by simpa using H),List.getElem_map];have:=aqF c h;rw[QR H] at this;rw[this]
def QS(n i:Nat)(s:M U)(b:M Bool):Prop:=s.length=b.length/\∀j,j<s.length->pb n (s.getD j [])/\((i:Int)∈s.getD j []↔b.getD j false=true)
theorem UE {i:Nat}(h:QS n i s b){x:U}{y:Bool}(H:pb n x)(c:(i:Int)∈x↔y=true):QS n i (s++[x]) (b++[y]):=by
 refine⟨by simp[h.1],λj d=>?_⟩;by_cases e:j<s.length;have:=h.2 j e;have E:j<b.length:=by have:=h.1;omega
 grind;have E:s.length=b.length:=h.1;grind
theorem aaD(h:QS n i s b)(k:Nat):QS n i (s.take k) (b.take k):=by
 refine⟨by simp[h.1],λj c=>?_⟩;have H:j<k/\j<s.length:=by grind
 have d:=h.2 j H.2;grind
theorem aaE {docs:O}(c:qM T)(d:docs.length<=1000)(j:∀t,aV (bA docs 0 t docs.length)=true)(k:i<docs.length)(h:QS docs.length i s b){o:bj}(m:o.1=0->o.2∈T)(r:o.1≠0->2<=s.length):
  QS docs.length i (mV (od T (kq docs T)) s o) (tK (qf (docs.getD i [])) b o):=by
 unfold mV tK;by_cases H:o.1=0;rw[if_pos H,if_pos H,aqH c (m H)];exact UE h ⟨j _,awJ⟩ (by grind[aqE,aqG]);have a:=h.2 (s.length-2) w!;have A:=h.2 (s.length-1) w!;have g:=awI (o:=o.1) d a.1 A.1 i k;have e:b.length=s.length:=h.1.symm;grind[UE,aaD]
theorem aqI{k:Nat}(h:k<q.length)(H:(cM q k).1=0):(cM q k).2∈al q:=by
 unfold al;rw[ir];unfold pj bL;rw[List.take_length];exact List.mem_map.2 ⟨_,List.mem_filter.2 ⟨aU q k (0,[]) h,decide_eq_true H⟩,rfl⟩
theorem UF {docs:O}{q:M bj}(c:aZ q=true)(d:docs.length<=1000)(e:∀t,aV (bA docs 0 t docs.length)=true){i:Nat}(g:i<docs.length):∀k,k<=q.length->
  QS docs.length i (jU (od (al q) (kq docs (al q))) q k) (tL (qf (docs.getD i [])) q k)/\((jU (od (al q) (kq docs (al q))) q k).length:Int)=c9 q k
 |0,_=>⟨⟨rfl,λj r=>by grind[jU]⟩,by rfl⟩
 |k+1,hk=>by
  obtain⟨I,o⟩:=UF c d e g k w!;have H:=Jf c (k:=k) w!;rw[GL w!,Es w!];refine⟨aaE (iX _) d e g I (λh=>aqI w! h) (λh=>by have:=H.2.2 h;omega),?_⟩;by_cases m:(cM q k).1=0;simp_all[zq,mV,cM,Q!]
  rw[uH m,<-o];show((mV _ _ (cM q k)).length:Int)=_;rw[mV,if_neg m,List.length_append,List.length_take];grind
theorem awK(h:cy docs l=true)(j:aZ q=true)(o:docs.length<=1000):afO docs q=kM docs q docs.length:=by
 have r:=λt=>UD h t
 have k:c9 q q.length=1:=by
  simp_all[aZ,B!,H!]
 have m:∀i,i<docs.length->((i:Int)∈afO docs q↔gS q (docs.getD i [])=true)/\pb docs.length (afO docs q):=λi d=>by
  obtain⟨T,z⟩:=UF j o r d q.length (M! _);have:=T.2 0 w!;exact⟨this.2,this.1⟩
 by_cases u:docs.length=0;have e:docs=[]:=P?.1 u;subst e
 have v:∀x∈kq [] (al q),x=[]:=λx H=>by
  obtain⟨t,_,rfl⟩:=U?.1 H;rfl
 have:=aqB j (f:=kq [] (al q)) (by simp[kq]) v;unfold iM at this;split at this;exact(Prod.mk.inj this).1;exact absurd (Prod.mk.inj this).2 (by decide);have c:=(m 0 w!).2;have O:=QD c.1;refine QC O.1 ?_ λx=>?_;unfold kM;rw[List.pairwise_map];exact((List.pairwise_lt_range).filter _).imp λ{a b} K=>by omega
 constructor;intro H;have B:=O.2 x H;have A:=c.2 x H;have e:((x.toNat:Nat):Int)=x:=by omega
 have g:=(m x.toNat w!).1;rw[e] at g;exact U?.2 ⟨x.toNat,List.mem_filter.2 ⟨f?.2 w!,g.1 H⟩,e⟩;intro H;obtain⟨i,d,rfl⟩:=U?.1 H;obtain⟨w,y⟩:=List.mem_filter.1 d;exact(m i (f?.1 w)).1.2 y
def UG(l:M bj):Prop:=l.length<=5864062014805
theorem Ü {l:M bj}(h:small l):UG l:=by unfold small at h;unfold UG;omega
def hz(l m:M qd):Qi:=(bS (aEE l m (min m.length 40)).1 (aEE l m (min m.length 40)).2).1
end Go.S
namespace Go.S
open Go.Vg (CF AV gF)
abbrev Cl:=(B8×B8)×Bool
def ix:Cl:=(([],[]),false)
def iy(a b:B8):Prop:=small a/\small b
def QT(a b:B8):Bool:= !Qy a b&&decide (sum a=sum b)
def bt(a b:B8):Cl:=if QT a b then((a,b),true) else ix
def Bv(x:Cl):AV:=.bk [.agg [.sl [.int .u8] x.1.1,.sl [.int .u8] x.1.2],.bool x.2]
def Ý(a b:B8):CF:=λz=>(iy a b,Bv (bt a b),z)
def Ng(l:M CF):Cl:=(((gF l).2.1,(gF l).2.2.1),(gF l).2.2.2)
def QU(k:Nat)(a b:B8):Cl:=bt (bB k a) (bB k b)
def xJ(a b:B8):Prop:=az a/\az b
def wE(l:O):B8:=bB 1 (kI (l.take (split l.length).toNat)++kI (l.drop (split l.length).toNat))
def mW(l:O)(i:Int):O:=
 if h:l.length<2 then [] else if i<((sp l.length:Nat):Int) then wE l::mW (l.take (sp l.length)) i else wE l::mW (l.drop (sp l.length)) (i-((sp l.length:Nat):Int))
termination_by l.length
decreasing_by all_goals (have:=iY (n:=l.length) w!;simp only[C?,N?];omega)
def AO(l:O)(i:Int)(f:B8)(p:O)(k:O×M Bool×O×Int):Prop:=
 mW (leaves l) i=k.1++mW k.2.2.1 k.2.2.2/\cq i l.length=k.2.1++cq k.2.2.2 k.2.2.1.length/\0<=k.2.2.2/\k.2.2.2<k.2.2.1.length/\cP k.2.2.1=true/\k.2.2.1.length<=l.length/\cB (leaf f) i l.length p=0/\
  k.1.length+k.2.2.1.length<=l.length/\k.1.length=k.2.1.length
def Þ(f:B8)(i n:Int)(p:O)(j:Nat):B8:=
 if(cq i n).getD (p.length-1-j) false then bB 1 (p.getD j []++cL (leaf f) i n p j) else bB 1 (cL (leaf f) i n p j++p.getD j [])
def rG(l:O)(i:Int)(f:B8)(p:O):Nat->M CF
 |0=>Vg.aE.JY (p.length+1)
 |k+1=>(rG l i f p k).set (p.length-1-k) (Ý (Þ f i l.length p k) ((mW (leaves l) i).getD (p.length-1-k) []))
def yr(l:O)(i:Int)(f:B8)(p:O):M CF:=(rG l i f p p.length).set p.length (Ý (bB 0 f) (bB 0 (l.getD i.toNat [])))
def afQ(l:O)(i:Int):Prop:=0<=i/\i<l.length
instance (l:List B8) (i:Int):Decidable (afQ l i):=by unfold afQ;infer_instance
def jY(l:O)(i:Int)(f:B8)(p:O):Cl:=
 if ¬afQ l i then ix else if ¬cB (leaf f) i l.length p=0 then ix else Ng (yr l i f p)
def mI(l:O)(f:B8)(p:O):Prop:=dj l/\az f/\eX p
def xK(p:O)(k:Nat):Prop:=k<=p.length
def fv(d:M bw)(t:B8)(p:Pf):Cl:=
 if ¬dE d=0 then ix else if ¬(jr (pG d) (bn d).length t p).2=0 then ix
 else if(jY (bn d) p.1 (dw p.2.1 p.2.2.1 p.2.2.2.1) p.2.2.2.2.1).2 then jY (bn d) p.1 (dw p.2.1 p.2.2.1 p.2.2.2.1) p.2.2.2.2.1
 else if ¬p.2.1=t then ix else QU 2 p.2.2.2.2.2 (jH (dN d t))
def Dg(d:M bw)(t:B8)(p:O)(P:B8):Prop:=aW d/\wB t p P
def th(n:Int)(g:B8)(l:M Sg):B8:=(hW n g l).1
def zv(d:O)(l:M aB):B8:=th (gI d l).1.1 (gI d l).1.2.1 (gI d l).1.2.2
def Bw(n:Int)(g:B8)(s:M Sg)(d:O)(l:M aB):Bool:=Qy (th n g s) (zv d l)
def sI(n:Int)(g:B8)(s:M Sg)(d:O)(l:M aB):Cl:=QU 3 (th n g s) (zv d l)
def wC(d:M bw):O->M Pf->Cl
 |t::ts,p::ps=>if(fv d t p).2 then fv d t p else wC d ts ps
 |_,_=>ix
def sC(t:O):M aB->M (M Pf)->Cl
 |s::l,p::a=>if(wC s.2.2 t p).2 then wC s.2.2 t p else sC t l a
 |_,_=>ix
def aaF(t:O)(P:M Pf):Prop:=t.length<=P.length/\∀p∈P,eX p.2.2.2.2.1/\az p.2.2.2.2.2/\small p.2.2.2.2.2
def W2(l:M aB)(T:O)(a:M (M Pf)):Prop:=l.length<=a.length/\(∀r∈a,aaF T r)/\(∀t∈T,small t)/\∀s∈l,aW s.2.2
def lf(n:Int)(g:B8)(s:M Sg)(d:O)(l:M aB)(t:O)(a:M (M Pf)):Cl:=if Bw n g s d l then sC t l a else ix
def uK(n:Int)(g:B8)(s:M Sg)(d:O)(l:M aB)(t:O)(a:M (M Pf)):Prop:=Bw n g s d l=true->W2 l t a
def KD(l:M aB)(t:O)(a:M (M Pf))(k:Nat):Prop:=k<=l.length/\W2 l t a/\sC t l a=sC t (l.drop k) (a.drop k)
def wF(l:M aB)(k:Nat):aB:=l.getD k (0,0,[])
def uL(l:M aB)(t:O)(a:M (M Pf))(k j:Nat):Prop:=
 k<l.length/\j<=t.length/\W2 l t a/\sC t l a=sC t (l.drop k) (a.drop k)/\wC (wF l k).2.2 t (fu a k)=wC (wF l k).2.2 (t.drop j) ((fu a k).drop j)
def QV(n:Int)(g:B8)(s:M Sg)(d:O)(l:M aB)(i:Int)(f:B8)(p:O):Cl:=if Bw n g s d l then jY d i f p else ix
def hdF(n:Int)(g:B8)(s:M Sg)(d:O)(l:M aB):CF:=λz=>(True,Bv (sI n g s d l),z)
def lsF(n:Int)(g:B8)(s:M Sg)(d:O)(l:M aB)(t:O)(a:M (M Pf)):CF:=λz=>(uK n g s d l t a,Bv (lf n g s d l t a),z)
def dcF(n:Int)(g:B8)(s:M Sg)(d:O)(l:M aB)(i:Int)(f:B8)(p:O):CF:=λz=>(mI d f p,Bv (QV n g s d l i f p),z)
def dJ(d:O)(l:M aB)(q:M bj)(b:B8):Cl:=
 if ¬(fk d l).2=0 then ix else if ¬(fJ (fk d l).1 q b).2=0 then ix else if ¬(aI b).2=0 then ix
 else Ng [hdF (aI b).1.1 (aI b).1.2.1 (aI b).1.2.2.1 d l,lsF (aI b).1.1 (aI b).1.2.1 (aI b).1.2.2.1 d l (al q) (aI b).1.2.2.2]
def mX(d:O)(l:M aB)(i:Int)(b:B8):Cl:=
 if ¬(fk d l).2=0 then ix else if ¬(uc (fk d l).1 i b).2=0 then ix else if ¬(bx b).2=0 then ix
 else Ng [hdF (bx b).1.1 (bx b).1.2.1 (bx b).1.2.2.1 d l,dcF (bx b).1.1 (bx b).1.2.1 (bx b).1.2.2.1 d l i (bx b).1.2.2.2.2.1 (bx b).1.2.2.2.2.2]
end Go.S
namespace Go.S
open Go.Vg (CF AV gF tD)
theorem Et(n:Nat):0<=split n/\split n<=n:=by
 grind[split,iY,Int.toNat_natCast]
theorem UH(l:O):(kI l).length<=32:=by
 grind[kI,Nat.le_of_eq,uD]
variable {l p ts docs:List B8}{b f g:B8}{i n:Int}{m j:Nat}{d:List bw}{ps:List Pf}{a:List (List Pf)}{s:List Sg}
theorem aqK:az (kI (l.take (split l.length).toNat)++kI (l.drop (split l.length).toNat)):=by
 grind[UH,split,az,List.length_append]
theorem UI {c:Type}{l:M c}(h:small l)(n:Nat):small (l.take n)/\small (l.drop n):=by grind[small]
theorem NJ {a:B8}(k:Nat)(h:xJ a b):iy (bB k a) (bB k b):=by grind[xJ,iy,az,small,bB]
theorem aqL {l:O}(h:i<0\/(l.length:Int)<=i):jY l i f p=ix:=by
 rw[jY,if_pos (by grind[afQ])]
theorem W3(h:¬cB (leaf f) i l.length p=0):jY l i f p=ix:=by
 rw[jY,Q! h,ite_self]
theorem aNM(h:cB (leaf f) i l.length p=0):AO l i f p ([],[],leaves l,i):=by
 have⟨⟨_,_,_,H,c⟩,_⟩:=mC h;exact⟨rfl,by grind[nA],H,by grind[nA],kn l,by simp_all[nA,Nat.le_refl],h,by simp[nA],rfl⟩
theorem AP{x:O×M Bool×O×Int}(h:AO l i f p x)(H:1<(x.2.2.1.length:Int)):
  split x.2.2.1.length=((sp x.2.2.1.length:Nat):Int)/\1<=sp x.2.2.1.length/\sp x.2.2.1.length<x.2.2.1.length/\small x.2.2.1/\x.1.length<1099511627776/\x.2.1.length<1099511627776:=by
 have⟨Q,c,e,k,o,r,q,t,u⟩:=h;have⟨⟨_,_,g,_,_⟩,_⟩:=mC q;grind[iY,zp,small]
theorem W4 {l:O}(h:2<=l.length)(hi:i<((sp l.length:Nat):Int)):mW l i=wE l::mW (l.take (sp l.length)) i:=by rw[mW,dif_neg w!,Q! hi]
theorem W5 {l:O}(h:2<=l.length)(hi:¬i<((sp l.length:Nat):Int)):mW l i=wE l::mW (l.drop (sp l.length)) (i-((sp l.length:Nat):Int)):=by rw[mW,dif_neg w!,R! hi]
theorem afR(h:l.length<2):mW l i=[]:=by rw[mW,dif_pos h]
theorem ß{x:O×M Bool×O×Int}(h:AO l i f p x)(H:1<(x.2.2.1.length:Int)):
  AO l i f p (x.1++[wE x.2.2.1],x.2.1++[decide (split x.2.2.1.length<=x.2.2.2)],(bif decide (x.2.2.2<split x.2.2.1.length) then x.2.2.1.take (split x.2.2.1.length).toNat else x.2.2.1.drop (split x.2.2.1.length).toNat),
   (bif decide (x.2.2.2<split x.2.2.1.length) then x.2.2.2 else x.2.2.2-split x.2.2.1.length))/\
  (bif decide (x.2.2.2<split x.2.2.1.length) then x.2.2.1.take (split x.2.2.1.length).toNat else x.2.2.1.drop (split x.2.2.1.length).toNat).length<x.2.2.1.length:=by
 have⟨e,B,b,_⟩:=AP h H;have⟨q1,q2,c,k,q,o,Q,r,t⟩:=h;rw[e,Int.toNat_natCast];have em:((x.2.2.1.length:Int)).toNat=x.2.2.1.length:=by grind
 by_cases hi:x.2.2.2<((sp x.2.2.1.length:Nat):Int);rw[decide_eq_true hi,decide_eq_false w!];simp;refine⟨⟨?_,?_,c,?_,ny q _,?_,Q,?_,?_⟩,?_⟩;simp[q1,W4 w! hi,List.append_assoc,List.cons_append,List.nil_append];simp[q2,zn (n:=(x.2.2.1.length:Int)) w! (by exact hi),em,List.append_assoc,List.cons_append,List.nil_append,List.length_take,Nat.min_eq_left (Nat.le_of_lt b)];grind;grind;grind;grind;grind;rw[decide_eq_false hi,decide_eq_true w!];simp;have E:((x.2.2.1.length-sp x.2.2.1.length:Nat):Int)=(x.2.2.1.length:Int)-((sp x.2.2.1.length:Nat):Int):=by omega
 refine⟨⟨?_,?_,Int.sub_nonneg_of_le (Int.not_lt.1 hi),?_,nz q _,?_,Q,?_,?_⟩,?_⟩;simp[q1,W5 w! hi,List.append_assoc,List.cons_append,List.nil_append];simp[q2,zo (n:=(x.2.2.1.length:Int)) w! (by exact hi),em,List.append_assoc,List.cons_append,List.nil_append,List.length_drop,E];grind;grind;grind;grind;grind
theorem re{x:O×M Bool×O×Int}(h:AO l i f p x)(H:¬1<(x.2.2.1.length:Int)):
  x.1=mW (leaves l) i/\x.2.1=cq i l.length/\x.1.length=p.length/\x.2.1.length=p.length/\cB (leaf f) i l.length p=0/\cP p=true/\0<=i/\i<l.length:=by
 have⟨q,q2,k,o,r,t,Q,u,v⟩:=h;have⟨⟨_,_,_,g,G⟩,c,e⟩:=mC Q;rw[afR (l:=x.2.2.1) w!,B?] at q;rw[wo (n:=(x.2.2.1.length)) w!,B?] at q2;refine⟨q.symm,q2.symm,?_,?_,Q,e,g,G⟩<;>(rw[q2] at c;omega)
theorem Eu(l:O)(i:Int)(f:B8)(p:O):∀k,(rG l i f p k).length=p.length+1
 |0=>List.length_replicate ..
 |k+1=>by rw[rG,List.length_set];exact Eu l i f p k
theorem aEH(h:cP p=true)(k:Nat):(cL (leaf f) i l.length p k).length=32:=
 C9 _ _ (PD _) λx H=>(cQ p).1 h _ (List.of_mem_zip (List.mem_of_mem_take H)).2
theorem aHj {l:O}{i:Int}{f:B8}{p:O}{k:Nat}(h:cB (leaf f) i l.length p=0)(H:k<p.length)(b:Bool):
  az ((bif b then p.getD k [] else cL (leaf f) i l.length p k)++(bif b then cL (leaf f) i l.length p k else p.getD k [])):=by
 have d:=(mC h).2.2;have c:=aEH (l:=l) (i:=i) (f:=f) d k;have e:(p.getD k []).length=32:=(cQ p).1 d _ x!;cases b<;>(simp_all[cond_true,cond_false,az,List.length_append])
theorem aHk {l:O}{i:Int}{f:B8}{p:O}{k:Nat}{a:M Bool}(h:cB (leaf f) i l.length p=0)(H:k<p.length)(c:a=cq i l.length)(e:a.length=p.length):
  bz (bif a.getD ((p.length:Int)-1-(k:Int)).toNat false then p.getD k [] else cL (leaf f) i l.length p k) (bif a.getD ((p.length:Int)-1-(k:Int)).toNat false then cL (leaf f) i l.length p k else p.getD k [])=cL (leaf f) i l.length p (k+1):=by
 rw[<-(Ð h H),<-c,e];cases a.getD _ false<;>rfl
theorem awL {l:O}{i:Int}{f:B8}{p:O}{k:Nat}{a:M Bool}{g:O}(o:k<p.length)(q:a=cq i l.length)(H:g=mW (leaves l) i){x y u v:B8}(r:u=p.getD k [])(t:v=cL (leaf f) i l.length p k)
  (hx:x=bB 1 ((bif a.getD ((p.length:Int)-1-(k:Int)).toNat false then u else v)++(bif a.getD ((p.length:Int)-1-(k:Int)).toNat false then v else u))) (h:y=g.getD ((p.length:Int)-1-(k:Int)).toNat []):
  Vg.aE.put (rG l i f p k) ((p.length:Int)-1-(k:Int)).toNat (iy x y) (Bv (bt x y))=rG l i f p (k+1):=by
 have e:((p.length:Int)-1-k).toNat=p.length-1-k:=by omega
 rw[e] at hx h |-;rw[rG]
 have c:x=Þ f i l.length p k:=by
  grind[hx,Þ]
 rw[<-c,<-H,<-h];rfl
theorem aqM(l:O)(i:Int)(f:B8)(p:O):∀(k:Nat),k<=p.length->∀m,p.length-k<=m->m<p.length->
  (rG l i f p k)[m]? =some (Ý (Þ f i l.length p (p.length-1-m)) ((mW (leaves l) i).getD m []))
 |0,_,m,h1,h=>by omega
 |k+1,hk,m,h1,h=>by
  rw[rG];by_cases e:p.length-1-k=m;rw[List.getElem?_set,if_pos e,if_pos (by grind[Eu])];grind;rw[List.getElem?_set,if_neg e];exact aqM l i f p k w! m w! h
theorem W6(h:m<=p.length):
  (yr l i f p)[m]? =some (if m=p.length then Ý (bB 0 f) (bB 0 (l.getD i.toNat [])) else Ý (Þ f i l.length p (p.length-1-m)) ((mW (leaves l) i).getD m [])):=by
 unfold yr;by_cases e:m=p.length;simp_all[List.getElem?_set,if_pos,Eu]
 rw[List.getElem?_set,R! (Ne.symm e),R! e];exact aqM l i f p p.length (M! _) m w! w!
theorem aqN(l:O)(i:Int)(f:B8)(p:O):(yr l i f p).length=p.length+1:=by rw[yr,List.length_set,Eu]
theorem W7(x:Cl):tD (Bv x)=some (x.1.1,x.1.2,x.2):=rfl
theorem afS:∀(l:M CF),(∀F∈l,∃a b,F=Ý a b/\iy a b)->(gF l).1
 |[],_=>trivial
 |F::l,h=>by
  obtain⟨a,b,rfl,H⟩:=h F (G! ..);exact⟨H,λ_=>afS l λG c=>h G (F! _ c)⟩
theorem à(l:O):(wE l).length<=65:=by
 grind[UH,split,wE,bB,List.length_cons,List.length_append]
theorem aqO:∀(n:Nat) (l:O) (i:Int),l.length=n->∀b∈mW l i,b.length<=65:=by
 refine wu (λn h l i e b hb=>?_) (λn h I c l i e b hb=>?_);grind[afR];have H:=iY w!;subst e;by_cases hi:i<((sp l.length));rw[W4 h hi,List.mem_cons] at hb;rcases hb with rfl|hb;exact à l;exact I _ _ (by rw[List.length_take];omega) b hb;rw[W5 h hi,List.mem_cons] at hb;rcases hb with rfl|hb;exact à l;exact c _ _ (by rw[List.length_drop]) b hb
theorem W8 {l:O}{i:Int}{f:B8}{p:O}(h:cB (leaf f) i l.length p=0)(H:mI l f p)(F:CF)(k:F∈yr l i f p):∃a b,F=Ý a b/\iy a b:=by
 have⟨m,o,e⟩:=List.getElem_of_mem k;rw[aqN] at o;have q:=W6 (l:=l) (i:=i) (f:=f) (p:=p) (m:=m) w!;rw[List.getElem?_eq_getElem w!,e] at q;have q:=Option.some.inj q;have⟨⟨_,_,_,g,G⟩,r,t⟩:=mC h;by_cases c:m=p.length;have:=H.1.2 (l.getD i.toNat []) x!;have:=H.2.1;grind[iy,small,bB,az];rw[if_neg c] at q;refine⟨_,_,q,?_,?_⟩;grind[aEH,cQ,Þ,small,bB,List.length_cons,List.length_append];have:=aqO _ (leaves l) i rfl;grind[mW,leaves,small]
theorem awM {l:O}{i:Int}{f:B8}{p:O}(h:cB (leaf f) i l.length p=0)(H:mI l f p):(gF (yr l i f p)).1:=afS _ (W8 h H)
theorem NK(h:cB (leaf f) i l.length p=0):jY l i f p=Ng (yr l i f p):=by
 have⟨⟨_,_,_,g,G⟩,_⟩:=mC h;rw[jY,R! (not_not_intro ⟨g,G⟩),R! (not_not_intro h)]
theorem awN(a b c:B8):az (dw a b c):=by
 unfold dw;split;grind[Ay,eR,az];exact Nat.lt_of_lt_of_le (Nat.zero_lt_succ _) (Nat.le_refl _)
theorem afT(l:U):az (jH l):=by
 unfold jH;split;grind[Ax,aV,az];exact Nat.lt_of_lt_of_le (Nat.zero_lt_succ _) (Nat.le_refl _)
theorem NL(n:Int)(g:B8)(l:M Sg):az (th n g l):=by
 unfold th hW;split;grind[WN];exact Nat.lt_of_lt_of_le (Nat.zero_lt_succ _) (Nat.le_refl _)
theorem dEz(h:dE d=0):aK d=true:=by
 grind[dE]
theorem aaG{t:B8}{p:O}{P:B8}(H:Dg d t p P)(h:dE d=0)(a b c:B8):mI (bn d) (dw a b c) p:=by
 have h:=dEz h;refine⟨?_,awN ..,H.2.2.1⟩;rw[bn,Q! h];exact(kK H.1 h).1
theorem awO(h:ts.length<=j):wC d (ts.drop j) (ps.drop j)=ix:=by
 grind[List.drop_of_length_le,wC]
theorem aqP(h:j<ts.length)(h1:j<ps.length):
  wC d (ts.drop j) (ps.drop j)=if(fv d (ts.getD j []) (ps.getD j (0,[],[],[],[],[]))).2 then fv d (ts.getD j []) (ps.getD j (0,[],[],[],[],[])) else wC d (ts.drop (j+1)) (ps.drop (j+1)):=by
 rw[T? h,T? h1,wC,E!,C! h,E!,C! h1];rfl
variable {l:List aB}
theorem aqQ{k:Nat}(h:k<l.length)(h1:k<a.length):
  sC ts (l.drop k) (a.drop k)=if(wC (wF l k).2.2 ts (fu a k)).2 then wC (wF l k).2.2 ts (fu a k) else sC ts (l.drop (k+1)) (a.drop (k+1)):=by
 rw[T? h,T? h1,sC,wF,fu,E!,C! h,E!,C! h1];rfl
theorem afU{k:Nat}(h:W2 l ts a)(H:k<l.length):k<a.length/\aaF ts (fu a k)/\aW (wF l k).2.2:=by
 have V:k<a.length:=Y! H h.1;exact⟨V,h.2.1 _ (aU a k [] V),h.2.2.2 _ (aU l k _ H)⟩
theorem QW{k:Nat}(h:uL l ts a k j)(c:j<ts.length):
  k<a.length/\j<(fu a k).length/\Dg (wF l k).2.2 (ts.getD j []) ((fu a k).getD j (0,[],[],[],[],[])).2.2.2.2.1 ((fu a k).getD j (0,[],[],[],[],[])).2.2.2.2.2:=by
 obtain⟨o,u,e,v,w⟩:=h;obtain⟨r,Q,t⟩:=afU e o;have H:=Y! c Q.1;have q:=Q.2 _ (aU (fu a k) j (0,[],[],[],[],[]) H);exact⟨r,H,t,e.2.2.1 _ (aU ts j [] c),q.1,q.2.1,q.2.2⟩
theorem afV{k:Nat}(c:Bw n g s docs l=true)(h:uL l ts a k j)(H:j<ts.length)
  (e:(fv (wF l k).2.2 (ts.getD j []) ((fu a k).getD j (0,[],[],[],[],[]))).2=true):fv (wF l k).2.2 (ts.getD j []) ((fu a k).getD j (0,[],[],[],[],[]))=lf n g s docs l ts a:=by
 obtain⟨q1,q2,_⟩:=QW h H;obtain⟨o,q,r,t,u⟩:=h;simp_all[aqP,wF,q2,Q!,lf,aqQ,q1]
theorem aHl{k:Nat}(h:uL l ts a k j)(H:j<ts.length)
  (r:(fv (wF l k).2.2 (ts.getD j []) ((fu a k).getD j (0,[],[],[],[],[]))).2=false):uL l ts a k (j+1):=by
 obtain⟨Q,t,_⟩:=QW h H;obtain⟨c,u,e,o,q⟩:=h;refine⟨c,H,e,o,q.trans ?_⟩;grind[aqP]
theorem aqR{k:Nat}(h:uL l ts a k j)(c:ts.length<=j):KD l ts a (k+1):=by
 obtain⟨h1,q,H,e,o⟩:=h;obtain⟨q1,_⟩:=afU H h1;refine⟨h1,H,e.trans ?_⟩;rw[aqQ h1 q1,o,awO c];rfl
theorem afW{k:Nat}(H:Bw n g s docs l=true)(h:KD l ts a k)(c:l.length<=k):lf n g s docs l ts a=ix:=by
 obtain⟨e,o,q⟩:=h;simp_all[lf,Q!,List.drop_of_length_le,sC]
theorem á(h:(fk docs l).2=0):cy docs l=true:=by
 grind[fk]
theorem afX(c:cy docs l=true)(H:cO n g s=true)(h:Bw n g s docs l=true):n=docs.length/\g=root (leaves docs)/\s=bu docs l:=by
 have e:zv docs l=hB docs.length (root (leaves docs)) (bu docs l):=by
  simp_all[zv,gI,Q!,th,hW,wk]
 have h:=of_decide_eq_true h;rw[e,th,hW,if_pos H] at h;have q:=(Ms (a:=(n,g,s)) (b:=((docs.length:Int),root (leaves docs),bu docs l)) H (wk c)).1 h;grind
theorem GO{r:B8}(h:EH n g s r=true):cO n g s=true/\l7 3 (hB n g s)=r:=by
 simp[EH,Bool.and_eq_true,decide_eq_true_eq] at h;grind[qV,absurd]
theorem ckA {r b:B8}{q:M bj}(h:(fJ r q b).2=0)(H:(aI b).2=0):Fy r (aI b).1 (al q)=true:=by
 grind[fJ,absurd]
theorem afY {docs:O}{l:M aB}{q:M bj}{b:B8}(t:b.length<1099511627776)(u:dq q)(v:(fk docs l).2=0)(w:(fJ (fk docs l).1 q b).2=0)(c:(aI b).2=0):
  uK (aI b).1.1 (aI b).1.2.1 (aI b).1.2.2.1 docs l (al q) (aI b).1.2.2.2:=by
 intro x;have k:=á v;have H:=ckA w c;simp[Fy,Bool.and_eq_true] at H;obtain⟨h,_⟩:=GO H.1;obtain⟨_,_,e⟩:=afX k h x;obtain⟨B,C,D,P,y⟩:=WY t u c;have E:(aI b).1.2.2.1.length=l.length:=by grind[Mu]
 refine⟨w!,λr h=>⟨?_,λp z=>y r h p z⟩,P,λs A=>(Eo k s A).2.2⟩;obtain⟨i,hi,rfl⟩:=l? h;have o:=H.2;simp[AN,V!,f?,B!] at o;have:=(o i w!).1;simp[qW,H!,E?,E!,C! hi,Option.getD_some] at this;omega
theorem aHm(h:b.length<1099511627776)(H:(fk docs l).2=0):mI docs (bx b).1.2.2.2.2.1 (bx b).1.2.2.2.2.2:=by
 obtain⟨k,c⟩:=AI (á H);refine⟨⟨w!,λd e=>?_⟩,Nat.lt_of_le_of_lt (afy b) h,Ñ b⟩;obtain⟨i,o,rfl⟩:=List.getElem_of_mem e;have:=c i;grind
theorem W9 {docs:O}{l:M aB}{q:M bj}{b:B8}(h:(fk docs l).2=0)(H:(fJ (fk docs l).1 q b).2=0)(c:(aI b).2=0):
  dJ docs l q b=Ng [hdF (aI b).1.1 (aI b).1.2.1 (aI b).1.2.2.1 docs l,lsF (aI b).1.1 (aI b).1.2.1 (aI b).1.2.2.1 docs l (al q) (aI b).1.2.2.2]:=by
 simp_all[dJ,R!,not_not_intro]
theorem afZ {docs:O}{l:M aB}{i:Int}{b:B8}(h:(fk docs l).2=0)(H:(uc (fk docs l).1 i b).2=0)(c:(bx b).2=0):
  mX docs l i b=Ng [hdF (bx b).1.1 (bx b).1.2.1 (bx b).1.2.2.1 docs l,dcF (bx b).1.1 (bx b).1.2.1 (bx b).1.2.2.1 docs l i (bx b).1.2.2.2.2.1 (bx b).1.2.2.2.2.2]:=by
 simp_all[mX,R!,not_not_intro]
def KE(docs:O)(l:M aB)(b:B8):Bool:=sG docs l || decide (20000<(b.length:Int))
def kz:Qi:=([yo],[(0,1,[(yo,[0])])])
abbrev kz0:(O×M aB)×Int:=dF (Vg.pV B8) (Vg.pV (Int×Int×M (B8×U))) [104,97,121]
theorem Xa:(bS kz0.1.1 kz0.1.2).1=kz:=by rfl
theorem Xb:(rF kz.1 kz.2 jK).1.length<1099511627776/\(oC kz.1 kz.2 0).1.length<1099511627776:=by decide+kernel
theorem aNO:fJ (fk kz.1 kz.2).1 jK (rF kz.1 kz.2 jK).1=([0],0):=by decide+kernel
theorem aNP:(dJ kz.1 kz.2 jK (rF kz.1 kz.2 jK).1).2=false:=by decide+kernel
theorem aNQ:(mX kz.1 kz.2 0 (oC kz.1 kz.2 0).1).2=false:=by decide+kernel
theorem awQ:(bif lG (fJ (fk kz.1 kz.2).1 jK (rF kz.1 kz.2 jK).1).1 [0] then bif decide ((fJ (fk kz.1 kz.2).1 jK (rF kz.1 kz.2 jK).1).2=0) then bif !(dJ kz.1 kz.2 jK (rF kz.1 kz.2 jK).1).2 then !(mX kz.1 kz.2 0 (oC kz.1 kz.2 0).1).2 else false else false else false)=true:=by
 rw[aNO,aNP,aNQ];rfl
theorem QX {a b:B8}(h:(bt a b).2=false)(c:sum a=sum b):a=b:=by
 unfold bt at h;split at h;cases h;rename_i H;simp[QT,Bool.and_eq_true,Bool.not_eq_true',decide_eq_true_eq,not_and] at H;by_cases e:a=b;exact e;exact absurd c (H (decide_eq_false e))
def FA(x:Cl):Prop:=x.2=true->QT x.1.1 x.1.2=true/\iy x.1.1 x.1.2
theorem rf:FA ix:=nofun
theorem QY {a:B8}(h:iy a b):FA (bt a b):=by
 unfold bt;split;exact λ_=>⟨w!,h⟩;exact rf
theorem UJ:∀(l:M CF),(∀F∈l,∃x,(F .n).2.1=Bv x/\FA x)->FA (Ng l)
 |[],_=>nofun
 |F::l,h=>by
  obtain⟨x,h1,H⟩:=h F (List.mem_cons_self ..);have i:=UJ l λG c=>h G (List.mem_cons_of_mem _ c);unfold Ng gF;rw[h1,W7];cases e:x.2 with
  |true=>exact λ_=>H e
  |false=>exact i
theorem af0:∀(l:M CF),(∀F∈l,∃x,(F .n).2.1=Bv x)->(Ng l).2=false->∀F∈l,∀x,(F .n).2.1=Bv x->x.2=false
 |[],_,_,F,h=>nomatch h
 |F::l,h,c,G,H=>by
  obtain⟨x,h1⟩:=h F (List.mem_cons_self ..);unfold Ng gF at c;rw[h1,W7] at c;cases k:x.2 with
  |true=>grind
  |false=>
   rw[k] at c;rcases List.mem_cons.1 H with rfl|H;intro y o;have e:=(W7 y).symm.trans ((congrArg tD (o.symm.trans h1)).trans (W7 x));grind;exact af0 l (λG H=>h G (List.mem_cons_of_mem _ H)) c G H
def SS(d:B8)(s:M Bool)(p:O)(m:Nat):B8:=
 if s.getD m false then bB 1 (p.getD (p.length-1-m) []++ko d (s.drop (m+1)) (p.take (p.length-1-m))) else bB 1 (ko d (s.drop (m+1)) (p.take (p.length-1-m))++p.getD (p.length-1-m) [])
theorem KF {a:B8}(h:a.length=32)(H:b.length=32):bz a b=sum (bB 1 (a++b)):=by
 simp[bz,Mc,h,H,decide_true,Bool.and_self,Q?];rfl
theorem alH {l:O}(h:2<=l.length)(H:l.length<=1099511627776)(c:cP l=true):wE l=bB 1 (root (l.take (sp l.length))++root (l.drop (sp l.length))):=by
 simp_all[wE,zp,E?,kI,Q!,ny,nz]
theorem down(n:Nat):∀(L:O) (j:Int) (d:B8) (p:O),L.length=n->n<=1099511627776->cP L=true->0<=j->j<L.length->p.length=(cq j L.length).length->cP p=true->d.length=32->
  ko d (cq j L.length) p=root L->(∀m,m<p.length->(bt (SS d (cq j L.length) p m) ((mW L j).getD m [])).2=false)->d=L.getD j.toNat []:=by
 refine wu (C:=λn=>∀(L:O) (j:Int) (d:B8) (p:O),L.length=n->n<=1099511627776->cP L=true->0<=j->j<L.length->p.length=(cq j L.length).length->cP p=true->d.length=32->
  ko d (cq j L.length) p=root L->(∀m,m<p.length->(bt (SS d (cq j L.length) p m) ((mW L j).getD m [])).2=false)->d=L.getD j.toNat []) (λn h L j d p e F k G U o w c H z=>?_) (λn h i V L j d p e F k G U o w c H z=>?_) n
 have :L.length=1:=by omega
 have W:j=0:=by omega
 rw[wo w!] at o H;have :p=[]:=D? o;subst this;rw[Ed this] at H;rw[W];exact H
 . have hb:=iY (n:=L.length) w!;subst e;have X:=alH h F k;have Y:=za (l:=L) h rfl;have Z:=uD (ny k (sp L.length));have a:=uD (nz k (sp L.length));rw[Y,KF Z a] at H
   have K:∀(x:Bool) (s:M Bool) (A:O) (J:Int),cq j L.length=x::s->mW L j=wE L::mW A J->
     (∃P y,p=P++[y]/\P.length=s.length/\cP P=true/\ko d s P=(if x then root (L.drop (sp L.length)) else root (L.take (sp L.length)))/\∀m,m<P.length->(bt (SS d s P m) ((mW A J).getD m [])).2=false):=by
    intro x s A J es I;rw[es] at o H;have N:p≠ []:=by rintro rfl;simp at o
    obtain⟨P,y,rfl⟩:∃P y,p=P++[y]:=⟨p.dropLast,p.getLast N,(List.dropLast_concat_getLast N).symm⟩;have Q:P.length=s.length:=by simp at o;omega
    have R:cP P=true:=(cQ _).2 λq B=>(cQ _).1 w q (T! _ B);have S:y.length=32:=(cQ _).1 w y (U! _ (List.mem_singleton_self y));rw[Ã _ _ _ _ _ Q] at H;have T:(ko d s P).length=32:=C9 _ _ c λq B=>(cQ P).1 R _ (List.of_mem_zip B).2;have g:=z 0 z!;rw[es,I] at g;have b:(P++[y]).length-1-0=P.length:=by simp
    have E:SS d (x::s) (P++[y]) 0=if x then bB 1 (y++ko d s P) else bB 1 (ko d s P++y):=by
     unfold SS;rw[b,List.getD_cons_zero,List.drop_succ_cons,List.drop_zero,List.take_left,List.getD_eq_getElem?_getD,List.getElem?_append_right (Nat.le_refl _),Nat.sub_self];rfl
    rw[E,List.getD_cons_zero,X] at g;refine⟨P,y,rfl,Q,R,?_,λm hm=>?_⟩
    . cases x with
      |true=>
       have H:sum (bB 1 (y++ko d s P))=sum (bB 1 (root (L.take (sp L.length))++root (L.drop (sp L.length)))):=by
        rw[<-H,<-KF S T];rfl
       have q:=z? (QX g H);exact(List.append_inj q w!).2
      |false=>
       have H:sum (bB 1 (ko d s P++y))=sum (bB 1 (root (L.take (sp L.length))++root (L.drop (sp L.length)))):=by
        rw[<-H,<-KF T S];rfl
       have q:=z? (QX g H);exact(List.append_inj q w!).1
    have g:=z (m+1) (by simp;omega);rw[es,I,List.getD_cons_succ] at g;have f:(P++[y]).length-1-(m+1)=P.length-1-m:=by simp;omega
    have e3:SS d (x::s) (P++[y]) (m+1)=SS d s P m:=by
     unfold SS
     have e4:(P++[y]).getD (P.length-1-m) []=P.getD (P.length-1-m) []:=by
      simp;rw[List.getElem?_append_left w!]
     rw[f,e4,List.getD_cons_succ,List.drop_succ_cons,List.take_append_of_le_length w!]
    rw[e3] at g;exact g
   have em:((L.length:Int)).toNat=L.length:=E? _;by_cases r:j<((sp L.length:Nat):Int);obtain⟨P,y,rfl,t,D,u,v⟩:=K false _ _ _ (zn (n:=(L.length:Int)) w! (by rw[em];exact r)) (W4 h r);have E:(L.take (sp L.length)).length=sp L.length:=by rw[C?];omega
   have q:=i (L.take (sp L.length)) j d P E w! (ny k _) G w! (by rw[E];exact t) D c (by rw[E];exact u) (by rw[E];exact v);rw[q,E!,E!,List.getElem?_take,Q! w!];have en:((L.length-sp L.length:Nat):Int)=(L.length:Int)-((sp L.length:Nat):Int):=by omega
   obtain⟨P,y,rfl,t,D,u,v⟩:=K true _ _ _ (zo (n:=(L.length:Int)) w! (by rw[em];exact r)) (W5 h r);rw[em,<-en] at t u v;have E:(L.drop (sp L.length)).length=L.length-sp L.length:=N? ..;have q:=V (L.drop (sp L.length)) (j-((sp L.length:Nat):Int)) d P E w! (nz k _) w! w! (by rw[E];exact t) D c (by rw[E];exact u) (by rw[E];exact v);rw[q,E!,E!,List.getElem?_drop];have e5:sp L.length+(j-((sp L.length:Nat):Int)).toNat=j.toNat:=by omega
   rw[e5]
theorem aHn(h:m<p.length)(H:p.length=(cq i n).length):Þ f i n p (p.length-1-m)=SS (leaf f) (cq i n) p m:=by
 have e:cL (leaf f) i n p (p.length-1-m)=ko (leaf f) ((cq i n).drop (m+1)) (p.take (p.length-1-m)):=by
  unfold cL ko;congr 1
  rw[List.reverse_drop,List.zip_eq_zipWith,List.take_zipWith,List.zip_eq_zipWith];congr 2
  omega
 grind[Þ,SS]
theorem aHo {l:O}{i:Int}{f:B8}{p:O}(h:cB (leaf f) i l.length p=0)(H:mI l f p):FA (jY l i f p):=by
 rw[NK h];refine UJ _ λF c=>?_;obtain⟨a,b,rfl,g⟩:=W8 h H F c;exact⟨_,rfl,QY g⟩
theorem alI {l:O}{i:Int}{f:B8}{p:O}(h:cB (leaf f) i l.length p=0)(k:mI l f p)(H:jO (leaf f) i l.length p=root (leaves l))(c:(jY l i f p).2=false):f=l.getD i.toNat []:=by
 rw[NK h] at c;obtain⟨⟨o,_,v,g,w⟩,y,G⟩:=mC h
 have E:∀F∈yr l i f p,∃x,(F .n).2.1=Bv x:=λF r=>by
  obtain⟨a,b,rfl,_⟩:=W8 h k F r;exact⟨_,rfl⟩
 have R:=af0 _ E c;have A:∀m,m<=p.length->∀a b,(yr l i f p)[m]? =some (Ý a b)->(bt a b).2=false:=λm hm a b e=>R _ (W! e) _ rfl;have Y:=nA l
 have t:leaf f=(leaves l).getD i.toNat []:=by
  refine down _ (leaves l) i (leaf f) p rfl w! (kn l) g w! (by rw[Y];omega) G w! ?_ λm hm=>?_;rw[jO,Q! h] at H;rw[Y];exact H;have q:=W6 (l:=l) (i:=i) (f:=f) (p:=p) (m:=m) w!;rw[R! w!,aHn hm w!] at q;rw[Y];exact A m w! _ _ q
 have q:=W6 (l:=l) (i:=i) (f:=f) (p:=p) (m:=p.length) (M! _);rw[Q! rfl] at q;have q:=A _ (M! _) _ _ q
 have u:(leaves l).getD i.toNat []=leaf (l.getD i.toNat []):=by
  have hi:i.toNat<l.length:=by omega
  rw[E!,E!,leaves,A?,C! hi];rfl
 exact z? (QX q (t.trans u))
theorem aHp(n:Int)(g:B8)(s:M Sg)(docs:O)(l:M aB):FA (sI n g s docs l):=QY (NJ 3 ⟨NL ..,NL ..⟩)
theorem alJ{docs:O}{l:M aB}(h:cy docs l=true)(H:EH n g s (fk docs l).1=true)(c:(sI n g s docs l).2=false):Bw n g s docs l=true:=by
 obtain⟨k,e⟩:=GO H;have E:th n g s=hB n g s:=by rw[th,hW,Q! k]
 have o:zv docs l=hB docs.length (root (leaves docs)) (bu docs l):=by simp_all[zv,gI,Q!,th,hW,wk]
 have q:sum (bB 3 (th n g s))=sum (bB 3 (zv docs l)):=by
  rw[E,o];rw[fk,Q! h] at e;exact e
 exact L? (z? (QX c q))
theorem aqS(x y:Cl)(p q:Prop):Ng [λz=>(p,Bv x,z),λz=>(q,Bv y,z)]=if x.2 then x else if y.2 then y else ix:=by
 obtain⟨⟨a,b⟩,c⟩:=x;obtain⟨⟨A,B⟩,C⟩:=y;cases c<;>cases C<;>rfl
theorem My(h:KE docs l b=false):b.length<=20000/\small l:=by
 grind[KE,Bool.or_eq_false_iff,decide_eq_false_iff_not,sG,small]
end Go.S
namespace Go.S
abbrev Lf:=B8×Int
def af1(b:B8)(e:Int):Lf×Int:=if e≠0 then((b,e),0) else((b.drop (first b).2.1.toNat,(first b).2.2),(first b).1)
def aqT(b:B8)(e m:Int):Lf×B8:=if e≠0 then((b,e),[]) else((b.drop (aL b m).2.1.toNat,(aL b m).2.2),(aL b m).1)
def QZ(b:B8)(e m:Int):Lf×Int:=if(af1 b e).1.2=0/\m<(af1 b e).2 then(([],2),0) else af1 b e
def aHq(b:B8)(k:Nat):O:=(List.range k).map λi=>(b.drop (32*i)).take 32
def tPN(b:B8)(e:Int):Nat:=(QZ b e 64).2.toNat
def aHs(b:B8)(e:Int):Lf×O:=
 if(QZ b e 64).1.1.length<32*tPN b e then(([],4),[]) else(((QZ b e 64).1.1.drop (32*tPN b e),(QZ b e 64).1.2),aHq (QZ b e 64).1.1 (tPN b e))
def u1(b:B8)(e:Int):Lf×Int:=af1 b e
def u2(b:B8)(e:Int):Lf×B8:=aqT (u1 b e).1.1 (u1 b e).1.2 200
def u3(b:B8)(e:Int):Lf×O:=aHs (u2 b e).1.1 (u2 b e).1.2
def u4(b:B8)(e:Int):Lf×B8:=aqT (u3 b e).1.1 (u3 b e).1.2 4000
def rh(l:M bj):Prop:=(∀i,i<l.length->(0<=(cM l i).1/\(cM l i).1<=3)/\((cM l i).1≠0->2<=c9 l i))/\c9 l l.length=1
def xL(l:M bj):Nat->Int->Nat
 |0,_=>0
 |i+1,n=>if n<=0 then i+1 else xL l i (if(cM l i).1=0 then n-1 else n+1)
def oW(l:M bj):Int:=(xL l (l.length-1) 1:Int)
def sJ(l:M bj)(n:Int)(i:Nat):Prop:=i<l.length/\xL l i n=xL l (l.length-1) 1/\n=1+(c9 l i-c9 l (l.length-1))
variable {l:List bj}{i:Nat}{n:Int}{doc:B8}
theorem â(h:rh l):1<=l.length:=by
 have:=h.2;grind[c9,gR]
theorem Q0(h:rh l)(H:¬(cM l (l.length-1)).1=0):c9 l (l.length-1)=2/\3<=l.length:=by
 have a:=â h;have e:=uH H;rw[show l.length-1+1=l.length by omega,h.2] at e;have:=WR l (l.length-1);omega
theorem aEI(h:rh l):sJ l 1 (l.length-1):=by
 have:=â h;exact⟨w!,rfl,w!⟩
theorem Mz {l:M bj}(h:rh l)(H:¬(cM l (l.length-1)).1=0)(a:sJ l n i):n=c9 l i-1/\ -1<=n+i/\n<=i/\(0<n->2<=i):=by
 have q:=Q0 h H;have e:=a.2.2;have b:=gR l i;have c:c9 l i=2*nW l i-i:=rfl;omega
theorem ã {l:M bj}(h:rh l)(a:¬(cM l (l.length-1)).1=0)(H:sJ l n i)(b:0<n):sJ l (bif decide ((cM l (i-1)).1=0) then n-1 else n+1) (i-1):=by
 have c:=Mz h a H;have⟨A,d,f⟩:=H;have e:i=(i-1)+1:=by omega
 have g:xL l i n=xL l (i-1) (if(cM l (i-1)).1=0 then n-1 else n+1):=by
  conv=>lhs;rw[e]
  rw[xL,R! w!]
 refine⟨w!,?_,?_⟩<;>grind[zq,uH]
theorem awR(h:sJ l n i)(H:¬0<n):(i:Int)=oW l:=by
 unfold oW;rw[<-h.2.1];cases i with
 |zero=>rfl
 |succ i=>simp_all[xL,Q!]
theorem UK {l:M bj}(h:rh l)(H:¬(cM l (l.length-1)).1=0):∀(i:Nat) (n:Int),sJ l n i->(∀j,i<j->j<l.length->2<=c9 l j)->(0<n\/n=0)->
  1<=xL l i n/\xL l i n<=i/\c9 l (xL l i n)=1/\∀j,xL l i n<j->j<l.length->2<=c9 l j
 |0,n,hi,a,b=>by
  have c:=Mz h H hi;have :c9 l 0=0:=rfl;omega
 |i+1,n,hi,a,b=>by
  have c:=Mz h H hi;by_cases q:n<=0;rw[xL,if_pos q];grind;have s:=ã h H hi w!;rw[Bool.cond_decide,show i+1-1=i from rfl] at s;rw[xL,if_neg q]
  have:=UK h H i _ s (λj f d=>by
   by_cases e:j=i+1;rw[e];omega;exact a j w! d) (by split<;>omega)
  exact⟨this.1,w!,this.2.2⟩
theorem ri(h:rh l)(H:¬(cM l (l.length-1)).1=0):∃i:Nat,oW l=(i:Int)/\1<=i/\i+1<l.length/\c9 l i=1/\∀j,i<j->j<l.length->2<=c9 l j:=by
 have q:=Q0 h H;have:=UK h H _ 1 (aEI h) (λj a b=>by omega) (.inl (by decide));refine⟨_,rfl,this.1,?_,this.2.2⟩;grind
theorem ä {l:M bj}{i:Nat}:∀k,k<=i->nW (l.take i) k=nW l k
 |0,_=>rfl
 |k+1,h=>by
  have e:cM (l.take i) k=cM l k:=by unfold cM;grind
  simp[nW];rw[ä k w!,e]
theorem å {l:M bj}{i:Nat}:∀k,nW (l.drop i) k=nW l (i+k)-nW l i
 |0=>by simp[nW]
 |k+1=>by
  have e:cM (l.drop i) k=cM l (i+k):=by unfold cM;grind
  simp[nW];rw[å k,e];omega
theorem u9{k:Nat}(h:k<=i):c9 (l.take i) k=c9 l k:=by grind[c9,ä]
theorem UL{k:Nat}:c9 (l.drop i) k=c9 l (i+k)-c9 l i:=by grind[c9,å]
theorem GP {l:M bj}(h:rh l)(b:¬(cM l (l.length-1)).1=0)(f:1<=i)(m:i+1<l.length)(H:c9 l i=1)(c:∀j,i<j->j<l.length->2<=c9 l j):
  rh (l.take i)/\rh ((l.take (l.length-1)).drop i):=by
 refine⟨⟨λk a=>?_,?_⟩,λk a=>?_,?_⟩;rw[List.length_take] at a;have e:cM (l.take i) k=cM l k:=by grind[cM]
 rw[e,u9 w!];exact h.1 k w!;rw[List.length_take,Nat.min_eq_left w!,u9 (Nat.le_refl _),H];rw[List.length_drop,List.length_take] at a;have e:cM ((l.take (l.length-1)).drop i) k=cM l (i+k):=by unfold cM;grind
 rw[e,UL,u9 w!,u9 w!,H];refine⟨(h.1 (i+k) w!).1,λd=>?_⟩;have g:=uH d;have:=c (i+k+1) w! w!;omega;rw[N?,C?,UL,u9 w!,u9 w!,H,show i+(min (l.length-1) l.length-i)=l.length-1 by omega,(Q0 h b).1];rfl
theorem aHt(h:aZ l=true):rh l:=by
 refine⟨λi H=>?_,(WH.1 h).2.1⟩;simp_all[Jf]
def Jj(doc:B8)(l:M bj):Prop:=rh l/\small l/\small doc
def Xc(D:O)(l:M bj):Prop:=rh l/\small l/\D.length<=1000/\∀d∈D,small d
theorem NM {f:B8->Bool}{m:M bj}(h:∀i,i<m.length->(cM m i).1≠0->2<=c9 m i)(s:M Bool):∀k,k<=m.length->(m.take k).foldl (tK f) s=s++tL f m k/\((tL f m k).length:Int)=c9 m k
 |0,_=>by simp[tL,c9,nW]
 |k+1,hk=>by
  obtain⟨i1,I⟩:=NM h s k w!;have es:=Es (f:=f) (l:=m) (k:=k) w!
  have E:(m.take (k+1)).foldl (tK f) s=tK f (s++tL f m k) (m.getD k (0,[])):=by
   rw[an m k (0,[]) w!,List.foldl_append,i1];rfl
  rw[E,es];by_cases q:(cM m k).1=0;have e:tK f (s++tL f m k) (m.getD k (0,[]))=s++tL f m k++[f (cM m k).2]:=if_pos q;have a:tK f (tL f m k) (m.getD k (0,[]))=tL f m k++[f (cM m k).2]:=if_pos q;grind[List.append_assoc,zq,List.length_append,List.length_cons,List.length_nil];have H:=h k w! q;have e:∀z:M Bool,tK f z (m.getD k (0,[]))=z.take (z.length-2)++[W0 (cM m k).1 (z.getD (z.length-2) false) (z.getD (z.length-1) false)]:=λz=>if_neg q;rw[e,e,uH q];generalize tL f m k=z at *;refine⟨?_,by simp;omega⟩;rw[List.length_append,show s.length+z.length-2=s.length+(z.length-2) by omega,show s.length+z.length-1=s.length+(z.length-1) by omega,List.take_append,List.take_of_length_le w!,<-List.append_assoc]
  have g:∀j,(s++z).getD (s.length+j) false=z.getD j false:=λj=>by
   rw[E!,List.getElem?_append_right w!,E!,j?]
  rw[g,g,show s.length+(z.length-2)-s.length=z.length-2 by omega]
theorem alK(h:rh l)(H:(cM l (l.length-1)).1=0):qf doc (cM l (l.length-1)).2=gS l doc:=by
 have b:=â h;have e:=NM (f:=qf doc) (m:=l) (λi a q=>(h.1 i a).2 q) [] (l.length-1) w!;have g:=zq H;rw[show l.length-1+1=l.length by omega,h.2] at g;have E:=Es (f:=qf doc) (l:=l) (k:=l.length-1) w!;have c:tL (qf doc) l (l.length-1)=[]:=D? w!;simp_all[tK,cM,Q!,gS]
theorem KG{l:M bj}(h:rh l)(a:¬(cM l (l.length-1)).1=0)(e:1<=i)(g:i+1<l.length)(o:c9 l i=1)(p:∀j,i<j->j<l.length->2<=c9 l j):
  W0 (cM l (l.length-1)).1 (gS (l.take i) doc) (gS ((l.take (l.length-1)).drop i) doc)=gS l doc:=by
 obtain⟨s,P⟩:=GP h a e g o p;have E:=Es (f:=qf doc) (l:=l) (k:=l.length-1) w!;have b:=NM (f:=qf doc) (m:=(l.take (l.length-1)).drop i) (λj H q=>(P.1 j H).2 q) (tL (qf doc) l i) ((l.take (l.length-1)).drop i).length (M! _)
 have c:tL (qf doc) l (l.length-1)=tL (qf doc) l i++tL (qf doc) ((l.take (l.length-1)).drop i) ((l.take (l.length-1)).drop i).length:=by
  grind[List.take_length,tL,List.take_append_drop]
 have t:tL (qf doc) l i=tL (qf doc) (l.take i) (l.take i).length:=by
  grind[tL,List.take_length]
 have O:∀m:M bj,rh m->tL (qf doc) m m.length=[gS m doc]:=λm d=>by
  have r:=(NM (f:=qf doc) (m:=m) (λj H q=>(d.1 j H).2 q) [] m.length (Nat.le_refl _)).2;rw[d.2] at r;grind[gS,hx,List.length_eq_one_iff,tL,qf]
 have u:tK (qf doc) ([gS (l.take i) doc]++[gS ((l.take (l.length-1)).drop i) doc]) (l.getD (l.length-1) (0,[]))=[W0 (cM l (l.length-1)).1 (gS (l.take i) doc) (gS ((l.take (l.length-1)).drop i) doc)]:=if_neg a;grind
end Go.S
namespace Go.S
open Go.Vg (CF AV gF tD)
theorem alL {d:M bw}(H:aK d=true){t:B8}(b:isTerm t=true){p:Pf}{k:Nat}(r:k<=d.length)(a:(p.2.1,p.2.2.1,p.2.2.2.1)=(Ź d k,lkB d k,kl (if k=0 then [] else iD d (k-1))))
  (h:(Jb t p).2=0) (f:p.2.1=t->(QU 2 p.2.2.2.2.2 (jH (dN d t))).2=false):(Jb t p).1=dN d t:=by
 simp at a;obtain⟨L,s,l⟩:=a;have D:=ZO b;unfold Jb at h |-;split at h;rename_i hw;rw[if_pos hw];simp only[I9,Bool.and_eq_true,decide_eq_true_eq] at hw;obtain⟨w,W,i⟩:=hw;have Y:k≠0:=by rintro rfl;rw[Ź,if_pos rfl] at L;grind
 rw[Ź,R! Y] at L;rw[R! Y] at l
 have j:fE d t=true:=by
  grind[C4,cJ]
 obtain⟨Q,u,q3,v,_⟩:=apQ H j
 have x:cF d (bo d t).toNat=t:=by
  simp_all[fE,B!,H!]
 have e:(bo d t).toNat=k-1:=by
  rcases Nat.lt_trichotomy (bo d t).toNat (k-1) with c|c|c;have:=r8 H _ _ c w!;grind[cJ];exact c;have:=r8 H _ _ c w!;grind[cJ]
 have E:iD d (k-1)=dN d t:=by rw[<-q3,e];rfl
 have g:=f w;have m:jH (dN d t)=iH (dN d t):=by grind
 rw[m] at g
 have n:sum (bB 2 p.2.2.2.2.2)=sum (bB 2 (iH (dN d t))):=by
  rw[E] at l;exact i.trans l
 have y:p.2.2.2.2.2=iH (dN d t):=List.tail_eq_of_cons_eq (QX g n);grind[aaC];rename_i o;split at h;rename_i hw;simp only[Ja,Bool.and_eq_true,Bool.or_eq_true,decide_eq_true_eq] at hw;obtain⟨w,W,_⟩:=hw
 have q:aeX d t k=true:=by
  simp_all[aeX,B!,Y?,H!]
 grind[alg,fE,C4,cJ,dN];omega
theorem alM {d:M bw}{t:B8}{p:Pf}(i:Dg d t p.2.2.2.2.1 p.2.2.2.2.2)(a:aK d=true)(h:(jr (pG d) (bn d).length t p).2=0)(c:(fv d t p).2=false):(jr (pG d) (bn d).length t p).1=dN d t:=by
 have E:bn d=dW d:=by rw[bn,Q! a]
 have j:pG d=root (leaves (dW d)):=by rw[pG,Q! a,oa]
 have e:dE d=0:=by rw[dE,Q! a]
 unfold fv at c;rw[if_neg (not_not_intro e),if_neg (not_not_intro h)] at c;cases S:(jY (bn d) p.1 (dw p.2.1 p.2.2.1 p.2.2.2.1) p.2.2.2.2.1).2 with
 |true=>grind
 |false=>
  unfold jr at h |-;split at h;rename_i b;split at h;rename_i hu;rw[if_pos b,if_pos hu];have H:=aaG i e p.2.1 p.2.2.1 p.2.2.2.1;simp[Nf,Bool.and_eq_true,decide_eq_true_eq] at hu;obtain⟨u1,u,U⟩:=hu;have k:dw p.2.1 p.2.2.1 p.2.2.2.1=mc p.2.1 p.2.2.1 p.2.2.2.1:=by rw[dw,if_pos u1]
  rw[k] at S H;rw[E] at S H u U;rw[j] at U;have l:=alI u H U S;obtain⟨⟨_,_,_,G,m⟩,_⟩:=mC u;have n:(dW d).length=d.length+1:=by simp[dW,eM]
  have f:p.1.toNat<=d.length:=by omega
  have g:=ź a f;rw[<-l,Qe u1] at g;simp[De,Bool.and_eq_true] at b;refine alL a b.2.2.2 f (congrArg (·.1) g) h λq=>?_;grind;omega;omega
theorem awS {l:O}{i:Int}{f:B8}{p:O}(h:mI l f p):FA (jY l i f p):=by
 grind[aHo,W3,rf]
theorem aHv {d:M bw}{t:B8}{p:Pf}(h:Dg d t p.2.2.2.2.1 p.2.2.2.2.2):FA (fv d t p):=by
 unfold fv;split;exact rf;split;exact rf;split;grind[awS,aaG];split;exact rf;exact QY (NJ 2 ⟨h.2.2.2.1,afT _⟩)
theorem aqU {d:M bw}(H:aW d):∀(T:O) (P:M Pf),(∀t∈T,small t)->(∀p∈P,eX p.2.2.2.2.1/\az p.2.2.2.2.2/\small p.2.2.2.2.2)->FA (wC d T P)
 |[],P,_,_=>by grind[wC,rf]
 |_::_,[],_,_=>by grind[wC,rf]
 |t::T,p::P,h1,a=>by
  rw[wC];split;exact aHv ⟨H,h1 t (G! ..),a p (G! ..)⟩;exact aqU H T P (λt h=>h1 t (F! _ h)) λp h=>a p (F! _ h)
theorem aqV {T:O}(H:∀t∈T,small t):∀(l:M aB) (a:M (M Pf)),(∀s∈l,aW s.2.2)->(∀r∈a,aaF T r)->FA (sC T l a)
 |[],a,_,_=>by grind[sC,rf]
 |_::_,[],_,_=>by grind[sC,rf]
 |s::l,r::a,h1,b=>by
  rw[sC];split;exact aqU (h1 s (G! ..)) T r H (b r (G! ..)).2;exact aqV H l a (λs h=>h1 s (F! _ h)) λr h=>b r (F! _ h)
theorem aqW {d:M bw}:∀(T:O) (P:M Pf),T.length<=P.length->(wC d T P).2=false->∀j,j<T.length->(fv d (T.getD j []) (P.getD j Fu)).2=false
 |[],_,_,_,j,H=>absurd H (Nat.not_lt_zero _)
 |_::_,[],h,_,_,_=>absurd h z!
 |t::T,p::P,h,a,j,H=>by
  rw[wC] at a;cases e:(fv d t p).2 with
  |true=>grind
  |false=>
   rw[if_neg x!] at a;cases j with
   |zero=>exact e
   |succ j=>exact aqW T P (Nat.le_of_succ_le_succ h) a j (Nat.lt_of_succ_lt_succ H)
theorem aqX {t:O}:∀(l:M aB) (a:M (M Pf)),l.length<=a.length->(sC t l a).2=false->∀k,(h:k<l.length)->(wC l[k].2.2 t (a.getD k [])).2=false
 |[],_,_,_,k,hk=>absurd hk (Nat.not_lt_zero _)
 |_::_,[],h,_,_,_=>absurd h z!
 |s::l,r::a,h,H,k,hk=>by
  rw[sC] at H;cases e:(wC s.2.2 t r).2 with
  |true=>grind
  |false=>
   rw[if_neg x!] at H;cases k with
   |zero=>exact e
   |succ k=>exact aqX l a (Nat.le_of_succ_le_succ h) H k (Nat.lt_of_succ_lt_succ hk)
theorem æ {d:O}{l:M aB}(b:cy d l=true){T:O}{a:M (M Pf)}(h:∀i (hi:i<l.length) j,j<T.length->(wV (EI (bu d l) i) (T.getD j []) a i j).1=dN l[i].2.2 (T.getD j [])){j:Nat}(H:j<T.length):∀i,i<=l.length->
  tJ (bu d l) a T j i=(l.take i).flatMap λs=>dN s.2.2 (T.getD j [])
 |0,_=>by rfl
 |i+1,hi=>by
  have I:=æ b h H i w!;rw[tJ,I,h i w! j H,List.take_succ_eq_append_getElem w!,List.flatMap_append];simp[QK]
variable {docs:List B8}{l:List aB}{q:List bj}{b:B8}
theorem awT(H:cy docs l=true){T:O}{a:M (M Pf)}(h:∀i (hi:i<l.length) j,j<T.length->(wV (EI (bu docs l) i) (T.getD j []) a i j).1=dN l[i].2.2 (T.getD j [])):xI (bu docs l) a T l.length=kq docs T:=by
 unfold xI kq;refine List.ext_getElem z! λj d e=>?_;have c:j<T.length:=by grind
 simp;rw[æ H h c _ (M! _),List.take_length,aqD H,QR c]
theorem awU(h:cy docs l=true)(H:aZ q=true):iM q (kq docs (al q))=(afO docs q,0):=by
 have e:lO q (kq docs (al q))=true:=by
  simp[lO,H,Bool.true_and,Bool.and_eq_true,decide_eq_true_eq,List.all_eq_true];refine⟨by simp[kq],λx a=>?_⟩;obtain⟨t,_,rfl⟩:=List.mem_map.1 a;grind[UD]
 unfold iM;rw[if_pos e];rfl
theorem af2 {r:B8}(h:(fJ r q b).2=0):aZ q=true/\(aI b).2=0/\fJ r q b=iM q (xI (aI b).1.2.2.1 (aI b).1.2.2.2 (al q) (aI b).1.2.2.1.length)/\Fy r (aI b).1 (al q)=true:=by
 grind[fJ]
theorem aaI {docs:O}{l:M aB}{q:M bj}{b:B8}(t:b.length<1099511627776)(H:cy docs l=true)(u:dq q)(h:(fJ (tH docs l) q b).2=0)(D:lG (fJ (tH docs l) q b).1 (kM docs q docs.length)=false):
  (dJ docs l q b).2=true/\QT (dJ docs l q b).1.1 (dJ docs l q b).1.2=true/\iy (dJ docs l q b).1.1 (dJ docs l q b).1.2:=by
 have e:tH docs l=(fk docs l).1:=by rw[aqo H]
 have E:(fk docs l).2=0:=by rw[aqo H]
 rw[e] at h D;obtain⟨L,p,v,a⟩:=af2 h;have Q:=afY t u E h p;rw[W9 E h p];have w:=aqS (sI (aI b).1.1 (aI b).1.2.1 (aI b).1.2.2.1 docs l) (lf (aI b).1.1 (aI b).1.2.1 (aI b).1.2.2.1 docs l (al q) (aI b).1.2.2.2) True (uK (aI b).1.1 (aI b).1.2.1 (aI b).1.2.2.1 docs l (al q) (aI b).1.2.2.2);rw[show Ng [hdF _ _ _ docs l,lsF _ _ _ docs l _ _]=_ from w];simp only[Fy,B!] at a;cases d:(sI (aI b).1.1 (aI b).1.2.1 (aI b).1.2.2.1 docs l).2 with
 |true=>exact⟨d,aHp _ _ _ _ _ d⟩
 |false=>
  have he:=alJ H a.1 d;obtain⟨R,S,N⟩:=afX H (GO a.1).1 he;obtain⟨x,P,r,y⟩:=Q he;have z:lf (aI b).1.1 (aI b).1.2.1 (aI b).1.2.2.1 docs l (al q) (aI b).1.2.2.2=sC (al q) l (aI b).1.2.2.2:=by rw[lf,Q! he]
  rw[z];cases f:(sC (al q) l (aI b).1.2.2.2).2 with
  |true=>exact⟨f,aqV r l _ y P f⟩
  |false=>
   have A:=aqX l _ x f;have T:(aI b).1.2.2.1.length=l.length:=by grind[Mu]
   have s:=a.2;simp only[AN,AM,V!,f?,B!] at s
   have K:∀i (hi:i<l.length) j,j<(al q).length->(wV (EI (bu docs l) i) ((al q).getD j []) (aI b).1.2.2.2 i j).1=dN l[i].2.2 ((al q).getD j []):=by
    intro i hi j c;obtain⟨f1,U,F⟩:=Eo H _ (List.getElem_mem hi);have k:i<(aI b).1.2.2.2.length:=by omega
    have m:=P _ (aU (aI b).1.2.2.2 i [] k);have B:=aqW _ _ m.1 (A i hi) j c;have n:=Y! c m.1;have C:=m.2 _ (aU ((aI b).1.2.2.2.getD i []) j Fu n);have o:=(s i w!).2 j c;have I:Mw (aI b).1.2.2.2 (i:Int) (j:Int)=((aI b).1.2.2.2.getD i []).getD j Fu:=by simp[Mw,pfD,fu]
    rw[N] at o;rw[ud,Bool.and_eq_true] at o;have G:=of_decide_eq_true o.1;unfold wV at G |-;rw[awH H hi,I] at G |-;have J:Dg l[i].2.2 ((al q).getD j []) (((aI b).1.2.2.2.getD i []).getD j Fu).2.2.2.2.1 (((aI b).1.2.2.2.getD i []).getD j Fu).2.2.2.2.2:=⟨F,r _ (aU _ j [] c),C⟩;have g:=alM J f1;rw[bn,if_pos f1,pG,if_pos f1] at g;exact g G B
   grind[awT,awU,awK,AI,Z5]
theorem awV(h:cy docs l=true)(H:aZ q=true)(a:dq q):Xc docs q:=by
 obtain⟨c,e⟩:=AI h;refine⟨aHt H,a.1,c,λd f=>?_⟩;obtain⟨i,hi,rfl⟩:=List.getElem_of_mem f;have:=e i;rw[List.getD_eq_getElem?_getD,List.getElem?_eq_getElem hi,Option.getD_some] at this;unfold small;omega
theorem aqY{f:M U}(h:¬(iM q f).2=0):(iM q f).1=[]:=by
 grind[iM]
theorem awW {r:B8}(h:¬(fJ r q b).2=0):(fJ r q b).1=[]:=by
 unfold fJ at h |-;split at h;grind;split at h;grind;split at h;simp_all[if_pos,aqY]
 grind
theorem ç {docs:O}{l:M aB}{q:M bj}{b:B8}(c:b.length<=20000)(H:cy docs l=true)(a:dq q)(h:(fJ (tH docs l) q b).2=0)(d:lG (fJ (tH docs l) q b).1 (kM docs q (len docs))=false):
  (bif (dJ docs l q b).2 then bif QT (dJ docs l q b).1.1 (dJ docs l q b).1.2 then true else false else false)=true/\iy (dJ docs l q b).1.1 (dJ docs l q b).1.2:=by
 obtain⟨Q,e,f⟩:=aaI w! H a h d;grind
end Go.S
namespace Go.Vg
open Go
variable [HP]
def Q1 {P:Program}{W:World}:∀ {l:M (String×DataW Unit)} {b:M MemPlace} {n:String} {d:DataW Unit},DataW.LaidVars P W l b->(n,d)∈l->
  ∃(g:Nat) (t:TypeId) (c:Array Value) (f:Nat) (p:M MemPlace),P.globalNamed n=some g/\(P.globals[g]?).map (·.type)=some t/\W.var? P n=some c/\DataW.trod (λ_=>()) P W 0 (λ_=>true) false f t c.toList=some (d,p)
 |[],_,_,_,_,hm=>by grind
 |x::rest,b,n,d,h,hm=>by
  obtain⟨G,T,c,f,p,q,y,H,a,e,i,j⟩:=h;rcases O!.1 hm with rfl|hm;exact⟨G,T,c,f,p,y,H,a,e⟩;exact Q1 i hm
def Q2 {H:Type}{E:TypeId×Value->H}{P:Program}{w:World}{B:Nat}{S:Nat->Bool}{d:Bool}{F:Nat}{t e:TypeId}{n m:Nat}{k:IntKind}{C:M Value}{Z:M U}{p:M MemPlace}{c:Array Field}
  (L:P.underlying t=some (.array n e)) (N:P.underlying e=some (.struct c)) (V:P.cellsOf e=m) (s:P.cellsOf t=n*m) (O:c.size=m) (Q:∀(i:Nat) (f:Field),c[i]? =some f->f.offset=i/\P.underlying f.type=some (.int k)/\P.cellsOf f.type=1)
  (R:∀r∈Z,r.length=m) (h:DataW.trod E P w B S d F t C=some (.agg (Z.map λr=>.agg (r.map λz=>.lit (.int k z))),p)):C.length=n*m/\Z.length=n/\
    ∀i j,i<n->j<m->C[i*m+j]? =some (.int k ((Z.getD i []).getD j 0)):=by
 cases F with
 |zero=>simp[DataW.trod] at h
 |succ F=>
  simp only[DataW.trod,L,V,s] at h;split at h;rename_i T;obtain⟨x,J,W⟩:=Option.map_eq_some_iff.1 h
  have g:x.map (·.1)=Z.map λr=>(DataW.agg (r.map λz=>.lit (.int k z)):DataW H):=by
   have:=congrArg Prod.fst W;simpa using this
  have M9:x.length=n:=by simpa using Lib.mapM_length J
  have u:Z.length=n:=by
   have:=congrArg List.length g;simp at this;omega
  refine⟨T,u,λi j hi X=>?_⟩;obtain⟨b,Y,v⟩:=Lib.mapM_at J i i (by simp[hi])
  have K:b.1=DataW.agg ((Z.getD i []).map λz=>.lit (.int k z)):=by
   have q:(x.map (·.1))[i]? =some b.1:=by simp[Y]
   rw[g] at q;rw[A?,C! w!] at q;simp at q;rw[<-q,E!,C! w!];rfl
  obtain⟨y,n',_,hy,_,hyl,A⟩:=DataW.trod_struct N v
  have D:y.map (·.1)=(Z.getD i []).map λz=>(DataW.lit (.int k z):DataW H):=by
   rw[hy] at K;simpa using K
  have hrl:(Z.getD i []).length=m:=R _ (by rw[E!,C! w!];exact List.getElem_mem _);have l:j<c.size:=by omega
  have a:=A j c[j] (u? l);obtain⟨f1,f2,f3⟩:=Q j c[j] (u? l);rw[f1,f3] at a;have o:j<y.length:=by omega
  rw[C! o] at a;obtain⟨z,hc,G,_⟩:=DataW.trod_int f2 a
  have h1:C[i*m+j]? =some (.int k z):=by
   have:=congrArg (·[0]?) hc;simpa[X,Nat.add_comm] using this
  have I:(y.map (·.1))[j]? =some (DataW.lit (.int k z)):=by rw[A?,C! o,G];rfl
  rw[D,List.getElem?_map,List.getElem?_eq_getElem w!] at I;simp only[Option.map_some,Option.some.injEq,DataW.lit.injEq,Lit.int.injEq,true_and] at I;rw[h1,List.getD_eq_getElem?_getD,List.getElem?_eq_getElem w!];simp only[Option.getD_some,I];grind
variable {W:World}
theorem af3 {P:Program}{n:String}{g:Nat}{c:Array Value}(H:P.globalNamed n=some g)(h:W.var? P n=some c)(a:0<c.size):g<W.heap.size:=by
 have b:=World.var?_cell H h 0;grind[Array.getElem?_eq_getElem,World.cell?,Array.getElem?_eq_some_iff]
def po(k:IntKind):(ts:M Ty)->U->Row ts->Prop
 |[],[],_=>True
 |.int k'::ts,z::zs,x=>k'=k/\DI.toInt k' (Row.hd (t:=.int k') (ts:=ts) x)=z/\lo k<=z/\z<=hi k/\po k ts zs (Row.tl x)
 |_,_,_=>False
def Q3 {w:World}{A:Nat->Prop}{k:IntKind}:∀(t:M Ty) (Z:U) (x:Row t),po k t Z x->bJ w A t (Z.map (Value.int k)) x
 |[],[],x,_=>by rfl
 |.int k'::t,z::Z,x,h=>by
   obtain⟨rfl,H,a,b,c⟩:=h;refine⟨_,_,rfl,?_,Q3 t Z _ c⟩;simp[Rd];rw[H];exact⟨rfl,a,b⟩
 |.bool::_,_,_,h|.str::_,_,_,h|.slice _::_,_,_,h|[],_::_,_,h|.int _::_,[],_,h=>by grind[po]
def yu(k:IntKind)(t:M Ty):M U->M (Row t)->Prop
 |[],[]=>True
 |z::r,x::l=>po k t z x/\yu k t r l
 |_,_=>False
theorem KH {w:World}{A:Nat->Prop}{k:IntKind}{t:M Ty}:∀(z:M U) (l:M (Row t)),yu k t z l->dZ (bJ w A t) (z.flatten.map (Value.int k)) l
 |[],[],_=>by rfl
 |Z::r,x::l,h=>by
  exact⟨Z.map (Value.int k),r.flatten.map (Value.int k),z!,Q3 t Z x h.1,KH r l h.2⟩
 |[],_::_,h|_::_,[],h=>by grind[yu]
def MA {m:Nat}:∀(Z:M U),(∀r∈Z,r.length=m)->∀q (z:Int),Z.flatten[q]? =some z->∃i j,i<Z.length/\j<m/\q=i*m+j/\(Z.getD i []).getD j 0=z
 |[],_,q,z,h=>by grind
 |r::rs,hz,q,z,h=>by
  have H:r.length=m:=hz r z!;by_cases a:q<m;refine⟨0,q,z!,a,z!,?_⟩;grind;rw[List.flatten_cons,List.getElem?_append_right w!,H] at h;obtain⟨i,j,c,b,d,e⟩:=MA rs (λr Q=>hz r x!) (q-m) z h;refine⟨i+1,j,x!,b,?_,x!⟩;grind
def Q4 {P:Program}{N:String}{g:Nat}{t e:TypeId}{n m:Nat}{k:IntKind}{F:Array Field}{zss:M U}{R:M Ty}{l:M (Row R)}{L:M (String×DataW Unit)}
  (w:laidMet P L W) (A:(N,DataW.agg (zss.map λr=>.agg (r.map λz=>.lit (.int k z))))∈L) (h:P.globalNamed N=some g) (C:(P.globals[g]?).map (·.type)=some t)
  (x:P.underlying t=some (.array n e)) (y:P.underlying e=some (.struct F)) (V:P.cellsOf e=m) (H:P.cellsOf t=n*m) (a:F.size=m) (B:∀(i:Nat) (f:Field),F[i]? =some f->f.offset=i/\P.underlying f.type=some (.int k)/\P.cellsOf f.type=1)
  (d:∀r∈zss,r.length=m) (T:0<n*m) (D:yu k R zss l):pq W (λb=>b<W.heap.size) g ⟨R,l⟩:=by
 obtain⟨X,S,_⟩:=w;obtain⟨Y,Z,E,o,p,G,I,s,J⟩:=Q1 S A;obtain rfl:=R? (h.symm.trans G);obtain rfl:=R? (C.symm.trans I);obtain⟨q1,q2,q3⟩:=Q2 x y V H a B d J;have K:E.size=n*m:=by omega
 refine⟨af3 h s w!,zss.flatten.map (Value.int k),λq v u=>?_,KH zss l D⟩;rw[A?] at u;obtain⟨z,c,rfl⟩:=Option.map_eq_some_iff.1 u;obtain⟨i,j,hi,O,rfl,Q⟩:=MA zss d q z c;rw[n?,World.var?_cell h s,<-m?,q3 i j w! O,Q]
theorem Jk:∀Z:U,(Z.map λz=>[z]).flatten=Z
 |[]=>rfl
 |z::Z=>by simp only[G?,List.flatten_cons,Jk Z];rfl
def Q5 {P:Program}{N:String}{g:Nat}{t e:TypeId}{n:Nat}{k:IntKind}{zs:U}{r:M Ty}{l:M (Row r)}{L:M (String×DataW Unit)}
  (c:laidMet P L W) (A:(N,DataW.agg (zs.map λz=>.lit (.int k z)))∈L) (h:P.globalNamed N=some g) (C:(P.globals[g]?).map (·.type)=some t)
  (d:P.underlying t=some (.array n e)) (i:P.underlying e=some (.int k)) (V:P.cellsOf e=1) (H:P.cellsOf t=n) (w:0<zs.length) (x:yu k r (zs.map λz=>[z]) l):pq W (λb=>b<W.heap.size) g ⟨r,l⟩:=by
 obtain⟨y,S,_⟩:=c;obtain⟨G,T,j,f,p,m,o,a,s⟩:=Q1 S A;obtain rfl:=R? (h.symm.trans m);obtain rfl:=R? (C.symm.trans o);have u:=Lib.cells_of_tab d i V H s
 have E:0<j.size:=by
  grind
 refine⟨af3 h a E,zs.map (Value.int k),λq v B=>?_,?_⟩;rw[Nat.zero_add,World.var?_cell h a,<-Array.getElem?_toList,u];omega;grind[KH,Jk]
end Go.Vg
namespace Go.Vg
open Go Go.ChangeShapes Go.WideShapes Go.ChangeAt Go.RowKit
variable [HP]
end Go.Vg
namespace Go.Proofs
open Go Go.RowKit Go.ChangeShapes Go.Vg
set_option maxHeartbeats 1000000 in
def Tryz.aHx:anj Tryz.prog 239 240:=by
 refine⟨λargs w=>by kernel_rfl,λw y p=>?_⟩;go_enter Tryz.func239,Tryz.ntmps239
 go_wp2
 go_ret
 exact⟨_,rfl,rfl⟩
def Tryz.mkf(f:Nat):Option Nat:=bif Nat.beq f 239 then some 240 else none
theorem Tryz.Vb(P:Program)(H:P=Tryz.prog)(f g:Nat)(h:Tryz.mkf f=some g):anj P f g:=by
 subst H;unfold Tryz.mkf at h;cases h1:Nat.beq f 239 with
 |true=>
  rw[h1] at h;cases D! h1;cases h;exact Tryz.aHx
 |false=>
  rw[h1] at h;cases h
end Go.Proofs
namespace Go.Vg
open Go.Proofs
open Go
instance :HP:=⟨λP=>P=Tryz.prog,Tryz.mkf,Tryz.Vb⟩
def gm:Vg.b9:=(.node (.node (.node (.node (.node (.node (.node .leaf 3 ⟨.int .i64,1,8, .int .i64 (0)⟩ .leaf) 4 ⟨.bool,1,1, .bool false⟩ (.node .leaf 5 ⟨.int .u8,1,1, .int .u8 (0)⟩ .leaf)) 9 ⟨.string,1,16, .string ⟨#[]⟩⟩ (.node (.node .leaf 22 ⟨.slice 27,1,24, .slice none 0 0⟩ .leaf) 23 ⟨.slice 89,1,24, .slice none 0 0⟩ .leaf)) 25 ⟨.struct #[⟨ "Docs",22,0,false,"","",0⟩,⟨ "Segs",23,1,false,"","",24⟩],2,48, .agg #[.slice none 0 0, .slice none 0 0]⟩ (.node (.node (.node .leaf 26 ⟨.slice 81,1,24, .slice none 0 0⟩ .leaf) 27 ⟨.slice 5,1,24, .slice none 0 0⟩ .leaf) 31 ⟨.slice 87,1,24, .slice none 0 0⟩ (.node (.node .leaf 33 ⟨.struct #[⟨ "Docs",22,0,false,"","",0⟩,⟨ "Segs",31,1,false,"","",24⟩],2,48, .agg #[.slice none 0 0, .slice none 0 0]⟩ .leaf) 35 ⟨.func #[] #[4] false,1,8, .nilFunc⟩ .leaf))) 36 ⟨.slice 3,1,24, .slice none 0 0⟩ (.node (.node (.node (.node .leaf 37 ⟨.int .i64,1,8, .int .i64 (0)⟩ .leaf) 42 ⟨.slice 124,1,24, .slice none 0 0⟩ (.node .leaf 47 ⟨.struct #[⟨ "A",27,0,false,"","",0⟩,⟨ "B",27,1,false,"","",24⟩],2,48, .agg #[.slice none 0 0, .slice none 0 0]⟩ .leaf)) 56 ⟨.struct #[⟨ "A",27,0,false,"","",0⟩,⟨ "B",27,1,false,"","",24⟩],2,48, .agg #[.slice none 0 0, .slice none 0 0]⟩ (.node (.node .leaf 68 ⟨.slice 73,1,24, .slice none 0 0⟩ .leaf) 73 ⟨.struct #[⟨ "Kind",3,0,false,"","",0⟩,⟨ "I",3,1,false,"","",8⟩,⟨ "Many",3,2,false,"","",16⟩,⟨ "Doc",27,3,false,"","",24⟩],4,48, .agg #[.int .i64 (0), .int .i64 (0), .int .i64 (0), .slice none 0 0]⟩ .leaf)) 81 ⟨.struct #[⟨ "Kind",3,0,false,"","",0⟩,⟨ "Term",9,1,false,"","",8⟩],2,24, .agg #[.int .i64 (0), .string ⟨#[]⟩]⟩ (.node (.node (.node .leaf 84 ⟨.struct #[⟨ "From",3,0,false,"","",0⟩,⟨ "To",3,1,false,"","",8⟩],2,16, .agg #[.int .i64 (0), .int .i64 (0)]⟩ .leaf) 85 ⟨.slice 308,1,24, .slice none 0 0⟩ .leaf) 87 ⟨.struct #[⟨ "Span",84,0,false,"","",0⟩,⟨ "Dict",85,2,false,"","",16⟩],3,40, .agg #[.int .i64 (0), .int .i64 (0), .slice none 0 0]⟩ (.node (.node .leaf 89 ⟨.struct #[⟨ "Span",84,0,false,"","",0⟩,⟨ "Dict",85,2,false,"","",16⟩],3,40, .agg #[.int .i64 (0), .int .i64 (0), .slice none 0 0]⟩ .leaf) 95 ⟨.slice 109,1,24, .slice none 0 0⟩ .leaf)))) 97 ⟨.struct #[⟨ "Size",3,0,false,"","",0⟩,⟨ "Log",9,1,false,"","",8⟩,⟨ "Segs",95,2,false,"","",24⟩],3,48, .agg #[.int .i64 (0), .string ⟨#[]⟩, .slice none 0 0]⟩ (.node (.node (.node (.node (.node .leaf 98 ⟨.slice 110,1,24, .slice none 0 0⟩ .leaf) 100 ⟨.struct #[⟨ "Head",97,0,false,"","",0⟩,⟨ "Proofs",98,3,false,"","",48⟩],4,72, .agg #[.int .i64 (0), .string ⟨#[]⟩, .slice none 0 0, .slice none 0 0]⟩ (.node .leaf 103 ⟨.slice 9,1,24, .slice none 0 0⟩ .leaf)) 105 ⟨.slice 36,1,24, .slice none 0 0⟩ (.node (.node .leaf 107 ⟨.slice 35,1,24, .slice none 0 0⟩ .leaf) 109 ⟨.struct #[⟨ "Span",84,0,false,"","",0⟩,⟨ "Links",3,2,false,"","",16⟩,⟨ "Root",9,3,false,"","",24⟩],4,40, .agg #[.int .i64 (0), .int .i64 (0), .int .i64 (0), .string ⟨#[]⟩]⟩ .leaf)) 110 ⟨.slice 115,1,24, .slice none 0 0⟩ (.node (.node (.node .leaf 113 ⟨.struct #[⟨ "Term",9,0,false,"","",0⟩,⟨ "Next",9,1,false,"","",16⟩,⟨ "Posts",9,2,false,"","",32⟩],3,48, .agg #[.string ⟨#[]⟩, .string ⟨#[]⟩, .string ⟨#[]⟩]⟩ .leaf) 115 ⟨.struct #[⟨ "At",3,0,false,"","",0⟩,⟨ "Link",113,1,false,"","",8⟩,⟨ "Path",103,4,false,"","",56⟩,⟨ "Docs",27,5,false,"","",80⟩],6,104, .agg #[.int .i64 (0), .string ⟨#[]⟩, .string ⟨#[]⟩, .string ⟨#[]⟩, .slice none 0 0, .slice none 0 0]⟩ .leaf) 120 ⟨.slice 282,1,24, .slice none 0 0⟩ (.node (.node .leaf 122 ⟨.struct #[⟨ "Size",3,0,false,"","",0⟩,⟨ "Log",9,1,false,"","",8⟩,⟨ "Segs",120,2,false,"","",24⟩],3,48, .agg #[.int .i64 (0), .string ⟨#[]⟩, .slice none 0 0]⟩ .leaf) 124 ⟨.struct #[⟨ "Kind",3,0,false,"","",0⟩,⟨ "Term",9,1,false,"","",8⟩],2,24, .agg #[.int .i64 (0), .string ⟨#[]⟩]⟩ .leaf))) 128 ⟨.struct #[⟨ "claimed",97,0,false,"","rubrick/extract",0⟩,⟨ "honest",25,3,false,"","rubrick/extract",48⟩],5,96, .agg #[.int .i64 (0), .string ⟨#[]⟩, .slice none 0 0, .slice none 0 0, .slice none 0 0]⟩ (.node (.node (.node (.node .leaf 130 ⟨.struct #[⟨ "pair",128,0,true,"","rubrick/extract",0⟩,⟨ "terms",103,5,false,"","rubrick/extract",96⟩,⟨ "proofs",98,6,false,"","rubrick/extract",120⟩],7,144, .agg #[.int .i64 (0), .string ⟨#[]⟩, .slice none 0 0, .slice none 0 0, .slice none 0 0, .slice none 0 0, .slice none 0 0]⟩ .leaf) 132 ⟨.func #[] #[47,4] false,1,8, .nilFunc⟩ .leaf) 136 ⟨.struct #[⟨ "Head",97,0,false,"","",0⟩,⟨ "At",3,3,false,"","",48⟩,⟨ "Doc",27,4,false,"","",56⟩,⟨ "Path",103,5,false,"","",80⟩],6,104, .agg #[.int .i64 (0), .string ⟨#[]⟩, .slice none 0 0, .int .i64 (0), .slice none 0 0, .slice none 0 0]⟩ (.node (.node .leaf 141 ⟨.struct #[⟨ "pair",128,0,true,"","rubrick/extract",0⟩,⟨ "at",3,5,false,"","rubrick/extract",96⟩,⟨ "doc",27,6,false,"","rubrick/extract",104⟩,⟨ "path",103,7,false,"","rubrick/extract",128⟩],8,152, .agg #[.int .i64 (0), .string ⟨#[]⟩, .slice none 0 0, .slice none 0 0, .slice none 0 0, .int .i64 (0), .slice none 0 0, .slice none 0 0]⟩ .leaf) 144 ⟨.slice 156,1,24, .slice none 0 0⟩ .leaf)) 146 ⟨.struct #[⟨ "Head",122,0,false,"","",0⟩,⟨ "Proofs",144,3,false,"","",48⟩],4,72, .agg #[.int .i64 (0), .string ⟨#[]⟩, .slice none 0 0, .slice none 0 0]⟩ (.node (.node (.node .leaf 153 ⟨.struct #[⟨ "Term",9,0,false,"","",0⟩,⟨ "Next",9,1,false,"","",16⟩,⟨ "Posts",9,2,false,"","",32⟩],3,48, .agg #[.string ⟨#[]⟩, .string ⟨#[]⟩, .string ⟨#[]⟩]⟩ .leaf) 155 ⟨.struct #[⟨ "At",3,0,false,"","",0⟩,⟨ "Link",153,1,false,"","",8⟩,⟨ "Path",103,4,false,"","",56⟩,⟨ "Docs",27,5,false,"","",80⟩],6,104, .agg #[.int .i64 (0), .string ⟨#[]⟩, .string ⟨#[]⟩, .string ⟨#[]⟩, .slice none 0 0, .slice none 0 0]⟩ .leaf) 156 ⟨.slice 155,1,24, .slice none 0 0⟩ (.node (.node .leaf 160 ⟨.struct #[⟨ "Head",122,0,false,"","",0⟩,⟨ "At",3,3,false,"","",48⟩,⟨ "Doc",27,4,false,"","",56⟩,⟨ "Path",103,5,false,"","",80⟩],6,104, .agg #[.int .i64 (0), .string ⟨#[]⟩, .slice none 0 0, .int .i64 (0), .slice none 0 0, .slice none 0 0]⟩ .leaf) 165 ⟨.struct #[⟨ "Old",97,0,false,"","",0⟩,⟨ "New",97,3,false,"","",48⟩,⟨ "Proof",103,6,false,"","",96⟩],7,120, .agg #[.int .i64 (0), .string ⟨#[]⟩, .slice none 0 0, .int .i64 (0), .string ⟨#[]⟩, .slice none 0 0, .slice none 0 0]⟩ .leaf))))) 169 ⟨.struct #[⟨ "before",128,0,false,"","rubrick/extract",0⟩,⟨ "after",128,5,false,"","rubrick/extract",96⟩,⟨ "proof",103,10,false,"","rubrick/extract",192⟩],11,216, .agg #[.int .i64 (0), .string ⟨#[]⟩, .slice none 0 0, .slice none 0 0, .slice none 0 0, .int .i64 (0), .string ⟨#[]⟩, .slice none 0 0, .slice none 0 0, .slice none 0 0, .slice none 0 0]⟩ (.node (.node (.node (.node (.node (.node .leaf 173 ⟨.struct #[⟨ "Old",122,0,false,"","",0⟩,⟨ "New",122,3,false,"","",48⟩,⟨ "Proof",103,6,false,"","",96⟩],7,120, .agg #[.int .i64 (0), .string ⟨#[]⟩, .slice none 0 0, .int .i64 (0), .string ⟨#[]⟩, .slice none 0 0, .slice none 0 0]⟩ .leaf) 188 ⟨.func #[9] #[] false,1,8, .nilFunc⟩ (.node .leaf 203 ⟨.slice 209,1,24, .slice none 0 0⟩ .leaf)) 206 ⟨.struct #[⟨ "elems",203,0,false,"","rubrick/query",0⟩,⟨ "next",3,1,false,"","rubrick/query",24⟩,⟨ "words",3,2,false,"","rubrick/query",32⟩,⟨ "ops",26,3,false,"","rubrick/query",40⟩],4,64, .agg #[.slice none 0 0, .int .i64 (0), .int .i64 (0), .slice none 0 0]⟩ (.node (.node .leaf 209 ⟨.struct #[⟨ "kind",3,0,false,"","rubrick/query",0⟩,⟨ "at",3,1,false,"","rubrick/query",8⟩,⟨ "term",9,2,false,"","rubrick/query",16⟩],3,32, .agg #[.int .i64 (0), .int .i64 (0), .string ⟨#[]⟩]⟩ .leaf) 211 ⟨.pointer 221,1,8, .pointer none⟩ .leaf)) 219 ⟨.struct #[⟨ "B",27,0,false,"","",0⟩,⟨ "At",3,1,false,"","",24⟩,⟨ "E",37,2,false,"","",32⟩],3,40, .agg #[.slice none 0 0, .int .i64 (0), .int .i64 (0)]⟩ (.node (.node (.node .leaf 221 ⟨.struct #[⟨ "Reader",219,0,true,"","",0⟩],3,40, .agg #[.slice none 0 0, .int .i64 (0), .int .i64 (0)]⟩ .leaf) 225 ⟨.slice 229,1,24, .slice none 0 0⟩ .leaf) 227 ⟨.func #[115] #[4] false,1,8, .nilFunc⟩ (.node (.node .leaf 229 ⟨.struct #[⟨ "holds",227,0,false,"","rubrick/term",0⟩,⟨ "docs",36,1,false,"","rubrick/term",8⟩],2,32, .agg #[.nilFunc, .slice none 0 0]⟩ .leaf) 234 ⟨.func #[9] #[36] false,1,8, .nilFunc⟩ .leaf))) 236 ⟨.func #[36,36] #[36] false,1,8, .nilFunc⟩ (.node (.node (.node (.node .leaf 238 ⟨.struct #[⟨ "find",234,0,false,"","rubrick/eval",0⟩,⟨ "both",236,1,false,"","rubrick/eval",8⟩,⟨ "either",236,2,false,"","rubrick/eval",16⟩,⟨ "but",236,3,false,"","rubrick/eval",24⟩],4,32, .agg #[.nilFunc, .nilFunc, .nilFunc, .nilFunc]⟩ .leaf) 247 ⟨.slice 132,1,24, .slice none 0 0⟩ (.node .leaf 253 ⟨.int .u32,1,4, .int .u32 (0)⟩ .leaf)) 254 ⟨.array 8 253,8,32, .agg #[.int .u32 (0), .int .u32 (0), .int .u32 (0), .int .u32 (0), .int .u32 (0), .int .u32 (0), .int .u32 (0), .int .u32 (0)]⟩ (.node (.node .leaf 256 ⟨.struct #[⟨ "H",254,0,false,"","",0⟩,⟨ "Rest",27,8,false,"","",32⟩,⟨ "N",3,9,false,"","",56⟩],10,64, .agg #[.int .u32 (0), .int .u32 (0), .int .u32 (0), .int .u32 (0), .int .u32 (0), .int .u32 (0), .int .u32 (0), .int .u32 (0), .slice none 0 0, .int .i64 (0)]⟩ .leaf) 259 ⟨.func #[] #[3] false,1,8, .nilFunc⟩ .leaf)) 262 ⟨.slice 4,1,24, .slice none 0 0⟩ (.node (.node (.node .leaf 271 ⟨.struct #[⟨ "B",27,0,false,"","",0⟩,⟨ "E",3,1,false,"","",24⟩],2,32, .agg #[.slice none 0 0, .int .i64 (0)]⟩ .leaf) 282 ⟨.struct #[⟨ "Span",84,0,false,"","",0⟩,⟨ "Links",3,2,false,"","",16⟩,⟨ "Root",9,3,false,"","",24⟩],4,40, .agg #[.int .i64 (0), .int .i64 (0), .int .i64 (0), .string ⟨#[]⟩]⟩ .leaf) 308 ⟨.struct #[⟨ "Term",9,0,false,"","",0⟩,⟨ "Docs",36,1,false,"","",16⟩],2,40, .agg #[.string ⟨#[]⟩, .slice none 0 0]⟩ (.node (.node .leaf 312 ⟨.slice 84,1,24, .slice none 0 0⟩ .leaf) 323 ⟨.struct #[⟨ "b",27,0,false,"","rubrick/reply",0⟩,⟨ "bad",4,1,false,"","rubrick/reply",24⟩],2,32, .agg #[.slice none 0 0, .bool false]⟩ .leaf)))) 333 ⟨.pointer 206,1,8, .pointer none⟩ (.node (.node (.node (.node (.node .leaf 340 ⟨.int .u64,1,8, .int .u64 (0)⟩ .leaf) 343 ⟨.func #[9,9] #[4] false,1,8, .nilFunc⟩ (.node .leaf 345 ⟨.map 3 188,1,8, .map none⟩ .leaf)) 347 ⟨.func #[3,4,4] #[4] false,1,8, .nilFunc⟩ (.node (.node .leaf 354 ⟨.int .u64,1,8, .int .u64 (0)⟩ .leaf) 364 ⟨.slice 365,1,24, .slice none 0 0⟩ .leaf)) 365 ⟨.func #[] #[47,4] false,1,8, .nilFunc⟩ (.node (.node (.node .leaf 382 ⟨.slice 386,1,24, .slice none 0 0⟩ .leaf) 386 ⟨.struct #[⟨ "from",3,0,false,"","rubrick/clash",0⟩,⟨ "m",3,1,false,"","rubrick/clash",8⟩,⟨ "n",3,2,false,"","rubrick/clash",16⟩,⟨ "k",3,3,false,"","rubrick/clash",24⟩,⟨ "right",4,4,false,"","rubrick/clash",32⟩],5,40, .agg #[.int .i64 (0), .int .i64 (0), .int .i64 (0), .int .i64 (0), .bool false]⟩ .leaf) 393 ⟨.map 9 36,1,8, .map none⟩ (.node (.node .leaf 396 ⟨.func #[125] #[] false,1,8, .nilFunc⟩ .leaf) 404 ⟨.pointer 323,1,8, .pointer none⟩ .leaf))) 409 ⟨.struct #[⟨ "from",3,0,false,"","rubrick/utf",0⟩,⟨ "to",3,1,false,"","rubrick/utf",8⟩],2,16, .agg #[.int .i64 (0), .int .i64 (0)]⟩ (.node (.node (.node (.node .leaf 410 ⟨.array 9 409,18,144, .agg #[.int .i64 (0), .int .i64 (0), .int .i64 (0), .int .i64 (0), .int .i64 (0), .int .i64 (0), .int .i64 (0), .int .i64 (0), .int .i64 (0), .int .i64 (0), .int .i64 (0), .int .i64 (0), .int .i64 (0), .int .i64 (0), .int .i64 (0), .int .i64 (0), .int .i64 (0), .int .i64 (0)]⟩ .leaf) 412 ⟨.func #[] #[9] false,1,8, .nilFunc⟩ .leaf) 415 ⟨.int .i64,1,8, .int .i64 (0)⟩ (.node (.node .leaf 423 ⟨.slice 253,1,24, .slice none 0 0⟩ .leaf) 440 ⟨.func #[308,308] #[4] false,1,8, .nilFunc⟩ .leaf)) 442 ⟨.func #[9,9] #[3] false,1,8, .nilFunc⟩ (.node (.node (.node .leaf 444 ⟨.int .u64,1,8, .int .u64 (0)⟩ .leaf) 448 ⟨.pointer 3,1,8, .pointer none⟩ .leaf) 453 ⟨.array 64 253,64,256, .agg #[.int .u32 (0), .int .u32 (0), .int .u32 (0), .int .u32 (0), .int .u32 (0), .int .u32 (0), .int .u32 (0), .int .u32 (0), .int .u32 (0), .int .u32 (0), .int .u32 (0), .int .u32 (0), .int .u32 (0), .int .u32 (0), .int .u32 (0), .int .u32 (0), .int .u32 (0), .int .u32 (0), .int .u32 (0), .int .u32 (0), .int .u32 (0), .int .u32 (0), .int .u32 (0), .int .u32 (0), .int .u32 (0), .int .u32 (0), .int .u32 (0), .int .u32 (0), .int .u32 (0), .int .u32 (0), .int .u32 (0), .int .u32 (0), .int .u32 (0), .int .u32 (0), .int .u32 (0), .int .u32 (0), .int .u32 (0), .int .u32 (0), .int .u32 (0), .int .u32 (0), .int .u32 (0), .int .u32 (0), .int .u32 (0), .int .u32 (0), .int .u32 (0), .int .u32 (0), .int .u32 (0), .int .u32 (0), .int .u32 (0), .int .u32 (0), .int .u32 (0), .int .u32 (0), .int .u32 (0), .int .u32 (0), .int .u32 (0), .int .u32 (0), .int .u32 (0), .int .u32 (0), .int .u32 (0), .int .u32 (0), .int .u32 (0), .int .u32 (0), .int .u32 (0), .int .u32 (0)]⟩ (.node (.node .leaf 462 ⟨.struct #[⟨ "from",3,0,false,"","rubrick/utf",0⟩,⟨ "to",3,1,false,"","rubrick/utf",8⟩,⟨ "add",3,2,false,"","rubrick/utf",16⟩],3,24, .agg #[.int .i64 (0), .int .i64 (0), .int .i64 (0)]⟩ .leaf) 463 ⟨.array 7 462,21,168, .agg #[.int .i64 (0), .int .i64 (0), .int .i64 (0), .int .i64 (0), .int .i64 (0), .int .i64 (0), .int .i64 (0), .int .i64 (0), .int .i64 (0), .int .i64 (0), .int .i64 (0), .int .i64 (0), .int .i64 (0), .int .i64 (0), .int .i64 (0), .int .i64 (0), .int .i64 (0), .int .i64 (0), .int .i64 (0), .int .i64 (0), .int .i64 (0)]⟩ .leaf))))))
set_option maxRecDepth 100000 in
def af4:gm.Ok Tryz.prog:=⟨⟨⟨⟨⟨⟨⟨trivial,trivial,Tryz.underlying3,trivial,Tryz.t3,rfl,rfl,rfl,rfl⟩,⟨trivial,trivial,Tryz.underlying5,trivial,Tryz.t5,rfl,rfl,rfl,rfl⟩,Tryz.underlying4,trivial,Tryz.t4,rfl,rfl,rfl,rfl⟩,⟨⟨trivial,trivial,Tryz.underlying22,trivial,Tryz.t22,rfl,rfl,rfl,rfl⟩,trivial,Tryz.underlying23,trivial,Tryz.t23,rfl,rfl,rfl,rfl⟩,Tryz.underlying9,trivial,Tryz.t9,rfl,rfl,rfl,rfl⟩,⟨⟨⟨trivial,trivial,Tryz.underlying26,trivial,Tryz.t26,rfl,rfl,rfl,rfl⟩,trivial,Tryz.underlying27,trivial,Tryz.t27,rfl,rfl,rfl,rfl⟩,⟨⟨trivial,trivial,Tryz.underlying33,⟨y!,y!,y!⟩,Tryz.t33,rfl,rfl,rfl,rfl⟩,trivial,Tryz.underlying35,trivial,Tryz.t35,rfl,rfl,rfl,rfl⟩,Tryz.underlying31,trivial,Tryz.t31,rfl,rfl,rfl,rfl⟩,Tryz.underlying25,⟨y!,y!,y!⟩,Tryz.t25,rfl,rfl,rfl,rfl⟩,⟨⟨⟨⟨trivial,trivial,Tryz.underlying37,trivial,Tryz.t37,rfl,rfl,rfl,rfl⟩,⟨trivial,trivial,Tryz.underlying47,⟨y!,y!,y!⟩,Tryz.t47,rfl,rfl,rfl,rfl⟩,Tryz.underlying42,trivial,Tryz.t42,rfl,rfl,rfl,rfl⟩,⟨⟨trivial,trivial,Tryz.underlying68,trivial,Tryz.t68,rfl,rfl,rfl,rfl⟩,trivial,Tryz.underlying73,⟨y!,y!,y!⟩,Tryz.t73,rfl,rfl,rfl,rfl⟩,Tryz.underlying56,⟨y!,y!,y!⟩,Tryz.t56,rfl,rfl,rfl,rfl⟩,⟨⟨⟨trivial,trivial,Tryz.underlying84,⟨y!,y!,y!⟩,Tryz.t84,rfl,rfl,rfl,rfl⟩,trivial,Tryz.underlying85,trivial,Tryz.t85,rfl,rfl,rfl,rfl⟩,⟨⟨trivial,trivial,Tryz.underlying89,⟨y!,y!,y!⟩,Tryz.t89,rfl,rfl,rfl,rfl⟩,trivial,Tryz.underlying95,trivial,Tryz.t95,rfl,rfl,rfl,rfl⟩,Tryz.underlying87,⟨y!,y!,y!⟩,Tryz.t87,rfl,rfl,rfl,rfl⟩,Tryz.underlying81,⟨y!,y!,y!⟩,Tryz.t81,rfl,rfl,rfl,rfl⟩,Tryz.underlying36,trivial,Tryz.t36,rfl,rfl,rfl,rfl⟩,⟨⟨⟨⟨⟨trivial,trivial,Tryz.underlying98,trivial,Tryz.t98,rfl,rfl,rfl,rfl⟩,⟨trivial,trivial,Tryz.underlying103,trivial,Tryz.t103,rfl,rfl,rfl,rfl⟩,Tryz.underlying100,⟨y!,y!,y!⟩,Tryz.t100,rfl,rfl,rfl,rfl⟩,⟨⟨trivial,trivial,Tryz.underlying107,trivial,Tryz.t107,rfl,rfl,rfl,rfl⟩,trivial,Tryz.underlying109,⟨y!,y!,y!⟩,Tryz.t109,rfl,rfl,rfl,rfl⟩,Tryz.underlying105,trivial,Tryz.t105,rfl,rfl,rfl,rfl⟩,⟨⟨⟨trivial,trivial,Tryz.underlying113,⟨y!,y!,y!⟩,Tryz.t113,rfl,rfl,rfl,rfl⟩,trivial,Tryz.underlying115,⟨y!,y!,y!⟩,Tryz.t115,rfl,rfl,rfl,rfl⟩,⟨⟨trivial,trivial,Tryz.underlying122,⟨y!,y!,y!⟩,Tryz.t122,rfl,rfl,rfl,rfl⟩,trivial,Tryz.underlying124,⟨y!,y!,y!⟩,Tryz.t124,rfl,rfl,rfl,rfl⟩,Tryz.underlying120,trivial,Tryz.t120,rfl,rfl,rfl,rfl⟩,Tryz.underlying110,trivial,Tryz.t110,rfl,rfl,rfl,rfl⟩,⟨⟨⟨⟨trivial,trivial,Tryz.underlying130,⟨y!,y!,y!⟩,Tryz.t130,rfl,rfl,rfl,rfl⟩,trivial,Tryz.underlying132,trivial,Tryz.t132,rfl,rfl,rfl,rfl⟩,⟨⟨trivial,trivial,Tryz.underlying141,⟨y!,y!,y!⟩,Tryz.t141,rfl,rfl,rfl,rfl⟩,trivial,Tryz.underlying144,trivial,Tryz.t144,rfl,rfl,rfl,rfl⟩,Tryz.underlying136,⟨y!,y!,y!⟩,Tryz.t136,rfl,rfl,rfl,rfl⟩,⟨⟨⟨trivial,trivial,Tryz.underlying153,⟨y!,y!,y!⟩,Tryz.t153,rfl,rfl,rfl,rfl⟩,trivial,Tryz.underlying155,⟨y!,y!,y!⟩,Tryz.t155,rfl,rfl,rfl,rfl⟩,⟨⟨trivial,trivial,Tryz.underlying160,⟨y!,y!,y!⟩,Tryz.t160,rfl,rfl,rfl,rfl⟩,trivial,Tryz.underlying165,⟨y!,y!,y!⟩,Tryz.t165,rfl,rfl,rfl,rfl⟩,Tryz.underlying156,trivial,Tryz.t156,rfl,rfl,rfl,rfl⟩,Tryz.underlying146,⟨y!,y!,y!⟩,Tryz.t146,rfl,rfl,rfl,rfl⟩,Tryz.underlying128,⟨y!,y!,y!⟩,Tryz.t128,rfl,rfl,rfl,rfl⟩,Tryz.underlying97,⟨y!,y!,y!⟩,Tryz.t97,rfl,rfl,rfl,rfl⟩,⟨⟨⟨⟨⟨⟨trivial,trivial,Tryz.underlying173,⟨y!,y!,y!⟩,Tryz.t173,rfl,rfl,rfl,rfl⟩,⟨trivial,trivial,Tryz.underlying203,trivial,Tryz.t203,rfl,rfl,rfl,rfl⟩,Tryz.underlying188,trivial,Tryz.t188,rfl,rfl,rfl,rfl⟩,⟨⟨trivial,trivial,Tryz.underlying209,⟨y!,y!,y!⟩,Tryz.t209,rfl,rfl,rfl,rfl⟩,trivial,Tryz.underlying211,trivial,Tryz.t211,rfl,rfl,rfl,rfl⟩,Tryz.underlying206,⟨y!,y!,y!⟩,Tryz.t206,rfl,rfl,rfl,rfl⟩,⟨⟨⟨trivial,trivial,Tryz.underlying221,⟨y!,y!,y!⟩,Tryz.t221,rfl,rfl,rfl,rfl⟩,trivial,Tryz.underlying225,trivial,Tryz.t225,rfl,rfl,rfl,rfl⟩,⟨⟨trivial,trivial,Tryz.underlying229,⟨y!,y!,y!⟩,Tryz.t229,rfl,rfl,rfl,rfl⟩,trivial,Tryz.underlying234,trivial,Tryz.t234,rfl,rfl,rfl,rfl⟩,Tryz.underlying227,trivial,Tryz.t227,rfl,rfl,rfl,rfl⟩,Tryz.underlying219,⟨y!,y!,y!⟩,Tryz.t219,rfl,rfl,rfl,rfl⟩,⟨⟨⟨⟨trivial,trivial,Tryz.underlying238,⟨y!,y!,y!⟩,Tryz.t238,rfl,rfl,rfl,rfl⟩,⟨trivial,trivial,Tryz.underlying253,trivial,Tryz.t253,rfl,rfl,rfl,rfl⟩,Tryz.underlying247,trivial,Tryz.t247,rfl,rfl,rfl,rfl⟩,⟨⟨trivial,trivial,Tryz.underlying256,⟨y!,y!,y!⟩,Tryz.t256,rfl,rfl,rfl,rfl⟩,trivial,Tryz.underlying259,trivial,Tryz.t259,rfl,rfl,rfl,rfl⟩,Tryz.underlying254,trivial,Tryz.t254,rfl,rfl,rfl,rfl⟩,⟨⟨⟨trivial,trivial,Tryz.underlying271,⟨y!,y!,y!⟩,Tryz.t271,rfl,rfl,rfl,rfl⟩,trivial,Tryz.underlying282,⟨y!,y!,y!⟩,Tryz.t282,rfl,rfl,rfl,rfl⟩,⟨⟨trivial,trivial,Tryz.underlying312,trivial,Tryz.t312,rfl,rfl,rfl,rfl⟩,trivial,Tryz.underlying323,⟨y!,y!,y!⟩,Tryz.t323,rfl,rfl,rfl,rfl⟩,Tryz.underlying308,⟨y!,y!,y!⟩,Tryz.t308,rfl,rfl,rfl,rfl⟩,Tryz.underlying262,trivial,Tryz.t262,rfl,rfl,rfl,rfl⟩,Tryz.underlying236,trivial,Tryz.t236,rfl,rfl,rfl,rfl⟩,⟨⟨⟨⟨⟨trivial,trivial,Tryz.underlying340,trivial,Tryz.t340,rfl,rfl,rfl,rfl⟩,⟨trivial,trivial,Tryz.underlying345,trivial,Tryz.t345,rfl,rfl,rfl,rfl⟩,Tryz.underlying343,trivial,Tryz.t343,rfl,rfl,rfl,rfl⟩,⟨⟨trivial,trivial,Tryz.underlying354,trivial,Tryz.t354,rfl,rfl,rfl,rfl⟩,trivial,Tryz.underlying364,trivial,Tryz.t364,rfl,rfl,rfl,rfl⟩,Tryz.underlying347,trivial,Tryz.t347,rfl,rfl,rfl,rfl⟩,⟨⟨⟨trivial,trivial,Tryz.underlying382,trivial,Tryz.t382,rfl,rfl,rfl,rfl⟩,trivial,Tryz.underlying386,⟨y!,y!,y!⟩,Tryz.t386,rfl,rfl,rfl,rfl⟩,⟨⟨trivial,trivial,Tryz.underlying396,trivial,Tryz.t396,rfl,rfl,rfl,rfl⟩,trivial,Tryz.underlying404,trivial,Tryz.t404,rfl,rfl,rfl,rfl⟩,Tryz.underlying393,trivial,Tryz.t393,rfl,rfl,rfl,rfl⟩,Tryz.underlying365,trivial,Tryz.t365,rfl,rfl,rfl,rfl⟩,⟨⟨⟨⟨trivial,trivial,Tryz.underlying410,trivial,Tryz.t410,rfl,rfl,rfl,rfl⟩,trivial,Tryz.underlying412,trivial,Tryz.t412,rfl,rfl,rfl,rfl⟩,⟨⟨trivial,trivial,Tryz.underlying423,trivial,Tryz.t423,rfl,rfl,rfl,rfl⟩,trivial,Tryz.underlying440,trivial,Tryz.t440,rfl,rfl,rfl,rfl⟩,Tryz.underlying415,trivial,Tryz.t415,rfl,rfl,rfl,rfl⟩,⟨⟨⟨trivial,trivial,Tryz.underlying444,trivial,Tryz.t444,rfl,rfl,rfl,rfl⟩,trivial,Tryz.underlying448,trivial,Tryz.t448,rfl,rfl,rfl,rfl⟩,⟨⟨trivial,trivial,Tryz.underlying462,⟨y!,y!,y!⟩,Tryz.t462,rfl,rfl,rfl,rfl⟩,trivial,Tryz.underlying463,trivial,Tryz.t463,rfl,rfl,rfl,rfl⟩,Tryz.underlying453,trivial,Tryz.t453,rfl,rfl,rfl,rfl⟩,Tryz.underlying442,trivial,Tryz.t442,rfl,rfl,rfl,rfl⟩,Tryz.underlying409,⟨y!,y!,y!⟩,Tryz.t409,rfl,rfl,rfl,rfl⟩,Tryz.underlying333,trivial,Tryz.t333,rfl,rfl,rfl,rfl⟩,Tryz.underlying169,⟨y!,y!,y!⟩,Tryz.t169,rfl,rfl,rfl,rfl⟩
end Go.Vg
namespace Go.J
open Go.Proofs
def G0:Nat->Option Go.Vg.GD:=λi=>match i with
 |0=>some ⟨[.int .u32],[1779033703,3144134277,1013904242,2773480762,1359893119,2600822924,528734635,1541459225]⟩
 |1=>some ⟨[.int .i64,.int .i64],[(65,90),(97,122),(192,214),(216,246),(248,255),(913,929),(931,937),(945,969),(1024,1119)]⟩
 |2=>some ⟨[.int .u32],Go.S.Bo⟩
 |3=>some ⟨[.int .i64,.int .i64,.int .i64],[(65,90,32),(192,214,32),(216,222,32),(913,929,32),(931,937,32),(1024,1039,80),(1040,1071,32)]⟩
 |_=>none
end Go.J
namespace Go.J
open Go Vg
abbrev oq:M Ty:=[.int .i64,.int .i64,.int .i64,.str]
abbrev ue:M Ty:=[.int .i64,.str,.str,.str,.slice [.str],.slice [.int .u8]]
abbrev oX:M Ty:=[.slice [.int .u8]]
abbrev oY:M Ty:=[.str,.slice [.int .i64]]
abbrev xM:M Ty:=[.int .i64,.int .i64,.slice oY]
abbrev zw:M Ty:=[.slice [.int .u8],.slice [.int .u8]]
abbrev Q6:M Ty:=[.int .i64,.str,.slice oq,.slice [.slice ue]]
abbrev è:M Ty:=[.int .i64,.str,.slice oq,.int .i64,.slice [.int .u8],.slice [.str]]
abbrev wG:M Ty:=[.slice [.int .i64]]
abbrev Dh:M Ty:=[.int .i64,.int .i64,.str]
abbrev wH:M Ty:=[.slice oX,.slice xM]
abbrev mJ:M Ty:=[.int .i64,.str]
abbrev KI:M Ty:=[.slice [.int .u8],.int .i64,.int .i64]
abbrev aaJ:M Ty:=[.int .u32,.int .u32,.int .u32,.int .u32,.int .u32,.int .u32,.int .u32,.int .u32]
abbrev GQ:M Ty:=[.int .i64,.str,.slice oq]
abbrev KJ:M Ty:=[.slice [.int .u8],.int .i64]
abbrev aq0:M Ty:=[.int .u32,.int .u32,.int .u32,.int .u32,.int .u32,.int .u32,.int .u32,.int .u32,.slice [.int .u8],.int .i64]
abbrev Xd:M Ty:=[.slice [.int .i64],.int .i64]
abbrev GR:M Ty:=[.str,.int .i64]
abbrev q0p:M PS:=[]
abbrev aq1:Type:=Unit
abbrev q1p:M PS:=[.one (.int .u32),.one (.int .i64)]
abbrev aEJ:Type:=Int×Int
abbrev lL:M PS:=[.one (.slice [.int .u8])]
abbrev fm:Type:=B8
abbrev q3p:M PS:=[.one (.slice [.int .u32]),.one (.slice [.int .u8])]
abbrev aEK:Type:=U×B8
abbrev q4p:M PS:=[.agg aq0]
abbrev aq2:Type:=Int×Int×Int×Int×Int×Int×Int×Int×B8×Int
abbrev q5p:M PS:=[.agg aaJ,.one (.slice [.int .u8])]
abbrev af5:Type:=Int×Int×Int×Int×Int×Int×Int×Int×B8
abbrev q6p:M PS:=[.agg aq0,.one (.slice [.int .u8])]
abbrev aNX:Type:=Int×Int×Int×Int×Int×Int×Int×Int×B8×Int×B8
abbrev EJ:M PS:=[.one (.int .i64)]
abbrev qg:Type:=Int
abbrev q8p:M PS:=[.one (.str)]
abbrev UM:Type:=B8
abbrev q9p:M TA:=[.own 50000,.dV (.int .i64)]
abbrev aEL:Type:=Int
abbrev q0q:M TB:=[.row 5 [.int .u8]]
abbrev aq4:Type:=B8×Unit
abbrev aN0:M TA:=[.own 50000,.dV (.str)]
abbrev aHB:Type:=B8
abbrev é:M PS:=[.one (.slice [.int .u8]),.one (.int .i64)]
abbrev Q7:Type:=B8×Int
abbrev aq5:M PS:=[.one (.slice [.int .u8]),.one (.str)]
abbrev Xe:Type:=B8×B8
abbrev UN:M PS:=[.agg KI]
abbrev Q8:Type:=B8×Int×Int
abbrev aEM:M PS:=[.one (.slice [.int .u8]),.one (.int .i64),.one (.int .i64)]
abbrev aHC:Type:=B8×Int×Int
abbrev aN1:M PS:=[.agg KI,.one (.int .i64)]
abbrev aHD:Type:=B8×Int×Int×Int
abbrev aq6:M PS:=[.one (.int .i64),.one (.slice [.int .u8])]
abbrev aaK:Type:=Int×B8
abbrev Q9:M PS:=[.one (.str),.one (.str)]
abbrev GS:Type:=B8×B8
abbrev aEN:M PS:=[.one (.int .u8),.one (.slice oX)]
abbrev aq7:Type:=UInt8×O
abbrev aN2:M PS:=[.one (.int .i64),.one (.int .i64),.one (.int .i64)]
abbrev aHE:Type:=Int×Int×Int
abbrev aEO:M PS:=[.one (.int .i64),.one (.int .i64)]
abbrev aaL:Type:=Int×Int
abbrev Di:M PS:=[.one (.slice [.int .i64])]
abbrev se:Type:=U
abbrev Dj:M PS:=[.one (.slice [.str])]
abbrev tM:Type:=O
abbrev ê:M TA:=[.own 50000]
abbrev GU:Type:=Unit
abbrev q1q:M TB:=[.row 9 [.str]]
abbrev MB:Type:=O×Unit
abbrev aN3:M TA:=[.dV (.str),.dV (.str),.ref 50000 0]
abbrev aHF:Type:=B8×B8
abbrev q2q:M TB:=[.cells [.fn (.func 359) [] []]]
abbrev aN4:Type:=Unit×Unit
abbrev aN5:M TA:=[.own 50000,.fn (.func 382) [] [.ref 50001 0]]
abbrev aq8:Type:=Unit
abbrev q3q:M TB:=[.row 9 [.str],.cells [.fn (.func 359) [] []]]
abbrev aEP:Type:=O×Unit×Unit
abbrev aN6:M TA:=[.own 50000,.fn (.func 359) [] []]
abbrev aHG:Type:=Unit
abbrev aN7:M TA:=[.dV (.slice [.str]),.fn (.func 359) [] []]
abbrev aHH:Type:=O
abbrev BL:M TB:=[]
abbrev xN:Type:=Unit
abbrev af6:M PS:=[.one (.slice oX)]
abbrev KK:Type:=O
abbrev aN8:M PS:=[.one (.slice [.str]),.one (.int .i64)]
abbrev aq9:Type:=O×Int
abbrev aN9:M TA:=[.dV (.int .i64),.dV (.bool),.dV (.bool),.ref 50000 0]
abbrev aHI:Type:=Int×Bool×Bool
abbrev q5q:M TB:=[.cells [.dV (.int .i64),.dV (.int .i64)]]
abbrev ara:Type:=(Int×Int)×Unit
abbrev aEQ:M TA:=[.dV (.slice [.int .i64]),.dV (.slice [.int .i64]),.fn (.func 384) [] [.ref 50000 0]]
abbrev arb:Type:=U×U
abbrev arc:M PS:=[.one (.slice [.int .i64]),.agg [.int .i64,.int .i64]]
abbrev aaM:Type:=U×Int×Int
abbrev Ra:M PS:=[.one (.slice [.int .i64]),.one (.slice [.int .i64])]
abbrev GV:Type:=U×U
abbrev Rb:M PS:=[.one (.slice oY)]
abbrev wI:Type:=M (B8×U)
abbrev aER:M PS:=[.agg [.str,.str,.str]]
abbrev ard:Type:=B8×B8×B8
abbrev are:M PS:=[.one (.slice oY),.one (.str)]
abbrev Xf:Type:=M (B8×U)×B8
abbrev Rc:M PS:=[.one (.slice oX),.agg [.int .i64,.int .i64]]
abbrev Dk:Type:=O×Int×Int
abbrev arf:M PS:=[.one (.slice oY),.one (.slice oY)]
abbrev aaN:Type:=M (B8×U)×M (B8×U)
abbrev aOa:M PS:=[.agg [.int .i64,.int .i64]]
abbrev aHK:Type:=Int×Int
abbrev ë:M PS:=[.agg xM]
abbrev Re:Type:=Int×Int×M (B8×U)
abbrev aOb:M PS:=[.agg oq]
abbrev aHL:Type:=Int×Int×Int×B8
abbrev aOc:M PS:=[.one (.slice oq),.one (.int .i64)]
abbrev arh:Type:=M (Int×Int×Int×B8)×Int
abbrev aOd:M PS:=[.agg xM,.agg xM]
abbrev aHM:Type:=Int×Int×M (B8×U)×Int×Int×M (B8×U)
abbrev aOe:M PS:=[.agg oY,.agg oY]
abbrev aHN:Type:=B8×U×B8×U
abbrev aOf:M TA:=[.dV (.slice oY),.dV (.slice oY),.fn (.func 356) [] []]
abbrev ari:Type:=M (B8×U)×M (B8×U)
abbrev lV:M PS:=[.agg wH]
abbrev iz:Type:=O×M (Int×Int×M (B8×U))
abbrev arj:M PS:=[.agg wH,.one (.slice [.int .u8])]
abbrev ark:Type:=O×M (Int×Int×M (B8×U))×B8
abbrev Rf:M PS:=[.agg GQ]
abbrev GW:Type:=Int×B8×M (Int×Int×Int×B8)
abbrev af7:M TA:=[.dV (.int .i64),.ref 50000 0,.ref 50001 0]
abbrev arl:Type:=Int
abbrev q6q:M TB:=[.cells [.dV (.int .i64)],.cells [.nil]]
abbrev aOh:Type:=Int×Unit×Unit
abbrev q7q:M TB:=[.cells [.dV (.int .i64)],.cells [.own 50002],.row 5 [.int .u8]]
abbrev aOj:Type:=Int×Unit×B8×Unit
abbrev aOk:M TA:=[.dV (.str),.ref 50000 0]
abbrev aHO:Type:=B8
abbrev q8q:M TB:=[.cells [.own 50001],.row 5 [.int .u8]]
abbrev aOl:Type:=Unit×B8×Unit
abbrev Bx:M TA:=[.ref 50000 0]
abbrev wJ:Type:=Unit
abbrev Xg:M TB:=[.cells [.dV (.slice [.int .u8]),.dV (.int .i64),.dV (.int .i64)]]
abbrev FB:Type:=(B8×Int×Int)×Unit
abbrev aOm:M TA:=[.ref 50000 0,.ref 50001 0,.ref 50002 0]
abbrev aHP:Type:=Unit
abbrev aOn:M TB:=[.cells [.dV (.int .i64)],.cells [.fn (.func 319) [] [.ref 50003 0]],.cells [.fn (.func 320) [] [.ref 50003 0]],.cells [.dV (.slice [.int .u8]),.dV (.int .i64),.dV (.int .i64)]]
abbrev aHQ:Type:=Int×Unit×Unit×(B8×Int×Int)×Unit
abbrev Jl:M PS:=[.one (.slice mJ)]
abbrev tN:Type:=M (Int×B8)
abbrev aOo:M TA:=[.ref 50000 0,.ref 50001 0,.ref 50002 0,.ref 50003 0]
abbrev aHR:Type:=Unit
abbrev aOp:M TB:=[.cells [.dV (.int .i64)],.cells [.nil],.cells [.dV (.slice [.int .u8])],.cells [.dV (.int .i64)]]
abbrev aHS:Type:=Int×Unit×B8×Int×Unit
abbrev ì:M TB:=[.cells [.dV (.slice Dh),.dV (.int .i64),.dV (.int .i64),.nil]]
abbrev KL:Type:=(M (Int×Int×B8)×Int×Int)×Unit
abbrev aES:M TB:=[.cells [.dV (.slice Dh),.dV (.int .i64),.dV (.int .i64),.own 50001],.row 81 mJ]
abbrev aHT:Type:=(M (Int×Int×B8)×Int×Int)×(M (Int×B8))×Unit
abbrev UO:M TA:=[.ref 50000 0,.dV (.int .i64)]
abbrev Dl:Type:=Int
abbrev UP:M TB:=[.cells [.own 50001,.dV (.bool)],.row 5 [.int .u8]]
abbrev GX:Type:=Bool×B8×Unit
abbrev aOq:M TA:=[.ref 50000 0,.dV (.slice [.int .u8]),.dV (.int .i64)]
abbrev aHU:Type:=B8×Int
abbrev aOr:M TA:=[.ref 50000 0,.agg [.dV (.int .i64),.dV (.str),.dV (.slice oq)]]
abbrev aHV:Type:=Int×B8×M (Int×Int×Int×B8)
abbrev aOs:M TA:=[.ref 50000 0,.dV (.slice [.str])]
abbrev arn:Type:=O
abbrev aOt:M TA:=[.ref 50000 0,.agg [.dV (.int .i64),.dV (.str),.dV (.str),.dV (.str),.dV (.slice [.str]),.dV (.slice [.int .u8])]]
abbrev aHW:Type:=Int×B8×B8×B8×O×B8
abbrev aET:M PS:=[.agg Q6]
abbrev aro:Type:=Int×B8×M (Int×Int×Int×B8)×M (M (Int×B8×B8×B8×O×B8))
abbrev aOu:M PS:=[.agg è]
abbrev aHX:Type:=Int×B8×M (Int×Int×Int×B8)×Int×B8×O
abbrev MC:M TA:=[.dV (.slice [.int .u8]),.dV (.int .u8)]
abbrev arp:Type:=B8×UInt8
abbrev í:M PS:=[.one (.slice [.int .u8]),.one (.slice [.int .u8])]
abbrev Rg:Type:=B8×B8
abbrev af8:M TA:=[.dV (.str),.ref 50000 0,.ref 50001 0,.ref 50002 0]
abbrev arq:Type:=B8
abbrev aEU:M TB:=[.cells [.dV (.slice oY)],.cells [.dV (.int .i64)],.cells [.nil]]
abbrev aHY:Type:=(M (B8×U))×Int×Unit×Unit
abbrev aEV:M TB:=[.cells [.dV (.slice oY)],.cells [.dV (.int .i64)],.cells [.own 50003],.row 115 ue]
abbrev aHZ:Type:=(M (B8×U))×Int×Unit×(M (Int×B8×B8×B8×O×B8))×Unit
abbrev aEW:M TA:=[.dV (.slice oY),.ref 50000 0,.ref 50001 0]
abbrev ars:Type:=M (B8×U)
abbrev aEX:M TB:=[.cells [.dV (.int .i64)],.cells [.dV (.slice [.str])]]
abbrev art:Type:=Int×O×Unit
abbrev aEY:M PS:=[.agg wH,.one (.slice mJ)]
abbrev aru:Type:=O×M (Int×Int×M (B8×U))×M (Int×B8)
abbrev aOv:M PS:=[.agg wH,.one (.int .i64)]
abbrev aH0:Type:=O×M (Int×Int×M (B8×U))×Int
abbrev aEZ:M PS:=[.one (.str),.one (.int .i64),.one (.int .i64),.one (.slice [.str])]
abbrev arv:Type:=B8×Int×Int×O
abbrev arw:M PS:=[.one (.int .i64),.one (.bool),.one (.bool)]
abbrev aaO:Type:=Int×Bool×Bool
abbrev aE0:M TA:=[.dV (.slice [.int .i64]),.dV (.slice [.int .i64]),.fn (.func 243) [] []]
abbrev arx:Type:=U×U
abbrev aE1:M TA:=[.dV (.slice [.int .i64]),.dV (.slice [.int .i64]),.fn (.func 244) [] []]
abbrev ary:Type:=U×U
abbrev aE2:M TA:=[.dV (.slice [.int .i64]),.dV (.slice [.int .i64]),.fn (.func 245) [] []]
abbrev arz:Type:=U×U
abbrev aOw:M PS:=[.one (.slice [.str]),.one (.str)]
abbrev arA:Type:=O×B8
abbrev aOx:M PS:=[.one (.str),.var [.slice [.str]],.var [.slice wG]]
abbrev aH1:Type:=B8×O×M U
abbrev Rh:M TA:=[.dV (.str),.ref 50000 0,.ref 50001 0]
abbrev Xh:Type:=B8
abbrev aE3:M TB:=[.cells [.own 50002],.cells [.fn (.func 130) [] []],.row 36 wG]
abbrev aH2:Type:=Unit×Unit×(M U)×Unit
abbrev aE4:M TB:=[.cells [.own 50002],.cells [.fn (.func 131) [] []],.row 36 wG]
abbrev aH3:Type:=Unit×Unit×(M U)×Unit
abbrev aE5:M TB:=[.cells [.own 50002],.cells [.fn (.func 132) [] []],.row 36 wG]
abbrev aH4:Type:=Unit×Unit×(M U)×Unit
abbrev aOy:M TB:=[.cells [.own 50002],.cells [.fn (.func 126) [] [.var [.slice [.str]],.var [.slice wG]],.fn (.func 130) [] [],.fn (.func 131) [] [],.fn (.func 132) [] []],.row 36 wG]
abbrev aH5:Type:=Unit×(O×M U)×(M U)×Unit
abbrev aOz:M TA:=[.dV (.slice mJ),.agg [.fn (.func 126) [] [.var [.slice [.str]],.var [.slice wG]],.fn (.func 130) [] [],.fn (.func 131) [] [],.fn (.func 132) [] []]]
abbrev arB:Type:=M (Int×B8)×O×M U
abbrev aE6:M PS:=[.one (.slice mJ),.one (.slice wG)]
abbrev arC:Type:=M (Int×B8)×M U
abbrev aOA:M PS:=[.agg ue,.var [.str],.var [.int .i64]]
abbrev aH6:Type:=Int×B8×B8×B8×O×B8×B8×Int
abbrev aOB:M PS:=[.agg ue,.var [.str]]
abbrev aH7:Type:=Int×B8×B8×B8×O×B8×B8
abbrev aOC:M TA:=[.dV (.str),.agg [.dV (.int .i64),.dV (.str),.dV (.str),.dV (.str),.dV (.slice [.str]),.dV (.slice [.int .u8])]]
abbrev aH8:Type:=B8×Int×B8×B8×B8×O×B8
abbrev aOD:M PS:=[.one (.str),.one (.int .i64),.one (.str),.agg ue]
abbrev arD:Type:=B8×Int×B8×Int×B8×B8×B8×O×B8
abbrev aOE:M PS:=[.var GQ,.var [.str]]
abbrev aH9:Type:=Int×B8×M (Int×Int×Int×B8)×B8
abbrev aOF:M PS:=[.agg GQ,.one (.str)]
abbrev aIa:Type:=Int×B8×M (Int×Int×Int×B8)×B8
abbrev aOG:M PS:=[.var Q6,.var [.int .i64],.var [.slice [.str]]]
abbrev aIb:Type:=Int×B8×M (Int×Int×Int×B8)×M (M (Int×B8×B8×B8×O×B8))×Int×O
abbrev aE7:M PS:=[.var è,.var [.int .i64]]
abbrev arE:Type:=Int×B8×M (Int×Int×Int×B8)×Int×B8×O×Int
abbrev aOH:M PS:=[.one (.str),.one (.int .i64),.one (.slice [.int .u8])]
abbrev aIc:Type:=B8×Int×B8
abbrev î:M TA:=[.var oq,.var [.str],.var Q6,.var [.int .i64],.var [.int .i64],.ref 50000 0]
abbrev aaP:Type:=Int×Int×Int×B8×B8×Int×B8×M (Int×Int×Int×B8)×M (M (Int×B8×B8×B8×O×B8))×Int×Int
abbrev ï:M TB:=[.cells [.own 50001],.eG 36 50002,.row 3 [.int .i64]]
abbrev aaQ:Type:=Unit×(M Value×Nat)×U×Unit
abbrev aE8:M PS:=[.var oq,.var [.str],.var Q6,.var [.int .i64],.var [.int .i64]]
abbrev aId:Type:=Int×Int×Int×B8×B8×Int×B8×M (Int×Int×Int×B8)×M (M (Int×B8×B8×B8×O×B8))×Int×Int
abbrev aOI:M PS:=[.one (.str),.one (.slice mJ),.one (.slice [.int .u8])]
abbrev arF:Type:=B8×M (Int×B8)×B8
abbrev aOJ:M PS:=[.agg zw]
abbrev aIe:Type:=B8×B8
abbrev aOK:M PS:=[.var oX,.var oX]
abbrev aIf:Type:=B8×B8
abbrev aE9:M PS:=[.one (.slice oX),.one (.int .i64),.one (.slice [.int .u8]),.one (.slice [.str])]
abbrev arG:Type:=O×Int×B8×O
abbrev aOL:M PS:=[.one (.slice oY),.one (.str),.agg ue]
abbrev aIg:Type:=M (B8×U)×B8×Int×B8×B8×B8×O×B8
abbrev arH:M PS:=[.agg [.int .i64,.str,.slice oq,.slice oX,.slice xM]]
abbrev aaR:Type:=Int×B8×M (Int×Int×Int×B8)×O×M (Int×Int×M (B8×U))
abbrev aFa:M PS:=[.agg [.int .i64,.str,.slice oq,.slice oX,.slice xM,.slice [.str],.slice [.slice ue]]]
abbrev arI:Type:=Int×B8×M (Int×Int×Int×B8)×O×M (Int×Int×M (B8×U))×O×M (M (Int×B8×B8×B8×O×B8))
abbrev aOM:M PS:=[.agg [.int .i64,.str,.slice oq,.slice oX,.slice xM,.int .i64,.slice [.int .u8],.slice [.str]]]
abbrev aIh:Type:=Int×B8×M (Int×Int×Int×B8)×O×M (Int×Int×M (B8×U))×Int×B8×O
abbrev ð:M PS:=[.agg wH,.one (.slice mJ),.one (.slice [.int .u8])]
abbrev arJ:Type:=O×M (Int×Int×M (B8×U))×M (Int×B8)×B8
abbrev aON:M PS:=[.agg wH,.one (.int .i64),.one (.slice [.int .u8])]
abbrev aIi:Type:=O×M (Int×Int×M (B8×U))×Int×B8
abbrev aFb:M PS:=[.one (.slice [.int .u8]),.one (.slice mJ)]
abbrev arK:Type:=B8×M (Int×B8)
abbrev arL:M PS:=[.one (.slice oX),.one (.slice mJ)]
abbrev af9:Type:=O×M (Int×B8)
end Go.J
namespace Go
open List (length getD take drop replicate)
open Int (toNat)
def q0(a:Int×Int×B8)(b:S.El)(c:Prop):Prop:=a.1=b.1/\a.2.1=b.2.1/\a.2.2=b.2.2/\c
def q2(a:Int×Int)(b:S.Rs):Prop:=a.1=b.1/\a.2=b.2
def q4(a b:S.Hd)(c:Prop):Prop:=a.1=b.1/\a.2.1=b.2.1/\a.2.2=b.2.2/\c
def ñ(a:S.Cl)(b c:B8)(d:Bool):Prop:=b=a.1.1/\c=a.1.2/\d=a.2
def q11(a b:S.Cl):Prop:=a.1.1=b.1.1/\a.1.2=b.1.2/\a.2=b.2
def q16(a:S.Rd×B8)(b:B8)(c d:Int)(e:B8):Prop:=b=a.1.1/\c=a.1.2.1/\d=a.1.2.2/\e=a.2
def ò(a:U×U×U)(b c d:U):Prop:=b=a.1/\c=a.2.1/\d=a.2.2
def q35(a b:B8×Int):Prop:=a.1=b.1/\a.2=b.2
def q36(a:(Int×B8×M S.Sg×M (M S.Pf))×Int)(b:Int)(c:B8)(d:M S.Sg)(e:M (M S.Pf))(f:Int):Prop:=b=a.1.1/\c=a.1.2.1/\d=a.1.2.2.1/\e=a.1.2.2.2/\f=a.2
def q37(a b:S.Rs)(c:Prop):Prop:=a.1=b.1/\a.2=b.2/\c
def q38(a:(Int×B8×M S.Sg×Int×B8×O)×Int)(b:Int)(c:B8)(d:M S.Sg)(e:Int)(f:B8)(g:O)(h:Int):Prop:=b=a.1.1/\c=a.1.2.1/\d=a.1.2.2.1/\e=a.1.2.2.2.1/\f=a.1.2.2.2.2.1/\g=a.1.2.2.2.2.2/\h=a.2
def UQ(a:S.H8):=a.2.2.2.2.2.2.2
def UR(a:S.H8):=a.2.2.2.2.2.2.1
def q39(a:S.H8)(b c d e f g h i:Int):Prop:=b=a.1/\c=a.2.1/\d=a.2.2.1/\e=a.2.2.2.1/\f=a.2.2.2.2.1/\g=a.2.2.2.2.2.1/\h=UR a/\i=UQ a
def q40(a:Int×Int×Int×Int)(b c d e:Int):Prop:=b=a.1/\c=a.2.1/\d=a.2.2.1/\e=a.2.2.2
def aaU(a b:S.H8)(c:Prop):Prop:=a.1=b.1/\a.2.1=b.2.1/\a.2.2.1=b.2.2.1/\a.2.2.2.1=b.2.2.2.1/\c
def q48(a b:S.H8)(c:Prop):Prop:=aaU a b (a.2.2.2.2.1=b.2.2.2.2.1/\a.2.2.2.2.2.1=b.2.2.2.2.2.1/\UR a=UR b/\UQ a=UQ b/\c)
def q49(a b:S.H8):Prop:=aaU a b (a.2.2.2.2.1=b.2.2.2.2.1/\a.2.2.2.2.2.1=b.2.2.2.2.2.1/\UR a=UR b/\UQ a=UQ b)
def q50(a:S.Pf×Int)(b:Int)(c d e:B8)(f:O)(g:B8)(h:Int):Prop:=b=a.1.1/\c=a.1.2.1/\d=a.1.2.2.1/\e=a.1.2.2.2.1/\f=a.1.2.2.2.2.1/\g=a.1.2.2.2.2.2/\h=a.2
def Jm(a:Nat):Prop:=a<=140737488355328
def eF(a:Bool)(b c:Prop):Prop:=(a->b)/\(a=false->c)
def oD(a b:Int):=Bool.not (decide (a=b))
def jZ(a b:Bool):=bif a then true else b
def cE(a:Int):Prop:=-9223372036854775808<=a/\a<=9223372036854775807
def ct(a:Bool)(b c d:Prop):Prop:=eF a b (c/\d)
def oh(a b:Bool):=bif a then b else false
def jM(a:B8):Prop:=Jm a.length
def bG(a:O):Int:=a.length
def jz(a:Int):=a%4294967296
def wK(a b c:Nat):Prop:=S.af a b<S.af a c
def fU(a:B8):Int:=a.length
def de(a:Prop):Prop:=True/\a
def cV(a:U):Int:=a.length
def mg(a b c:Int)(d:Prop):Prop:=cE a/\(b<=a/\a<c)/\d
def ru(a:O)(b:Nat):=getD a b []
def EK(a:Int):=UInt8.ofNat (toNat a)
def nB(a:B8):Prop:=a.length<=35184372088832
def ot(a:Bool)(b:Prop)(c:Int)(d:Prop):Prop:=ct a b (cE c) d
def eN(a:O)(b:Int):=ru a (toNat b)
def fK(a:Bool)(b:Prop):Prop:=eF a b True
def dg(a:Int)(b:Prop):Prop:=cE (a+1)/\b
def ti(a b:Int):=a^toNat b
def bY(a:Bool)(b c d e:Prop):Prop:=ct a b c (d/\e)
def fL(a:Bool)(b c d:Int)(e f:Prop):Prop:=eF a ((b<=c/\c<d)/\e) f
def arQ:=Prod B8 U
def jV:=Vg.pV UInt8
def FC(a b:Int)(c:Bool):=oh (decide (a<=b)) c
def Jn(a b:Int)(c:Bool):=jZ (decide (a<b)) c
def rH(a:Bool)(b:Prop)(c:Int)(d:Prop):Prop:=ot a b (c+1) d
def lJ(a:Bool):Prop:=(a->True)/\(a=false->True)
def zx(a:Nat):Prop:=a<=5864062014805
def mY(a:Bool)(b:Prop):Prop:=eF a True b
def Jo(a:Int):=a%18446744073709551616
def gg(a b:Prop):Prop:=de (a/\b)
def nC(a:M (B8×U)):Int:=a.length
def xO(a b:Bool):=jZ a (Bool.not b)
def tj(a:U×Int)(b:Int):Prop:=[]=a.1/\b=a.2
def arR(a:UInt8):=(S.dF (Vg.pV B8) (Vg.pV (Prod Int (Prod Int (M arQ)))) [104,a,121]).1
def uf(a:S.Cl):Prop:=ñ a [] [] false
def nD(a b:B8):Prop:=Jm (a.length+b.length)
def FD(a b c:Int):=Vg.e9 (Vg.e9 a b) c
def MD(a:Bool)(b c:Int):=jZ a (decide (b<c))
def ME(a b c:Int):=FC a b (decide (b<=c))
def Ri(a:M Vg.CF):=(Vg.aE.first a).2
def gV(a b:Nat)(c d:Prop)(e:Nat):Prop:=((a:Int)+1=b/\c)/\d/\wK e b a
def qh(a:B8)(b:Prop):Prop:=S.small a/\b
def xP(a:B8×Int)(b:Int):Prop:=[]=a.1/\b=a.2
def xQ(a b:Int)(c d:Prop)(e f g:Nat):Prop:=(a+1=b/\c)/\d/\S.af e f<g
def FE(a b:Nat)(c:Prop)(d:Nat):Prop:=gV a b c (S.cC b d) d
def tm(a:Bool)(b:Int)(c:U):=bif a then drop (toNat b) c else c
def MF(a:Nat):Prop:=a<=3518437208883
def gJ(a:B8)(b:S.Wp):=a++S.bytesOf b
def Dm(a b:Int):=S.rotl a (-b)
def ó(a:UInt8):=(S.bS (arR a).1 (arR a).2).1
def ku(a:Int):=EK (a%256)
def Dn(a b:Int):Prop:=S.ux a (-b)
def MG(a:Bool)(b c:B8):=oh a (decide (b=c))
def ug(a b:Bool)(c:Int)(d:Prop):Prop:=rH a (false=b) c d
def Rj(a:Int):=Bool.not (decide (a=a))
def FF(a b c d:Int):Prop:=a<=b/\b<=c/\c<=d
def MH(a b:B8):=Bool.not (decide (a=b))
def Rk(a:B8):Prop:=a.length<=1099511627776
def US(a b c:Int):=Jn a b (decide (c<=a))
def Dp(a:M U)(b:Nat):=getD a b []
def qi(a:B8)(b:Prop):Prop:=S.az a/\b
def Jp(a:U):=Bool.not (S.aV a)
def Rl:Prop:=true=true
def oZ(a b:Nat)(c:Prop)(d:Nat):Prop:=(a:Int)+1=b/\c/\wK d b a
def UT(a:B8):Prop:=a.length<1099511627776
def Jq:=cV S.sF
def MJ(a b c:Int)(d:Prop):Prop:=cE a/\(b<=a/\a<=c)/\d
def zy(a b:U):Prop:=a.length+b.length<=17592186044416
def zz(a:Bool)(b c:Prop):Prop:=de (eF a b c)
def ô(a b c:Int):=Jn a b (decide (c<a))
def wL(a:M (B8×U))(b:Prop):Prop:=S.aW a/\b
def By(a b:O):Prop:=a.length+b.length<=8796093022208
def mZ(a:M (B8×U))(b:Int):=getD a (toNat b) ([],[])
def mK(a:Int)(b:Int×Int)(c:Int):Prop:=a=b.1/\c=b.2
def Bz(a:Int×Int)(b:Int):Prop:=mK 65533 a b
def zA(a:Int)(b:Nat)(c d:Prop)(e f:Nat):Prop:=(a=b/\c)/\d/\S.af e b<f
def cZ(a:Int):=oD a 0
def õ(a:Bool)(b:Int)(c:Bool)(d e:Int):=bif a then b else bif c then d else e
def Rm(a b:Int)(c:Prop):Prop:=a=a/\b=b/\c
def Rn:Prop:=[]=S.jK
def Jr(a:Int)(b:B8):=decide (a<fU b)
def dz(a:Int):=decide (a=0)
def ö(a b:Int):Prop:=toNat a<toNat b
def ø(a:Int)(b:U):=a::a::a::a::a::a::a::a::a::a::a::a::a::a::a::a::b
def Js(a:B8)(b:Nat):Prop:=Jm (a.length+b)
def aga(a b:B8):=Op.bytesLess a b||decide (a=b)
def UU(a:S.Hd×Int)(b c:Int):Prop:=b=a.1.1/\[]=a.1.2.1/\[]=a.1.2.2/\c=a.2
def Jt(a b:Bool)(c d:Int):=oh a (jZ b (decide (c<=d)))
def MK(a:Nat)(b:B8):Prop:=Jm (a+b.length)
def fM(a:M (Int×Int×M (B8×U)))(b c:Int):=getD a (toNat b) (c,c,[])
def Ju(a:Int)(b:Prop):Prop:=S.jx a/\b
def gW(a b:Int)(c:Prop):Prop:=(0<=a/\a<=b)/\c
def ù(a b c d e f g h:Int)(i:Prop):Prop:=(a<=b/\b<c)/\(a<=d/\d<c)/\(a<=e/\e<c)/\(a<=f/\f<c)/\(a<=g/\g<c)/\(a<=h/\h<c)/\i
def Jv(a:Bool)(b c d:Int):Prop:=bY a True (b<=b/\b<c) (b<=b) (b<d)
def Ro(a:Int)(b:UInt8):=replicate (toNat a) b
def Rp(a:Int):Prop:=a=a/\S.jK=S.jK
def jW(a b:Int)(c:Prop):Prop:=(0<=a/\a<b)/\c
def Jw(a b c:Int):Prop:=(a<=a/\a<b)/\a<=c/\c<=b
def Rq(a b:B8):Prop:=qh a (S.sum a=b)
def ML(a:Int):Int:=UInt8.toNat (S.more a)
def MM(a:Int):=Bool.not (S.cA a)
def ú(a b c:Bool):=bif a then jZ b c else c
def kv(a b:Int):=a/ti 2 b
def arS(a b c d:Int):=jz (a+FD (Vg.aT b c) (Vg.aT b d) (Vg.aT c d))
def agb(a:Int):=getD S.sF (toNat a) a
def û(a b c:Int):Prop:=a<=b/\b<=b/\b<=140737488355328/c
def ü(a:O)(b:UInt8)(c:Nat)(d:B8):Prop:=S.oS a/\S.gQ b a=S.bB c d
def gh(a:B8)(b:Int):Int:=UInt8.toNat (getD a (toNat b) 0)
def rj(a b:Int)(c d:Prop):Prop:=(0<=a/\a<b)/\c/\d
def gq(a:Int):=decide (0<a)
def ý(a:Bool)(b c d e f g h i:Int):=(bif a then 1779033703 else b,bif a then 3144134277 else c,bif a then 1013904242 else d,bif a then 2773480762 else e,bif a then 1359893119 else f,bif a then 2600822924 else g,bif a then 528734635 else h,bif a then 1541459225 else i)
def agc(a:U×U×U)(b c:U)(d:S.Kp):Prop:=ò a (bif Jp b then [] else b) (bif Jp c then [] else c) []/\S.mG d b c a
def js(a:U)(b:Int):=getD a (toNat b) 0
def UW(a:Int):=decide (a<128)
def FG(a:B8):=oD (fU a) 32
def zB:Prop:=(0:Int)=0
def mh(a:B8×B8)(b:S.Cl):=Vg.AV.bk [Vg.AV.agg [Vg.AV.sl [Vg.Ty.int IntKind.u8] a.1,Vg.AV.sl [Vg.Ty.int IntKind.u8] a.2],Vg.AV.bool b.2]
def KM:=(ó 97).2
def KN:=(ó 97).1
def GY(a:Int):=decide (64<a)
def tO(a:Int):Prop:=(0:Int)<=0/\0<a
def jf(a:U)(b:Nat):=getD a b 0
def wM(a:Nat)(b:Prop)(c:Nat):Prop:=((0:Int)=a/\b)/\S.cC a c
def wN(a:Prop)(b:Bool)(c d:Int)(e f g:Prop):Prop:=a->ct b ((0<=c/\c<d)/\e) f g
def aaV(a b c:Int):=bif oh (dz a) (oD (S.BK S.kE b).1 (-c)) then c else a
def Rr:=(S.rF (ó 97).1 (ó 97).2 S.jK).1
def aaW:=S.fJ (S.fk KN KM).1 S.jK Rr
def Dq:Int:=((64:Nat):Int)
def GZ:Int×Int×Int×Int×Int×Int×Int×Int:=(1779033703,3144134277,1013904242,2773480762,1359893119,2600822924,528734635,1541459225)
def gT(a:U):=getD a (toNat 0) 0
def AQ:Int:=((8:Nat):Int)
def KO(a:Int):=decide (a=1)
def iO(a:M (Int×B8))(b:Int):=getD a (toNat b) (0,[])
def pM(a:Int):=decide (0<=a)
def KP:Int:=((1:Nat):Int)
def Rt(a:B8)(b c:Int)(d:Nat):=S.aF a (S.iw a b c d).1.1 (S.iw a b c d).1.2
def KR(a:B8)(b c:Int):=S.lI a (S.ag a b c).1.2.1 (S.ag a b c).1.2.2
def KQ(a:B8)(b c:Int):=S.sc a (KR a b c).1.1 (KR a b c).1.2
def Xi(a:M (Int×Int×M (B8×U)))(b:O)(c:M (M (Int×B8×B8×B8×O×B8)))(d:Nat)(e:Nat×Nat):=S.fv (getD a (toNat d) (0,0,[])).2.2 (ru b (toNat e.1)) (getD (getD c (toNat d) []) (toNat e.1) (0,[],[],[],[],[]))
def Ru(a:O×M Bool×O×Int):=S.split (bG a.2.2.1)
def yv(a:B8)(b:Int)(c d:O)(e:Nat):=Vg.aE.first (Vg.aE.put (S.rG c b a d e) (toNat (bG d)) (S.iy (S.bB 0 a) (S.bB 0 (eN c b))) (mh (S.bt (S.bB 0 a) (S.bB 0 (eN c b))).1 (S.bt (S.bB 0 a) (S.bB 0 (eN c b)))))
def aar(a:O)(b:Nat):=toNat (bG a-1-b)
def sf(a:B8)(b:Int)(c d:O)(e:O×M Bool×O×Int)(f:Nat):=bif getD e.2.1 (aar d f) false then eN d f else S.cL (S.leaf a) b (S.len c) d f
def KT(a:B8)(b:Int)(c d:O)(e:O×M Bool×O×Int)(f:Nat):=bif getD e.2.1 (aar d f) false then S.cL (S.leaf a) b (S.len c) d f else eN d f
def Rv(a:O):=toNat (S.split (bG a))
def aaX(a:O):=S.kI (take (Rv a) a)++S.kI (drop (Rv a) a)
def Xk(a:B8):=(S.aI a).1.2.1
def Rw(a:B8):=(S.aI a).1.2.2.2
def yw(a:B8):=(S.aI a).1.2.2.1
def Xj(a:B8)(b:M (Int×B8))(c:B8)(d:Nat×Nat):=S.ra 36 3 c (S.aI a).1.1 (Xk a) (yw a) (Rw a) (S.al b) d.1 d.2
def Dr(a:B8)(b:Nat):=getD (yw a) (toNat b) (0,0,0,[])
def tP(a:B8)(b:M (Int×B8))(c:B8)(d:Nat):=S.conds 36 3 c (S.aI a).1.1 (Xk a) (yw a) (Rw a) (S.al b) d
def KV(a:B8)(b:M (Int×B8))(c:B8)(d:Nat):=Vg.aE.run (tP a b c d) (Vg.Z.g 36 3 (Vg.aE.L9 (toNat (bG (S.al b)))))
def Rx(a:M (M (Int×B8×B8×B8×O×B8)))(b c:Int):=getD (getD a (toNat b) []) (toNat c) (0,[],[],[],[],[])
def AR(a:M (M (Int×B8×B8×B8×O×B8)))(b:Int)(c:B8)(d e:Int)(f:B8):=S.jr c b f ((Rx a d e).1,(Rx a d e).2.1,(Rx a d e).2.2.1,(Rx a d e).2.2.2.1,(Rx a d e).2.2.2.2.1,(Rx a d e).2.2.2.2.2)
def KW(a:M (M (Int×B8×B8×B8×O×B8)))(b c:Int):=getD (getD a (toNat b) []) (toNat c) (0,[],[],[],[],[])
def AS(a:M (M (Int×B8×B8×B8×O×B8)))(b:Int)(c:B8)(d e:Int)(f:B8):=S.jr c b f ((KW a d e).1,(KW a d e).2.1,(KW a d e).2.2.1,(KW a d e).2.2.2.1,(KW a d e).2.2.2.2.1,(KW a d e).2.2.2.2.2)
def aaY(a:B8):=(S.bx a).1.2
def Ds(a:B8):=(aaY a).2.2.2
def yx(a:B8)(b:Int)(c:B8):Int:=bif oh (S.EH (S.bx a).1.1 (aaY a).1 (aaY a).2.1 c) (oh (decide ((aaY a).2.2.1=b)) (jZ (S.Ky (S.bx a).1.1 (aaY a).1 (Ds a).1 (Ds a).2 b) false)) then 0 else 6
def KX(a:B8)(b:Int)(c:Nat):=Vg.aT (gh a (b+c)) 127*ti 2 (7*c)
def KY(a:B8)(b:Int):=(S.aQ a b).2.1+(S.aQ a b).1
def tQ(a:M (B8×U)):=a.length
def aaZ(a:M (B8×U))(b:Nat):=[S.dw (bif decide ((b:Int)<tQ a) then bif gq b then(mZ a (b-1)).1 else [] else bif gq b then(mZ a (b-1)).1 else []) (bif decide ((b:Int)<tQ a) then(mZ a b).1 else bif gq b then [] else []) (S.vY (bif gq b then(mZ a (b-1)).2 else []))]
def KZ(a:B8):=S.ao (S.ao a 0 0 64).1.1 (S.ao a 0 0 64).1.2.1 (S.ao a 0 0 64).1.2.2 64
def Dt(a:B8):=S.aF (KZ a).1.1 (KZ a).1.2.1 (KZ a).1.2.2
def sh(a:M U)(b:M (Int×B8))(c:O)(d:Nat):=S.jU (S.od c a) b d
def Ry(a:M U):=a.length
def aa0(a:M U):=toNat (Ry a-1-1)
def rk(a:M U):=[S.AK (Dp a (aa0 a)) (Dp a (toNat (Ry a-1)))]
def rl(a:M U):=a.length
def Rz(a:M U):=toNat (rl a-1-1)
def aa1(a:M U):=[S.I8 (Dp a (Rz a)) (Dp a (toNat (rl a-1)))]
def rm(a:M U):=a.length
def aa2(a:M U):=toNat (rm a-1-1)
def RA(a:M U):=[S.qX (Dp a (aa2 a)) (Dp a (toNat (rm a-1)))]
def AU(a:B8):=(S.aI a).1
def jg(a:B8)(b:M (Int×B8))(c:O)(d:M (Int×Int×M (B8×U))):=S.lf (AU a).1 (AU a).2.1 (AU a).2.2.1 c d (S.al b) (AU a).2.2.2
def AT(a:B8)(b:O)(c:M (Int×Int×M (B8×U))):=S.sI (AU a).1 (AU a).2.1 (AU a).2.2.1 b c
def K1(a:B8):=(S.bx a).1.2.2.2.2.1
def AX(a:B8):=(S.bx a).1.2.2.2.2.2
def K2(a:B8)(b:Int)(c:O)(d:M (Int×Int×M (B8×U))):=S.QV (S.bx a).1.1 (S.bx a).1.2.1 (S.bx a).1.2.2.1 c d b (K1 a) (AX a)
def AW(a:B8)(b:O)(c:M (Int×Int×M (B8×U))):=S.sI (S.bx a).1.1 (S.bx a).1.2.1 (S.bx a).1.2.2.1 b c
def Xl(a:B8):=S.aF a (S.ag a 0 0).1.2.1 (S.ag a 0 0).1.2.2
def G1(a:B8):=S.ag a (Xl a).1.2.1 (Xl a).1.2.2
def rn(a:B8)(b:Nat):=S.wj a (S.jP a b).1.1 (S.jP a b).1.2 (S.jP a b).2.1
def aa3(a:B8)(b:Nat):=[((S.jP a b).2.1,(rn a b).2.2.1,(rn a b).2.2.2.1,(rn a b).2.2.2.2)]
def RB(a:B8):=(S.iA a).1
def Xn(a:B8)(b c:Int):=S.ag a (S.ag a b c).1.2.1 (S.ag a b c).1.2.2
def Xm(a:B8)(b c:Int):=S.aF a (Xn a b c).1.2.1 (Xn a b c).1.2.2
def yy(a:M (Int×Int×Int×B8))(b:Nat):=(getD a (toNat b) (0,0,0,[])).2
def RC(a:Int):=Vg.aT (Jo a) 31
def AY(a:O)(b:M (Int×Int×M (B8×U))):=S.dp (S.ak a b).1 (S.dD (S.ak a b).2) (bG (S.ak a b).1)
def RD(a:O)(b:M (Int×Int×M (B8×U)))(c:Nat):=getD (S.ak a b).2 (toNat c) (0,0,[])
def aav(a:O)(b:M (Int×Int×M (B8×U)))(c:Nat):=(S.tB (RD a b c).1 (RD a b c).2.1 (RD a b c).2.2).1
def aaH(a:M (Int×Int×M (B8×U)))(b:Nat):=getD a (toNat b) (0,0,[])
def tR(a:B8)(b:Nat×Int×Int×Int×U):=S.ag a b.2.1 b.2.2.1
def K3(a:U×U×U):=Jt (gq (cV a.2.1)) (dz (cV a.1)) (gT a.2.1) (gT a.1)
def K4(a:U×U×U):=Jt (gq (cV a.1)) (dz (cV a.2.1)) (gT a.1) (gT a.2.1)
def aa4(a:U×U×U):=[õ (K3 a) (gT a.2.1) (K4 a) (gT a.1) 0]
def K5(a:U×U×U):=Jt (gq (cV a.2.1)) (dz (cV a.1)) (gT a.2.1) (gT a.1)
def aa5(a:U×U×U):=Jt (gq (cV a.1)) (dz (cV a.2.1)) (gT a.1) (gT a.2.1)
def K6(a:U×U×U):=[õ (K5 a) (gT a.2.1) (aa5 a) (gT a.1) 0]
def aa6(a:U×U×U):=Jt (gq (cV a.2.1)) (dz (cV a.1)) (gT a.2.1) (gT a.1)
def K8(a:U×U×U):=Jt (gq (cV a.1)) (dz (cV a.2.1)) (gT a.1) (gT a.2.1)
def K7(a:U×U×U):=[õ (aa6 a) (gT a.2.1) (K8 a) (gT a.1) 0]
def Xo(a:U×U):=Jt (gq (cV a.1)) (dz Jq) (gT a.1) (agb 0)
def RF(a:U×U):=Jt (gq Jq) (dz (cV a.1)) (agb 0) (gT a.1)
def RE(a:U×U):=õ (RF a) (agb 0) (Xo a) (gT a.1) 0
def aa7(a:M (B8×U))(b:B8):=[((S.wv a b).1.1,(S.wv a b).1.2.1,(S.wv a b).1.2.2.1,(S.wv a b).1.2.2.2.1,(S.wv a b).1.2.2.2.2.1,(S.wv a b).1.2.2.2.2.2)]
def aa8(a:M (B8×U))(b:B8):=[((S.wv a b).1.1,(S.wv a b).1.2.1,(S.wv a b).1.2.2.1,(S.wv a b).1.2.2.2.1,(S.wv a b).1.2.2.2.2.1,(S.wv a b).1.2.2.2.2.2)]
def aIl(a:M (Int×B8))(b:Nat):=MD (MH (iO a b).2 []) (S.c9 a b) 2
def aam(a:B8)(b:Nat):=jf (S.decode a) (toNat b)
def Xp(a:Int)(b:B8)(c:Int):=drop (toNat c) (take (toNat a) b)
def Dv(a:B8)(b:Nat×Nat):=S.I4 a b.2 b.1
def aa9(a:B8)(b:Nat×Nat):=S.jc a (Dv a b).1.1 (Dv a b).1.2
def Du(a:B8)(b:Nat×Nat):=[((aa9 a b).2.1,(aa9 a b).2.2.1,(aa9 a b).2.2.2.1,(aa9 a b).2.2.2.2.1,(aa9 a b).2.2.2.2.2.1,(aa9 a b).2.2.2.2.2.2)]
def Xr(a:B8):=S.ag a (S.fq a 1 0).1.1 (S.fq a 1 0).1.2
def Xq(a:B8):=S.ao a (Xr a).1.2.1 (Xr a).1.2.2 2000
def K9(a:B8):=S.sc a (Xq a).1.2.1 (Xq a).1.2.2
def La(a:M (M (Int×B8×B8×B8×O×B8)))(b:Nat):Int:=length (getD a (toNat b) [])
def Dw(a:M (M (Int×B8×B8×B8×O×B8)))(b:Nat)(c:Nat×Nat):=getD (getD a (toNat b) []) (toNat c.1) (0,[],[],[],[],[])
def aba(a:M (M (Int×B8×B8×B8×O×B8)))(b:Nat)(c:Nat×Nat):=S.lb ((Dw a b c).1,(Dw a b c).2.1,(Dw a b c).2.2.1,(Dw a b c).2.2.2.1,(Dw a b c).2.2.2.2.1,(Dw a b c).2.2.2.2.2)
def abb(a:Int)(b:B8)(c:M (Int×Int×Int×B8))(d:Int)(e:B8)(f:O):=(gJ (gJ (gJ (gJ [2] (S.kL a b c)) (S.jL d)) (S.gn e 2000)) (S.jb f),S.oA (S.oA (S.oA (S.oA false (S.kL a b c)) (S.jL d)) (S.gn e 2000)) (S.jb f))
def abc(a:B8):=S.tail a (S.pW a)
def abd(a:B8)(b:Nat):=S.fb (S.proc S.H0 (abc a) b)
def Dx(a:B8)(b:Nat):=length (abd a b)
def A4(a:B8)(b:Nat):=take (toNat (((64*b:Nat):Int)+64)-toNat ((64*b:Nat):Int)) (drop (toNat ((64*b:Nat):Int)) (abc a))
def Lb(a:B8):=S.cb S.H0 (abc a)
def tS(a:B8)(b c:Nat):=[ku (jf (abd a b) (toNat c)/16777216),ku (jf (abd a b) (toNat c)/65536%256),ku (jf (abd a b) (toNat c)/256%256),ku (jf (abd a b) (toNat c)%256)]
def wO(a:B8):=S.sched a 64
def jN(a:U)(b:B8)(c:Nat):=S.gz (wO b) (S.tw a) c
def abe(a:U)(b:B8)(c:Nat):=(jN a b c).2.2.2.2.2
def A5(a:U)(b:B8)(c:Nat):=jz (jz (jz (jz ((abe a b c).2.2+FD (S.right (jN a b c).2.2.2.2.1 6) (S.right (jN a b c).2.2.2.2.1 11) (S.right (jN a b c).2.2.2.2.1 25))+Vg.e9 (Vg.aT (jN a b c).2.2.2.2.1 (abe a b c).1) (Vg.aT (Vg.e9 4294967295 (jN a b c).2.2.2.2.1) (abe a b c).2.1))+getD S.Bo (toNat c) 0)+getD (wO b) (toNat c) 0)
def G2(a:Nat):=toNat (a-15)
def mL(a:Nat):=toNat (a-2)
def G3(a:B8)(b:Nat):=[jz (jz (jz (getD (S.sched a b) (toNat (b-16)) 0+FD (S.right (jf (S.sched a b) (G2 b)) 7) (S.right (jf (S.sched a b) (G2 b)) 18) (kv (jf (S.sched a b) (G2 b)) 3))+getD (S.sched a b) (toNat (b-7)) 0)+FD (S.right (jf (S.sched a b) (mL b)) 17) (S.right (jf (S.sched a b) (mL b)) 19) (kv (jf (S.sched a b) (mL b)) 10))]
def abf(a:B8)(b:Nat):=length (S.sched a b)
def abg(a:B8)(b:Nat):=[jz (jz (jz (jz (gh a ((4*b:Nat):Int)*16777216)+jz (gh a (((4*b:Nat):Int)+1)*65536))+jz (gh a (((4*b:Nat):Int)+2)*256))+gh a (((4*b:Nat):Int)+3))]
def G4(a:B8)(b:Nat×U)(c:Nat×Nat):=S.cg (drop (toNat b.1) a) ((c.1+1:Nat):Int)
def A6(a:B8):=a.length
def abh(a:B8)(b:Nat×U)(c:Nat×Nat):=MG (S.pe (G4 a b c)) (S.enc (G4 a b c)) (drop (toNat b.1) (take (toNat (S.qL (b.1+((c.1+1:Nat):Int)) (A6 a))) a))
def Lc(a:B8)(b:Nat×Nat):=S.iq (drop b.2 a) b.1
def abi(a:Int):=oh (decide (57343<a)) (decide (a<1114112))
def A7(a:B8):=length (S.decode a)
def Dy(a:O×O):=ru a.1 (toNat (S.eo a.1))
def A8(a:O×O):=length a.1
def Xs(a:U)(b:Nat×B8):=length (S.enc (S.aX (js a b.1)))
def G5(a:B8):=length (S.decode a)
def Xt(a:B8)(b:Nat×O)(c:Nat×Nat):=take (toNat c.1-toNat b.1) (drop (toNat b.1) (S.decode a))
def RG(a:O):=take (toNat (S.split (bG a))) a
def RH(a:O):=drop (toNat (S.split (bG a))) a
def Ld(a:U)(b:Nat):=js a b-js a (b-1)
def wP(a:U):=a.length
def Xv(a:M (B8×U)):=a.length
def Xu(a:M (B8×U))(b:Nat):=bif decide ((b:Int)-1+1<Xv a) then(mZ a (b-1+1)).1 else bif pM (b-1) then [] else []
def tT(a:M (B8×U))(b:Nat):=bif pM (b-1) then S.kl (mZ a (b-1)).2 else S.kl (Vg.pV Int)
def Xw(a:M (B8×U))(b:Nat):=bif decide ((b:Int)-1+1<Xv a) then tT a b else tT a b
def abj(a:M (B8×U))(b:Nat):=bif decide ((b:Int)-1+1<Xv a) then bif pM (b-1) then(mZ a (b-1)).1 else [] else bif pM (b-1) then(mZ a (b-1)).1 else []
def Le(a:O)(b:Int)(c d:Nat):=ru (S.sorted (S.b7 a b c)) (toNat d)
def G6(a:O)(b:Int)(c:Nat):=length (S.sorted (S.b7 a b c))
def Lg(a:O)(b:M (Int×Int×M (B8×U)))(c:Nat):=getD (S.ak a b).2 (toNat c) (0,0,[])
def aaS(a:O)(b:M (Int×Int×M (B8×U)))(c:Nat):=S.SO (Lg a b c).1 (Lg a b c).2.1 (Lg a b c).2.2
def tU(a:M (Int×Int×Int×B8))(b:Nat):=(getD a (toNat b) (0,0,0,[])).2
def aIm(a:M (Int×B8)):Int:=a.length
def aIn(a:M (Int×B8)):=a.length
def abk(a:M (Int×B8)):=getD a (toNat (aIn a-1)) (0,[])
def aIo(a:M (Int×B8)):=drop (toNat (S.oW a)) (take (toNat (aIn a-1)) a)
def aIp(a:M (Int×B8)):=take (toNat (S.oW a)) a
def lK(a:M (Int×Int×Int×B8))(b:Nat):=getD a (toNat b) (0,0,0,[])
def Ba(a:B8):=a.length
def Dz(a:B8)(b:Int)(c:B8):=MD (Bool.not (S.qI c b)) (1099511627776-b) (Ba a)
def G7(a:B8)(b:Int)(c:B8):=bif Dz a b c then [] else c
def DA(a:Int)(b:B8):=Bool.not (S.qI b a)
def Bb(a:Int)(b:B8)(c:Nat):=[ku (kv (Jo (Jo (bif DA a b then 0 else a)*8)) (56-8*c))]
def abl(a b c d e f g h i:Int)(j:B8)(k:Nat):=S.cb (ý (DA a j) b c d e f g h i) (S.pA j a k)
def RJ(a b c d e f g h i:Int)(j:B8)(k l:Nat):=js [(abl a b c d e f g h i j k).1,(abl a b c d e f g h i j k).2.1,(abl a b c d e f g h i j k).2.2.1,(abl a b c d e f g h i j k).2.2.2.1,(abl a b c d e f g h i j k).2.2.2.2.1,(abl a b c d e f g h i j k).2.2.2.2.2.1,(abl a b c d e f g h i j k).2.2.2.2.2.2.1,(abl a b c d e f g h i j k).2.2.2.2.2.2.2] l
def abn(a b c d e f g h i:Int)(j:B8)(k l:Nat):=[ku (kv (RJ a b c d e f g h i j k l) 24),ku (kv (RJ a b c d e f g h i j k l) 16),ku (kv (RJ a b c d e f g h i j k l) 8),ku (RJ a b c d e f g h i j k l)]
def RK(a:B8):=(S.cb GZ a).2.2.2.2
def abo(a:B8):=((S.cb GZ a).1,(S.cb GZ a).2.1,(S.cb GZ a).2.2.1,(S.cb GZ a).2.2.2.1,(RK a).1,(RK a).2.1,(RK a).2.2.1,(RK a).2.2.2)
def Li(a:B8)(b c d e f g h i:Int)(j:Nat):=S.gz (S.sched a 64) (b,c,d,e,f,g,h,i) j
def G8(a:B8)(b c d e f g h i:Int)(j k:Nat):=jz (jz (jz (jz ((Li a b c d e f g h i k).2.2.2.2.2.2.2+FD (Dm (Li a b c d e f g h i k).2.2.2.2.1 6) (Dm (Li a b c d e f g h i k).2.2.2.2.1 11) (Dm (Li a b c d e f g h i k).2.2.2.2.1 25))+Vg.e9 (Vg.aT (Li a b c d e f g h i k).2.2.2.2.1 (Li a b c d e f g h i k).2.2.2.2.2.1) (Vg.aT (4294967296-1-(Li a b c d e f g h i k).2.2.2.2.1) (Li a b c d e f g h i k).2.2.2.2.2.2.1))+getD S.Bo (toNat k) 0)+getD (S.bf a j) (0+toNat k*1) 0)
def Lh(a:B8)(b:Nat):=length (S.bf a b)
def eP(a:B8)(b:Nat):=jf (S.bf a b) (0+toNat (b-15)*1)
def abp(a:B8)(b:Nat):=jf (S.bf a b) (0+toNat (b-2)*1)
def abq(a:B8)(b c d e f g h i:Int)(j:Nat):=((S.proc (b,c,d,e,f,g,h,i) a j).1,(S.proc (b,c,d,e,f,g,h,i) a j).2.1,(S.proc (b,c,d,e,f,g,h,i) a j).2.2.1,(S.proc (b,c,d,e,f,g,h,i) a j).2.2.2.1,(S.proc (b,c,d,e,f,g,h,i) a j).2.2.2.2.1,(S.proc (b,c,d,e,f,g,h,i) a j).2.2.2.2.2.1,(S.proc (b,c,d,e,f,g,h,i) a j).2.2.2.2.2.2.1,(S.proc (b,c,d,e,f,g,h,i) a j).2.2.2.2.2.2.2)
def DB(a:Int×Int):=kv (Jo (a.1+a.2)) 1
def Xx(a:Nat×Nat×O×Nat):=toNat a.1
def yz(a:O):=a.length
def abr(a:Nat×Nat×O×Nat):=length a.2.2.1
def wQ(a:Nat×Nat×O×Nat):=take (Xx a) a.2.2.1++replicate (abr a-Xx a) jV++drop (Xx a+(abr a-Xx a)) a.2.2.1
def si(a:Nat):=toNat a
def tV(a:Nat)(b:Nat×Nat×O×Nat):=MH (ru b.2.2.1 (si a+toNat b.2.1)) (ru b.2.2.1 (si a+toNat (b.2.1-1)))
def sk(a:Nat×Nat×O×Nat):=length a.2.2.1
def yA(a:Nat×Nat×O×Nat):=toNat a.1
def abt(a:Nat×Nat×O×Nat):=take (yA a) a.2.2.1++replicate (sk a-yA a) jV++drop (yA a+(sk a-yA a)) a.2.2.1
def wR(a:Nat):=toNat a
def Xy(a:Nat)(b:Nat×Nat×O×Nat):=MH (ru b.2.2.1 (wR a+toNat b.2.1)) (ru b.2.2.1 (wR a+toNat (b.2.1-1)))
def tW(a:O):=a.length
def DC(a:M (B8×U))(b:B8):=ru (S.bn a) (toNat (S.bo a b+1))
def RL(a:B8):=length (S.aS a)
def Lj(a:B8)(b:Nat×O×U):=jf (S.decode a) (toNat b.1)
def RN(a:U)(b:Nat×B8):=S.im (S.aX (js a b.1))
def Xz(a b:Int):=length (S.cq a b)
def Bc(a b:Int)(c:Nat):=getD (S.cq a b) (toNat (Xz a b-1-c)) false
def wS(a:O×Int×O):=S.split (bG a.1)
def RO(a:O×Int×O):=take (toNat (wS a)) a.1
def RP(a:O×Int×O):=drop (toNat (wS a)) a.1
def abu(a:O):=a.length
def mi(a:O):=List.set a (toNat (abu a-2)) (S.bz (ru a (toNat (abu a-2))) (ru a (toNat (abu a-2+1))))
def Ll(a:B8):=drop (toNat 1) (take (toNat 4) a)
def Lm(a:B8):=drop (toNat 1) (take (toNat 3) a)
def Ln(a:B8):=drop (toNat 1) (take (toNat 2) a)
theorem au {p q:Prop}(h:q)(e:p=q:=by(try delta q0 q2 q4 ñ q11 q16 ò q35 q36 q37 q38 UQ UR q39 q40 aaU q48 q49 q50 Jm eF oD jZ cE ct oh jM bG jz wK fU de cV mg ru EK nB ot eN fK dg ti bY fL arQ jV FC Jn rH lJ zx mY Jo gg nC xO tj arR uf nD FD MD ME Ri gV qh xP xQ FE tm MF gJ Dm ó ku Dn MG ug Rj FF MH Rk US Dp qi Jp Rl oZ UT Jq MJ zy zz ô wL By mZ mK Bz zA cZ õ Rm Rn Jr dz ö ø Js aga UU Jt MK fM Ju gW ù Jv Ro Rp jW Jw Rq ML MM ú kv arS agb û ü gh rj gq ý agc js UW FG zB mh KM KN GY tO jf wM wN aaV Rr aaW Dq GZ gT AQ KO iO pM KP Rt KR KQ Xi Ru yv aar sf KT Rv aaX Xk Rw yw Xj Dr tP KV Rx AR KW AS aaY Ds yx KX KY tQ aaZ KZ Dt sh Ry aa0 rk rl Rz aa1 rm aa2 RA AU jg AT K1 AX K2 AW Xl G1 rn aa3 RB Xn Xm yy RC AY RD aav aaH tR K3 K4 aa4 K5 aa5 K6 aa6 K8 K7 Xo RF RE aa7 aa8 aIl aam Xp Dv aa9 Du Xr Xq K9 La Dw aba abb abc abd Dx A4 Lb tS wO jN abe A5 G2 mL G3 abf abg G4 A6 abh Lc abi A7 Dy A8 Xs G5 Xt RG RH Ld wP Xv Xu tT Xw abj Le G6 Lg aaS tU aIm aIn abk aIo aIp lK Ba Dz G7 DA Bb abl RJ abn RK abo Li G8 Lh eP abp abq DB Xx yz abr wQ si tV sk yA abt wR Xy tW DC RL Lj RN Xz Bc wS RO RP abu mi Ll Lm Ln);exact rfl):p:=e.mpr h
theorem SU {a A b c d:Prop}(h:a)(H:A)(e:b)(f:c)(g:d):a/\A/\b/\c/\d:=⟨h,H,e,f,g⟩
end Go
