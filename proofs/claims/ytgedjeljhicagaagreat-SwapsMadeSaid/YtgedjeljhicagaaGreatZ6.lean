/- Parts of the proof: see the text that holds the theorem. -/
import Derived.Test.YtgedjeljhicagaaGreatZ5
set_option linter.all false
open Nat (reduceAdd reduceSub)
set_option maxRecDepth 100000
namespace Go.Ev
open Go
variable [Lib] [cz] [bZ] [gU] [gJ] [kG] [gV] [gW] [jC] [gX] [fT] [eR] [iU] [fE]
theorem ints_set(l:List Int)(i:Nat)(x:Int):(ints l).set i (I x)=ints (l.set i x):=by simp[ints]
theorem jz(l:List Int):(ints l).length=l.length:=by simp[ints]
theorem fk{l:List Int}{i:Nat}(h:i<l.length):(ints l)[i]?=some (I (nth l i)):=CQ _ _ h
theorem Qu{d:aE}(hd:d.dO){m:aP}(hm:m.ok)(p1:1≤m.aa.length){ws:List World}(hs:(Bel.mk ws).sz)(h20:ws.length≤1000){i:Nat}(hi:i<ws.length)(ht:1≤(nth ws i).tags.length)(hw:1≤(nth ws i).whr.length)(hf:1≤(nth (nth ws i).whr 0).frm.length)
 (htm:0≤(nth (nth ws i).whr 0).time∧(nth (nth ws i).whr 0).time≤2147483648) (aw:aH 0 N.cA [] []=some (B true,[])) (li:T) (n0 n1 n2:Int) (at_ pe a1 a2 k1 k2:Int) (t0: -1000000≤at_) (t1:at_≤1000000000000) (x3 x4 x5:Obj)
 {e:aE} (go:aH 0 N.ax [.bp 0 0,I 7] [d.obj]=some (I 0,[e.obj])):
 ∃vs H,exS aH K.aB.body.snd.snd.snd.snd.snd.snd.snd.snd.snd.snd.snd.snd.snd ⟨smV li (.agg [tI n0,tI n1,tI n2]) at_ pe a1 a2 k1 k2 ((cbH 6 ws).length+6) (.ap 6 0 ws.length i 0) .und,.box [I n0,I n1,I n2]::d.obj:: .box (ae m)::x3::x4::x5::smT ws⟩=some (.ret,⟨vs,H⟩)∧vs[3]?=some (B true):=by
 have hx:=hs.2 _ (af (l:=ws) (j:=i) hi)
 have E1:(cbE 6 ws)[i]?=some (.agg [.ref (7+2*i) 0 (nth ws i).tags.length,.ref (8+2*i) 0 (nth ws i).whr.length]):=rn 6 ws hi
 have E2:=nB 6 ws
 have qb:∀y0 y1 y2:Obj,(y0::y1::y2::x3::x4::x5::smT ws)[(cbH 6 ws).length+6]?=some (.box [.ref 6 0 ws.length]):=fun y0 y1 y2=>FD y0 y1 y2 x3 x4 x5
 have qm:∀y0 y1 y2:Obj,(y0::y1::y2::x3::x4::x5::smT ws)[6]?=some (.arr 2 false 0 (cbE 6 ws)):=fun y0 y1 y2=>FE y0 y1 y2 x3 x4 x5
 have qt:∀y0 y1 y2:Obj,(y0::y1::y2::x3::x4::x5::smT ws)[7+2*i]?=some (.arr 1 false 0 (ints (nth ws i).tags)):=fun y0 y1 y2=>HD hi y0 y1 y2 x3 x4 x5
 have qw:∀y0 y1 y2:Obj,(y0::y1::y2::x3::x4::x5::smT ws)[8+2*i]?=some (.arr 2 false 0 ((List.range (nth ws i).whr.length).map (wEl (fun j=>7+2*ws.length+fR ws i+j) (nth ws i).whr))):=fun y0 y1 y2=>HE hi y0 y1 y2 x3 x4 x5
 have qf:∀y0 y1 y2:Obj,(y0::y1::y2::x3::x4::x5::smT ws)[7+2*ws.length+fR ws i]?=some (.arr 1 false 0 (ints (nth (nth ws i).whr 0).frm)):=fun y0 y1 y2=>(wW hi y0 y1 y2 x3 x4 x5 hw).1
 have lf:=(wW hi x3 x3 x3 x3 x4 x5 hw).2
 have W1:((List.range (nth ws i).whr.length).map (wEl (fun j=>7+2*ws.length+fR ws i+j) (nth ws i).whr))[0]?=some (.agg [I (nth (nth ws i).whr 0).time,.ref (7+2*ws.length+fR ws i) 0 (nth (nth ws i).whr 0).frm.length]):=by
  rw[aLn,aLp (by omega)];rfl
 have W2:((List.range (nth ws i).whr.length).map (wEl (fun j=>7+2*ws.length+fR ws i+j) (nth ws i).whr)).length=(nth ws i).whr.length:=by simp
 have G1:=jz (nth ws i).tags
 have G2:=fk (l:=(nth ws i).tags) (i:=0) (by omega)
 have G3:(ints (nth ws i).tags)[((((nth ws i).tags.length:Nat):Int)-1).toNat]?=some (I (nth (nth ws i).tags ((nth ws i).tags.length-1))):=by
  rw[show((((nth ws i).tags.length:Nat):Int)-1).toNat=(nth ws i).tags.length-1 by omega];exact fk (by omega)
 have F1:=jz (nth (nth ws i).whr 0).frm
 have F2:=fk (l:=(nth (nth ws i).whr 0).frm) (i:=0) (by omega)
 have il:ws.length≤1000000:=by omega
 have tz:=hx.1
 have wz:=hx.2.1
 have sz:=FC hs (i:=i) (x:=⟨(nth ws i).tags.set 0 (nth (nth ws i).tags ((nth ws i).tags.length-1)),(nth ws i).whr⟩) ⟨by simpa using hx.1,hx.2⟩
 have st:=My 6 ws hi ((nth ws i).tags.set 0 (nth (nth ws i).tags ((nth ws i).tags.length-1))) (by simp)
 have st2:∀y0 y1 y2:Obj,(y0::y1::y2::x3::x4::x5::smT ws).set (7+2*i) (.arr 1 false 0 ((ints (nth ws i).tags).set 0 (I (nth (nth ws i).tags ((nth ws i).tags.length-1)))))=y0::y1::y2::x3::x4::x5::(cbH 6 (ws.set i ⟨(nth ws i).tags.set 0 (nth (nth ws i).tags ((nth ws i).tags.length-1)),(nth ws i).whr⟩)++[.box [.ref 6 0 ws.length],.arr 2 false 0 []]):=fun y0 y1 y2=>by
  have:=Co st (by omega) [.box [.ref 6 0 ws.length],.arr 2 false 0 []] y0 y1 y2 x3 x4 x5
  rw[← ints_set,show 1+2*i+6=7+2*i by omega]at this
  exact this
 have Yl:(cbH 6 (ws.set i ⟨(nth ws i).tags.set 0 (nth (nth ws i).tags ((nth ws i).tags.length-1)),(nth ws i).whr⟩)).length=(cbH 6 ws).length:=Dn st
 have lb:LB (cbH 6 (ws.set i ⟨(nth ws i).tags.set 0 (nth (nth ws i).tags ((nth ws i).tags.length-1)),(nth ws i).whr⟩)++[.box [.ref 6 0 ws.length],.arr 2 false 0 []]) ((cbH 6 ws).length+6) 6 (cbE 6 (ws.set i ⟨(nth ws i).tags.set 0 (nth (nth ws i).tags ((nth ws i).tags.length-1)),(nth ws i).whr⟩)) (ws.set i ⟨(nth ws i).tags.set 0 (nth (nth ws i).tags ((nth ws i).tags.length-1)),(nth ws i).whr⟩):=Dm (by simp) (by omega)
 obtain⟨vs,H,fn,fv⟩:=AO hm p1 lb sz aw li (.agg [tI n0,tI n1,tI n2]) at_ pe a1 a2 k1 k2 t0 t1 (.ap 6 0 ws.length i 0) (I 0) (.box [I n0,I n1,I n2]) e.obj x3 x4 x5
 clear Yl lb sz st
 generalize cbH 6 (ws.set i ⟨(nth ws i).tags.set 0 (nth (nth ws i).tags ((nth ws i).tags.length-1)),(nth ws i).whr⟩)++[.box [.ref 6 0 ws.length],.arr 2 false 0 []]=Y' at*
 refine⟨vs,H,?_,fv⟩
 clear hm hs hx hd
 obtain⟨aa,roads⟩:=m
 simp only[ae,smV,K.aB,C.snd]at*
 generalize (List.range (nth ws i).whr.length).map (wEl (fun j=>7+2*ws.length+fR ws i+j) (nth ws i).whr)=WE at*
 generalize cbE 6 ws=E at*
 generalize ints (nth ws i).tags=TG at*
 generalize ints (nth (nth ws i).whr 0).frm=FR at*
 generalize 7+2*ws.length+fR ws i=lfi at*
 generalize 7+2*i=tgi at*
 generalize 8+2*i=wgi at*
 generalize smT ws=Y at*
 generalize (cbH 6 ws).length+6=iB at*
 generalize nth ws i=x at*
 generalize nth x.whr 0=w at*
 simp(disch:=omega)only[go_sem,K.aB,↓reduceIte,go,qb,qm,qt,qw,qf,E1,E2,W1,W2,G1,G2,G3,F1,F2,st2,fn,C.snd,Nat.reduceMul,reduceAdd,reduceSub]
theorem Qv{d:aE}(hd:d.dO){m:aP}(hm:m.ok)(p1:1≤m.aa.length){ws:List World}(hs:(Bel.mk ws).sz)(h20:ws.length≤1000){i:Nat}(hi:i<ws.length)(ht:1≤(nth ws i).tags.length)(hw:1≤(nth ws i).whr.length)(hf:1≤(nth (nth ws i).whr 0).frm.length)
 (htm:0≤(nth (nth ws i).whr 0).time∧(nth (nth ws i).whr 0).time≤2147483648) (aw:aH 0 N.cA [] []=some (B true,[])) (li:T) (n0 n1 n2:Int) (at_ pe a1 a2 k1 k2:Int) (t0: -1000000≤at_) (t1:at_≤1000000000000) (x3 x4 x5:Obj)
 {e:aE} (go:aH 0 N.ax [.bp 0 0,I 7] [d.obj]=some (I 1,[e.obj])):
 ∃vs H,exS aH K.aB.body.snd.snd.snd.snd.snd.snd.snd.snd.snd.snd.snd.snd.snd ⟨smV li (.agg [tI n0,tI n1,tI n2]) at_ pe a1 a2 k1 k2 ((cbH 6 ws).length+6) (.ap 6 0 ws.length i 0) .und,.box [I n0,I n1,I n2]::d.obj:: .box (ae m)::x3::x4::x5::smT ws⟩=some (.ret,⟨vs,H⟩)∧vs[3]?=some (B true):=by
 have hx:=hs.2 _ (af (l:=ws) (j:=i) hi)
 have E1:(cbE 6 ws)[i]?=some (.agg [.ref (7+2*i) 0 (nth ws i).tags.length,.ref (8+2*i) 0 (nth ws i).whr.length]):=rn 6 ws hi
 have E2:=nB 6 ws
 have qb:∀y0 y1 y2:Obj,(y0::y1::y2::x3::x4::x5::smT ws)[(cbH 6 ws).length+6]?=some (.box [.ref 6 0 ws.length]):=fun y0 y1 y2=>FD y0 y1 y2 x3 x4 x5
 have qm:∀y0 y1 y2:Obj,(y0::y1::y2::x3::x4::x5::smT ws)[6]?=some (.arr 2 false 0 (cbE 6 ws)):=fun y0 y1 y2=>FE y0 y1 y2 x3 x4 x5
 have qt:∀y0 y1 y2:Obj,(y0::y1::y2::x3::x4::x5::smT ws)[7+2*i]?=some (.arr 1 false 0 (ints (nth ws i).tags)):=fun y0 y1 y2=>HD hi y0 y1 y2 x3 x4 x5
 have qw:∀y0 y1 y2:Obj,(y0::y1::y2::x3::x4::x5::smT ws)[8+2*i]?=some (.arr 2 false 0 ((List.range (nth ws i).whr.length).map (wEl (fun j=>7+2*ws.length+fR ws i+j) (nth ws i).whr))):=fun y0 y1 y2=>HE hi y0 y1 y2 x3 x4 x5
 have qf:∀y0 y1 y2:Obj,(y0::y1::y2::x3::x4::x5::smT ws)[7+2*ws.length+fR ws i]?=some (.arr 1 false 0 (ints (nth (nth ws i).whr 0).frm)):=fun y0 y1 y2=>(wW hi y0 y1 y2 x3 x4 x5 hw).1
 have lf:=(wW hi x3 x3 x3 x3 x4 x5 hw).2
 have W1:((List.range (nth ws i).whr.length).map (wEl (fun j=>7+2*ws.length+fR ws i+j) (nth ws i).whr))[0]?=some (.agg [I (nth (nth ws i).whr 0).time,.ref (7+2*ws.length+fR ws i) 0 (nth (nth ws i).whr 0).frm.length]):=by
  rw[aLn,aLp (by omega)];rfl
 have W2:((List.range (nth ws i).whr.length).map (wEl (fun j=>7+2*ws.length+fR ws i+j) (nth ws i).whr)).length=(nth ws i).whr.length:=by simp
 have G1:=jz (nth ws i).tags
 have G2:=fk (l:=(nth ws i).tags) (i:=0) (by omega)
 have G3:(ints (nth ws i).tags)[((((nth ws i).tags.length:Nat):Int)-1).toNat]?=some (I (nth (nth ws i).tags ((nth ws i).tags.length-1))):=by
  rw[show((((nth ws i).tags.length:Nat):Int)-1).toNat=(nth ws i).tags.length-1 by omega];exact fk (by omega)
 have F1:=jz (nth (nth ws i).whr 0).frm
 have F2:=fk (l:=(nth (nth ws i).whr 0).frm) (i:=0) (by omega)
 have il:ws.length≤1000000:=by omega
 have tz:=hx.1
 have wz:=hx.2.1
 have sz:=FC hs (i:=i) (x:=⟨(nth ws i).tags.set 0 0,(nth ws i).whr⟩) ⟨by simpa using hx.1,hx.2⟩
 have st:=My 6 ws hi ((nth ws i).tags.set 0 0) (by simp)
 have st2:∀y0 y1 y2:Obj,(y0::y1::y2::x3::x4::x5::smT ws).set (7+2*i) (.arr 1 false 0 ((ints (nth ws i).tags).set 0 (I 0)))=y0::y1::y2::x3::x4::x5::(cbH 6 (ws.set i ⟨(nth ws i).tags.set 0 0,(nth ws i).whr⟩)++[.box [.ref 6 0 ws.length],.arr 2 false 0 []]):=fun y0 y1 y2=>by
  have:=Co st (by omega) [.box [.ref 6 0 ws.length],.arr 2 false 0 []] y0 y1 y2 x3 x4 x5
  rw[← ints_set,show 1+2*i+6=7+2*i by omega]at this
  exact this
 have Yl:(cbH 6 (ws.set i ⟨(nth ws i).tags.set 0 0,(nth ws i).whr⟩)).length=(cbH 6 ws).length:=Dn st
 have lb:LB (cbH 6 (ws.set i ⟨(nth ws i).tags.set 0 0,(nth ws i).whr⟩)++[.box [.ref 6 0 ws.length],.arr 2 false 0 []]) ((cbH 6 ws).length+6) 6 (cbE 6 (ws.set i ⟨(nth ws i).tags.set 0 0,(nth ws i).whr⟩)) (ws.set i ⟨(nth ws i).tags.set 0 0,(nth ws i).whr⟩):=Dm (by simp) (by omega)
 obtain⟨vs,H,fn,fv⟩:=AO hm p1 lb sz aw li (.agg [tI n0,tI n1,tI n2]) at_ pe a1 a2 k1 k2 t0 t1 (.ap 6 0 ws.length i 0) (I 1) (.box [I n0,I n1,I n2]) e.obj x3 x4 x5
 clear Yl lb sz st
 generalize cbH 6 (ws.set i ⟨(nth ws i).tags.set 0 0,(nth ws i).whr⟩)++[.box [.ref 6 0 ws.length],.arr 2 false 0 []]=Y' at*
 refine⟨vs,H,?_,fv⟩
 clear hm hs hx hd
 obtain⟨aa,roads⟩:=m
 simp only[ae,smV,K.aB,C.snd]at*
 generalize (List.range (nth ws i).whr.length).map (wEl (fun j=>7+2*ws.length+fR ws i+j) (nth ws i).whr)=WE at*
 generalize cbE 6 ws=E at*
 generalize ints (nth ws i).tags=TG at*
 generalize ints (nth (nth ws i).whr 0).frm=FR at*
 generalize 7+2*ws.length+fR ws i=lfi at*
 generalize 7+2*i=tgi at*
 generalize 8+2*i=wgi at*
 generalize smT ws=Y at*
 generalize (cbH 6 ws).length+6=iB at*
 generalize nth ws i=x at*
 generalize nth x.whr 0=w at*
 simp(disch:=omega)only[go_sem,K.aB,↓reduceIte,go,qb,qm,qt,qw,qf,E1,E2,W1,W2,G1,G2,G3,F1,F2,st2,fn,C.snd,Nat.reduceMul,reduceAdd,reduceSub]
theorem Qw{d:aE}(hd:d.dO){m:aP}(hm:m.ok)(p1:1≤m.aa.length){ws:List World}(hs:(Bel.mk ws).sz)(h20:ws.length≤1000){i:Nat}(hi:i<ws.length)(ht:1≤(nth ws i).tags.length)(hw:1≤(nth ws i).whr.length)(hf:1≤(nth (nth ws i).whr 0).frm.length)
 (htm:0≤(nth (nth ws i).whr 0).time∧(nth (nth ws i).whr 0).time≤2147483648) (aw:aH 0 N.cA [] []=some (B true,[])) (li:T) (n0 n1 n2:Int) (at_ pe a1 a2 k1 k2:Int) (t0: -1000000≤at_) (t1:at_≤1000000000000) (x3 x4 x5:Obj)
 {e:aE} (go:aH 0 N.ax [.bp 0 0,I 7] [d.obj]=some (I 2,[e.obj])):
 ∃vs H,exS aH K.aB.body.snd.snd.snd.snd.snd.snd.snd.snd.snd.snd.snd.snd.snd ⟨smV li (.agg [tI n0,tI n1,tI n2]) at_ pe a1 a2 k1 k2 ((cbH 6 ws).length+6) (.ap 6 0 ws.length i 0) .und,.box [I n0,I n1,I n2]::d.obj:: .box (ae m)::x3::x4::x5::smT ws⟩=some (.ret,⟨vs,H⟩)∧vs[3]?=some (B true):=by
 have hx:=hs.2 _ (af (l:=ws) (j:=i) hi)
 have E1:(cbE 6 ws)[i]?=some (.agg [.ref (7+2*i) 0 (nth ws i).tags.length,.ref (8+2*i) 0 (nth ws i).whr.length]):=rn 6 ws hi
 have E2:=nB 6 ws
 have qb:∀y0 y1 y2:Obj,(y0::y1::y2::x3::x4::x5::smT ws)[(cbH 6 ws).length+6]?=some (.box [.ref 6 0 ws.length]):=fun y0 y1 y2=>FD y0 y1 y2 x3 x4 x5
 have qm:∀y0 y1 y2:Obj,(y0::y1::y2::x3::x4::x5::smT ws)[6]?=some (.arr 2 false 0 (cbE 6 ws)):=fun y0 y1 y2=>FE y0 y1 y2 x3 x4 x5
 have qt:∀y0 y1 y2:Obj,(y0::y1::y2::x3::x4::x5::smT ws)[7+2*i]?=some (.arr 1 false 0 (ints (nth ws i).tags)):=fun y0 y1 y2=>HD hi y0 y1 y2 x3 x4 x5
 have qw:∀y0 y1 y2:Obj,(y0::y1::y2::x3::x4::x5::smT ws)[8+2*i]?=some (.arr 2 false 0 ((List.range (nth ws i).whr.length).map (wEl (fun j=>7+2*ws.length+fR ws i+j) (nth ws i).whr))):=fun y0 y1 y2=>HE hi y0 y1 y2 x3 x4 x5
 have qf:∀y0 y1 y2:Obj,(y0::y1::y2::x3::x4::x5::smT ws)[7+2*ws.length+fR ws i]?=some (.arr 1 false 0 (ints (nth (nth ws i).whr 0).frm)):=fun y0 y1 y2=>(wW hi y0 y1 y2 x3 x4 x5 hw).1
 have lf:=(wW hi x3 x3 x3 x3 x4 x5 hw).2
 have W1:((List.range (nth ws i).whr.length).map (wEl (fun j=>7+2*ws.length+fR ws i+j) (nth ws i).whr))[0]?=some (.agg [I (nth (nth ws i).whr 0).time,.ref (7+2*ws.length+fR ws i) 0 (nth (nth ws i).whr 0).frm.length]):=by
  rw[aLn,aLp (by omega)];rfl
 have W2:((List.range (nth ws i).whr.length).map (wEl (fun j=>7+2*ws.length+fR ws i+j) (nth ws i).whr)).length=(nth ws i).whr.length:=by simp
 have G1:=jz (nth ws i).tags
 have G2:=fk (l:=(nth ws i).tags) (i:=0) (by omega)
 have G3:(ints (nth ws i).tags)[((((nth ws i).tags.length:Nat):Int)-1).toNat]?=some (I (nth (nth ws i).tags ((nth ws i).tags.length-1))):=by
  rw[show((((nth ws i).tags.length:Nat):Int)-1).toNat=(nth ws i).tags.length-1 by omega];exact fk (by omega)
 have F1:=jz (nth (nth ws i).whr 0).frm
 have F2:=fk (l:=(nth (nth ws i).whr 0).frm) (i:=0) (by omega)
 have il:ws.length≤1000000:=by omega
 have tz:=hx.1
 have wz:=hx.2.1
 have sz:=FC hs (i:=i) (x:=⟨(nth ws i).tags,(nth ws i).whr.set 0 ⟨(nth (nth ws i).whr 0).time+1,(nth (nth ws i).whr 0).frm⟩⟩) ⟨hx.1,by simpa using hx.2.1,fun u hu=>by rcases aLk hu with h | h;exact hx.2.2 u h;subst h;have q:=hx.2.2 _ (af (l:=(nth ws i).whr) (j:=0) (by omega));exact q⟩
 have st:=UJ 6 ws hi (by omega) ((nth (nth ws i).whr 0).time+1)
 have st2:∀y0 y1 y2:Obj,(y0::y1::y2::x3::x4::x5::smT ws).set (8+2*i) (.arr 2 false 0 (((List.range (nth ws i).whr.length).map (wEl (fun j=>7+2*ws.length+fR ws i+j) (nth ws i).whr)).set 0 (.agg [I ((nth (nth ws i).whr 0).time+1),.ref (7+2*ws.length+fR ws i) 0 (nth (nth ws i).whr 0).frm.length])))=y0::y1::y2::x3::x4::x5::(cbH 6 (ws.set i ⟨(nth ws i).tags,(nth ws i).whr.set 0 ⟨(nth (nth ws i).whr 0).time+1,(nth (nth ws i).whr 0).frm⟩⟩)++[.box [.ref 6 0 ws.length],.arr 2 false 0 []]):=fun y0 y1 y2=>by
  have:=Co st (by omega) [.box [.ref 6 0 ws.length],.arr 2 false 0 []] y0 y1 y2 x3 x4 x5
  rw[show 2+2*i+6=8+2*i by omega]at this
  exact this
 have Yl:(cbH 6 (ws.set i ⟨(nth ws i).tags,(nth ws i).whr.set 0 ⟨(nth (nth ws i).whr 0).time+1,(nth (nth ws i).whr 0).frm⟩⟩)).length=(cbH 6 ws).length:=Dn st
 have lb:LB (cbH 6 (ws.set i ⟨(nth ws i).tags,(nth ws i).whr.set 0 ⟨(nth (nth ws i).whr 0).time+1,(nth (nth ws i).whr 0).frm⟩⟩)++[.box [.ref 6 0 ws.length],.arr 2 false 0 []]) ((cbH 6 ws).length+6) 6 (cbE 6 (ws.set i ⟨(nth ws i).tags,(nth ws i).whr.set 0 ⟨(nth (nth ws i).whr 0).time+1,(nth (nth ws i).whr 0).frm⟩⟩)) (ws.set i ⟨(nth ws i).tags,(nth ws i).whr.set 0 ⟨(nth (nth ws i).whr 0).time+1,(nth (nth ws i).whr 0).frm⟩⟩):=Dm (by simp) (by omega)
 obtain⟨vs,H,fn,fv⟩:=AO hm p1 lb sz aw li (.agg [tI n0,tI n1,tI n2]) at_ pe a1 a2 k1 k2 t0 t1 (.ap 6 0 ws.length i 0) (I 2) (.box [I n0,I n1,I n2]) e.obj x3 x4 x5
 clear Yl lb sz st
 generalize cbH 6 (ws.set i ⟨(nth ws i).tags,(nth ws i).whr.set 0 ⟨(nth (nth ws i).whr 0).time+1,(nth (nth ws i).whr 0).frm⟩⟩)++[.box [.ref 6 0 ws.length],.arr 2 false 0 []]=Y' at*
 refine⟨vs,H,?_,fv⟩
 clear hm hs hx hd
 obtain⟨aa,roads⟩:=m
 simp only[ae,smV,K.aB,C.snd]at*
 generalize (List.range (nth ws i).whr.length).map (wEl (fun j=>7+2*ws.length+fR ws i+j) (nth ws i).whr)=WE at*
 generalize cbE 6 ws=E at*
 generalize ints (nth ws i).tags=TG at*
 generalize ints (nth (nth ws i).whr 0).frm=FR at*
 generalize 7+2*ws.length+fR ws i=lfi at*
 generalize 7+2*i=tgi at*
 generalize 8+2*i=wgi at*
 generalize smT ws=Y at*
 generalize (cbH 6 ws).length+6=iB at*
 generalize nth ws i=x at*
 generalize nth x.whr 0=w at*
 simp(disch:=omega)only[go_sem,K.aB,↓reduceIte,go,qb,qm,qt,qw,qf,E1,E2,W1,W2,G1,G2,G3,F1,F2,st2,fn,C.snd,Nat.reduceMul,reduceAdd,reduceSub]
theorem Qx{d:aE}(hd:d.dO){m:aP}(hm:m.ok)(p1:1≤m.aa.length){ws:List World}(hs:(Bel.mk ws).sz)(h20:ws.length≤1000){i:Nat}(hi:i<ws.length)(ht:1≤(nth ws i).tags.length)(hw:1≤(nth ws i).whr.length)(hf:1≤(nth (nth ws i).whr 0).frm.length)
 (htm:0≤(nth (nth ws i).whr 0).time∧(nth (nth ws i).whr 0).time≤2147483648) (aw:aH 0 N.cA [] []=some (B true,[])) (li:T) (n0 n1 n2:Int) (at_ pe a1 a2 k1 k2:Int) (t0: -1000000≤at_) (t1:at_≤1000000000000) (x3 x4 x5:Obj)
 {e:aE} (go:aH 0 N.ax [.bp 0 0,I 7] [d.obj]=some (I 3,[e.obj])):
 ∃vs H,exS aH K.aB.body.snd.snd.snd.snd.snd.snd.snd.snd.snd.snd.snd.snd.snd ⟨smV li (.agg [tI n0,tI n1,tI n2]) at_ pe a1 a2 k1 k2 ((cbH 6 ws).length+6) (.ap 6 0 ws.length i 0) .und,.box [I n0,I n1,I n2]::d.obj:: .box (ae m)::x3::x4::x5::smT ws⟩=some (.ret,⟨vs,H⟩)∧vs[3]?=some (B true):=by
 have hx:=hs.2 _ (af (l:=ws) (j:=i) hi)
 have E1:(cbE 6 ws)[i]?=some (.agg [.ref (7+2*i) 0 (nth ws i).tags.length,.ref (8+2*i) 0 (nth ws i).whr.length]):=rn 6 ws hi
 have E2:=nB 6 ws
 have qb:∀y0 y1 y2:Obj,(y0::y1::y2::x3::x4::x5::smT ws)[(cbH 6 ws).length+6]?=some (.box [.ref 6 0 ws.length]):=fun y0 y1 y2=>FD y0 y1 y2 x3 x4 x5
 have qm:∀y0 y1 y2:Obj,(y0::y1::y2::x3::x4::x5::smT ws)[6]?=some (.arr 2 false 0 (cbE 6 ws)):=fun y0 y1 y2=>FE y0 y1 y2 x3 x4 x5
 have qt:∀y0 y1 y2:Obj,(y0::y1::y2::x3::x4::x5::smT ws)[7+2*i]?=some (.arr 1 false 0 (ints (nth ws i).tags)):=fun y0 y1 y2=>HD hi y0 y1 y2 x3 x4 x5
 have qw:∀y0 y1 y2:Obj,(y0::y1::y2::x3::x4::x5::smT ws)[8+2*i]?=some (.arr 2 false 0 ((List.range (nth ws i).whr.length).map (wEl (fun j=>7+2*ws.length+fR ws i+j) (nth ws i).whr))):=fun y0 y1 y2=>HE hi y0 y1 y2 x3 x4 x5
 have qf:∀y0 y1 y2:Obj,(y0::y1::y2::x3::x4::x5::smT ws)[7+2*ws.length+fR ws i]?=some (.arr 1 false 0 (ints (nth (nth ws i).whr 0).frm)):=fun y0 y1 y2=>(wW hi y0 y1 y2 x3 x4 x5 hw).1
 have lf:=(wW hi x3 x3 x3 x3 x4 x5 hw).2
 have W1:((List.range (nth ws i).whr.length).map (wEl (fun j=>7+2*ws.length+fR ws i+j) (nth ws i).whr))[0]?=some (.agg [I (nth (nth ws i).whr 0).time,.ref (7+2*ws.length+fR ws i) 0 (nth (nth ws i).whr 0).frm.length]):=by
  rw[aLn,aLp (by omega)];rfl
 have W2:((List.range (nth ws i).whr.length).map (wEl (fun j=>7+2*ws.length+fR ws i+j) (nth ws i).whr)).length=(nth ws i).whr.length:=by simp
 have G1:=jz (nth ws i).tags
 have G2:=fk (l:=(nth ws i).tags) (i:=0) (by omega)
 have G3:(ints (nth ws i).tags)[((((nth ws i).tags.length:Nat):Int)-1).toNat]?=some (I (nth (nth ws i).tags ((nth ws i).tags.length-1))):=by
  rw[show((((nth ws i).tags.length:Nat):Int)-1).toNat=(nth ws i).tags.length-1 by omega];exact fk (by omega)
 have F1:=jz (nth (nth ws i).whr 0).frm
 have F2:=fk (l:=(nth (nth ws i).whr 0).frm) (i:=0) (by omega)
 have il:ws.length≤1000000:=by omega
 have tz:=hx.1
 have wz:=hx.2.1
 have sz:=FC hs (i:=i) (x:=⟨(nth ws i).tags,(nth ws i).whr.set 0 ⟨(nth (nth ws i).whr 0).time,(nth (nth ws i).whr 0).frm.set 0 n0⟩⟩) ⟨hx.1,by simpa using hx.2.1,fun u hu=>by rcases aLk hu with h | h;exact hx.2.2 u h;subst h;simpa using hx.2.2 _ (af (l:=(nth ws i).whr) (j:=0) (by omega))⟩
 have st:=UI 6 ws hi (j:=0) (by omega) ((nth (nth ws i).whr 0).frm.set 0 n0) (by simp)
 have st2:∀y0 y1 y2:Obj,(y0::y1::y2::x3::x4::x5::smT ws).set (7+2*ws.length+fR ws i) (.arr 1 false 0 ((ints (nth (nth ws i).whr 0).frm).set 0 (I n0)))=y0::y1::y2::x3::x4::x5::(cbH 6 (ws.set i ⟨(nth ws i).tags,(nth ws i).whr.set 0 ⟨(nth (nth ws i).whr 0).time,(nth (nth ws i).whr 0).frm.set 0 n0⟩⟩)++[.box [.ref 6 0 ws.length],.arr 2 false 0 []]):=fun y0 y1 y2=>by
  have:=Co st (by omega) [.box [.ref 6 0 ws.length],.arr 2 false 0 []] y0 y1 y2 x3 x4 x5
  rw[← ints_set,show 1+2*ws.length+fR ws i+0+6=7+2*ws.length+fR ws i by omega]at this
  exact this
 have Yl:(cbH 6 (ws.set i ⟨(nth ws i).tags,(nth ws i).whr.set 0 ⟨(nth (nth ws i).whr 0).time,(nth (nth ws i).whr 0).frm.set 0 n0⟩⟩)).length=(cbH 6 ws).length:=Dn st
 have lb:LB (cbH 6 (ws.set i ⟨(nth ws i).tags,(nth ws i).whr.set 0 ⟨(nth (nth ws i).whr 0).time,(nth (nth ws i).whr 0).frm.set 0 n0⟩⟩)++[.box [.ref 6 0 ws.length],.arr 2 false 0 []]) ((cbH 6 ws).length+6) 6 (cbE 6 (ws.set i ⟨(nth ws i).tags,(nth ws i).whr.set 0 ⟨(nth (nth ws i).whr 0).time,(nth (nth ws i).whr 0).frm.set 0 n0⟩⟩)) (ws.set i ⟨(nth ws i).tags,(nth ws i).whr.set 0 ⟨(nth (nth ws i).whr 0).time,(nth (nth ws i).whr 0).frm.set 0 n0⟩⟩):=Dm (by simp) (by omega)
 obtain⟨vs,H,fn,fv⟩:=AO hm p1 lb sz aw li (.agg [tI n0,tI n1,tI n2]) at_ pe a1 a2 k1 k2 t0 t1 (.ap 6 0 ws.length i 0) (I 3) (.box [I n0,I n1,I n2]) e.obj x3 x4 x5
 clear Yl lb sz st
 generalize cbH 6 (ws.set i ⟨(nth ws i).tags,(nth ws i).whr.set 0 ⟨(nth (nth ws i).whr 0).time,(nth (nth ws i).whr 0).frm.set 0 n0⟩⟩)++[.box [.ref 6 0 ws.length],.arr 2 false 0 []]=Y' at*
 refine⟨vs,H,?_,fv⟩
 clear hm hs hx hd
 obtain⟨aa,roads⟩:=m
 simp only[ae,smV,K.aB,C.snd]at*
 generalize (List.range (nth ws i).whr.length).map (wEl (fun j=>7+2*ws.length+fR ws i+j) (nth ws i).whr)=WE at*
 generalize cbE 6 ws=E at*
 generalize ints (nth ws i).tags=TG at*
 generalize ints (nth (nth ws i).whr 0).frm=FR at*
 generalize 7+2*ws.length+fR ws i=lfi at*
 generalize 7+2*i=tgi at*
 generalize 8+2*i=wgi at*
 generalize smT ws=Y at*
 generalize (cbH 6 ws).length+6=iB at*
 generalize nth ws i=x at*
 generalize nth x.whr 0=w at*
 simp(disch:=omega)only[go_sem,K.aB,↓reduceIte,go,qb,qm,qt,qw,qf,E1,E2,W1,W2,G1,G2,G3,F1,F2,st2,fn,C.snd,Nat.reduceMul,reduceAdd,reduceSub]
theorem Qy{H:ah}{n:Nat}{E:List D}{ts:List T}{d:D}{t:T}(h1:bf (frz H n) E=some ts)(h2:frz H n d=some t):bf (frz H n) (E++[d])=some (ts++[t]):=by
 have:∀(E:List D) (ts:List T),bf (frz H n) E=some ts→bf (frz H n) (E++[d])=some (ts++[t]):=by
  intro E
  induction E with
  | nil=>intro ts h;cases h;simp only[List.nil_append,bf,h2,aLq,aLw]
  | cons a r ih=>
    intro ts h
    simp only[bf]at h
    cases ha:frz H n a with
    | none=>rw[ha]at h;simp at h
    | some x=>
      rw[ha,aLq]at h
      cases hr:bf (frz H n) r with
      | none=>rw[hr]at h;simp at h
      | some z=>
        rw[hr]at h
        simp only[aLw,Option.some.injEq]at h
        subst h
        simp only[List.cons_append,bf,ha,aLq,ih z hr,aLw]
 exact this E ts h1
theorem Ji{H:ah}{n:Nat}{d:D}{t:T}(h2:frz H n d=some t):∀ {E:List D} {ts:List T} {i:Nat},bf (frz H n) E=some ts→bf (frz H n) (E.set i d)=some (ts.set i t)
 | [],ts,i,h=>by cases h;rfl
 | a::r,ts,i,h=>by
   simp only[bf]at h
   cases ha:frz H n a with
   | none=>rw[ha]at h;simp at h
   | some x=>
     rw[ha,aLq]at h
     cases hr:bf (frz H n) r with
     | none=>rw[hr]at h;simp at h
     | some z=>
       rw[hr]at h
       simp only[aLw,Option.some.injEq]at h
       subst h
       cases i with
       | zero=>simp only[List.set_cons_zero,bf,h2,hr,aLq,aLw]
       | succ i=>simp only[List.set_cons_succ,bf,ha,aLq,Ji h2 (i:=i) hr,aLw]
theorem Jj(P t:ah)(ws:List World)(o:Obj){k:Nat}(hP:P.length=6)(hk:k≠6):(P++((cbH 6 ws).set 0 o++t))[k]?=(P++(cbH 6 ws++t))[k]?:=by
 have e:P++((cbH 6 ws).set 0 o++t)=(P++(cbH 6 ws++t)).set 6 o:=by
  rw[List.set_append_right _ _ (by omega),show 6-P.length=0 by omega,List.set_append_left _ _ (by simp[cbH])]
 rw[e,aLi (fun h=>hk h.symm)]
theorem Jk(P t:ah)(ws:List World)(o:Obj)(hP:P.length=6):(bf (frz (P++((cbH 6 ws).set 0 o++t)) 6) (cbE 6 ws)=some (ws.map World.e))∧∀i,i<ws.length→
 frz (P++((cbH 6 ws).set 0 o++t)) 5 (.ref (7+2*i) 0 (nth ws i).tags.length)=some (tL (nth ws i).tags)∧bf (frz (P++((cbH 6 ws).set 0 o++t)) 4) ((List.range (nth ws i).whr.length).map (wEl (fun j=>7+2*ws.length+fR ws i+j) (nth ws i).whr))=some ((nth ws i).whr.map Wh.e)∧
 (P++((cbH 6 ws).set 0 o++t))[8+2*i]?=some (.arr 2 false 0 ((List.range (nth ws i).whr.length).map (wEl (fun j=>7+2*ws.length+fR ws i+j) (nth ws i).whr)))∧
 frz (P++((cbH 6 ws).set 0 o++t)) 6 (.agg [.ref (7+2*i) 0 (nth ws i).tags.length,.ref (8+2*i) 0 (nth ws i).whr.length])=some (nth ws i).e:=by
 have h1:∀k,k<2*ws.length→(P++((cbH 6 ws).set 0 o++t))[6+1+k]?=some (A2 6 ws k):=fun k hk=>by
  rw[Jj P t ws o hP (by omega)]
  have:=C4 P t 6 ws hk
  rw[hP]at this
  exact this
 have h2:∀i j,i<ws.length→j<(nth ws i).whr.length→(P++((cbH 6 ws).set 0 o++t))[6+1+2*ws.length+fR ws i+j]?=some (wOb (nth (nth ws i).whr j)):=fun i j hi hj=>by
  rw[Jj P t ws o hP (by omega)]
  have:=C5 P t 6 ws hi hj
  rw[hP]at this
  exact this
 have key:bf (frz (P++((cbH 6 ws).set 0 o++t)) 6) ((List.range ws.length).map (B4 (fun i=>(6+1+2*i,6+2+2*i)) ws))=some ((List.range ws.length).map (fun i=>(nth ws i).e)):=j7 fun i hi=>(Hd h1 h2 (aLu.1 hi)).2.2.2
 rw[zp (fun y:World=>y.e)]at key
 exact⟨key,fun i hi=>Hd h1 h2 hi⟩
theorem Cp{α β:Type}{f:α→Option β}:∀ {l:List α} {r:List β},bf f l=some r→∀k,bf f (l.take k)=some (r.take k)
 | [],r,h,k=>by cases h;simp[bf]
 | a::l,r,h,k=>by
   simp only[bf]at h
   cases ha:f a with
   | none=>rw[ha]at h;simp at h
   | some x=>
     rw[ha,aLq]at h
     cases hr:bf f l with
     | none=>rw[hr]at h;simp at h
     | some z=>
       rw[hr]at h
       simp only[aLw,Option.some.injEq]at h
       subst h
       cases k with
       | zero=>rfl
       | succ k=>simp only[List.take_succ_cons,bf,ha,aLq,Cp hr k,aLw]
theorem Qz{d:aE}(hd:d.dO){m:aP}(hm:m.ok)(p1:1≤m.aa.length){ws:List World}(hs:(Bel.mk ws).sz)(h20:ws.length≤1000){i:Nat}(hi:i<ws.length)(ht:1≤(nth ws i).tags.length)(hw:1≤(nth ws i).whr.length)(hf:1≤(nth (nth ws i).whr 0).frm.length)
 (htm:0≤(nth (nth ws i).whr 0).time∧(nth (nth ws i).whr 0).time≤2147483648) (aw:aH 0 N.cA [] []=some (B true,[])) (li:T) (n0 n1 n2:Int) (at_ pe a1 a2 k1 k2:Int) (t0: -1000000≤at_) (t1:at_≤1000000000000) (x3 x4 x5:Obj)
 {e:aE} (go:aH 0 N.ax [.bp 0 0,I 7] [d.obj]=some (I 4,[e.obj])):
 ∃vs H,exS aH K.aB.body.snd.snd.snd.snd.snd.snd.snd.snd.snd.snd.snd.snd.snd ⟨smV li (.agg [tI n0,tI n1,tI n2]) at_ pe a1 a2 k1 k2 ((cbH 6 ws).length+6) (.ap 6 0 ws.length i 0) .und,.box [I n0,I n1,I n2]::d.obj:: .box (ae m)::x3::x4::x5::smT ws⟩=some (.ret,⟨vs,H⟩)∧vs[3]?=some (B true):=by
 have hx:=hs.2 _ (af (l:=ws) (j:=i) hi)
 have E1:(cbE 6 ws)[i]?=some (.agg [.ref (7+2*i) 0 (nth ws i).tags.length,.ref (8+2*i) 0 (nth ws i).whr.length]):=rn 6 ws hi
 have E2:=nB 6 ws
 have qb:∀y0 y1 y2:Obj,(y0::y1::y2::x3::x4::x5::smT ws)[(cbH 6 ws).length+6]?=some (.box [.ref 6 0 ws.length]):=fun y0 y1 y2=>FD y0 y1 y2 x3 x4 x5
 have qm:∀y0 y1 y2:Obj,(y0::y1::y2::x3::x4::x5::smT ws)[6]?=some (.arr 2 false 0 (cbE 6 ws)):=fun y0 y1 y2=>FE y0 y1 y2 x3 x4 x5
 have qt:∀y0 y1 y2:Obj,(y0::y1::y2::x3::x4::x5::smT ws)[7+2*i]?=some (.arr 1 false 0 (ints (nth ws i).tags)):=fun y0 y1 y2=>HD hi y0 y1 y2 x3 x4 x5
 have qw:∀y0 y1 y2:Obj,(y0::y1::y2::x3::x4::x5::smT ws)[8+2*i]?=some (.arr 2 false 0 ((List.range (nth ws i).whr.length).map (wEl (fun j=>7+2*ws.length+fR ws i+j) (nth ws i).whr))):=fun y0 y1 y2=>HE hi y0 y1 y2 x3 x4 x5
 have qf:∀y0 y1 y2:Obj,(y0::y1::y2::x3::x4::x5::smT ws)[7+2*ws.length+fR ws i]?=some (.arr 1 false 0 (ints (nth (nth ws i).whr 0).frm)):=fun y0 y1 y2=>(wW hi y0 y1 y2 x3 x4 x5 hw).1
 have lf:=(wW hi x3 x3 x3 x3 x4 x5 hw).2
 have W1:((List.range (nth ws i).whr.length).map (wEl (fun j=>7+2*ws.length+fR ws i+j) (nth ws i).whr))[0]?=some (.agg [I (nth (nth ws i).whr 0).time,.ref (7+2*ws.length+fR ws i) 0 (nth (nth ws i).whr 0).frm.length]):=by
  rw[aLn,aLp (by omega)];rfl
 have W2:((List.range (nth ws i).whr.length).map (wEl (fun j=>7+2*ws.length+fR ws i+j) (nth ws i).whr)).length=(nth ws i).whr.length:=by simp
 have G1:=jz (nth ws i).tags
 have G2:=fk (l:=(nth ws i).tags) (i:=0) (by omega)
 have G3:(ints (nth ws i).tags)[((((nth ws i).tags.length:Nat):Int)-1).toNat]?=some (I (nth (nth ws i).tags ((nth ws i).tags.length-1))):=by
  rw[show((((nth ws i).tags.length:Nat):Int)-1).toNat=(nth ws i).tags.length-1 by omega];exact fk (by omega)
 have F1:=jz (nth (nth ws i).whr 0).frm
 have F2:=fk (l:=(nth (nth ws i).whr 0).frm) (i:=0) (by omega)
 have il:ws.length≤1000000:=by omega
 have tz:=hx.1
 have wz:=hx.2.1
 have E0:(cbE 6 ws)[0]?=some (.agg [.ref 7 0 (nth ws 0).tags.length,.ref 8 0 (nth ws 0).whr.length]):=rn 6 ws (i:=0) (by omega)
 have ob:(Obj.arr 2 false 0 [(.agg [.ref 7 0 (nth ws 0).tags.length,.ref 8 0 (nth ws 0).whr.length])])= .arr 2 false 0 [(.agg [.ref 7 0 (nth ws 0).tags.length,.ref 8 0 (nth ws 0).whr.length])]:=rfl
 generalize hE':cbE 6 ws++[(.agg [.ref 7 0 (nth ws 0).tags.length,.ref 8 0 (nth ws 0).whr.length])]=E' at*
 generalize hY2:(cbH 6 ws).set 0 (.arr 2 false 0 E')++([.box [.ref 6 0 ws.length],.arr 2 false 0 []]++[.arr 2 false 0 [(.agg [.ref 7 0 (nth ws 0).tags.length,.ref 8 0 (nth ws 0).whr.length])]])=Y2 at*
 generalize hY':(cbH 6 ws).set 0 (.arr 2 false 0 E')++([.box [.ref 6 0 (ws.length+1)],.arr 2 false 0 []]++[.arr 2 false 0 [(.agg [.ref 7 0 (nth ws 0).tags.length,.ref 8 0 (nth ws 0).whr.length])]])=Y' at*
 have c0:0<(cbH 6 ws).length:=by simp[cbH]
 have cl:((cbH 6 ws).set 0 (.arr 2 false 0 E')).length=(cbH 6 ws).length:=by simp
 have qb2:∀y0 y1 y2 o:Obj,(y0::y1::y2::x3::x4::x5::(smT ws++[o]))[(cbH 6 ws).length+6]?=some (.box [.ref 6 0 ws.length]):=fun y0 y1 y2 o=>yG (cbH 6 ws) (.box [.ref 6 0 ws.length]) (.arr 2 false 0 []) [y0,y1,y2,x3,x4,x5] [o] rfl rfl
 have qm2:∀y0 y1 y2 o:Obj,(y0::y1::y2::x3::x4::x5::(smT ws++[o]))[6]?=some (.arr 2 false 0 (cbE 6 ws)):=fun y0 y1 y2 o=>by
  have:=Hc [y0,y1,y2,x3,x4,x5] ([.box [.ref 6 0 ws.length],.arr 2 false 0 []]++[o]) 6 ws
  rw[← List.append_assoc]at this
  exact this
 have st2:∀y0 y1 y2:Obj,(y0::y1::y2::x3::x4::x5::(smT ws++[.arr 2 false 0 [(.agg [.ref 7 0 (nth ws 0).tags.length,.ref 8 0 (nth ws 0).whr.length])]])).set 6 (.arr 2 false 0 E')=y0::y1::y2::x3::x4::x5::Y2:=fun y0 y1 y2=>by
  have:=Co (X:=cbH 6 ws) (k:=0) (o:= .arr 2 false 0 E') rfl c0 ([.box [.ref 6 0 ws.length],.arr 2 false 0 []]++[.arr 2 false 0 [(.agg [.ref 7 0 (nth ws 0).tags.length,.ref 8 0 (nth ws 0).whr.length])]]) y0 y1 y2 x3 x4 x5
  rw[hY2,←List.append_assoc]at this
  exact this
 have qb3:∀y0 y1 y2:Obj,(y0::y1::y2::x3::x4::x5::Y2)[(cbH 6 ws).length+6]?=some (.box [.ref 6 0 ws.length]):=fun y0 y1 y2=>by
  rw[← hY2,←List.append_assoc]
  exact yG ((cbH 6 ws).set 0 (.arr 2 false 0 E')) (.box [.ref 6 0 ws.length]) (.arr 2 false 0 []) [y0,y1,y2,x3,x4,x5] [.arr 2 false 0 [(.agg [.ref 7 0 (nth ws 0).tags.length,.ref 8 0 (nth ws 0).whr.length])]] rfl (by omega)
 have st3:∀y0 y1 y2:Obj,(y0::y1::y2::x3::x4::x5::Y2).set ((cbH 6 ws).length+6) (.box [.ref 6 0 (ws.length+1)])=y0::y1::y2::x3::x4::x5::Y':=fun y0 y1 y2=>by
  rw[← hY2,←hY',show(cbH 6 ws).length+6=(cbH 6 ws).length+1+1+1+1+1+1 by omega,List.set_cons_succ,List.set_cons_succ,List.set_cons_succ,List.set_cons_succ,List.set_cons_succ,List.set_cons_succ,List.set_append_right _ _ (by omega),cl,Nat.sub_self];rfl
 have lb:LB Y' ((cbH 6 ws).length+6) 6 E' (ws++[nth ws 0]):=by
  refine⟨fun P t hP=>?_,fun P t hP=>?_,fun P t hP=>?_,by rw[← hE'];simp[nB]⟩
  · have ea:∀A B C t:ah,A++(B++C)++t=(A++B)++(C++t):=fun A B C t=>by simp only[List.append_assoc]
    rw[← hY',ea,aLv]
    have:=yG ((cbH 6 ws).set 0 (.arr 2 false 0 E')) (.box [.ref 6 0 (ws.length+1)]) (.arr 2 false 0 []) P ([.arr 2 false 0 [(.agg [.ref 7 0 (nth ws 0).tags.length,.ref 8 0 (nth ws 0).whr.length])]]++t) hP (iB:=(cbH 6 ws).length+6) (by omega)
    exact this
  · rw[← hY',List.append_assoc,aLh (by omega),show 6-P.length=0 by omega,aLg (by simp[cbH]),aLj c0]
  · rw[← hY',List.append_assoc,←hE']
    have q:=Jk P (([.box [.ref 6 0 (ws.length+1)],.arr 2 false 0 []]++[.arr 2 false 0 [(.agg [.ref 7 0 (nth ws 0).tags.length,.ref 8 0 (nth ws 0).whr.length])]])++t) ws (.arr 2 false 0 (cbE 6 ws++[(.agg [.ref 7 0 (nth ws 0).tags.length,.ref 8 0 (nth ws 0).whr.length])])) hP
    have:=Qy q.1 (q.2 0 (by omega)).2.2.2
    rw[List.map_append]
    exact this
 have sz:(Bel.mk (ws++[nth ws 0])).sz:=⟨by simp;omega,fun y hy=>by
  rcases List.mem_append.1 hy with h | h
  · exact hs.2 y h
  · rw[List.mem_singleton.1 h];exact hs.2 _ (af (l:=ws) (j:=0) (by omega))⟩
 have E3:E'.length=ws.length+1:=by rw[← hE'];simp[nB]
 obtain⟨vs,H,fn,fv⟩:=AO hm p1 lb sz aw li (.agg [tI n0,tI n1,tI n2]) at_ pe a1 a2 k1 k2 t0 t1 (.ap 6 0 ws.length i 0) (I 4) (.box [I n0,I n1,I n2]) e.obj x3 x4 x5
 clear lb sz hY' hY2 cl c0
 refine⟨vs,H,?_,fv⟩
 clear hm hs hx hd
 obtain⟨aa,roads⟩:=m
 simp only[ae,smV,K.aB,C.snd]at*
 generalize (List.range (nth ws i).whr.length).map (wEl (fun j=>7+2*ws.length+fR ws i+j) (nth ws i).whr)=WE at*
 generalize cbE 6 ws=E at*
 generalize ints (nth ws i).tags=TG at*
 generalize ints (nth (nth ws i).whr 0).frm=FR at*
 generalize 7+2*ws.length+fR ws i=lfi at*
 generalize 7+2*i=tgi at*
 generalize 8+2*i=wgi at*
 generalize smT ws=Y at*
 generalize (cbH 6 ws).length+6=iB at*
 generalize nth ws i=x at*
 generalize nth x.whr 0=w at*
 simp(disch:=omega)only[go_sem,K.aB,↓reduceIte,go,qb,qm,qb2,qm2,qb3,E0,E1,E2,E3,hE',st2,st3,fn,C.snd,Nat.reduceMul,dQ,reduceAdd,reduceSub]
theorem QA{d:aE}(hd:d.dO){m:aP}(hm:m.ok)(p1:1≤m.aa.length){ws:List World}(hs:(Bel.mk ws).sz)(h20:ws.length≤1000){i:Nat}(hi:i<ws.length)(ht:1≤(nth ws i).tags.length)(hw:1≤(nth ws i).whr.length)(hf:1≤(nth (nth ws i).whr 0).frm.length)
 (htm:0≤(nth (nth ws i).whr 0).time∧(nth (nth ws i).whr 0).time≤2147483648) (aw:aH 0 N.cA [] []=some (B true,[])) (li:T) (n0 n1 n2:Int) (at_ pe a1 a2 k1 k2:Int) (t0: -1000000≤at_) (t1:at_≤1000000000000) (x3 x4 x5:Obj)
 {e:aE} (go:aH 0 N.ax [.bp 0 0,I 7] [d.obj]=some (I 5,[e.obj])):
 ∃vs H,exS aH K.aB.body.snd.snd.snd.snd.snd.snd.snd.snd.snd.snd.snd.snd.snd ⟨smV li (.agg [tI n0,tI n1,tI n2]) at_ pe a1 a2 k1 k2 ((cbH 6 ws).length+6) (.ap 6 0 ws.length i 0) .und,.box [I n0,I n1,I n2]::d.obj:: .box (ae m)::x3::x4::x5::smT ws⟩=some (.ret,⟨vs,H⟩)∧vs[3]?=some (B true):=by
 have hx:=hs.2 _ (af (l:=ws) (j:=i) hi)
 have E1:(cbE 6 ws)[i]?=some (.agg [.ref (7+2*i) 0 (nth ws i).tags.length,.ref (8+2*i) 0 (nth ws i).whr.length]):=rn 6 ws hi
 have E2:=nB 6 ws
 have qb:∀y0 y1 y2:Obj,(y0::y1::y2::x3::x4::x5::smT ws)[(cbH 6 ws).length+6]?=some (.box [.ref 6 0 ws.length]):=fun y0 y1 y2=>FD y0 y1 y2 x3 x4 x5
 have qm:∀y0 y1 y2:Obj,(y0::y1::y2::x3::x4::x5::smT ws)[6]?=some (.arr 2 false 0 (cbE 6 ws)):=fun y0 y1 y2=>FE y0 y1 y2 x3 x4 x5
 have qt:∀y0 y1 y2:Obj,(y0::y1::y2::x3::x4::x5::smT ws)[7+2*i]?=some (.arr 1 false 0 (ints (nth ws i).tags)):=fun y0 y1 y2=>HD hi y0 y1 y2 x3 x4 x5
 have qw:∀y0 y1 y2:Obj,(y0::y1::y2::x3::x4::x5::smT ws)[8+2*i]?=some (.arr 2 false 0 ((List.range (nth ws i).whr.length).map (wEl (fun j=>7+2*ws.length+fR ws i+j) (nth ws i).whr))):=fun y0 y1 y2=>HE hi y0 y1 y2 x3 x4 x5
 have qf:∀y0 y1 y2:Obj,(y0::y1::y2::x3::x4::x5::smT ws)[7+2*ws.length+fR ws i]?=some (.arr 1 false 0 (ints (nth (nth ws i).whr 0).frm)):=fun y0 y1 y2=>(wW hi y0 y1 y2 x3 x4 x5 hw).1
 have lf:=(wW hi x3 x3 x3 x3 x4 x5 hw).2
 have W1:((List.range (nth ws i).whr.length).map (wEl (fun j=>7+2*ws.length+fR ws i+j) (nth ws i).whr))[0]?=some (.agg [I (nth (nth ws i).whr 0).time,.ref (7+2*ws.length+fR ws i) 0 (nth (nth ws i).whr 0).frm.length]):=by
  rw[aLn,aLp (by omega)];rfl
 have W2:((List.range (nth ws i).whr.length).map (wEl (fun j=>7+2*ws.length+fR ws i+j) (nth ws i).whr)).length=(nth ws i).whr.length:=by simp
 have G1:=jz (nth ws i).tags
 have G2:=fk (l:=(nth ws i).tags) (i:=0) (by omega)
 have G3:(ints (nth ws i).tags)[((((nth ws i).tags.length:Nat):Int)-1).toNat]?=some (I (nth (nth ws i).tags ((nth ws i).tags.length-1))):=by
  rw[show((((nth ws i).tags.length:Nat):Int)-1).toNat=(nth ws i).tags.length-1 by omega];exact fk (by omega)
 have F1:=jz (nth (nth ws i).whr 0).frm
 have F2:=fk (l:=(nth (nth ws i).whr 0).frm) (i:=0) (by omega)
 have il:ws.length≤1000000:=by omega
 have tz:=hx.1
 have wz:=hx.2.1
 have c0:0<(cbH 6 ws).length:=by simp[cbH]
 generalize hE':(cbE 6 ws).set i (.agg [.ref (7+2*i) 0 (nth ws i).tags.length,.sub (8+2*i) 0 (nth ws i).whr.length 0 (((((nth ws i).whr.length:Nat):Int)-1).toNat)])=E' at*
 generalize hY':(cbH 6 ws).set 0 (.arr 2 false 0 E')++[.box [.ref 6 0 ws.length],.arr 2 false 0 []]=Y' at*
 have cl:((cbH 6 ws).set 0 (.arr 2 false 0 E')).length=(cbH 6 ws).length:=by simp
 have st2:∀y0 y1 y2:Obj,(y0::y1::y2::x3::x4::x5::smT ws).set 6 (.arr 2 false 0 E')=y0::y1::y2::x3::x4::x5::Y':=fun y0 y1 y2=>by
  have:=Co (X:=cbH 6 ws) (k:=0) (o:= .arr 2 false 0 E') rfl c0 [.box [.ref 6 0 ws.length],.arr 2 false 0 []] y0 y1 y2 x3 x4 x5
  rw[hY']at this
  exact this
 have lb:LB Y' ((cbH 6 ws).length+6) 6 E' (ws.set i ⟨(nth ws i).tags,(nth ws i).whr.take ((nth ws i).whr.length-1)⟩):=by
  refine⟨fun P t hP=>?_,fun P t hP=>?_,fun P t hP=>?_,by rw[← hE'];simp[nB]⟩
  · rw[← hY',List.length_set]
    exact yG _ _ _ P t hP (by omega)
  · rw[← hY',List.append_assoc,aLh (by omega),show 6-P.length=0 by omega,aLg (by simp[cbH]),aLj c0]
  · rw[← hY',List.append_assoc,←hE',List.map_set]
    have q:=Jk P ([.box [.ref 6 0 ws.length],.arr 2 false 0 []]++t) ws (.arr 2 false 0 ((cbE 6 ws).set i (.agg [.ref (7+2*i) 0 (nth ws i).tags.length,.sub (8+2*i) 0 (nth ws i).whr.length 0 (((((nth ws i).whr.length:Nat):Int)-1).toNat)]))) hP
    rw[show(((((nth ws i).whr.length:Nat):Int)-1).toNat)=(nth ws i).whr.length-1 by omega]at q ⊢
    obtain⟨r1,r2,r3, -⟩:=q.2 i hi
    refine Ji ?_ q.1
    have r4:=Cp r2 ((nth ws i).whr.length-1)
    simp only[frz,bf]at r1 ⊢
    rw[r1]
    simp only[eY,r3,List.length_map,List.length_range,and_self,if_true,aLq,aLw,List.drop_zero,Nat.sub_zero]
    rw[r4]
    simp only[aLw,aLq,World.e,List.map_take]
 have sz:(Bel.mk (ws.set i ⟨(nth ws i).tags,(nth ws i).whr.take ((nth ws i).whr.length-1)⟩)).sz:=FC hs ⟨hx.1,by simp only[List.length_take];have:=hx.2.1;omega,fun u hu=>hx.2.2 u (List.mem_of_mem_take hu)⟩
 obtain⟨vs,H,fn,fv⟩:=AO hm p1 lb sz aw li (.agg [tI n0,tI n1,tI n2]) at_ pe a1 a2 k1 k2 t0 t1 (.ap 6 0 ws.length i 0) (I 5) (.box [I n0,I n1,I n2]) e.obj x3 x4 x5
 clear lb sz hY' cl c0
 refine⟨vs,H,?_,fv⟩
 clear hm hs hx hd
 obtain⟨aa,roads⟩:=m
 simp only[ae,smV,K.aB,C.snd]at*
 generalize (List.range (nth ws i).whr.length).map (wEl (fun j=>7+2*ws.length+fR ws i+j) (nth ws i).whr)=WE at*
 generalize cbE 6 ws=E at*
 generalize ints (nth ws i).tags=TG at*
 generalize ints (nth (nth ws i).whr 0).frm=FR at*
 generalize 7+2*ws.length+fR ws i=lfi at*
 generalize 7+2*i=tgi at*
 generalize 8+2*i=wgi at*
 generalize smT ws=Y at*
 generalize (cbH 6 ws).length+6=iB at*
 generalize nth ws i=x at*
 generalize nth x.whr 0=w at*
 simp(disch:=omega)only[go_sem,K.aB,↓reduceIte,go,qb,qm,qt,qw,E1,E2,W1,W2,hE',st2,fn,C.snd,Nat.reduceMul,reduceAdd,reduceSub]
theorem QB{d:aE}(hd:d.dO){m:aP}(hm:m.ok)(p1:1≤m.aa.length){ws:List World}(hs:(Bel.mk ws).sz)(h20:ws.length≤1000){i:Nat}(hi:i<ws.length)(ht:1≤(nth ws i).tags.length)(hw:1≤(nth ws i).whr.length)(hf:1≤(nth (nth ws i).whr 0).frm.length)
 (htm:0≤(nth (nth ws i).whr 0).time∧(nth (nth ws i).whr 0).time≤2147483648) (aw:aH 0 N.cA [] []=some (B true,[])) (li:T) (n0 n1 n2:Int) (at_ pe a1 a2 k1 k2:Int) (t0: -1000000≤at_) (t1:at_≤1000000000000) (x3 x4 x5:Obj)
 {e:aE} (go:aH 0 N.ax [.bp 0 0,I 7] [d.obj]=some (I 6,[e.obj])):
 ∃vs H,exS aH K.aB.body.snd.snd.snd.snd.snd.snd.snd.snd.snd.snd.snd.snd.snd ⟨smV li (.agg [tI n0,tI n1,tI n2]) at_ pe a1 a2 k1 k2 ((cbH 6 ws).length+6) (.ap 6 0 ws.length i 0) .und,.box [I n0,I n1,I n2]::d.obj:: .box (ae m)::x3::x4::x5::smT ws⟩=some (.ret,⟨vs,H⟩)∧vs[3]?=some (B true):=by
 have hx:=hs.2 _ (af (l:=ws) (j:=i) hi)
 have E1:(cbE 6 ws)[i]?=some (.agg [.ref (7+2*i) 0 (nth ws i).tags.length,.ref (8+2*i) 0 (nth ws i).whr.length]):=rn 6 ws hi
 have E2:=nB 6 ws
 have qb:∀y0 y1 y2:Obj,(y0::y1::y2::x3::x4::x5::smT ws)[(cbH 6 ws).length+6]?=some (.box [.ref 6 0 ws.length]):=fun y0 y1 y2=>FD y0 y1 y2 x3 x4 x5
 have qm:∀y0 y1 y2:Obj,(y0::y1::y2::x3::x4::x5::smT ws)[6]?=some (.arr 2 false 0 (cbE 6 ws)):=fun y0 y1 y2=>FE y0 y1 y2 x3 x4 x5
 have qt:∀y0 y1 y2:Obj,(y0::y1::y2::x3::x4::x5::smT ws)[7+2*i]?=some (.arr 1 false 0 (ints (nth ws i).tags)):=fun y0 y1 y2=>HD hi y0 y1 y2 x3 x4 x5
 have qw:∀y0 y1 y2:Obj,(y0::y1::y2::x3::x4::x5::smT ws)[8+2*i]?=some (.arr 2 false 0 ((List.range (nth ws i).whr.length).map (wEl (fun j=>7+2*ws.length+fR ws i+j) (nth ws i).whr))):=fun y0 y1 y2=>HE hi y0 y1 y2 x3 x4 x5
 have qf:∀y0 y1 y2:Obj,(y0::y1::y2::x3::x4::x5::smT ws)[7+2*ws.length+fR ws i]?=some (.arr 1 false 0 (ints (nth (nth ws i).whr 0).frm)):=fun y0 y1 y2=>(wW hi y0 y1 y2 x3 x4 x5 hw).1
 have lf:=(wW hi x3 x3 x3 x3 x4 x5 hw).2
 have W1:((List.range (nth ws i).whr.length).map (wEl (fun j=>7+2*ws.length+fR ws i+j) (nth ws i).whr))[0]?=some (.agg [I (nth (nth ws i).whr 0).time,.ref (7+2*ws.length+fR ws i) 0 (nth (nth ws i).whr 0).frm.length]):=by
  rw[aLn,aLp (by omega)];rfl
 have W2:((List.range (nth ws i).whr.length).map (wEl (fun j=>7+2*ws.length+fR ws i+j) (nth ws i).whr)).length=(nth ws i).whr.length:=by simp
 have G1:=jz (nth ws i).tags
 have G2:=fk (l:=(nth ws i).tags) (i:=0) (by omega)
 have G3:(ints (nth ws i).tags)[((((nth ws i).tags.length:Nat):Int)-1).toNat]?=some (I (nth (nth ws i).tags ((nth ws i).tags.length-1))):=by
  rw[show((((nth ws i).tags.length:Nat):Int)-1).toNat=(nth ws i).tags.length-1 by omega];exact fk (by omega)
 have F1:=jz (nth (nth ws i).whr 0).frm
 have F2:=fk (l:=(nth (nth ws i).whr 0).frm) (i:=0) (by omega)
 have il:ws.length≤1000000:=by omega
 have tz:=hx.1
 have wz:=hx.2.1
 generalize hY2:cbH 6 ws++[.box [.nil],.arr 2 false 0 []]=Y2 at*
 generalize hY':cbH 6 ws++[.box [.ref (Y2.length+6) 0 0],.arr 2 false 0 []]=Y3 at*
 have st2:∀y0 y1 y2:Obj,(y0::y1::y2::x3::x4::x5::smT ws).set ((cbH 6 ws).length+6) (.box [.nil])=y0::y1::y2::x3::x4::x5::Y2:=fun y0 y1 y2=>by
  rw[← hY2,show(cbH 6 ws).length+6=(cbH 6 ws).length+1+1+1+1+1+1 by omega,List.set_cons_succ,List.set_cons_succ,List.set_cons_succ,List.set_cons_succ,List.set_cons_succ,List.set_cons_succ,List.set_append_right _ _ (by omega),Nat.sub_self];rfl
 have qb3:∀y0 y1 y2:Obj,(y0::y1::y2::x3::x4::x5::Y2)[(cbH 6 ws).length+6]?=some (.box [.nil]):=fun y0 y1 y2=>by
  have:=yG (cbH 6 ws) (.box [.nil]) (.arr 2 false 0 []) [y0,y1,y2,x3,x4,x5] [] rfl (iB:=(cbH 6 ws).length+6) rfl
  rw[List.append_nil,hY2]at this
  exact this
 have st3:∀y0 y1 y2:Obj,(y0::y1::y2::x3::x4::x5::Y2).set ((cbH 6 ws).length+6) (.box [.ref (Y2.length+1+1+1+1+1+1) 0 0])=y0::y1::y2::x3::x4::x5::Y3:=fun y0 y1 y2=>by
  rw[← hY',←hY2,show(cbH 6 ws).length+6=(cbH 6 ws).length+1+1+1+1+1+1 by omega,List.set_cons_succ,List.set_cons_succ,List.set_cons_succ,List.set_cons_succ,List.set_cons_succ,List.set_cons_succ,List.set_append_right _ _ (by omega),Nat.sub_self];rfl
 have yl:Y3.length=Y2.length:=by rw[← hY',←hY2];simp
 have lb:LB (Y3++[.arr 2 false 0 []]) ((cbH 6 ws).length+6) (Y2.length+6) [] []:=by
  refine⟨fun P t hP=>?_,fun P t hP=>?_,fun P t hP=>rfl,rfl⟩
  · rw[← hY',List.append_assoc]
    exact yG (cbH 6 ws) _ _ P _ hP rfl
  · rw[List.append_assoc,aLh (by omega),show Y2.length+6-P.length=Y3.length by omega,aLh (aLs _),Nat.sub_self];rfl
 obtain⟨vs,H,fn,fv⟩:=AO hm p1 lb ⟨by simp,by simp⟩ aw li (.agg [tI n0,tI n1,tI n2]) at_ pe a1 a2 k1 k2 t0 t1 (.ap 6 0 ws.length i 0) (I 6) (.box [I n0,I n1,I n2]) e.obj x3 x4 x5
 clear lb hY' hY2 yl
 refine⟨vs,H,?_,fv⟩
 clear hm hs hx hd
 obtain⟨aa,roads⟩:=m
 simp only[ae,smV,K.aB,C.snd]at*
 generalize (List.range (nth ws i).whr.length).map (wEl (fun j=>7+2*ws.length+fR ws i+j) (nth ws i).whr)=WE at*
 generalize cbE 6 ws=E at*
 generalize ints (nth ws i).tags=TG at*
 generalize ints (nth (nth ws i).whr 0).frm=FR at*
 generalize 7+2*ws.length+fR ws i=lfi at*
 generalize 7+2*i=tgi at*
 generalize 8+2*i=wgi at*
 generalize smT ws=Y at*
 generalize (cbH 6 ws).length+6=iB at*
 generalize nth ws i=x at*
 generalize nth x.whr 0=w at*
 simp(disch:=omega)only[go_sem,K.aB,↓reduceIte,go,qb,qm,qb3,st2,st3,fn,C.snd,Nat.reduceMul,reduceAdd,reduceSub]
end Go.Ev
namespace Go.Ev
open Go
variable [Lib] [cz] [bZ]
structure OfI(m:aP)(p:Nat)(l:List Int):Prop where
 ln:l.length=m.aa.length
 bd:bnd l
 z:nth l p=0
theorem OfI.set{m:aP}{p:Nat}{l:List Int}(h:OfI m p l){q:Nat}{x:Int}(hq:q<l.length)(h0:0<x)(hx:x<nth l q):OfI m p (l.set q x):=by
 have b1:=h.bd _ (af hq)
 refine⟨by rw[List.length_set];exact h.ln,xA h.bd (by omega) (by omega),?_⟩
 rw[wK _ _ hq]
 split
 · rename_i e;subst e;have:=h.z;omega
 · exact h.z
@[go_sem] theorem aa5 : lg [] [] [] = some true := (rfl)
@[go_sem] theorem aa6 (ks : List Bool) (k : IntKind) (a b : Int) (xs ys : List T) : lg (true :: ks) (.int k a :: xs) (.int k b :: ys) = Py (decide (a = b)) (lg ks xs ys) := by
 simp only[lg,if_true,YF]
 cases lg ks xs ys<;>rfl
@[go_sem] theorem XX (ks : List Bool) (a b : Bool) (xs ys : List T) : lg (false :: ks) (.bool a :: xs) (.bool b :: ys) = Py (decide (a = b)) (lg ks xs ys) := by
 simp only[lg,show(a==b)=decide (a=b)from rfl]
 cases lg ks xs ys<;>rfl
@[go_sem] theorem adD (H : ah) (ks : List Bool) (neg : Bool) (xs ys : List T) : sj H (.sc ks) neg (some (.t (.agg xs))) (some (.t (.agg ys))) = Pz H neg (lg ks xs ys) := by
 simp only[sj,aLq,QQ,eqD]
 cases lg ks xs ys with
 | none=>rfl
 | some r=>cases neg<;>rfl
end Go.Ev
namespace Go.Ev.N
def R9:Nat:=309
def NT:Nat:=310
def Ox:Nat:=311
def Oy:Nat:=312
def NU:Nat:=313
def VC:Nat:=314
def agn:Nat:=315
def aa7:Nat:=316
def VD:Nat:=317
def VE:Nat:=318
def VF:Nat:=319
def VG:Nat:=320
def aa8:Nat:=321
def aa9:Nat:=322
def VH:Nat:=323
def QC:Nat:=324
def aba:Nat:=325
def adE:Nat:=326
def Oz:Nat:=327
def Sa:Nat:=328
def QD:Nat:=329
def xa:Nat:=330
def yH:Nat:=331
def QE:Nat:=332
def NV:Nat:=333
end Go.Ev.N
namespace Go.Ev.K
open Go.Ev
end Go.Ev.K
namespace Go.Ev
class Bf [Lib]:Prop where
namespace K
variable [Lib] [Bf]
end K
end Go.Ev
namespace Go.Ev.K
open Go.Ev
end Go.Ev.K
namespace Go.Ev
class Bg [Lib]:Prop where
namespace K
variable [Lib] [Bg]
end K
end Go.Ev
namespace Go.Ev
open Go
variable [Lib] [cz] [bZ] [gU] [gJ] [gV] [gW] [jC] [gX] [Bf] [Bg]
end Go.Ev
namespace Go.Ev
open Go
variable [Lib] [cz] [bZ] [gU] [gJ] [kG] [gV] [gW] [jC] [gX] [fT] [eR] [iU] [fE] [Bf] [Bg]
end Go.Ev
namespace Go.Ev
open Go
variable [Lib] [cz] [bZ] [gU] [gJ] [kG] [gV] [gW] [jC] [gX] [fT] [eR]
def AW(P:Wh→Prop)(ws:List World):Prop:=∀x∈ws,∀w∈x.whr,P w
structure Kept(m:aP)(T:Int)(P:Wh→Prop):Prop where
 see:∀w l a b,P w→b≤T→P (w8 m w l a b).1
 abs:∀w l a b bl,P w→b≤T→P (w9 m w l a b bl).1
 raise:∀w t,P w→t≤T→P (ez w t).1
 join:∀a b,P a→P b→a.frm.length=b.frm.length→P (jh a b).1
theorem AW.set{P:Wh→Prop}{x:World}(h:∀w∈x.whr,P w)(tag:Int){w:Wh}(hw:(bz x.tags tag).toNat<x.whr.length→P w):∀y∈(EN tag x w).whr,P y:=by
 intro y hy
 simp only[EN]at hy
 by_cases c:(bz x.tags tag).toNat<x.whr.length
 · rcases aLk hy with a | rfl
   · exact h y a
   · exact hw c
 · rw[List.set_eq_of_length_le (by omega)]at hy;exact h y hy
theorem Dp{m:aP}{T:Int}{P:Wh→Prop}(k:Kept m T P){ws:List World}(h:AW P ws)(tag:Int)(l:List Int)(a b:Int)(hb:b≤T):∀j,j≤ws.length→AW P (lq m tag l a b ws j)
 | 0,_,x,hx=>by simp[lq]at hx
 | j+1,hj,x,hx=>by
   simp only[lq,wA]at hx
   have hn:=h _ (af (l:=ws) (j:=j) (by omega))
   split at hx
   · exact Dp k h tag l a b hb j (by omega) x hx
   · rcases List.mem_append.1 hx with hx | hx
     · exact Dp k h tag l a b hb j (by omega) x hx
     · rw[List.mem_singleton.1 hx]
       split
       · exact AW.set hn tag fun c=>k.see _ _ _ _ (hn _ (af c)) hb
       · exact hn
theorem Jl{m:aP}{T:Int}{P:Wh→Prop}(k:Kept m T P){ws:List World}(h:AW P ws)(tag:Int)(l:List Int)(a b bl:Int)(hb:b≤T):∀j,j≤ws.length→AW P (mW m tag l a b bl ws j)
 | 0,_,x,hx=>by simp[mW]at hx
 | j+1,hj,x,hx=>by
   simp only[mW,CZ]at hx
   have hn:=h _ (af (l:=ws) (j:=j) (by omega))
   rcases List.mem_append.1 hx with hx | hx
   · exact Jl k h tag l a b bl hb j (by omega) x hx
   · rw[List.mem_singleton.1 hx]
     split
     · exact AW.set hn tag fun c=>k.abs _ _ _ _ _ (hn _ (af c)) hb
     · exact hn
theorem Jm{m:aP}{T:Int}{P:Wh→Prop}(k:Kept m T P){n:Nat}{a b:List Wh}(ha:∀w∈a,P w∧w.frm.length=n)(hb:∀w∈b,P w∧w.frm.length=n):∀p,p≤a.length→p≤b.length→∀w∈jV a b p,P w
 | 0,_,_,w,hw=>(ha w hw).1
 | p+1,h1,h2,w,hw=>by
   simp only[jV]at hw
   rcases aLk hw with hw | rfl
   · exact Jm k ha hb p (by omega) (by omega) w hw
   · have x:=ha _ (af (l:=a) (j:=p) (by omega))
     have y:=hb _ (af (l:=b) (j:=p) (by omega))
     exact k.join _ _ x.1 y.1 (by rw[x.2,y.2])
theorem QF{m:aP}{T:Int}{P:Wh→Prop}(k:Kept m T P){first:List Int}{out:List World}{x:World}(ho:AW P out)(hx:∀w∈x.whr,P w)(wo:∀y∈out,WV m first y)(wx:WV m first x):AW P (ji out x):=by
 intro y hy
 unfold ji at hy
 split at hy
 · rename_i h
   rcases aLk hy with hy | rfl
   · exact ho y hy
   · have wk:=wo _ (af h.1)
     exact Jm k (n:=m.aa.length) (fun w hw=>⟨ho _ (af h.1) w hw,(cU (wk.wv w hw)).1⟩) (fun w hw=>⟨hx w hw,(cU (wx.wv w hw)).1⟩) _ (Nat.min_le_left _ _) (Nat.min_le_right _ _)
 · rcases List.mem_append.1 hy with hy | hy
   · rcases List.mem_append.1 hy with hy | hy
     · exact ho y (List.mem_of_mem_take hy)
     · rw[List.mem_singleton.1 hy];exact hx
   · exact ho y (List.mem_of_mem_drop hy)
theorem Jn{m:aP}(hm:m.ok){T:Int}{P:Wh→Prop}(k:Kept m T P){first:List Int}(pr:fN first=true)(f1:1≤first.length)(f2:first.length≤12){l:List World}(hl:AW P l)(wl:∀x∈l,WV m first x):∀j,j≤l.length→AW P (qg l j)
 | 0,_,y,hy=>by simp[qg]at hy
 | j+1,h,y,hy=>QF k (Jn hm k pr f1 f2 hl wl j (by omega)) (hl _ (af (by omega))) (Di hm pr f1 f2 wl j (by omega)).wv (wl _ (af (by omega))) y hy
theorem QG{m:aP}{T:Int}{P:Wh→Prop}(k:Kept m T P){i j:Nat}{t:Int}(ht:t≤T){x:World}(h:∀w∈x.whr,P w):∀w∈(tZ i j t x).whr,P w:=by
 intro w hw
 simp only[tZ]at hw
 have one:∀ {l:List Wh},(∀w∈l,P w)→∀i,∀w∈l.set i (ez (nth x.whr i) t).1,i<x.whr.length∨l.length=x.whr.length→P w:=by
  intro l hl i w hw hlen
  by_cases c:i<x.whr.length
  · rcases aLk hw with a | rfl
    · exact hl w a
    · exact k.raise _ _ (h _ (af c)) ht
  · rcases hlen with a | a
    · exact(c a).elim
    · rw[List.set_eq_of_length_le (by omega)]at hw;exact hl w hw
 by_cases c:j<x.whr.length
 · rcases aLk hw with a | rfl
   · exact one h i w a (.inr rfl)
   · exact k.raise _ _ (h _ (af c)) ht
 · rw[List.set_eq_of_length_le (by rw[List.length_set];omega)]at hw
   exact one h i w hw (.inr rfl)
theorem AP{m:aP}{T:Int}{P:Wh→Prop}(k:Kept m T P){ws:List World}(h:AW P ws){i j:Nat}{t:Int}(ht:t≤T):∀q,q≤ws.length→AW P (gr i j t ws q)
 | 0,_=>h
 | q+1,hq=>fun x hx=>by
   simp only[gr,wJ]at hx
   split at hx
   · rcases List.mem_append.1 hx with hx | hx
     · exact AP k h ht q (by omega) x hx
     · rw[List.mem_singleton.1 hx];exact QG k ht (h _ (af (by omega)))
   · exact AP k h ht q (by omega) x hx
theorem KB{m:aP}(hm:m.ok){T:Int}{P:Wh→Prop}(k:Kept m T P){n:Int}{s:BSt}(hb:oX m s.b=true)(h:AW P s.b.aq)(ht:s.t+118≤T):AW P (aE.lW m n s).b.aq:=by
 have a0:=s.d.eE 60
 have a9:=s.d.eG (n:=60) (by omega)
 unfold aE.lW
 simp only
 generalize s.d.next 60=a at*
 obtain⟨a1,d1⟩:=a
 simp only at a0 a9 ⊢
 obtain⟨⟨ws⟩,t,d⟩:=s
 simp only at*
 have bv:=AH hb
 obtain⟨w1,w2,f1,f2, -⟩:=ft hb
 split
 · simp only
   split
   · generalize ((d1.next 3).2.next n).1=i
     generalize (((d1.next 3).2.next n).2.next n).1=j
     unfold jm
     split
     · exact h
     · split
       · exact h
       · rename_i hij
         simp only at hij
         split
         · exact h
         · split
           · exact h
           · exact Jn hm k bv.pr bv.f1 bv.f2 (AP k h (by omega) _ (aLs _)) (tc hm bv.wv (by omega) (by omega) _ _ (aLs _)) _ (aLs _)
   · exact h
 · split
   · simp only
     split
     · have e9:=((((d1.next 3).2.next n).2.mU m.aa.length).2).eG (n:=9) (by omega)
       generalize (((d1.next 3).2.next n).2.mU m.aa.length)=l at*
       generalize (l.2.next 9).1=e at*
       unfold kh
       split
       · exact h
       · split
         · exact h
         · split
           · exact h
           · exact Dp k h _ _ _ _ (by omega) _ (aLs _)
     · exact h
   · simp only
     split
     · unfold kj
       split
       · exact h
       · split
         · exact h
         · exact Jl k h _ _ _ _ _ (by omega) _ (aLs _)
     · exact h
theorem NW{m:aP}(hm:m.ok){T:Int}{P:Wh→Prop}(k:Kept m T P){n:Int}{s:BSt}(hb:oX m s.b=true)(h:AW P s.b.aq):∀(q:Nat),s.t+60*q+118≤T+60→AW P (aE.xK m n s q).b.aq∧(aE.xK m n s q).t≤s.t+60*q
 | 0,_=>⟨h,by simp[aE.xK]⟩
 | q+1,hq=>by
   obtain⟨h1,h2⟩:=NW hm k (n:=n) hb h q (by omega)
   have ht:=(Fi (m:=m) (n:=n) (s:=aE.xK m n s q)).2
   exact⟨KB hm k (xO hm hb q) h1 (by omega),by simp only[aE.xK];omega⟩
theorem NX{m:aP}(hm:m.ok)(h1:1≤m.aa.length)(d:aE){P:Wh→Prop}(k:Kept m 500 P)(hs:∀p t,0≤p→p<(m.aa.length:Int)→0≤t→t<100→P (gT m p t).1):AW P (d.s0 m).1.aq:=by
 have v0:=Ck hm h1 d
 have k9:=((d.nJ m).2.next 100).2.eG (n:=5) (by omega)
 have k0:=((d.nJ m).2.next 100).2.eE 5
 have kk:d.MT m≤4:=by unfold aE.MT;omega
 have t0:=(d.nJ m).2.eE 100
 have t9:=(d.nJ m).2.eG (n:=100) (by omega)
 have tl:=lV d.pH
 have sl:(d.nJ m).1.length=d.pH:=aE.kY _ _ _
 have a0:AW P (d.K1 m).b.aq:=by
  unfold aE.K1
  rw[Da hm h1]
  intro x hx w hw
  rw[List.mem_singleton.1 hx]at hw
  simp only[iG,List.mem_map,aLu]at hw
  obtain⟨i,hi,rfl⟩:=hw
  have:=s5 (d.next 3).2 (n:=m.aa.length) (by omega) d.pH _ (af (l:=(d.nJ m).1) (j:=i) (by omega))
  exact hs _ _ this.1 this.2 t0 t9
 exact(NW hm k (n:=d.pH) v0 a0 (d.MT m) (by show(100:Int)+_+_≤_;omega)).1
theorem NY(m:aP):Kept m 500 fun w=>w.time≤500 where
 see w l a b h hb:=by
  unfold w8
  split
  · exact h
  · split
    · exact h
    · split
      · exact hb
      · exact h
 abs w l a b bl h hb:=by
  unfold w9
  split
  · exact h
  · split
    · exact h
    · split
      · exact h
      · split
        · exact h
        · exact hb
 raise w t h ht:=by unfold ez;split;exact h;exact ht
 join a b ha hb e:=by
  unfold jh
  rw[if_pos e]
  simp only;omega
theorem HF{m:aP}(hm:m.ok)(h1:1≤m.aa.length)(d:aE):AW (fun w=>w.time≤500) (d.s0 m).1.aq:=
 NX hm h1 d (NY m) fun p t p0 p1 t0 t1=>by
  rw[(AG hm p0 p1 (t:=t) ⟨t0,by omega⟩).1]
  simp only;omega
def FF:List Int→List (List Int)
 | []=>[[]]
 | a::l=>(FF l).flatMap fun p=>(List.range (p.length+1)).map fun i=>p.take i++a::p.drop i
theorem FH:∀ {l t:List Int},t.Perm l→t∈FF l
 | [],t,h=>by rw[List.perm_nil.1 h];simp[FF]
 | a::l,t,h=>by
   obtain⟨s1,s2,rfl⟩:=List.append_of_mem (h.mem_iff.2 List.mem_cons_self)
   have p:(s1++s2).Perm l:=(List.perm_cons a).1 ((List.perm_middle.symm).trans h)
   simp only[FF,List.mem_flatMap,List.mem_map,aLu]
   exact⟨_,FH p,s1.length,by rw[aLv];omega,by simp⟩
theorem KC{m:aP}{first:List Int}{ws:List World}(h:BV m first ws)(f:first.length≤3):ws.length≤6:=by
 have nd:(ws.map World.tags).Nodup:=by
  rw[List.Nodup,List.pairwise_map]
  exact h.up.imp fun h e=>AL h e
 have sub:(ws.map World.tags) ⊆ FF first:=by
  intro t ht
  obtain⟨x,hx,rfl⟩:=List.mem_map.1 ht
  exact FH (h.wv x hx).pm
 have:=nd.length_le_of_subset sub
 rw[List.length_map]at this
 have f1:=h.f1
 match first,f,f1 with
 | [a],_,_=>exact Nat.le_trans this (by decide:1≤6)
 | [a,b],_,_=>exact Nat.le_trans this (by show 2≤6;decide)
 | [a,b,c],_,_=>exact Nat.le_trans this (by show 6≤6;decide)
theorem QH{d:aE}(hd:d.dO){m:aP}(hm:m.ok)(h1:1≤m.aa.length):
 ∃(b:Bel) (e:aE),aH 0 N.cC [.bp 0 0,.t m.e] [d.obj]=some (.t b.e,[e.obj])∧e.dO∧oX m b=true∧b.sz∧b.aq.length≤6∧(nth b.aq 0).tags.length≤3∧AW (fun w=>w.time≤500) b.aq:=by
 have g:=MY hm h1 hd
 have v:=Fx hm h1 d
 have bp:=Ay d
 have n:(nth (d.s0 m).1.aq 0).tags.length≤3:=by
  have:=(g.1.ws _ (af (l:=(d.s0 m).1.aq) (j:=0) (by have:=g.1.w1;omega))).tg
  omega
 refine⟨_,_,M1 hm h1 d hd,g.2,v,g.1.sz hm,?_,n,HF hm h1 d⟩
 have bv:=AH (m:=m) (ws:=(d.s0 m).1.aq) v
 exact KC bv n
end Go.Ev
namespace Go.Ev
open Go
variable [Lib] [cz] [bZ] [gU]
def K4(l:List Wh)(t:Int):Nat→Int
 | 0=>t
 | j+1=>max (K4 l t j) (nth l j).time
def Bh(ws:List World):Nat→Int
 | 0=>0
 | i+1=>K4 (nth ws i).whr (Bh ws i) (nth ws i).whr.length
def KD(b:Bel):Int:=Bh b.aq b.aq.length
theorem VI(b:Bel)(hb:b.sz):aH 0 N.km [.t b.e] []=some (I (KD b),[]):=by
 refine av K.vd rfl ?_
 unfold KD
 obtain⟨ws⟩:=b
 obtain⟨s1,s2⟩:=hb
 simp only at s1 s2 ⊢
 have inner:∀i,i<ws.length→∀(t:Int) (a b:D),exS aH K.yB ⟨[a,.bp 0 0,b,I t,I i,I 0],[.box [.t (.sl (ws.map World.e))]]⟩=
  some (.exit 2,⟨[.und,.bp 0 0,.und,I (K4 (nth ws i).whr t (nth ws i).whr.length),I i,I (nth ws i).whr.length],[.box [.t (.sl (ws.map World.e))]]⟩):=by
  intro i hi t a b
  have g1:(ws.map World.e)[i]?=some (nth ws i).e:=cI _ hi
  have sz:=(s2 _ (af hi)).2.1
  refine dw (fun j=>⟨[.und,.bp 0 0,.und,I (K4 (nth ws i).whr t j),I i,I j],[.box [.t (.sl (ws.map World.e))]]⟩) (nth ws i).whr.length rfl ?_ ?_ (by simp)
  · intro j hj
    have g2:((nth ws i).whr.map Wh.e)[j]?=some (nth (nth ws i).whr j).e:=cI _ hj
    simp only[K4]
    generalize K4 (nth ws i).whr t j=q at*
    generalize nth (nth ws i).whr j=w at*
    generalize nth ws i=x at*
    obtain⟨tags,whr⟩:=x
    obtain⟨time,frm⟩:=w
    simp only at*
    simp(disch:=omega)only[go_sem,K.rk,↓reduceIte,g1,g2,reduceAdd,reduceSub]
  · generalize K4 (nth ws i).whr t (nth ws i).whr.length=q at*
    generalize nth ws i=x at*
    obtain⟨tags,whr⟩:=x
    simp only at*
    simp(disch:=omega)only[go_sem,K.rk,↓reduceIte,g1,reduceAdd,reduceSub]
 have loop:∀a b c:D,exS aH K.yC ⟨[a,.bp 0 0,b,I 0,I 0,c],[.box [.t (.sl (ws.map World.e))]]⟩=
  some (.exit 0,⟨[.und,.bp 0 0,.und,I (Bh ws ws.length),I ws.length,.und],[.box [.t (.sl (ws.map World.e))]]⟩):=by
  intro a b c
  refine dw (fun i=>⟨[.und,.bp 0 0,.und,I (Bh ws i),I i,.und],[.box [.t (.sl (ws.map World.e))]]⟩) ws.length rfl ?_ ?_ (by simp)
  · intro i hi
    have inner:=fun t a b=>inner i hi t a b
    simp(disch:=omega)only[go_sem,K.rm,↓reduceIte,inner,Bh,reduceAdd,reduceSub]
  · simp(disch:=omega)only[go_sem,K.rm,↓reduceIte,reduceAdd,reduceSub]
 simp(disch:=omega)only[go_sem,K.km,↓reduceIte,loop,reduceAdd,reduceSub]
end Go.Ev
namespace Go.Ev
open Go
variable [Lib] [cz] [bZ] [gU] [gJ] [kG] [gV] [gW] [jC] [gX] [fT] [eR] [iU] [fE] [Bf] [Bg]
theorem NZ(l:List Wh)(t:Int):∀j,t≤K4 l t j∧∀k,k<j→(nth l k).time≤K4 l t j
 | 0=>⟨Int.le_refl _,fun k h=>by omega⟩
 | j+1=>by
   obtain⟨h1,h2⟩:=NZ l t j
   simp only[K4]
   refine⟨by omega,fun k hk=>?_⟩
   by_cases c:k=j
   · subst c;omega
   · have:=h2 k (by omega);omega
theorem Jo(ws:List World):∀i,0≤Bh ws i∧∀k,k<i→∀j,j<(nth ws k).whr.length→(nth (nth ws k).whr j).time≤Bh ws i
 | 0=>⟨Int.le_refl _,fun k h=>by omega⟩
 | i+1=>by
   obtain⟨h1,h2⟩:=Jo ws i
   obtain⟨g1,g2⟩:=NZ (nth ws i).whr (Bh ws i) (nth ws i).whr.length
   simp only[Bh]
   refine⟨by omega,fun k hk j hj=>?_⟩
   by_cases c:k=i
   · subst c;exact g2 j hj
   · have:=h2 k (by omega) j hj;omega
theorem VJ(b:Bel):0≤KD b∧∀x∈b.aq,∀w∈x.whr,w.time≤KD b:=by
 obtain⟨h1,h2⟩:=Jo b.aq b.aq.length
 refine⟨h1,fun x hx w hw=>?_⟩
 obtain⟨i,hi,rfl⟩:=List.getElem_of_mem hx
 obtain⟨j,hj,rfl⟩:=List.getElem_of_mem hw
 have e:nth b.aq i=b.aq[i]:=bP (aLc hi)
 have:=h2 i hi j (by rw[e];exact hj)
 rwa [e,bP (aLc hj)]at this
theorem N0{l:List Wh}{M t:Int}(ht:t≤M)(h:∀w∈l,w.time≤M):∀j,j≤l.length→K4 l t j≤M
 | 0,_=>ht
 | j+1,hj=>by
   have h1:=N0 ht h j (by omega)
   have h2:=h _ (af (l:=l) (j:=j) (by omega))
   simp only[K4];omega
theorem Jp{ws:List World}{M:Int}(h0:0≤M)(h:AW (fun w=>w.time≤M) ws):∀i,i≤ws.length→Bh ws i≤M
 | 0,_=>h0
 | i+1,hi=>N0 (Jp h0 h i (by omega)) (h _ (af (by omega))) _ (aLs _)
theorem VK{b:Bel}(h:AW (fun w=>w.time≤500) b.aq):KD b≤500:=Jp (by omega) h _ (aLs _)
structure SlF(bm:aP)(w:Wh)(t:Int):Prop where
 ln:(Qs bm w t).frm.length=bm.aa.length
 bd:bnd (Qs bm w t).frm
 cl:clW bm t none (Qs bm w t).frm
 le:∀j,j<bm.aa.length→nth (Qs bm w t).frm j≤if t<nth w.frm j then 1099511627776 else nth w.frm j
theorem abb{d:aE}(hd:d.dO)(n:Nat)(hn:n≤1000000):
 ∃(l:List Int) (e:aE),aH 0 N.cE [.bp 0 0,I n] [d.obj]=some (.t (tL l),[e.obj])∧e.dO∧l.length≤n∧A9 l n=true:=
 ⟨_,_,Ma d n hn hd,aE.my hd n,d.wg n,Cj d n⟩
section
variable (e : aE) {m bm : aP} (b c : Bel) (t : Int) (l : List Int)
end
end Go.Ev
namespace Go.Ev
open Go
variable [Lib] [cz] [bZ] [gU] [gJ] [kG] [gV] [gW] [jC] [gX] [fT] [eR] [iU] [fE] [Bf] [Bg]
theorem VL{d:aE}(hd:d.dO){m:aP}(hm:m.ok)(p1:1≤m.aa.length){c:Bel}(hv:oX m c=true)(hs:c.sz)(aw:aH 0 N.cA [] []=some (B true,[]))(li:T)(n0 n1 n2:Int)(at_ pe a1 a2 k1 k2:Int)(t0: -1000000≤at_)(t1:at_≤1000000000000)(x3 x4 x5:Obj):
 ∃vs H,exS aH K.aB.body.snd.snd.snd.snd.snd.snd.snd.snd.snd.snd.snd.snd ⟨smV li (.agg [tI n0,tI n1,tI n2]) at_ pe a1 a2 k1 k2 ((cbH 6 c.aq).length+6) .und .und,.box [I n0,I n1,I n2]::d.obj:: .box (ae m)::x3::x4::x5::smT c.aq⟩=some (.ret,⟨vs,H⟩)∧vs[3]?=some (B true):=by
 obtain⟨w1,w2,f1,f2,w5⟩:=ft hv
 obtain⟨v,e,go,l2,v0,v1⟩:=B8 hd c.aq.length (by omega) (by omega)
 obtain⟨i,rfl⟩:=Int.eq_ofNat_of_zero_le v0
 obtain⟨u,e2,go2,l3,u0,u1⟩:=B8 l2 7 (by omega) (by omega)
 have hi:i<c.aq.length:=by omega
 have wb:=ik (w5 i hi)
 have vw:=cU (wb.2.2.2 0 (by omega)).2
 have key:∃vs H,exS aH K.aB.body.snd.snd.snd.snd.snd.snd.snd.snd.snd.snd.snd.snd.snd ⟨smV li (.agg [tI n0,tI n1,tI n2]) at_ pe a1 a2 k1 k2 ((cbH 6 c.aq).length+6) (.ap 6 0 c.aq.length i 0) .und,.box [I n0,I n1,I n2]::e.obj:: .box (ae m)::x3::x4::x5::smT c.aq⟩=some (.ret,⟨vs,H⟩)∧vs[3]?=some (B true):=by
  have ht:1≤(nth c.aq i).tags.length:=by omega
  have hw:1≤(nth c.aq i).whr.length:=by omega
  have hf:1≤(nth (nth c.aq i).whr 0).frm.length:=by omega
  have htm:0≤(nth (nth c.aq i).whr 0).time∧(nth (nth c.aq i).whr 0).time≤2147483648:=vw.2.1
  have hc:u=0∨u=1∨u=2∨u=3∨u=4∨u=5∨u=6:=by omega
  rcases hc with rfl | rfl | rfl | rfl | rfl | rfl | rfl
  · exact Qu l2 hm p1 hs (by omega) hi ht hw hf htm aw li n0 n1 n2 at_ pe a1 a2 k1 k2 t0 t1 x3 x4 x5 go2
  · exact Qv l2 hm p1 hs (by omega) hi ht hw hf htm aw li n0 n1 n2 at_ pe a1 a2 k1 k2 t0 t1 x3 x4 x5 go2
  · exact Qw l2 hm p1 hs (by omega) hi ht hw hf htm aw li n0 n1 n2 at_ pe a1 a2 k1 k2 t0 t1 x3 x4 x5 go2
  · exact Qx l2 hm p1 hs (by omega) hi ht hw hf htm aw li n0 n1 n2 at_ pe a1 a2 k1 k2 t0 t1 x3 x4 x5 go2
  · exact Qz l2 hm p1 hs (by omega) hi ht hw hf htm aw li n0 n1 n2 at_ pe a1 a2 k1 k2 t0 t1 x3 x4 x5 go2
  · exact QA l2 hm p1 hs (by omega) hi ht hw hf htm aw li n0 n1 n2 at_ pe a1 a2 k1 k2 t0 t1 x3 x4 x5 go2
  · exact QB l2 hm p1 hs (by omega) hi ht hw hf htm aw li n0 n1 n2 at_ pe a1 a2 k1 k2 t0 t1 x3 x4 x5 go2
 obtain⟨vs,H,fn,fv⟩:=key
 have qb:∀y0 y1 y2:Obj,(y0::y1::y2::x3::x4::x5::smT c.aq)[(cbH 6 c.aq).length+6]?=some (.box [.ref 6 0 c.aq.length]):=fun y0 y1 y2=>FD y0 y1 y2 x3 x4 x5
 have qm:∀y0 y1 y2:Obj,(y0::y1::y2::x3::x4::x5::smT c.aq)[6]?=some (.arr 2 false 0 (cbE 6 c.aq)):=fun y0 y1 y2=>FE y0 y1 y2 x3 x4 x5
 have E1:(cbE 6 c.aq)[i]?=some (.agg [.ref (7+2*i) 0 (nth c.aq i).tags.length,.ref (8+2*i) 0 (nth c.aq i).whr.length]):=rn 6 c.aq hi
 have E2:=nB 6 c.aq
 refine⟨vs,H,?_,fv⟩
 clear hm hs hd w5 wb vw hv
 generalize cbE 6 c.aq=E at*
 generalize smT c.aq=Y at*
 generalize (cbH 6 c.aq).length+6=iB at*
 obtain⟨aa,roads⟩:=m
 obtain⟨ws⟩:=c
 simp only[ae,smV,K.aB,C.snd]at*
 simp(disch:=omega)only[go_sem,K.aB,↓reduceIte,go,qb,qm,E1,E2,fn,C.snd,Nat.reduceMul,reduceAdd,reduceSub]
theorem QI(aw:aH 0 N.cA [] []=some (B true,[]))(li:List Int)(n0 n1 n2:Int):aH 0 N.aB [.t (tL li),.t (.agg [tI n0,tI n1,tI n2])] []=some (B true,[]):=by
 refine av K.mM rfl ?_
 have lo:=Pq li
 by_cases c:li.length≤400
 · simp only[c,decide_true]at lo
   have ro:=aaH li
   have d0:(aE.mk li 0).dO:=c
   generalize (aE.mk li 0)=d at*
   obtain⟨m,e1,mo,l1,hm,p1,p2,r1,r2⟩:=aaI d0
   obtain⟨b,e2,be,l2,hv,hs,w6,n3,hT⟩:=QH l1 hm (by omega)
   obtain⟨w1,w2,f1,f2,w5⟩:=ft hv
   have la:=VI b hs
   have ll:=VK hT
   have l0:=(VJ b).1
   have mo1:=Ix n0 90 (by omega)
   have mo2:=Ix n1 60 (by omega)
   have mo3:=Ix n2 50 (by omega)
   have ml:0≤Mod n0 90∧Mod n0 90<90:=⟨L8 _ _,L9 _ _ (by omega)⟩
   have ml2:0≤Mod n1 60∧Mod n1 60<60:=⟨L8 _ _,L9 _ _ (by omega)⟩
   obtain⟨g1,e3,go1,l3,g10,g11⟩:=B8 l2 ((nth b.aq 0).tags.length+1) (by omega) (by omega)
   obtain⟨g2,e4,go2,l4,g20,g21⟩:=B8 l3 2 (by omega) (by omega)
   obtain⟨g3,e5,go3,l5,g30,g31⟩:=B8 l4 (nth b.aq 0).tags.length (by omega) (by omega)
   obtain⟨g4,e6,go4,l6,g40,g41⟩:=B8 l5 4 (by omega) (by omega)
   obtain⟨l,e7,so,l7,sl,ss⟩:=abb l6 m.aa.length (by omega)
   generalize KD b=q0 at*
   generalize Mod n0 90=y0 at*
   generalize Mod n1 60=y1 at*
   generalize Mod n2 50=y2 at*
   have x1:=Qo hm b hs (by omega) (g1-g2) g3 (q0+y0-5)
   have x2:=Ca hm b hs (g1-g2) g3 (q0+y0-5)
   have cs:=VB hm hs (g1-g2) g3 (q0+y0-5)
   have cv:=Dk hm hv (g1-g2) g3 (q0+y0-5)
   have x3:=wV _ cs (jm m b (g1-g2) g3 (q0+y0-5)).2
   have ag:=Cn hm (by omega) b hs (3+2*g4) l (by omega) (q0+y0-5) (q0+y0-5+y1) y2
   generalize jm m b (g1-g2) g3 (q0+y0-5)=q at*
   obtain⟨cb,k⟩:=q
   simp only at cs cv x3
   obtain⟨vs,H,tl,hv1⟩:=VL l7 hm (by omega) cv cs aw (tL li) n0 n1 n2 (q0+y0-5) (nth b.aq 0).tags.length (g1-g2) g3 k k (by omega) (by omega) (.box [.t (.sl (b.aq.map World.e))]) (.box [.t (.sl (cb.aq.map World.e))]) (.box [.t (.sl (cb.aq.map World.e))])
   have cp:=G9 cb cs
   have t0:(b.aq.map World.e)[0]?=some (nth b.aq 0).e:=cI _ (by omega)
   clear hT hv hm cs cv hs w5 ss
   simp only[smV,ae,K.aB,C.snd,List.cons_append,List.nil_append]at tl ag
   obtain⟨aa,roads⟩:=m
   obtain⟨ws⟩:=b
   obtain⟨cw⟩:=cb
   simp only at*
   generalize nth ws 0=wo at*
   obtain⟨tags,whr⟩:=wo
   simp only[ae,smT]at*
   simp(disch:=omega)only[go_sem,K.aB,↓reduceIte,lo,ro,mo,be,la,mo1,mo2,mo3,go1,go2,go3,go4,so,x1,x2,x3,ag,cp,PG,t0,dQ,gO,tl,hv1,Nat.reduceMul,reduceAdd,reduceSub]
 · simp only[c,decide_false]at lo
   simp(disch:=omega)only[go_sem,K.aB,↓reduceIte,lo,aw,Nat.reduceMul,reduceAdd,reduceSub]
end Go.Ev
