/- Parts of the proof: see the text that holds the theorem. -/
import Derived.Test.YtljlbkjecjloaaaGreatZ4
set_option linter.all false
set_option maxRecDepth 100000
namespace Go.Ev
open Go
variable [Lib] [cn] [bR]
theorem Ho{n:Nat}{p:Nat→Bool}{x:Int}:x∈gx n p↔∃k:Nat,x=k∧k<n∧p k=true:=by
 unfold gx
 simp only[List.mem_map,List.mem_filter,List.mem_range]
 constructor
 · rintro ⟨k,⟨h1,h2⟩,rfl⟩;exact⟨k,rfl,h1,h2⟩
 · rintro ⟨k,rfl,h1,h2⟩;exact⟨k,⟨h1,h2⟩,rfl⟩
theorem fY{n:Nat}{p:Nat→Bool}{k:Nat}:(k:Int)∈gx n p↔k<n∧p k=true:=by
 rw[Ho]
 constructor
 · rintro ⟨j,h,h1,h2⟩
   obtain rfl:k=j:=by omega
   exact⟨h1,h2⟩
 · rintro ⟨h1,h2⟩;exact⟨k,rfl,h1,h2⟩
theorem AX(l:List World)(hl:l.length≤4294967296)(f:Nat)(bs:List (List T))(p:World→Bool)(h:∀x,x∈l→aO 0 f (.t x.e::fe bs.length) (aS bs)=some (B (p x),aS bs)):
 aO 0 N.aD [.t (.sl (l.map World.e)),.fn f (fe bs.length)] (aS bs)=
 some (I (match (List.range l.length).find? (fun j=>p (nth l j))with | some j=>(j:Int) | none=> -1),aS bs):=by
 refine ax K.cE rfl ?_
 have loop:∀a b:D,exS aO K.ee ⟨[.t (.sl (l.map World.e)),.fn f (fe bs.length),a,b,I l.length,I 0],aS bs⟩=
  some (match (List.range l.length).find? (fun j=>p (nth l j))with
   | some j=>(.ret,⟨[.t (.sl (l.map World.e)),.fn f (fe bs.length),I j,I j,I l.length,I j],aS bs⟩)
   | none=>(.exit 0,⟨[.t (.sl (l.map World.e)),.fn f (fe bs.length),.und,.und,I l.length,I l.length],aS bs⟩)):=by
  intro a b
  refine cF (fun j=>⟨[.t (.sl (l.map World.e)),.fn f (fe bs.length),.und,.und,I l.length,I j],aS bs⟩) l.length (fun j=>p (nth l j)) _ _ rfl ?_ ?_ ?_ (by simp)
  · intro j hj hp
    have hc:=mi (h _ (aa hj)) rfl
    simp (disch:=omega) only[go_sem,K.bF,↓reduceIte,hc,hp]
  · intro j hj hp
    have hc:=mi (h _ (aa hj)) rfl
    simp (disch:=omega) only[go_sem,K.bF,↓reduceIte,hp,hc]
    simp
  · simp (disch:=omega) only[go_sem,K.bF,↓reduceIte]
 simp (disch:=omega) only[go_sem,K.aD,↓reduceIte,loop]
 cases hf:(List.range l.length).find? (fun j=>p (nth l j))with
 | some j=>simp (disch:=omega) only[go_sem,↓reduceIte]
 | none=>simp (disch:=omega) only[go_sem,↓reduceIte]
theorem AY{α:Type} [Dat α]{l:List α}{p:α→Bool}:((List.range l.length).find? fun j=>p (nth l j)).isSome=l.any p:=by
 rw[List.isSome_find?,Bool.eq_iff_iff,List.any_eq_true,List.any_eq_true]
 constructor
 · rintro ⟨j,hj,h⟩
   exact⟨_,aa (List.mem_range.1 hj),h⟩
 · rintro ⟨x,hx,h⟩
   obtain⟨j,hj⟩:=List.mem_iff_getElem?.1 hx
   exact⟨j,List.mem_range.2 (List.getElem?_eq_some_iff.1 hj).1,by rw[bB hj];exact h⟩
theorem J9{α:Type} [Dat α](l:List α)(p:α→Bool):l.any p=(List.range l.length).any fun i=>p (nth l i):=by
 rw[← AY,List.isSome_find?]
theorem qb(l:List World)(hl:l.length≤4294967296)(f:Nat)(bs:List (List T))(p:World→Bool)(h:∀x,x∈l→aO 0 f (.t x.e::fe bs.length) (aS bs)=some (B (p x),aS bs)):
 aO 0 N.ak [.t (.sl (l.map World.e)),.fn f (fe bs.length)] (aS bs)=some (B (l.any p),aS bs):=by
 refine ax K.cg rfl ?_
 have h:=AX l hl f bs p h
 have hc:=vd aO bs f _ 0 (.sl (l.map World.e)) h rfl
 have e:=AY (l:=l) (p:=p)
 cases hf:(List.range l.length).find? (fun j=>p (nth l j))with
 | some j=>rw[hf]at e hc;simp (disch:=omega) only[go_sem,K.ak,↓reduceIte,←e,hc]
 | none=>rw[hf]at e hc;simp (disch:=omega) only[go_sem,K.ak,↓reduceIte,←e,hc,Option.isSome_none]
def R6(person t:Int)(p:Nat)(x:World):Bool:=decide (0≤person∧person<x.whr.length)&&(decide (p<(nth x.whr person.toNat).frm.length)&&decide (nth (nth x.whr person.toNat).frm p≤t))
theorem Ka(x:World)(hx:x.sz)(person t:Int)(p:Nat)(hp:p≤1000000):
 aO 0 N.bk [.t x.e,.bp 0 0,.bp 1 0,.bp 2 0] [.box [I person],.box [I p],.box [I t]]=some (B (R6 person t p x),[.box [I person],.box [I p],.box [I t]]):=by
 refine ax K.iZ rfl ?_
 have li:=GW person 0 (x.whr.length-1)
 obtain⟨h1,h2,h3⟩:=hx
 unfold R6
 by_cases c:0≤person∧person<x.whr.length
 · obtain⟨c1,c2⟩:=c
   have e1:(x.whr.map Wh.e)[person.toNat]?=some (nth x.whr person.toNat).e:=cR _ (by omega)
   have h4:=h3 _ (aa (l:=x.whr) (j:=person.toNat) (by omega))
   have li':decide (0≤person∧person≤(x.whr.length:Int)-1)=true:=by simp;omega
   rw[li']at li
   generalize nth x.whr person.toNat=w at*
   obtain⟨tags,whr⟩:=x
   obtain⟨time,frm⟩:=w
   simp only at*
   by_cases c3:p<frm.length
   · simp (disch:=omega) only[go_sem,K.bk,↓reduceIte,Nat.reduceAdd,Nat.reduceSub,li,e1,c1,c2,c3,and_self]
   · simp (disch:=omega) only[go_sem,K.bk,↓reduceIte,Nat.reduceAdd,Nat.reduceSub,li,e1,c1,c2,c3,and_self]
 · have li':decide (0≤person∧person≤(x.whr.length:Int)-1)=false:=by simp;omega
   rw[li']at li
   obtain⟨tags,whr⟩:=x
   simp only at*
   simp (disch:=omega) only[go_sem,K.bk,↓reduceIte,Nat.reduceAdd,Nat.reduceSub,li,c]
theorem MQ(b:Bel)(hb:b.sz)(person t:Int)(p:Nat)(hp:p≤1000000):
 aO 0 N.bN [I p,.bp 0 0,.bp 1 0,.bp 2 0] [.box [.t (.sl (b.worlds.map World.e))],.box [I person],.box [I t]]=some (B (b.worlds.any (R6 person t p)),[.box [.t (.sl (b.worlds.map World.e))],.box [I person],.box [I t]]):=by
 refine ax K.kc rfl ?_
 have cf:=qb b.worlds (by have:=hb.1;omega) N.bk [[tI person],[tI p],[tI t]] (R6 person t p) (fun x hx=>Ka x (hb.2 x hx) person t p hp)
 have cf:aO 0 N.ak [.t (.sl (b.worlds.map World.e)),.fn N.bk [.bp 0 0,.bp 1 0,.bp 2 0]] [.box [I person],.box [I p],.box [I t]]=some (B (b.worlds.any (R6 person t p)),[.box [I person],.box [I p],.box [I t]]):=cf
 simp (disch:=omega) only[go_sem,K.bN,↓reduceIte,Nat.reduceAdd,Nat.reduceSub,cf]
theorem Kb(b:Bel)(person t:Int)(p:Nat):b.worlds.any (R6 person t p)=Uv b person t p:=by
 unfold Uv
 rw[J9]
 congr 1
 funext i
 unfold R6
 congr 1
 rw[Bool.eq_iff_iff]
 simp only[Bool.and_eq_true,decide_eq_true_eq,mJ,fY]
theorem Ew(b:Bel)(hb:b.sz)(person t:Int):aO 0 N.dw [.t b.e,I person,I t] []=some (.t (tL (y6 b person t)),[]):=by
 refine ax K.lK rfl ?_
 have wh:=w9 64 (by omega) N.bN [[.sl (b.worlds.map World.e)],[tI person],[tI t]] (Uv b person t) (fun p hp=>by rw[← Kb];exact MQ b hb person t p (by omega))
 have wh:aO 0 N.b9 [I 64,.fn N.bN [.bp 0 0,.bp 1 0,.bp 2 0]] [.box [.t (.sl (b.worlds.map World.e))],.box [I person],.box [I t]]=some (.t (tL (y6 b person t)),[.box [.t (.sl (b.worlds.map World.e))],.box [I person],.box [I t]]):=wh
 obtain⟨ws⟩:=b
 simp only at wh
 generalize y6 ⟨ws⟩ person t=r at*
 simp (disch:=omega) only[go_sem,K.dw,↓reduceIte,wh,Nat.reduceAdd,Nat.reduceSub]
theorem Kc(b:Bel)(person t:Int):(y6 b person t).length≤64:=oE _ _
end Go.Ev
namespace Go.Ev
open Go
variable [Lib] [cn] [bR] [gL] [gF] [km] [gg] [gh] [i5] [gK] [fI] [eO]
theorem AZ(l:List Wh)(hl:l.length≤4294967296)(f:Nat)(bs:List (List T))(p:Wh→Bool)(h:∀x,x∈l→aO 0 f (.t x.e::fe bs.length) (aS bs)=some (B (p x),aS bs)):
 aO 0 N.av [.t (.sl (l.map Wh.e)),.fn f (fe bs.length)] (aS bs)=
 some (I (match (List.range l.length).find? (fun j=>p (nth l j))with | some j=>(j:Int) | none=> -1),aS bs):=by
 refine ax K.bD rfl ?_
 have loop:∀a b:D,exS aO K.cA ⟨[.t (.sl (l.map Wh.e)),.fn f (fe bs.length),a,b,I l.length,I 0],aS bs⟩=
  some (match (List.range l.length).find? (fun j=>p (nth l j))with
   | some j=>(.ret,⟨[.t (.sl (l.map Wh.e)),.fn f (fe bs.length),I j,I j,I l.length,I j],aS bs⟩)
   | none=>(.exit 0,⟨[.t (.sl (l.map Wh.e)),.fn f (fe bs.length),.und,.und,I l.length,I l.length],aS bs⟩)):=by
  intro a b
  refine cF (fun j=>⟨[.t (.sl (l.map Wh.e)),.fn f (fe bs.length),.und,.und,I l.length,I j],aS bs⟩) l.length (fun j=>p (nth l j)) _ _ rfl ?_ ?_ ?_ (by simp)
  · intro j hj hp
    have hc:=mi (h _ (aa hj)) rfl
    simp (disch:=omega) only[go_sem,K.aZ,↓reduceIte,hc,hp]
  · intro j hj hp
    have hc:=mi (h _ (aa hj)) rfl
    simp (disch:=omega) only[go_sem,K.aZ,↓reduceIte,hp,hc]
    simp
  · simp (disch:=omega) only[go_sem,K.aZ,↓reduceIte]
 simp (disch:=omega) only[go_sem,K.av,↓reduceIte,loop]
 cases hf:(List.range l.length).find? (fun j=>p (nth l j))with
 | some j=>simp (disch:=omega) only[go_sem,↓reduceIte]
 | none=>simp (disch:=omega) only[go_sem,↓reduceIte]
theorem qc(l:List Wh)(hl:l.length≤4294967296)(f:Nat)(bs:List (List T))(p:Wh→Bool)(h:∀x,x∈l→aO 0 f (.t x.e::fe bs.length) (aS bs)=some (B (p x),aS bs)):
 aO 0 N.ae [.t (.sl (l.map Wh.e)),.fn f (fe bs.length)] (aS bs)=some (B (l.any p),aS bs):=by
 refine ax K.bC rfl ?_
 have h:=AZ l hl f bs p h
 have hc:=vd aO bs f _ 0 (.sl (l.map Wh.e)) h rfl
 have e:=AY (l:=l) (p:=p)
 cases hf:(List.range l.length).find? (fun j=>p (nth l j))with
 | some j=>rw[hf]at e hc;simp (disch:=omega) only[go_sem,K.ae,↓reduceIte,←e,hc]
 | none=>rw[hf]at e hc;simp (disch:=omega) only[go_sem,K.ae,↓reduceIte,←e,hc,Option.isSome_none]
theorem yF{l:List Int}:eH l=true↔l.Nodup∧∀x∈l,1≤x∧x≤65535:=by
 constructor
 · intro h
   refine⟨iR h,fun x hx=>?_⟩
   simp only[eH,List.all_eq_true,List.mem_range,mQ,decide_eq_true_eq]at h
   obtain⟨j,hj⟩:=List.mem_iff_getElem?.1 hx
   have:=h j (List.getElem?_eq_some_iff.1 hj).1
   rw[bB hj]at this
   exact⟨this.1,this.2.1⟩
 · rintro ⟨h1,h2⟩
   simp only[eH,List.all_eq_true,List.mem_range,mQ,decide_eq_true_eq]
   intro j hj
   obtain⟨a,b⟩:=h2 _ (aa hj)
   refine⟨a,b,Decidable.byContradiction fun c=>?_⟩
   obtain⟨d,e⟩:=vl (l:=l.take j) (x:=nth l j) (by omega)
   have z:0≤bM (l.take j) (nth l j):=by omega
   generalize bM (l.take j) (nth l j)=k at*
   rw[List.length_take]at d
   have k1:k.toNat<j:=by omega
   have e1:(l.take j)[k.toNat]?=l[k.toNat]?:=List.getElem?_take_of_lt k1
   have e2:l[k.toNat]?=some l[k.toNat]:=List.getElem?_eq_getElem (by omega)
   rw[bB (e1.trans e2),←bB e2]at e
   have n2:=(List.getElem?_inj (by omega:k.toNat<l.length) h1).1 (show l[k.toNat]?=l[j]? by rw[iP (by omega),iP hj,e])
   omega
theorem MR{l:List Int}{lo hi:Int}:OB l lo hi=true↔l.Pairwise (· < ·)∧∀x∈l,lo≤x∧x≤hi:=by
 have e:OB l lo hi=true↔∀j,j<l.length→lo≤nth l j∧nth l j≤hi∧(0<j→nth l (j-1)<nth l j):=by
  simp only[OB,Bool.not_eq_true',List.any_eq_false,List.mem_range,JF,Bool.not_eq_true]
  constructor
  · intro h j hj
    have:=h j hj
    exact Decidable.byContradiction fun c=>this (decide_eq_false c)
  · intro h j hj c
    exact(of_decide_eq_false c) (h j hj)
 rw[e]
 constructor
 · intro h
   refine⟨?_,fun x hx=>?_⟩
   · have key:∀d i,i+d+1<l.length→nth l i<nth l (i+d+1):=by
      intro d
      induction d with
      | zero=>intro i hi;have:=(h (i+0+1) hi).2.2 (by omega);simpa using this
      | succ d ih=>
        intro i hi
        have a:=ih i (by omega)
        have b:=(h (i+(d+1)+1) hi).2.2 (by omega)
        rw[show i+(d+1)+1-1=i+d+1 by omega]at b
        omega
     rw[List.pairwise_iff_getElem]
     intro i j hi hj hij
     have:=key (j-i-1) i (by omega)
     rw[show i+(j-i-1)+1=j by omega,bB (List.getElem?_eq_getElem hi),bB (List.getElem?_eq_getElem hj)]at this
     exact this
   · obtain⟨j,hj⟩:=List.mem_iff_getElem?.1 hx
     have:=h j (List.getElem?_eq_some_iff.1 hj).1
     rw[bB hj]at this
     exact⟨this.1,this.2.1⟩
 · rintro ⟨h1,h2⟩ j hj
   refine⟨(h2 _ (aa hj)).1,(h2 _ (aa hj)).2,fun h0=>?_⟩
   have:=(List.pairwise_iff_getElem.1 h1) (j-1) j (by omega) hj (by omega)
   rwa [← bB (List.getElem?_eq_getElem (by omega:j-1<l.length)),←bB (List.getElem?_eq_getElem hj)]at this
theorem Hp(l:List Int):OB (iL l) 1 65535=eH l:=by
 rw[Bool.eq_iff_iff,MR,yF]
 have p:=jR l
 have u:=ur l
 constructor
 · rintro ⟨h1,h2⟩
   refine⟨p.nodup_iff.1 (h1.imp fun h=>by omega),fun x hx=>h2 x (p.mem_iff.2 hx)⟩
 · rintro ⟨h1,h2⟩
   have nd:(iL l).Nodup:=p.nodup_iff.2 h1
   refine⟨?_,fun x hx=>h2 x (p.mem_iff.1 hx)⟩
   have:=List.Pairwise.and u nd
   exact this.imp fun h=>by omega
theorem Kd(l:List Int)(hl:l.length≤1000000):aO 0 N.eZ [.t (tL l)] []=some (B (eH l),[]):=by
 refine ax K.oh rfl ?_
 have v:=yx l
 have s:=yy l hl
 have r:=Cu (iL l) 1 65535 (by rw[lx];omega)
 rw[Hp]at r
 simp (disch:=omega) only[go_sem,K.eZ,↓reduceIte,v,s,r,Nat.reduceAdd,Nat.reduceSub]
theorem qT{n j:Nat}{p:Nat→Bool}(h1:j<n)(h2:p j=true)(h3:∀k,k<j→p k=false):(List.range n).find? p=some j:=by
 cases hf:(List.range n).find? p with
 | none=>exact absurd h2 (by simpa using List.find?_eq_none.1 hf j (List.mem_range.2 h1))
 | some k=>
   obtain⟨k1,k2⟩:=x8 hf
   have:k≤j:=by
    rcases Nat.lt_or_ge j k with c | c
    · rw[List.find?_range_eq_some]at hf
      exact absurd h2 (by simpa using hf.2.2 j c)
    · exact c
   rcases Nat.lt_or_ge k j with c | c
   · rw[h3 k c]at k2;cases k2
   · rw[show k=j by omega]
theorem CR{n:Nat}{p:Nat→Bool}(h:∀k,k<n→p k=false):(List.range n).find? p=none:=List.find?_eq_none.2 fun x hx=>by rw[h x (List.mem_range.1 hx)];simp
theorem CS(a b:List Int):decide (MI a b<0)=qM a b:=by
 unfold MI qM
 cases hf:(List.range (min a.length b.length)).find? (fun j=>decide (nth a j≠nth b j))with
 | some j=>
   rw[List.find?_range_eq_some]at hf
   obtain⟨h2,h1,h3⟩:=hf
   have h1:=List.mem_range.1 h1
   have e:(List.range a.length).find? (FZ a b)=some j:=qT (by omega) (by simp only[FZ,h2,Bool.or_true]) (fun k hk=>by
    have:=h3 k hk
    simp only[FZ,Bool.or_eq_false_iff,decide_eq_false_iff_not]
    exact⟨by omega,by simpa using this⟩)
   have h2:nth a j≠nth b j:=by simpa using h2
   rw[e]
   simp only[if_neg (by omega:¬b.length≤j)]
   rw[decide_eq_decide]
   unfold JU
   split
   · omega
   · split<;>omega
 | none=>
   have h3:∀k,k<min a.length b.length→nth a k=nth b k:=fun k hk=>by
    have:=List.find?_eq_none.1 hf k (List.mem_range.2 hk)
    simpa using this
   by_cases c:a.length≤b.length
   · have e:(List.range a.length).find? (FZ a b)=none:=CR fun k hk=>by
      simp only[FZ,Bool.or_eq_false_iff,decide_eq_false_iff_not,Decidable.not_not]
      exact⟨by omega,h3 k (by omega)⟩
     rw[e]
     simp only[decide_eq_decide]
     split<;>omega
   · have e:(List.range a.length).find? (FZ a b)=some b.length:=qT (by omega) (by simp[FZ]) (fun k hk=>by
      simp only[FZ,Bool.or_eq_false_iff,decide_eq_false_iff_not,Decidable.not_not]
      exact⟨by omega,h3 k (by omega)⟩)
     rw[e]
     simp only[Nat.le_refl,if_true,decide_eq_decide]
     omega
def pwB(m:aT)(ws:List World)(first:List Int)(i:Nat):Bool:=
 decide (1≤(nth ws i).tags.length∧(nth ws i).tags.length≤12)&&decide ((nth ws i).whr.length=(nth ws i).tags.length)&&eH (nth ws i).tags&&decide (iL (nth ws i).tags=iL first)&&(decide (i=0)||qM (nth ws (i-1)).tags (nth ws i).tags)&& !((nth ws i).whr.any fun x=> !cO m x)
def MS(m:aT)(b:Bel):Bool:=decide (1≤b.worlds.length∧b.worlds.length≤24)&&(List.range b.worlds.length).all (pwB m b.worlds (nth b.worlds 0).tags)
theorem wF{a b:List Int}:iL a=iL b↔a.Perm b:=by
 constructor
 · intro h
   exact(jR a).symm.trans (h▸jR b)
 · intro h
   exact acE (ur a) (ur b) ((jR a).trans (h.trans (jR b).symm))
theorem r8{a b:List Int}(ha:a.Nodup)(hb:b.Nodup)(hl:a.length=b.length)(hs:∀x∈a,x∈b):a.Perm b:=by
 have key:∀y∈b,y∈a:=fun y hy=>Decidable.byContradiction fun hn=>by
  have:=pV ha (l':=b.erase y) (fun x hx=>(List.mem_erase_of_ne (fun e=>hn (by rw[← e];exact hx))).2 (hs x hx))
  rw[List.length_erase_of_mem hy]at this
  have:=List.length_pos_of_mem hy
  omega
 exact(List.perm_ext_iff_of_nodup ha hb).2 fun x=>⟨hs x,key x⟩
theorem MT(m:aT)(b:Bel):MS m b=pI m b:=by
 obtain⟨ws⟩:=b
 rw[Bool.eq_iff_iff]
 constructor
 · intro h
   simp only[MS,Bool.and_eq_true,decide_eq_true_eq,List.all_eq_true,List.mem_range,pwB,Bool.or_eq_true,Bool.not_eq_true',List.any_eq_false,Bool.not_eq_false']at h
   obtain⟨⟨h1,h2⟩,h⟩:=h
   have h0:=h 0 (by omega)
   simp only[pI,Bool.and_eq_true,decide_eq_true_eq,List.all_eq_true,List.mem_range,oI,Bool.or_eq_true,H8]
   refine⟨⟨⟨h1,h2⟩,h0.1.1.1.1.1⟩,fun i hi=>?_⟩
   obtain⟨⟨⟨⟨⟨a1,a2⟩,a3⟩,a4⟩,a5⟩,a6⟩:=h i hi
   have pm:=wF.1 a4
   refine⟨⟨⟨⟨pm.length_eq,by rw[a2,pm.length_eq]⟩,a3⟩,a5⟩,fun k hk=>⟨?_,?_⟩⟩
   · exact kS.2 (pm.mem_iff.1 (aa hk))
   · simpa using a6 _ (aa (l:=(nth ws i).whr) (j:=k) (by omega))
 · intro h
   obtain⟨h1,h2,h3,h4,h5⟩:=eR h
   simp only at h1 h2 h3 h4 h5
   have p0:=(gN (h5 0 (by omega))).2.2.1
   simp only[MS,Bool.and_eq_true,decide_eq_true_eq,List.all_eq_true,List.mem_range,pwB,Bool.or_eq_true,Bool.not_eq_true',List.any_eq_false,Bool.not_eq_false']
   refine⟨⟨h1,h2⟩,fun i hi=>?_⟩
   obtain⟨w1,w2,w3,w4⟩:=gN (h5 i hi)
   have ls:=h5 i hi
   simp only[oI,Bool.and_eq_true,Bool.or_eq_true,decide_eq_true_eq]at ls
   refine⟨⟨⟨⟨⟨by omega,by omega⟩,w3⟩,?_⟩,ls.1.2⟩,fun x hx=>?_⟩
   · refine wF.2 (r8 (iR w3) (iR p0) w1 fun x hx=>?_)
     obtain⟨j,hj⟩:=List.mem_iff_getElem?.1 hx
     have:=(w4 j (List.getElem?_eq_some_iff.1 hj).1).1
     rwa [bB hj]at this
   · obtain⟨j,hj⟩:=List.mem_iff_getElem?.1 hx
     have:=(w4 j (by rw[w1,←w2];exact(List.getElem?_eq_some_iff.1 hj).1)).2
     rw[bB hj]at this
     simpa using this
theorem Ey{m:aT}(h:m.ok)(x:Wh)(hx:x.frm.length≤1000000):aO 0 N.cZ [.t x.e,.bp 0 0] [.box (ah m)]=some (B (!cO m x),[.box (ah m)]):=by
 refine ax K.mX rfl ?_
 have v:=JG h x hx
 obtain⟨places,roads⟩:=m
 obtain⟨time,frm⟩:=x
 simp only at*
 simp (disch:=omega) only[go_sem,K.cZ,↓reduceIte,v,Nat.reduceAdd,Nat.reduceSub]
abbrev swS(m:aT)(ws:List World)(first:List Int)(i:Nat):St:=
 ⟨[.und,.und,.bp 0 0,.bp 1 0,.und,.t (tL (iL first)),.und,.und,.t (.sl (ws.map World.e)),I ws.length,I i],[.box (ah m),.box [.t (.sl (ws.map World.e))],.box [.t (tL first)]]⟩
theorem Ke{m:aT}(h:m.ok)(ws:List World)(first:List Int)(hf:first.length≤1000000)(hs:∀x∈ws,x.sz)(i:Nat)(hi:i<ws.length)(hl:ws.length≤1000000):
 (pwB m ws first i=true→eY true [0,1,4,6,7] 3 (exS aO K.bI (swS m ws first i))=some (swS m ws first (i+1)))∧
 (pwB m ws first i=false→∃q,exS aO K.bI (swS m ws first i)=some q∧q.1= .ret∧q.2.vs[4]?=some (B false)):=by
 simp only[swS]
 have sz:=hs _ (aa hi)
 have ex:(ws.map World.e)[i]?=some (nth ws i).e:=cR _ hi
 unfold pwB
 have ey:0<i→(ws.map World.e)[i-1]?=some (nth ws (i-1)).e∧(nth ws (i-1)).tags.length≤1000000:=fun h0=>⟨cR _ (by omega),(hs _ (aa (by omega))).1⟩
 generalize nth ws (i-1)=y at*
 generalize nth ws i=x at*
 obtain⟨tags,whr⟩:=x
 obtain⟨ptags,pwhr⟩:=y
 obtain⟨s1,s2,s3⟩:=sz
 simp only at s1 s2 s3 ey ⊢
 have li:=GW tags.length 1 12
 have tg:=Kd tags s1
 have va:=yx tags
 have so:=yy tags s1
 have eq:=xh (iL tags) (iL first) (by rw[lx];omega) (by rw[lx];omega)
 have cf:=qc whr (by omega) N.cZ [[.sl (m.places.map Place.e),.sl (m.roads.map Road.e)]] (fun x=> !cO m x) (fun x hx=>Ey h x (s3 x hx))
 have cf:aO 0 N.ae [.t (.sl (whr.map Wh.e)),.fn N.cZ [.bp 0 0]] [.box (ah m)]=some (B (whr.any fun x=> !cO m x),[.box (ah m)]):=cf
 have cp:0<i→aO 0 N.aQ [.t (tL ptags),.t (tL tags)] []=some (I (MI ptags tags),[]):=fun h0=>zT ptags tags (ey h0).2 s1
 have cl:=CS ptags tags
 generalize iL tags=st at*
 generalize iL first=sf at*
 generalize (whr.any fun x=> !cO m x)=an at*
 generalize eH tags=pr at*
 generalize qM ptags tags=le at*
 generalize MI ptags tags=cc at*
 clear hs s3
 by_cases c1:1≤tags.length∧tags.length≤12
 · have li:aO 0 N.eu [I tags.length,I 1,I 12] []=some (B true,[]):=by rw[li,decide_eq_true (by omega)]
   by_cases c2:whr.length=tags.length
   · cases pr with
     | false=>
       refine⟨fun h=>by simp at h,fun _=>?_⟩
       simp (disch:=omega) only[go_sem,K.bI,↓reduceIte,li,tg,ex,c2,Nat.reduceAdd,Nat.reduceSub]
       refine⟨_,rfl,?_,?_⟩<;>rfl
     | true=>
       by_cases c4:st=sf
       · subst c4
         simp only[decide_true]at eq
         cases i with
         | zero=>
           cases an with
           | true=>
             refine⟨fun h=>by simp at h,fun _=>?_⟩
             simp (disch:=omega) only[go_sem,K.bI,↓reduceIte,li,tg,ex,c2,va,so,eq,cf,Nat.reduceAdd,Nat.reduceSub]
             refine⟨_,rfl,?_,?_⟩<;>rfl
           | false=>
             refine⟨fun _=>?_,fun h=>by simp[c1,c2]at h⟩
             simp (disch:=omega) only[go_sem,K.bI,↓reduceIte,li,tg,ex,c2,va,so,eq,cf,Nat.reduceAdd,Nat.reduceSub]
         | succ i=>
           obtain⟨ey, -⟩:=ey (by omega)
           have cp:=cp (by omega)
           simp only[Nat.add_sub_cancel]at ey
           cases le with
           | false=>
             have cl:¬cc<0:=by simpa using cl
             refine⟨fun h=>by simp at h,fun _=>?_⟩
             simp (disch:=omega) only[go_sem,K.bI,↓reduceIte,li,tg,ex,c2,va,so,eq,ey,cp,Nat.reduceAdd,Nat.reduceSub]
             refine⟨_,rfl,?_,?_⟩<;>rfl
           | true=>
             have cl:cc<0:=by simpa using cl
             cases an with
             | true=>
               refine⟨fun h=>by simp at h,fun _=>?_⟩
               simp (disch:=omega) only[go_sem,K.bI,↓reduceIte,li,tg,ex,c2,va,so,eq,ey,cp,cf,Nat.reduceAdd,Nat.reduceSub]
               refine⟨_,rfl,?_,?_⟩<;>rfl
             | false=>
               refine⟨fun _=>?_,fun h=>by simp[c1,c2]at h⟩
               simp (disch:=omega) only[go_sem,K.bI,↓reduceIte,li,tg,ex,c2,va,so,eq,ey,cp,cf,Nat.reduceAdd,Nat.reduceSub]
       · simp only[c4,decide_false]at eq
         refine⟨fun h=>by simp[c4]at h,fun _=>?_⟩
         simp (disch:=omega) only[go_sem,K.bI,↓reduceIte,li,tg,ex,c2,va,so,eq,Nat.reduceAdd,Nat.reduceSub]
         refine⟨_,rfl,?_,?_⟩<;>rfl
   · refine⟨fun h=>by simp[c2]at h,fun _=>?_⟩
     simp (disch:=omega) only[go_sem,K.bI,↓reduceIte,li,ex,c2,Nat.reduceAdd,Nat.reduceSub]
     refine⟨_,rfl,?_,?_⟩<;>rfl
 · have li:aO 0 N.eu [I tags.length,I 1,I 12] []=some (B false,[]):=by rw[li,decide_eq_false (by omega)]
   refine⟨fun h=>by simp[c1]at h,fun _=>?_⟩
   simp (disch:=omega) only[go_sem,K.bI,↓reduceIte,li,ex,Nat.reduceAdd,Nat.reduceSub]
   refine⟨_,rfl,?_,?_⟩<;>rfl
end Go.Ev
namespace Go.Ev
open Go
variable [Lib] [cn] [bR] [i5] [gK]
theorem yG{l:List Int}{n:Int}(h:rr l n=true):∀x∈l,0≤x∧x<n:=by
 intro x hx
 simp only[rr,List.all_eq_true,List.mem_range,decide_eq_true_eq]at h
 obtain⟨j,hj⟩:=List.mem_iff_getElem?.1 hx
 have:=h j (List.getElem?_eq_some_iff.1 hj).1
 rw[bB hj]at this
 exact⟨this.1,this.2.1⟩
theorem Kf{w:Wh}{l:List Int}{b:Int}{n:Nat}(hl:∀p∈l,0≤p∧p<n)(hw:∀x∈w.frm,plT x)(hn:w.frm.length=n):∀x∈(yd w l b n l.length).1,plT x:=by
 intro x hx
 obtain⟨j,hj⟩:=List.mem_iff_getElem?.1 hx
 have jl:=(List.getElem?_eq_some_iff.1 hj).1
 rw[kU]at jl
 have e:=AO (w:=w) (b:=b) hl _ (Nat.le_refl _) j jl
 rw[bB hj]at e
 rw[e]
 split
 · exact hw _ (aa (by omega))
 · exact .inl rfl
theorem CT{m:aT}(h:m.ok){w:Wh}(hv:cO m w=true)(l:List Int)(a b:Int):
 (xd m w l a b=(⟨b,cK m a none (yd w l b m.places.length l.length).1⟩,0)∧ke m w l a b=0∧w.time≤a∧(yd w l b m.places.length l.length).2=true∧cO m (xd m w l a b).1=true)∨((xd m w l a b).1=w∧(xd m w l a b).2≠0):=by
 by_cases c0:ke m w l a b=0
 · obtain⟨-,h0,hs,ia,ib,hab⟩:=kV c0
   by_cases c1:a<w.time
   · right;unfold xd;rw[if_neg (by simpa using c0),if_pos c1];exact⟨rfl,by simp⟩
   · cases c2:(yd w l b m.places.length l.length).2 with
     | false=>right;unfold xd;rw[if_neg (by simpa using c0),if_neg c1,if_neg (by simp[c2])];exact⟨rfl,by simp⟩
     | true=>
       left
       have e:xd m w l a b=(⟨b,cK m a none (yd w l b m.places.length l.length).1⟩,0):=by
        unfold xd;rw[if_neg (by simpa using c0),if_neg c1,if_pos c2]
       obtain⟨v1,v2,v3, -⟩:=bL hv
       refine⟨e,c0,by omega,rfl,?_⟩
       rw[e]
       exact pF h (kU ..) (Kf (yG hs) v3 v1) ia.1 hab ib
 · right;unfold xd;rw[if_pos c0];exact⟨rfl,c0⟩
theorem CU{m:aT}(h:m.ok){w:Wh}(hv:cO m w=true)(l:List Int)(a b:Int):cO m (xd m w l a b).1=true:=by
 rcases CT h hv l a b with⟨-, -, -, -,v⟩ | ⟨e, -⟩
 · exact v
 · rw[e];exact hv
end Go.Ev
namespace Go.Ev
open Go
variable [Lib] [cn] [bR] [gL] [gF] [gg] [gh] [i5] [gK]
theorem MU(a b:Wh)(ha:a.frm.length≤1000000):aO 0 N.fp [.t a.e,.t b.e] []=some (.tup [.t (ie a b).1.e,I (ie a b).2],[]):=by
 refine ax K.pH rfl ?_
 obtain⟨t1,l1⟩:=a
 obtain⟨t2,l2⟩:=b
 simp only[ie]at*
 by_cases c:l1.length=l2.length
 · rw[if_pos c]
   have ml:=kW l1 l2
   have lp:∀z0 z1 z2 z5 z7 z8:D,exS aO K.rZ ⟨[z0,z1,z2,.bp 1 0,.bp 2 0,z5,.bp 3 0,z7,z8,.t (tL l1),I l1.length,I 0],[.box [I t1,.t (tL l1)],.box [I t2,.t (tL l2)],.box [I 0,.nil],.box [I (max t1 t2),.ref 5 0 0],.arr 1 false 0 [],.arr 1 false 0 []]⟩=
    some (.exit 0,⟨[.und,.und,.und,.bp 1 0,.bp 2 0,.und,.bp 3 0,.und,.und,.t (tL l1),I l1.length,I l1.length],[.box [I t1,.t (tL l1)],.box [I t2,.t (tL l2)],.box [I 0,.nil],.box [I (max t1 t2),.ref 5 0 (zL l1 l2 l1.length).length],.arr 1 false 0 [],.arr 1 false 0 (((zL l1 l2 l1.length).map (T.int .i64)).map .t)]⟩):=by
    intro z0 z1 z2 z5 z7 z8
    refine dC (fun j=>⟨[.und,.und,.und,.bp 1 0,.bp 2 0,.und,.bp 3 0,.und,.und,.t (tL l1),I l1.length,I j],[.box [I t1,.t (tL l1)],.box [I t2,.t (tL l2)],.box [I 0,.nil],.box [I (max t1 t2),.ref 5 0 (zL l1 l2 j).length],.arr 1 false 0 [],.arr 1 false 0 (((zL l1 l2 j).map (T.int .i64)).map .t)]⟩) l1.length rfl ?_ ?_ (by simp)
    · intro j hj
      have lj:=ml j
      simp only[zL]
      generalize zL l1 l2 j=r at*
      simp (disch:=omega) only[go_sem,K.mN,↓reduceIte,Nat.reduceAdd,Nat.reduceSub]
    · simp (disch:=omega) only[go_sem,K.mN,↓reduceIte,Nat.reduceAdd,Nat.reduceSub]
   generalize zL l1 l2 l1.length=r at*
   have c2:=c.symm
   simp (disch:=omega) only[go_sem,K.fp,↓reduceIte,c2,lp,Nat.reduceAdd,Nat.reduceSub]
 · rw[if_neg c]
   simp (disch:=omega) only[go_sem,K.fp,↓reduceIte,c,Nat.reduceAdd,Nat.reduceSub]
   rfl
end Go.Ev
namespace Go.Ev
open Go
variable [Lib] [cn] [bR]
section
variable {m : aT} (hm : m.ok) {N : Nat} {b : Bel} (hb : BOk m N b) {s : Wh} (hs : s.frm.length = m.places.length) {l : List Mch}
variable (hl : ∀ y ∈ l, y.pl.length ≤ m.places.length ∧ 1 ≤ y.pl.length ∧ ∀ x ∈ y.pl, 0 ≤ x ∧ x < m.places.length) {t a : Int} (t0 : 0 ≤ t) (t1 : t ≤ 10000) (a0 : 0 ≤ a) (a1 : a ≤ 10000) (d : aC)
include hm hb hs hl t0 t1 a0 a1
omit hm hb t0 t1 a1 in
end
def aC.skip(d:aC)(n:Int):Nat→aC
 | 0=>d
 | k+1=>((d.skip n k).next n).2
end Go.Ev
namespace Go.Ev
open Go
variable [Lib] [cn] [bR] [km]
theorem Hq(s:Wh)(t:Int)(k:Nat)(hk:k<s.frm.length):aO 0 N.bG [I k,.bp 0 0,.bp 1 0] [.box [I s.time,.t (tL s.frm)],.box [I t]]=some (B (decide (nth s.frm k≤t)),[.box [I s.time,.t (tL s.frm)],.box [I t]]):=by
 refine ax K.jD rfl ?_
 simp (disch:=omega) only[go_sem,K.bG,↓reduceIte,Nat.reduceAdd,Nat.reduceSub]
theorem Kg(s:Wh)(t:Int)(hl:s.frm.length≤1000000):aO 0 N.cT [.t s.e,I t] []=some (.t (tL (mJ s t)),[]):=by
 refine ax K.kQ rfl ?_
 have wh:=w9 s.frm.length hl N.bG [[tI s.time,tL s.frm],[tI t]] (fun k=>decide (nth s.frm k≤t)) (fun k hk=>Hq s t k hk)
 have wh:aO 0 N.b9 [I s.frm.length,.fn N.bG [.bp 0 0,.bp 1 0]] [.box [I s.time,.t (tL s.frm)],.box [I t]]=some (.t (tL (mJ s t)),[.box [I s.time,.t (tL s.frm)],.box [I t]]):=wh
 obtain⟨time,frm⟩:=s
 simp only at hl wh
 generalize mJ ⟨time,frm⟩ t=r at*
 simp (disch:=omega) only[go_sem,K.cT,↓reduceIte,wh,Nat.reduceAdd,Nat.reduceSub]
end Go.Ev
namespace Go.Ev
open Go
variable [Lib] [cn] [bR] [gL] [gF] [km] [gg] [gh] [i5] [gK]
theorem A0(a b:List Int):∀n j,j<n→nth (zL a b n) j=min (nth a j) (nth b j)
 | 0,j,h=>by omega
 | n+1,j,h=>by
   have ln:=kW a b n
   by_cases e:j=n
   · subst e
     exact bB (by simp only[zL];rw[List.getElem?_append_right (by omega),ln];simp)
   · have ih:=A0 a b n j (by omega)
     rw[← ih]
     have:(zL a b n)[j]?=some (nth (zL a b n) j):=iP (by omega)
     exact bB (by simp only[zL];rw[List.getElem?_append_left (by omega)];exact this)
theorem Hr{m:aT}(h:m.ok){a b:Wh}(ha:cO m a=true)(hb:cO m b=true):(ie a b).2=0∧cO m (ie a b).1=true∧(ie a b).1.frm.length=m.places.length∧∀j,j<m.places.length→nth (ie a b).1.frm j=min (nth a.frm j) (nth b.frm j):=by
 obtain⟨a1,a2,a3, -⟩:=bL ha
 obtain⟨b1,b2,b3, -⟩:=bL hb
 have ca:=ug h ha
 have cb:=ug h hb
 have e:ie a b=(⟨max a.time b.time,zL a.frm b.frm a.frm.length⟩,0):=by unfold ie;rw[if_pos (by omega)]
 rw[e]
 have mn:=fun j (hj:j<m.places.length)=>A0 a.frm b.frm a.frm.length j (by omega)
 refine⟨rfl,yh h (by simp only[kW];exact a1) (by unfold inT at *;simp only;omega) (fun x hx=>?_) ?_,by simp only[kW];exact a1,mn⟩
 · obtain⟨j,hj⟩:=List.mem_iff_getElem?.1 hx
   have jl:=(List.getElem?_eq_some_iff.1 hj).1
   simp only[kW]at jl
   have:=mn j (by omega)
   rw[bB hj]at this
   have x1:=a3 _ (aa (l:=a.frm) (j:=j) jl)
   have x2:=b3 _ (aa (l:=b.frm) (j:=j) (by omega))
   unfold plT inT at*
   omega
 · intro k hk back hi h1 h2 h3
   have r1:=Road.tA (h.rs _ (aa hk)) back
   have r2:=Road.ya (h.rs _ (aa hk)) back
   simp only at h2 h3 ⊢
   rw[mn _ (by omega)]at h2 h3 ⊢
   rw[mn _ (by omega)]
   have y1:=ca k hk back rfl h1
   have y2:=cb k hk back rfl h1
   omega
theorem MV{m:aT}(h:m.ok){w:Wh}(hv:cO m w=true)(l:List Int)(a b:Int)(h0:(xd m w l a b).2=0):
 (xd m w l a b).1.frm.length=m.places.length∧∀j,nth w.frm j≤nth (xd m w l a b).1.frm j:=by
 rcases CT h hv l a b with⟨e,c0,ha,c2, -⟩ | ⟨-,e⟩
 · obtain⟨-, -,hs,ia,ib,hab⟩:=kV c0
   obtain⟨v1,v2,v3, -⟩:=bL hv
   have pl:=Kf (b:=b) (yG hs) v3 v1
   have bn:bnd (yd w l b m.places.length l.length).1:=fun x hx=>iH (pl x hx)
   rw[e]
   refine⟨(qH h (kU ..) bn).1,yf h (AN ha (ug h hv)) (kU ..) bn (fun j=>?_)⟩
   by_cases hj:j<m.places.length
   · rw[AO (yG hs) _ (Nat.le_refl _) j hj]
     split
     · exact Int.le_refl _
     · exact(iH (v3 _ (aa (by omega)))).2
   · rw[xe (by omega),xe (by rw[kU];omega)];exact Int.le_refl _
 · exact absurd h0 e
theorem Kh{m:aT}(h:m.ok){w:Wh}(hv:cO m w=true)(l:List Int)(a b bl:Int):
 (zK m w l a b bl=(⟨b,cK m b none (cK m (b-bl) (some l) (D9 w.frm l l.length))⟩,0)∧ke m w l a b=0∧w.time≤b∧max a w.time<b-bl∧inT bl∧
  (cK m (b-bl) (some l) (D9 w.frm l l.length)).length=m.places.length∧(∀x∈cK m (b-bl) (some l) (D9 w.frm l l.length),plT x))∨
 ((zK m w l a b bl).1=w∧((zK m w l a b bl).2=0→w.time≤b∧ke m w l a b=0)):=by
 by_cases c0:ke m w l a b=0
 · obtain⟨-,h0,hs,ia,ib,hab⟩:=kV c0
   by_cases c1:inT bl
   · by_cases c2:b<w.time
     · right;unfold zK;rw[if_neg (by simpa using c0),if_neg (fun x=>x c1),if_pos c2];exact⟨rfl,by simp⟩
     · by_cases c3:b-max a w.time≤bl
       · right;unfold zK;rw[if_neg (by simpa using c0),if_neg (fun x=>x c1),if_neg c2,if_pos c3];exact⟨rfl,fun _=>⟨by omega,c0⟩⟩
       · left
         obtain⟨v1,v2,v3, -⟩:=bL hv
         have pl:∀x∈D9 w.frm l l.length,plT x:=by
          have key:∀k,∀x∈D9 w.frm l k,plT x:=by
           intro k
           induction k with
           | zero=>exact v3
           | succ k ih=>
             intro x hx
             rcases List.mem_or_eq_of_mem_set hx with hx | hx
             · exact ih x hx
             · exact .inl hx
          exact key _
         have bn:bnd (D9 w.frm l l.length):=fun x hx=>iH (pl x hx)
         unfold inT at ia c1 v2 ib
         refine⟨?_,c0,by omega,by omega,c1,(qH h (by rw[uf];exact v1) bn).1,zN h plT (by rw[uf];exact v1) bn pl (fun x h1 h2=> .inr ⟨by omega,h2⟩)⟩
         unfold zK;rw[if_neg (by simpa using c0),if_neg (fun x=>x (by unfold inT;omega)),if_neg c2,if_neg c3]
   · right;unfold zK;rw[if_neg (by simpa using c0),if_pos c1];exact⟨rfl,by simp⟩
 · right;unfold zK;rw[if_pos c0];exact⟨rfl,fun h=>absurd h c0⟩
theorem Ki{m:aT}(h:m.ok){w:Wh}(hv:cO m w=true)(l:List Int)(a b bl:Int):cO m (zK m w l a b bl).1=true:=by
 rcases Kh h hv l a b bl with⟨e,c0, -,hm,hbl,ln,pl⟩ | ⟨e, -⟩
 · obtain⟨-, -,hs,ia,ib,hab⟩:=kV c0
   rw[e]
   exact pF h ln pl (by unfold inT at ib;omega) (Int.le_refl _) ib
 · rw[e];exact hv
end Go.Ev
namespace Go.Ev
open Go
variable [Lib] [cn] [bR] [gL] [gF] [km] [gg] [gh] [i5] [gK] [fI] [eO]
def lexB:List Int→List Int→Bool
 | _,[]=>false
 | [],_::_=>true
 | a::r,b::s=>decide (a<b)||(decide (a=b)&&lexB r s)
theorem uy(a:Int)(l:List Int)(j:Nat):nth (a::l) (j+1)=nth l j:=by simp[nth]
theorem uz(a:Int)(l:List Int):nth (a::l) 0=a:=by simp[nth]
theorem nF:∀a b:List Int,qM a b=lexB a b
 | a,[]=>by
   unfold qM lexB
   simp
 | [],b::s=>by
   unfold qM lexB
   simp
 | a::r,b::s=>by
   have ih:=nF r s
   unfold qM at ih ⊢
   have e:min (a::r).length (b::s).length=min r.length s.length+1:=by simp only[List.length_cons];omega
   rw[e,List.range_succ_eq_map,List.find?_cons]
   simp only[uz]
   by_cases h:a=b
   · subst h
     simp only[ne_eq,not_true_eq_false,decide_false,Bool.false_eq_true,List.find?_map,lexB,decide_true,Bool.true_and,Int.lt_irrefl,Bool.false_or]
     rw[← ih]
     have:((fun j=>decide (¬nth (a::r) j=nth (a::s) j)) ∘ Nat.succ)=fun j=>decide (nth r j≠nth s j):=by
      funext j
      simp only[Function.comp,Nat.succ_eq_add_one,uy,ne_eq]
     rw[this]
     cases (List.range (min r.length s.length)).find? (fun j=>decide (nth r j≠nth s j))with
     | some j=>simp only[Option.map_some,Nat.succ_eq_add_one,uy]
     | none=>simp only[Option.map_none,List.length_cons,Nat.add_lt_add_iff_right]
   · simp only[ne_eq,h,not_false_eq_true,decide_true,lexB,decide_false,Bool.false_and,Bool.or_false,uz]
theorem lex_trans:∀ {a b c:List Int},lexB a b=true→lexB b c=true→lexB a c=true
 | _,_,[],_,h=>by simp[lexB]at h
 | [],_,_::_,_,_=>rfl
 | _::_,[],_,h,_=>by simp[lexB]at h
 | a::r,b::s,c::t,h1,h2=>by
   simp only[lexB,Bool.or_eq_true,Bool.and_eq_true,decide_eq_true_eq]at h1 h2 ⊢
   rcases h1 with h1 | ⟨h1,k1⟩
   · rcases h2 with h2 | ⟨h2,k2⟩
     · left;omega
     · left;omega
   · rcases h2 with h2 | ⟨h2,k2⟩
     · left;omega
     · right;exact⟨by omega,lex_trans k1 k2⟩
theorem lex_irrefl:∀a:List Int,lexB a a=false
 | []=>rfl
 | a::r=>by simp[lexB,lex_irrefl r]
theorem m5:∀a b:List Int,lexB a b=true∨a=b∨lexB b a=true
 | [],[]=> .inr (.inl rfl)
 | [],_::_=> .inl rfl
 | _::_,[]=> .inr (.inr rfl)
 | a::r,b::s=>by
   simp only[lexB,Bool.or_eq_true,Bool.and_eq_true,decide_eq_true_eq,List.cons.injEq]
   rcases m5 r s with h | h | h
   · by_cases c:a<b
     · exact .inl (.inl c)
     · by_cases c2:a=b
       · exact .inl (.inr ⟨c2,h⟩)
       · exact .inr (.inr (.inl (by omega)))
   · by_cases c:a<b
     · exact .inl (.inl c)
     · by_cases c2:a=b
       · exact .inr (.inl ⟨c2,h⟩)
       · exact .inr (.inr (.inl (by omega)))
   · by_cases c:a<b
     · exact .inl (.inl c)
     · by_cases c2:a=b
       · exact .inr (.inr (.inr ⟨c2.symm,h⟩))
       · exact .inr (.inr (.inl (by omega)))
structure WV(m:aT)(first:List Int)(x:World):Prop where
 pm:x.tags.Perm first
 wl:x.whr.length=first.length
 wv:∀w∈x.whr,cO m w=true
structure BV(m:aT)(first:List Int)(ws:List World):Prop where
 pr:eH first=true
 f1:1≤first.length
 f2:first.length≤12
 wv:∀x∈ws,WV m first x
 up:ws.Pairwise fun x y=>lexB x.tags y.tags=true
theorem Ez{a b:List Int}(h:a.Perm b)(hb:eH b=true):eH a=true:=by
 rw[yF]at hb ⊢
 exact⟨h.nodup_iff.2 hb.1,fun x hx=>hb.2 x (h.mem_iff.1 hx)⟩
theorem BV.bel{m:aT}{first:List Int}{ws:List World}(h:BV m first ws)(h1:1≤ws.length)(h2:ws.length≤24):pI m ⟨ws⟩=true:=by
 have w0:=h.wv _ (aa (l:=ws) (j:=0) (by omega))
 have l0:=w0.pm.length_eq
 simp only[pI,Bool.and_eq_true,decide_eq_true_eq,List.all_eq_true,List.mem_range,oI,Bool.or_eq_true,H8]
 have f1:=h.f1
 have f2:=h.f2
 refine⟨⟨⟨h1,h2⟩,by omega⟩,fun i hi=>?_⟩
 have wi:=h.wv _ (aa (l:=ws) (j:=i) hi)
 have li:=wi.pm.length_eq
 have wl:=wi.wl
 refine⟨⟨⟨by omega,Ez wi.pm h.pr⟩,?_⟩,fun k hk=>⟨?_,?_⟩⟩
 · by_cases c:i=0
   · exact .inl c
   · right
     rw[nF]
     have:=(List.pairwise_iff_getElem.1 h.up) (i-1) i (by omega) hi (by omega)
     rwa [← bB (List.getElem?_eq_getElem (by omega:i-1<ws.length)),←bB (List.getElem?_eq_getElem hi)]at this
 · exact kS.2 (w0.pm.symm.mem_iff.1 (wi.pm.mem_iff.1 (aa hk)))
 · exact wi.wv _ (aa (by omega))
theorem qU{m:aT}{ws:List World}(h:pI m ⟨ws⟩=true):BV m (nth ws 0).tags ws:=by
 obtain⟨h1,h2,h3,h4,h5⟩:=eR h
 simp only at h1 h2 h3 h4 h5
 have p0:=(gN (h5 0 (by omega))).2.2.1
 refine⟨p0,h3,h4,fun x hx=>?_,?_⟩
 · obtain⟨i,hi⟩:=List.mem_iff_getElem?.1 hx
   have il:=(List.getElem?_eq_some_iff.1 hi).1
   obtain⟨w1,w2,w3,w4⟩:=gN (h5 i il)
   rw[bB hi]at w1 w2 w3 w4
   refine⟨r8 (iR w3) (iR p0) w1 fun y hy=>?_,w2,fun w hw=>?_⟩
   · obtain⟨j,hj⟩:=List.mem_iff_getElem?.1 hy
     have:=(w4 j (List.getElem?_eq_some_iff.1 hj).1).1
     rwa [bB hj]at this
   · obtain⟨j,hj⟩:=List.mem_iff_getElem?.1 hw
     have:=(w4 j (by rw[w1,←w2];exact(List.getElem?_eq_some_iff.1 hj).1)).2
     rwa [bB hj]at this
 · have key:∀d i,i+d+1<ws.length→lexB (nth ws i).tags (nth ws (i+d+1)).tags=true:=by
    intro d
    induction d with
    | zero=>
      intro i hi
      have:=h5 (i+1) hi
      simp only[oI,Bool.and_eq_true,Bool.or_eq_true,decide_eq_true_eq]at this
      have:=this.1.2
      rw[← nF]
      simpa using this
    | succ d ih=>
      intro i hi
      have a:=ih i (by omega)
      have:=h5 (i+(d+1)+1) hi
      simp only[oI,Bool.and_eq_true,Bool.or_eq_true,decide_eq_true_eq]at this
      have b:=this.1.2.resolve_left (by omega)
      rw[nF,show i+(d+1)+1-1=i+d+1 by omega]at b
      exact lex_trans a b
   rw[List.pairwise_iff_getElem]
   intro i j hi hj hij
   have:=key (j-i-1) i (by omega)
   rw[show i+(j-i-1)+1=j by omega,bB (List.getElem?_eq_getElem hi),bB (List.getElem?_eq_getElem hj)]at this
   exact this
end Go.Ev
namespace Go.Ev.K
open Go.Ev
end Go.Ev.K
namespace Go.Ev
class lB [Lib]:Prop where
namespace K
variable [Lib] [lB]
end K
end Go.Ev
namespace Go.Ev.K
open Go.Ev
def yH:C:=(.its [u (.bin .lss v7 v6)] [] 0 .skip (.exit 0) (.seq (.blk 1 (.seq (.reg [a 2 v5 v7,h 2 l0,w 4 (.al [.t (.int .i64 (0)),.nil] []),u (.st l0 l1 2 [])] []) (.reg [f 1 v3,g l0,f 0 v4,g l0,f 1 v4,g l0,u (.ca N.aU 0 [] [.l 0]),u (.bd [.t (.int .i64 (0)),.nil] [(0,1,.l 3),(1,1,.l 0)]),u (.bs [.l 0] 2),u (.app l7 l0 true 2),f 1 v3,u (.st l0 l1 1 [])] [(1,7),(1,9),(3,7)]))) (.reg [u (.bin .add v7 (.i 1)),w 7 (.mv l0)] [])))
def y7:C:= .loop true [0,1,4] K.yH
def jC:Fn:={ nargs:=1,vars:=[0,1,2,3,5,11,12,13],body:=(.seq (.reg [w 1 (.bx v0 2),w 2 (.al [.nil,.nil] [])] []) (.seq (.reg [f 0 v1,g l0,u (.ca N.aU 0 [] [.l 0]),u (.bd [.nil,.nil] [(0,1,.l 0)]),w 3 (.al [.nil,.nil] [(1,2)]),u (.st l0 l1 2 [(1,2)])] []) (.seq (.seq (.reg [f 1 v1,w 5 (.ld l0 1 false),w 6 (.ln l0),w 7 (.mv (.i 0))] []) (.blk 0 K.y7)) (.seq (.reg [h 2 v3,u (.st v2 l0 2 [])] []) .ret)))),res:=[(2,some (2,true))]}
def m6:C:=(.its [u (.bin .lss v11 v10)] [] 0 .skip (.exit 2) (.seq (.blk 3 (.seq (.reg [m v11,w 6 (.mv l0)] []) (.reg [m v3,m v5,u (.bin .sub l0 (.i 1)),a 2 l2 l0,f 1 l0,g l0,m v6,m v3,m v5,u (.bin .sub l0 (.i 1)),a 2 l2 l0,f 1 l0,g l0,m v6,a 2 l1 l0,h 2 l0,f 1 v4,g l0,m v6,a 2 l1 l0,h 2 l0,u (.ca N.fp 0 [] [.l 5,.l 0]),m l0,u (.ex l0 0),u (.ex l1 1),a 2 (.l 19) (.l 18),u (.st l0 l2 2 [])] [(3,22),(5,22)]))) (.reg [u (.bin .add v11 (.i 1)),w 11 (.mv l0)] [])))
def r9:C:= .loop false [0,1,2,6] K.m6
def gC:C:=(.its [u (.bin .lss v9 v8)] [] 0 .skip (.exit 0) (.seq (.blk 1 (.seq (.reg [a 2 v7 v9,h 2 l0,w 4 (.al [.nil,.nil] []),u (.st l0 l1 2 [])] []) (.seq (.seq (.reg [m v3,u (.ln l0),w 5 (.mv l0)] []) (.ite [m v5,u (.bin .gtr l0 (.i 0)),m l0,y 0 true (.mv v3),y 1 true (.mv v5),y 2 true (.bin .sub l0 (.i 1)),y 3 true (.ia l2 l0 2),y 4 true (.fa l0 0),y 5 true (.ld l0 1 false),y 6 true (.fa v4 0),y 7 true (.ld l0 1 false),y 8 true (.ca N.aX 0 [] [.l 2,.l 0]),u (.pk l9 l0 (.b false))] [] 0 (.seq (.seq (.reg [f 1 v4,g l0,w 10 (.ln l0),w 11 (.mv (.i 0))] []) (.blk 2 K.r9)) (.exit 1)) .skip)) (.reg [m v3,h 2 v4,u (.ca N.cX 1 [] [.l 0]),u (.bsr [.l 0] 2),u (.app l3 l0 false 2),w 3 (.mv l0)] [])))) (.reg [u (.bin .add v9 (.i 1)),w 9 (.mv l0)] [])))
def sg:C:= .loop false [0,1,2,4,5,6,10,11] K.gC
def fW:Fn:={ nargs:=1,vars:=[0,2,3,4,6,7,8,12,13,14,35,36],body:=(.seq (.reg [w 1 (.mv (.c (.nil)))] []) (.seq (.reg [m v0,u (.ca N.aI 0 [] [.l 0]),u (.ca N.aH 0 [] [.l 0,.c (.fn N.a8 [])]),w 2 (.mv l0)] []) (.seq (.reg [w 3 (.nw 2)] []) (.seq (.seq (.reg [w 7 (.mv v2),w 8 (.ln l0),w 9 (.mv (.i 0))] []) (.blk 0 K.sg)) (.seq (.reg [m v3,w 1 (.mv l0)] []) .ret))))),res:=[(1,none)]}
def aH:Fn:={ nargs:=2,vars:=[0,1,4,5],body:=(.seq (.reg [w 2 (.mv (.c (.nil)))] []) (.seq (.reg [m v0,u (.ca N.bu 1 [] [.l 0]),w 3 (.mv l0)] []) (.seq (.reg [m v3,m v1,u (.ca N.aA 0 [0] [.l 1,.l 0])] []) (.seq (.reg [m v3,w 2 (.mv l0)] []) .ret)))),res:=[(2,none)]}
def aI:Fn:={ nargs:=1,vars:=[0,1,2],body:=(.seq (.reg [w 1 (.bx v0 1),w 2 (.mv (.c (.und)))] []) (.seq (.reg [u (.mf N.aq [.v 1]),w 2 (.mv l0)] []) .ret)),res:=[(2,none)]}
def a8:Fn:={ nargs:=2,vars:=[0,1,2,3,4],body:=(.seq (.reg [w 2 (.bx v0 2),w 3 (.bx v1 2),w 4 (.mv (.i 0))] []) (.seq (.reg [f 0 v2,g l0,f 0 v3,g l0,u (.ca N.aQ 0 [] [.l 2,.l 0]),w 4 (.mv l0)] []) .ret)),res:=[(4,none)]}
def bu:Fn:={ nargs:=1,vars:=[2],body:= .fail,res:=[(0,none)],prim:=[3,N.aq]}
def aA:Fn:={ nargs:=2,vars:=[0,1],body:=(.reg [m v0,m v0,u (.ln l0),m v1,u (.ca N.aP 0 [0] [.l 3,.l 1,.l 0])] []),res:=[]}
def iI:C:=(.its [u (.bin .lss v5 v4)] [] 0 .skip (.exit 0) (.seq (.blk 1 (.seq (.reg [a 2 v3 v5,h 2 l0,w 2 (.al [.nil,.nil] []),u (.st l0 l1 2 [])] []) (.ite [m v0,h 2 v2,u (.cw l1 0 [] [.l 0]),u (.un .not l0)] [] 0 .ret .skip))) (.reg [u (.bin .add v5 (.i 1)),w 5 (.mv l0)] [])))
def iT:C:= .loop true [1,2] K.iI
def aq:Fn:={ nargs:=2,vars:=[0,1,4,5,6,7],body:=(.seq (.reg [w 3 (.ld v1 1 false),w 4 (.ln l0),w 5 (.mv (.i 0))] []) (.blk 0 K.iT)),res:=[]}
def fC:C:=(.seq (.ite [m v5,m v1,u (.bin .leq l1 l0)] [] 0 .skip (.exit 0)) (.blk 1 (.seq (.reg [m v0,m v4,m v5,m v2,u (.ca N.ay 0 [0] [.l 3,.l 2,.l 1,.l 0])] []) (.seq (.reg [m v5,w 4 (.mv l0)] []) (.reg [m v5,m v3,u (.bin .add l1 l0),w 5 (.mv l0)] [])))))
def fR:C:= .loop true [6] K.fC
def jV:C:=(.seq (.ite [m v5,m v1,u (.bin .leq l1 l0)] [] 0 .skip (.exit 4)) (.blk 5 (.seq (.reg [m v0,m v4,m v4,m v3,u (.bin .add l1 l0),m v5,m v2,u (.ca N.aE 0 [0] [.l 6,.l 5,.l 2,.l 1,.l 0])] []) (.seq (.reg [m v5,w 4 (.mv l0)] []) (.reg [m v5,m v3,u (.bin .mul (.i 2) l0),u (.bin .add l2 l0),w 5 (.mv l0)] [])))))
def kp:C:= .loop true [6] K.jV
def fD:C:=(.seq (.ite [m v3,m v1,u (.bin .lss l1 l0)] [] 0 .skip (.exit 2)) (.blk 3 (.seq (.reg [m v3,u (.bin .mul (.i 2) l0),w 4 (.mv (.i 0)),w 5 (.mv l1)] []) (.seq (.blk 4 K.kp) (.seq (.seq (.reg [m v4,m v3,u (.bin .add l1 l0),w 6 (.mv l0)] []) (.ite [m v6,m v1,u (.bin .lss l1 l0)] [] 0 (.reg [m v0,m v4,m v6,m v1,m v2,u (.ca N.aE 0 [0] [.l 4,.l 3,.l 2,.l 1,.l 0])] []) .skip)) (.reg [m v3,u (.bin .mul l0 (.i 2)),w 3 (.mv l0)] []))))))
def fS:C:= .loop true [4,5,6] K.fD
def aP:Fn:={ nargs:=3,vars:=[0,1,2,6,7,8,9],body:=(.seq (.reg [w 3 (.mv (.i 20))] []) (.seq (.reg [m v3,w 4 (.mv (.i 0)),w 5 (.mv l1)] []) (.seq (.blk 0 K.fR) (.seq (.reg [m v0,m v4,m v1,m v2,u (.ca N.ay 0 [0] [.l 3,.l 2,.l 1,.l 0])] []) (.blk 2 K.fS))))),res:=[]}
def aL:C:=(.seq (.ite [m v5,m v1,u (.bin .gtr l1 l0),m l0,y 0 true (.mv v3),y 1 true (.mv v0),y 2 true (.mv v5),y 3 true (.ia l1 l0 2),y 4 true (.ld l0 2 true),y 5 true (.mv v0),y 6 true (.mv v5),y 7 true (.bin .sub l0 (.i 1)),y 8 true (.ia l2 l0 2),y 9 true (.ld l0 2 true),y 10 true (.cw l9 0 [] [.l 5,.l 0]),y 11 true (.bin .lss l0 (.i 0)),u (.pk (.l 12) l0 (.b false))] [] 0 .skip (.exit 2)) (.seq (.blk 3 (.reg [m v0,m v5,m v0,m v5,u (.bin .sub l0 (.i 1)),m v0,m v5,u (.bin .sub l0 (.i 1)),a 2 l2 l0,h 2 l0,m v0,m v5,a 2 l1 l0,h 2 l0,a 2 (.l 13) (.l 12),u (.st l0 l5 2 []),a 2 (.l 13) l11,u (.st l0 l3 2 [])] [])) (.reg [m v5,u (.bin .sub l0 (.i 1)),w 5 (.mv l0)] [])))
def dV:C:= .loop true [] K.aL
def aW:C:=(.seq (.ite [m v4,m v2,u (.bin .lss l1 l0)] [] 0 .skip (.exit 0)) (.seq (.blk 1 (.seq (.reg [m v4,w 5 (.mv l0)] []) (.blk 2 K.dV))) (.reg [m v4,u (.bin .add l0 (.i 1)),w 4 (.mv l0)] [])))
def cr:C:= .loop true [5] K.aW
def ay:Fn:={ nargs:=4,vars:=[0,1,2,3,8,9],body:=(.seq (.reg [m v1,u (.bin .add l0 (.i 1)),w 4 (.mv l0)] []) (.blk 0 K.cr)),res:=[]}
def jm:C:=(.seq (.ite [m v5,m v6,u (.bin .lss l1 l0)] [] 0 .skip (.exit 0)) (.blk 1 (.seq (.reg [m v5,m v6,u (.bin .add l1 l0),u (.cv .u64 l0),u (.bin .shr l0 (.c (.t (.int .u64 (1))))),u (.cv .i64 l0),w 7 (.mv l0)] []) (.ite [m v4,m v0,m v7,a 2 l1 l0,h 2 l0,m v0,m v1,a 2 l1 l0,h 2 l0,u (.cw l8 0 [] [.l 4,.l 0]),u (.bin .lss l0 (.i 0))] [] 0 (.reg [m v7,u (.bin .add l0 (.i 1)),w 5 (.mv l0)] []) (.reg [m v7,w 6 (.mv l0)] [])))))
def jF:C:= .loop true [2,3,7,8,9,10,11,12,13,14,15,16,17,18,19] K.jm
def jq:C:=(.seq (.ite [m v8,m v5,u (.bin .sub l0 (.i 1)),u (.bin .lss l2 l0)] [] 0 .skip (.exit 2)) (.seq (.blk 3 (.reg [m v0,m v8,m v0,m v8,u (.bin .add l0 (.i 1)),m v0,m v8,u (.bin .add l0 (.i 1)),a 2 l2 l0,h 2 l0,m v0,m v8,a 2 l1 l0,h 2 l0,a 2 (.l 13) (.l 12),u (.st l0 l5 2 []),a 2 (.l 13) l11,u (.st l0 l3 2 [])] [])) (.reg [m v8,u (.bin .add l0 (.i 1)),w 8 (.mv l0)] [])))
def jG:C:= .loop true [1,2,3,4,6,7,9,10,11,12,13,14,15,16,17,18,19] K.jq
def jr:C:=(.seq (.ite [m v9,m v10,u (.bin .lss l1 l0)] [] 0 .skip (.exit 4)) (.blk 5 (.seq (.reg [m v9,m v10,u (.bin .add l1 l0),u (.cv .u64 l0),u (.bin .shr l0 (.c (.t (.int .u64 (1))))),u (.cv .i64 l0),w 11 (.mv l0)] []) (.ite [m v4,m v0,m v2,a 2 l1 l0,h 2 l0,m v0,m v11,a 2 l1 l0,h 2 l0,u (.cw l8 0 [] [.l 4,.l 0]),u (.bin .lss l0 (.i 0)),u (.un .not l0)] [] 0 (.reg [m v11,u (.bin .add l0 (.i 1)),w 9 (.mv l0)] []) (.reg [m v11,w 10 (.mv l0)] [])))))
def jH:C:= .loop true [1,3,5,6,7,8,11,12,13,14,15,16,17,18,19] K.jr
def jt:C:=(.seq (.ite [m v12,m v9,u (.bin .gtr l1 l0)] [] 0 .skip (.exit 6)) (.seq (.blk 7 (.reg [m v0,m v12,m v0,m v12,u (.bin .sub l0 (.i 1)),m v0,m v12,u (.bin .sub l0 (.i 1)),a 2 l2 l0,h 2 l0,m v0,m v12,a 2 l1 l0,h 2 l0,a 2 (.l 13) (.l 12),u (.st l0 l5 2 []),a 2 (.l 13) l11,u (.st l0 l3 2 [])] [])) (.reg [m v12,u (.bin .sub l0 (.i 1)),w 12 (.mv l0)] [])))
def jI:C:= .loop true [1,2,3,4,5,6,7,8,10,11,13,14,15,16,17,18,19] K.jt
def ju:C:=(.seq (.ite [m v15,m v16,u (.bin .lss l1 l0)] [] 0 .skip (.exit 8)) (.blk 9 (.seq (.reg [m v15,m v16,u (.bin .add l1 l0),u (.cv .u64 l0),u (.bin .shr l0 (.c (.t (.int .u64 (1))))),u (.cv .i64 l0),w 18 (.mv l0)] []) (.ite [m v4,m v0,m v17,m v18,u (.bin .sub l1 l0),a 2 l3 l0,h 2 l0,m v0,m v18,a 2 l1 l0,h 2 l0,u (.cw l10 0 [] [.l 4,.l 0]),u (.bin .lss l0 (.i 0)),u (.un .not l0)] [] 0 (.reg [m v18,u (.bin .add l0 (.i 1)),w 15 (.mv l0)] []) (.reg [m v18,w 16 (.mv l0)] [])))))
def jJ:C:= .loop true [5,6,7,8,9,10,11,12,18,19] K.ju
def aE:Fn:={ nargs:=5,vars:=[0,1,2,3,4,10,11,12,13,14,15,16,17,18,19,20,21,22,23,24],body:=(.seq (.ite [m v2,m v1,u (.bin .sub l1 l0),u (.bin .eql l0 (.i 1))] [] 0 (.seq (.reg [m v2,w 5 (.mv l0)] []) (.seq (.reg [m v3,w 6 (.mv l0)] []) (.seq (.blk 0 K.jF) (.seq (.seq (.reg [m v1,w 8 (.mv l0)] []) (.blk 2 K.jG)) .ret)))) .skip) (.seq (.ite [m v3,m v2,u (.bin .sub l1 l0),u (.bin .eql l0 (.i 1))] [] 0 (.seq (.reg [m v1,w 9 (.mv l0)] []) (.seq (.reg [m v2,w 10 (.mv l0)] []) (.seq (.blk 4 K.jH) (.seq (.seq (.reg [m v2,w 12 (.mv l0)] []) (.blk 6 K.jI)) .ret)))) .skip) (.seq (.reg [m v1,m v3,u (.bin .add l1 l0),u (.cv .u64 l0),u (.bin .shr l0 (.c (.t (.int .u64 (1))))),u (.cv .i64 l0),w 13 (.mv l0)] []) (.seq (.reg [m v13,m v2,u (.bin .add l1 l0),w 14 (.mv l0)] []) (.seq (.reg [w 15 (.mv (.i 0)),w 16 (.mv (.i 0))] []) (.seq (.ite [m v2,m v13,u (.bin .gtr l1 l0)] [] 0 (.seq (.reg [m v14,m v3,u (.bin .sub l1 l0),w 15 (.mv l0)] []) (.reg [m v13,w 16 (.mv l0)] [])) (.seq (.reg [m v1,w 15 (.mv l0)] []) (.reg [m v2,w 16 (.mv l0)] []))) (.seq (.reg [m v14,u (.bin .sub l0 (.i 1)),w 17 (.mv l0)] []) (.seq (.blk 8 K.jJ) (.seq (.reg [m v14,m v15,u (.bin .sub l1 l0),w 19 (.mv l0)] []) (.seq (.ite [m v15,m v2,u (.bin .lss l1 l0),m l0,y 0 true (.mv v2),y 1 true (.mv v19),y 2 true (.bin .lss l1 l0),u (.pk l3 l0 (.b false))] [] 0 (.reg [m v0,m v15,m v2,m v19,m v4,u (.ca N.a7 0 [0] [.l 4,.l 3,.l 2,.l 1,.l 0])] []) .skip) (.seq (.ite [m v1,m v15,u (.bin .lss l1 l0),m l0,y 0 true (.mv v15),y 1 true (.mv v13),y 2 true (.bin .lss l1 l0),u (.pk l3 l0 (.b false))] [] 0 (.reg [m v0,m v1,m v15,m v13,m v4,u (.ca N.aE 0 [0] [.l 4,.l 3,.l 2,.l 1,.l 0])] []) .skip) (.ite [m v13,m v19,u (.bin .lss l1 l0),m l0,y 0 true (.mv v19),y 1 true (.mv v3),y 2 true (.bin .lss l1 l0),u (.pk l3 l0 (.b false))] [] 0 (.reg [m v0,m v13,m v19,m v3,m v4,u (.ca N.aE 0 [0] [.l 4,.l 3,.l 2,.l 1,.l 0])] []) .skip)))))))))))),res:=[]}
def jW:C:=(.seq (.ite [m v5,m v6,u (.bin .neq l1 l0)] [] 0 .skip (.exit 0)) (.blk 1 (.ite [m v5,m v6,u (.bin .gtr l1 l0)] [] 0 (.seq (.reg [m v0,m v2,m v5,u (.bin .sub l1 l0),m v2,m v6,m v4,u (.ca N.aJ 0 [0] [.l 6,.l 3,.l 2,.l 1,.l 0])] []) (.reg [m v5,m v6,u (.bin .sub l1 l0),w 5 (.mv l0)] [])) (.seq (.reg [m v0,m v2,m v5,u (.bin .sub l1 l0),m v2,m v6,u (.bin .add l1 l0),m v5,u (.bin .sub l1 l0),m v5,m v4,u (.ca N.aJ 0 [0] [.l 10,.l 7,.l 2,.l 1,.l 0])] []) (.reg [m v6,m v5,u (.bin .sub l1 l0),w 6 (.mv l0)] [])))))
def kq:C:= .loop true [1,3] K.jW
def a7:Fn:={ nargs:=5,vars:=[0,1,2,3,4,10,11],body:=(.seq (.reg [m v2,m v1,u (.bin .sub l1 l0),w 5 (.mv l0)] []) (.seq (.reg [m v3,m v2,u (.bin .sub l1 l0),w 6 (.mv l0)] []) (.seq (.blk 0 K.kq) (.reg [m v0,m v2,m v5,u (.bin .sub l1 l0),m v2,m v5,m v4,u (.ca N.aJ 0 [0] [.l 6,.l 3,.l 2,.l 1,.l 0])] [])))),res:=[]}
def i6:C:=(.seq (.ite [m v4,m v3,u (.bin .lss l1 l0)] [] 0 .skip (.exit 0)) (.seq (.blk 1 (.reg [m v0,m v1,m v4,u (.bin .add l1 l0),m v0,m v2,m v4,u (.bin .add l1 l0),m v0,m v2,m v4,u (.bin .add l1 l0),a 2 l3 l0,h 2 l0,m v0,m v1,m v4,u (.bin .add l1 l0),a 2 l3 l0,h 2 l0,a 2 (.l 19) (.l 16),u (.st l0 l7 2 []),a 2 (.l 17) (.l 14),u (.st l0 l3 2 [])] [])) (.reg [m v4,u (.bin .add l0 (.i 1)),w 4 (.mv l0)] [])))
def jv:C:= .loop true [] K.i6
def aJ:Fn:={ nargs:=5,vars:=[0,1,2,3,10],body:=(.seq (.reg [w 4 (.mv (.i 0))] []) (.blk 0 K.jv)),res:=[]}
def kr:C:=(.its [u (.bin .lss v7 v6)] [] 0 .skip (.exit 0) (.seq (.blk 1 (.seq (.reg [a 2 v5 v7,h 2 l0,w 4 (.al [.t (.int .i64 (0)),.nil] []),u (.st l0 l1 2 [])] []) (.reg [f 1 v3,g l0,f 0 v4,g l0,f 1 v4,g l0,u (.ca N.aU 1 [] [.l 0]),u (.bd [.t (.int .i64 (0)),.nil] [(0,1,.l 3),(1,1,.l 0)]),u (.bs [.l 0] 2),u (.app l7 l0 true 2),f 1 v3,u (.st l0 l1 1 [])] [(1,7),(1,9),(3,7)]))) (.reg [u (.bin .add v7 (.i 1)),w 7 (.mv l0)] [])))
def oL:C:= .loop true [0,1,4] K.kr
def cX:Fn:={ nargs:=1,vars:=[0,1,2,3,5,11,12,13],body:=(.seq (.reg [w 1 (.bx v0 2),w 2 (.al [.nil,.nil] [])] []) (.seq (.reg [f 0 v1,g l0,u (.ca N.aU 1 [] [.l 0]),u (.bd [.nil,.nil] [(0,1,.l 0)]),w 3 (.al [.nil,.nil] [(1,2)]),u (.st l0 l1 2 [(1,2)])] []) (.seq (.seq (.reg [f 1 v1,w 5 (.ld l0 1 false),w 6 (.ln l0),w 7 (.mv (.i 0))] []) (.blk 0 K.oL)) (.seq (.reg [h 2 v3,u (.st v2 l0 2 [])] []) .ret)))),res:=[(2,some (2,true))]}
end Go.Ev.K
namespace Go.Ev
class gD [Lib]:Prop where
 uA:Lib.fs N.jC=some K.jC
 pY:Lib.fs N.fW=some K.fW
 di:Lib.fs N.aH=some K.aH
 dj:Lib.fs N.aI=some K.aI
 m7:Lib.fs N.a8=some K.a8
 fJ:Lib.fs N.bu=some K.bu
 bW:Lib.fs N.aA=some K.aA
 eT:Lib.fs N.aq=some K.aq
 dK:Lib.fs N.aP=some K.aP
 bJ:Lib.fs N.ay=some K.ay
 fE:Lib.fs N.aE=some K.aE
 fZ:Lib.fs N.a7=some K.a7
 fw:Lib.fs N.aJ=some K.aJ
 lM:Lib.fs N.cX=some K.cX
namespace K
variable [Lib] [gD]
theorem uA:Lib.fs N.jC=some K.jC:=gD.uA
theorem pY:Lib.fs N.fW=some K.fW:=gD.pY
theorem di:Lib.fs N.aH=some K.aH:=gD.di
theorem dj:Lib.fs N.aI=some K.aI:=gD.dj
theorem m7:Lib.fs N.a8=some K.a8:=gD.m7
theorem fJ:Lib.fs N.bu=some K.bu:=gD.fJ
theorem bW:Lib.fs N.aA=some K.aA:=gD.bW
theorem eT:Lib.fs N.aq=some K.aq:=gD.eT
theorem dK:Lib.fs N.aP=some K.aP:=gD.dK
theorem bJ:Lib.fs N.ay=some K.ay:=gD.bJ
theorem fE:Lib.fs N.aE=some K.aE:=gD.fE
theorem fZ:Lib.fs N.a7=some K.a7:=gD.fZ
theorem fw:Lib.fs N.aJ=some K.aJ:=gD.fw
theorem lM:Lib.fs N.cX=some K.cX:=gD.lM
end K
end Go.Ev
namespace Go.Ev
open Go
variable [Lib] [cn] [bR] [gL] [gF] [km] [gg] [gh] [i5] [gK] [fI] [eO] [lB] [gD]
theorem Ht(x:World)(h:x.sz):∀z0 z1 z4:D,exS aO K.oL ⟨[z0,z1,.bp 1 0,.bp 3 0,z4,.t (.sl (x.whr.map Wh.e)),I x.whr.length,I 0],[.box [.t (tL x.tags),.t (.sl (x.whr.map Wh.e))],.box [.nil,.nil],Dt x.tags,.box [.ref 2 0 x.tags.length,.ref 5 0 0],.arr 2 false 0 [],.arr 2 false 0 []]⟩=
 some (.exit 0,⟨[.und,.und,.bp 1 0,.bp 3 0,.und,.t (.sl (x.whr.map Wh.e)),I x.whr.length,I x.whr.length],[.box [.t (tL x.tags),.t (.sl (x.whr.map Wh.e))],.box [.nil,.nil],Dt x.tags,.box [.ref 2 0 x.tags.length,.ref 5 0 x.whr.length],.arr 2 false 0 [],.arr 2 false 0 ((x.whr.map Wh.e).map .t)]⟩):=by
 intro z0 z1 z4
 obtain⟨tags,whr⟩:=x
 obtain⟨h1,h2,h3⟩:=h
 simp only at h1 h2 h3 ⊢
 have tk:whr.take whr.length=whr:=by simp
 refine dC (fun j=>⟨[.und,.und,.bp 1 0,.bp 3 0,.und,.t (.sl (whr.map Wh.e)),I whr.length,I j],[.box [.t (tL tags),.t (.sl (whr.map Wh.e))],.box [.nil,.nil],Dt tags,.box [.ref 2 0 tags.length,.ref 5 0 (whr.take j).length],.arr 2 false 0 [],.arr 2 false 0 (((whr.take j).map Wh.e).map .t)]⟩) whr.length rfl ?_ ?_ (by simp)
 · intro j hj
   have c:=ym (nth whr j).frm (h3 _ (aa hj))
   have ex:(whr.map Wh.e)[j]?=some (nth whr j).e:=cR _ hj
   have lt:(whr.take j).length=j:=by rw[List.length_take];omega
   have tk:whr.take (j+1)=whr.take j++[nth whr j]:=iv hj
   generalize nth whr j=w at*
   generalize whr.take j=pre at*
   obtain⟨time,frm⟩:=w
   simp only[Dt]at*
   simp (disch:=omega) only[go_sem,K.kr,↓reduceIte,ex,c,lt,tk,List.map_append,List.map_cons,List.map_nil,List.length_append,List.length_cons,List.length_nil,Nat.reduceAdd,Nat.reduceSub]
 · simp only[Dt]
   simp (disch:=omega) only[go_sem,K.kr,↓reduceIte,tk,Nat.reduceAdd,Nat.reduceSub]
theorem F8(x:World)(h:x.sz):aO 1 N.cX [.t x.e] []=some (.agg [.ref 0 0 x.tags.length,.ref 1 0 x.whr.length],[.arr 1 false 0 ((x.tags.map (T.int .i64)).map .t),.arr 2 false 0 ((x.whr.map Wh.e).map .t)]):=by
 refine ax K.lM rfl ?_
 have loop:=Ht x h
 have c:=ym x.tags h.1
 obtain⟨tags,whr⟩:=x
 obtain⟨h1,h2,h3⟩:=h
 simp only[Dt]at h1 h2 h3 loop c ⊢
 simp (disch:=omega) only[go_sem,K.cX,↓reduceIte,loop,c,Nat.reduceAdd,Nat.reduceSub]
abbrev wM(l:List World):Obj:= .arr 2 false 0 ((l.map World.e).map .t)
theorem Hu(l:List World):aO 0 N.aI [.t (.sl (l.map World.e))] []=some (.fn N.aq [.bp 0 0],[.box [.t (.sl (l.map World.e))]]):=by
 refine ax K.dj rfl ?_
 simp (disch:=omega) only[go_sem,K.aI,↓reduceIte,Nat.reduceAdd,Nat.reduceSub]
theorem EA(l:List World)(h0:0<l.length)(hl:l.length≤1000000):aO 1 N.bu [.fn N.aq [.bp 0 0]] [.box [.t (.sl (l.map World.e))]]=some (.ref 1 0 l.length,[.box [.t (.sl (l.map World.e))],wM l]):=by
 refine Cd K.fJ (by decide) ?_
 show uL [3,N.aq] _ _=_
 have e:(l.map World.e).all Gu=true:=by
  rw[List.all_eq_true]
  intro x hx
  obtain⟨w, -,rfl⟩:=List.mem_map.1 hx
  rfl
 have ne:(l.map World.e).isEmpty=false:=by
  cases l with
  | nil=>simp at h0
  | cons=>rfl
 simp only[uL,if_true,List.getElem?_cons_zero,e,and_true,List.length_map,ne,Bool.false_eq_true,if_false]
 rw[if_pos (by unfold lim;omega)]
 rfl
theorem Hv(a b:World)(ha:a.sz)(hb:b.sz):aO 0 N.a8 [.t a.e,.t b.e] []=some (I (MI a.tags b.tags),[]):=by
 refine ax K.m7 rfl ?_
 have c:=zT a.tags b.tags ha.1 hb.1
 obtain⟨t1,w1⟩:=a
 obtain⟨t2,w2⟩:=b
 simp only at*
 simp (disch:=omega) only[go_sem,K.a8,↓reduceIte,c,Nat.reduceAdd,Nat.reduceSub]
abbrev EB(l:List World):Prop:=l.Pairwise fun x y=>lexB y.tags x.tags=false
theorem R7(a b:List Int):MI a b<0↔lexB a b=true:=by
 rw[← nF,←CS];simp
abbrev isS(l:List World)(b i:Int)(j:D):St:=⟨[.ref 0 0 l.length,I 0,I b,.fn N.a8 [],I i,j],[wM l]⟩
theorem Kj{p:List World}{x:World}{r:List World}{j:Nat}(h:p.length=j):nth (p++x::r) j=x:=bB (by rw[List.getElem?_append_right (by omega),h,Nat.sub_self];rfl)
theorem R8{α:Type}{p:List α}{y x a c:α}{r:List α}{j:Nat}(h:p.length=j):((p++y::x::r).set (j+1) a).set j c=p++c::a::r:=by
 rw[List.set_append_right _ _ (by omega),h,show j+1-j=1 by omega,List.set_append_right _ _ (by omega),h,Nat.sub_self]
 rfl
def aeA(b i:Int)(l0 rest:List World)(x:World)(k:Nat)(st:St):Prop:=
 ∃p q,st=isS (p++x::(q++rest)) b i (I ((p.length:Nat):Int))∧p.length+k=l0.length∧p++q=l0∧(∀y∈q,lexB x.tags y.tags=true)
theorem MW(b i:Int)(p r:List World)(y x:World)(hx:x.sz)(hy:y.sz)(hl:(p++y::x::r).length≤1000):
 (lexB x.tags y.tags=true→eY true [] 1 (exS aO K.aL (isS (p++y::x::r) b i (I ((p.length+1:Nat):Int))))=some (isS (p++x::y::r) b i (I ((p.length:Nat):Int))))∧
 (lexB x.tags y.tags=false→exS aO K.aL (isS (p++y::x::r) b i (I ((p.length+1:Nat):Int)))=some (.exit 2,isS (p++y::x::r) b i (I ((p.length+1:Nat):Int)))):=by
 have c:=Hv x y hx hy
 have cl:=R7 x.tags y.tags
 obtain⟨n,hn⟩:∃n,p.length=n:=⟨_,rfl⟩
 have n1:nth (p++y::x::r) (n+1)=x:=by
  have:=Kj (p:=p++[y]) (x:=x) (r:=r) (j:=n+1) (by simp[hn])
  rwa [List.append_assoc]at this
 have n0:nth (p++y::x::r) n=y:=Kj hn
 have st:((((p++y::x::r).map World.e).map D.t).set (n+1) (D.t y.e)).set n (D.t x.e)=(((p++x::y::r).map World.e).map D.t):=by
  simp only[List.map_append,List.map_cons]
  exact R8 (by simp[hn])
 have ln:(p++y::x::r).length=(p++x::y::r).length:=by simp
 have lt:n+1<(p++y::x::r).length:=by simp[hn]
 rw[hn]
 have gs:∀v,((((p++y::x::r).map World.e).map D.t).set (n+1) v)[n]?=some (D.t y.e):=fun v=>by
  rw[List.getElem?_set_ne (by omega),List.getElem?_map,List.getElem?_map,iP (by omega),n0];rfl
 simp only[isS,wM]
 rw[← ln]
 generalize (p++x::y::r)=L2 at*
 generalize (p++y::x::r)=L at*
 generalize MI x.tags y.tags=v at*
 obtain⟨t1,w1⟩:=x
 obtain⟨t2,w2⟩:=y
 simp only at*
 constructor
 · intro h
   have v0:=cl.2 h
   simp (disch:=omega) only[go_sem,K.aL,↓reduceIte,n1,n0,c,gs,st,Nat.reduceAdd,Nat.reduceSub]
 · intro h
   have v0:¬v<0:=fun e=>by rw[cl.1 e]at h;cases h
   simp (disch:=omega) only[go_sem,K.aL,↓reduceIte,n1,n0,c,Nat.reduceAdd,Nat.reduceSub]
theorem R9{p q:List World}{x:World}(hs:EB (p++q))(hq:∀y∈q,lexB x.tags y.tags=true)(hp:∀y∈p,lexB x.tags y.tags=false):EB (p++x::q):=by
 simp only[EB,List.pairwise_append]at hs ⊢
 refine⟨hs.1,?_,fun a ha c hc=>?_⟩
 · rw[List.pairwise_cons]
   refine⟨fun y hy=>?_,hs.2.1⟩
   cases h:lexB y.tags x.tags with
   | false=>rfl
   | true=>have:=lex_trans h (hq y hy);rw[lex_irrefl]at this;cases this
 · rcases List.mem_cons.1 hc with rfl | hc
   · exact hp a ha
   · exact hs.2.2 a ha c hc
theorem MX(b i:Int)(l0 rest:List World)(x:World)(hs:EB l0)(hz:∀w∈l0++x::rest,w.sz)(hl:(l0++x::rest).length≤1000):
 ∃(l1:List World) (z:D),exS aO K.dV (isS (l0++x::rest) b i (I ((l0.length:Nat):Int)))=some (.exit 2,isS (l1++rest) b i z)∧l1.Perm (l0++[x])∧EB l1:=by
 have fin:∀p q,p++q=l0→(∀y∈q,lexB x.tags y.tags=true)→(∀y∈p,lexB x.tags y.tags=false)→(p++x::q).Perm (l0++[x])∧EB (p++x::q):=by
  intro p q e hq hp
  subst e
  refine⟨?_,R9 hs hq hp⟩
  rw[List.append_assoc]
  exact List.Perm.append_left _ (List.perm_append_comm (l₁:=[x]))
 have key:=JQ (gc:=true) (dead:=[]) (c:=K.aL) (vs:=[.ref 0 0 (l0++x::rest).length,I 0,I b,.fn N.a8 [],I i,I ((l0.length:Nat):Int)]) (H:=[wM (l0++x::rest)])
  (aeA b i l0 rest x) l0.length (fun r=>∃(l1:List World) (z:D),r=(.exit 2,isS (l1++rest) b i z)∧l1.Perm (l0++[x])∧EB l1) ?_ ?_ ?_
 · obtain⟨r,h,l1,z,rfl,a,c⟩:=key
   exact⟨l1,z,h,a,c⟩
 · exact⟨l0,[],rfl,by omega,by simp,fun y hy=>by cases hy⟩
 · rintro j st hj ⟨p,q,rfl,h1,h2,h3⟩
   obtain⟨p',y,rfl⟩:∃p' y,p=p'++[y]:=⟨p.dropLast,p.getLast (fun e=>by subst e;simp at h1;omega),(List.dropLast_concat_getLast _).symm⟩
   subst h2
   have hz':∀w∈p'++[y]++q++x::rest,w.sz:=hz
   have e1:p'++[y]++x::(q++rest)=p'++y::x::(q++rest):=by simp
   have e2:(p'++[y]).length=p'.length+1:=by simp
   rw[e1,e2]
   have st:=MW b i p' (q++rest) y x (hz' x (by simp)) (hz' y (by simp)) (by simp at hl ⊢;omega)
   cases hc:lexB x.tags y.tags with
   | true=>
     refine .inl ⟨_,st.1 hc,p',y::q,by simp[isS],by simp at h1 ⊢;omega,by simp,fun w hw=>?_⟩
     rcases List.mem_cons.1 hw with rfl | hw
     · exact hc
     · exact h3 w hw
   | false=>
     refine .inr ⟨_,st.2 hc,by simp,p'++[y]++x::q,I ((p'.length+1:Nat):Int),by simp[isS],?_⟩
     refine fin (p'++[y]) q rfl h3 fun w hw=>?_
     rcases List.mem_append.1 hw with hw | hw
     · cases h:lexB x.tags w.tags with
       | false=>rfl
       | true=>
         have hwy:lexB y.tags w.tags=false:=by
          simp only[EB,List.pairwise_append]at hs
          exact hs.1.2.2 w hw y (by simp)
         rcases m5 y.tags x.tags with a | a | a
         · rw[lex_trans a h]at hwy;cases hwy
         · rw[a,h]at hwy;cases hwy
         · rw[a]at hc;cases hc
     · rw[List.mem_singleton.1 hw];exact hc
 · rintro st ⟨p,q,rfl,h1,h2,h3⟩
   have p0:p=[]:=List.eq_nil_of_length_eq_zero (by omega)
   subst p0
   simp only[List.nil_append]at h2
   subst h2
   refine⟨(.exit 2,isS (x::(q++rest)) b i (I 0)),?_,by simp,x::q,I 0,rfl,fin [] q rfl h3 (fun y hy=>by cases hy)⟩
   simp only[isS,wM,List.nil_append,List.length_nil]
   simp (disch:=omega) only[go_sem,K.aL,↓reduceIte,Nat.reduceAdd,Nat.reduceSub]
def acF(l:List World)(k:Nat)(st:St):Prop:=
 ∃l':List World,st=isS l' l.length (1+(k:Int)) .und∧l'.Perm l∧EB (l'.take (1+k))
theorem Kk(l:List World)(hz:∀w∈l,w.sz)(hl:l.length≤1000){k:Nat}(hk:k<l.length-1){st:St}(hP:acF l k st):
 ∃st',eY true [5] st.H.length (exS aO K.aW st)=some st'∧acF l (k+1) st':=by
 obtain⟨l',rfl,pm,so⟩:=hP
 have ln:=pm.length_eq
 have sp:l'=l'.take (1+k)++nth l' (1+k)::l'.drop (1+k+1):=by
  conv=>lhs;rw[← List.take_append_drop (1+k) l']
  rw[List.drop_eq_getElem_cons (by omega),bB (List.getElem?_eq_getElem (by omega))]
 have l0:(l'.take (1+k)).length=1+k:=by rw[List.length_take];omega
 obtain⟨l1,z,h,p1,s1⟩:=MX l.length (1+(k:Int)) (l'.take (1+k)) (l'.drop (1+k+1)) (nth l' (1+k)) so (fun w hw=>hz w (pm.mem_iff.1 (by rw[sp];exact hw))) (by rw[← sp];omega)
 rw[← sp,l0]at h
 have l1n:l1.length=1+k+1:=by rw[p1.length_eq,List.length_append,l0];rfl
 have tl:(l1++l'.drop (1+k+1)).length=l'.length:=by rw[List.length_append,l1n,List.length_drop];omega
 refine⟨isS (l1++l'.drop (1+k+1)) l.length (1+((k+1:Nat):Int)) .und,?_,_,rfl,?_,?_⟩
 · generalize (l1++l'.drop (1+k+1))=L at*
   clear sp
   simp only[isS,wM]at*
   have e:((1+k:Nat):Int)=1+(k:Int):=by omega
   rw[e]at h
   have e2:(1:Int)+((k+1:Nat):Int)=1+(k:Int)+1:=by omega
   rw[e2,tl]
   rw[tl]at h
   have lt:(1:Int)+k<l.length:=by omega
   simp (disch:=omega) only[go_sem,K.aW,↓reduceIte,h,Nat.reduceAdd,Nat.reduceSub]
 · have:(l1++l'.drop (1+k+1)).Perm l':=by
    conv=>rhs;rw[sp]
    rw[show l'.take (1+k)++nth l' (1+k)::l'.drop (1+k+1)=(l'.take (1+k)++[nth l' (1+k)])++l'.drop (1+k+1)by simp]
    exact List.Perm.append_right _ p1
   exact this.trans pm
 · rw[show 1+(k+1)=l1.length by omega,List.take_left']
   · exact s1
   · rfl
theorem Kl(l:List World)(hz:∀w∈l,w.sz)(hl:l.length≤1000):
 ∃l',aO 0 N.ay [.ref 0 0 l.length,I 0,I l.length,.fn N.a8 []] [wM l]=some (.tup [],[wM l'])∧l'.Perm l∧EB l':=by
 by_cases h0:l.length=0
 · have e:l=[]:=List.eq_nil_of_length_eq_zero h0
   subst e
   refine⟨[],?_,List.Perm.refl _,List.Pairwise.nil⟩
   refine ax K.bJ rfl ?_
   have lp:∀z5,exS aO K.cr ⟨[.ref 0 0 0,I 0,I 0,.fn N.a8 [],I 1,z5],[.arr 2 false 0 []]⟩=some (.exit 0,⟨[.ref 0 0 0,I 0,I 0,.fn N.a8 [],I 1,.und],[.arr 2 false 0 []]⟩):=by
    intro z5
    refine uZ (dk ?_ (by simp))
    simp (disch:=omega) only[go_sem,K.aW,↓reduceIte,Nat.reduceAdd,Nat.reduceSub]
   simp only[wM,List.map_nil,List.length_nil]
   simp (disch:=omega) only[go_sem,K.ay,↓reduceIte,lp,Nat.reduceAdd,Nat.reduceSub]
 · have key:=fun z5:D=>JQ (gc:=true) (dead:=[5]) (c:=K.aW) (vs:=[.ref 0 0 l.length,I 0,I l.length,.fn N.a8 [],I 1,z5]) (H:=[wM l])
    (acF l) (l.length-1) (fun r=>∃l':List World,r=(.exit 0,isS l' l.length l.length .und)∧l'.Perm l∧EB l') ⟨l,rfl,List.Perm.refl _,by
     match l with
     | []=>exact List.Pairwise.nil
     | x::r=>simp⟩ (fun j st hj hP=> .inl (Kk l hz hl hj hP)) (by
     rintro st ⟨l',rfl,pm,so⟩
     have ln:=pm.length_eq
     have e:(1:Int)+((l.length-1:Nat):Int)=l.length:=by omega
     rw[e]
     rw[List.take_of_length_le (by omega)]at so
     refine⟨(.exit 0,isS l' l.length l.length .und),?_,by simp,l',rfl,pm,so⟩
     simp only[isS,wM]
     simp (disch:=omega) only[go_sem,K.aW,↓reduceIte,Nat.reduceAdd,Nat.reduceSub]
     )
   obtain⟨r,hr,l',rfl,pm,so⟩:=key .und
   refine⟨l',?_,pm,so⟩
   refine ax K.bJ rfl ?_
   have ln:=pm.length_eq
   have hr:exS aO K.cr _=_:=hr
   simp only[isS,wM,ln]at hr ⊢
   simp (disch:=omega) only[go_sem,K.ay,↓reduceIte,hr,Nat.reduceAdd,Nat.reduceSub]
theorem Km(l:List World)(hz:∀w∈l,w.sz)(hl:l.length<20):
 ∃l',aO 0 N.aP [.ref 0 0 l.length,I l.length,.fn N.a8 []] [wM l]=some (.tup [],[wM l'])∧l'.Perm l∧EB l':=by
 obtain⟨l',h,pm,so⟩:=Kl l hz (by omega)
 refine⟨l',?_,pm,so⟩
 refine ax K.dK rfl ?_
 have ln:=pm.length_eq
 have e1:∀z6:D,exS aO K.fR ⟨[.ref 0 0 l.length,I l.length,.fn N.a8 [],I 20,I 0,I 20,z6],[wM l]⟩=some (.exit 0,⟨[.ref 0 0 l.length,I l.length,.fn N.a8 [],I 20,I 0,I 20,.und],[wM l]⟩):=by
  intro z6
  refine uZ (dk ?_ (by simp))
  simp only[wM]
  simp (disch:=omega) only[go_sem,K.fC,↓reduceIte,Nat.reduceAdd,Nat.reduceSub]
 have e2:∀z4 z5 z6:D,exS aO K.fS ⟨[.ref 0 0 l.length,I l.length,.fn N.a8 [],I 20,z4,z5,z6],[wM l']⟩=some (.exit 2,⟨[.ref 0 0 l.length,I l.length,.fn N.a8 [],I 20,.und,.und,.und],[wM l']⟩):=by
  intro z4 z5 z6
  refine uZ (dk ?_ (by simp))
  simp only[wM]
  simp (disch:=omega) only[go_sem,K.fD,↓reduceIte,Nat.reduceAdd,Nat.reduceSub]
 simp only[wM]at*
 simp (disch:=omega) only[go_sem,K.aP,↓reduceIte,e1,e2,h,Nat.reduceAdd,Nat.reduceSub]
theorem A1(l:List World)(hz:∀w∈l,w.sz)(hl:l.length<20):
 ∃l',aO 0 N.aA [.ref 0 0 l.length,.fn N.a8 []] [wM l]=some (.tup [],[wM l'])∧l'.Perm l∧EB l':=by
 obtain⟨l',h,pm,so⟩:=Km l hz hl
 refine⟨l',?_,pm,so⟩
 refine ax K.bW rfl ?_
 simp only[wM]at*
 simp (disch:=omega) only[go_sem,K.aA,↓reduceIte,h,Nat.reduceAdd,Nat.reduceSub]
theorem Hw(l:List World)(hz:∀w∈l,w.sz)(h0:0<l.length)(hl:l.length<20):
 ∃l',aO 0 N.aH [.fn N.aq [.bp 0 0],.fn N.a8 []] [.box [.t (.sl (l.map World.e))]]=some (.t (.sl (l'.map World.e)),[.box [.t (.sl (l.map World.e))]])∧l'.Perm l∧EB l':=by
 obtain⟨l',h,pm,so⟩:=A1 l hz hl
 refine⟨l',?_,pm,so⟩
 refine ax K.di rfl ?_
 have c:=EA l h0 (by omega)
 have ln:=pm.length_eq
 simp only[wM]at*
 simp (disch:=omega) only[go_sem,K.aH,↓reduceIte,c,h,ln,Nat.reduceAdd,Nat.reduceSub]
end Go.Ev
namespace Go.Ev
open Go
variable [Lib] [cn] [bR] [gL] [gF] [km] [gg] [gh] [i5] [gK]
end Go.Ev
namespace Go.Ev
open Go
variable [Lib] [cn] [bR] [gL] [gF] [km] [gg] [gh] [i5] [gK] [fI] [eO]
theorem Hx{l:List Int}{i j:Nat}(hi:i<l.length)(hj:j<l.length):(Hj l i j).Perm l:=by
 have:=Array.swap_perm (xs:=l.toArray) (i:=i) (j:=j) (by simpa using hi) (by simpa using hj)
 rw[Array.perm_iff_toList_perm]at this
 unfold Hj
 rw[bB (List.getElem?_eq_getElem hi),bB (List.getElem?_eq_getElem hj)]
 simpa [Array.swap]using this
theorem uB{m:aT}{l:List Wh}(hl:∀w∈l,cO m w=true)(i:Nat){x:Wh}(hx:i<l.length→cO m x=true):∀w∈l.set i x,cO m w=true:=by
 intro w hw
 by_cases h:i<l.length
 · rcases List.mem_or_eq_of_mem_set hw with a | rfl
   · exact hl w a
   · exact hx h
 · rw[List.set_eq_of_length_le (by omega)]at hw;exact hl w hw
theorem yI{m:aT}(h:m.ok){w:Wh}(hv:cO m w=true)(t:Int):cO m (lU w t).1=true:=by
 unfold lU
 split
 · exact hv
 · obtain⟨a,b,c, -⟩:=bL hv
   have cl:=ug h hv
   unfold inT at b
   exact yh h a (by simp only;unfold inT;omega) c (AN (t':=t) (by omega) cl)
theorem Kn{m:aT}{first:List Int}{x:World}(h:WV m first x)(tag:Int){w:Wh}(hw:(bM x.tags tag).toNat<x.whr.length→cO m w=true):WV m first (Du tag x w):=
 ⟨h.pm,by simp[Du,h.wl],uB h.wv _ hw⟩
def Xz(m:aT)(tag:Int)(l:List Int)(a b:Int)(x:World):Option World:=
 if(yZ m tag l a b x).2=43 then none else some (if(yZ m tag l a b x).2=0 then Du tag x (yZ m tag l a b x).1 else x)
theorem A2(m:aT)(tag:Int)(l:List Int)(a b:Int)(ws:List World):∀j,j≤ws.length→mZ m tag l a b ws j=(ws.take j).filterMap (Xz m tag l a b)
 | 0,_=>by simp[mZ]
 | j+1,h=>by
   rw[iv (by omega),List.filterMap_append]
   simp only[mZ,A2 m tag l a b ws j (by omega),CE,Xz,List.filterMap_cons,List.filterMap_nil]
   split<;>simp_all
theorem F9(m:aT)(tag:Int)(l:List Int)(a b bl:Int)(ws:List World):∀j,j≤ws.length→oJ m tag l a b bl ws j=(ws.take j).map fun x=>if(zU m tag l a b bl x).2=0 then Du tag x (zU m tag l a b bl x).1 else x
 | 0,_=>by simp[oJ]
 | j+1,h=>by
   rw[iv (by omega),List.map_append]
   simp only[oJ,F9 m tag l a b bl ws j (by omega),Ep,List.map_cons,List.map_nil]
theorem EC{m:aT}(hm:m.ok){first:List Int}{tag:Int}{l:List Int}{a b:Int}{x y:World}(h:WV m first x)(e:Xz m tag l a b x=some y):WV m first y∧y.tags=x.tags:=by
 unfold Xz at e
 split at e
 · cases e
 · simp only[Option.some.injEq]at e
   subst e
   split
   · exact⟨Kn h tag fun hl=>CU hm (h.wv _ (aa hl)) l a b,rfl⟩
   · exact⟨h,rfl⟩
theorem XA{m:aT}(hm:m.ok){first:List Int}{ws:List World}(h:BV m first ws)(tag:Int)(l:List Int)(a b:Int):BV m first (mZ m tag l a b ws ws.length):=by
 rw[A2 m tag l a b ws _ (Nat.le_refl _),List.take_length]
 refine⟨h.pr,h.f1,h.f2,fun y hy=>?_,?_⟩
 · obtain⟨x,hx,e⟩:=List.mem_filterMap.1 hy
   exact(EC hm (h.wv x hx) e).1
 · rw[List.pairwise_filterMap]
   refine(List.Pairwise.imp_of_mem ?_ h.up)
   intro x y hx hy hxy x' ex y' ey
   rw[(EC hm (h.wv x hx) ex).2,(EC hm (h.wv y hy) ey).2]
   exact hxy
theorem XB{m:aT}(hm:m.ok){first:List Int}{ws:List World}(h:BV m first ws)(tag:Int)(l:List Int)(a b bl:Int):BV m first (oJ m tag l a b bl ws ws.length):=by
 rw[F9 m tag l a b bl ws _ (Nat.le_refl _),List.take_length]
 have tg:∀x:World,(if(zU m tag l a b bl x).2=0 then Du tag x (zU m tag l a b bl x).1 else x).tags=x.tags:=by
  intro x;split<;>rfl
 refine⟨h.pr,h.f1,h.f2,fun y hy=>?_,?_⟩
 · obtain⟨x,hx,rfl⟩:=List.mem_map.1 hy
   have wx:=h.wv x hx
   split
   · exact Kn wx tag fun hl=>Ki hm (wx.wv _ (aa hl)) l a b bl
   · exact wx
 · rw[List.pairwise_map]
   refine h.up.imp fun{x y} hxy=>?_
   rw[tg,tg];exact hxy
theorem MY{m:aT}(hm:m.ok){first:List Int}{x:World}(h:WV m first x){i j:Nat}(hi:i<first.length)(hj:j<first.length)(t:Int):WV m first (sW i j t x):=by
 have wl:=h.wl
 have tl:=h.pm.length_eq
 refine⟨(Hx (by omega) (by omega)).trans h.pm,by simp[sW,wl],?_⟩
 exact uB (uB h.wv i fun hl=>yI hm (h.wv _ (aa hl)) t) j fun hl=>yI hm (h.wv _ (aa (by simpa using hl))) t
theorem uC{m:aT}(hm:m.ok){first:List Int}{ws:List World}(h:∀x∈ws,WV m first x){i j:Nat}(hi:i<first.length)(hj:j<first.length)(t:Int):∀k,k≤ws.length→∀x∈iz i j t ws k,WV m first x
 | 0,_,x,hx=>h x hx
 | k+1,hk,x,hx=>by
   simp only[iz,yB]at hx
   split at hx
   · rcases List.mem_append.1 hx with hx | hx
     · exact uC hm h hi hj t k (by omega) x hx
     · rw[List.mem_singleton.1 hx]
       exact MY hm (h _ (aa (by omega))) hi hj t
   · exact uC hm h hi hj t k (by omega) x hx
theorem sY{m:aT}(hm:m.ok){a b:List Wh}(ha:∀w∈a,cO m w=true)(hb:∀w∈b,cO m w=true):∀p,p≤a.length→p≤b.length→∀w∈iS a b p,cO m w=true
 | 0,_,_,w,hw=>ha w hw
 | p+1,h1,h2,w,hw=>by
   refine uB (sY hm ha hb p (by omega) (by omega)) p (fun _=>?_) w hw
   exact(Hr hm (ha _ (aa (by omega))) (hb _ (aa (by omega)))).2.1
theorem A3{out:List World}{x:World}{k:Nat}(h:k<cJ out x):lexB (nth out k).tags x.tags=true:=by
 unfold cJ at h
 split at h
 · rename_i j hf
   rw[List.find?_range_eq_some]at hf
   have:=hf.2.2 k h
   rw[← nF];simpa using this
 · rename_i hf
   have:=List.find?_eq_none.1 hf k (List.mem_range.2 h)
   rw[← nF];simpa using this
theorem xj{out:List World}{x:World}(h:cJ out x<out.length):lexB (nth out (cJ out x)).tags x.tags=false:=by
 unfold cJ at h ⊢
 split
 · rename_i j hf
   rw[List.find?_range_eq_some]at hf
   have:=hf.1
   rw[← nF];simpa using this
 · rename_i hf
   rw[hf]at h;simp at h
theorem nG{m:aT}(hm:m.ok){first:List Int}{out:List World}(h:BV m first out){x:World}(hx:WV m first x):BV m first (gS out x):=by
 have kl:=uw out x
 unfold gS
 split
 · rename_i c
   obtain⟨c1,c2⟩:=c
   have wk:=h.wv _ (aa c1)
   have w1:=wk.wl
   have w2:=hx.wl
   refine⟨h.pr,h.f1,h.f2,fun y hy=>?_,?_⟩
   · rcases List.mem_or_eq_of_mem_set hy with a | rfl
     · exact h.wv y a
     · exact⟨hx.pm,by rw[gG,gR];exact w1,sY hm wk.wv hx.wv _ (by omega) (by omega)⟩
   · have u:=h.up
     rw[← List.pairwise_map (f:=World.tags) (R:=fun a b=>lexB a b=true)]at u ⊢
     rw[List.map_set]
     have e:(out.map World.tags).set (cJ out x) x.tags=out.map World.tags:=by
      apply List.ext_getElem?
      intro i
      by_cases hi:cJ out x=i
      · rw[← hi,List.getElem?_set_self (by simpa using c1),List.getElem?_map,iP c1,←c2];rfl
      · rw[List.getElem?_set_ne hi]
     rw[e];exact u
 · rename_i c
   refine⟨h.pr,h.f1,h.f2,fun y hy=>?_,?_⟩
   · simp only[List.mem_append,List.mem_singleton]at hy
     rcases hy with(hy | rfl) | hy
     · exact h.wv y (List.mem_of_mem_take hy)
     · exact hx
     · exact h.wv y (List.mem_of_mem_drop hy)
   · have u:=h.up
     have lo:∀y∈out.take (cJ out x),lexB y.tags x.tags=true:=by
      intro y hy
      obtain⟨i,hi⟩:=List.mem_iff_getElem?.1 hy
      have il:=(List.getElem?_eq_some_iff.1 hi).1
      rw[List.length_take]at il
      rw[List.getElem?_take_of_lt (by omega)]at hi
      have:=A3 (out:=out) (x:=x) (k:=i) (by omega)
      rwa [bB hi]at this
     have hi:∀y∈out.drop (cJ out x),lexB x.tags y.tags=true:=by
      intro y hy
      obtain⟨i,hi⟩:=List.mem_iff_getElem?.1 hy
      have il:=(List.getElem?_eq_some_iff.1 hi).1
      rw[List.length_drop]at il
      rw[List.getElem?_drop]at hi
      have c1:cJ out x<out.length:=by omega
      have at_:=xj c1
      have ne:(nth out (cJ out x)).tags≠x.tags:=fun e=>c ⟨c1,e⟩
      have first_:lexB x.tags (nth out (cJ out x)).tags=true:=by
       rcases m5 (nth out (cJ out x)).tags x.tags with a | a | a
       · rw[a]at at_;cases at_
       · exact absurd a ne
       · exact a
      by_cases i0:i=0
      · subst i0
        rw[Nat.add_zero]at hi
        rwa [bB hi]at first_
      · have:=(List.pairwise_iff_getElem.1 u) (cJ out x) (cJ out x+i) (by omega) (by omega) (by omega)
        rw[← bB (List.getElem?_eq_getElem (by omega:cJ out x<out.length)),←bB (List.getElem?_eq_getElem (by omega:cJ out x+i<out.length)),bB hi]at this
        exact lex_trans first_ this
     have td:out.take (cJ out x)++out.drop (cJ out x)=out:=List.take_append_drop _ _
     have u2:=u
     rw[← td,List.pairwise_append]at u2
     rw[List.append_assoc,List.pairwise_append]
     refine⟨u2.1,?_,fun y hy z hz=>?_⟩
     · rw[List.singleton_append,List.pairwise_cons];exact⟨hi,u2.2.1⟩
     · simp only[List.singleton_append,List.mem_cons]at hz
       rcases hz with rfl | hz
       · exact lo y hy
       · exact u2.2.2 y hy z hz
theorem A4{m:aT}(hm:m.ok){first:List Int}(pr:eH first=true)(f1:1≤first.length)(f2:first.length≤12){l:List World}(hl:∀x∈l,WV m first x):∀j,j≤l.length→BV m first (oK l j)
 | 0,_=>⟨pr,f1,f2,fun x hx=>by simp[oK]at hx,by simp[oK]⟩
 | j+1,h=>nG hm (A4 hm pr f1 f2 hl j (by omega)) (hl _ (aa (by omega)))
def lookW(out:List World)(t:List Int):Option (List Wh):=(out.find? fun w=>decide (w.tags=t)).map World.whr
abbrev UpW(out:List World):Prop:=out.Pairwise fun x y=>lexB x.tags y.tags=true
theorem wG{a b:List Int}(h:lexB a b=true):a≠b:=fun e=>by rw[e,lex_irrefl]at h;cases h
theorem kt{out:List World}{t:List Int}(h:∀w∈out,w.tags≠t):lookW out t=none:=by
 unfold lookW
 rw[List.find?_eq_none.2 fun w hw=>by simpa using h w hw];rfl
theorem iU:∀ {out:List World},UpW out→∀ {w:World},w∈out→lookW out w.tags=some w.whr
 | x::r,h,w,hw=>by
   unfold lookW
   rw[List.find?_cons]
   by_cases e:x.tags=w.tags
   · simp only[e,decide_true]
     rcases List.mem_cons.1 hw with rfl | hw
     · rfl
     · exact absurd e (wG ((List.pairwise_cons.1 h).1 w hw))
   · simp only[e,decide_false]
     rcases List.mem_cons.1 hw with rfl | hw
     · exact absurd rfl e
     · exact iU (List.pairwise_cons.1 h).2 hw
theorem zW(out:List World)(t:List Int):(∃w∈out,w.tags=t)∨(∀w∈out,w.tags≠t):=by
 by_cases h:∃w∈out,w.tags=t
 · exact .inl h
 · exact .inr fun w hw e=>h ⟨w,hw,e⟩
theorem Ko{out:List World}{t:List Int}{l:List Wh}(h:lookW out t=some l):∃w∈out,w.tags=t∧w.whr=l:=by
 unfold lookW at h
 obtain⟨w,hw,rfl⟩:=Option.map_eq_some_iff.1 h
 exact⟨w,List.mem_of_find?_eq_some hw,by simpa using List.find?_some hw,rfl⟩
theorem CV{x:World}{r:List World}{t:List Int}(h:x.tags≠t):lookW (x::r) t=lookW r t:=by
 unfold lookW;rw[List.find?_cons];simp only[h,decide_false]
theorem Ga:∀ {a b:List World},UpW a→UpW b→(∀t,lookW a t=lookW b t)→a=b
 | [],[],_,_,_=>rfl
 | [],y::s,_,hb,h=>by
   have:=h y.tags
   rw[iU hb List.mem_cons_self]at this
   cases this
 | x::r,[],ha,_,h=>by
   have:=h x.tags
   rw[iU ha List.mem_cons_self]at this
   cases this
 | x::r,y::s,ha,hb,h=>by
   obtain⟨a1,a2⟩:=List.pairwise_cons.1 ha
   obtain⟨b1,b2⟩:=List.pairwise_cons.1 hb
   have hx:=h x.tags
   rw[iU ha List.mem_cons_self]at hx
   have hy:=h y.tags
   rw[iU hb List.mem_cons_self]at hy
   rcases m5 x.tags y.tags with c | c | c
   · rw[kt]at hx
     · cases hx
     · intro w hw e
       rcases List.mem_cons.1 hw with rfl | hw
       · rw[e,lex_irrefl]at c;cases c
       · have:=lex_trans c (b1 w hw)
         rw[e,lex_irrefl]at this;cases this
   · have tl:r=s:=Ga a2 b2 fun t=>by
      by_cases e:x.tags=t
      · rw[kt fun w hw e2=>wG (a1 w hw) (e.trans e2.symm),kt fun w hw e2=>wG (b1 w hw) (c.symm.trans (e.trans e2.symm))]
      · have:=h t
        rwa [CV e,CV (fun e2=>e (c.trans e2))]at this
     rw[c,iU hb List.mem_cons_self]at hx
     obtain⟨xt,xw⟩:=x
     obtain⟨yt,yw⟩:=y
     simp only at c hx
     cases hx
     rw[c,tl]
   · rw[kt]at hy
     · cases hy
     · intro w hw e
       rcases List.mem_cons.1 hw with rfl | hw
       · rw[e,lex_irrefl]at c;cases c
       · have:=lex_trans c (a1 w hw)
         rw[e,lex_irrefl]at this;cases this
theorem Sa{out:List World}{x:World}:∀y∈out.take (cJ out x),lexB y.tags x.tags=true:=by
 intro y hy
 have kl:=uw out x
 obtain⟨i,hi⟩:=List.mem_iff_getElem?.1 hy
 have il:=(List.getElem?_eq_some_iff.1 hi).1
 rw[List.length_take]at il
 rw[List.getElem?_take_of_lt (by omega)]at hi
 have:=A3 (out:=out) (x:=x) (k:=i) (by omega)
 rwa [bB hi]at this
theorem Sb{out:List World}{x:World}(u:UpW out)(c:¬(cJ out x<out.length∧(nth out (cJ out x)).tags=x.tags)):∀y∈out.drop (cJ out x),lexB x.tags y.tags=true:=by
 intro y hy
 obtain⟨i,hi⟩:=List.mem_iff_getElem?.1 hy
 have il:=(List.getElem?_eq_some_iff.1 hi).1
 rw[List.length_drop]at il
 rw[List.getElem?_drop]at hi
 have c1:cJ out x<out.length:=by omega
 have at_:=xj c1
 have first_:lexB x.tags (nth out (cJ out x)).tags=true:=by
  rcases m5 (nth out (cJ out x)).tags x.tags with a | a | a
  · rw[a]at at_;cases at_
  · exact absurd ⟨c1,a⟩ c
  · exact a
 by_cases i0:i=0
 · subst i0
   rw[Nat.add_zero]at hi
   rwa [bB hi]at first_
 · have:=(List.pairwise_iff_getElem.1 u) (cJ out x) (cJ out x+i) (by omega) (by omega) (by omega)
   rw[← bB (List.getElem?_eq_getElem (by omega:cJ out x<out.length)),←bB (List.getElem?_eq_getElem (by omega:cJ out x+i<out.length)),bB hi]at this
   exact lex_trans first_ this
def acG(x:World):Option (List Wh)→List Wh
 | none=>x.whr
 | some w=>gG w x.whr
theorem uD{m:aT}(hm:m.ok){first:List Int}{out:List World}(h:BV m first out){x:World}(hx:WV m first x)(t:List Int):
 lookW (gS out x) t=if t=x.tags then some (acG x (lookW out t))else lookW out t:=by
 have bv:=(nG hm h hx).up
 have u:=h.up
 unfold gS at bv ⊢
 by_cases c:cJ out x<out.length∧(nth out (cJ out x)).tags=x.tags
 · rw[if_pos c]at bv ⊢
   obtain⟨c1,c2⟩:=c
   have mk:nth out (cJ out x)∈out:=aa c1
   have ms:(⟨x.tags,gG (nth out (cJ out x)).whr x.whr⟩:World)∈out.set (cJ out x) ⟨x.tags,gG (nth out (cJ out x)).whr x.whr⟩:=
    List.mem_iff_getElem?.2 ⟨cJ out x,List.getElem?_set_self c1⟩
   by_cases e:t=x.tags
   · rw[if_pos e,e,iU bv ms,←c2,iU u mk]
     rfl
   · rw[if_neg e]
     rcases zW out t with⟨w,hw,rfl⟩ | hn
     · rw[iU u hw]
       obtain⟨i,hi⟩:=List.mem_iff_getElem?.1 hw
       refine iU bv (List.mem_iff_getElem?.2 ⟨i,?_⟩)
       rw[List.getElem?_set_ne,hi]
       intro e2
       rw[← e2]at hi
       rw[bB hi]at c2
       exact e c2
     · rw[kt hn,kt]
       intro w hw
       rcases List.mem_or_eq_of_mem_set hw with hw | rfl
       · exact hn w hw
       · exact fun e2=>e e2.symm
 · rw[if_neg c]at bv ⊢
   have lo:=Sa (out:=out) (x:=x)
   have hi:=Sb u c
   have td:out.take (cJ out x)++out.drop (cJ out x)=out:=List.take_append_drop _ _
   have mem:∀w,w∈out.take (cJ out x)++[x]++out.drop (cJ out x)↔w=x∨w∈out:=by
    intro w
    conv=>rhs;rw[← td]
    simp only[List.mem_append,List.mem_singleton]
    constructor
    · rintro ((a | a) | a)
      · exact .inr (.inl a)
      · exact .inl a
      · exact .inr (.inr a)
    · rintro (a | a | a)
      · exact .inl (.inr a)
      · exact .inl (.inl a)
      · exact .inr a
   have nx:∀w∈out,w.tags≠x.tags:=by
    intro w hw
    rw[← td]at hw
    rcases List.mem_append.1 hw with hw | hw
    · exact wG (lo w hw)
    · exact fun e=>wG (hi w hw) e.symm
   by_cases e:t=x.tags
   · rw[if_pos e,e,kt nx,iU bv ((mem x).2 (.inl rfl))]
     rfl
   · rw[if_neg e]
     rcases zW out t with⟨w,hw,rfl⟩ | hn
     · rw[iU u hw,iU bv ((mem w).2 (.inr hw))]
     · rw[kt hn,kt]
       intro w hw
       rcases (mem w).1 hw with rfl | hw
       · exact fun e2=>e e2.symm
       · exact hn w hw
structure SH(n p:Nat)(l:List Wh):Prop where
 ln:l.length=n
 fr:∀w∈l,w.frm.length=p
theorem OS{a b:Wh}(ht:a.time=b.time)(hl:a.frm.length=b.frm.length)(h:∀j,j<a.frm.length→nth a.frm j=nth b.frm j):a=b:=by
 obtain⟨t,f⟩:=a
 obtain⟨t2,f2⟩:=b
 simp only at ht hl h
 rw[ht,ru hl h]
theorem pZ{a b:Wh}(h:a.frm.length=b.frm.length):(ie a b).1.time=max a.time b.time∧(ie a b).1.frm.length=a.frm.length∧∀j,j<a.frm.length→nth (ie a b).1.frm j=min (nth a.frm j) (nth b.frm j):=by
 unfold ie
 rw[if_pos h]
 exact⟨rfl,kW _ _ _,fun j hj=>A0 a.frm b.frm a.frm.length j hj⟩
theorem Gb(a b:List Wh):∀p,p≤a.length→∀i,i<p→nth (iS a b p) i=(ie (nth a i) (nth b i)).1
 | 0,_,i,h=>by omega
 | p+1,hp,i,h=>by
   simp only[iS]
   rw[sV _ _ (by rw[gR];omega)]
   split
   · rename_i e;rw[e]
   · exact Gb a b p (by omega) i (by omega)
theorem oM{n p:Nat}{a b:List Wh}(ha:SH n p a)(hb:SH n p b):SH n p (gG a b)∧∀i,i<n→nth (gG a b) i=(ie (nth a i) (nth b i)).1:=by
 have l1:=ha.ln
 have l2:=hb.ln
 have e:gG a b=iS a b n:=by unfold gG;rw[l1,l2,Nat.min_self]
 have at_:=Gb a b n (by omega)
 rw[e]
 refine⟨⟨by rw[gR];exact l1,fun w hw=>?_⟩,at_⟩
 obtain⟨i,hi⟩:=List.mem_iff_getElem?.1 hw
 have il:=(List.getElem?_eq_some_iff.1 hi).1
 rw[gR]at il
 rw[← bB hi,at_ i (by omega),(pZ (by rw[ha.fr _ (aa (by omega)),hb.fr _ (aa (by omega))])).2.1]
 exact ha.fr _ (aa il)
theorem ED{n p:Nat}{a b:List Wh}(ha:SH n p a)(hb:SH n p b):gG a b=gG b a:=by
 obtain⟨s1,n1⟩:=oM ha hb
 obtain⟨s2,n2⟩:=oM hb ha
 refine ru (by rw[s1.ln,s2.ln]) fun i hi=>?_
 rw[s1.ln]at hi
 rw[n1 i hi,n2 i hi]
 have fa:=ha.fr _ (aa (l:=a) (j:=i) (by rw[ha.ln];exact hi))
 have fb:=hb.fr _ (aa (l:=b) (j:=i) (by rw[hb.ln];exact hi))
 obtain⟨t1,l1,m1⟩:=pZ (a:=nth a i) (b:=nth b i) (by rw[fa,fb])
 obtain⟨t2,l2,m2⟩:=pZ (a:=nth b i) (b:=nth a i) (by rw[fa,fb])
 refine OS (by rw[t1,t2];omega) (by rw[l1,l2,fa,fb]) fun j hj=>?_
 rw[l1]at hj
 rw[m1 j hj,m2 j (by omega)];omega
theorem CW{n p:Nat}{a b c:List Wh}(ha:SH n p a)(hb:SH n p b)(hc:SH n p c):gG (gG a b) c=gG (gG a c) b:=by
 obtain⟨s1,n1⟩:=oM ha hb
 obtain⟨s2,n2⟩:=oM ha hc
 obtain⟨s3,n3⟩:=oM s1 hc
 obtain⟨s4,n4⟩:=oM s2 hb
 refine ru (by rw[s3.ln,s4.ln]) fun i hi=>?_
 rw[s3.ln]at hi
 rw[n3 i hi,n4 i hi,n1 i hi,n2 i hi]
 have fa:=ha.fr _ (aa (l:=a) (j:=i) (by rw[ha.ln];exact hi))
 have fb:=hb.fr _ (aa (l:=b) (j:=i) (by rw[hb.ln];exact hi))
 have fc:=hc.fr _ (aa (l:=c) (j:=i) (by rw[hc.ln];exact hi))
 obtain⟨t1,l1,m1⟩:=pZ (a:=nth a i) (b:=nth b i) (by rw[fa,fb])
 obtain⟨t2,l2,m2⟩:=pZ (a:=nth a i) (b:=nth c i) (by rw[fa,fc])
 obtain⟨t3,l3,m3⟩:=pZ (a:=(ie (nth a i) (nth b i)).1) (b:=nth c i) (by rw[l1,fa,fc])
 obtain⟨t4,l4,m4⟩:=pZ (a:=(ie (nth a i) (nth c i)).1) (b:=nth b i) (by rw[l2,fa,fb])
 refine OS (by rw[t3,t4,t1,t2];omega) (by rw[l3,l4,l1,l2]) fun j hj=>?_
 rw[l3,l1]at hj
 rw[m3 j (by omega),m4 j (by omega),m1 j (by omega),m2 j (by omega)];omega
theorem WV.sh{m:aT}{first:List Int}{x:World}(h:WV m first x):SH first.length m.places.length x.whr:=
 ⟨h.wl,fun w hw=>(bL (h.wv w hw)).1⟩
theorem Hy{m:aT}(hm:m.ok){first:List Int}{out:List World}(h:BV m first out){x y:World}(hx:WV m first x)(hy:WV m first y):gS (gS out x) y=gS (gS out y) x:=by
 have bx:=nG hm h hx
 have by_:=nG hm h hy
 refine Ga (nG hm bx hy).up (nG hm by_ hx).up fun t=>?_
 rw[uD hm bx hy,uD hm by_ hx,uD hm h hx,uD hm h hy]
 by_cases e1:t=x.tags
 · by_cases e2:t=y.tags
   · rw[if_pos e2,if_pos e1,if_pos e1,if_pos e2]
     congr 1
     have sx:=hx.sh
     have sy:=hy.sh
     cases hl:lookW out t with
     | none=>exact ED sx sy
     | some w=>
       obtain⟨z,hz, -,rfl⟩:=Ko hl
       exact CW (h.wv z hz).sh sx sy
   · rw[if_neg e2,if_pos e1,if_pos e1,if_neg e2]
 · by_cases e2:t=y.tags
   · rw[if_pos e2,if_neg e1,if_neg e1,if_pos e2]
   · rw[if_neg e2,if_neg e1,if_neg e1,if_neg e2]
theorem zX(l:List World):∀j,j≤l.length→oK l j=(l.take j).foldl gS []
 | 0,_=>by simp[oK]
 | j+1,h=>by
   rw[iv (by omega),List.foldl_append]
   simp only[oK,zX l j (by omega),List.foldl_cons,List.foldl_nil]
theorem rE(l:List World):nf l=l.foldl gS []:=by
 unfold nf;rw[zX l _ (Nat.le_refl _),List.take_length]
theorem Kp{m:aT}(hm:m.ok){first:List Int}{l l':List World}(p:l.Perm l'):(∀x∈l,WV m first x)→∀out,BV m first out→l.foldl gS out=l'.foldl gS out:=by
 induction p with
 | nil=>intro _ out _;rfl
 | cons x _ ih=>
   intro h out ho
   exact ih (fun y hy=>h y (List.mem_cons_of_mem _ hy)) _ (nG hm ho (h x List.mem_cons_self))
 | swap x y l=>
   intro h out ho
   simp only[List.foldl_cons]
   rw[Hy hm ho (h y List.mem_cons_self) (h x (List.mem_cons_of_mem _ List.mem_cons_self))]
 | trans p1 p2 ih1 ih2=>
   intro h out ho
   rw[ih1 h out ho,ih2 (fun y hy=>h y (p1.mem_iff.2 hy)) out ho]
theorem Hz{m:aT}(hm:m.ok){first:List Int}(pr:eH first=true)(f1:1≤first.length)(f2:first.length≤12){l l':List World}(p:l.Perm l')(h:∀x∈l,WV m first x):nf l=nf l':=by
 rw[rE,rE]
 exact Kp hm p h [] ⟨pr,f1,f2,(fun x hx=>by cases hx),List.Pairwise.nil⟩
def p4(out:List World)(x:World):List World:=
 if 0<out.length∧(nth out (out.length-1)).tags=x.tags then out.set (out.length-1) ⟨x.tags,gG (nth out (out.length-1)).whr x.whr⟩else out++[x]
theorem zY{out:List World}{x:World}(u:UpW out)(h:0<out.length→lexB x.tags (nth out (out.length-1)).tags=false):gS out x=p4 out x:=by
 have kl:=uw out x
 by_cases h0:0<out.length
 · have h:=h h0
   have ge:out.length-1≤cJ out x:=by
    rcases Nat.lt_or_ge (cJ out x) (out.length-1)with c | c
    · exfalso
      have at_:=xj (out:=out) (x:=x) (by omega)
      have lt:=(List.pairwise_iff_getElem.1 u) (cJ out x) (out.length-1) (by omega) (by omega) c
      rw[← bB (List.getElem?_eq_getElem (by omega:cJ out x<out.length)),←bB (List.getElem?_eq_getElem (by omega:out.length-1<out.length))]at lt
      rcases m5 (nth out (out.length-1)).tags x.tags with a | a | a
      · have:=lex_trans lt a
        rw[at_]at this;cases this
      · rw[a]at lt;rw[at_]at lt;cases lt
      · rw[h]at a;cases a
    · exact c
   unfold gS p4
   by_cases e:cJ out x=out.length-1
   · rw[e]
     by_cases c:(nth out (out.length-1)).tags=x.tags
     · rw[if_pos ⟨by omega,c⟩,if_pos ⟨h0,c⟩]
     · exfalso
       have at_:=xj (out:=out) (x:=x) (by omega)
       rw[e]at at_
       rcases m5 (nth out (out.length-1)).tags x.tags with a | a | a
       · rw[a]at at_;cases at_
       · exact c a
       · rw[h]at a;cases a
   · have e:cJ out x=out.length:=by omega
     rw[e]
     have:¬(out.length<out.length∧(nth out out.length).tags=x.tags):=fun h=>by omega
     rw[if_neg this,List.take_length,List.drop_length,List.append_nil]
     have lt:=A3 (out:=out) (x:=x) (k:=out.length-1) (by omega)
     rw[if_neg fun h=>wG lt h.2]
 · have e:out=[]:=List.eq_nil_of_length_eq_zero (by omega)
   subst e
   unfold gS p4
   simp
end Go.Ev
namespace Go.Ev
open Go
variable [Lib] [cn] [bR] [gL] [gF] [km] [gg] [gh] [i5] [gK] [fI] [eO] [lB] [gD]
theorem Rp.more{H:aj}{id:Nat}{es:List D}{fa fb:Nat→Nat}{out:List World}(hr:Rp H id es fa fb out)(t:aj):Rp (H++t) id es fa fb out:=
 ⟨by rw[iy (mL hr.arr)];exact hr.arr,hr.len,hr.el,fun j hj=>by rw[iy (mL (hr.ha j hj))];exact hr.ha j hj,fun j hj=>by rw[iy (mL (hr.hb j hj))];exact hr.hb j hj,hr.na,hr.nb,hr.nab,hr.nbb⟩
theorem A5{α:Type} [Dat α](l:List α)(x:α)(j:Nat):nth (l++[x]) j=if j<l.length then nth l j else if j=l.length then x else Dat.dflt:=by
 unfold nth
 simp only[List.getD_eq_getElem?_getD]
 split
 · rw[List.getElem?_append_left (by assumption)]
 · split
   · rename_i e;rw[e,List.getElem?_append_right (Nat.le_refl _),Nat.sub_self];rfl
   · rw[List.getElem?_eq_none (by simp;omega)];rfl
theorem Rp.snoc{H:aj}{id:Nat}{es:List D}{fa fb:Nat→Nat}{out:List World}(hr:Rp H id es fa fb out)(x:World)(o o2:Obj):
 Rp (H.set id (.arr 2 false 0 (es++[.agg [.ref (H.length+1) 0 x.tags.length,.ref (H.length+2) 0 x.whr.length]]))++[o,.arr 1 false 0 (ints x.tags),.arr 2 false 0 (whs x.whr),o2]) id
  (es++[.agg [.ref (H.length+1) 0 x.tags.length,.ref (H.length+2) 0 x.whr.length]]) (fun j=>if j<out.length then fa j else H.length+1) (fun j=>if j<out.length then fb j else H.length+2) (out++[x]):=by
 have e2:=hr.len
 have il:=mL hr.arr
 have ba:∀j,j<out.length→fa j<H.length:=fun j hj=>mL (hr.ha j hj)
 have bb:∀j,j<out.length→fb j<H.length:=fun j hj=>mL (hr.hb j hj)
 have sl:∀o,(H.set id o).length=H.length:=fun o=>List.length_set
 have getN:∀(o3:Obj) (t:aj) (k:Nat),(H.set id o3++t)[H.length+k]?=t[k]?:=fun o3 t k=>by
  have:=gy (H:=H.set id o3) (t:=t) (k:=k)
  rwa [sl]at this
 refine⟨by rw[iy (by rw[sl];exact il),oH il],by simp[e2],?_,?_,?_,?_,?_,?_,?_⟩
 · intro j hj
   rw[List.length_append,List.length_singleton]at hj
   rw[A5]
   by_cases h:j<out.length
   · simp only[if_pos h];rw[List.getElem?_append_left (by omega)];exact hr.el j h
   · have:j=out.length:=by omega
     subst this
     simp only[Nat.lt_irrefl,if_false,if_true]
     rw[List.getElem?_append_right (by omega),e2,Nat.sub_self];rfl
 · intro j hj
   rw[List.length_append,List.length_singleton]at hj
   rw[A5]
   by_cases h:j<out.length
   · simp only[if_pos h];rw[iy (by rw[sl];exact ba j h),gz (fun e=>hr.na j h e.symm)];exact hr.ha j h
   · have:j=out.length:=by omega
     subst this
     simp only[Nat.lt_irrefl,if_false,if_true]
     rw[getN];rfl
 · intro j hj
   rw[List.length_append,List.length_singleton]at hj
   rw[A5]
   by_cases h:j<out.length
   · simp only[if_pos h];rw[iy (by rw[sl];exact bb j h),gz (fun e=>hr.nb j h e.symm)];exact hr.hb j h
   · have:j=out.length:=by omega
     subst this
     simp only[Nat.lt_irrefl,if_false,if_true]
     rw[getN];rfl
 · intro j hj;split
   · exact hr.na j (by assumption)
   · omega
 · intro j hj;split
   · exact hr.nb j (by assumption)
   · omega
 · intro i j hi hj;split
   · rename_i h1
     have:=ba i h1
     split
     · exact hr.nab i j h1 (by assumption)
     · omega
   · split
     · rename_i h1
       have:=bb j h1
       omega
     · omega
 · intro i j hi hj hne
   rw[List.length_append,List.length_singleton]at hi hj
   split
   · rename_i h1
     have:=bb i h1
     split
     · exact hr.nbb i j h1 (by assumption) hne
     · omega
   · split
     · rename_i h1
       have:=bb j h1
       omega
     · omega
abbrev tdS(s:List World)(id:Nat)(n:Nat)(j:Int)(H:aj):St:=
 ⟨[.und,.und,.und,.ref id 0 n,.und,.und,.und,.t (.sl (s.map World.e)),I s.length,I j,.und,.und],H⟩
theorem Sc(s:List World)(j:Int)(x:World)(hsx:x.sz)(out:List World)(ho:out.length≤1000000)(h0:0<out.length)(hso:∀x∈out,x.sz)(H:aj)(id:Nat)(es:List D)(fa fb:Nat→Nat)
 (hr:Rp H id es fa fb out) (hl:x.whr.length=(nth out (out.length-1)).whr.length):∀z0 z1 z2 z6:D,
 exS aO K.r9 ⟨[z0,z1,z2,.ref id 0 out.length,.bp H.length 0,I out.length,z6,.t (.sl (s.map World.e)),I s.length,I j,I x.whr.length,I 0],H++[.box [.t (tL x.tags),.t (.sl (x.whr.map Wh.e))]]⟩=
 some (.exit 2,⟨[.und,.und,.und,.ref id 0 out.length,.bp H.length 0,I out.length,.und,.t (.sl (s.map World.e)),I s.length,I j,I x.whr.length,I x.whr.length],
  H.set (fb (out.length-1)) (.arr 2 false 0 (whs (gG (nth out (out.length-1)).whr x.whr)))++[.box [.t (tL x.tags),.t (.sl (x.whr.map Wh.e))]]⟩):=by
 intro z0 z1 z2 z6
 have e1:=hr.arr
 have e2:=hr.len
 have e3:=hr.el (out.length-1) (by omega)
 have e5:=hr.hb (out.length-1) (by omega)
 have e6:=hr.nb (out.length-1) (by omega)
 have e7:=mL e5
 have e8:=mL e1
 obtain⟨s1,s2,s3⟩:=hso _ (aa (l:=out) (j:=out.length-1) (by omega))
 obtain⟨x1,x2,x3⟩:=hsx
 have ej:gG (nth out (out.length-1)).whr x.whr=iS (nth out (out.length-1)).whr x.whr x.whr.length:=by unfold gG;rw[hl,Nat.min_self]
 rw[ej]
 have ci:(out.length:Int)-1=((out.length-1:Nat):Int):=by omega
 generalize nth out (out.length-1)=y at*
 generalize out.length-1=k at*
 obtain⟨ta,wa⟩:=y
 obtain⟨tb,wb⟩:=x
 simp only at s1 s2 s3 x1 x2 x3 e3 e5 hl ⊢
 have jl:=gR wa wb
 have sl:∀o,(H.set (fb k) o).length=H.length:=fun o=>List.length_set
 have q1:∀o,(H.set (fb k) o)[id]?=H[id]?:=fun o=>gz e6
 have q2:∀o,(H.set (fb k) o)[fb k]?=some o:=fun o=>oH e7
 have q3:∀o (t:aj),(H.set (fb k) o++t)[H.length]?=t[0]?:=fun o t=>by
  have:=iQ (H:=H.set (fb k) o) (t:=t)
  rwa [sl]at this
 have q4:∀o (t:aj),(H.set (fb k) o++t)[id]?=H[id]?:=fun o t=>by rw[iy (by rw[sl];exact e8),q1]
 have q5:∀o (t:aj),(H.set (fb k) o++t)[fb k]?=some o:=fun o t=>by rw[iy (by rw[sl];exact e7),q2]
 have q6:∀o o2 (t:aj),(H.set (fb k) o++t).set (fb k) o2=H.set (fb k) o2++t:=fun o o2 t=>by rw[Jm (by rw[sl];exact e7),rv]
 refine dC (fun p=>⟨[.und,.und,.und,.ref id 0 out.length,.bp H.length 0,I out.length,.und,.t (.sl (s.map World.e)),I s.length,I j,I wb.length,I p],H.set (fb k) (.arr 2 false 0 (whs (iS wa wb p)))++[.box [.t (tL tb),.t (.sl (wb.map Wh.e))]]⟩) wb.length ?_ ?_ ?_ (by simp)
 · show(⟨_,H++_⟩:St)=⟨_,H.set (fb k) (.arr 2 false 0 (whs wa))++_⟩
   rw[AB e5];rfl
 · intro p hp
   have jp:=jl p
   have jn:=yA wa wb p p (Nat.le_refl _)
   have jo:=MU (nth wa p) (nth wb p) (s3 _ (aa (by omega)))
   have hj:iS wa wb (p+1)=(iS wa wb p).set p (ie (nth wa p) (nth wb p)).1:=rfl
   rw[hj]
   generalize iS wa wb p=J at*
   generalize hu:nth wb p=u at*
   generalize nth wa p=w at*
   generalize ie w u=r at*
   obtain⟨⟨rt,rf⟩,re⟩:=r
   simp only at jo ⊢
   simp (disch:=omega) only[go_sem,K.m6,↓reduceIte,q3,q4,q5,q6,sl,e1,e2,e3,ci,hu,jn,jo,Nat.reduceAdd,Nat.reduceSub]
 · have jp:=jl wb.length
   generalize iS wa wb wb.length=J at*
   simp (disch:=omega) only[go_sem,K.m6,↓reduceIte,q3,q4,q5,q6,sl,Nat.reduceAdd,Nat.reduceSub]
theorem MZ(s:List World)(hsl:s.length≤1000){j:Nat}(hj:j<s.length)(hx:(nth s j).sz)(out:List World)(ho:out.length≤100000)(hso:∀x∈out,x.sz)(H:aj)(id:Nat)(es:List D)(fa fb:Nat→Nat)
 (hr:Rp H id es fa fb out) (hl:0<out.length→(nth s j).whr.length=(nth out (out.length-1)).whr.length):
 ∃H' es' fa' fb',eY false [0,1,2,4,5,6,10,11] H.length (exS aO K.gC (tdS s id out.length j H))=some (tdS s id (p4 out (nth s j)).length ((j+1:Nat):Int) H')∧Rp H' id es' fa' fb' (p4 out (nth s j)):=by
 have e1:=hr.arr
 have e2:=hr.len
 have e8:=mL e1
 have ex:(s.map World.e)[j]?=some (nth s j).e:=cR _ hj
 have cw:=F8 (nth s j) hx
 by_cases c:0<out.length∧(nth out (out.length-1)).tags=(nth s j).tags
 · obtain⟨c0,ct⟩:=c
   have jo:=Sc s j (nth s j) hx out (by omega) c0 hso H id es fa fb hr (hl c0)
   have s1:=(hso _ (aa (l:=out) (j:=out.length-1) (by omega))).1
   have sm:=xh (nth out (out.length-1)).tags (nth s j).tags (by omega) (by have:=hx.1;omega)
   simp only[ct,decide_true]at sm
   have e3:=hr.el (out.length-1) (by omega)
   have e4:=hr.ha (out.length-1) (by omega)
   have mg:=(hr.merge (k:=out.length-1) (by omega) ⟨(nth s j).tags,gG (nth out (out.length-1)).whr (nth s j).whr⟩ ct (gR _ _ _)).more [.box [.t (tL (nth s j).tags),.t (.sl ((nth s j).whr.map Wh.e))]]
   have lw:p4 out (nth s j)=out.set (out.length-1) ⟨(nth s j).tags,gG (nth out (out.length-1)).whr (nth s j).whr⟩:=by unfold p4;rw[if_pos ⟨c0,ct⟩]
   rw[lw]
   refine⟨_,es,fa,fb,?_,mg⟩
   have ci:(out.length:Int)-1=((out.length-1:Nat):Int):=by omega
   rw[List.length_set]
   generalize nth out (out.length-1)=y at*
   generalize out.length-1=k at*
   obtain⟨ta,wa⟩:=y
   simp only at ct
   subst ct
   generalize nth s j=x at*
   obtain⟨tb,wb⟩:=x
   simp only[tdS,ints]at*
   have g4:fa k<H.length:=mL e4
   simp (disch:=omega) only[go_sem,K.gC,↓reduceIte,ex,ci,sm,e1,e2,e3,e4,jo,iy,iQ,gy,mq,rz,Nat.reduceAdd,Nat.reduceSub]
 · have lw:p4 out (nth s j)=out++[nth s j]:=by unfold p4;rw[if_neg c]
   rw[lw]
   refine⟨_,_,_,_,?_,hr.snoc (nth s j) (.box [.t (tL (nth s j).tags),.t (.sl ((nth s j).whr.map Wh.e))]) (.arr 2 false 0 [.agg [.ref (H.length+1) 0 (nth s j).tags.length,.ref (H.length+2) 0 (nth s j).whr.length]])⟩
   rw[List.length_append,List.length_singleton]
   by_cases c0:0<out.length
   · have ct:¬(nth out (out.length-1)).tags=(nth s j).tags:=fun e=>c ⟨c0,e⟩
     have s1:=(hso _ (aa (l:=out) (j:=out.length-1) (by omega))).1
     have sm:=xh (nth out (out.length-1)).tags (nth s j).tags (by omega) (by have:=hx.1;omega)
     simp only[ct,decide_false]at sm
     have e3:=hr.el (out.length-1) (by omega)
     have e4:=hr.ha (out.length-1) (by omega)
     have ci:(out.length:Int)-1=((out.length-1:Nat):Int):=by omega
     generalize nth out (out.length-1)=y at*
     generalize out.length-1=k at*
     obtain⟨ta,wa⟩:=y
     generalize nth s j=x at*
     obtain⟨tb,wb⟩:=x
     simp only[tdS,ints]at*
     have g4:fa k<H.length:=mL e4
     simp (disch:=omega) only[go_sem,K.gC,↓reduceIte,ex,ci,sm,e1,e2,e3,e4,cw,iy,iQ,gy,Jm,mq,rz,Nat.add_assoc,Bool.false_eq_true,whs,Nat.reduceAdd,Nat.reduceSub]
   · generalize nth s j=x at*
     obtain⟨tb,wb⟩:=x
     simp only[tdS,ints]at*
     simp (disch:=omega) only[go_sem,K.gC,↓reduceIte,ex,e1,e2,cw,iy,iQ,gy,Jm,mq,rz,Nat.add_assoc,whs,Nat.reduceAdd,Nat.reduceSub]
theorem Sd{H:aj}{id:Nat}{es:List D}{fa fb:Nat→Nat}{out:List World}(hr:Rp H id es fa fb out):bO (Go.Ev.frz H 7) es=some (out.map World.e):=by
 have hl:=hr.len
 have key:∀(j:Nat) (hj:j<out.length),Go.Ev.frz H 7 (.agg [.ref (fa j) 0 (nth out j).tags.length,.ref (fb j) 0 (nth out j).whr.length])=some (nth out j).e:=by
  intro j hj
  have h1:=hr.ha j hj
  have h2:=hr.hb j hj
  simp (disch:=omega) only[go_sem,h1,h2,ints,whs,↓reduceIte]
 have:∀(es:List D) (ts:List T),es.length=ts.length→(∀(j:Nat) e t,es[j]?=some e→ts[j]?=some t→Go.Ev.frz H 7 e=some t)→bO (Go.Ev.frz H 7) es=some ts:=by
  intro es
  induction es with
  | nil=>intro ts h _;cases ts with
    | nil=>rfl
    | cons=>simp at h
  | cons e es ih=>
    intro ts h hh
    cases ts with
    | nil=>simp at h
    | cons t ts=>
      have h1:=hh 0 e t rfl rfl
      have h2:=ih ts (by simpa using h) fun j e t he ht=>hh (j+1) e t (by simpa using he) (by simpa using ht)
      simp only[bO,h1,Option.bind_some,h2,Option.map_some]
 refine this es _ (by rw[List.length_map,hl]) fun j e t he ht=>?_
 have hj:j<out.length:=by rw[← hl];exact(List.getElem?_eq_some_iff.1 he).1
 rw[hr.el j hj]at he
 rw[cR _ hj]at ht
 cases he;cases ht
 exact key j hj
theorem HA{H:aj}{id sz n:Nat}{pin:Bool}{es:List D}{ts:List T}(hid:H[id]?=some (.arr sz pin 0 es))(hn:n=es.length)(hf:bO (Go.Ev.frz H 7) es=some ts):finish 0 0 H [.ref id 0 n]=some (.t (.sl ts),[]):=by
 have e:Go.Ev.frz H depth (.ref id 0 n)=some (.sl ts):=by
  have ha:fF H id 0 n=some (sz,pin,es):=by simp only[fF,hid];rw[if_pos ⟨trivial,hn⟩]
  show((fF H id 0 n).bind fun a=>bO (Go.Ev.frz H 7) a.2.2).map T.sl=_
  rw[ha,Option.bind_some,hf];rfl
 have o1:[D.t (T.sl ts)].all (old 0 depth)=true:=by simp[old]
 unfold finish
 simp only[if_true,bO,rL,e,Option.map_some,Option.bind_some,o1,List.take_zero,List.all_nil,Bool.and_self,iC,Nat.zero_le,decide_true,te]
 rw[if_pos (by simp)]
def tdP(s:List World)(j:Nat)(st:St):Prop:=
 ∃H es fa fb out,st=tdS s 1 out.length (j:Int) H∧Rp H 1 es fa fb out∧out=(s.take j).foldl p4 []
theorem M0{m:aT}(hm:m.ok){first:List Int}{out:List World}(h:∀y∈out,WV m first y){x:World}(hx:WV m first x):∀y∈p4 out x,WV m first y:=by
 intro y hy
 unfold p4 at hy
 split at hy
 · rename_i c
   obtain⟨c0,c1⟩:=c
   have wk:=h _ (aa (l:=out) (j:=out.length-1) (by omega))
   have w1:=wk.wl
   have w2:=hx.wl
   rcases List.mem_or_eq_of_mem_set hy with a | rfl
   · exact h y a
   · exact⟨hx.pm,by rw[gG,gR];exact w1,sY hm wk.wv hx.wv _ (by omega) (by omega)⟩
 · rcases List.mem_append.1 hy with hy | hy
   · exact h y hy
   · rw[List.mem_singleton.1 hy];exact hx
theorem Gc{m:aT}(hm:m.ok){first:List Int}{s:List World}(hs:∀x∈s,WV m first x):∀j,j≤s.length→(∀y∈(s.take j).foldl p4 [],WV m first y)∧((s.take j).foldl p4 []).length≤j
 | 0,_=>⟨fun y hy=>by simp at hy,by simp⟩
 | j+1,h=>by
   obtain⟨a,b⟩:=Gc hm hs j (by omega)
   rw[iv (by omega),List.foldl_append]
   generalize (s.take j).foldl p4 []=out at*
   simp only[List.foldl_cons,List.foldl_nil]
   refine⟨M0 hm a (hs _ (aa (by omega))),?_⟩
   unfold p4
   split
   · rw[List.length_set];omega
   · rw[List.length_append,List.length_singleton];omega
theorem WV.wsz{m:aT}(hm:m.ok){first:List Int}(f2:first.length≤12){x:World}(h:WV m first x):x.sz:=by
 have np:=hm.np
 have l1:=h.pm.length_eq
 have l2:=h.wl
 exact⟨by omega,by omega,fun w hw=>by have:=(bL (h.wv w hw)).1;omega⟩
theorem zZ{m:aT}(hm:m.ok){first:List Int}(pr:eH first=true)(f1:1≤first.length)(f2:first.length≤12){s:List World}(hs:∀x∈s,WV m first x)(so:EB s):∀j,j≤s.length→
 (s.take j).foldl p4 []=(s.take j).foldl gS []∧BV m first ((s.take j).foldl gS [])∧∀w∈(s.take j).foldl gS [],∃k,k<j∧w.tags=(nth s k).tags
 | 0,_=>⟨rfl,⟨pr,f1,f2,(fun x hx=>by cases hx),List.Pairwise.nil⟩,fun w hw=>by simp at hw⟩
 | j+1,h=>by
   obtain⟨e,bv,fr⟩:=zZ hm pr f1 f2 hs so j (by omega)
   rw[iv (by omega),List.foldl_append,List.foldl_append,e]
   simp only[List.foldl_cons,List.foldl_nil]
   have hx:=hs _ (aa (l:=s) (j:=j) (by omega))
   generalize (s.take j).foldl gS []=out at*
   refine⟨(zY bv.up fun h0=>?_).symm,nG hm bv hx,fun w hw=>?_⟩
   · obtain⟨k,hk,ek⟩:=fr _ (aa (l:=out) (j:=out.length-1) (by omega))
     rw[ek]
     have:=(List.pairwise_iff_getElem.1 so) k j (by omega) (by omega) hk
     rwa [← bB (List.getElem?_eq_getElem (by omega:k<s.length)),←bB (List.getElem?_eq_getElem (by omega:j<s.length))]at this
   · unfold gS at hw
     split at hw
     · rcases List.mem_or_eq_of_mem_set hw with a | rfl
       · obtain⟨k,hk,ek⟩:=fr w a;exact⟨k,by omega,ek⟩
       · exact⟨j,by omega,rfl⟩
     · simp only[List.mem_append,List.mem_singleton]at hw
       rcases hw with(hw | rfl) | hw
       · obtain⟨k,hk,ek⟩:=fr w (List.mem_of_mem_take hw);exact⟨k,by omega,ek⟩
       · exact⟨j,by omega,rfl⟩
       · obtain⟨k,hk,ek⟩:=fr w (List.mem_of_mem_drop hw);exact⟨k,by omega,ek⟩
theorem M1{m:aT}(hm:m.ok){first:List Int}(pr:eH first=true)(f1:1≤first.length)(f2:first.length≤12)(l:List World)(hl:∀x∈l,WV m first x)(h0:0<l.length)(h20:l.length<20):
 aO 0 N.fW [.t (.sl (l.map World.e))] []=some (.t (.sl ((nf l).map World.e)),[]):=by
 obtain⟨s,hs,pm,so⟩:=Hw l (fun w hw=>(hl w hw).wsz hm f2) h0 h20
 have hv:=fun x hx=>hl x (pm.mem_iff.1 hx)
 have ln:=pm.length_eq
 have td:(s.take s.length).foldl p4 []=nf l:=by
  rw[(zZ hm pr f1 f2 hv so s.length (Nat.le_refl _)).1,List.take_length,←rE]
  exact Hz hm pr f1 f2 pm hv
 have loop:∀z0 z1 z2 z4 z5 z6 z10 z11:D,∃q,exS aO K.sg ⟨[z0,z1,z2,.ref 1 0 0,z4,z5,z6,.t (.sl (s.map World.e)),I s.length,I 0,z10,z11],[.box [.t (.sl (l.map World.e))],.arr 2 false 0 []]⟩=some q∧∃H es fa fb,q=(.exit 0,tdS s 1 (nf l).length s.length H)∧Rp H 1 es fa fb (nf l):=by
  intro z0 z1 z2 z4 z5 z6 z10 z11
  refine JQ (tdP s) s.length _ ?_ ?_ ?_
  · exact⟨_,[],fun _=>0,fun _=>0,[],rfl,⟨rfl,rfl,fun j hj=>by simp at hj,fun j hj=>by simp at hj,fun j hj=>by simp at hj,fun j hj=>by simp at hj,fun j hj=>by simp at hj,fun i j hi=>by simp at hi,fun i j hi=>by simp at hi⟩,rfl⟩
  · rintro j st hj ⟨H,es,fa,fb,out,rfl,hr,ho⟩
    obtain⟨a,b⟩:=Gc hm hv j (by omega)
    rw[← ho]at a b
    have wx:=hv _ (aa (l:=s) (j:=j) hj)
    obtain⟨H',es',fa',fb',r1,r2⟩:=MZ s (by omega) hj (wx.wsz hm f2) out (by omega) (fun x hx=>(a x hx).wsz hm f2) H 1 es fa fb hr (fun h=>by
     rw[wx.wl,(a _ (aa (l:=out) (j:=out.length-1) (by omega))).wl])
    refine .inl ⟨_,r1,H',es',fa',fb',_,rfl,r2,?_⟩
    rw[iv hj,List.foldl_append,←ho];rfl
  · rintro st ⟨H,es,fa,fb,out,rfl,hr,ho⟩
    rw[td]at ho
    subst ho
    refine⟨(.exit 0,tdS s 1 (nf l).length s.length H),?_,by simp,H,es,fa,fb,rfl,hr⟩
    simp only[tdS]
    simp (disch:=omega) only[go_sem,K.gC,↓reduceIte,Nat.reduceAdd,Nat.reduceSub]
 refine ax K.pY rfl ?_
 have va:=Hu l
 obtain⟨q,hq,H,es,fa,fb,rfl,hr⟩:=loop (.t (.sl (l.map World.e))) .nil (.t (.sl (s.map World.e))) .und .und .und .und .und
 have fin:=HA hr.arr hr.len.symm (Sd hr)
 simp only[tdS]at hq
 simp (disch:=omega) only[go_sem,K.fW,↓reduceIte,va,hs,hq,fin,Nat.reduceAdd,Nat.reduceSub]
end Go.Ev
namespace Go.Ev
open Go
variable [Lib] [cn] [bR] [gL] [gF] [km] [gg] [gh] [i5] [gK] [fI] [eO]
theorem HB{m:aT}(h:m.ok)(b:Bel)(hs:b.sz):aO 0 N.eJ [.t m.e,.t b.e] []=some (B (pI m b),[]):=by
 rw[← MT]
 refine ax K.pU rfl ?_
 obtain⟨h1,h2⟩:=hs
 have v:=lq h
 obtain⟨ws⟩:=b
 simp only at h1 h2
 have li:=GW ws.length 1 24
 unfold MS
 simp only
 by_cases c:1≤ws.length∧ws.length≤24
 · have li:aO 0 N.eu [I ws.length,I 1,I 24] []=some (B true,[]):=by rw[li,decide_eq_true (by omega)]
   have e0:(ws.map World.e)[0]?=some (nth ws 0).e:=cR _ (by omega)
   have sz:=(h2 _ (aa (l:=ws) (j:=0) (by omega))).1
   have loop:=fun a b c d e=>uk (gc:=true) (dead:=[0,1,4,6,7]) (c:=K.bI) (vs:=[a,b,.bp 0 0,.bp 1 0,c,.t (tL (iL (nth ws 0).tags)),d,e,.t (.sl (ws.map World.e)),I ws.length,I 0]) (H:=[.box (ah m),.box [.t (.sl (ws.map World.e))],.box [.t (tL (nth ws 0).tags)]])
    (swS m ws (nth ws 0).tags) ws.length (fun j=> !pwB m ws (nth ws 0).tags j) (fun _ q=>q.1= .ret∧q.2.vs[4]?=some (B false))
    (.exit 0,swS m ws (nth ws 0).tags ws.length) rfl
    (fun j hj hp=>(Ke h ws _ sz h2 j hj h1).1 (by simpa using hp))
    (fun j hj hp=>by
     obtain⟨q,q1,q2,q3⟩:=(Ke h ws _ sz h2 j hj h1).2 (by simpa using hp)
     exact⟨q,q1,by rw[q2];simp,q2,q3⟩)
    (by simp (disch:=omega) only[go_sem,K.bI,swS,↓reduceIte,Nat.reduceAdd,Nat.reduceSub]) (by simp)
   rw[pB]
   have va:=yx (nth ws 0).tags
   have so:=yy (nth ws 0).tags sz
   have loop:=loop (.t m.e) (.t (Bel.e ⟨ws⟩)) (B false) .und .und
   generalize nth ws 0=x at*
   obtain⟨first,whr⟩:=x
   simp only[swS]at*
   generalize iL first=sf at*
   rcases loop with⟨e1,e2⟩ | ⟨j,⟨x,vs,H⟩,e1,e2,e3,e4⟩
   · have e2:exS aO K.oe _=_:=e2
     simp (disch:=omega) only[go_sem,K.eJ,↓reduceIte,v,li,e0,va,so,c,and_self,decide_true,Bool.true_and,e1,e2,Option.isNone,Nat.reduceAdd,Nat.reduceSub]
   · have e2:exS aO K.oe _=_:=e2
     simp only at e3 e4
     subst e3
     simp (disch:=omega) only[go_sem,K.eJ,↓reduceIte,v,li,e0,va,so,c,and_self,decide_true,Bool.true_and,e1,e2,Option.isNone,Nat.reduceAdd,Nat.reduceSub]
     simp (disch:=omega) only[go_sem,iA,e4,List.take_zero]
 · have li:aO 0 N.eu [I ws.length,I 1,I 24] []=some (B false,[]):=by rw[li,decide_eq_false (by omega)]
   simp (disch:=omega) only[go_sem,K.eJ,↓reduceIte,v,li,c,decide_false,Bool.false_and,Nat.reduceAdd,Nat.reduceSub]
end Go.Ev
namespace Go.Ev
open Go
variable [Lib] [cn] [bR] [gg] [gh]
abbrev M3:Int:=2147483648
section
variable {m : aT} (h : m.ok) {fl : List Spn}
include h
end
end Go.Ev
namespace Go.Ev
open Go
def clP(m:aT)(fl:List Spn)(y:List Int):Prop:=∀k,k<m.roads.length→∀back,0≤vj (nth m.roads k) (nth fl k) back→
 nth y ((nth m.roads k).src back).toNat+vj (nth m.roads k) (nth fl k) back≤M3→
 nth y ((nth m.roads k).dst back).toNat≤nth y ((nth m.roads k).src back).toNat+vj (nth m.roads k) (nth fl k) back
variable [Lib] [cn] [bR] [gg] [gh]
end Go.Ev
namespace Go.Ev
open Go
variable [Lib] [cn] [bR] [gg] [gh]
def acH(l:List Int):Prop:=∀x∈l,0≤x∧(x≤M3∨x=1099511627776)
theorem acH.bnd{l:List Int}(h:acH l):bnd l:=fun x hx=>by have:=h x hx;simp only[M3]at this;omega
end Go.Ev
namespace Go.Ev
open Go
variable [Lib] [cn] [bR] [gL] [gF] [gg] [gh]
structure XC(m:aT)(fl:List Spn)(s:Wh):Prop where
 ln:s.frm.length=m.places.length
 ti:inT s.time
 tm:acH s.frm
 lo:∀x∈s.frm,s.time≤x
 cl:clP m fl s.frm
theorem XC.valid{m:aT}{fl:List Spn}{s:Wh}(h:XC m fl s):Jz m s=true:=by
 simp only[Jz,Bool.and_eq_true,decide_eq_true_eq,List.all_eq_true,List.mem_range]
 refine⟨fun j hj=>?_,h.ln,h.ti⟩
 have a:=h.tm _ (aa hj)
 have b:=h.lo _ (aa hj)
 unfold plS
 simp only[M3]at a
 omega
end Go.Ev
namespace Go.Ev
open Go
variable [Lib] [cn] [bR] [gL] [gF] [km] [gg] [gh] [i5] [gK] [fI] [eO]
section
variable {m : aT} (hm : m.ok) (l : List Mch) (hl : l.length ≤ 1000) (hp : ∀ x ∈ l, x.pl.length ≤ 1000000) (s : Wh) (hs : s.frm.length ≤ 1000000) (b : Bel) (hb : b.sz) (t a : Int)
include hm hl hp hs hb
end
end Go.Ev
namespace Go.Ev
open Go
variable [Lib] [cn] [bR] [gL] [gF] [gg] [gh]
end Go.Ev
namespace Go.Ev
open Go
variable [Lib] [cn] [bR]
def sh(s x:Int):Int:=if x<1099511627776 then x+s else x
def shL(s:Int)(l:List Int):List Int:=l.map (sh s)
@[simp] theorem acI (s : Int) (l : List Int) : (shL s l).length = l.length := List.length_map ..
end Go.Ev
namespace Go.Ev
open Go
variable [Lib] [cn] [bR] [gL] [gF] [km] [gg] [gh] [i5] [gK]
theorem qV(l:List Int)(x:Int){j:Nat}(hj:j<l.length):nth (l++[x]) j=nth l j:=by
 unfold nth;simp[List.getD_eq_getElem?_getD,List.getElem?_append_left hj]
theorem Kq(l:List Int)(x:Int):nth (l++[x]) l.length=x:=by
 unfold nth;simp[List.getD_eq_getElem?_getD]
def acJ(m:aT)(A:List Int)(k:Nat)(back:Bool)(d e:Nat):Prop:=k<m.roads.length∧0≤dI m k back 6 9 12∧(e:Int)=d+max 1 (dI m k back 6 9 12)∧(∀τ,d≤τ→τ<e→nth A τ=(nth m.roads k).src back)∧nth A e=(nth m.roads k).dst back∧e<A.length
theorem acJ.snoc{m:aT}{A:List Int}{k:Nat}{back:Bool}{d e:Nat}(h:acJ m A k back d e)(x:Int):acJ m (A++[x]) k back d e:=by
 obtain⟨h1,h2,h3,h4,h5,h6⟩:=h
 refine⟨h1,h2,h3,fun τ a b=>?_,?_,by simp;omega⟩
 · rw[qV _ _ (by omega)];exact h4 τ a b
 · rw[qV _ _ h6];exact h5
theorem Kr{l:List Int}{n:Nat}(h:rr l n=true):rr l ((n+1:Nat):Int)=true∧rr (l++[(n:Int)]) ((n+1:Nat):Int)=true:=by
 simp only[rr,List.all_eq_true,List.mem_range,decide_eq_true_eq]at h ⊢
 refine⟨fun j hj=>?_,fun j hj=>?_⟩
 · obtain⟨a,b,c⟩:=h j hj;exact⟨a,by omega,c⟩
 · by_cases c:j<l.length
   · obtain⟨a,b,c⟩:=h j c
     rw[qV _ _ (by omega)]
     refine⟨a,by omega,fun hj=>?_⟩
     rw[qV _ _ (by omega)];exact c hj
   · have e:j=l.length:=by simp at hj;omega
     subst e
     rw[Kq]
     refine⟨by omega,by omega,fun hj=>?_⟩
     rw[qV _ _ (by omega)]
     exact(h (l.length-1) (by omega)).2.1
theorem Aa(d:aC):∀n:Nat,rr (d.lk n).1 n=true
 | 0=>rfl
 | n+1=>by
   have ih:=Aa d n
   have:=Kr ih
   simp only[aC.lk]
   split
   · exact this.2
   · exact this.1
end Go.Ev
namespace Go.Ev
open Go
variable [Lib] [cn] [bR] [gL] [gF] [km] [gg] [gh] [i5] [gK] [fI] [eO]
theorem Ks{m:aT}(hm:m.ok){b:Bel}(hb:pI m b=true)(tag:Int)(l:List Int)(a c:Int):pI m (lz m b tag l a c).1=true:=by
 unfold lz
 split
 · exact hb
 · split
   · exact hb
   · split
     · exact hb
     · rename_i h
       obtain⟨ws⟩:=b
       have bv:=XA hm (qU hb) tag l a c
       have ln:=uu m tag l a c ws ws.length
       obtain⟨h1,h2, -⟩:=eR hb
       simp only at h1 h2 h ⊢
       exact bv.bel (by omega) (by omega)
theorem Se{m:aT}(hm:m.ok){b:Bel}(hb:pI m b=true)(tag:Int)(l:List Int)(a c bl:Int):pI m (qQ m b tag l a c bl).1=true:=by
 unfold qQ
 split
 · exact hb
 · split
   · exact hb
   · obtain⟨ws⟩:=b
     have bv:=XB hm (qU hb) tag l a c bl
     have ln:=uv m tag l a c bl ws ws.length
     obtain⟨h1,h2, -⟩:=eR hb
     simp only at h1 h2 ⊢
     exact bv.bel (by omega) (by omega)
theorem M4{m:aT}(hm:m.ok){b:Bel}(hb:pI m b=true)(i j t:Int):pI m (m0 m b i j t).1=true:=by
 unfold m0
 split
 · exact hb
 · split
   · exact hb
   · rename_i hij
     split
     · exact hb
     · split
       · exact hb
       · rename_i hl
         obtain⟨ws⟩:=b
         have bv:=qU hb
         obtain⟨h1,h2, -⟩:=eR hb
         simp only at h1 h2 hl hij ⊢
         have nb:=uC hm bv.wv (i:=i.toNat) (j:=j.toNat) (by omega) (by omega) t ws.length (Nat.le_refl _)
         have el:=rC i.toNat j.toNat t ws ws.length
         have tv:=A4 hm bv.pr bv.f1 bv.f2 nb _ (Nat.le_refl _)
         refine BV.bel tv ?_ (Nat.not_lt.1 hl)
         have t1:∀k,1≤k→1≤(oK (iz i.toNat j.toNat t ws ws.length) k).length:=by
          intro k hk
          obtain⟨k,rfl⟩:∃k',k=k'+1:=⟨k-1,by omega⟩
          exact(ux _ _).2.2
         exact t1 _ (by omega)
theorem vr{m:aT}(hm:m.ok){n:Int}{s:BSt}(hb:pI m s.b=true):∀k,pI m (aC.vq m n s k).b=true
 | 0=>hb
 | k+1=>by
   have ih:=vr hm (n:=n) hb k
   simp only[aC.vq]
   generalize aC.vq m n s k=q at*
   unfold aC.ko
   simp only
   split
   · simp only
     split
     · exact M4 hm ih _ _ _
     · exact ih
   · split
     · simp only
       split
       · exact Ks hm ih _ _ _ _
       · exact ih
     · simp only
       split
       · exact Se hm ih _ _ _ _ _
       · exact ih
theorem Ab{m:aT}(hm:m.ok)(h1:1≤m.places.length)(d:aC):pI m (d.Ia m).b=true:=by
 have pb:=yE d
 have tl:=kn d.om
 have sl:(d.lV m).1.length=d.om:=aC.jS _ _ _
 have t0:=(d.lV m).2.dG 100
 have t9:=(d.lV m).2.dH (n:=100) (by omega)
 have pr:=wE (n:=d.om) (by omega)
 unfold aC.Ia
 rw[AV hm h1]
 refine BV.bel (first:=pX d.om) ⟨pr,by omega,by omega,fun x hx=>?_,by simp⟩ (by simp) (by simp)
 rw[List.mem_singleton.1 hx]
 refine⟨List.Perm.refl _,by simp,fun w hw=>?_⟩
 simp only[gB,List.mem_map,List.mem_range]at hw
 obtain⟨i,hi,rfl⟩:=hw
 have hi:i<(d.lV m).1.length:=by rw[sl,←tl];exact hi
 have:=qS (d.next 3).2 (n:=m.places.length) (by omega) d.om _ (aa hi)
 exact(yi hm this.1 this.2 ⟨by omega,by omega⟩).2
theorem CY{m:aT}(hm:m.ok)(h1:1≤m.places.length)(d:aC):pI m (d.qR m).1=true:=vr hm (Ab hm h1 d) _
end Go.Ev
namespace Go.Ev
open Go
variable [Lib] [cn] [bR] [gL] [gF] [km] [gg] [gh] [i5] [gK] [fI] [eO] [lB] [gD]
end Go.Ev
namespace Go.Ev
open Go
variable [Lib] [cn] [bR] [gL] [gF]
def Kt(m:aT)(area:List Int)(r:Nat):Bool:= !(nth m.roads r).closed&&(decide (0≤dI m r false 6 9 12)||decide (0≤dI m r true 6 9 12))&&(decide ((nth m.roads r).frm∈area) != decide ((nth m.roads r).to∈area))
def i7(m:aT)(area:List Int):List Int:=gx m.roads.length (Kt m area)
def CZ(r:Road):Road:={ r with walk:=false}
def A6(roads:List Road)(l:List Int):Nat→List Road
 | 0=>roads
 | k+1=>(A6 roads l k).set (nth l k).toNat (CZ (nth (A6 roads l k) (nth l k).toNat))
theorem nH(roads:List Road)(l:List Int):∀k,(A6 roads l k).length=roads.length
 | 0=>rfl
 | k+1=>by simp only[A6,List.length_set,nH roads l k]
def bT(m:aT)(l:List Int):aT:=⟨m.places,A6 m.roads l l.length⟩
def ku(m:aT)(l:List Int):aT×Int:=if rr l m.roads.length=false then(⟨[],[]⟩,4)else(bT m l,0)
theorem M5(ts:List T)(i:Nat)(x:T):(ts.map D.t).set i (.t x)=(ts.set i x).map .t:=by simp
theorem uE{l:List Int}{n:Int}(h:rr l n=true){j:Nat}(hj:j<l.length):0≤nth l j∧nth l j<n:=by
 unfold rr at h
 rw[List.all_eq_true]at h
 have:=h j (List.mem_range.2 hj)
 simp only[decide_eq_true_eq]at this
 exact⟨this.1,this.2.1⟩
theorem Ku{n:Nat}{r:Road}(h:r.ok n):(CZ r).ok n:=⟨h.f0,h.f1,h.t0,h.t1,h.ne,h.l0,h.l1,h.a0,h.a1,h.r0,h.r1,h.r2,h.i0,h.i1,h.i2⟩
theorem Kv{n:Nat}{roads:List Road}(h:∀r∈roads,r.ok n){l:List Int}(hl:∀j,j<l.length→0≤nth l j∧nth l j<roads.length):∀k,k≤l.length→∀r∈A6 roads l k,r.ok n
 | 0,_,r,hr=>h r hr
 | k+1,hk,r,hr=>by
   have ih:=Kv h hl k (by omega)
   have bl:=nH roads l k
   obtain⟨h1,h2⟩:=hl k (by omega)
   simp only[A6]at hr
   rcases List.mem_or_eq_of_mem_set hr with h3 | h3
   · exact ih r h3
   · rw[h3];exact Ku (ih _ (aa (by omega)))
theorem vt{m:aT}(h:m.ok){l:List Int}(hs:rr l m.roads.length=true):(bT m l).ok:=
 ⟨h.np,by show(A6 m.roads l l.length).length≤128;rw[nH];exact h.nr,h.hs,Kv h.rs (fun j hj=>uE hs hj) l.length (Nat.le_refl _)⟩
def p5(l:List Int)(t:Int):Nat→List Int
 | 0=>l
 | p+1=>if t<nth (p5 l t p) p then(p5 l t p).set p never else p5 l t p
theorem jw(l:List Int)(t:Int):∀p,(p5 l t p).length=l.length
 | 0=>rfl
 | p+1=>by unfold p5;split<;>simp only[List.length_set,jw l t p]
def vu(m:aT)(w:Wh)(t:Int):Wh:=⟨t,cK m t none (p5 w.frm t w.frm.length)⟩
theorem yJ{l:List Int}(h:bnd l)(t:Int):∀p,bnd (p5 l t p)
 | 0=>h
 | p+1=>by
   have ih:=yJ h t p
   unfold p5
   split
   · intro x hx
     rcases List.mem_or_eq_of_mem_set hx with h1 | h1
     · exact ih x h1
     · subst h1;decide
   · exact ih
theorem C0{H H':aj}:∀(k:Nat) (d:D),(∀i∈eW H k d,∃sz pin pin' ep es,H[i]?=some (.arr sz pin ep es)∧H'[i]?=some (.arr sz pin' ep es))→frz H' k d=frz H k d∧eW H' k d=eW H k d:=by
 intro k
 induction k with
 | zero=>intro d _;cases d<;>exact⟨rfl,rfl⟩
 | succ k ih=>
   intro d h
   have list:∀es:List D,(∀i∈es.flatMap (eW H k),∃sz pin pin' ep es,H[i]?=some (.arr sz pin ep es)∧H'[i]?=some (.arr sz pin' ep es))→bO (frz H' k) es=bO (frz H k) es∧es.flatMap (eW H' k)=es.flatMap (eW H k):=by
    intro es
    induction es with
    | nil=>intro _;exact⟨rfl,rfl⟩
    | cons e es ihl=>
      intro he
      obtain⟨a1,a2⟩:=ih e fun i hi=>he i (by simp[hi])
      obtain⟨b1,b2⟩:=ihl fun i hi=>he i (by rw[List.flatMap_cons];exact List.mem_append_right _ hi)
      exact⟨by simp only[bO,a1,b1],by simp only[List.flatMap_cons,a2,b2]⟩
   cases d with
   | agg cs=>
     simp only[eW]at h
     obtain⟨a1,a2⟩:=list cs h
     exact⟨by simp only[frz,a1],by simp only[eW,a2]⟩
   | ref id ep n=>
     obtain⟨sz,pin,pin',ep',es,e1,e2⟩:=h id (by simp[eW])
     have:∀i∈es.flatMap (eW H k),∃sz pin pin' ep es,H[i]?=some (.arr sz pin ep es)∧H'[i]?=some (.arr sz pin' ep es):=fun i hi=>h i (by simp only[eW,e1];exact List.mem_cons_of_mem _ hi)
     obtain⟨a1,a2⟩:=list es this
     refine⟨?_,by simp only[eW,e1,e2,a2]⟩
     simp only[frz,fF,e1,e2]
     by_cases c:ep=ep'∧n=es.length
     · simp only[if_pos c,Option.bind_some,a1]
     · simp only[if_neg c,Option.bind_none]
   | sub id ep n lo hi=>
     obtain⟨sz,pin,pin',ep',es,e1,e2⟩:=h id (by simp[eW])
     have:∀i∈es.flatMap (eW H k),∃sz pin pin' ep es,H[i]?=some (.arr sz pin ep es)∧H'[i]?=some (.arr sz pin' ep es):=fun i hi=>h i (by simp only[eW,e1];exact List.mem_cons_of_mem _ hi)
     obtain⟨a1,a2⟩:=list es this
     have:∀i∈((es.drop lo).take (hi-lo)).flatMap (eW H k),∃sz pin pin' ep es,H[i]?=some (.arr sz pin ep es)∧H'[i]?=some (.arr sz pin' ep es):=fun i hi=>by
      obtain⟨e,he,hi⟩:=List.mem_flatMap.1 hi
      exact this i (List.mem_flatMap.2 ⟨e,List.mem_of_mem_drop (List.mem_of_mem_take he),hi⟩)
     obtain⟨b1,b2⟩:=list _ this
     refine⟨?_,by simp only[eW,e1,e2,a2]⟩
     simp only[frz,fF,e1,e2]
     by_cases c:ep=ep'∧n=es.length
     · simp only[if_pos c,Option.bind_some,b1]
     · simp only[if_neg c,Option.bind_none]
   | _=>exact⟨rfl,rfl⟩
def lW(bm:aT)(t:Int)(ws:List Wh):Nat→List Wh
 | 0=>ws
 | k+1=>(lW bm t ws k).set k (vu bm (nth ws k) t)
theorem jT(bm:aT)(t:Int)(ws:List Wh):∀k,(lW bm t ws k).length=ws.length
 | 0=>rfl
 | k+1=>by simp only[lW,List.length_set,jT bm t ws k]
theorem oN(bm:aT)(t:Int)(ws:List Wh):∀k j,k≤ws.length→nth (lW bm t ws k) j=if j<k then vu bm (nth ws j) t else nth ws j
 | 0,j,_=>by simp[lW]
 | k+1,j,hk=>by
   have ih:=oN bm t ws k j (by omega)
   simp only[lW]
   rw[sV _ _ (by rw[jT];omega),ih]
   by_cases h1:j=k
   · subst h1;rw[if_pos rfl,if_pos (by omega)]
   · rw[if_neg h1]
     by_cases h2:j<k
     · rw[if_pos h2,if_pos (by omega)]
     · rw[if_neg h2,if_neg (by omega)]
def EE(bm:aT)(t:Int)(x:World)(k:Nat):World:=⟨x.tags,lW bm t x.whr k⟩
def wH(bm:aT)(t:Int)(xs:List World):Nat→List World
 | 0=>xs
 | i+1=>(wH bm t xs i).set i (EE bm t (nth xs i) (nth xs i).whr.length)
theorem rF(bm:aT)(t:Int)(xs:List World):∀k,(wH bm t xs k).length=xs.length
 | 0=>rfl
 | k+1=>by simp only[wH,List.length_set,rF bm t xs k]
theorem Ac(bm:aT)(t:Int)(xs:List World):∀k j,k≤xs.length→nth (wH bm t xs k) j=if j<k then EE bm t (nth xs j) (nth xs j).whr.length else nth xs j
 | 0,j,_=>by simp[wH]
 | k+1,j,hk=>by
   have ih:=Ac bm t xs k j (by omega)
   simp only[wH]
   rw[sV _ _ (by rw[rF];omega),ih]
   by_cases h1:j=k
   · subst h1;rw[if_pos rfl,if_pos (by omega)]
   · rw[if_neg h1]
     by_cases h2:j<k
     · rw[if_pos h2,if_pos (by omega)]
     · rw[if_neg h2,if_neg (by omega)]
section
variable {bm : aT} (hm : bm.ok) {t : Int} (i : Nat) {H : aj} {io iB iO n a fbi tl : Nat} {es : List D} {whr : List Wh} (e1 : H[iO]? = some (.box [.ref io 0 n])) (e2 : H[io]? = some (.arr 2 false 0 es)) (e3 : es.length = n)
 (e4:es[i]?=some (.agg [.ref a 0 tl,.ref fbi 0 whr.length])) (e5:H[fbi]?=some (.arr 2 false 0 (whs whr))) (e6:H[iB]?=some (.box (ah bm))) (hi:i<n) (hn:n≤1000000) (hl:whr.length≤1000000)
include hm e1 e2 e3 e4 e5 e6 hi hn hl
end
theorem Rp.app{H:aj}{id:Nat}{es:List D}{fa fb:Nat→Nat}{out:List World}(hr:Rp H id es fa fb out)(t:aj):Rp (H++t) id es fa fb out:=
 ⟨by rw[iy (mL hr.arr)];exact hr.arr,hr.len,hr.el,fun j hj=>by rw[iy (mL (hr.ha j hj))];exact hr.ha j hj,fun j hj=>by rw[iy (mL (hr.hb j hj))];exact hr.hb j hj,hr.na,hr.nb,hr.nab,hr.nbb⟩
structure SlH(H:aj)(b:List World)(bm:aT)(iB iO io:Nat)(es:List D)(fa fb:Nat→Nat)(A:List Nat)(O:List World):Prop where
 h1:H[1]?=some (.box [.ref 3 0 b.length])
 h2:H[2]?=some (.box [.nil])
 hB:H[iB]?=some (.box (ah bm))
 hO:H[iO]?=some (.box [.ref io 0 O.length])
 rp:Rp H io es fa fb O
 ar:∀i∈A,∃sz pin ep es,H[i]?=some (.arr sz pin ep es)
 nA:∀i∈A,∀j,j<O.length→i≠fb j
 eA:eW H 7 (.ref 3 0 b.length)=A
 fr:frz H 7 (.ref 3 0 b.length)=some (.sl (b.map World.e))
theorem SlH.step{H:aj}{b:List World}{bm:aT}{iB iO io:Nat}{es:List D}{fa fb:Nat→Nat}{A:List Nat}{O:List World}(h:SlH H b bm iB iO io es fa fb A O){i:Nat}(hi:i<O.length)(x:World)(ht:(nth O i).tags=x.tags)
 (hw:x.whr.length=(nth O i).whr.length) (o:Obj):SlH (H.set (fb i) (.arr 2 false 0 (whs x.whr))++[o]) b bm iB iO io es fa fb A (O.set i x):=by
 have hb:=h.rp.hb i hi
 have nb:∀ {k:Nat} {cs:List D},H[k]?=some (.box cs)→(H.set (fb i) (.arr 2 false 0 (whs x.whr))++[o])[k]?=some (.box cs):=fun{k cs} hk=>by
  have ne:fb i≠k:=fun e=>by rw[e,hk]at hb;cases hb
  rw[iy (by rw[List.length_set];exact mL hk),gz ne];exact hk
 have na:∀k∈A,(H.set (fb i) (.arr 2 false 0 (whs x.whr))++[o])[k]?=H[k]?:=fun k hk=>by
  obtain⟨sz,pin,ep,es',e⟩:=h.ar k hk
  rw[iy (by rw[List.length_set];exact mL e),gz (fun e=>h.nA k hk i hi e.symm)]
 have fc:=C0 (H:=H) (H':=H.set (fb i) (.arr 2 false 0 (whs x.whr))++[o]) 7 (.ref 3 0 b.length) (fun k hk=>by
  rw[h.eA]at hk
  obtain⟨sz,pin,ep,es',e⟩:=h.ar k hk
  exact⟨sz,pin,pin,ep,es',e,by rw[na k hk];exact e⟩)
 refine⟨nb h.h1,nb h.h2,nb h.hB,by rw[List.length_set];exact nb h.hO,(h.rp.merge hi x ht hw).app _,fun k hk=>?_,by rw[List.length_set];exact h.nA,by rw[fc.2];exact h.eA,by rw[fc.1];exact h.fr⟩
 obtain⟨sz,pin,ep,es',e⟩:=h.ar k hk
 exact⟨sz,pin,ep,es',by rw[na k hk];exact e⟩
def SlE(b:List World)(H:aj):Prop:=H[2]?=some (.box [.ref 3 0 b.length])∧frz H 7 (.ref 3 0 b.length)=some (.sl (b.map World.e))
theorem SlH.late{H:aj}{b:List World}{bm:aT}{iB iO io:Nat}{es:List D}{fa fb:Nat→Nat}{A:List Nat}{O:List World}(h:SlH H b bm iB iO io es fa fb A O)(o:Obj):SlE b (H.set 2 (.box [.ref 3 0 b.length])++[o]):=by
 have l2:=mL h.h2
 have fc:=C0 (H:=H) (H':=H.set 2 (.box [.ref 3 0 b.length])++[o]) 7 (.ref 3 0 b.length) (fun k hk=>by
  rw[h.eA]at hk
  obtain⟨sz,pin,ep,es',e⟩:=h.ar k hk
  have ne:2≠k:=fun e2=>by rw[← e2,h.h2]at e;cases e
  exact⟨sz,pin,pin,ep,es',e,by rw[iy (by rw[List.length_set];exact mL e),gz ne];exact e⟩)
 exact⟨by rw[iy (by rw[List.length_set];exact l2),oH l2],by rw[fc.1];exact h.fr⟩
def Sf(t:Int)(ws:List Wh)(k:Nat):Bool:=decide (t<(nth ws k).time∨2147483648<t)
def EF(t:Int)(xs:List World)(i:Nat):Bool:=(List.range (nth xs i).whr.length).any (Sf t (nth xs i).whr)
end Go.Ev
namespace Go.Ev
open Go
variable [Lib] [cn] [bR] [gL] [gF]
def yK(m:aT)(b:Bel)(bars:List Int)(t:Int):Bel×Int:=
 if pI m b=false then(b,6)else if(ku m bars).2≠0 then(b,(ku m bars).2)else if(List.range b.worlds.length).any (EF t b.worlds)=true then(b,8)
 else(⟨nf (wH (ku m bars).1 t b.worlds b.worlds.length)⟩,0)
end Go.Ev
namespace Go.Ev
open Go
variable [Lib] [cn] [bR] [gL] [gF] [km] [gg] [gh] [i5] [gK] [fI] [eO] [lB] [gD] [mS] [rJ]
theorem qW(m:aT)(k:Nat)(back:Bool)(h:(nth m.roads k).closed=true):dI m k back 6 9 12= -1:=by
 unfold dI;simp[h]
theorem Kw{m:aT}(h:m.ok)(area:List Int)(ha:area.length≤1000000)(k:Nat)(hk:k<m.roads.length):
 aO 0 N.cI [I k,.bp 0 0,.bp 1 0] [.box (ah m),.box [.t (tL area)]]=some (B (Kt m area k),[.box (ah m),.box [.t (tL area)]]):=by
 refine ax K.mU rfl ?_
 have ex:(m.roads.map Road.e)[k]?=some (nth m.roads k).e:=cR _ hk
 have t1:=AQ h k hk false
 have t2:=AQ h k hk true
 have k1:=pC area (nth m.roads k).frm (by omega)
 have k2:=pC area (nth m.roads k).to (by omega)
 have cl1:=qW m k false
 have cl2:=qW m k true
 have e:Kt m area k=(!(nth m.roads k).closed&&(decide (0≤dI m k false 6 9 12)||decide (0≤dI m k true 6 9 12))&&(decide ((nth m.roads k).frm∈area) != decide ((nth m.roads k).to∈area))):=rfl
 rw[e]
 clear e
 generalize dI m k false 6 9 12=w1 at*
 generalize dI m k true 6 9 12=w2 at*
 generalize nth m.roads k=x at*
 obtain⟨frm,to,len,ar,walk,closed,rl,rh,ll,lh⟩:=x
 simp only at*
 generalize decide (frm∈area)=b1 at*
 generalize decide (to∈area)=b2 at*
 obtain⟨places,roads⟩:=m
 simp only[ah]at*
 cases closed with
 | true=>
   have:=cl1 rfl
   have:=cl2 rfl
   have c1:¬0≤w1:=by omega
   have c2:¬0≤w2:=by omega
   cases b1<;>cases b2
   all_goals simp (disch:=omega) only[go_sem,K.cI,↓reduceIte,ex,t1,t2,k1,k2,c1,c2,Bool.not_true,Bool.false_and,Nat.reduceAdd,Nat.reduceSub]
 | false=>
   by_cases c1:0≤w1<;>by_cases c2:0≤w2<;>cases b1<;>cases b2
   all_goals simp (disch:=omega) only[go_sem,K.cI,↓reduceIte,ex,t1,t2,k1,k2,c1,c2,decide_true,decide_false,Bool.not_false,Bool.true_and,Bool.or_true,Bool.or_false,Bool.or_self,Bool.and_true,Bool.and_false,Bool.bne_true,Bool.bne_false,Bool.not_true,Bool.and_self,bne_self_eq_false,Bool.false_and,Nat.reduceAdd,Nat.reduceSub]
theorem HC{m:aT}(h:m.ok)(area:List Int)(ha:area.length≤1000000):aO 0 N.ft [.t m.e,.t (tL area)] []=some (.t (tL (i7 m area)),[]):=by
 refine ax K.pO rfl ?_
 have nr:=h.nr
 have wh:=w9 m.roads.length (by omega) N.cI [[.sl (m.places.map Place.e),.sl (m.roads.map Road.e)],[tL area]] (Kt m area) (fun k hk=>Kw h area ha k hk)
 have wh:aO 0 N.b9 [I m.roads.length,.fn N.cI [.bp 0 0,.bp 1 0]] [.box (ah m),.box [.t (tL area)]]=some (.t (tL (i7 m area)),[.box (ah m),.box [.t (tL area)]]):=wh
 generalize i7 m area=r at*
 obtain⟨places,roads⟩:=m
 simp only[ah]at*
 simp (disch:=omega) only[go_sem,K.ft,↓reduceIte,wh,Nat.reduceAdd,Nat.reduceSub]
theorem HD(l:List Place)(hl:l.length≤1000000):aO 0 N.aF [.t (.sl (l.map Place.e))] []=some (.t (.sl (l.map Place.e)),[]):=by
 refine ax K.dv rfl ?_
 by_cases h0:l=[]
 · subst h0
   simp only[List.map_nil]
   simp (disch:=omega) only[go_sem,K.aF,↓reduceIte,List.map_nil,Nat.reduceAdd,Nat.reduceSub]
 · have e:=fun H=>w8 H (l.map Place.e) (by simpa using h0)
   simp (disch:=omega) only[go_sem,K.aF,↓reduceIte,e,Nat.reduceAdd,Nat.reduceSub]
theorem HE(l:List Road)(hl:l.length≤1000000):aO 1 N.aK [.t (.sl (l.map Road.e))] []=some (.ref 0 0 l.length,[.arr 10 false 0 ((l.map Road.e).map .t)]):=by
 refine ax K.dJ rfl ?_
 by_cases h0:l=[]
 · subst h0
   simp only[List.map_nil]
   simp (disch:=omega) only[go_sem,K.aK,↓reduceIte,List.map_nil,List.length_nil,Nat.reduceAdd,Nat.reduceSub]
 · have e:=fun H=>w8 H (l.map Road.e) (by simpa using h0)
   simp (disch:=omega) only[go_sem,K.aK,↓reduceIte,e,Nat.reduceAdd,Nat.reduceSub]
theorem Ad{m:aT}(h:m.ok)(l:List Int)(hl:l.length≤1000000):aO 0 N.eL [.t m.e,.t (tL l)] []=some (.tup [.t (ku m l).1.e,I (ku m l).2],[]):=by
 refine ax K.pP rfl ?_
 have np:=h.np
 have nr:=h.nr
 have pv:=lq h
 have ri:=Cu l 0 ((m.roads.length:Int)-1) (by omega)
 rw[RA]at ri
 have c1:=HD m.places (by omega)
 have c2:=HE m.roads (by omega)
 unfold ku
 cases hs:rr l m.roads.length with
 | false=>
   rw[hs]at ri
   obtain⟨places,roads⟩:=m
   simp only at*
   simp (disch:=omega) only[go_sem,K.eL,↓reduceIte,pv,ri,List.map_nil,Nat.reduceAdd,Nat.reduceSub]
   rfl
 | true=>
   rw[hs]at ri
   have sp:=fun j hj=>uE (j:=j) hs hj
   clear hs
   obtain⟨places,roads⟩:=m
   simp only at*
   have loop:∀z0 z1 z2 z4 z6:D,exS aO K.r6 ⟨[z0,z1,z2,.bp 1 0,z4,.bp 2 0,z6,.t (tL l),I l.length,I 0],[.box [.t (.sl (places.map Place.e)),.t (.sl (roads.map Road.e))],.box [.nil,.nil],.box [.t (.sl (places.map Place.e)),.ref 3 0 roads.length],.arr 10 false 0 ((roads.map Road.e).map .t)]⟩=
    some (.exit 1,⟨[.und,.und,.und,.bp 1 0,.und,.bp 2 0,.und,.t (tL l),I l.length,I l.length],[.box [.t (.sl (places.map Place.e)),.t (.sl (roads.map Road.e))],.box [.nil,.nil],.box [.t (.sl (places.map Place.e)),.ref 3 0 roads.length],.arr 10 false 0 (((A6 roads l l.length).map Road.e).map .t)]⟩):=by
    intro z0 z1 z2 z4 z6
    refine dC (fun k=>⟨[.und,.und,.und,.bp 1 0,.und,.bp 2 0,.und,.t (tL l),I l.length,I k],[.box [.t (.sl (places.map Place.e)),.t (.sl (roads.map Road.e))],.box [.nil,.nil],.box [.t (.sl (places.map Place.e)),.ref 3 0 roads.length],.arr 10 false 0 (((A6 roads l k).map Road.e).map .t)]⟩) l.length rfl ?_ ?_ (by simp)
    · intro k hk
      obtain⟨s1,s2⟩:=sp k hk
      have bl:=nH roads l k
      simp only[A6]at*
      generalize hy:nth l k=y at*
      obtain⟨i,rfl⟩:=Int.eq_ofNat_of_zero_le s1
      simp only[Int.toNat_natCast]at*
      generalize hR:A6 roads l k=R at*
      have g:((R.map Road.e).map D.t)[i]?=some (.t (nth R i).e):=AE _ _ (by omega)
      have hset:((R.set i (CZ (nth R i))).map Road.e).map D.t=((R.map Road.e).map D.t).set i (.t (CZ (nth R i)).e):=by simp
      rw[hset]
      generalize nth R i=x at*
      obtain⟨frm,to,len,ar,walk,closed,rl,rh,ll,lh⟩:=x
      simp only[CZ]at*
      simp (disch:=omega) only[go_sem,K.mR,↓reduceIte,hy,g,M5,Nat.reduceAdd,Nat.reduceSub]
    · have bl:=nH roads l l.length
      simp (disch:=omega) only[go_sem,K.mR,↓reduceIte,Nat.reduceAdd,Nat.reduceSub]
   have bl:=nH roads l l.length
   simp only[bT]
   generalize A6 roads l l.length=R at*
   simp only[Bool.true_eq_false,if_false]
   simp (disch:=omega) only[go_sem,K.eL,↓reduceIte,pv,ri,c1,c2,loop,Nat.reduceAdd,Nat.reduceSub]
def asN(frm ps:List Int):Nat→List Int
 | 0=>iw frm.length
 | k+1=>(asN frm ps k).set (nth ps k).toNat (nth frm (nth ps k).toNat)
theorem yM(frm ps:List Int):∀k,(asN frm ps k).length=frm.length
 | 0=>jP _
 | k+1=>by simp only[asN,List.length_set,yM frm ps k]
theorem qX(l:List Int)(t:Int):∀p,p≤l.length→∀j,j<l.length→nth (p5 l t p) j=if j<p∧t<nth l j then never else nth l j
 | 0,_,j,_=>by simp[p5]
 | p+1,hp,j,hj=>by
   have ih:=qX l t p (by omega)
   have ln:=jw l t p
   have e:=ih p (by omega)
   rw[if_neg (by omega)]at e
   unfold p5
   rw[e]
   by_cases c:t<nth l p
   · rw[if_pos c,ny _ _ (by omega),ih j hj]
     by_cases h:j=p
     · subst h;rw[if_pos rfl,if_pos ⟨by omega,c⟩]
     · rw[if_neg h]
       by_cases h2:j<p∧t<nth l j
       · rw[if_pos h2,if_pos ⟨by omega,h2.2⟩]
       · rw[if_neg h2,if_neg fun x=>h2 ⟨by omega,x.2⟩]
   · rw[if_neg c,ih j hj]
     by_cases h2:j<p∧t<nth l j
     · rw[if_pos h2,if_pos ⟨by omega,h2.2⟩]
     · rw[if_neg h2,if_neg fun x=>h2 ⟨by
        rcases Nat.lt_or_ge j p with a | a
        · exact a
        · have:j=p:=by omega
          subst this;exact(c x.2).elim,x.2⟩]
theorem Kx(frm ps:List Int)(hp:∀x∈ps,∃q:Nat,x=q∧q<frm.length):∀k,k≤ps.length→∀j,j<frm.length→nth (asN frm ps k) j=if(j:Int)∈ps.take k then nth frm j else never
 | 0,_,j,hj=>by
   simp only[asN,List.take_zero,List.not_mem_nil,if_false]
   exact G0 _ _ hj
 | k+1,hk,j,hj=>by
   have ih:=Kx frm ps hp k (by omega) j hj
   obtain⟨q,e,hq⟩:=hp _ (aa (l:=ps) (j:=k) (by omega))
   unfold asN
   rw[iv (by omega),e,Int.toNat_natCast,ny _ _ (by rw[yM];exact hq),ih]
   simp only[List.mem_append,List.mem_singleton]
   by_cases h:j=q
   · subst h;simp
   · rw[if_neg h]
     have:¬(j:Int)=q:=by omega
     simp[this]
theorem M6(w:Wh)(t:Int):asN w.frm (mJ w t) (mJ w t).length=p5 w.frm t w.frm.length:=by
 have pp:∀x∈mJ w t,∃q:Nat,x=q∧q<w.frm.length:=fun x hx=>by
  obtain⟨q,e,h, -⟩:=mK hx
  exact⟨q,e,h⟩
 refine ru (by rw[yM,jw]) fun j hj=>?_
 rw[yM]at hj
 rw[Kx _ _ pp _ (Nat.le_refl _) j hj,qX _ _ _ (Nat.le_refl _) j hj,List.take_length]
 have e:((j:Int)∈mJ w t)↔nth w.frm j≤t:=by
  unfold mJ
  rw[fY]
  simp[hj]
 by_cases c:nth w.frm j≤t
 · rw[if_pos (e.2 c),if_neg (by omega)]
 · rw[if_neg (fun h=>c (e.1 h)),if_pos ⟨hj,by omega⟩]
theorem XD(w:Wh)(t:Int)(k:Nat)(hk:k<(mJ w t).length):∃q:Nat,nth (mJ w t) k=q∧q<w.frm.length:=by
 obtain⟨q,e,h, -⟩:=mK (aa hk)
 exact⟨q,e,h⟩
theorem M7{m:aT}(h:m.ok)(w:Wh)(hw:w.frm.length=m.places.length)(h1:1≤m.places.length)(t:Int):
 aO 0 N.ji [.t m.e,.t w.e,I t] []=some (.tup [.t (wz m ⟨w.time,p5 w.frm t w.frm.length⟩ t).1.e,I (wz m ⟨w.time,p5 w.frm t w.frm.length⟩ t).2],[]):=by
 refine ax K.sT rfl ?_
 have np:=h.np
 have rp:aO 1 N.bc [.t (.sl [.int .i64 1099511627776]),I w.frm.length] []=_:=Jw 1099511627776 w.frm.length (by omega) (by omega)
 rw[show List.replicate w.frm.length (I 1099511627776)=(((iw w.frm.length).map (T.int .i64)).map .t)by simp[iw]]at rp
 have po:=Kg w t (by omega)
 have pl:(mJ w t).length≤w.frm.length:=oE _ _
 have ra:=JH h ⟨w.time,p5 w.frm t w.frm.length⟩ t (by simp only[jw];omega)
 have sl:=XD w t
 have al:=yM w.frm (mJ w t)
 rw[← M6]at ra ⊢
 have z:asN w.frm (mJ w t) 0=iw w.frm.length:=rfl
 have s:∀k,asN w.frm (mJ w t) (k+1)=(asN w.frm (mJ w t) k).set (nth (mJ w t) k).toNat (nth w.frm (nth (mJ w t) k).toNat):=fun k=>rfl
 generalize asN w.frm (mJ w t)=A at*
 generalize mJ w t=ps at*
 generalize wz m ⟨w.time,A ps.length⟩ t=R at*
 obtain⟨⟨rt,rf⟩,rc⟩:=R
 obtain⟨time,frm⟩:=w
 simp only at*
 have lp:∀z0 z1 z6 z8:D,exS aO K.wC ⟨[z0,z1,I t,.bp 0 0,.bp 1 0,.bp 2 0,z6,.ref 3 0 frm.length,z8,.t (tL ps),I ps.length,I 0],[.box (ah m),.box [I time,.t (tL frm)],.box [I 0,.nil],MD (A 0)]⟩=
  some (.exit 0,⟨[.und,.und,I t,.bp 0 0,.bp 1 0,.bp 2 0,.und,.ref 3 0 frm.length,.und,.t (tL ps),I ps.length,I ps.length],[.box (ah m),.box [I time,.t (tL frm)],.box [I 0,.nil],MD (A ps.length)]⟩):=by
  intro z0 z1 z6 z8
  refine dC (fun j=>⟨[.und,.und,I t,.bp 0 0,.bp 1 0,.bp 2 0,.und,.ref 3 0 frm.length,.und,.t (tL ps),I ps.length,I j],[.box (ah m),.box [I time,.t (tL frm)],.box [I 0,.nil],MD (A j)]⟩) ps.length rfl ?_ ?_ (by simp)
  · intro j hj
    obtain⟨q,e,hq⟩:=sl j hj
    have a1:=al j
    rw[s,e,Int.toNat_natCast]
    generalize A j=a at*
    obtain⟨places,roads⟩:=m
    simp only[ah]at*
    rw[← a1]
    simp (disch:=omega) only[go_sem,K.pN,↓reduceIte,e,a1,List.length_set,Nat.reduceAdd,Nat.reduceSub]
  · have a1:=al ps.length
    obtain⟨places,roads⟩:=m
    simp only[ah]at*
    rw[← a1]
    simp (disch:=omega) only[go_sem,K.pN,↓reduceIte,Nat.reduceAdd,Nat.reduceSub]
 simp only[z]at lp
 have a1:=al ps.length
 have nl:=jP frm.length
 generalize A ps.length=a at*
 generalize iw frm.length=ne at*
 obtain⟨places,roads⟩:=m
 simp only[ah,MD]at*
 simp (disch:=omega) only[go_sem,K.ji,↓reduceIte,rp,po,lp,ra,Nat.reduceAdd,Nat.reduceSub]
theorem Ky{m:aT}(hm:m.ok){w:Wh}(hl:w.frm.length=m.places.length)(ht:inT w.time)(hp:∀x∈w.frm,plT x){t:Int}(h1:w.time≤t)(h2:t≤2147483648):
 wz m ⟨w.time,p5 w.frm t w.frm.length⟩ t=(vu m w t,0)∧cO m (vu m w t)=true:=by
 have ps:∀x∈p5 w.frm t w.frm.length,plT x:=fun x hx=>by
  obtain⟨j,hj⟩:=List.mem_iff_getElem?.1 hx
  have jl:=(List.getElem?_eq_some_iff.1 hj).1
  rw[jw]at jl
  rw[← bB hj,qX _ _ _ (Nat.le_refl _) _ jl]
  split
  · exact .inl rfl
  · exact hp _ (aa jl)
 have it:inT t:=by unfold inT at *;omega
 refine⟨?_,pF hm (by rw[jw,hl]) ps it.1 (Int.le_refl _) it⟩
 unfold wz
 have pl:mI ⟨w.time,p5 w.frm t w.frm.length⟩ m.places.length=true:=by
  simp only[mI,Bool.and_eq_true,decide_eq_true_eq,List.all_eq_true,List.mem_range,jw]
  exact⟨⟨by omega,ht⟩,fun j hj=>ps _ (aa (by rw[jw];exact hj))⟩
 rw[pl]
 simp only[Bool.true_eq_false,if_false]
 rw[if_neg (by omega)]
 rfl
abbrev asV(ws out:List World)(i:Int)(k:D)(w n j:D):List D:=[.und,.und,.und,.und,.und,.bp 1 0,.bp 2 0,.bp 3 0,.und,.bp 4 0,.und,.und,.ref 5 0 out.length,.und,k,.und,.und,.und,.und,.t (.sl (ws.map World.e)),I ws.length,I i,w,n,j]
abbrev asH(m bm:aT)(ws out:List World)(t:Int):aj:=[.box (ah m),.box [.t (.sl (ws.map World.e))],.box [I t],.box [.nil],.box (ah bm),.arr 2 false 0 ((out.map World.e).map .t)]
abbrev asT(x0 x1:T)(tags:List Int)(q:List Wh):aj:=[.box [.t x0,.t x1],.arr 1 false 0 ((tags.map (T.int .i64)).map .t),.arr 2 false 0 ((q.map Wh.e).map .t),.box [.ref 7 0 tags.length,.ref 8 0 q.length]]
theorem acK{bm:aT}(h:bm.ok)(h1:1≤bm.places.length)(m:aT)(ws out:List World)(x0 x1:T)(tags:List Int)(whr:List Wh)(hl:whr.length≤1000000)(t i:Int)(ht:t≤2147483648)
 (hz:∀w∈whr,w.frm.length=bm.places.length∧inT w.time∧(∀x∈w.frm,plT x)∧w.time≤t):∀z0 z1 z2 z3 z4 z8 z10 z11 z13 z15 z16 z17 z18:D,
 exS aO K.wA ⟨[z0,z1,z2,z3,z4,.bp 1 0,.bp 2 0,.bp 3 0,z8,.bp 4 0,z10,z11,.ref 5 0 out.length,z13,.bp 9 0,z15,z16,z17,z18,.t (.sl (ws.map World.e)),I ws.length,I i,.t (.sl (whr.map Wh.e)),I whr.length,I 0],asH m bm ws out t++asT x0 x1 tags whr⟩=
 some (.exit 2,⟨asV ws out i (.bp 9 0) (.t (.sl (whr.map Wh.e))) (I whr.length) (I whr.length),asH m bm ws out t++asT x0 x1 tags (lW bm t whr whr.length)⟩):=by
 intro z0 z1 z2 z3 z4 z8 z10 z11 z13 z15 z16 z17 z18
 have ln:=jT bm t whr
 refine dC (fun j=>⟨asV ws out i (.bp 9 0) (.t (.sl (whr.map Wh.e))) (I whr.length) (I j),asH m bm ws out t++asT x0 x1 tags (lW bm t whr j)⟩) whr.length rfl ?_ ?_ (by simp)
 · intro j hj
   obtain⟨a1,a2,a3,a4⟩:=hz _ (aa hj)
   have g:=M7 h (nth whr j) a1 h1 t
   rw[(Ky h a1 a2 a3 a4 ht).1]at g
   have ex:(whr.map Wh.e)[j]?=some (nth whr j).e:=cR _ hj
   have l1:=ln j
   have e:lW bm t whr (j+1)=(lW bm t whr j).set j (vu bm (nth whr j) t):=by
    have n:=oN bm t whr j j (by omega)
    rw[if_neg (by omega)]at n
    first | rfl | rw[lW,n]
   rw[e]
   clear e hz ln
   generalize lW bm t whr j=q at*
   generalize vu bm (nth whr j) t=r at*
   obtain⟨t1,f1⟩:=r
   generalize nth whr j=x at*
   obtain⟨tx,fx⟩:=x
   obtain⟨places,roads⟩:=m
   obtain⟨bp,br⟩:=bm
   simp only[ah,asV,asH,asT,List.cons_append,List.nil_append]at*
   simp (disch:=omega) only[go_sem,K.pM,↓reduceIte,g,ex,List.length_set,Nat.reduceAdd,Nat.reduceSub]
 · have l1:=ln whr.length
   generalize lW bm t whr whr.length=q at*
   obtain⟨places,roads⟩:=m
   obtain⟨bp,br⟩:=bm
   simp only[ah,asV,asH,asT,List.cons_append,List.nil_append]at*
   simp (disch:=omega) only[go_sem,K.pM,↓reduceIte,Nat.reduceAdd,Nat.reduceSub]
def i9(bm:aT)(t:Int)(x:World):World:=EE bm t x x.whr.length
theorem XE{bm:aT}(h:bm.ok)(h1:1≤bm.places.length)(m:aT)(ws:List World)(hw:ws.length≤1000000)(hs:∀x∈ws,x.sz)(t:Int)(ht:t≤2147483648)
 (hz:∀x∈ws,∀w∈x.whr,w.frm.length=bm.places.length∧inT w.time∧(∀y∈w.frm,plT y)∧w.time≤t):∀z0 z1 z2 z3 z4 z8 z10 z11 z13 z14 z15 z16 z17 z18 z22 z23 z24:D,
 exS aO K.wB ⟨[z0,z1,z2,z3,z4,.bp 1 0,.bp 2 0,.bp 3 0,z8,.bp 4 0,z10,z11,.ref 5 0 0,z13,z14,z15,z16,z17,z18,.t (.sl (ws.map World.e)),I ws.length,I 0,z22,z23,z24],asH m bm ws [] t⟩=
 some (.exit 0,⟨asV ws (ws.map (i9 bm t)) ws.length .und .und .und .und,asH m bm ws (ws.map (i9 bm t)) t⟩):=by
 intro z0 z1 z2 z3 z4 z8 z10 z11 z13 z14 z15 z16 z17 z18 z22 z23 z24
 have key:=dC (gc:=true) (dead:=[0,1,2,3,4,8,10,11,13,14,15,16,17,18,22,23,24]) (c:=K.me) (vs:=[z0,z1,z2,z3,z4,.bp 1 0,.bp 2 0,.bp 3 0,z8,.bp 4 0,z10,z11,.ref 5 0 0,z13,z14,z15,z16,z17,z18,.t (.sl (ws.map World.e)),I ws.length,I 0,z22,z23,z24]) (H:=asH m bm ws [] t)
  (fun j=>⟨asV ws ((ws.take j).map (i9 bm t)) j .und .und .und .und,asH m bm ws ((ws.take j).map (i9 bm t)) t⟩) ws.length (e:= .exit 0) (st:=⟨asV ws (ws.map (i9 bm t)) ws.length .und .und .und .und,asH m bm ws (ws.map (i9 bm t)) t⟩) (by simp only[jA,List.set_cons_succ,List.set_cons_zero,List.take_zero,List.map_nil,List.length_nil];rfl)
  (fun j hj=>by
   obtain⟨z1,z2,z3⟩:=hs _ (aa hj)
   have cw:=F8 (nth ws j) ⟨z1,z2,z3⟩
   have inn:=acK h h1 m ws ((ws.take j).map (i9 bm t)) (tL (nth ws j).tags) (.sl ((nth ws j).whr.map Wh.e)) (nth ws j).tags (nth ws j).whr z2 t j ht (hz _ (aa hj)) .und .und .und .und .und .und .und .und (.bp 6 0) .und .und .und .und
   have ex:(ws.map World.e)[j]?=some (nth ws j).e:=cR _ hj
   have tk:(ws.take (j+1)).map (i9 bm t)=(ws.take j).map (i9 bm t)++[i9 bm t (nth ws j)]:=by rw[iv hj,List.map_append];rfl
   have ol:((ws.take j).map (i9 bm t)).length≤1000000:=by simp;omega
   have gl:=jT bm t (nth ws j).whr (nth ws j).whr.length
   rw[tk]
   clear tk hz hs
   unfold i9 EE at*
   generalize (ws.take j).map (fun x:World=>(⟨x.tags,lW bm t x.whr x.whr.length⟩:World))=out at*
   generalize lW bm t (nth ws j).whr (nth ws j).whr.length=q at*
   generalize nth ws j=x at*
   obtain⟨tags,whr⟩:=x
   obtain⟨places,roads⟩:=m
   obtain⟨bp,br⟩:=bm
   simp only[ah,asV,asH,asT,List.cons_append,List.nil_append]at*
   simp (disch:=omega) only[go_sem,K.me,↓reduceIte,ex,cw,inn,gl,Nat.reduceAdd,Nat.reduceSub]
   )
  (by
   rw[List.take_length]
   generalize ws.map (i9 bm t)=out
   obtain⟨places,roads⟩:=m
   obtain⟨bp,br⟩:=bm
   simp only[ah,asV,asH]
   simp (disch:=omega) only[go_sem,K.me,↓reduceIte,Nat.reduceAdd,Nat.reduceSub]
   ) (by simp)
 exact key
theorem HF(w:Wh)(t:Int):aO 0 N.cH [.t w.e,.bp 0 0] [.box [I t]]=some (B (decide (t<w.time)),[.box [I t]]):=by
 refine ax K.mT rfl ?_
 obtain⟨tm,frm⟩:=w
 by_cases c:t<tm
 · simp (disch:=omega) only[go_sem,K.cH,↓reduceIte,c,decide_true,Nat.reduceAdd,Nat.reduceSub]
 · simp (disch:=omega) only[go_sem,K.cH,↓reduceIte,c,decide_false,Nat.reduceAdd,Nat.reduceSub]
def kz(t:Int)(x:World):Bool:=x.whr.any fun w=>decide (t<w.time)
theorem Kz(x:World)(hx:x.sz)(t:Int):aO 0 N.eM [.t x.e,.bp 0 0] [.box [I t]]=some (B (kz t x),[.box [I t]]):=by
 refine ax K.pR rfl ?_
 obtain⟨h1,h2,h3⟩:=hx
 have cf:=qc x.whr (by omega) N.cH [[tI t]] (fun w=>decide (t<w.time)) (fun w hw=>HF w t)
 have cf:aO 0 N.ae [.t (.sl (x.whr.map Wh.e)),.fn N.cH [.bp 0 0]] [.box [I t]]=some (B (kz t x),[.box [I t]]):=cf
 generalize kz t x=b at*
 obtain⟨tags,whr⟩:=x
 simp (disch:=omega) only[go_sem,K.eM,↓reduceIte,cf,Nat.reduceAdd,Nat.reduceSub]
theorem M8(b:Bel)(hb:b.sz)(t:Int):aO 0 N.ak [.t (.sl (b.worlds.map World.e)),.fn N.eM [.bp 0 0]] [.box [I t]]=some (B (b.worlds.any (kz t)),[.box [I t]]):=
 qb b.worlds (by have:=hb.1;omega) N.eM [[tI t]] (kz t) (fun x hx=>Kz x (hb.2 x hx) t)
theorem Ae{t:Int}(ht:t≤2147483648)(ws:List World):(List.range ws.length).any (EF t ws)=ws.any (kz t):=by
 have e:∀i,EF t ws i=kz t (nth ws i):=fun i=>by
  unfold EF kz Sf
  rw[← yk (nth ws i).whr (fun w=>decide (t<w.time))]
  congr 1
  funext k
  rw[Bool.eq_iff_iff,decide_eq_true_eq,decide_eq_true_eq]
  omega
 rw[show EF t ws=fun i=>kz t (nth ws i)from funext e]
 exact yk ws (kz t)
theorem Af(bm:aT)(t:Int)(ws:List World):wH bm t ws ws.length=ws.map (i9 bm t):=by
 refine ru (by rw[rF,List.length_map]) fun j hj=>?_
 rw[rF]at hj
 rw[Ac _ _ _ _ _ (Nat.le_refl _),if_pos hj,bB (cR (i9 bm t) hj)]
 rfl
theorem M9{m bm:aT}(hb:bm.ok)(hp:bm.places=m.places){first:List Int}{t:Int}(ht:t≤2147483648){x:World}(h:WV m first x)(he:kz t x=false):WV bm first (i9 bm t x):=by
 refine⟨h.pm,by unfold i9 EE;rw[jT];exact h.wl,fun w hw=>?_⟩
 obtain⟨j,hj⟩:=List.mem_iff_getElem?.1 hw
 have jl:=(List.getElem?_eq_some_iff.1 hj).1
 unfold i9 EE at jl hj
 rw[jT]at jl
 simp only at jl hj
 rw[← bB hj,oN _ _ _ _ _ (Nat.le_refl _),if_pos jl]
 obtain⟨a,b,c, -⟩:=bL (h.wv _ (aa jl))
 have:¬t<(nth x.whr j).time:=fun c=>by
  have:=List.any_eq_false.1 he _ (aa jl)
  simp only[decide_eq_true_eq]at this
  omega
 exact(Ky hb (by rw[hp,a]) b c (by omega) ht).2
theorem Gd{m bm:aT}(hb:bm.ok)(hp:bm.places=m.places){first:List Int}{t:Int}(ht:t≤2147483648){ws:List World}(h:BV m first ws)(he:ws.any (kz t)=false):BV bm first (ws.map (i9 bm t)):=by
 refine⟨h.pr,h.f1,h.f2,fun x hx=>?_,?_⟩
 · obtain⟨y,hy,rfl⟩:=List.mem_map.1 hx
   exact M9 hb hp ht (h.wv y hy) (by simpa using List.any_eq_false.1 he y hy)
 · rw[List.pairwise_map]
   exact h.up
theorem Na{m:aT}(h:m.ok)(h1:1≤m.places.length)(b:Bel)(hs:b.sz)(h20:b.worlds.length<20)(bars:List Int)(hl:bars.length≤1000000)(t:Int):
 aO 0 N.fq [.t m.e,.t b.e,.t (tL bars),I t] []=some (.tup [.t (yK m b bars t).1.e,I (yK m b bars t).2],[]):=by
 refine ax K.sR rfl ?_
 have va:=HB h b hs
 have ba:=Ad h bars hl
 have ea:=M8 b hs t
 unfold yK
 cases hv:pI m b with
 | false=>
   rw[hv]at va
   obtain⟨ws⟩:=b
   obtain⟨places,roads⟩:=m
   simp (disch:=omega) only[go_sem,K.fq,↓reduceIte,va,Nat.reduceAdd,Nat.reduceSub]
 | true=>
   rw[hv]at va
   simp only[Bool.true_eq_false,if_false]
   by_cases cs:rr bars m.roads.length=true
   · have e:ku m bars=(bT m bars,0):=by unfold ku;rw[cs];simp
     have bo:=vt h cs
     have bp:(bT m bars).places=m.places:=rfl
     rw[e]at ba ⊢
     simp only[ne_eq,not_true_eq_false,if_false]
     by_cases ct:t≤2147483648
     · rw[Ae ct]
       cases he:b.worlds.any (kz t)with
       | true=>
         rw[he]at ea
         simp only[if_true]
         generalize bT m bars=bm at*
         obtain⟨ws⟩:=b
         obtain⟨places,roads⟩:=m
         obtain⟨bpl,brd⟩:=bm
         simp (disch:=omega) only[go_sem,K.fq,↓reduceIte,va,ba,ea,Nat.reduceAdd,Nat.reduceSub]
       | false=>
         rw[he]at ea
         simp only[Bool.false_eq_true,if_false]
         obtain⟨ws⟩:=b
         simp only at*
         have bv:=qU hv
         obtain⟨w1,w2, -⟩:=eR hv
         simp only at w1
         have bv2:=Gd bo bp ct bv he
         have ti:=M1 bo bv2.pr bv2.f1 bv2.f2 _ bv2.wv (by rw[List.length_map];omega) (by rw[List.length_map];omega)
         have lp:=XE bo (by rw[bp];exact h1) m ws (by have:=hs.1;simp only at this;omega) hs.2 t ct (fun x hx w hw=>by
          obtain⟨a,b,c, -⟩:=bL ((bv.wv x hx).wv w hw)
          have:=List.any_eq_false.1 (by simpa using List.any_eq_false.1 he x hx:kz t x=false) w hw
          simp only[decide_eq_true_eq]at this
          exact⟨by rw[bp,a],b,c,by omega⟩)
         rw[Af]
         have ml:(ws.map (i9 (bT m bars) t)).length=ws.length:=List.length_map ..
         clear bv2 bv
         generalize ws.map (i9 (bT m bars) t)=out at*
         generalize nf out=R at*
         generalize bT m bars=bm at*
         obtain⟨places,roads⟩:=m
         obtain⟨bpl,brd⟩:=bm
         simp only[ah,asV,asH,List.map_nil]at*
         simp (disch:=omega) only[go_sem,K.fq,↓reduceIte,va,ba,ea,lp,ti,Nat.reduceAdd,Nat.reduceSub]
     · have lt:(List.range b.worlds.length).any (EF t b.worlds)=true:=by
        obtain⟨w1,w2,f1,f2,w5⟩:=eR hv
        have q:=gN (w5 0 (by omega))
        rw[List.any_eq_true]
        refine⟨0,List.mem_range.2 (by omega),?_⟩
        unfold EF
        rw[List.any_eq_true]
        exact⟨0,List.mem_range.2 (by omega),by unfold Sf;rw[decide_eq_true_eq];omega⟩
       rw[lt]
       simp only[if_true]
       generalize bT m bars=bm at*
       clear lt
       obtain⟨ws⟩:=b
       obtain⟨places,roads⟩:=m
       obtain⟨bpl,brd⟩:=bm
       simp (disch:=omega) only[go_sem,K.fq,↓reduceIte,va,ba,Nat.reduceAdd,Nat.reduceSub]
   · have e:ku m bars=(⟨[],[]⟩,4):=by unfold ku;rw[if_pos (by simpa using cs)]
     rw[e]at ba ⊢
     simp only[ne_eq,Int.reduceEq,not_false_eq_true,if_true,List.map_nil]at ba ⊢
     obtain⟨ws⟩:=b
     obtain⟨places,roads⟩:=m
     simp (disch:=omega) only[go_sem,K.fq,↓reduceIte,va,ba,Nat.reduceAdd,Nat.reduceSub]
end Go.Ev
namespace Go.Ev
open Go
variable [Lib] [cn] [bR] [gL] [gF] [km] [gg] [gh] [i5] [gK] [fI] [eO]
def AW(P:Wh→Prop)(ws:List World):Prop:=∀x∈ws,∀w∈x.whr,P w
structure Kept(m:aT)(T:Int)(P:Wh→Prop):Prop where
 see:∀w l a b,P w→b≤T→P (xd m w l a b).1
 abs:∀w l a b bl,P w→b≤T→P (zK m w l a b bl).1
 raise:∀w t,P w→t≤T→P (lU w t).1
 join:∀a b,P a→P b→a.frm.length=b.frm.length→P (ie a b).1
theorem AW.set{P:Wh→Prop}{x:World}(h:∀w∈x.whr,P w)(tag:Int){w:Wh}(hw:(bM x.tags tag).toNat<x.whr.length→P w):∀y∈(Du tag x w).whr,P y:=by
 intro y hy
 simp only[Du]at hy
 by_cases c:(bM x.tags tag).toNat<x.whr.length
 · rcases List.mem_or_eq_of_mem_set hy with a | rfl
   · exact h y a
   · exact hw c
 · rw[List.set_eq_of_length_le (by omega)]at hy;exact h y hy
theorem A7{m:aT}{T:Int}{P:Wh→Prop}(k:Kept m T P){ws:List World}(h:AW P ws)(tag:Int)(l:List Int)(a b:Int)(hb:b≤T):∀j,j≤ws.length→AW P (mZ m tag l a b ws j)
 | 0,_,x,hx=>by simp[mZ]at hx
 | j+1,hj,x,hx=>by
   simp only[mZ,CE]at hx
   have hn:=h _ (aa (l:=ws) (j:=j) (by omega))
   split at hx
   · exact A7 k h tag l a b hb j (by omega) x hx
   · rcases List.mem_append.1 hx with hx | hx
     · exact A7 k h tag l a b hb j (by omega) x hx
     · rw[List.mem_singleton.1 hx]
       split
       · exact AW.set hn tag fun c=>k.see _ _ _ _ (hn _ (aa c)) hb
       · exact hn
theorem Ge{m:aT}{T:Int}{P:Wh→Prop}(k:Kept m T P){ws:List World}(h:AW P ws)(tag:Int)(l:List Int)(a b bl:Int)(hb:b≤T):∀j,j≤ws.length→AW P (oJ m tag l a b bl ws j)
 | 0,_,x,hx=>by simp[oJ]at hx
 | j+1,hj,x,hx=>by
   simp only[oJ,Ep]at hx
   have hn:=h _ (aa (l:=ws) (j:=j) (by omega))
   rcases List.mem_append.1 hx with hx | hx
   · exact Ge k h tag l a b bl hb j (by omega) x hx
   · rw[List.mem_singleton.1 hx]
     split
     · exact AW.set hn tag fun c=>k.abs _ _ _ _ _ (hn _ (aa c)) hb
     · exact hn
theorem Gf{m:aT}{T:Int}{P:Wh→Prop}(k:Kept m T P){n:Nat}{a b:List Wh}(ha:∀w∈a,P w∧w.frm.length=n)(hb:∀w∈b,P w∧w.frm.length=n):∀p,p≤a.length→p≤b.length→∀w∈iS a b p,P w
 | 0,_,_,w,hw=>(ha w hw).1
 | p+1,h1,h2,w,hw=>by
   simp only[iS]at hw
   rcases List.mem_or_eq_of_mem_set hw with hw | rfl
   · exact Gf k ha hb p (by omega) (by omega) w hw
   · have x:=ha _ (aa (l:=a) (j:=p) (by omega))
     have y:=hb _ (aa (l:=b) (j:=p) (by omega))
     exact k.join _ _ x.1 y.1 (by rw[x.2,y.2])
theorem Nb{m:aT}{T:Int}{P:Wh→Prop}(k:Kept m T P){first:List Int}{out:List World}{x:World}(ho:AW P out)(hx:∀w∈x.whr,P w)(wo:∀y∈out,WV m first y)(wx:WV m first x):AW P (gS out x):=by
 intro y hy
 unfold gS at hy
 split at hy
 · rename_i h
   rcases List.mem_or_eq_of_mem_set hy with hy | rfl
   · exact ho y hy
   · have wk:=wo _ (aa h.1)
     exact Gf k (n:=m.places.length) (fun w hw=>⟨ho _ (aa h.1) w hw,(bL (wk.wv w hw)).1⟩) (fun w hw=>⟨hx w hw,(bL (wx.wv w hw)).1⟩) _ (Nat.min_le_left _ _) (Nat.min_le_right _ _)
 · rcases List.mem_append.1 hy with hy | hy
   · rcases List.mem_append.1 hy with hy | hy
     · exact ho y (List.mem_of_mem_take hy)
     · rw[List.mem_singleton.1 hy];exact hx
   · exact ho y (List.mem_of_mem_drop hy)
theorem Gg{m:aT}(hm:m.ok){T:Int}{P:Wh→Prop}(k:Kept m T P){first:List Int}(pr:eH first=true)(f1:1≤first.length)(f2:first.length≤12){l:List World}(hl:AW P l)(wl:∀x∈l,WV m first x):∀j,j≤l.length→AW P (oK l j)
 | 0,_,y,hy=>by simp[oK]at hy
 | j+1,h,y,hy=>Nb k (Gg hm k pr f1 f2 hl wl j (by omega)) (hl _ (aa (by omega))) (A4 hm pr f1 f2 wl j (by omega)).wv (wl _ (aa (by omega))) y hy
theorem Nc{m:aT}{T:Int}{P:Wh→Prop}(k:Kept m T P){i j:Nat}{t:Int}(ht:t≤T){x:World}(h:∀w∈x.whr,P w):∀w∈(sW i j t x).whr,P w:=by
 intro w hw
 simp only[sW]at hw
 have one:∀ {l:List Wh},(∀w∈l,P w)→∀i,∀w∈l.set i (lU (nth x.whr i) t).1,i<x.whr.length∨l.length=x.whr.length→P w:=by
  intro l hl i w hw hlen
  by_cases c:i<x.whr.length
  · rcases List.mem_or_eq_of_mem_set hw with a | rfl
    · exact hl w a
    · exact k.raise _ _ (h _ (aa c)) ht
  · rcases hlen with a | a
    · exact(c a).elim
    · rw[List.set_eq_of_length_le (by omega)]at hw;exact hl w hw
 by_cases c:j<x.whr.length
 · rcases List.mem_or_eq_of_mem_set hw with a | rfl
   · exact one h i w a (.inr rfl)
   · exact k.raise _ _ (h _ (aa c)) ht
 · rw[List.set_eq_of_length_le (by rw[List.length_set];omega)]at hw
   exact one h i w hw (.inr rfl)
theorem yN{m:aT}{T:Int}{P:Wh→Prop}(k:Kept m T P){ws:List World}(h:AW P ws){i j:Nat}{t:Int}(ht:t≤T):∀q,q≤ws.length→AW P (iz i j t ws q)
 | 0,_=>h
 | q+1,hq=>fun x hx=>by
   simp only[iz,yB]at hx
   split at hx
   · rcases List.mem_append.1 hx with hx | hx
     · exact yN k h ht q (by omega) x hx
     · rw[List.mem_singleton.1 hx];exact Nc k ht (h _ (aa (by omega)))
   · exact yN k h ht q (by omega) x hx
theorem HG{m:aT}(hm:m.ok){T:Int}{P:Wh→Prop}(k:Kept m T P){n:Int}{s:BSt}(hb:pI m s.b=true)(h:AW P s.b.worlds)(ht:s.t+118≤T):AW P (aC.ko m n s).b.worlds:=by
 have a0:=s.d.dG 60
 have a9:=s.d.dH (n:=60) (by omega)
 unfold aC.ko
 simp only
 generalize s.d.next 60=a at*
 obtain⟨a1,d1⟩:=a
 simp only at a0 a9 ⊢
 obtain⟨⟨ws⟩,t,d⟩:=s
 simp only at*
 have bv:=qU hb
 obtain⟨w1,w2,f1,f2, -⟩:=eR hb
 split
 · simp only
   split
   · generalize ((d1.next 3).2.next n).1=i
     generalize (((d1.next 3).2.next n).2.next n).1=j
     unfold m0
     split
     · exact h
     · split
       · exact h
       · rename_i hij
         simp only at hij
         split
         · exact h
         · split
           · exact h
           · exact Gg hm k bv.pr bv.f1 bv.f2 (yN k h (by omega) _ (Nat.le_refl _)) (uC hm bv.wv (by omega) (by omega) _ _ (Nat.le_refl _)) _ (Nat.le_refl _)
   · exact h
 · split
   · simp only
     split
     · have e9:=((((d1.next 3).2.next n).2.lk m.places.length).2).dH (n:=9) (by omega)
       generalize (((d1.next 3).2.next n).2.lk m.places.length)=l at*
       generalize (l.2.next 9).1=e at*
       unfold lz
       split
       · exact h
       · split
         · exact h
         · split
           · exact h
           · exact A7 k h _ _ _ _ (by omega) _ (Nat.le_refl _)
     · exact h
   · simp only
     split
     · unfold qQ
       split
       · exact h
       · split
         · exact h
         · exact Ge k h _ _ _ _ _ (by omega) _ (Nat.le_refl _)
     · exact h
theorem KA{m:aT}(hm:m.ok){T:Int}{P:Wh→Prop}(k:Kept m T P){n:Int}{s:BSt}(hb:pI m s.b=true)(h:AW P s.b.worlds):∀(q:Nat),s.t+60*q+118≤T+60→AW P (aC.vq m n s q).b.worlds∧(aC.vq m n s q).t≤s.t+60*q
 | 0,_=>⟨h,by simp[aC.vq]⟩
 | q+1,hq=>by
   obtain⟨h1,h2⟩:=KA hm k (n:=n) hb h q (by omega)
   have ht:=(CP (m:=m) (n:=n) (s:=aC.vq m n s q)).2
   exact⟨HG hm k (vr hm hb q) h1 (by omega),by simp only[aC.vq];omega⟩
theorem KB{m:aT}(hm:m.ok)(h1:1≤m.places.length)(d:aC){P:Wh→Prop}(k:Kept m 500 P)(hs:∀p t,0≤p→p<(m.places.length:Int)→0≤t→t<100→P (fQ m p t).1):AW P (d.qR m).1.worlds:=by
 have v0:=Ab hm h1 d
 have k9:=((d.lV m).2.next 100).2.dH (n:=5) (by omega)
 have k0:=((d.lV m).2.next 100).2.dG 5
 have kk:d.J0 m≤4:=by unfold aC.J0;omega
 have t0:=(d.lV m).2.dG 100
 have t9:=(d.lV m).2.dH (n:=100) (by omega)
 have tl:=kn d.om
 have sl:(d.lV m).1.length=d.om:=aC.jS _ _ _
 have a0:AW P (d.Ia m).b.worlds:=by
  unfold aC.Ia
  rw[AV hm h1]
  intro x hx w hw
  rw[List.mem_singleton.1 hx]at hw
  simp only[gB,List.mem_map,List.mem_range]at hw
  obtain⟨i,hi,rfl⟩:=hw
  have:=qS (d.next 3).2 (n:=m.places.length) (by omega) d.om _ (aa (l:=(d.lV m).1) (j:=i) (by omega))
  exact hs _ _ this.1 this.2 t0 t9
 exact(KA hm k (n:=d.om) v0 a0 (d.J0 m) (by show(100:Int)+_+_≤_;omega)).1
theorem KC(m:aT):Kept m 500 fun w=>w.time≤500 where
 see w l a b h hb:=by
  unfold xd
  split
  · exact h
  · split
    · exact h
    · split
      · exact hb
      · exact h
 abs w l a b bl h hb:=by
  unfold zK
  split
  · exact h
  · split
    · exact h
    · split
      · exact h
      · split
        · exact h
        · exact hb
 raise w t h ht:=by unfold lU;split;exact h;exact ht
 join a b ha hb e:=by
  unfold ie
  rw[if_pos e]
  simp only;omega
theorem EG{m:aT}(hm:m.ok)(h1:1≤m.places.length)(d:aC):AW (fun w=>w.time≤500) (d.qR m).1.worlds:=
 KB hm h1 d (KC m) fun p t p0 p1 t0 t1=>by
  rw[(yi hm p0 p1 (t:=t) ⟨t0,by omega⟩).1]
  simp only;omega
def C1:List Int→List (List Int)
 | []=>[[]]
 | a::l=>(C1 l).flatMap fun p=>(List.range (p.length+1)).map fun i=>p.take i++a::p.drop i
theorem C2:∀ {l t:List Int},t.Perm l→t∈C1 l
 | [],t,h=>by rw[List.perm_nil.1 h];simp[C1]
 | a::l,t,h=>by
   obtain⟨s1,s2,rfl⟩:=List.append_of_mem (h.mem_iff.2 List.mem_cons_self)
   have p:(s1++s2).Perm l:=(List.perm_cons a).1 ((List.perm_middle.symm).trans h)
   simp only[C1,List.mem_flatMap,List.mem_map,List.mem_range]
   exact⟨_,C2 p,s1.length,by rw[List.length_append];omega,by simp⟩
theorem HH{m:aT}{first:List Int}{ws:List World}(h:BV m first ws)(f:first.length≤3):ws.length≤6:=by
 have nd:(ws.map World.tags).Nodup:=by
  rw[List.Nodup,List.pairwise_map]
  exact h.up.imp fun h e=>wG h e
 have sub:(ws.map World.tags) ⊆ C1 first:=by
  intro t ht
  obtain⟨x,hx,rfl⟩:=List.mem_map.1 ht
  exact C2 (h.wv x hx).pm
 have:=nd.length_le_of_subset sub
 rw[List.length_map]at this
 have f1:=h.f1
 match first,f,f1 with
 | [a],_,_=>exact Nat.le_trans this (by decide:1≤6)
 | [a,b],_,_=>exact Nat.le_trans this (by show 2≤6;decide)
 | [a,b,c],_,_=>exact Nat.le_trans this (by show 6≤6;decide)
theorem Nd{d:aC}(hd:d.dY){m:aT}(hm:m.ok)(h1:1≤m.places.length):
 ∃(b:Bel) (e:aC),aO 0 N.bX [.bp 0 0,.t m.e] [d.obj]=some (.t b.e,[e.obj])∧e.dY∧pI m b=true∧b.sz∧b.worlds.length≤6∧(nth b.worlds 0).tags.length≤3∧AW (fun w=>w.time≤500) b.worlds:=by
 have g:=J5 hm h1 hd
 have v:=CY hm h1 d
 have bp:=yE d
 have n:(nth (d.qR m).1.worlds 0).tags.length≤3:=by
  have:=(g.1.ws _ (aa (l:=(d.qR m).1.worlds) (j:=0) (by have:=g.1.w1;omega))).tg
  omega
 refine⟨_,_,J8 hm h1 d hd,g.2,v,g.1.sz hm,?_,n,EG hm h1 d⟩
 have bv:=qU (m:=m) (ws:=(d.qR m).1.worlds) v
 exact HH bv n
end Go.Ev
namespace Go.Ev
open Go
variable [Lib] [cn] [bR] [gL]
def Ib(l:List Wh)(t:Int):Nat→Int
 | 0=>t
 | j+1=>max (Ib l t j) (nth l j).time
def y8(ws:List World):Nat→Int
 | 0=>0
 | i+1=>Ib (nth ws i).whr (y8 ws i) (nth ws i).whr.length
def C3(b:Bel):Int:=y8 b.worlds b.worlds.length
theorem Sg(b:Bel)(hb:b.sz):aO 0 N.jg [.t b.e] []=some (I (C3 b),[]):=by
 refine ax K.sQ rfl ?_
 unfold C3
 obtain⟨ws⟩:=b
 obtain⟨s1,s2⟩:=hb
 simp only at s1 s2 ⊢
 have inner:∀i,i<ws.length→∀(t:Int) (a b:D),exS aO K.wq ⟨[a,.bp 0 0,b,I t,I i,I 0],[.box [.t (.sl (ws.map World.e))]]⟩=
  some (.exit 2,⟨[.und,.bp 0 0,.und,I (Ib (nth ws i).whr t (nth ws i).whr.length),I i,I (nth ws i).whr.length],[.box [.t (.sl (ws.map World.e))]]⟩):=by
  intro i hi t a b
  have g1:(ws.map World.e)[i]?=some (nth ws i).e:=cR _ hi
  have sz:=(s2 _ (aa hi)).2.1
  refine dC (fun j=>⟨[.und,.bp 0 0,.und,I (Ib (nth ws i).whr t j),I i,I j],[.box [.t (.sl (ws.map World.e))]]⟩) (nth ws i).whr.length rfl ?_ ?_ (by simp)
  · intro j hj
    have g2:((nth ws i).whr.map Wh.e)[j]?=some (nth (nth ws i).whr j).e:=cR _ hj
    simp only[Ib]
    generalize Ib (nth ws i).whr t j=q at*
    generalize nth (nth ws i).whr j=w at*
    generalize nth ws i=x at*
    obtain⟨tags,whr⟩:=x
    obtain⟨time,frm⟩:=w
    simp only at*
    simp (disch:=omega) only[go_sem,K.pJ,↓reduceIte,g1,g2,Nat.reduceAdd,Nat.reduceSub]
  · generalize Ib (nth ws i).whr t (nth ws i).whr.length=q at*
    generalize nth ws i=x at*
    obtain⟨tags,whr⟩:=x
    simp only at*
    simp (disch:=omega) only[go_sem,K.pJ,↓reduceIte,g1,Nat.reduceAdd,Nat.reduceSub]
 have loop:∀a b c:D,exS aO K.wu ⟨[a,.bp 0 0,b,I 0,I 0,c],[.box [.t (.sl (ws.map World.e))]]⟩=
  some (.exit 0,⟨[.und,.bp 0 0,.und,I (y8 ws ws.length),I ws.length,.und],[.box [.t (.sl (ws.map World.e))]]⟩):=by
  intro a b c
  refine dC (fun i=>⟨[.und,.bp 0 0,.und,I (y8 ws i),I i,.und],[.box [.t (.sl (ws.map World.e))]]⟩) ws.length rfl ?_ ?_ (by simp)
  · intro i hi
    have inner:=fun t a b=>inner i hi t a b
    simp (disch:=omega) only[go_sem,K.pK,↓reduceIte,inner,y8,Nat.reduceAdd,Nat.reduceSub]
  · simp (disch:=omega) only[go_sem,K.pK,↓reduceIte,Nat.reduceAdd,Nat.reduceSub]
 simp (disch:=omega) only[go_sem,K.jg,↓reduceIte,loop,Nat.reduceAdd,Nat.reduceSub]
end Go.Ev
namespace Go.Ev
open Go
variable [Lib] [cn] [bR] [gL] [gF] [km] [gg] [gh] [i5] [gK] [fI] [eO] [lB] [gD] [mS] [rJ]
theorem lex_asymm{a b:List Int}(h:lexB a b=true):lexB b a=false:=by
 cases h2:lexB b a with
 | false=>rfl
 | true=>have:=lex_trans h h2;rw[lex_irrefl]at this;cases this
theorem Nf{ws:List World}(u:UpW ws):nf ws=ws:=by
 rw[rE]
 have key:∀j,j≤ws.length→(ws.take j).foldl gS []=ws.take j:=by
  intro j
  induction j with
  | zero=>intro _;simp
  | succ j ih=>
    intro hj
    rw[iv (by omega),List.foldl_append,ih (by omega)]
    simp only[List.foldl_cons,List.foldl_nil]
    have uj:UpW (ws.take j):=List.Pairwise.sublist (List.take_sublist _ _) u
    have ln:(ws.take j).length=j:=by rw[List.length_take];omega
    have lt:0<j→lexB (nth (ws.take j) (j-1)).tags (nth ws j).tags=true:=fun h0=>by
     have:=List.pairwise_iff_getElem.1 u (j-1) j (by omega) (by omega) (by omega)
     rw[bB (List.getElem?_eq_getElem (by omega:j<ws.length)),bB (show(ws.take j)[j-1]?=some ws[j-1]by rw[List.getElem?_take,if_pos (by omega)];exact List.getElem?_eq_getElem (by omega))]
     exact this
    rw[zY uj (fun h0=>by rw[ln]at h0 ⊢;exact lex_asymm (lt h0))]
    unfold p4
    rw[if_neg]
    rintro ⟨h0,e⟩
    rw[ln]at h0 e
    exact wG (lt h0) e
 have:=key ws.length (Nat.le_refl _)
 rwa [List.take_length]at this
theorem HI{m:aT}{b:Bel}(hb:pI m b=true){bars:List Int}(hs:rr bars m.roads.length=true){t:Int}(ht:t≤2147483648)(he:b.worlds.any (kz t)=false):
 yK m b bars t=(⟨b.worlds.map (i9 (bT m bars) t)⟩,0):=by
 have e:ku m bars=(bT m bars,0):=by unfold ku;rw[hs];simp
 unfold yK
 rw[hb,e,Ae ht,he,Af]
 simp only[Bool.true_eq_false,if_false,ne_eq,not_true_eq_false,Bool.false_eq_true]
 rw[Nf]
 unfold UpW
 rw[List.pairwise_map]
 exact(qU hb).up
theorem KD(bm:aT)(t:Int)(x:World):(i9 bm t x).whr.length=x.whr.length:=jT ..
theorem KE(l:List Wh)(t:Int):∀j,t≤Ib l t j∧∀k,k<j→(nth l k).time≤Ib l t j
 | 0=>⟨Int.le_refl _,fun k h=>by omega⟩
 | j+1=>by
   obtain⟨h1,h2⟩:=KE l t j
   simp only[Ib]
   refine⟨by omega,fun k hk=>?_⟩
   by_cases c:k=j
   · subst c;omega
   · have:=h2 k (by omega);omega
theorem Gi(ws:List World):∀i,0≤y8 ws i∧∀k,k<i→∀j,j<(nth ws k).whr.length→(nth (nth ws k).whr j).time≤y8 ws i
 | 0=>⟨Int.le_refl _,fun k h=>by omega⟩
 | i+1=>by
   obtain⟨h1,h2⟩:=Gi ws i
   obtain⟨g1,g2⟩:=KE (nth ws i).whr (y8 ws i) (nth ws i).whr.length
   simp only[y8]
   refine⟨by omega,fun k hk j hj=>?_⟩
   by_cases c:k=i
   · subst c;exact g2 j hj
   · have:=h2 k (by omega) j hj;omega
theorem KF(b:Bel):0≤C3 b∧∀x∈b.worlds,∀w∈x.whr,w.time≤C3 b:=by
 obtain⟨h1,h2⟩:=Gi b.worlds b.worlds.length
 refine⟨h1,fun x hx w hw=>?_⟩
 obtain⟨i,hi,rfl⟩:=List.getElem_of_mem hx
 obtain⟨j,hj,rfl⟩:=List.getElem_of_mem hw
 have e:nth b.worlds i=b.worlds[i]:=bB (List.getElem?_eq_getElem hi)
 have:=h2 i hi j (by rw[e];exact hj)
 rwa [e,bB (List.getElem?_eq_getElem hj)]at this
theorem KG{l:List Wh}{M t:Int}(ht:t≤M)(h:∀w∈l,w.time≤M):∀j,j≤l.length→Ib l t j≤M
 | 0,_=>ht
 | j+1,hj=>by
   have h1:=KG ht h j (by omega)
   have h2:=h _ (aa (l:=l) (j:=j) (by omega))
   simp only[Ib];omega
theorem Gj{ws:List World}{M:Int}(h0:0≤M)(h:AW (fun w=>w.time≤M) ws):∀i,i≤ws.length→y8 ws i≤M
 | 0,_=>h0
 | i+1,hi=>KG (Gj h0 h i (by omega)) (h _ (aa (by omega))) _ (Nat.le_refl _)
theorem Si{b:Bel}(h:AW (fun w=>w.time≤500) b.worlds):C3 b≤500:=Gj (by omega) h _ (Nat.le_refl _)
theorem Ng{b:Bel}{t:Int}(h:C3 b≤t):b.worlds.any (kz t)=false:=by
 rw[List.any_eq_false]
 intro x hx
 unfold kz
 simp only[Bool.not_eq_true,List.any_eq_false,decide_eq_true_eq]
 intro w hw
 have:=(KF b).2 x hx w hw
 omega
structure SlF(bm:aT)(w:Wh)(t:Int):Prop where
 ln:(vu bm w t).frm.length=bm.places.length
 bd:bnd (vu bm w t).frm
 cl:clW bm t none (vu bm w t).frm
 le:∀j,j<bm.places.length→nth (vu bm w t).frm j≤if t<nth w.frm j then 1099511627776 else nth w.frm j
theorem slF{bm:aT}(hm:bm.ok){w:Wh}(hl:w.frm.length=bm.places.length)(hp:∀x∈w.frm,plT x)(t:Int):SlF bm w t:=by
 have sb:=yJ (fun x hx=>iH (hp x hx):bnd w.frm) t w.frm.length
 have sl:=jw w.frm t w.frm.length
 obtain⟨c1,c2⟩:=qH hm (t:=t) (into:=none) (by rw[sl,hl]) sb
 refine⟨c1,c2,yg hm (by rw[sl,hl]) sb,fun j hj=>?_⟩
 have e:=Cn hm (t:=t) (into:=none) (by rw[sl,hl]) sb j
 rw[qX _ _ _ (Nat.le_refl _) _ (by omega)]at e
 have:nth (vu bm w t).frm j=nth (cK bm t none (p5 w.frm t w.frm.length)) j:=rfl
 split
 · rename_i c;rw[if_pos ⟨by omega,c⟩]at e;exact e
 · rename_i c;rw[if_neg (fun h=>c h.2)]at e;exact e
theorem XF{bm:aT}(hm:bm.ok){w:Wh}(hl:w.frm.length=bm.places.length)(hp:∀x∈w.frm,plT x){t:Int}{y:List Int}(hy:clW bm t none y)(yl:y.length=bm.places.length)(yb:∀x∈y,x≤1099511627776)
 (h:∀j,j<bm.places.length→nth w.frm j≤t→nth y j≤nth w.frm j):∀j,nth y j≤nth (vu bm w t).frm j:=by
 have sb:=yJ (fun x hx=>iH (hp x hx):bnd w.frm) t w.frm.length
 have sl:=jw w.frm t w.frm.length
 refine yf hm hy (by rw[sl,hl]) sb fun j=>?_
 by_cases c:j<w.frm.length
 · rw[qX _ _ _ (Nat.le_refl _) _ c]
   split
   · exact yb _ (aa (by omega))
   · rename_i d;exact h j (by omega) (by
      by_cases a:t<nth w.frm j
      · exact absurd ⟨c,a⟩ d
      · omega)
 · rw[xe (by omega),xe (by rw[sl];omega)];omega
theorem Gk(roads:List Road){l:List Int}(hs:∀j,j<l.length→0≤nth l j∧nth l j<roads.length):∀k,k≤l.length→∀j,j<roads.length→
 ((j:Int)∈l.take k→(nth (A6 roads l k) j).walk=false)∧((j:Int)∉l.take k→nth (A6 roads l k) j=nth roads j)∧
 (nth (A6 roads l k) j).frm=(nth roads j).frm∧(nth (A6 roads l k) j).to=(nth roads j).to
 | 0,_,j,hj=>by simp[A6]
 | k+1,hk,j,hj=>by
   obtain⟨i1,i2,i3,i4⟩:=Gk roads hs k (by omega) j hj
   obtain⟨h1,h2⟩:=hs k (by omega)
   have bl:=nH roads l k
   simp only[A6]
   rw[ny _ _ (by omega),iv (by omega)]
   simp only[List.mem_append,List.mem_singleton]
   by_cases c:j=(nth l k).toNat
   · rw[if_pos c,←c]
     exact⟨fun _=>rfl,fun h=>(h (.inr (by omega))).elim,i3,i4⟩
   · rw[if_neg c]
     refine⟨fun h=>?_,fun h=>i2 fun x=>h (.inl x),i3,i4⟩
     rcases h with h | h
     · exact i1 h
     · omega
theorem KH{m:aT}{l:List Int}(hs:rr l m.roads.length=true){k:Nat}(hk:k<m.roads.length)(back:Bool):
 ((k:Int)∈l→dI (bT m l) k back 6 9 12= -1)∧((k:Int)∉l→dI (bT m l) k back 6 9 12=dI m k back 6 9 12)∧
 (nth (bT m l).roads k).src back=(nth m.roads k).src back∧(nth (bT m l).roads k).dst back=(nth m.roads k).dst back:=by
 obtain⟨h1,h2,h3,h4⟩:=Gk m.roads (fun j hj=>uE hs hj) l.length (Nat.le_refl _) k hk
 rw[List.take_length]at h1 h2
 refine⟨fun h=>?_,fun h=>?_,?_,?_⟩
 · unfold dI;simp only[bT];exact if_pos (Or.inr (h1 h))
 · simp only[dI,bT,h2 h]
 · unfold Road.src;simp only[bT,h3,h4]
 · unfold Road.dst;simp only[bT,h3,h4]
theorem HJ(m:aT)(l:List Int):(bT m l).roads.length=m.roads.length:=nH _ _ _
theorem OT{d:aC}(hd:d.dY)(n:Nat)(hn:n≤1000000):
 ∃(l:List Int) (e:aC),aO 0 N.bU [.bp 0 0,I n] [d.obj]=some (.t (tL l),[e.obj])∧e.dY∧l.length≤n∧rr l n=true:=
 ⟨_,_,Jb d n hn hd,aC.kH hd n,d.ua n,Aa d n⟩
theorem C4{b:Bel}{area:List Int}:r7 b area=true↔∀x∈b.worlds,∀w∈x.whr,∀p∈area,0≤p→p<w.frm.length→nth w.frm p.toNat=never:=by
 have e1:∀i,MH area b.worlds i=(nth b.worlds i).whr.any (fun w=>area.any (Hg w)):=fun i=>yk (nth b.worlds i).whr fun w=>area.any (Hg w)
 unfold r7
 rw[show MH area b.worlds=fun i=>(nth b.worlds i).whr.any (fun w=>area.any (Hg w))from funext e1,yk b.worlds (fun x=>x.whr.any fun w=>area.any (Hg w))]
 simp only[Bool.not_eq_true',List.any_eq_false,Bool.not_eq_true]
 constructor
 · intro h x hx w hw p hp h0 h1
   have:=h x hx w hw p hp
   unfold Hg at this
   rw[decide_eq_true (by omega),Bool.true_and,Bool.not_eq_false',decide_eq_true_eq]at this
   exact this
 · intro h x hx w hw p hp
   have:=h x hx w hw p hp
   unfold Hg
   by_cases c:0≤p∧p≤(w.frm.length:Int)-1
   · rw[this c.1 (by omega)];simp
   · rw[decide_eq_false c,Bool.false_and]
theorem KI{b:Bel}{i:Nat}{t p:Int}(h:p∈y6 b i t):∃x∈b.worlds,∃q:Nat,i<x.whr.length∧p=q∧q<(nth x.whr i).frm.length∧nth (nth x.whr i).frm q≤t:=by
 obtain⟨q,rfl, -,m⟩:=mK h
 unfold Uv at m
 obtain⟨k,hk,m⟩:=List.any_eq_true.1 m
 rw[Bool.and_eq_true,decide_eq_true_eq,decide_eq_true_eq]at m
 obtain⟨⟨m1,m2⟩,m3⟩:=m
 simp only[Int.toNat_natCast]at m3
 unfold mJ at m3
 rw[fY,decide_eq_true_eq]at m3
 exact⟨_,aa (List.mem_range.1 hk),q,by omega,rfl,m3.1,m3.2⟩
section
variable (e : aC) {m bm : aT} (b c : Bel) (t : Int) (l : List Int)
end
end Go.Ev
namespace Go.Ev
open Go
variable [Lib] [cn] [bR] [gL] [gF] [km] [gg] [gh] [i5] [gK] [fI] [eO] [lB] [gD] [mS] [rJ]
theorem Nh(l:List Int)(hl:l.length≤1000000)(p:Int):aO 0 N.b6 [I p,.bp 0 0] [.box [.t (tL l)]]=some (B (decide (p∈l)),[.box [.t (tL l)]]):=by
 refine ax K.kP rfl ?_
 have c:=pC l p (by omega)
 simp (disch:=omega) only[go_sem,K.b6,↓reduceIte,c,Nat.reduceAdd,Nat.reduceSub]
def KJ(b:Bel)(l:List Int)(t:Int)(i:Nat):Bool:=(y6 b i t).any fun p=>decide (p∈l)
theorem Sj(b:Bel)(hs:b.sz)(l:List Int)(hl:l.length≤1000000)(t:Int)(i:Nat):
 aO 0 N.c7 [I i,.bp 0 0,.bp 1 0,.bp 2 0] [.box [.t (.sl (b.worlds.map World.e))],.box [I t],.box [.t (tL l)]]=some (B (KJ b l t i),[.box [.t (.sl (b.worlds.map World.e))],.box [I t],.box [.t (tL l)]]):=by
 refine ax K.mV rfl ?_
 have po:=Ew b hs i t
 have pl:=Kc b i t
 have cf:=kd (y6 b i t) (by omega) N.b6 [[tL l]] (fun p=>decide (p∈l)) (fun p _=>Nh l hl p)
 have cf:aO 0 N.az [.t (tL (y6 b i t)),.fn N.b6 [.bp 0 0]] [.box [.t (tL l)]]=some (B (KJ b l t i),[.box [.t (tL l)]]):=cf
 generalize KJ b l t i=r at*
 generalize y6 b i t=ps at*
 obtain⟨ws⟩:=b
 simp (disch:=omega) only[go_sem,K.c7,↓reduceIte,po,cf,Nat.reduceAdd,Nat.reduceSub]
def Sk(b:Bel)(l:List Int)(t:Int):List Int:=if b.worlds.length=0 then []else gx (nth b.worlds 0).whr.length (KJ b l t)
theorem KK(b:Bel)(hs:b.sz)(l:List Int)(hl:l.length≤1000000)(t:Int):aO 0 N.fv [.t b.e,.t (tL l),I t] []=some (.t (tL (Sk b l t)),[]):=by
 refine ax K.pQ rfl ?_
 unfold Sk
 by_cases h0:b.worlds.length=0
 · rw[if_pos h0]
   obtain⟨ws⟩:=b
   have e:ws=[]:=List.eq_nil_of_length_eq_zero h0
   subst e
   simp (disch:=omega) only[go_sem,K.fv,↓reduceIte,List.map_nil,List.length_nil,Nat.reduceAdd,Nat.reduceSub]
   rfl
 · rw[if_neg h0]
   have z:=hs.2 _ (aa (l:=b.worlds) (j:=0) (by omega))
   have wh:=w9 (nth b.worlds 0).whr.length z.2.1 N.c7 [[.sl (b.worlds.map World.e)],[tI t],[tL l]] (KJ b l t) (fun i hi=>Sj b hs l hl t i)
   have wh:aO 0 N.b9 [I (nth b.worlds 0).whr.length,.fn N.c7 [.bp 0 0,.bp 1 0,.bp 2 0]] [.box [.t (.sl (b.worlds.map World.e))],.box [I t],.box [.t (tL l)]]=some (.t (tL (gx (nth b.worlds 0).whr.length (KJ b l t))),[.box [.t (.sl (b.worlds.map World.e))],.box [I t],.box [.t (tL l)]]):=wh
   have ex:(b.worlds.map World.e)[0]?=some (nth b.worlds 0).e:=cR _ (by omega)
   generalize gx (nth b.worlds 0).whr.length (KJ b l t)=r at*
   generalize nth b.worlds 0=x at*
   obtain⟨tags,whr⟩:=x
   have z2:=z.2.1
   simp only at z2
   obtain⟨ws⟩:=b
   simp only at*
   have hw:=hs.1
   simp only at hw
   simp (disch:=omega) only[go_sem,K.fv,↓reduceIte,ex,wh,Nat.reduceAdd,Nat.reduceSub]
def yL(l:List Int)(n:Nat):List Int:=(List.range n).map fun j:Nat=>if(j:Int)∈l then 1099511627776 else 0
theorem Gl(l:List Int){n j:Nat}(h:j<n):nth (yL l n) j=if(j:Int)∈l then 1099511627776 else 0:=by
 refine bB ?_
 unfold yL
 rw[List.getElem?_map,List.getElem?_range h];rfl
theorem acL{m:aT}(hm:m.ok)(l:List Int){t:Int}(ht:0≤t):clW (bT m (i7 m l)) t none (yL l m.places.length):=by
 intro k hk back _ c1 c2 c3
 rw[HJ]at hk
 have bs:rr (i7 m l) m.roads.length=true:=sM _ _
 obtain⟨a1,a2,a3,a4⟩:=KH bs hk back
 rw[a3]at c2 c3 ⊢
 rw[a4]
 have nb:(k:Int)∉i7 m l:=fun c=>by have:=a1 c;omega
 rw[a2 nb]at c1 c3 ⊢
 have ok:=hm.rs _ (aa hk)
 have r1:=Road.tA ok back
 have r2:=Road.ya ok back
 rw[Gl l (by omega)]at c2 c3 ⊢
 rw[Gl l (by omega)]
 rw[Int.toNat_of_nonneg r1.1]at*
 rw[Int.toNat_of_nonneg r2.1]
 by_cases d:(nth m.roads k).dst back∈l
 · exfalso
   have s:(nth m.roads k).src back∉l:=fun c=>by rw[if_pos c]at c2;omega
   apply nb
   unfold i7
   rw[fY]
   refine⟨hk,?_⟩
   have cl:(nth m.roads k).closed=false:=by
    cases h:(nth m.roads k).closed with
    | false=>rfl
    | true=>have:=qW m k back h;omega
   unfold Kt
   rw[cl]
   have w:(decide (0≤dI m k false 6 9 12)||decide (0≤dI m k true 6 9 12))=true:=by cases back<;>simp[c1]
   rw[w]
   unfold Road.src Road.dst at*
   cases back with
   | false=>simp only[Bool.false_eq_true,if_false]at s d;simp[s,d]
   | true=>simp only[if_true]at s d;simp[s,d]
 · rw[if_neg d];split<;>omega
theorem EH{m:aT}(hm:m.ok){b:Bel}(hv:pI m b=true){l:List Int}(ss:rr l m.places.length=true){t:Int}(h0:0≤t)(ht:t≤2147483648)(en:b.worlds.any (kz t)=false):
 r7 ⟨b.worlds.map (i9 (bT m (i7 m l)) t)⟩ l=decide ((Sk b l t).length=0):=by
 have bs:rr (i7 m l) m.roads.length=true:=sM _ _
 have bok:=vt hm bs
 have bpl:(bT m (i7 m l)).places=m.places:=rfl
 have bv:BV m (nth b.worlds 0).tags b.worlds:=qU hv
 have np:=hm.np
 obtain⟨w1,w2,f1,f2, -⟩:=eR hv
 have wl0:=(bv.wv _ (aa (l:=b.worlds) (j:=0) (by omega))).wl
 have at_:∀p∈l,0≤p∧p<(m.places.length:Int):=fun p hp=>by
  obtain⟨j,hj⟩:=List.mem_iff_getElem?.1 hp
  have:=uE ss (List.getElem?_eq_some_iff.1 hj).1
  rwa [bB hj]at this
 rw[Bool.eq_iff_iff,decide_eq_true_eq,C4]
 unfold Sk
 rw[if_neg (by omega)]
 constructor
 · intro hc
   rw[List.length_eq_zero_iff,List.eq_nil_iff_forall_not_mem]
   intro i hi
   obtain⟨i,rfl,hi2,hb⟩:=mK hi
   unfold KJ at hb
   obtain⟨p,hp,hl⟩:=List.any_eq_true.1 hb
   rw[decide_eq_true_eq]at hl
   obtain⟨x,hx,k,h1,rfl,h2,h3⟩:=KI hp
   obtain⟨v1,v2,v3, -⟩:=bL ((bv.wv x hx).wv _ (aa h1))
   have sf:=slF bok (w:=nth x.whr i) (by rw[bpl,v1]) v3 t
   have:=hc (i9 (bT m (i7 m l)) t x) (List.mem_map_of_mem hx) (vu (bT m (i7 m l)) (nth x.whr i) t) (by
    have e2:=oN (bT m (i7 m l)) t x.whr x.whr.length i (Nat.le_refl _)
    rw[if_pos h1]at e2
    rw[← e2]
    exact aa (by rw[KD];exact h1)) k hl (by omega) (by rw[sf.ln,bpl];omega)
   have le:=sf.le k (by rw[bpl];omega)
   rw[if_neg (by omega)]at le
   simp only[Int.toNat_natCast]at this
   unfold never at this
   omega
 · intro he x hx w hw p hp p0 p1
   obtain⟨y,hy,rfl⟩:=List.mem_map.1 hx
   obtain⟨k,hk⟩:=List.mem_iff_getElem?.1 hw
   have kl:=(List.getElem?_eq_some_iff.1 hk).1
   unfold i9 EE at kl hk
   simp only[jT]at kl
   have e2:=oN (bT m (i7 m l)) t y.whr y.whr.length k (Nat.le_refl _)
   rw[if_pos kl,bB hk]at e2
   subst e2
   obtain⟨v1,v2,v3, -⟩:=bL ((bv.wv y hy).wv _ (aa kl))
   have sf:=slF bok (w:=nth y.whr k) (by rw[bpl,v1]) v3 t
   have pp:=at_ p hp
   -- nobody is possible at a place of the area
   have no:∀j,j<m.places.length→nth (nth y.whr k).frm j≤t→(j:Int)∉l:=by
    intro j hj hle hjl
    rw[List.length_eq_zero_iff]at he
    have:(k:Int)∈gx (nth b.worlds 0).whr.length (KJ b l t):=by
     rw[fY]
     have wy:=(bv.wv y hy).wl
     refine⟨by omega,?_⟩
     unfold KJ
     rw[List.any_eq_true]
     refine⟨(j:Int),?_,by simpa using hjl⟩
     unfold y6
     rw[fY]
     refine⟨by omega,?_⟩
     unfold Uv
     rw[List.any_eq_true]
     obtain⟨i,hi⟩:=List.mem_iff_getElem?.1 hy
     refine⟨i,List.mem_range.2 (List.getElem?_eq_some_iff.1 hi).1,?_⟩
     rw[bB hi,Bool.and_eq_true,decide_eq_true_eq,decide_eq_true_eq]
     refine⟨by omega,?_⟩
     simp only[Int.toNat_natCast]
     unfold mJ
     rw[fY,decide_eq_true_eq]
     exact⟨by omega,hle⟩
    rw[he]at this;cases this
   have ge:=XF bok (w:=nth y.whr k) (by rw[bpl,v1]) v3 (acL hm l h0) (by simp[yL,bpl]) (fun z hz=>by
    simp only[yL,List.mem_map]at hz
    obtain⟨j, -,rfl⟩:=hz
    split<;>omega) (fun j hj hle=>by
    rw[bpl]at hj
    rw[Gl l hj,if_neg (no j hj hle)]
    exact(iH (v3 _ (aa (by omega)))).1) p.toNat
   rw[Gl l (by omega),if_pos (by rw[Int.toNat_of_nonneg p0];exact hp)]at ge
   have bd:=(sf.bd _ (aa (j:=p.toNat) (by rw[sf.ln,bpl];omega))).2
   unfold never
   omega
theorem KL{m:aT}(hm:m.ok){ws:List World}(bv:BV m (nth ws 0).tags ws){l:List Int}(hc:r7 ⟨ws⟩ l=true)(tag:Int)(s:List Int)(a c:Int):r7 (lz m ⟨ws⟩ tag s a c).1 l=true:=by
 unfold lz
 split
 · exact hc
 · split
   · exact hc
   · split
     · exact hc
     · simp only
       rw[C4]at hc ⊢
       intro x hx w hw p hp p0 p1
       simp only at hx
       rw[A2 m tag s a c ws _ (Nat.le_refl _),List.take_length,List.mem_filterMap]at hx
       obtain⟨y,hy,e⟩:=hx
       unfold Xz at e
       split at e
       · cases e
       · simp only[Option.some.injEq]at e
         subst e
         split at hw
         · rename_i z0
           unfold yZ at z0
           have wy:=bv.wv y hy
           simp only[Du]at hw
           by_cases q:(bM y.tags tag).toNat<y.whr.length
           · rcases List.mem_or_eq_of_mem_set hw with h | h
             · exact hc y hy w h p hp p0 p1
             · have vv:=wy.wv _ (aa q)
               have old:=hc y hy _ (aa q) p hp p0
               have sv:=CU hm vv s a c
               have sl:=(MV hm vv s a c z0).2
               obtain⟨v1,v2,v3, -⟩:=bL vv
               obtain⟨u1,u2,u3, -⟩:=bL sv
               unfold yZ at h
               subst h
               have o:=old (by omega)
               have le:=(iH (u3 _ (aa (j:=p.toNat) (by omega)))).2
               have ge:=sl p.toNat
               unfold never at*
               omega
           · rw[List.set_eq_of_length_le (by omega)]at hw
             exact hc y hy w hw p hp p0 p1
         · exact hc y hy w hw p hp p0 p1
end Go.Ev
namespace Go.Ev
open Go
variable [Lib] [cn] [bR] [gL] [gF] [km] [gg] [gh] [i5] [gK] [fI] [eO] [lB] [gD]
structure RnH(m:aT)(ws out:List World)(k9:Nat)(H:aj)(es:List D)(fa fb:Nat→Nat):Prop where
 e0:H[0]?=some (.box (ah m))
 e1:H[1]?=some (.box [.t (.sl (ws.map World.e))])
 e2:H[2]?=some (.box [.nil])
 e9:H[k9]?=some (.box [.ref 3 0 ws.length])
 rp:Rp H 3 es fa fb out
theorem Rp.B7{H:aj}{id:Nat}{es:List D}{fa fb:Nat→Nat}{out:List World}(hr:Rp H id es fa fb out){k:Nat}{cs:List D}(hk:H[k]?=some (.box cs))(o:Obj):Rp (H.set k o) id es fa fb out:=by
 have ne:∀ {i:Nat} {sz ep:Nat} {p:Bool} {l:List D},H[i]?=some (.arr sz p ep l)→k≠i:=fun h e=>by rw[← e,hk]at h;cases h
 exact⟨by rw[gz (ne hr.arr)];exact hr.arr,hr.len,hr.el,fun j hj=>by rw[gz (ne (hr.ha j hj))];exact hr.ha j hj,fun j hj=>by rw[gz (ne (hr.hb j hj))];exact hr.hb j hj,hr.na,hr.nb,hr.nab,hr.nbb⟩
end Go.Ev
namespace Go.Ev
open Go
variable [Lib] [cn] [bR] [gL] [gF] [km] [gg] [gh] [i5] [gK]
end Go.Ev
namespace Go.Ev
open Go
variable [Lib] [cn] [bR] [gL] [gF] [km] [gg] [gh] [i5] [gK] [fI] [eO] [lB] [gD]
theorem XG{m:aT}(hm:m.ok){b:Bel}(hb:pI m b=true):b.sz:=by
 obtain⟨w1,w2, -⟩:=eR hb
 have bv:=qU (ws:=b.worlds) hb
 exact⟨by omega,fun x hx=>(bv.wv x hx).wsz hm bv.f2⟩
theorem XH{m:aT}(hm:m.ok){b:Bel}(hs:b.sz)(tag:Int)(l:List Int)(a c:Int):(lz m b tag l a c).1.sz:=by
 by_cases hb:pI m b=true
 · exact XG hm (Ks hm hb tag l a c)
 · have:ly m b tag≠0:=by unfold ly;rw[if_pos (by simpa using hb)];omega
   unfold lz;rw[if_pos this];exact hs
end Go.Ev
namespace Go.Ev
open Go
variable [Lib] [cn] [bR] [gL] [gF] [km] [gg] [gh] [i5] [gK] [fI] [eO] [lB] [gD] [mS] [rJ]
theorem Ni(aw:aO 0 N.fX [] []=some (B true,[]))(li:List Int):aO 0 N.b5 [.t (tL li)] []=some (B true,[]):=by
 refine ax K.kO rfl ?_
 have lo:=L9 li
 by_cases c:li.length≤400
 · simp only[c,decide_true]at lo
   have ro:=Xv li
   have d0:(aC.mk li 0).dY:=c
   generalize (aC.mk li 0)=d at*
   obtain⟨m,e1,mo,l1,hm,p1,p2,r1,r2⟩:=Xw d0
   obtain⟨b,e2,be,l2,hv,hs,w6,n3,hT⟩:=Nd l1 hm (by omega)
   have la:=Sg b hs
   obtain⟨g,e3,go,l3,g0,g1⟩:=OO l2 90 (by omega) (by omega)
   obtain⟨l,e4,so,l4,sl,ss⟩:=OT l3 m.places.length (by omega)
   obtain⟨s,e5,s5,l5,sl5, -⟩:=OT l4 m.places.length (by omega)
   obtain⟨v,e6,vo,l6,v0,v1⟩:=OO l5 50 (by omega) (by omega)
   have bo:=HC hm l (by omega)
   have bs:rr (i7 m l) m.roads.length=true:=sM _ _
   have bl:(i7 m l).length≤m.roads.length:=oE _ _
   have ba:=Ad hm (i7 m l) (by omega)
   have ll:=Si hT
   have l0:=(KF b).1
   have en:=Ng (b:=b) (t:=C3 b+g) (by omega)
   have eb:ku m (i7 m l)=(bT m (i7 m l),0):=by unfold ku;rw[bs];simp
   rw[eb]at ba
   have bok:=vt hm bs
   have bpl:(bT m (i7 m l)).places=m.places:=rfl
   have bv:BV m (nth b.worlds 0).tags b.worlds:=qU hv
   obtain⟨w1,w2,f1,f2, -⟩:=eR hv
   generalize C3 b=q0 at*
   have se:=Na hm (by omega) b hs (by omega) (i7 m l) (by omega) (q0+g)
   rw[HI hv bs (t:=q0+g) (by omega) en]at se
   have bv2:=Gd bok bpl (t:=q0+g) (by omega) bv en
   have cz:(Bel.mk (b.worlds.map (i9 (bT m (i7 m l)) (q0+g)))).sz:=⟨by simp only[List.length_map];omega,fun x hx=>(bv2.wv x hx).wsz bok bv2.f2⟩
   have cl:=FW _ cz l (by omega)
   have va:=Eg bok _ cz
   rw[bv2.bel (by rw[List.length_map];omega) (by rw[List.length_map];omega)]at va
   have sc:=EH hm hv ss (t:=q0+g) (by omega) (by omega) en
   have io:=KK b hs l (by omega) (q0+g)
   have t0:(nth b.worlds 0).tags[0]?=some (nth (nth b.worlds 0).tags 0):=iP (by omega)
   have x0:(b.worlds.map World.e)[0]?=some (nth b.worlds 0).e:=cR _ (by omega)
   have y0:((nth b.worlds 0).tags.map (T.int .i64))[0]?=some (tI (nth (nth b.worlds 0).tags 0)):=cR _ (by omega)
   have sb:=CH bok _ cz (nth (nth b.worlds 0).tags 0) s (by omega) (q0+g+v) (q0+g+60)
   have sz2:=XH bok cz (nth (nth b.worlds 0).tags 0) s (q0+g+v) (q0+g+60)
   have cl2:=FW _ sz2 l (by omega)
   have bv3:BV (bT m (i7 m l)) (nth (b.worlds.map (i9 (bT m (i7 m l)) (q0+g))) 0).tags (b.worlds.map (i9 (bT m (i7 m l)) (q0+g))):=qU (bv2.bel (by rw[List.length_map];omega) (by rw[List.length_map];omega))
   have c2:r7 ⟨b.worlds.map (i9 (bT m (i7 m l)) (q0+g))⟩ l=true→r7 (lz (bT m (i7 m l)) ⟨b.worlds.map (i9 (bT m (i7 m l)) (q0+g))⟩ (nth (nth b.worlds 0).tags 0) s (q0+g+v) (q0+g+60)).1 l=true:=fun hc=>
    KL bok bv3 hc _ _ _ _
   have il:(Sk b l (q0+g)).length≤1000000:=by
    unfold Sk
    split
    · simp
    · have:=oE (nth b.worlds 0).whr.length (KJ b l (q0+g))
      have:=(bv.wv _ (aa (l:=b.worlds) (j:=0) (by omega))).wl
      omega
   rw[sc]at cl c2
   clear sc bv bv2 bv3 hv hT en eb cz sz2 bpl bok
   generalize lz (bT m (i7 m l)) ⟨b.worlds.map (i9 (bT m (i7 m l)) (q0+g))⟩ (nth (nth b.worlds 0).tags 0) s (q0+g+v) (q0+g+60)=sb2 at*
   generalize Sk b l (q0+g)=il2 at*
   generalize b.worlds.map (i9 (bT m (i7 m l)) (q0+g))=cs at*
   generalize bT m (i7 m l)=bm at*
   generalize i7 m l=br at*
   obtain⟨sb2,k⟩:=sb2
   generalize r7 sb2 l=c3 at*
   obtain⟨sbw⟩:=sb2
   generalize nth b.worlds 0=wd at*
   obtain⟨tags,whr⟩:=wd
   simp only at y0 t0 f1 f2
   generalize nth tags 0=tag at*
   obtain⟨ws⟩:=b
   obtain⟨places,roads⟩:=m
   obtain⟨bp,brd⟩:=bm
   simp only[ah]at*
   by_cases z:il2.length=0
   · rw[decide_eq_true z]at cl c2
     have c2:=c2 rfl
     subst c2
     by_cases k0:k=0
     · subst k0
       simp (disch:=omega) only[go_sem,K.b5,↓reduceIte,lo,ro,mo,be,la,go,so,bo,se,ba,va,cl,io,z,x0,y0,s5,vo,sb,cl2,aw,Nat.reduceAdd,Nat.reduceSub]
     · simp (disch:=omega) only[go_sem,K.b5,↓reduceIte,lo,ro,mo,be,la,go,so,bo,se,ba,va,cl,io,z,x0,y0,s5,vo,sb,k0,aw,Nat.reduceAdd,Nat.reduceSub]
   · rw[decide_eq_false z]at cl
     simp (disch:=omega) only[go_sem,K.b5,↓reduceIte,lo,ro,mo,be,la,go,so,bo,se,ba,va,cl,io,z,x0,y0,s5,vo,sb,aw,Nat.reduceAdd,Nat.reduceSub]
 · simp only[c,decide_false]at lo
   simp (disch:=omega) only[go_sem,K.b5,↓reduceIte,lo,aw,Nat.reduceAdd,Nat.reduceSub]
end Go.Ev
