/- Parts of the proof: see the text that holds the theorem. -/
import Derived.Test.YtljlbkjecjloaaaGreatZ4
set_option linter.all false
set_option maxRecDepth 100000
namespace Go.Ev
open Go
variable [Lib] [cm] [bS] [iv] [ir] [lr] [gE] [gF] [jV] [iu] [gA] [fw]
theorem qY{n j:Nat}{p:Nat→Bool}(h1:j<n)(h2:p j=true)(h3:∀k,k<j→p k=false):(List.range n).find? p=some j:=by
 cases hf:(List.range n).find? p with
 | none=>exact absurd h2 (by simpa using List.find?_eq_none.1 hf j (List.mem_range.2 h1))
 | some k=>
   obtain⟨k1,k2⟩:=x8 hf
   have:k≤j:=by
    rcases Nat.lt_or_ge j k with c | c
    · rw[List.find?_range_eq_some]at hf
      exact absurd h2 (by simpa using hf.2.2 j c)
    · exact c
   rcases Nat.lt_or_ge k j with c | c
   · rw[h3 k c]at k2;cases k2
   · rw[show k=j by omega]
theorem CN{n:Nat}{p:Nat→Bool}(h:∀k,k<n→p k=false):(List.range n).find? p=none:=List.find?_eq_none.2 fun x hx=>by rw[h x (List.mem_range.1 hx)];simp
theorem CO(a b:List Int):decide (Mz a b<0)=qQ a b:=by
 unfold Mz qQ
 cases hf:(List.range (min a.length b.length)).find? (fun j=>decide (nth a j≠nth b j))with
 | some j=>
   rw[List.find?_range_eq_some]at hf
   obtain⟨h2,h1,h3⟩:=hf
   have h1:=List.mem_range.1 h1
   have e:(List.range a.length).find? (FU a b)=some j:=qY (by omega) (by simp only[FU,h2,Bool.or_true]) (fun k hk=>by
    have:=h3 k hk
    simp only[FU,Bool.or_eq_false_iff,decide_eq_false_iff_not]
    exact⟨by omega,by simpa using this⟩)
   have h2:nth a j≠nth b j:=by simpa using h2
   rw[e]
   simp only[if_neg (by omega:¬b.length≤j)]
   rw[decide_eq_decide]
   unfold JS
   split
   · omega
   · split<;>omega
 | none=>
   have h3:∀k,k<min a.length b.length→nth a k=nth b k:=fun k hk=>by
    have:=List.find?_eq_none.1 hf k (List.mem_range.2 hk)
    simpa using this
   by_cases c:a.length≤b.length
   · have e:(List.range a.length).find? (FU a b)=none:=CN fun k hk=>by
      simp only[FU,Bool.or_eq_false_iff,decide_eq_false_iff_not,Decidable.not_not]
      exact⟨by omega,h3 k (by omega)⟩
     rw[e]
     simp only[decide_eq_decide]
     split<;>omega
   · have e:(List.range a.length).find? (FU a b)=some b.length:=qY (by omega) (by simp[FU]) (fun k hk=>by
      simp only[FU,Bool.or_eq_false_iff,decide_eq_false_iff_not,Decidable.not_not]
      exact⟨by omega,h3 k (by omega)⟩)
     rw[e]
     simp only[Nat.le_refl,if_true,decide_eq_decide]
     omega
def pwB(m:aT)(ws:List World)(first:List Int)(i:Nat):Bool:=
 decide (1≤(nth ws i).tags.length∧(nth ws i).tags.length≤12)&&decide ((nth ws i).whr.length=(nth ws i).tags.length)&&ew (nth ws i).tags&&decide (iH (nth ws i).tags=iH first)&&(decide (i=0)||qQ (nth ws (i-1)).tags (nth ws i).tags)&& !((nth ws i).whr.any fun x=> !cH m x)
def MH(m:aT)(b:Bel):Bool:=decide (1≤b.worlds.length∧b.worlds.length≤24)&&(List.range b.worlds.length).all (pwB m b.worlds (nth b.worlds 0).tags)
theorem wD{a b:List Int}:iH a=iH b↔a.Perm b:=by
 constructor
 · intro h
   exact(jN a).symm.trans (h▸jN b)
 · intro h
   exact aco (uw a) (uw b) ((jN a).trans (h.trans (jN b).symm))
theorem sj{a b:List Int}(ha:a.Nodup)(hb:b.Nodup)(hl:a.length=b.length)(hs:∀x∈a,x∈b):a.Perm b:=by
 have key:∀y∈b,y∈a:=fun y hy=>Decidable.byContradiction fun hn=>by
  have:=pY ha (l':=b.erase y) (fun x hx=>(List.mem_erase_of_ne (fun e=>hn (by rw[← e];exact hx))).2 (hs x hx))
  rw[List.length_erase_of_mem hy]at this
  have:=List.length_pos_of_mem hy
  omega
 exact(List.perm_ext_iff_of_nodup ha hb).2 fun x=>⟨hs x,key x⟩
theorem MI(m:aT)(b:Bel):MH m b=qi m b:=by
 obtain⟨ws⟩:=b
 rw[Bool.eq_iff_iff]
 constructor
 · intro h
   simp only[MH,Bool.and_eq_true,decide_eq_true_eq,List.all_eq_true,List.mem_range,pwB,Bool.or_eq_true,Bool.not_eq_true',List.any_eq_false,Bool.not_eq_false']at h
   obtain⟨⟨h1,h2⟩,h⟩:=h
   have h0:=h 0 (by omega)
   simp only[qi,Bool.and_eq_true,decide_eq_true_eq,List.all_eq_true,List.mem_range,oD,Bool.or_eq_true,HY]
   refine⟨⟨⟨h1,h2⟩,h0.1.1.1.1.1⟩,fun i hi=>?_⟩
   obtain⟨⟨⟨⟨⟨a1,a2⟩,a3⟩,a4⟩,a5⟩,a6⟩:=h i hi
   have pm:=wD.1 a4
   refine⟨⟨⟨⟨pm.length_eq,by rw[a2,pm.length_eq]⟩,a3⟩,a5⟩,fun k hk=>⟨?_,?_⟩⟩
   · exact kQ.2 (pm.mem_iff.1 (ae hk))
   · simpa using a6 _ (ae (l:=(nth ws i).whr) (j:=k) (by omega))
 · intro h
   obtain⟨h1,h2,h3,h4,h5⟩:=fI h
   simp only at h1 h2 h3 h4 h5
   have p0:=(gC (h5 0 (by omega))).2.2.1
   simp only[MH,Bool.and_eq_true,decide_eq_true_eq,List.all_eq_true,List.mem_range,pwB,Bool.or_eq_true,Bool.not_eq_true',List.any_eq_false,Bool.not_eq_false']
   refine⟨⟨h1,h2⟩,fun i hi=>?_⟩
   obtain⟨w1,w2,w3,w4⟩:=gC (h5 i hi)
   have ls:=h5 i hi
   simp only[oD,Bool.and_eq_true,Bool.or_eq_true,decide_eq_true_eq]at ls
   refine⟨⟨⟨⟨⟨by omega,by omega⟩,w3⟩,?_⟩,ls.1.2⟩,fun x hx=>?_⟩
   · refine wD.2 (sj (iM w3) (iM p0) w1 fun x hx=>?_)
     obtain⟨j,hj⟩:=List.mem_iff_getElem?.1 hx
     have:=(w4 j (List.getElem?_eq_some_iff.1 hj).1).1
     rwa [bA hj]at this
   · obtain⟨j,hj⟩:=List.mem_iff_getElem?.1 hx
     have:=(w4 j (by rw[w1,←w2];exact(List.getElem?_eq_some_iff.1 hj).1)).2
     rw[bA hj]at this
     simpa using this
theorem En{m:aT}(h:m.ok)(x:Wh)(hx:x.frm.length≤1000000):aO 0 N.cU [.t x.e,.bp 0 0] [.box (af m)]=some (B (!cH m x),[.box (af m)]):=by
 refine ay K.mR rfl ?_
 have v:=JD h x hx
 obtain⟨places,roads⟩:=m
 obtain⟨time,frm⟩:=x
 simp only at*
 simp (disch:=omega) only[go_sem,K.cU,↓reduceIte,v,Nat.reduceAdd,Nat.reduceSub]
abbrev swS(m:aT)(ws:List World)(first:List Int)(i:Nat):St:=
 ⟨[.und,.und,.bp 0 0,.bp 1 0,.und,.t (tL (iH first)),.und,.und,.t (.sl (ws.map World.e)),I ws.length,I i],[.box (af m),.box [.t (.sl (ws.map World.e))],.box [.t (tL first)]]⟩
theorem J9{m:aT}(h:m.ok)(ws:List World)(first:List Int)(hf:first.length≤1000000)(hs:∀x∈ws,x.sz)(i:Nat)(hi:i<ws.length)(hl:ws.length≤1000000):
 (pwB m ws first i=true→eO true [0,1,4,6,7] 3 (exS aO K.bI (swS m ws first i))=some (swS m ws first (i+1)))∧
 (pwB m ws first i=false→∃q,exS aO K.bI (swS m ws first i)=some q∧q.1= .ret∧q.2.vs[4]?=some (B false)):=by
 simp only[swS]
 have sz:=hs _ (ae hi)
 have ex:(ws.map World.e)[i]?=some (nth ws i).e:=cZ _ hi
 unfold pwB
 have ey:0<i→(ws.map World.e)[i-1]?=some (nth ws (i-1)).e∧(nth ws (i-1)).tags.length≤1000000:=fun h0=>⟨cZ _ (by omega),(hs _ (ae (by omega))).1⟩
 generalize nth ws (i-1)=y at*
 generalize nth ws i=x at*
 obtain⟨tags,whr⟩:=x
 obtain⟨ptags,pwhr⟩:=y
 obtain⟨s1,s2,s3⟩:=sz
 simp only at s1 s2 s3 ey ⊢
 have li:=L3 tags.length 1 12
 have tg:=J8 tags s1
 have va:=yq tags
 have so:=yr tags s1
 have eq:=xg (iH tags) (iH first) (by rw[lg];omega) (by rw[lg];omega)
 have cf:=qd whr (by omega) N.cU [[.sl (m.places.map Place.e),.sl (m.roads.map Road.e)]] (fun x=> !cH m x) (fun x hx=>En h x (s3 x hx))
 have cf:aO 0 N.aa [.t (.sl (whr.map Wh.e)),.fn N.cU [.bp 0 0]] [.box (af m)]=some (B (whr.any fun x=> !cH m x),[.box (af m)]):=cf
 have cp:0<i→aO 0 N.aP [.t (tL ptags),.t (tL tags)] []=some (I (Mz ptags tags),[]):=fun h0=>zP ptags tags (ey h0).2 s1
 have cl:=CO ptags tags
 generalize iH tags=st at*
 generalize iH first=sf at*
 generalize (whr.any fun x=> !cH m x)=an at*
 generalize ew tags=pr at*
 generalize qQ ptags tags=le at*
 generalize Mz ptags tags=cc at*
 clear hs s3
 by_cases c1:1≤tags.length∧tags.length≤12
 · have li:aO 0 N.eI [I tags.length,I 1,I 12] []=some (B true,[]):=by rw[li,decide_eq_true (by omega)]
   by_cases c2:whr.length=tags.length
   · cases pr with
     | false=>
       refine⟨fun h=>by simp at h,fun _=>?_⟩
       simp (disch:=omega) only[go_sem,K.bI,↓reduceIte,li,tg,ex,c2,Nat.reduceAdd,Nat.reduceSub]
       refine⟨_,rfl,?_,?_⟩<;>rfl
     | true=>
       by_cases c4:st=sf
       · subst c4
         simp only[decide_true]at eq
         cases i with
         | zero=>
           cases an with
           | true=>
             refine⟨fun h=>by simp at h,fun _=>?_⟩
             simp (disch:=omega) only[go_sem,K.bI,↓reduceIte,li,tg,ex,c2,va,so,eq,cf,Nat.reduceAdd,Nat.reduceSub]
             refine⟨_,rfl,?_,?_⟩<;>rfl
           | false=>
             refine⟨fun _=>?_,fun h=>by simp[c1,c2]at h⟩
             simp (disch:=omega) only[go_sem,K.bI,↓reduceIte,li,tg,ex,c2,va,so,eq,cf,Nat.reduceAdd,Nat.reduceSub]
         | succ i=>
           obtain⟨ey, -⟩:=ey (by omega)
           have cp:=cp (by omega)
           simp only[Nat.add_sub_cancel]at ey
           cases le with
           | false=>
             have cl:¬cc<0:=by simpa using cl
             refine⟨fun h=>by simp at h,fun _=>?_⟩
             simp (disch:=omega) only[go_sem,K.bI,↓reduceIte,li,tg,ex,c2,va,so,eq,ey,cp,Nat.reduceAdd,Nat.reduceSub]
             refine⟨_,rfl,?_,?_⟩<;>rfl
           | true=>
             have cl:cc<0:=by simpa using cl
             cases an with
             | true=>
               refine⟨fun h=>by simp at h,fun _=>?_⟩
               simp (disch:=omega) only[go_sem,K.bI,↓reduceIte,li,tg,ex,c2,va,so,eq,ey,cp,cf,Nat.reduceAdd,Nat.reduceSub]
               refine⟨_,rfl,?_,?_⟩<;>rfl
             | false=>
               refine⟨fun _=>?_,fun h=>by simp[c1,c2]at h⟩
               simp (disch:=omega) only[go_sem,K.bI,↓reduceIte,li,tg,ex,c2,va,so,eq,ey,cp,cf,Nat.reduceAdd,Nat.reduceSub]
       · simp only[c4,decide_false]at eq
         refine⟨fun h=>by simp[c4]at h,fun _=>?_⟩
         simp (disch:=omega) only[go_sem,K.bI,↓reduceIte,li,tg,ex,c2,va,so,eq,Nat.reduceAdd,Nat.reduceSub]
         refine⟨_,rfl,?_,?_⟩<;>rfl
   · refine⟨fun h=>by simp[c2]at h,fun _=>?_⟩
     simp (disch:=omega) only[go_sem,K.bI,↓reduceIte,li,ex,c2,Nat.reduceAdd,Nat.reduceSub]
     refine⟨_,rfl,?_,?_⟩<;>rfl
 · have li:aO 0 N.eI [I tags.length,I 1,I 12] []=some (B false,[]):=by rw[li,decide_eq_false (by omega)]
   refine⟨fun h=>by simp[c1]at h,fun _=>?_⟩
   simp (disch:=omega) only[go_sem,K.bI,↓reduceIte,li,ex,Nat.reduceAdd,Nat.reduceSub]
   refine⟨_,rfl,?_,?_⟩<;>rfl
end Go.Ev
namespace Go.Ev
open Go
variable [Lib] [cm] [bS] [jV] [iu]
theorem Ka{l:List Int}{n:Int}(h:oP l n=true):∀x∈l,0≤x∧x<n:=by
 intro x hx
 simp only[oP,List.all_eq_true,List.mem_range,decide_eq_true_eq]at h
 obtain⟨j,hj⟩:=List.mem_iff_getElem?.1 hx
 have:=h j (List.getElem?_eq_some_iff.1 hj).1
 rw[bA hj]at this
 exact⟨this.1,this.2.1⟩
theorem RT{w:Wh}{l:List Int}{b:Int}{n:Nat}(hl:∀p∈l,0≤p∧p<n)(hw:∀x∈w.frm,plT x)(hn:w.frm.length=n):∀x∈(yS w l b n l.length).1,plT x:=by
 intro x hx
 obtain⟨j,hj⟩:=List.mem_iff_getElem?.1 hx
 have jl:=(List.getElem?_eq_some_iff.1 hj).1
 rw[pK]at jl
 have e:=FF (w:=w) (b:=b) hl _ (Nat.le_refl _) j jl
 rw[bA hj]at e
 rw[e]
 split
 · exact hw _ (ae (by omega))
 · exact .inl rfl
theorem Kb{m:aT}(h:m.ok){w:Wh}(hv:cH m w=true)(l:List Int)(a b:Int):
 (yW m w l a b=(⟨b,cB m a none (yS w l b m.places.length l.length).1⟩,0)∧j9 m w l a b=0∧w.time≤a∧(yS w l b m.places.length l.length).2=true∧cH m (yW m w l a b).1=true)∨((yW m w l a b).1=w∧(yW m w l a b).2≠0):=by
 by_cases c0:j9 m w l a b=0
 · obtain⟨-,h0,hs,ia,ib,hab⟩:=mb c0
   by_cases c1:a<w.time
   · right;unfold yW;rw[if_neg (by simpa using c0),if_pos c1];exact⟨rfl,by simp⟩
   · cases c2:(yS w l b m.places.length l.length).2 with
     | false=>right;unfold yW;rw[if_neg (by simpa using c0),if_neg c1,if_neg (by simp[c2])];exact⟨rfl,by simp⟩
     | true=>
       left
       have e:yW m w l a b=(⟨b,cB m a none (yS w l b m.places.length l.length).1⟩,0):=by
        unfold yW;rw[if_neg (by simpa using c0),if_neg c1,if_pos c2]
       obtain⟨v1,v2,v3, -⟩:=bF hv
       refine⟨e,c0,by omega,rfl,?_⟩
       rw[e]
       exact pL h (pK ..) (RT (Ka hs) v3 v1) ia.1 hab ib
 · right;unfold yW;rw[if_pos c0];exact⟨rfl,c0⟩
theorem Kc{m:aT}(h:m.ok){w:Wh}(hv:cH m w=true)(l:List Int)(a b:Int):cH m (yW m w l a b).1=true:=by
 rcases Kb h hv l a b with⟨-, -, -, -,v⟩ | ⟨e, -⟩
 · exact v
 · rw[e];exact hv
end Go.Ev
namespace Go.Ev
open Go
variable [Lib] [cm] [bS] [iv] [ir] [gE] [gF] [jV] [iu]
theorem MJ(a b:Wh)(ha:a.frm.length≤1000000):aO 0 N.eZ [.t a.e,.t b.e] []=some (.tup [.t (gW a b).1.e,I (gW a b).2],[]):=by
 refine ay K.pN rfl ?_
 obtain⟨t1,l1⟩:=a
 obtain⟨t2,l2⟩:=b
 simp only[gW]at*
 by_cases c:l1.length=l2.length
 · rw[if_pos c]
   have ml:=kT l1 l2
   have lp:∀z0 z1 z2 z5 z7 z8:D,exS aO K.r8 ⟨[z0,z1,z2,.bp 1 0,.bp 2 0,z5,.bp 3 0,z7,z8,.t (tL l1),I l1.length,I 0],[.box [I t1,.t (tL l1)],.box [I t2,.t (tL l2)],.box [I 0,.nil],.box [I (max t1 t2),.ref 5 0 0],.arr 1 false 0 [],.arr 1 false 0 []]⟩=
    some (.exit 0,⟨[.und,.und,.und,.bp 1 0,.bp 2 0,.und,.bp 3 0,.und,.und,.t (tL l1),I l1.length,I l1.length],[.box [I t1,.t (tL l1)],.box [I t2,.t (tL l2)],.box [I 0,.nil],.box [I (max t1 t2),.ref 5 0 (zH l1 l2 l1.length).length],.arr 1 false 0 [],.arr 1 false 0 (((zH l1 l2 l1.length).map (T.int .i64)).map .t)]⟩):=by
    intro z0 z1 z2 z5 z7 z8
    refine cE (fun j=>⟨[.und,.und,.und,.bp 1 0,.bp 2 0,.und,.bp 3 0,.und,.und,.t (tL l1),I l1.length,I j],[.box [I t1,.t (tL l1)],.box [I t2,.t (tL l2)],.box [I 0,.nil],.box [I (max t1 t2),.ref 5 0 (zH l1 l2 j).length],.arr 1 false 0 [],.arr 1 false 0 (((zH l1 l2 j).map (T.int .i64)).map .t)]⟩) l1.length rfl ?_ ?_ (by simp)
    · intro j hj
      have lj:=ml j
      simp only[zH]
      generalize zH l1 l2 j=r at*
      simp (disch:=omega) only[go_sem,K.mK,↓reduceIte,Nat.reduceAdd,Nat.reduceSub]
    · simp (disch:=omega) only[go_sem,K.mK,↓reduceIte,Nat.reduceAdd,Nat.reduceSub]
   generalize zH l1 l2 l1.length=r at*
   have c2:=c.symm
   simp (disch:=omega) only[go_sem,K.eZ,↓reduceIte,c2,lp,Nat.reduceAdd,Nat.reduceSub]
 · rw[if_neg c]
   simp (disch:=omega) only[go_sem,K.eZ,↓reduceIte,c,Nat.reduceAdd,Nat.reduceSub]
   rfl
end Go.Ev
namespace Go.Ev
open Go
variable [Lib] [cm] [bS]
section
variable {m : aT} (hm : m.ok) {N : Nat} {b : Bel} (hb : BOk m N b) {s : Wh} (hs : s.frm.length = m.places.length) {l : List Mch}
variable (hl : ∀ y ∈ l, y.pl.length ≤ m.places.length ∧ 1 ≤ y.pl.length ∧ ∀ x ∈ y.pl, 0 ≤ x ∧ x < m.places.length) {t a : Int} (t0 : 0 ≤ t) (t1 : t ≤ 10000) (a0 : 0 ≤ a) (a1 : a ≤ 10000) (d : aB)
include hm hb hs hl t0 t1 a0 a1
omit hm hb t0 t1 a1 in
end
def aB.skip(d:aB)(n:Int):Nat→aB
 | 0=>d
 | k+1=>((d.skip n k).next n).2
end Go.Ev
namespace Go.Ev
open Go
variable [Lib] [cm] [bS] [lr]
theorem Hk(s:Wh)(t:Int)(k:Nat)(hk:k<s.frm.length):aO 0 N.bG [I k,.bp 0 0,.bp 1 0] [.box [I s.time,.t (tL s.frm)],.box [I t]]=some (B (decide (nth s.frm k≤t)),[.box [I s.time,.t (tL s.frm)],.box [I t]]):=by
 refine ay K.jz rfl ?_
 simp (disch:=omega) only[go_sem,K.bG,↓reduceIte,Nat.reduceAdd,Nat.reduceSub]
theorem Kd(s:Wh)(t:Int)(hl:s.frm.length≤1000000):aO 0 N.cM [.t s.e,I t] []=some (.t (tL (jQ s t)),[]):=by
 refine ay K.kO rfl ?_
 have wh:=L1 s.frm.length hl N.bG [[tI s.time,tL s.frm],[tI t]] (fun k=>decide (nth s.frm k≤t)) (fun k hk=>Hk s t k hk)
 have wh:aO 0 N.dI [I s.frm.length,.fn N.bG [.bp 0 0,.bp 1 0]] [.box [I s.time,.t (tL s.frm)],.box [I t]]=some (.t (tL (jQ s t)),[.box [I s.time,.t (tL s.frm)],.box [I t]]):=wh
 obtain⟨time,frm⟩:=s
 simp only at hl wh
 generalize jQ ⟨time,frm⟩ t=r at*
 simp (disch:=omega) only[go_sem,K.cM,↓reduceIte,wh,Nat.reduceAdd,Nat.reduceSub]
end Go.Ev
namespace Go.Ev
open Go
variable [Lib] [cm] [bS] [iv] [ir] [lr] [gE] [gF] [jV] [iu]
theorem AX(a b:List Int):∀n j,j<n→nth (zH a b n) j=min (nth a j) (nth b j)
 | 0,j,h=>by omega
 | n+1,j,h=>by
   have ln:=kT a b n
   by_cases e:j=n
   · subst e
     exact bA (by simp only[zH];rw[List.getElem?_append_right (by omega),ln];simp)
   · have ih:=AX a b n j (by omega)
     rw[← ih]
     have:(zH a b n)[j]?=some (nth (zH a b n) j):=jv (by omega)
     exact bA (by simp only[zH];rw[List.getElem?_append_left (by omega)];exact this)
theorem Hl{m:aT}(h:m.ok){a b:Wh}(ha:cH m a=true)(hb:cH m b=true):(gW a b).2=0∧cH m (gW a b).1=true∧(gW a b).1.frm.length=m.places.length∧∀j,j<m.places.length→nth (gW a b).1.frm j=min (nth a.frm j) (nth b.frm j):=by
 obtain⟨a1,a2,a3, -⟩:=bF ha
 obtain⟨b1,b2,b3, -⟩:=bF hb
 have ca:=uk h ha
 have cb:=uk h hb
 have e:gW a b=(⟨max a.time b.time,zH a.frm b.frm a.frm.length⟩,0):=by unfold gW;rw[if_pos (by omega)]
 rw[e]
 have mn:=fun j (hj:j<m.places.length)=>AX a.frm b.frm a.frm.length j (by omega)
 refine⟨rfl,ye h (by simp only[kT];exact a1) (by unfold inT at *;simp only;omega) (fun x hx=>?_) ?_,by simp only[kT];exact a1,mn⟩
 · obtain⟨j,hj⟩:=List.mem_iff_getElem?.1 hx
   have jl:=(List.getElem?_eq_some_iff.1 hj).1
   simp only[kT]at jl
   have:=mn j (by omega)
   rw[bA hj]at this
   have x1:=a3 _ (ae (l:=a.frm) (j:=j) jl)
   have x2:=b3 _ (ae (l:=b.frm) (j:=j) (by omega))
   unfold plT inT at*
   omega
 · intro k hk back hi h1 h2 h3
   have r1:=Road.vG (h.rs _ (ae hk)) back
   have r2:=Road.zD (h.rs _ (ae hk)) back
   simp only at h2 h3 ⊢
   rw[mn _ (by omega)]at h2 h3 ⊢
   rw[mn _ (by omega)]
   have y1:=ca k hk back rfl h1
   have y2:=cb k hk back rfl h1
   omega
theorem Ke{m:aT}(h:m.ok){w:Wh}(hv:cH m w=true)(l:List Int)(a b bl:Int):
 (zG m w l a b bl=(⟨b,cB m b none (cB m (b-bl) (some l) (D1 w.frm l l.length))⟩,0)∧j9 m w l a b=0∧w.time≤b∧max a w.time<b-bl∧inT bl∧
  (cB m (b-bl) (some l) (D1 w.frm l l.length)).length=m.places.length∧(∀x∈cB m (b-bl) (some l) (D1 w.frm l l.length),plT x))∨
 ((zG m w l a b bl).1=w∧((zG m w l a b bl).2=0→w.time≤b∧j9 m w l a b=0)):=by
 by_cases c0:j9 m w l a b=0
 · obtain⟨-,h0,hs,ia,ib,hab⟩:=mb c0
   by_cases c1:inT bl
   · by_cases c2:b<w.time
     · right;unfold zG;rw[if_neg (by simpa using c0),if_neg (fun x=>x c1),if_pos c2];exact⟨rfl,by simp⟩
     · by_cases c3:b-max a w.time≤bl
       · right;unfold zG;rw[if_neg (by simpa using c0),if_neg (fun x=>x c1),if_neg c2,if_pos c3];exact⟨rfl,fun _=>⟨by omega,c0⟩⟩
       · left
         obtain⟨v1,v2,v3, -⟩:=bF hv
         have pl:∀x∈D1 w.frm l l.length,plT x:=by
          have key:∀k,∀x∈D1 w.frm l k,plT x:=by
           intro k
           induction k with
           | zero=>exact v3
           | succ k ih=>
             intro x hx
             rcases List.mem_or_eq_of_mem_set hx with hx | hx
             · exact ih x hx
             · exact .inl hx
          exact key _
         have bn:bnd (D1 w.frm l l.length):=fun x hx=>j8 (pl x hx)
         unfold inT at ia c1 v2 ib
         refine⟨?_,c0,by omega,by omega,c1,(ui h (by rw[uh];exact v1) bn).1,zJ h plT (by rw[uh];exact v1) bn pl (fun x h1 h2=> .inr ⟨by omega,h2⟩)⟩
         unfold zG;rw[if_neg (by simpa using c0),if_neg (fun x=>x (by unfold inT;omega)),if_neg c2,if_neg c3]
   · right;unfold zG;rw[if_neg (by simpa using c0),if_pos c1];exact⟨rfl,by simp⟩
 · right;unfold zG;rw[if_pos c0];exact⟨rfl,fun h=>absurd h c0⟩
theorem Kf{m:aT}(h:m.ok){w:Wh}(hv:cH m w=true)(l:List Int)(a b bl:Int):cH m (zG m w l a b bl).1=true:=by
 rcases Ke h hv l a b bl with⟨e,c0, -,hm,hbl,ln,pl⟩ | ⟨e, -⟩
 · obtain⟨-, -,hs,ia,ib,hab⟩:=mb c0
   rw[e]
   exact pL h ln pl (by unfold inT at ib;omega) (Int.le_refl _) ib
 · rw[e];exact hv
end Go.Ev
namespace Go.Ev
open Go
variable [Lib] [cm] [bS] [iv] [ir] [lr] [gE] [gF] [jV] [iu] [gA] [fw]
def lexB:List Int→List Int→Bool
 | _,[]=>false
 | [],_::_=>true
 | a::r,b::s=>decide (a<b)||(decide (a=b)&&lexB r s)
theorem uB(a:Int)(l:List Int)(j:Nat):nth (a::l) (j+1)=nth l j:=by simp[nth]
theorem uC(a:Int)(l:List Int):nth (a::l) 0=a:=by simp[nth]
theorem nB:∀a b:List Int,qQ a b=lexB a b
 | a,[]=>by
   unfold qQ lexB
   simp
 | [],b::s=>by
   unfold qQ lexB
   simp
 | a::r,b::s=>by
   have ih:=nB r s
   unfold qQ at ih ⊢
   have e:min (a::r).length (b::s).length=min r.length s.length+1:=by simp only[List.length_cons];omega
   rw[e,List.range_succ_eq_map,List.find?_cons]
   simp only[uC]
   by_cases h:a=b
   · subst h
     simp only[ne_eq,not_true_eq_false,decide_false,Bool.false_eq_true,List.find?_map,lexB,decide_true,Bool.true_and,Int.lt_irrefl,Bool.false_or]
     rw[← ih]
     have:((fun j=>decide (¬nth (a::r) j=nth (a::s) j)) ∘ Nat.succ)=fun j=>decide (nth r j≠nth s j):=by
      funext j
      simp only[Function.comp,Nat.succ_eq_add_one,uB,ne_eq]
     rw[this]
     cases (List.range (min r.length s.length)).find? (fun j=>decide (nth r j≠nth s j))with
     | some j=>simp only[Option.map_some,Nat.succ_eq_add_one,uB]
     | none=>simp only[Option.map_none,List.length_cons,Nat.add_lt_add_iff_right]
   · simp only[ne_eq,h,not_false_eq_true,decide_true,lexB,decide_false,Bool.false_and,Bool.or_false,uC]
theorem lex_trans:∀ {a b c:List Int},lexB a b=true→lexB b c=true→lexB a c=true
 | _,_,[],_,h=>by simp[lexB]at h
 | [],_,_::_,_,_=>rfl
 | _::_,[],_,h,_=>by simp[lexB]at h
 | a::r,b::s,c::t,h1,h2=>by
   simp only[lexB,Bool.or_eq_true,Bool.and_eq_true,decide_eq_true_eq]at h1 h2 ⊢
   rcases h1 with h1 | ⟨h1,k1⟩
   · rcases h2 with h2 | ⟨h2,k2⟩
     · left;omega
     · left;omega
   · rcases h2 with h2 | ⟨h2,k2⟩
     · left;omega
     · right;exact⟨by omega,lex_trans k1 k2⟩
theorem lex_irrefl:∀a:List Int,lexB a a=false
 | []=>rfl
 | a::r=>by simp[lexB,lex_irrefl r]
theorem mW:∀a b:List Int,lexB a b=true∨a=b∨lexB b a=true
 | [],[]=> .inr (.inl rfl)
 | [],_::_=> .inl rfl
 | _::_,[]=> .inr (.inr rfl)
 | a::r,b::s=>by
   simp only[lexB,Bool.or_eq_true,Bool.and_eq_true,decide_eq_true_eq,List.cons.injEq]
   rcases mW r s with h | h | h
   · by_cases c:a<b
     · exact .inl (.inl c)
     · by_cases c2:a=b
       · exact .inl (.inr ⟨c2,h⟩)
       · exact .inr (.inr (.inl (by omega)))
   · by_cases c:a<b
     · exact .inl (.inl c)
     · by_cases c2:a=b
       · exact .inr (.inl ⟨c2,h⟩)
       · exact .inr (.inr (.inl (by omega)))
   · by_cases c:a<b
     · exact .inl (.inl c)
     · by_cases c2:a=b
       · exact .inr (.inr (.inr ⟨c2.symm,h⟩))
       · exact .inr (.inr (.inl (by omega)))
structure WV(m:aT)(first:List Int)(x:World):Prop where
 pm:x.tags.Perm first
 wl:x.whr.length=first.length
 wv:∀w∈x.whr,cH m w=true
structure BV(m:aT)(first:List Int)(ws:List World):Prop where
 pr:ew first=true
 f1:1≤first.length
 f2:first.length≤12
 wv:∀x∈ws,WV m first x
 up:ws.Pairwise fun x y=>lexB x.tags y.tags=true
theorem Eo{a b:List Int}(h:a.Perm b)(hb:ew b=true):ew a=true:=by
 rw[yB]at hb ⊢
 exact⟨h.nodup_iff.2 hb.1,fun x hx=>hb.2 x (h.mem_iff.1 hx)⟩
theorem BV.bel{m:aT}{first:List Int}{ws:List World}(h:BV m first ws)(h1:1≤ws.length)(h2:ws.length≤24):qi m ⟨ws⟩=true:=by
 have w0:=h.wv _ (ae (l:=ws) (j:=0) (by omega))
 have l0:=w0.pm.length_eq
 simp only[qi,Bool.and_eq_true,decide_eq_true_eq,List.all_eq_true,List.mem_range,oD,Bool.or_eq_true,HY]
 have f1:=h.f1
 have f2:=h.f2
 refine⟨⟨⟨h1,h2⟩,by omega⟩,fun i hi=>?_⟩
 have wi:=h.wv _ (ae (l:=ws) (j:=i) hi)
 have li:=wi.pm.length_eq
 have wl:=wi.wl
 refine⟨⟨⟨by omega,Eo wi.pm h.pr⟩,?_⟩,fun k hk=>⟨?_,?_⟩⟩
 · by_cases c:i=0
   · exact .inl c
   · right
     rw[nB]
     have:=(List.pairwise_iff_getElem.1 h.up) (i-1) i (by omega) hi (by omega)
     rwa [← bA (List.getElem?_eq_getElem (by omega:i-1<ws.length)),←bA (List.getElem?_eq_getElem hi)]at this
 · exact kQ.2 (w0.pm.symm.mem_iff.1 (wi.pm.mem_iff.1 (ae hk)))
 · exact wi.wv _ (ae (by omega))
theorem wE{m:aT}{ws:List World}(h:qi m ⟨ws⟩=true):BV m (nth ws 0).tags ws:=by
 obtain⟨h1,h2,h3,h4,h5⟩:=fI h
 simp only at h1 h2 h3 h4 h5
 have p0:=(gC (h5 0 (by omega))).2.2.1
 refine⟨p0,h3,h4,fun x hx=>?_,?_⟩
 · obtain⟨i,hi⟩:=List.mem_iff_getElem?.1 hx
   have il:=(List.getElem?_eq_some_iff.1 hi).1
   obtain⟨w1,w2,w3,w4⟩:=gC (h5 i il)
   rw[bA hi]at w1 w2 w3 w4
   refine⟨sj (iM w3) (iM p0) w1 fun y hy=>?_,w2,fun w hw=>?_⟩
   · obtain⟨j,hj⟩:=List.mem_iff_getElem?.1 hy
     have:=(w4 j (List.getElem?_eq_some_iff.1 hj).1).1
     rwa [bA hj]at this
   · obtain⟨j,hj⟩:=List.mem_iff_getElem?.1 hw
     have:=(w4 j (by rw[w1,←w2];exact(List.getElem?_eq_some_iff.1 hj).1)).2
     rwa [bA hj]at this
 · have key:∀d i,i+d+1<ws.length→lexB (nth ws i).tags (nth ws (i+d+1)).tags=true:=by
    intro d
    induction d with
    | zero=>
      intro i hi
      have:=h5 (i+1) hi
      simp only[oD,Bool.and_eq_true,Bool.or_eq_true,decide_eq_true_eq]at this
      have:=this.1.2
      rw[← nB]
      simpa using this
    | succ d ih=>
      intro i hi
      have a:=ih i (by omega)
      have:=h5 (i+(d+1)+1) hi
      simp only[oD,Bool.and_eq_true,Bool.or_eq_true,decide_eq_true_eq]at this
      have b:=this.1.2.resolve_left (by omega)
      rw[nB,show i+(d+1)+1-1=i+d+1 by omega]at b
      exact lex_trans a b
   rw[List.pairwise_iff_getElem]
   intro i j hi hj hij
   have:=key (j-i-1) i (by omega)
   rw[show i+(j-i-1)+1=j by omega,bA (List.getElem?_eq_getElem hi),bA (List.getElem?_eq_getElem hj)]at this
   exact this
end Go.Ev
namespace Go.Ev.K
open Go.Ev
end Go.Ev.K
namespace Go.Ev
class oK [Lib]:Prop where
namespace K
variable [Lib] [oK]
end K
end Go.Ev
namespace Go.Ev.K
open Go.Ev
def yC:C:=(.its [u (.bin .lss v7 v6)] [] 0 .skip (.exit 0) (.seq (.blk 1 (.seq (.reg [a 2 v5 v7,h 2 l0,w 4 (.al [.t (.int .i64 (0)),.nil] []),u (.st l0 l1 2 [])] []) (.reg [f 1 v3,g l0,f 0 v4,g l0,f 1 v4,g l0,u (.ca N.aU 0 [] [.l 0]),u (.bd [.t (.int .i64 (0)),.nil] [(0,1,.l 3),(1,1,.l 0)]),u (.bs [.l 0] 2),u (.app l7 l0 true 2),f 1 v3,u (.st l0 l1 1 [])] [(1,7),(1,9),(3,7)]))) (.reg [u (.bin .add v7 (.i 1)),w 7 (.mv l0)] [])))
def y0:C:= .loop true [0,1,4] K.yC
def jy:Fn:={ nargs:=1,vars:=[0,1,2,3,5,11,12,13],body:=(.seq (.reg [w 1 (.bx v0 2),w 2 (.al [.nil,.nil] [])] []) (.seq (.reg [f 0 v1,g l0,u (.ca N.aU 0 [] [.l 0]),u (.bd [.nil,.nil] [(0,1,.l 0)]),w 3 (.al [.nil,.nil] [(1,2)]),u (.st l0 l1 2 [(1,2)])] []) (.seq (.seq (.reg [f 1 v1,w 5 (.ld l0 1 false),w 6 (.ln l0),w 7 (.mv (.i 0))] []) (.blk 0 K.y0)) (.seq (.reg [h 2 v3,u (.st v2 l0 2 [])] []) .ret)))),res:=[(2,some (2,true))]}
def mX:C:=(.its [u (.bin .lss v11 v10)] [] 0 .skip (.exit 2) (.seq (.blk 3 (.seq (.reg [m v11,w 6 (.mv l0)] []) (.reg [m v3,m v5,u (.bin .sub l0 (.i 1)),a 2 l2 l0,f 1 l0,g l0,m v6,m v3,m v5,u (.bin .sub l0 (.i 1)),a 2 l2 l0,f 1 l0,g l0,m v6,a 2 l1 l0,h 2 l0,f 1 v4,g l0,m v6,a 2 l1 l0,h 2 l0,u (.ca N.eZ 0 [] [.l 5,.l 0]),m l0,u (.ex l0 0),u (.ex l1 1),a 2 (.l 19) (.l 18),u (.st l0 l2 2 [])] [(3,22),(5,22)]))) (.reg [u (.bin .add v11 (.i 1)),w 11 (.mv l0)] [])))
def sk:C:= .loop false [0,1,2,6] K.mX
def gn:C:=(.its [u (.bin .lss v9 v8)] [] 0 .skip (.exit 0) (.seq (.blk 1 (.seq (.reg [a 2 v7 v9,h 2 l0,w 4 (.al [.nil,.nil] []),u (.st l0 l1 2 [])] []) (.seq (.seq (.reg [m v3,u (.ln l0),w 5 (.mv l0)] []) (.ite [m v5,u (.bin .gtr l0 (.i 0)),m l0,y 0 true (.mv v3),y 1 true (.mv v5),y 2 true (.bin .sub l0 (.i 1)),y 3 true (.ia l2 l0 2),y 4 true (.fa l0 0),y 5 true (.ld l0 1 false),y 6 true (.fa v4 0),y 7 true (.ld l0 1 false),y 8 true (.ca N.aX 0 [] [.l 2,.l 0]),u (.pk l9 l0 (.b false))] [] 0 (.seq (.seq (.reg [f 1 v4,g l0,w 10 (.ln l0),w 11 (.mv (.i 0))] []) (.blk 2 K.sk)) (.exit 1)) .skip)) (.reg [m v3,h 2 v4,u (.ca N.cQ 1 [] [.l 0]),u (.bsr [.l 0] 2),u (.app l3 l0 false 2),w 3 (.mv l0)] [])))) (.reg [u (.bin .add v9 (.i 1)),w 9 (.mv l0)] [])))
def sn:C:= .loop false [0,1,2,4,5,6,10,11] K.gn
def fO:Fn:={ nargs:=1,vars:=[0,2,3,4,6,7,8,12,13,14,35,36],body:=(.seq (.reg [w 1 (.mv (.c (.nil)))] []) (.seq (.reg [m v0,u (.ca N.aI 0 [] [.l 0]),u (.ca N.aH 0 [] [.l 0,.c (.fn N.a8 [])]),w 2 (.mv l0)] []) (.seq (.reg [w 3 (.nw 2)] []) (.seq (.seq (.reg [w 7 (.mv v2),w 8 (.ln l0),w 9 (.mv (.i 0))] []) (.blk 0 K.sn)) (.seq (.reg [m v3,w 1 (.mv l0)] []) .ret))))),res:=[(1,none)]}
def aH:Fn:={ nargs:=2,vars:=[0,1,4,5],body:=(.seq (.reg [w 2 (.mv (.c (.nil)))] []) (.seq (.reg [m v0,u (.ca N.bq 1 [] [.l 0]),w 3 (.mv l0)] []) (.seq (.reg [m v3,m v1,u (.ca N.az 0 [0] [.l 1,.l 0])] []) (.seq (.reg [m v3,w 2 (.mv l0)] []) .ret)))),res:=[(2,none)]}
def aI:Fn:={ nargs:=1,vars:=[0,1,2],body:=(.seq (.reg [w 1 (.bx v0 1),w 2 (.mv (.c (.und)))] []) (.seq (.reg [u (.mf N.ak [.v 1]),w 2 (.mv l0)] []) .ret)),res:=[(2,none)]}
def a8:Fn:={ nargs:=2,vars:=[0,1,2,3,4],body:=(.seq (.reg [w 2 (.bx v0 2),w 3 (.bx v1 2),w 4 (.mv (.i 0))] []) (.seq (.reg [f 0 v2,g l0,f 0 v3,g l0,u (.ca N.aP 0 [] [.l 2,.l 0]),w 4 (.mv l0)] []) .ret)),res:=[(4,none)]}
def bq:Fn:={ nargs:=1,vars:=[2],body:= .fail,res:=[(0,none)],prim:=[3,N.ak]}
def az:Fn:={ nargs:=2,vars:=[0,1],body:=(.reg [m v0,m v0,u (.ln l0),m v1,u (.ca N.aN 0 [0] [.l 3,.l 1,.l 0])] []),res:=[]}
def iE:C:=(.its [u (.bin .lss v5 v4)] [] 0 .skip (.exit 0) (.seq (.blk 1 (.seq (.reg [a 2 v3 v5,h 2 l0,w 2 (.al [.nil,.nil] []),u (.st l0 l1 2 [])] []) (.ite [m v0,h 2 v2,u (.cw l1 0 [] [.l 0]),u (.un .not l0)] [] 0 .ret .skip))) (.reg [u (.bin .add v5 (.i 1)),w 5 (.mv l0)] [])))
def iP:C:= .loop true [1,2] K.iE
def ak:Fn:={ nargs:=2,vars:=[0,1,4,5,6,7],body:=(.seq (.reg [w 3 (.ld v1 1 false),w 4 (.ln l0),w 5 (.mv (.i 0))] []) (.blk 0 K.iP)),res:=[]}
def fm:C:=(.seq (.ite [m v5,m v1,u (.bin .leq l1 l0)] [] 0 .skip (.exit 0)) (.blk 1 (.seq (.reg [m v0,m v4,m v5,m v2,u (.ca N.ax 0 [0] [.l 3,.l 2,.l 1,.l 0])] []) (.seq (.reg [m v5,w 4 (.mv l0)] []) (.reg [m v5,m v3,u (.bin .add l1 l0),w 5 (.mv l0)] [])))))
def fJ:C:= .loop true [6] K.fm
def jR:C:=(.seq (.ite [m v5,m v1,u (.bin .leq l1 l0)] [] 0 .skip (.exit 4)) (.blk 5 (.seq (.reg [m v0,m v4,m v4,m v3,u (.bin .add l1 l0),m v5,m v2,u (.ca N.aD 0 [0] [.l 6,.l 5,.l 2,.l 1,.l 0])] []) (.seq (.reg [m v5,w 4 (.mv l0)] []) (.reg [m v5,m v3,u (.bin .mul (.i 2) l0),u (.bin .add l2 l0),w 5 (.mv l0)] [])))))
def kn:C:= .loop true [6] K.jR
def fo:C:=(.seq (.ite [m v3,m v1,u (.bin .lss l1 l0)] [] 0 .skip (.exit 2)) (.blk 3 (.seq (.reg [m v3,u (.bin .mul (.i 2) l0),w 4 (.mv (.i 0)),w 5 (.mv l1)] []) (.seq (.blk 4 K.kn) (.seq (.seq (.reg [m v4,m v3,u (.bin .add l1 l0),w 6 (.mv l0)] []) (.ite [m v6,m v1,u (.bin .lss l1 l0)] [] 0 (.reg [m v0,m v4,m v6,m v1,m v2,u (.ca N.aD 0 [0] [.l 4,.l 3,.l 2,.l 1,.l 0])] []) .skip)) (.reg [m v3,u (.bin .mul l0 (.i 2)),w 3 (.mv l0)] []))))))
def fK:C:= .loop true [4,5,6] K.fo
def aN:Fn:={ nargs:=3,vars:=[0,1,2,6,7,8,9],body:=(.seq (.reg [w 3 (.mv (.i 20))] []) (.seq (.reg [m v3,w 4 (.mv (.i 0)),w 5 (.mv l1)] []) (.seq (.blk 0 K.fJ) (.seq (.reg [m v0,m v4,m v1,m v2,u (.ca N.ax 0 [0] [.l 3,.l 2,.l 1,.l 0])] []) (.blk 2 K.fK))))),res:=[]}
def aL:C:=(.seq (.ite [m v5,m v1,u (.bin .gtr l1 l0),m l0,y 0 true (.mv v3),y 1 true (.mv v0),y 2 true (.mv v5),y 3 true (.ia l1 l0 2),y 4 true (.ld l0 2 true),y 5 true (.mv v0),y 6 true (.mv v5),y 7 true (.bin .sub l0 (.i 1)),y 8 true (.ia l2 l0 2),y 9 true (.ld l0 2 true),y 10 true (.cw l9 0 [] [.l 5,.l 0]),y 11 true (.bin .lss l0 (.i 0)),u (.pk (.l 12) l0 (.b false))] [] 0 .skip (.exit 2)) (.seq (.blk 3 (.reg [m v0,m v5,m v0,m v5,u (.bin .sub l0 (.i 1)),m v0,m v5,u (.bin .sub l0 (.i 1)),a 2 l2 l0,h 2 l0,m v0,m v5,a 2 l1 l0,h 2 l0,a 2 (.l 13) (.l 12),u (.st l0 l5 2 []),a 2 (.l 13) l11,u (.st l0 l3 2 [])] [])) (.reg [m v5,u (.bin .sub l0 (.i 1)),w 5 (.mv l0)] [])))
def dP:C:= .loop true [] K.aL
def aW:C:=(.seq (.ite [m v4,m v2,u (.bin .lss l1 l0)] [] 0 .skip (.exit 0)) (.seq (.blk 1 (.seq (.reg [m v4,w 5 (.mv l0)] []) (.blk 2 K.dP))) (.reg [m v4,u (.bin .add l0 (.i 1)),w 4 (.mv l0)] [])))
def b8:C:= .loop true [5] K.aW
def ax:Fn:={ nargs:=4,vars:=[0,1,2,3,8,9],body:=(.seq (.reg [m v1,u (.bin .add l0 (.i 1)),w 4 (.mv l0)] []) (.blk 0 K.b8)),res:=[]}
def jg:C:=(.seq (.ite [m v5,m v6,u (.bin .lss l1 l0)] [] 0 .skip (.exit 0)) (.blk 1 (.seq (.reg [m v5,m v6,u (.bin .add l1 l0),u (.cv .u64 l0),u (.bin .shr l0 (.c (.t (.int .u64 (1))))),u (.cv .i64 l0),w 7 (.mv l0)] []) (.ite [m v4,m v0,m v7,a 2 l1 l0,h 2 l0,m v0,m v1,a 2 l1 l0,h 2 l0,u (.cw l8 0 [] [.l 4,.l 0]),u (.bin .lss l0 (.i 0))] [] 0 (.reg [m v7,u (.bin .add l0 (.i 1)),w 5 (.mv l0)] []) (.reg [m v7,w 6 (.mv l0)] [])))))
def jB:C:= .loop true [2,3,7,8,9,10,11,12,13,14,15,16,17,18,19] K.jg
def jh:C:=(.seq (.ite [m v8,m v5,u (.bin .sub l0 (.i 1)),u (.bin .lss l2 l0)] [] 0 .skip (.exit 2)) (.seq (.blk 3 (.reg [m v0,m v8,m v0,m v8,u (.bin .add l0 (.i 1)),m v0,m v8,u (.bin .add l0 (.i 1)),a 2 l2 l0,h 2 l0,m v0,m v8,a 2 l1 l0,h 2 l0,a 2 (.l 13) (.l 12),u (.st l0 l5 2 []),a 2 (.l 13) l11,u (.st l0 l3 2 [])] [])) (.reg [m v8,u (.bin .add l0 (.i 1)),w 8 (.mv l0)] [])))
def jC:C:= .loop true [1,2,3,4,6,7,9,10,11,12,13,14,15,16,17,18,19] K.jh
def ji:C:=(.seq (.ite [m v9,m v10,u (.bin .lss l1 l0)] [] 0 .skip (.exit 4)) (.blk 5 (.seq (.reg [m v9,m v10,u (.bin .add l1 l0),u (.cv .u64 l0),u (.bin .shr l0 (.c (.t (.int .u64 (1))))),u (.cv .i64 l0),w 11 (.mv l0)] []) (.ite [m v4,m v0,m v2,a 2 l1 l0,h 2 l0,m v0,m v11,a 2 l1 l0,h 2 l0,u (.cw l8 0 [] [.l 4,.l 0]),u (.bin .lss l0 (.i 0)),u (.un .not l0)] [] 0 (.reg [m v11,u (.bin .add l0 (.i 1)),w 9 (.mv l0)] []) (.reg [m v11,w 10 (.mv l0)] [])))))
def jD:C:= .loop true [1,3,5,6,7,8,11,12,13,14,15,16,17,18,19] K.ji
def jj:C:=(.seq (.ite [m v12,m v9,u (.bin .gtr l1 l0)] [] 0 .skip (.exit 6)) (.seq (.blk 7 (.reg [m v0,m v12,m v0,m v12,u (.bin .sub l0 (.i 1)),m v0,m v12,u (.bin .sub l0 (.i 1)),a 2 l2 l0,h 2 l0,m v0,m v12,a 2 l1 l0,h 2 l0,a 2 (.l 13) (.l 12),u (.st l0 l5 2 []),a 2 (.l 13) l11,u (.st l0 l3 2 [])] [])) (.reg [m v12,u (.bin .sub l0 (.i 1)),w 12 (.mv l0)] [])))
def jE:C:= .loop true [1,2,3,4,5,6,7,8,10,11,13,14,15,16,17,18,19] K.jj
def jk:C:=(.seq (.ite [m v15,m v16,u (.bin .lss l1 l0)] [] 0 .skip (.exit 8)) (.blk 9 (.seq (.reg [m v15,m v16,u (.bin .add l1 l0),u (.cv .u64 l0),u (.bin .shr l0 (.c (.t (.int .u64 (1))))),u (.cv .i64 l0),w 18 (.mv l0)] []) (.ite [m v4,m v0,m v17,m v18,u (.bin .sub l1 l0),a 2 l3 l0,h 2 l0,m v0,m v18,a 2 l1 l0,h 2 l0,u (.cw l10 0 [] [.l 4,.l 0]),u (.bin .lss l0 (.i 0)),u (.un .not l0)] [] 0 (.reg [m v18,u (.bin .add l0 (.i 1)),w 15 (.mv l0)] []) (.reg [m v18,w 16 (.mv l0)] [])))))
def jF:C:= .loop true [5,6,7,8,9,10,11,12,18,19] K.jk
def aD:Fn:={ nargs:=5,vars:=[0,1,2,3,4,10,11,12,13,14,15,16,17,18,19,20,21,22,23,24],body:=(.seq (.ite [m v2,m v1,u (.bin .sub l1 l0),u (.bin .eql l0 (.i 1))] [] 0 (.seq (.reg [m v2,w 5 (.mv l0)] []) (.seq (.reg [m v3,w 6 (.mv l0)] []) (.seq (.blk 0 K.jB) (.seq (.seq (.reg [m v1,w 8 (.mv l0)] []) (.blk 2 K.jC)) .ret)))) .skip) (.seq (.ite [m v3,m v2,u (.bin .sub l1 l0),u (.bin .eql l0 (.i 1))] [] 0 (.seq (.reg [m v1,w 9 (.mv l0)] []) (.seq (.reg [m v2,w 10 (.mv l0)] []) (.seq (.blk 4 K.jD) (.seq (.seq (.reg [m v2,w 12 (.mv l0)] []) (.blk 6 K.jE)) .ret)))) .skip) (.seq (.reg [m v1,m v3,u (.bin .add l1 l0),u (.cv .u64 l0),u (.bin .shr l0 (.c (.t (.int .u64 (1))))),u (.cv .i64 l0),w 13 (.mv l0)] []) (.seq (.reg [m v13,m v2,u (.bin .add l1 l0),w 14 (.mv l0)] []) (.seq (.reg [w 15 (.mv (.i 0)),w 16 (.mv (.i 0))] []) (.seq (.ite [m v2,m v13,u (.bin .gtr l1 l0)] [] 0 (.seq (.reg [m v14,m v3,u (.bin .sub l1 l0),w 15 (.mv l0)] []) (.reg [m v13,w 16 (.mv l0)] [])) (.seq (.reg [m v1,w 15 (.mv l0)] []) (.reg [m v2,w 16 (.mv l0)] []))) (.seq (.reg [m v14,u (.bin .sub l0 (.i 1)),w 17 (.mv l0)] []) (.seq (.blk 8 K.jF) (.seq (.reg [m v14,m v15,u (.bin .sub l1 l0),w 19 (.mv l0)] []) (.seq (.ite [m v15,m v2,u (.bin .lss l1 l0),m l0,y 0 true (.mv v2),y 1 true (.mv v19),y 2 true (.bin .lss l1 l0),u (.pk l3 l0 (.b false))] [] 0 (.reg [m v0,m v15,m v2,m v19,m v4,u (.ca N.a7 0 [0] [.l 4,.l 3,.l 2,.l 1,.l 0])] []) .skip) (.seq (.ite [m v1,m v15,u (.bin .lss l1 l0),m l0,y 0 true (.mv v15),y 1 true (.mv v13),y 2 true (.bin .lss l1 l0),u (.pk l3 l0 (.b false))] [] 0 (.reg [m v0,m v1,m v15,m v13,m v4,u (.ca N.aD 0 [0] [.l 4,.l 3,.l 2,.l 1,.l 0])] []) .skip) (.ite [m v13,m v19,u (.bin .lss l1 l0),m l0,y 0 true (.mv v19),y 1 true (.mv v3),y 2 true (.bin .lss l1 l0),u (.pk l3 l0 (.b false))] [] 0 (.reg [m v0,m v13,m v19,m v3,m v4,u (.ca N.aD 0 [0] [.l 4,.l 3,.l 2,.l 1,.l 0])] []) .skip)))))))))))),res:=[]}
def jS:C:=(.seq (.ite [m v5,m v6,u (.bin .neq l1 l0)] [] 0 .skip (.exit 0)) (.blk 1 (.ite [m v5,m v6,u (.bin .gtr l1 l0)] [] 0 (.seq (.reg [m v0,m v2,m v5,u (.bin .sub l1 l0),m v2,m v6,m v4,u (.ca N.aJ 0 [0] [.l 6,.l 3,.l 2,.l 1,.l 0])] []) (.reg [m v5,m v6,u (.bin .sub l1 l0),w 5 (.mv l0)] [])) (.seq (.reg [m v0,m v2,m v5,u (.bin .sub l1 l0),m v2,m v6,u (.bin .add l1 l0),m v5,u (.bin .sub l1 l0),m v5,m v4,u (.ca N.aJ 0 [0] [.l 10,.l 7,.l 2,.l 1,.l 0])] []) (.reg [m v6,m v5,u (.bin .sub l1 l0),w 6 (.mv l0)] [])))))
def ko:C:= .loop true [1,3] K.jS
def a7:Fn:={ nargs:=5,vars:=[0,1,2,3,4,10,11],body:=(.seq (.reg [m v2,m v1,u (.bin .sub l1 l0),w 5 (.mv l0)] []) (.seq (.reg [m v3,m v2,u (.bin .sub l1 l0),w 6 (.mv l0)] []) (.seq (.blk 0 K.ko) (.reg [m v0,m v2,m v5,u (.bin .sub l1 l0),m v2,m v5,m v4,u (.ca N.aJ 0 [0] [.l 6,.l 3,.l 2,.l 1,.l 0])] [])))),res:=[]}
def iW:C:=(.seq (.ite [m v4,m v3,u (.bin .lss l1 l0)] [] 0 .skip (.exit 0)) (.seq (.blk 1 (.reg [m v0,m v1,m v4,u (.bin .add l1 l0),m v0,m v2,m v4,u (.bin .add l1 l0),m v0,m v2,m v4,u (.bin .add l1 l0),a 2 l3 l0,h 2 l0,m v0,m v1,m v4,u (.bin .add l1 l0),a 2 l3 l0,h 2 l0,a 2 (.l 19) (.l 16),u (.st l0 l7 2 []),a 2 (.l 17) (.l 14),u (.st l0 l3 2 [])] [])) (.reg [m v4,u (.bin .add l0 (.i 1)),w 4 (.mv l0)] [])))
def jm:C:= .loop true [] K.iW
def aJ:Fn:={ nargs:=5,vars:=[0,1,2,3,10],body:=(.seq (.reg [w 4 (.mv (.i 0))] []) (.blk 0 K.jm)),res:=[]}
def kp:C:=(.its [u (.bin .lss v7 v6)] [] 0 .skip (.exit 0) (.seq (.blk 1 (.seq (.reg [a 2 v5 v7,h 2 l0,w 4 (.al [.t (.int .i64 (0)),.nil] []),u (.st l0 l1 2 [])] []) (.reg [f 1 v3,g l0,f 0 v4,g l0,f 1 v4,g l0,u (.ca N.aU 1 [] [.l 0]),u (.bd [.t (.int .i64 (0)),.nil] [(0,1,.l 3),(1,1,.l 0)]),u (.bs [.l 0] 2),u (.app l7 l0 true 2),f 1 v3,u (.st l0 l1 1 [])] [(1,7),(1,9),(3,7)]))) (.reg [u (.bin .add v7 (.i 1)),w 7 (.mv l0)] [])))
def oL:C:= .loop true [0,1,4] K.kp
def cQ:Fn:={ nargs:=1,vars:=[0,1,2,3,5,11,12,13],body:=(.seq (.reg [w 1 (.bx v0 2),w 2 (.al [.nil,.nil] [])] []) (.seq (.reg [f 0 v1,g l0,u (.ca N.aU 1 [] [.l 0]),u (.bd [.nil,.nil] [(0,1,.l 0)]),w 3 (.al [.nil,.nil] [(1,2)]),u (.st l0 l1 2 [(1,2)])] []) (.seq (.seq (.reg [f 1 v1,w 5 (.ld l0 1 false),w 6 (.ln l0),w 7 (.mv (.i 0))] []) (.blk 0 K.oL)) (.seq (.reg [h 2 v3,u (.st v2 l0 2 [])] []) .ret)))),res:=[(2,some (2,true))]}
end Go.Ev.K
namespace Go.Ev
class iQ [Lib]:Prop where
 uD:Lib.fs N.jy=some K.jy
 p5:Lib.fs N.fO=some K.fO
 c7:Lib.fs N.aH=some K.aH
 c8:Lib.fs N.aI=some K.aI
 mY:Lib.fs N.a8=some K.a8
 fA:Lib.fs N.bq=some K.bq
 bR:Lib.fs N.az=some K.az
 eG:Lib.fs N.ak=some K.ak
 dD:Lib.fs N.aN=some K.aN
 bJ:Lib.fs N.ax=some K.ax
 fp:Lib.fs N.aD=some K.aD
 fQ:Lib.fs N.a7=some K.a7
 ff:Lib.fs N.aJ=some K.aJ
 lJ:Lib.fs N.cQ=some K.cQ
namespace K
variable [Lib] [iQ]
theorem uD:Lib.fs N.jy=some K.jy:=iQ.uD
theorem p5:Lib.fs N.fO=some K.fO:=iQ.p5
theorem c7:Lib.fs N.aH=some K.aH:=iQ.c7
theorem c8:Lib.fs N.aI=some K.aI:=iQ.c8
theorem mY:Lib.fs N.a8=some K.a8:=iQ.mY
theorem fA:Lib.fs N.bq=some K.bq:=iQ.fA
theorem bR:Lib.fs N.az=some K.az:=iQ.bR
theorem eG:Lib.fs N.ak=some K.ak:=iQ.eG
theorem dD:Lib.fs N.aN=some K.aN:=iQ.dD
theorem bJ:Lib.fs N.ax=some K.ax:=iQ.bJ
theorem fp:Lib.fs N.aD=some K.aD:=iQ.fp
theorem fQ:Lib.fs N.a7=some K.a7:=iQ.fQ
theorem ff:Lib.fs N.aJ=some K.aJ:=iQ.ff
theorem lJ:Lib.fs N.cQ=some K.cQ:=iQ.lJ
end K
end Go.Ev
namespace Go.Ev
open Go
variable [Lib] [cm] [bS] [iv] [ir] [lr] [gE] [gF] [jV] [iu] [gA] [fw] [oK] [iQ]
theorem Hm(x:World)(h:x.sz):∀z0 z1 z4:D,exS aO K.oL ⟨[z0,z1,.bp 1 0,.bp 3 0,z4,.t (.sl (x.whr.map Wh.e)),I x.whr.length,I 0],[.box [.t (tL x.tags),.t (.sl (x.whr.map Wh.e))],.box [.nil,.nil],Dk x.tags,.box [.ref 2 0 x.tags.length,.ref 5 0 0],.arr 2 false 0 [],.arr 2 false 0 []]⟩=
 some (.exit 0,⟨[.und,.und,.bp 1 0,.bp 3 0,.und,.t (.sl (x.whr.map Wh.e)),I x.whr.length,I x.whr.length],[.box [.t (tL x.tags),.t (.sl (x.whr.map Wh.e))],.box [.nil,.nil],Dk x.tags,.box [.ref 2 0 x.tags.length,.ref 5 0 x.whr.length],.arr 2 false 0 [],.arr 2 false 0 ((x.whr.map Wh.e).map .t)]⟩):=by
 intro z0 z1 z4
 obtain⟨tags,whr⟩:=x
 obtain⟨h1,h2,h3⟩:=h
 simp only at h1 h2 h3 ⊢
 have tk:whr.take whr.length=whr:=by simp
 refine cE (fun j=>⟨[.und,.und,.bp 1 0,.bp 3 0,.und,.t (.sl (whr.map Wh.e)),I whr.length,I j],[.box [.t (tL tags),.t (.sl (whr.map Wh.e))],.box [.nil,.nil],Dk tags,.box [.ref 2 0 tags.length,.ref 5 0 (whr.take j).length],.arr 2 false 0 [],.arr 2 false 0 (((whr.take j).map Wh.e).map .t)]⟩) whr.length rfl ?_ ?_ (by simp)
 · intro j hj
   have c:=yh (nth whr j).frm (h3 _ (ae hj))
   have ex:(whr.map Wh.e)[j]?=some (nth whr j).e:=cZ _ hj
   have lt:(whr.take j).length=j:=by rw[List.length_take];omega
   have tk:whr.take (j+1)=whr.take j++[nth whr j]:=ij hj
   generalize nth whr j=w at*
   generalize whr.take j=pre at*
   obtain⟨time,frm⟩:=w
   simp only[Dk]at*
   simp (disch:=omega) only[go_sem,K.kp,↓reduceIte,ex,c,lt,tk,List.map_append,List.map_cons,List.map_nil,List.length_append,List.length_cons,List.length_nil,Nat.reduceAdd,Nat.reduceSub]
 · simp only[Dk]
   simp (disch:=omega) only[go_sem,K.kp,↓reduceIte,tk,Nat.reduceAdd,Nat.reduceSub]
theorem F5(x:World)(h:x.sz):aO 1 N.cQ [.t x.e] []=some (.agg [.ref 0 0 x.tags.length,.ref 1 0 x.whr.length],[.arr 1 false 0 ((x.tags.map (T.int .i64)).map .t),.arr 2 false 0 ((x.whr.map Wh.e).map .t)]):=by
 refine ay K.lJ rfl ?_
 have loop:=Hm x h
 have c:=yh x.tags h.1
 obtain⟨tags,whr⟩:=x
 obtain⟨h1,h2,h3⟩:=h
 simp only[Dk]at h1 h2 h3 loop c ⊢
 simp (disch:=omega) only[go_sem,K.cQ,↓reduceIte,loop,c,Nat.reduceAdd,Nat.reduceSub]
abbrev wN(l:List World):Obj:= .arr 2 false 0 ((l.map World.e).map .t)
theorem Hn(l:List World):aO 0 N.aI [.t (.sl (l.map World.e))] []=some (.fn N.ak [.bp 0 0],[.box [.t (.sl (l.map World.e))]]):=by
 refine ay K.c8 rfl ?_
 simp (disch:=omega) only[go_sem,K.aI,↓reduceIte,Nat.reduceAdd,Nat.reduceSub]
theorem Ep(l:List World)(h0:0<l.length)(hl:l.length≤1000000):aO 1 N.bq [.fn N.ak [.bp 0 0]] [.box [.t (.sl (l.map World.e))]]=some (.ref 1 0 l.length,[.box [.t (.sl (l.map World.e))],wN l]):=by
 refine Ca K.fA (by decide) ?_
 show uM [3,N.ak] _ _=_
 have e:(l.map World.e).all Gq=true:=by
  rw[List.all_eq_true]
  intro x hx
  obtain⟨w, -,rfl⟩:=List.mem_map.1 hx
  rfl
 have ne:(l.map World.e).isEmpty=false:=by
  cases l with
  | nil=>simp at h0
  | cons=>rfl
 simp only[uM,if_true,List.getElem?_cons_zero,e,and_true,List.length_map,ne,Bool.false_eq_true,if_false]
 rw[if_pos (by unfold lim;omega)]
 rfl
theorem Ho(a b:World)(ha:a.sz)(hb:b.sz):aO 0 N.a8 [.t a.e,.t b.e] []=some (I (Mz a.tags b.tags),[]):=by
 refine ay K.mY rfl ?_
 have c:=zP a.tags b.tags ha.1 hb.1
 obtain⟨t1,w1⟩:=a
 obtain⟨t2,w2⟩:=b
 simp only at*
 simp (disch:=omega) only[go_sem,K.a8,↓reduceIte,c,Nat.reduceAdd,Nat.reduceSub]
abbrev Er(l:List World):Prop:=l.Pairwise fun x y=>lexB y.tags x.tags=false
theorem RU(a b:List Int):Mz a b<0↔lexB a b=true:=by
 rw[← nB,←CO];simp
abbrev isS(l:List World)(b i:Int)(j:D):St:=⟨[.ref 0 0 l.length,I 0,I b,.fn N.a8 [],I i,j],[wN l]⟩
theorem Kg{p:List World}{x:World}{r:List World}{j:Nat}(h:p.length=j):nth (p++x::r) j=x:=bA (by rw[List.getElem?_append_right (by omega),h,Nat.sub_self];rfl)
theorem RV{α:Type}{p:List α}{y x a c:α}{r:List α}{j:Nat}(h:p.length=j):((p++y::x::r).set (j+1) a).set j c=p++c::a::r:=by
 rw[List.set_append_right _ _ (by omega),h,show j+1-j=1 by omega,List.set_append_right _ _ (by omega),h,Nat.sub_self]
 rfl
def aeo(b i:Int)(l0 rest:List World)(x:World)(k:Nat)(st:St):Prop:=
 ∃p q,st=isS (p++x::(q++rest)) b i (I ((p.length:Nat):Int))∧p.length+k=l0.length∧p++q=l0∧(∀y∈q,lexB x.tags y.tags=true)
theorem MK(b i:Int)(p r:List World)(y x:World)(hx:x.sz)(hy:y.sz)(hl:(p++y::x::r).length≤1000):
 (lexB x.tags y.tags=true→eO true [] 1 (exS aO K.aL (isS (p++y::x::r) b i (I ((p.length+1:Nat):Int))))=some (isS (p++x::y::r) b i (I ((p.length:Nat):Int))))∧
 (lexB x.tags y.tags=false→exS aO K.aL (isS (p++y::x::r) b i (I ((p.length+1:Nat):Int)))=some (.exit 2,isS (p++y::x::r) b i (I ((p.length+1:Nat):Int)))):=by
 have c:=Ho x y hx hy
 have cl:=RU x.tags y.tags
 obtain⟨n,hn⟩:∃n,p.length=n:=⟨_,rfl⟩
 have n1:nth (p++y::x::r) (n+1)=x:=by
  have:=Kg (p:=p++[y]) (x:=x) (r:=r) (j:=n+1) (by simp[hn])
  rwa [List.append_assoc]at this
 have n0:nth (p++y::x::r) n=y:=Kg hn
 have st:((((p++y::x::r).map World.e).map D.t).set (n+1) (D.t y.e)).set n (D.t x.e)=(((p++x::y::r).map World.e).map D.t):=by
  simp only[List.map_append,List.map_cons]
  exact RV (by simp[hn])
 have ln:(p++y::x::r).length=(p++x::y::r).length:=by simp
 have lt:n+1<(p++y::x::r).length:=by simp[hn]
 rw[hn]
 have gs:∀v,((((p++y::x::r).map World.e).map D.t).set (n+1) v)[n]?=some (D.t y.e):=fun v=>by
  rw[List.getElem?_set_ne (by omega),List.getElem?_map,List.getElem?_map,jv (by omega),n0];rfl
 simp only[isS,wN]
 rw[← ln]
 generalize (p++x::y::r)=L2 at*
 generalize (p++y::x::r)=L at*
 generalize Mz x.tags y.tags=v at*
 obtain⟨t1,w1⟩:=x
 obtain⟨t2,w2⟩:=y
 simp only at*
 constructor
 · intro h
   have v0:=cl.2 h
   simp (disch:=omega) only[go_sem,K.aL,↓reduceIte,n1,n0,c,gs,st,Nat.reduceAdd,Nat.reduceSub]
 · intro h
   have v0:¬v<0:=fun e=>by rw[cl.1 e]at h;cases h
   simp (disch:=omega) only[go_sem,K.aL,↓reduceIte,n1,n0,c,Nat.reduceAdd,Nat.reduceSub]
theorem RW{p q:List World}{x:World}(hs:Er (p++q))(hq:∀y∈q,lexB x.tags y.tags=true)(hp:∀y∈p,lexB x.tags y.tags=false):Er (p++x::q):=by
 simp only[Er,List.pairwise_append]at hs ⊢
 refine⟨hs.1,?_,fun a ha c hc=>?_⟩
 · rw[List.pairwise_cons]
   refine⟨fun y hy=>?_,hs.2.1⟩
   cases h:lexB y.tags x.tags with
   | false=>rfl
   | true=>have:=lex_trans h (hq y hy);rw[lex_irrefl]at this;cases this
 · rcases List.mem_cons.1 hc with rfl | hc
   · exact hp a ha
   · exact hs.2.2 a ha c hc
theorem ML(b i:Int)(l0 rest:List World)(x:World)(hs:Er l0)(hz:∀w∈l0++x::rest,w.sz)(hl:(l0++x::rest).length≤1000):
 ∃(l1:List World) (z:D),exS aO K.dP (isS (l0++x::rest) b i (I ((l0.length:Nat):Int)))=some (.exit 2,isS (l1++rest) b i z)∧l1.Perm (l0++[x])∧Er l1:=by
 have fin:∀p q,p++q=l0→(∀y∈q,lexB x.tags y.tags=true)→(∀y∈p,lexB x.tags y.tags=false)→(p++x::q).Perm (l0++[x])∧Er (p++x::q):=by
  intro p q e hq hp
  subst e
  refine⟨?_,RW hs hq hp⟩
  rw[List.append_assoc]
  exact List.Perm.append_left _ (List.perm_append_comm (l₁:=[x]))
 have key:=JP (gc:=true) (dead:=[]) (c:=K.aL) (vs:=[.ref 0 0 (l0++x::rest).length,I 0,I b,.fn N.a8 [],I i,I ((l0.length:Nat):Int)]) (H:=[wN (l0++x::rest)])
  (aeo b i l0 rest x) l0.length (fun r=>∃(l1:List World) (z:D),r=(.exit 2,isS (l1++rest) b i z)∧l1.Perm (l0++[x])∧Er l1) ?_ ?_ ?_
 · obtain⟨r,h,l1,z,rfl,a,c⟩:=key
   exact⟨l1,z,h,a,c⟩
 · exact⟨l0,[],rfl,by omega,by simp,fun y hy=>by cases hy⟩
 · rintro j st hj ⟨p,q,rfl,h1,h2,h3⟩
   obtain⟨p',y,rfl⟩:∃p' y,p=p'++[y]:=⟨p.dropLast,p.getLast (fun e=>by subst e;simp at h1;omega),(List.dropLast_concat_getLast _).symm⟩
   subst h2
   have hz':∀w∈p'++[y]++q++x::rest,w.sz:=hz
   have e1:p'++[y]++x::(q++rest)=p'++y::x::(q++rest):=by simp
   have e2:(p'++[y]).length=p'.length+1:=by simp
   rw[e1,e2]
   have st:=MK b i p' (q++rest) y x (hz' x (by simp)) (hz' y (by simp)) (by simp at hl ⊢;omega)
   cases hc:lexB x.tags y.tags with
   | true=>
     refine .inl ⟨_,st.1 hc,p',y::q,by simp[isS],by simp at h1 ⊢;omega,by simp,fun w hw=>?_⟩
     rcases List.mem_cons.1 hw with rfl | hw
     · exact hc
     · exact h3 w hw
   | false=>
     refine .inr ⟨_,st.2 hc,by simp,p'++[y]++x::q,I ((p'.length+1:Nat):Int),by simp[isS],?_⟩
     refine fin (p'++[y]) q rfl h3 fun w hw=>?_
     rcases List.mem_append.1 hw with hw | hw
     · cases h:lexB x.tags w.tags with
       | false=>rfl
       | true=>
         have hwy:lexB y.tags w.tags=false:=by
          simp only[Er,List.pairwise_append]at hs
          exact hs.1.2.2 w hw y (by simp)
         rcases mW y.tags x.tags with a | a | a
         · rw[lex_trans a h]at hwy;cases hwy
         · rw[a,h]at hwy;cases hwy
         · rw[a]at hc;cases hc
     · rw[List.mem_singleton.1 hw];exact hc
 · rintro st ⟨p,q,rfl,h1,h2,h3⟩
   have p0:p=[]:=List.eq_nil_of_length_eq_zero (by omega)
   subst p0
   simp only[List.nil_append]at h2
   subst h2
   refine⟨(.exit 2,isS (x::(q++rest)) b i (I 0)),?_,by simp,x::q,I 0,rfl,fin [] q rfl h3 (fun y hy=>by cases hy)⟩
   simp only[isS,wN,List.nil_append,List.length_nil]
   simp (disch:=omega) only[go_sem,K.aL,↓reduceIte,Nat.reduceAdd,Nat.reduceSub]
def acp(l:List World)(k:Nat)(st:St):Prop:=
 ∃l':List World,st=isS l' l.length (1+(k:Int)) .und∧l'.Perm l∧Er (l'.take (1+k))
theorem Kh(l:List World)(hz:∀w∈l,w.sz)(hl:l.length≤1000){k:Nat}(hk:k<l.length-1){st:St}(hP:acp l k st):
 ∃st',eO true [5] st.H.length (exS aO K.aW st)=some st'∧acp l (k+1) st':=by
 obtain⟨l',rfl,pm,so⟩:=hP
 have ln:=pm.length_eq
 have sp:l'=l'.take (1+k)++nth l' (1+k)::l'.drop (1+k+1):=by
  conv=>lhs;rw[← List.take_append_drop (1+k) l']
  rw[List.drop_eq_getElem_cons (by omega),bA (List.getElem?_eq_getElem (by omega))]
 have l0:(l'.take (1+k)).length=1+k:=by rw[List.length_take];omega
 obtain⟨l1,z,h,p1,s1⟩:=ML l.length (1+(k:Int)) (l'.take (1+k)) (l'.drop (1+k+1)) (nth l' (1+k)) so (fun w hw=>hz w (pm.mem_iff.1 (by rw[sp];exact hw))) (by rw[← sp];omega)
 rw[← sp,l0]at h
 have l1n:l1.length=1+k+1:=by rw[p1.length_eq,List.length_append,l0];rfl
 have tl:(l1++l'.drop (1+k+1)).length=l'.length:=by rw[List.length_append,l1n,List.length_drop];omega
 refine⟨isS (l1++l'.drop (1+k+1)) l.length (1+((k+1:Nat):Int)) .und,?_,_,rfl,?_,?_⟩
 · generalize (l1++l'.drop (1+k+1))=L at*
   clear sp
   simp only[isS,wN]at*
   have e:((1+k:Nat):Int)=1+(k:Int):=by omega
   rw[e]at h
   have e2:(1:Int)+((k+1:Nat):Int)=1+(k:Int)+1:=by omega
   rw[e2,tl]
   rw[tl]at h
   have lt:(1:Int)+k<l.length:=by omega
   simp (disch:=omega) only[go_sem,K.aW,↓reduceIte,h,Nat.reduceAdd,Nat.reduceSub]
 · have:(l1++l'.drop (1+k+1)).Perm l':=by
    conv=>rhs;rw[sp]
    rw[show l'.take (1+k)++nth l' (1+k)::l'.drop (1+k+1)=(l'.take (1+k)++[nth l' (1+k)])++l'.drop (1+k+1)by simp]
    exact List.Perm.append_right _ p1
   exact this.trans pm
 · rw[show 1+(k+1)=l1.length by omega,List.take_left']
   · exact s1
   · rfl
theorem Ki(l:List World)(hz:∀w∈l,w.sz)(hl:l.length≤1000):
 ∃l',aO 0 N.ax [.ref 0 0 l.length,I 0,I l.length,.fn N.a8 []] [wN l]=some (.tup [],[wN l'])∧l'.Perm l∧Er l':=by
 by_cases h0:l.length=0
 · have e:l=[]:=List.eq_nil_of_length_eq_zero h0
   subst e
   refine⟨[],?_,List.Perm.refl _,List.Pairwise.nil⟩
   refine ay K.bJ rfl ?_
   have lp:∀z5,exS aO K.b8 ⟨[.ref 0 0 0,I 0,I 0,.fn N.a8 [],I 1,z5],[.arr 2 false 0 []]⟩=some (.exit 0,⟨[.ref 0 0 0,I 0,I 0,.fn N.a8 [],I 1,.und],[.arr 2 false 0 []]⟩):=by
    intro z5
    refine sN (de ?_ (by simp))
    simp (disch:=omega) only[go_sem,K.aW,↓reduceIte,Nat.reduceAdd,Nat.reduceSub]
   simp only[wN,List.map_nil,List.length_nil]
   simp (disch:=omega) only[go_sem,K.ax,↓reduceIte,lp,Nat.reduceAdd,Nat.reduceSub]
 · have key:=fun z5:D=>JP (gc:=true) (dead:=[5]) (c:=K.aW) (vs:=[.ref 0 0 l.length,I 0,I l.length,.fn N.a8 [],I 1,z5]) (H:=[wN l])
    (acp l) (l.length-1) (fun r=>∃l':List World,r=(.exit 0,isS l' l.length l.length .und)∧l'.Perm l∧Er l') ⟨l,rfl,List.Perm.refl _,by
     match l with
     | []=>exact List.Pairwise.nil
     | x::r=>simp⟩ (fun j st hj hP=> .inl (Kh l hz hl hj hP)) (by
     rintro st ⟨l',rfl,pm,so⟩
     have ln:=pm.length_eq
     have e:(1:Int)+((l.length-1:Nat):Int)=l.length:=by omega
     rw[e]
     rw[List.take_of_length_le (by omega)]at so
     refine⟨(.exit 0,isS l' l.length l.length .und),?_,by simp,l',rfl,pm,so⟩
     simp only[isS,wN]
     simp (disch:=omega) only[go_sem,K.aW,↓reduceIte,Nat.reduceAdd,Nat.reduceSub]
     )
   obtain⟨r,hr,l',rfl,pm,so⟩:=key .und
   refine⟨l',?_,pm,so⟩
   refine ay K.bJ rfl ?_
   have ln:=pm.length_eq
   have hr:exS aO K.b8 _=_:=hr
   simp only[isS,wN,ln]at hr ⊢
   simp (disch:=omega) only[go_sem,K.ax,↓reduceIte,hr,Nat.reduceAdd,Nat.reduceSub]
theorem Kj(l:List World)(hz:∀w∈l,w.sz)(hl:l.length<20):
 ∃l',aO 0 N.aN [.ref 0 0 l.length,I l.length,.fn N.a8 []] [wN l]=some (.tup [],[wN l'])∧l'.Perm l∧Er l':=by
 obtain⟨l',h,pm,so⟩:=Ki l hz (by omega)
 refine⟨l',?_,pm,so⟩
 refine ay K.dD rfl ?_
 have ln:=pm.length_eq
 have e1:∀z6:D,exS aO K.fJ ⟨[.ref 0 0 l.length,I l.length,.fn N.a8 [],I 20,I 0,I 20,z6],[wN l]⟩=some (.exit 0,⟨[.ref 0 0 l.length,I l.length,.fn N.a8 [],I 20,I 0,I 20,.und],[wN l]⟩):=by
  intro z6
  refine sN (de ?_ (by simp))
  simp only[wN]
  simp (disch:=omega) only[go_sem,K.fm,↓reduceIte,Nat.reduceAdd,Nat.reduceSub]
 have e2:∀z4 z5 z6:D,exS aO K.fK ⟨[.ref 0 0 l.length,I l.length,.fn N.a8 [],I 20,z4,z5,z6],[wN l']⟩=some (.exit 2,⟨[.ref 0 0 l.length,I l.length,.fn N.a8 [],I 20,.und,.und,.und],[wN l']⟩):=by
  intro z4 z5 z6
  refine sN (de ?_ (by simp))
  simp only[wN]
  simp (disch:=omega) only[go_sem,K.fo,↓reduceIte,Nat.reduceAdd,Nat.reduceSub]
 simp only[wN]at*
 simp (disch:=omega) only[go_sem,K.aN,↓reduceIte,e1,e2,h,Nat.reduceAdd,Nat.reduceSub]
theorem AY(l:List World)(hz:∀w∈l,w.sz)(hl:l.length<20):
 ∃l',aO 0 N.az [.ref 0 0 l.length,.fn N.a8 []] [wN l]=some (.tup [],[wN l'])∧l'.Perm l∧Er l':=by
 obtain⟨l',h,pm,so⟩:=Kj l hz hl
 refine⟨l',?_,pm,so⟩
 refine ay K.bR rfl ?_
 simp only[wN]at*
 simp (disch:=omega) only[go_sem,K.az,↓reduceIte,h,Nat.reduceAdd,Nat.reduceSub]
theorem Hp(l:List World)(hz:∀w∈l,w.sz)(h0:0<l.length)(hl:l.length<20):
 ∃l',aO 0 N.aH [.fn N.ak [.bp 0 0],.fn N.a8 []] [.box [.t (.sl (l.map World.e))]]=some (.t (.sl (l'.map World.e)),[.box [.t (.sl (l.map World.e))]])∧l'.Perm l∧Er l':=by
 obtain⟨l',h,pm,so⟩:=AY l hz hl
 refine⟨l',?_,pm,so⟩
 refine ay K.c7 rfl ?_
 have c:=Ep l h0 (by omega)
 have ln:=pm.length_eq
 simp only[wN]at*
 simp (disch:=omega) only[go_sem,K.aH,↓reduceIte,c,h,ln,Nat.reduceAdd,Nat.reduceSub]
end Go.Ev
namespace Go.Ev
open Go
variable [Lib] [cm] [bS] [iv] [ir] [lr] [gE] [gF] [jV] [iu]
end Go.Ev
namespace Go.Ev
open Go
variable [Lib] [cm] [bS] [iv] [ir] [lr] [gE] [gF] [jV] [iu] [gA] [fw]
theorem Hq{l:List Int}{i j:Nat}(hi:i<l.length)(hj:j<l.length):(Hd l i j).Perm l:=by
 have:=Array.swap_perm (xs:=l.toArray) (i:=i) (j:=j) (by simpa using hi) (by simpa using hj)
 rw[Array.perm_iff_toList_perm]at this
 unfold Hd
 rw[bA (List.getElem?_eq_getElem hi),bA (List.getElem?_eq_getElem hj)]
 simpa [Array.swap]using this
theorem uE{m:aT}{l:List Wh}(hl:∀w∈l,cH m w=true)(i:Nat){x:Wh}(hx:i<l.length→cH m x=true):∀w∈l.set i x,cH m w=true:=by
 intro w hw
 by_cases h:i<l.length
 · rcases List.mem_or_eq_of_mem_set hw with a | rfl
   · exact hl w a
   · exact hx h
 · rw[List.set_eq_of_length_le (by omega)]at hw;exact hl w hw
theorem yD{m:aT}(h:m.ok){w:Wh}(hv:cH m w=true)(t:Int):cH m (lQ w t).1=true:=by
 unfold lQ
 split
 · exact hv
 · obtain⟨a,b,c, -⟩:=bF hv
   have cl:=uk h hv
   unfold inT at b
   exact ye h a (by simp only;unfold inT;omega) c (AL (t':=t) (by omega) cl)
theorem Kk{m:aT}{first:List Int}{x:World}(h:WV m first x)(tag:Int){w:Wh}(hw:(bO x.tags tag).toNat<x.whr.length→cH m w=true):WV m first (Eh tag x w):=
 ⟨h.pm,by simp[Eh,h.wl],uE h.wv _ hw⟩
def ZL(m:aT)(tag:Int)(l:List Int)(a b:Int)(x:World):Option World:=
 if(zQ m tag l a b x).2=43 then none else some (if(zQ m tag l a b x).2=0 then Eh tag x (zQ m tag l a b x).1 else x)
theorem F6(m:aT)(tag:Int)(l:List Int)(a b:Int)(ws:List World):∀j,j≤ws.length→mU m tag l a b ws j=(ws.take j).filterMap (ZL m tag l a b)
 | 0,_=>by simp[mU]
 | j+1,h=>by
   rw[ij (by omega),List.filterMap_append]
   simp only[mU,F6 m tag l a b ws j (by omega),CA,ZL,List.filterMap_cons,List.filterMap_nil]
   split<;>simp_all
theorem F7(m:aT)(tag:Int)(l:List Int)(a b bl:Int)(ws:List World):∀j,j≤ws.length→oI m tag l a b bl ws j=(ws.take j).map fun x=>if(zR m tag l a b bl x).2=0 then Eh tag x (zR m tag l a b bl x).1 else x
 | 0,_=>by simp[oI]
 | j+1,h=>by
   rw[ij (by omega),List.map_append]
   simp only[oI,F7 m tag l a b bl ws j (by omega),Ei,List.map_cons,List.map_nil]
theorem Es{m:aT}(hm:m.ok){first:List Int}{tag:Int}{l:List Int}{a b:Int}{x y:World}(h:WV m first x)(e:ZL m tag l a b x=some y):WV m first y∧y.tags=x.tags:=by
 unfold ZL at e
 split at e
 · cases e
 · simp only[Option.some.injEq]at e
   subst e
   split
   · exact⟨Kk h tag fun hl=>Kc hm (h.wv _ (ae hl)) l a b,rfl⟩
   · exact⟨h,rfl⟩
theorem Xl{m:aT}(hm:m.ok){first:List Int}{ws:List World}(h:BV m first ws)(tag:Int)(l:List Int)(a b:Int):BV m first (mU m tag l a b ws ws.length):=by
 rw[F6 m tag l a b ws _ (Nat.le_refl _),List.take_length]
 refine⟨h.pr,h.f1,h.f2,fun y hy=>?_,?_⟩
 · obtain⟨x,hx,e⟩:=List.mem_filterMap.1 hy
   exact(Es hm (h.wv x hx) e).1
 · rw[List.pairwise_filterMap]
   refine(List.Pairwise.imp_of_mem ?_ h.up)
   intro x y hx hy hxy x' ex y' ey
   rw[(Es hm (h.wv x hx) ex).2,(Es hm (h.wv y hy) ey).2]
   exact hxy
theorem Xm{m:aT}(hm:m.ok){first:List Int}{ws:List World}(h:BV m first ws)(tag:Int)(l:List Int)(a b bl:Int):BV m first (oI m tag l a b bl ws ws.length):=by
 rw[F7 m tag l a b bl ws _ (Nat.le_refl _),List.take_length]
 have tg:∀x:World,(if(zR m tag l a b bl x).2=0 then Eh tag x (zR m tag l a b bl x).1 else x).tags=x.tags:=by
  intro x;split<;>rfl
 refine⟨h.pr,h.f1,h.f2,fun y hy=>?_,?_⟩
 · obtain⟨x,hx,rfl⟩:=List.mem_map.1 hy
   have wx:=h.wv x hx
   split
   · exact Kk wx tag fun hl=>Kf hm (wx.wv _ (ae hl)) l a b bl
   · exact wx
 · rw[List.pairwise_map]
   refine h.up.imp fun{x y} hxy=>?_
   rw[tg,tg];exact hxy
theorem MM{m:aT}(hm:m.ok){first:List Int}{x:World}(h:WV m first x){i j:Nat}(hi:i<first.length)(hj:j<first.length)(t:Int):WV m first (s5 i j t x):=by
 have wl:=h.wl
 have tl:=h.pm.length_eq
 refine⟨(Hq (by omega) (by omega)).trans h.pm,by simp[s5,wl],?_⟩
 exact uE (uE h.wv i fun hl=>yD hm (h.wv _ (ae hl)) t) j fun hl=>yD hm (h.wv _ (ae (by simpa using hl))) t
theorem uF{m:aT}(hm:m.ok){first:List Int}{ws:List World}(h:∀x∈ws,WV m first x){i j:Nat}(hi:i<first.length)(hj:j<first.length)(t:Int):∀k,k≤ws.length→∀x∈iq i j t ws k,WV m first x
 | 0,_,x,hx=>h x hx
 | k+1,hk,x,hx=>by
   simp only[iq,yx]at hx
   split at hx
   · rcases List.mem_append.1 hx with hx | hx
     · exact uF hm h hi hj t k (by omega) x hx
     · rw[List.mem_singleton.1 hx]
       exact MM hm (h _ (ae (by omega))) hi hj t
   · exact uF hm h hi hj t k (by omega) x hx
theorem s7{m:aT}(hm:m.ok){a b:List Wh}(ha:∀w∈a,cH m w=true)(hb:∀w∈b,cH m w=true):∀p,p≤a.length→p≤b.length→∀w∈iN a b p,cH m w=true
 | 0,_,_,w,hw=>ha w hw
 | p+1,h1,h2,w,hw=>by
   refine uE (s7 hm ha hb p (by omega) (by omega)) p (fun _=>?_) w hw
   exact(Hl hm (ha _ (ae (by omega))) (hb _ (ae (by omega)))).2.1
theorem AZ{out:List World}{x:World}{k:Nat}(h:k<cA out x):lexB (nth out k).tags x.tags=true:=by
 unfold cA at h
 split at h
 · rename_i j hf
   rw[List.find?_range_eq_some]at hf
   have:=hf.2.2 k h
   rw[← nB];simpa using this
 · rename_i hf
   have:=List.find?_eq_none.1 hf k (List.mem_range.2 h)
   rw[← nB];simpa using this
theorem xi{out:List World}{x:World}(h:cA out x<out.length):lexB (nth out (cA out x)).tags x.tags=false:=by
 unfold cA at h ⊢
 split
 · rename_i j hf
   rw[List.find?_range_eq_some]at hf
   have:=hf.1
   rw[← nB];simpa using this
 · rename_i hf
   rw[hf]at h;simp at h
theorem nC{m:aT}(hm:m.ok){first:List Int}{out:List World}(h:BV m first out){x:World}(hx:WV m first x):BV m first (gL out x):=by
 have kl:=uz out x
 unfold gL
 split
 · rename_i c
   obtain⟨c1,c2⟩:=c
   have wk:=h.wv _ (ae c1)
   have w1:=wk.wl
   have w2:=hx.wl
   refine⟨h.pr,h.f1,h.f2,fun y hy=>?_,?_⟩
   · rcases List.mem_or_eq_of_mem_set hy with a | rfl
     · exact h.wv y a
     · exact⟨hx.pm,by rw[gr,gK];exact w1,s7 hm wk.wv hx.wv _ (by omega) (by omega)⟩
   · have u:=h.up
     rw[← List.pairwise_map (f:=World.tags) (R:=fun a b=>lexB a b=true)]at u ⊢
     rw[List.map_set]
     have e:(out.map World.tags).set (cA out x) x.tags=out.map World.tags:=by
      apply List.ext_getElem?
      intro i
      by_cases hi:cA out x=i
      · rw[← hi,List.getElem?_set_self (by simpa using c1),List.getElem?_map,jv c1,←c2];rfl
      · rw[List.getElem?_set_ne hi]
     rw[e];exact u
 · rename_i c
   refine⟨h.pr,h.f1,h.f2,fun y hy=>?_,?_⟩
   · simp only[List.mem_append,List.mem_singleton]at hy
     rcases hy with(hy | rfl) | hy
     · exact h.wv y (List.mem_of_mem_take hy)
     · exact hx
     · exact h.wv y (List.mem_of_mem_drop hy)
   · have u:=h.up
     have lo:∀y∈out.take (cA out x),lexB y.tags x.tags=true:=by
      intro y hy
      obtain⟨i,hi⟩:=List.mem_iff_getElem?.1 hy
      have il:=(List.getElem?_eq_some_iff.1 hi).1
      rw[List.length_take]at il
      rw[List.getElem?_take_of_lt (by omega)]at hi
      have:=AZ (out:=out) (x:=x) (k:=i) (by omega)
      rwa [bA hi]at this
     have hi:∀y∈out.drop (cA out x),lexB x.tags y.tags=true:=by
      intro y hy
      obtain⟨i,hi⟩:=List.mem_iff_getElem?.1 hy
      have il:=(List.getElem?_eq_some_iff.1 hi).1
      rw[List.length_drop]at il
      rw[List.getElem?_drop]at hi
      have c1:cA out x<out.length:=by omega
      have at_:=xi c1
      have ne:(nth out (cA out x)).tags≠x.tags:=fun e=>c ⟨c1,e⟩
      have first_:lexB x.tags (nth out (cA out x)).tags=true:=by
       rcases mW (nth out (cA out x)).tags x.tags with a | a | a
       · rw[a]at at_;cases at_
       · exact absurd a ne
       · exact a
      by_cases i0:i=0
      · subst i0
        rw[Nat.add_zero]at hi
        rwa [bA hi]at first_
      · have:=(List.pairwise_iff_getElem.1 u) (cA out x) (cA out x+i) (by omega) (by omega) (by omega)
        rw[← bA (List.getElem?_eq_getElem (by omega:cA out x<out.length)),←bA (List.getElem?_eq_getElem (by omega:cA out x+i<out.length)),bA hi]at this
        exact lex_trans first_ this
     have td:out.take (cA out x)++out.drop (cA out x)=out:=List.take_append_drop _ _
     have u2:=u
     rw[← td,List.pairwise_append]at u2
     rw[List.append_assoc,List.pairwise_append]
     refine⟨u2.1,?_,fun y hy z hz=>?_⟩
     · rw[List.singleton_append,List.pairwise_cons];exact⟨hi,u2.2.1⟩
     · simp only[List.singleton_append,List.mem_cons]at hz
       rcases hz with rfl | hz
       · exact lo y hy
       · exact u2.2.2 y hy z hz
theorem A0{m:aT}(hm:m.ok){first:List Int}(pr:ew first=true)(f1:1≤first.length)(f2:first.length≤12){l:List World}(hl:∀x∈l,WV m first x):∀j,j≤l.length→BV m first (oJ l j)
 | 0,_=>⟨pr,f1,f2,fun x hx=>by simp[oJ]at hx,by simp[oJ]⟩
 | j+1,h=>nC hm (A0 hm pr f1 f2 hl j (by omega)) (hl _ (ae (by omega)))
def lookW(out:List World)(t:List Int):Option (List Wh):=(out.find? fun w=>decide (w.tags=t)).map World.whr
abbrev UpW(out:List World):Prop:=out.Pairwise fun x y=>lexB x.tags y.tags=true
theorem wF{a b:List Int}(h:lexB a b=true):a≠b:=fun e=>by rw[e,lex_irrefl]at h;cases h
theorem kq{out:List World}{t:List Int}(h:∀w∈out,w.tags≠t):lookW out t=none:=by
 unfold lookW
 rw[List.find?_eq_none.2 fun w hw=>by simpa using h w hw];rfl
theorem iR:∀ {out:List World},UpW out→∀ {w:World},w∈out→lookW out w.tags=some w.whr
 | x::r,h,w,hw=>by
   unfold lookW
   rw[List.find?_cons]
   by_cases e:x.tags=w.tags
   · simp only[e,decide_true]
     rcases List.mem_cons.1 hw with rfl | hw
     · rfl
     · exact absurd e (wF ((List.pairwise_cons.1 h).1 w hw))
   · simp only[e,decide_false]
     rcases List.mem_cons.1 hw with rfl | hw
     · exact absurd rfl e
     · exact iR (List.pairwise_cons.1 h).2 hw
theorem zT(out:List World)(t:List Int):(∃w∈out,w.tags=t)∨(∀w∈out,w.tags≠t):=by
 by_cases h:∃w∈out,w.tags=t
 · exact .inl h
 · exact .inr fun w hw e=>h ⟨w,hw,e⟩
theorem Kl{out:List World}{t:List Int}{l:List Wh}(h:lookW out t=some l):∃w∈out,w.tags=t∧w.whr=l:=by
 unfold lookW at h
 obtain⟨w,hw,rfl⟩:=Option.map_eq_some_iff.1 h
 exact⟨w,List.mem_of_find?_eq_some hw,by simpa using List.find?_some hw,rfl⟩
theorem CP{x:World}{r:List World}{t:List Int}(h:x.tags≠t):lookW (x::r) t=lookW r t:=by
 unfold lookW;rw[List.find?_cons];simp only[h,decide_false]
theorem F8:∀ {a b:List World},UpW a→UpW b→(∀t,lookW a t=lookW b t)→a=b
 | [],[],_,_,_=>rfl
 | [],y::s,_,hb,h=>by
   have:=h y.tags
   rw[iR hb List.mem_cons_self]at this
   cases this
 | x::r,[],ha,_,h=>by
   have:=h x.tags
   rw[iR ha List.mem_cons_self]at this
   cases this
 | x::r,y::s,ha,hb,h=>by
   obtain⟨a1,a2⟩:=List.pairwise_cons.1 ha
   obtain⟨b1,b2⟩:=List.pairwise_cons.1 hb
   have hx:=h x.tags
   rw[iR ha List.mem_cons_self]at hx
   have hy:=h y.tags
   rw[iR hb List.mem_cons_self]at hy
   rcases mW x.tags y.tags with c | c | c
   · rw[kq]at hx
     · cases hx
     · intro w hw e
       rcases List.mem_cons.1 hw with rfl | hw
       · rw[e,lex_irrefl]at c;cases c
       · have:=lex_trans c (b1 w hw)
         rw[e,lex_irrefl]at this;cases this
   · have tl:r=s:=F8 a2 b2 fun t=>by
      by_cases e:x.tags=t
      · rw[kq fun w hw e2=>wF (a1 w hw) (e.trans e2.symm),kq fun w hw e2=>wF (b1 w hw) (c.symm.trans (e.trans e2.symm))]
      · have:=h t
        rwa [CP e,CP (fun e2=>e (c.trans e2))]at this
     rw[c,iR hb List.mem_cons_self]at hx
     obtain⟨xt,xw⟩:=x
     obtain⟨yt,yw⟩:=y
     simp only at c hx
     cases hx
     rw[c,tl]
   · rw[kq]at hy
     · cases hy
     · intro w hw e
       rcases List.mem_cons.1 hw with rfl | hw
       · rw[e,lex_irrefl]at c;cases c
       · have:=lex_trans c (a1 w hw)
         rw[e,lex_irrefl]at this;cases this
theorem RX{out:List World}{x:World}:∀y∈out.take (cA out x),lexB y.tags x.tags=true:=by
 intro y hy
 have kl:=uz out x
 obtain⟨i,hi⟩:=List.mem_iff_getElem?.1 hy
 have il:=(List.getElem?_eq_some_iff.1 hi).1
 rw[List.length_take]at il
 rw[List.getElem?_take_of_lt (by omega)]at hi
 have:=AZ (out:=out) (x:=x) (k:=i) (by omega)
 rwa [bA hi]at this
theorem RY{out:List World}{x:World}(u:UpW out)(c:¬(cA out x<out.length∧(nth out (cA out x)).tags=x.tags)):∀y∈out.drop (cA out x),lexB x.tags y.tags=true:=by
 intro y hy
 obtain⟨i,hi⟩:=List.mem_iff_getElem?.1 hy
 have il:=(List.getElem?_eq_some_iff.1 hi).1
 rw[List.length_drop]at il
 rw[List.getElem?_drop]at hi
 have c1:cA out x<out.length:=by omega
 have at_:=xi c1
 have first_:lexB x.tags (nth out (cA out x)).tags=true:=by
  rcases mW (nth out (cA out x)).tags x.tags with a | a | a
  · rw[a]at at_;cases at_
  · exact absurd ⟨c1,a⟩ c
  · exact a
 by_cases i0:i=0
 · subst i0
   rw[Nat.add_zero]at hi
   rwa [bA hi]at first_
 · have:=(List.pairwise_iff_getElem.1 u) (cA out x) (cA out x+i) (by omega) (by omega) (by omega)
   rw[← bA (List.getElem?_eq_getElem (by omega:cA out x<out.length)),←bA (List.getElem?_eq_getElem (by omega:cA out x+i<out.length)),bA hi]at this
   exact lex_trans first_ this
def acq(x:World):Option (List Wh)→List Wh
 | none=>x.whr
 | some w=>gr w x.whr
theorem uG{m:aT}(hm:m.ok){first:List Int}{out:List World}(h:BV m first out){x:World}(hx:WV m first x)(t:List Int):
 lookW (gL out x) t=if t=x.tags then some (acq x (lookW out t))else lookW out t:=by
 have bv:=(nC hm h hx).up
 have u:=h.up
 unfold gL at bv ⊢
 by_cases c:cA out x<out.length∧(nth out (cA out x)).tags=x.tags
 · rw[if_pos c]at bv ⊢
   obtain⟨c1,c2⟩:=c
   have mk:nth out (cA out x)∈out:=ae c1
   have ms:(⟨x.tags,gr (nth out (cA out x)).whr x.whr⟩:World)∈out.set (cA out x) ⟨x.tags,gr (nth out (cA out x)).whr x.whr⟩:=
    List.mem_iff_getElem?.2 ⟨cA out x,List.getElem?_set_self c1⟩
   by_cases e:t=x.tags
   · rw[if_pos e,e,iR bv ms,←c2,iR u mk]
     rfl
   · rw[if_neg e]
     rcases zT out t with⟨w,hw,rfl⟩ | hn
     · rw[iR u hw]
       obtain⟨i,hi⟩:=List.mem_iff_getElem?.1 hw
       refine iR bv (List.mem_iff_getElem?.2 ⟨i,?_⟩)
       rw[List.getElem?_set_ne,hi]
       intro e2
       rw[← e2]at hi
       rw[bA hi]at c2
       exact e c2
     · rw[kq hn,kq]
       intro w hw
       rcases List.mem_or_eq_of_mem_set hw with hw | rfl
       · exact hn w hw
       · exact fun e2=>e e2.symm
 · rw[if_neg c]at bv ⊢
   have lo:=RX (out:=out) (x:=x)
   have hi:=RY u c
   have td:out.take (cA out x)++out.drop (cA out x)=out:=List.take_append_drop _ _
   have mem:∀w,w∈out.take (cA out x)++[x]++out.drop (cA out x)↔w=x∨w∈out:=by
    intro w
    conv=>rhs;rw[← td]
    simp only[List.mem_append,List.mem_singleton]
    constructor
    · rintro ((a | a) | a)
      · exact .inr (.inl a)
      · exact .inl a
      · exact .inr (.inr a)
    · rintro (a | a | a)
      · exact .inl (.inr a)
      · exact .inl (.inl a)
      · exact .inr a
   have nx:∀w∈out,w.tags≠x.tags:=by
    intro w hw
    rw[← td]at hw
    rcases List.mem_append.1 hw with hw | hw
    · exact wF (lo w hw)
    · exact fun e=>wF (hi w hw) e.symm
   by_cases e:t=x.tags
   · rw[if_pos e,e,kq nx,iR bv ((mem x).2 (.inl rfl))]
     rfl
   · rw[if_neg e]
     rcases zT out t with⟨w,hw,rfl⟩ | hn
     · rw[iR u hw,iR bv ((mem w).2 (.inr hw))]
     · rw[kq hn,kq]
       intro w hw
       rcases (mem w).1 hw with rfl | hw
       · exact fun e2=>e e2.symm
       · exact hn w hw
structure SH(n p:Nat)(l:List Wh):Prop where
 ln:l.length=n
 fr:∀w∈l,w.frm.length=p
theorem OC{a b:Wh}(ht:a.time=b.time)(hl:a.frm.length=b.frm.length)(h:∀j,j<a.frm.length→nth a.frm j=nth b.frm j):a=b:=by
 obtain⟨t,f⟩:=a
 obtain⟨t2,f2⟩:=b
 simp only at ht hl h
 rw[ht,rB hl h]
theorem p6{a b:Wh}(h:a.frm.length=b.frm.length):(gW a b).1.time=max a.time b.time∧(gW a b).1.frm.length=a.frm.length∧∀j,j<a.frm.length→nth (gW a b).1.frm j=min (nth a.frm j) (nth b.frm j):=by
 unfold gW
 rw[if_pos h]
 exact⟨rfl,kT _ _ _,fun j hj=>AX a.frm b.frm a.frm.length j hj⟩
theorem F9(a b:List Wh):∀p,p≤a.length→∀i,i<p→nth (iN a b p) i=(gW (nth a i) (nth b i)).1
 | 0,_,i,h=>by omega
 | p+1,hp,i,h=>by
   simp only[iN]
   rw[s0 _ _ (by rw[gK];omega)]
   split
   · rename_i e;rw[e]
   · exact F9 a b p (by omega) i (by omega)
theorem oM{n p:Nat}{a b:List Wh}(ha:SH n p a)(hb:SH n p b):SH n p (gr a b)∧∀i,i<n→nth (gr a b) i=(gW (nth a i) (nth b i)).1:=by
 have l1:=ha.ln
 have l2:=hb.ln
 have e:gr a b=iN a b n:=by unfold gr;rw[l1,l2,Nat.min_self]
 have at_:=F9 a b n (by omega)
 rw[e]
 refine⟨⟨by rw[gK];exact l1,fun w hw=>?_⟩,at_⟩
 obtain⟨i,hi⟩:=List.mem_iff_getElem?.1 hw
 have il:=(List.getElem?_eq_some_iff.1 hi).1
 rw[gK]at il
 rw[← bA hi,at_ i (by omega),(p6 (by rw[ha.fr _ (ae (by omega)),hb.fr _ (ae (by omega))])).2.1]
 exact ha.fr _ (ae il)
theorem Et{n p:Nat}{a b:List Wh}(ha:SH n p a)(hb:SH n p b):gr a b=gr b a:=by
 obtain⟨s1,n1⟩:=oM ha hb
 obtain⟨s2,n2⟩:=oM hb ha
 refine rB (by rw[s1.ln,s2.ln]) fun i hi=>?_
 rw[s1.ln]at hi
 rw[n1 i hi,n2 i hi]
 have fa:=ha.fr _ (ae (l:=a) (j:=i) (by rw[ha.ln];exact hi))
 have fb:=hb.fr _ (ae (l:=b) (j:=i) (by rw[hb.ln];exact hi))
 obtain⟨t1,l1,m1⟩:=p6 (a:=nth a i) (b:=nth b i) (by rw[fa,fb])
 obtain⟨t2,l2,m2⟩:=p6 (a:=nth b i) (b:=nth a i) (by rw[fa,fb])
 refine OC (by rw[t1,t2];omega) (by rw[l1,l2,fa,fb]) fun j hj=>?_
 rw[l1]at hj
 rw[m1 j hj,m2 j (by omega)];omega
theorem CQ{n p:Nat}{a b c:List Wh}(ha:SH n p a)(hb:SH n p b)(hc:SH n p c):gr (gr a b) c=gr (gr a c) b:=by
 obtain⟨s1,n1⟩:=oM ha hb
 obtain⟨s2,n2⟩:=oM ha hc
 obtain⟨s3,n3⟩:=oM s1 hc
 obtain⟨s4,n4⟩:=oM s2 hb
 refine rB (by rw[s3.ln,s4.ln]) fun i hi=>?_
 rw[s3.ln]at hi
 rw[n3 i hi,n4 i hi,n1 i hi,n2 i hi]
 have fa:=ha.fr _ (ae (l:=a) (j:=i) (by rw[ha.ln];exact hi))
 have fb:=hb.fr _ (ae (l:=b) (j:=i) (by rw[hb.ln];exact hi))
 have fc:=hc.fr _ (ae (l:=c) (j:=i) (by rw[hc.ln];exact hi))
 obtain⟨t1,l1,m1⟩:=p6 (a:=nth a i) (b:=nth b i) (by rw[fa,fb])
 obtain⟨t2,l2,m2⟩:=p6 (a:=nth a i) (b:=nth c i) (by rw[fa,fc])
 obtain⟨t3,l3,m3⟩:=p6 (a:=(gW (nth a i) (nth b i)).1) (b:=nth c i) (by rw[l1,fa,fc])
 obtain⟨t4,l4,m4⟩:=p6 (a:=(gW (nth a i) (nth c i)).1) (b:=nth b i) (by rw[l2,fa,fb])
 refine OC (by rw[t3,t4,t1,t2];omega) (by rw[l3,l4,l1,l2]) fun j hj=>?_
 rw[l3,l1]at hj
 rw[m3 j (by omega),m4 j (by omega),m1 j (by omega),m2 j (by omega)];omega
theorem WV.sh{m:aT}{first:List Int}{x:World}(h:WV m first x):SH first.length m.places.length x.whr:=
 ⟨h.wl,fun w hw=>(bF (h.wv w hw)).1⟩
theorem Hr{m:aT}(hm:m.ok){first:List Int}{out:List World}(h:BV m first out){x y:World}(hx:WV m first x)(hy:WV m first y):gL (gL out x) y=gL (gL out y) x:=by
 have bx:=nC hm h hx
 have by_:=nC hm h hy
 refine F8 (nC hm bx hy).up (nC hm by_ hx).up fun t=>?_
 rw[uG hm bx hy,uG hm by_ hx,uG hm h hx,uG hm h hy]
 by_cases e1:t=x.tags
 · by_cases e2:t=y.tags
   · rw[if_pos e2,if_pos e1,if_pos e1,if_pos e2]
     congr 1
     have sx:=hx.sh
     have sy:=hy.sh
     cases hl:lookW out t with
     | none=>exact Et sx sy
     | some w=>
       obtain⟨z,hz, -,rfl⟩:=Kl hl
       exact CQ (h.wv z hz).sh sx sy
   · rw[if_neg e2,if_pos e1,if_pos e1,if_neg e2]
 · by_cases e2:t=y.tags
   · rw[if_pos e2,if_neg e1,if_neg e1,if_pos e2]
   · rw[if_neg e2,if_neg e1,if_neg e1,if_neg e2]
theorem zU(l:List World):∀j,j≤l.length→oJ l j=(l.take j).foldl gL []
 | 0,_=>by simp[oJ]
 | j+1,h=>by
   rw[ij (by omega),List.foldl_append]
   simp only[oJ,zU l j (by omega),List.foldl_cons,List.foldl_nil]
theorem rI(l:List World):m6 l=l.foldl gL []:=by
 unfold m6;rw[zU l _ (Nat.le_refl _),List.take_length]
theorem Km{m:aT}(hm:m.ok){first:List Int}{l l':List World}(p:l.Perm l'):(∀x∈l,WV m first x)→∀out,BV m first out→l.foldl gL out=l'.foldl gL out:=by
 induction p with
 | nil=>intro _ out _;rfl
 | cons x _ ih=>
   intro h out ho
   exact ih (fun y hy=>h y (List.mem_cons_of_mem _ hy)) _ (nC hm ho (h x List.mem_cons_self))
 | swap x y l=>
   intro h out ho
   simp only[List.foldl_cons]
   rw[Hr hm ho (h y List.mem_cons_self) (h x (List.mem_cons_of_mem _ List.mem_cons_self))]
 | trans p1 p2 ih1 ih2=>
   intro h out ho
   rw[ih1 h out ho,ih2 (fun y hy=>h y (p1.mem_iff.2 hy)) out ho]
theorem Ht{m:aT}(hm:m.ok){first:List Int}(pr:ew first=true)(f1:1≤first.length)(f2:first.length≤12){l l':List World}(p:l.Perm l')(h:∀x∈l,WV m first x):m6 l=m6 l':=by
 rw[rI,rI]
 exact Km hm p h [] ⟨pr,f1,f2,(fun x hx=>by cases hx),List.Pairwise.nil⟩
def p7(out:List World)(x:World):List World:=
 if 0<out.length∧(nth out (out.length-1)).tags=x.tags then out.set (out.length-1) ⟨x.tags,gr (nth out (out.length-1)).whr x.whr⟩else out++[x]
theorem zV{out:List World}{x:World}(u:UpW out)(h:0<out.length→lexB x.tags (nth out (out.length-1)).tags=false):gL out x=p7 out x:=by
 have kl:=uz out x
 by_cases h0:0<out.length
 · have h:=h h0
   have ge:out.length-1≤cA out x:=by
    rcases Nat.lt_or_ge (cA out x) (out.length-1)with c | c
    · exfalso
      have at_:=xi (out:=out) (x:=x) (by omega)
      have lt:=(List.pairwise_iff_getElem.1 u) (cA out x) (out.length-1) (by omega) (by omega) c
      rw[← bA (List.getElem?_eq_getElem (by omega:cA out x<out.length)),←bA (List.getElem?_eq_getElem (by omega:out.length-1<out.length))]at lt
      rcases mW (nth out (out.length-1)).tags x.tags with a | a | a
      · have:=lex_trans lt a
        rw[at_]at this;cases this
      · rw[a]at lt;rw[at_]at lt;cases lt
      · rw[h]at a;cases a
    · exact c
   unfold gL p7
   by_cases e:cA out x=out.length-1
   · rw[e]
     by_cases c:(nth out (out.length-1)).tags=x.tags
     · rw[if_pos ⟨by omega,c⟩,if_pos ⟨h0,c⟩]
     · exfalso
       have at_:=xi (out:=out) (x:=x) (by omega)
       rw[e]at at_
       rcases mW (nth out (out.length-1)).tags x.tags with a | a | a
       · rw[a]at at_;cases at_
       · exact c a
       · rw[h]at a;cases a
   · have e:cA out x=out.length:=by omega
     rw[e]
     have:¬(out.length<out.length∧(nth out out.length).tags=x.tags):=fun h=>by omega
     rw[if_neg this,List.take_length,List.drop_length,List.append_nil]
     have lt:=AZ (out:=out) (x:=x) (k:=out.length-1) (by omega)
     rw[if_neg fun h=>wF lt h.2]
 · have e:out=[]:=List.eq_nil_of_length_eq_zero (by omega)
   subst e
   unfold gL p7
   simp
end Go.Ev
namespace Go.Ev
open Go
variable [Lib] [cm] [bS] [iv] [ir] [lr] [gE] [gF] [jV] [iu] [gA] [fw] [oK] [iQ]
theorem Rp.more{H:ai}{id:Nat}{es:List D}{fa fb:Nat→Nat}{out:List World}(hr:Rp H id es fa fb out)(t:ai):Rp (H++t) id es fa fb out:=
 ⟨by rw[im (mI hr.arr)];exact hr.arr,hr.len,hr.el,fun j hj=>by rw[im (mI (hr.ha j hj))];exact hr.ha j hj,fun j hj=>by rw[im (mI (hr.hb j hj))];exact hr.hb j hj,hr.na,hr.nb,hr.nab,hr.nbb⟩
theorem A1{α:Type} [Dat α](l:List α)(x:α)(j:Nat):nth (l++[x]) j=if j<l.length then nth l j else if j=l.length then x else Dat.dflt:=by
 unfold nth
 simp only[List.getD_eq_getElem?_getD]
 split
 · rw[List.getElem?_append_left (by assumption)]
 · split
   · rename_i e;rw[e,List.getElem?_append_right (Nat.le_refl _),Nat.sub_self];rfl
   · rw[List.getElem?_eq_none (by simp;omega)];rfl
theorem Rp.snoc{H:ai}{id:Nat}{es:List D}{fa fb:Nat→Nat}{out:List World}(hr:Rp H id es fa fb out)(x:World)(o o2:Obj):
 Rp (H.set id (.arr 2 false 0 (es++[.agg [.ref (H.length+1) 0 x.tags.length,.ref (H.length+2) 0 x.whr.length]]))++[o,.arr 1 false 0 (ints x.tags),.arr 2 false 0 (whs x.whr),o2]) id
  (es++[.agg [.ref (H.length+1) 0 x.tags.length,.ref (H.length+2) 0 x.whr.length]]) (fun j=>if j<out.length then fa j else H.length+1) (fun j=>if j<out.length then fb j else H.length+2) (out++[x]):=by
 have e2:=hr.len
 have il:=mI hr.arr
 have ba:∀j,j<out.length→fa j<H.length:=fun j hj=>mI (hr.ha j hj)
 have bb:∀j,j<out.length→fb j<H.length:=fun j hj=>mI (hr.hb j hj)
 have sl:∀o,(H.set id o).length=H.length:=fun o=>List.length_set
 have getN:∀(o3:Obj) (t:ai) (k:Nat),(H.set id o3++t)[H.length+k]?=t[k]?:=fun o3 t k=>by
  have:=gh (H:=H.set id o3) (t:=t) (k:=k)
  rwa [sl]at this
 refine⟨by rw[im (by rw[sl];exact il),oC il],by simp[e2],?_,?_,?_,?_,?_,?_,?_⟩
 · intro j hj
   rw[List.length_append,List.length_singleton]at hj
   rw[A1]
   by_cases h:j<out.length
   · simp only[if_pos h];rw[List.getElem?_append_left (by omega)];exact hr.el j h
   · have:j=out.length:=by omega
     subst this
     simp only[Nat.lt_irrefl,if_false,if_true]
     rw[List.getElem?_append_right (by omega),e2,Nat.sub_self];rfl
 · intro j hj
   rw[List.length_append,List.length_singleton]at hj
   rw[A1]
   by_cases h:j<out.length
   · simp only[if_pos h];rw[im (by rw[sl];exact ba j h),ja (fun e=>hr.na j h e.symm)];exact hr.ha j h
   · have:j=out.length:=by omega
     subst this
     simp only[Nat.lt_irrefl,if_false,if_true]
     rw[getN];rfl
 · intro j hj
   rw[List.length_append,List.length_singleton]at hj
   rw[A1]
   by_cases h:j<out.length
   · simp only[if_pos h];rw[im (by rw[sl];exact bb j h),ja (fun e=>hr.nb j h e.symm)];exact hr.hb j h
   · have:j=out.length:=by omega
     subst this
     simp only[Nat.lt_irrefl,if_false,if_true]
     rw[getN];rfl
 · intro j hj;split
   · exact hr.na j (by assumption)
   · omega
 · intro j hj;split
   · exact hr.nb j (by assumption)
   · omega
 · intro i j hi hj;split
   · rename_i h1
     have:=ba i h1
     split
     · exact hr.nab i j h1 (by assumption)
     · omega
   · split
     · rename_i h1
       have:=bb j h1
       omega
     · omega
 · intro i j hi hj hne
   rw[List.length_append,List.length_singleton]at hi hj
   split
   · rename_i h1
     have:=bb i h1
     split
     · exact hr.nbb i j h1 (by assumption) hne
     · omega
   · split
     · rename_i h1
       have:=bb j h1
       omega
     · omega
abbrev tdS(s:List World)(id:Nat)(n:Nat)(j:Int)(H:ai):St:=
 ⟨[.und,.und,.und,.ref id 0 n,.und,.und,.und,.t (.sl (s.map World.e)),I s.length,I j,.und,.und],H⟩
theorem RZ(s:List World)(j:Int)(x:World)(hsx:x.sz)(out:List World)(ho:out.length≤1000000)(h0:0<out.length)(hso:∀x∈out,x.sz)(H:ai)(id:Nat)(es:List D)(fa fb:Nat→Nat)
 (hr:Rp H id es fa fb out) (hl:x.whr.length=(nth out (out.length-1)).whr.length):∀z0 z1 z2 z6:D,
 exS aO K.sk ⟨[z0,z1,z2,.ref id 0 out.length,.bp H.length 0,I out.length,z6,.t (.sl (s.map World.e)),I s.length,I j,I x.whr.length,I 0],H++[.box [.t (tL x.tags),.t (.sl (x.whr.map Wh.e))]]⟩=
 some (.exit 2,⟨[.und,.und,.und,.ref id 0 out.length,.bp H.length 0,I out.length,.und,.t (.sl (s.map World.e)),I s.length,I j,I x.whr.length,I x.whr.length],
  H.set (fb (out.length-1)) (.arr 2 false 0 (whs (gr (nth out (out.length-1)).whr x.whr)))++[.box [.t (tL x.tags),.t (.sl (x.whr.map Wh.e))]]⟩):=by
 intro z0 z1 z2 z6
 have e1:=hr.arr
 have e2:=hr.len
 have e3:=hr.el (out.length-1) (by omega)
 have e5:=hr.hb (out.length-1) (by omega)
 have e6:=hr.nb (out.length-1) (by omega)
 have e7:=mI e5
 have e8:=mI e1
 obtain⟨s1,s2,s3⟩:=hso _ (ae (l:=out) (j:=out.length-1) (by omega))
 obtain⟨x1,x2,x3⟩:=hsx
 have ej:gr (nth out (out.length-1)).whr x.whr=iN (nth out (out.length-1)).whr x.whr x.whr.length:=by unfold gr;rw[hl,Nat.min_self]
 rw[ej]
 have ci:(out.length:Int)-1=((out.length-1:Nat):Int):=by omega
 generalize nth out (out.length-1)=y at*
 generalize out.length-1=k at*
 obtain⟨ta,wa⟩:=y
 obtain⟨tb,wb⟩:=x
 simp only at s1 s2 s3 x1 x2 x3 e3 e5 hl ⊢
 have jl:=gK wa wb
 have sl:∀o,(H.set (fb k) o).length=H.length:=fun o=>List.length_set
 have q1:∀o,(H.set (fb k) o)[id]?=H[id]?:=fun o=>ja e6
 have q2:∀o,(H.set (fb k) o)[fb k]?=some o:=fun o=>oC e7
 have q3:∀o (t:ai),(H.set (fb k) o++t)[H.length]?=t[0]?:=fun o t=>by
  have:=iK (H:=H.set (fb k) o) (t:=t)
  rwa [sl]at this
 have q4:∀o (t:ai),(H.set (fb k) o++t)[id]?=H[id]?:=fun o t=>by rw[im (by rw[sl];exact e8),q1]
 have q5:∀o (t:ai),(H.set (fb k) o++t)[fb k]?=some o:=fun o t=>by rw[im (by rw[sl];exact e7),q2]
 have q6:∀o o2 (t:ai),(H.set (fb k) o++t).set (fb k) o2=H.set (fb k) o2++t:=fun o o2 t=>by rw[Ji (by rw[sl];exact e7),rC]
 refine cE (fun p=>⟨[.und,.und,.und,.ref id 0 out.length,.bp H.length 0,I out.length,.und,.t (.sl (s.map World.e)),I s.length,I j,I wb.length,I p],H.set (fb k) (.arr 2 false 0 (whs (iN wa wb p)))++[.box [.t (tL tb),.t (.sl (wb.map Wh.e))]]⟩) wb.length ?_ ?_ ?_ (by simp)
 · show(⟨_,H++_⟩:St)=⟨_,H.set (fb k) (.arr 2 false 0 (whs wa))++_⟩
   rw[Ay e5];rfl
 · intro p hp
   have jp:=jl p
   have jn:=yv wa wb p p (Nat.le_refl _)
   have jo:=MJ (nth wa p) (nth wb p) (s3 _ (ae (by omega)))
   have hj:iN wa wb (p+1)=(iN wa wb p).set p (gW (nth wa p) (nth wb p)).1:=rfl
   rw[hj]
   generalize iN wa wb p=J at*
   generalize hu:nth wb p=u at*
   generalize nth wa p=w at*
   generalize gW w u=r at*
   obtain⟨⟨rt,rf⟩,re⟩:=r
   simp only at jo ⊢
   simp (disch:=omega) only[go_sem,K.mX,↓reduceIte,q3,q4,q5,q6,sl,e1,e2,e3,ci,hu,jn,jo,Nat.reduceAdd,Nat.reduceSub]
 · have jp:=jl wb.length
   generalize iN wa wb wb.length=J at*
   simp (disch:=omega) only[go_sem,K.mX,↓reduceIte,q3,q4,q5,q6,sl,Nat.reduceAdd,Nat.reduceSub]
theorem MN(s:List World)(hsl:s.length≤1000){j:Nat}(hj:j<s.length)(hx:(nth s j).sz)(out:List World)(ho:out.length≤100000)(hso:∀x∈out,x.sz)(H:ai)(id:Nat)(es:List D)(fa fb:Nat→Nat)
 (hr:Rp H id es fa fb out) (hl:0<out.length→(nth s j).whr.length=(nth out (out.length-1)).whr.length):
 ∃H' es' fa' fb',eO false [0,1,2,4,5,6,10,11] H.length (exS aO K.gn (tdS s id out.length j H))=some (tdS s id (p7 out (nth s j)).length ((j+1:Nat):Int) H')∧Rp H' id es' fa' fb' (p7 out (nth s j)):=by
 have e1:=hr.arr
 have e2:=hr.len
 have e8:=mI e1
 have ex:(s.map World.e)[j]?=some (nth s j).e:=cZ _ hj
 have cw:=F5 (nth s j) hx
 by_cases c:0<out.length∧(nth out (out.length-1)).tags=(nth s j).tags
 · obtain⟨c0,ct⟩:=c
   have jo:=RZ s j (nth s j) hx out (by omega) c0 hso H id es fa fb hr (hl c0)
   have s1:=(hso _ (ae (l:=out) (j:=out.length-1) (by omega))).1
   have sm:=xg (nth out (out.length-1)).tags (nth s j).tags (by omega) (by have:=hx.1;omega)
   simp only[ct,decide_true]at sm
   have e3:=hr.el (out.length-1) (by omega)
   have e4:=hr.ha (out.length-1) (by omega)
   have mg:=(hr.merge (k:=out.length-1) (by omega) ⟨(nth s j).tags,gr (nth out (out.length-1)).whr (nth s j).whr⟩ ct (gK _ _ _)).more [.box [.t (tL (nth s j).tags),.t (.sl ((nth s j).whr.map Wh.e))]]
   have lw:p7 out (nth s j)=out.set (out.length-1) ⟨(nth s j).tags,gr (nth out (out.length-1)).whr (nth s j).whr⟩:=by unfold p7;rw[if_pos ⟨c0,ct⟩]
   rw[lw]
   refine⟨_,es,fa,fb,?_,mg⟩
   have ci:(out.length:Int)-1=((out.length-1:Nat):Int):=by omega
   rw[List.length_set]
   generalize nth out (out.length-1)=y at*
   generalize out.length-1=k at*
   obtain⟨ta,wa⟩:=y
   simp only at ct
   subst ct
   generalize nth s j=x at*
   obtain⟨tb,wb⟩:=x
   simp only[tdS,ints]at*
   have g4:fa k<H.length:=mI e4
   simp (disch:=omega) only[go_sem,K.gn,↓reduceIte,ex,ci,sm,e1,e2,e3,e4,jo,im,iK,gh,mq,rD,Nat.reduceAdd,Nat.reduceSub]
 · have lw:p7 out (nth s j)=out++[nth s j]:=by unfold p7;rw[if_neg c]
   rw[lw]
   refine⟨_,_,_,_,?_,hr.snoc (nth s j) (.box [.t (tL (nth s j).tags),.t (.sl ((nth s j).whr.map Wh.e))]) (.arr 2 false 0 [.agg [.ref (H.length+1) 0 (nth s j).tags.length,.ref (H.length+2) 0 (nth s j).whr.length]])⟩
   rw[List.length_append,List.length_singleton]
   by_cases c0:0<out.length
   · have ct:¬(nth out (out.length-1)).tags=(nth s j).tags:=fun e=>c ⟨c0,e⟩
     have s1:=(hso _ (ae (l:=out) (j:=out.length-1) (by omega))).1
     have sm:=xg (nth out (out.length-1)).tags (nth s j).tags (by omega) (by have:=hx.1;omega)
     simp only[ct,decide_false]at sm
     have e3:=hr.el (out.length-1) (by omega)
     have e4:=hr.ha (out.length-1) (by omega)
     have ci:(out.length:Int)-1=((out.length-1:Nat):Int):=by omega
     generalize nth out (out.length-1)=y at*
     generalize out.length-1=k at*
     obtain⟨ta,wa⟩:=y
     generalize nth s j=x at*
     obtain⟨tb,wb⟩:=x
     simp only[tdS,ints]at*
     have g4:fa k<H.length:=mI e4
     simp (disch:=omega) only[go_sem,K.gn,↓reduceIte,ex,ci,sm,e1,e2,e3,e4,cw,im,iK,gh,Ji,mq,rD,Nat.add_assoc,Bool.false_eq_true,whs,Nat.reduceAdd,Nat.reduceSub]
   · generalize nth s j=x at*
     obtain⟨tb,wb⟩:=x
     simp only[tdS,ints]at*
     simp (disch:=omega) only[go_sem,K.gn,↓reduceIte,ex,e1,e2,cw,im,iK,gh,Ji,mq,rD,Nat.add_assoc,whs,Nat.reduceAdd,Nat.reduceSub]
theorem R0{H:ai}{id:Nat}{es:List D}{fa fb:Nat→Nat}{out:List World}(hr:Rp H id es fa fb out):bL (Go.Ev.frz H 7) es=some (out.map World.e):=by
 have hl:=hr.len
 have key:∀(j:Nat) (hj:j<out.length),Go.Ev.frz H 7 (.agg [.ref (fa j) 0 (nth out j).tags.length,.ref (fb j) 0 (nth out j).whr.length])=some (nth out j).e:=by
  intro j hj
  have h1:=hr.ha j hj
  have h2:=hr.hb j hj
  simp (disch:=omega) only[go_sem,h1,h2,ints,whs,↓reduceIte]
 have:∀(es:List D) (ts:List T),es.length=ts.length→(∀(j:Nat) e t,es[j]?=some e→ts[j]?=some t→Go.Ev.frz H 7 e=some t)→bL (Go.Ev.frz H 7) es=some ts:=by
  intro es
  induction es with
  | nil=>intro ts h _;cases ts with
    | nil=>rfl
    | cons=>simp at h
  | cons e es ih=>
    intro ts h hh
    cases ts with
    | nil=>simp at h
    | cons t ts=>
      have h1:=hh 0 e t rfl rfl
      have h2:=ih ts (by simpa using h) fun j e t he ht=>hh (j+1) e t (by simpa using he) (by simpa using ht)
      simp only[bL,h1,Option.bind_some,h2,Option.map_some]
 refine this es _ (by rw[List.length_map,hl]) fun j e t he ht=>?_
 have hj:j<out.length:=by rw[← hl];exact(List.getElem?_eq_some_iff.1 he).1
 rw[hr.el j hj]at he
 rw[cZ _ hj]at ht
 cases he;cases ht
 exact key j hj
theorem Hu{H:ai}{id sz n:Nat}{pin:Bool}{es:List D}{ts:List T}(hid:H[id]?=some (.arr sz pin 0 es))(hn:n=es.length)(hf:bL (Go.Ev.frz H 7) es=some ts):finish 0 0 H [.ref id 0 n]=some (.t (.sl ts),[]):=by
 have e:Go.Ev.frz H depth (.ref id 0 n)=some (.sl ts):=by
  have ha:fq H id 0 n=some (sz,pin,es):=by simp only[fq,hid];rw[if_pos ⟨trivial,hn⟩]
  show((fq H id 0 n).bind fun a=>bL (Go.Ev.frz H 7) a.2.2).map T.sl=_
  rw[ha,Option.bind_some,hf];rfl
 have o1:[D.t (T.sl ts)].all (old 0 depth)=true:=by simp[old]
 unfold finish
 simp only[if_true,bL,rP,e,Option.map_some,Option.bind_some,o1,List.take_zero,List.all_nil,Bool.and_self,iy,Nat.zero_le,decide_true,tp]
 rw[if_pos (by simp)]
def tdP(s:List World)(j:Nat)(st:St):Prop:=
 ∃H es fa fb out,st=tdS s 1 out.length (j:Int) H∧Rp H 1 es fa fb out∧out=(s.take j).foldl p7 []
theorem MO{m:aT}(hm:m.ok){first:List Int}{out:List World}(h:∀y∈out,WV m first y){x:World}(hx:WV m first x):∀y∈p7 out x,WV m first y:=by
 intro y hy
 unfold p7 at hy
 split at hy
 · rename_i c
   obtain⟨c0,c1⟩:=c
   have wk:=h _ (ae (l:=out) (j:=out.length-1) (by omega))
   have w1:=wk.wl
   have w2:=hx.wl
   rcases List.mem_or_eq_of_mem_set hy with a | rfl
   · exact h y a
   · exact⟨hx.pm,by rw[gr,gK];exact w1,s7 hm wk.wv hx.wv _ (by omega) (by omega)⟩
 · rcases List.mem_append.1 hy with hy | hy
   · exact h y hy
   · rw[List.mem_singleton.1 hy];exact hx
theorem Ga{m:aT}(hm:m.ok){first:List Int}{s:List World}(hs:∀x∈s,WV m first x):∀j,j≤s.length→(∀y∈(s.take j).foldl p7 [],WV m first y)∧((s.take j).foldl p7 []).length≤j
 | 0,_=>⟨fun y hy=>by simp at hy,by simp⟩
 | j+1,h=>by
   obtain⟨a,b⟩:=Ga hm hs j (by omega)
   rw[ij (by omega),List.foldl_append]
   generalize (s.take j).foldl p7 []=out at*
   simp only[List.foldl_cons,List.foldl_nil]
   refine⟨MO hm a (hs _ (ae (by omega))),?_⟩
   unfold p7
   split
   · rw[List.length_set];omega
   · rw[List.length_append,List.length_singleton];omega
theorem WV.wsz{m:aT}(hm:m.ok){first:List Int}(f2:first.length≤12){x:World}(h:WV m first x):x.sz:=by
 have np:=hm.np
 have l1:=h.pm.length_eq
 have l2:=h.wl
 exact⟨by omega,by omega,fun w hw=>by have:=(bF (h.wv w hw)).1;omega⟩
theorem zW{m:aT}(hm:m.ok){first:List Int}(pr:ew first=true)(f1:1≤first.length)(f2:first.length≤12){s:List World}(hs:∀x∈s,WV m first x)(so:Er s):∀j,j≤s.length→
 (s.take j).foldl p7 []=(s.take j).foldl gL []∧BV m first ((s.take j).foldl gL [])∧∀w∈(s.take j).foldl gL [],∃k,k<j∧w.tags=(nth s k).tags
 | 0,_=>⟨rfl,⟨pr,f1,f2,(fun x hx=>by cases hx),List.Pairwise.nil⟩,fun w hw=>by simp at hw⟩
 | j+1,h=>by
   obtain⟨e,bv,fr⟩:=zW hm pr f1 f2 hs so j (by omega)
   rw[ij (by omega),List.foldl_append,List.foldl_append,e]
   simp only[List.foldl_cons,List.foldl_nil]
   have hx:=hs _ (ae (l:=s) (j:=j) (by omega))
   generalize (s.take j).foldl gL []=out at*
   refine⟨(zV bv.up fun h0=>?_).symm,nC hm bv hx,fun w hw=>?_⟩
   · obtain⟨k,hk,ek⟩:=fr _ (ae (l:=out) (j:=out.length-1) (by omega))
     rw[ek]
     have:=(List.pairwise_iff_getElem.1 so) k j (by omega) (by omega) hk
     rwa [← bA (List.getElem?_eq_getElem (by omega:k<s.length)),←bA (List.getElem?_eq_getElem (by omega:j<s.length))]at this
   · unfold gL at hw
     split at hw
     · rcases List.mem_or_eq_of_mem_set hw with a | rfl
       · obtain⟨k,hk,ek⟩:=fr w a;exact⟨k,by omega,ek⟩
       · exact⟨j,by omega,rfl⟩
     · simp only[List.mem_append,List.mem_singleton]at hw
       rcases hw with(hw | rfl) | hw
       · obtain⟨k,hk,ek⟩:=fr w (List.mem_of_mem_take hw);exact⟨k,by omega,ek⟩
       · exact⟨j,by omega,rfl⟩
       · obtain⟨k,hk,ek⟩:=fr w (List.mem_of_mem_drop hw);exact⟨k,by omega,ek⟩
theorem MP{m:aT}(hm:m.ok){first:List Int}(pr:ew first=true)(f1:1≤first.length)(f2:first.length≤12)(l:List World)(hl:∀x∈l,WV m first x)(h0:0<l.length)(h20:l.length<20):
 aO 0 N.fO [.t (.sl (l.map World.e))] []=some (.t (.sl ((m6 l).map World.e)),[]):=by
 obtain⟨s,hs,pm,so⟩:=Hp l (fun w hw=>(hl w hw).wsz hm f2) h0 h20
 have hv:=fun x hx=>hl x (pm.mem_iff.1 hx)
 have ln:=pm.length_eq
 have td:(s.take s.length).foldl p7 []=m6 l:=by
  rw[(zW hm pr f1 f2 hv so s.length (Nat.le_refl _)).1,List.take_length,←rI]
  exact Ht hm pr f1 f2 pm hv
 have loop:∀z0 z1 z2 z4 z5 z6 z10 z11:D,∃q,exS aO K.sn ⟨[z0,z1,z2,.ref 1 0 0,z4,z5,z6,.t (.sl (s.map World.e)),I s.length,I 0,z10,z11],[.box [.t (.sl (l.map World.e))],.arr 2 false 0 []]⟩=some q∧∃H es fa fb,q=(.exit 0,tdS s 1 (m6 l).length s.length H)∧Rp H 1 es fa fb (m6 l):=by
  intro z0 z1 z2 z4 z5 z6 z10 z11
  refine JP (tdP s) s.length _ ?_ ?_ ?_
  · exact⟨_,[],fun _=>0,fun _=>0,[],rfl,⟨rfl,rfl,fun j hj=>by simp at hj,fun j hj=>by simp at hj,fun j hj=>by simp at hj,fun j hj=>by simp at hj,fun j hj=>by simp at hj,fun i j hi=>by simp at hi,fun i j hi=>by simp at hi⟩,rfl⟩
  · rintro j st hj ⟨H,es,fa,fb,out,rfl,hr,ho⟩
    obtain⟨a,b⟩:=Ga hm hv j (by omega)
    rw[← ho]at a b
    have wx:=hv _ (ae (l:=s) (j:=j) hj)
    obtain⟨H',es',fa',fb',r1,r2⟩:=MN s (by omega) hj (wx.wsz hm f2) out (by omega) (fun x hx=>(a x hx).wsz hm f2) H 1 es fa fb hr (fun h=>by
     rw[wx.wl,(a _ (ae (l:=out) (j:=out.length-1) (by omega))).wl])
    refine .inl ⟨_,r1,H',es',fa',fb',_,rfl,r2,?_⟩
    rw[ij hj,List.foldl_append,←ho];rfl
  · rintro st ⟨H,es,fa,fb,out,rfl,hr,ho⟩
    rw[td]at ho
    subst ho
    refine⟨(.exit 0,tdS s 1 (m6 l).length s.length H),?_,by simp,H,es,fa,fb,rfl,hr⟩
    simp only[tdS]
    simp (disch:=omega) only[go_sem,K.gn,↓reduceIte,Nat.reduceAdd,Nat.reduceSub]
 refine ay K.p5 rfl ?_
 have va:=Hn l
 obtain⟨q,hq,H,es,fa,fb,rfl,hr⟩:=loop (.t (.sl (l.map World.e))) .nil (.t (.sl (s.map World.e))) .und .und .und .und .und
 have fin:=Hu hr.arr hr.len.symm (R0 hr)
 simp only[tdS]at hq
 simp (disch:=omega) only[go_sem,K.fO,↓reduceIte,va,hs,hq,fin,Nat.reduceAdd,Nat.reduceSub]
end Go.Ev
namespace Go.Ev
open Go
variable [Lib] [cm] [bS] [iv] [ir] [lr] [gE] [gF] [jV] [iu] [gA] [fw]
theorem Hv{m:aT}(h:m.ok)(b:Bel)(hs:b.sz):aO 0 N.eC [.t m.e,.t b.e] []=some (B (qi m b),[]):=by
 rw[← MI]
 refine ay K.pX rfl ?_
 obtain⟨h1,h2⟩:=hs
 have v:=kY h
 obtain⟨ws⟩:=b
 simp only at h1 h2
 have li:=L3 ws.length 1 24
 unfold MH
 simp only
 by_cases c:1≤ws.length∧ws.length≤24
 · have li:aO 0 N.eI [I ws.length,I 1,I 24] []=some (B true,[]):=by rw[li,decide_eq_true (by omega)]
   have e0:(ws.map World.e)[0]?=some (nth ws 0).e:=cZ _ (by omega)
   have sz:=(h2 _ (ae (l:=ws) (j:=0) (by omega))).1
   have loop:=fun a b c d e=>uq (gc:=true) (dead:=[0,1,4,6,7]) (c:=K.bI) (vs:=[a,b,.bp 0 0,.bp 1 0,c,.t (tL (iH (nth ws 0).tags)),d,e,.t (.sl (ws.map World.e)),I ws.length,I 0]) (H:=[.box (af m),.box [.t (.sl (ws.map World.e))],.box [.t (tL (nth ws 0).tags)]])
    (swS m ws (nth ws 0).tags) ws.length (fun j=> !pwB m ws (nth ws 0).tags j) (fun _ q=>q.1= .ret∧q.2.vs[4]?=some (B false))
    (.exit 0,swS m ws (nth ws 0).tags ws.length) rfl
    (fun j hj hp=>(J9 h ws _ sz h2 j hj h1).1 (by simpa using hp))
    (fun j hj hp=>by
     obtain⟨q,q1,q2,q3⟩:=(J9 h ws _ sz h2 j hj h1).2 (by simpa using hp)
     exact⟨q,q1,by rw[q2];simp,q2,q3⟩)
    (by simp (disch:=omega) only[go_sem,K.bI,swS,↓reduceIte,Nat.reduceAdd,Nat.reduceSub]) (by simp)
   rw[pH]
   have va:=yq (nth ws 0).tags
   have so:=yr (nth ws 0).tags sz
   have loop:=loop (.t m.e) (.t (Bel.e ⟨ws⟩)) (B false) .und .und
   generalize nth ws 0=x at*
   obtain⟨first,whr⟩:=x
   simp only[swS]at*
   generalize iH first=sf at*
   rcases loop with⟨e1,e2⟩ | ⟨j,⟨x,vs,H⟩,e1,e2,e3,e4⟩
   · have e2:exS aO K.n5 _=_:=e2
     simp (disch:=omega) only[go_sem,K.eC,↓reduceIte,v,li,e0,va,so,c,and_self,decide_true,Bool.true_and,e1,e2,Option.isNone,Nat.reduceAdd,Nat.reduceSub]
   · have e2:exS aO K.n5 _=_:=e2
     simp only at e3 e4
     subst e3
     simp (disch:=omega) only[go_sem,K.eC,↓reduceIte,v,li,e0,va,so,c,and_self,decide_true,Bool.true_and,e1,e2,Option.isNone,Nat.reduceAdd,Nat.reduceSub]
     simp (disch:=omega) only[go_sem,iw,e4,List.take_zero]
 · have li:aO 0 N.eI [I ws.length,I 1,I 24] []=some (B false,[]):=by rw[li,decide_eq_false (by omega)]
   simp (disch:=omega) only[go_sem,K.eC,↓reduceIte,v,li,c,decide_false,Bool.false_and,Nat.reduceAdd,Nat.reduceSub]
end Go.Ev
namespace Go.Ev
open Go
variable [Lib] [cm] [bS] [gE] [gF]
abbrev MQ:Int:=2147483648
section
variable {m : aT} (h : m.ok) {fl : List Spn}
include h
end
end Go.Ev
namespace Go.Ev
open Go
def clP(m:aT)(fl:List Spn)(y:List Int):Prop:=∀k,k<m.roads.length→∀back,0≤vj (nth m.roads k) (nth fl k) back→
 nth y ((nth m.roads k).src back).toNat+vj (nth m.roads k) (nth fl k) back≤MQ→
 nth y ((nth m.roads k).dst back).toNat≤nth y ((nth m.roads k).src back).toNat+vj (nth m.roads k) (nth fl k) back
variable [Lib] [cm] [bS] [gE] [gF]
end Go.Ev
namespace Go.Ev
open Go
variable [Lib] [cm] [bS] [gE] [gF]
def acr(l:List Int):Prop:=∀x∈l,0≤x∧(x≤MQ∨x=1099511627776)
theorem acr.bnd{l:List Int}(h:acr l):bnd l:=fun x hx=>by have:=h x hx;simp only[MQ]at this;omega
end Go.Ev
namespace Go.Ev
open Go
variable [Lib] [cm] [bS] [iv] [ir] [gE] [gF]
structure Xn(m:aT)(fl:List Spn)(s:Wh):Prop where
 ln:s.frm.length=m.places.length
 ti:inT s.time
 tm:acr s.frm
 lo:∀x∈s.frm,s.time≤x
 cl:clP m fl s.frm
theorem Xn.valid{m:aT}{fl:List Spn}{s:Wh}(h:Xn m fl s):Jv m s=true:=by
 simp only[Jv,Bool.and_eq_true,decide_eq_true_eq,List.all_eq_true,List.mem_range]
 refine⟨fun j hj=>?_,h.ln,h.ti⟩
 have a:=h.tm _ (ae hj)
 have b:=h.lo _ (ae hj)
 unfold plS
 simp only[MQ]at a
 omega
end Go.Ev
namespace Go.Ev
open Go
variable [Lib] [cm] [bS] [iv] [ir] [lr] [gE] [gF] [jV] [iu] [gA] [fw]
section
variable {m : aT} (hm : m.ok) (l : List Mch) (hl : l.length ≤ 1000) (hp : ∀ x ∈ l, x.pl.length ≤ 1000000) (s : Wh) (hs : s.frm.length ≤ 1000000) (b : Bel) (hb : b.sz) (t a : Int)
include hm hl hp hs hb
end
end Go.Ev
namespace Go.Ev
open Go
variable [Lib] [cm] [bS] [iv] [ir] [gE] [gF]
end Go.Ev
namespace Go.Ev
open Go
variable [Lib] [cm] [bS]
def sh(s x:Int):Int:=if x<1099511627776 then x+s else x
def shL(s:Int)(l:List Int):List Int:=l.map (sh s)
@[simp] theorem acs (s : Int) (l : List Int) : (shL s l).length = l.length := List.length_map ..
end Go.Ev
namespace Go.Ev
open Go
variable [Lib] [cm] [bS] [iv] [ir] [lr] [gE] [gF] [jV] [iu]
theorem qZ(l:List Int)(x:Int){j:Nat}(hj:j<l.length):nth (l++[x]) j=nth l j:=by
 unfold nth;simp[List.getD_eq_getElem?_getD,List.getElem?_append_left hj]
theorem Kn(l:List Int)(x:Int):nth (l++[x]) l.length=x:=by
 unfold nth;simp[List.getD_eq_getElem?_getD]
def acu(m:aT)(A:List Int)(k:Nat)(back:Bool)(d e:Nat):Prop:=k<m.roads.length∧0≤eX m k back 6 9 12∧(e:Int)=d+max 1 (eX m k back 6 9 12)∧(∀τ,d≤τ→τ<e→nth A τ=(nth m.roads k).src back)∧nth A e=(nth m.roads k).dst back∧e<A.length
theorem acu.snoc{m:aT}{A:List Int}{k:Nat}{back:Bool}{d e:Nat}(h:acu m A k back d e)(x:Int):acu m (A++[x]) k back d e:=by
 obtain⟨h1,h2,h3,h4,h5,h6⟩:=h
 refine⟨h1,h2,h3,fun τ a b=>?_,?_,by simp;omega⟩
 · rw[qZ _ _ (by omega)];exact h4 τ a b
 · rw[qZ _ _ h6];exact h5
theorem Ko{l:List Int}{n:Nat}(h:oP l n=true):oP l ((n+1:Nat):Int)=true∧oP (l++[(n:Int)]) ((n+1:Nat):Int)=true:=by
 simp only[oP,List.all_eq_true,List.mem_range,decide_eq_true_eq]at h ⊢
 refine⟨fun j hj=>?_,fun j hj=>?_⟩
 · obtain⟨a,b,c⟩:=h j hj;exact⟨a,by omega,c⟩
 · by_cases c:j<l.length
   · obtain⟨a,b,c⟩:=h j c
     rw[qZ _ _ (by omega)]
     refine⟨a,by omega,fun hj=>?_⟩
     rw[qZ _ _ (by omega)];exact c hj
   · have e:j=l.length:=by simp at hj;omega
     subst e
     rw[Kn]
     refine⟨by omega,by omega,fun hj=>?_⟩
     rw[qZ _ _ (by omega)]
     exact(h (l.length-1) (by omega)).2.1
theorem zX(d:aB):∀n:Nat,oP (d.kX n).1 n=true
 | 0=>rfl
 | n+1=>by
   have ih:=zX d n
   have:=Ko ih
   simp only[aB.kX]
   split
   · exact this.2
   · exact this.1
end Go.Ev
namespace Go.Ev
open Go
variable [Lib] [cm] [bS] [iv] [ir] [lr] [gE] [gF] [jV] [iu] [gA] [fw]
theorem R1{m:aT}(hm:m.ok){b:Bel}(hb:qi m b=true)(tag:Int)(l:List Int)(a c:Int):qi m (qU m b tag l a c).1=true:=by
 unfold qU
 split
 · exact hb
 · split
   · exact hb
   · split
     · exact hb
     · rename_i h
       obtain⟨ws⟩:=b
       have bv:=Xl hm (wE hb) tag l a c
       have ln:=ux m tag l a c ws ws.length
       obtain⟨h1,h2, -⟩:=fI hb
       simp only at h1 h2 h ⊢
       exact bv.bel (by omega) (by omega)
theorem R2{m:aT}(hm:m.ok){b:Bel}(hb:qi m b=true)(tag:Int)(l:List Int)(a c bl:Int):qi m (qV m b tag l a c bl).1=true:=by
 unfold qV
 split
 · exact hb
 · split
   · exact hb
   · obtain⟨ws⟩:=b
     have bv:=Xm hm (wE hb) tag l a c bl
     have ln:=uy m tag l a c bl ws ws.length
     obtain⟨h1,h2, -⟩:=fI hb
     simp only at h1 h2 ⊢
     exact bv.bel (by omega) (by omega)
theorem MR{m:aT}(hm:m.ok){b:Bel}(hb:qi m b=true)(i j t:Int):qi m (mV m b i j t).1=true:=by
 unfold mV
 split
 · exact hb
 · split
   · exact hb
   · rename_i hij
     split
     · exact hb
     · split
       · exact hb
       · rename_i hl
         obtain⟨ws⟩:=b
         have bv:=wE hb
         obtain⟨h1,h2, -⟩:=fI hb
         simp only at h1 h2 hl hij ⊢
         have nb:=uF hm bv.wv (i:=i.toNat) (j:=j.toNat) (by omega) (by omega) t ws.length (Nat.le_refl _)
         have el:=rG i.toNat j.toNat t ws ws.length
         have tv:=A0 hm bv.pr bv.f1 bv.f2 nb _ (Nat.le_refl _)
         refine BV.bel tv ?_ (Nat.not_lt.1 hl)
         have t1:∀k,1≤k→1≤(oJ (iq i.toNat j.toNat t ws ws.length) k).length:=by
          intro k hk
          obtain⟨k,rfl⟩:∃k',k=k'+1:=⟨k-1,by omega⟩
          exact(uA _ _).2.2
         exact t1 _ (by omega)
theorem vq{m:aT}(hm:m.ok){n:Int}{s:BSt}(hb:qi m s.b=true):∀k,qi m (aB.vo m n s k).b=true
 | 0=>hb
 | k+1=>by
   have ih:=vq hm (n:=n) hb k
   simp only[aB.vo]
   generalize aB.vo m n s k=q at*
   unfold aB.km
   simp only
   split
   · simp only
     split
     · exact MR hm ih _ _ _
     · exact ih
   · split
     · simp only
       split
       · exact R1 hm ih _ _ _ _
       · exact ih
     · simp only
       split
       · exact R2 hm ih _ _ _ _ _
       · exact ih
theorem zY{m:aT}(hm:m.ok)(h1:1≤m.places.length)(d:aB):qi m (d.H3 m).b=true:=by
 have pb:=yA d
 have tl:=kj d.oa
 have sl:(d.lT m).1.length=d.oa:=aB.jO _ _ _
 have t0:=(d.lT m).2.dA 100
 have t9:=(d.lT m).2.dB (n:=100) (by omega)
 have pr:=wC (n:=d.oa) (by omega)
 unfold aB.H3
 rw[AT hm h1]
 refine BV.bel (first:=p4 d.oa) ⟨pr,by omega,by omega,fun x hx=>?_,by simp⟩ (by simp) (by simp)
 rw[List.mem_singleton.1 hx]
 refine⟨List.Perm.refl _,by simp,fun w hw=>?_⟩
 simp only[gk,List.mem_map,List.mem_range]at hw
 obtain⟨i,hi,rfl⟩:=hw
 have hi:i<(d.lT m).1.length:=by rw[sl,←tl];exact hi
 have:=qX (d.next 3).2 (n:=m.places.length) (by omega) d.oa _ (ae hi)
 exact(yf hm this.1 this.2 ⟨by omega,by omega⟩).2
theorem CR{m:aT}(hm:m.ok)(h1:1≤m.places.length)(d:aB):qi m (d.qW m).1=true:=vq hm (zY hm h1 d) _
end Go.Ev
namespace Go.Ev
open Go
variable [Lib] [cm] [bS] [iv] [ir] [lr] [gE] [gF] [jV] [iu] [gA] [fw] [oK] [iQ]
end Go.Ev
namespace Go.Ev
open Go
variable [Lib] [cm] [bS] [iv] [ir]
def CS(r:Road):Road:={ r with walk:=false}
def A2(roads:List Road)(l:List Int):Nat→List Road
 | 0=>roads
 | k+1=>(A2 roads l k).set (nth l k).toNat (CS (nth (A2 roads l k) (nth l k).toNat))
theorem nD(roads:List Road)(l:List Int):∀k,(A2 roads l k).length=roads.length
 | 0=>rfl
 | k+1=>by simp only[A2,List.length_set,nD roads l k]
def cR(m:aT)(l:List Int):aT:=⟨m.places,A2 m.roads l l.length⟩
def lK(m:aT)(l:List Int):aT×Int:=if oP l m.roads.length=false then(⟨[],[]⟩,4)else(cR m l,0)
theorem MS(ts:List T)(i:Nat)(x:T):(ts.map D.t).set i (.t x)=(ts.set i x).map .t:=by simp
theorem q7{l:List Int}{n:Int}(h:oP l n=true){j:Nat}(hj:j<l.length):0≤nth l j∧nth l j<n:=by
 unfold oP at h
 rw[List.all_eq_true]at h
 have:=h j (List.mem_range.2 hj)
 simp only[decide_eq_true_eq]at this
 exact⟨this.1,this.2.1⟩
theorem Kp{n:Nat}{r:Road}(h:r.ok n):(CS r).ok n:=⟨h.f0,h.f1,h.t0,h.t1,h.ne,h.l0,h.l1,h.a0,h.a1,h.r0,h.r1,h.r2,h.i0,h.i1,h.i2⟩
theorem Kq{n:Nat}{roads:List Road}(h:∀r∈roads,r.ok n){l:List Int}(hl:∀j,j<l.length→0≤nth l j∧nth l j<roads.length):∀k,k≤l.length→∀r∈A2 roads l k,r.ok n
 | 0,_,r,hr=>h r hr
 | k+1,hk,r,hr=>by
   have ih:=Kq h hl k (by omega)
   have bl:=nD roads l k
   obtain⟨h1,h2⟩:=hl k (by omega)
   simp only[A2]at hr
   rcases List.mem_or_eq_of_mem_set hr with h3 | h3
   · exact ih r h3
   · rw[h3];exact Kp (ih _ (ae (by omega)))
theorem oN{m:aT}(h:m.ok){l:List Int}(hs:oP l m.roads.length=true):(cR m l).ok:=
 ⟨h.np,by show(A2 m.roads l l.length).length≤128;rw[nD];exact h.nr,h.hs,Kq h.rs (fun j hj=>q7 hs hj) l.length (Nat.le_refl _)⟩
def p8(l:List Int)(t:Int):Nat→List Int
 | 0=>l
 | p+1=>if t<nth (p8 l t p) p then(p8 l t p).set p never else p8 l t p
theorem jq(l:List Int)(t:Int):∀p,(p8 l t p).length=l.length
 | 0=>rfl
 | p+1=>by unfold p8;split<;>simp only[List.length_set,jq l t p]
def rO(m:aT)(w:Wh)(t:Int):Wh:=⟨t,cB m t none (p8 w.frm t w.frm.length)⟩
theorem yE{l:List Int}(h:bnd l)(t:Int):∀p,bnd (p8 l t p)
 | 0=>h
 | p+1=>by
   have ih:=yE h t p
   unfold p8
   split
   · intro x hx
     rcases List.mem_or_eq_of_mem_set hx with h1 | h1
     · exact ih x h1
     · subst h1;decide
   · exact ih
theorem CT{H H':ai}:∀(k:Nat) (d:D),(∀i∈eL H k d,∃sz pin pin' ep es,H[i]?=some (.arr sz pin ep es)∧H'[i]?=some (.arr sz pin' ep es))→frz H' k d=frz H k d∧eL H' k d=eL H k d:=by
 intro k
 induction k with
 | zero=>intro d _;cases d<;>exact⟨rfl,rfl⟩
 | succ k ih=>
   intro d h
   have list:∀es:List D,(∀i∈es.flatMap (eL H k),∃sz pin pin' ep es,H[i]?=some (.arr sz pin ep es)∧H'[i]?=some (.arr sz pin' ep es))→bL (frz H' k) es=bL (frz H k) es∧es.flatMap (eL H' k)=es.flatMap (eL H k):=by
    intro es
    induction es with
    | nil=>intro _;exact⟨rfl,rfl⟩
    | cons e es ihl=>
      intro he
      obtain⟨a1,a2⟩:=ih e fun i hi=>he i (by simp[hi])
      obtain⟨b1,b2⟩:=ihl fun i hi=>he i (by rw[List.flatMap_cons];exact List.mem_append_right _ hi)
      exact⟨by simp only[bL,a1,b1],by simp only[List.flatMap_cons,a2,b2]⟩
   cases d with
   | agg cs=>
     simp only[eL]at h
     obtain⟨a1,a2⟩:=list cs h
     exact⟨by simp only[frz,a1],by simp only[eL,a2]⟩
   | ref id ep n=>
     obtain⟨sz,pin,pin',ep',es,e1,e2⟩:=h id (by simp[eL])
     have:∀i∈es.flatMap (eL H k),∃sz pin pin' ep es,H[i]?=some (.arr sz pin ep es)∧H'[i]?=some (.arr sz pin' ep es):=fun i hi=>h i (by simp only[eL,e1];exact List.mem_cons_of_mem _ hi)
     obtain⟨a1,a2⟩:=list es this
     refine⟨?_,by simp only[eL,e1,e2,a2]⟩
     simp only[frz,fq,e1,e2]
     by_cases c:ep=ep'∧n=es.length
     · simp only[if_pos c,Option.bind_some,a1]
     · simp only[if_neg c,Option.bind_none]
   | sub id ep n lo hi=>
     obtain⟨sz,pin,pin',ep',es,e1,e2⟩:=h id (by simp[eL])
     have:∀i∈es.flatMap (eL H k),∃sz pin pin' ep es,H[i]?=some (.arr sz pin ep es)∧H'[i]?=some (.arr sz pin' ep es):=fun i hi=>h i (by simp only[eL,e1];exact List.mem_cons_of_mem _ hi)
     obtain⟨a1,a2⟩:=list es this
     have:∀i∈((es.drop lo).take (hi-lo)).flatMap (eL H k),∃sz pin pin' ep es,H[i]?=some (.arr sz pin ep es)∧H'[i]?=some (.arr sz pin' ep es):=fun i hi=>by
      obtain⟨e,he,hi⟩:=List.mem_flatMap.1 hi
      exact this i (List.mem_flatMap.2 ⟨e,List.mem_of_mem_drop (List.mem_of_mem_take he),hi⟩)
     obtain⟨b1,b2⟩:=list _ this
     refine⟨?_,by simp only[eL,e1,e2,a2]⟩
     simp only[frz,fq,e1,e2]
     by_cases c:ep=ep'∧n=es.length
     · simp only[if_pos c,Option.bind_some,b1]
     · simp only[if_neg c,Option.bind_none]
   | _=>exact⟨rfl,rfl⟩
def lU(bm:aT)(t:Int)(ws:List Wh):Nat→List Wh
 | 0=>ws
 | k+1=>(lU bm t ws k).set k (rO bm (nth ws k) t)
theorem kR(bm:aT)(t:Int)(ws:List Wh):∀k,(lU bm t ws k).length=ws.length
 | 0=>rfl
 | k+1=>by simp only[lU,List.length_set,kR bm t ws k]
theorem rJ(bm:aT)(t:Int)(ws:List Wh):∀k j,k≤ws.length→nth (lU bm t ws k) j=if j<k then rO bm (nth ws j) t else nth ws j
 | 0,j,_=>by simp[lU]
 | k+1,j,hk=>by
   have ih:=rJ bm t ws k j (by omega)
   simp only[lU]
   rw[s0 _ _ (by rw[kR];omega),ih]
   by_cases h1:j=k
   · subst h1;rw[if_pos rfl,if_pos (by omega)]
   · rw[if_neg h1]
     by_cases h2:j<k
     · rw[if_pos h2,if_pos (by omega)]
     · rw[if_neg h2,if_neg (by omega)]
def Eu(bm:aT)(t:Int)(x:World)(k:Nat):World:=⟨x.tags,lU bm t x.whr k⟩
def wG(bm:aT)(t:Int)(xs:List World):Nat→List World
 | 0=>xs
 | i+1=>(wG bm t xs i).set i (Eu bm t (nth xs i) (nth xs i).whr.length)
theorem rK(bm:aT)(t:Int)(xs:List World):∀k,(wG bm t xs k).length=xs.length
 | 0=>rfl
 | k+1=>by simp only[wG,List.length_set,rK bm t xs k]
theorem zZ(bm:aT)(t:Int)(xs:List World):∀k j,k≤xs.length→nth (wG bm t xs k) j=if j<k then Eu bm t (nth xs j) (nth xs j).whr.length else nth xs j
 | 0,j,_=>by simp[wG]
 | k+1,j,hk=>by
   have ih:=zZ bm t xs k j (by omega)
   simp only[wG]
   rw[s0 _ _ (by rw[rK];omega),ih]
   by_cases h1:j=k
   · subst h1;rw[if_pos rfl,if_pos (by omega)]
   · rw[if_neg h1]
     by_cases h2:j<k
     · rw[if_pos h2,if_pos (by omega)]
     · rw[if_neg h2,if_neg (by omega)]
section
variable {bm : aT} (hm : bm.ok) {t : Int} (i : Nat) {H : ai} {io iB iO n a fbi tl : Nat} {es : List D} {whr : List Wh} (e1 : H[iO]? = some (.box [.ref io 0 n])) (e2 : H[io]? = some (.arr 2 false 0 es)) (e3 : es.length = n)
 (e4:es[i]?=some (.agg [.ref a 0 tl,.ref fbi 0 whr.length])) (e5:H[fbi]?=some (.arr 2 false 0 (whs whr))) (e6:H[iB]?=some (.box (af bm))) (hi:i<n) (hn:n≤1000000) (hl:whr.length≤1000000)
include hm e1 e2 e3 e4 e5 e6 hi hn hl
end
theorem Rp.app{H:ai}{id:Nat}{es:List D}{fa fb:Nat→Nat}{out:List World}(hr:Rp H id es fa fb out)(t:ai):Rp (H++t) id es fa fb out:=
 ⟨by rw[im (mI hr.arr)];exact hr.arr,hr.len,hr.el,fun j hj=>by rw[im (mI (hr.ha j hj))];exact hr.ha j hj,fun j hj=>by rw[im (mI (hr.hb j hj))];exact hr.hb j hj,hr.na,hr.nb,hr.nab,hr.nbb⟩
structure SlH(H:ai)(b:List World)(bm:aT)(iB iO io:Nat)(es:List D)(fa fb:Nat→Nat)(A:List Nat)(O:List World):Prop where
 h1:H[1]?=some (.box [.ref 3 0 b.length])
 h2:H[2]?=some (.box [.nil])
 hB:H[iB]?=some (.box (af bm))
 hO:H[iO]?=some (.box [.ref io 0 O.length])
 rp:Rp H io es fa fb O
 ar:∀i∈A,∃sz pin ep es,H[i]?=some (.arr sz pin ep es)
 nA:∀i∈A,∀j,j<O.length→i≠fb j
 eA:eL H 7 (.ref 3 0 b.length)=A
 fr:frz H 7 (.ref 3 0 b.length)=some (.sl (b.map World.e))
theorem SlH.step{H:ai}{b:List World}{bm:aT}{iB iO io:Nat}{es:List D}{fa fb:Nat→Nat}{A:List Nat}{O:List World}(h:SlH H b bm iB iO io es fa fb A O){i:Nat}(hi:i<O.length)(x:World)(ht:(nth O i).tags=x.tags)
 (hw:x.whr.length=(nth O i).whr.length) (o:Obj):SlH (H.set (fb i) (.arr 2 false 0 (whs x.whr))++[o]) b bm iB iO io es fa fb A (O.set i x):=by
 have hb:=h.rp.hb i hi
 have nb:∀ {k:Nat} {cs:List D},H[k]?=some (.box cs)→(H.set (fb i) (.arr 2 false 0 (whs x.whr))++[o])[k]?=some (.box cs):=fun{k cs} hk=>by
  have ne:fb i≠k:=fun e=>by rw[e,hk]at hb;cases hb
  rw[im (by rw[List.length_set];exact mI hk),ja ne];exact hk
 have na:∀k∈A,(H.set (fb i) (.arr 2 false 0 (whs x.whr))++[o])[k]?=H[k]?:=fun k hk=>by
  obtain⟨sz,pin,ep,es',e⟩:=h.ar k hk
  rw[im (by rw[List.length_set];exact mI e),ja (fun e=>h.nA k hk i hi e.symm)]
 have fc:=CT (H:=H) (H':=H.set (fb i) (.arr 2 false 0 (whs x.whr))++[o]) 7 (.ref 3 0 b.length) (fun k hk=>by
  rw[h.eA]at hk
  obtain⟨sz,pin,ep,es',e⟩:=h.ar k hk
  exact⟨sz,pin,pin,ep,es',e,by rw[na k hk];exact e⟩)
 refine⟨nb h.h1,nb h.h2,nb h.hB,by rw[List.length_set];exact nb h.hO,(h.rp.merge hi x ht hw).app _,fun k hk=>?_,by rw[List.length_set];exact h.nA,by rw[fc.2];exact h.eA,by rw[fc.1];exact h.fr⟩
 obtain⟨sz,pin,ep,es',e⟩:=h.ar k hk
 exact⟨sz,pin,ep,es',by rw[na k hk];exact e⟩
def SlE(b:List World)(H:ai):Prop:=H[2]?=some (.box [.ref 3 0 b.length])∧frz H 7 (.ref 3 0 b.length)=some (.sl (b.map World.e))
theorem SlH.late{H:ai}{b:List World}{bm:aT}{iB iO io:Nat}{es:List D}{fa fb:Nat→Nat}{A:List Nat}{O:List World}(h:SlH H b bm iB iO io es fa fb A O)(o:Obj):SlE b (H.set 2 (.box [.ref 3 0 b.length])++[o]):=by
 have l2:=mI h.h2
 have fc:=CT (H:=H) (H':=H.set 2 (.box [.ref 3 0 b.length])++[o]) 7 (.ref 3 0 b.length) (fun k hk=>by
  rw[h.eA]at hk
  obtain⟨sz,pin,ep,es',e⟩:=h.ar k hk
  have ne:2≠k:=fun e2=>by rw[← e2,h.h2]at e;cases e
  exact⟨sz,pin,pin,ep,es',e,by rw[im (by rw[List.length_set];exact mI e),ja ne];exact e⟩)
 exact⟨by rw[im (by rw[List.length_set];exact l2),oC l2],by rw[fc.1];exact h.fr⟩
def R3(t:Int)(ws:List Wh)(k:Nat):Bool:=decide (t<(nth ws k).time∨2147483648<t)
def Ew(t:Int)(xs:List World)(i:Nat):Bool:=(List.range (nth xs i).whr.length).any (R3 t (nth xs i).whr)
end Go.Ev
namespace Go.Ev
open Go
variable [Lib] [cm] [bS] [iv] [ir]
def yF(m:aT)(b:Bel)(bars:List Int)(t:Int):Bel×Int:=
 if qi m b=false then(b,6)else if(lK m bars).2≠0 then(b,(lK m bars).2)else if(List.range b.worlds.length).any (Ew t b.worlds)=true then(b,8)
 else(⟨m6 (wG (lK m bars).1 t b.worlds b.worlds.length)⟩,0)
end Go.Ev
namespace Go.Ev
open Go
variable [Lib] [cm] [bS] [iv] [ir] [lr] [gE] [gF] [jV] [iu] [gA] [fw] [oK] [iQ] [m0] [uv]
theorem Hw(l:List Place)(hl:l.length≤1000000):aO 0 N.aE [.t (.sl (l.map Place.e))] []=some (.t (.sl (l.map Place.e)),[]):=by
 refine ay K.dm rfl ?_
 by_cases h0:l=[]
 · subst h0
   simp only[List.map_nil]
   simp (disch:=omega) only[go_sem,K.aE,↓reduceIte,List.map_nil,Nat.reduceAdd,Nat.reduceSub]
 · have e:=fun H=>xa H (l.map Place.e) (by simpa using h0)
   simp (disch:=omega) only[go_sem,K.aE,↓reduceIte,e,Nat.reduceAdd,Nat.reduceSub]
theorem Hx(l:List Road)(hl:l.length≤1000000):aO 1 N.aK [.t (.sl (l.map Road.e))] []=some (.ref 0 0 l.length,[.arr 10 false 0 ((l.map Road.e).map .t)]):=by
 refine ay K.dC rfl ?_
 by_cases h0:l=[]
 · subst h0
   simp only[List.map_nil]
   simp (disch:=omega) only[go_sem,K.aK,↓reduceIte,List.map_nil,List.length_nil,Nat.reduceAdd,Nat.reduceSub]
 · have e:=fun H=>xa H (l.map Road.e) (by simpa using h0)
   simp (disch:=omega) only[go_sem,K.aK,↓reduceIte,e,Nat.reduceAdd,Nat.reduceSub]
theorem Hy{m:aT}(h:m.ok)(l:List Int)(hl:l.length≤1000000):aO 0 N.fe [.t m.e,.t (tL l)] []=some (.tup [.t (lK m l).1.e,I (lK m l).2],[]):=by
 refine ay K.pT rfl ?_
 have np:=h.np
 have nr:=h.nr
 have pv:=kY h
 have ri:=Cs l 0 ((m.roads.length:Int)-1) (by omega)
 rw[Rl]at ri
 have c1:=Hw m.places (by omega)
 have c2:=Hx m.roads (by omega)
 unfold lK
 cases hs:oP l m.roads.length with
 | false=>
   rw[hs]at ri
   obtain⟨places,roads⟩:=m
   simp only at*
   simp (disch:=omega) only[go_sem,K.fe,↓reduceIte,pv,ri,List.map_nil,Nat.reduceAdd,Nat.reduceSub]
   rfl
 | true=>
   rw[hs]at ri
   have sp:=fun j hj=>q7 (j:=j) hs hj
   clear hs
   obtain⟨places,roads⟩:=m
   simp only at*
   have loop:∀z0 z1 z2 z4 z6:D,exS aO K.si ⟨[z0,z1,z2,.bp 1 0,z4,.bp 2 0,z6,.t (tL l),I l.length,I 0],[.box [.t (.sl (places.map Place.e)),.t (.sl (roads.map Road.e))],.box [.nil,.nil],.box [.t (.sl (places.map Place.e)),.ref 3 0 roads.length],.arr 10 false 0 ((roads.map Road.e).map .t)]⟩=
    some (.exit 1,⟨[.und,.und,.und,.bp 1 0,.und,.bp 2 0,.und,.t (tL l),I l.length,I l.length],[.box [.t (.sl (places.map Place.e)),.t (.sl (roads.map Road.e))],.box [.nil,.nil],.box [.t (.sl (places.map Place.e)),.ref 3 0 roads.length],.arr 10 false 0 (((A2 roads l l.length).map Road.e).map .t)]⟩):=by
    intro z0 z1 z2 z4 z6
    refine cE (fun k=>⟨[.und,.und,.und,.bp 1 0,.und,.bp 2 0,.und,.t (tL l),I l.length,I k],[.box [.t (.sl (places.map Place.e)),.t (.sl (roads.map Road.e))],.box [.nil,.nil],.box [.t (.sl (places.map Place.e)),.ref 3 0 roads.length],.arr 10 false 0 (((A2 roads l k).map Road.e).map .t)]⟩) l.length rfl ?_ ?_ (by simp)
    · intro k hk
      obtain⟨s1,s2⟩:=sp k hk
      have bl:=nD roads l k
      simp only[A2]at*
      generalize hy:nth l k=y at*
      obtain⟨i,rfl⟩:=Int.eq_ofNat_of_zero_le s1
      simp only[Int.toNat_natCast]at*
      generalize hR:A2 roads l k=R at*
      have g:((R.map Road.e).map D.t)[i]?=some (.t (nth R i).e):=AA _ _ (by omega)
      have hset:((R.set i (CS (nth R i))).map Road.e).map D.t=((R.map Road.e).map D.t).set i (.t (CS (nth R i)).e):=by simp
      rw[hset]
      generalize nth R i=x at*
      obtain⟨frm,to,len,ar,walk,closed,rl,rh,ll,lh⟩:=x
      simp only[CS]at*
      simp (disch:=omega) only[go_sem,K.mO,↓reduceIte,hy,g,MS,Nat.reduceAdd,Nat.reduceSub]
    · have bl:=nD roads l l.length
      simp (disch:=omega) only[go_sem,K.mO,↓reduceIte,Nat.reduceAdd,Nat.reduceSub]
   have bl:=nD roads l l.length
   simp only[cR]
   generalize A2 roads l l.length=R at*
   simp only[Bool.true_eq_false,if_false]
   simp (disch:=omega) only[go_sem,K.fe,↓reduceIte,pv,ri,c1,c2,loop,Nat.reduceAdd,Nat.reduceSub]
def asN(frm ps:List Int):Nat→List Int
 | 0=>ik frm.length
 | k+1=>(asN frm ps k).set (nth ps k).toNat (nth frm (nth ps k).toNat)
theorem yG(frm ps:List Int):∀k,(asN frm ps k).length=frm.length
 | 0=>jL _
 | k+1=>by simp only[asN,List.length_set,yG frm ps k]
theorem q8(l:List Int)(t:Int):∀p,p≤l.length→∀j,j<l.length→nth (p8 l t p) j=if j<p∧t<nth l j then never else nth l j
 | 0,_,j,_=>by simp[p8]
 | p+1,hp,j,hj=>by
   have ih:=q8 l t p (by omega)
   have ln:=jq l t p
   have e:=ih p (by omega)
   rw[if_neg (by omega)]at e
   unfold p8
   rw[e]
   by_cases c:t<nth l p
   · rw[if_pos c,nj _ _ (by omega),ih j hj]
     by_cases h:j=p
     · subst h;rw[if_pos rfl,if_pos ⟨by omega,c⟩]
     · rw[if_neg h]
       by_cases h2:j<p∧t<nth l j
       · rw[if_pos h2,if_pos ⟨by omega,h2.2⟩]
       · rw[if_neg h2,if_neg fun x=>h2 ⟨by omega,x.2⟩]
   · rw[if_neg c,ih j hj]
     by_cases h2:j<p∧t<nth l j
     · rw[if_pos h2,if_pos ⟨by omega,h2.2⟩]
     · rw[if_neg h2,if_neg fun x=>h2 ⟨by
        rcases Nat.lt_or_ge j p with a | a
        · exact a
        · have:j=p:=by omega
          subst this;exact(c x.2).elim,x.2⟩]
theorem Kr(frm ps:List Int)(hp:∀x∈ps,∃q:Nat,x=q∧q<frm.length):∀k,k≤ps.length→∀j,j<frm.length→nth (asN frm ps k) j=if(j:Int)∈ps.take k then nth frm j else never
 | 0,_,j,hj=>by
   simp only[asN,List.take_zero,List.not_mem_nil,if_false]
   exact GV _ _ hj
 | k+1,hk,j,hj=>by
   have ih:=Kr frm ps hp k (by omega) j hj
   obtain⟨q,e,hq⟩:=hp _ (ae (l:=ps) (j:=k) (by omega))
   unfold asN
   rw[ij (by omega),e,Int.toNat_natCast,nj _ _ (by rw[yG];exact hq),ih]
   simp only[List.mem_append,List.mem_singleton]
   by_cases h:j=q
   · subst h;simp
   · rw[if_neg h]
     have:¬(j:Int)=q:=by omega
     simp[this]
theorem MT(w:Wh)(t:Int):asN w.frm (jQ w t) (jQ w t).length=p8 w.frm t w.frm.length:=by
 have pp:∀x∈jQ w t,∃q:Nat,x=q∧q<w.frm.length:=fun x hx=>by
  obtain⟨q,e,h, -⟩:=yg hx
  exact⟨q,e,h⟩
 refine rB (by rw[yG,jq]) fun j hj=>?_
 rw[yG]at hj
 rw[Kr _ _ pp _ (Nat.le_refl _) j hj,q8 _ _ _ (Nat.le_refl _) j hj,List.take_length]
 have e:((j:Int)∈jQ w t)↔nth w.frm j≤t:=by
  unfold jQ
  rw[yZ]
  simp[hj]
 by_cases c:nth w.frm j≤t
 · rw[if_pos (e.2 c),if_neg (by omega)]
 · rw[if_neg (fun h=>c (e.1 h)),if_pos ⟨hj,by omega⟩]
theorem Xo(w:Wh)(t:Int)(k:Nat)(hk:k<(jQ w t).length):∃q:Nat,nth (jQ w t) k=q∧q<w.frm.length:=by
 obtain⟨q,e,h, -⟩:=yg (ae hk)
 exact⟨q,e,h⟩
theorem MU{m:aT}(h:m.ok)(w:Wh)(hw:w.frm.length=m.places.length)(h1:1≤m.places.length)(t:Int):
 aO 0 N.jd [.t m.e,.t w.e,I t] []=some (.tup [.t (wm m ⟨w.time,p8 w.frm t w.frm.length⟩ t).1.e,I (wm m ⟨w.time,p8 w.frm t w.frm.length⟩ t).2],[]):=by
 refine ay K.sX rfl ?_
 have np:=h.np
 have rp:aO 1 N.bc [.t (.sl [.int .i64 1099511627776]),I w.frm.length] []=_:=Js 1099511627776 w.frm.length (by omega) (by omega)
 rw[show List.replicate w.frm.length (I 1099511627776)=(((ik w.frm.length).map (T.int .i64)).map .t)by simp[ik]]at rp
 have po:=Kd w t (by omega)
 have pl:(jQ w t).length≤w.frm.length:=rA _ _
 have ra:=JE h ⟨w.time,p8 w.frm t w.frm.length⟩ t (by simp only[jq];omega)
 have sl:=Xo w t
 have al:=yG w.frm (jQ w t)
 rw[← MT]at ra ⊢
 have z:asN w.frm (jQ w t) 0=ik w.frm.length:=rfl
 have s:∀k,asN w.frm (jQ w t) (k+1)=(asN w.frm (jQ w t) k).set (nth (jQ w t) k).toNat (nth w.frm (nth (jQ w t) k).toNat):=fun k=>rfl
 generalize asN w.frm (jQ w t)=A at*
 generalize jQ w t=ps at*
 generalize wm m ⟨w.time,A ps.length⟩ t=R at*
 obtain⟨⟨rt,rf⟩,rc⟩:=R
 obtain⟨time,frm⟩:=w
 simp only at*
 have lp:∀z0 z1 z6 z8:D,exS aO K.wA ⟨[z0,z1,I t,.bp 0 0,.bp 1 0,.bp 2 0,z6,.ref 3 0 frm.length,z8,.t (tL ps),I ps.length,I 0],[.box (af m),.box [I time,.t (tL frm)],.box [I 0,.nil],wL (A 0)]⟩=
  some (.exit 0,⟨[.und,.und,I t,.bp 0 0,.bp 1 0,.bp 2 0,.und,.ref 3 0 frm.length,.und,.t (tL ps),I ps.length,I ps.length],[.box (af m),.box [I time,.t (tL frm)],.box [I 0,.nil],wL (A ps.length)]⟩):=by
  intro z0 z1 z6 z8
  refine cE (fun j=>⟨[.und,.und,I t,.bp 0 0,.bp 1 0,.bp 2 0,.und,.ref 3 0 frm.length,.und,.t (tL ps),I ps.length,I j],[.box (af m),.box [I time,.t (tL frm)],.box [I 0,.nil],wL (A j)]⟩) ps.length rfl ?_ ?_ (by simp)
  · intro j hj
    obtain⟨q,e,hq⟩:=sl j hj
    have a1:=al j
    rw[s,e,Int.toNat_natCast]
    generalize A j=a at*
    obtain⟨places,roads⟩:=m
    simp only[af]at*
    rw[← a1]
    simp (disch:=omega) only[go_sem,K.pS,↓reduceIte,e,a1,List.length_set,Nat.reduceAdd,Nat.reduceSub]
  · have a1:=al ps.length
    obtain⟨places,roads⟩:=m
    simp only[af]at*
    rw[← a1]
    simp (disch:=omega) only[go_sem,K.pS,↓reduceIte,Nat.reduceAdd,Nat.reduceSub]
 simp only[z]at lp
 have a1:=al ps.length
 have nl:=jL frm.length
 generalize A ps.length=a at*
 generalize ik frm.length=ne at*
 obtain⟨places,roads⟩:=m
 simp only[af,wL]at*
 simp (disch:=omega) only[go_sem,K.jd,↓reduceIte,rp,po,lp,ra,Nat.reduceAdd,Nat.reduceSub]
theorem Ks{m:aT}(hm:m.ok){w:Wh}(hl:w.frm.length=m.places.length)(ht:inT w.time)(hp:∀x∈w.frm,plT x){t:Int}(h1:w.time≤t)(h2:t≤2147483648):
 wm m ⟨w.time,p8 w.frm t w.frm.length⟩ t=(rO m w t,0)∧cH m (rO m w t)=true:=by
 have ps:∀x∈p8 w.frm t w.frm.length,plT x:=fun x hx=>by
  obtain⟨j,hj⟩:=List.mem_iff_getElem?.1 hx
  have jl:=(List.getElem?_eq_some_iff.1 hj).1
  rw[jq]at jl
  rw[← bA hj,q8 _ _ _ (Nat.le_refl _) _ jl]
  split
  · exact .inl rfl
  · exact hp _ (ae jl)
 have it:inT t:=by unfold inT at *;omega
 refine⟨?_,pL hm (by rw[jq,hl]) ps it.1 (Int.le_refl _) it⟩
 unfold wm
 have pl:mH ⟨w.time,p8 w.frm t w.frm.length⟩ m.places.length=true:=by
  simp only[mH,Bool.and_eq_true,decide_eq_true_eq,List.all_eq_true,List.mem_range,jq]
  exact⟨⟨by omega,ht⟩,fun j hj=>ps _ (ae (by rw[jq];exact hj))⟩
 rw[pl]
 simp only[Bool.true_eq_false,if_false]
 rw[if_neg (by omega)]
 rfl
abbrev asV(ws out:List World)(i:Int)(k:D)(w n j:D):List D:=[.und,.und,.und,.und,.und,.bp 1 0,.bp 2 0,.bp 3 0,.und,.bp 4 0,.und,.und,.ref 5 0 out.length,.und,k,.und,.und,.und,.und,.t (.sl (ws.map World.e)),I ws.length,I i,w,n,j]
abbrev asH(m bm:aT)(ws out:List World)(t:Int):ai:=[.box (af m),.box [.t (.sl (ws.map World.e))],.box [I t],.box [.nil],.box (af bm),.arr 2 false 0 ((out.map World.e).map .t)]
abbrev asT(x0 x1:T)(tags:List Int)(q:List Wh):ai:=[.box [.t x0,.t x1],.arr 1 false 0 ((tags.map (T.int .i64)).map .t),.arr 2 false 0 ((q.map Wh.e).map .t),.box [.ref 7 0 tags.length,.ref 8 0 q.length]]
theorem acv{bm:aT}(h:bm.ok)(h1:1≤bm.places.length)(m:aT)(ws out:List World)(x0 x1:T)(tags:List Int)(whr:List Wh)(hl:whr.length≤1000000)(t i:Int)(ht:t≤2147483648)
 (hz:∀w∈whr,w.frm.length=bm.places.length∧inT w.time∧(∀x∈w.frm,plT x)∧w.time≤t):∀z0 z1 z2 z3 z4 z8 z10 z11 z13 z15 z16 z17 z18:D,
 exS aO K.wq ⟨[z0,z1,z2,z3,z4,.bp 1 0,.bp 2 0,.bp 3 0,z8,.bp 4 0,z10,z11,.ref 5 0 out.length,z13,.bp 9 0,z15,z16,z17,z18,.t (.sl (ws.map World.e)),I ws.length,I i,.t (.sl (whr.map Wh.e)),I whr.length,I 0],asH m bm ws out t++asT x0 x1 tags whr⟩=
 some (.exit 2,⟨asV ws out i (.bp 9 0) (.t (.sl (whr.map Wh.e))) (I whr.length) (I whr.length),asH m bm ws out t++asT x0 x1 tags (lU bm t whr whr.length)⟩):=by
 intro z0 z1 z2 z3 z4 z8 z10 z11 z13 z15 z16 z17 z18
 have ln:=kR bm t whr
 refine cE (fun j=>⟨asV ws out i (.bp 9 0) (.t (.sl (whr.map Wh.e))) (I whr.length) (I j),asH m bm ws out t++asT x0 x1 tags (lU bm t whr j)⟩) whr.length rfl ?_ ?_ (by simp)
 · intro j hj
   obtain⟨a1,a2,a3,a4⟩:=hz _ (ae hj)
   have g:=MU h (nth whr j) a1 h1 t
   rw[(Ks h a1 a2 a3 a4 ht).1]at g
   have ex:(whr.map Wh.e)[j]?=some (nth whr j).e:=cZ _ hj
   have l1:=ln j
   have e:lU bm t whr (j+1)=(lU bm t whr j).set j (rO bm (nth whr j) t):=by
    have n:=rJ bm t whr j j (by omega)
    rw[if_neg (by omega)]at n
    first | rfl | rw[lU,n]
   rw[e]
   clear e hz ln
   generalize lU bm t whr j=q at*
   generalize rO bm (nth whr j) t=r at*
   obtain⟨t1,f1⟩:=r
   generalize nth whr j=x at*
   obtain⟨tx,fx⟩:=x
   obtain⟨places,roads⟩:=m
   obtain⟨bp,br⟩:=bm
   simp only[af,asV,asH,asT,List.cons_append,List.nil_append]at*
   simp (disch:=omega) only[go_sem,K.pR,↓reduceIte,g,ex,List.length_set,Nat.reduceAdd,Nat.reduceSub]
 · have l1:=ln whr.length
   generalize lU bm t whr whr.length=q at*
   obtain⟨places,roads⟩:=m
   obtain⟨bp,br⟩:=bm
   simp only[af,asV,asH,asT,List.cons_append,List.nil_append]at*
   simp (disch:=omega) only[go_sem,K.pR,↓reduceIte,Nat.reduceAdd,Nat.reduceSub]
def jr(bm:aT)(t:Int)(x:World):World:=Eu bm t x x.whr.length
theorem Xp{bm:aT}(h:bm.ok)(h1:1≤bm.places.length)(m:aT)(ws:List World)(hw:ws.length≤1000000)(hs:∀x∈ws,x.sz)(t:Int)(ht:t≤2147483648)
 (hz:∀x∈ws,∀w∈x.whr,w.frm.length=bm.places.length∧inT w.time∧(∀y∈w.frm,plT y)∧w.time≤t):∀z0 z1 z2 z3 z4 z8 z10 z11 z13 z14 z15 z16 z17 z18 z22 z23 z24:D,
 exS aO K.wu ⟨[z0,z1,z2,z3,z4,.bp 1 0,.bp 2 0,.bp 3 0,z8,.bp 4 0,z10,z11,.ref 5 0 0,z13,z14,z15,z16,z17,z18,.t (.sl (ws.map World.e)),I ws.length,I 0,z22,z23,z24],asH m bm ws [] t⟩=
 some (.exit 0,⟨asV ws (ws.map (jr bm t)) ws.length .und .und .und .und,asH m bm ws (ws.map (jr bm t)) t⟩):=by
 intro z0 z1 z2 z3 z4 z8 z10 z11 z13 z14 z15 z16 z17 z18 z22 z23 z24
 have key:=cE (gc:=true) (dead:=[0,1,2,3,4,8,10,11,13,14,15,16,17,18,22,23,24]) (c:=K.me) (vs:=[z0,z1,z2,z3,z4,.bp 1 0,.bp 2 0,.bp 3 0,z8,.bp 4 0,z10,z11,.ref 5 0 0,z13,z14,z15,z16,z17,z18,.t (.sl (ws.map World.e)),I ws.length,I 0,z22,z23,z24]) (H:=asH m bm ws [] t)
  (fun j=>⟨asV ws ((ws.take j).map (jr bm t)) j .und .und .und .und,asH m bm ws ((ws.take j).map (jr bm t)) t⟩) ws.length (e:= .exit 0) (st:=⟨asV ws (ws.map (jr bm t)) ws.length .und .und .und .und,asH m bm ws (ws.map (jr bm t)) t⟩) (by simp only[iY,List.set_cons_succ,List.set_cons_zero,List.take_zero,List.map_nil,List.length_nil];rfl)
  (fun j hj=>by
   obtain⟨z1,z2,z3⟩:=hs _ (ae hj)
   have cw:=F5 (nth ws j) ⟨z1,z2,z3⟩
   have inn:=acv h h1 m ws ((ws.take j).map (jr bm t)) (tL (nth ws j).tags) (.sl ((nth ws j).whr.map Wh.e)) (nth ws j).tags (nth ws j).whr z2 t j ht (hz _ (ae hj)) .und .und .und .und .und .und .und .und (.bp 6 0) .und .und .und .und
   have ex:(ws.map World.e)[j]?=some (nth ws j).e:=cZ _ hj
   have tk:(ws.take (j+1)).map (jr bm t)=(ws.take j).map (jr bm t)++[jr bm t (nth ws j)]:=by rw[ij hj,List.map_append];rfl
   have ol:((ws.take j).map (jr bm t)).length≤1000000:=by simp;omega
   have gl:=kR bm t (nth ws j).whr (nth ws j).whr.length
   rw[tk]
   clear tk hz hs
   unfold jr Eu at*
   generalize (ws.take j).map (fun x:World=>(⟨x.tags,lU bm t x.whr x.whr.length⟩:World))=out at*
   generalize lU bm t (nth ws j).whr (nth ws j).whr.length=q at*
   generalize nth ws j=x at*
   obtain⟨tags,whr⟩:=x
   obtain⟨places,roads⟩:=m
   obtain⟨bp,br⟩:=bm
   simp only[af,asV,asH,asT,List.cons_append,List.nil_append]at*
   simp (disch:=omega) only[go_sem,K.me,↓reduceIte,ex,cw,inn,gl,Nat.reduceAdd,Nat.reduceSub]
   )
  (by
   rw[List.take_length]
   generalize ws.map (jr bm t)=out
   obtain⟨places,roads⟩:=m
   obtain⟨bp,br⟩:=bm
   simp only[af,asV,asH]
   simp (disch:=omega) only[go_sem,K.me,↓reduceIte,Nat.reduceAdd,Nat.reduceSub]
   ) (by simp)
 exact key
theorem Hz(w:Wh)(t:Int):aO 0 N.cz [.t w.e,.bp 0 0] [.box [I t]]=some (B (decide (t<w.time)),[.box [I t]]):=by
 refine ay K.mP rfl ?_
 obtain⟨tm,frm⟩:=w
 by_cases c:t<tm
 · simp (disch:=omega) only[go_sem,K.cz,↓reduceIte,c,decide_true,Nat.reduceAdd,Nat.reduceSub]
 · simp (disch:=omega) only[go_sem,K.cz,↓reduceIte,c,decide_false,Nat.reduceAdd,Nat.reduceSub]
def kr(t:Int)(x:World):Bool:=x.whr.any fun w=>decide (t<w.time)
theorem Kt(x:World)(hx:x.sz)(t:Int):aO 0 N.eD [.t x.e,.bp 0 0] [.box [I t]]=some (B (kr t x),[.box [I t]]):=by
 refine ay K.pU rfl ?_
 obtain⟨h1,h2,h3⟩:=hx
 have cf:=qd x.whr (by omega) N.cz [[tI t]] (fun w=>decide (t<w.time)) (fun w hw=>Hz w t)
 have cf:aO 0 N.aa [.t (.sl (x.whr.map Wh.e)),.fn N.cz [.bp 0 0]] [.box [I t]]=some (B (kr t x),[.box [I t]]):=cf
 generalize kr t x=b at*
 obtain⟨tags,whr⟩:=x
 simp (disch:=omega) only[go_sem,K.eD,↓reduceIte,cf,Nat.reduceAdd,Nat.reduceSub]
theorem MV(b:Bel)(hb:b.sz)(t:Int):aO 0 N.av [.t (.sl (b.worlds.map World.e)),.fn N.eD [.bp 0 0]] [.box [I t]]=some (B (b.worlds.any (kr t)),[.box [I t]]):=
 wM b.worlds (by have:=hb.1;omega) N.eD [[tI t]] (kr t) (fun x hx=>Kt x (hb.2 x hx) t)
theorem Aa{t:Int}(ht:t≤2147483648)(ws:List World):(List.range ws.length).any (Ew t ws)=ws.any (kr t):=by
 have e:∀i,Ew t ws i=kr t (nth ws i):=fun i=>by
  unfold Ew kr R3
  rw[← D2 (nth ws i).whr (fun w=>decide (t<w.time))]
  congr 1
  funext k
  rw[Bool.eq_iff_iff,decide_eq_true_eq,decide_eq_true_eq]
  omega
 rw[show Ew t ws=fun i=>kr t (nth ws i)from funext e]
 exact D2 ws (kr t)
theorem Ab(bm:aT)(t:Int)(ws:List World):wG bm t ws ws.length=ws.map (jr bm t):=by
 refine rB (by rw[rK,List.length_map]) fun j hj=>?_
 rw[rK]at hj
 rw[zZ _ _ _ _ _ (Nat.le_refl _),if_pos hj,bA (cZ (jr bm t) hj)]
 rfl
theorem MW{m bm:aT}(hb:bm.ok)(hp:bm.places=m.places){first:List Int}{t:Int}(ht:t≤2147483648){x:World}(h:WV m first x)(he:kr t x=false):WV bm first (jr bm t x):=by
 refine⟨h.pm,by unfold jr Eu;rw[kR];exact h.wl,fun w hw=>?_⟩
 obtain⟨j,hj⟩:=List.mem_iff_getElem?.1 hw
 have jl:=(List.getElem?_eq_some_iff.1 hj).1
 unfold jr Eu at jl hj
 rw[kR]at jl
 simp only at jl hj
 rw[← bA hj,rJ _ _ _ _ _ (Nat.le_refl _),if_pos jl]
 obtain⟨a,b,c, -⟩:=bF (h.wv _ (ae jl))
 have:¬t<(nth x.whr j).time:=fun c=>by
  have:=List.any_eq_false.1 he _ (ae jl)
  simp only[decide_eq_true_eq]at this
  omega
 exact(Ks hb (by rw[hp,a]) b c (by omega) ht).2
theorem MX{m bm:aT}(hb:bm.ok)(hp:bm.places=m.places){first:List Int}{t:Int}(ht:t≤2147483648){ws:List World}(h:BV m first ws)(he:ws.any (kr t)=false):BV bm first (ws.map (jr bm t)):=by
 refine⟨h.pr,h.f1,h.f2,fun x hx=>?_,?_⟩
 · obtain⟨y,hy,rfl⟩:=List.mem_map.1 hx
   exact MW hb hp ht (h.wv y hy) (by simpa using List.any_eq_false.1 he y hy)
 · rw[List.pairwise_map]
   exact h.up
theorem A3{m:aT}(h:m.ok)(h1:1≤m.places.length)(b:Bel)(hs:b.sz)(h20:b.worlds.length<20)(bars:List Int)(hl:bars.length≤1000000)(t:Int):
 aO 0 N.dZ [.t m.e,.t b.e,.t (tL bars),I t] []=some (.tup [.t (yF m b bars t).1.e,I (yF m b bars t).2],[]):=by
 refine ay K.sW rfl ?_
 have va:=Hv h b hs
 have ba:=Hy h bars hl
 have ea:=MV b hs t
 unfold yF
 cases hv:qi m b with
 | false=>
   rw[hv]at va
   obtain⟨ws⟩:=b
   obtain⟨places,roads⟩:=m
   simp (disch:=omega) only[go_sem,K.dZ,↓reduceIte,va,Nat.reduceAdd,Nat.reduceSub]
 | true=>
   rw[hv]at va
   simp only[Bool.true_eq_false,if_false]
   by_cases cs:oP bars m.roads.length=true
   · have e:lK m bars=(cR m bars,0):=by unfold lK;rw[cs];simp
     have bo:=oN h cs
     have bp:(cR m bars).places=m.places:=rfl
     rw[e]at ba ⊢
     simp only[ne_eq,not_true_eq_false,if_false]
     by_cases ct:t≤2147483648
     · rw[Aa ct]
       cases he:b.worlds.any (kr t)with
       | true=>
         rw[he]at ea
         simp only[if_true]
         generalize cR m bars=bm at*
         obtain⟨ws⟩:=b
         obtain⟨places,roads⟩:=m
         obtain⟨bpl,brd⟩:=bm
         simp (disch:=omega) only[go_sem,K.dZ,↓reduceIte,va,ba,ea,Nat.reduceAdd,Nat.reduceSub]
       | false=>
         rw[he]at ea
         simp only[Bool.false_eq_true,if_false]
         obtain⟨ws⟩:=b
         simp only at*
         have bv:=wE hv
         obtain⟨w1,w2, -⟩:=fI hv
         simp only at w1
         have bv2:=MX bo bp ct bv he
         have ti:=MP bo bv2.pr bv2.f1 bv2.f2 _ bv2.wv (by rw[List.length_map];omega) (by rw[List.length_map];omega)
         have lp:=Xp bo (by rw[bp];exact h1) m ws (by have:=hs.1;simp only at this;omega) hs.2 t ct (fun x hx w hw=>by
          obtain⟨a,b,c, -⟩:=bF ((bv.wv x hx).wv w hw)
          have:=List.any_eq_false.1 (by simpa using List.any_eq_false.1 he x hx:kr t x=false) w hw
          simp only[decide_eq_true_eq]at this
          exact⟨by rw[bp,a],b,c,by omega⟩)
         rw[Ab]
         have ml:(ws.map (jr (cR m bars) t)).length=ws.length:=List.length_map ..
         clear bv2 bv
         generalize ws.map (jr (cR m bars) t)=out at*
         generalize m6 out=R at*
         generalize cR m bars=bm at*
         obtain⟨places,roads⟩:=m
         obtain⟨bpl,brd⟩:=bm
         simp only[af,asV,asH,List.map_nil]at*
         simp (disch:=omega) only[go_sem,K.dZ,↓reduceIte,va,ba,ea,lp,ti,Nat.reduceAdd,Nat.reduceSub]
     · have lt:(List.range b.worlds.length).any (Ew t b.worlds)=true:=by
        obtain⟨w1,w2,f1,f2,w5⟩:=fI hv
        have q:=gC (w5 0 (by omega))
        rw[List.any_eq_true]
        refine⟨0,List.mem_range.2 (by omega),?_⟩
        unfold Ew
        rw[List.any_eq_true]
        exact⟨0,List.mem_range.2 (by omega),by unfold R3;rw[decide_eq_true_eq];omega⟩
       rw[lt]
       simp only[if_true]
       generalize cR m bars=bm at*
       clear lt
       obtain⟨ws⟩:=b
       obtain⟨places,roads⟩:=m
       obtain⟨bpl,brd⟩:=bm
       simp (disch:=omega) only[go_sem,K.dZ,↓reduceIte,va,ba,Nat.reduceAdd,Nat.reduceSub]
   · have e:lK m bars=(⟨[],[]⟩,4):=by unfold lK;rw[if_pos (by simpa using cs)]
     rw[e]at ba ⊢
     simp only[ne_eq,Int.reduceEq,not_false_eq_true,if_true,List.map_nil]at ba ⊢
     obtain⟨ws⟩:=b
     obtain⟨places,roads⟩:=m
     simp (disch:=omega) only[go_sem,K.dZ,↓reduceIte,va,ba,Nat.reduceAdd,Nat.reduceSub]
end Go.Ev
namespace Go.Ev
open Go
variable [Lib] [cm] [bS] [iv] [ir] [lr] [gE] [gF] [jV] [iu] [gA] [fw]
def AW(P:Wh→Prop)(ws:List World):Prop:=∀x∈ws,∀w∈x.whr,P w
structure Kept(m:aT)(T:Int)(P:Wh→Prop):Prop where
 see:∀w l a b,P w→b≤T→P (yW m w l a b).1
 abs:∀w l a b bl,P w→b≤T→P (zG m w l a b bl).1
 raise:∀w t,P w→t≤T→P (lQ w t).1
 join:∀a b,P a→P b→a.frm.length=b.frm.length→P (gW a b).1
theorem AW.set{P:Wh→Prop}{x:World}(h:∀w∈x.whr,P w)(tag:Int){w:Wh}(hw:(bO x.tags tag).toNat<x.whr.length→P w):∀y∈(Eh tag x w).whr,P y:=by
 intro y hy
 simp only[Eh]at hy
 by_cases c:(bO x.tags tag).toNat<x.whr.length
 · rcases List.mem_or_eq_of_mem_set hy with a | rfl
   · exact h y a
   · exact hw c
 · rw[List.set_eq_of_length_le (by omega)]at hy;exact h y hy
theorem A4{m:aT}{T:Int}{P:Wh→Prop}(k:Kept m T P){ws:List World}(h:AW P ws)(tag:Int)(l:List Int)(a b:Int)(hb:b≤T):∀j,j≤ws.length→AW P (mU m tag l a b ws j)
 | 0,_,x,hx=>by simp[mU]at hx
 | j+1,hj,x,hx=>by
   simp only[mU,CA]at hx
   have hn:=h _ (ae (l:=ws) (j:=j) (by omega))
   split at hx
   · exact A4 k h tag l a b hb j (by omega) x hx
   · rcases List.mem_append.1 hx with hx | hx
     · exact A4 k h tag l a b hb j (by omega) x hx
     · rw[List.mem_singleton.1 hx]
       split
       · exact AW.set hn tag fun c=>k.see _ _ _ _ (hn _ (ae c)) hb
       · exact hn
theorem Gb{m:aT}{T:Int}{P:Wh→Prop}(k:Kept m T P){ws:List World}(h:AW P ws)(tag:Int)(l:List Int)(a b bl:Int)(hb:b≤T):∀j,j≤ws.length→AW P (oI m tag l a b bl ws j)
 | 0,_,x,hx=>by simp[oI]at hx
 | j+1,hj,x,hx=>by
   simp only[oI,Ei]at hx
   have hn:=h _ (ae (l:=ws) (j:=j) (by omega))
   rcases List.mem_append.1 hx with hx | hx
   · exact Gb k h tag l a b bl hb j (by omega) x hx
   · rw[List.mem_singleton.1 hx]
     split
     · exact AW.set hn tag fun c=>k.abs _ _ _ _ _ (hn _ (ae c)) hb
     · exact hn
theorem Gc{m:aT}{T:Int}{P:Wh→Prop}(k:Kept m T P){n:Nat}{a b:List Wh}(ha:∀w∈a,P w∧w.frm.length=n)(hb:∀w∈b,P w∧w.frm.length=n):∀p,p≤a.length→p≤b.length→∀w∈iN a b p,P w
 | 0,_,_,w,hw=>(ha w hw).1
 | p+1,h1,h2,w,hw=>by
   simp only[iN]at hw
   rcases List.mem_or_eq_of_mem_set hw with hw | rfl
   · exact Gc k ha hb p (by omega) (by omega) w hw
   · have x:=ha _ (ae (l:=a) (j:=p) (by omega))
     have y:=hb _ (ae (l:=b) (j:=p) (by omega))
     exact k.join _ _ x.1 y.1 (by rw[x.2,y.2])
theorem MY{m:aT}{T:Int}{P:Wh→Prop}(k:Kept m T P){first:List Int}{out:List World}{x:World}(ho:AW P out)(hx:∀w∈x.whr,P w)(wo:∀y∈out,WV m first y)(wx:WV m first x):AW P (gL out x):=by
 intro y hy
 unfold gL at hy
 split at hy
 · rename_i h
   rcases List.mem_or_eq_of_mem_set hy with hy | rfl
   · exact ho y hy
   · have wk:=wo _ (ae h.1)
     exact Gc k (n:=m.places.length) (fun w hw=>⟨ho _ (ae h.1) w hw,(bF (wk.wv w hw)).1⟩) (fun w hw=>⟨hx w hw,(bF (wx.wv w hw)).1⟩) _ (Nat.min_le_left _ _) (Nat.min_le_right _ _)
 · rcases List.mem_append.1 hy with hy | hy
   · rcases List.mem_append.1 hy with hy | hy
     · exact ho y (List.mem_of_mem_take hy)
     · rw[List.mem_singleton.1 hy];exact hx
   · exact ho y (List.mem_of_mem_drop hy)
theorem Gd{m:aT}(hm:m.ok){T:Int}{P:Wh→Prop}(k:Kept m T P){first:List Int}(pr:ew first=true)(f1:1≤first.length)(f2:first.length≤12){l:List World}(hl:AW P l)(wl:∀x∈l,WV m first x):∀j,j≤l.length→AW P (oJ l j)
 | 0,_,y,hy=>by simp[oJ]at hy
 | j+1,h,y,hy=>MY k (Gd hm k pr f1 f2 hl wl j (by omega)) (hl _ (ae (by omega))) (A0 hm pr f1 f2 wl j (by omega)).wv (wl _ (ae (by omega))) y hy
theorem MZ{m:aT}{T:Int}{P:Wh→Prop}(k:Kept m T P){i j:Nat}{t:Int}(ht:t≤T){x:World}(h:∀w∈x.whr,P w):∀w∈(s5 i j t x).whr,P w:=by
 intro w hw
 simp only[s5]at hw
 have one:∀ {l:List Wh},(∀w∈l,P w)→∀i,∀w∈l.set i (lQ (nth x.whr i) t).1,i<x.whr.length∨l.length=x.whr.length→P w:=by
  intro l hl i w hw hlen
  by_cases c:i<x.whr.length
  · rcases List.mem_or_eq_of_mem_set hw with a | rfl
    · exact hl w a
    · exact k.raise _ _ (h _ (ae c)) ht
  · rcases hlen with a | a
    · exact(c a).elim
    · rw[List.set_eq_of_length_le (by omega)]at hw;exact hl w hw
 by_cases c:j<x.whr.length
 · rcases List.mem_or_eq_of_mem_set hw with a | rfl
   · exact one h i w a (.inr rfl)
   · exact k.raise _ _ (h _ (ae c)) ht
 · rw[List.set_eq_of_length_le (by rw[List.length_set];omega)]at hw
   exact one h i w hw (.inr rfl)
theorem yH{m:aT}{T:Int}{P:Wh→Prop}(k:Kept m T P){ws:List World}(h:AW P ws){i j:Nat}{t:Int}(ht:t≤T):∀q,q≤ws.length→AW P (iq i j t ws q)
 | 0,_=>h
 | q+1,hq=>fun x hx=>by
   simp only[iq,yx]at hx
   split at hx
   · rcases List.mem_append.1 hx with hx | hx
     · exact yH k h ht q (by omega) x hx
     · rw[List.mem_singleton.1 hx];exact MZ k ht (h _ (ae (by omega)))
   · exact yH k h ht q (by omega) x hx
theorem HA{m:aT}(hm:m.ok){T:Int}{P:Wh→Prop}(k:Kept m T P){n:Int}{s:BSt}(hb:qi m s.b=true)(h:AW P s.b.worlds)(ht:s.t+118≤T):AW P (aB.km m n s).b.worlds:=by
 have a0:=s.d.dA 60
 have a9:=s.d.dB (n:=60) (by omega)
 unfold aB.km
 simp only
 generalize s.d.next 60=a at*
 obtain⟨a1,d1⟩:=a
 simp only at a0 a9 ⊢
 obtain⟨⟨ws⟩,t,d⟩:=s
 simp only at*
 have bv:=wE hb
 obtain⟨w1,w2,f1,f2, -⟩:=fI hb
 split
 · simp only
   split
   · generalize ((d1.next 3).2.next n).1=i
     generalize (((d1.next 3).2.next n).2.next n).1=j
     unfold mV
     split
     · exact h
     · split
       · exact h
       · rename_i hij
         simp only at hij
         split
         · exact h
         · split
           · exact h
           · exact Gd hm k bv.pr bv.f1 bv.f2 (yH k h (by omega) _ (Nat.le_refl _)) (uF hm bv.wv (by omega) (by omega) _ _ (Nat.le_refl _)) _ (Nat.le_refl _)
   · exact h
 · split
   · simp only
     split
     · have e9:=((((d1.next 3).2.next n).2.kX m.places.length).2).dB (n:=9) (by omega)
       generalize (((d1.next 3).2.next n).2.kX m.places.length)=l at*
       generalize (l.2.next 9).1=e at*
       unfold qU
       split
       · exact h
       · split
         · exact h
         · split
           · exact h
           · exact A4 k h _ _ _ _ (by omega) _ (Nat.le_refl _)
     · exact h
   · simp only
     split
     · unfold qV
       split
       · exact h
       · split
         · exact h
         · exact Gb k h _ _ _ _ _ (by omega) _ (Nat.le_refl _)
     · exact h
theorem Ku{m:aT}(hm:m.ok){T:Int}{P:Wh→Prop}(k:Kept m T P){n:Int}{s:BSt}(hb:qi m s.b=true)(h:AW P s.b.worlds):∀(q:Nat),s.t+60*q+118≤T+60→AW P (aB.vo m n s q).b.worlds∧(aB.vo m n s q).t≤s.t+60*q
 | 0,_=>⟨h,by simp[aB.vo]⟩
 | q+1,hq=>by
   obtain⟨h1,h2⟩:=Ku hm k (n:=n) hb h q (by omega)
   have ht:=(CK (m:=m) (n:=n) (s:=aB.vo m n s q)).2
   exact⟨HA hm k (vq hm hb q) h1 (by omega),by simp only[aB.vo];omega⟩
theorem Kv{m:aT}(hm:m.ok)(h1:1≤m.places.length)(d:aB){P:Wh→Prop}(k:Kept m 500 P)(hs:∀p t,0≤p→p<(m.places.length:Int)→0≤t→t<100→P (fG m p t).1):AW P (d.qW m).1.worlds:=by
 have v0:=zY hm h1 d
 have k9:=((d.lT m).2.next 100).2.dB (n:=5) (by omega)
 have k0:=((d.lT m).2.next 100).2.dA 5
 have kk:d.JZ m≤4:=by unfold aB.JZ;omega
 have t0:=(d.lT m).2.dA 100
 have t9:=(d.lT m).2.dB (n:=100) (by omega)
 have tl:=kj d.oa
 have sl:(d.lT m).1.length=d.oa:=aB.jO _ _ _
 have a0:AW P (d.H3 m).b.worlds:=by
  unfold aB.H3
  rw[AT hm h1]
  intro x hx w hw
  rw[List.mem_singleton.1 hx]at hw
  simp only[gk,List.mem_map,List.mem_range]at hw
  obtain⟨i,hi,rfl⟩:=hw
  have:=qX (d.next 3).2 (n:=m.places.length) (by omega) d.oa _ (ae (l:=(d.lT m).1) (j:=i) (by omega))
  exact hs _ _ this.1 this.2 t0 t9
 exact(Ku hm k (n:=d.oa) v0 a0 (d.JZ m) (by show(100:Int)+_+_≤_;omega)).1
theorem Kw(m:aT):Kept m 500 fun w=>w.time≤500 where
 see w l a b h hb:=by
  unfold yW
  split
  · exact h
  · split
    · exact h
    · split
      · exact hb
      · exact h
 abs w l a b bl h hb:=by
  unfold zG
  split
  · exact h
  · split
    · exact h
    · split
      · exact h
      · split
        · exact h
        · exact hb
 raise w t h ht:=by unfold lQ;split;exact h;exact ht
 join a b ha hb e:=by
  unfold gW
  rw[if_pos e]
  simp only;omega
theorem Ey{m:aT}(hm:m.ok)(h1:1≤m.places.length)(d:aB):AW (fun w=>w.time≤500) (d.qW m).1.worlds:=
 Kv hm h1 d (Kw m) fun p t p0 p1 t0 t1=>by
  rw[(yf hm p0 p1 (t:=t) ⟨t0,by omega⟩).1]
  simp only;omega
def CU:List Int→List (List Int)
 | []=>[[]]
 | a::l=>(CU l).flatMap fun p=>(List.range (p.length+1)).map fun i=>p.take i++a::p.drop i
theorem CV:∀ {l t:List Int},t.Perm l→t∈CU l
 | [],t,h=>by rw[List.perm_nil.1 h];simp[CU]
 | a::l,t,h=>by
   obtain⟨s1,s2,rfl⟩:=List.append_of_mem (h.mem_iff.2 List.mem_cons_self)
   have p:(s1++s2).Perm l:=(List.perm_cons a).1 ((List.perm_middle.symm).trans h)
   simp only[CU,List.mem_flatMap,List.mem_map,List.mem_range]
   exact⟨_,CV p,s1.length,by rw[List.length_append];omega,by simp⟩
theorem HB{m:aT}{first:List Int}{ws:List World}(h:BV m first ws)(f:first.length≤3):ws.length≤6:=by
 have nd:(ws.map World.tags).Nodup:=by
  rw[List.Nodup,List.pairwise_map]
  exact h.up.imp fun h e=>wF h e
 have sub:(ws.map World.tags) ⊆ CU first:=by
  intro t ht
  obtain⟨x,hx,rfl⟩:=List.mem_map.1 ht
  exact CV (h.wv x hx).pm
 have:=nd.length_le_of_subset sub
 rw[List.length_map]at this
 have f1:=h.f1
 match first,f,f1 with
 | [a],_,_=>exact Nat.le_trans this (by decide:1≤6)
 | [a,b],_,_=>exact Nat.le_trans this (by show 2≤6;decide)
 | [a,b,c],_,_=>exact Nat.le_trans this (by show 6≤6;decide)
theorem M0{d:aB}(hd:d.dn){m:aT}(hm:m.ok)(h1:1≤m.places.length):
 ∃(b:Bel) (e:aB),aO 0 N.bT [.bp 0 0,.t m.e] [d.obj]=some (.t b.e,[e.obj])∧e.dn∧qi m b=true∧b.sz∧b.worlds.length≤6∧(nth b.worlds 0).tags.length≤3∧AW (fun w=>w.time≤500) b.worlds:=by
 have g:=J4 hm h1 hd
 have v:=CR hm h1 d
 have bp:=yA d
 have n:(nth (d.qW m).1.worlds 0).tags.length≤3:=by
  have:=(g.1.ws _ (ae (l:=(d.qW m).1.worlds) (j:=0) (by have:=g.1.w1;omega))).tg
  omega
 refine⟨_,_,J7 hm h1 d hd,g.2,v,g.1.sz hm,?_,n,Ey hm h1 d⟩
 have bv:=wE (m:=m) (ws:=(d.qW m).1.worlds) v
 exact HB bv n
end Go.Ev
namespace Go.Ev
open Go
variable [Lib] [cm] [bS] [iv]
def H4(l:List Wh)(t:Int):Nat→Int
 | 0=>t
 | j+1=>max (H4 l t j) (nth l j).time
def y3(ws:List World):Nat→Int
 | 0=>0
 | i+1=>H4 (nth ws i).whr (y3 ws i) (nth ws i).whr.length
def A5(b:Bel):Int:=y3 b.worlds b.worlds.length
theorem R4(b:Bel)(hb:b.sz):aO 0 N.jb [.t b.e] []=some (I (A5 b),[]):=by
 refine ay K.sV rfl ?_
 unfold A5
 obtain⟨ws⟩:=b
 obtain⟨s1,s2⟩:=hb
 simp only at s1 s2 ⊢
 have inner:∀i,i<ws.length→∀(t:Int) (a b:D),exS aO K.wc ⟨[a,.bp 0 0,b,I t,I i,I 0],[.box [.t (.sl (ws.map World.e))]]⟩=
  some (.exit 2,⟨[.und,.bp 0 0,.und,I (H4 (nth ws i).whr t (nth ws i).whr.length),I i,I (nth ws i).whr.length],[.box [.t (.sl (ws.map World.e))]]⟩):=by
  intro i hi t a b
  have g1:(ws.map World.e)[i]?=some (nth ws i).e:=cZ _ hi
  have sz:=(s2 _ (ae hi)).2.1
  refine cE (fun j=>⟨[.und,.bp 0 0,.und,I (H4 (nth ws i).whr t j),I i,I j],[.box [.t (.sl (ws.map World.e))]]⟩) (nth ws i).whr.length rfl ?_ ?_ (by simp)
  · intro j hj
    have g2:((nth ws i).whr.map Wh.e)[j]?=some (nth (nth ws i).whr j).e:=cZ _ hj
    simp only[H4]
    generalize H4 (nth ws i).whr t j=q at*
    generalize nth (nth ws i).whr j=w at*
    generalize nth ws i=x at*
    obtain⟨tags,whr⟩:=x
    obtain⟨time,frm⟩:=w
    simp only at*
    simp (disch:=omega) only[go_sem,K.pO,↓reduceIte,g1,g2,Nat.reduceAdd,Nat.reduceSub]
  · generalize H4 (nth ws i).whr t (nth ws i).whr.length=q at*
    generalize nth ws i=x at*
    obtain⟨tags,whr⟩:=x
    simp only at*
    simp (disch:=omega) only[go_sem,K.pO,↓reduceIte,g1,Nat.reduceAdd,Nat.reduceSub]
 have loop:∀a b c:D,exS aO K.we ⟨[a,.bp 0 0,b,I 0,I 0,c],[.box [.t (.sl (ws.map World.e))]]⟩=
  some (.exit 0,⟨[.und,.bp 0 0,.und,I (y3 ws ws.length),I ws.length,.und],[.box [.t (.sl (ws.map World.e))]]⟩):=by
  intro a b c
  refine cE (fun i=>⟨[.und,.bp 0 0,.und,I (y3 ws i),I i,.und],[.box [.t (.sl (ws.map World.e))]]⟩) ws.length rfl ?_ ?_ (by simp)
  · intro i hi
    have inner:=fun t a b=>inner i hi t a b
    simp (disch:=omega) only[go_sem,K.pP,↓reduceIte,inner,y3,Nat.reduceAdd,Nat.reduceSub]
  · simp (disch:=omega) only[go_sem,K.pP,↓reduceIte,Nat.reduceAdd,Nat.reduceSub]
 simp (disch:=omega) only[go_sem,K.jb,↓reduceIte,loop,Nat.reduceAdd,Nat.reduceSub]
end Go.Ev
namespace Go.Ev
open Go
variable [Lib] [cm] [bS] [iv] [ir] [lr] [gE] [gF] [jV] [iu] [gA] [fw] [oK] [iQ] [m0] [uv]
theorem lex_asymm{a b:List Int}(h:lexB a b=true):lexB b a=false:=by
 cases h2:lexB b a with
 | false=>rfl
 | true=>have:=lex_trans h h2;rw[lex_irrefl]at this;cases this
theorem M1{ws:List World}(u:UpW ws):m6 ws=ws:=by
 rw[rI]
 have key:∀j,j≤ws.length→(ws.take j).foldl gL []=ws.take j:=by
  intro j
  induction j with
  | zero=>intro _;simp
  | succ j ih=>
    intro hj
    rw[ij (by omega),List.foldl_append,ih (by omega)]
    simp only[List.foldl_cons,List.foldl_nil]
    have uj:UpW (ws.take j):=List.Pairwise.sublist (List.take_sublist _ _) u
    have ln:(ws.take j).length=j:=by rw[List.length_take];omega
    have lt:0<j→lexB (nth (ws.take j) (j-1)).tags (nth ws j).tags=true:=fun h0=>by
     have:=List.pairwise_iff_getElem.1 u (j-1) j (by omega) (by omega) (by omega)
     rw[bA (List.getElem?_eq_getElem (by omega:j<ws.length)),bA (show(ws.take j)[j-1]?=some ws[j-1]by rw[List.getElem?_take,if_pos (by omega)];exact List.getElem?_eq_getElem (by omega))]
     exact this
    rw[zV uj (fun h0=>by rw[ln]at h0 ⊢;exact lex_asymm (lt h0))]
    unfold p7
    rw[if_neg]
    rintro ⟨h0,e⟩
    rw[ln]at h0 e
    exact wF (lt h0) e
 have:=key ws.length (Nat.le_refl _)
 rwa [List.take_length]at this
theorem vr{m:aT}{b:Bel}(hb:qi m b=true){bars:List Int}(hs:oP bars m.roads.length=true){t:Int}(ht:t≤2147483648)(he:b.worlds.any (kr t)=false):
 yF m b bars t=(⟨b.worlds.map (jr (cR m bars) t)⟩,0):=by
 have e:lK m bars=(cR m bars,0):=by unfold lK;rw[hs];simp
 unfold yF
 rw[hb,e,Aa ht,he,Ab]
 simp only[Bool.true_eq_false,if_false,ne_eq,not_true_eq_false,Bool.false_eq_true]
 rw[M1]
 unfold UpW
 rw[List.pairwise_map]
 exact(wE hb).up
theorem Kx(l:List Wh)(t:Int):∀j,t≤H4 l t j∧∀k,k<j→(nth l k).time≤H4 l t j
 | 0=>⟨Int.le_refl _,fun k h=>by omega⟩
 | j+1=>by
   obtain⟨h1,h2⟩:=Kx l t j
   simp only[H4]
   refine⟨by omega,fun k hk=>?_⟩
   by_cases c:k=j
   · subst c;omega
   · have:=h2 k (by omega);omega
theorem Ge(ws:List World):∀i,0≤y3 ws i∧∀k,k<i→∀j,j<(nth ws k).whr.length→(nth (nth ws k).whr j).time≤y3 ws i
 | 0=>⟨Int.le_refl _,fun k h=>by omega⟩
 | i+1=>by
   obtain⟨h1,h2⟩:=Ge ws i
   obtain⟨g1,g2⟩:=Kx (nth ws i).whr (y3 ws i) (nth ws i).whr.length
   simp only[y3]
   refine⟨by omega,fun k hk j hj=>?_⟩
   by_cases c:k=i
   · subst c;exact g2 j hj
   · have:=h2 k (by omega) j hj;omega
theorem Ky(b:Bel):0≤A5 b∧∀x∈b.worlds,∀w∈x.whr,w.time≤A5 b:=by
 obtain⟨h1,h2⟩:=Ge b.worlds b.worlds.length
 refine⟨h1,fun x hx w hw=>?_⟩
 obtain⟨i,hi,rfl⟩:=List.getElem_of_mem hx
 obtain⟨j,hj,rfl⟩:=List.getElem_of_mem hw
 have e:nth b.worlds i=b.worlds[i]:=bA (List.getElem?_eq_getElem hi)
 have:=h2 i hi j (by rw[e];exact hj)
 rwa [e,bA (List.getElem?_eq_getElem hj)]at this
theorem Kz{l:List Wh}{M t:Int}(ht:t≤M)(h:∀w∈l,w.time≤M):∀j,j≤l.length→H4 l t j≤M
 | 0,_=>ht
 | j+1,hj=>by
   have h1:=Kz ht h j (by omega)
   have h2:=h _ (ae (l:=l) (j:=j) (by omega))
   simp only[H4];omega
theorem Gf{ws:List World}{M:Int}(h0:0≤M)(h:AW (fun w=>w.time≤M) ws):∀i,i≤ws.length→y3 ws i≤M
 | 0,_=>h0
 | i+1,hi=>Kz (Gf h0 h i (by omega)) (h _ (ae (by omega))) _ (Nat.le_refl _)
theorem R5{b:Bel}(h:AW (fun w=>w.time≤500) b.worlds):A5 b≤500:=Gf (by omega) h _ (Nat.le_refl _)
theorem M3{b:Bel}{t:Int}(h:A5 b≤t):b.worlds.any (kr t)=false:=by
 rw[List.any_eq_false]
 intro x hx
 unfold kr
 simp only[Bool.not_eq_true,List.any_eq_false,decide_eq_true_eq]
 intro w hw
 have:=(Ky b).2 x hx w hw
 omega
structure SlF(bm:aT)(w:Wh)(t:Int):Prop where
 ln:(rO bm w t).frm.length=bm.places.length
 bd:bnd (rO bm w t).frm
 cl:clW bm t none (rO bm w t).frm
 le:∀j,j<bm.places.length→nth (rO bm w t).frm j≤if t<nth w.frm j then 1099511627776 else nth w.frm j
theorem slF{bm:aT}(hm:bm.ok){w:Wh}(hl:w.frm.length=bm.places.length)(hp:∀x∈w.frm,plT x)(t:Int):SlF bm w t:=by
 have sb:=yE (fun x hx=>j8 (hp x hx):bnd w.frm) t w.frm.length
 have sl:=jq w.frm t w.frm.length
 obtain⟨c1,c2⟩:=ui hm (t:=t) (into:=none) (by rw[sl,hl]) sb
 refine⟨c1,c2,yd hm (by rw[sl,hl]) sb,fun j hj=>?_⟩
 have e:=Cj hm (t:=t) (into:=none) (by rw[sl,hl]) sb j
 rw[q8 _ _ _ (Nat.le_refl _) _ (by omega)]at e
 have:nth (rO bm w t).frm j=nth (cB bm t none (p8 w.frm t w.frm.length)) j:=rfl
 split
 · rename_i c;rw[if_pos ⟨by omega,c⟩]at e;exact e
 · rename_i c;rw[if_neg (fun h=>c h.2)]at e;exact e
theorem OD{bm:aT}(hm:bm.ok){w:Wh}(hl:w.frm.length=bm.places.length)(hp:∀x∈w.frm,plT x){t:Int}{y:List Int}(hy:clW bm t none y)(yl:y.length=bm.places.length)(yb:∀x∈y,x≤1099511627776)
 (h:∀j,j<bm.places.length→nth w.frm j≤t→nth y j≤nth w.frm j):∀j,nth y j≤nth (rO bm w t).frm j:=by
 have sb:=yE (fun x hx=>j8 (hp x hx):bnd w.frm) t w.frm.length
 have sl:=jq w.frm t w.frm.length
 refine Ck hm hy (by rw[sl,hl]) sb fun j=>?_
 by_cases c:j<w.frm.length
 · rw[q8 _ _ _ (Nat.le_refl _) _ c]
   split
   · exact yb _ (ae (by omega))
   · rename_i d;exact h j (by omega) (by
      by_cases a:t<nth w.frm j
      · exact absurd ⟨c,a⟩ d
      · omega)
 · rw[FE (by omega),FE (by rw[sl];omega)];omega
theorem Gg(roads:List Road){l:List Int}(hs:∀j,j<l.length→0≤nth l j∧nth l j<roads.length):∀k,k≤l.length→∀j,j<roads.length→
 ((j:Int)∈l.take k→(nth (A2 roads l k) j).walk=false)∧((j:Int)∉l.take k→nth (A2 roads l k) j=nth roads j)∧
 (nth (A2 roads l k) j).frm=(nth roads j).frm∧(nth (A2 roads l k) j).to=(nth roads j).to
 | 0,_,j,hj=>by simp[A2]
 | k+1,hk,j,hj=>by
   obtain⟨i1,i2,i3,i4⟩:=Gg roads hs k (by omega) j hj
   obtain⟨h1,h2⟩:=hs k (by omega)
   have bl:=nD roads l k
   simp only[A2]
   rw[nj _ _ (by omega),ij (by omega)]
   simp only[List.mem_append,List.mem_singleton]
   by_cases c:j=(nth l k).toNat
   · rw[if_pos c,←c]
     exact⟨fun _=>rfl,fun h=>(h (.inr (by omega))).elim,i3,i4⟩
   · rw[if_neg c]
     refine⟨fun h=>?_,fun h=>i2 fun x=>h (.inl x),i3,i4⟩
     rcases h with h | h
     · exact i1 h
     · omega
theorem CW{m:aT}{l:List Int}(hs:oP l m.roads.length=true){k:Nat}(hk:k<m.roads.length)(back:Bool):
 ((k:Int)∈l→eX (cR m l) k back 6 9 12= -1)∧((k:Int)∉l→eX (cR m l) k back 6 9 12=eX m k back 6 9 12)∧
 (nth (cR m l).roads k).src back=(nth m.roads k).src back∧(nth (cR m l).roads k).dst back=(nth m.roads k).dst back:=by
 obtain⟨h1,h2,h3,h4⟩:=Gg m.roads (fun j hj=>q7 hs hj) l.length (Nat.le_refl _) k hk
 rw[List.take_length]at h1 h2
 refine⟨fun h=>?_,fun h=>?_,?_,?_⟩
 · unfold eX;simp only[cR];exact if_pos (Or.inr (h1 h))
 · simp only[eX,cR,h2 h]
 · unfold Road.src;simp only[cR,h3,h4]
 · unfold Road.dst;simp only[cR,h3,h4]
theorem Ac(m:aT)(l:List Int):(cR m l).roads.length=m.roads.length:=nD _ _ _
theorem M4{m:aT}{few many:List Int}(h1:oP few m.roads.length=true)(h2:oP many m.roads.length=true)(h:∀x∈few,x∈many){t:Int}{y:List Int}(hy:clW (cR m few) t none y):clW (cR m many) t none y:=by
 intro k hk back _ c1 c2 c3
 rw[Ac]at hk
 obtain⟨a1,a2,a3,a4⟩:=CW h2 hk back
 obtain⟨b1,b2,b3,b4⟩:=CW h1 hk back
 have n2:(k:Int)∉many:=fun c=>by have:=a1 c;omega
 have n1:(k:Int)∉few:=fun c=>n2 (h _ c)
 have:=hy k (by rw[Ac];exact hk) back rfl (by rw[b2 n1,←a2 n2];exact c1) (by rw[b3,←a3];exact c2) (by rw[b3,b2 n1,←a3,←a2 n2];exact c3)
 rwa [b3,b4,b2 n1,←a3,←a4,←a2 n2]at this
theorem Ez(m:aT):cR m []=m:=rfl
theorem KA{m:aT}(hm:m.ok){w:Wh}(hv:cH m w=true){t:Int}(h1:w.time≤t):jQ (rO m w t) t=jQ w t:=by
 obtain⟨a,b,c, -⟩:=bF hv
 have f:=slF hm a c t
 have ge:=OD hm a c (AL (into:=none) h1 (uk hm hv)) a (fun x hx=>(j8 (c x hx)).2) (fun j _ _=>Int.le_refl _)
 unfold jQ
 rw[f.ln,a]
 refine CM fun k hk=>?_
 rw[Bool.eq_iff_iff,decide_eq_true_eq,decide_eq_true_eq]
 have g:=ge k
 have l:=f.le k hk
 constructor
 · intro h;omega
 · intro h;rw[if_neg (by omega)]at l;omega
theorem KB{m:aT}(hm:m.ok){few many:List Int}(h1:oP few m.roads.length=true)(h2:oP many m.roads.length=true)(h:∀x∈few,x∈many){w:Wh}(hl:w.frm.length=m.places.length)(hp:∀x∈w.frm,plT x)(t:Int)(j:Nat):
 nth (rO (cR m few) w t).frm j≤nth (rO (cR m many) w t).frm j:=by
 have o1:=oN hm h1
 have o2:=oN hm h2
 have f:=slF o1 hl hp t
 refine OD o2 hl hp (M4 h1 h2 h f.cl) f.ln (fun x hx=>(f.bd x hx).2) (fun j hj c=>?_) j
 have:=f.le j hj
 rwa [if_neg (by omega)]at this
theorem Xq{d:aB}(hd:d.dn)(n:Nat)(hn:n≤1000000):
 ∃(l:List Int) (e:aB),aO 0 N.bW [.bp 0 0,I n] [d.obj]=some (.t (tL l),[e.obj])∧e.dn∧l.length≤n∧oP l n=true:=
 ⟨_,_,I5 d n hn hd,aB.kH hd n,d.uc n,zX d n⟩
section
variable (e : aB) {m bm : aT} (b c : Bel) (t : Int) (l : List Int)
end
end Go.Ev
namespace Go.Ev
open Go
variable [Lib] [cm] [bS] [iv] [ir] [lr] [gE] [gF] [jV] [iu] [gA] [fw] [oK] [iQ] [m0] [uv]
structure AmF(b x y z:List World)(t:Int):Prop where
 lx:x.length=b.length
 ly:y.length=b.length
 lz:z.length=b.length
 wx:∀i,i<b.length→(nth x i).whr.length=(nth b i).whr.length
 wy:∀i,i<b.length→(nth y i).whr.length=(nth b i).whr.length
 wz:∀i,i<b.length→(nth z i).whr.length=(nth b i).whr.length
 po:∀i,i<b.length→∀k,k<(nth b i).whr.length→jQ (nth (nth z i).whr k) t=jQ (nth (nth b i).whr k) t
 ln:∀i,i<b.length→∀k,k<(nth b i).whr.length→(nth (nth x i).whr k).frm.length=(nth (nth y i).whr k).frm.length
 le:∀i,i<b.length→∀k,k<(nth b i).whr.length→∀n,¬nth (nth (nth y i).whr k).frm n<nth (nth (nth x i).whr k).frm n
 sb:∀i,i<b.length→∀k,k<(nth b i).whr.length→(nth (nth b i).whr k).frm.length≤1000
 sx:∀i,i<b.length→∀k,k<(nth b i).whr.length→(nth (nth x i).whr k).frm.length≤1000
 sz:∀i,i<b.length→∀k,k<(nth b i).whr.length→(nth (nth z i).whr k).frm.length≤1000
 s2:∀i,i<b.length→(nth b i).whr.length≤1000
abbrev bxW(l:List World):Obj:= .box [.t (.sl (l.map World.e))]
abbrev amH(e:aB)(m:aT)(b x y z:List World)(a:Obj):ai:=[e.obj,.box (af m),bxW b,a,bxW x,bxW y,bxW z]
abbrev amV(t:Int)(i k p q:D)(n:D):List D:=[.und,.und,.und,.und,.bp 2 0,I t,.und,.und,.und,.bp 4 0,.und,.bp 5 0,.und,.bp 6 0,.und,i,k,p,q,.und,n]
section
variable (e : aB) (m : aT) (b x y z : List World) (pn : Bool) (many : List Int) (t : Int)
theorem acw(i k:Int)(p q w:Wh)(hl:p.frm.length=q.frm.length)(hs:p.frm.length≤1000)(h:∀n,¬nth q.frm n<nth p.frm n):∀z0 z1 z2 z3 z6 z7 z8 z10 z12 z14 z19:D,
 exS aO K.oF ⟨[z0,z1,z2,z3,.bp 2 0,I t,z6,z7,z8,.bp 4 0,z10,.bp 5 0,z12,.bp 6 0,z14,I i,I k,.bp 7 0,.bp 8 0,z19,I 0],amH e m b x y z (.arr 1 pn 0 ((many.map (T.int .i64)).map .t))++[.box [I p.time,.t (tL p.frm)],.box [I q.time,.t (tL q.frm)],.box [I w.time,.t (tL w.frm)]]⟩=
 some (.exit 6,⟨amV t (I i) (I k) (.bp 7 0) (.bp 8 0) (I p.frm.length),amH e m b x y z (.arr 1 pn 0 ((many.map (T.int .i64)).map .t))++[.box [I p.time,.t (tL p.frm)],.box [I q.time,.t (tL q.frm)],.box [I w.time,.t (tL w.frm)]]⟩):=by
 intro z0 z1 z2 z3 z6 z7 z8 z10 z12 z14 z19
 refine cE (fun n=>⟨amV t (I i) (I k) (.bp 7 0) (.bp 8 0) (I n),amH e m b x y z (.arr 1 pn 0 ((many.map (T.int .i64)).map .t))++[.box [I p.time,.t (tL p.frm)],.box [I q.time,.t (tL q.frm)],.box [I w.time,.t (tL w.frm)]]⟩) p.frm.length rfl ?_ ?_ (by simp)
 · intro n hn
   have hh:=h n
   obtain⟨pt,pf⟩:=p
   obtain⟨qt,qf⟩:=q
   obtain⟨places,roads⟩:=m
   simp only[af,amV,amH,bxW,List.cons_append,List.nil_append]at*
   simp (disch:=omega) only[go_sem,K.kd,↓reduceIte,hh,Nat.reduceAdd,Nat.reduceSub]
 · obtain⟨pt,pf⟩:=p
   obtain⟨qt,qf⟩:=q
   obtain⟨places,roads⟩:=m
   simp only[af,amV,amH,bxW,List.cons_append,List.nil_append]at*
   simp (disch:=omega) only[go_sem,K.kd,↓reduceIte,Nat.reduceAdd,Nat.reduceSub]
theorem acx(f:AmF b x y z t)(i:Nat)(hi:i<b.length):∀z0 z1 z2 z3 z6 z7 z8 z10 z12 z14 z17 z18 z19 z20:D,
 exS aO K.oG ⟨[z0,z1,z2,z3,.bp 2 0,I t,z6,z7,z8,.bp 4 0,z10,.bp 5 0,z12,.bp 6 0,z14,I i,I 0,z17,z18,z19,z20],amH e m b x y z (.arr 1 pn 0 ((many.map (T.int .i64)).map .t))⟩=
 some (.exit 4,⟨amV t (I i) (I (nth b i).whr.length) .und .und .und,amH e m b x y z (.arr 1 pn 0 ((many.map (T.int .i64)).map .t))⟩):=by
 intro z0 z1 z2 z3 z6 z7 z8 z10 z12 z14 z17 z18 z19 z20
 have l1:=f.lx
 have l2:=f.ly
 have l3:=f.lz
 have w1:=f.wx i hi
 have w2:=f.wy i hi
 have w3:=f.wz i hi
 have w4:=f.s2 i hi
 have eb:(b.map World.e)[i]?=some (nth b i).e:=cZ _ hi
 have ex:(x.map World.e)[i]?=some (nth x i).e:=cZ _ (by omega)
 have ey:(y.map World.e)[i]?=some (nth y i).e:=cZ _ (by omega)
 have ez:(z.map World.e)[i]?=some (nth z i).e:=cZ _ (by omega)
 refine cE (fun k=>⟨amV t (I i) (I k) .und .und .und,amH e m b x y z (.arr 1 pn 0 ((many.map (T.int .i64)).map .t))⟩) (nth b i).whr.length rfl ?_ ?_ (by simp)
 · intro k hk
   have a1:=f.po i hi k hk
   have a2:=f.ln i hi k hk
   have a3:=f.le i hi k hk
   have a4:=f.sb i hi k hk
   have a5:=f.sx i hi k hk
   have a6:=f.sz i hi k hk
   have in4:=acw e m b x y z pn many t i k (nth (nth x i).whr k) (nth (nth y i).whr k) (nth (nth z i).whr k) a2 a5 a3
   have pz:=ug (nth (nth z i).whr k) t (by omega)
   have pb:=ug (nth (nth b i).whr k) t (by omega)
   have pl:(jQ (nth (nth b i).whr k) t).length≤_:=rA _ _
   rw[a1]at pz
   have sm:=AD (jQ (nth (nth b i).whr k) t) (jQ (nth (nth b i).whr k) t) (by omega)
   simp only[decide_true]at sm
   have kb:((nth b i).whr.map Wh.e)[k]?=some (nth (nth b i).whr k).e:=cZ _ hk
   have kx:((nth x i).whr.map Wh.e)[k]?=some (nth (nth x i).whr k).e:=cZ _ (by omega)
   have ky:((nth y i).whr.map Wh.e)[k]?=some (nth (nth y i).whr k).e:=cZ _ (by omega)
   have kz:((nth z i).whr.map Wh.e)[k]?=some (nth (nth z i).whr k).e:=cZ _ (by omega)
   clear f a1 a3
   generalize jQ (nth (nth b i).whr k) t=ps at*
   generalize nth (nth b i).whr k=wb at*
   generalize nth (nth x i).whr k=wx at*
   generalize nth (nth y i).whr k=wy at*
   generalize nth (nth z i).whr k=wz at*
   obtain⟨tb,fb⟩:=wb
   obtain⟨tx,fx⟩:=wx
   obtain⟨ty,fy⟩:=wy
   obtain⟨tz,fz⟩:=wz
   generalize nth b i=vb at*
   generalize nth x i=vx at*
   generalize nth y i=vy at*
   generalize nth z i=vz at*
   obtain⟨gb,hb⟩:=vb
   obtain⟨gx,hx⟩:=vx
   obtain⟨gy,hy⟩:=vy
   obtain⟨gz,hz⟩:=vz
   obtain⟨places,roads⟩:=m
   simp only[af,amV,amH,bxW,List.cons_append,List.nil_append]at*
   simp (disch:=omega) only[go_sem,K.ke,↓reduceIte,eb,ex,ey,ez,kb,kx,ky,kz,pz,pb,sm,in4,a2,ne_eq,not_true_eq_false,decide_false,Nat.reduceAdd,Nat.reduceSub]
 · clear f
   generalize nth b i=vb at*
   obtain⟨gb,hb⟩:=vb
   obtain⟨places,roads⟩:=m
   simp only[af,amV,amH,bxW,List.cons_append,List.nil_append]at*
   simp (disch:=omega) only[go_sem,K.ke,↓reduceIte,eb,Nat.reduceAdd,Nat.reduceSub]
theorem acy(f:AmF b x y z t)(hb:b.length≤1000):∀z0 z1 z2 z3 z6 z7 z8 z10 z12 z14 z16 z17 z18 z19 z20:D,
 exS aO K.oH ⟨[z0,z1,z2,z3,.bp 2 0,I t,z6,z7,z8,.bp 4 0,z10,.bp 5 0,z12,.bp 6 0,z14,I 0,z16,z17,z18,z19,z20],amH e m b x y z (.arr 1 pn 0 ((many.map (T.int .i64)).map .t))⟩=
 some (.exit 2,⟨amV t (I b.length) .und .und .und .und,amH e m b x y z (.arr 1 pn 0 ((many.map (T.int .i64)).map .t))⟩):=by
 intro z0 z1 z2 z3 z6 z7 z8 z10 z12 z14 z16 z17 z18 z19 z20
 refine cE (fun i=>⟨amV t (I i) .und .und .und .und,amH e m b x y z (.arr 1 pn 0 ((many.map (T.int .i64)).map .t))⟩) b.length rfl ?_ ?_ (by simp)
 · intro i hi
   have in3:=acx e m b x y z pn many t f i hi
   have w4:=f.s2 i hi
   clear f
   generalize (nth b i).whr.length=n at*
   obtain⟨places,roads⟩:=m
   simp only[af,amV,amH,bxW,List.cons_append,List.nil_append]at*
   simp (disch:=omega) only[go_sem,K.kf,↓reduceIte,in3,Nat.reduceAdd,Nat.reduceSub]
 · clear f
   obtain⟨places,roads⟩:=m
   simp only[af,amV,amH,bxW,List.cons_append,List.nil_append]at*
   simp (disch:=omega) only[go_sem,K.kf,↓reduceIte,Nat.reduceAdd,Nat.reduceSub]
end
structure MnF(few many:List Int)(j:Nat):Prop where
 pw:many.Pairwise (· < ·)
 lt:∀x∈many,0≤x∧x<j
 sub:∀x∈few,x<j→x∈many
 ln:many.length≤j
def mnP(m:aT)(b:List World)(t:Int)(few:List Int)(j:Nat)(st:St):Prop:=
 ∃(e:aB) (many:List Int),e.dn∧MnF few many j∧st=⟨[.und,.und,.bp 0 0,.bp 1 0,.bp 2 0,I t,.t (tL few),.ref 3 0 many.length,I j,.und,.und,.und,.und,.und,.und,.und,.und,.und,.und,.und,.und],[e.obj,.box (af m),bxW b,wL many]⟩
theorem MnF.oP{few many:List Int}{n:Nat}(h:MnF few many n):oP many n=true:=by
 unfold Go.Ev.oP
 rw[List.all_eq_true]
 intro j hj
 rw[List.mem_range]at hj
 have:=h.lt _ (ae hj)
 simp only[decide_eq_true_eq]
 refine⟨this.1,this.2,fun h0=>?_⟩
 have:=List.pairwise_iff_getElem.1 h.pw (j-1) j (by omega) hj (by omega)
 rwa [bA (List.getElem?_eq_getElem (by omega:j-1<_)),bA (List.getElem?_eq_getElem hj)]
theorem acz{e0:aB}(hd:e0.dn){m:aT}(hm:m.ok)(b:List World)(t:Int){few:List Int}(hf:few.length≤1000)(hs:oP few m.roads.length=true):∃(e:aB) (many:List Int),e.dn∧MnF few many m.roads.length∧
 ∀z0 z1 z9 z10 z11 z12 z13 z14 z15 z16 z17 z18 z19 z20:D,exS aO K.oE ⟨[z0,z1,.bp 0 0,.bp 1 0,.bp 2 0,I t,.t (tL few),.ref 3 0 0,I 0,z9,z10,z11,z12,z13,z14,z15,z16,z17,z18,z19,z20],[e0.obj,.box (af m),bxW b,.arr 1 false 0 []]⟩=
 some (.exit 0,⟨[.und,.und,.bp 0 0,.bp 1 0,.bp 2 0,I t,.t (tL few),.ref 3 0 many.length,I m.roads.length,.und,.und,.und,.und,.und,.und,.und,.und,.und,.und,.und,.und],[e.obj,.box (af m),bxW b,wL many]⟩):=by
 have nr:=hm.nr
 have key:=FW (gc:=true) (dead:=[0,1,9,10,11,12,13,14,15,16,17,18,19,20]) (c:=K.cJ) (vs:=[.und,.und,.bp 0 0,.bp 1 0,.bp 2 0,I t,.t (tL few),.ref 3 0 0,I 0,.und,.und,.und,.und,.und,.und,.und,.und,.und,.und,.und,.und]) (H:=[e0.obj,.box (af m),bxW b,.arr 1 false 0 []])
  (mnP m b t few) m.roads.length (fun q=>∃(e:aB) (many:List Int),e.dn∧MnF few many m.roads.length∧q=(.exit 0,⟨[.und,.und,.bp 0 0,.bp 1 0,.bp 2 0,I t,.t (tL few),.ref 3 0 many.length,I m.roads.length,.und,.und,.und,.und,.und,.und,.und,.und,.und,.und,.und,.und],[e.obj,.box (af m),bxW b,wL many]⟩))
  (by
   refine⟨e0,[],hd,⟨List.Pairwise.nil,(fun x hx=>by cases hx),(fun x hx h=>?_),Nat.le_refl _⟩,?_⟩
   · obtain⟨j,hj⟩:=List.mem_iff_getElem?.1 hx
     have:=(q7 hs (List.getElem?_eq_some_iff.1 hj).1).1
     rw[bA hj]at this;omega
   · simp only[iY,List.set_cons_zero,List.set_cons_succ,List.length_nil];rfl)
  (by
   rintro j st hj ⟨e,many,le,mf,rfl⟩
   obtain⟨q,e2,qe,l2⟩:=acn le 2 (by omega) (by omega)
   have hh:=I7 few j (by omega)
   have ml:=mf.ln
   have add:MnF few (many++[(j:Int)]) (j+1):=by
    refine⟨?_,fun x hx=>?_,fun x hx h=>?_,by simp;omega⟩
    · rw[List.pairwise_append]
      exact⟨mf.pw,by simp,fun x hx y hy=>by rw[List.mem_singleton.1 hy];exact(mf.lt x hx).2⟩
    · rcases List.mem_append.1 hx with hx | hx
      · have:=mf.lt x hx;omega
      · rw[List.mem_singleton.1 hx];omega
    · by_cases c:x<j
      · exact List.mem_append_left _ (mf.sub x hx c)
      · exact List.mem_append_right _ (List.mem_singleton.2 (by omega))
   have skip:(j:Int)∉few→MnF few many (j+1):=fun hn=>by
    refine⟨mf.pw,fun x hx=>?_,fun x hx h=>?_,by omega⟩
    · have:=mf.lt x hx;omega
    · by_cases c:x<j
      · exact mf.sub x hx c
      · have:x=j:=by omega
        subst this;exact(hn hx).elim
   by_cases c:(j:Int)∈few
   · rw[decide_eq_true c]at hh
     refine⟨_,?_,e,many++[(j:Int)],le,add,rfl⟩
     obtain⟨places,roads⟩:=m
     simp only[af,bxW,wL]at*
     simp (disch:=omega) only[go_sem,K.cJ,↓reduceIte,hh,List.length_append,List.length_cons,List.length_nil,Nat.reduceAdd,Nat.reduceSub]
   · rw[decide_eq_false c]at hh
     cases q with
     | true=>
       refine⟨_,?_,e2,many++[(j:Int)],l2,add,rfl⟩
       obtain⟨places,roads⟩:=m
       simp only[af,bxW,wL]at*
       simp (disch:=omega) only[go_sem,K.cJ,↓reduceIte,hh,qe,List.length_append,List.length_cons,List.length_nil,Nat.reduceAdd,Nat.reduceSub]
     | false=>
       refine⟨_,?_,e2,many,l2,skip c,rfl⟩
       obtain⟨places,roads⟩:=m
       simp only[af,bxW,wL]at*
       simp (disch:=omega) only[go_sem,K.cJ,↓reduceIte,hh,qe,Nat.reduceAdd,Nat.reduceSub]
   )
  (by
   rintro st ⟨e,many,le,mf,rfl⟩
   refine⟨_,?_,?_,e,many,le,mf,rfl⟩
   · obtain⟨places,roads⟩:=m
     simp only[af,bxW,wL]at*
     simp (disch:=omega) only[go_sem,K.cJ,↓reduceIte,Nat.reduceAdd,Nat.reduceSub]
   · simp)
 obtain⟨q,k1,e,many,k2,k3,rfl⟩:=key
 refine⟨e,many,k2,k3,fun z0 z1 z9 z10 z11 z12 z13 z14 z15 z16 z17 z18 z19 z20=>?_⟩
 have k1:lX true [0,1,9,10,11,12,13,14,15,16,17,18,19,20] (exS aO K.cJ) ⟨[.und,.und,.bp 0 0,.bp 1 0,.bp 2 0,I t,.t (tL few),.ref 3 0 0,I 0,.und,.und,.und,.und,.und,.und,.und,.und,.und,.und,.und,.und],[e0.obj,.box (af m),bxW b,.arr 1 false 0 []]⟩=_:=k1
 exact sN (gc:=true) (dead:=[0,1,9,10,11,12,13,14,15,16,17,18,19,20]) (c:=K.cJ) (vs:=[z0,z1,.bp 0 0,.bp 1 0,.bp 2 0,I t,.t (tL few),.ref 3 0 0,I 0,z9,z10,z11,z12,z13,z14,z15,z16,z17,z18,z19,z20]) k1
end Go.Ev
namespace Go.Ev
open Go
variable [Lib] [cm] [bS] [iv] [ir] [lr] [gE] [gF] [jV] [iu] [gA] [fw] [oK] [iQ] [m0] [uv]
theorem A6(bm:aT)(t:Int)(ws:List World){i:Nat}(hi:i<ws.length):(nth (ws.map (jr bm t)) i).whr.length=(nth ws i).whr.length∧∀k,k<(nth ws i).whr.length→nth (nth (ws.map (jr bm t)) i).whr k=rO bm (nth (nth ws i).whr k) t:=by
 rw[bA (cZ (jr bm t) hi)]
 unfold jr Eu
 refine⟨kR ..,fun k hk=>?_⟩
 simp only
 rw[rJ _ _ _ _ _ (Nat.le_refl _),if_pos hk]
theorem M5{m:aT}(hm:m.ok){b:Bel}(hv:qi m b=true){few many:List Int}(h1:oP few m.roads.length=true)(h2:oP many m.roads.length=true)(h:∀x∈few,x∈many){t:Int}(ht:t≤2147483648)(en:b.worlds.any (kr t)=false):
 AmF b.worlds (b.worlds.map (jr (cR m few) t)) (b.worlds.map (jr (cR m many) t)) (b.worlds.map (jr m t)) t:=by
 have bv:BV m (nth b.worlds 0).tags b.worlds:=wE hv
 have np:=hm.np
 have o1:=oN hm h1
 have o2:=oN hm h2
 have g1:=fun i (hi:i<b.worlds.length)=>A6 (cR m few) t b.worlds hi
 have g2:=fun i (hi:i<b.worlds.length)=>A6 (cR m many) t b.worlds hi
 have g3:=fun i (hi:i<b.worlds.length)=>A6 m t b.worlds hi
 have val:=fun i (hi:i<b.worlds.length) k (hk:k<(nth b.worlds i).whr.length)=>(bv.wv _ (ae hi)).wv _ (ae hk)
 have tm:∀i,i<b.worlds.length→∀k,k<(nth b.worlds i).whr.length→(nth (nth b.worlds i).whr k).time≤t:=fun i hi k hk=>by
  have:=List.any_eq_false.1 (by simpa using List.any_eq_false.1 en _ (ae hi):kr t (nth b.worlds i)=false) _ (ae hk)
  simp only[decide_eq_true_eq]at this
  omega
 refine⟨List.length_map ..,List.length_map ..,List.length_map ..,fun i hi=>(g1 i hi).1,fun i hi=>(g2 i hi).1,fun i hi=>(g3 i hi).1,fun i hi k hk=>?_,fun i hi k hk=>?_,fun i hi k hk n=>?_,fun i hi k hk=>?_,fun i hi k hk=>?_,fun i hi k hk=>?_,fun i hi=>?_⟩
 · rw[(g3 i hi).2 k hk]
   exact KA hm (val i hi k hk) (tm i hi k hk)
 · obtain⟨v1,v2,v3, -⟩:=bF (val i hi k hk)
   rw[(g1 i hi).2 k hk,(g2 i hi).2 k hk,(slF o1 v1 v3 t).ln,(slF o2 v1 v3 t).ln];rfl
 · obtain⟨v1,v2,v3, -⟩:=bF (val i hi k hk)
   rw[(g1 i hi).2 k hk,(g2 i hi).2 k hk]
   have:=KB hm h1 h2 h v1 v3 t n
   omega
 · obtain⟨v1,v2,v3, -⟩:=bF (val i hi k hk)
   omega
 · obtain⟨v1,v2,v3, -⟩:=bF (val i hi k hk)
   rw[(g1 i hi).2 k hk,(slF o1 v1 v3 t).ln]
   show m.places.length≤_;omega
 · obtain⟨v1,v2,v3, -⟩:=bF (val i hi k hk)
   rw[(g3 i hi).2 k hk,(slF hm v1 v3 t).ln];omega
 · have:=(bv.wv _ (ae hi)).wl
   have:=bv.f2
   omega
theorem OE(aw:aO 0 N.fP [] []=some (B true,[]))(li:List Int):aO 0 N.dq [.t (tL li)] []=some (B true,[]):=by
 refine ay K.lI rfl ?_
 have lo:=LW li
 by_cases c:li.length≤400
 · simp only[c,decide_true]at lo
   have ro:=Xg li
   have d0:(aB.mk li 0).dn:=c
   generalize (aB.mk li 0)=d at*
   obtain⟨m,e1,mo,l1,hm,p1,p2,r1,r2⟩:=Xi d0
   obtain⟨b,e2,be,l2,hv,hs,w6,n3,hT⟩:=M0 l1 hm (by omega)
   have la:=R4 b hs
   obtain⟨g,e3,go,l3,g0,g1⟩:=Xh l2 90 (by omega) (by omega)
   obtain⟨few,e4,so,l4,sl,ss⟩:=Xq l3 m.roads.length (by omega)
   have ll:=R5 hT
   have l0:=(Ky b).1
   have en:=M3 (b:=b) (t:=A5 b+g) (by omega)
   have t9:A5 b+g≤2147483648:=by omega
   obtain⟨w1,w2,f1,f2, -⟩:=fI hv
   generalize A5 b=q0 at*
   obtain⟨e5,many,l5,mf,lp1⟩:=acz l4 hm b.worlds (q0+g) (few:=few) (by omega) ss
   have sm:=mf.oP
   have ml:=mf.ln
   have sub:∀x∈few,x∈many:=fun x hx=>mf.sub x hx (by
    obtain⟨j,hj⟩:=List.mem_iff_getElem?.1 hx
    have:=(q7 ss (List.getElem?_eq_some_iff.1 hj).1).2
    rwa [bA hj]at this)
   have s1:=A3 hm (by omega) b hs (by omega) few (by omega) (q0+g)
   have s2:=A3 hm (by omega) b hs (by omega) many (by omega) (q0+g)
   have s3:=A3 hm (by omega) b hs (by omega) [] (by simp) (q0+g)
   rw[vr hv ss t9 en]at s1
   rw[vr hv sm t9 en]at s2
   rw[vr hv (show oP [] m.roads.length=true from rfl) t9 en,Ez]at s3
   have f:=M5 hm hv ss sm sub t9 en
   have lx:=f.lx
   have ly:=f.ly
   have lz:=f.lz
   simp only[tL,List.map_nil]at s3
   have lp2:=acy e5 m b.worlds _ _ _ true many (q0+g) f (by omega)
   clear f mf sm sub hv hT en
   generalize b.worlds.map (jr (cR m few) (q0+g))=xs at*
   generalize b.worlds.map (jr (cR m many) (q0+g))=ys at*
   generalize b.worlds.map (jr m (q0+g))=zs at*
   obtain⟨ws⟩:=b
   obtain⟨places,roads⟩:=m
   simp only[af,bxW,wL,amH,amV]at*
   simp (disch:=omega) only[go_sem,K.dq,↓reduceIte,lo,ro,mo,be,la,go,so,lp1,s1,s2,s3,lx,ly,lz,lp2,aw,ne_eq,not_true_eq_false,decide_false,Nat.reduceAdd,Nat.reduceSub]
 · simp only[c,decide_false]at lo
   simp (disch:=omega) only[go_sem,K.dq,↓reduceIte,lo,aw,Nat.reduceAdd,Nat.reduceSub]
end Go.Ev
