/- Parts of the proof: see the text that holds the theorem. -/
import Derived.Test.YtfeojjgfpaklnaaGreatZ2
set_option linter.all false
open Nat (reduceAdd reduceSub)
set_option maxRecDepth 100000
namespace Go.Ev
open Go Go.ChangeShapes Go.RowKit
variable [Names]
def eR(P:Program)(t:TypeId):Bool:=match P.underlying t with
 | some (.struct _)=>true
 | some (.array _ _)=>true
 | _=>false
def Il(P:Program)(total:Nat):Nat→List Field→Bool
 | off,[]=>off==total
 | off,f::r=>(f.offset==off)&&Il P total (off+P.cellsOf f.type) r
def iQ(P:Program):Nat→TypeId→Bool
 | 0,_=>false
 | n+1,t=>match P.underlying t with
   | some .bool=>P.cellsOf t==1
   | some (.int _)=>P.cellsOf t==1
   | some .string=>P.cellsOf t==1
   | some (.slice e)=>(P.cellsOf t==1)&&decide (0<P.cellsOf e)&&iQ P n e
   | some (.struct fs)=>Il P (P.cellsOf t) 0 fs.toList&&fs.toList.all fun f=>iQ P n f.type
   | some (.array m e)=>(P.cellsOf t==m*P.cellsOf e)&&iQ P n e
   | _=>false
def okC(P:Program):Nat→TypeId→List T→Prop
 | 0,_,_=>False
 | n+1,t,cs=>match P.underlying t with
   | some .bool=>∃b,cs=[.bool b]
   | some (.int k)=>∃m,cs=[.int k m]∧(Lit.int k m).wf=true
   | some .string=>∃s:ByteArray,cs=[.str s]∧s.size≤maxLen
   | some (.slice e)=>∃es,cs=[.sl es]∧es.length≤maxLen∧∀x∈es,okC P n e x.cells∧(eR P e=true→∃ys,x= .agg ys)∧(eR P e=false→∀ys,x≠ .agg ys)
   | some (.struct fs)=>cs.length=P.cellsOf t∧∀f∈fs.toList,okC P n f.type ((cs.drop f.offset).take (P.cellsOf f.type))
   | some (.array m e)=>cs.length=P.cellsOf t∧∀i,i<m→okC P n e ((cs.drop (i*P.cellsOf e)).take (P.cellsOf e))
   | _=>False
def Du(w:World):Fz:=fun b o=>w.cell? ⟨b,o,none⟩
def G5(F:Fz)(vs:List Value)(cs:List T):Prop:=vs.length=cs.length∧∀(i:Nat) v c,vs[i]?=some v→cs[i]?=some c→iP F v c∧dO v=true
theorem G5.append{F:Fz}{vs vs':List Value}{cs cs':List T}(h:G5 F vs cs)(h':G5 F vs' cs'):G5 F (vs++vs') (cs++cs'):=by
 refine⟨by simp[h.1,h'.1],fun i v c hv hc=>?_⟩
 by_cases hi:i<vs.length
 · rw[aLg hi]at hv
   rw[aLg (h.1▸hi)]at hc
   exact h.2 i v c hv hc
 · rw[aLh (by omega)]at hv
   rw[aLh (by have:=h.1;omega),←h.1]at hc
   exact h'.2 _ v c hv hc
section
variable {P : Program} {w : World} {H : Type} {enc : TypeId × Value → H} {spare : Nat → Bool} {held : Bool}
theorem Dv{α β:Type}{l:List α}{Q:Nat→α→β→Prop}(h:∀(i:Nat) a,l[i]?=some a→∃b,Q i a b):∃m:List β,m.length=l.length∧∀(i:Nat) a b,l[i]?=some a→m[i]?=some b→Q i a b:=by
 induction l generalizing Q with
 | nil=>exact⟨[],rfl,fun i a b h=>by simp at h⟩
 | cons a l ih=>
   obtain⟨b,hb⟩:=h 0 a rfl
   obtain⟨m,h1,h2⟩:=ih (Q:=fun i=>Q (i+1)) fun i x hx=>h (i+1) x (by simpa using hx)
   refine⟨b::m,by simp[h1],fun i x y hx hy=>?_⟩
   cases i with
   | zero=>simp at hx hy;subst hx;subst hy;exact hb
   | succ i=>exact h2 i x y (by simpa using hx) (by simpa using hy)
theorem EW{F:Fz}{Q:Field→List T→Prop}:∀ {fs:List Field} {off total:Nat} {cs:List Value},Il P total off fs=true→cs.length=total→off≤total→
 (∀f∈fs,∃xs,G5 F ((cs.drop f.offset).take (P.cellsOf f.type)) xs∧xs.length=P.cellsOf f.type∧Q f xs)→
 ∃xs,G5 F (cs.drop off) xs∧∀f∈fs,off≤f.offset∧Q f ((xs.drop (f.offset-off)).take (P.cellsOf f.type))
 | [],off,total,cs,ht,hl,hle,_=>by
   simp only[Il,beq_iff_eq]at ht
   exact⟨[],⟨by simp;omega,fun i v c hv hc=>by simp at hc⟩,fun f hf=>by cases hf⟩
 | f::r,off,total,cs,ht,hl,hle,hq=>by
   simp only[Il,aLr,beq_iff_eq]at ht
   obtain⟨h1,h2⟩:=ht
   obtain⟨xs,k1,k2,k3⟩:=hq f (List.mem_cons_self)
   have hle2:off+P.cellsOf f.type≤total:=by
    have:=k1.1
    rw[k2,List.length_take,List.length_drop,h1]at this
    omega
   obtain⟨ys,j1,j2⟩:=EW h2 hl hle2 fun g hg=>hq g (List.mem_cons_of_mem _ hg)
   refine⟨xs++ys,?_,fun g hg=>?_⟩
   · have:cs.drop off=(cs.drop off).take (P.cellsOf f.type)++cs.drop (off+P.cellsOf f.type):=by
      rw[← List.drop_drop,List.take_append_drop]
     rw[this]
     rw[h1]at k1
     exact k1.append j1
   · rcases List.mem_cons.1 hg with hg | hg
     · subst hg
       refine⟨by omega,?_⟩
       rw[h1,Nat.sub_self,List.drop_zero,List.take_append_of_le_length (by omega),List.take_of_length_le (by omega)]
       exact k3
     · obtain⟨i1,i2⟩:=j2 g hg
       refine⟨by omega,?_⟩
       rw[List.drop_append,List.drop_eq_nil_of_le (by omega),List.nil_append,k2,show g.offset-off-P.cellsOf f.type=g.offset-(off+P.cellsOf f.type)by omega]
       exact i2
theorem Im{F:Fz}{Q:List T→Prop}{sz:Nat}:∀(m:Nat) (cs:List Value),cs.length=m*sz→
 (∀i,i<m→∃xs,G5 F ((cs.drop (i*sz)).take sz) xs∧xs.length=sz∧Q xs)→
 ∃xs,G5 F cs xs∧∀i,i<m→Q ((xs.drop (i*sz)).take sz)
 | 0,cs,hl,_=>by
   have:cs=[]:=List.eq_nil_of_length_eq_zero (by omega)
   exact⟨[],⟨by simp[this],fun i v c hv hc=>by simp at hc⟩,fun i hi=>by omega⟩
 | m+1,cs,hl,hq=>by
   obtain⟨xs,k1,k2,k3⟩:=hq 0 (by omega)
   rw[Nat.zero_mul,List.drop_zero]at k1
   have hl':(cs.drop sz).length=m*sz:=by rw[List.length_drop,hl,Nat.succ_mul];omega
   obtain⟨ys,j1,j2⟩:=Im m (cs.drop sz) hl' fun i hi=>by
    obtain⟨zs,a1,a2,a3⟩:=hq (i+1) (by omega)
    refine⟨zs,?_,a2,a3⟩
    rw[List.drop_drop,show sz+i*sz=(i+1)*sz by rw[Nat.succ_mul];omega]
    exact a1
   refine⟨xs++ys,?_,fun i hi=>?_⟩
   · have:cs=cs.take sz++cs.drop sz:=(List.take_append_drop _ _).symm
     rw[this];exact k1.append j1
   · cases i with
     | zero=>rw[Nat.zero_mul,List.drop_zero,List.take_append_of_le_length (by omega),List.take_of_length_le (by omega)];exact k3
     | succ i=>
       rw[List.drop_append,List.drop_eq_nil_of_le (by rw[k2,Nat.succ_mul];omega),List.nil_append,k2,show(i+1)*sz-sz=i*sz by rw[Nat.succ_mul];omega]
       exact j2 i (by omega)
theorem tB{base n:Nat}{a:Addr}{cs:List Value}(h:w.cells? base a n=some cs):cs.length=n∧∀i v,cs[i]?=some v→w.cell? (a.add i)=some v:=by
 unfold World.cells? at h
 split at h
 · have h1:=mapM_some_length h
   refine⟨by simpa using h1,fun i v hv=>?_⟩
   have hi:i<cs.length:=(aLe.1 hv).1
   rw[h1,List.length_range]at hi
   have:=mapM_some_get h i i (by simp[hi])
   rw[this,hv]
 · cases h
theorem Oz{F:Fz}{v:Value}{c:T}(h:iP F v c)(hc:∀ys,c≠ .agg ys):dO v=true:=by
 cases h with
 | agg vs cs=>exact(hc cs rfl).elim
 | _=>rfl
theorem Io{a:Addr}{v:Value}(h:w.cell? (a.add 0)=some v):a.spot=none:=by
 cases hs:a.spot with
 | none=>rfl
 | some s=>
   have:(a.add 0).spot=some s:=hs
   unfold World.cell? at h
   split at h
   · rw[this]at h;simp at h
   · cases h
theorem KQ:∀(n:Nat) (t:TypeId) (fuel:Nat) (cs:List Value) (x:DataW H×List MemPlace),iQ P n t=true→DataW.trod enc P w 0 spare held fuel t cs=some x→
 ∃xs,G5 (Du w) cs xs∧okC P n t xs∧(eR P t=false→∃c,xs=[c]∧∀ys,c≠ .agg ys)∧cs.length=P.cellsOf t:=by
 intro n
 induction n with
 | zero=>intro t fuel cs x hp;simp[iQ]at hp
 | succ n ih=>
   intro t fuel cs x hp h
   have one:∀(v:Value) (c:T),iP (Du w) v c→(∀ys,c≠ .agg ys)→G5 (Du w) [v] [c]:=fun v c hr hc=>⟨rfl,fun i v' c' hv hc'=>by
    cases i with
    | zero=>simp at hv hc';subst hv;subst hc';exact⟨hr,Oz hr hc⟩
    | succ i=>simp at hv⟩
   unfold iQ at hp
   cases hu:P.underlying t with
   | none=>rw[hu]at hp;simp at hp
   | some d=>
     rw[hu]at hp
     cases d<;>simp only[aLt]at hp
     case bool=>
      obtain⟨b,rfl,_⟩:=DataW.trod_bool hu h
      exact⟨[.bool b],one _ _ (.bool b) (fun _ e=>by cases e),by simp only[okC,hu];exact⟨b,rfl⟩,fun _=>⟨_,rfl,fun _ e=>by cases e⟩,by simp only[beq_iff_eq]at hp;simp[hp]⟩
     case int k=>
      obtain⟨m,rfl,_,hw⟩:=DataW.trod_int hu h
      exact⟨[.int k m],one _ _ (.int k m) (fun _ e=>by cases e),by simp only[okC,hu];exact⟨m,rfl,hw⟩,fun _=>⟨_,rfl,fun _ e=>by cases e⟩,by simp only[beq_iff_eq]at hp;simp[hp]⟩
     case string=>
      obtain⟨s,rfl,_,hw⟩:=DataW.trod_string hu h
      exact⟨[.str s],one _ _ (.str s) (fun _ e=>by cases e),by simp only[okC,hu];exact⟨s,rfl,hw⟩,fun _=>⟨_,rfl,fun _ e=>by cases e⟩,by simp only[beq_iff_eq]at hp;simp[hp]⟩
     case slice e=>
      simp only[aLr,decide_eq_true_eq,Bool.or_eq_true,beq_iff_eq]at hp
      obtain⟨⟨hsz,hpos⟩,hpe⟩:=hp
      rcases DataW.trod_slice hu h with⟨rfl,_⟩ | ⟨a,len,cap,elems,rest,fu,_,rfl,_,_,hcap,hmax,hlen,hel,_⟩
      · exact⟨[.sl []],one _ _ (.sl0 none 0) (fun _ e=>by cases e),by simp only[okC,hu];exact⟨[],rfl,by simp,by simp⟩,fun _=>⟨_,rfl,fun _ e=>by cases e⟩,by simp[hsz]⟩
      · -- the elements,one by one
        have hch:=Dv (l:=List.range len) (Q:=fun i _ (e':T)=>∃cs',w.cells? 0 (a.add (i*P.cellsOf e)) (P.cellsOf e)=some cs'∧G5 (Du w) cs' e'.cells∧okC P n e e'.cells∧
         (eR P e=true→∃ys,e'= .agg ys)∧(eR P e=false→∀ys,e'≠ .agg ys)) fun i j hj=>by
         have hi:i<len:=by
          have:=(aLe.1 hj).1;simpa using this
         have hg:=hel i hi
         have hle:i<elems.length:=by omega
         rw[aLc hle]at hg
         obtain⟨cs',hc1,hc2⟩:=aLa.1 hg
         obtain⟨xs,r1,r2,r3,r4⟩:=ih e fu cs' _ hpe hc2
         cases hA:eR P e with
         | true=>exact⟨.agg xs,cs',hc1,r1,r2,fun _=>⟨xs,rfl⟩,fun h=>by cases h⟩
         | false=>
           obtain⟨c,rfl,hc⟩:=r3 hA
           refine⟨c,cs',hc1,?_,?_,(fun h=>by cases h),fun _=>hc⟩
           · cases c<;>first | exact r1 | exact(hc _ rfl).elim
           · cases c<;>first | exact r2 | exact(hc _ rfl).elim
        obtain⟨es,he1,he2⟩:=hch
        rw[List.length_range]at he1
        have hes:∀(i:Nat) e',es[i]?=some e'→∃cs',w.cells? 0 (a.add (i*P.cellsOf e)) (P.cellsOf e)=some cs'∧G5 (Du w) cs' e'.cells∧okC P n e e'.cells∧
         (eR P e=true→∃ys,e'= .agg ys)∧(eR P e=false→∀ys,e'≠ .agg ys):=fun i e' hi=>by
         have hlt:i<len:=by rw[← he1];exact(aLe.1 hi).1
         exact he2 i i e' (by simp[hlt]) hi
        have hok:okC P (n+1) t [.sl es]:=by
         simp only[okC,hu]
         refine⟨es,rfl,by omega,fun x hx=>?_⟩
         obtain⟨i,hi⟩:=aLf.1 hx
         obtain⟨_,_,_,k1,k2,k3⟩:=hes i x hi
         exact⟨k1,k2,k3⟩
        refine⟨[.sl es],one _ _ ?_ (fun _ e=>by cases e),hok,fun _=>⟨_,rfl,fun _ e=>by cases e⟩,by simp[hsz]⟩
        by_cases h0:len=0
        · have:es=[]:=List.eq_nil_of_length_eq_zero (by omega)
          subst this
          rw[h0];exact .sl0 _ _
        · have hlt0:0<es.length:=by omega
          obtain⟨cs',hc1,hc2,_⟩:=hes 0 _ (aLc hlt0)
          obtain⟨l1,l2⟩:=tB hc1
          have hspot:a.spot=none:=by
           have hv:=l2 0 _ (aLc (by omega))
           have:(a.add (0*P.cellsOf e)).add 0=a.add 0:=by rw[Nat.zero_mul];rfl
           rw[this]at hv
           exact Io hv
          have ha:a=⟨a.block,a.off,none⟩:=by cases a;simp only at hspot;subst hspot;rfl
          have hcell:∀(i:Nat) e' (k:Nat) c,es[i]?=some e'→e'.cells[k]?=some c→∃v,w.cell? ⟨a.block,a.off+i*P.cellsOf e+k,none⟩=some v∧iP (Du w) v c∧dO v=true:=by
           intro i e' k c hi hk
           obtain⟨cs',hc1,hc2,_⟩:=hes i e' hi
           obtain⟨l1,l2⟩:=tB hc1
           have hkl:k<cs'.length:=by rw[hc2.1];exact(aLe.1 hk).1
           refine⟨cs'[k],?_,hc2.2 k _ c (aLc hkl) hk⟩
           rw[← l2 k _ (aLc hkl)]
           have:(a.add (i*P.cellsOf e)).add k=⟨a.block,a.off+i*P.cellsOf e+k,none⟩:=by rw[ha,eW,eW]
           rw[this]
          have hr:=iP.sl (F:=Du w) a.block a.off cap (P.cellsOf e) es (fun i k=>(w.cell? ⟨a.block,a.off+i*P.cellsOf e+k,none⟩).getD undef) (by omega)
           (fun e' he'=>by
            obtain⟨i,hi⟩:=aLf.1 he'
            obtain⟨cs',hc1,hc2,_⟩:=hes i e' hi
            rw[← hc2.1];exact(tB hc1).1)
           (fun i e' k c hi hk=>by obtain⟨v,v1,v2,v3⟩:=hcell i e' k c hi hk;simp only[Du,v1,Option.getD_some,v3,and_self])
           (fun i e' k c hi hk=>by obtain⟨v,v1,v2,v3⟩:=hcell i e' k c hi hk;simp only[v1,Option.getD_some];exact v2)
          rw[he1,←ha]at hr
          exact hr
     case struct fs=>
      rw[aLr]at hp
      obtain⟨ys,m,_,_,hl,hyl,hf⟩:=DataW.trod_struct hu h
      obtain⟨xs,k1,k2⟩:=EW (F:=Du w) (Q:=fun f xs=>okC P n f.type xs) hp.1 hl (Nat.zero_le _) fun f hfm=>by
       obtain⟨i,hi⟩:=aLf.1 hfm
       have hi':fs[i]?=some f:=by simpa using hi
       have hil:i<ys.length:=by
        have:=(Array.getElem?_eq_some_iff.1 hi').1;omega
       have hg:=hf i f hi'
       rw[aLc hil]at hg
       obtain⟨zs,r1,r2,r3,r4⟩:=ih f.type m _ _ (aLx.1 hp.2 f hfm) hg
       refine⟨zs,r1,?_,r2⟩
       rw[← r1.1];exact r4
      rw[List.drop_zero]at k1
      exact⟨xs,k1,by simp only[okC,hu];exact⟨by rw[← k1.1,hl],fun f hfm=>by simpa using(k2 f hfm).2⟩,fun e=>by simp[eR,hu]at e,hl⟩
     case array m e=>
      simp only[aLr,beq_iff_eq]at hp
      obtain⟨ys,fu,_,_,hl,hyl,hf⟩:=DataW.trod_array hu h
      obtain⟨xs,k1,k2⟩:=Im (F:=Du w) (Q:=fun xs=>okC P n e xs) (sz:=P.cellsOf e) m cs (by rw[hl,hp.1]) fun i hi=>by
       have hil:i<ys.length:=by omega
       have hg:=hf i hi
       rw[aLc hil]at hg
       obtain⟨zs,r1,r2,r3,r4⟩:=ih e fu _ _ hp.2 hg
       refine⟨zs,r1,?_,r2⟩
       rw[← r1.1];exact r4
      exact⟨xs,k1,by simp only[okC,hu];exact⟨by rw[← k1.1,hl],k2⟩,fun e=>by simp[eR,hu]at e,hl⟩
def okT(P:Program)(n:Nat)(t:TypeId)(x:T):Prop:=okC P n t x.cells∧(eR P t=true→∃ys,x= .agg ys)∧(eR P t=false→∀ys,x≠ .agg ys)
def Dw(P:Program)(n:Nat):List TypeId→List T→Prop
 | [],[]=>True
 | t::ts,x::xs=>okT P n t x∧Dw P n ts xs
 | _,_=>False
theorem OA{n:Nat}{t:TypeId}(hp:iQ P n t=true)(hA:eR P t=false){base:Nat}{v:Value}(h:Value.okWide P w .any base t v):v.cells.toList=[v]:=by
 cases n with
 | zero=>simp[iQ]at hp
 | succ n=>
   unfold iQ at hp
   unfold eR at hA
   cases hu:P.underlying t with
   | none=>rw[hu]at hp;simp at hp
   | some d=>
     rw[hu]at hp hA
     cases d<;>simp only[aLt]at hp<;>try (simp at hA;done)
     · obtain⟨b,rfl⟩:=WideShapes.okWide_bool hu h;rfl
     · obtain⟨b,rfl⟩:=WideShapes.okWide_int hu h;rfl
     · obtain⟨b,rfl⟩:=WideShapes.okWide_string hu h;rfl
     · obtain⟨a,l,c,rfl⟩:=WideShapes.okWide_slice hu h;rfl
theorem OB{n:Nat}{t:TypeId}(hp:iQ P n t=true){base:Nat}{v:Value}(hok:Value.okWide P w .any base t v){d:DataW H}{ps:List MemPlace}
 (h:DataW.Trod enc P w 0 spare held t v d ps):∃x,okT P n t x∧iP (Du w) v x:=by
 obtain⟨fuel,h⟩:=h
 obtain⟨xs,h1,h2,h3,h4⟩:=KQ n t fuel _ _ hp h
 cases hA:eR P t with
 | true=>
   obtain⟨cs,rfl⟩:∃cs,v= .agg cs:=by
    unfold eR at hA
    unfold Value.okWide at hok
    split at hA<;>first | cases hA | skip
    · rename_i hu;rw[hu]at hok;obtain⟨cs,h,_⟩:=hok;exact⟨cs,h⟩
    · rename_i hu;rw[hu]at hok;obtain⟨cs,h,_⟩:=hok;exact⟨cs,h⟩
   refine⟨.agg xs,⟨h2,fun _=>⟨xs,rfl⟩,(fun h=>by rw[hA]at h;cases h)⟩,?_⟩
   have:=iP.agg (F:=Du w) cs.toList xs h1.1 (fun v hv=>by
    obtain⟨i,hi⟩:=aLf.1 hv
    obtain⟨c,hc⟩:=ab h1.1 hi
    exact(h1.2 i v c hi hc).2) (fun i v c hv hc=>(h1.2 i v c hv hc).1)
   simpa using this
 | false=>
   obtain⟨c,rfl,hc⟩:=h3 hA
   have hv:=OA hp hA hok
   rw[hv]at h1
   refine⟨c,⟨?_,(fun h=>by rw[hA]at h;cases h),fun _=>hc⟩,(h1.2 0 v c rfl rfl).1⟩
   cases c<;>first | exact h2 | exact(hc _ rfl).elim
theorem EX{n:Nat}{base:Nat}:∀ {ts:List TypeId} {vs:List Value} {ds:List (DataW H)} {ps:List MemPlace},(∀t∈ts,iQ P n t=true)→
 (∀(j:Nat) t v,ts[j]?=some t→vs[j]?=some v→Value.okWide P w .any base t v)→DataW.TrodAll enc P w 0 spare held ts vs ds ps→
 ds.length=ts.length∧∃xs,Dw P n ts xs∧kZ (Du w) [] (shp []) vs (xs.map .t)
 | [],[],[],_,_,_,_=>⟨rfl,[],trivial,kZ.nil⟩
 | [],[],_::_,_,_,_,h=>h.elim
 | [],_::_,_,_,_,_,h=>h.elim
 | _::_,[],_,_,_,_,h=>h.elim
 | _::_,_::_,[],_,_,_,h=>h.elim
 | t::ts,v::vs,d::ds,ps,hp,hok,h=>by
   obtain⟨p,q,h1,h2,rfl⟩:=h
   obtain⟨x,k1,k2⟩:=OB (hp t List.mem_cons_self) (hok 0 t v rfl rfl) h1
   obtain⟨l1,xs,l2,l3⟩:=EX (fun t ht=>hp t (List.mem_cons_of_mem _ ht)) (fun j t v hj hv=>hok (j+1) t v (by simpa using hj) (by simpa using hv)) h2
   exact⟨by simp[l1],x::xs,⟨k1,l2⟩,kZ.cons (.t _ _ k2) l3⟩
theorem rY{W W':World}(hl:laidOutB P=true){sp':Nat→Bool}:∀ {ts:List TypeId} {vs:List Value} {ds:List (DataW H)} {ps:List MemPlace},(∀t∈ts,P.readableRec t=true∧t<P.types.size)→
 DataW.TrodAll enc P W 0 (fun _=>true) true ts vs ds ps→(∀p∈ps,W.sameAt W' p)→(∀p∈ps,sp' p.block=true)→DataW.TrodAll enc P W' 0 sp' true ts vs ds ps
 | [],[],[],_,_,h,_,_=>h
 | [],[],_::_,_,_,h,_,_=>h.elim
 | [],_::_,_,_,_,h,_,_=>h.elim
 | _::_,[],_,_,_,h,_,_=>h.elim
 | _::_,_::_,[],_,_,h,_,_=>h.elim
 | t::ts,v::vs,d::ds,ps,hr,h,hs,hb=>by
   obtain⟨p,q,h1,h2,rfl⟩:=h
   exact⟨p,q,WideElems.Trod_stays hl (hr t List.mem_cons_self).1 (hr t List.mem_cons_self).2 h1 (fun x hx=>hs x (List.mem_append_left _ hx)) (fun x hx=>hb x (List.mem_append_left _ hx)),
    rY hl (fun t ht=>hr t (List.mem_cons_of_mem _ ht)) h2 (fun x hx=>hs x (List.mem_append_right _ hx)) (fun x hx=>hb x (List.mem_append_right _ hx)),rfl⟩
theorem OC(w:World):ax (Du w) [] [] w:=
 ⟨rfl,fun i o og h=>by simp at h,fun i j ogi ogj b _ h=>by simp at h,fun b o v h=>h⟩
theorem Ip{fs:Nat→Option Fn}(hcall:∀n,jW P (dh fs n)){f:Func}{j N:Nat}(hj:Names.ρ N=some j){s:ChangeSpec}(hl:laidOutB P=true){n:Nat}
 (hpar:f.params.toList.all (fun t=>iQ P n t&&P.readableRec t&&decide (t<P.types.size))=true)
 {tb:TypeId} (hres:f.resultTypes= #[tb]) (hb:P.underlying tb=some .bool) (hvars:s.vars=[])
 (hfn:∀(H:Type) (ds:List (DataW H)),ds.length=f.params.toList.length→s.fn H ds={ results:=[.lit (.bool true)],args:=ds})
 (hlaw:∀xs:List T,Dw P n f.params.toList xs→me fs 0 N (xs.map .t) []=some (.t (.bool true),[]))
 (W:World) (base:Nat) (args:Array Value) (ds gs:List (DataW H)) (before:List MemPlace)
 (hval:∀(j:Nat) t v,f.params[j]?=some t→args[j]?=some v→Value.okWide P W .any base t v)
 (hW:DataW.Whole enc P f.params.toList s.vars false W args.toList ds gs before):
 Calls P j args W fun e W'=>∃v,e= .returned v∧s.post enc P f false true false false W args v W':=by
 have hW':=hW
 obtain⟨p,q,hA,hV,rfl,hfz,hnd⟩:=hW
 rw[hvars]at hV
 obtain⟨rfl,rfl⟩:gs=[]∧q=[]:=by
  cases gs with
  | nil=>exact⟨rfl,hV⟩
  | cons g gs=>exact hV.elim
 have hpar':∀t∈f.params.toList,iQ P n t=true∧P.readableRec t=true∧t<P.types.size:=fun t ht=>by
  have:=aLx.1 hpar t ht
  simp only[aLr,decide_eq_true_eq]at this
  exact⟨this.1.1,this.1.2,this.2⟩
 obtain⟨hdl,xs,hxs,hrel⟩:=EX (fun t ht=>(hpar' t ht).1) (fun j t v hj hv=>hval j t v (by simpa using hj) (by simpa using hv)) hA
 obtain⟨m,hm⟩:=rX.1 (hlaw xs hxs)
 have hfn':=hfn H ds hdl
 refine(hcall m 0 N _ _ _ _ hm j hj (Du W) [] W args.toList hrel (OC W) (fun v w'=>v= .bool true∧W.heap.size≤w'.heap.size∧(∀b,b<W.heap.size→w'.heap[b]?=W.heap[b]?)∧qf W w') ?_).mono ?_
 · intro v w' F' g' hv hH hE hA
   refine⟨?_,hE.size,fun b hb=>hE.keep b hb (fun⟨og,hm,_⟩=>by cases hm),hE.io⟩
   cases hv with | t _ _ hv=>cases hv;rfl
 · rintro e W' ⟨v,rfl,rfl,hsz,hkeep,hio⟩
   have hlt:∀x∈p,x.block<W.heap.size:=fun x hx=>by simpa using hW'.lt x (by simpa using hx)
   have hsame:∀x∈p,W.sameAt W' x:=fun x hx=>by
    have:=hlt x hx
    cases x with
    | cell b o=>simp only[World.sameAt,World.cell?,hkeep b this]
    | map b=>exact hkeep b this
   refine⟨.bool true,rfl,ds,[],p,[],p,[],by simpa using hW',?_,?_,?_,?_,fun h=>by cases h⟩
   · rw[List.append_nil,hfn',hres]
     exact⟨[],[],⟨1,by simp[DataW.trod,hb,Value.resultList,Value.cells]⟩,rfl,rfl⟩
   · rw[List.append_nil,hfn']
     exact rY hl (fun t ht=>(hpar' t ht).2) hA hsame fun x hx=>by simpa using hlt x hx
   · rw[hvars,List.append_nil,hfn'];rfl
   · refine⟨hio.1,hio.2,fun i hi=>?_⟩
     rw[hkeep i hi]
     split<;>simp_all
end
end Go.Ev
namespace Go.Ev
open Go
def Vu(n:Int):Prop:= -9223372036854775808≤n∧n≤9223372036854775807
theorem OD{m:Int}(h:(Lit.int .i64 m).wf=true):Vu m:=by
 have e1:IntKind.i64.min= -9223372036854775808:=rfl
 have e2:IntKind.i64.max=9223372036854775807:=rfl
 simp only[Lit.wf,e1,e2,aLr,decide_eq_true_eq]at h
 exact h
theorem OE{P:Program}{n:Nat}{t:TypeId}{cs:List T}(hu:P.underlying t=some (.int .i64))(h:okC P (n+1) t cs):∃m,cs=[.int .i64 m]∧Vu m:=by
 unfold okC at h
 rw[hu]at h
 obtain⟨m,h1,h2⟩:=h
 exact⟨m,h1,OD h2⟩
theorem xb{x:T}(hA:∀ys,x≠ .agg ys):x.cells=[x]:=by
 cases x<;>first | rfl | exact(hA _ rfl).elim
theorem OF{P:Program}{n:Nat}{t:TypeId}{x:T}(hu:P.underlying t=some (.int .i64))(h:okT P (n+1) t x):∃m,x= .int .i64 m∧Vu m:=by
 obtain⟨h1,h2,h3⟩:=h
 have hA:eR P t=false:=by unfold eR;rw[hu]
 obtain⟨m,h4,h5⟩:=OE hu h1
 rw[xb (h3 hA)]at h4
 exact⟨m,by simpa using h4,h5⟩
theorem Iq{P:Program}{n:Nat}{t e:TypeId}{cs:List T}(hu:P.underlying t=some (.slice e)){α:Type}(f:α→T)(Q:α→Prop)(hd:∀x,okT P n e x→∃a,x=f a∧Q a)
 (h:okC P (n+1) t cs):∃l:List α,cs=[.sl (l.map f)]∧l.length≤maxLen∧∀a∈l,Q a:=by
 unfold okC at h
 rw[hu]at h
 obtain⟨es,rfl,h2,h3⟩:=h
 have key:∀es:List T,(∀x∈es,okT P n e x)→∃l:List α,es=l.map f∧∀a∈l,Q a:=by
  intro es
  induction es with
  | nil=>intro _;exact⟨[],rfl,fun a ha=>by cases ha⟩
  | cons x es ih=>
    intro hx
    obtain⟨a,ha,hq⟩:=hd x (hx x List.mem_cons_self)
    obtain⟨l,hl,hq2⟩:=ih fun y hy=>hx y (List.mem_cons_of_mem _ hy)
    refine⟨a::l,by rw[List.map_cons,ha,hl],fun b hb=>?_⟩
    rcases List.mem_cons.1 hb with rfl | hb
    · exact hq
    · exact hq2 b hb
 obtain⟨l,hl,hq⟩:=key es h3
 subst hl
 exact⟨l,rfl,by simpa using h2,hq⟩
theorem Ir{P:Program}{n:Nat}{t e:TypeId}{x:T}(hu:P.underlying t=some (.slice e)){α:Type}(f:α→T)(Q:α→Prop)(hd:∀x,okT P n e x→∃a,x=f a∧Q a)
 (h:okT P (n+1) t x):∃l:List α,x= .sl (l.map f)∧l.length≤maxLen∧∀a∈l,Q a:=by
 obtain⟨h1,h2,h3⟩:=h
 have hA:eR P t=false:=by unfold eR;rw[hu]
 obtain⟨l,h4,h5⟩:=Iq hu f Q hd h1
 rw[xb (h3 hA)]at h4
 exact⟨l,by simpa using h4,h5⟩
theorem KR{P:Program}{n:Nat}{t e:TypeId}{x:T}(hu:P.underlying t=some (.slice e))(he:P.underlying e=some (.int .i64))(h:okT P (n+2) t x):
 ∃l:List Int,x= .sl (l.map (T.int .i64))∧l.length≤maxLen∧∀m∈l,Vu m:=
 Ir hu (T.int .i64) Vu (fun _ hx=>OF he hx) h
theorem aaV{P:Program}{n:Nat}{t:TypeId}{xs:List T}(h:Dw P n [t] xs):∃x,xs=[x]∧okT P n t x:=by
 match xs,h with
 | [x],h=>exact⟨x,rfl,h.1⟩
theorem aaW{P:Program}{n:Nat}{t u:TypeId}{xs:List T}(h:Dw P n [t,u] xs):∃x y,xs=[x,y]∧okT P n t x∧okT P n u y:=by
 match xs,h with
 | [x,y],h=>exact⟨x,y,rfl,h.1,h.2.1⟩
theorem aaX{P:Program}{n:Nat}{t u v:TypeId}{xs:List T}(h:Dw P n [t,u,v] xs):∃x y z,xs=[x,y,z]∧okT P n t x∧okT P n u y∧okT P n v z:=by
 match xs,h with
 | [x,y,z],h=>exact⟨x,y,z,rfl,h.1,h.2.1,h.2.2.1⟩
end Go.Ev
namespace Go.Ev
open Go
def eqL{α:Type}(f:α→α→Bool):List α→List α→Bool
 | [],[]=>true
 | a::x,b::y=>f a b&&eqL f x y
 | _,_=>false
theorem n9{α:Type}{f:α→α→Bool}(h:∀a b,f a b=true→a=b):∀ {x y:List α},eqL f x y=true→x=y
 | [],[],_=>rfl
 | [],_::_,h'=>by simp[eqL]at h'
 | _::_,[],h'=>by simp[eqL]at h'
 | a::x,b::y,h'=>by
   simp only[eqL,aLr]at h'
   rw[h a b h'.1,n9 h h'.2]
def OH:Nat→T→T→Bool
 | _,.int j a,.int k b=>decide (j=k)&&decide (a=b)
 | _,.bool a,.bool b=>a==b
 | n+1,.agg a,.agg b=>eqL (OH n) a b
 | n+1,.sl a,.sl b=>eqL (OH n) a b
 | _,_,_=>false
theorem Av:∀ {n:Nat} {a b:T},OH n a b=true→a=b:=by
 intro n
 induction n with
 | zero=>intro a b h;cases a<;>cases b<;>simp_all [OH]
 | succ n ih=>
   intro a b h
   cases a<;>cases b<;>simp only[OH,aLt]at h
   · simp at h;rw[h.1,h.2]
   · simp at h;rw[h]
   · rw[n9 (fun _ _ h=>ih h) h]
   · rw[n9 (fun _ _ h=>ih h) h]
def JS:Nat→D→D→Bool
 | n,.t a,.t b=>OH n a b
 | _,.nil,.nil=>true
 | n+1,.agg a,.agg b=>eqL (JS n) a b
 | _,.bp a b,.bp c d=>decide (a=c)&&decide (b=d)
 | _,.ap a b c d e,.ap a' b' c' d' e'=>decide (a=a')&&decide (b=b')&&decide (c=c')&&decide (d=d')&&decide (e=e')
 | n,.ep a,.ep b=>eqL (OH n) a b
 | _,.ref a b c,.ref a' b' c'=>decide (a=a')&&decide (b=b')&&decide (c=c')
 | _,.sub a b c d e,.sub a' b' c' d' e'=>decide (a=a')&&decide (b=b')&&decide (c=c')&&decide (d=d')&&decide (e=e')
 | n+1,.fn f a,.fn g b=>decide (f=g)&&eqL (JS n) a b
 | n+1,.tup a,.tup b=>eqL (JS n) a b
 | _,.nilp,.nilp=>true
 | _,.und,.und=>true
 | _,.ub,.ub=>true
 | _,_,_=>false
theorem Aw:∀ {n:Nat} {a b:D},JS n a b=true→a=b:=by
 intro n
 induction n with
 | zero=>
   intro a b h
   cases a<;>cases b<;>simp only[JS,aLt,aLr,decide_eq_true_eq]at h<;>try rfl
   · rw[Av h]
   · rw[h.1,h.2]
   · obtain⟨⟨⟨⟨h1,h2⟩,h3⟩,h4⟩,h5⟩:=h;rw[h1,h2,h3,h4,h5]
   · rw[n9 (fun _ _ h=>Av h) h]
   · obtain⟨⟨h1,h2⟩,h3⟩:=h;rw[h1,h2,h3]
   · obtain⟨⟨⟨⟨h1,h2⟩,h3⟩,h4⟩,h5⟩:=h;rw[h1,h2,h3,h4,h5]
 | succ n ih=>
   intro a b h
   cases a<;>cases b<;>simp only[JS,aLt,aLr,decide_eq_true_eq]at h<;>try rfl
   · rw[Av h]
   · rw[n9 (fun _ _ h=>ih h) h]
   · rw[h.1,h.2]
   · obtain⟨⟨⟨⟨h1,h2⟩,h3⟩,h4⟩,h5⟩:=h;rw[h1,h2,h3,h4,h5]
   · rw[n9 (fun _ _ h=>Av h) h]
   · obtain⟨⟨h1,h2⟩,h3⟩:=h;rw[h1,h2,h3]
   · obtain⟨⟨⟨⟨h1,h2⟩,h3⟩,h4⟩,h5⟩:=h;rw[h1,h2,h3,h4,h5]
   · rw[h.1,n9 (fun _ _ h=>ih h) h.2]
   · rw[n9 (fun _ _ h=>ih h) h]
def Yy:Obj→Obj→Bool
 | .box a,.box b=>eqL (JS 16) a b
 | .arr a b c d,.arr a' b' c' d'=>decide (a=a')&&(b==b')&&decide (c=c')&&eqL (JS 16) d d'
 | _,_=>false
theorem Is{a b:Obj}(h:Yy a b=true):a=b:=by
 cases a<;>cases b<;>simp only[Yy,aLt,aLr,decide_eq_true_eq,beq_iff_eq]at h
 · rw[n9 (fun _ _ h=>Aw h) h]
 · obtain⟨⟨⟨h1,h2⟩,h3⟩,h4⟩:=h
   rw[h1,h2,h3,n9 (fun _ _ h=>Aw h) h4]
def Vv{α:Type}(f:α→α→Bool):Option α→Option α→Bool
 | none,none=>true
 | some a,some b=>f a b
 | _,_=>false
theorem Dx{α:Type}{f:α→α→Bool}(h:∀a b,f a b=true→a=b){x y:Option α}(h':Vv f x y=true):x=y:=by
 cases x<;>cases y<;>simp only[Vv,aLt]at h'
 · rfl
 · rw[h _ _ h']
def Dy(tr:List (List D×List D×aj))(rs:List R)(p:Nat×Nat):Bool:=
 match tr[p.1]?,rs[p.1]?,tr[p.2]?,tr[p.1+1]? with
 | some s,some r,some a,some s'=>(match r.o with
   | .al _ _=>Vv Yy a.2.2[s.2.2.length]? s'.2.2[s.2.2.length]?
   | o=>(bS s.1 r.g==some false)||
     (Vv (JS 16) (vt (X.get s.2.1 s.1) a.2.2 o) (vt (X.get s.2.1 s.1) s.2.2 o)&&(vt (X.get s.2.1 s.1) s.2.2 o).isSome))
 | _,_,_,_=>false
open Classical in
theorem B1{tr:List (List D×List D×aj)}{rs:List R}{p:Nat×Nat}(h:Dy tr rs p=true):steady tr rs p=true:=by
 unfold Dy at h
 unfold steady
 split at h
 · rename_i s r a s' e1 e2 e3 e4
   rw[e1,e2,e3,e4]
   simp only
   split at h
   · rename_i e;rw[e];simp only;exact decide_eq_true (Dx (fun _ _ h=>Is h) h)
   · rename_i o hne
     have h2:((bS s.1 r.g==some false)||(decide (vt (X.get s.2.1 s.1) a.2.2 r.o=vt (X.get s.2.1 s.1) s.2.2 r.o)&&(vt (X.get s.2.1 s.1) s.2.2 r.o).isSome))=true:=by
      rw[Bool.or_eq_true]at h ⊢
      rcases h with h | h
      · exact .inl h
      · rw[aLr]at h ⊢
        exact .inr ⟨decide_eq_true (Dx (fun _ _ h=>Aw h) h.1),h.2⟩
     split
     · rename_i z l e;exact(hne z l e).elim
     · exact h2
 · cases h
def Dz(call:aR)(rs:List R)(ps:List (Nat×Nat))(vs:List D)(H:aj):Option (List D×List D×aj):=
 if ps.isEmpty||ps.all (Dy (trace call rs [] vs H) rs)then evR call rs [] vs H else none
theorem mX{call call':aR}(h:Ap call call'){rs:List R}{ps:List (Nat×Nat)}{vs:List D}{H:aj}{q:List D×List D×aj}(hq:Dz call rs ps vs H=some q):p9 call' rs ps vs H=some q:=by
 unfold Dz at hq
 unfold p9
 split at hq
 · rename_i hc
   obtain⟨h1,h2⟩:=nN h hq
   rw[h2,if_pos ?_,h1]
   rw[Bool.or_eq_true]at hc ⊢
   rcases hc with hc | hc
   · exact .inl hc
   · refine .inr (aLx.2 fun x hx=>B1 (aLx.1 hc x hx))
 · cases hq
def aaY(p q:Ex×St):Bool:=decide (p.1=q.1)&&eqL (JS 16) p.2.vs q.2.vs&&eqL Yy p.2.H q.2.H
theorem OI{p q:Ex×St}(h:aaY p q=true):p=q:=by
 obtain⟨e,vs,H⟩:=p
 obtain⟨e',vs',H'⟩:=q
 simp only[aaY,aLr,decide_eq_true_eq]at h
 rw[h.1.1,n9 (fun _ _ h=>Aw h) h.1.2,n9 (fun _ _ h=>Is h) h.2]
def F7(c:Option D)(a b:Option (Ex×St)):Option (Ex×St):=match c with
 | some (.t (.bool x))=>if x then a else b
 | some .ub=>if Vv aaY a b then a else none
 | _=>none
theorem pW{c:Option D}{a b a' b':Option (Ex×St)}{p:Ex×St}(h:F7 c a b=some p)(ha:a=some p→a'=some p)(hb:b=some p→b'=some p):fK c a' b'=some p:=by
 unfold F7 at h
 unfold fK
 split at h
 · rename_i x
   cases x with
   | true=>simpa using ha (by simpa using h)
   | false=>simpa using hb (by simpa using h)
 · split at h
   · rename_i e
     have e:=Dx (fun _ _ h=>OI h) e
     have h1:=ha h
     have h2:=hb (e▸h)
     simp only[h1,h2,if_true]
   · cases h
 · cases h
def tC(call:aR)(fuel:Nat):C→St→Option (Ex×St)
 | .skip,st=>some (.normal,st)
 | .reg rs ps,st=>(Dz call rs ps st.vs st.H).map fun q=>(.normal,⟨q.2.1,q.2.2⟩)
 | .seq a b,st=>(tC call fuel a st).bind fun p=>fV p (tC call fuel b)
 | .ite rs ps k a b,st=>(Dz call rs ps st.vs st.H).bind fun q=>
  F7 q.1[k]? (tC call fuel a ⟨q.2.1,q.2.2⟩) (tC call fuel b ⟨q.2.1,q.2.2⟩)
 | .its rs ps k a b c,st=>((Dz call rs ps st.vs st.H).bind fun q=>
  F7 q.1[k]? (tC call fuel a ⟨q.2.1,q.2.2⟩) (tC call fuel b ⟨q.2.1,q.2.2⟩)).bind fun p=>fV p (tC call fuel c)
 | .itk rs ps k a b c,st=>(Dz call rs ps st.vs st.H).bind fun q=>
  F7 q.1[k]? ((tC call fuel a ⟨q.2.1,q.2.2⟩).bind fun p=>fV p (tC call fuel c)) ((tC call fuel b ⟨q.2.1,q.2.2⟩).bind fun p=>fV p (tC call fuel c))
 | .itv j a b,st=>F7 st.vs[j]? (tC call fuel a st) (tC call fuel b st)
 | .blk id c,st=>(tC call fuel c st).map (leave id)
 | .loop gc dead c,st=>iter gc dead (tC call fuel c) fuel ⟨jO dead st.vs,st.H⟩
 | .exit id,st=>some (.exit id,st)
 | .ret,st=>some (.ret,st)
 | .fail,_=>none
 | .cnd _ c,st=>tC call fuel c st
 | .rng x p f r1 p1 r2 p2,st=>(G3 (stepG (Dz call) st.vs p r1 p1 r2 p2) (JR f st.vs[x]?) st.H).map fun H=>(.normal,⟨st.vs,H⟩)
theorem It{call call':aR}(h:Ap call call'){n:Nat}:∀(c:C) (st:St) (p:Ex×St),tC call n c st=some p→evC call' n c st=some p:=by
 intro c
 induction c with
 | skip=>intro st p hp;exact hp
 | reg rs ps=>
   intro st p hp
   simp only[tC,evC]at hp ⊢
   obtain⟨q,hq,rfl⟩:=aLb.1 hp
   rw[mX h hq];rfl
 | seq a b iha ihb=>
   intro st p hp
   simp only[tC,evC]at hp ⊢
   obtain⟨q,hq,hp⟩:=aLa.1 hp
   rw[iha _ _ hq,aLq]
   exact eV hp ihb
 | ite rs ps k a b iha ihb=>
   intro st p hp
   simp only[tC,evC]at hp ⊢
   obtain⟨q,hq,hp⟩:=aLa.1 hp
   rw[mX h hq,aLq]
   exact pW hp (iha _ _) (ihb _ _)
 | its rs ps k a b c iha ihb ihc=>
   intro st p hp
   simp only[tC,evC]at hp ⊢
   obtain⟨p1,hp1,hp⟩:=aLa.1 hp
   obtain⟨q,hq,hp1⟩:=aLa.1 hp1
   rw[mX h hq,aLq,pW hp1 (iha _ _) (ihb _ _),aLq]
   exact eV hp ihc
 | itk rs ps k a b c iha ihb ihc=>
   intro st p hp
   simp only[tC,evC]at hp ⊢
   obtain⟨q,hq,hp⟩:=aLa.1 hp
   rw[mX h hq,aLq]
   refine pW hp (fun h1=>?_) (fun h1=>?_)
   · obtain⟨p1,h2,h3⟩:=aLa.1 h1
     rw[iha _ _ h2,aLq]
     exact eV h3 ihc
   · obtain⟨p1,h2,h3⟩:=aLa.1 h1
     rw[ihb _ _ h2,aLq]
     exact eV h3 ihc
 | itv j a b iha ihb=>
   intro st p hp
   simp only[tC,evC]at hp ⊢
   exact pW hp (iha _ _) (ihb _ _)
 | blk id c ih=>
   intro st p hp
   simp only[tC,evC]at hp ⊢
   obtain⟨q,hq,rfl⟩:=aLb.1 hp
   rw[ih _ _ hq];rfl
 | loop gc dead c ih=>
   intro st p hp
   simp only[tC,evC]at hp ⊢
   exact rW ih hp
 | exit id=>intro st p hp;exact hp
 | ret=>intro st p hp;exact hp
 | fail=>intro st p hp;cases hp
 | cnd v c ih=>intro st p hp;exact ih st p hp
 | rng x p f r1 p1 r2 p2=>
   intro st q hp
   simp only[tC,evC]at hp ⊢
   obtain⟨H,hH,rfl⟩:=aLb.1 hp
   rw[wC (tf fun _ _ _ _ _ hr=>mX h hr) hH];rfl
def xc(fs:Nat→Option Fn):Nat→aR
 | 0,_,_,_,_=>none
 | n+1,raw,f,args,H=>(fs f).bind fun fn=>if fn.prim≠[]then zY fn.prim args H else if fn.av=args.length then
  (tC (xc fs n) n fn.body ⟨qe args fn.vars,H⟩).bind fun p=>match p.1 with
   | .exit _=>none
   | _=>(i7 p.2 fn.res).bind (finish H.length raw p.2.H)
  else none
theorem zE{fs:Nat→Option Fn}:∀n,Ap (xc fs n) (dh fs n)
 | 0=>fun raw f args H r h=>by cases h
 | n+1=>fun raw f args H r h=>by
   simp only[xc,dh]at h ⊢
   obtain⟨fn,hfn,h⟩:=aLa.1 h
   rw[hfn,aLq]
   split at h
   · rename_i hn;rw[if_pos hn];exact h
   rename_i hpr
   rw[if_neg hpr]
   split at h
   · rename_i hn
     rw[if_pos hn]
     obtain⟨p,hp,h⟩:=aLa.1 h
     rw[It (zE n) _ _ _ hp,aLq];exact h
   · cases h
theorem Iu{fs:Nat→Option Fn}(n:Nat){raw f:Nat}{args:List D}{H:aj}{r:D×aj}(h:xc fs n raw f args H=some r):me fs raw f args H=some r:=
 B0 n _ _ _ _ _ (zE n _ _ _ _ _ h)
def EY(fs:Nat→Option Fn)(n f:Nat):Bool:=match xc fs n 0 f [] []with
 | some (.t (.bool true),[])=>true
 | _=>false
theorem DA{fs:Nat→Option Fn}{n f:Nat}(h:EY fs n f=true):me fs 0 f [] []=some (.t (.bool true),[]):=by
 refine Iu n ?_
 unfold EY at h
 split at h
 · assumption
 · cases h
end Go.Ev
namespace Go.Ev
open Go
abbrev Tr:=List D×List D×aj
def zF(x:Option (D×aj)):Option D:=x.map Prod.fst
def qi:O→Bool
 | .ld .. =>true
 | .ia .. =>true
 | .sc .. =>true
 | .mkt .. =>true
 | _=>false
def OJ(call:aR)(all:List R)(n:Nat)(acc:List Tr)(p m:Nat):Prop:=
 match all[p]?,acc[n-p]?,acc[n-m]?,acc[n-(p+1)]? with
 | some r,some s,some a,some s'=>(match r.o with
   | .al _ _=>a.2.2[s.2.2.length]?=s'.2.2[s.2.2.length]?
   | .bs xs _=>bS s.1 r.g=some false∨((bQ (X.get s.2.1 s.1) xs).bind nB).isSome=true
   | o=>qi o=true∧(bS s.1 r.g=some false∨zF (evO call (X.get s.2.1 s.1) a.2.2 o)=zF (evO call (X.get s.2.1 s.1) s.2.2 o)))
 | _,_,_,_=>False
def oa(call:aR)(all:List R)(n:Nat)(acc:List Tr):List (Nat×Nat)→Prop
 | []=>True
 | (p,m)::r=>OJ call all n acc p m∧m≤n∧oa call all n acc r
open Classical in
noncomputable def G6(call:aR)(rs:List R)(ps:List (Nat×Nat))(vs:List D)(H:aj):Option (List D×List D×aj):=
 if oa call rs rs.length (trace call rs [] vs H).reverse ps then evR call rs [] vs H else none
theorem tD{call:aR}:∀ {rs:List R} {L vs:List D} {H:aj} {res:List D×List D×aj},evR call rs L vs H=some res→
 (trace call rs L vs H).length=rs.length+1∧
 ∀p r s s',rs[p]?=some r→(trace call rs L vs H)[p]?=some s→(trace call rs L vs H)[p+1]?=some s'→
  (∃q,bS s.1 r.g=some true∧evO call (X.get s.2.1 s.1) s.2.2 r.o=some q∧s'=(q.1::s.1,wr s.2.1 r.d q.1,q.2))∨bS s.1 r.g=some false
 | [],L,vs,H,res,h=>by simp[trace]
 | r::rs,L,vs,H,res,h=>by
   simp only[evR]at h
   obtain⟨b,hb,h⟩:=aLa.1 h
   cases b with
   | true=>
     simp only[if_true]at h
     obtain⟨q,hq,h⟩:=aLa.1 h
     obtain⟨a1,a2⟩:=tD h
     have e:trace call (r::rs) L vs H=(L,vs,H)::trace call rs (q.1::L) (wr vs r.d q.1) q.2:=by simp[trace,hb,hq]
     rw[e]
     refine⟨by simp[a1],fun p r' s s' hr hs hs'=>?_⟩
     cases p with
     | zero=>
       simp at hr hs hs'
       subst hr;subst hs
       have:(trace call rs (q.1::L) (wr vs r.d q.1) q.2)[0]?=some (q.1::L,wr vs r.d q.1,q.2):=by cases rs<;>simp[trace]
       rw[this]at hs'
       exact .inl ⟨q,hb,hq,(Option.some.inj hs').symm⟩
     | succ p=>simp at hr hs hs';exact a2 p r' s s' hr hs hs'
   | false=>
     simp only[aLt,if_false]at h
     obtain⟨a1,a2⟩:=tD h
     have e:trace call (r::rs) L vs H=(L,vs,H)::trace call rs (.tup []::L) (wr vs r.d (.tup [])) H:=by simp[trace,hb]
     rw[e]
     refine⟨by simp[a1],fun p r' s s' hr hs hs'=>?_⟩
     cases p with
     | zero=>
       simp at hr hs
       subst hr;subst hs
       exact .inr hb
     | succ p=>simp at hr hs hs';exact a2 p r' s s' hr hs hs'
theorem DB{call:aR}{get:X→Option D}{o:O}(h:qi o=true)(H:aj):zF (evO call get H o)=vt get H o:=by
 cases o<;>simp only[qi,aLt]at h
 case ia x i sz=>
  simp only[evO,vt,zF]
  cases get x with
  | none=>rfl
  | some a=>
    simp only[aLq]
    cases (get i).bind intOf with
    | none=>rfl
    | some n=>simp only[aLq];cases yu H a n sz<;>rfl
 case ld x n agg=>
  simp only[evO,vt,zF]
  cases get x with
  | none=>rfl
  | some a=>simp only[aLq];cases te H a n agg<;>rfl
 case mkt len zero sz=>
  simp only[evO,vt,zF]
  cases (get len).bind intOf with
  | none=>rfl
  | some n=>
    simp only[aLq]
    cases idx n with
    | none=>rfl
    | some m=>simp only[aLq];split<;>rfl
 case sc x lo hi sz=>
  simp only[evO,vt,zF]
  cases get x with
  | none=>rfl
  | some a=>
    simp only[aLq]
    cases FO get lo with
    | none=>rfl
    | some l=>
      simp only[aLq]
      cases FO get hi with
      | none=>rfl
      | some h=>simp only[aLq];cases lL H a l h sz<;>rfl
theorem o5{call:aR}{rs:List R}{ps:List (Nat×Nat)}{vs:List D}{H:aj}{q:List D×List D×aj}(h:G6 call rs ps vs H=some q):p9 call rs ps vs H=some q:=by
 unfold G6 at h
 split at h
 · rename_i hp
   unfold p9
   obtain⟨h1,h2⟩:=tD h
   have key:ps.all (steady (trace call rs [] vs H) rs)=true:=by
    rw[aLx]
    have:∀(ps:List (Nat×Nat)),oa call rs rs.length (trace call rs [] vs H).reverse ps→∀x∈ps,steady (trace call rs [] vs H) rs x=true:=by
     intro ps
     induction ps with
     | nil=>intro _ x hx;cases hx
     | cons y ps ih=>
       intro hps x hx
       obtain⟨p,m⟩:=y
       obtain⟨hp,hm,hps⟩:=hps
       rcases List.mem_cons.1 hx with rfl | hx
       · unfold OJ at hp
         have hidx:∀k,k≤rs.length→(trace call rs [] vs H).reverse[rs.length-k]?=(trace call rs [] vs H)[k]?:=by
          intro k hk
          rw[List.getElem?_reverse (by omega),h1]
          congr 1;omega
         split at hp
         · rename_i r s a s' hr hs ha hs'
           have hpl:p<rs.length:=(aLe.1 hr).1
           rw[hidx p (by omega)]at hs
           rw[hidx m hm]at ha
           rw[hidx (p+1) (by omega)]at hs'
           simp only[steady,hs,hr,ha,hs']
           have hst:=h2 p r s s' hr hs hs'
           have gen:∀o,r.o=o→qi o=true→(bS s.1 r.g=some false∨zF (evO call (X.get s.2.1 s.1) a.2.2 o)=zF (evO call (X.get s.2.1 s.1) s.2.2 o))→
            bS s.1 r.g=some false∨(vt (X.get s.2.1 s.1) a.2.2 o=vt (X.get s.2.1 s.1) s.2.2 o∧(vt (X.get s.2.1 s.1) s.2.2 o).isSome=true):=by
            intro o ho hl hor
            rcases hor with h3 | h3
            · exact .inl h3
            · rw[DB hl,DB hl]at h3
              rcases hst with⟨q,k1,k2,_⟩ | k
              · rw[ho]at k2
                have h4:vt (X.get s.2.1 s.1) s.2.2 o=some q.1:=by rw[← DB hl (call:=call),k2];rfl
                exact .inr ⟨h3,by rw[h4];rfl⟩
              · exact .inl k
           split
           · rename_i zero live ho
             rw[ho]at hp
             simp only at hp
             simp[hp]
           · rename_i hnal
             simp only[Bool.or_eq_true,beq_iff_eq,aLr,decide_eq_true_eq]
             cases ho:r.o with
             | ld x n agg=>rw[ho]at hp;exact gen _ ho rfl hp.2
             | ia x i sz=>rw[ho]at hp;exact gen _ ho rfl hp.2
             | sc x lo hi sz=>rw[ho]at hp;exact gen _ ho rfl hp.2
             | mkt x z sz=>rw[ho]at hp;exact gen _ ho rfl hp.2
             | al z l=>exact(hnal _ _ ho).elim
             | bs xs sz=>
               rw[ho]at hp
               simp only at hp
               rcases hp with h3 | h3
               · exact .inl h3
               · rcases hst with⟨q,k1,k2,_⟩ | k
                 · obtain⟨ts,hts⟩:=Option.isSome_iff_exists.1 h3
                   obtain⟨ds,hds,hts⟩:=aLa.1 hts
                   rw[ho]at k2
                   simp only[evO,hds,aLq]at k2
                   split at k2
                   · rename_i hall
                     have har:∀(H:aj) (ds:List D) (ts:List T),nB ds=some ts→ds.flatMap (fU H depth)=[]∧bQ (frz H depth) ds=some ts:=by
                      intro H ds
                      induction ds with
                      | nil=>intro ts h;simp[nB]at h;subst h;exact⟨rfl,rfl⟩
                      | cons d ds ih=>
                        intro ts h
                        cases d with
                        | t x=>
                          simp only[nB,aLb]at h
                          obtain⟨r,hr,rfl⟩:=h
                          obtain⟨i1,i2⟩:=ih r hr
                          exact⟨by rw[List.flatMap_cons,i1];simp[fU,depth],by simp[bQ,frz,i2]⟩
                        | _=>simp[nB]at h
                     right
                     simp only[vt,hds,aLq,hall,(har _ ds ts hts).1,(har _ ds ts hts).2,List.isEmpty_nil,Bool.and_self,if_true,aLw,Option.isSome_some,and_self]
                   · cases k2
                 · exact .inl k
             | _=>rw[ho]at hp;simp[qi]at hp
         · exact hp.elim
       · exact ih hps x hx
    exact fun x hx=>this ps hp x hx
   rw[if_pos (by simp[key])]
   exact h
 · cases h
noncomputable def exS(call:aR):C→St→Option (Ex×St)
 | .skip,st=>some (.normal,st)
 | .reg rs ps,st=>(G6 call rs ps st.vs st.H).map fun q=>(.normal,⟨q.2.1,q.2.2⟩)
 | .seq a b,st=>(exS call a st).bind fun p=>fV p (exS call b)
 | .ite rs ps k a b,st=>(G6 call rs ps st.vs st.H).bind fun q=>
  fK q.1[k]? (exS call a ⟨q.2.1,q.2.2⟩) (exS call b ⟨q.2.1,q.2.2⟩)
 | .its rs ps k a b c,st=>((G6 call rs ps st.vs st.H).bind fun q=>
  fK q.1[k]? (exS call a ⟨q.2.1,q.2.2⟩) (exS call b ⟨q.2.1,q.2.2⟩)).bind fun p=>fV p (exS call c)
 | .itk rs ps k a b c,st=>(G6 call rs ps st.vs st.H).bind fun q=>
  fK q.1[k]? ((exS call a ⟨q.2.1,q.2.2⟩).bind fun p=>fV p (exS call c)) ((exS call b ⟨q.2.1,q.2.2⟩).bind fun p=>fV p (exS call c))
 | .itv j a b,st=>fK st.vs[j]? (exS call a st) (exS call b st)
 | .blk id c,st=>(exS call c st).map (leave id)
 | .loop gc dead c,st=>oI gc dead (exS call c) ⟨jO dead st.vs,st.H⟩
 | .exit id,st=>some (.exit id,st)
 | .ret,st=>some (.ret,st)
 | .fail,_=>none
 | .cnd _ c,st=>exS call c st
 | .rng x p f r1 p1 r2 p2,st=>(G3 (stepG (G6 call) st.vs p r1 p1 r2 p2) (JR f st.vs[x]?) st.H).map fun H=>(.normal,⟨st.vs,H⟩)
theorem KS{call:aR}:∀(c:C) (st:St) (p:Ex×St),exS call c st=some p→exC call c st=some p:=by
 intro c
 induction c with
 | skip=>intro st p h;exact h
 | reg rs ps=>
   intro st p h
   simp only[exS,exC]at h ⊢
   obtain⟨q,hq,rfl⟩:=aLb.1 h
   rw[o5 hq];rfl
 | seq a b iha ihb=>
   intro st p h
   simp only[exS,exC]at h ⊢
   obtain⟨q,hq,h⟩:=aLa.1 h
   rw[iha _ _ hq,aLq]
   exact eV h ihb
 | ite rs ps k a b iha ihb=>
   intro st p h
   simp only[exS,exC]at h ⊢
   obtain⟨q,hq,h⟩:=aLa.1 h
   rw[o5 hq,aLq]
   exact jB h (iha _ _) (ihb _ _)
 | its rs ps k a b c iha ihb ihc=>
   intro st p h
   simp only[exS,exC]at h ⊢
   obtain⟨p1,hp1,h⟩:=aLa.1 h
   obtain⟨q,hq,hp1⟩:=aLa.1 hp1
   rw[o5 hq,aLq,jB hp1 (iha _ _) (ihb _ _),aLq]
   exact eV h ihc
 | itk rs ps k a b c iha ihb ihc=>
   intro st p h
   simp only[exS,exC]at h ⊢
   obtain⟨q,hq,h⟩:=aLa.1 h
   rw[o5 hq,aLq]
   refine jB h (fun h1=>?_) (fun h1=>?_)
   · obtain⟨p1,h2,h3⟩:=aLa.1 h1
     rw[iha _ _ h2,aLq]
     exact eV h3 ihc
   · obtain⟨p1,h2,h3⟩:=aLa.1 h1
     rw[ihb _ _ h2,aLq]
     exact eV h3 ihc
 | itv j a b iha ihb=>
   intro st p h
   simp only[exS,exC]at h ⊢
   exact jB h (iha _ _) (ihb _ _)
 | blk id c ih=>
   intro st p h
   simp only[exS,exC]at h ⊢
   obtain⟨q,hq,rfl⟩:=aLb.1 h
   rw[ih _ _ hq];rfl
 | loop gc dead c ih=>
   intro st p h
   simp only[exS,exC]at h ⊢
   obtain⟨n,hn⟩:=mW.1 h
   exact mW.2 ⟨n,rW ih hn⟩
 | exit id=>intro st p h;exact h
 | ret=>intro st p h;exact h
 | fail=>intro st p h;cases h
 | cnd v c ih=>intro st p h;exact ih st p h
 | rng x p f r1 p1 r2 p2=>
   intro st q h
   simp only[exS,exC]at h ⊢
   obtain⟨H,hH,rfl⟩:=aLb.1 h
   rw[wC (tf fun _ _ _ _ _ hr=>o5 hr) hH];rfl
end Go.Ev
namespace Go.Ev
open Go
abbrev I(n:Int):D:= .t (.int .i64 n)
abbrev B(b:Bool):D:= .t (.bool b)
def G7{β:Type}(call:aR):List R→List D→List D→aj→(List D→List D→aj→Option β)→Option β
 | rs,L,vs,H,K=>(evR call rs L vs H).bind fun q=>K q.1 q.2.1 q.2.2
def OK{β:Type}(call:aR)(rs:List R)(d:Option Nat)(L vs:List D)(K:List D→List D→aj→Option β)(p:D×aj):Option β:=
 G7 call rs (p.1::L) (wr vs d p.1) p.2 K
@[go_sem] theorem Yz {β : Type} (call : aR) (rs : List R) (d : Option Nat) (L vs : List D) (K : List D → List D → aj → Option β) (x : D) (H : aj) :
 OK call rs d L vs K (x,H)=G7 call rs (x::L) (wr vs d x) H K:=(rfl)
@[go_sem] theorem YA {β : Type} (call : aR) (L vs : List D) (H : aj) (K : List D → List D → aj → Option β) : G7 call [] L vs H K = K L vs H := (rfl)
@[go_sem] theorem Vw {β : Type} (call : aR) (o : O) (d : Option Nat) (rs : List R) (L vs : List D) (H : aj) (K : List D → List D → aj → Option β) :
 G7 call (⟨o,d,none⟩::rs) L vs H K=(evO call (X.get vs L) H o).bind (OK call rs d L vs K):=by
 simp[G7,evR,bS,Option.bind_assoc]
 rfl
def gate{β:Type}(c:Option D)(w:Bool)(a b:Option β):Option β:=match c with
 | some (.t (.bool x))=>if x=w then a else b
 | some (.tup [])=>b
 | _=>none
@[congr] theorem Sc {β : Type} {c c' : Option D} {w : Bool} {a b : Option β} (h : True → c = c') : gate c w a b = gate c' w a b := by rw [h trivial]
@[go_sem] theorem YB {β : Type} (p : Prop) [Decidable p] (a b : Option β) : gate (some (.t (.bool (decide p)))) true a b = if p then a else b := by
 by_cases h:p<;>simp[gate,h]
@[go_sem] theorem Vx {β : Type} (p : Prop) [Decidable p] (a b : Option β) : gate (some (.t (.bool (decide p)))) false a b = if p then b else a := by
 by_cases h:p<;>simp[gate,h]
@[go_sem] theorem Vy {β : Type} (x : Bool) (a b : Option β) : gate (some (.t (.bool x))) true a b = if x = true then a else b := (rfl)
@[go_sem] theorem Sd {β : Type} (x : Bool) (a b : Option β) : gate (some (.t (.bool x))) false a b = if x = true then b else a := by cases x <;> rfl
@[go_sem] theorem Vz {β : Type} (w : Bool) (a b : Option β) : gate (some (.tup [])) w a b = b := (rfl)
@[go_sem] theorem VA {β : Type} (call : aR) (o : O) (d : Option Nat) (k : Nat) (w : Bool) (rs : List R) (L vs : List D) (H : aj) (K : List D → List D → aj → Option β) :
 G7 call (⟨o,d,some (k,w)⟩::rs) L vs H K=gate L[k]? w ((evO call (X.get vs L) H o).bind (OK call rs d L vs K)) (G7 call rs (.tup []::L) (wr vs d (.tup [])) H K):=by
 simp only[G7,evR,bS]
 cases hL:L[k]? with
 | none=>simp[gate]
 | some c=>
   simp only[aLq]
   cases c with
   | t x=>
     cases x with
     | bool b=>cases b<;>cases w<;>simp[gate,Option.bind_assoc]<;>rfl
     | _=>simp[gate]
   | tup ds=>
     cases ds with
     | nil=>simp[gate]
     | cons=>simp[gate]
   | _=>simp[gate]
open Classical in
noncomputable def uJ{β:Type}(p:Prop)(x:Option β):Option β:=if p then x else none
@[go_sem] theorem OL {β : Type} (x : Option β) : uJ True x = x := by simp [uJ]
noncomputable def B2{β:Type}(call:aR)(all:List R)(n:Nat)(ps:List (Nat×Nat))(rs:List R)(L vs:List D)(H:aj)(acc:List Tr)(K:List D→List D→aj→Option β):Option β:=
 (evR call rs L vs H).bind fun q=>uJ (oa call all n ((trace call rs L vs H).reverse++acc) ps) (K q.1 q.2.1 q.2.2)
noncomputable def Iv{β:Type}(call:aR)(all:List R)(n:Nat)(ps:List (Nat×Nat))(rs:List R)(d:Option Nat)(L vs:List D)(H:aj)(acc:List Tr)(K:List D→List D→aj→Option β)(p:D×aj):Option β:=
 B2 call all n ps rs (p.1::L) (wr vs d p.1) p.2 ((L,vs,H)::acc) K
@[go_sem] theorem YC {β : Type} (call : aR) (all : List R) (n : Nat) (ps : List (Nat × Nat)) (rs : List R) (d : Option Nat) (L vs : List D) (H : aj) (acc : List Tr) (K : List D → List D → aj → Option β) (x : D) (H' : aj) :
 Iv call all n ps rs d L vs H acc K (x,H')=B2 call all n ps rs (x::L) (wr vs d x) H' ((L,vs,H)::acc) K:=(rfl)
@[go_sem] theorem YD {β : Type} (call : aR) (all : List R) (n : Nat) (ps : List (Nat × Nat)) (L vs : List D) (H : aj) (acc : List Tr) (K : List D → List D → aj → Option β) :
 B2 call all n ps [] L vs H acc K=uJ (oa call all n ((L,vs,H)::acc) ps) (K L vs H):=by
 simp[B2,evR,trace]
theorem B3{β:Type}(call:aR)(all:List R)(n:Nat)(ps:List (Nat×Nat))(r:R)(rs:List R)(L vs:List D)(H:aj)(acc:List Tr)(K:List D→List D→aj→Option β):
 B2 call all n ps (r::rs) L vs H acc K=(bS L r.g).bind fun w=>
  if w then(evO call (X.get vs L) H r.o).bind (Iv call all n ps rs r.d L vs H acc K)else B2 call all n ps rs (.tup []::L) (wr vs r.d (.tup [])) H ((L,vs,H)::acc) K:=by
 obtain hw | ⟨w,hw⟩:bS L r.g=none∨∃w,bS L r.g=some w:=by cases bS L r.g<;>simp
 · simp[B2,evR,trace,hw]
 · cases w with
   | true=>
     obtain hq | ⟨q,hq⟩:evO call (X.get vs L) H r.o=none∨∃q,evO call (X.get vs L) H r.o=some q:=by cases evO call (X.get vs L) H r.o<;>simp
     · simp[B2,evR,trace,hw,hq]
     · simp[B2,evR,trace,hw,hq,Iv]
   | false=>simp[B2,evR,trace,hw]
@[go_sem] theorem VB {β : Type} (call : aR) (all : List R) (n : Nat) (ps : List (Nat × Nat)) (o : O) (d : Option Nat) (rs : List R) (L vs : List D) (H : aj) (acc : List Tr) (K : List D → List D → aj → Option β) :
 B2 call all n ps (⟨o,d,none⟩::rs) L vs H acc K=(evO call (X.get vs L) H o).bind (Iv call all n ps rs d L vs H acc K):=by
 rw[B3];simp[bS]
@[go_sem] theorem VC {β : Type} (call : aR) (all : List R) (n : Nat) (ps : List (Nat × Nat)) (o : O) (d : Option Nat) (k : Nat) (w : Bool) (rs : List R) (L vs : List D) (H : aj) (acc : List Tr) (K : List D → List D → aj → Option β) :
 B2 call all n ps (⟨o,d,some (k,w)⟩::rs) L vs H acc K=
  gate L[k]? w ((evO call (X.get vs L) H o).bind (Iv call all n ps rs d L vs H acc K)) (B2 call all n ps rs (.tup []::L) (wr vs d (.tup [])) H ((L,vs,H)::acc) K):=by
 rw[B3]
 simp only[bS]
 cases hL:L[k]? with
 | none=>simp[gate]
 | some c=>
   simp only[aLq]
   cases c with
   | t x=>
     cases x with
     | bool b=>cases b<;>cases w<;>simp[gate]
     | _=>simp[gate]
   | tup ds=>
     cases ds with
     | nil=>simp[gate]
     | cons=>simp[gate]
   | _=>simp[gate]
def vB(call:aR):Option R→Option Tr→Option Tr→Option Tr→Prop
 | some r,some s,some a,some s'=>(match r.o with
   | .al _ _=>a.2.2[s.2.2.length]?=s'.2.2[s.2.2.length]?
   | .bs xs _=>bS s.1 r.g=some false∨((bQ (X.get s.2.1 s.1) xs).bind nB).isSome=true
   | o=>qi o=true∧(bS s.1 r.g=some false∨zF (evO call (X.get s.2.1 s.1) a.2.2 o)=zF (evO call (X.get s.2.1 s.1) s.2.2 o)))
 | _,_,_,_=>False
@[go_sem] theorem Se (call : aR) (all : List R) (n : Nat) (acc : List Tr) : oa call all n acc [] = True := (rfl)
@[go_sem] theorem OM (call : aR) (all : List R) (n : Nat) (acc : List Tr) (p m : Nat) (r : List (Nat × Nat)) :
 oa call all n acc ((p,m)::r)=(vB call all[p]? acc[n-p]? acc[n-m]? acc[n-(p+1)]?∧m≤n∧oa call all n acc r):=by
 simp only[oa,OJ,vB]
 try rfl
section
variable (call : aR) (d : Option Nat) (gd : Option (Nat × Bool)) (L vs L' vs' : List D) (H H' : aj) (s' : Tr)
@[go_sem] theorem YE (x : X) (n : Nat) (agg : Bool) : vB call (some ⟨.ld x n agg, d, gd⟩) (some (L, vs, H)) (some (L', vs', H')) (some s') =
 (bS L gd=some false∨zF (evO call (X.get vs L) H' (.ld x n agg))=zF (evO call (X.get vs L) H (.ld x n agg))):=by simp[vB,qi]
@[go_sem] theorem YF (x i : X) (sz : Nat) : vB call (some ⟨.ia x i sz, d, gd⟩) (some (L, vs, H)) (some (L', vs', H')) (some s') =
 (bS L gd=some false∨zF (evO call (X.get vs L) H' (.ia x i sz))=zF (evO call (X.get vs L) H (.ia x i sz))):=by simp[vB,qi]
@[go_sem] theorem YG (x : X) (lo hi : Option X) (sz : Nat) : vB call (some ⟨.sc x lo hi sz, d, gd⟩) (some (L, vs, H)) (some (L', vs', H')) (some s') =
 (bS L gd=some false∨zF (evO call (X.get vs L) H' (.sc x lo hi sz))=zF (evO call (X.get vs L) H (.sc x lo hi sz))):=by simp[vB,qi]
@[go_sem] theorem VD (x : X) (z : T) (sz : Nat) : vB call (some ⟨.mkt x z sz, d, gd⟩) (some (L, vs, H)) (some (L', vs', H')) (some s') =
 (bS L gd=some false∨zF (evO call (X.get vs L) H' (.mkt x z sz))=zF (evO call (X.get vs L) H (.mkt x z sz))):=by simp[vB,qi]
@[go_sem] theorem YH (z : List D) (l : List (Nat × Nat)) (L2 vs2 : List D) (H2 : aj) : vB call (some ⟨.al z l, d, gd⟩) (some (L, vs, H)) (some (L', vs', H')) (some (L2, vs2, H2)) = (H'[H.length]? = H2[H.length]?) := (rfl)
@[go_sem] theorem YI (xs : List X) (sz : Nat) : vB call (some ⟨.bs xs sz, d, gd⟩) (some (L, vs, H)) (some (L', vs', H')) (some s') =
 (bS L gd=some false∨((bQ (X.get vs L) xs).bind nB).isSome=true):=(rfl)
@[go_sem] theorem Mu (L : List D) : bS L none = some true := (rfl)
def ON(w:Bool):Option D→Option Bool
 | some (.t (.bool b))=>some (b==w)
 | some (.tup [])=>some false
 | _=>none
@[go_sem] theorem Sf (w b : Bool) : ON w (some (.t (.bool b))) = some (b == w) := (rfl)
@[go_sem] theorem VE (w : Bool) : ON w (some (.tup [])) = some false := (rfl)
@[go_sem] theorem Mv (L : List D) (k : Nat) (w : Bool) : bS L (some (k, w)) = ON w L[k]? := by
 simp only[bS]
 cases L[k]? with
 | none=>rfl
 | some c=>cases c with
   | t x=>cases x<;>rfl
   | tup ds=>cases ds<;>rfl
   | _=>rfl
@[go_sem] theorem VF (x : D) : zF (some (x, H)) = some x := (rfl)
attribute [go_sem] beq_true beq_false or_true true_or or_self
end
theorem EZ(call:aR)(rs:List R)(vs:List D)(H:aj):G6 call rs [] vs H=evR call rs [] vs H:=by
 simp[G6,oa]
def aaZ(L vs:List D)(H:aj):Option (Ex×St):=some (.normal,⟨vs,H⟩)
noncomputable def aa0(call:aR)(k:Nat)(a b:C)(L vs:List D)(H:aj):Option (Ex×St):=fK L[k]? (exS call a ⟨vs,H⟩) (exS call b ⟨vs,H⟩)
@[go_sem] theorem aa1 (L vs : List D) (H : aj) : aaZ L vs H = some (.normal, ⟨vs, H⟩) := (rfl)
@[go_sem] theorem aa2 (call : aR) (k : Nat) (a b : C) (L vs : List D) (H : aj) : aa0 call k a b L vs H = fK L[k]? (exS call a ⟨vs, H⟩) (exS call b ⟨vs, H⟩) := (rfl)
def andThen(x:Option (Ex×St))(k:St→Option (Ex×St)):Option (Ex×St):=x.bind fun p=>fV p k
@[go_sem] theorem JT (st : St) (k : St → Option (Ex × St)) : andThen (some (.normal, st)) k = k st := (rfl)
@[go_sem] theorem OO (st : St) (k : St → Option (Ex × St)) : andThen (some (.ret, st)) k = some (.ret, st) := (rfl)
@[go_sem] theorem Mw (i : Nat) (st : St) (k : St → Option (Ex × St)) : andThen (some (.exit i, st)) k = some (.exit i, st) := (rfl)
@[go_sem] theorem Mx (k : St → Option (Ex × St)) : andThen none k = none := (rfl)
@[go_sem] theorem andThen_ite (c : Prop) [Decidable c] (a b : Option (Ex × St)) (k : St → Option (Ex × St)) : andThen (if c then a else b) k = if c then andThen a k else andThen b k := by
 split<;>rfl
@[go_sem] theorem YJ (call : aR) (st : St) : exS call .skip st = some (.normal, st) := (rfl)
@[go_sem] theorem aa3 (call : aR) (rs : List R) (vs : List D) (H : aj) : exS call (.reg rs []) ⟨vs, H⟩ = G7 call rs [] vs H aaZ := by
 simp only[exS,EZ,G7]
 cases evR call rs [] vs H<;>rfl
@[go_sem] theorem YK (call : aR) (rs : List R) (p : Nat × Nat) (ps : List (Nat × Nat)) (vs : List D) (H : aj) :
 exS call (.reg rs (p::ps)) ⟨vs,H⟩=B2 call rs rs.length (p::ps) rs [] vs H [] aaZ:=by
 simp only[exS,G6,B2,List.append_nil]
 by_cases h:oa call rs rs.length (trace call rs [] vs H).reverse (p::ps)
 · rw[if_pos h]
   simp only[uJ,if_pos h]
   cases evR call rs [] vs H<;>rfl
 · rw[if_neg h]
   simp only[uJ,if_neg h]
   cases evR call rs [] vs H<;>rfl
@[go_sem] theorem aa4 (call : aR) (a b : C) (st : St) : exS call (.seq a b) st = andThen (exS call a st) (exS call b) := (rfl)
@[go_sem] theorem aa5 (call : aR) (rs : List R) (k : Nat) (a b : C) (vs : List D) (H : aj) : exS call (.ite rs [] k a b) ⟨vs, H⟩ = G7 call rs [] vs H (aa0 call k a b) := by
 simp only[exS,EZ,G7]
 cases evR call rs [] vs H<;>rfl
@[go_sem] theorem YL (call : aR) (rs : List R) (p : Nat × Nat) (ps : List (Nat × Nat)) (k : Nat) (a b : C) (vs : List D) (H : aj) :
 exS call (.ite rs (p::ps) k a b) ⟨vs,H⟩=B2 call rs rs.length (p::ps) rs [] vs H [] (aa0 call k a b):=by
 simp only[exS,G6,B2,List.append_nil]
 by_cases h:oa call rs rs.length (trace call rs [] vs H).reverse (p::ps)
 · rw[if_pos h]
   simp only[uJ,if_pos h]
   cases evR call rs [] vs H<;>rfl
 · rw[if_neg h]
   simp only[uJ,if_neg h]
   cases evR call rs [] vs H<;>rfl
@[go_sem] theorem aa6 (call : aR) (rs : List R) (ps : List (Nat × Nat)) (k : Nat) (a b c : C) (st : St) : exS call (.its rs ps k a b c) st = andThen (exS call (.ite rs ps k a b) st) (exS call c) := (rfl)
@[go_sem] theorem aa7 (call : aR) (rs : List R) (ps : List (Nat × Nat)) (k : Nat) (a b c : C) (st : St) : exS call (.itk rs ps k a b c) st = exS call (.ite rs ps k (.seq a c) (.seq b c)) st := (rfl)
@[go_sem] theorem aa8 (call : aR) (j : Nat) (a b : C) (vs : List D) (H : aj) : exS call (.itv j a b) ⟨vs, H⟩ = fK vs[j]? (exS call a ⟨vs, H⟩) (exS call b ⟨vs, H⟩) := (rfl)
@[go_sem] theorem YM (call : aR) (id : Nat) (st : St) : exS call (.exit id) st = some (.exit id, st) := (rfl)
@[go_sem] theorem aa9 (call : aR) (st : St) : exS call .ret st = some (.ret, st) := (rfl)
@[go_sem] theorem YN (call : aR) (st : St) : exS call .fail st = none := (rfl)
@[go_sem] theorem aba (call : aR) (x p f : Nat) (r1 : List R) (p1 : List (Nat × Nat)) (r2 : List R) (p2 : List (Nat × Nat)) (vs : List D) (H : aj) : exS call (.rng x p f r1 p1 r2 p2) ⟨vs, H⟩ = (G3 (stepG (G6 call) vs p r1 p1 r2 p2) (JR f vs[x]?) H).map fun H => (.normal, ⟨vs, H⟩) := (rfl)
@[go_sem] theorem abb (call : aR) (v : Bool) (c : C) (st : St) : exS call (.cnd v c) st = exS call c st := (rfl)
def xd(id:Nat)(x:Option (Ex×St)):Option (Ex×St):=x.map (leave id)
@[go_sem] theorem abc (call : aR) (id : Nat) (c : C) (st : St) : exS call (.blk id c) st = xd id (exS call c st) := (rfl)
@[go_sem] theorem My (id : Nat) (st : St) : xd id (some (.normal, st)) = some (.normal, st) := by simp [xd, leave]
@[go_sem] theorem VG (id : Nat) (st : St) : xd id (some (.ret, st)) = some (.ret, st) := by simp [xd, leave]
@[go_sem] theorem Sg (id i : Nat) (st : St) : xd id (some (.exit i, st)) = if i = id then some (.normal, st) else some (.exit i, st) := by
 simp only[xd,leave,aLw,Ex.exit.injEq]
 split<;>rfl
@[go_sem] theorem Si (id : Nat) : xd id none = none := (rfl)
@[go_sem] theorem VH (id : Nat) (c : Prop) [Decidable c] (a b : Option (Ex × St)) : xd id (if c then a else b) = if c then xd id a else xd id b := by
 split<;>rfl
@[congr] theorem OP {c c' : Option D} {a b : Option (Ex × St)} (h : True → c = c') : fK c a b = fK c' a b := by rw [h trivial]
@[go_sem] theorem VI (p : Prop) [Decidable p] (a b : Option (Ex × St)) : fK (some (.t (.bool (decide p)))) a b = if p then a else b := by
 by_cases h:p<;>simp[fK,h]
@[go_sem] theorem Sj (p : Prop) [Decidable p] (a b : Option (Ex × St)) : fK (some (.t (.bool (!decide p)))) a b = if p then b else a := by
 by_cases h:p<;>simp[fK,h]
@[go_sem] theorem YO (a : Option (Ex × St)) : fK (some .ub) a a = a := by simp [fK]
@[go_sem] theorem Sk (x : Bool) (a b : Option (Ex × St)) : fK (some (.t (.bool x))) a b = if x = true then a else b := (rfl)
def lN(gc:Bool)(dead:List Nat)(k:Nat)(x:Option (Ex×St)):Option St:=x.bind fun p=>match p.1 with
 | .normal=>tidy gc dead k p.2
 | _=>none
@[go_sem] theorem KT (gc : Bool) (dead : List Nat) (k : Nat) (st : St) : lN gc dead k (some (.normal, st)) = tidy gc dead k st := (rfl)
@[go_sem] theorem Sl (gc : Bool) (dead : List Nat) (k : Nat) (c : Prop) [Decidable c] (a b : Option (Ex × St)) : lN gc dead k (if c then a else b) = if c then lN gc dead k a else lN gc dead k b := by
 split<;>rfl
theorem tE{gc:Bool}{dead:List Nat}{body:St→Option (Ex×St)}{st st2:St}(h:lN gc dead st.H.length (body st)=some st2)
 {p:Ex×St} (h2:oI gc dead body st2=some p):oI gc dead body st=some p:=by
 unfold lN at h
 obtain⟨⟨e,st1⟩,hq,h⟩:=aLa.1 h
 cases e with
 | normal=>exact zD hq h h2
 | ret=>cases h
 | exit=>cases h
theorem Ax{gc:Bool}{dead:List Nat}{body:St→Option (Ex×St)}(s:Nat→St){p:Ex×St}(n:Nat)
 (h:∀j,j<n→lN gc dead (s j).H.length (body (s j))=some (s (j+1))) (he:oI gc dead body (s n)=some p):oI gc dead body (s 0)=some p:=by
 have:=uI (s:=s) n 0 (fun j _ hj=>by
  have h:=h j (by omega)
  unfold lN at h
  obtain⟨⟨e,st1⟩,hq,h⟩:=aLa.1 h
  cases e with
  | normal=>exact⟨st1,hq,h⟩
  | ret=>cases h
  | exit=>cases h) (by simpa using he)
 exact this
def YP(res:List (Nat×Option (Nat×Bool)))(k raw:Nat)(p:Ex×St):Option (D×aj):=match p.1 with
 | .exit _=>none
 | _=>(i7 p.2 res).bind (finish k raw p.2.H)
@[go_sem] theorem YQ (res : List (Nat × Option (Nat × Bool))) (k raw : Nat) (vs : List D) (H : aj) : YP res k raw (.ret, ⟨vs, H⟩) = (i7 ⟨vs, H⟩ res).bind (finish k raw H) := (rfl)
@[go_sem] theorem OQ (res : List (Nat × Option (Nat × Bool))) (k raw : Nat) (vs : List D) (H : aj) : YP res k raw (.normal, ⟨vs, H⟩) = (i7 ⟨vs, H⟩ res).bind (finish k raw H) := (rfl)
theorem OR{fs:Nat→Option Fn}{raw f:Nat}{args:List D}{H:aj}{fn:Fn}{r:D×aj}(hf:fs f=some fn)(hn:fn.av=args.length)
 (h:(exS (me fs) fn.body ⟨qe args fn.vars,H⟩).bind (YP fn.res H.length raw)=some r) (h0:fn.prim=[]:=by rfl):me fs raw f args H=some r:=by
 obtain⟨p,hp,he⟩:=aLa.1 h
 exact KP hf hn (KS _ _ _ hp) he h0
@[go_sem] theorem YR {α β : Type} (c : Prop) [Decidable c] (a b : Option α) (k : α → Option β) : (if c then a else b).bind k = if c then a.bind k else b.bind k := by
 split<;>rfl
@[go_sem] theorem abd {α β : Type} (c : Prop) [Decidable c] (a b : Option α) (k : α → β) : (if c then a else b).map k = if c then a.map k else b.map k := by
 split<;>rfl
theorem YS(a b:Int):(a==b)=decide (a=b):=by rw[Bool.eq_iff_iff];simp
theorem OS{n:Int}(h1: -9223372036854775808≤n)(h2:n≤9223372036854775807):IntKind.i64.wrap n=n:=by
 have e:IntKind.i64.wrap n=if n % 18446744073709551616≥9223372036854775808 then n % 18446744073709551616-18446744073709551616 else n % 18446744073709551616:=by
  simp[IntKind.wrap,IntKind.signed,IntKind.bits]
 rw[e];split<;>omega
section
variable {α β : Type}
@[go_sem] theorem OT (a : α) (f : α → Option β) : (some a).bind f = f a := (rfl)
@[go_sem] theorem Sm (a : α) (f : α → β) : (some a).map f = some (f a) := (rfl)
@[go_sem] theorem OU (f : α → Option β) : (none : Option α).bind f = none := (rfl)
@[go_sem] theorem Sn (f : α → β) : (none : Option α).map f = none := (rfl)
@[go_sem] theorem Sp (a : α) (l : List α) (f : α → β) : (a :: l).map f = f a :: l.map f := (rfl)
@[go_sem] theorem VJ (f : α → β) : ([] : List α).map f = [] := (rfl)
@[go_sem] theorem Sq (a : α) (l : List α) : (a :: l)[0]? = some a := (rfl)
@[go_sem] theorem Sr (a : α) (l : List α) (n : Nat) : (a :: l)[n + 1]? = l[n]? := (rfl)
@[go_sem] theorem OV (a d : α) (l : List α) : (a :: l).getD 0 d = a := (rfl)
@[go_sem] theorem OW (a d : α) (l : List α) (n : Nat) : (a :: l).getD (n + 1) d = l.getD n d := (rfl)
@[go_sem] theorem Ss (d : α) (n : Nat) : ([] : List α).getD n d = d := by simp
@[go_sem] theorem Su (a b : α) (l : List α) : (a :: l).set 0 b = b :: l := (rfl)
@[go_sem] theorem Sv (a b : α) (l : List α) (n : Nat) : (a :: l).set (n + 1) b = a :: l.set n b := (rfl)
@[go_sem] theorem KU (a : α) (l m : List α) : (a :: l) ++ m = a :: (l ++ m) := (rfl)
@[go_sem] theorem Mz (l : List α) : [] ++ l = l := (rfl)
@[go_sem] theorem MA (l : List α) : l ++ [] = l := by simp
@[go_sem] theorem JU (a : α) (l : List α) (f : α → List β) : (a :: l).flatMap f = f a ++ l.flatMap f := by simp
@[go_sem] theorem KV (f : α → List β) : ([] : List α).flatMap f = [] := by simp
@[go_sem] theorem MB : ([] : List α).length = 0 := (rfl)
@[go_sem] theorem KW (a : α) (l : List α) : (a :: l).length = l.length + 1 := (rfl)
@[go_sem] theorem MC (l : List α) (f : α → β) : (l.map f).length = l.length := by simp
@[go_sem] theorem Iw (l m : List α) : (l ++ m).length = l.length + m.length := by simp
@[go_sem] theorem E1 (n : Nat) (a : α) : (List.replicate n a).length = n := by simp
@[go_sem] theorem MD (l : List α) (i : Nat) (a : α) : (l.set i a).length = l.length := by simp
@[go_sem] theorem OX (l : List α) : l.drop 0 = l := (rfl)
@[go_sem] theorem OY (a : α) (l : List α) (n : Nat) : (a :: l).drop (n + 1) = l.drop n := (rfl)
@[go_sem] theorem Sw (n : Nat) : ([] : List α).drop n = [] := by simp
@[go_sem] theorem OZ (l : List α) : l.take 0 = [] := (rfl)
@[go_sem] theorem O0 (a : α) (l : List α) (n : Nat) : (a :: l).take (n + 1) = a :: l.take n := (rfl)
@[go_sem] theorem Sx (n : Nat) : ([] : List α).take n = [] := by simp
@[go_sem] theorem O1 (a b : α) : (bif true then a else b) = a := (rfl)
@[go_sem] theorem ME (a b : α) : (bif false then a else b) = b := (rfl)
@[go_sem] theorem Sy (n : Nat) : n + 0 = n := (rfl)
@[go_sem] theorem Sz (n : Nat) : 0 + n = n := by simp
@[go_sem] theorem SA (a b : α) : (some a = some b) = (a = b) := by simp
@[go_sem] theorem YT (a : α) : (some a).isSome = true := (rfl)
end
attribute [go_sem] decide_true decide_false if_true if_false aLt Bool.true_eq_false decide_eq_true_eq decide_eq_false_iff_not aLr Bool.or_eq_true Bool.not_eq_true' Bool.not_eq_true Bool.not_eq_false
 Bool.and_true Bool.true_and Bool.and_false Bool.false_and Bool.or_true Bool.true_or Bool.or_false Bool.false_or and_true true_and and_self not_true_eq_false not_false_eq_true beq_iff_eq bne_iff_ne ne_eq
@[go_sem] theorem SB : (!true) = false := (rfl)
@[go_sem] theorem O2 : (!false) = true := (rfl)
@[go_sem] theorem aeN (vs L : List D) (j : Nat) : X.get vs L (.v j) = vs[j]? := (rfl)
@[go_sem] theorem aeO (vs L : List D) (k : Nat) : X.get vs L (.l k) = L[k]? := (rfl)
@[go_sem] theorem aeP (vs L : List D) (d : D) : X.get vs L (.c d) = some d := (rfl)
@[go_sem] theorem aeQ (vs L : List D) (n : Int) : X.get vs L (.i n) = some (I n) := (rfl)
@[go_sem] theorem aeR (vs L : List D) (x : Bool) : X.get vs L (.b x) = some (B x) := (rfl)
@[go_sem] theorem abe (vs : List D) (x : D) : wr vs none x = vs := (rfl)
@[go_sem] theorem abf (vs : List D) (s : Nat) (x : D) : wr vs (some s) x = vs.set s x := (rfl)
@[go_sem] theorem SC (args : List D) : qe args [] = [] := (rfl)
@[go_sem] theorem O3 (args : List D) (s : Nat) (r : List Nat) : qe args (s :: r) = args.getD s .und :: qe args r := (rfl)
def abg(H:aj)(d:D):Option (D×aj):=some (d,H)
@[go_sem] theorem abh (H : aj) (d : D) : abg H d = some (d, H) := (rfl)
def kD{α:Type}(a:α)(l:Option (List α)):Option (List α):=l.map (a:: ·)
@[go_sem] theorem SD {α : Type} (a : α) (l : List α) : kD a (some l) = some (a :: l) := (rfl)
@[go_sem] theorem SE {α : Type} (a : α) : kD a none = none := (rfl)
@[go_sem] theorem YU {α β : Type} (f : α → Option β) : bQ f [] = some [] := (rfl)
def adE{α β:Type}(f:α→Option β)(r:List α)(y:β):Option (List β):=kD y (bQ f r)
@[go_sem] theorem O4 {α β : Type} (f : α → Option β) (r : List α) (y : β) : adE f r y = kD y (bQ f r) := (rfl)
@[go_sem] theorem B4 {α β : Type} (f : α → Option β) (x : α) (r : List α) : bQ f (x :: r) = (f x).bind (adE f r) := (rfl)
section
variable (call : aR) (get : X → Option D) (H : aj)
@[go_sem] theorem aeS (x : X) : evO call get H (.mv x) = (get x).bind (abg H) := by simp only [evO]; cases get x <;> rfl
def YV(c a b:Option D):Option (D×aj):=c.bind fun c=>a.bind fun a=>b.bind fun b=>(KA c a b).map fun d=>(d,H)
@[go_sem] theorem aeT (c a b : X) : evO call get H (.pk c a b) = YV H (get c) (get a) (get b) := (rfl)
@[go_sem] theorem VK (x p q : Bool) : YV H (some (.t (.bool x))) (some (.t (.bool p))) (some (.t (.bool q))) = some (.t (.bool (bif x then p else q)), H) := by cases x <;> rfl
@[go_sem] theorem VL (a b : D) : YV H (some (.t (.bool true))) (some a) (some b) = some (a, H) := (rfl)
@[go_sem] theorem SF (a b : D) : YV H (some (.t (.bool false))) (some a) (some b) = some (b, H) := (rfl)
@[go_sem] theorem YW (x p : Bool) : (bif x then p else false) = (x && p) := by cases x <;> rfl
@[go_sem] theorem abi (x q : Bool) : (bif x then true else q) = (x || q) := by cases x <;> rfl
def iZ(f:BinOp)(x y:Option D):Option (D×aj):=x.bind fun a=>y.bind fun b=>(zo f a b).map fun d=>(d,H)
@[go_sem] theorem adF (f : BinOp) (x y : X) : evO call get H (.bin f x y) = iZ H f (get x) (get y) := (rfl)
section
variable (k j : IntKind) (a b : Int)
@[go_sem] theorem VM : iZ H .add (some (.t (.int k a))) (some (.t (.int k b))) = some (.t (.int k (k.wrap (a + b))), H) := by simp [iZ, zo, CW]
@[go_sem] theorem VN : iZ H .sub (some (.t (.int k a))) (some (.t (.int k b))) = some (.t (.int k (k.wrap (a - b))), H) := by simp [iZ, zo, CW]
@[go_sem] theorem VO : iZ H .mul (some (.t (.int k a))) (some (.t (.int k b))) = some (.t (.int k (k.wrap (a * b))), H) := by simp [iZ, zo, CW]
@[go_sem] theorem VP : iZ H .quo (some (.t (.int k a))) (some (.t (.int k b))) = if b = 0 then none else some (.t (.int k (k.wrap (a.tdiv b))), H) := by simp only [iZ, zo, CW]; by_cases h : b = 0 <;> simp [h]
@[go_sem] theorem VQ : iZ H .rem (some (.t (.int k a))) (some (.t (.int k b))) = if b = 0 then none else some (.t (.int k (a.tmod b)), H) := by simp only [iZ, zo, CW]; by_cases h : b = 0 <;> simp [h]
@[go_sem] theorem VR : iZ H .eql (some (.t (.int k a))) (some (.t (.int k b))) = some (.t (.bool (decide (a = b))), H) := by simp [iZ, zo, CW, YS]
@[go_sem] theorem VS : iZ H .neq (some (.t (.int k a))) (some (.t (.int k b))) = some (.t (.bool (decide (¬ a = b))), H) := by simp [iZ, zo, CW, bne, YS]
@[go_sem] theorem VT : iZ H .lss (some (.t (.int k a))) (some (.t (.int k b))) = some (.t (.bool (decide (a < b))), H) := by simp [iZ, zo, CW]
@[go_sem] theorem VU : iZ H .leq (some (.t (.int k a))) (some (.t (.int k b))) = some (.t (.bool (decide (a ≤ b))), H) := by simp [iZ, zo, CW]
@[go_sem] theorem VV : iZ H .gtr (some (.t (.int k a))) (some (.t (.int k b))) = some (.t (.bool (decide (b < a))), H) := by simp [iZ, zo, CW]
@[go_sem] theorem VW : iZ H .geq (some (.t (.int k a))) (some (.t (.int k b))) = some (.t (.bool (decide (b ≤ a))), H) := by simp [iZ, zo, CW]
@[go_sem] theorem VX (h : 0 ≤ b) : iZ H .shl (some (.t (.int k a))) (some (.t (.int j b))) = some (.t (.int k (k.wrap (a * 2 ^ min b.toNat k.bits))), H) := by simp [iZ, zo, zn, Int.not_lt.2 h]
@[go_sem] theorem VY (h : 0 ≤ b) : iZ H .shr (some (.t (.int k a))) (some (.t (.int j b))) = some (.t (.int k (a.fdiv (2 ^ min b.toNat k.bits))), H) := by simp [iZ, zo, zn, Int.not_lt.2 h]
@[go_sem] theorem VZ : iZ H .and (some (.t (.int k a))) (some (.t (.int k b))) = some (.t (.int k (k.wrap (BitVec.ofInt k.bits a &&& BitVec.ofInt k.bits b).toNat)), H) := by simp [iZ, zo, CW]
@[go_sem] theorem YX : iZ H .or (some (.t (.int k a))) (some (.t (.int k b))) = some (.t (.int k (k.wrap (BitVec.ofInt k.bits a ||| BitVec.ofInt k.bits b).toNat)), H) := by simp [iZ, zo, CW]
@[go_sem] theorem V0 : iZ H .xor (some (.t (.int k a))) (some (.t (.int k b))) = some (.t (.int k (k.wrap (BitVec.ofInt k.bits a ^^^ BitVec.ofInt k.bits b).toNat)), H) := by simp [iZ, zo, CW]
def abj(f:UnOp)(a:D):Option (D×aj):=(unD f a).map fun d=>(d,H)
@[go_sem] theorem aeU (f : UnOp) (x : X) : evO call get H (.un f x) = (get x).bind (abj H f) := (rfl)
@[go_sem] theorem YY (x : Bool) : abj H .not (.t (.bool x)) = some (.t (.bool (!x)), H) := (rfl)
@[go_sem] theorem YZ : abj H .neg (.t (.int k a)) = some (.t (.int k (k.wrap (0 - a))), H) := (rfl)
def adG(k:IntKind)(a:D):Option (D×aj):=(N2 k a).map fun d=>(d,H)
@[go_sem] theorem aeV (x : X) : evO call get H (.cv k x) = (get x).bind (adG H k) := (rfl)
@[go_sem] theorem Y0 : adG H k (.t (.int j a)) = some (.t (.int k (k.wrap a)), H) := (rfl)
end
def rZ(q:EqK)(neg:Bool)(x y:Option D):Option (D×aj):=x.bind fun a=>y.bind fun b=>(NZ q neg a b).map fun d=>(d,H)
@[go_sem] theorem adH (q : EqK) (neg : Bool) (x y : X) : evO call get H (.eqk q neg x y) = rZ H q neg (get x) (get y) := (rfl)
@[go_sem] theorem SG (x y : Bool) : rZ H .bool false (some (.t (.bool x))) (some (.t (.bool y))) = some (.t (.bool (x == y)), H) := (rfl)
@[go_sem] theorem O5 (x y : Bool) : rZ H .bool true (some (.t (.bool x))) (some (.t (.bool y))) = some (.t (.bool (!(x == y))), H) := (rfl)
def MF:List T→List T→Bool
 | .int _ a::xs,.int _ b::ys=>decide (a=b)&&MF xs ys
 | _,_=>true
def F8:Nat→List T→List T→Bool
 | 0,[],[]=>true
 | n+1,.int j _::xs,.int k _::ys=>decide (j=k)&&F8 n xs ys
 | _,_,_=>false
@[go_sem] theorem V1 (k j : IntKind) (a b : Int) (xs ys : List T) : MF (.int k a :: xs) (.int j b :: ys) = (decide (a = b) && MF xs ys) := (rfl)
@[go_sem] theorem Y1 : MF [] [] = true := (rfl)
@[go_sem] theorem Y2 : F8 0 [] [] = true := (rfl)
@[go_sem] theorem V2 (n : Nat) (k : IntKind) (a b : Int) (xs ys : List T) : F8 (n + 1) (.int k a :: xs) (.int k b :: ys) = F8 n xs ys := by simp [F8]
theorem xe:∀ {n:Nat} {xs ys:List T},F8 n xs ys=true→xs.length=n∧lA xs ys=some (MF xs ys)
 | 0,[],[],_=>⟨rfl,rfl⟩
 | 0,[],_::_,h=>by simp[F8]at h
 | 0,_::_,_,h=>by simp[F8]at h
 | n+1,[],_,h=>by simp[F8]at h
 | n+1,x::xs,[],h=>by cases x<;>simp[F8]at h
 | n+1,x::xs,y::ys,h=>by
   cases x<;>cases y<;>simp only[F8,aLr,decide_eq_true_eq,aLt]at h
   obtain⟨rfl,h⟩:=h
   obtain⟨h1,h2⟩:=xe h
   exact⟨by simp[h1],by simp[lA,h2,MF,YS]⟩
@[go_sem] theorem SH (n : Nat) (xs ys : List T) (h : F8 n xs ys = true) : rZ H (.ints n) false (some (.t (.agg xs))) (some (.t (.agg ys))) = some (.t (.bool (MF xs ys)), H) := by
 obtain⟨h1,h2⟩:=xe h;simp[rZ,NZ,eqD,h1,h2]
@[go_sem] theorem O6 (n : Nat) (xs ys : List T) (h : F8 n xs ys = true) : rZ H (.ints n) true (some (.t (.agg xs))) (some (.t (.agg ys))) = some (.t (.bool (!MF xs ys)), H) := by
 obtain⟨h1,h2⟩:=xe h;simp[rZ,NZ,eqD,h1,h2]
@[go_sem] theorem V3 (id ep n : Nat) (h : 0 < n) : rZ H .sl false (some (.ref id ep n)) (some .nil) = some (.t (.bool false), H) := by
 cases n with
 | zero=>omega
 | succ n=>rfl
@[go_sem] theorem V4 : rZ H .sl false (some .nil) (some .nil) = some (.t (.bool true), H) := (rfl)
@[go_sem] theorem V5 : rZ H .sl false (some (.t (.sl []))) (some .nil) = some (.ub, H) := (rfl)
@[go_sem] theorem SI : rZ H .sl true (some (.t (.sl []))) (some .nil) = some (.ub, H) := (rfl)
@[go_sem] theorem SJ : rZ H .sl true (some .nil) (some .nil) = some (.t (.bool false), H) := (rfl)
def Y3(a:D):Option (D×aj):=(Yu a).map fun d=>(d,H)
@[go_sem] theorem aeW (x : X) : evO call get H (.nc x) = (get x).bind (Y3 H) := (rfl)
@[go_sem] theorem abk (id off : Nat) : Y3 H (.bp id off) = some (.bp id off, H) := (rfl)
@[go_sem] theorem abl (id ep n i off : Nat) : Y3 H (.ap id ep n i off) = some (.ap id ep n i off, H) := (rfl)
@[go_sem] theorem abm (cs : List T) : Y3 H (.ep cs) = some (.ep cs, H) := (rfl)
def SK(off:Nat)(a:D):Option (D×aj):=(FN a off).map fun d=>(d,H)
@[go_sem] theorem aeX (x : X) (off : Nat) : evO call get H (.fa x off) = (get x).bind (SK H off) := (rfl)
@[go_sem] theorem abn (id o off : Nat) : SK H off (.bp id o) = some (.bp id (o + off), H) := (rfl)
@[go_sem] theorem abo (id ep n i o off : Nat) : SK H off (.ap id ep n i o) = some (.ap id ep n i (o + off), H) := (rfl)
@[go_sem] theorem abp (cs : List T) (off : Nat) : SK H off (.ep cs) = some (.ep (cs.drop off), H) := (rfl)
@[go_sem] theorem aeY (cs : List D) : cut cs 0 0 = some [] := by simp [cut]
@[go_sem] theorem aeZ (c : D) (cs : List D) : cut (c :: cs) 0 1 = some [c] := by simp [cut]
@[go_sem] theorem ae0 (c : D) (cs : List D) (n : Nat) : cut (c :: cs) 0 (n + 1) = kD c (cut cs 0 n) := by
 simp only[cut,kD];by_cases h:n≤cs.length<;>simp[h]
@[go_sem] theorem ae1 (c : D) (cs : List D) (off n : Nat) : cut (c :: cs) (off + 1) n = cut cs off n := by
 simp only[cut,List.length_cons,List.drop_succ_cons]
 by_cases h:off+n≤cs.length
 · rw[if_pos h,if_pos (by omega)]
 · rw[if_neg h,if_neg (by omega)]
@[go_sem] theorem V6 (c : D) : dS false [c] = some c := (rfl)
@[go_sem] theorem V7 (cs : List D) : dS true cs = some (p8 cs) := (rfl)
def mkA(cs:List D):Option (List T)→D
 | some ts=> .t (.agg ts)
 | none=> .agg cs
@[go_sem] theorem Y4 (cs : List D) (ts : List T) : mkA cs (some ts) = .t (.agg ts) := (rfl)
@[go_sem] theorem Y5 (cs : List D) : mkA cs none = .agg cs := (rfl)
@[go_sem] theorem Y6 (cs : List D) : p8 cs = mkA cs (nB cs) := by unfold p8; cases nB cs <;> rfl
@[go_sem] theorem Y7 : nB [] = some [] := (rfl)
@[go_sem] theorem adI (x : T) (r : List D) : nB (.t x :: r) = kD x (nB r) := (rfl)
@[go_sem] theorem adJ (r : List D) : nB (.nil :: r) = none := (rfl)
@[go_sem] theorem Y8 (a b c : Nat) (r : List D) : nB (.ref a b c :: r) = none := (rfl)
@[go_sem] theorem Y9 (a b c d e : Nat) (r : List D) : nB (.sub a b c d e :: r) = none := (rfl)
@[go_sem] theorem KX (l : List T) : nB (l.map .t) = some l := by induction l with | nil => rfl | cons a l ih => simp [nB, ih]
def V8(off n:Nat)(agg:Bool)(a:D):Option (D×aj):=(rE a off n agg).map fun d=>(d,H)
@[go_sem] theorem ae2 (x : X) (off n : Nat) (agg : Bool) : evO call get H (.fl x off n agg) = (get x).bind (V8 H off n agg) := (rfl)
def ofC(agg:Bool)(cs:Option (List D)):Option (D×aj):=(cs.bind (dS agg)).bind (abg H)
@[go_sem] theorem ae3 (c : D) : ofC H false (some [c]) = some (c, H) := (rfl)
@[go_sem] theorem ae4 (cs : List D) : ofC H true (some cs) = some (p8 cs, H) := (rfl)
@[go_sem] theorem adK (cs : List T) (off n : Nat) (agg : Bool) : V8 H off n agg (.t (.agg cs)) = ofC H agg (cut (cs.map .t) off n) := by
 simp only[V8,rE,D.isAgg,if_true,D.cells,T.cells,ofC];cases (cut (cs.map .t) off n).bind (dS agg)<;>rfl
@[go_sem] theorem Za (cs : List D) (off n : Nat) (agg : Bool) : V8 H off n agg (.agg cs) = ofC H agg (cut cs off n) := by
 simp only[V8,rE,D.isAgg,if_true,D.cells,ofC];cases (cut cs off n).bind (dS agg)<;>rfl
@[go_sem] theorem abq (n : Nat) : idx (n : Int) = some n := by simp [idx]
@[go_sem] theorem ae5 : idx 0 = some 0 := (rfl)
theorem O7{i:Int}(h:0≤i):idx i=some i.toNat:=by simp[idx,h]
def KY(sz:Nat)(x i:Option D):Option (D×aj):=x.bind fun a=>(i.bind intOf).bind fun n=>(yu H a n sz).map fun d=>(d,H)
@[go_sem] theorem ae6 (x i : X) (sz : Nat) : evO call get H (.ia x i sz) = KY H sz (get x) (get i) := (rfl)
def KZ(sz:Nat)(e:T):Option (D×aj):=if e.cells.length=sz then some (.ep e.cells,H)else none
def abr(sz:Nat)(es:List T)(j:Nat):Option (D×aj):=es[j]?.bind (KZ H sz)
@[go_sem] theorem abt (sz : Nat) (es : List T) (j : Nat) : abr H sz es j = es[j]?.bind (KZ H sz) := (rfl)
@[go_sem] theorem abu (k : IntKind) (es : List T) (n : Int) (sz : Nat) : KY H sz (some (.t (.sl es))) (some (.t (.int k n))) = (idx n).bind (abr H sz es) := by
 simp only[KY,aLq,intOf,yu]
 cases idx n with
 | none=>rfl
 | some j=>
   simp only[aLq,abr]
   cases es[j]? with
   | none=>rfl
   | some e=>simp only[aLq,KZ];split<;>rfl
@[go_sem] theorem Zb (k : IntKind) (n : Int) : KZ H 1 (.int k n) = some (.ep [.int k n], H) := (rfl)
@[go_sem] theorem V9 (b : Bool) : KZ H 1 (.bool b) = some (.ep [.bool b], H) := (rfl)
@[go_sem] theorem abv (es : List T) : KZ H 1 (.sl es) = some (.ep [.sl es], H) := (rfl)
def mG{α:Type}:Nat→List α→Bool
 | 0,[]=>true
 | n+1,_::r=>mG n r
 | _,_=>false
@[go_sem] theorem abw {α : Type} : mG 0 ([] : List α) = true := (rfl)
@[go_sem] theorem abx {α : Type} (n : Nat) (a : α) (l : List α) : mG (n + 1) (a :: l) = mG n l := (rfl)
theorem eX{α:Type}:∀ {n:Nat} {l:List α},mG n l=true↔l.length=n
 | 0,[]=>by simp[mG]
 | 0,_::_=>by simp[mG]
 | n+1,[]=>by simp[mG]
 | n+1,_::r=>by simp only[mG,List.length_cons,Nat.add_right_cancel_iff];exact eX
@[go_sem] theorem Zc (cs : List T) (sz : Nat) : KZ H sz (.agg cs) = if mG sz cs = true then some (.ep cs, H) else none := by
 by_cases h:cs.length=sz
 · rw[KZ,if_pos (show(T.agg cs).cells.length=sz from h),if_pos (eX.2 h)];rfl
 · rw[KZ,if_neg (show ¬(T.agg cs).cells.length=sz from h),if_neg fun e=>h (eX.1 e)]
def O8(sz id ep n j:Nat):Option Obj→Option (D×aj)
 | some (.arr sz' _ ep' es)=>if ep=ep'∧n=es.length then(if j<n∧sz'=sz then some (.ap id ep n j 0,H)else none)else none
 | _=>none
@[go_sem] theorem Zd (k : IntKind) (id ep n : Nat) (i : Int) (sz : Nat) : KY H sz (some (.ref id ep n)) (some (.t (.int k i))) = (idx i).bind fun j => O8 H sz id ep n j H[id]? := by
 simp only[KY,aLq,intOf,yu]
 cases idx i with
 | none=>rfl
 | some j=>
   simp only[aLq,fT]
   generalize H[id]?=o
   rcases o with _ | (_ | ⟨sz',pin,ep',es⟩ | _)
   rotate_right
   · rfl
   · rfl
   · rfl
   · simp only[O8]
     by_cases h:ep=ep'∧n=es.length
     · rw[if_pos h,if_pos h,aLq];split<;>rfl
     · rw[if_neg h,if_neg h];rfl
@[go_sem] theorem Wb (sz id ep n j sz' : Nat) (pin : Bool) (ep' : Nat) (es : List D) : O8 H sz id ep n j (some (.arr sz' pin ep' es)) =
 if ep=ep'∧n=es.length then(if j<n∧sz'=sz then some (.ap id ep n j 0,H)else none)else none:=(rfl)
def O9(sz id ep n lo hi j:Nat):Option Obj→Option (D×aj)
 | some (.arr sz' _ ep' es)=>if ep=ep'∧n=es.length then(if lo+j<hi∧hi≤n∧sz'=sz then some (.ap id ep n (lo+j) 0,H)else none)else none
 | _=>none
@[go_sem] theorem Ze (k : IntKind) (id ep n lo hi : Nat) (i : Int) (sz : Nat) : KY H sz (some (.sub id ep n lo hi)) (some (.t (.int k i))) = (idx i).bind fun j => O9 H sz id ep n lo hi j H[id]? := by
 simp only[KY,aLq,intOf,yu]
 cases idx i with
 | none=>rfl
 | some j=>
   simp only[aLq,fT]
   generalize H[id]?=o
   rcases o with _ | (_ | ⟨sz',pin,ep',es⟩ | _)
   rotate_right
   · rfl
   · rfl
   · rfl
   · simp only[O9]
     by_cases h:ep=ep'∧n=es.length
     · rw[if_pos h,if_pos h,aLq];split<;>rfl
     · rw[if_neg h,if_neg h];rfl
@[go_sem] theorem Wc (sz id ep n lo hi j sz' : Nat) (pin : Bool) (ep' : Nat) (es : List D) : O9 H sz id ep n lo hi j (some (.arr sz' pin ep' es)) =
 if ep=ep'∧n=es.length then(if lo+j<hi∧hi≤n∧sz'=sz then some (.ap id ep n (lo+j) 0,H)else none)else none:=(rfl)
def aby(len sz:Nat)(agg:Bool)(x i:Option D):Option (D×aj):=x.bind fun a=>(i.bind intOf).bind fun n=>(idx n).bind fun j=>(zp a j len sz agg).map fun d=>(d,H)
def Wd(len sz:Nat)(agg:Bool)(a:D)(j:Nat):Option (D×aj):=(zp a j len sz agg).map fun d=>(d,H)
@[go_sem] theorem ae7 (x i : X) (len sz : Nat) (agg : Bool) : evO call get H (.ix x i len sz agg) = aby H len sz agg (get x) (get i) := (rfl)
@[go_sem] theorem abz (len sz : Nat) (agg : Bool) (a : D) (k : IntKind) (n : Int) : aby H len sz agg (some a) (some (.t (.int k n))) = (idx n).bind (Wd H len sz agg a) := by
 simp only[aby,aLq,intOf];cases idx n<;>rfl
@[go_sem] theorem Zf (len j : Nat) (ts : List T) (h : j < len) (hs : (ts.all fun t => t.scalar) = true) : Wd H len 1 false (.t (.agg ts)) j = (ts[j]?).map fun t => (.t t, H) := by
 have h0:len≠0:=by omega
 unfold Wd zp
 rw[if_neg h0,if_pos h]
 unfold rE cut
 simp only[D.isAgg,D.cells,T.cells,if_true,Nat.mul_one,List.length_map]
 by_cases hj:j<ts.length
 · rw[if_pos (by omega),aLc hj]
   have e:((ts.map D.t).drop j).take 1=[D.t ts[j]]:=by
    rw[List.drop_eq_getElem_cons (by simpa using hj)];simp
   rw[e];rfl
 · rw[if_neg (by omega),aLm (by omega)];rfl
def Pa(len sz:Nat)(x i:Option D):Option (D×aj):=x.bind fun a=>(i.bind intOf).bind fun n=>(idx n).bind fun j=>if j<len then(FN a (j*sz)).map fun d=>(d,H)else none
@[go_sem] theorem adL (x i : X) (len sz : Nat) : evO call get H (.iaa x i len sz) = Pa H len sz (get x) (get i) := (rfl)
def adM(len sz:Nat)(a:D)(j:Nat):Option (D×aj):=if j<len then SK H (j*sz) a else none
@[go_sem] theorem abA (len sz : Nat) (a : D) (j : Nat) : adM H len sz a j = if j < len then SK H (j * sz) a else none := (rfl)
@[go_sem] theorem Zg (len sz : Nat) (a : D) (k : IntKind) (n : Int) : Pa H len sz (some a) (some (.t (.int k n))) = (idx n).bind (adM H len sz a) := by
 simp only[Pa,aLq,intOf];cases idx n<;>rfl
def JV(n:Nat)(agg:Bool)(a:D):Option (D×aj):=(te H a n agg).map fun d=>(d,H)
@[go_sem] theorem ae8 (x : X) (n : Nat) (agg : Bool) : evO call get H (.ld x n agg) = (get x).bind (JV H n agg) := (rfl)
def K0(off n:Nat)(agg:Bool):Option Obj→Option (D×aj)
 | some (.box cs)=>ofC H agg (cut cs off n)
 | _=>none
@[go_sem] theorem Zh (off n : Nat) (agg : Bool) (cs : List D) : K0 H off n agg (some (.box cs)) = ofC H agg (cut cs off n) := (rfl)
@[go_sem] theorem abB (id off n : Nat) (agg : Bool) : JV H n agg (.bp id off) = K0 H off n agg H[id]? := by
 simp only[JV,te]
 generalize H[id]?=o
 rcases o with _ | (cs | _ | _)
 rotate_right
 · rfl
 · rfl
 · simp only[K0,ofC];cases (cut cs off n).bind (dS agg)<;>rfl
 · rfl
@[go_sem] theorem abC (cs : List T) (n : Nat) (agg : Bool) : JV H n agg (.ep cs) = ofC H agg (cut (cs.map .t) 0 n) := by
 simp only[JV,te,ofC];cases (cut _ 0 n).bind (dS agg)<;>rfl
def Zi(off n:Nat)(agg:Bool)(e:D):Option (D×aj):=ofC H agg (cut e.cells off n)
@[go_sem] theorem abD (off n : Nat) (agg : Bool) (e : D) : Zi H off n agg e = ofC H agg (cut e.cells off n) := (rfl)
def Pb(ep m i off n:Nat)(agg:Bool):Option Obj→Option (D×aj)
 | some (.arr _ _ ep' es)=>if ep=ep'∧m=es.length then es[i]?.bind (Zi H off n agg)else none
 | _=>none
@[go_sem] theorem Zj (ep m i off n : Nat) (agg : Bool) (sz : Nat) (pin : Bool) (ep' : Nat) (es : List D) :
 Pb H ep m i off n agg (some (.arr sz pin ep' es))=if ep=ep'∧m=es.length then es[i]?.bind (Zi H off n agg)else none:=(rfl)
@[go_sem] theorem abE (id ep m i off n : Nat) (agg : Bool) : JV H n agg (.ap id ep m i off) = Pb H ep m i off n agg H[id]? := by
 simp only[JV,te,fT]
 generalize H[id]?=o
 rcases o with _ | (_ | ⟨sz',pin,ep',es⟩ | _)
 rotate_right
 · rfl
 · rfl
 · rfl
 · simp only[Pb]
   by_cases h:ep=ep'∧m=es.length
   · rw[if_pos h,if_pos h,aLq]
     cases es[i]? with
     | none=>rfl
     | some e=>simp only[aLq,Zi,ofC];cases (cut e.cells off n).bind (dS agg)<;>rfl
   · rw[if_neg h,if_neg h];rfl
@[go_sem] theorem SL (cs : List D) : (D.agg cs).cells = cs := (rfl)
@[go_sem] theorem Zk (x : T) : (D.t x).cells = x.cells.map .t := (rfl)
@[go_sem] theorem SM : D.nil.cells = [.nil] := (rfl)
@[go_sem] theorem We (a b : Nat) : (D.bp a b).cells = [.bp a b] := (rfl)
@[go_sem] theorem SN (a b c : Nat) : (D.ref a b c).cells = [.ref a b c] := (rfl)
@[go_sem] theorem SO (a b c d e : Nat) : (D.sub a b c d e).cells = [.sub a b c d e] := (rfl)
@[go_sem] theorem Wf (f : Nat) (cs : List D) : (D.fn f cs).cells = [.fn f cs] := (rfl)
@[go_sem] theorem Pc : D.nilp.cells = [.nilp] := (rfl)
@[go_sem] theorem SP (cs : List T) : (T.agg cs).cells = cs := (rfl)
@[go_sem] theorem SQ (k : IntKind) (n : Int) : (T.int k n).cells = [.int k n] := (rfl)
@[go_sem] theorem Pd (b : Bool) : (T.bool b).cells = [.bool b] := (rfl)
@[go_sem] theorem SR (b : ByteArray) : (T.str b).cells = [.str b] := (rfl)
@[go_sem] theorem Wg (es : List T) : (T.sl es).cells = [.sl es] := (rfl)
def fits(n:Nat)(v:D):Bool:=decide (v.cells.length=n)&&v.iO
section
variable (n : Nat)
@[go_sem] theorem fits_int (k : IntKind) (a : Int) : fits 1 (.t (.int k a)) = true := (rfl)
@[go_sem] theorem fits_bool (b : Bool) : fits 1 (.t (.bool b)) = true := (rfl)
@[go_sem] theorem abF (es : List T) : fits 1 (.t (.sl es)) = true := (rfl)
@[go_sem] theorem Zl : fits 1 .nil = true := (rfl)
@[go_sem] theorem Zm (a b c : Nat) : fits 1 (.ref a b c) = true := (rfl)
@[go_sem] theorem Zn (a b c d e : Nat) : fits 1 (.sub a b c d e) = true := (rfl)
@[go_sem] theorem abG (a b : Nat) : fits 1 (.bp a b) = true := (rfl)
@[go_sem] theorem abH (f : Nat) (cs : List D) : fits 1 (.fn f cs) = true := (rfl)
@[go_sem] theorem Zo (cs : List D) : fits n (.agg cs) = mG n cs := by rw [Bool.eq_iff_iff, eX]; show (decide (cs.length = n) && true) = true ↔ _; simp
@[go_sem] theorem Wi (cs : List T) : fits n (.t (.agg cs)) = mG n cs := by rw [Bool.eq_iff_iff, eX]; simp [fits, D.cells, T.cells, D.iO]
end
@[go_sem] theorem Pe {α : Type} (cs : List α) : aZ cs 0 [] = some cs := by simp [aZ]
@[go_sem] theorem Pf {α : Type} (c x : α) (cs xs : List α) : aZ (c :: cs) 0 (x :: xs) = kD x (aZ cs 0 xs) := by
 simp only[aZ,kD];by_cases h:xs.length≤cs.length<;>simp[h]
@[go_sem] theorem Pg {α : Type} (c : α) (cs : List α) (off : Nat) (xs : List α) : aZ (c :: cs) (off + 1) xs = kD c (aZ cs off xs) := by
 simp only[aZ,kD,List.length_cons]
 by_cases h:off+xs.length≤cs.length
 · rw[if_pos h,if_pos (by omega)];simp[show off+1+xs.length=(off+xs.length)+1 by omega]
 · rw[if_neg h,if_neg (by omega)];rfl
def Ph(n:Nat)(live:List (Nat×Nat))(a x:Option D):Option (D×aj):=a.bind fun p=>x.bind fun d=>(ux H p d n).bind fun H'=>(nF H' p live).map fun H''=>(.tup [],H'')
@[go_sem] theorem ae9 (a x : X) (n : Nat) (live : List (Nat × Nat)) : evO call get H (.st a x n live) = Ph H n live (get a) (get x) := (rfl)
def zG(H:aj)(id:Nat)(live:List (Nat×Nat)):Option (D×aj):=(nF H (.bp id 0) live).map fun H'=>(.tup [],H')
def E2(id:Nat)(live:List (Nat×Nat))(cs:List D):Option (D×aj):=zG (H.set id (.box cs)) id live
@[go_sem] theorem Wj (id : Nat) (live : List (Nat × Nat)) (cs : List D) : E2 H id live cs = zG (H.set id (.box cs)) id live := (rfl)
@[go_sem] theorem SS (H : aj) (id : Nat) : zG H id [] = some (.tup [], H) := (rfl)
def Pj(id off:Nat)(live:List (Nat×Nat))(xs:List D):Option Obj→Option (D×aj)
 | some (.box cs)=>(aZ cs off xs).bind (E2 H id live)
 | _=>none
@[go_sem] theorem Zp (id off : Nat) (live : List (Nat × Nat)) (xs cs : List D) : Pj H id off live xs (some (.box cs)) = (aZ cs off xs).bind (E2 H id live) := (rfl)
@[go_sem] theorem abI (n id off : Nat) (live : List (Nat × Nat)) (v : D) : Ph H n live (some (.bp id off)) (some v) = if fits n v = true then Pj H id off live v.cells H[id]? else none := by
 by_cases h:fits n v=true
 case neg=>
  rw[if_neg h]
  simp only[fits,aLr,decide_eq_true_eq]at h
  simp only[Ph,aLq,ux,if_neg h];rfl
 rw[if_pos h]
 simp only[fits,aLr,decide_eq_true_eq]at h
 simp only[Ph,aLq,ux,h.1,h.2,and_self,if_true]
 generalize H[id]?=o
 rcases o with _ | (cs | _ | _)
 rotate_right
 · rfl
 · rfl
 · simp only[Pj]
   cases aZ cs off v.cells with
   | none=>rfl
   | some cs'=>simp only[aLw,aLq,E2,zG,nF]
 · rfl
def B5(id sz ep i:Nat)(es:List D)(agg:Bool)(cs:List D):Option (D×aj):=(dS agg cs).bind fun e=>if e.iO then some (.tup [],H.set id (.arr sz false ep (es.set i e)))else none
def Zq(id sz ep i off:Nat)(es xs:List D)(e:D):Option (D×aj):=(aZ e.cells off xs).bind (B5 H id sz ep i es e.isAgg)
@[go_sem] theorem abJ (id sz ep i off : Nat) (es xs : List D) (e : D) : Zq H id sz ep i off es xs e = (aZ e.cells off xs).bind (B5 H id sz ep i es e.isAgg) := (rfl)
@[go_sem] theorem Wk (cs : List D) : (D.agg cs).isAgg = true := (rfl)
@[go_sem] theorem SU (cs : List T) : (D.t (.agg cs)).isAgg = true := (rfl)
@[go_sem] theorem Wl (k : IntKind) (n : Int) : (D.t (.int k n)).isAgg = false := (rfl)
@[go_sem] theorem SV (b : Bool) : (D.t (.bool b)).isAgg = false := (rfl)
@[go_sem] theorem Wm (b : ByteArray) : (D.t (.str b)).isAgg = false := (rfl)
@[go_sem] theorem Zr (es : List T) : (D.t (.sl es)).isAgg = false := (rfl)
@[go_sem] theorem Wn : D.nil.isAgg = false := (rfl)
@[go_sem] theorem Wo (a b c : Nat) : (D.ref a b c).isAgg = false := (rfl)
@[go_sem] theorem Wp (a b c d e : Nat) : (D.sub a b c d e).isAgg = false := (rfl)
@[go_sem] theorem abK (id sz ep i : Nat) (es : List D) (x : T) : B5 H id sz ep i es false [.t x] = some (.tup [], H.set id (.arr sz false ep (es.set i (.t x)))) := (rfl)
@[go_sem] theorem Wq (id sz ep i : Nat) (es : List D) : B5 H id sz ep i es false [.nil] = some (.tup [], H.set id (.arr sz false ep (es.set i .nil))) := (rfl)
@[go_sem] theorem Ws (id sz ep i a b c : Nat) (es : List D) : B5 H id sz ep i es false [.ref a b c] = some (.tup [], H.set id (.arr sz false ep (es.set i (.ref a b c)))) := (rfl)
theorem DC(cs:List D):(p8 cs).iO=true:=by unfold p8;cases nB cs<;>rfl
@[go_sem] theorem abL (id sz ep i : Nat) (es cs : List D) : B5 H id sz ep i es true cs = some (.tup [], H.set id (.arr sz false ep (es.set i (p8 cs)))) := by
 simp[B5,dS,DC]
def Pk(id ep m i off:Nat)(xs:List D):Option Obj→Option (D×aj)
 | some (.arr sz pin ep' es)=>if ep=ep'∧m=es.length then(if pin then none else es[i]?.bind (Zq H id sz ep i off es xs))else none
 | _=>none
@[go_sem] theorem Zs (id ep m i off : Nat) (xs : List D) (sz : Nat) (pin : Bool) (ep' : Nat) (es : List D) :
 Pk H id ep m i off xs (some (.arr sz pin ep' es))=if ep=ep'∧m=es.length then(if pin=true then none else es[i]?.bind (Zq H id sz ep i off es xs))else none:=(rfl)
@[go_sem] theorem abM (n id ep m i off : Nat) (v : D) : Ph H n [] (some (.ap id ep m i off)) (some v) = if fits n v = true then Pk H id ep m i off v.cells H[id]? else none := by
 by_cases h:fits n v=true
 case neg=>
  rw[if_neg h]
  simp only[fits,aLr,decide_eq_true_eq]at h
  simp only[Ph,aLq,ux,if_neg h];rfl
 rw[if_pos h]
 simp only[fits,aLr,decide_eq_true_eq]at h
 simp only[Ph,aLq,ux,h.1,h.2,and_self,if_true,fT]
 generalize H[id]?=o
 rcases o with _ | (_ | ⟨sz',pin,ep',es⟩ | _)
 rotate_right
 · rfl
 · rfl
 · rfl
 · simp only[Pk]
   by_cases h:ep=ep'∧m=es.length
   · rw[if_pos h,if_pos h,aLq]
     cases pin with
     | true=>rfl
     | false=>
       simp only[aLt,if_false]
       cases es[i]? with
       | none=>rfl
       | some e=>
         simp only[aLq,Zq]
         cases aZ e.cells off v.cells with
         | none=>rfl
         | some cs'=>
           simp only[aLq,B5]
           cases dS e.isAgg cs' with
           | none=>rfl
           | some e'=>
             simp only[aLq]
             by_cases h3:e'.iO=true
             · rw[if_pos h3,if_pos h3,h.1];rfl
             · rw[if_neg h3,if_neg h3];rfl
   · rw[if_neg h,if_neg h];rfl
def Pl(zero:List D)(ps:List (Nat×Nat×D)):Option (D×aj):=(rC zero ps).map fun cs=>(p8 cs,H)
@[go_sem] theorem afa (zero : List D) (parts : List (Nat × Nat × X)) : evO call get H (.bd zero parts) = (lF get parts).bind (Pl H zero) := (rfl)
@[go_sem] theorem MG : lF get [] = some [] := (rfl)
def Wt(off n:Nat)(r:List (Nat×Nat×X))(d:D):Option (List (Nat×Nat×D)):=kD (off,n,d) (lF get r)
@[go_sem] theorem Zt (off n : Nat) (r : List (Nat × Nat × X)) (d : D) : Wt get off n r d = kD (off, n, d) (lF get r) := (rfl)
@[go_sem] theorem K1 (off n : Nat) (x : X) (r : List (Nat × Nat × X)) : lF get ((off, n, x) :: r) = (get x).bind (Wt get off n r) := (rfl)
@[go_sem] theorem Zu (zero : List D) : Pl H zero [] = some (p8 zero, H) := (rfl)
def bdC(r:List (Nat×Nat×D))(z:List D):Option (D×aj):=Pl H z r
@[go_sem] theorem adN (r : List (Nat × Nat × D)) (z : List D) : bdC H r z = Pl H z r := (rfl)
@[go_sem] theorem Wu (zero : List D) (off n : Nat) (x : D) (r : List (Nat × Nat × D)) : Pl H zero ((off, n, x) :: r) = if fits n x = true then (aZ zero off x.cells).bind (bdC H r) else none := by
 by_cases h:fits n x=true
 case neg=>
  rw[if_neg h]
  have h2:(x.iO&&x.cells.length==n)=false:=by rw[← Bool.not_eq_true,Bool.and_comm];simpa [fits]using h
  simp only[Pl,rC,h2];rfl
 rw[if_pos h]
 simp only[fits,aLr,decide_eq_true_eq]at h
 simp only[Pl,rC,h.1,h.2,beq_self_eq_true,Bool.and_self,if_true]
 cases aZ zero off x.cells<;>rfl
def bT(n:Nat):List T→Bool
 | []=>true
 | x::r=>mG n x.cells&&bT n r
@[go_sem] theorem MH (n : Nat) : bT n [] = true := (rfl)
@[go_sem] theorem r5 (n : Nat) (x : T) (r : List T) : bT n (x :: r) = (mG n x.cells && bT n r) := (rfl)
def zH(sz:Nat)(ds:List D):Option (D×aj):=if ds.all (fun d=>d.cells.length==sz)then(bQ (frz H depth) ds).map fun ts=>(.t (.sl ts),pins H (ds.flatMap (fU H depth)))else none
@[go_sem] theorem afb (xs : List X) (sz : Nat) : evO call get H (.bs xs sz) = (bQ get xs).bind (zH H sz) := (rfl)
theorem Wv(sz:Nat)(ds:List D)(ts:List T)(h:nB ds=some ts)(hc:bT sz ts=true):zH H sz ds=some (.t (.sl ts),H):=by
 have key:∀(ds:List D) (ts:List T),nB ds=some ts→bT sz ts=true→ds.all (fun d=>d.cells.length==sz)=true∧bQ (frz H depth) ds=some ts∧ds.flatMap (fU H depth)=[]:=by
  intro ds
  induction ds with
  | nil=>intro ts h hc;simp[nB]at h;subst h;simp[bQ]
  | cons d ds ih=>
    intro ts h hc
    cases d with
    | t x=>
      simp only[nB,aLb]at h
      obtain⟨r,hr,rfl⟩:=h
      simp only[bT,aLr,eX]at hc
      obtain⟨h1,h2,h3⟩:=ih r hr hc.2
      refine⟨by rw[List.all_cons,h1,Bool.and_true];simp[D.cells,hc.1],by simp[bQ,frz,h2],by rw[List.flatMap_cons,h3];simp[fU]⟩
    | _=>simp[nB]at h
 obtain⟨h1,h2,h3⟩:=key ds ts h hc
 simp[zH,h1,h2,h3,pins]
theorem o6(sz:Nat)(ts:List T):zH H sz (ts.map D.t)=if bT sz ts=true then some (.t (.sl ts),H)else none:=by
 by_cases h:bT sz ts=true
 · rw[if_pos h];exact Wv H sz _ ts (KX ts) h
 · rw[if_neg h]
   have:(ts.map D.t).all (fun d=>d.cells.length==sz)=false:=by
    rw[← Bool.not_eq_true];intro ha;apply h
    clear h
    induction ts with
    | nil=>rfl
    | cons a r ih=>
      simp only[List.map_cons,List.all_cons,aLr,beq_iff_eq]at ha
      simp only[bT,aLr,eX]
      exact⟨by simpa [D.cells]using ha.1,ih ha.2⟩
   simp only[zH,this];rfl
@[go_sem] theorem adO (sz : Nat) : zH H sz [] = some (.t (.sl []), H) := (rfl)
@[go_sem] theorem adP (sz : Nat) (a : T) : zH H sz [.t a] = if bT sz [a] = true then some (.t (.sl [a]), H) else none := o6 H sz [a]
@[go_sem] theorem adQ (sz : Nat) (a b : T) : zH H sz [.t a, .t b] = if bT sz [a, b] = true then some (.t (.sl [a, b]), H) else none := o6 H sz [a, b]
@[go_sem] theorem adR (sz : Nat) (a b c : T) : zH H sz [.t a, .t b, .t c] = if bT sz [a, b, c] = true then some (.t (.sl [a, b, c]), H) else none := o6 H sz [a, b, c]
@[go_sem] theorem adS (sz : Nat) (a b c d : T) : zH H sz [.t a, .t b, .t c, .t d] = if bT sz [a, b, c, d] = true then some (.t (.sl [a, b, c, d]), H) else none := o6 H sz [a, b, c, d]
@[go_sem] theorem adT (sz : Nat) (a b c d e : T) : zH H sz [.t a, .t b, .t c, .t d, .t e] = if bT sz [a, b, c, d, e] = true then some (.t (.sl [a, b, c, d, e]), H) else none := o6 H sz [a, b, c, d, e]
def SW(a:D):Option (D×aj):=(Yt a).map fun(n:Nat)=>(D.t (.int .i64 (n:Int)),H)
@[go_sem] theorem afc (x : X) : evO call get H (.ln x) = (get x).bind (SW H) := (rfl)
@[go_sem] theorem abN (es : List T) : SW H (.t (.sl es)) = some (I es.length, H) := (rfl)
@[go_sem] theorem Zv : SW H .nil = some (I 0, H) := (rfl)
@[go_sem] theorem Zw (id ep n : Nat) : SW H (.ref id ep n) = some (I n, H) := (rfl)
@[go_sem] theorem Zx (id ep n lo hi : Nat) : SW H (.sub id ep n lo hi) = some (I ((hi - lo : Nat) : Int), H) := (rfl)
def Ww(ds:List D):Option (D×aj):=(U1 ds).map fun d=>(d,H)
def Wx(ds:List D):Option (D×aj):=(U2 ds).map fun d=>(d,H)
@[go_sem] theorem afd (xs : List X) : evO call get H (.mn xs) = (bQ get xs).bind (Ww H) := (rfl)
@[go_sem] theorem afe (xs : List X) : evO call get H (.mx xs) = (bQ get xs).bind (Wx H) := (rfl)
@[go_sem] theorem adU (k : IntKind) (a b : Int) : Ww H [.t (.int k a), .t (.int k b)] = some (.t (.int k (min a b)), H) := by
 simp only[Ww,U1,yw,if_true,aLw];congr 4;omega
@[go_sem] theorem adV (k : IntKind) (a b : Int) : Wx H [.t (.int k a), .t (.int k b)] = some (.t (.int k (max a b)), H) := by
 simp only[Wx,U2,yw,if_true,aLw];congr 4;omega
@[go_sem] theorem adW (k : IntKind) (a b c : Int) : Ww H [.t (.int k a), .t (.int k b), .t (.int k c)] = some (.t (.int k (min (min a b) c)), H) := by
 simp only[Ww,U1,yw,if_true,aLw];congr 4;omega
@[go_sem] theorem adX (k : IntKind) (a b c : Int) : Wx H [.t (.int k a), .t (.int k b), .t (.int k c)] = some (.t (.int k (max (max a b) c)), H) := by
 simp only[Wx,U2,yw,if_true,aLw];congr 4;omega
def Ay(sz:Nat)(x:Option D)(lo hi:Option (Option Int)):Option (D×aj):=x.bind fun a=>lo.bind fun l=>hi.bind fun h=>(lL H a l h sz).map fun d=>(d,H)
@[go_sem] theorem aff (x : X) (lo hi : Option X) (sz : Nat) : evO call get H (.sc x lo hi sz) = Ay H sz (get x) (FO get lo) (FO get hi) := (rfl)
def Wy:D→Option (Option Int)
 | .t (.int _ n)=>some (some n)
 | _=>none
@[go_sem] theorem Zy (k : IntKind) (n : Int) : Wy (.t (.int k n)) = some (some n) := (rfl)
@[go_sem] theorem Wz : FO get none = some none := (rfl)
@[go_sem] theorem WA (x : X) : FO get (some x) = (get x).bind Wy := by
 simp only[FO];cases get x with
 | none=>rfl
 | some d=>cases d with
   | t y=>cases y<;>rfl
   | _=>rfl
def abO(i:Nat)(a:D):Option (D×aj):=(U3 i a).map fun d=>(d,H)
@[go_sem] theorem afg (x : X) (i : Nat) : evO call get H (.ex x i) = (get x).bind (abO H i) := (rfl)
def exO:Option D→Option (D×aj)
 | some d=>some (d,H)
 | none=>none
@[go_sem] theorem Zz (d : D) : exO H (some d) = some (d, H) := (rfl)
@[go_sem] theorem ZA (i : Nat) (ds : List D) : abO H i (.tup ds) = exO H ds[i]? := by simp only [abO, U3, exO]; cases ds[i]? <;> rfl
def abP(f:Nat)(ds:List D):Option (D×aj):=some (.fn f ds,H)
@[go_sem] theorem abQ (f : Nat) (ds : List D) : abP H f ds = some (.fn f ds, H) := (rfl)
@[go_sem] theorem afh (f : Nat) (caps : List X) : evO call get H (.mf f caps) = (bQ get caps).bind (abP H f) := by simp only [evO, abP]; cases bQ get caps <;> rfl
@[go_sem] theorem afi (sz : Nat) : evO call get H (.nw sz) = some (.ref H.length 0 0, H ++ [.arr sz false 0 []]) := (rfl)
def alP(p:List D×aj):Option (D×aj):=some (.bp H.length 0,H++ .box p.1::p.2)
@[go_sem] theorem adY (cs : List D) (os : aj) : alP H (cs, os) = some (.bp H.length 0, H ++ .box cs :: os) := (rfl)
@[go_sem] theorem afj (zero : List D) (live : List (Nat × Nat)) : evO call get H (.al zero live) = alP H (bI (H.length + 1) zero live) := (rfl)
@[go_sem] theorem Pm (base : Nat) (cs : List D) : bI base cs [] = (cs, []) := (rfl)
def abR(n:Nat)(a:D):Option (D×aj):=if a.cells.length=n∧a.iO then some (.bp H.length 0,H++[.box a.cells])else none
@[go_sem] theorem afk (x : X) (n : Nat) : evO call get H (.bx x n) = (get x).bind (abR H n) := (rfl)
@[go_sem] theorem abS (n : Nat) (a : D) : abR H n a = if fits n a = true then some (.bp H.length 0, H ++ [.box a.cells]) else none := by
 simp[abR,fits]
def ZB(sz:Nat)(zero:D)(n:Option Nat):Option (D×aj):=n.bind fun m=>if m≤lim then some (.ref H.length 0 m,H++[.arr sz false 0 (List.replicate m zero)])else none
def mkN(sz:Nat)(zero:D):D→Option (D×aj)
 | .t (.int _ n)=>ZB H sz zero (idx n)
 | _=>none
@[go_sem] theorem abT (sz : Nat) (zero : D) (k : IntKind) (n : Int) : mkN H sz zero (.t (.int k n)) = ZB H sz zero (idx n) := (rfl)
@[go_sem] theorem afl (len : X) (zero : D) (sz : Nat) : evO call get H (.mk len zero sz) = (get len).bind (mkN H sz zero) := by
 simp only[evO];cases get len with
 | none=>rfl
 | some d=>cases d with
   | t y=>cases y<;>rfl
   | _=>rfl
@[go_sem] theorem abU (sz : Nat) (zero : D) (m : Nat) (h : m ≤ 4294967296) : ZB H sz zero (some m) = some (.ref H.length 0 m, H ++ [.arr sz false 0 (List.replicate m zero)]) := by
 simp[ZB,lim,h]
def K3(zero:T)(n:Option Nat):Option (D×aj):=n.bind fun m=>if m≤lim then some (.t (.sl (List.replicate m zero)),H)else none
def adZ(zero:T):D→Option (D×aj)
 | .t (.int _ n)=>K3 H zero (idx n)
 | _=>none
@[go_sem] theorem ZC (zero : T) (k : IntKind) (n : Int) : adZ H zero (.t (.int k n)) = K3 H zero (idx n) := (rfl)
@[go_sem] theorem ad0 (len : X) (zero : T) (sz : Nat) : evO call get H (.mkt len zero sz) = (get len).bind (adZ H zero) := by
 simp only[evO];cases get len with
 | none=>rfl
 | some d=>cases d with
   | t y=>cases y<;>rfl
   | _=>rfl
@[go_sem] theorem ZD (zero : T) (m : Nat) (h : m ≤ 4294967296) : K3 H zero (some m) = some (.t (.sl (List.replicate m zero)), H) := by
 simp[K3,lim,h]
def K4(sz:Nat)(zero:T)(n:Option Nat):Option (D×aj):=n.bind fun m=>if m≤lim∧0<m then some (.ref H.length 0 m,H++[.arr sz false 0 (List.replicate m (.t zero))])else none
def ad1(sz:Nat)(zero:T):D→Option (D×aj)
 | .t (.int _ n)=>K4 H sz zero (idx n)
 | _=>none
@[go_sem] theorem ZE (sz : Nat) (zero : T) (k : IntKind) (n : Int) : ad1 H sz zero (.t (.int k n)) = K4 H sz zero (idx n) := (rfl)
@[go_sem] theorem ad2 (len : X) (zero : T) (sz : Nat) : evO call get H (.mkn len zero sz) = (get len).bind (ad1 H sz zero) := by
 simp only[evO];cases get len with
 | none=>rfl
 | some d=>cases d with
   | t y=>cases y<;>rfl
   | _=>rfl
@[go_sem] theorem ZF (sz : Nat) (zero : T) (m : Nat) (h : m ≤ 4294967296) (h0 : 0 < m) : K4 H sz zero (some m) = some (.ref H.length 0 m, H ++ [.arr sz false 0 (List.replicate m (.t zero))]) := by
 simp[K4,lim,h,h0]
def mH(sz:Nat)(fz:Bool)(x y:Option D):Option (D×aj):=x.bind fun a=>y.bind fun b=>kY H a b fz sz
@[go_sem] theorem ad3 (x y : X) (fz : Bool) (sz : Nat) : evO call get H (.app x y fz sz) = mH H sz fz (get x) (get y) := (rfl)
def uK(sz id ep n:Nat)(ys:List D):Option Obj→Option (D×aj)
 | some (.arr sz' pin ep' es)=>if ep=ep'∧n=es.length∧sz'=sz∧n+ys.length≤lim then some (.ref id ep (n+ys.length),H.set id (.arr sz pin ep (es++ys)))else none
 | _=>none
@[go_sem] theorem WB (sz id ep n : Nat) (ys : List D) (pin : Bool) (es : List D) :
 uK H sz id ep n ys (some (.arr sz pin ep es))=if n=es.length then(if n+ys.length≤4294967296 then some (.ref id ep (n+ys.length),H.set id (.arr sz pin ep (es++ys)))else none)else none:=by
 simp only[uK,lim]
 by_cases h1:n=es.length
 · rw[if_pos h1]
   by_cases h2:n+ys.length≤4294967296
   · rw[if_pos h2,if_pos ⟨trivial,h1,trivial,h2⟩]
   · rw[if_neg h2,if_neg fun h=>h2 h.2.2.2]
 · rw[if_neg h1,if_neg fun h=>h1 h.2.1]
theorem r6(ts:List T):bQ (fun d=>(frz H depth d).map D.t) (ts.map D.t)=some (ts.map D.t):=by
 induction ts with
 | nil=>rfl
 | cons t ts ih=>simp[bQ,frz,ih]
theorem Ix(ts:List T):(ts.map D.t).flatMap (fU H depth)=[]:=by
 induction ts with
 | nil=>rfl
 | cons t ts ih=>rw[List.map_cons,List.flatMap_cons,ih];simp[fU,depth]
theorem B6(sz:Nat)(fz:Bool)(x:D)(ts:List T)(h:bM sz (ts.map D.t)=false):mH H sz fz (some x) (some (.t (.sl ts)))=none:=by
 have e1:(if fz then bQ (fun d=>(frz H depth d).map D.t) (ts.map D.t)else some (ts.map D.t))=some (ts.map D.t):=by
  cases fz<;>simp[r6]
 simp only[mH,aLq,kY,elems,e1,h,aLt,if_false]
def mg(sz:Nat)(ts:List T):Bool:=bM sz (ts.map D.t)
theorem Iy(sz id ep n:Nat)(fz:Bool)(ts:List T)(h:mg sz ts=true):mH H sz fz (some (.ref id ep n)) (some (.t (.sl ts)))=uK H sz id ep n (ts.map .t) H[id]?:=by
 have e1:(if fz then bQ (fun d=>(frz H depth d).map D.t) (ts.map D.t)else some (ts.map D.t))=some (ts.map D.t):=by
  cases fz<;>simp[r6]
 have e2:(if fz then pins H ((ts.map D.t).flatMap (fU H depth))else H)=H:=by
  cases fz
  · rfl
  · simp only[if_true];rw[Ix];rfl
 unfold mg at h
 simp only[mH,aLq,kY,elems,e1,h,if_true,e2,fT]
 generalize H[id]?=o
 rcases o with _ | (_ | ⟨sz',pin,ep',es⟩ | _)
 rotate_right
 · rfl
 · rfl
 · rfl
 · simp only[uK]
   by_cases h1:ep=ep'∧n=es.length
   · rw[if_pos h1,aLq]
     by_cases h2:sz'=sz∧n+(ts.map D.t).length≤lim
     · rw[if_pos h2,if_pos ⟨h1.1,h1.2,h2⟩]
     · rw[if_neg h2,if_neg fun h=>h2 h.2.2]
   · rw[if_neg h1,if_neg fun h=>h1 ⟨h.1,h.2.1⟩];rfl
@[go_sem] theorem WC (sz id ep n : Nat) (fz : Bool) (ts : List T) : mH H sz fz (some (.ref id ep n)) (some (.t (.sl ts))) = if mg sz ts = true then uK H sz id ep n (ts.map .t) H[id]? else none := by
 by_cases h:mg sz ts=true
 · rw[if_pos h,Iy H sz id ep n fz ts h]
 · rw[if_neg h];exact B6 H sz fz _ ts (by simpa [mg]using h)
@[go_sem] theorem WD (sz : Nat) (fz : Bool) (ts : List T) : mH H sz fz (some .nil) (some (.t (.sl ts))) =
 if mg sz ts=true then(if ts.length≤4294967296 then some (.ref H.length 0 ts.length,H++[.arr sz false 0 (ts.map .t)])else none)else none:=by
 by_cases h:mg sz ts=true
 · rw[if_pos h]
   have e1:(if fz then bQ (fun d=>(frz H depth d).map D.t) (ts.map D.t)else some (ts.map D.t))=some (ts.map D.t):=by
    cases fz<;>simp[r6]
   have e2:(if fz then pins H ((ts.map D.t).flatMap (fU H depth))else H)=H:=by
    cases fz
    · rfl
    · simp only[if_true];rw[Ix];rfl
   unfold mg at h
   simp only[mH,aLq,kY,elems,e1,h,if_true,e2,lim,List.length_map]
 · rw[if_neg h];exact B6 H sz fz _ ts (by simpa [mg]using h)
@[go_sem] theorem WE (sz : Nat) : mg sz [] = true := (rfl)
@[go_sem] theorem SX (sz : Nat) (x : T) (r : List T) : mg sz (x :: r) = mG sz x.cells := by
 rw[Bool.eq_iff_iff,eX];simp[mg,bM,D.cells]
@[go_sem] theorem WG (l : List Int) (k : IntKind) : mg 1 (l.map (.int k)) = true := by cases l <;> rfl
@[go_sem] theorem SY (l : List Bool) : mg 1 (l.map .bool) = true := by cases l <;> rfl
@[go_sem] theorem ZG (l : List (List T)) : mg 1 (l.map .sl) = true := by cases l <;> rfl
def F9(call:aR)(f raw:Nat)(keep:List Nat)(ds:List D):Option (D×aj):=rD call H f raw keep ds
@[go_sem] theorem afm (f raw : Nat) (keep : List Nat) (xs : List X) : evO call get H (.ca f raw keep xs) = (bQ get xs).bind (F9 H call f raw keep) := (rfl)
def ad4(call:aR)(raw:Nat)(keep:List Nat)(x:Option D)(xs:Option (List D)):Option (D×aj):=x.bind fun
 | .fn f caps=>xs.bind fun ds=>rD call H f raw keep (ds++caps)
 | _=>none
@[go_sem] theorem afn (x : X) (raw : Nat) (keep : List Nat) (xs : List X) : evO call get H (.cw x raw keep xs) = ad4 H call raw keep (get x) (bQ get xs) := (rfl)
@[go_sem] theorem abV (raw : Nat) (keep : List Nat) (f : Nat) (caps ds : List D) : ad4 H call raw keep (some (.fn f caps)) (some ds) = F9 H call f raw keep (ds ++ caps) := (rfl)
def lI(H:aj):List D→Option (List T)
 | []=>some []
 | .t x::r=>kD x (lI H r)
 | .nil::r=>kD (.sl []) (lI H r)
 | _::_=>none
@[go_sem] theorem abW : lI H [] = some [] := (rfl)
@[go_sem] theorem abX (x : T) (r : List D) : lI H (.t x :: r) = kD x (lI H r) := (rfl)
@[go_sem] theorem WH (r : List D) : lI H (.nil :: r) = kD (.sl []) (lI H r) := (rfl)
@[go_sem] theorem WI (cs : List D) (r : List D) : lI H (.agg cs :: r) = none := (rfl)
@[go_sem] theorem ZH (a b : Nat) (r : List D) : lI H (.bp a b :: r) = none := (rfl)
@[go_sem] theorem WJ (a b c : Nat) (r : List D) : lI H (.ref a b c :: r) = none := (rfl)
@[go_sem] theorem WK (a b c d e : Nat) (r : List D) : lI H (.sub a b c d e :: r) = none := (rfl)
@[go_sem] theorem ZI (f : Nat) (cs : List D) (r : List D) : lI H (.fn f cs :: r) = none := (rfl)
@[go_sem] theorem ZJ (a b c d e : Nat) (r : List D) : lI H (.ap a b c d e :: r) = none := (rfl)
@[go_sem] theorem ZK (cs : List T) (r : List D) : lI H (.ep cs :: r) = none := (rfl)
@[go_sem] theorem SZ (r : List D) : lI H (.nilp :: r) = none := (rfl)
@[go_sem] theorem WL (r : List D) : lI H (.und :: r) = none := (rfl)
end
theorem qV(H:aj):∀ {ds:List D} {ts:List T},lI H ds=some ts→∀i,nE H [] i ds=some (ts.map .t)∧b8 H [] i ds=[]
 | [],ts,h,i=>by simp[lI]at h;subst h;exact⟨rfl,rfl⟩
 | d::r,ts,h,i=>by
   cases d with
   | t x=>
     simp only[lI,kD,aLb]at h
     obtain⟨l,hl,rfl⟩:=h
     obtain⟨h1,h2⟩:=qV H hl (i+1)
     exact⟨by simp[nE,qK,h1],by simp[b8,fU,depth,h2]⟩
   | nil=>
     simp only[lI,kD,aLb]at h
     obtain⟨l,hl,rfl⟩:=h
     obtain⟨h1,h2⟩:=qV H hl (i+1)
     exact⟨by simp[nE,qK,h1],by simp[b8,fU,depth,h2]⟩
   | _=>simp[lI]at h
theorem Iz(ts:List T)(n:Nat):(ts.map D.t).flatMap (ids n)=[]:=by
 induction ts with
 | nil=>rfl
 | cons t ts ih=>rw[List.map_cons,List.flatMap_cons,ih];simp[ids]
theorem Pn(f:Nat→Option Nat)(ts:List T):bQ (ren f depth) (ts.map .t)=some (ts.map .t):=by
 induction ts with
 | nil=>rfl
 | cons t ts ih=>simp[bQ,ren,depth]at ih ⊢;exact ih
def vC:D→Bool
 | .t _=>true
 | .tup ds=>ds.all fun | .t _=>true | _=>false
 | _=>false
theorem Az{f:Nat→Option Nat}{d:D}(h:vC d=true):ren f depth d=some d:=by
 cases d with
 | t x=>rfl
 | tup ds=>
   simp only[vC]at h
   have:bQ (ren f 7) ds=some ds:=by
    induction ds with
    | nil=>rfl
    | cons d ds ih=>
      simp only[List.all_cons,aLr]at h
      cases d with
      | t x=>simp[bQ,ren,ih h.2]
      | _=>simp at h
   simp[ren,depth,this]
 | _=>simp[vC]at h
def xf(H:aj)(p:D×aj):Option (D×aj):=if vC p.1&&p.2.isEmpty then some (p.1,H)else
 (ren (dP [] H.length) depth p.1).bind fun r'=>(bQ (ga (dP [] H.length)) p.2).map fun os=>(r',H++os)
@[go_sem] theorem abY (H : aj) (x : T) : xf H (.t x, []) = some (.t x, H) := (rfl)
@[go_sem] theorem abZ (H : aj) : xf H (.tup [], []) = some (.tup [], H) := (rfl)
@[go_sem] theorem ab0 (H : aj) (x y : T) : xf H (.tup [.t x, .t y], []) = some (.tup [.t x, .t y], H) := (rfl)
@[go_sem] theorem ab1 (H : aj) (x y z : T) : xf H (.tup [.t x, .t y, .t z], []) = some (.tup [.t x, .t y, .t z], H) := (rfl)
@[go_sem] theorem ab2 (H : aj) (x y z u : T) : xf H (.tup [.t x, .t y, .t z, .t u], []) = some (.tup [.t x, .t y, .t z, .t u], H) := (rfl)
theorem IA(H:aj)(call:aR)(f raw:Nat)(ds:List D)(ts:List T)(h:lI H ds=some ts):
 F9 H call f raw [] ds=(call raw f (ts.map .t) []).bind (xf H):=by
 obtain⟨h1,h2⟩:=qV H h 0
 simp only[F9,rD,h1,aLq,Iz,eM,reach,oT,List.flatMap_nil,h2,pins,Pn,pick,bQ]
 cases hc:call raw f (ts.map .t) []with
 | none=>rfl
 | some p=>
   obtain⟨d,os⟩:=p
   simp only[aLq,List.isEmpty_nil,Bool.true_and,xf]
   by_cases h3:os=[]
   · subst h3
     simp only[List.isEmpty_nil,Bool.true_and,Bool.and_true,bQ,aLw,List.length_nil,List.take_nil,cG,List.drop_nil,List.append_nil]
     by_cases h4:vC d=true
     · rw[if_pos h4]
       split
       · rfl
       · rw[Az h4];rfl
     · rw[if_neg h4]
       split
       · rename_i h5
         exfalso
         apply h4
         cases d with
         | t x=>rfl
         | tup ds=>
           simp only[nC,aLx]at h5
           simp only[vC,aLx]
           intro y hy
           have:=h5 y hy
           cases y<;>simp_all [kt]
         | _=>simp[nC]at h5
       · rfl
   · have:os.isEmpty=false:=by cases os<;>simp_all
     simp only[this,Bool.false_and,Bool.and_false,if_false,aLt,List.length_nil,List.take_zero,cG,List.drop_zero]
@[go_sem] theorem S0 (st : St) : i7 st [] = some [] := (rfl)
def ad5(st:St)(r:List (Nat×Option (Nat×Bool)))(d:D):Option (List D):=kD d (i7 st r)
@[go_sem] theorem ab3 (vs : List D) (H : aj) (r : List (Nat × Option (Nat × Bool))) (d : D) : ad5 ⟨vs, H⟩ r d = kD d (i7 ⟨vs, H⟩ r) := (rfl)
@[go_sem] theorem S1 (vs : List D) (H : aj) (j : Nat) (r : List (Nat × Option (Nat × Bool))) : i7 ⟨vs, H⟩ ((j, none) :: r) = vs[j]?.bind (ad5 ⟨vs, H⟩ r) := (rfl)
def ab4(st:St)(r:List (Nat×Option (Nat×Bool)))(p:D×aj):Option (List D):=kD p.1 (i7 st r)
@[go_sem] theorem ab5 (vs : List D) (H : aj) (r : List (Nat × Option (Nat × Bool))) (d : D) (H' : aj) : ab4 ⟨vs, H⟩ r (d, H') = kD d (i7 ⟨vs, H⟩ r) := (rfl)
def ab6(st:St)(n:Nat)(agg:Bool)(r:List (Nat×Option (Nat×Bool)))(p:D):Option (List D):=(JV st.H n agg p).bind (ab4 st r)
@[go_sem] theorem ab7 (vs : List D) (H : aj) (n : Nat) (agg : Bool) (r : List (Nat × Option (Nat × Bool))) (p : D) : ab6 ⟨vs, H⟩ n agg r p = (JV H n agg p).bind (ab4 ⟨vs, H⟩ r) := (rfl)
@[go_sem] theorem Po (vs : List D) (H : aj) (j n : Nat) (agg : Bool) (r : List (Nat × Option (Nat × Bool))) : i7 ⟨vs, H⟩ ((j, some (n, agg)) :: r) = vs[j]?.bind (ab6 ⟨vs, H⟩ n agg r) := by
 simp only[i7]
 cases vs[j]? with
 | none=>rfl
 | some p=>
   simp only[aLq,ab6,JV]
   cases te H p n agg<;>rfl
@[go_sem] theorem ab8 (H : aj) (n : Nat) (x : T) : frz H n (.t x) = some x := by cases n <;> rfl
@[go_sem] theorem ab9 (H : aj) (n : Nat) : frz H n .nil = some (.sl []) := by cases n <;> rfl
@[go_sem] theorem aca (H : aj) (n : Nat) (cs : List D) : frz H (n + 1) (.agg cs) = (bQ (frz H n) cs).map .agg := (rfl)
@[go_sem] theorem Ga (H : aj) (n : Nat) (ts : List T) : bQ (frz H n) (ts.map .t) = some ts := by
 induction ts with
 | nil=>rfl
 | cons t ts ih=>simp[bQ,ab8,ih]
def frA(H:aj)(n ep m lo hi:Nat):Option Obj→Option T
 | some (.arr _ _ ep' es)=>if ep=ep'∧m=es.length then(bQ (frz H n) ((es.drop lo).take (hi-lo))).map .sl else none
 | _=>none
def frR(H:aj)(n ep m:Nat):Option Obj→Option T
 | some (.arr _ _ ep' es)=>if ep=ep'∧m=es.length then(bQ (frz H n) es).map .sl else none
 | _=>none
@[go_sem] theorem acb (H : aj) (n id ep m : Nat) : frz H (n + 1) (.ref id ep m) = frR H n ep m H[id]? := by
 simp only[frz,fT]
 generalize H[id]?=o
 rcases o with _ | (_ | ⟨sz',pin,ep',es⟩ | _)
 rotate_right
 · rfl
 · rfl
 · rfl
 · simp only[frR]
   by_cases h:ep=ep'∧m=es.length
   · rw[if_pos h,if_pos h];rfl
   · rw[if_neg h,if_neg h];rfl
@[go_sem] theorem acd (H : aj) (n id ep m lo hi : Nat) : frz H (n + 1) (.sub id ep m lo hi) = frA H n ep m lo hi H[id]? := by
 simp only[frz,fT]
 generalize H[id]?=o
 rcases o with _ | (_ | ⟨sz',pin,ep',es⟩ | _)
 rotate_right
 · rfl
 · rfl
 · rfl
 · simp only[frA]
   by_cases h:ep=ep'∧m=es.length
   · rw[if_pos h,if_pos h];rfl
   · rw[if_neg h,if_neg h];rfl
@[go_sem] theorem ace (H : aj) (n ep m sz : Nat) (pin : Bool) (es : List D) : frR H n ep m (some (.arr sz pin ep es)) = if m = es.length then (bQ (frz H n) es).map .sl else none := by simp [frR]
@[go_sem] theorem acf (H : aj) (n ep m lo hi sz : Nat) (pin : Bool) (es : List D) : frA H n ep m lo hi (some (.arr sz pin ep es)) = if m = es.length then (bQ (frz H n) ((es.drop lo).take (hi - lo))).map .sl else none := by simp [frA]
@[go_sem] theorem WM (H : aj) (x : T) : qK H (.t x) = some (.t x) := (rfl)
@[go_sem] theorem ZL (H : aj) : qK H .nil = some (.t (.sl [])) := (rfl)
@[go_sem] theorem ZM (H : aj) (cs : List D) : qK H (.agg cs) = (frz H 8 (.agg cs)).map .t := (rfl)
@[go_sem] theorem ZN (H : aj) (id ep n : Nat) : qK H (.ref id ep n) = (frz H 8 (.ref id ep n)).map .t := (rfl)
@[go_sem] theorem ZO (H : aj) (id ep n lo hi : Nat) : qK H (.sub id ep n lo hi) = (frz H 8 (.sub id ep n lo hi)).map .t := (rfl)
@[go_sem] theorem Pp (H : aj) (id off : Nat) : qK H (.bp id off) = some (.bp id off) := (rfl)
@[go_sem] theorem acg (H : aj) (id ep n i off : Nat) : qK H (.ap id ep n i off) = some (.ap id ep n i off) := (rfl)
@[go_sem] theorem ach (H : aj) (cs : List T) : qK H (.ep cs) = some (.ep cs) := (rfl)
@[go_sem] theorem aci (H : aj) (f : Nat) (cs : List D) : qK H (.fn f cs) = some (.fn f cs) := (rfl)
def ltB:Nat→Nat→Bool
 | _,0=>false
 | 0,_+1=>true
 | m+1,n+1=>ltB m n
@[go_sem] theorem afo (m : Nat) : ltB m 0 = false := by cases m <;> rfl
@[go_sem] theorem ad6 (n : Nat) : ltB 0 (n + 1) = true := (rfl)
@[go_sem] theorem ad7 (m n : Nat) : ltB (m + 1) (n + 1) = ltB m n := (rfl)
theorem mI:∀ {m n:Nat},ltB m n=decide (m<n)
 | m,0=>by cases m<;>simp[ltB]
 | 0,n+1=>by simp[ltB]
 | m+1,n+1=>by simp[ltB,mI (m:=m) (n:=n)]
def eqB:Nat→Nat→Bool
 | 0,0=>true
 | m+1,n+1=>eqB m n
 | _,_=>false
@[go_sem] theorem ad8 : eqB 0 0 = true := (rfl)
@[go_sem] theorem ad9 (n : Nat) : eqB 0 (n + 1) = false := (rfl)
@[go_sem] theorem aea (n : Nat) : eqB (n + 1) 0 = false := (rfl)
@[go_sem] theorem aeb (m n : Nat) : eqB (m + 1) (n + 1) = eqB m n := (rfl)
theorem DD:∀ {m n:Nat},eqB m n=decide (m=n)
 | 0,0=>rfl
 | 0,n+1=>rfl
 | m+1,0=>rfl
 | m+1,n+1=>by simp[eqB,DD (m:=m) (n:=n)]
section
variable (k n : Nat)
@[go_sem] theorem acj (x : T) : old k n (.t x) = true := by cases n <;> rfl
@[go_sem] theorem ack : old k n .nil = true := by cases n <;> rfl
@[go_sem] theorem aec (cs : List T) : old k n (.ep cs) = true := by cases n <;> rfl
@[go_sem] theorem ZP : old k n .nilp = true := by cases n <;> rfl
@[go_sem] theorem acm : old k n .und = true := by cases n <;> rfl
@[go_sem] theorem WN (id off : Nat) : old k n (.bp id off) = ltB id k := by cases n <;> simp [old, mI]
@[go_sem] theorem aed (id ep m i off : Nat) : old k n (.ap id ep m i off) = ltB id k := by cases n <;> simp [old, mI]
@[go_sem] theorem acn (id ep m : Nat) : old k n (.ref id ep m) = ltB id k := by cases n <;> simp [old, mI]
@[go_sem] theorem aco (id ep m lo hi : Nat) : old k n (.sub id ep m lo hi) = ltB id k := by cases n <;> simp [old, mI]
def fW(n:Nat)(cs:List D):Bool:=cs.all (old k n)
@[go_sem] theorem S2 : fW k n [] = true := (rfl)
@[go_sem] theorem DE (d : D) (r : List D) : fW k n (d :: r) = (old k n d && fW k n r) := (rfl)
@[go_sem] theorem E3 (ts : List T) : fW k n (ts.map .t) = true := by
 induction ts with
 | nil=>rfl
 | cons t ts ih=>rw[List.map_cons,DE,acj,ih];rfl
@[go_sem] theorem S3 (m : Nat) (x : T) : fW k n (List.replicate m (.t x)) = true := by
 have:List.replicate m (D.t x)=(List.replicate m x).map .t:=by simp
 rw[this,E3]
@[go_sem] theorem S4 (a b : List D) : fW k n (a ++ b) = (fW k n a && fW k n b) := by simp [fW]
@[go_sem] theorem acp (cs : List D) : old k (n + 1) (.agg cs) = fW k n cs := (rfl)
@[go_sem] theorem acq (cs : List D) : old k (n + 1) (.tup cs) = fW k n cs := (rfl)
@[go_sem] theorem aee (f : Nat) (cs : List D) : old k (n + 1) (.fn f cs) = fW k n cs := (rfl)
end
def dC(k:Nat):aj→Bool
 | []=>true
 | .box cs::r=>fW k 8 cs&&dC k r
 | .arr _ _ _ es::r=>fW k 8 es&&dC k r
 | .own _::r=>true&&dC k r
@[go_sem] theorem Pq (k : Nat) : dC k [] = true := (rfl)
@[go_sem] theorem Pr (k : Nat) (cs : List D) (r : aj) : dC k (.box cs :: r) = (fW k 8 cs && dC k r) := (rfl)
@[go_sem] theorem Ps (k ep : Nat) (r : aj) : dC k (.own ep :: r) = dC k r := by simp [dC]
@[go_sem] theorem Pt (k sz ep : Nat) (pin : Bool) (es : List D) (r : aj) : dC k (.arr sz pin ep es :: r) = (fW k 8 es && dC k r) := (rfl)
theorem lK(k:Nat)(H:aj):H.all (fun o=>o.ds.all (old k depth))=dC k H:=by
 induction H with
 | nil=>rfl
 | cons o r ih=>rw[List.all_cons,ih];cases o<;>rfl
def Pu(d:D)(b:Bool):D:=if b then d else .und
@[go_sem] theorem S5 (d : D) : Pu d true = d := (rfl)
@[go_sem] theorem Pv (d : D) : Pu d false = .und := (rfl)
@[go_sem] theorem acr (k : Nat) (d : D) : kill k d = Pu d (old k 8 d) := (rfl)
def Gb(k:Nat):List D→List D
 | []=>[]
 | d::r=>kill k d::Gb k r
@[go_sem] theorem WO (k : Nat) : Gb k [] = [] := (rfl)
@[go_sem] theorem S6 (k : Nat) (d : D) (r : List D) : Gb k (d :: r) = kill k d :: Gb k r := (rfl)
theorem K5(k:Nat)(vs:List D):vs.map (kill k)=Gb k vs:=by
 induction vs with
 | nil=>rfl
 | cons d r ih=>rw[List.map_cons,ih];rfl
@[go_sem] theorem ZQ (k : Nat) (vs : List D) (H : aj) : FP k ⟨vs, H⟩ = if dC k (H.take k) = true then some ⟨Gb k vs, H.take k⟩ else none := by
 simp only[FP,lK,K5]
@[go_sem] theorem IB (H : aj) (n : Nat) (x : T) : fU H n (.t x) = [] := by cases n <;> rfl
@[go_sem] theorem ZR (H : aj) (n : Nat) : fU H n .nil = [] := by cases n <;> rfl
@[go_sem] theorem Pw (H : aj) (n id off : Nat) : fU H n (.bp id off) = [] := by cases n <;> rfl
@[go_sem] theorem acs (H : aj) (n f : Nat) (cs : List D) : fU H n (.fn f cs) = [] := by cases n <;> rfl
@[go_sem] theorem acu (H : aj) (n : Nat) (cs : List T) : fU H n (.ep cs) = [] := by cases n <;> rfl
@[go_sem] theorem acv (H : aj) (n a b c d e : Nat) : fU H n (.ap a b c d e) = [] := by cases n <;> rfl
def qa(H:aj)(n:Nat)(cs:List D):List Nat:=cs.flatMap (fU H n)
@[go_sem] theorem WQ (H : aj) (n : Nat) : qa H n [] = [] := (rfl)
@[go_sem] theorem Gc (H : aj) (n : Nat) (d : D) (r : List D) : qa H n (d :: r) = fU H n d ++ qa H n r := (rfl)
@[go_sem] theorem acw (H : aj) (n : Nat) (ts : List T) : qa H n (ts.map .t) = [] := by
 induction ts with
 | nil=>rfl
 | cons t ts ih=>rw[List.map_cons,Gc,ih,IB];rfl
@[go_sem] theorem WR (H : aj) (n : Nat) (a b : List D) : qa H n (a ++ b) = qa H n a ++ qa H n b := by simp [qa]
@[go_sem] theorem ZS (H : aj) (n : Nat) (cs : List D) : fU H (n + 1) (.agg cs) = qa H n cs := (rfl)
def Px(H:aj)(n:Nat):Option Obj→List Nat
 | some (.arr _ _ _ es)=>qa H n es
 | _=>[]
@[go_sem] theorem WS (H : aj) (n sz ep : Nat) (pin : Bool) (es : List D) : Px H n (some (.arr sz pin ep es)) = qa H n es := (rfl)
@[go_sem] theorem ZT (H : aj) (n id ep m : Nat) : fU H (n + 1) (.ref id ep m) = id :: Px H n H[id]? := (rfl)
@[go_sem] theorem ZU (H : aj) (n id ep m lo hi : Nat) : fU H (n + 1) (.sub id ep m lo hi) = id :: Px H n H[id]? := (rfl)
@[go_sem] theorem acx : vu [] = .tup [] := (rfl)
@[go_sem] theorem acy (d : D) : vu [d] = d := (rfl)
@[go_sem] theorem acz (a b : D) (r : List D) : vu (a :: b :: r) = .tup (a :: b :: r) := (rfl)
def B7(k:Nat):List Nat→Bool
 | []=>true
 | i::r=> !ltB i k&&B7 k r
@[go_sem] theorem WT (k : Nat) : B7 k [] = true := (rfl)
@[go_sem] theorem S7 (k i : Nat) (r : List Nat) : B7 k (i :: r) = (!ltB i k && B7 k r) := (rfl)
theorem E4(k:Nat)(l:List Nat):l.all (fun i=>decide (k≤i))=B7 k l:=by
 induction l with
 | nil=>rfl
 | cons i r ih=>
   rw[List.all_cons,ih]
   simp only[B7,mI]
   congr 1
   rw[Bool.eq_iff_iff];simp
def ZV(k raw:Nat)(H:aj)(ds rs:List D):Option (D×aj):=
 (ml H (max raw 1) (List.range k) (rs.flatMap (ids depth)++oT H (List.range k))).bind fun q=>
  if(jl H raw ds).all (fun i=> !(List.range k++q.1).contains i)then
   (bQ (ren (idxOf (List.range k++q.1)) depth) rs).bind fun rs'=>
    (bQ (ga (idxOf (List.range k++q.1))) (H.take k++q.2)).map fun hs'=>(vu rs',hs')
  else none
def S8(k raw:Nat)(H:aj)(ds rs:List D)(b:Bool):Option (D×aj):=
 if b then(if B7 k (jl H raw ds)=true then some (vu rs,H.take k)else none)else ZV k raw H ds rs
@[go_sem] theorem WU (k raw : Nat) (H : aj) (ds rs : List D) : S8 k raw H ds rs true = if B7 k (jl H raw ds) = true then some (vu rs, H.take k) else none := (rfl)
def WV(k raw:Nat)(H:aj)(ds rs:List D):Option (D×aj):=S8 k raw H ds rs (fW k 8 rs&&dC k (H.take k))
@[go_sem] theorem acA (k raw : Nat) (H : aj) (ds rs : List D) : WV k raw H ds rs = S8 k raw H ds rs (fW k 8 rs && dC k (H.take k)) := (rfl)
@[go_sem] theorem WW (k : Nat) (H : aj) (ds : List D) : finish k 0 H ds = (bQ (qK H) ds).bind (WV k 0 H ds) := by
 simp only[finish,if_true,lK,E4]
 cases bQ (qK H) ds with
 | none=>rfl
 | some rs=>
   simp only[aLq,WV,S8]
   show(if(fW k 8 rs&&dC k (H.take k))=true then _ else _)=_
   cases (fW k 8 rs&&dC k (H.take k))<;>rfl
@[go_sem] theorem WX (H : aj) (ds : List D) : jl H 0 ds = qa H 8 ds := (rfl)
@[go_sem] theorem WY (vs : List D) : jO [] vs = vs := (rfl)
@[go_sem] theorem S9 (i : Nat) (r : List Nat) (vs : List D) : jO (i :: r) vs = jO r (vs.set i .und) := (rfl)
@[go_sem] theorem acB (dead : List Nat) (k : Nat) (vs : List D) (H : aj) : tidy false dead k ⟨vs, H⟩ = some ⟨jO dead vs, H⟩ := (rfl)
@[go_sem] theorem acC (dead : List Nat) (k : Nat) (vs : List D) (H : aj) : tidy true dead k ⟨vs, H⟩ = FP k ⟨jO dead vs, H⟩ := (rfl)
section
variable (H : aj) (call : aR) (f raw : Nat) (keep : List Nat) (ds : List D)
def AA(H1:aj)(n:Nat)(sel:List Nat)(p:D×aj):Option (D×aj):=
 (ren (dP sel n) depth p.1).bind fun r'=>(bQ (ga (dP sel n)) p.2).map fun os=>(r',cG H1 sel (os.take sel.length)++os.drop sel.length)
def qW(H1:aj)(sel:List Nat)(p:D×aj):Option (D×aj):=
 if sel.isEmpty&&p.2.isEmpty&&nC p.1 then some (p.1,H)else AA H1 H.length sel p
def Py(args:List D)(H1:aj)(sel:List Nat)(hs:aj):Option (D×aj):=(call raw f args hs).bind (qW H H1 sel)
def Pz(args:List D)(H1:aj)(sel:List Nat)(hs:aj):Option (D×aj):=(bQ (ga (idxOf sel)) hs).bind (Py H call f raw args H1 sel)
def PA(H1:aj)(sel:List Nat)(args:List D):Option (D×aj):=(pick H1 sel).bind (Pz H call f raw args H1 sel)
def PB(args:List D)(sel:List Nat):Option (D×aj):=(bQ (ren (idxOf sel) depth) args).bind (PA H call f raw (pins H (b8 H keep 0 ds)) sel)
def xg(n:Nat)(cs:List D):List Nat:=cs.flatMap (ids n)
def PC(args:List D):Option (D×aj):=PB H call f raw keep ds args (reach H 3 (eM [] (xg 8 args)))
def IC:Option (D×aj):=(nE H keep 0 ds).bind (PC H call f raw keep ds)
theorem K6:F9 H call f raw keep ds=IC H call f raw keep ds:=(rfl)
@[go_sem] theorem K7 : IC H call f raw keep ds = (nE H keep 0 ds).bind (PC H call f raw keep ds) := (rfl)
@[go_sem] theorem K8 (args : List D) : PC H call f raw keep ds args = PB H call f raw keep ds args (reach H 3 (eM [] (xg 8 args))) := (rfl)
@[go_sem] theorem K9 (args : List D) (sel : List Nat) : PB H call f raw keep ds args sel = (bQ (ren (idxOf sel) 8) args).bind (PA H call f raw (pins H (b8 H keep 0 ds)) sel) := (rfl)
@[go_sem] theorem La (H1 : aj) (sel : List Nat) (args : List D) : PA H call f raw H1 sel args = (pick H1 sel).bind (Pz H call f raw args H1 sel) := (rfl)
@[go_sem] theorem Lb (args : List D) (H1 : aj) (sel : List Nat) (hs : aj) : Pz H call f raw args H1 sel hs = (bQ (ga (idxOf sel)) hs).bind (Py H call f raw args H1 sel) := (rfl)
@[go_sem] theorem Lc (args : List D) (H1 : aj) (sel : List Nat) (hs : aj) : Py H call f raw args H1 sel hs = (call raw f args hs).bind (qW H H1 sel) := (rfl)
def Ld(H1:aj)(sel:List Nat)(r:D)(os:aj):Option (D×aj):=some (r,cG H1 sel (os.take sel.length)++os.drop sel.length)
@[go_sem] theorem Le (H1 : aj) (sel : List Nat) (r : D) (os : aj) : Ld H1 sel r os = some (r, cG H1 sel (os.take sel.length) ++ os.drop sel.length) := (rfl)
def PD(H1:aj)(n:Nat)(sel:List Nat)(os:aj)(r:D):Option (D×aj):=(bQ (ga (dP sel n)) os).bind (Ld H1 sel r)
@[go_sem] theorem E5 (H1 : aj) (n : Nat) (sel : List Nat) (os : aj) (r : D) : PD H1 n sel os r = (bQ (ga (dP sel n)) os).bind (Ld H1 sel r) := (rfl)
@[go_sem] theorem E6 (H1 : aj) (n : Nat) (sel : List Nat) (r : D) (os : aj) : AA H1 n sel (r, os) = (ren (dP sel n) 8 r).bind (PD H1 n sel os) := by
 simp only[AA,depth]
 cases ren (dP sel n) 8 r with
 | none=>rfl
 | some r'=>simp only[aLq,PD];cases bQ (ga (dP sel n)) os<;>rfl
@[go_sem] theorem WZ (H1 : aj) (i : Nat) (sel : List Nat) (p : D × aj) : qW H H1 (i :: sel) p = AA H1 H.length (i :: sel) p := (rfl)
@[go_sem] theorem ZW (H1 : aj) (sel : List Nat) (r : D) (o : Obj) (os : aj) : qW H H1 sel (r, o :: os) = AA H1 H.length sel (r, o :: os) := by
 simp[qW]
@[go_sem] theorem acD (H1 : aj) (k : IntKind) (n : Int) : qW H H1 [] (.t (.int k n), []) = some (.t (.int k n), H) := (rfl)
@[go_sem] theorem acE (H1 : aj) (b : Bool) : qW H H1 [] (.t (.bool b), []) = some (.t (.bool b), H) := (rfl)
@[go_sem] theorem ZX (H1 : aj) (es : List T) : qW H H1 [] (.t (.sl es), []) = some (.t (.sl es), H1) := by simp [qW, AA, nC, T.scalar, ren, depth, bQ, cG]
@[go_sem] theorem W4 (H1 : aj) (es : List T) : qW H H1 [] (.t (.agg es), []) = some (.t (.agg es), H1) := by simp [qW, AA, nC, T.scalar, ren, depth, bQ, cG]
@[go_sem] theorem W5 (H1 : aj) (ds : List D) : qW H H1 [] (.tup ds, []) = if ds.all kt then some (.tup ds, H) else AA H1 H.length [] (.tup ds, []) := by
 simp[qW,nC]
def PE:Option (List T)→Option (D×aj)
 | some ts=>(call raw f (ts.map .t) []).bind (xf H)
 | none=>IC H call f raw [] ds
@[go_sem] theorem Ta (ts : List T) : PE H call f raw ds (some ts) = (call raw f (ts.map .t) []).bind (xf H) := (rfl)
@[go_sem] theorem Tb : PE H call f raw ds none = IC H call f raw [] ds := (rfl)
@[go_sem] theorem acF : F9 H call f raw [] ds = PE H call f raw ds (lI H ds) := by
 cases h:lI H ds with
 | none=>rfl
 | some ts=>exact IA H call f raw ds ts h
@[go_sem] theorem aef (k : Nat) : F9 H call f raw (k :: keep) ds = IC H call f raw (k :: keep) ds := (rfl)
end
section
variable (H : aj) (keep : List Nat)
@[go_sem] theorem W6 (i : Nat) : nE H keep i [] = some [] := (rfl)
def CZ(i:Nat):List Nat→Bool
 | []=>false
 | j::r=>eqB i j||CZ i r
@[go_sem] theorem ZY (i : Nat) : CZ i [] = false := (rfl)
@[go_sem] theorem W7 (i j : Nat) (r : List Nat) : CZ i (j :: r) = (eqB i j || CZ i r) := (rfl)
theorem AB(i:Nat)(l:List Nat):l.contains i=CZ i l:=by
 induction l with
 | nil=>rfl
 | cons j r ih=>rw[List.contains_cons,ih];simp only[CZ,DD];rw[beq_eq_decide_nat]
where beq_eq_decide_nat {a b:Nat}:(a==b)=decide (a=b):=by rw[Bool.eq_iff_iff];simp
def acG(d:D):Bool→Option D
 | true=>some d
 | false=>qK H d
@[go_sem] theorem aeg (d : D) : acG H d true = some d := (rfl)
@[go_sem] theorem MI (d : D) : acG H d false = qK H d := (rfl)
def aeh(i:Nat)(r:List D)(x:D):Option (List D):=kD x (nE H keep (i+1) r)
@[go_sem] theorem ID (i : Nat) (r : List D) (x : D) : aeh H keep i r x = kD x (nE H keep (i + 1) r) := (rfl)
@[go_sem] theorem zI (i : Nat) (d : D) (r : List D) : nE H keep i (d :: r) = (acG H d (CZ i keep)).bind (aeh H keep i r) := by
 simp only[nE,AB]
 cases CZ i keep<;>rfl
@[go_sem] theorem JW (i : Nat) : b8 H keep i [] = [] := (rfl)
def frK(l:List Nat):Bool→List Nat
 | true=>[]
 | false=>l
@[go_sem] theorem afp (l : List Nat) : frK l true = [] := (rfl)
@[go_sem] theorem W8 (l : List Nat) : frK l false = l := (rfl)
@[go_sem] theorem o7 (i : Nat) (d : D) (r : List D) : b8 H keep i (d :: r) = frK (fU H 8 d) (CZ i keep) ++ b8 H keep (i + 1) r := by
 simp only[b8,AB]
 cases CZ i keep<;>rfl
@[go_sem] theorem ZZ (H : aj) : pins H [] = H := (rfl)
@[go_sem] theorem W9 (H : aj) (i : Nat) (r : List Nat) : pins H (i :: r) = pins (H.modify i CV) r := (rfl)
def DF(i:Nat):Option Obj→aj
 | some (.arr sz _ ep es)=>H.set i (.arr sz true ep es)
 | _=>H
@[go_sem] theorem Xa (i : Nat) (cs : List D) : DF H i (some (.box cs)) = H := (rfl)
@[go_sem] theorem Xb (i sz ep : Nat) (pin : Bool) (es : List D) : DF H i (some (.arr sz pin ep es)) = H.set i (.arr sz true ep es) := (rfl)
theorem Lf{α:Type}{l:List α}{i:Nat}{x:α}(h:l[i]?=some x):l.set i x=l:=by
 apply List.ext_getElem?
 intro j
 rw[List.getElem?_set]
 split
 · rename_i e;subst e
   split
   · exact h.symm
   · rename_i hl;rw[aLm (by omega)]at h;cases h
 · rfl
@[go_sem] theorem Tc (i : Nat) : List.modify H i CV = DF H i H[i]? := by
 apply List.ext_getElem?
 intro j
 rw[List.getElem?_modify]
 cases h:H[i]? with
 | none=>
   simp only[DF]
   by_cases e:i=j
   · subst e;rw[h];simp
   · simp[e]
 | some o=>
   have hi:i<H.length:=(aLe.1 h).1
   cases o with
   | box cs=>
     simp only[DF]
     by_cases e:i=j
     · subst e;rw[h];simp[CV]
     · simp[e]
   | arr sz pin ep es=>
     simp only[DF]
     rw[List.getElem?_set]
     by_cases e:i=j
     · subst e;rw[h];simp[CV,hi]
     · simp[e]
   | own ep=>
     simp only[DF]
     by_cases e:i=j
     · subst e;rw[h];simp[CV]
     · simp[e]
section
variable (n : Nat)
@[go_sem] theorem afq (x : T) : ids n (.t x) = [] := by cases n <;> rfl
@[go_sem] theorem acH : ids n .nil = [] := by cases n <;> rfl
@[go_sem] theorem Z0 : ids n .nilp = [] := by cases n <;> rfl
@[go_sem] theorem acI : ids n .und = [] := by cases n <;> rfl
@[go_sem] theorem aei (cs : List T) : ids n (.ep cs) = [] := by cases n <;> rfl
@[go_sem] theorem Xc (id off : Nat) : ids n (.bp id off) = [id] := by cases n <;> rfl
@[go_sem] theorem aej (id ep m i off : Nat) : ids n (.ap id ep m i off) = [id] := by cases n <;> rfl
@[go_sem] theorem acJ (id ep m : Nat) : ids n (.ref id ep m) = [id] := by cases n <;> rfl
@[go_sem] theorem acK (id ep m lo hi : Nat) : ids n (.sub id ep m lo hi) = [id] := by cases n <;> rfl
@[go_sem] theorem acL (cs : List D) : ids (n + 1) (.agg cs) = xg n cs := (rfl)
@[go_sem] theorem acM (cs : List D) : ids (n + 1) (.tup cs) = xg n cs := (rfl)
@[go_sem] theorem Xd (f : Nat) (cs : List D) : ids (n + 1) (.fn f cs) = xg n cs := (rfl)
@[go_sem] theorem Lg : xg n [] = [] := (rfl)
@[go_sem] theorem IE (d : D) (r : List D) : xg n (d :: r) = ids n d ++ xg n r := (rfl)
@[go_sem] theorem E7 (ts : List T) : xg n (ts.map .t) = [] := Iz ts n
@[go_sem] theorem E8 (a b : List D) : xg n (a ++ b) = xg n a ++ xg n b := by simp [xg]
@[go_sem] theorem Z1 (m : Nat) (x : T) : xg n (List.replicate m (.t x)) = [] := by
 have:List.replicate m (D.t x)=(List.replicate m x).map .t:=by simp
 rw[this,E7]
end
def IF(sel:List Nat)(i:Nat):Bool→List Nat
 | true=>sel
 | false=>sel++[i]
@[go_sem] theorem Z2 (sel : List Nat) (i : Nat) : IF sel i true = sel := (rfl)
@[go_sem] theorem Z3 (sel : List Nat) (i : Nat) : IF sel i false = sel ++ [i] := (rfl)
@[go_sem] theorem Td (sel : List Nat) : eM sel [] = sel := (rfl)
@[go_sem] theorem PF (sel : List Nat) (i : Nat) (r : List Nat) : eM sel (i :: r) = eM (IF sel i (CZ i sel)) r := by
 simp only[eM,AB]
 cases CZ i sel<;>rfl
def B8:Option Obj→List Nat
 | some (.box cs)=>xg 8 cs
 | some (.arr _ _ _ es)=>xg 8 es
 | some (.own _)=>[]
 | none=>[]
@[go_sem] theorem Te (cs : List D) : B8 (some (.box cs)) = xg 8 cs := (rfl)
@[go_sem] theorem Tf (ep : Nat) : B8 (some (.own ep)) = [] := (rfl)
@[go_sem] theorem Tg (sz ep : Nat) (pin : Bool) (es : List D) : B8 (some (.arr sz pin ep es)) = xg 8 es := (rfl)
@[go_sem] theorem Xe : oT H [] = [] := (rfl)
@[go_sem] theorem Th (i : Nat) (r : List Nat) : oT H (i :: r) = B8 H[i]? ++ oT H r := by
 simp only[oT,List.flatMap_cons]
 congr 1
 cases H[i]? with
 | none=>rfl
 | some o=>cases o<;>rfl
@[go_sem] theorem acN (sel : List Nat) : reach H 0 sel = sel := (rfl)
@[go_sem] theorem acO (n : Nat) (sel : List Nat) : reach H (n + 1) sel = reach H n (eM sel (oT H sel)) := (rfl)
@[go_sem] theorem Z4 : pick H [] = some [] := (rfl)
def Xf(r:List Nat)(o:Obj):Option aj:=kD o (pick H r)
@[go_sem] theorem Lh (r : List Nat) (o : Obj) : Xf H r o = kD o (pick H r) := (rfl)
@[go_sem] theorem IG (i : Nat) (r : List Nat) : pick H (i :: r) = H[i]?.bind (Xf H r) := (rfl)
end
section
variable (f : Nat → Option Nat) (n : Nat)
@[go_sem] theorem acP (x : T) : ren f n (.t x) = some (.t x) := by cases n <;> rfl
@[go_sem] theorem acQ : ren f n .nil = some .nil := by cases n <;> rfl
@[go_sem] theorem Z5 : ren f n .nilp = some .nilp := by cases n <;> rfl
@[go_sem] theorem acR : ren f n .und = some .und := by cases n <;> rfl
@[go_sem] theorem aek (cs : List T) : ren f n (.ep cs) = some (.ep cs) := by cases n <;> rfl
def ael(off:Nat)(i:Nat):D:= .bp i off
@[go_sem] theorem acS (off i : Nat) : ael off i = .bp i off := (rfl)
@[go_sem] theorem Xg (id off : Nat) : ren f n (.bp id off) = (f id).map (ael off) := by cases n <;> rfl
def aem(ep m i off:Nat)(j:Nat):D:= .ap j ep m i off
@[go_sem] theorem acT (ep m i off j : Nat) : aem ep m i off j = .ap j ep m i off := (rfl)
@[go_sem] theorem aen (id ep m i off : Nat) : ren f n (.ap id ep m i off) = (f id).map (aem ep m i off) := by cases n <;> rfl
def Xh(ep m:Nat)(j:Nat):D:= .ref j ep m
@[go_sem] theorem Z6 (ep m j : Nat) : Xh ep m j = .ref j ep m := (rfl)
@[go_sem] theorem acU (id ep m : Nat) : ren f n (.ref id ep m) = (f id).map (Xh ep m) := by cases n <;> rfl
def Xi(ep m lo hi:Nat)(j:Nat):D:= .sub j ep m lo hi
@[go_sem] theorem Z7 (ep m lo hi j : Nat) : Xi ep m lo hi j = .sub j ep m lo hi := (rfl)
@[go_sem] theorem acV (id ep m lo hi : Nat) : ren f n (.sub id ep m lo hi) = (f id).map (Xi ep m lo hi) := by cases n <;> rfl
@[go_sem] theorem Xj (g : Nat) (cs : List D) : ren f (n + 1) (.fn g cs) = (bQ (ren f n) cs).map (.fn g) := (rfl)
@[go_sem] theorem acW (cs : List D) : ren f (n + 1) (.agg cs) = (bQ (ren f n) cs).map .agg := (rfl)
@[go_sem] theorem acX (cs : List D) : ren f (n + 1) (.tup cs) = (bQ (ren f n) cs).map .tup := (rfl)
@[go_sem] theorem pX (ts : List T) : bQ (ren f n) (ts.map .t) = some (ts.map .t) := by
 induction ts with
 | nil=>rfl
 | cons t ts ih=>rw[List.map_cons,B4,acP,aLq,O4,ih];rfl
@[go_sem] theorem MJ (m : Nat) (x : T) : bQ (ren f n) (List.replicate m (.t x)) = some (List.replicate m (.t x)) := by
 have:List.replicate m (D.t x)=(List.replicate m x).map .t:=by simp
 rw[this,pX]
@[go_sem] theorem Gd (cs : List D) : ga f (.box cs) = (bQ (ren f 8) cs).map .box := (rfl)
@[go_sem] theorem Ti (sz ep : Nat) (pin : Bool) (es : List D) : ga f (.arr sz pin ep es) = (bQ (ren f 8) es).map (.arr sz pin ep) := (rfl)
end
def Tj(x:Option Nat):Bool→Option Nat
 | true=>some 0
 | false=>x.map (· +1)
@[go_sem] theorem aeo (x : Option Nat) : Tj x true = some 0 := (rfl)
@[go_sem] theorem aep (k : Nat) : Tj (some k) false = some (k + 1) := (rfl)
@[go_sem] theorem aeq : Tj none false = none := (rfl)
@[go_sem] theorem idxOf_nil (i : Nat) : idxOf [] i = none := (rfl)
@[go_sem] theorem idxOf_cons (j i : Nat) (r : List Nat) : idxOf (j :: r) i = Tj (idxOf r i) (eqB j i) := by
 simp only[idxOf,DD]
 by_cases h:j=i
 · simp[h,Tj]
 · simp[h,Tj]
@[go_sem] theorem Tk (n i : Nat) : dP [] n i = some (n + i) := by simp [dP]
@[go_sem] theorem Z8 (j n : Nat) (r : List Nat) : dP (j :: r) n 0 = some j := by simp [dP]
@[go_sem] theorem Z9 (j n i : Nat) (r : List Nat) : dP (j :: r) n (i + 1) = dP r n i := by
 simp only[dP,List.length_cons,Nat.add_lt_add_iff_right,List.getElem?_cons_succ,Nat.add_sub_add_right]
@[go_sem] theorem PG {α : Type} (H os : List α) : cG H [] os = H := by cases os <;> rfl
@[go_sem] theorem MK {α : Type} (H : List α) (i : Nat) (r : List Nat) (o : α) (os : List α) : cG H (i :: r) (o :: os) = cG (H.set i o) r os := (rfl)
def lbP(sz:Nat)(p:List D×aj):List D×aj:=(p.1,.arr sz false 0 []::p.2)
@[go_sem] theorem aer (sz : Nat) (cs : List D) (os : aj) : lbP sz (cs, os) = (cs, .arr sz false 0 [] :: os) := (rfl)
def lbC(base:Nat)(cs:List D)(off sz:Nat)(r:List (Nat×Nat)):Option D→List D×aj
 | some .nil=>lbP sz (bI (base+1) (cs.set off (.ref base 0 0)) r)
 | _=>bI base cs r
@[go_sem] theorem acY (base : Nat) (cs : List D) (off sz : Nat) (r : List (Nat × Nat)) : lbC base cs off sz r (some .nil) = lbP sz (bI (base + 1) (cs.set off (.ref base 0 0)) r) := (rfl)
@[go_sem] theorem afr (base : Nat) (cs : List D) (off sz : Nat) (r : List (Nat × Nat)) (x : T) : lbC base cs off sz r (some (.t x)) = bI base cs r := (rfl)
@[go_sem] theorem acZ (base : Nat) (cs : List D) (off sz : Nat) (r : List (Nat × Nat)) (a b c : Nat) : lbC base cs off sz r (some (.ref a b c)) = bI base cs r := (rfl)
@[go_sem] theorem ML (base : Nat) (cs : List D) (off sz : Nat) (r : List (Nat × Nat)) : bI base cs ((off, sz) :: r) = lbC base cs off sz r cs[off]? := by
 simp only[bI,lbC]
 split<;>split<;>simp_all [lbP]
def lvP(H:aj)(id:Nat)(p:List D×aj):Option (D×aj):=some (.tup [],H.set id (.box p.1)++p.2)
@[go_sem] theorem aes (H : aj) (id : Nat) (cs : List D) (os : aj) : lvP H id (cs, os) = some (.tup [], H.set id (.box cs) ++ os) := (rfl)
def lvB(H:aj)(id:Nat)(l:List (Nat×Nat)):Option Obj→Option (D×aj)
 | some (.box cs)=>lvP H id (bI H.length cs l)
 | _=>none
@[go_sem] theorem aet (H : aj) (id : Nat) (l : List (Nat × Nat)) (cs : List D) : lvB H id l (some (.box cs)) = lvP H id (bI H.length cs l) := (rfl)
@[go_sem] theorem PH (H : aj) (id : Nat) (x : Nat × Nat) (r : List (Nat × Nat)) : zG H id (x :: r) = lvB H id (x :: r) H[id]? := by
 simp only[zG,nF]
 generalize H[id]?=o
 rcases o with _ | (cs | _ | _)
 rotate_right
 · rfl
 · rfl
 · rfl
 · rfl
section
variable (H : aj)
def klE(n:Nat)(sel new:List Nat)(os:aj)(q:List Nat×aj):Option (List Nat×aj):=some (new++q.1,os++q.2)
@[go_sem] theorem aeu (n : Nat) (sel new : List Nat) (os : aj) (a : List Nat) (b : aj) : klE n sel new os (a, b) = some (new ++ a, os ++ b) := (rfl)
def klD(n:Nat)(sel new:List Nat)(os:aj):Option (List Nat×aj):=(ml H n (sel++new) (oT H new)).bind (klE n sel new os)
@[go_sem] theorem aev (n : Nat) (sel new : List Nat) (os : aj) : klD H n sel new os = (ml H n (sel ++ new) (oT H new)).bind (klE n sel new os) := (rfl)
def uL(sel:List Nat):List Nat→Bool
 | []=>true
 | i::r=> !CZ i sel&&uL sel r
@[go_sem] theorem Tl (sel : List Nat) : uL sel [] = true := (rfl)
@[go_sem] theorem PI (sel : List Nat) (i : Nat) (r : List Nat) : uL sel (i :: r) = (!CZ i sel && uL sel r) := (rfl)
theorem B9(sel l:List Nat):l.all (fun i=> !sel.contains i)=uL sel l:=by
 induction l with
 | nil=>rfl
 | cons i r ih=>rw[List.all_cons,ih,AB];rfl
def klC(n:Nat)(sel new:List Nat)(os:aj):Option (List Nat×aj):=
 (if n=0 then(if(os.flatMap fun o=>o.ds.flatMap (fU H depth)).all (fun i=> !(sel++new).contains i)then bQ (dA H) os else none)else some os).bind (klD H n sel new)
def oc:aj→List Nat
 | []=>[]
 | .box cs::r=>qa H 8 cs++oc r
 | .arr _ _ _ es::r=>qa H 8 es++oc r
 | .own _::r=>oc r
@[go_sem] theorem Tm : oc H [] = [] := (rfl)
@[go_sem] theorem Tn (cs : List D) (r : aj) : oc H (.box cs :: r) = qa H 8 cs ++ oc H r := (rfl)
@[go_sem] theorem To (ep : Nat) (r : aj) : oc H (.own ep :: r) = oc H r := (rfl)
@[go_sem] theorem Tp (sz ep : Nat) (pin : Bool) (es : List D) (r : aj) : oc H (.arr sz pin ep es :: r) = qa H 8 es ++ oc H r := (rfl)
theorem IH(os:aj):(os.flatMap fun o=>o.ds.flatMap (fU H depth))=oc H os:=by
 induction os with
 | nil=>rfl
 | cons o r ih=>rw[List.flatMap_cons,ih];cases o<;>rfl
@[go_sem] theorem afs (sel new : List Nat) (os : aj) : klC H 0 sel new os = (if uL (sel ++ new) (oc H os) = true then bQ (dA H) os else none).bind (klD H 0 sel new) := by
 simp only[klC,IH,B9,if_true]
@[go_sem] theorem afu (n : Nat) (sel new : List Nat) (os : aj) : klC H (n + 1) sel new os = klD H (n + 1) sel new os := by
 simp[klC]
def klN(n:Nat)(sel new:List Nat):Option (List Nat×aj):=(pick H new).bind (klC H n sel new)
@[go_sem] theorem aew (n : Nat) (sel new : List Nat) : klN H n sel new = (pick H new).bind (klC H n sel new) := (rfl)
@[go_sem] theorem aaa (sel front : List Nat) : ml H 0 sel front = some ([], []) := (rfl)
@[go_sem] theorem aab (n : Nat) (sel front : List Nat) : ml H (n + 1) sel front = klN H n sel ((eM sel front).drop sel.length) := by
 simp only[ml,klN]
 generalize (eM sel front).drop sel.length=new
 cases pick H new with
 | none=>rfl
 | some os=>
   simp only[aLq,klC]
   congr 1
   funext os'
   simp only[klD]
   cases ml H n (sel++new) (oT H new)<;>rfl
@[go_sem] theorem Li (cs : List D) : dA H (.box cs) = (bQ (qK H) cs).map .box := (rfl)
@[go_sem] theorem AD (sz ep : Nat) (pin : Bool) (ts : List T) : dA H (.arr sz pin ep (ts.map .t)) = some (.arr sz pin ep (ts.map .t)) := by
 simp only[dA,r6,aLw]
@[go_sem] theorem Lj (sz ep : Nat) (pin : Bool) : dA H (.arr sz pin ep []) = some (.arr sz pin ep []) := (rfl)
@[go_sem] theorem Lk (sz ep : Nat) (pin : Bool) (m : Nat) (x : T) : dA H (.arr sz pin ep (List.replicate m (.t x))) = some (.arr sz pin ep (List.replicate m (.t x))) := by
 have:List.replicate m (D.t x)=(List.replicate m x).map .t:=by simp
 rw[this,AD]
def ac0(k raw:Nat)(H:aj)(ds rs:List D)(q:List Nat×aj):Option (D×aj):=
 if uL (List.range k++q.1) (jl H raw ds)=true then
  (bQ (ren (idxOf (List.range k++q.1)) depth) rs).bind fun rs'=>(bQ (ga (idxOf (List.range k++q.1))) (H.take k++q.2)).map fun hs'=>(vu rs',hs')
 else none
def II(sel:List Nat)(H2:aj)(rs':List D):Option (D×aj):=(bQ (ga (idxOf sel)) H2).bind (finT3 rs')
where finT3 (rs':List D) (hs:aj):Option (D×aj):=some (vu rs',hs)
@[go_sem] theorem aac (rs' : List D) (hs : aj) : II.finT3 rs' hs = some (vu rs', hs) := (rfl)
@[go_sem] theorem aad (sel : List Nat) (H2 : aj) (rs' : List D) : II sel H2 rs' = (bQ (ga (idxOf sel)) H2).bind (II.finT3 rs') := (rfl)
@[go_sem] theorem ac1 (k raw : Nat) (ds rs : List D) (sel : List Nat) (os : aj) : ac0 k raw H ds rs (sel, os) =
 if uL (List.range k++sel) (jl H raw ds)=true then(bQ (ren (idxOf (List.range k++sel)) 8) rs).bind (II (List.range k++sel) (H.take k++os))else none:=by
 simp only[ac0,depth]
 split
 · cases bQ (ren (idxOf (List.range k++sel)) 8) rs with
   | none=>rfl
   | some rs'=>simp only[aLq,II];cases bQ (ga (idxOf (List.range k++sel))) (H.take k++os)<;>rfl
 · rfl
@[go_sem] theorem ac2 (k raw : Nat) (ds rs : List D) : ZV k raw H ds rs = (ml H (max raw 1) (List.range k) (xg 8 rs ++ oT H (List.range k))).bind (ac0 k raw H ds rs) := by
 simp only[ZV,B9,xg,depth];rfl
@[go_sem] theorem Tq (k raw : Nat) (ds rs : List D) : S8 k raw H ds rs false = ZV k raw H ds rs := (rfl)
@[go_sem] theorem Ts (k raw : Nat) (ds : List D) : finish k (raw + 1) H ds = WV k (raw + 1) H ds ds := by
 simp only[finish,Nat.add_one_ne_zero,if_false,aLq,lK,E4,WV,S8]
 show(if(fW k 8 ds&&dC k (H.take k))=true then _ else _)=_
 cases (fW k 8 ds&&dC k (H.take k))<;>rfl
@[go_sem] theorem PJ (raw : Nat) (ds : List D) : jl H (raw + 1) ds = [] := by simp [jl]
@[go_sem] theorem aae : max 0 1 = 1 := (rfl)
@[go_sem] theorem ac3 (r : Nat) : max (r + 1) 1 = r + 1 := by omega
@[go_sem] theorem Tt : List.range 0 = [] := (rfl)
@[go_sem] theorem Tu : List.range 1 = [0] := (rfl)
@[go_sem] theorem Tv : List.range 2 = [0, 1] := (rfl)
@[go_sem] theorem Tw : List.range 3 = [0, 1, 2] := (rfl)
@[go_sem] theorem Tx : List.range 4 = [0, 1, 2, 3] := (rfl)
end
theorem E9{α:Type}(f:α→T)(l:List α)(i:Nat)(x:α)(y:D)(h:y= .t (f x)):((l.map f).map D.t).set i y=((l.set i x).map f).map D.t:=by
 rw[h,List.map_map,List.map_map]
 exact(List.map_set (f:=D.t ∘ f)).symm
@[go_sem] theorem ac4 (l : List Int) (i : Nat) (k : IntKind) (x : Int) : ((l.map (T.int k)).map D.t).set i (.t (.int k x)) = ((l.set i x).map (T.int k)).map D.t := E9 _ l i x _ rfl
@[go_sem] theorem aaf (l : List Bool) (i : Nat) (x : Bool) : ((l.map T.bool).map D.t).set i (.t (.bool x)) = ((l.set i x).map T.bool).map D.t := E9 _ l i x _ rfl
end Go.Ev
namespace Go.Ev
class Lib where
 fs:Nat→Option Fn
end Go.Ev
namespace Go.Ev.K
abbrev u(x:O):R:={ o:=x}
abbrev w(n:Nat)(x:O):R:={ o:=x,d:=some n}
abbrev y(n:Nat)(b:Bool)(x:O):R:={ o:=x,g:=some (n,b)}
abbrev m(x:X):R:={ o:= .mv x}
abbrev g(x:X):R:={ o:= .ld x 1 false}
abbrev h(n:Nat)(x:X):R:={ o:= .ld x n true}
abbrev f(n:Nat)(x:X):R:={ o:= .fa x n}
abbrev a(n:Nat)(x z:X):R:={ o:= .ia x z n}
abbrev l0:X:= .l 0
abbrev l1:X:= .l 1
abbrev l2:X:= .l 2
abbrev l3:X:= .l 3
abbrev l4:X:= .l 4
abbrev l5:X:= .l 5
abbrev l6:X:= .l 6
abbrev l7:X:= .l 7
abbrev l8:X:= .l 8
abbrev l9:X:= .l 9
abbrev l10:X:= .l 10
abbrev l11:X:= .l 11
abbrev v0:X:= .v 0
abbrev v1:X:= .v 1
abbrev v2:X:= .v 2
abbrev v3:X:= .v 3
abbrev v4:X:= .v 4
abbrev v5:X:= .v 5
abbrev v6:X:= .v 6
abbrev v7:X:= .v 7
abbrev v8:X:= .v 8
abbrev v9:X:= .v 9
abbrev v10:X:= .v 10
abbrev v11:X:= .v 11
abbrev v12:X:= .v 12
abbrev v13:X:= .v 13
abbrev v14:X:= .v 14
abbrev v15:X:= .v 15
abbrev v16:X:= .v 16
abbrev v17:X:= .v 17
abbrev v18:X:= .v 18
abbrev v19:X:= .v 19
abbrev v20:X:= .v 20
abbrev v21:X:= .v 21
abbrev v22:X:= .v 22
abbrev v23:X:= .v 23
end Go.Ev.K
namespace Go.Ev.K
abbrev q(a:List R)(p:List (Nat×Nat))(c:C):C:= .seq (.reg a p) c
abbrev z0:D:= .t (.int .i64 (0))
abbrev z1:D:= .t (.bool false)
abbrev x(n:Nat)(z:X):R:={ o:= .mv z,d:=some n}
abbrev e(n:Nat)(b:Bool)(z:X):R:={ o:= .mv z,g:=some (n,b)}
abbrev i(n:Nat)(b:Bool)(z:X):R:={ o:= .ld z 1 false,g:=some (n,b)}
end Go.Ev.K
namespace Go.Ev.N
def DG:Nat:=0
def gN:Nat:=1
def PL:Nat:=2
def jc:Nat:=3
def b6:Nat:=4
def Ty:Nat:=5
def G8:Nat:=6
def bV:Nat:=7
def G9:Nat:=8
def bc:Nat:=9
def bR:Nat:=10
def Ge:Nat:=11
def Xk:Nat:=12
def JX:Nat:=13
def IJ:Nat:=14
def cC:Nat:=15
def JY:Nat:=16
def PM:Nat:=17
def MM:Nat:=18
def PN:Nat:=19
def JZ:Nat:=20
def Xl:Nat:=21
def MN:Nat:=22
def ji:Nat:=23
def MO:Nat:=24
def IK:Nat:=25
def J0:Nat:=26
def J1:Nat:=27
def PO:Nat:=28
def PQ:Nat:=29
def Xm:Nat:=30
def PR:Nat:=31
def Tz:Nat:=32
def PS:Nat:=33
def MP:Nat:=34
def MQ:Nat:=35
def PT:Nat:=36
def TA:Nat:=37
def PU:Nat:=38
def IL:Nat:=39
def TD:Nat:=40
def PV:Nat:=41
def TE:Nat:=42
def PW:Nat:=43
def MR:Nat:=44
def Xn:Nat:=45
def MS:Nat:=46
def dr:Nat:=47
def J2:Nat:=48
def ai:Nat:=49
def Gf:Nat:=50
def aK:Nat:=51
def Hc:Nat:=52
def dv:Nat:=53
def TF:Nat:=54
def TG:Nat:=55
def MT:Nat:=56
def PX:Nat:=57
def PY:Nat:=58
def TH:Nat:=59
def PZ:Nat:=60
def TI:Nat:=61
def J3:Nat:=62
def TJ:Nat:=63
def P0:Nat:=64
def P1:Nat:=65
def bh:Nat:=66
def bB:Nat:=67
def di:Nat:=68
def aB:Nat:=69
def ck:Nat:=70
def aS:Nat:=71
def P2:Nat:=72
def P3:Nat:=73
def TK:Nat:=74
def aQ:Nat:=75
def MU:Nat:=76
def TL:Nat:=77
end Go.Ev.N
namespace Go.Ev.K
open Go.Ev
def gN:Fn:= { av:=1,vars:=[0,2],body:=(q [x 1 (.b false)] [] (q [m v0,u (.ln l0),u (.bin .leq l0 (.i 400)),x 1 l0] [] .ret)),res:=[(1,none)]}
def jc:Fn:= { av:=1,vars:=[0,2],body:=(q [w 1 (.mv (.c (.nilp)))] [] (q [m v0,u (.bd [.nil,z0] [(0,1,.l 0)]),u (.bx l0 2),x 1 l0] [] .ret)),res:=[(1,none)]}
def gV:C:= (.seq (.ite [m v4,m v3,u (.bin .lss l1 l0)] [] 0 .skip (.exit 0)) (.seq (.blk 1 (.reg [f 0 v2,g l0,m v0,u (.ca N.bc 0 [] [.l 0,.i 4]),u (.bin .mul (.i (-10)) l0),m v4,u (.bin .eql l0 (.i 0)),m l0,e 0 false v0,y 1 false (.ca N.cC 0 [] [.l 0,.i 6]),u (.pk l2 (.b true) l0),u (.bd [z0,z1] [(0,1,.l 6),(1,1,.l 0)]),u (.bs [.l 0] 2),u (.app l11 l0 true 2),f 0 v2,u (.st l0 l1 1 [])] [(1,4),(1,10),(1,13)])) (.reg [m v4,u (.bin .add l0 (.i 1)),x 4 l0] [])))
def mY:C:= .loop true [5,6,7,8,9] K.gV
def jY:C:= (.seq (.ite [m v6,m v3,u (.bin .lss l1 l0)] [] 0 .skip (.exit 2)) (.seq (.blk 3 (q [h 10 v5,w 7 (.al [z0,z0,z0,z0,z1,z1,z0,z0,z0,z0] []),u (.st l0 l1 10 [])] [] (q [m v6,u (.bin .sub l0 (.i 1)),m v0,m v6,u (.mn [.l 0,.i 2]),u (.ca N.bc 0 [] [.l 2,.l 0]),u (.bin .sub l4 l0),m v6,m v0,u (.bs [.i 11,.i 59,.i 119,.i 4] 1),u (.ca N.bR 0 [] [.l 1,.l 0]),u (.bin .add (.i 1) l0),m v0,u (.bs [.i 9,.i 3,.i 19] 1),u (.ca N.bR 0 [] [.l 1,.l 0]),u (.bin .add (.i 1) l0),f 0 v7,u (.st l0 l10 1 []),f 1 v7,u (.st l0 l11 1 []),f 2 v7,u (.st l0 l9 1 []),f 3 v7,u (.st l0 l7 1 [])] [] (.reg [f 1 v2,g l0,h 10 v7,u (.bs [.l 0] 10),u (.app l2 l0 true 10),f 1 v2,u (.st l0 l1 1 [])] [])))) (.reg [m v6,u (.bin .add l0 (.i 1)),x 6 l0] [])))
def mZ:C:= .loop true [4,7,8,9] K.jY
def cY:C:= (.seq (.ite [m v8,u (.bin .gtr l0 (.i 0)),m l0,y 0 true (.fa v2 1),i 1 true l0,y 2 true (.ln l0),y 3 true (.bin .lss l0 (.i 10)),u (.pk l4 l0 (.b false))] [] 0 .skip (.exit 4)) (.seq (.blk 5 (q [h 10 v5,w 9 (.al [z0,z0,z0,z0,z1,z1,z0,z0,z0,z0] []),u (.st l0 l1 10 [])] [] (q [m v0,m v3,u (.ca N.bc 0 [] [.l 1,.l 0]),m v0,m v3,u (.ca N.bc 0 [] [.l 1,.l 0]),m v0,u (.bs [.i 11,.i 59,.i 199] 1),u (.ca N.bR 0 [] [.l 1,.l 0]),u (.bin .add (.i 1) l0),m v0,u (.bs [.i 9,.i 3] 1),u (.ca N.bR 0 [] [.l 1,.l 0]),u (.bin .add (.i 1) l0),f 0 v9,u (.st l0 (.l 12) 1 []),f 1 v9,u (.st l0 l11 1 []),f 2 v9,u (.st l0 l9 1 []),f 3 v9,u (.st l0 l7 1 [])] [] (q [m v0,u (.ca N.bc 0 [] [.l 0,.i 5]),u (.bin .gtr l0 (.i 0)),m v0,u (.ca N.cC 0 [] [.l 0,.i 6]),f 4 v9,u (.st l0 l3 1 []),f 5 v9,u (.st l0 l3 1 [])] [] (.ite [f 0 v9,g l0,f 1 v9,g l0,u (.bin .neq l2 l0)] [] 0 (.reg [f 1 v2,g l0,h 10 v9,u (.bs [.l 0] 10),u (.app l2 l0 true 10),f 1 v2,u (.st l0 l1 1 [])] []) .skip))))) (.reg [m v8,u (.bin .sub l0 (.i 1)),x 8 l0] [])))
def m0:C:= .loop true [4,6,7,9] K.cY
def b6:Fn:= { av:=1,vars:=[0,2,3,4,5,6,7,8,9,10],body:=(q [w 1 (.al [.nil,.nil] [])] [] (q [w 2 (.al [.nil,.nil] [(0,2),(1,10)])] [] (q [m v0,u (.ca N.bc 0 [] [.l 0,.i 6]),u (.bin .add (.i 2) l0),x 3 l0] [] (.seq (.ite [m v0,u (.nc l0),f 0 l0,g l0,u (.ln l0),u (.bin .eql l0 (.i 0))] [] 0 (.reg [x 3 (.i 4)] []) .skip) (.seq (q [x 4 (.i 0)] [] (.blk 0 K.mY)) (q [u (.bd [z0,z0] [(0,1,.i 1),(1,1,.i 1)]),u (.bd [z0,z0,z0,z0,z1,z1,z0,z0,z0,z0] [(2,1,.i 12),(3,1,.i 10),(4,1,.b true),(6,2,.l 0)]),w 5 (.al [z0,z0,z0,z0,z1,z1,z0,z0,z0,z0] []),u (.st l0 l1 10 [])] [] (.seq (q [x 6 (.i 1)] [] (.blk 2 K.mZ)) (.seq (q [m v0,u (.ca N.bc 0 [] [.l 0,.i 4]),x 8 l0] [] (.blk 4 K.m0)) (q [h 2 v2,u (.st v1 l0 2 [])] [] .ret))))))))),res:=[(1,some (2,true))]}
def eE:C:= (.seq (.ite [m v5,f 1 v2,g l0,u (.ln l0),u (.bin .lss l3 l0)] [] 0 .skip (.exit 0)) (.seq (.blk 1 (q [m v0,u (.bs [.i 0,.i 1000,.i 5000,.i 20000,.i (-5000),.i (-20000),.i 4999,.i 100] 1),u (.ca N.bR 0 [] [.l 1,.l 0]),x 6 l0] [] (q [m v4,m v6,m v0,u (.bs [.i 0,.i 1,.i 1000,.i 6000] 1),u (.ca N.bR 0 [] [.l 1,.l 0]),u (.bin .sub l3 l0),m v6,m v0,u (.bs [.i 0,.i 1,.i 500] 1),u (.ca N.bR 0 [] [.l 1,.l 0]),u (.bin .add l3 l0),u (.bd [z0,z0] [(0,1,.l 5),(1,1,.l 0)]),u (.bs [.l 0] 2),u (.app (.l 12) l0 true 2),x 4 l0] [] (.ite [m v0,u (.ca N.cC 0 [] [.l 0,.i 9])] [] 0 (.reg [m v4,m v5,u (.bd [z0,z0] [(0,1,.i (-1125899906842624)),(1,1,.i 1125899906842624)]),a 2 l2 l1,u (.st l0 l1 2 [])] []) .skip)))) (.reg [m v5,u (.bin .add l0 (.i 1)),x 5 l0] [])))
def mr:C:= .loop true [1,3,6] K.eE
def bV:Fn:= { av:=2,vars:=[0,1,3,4,5,6,7],body:=(q [w 2 (.bx v1 2),w 3 (.mv (.c (.nil)))] [] (q [w 4 (.nw 2)] [] (.seq (q [x 5 (.i 0)] [] (.blk 0 K.mr)) (q [m v4,x 3 l0] [] .ret)))),res:=[(3,none)]}
def bc:Fn:= { av:=2,vars:=[0,1,4],body:=(q [x 2 (.i 0)] [] (.seq (.ite [m v0,u (.nc l0),f 1 l0,g l0,m v0,u (.nc l0),f 0 l0,g l0,u (.ln l0),u (.bin .geq l5 l0)] [] 0 (q [x 2 (.i 0)] [] .ret) .skip) (q [m v0,u (.nc l0),f 1 l0,g l0,u (.bin .add l0 (.i 1)),u (.nc l4),f 1 l0,u (.st l0 l2 1 [])] [] (q [m v0,u (.nc l0),f 0 l0,g l0,m v0,u (.nc l0),f 1 l0,g l0,u (.bin .sub l0 (.i 1)),a 1 l5 l0,g l0,m v1,u (.ca N.ji 0 [] [.l 1,.l 0]),x 2 l0] [] .ret)))),res:=[(2,none)]}
def bR:Fn:= { av:=2,vars:=[0,1,4],body:=(q [x 2 (.i 0)] [] (q [m v1,m v0,m v1,u (.ln l0),u (.ca N.bc 0 [] [.l 2,.l 0]),a 1 l4 l0,g l0,x 2 l0] [] .ret)),res:=[(2,none)]}
def cC:Fn:= { av:=2,vars:=[0,1,4],body:=(q [x 2 (.b false)] [] (q [m v0,m v1,u (.ca N.bc 0 [] [.l 1,.l 0]),m v1,u (.bin .sub l0 (.i 1)),u (.bin .eql l2 l0),x 2 l0] [] .ret)),res:=[(2,none)]}
def ji:Fn:= { av:=2,vars:=[0,1,4],body:=(q [x 2 (.i 0)] [] (.seq (.ite [m v1,u (.bin .lss l0 (.i 1))] [] 0 (q [x 2 (.i 0)] [] .ret) .skip) (q [m v0,m v1,u (.bin .rem l1 l0),x 0 l0] [] (.seq (.ite [m v0,u (.bin .lss l0 (.i 0))] [] 0 (.reg [m v0,m v1,u (.bin .add l1 l0),x 0 l0] []) .skip) (q [m v0,x 2 l0] [] .ret))))),res:=[(2,none)]}
end Go.Ev.K
namespace Go.Ev
class dt [Lib]:Prop where
 o8:Lib.fs N.gN=some K.gN
 qX:Lib.fs N.jc=some K.jc
 lf:Lib.fs N.b6=some K.b6
 kE:Lib.fs N.bV=some K.bV
 lg:Lib.fs N.bc=some K.bc
 mJ:Lib.fs N.bR=some K.bR
 lO:Lib.fs N.cC=some K.cC
 tF:Lib.fs N.ji=some K.ji
namespace K
variable [Lib] [dt]
theorem o8:Lib.fs N.gN=some K.gN:=dt.o8
theorem qX:Lib.fs N.jc=some K.jc:=dt.qX
theorem lf:Lib.fs N.b6=some K.b6:=dt.lf
theorem kE:Lib.fs N.bV=some K.bV:=dt.kE
theorem lg:Lib.fs N.bc=some K.bc:=dt.lg
theorem mJ:Lib.fs N.bR=some K.bR:=dt.mJ
theorem lO:Lib.fs N.cC=some K.cC:=dt.lO
theorem tF:Lib.fs N.ji=some K.ji:=dt.tF
end K
end Go.Ev
namespace Go.Ev.K
open Go.Ev
def jZ:C:= (.its [u (.bin .lss v6 v5)] [] 0 .skip (.exit 0) (.seq (.blk 1 (q [m v6,x 4 l0] [] (.ite [m v1,m v4,u (.cw l1 0 [] [.l 0])] [] 0 (.reg [m v3,m v4,u (.bs [.l 0] 1),u (.app l2 l0 true 1),x 3 l0] []) .skip))) (.reg [u (.bin .add v6 (.i 1)),x 6 l0] [])))
def qj:C:= .loop true [0,2,4] K.jZ
def dr:Fn:= { av:=2,vars:=[0,1,4,5,6,7,8],body:=(q [w 2 (.mv (.c (.nil)))] [] (q [w 3 (.nw 1)] [] (.seq (q [x 5 v0,x 6 (.i 0)] [] (.blk 0 K.qj)) (q [m v3,x 2 l0] [] .ret)))),res:=[(2,none)]}
def ai:Fn:= { av:=2,vars:=[0,1,4],body:=(q [x 2 (.b false)] [] (q [m v0,m v1,u (.ca N.bh 0 [] [.l 1,.l 0]),u (.bin .geq l0 (.i 0)),x 2 l0] [] .ret)),res:=[(2,none)]}
def aK:Fn:= { av:=2,vars:=[0,1,4],body:=(q [x 2 (.b false)] [] (q [m v0,m v1,u (.ca N.bB 0 [] [.l 1,.l 0]),u (.bin .geq l0 (.i 0)),x 2 l0] [] .ret)),res:=[(2,none)]}
def dv:Fn:= { av:=3,vars:=[0,1,2,3,4,5,6],body:=(q [w 3 (.bx v0 1),w 4 (.bx v1 1),w 5 (.bx v2 1),w 6 (.mv (.c (.nil)))] [] (q [u (.mf N.di [.v 3,.v 4,.v 5]),u (.ca N.dr 0 [] [.i 64,.l 0]),x 6 l0] [] .ret)),res:=[(6,none)]}
def cL:C:= (.its [u (.bin .lss v5 v4)] [] 0 .skip (.exit 0) (.seq (.blk 1 (q [m v5,x 3 l0] [] (.ite [m v1,m v0,m v3,a 1 l1 l0,g l0,u (.cw l4 0 [] [.l 0])] [] 0 (q [m v3,x 2 l0] [] .ret) .skip))) (.reg [u (.bin .add v5 (.i 1)),x 5 l0] [])))
def ib:C:= .loop true [2,3] K.cL
def bh:Fn:= { av:=2,vars:=[0,1,4,5,7,8],body:=(q [x 2 (.i 0)] [] (.seq (q [m v0,w 4 (.ln l0),x 5 (.i 0)] [] (.blk 0 K.ib)) (q [w 2 (.mv (.i (-1)))] [] .ret))),res:=[(2,none)]}
def dQ:C:= (.its [u (.bin .lss v5 v4)] [] 0 .skip (.exit 0) (.seq (.blk 1 (q [m v5,x 3 l0] [] (.ite [m v1,m v0,m v3,a 1 l1 l0,g l0,u (.bin .eql l4 l0)] [] 0 (q [m v3,x 2 l0] [] .ret) .skip))) (.reg [u (.bin .add v5 (.i 1)),x 5 l0] [])))
def j3:C:= .loop true [2,3] K.dQ
def bB:Fn:= { av:=2,vars:=[0,1,4,5,7,8],body:=(q [x 2 (.i 0)] [] (.seq (q [m v0,w 4 (.ln l0),x 5 (.i 0)] [] (.blk 0 K.j3)) (q [w 2 (.mv (.i (-1)))] [] .ret))),res:=[(2,none)]}
def di:Fn:= { av:=4,vars:=[0,1,2,3,4,5],body:=(q [w 4 (.bx v0 1),x 5 (.b false)] [] (q [f 0 v1,g l0,u (.mf N.ck [.v 2,.v 4,.v 3]),u (.ca N.aB 0 [] [.l 1,.l 0]),x 5 l0] [] .ret)),res:=[(5,none)]}
def aB:Fn:= { av:=2,vars:=[0,1,4],body:=(q [x 2 (.b false)] [] (q [m v0,m v1,u (.ca N.aQ 0 [] [.l 1,.l 0]),u (.bin .geq l0 (.i 0)),x 2 l0] [] .ret)),res:=[(2,none)]}
def ck:Fn:= { av:=4,vars:=[0,1,2,3,4,5],body:=(q [w 4 (.bx v0 2),x 5 (.b false)] [] (q [g v1,f 1 v4,g l0,u (.ln l0),u (.bin .sub l0 (.i 1)),u (.ca N.aS 0 [] [.l 4,.i 0,.l 0]),m l0,i 0 true v2,y 1 true (.fa v4 1),i 2 true l0,i 3 true v1,y 4 true (.ia l1 l0 2),y 5 true (.fa l0 1),i 6 true l0,y 7 true (.ln l0),y 8 true (.bin .lss l7 l0),u (.pk l9 l0 (.b false)),m l0,y 0 true (.fa v4 1),i 1 true l0,i 2 true v1,y 3 true (.ia l1 l0 2),y 4 true (.fa l0 1),i 5 true l0,i 6 true v2,y 7 true (.ia l1 l0 1),i 8 true l0,i 9 true v3,y 10 true (.bin .leq l1 l0),u (.pk l11 l0 (.b false)),x 5 l0] [] .ret)),res:=[(5,none)]}
def aS:Fn:= { av:=3,vars:=[0,1,2,6],body:=(q [x 3 (.b false)] [] (q [m v0,m v1,u (.bin .geq l1 l0),m l0,e 0 true v0,e 1 true v2,y 2 true (.bin .leq l1 l0),u (.pk l3 l0 (.b false)),x 3 l0] [] .ret)),res:=[(3,none)]}
def gX:C:= (.its [u (.bin .lss v5 v4)] [] 0 .skip (.exit 0) (.seq (.blk 1 (q [m v5,x 3 l0] [] (.ite [m v1,m v0,m v3,a 2 l1 l0,h 2 l0,u (.cw l4 0 [] [.l 0])] [] 0 (q [m v3,x 2 l0] [] .ret) .skip))) (.reg [u (.bin .add v5 (.i 1)),x 5 l0] [])))
def ic:C:= .loop true [2,3] K.gX
def aQ:Fn:= { av:=2,vars:=[0,1,4,5,7,8],body:=(q [x 2 (.i 0)] [] (.seq (q [m v0,w 4 (.ln l0),x 5 (.i 0)] [] (.blk 0 K.ic)) (q [w 2 (.mv (.i (-1)))] [] .ret))),res:=[(2,none)]}
end Go.Ev.K
namespace Go.Ev
class dm [Lib]:Prop where
 nO:Lib.fs N.dr=some K.dr
 dT:Lib.fs N.ai=some K.ai
 fL:Lib.fs N.aK=some K.aK
 od:Lib.fs N.dv=some K.dv
 eS:Lib.fs N.bh=some K.bh
 gQ:Lib.fs N.bB=some K.bB
 mu:Lib.fs N.di=some K.di
 dq:Lib.fs N.aB=some K.aB
 lB:Lib.fs N.ck=some K.ck
 tG:Lib.fs N.aS=some K.aS
 dR:Lib.fs N.aQ=some K.aQ
namespace K
variable [Lib] [dm]
theorem nO:Lib.fs N.dr=some K.dr:=dm.nO
theorem dT:Lib.fs N.ai=some K.ai:=dm.dT
theorem fL:Lib.fs N.aK=some K.aK:=dm.fL
theorem od:Lib.fs N.dv=some K.dv:=dm.od
theorem eS:Lib.fs N.bh=some K.bh:=dm.eS
theorem gQ:Lib.fs N.bB=some K.bB:=dm.gQ
theorem mu:Lib.fs N.di=some K.di:=dm.mu
theorem dq:Lib.fs N.aB=some K.aB:=dm.dq
theorem lB:Lib.fs N.ck=some K.ck:=dm.lB
theorem tG:Lib.fs N.aS=some K.aS:=dm.tG
theorem dR:Lib.fs N.aQ=some K.aQ:=dm.dR
end K
end Go.Ev
namespace Go.Ev
open Go
variable [Lib]
noncomputable def dn:aR:=me Lib.fs
theorem bG{raw f:Nat}{args:List D}{H:aj}{fn:Fn}{r:D×aj}(hf:Lib.fs f=some fn)(hn:fn.av=args.length)
 (h:(exS dn fn.body ⟨qe args fn.vars,H⟩).bind (YP fn.res H.length raw)=some r) (h0:fn.prim=[]:=by rfl):dn raw f args H=some r:=OR hf hn h h0
theorem lj{gc:Bool}{dead:List Nat}{c:C}{vs:List D}{H:aj}(s:Nat→St)(n:Nat){e:Ex}{st:St}
 (h0:(⟨jO dead vs,H⟩:St)=s 0) (h:∀j,j<n→lN gc dead (s j).H.length (exS dn c (s j))=some (s (j+1)))
 (he:exS dn c (s n)=some (e,st)) (hn:e≠ .normal):exS dn (.loop gc dead c) ⟨vs,H⟩=some (e,st):=by
 show oI gc dead (exS dn c) ⟨jO dead vs,H⟩=_
 rw[h0]
 exact Ax s n h (jA he hn)
theorem IM{gc:Bool}{dead:List Nat}{c:C}{vs:List D}{H:aj}{p:Ex×St}(h:oI gc dead (exS dn c) ⟨jO dead vs,H⟩=some p):exS dn (.loop gc dead c) ⟨vs,H⟩=some p:=h
class Dat (α:Type) where
 dflt:α
instance : Dat Int := ⟨0⟩
instance : Dat Nat := ⟨0⟩
instance : Dat Bool := ⟨false⟩
instance {α : Type} : Dat (List α) := ⟨[]⟩
def nth{α:Type} [Dat α](l:List α)(j:Nat):α:=l.getD j Dat.dflt
theorem Fa{α:Type} [Dat α]{l:List α}{j:Nat}(h:j<l.length):l[j]?=some (nth l j):=by simp[nth,h]
theorem i4{α β:Type} [Dat α](f:α→β){l:List α}{j:Nat}(h:j<l.length):(l.map f)[j]?=some (f (nth l j)):=by rw[aLn,Fa h];rfl
theorem Fb{α β γ:Type} [Dat α](f:β→γ)(g:α→β){l:List α}{j:Nat}(h:j<l.length):((l.map g).map f)[j]?=some (f (g (nth l j))):=by rw[aLn,i4 g h];rfl
theorem jo{α:Type} [Dat α]{l:List α}{j:Nat}(h:j<l.length):nth l j∈l:=aLd (Fa h)
theorem oe{α:Type} [Dat α]{l:List α}{j:Nat}{x:α}(h:l[j]?=some x):nth l j=x:=by simp[nth,h]
theorem Ll{α:Type} [Dat α]{l:List α}{j:Nat}(h:j<l.length):l.take (j+1)=l.take j++[nth l j]:=by
 rw[List.take_succ_eq_append_getElem h];simp[nth,h]
theorem ac5{a b:Int}(h:a<b):(a<b)=True:=by simp[h]
theorem ac6{a b:Int}(h:b≤a):(a<b)=False:=by simp[Int.not_lt.2 h]
theorem ac7{a b:Int}(h:a≤b):(a≤b)=True:=by simp[h]
theorem ac8{a b:Int}(h:b<a):(a≤b)=False:=by simp[Int.not_le.2 h]
theorem ac9{a b:Int}(h:a=b):(a=b)=True:=by simp[h]
theorem ada{a b:Int}(h:a≠b):(a=b)=False:=by simp[h]
theorem adb{a b:Nat}(h:a<b):(a<b)=True:=by simp[h]
theorem ade{a b:Nat}(h:b≤a):(a<b)=False:=by simp[Nat.not_lt.2 h]
theorem adf{a b:Nat}(h:a≤b):(a≤b)=True:=by simp[h]
theorem adg{a b:Nat}(h:b<a):(a≤b)=False:=by simp[Nat.not_le.2 h]
theorem adh{a b:Nat}(h:a=b):(a=b)=True:=by simp[h]
theorem adi{a b:Nat}(h:a≠b):(a=b)=False:=by simp[h]
attribute [go_sem] adh adi ac5 ac6 ac7 ac8 ac9 ada adb ade adf adg OS i4 Fb O7
@[go_sem] theorem TM (a b : Nat) : ((a + b : Nat) : Int) = (a : Int) + (b : Int) := (rfl)
@[go_sem] theorem TN : ((1 : Nat) : Int) = 1 := (rfl)
@[go_sem] theorem P4 : ((0 : Nat) : Int) = 0 := (rfl)
@[go_sem] theorem Xo (a b : Int) : a + b - b = a := Int.add_sub_cancel a b
@[go_sem] theorem MV : (0 : Int).toNat = 0 := (rfl)
@[go_sem] theorem P5 (n : Nat) : (n : Int).toNat = n := (rfl)
@[go_sem] theorem P6 (n : Nat) : ((n : Int) + 1).toNat = n + 1 := (rfl)
@[go_sem] theorem P7 (a : Int) : 0 + a = a := Int.zero_add a
@[go_sem] theorem P8 (a : Int) : a + 0 = a := Int.add_zero a
@[go_sem] theorem P9 (a : Int) : a - 0 = a := Int.sub_zero a
abbrev tI(n:Int):T:= .int .i64 n
abbrev tL(l:List Int):T:= .sl (l.map (.int .i64))
@[go_sem] theorem Lm (H : aj) (n : Nat) (ts : List T) (x : T) : bQ (frz H n) (ts.map .t ++ [.t x]) = some (ts ++ [x]) := by
 have:ts.map D.t++[.t x]=(ts++[x]).map .t:=by simp
 rw[this,Ga]
@[go_sem] theorem MW {α β : Type} (f : α → β) (a b : List α) : (a ++ b).map f = a.map f ++ b.map f := List.map_append
end Go.Ev
namespace Go.Ev
open Go
variable [Lib] [dt] [dm]
def Mod(n m:Int):Int:=if m<1 then 0 else if n.tmod m<0 then n.tmod m+m else n.tmod m
theorem Xp(n m:Int):0≤Mod n m:=by
 unfold Mod
 split
 · omega
 · have h5:=Int.lt_tmod_of_pos n (b:=m) (by omega)
   split<;>omega
theorem Xq(n m:Int)(h:1≤m):Mod n m<m:=by
 unfold Mod
 rw[if_neg (by omega)]
 have h3:=Int.tmod_lt_of_pos n (b:=m) (by omega)
 split<;>omega
theorem Xr(n m:Int)(hm:m≤4611686018427387904):dn 0 N.ji [I n,I m] []=some (I (Mod n m),[]):=by
 refine bG K.tF rfl ?_
 unfold Mod
 by_cases h1:m<1
 · simp only[go_sem,K.ji,h1,↓reduceIte]
 · have h2:m≠0:=by omega
   have h3:=Int.tmod_lt_of_pos n (b:=m) (by omega)
   have h5:=Int.lt_tmod_of_pos n (b:=m) (by omega)
   by_cases h4:n.tmod m<0
   · simp(disch:=omega)only[go_sem,K.ji,h1,↓reduceIte,h2,h4]
   · simp(disch:=omega)only[go_sem,K.ji,h1,↓reduceIte,h2,h4]
theorem Ln(l:List Int):dn 0 N.gN [.t (tL l)] []=some (B (decide (l.length≤400)),[]):=by
 refine bG K.o8 rfl ?_
 simp(disch:=omega)only[go_sem,K.gN,↓reduceIte]
 simp only[show((l.length:Int)≤400)=(l.length≤400)by rw[eq_iff_iff];omega]
structure aX where
 L:List Int
 at_:Nat
def aX.obj(d:aX):Obj:= .box [.t (tL d.L),I d.at_]
def aX.fX(d:aX):Prop:=d.L.length≤400
def aX.next(d:aX)(n:Int):Int×aX:=if d.at_<d.L.length then(Mod (nth d.L d.at_) n,⟨d.L,d.at_+1⟩)else(0,d)
theorem aX.MX(d:aX)(n:Int):(d.next n).2.L=d.L:=by unfold aX.next;split<;>rfl
theorem aX.cn{d:aX}(h:d.fX)(n:Int):(d.next n).2.fX:=by unfold aX.fX;rw[d.MX];exact h
theorem aX.lk(d:aX)(n:Int):0≤(d.next n).1:=by unfold aX.next;split<;>simp[Xp]
theorem aX.lq(d:aX){n:Int}(h:1≤n):(d.next n).1<n:=by unfold aX.next;split<;>simp[Xq _ _ h];omega
theorem mK(d:aX)(n:Int)(hn:n≤4611686018427387904)(hd:d.fX):dn 0 N.bc [.bp 0 0,I n] [d.obj]=some (I (d.next n).1,[(d.next n).2.obj]):=by
 refine bG K.lg rfl ?_
 have hm:=Xr (nth d.L d.at_) n hn
 unfold aX.fX at hd
 unfold aX.next aX.obj
 by_cases h1:d.at_<d.L.length
 · simp(disch:=omega)only[go_sem,K.bc,↓reduceIte,↓if_pos,↓if_neg,Int.add_sub_cancel,hm,Int.natCast_add]
 · simp(disch:=omega)only[go_sem,K.bc,↓reduceIte,↓if_pos,↓if_neg]
@[go_sem] theorem aag (d : aX) : B8 (some d.obj) = [] := by simp only [aX.obj, go_sem]
@[go_sem] theorem aah (f : Nat → Option Nat) (d : aX) : ga f d.obj = some d.obj := by simp only [aX.obj, go_sem]
@[go_sem] theorem aai (k : Nat) (d : aX) (r : aj) : dC k (d.obj :: r) = dC k r := by simp only [aX.obj, go_sem]
def aX.one(d:aX)(n:Int):Bool×aX:=(decide ((d.next n).1=n-1),(d.next n).2)
theorem aX.xh{d:aX}(h:d.fX)(n:Int):(d.one n).2.fX:=aX.cn h n
theorem IN(d:aX)(n:Int)(h1:0≤n)(hn:n≤4611686018427387904)(hd:d.fX):dn 0 N.cC [.bp 0 0,I n] [d.obj]=some (B (d.one n).1,[(d.one n).2.obj]):=by
 refine bG K.lO rfl ?_
 have hm:=mK d n hn hd
 unfold aX.one
 simp(disch:=omega)only[go_sem,K.cC,↓reduceIte,hm]
def aX.of(d:aX)(l:List Int):Int×aX:=(nth l (d.next l.length).1.toNat,(d.next l.length).2)
theorem aX.iR{d:aX}(h:d.fX)(l:List Int):(d.of l).2.fX:=aX.cn h _
theorem aX.mw(d:aX){l:List Int}(h:l≠[]):(d.of l).1∈l:=by
 unfold aX.of
 have hl:0<l.length:=List.length_pos_iff.2 h
 have:=d.lk l.length
 have:=d.lq (n:=l.length) (by omega)
 exact jo (by omega)
theorem DH(d:aX)(l:List Int)(hl:l≠[])(hl2:l.length≤4294967296)(hd:d.fX):dn 0 N.bR [.bp 0 0,.t (tL l)] [d.obj]=some (I (d.of l).1,[(d.of l).2.obj]):=by
 refine bG K.mJ rfl ?_
 have hm:=mK d l.length (by omega) hd
 have h0:0<l.length:=List.length_pos_iff.2 hl
 have h1:=d.lk l.length
 have h2:=d.lq (n:=l.length) (by omega)
 unfold aX.of
 simp(disch:=omega)only[go_sem,K.bR,↓reduceIte,hm]
theorem pY{gc:Bool}{dead:List Nat}{c:C}{vs:List D}{H:aj}(s:Nat→St)(n:Nat)(p:Nat→Bool)(e:Nat→Ex×St)(eN:Ex×St)
 (h0:(⟨jO dead vs,H⟩:St)=s 0) (hs:∀j,j<n→p j=false→lN gc dead (s j).H.length (exS dn c (s j))=some (s (j+1)))
 (he:∀j,j<n→p j=true→exS dn c (s j)=some (e j)∧(e j).1≠ .normal) (hN:exS dn c (s n)=some eN) (hn:eN.1≠ .normal):
 exS dn (.loop gc dead c) ⟨vs,H⟩=some (match (List.range n).find? p with | some j=>e j | none=>eN):=by
 show oI gc dead (exS dn c) ⟨jO dead vs,H⟩=_
 rw[h0]
 cases hf:(List.range n).find? p with
 | none=>
   refine Ax s n (fun j hj=>hs j hj ?_) (jA hN hn)
   have:=List.find?_eq_none.1 hf j (aLu.2 hj)
   simpa using this
 | some k=>
   obtain⟨h1,as,bs,h2,h3⟩:=List.find?_eq_some_iff_append.1 hf
   have hk:k<n:=aLu.1 (List.mem_of_find?_eq_some hf)
   have hlt:∀j,j<k→p j=false:=by
    intro j hj
    have hlen:as.length=k:=by
     have h4:(List.range n)[as.length]?=some k:=by rw[h2];simp
     have h5:as.length<n:=by
      have:=congrArg List.length h2;simp at this;omega
     rw[aLp h5]at h4
     exact Option.some.inj h4
    have:j∈as:=by
     have h6:(List.range n)[j]?=some j:=aLp (by omega)
     rw[h2,aLg (by omega)]at h6
     exact aLd h6
    simpa using h3 j this
   obtain⟨k1,k2⟩:=he k hk h1
   exact Ax s k (fun j hj=>hs j (by omega) (hlt j hj)) (jA k1 k2)
def IP{α:Type}(f:α→α×Bool):Nat→α→α
 | 0,l=>l
 | n+1,l=>if(f l).2 then IP f n (f l).1 else(f l).1
theorem Lo{n:Nat}{p:Nat→Bool}:((List.range n).find? p).isSome=(List.range n).any p:=by
 rw[List.isSome_find?]
def ie(m:Nat):List D:=(List.range m).map fun i=> .bp i 0
def bj(bs:List (List T)):aj:=bs.map fun cs=> .box (cs.map .t)
theorem zJ{bs:List (List T)}{i:Nat}(h:i<bs.length):(bj bs)[i]?=some (.box (bs[i].map .t)):=by simp[bj,h]
theorem eu(bs:List (List T)):(bj bs).length=bs.length:=by simp[bj]
theorem tH:∀(l sel:List Nat),(sel++l).Nodup→eM sel l=sel++l
 | [],sel,_=>by simp[eM]
 | i::r,sel,h=>by
   have:sel.contains i=false:=by
    rw[← Bool.not_eq_true,List.contains_iff_mem]
    intro hm
    have:=List.nodup_append.1 h
    exact this.2.2 i hm i List.mem_cons_self rfl
   simp only[eM,this,aLt,if_false]
   rw[tH r (sel++[i]) (by simpa using h)]
   simp
theorem uM:∀(l:List Nat) (i k:Nat),l.Nodup→l[k]?=some i→idxOf l i=some k
 | [],i,k,_,h=>by simp at h
 | a::l,i,0,_,h=>by simp at h;simp[idxOf,h]
 | a::l,i,k+1,hn,h=>by
   simp at h
   have hne:a≠i:=fun e=>(List.nodup_cons.1 hn).1 (e▸aLd h)
   simp only[idxOf,if_neg hne,uM l i k (List.nodup_cons.1 hn).2 h,aLw]
theorem DI{m i:Nat}(h:i<m):idxOf (List.range m) i=some i:=uM _ _ _ List.nodup_range (aLp h)
theorem DJ{α:Type}{f:α→Option α}:∀ {l:List α},(∀x∈l,f x=some x)→bQ f l=some l
 | [],_=>rfl
 | a::l,h=>by
   simp only[bQ,h a List.mem_cons_self,aLq,DJ fun x hx=>h x (List.mem_cons_of_mem _ hx),aLw]
theorem DK(f:Nat→Option Nat)(cs:List T):ga f (.box (cs.map .t))=some (.box (cs.map .t)):=by
 simp only[Gd,pX,aLw]
theorem Ca{H:aj}:∀ {l:List Nat} {hs:aj},l.length=hs.length→(∀(k i:Nat) (o:Obj),l[k]?=some i→hs[k]?=some o→H[i]?=some o)→pick H l=some hs
 | [],[],_,_=>rfl
 | [],_::_,h,_=>by simp at h
 | _::_,[],h,_=>by simp at h
 | i::l,o::hs,h,hg=>by
   rw[IG,hg 0 i o rfl rfl,aLq,Lh,Ca (l:=l) (hs:=hs) (by simpa using h) fun k i o hk ho=>hg (k+1) i o (by simpa using hk) (by simpa using ho)]
   rfl
theorem uN{H:aj}:∀ {l:List Nat} {os:aj},(∀(k i:Nat) (o:Obj),l[k]?=some i→os[k]?=some o→H[i]?=some o)→cG H l os=H
 | [],os,_=>by cases os<;>rfl
 | i::l,[],_=>rfl
 | i::l,o::os,hg=>by
   simp only[cG]
   rw[Lf (hg 0 i o rfl rfl)]
   exact uN fun k i o hk ho=>hg (k+1) i o (by simpa using hk) (by simpa using ho)
theorem Cb(call:aR)(bs:List (List T))(E:aj)(f raw:Nat)(args:List D){r:D}(h:call raw f args (bj bs)=some (r,bj bs))(hr:vC r=true)
 (ha:∀H:aj,nE H [] 0 args=some args∧b8 H [] 0 args=[]) (hids:eM [] (xg 8 args)=List.range bs.length)
 (hren:bQ (ren (idxOf (List.range bs.length)) 8) args=some args):F9 (bj bs++E) call f raw [] args=some (r,bj bs++E):=by
 generalize hH:bj bs++E=H
 have hget:∀i (hi:i<bs.length),H[i]?=some (.box (bs[i].map .t)):=fun i hi=>by
  rw[← hH,aLg (by rw[eu];exact hi),zJ hi]
 obtain⟨ha,hfz⟩:=ha H
 have hno:oT H (List.range bs.length)=[]:=by
  simp only[oT,List.flatMap_eq_nil_iff,aLu]
  intro i hi
  rw[hget i hi]
  exact E7 8 bs[i]
 have hsel:reach H 3 (List.range bs.length)=List.range bs.length:=by
  simp only[reach,hno,eM]
 have hget2:∀(k i:Nat) (o:Obj),(List.range bs.length)[k]?=some i→(bj bs)[k]?=some o→H[i]?=some o:=by
  intro k i o hk ho
  have hkl:k<bs.length:=by have:=(aLe.1 hk).1;simpa using this
  rw[aLp hkl]at hk
  cases hk
  rw[zJ hkl]at ho
  rw[hget k hkl,←ho]
 have hpick:pick H (List.range bs.length)=some (bj bs):=Ca (by simp[eu]) hget2
 have hro:∀f:Nat→Option Nat,bQ (ga f) (bj bs)=some (bj bs):=fun f=>DJ fun o ho=>by
  simp only[bj,List.mem_map]at ho
  obtain⟨cs,_,rfl⟩:=ho
  exact DK f cs
 have hput:cG H (List.range bs.length) (bj bs)=H:=uN hget2
 rw[K6,K7,ha,aLq,K8,hids,hsel,K9,hren,aLq,hfz,La]
 simp only[pins]
 rw[hpick,aLq,Lb,hro,aLq,Lc,h,aLq]
 cases hb:bs with
 | nil=>
   subst hb
   have hrr:=Az (f:=dP [] H.length) hr
   simp only[depth]at hrr
   simp only[List.length_nil,List.range_zero,bj,List.map_nil]
   unfold qW
   split
   · rfl
   · rw[E6,hrr,aLq,E5]
     simp[bQ,Ld,cG]
 | cons b bt=>
   rw[← hb]
   have hne:List.range bs.length=0::(List.range' 1 bt.length):=by rw[hb];simp[List.range_eq_range',List.range'_succ]
   have hrr:=Az (f:=dP (List.range bs.length) H.length) hr
   simp only[depth]at hrr
   have hw:qW H H (List.range bs.length) (r,bj bs)=AA H H.length (List.range bs.length) (r,bj bs):=by
    rw[hne];rfl
   rw[hw,E6,hrr,aLq,E5,hro,aLq,Le,List.length_range,List.take_of_length_le (by rw[eu];exact aLs _),hput,
    List.drop_eq_nil_of_le (by rw[eu];exact aLs _),List.append_nil]
theorem DL(H:aj)(cs:List D)(hc:∀i,nE H [] i cs=some cs∧b8 H [] i cs=[]):∀(ts:List T) (i:Nat),nE H [] i (ts.map .t++cs)=some (ts.map .t++cs)∧b8 H [] i (ts.map .t++cs)=[]
 | [],i=>hc i
 | t::ts,i=>by
   obtain⟨h1,h2⟩:=DL H cs hc ts (i+1)
   simp only[List.map_cons,List.cons_append,zI,o7,CZ,MI,WM,aLq,ID,h1,h2,W8,IB]
   exact⟨rfl,rfl⟩
theorem Cc(H:aj):∀(l:List Nat) (i:Nat),nE H [] i (l.map fun i=> .bp i 0)=some (l.map fun i=> .bp i 0)∧b8 H [] i (l.map fun i=> .bp i 0)=[]
 | [],i=>⟨rfl,rfl⟩
 | a::l,i=>by
   obtain⟨h1,h2⟩:=Cc H l (i+1)
   simp only[List.map_cons,zI,o7,CZ,MI,Pp,aLq,ID,h1,h2,W8,Pw]
   exact⟨rfl,rfl⟩
theorem Cd(n m:Nat):xg n (ie m)=List.range m:=by
 simp only[xg,ie,List.flatMap_map]
 have:∀l:List Nat,(l.flatMap fun a=>ids n (.bp a 0))=l:=by
  intro l
  induction l with
  | nil=>rfl
  | cons a l ih=>rw[List.flatMap_cons,ih,Xc];rfl
 exact this _
theorem Fc(n m:Nat):bQ (ren (idxOf (List.range m)) n) (ie m)=some (ie m):=DJ fun d hd=>by
 simp only[ie,List.mem_map,aLu]at hd
 obtain⟨k,hk,rfl⟩:=hd
 rw[Xg,DI hk];rfl
theorem AE{α β:Type}{f:α→Option β}:∀ {a b:List α} {x y:List β},bQ f a=some x→bQ f b=some y→bQ f (a++b)=some (x++y)
 | [],b,x,y,h1,h2=>by simp[bQ]at h1;subst h1;exact h2
 | c::a,b,x,y,h1,h2=>by
   simp only[bQ,aLa,aLb]at h1
   obtain⟨z,hz,r,hr,rfl⟩:=h1
   simp only[List.cons_append,bQ,hz,aLq,AE hr h2,aLw]
theorem IQ(call:aR)(bs:List (List T))(E:aj)(f raw:Nat)(ts:List T){r:D}(h:call raw f (ts.map .t++ie bs.length) (bj bs)=some (r,bj bs))(hr:vC r=true):
 F9 (bj bs++E) call f raw [] (ts.map .t++ie bs.length)=some (r,bj bs++E):=
 Cb call bs E f raw _ h hr (fun H=>DL H _ (Cc H _) ts 0)
  (by rw[E8,E7,List.nil_append,Cd,tH _ _ (by simpa using List.nodup_range),List.nil_append])
  (AE (pX _ _ _) (Fc _ _))
theorem Qa(call:aR)(bs:List (List T))(E:aj)(g f raw:Nat)(ts:List T){r:D}(h:call raw f (ts.map .t++[.fn g (ie bs.length)]) (bj bs)=some (r,bj bs))(hr:vC r=true):
 F9 (bj bs++E) call f raw [] (ts.map .t++[.fn g (ie bs.length)])=some (r,bj bs++E):=
 Cb call bs E f raw _ h hr (fun H=>DL H _ (fun i=>⟨rfl,rfl⟩) ts 0)
  (by rw[E8,E7,List.nil_append,IE,Xd,Cd,Lg,List.append_nil,tH _ _ (by simpa using List.nodup_range),List.nil_append])
  (AE (pX _ _ _) (by rw[B4,Xj,Fc];rfl))
theorem IS{f:Nat}{bs:List (List T)}{x:T}{r:D}(E:aj)(h:dn 0 f (.t x::ie bs.length) (bj bs)=some (r,bj bs))(hr:vC r=true):
 F9 (bj bs++E) dn f 0 [] (.t x::ie bs.length)=some (r,bj bs++E):=IQ dn bs E f 0 [x] h hr
theorem pZ{f:Nat}{bs:List (List T)}{x:T}{r:D}(h:dn 0 f (.t x::ie bs.length) (bj bs)=some (r,bj bs))(hr:vC r=true):
 F9 (bj bs) dn f 0 [] (.t x::ie bs.length)=some (r,bj bs):=by
 have:=IS [] h hr;rwa [List.append_nil]at this
theorem zK(call:aR)(bs:List (List T))(g f raw:Nat)(x:T){r:D}(h:call raw f [.t x,.fn g (ie bs.length)] (bj bs)=some (r,bj bs))(hr:vC r=true):
 F9 (bj bs) call f raw [] [.t x,.fn g (ie bs.length)]=some (r,bj bs):=by
 have:=Qa call bs [] g f raw [x] h hr
 rwa [List.append_nil]at this
section
variable (bs : List (List T)) (o o' : Obj)
@[go_sem] theorem Lp : (bj bs).length = bs.length := eu bs
@[go_sem] theorem TO : (bj bs ++ [o])[bs.length]? = some o := by
 rw[aLh (by rw[eu];exact aLs _),eu];simp
@[go_sem] theorem Xs : (bj bs ++ [o]).set bs.length o' = bj bs ++ [o'] := by
 rw[List.set_append_right _ _ (by rw[eu];exact aLs _),eu];simp
@[go_sem] theorem TP : (bj bs ++ [o]).take bs.length = bj bs := by
 rw[List.take_append_of_le_length (by rw[eu];exact aLs _),List.take_of_length_le (by rw[eu];exact aLs _)]
@[go_sem] theorem Qb : (bj bs ++ [o]).take (bs.length + 1) = bj bs ++ [o] := List.take_of_length_le (by simp [eu])
@[go_sem] theorem Qc : (bj bs).take bs.length = bj bs := List.take_of_length_le (by simp [eu])
@[go_sem] theorem Qd (k : Nat) (a b : aj) : dC k (a ++ b) = (dC k a && dC k b) := by
 rw[← lK,←lK,←lK,List.all_append]
@[go_sem] theorem Lq (k : Nat) : dC k (bj bs) = true := by
 induction bs with
 | nil=>rfl
 | cons b r ih=>
   show(fW k 8 (b.map .t)&&dC k (bj r))=true
   rw[E3,ih];rfl
@[go_sem] theorem aaj (n : Nat) : ltB n (n + 1) = true := by rw [mI]; simp
@[go_sem] theorem aak (n : Nat) : ltB n n = false := by rw [mI]; simp
theorem uO(k n m:Nat)(h:m≤k):fW k n (ie m)=true:=by
 unfold fW ie
 rw[aLx]
 intro d hd
 obtain⟨i,hi,rfl⟩:=List.mem_map.1 hd
 rw[WN,mI]
 have:=aLu.1 hi
 simp;omega
@[go_sem] theorem Qe (n m : Nat) : fW m n (ie m) = true := uO _ _ _ (aLs _)
@[go_sem] theorem MY (n m : Nat) : fW (m + 1) n (ie m) = true := uO _ _ _ (Nat.le_succ _)
end
def j4(n:Nat)(p:Nat→Bool):List Int:=((List.range n).filter p).map (fun(i:Nat)=>(i:Int))
theorem DM(n:Nat)(p:Nat→Bool):j4 (n+1) p=if p n=true then j4 n p++[(n:Int)]else j4 n p:=by
 unfold j4
 rw[List.range_succ,List.filter_append,List.map_append]
 by_cases h:p n=true<;>simp[h]
theorem zL(n:Nat)(p:Nat→Bool):(j4 n p).length≤n:=by
 unfold j4
 rw[List.length_map]
 have:=List.length_filter_le p (List.range n)
 simpa using this
end Go.Ev
namespace Go.Ev
open Go
variable [Lib] [dt] [dm]
theorem my{α:Type}(sz:Nat)(f:α→T)(h:∀a,mG sz (f a).cells=true):∀l:List α,bT sz (l.map f)=true
 | []=>rfl
 | a::l=>by rw[List.map_cons,r5,h,my sz f h l];rfl
@[go_sem] theorem MZ (k : IntKind) (l : List Int) : bT 1 (l.map (.int k)) = true := my 1 _ (fun _ => rfl) l
theorem r7(sz:Nat):∀ts:List T,(ts.all fun e=>e.cells.length==sz)=bT sz ts
 | []=>rfl
 | t::ts=>by
   rw[List.all_cons,r5,r7 sz ts]
   congr 1
   rw[Bool.eq_iff_iff,eX];simp
section
variable (H : aj) (sz : Nat) (ts : List T) (i j : Int)
@[go_sem] theorem adj : Ay H sz (some (.t (.sl ts))) (some none) (some (some i)) = if 0 ≤ i then (if i ≤ ts.length then (if bT sz ts = true then some (.t (.sl (ts.take i.toNat)), H) else none) else none) else none := by
 simp only[Ay,aLq,lL,bound,r7,idx]
 by_cases h1:0≤i
 · rw[if_pos h1,if_pos h1,aLq]
   by_cases h2:i≤ts.length
   · rw[if_pos h2]
     by_cases h3:bT sz ts=true
     · rw[if_pos h3,if_pos ⟨by omega,by omega,h3⟩];rfl
     · rw[if_neg h3,if_neg fun h=>h3 h.2.2];rfl
   · rw[if_neg h2,if_neg fun h=>h2 (by omega)];rfl
 · rw[if_neg h1,if_neg h1];rfl
@[go_sem] theorem adk : Ay H sz (some (.t (.sl ts))) (some (some i)) (some none) = if 0 ≤ i then (if i ≤ ts.length then (if bT sz ts = true then some (.t (.sl (ts.drop i.toNat)), H) else none) else none) else none := by
 simp only[Ay,aLq,lL,bound,r7,idx]
 by_cases h1:0≤i
 · rw[if_pos h1,if_pos h1,aLq]
   by_cases h2:i≤ts.length
   · rw[if_pos h2]
     by_cases h3:bT sz ts=true
     · rw[if_pos h3,if_pos ⟨by omega,by omega,h3⟩,List.take_of_length_le (by simp)];rfl
     · rw[if_neg h3,if_neg fun h=>h3 h.2.2];rfl
   · rw[if_neg h2,if_neg fun h=>h2 (by omega)];rfl
 · rw[if_neg h1,if_neg h1];rfl
@[go_sem] theorem Xt : Ay H sz (some (.t (.sl ts))) (some (some i)) (some (some j)) = if 0 ≤ i then (if i ≤ j then (if j ≤ ts.length then (if bT sz ts = true then some (.t (.sl ((ts.drop i.toNat).take (j.toNat - i.toNat))), H) else none) else none) else none) else none := by
 simp only[Ay,aLq,lL,bound,r7,idx]
 by_cases h1:0≤i
 · rw[if_pos h1,if_pos h1,aLq]
   by_cases h0:i≤j
   · rw[if_pos h0,if_pos (by omega:0≤j),aLq]
     by_cases h2:j≤ts.length
     · rw[if_pos h2]
       by_cases h3:bT sz ts=true
       · rw[if_pos h3,if_pos ⟨by omega,by omega,h3⟩];rfl
       · rw[if_neg h3,if_neg fun h=>h3 h.2.2];rfl
     · rw[if_neg h2,if_neg fun h=>h2 (by omega)];rfl
   · rw[if_neg h0]
     by_cases h2:0≤j
     · rw[if_pos h2,aLq,if_neg fun h=>h0 (by omega)];rfl
     · rw[if_neg h2];rfl
 · rw[if_neg h1,if_neg h1];rfl
end
def bsK(H:aj)(l:List Nat):Option T→Option (D×aj)
 | some t=>some (.t (.sl [t]),pins H l)
 | none=>none
@[go_sem] theorem aal (H : aj) (l : List Nat) (t : T) : bsK H l (some t) = some (.t (.sl [t]), pins H l) := (rfl)
@[go_sem] theorem aam (H : aj) (sz : Nat) (cs : List D) : zH H sz [.agg cs] = if mG sz cs = true then bsK H (fU H 8 (.agg cs)) (frz H 8 (.agg cs)) else none := by
 simp only[zH,List.all_cons,List.all_nil,Bool.and_true,D.cells]
 by_cases h:mG sz cs=true
 · rw[if_pos h,if_pos (by simpa using eX.1 h)]
   simp only[bQ,depth,List.flatMap_cons,List.flatMap_nil,List.append_nil]
   cases frz H 8 (.agg cs)<;>rfl
 · rw[if_neg h,if_neg (by intro e;exact h (eX.2 (by simpa using e)))]
@[go_sem] theorem aan (H : aj) (id ep n : Nat) : zH H 1 [.ref id ep n] = bsK H (fU H 8 (.ref id ep n)) (frz H 8 (.ref id ep n)) := by
 simp only[zH,List.all_cons,List.all_nil,Bool.and_true,D.cells,List.length_cons,List.length_nil,beq_self_eq_true,if_true,bQ,depth,List.flatMap_cons,List.flatMap_nil,List.append_nil]
 cases frz H 8 (.ref id ep n)<;>rfl
def Qf(H:aj)(r:D)(os:aj):D×aj:=(r,H++os)
@[go_sem] theorem aao (H : aj) (r : D) (os : aj) : Qf H r os = (r, H ++ os) := (rfl)
def Xu(H:aj)(os:aj)(r:D):Option (D×aj):=(bQ (ga (dP [] H.length)) os).map (Qf H r)
@[go_sem] theorem aap (H : aj) (os : aj) (r : D) : Xu H os r = (bQ (ga (dP [] H.length)) os).map (Qf H r) := (rfl)
@[go_sem] theorem Xv (H : aj) (r : D) (o : Obj) (os : aj) : xf H (r, o :: os) = (ren (dP [] H.length) 8 r).bind (Xu H (o :: os)) := by
 simp only[xf,List.isEmpty_cons,Bool.and_false,aLt,if_false]
 rfl
end Go.Ev
namespace Go.Ev
open Go
variable [Lib] [dt] [dm]
structure Place where
 h:Int
 surf:Bool
instance : Dat Place := ⟨⟨0, false⟩⟩
abbrev Place.e(p:Place):T:= .agg [tI p.h,.bool p.surf]
structure Road where
 frm:Int
 to:Int
 len:Int
 area:Int
 walk:Bool
 closed:Bool
 restL:Int
 restH:Int
 liftL:Int
 liftH:Int
instance : Dat Road := ⟨⟨0, 0, 0, 0, false, false, 0, 0, 0, 0⟩⟩
abbrev Road.e(r:Road):T:= .agg [tI r.frm,tI r.to,tI r.len,tI r.area,.bool r.walk,.bool r.closed,tI r.restL,tI r.restH,tI r.liftL,tI r.liftH]
structure fJ where
 aP:List Place
 roads:List Road
instance : Dat fJ := ⟨⟨[], []⟩⟩
abbrev fJ.e(m:fJ):T:= .agg [.sl (m.aP.map Place.e),.sl (m.roads.map Road.e)]
structure Road.ok(n:Nat)(r:Road):Prop where
 f0:0≤r.frm
 f1:r.frm<n
 t0:0≤r.to
 t1:r.to<n
 ne:r.frm≠r.to
 l0:1≤r.len
 l1:r.len≤100000
 a0:1≤r.area
 a1:r.area≤1000
 r0:1≤r.restL
 r1:r.restL≤r.restH
 r2:r.restH≤262144
 i0: -2199023255552≤r.liftL
 i1:r.liftL≤r.liftH
 i2:r.liftH≤2199023255552
structure fJ.ok(m:fJ):Prop where
 np:m.aP.length≤64
 nr:m.roads.length≤128
 hs:∀p∈m.aP, -10000≤p.h∧p.h≤10000
 rs:∀r∈m.roads,r.ok m.aP.length
theorem IT{l:List Int}{p:Int→Bool}:((List.range l.length).find? fun j=>p (nth l j)).isSome=l.any p:=by
 rw[List.isSome_find?,Bool.eq_iff_iff,List.any_eq_true,List.any_eq_true]
 constructor
 · rintro ⟨j,hj,h⟩
   exact⟨_,jo (aLu.1 hj),h⟩
 · rintro ⟨x,hx,h⟩
   obtain⟨j,hj⟩:=aLf.1 hx
   exact⟨j,aLu.2 (aLe.1 hj).1,by rw[oe hj];exact h⟩
def Xw(l:List Int)(n:Int):Bool:=(List.range l.length).all fun j=>decide (0≤nth l j∧nth l j<n∧(0<j→nth l (j-1)<nth l j))
theorem tJ(x lo hi:Int):dn 0 N.aS [I x,I lo,I hi] []=some (B (decide (lo≤x∧x≤hi)),[]):=by
 refine bG K.tG rfl ?_
 by_cases h1:lo≤x<;>by_cases h2:x≤hi<;>simp(disch:=omega)only[go_sem,K.aS,↓reduceIte]
theorem Lr(l:List Int)(x:Int)(hl:l.length≤4294967296):dn 0 N.bB [.t (tL l),I x] []=
 some (I (match (List.range l.length).find? (fun j=>decide (nth l j=x))with | some j=>(j:Int) | none=> -1),[]):=by
 refine bG K.gQ rfl ?_
 have loop:∀a b:D,exS dn K.j3 ⟨[.t (tL l),I x,a,b,I l.length,I 0],[]⟩=
  some (match (List.range l.length).find? (fun j=>decide (nth l j=x))with
   | some j=>(.ret,⟨[.t (tL l),I x,I j,I j,I l.length,I j],[]⟩)
   | none=>(.exit 0,⟨[.t (tL l),I x,.und,.und,I l.length,I l.length],[]⟩)):=by
  intro a b
  refine pY (fun j=>⟨[.t (tL l),I x,.und,.und,I l.length,I j],[]⟩) l.length (fun j=>decide (nth l j=x)) _ _ rfl ?_ ?_ ?_ (by simp)
  · intro j hj hp
    have hp:¬nth l j=x:=of_decide_eq_false hp
    simp(disch:=omega)only[go_sem,K.dQ,↓reduceIte]
  · intro j hj hp
    have hp:nth l j=x:=of_decide_eq_true hp
    simp(disch:=omega)only[go_sem,K.dQ,↓reduceIte,hp]
    simp
  · simp(disch:=omega)only[go_sem,K.dQ,↓reduceIte]
 simp(disch:=omega)only[go_sem,K.bB,↓reduceIte,loop]
 cases hf:(List.range l.length).find? (fun j=>decide (nth l j=x))with
 | some j=>simp(disch:=omega)only[go_sem,↓reduceIte]
 | none=>simp(disch:=omega)only[go_sem,↓reduceIte]
theorem DN(l:List Int)(x:Int)(hl:l.length≤4294967296):dn 0 N.aK [.t (tL l),I x] []=some (B (decide (x∈l)),[]):=by
 refine bG K.fL rfl ?_
 have h:=Lr l x hl
 have e:=IT (l:=l) (p:=fun y=>decide (y=x))
 have e2:l.any (fun y=>decide (y=x))=decide (x∈l):=by rw[Bool.eq_iff_iff];simp
 rw[e2]at e
 cases hf:(List.range l.length).find? (fun j=>decide (nth l j=x))with
 | some j=>rw[hf]at e h;simp(disch:=omega)only[go_sem,K.aK,↓reduceIte,←e,h]
 | none=>rw[hf]at e h;simp(disch:=omega)only[go_sem,K.aK,↓reduceIte,←e,h,Option.isSome_none]
theorem Ce(l:List Int)(hl:l.length≤4294967296)(f:Nat)(bs:List (List T))(p:Int→Bool)(h:∀x,x∈l→dn 0 f (I x::ie bs.length) (bj bs)=some (B (p x),bj bs)):
 dn 0 N.bh [.t (tL l),.fn f (ie bs.length)] (bj bs)=
 some (I (match (List.range l.length).find? (fun j=>p (nth l j))with | some j=>(j:Int) | none=> -1),bj bs):=by
 refine bG K.eS rfl ?_
 have loop:∀a b:D,exS dn K.ib ⟨[.t (tL l),.fn f (ie bs.length),a,b,I l.length,I 0],bj bs⟩=
  some (match (List.range l.length).find? (fun j=>p (nth l j))with
   | some j=>(.ret,⟨[.t (tL l),.fn f (ie bs.length),I j,I j,I l.length,I j],bj bs⟩)
   | none=>(.exit 0,⟨[.t (tL l),.fn f (ie bs.length),.und,.und,I l.length,I l.length],bj bs⟩)):=by
  intro a b
  refine pY (fun j=>⟨[.t (tL l),.fn f (ie bs.length),.und,.und,I l.length,I j],bj bs⟩) l.length (fun j=>p (nth l j)) _ _ rfl ?_ ?_ ?_ (by simp)
  · intro j hj hp
    have hc:=pZ (h _ (jo hj)) rfl
    simp(disch:=omega)only[go_sem,K.cL,↓reduceIte,hc,hp]
  · intro j hj hp
    have hc:=pZ (h _ (jo hj)) rfl
    simp(disch:=omega)only[go_sem,K.cL,↓reduceIte,hp,hc]
    simp
  · simp(disch:=omega)only[go_sem,K.cL,↓reduceIte]
 simp(disch:=omega)only[go_sem,K.bh,↓reduceIte,loop]
 cases hf:(List.range l.length).find? (fun j=>p (nth l j))with
 | some j=>simp(disch:=omega)only[go_sem,↓reduceIte]
 | none=>simp(disch:=omega)only[go_sem,↓reduceIte]
theorem lQ(l:List Int)(hl:l.length≤4294967296)(f:Nat)(bs:List (List T))(p:Int→Bool)(h:∀x,x∈l→dn 0 f (I x::ie bs.length) (bj bs)=some (B (p x),bj bs)):
 dn 0 N.ai [.t (tL l),.fn f (ie bs.length)] (bj bs)=some (B (l.any p),bj bs):=by
 refine bG K.dT rfl ?_
 have h:=Ce l hl f bs p h
 have hc:=zK dn bs f _ 0 (tL l) h rfl
 have e:=IT (l:=l) (p:=p)
 cases hf:(List.range l.length).find? (fun j=>p (nth l j))with
 | some j=>rw[hf]at e hc;simp(disch:=omega)only[go_sem,K.ai,↓reduceIte,←e,hc]
 | none=>rw[hf]at e hc;simp(disch:=omega)only[go_sem,K.ai,↓reduceIte,←e,hc,Option.isSome_none]
def Xx(m:fJ)(k:Nat)(back:Bool)(up down level:Int):Int:=
 let x:=nth m.roads k
 if x.closed=true∨x.walk=false then -1 else
 let a:=if back then x.to else x.frm
 let b:=if back then x.frm else x.to
 let rise:=(nth m.aP b.toNat).h-(nth m.aP a.toNat).h
 let speed:=if -10*rise>x.len then down else if 10*rise>x.len then up else level
 (10*x.len+speed-1).tdiv speed
def M0(l:List Int)(p q:Nat)(walk t:Int):Bool:=
 decide (0≤walk)&&decide (nth l p<1099511627776)&&decide (max t (nth l p+walk)≤2147483648)&&decide (max t (nth l p+walk)<nth l q)
def Xy(l:List Int)(p q:Nat)(walk t:Int):List Int:=if M0 l p q walk t=true then l.set q (max t (nth l p+walk))else l
def afv(into:Option (List Int))(p:Int):Bool:=match into with
 | none=>true
 | some l=>decide (p∈l)
def Xz(into:Option (List Int)):D:=match into with
 | none=> .nil
 | some l=> .t (tL l)
def Road.src(r:Road)(back:Bool):Int:=if back then r.to else r.frm
def Road.dst(r:Road)(back:Bool):Int:=if back then r.frm else r.to
theorem Road.BM{n:Nat}{r:Road}(h:r.ok n)(back:Bool):0≤r.src back∧r.src back<n:=by
 unfold Road.src;have:=h.f0;have:=h.f1;have:=h.t0;have:=h.t1;cases back<;>simp<;>omega
def XA(m:fJ)(t:Int)(into:Option (List Int))(k:Nat)(back:Bool)(l:List Int):List Int×Bool:=
 if afv into ((nth m.roads k).dst back)=true then
  (Xy l ((nth m.roads k).src back).toNat ((nth m.roads k).dst back).toNat (Xx m k back 6 9 12) t,M0 l ((nth m.roads k).src back).toNat ((nth m.roads k).dst back).toNat (Xx m k back 6 9 12) t)
 else(l,false)
def adl(m:fJ)(t:Int)(into:Option (List Int))(k:Nat)(s:List Int×Bool):List Int×Bool:=
 let a:=XA m t into k false s.1
 let b:=XA m t into k true a.1
 (b.1,s.2||a.2||b.2)
def M1(m:fJ)(t:Int)(into:Option (List Int))(l:List Int):Nat→List Int×Bool
 | 0=>(l,false)
 | k+1=>adl m t into k (M1 m t into l k)
def XB(m:fJ)(t:Int)(into:Option (List Int))(l:List Int):List Int×Bool:=M1 m t into l m.roads.length
section
variable {m : fJ} (h : m.ok) {t : Int} {into : Option (List Int)}
include h
end
def aex(l:List Int):Nat:=(l.map Int.toNat).sum
section
variable {m : fJ} (h : m.ok) {t : Int} {into : Option (List Int)}
include h
end
end Go.Ev
namespace Go.Ev
open Go
variable [Lib] [dt] [dm]
abbrev aU(m:fJ):List D:=[.t (.sl (m.aP.map Place.e)),.t (.sl (m.roads.map Road.e))]
@[go_sem] theorem XC (k n : Nat) (into : Option (List Int)) : old k n (Xz into) = true := by
 cases into<;>simp only[Xz,go_sem]
structure Wh where
 time:Int
 frm:List Int
instance : Dat Wh := ⟨⟨0, []⟩⟩
abbrev Wh.e(w:Wh):T:= .agg [tI w.time,tL w.frm]
def XD(m:fJ)(t:Int)(into:Option (List Int))(l:List Int):List Int:=IP (XB m t into) (aex l+1) l
def inT(t:Int):Prop:=0≤t∧t≤2147483648
instance (t : Int) : Decidable (inT t) := by unfold inT; infer_instance
def plT(x:Int):Prop:=x=1099511627776∨inT x
instance (t : Int) : Decidable (plT t) := by unfold plT; infer_instance
def M3(n:Nat):List Int:=List.replicate n 1099511627776
@[simp] theorem TQ (n : Nat) : (M3 n).length = n := List.length_replicate
def XE(m:fJ)(p t:Int):Wh×Int:=
 if p<0∨(m.aP.length:Int)≤p then(⟨0,[]⟩,3)else if inT t then(⟨t,XD m t none ((M3 m.aP.length).set p.toNat t)⟩,0)else(⟨0,[]⟩,8)
def aey(a b:List Int):Nat→List Int
 | 0=>[]
 | j+1=>aey a b j++[min (nth a j) (nth b j)]
def Qg(a b:Wh):Wh×Int:=if a.frm.length=b.frm.length then(⟨max a.time b.time,aey a.frm b.frm a.frm.length⟩,0)else(⟨0,[]⟩,6)
structure Spn where
 low:Int
 high:Int
instance : Dat Spn := ⟨⟨0, 0⟩⟩
abbrev Spn.e(f:Spn):T:= .agg [tI f.low,tI f.high]
abbrev tS(l:List Spn):T:= .sl (l.map Spn.e)
def Spn.ok(f:Spn):Prop:= -1125899906842624≤f.low∧f.high≤1125899906842624∧f.low≤f.high
instance (f : Spn) : Decidable f.ok := by unfold Spn.ok; infer_instance
def IU(m:fJ)(l:List Spn):Bool:=(List.range l.length).all (fun j=>decide (nth l j).ok)&&decide (l.length=m.roads.length)
def tK(x:Road)(f:Spn)(back:Bool):Int:=
 if x.closed=true then -1 else
 let g:=if back then -f.low else f.high
 let out:=if 0<g then(x.len*x.area*1000).tdiv g else -1
 if(if back then f.low<500*x.area else -500*x.area<f.high)∧(out<0∨x.len<out)then x.len else out
def XF(l:List Int)(p q:Nat)(t:Int):Bool:=decide (0≤t∧nth l p+t<nth l q)
def adm(l:List Int)(p q:Nat)(t:Int):List Int:=if XF l p q t=true then l.set q (nth l p+t)else l
def M4(m:fJ)(fl:List Spn)(k:Nat)(back:Bool)(l:List Int):List Int×Bool:=
 (adm l ((nth m.roads k).src back).toNat ((nth m.roads k).dst back).toNat (tK (nth m.roads k) (nth fl k) back),XF l ((nth m.roads k).src back).toNat ((nth m.roads k).dst back).toNat (tK (nth m.roads k) (nth fl k) back))
def XG(m:fJ)(fl:List Spn)(k:Nat)(s:List Int×Bool):List Int×Bool:=
 let a:=M4 m fl k false s.1
 let b:=M4 m fl k true a.1
 (b.1,s.2||a.2||b.2)
def IV(m:fJ)(fl:List Spn)(l:List Int):Nat→List Int×Bool
 | 0=>(l,false)
 | k+1=>XG m fl k (IV m fl l k)
def Qh(m:fJ)(fl:List Spn)(l:List Int):List Int×Bool:=IV m fl l m.roads.length
section
variable {m : fJ} (h : m.ok) {fl : List Spn}
include h
end
def aaq(l:List Int):Nat→List Int
 | 0=>l
 | j+1=>if 2147483648<nth (aaq l j) j then(aaq l j).set j 1099511627776 else aaq l j
def M5(m:fJ)(fl:List Spn)(l:List Int):List Int:=aaq (IP (Qh m fl) (aex l+1) l) m.aP.length
end Go.Ev
namespace Go.Ev
open Go
variable [Lib] [dt] [dm]
def plS(t x:Int):Prop:=x=1099511627776∨(t≤x∧x≤2147483648)
instance (t x : Int) : Decidable (plS t x) := by unfold plS; infer_instance
def IW(m:fJ)(s:Wh):Bool:=(List.range s.frm.length).all (fun j=>decide (plS s.time (nth s.frm j)))&&decide (s.frm.length=m.aP.length∧inT s.time)
def Qi(l:List Int)(t:Int)(n:Nat):List Int:=(List.range n).map fun(p:Nat)=>if(p:Int)∈l then t else 1099511627776
@[simp] theorem XH (l : List Int) (t : Int) (n : Nat) : (Qi l t n).length = n := by simp [Qi]
def XI(m:fJ)(fl:List Spn)(l:List Int)(t:Int):Wh×Int:=
 if IU m fl=false then(⟨0,[]⟩,6)else if Xw l m.aP.length=false then(⟨0,[]⟩,3)else if ¬inT t then(⟨0,[]⟩,8)else
 (⟨t,M5 m fl (Qi l t m.aP.length)⟩,0)
def M6(m:fJ)(fl:List Spn)(frm:List Int)(t:Int)(k:Nat)(back:Bool)(l:List Int):List Int:=
 if nth frm ((nth m.roads k).src back).toNat≤t∧0≤tK (nth m.roads k) (nth fl k) back then l.set ((nth m.roads k).dst back).toNat (min (nth l ((nth m.roads k).dst back).toNat) t)else l
def XJ(m:fJ)(fl:List Spn)(frm:List Int)(t:Int)(k:Nat)(l:List Int):List Int:=M6 m fl frm t k true (M6 m fl frm t k false l)
def chN(m:fJ)(fl:List Spn)(frm:List Int)(t:Int):Nat→List Int
 | 0=>frm
 | k+1=>XJ m fl frm t k (chN m fl frm t k)
def adn(t:Int)(l:List Int):Nat→List Int
 | 0=>l
 | k+1=>(adn t l k).set k (max (nth (adn t l k) k) t)
def Qj(m:fJ)(old:List Spn)(next:fJ)(fl:List Spn)(s:Wh)(t:Int):Wh×Int:=
 if IW m s=false∨IU m old=false∨IU next fl=false∨next.aP.length≠m.aP.length then(s,6)else
 if t<s.time∨2147483648<t then(s,8)else(⟨t,M5 next fl (adn t (chN m old s.frm t m.roads.length) m.aP.length)⟩,0)
structure World where
 tags:List Int
 whr:List Wh
instance : Dat World := ⟨⟨[], []⟩⟩
abbrev World.e(x:World):T:= .agg [tL x.tags,.sl (x.whr.map Wh.e)]
structure Bel where
 wB:List World
instance : Dat Bel := ⟨⟨[]⟩⟩
abbrev Bel.e(b:Bel):T:= .agg [.sl (b.wB.map World.e)]
def World.sz(x:World):Prop:=x.tags.length≤1000000∧x.whr.length≤1000000∧∀w∈x.whr,w.frm.length≤1000000
def Bel.sz(b:Bel):Prop:=b.wB.length≤1000000∧∀x∈b.wB,x.sz
@[go_sem] theorem Qk (l : List Wh) : bT 2 (l.map Wh.e) = true := my 2 _ (fun _ => rfl) l
@[go_sem] theorem J4 (l : List World) : bT 2 (l.map World.e) = true := my 2 _ (fun _ => rfl) l
@[go_sem] theorem aar (l : List Wh) : mg 2 (l.map Wh.e) = true := by cases l <;> rfl
@[go_sem] theorem Ql (l : List World) : mg 2 (l.map World.e) = true := by cases l <;> rfl
@[go_sem] theorem ado (H : aj) (a b : List T) : zH H 1 [.t (.sl a), .t (.sl b), .nil] = some (.t (.sl [.sl a, .sl b, .sl []]), H) := by
 simp only[zH,List.all_cons,List.all_nil,D.cells,T.cells,List.map_cons,List.map_nil,List.length_cons,List.length_nil,bQ,frz,depth,fU,List.flatMap_cons,List.flatMap_nil,pins]
 rfl
def XK(c:Bool):Option Bool→Option Bool
 | some d=>some (c&&d)
 | none=>none
@[go_sem] theorem TR (c d : Bool) : XK c (some d) = some (c && d) := (rfl)
@[go_sem] theorem TS : lA [] [] = some true := (rfl)
@[go_sem] theorem Qm (k : IntKind) (a b : Int) (xs ys : List T) : lA (.int k a :: xs) (.int k b :: ys) = XK (decide (a = b)) (lA xs ys) := by
 simp only[lA,if_true,YS]
 cases lA xs ys<;>rfl
def Qn(H:aj)(neg:Bool):Option Bool→Option (D×aj)
 | some r=>some (.t (.bool (bif neg then !r else r)),H)
 | none=>none
@[go_sem] theorem TT (H : aj) (r : Bool) : Qn H true (some r) = some (.t (.bool (!r)), H) := (rfl)
@[go_sem] theorem Qo (H : aj) (r : Bool) : Qn H false (some r) = some (.t (.bool r), H) := (rfl)
@[go_sem] theorem Qp (H : aj) (n : Nat) (neg : Bool) (xs ys : List T) : rZ H (.ints n) neg (some (.t (.agg xs))) (some (.t (.agg ys))) = if xs.length = n then Qn H neg (lA xs ys) else none := by
 simp only[rZ,aLq,NZ,eqD]
 by_cases h:xs.length=n
 · simp only[if_pos h]
   cases lA xs ys with
   | none=>rfl
   | some r=>cases neg<;>rfl
 · simp only[if_neg h];rfl
@[go_sem] theorem TU : ((2 : Nat) : Int) = 2 := (rfl)
@[go_sem] theorem M7 : ((3 : Nat) : Int) = 3 := (rfl)
def lS(n:Nat)(p:Nat→Bool):Nat:=((List.range n).find? p).getD 0
theorem Cf{gc:Bool}{dead:List Nat}{c:C}{vs:List D}{H:aj}(s:Nat→St)(n:Nat)(p:Nat→Bool)(e:Nat→Ex×St)(eN:Ex×St)
 (h0:(⟨jO dead vs,H⟩:St)=s 0)
 (hs:∀j,j<n→p j=false→lN gc dead (s j).H.length (exS dn c (s j))=some (s (j+1)))
 (he:∀j,j<n→p j=true→exS dn c (s j)=some (e j)∧(e j).1≠ .normal)
 (hN:exS dn c (s n)=some eN) (hn:eN.1≠ .normal):
 exS dn (.loop gc dead c) ⟨vs,H⟩=some (if(List.range n).any p=true then e (lS n p)else eN):=by
 rw[pY s n p e eN h0 hs he hN hn,←Lo]
 unfold lS
 cases hf:(List.range n).find? p with
 | none=>simp
 | some k=>simp
theorem Qq(n:Nat)(p:Nat→Bool):(List.range n).all p= !((List.range n).any fun j=> !p j):=by
 rw[List.all_eq_not_any_not]
end Go.Ev
namespace Go.Ev.N
def IX:Nat:=78
def Hd:Nat:=79
def Gg:Nat:=80
def Qr:Nat:=81
def J5:Nat:=82
def Qs:Nat:=83
def Qt:Nat:=84
def Qu:Nat:=85
def jC:Nat:=86
def gg:Nat:=87
def ig:Nat:=88
def M8:Nat:=89
def dD:Nat:=90
def TV:Nat:=91
def M9:Nat:=92
def TW:Nat:=93
def XL:Nat:=94
def XM:Nat:=95
def Qv:Nat:=96
def TX:Nat:=97
def Qw:Nat:=98
def Qx:Nat:=99
def ij:Nat:=100
def TY:Nat:=101
def XN:Nat:=102
def bC:Nat:=103
def eY:Nat:=104
def bl:Nat:=105
def Na:Nat:=106
def TZ:Nat:=107
def T0:Nat:=108
def Qy:Nat:=109
def ew:Nat:=110
def iS:Nat:=111
def Qz:Nat:=112
def QA:Nat:=113
def T1:Nat:=114
def gj:Nat:=115
def iT:Nat:=116
def iU:Nat:=117
def gk:Nat:=118
def gl:Nat:=119
def Lt:Nat:=120
def Lu:Nat:=121
def Fe:Nat:=122
end Go.Ev.N
namespace Go.Ev.K
open Go.Ev
def jC:Fn:= { av:=6,vars:=[0,1,2,3,4,5,6,7,8,9,12,13,14],body:=(q [w 6 (.bx v0 3),w 7 (.bx v1 4),w 8 (.bx v2 3),w 9 (.bx v3 1),w 10 (.al [z0,z0,z0,z0] []),x 11 (.i 0)] [] (.seq (q [h 3 v6,h 4 v7,h 3 v8,h 1 v9,m v5,u (.bd [.nil,z0,z0,z0,z0,z0,z0,.nil,.nil,z1,.nil,z0,z0] [(0,3,.l 4),(3,4,.l 3),(7,3,.l 2),(10,1,.l 1),(11,1,.l 0),(12,1,.i 0)]),m v4,u (.bin .leq l0 (.i 0)),u (.ca N.bC 0 [] [.l 2,.l 0]),x 12 l0] [] (.ite [m v12,u (.bin .neq l0 (.i 0))] [] 0 (q [h 4 v7,m v12,u (.st v10 l1 4 []),x 11 l1] [] .ret) .skip)) (q [m v4,m v5,u (.bd [z0,z0,z0,z0] [(0,1,.i 1),(1,1,.l 1),(3,1,.l 0)]),u (.st v10 l0 4 []),x 11 (.i 0)] [] .ret))),res:=[(10,some (4,true)),(11,none)]}
def gg:Fn:= { av:=6,vars:=[0,1,2,3,4,5,6,7,8,9,12,13,14],body:=(q [w 6 (.bx v0 3),w 7 (.bx v1 4),w 8 (.bx v2 3),w 9 (.bx v3 1),w 10 (.al [z0,z0,z0,z0] []),x 11 (.i 0)] [] (.seq (q [h 3 v6,h 4 v7,h 3 v8,h 1 v9,m v5,u (.bd [.nil,z0,z0,z0,z0,z0,z0,.nil,.nil,z1,.nil,z0,z0] [(0,3,.l 4),(3,4,.l 3),(7,3,.l 2),(10,1,.l 1),(11,1,.l 0),(12,1,.i 1)]),m v4,u (.bin .leq l0 (.i 0)),m l0,e 0 false v4,y 1 false (.fa v7 1),i 2 false l0,y 3 false (.bin .eql l2 l0),u (.pk l4 (.b true) l0),u (.ca N.bC 0 [] [.l 8,.l 0]),x 12 l0] [] (.ite [m v12,u (.bin .neq l0 (.i 0))] [] 0 (q [h 4 v7,m v12,u (.st v10 l1 4 []),x 11 l1] [] .ret) .skip)) (q [m v4,m v5,f 0 v7,u (.st l0 (.i 2) 1 []),f 2 v7,u (.st l0 l4 1 []),f 3 v7,u (.st l0 l5 1 [])] [] (q [h 4 v7,u (.st v10 l0 4 []),x 11 (.i 0)] [] .ret)))),res:=[(10,some (4,true)),(11,none)]}
def ig:Fn:= { av:=6,vars:=[0,1,2,3,4,5,6,7,8,9,12,13,14],body:=(q [w 6 (.bx v0 3),w 7 (.bx v1 4),w 8 (.bx v2 3),w 9 (.bx v3 1),w 10 (.al [z0,z0,z0,z0] []),x 11 (.i 0)] [] (.seq (q [h 3 v6,h 4 v7,h 3 v8,h 1 v9,m v4,u (.bd [.nil,z0,z0,z0,z0,z0,z0,.nil,.nil,z1,.nil,z0,z0] [(0,3,.l 4),(3,4,.l 3),(7,3,.l 2),(10,1,.l 1),(11,1,.l 0),(12,1,.i 2)]),u (.ca N.bC 0 [] [.l 0,.b false]),x 12 l0] [] (.ite [m v12,u (.bin .neq l0 (.i 0))] [] 0 (q [h 4 v7,m v12,u (.st v10 l1 4 []),x 11 l1] [] .ret) .skip)) (q [m v4,f 0 v7,u (.st l0 (.i 3) 1 []),f 3 v7,u (.st l0 l3 1 [])] [] (.seq (.ite [m v5] [] 0 (.reg [f 0 v7,u (.st l0 (.i 4) 1 [])] []) .skip) (q [h 4 v7,u (.st v10 l0 4 []),x 11 (.i 0)] [] .ret))))),res:=[(10,some (4,true)),(11,none)]}
def dD:Fn:= { av:=2,vars:=[0,1,2,3,4,34,50],body:=(q [w 2 (.bx v0 3),w 3 (.bx v1 4),x 4 (.b false)] [] (.seq (.ite [f 0 v2,g l0,u (.ln l0),u (.bin .eql l0 (.i 0)),m l0,y 0 false (.fa v2 0),i 1 false l0,y 2 false (.ca N.bl 0 [] [.l 0,.i 0,.i 63]),y 3 false (.un .not l0),u (.pk l4 (.b true) l0),m l0,y 0 false (.fa v2 1),i 1 false l0,y 2 false (.ca N.aS 0 [] [.l 0,.i 1,.i 100000]),y 3 false (.un .not l0),u (.pk l4 (.b true) l0),m l0,y 0 false (.fa v2 2),i 1 false l0,y 2 false (.ca N.aS 0 [] [.l 0,.i 1,.i 100000]),y 3 false (.un .not l0),u (.pk l4 (.b true) l0),m l0,y 0 false (.fa v3 3),i 1 false l0,y 2 false (.ca N.aS 0 [] [.l 0,.i 0,.i 2147483648]),y 3 false (.un .not l0),u (.pk l4 (.b true) l0)] [] 0 (q [x 4 (.b false)] [] .ret) .skip) (.seq (q [f 0 v3,w 5 (.ld l0 1 false)] [] (.blk 0 (.ite [u (.bin .eql v5 (.i 0)),m l0] [] 0 (q [h 4 v3,u (.bd [z0,z0,z0,z0] []),u (.eqk (.ints 4) false l1 l0),x 4 l0] [] .ret) (.ite [u (.bin .eql v5 (.i 1)),m l0] [] 0 (q [f 1 v3,g l0,u (.bin .gtr l0 (.i 0)),m l0,y 0 true (.fa v3 2),i 1 true l0,y 2 true (.bin .eql l0 (.i 0)),u (.pk l3 l0 (.b false)),x 4 l0] [] .ret) (.seq (q [u (.bin .eql v5 (.i 2)),x 6 l0] [] (.itv 6 .skip (q [u (.bin .eql v5 (.i 3)),x 6 l0] [] (.itv 6 .skip (.reg [u (.bin .eql v5 (.i 4)),x 6 l0] []))))) (.itv 6 (q [f 1 v3,g l0,u (.bin .gtr l0 (.i 0)),m l0,y 0 true (.fa v3 2),i 1 true l0,y 2 true (.bin .gtr l0 (.i 0)),u (.pk l3 l0 (.b false)),m l0,y 0 true (.fa v3 1),i 1 true l0,y 2 true (.fa v3 2),i 3 true l0,y 4 true (.bin .neq l2 l0),u (.pk l5 l0 (.b false)),x 4 l0] [] .ret) .skip)))))) (q [x 4 (.b false)] [] .ret)))),res:=[(4,none)]}
end Go.Ev.K
namespace Go.Ev
class kg [Lib]:Prop where
 uP:Lib.fs N.jC=some K.jC
 qk:Lib.fs N.gg=some K.gg
 r8:Lib.fs N.ig=some K.ig
 qm:Lib.fs N.dD=some K.dD
namespace K
variable [Lib] [kg]
theorem uP:Lib.fs N.jC=some K.jC:=kg.uP
theorem qk:Lib.fs N.gg=some K.gg:=kg.qk
theorem r8:Lib.fs N.ig=some K.ig:=kg.r8
theorem qm:Lib.fs N.dD=some K.dD:=kg.qm
end K
end Go.Ev
namespace Go.Ev.K
open Go.Ev
def ij:Fn:= { av:=3,vars:=[0,1,2,3,4,5,6],body:=(q [w 3 (.bx v0 3),w 4 (.bx v1 3),w 5 (.bx v2 1),x 6 (.b false)] [] (q [h 3 v3,u (.bd [z0,z0,z0,z0] []),u (.ca N.dD 0 [] [.l 1,.l 0]),m l0,y 0 true (.ld v4 3 true),y 1 true (.ca N.ew 0 [] [.l 0]),u (.pk l2 l0 (.b false)),m l0,y 0 true (.fa v4 2),i 1 true l0,u (.pk l2 l0 (.b false)),m l0,y 0 true (.fa v5 0),i 1 true l0,y 2 true (.ln l0),y 3 true (.bin .gtr l0 (.i 0)),u (.pk l4 l0 (.b false)),m l0,y 0 true (.ld v5 1 true),y 1 true (.fa v3 0),i 2 true l0,y 3 true (.ca N.iS 0 [] [.l 2,.l 0]),u (.pk l4 l0 (.b false)),x 6 l0] [] .ret)),res:=[(6,none)]}
def bC:Fn:= { av:=2,vars:=[0,1,2,4],body:=(q [w 2 (.bx v0 13),x 3 (.i 0)] [] (.seq (.blk 0 (.ite [f 0 v2,h 3 l0,f 3 v2,h 4 l0,u (.ca N.dD 0 [] [.l 2,.l 0]),u (.un .not l0),m l0] [] 0 (q [x 3 (.i 6)] [] .ret) (.ite [f 3 v2,f 0 l0,g l0,f 12 v2,g l0,u (.bin .neq l2 l0),m l0] [] 0 (q [x 3 (.i 10)] [] .ret) (.ite [f 11 v2,g l0,u (.bin .lss l0 (.i 0)),m l0,y 0 false (.fa v2 3),y 1 false (.ld l0 4 true),y 2 false (.fa v2 11),i 3 false l0,y 4 false (.ca N.eY 0 [] [.l 2,.l 0]),y 5 false (.un .not l0),u (.pk l6 (.b true) l0),m l0] [] 0 (q [x 3 (.i 8)] [] .ret) (.ite [m v1,m l0] [] 0 (q [x 3 (.i 19)] [] .ret) (.ite [f 12 v2,g l0,u (.bin .neq l0 (.i 0)),m l0,y 0 true (.fa v2 11),i 1 true l0,y 2 true (.fa v2 3),y 3 true (.fa l0 3),i 4 true l0,y 5 true (.bin .sub l3 l0),y 6 true (.fa v2 0),y 7 true (.fa l0 1),i 8 true l0,y 9 true (.bin .gtr l3 l0),u (.pk l10 l0 (.b false)),m l0] [] 0 (q [x 3 (.i 10)] [] .ret) (.ite [f 7 v2,h 3 l0,u (.ca N.ew 0 [] [.l 0]),u (.un .not l0),m l0,y 0 false (.fa v2 7),y 1 false (.fa l0 2),i 2 false l0,y 3 false (.un .not l0),u (.pk l4 (.b true) l0),m l0] [] 0 (q [x 3 (.i 48)] [] .ret) (.ite [f 0 v2,h 3 l0,f 7 v2,h 3 l0,f 10 v2,h 1 l0,u (.ca N.ij 0 [] [.l 4,.l 2,.l 0]),u (.un .not l0),m l0] [] 0 (q [x 3 (.i 49)] [] .ret) .skip)))))))) (q [x 3 (.i 0)] [] .ret))),res:=[(3,none)]}
def eY:Fn:= { av:=2,vars:=[0,1,2,4],body:=(q [w 2 (.bx v0 4),x 3 (.b false)] [] (q [m v1,f 3 v2,g l0,u (.bin .geq l2 l0),m l0,e 0 true v1,y 1 true (.bin .leq l0 (.i 2147483648)),u (.pk l2 l0 (.b false)),x 3 l0] [] .ret)),res:=[(3,none)]}
def dU:C:= (.its [u (.bin .lss v8 v7)] [] 0 .skip (.exit 0) (.seq (.blk 1 (q [m v8,a 1 v6 v8,g l0,x 4 l2,x 5 l1] [] (.ite [m v5,m v1,u (.bin .lss l1 l0),m l0,e 0 false v5,e 1 false v2,y 2 false (.bin .gtr l1 l0),u (.pk l3 (.b true) l0),m l0,e 0 false v4,y 1 false (.bin .gtr l0 (.i 0)),e 2 false l0,e 0 true v5,e 1 true v0,e 2 true v4,y 3 true (.bin .sub l0 (.i 1)),y 4 true (.ia l2 l0 1),i 5 true l0,y 6 true (.bin .leq l5 l0),y 10 false (.pk l7 l0 (.b false)),u (.pk l11 (.b true) l0)] [] 0 (q [x 3 (.b false)] [] .ret) .skip))) (.reg [u (.bin .add v8 (.i 1)),x 8 l0] [])))
def o9:C:= .loop true [3,4,5] K.dU
def bl:Fn:= { av:=3,vars:=[0,1,2,6,7,8,9,10,11],body:=(q [x 3 (.b false)] [] (.seq (q [x 6 v0,w 7 (.ln l0),x 8 (.i 0)] [] (.blk 0 K.o9)) (q [x 3 (.b true)] [] .ret))),res:=[(3,none)]}
def ew:Fn:= { av:=1,vars:=[0,1,2,3],body:=(q [w 1 (.bx v0 3),x 2 (.b false)] [] (q [w 3 (.mv (.c (.fn N.gj [])))] [] (q [f 0 v1,g l0,u (.ca N.iT 0 [] [.l 0]),m l0,y 0 true (.fa v1 1),i 1 true l0,y 2 true (.ln l0),y 3 true (.fa v1 0),i 4 true l0,y 5 true (.ln l0),y 6 true (.bin .eql l3 l0),u (.pk l7 l0 (.b false)),m l0,y 0 true (.fa v1 1),i 1 true l0,e 2 true v3,y 3 true (.ca N.ai 0 [] [.l 1,.l 0]),y 4 true (.un .not l0),u (.pk l5 l0 (.b false)),m l0,y 0 true (.fa v1 2),i 1 true l0,y 2 true (.un .not l0),e 3 true l0,y 0 false (.ld v1 3 true),y 1 false (.ca N.iU 0 [] [.l 0]),y 6 true (.pk l2 (.b true) l0),u (.pk l7 l0 (.b false)),x 2 l0] [] .ret))),res:=[(2,none)]}
def yA:C:= (.its [u (.bin .lss v11 v10)] [] 0 .skip (.exit 2) (.seq (.blk 3 (q [a 2 v9 v11,h 2 l0,w 5 (.al [z0,.nil] []),u (.st l0 l1 2 [])] [] (.ite [m v1,u (.mf N.gk [.v 5]),u (.ca N.ai 0 [] [.l 1,.l 0])] [] 0 (q [x 3 (.b false)] [] .ret) .skip))) (.reg [u (.bin .add v11 (.i 1)),x 11 l0] [])))
def AF:C:= .loop true [0,2,3,4,5] K.yA
def yB:C:= (.its [u (.bin .lss v8 v7)] [] 0 .skip (.exit 0) (.seq (.blk 1 (q [a 2 v6 v8,h 2 l0,w 4 (.al [.nil,.nil] []),u (.st l0 l1 2 [])] [] (q [f 1 v4,w 9 (.ld l0 1 false),w 10 (.ln l0),x 11 (.i 0)] [] (.blk 2 K.AF)))) (.reg [u (.bin .add v8 (.i 1)),x 8 l0] [])))
def AG:C:= .loop true [0,2,3,4,5,9,10,11] K.yB
def iS:Fn:= { av:=2,vars:=[0,1,2,4,6,8,10,11,12,17,18,19],body:=(q [w 2 (.bx v0 1),x 3 (.b false)] [] (.seq (q [f 0 v2,w 6 (.ld l0 1 false),w 7 (.ln l0),x 8 (.i 0)] [] (.blk 0 K.AG)) (q [x 3 (.b true)] [] .ret))),res:=[(3,none)]}
def gj:Fn:= { av:=1,vars:=[0,2],body:=(q [x 1 (.b false)] [] (q [m v0,u (.ca N.aS 0 [] [.l 0,.i 0,.i 2]),u (.un .not l0),x 1 l0] [] .ret)),res:=[(1,none)]}
def iT:Fn:= { av:=1,vars:=[0,2],body:=(q [x 1 (.b false)] [] (q [m v0,u (.ln l0),u (.ca N.aS 0 [] [.l 0,.i 1,.i 12]),m l0,e 0 true v0,y 1 true (.ca N.bl 0 [] [.l 0,.i 0,.i 127]),u (.pk l2 l0 (.b false)),x 1 l0] [] .ret)),res:=[(1,none)]}
def iU:Fn:= { av:=1,vars:=[0,1,2],body:=(q [w 1 (.bx v0 3),x 2 (.b false)] [] (q [f 1 v1,g l0,u (.ca N.ai 0 [] [.l 0,.c (.fn N.gl [])]),u (.un .not l0),x 2 l0] [] .ret)),res:=[(2,none)]}
def gk:Fn:= { av:=2,vars:=[0,1,3],body:=(q [x 2 (.b false)] [] (q [m v0,f 1 v1,g l0,u (.ln l0),u (.bin .sub l0 (.i 1)),u (.ca N.aS 0 [] [.l 4,.i 0,.l 0]),m l0,y 0 true (.fa v1 1),i 1 true l0,e 2 true v0,y 3 true (.ia l1 l0 1),i 4 true l0,y 5 true (.bin .neq l0 (.i 1099511627776)),u (.pk l6 l0 (.b false)),x 2 l0] [] .ret)),res:=[(2,none)]}
def gl:Fn:= { av:=1,vars:=[0,2],body:=(q [x 1 (.b false)] [] (q [m v0,u (.bin .neq l0 (.i 2)),x 1 l0] [] .ret)),res:=[(1,none)]}
end Go.Ev.K
namespace Go.Ev
class jj [Lib]:Prop where
 r9:Lib.fs N.ij=some K.ij
 kn:Lib.fs N.bC=some K.bC
 pb:Lib.fs N.eY=some K.eY
 mL:Lib.fs N.bl=some K.bl
 uQ:Lib.fs N.ew=some K.ew
 uR:Lib.fs N.iS=some K.iS
 qn:Lib.fs N.gj=some K.gj
 uS:Lib.fs N.iT=some K.iT
 uT:Lib.fs N.iU=some K.iU
 qo:Lib.fs N.gk=some K.gk
 qp:Lib.fs N.gl=some K.gl
namespace K
variable [Lib] [jj]
theorem r9:Lib.fs N.ij=some K.ij:=jj.r9
theorem kn:Lib.fs N.bC=some K.bC:=jj.kn
theorem pb:Lib.fs N.eY=some K.eY:=jj.pb
theorem mL:Lib.fs N.bl=some K.bl:=jj.mL
theorem uQ:Lib.fs N.ew=some K.ew:=jj.uQ
theorem uR:Lib.fs N.iS=some K.iS:=jj.uR
theorem qn:Lib.fs N.gj=some K.gj:=jj.qn
theorem uS:Lib.fs N.iT=some K.iT:=jj.uS
theorem uT:Lib.fs N.iU=some K.iU:=jj.uT
theorem qo:Lib.fs N.gk=some K.gk:=jj.qo
theorem qp:Lib.fs N.gl=some K.gl:=jj.qp
end K
end Go.Ev
namespace Go.Ev
open Go
variable [Lib] [dt] [dm] [kg] [jj]
def J6(l:List Int)(lo hi:Int)(j:Nat):Bool:= !decide (lo≤nth l j∧nth l j≤hi∧(0<j→nth l (j-1)<nth l j))
def aas(l:List Int)(lo hi:Int):Bool:= !((List.range l.length).any (J6 l lo hi))
theorem xi(l:List Int)(lo hi:Int)(hl:l.length≤4294967296):dn 0 N.bl [.t (tL l),I lo,I hi] []=some (B (aas l lo hi),[]):=by
 refine bG K.mL rfl ?_
 have loop:∀a b c:D,exS dn K.o9 ⟨[.t (tL l),I lo,I hi,a,b,c,.t (tL l),I l.length,I 0],[]⟩=
  some (if(List.range l.length).any (J6 l lo hi)=true
   then(.ret,⟨[.t (tL l),I lo,I hi,B false,I (lS l.length (J6 l lo hi)),I (nth l (lS l.length (J6 l lo hi))),.t (tL l),I l.length,I (lS l.length (J6 l lo hi))],[]⟩)
   else(.exit 0,⟨[.t (tL l),I lo,I hi,.und,.und,.und,.t (tL l),I l.length,I l.length],[]⟩)):=by
  intro a b c
  refine Cf (fun j=>⟨[.t (tL l),I lo,I hi,.und,.und,.und,.t (tL l),I l.length,I j],[]⟩) l.length (J6 l lo hi) (fun j=>(.ret,⟨[.t (tL l),I lo,I hi,B false,I j,I (nth l j),.t (tL l),I l.length,I j],[]⟩)) _ rfl ?_ ?_ ?_ (by simp)
  · intro j hj hp
    simp only[J6,Bool.not_eq_false',decide_eq_true_eq]at hp
    obtain⟨h1,h2,h3⟩:=hp
    cases j with
    | zero=>simp(disch:=omega)only[go_sem,K.dU,↓reduceIte]
    | succ j=>
      have h3:=h3 (by omega)
      rw[Nat.add_sub_cancel]at h3
      simp(disch:=omega)only[go_sem,K.dU,↓reduceIte]
  · intro j hj hp
    simp only[J6,Bool.not_eq_true',decide_eq_false_iff_not]at hp
    refine⟨?_,by simp⟩
    by_cases h1:lo≤nth l j
    · by_cases h2:nth l j≤hi
      · cases j with
        | zero=>exact absurd ⟨h1,h2,fun h=>absurd h (by omega)⟩ hp
        | succ j=>
          have h3:¬nth l j<nth l (j+1):=fun h=>hp ⟨h1,h2,fun _=>by simpa using h⟩
          simp(disch:=omega)only[go_sem,K.dU,↓reduceIte]
      · simp(disch:=omega)only[go_sem,K.dU,↓reduceIte]
    · simp(disch:=omega)only[go_sem,K.dU,↓reduceIte]
  · simp(disch:=omega)only[go_sem,K.dU,↓reduceIte]
 unfold aas
 simp(disch:=omega)only[go_sem,K.bl,↓reduceIte,loop]
 cases hf:(List.range l.length).any (J6 l lo hi)with
 | true=>simp(disch:=omega)only[go_sem,↓reduceIte]
 | false=>simp(disch:=omega)only[go_sem,↓reduceIte,aLt]
theorem DO(l:List Int)(n:Int):aas l 0 (n-1)=Xw l n:=by
 unfold aas Xw
 rw[Qq]
 refine congrArg (!·) (congrArg _ (funext fun j=>?_))
 unfold J6
 refine congrArg (!·) (decide_eq_decide.2 ⟨fun h=>⟨h.1,by omega,h.2.2⟩,fun h=>⟨h.1,by omega,h.2.2⟩⟩)
structure aat where
 st:Int
 fi:Int
 se:Int
 ti:Int
abbrev aat.e(s:aat):T:= .agg [tI s.st,tI s.fi,tI s.se,tI s.ti]
structure Lv where
 area:List Int
 hold:Int
 mis:Int
abbrev Lv.e(x:Lv):T:= .agg [tL x.area,tI x.hold,tI x.mis]
structure Keys where
 roads:List Int
 keys:List Int
 out:Bool
abbrev Keys.e(k:Keys):T:= .agg [tL k.roads,tL k.keys,.bool k.out]
end Go.Ev
namespace Go.Ev
open Go
variable [Lib] [dt] [dm]
@[go_sem] theorem QB (l : List Place) : mg 2 (l.map Place.e) = true := by cases l <;> rfl
@[go_sem] theorem T2 (l : List Road) : mg 10 (l.map Road.e) = true := by cases l <;> rfl
@[go_sem] theorem T3 (H : aj) (d : aX) : K0 H 0 1 false (some d.obj) = some (.t (tL d.L), H) := by simp only [aX.obj, go_sem]
def aX.dE(d:aX):Nat→List Place×aX
 | 0=>([],d)
 | k+1=>if k=0 then((d.dE k).1++[⟨-10*((d.dE k).2.next 4).1,true⟩],((d.dE k).2.next 4).2)
   else((d.dE k).1++[⟨-10*((d.dE k).2.next 4).1,(((d.dE k).2.next 4).2.one 6).1⟩],(((d.dE k).2.next 4).2.one 6).2)
def aX.Gi(d:aX)(i:Int):Road×aX:=
 (⟨i-1-(d.next (min i 2)).1,i,1+((d.next (min i 2)).2.of [11,59,119,4]).1,1+(((d.next (min i 2)).2.of [11,59,119,4]).2.of [9,3,19]).1,true,false,1,1,0,0⟩,
   (((d.next (min i 2)).2.of [11,59,119,4]).2.of [9,3,19]).2)
def aX.j5(d:aX):Nat→List Road×aX
 | 0=>([],d)
 | k+1=>((d.j5 k).1++[((d.j5 k).2.Gi (k+1)).1],((d.j5 k).2.Gi (k+1)).2)
def aX.nQ(d:aX)(n:Int):Road×aX:=
 let a:=d.next n
 let b:=a.2.next n
 let l:=b.2.of [11,59,199]
 let r:=l.2.of [9,3]
 let w:=r.2.next 5
 let c:=w.2.one 6
 (⟨a.1,b.1,1+l.1,1+r.1,decide (0<w.1),c.1,1,1,0,0⟩,c.2)
def aX.more(n:Int)(l:List Road)(d:aX):Nat→List Road×aX
 | 0=>(l,d)
 | k+1=>if l.length<10 then aX.more n (if(d.nQ n).1.frm=(d.nQ n).1.to then l else l++[(d.nQ n).1]) (d.nQ n).2 k else(l,d)
def aX.qY(d:aX):Nat:=if d.L.length=0 then 4 else(2+(d.next 6).1).toNat
def aX.IY(d:aX):List Place×aX:=(d.next 6).2.dE d.qY
def aX.AH(d:aX):List Road×aX:=d.IY.2.j5 (d.qY-1)
def aX.Lw(d:aX):List Road×aX:=aX.more d.qY d.AH.1 (d.AH.2.next 4).2 (d.AH.2.next 4).1.toNat
def aX.Nb(d:aX):fJ×aX:=(⟨d.IY.1,d.Lw.1⟩,d.Lw.2)
theorem aX.j6{d:aX}(h:d.fX):∀n,(d.dE n).2.fX
 | 0=>h
 | n+1=>by
   unfold aX.dE
   split
   · exact aX.cn (aX.j6 h n) 4
   · exact aX.xh (aX.cn (aX.j6 h n) 4) 6
theorem aX.nS(d:aX):∀n,(d.dE n).1.length=n
 | 0=>rfl
 | n+1=>by
   unfold aX.dE
   split<;>simp[d.nS n]
theorem aX.DP{d:aX}(h:d.fX)(i:Int):(d.Gi i).2.fX:=aX.iR (aX.iR (aX.cn h _) _) _
theorem aX.mz{d:aX}(h:d.fX):∀n,(d.j5 n).2.fX
 | 0=>h
 | n+1=>aX.DP (aX.mz h n) _
theorem aX.p4(d:aX):∀n,(d.j5 n).1.length=n
 | 0=>rfl
 | n+1=>by simp[aX.j5,d.p4 n]
theorem aX.xj{d:aX}(h:d.fX)(n:Int):(d.nQ n).2.fX:=by
 unfold aX.nQ;simp only
 exact aX.xh (aX.cn (aX.iR (aX.iR (aX.cn (aX.cn h _) _) _) _) _) _
theorem aX.zM(n:Int):∀(k:Nat) (l:List Road) {d:aX},d.fX→(aX.more n l d k).2.fX
 | 0,l,d,h=>h
 | k+1,l,d,h=>by
   unfold aX.more
   split
   · exact aX.zM n k _ (aX.xj h n)
   · exact h
theorem aX.Gj{d:aX}(h:d.fX):d.Nb.2.fX:=
 aX.zM _ _ _ (aX.cn (aX.mz (aX.j6 (aX.cn h _) _) _) _)
abbrev AI:List D:=[I 0,I 0,I 12,I 10,B true,B false,I 1,I 1,I 0,I 0]
theorem Gk(d:aX)(hd:d.fX)(n:Nat)(hn:n≤8)(a b c e f:D):
 exS dn K.mY ⟨[.bp 0 0,.bp 1 0,.bp 2 0,I n,I 0,a,b,c,e,f],[d.obj,.box [.nil,.nil],.box [.ref 3 0 0,.ref 4 0 0],.arr 2 false 0 [],.arr 10 false 0 []]⟩=
 some (.exit 0,⟨[.bp 0 0,.bp 1 0,.bp 2 0,I n,I n,.und,.und,.und,.und,.und],[(d.dE n).2.obj,.box [.nil,.nil],.box [.ref 3 0 (d.dE n).1.length,.ref 4 0 0],.arr 2 false 0 (((d.dE n).1.map Place.e).map .t),.arr 10 false 0 []]⟩):=by
 refine lj (fun j=>⟨[.bp 0 0,.bp 1 0,.bp 2 0,I n,I j,.und,.und,.und,.und,.und],[(d.dE j).2.obj,.box [.nil,.nil],.box [.ref 3 0 (d.dE j).1.length,.ref 4 0 0],.arr 2 false 0 (((d.dE j).1.map Place.e).map .t),.arr 10 false 0 []]⟩) n rfl ?_ ?_ (by simp)
 · intro j hj
   have ln:=d.nS j
   have lt:=aX.j6 hd j
   simp only[aX.dE]
   generalize d.dE j=s at*
   obtain⟨l,d1⟩:=s
   simp only at ln lt ⊢
   have h1:=mK d1 4 (by omega) lt
   have b1:=d1.lk 4
   have b2:=d1.lq (n:=4) (by omega)
   have l1:=aX.cn lt 4
   generalize d1.next 4=a1 at*
   obtain⟨x,d2⟩:=a1
   simp only at h1 b1 b2 l1 ⊢
   by_cases j0:j=0
   · subst j0
     simp(disch:=omega)only[go_sem,K.gV,h1,↓reduceIte,reduceAdd,reduceSub]
   · have h2:=IN d2 6 (by omega) (by omega) l1
     simp(disch:=omega)only[go_sem,K.gV,h1,h2,j0,↓reduceIte,reduceAdd,reduceSub]
 · simp(disch:=omega)only[go_sem,K.gV,↓reduceIte]
theorem Gl(d:aX)(hd:d.fX)(n:Nat)(hn:n≤8)(h1:1≤n)(ps:List Place)(a b c e:D):
 exS dn K.mZ ⟨[.bp 0 0,.bp 1 0,.bp 2 0,I n,a,.bp 5 0,I 1,b,c,e],[d.obj,.box [.nil,.nil],.box [.ref 3 0 ps.length,.ref 4 0 0],.arr 2 false 0 ((ps.map Place.e).map .t),.arr 10 false 0 [],.box AI]⟩=
 some (.exit 2,⟨[.bp 0 0,.bp 1 0,.bp 2 0,I n,.und,.bp 5 0,I n,.und,.und,.und],[(d.j5 (n-1)).2.obj,.box [.nil,.nil],.box [.ref 3 0 ps.length,.ref 4 0 (d.j5 (n-1)).1.length],.arr 2 false 0 ((ps.map Place.e).map .t),.arr 10 false 0 (((d.j5 (n-1)).1.map Road.e).map .t),.box AI]⟩):=by
 refine lj (fun j=>⟨[.bp 0 0,.bp 1 0,.bp 2 0,I n,.und,.bp 5 0,I (j+1),.und,.und,.und],[(d.j5 j).2.obj,.box [.nil,.nil],.box [.ref 3 0 ps.length,.ref 4 0 (d.j5 j).1.length],.arr 2 false 0 ((ps.map Place.e).map .t),.arr 10 false 0 (((d.j5 j).1.map Road.e).map .t),.box AI]⟩) (n-1) rfl ?_ ?_ (by simp)
 · intro j hj
   have ln:=d.p4 j
   have lt:=aX.mz hd j
   simp only[aX.j5]
   generalize d.j5 j=s at*
   obtain⟨l,d1⟩:=s
   simp only[aX.Gi]at ln lt ⊢
   have h1:=mK d1 (min ((j:Int)+1) 2) (by omega) lt
   have b1:=d1.lk (min ((j:Int)+1) 2)
   have b2:=d1.lq (n:=min ((j:Int)+1) 2) (by omega)
   have l1:=aX.cn lt (min ((j:Int)+1) 2)
   generalize d1.next (min ((j:Int)+1) 2)=a1 at*
   obtain⟨x,d2⟩:=a1
   simp only at h1 b1 b2 l1 ⊢
   have h2:=DH d2 [11,59,119,4] (by simp) (by simp) l1
   have m2:=d2.mw (l:=[11,59,119,4]) (by simp)
   have l2:=aX.iR l1 [11,59,119,4]
   generalize d2.of [11,59,119,4]=a2 at*
   obtain⟨y,d3⟩:=a2
   simp only[tL,List.map_cons,List.map_nil]at h2 m2 l2 ⊢
   have h3:=DH d3 [9,3,19] (by simp) (by simp) l2
   have m3:=d3.mw (l:=[9,3,19]) (by simp)
   generalize d3.of [9,3,19]=a3 at*
   obtain⟨z,d4⟩:=a3
   simp only[tL,List.map_cons,List.map_nil,List.mem_cons,List.not_mem_nil,or_false]at h3 m2 m3 ⊢
   simp(disch:=omega)only[go_sem,K.jY,h1,h2,h3,↓reduceIte,reduceAdd,reduceSub]
 · simp(disch:=omega)only[go_sem,K.jY,↓reduceIte]
   rw[show((n-1:Nat):Int)+1=n by omega]
abbrev Cg(d:aX)(ps:List Place)(l:List Road):aj:=[d.obj,.box [.nil,.nil],.box [.ref 3 0 ps.length,.ref 4 0 l.length],.arr 2 false 0 ((ps.map Place.e).map .t),.arr 10 false 0 ((l.map Road.e).map .t),.box AI]
theorem Gm(d:aX)(hd:d.fX)(n:Int)(hn:1≤n)(hn2:n≤8)(ps:List Place)(l:List Road)(hl:l.length<10)(k:Nat)(hk:k≤10):
 lN true [4,6,7,9] 6 (exS dn K.cY ⟨[.bp 0 0,.bp 1 0,.bp 2 0,I n,.und,.bp 5 0,.und,.und,I (k+1),.und],Cg d ps l⟩)=
 some ⟨[.bp 0 0,.bp 1 0,.bp 2 0,I n,.und,.bp 5 0,.und,.und,I k,.und],Cg (d.nQ n).2 ps (if(d.nQ n).1.frm=(d.nQ n).1.to then l else l++[(d.nQ n).1])⟩:=by
 unfold aX.nQ Cg
 simp only
 have h1:=mK d n (by omega) hd
 have l1:=aX.cn hd n
 generalize d.next n=a1 at*
 obtain⟨x1,d1⟩:=a1
 simp only at h1 l1 ⊢
 have h2:=mK d1 n (by omega) l1
 have l2:=aX.cn l1 n
 generalize d1.next n=a2 at*
 obtain⟨x2,d2⟩:=a2
 simp only at h2 l2 ⊢
 have h3:=DH d2 [11,59,199] (by simp) (by simp) l2
 have m3:=d2.mw (l:=[11,59,199]) (by simp)
 have l3:=aX.iR l2 [11,59,199]
 generalize d2.of [11,59,199]=a3 at*
 obtain⟨x3,d3⟩:=a3
 simp only[tL,List.map_cons,List.map_nil]at h3 m3 l3 ⊢
 have h4:=DH d3 [9,3] (by simp) (by simp) l3
 have m4:=d3.mw (l:=[9,3]) (by simp)
 have l4:=aX.iR l3 [9,3]
 generalize d3.of [9,3]=a4 at*
 obtain⟨x4,d4⟩:=a4
 simp only[tL,List.map_cons,List.map_nil]at h4 m4 l4 ⊢
 have h5:=mK d4 5 (by omega) l4
 have l5:=aX.cn l4 5
 generalize d4.next 5=a5 at*
 obtain⟨x5,d5⟩:=a5
 simp only at h5 l5 ⊢
 have h6:=IN d5 6 (by omega) (by omega) l5
 generalize d5.one 6=a6 at*
 obtain⟨x6,d6⟩:=a6
 simp only[List.mem_cons,List.not_mem_nil,or_false]at h6 m3 m4 ⊢
 by_cases e:x1=x2
 · simp(disch:=omega)only[go_sem,K.cY,h1,h2,h3,h4,h5,h6,e,↓reduceIte,reduceAdd,reduceSub]
 · simp(disch:=omega)only[go_sem,K.cY,h1,h2,h3,h4,h5,h6,e,↓reduceIte,reduceAdd,reduceSub]
theorem zN(n:Int)(hn:1≤n)(hn2:n≤8)(ps:List Place):∀(k:Nat) (d:aX) (l:List Road),d.fX→l.length≤10→k≤10→
 ∃z:Int,oI true [4,6,7,9] (exS dn K.cY) ⟨[.bp 0 0,.bp 1 0,.bp 2 0,I n,.und,.bp 5 0,.und,.und,I k,.und],Cg d ps l⟩=
 some (.exit 4,⟨[.bp 0 0,.bp 1 0,.bp 2 0,I n,.und,.bp 5 0,.und,.und,I z,.und],Cg (aX.more n l d k).2 ps (aX.more n l d k).1⟩)
 | 0,d,l,hd,hl,hk=>by
   refine⟨0,jA ?_ (by simp)⟩
   simp(disch:=omega)only[go_sem,K.cY,aX.more,↓reduceIte,reduceAdd,reduceSub]
 | k+1,d,l,hd,hl,hk=>by
   by_cases h:l.length<10
   · have hr:=Gm d hd n hn hn2 ps l h k (by omega)
     obtain⟨z,hz⟩:=zN n hn hn2 ps k (d.nQ n).2 (if(d.nQ n).1.frm=(d.nQ n).1.to then l else l++[(d.nQ n).1]) (aX.xj hd n) (by split<;>(try rw[aLv,List.length_singleton])<;>omega) (by omega)
     refine⟨z,tE hr ?_⟩
     rw[hz]
     simp only[aX.more,if_pos h]
   · refine⟨(k:Int)+1,jA ?_ (by simp)⟩
     simp(disch:=omega)only[go_sem,K.cY,aX.more,↓reduceIte,reduceAdd,reduceSub]
theorem aX.Ff(n:Int):∀(k:Nat) (l:List Road) (d:aX),l.length≤10→(aX.more n l d k).1.length≤10
 | 0,l,d,h=>h
 | k+1,l,d,h=>by
   unfold aX.more
   split
   · exact aX.Ff n k _ _ (by split<;>(try rw[aLv,List.length_singleton])<;>omega)
   · exact h
theorem aX.wx(d:aX):2≤d.qY∧d.qY≤7:=by
 unfold aX.qY
 have:=d.lk 6
 have:=d.lq (n:=6) (by omega)
 split<;>omega
theorem QC(d:aX)(hd:d.fX):dn 0 N.b6 [.bp 0 0] [d.obj]=some (.t d.Nb.1.e,[d.Nb.2.obj]):=by
 refine bG K.lf rfl ?_
 have nb:=d.wx
 unfold aX.Nb
 have h0:=mK d 6 (by omega) hd
 have l0:=aX.cn hd 6
 have b1:=d.lk 6
 have b2:=d.lq (n:=6) (by omega)
 have hL:=d.MX 6
 have hN:(d.qY:Int)=if d.L.length=0 then 4 else 2+(d.next 6).1:=by unfold aX.qY;split<;>omega
 have e1:d.Lw=aX.more d.qY d.AH.1 (d.AH.2.next 4).2 (d.AH.2.next 4).1.toNat:=rfl
 have e2:d.AH=d.IY.2.j5 (d.qY-1):=rfl
 have e3:d.IY=(d.next 6).2.dE d.qY:=rfl
 generalize d.Lw=X at*
 generalize d.AH=R at*
 generalize d.IY=P at*
 generalize d.qY=n at*
 generalize d.next 6=a at*
 obtain⟨x,d1⟩:=a
 simp only at h0 l0 b1 b2 hL hN e3 ⊢
 have q1:=Gk d1 l0 n (by omega)
 have lP:=aX.j6 l0 n
 have nP:=d1.nS n
 rw[← e3]at q1 lP nP
 obtain⟨ps,d2⟩:=P
 simp only at q1 lP nP e2 ⊢
 have q2:=Gl d2 lP n (by omega) (by omega) ps
 have lR:=aX.mz lP (n-1)
 have nR:=d2.p4 (n-1)
 rw[← e2]at q2 lR nR
 obtain⟨rs,d3⟩:=R
 simp only at q2 lR nR e1 ⊢
 have h4:=mK d3 4 (by omega) lR
 have l4:=aX.cn lR 4
 have b3:=d3.lk 4
 have b4:=d3.lq (n:=4) (by omega)
 generalize d3.next 4=c at*
 obtain⟨y,d4⟩:=c
 simp only at h4 l4 b3 b4 e1 ⊢
 obtain⟨z,q3⟩:=zN n (by omega) (by omega) ps y.toNat d4 rs l4 (by omega) (by omega)
 rw[← e1]at q3
 have q3:=IM (vs:=[.bp 0 0,.bp 1 0,.bp 2 0,I n,.und,.bp 5 0,I n,.und,I y.toNat,.und]) q3
 have ey:(y.toNat:Int)=y:=by omega
 rw[ey]at q3
 obtain⟨xs,d5⟩:=X
 have fin:∀k:Int,(exS dn K.m0 ⟨[.bp 0 0,.bp 1 0,.bp 2 0,I n,.und,.bp 5 0,I n,.und,I y,.und],Cg d4 ps rs⟩)=
  some (.exit 4,⟨[.bp 0 0,.bp 1 0,.bp 2 0,I n,.und,.bp 5 0,.und,.und,I z,.und],Cg d5 ps xs⟩):=fun _=>q3
 clear q3
 have q3:=fin 0
 clear fin
 simp only[Cg]at q3
 by_cases c0:d.L.length=0
 · rw[if_pos c0]at hN
   obtain rfl:n=4:=by omega
   have e4:((4:Nat):Int)=4:=rfl
   simp only[e4]at q1 q2 q3
   simp(disch:=omega)only[go_sem,K.b6,↓reduceIte,h0,c0,q1,q2,q3,h4,hL,reduceAdd,reduceSub]
 · rw[if_neg c0]at hN
   simp(disch:=omega)only[go_sem,K.b6,↓reduceIte,h0,c0,q1,q2,q3,h4,hL,hN.symm,reduceAdd,reduceSub]
theorem aX.Lx(d:aX){n:Nat}{i:Int}(h1:1≤i)(h2:i<n):(d.Gi i).1.ok n:=by
 have b1:=d.lk (min i 2)
 have b2:=d.lq (n:=min i 2) (by omega)
 have m2:=(d.next (min i 2)).2.mw (l:=[11,59,119,4]) (by simp)
 have m3:=((d.next (min i 2)).2.of [11,59,119,4]).2.mw (l:=[9,3,19]) (by simp)
 simp only[List.mem_cons,List.not_mem_nil,or_false]at m2 m3
 unfold aX.Gi
 constructor<;>(simp only;omega)
theorem aX.Ch(d:aX){n:Nat}:∀k,k+1≤n→∀r∈(d.j5 k).1,r.ok n
 | 0,_,r,hr=>by simp[aX.j5]at hr
 | k+1,h,r,hr=>by
   simp only[aX.j5,List.mem_append,List.mem_singleton]at hr
   rcases hr with hr | rfl
   · exact d.Ch k (by omega) r hr
   · exact aX.Lx _ (by omega) (by omega)
theorem aX.Lz(d:aX){n:Nat}(hn:1≤n)(hne:(d.nQ n).1.frm≠(d.nQ n).1.to):(d.nQ n).1.ok n:=by
 unfold aX.nQ at hne ⊢
 simp only at hne ⊢
 have b1:=d.lk n
 have b2:=d.lq (n:=(n:Int)) (by omega)
 generalize d.next n=a1 at*
 obtain⟨x1,d1⟩:=a1
 simp only at*
 have c1:=d1.lk n
 have c2:=d1.lq (n:=(n:Int)) (by omega)
 generalize d1.next n=a2 at*
 obtain⟨x2,d2⟩:=a2
 simp only at*
 have m3:=d2.mw (l:=[11,59,199]) (by simp)
 generalize d2.of [11,59,199]=a3 at*
 obtain⟨x3,d3⟩:=a3
 simp only at*
 have m4:=d3.mw (l:=[9,3]) (by simp)
 generalize d3.of [9,3]=a4 at*
 obtain⟨x4,d4⟩:=a4
 simp only[List.mem_cons,List.not_mem_nil,or_false]at m3 m4 ⊢
 constructor<;>(simp only;omega)
theorem aX.IZ{n:Nat}(hn:1≤n):∀(k:Nat) (l:List Road) (d:aX),(∀r∈l,r.ok n)→∀r∈(aX.more n l d k).1,r.ok n
 | 0,l,d,h=>h
 | k+1,l,d,h=>by
   unfold aX.more
   split
   · refine aX.IZ hn k _ _ ?_
     split
     · exact h
     · rename_i hne
       intro r hr
       rcases List.mem_append.1 hr with hr | hr
       · exact h r hr
       · rw[List.mem_singleton.1 hr];exact d.Lz hn hne
   · exact h
theorem aX.Ci(n:Int):∀(k:Nat) (l:List Road) (d:aX),l.length≤(aX.more n l d k).1.length
 | 0,l,d=>aLs _
 | k+1,l,d=>by
   unfold aX.more
   split
   · refine Nat.le_trans ?_ (aX.Ci n k _ _)
     split<;>(try rw[aLv])<;>omega
   · exact aLs _
theorem aX.Cj(d:aX):∀k,∀p∈(d.dE k).1, -30≤p.h∧p.h≤0
 | 0,p,hp=>by simp[aX.dE]at hp
 | k+1,p,hp=>by
   have b1:=(d.dE k).2.lk 4
   have b2:=(d.dE k).2.lq (n:=4) (by omega)
   unfold aX.dE at hp
   split at hp
   all_goals
    simp only[List.mem_append,List.mem_singleton]at hp
    rcases hp with hp | rfl
    · exact d.Cj k p hp
    · simp only;omega
theorem aX.xk(d:aX):d.Nb.1.aP.length=d.qY:=aX.nS _ _
theorem aX.zO(d:aX):d.qY-1≤d.Nb.1.roads.length∧d.Nb.1.roads.length≤10:=by
 have nb:=d.wx
 have e:d.AH.1.length=d.qY-1:=aX.p4 _ _
 constructor
 · rw[← e];exact aX.Ci _ _ _ _
 · exact aX.Ff _ _ _ _ (by omega)
theorem aX.I0(d:aX):d.Nb.1.ok:=by
 have nb:=d.wx
 have h1:=d.xk
 have h2:=d.zO
 refine⟨by omega,by omega,fun p hp=>?_,?_⟩
 · have:=aX.Cj _ _ p hp;omega
 · rw[h1]
   exact aX.IZ (by omega) _ _ _ (aX.Ch _ _ (by omega))
@[go_sem] theorem XO (l : List Spn) : mg 2 (l.map Spn.e) = true := by cases l <;> rfl
@[go_sem] theorem adp (l : List Spn) (k : Nat) (a b : Int) : (List.map D.t (List.map Spn.e l)).set k (D.t (T.agg [tI a, tI b])) = List.map D.t (List.map Spn.e (l.set k ⟨a, b⟩)) := by
 rw[List.map_set,List.map_set]
@[go_sem] theorem aez (H : aj) (sz : Nat) (a b c d e f : T) : zH H sz [.t a, .t b, .t c, .t d, .t e, .t f] = if bT sz [a, b, c, d, e, f] = true then some (.t (.sl [a, b, c, d, e, f]), H) else none := o6 H sz [a, b, c, d, e, f]
@[go_sem] theorem aeA (H : aj) (sz : Nat) (a b c d e f g : T) : zH H sz [.t a, .t b, .t c, .t d, .t e, .t f, .t g] = if bT sz [a, b, c, d, e, f, g] = true then some (.t (.sl [a, b, c, d, e, f, g]), H) else none := o6 H sz [a, b, c, d, e, f, g]
@[go_sem] theorem aeB (H : aj) (sz : Nat) (a b c d e f g h : T) : zH H sz [.t a, .t b, .t c, .t d, .t e, .t f, .t g, .t h] = if bT sz [a, b, c, d, e, f, g, h] = true then some (.t (.sl [a, b, c, d, e, f, g, h]), H) else none := o6 H sz [a, b, c, d, e, f, g, h]
@[go_sem] theorem XP {α β γ : Type} {l : List α} {g : α → β} {f : β → γ} {x : γ} {j : Nat} (h : j = l.length) : (List.map f (List.map g l) ++ [x])[j]? = some x := by
 rw[aLh (by simp;omega)];simp[h]
@[go_sem] theorem aau {α β γ : Type} {l : List α} {g : α → β} {f : β → γ} {x y : γ} {j : Nat} (h : j = l.length) : (List.map f (List.map g l) ++ [x]).set j y = List.map f (List.map g l) ++ [y] := by
 rw[List.set_append_right _ _ (by simp;omega)];simp[h]
def aX.yC(d:aX):Spn×aX:=
 let a:=d.of [0,1000,5000,20000, -5000, -20000,4999,100]
 let b:=a.2.of [0,1,1000,6000]
 let c:=b.2.of [0,1,500]
 let w:=c.2.one 9
 (if w.1=true then⟨-1125899906842624,1125899906842624⟩else⟨a.1-b.1,a.1+c.1⟩,w.2)
def aX.jD(d:aX):Nat→List Spn×aX
 | 0=>([],d)
 | k+1=>((d.jD k).1++[((d.jD k).2.yC).1],((d.jD k).2.yC).2)
def aX.LA(d:aX)(m:fJ):List Spn×aX:=d.jD m.roads.length
theorem aX.DQ{d:aX}(h:d.fX):d.yC.2.fX:=by
 unfold aX.yC;simp only
 exact aX.xh (aX.iR (aX.iR (aX.iR h [0,1000,5000,20000, -5000, -20000,4999,100]) [0,1,1000,6000]) [0,1,500]) 9
theorem aX.pc{d:aX}(h:d.fX):∀n,(d.jD n).2.fX
 | 0=>h
 | n+1=>by simp only[aX.jD];exact aX.DQ (aX.pc h n)
theorem aX.tM(d:aX):∀n,(d.jD n).1.length=n
 | 0=>rfl
 | n+1=>by simp[aX.jD,d.tM n]
theorem Gn(d:aX):d.yC.1.ok:=by
 unfold aX.yC;simp only
 have m1:=d.mw (l:=[0,1000,5000,20000, -5000, -20000,4999,100]) (by simp)
 generalize d.of [0,1000,5000,20000, -5000, -20000,4999,100]=a at*
 obtain⟨x,d1⟩:=a
 have m2:=d1.mw (l:=[0,1,1000,6000]) (by simp)
 simp only
 generalize d1.of [0,1,1000,6000]=b at*
 obtain⟨y,d2⟩:=b
 have m3:=d2.mw (l:=[0,1,500]) (by simp)
 simp only
 generalize d2.of [0,1,500]=c at*
 obtain⟨z,d3⟩:=c
 simp only[List.mem_cons,List.not_mem_nil,or_false]at m1 m2 m3 ⊢
 unfold Spn.ok
 split<;>(simp only;omega)
theorem aX.xl(d:aX):∀n,∀x∈(d.jD n).1,x.ok
 | 0,x,hx=>by simp[aX.jD]at hx
 | n+1,x,hx=>by
   simp only[aX.jD,List.mem_append,List.mem_singleton]at hx
   rcases hx with hx | rfl
   · exact d.xl n x hx
   · exact Gn _
theorem DR(d:aX)(hd:d.fX)(m:fJ)(hm:m.roads.length≤1000)(j:Nat)(hj:j<m.roads.length)(l:List Spn)(hl:l.length=j):
 lN true [1,3,6] 3 (exS dn K.eE ⟨[.bp 0 0,.und,.bp 1 0,.und,.ref 2 0 l.length,I j,.und],[d.obj,.box [.t (.sl (m.aP.map Place.e)),.t (.sl (m.roads.map Road.e))],.arr 2 false 0 ((l.map Spn.e).map .t)]⟩)=
 some ⟨[.bp 0 0,.und,.bp 1 0,.und,.ref 2 0 (l++[d.yC.1]).length,I (j+1),.und],[d.yC.2.obj,.box [.t (.sl (m.aP.map Place.e)),.t (.sl (m.roads.map Road.e))],.arr 2 false 0 (((l++[d.yC.1]).map Spn.e).map .t)]⟩:=by
 unfold aX.yC;simp only
 have h1:=DH d [0,1000,5000,20000, -5000, -20000,4999,100] (by simp) (by simp) hd
 have l1:=aX.iR hd [0,1000,5000,20000, -5000, -20000,4999,100]
 have m1:=d.mw (l:=[0,1000,5000,20000, -5000, -20000,4999,100]) (by simp)
 generalize d.of [0,1000,5000,20000, -5000, -20000,4999,100]=a at*
 obtain⟨x,d1⟩:=a
 simp only[tL,List.map_cons,List.map_nil]at h1 l1 ⊢
 have h2:=DH d1 [0,1,1000,6000] (by simp) (by simp) l1
 have l2:=aX.iR l1 [0,1,1000,6000]
 have m2:=d1.mw (l:=[0,1,1000,6000]) (by simp)
 generalize d1.of [0,1,1000,6000]=b at*
 obtain⟨y,d2⟩:=b
 simp only[tL,List.map_cons,List.map_nil]at h2 l2 ⊢
 have h3:=DH d2 [0,1,500] (by simp) (by simp) l2
 have l3:=aX.iR l2 [0,1,500]
 have m3:=d2.mw (l:=[0,1,500]) (by simp)
 generalize d2.of [0,1,500]=c at*
 obtain⟨z,d3⟩:=c
 simp only[tL,List.map_cons,List.map_nil]at h3 l3 ⊢
 have h4:=IN d3 9 (by omega) (by omega) l3
 generalize d3.one 9=e at*
 obtain⟨w,d4⟩:=e
 simp only[List.mem_cons,List.not_mem_nil,or_false]at m1 m2 m3 h4 ⊢
 have st:(l++[(⟨x-y,x+z⟩:Spn)]).set j ⟨-1125899906842624,1125899906842624⟩=l++[⟨-1125899906842624,1125899906842624⟩]:=by
  rw[List.set_append_right _ _ (by omega),hl,Nat.sub_self];rfl
 cases w with
 | true=>
   simp(disch:=omega)only[go_sem,K.eE,↓reduceIte,h1,h2,h3,h4,reduceAdd,reduceSub]
 | false=>
   simp(disch:=omega)only[go_sem,K.eE,↓reduceIte,h1,h2,h3,h4,reduceAdd,reduceSub]
theorem I3(d:aX)(hd:d.fX)(m:fJ)(hm:m.roads.length≤1000):dn 0 N.bV [.bp 0 0,.t m.e] [d.obj]=some (.t (tS (d.LA m).1),[(d.LA m).2.obj]):=by
 refine bG K.kE rfl ?_
 unfold aX.LA
 have ln:=d.tM
 have loop:∀a b c:D,exS dn K.mr ⟨[.bp 0 0,a,.bp 1 0,b,.ref 2 0 0,I 0,c],[d.obj,.box [.t (.sl (m.aP.map Place.e)),.t (.sl (m.roads.map Road.e))],.arr 2 false 0 []]⟩=
  some (.exit 0,⟨[.bp 0 0,.und,.bp 1 0,.und,.ref 2 0 (d.jD m.roads.length).1.length,I m.roads.length,.und],[(d.jD m.roads.length).2.obj,.box [.t (.sl (m.aP.map Place.e)),.t (.sl (m.roads.map Road.e))],.arr 2 false 0 (((d.jD m.roads.length).1.map Spn.e).map .t)]⟩):=by
  intro a b c
  refine lj (fun j=>⟨[.bp 0 0,.und,.bp 1 0,.und,.ref 2 0 (d.jD j).1.length,I j,.und],[(d.jD j).2.obj,.box [.t (.sl (m.aP.map Place.e)),.t (.sl (m.roads.map Road.e))],.arr 2 false 0 (((d.jD j).1.map Spn.e).map .t)]⟩) m.roads.length rfl ?_ ?_ (by simp)
  · intro j hj
    exact DR (d.jD j).2 (aX.pc hd j) m hm j hj (d.jD j).1 (ln j)
  · simp(disch:=omega)only[go_sem,K.eE,↓reduceIte]
 have ln:=ln m.roads.length
 generalize d.jD m.roads.length=r at*
 obtain⟨l,d1⟩:=r
 simp only at ln loop ⊢
 simp(disch:=omega)only[go_sem,K.bV,↓reduceIte,loop]
theorem XQ(l:List Int):dn 0 N.jc [.t (tL l)] []=some (.bp 0 0,[aX.obj ⟨l,0⟩]):=by
 refine bG K.qX rfl ?_
 simp(disch:=omega)only[go_sem,K.jc,↓reduceIte,aX.obj,reduceAdd,reduceSub]
theorem XR{d:aX}(hd:d.fX)(n:Int)(h1:1≤n)(hn:n≤4611686018427387904):
 ∃(v:Int) (e:aX),dn 0 N.bc [.bp 0 0,I n] [d.obj]=some (I v,[e.obj])∧e.fX∧0≤v∧v<n:=
 ⟨_,_,mK d n hn hd,aX.cn hd n,d.lk n,d.lq h1⟩
theorem XT{d:aX}(hd:d.fX):
 ∃(m:fJ) (e:aX),dn 0 N.b6 [.bp 0 0] [d.obj]=some (.t m.e,[e.obj])∧e.fX∧m.ok∧2≤m.aP.length∧m.aP.length≤7∧1≤m.roads.length∧m.roads.length≤10:=by
 have b:=d.wx
 have p:=d.xk
 have r:=d.zO
 exact⟨_,_,QC d hd,aX.Gj hd,d.I0,by omega,by omega,by omega,by omega⟩
theorem QD{d:aX}(hd:d.fX){m:fJ}(hm:m.ok):
 ∃(l:List Spn) (e:aX),dn 0 N.bV [.bp 0 0,.t m.e] [d.obj]=some (.t (tS l),[e.obj])∧e.fX∧l.length=m.roads.length∧(∀x∈l,x.ok):=by
 have nr:=hm.nr
 exact⟨_,_,I3 d hd m (by omega),aX.pc hd _,d.tM _,d.xl _⟩
end Go.Ev
namespace Go.Ev
open Go
variable [Lib] [dt] [dm] [kg] [jj]
abbrev never:Int:=1099511627776
abbrev Wh.box(w:Wh):Obj:= .box [I w.time,.t (tL w.frm)]
structure Req where
 x:Lv
 s:aat
 k:Keys
 b:Bel
 t:Int
 from_:Int
abbrev Req.e(r:Req):T:= .agg [tL r.x.area,tI r.x.hold,tI r.x.mis,tI r.s.st,tI r.s.fi,tI r.s.se,tI r.s.ti,tL r.k.roads,tL r.k.keys,.bool r.k.out,.sl (r.b.wB.map World.e),tI r.t,tI r.from_]
structure Req.sz(r:Req):Prop where
 hx:r.x.area.length≤1000000
 hk:r.k.roads.length≤1000000
 hk2:r.k.keys.length≤1000000
 hb:r.b.sz
section
variable (x : Lv) (s : aat) (k : Keys) (b : Bel) (hx : x.area.length ≤ 1000000) (hk : k.roads.length ≤ 1000000) (hk2 : k.keys.length ≤ 1000000) (hb : b.sz)
include hx hk hk2 hb
end
end Go.Ev
namespace Go.Ev
open Go
variable [Lib] [dt] [dm] [kg] [jj]
section
variable (area : List Int) (ha : area.length ≤ 1000000) (xs : List World) (hx : xs.length ≤ 1000000)
include ha hx
end
end Go.Ev
namespace Go.Ev
open Go
section
variable (H : aj) (sz id ep n lo hi : Nat) (i j : Int) (fz : Bool)
def scO(r:D):Option Obj→Option (D×aj)
 | some (.arr sz' _ ep' es)=>if ep=ep'∧n=es.length then(if sz'=sz then some (r,H)else none)else none
 | _=>none
@[go_sem] theorem adq (r : D) (sz' : Nat) (pin : Bool) (es : List D) : scO H sz ep n r (some (.arr sz' pin ep es)) = if n = es.length then (if sz' = sz then some (r, H) else none) else none := by simp [scO]
theorem scR{l h:Nat}:((fT H id ep n).bind fun a=>if l≤h∧h≤n∧a.1=sz then some (D.sub id ep n l h)else none).map (fun d=>(d,H))=if l≤h then(if h≤n then scO H sz ep n (.sub id ep n l h) H[id]? else none)else none:=by
 simp only[fT]
 generalize H[id]?=o
 by_cases h1:l≤h
 · by_cases h2:h≤n
   · rw[if_pos h1,if_pos h2]
     rcases o with _ | (_ | ⟨sz',pin,ep',es⟩ | _)
     rotate_right
     · first | rfl | (cases he)
     · rfl
     · rfl
     · simp only[scO]
       by_cases h3:ep=ep'∧n=es.length
       · rw[if_pos h3,if_pos h3,aLq]
         by_cases h4:sz'=sz
         · rw[if_pos h4,if_pos ⟨h1,h2,h4⟩];rfl
         · rw[if_neg h4,if_neg fun h=>h4 h.2.2];rfl
       · rw[if_neg h3,if_neg h3];rfl
   · rw[if_pos h1,if_neg h2]
     rcases o with _ | (_ | ⟨sz',pin,ep',es⟩ | _)
     rotate_right
     · first | rfl | (cases he)
     · rfl
     · rfl
     · by_cases h3:ep=ep'∧n=es.length
       · simp only[if_pos h3,aLq];rw[if_neg fun h=>h2 h.2.1];rfl
       · simp only[if_neg h3];rfl
 · rw[if_neg h1]
   rcases o with _ | (_ | ⟨sz',pin,ep',es⟩ | _)
   rotate_right
   · first | rfl | (cases he)
   · rfl
   · rfl
   · by_cases h3:ep=ep'∧n=es.length
     · simp only[if_pos h3,aLq];rw[if_neg fun h=>h1 h.1];rfl
     · simp only[if_neg h3];rfl
@[go_sem] theorem QE : Ay H sz (some (.ref id ep n)) (some none) (some (some i)) = if 0 ≤ i then (if i ≤ n then scO H sz ep n (.sub id ep n 0 i.toNat) H[id]? else none) else none := by
 simp only[Ay,aLq,lL,bound,idx]
 by_cases h1:0≤i
 · rw[if_pos h1,if_pos h1,aLq,scR,if_pos (Nat.zero_le _)]
   by_cases h2:i≤n
   · rw[if_pos h2,if_pos (by omega)]
   · rw[if_neg h2,if_neg (by omega)]
 · rw[if_neg h1,if_neg h1];rfl
@[go_sem] theorem QF : Ay H sz (some (.ref id ep n)) (some (some i)) (some none) = if 0 ≤ i then (if i ≤ n then scO H sz ep n (.sub id ep n i.toNat n) H[id]? else none) else none := by
 simp only[Ay,aLq,lL,bound,idx]
 by_cases h1:0≤i
 · rw[if_pos h1,if_pos h1,aLq,scR]
   by_cases h2:i≤n
   · rw[if_pos h2,if_pos (by omega),if_pos (by omega)]
   · rw[if_neg h2,if_neg (by omega)]
 · rw[if_neg h1,if_neg h1];rfl
@[go_sem] theorem LB : Ay H sz (some (.ref id ep n)) (some (some i)) (some (some j)) = if 0 ≤ i then (if i ≤ j then (if j ≤ n then scO H sz ep n (.sub id ep n i.toNat j.toNat) H[id]? else none) else none) else none := by
 simp only[Ay,aLq,lL,bound,idx]
 by_cases h1:0≤i
 · rw[if_pos h1,if_pos h1,aLq]
   by_cases h0:i≤j
   · rw[if_pos h0,if_pos (by omega),aLq,scR,if_pos (by omega)]
     by_cases h2:j≤n
     · rw[if_pos h2,if_pos (by omega)]
     · rw[if_neg h2,if_neg (by omega)]
   · rw[if_neg h0]
     by_cases h2:0≤j
     · rw[if_pos h2,aLq,scR,if_neg (by omega)]
     · rw[if_neg h2];rfl
 · rw[if_neg h1,if_neg h1];rfl
@[go_sem] theorem QG : Ay H sz (some .nil) (some none) (some (some i)) = if i = 0 then some (.nil, H) else none := by
 simp only[Ay,aLq,lL,bound,idx]
 by_cases h1:0≤i
 · rw[if_pos h1,aLq]
   by_cases h2:i=0
   · rw[if_pos h2,if_pos (by omega)];rfl
   · rw[if_neg h2,if_neg (by omega)];rfl
 · rw[if_neg h1,if_neg (by omega)];rfl
@[go_sem] theorem QH : Ay H sz (some .nil) (some (some i)) (some none) = if i = 0 then some (.nil, H) else none := by
 simp only[Ay,aLq,lL,bound,idx]
 by_cases h1:0≤i
 · rw[if_pos h1,aLq]
   by_cases h2:i=0
   · rw[if_pos h2,if_pos (by omega)];rfl
   · rw[if_neg h2,if_neg (by omega)];rfl
 · rw[if_neg h1,if_neg (by omega)];rfl
def DT(x:D)(ys:List D):Option (D×aj):=if bM sz ys=true then(match x with
 | .nil=>if ys.length≤4294967296 then some (.ref H.length 0 ys.length,H++[.arr sz false 0 ys])else none
 | .ref id ep n=>uK H sz id ep n ys H[id]?
 | .cl es=>if 0<ys.length∧es.length+ys.length≤lim∧bM sz (es.map .t)=true then some (.ref H.length 0 (es.map D.t++ys).length,H++[.arr sz false 0 (es.map .t++ys)])else none
 | .q id ep es=>(match ys with
   | [.t y]=>if y.scalar=true∧sz=1∧vq H id ep=true∧es.length+1≤lim then some (.q id (ep+1) (es++[y]),H.set id (.own (ep+1)))else none
   | _=>none)
 | _=>none)else none
@[go_sem] theorem aav (ys : List D) : DT H sz .nil ys = if bM sz ys = true then (if ys.length ≤ 4294967296 then some (.ref H.length 0 ys.length, H ++ [.arr sz false 0 ys]) else none) else none := (rfl)
@[go_sem] theorem aaw (ys : List D) : DT H sz (.ref id ep n) ys = if bM sz ys = true then uK H sz id ep n ys H[id]? else none := (rfl)
@[go_sem] theorem adr (es : List T) (ys : List D) : DT H sz (.cl es) ys = if bM sz ys = true then (if 0 < ys.length ∧ es.length + ys.length ≤ 4294967296 ∧ bM sz (es.map .t) = true then some (.ref H.length 0 (es.map D.t ++ ys).length, H ++ [.arr sz false 0 (es.map .t ++ ys)]) else none) else none := (rfl)
@[go_sem] theorem Nc : bM sz [] = true := (rfl)
@[go_sem] theorem LC (d : D) (r : List D) : bM sz (d :: r) = mG sz d.cells := by
 rw[Bool.eq_iff_iff,eX];simp[bM]
def XU(x:D):Option Obj→Option (D×aj)
 | some (.arr _ _ ep' es)=>if ep=ep'∧n=es.length then DT H sz x ((es.drop lo).take (hi-lo))else none
 | _=>none
def XV(x:D):Option Obj→Option (D×aj)
 | some (.arr _ _ ep' es)=>if ep=ep'∧n=es.length then DT H sz x es else none
 | _=>none
@[go_sem] theorem aax (x : D) (sz' : Nat) (pin : Bool) (es : List D) : XU H sz ep n lo hi x (some (.arr sz' pin ep es)) = if n = es.length then DT H sz x ((es.drop lo).take (hi - lo)) else none := by simp [XU]
@[go_sem] theorem aay (x : D) (sz' : Nat) (pin : Bool) (es : List D) : XV H sz ep n x (some (.arr sz' pin ep es)) = if n = es.length then DT H sz x es else none := by simp [XV]
theorem I4(x:D)(ys:List D):(if bM sz ys=true then(match x with
 | .nil=>if ys.length≤lim then some (D.ref H.length 0 ys.length,H++[.arr sz false 0 ys])else none
 | .ref id ep n=>(fT H id ep n).bind fun a=>if a.1=sz∧n+ys.length≤lim then some (.ref id ep (n+ys.length),H.set id (.arr sz a.2.1 ep (a.2.2++ys)))else none
 | .cl es=>if 0<ys.length∧es.length+ys.length≤lim∧bM sz (es.map .t)=true then some (.ref H.length 0 (es.map D.t++ys).length,H++[.arr sz false 0 (es.map .t++ys)])else none
 | .q id ep es=>(match ys with
   | [.t y]=>if y.scalar=true∧sz=1∧vq H id ep=true∧es.length+1≤lim then some (.q id (ep+1) (es++[y]),H.set id (.own (ep+1)))else none
   | _=>none)
 | _=>none)else none)=DT H sz x ys:=by
 unfold DT
 split
 · cases x with
   | ref id ep n=>
     simp only[fT]
     generalize H[id]?=o
     rcases o with _ | (_ | ⟨sz',pin,ep',es⟩ | _)
     rotate_right
     · first | rfl | (cases he)
     · rfl
     · rfl
     · simp only[uK]
       by_cases h1:ep=ep'∧n=es.length
       · rw[if_pos h1,aLq]
         by_cases h2:sz'=sz∧n+ys.length≤lim
         · rw[if_pos h2,if_pos ⟨h1.1,h1.2,h2⟩]
         · rw[if_neg h2,if_neg fun h=>h2 h.2.2]
       · rw[if_neg h1,if_neg fun h=>h1 ⟨h.1,h.2.1⟩];rfl
   | _=>rfl
 · rfl
theorem tN(x y:D)(ys:List D)(h:elems H y=some ys):mH H sz false (some x) (some y)=DT H sz x ys:=by
 simp only[mH,aLq,kY,h,aLt,if_false]
 exact I4 H sz x ys
@[go_sem] theorem J7 (x : D) : mH H sz false (some x) (some .nil) = DT H sz x [] := tN H sz x .nil [] rfl
@[go_sem] theorem J8 (x : D) : mH H sz false (some x) (some (.ref id ep n)) = XV H sz ep n x H[id]? := by
 cases he:elems H (.ref id ep n)with
 | some ys=>
   rw[tN H sz x _ ys he]
   simp only[elems,fT]at he
   generalize H[id]?=o at he
   rcases o with _ | (_ | ⟨sz',pin,ep',es⟩ | _)
   rotate_right
   · first | rfl | (cases he)
   · cases he
   · cases he
   · simp only[XV]
     by_cases h1:ep=ep'∧n=es.length
     · simp only[if_pos h1]at he ⊢;cases he;rfl
     · simp only[if_neg h1]at he;cases he
 | none=>
   have:mH H sz false (some x) (some (.ref id ep n))=none:=by simp only[mH,aLq,kY,he];rfl
   rw[this]
   simp only[elems,fT]at he
   generalize H[id]?=o at he
   rcases o with _ | (_ | ⟨sz',pin,ep',es⟩ | _)
   rotate_right
   · first | rfl | (cases he)
   · rfl
   · rfl
   · simp only[XV]
     by_cases h1:ep=ep'∧n=es.length
     · simp only[if_pos h1]at he;cases he
     · simp only[if_neg h1]
@[go_sem] theorem J9 (x : D) : mH H sz false (some x) (some (.sub id ep n lo hi)) = XU H sz ep n lo hi x H[id]? := by
 cases he:elems H (.sub id ep n lo hi)with
 | some ys=>
   rw[tN H sz x _ ys he]
   simp only[elems,fT]at he
   generalize H[id]?=o at he
   rcases o with _ | (_ | ⟨sz',pin,ep',es⟩ | _)
   rotate_right
   · first | rfl | (cases he)
   · cases he
   · cases he
   · simp only[XU]
     by_cases h1:ep=ep'∧n=es.length
     · simp only[if_pos h1]at he ⊢;cases he;rfl
     · simp only[if_neg h1]at he;cases he
 | none=>
   have:mH H sz false (some x) (some (.sub id ep n lo hi))=none:=by simp only[mH,aLq,kY,he];rfl
   rw[this]
   simp only[elems,fT]at he
   generalize H[id]?=o at he
   rcases o with _ | (_ | ⟨sz',pin,ep',es⟩ | _)
   rotate_right
   · first | rfl | (cases he)
   · rfl
   · rfl
   · simp only[XU]
     by_cases h1:ep=ep'∧n=es.length
     · simp only[if_pos h1]at he;cases he
     · simp only[if_neg h1]
def T4(ep n lo hi:Nat):Option Obj→Option (List D)
 | some (.arr _ _ ep' es)=>if ep=ep'∧n=es.length then some ((es.drop lo).take (hi-lo))else none
 | _=>none
def aaz(x:D):Option (List D)→Option (D×aj)
 | some ys0=>(bQ (fun d=>(frz H depth d).map .t) ys0).bind fun ys=>if bM sz ys then DT (pins H (ys0.flatMap (fU H depth))) sz x ys else none
 | none=>none
@[go_sem] theorem aeC (x : D) (ts : List T) : aaz H sz x (some (ts.map .t)) = DT H sz x (ts.map .t) := by
 simp only[aaz,r6,aLq,Ix,pins]
 by_cases h:bM sz (ts.map D.t)=true
 · rw[if_pos h]
 · rw[if_neg h];unfold DT;rw[if_neg h]
@[go_sem] theorem LD (x : D) : mH H sz true (some x) (some (.sub id ep n lo hi)) = aaz H sz x (T4 ep n lo hi H[id]?) := by
 have e:elems H (.sub id ep n lo hi)=T4 ep n lo hi H[id]?:=by
  simp only[elems,fT]
  generalize H[id]?=o
  rcases o with _ | (_ | ⟨sz',pin,ep',es⟩ | _)
  rotate_right
  · first | rfl | (cases he)
  · rfl
  · rfl
  · simp only[T4]
    by_cases h1:ep=ep'∧n=es.length
    · simp only[if_pos h1];rfl
    · simp only[if_neg h1];rfl
 simp only[mH,aLq,kY,e]
 cases T4 ep n lo hi H[id]? with
 | none=>rfl
 | some ys0=>
   simp only[aLq,aaz,if_true]
   cases hm:bQ (fun d=>(frz H depth d).map D.t) ys0 with
   | none=>rfl
   | some ys=>
     simp only[aLq]
     refine(I4 _ _ _ _).trans ?_
     by_cases h:bM sz ys=true
     · rw[if_pos h]
     · rw[if_neg h];unfold DT;rw[if_neg h]
@[go_sem] theorem aaA (ep n lo hi sz : Nat) (pin : Bool) (ts : List T) : T4 ep n lo hi (some (.arr sz pin ep (ts.map .t))) = if n = ts.length then some (((ts.drop lo).take (hi - lo)).map .t) else none := by
 simp only[T4,true_and,List.length_map,List.map_take,List.map_drop]
def I5(ds:List D):Option (D×aj):=if ds.all (fun d=>d.cells.length==sz&&d.iO)then some (.ref H.length 0 ds.length,H++[.arr sz false 0 ds])else none
def XW:D→Option (D×aj)
 | .t y=>if y.scalar then some (.q H.length 0 [y],H++[.own 0])else none
 | _=>none
@[go_sem] theorem aeD (call : aR) (get : X → Option D) (x : X) : evO call get H (.bsq x) = (get x).bind (XW H) := by
 simp only[evO]
 congr 1
@[go_sem] theorem XX (k : IntKind) (n : Int) : XW H (.t (.int k n)) = some (.q H.length 0 [.int k n], H ++ [.own 0]) := (rfl)
@[go_sem] theorem aeE (call : aR) (get : X → Option D) (xs : List X) : evO call get H (.bsr xs sz) = (bQ get xs).bind (I5 H sz) := (rfl)
@[go_sem] theorem XY : I5 H sz [] = some (.ref H.length 0 0, H ++ [.arr sz false 0 []]) := (rfl)
@[go_sem] theorem XZ (k : IntKind) (n : Int) : I5 H 1 [.t (.int k n)] = some (.ref H.length 0 1, H ++ [.arr 1 false 0 [.t (.int k n)]]) := (rfl)
@[go_sem] theorem X0 (cs : List D) : I5 H sz [.agg cs] = if mG sz cs = true then some (.ref H.length 0 1, H ++ [.arr sz false 0 [.agg cs]]) else none := by
 simp only[I5,List.all_cons,List.all_nil,Bool.and_true,D.cells,D.iO]
 by_cases h:mG sz cs=true
 · rw[if_pos h,if_pos (by simpa using eX.1 h)];rfl
 · rw[if_neg h,if_neg (by intro e;exact h (eX.2 (by simpa using e)))]
end
@[go_sem] theorem Nd : (1 : Int).toNat = 1 := (rfl)
@[go_sem] theorem QI : (2 : Int).toNat = 2 := (rfl)
@[go_sem] theorem LF : (3 : Int).toNat = 3 := (rfl)
section
variable {H t : aj} {i j k : Nat} {o o' : Obj}
theorem Fg(h:i<H.length):(H++t)[i]?=H[i]?:=aLg h
theorem Gp:(H++t)[H.length]?=t[0]?:=by rw[aLh (aLs _),Nat.sub_self]
theorem zP:(H++t)[H.length+k]?=t[k]?:=by rw[aLh (Nat.le_add_right _ _),Nat.add_sub_cancel_left]
theorem Gq(h:i<H.length):(H.set i o)[i]?=some o:=by simp[h]
theorem xm(h:i≠j):(H.set i o)[j]?=H[j]?:=aLi h
theorem QJ(h:H[i]?=some o):i<H.length:=(aLe.1 h).1
end
end Go.Ev
namespace Go.Ev.N
def I6:Nat:=123
def He:Nat:=124
def Ka:Nat:=125
def I7:Nat:=126
def QK:Nat:=127
def ik:Nat:=128
def QL:Nat:=129
def T5:Nat:=130
def T6:Nat:=131
def QM:Nat:=132
def QN:Nat:=133
def LG:Nat:=134
def LH:Nat:=135
def jE:Nat:=136
def QO:Nat:=137
def LI:Nat:=138
def Nf:Nat:=139
def Kb:Nat:=140
def Ng:Nat:=141
def LJ:Nat:=142
def I8:Nat:=143
def I9:Nat:=144
def cZ:Nat:=145
def gn:Nat:=146
def gp:Nat:=147
def cH:Nat:=148
end Go.Ev.N
namespace Go.Ev.N
def Fh:Nat:=149
def Ja:Nat:=150
def Jb:Nat:=151
def Hf:Nat:=152
def QP:Nat:=153
def il:Nat:=154
def gq:Nat:=155
def Nh:Nat:=156
def QQ:Nat:=157
def T7:Nat:=158
def im:Nat:=159
def bm:Nat:=160
def cm:Nat:=161
def QR:Nat:=162
def T8:Nat:=163
def Ni:Nat:=164
def T9:Nat:=165
def Nj:Nat:=166
def bL:Nat:=167
def aq:Nat:=168
def eZ:Nat:=169
def fc:Nat:=170
def b9:Nat:=171
def LK:Nat:=172
def gO:Nat:=173
def aJ:Nat:=174
def Jc:Nat:=175
def dF:Nat:=176
def eF:Nat:=177
end Go.Ev.N
namespace Go.Ev.K
open Go.Ev
def xn:C:= (.its [u (.bin .lss v11 v10)] [] 0 .skip (.exit 1) (.seq (.blk 2 (q [a 1 v9 v11,g l0,x 8 l0] [] (.reg [m v7,m v8,m v3,a 1 l2 l1,u (.st l0 l1 1 [])] []))) (.reg [u (.bin .add v11 (.i 1)),x 11 l0] [])))
def yD:C:= .loop true [0,2,6,8] K.xn
def il:Fn:= { av:=4,vars:=[0,1,2,3,4,8,9,10,12,38,39,40],body:=(q [w 4 (.bx v0 2),w 5 (.al [z0,.nil] []),x 6 (.i 0)] [] (.seq (.blk 0 (.ite [h 2 v4,m v1,u (.ca N.im 0 [] [.l 1,.l 0]),u (.un .not l0),m l0] [] 0 (q [u (.bd [z0,.nil] []),u (.st v5 l0 2 []),x 6 (.i 6)] [] .ret) (.ite [m v2,f 0 v4,g l0,u (.ln l0),u (.bin .sub l0 (.i 1)),u (.ca N.bl 0 [] [.l 4,.i 0,.l 0]),u (.un .not l0),m l0] [] 0 (q [u (.bd [z0,.nil] []),u (.st v5 l0 2 []),x 6 (.i 3)] [] .ret) (.ite [m v3,u (.ca N.aS 0 [] [.l 0,.i 0,.i 2147483648]),u (.un .not l0),m l0] [] 0 (q [u (.bd [z0,.nil] []),u (.st v5 l0 2 []),x 6 (.i 8)] [] .ret) .skip)))) (q [u (.bs [.i 1099511627776] 1),f 0 v4,g l0,u (.ln l0),u (.ca N.bm 1 [] [.l 3,.l 0]),x 7 l0] [] (.seq (q [x 9 v2,w 10 (.ln l0),x 11 (.i 0)] [] (.blk 1 K.yD)) (q [h 2 v4,m v1,m v7,u (.bd [.nil,.nil,.nil,.nil] [(0,2,.l 2),(2,1,.l 1),(3,1,.l 0)]),u (.ca N.cm 0 [0] [.l 0])] [] (q [m v3,m v7,u (.bd [z0,.nil] [(0,1,.l 1),(1,1,.l 0)]),u (.st v5 l0 2 []),x 6 (.i 0)] [] .ret)))))),res:=[(5,some (2,true)),(6,none)]}
def gq:Fn:= { av:=4,vars:=[0,1,2,3,4,6,8,9,10,11,12],body:=(q [w 4 (.bx v0 2),w 5 (.bx v2 2),x 6 (.i 0)] [] (.seq (.ite [m v1,u (.bin .lss l0 (.i 0)),m l0,e 0 false v1,y 1 false (.fa v4 1),i 2 false l0,y 3 false (.ln l0),y 4 false (.bin .geq l3 l0),u (.pk l5 (.b true) l0),m l0,y 0 false (.fa v4 1),i 1 false l0,e 2 false v1,y 3 false (.ia l1 l0 10),y 4 false (.fa l0 5),i 5 false l0,u (.pk l6 (.b true) l0)] [] 0 (q [w 6 (.mv (.i (-1)))] [] .ret) .skip) (q [f 1 v4,g l0,m v1,a 10 l1 l0,h 10 l0,w 7 (.al [z0,z0,z0,z0,z1,z1,z0,z0,z0,z0] []),u (.st l0 l1 10 [])] [] (q [h 2 v5,w 8 (.al [z0,z0] []),u (.st l0 l1 2 [])] [] (.seq (.ite [m v3] [] 0 (.reg [f 1 v5,g l0,u (.un .neg l0),f 0 v5,g l0,u (.un .neg l0),u (.bd [z0,z0] [(0,1,.l 3),(1,1,.l 0)]),u (.st v8 l0 2 [])] []) .skip) (q [w 9 (.mv (.i (-1)))] [] (.seq (.ite [f 1 v8,g l0,f 3 v7,g l0,u (.bin .mul (.i (-500)) l0),u (.bin .gtr l3 l0)] [] 0 (.reg [f 2 v7,g l0,x 9 l0] []) .skip) (.seq (.ite [f 1 v8,g l0,u (.bin .gtr l0 (.i 0))] [] 0 (q [f 2 v7,g l0,f 3 v7,g l0,u (.bin .mul l2 l0),u (.bin .mul l0 (.i 1000)),f 1 v8,g l0,u (.bin .quo l2 l0),x 10 l0] [] (.ite [m v9,u (.bin .lss l0 (.i 0)),m l0,e 0 false v10,e 1 false v9,y 2 false (.bin .lss l1 l0),u (.pk l3 (.b true) l0)] [] 0 (.reg [m v10,x 9 l0] []) .skip)) .skip) (q [m v9,x 6 l0] [] .ret))))))))),res:=[(6,none)]}
def im:Fn:= { av:=2,vars:=[0,1,2,4],body:=(q [w 2 (.bx v0 2),x 3 (.b false)] [] (q [h 2 v2,u (.ca N.bL 0 [] [.l 0]),m l0,e 0 true v1,y 1 true (.ln l0),y 2 true (.fa v2 1),i 3 true l0,y 4 true (.ln l0),y 5 true (.bin .eql l3 l0),u (.pk l6 l0 (.b false)),m l0,e 0 true v1,y 1 true (.ca N.aq 0 [] [.l 0,.c (.fn N.eZ [])]),y 2 true (.un .not l0),u (.pk l3 l0 (.b false)),x 3 l0] [] .ret)),res:=[(3,none)]}
def mM:C:= (.seq (.ite [m v6,m v5,u (.ln l0),u (.bin .lss l2 l0)] [] 0 .skip (.exit 0)) (.blk 1 (.reg [m v6,m v5,m v6,u (.sc l1 (some l0) none 1),m v5,m v6,u (.sc l1 none (some l0) 1),u (.cp l3 l0 1),u (.bin .add l7 l0),x 6 l0] [])))
def m5:C:= .loop true [0,1,2,3,4] K.mM
def bm:Fn:= { av:=2,vars:=[0,1,4,5,6,7,8],body:=(q [w 2 (.mv (.c (.nil)))] [] (.seq (.ite [m v1,u (.bin .lss l0 (.i 0))] [] 0 .fail .skip) (q [m v0,u (.ln l0),u (.cv .u64 l0),m v1,u (.cv .u64 l0),u (.ca N.fc 0 [] [.l 2,.l 0]),m l0,u (.ex l0 0),u (.ex l1 1),x 3 l1,x 4 l1] [] (.seq (.ite [m v3,u (.bin .gtr l0 (.c (.t (.int .u64 (0))))),m l0,e 0 false v4,y 1 false (.bin .gtr l0 (.c (.t (.int .u64 (9223372036854775807))))),u (.pk l2 (.b true) l0)] [] 0 .fail .skip) (q [m v4,u (.cv .i64 l0),u (.mk l0 (z0) 1),x 5 l0] [] (q [m v5,m v0,u (.cp l1 l0 1),x 6 l0] [] (.seq (.blk 0 K.m5) (q [m v5,x 2 l0] [] .ret)))))))),res:=[(2,none)]}
def oJ:C:= (.its [u (.bin .lss v9 v8)] [] 0 .skip (.exit 2) (.seq (.blk 3 (q [m v9,a 10 v7 v9,h 10 l0,w 4 (.al [z0,z0,z0,z0,z1,z1,z0,z0,z0,z0] []),x 3 l3,u (.st l1 l2 10 [])] [] (q [h 4 v1,m v3,f 0 v4,g l0,f 1 v4,g l0,u (.ca N.b9 0 [0] [.l 5,.l 4,.l 2,.l 0,.b false]),x 5 l0] [] (q [h 4 v1,m v3,f 1 v4,g l0,f 0 v4,g l0,u (.ca N.b9 0 [0] [.l 5,.l 4,.l 2,.l 0,.b true]),x 6 l0] [] (.reg [m v2,m l0,e 0 false v5,u (.pk l1 (.b true) l0),m l0,e 0 false v6,u (.pk l1 (.b true) l0),x 2 l0] []))))) (.reg [u (.bin .add v9 (.i 1)),x 9 l0] [])))
def pd:C:= .loop true [0,3,4,5,6] K.oJ
def oK:C:= (.seq (.ite [m v2] [] 0 .skip (.exit 0)) (.blk 1 (q [x 2 (.b false)] [] (q [f 0 v1,f 1 l0,w 7 (.ld l0 1 false),w 8 (.ln l0),x 9 (.i 0)] [] (.blk 2 K.pd)))))
def pe:C:= .loop true [0,3,4,5,6,7,8,9] K.oK
def cm:Fn:= { av:=1,vars:=[0,1,2,3,4,5,6,10,11,12],body:=(q [w 1 (.bx v0 4)] [] (q [x 2 (.b true)] [] (.blk 0 K.pe))),res:=[]}
def bL:Fn:= { av:=1,vars:=[0,1,2],body:=(q [w 1 (.bx v0 2),x 2 (.b false)] [] (q [h 2 v1,u (.ca N.gO 0 [] [.l 0]),u (.bin .eql l0 (.i 0)),x 2 l0] [] .ret)),res:=[(2,none)]}
def aq:Fn:= { av:=2,vars:=[0,1,4],body:=(q [x 2 (.b false)] [] (q [m v0,m v1,u (.ca N.aJ 0 [] [.l 1,.l 0]),u (.bin .geq l0 (.i 0)),x 2 l0] [] .ret)),res:=[(2,none)]}
def eZ:Fn:= { av:=1,vars:=[0,1,2],body:=(q [w 1 (.bx v0 2),x 2 (.b false)] [] (q [f 0 v1,g l0,u (.bin .lss l0 (.i (-1125899906842624))),m l0,y 0 false (.fa v1 1),i 1 false l0,y 2 false (.bin .gtr l0 (.i 1125899906842624)),u (.pk l3 (.b true) l0),m l0,y 0 false (.fa v1 0),i 1 false l0,y 2 false (.fa v1 1),i 3 false l0,y 4 false (.bin .gtr l2 l0),u (.pk l5 (.b true) l0),x 2 l0] [] .ret)),res:=[(2,none)]}
def fc:Fn:= { av:=2,vars:=[0,1,4,5,8,9],body:=(q [w 2 (.mv (.c (.t (.int .u64 (0))))),w 3 (.mv (.c (.t (.int .u64 (0)))))] [] (.seq (.cnd false .skip) (q [m v0,m v1,u (.ca N.dF 0 [] [.l 1,.l 0]),m l0,u (.ex l0 0),u (.ex l1 1),x 4 l1,x 5 l1] [] (q [m v4,m v5,x 2 l1,x 3 l1] [] .ret)))),res:=[(2,none),(3,none)]}
def b9:Fn:= { av:=5,vars:=[0,1,2,3,4,5,10,11],body:=(q [w 5 (.bx v0 4),x 6 (.b false)] [] (q [f 0 v5,h 2 l0,m v1,f 2 v5,g l0,m v1,a 2 l1 l0,h 2 l0,m v4,u (.ca N.gq 0 [] [.l 7,.l 6,.l 1,.l 0]),x 7 l0] [] (.seq (.ite [m v7,u (.bin .lss l0 (.i 0)),m l0,y 0 false (.fa v5 3),i 1 false l0,e 2 false v2,y 3 false (.ia l1 l0 1),i 4 false l0,y 5 false (.bin .gtr l0 (.i 2147483648)),u (.pk l6 (.b true) l0),m l0,y 0 false (.fa v5 3),i 1 false l0,e 2 false v2,y 3 false (.ia l1 l0 1),i 4 false l0,e 5 false v7,y 6 false (.bin .add l1 l0),y 7 false (.bin .gtr l0 (.i 2147483648)),u (.pk l8 (.b true) l0),m l0,y 0 false (.fa v5 3),i 1 false l0,e 2 false v2,y 3 false (.ia l1 l0 1),i 4 false l0,e 5 false v7,y 6 false (.bin .add l1 l0),y 7 false (.fa v5 3),i 8 false l0,e 9 false v3,y 10 false (.ia l1 l0 1),i 11 false l0,y 12 false (.bin .geq l5 l0),u (.pk (.l 13) (.b true) l0)] [] 0 (q [x 6 (.b false)] [] .ret) .skip) (q [f 3 v5,g l0,m v3,f 3 v5,g l0,m v2,a 1 l1 l0,g l0,m v7,u (.bin .add l1 l0),a 1 l8 l7,u (.st l0 l1 1 [])] [] (q [x 6 (.b true)] [] .ret))))),res:=[(6,none)]}
end Go.Ev.K
namespace Go.Ev
class gY [Lib]:Prop where
 sg:Lib.fs N.il=some K.il
 qq:Lib.fs N.gq=some K.gq
 si:Lib.fs N.im=some K.im
 j7:Lib.fs N.bm=some K.bm
 lC:Lib.fs N.cm=some K.cm
 pf:Lib.fs N.bL=some K.bL
 bW:Lib.fs N.aq=some K.aq
 pg:Lib.fs N.eZ=some K.eZ
 ph:Lib.fs N.fc=some K.fc
 lT:Lib.fs N.b9=some K.b9
namespace K
variable [Lib] [gY]
theorem sg:Lib.fs N.il=some K.il:=gY.sg
theorem qq:Lib.fs N.gq=some K.gq:=gY.qq
theorem si:Lib.fs N.im=some K.im:=gY.si
theorem j7:Lib.fs N.bm=some K.bm:=gY.j7
theorem lC:Lib.fs N.cm=some K.cm:=gY.lC
theorem pf:Lib.fs N.bL=some K.bL:=gY.pf
theorem bW:Lib.fs N.aq=some K.aq:=gY.bW
theorem pg:Lib.fs N.eZ=some K.eZ:=gY.pg
theorem ph:Lib.fs N.fc=some K.fc:=gY.ph
theorem lT:Lib.fs N.b9=some K.b9:=gY.lT
end K
end Go.Ev
