/- Parts of the proof: see the text that holds the theorem. -/
import Derived.Test.YtgpjgilnofjbdaaGreatZ2
set_option linter.all false
open Nat (reduceAdd reduceSub)
set_option maxRecDepth 100000
namespace Go.Ev
open Go Go.ChangeShapes Go.RowKit
variable [Names]
def iy(P:Program)(t:TypeId):Bool:=match P.underlying t with
 | some (.struct _)=>true
 | some (.array _ _)=>true
 | _=>false
def Qi(P:Program)(total:Nat):Nat→List Field→Bool
 | off,[]=>off==total
 | off,f::r=>(f.offset==off)&&Qi P total (off+P.cellsOf f.type) r
def lQ(P:Program):Nat→TypeId→Bool
 | 0,_=>false
 | n+1,t=>match P.underlying t with
   | some .bool=>P.cellsOf t==1
   | some (.int _)=>P.cellsOf t==1
   | some .string=>P.cellsOf t==1
   | some (.slice e)=>(P.cellsOf t==1)&&decide (0<P.cellsOf e)&&lQ P n e
   | some (.struct fs)=>Qi P (P.cellsOf t) 0 fs.toList&&fs.toList.all fun f=>lQ P n f.type
   | some (.array m e)=>(P.cellsOf t==m*P.cellsOf e)&&lQ P n e
   | _=>false
def okC(P:Program):Nat→TypeId→List T→Prop
 | 0,_,_=>False
 | n+1,t,cs=>match P.underlying t with
   | some .bool=>∃b,cs=[.bool b]
   | some (.int k)=>∃m,cs=[.int k m]∧(Lit.int k m).wf=true
   | some .string=>∃s:ByteArray,cs=[.str s]∧s.size≤maxLen
   | some (.slice e)=>∃es,cs=[.sl es]∧es.length≤maxLen∧∀x∈es,okC P n e x.cells∧(iy P e=true→∃ys,x= .agg ys)∧(iy P e=false→∀ys,x≠ .agg ys)
   | some (.struct fs)=>cs.length=P.cellsOf t∧∀f∈fs.toList,okC P n f.type ((cs.drop f.offset).take (P.cellsOf f.type))
   | some (.array m e)=>cs.length=P.cellsOf t∧∀i,i<m→okC P n e ((cs.drop (i*P.cellsOf e)).take (P.cellsOf e))
   | _=>False
def KG(w:World):Fz:=fun b o=>w.cell? ⟨b,o,none⟩
def O4(F:Fz)(vs:List Value)(cs:List T):Prop:=vs.length=cs.length∧∀(i:Nat) v c,vs[i]?=some v→cs[i]?=some c→lP F v c∧fM v=true
theorem O4.append{F:Fz}{vs vs':List Value}{cs cs':List T}(h:O4 F vs cs)(h':O4 F vs' cs'):O4 F (vs++vs') (cs++cs'):=by
 refine⟨by simp[h.1,h'.1],fun i v c hv hc=>?_⟩
 by_cases hi:i<vs.length
 · rw[aLg hi]at hv
   rw[aLg (h.1▸hi)]at hc
   exact h.2 i v c hv hc
 · rw[aLh (by omega)]at hv
   rw[aLh (by have:=h.1;omega),←h.1]at hc
   exact h'.2 _ v c hv hc
section
variable {P : Program} {w : World} {H : Type} {enc : TypeId × Value → H} {spare : Nat → Bool} {held : Bool}
theorem KH{α β:Type}{l:List α}{Q:Nat→α→β→Prop}(h:∀(i:Nat) a,l[i]?=some a→∃b,Q i a b):∃m:List β,m.length=l.length∧∀(i:Nat) a b,l[i]?=some a→m[i]?=some b→Q i a b:=by
 induction l generalizing Q with
 | nil=>exact⟨[],rfl,fun i a b h=>by simp at h⟩
 | cons a l ih=>
   obtain⟨b,hb⟩:=h 0 a rfl
   obtain⟨m,h1,h2⟩:=ih (Q:=fun i=>Q (i+1)) fun i x hx=>h (i+1) x (by simpa using hx)
   refine⟨b::m,by simp[h1],fun i x y hx hy=>?_⟩
   cases i with
   | zero=>simp at hx hy;subst hx;subst hy;exact hb
   | succ i=>exact h2 i x y (by simpa using hx) (by simpa using hy)
theorem Ml{F:Fz}{Q:Field→List T→Prop}:∀ {fs:List Field} {off total:Nat} {cs:List Value},Qi P total off fs=true→cs.length=total→off≤total→
 (∀f∈fs,∃xs,O4 F ((cs.drop f.offset).take (P.cellsOf f.type)) xs∧xs.length=P.cellsOf f.type∧Q f xs)→
 ∃xs,O4 F (cs.drop off) xs∧∀f∈fs,off≤f.offset∧Q f ((xs.drop (f.offset-off)).take (P.cellsOf f.type))
 | [],off,total,cs,ht,hl,hle,_=>by
   simp only[Qi,beq_iff_eq]at ht
   exact⟨[],⟨by simp;omega,fun i v c hv hc=>by simp at hc⟩,fun f hf=>by cases hf⟩
 | f::r,off,total,cs,ht,hl,hle,hq=>by
   simp only[Qi,aLr,beq_iff_eq]at ht
   obtain⟨h1,h2⟩:=ht
   obtain⟨xs,k1,k2,k3⟩:=hq f (List.mem_cons_self)
   have hle2:off+P.cellsOf f.type≤total:=by
    have:=k1.1
    rw[k2,List.length_take,List.length_drop,h1]at this
    omega
   obtain⟨ys,j1,j2⟩:=Ml h2 hl hle2 fun g hg=>hq g (List.mem_cons_of_mem _ hg)
   refine⟨xs++ys,?_,fun g hg=>?_⟩
   · have:cs.drop off=(cs.drop off).take (P.cellsOf f.type)++cs.drop (off+P.cellsOf f.type):=by
      rw[← List.drop_drop,List.take_append_drop]
     rw[this]
     rw[h1]at k1
     exact k1.append j1
   · rcases List.mem_cons.1 hg with hg | hg
     · subst hg
       refine⟨by omega,?_⟩
       rw[h1,Nat.sub_self,List.drop_zero,List.take_append_of_le_length (by omega),List.take_of_length_le (by omega)]
       exact k3
     · obtain⟨i1,i2⟩:=j2 g hg
       refine⟨by omega,?_⟩
       rw[List.drop_append,List.drop_eq_nil_of_le (by omega),List.nil_append,k2,show g.offset-off-P.cellsOf f.type=g.offset-(off+P.cellsOf f.type)by omega]
       exact i2
theorem Qj{F:Fz}{Q:List T→Prop}{sz:Nat}:∀(m:Nat) (cs:List Value),cs.length=m*sz→
 (∀i,i<m→∃xs,O4 F ((cs.drop (i*sz)).take sz) xs∧xs.length=sz∧Q xs)→
 ∃xs,O4 F cs xs∧∀i,i<m→Q ((xs.drop (i*sz)).take sz)
 | 0,cs,hl,_=>by
   have:cs=[]:=List.eq_nil_of_length_eq_zero (by omega)
   exact⟨[],⟨by simp[this],fun i v c hv hc=>by simp at hc⟩,fun i hi=>by omega⟩
 | m+1,cs,hl,hq=>by
   obtain⟨xs,k1,k2,k3⟩:=hq 0 (by omega)
   rw[Nat.zero_mul,List.drop_zero]at k1
   have hl':(cs.drop sz).length=m*sz:=by rw[List.length_drop,hl,Nat.succ_mul];omega
   obtain⟨ys,j1,j2⟩:=Qj m (cs.drop sz) hl' fun i hi=>by
    obtain⟨zs,a1,a2,a3⟩:=hq (i+1) (by omega)
    refine⟨zs,?_,a2,a3⟩
    rw[List.drop_drop,show sz+i*sz=(i+1)*sz by rw[Nat.succ_mul];omega]
    exact a1
   refine⟨xs++ys,?_,fun i hi=>?_⟩
   · have:cs=cs.take sz++cs.drop sz:=(List.take_append_drop _ _).symm
     rw[this];exact k1.append j1
   · cases i with
     | zero=>rw[Nat.zero_mul,List.drop_zero,List.take_append_of_le_length (by omega),List.take_of_length_le (by omega)];exact k3
     | succ i=>
       rw[List.drop_append,List.drop_eq_nil_of_le (by rw[k2,Nat.succ_mul];omega),List.nil_append,k2,show(i+1)*sz-sz=i*sz by rw[Nat.succ_mul];omega]
       exact j2 i (by omega)
theorem Ay{base n:Nat}{a:Addr}{cs:List Value}(h:w.cells? base a n=some cs):cs.length=n∧∀i v,cs[i]?=some v→w.cell? (a.add i)=some v:=by
 unfold World.cells? at h
 split at h
 · have h1:=mapM_some_length h
   refine⟨by simpa using h1,fun i v hv=>?_⟩
   have hi:i<cs.length:=(aLe.1 hv).1
   rw[h1,List.length_range]at hi
   have:=mapM_some_get h i i (by simp[hi])
   rw[this,hv]
 · cases h
theorem X2{F:Fz}{v:Value}{c:T}(h:lP F v c)(hc:∀ys,c≠ .agg ys):fM v=true:=by
 cases h with
 | agg vs cs=>exact(hc cs rfl).elim
 | _=>rfl
theorem Qk{a:Addr}{v:Value}(h:w.cell? (a.add 0)=some v):a.spot=none:=by
 cases hs:a.spot with
 | none=>rfl
 | some s=>
   have:(a.add 0).spot=some s:=hs
   unfold World.cell? at h
   split at h
   · rw[this]at h;simp at h
   · cases h
theorem TS:∀(n:Nat) (t:TypeId) (fuel:Nat) (cs:List Value) (x:DataW H×List MemPlace),lQ P n t=true→DataW.trod enc P w 0 spare held fuel t cs=some x→
 ∃xs,O4 (KG w) cs xs∧okC P n t xs∧(iy P t=false→∃c,xs=[c]∧∀ys,c≠ .agg ys)∧cs.length=P.cellsOf t:=by
 intro n
 induction n with
 | zero=>intro t fuel cs x hp;simp[lQ]at hp
 | succ n ih=>
   intro t fuel cs x hp h
   have one:∀(v:Value) (c:T),lP (KG w) v c→(∀ys,c≠ .agg ys)→O4 (KG w) [v] [c]:=fun v c hr hc=>⟨rfl,fun i v' c' hv hc'=>by
    cases i with
    | zero=>simp at hv hc';subst hv;subst hc';exact⟨hr,X2 hr hc⟩
    | succ i=>simp at hv⟩
   unfold lQ at hp
   cases hu:P.underlying t with
   | none=>rw[hu]at hp;simp at hp
   | some d=>
     rw[hu]at hp
     cases d<;>simp only[aLt]at hp
     case bool=>
      obtain⟨b,rfl,_⟩:=DataW.trod_bool hu h
      exact⟨[.bool b],one _ _ (.bool b) (fun _ e=>by cases e),by simp only[okC,hu];exact⟨b,rfl⟩,fun _=>⟨_,rfl,fun _ e=>by cases e⟩,by simp only[beq_iff_eq]at hp;simp[hp]⟩
     case int k=>
      obtain⟨m,rfl,_,hw⟩:=DataW.trod_int hu h
      exact⟨[.int k m],one _ _ (.int k m) (fun _ e=>by cases e),by simp only[okC,hu];exact⟨m,rfl,hw⟩,fun _=>⟨_,rfl,fun _ e=>by cases e⟩,by simp only[beq_iff_eq]at hp;simp[hp]⟩
     case string=>
      obtain⟨s,rfl,_,hw⟩:=DataW.trod_string hu h
      exact⟨[.str s],one _ _ (.str s) (fun _ e=>by cases e),by simp only[okC,hu];exact⟨s,rfl,hw⟩,fun _=>⟨_,rfl,fun _ e=>by cases e⟩,by simp only[beq_iff_eq]at hp;simp[hp]⟩
     case slice e=>
      simp only[aLr,decide_eq_true_eq,Bool.or_eq_true,beq_iff_eq]at hp
      obtain⟨⟨hsz,hpos⟩,hpe⟩:=hp
      rcases DataW.trod_slice hu h with⟨rfl,_⟩ | ⟨a,len,cap,elems,rest,fu,_,rfl,_,_,hcap,hmax,hlen,hel,_⟩
      · exact⟨[.sl []],one _ _ (.sl0 none 0) (fun _ e=>by cases e),by simp only[okC,hu];exact⟨[],rfl,by simp,by simp⟩,fun _=>⟨_,rfl,fun _ e=>by cases e⟩,by simp[hsz]⟩
      · -- the elements,one by one
        have hch:=KH (l:=List.range len) (Q:=fun i _ (e':T)=>∃cs',w.cells? 0 (a.add (i*P.cellsOf e)) (P.cellsOf e)=some cs'∧O4 (KG w) cs' e'.cells∧okC P n e e'.cells∧
         (iy P e=true→∃ys,e'= .agg ys)∧(iy P e=false→∀ys,e'≠ .agg ys)) fun i j hj=>by
         have hi:i<len:=by
          have:=(aLe.1 hj).1;simpa using this
         have hg:=hel i hi
         have hle:i<elems.length:=by omega
         rw[aLc hle]at hg
         obtain⟨cs',hc1,hc2⟩:=aLa.1 hg
         obtain⟨xs,r1,r2,r3,r4⟩:=ih e fu cs' _ hpe hc2
         cases hA:iy P e with
         | true=>exact⟨.agg xs,cs',hc1,r1,r2,fun _=>⟨xs,rfl⟩,fun h=>by cases h⟩
         | false=>
           obtain⟨c,rfl,hc⟩:=r3 hA
           refine⟨c,cs',hc1,?_,?_,(fun h=>by cases h),fun _=>hc⟩
           · cases c<;>first | exact r1 | exact(hc _ rfl).elim
           · cases c<;>first | exact r2 | exact(hc _ rfl).elim
        obtain⟨es,he1,he2⟩:=hch
        rw[List.length_range]at he1
        have hes:∀(i:Nat) e',es[i]?=some e'→∃cs',w.cells? 0 (a.add (i*P.cellsOf e)) (P.cellsOf e)=some cs'∧O4 (KG w) cs' e'.cells∧okC P n e e'.cells∧
         (iy P e=true→∃ys,e'= .agg ys)∧(iy P e=false→∀ys,e'≠ .agg ys):=fun i e' hi=>by
         have hlt:i<len:=by rw[← he1];exact(aLe.1 hi).1
         exact he2 i i e' (by simp[hlt]) hi
        have hok:okC P (n+1) t [.sl es]:=by
         simp only[okC,hu]
         refine⟨es,rfl,by omega,fun x hx=>?_⟩
         obtain⟨i,hi⟩:=aLf.1 hx
         obtain⟨_,_,_,k1,k2,k3⟩:=hes i x hi
         exact⟨k1,k2,k3⟩
        refine⟨[.sl es],one _ _ ?_ (fun _ e=>by cases e),hok,fun _=>⟨_,rfl,fun _ e=>by cases e⟩,by simp[hsz]⟩
        by_cases h0:len=0
        · have:es=[]:=List.eq_nil_of_length_eq_zero (by omega)
          subst this
          rw[h0];exact .sl0 _ _
        · have hlt0:0<es.length:=by omega
          obtain⟨cs',hc1,hc2,_⟩:=hes 0 _ (aLc hlt0)
          obtain⟨l1,l2⟩:=Ay hc1
          have hspot:a.spot=none:=by
           have hv:=l2 0 _ (aLc (by omega))
           have:(a.add (0*P.cellsOf e)).add 0=a.add 0:=by rw[Nat.zero_mul];rfl
           rw[this]at hv
           exact Qk hv
          have ha:a=⟨a.block,a.off,none⟩:=by cases a;simp only at hspot;subst hspot;rfl
          have hcell:∀(i:Nat) e' (k:Nat) c,es[i]?=some e'→e'.cells[k]?=some c→∃v,w.cell? ⟨a.block,a.off+i*P.cellsOf e+k,none⟩=some v∧lP (KG w) v c∧fM v=true:=by
           intro i e' k c hi hk
           obtain⟨cs',hc1,hc2,_⟩:=hes i e' hi
           obtain⟨l1,l2⟩:=Ay hc1
           have hkl:k<cs'.length:=by rw[hc2.1];exact(aLe.1 hk).1
           refine⟨cs'[k],?_,hc2.2 k _ c (aLc hkl) hk⟩
           rw[← l2 k _ (aLc hkl)]
           have:(a.add (i*P.cellsOf e)).add k=⟨a.block,a.off+i*P.cellsOf e+k,none⟩:=by rw[ha,iH,iH]
           rw[this]
          have hr:=lP.sl (F:=KG w) a.block a.off cap (P.cellsOf e) es (fun i k=>(w.cell? ⟨a.block,a.off+i*P.cellsOf e+k,none⟩).getD undef) (by omega)
           (fun e' he'=>by
            obtain⟨i,hi⟩:=aLf.1 he'
            obtain⟨cs',hc1,hc2,_⟩:=hes i e' hi
            rw[← hc2.1];exact(Ay hc1).1)
           (fun i e' k c hi hk=>by obtain⟨v,v1,v2,v3⟩:=hcell i e' k c hi hk;simp only[KG,v1,Option.getD_some,v3,and_self])
           (fun i e' k c hi hk=>by obtain⟨v,v1,v2,v3⟩:=hcell i e' k c hi hk;simp only[v1,Option.getD_some];exact v2)
          rw[he1,←ha]at hr
          exact hr
     case struct fs=>
      rw[aLr]at hp
      obtain⟨ys,m,_,_,hl,hyl,hf⟩:=DataW.trod_struct hu h
      obtain⟨xs,k1,k2⟩:=Ml (F:=KG w) (Q:=fun f xs=>okC P n f.type xs) hp.1 hl (Nat.zero_le _) fun f hfm=>by
       obtain⟨i,hi⟩:=aLf.1 hfm
       have hi':fs[i]?=some f:=by simpa using hi
       have hil:i<ys.length:=by
        have:=(Array.getElem?_eq_some_iff.1 hi').1;omega
       have hg:=hf i f hi'
       rw[aLc hil]at hg
       obtain⟨zs,r1,r2,r3,r4⟩:=ih f.type m _ _ (aLx.1 hp.2 f hfm) hg
       refine⟨zs,r1,?_,r2⟩
       rw[← r1.1];exact r4
      rw[List.drop_zero]at k1
      exact⟨xs,k1,by simp only[okC,hu];exact⟨by rw[← k1.1,hl],fun f hfm=>by simpa using(k2 f hfm).2⟩,fun e=>by simp[iy,hu]at e,hl⟩
     case array m e=>
      simp only[aLr,beq_iff_eq]at hp
      obtain⟨ys,fu,_,_,hl,hyl,hf⟩:=DataW.trod_array hu h
      obtain⟨xs,k1,k2⟩:=Qj (F:=KG w) (Q:=fun xs=>okC P n e xs) (sz:=P.cellsOf e) m cs (by rw[hl,hp.1]) fun i hi=>by
       have hil:i<ys.length:=by omega
       have hg:=hf i hi
       rw[aLc hil]at hg
       obtain⟨zs,r1,r2,r3,r4⟩:=ih e fu _ _ hp.2 hg
       refine⟨zs,r1,?_,r2⟩
       rw[← r1.1];exact r4
      exact⟨xs,k1,by simp only[okC,hu];exact⟨by rw[← k1.1,hl],k2⟩,fun e=>by simp[iy,hu]at e,hl⟩
def okT(P:Program)(n:Nat)(t:TypeId)(x:T):Prop:=okC P n t x.cells∧(iy P t=true→∃ys,x= .agg ys)∧(iy P t=false→∀ys,x≠ .agg ys)
def KI(P:Program)(n:Nat):List TypeId→List T→Prop
 | [],[]=>True
 | t::ts,x::xs=>okT P n t x∧KI P n ts xs
 | _,_=>False
theorem X3{n:Nat}{t:TypeId}(hp:lQ P n t=true)(hA:iy P t=false){base:Nat}{v:Value}(h:Value.okWide P w .any base t v):v.cells.toList=[v]:=by
 cases n with
 | zero=>simp[lQ]at hp
 | succ n=>
   unfold lQ at hp
   unfold iy at hA
   cases hu:P.underlying t with
   | none=>rw[hu]at hp;simp at hp
   | some d=>
     rw[hu]at hp hA
     cases d<;>simp only[aLt]at hp<;>try (simp at hA;done)
     · obtain⟨b,rfl⟩:=WideShapes.okWide_bool hu h;rfl
     · obtain⟨b,rfl⟩:=WideShapes.okWide_int hu h;rfl
     · obtain⟨b,rfl⟩:=WideShapes.okWide_string hu h;rfl
     · obtain⟨a,l,c,rfl⟩:=WideShapes.okWide_slice hu h;rfl
theorem X4{n:Nat}{t:TypeId}(hp:lQ P n t=true){base:Nat}{v:Value}(hok:Value.okWide P w .any base t v){d:DataW H}{ps:List MemPlace}
 (h:DataW.Trod enc P w 0 spare held t v d ps):∃x,okT P n t x∧lP (KG w) v x:=by
 obtain⟨fuel,h⟩:=h
 obtain⟨xs,h1,h2,h3,h4⟩:=TS n t fuel _ _ hp h
 cases hA:iy P t with
 | true=>
   obtain⟨cs,rfl⟩:∃cs,v= .agg cs:=by
    unfold iy at hA
    unfold Value.okWide at hok
    split at hA<;>first | cases hA | skip
    · rename_i hu;rw[hu]at hok;obtain⟨cs,h,_⟩:=hok;exact⟨cs,h⟩
    · rename_i hu;rw[hu]at hok;obtain⟨cs,h,_⟩:=hok;exact⟨cs,h⟩
   refine⟨.agg xs,⟨h2,fun _=>⟨xs,rfl⟩,(fun h=>by rw[hA]at h;cases h)⟩,?_⟩
   have:=lP.agg (F:=KG w) cs.toList xs h1.1 (fun v hv=>by
    obtain⟨i,hi⟩:=aLf.1 hv
    obtain⟨c,hc⟩:=ah h1.1 hi
    exact(h1.2 i v c hi hc).2) (fun i v c hv hc=>(h1.2 i v c hv hc).1)
   simpa using this
 | false=>
   obtain⟨c,rfl,hc⟩:=h3 hA
   have hv:=X3 hp hA hok
   rw[hv]at h1
   refine⟨c,⟨?_,(fun h=>by rw[hA]at h;cases h),fun _=>hc⟩,(h1.2 0 v c rfl rfl).1⟩
   cases c<;>first | exact h2 | exact(hc _ rfl).elim
theorem Mm{n:Nat}{base:Nat}:∀ {ts:List TypeId} {vs:List Value} {ds:List (DataW H)} {ps:List MemPlace},(∀t∈ts,lQ P n t=true)→
 (∀(j:Nat) t v,ts[j]?=some t→vs[j]?=some v→Value.okWide P w .any base t v)→DataW.TrodAll enc P w 0 spare held ts vs ds ps→
 ds.length=ts.length∧∃xs,KI P n ts xs∧qa (KG w) [] (shp []) vs (xs.map .t)
 | [],[],[],_,_,_,_=>⟨rfl,[],trivial,qa.nil⟩
 | [],[],_::_,_,_,_,h=>h.elim
 | [],_::_,_,_,_,_,h=>h.elim
 | _::_,[],_,_,_,_,h=>h.elim
 | _::_,_::_,[],_,_,_,h=>h.elim
 | t::ts,v::vs,d::ds,ps,hp,hok,h=>by
   obtain⟨p,q,h1,h2,rfl⟩:=h
   obtain⟨x,k1,k2⟩:=X4 (hp t List.mem_cons_self) (hok 0 t v rfl rfl) h1
   obtain⟨l1,xs,l2,l3⟩:=Mm (fun t ht=>hp t (List.mem_cons_of_mem _ ht)) (fun j t v hj hv=>hok (j+1) t v (by simpa using hj) (by simpa using hv)) h2
   exact⟨by simp[l1],x::xs,⟨k1,l2⟩,qa.cons (.t _ _ k2) l3⟩
theorem zb{W W':World}(hl:laidOutB P=true){sp':Nat→Bool}:∀ {ts:List TypeId} {vs:List Value} {ds:List (DataW H)} {ps:List MemPlace},(∀t∈ts,P.readableRec t=true∧t<P.types.size)→
 DataW.TrodAll enc P W 0 (fun _=>true) true ts vs ds ps→(∀p∈ps,W.sameAt W' p)→(∀p∈ps,sp' p.block=true)→DataW.TrodAll enc P W' 0 sp' true ts vs ds ps
 | [],[],[],_,_,h,_,_=>h
 | [],[],_::_,_,_,h,_,_=>h.elim
 | [],_::_,_,_,_,h,_,_=>h.elim
 | _::_,[],_,_,_,h,_,_=>h.elim
 | _::_,_::_,[],_,_,h,_,_=>h.elim
 | t::ts,v::vs,d::ds,ps,hr,h,hs,hb=>by
   obtain⟨p,q,h1,h2,rfl⟩:=h
   exact⟨p,q,WideElems.Trod_stays hl (hr t List.mem_cons_self).1 (hr t List.mem_cons_self).2 h1 (fun x hx=>hs x (List.mem_append_left _ hx)) (fun x hx=>hb x (List.mem_append_left _ hx)),
    zb hl (fun t ht=>hr t (List.mem_cons_of_mem _ ht)) h2 (fun x hx=>hs x (List.mem_append_right _ hx)) (fun x hx=>hb x (List.mem_append_right _ hx)),rfl⟩
theorem X5(w:World):az (KG w) [] [] w:=
 ⟨rfl,fun i o og h=>by simp at h,fun i j ogi ogj b _ h=>by simp at h,fun b o v h=>h⟩
theorem Ql{fs:Nat→Option Fn}(hcall:∀n,od P (eO fs n)){f:Func}{j N:Nat}(hj:Names.ρ N=some j){s:ChangeSpec}(hl:laidOutB P=true){n:Nat}
 (hpar:f.params.toList.all (fun t=>lQ P n t&&P.readableRec t&&decide (t<P.types.size))=true)
 {tb:TypeId} (hres:f.resultTypes= #[tb]) (hb:P.underlying tb=some .bool) (hvars:s.vars=[])
 (hfn:∀(H:Type) (ds:List (DataW H)),ds.length=f.params.toList.length→s.fn H ds={ results:=[.lit (.bool true)],args:=ds})
 (hlaw:∀xs:List T,KI P n f.params.toList xs→rq fs 0 N (xs.map .t) []=some (.t (.bool true),[]))
 (W:World) (base:Nat) (args:Array Value) (ds gs:List (DataW H)) (before:List MemPlace)
 (hval:∀(j:Nat) t v,f.params[j]?=some t→args[j]?=some v→Value.okWide P W .any base t v)
 (hW:DataW.Whole enc P f.params.toList s.vars false W args.toList ds gs before):
 Calls P j args W fun e W'=>∃v,e= .returned v∧s.post enc P f false true false false W args v W':=by
 have hW':=hW
 obtain⟨p,q,hA,hV,rfl,hfz,hnd⟩:=hW
 rw[hvars]at hV
 obtain⟨rfl,rfl⟩:gs=[]∧q=[]:=by
  cases gs with
  | nil=>exact⟨rfl,hV⟩
  | cons g gs=>exact hV.elim
 have hpar':∀t∈f.params.toList,lQ P n t=true∧P.readableRec t=true∧t<P.types.size:=fun t ht=>by
  have:=aLx.1 hpar t ht
  simp only[aLr,decide_eq_true_eq]at this
  exact⟨this.1.1,this.1.2,this.2⟩
 obtain⟨hdl,xs,hxs,hrel⟩:=Mm (fun t ht=>(hpar' t ht).1) (fun j t v hj hv=>hval j t v (by simpa using hj) (by simpa using hv)) hA
 obtain⟨m,hm⟩:=za.1 (hlaw xs hxs)
 have hfn':=hfn H ds hdl
 refine(hcall m 0 N _ _ _ _ hm j hj (KG W) [] W args.toList hrel (X5 W) (fun v w'=>v= .bool true∧W.heap.size≤w'.heap.size∧(∀b,b<W.heap.size→w'.heap[b]?=W.heap[b]?)∧xk W w') ?_).mono ?_
 · intro v w' F' g' hv hH hE hA
   refine⟨?_,hE.size,fun b hb=>hE.keep b hb (fun⟨og,hm,_⟩=>by cases hm),hE.io⟩
   cases hv with | t _ _ hv=>cases hv;rfl
 · rintro e W' ⟨v,rfl,rfl,hsz,hkeep,hio⟩
   have hlt:∀x∈p,x.block<W.heap.size:=fun x hx=>by simpa using hW'.lt x (by simpa using hx)
   have hsame:∀x∈p,W.sameAt W' x:=fun x hx=>by
    have:=hlt x hx
    cases x with
    | cell b o=>simp only[World.sameAt,World.cell?,hkeep b this]
    | map b=>exact hkeep b this
   refine⟨.bool true,rfl,ds,[],p,[],p,[],by simpa using hW',?_,?_,?_,?_,fun h=>by cases h⟩
   · rw[List.append_nil,hfn',hres]
     exact⟨[],[],⟨1,by simp[DataW.trod,hb,Value.resultList,Value.cells]⟩,rfl,rfl⟩
   · rw[List.append_nil,hfn']
     exact zb hl (fun t ht=>(hpar' t ht).2) hA hsame fun x hx=>by simpa using hlt x hx
   · rw[hvars,List.append_nil,hfn'];rfl
   · refine⟨hio.1,hio.2,fun i hi=>?_⟩
     rw[hkeep i hi]
     split<;>simp_all
end
end Go.Ev
namespace Go.Ev
open Go
def aff(n:Int):Prop:= -9223372036854775808≤n∧n≤9223372036854775807
theorem X6{m:Int}(h:(Lit.int .i64 m).wf=true):aff m:=by
 have e1:IntKind.i64.min= -9223372036854775808:=rfl
 have e2:IntKind.i64.max=9223372036854775807:=rfl
 simp only[Lit.wf,e1,e2,aLr,decide_eq_true_eq]at h
 exact h
theorem X7{P:Program}{n:Nat}{t:TypeId}{cs:List T}(hu:P.underlying t=some (.int .i64))(h:okC P (n+1) t cs):∃m,cs=[.int .i64 m]∧aff m:=by
 unfold okC at h
 rw[hu]at h
 obtain⟨m,h1,h2⟩:=h
 exact⟨m,h1,X6 h2⟩
theorem Dw{x:T}(hA:∀ys,x≠ .agg ys):x.cells=[x]:=by
 cases x<;>first | rfl | exact(hA _ rfl).elim
theorem X8{P:Program}{n:Nat}{t:TypeId}{x:T}(hu:P.underlying t=some (.int .i64))(h:okT P (n+1) t x):∃m,x= .int .i64 m∧aff m:=by
 obtain⟨h1,h2,h3⟩:=h
 have hA:iy P t=false:=by unfold iy;rw[hu]
 obtain⟨m,h4,h5⟩:=X7 hu h1
 rw[Dw (h3 hA)]at h4
 exact⟨m,by simpa using h4,h5⟩
theorem Qm{P:Program}{n:Nat}{t e:TypeId}{cs:List T}(hu:P.underlying t=some (.slice e)){α:Type}(f:α→T)(Q:α→Prop)(hd:∀x,okT P n e x→∃a,x=f a∧Q a)
 (h:okC P (n+1) t cs):∃l:List α,cs=[.sl (l.map f)]∧l.length≤maxLen∧∀a∈l,Q a:=by
 unfold okC at h
 rw[hu]at h
 obtain⟨es,rfl,h2,h3⟩:=h
 have key:∀es:List T,(∀x∈es,okT P n e x)→∃l:List α,es=l.map f∧∀a∈l,Q a:=by
  intro es
  induction es with
  | nil=>intro _;exact⟨[],rfl,fun a ha=>by cases ha⟩
  | cons x es ih=>
    intro hx
    obtain⟨a,ha,hq⟩:=hd x (hx x List.mem_cons_self)
    obtain⟨l,hl,hq2⟩:=ih fun y hy=>hx y (List.mem_cons_of_mem _ hy)
    refine⟨a::l,by rw[List.map_cons,ha,hl],fun b hb=>?_⟩
    rcases List.mem_cons.1 hb with rfl | hb
    · exact hq
    · exact hq2 b hb
 obtain⟨l,hl,hq⟩:=key es h3
 subst hl
 exact⟨l,rfl,by simpa using h2,hq⟩
theorem I0{P:Program}{n:Nat}{t e:TypeId}{x:T}(hu:P.underlying t=some (.slice e)){α:Type}(f:α→T)(Q:α→Prop)(hd:∀x,okT P n e x→∃a,x=f a∧Q a)
 (h:okT P (n+1) t x):∃l:List α,x= .sl (l.map f)∧l.length≤maxLen∧∀a∈l,Q a:=by
 obtain⟨h1,h2,h3⟩:=h
 have hA:iy P t=false:=by unfold iy;rw[hu]
 obtain⟨l,h4,h5⟩:=Qm hu f Q hd h1
 rw[Dw (h3 hA)]at h4
 exact⟨l,by simpa using h4,h5⟩
theorem TT{P:Program}{n:Nat}{t e:TypeId}{x:T}(hu:P.underlying t=some (.slice e))(he:P.underlying e=some (.int .i64))(h:okT P (n+2) t x):
 ∃l:List Int,x= .sl (l.map (T.int .i64))∧l.length≤maxLen∧∀m∈l,aff m:=
 I0 hu (T.int .i64) aff (fun _ hx=>X8 he hx) h
theorem ak8{P:Program}{n:Nat}{t:TypeId}{xs:List T}(h:KI P n [t] xs):∃x,xs=[x]∧okT P n t x:=by
 match xs,h with
 | [x],h=>exact⟨x,rfl,h.1⟩
theorem ak9{P:Program}{n:Nat}{t u:TypeId}{xs:List T}(h:KI P n [t,u] xs):∃x y,xs=[x,y]∧okT P n t x∧okT P n u y:=by
 match xs,h with
 | [x,y],h=>exact⟨x,y,rfl,h.1,h.2.1⟩
theorem ala{P:Program}{n:Nat}{t u v:TypeId}{xs:List T}(h:KI P n [t,u,v] xs):∃x y z,xs=[x,y,z]∧okT P n t x∧okT P n u y∧okT P n v z:=by
 match xs,h with
 | [x,y,z],h=>exact⟨x,y,z,rfl,h.1,h.2.1,h.2.2.1⟩
end Go.Ev
namespace Go.Ev
open Go
def eqL{α:Type}(f:α→α→Bool):List α→List α→Bool
 | [],[]=>true
 | a::x,b::y=>f a b&&eqL f x y
 | _,_=>false
theorem uy{α:Type}{f:α→α→Bool}(h:∀a b,f a b=true→a=b):∀ {x y:List α},eqL f x y=true→x=y
 | [],[],_=>rfl
 | [],_::_,h'=>by simp[eqL]at h'
 | _::_,[],h'=>by simp[eqL]at h'
 | a::x,b::y,h'=>by
   simp only[eqL,aLr]at h'
   rw[h a b h'.1,uy h h'.2]
def X9:Nat→T→T→Bool
 | _,.int j a,.int k b=>decide (j=k)&&decide (a=b)
 | _,.bool a,.bool b=>a==b
 | n+1,.agg a,.agg b=>eqL (X9 n) a b
 | n+1,.sl a,.sl b=>eqL (X9 n) a b
 | _,_,_=>false
theorem G9:∀ {n:Nat} {a b:T},X9 n a b=true→a=b:=by
 intro n
 induction n with
 | zero=>intro a b h;cases a<;>cases b<;>simp_all [X9]
 | succ n ih=>
   intro a b h
   cases a<;>cases b<;>simp only[X9,aLt]at h
   · simp at h;rw[h.1,h.2]
   · simp at h;rw[h]
   · rw[uy (fun _ _ h=>ih h) h]
   · rw[uy (fun _ _ h=>ih h) h]
def SN:Nat→D→D→Bool
 | n,.t a,.t b=>X9 n a b
 | _,.nil,.nil=>true
 | n+1,.agg a,.agg b=>eqL (SN n) a b
 | _,.bp a b,.bp c d=>decide (a=c)&&decide (b=d)
 | _,.ap a b c d e,.ap a' b' c' d' e'=>decide (a=a')&&decide (b=b')&&decide (c=c')&&decide (d=d')&&decide (e=e')
 | n,.ep a,.ep b=>eqL (X9 n) a b
 | _,.ref a b c,.ref a' b' c'=>decide (a=a')&&decide (b=b')&&decide (c=c')
 | _,.sub a b c d e,.sub a' b' c' d' e'=>decide (a=a')&&decide (b=b')&&decide (c=c')&&decide (d=d')&&decide (e=e')
 | n+1,.fn f a,.fn g b=>decide (f=g)&&eqL (SN n) a b
 | n+1,.tup a,.tup b=>eqL (SN n) a b
 | _,.nilp,.nilp=>true
 | _,.und,.und=>true
 | _,.ub,.ub=>true
 | _,_,_=>false
theorem Hc:∀ {n:Nat} {a b:D},SN n a b=true→a=b:=by
 intro n
 induction n with
 | zero=>
   intro a b h
   cases a<;>cases b<;>simp only[SN,aLt,aLr,decide_eq_true_eq]at h<;>try rfl
   · rw[G9 h]
   · rw[h.1,h.2]
   · obtain⟨⟨⟨⟨h1,h2⟩,h3⟩,h4⟩,h5⟩:=h;rw[h1,h2,h3,h4,h5]
   · rw[uy (fun _ _ h=>G9 h) h]
   · obtain⟨⟨h1,h2⟩,h3⟩:=h;rw[h1,h2,h3]
   · obtain⟨⟨⟨⟨h1,h2⟩,h3⟩,h4⟩,h5⟩:=h;rw[h1,h2,h3,h4,h5]
 | succ n ih=>
   intro a b h
   cases a<;>cases b<;>simp only[SN,aLt,aLr,decide_eq_true_eq]at h<;>try rfl
   · rw[G9 h]
   · rw[uy (fun _ _ h=>ih h) h]
   · rw[h.1,h.2]
   · obtain⟨⟨⟨⟨h1,h2⟩,h3⟩,h4⟩,h5⟩:=h;rw[h1,h2,h3,h4,h5]
   · rw[uy (fun _ _ h=>G9 h) h]
   · obtain⟨⟨h1,h2⟩,h3⟩:=h;rw[h1,h2,h3]
   · obtain⟨⟨⟨⟨h1,h2⟩,h3⟩,h4⟩,h5⟩:=h;rw[h1,h2,h3,h4,h5]
   · rw[h.1,uy (fun _ _ h=>ih h) h.2]
   · rw[uy (fun _ _ h=>ih h) h]
def aiF:Obj→Obj→Bool
 | .box a,.box b=>eqL (SN 16) a b
 | .arr a b c d,.arr a' b' c' d'=>decide (a=a')&&(b==b')&&decide (c=c')&&eqL (SN 16) d d'
 | _,_=>false
theorem Qn{a b:Obj}(h:aiF a b=true):a=b:=by
 cases a<;>cases b<;>simp only[aiF,aLt,aLr,decide_eq_true_eq,beq_iff_eq]at h
 · rw[uy (fun _ _ h=>Hc h) h]
 · obtain⟨⟨⟨h1,h2⟩,h3⟩,h4⟩:=h
   rw[h1,h2,h3,uy (fun _ _ h=>Hc h) h4]
def afg{α:Type}(f:α→α→Bool):Option α→Option α→Bool
 | none,none=>true
 | some a,some b=>f a b
 | _,_=>false
theorem KJ{α:Type}{f:α→α→Bool}(h:∀a b,f a b=true→a=b){x y:Option α}(h':afg f x y=true):x=y:=by
 cases x<;>cases y<;>simp only[afg,aLt]at h'
 · rfl
 · rw[h _ _ h']
def KK(tr:List (List D×List D×af))(rs:List R)(p:Nat×Nat):Bool:=
 match tr[p.1]?,rs[p.1]?,tr[p.2]?,tr[p.1+1]? with
 | some s,some r,some a,some s'=>(match r.o with
   | .al _ _=>afg aiF a.2.2[s.2.2.length]? s'.2.2[s.2.2.length]?
   | o=>(cP s.1 r.g==some false)||
     (afg (SN 16) (B9 (X.get s.2.1 s.1) a.2.2 o) (B9 (X.get s.2.1 s.1) s.2.2 o)&&(B9 (X.get s.2.1 s.1) s.2.2 o).isSome))
 | _,_,_,_=>false
open Classical in
theorem I3{tr:List (List D×List D×af)}{rs:List R}{p:Nat×Nat}(h:KK tr rs p=true):steady tr rs p=true:=by
 unfold KK at h
 unfold steady
 split at h
 · rename_i s r a s' e1 e2 e3 e4
   rw[e1,e2,e3,e4]
   simp only
   split at h
   · rename_i e;rw[e];simp only;exact decide_eq_true (KJ (fun _ _ h=>Qn h) h)
   · rename_i o hne
     have h2:((cP s.1 r.g==some false)||(decide (B9 (X.get s.2.1 s.1) a.2.2 r.o=B9 (X.get s.2.1 s.1) s.2.2 r.o)&&(B9 (X.get s.2.1 s.1) s.2.2 r.o).isSome))=true:=by
      rw[Bool.or_eq_true]at h ⊢
      rcases h with h | h
      · exact .inl h
      · rw[aLr]at h ⊢
        exact .inr ⟨decide_eq_true (KJ (fun _ _ h=>Hc h) h.1),h.2⟩
     split
     · rename_i z l e;exact(hne z l e).elim
     · exact h2
 · cases h
def KL(call:aU)(rs:List R)(ps:List (Nat×Nat))(vs:List D)(H:af):Option (List D×List D×af):=
 if ps.isEmpty||ps.all (KK (trace call rs [] vs H) rs)then evR call rs [] vs H else none
theorem sG{call call':aU}(h:Ap call call'){rs:List R}{ps:List (Nat×Nat)}{vs:List D}{H:af}{q:List D×List D×af}(hq:KL call rs ps vs H=some q):xb call' rs ps vs H=some q:=by
 unfold KL at hq
 unfold xb
 split at hq
 · rename_i hc
   obtain⟨h1,h2⟩:=tJ h hq
   rw[h2,if_pos ?_,h1]
   rw[Bool.or_eq_true]at hc ⊢
   rcases hc with hc | hc
   · exact .inl hc
   · refine .inr (aLx.2 fun x hx=>I3 (aLx.1 hc x hx))
 · cases hq
def alb(p q:Ex×St):Bool:=decide (p.1=q.1)&&eqL (SN 16) p.2.vs q.2.vs&&eqL aiF p.2.H q.2.H
theorem Ya{p q:Ex×St}(h:alb p q=true):p=q:=by
 obtain⟨e,vs,H⟩:=p
 obtain⟨e',vs',H'⟩:=q
 simp only[alb,aLr,decide_eq_true_eq]at h
 rw[h.1.1,uy (fun _ _ h=>Hc h) h.1.2,uy (fun _ _ h=>Qn h) h.2]
def NS(c:Option D)(a b:Option (Ex×St)):Option (Ex×St):=match c with
 | some (.t (.bool x))=>if x then a else b
 | some .ub=>if afg alb a b then a else none
 | _=>none
theorem wS{c:Option D}{a b a' b':Option (Ex×St)}{p:Ex×St}(h:NS c a b=some p)(ha:a=some p→a'=some p)(hb:b=some p→b'=some p):jh c a' b'=some p:=by
 unfold NS at h
 unfold jh
 split at h
 · rename_i x
   cases x with
   | true=>simpa using ha (by simpa using h)
   | false=>simpa using hb (by simpa using h)
 · split at h
   · rename_i e
     have e:=KJ (fun _ _ h=>Ya h) e
     have h1:=ha h
     have h2:=hb (e▸h)
     simp only[h1,h2,if_true]
   · cases h
 · cases h
def Az(call:aU)(fuel:Nat):C→St→Option (Ex×St)
 | .skip,st=>some (.normal,st)
 | .reg rs ps,st=>(KL call rs ps st.vs st.H).map fun q=>(.normal,⟨q.2.1,q.2.2⟩)
 | .seq a b,st=>(Az call fuel a st).bind fun p=>jC p (Az call fuel b)
 | .ite rs ps k a b,st=>(KL call rs ps st.vs st.H).bind fun q=>
  NS q.1[k]? (Az call fuel a ⟨q.2.1,q.2.2⟩) (Az call fuel b ⟨q.2.1,q.2.2⟩)
 | .its rs ps k a b c,st=>((KL call rs ps st.vs st.H).bind fun q=>
  NS q.1[k]? (Az call fuel a ⟨q.2.1,q.2.2⟩) (Az call fuel b ⟨q.2.1,q.2.2⟩)).bind fun p=>jC p (Az call fuel c)
 | .itk rs ps k a b c,st=>(KL call rs ps st.vs st.H).bind fun q=>
  NS q.1[k]? ((Az call fuel a ⟨q.2.1,q.2.2⟩).bind fun p=>jC p (Az call fuel c)) ((Az call fuel b ⟨q.2.1,q.2.2⟩).bind fun p=>jC p (Az call fuel c))
 | .itv j a b,st=>NS st.vs[j]? (Az call fuel a st) (Az call fuel b st)
 | .blk id c,st=>(Az call fuel c st).map (leave id)
 | .loop gc dead c,st=>iter gc dead (Az call fuel c) fuel ⟨jg dead st.vs,st.H⟩
 | .exit id,st=>some (.exit id,st)
 | .ret,st=>some (.ret,st)
 | .fail,_=>none
 | .cnd _ c,st=>Az call fuel c st
 | .rng x p f r1 p1 r2 p2,st=>(O3 (stepG (KL call) st.vs p r1 p1 r2 p2) (SM f st.vs[x]?) st.H).map fun H=>(.normal,⟨st.vs,H⟩)
theorem Qo{call call':aU}(h:Ap call call'){n:Nat}:∀(c:C) (st:St) (p:Ex×St),Az call n c st=some p→evC call' n c st=some p:=by
 intro c
 induction c with
 | skip=>intro st p hp;exact hp
 | reg rs ps=>
   intro st p hp
   simp only[Az,evC]at hp ⊢
   obtain⟨q,hq,rfl⟩:=aLb.1 hp
   rw[sG h hq];rfl
 | seq a b iha ihb=>
   intro st p hp
   simp only[Az,evC]at hp ⊢
   obtain⟨q,hq,hp⟩:=aLa.1 hp
   rw[iha _ _ hq,aLq]
   exact iD hp ihb
 | ite rs ps k a b iha ihb=>
   intro st p hp
   simp only[Az,evC]at hp ⊢
   obtain⟨q,hq,hp⟩:=aLa.1 hp
   rw[sG h hq,aLq]
   exact wS hp (iha _ _) (ihb _ _)
 | its rs ps k a b c iha ihb ihc=>
   intro st p hp
   simp only[Az,evC]at hp ⊢
   obtain⟨p1,hp1,hp⟩:=aLa.1 hp
   obtain⟨q,hq,hp1⟩:=aLa.1 hp1
   rw[sG h hq,aLq,wS hp1 (iha _ _) (ihb _ _),aLq]
   exact iD hp ihc
 | itk rs ps k a b c iha ihb ihc=>
   intro st p hp
   simp only[Az,evC]at hp ⊢
   obtain⟨q,hq,hp⟩:=aLa.1 hp
   rw[sG h hq,aLq]
   refine wS hp (fun h1=>?_) (fun h1=>?_)
   · obtain⟨p1,h2,h3⟩:=aLa.1 h1
     rw[iha _ _ h2,aLq]
     exact iD h3 ihc
   · obtain⟨p1,h2,h3⟩:=aLa.1 h1
     rw[ihb _ _ h2,aLq]
     exact iD h3 ihc
 | itv j a b iha ihb=>
   intro st p hp
   simp only[Az,evC]at hp ⊢
   exact wS hp (iha _ _) (ihb _ _)
 | blk id c ih=>
   intro st p hp
   simp only[Az,evC]at hp ⊢
   obtain⟨q,hq,rfl⟩:=aLb.1 hp
   rw[ih _ _ hq];rfl
 | loop gc dead c ih=>
   intro st p hp
   simp only[Az,evC]at hp ⊢
   exact y9 ih hp
 | exit id=>intro st p hp;exact hp
 | ret=>intro st p hp;exact hp
 | fail=>intro st p hp;cases hp
 | cnd v c ih=>intro st p hp;exact ih st p hp
 | rng x p f r1 p1 r2 p2=>
   intro st q hp
   simp only[Az,evC]at hp ⊢
   obtain⟨H,hH,rfl⟩:=aLb.1 hp
   rw[CZ (Al fun _ _ _ _ _ hr=>sG h hr) hH];rfl
def Dx(fs:Nat→Option Fn):Nat→aU
 | 0,_,_,_,_=>none
 | n+1,raw,f,args,H=>(fs f).bind fun fn=>if fn.prim≠[]then GM fn.prim args H else if fn.aq=args.length then
  (Az (Dx fs n) n fn.body ⟨xj args fn.vars,H⟩).bind fun p=>match p.1 with
   | .exit _=>none
   | _=>(mG p.2 fn.res).bind (finish H.length raw p.2.H)
  else none
theorem Gb{fs:Nat→Option Fn}:∀n,Ap (Dx fs n) (eO fs n)
 | 0=>fun raw f args H r h=>by cases h
 | n+1=>fun raw f args H r h=>by
   simp only[Dx,eO]at h ⊢
   obtain⟨fn,hfn,h⟩:=aLa.1 h
   rw[hfn,aLq]
   split at h
   · rename_i hn;rw[if_pos hn];exact h
   rename_i hpr
   rw[if_neg hpr]
   split at h
   · rename_i hn
     rw[if_pos hn]
     obtain⟨p,hp,h⟩:=aLa.1 h
     rw[Qo (Gb n) _ _ _ hp,aLq];exact h
   · cases h
theorem Qp{fs:Nat→Option Fn}(n:Nat){raw f:Nat}{args:List D}{H:af}{r:D×af}(h:Dx fs n raw f args H=some r):rq fs raw f args H=some r:=
 IZ n _ _ _ _ _ (Gb n _ _ _ _ _ h)
def Mn(fs:Nat→Option Fn)(n f:Nat):Bool:=match Dx fs n 0 f [] []with
 | some (.t (.bool true),[])=>true
 | _=>false
theorem KM{fs:Nat→Option Fn}{n f:Nat}(h:Mn fs n f=true):rq fs 0 f [] []=some (.t (.bool true),[]):=by
 refine Qp n ?_
 unfold Mn at h
 split at h
 · assumption
 · cases h
end Go.Ev
namespace Go.Ev
open Go
abbrev Tr:=List D×List D×af
def Gc(x:Option (D×af)):Option D:=x.map Prod.fst
def xn:O→Bool
 | .ld .. =>true
 | .ia .. =>true
 | .sc .. =>true
 | .mkt .. =>true
 | _=>false
def Yb(call:aU)(all:List R)(n:Nat)(acc:List Tr)(p m:Nat):Prop:=
 match all[p]?,acc[n-p]?,acc[n-m]?,acc[n-(p+1)]? with
 | some r,some s,some a,some s'=>(match r.o with
   | .al _ _=>a.2.2[s.2.2.length]?=s'.2.2[s.2.2.length]?
   | .bs xs _=>cP s.1 r.g=some false∨((cK (X.get s.2.1 s.1) xs).bind tw).isSome=true
   | o=>xn o=true∧(cP s.1 r.g=some false∨Gc (evO call (X.get s.2.1 s.1) a.2.2 o)=Gc (evO call (X.get s.2.1 s.1) s.2.2 o)))
 | _,_,_,_=>False
def uz(call:aU)(all:List R)(n:Nat)(acc:List Tr):List (Nat×Nat)→Prop
 | []=>True
 | (p,m)::r=>Yb call all n acc p m∧m≤n∧uz call all n acc r
open Classical in
noncomputable def O5(call:aU)(rs:List R)(ps:List (Nat×Nat))(vs:List D)(H:af):Option (List D×List D×af):=
 if uz call rs rs.length (trace call rs [] vs H).reverse ps then evR call rs [] vs H else none
theorem AA{call:aU}:∀ {rs:List R} {L vs:List D} {H:af} {res:List D×List D×af},evR call rs L vs H=some res→
 (trace call rs L vs H).length=rs.length+1∧
 ∀p r s s',rs[p]?=some r→(trace call rs L vs H)[p]?=some s→(trace call rs L vs H)[p+1]?=some s'→
  (∃q,cP s.1 r.g=some true∧evO call (X.get s.2.1 s.1) s.2.2 r.o=some q∧s'=(q.1::s.1,wr s.2.1 r.d q.1,q.2))∨cP s.1 r.g=some false
 | [],L,vs,H,res,h=>by simp[trace]
 | r::rs,L,vs,H,res,h=>by
   simp only[evR]at h
   obtain⟨b,hb,h⟩:=aLa.1 h
   cases b with
   | true=>
     simp only[if_true]at h
     obtain⟨q,hq,h⟩:=aLa.1 h
     obtain⟨a1,a2⟩:=AA h
     have e:trace call (r::rs) L vs H=(L,vs,H)::trace call rs (q.1::L) (wr vs r.d q.1) q.2:=by simp[trace,hb,hq]
     rw[e]
     refine⟨by simp[a1],fun p r' s s' hr hs hs'=>?_⟩
     cases p with
     | zero=>
       simp at hr hs hs'
       subst hr;subst hs
       have:(trace call rs (q.1::L) (wr vs r.d q.1) q.2)[0]?=some (q.1::L,wr vs r.d q.1,q.2):=by cases rs<;>simp[trace]
       rw[this]at hs'
       exact .inl ⟨q,hb,hq,(Option.some.inj hs').symm⟩
     | succ p=>simp at hr hs hs';exact a2 p r' s s' hr hs hs'
   | false=>
     simp only[aLt,if_false]at h
     obtain⟨a1,a2⟩:=AA h
     have e:trace call (r::rs) L vs H=(L,vs,H)::trace call rs (.tup []::L) (wr vs r.d (.tup [])) H:=by simp[trace,hb]
     rw[e]
     refine⟨by simp[a1],fun p r' s s' hr hs hs'=>?_⟩
     cases p with
     | zero=>
       simp at hr hs
       subst hr;subst hs
       exact .inr hb
     | succ p=>simp at hr hs hs';exact a2 p r' s s' hr hs hs'
theorem KN{call:aU}{get:X→Option D}{o:O}(h:xn o=true)(H:af):Gc (evO call get H o)=B9 get H o:=by
 cases o<;>simp only[xn,aLt]at h
 case ia x i sz=>
  simp only[evO,B9,Gc]
  cases get x with
  | none=>rfl
  | some a=>
    simp only[aLq]
    cases (get i).bind intOf with
    | none=>rfl
    | some n=>simp only[aLq];cases GK H a n sz<;>rfl
 case ld x n agg=>
  simp only[evO,B9,Gc]
  cases get x with
  | none=>rfl
  | some a=>simp only[aLq];cases Ak H a n agg<;>rfl
 case mkt len zero sz=>
  simp only[evO,B9,Gc]
  cases (get len).bind intOf with
  | none=>rfl
  | some n=>
    simp only[aLq]
    cases idx n with
    | none=>rfl
    | some m=>simp only[aLq];split<;>rfl
 case sc x lo hi sz=>
  simp only[evO,B9,Gc]
  cases get x with
  | none=>rfl
  | some a=>
    simp only[aLq]
    cases NA get lo with
    | none=>rfl
    | some l=>
      simp only[aLq]
      cases NA get hi with
      | none=>rfl
      | some h=>simp only[aLq];cases rB H a l h sz<;>rfl
theorem vE{call:aU}{rs:List R}{ps:List (Nat×Nat)}{vs:List D}{H:af}{q:List D×List D×af}(h:O5 call rs ps vs H=some q):xb call rs ps vs H=some q:=by
 unfold O5 at h
 split at h
 · rename_i hp
   unfold xb
   obtain⟨h1,h2⟩:=AA h
   have key:ps.all (steady (trace call rs [] vs H) rs)=true:=by
    rw[aLx]
    have:∀(ps:List (Nat×Nat)),uz call rs rs.length (trace call rs [] vs H).reverse ps→∀x∈ps,steady (trace call rs [] vs H) rs x=true:=by
     intro ps
     induction ps with
     | nil=>intro _ x hx;cases hx
     | cons y ps ih=>
       intro hps x hx
       obtain⟨p,m⟩:=y
       obtain⟨hp,hm,hps⟩:=hps
       rcases List.mem_cons.1 hx with rfl | hx
       · unfold Yb at hp
         have hidx:∀k,k≤rs.length→(trace call rs [] vs H).reverse[rs.length-k]?=(trace call rs [] vs H)[k]?:=by
          intro k hk
          rw[List.getElem?_reverse (by omega),h1]
          congr 1;omega
         split at hp
         · rename_i r s a s' hr hs ha hs'
           have hpl:p<rs.length:=(aLe.1 hr).1
           rw[hidx p (by omega)]at hs
           rw[hidx m hm]at ha
           rw[hidx (p+1) (by omega)]at hs'
           simp only[steady,hs,hr,ha,hs']
           have hst:=h2 p r s s' hr hs hs'
           have gen:∀o,r.o=o→xn o=true→(cP s.1 r.g=some false∨Gc (evO call (X.get s.2.1 s.1) a.2.2 o)=Gc (evO call (X.get s.2.1 s.1) s.2.2 o))→
            cP s.1 r.g=some false∨(B9 (X.get s.2.1 s.1) a.2.2 o=B9 (X.get s.2.1 s.1) s.2.2 o∧(B9 (X.get s.2.1 s.1) s.2.2 o).isSome=true):=by
            intro o ho hl hor
            rcases hor with h3 | h3
            · exact .inl h3
            · rw[KN hl,KN hl]at h3
              rcases hst with⟨q,k1,k2,_⟩ | k
              · rw[ho]at k2
                have h4:B9 (X.get s.2.1 s.1) s.2.2 o=some q.1:=by rw[← KN hl (call:=call),k2];rfl
                exact .inr ⟨h3,by rw[h4];rfl⟩
              · exact .inl k
           split
           · rename_i zero live ho
             rw[ho]at hp
             simp only at hp
             simp[hp]
           · rename_i hnal
             simp only[Bool.or_eq_true,beq_iff_eq,aLr,decide_eq_true_eq]
             cases ho:r.o with
             | ld x n agg=>rw[ho]at hp;exact gen _ ho rfl hp.2
             | ia x i sz=>rw[ho]at hp;exact gen _ ho rfl hp.2
             | sc x lo hi sz=>rw[ho]at hp;exact gen _ ho rfl hp.2
             | mkt x z sz=>rw[ho]at hp;exact gen _ ho rfl hp.2
             | al z l=>exact(hnal _ _ ho).elim
             | bs xs sz=>
               rw[ho]at hp
               simp only at hp
               rcases hp with h3 | h3
               · exact .inl h3
               · rcases hst with⟨q,k1,k2,_⟩ | k
                 · obtain⟨ts,hts⟩:=Option.isSome_iff_exists.1 h3
                   obtain⟨ds,hds,hts⟩:=aLa.1 hts
                   rw[ho]at k2
                   simp only[evO,hds,aLq]at k2
                   split at k2
                   · rename_i hall
                     have har:∀(H:af) (ds:List D) (ts:List T),tw ds=some ts→ds.flatMap (gu H depth)=[]∧cK (frz H depth) ds=some ts:=by
                      intro H ds
                      induction ds with
                      | nil=>intro ts h;simp[tw]at h;subst h;exact⟨rfl,rfl⟩
                      | cons d ds ih=>
                        intro ts h
                        cases d with
                        | t x=>
                          simp only[tw,aLb]at h
                          obtain⟨r,hr,rfl⟩:=h
                          obtain⟨i1,i2⟩:=ih r hr
                          exact⟨by rw[List.flatMap_cons,i1];simp[gu,depth],by simp[cK,frz,i2]⟩
                        | _=>simp[tw]at h
                     right
                     simp only[B9,hds,aLq,hall,(har _ ds ts hts).1,(har _ ds ts hts).2,List.isEmpty_nil,Bool.and_self,if_true,aLw,Option.isSome_some,and_self]
                   · cases k2
                 · exact .inl k
             | _=>rw[ho]at hp;simp[xn]at hp
         · exact hp.elim
       · exact ih hps x hx
    exact fun x hx=>this ps hp x hx
   rw[if_pos (by simp[key])]
   exact h
 · cases h
noncomputable def exS(call:aU):C→St→Option (Ex×St)
 | .skip,st=>some (.normal,st)
 | .reg rs ps,st=>(O5 call rs ps st.vs st.H).map fun q=>(.normal,⟨q.2.1,q.2.2⟩)
 | .seq a b,st=>(exS call a st).bind fun p=>jC p (exS call b)
 | .ite rs ps k a b,st=>(O5 call rs ps st.vs st.H).bind fun q=>
  jh q.1[k]? (exS call a ⟨q.2.1,q.2.2⟩) (exS call b ⟨q.2.1,q.2.2⟩)
 | .its rs ps k a b c,st=>((O5 call rs ps st.vs st.H).bind fun q=>
  jh q.1[k]? (exS call a ⟨q.2.1,q.2.2⟩) (exS call b ⟨q.2.1,q.2.2⟩)).bind fun p=>jC p (exS call c)
 | .itk rs ps k a b c,st=>(O5 call rs ps st.vs st.H).bind fun q=>
  jh q.1[k]? ((exS call a ⟨q.2.1,q.2.2⟩).bind fun p=>jC p (exS call c)) ((exS call b ⟨q.2.1,q.2.2⟩).bind fun p=>jC p (exS call c))
 | .itv j a b,st=>jh st.vs[j]? (exS call a st) (exS call b st)
 | .blk id c,st=>(exS call c st).map (leave id)
 | .loop gc dead c,st=>tK gc dead (exS call c) ⟨jg dead st.vs,st.H⟩
 | .exit id,st=>some (.exit id,st)
 | .ret,st=>some (.ret,st)
 | .fail,_=>none
 | .cnd _ c,st=>exS call c st
 | .rng x p f r1 p1 r2 p2,st=>(O3 (stepG (O5 call) st.vs p r1 p1 r2 p2) (SM f st.vs[x]?) st.H).map fun H=>(.normal,⟨st.vs,H⟩)
theorem TU{call:aU}:∀(c:C) (st:St) (p:Ex×St),exS call c st=some p→exC call c st=some p:=by
 intro c
 induction c with
 | skip=>intro st p h;exact h
 | reg rs ps=>
   intro st p h
   simp only[exS,exC]at h ⊢
   obtain⟨q,hq,rfl⟩:=aLb.1 h
   rw[vE hq];rfl
 | seq a b iha ihb=>
   intro st p h
   simp only[exS,exC]at h ⊢
   obtain⟨q,hq,h⟩:=aLa.1 h
   rw[iha _ _ hq,aLq]
   exact iD h ihb
 | ite rs ps k a b iha ihb=>
   intro st p h
   simp only[exS,exC]at h ⊢
   obtain⟨q,hq,h⟩:=aLa.1 h
   rw[vE hq,aLq]
   exact nD h (iha _ _) (ihb _ _)
 | its rs ps k a b c iha ihb ihc=>
   intro st p h
   simp only[exS,exC]at h ⊢
   obtain⟨p1,hp1,h⟩:=aLa.1 h
   obtain⟨q,hq,hp1⟩:=aLa.1 hp1
   rw[vE hq,aLq,nD hp1 (iha _ _) (ihb _ _),aLq]
   exact iD h ihc
 | itk rs ps k a b c iha ihb ihc=>
   intro st p h
   simp only[exS,exC]at h ⊢
   obtain⟨q,hq,h⟩:=aLa.1 h
   rw[vE hq,aLq]
   refine nD h (fun h1=>?_) (fun h1=>?_)
   · obtain⟨p1,h2,h3⟩:=aLa.1 h1
     rw[iha _ _ h2,aLq]
     exact iD h3 ihc
   · obtain⟨p1,h2,h3⟩:=aLa.1 h1
     rw[ihb _ _ h2,aLq]
     exact iD h3 ihc
 | itv j a b iha ihb=>
   intro st p h
   simp only[exS,exC]at h ⊢
   exact nD h (iha _ _) (ihb _ _)
 | blk id c ih=>
   intro st p h
   simp only[exS,exC]at h ⊢
   obtain⟨q,hq,rfl⟩:=aLb.1 h
   rw[ih _ _ hq];rfl
 | loop gc dead c ih=>
   intro st p h
   simp only[exS,exC]at h ⊢
   obtain⟨n,hn⟩:=sF.1 h
   exact sF.2 ⟨n,y9 ih hn⟩
 | exit id=>intro st p h;exact h
 | ret=>intro st p h;exact h
 | fail=>intro st p h;cases h
 | cnd v c ih=>intro st p h;exact ih st p h
 | rng x p f r1 p1 r2 p2=>
   intro st q h
   simp only[exS,exC]at h ⊢
   obtain⟨H,hH,rfl⟩:=aLb.1 h
   rw[CZ (Al fun _ _ _ _ _ hr=>vE hr) hH];rfl
end Go.Ev
namespace Go.Ev
open Go
abbrev I(n:Int):D:= .t (.int .i64 n)
abbrev B(b:Bool):D:= .t (.bool b)
def O6{β:Type}(call:aU):List R→List D→List D→af→(List D→List D→af→Option β)→Option β
 | rs,L,vs,H,K=>(evR call rs L vs H).bind fun q=>K q.1 q.2.1 q.2.2
def Yc{β:Type}(call:aU)(rs:List R)(d:Option Nat)(L vs:List D)(K:List D→List D→af→Option β)(p:D×af):Option β:=
 O6 call rs (p.1::L) (wr vs d p.1) p.2 K
@[go_sem] theorem aiG {β : Type} (call : aU) (rs : List R) (d : Option Nat) (L vs : List D) (K : List D → List D → af → Option β) (x : D) (H : af) :
 Yc call rs d L vs K (x,H)=O6 call rs (x::L) (wr vs d x) H K:=(rfl)
@[go_sem] theorem aiH {β : Type} (call : aU) (L vs : List D) (H : af) (K : List D → List D → af → Option β) : O6 call [] L vs H K = K L vs H := (rfl)
@[go_sem] theorem afh {β : Type} (call : aU) (o : O) (d : Option Nat) (rs : List R) (L vs : List D) (H : af) (K : List D → List D → af → Option β) :
 O6 call (⟨o,d,none⟩::rs) L vs H K=(evO call (X.get vs L) H o).bind (Yc call rs d L vs K):=by
 simp[O6,evR,cP,Option.bind_assoc]
 rfl
def gate{β:Type}(c:Option D)(w:Bool)(a b:Option β):Option β:=match c with
 | some (.t (.bool x))=>if x=w then a else b
 | some (.tup [])=>b
 | _=>none
@[congr] theorem abQ {β : Type} {c c' : Option D} {w : Bool} {a b : Option β} (h : True → c = c') : gate c w a b = gate c' w a b := by rw [h trivial]
@[go_sem] theorem aiI {β : Type} (p : Prop) [Decidable p] (a b : Option β) : gate (some (.t (.bool (decide p)))) true a b = if p then a else b := by
 by_cases h:p<;>simp[gate,h]
@[go_sem] theorem afi {β : Type} (p : Prop) [Decidable p] (a b : Option β) : gate (some (.t (.bool (decide p)))) false a b = if p then b else a := by
 by_cases h:p<;>simp[gate,h]
@[go_sem] theorem afj {β : Type} (x : Bool) (a b : Option β) : gate (some (.t (.bool x))) true a b = if x = true then a else b := (rfl)
@[go_sem] theorem abR {β : Type} (x : Bool) (a b : Option β) : gate (some (.t (.bool x))) false a b = if x = true then b else a := by cases x <;> rfl
@[go_sem] theorem afk {β : Type} (w : Bool) (a b : Option β) : gate (some (.tup [])) w a b = b := (rfl)
@[go_sem] theorem afl {β : Type} (call : aU) (o : O) (d : Option Nat) (k : Nat) (w : Bool) (rs : List R) (L vs : List D) (H : af) (K : List D → List D → af → Option β) :
 O6 call (⟨o,d,some (k,w)⟩::rs) L vs H K=gate L[k]? w ((evO call (X.get vs L) H o).bind (Yc call rs d L vs K)) (O6 call rs (.tup []::L) (wr vs d (.tup [])) H K):=by
 simp only[O6,evR,cP]
 cases hL:L[k]? with
 | none=>simp[gate]
 | some c=>
   simp only[aLq]
   cases c with
   | t x=>
     cases x with
     | bool b=>cases b<;>cases w<;>simp[gate,Option.bind_assoc]<;>rfl
     | _=>simp[gate]
   | tup ds=>
     cases ds with
     | nil=>simp[gate]
     | cons=>simp[gate]
   | _=>simp[gate]
open Classical in
noncomputable def By{β:Type}(p:Prop)(x:Option β):Option β:=if p then x else none
@[go_sem] theorem Yd {β : Type} (x : Option β) : By True x = x := by simp [By]
noncomputable def I4{β:Type}(call:aU)(all:List R)(n:Nat)(ps:List (Nat×Nat))(rs:List R)(L vs:List D)(H:af)(acc:List Tr)(K:List D→List D→af→Option β):Option β:=
 (evR call rs L vs H).bind fun q=>By (uz call all n ((trace call rs L vs H).reverse++acc) ps) (K q.1 q.2.1 q.2.2)
noncomputable def Qq{β:Type}(call:aU)(all:List R)(n:Nat)(ps:List (Nat×Nat))(rs:List R)(d:Option Nat)(L vs:List D)(H:af)(acc:List Tr)(K:List D→List D→af→Option β)(p:D×af):Option β:=
 I4 call all n ps rs (p.1::L) (wr vs d p.1) p.2 ((L,vs,H)::acc) K
@[go_sem] theorem aiJ {β : Type} (call : aU) (all : List R) (n : Nat) (ps : List (Nat × Nat)) (rs : List R) (d : Option Nat) (L vs : List D) (H : af) (acc : List Tr) (K : List D → List D → af → Option β) (x : D) (H' : af) :
 Qq call all n ps rs d L vs H acc K (x,H')=I4 call all n ps rs (x::L) (wr vs d x) H' ((L,vs,H)::acc) K:=(rfl)
@[go_sem] theorem aiK {β : Type} (call : aU) (all : List R) (n : Nat) (ps : List (Nat × Nat)) (L vs : List D) (H : af) (acc : List Tr) (K : List D → List D → af → Option β) :
 I4 call all n ps [] L vs H acc K=By (uz call all n ((L,vs,H)::acc) ps) (K L vs H):=by
 simp[I4,evR,trace]
theorem I5{β:Type}(call:aU)(all:List R)(n:Nat)(ps:List (Nat×Nat))(r:R)(rs:List R)(L vs:List D)(H:af)(acc:List Tr)(K:List D→List D→af→Option β):
 I4 call all n ps (r::rs) L vs H acc K=(cP L r.g).bind fun w=>
  if w then(evO call (X.get vs L) H r.o).bind (Qq call all n ps rs r.d L vs H acc K)else I4 call all n ps rs (.tup []::L) (wr vs r.d (.tup [])) H ((L,vs,H)::acc) K:=by
 obtain hw | ⟨w,hw⟩:cP L r.g=none∨∃w,cP L r.g=some w:=by cases cP L r.g<;>simp
 · simp[I4,evR,trace,hw]
 · cases w with
   | true=>
     obtain hq | ⟨q,hq⟩:evO call (X.get vs L) H r.o=none∨∃q,evO call (X.get vs L) H r.o=some q:=by cases evO call (X.get vs L) H r.o<;>simp
     · simp[I4,evR,trace,hw,hq]
     · simp[I4,evR,trace,hw,hq,Qq]
   | false=>simp[I4,evR,trace,hw]
@[go_sem] theorem afm {β : Type} (call : aU) (all : List R) (n : Nat) (ps : List (Nat × Nat)) (o : O) (d : Option Nat) (rs : List R) (L vs : List D) (H : af) (acc : List Tr) (K : List D → List D → af → Option β) :
 I4 call all n ps (⟨o,d,none⟩::rs) L vs H acc K=(evO call (X.get vs L) H o).bind (Qq call all n ps rs d L vs H acc K):=by
 rw[I5];simp[cP]
@[go_sem] theorem afn {β : Type} (call : aU) (all : List R) (n : Nat) (ps : List (Nat × Nat)) (o : O) (d : Option Nat) (k : Nat) (w : Bool) (rs : List R) (L vs : List D) (H : af) (acc : List Tr) (K : List D → List D → af → Option β) :
 I4 call all n ps (⟨o,d,some (k,w)⟩::rs) L vs H acc K=
  gate L[k]? w ((evO call (X.get vs L) H o).bind (Qq call all n ps rs d L vs H acc K)) (I4 call all n ps rs (.tup []::L) (wr vs d (.tup [])) H ((L,vs,H)::acc) K):=by
 rw[I5]
 simp only[cP]
 cases hL:L[k]? with
 | none=>simp[gate]
 | some c=>
   simp only[aLq]
   cases c with
   | t x=>
     cases x with
     | bool b=>cases b<;>cases w<;>simp[gate]
     | _=>simp[gate]
   | tup ds=>
     cases ds with
     | nil=>simp[gate]
     | cons=>simp[gate]
   | _=>simp[gate]
def Cd(call:aU):Option R→Option Tr→Option Tr→Option Tr→Prop
 | some r,some s,some a,some s'=>(match r.o with
   | .al _ _=>a.2.2[s.2.2.length]?=s'.2.2[s.2.2.length]?
   | .bs xs _=>cP s.1 r.g=some false∨((cK (X.get s.2.1 s.1) xs).bind tw).isSome=true
   | o=>xn o=true∧(cP s.1 r.g=some false∨Gc (evO call (X.get s.2.1 s.1) a.2.2 o)=Gc (evO call (X.get s.2.1 s.1) s.2.2 o)))
 | _,_,_,_=>False
@[go_sem] theorem abS (call : aU) (all : List R) (n : Nat) (acc : List Tr) : uz call all n acc [] = True := (rfl)
@[go_sem] theorem Ye (call : aU) (all : List R) (n : Nat) (acc : List Tr) (p m : Nat) (r : List (Nat × Nat)) :
 uz call all n acc ((p,m)::r)=(Cd call all[p]? acc[n-p]? acc[n-m]? acc[n-(p+1)]?∧m≤n∧uz call all n acc r):=by
 simp only[uz,Yb,Cd]
 try rfl
section
variable (call : aU) (d : Option Nat) (gd : Option (Nat × Bool)) (L vs L' vs' : List D) (H H' : af) (s' : Tr)
@[go_sem] theorem aiL (x : X) (n : Nat) (agg : Bool) : Cd call (some ⟨.ld x n agg, d, gd⟩) (some (L, vs, H)) (some (L', vs', H')) (some s') =
 (cP L gd=some false∨Gc (evO call (X.get vs L) H' (.ld x n agg))=Gc (evO call (X.get vs L) H (.ld x n agg))):=by simp[Cd,xn]
@[go_sem] theorem aiM (x i : X) (sz : Nat) : Cd call (some ⟨.ia x i sz, d, gd⟩) (some (L, vs, H)) (some (L', vs', H')) (some s') =
 (cP L gd=some false∨Gc (evO call (X.get vs L) H' (.ia x i sz))=Gc (evO call (X.get vs L) H (.ia x i sz))):=by simp[Cd,xn]
@[go_sem] theorem aiN (x : X) (lo hi : Option X) (sz : Nat) : Cd call (some ⟨.sc x lo hi sz, d, gd⟩) (some (L, vs, H)) (some (L', vs', H')) (some s') =
 (cP L gd=some false∨Gc (evO call (X.get vs L) H' (.sc x lo hi sz))=Gc (evO call (X.get vs L) H (.sc x lo hi sz))):=by simp[Cd,xn]
@[go_sem] theorem afo (x : X) (z : T) (sz : Nat) : Cd call (some ⟨.mkt x z sz, d, gd⟩) (some (L, vs, H)) (some (L', vs', H')) (some s') =
 (cP L gd=some false∨Gc (evO call (X.get vs L) H' (.mkt x z sz))=Gc (evO call (X.get vs L) H (.mkt x z sz))):=by simp[Cd,xn]
@[go_sem] theorem aiO (z : List D) (l : List (Nat × Nat)) (L2 vs2 : List D) (H2 : af) : Cd call (some ⟨.al z l, d, gd⟩) (some (L, vs, H)) (some (L', vs', H')) (some (L2, vs2, H2)) = (H'[H.length]? = H2[H.length]?) := (rfl)
@[go_sem] theorem aiP (xs : List X) (sz : Nat) : Cd call (some ⟨.bs xs sz, d, gd⟩) (some (L, vs, H)) (some (L', vs', H')) (some s') =
 (cP L gd=some false∨((cK (X.get vs L) xs).bind tw).isSome=true):=(rfl)
@[go_sem] theorem VR (L : List D) : cP L none = some true := (rfl)
def Yf(w:Bool):Option D→Option Bool
 | some (.t (.bool b))=>some (b==w)
 | some (.tup [])=>some false
 | _=>none
@[go_sem] theorem abT (w b : Bool) : Yf w (some (.t (.bool b))) = some (b == w) := (rfl)
@[go_sem] theorem afp (w : Bool) : Yf w (some (.tup [])) = some false := (rfl)
@[go_sem] theorem VS (L : List D) (k : Nat) (w : Bool) : cP L (some (k, w)) = Yf w L[k]? := by
 simp only[cP]
 cases L[k]? with
 | none=>rfl
 | some c=>cases c with
   | t x=>cases x<;>rfl
   | tup ds=>cases ds<;>rfl
   | _=>rfl
@[go_sem] theorem afq (x : D) : Gc (some (x, H)) = some x := (rfl)
attribute [go_sem] beq_true beq_false or_true true_or or_self
end
theorem Mo(call:aU)(rs:List R)(vs:List D)(H:af):O5 call rs [] vs H=evR call rs [] vs H:=by
 simp[O5,uz]
def alc(L vs:List D)(H:af):Option (Ex×St):=some (.normal,⟨vs,H⟩)
noncomputable def ald(call:aU)(k:Nat)(a b:C)(L vs:List D)(H:af):Option (Ex×St):=jh L[k]? (exS call a ⟨vs,H⟩) (exS call b ⟨vs,H⟩)
@[go_sem] theorem ale (L vs : List D) (H : af) : alc L vs H = some (.normal, ⟨vs, H⟩) := (rfl)
@[go_sem] theorem alf (call : aU) (k : Nat) (a b : C) (L vs : List D) (H : af) : ald call k a b L vs H = jh L[k]? (exS call a ⟨vs, H⟩) (exS call b ⟨vs, H⟩) := (rfl)
def andThen(x:Option (Ex×St))(k:St→Option (Ex×St)):Option (Ex×St):=x.bind fun p=>jC p k
@[go_sem] theorem SO (st : St) (k : St → Option (Ex × St)) : andThen (some (.normal, st)) k = k st := (rfl)
@[go_sem] theorem Yg (st : St) (k : St → Option (Ex × St)) : andThen (some (.ret, st)) k = some (.ret, st) := (rfl)
@[go_sem] theorem VT (i : Nat) (st : St) (k : St → Option (Ex × St)) : andThen (some (.exit i, st)) k = some (.exit i, st) := (rfl)
@[go_sem] theorem VU (k : St → Option (Ex × St)) : andThen none k = none := (rfl)
@[go_sem] theorem andThen_ite (c : Prop) [Decidable c] (a b : Option (Ex × St)) (k : St → Option (Ex × St)) : andThen (if c then a else b) k = if c then andThen a k else andThen b k := by
 split<;>rfl
@[go_sem] theorem aiQ (call : aU) (st : St) : exS call .skip st = some (.normal, st) := (rfl)
@[go_sem] theorem alg (call : aU) (rs : List R) (vs : List D) (H : af) : exS call (.reg rs []) ⟨vs, H⟩ = O6 call rs [] vs H alc := by
 simp only[exS,Mo,O6]
 cases evR call rs [] vs H<;>rfl
@[go_sem] theorem aiR (call : aU) (rs : List R) (p : Nat × Nat) (ps : List (Nat × Nat)) (vs : List D) (H : af) :
 exS call (.reg rs (p::ps)) ⟨vs,H⟩=I4 call rs rs.length (p::ps) rs [] vs H [] alc:=by
 simp only[exS,O5,I4,List.append_nil]
 by_cases h:uz call rs rs.length (trace call rs [] vs H).reverse (p::ps)
 · rw[if_pos h]
   simp only[By,if_pos h]
   cases evR call rs [] vs H<;>rfl
 · rw[if_neg h]
   simp only[By,if_neg h]
   cases evR call rs [] vs H<;>rfl
@[go_sem] theorem alh (call : aU) (a b : C) (st : St) : exS call (.seq a b) st = andThen (exS call a st) (exS call b) := (rfl)
@[go_sem] theorem ali (call : aU) (rs : List R) (k : Nat) (a b : C) (vs : List D) (H : af) : exS call (.ite rs [] k a b) ⟨vs, H⟩ = O6 call rs [] vs H (ald call k a b) := by
 simp only[exS,Mo,O6]
 cases evR call rs [] vs H<;>rfl
@[go_sem] theorem aiS (call : aU) (rs : List R) (p : Nat × Nat) (ps : List (Nat × Nat)) (k : Nat) (a b : C) (vs : List D) (H : af) :
 exS call (.ite rs (p::ps) k a b) ⟨vs,H⟩=I4 call rs rs.length (p::ps) rs [] vs H [] (ald call k a b):=by
 simp only[exS,O5,I4,List.append_nil]
 by_cases h:uz call rs rs.length (trace call rs [] vs H).reverse (p::ps)
 · rw[if_pos h]
   simp only[By,if_pos h]
   cases evR call rs [] vs H<;>rfl
 · rw[if_neg h]
   simp only[By,if_neg h]
   cases evR call rs [] vs H<;>rfl
@[go_sem] theorem alj (call : aU) (rs : List R) (ps : List (Nat × Nat)) (k : Nat) (a b c : C) (st : St) : exS call (.its rs ps k a b c) st = andThen (exS call (.ite rs ps k a b) st) (exS call c) := (rfl)
@[go_sem] theorem alk (call : aU) (rs : List R) (ps : List (Nat × Nat)) (k : Nat) (a b c : C) (st : St) : exS call (.itk rs ps k a b c) st = exS call (.ite rs ps k (.seq a c) (.seq b c)) st := (rfl)
@[go_sem] theorem alm (call : aU) (j : Nat) (a b : C) (vs : List D) (H : af) : exS call (.itv j a b) ⟨vs, H⟩ = jh vs[j]? (exS call a ⟨vs, H⟩) (exS call b ⟨vs, H⟩) := (rfl)
@[go_sem] theorem aiT (call : aU) (id : Nat) (st : St) : exS call (.exit id) st = some (.exit id, st) := (rfl)
@[go_sem] theorem aln (call : aU) (st : St) : exS call .ret st = some (.ret, st) := (rfl)
@[go_sem] theorem aiU (call : aU) (st : St) : exS call .fail st = none := (rfl)
@[go_sem] theorem alo (call : aU) (x p f : Nat) (r1 : List R) (p1 : List (Nat × Nat)) (r2 : List R) (p2 : List (Nat × Nat)) (vs : List D) (H : af) : exS call (.rng x p f r1 p1 r2 p2) ⟨vs, H⟩ = (O3 (stepG (O5 call) vs p r1 p1 r2 p2) (SM f vs[x]?) H).map fun H => (.normal, ⟨vs, H⟩) := (rfl)
@[go_sem] theorem alp (call : aU) (v : Bool) (c : C) (st : St) : exS call (.cnd v c) st = exS call c st := (rfl)
def Dy(id:Nat)(x:Option (Ex×St)):Option (Ex×St):=x.map (leave id)
@[go_sem] theorem alq (call : aU) (id : Nat) (c : C) (st : St) : exS call (.blk id c) st = Dy id (exS call c st) := (rfl)
@[go_sem] theorem VV (id : Nat) (st : St) : Dy id (some (.normal, st)) = some (.normal, st) := by simp [Dy, leave]
@[go_sem] theorem afr (id : Nat) (st : St) : Dy id (some (.ret, st)) = some (.ret, st) := by simp [Dy, leave]
@[go_sem] theorem abU (id i : Nat) (st : St) : Dy id (some (.exit i, st)) = if i = id then some (.normal, st) else some (.exit i, st) := by
 simp only[Dy,leave,aLw,Ex.exit.injEq]
 split<;>rfl
@[go_sem] theorem abV (id : Nat) : Dy id none = none := (rfl)
@[go_sem] theorem afs (id : Nat) (c : Prop) [Decidable c] (a b : Option (Ex × St)) : Dy id (if c then a else b) = if c then Dy id a else Dy id b := by
 split<;>rfl
@[congr] theorem Yh {c c' : Option D} {a b : Option (Ex × St)} (h : True → c = c') : jh c a b = jh c' a b := by rw [h trivial]
@[go_sem] theorem afu (p : Prop) [Decidable p] (a b : Option (Ex × St)) : jh (some (.t (.bool (decide p)))) a b = if p then a else b := by
 by_cases h:p<;>simp[jh,h]
@[go_sem] theorem abW (p : Prop) [Decidable p] (a b : Option (Ex × St)) : jh (some (.t (.bool (!decide p)))) a b = if p then b else a := by
 by_cases h:p<;>simp[jh,h]
@[go_sem] theorem aiV (a : Option (Ex × St)) : jh (some .ub) a a = a := by simp [jh]
@[go_sem] theorem abX (x : Bool) (a b : Option (Ex × St)) : jh (some (.t (.bool x))) a b = if x = true then a else b := (rfl)
def om(gc:Bool)(dead:List Nat)(k:Nat)(x:Option (Ex×St)):Option St:=x.bind fun p=>match p.1 with
 | .normal=>tidy gc dead k p.2
 | _=>none
@[go_sem] theorem TV (gc : Bool) (dead : List Nat) (k : Nat) (st : St) : om gc dead k (some (.normal, st)) = tidy gc dead k st := (rfl)
@[go_sem] theorem abY (gc : Bool) (dead : List Nat) (k : Nat) (c : Prop) [Decidable c] (a b : Option (Ex × St)) : om gc dead k (if c then a else b) = if c then om gc dead k a else om gc dead k b := by
 split<;>rfl
theorem sH{gc:Bool}{dead:List Nat}{body:St→Option (Ex×St)}{st st2:St}(h:om gc dead st.H.length (body st)=some st2)
 {p:Ex×St} (h2:tK gc dead body st2=some p):tK gc dead body st=some p:=by
 unfold om at h
 obtain⟨⟨e,st1⟩,hq,h⟩:=aLa.1 h
 cases e with
 | normal=>exact Ga hq h h2
 | ret=>cases h
 | exit=>cases h
theorem Hd{gc:Bool}{dead:List Nat}{body:St→Option (Ex×St)}(s:Nat→St){p:Ex×St}(n:Nat)
 (h:∀j,j<n→om gc dead (s j).H.length (body (s j))=some (s (j+1))) (he:tK gc dead body (s n)=some p):tK gc dead body (s 0)=some p:=by
 have:=Bx (s:=s) n 0 (fun j _ hj=>by
  have h:=h j (by omega)
  unfold om at h
  obtain⟨⟨e,st1⟩,hq,h⟩:=aLa.1 h
  cases e with
  | normal=>exact⟨st1,hq,h⟩
  | ret=>cases h
  | exit=>cases h) (by simpa using he)
 exact this
def aiW(res:List (Nat×Option (Nat×Bool)))(k raw:Nat)(p:Ex×St):Option (D×af):=match p.1 with
 | .exit _=>none
 | _=>(mG p.2 res).bind (finish k raw p.2.H)
@[go_sem] theorem aiX (res : List (Nat × Option (Nat × Bool))) (k raw : Nat) (vs : List D) (H : af) : aiW res k raw (.ret, ⟨vs, H⟩) = (mG ⟨vs, H⟩ res).bind (finish k raw H) := (rfl)
@[go_sem] theorem Yi (res : List (Nat × Option (Nat × Bool))) (k raw : Nat) (vs : List D) (H : af) : aiW res k raw (.normal, ⟨vs, H⟩) = (mG ⟨vs, H⟩ res).bind (finish k raw H) := (rfl)
theorem Yj{fs:Nat→Option Fn}{raw f:Nat}{args:List D}{H:af}{fn:Fn}{r:D×af}(hf:fs f=some fn)(hn:fn.aq=args.length)
 (h:(exS (rq fs) fn.body ⟨xj args fn.vars,H⟩).bind (aiW fn.res H.length raw)=some r) (h0:fn.prim=[]:=by rfl):rq fs raw f args H=some r:=by
 obtain⟨p,hp,he⟩:=aLa.1 h
 exact TR hf hn (TU _ _ _ hp) he h0
@[go_sem] theorem aiY {α β : Type} (c : Prop) [Decidable c] (a b : Option α) (k : α → Option β) : (if c then a else b).bind k = if c then a.bind k else b.bind k := by
 split<;>rfl
@[go_sem] theorem alr {α β : Type} (c : Prop) [Decidable c] (a b : Option α) (k : α → β) : (if c then a else b).map k = if c then a.map k else b.map k := by
 split<;>rfl
theorem afv(a b:Int):(a==b)=decide (a=b):=by rw[Bool.eq_iff_iff];simp
theorem oo{n:Int}(h1: -9223372036854775808≤n)(h2:n≤9223372036854775807):IntKind.i64.wrap n=n:=by
 have e:IntKind.i64.wrap n=if n % 18446744073709551616≥9223372036854775808 then n % 18446744073709551616-18446744073709551616 else n % 18446744073709551616:=by
  simp[IntKind.wrap,IntKind.signed,IntKind.bits]
 rw[e];split<;>omega
section
variable {α β : Type}
@[go_sem] theorem Yk (a : α) (f : α → Option β) : (some a).bind f = f a := (rfl)
@[go_sem] theorem abZ (a : α) (f : α → β) : (some a).map f = some (f a) := (rfl)
@[go_sem] theorem Yl (f : α → Option β) : (none : Option α).bind f = none := (rfl)
@[go_sem] theorem ab0 (f : α → β) : (none : Option α).map f = none := (rfl)
@[go_sem] theorem ab1 (a : α) (l : List α) (f : α → β) : (a :: l).map f = f a :: l.map f := (rfl)
@[go_sem] theorem afw (f : α → β) : ([] : List α).map f = [] := (rfl)
@[go_sem] theorem ab2 (a : α) (l : List α) : (a :: l)[0]? = some a := (rfl)
@[go_sem] theorem ab3 (a : α) (l : List α) (n : Nat) : (a :: l)[n + 1]? = l[n]? := (rfl)
@[go_sem] theorem Ym (a d : α) (l : List α) : (a :: l).getD 0 d = a := (rfl)
@[go_sem] theorem Yn (a d : α) (l : List α) (n : Nat) : (a :: l).getD (n + 1) d = l.getD n d := (rfl)
@[go_sem] theorem ab4 (d : α) (n : Nat) : ([] : List α).getD n d = d := by simp
@[go_sem] theorem ab5 (a b : α) (l : List α) : (a :: l).set 0 b = b :: l := (rfl)
@[go_sem] theorem ab6 (a b : α) (l : List α) (n : Nat) : (a :: l).set (n + 1) b = a :: l.set n b := (rfl)
@[go_sem] theorem TW (a : α) (l m : List α) : (a :: l) ++ m = a :: (l ++ m) := (rfl)
@[go_sem] theorem VW (l : List α) : [] ++ l = l := (rfl)
@[go_sem] theorem VX (l : List α) : l ++ [] = l := by simp
@[go_sem] theorem SP (a : α) (l : List α) (f : α → List β) : (a :: l).flatMap f = f a ++ l.flatMap f := by simp
@[go_sem] theorem TX (f : α → List β) : ([] : List α).flatMap f = [] := by simp
@[go_sem] theorem VY : ([] : List α).length = 0 := (rfl)
@[go_sem] theorem TY (a : α) (l : List α) : (a :: l).length = l.length + 1 := (rfl)
@[go_sem] theorem VZ (l : List α) (f : α → β) : (l.map f).length = l.length := by simp
@[go_sem] theorem Qr (l m : List α) : (l ++ m).length = l.length + m.length := by simp
@[go_sem] theorem Mp (n : Nat) (a : α) : (List.replicate n a).length = n := by simp
@[go_sem] theorem V0 (l : List α) (i : Nat) (a : α) : (l.set i a).length = l.length := by simp
@[go_sem] theorem Yo (l : List α) : l.drop 0 = l := (rfl)
@[go_sem] theorem Yp (a : α) (l : List α) (n : Nat) : (a :: l).drop (n + 1) = l.drop n := (rfl)
@[go_sem] theorem ab7 (n : Nat) : ([] : List α).drop n = [] := by simp
@[go_sem] theorem Yq (l : List α) : l.take 0 = [] := (rfl)
@[go_sem] theorem Yr (a : α) (l : List α) (n : Nat) : (a :: l).take (n + 1) = a :: l.take n := (rfl)
@[go_sem] theorem ab8 (n : Nat) : ([] : List α).take n = [] := by simp
@[go_sem] theorem Ys (a b : α) : (bif true then a else b) = a := (rfl)
@[go_sem] theorem V1 (a b : α) : (bif false then a else b) = b := (rfl)
@[go_sem] theorem ab9 (n : Nat) : n + 0 = n := (rfl)
@[go_sem] theorem aca (n : Nat) : 0 + n = n := by simp
@[go_sem] theorem acb (a b : α) : (some a = some b) = (a = b) := by simp
@[go_sem] theorem aiZ (a : α) : (some a).isSome = true := (rfl)
end
attribute [go_sem] decide_true decide_false if_true if_false aLt Bool.true_eq_false decide_eq_true_eq decide_eq_false_iff_not aLr Bool.or_eq_true Bool.not_eq_true' Bool.not_eq_true Bool.not_eq_false
 Bool.and_true Bool.true_and Bool.and_false Bool.false_and Bool.or_true Bool.true_or Bool.or_false Bool.false_or and_true true_and and_self not_true_eq_false not_false_eq_true beq_iff_eq bne_iff_ne ne_eq
@[go_sem] theorem acd : (!true) = false := (rfl)
@[go_sem] theorem Yt : (!false) = true := (rfl)
@[go_sem] theorem apo (vs L : List D) (j : Nat) : X.get vs L (.v j) = vs[j]? := (rfl)
@[go_sem] theorem apq (vs L : List D) (k : Nat) : X.get vs L (.l k) = L[k]? := (rfl)
@[go_sem] theorem apr (vs L : List D) (d : D) : X.get vs L (.c d) = some d := (rfl)
@[go_sem] theorem aps (vs L : List D) (n : Int) : X.get vs L (.i n) = some (I n) := (rfl)
@[go_sem] theorem apt (vs L : List D) (x : Bool) : X.get vs L (.b x) = some (B x) := (rfl)
@[go_sem] theorem als (vs : List D) (x : D) : wr vs none x = vs := (rfl)
@[go_sem] theorem alu (vs : List D) (s : Nat) (x : D) : wr vs (some s) x = vs.set s x := (rfl)
@[go_sem] theorem ace (args : List D) : xj args [] = [] := (rfl)
@[go_sem] theorem Yu (args : List D) (s : Nat) (r : List Nat) : xj args (s :: r) = args.getD s .und :: xj args r := (rfl)
def alv(H:af)(d:D):Option (D×af):=some (d,H)
@[go_sem] theorem alw (H : af) (d : D) : alv H d = some (d, H) := (rfl)
def oZ{α:Type}(a:α)(l:Option (List α)):Option (List α):=l.map (a:: ·)
@[go_sem] theorem acf {α : Type} (a : α) (l : List α) : oZ a (some l) = some (a :: l) := (rfl)
@[go_sem] theorem acg {α : Type} (a : α) : oZ a none = none := (rfl)
@[go_sem] theorem ai0 {α β : Type} (f : α → Option β) : cK f [] = some [] := (rfl)
def an4{α β:Type}(f:α→Option β)(r:List α)(y:β):Option (List β):=oZ y (cK f r)
@[go_sem] theorem Yv {α β : Type} (f : α → Option β) (r : List α) (y : β) : an4 f r y = oZ y (cK f r) := (rfl)
@[go_sem] theorem I6 {α β : Type} (f : α → Option β) (x : α) (r : List α) : cK f (x :: r) = (f x).bind (an4 f r) := (rfl)
section
variable (call : aU) (get : X → Option D) (H : af)
@[go_sem] theorem apu (x : X) : evO call get H (.mv x) = (get x).bind (alv H) := by simp only [evO]; cases get x <;> rfl
def ai1(c a b:Option D):Option (D×af):=c.bind fun c=>a.bind fun a=>b.bind fun b=>(TC c a b).map fun d=>(d,H)
@[go_sem] theorem apv (c a b : X) : evO call get H (.pk c a b) = ai1 H (get c) (get a) (get b) := (rfl)
@[go_sem] theorem afx (x p q : Bool) : ai1 H (some (.t (.bool x))) (some (.t (.bool p))) (some (.t (.bool q))) = some (.t (.bool (bif x then p else q)), H) := by cases x <;> rfl
@[go_sem] theorem afy (a b : D) : ai1 H (some (.t (.bool true))) (some a) (some b) = some (a, H) := (rfl)
@[go_sem] theorem ach (a b : D) : ai1 H (some (.t (.bool false))) (some a) (some b) = some (b, H) := (rfl)
@[go_sem] theorem ai2 (x p : Bool) : (bif x then p else false) = (x && p) := by cases x <;> rfl
@[go_sem] theorem alx (x q : Bool) : (bif x then true else q) = (x || q) := by cases x <;> rfl
def my(f:BinOp)(x y:Option D):Option (D×af):=x.bind fun a=>y.bind fun b=>(FT f a b).map fun d=>(d,H)
@[go_sem] theorem an5 (f : BinOp) (x y : X) : evO call get H (.bin f x y) = my H f (get x) (get y) := (rfl)
section
variable (k j : IntKind) (a b : Int)
@[go_sem] theorem afz : my H .add (some (.t (.int k a))) (some (.t (.int k b))) = some (.t (.int k (k.wrap (a + b))), H) := by simp [my, FT, Kb]
@[go_sem] theorem afA : my H .sub (some (.t (.int k a))) (some (.t (.int k b))) = some (.t (.int k (k.wrap (a - b))), H) := by simp [my, FT, Kb]
@[go_sem] theorem afB : my H .mul (some (.t (.int k a))) (some (.t (.int k b))) = some (.t (.int k (k.wrap (a * b))), H) := by simp [my, FT, Kb]
@[go_sem] theorem afC : my H .quo (some (.t (.int k a))) (some (.t (.int k b))) = if b = 0 then none else some (.t (.int k (k.wrap (a.tdiv b))), H) := by simp only [my, FT, Kb]; by_cases h : b = 0 <;> simp [h]
@[go_sem] theorem afD : my H .rem (some (.t (.int k a))) (some (.t (.int k b))) = if b = 0 then none else some (.t (.int k (a.tmod b)), H) := by simp only [my, FT, Kb]; by_cases h : b = 0 <;> simp [h]
@[go_sem] theorem afE : my H .eql (some (.t (.int k a))) (some (.t (.int k b))) = some (.t (.bool (decide (a = b))), H) := by simp [my, FT, Kb, afv]
@[go_sem] theorem afF : my H .neq (some (.t (.int k a))) (some (.t (.int k b))) = some (.t (.bool (decide (¬ a = b))), H) := by simp [my, FT, Kb, bne, afv]
@[go_sem] theorem afG : my H .lss (some (.t (.int k a))) (some (.t (.int k b))) = some (.t (.bool (decide (a < b))), H) := by simp [my, FT, Kb]
@[go_sem] theorem afH : my H .leq (some (.t (.int k a))) (some (.t (.int k b))) = some (.t (.bool (decide (a ≤ b))), H) := by simp [my, FT, Kb]
@[go_sem] theorem afI : my H .gtr (some (.t (.int k a))) (some (.t (.int k b))) = some (.t (.bool (decide (b < a))), H) := by simp [my, FT, Kb]
@[go_sem] theorem afJ : my H .geq (some (.t (.int k a))) (some (.t (.int k b))) = some (.t (.bool (decide (b ≤ a))), H) := by simp [my, FT, Kb]
@[go_sem] theorem afK (h : 0 ≤ b) : my H .shl (some (.t (.int k a))) (some (.t (.int j b))) = some (.t (.int k (k.wrap (a * 2 ^ min b.toNat k.bits))), H) := by simp [my, FT, FR, Int.not_lt.2 h]
@[go_sem] theorem afL (h : 0 ≤ b) : my H .shr (some (.t (.int k a))) (some (.t (.int j b))) = some (.t (.int k (a.fdiv (2 ^ min b.toNat k.bits))), H) := by simp [my, FT, FR, Int.not_lt.2 h]
@[go_sem] theorem afM : my H .and (some (.t (.int k a))) (some (.t (.int k b))) = some (.t (.int k (k.wrap (BitVec.ofInt k.bits a &&& BitVec.ofInt k.bits b).toNat)), H) := by simp [my, FT, Kb]
@[go_sem] theorem ai3 : my H .or (some (.t (.int k a))) (some (.t (.int k b))) = some (.t (.int k (k.wrap (BitVec.ofInt k.bits a ||| BitVec.ofInt k.bits b).toNat)), H) := by simp [my, FT, Kb]
@[go_sem] theorem afN : my H .xor (some (.t (.int k a))) (some (.t (.int k b))) = some (.t (.int k (k.wrap (BitVec.ofInt k.bits a ^^^ BitVec.ofInt k.bits b).toNat)), H) := by simp [my, FT, Kb]
def aly(f:UnOp)(a:D):Option (D×af):=(unD f a).map fun d=>(d,H)
@[go_sem] theorem apw (f : UnOp) (x : X) : evO call get H (.un f x) = (get x).bind (aly H f) := (rfl)
@[go_sem] theorem ai4 (x : Bool) : aly H .not (.t (.bool x)) = some (.t (.bool (!x)), H) := (rfl)
@[go_sem] theorem ai5 : aly H .neg (.t (.int k a)) = some (.t (.int k (k.wrap (0 - a))), H) := (rfl)
def an6(k:IntKind)(a:D):Option (D×af):=(Xy k a).map fun d=>(d,H)
@[go_sem] theorem apx (x : X) : evO call get H (.cv k x) = (get x).bind (an6 H k) := (rfl)
@[go_sem] theorem ai6 : an6 H k (.t (.int j a)) = some (.t (.int k (k.wrap a)), H) := (rfl)
end
def xc(q:EqK)(neg:Bool)(x y:Option D):Option (D×af):=x.bind fun a=>y.bind fun b=>(VL q neg a b).map fun d=>(d,H)
@[go_sem] theorem an7 (q : EqK) (neg : Bool) (x y : X) : evO call get H (.eqk q neg x y) = xc H q neg (get x) (get y) := (rfl)
@[go_sem] theorem aci (x y : Bool) : xc H .bool false (some (.t (.bool x))) (some (.t (.bool y))) = some (.t (.bool (x == y)), H) := (rfl)
@[go_sem] theorem Yw (x y : Bool) : xc H .bool true (some (.t (.bool x))) (some (.t (.bool y))) = some (.t (.bool (!(x == y))), H) := (rfl)
def V2:List T→List T→Bool
 | .int _ a::xs,.int _ b::ys=>decide (a=b)&&V2 xs ys
 | _,_=>true
def NT:Nat→List T→List T→Bool
 | 0,[],[]=>true
 | n+1,.int j _::xs,.int k _::ys=>decide (j=k)&&NT n xs ys
 | _,_,_=>false
@[go_sem] theorem afO (k j : IntKind) (a b : Int) (xs ys : List T) : V2 (.int k a :: xs) (.int j b :: ys) = (decide (a = b) && V2 xs ys) := (rfl)
@[go_sem] theorem ai7 : V2 [] [] = true := (rfl)
@[go_sem] theorem ai8 : NT 0 [] [] = true := (rfl)
@[go_sem] theorem afP (n : Nat) (k : IntKind) (a b : Int) (xs ys : List T) : NT (n + 1) (.int k a :: xs) (.int k b :: ys) = NT n xs ys := by simp [NT]
theorem Dz:∀ {n:Nat} {xs ys:List T},NT n xs ys=true→xs.length=n∧qm xs ys=some (V2 xs ys)
 | 0,[],[],_=>⟨rfl,rfl⟩
 | 0,[],_::_,h=>by simp[NT]at h
 | 0,_::_,_,h=>by simp[NT]at h
 | n+1,[],_,h=>by simp[NT]at h
 | n+1,x::xs,[],h=>by cases x<;>simp[NT]at h
 | n+1,x::xs,y::ys,h=>by
   cases x<;>cases y<;>simp only[NT,aLr,decide_eq_true_eq,aLt]at h
   obtain⟨rfl,h⟩:=h
   obtain⟨h1,h2⟩:=Dz h
   exact⟨by simp[h1],by simp[qm,h2,V2,afv]⟩
@[go_sem] theorem acj (n : Nat) (xs ys : List T) (h : NT n xs ys = true) : xc H (.ints n) false (some (.t (.agg xs))) (some (.t (.agg ys))) = some (.t (.bool (V2 xs ys)), H) := by
 obtain⟨h1,h2⟩:=Dz h;simp[xc,VL,eqD,h1,h2]
@[go_sem] theorem Yx (n : Nat) (xs ys : List T) (h : NT n xs ys = true) : xc H (.ints n) true (some (.t (.agg xs))) (some (.t (.agg ys))) = some (.t (.bool (!V2 xs ys)), H) := by
 obtain⟨h1,h2⟩:=Dz h;simp[xc,VL,eqD,h1,h2]
@[go_sem] theorem afQ (id ep n : Nat) (h : 0 < n) : xc H .sl false (some (.ref id ep n)) (some .nil) = some (.t (.bool false), H) := by
 cases n with
 | zero=>omega
 | succ n=>rfl
@[go_sem] theorem afR : xc H .sl false (some .nil) (some .nil) = some (.t (.bool true), H) := (rfl)
@[go_sem] theorem afS : xc H .sl false (some (.t (.sl []))) (some .nil) = some (.ub, H) := (rfl)
@[go_sem] theorem ack : xc H .sl true (some (.t (.sl []))) (some .nil) = some (.ub, H) := (rfl)
@[go_sem] theorem acm : xc H .sl true (some .nil) (some .nil) = some (.t (.bool false), H) := (rfl)
def ai9(a:D):Option (D×af):=(aiB a).map fun d=>(d,H)
@[go_sem] theorem apy (x : X) : evO call get H (.nc x) = (get x).bind (ai9 H) := (rfl)
@[go_sem] theorem alz (id off : Nat) : ai9 H (.bp id off) = some (.bp id off, H) := (rfl)
@[go_sem] theorem alA (id ep n i off : Nat) : ai9 H (.ap id ep n i off) = some (.ap id ep n i off, H) := (rfl)
@[go_sem] theorem alB (cs : List T) : ai9 H (.ep cs) = some (.ep cs, H) := (rfl)
def acn(off:Nat)(a:D):Option (D×af):=(Nz a off).map fun d=>(d,H)
@[go_sem] theorem apz (x : X) (off : Nat) : evO call get H (.fa x off) = (get x).bind (acn H off) := (rfl)
@[go_sem] theorem alC (id o off : Nat) : acn H off (.bp id o) = some (.bp id (o + off), H) := (rfl)
@[go_sem] theorem alD (id ep n i o off : Nat) : acn H off (.ap id ep n i o) = some (.ap id ep n i (o + off), H) := (rfl)
@[go_sem] theorem alE (cs : List T) (off : Nat) : acn H off (.ep cs) = some (.ep (cs.drop off), H) := (rfl)
@[go_sem] theorem apA (cs : List D) : cut cs 0 0 = some [] := by simp [cut]
@[go_sem] theorem apB (c : D) (cs : List D) : cut (c :: cs) 0 1 = some [c] := by simp [cut]
@[go_sem] theorem apC (c : D) (cs : List D) (n : Nat) : cut (c :: cs) 0 (n + 1) = oZ c (cut cs 0 n) := by
 simp only[cut,oZ];by_cases h:n≤cs.length<;>simp[h]
@[go_sem] theorem apD (c : D) (cs : List D) (off n : Nat) : cut (c :: cs) (off + 1) n = cut cs off n := by
 simp only[cut,List.length_cons,List.drop_succ_cons]
 by_cases h:off+n≤cs.length
 · rw[if_pos h,if_pos (by omega)]
 · rw[if_neg h,if_neg (by omega)]
@[go_sem] theorem afT (c : D) : fU false [c] = some c := (rfl)
@[go_sem] theorem afU (cs : List D) : fU true cs = some (xa cs) := (rfl)
def mkA(cs:List D):Option (List T)→D
 | some ts=> .t (.agg ts)
 | none=> .agg cs
@[go_sem] theorem aja (cs : List D) (ts : List T) : mkA cs (some ts) = .t (.agg ts) := (rfl)
@[go_sem] theorem ajb (cs : List D) : mkA cs none = .agg cs := (rfl)
@[go_sem] theorem ajc (cs : List D) : xa cs = mkA cs (tw cs) := by unfold xa; cases tw cs <;> rfl
@[go_sem] theorem ajd : tw [] = some [] := (rfl)
@[go_sem] theorem an8 (x : T) (r : List D) : tw (.t x :: r) = oZ x (tw r) := (rfl)
@[go_sem] theorem an9 (r : List D) : tw (.nil :: r) = none := (rfl)
@[go_sem] theorem aje (a b c : Nat) (r : List D) : tw (.ref a b c :: r) = none := (rfl)
@[go_sem] theorem ajf (a b c d e : Nat) (r : List D) : tw (.sub a b c d e :: r) = none := (rfl)
@[go_sem] theorem TZ (l : List T) : tw (l.map .t) = some l := by induction l with | nil => rfl | cons a l ih => simp [tw, ih]
def afV(off n:Nat)(agg:Bool)(a:D):Option (D×af):=(yM a off n agg).map fun d=>(d,H)
@[go_sem] theorem apE (x : X) (off n : Nat) (agg : Bool) : evO call get H (.fl x off n agg) = (get x).bind (afV H off n agg) := (rfl)
def ofC(agg:Bool)(cs:Option (List D)):Option (D×af):=(cs.bind (fU agg)).bind (alv H)
@[go_sem] theorem apF (c : D) : ofC H false (some [c]) = some (c, H) := (rfl)
@[go_sem] theorem apG (cs : List D) : ofC H true (some cs) = some (xa cs, H) := (rfl)
@[go_sem] theorem aoa (cs : List T) (off n : Nat) (agg : Bool) : afV H off n agg (.t (.agg cs)) = ofC H agg (cut (cs.map .t) off n) := by
 simp only[afV,yM,D.isAgg,if_true,D.cells,T.cells,ofC];cases (cut (cs.map .t) off n).bind (fU agg)<;>rfl
@[go_sem] theorem ajg (cs : List D) (off n : Nat) (agg : Bool) : afV H off n agg (.agg cs) = ofC H agg (cut cs off n) := by
 simp only[afV,yM,D.isAgg,if_true,D.cells,ofC];cases (cut cs off n).bind (fU agg)<;>rfl
@[go_sem] theorem alF (n : Nat) : idx (n : Int) = some n := by simp [idx]
@[go_sem] theorem apH : idx 0 = some 0 := (rfl)
theorem Yy{i:Int}(h:0≤i):idx i=some i.toNat:=by simp[idx,h]
def Yz(sz:Nat)(x i:Option D):Option (D×af):=x.bind fun a=>(i.bind intOf).bind fun n=>(GK H a n sz).map fun d=>(d,H)
@[go_sem] theorem apI (x i : X) (sz : Nat) : evO call get H (.ia x i sz) = Yz H sz (get x) (get i) := (rfl)
def T0(sz:Nat)(e:T):Option (D×af):=if e.cells.length=sz then some (.ep e.cells,H)else none
def alG(sz:Nat)(es:List T)(j:Nat):Option (D×af):=es[j]?.bind (T0 H sz)
@[go_sem] theorem alH (sz : Nat) (es : List T) (j : Nat) : alG H sz es j = es[j]?.bind (T0 H sz) := (rfl)
@[go_sem] theorem alI (k : IntKind) (es : List T) (n : Int) (sz : Nat) : Yz H sz (some (.t (.sl es))) (some (.t (.int k n))) = (idx n).bind (alG H sz es) := by
 simp only[Yz,aLq,intOf,GK]
 cases idx n with
 | none=>rfl
 | some j=>
   simp only[aLq,alG]
   cases es[j]? with
   | none=>rfl
   | some e=>simp only[aLq,T0];split<;>rfl
@[go_sem] theorem ajh (k : IntKind) (n : Int) : T0 H 1 (.int k n) = some (.ep [.int k n], H) := (rfl)
@[go_sem] theorem afW (b : Bool) : T0 H 1 (.bool b) = some (.ep [.bool b], H) := (rfl)
@[go_sem] theorem alJ (es : List T) : T0 H 1 (.sl es) = some (.ep [.sl es], H) := (rfl)
def rW{α:Type}:Nat→List α→Bool
 | 0,[]=>true
 | n+1,_::r=>rW n r
 | _,_=>false
@[go_sem] theorem alK {α : Type} : rW 0 ([] : List α) = true := (rfl)
@[go_sem] theorem alL {α : Type} (n : Nat) (a : α) (l : List α) : rW (n + 1) (a :: l) = rW n l := (rfl)
theorem iI{α:Type}:∀ {n:Nat} {l:List α},rW n l=true↔l.length=n
 | 0,[]=>by simp[rW]
 | 0,_::_=>by simp[rW]
 | n+1,[]=>by simp[rW]
 | n+1,_::r=>by simp only[rW,List.length_cons,Nat.add_right_cancel_iff];exact iI
@[go_sem] theorem aji (cs : List T) (sz : Nat) : T0 H sz (.agg cs) = if rW sz cs = true then some (.ep cs, H) else none := by
 by_cases h:cs.length=sz
 · rw[T0,if_pos (show(T.agg cs).cells.length=sz from h),if_pos (iI.2 h)];rfl
 · rw[T0,if_neg (show ¬(T.agg cs).cells.length=sz from h),if_neg fun e=>h (iI.1 e)]
def YA(sz id ep n j:Nat):Option Obj→Option (D×af)
 | some (.arr sz' _ ep' es)=>if ep=ep'∧n=es.length then(if j<n∧sz'=sz then some (.ap id ep n j 0,H)else none)else none
 | _=>none
@[go_sem] theorem ajj (k : IntKind) (id ep n : Nat) (i : Int) (sz : Nat) : Yz H sz (some (.ref id ep n)) (some (.t (.int k i))) = (idx i).bind fun j => YA H sz id ep n j H[id]? := by
 simp only[Yz,aLq,intOf,GK]
 cases idx i with
 | none=>rfl
 | some j=>
   simp only[aLq,fV]
   generalize H[id]?=o
   rcases o with _ | (_ | ⟨sz',pin,ep',es⟩ | _)
   rotate_right
   · rfl
   · rfl
   · rfl
   · simp only[YA]
     by_cases h:ep=ep'∧n=es.length
     · rw[if_pos h,if_pos h,aLq];split<;>rfl
     · rw[if_neg h,if_neg h];rfl
@[go_sem] theorem afX (sz id ep n j sz' : Nat) (pin : Bool) (ep' : Nat) (es : List D) : YA H sz id ep n j (some (.arr sz' pin ep' es)) =
 if ep=ep'∧n=es.length then(if j<n∧sz'=sz then some (.ap id ep n j 0,H)else none)else none:=(rfl)
def YB(sz id ep n lo hi j:Nat):Option Obj→Option (D×af)
 | some (.arr sz' _ ep' es)=>if ep=ep'∧n=es.length then(if lo+j<hi∧hi≤n∧sz'=sz then some (.ap id ep n (lo+j) 0,H)else none)else none
 | _=>none
@[go_sem] theorem ajk (k : IntKind) (id ep n lo hi : Nat) (i : Int) (sz : Nat) : Yz H sz (some (.sub id ep n lo hi)) (some (.t (.int k i))) = (idx i).bind fun j => YB H sz id ep n lo hi j H[id]? := by
 simp only[Yz,aLq,intOf,GK]
 cases idx i with
 | none=>rfl
 | some j=>
   simp only[aLq,fV]
   generalize H[id]?=o
   rcases o with _ | (_ | ⟨sz',pin,ep',es⟩ | _)
   rotate_right
   · rfl
   · rfl
   · rfl
   · simp only[YB]
     by_cases h:ep=ep'∧n=es.length
     · rw[if_pos h,if_pos h,aLq];split<;>rfl
     · rw[if_neg h,if_neg h];rfl
@[go_sem] theorem afY (sz id ep n lo hi j sz' : Nat) (pin : Bool) (ep' : Nat) (es : List D) : YB H sz id ep n lo hi j (some (.arr sz' pin ep' es)) =
 if ep=ep'∧n=es.length then(if lo+j<hi∧hi≤n∧sz'=sz then some (.ap id ep n (lo+j) 0,H)else none)else none:=(rfl)
def alM(len sz:Nat)(agg:Bool)(x i:Option D):Option (D×af):=x.bind fun a=>(i.bind intOf).bind fun n=>(idx n).bind fun j=>(FU a j len sz agg).map fun d=>(d,H)
def afZ(len sz:Nat)(agg:Bool)(a:D)(j:Nat):Option (D×af):=(FU a j len sz agg).map fun d=>(d,H)
@[go_sem] theorem apJ (x i : X) (len sz : Nat) (agg : Bool) : evO call get H (.ix x i len sz agg) = alM H len sz agg (get x) (get i) := (rfl)
@[go_sem] theorem alN (len sz : Nat) (agg : Bool) (a : D) (k : IntKind) (n : Int) : alM H len sz agg (some a) (some (.t (.int k n))) = (idx n).bind (afZ H len sz agg a) := by
 simp only[alM,aLq,intOf];cases idx n<;>rfl
@[go_sem] theorem ajl (len j : Nat) (ts : List T) (h : j < len) (hs : (ts.all fun t => t.scalar) = true) : afZ H len 1 false (.t (.agg ts)) j = (ts[j]?).map fun t => (.t t, H) := by
 have h0:len≠0:=by omega
 unfold afZ FU
 rw[if_neg h0,if_pos h]
 unfold yM cut
 simp only[D.isAgg,D.cells,T.cells,if_true,Nat.mul_one,List.length_map]
 by_cases hj:j<ts.length
 · rw[if_pos (by omega),aLc hj]
   have e:((ts.map D.t).drop j).take 1=[D.t ts[j]]:=by
    rw[List.drop_eq_getElem_cons (by simpa using hj)];simp
   rw[e];rfl
 · rw[if_neg (by omega),aLm (by omega)];rfl
def YC(len sz:Nat)(x i:Option D):Option (D×af):=x.bind fun a=>(i.bind intOf).bind fun n=>(idx n).bind fun j=>if j<len then(Nz a (j*sz)).map fun d=>(d,H)else none
@[go_sem] theorem aob (x i : X) (len sz : Nat) : evO call get H (.iaa x i len sz) = YC H len sz (get x) (get i) := (rfl)
def aoc(len sz:Nat)(a:D)(j:Nat):Option (D×af):=if j<len then acn H (j*sz) a else none
@[go_sem] theorem alO (len sz : Nat) (a : D) (j : Nat) : aoc H len sz a j = if j < len then acn H (j * sz) a else none := (rfl)
@[go_sem] theorem ajm (len sz : Nat) (a : D) (k : IntKind) (n : Int) : YC H len sz (some a) (some (.t (.int k n))) = (idx n).bind (aoc H len sz a) := by
 simp only[YC,aLq,intOf];cases idx n<;>rfl
def SQ(n:Nat)(agg:Bool)(a:D):Option (D×af):=(Ak H a n agg).map fun d=>(d,H)
@[go_sem] theorem apK (x : X) (n : Nat) (agg : Bool) : evO call get H (.ld x n agg) = (get x).bind (SQ H n agg) := (rfl)
def T1(off n:Nat)(agg:Bool):Option Obj→Option (D×af)
 | some (.box cs)=>ofC H agg (cut cs off n)
 | _=>none
@[go_sem] theorem ajn (off n : Nat) (agg : Bool) (cs : List D) : T1 H off n agg (some (.box cs)) = ofC H agg (cut cs off n) := (rfl)
@[go_sem] theorem alQ (id off n : Nat) (agg : Bool) : SQ H n agg (.bp id off) = T1 H off n agg H[id]? := by
 simp only[SQ,Ak]
 generalize H[id]?=o
 rcases o with _ | (cs | _ | _)
 rotate_right
 · rfl
 · rfl
 · simp only[T1,ofC];cases (cut cs off n).bind (fU agg)<;>rfl
 · rfl
@[go_sem] theorem alR (cs : List T) (n : Nat) (agg : Bool) : SQ H n agg (.ep cs) = ofC H agg (cut (cs.map .t) 0 n) := by
 simp only[SQ,Ak,ofC];cases (cut _ 0 n).bind (fU agg)<;>rfl
def ajo(off n:Nat)(agg:Bool)(e:D):Option (D×af):=ofC H agg (cut e.cells off n)
@[go_sem] theorem alS (off n : Nat) (agg : Bool) (e : D) : ajo H off n agg e = ofC H agg (cut e.cells off n) := (rfl)
def YD(ep m i off n:Nat)(agg:Bool):Option Obj→Option (D×af)
 | some (.arr _ _ ep' es)=>if ep=ep'∧m=es.length then es[i]?.bind (ajo H off n agg)else none
 | _=>none
@[go_sem] theorem ajp (ep m i off n : Nat) (agg : Bool) (sz : Nat) (pin : Bool) (ep' : Nat) (es : List D) :
 YD H ep m i off n agg (some (.arr sz pin ep' es))=if ep=ep'∧m=es.length then es[i]?.bind (ajo H off n agg)else none:=(rfl)
@[go_sem] theorem alT (id ep m i off n : Nat) (agg : Bool) : SQ H n agg (.ap id ep m i off) = YD H ep m i off n agg H[id]? := by
 simp only[SQ,Ak,fV]
 generalize H[id]?=o
 rcases o with _ | (_ | ⟨sz',pin,ep',es⟩ | _)
 rotate_right
 · rfl
 · rfl
 · rfl
 · simp only[YD]
   by_cases h:ep=ep'∧m=es.length
   · rw[if_pos h,if_pos h,aLq]
     cases es[i]? with
     | none=>rfl
     | some e=>simp only[aLq,ajo,ofC];cases (cut e.cells off n).bind (fU agg)<;>rfl
   · rw[if_neg h,if_neg h];rfl
@[go_sem] theorem aco (cs : List D) : (D.agg cs).cells = cs := (rfl)
@[go_sem] theorem ajq (x : T) : (D.t x).cells = x.cells.map .t := (rfl)
@[go_sem] theorem acp : D.nil.cells = [.nil] := (rfl)
@[go_sem] theorem af0 (a b : Nat) : (D.bp a b).cells = [.bp a b] := (rfl)
@[go_sem] theorem acq (a b c : Nat) : (D.ref a b c).cells = [.ref a b c] := (rfl)
@[go_sem] theorem acr (a b c d e : Nat) : (D.sub a b c d e).cells = [.sub a b c d e] := (rfl)
@[go_sem] theorem af1 (f : Nat) (cs : List D) : (D.fn f cs).cells = [.fn f cs] := (rfl)
@[go_sem] theorem YE : D.nilp.cells = [.nilp] := (rfl)
@[go_sem] theorem acs (cs : List T) : (T.agg cs).cells = cs := (rfl)
@[go_sem] theorem acu (k : IntKind) (n : Int) : (T.int k n).cells = [.int k n] := (rfl)
@[go_sem] theorem YF (b : Bool) : (T.bool b).cells = [.bool b] := (rfl)
@[go_sem] theorem acv (b : ByteArray) : (T.str b).cells = [.str b] := (rfl)
@[go_sem] theorem af2 (es : List T) : (T.sl es).cells = [.sl es] := (rfl)
def fits(n:Nat)(v:D):Bool:=decide (v.cells.length=n)&&v.lO
section
variable (n : Nat)
@[go_sem] theorem fits_int (k : IntKind) (a : Int) : fits 1 (.t (.int k a)) = true := (rfl)
@[go_sem] theorem fits_bool (b : Bool) : fits 1 (.t (.bool b)) = true := (rfl)
@[go_sem] theorem alU (es : List T) : fits 1 (.t (.sl es)) = true := (rfl)
@[go_sem] theorem ajr : fits 1 .nil = true := (rfl)
@[go_sem] theorem ajs (a b c : Nat) : fits 1 (.ref a b c) = true := (rfl)
@[go_sem] theorem ajt (a b c d e : Nat) : fits 1 (.sub a b c d e) = true := (rfl)
@[go_sem] theorem alV (a b : Nat) : fits 1 (.bp a b) = true := (rfl)
@[go_sem] theorem alW (f : Nat) (cs : List D) : fits 1 (.fn f cs) = true := (rfl)
@[go_sem] theorem aju (cs : List D) : fits n (.agg cs) = rW n cs := by rw [Bool.eq_iff_iff, iI]; show (decide (cs.length = n) && true) = true ↔ _; simp
@[go_sem] theorem af3 (cs : List T) : fits n (.t (.agg cs)) = rW n cs := by rw [Bool.eq_iff_iff, iI]; simp [fits, D.cells, T.cells, D.lO]
end
@[go_sem] theorem YG {α : Type} (cs : List α) : bq cs 0 [] = some cs := by simp [bq]
@[go_sem] theorem YH {α : Type} (c x : α) (cs xs : List α) : bq (c :: cs) 0 (x :: xs) = oZ x (bq cs 0 xs) := by
 simp only[bq,oZ];by_cases h:xs.length≤cs.length<;>simp[h]
@[go_sem] theorem YI {α : Type} (c : α) (cs : List α) (off : Nat) (xs : List α) : bq (c :: cs) (off + 1) xs = oZ c (bq cs off xs) := by
 simp only[bq,oZ,List.length_cons]
 by_cases h:off+xs.length≤cs.length
 · rw[if_pos h,if_pos (by omega)];simp[show off+1+xs.length=(off+xs.length)+1 by omega]
 · rw[if_neg h,if_neg (by omega)];rfl
def YJ(n:Nat)(live:List (Nat×Nat))(a x:Option D):Option (D×af):=a.bind fun p=>x.bind fun d=>(Bl H p d n).bind fun H'=>(tA H' p live).map fun H''=>(.tup [],H'')
@[go_sem] theorem apL (a x : X) (n : Nat) (live : List (Nat × Nat)) : evO call get H (.st a x n live) = YJ H n live (get a) (get x) := (rfl)
def Gd(H:af)(id:Nat)(live:List (Nat×Nat)):Option (D×af):=(tA H (.bp id 0) live).map fun H'=>(.tup [],H')
def Mq(id:Nat)(live:List (Nat×Nat))(cs:List D):Option (D×af):=Gd (H.set id (.box cs)) id live
@[go_sem] theorem af4 (id : Nat) (live : List (Nat × Nat)) (cs : List D) : Mq H id live cs = Gd (H.set id (.box cs)) id live := (rfl)
@[go_sem] theorem acw (H : af) (id : Nat) : Gd H id [] = some (.tup [], H) := (rfl)
def YK(id off:Nat)(live:List (Nat×Nat))(xs:List D):Option Obj→Option (D×af)
 | some (.box cs)=>(bq cs off xs).bind (Mq H id live)
 | _=>none
@[go_sem] theorem ajv (id off : Nat) (live : List (Nat × Nat)) (xs cs : List D) : YK H id off live xs (some (.box cs)) = (bq cs off xs).bind (Mq H id live) := (rfl)
@[go_sem] theorem alX (n id off : Nat) (live : List (Nat × Nat)) (v : D) : YJ H n live (some (.bp id off)) (some v) = if fits n v = true then YK H id off live v.cells H[id]? else none := by
 by_cases h:fits n v=true
 case neg=>
  rw[if_neg h]
  simp only[fits,aLr,decide_eq_true_eq]at h
  simp only[YJ,aLq,Bl,if_neg h];rfl
 rw[if_pos h]
 simp only[fits,aLr,decide_eq_true_eq]at h
 simp only[YJ,aLq,Bl,h.1,h.2,and_self,if_true]
 generalize H[id]?=o
 rcases o with _ | (cs | _ | _)
 rotate_right
 · rfl
 · rfl
 · simp only[YK]
   cases bq cs off v.cells with
   | none=>rfl
   | some cs'=>simp only[aLw,aLq,Mq,Gd,tA]
 · rfl
def I7(id sz ep i:Nat)(es:List D)(agg:Bool)(cs:List D):Option (D×af):=(fU agg cs).bind fun e=>if e.lO then some (.tup [],H.set id (.arr sz false ep (es.set i e)))else none
def ajw(id sz ep i off:Nat)(es xs:List D)(e:D):Option (D×af):=(bq e.cells off xs).bind (I7 H id sz ep i es e.isAgg)
@[go_sem] theorem alY (id sz ep i off : Nat) (es xs : List D) (e : D) : ajw H id sz ep i off es xs e = (bq e.cells off xs).bind (I7 H id sz ep i es e.isAgg) := (rfl)
@[go_sem] theorem af5 (cs : List D) : (D.agg cs).isAgg = true := (rfl)
@[go_sem] theorem acx (cs : List T) : (D.t (.agg cs)).isAgg = true := (rfl)
@[go_sem] theorem af6 (k : IntKind) (n : Int) : (D.t (.int k n)).isAgg = false := (rfl)
@[go_sem] theorem acy (b : Bool) : (D.t (.bool b)).isAgg = false := (rfl)
@[go_sem] theorem af7 (b : ByteArray) : (D.t (.str b)).isAgg = false := (rfl)
@[go_sem] theorem ajx (es : List T) : (D.t (.sl es)).isAgg = false := (rfl)
@[go_sem] theorem af8 : D.nil.isAgg = false := (rfl)
@[go_sem] theorem af9 (a b c : Nat) : (D.ref a b c).isAgg = false := (rfl)
@[go_sem] theorem aga (a b c d e : Nat) : (D.sub a b c d e).isAgg = false := (rfl)
@[go_sem] theorem alZ (id sz ep i : Nat) (es : List D) (x : T) : I7 H id sz ep i es false [.t x] = some (.tup [], H.set id (.arr sz false ep (es.set i (.t x)))) := (rfl)
@[go_sem] theorem agb (id sz ep i : Nat) (es : List D) : I7 H id sz ep i es false [.nil] = some (.tup [], H.set id (.arr sz false ep (es.set i .nil))) := (rfl)
@[go_sem] theorem agc (id sz ep i a b c : Nat) (es : List D) : I7 H id sz ep i es false [.ref a b c] = some (.tup [], H.set id (.arr sz false ep (es.set i (.ref a b c)))) := (rfl)
theorem KO(cs:List D):(xa cs).lO=true:=by unfold xa;cases tw cs<;>rfl
@[go_sem] theorem al0 (id sz ep i : Nat) (es cs : List D) : I7 H id sz ep i es true cs = some (.tup [], H.set id (.arr sz false ep (es.set i (xa cs)))) := by
 simp[I7,fU,KO]
def YL(id ep m i off:Nat)(xs:List D):Option Obj→Option (D×af)
 | some (.arr sz pin ep' es)=>if ep=ep'∧m=es.length then(if pin then none else es[i]?.bind (ajw H id sz ep i off es xs))else none
 | _=>none
@[go_sem] theorem ajy (id ep m i off : Nat) (xs : List D) (sz : Nat) (pin : Bool) (ep' : Nat) (es : List D) :
 YL H id ep m i off xs (some (.arr sz pin ep' es))=if ep=ep'∧m=es.length then(if pin=true then none else es[i]?.bind (ajw H id sz ep i off es xs))else none:=(rfl)
@[go_sem] theorem al1 (n id ep m i off : Nat) (v : D) : YJ H n [] (some (.ap id ep m i off)) (some v) = if fits n v = true then YL H id ep m i off v.cells H[id]? else none := by
 by_cases h:fits n v=true
 case neg=>
  rw[if_neg h]
  simp only[fits,aLr,decide_eq_true_eq]at h
  simp only[YJ,aLq,Bl,if_neg h];rfl
 rw[if_pos h]
 simp only[fits,aLr,decide_eq_true_eq]at h
 simp only[YJ,aLq,Bl,h.1,h.2,and_self,if_true,fV]
 generalize H[id]?=o
 rcases o with _ | (_ | ⟨sz',pin,ep',es⟩ | _)
 rotate_right
 · rfl
 · rfl
 · rfl
 · simp only[YL]
   by_cases h:ep=ep'∧m=es.length
   · rw[if_pos h,if_pos h,aLq]
     cases pin with
     | true=>rfl
     | false=>
       simp only[aLt,if_false]
       cases es[i]? with
       | none=>rfl
       | some e=>
         simp only[aLq,ajw]
         cases bq e.cells off v.cells with
         | none=>rfl
         | some cs'=>
           simp only[aLq,I7]
           cases fU e.isAgg cs' with
           | none=>rfl
           | some e'=>
             simp only[aLq]
             by_cases h3:e'.lO=true
             · rw[if_pos h3,if_pos h3,h.1];rfl
             · rw[if_neg h3,if_neg h3];rfl
   · rw[if_neg h,if_neg h];rfl
def YM(zero:List D)(ps:List (Nat×Nat×D)):Option (D×af):=(yK zero ps).map fun cs=>(xa cs,H)
@[go_sem] theorem apM (zero : List D) (parts : List (Nat × Nat × X)) : evO call get H (.bd zero parts) = (qu get parts).bind (YM H zero) := (rfl)
@[go_sem] theorem V3 : qu get [] = some [] := (rfl)
def agd(off n:Nat)(r:List (Nat×Nat×X))(d:D):Option (List (Nat×Nat×D)):=oZ (off,n,d) (qu get r)
@[go_sem] theorem ajz (off n : Nat) (r : List (Nat × Nat × X)) (d : D) : agd get off n r d = oZ (off, n, d) (qu get r) := (rfl)
@[go_sem] theorem T2 (off n : Nat) (x : X) (r : List (Nat × Nat × X)) : qu get ((off, n, x) :: r) = (get x).bind (agd get off n r) := (rfl)
@[go_sem] theorem ajA (zero : List D) : YM H zero [] = some (xa zero, H) := (rfl)
def bdC(r:List (Nat×Nat×D))(z:List D):Option (D×af):=YM H z r
@[go_sem] theorem aod (r : List (Nat × Nat × D)) (z : List D) : bdC H r z = YM H z r := (rfl)
@[go_sem] theorem age (zero : List D) (off n : Nat) (x : D) (r : List (Nat × Nat × D)) : YM H zero ((off, n, x) :: r) = if fits n x = true then (bq zero off x.cells).bind (bdC H r) else none := by
 by_cases h:fits n x=true
 case neg=>
  rw[if_neg h]
  have h2:(x.lO&&x.cells.length==n)=false:=by rw[← Bool.not_eq_true,Bool.and_comm];simpa [fits]using h
  simp only[YM,yK,h2];rfl
 rw[if_pos h]
 simp only[fits,aLr,decide_eq_true_eq]at h
 simp only[YM,yK,h.1,h.2,beq_self_eq_true,Bool.and_self,if_true]
 cases bq zero off x.cells<;>rfl
def cj(n:Nat):List T→Bool
 | []=>true
 | x::r=>rW n x.cells&&cj n r
@[go_sem] theorem V4 (n : Nat) : cj n [] = true := (rfl)
@[go_sem] theorem zc (n : Nat) (x : T) (r : List T) : cj n (x :: r) = (rW n x.cells && cj n r) := (rfl)
def Ge(sz:Nat)(ds:List D):Option (D×af):=if ds.all (fun d=>d.cells.length==sz)then(cK (frz H depth) ds).map fun ts=>(.t (.sl ts),pins H (ds.flatMap (gu H depth)))else none
@[go_sem] theorem apN (xs : List X) (sz : Nat) : evO call get H (.bs xs sz) = (cK get xs).bind (Ge H sz) := (rfl)
theorem agf(sz:Nat)(ds:List D)(ts:List T)(h:tw ds=some ts)(hc:cj sz ts=true):Ge H sz ds=some (.t (.sl ts),H):=by
 have key:∀(ds:List D) (ts:List T),tw ds=some ts→cj sz ts=true→ds.all (fun d=>d.cells.length==sz)=true∧cK (frz H depth) ds=some ts∧ds.flatMap (gu H depth)=[]:=by
  intro ds
  induction ds with
  | nil=>intro ts h hc;simp[tw]at h;subst h;simp[cK]
  | cons d ds ih=>
    intro ts h hc
    cases d with
    | t x=>
      simp only[tw,aLb]at h
      obtain⟨r,hr,rfl⟩:=h
      simp only[cj,aLr,iI]at hc
      obtain⟨h1,h2,h3⟩:=ih r hr hc.2
      refine⟨by rw[List.all_cons,h1,Bool.and_true];simp[D.cells,hc.1],by simp[cK,frz,h2],by rw[List.flatMap_cons,h3];simp[gu]⟩
    | _=>simp[tw]at h
 obtain⟨h1,h2,h3⟩:=key ds ts h hc
 simp[Ge,h1,h2,h3,pins]
theorem vF(sz:Nat)(ts:List T):Ge H sz (ts.map D.t)=if cj sz ts=true then some (.t (.sl ts),H)else none:=by
 by_cases h:cj sz ts=true
 · rw[if_pos h];exact agf H sz _ ts (TZ ts) h
 · rw[if_neg h]
   have:(ts.map D.t).all (fun d=>d.cells.length==sz)=false:=by
    rw[← Bool.not_eq_true];intro ha;apply h
    clear h
    induction ts with
    | nil=>rfl
    | cons a r ih=>
      simp only[List.map_cons,List.all_cons,aLr,beq_iff_eq]at ha
      simp only[cj,aLr,iI]
      exact⟨by simpa [D.cells]using ha.1,ih ha.2⟩
   simp only[Ge,this];rfl
@[go_sem] theorem aoe (sz : Nat) : Ge H sz [] = some (.t (.sl []), H) := (rfl)
@[go_sem] theorem aof (sz : Nat) (a : T) : Ge H sz [.t a] = if cj sz [a] = true then some (.t (.sl [a]), H) else none := vF H sz [a]
@[go_sem] theorem aog (sz : Nat) (a b : T) : Ge H sz [.t a, .t b] = if cj sz [a, b] = true then some (.t (.sl [a, b]), H) else none := vF H sz [a, b]
@[go_sem] theorem aoh (sz : Nat) (a b c : T) : Ge H sz [.t a, .t b, .t c] = if cj sz [a, b, c] = true then some (.t (.sl [a, b, c]), H) else none := vF H sz [a, b, c]
@[go_sem] theorem aoi (sz : Nat) (a b c d : T) : Ge H sz [.t a, .t b, .t c, .t d] = if cj sz [a, b, c, d] = true then some (.t (.sl [a, b, c, d]), H) else none := vF H sz [a, b, c, d]
@[go_sem] theorem aoj (sz : Nat) (a b c d e : T) : Ge H sz [.t a, .t b, .t c, .t d, .t e] = if cj sz [a, b, c, d, e] = true then some (.t (.sl [a, b, c, d, e]), H) else none := vF H sz [a, b, c, d, e]
def agh(a:D):Option (D×af):=(aiA a).map fun(n:Nat)=>(D.t (.int .i64 (n:Int)),H)
@[go_sem] theorem apO (x : X) : evO call get H (.ln x) = (get x).bind (agh H) := (rfl)
@[go_sem] theorem al2 (es : List T) : agh H (.t (.sl es)) = some (I es.length, H) := (rfl)
@[go_sem] theorem ajB : agh H .nil = some (I 0, H) := (rfl)
@[go_sem] theorem ajC (id ep n : Nat) : agh H (.ref id ep n) = some (I n, H) := (rfl)
@[go_sem] theorem ajD (id ep n lo hi : Nat) : agh H (.sub id ep n lo hi) = some (I ((hi - lo : Nat) : Int), H) := (rfl)
def agi(ds:List D):Option (D×af):=(aeL ds).map fun d=>(d,H)
def agj(ds:List D):Option (D×af):=(aeM ds).map fun d=>(d,H)
@[go_sem] theorem apP (xs : List X) : evO call get H (.mn xs) = (cK get xs).bind (agi H) := (rfl)
@[go_sem] theorem apQ (xs : List X) : evO call get H (.mx xs) = (cK get xs).bind (agj H) := (rfl)
@[go_sem] theorem aok (k : IntKind) (a b : Int) : agi H [.t (.int k a), .t (.int k b)] = some (.t (.int k (min a b)), H) := by
 simp only[agi,aeL,ET,if_true,aLw];congr 4;omega
@[go_sem] theorem aol (k : IntKind) (a b : Int) : agj H [.t (.int k a), .t (.int k b)] = some (.t (.int k (max a b)), H) := by
 simp only[agj,aeM,ET,if_true,aLw];congr 4;omega
@[go_sem] theorem aom (k : IntKind) (a b c : Int) : agi H [.t (.int k a), .t (.int k b), .t (.int k c)] = some (.t (.int k (min (min a b) c)), H) := by
 simp only[agi,aeL,ET,if_true,aLw];congr 4;omega
@[go_sem] theorem aon (k : IntKind) (a b c : Int) : agj H [.t (.int k a), .t (.int k b), .t (.int k c)] = some (.t (.int k (max (max a b) c)), H) := by
 simp only[agj,aeM,ET,if_true,aLw];congr 4;omega
def I8(sz:Nat)(x:Option D)(lo hi:Option (Option Int)):Option (D×af):=x.bind fun a=>lo.bind fun l=>hi.bind fun h=>(rB H a l h sz).map fun d=>(d,H)
@[go_sem] theorem apR (x : X) (lo hi : Option X) (sz : Nat) : evO call get H (.sc x lo hi sz) = I8 H sz (get x) (NA get lo) (NA get hi) := (rfl)
def agk:D→Option (Option Int)
 | .t (.int _ n)=>some (some n)
 | _=>none
@[go_sem] theorem ajE (k : IntKind) (n : Int) : agk (.t (.int k n)) = some (some n) := (rfl)
@[go_sem] theorem agl : NA get none = some none := (rfl)
@[go_sem] theorem agm (x : X) : NA get (some x) = (get x).bind agk := by
 simp only[NA];cases get x with
 | none=>rfl
 | some d=>cases d with
   | t y=>cases y<;>rfl
   | _=>rfl
def al3(i:Nat)(a:D):Option (D×af):=(aeN i a).map fun d=>(d,H)
@[go_sem] theorem apS (x : X) (i : Nat) : evO call get H (.ex x i) = (get x).bind (al3 H i) := (rfl)
def exO:Option D→Option (D×af)
 | some d=>some (d,H)
 | none=>none
@[go_sem] theorem ajF (d : D) : exO H (some d) = some (d, H) := (rfl)
@[go_sem] theorem ajG (i : Nat) (ds : List D) : al3 H i (.tup ds) = exO H ds[i]? := by simp only [al3, aeN, exO]; cases ds[i]? <;> rfl
def al4(f:Nat)(ds:List D):Option (D×af):=some (.fn f ds,H)
@[go_sem] theorem al5 (f : Nat) (ds : List D) : al4 H f ds = some (.fn f ds, H) := (rfl)
@[go_sem] theorem apT (f : Nat) (caps : List X) : evO call get H (.mf f caps) = (cK get caps).bind (al4 H f) := by simp only [evO, al4]; cases cK get caps <;> rfl
@[go_sem] theorem apU (sz : Nat) : evO call get H (.nw sz) = some (.ref H.length 0 0, H ++ [.arr sz false 0 []]) := (rfl)
def alP(p:List D×af):Option (D×af):=some (.bp H.length 0,H++ .box p.1::p.2)
@[go_sem] theorem aoo (cs : List D) (os : af) : alP H (cs, os) = some (.bp H.length 0, H ++ .box cs :: os) := (rfl)
@[go_sem] theorem apV (zero : List D) (live : List (Nat × Nat)) : evO call get H (.al zero live) = alP H (cq (H.length + 1) zero live) := (rfl)
@[go_sem] theorem YN (base : Nat) (cs : List D) : cq base cs [] = (cs, []) := (rfl)
def al6(n:Nat)(a:D):Option (D×af):=if a.cells.length=n∧a.lO then some (.bp H.length 0,H++[.box a.cells])else none
@[go_sem] theorem apW (x : X) (n : Nat) : evO call get H (.bx x n) = (get x).bind (al6 H n) := (rfl)
@[go_sem] theorem al7 (n : Nat) (a : D) : al6 H n a = if fits n a = true then some (.bp H.length 0, H ++ [.box a.cells]) else none := by
 simp[al6,fits]
def ajH(sz:Nat)(zero:D)(n:Option Nat):Option (D×af):=n.bind fun m=>if m≤lim then some (.ref H.length 0 m,H++[.arr sz false 0 (List.replicate m zero)])else none
def mkN(sz:Nat)(zero:D):D→Option (D×af)
 | .t (.int _ n)=>ajH H sz zero (idx n)
 | _=>none
@[go_sem] theorem al8 (sz : Nat) (zero : D) (k : IntKind) (n : Int) : mkN H sz zero (.t (.int k n)) = ajH H sz zero (idx n) := (rfl)
@[go_sem] theorem apX (len : X) (zero : D) (sz : Nat) : evO call get H (.mk len zero sz) = (get len).bind (mkN H sz zero) := by
 simp only[evO];cases get len with
 | none=>rfl
 | some d=>cases d with
   | t y=>cases y<;>rfl
   | _=>rfl
@[go_sem] theorem al9 (sz : Nat) (zero : D) (m : Nat) (h : m ≤ 4294967296) : ajH H sz zero (some m) = some (.ref H.length 0 m, H ++ [.arr sz false 0 (List.replicate m zero)]) := by
 simp[ajH,lim,h]
def T3(c esz:Nat)(n:Option Nat):Option (D×af):=n.bind fun m=>if m≤c∧c≤64 then some (.ref (H.length+c) 0 m,H++blk esz c (fun _=>[])++[.arr 1 false 0 (refs H.length m fun _=>0)])else none
def aop(c esz:Nat):D→Option (D×af)
 | .t (.int _ n)=>T3 H c esz (idx n)
 | _=>none
@[go_sem] theorem ajI (c esz : Nat) (k : IntKind) (n : Int) : aop H c esz (.t (.int k n)) = T3 H c esz (idx n) := (rfl)
@[go_sem] theorem aoq (len : X) (c esz : Nat) : evO call get H (.mkw len c esz) = (get len).bind (aop H c esz) := by
 simp only[evO];cases get len with
 | none=>rfl
 | some d=>cases d with
   | t y=>cases y<;>rfl
   | _=>rfl
@[go_sem] theorem ajJ (c esz m : Nat) (h : m ≤ c) (h2 : c ≤ 64) : T3 H c esz (some m) = some (.ref (H.length + c) 0 m, H ++ (blk esz c (fun _ => []) ++ [.arr 1 false 0 (refs H.length m fun _ => 0)])) := by
 simp[T3,h,h2]
def T4(zero:T)(n:Option Nat):Option (D×af):=n.bind fun m=>if m≤lim then some (.t (.sl (List.replicate m zero)),H)else none
def aor(zero:T):D→Option (D×af)
 | .t (.int _ n)=>T4 H zero (idx n)
 | _=>none
@[go_sem] theorem ajK (zero : T) (k : IntKind) (n : Int) : aor H zero (.t (.int k n)) = T4 H zero (idx n) := (rfl)
@[go_sem] theorem aos (len : X) (zero : T) (sz : Nat) : evO call get H (.mkt len zero sz) = (get len).bind (aor H zero) := by
 simp only[evO];cases get len with
 | none=>rfl
 | some d=>cases d with
   | t y=>cases y<;>rfl
   | _=>rfl
@[go_sem] theorem ajL (zero : T) (m : Nat) (h : m ≤ 4294967296) : T4 H zero (some m) = some (.t (.sl (List.replicate m zero)), H) := by
 simp[T4,lim,h]
def T5(sz:Nat)(zero:T)(n:Option Nat):Option (D×af):=n.bind fun m=>if m≤lim∧0<m then some (.ref H.length 0 m,H++[.arr sz false 0 (List.replicate m (.t zero))])else none
def aot(sz:Nat)(zero:T):D→Option (D×af)
 | .t (.int _ n)=>T5 H sz zero (idx n)
 | _=>none
@[go_sem] theorem ajM (sz : Nat) (zero : T) (k : IntKind) (n : Int) : aot H sz zero (.t (.int k n)) = T5 H sz zero (idx n) := (rfl)
@[go_sem] theorem aou (len : X) (zero : T) (sz : Nat) : evO call get H (.mkn len zero sz) = (get len).bind (aot H sz zero) := by
 simp only[evO];cases get len with
 | none=>rfl
 | some d=>cases d with
   | t y=>cases y<;>rfl
   | _=>rfl
@[go_sem] theorem ajN (sz : Nat) (zero : T) (m : Nat) (h : m ≤ 4294967296) (h0 : 0 < m) : T5 H sz zero (some m) = some (.ref H.length 0 m, H ++ [.arr sz false 0 (List.replicate m (.t zero))]) := by
 simp[T5,lim,h,h0]
def rX(sz:Nat)(fz:Bool)(x y:Option D):Option (D×af):=x.bind fun a=>y.bind fun b=>pZ H a b fz sz
@[go_sem] theorem aov (x y : X) (fz : Bool) (sz : Nat) : evO call get H (.app x y fz sz) = rX H sz fz (get x) (get y) := (rfl)
def Bz(sz id ep n:Nat)(ys:List D):Option Obj→Option (D×af)
 | some (.arr sz' pin ep' es)=>if ep=ep'∧n=es.length∧sz'=sz∧n+ys.length≤lim then some (.ref id ep (n+ys.length),H.set id (.arr sz pin ep (es++ys)))else none
 | _=>none
@[go_sem] theorem agn (sz id ep n : Nat) (ys : List D) (pin : Bool) (es : List D) :
 Bz H sz id ep n ys (some (.arr sz pin ep es))=if n=es.length then(if n+ys.length≤4294967296 then some (.ref id ep (n+ys.length),H.set id (.arr sz pin ep (es++ys)))else none)else none:=by
 simp only[Bz,lim]
 by_cases h1:n=es.length
 · rw[if_pos h1]
   by_cases h2:n+ys.length≤4294967296
   · rw[if_pos h2,if_pos ⟨trivial,h1,trivial,h2⟩]
   · rw[if_neg h2,if_neg fun h=>h2 h.2.2.2]
 · rw[if_neg h1,if_neg fun h=>h1 h.2.1]
theorem wT(ts:List T):cK (fun d=>(frz H depth d).map D.t) (ts.map D.t)=some (ts.map D.t):=by
 induction ts with
 | nil=>rfl
 | cons t ts ih=>simp[cK,frz,ih]
theorem Mr(ts:List T):(ts.map D.t).flatMap (gu H depth)=[]:=by
 induction ts with
 | nil=>rfl
 | cons t ts ih=>rw[List.map_cons,List.flatMap_cons,ih];simp[gu,depth]
theorem I9(sz:Nat)(fz:Bool)(x:D)(ts:List T)(h:cD sz (ts.map D.t)=false):rX H sz fz (some x) (some (.t (.sl ts)))=none:=by
 have e1:(if fz then cK (fun d=>(frz H depth d).map D.t) (ts.map D.t)else some (ts.map D.t))=some (ts.map D.t):=by
  cases fz<;>simp[wT]
 simp only[rX,aLq,pZ,elems,e1,h,aLt,if_false]
def oI(sz:Nat)(ts:List T):Bool:=cD sz (ts.map D.t)
theorem Qs(sz id ep n:Nat)(fz:Bool)(ts:List T)(h:oI sz ts=true):rX H sz fz (some (.ref id ep n)) (some (.t (.sl ts)))=Bz H sz id ep n (ts.map .t) H[id]?:=by
 have e1:(if fz then cK (fun d=>(frz H depth d).map D.t) (ts.map D.t)else some (ts.map D.t))=some (ts.map D.t):=by
  cases fz<;>simp[wT]
 have e2:(if fz then pins H ((ts.map D.t).flatMap (gu H depth))else H)=H:=by
  cases fz
  · rfl
  · simp only[if_true];rw[Mr];rfl
 unfold oI at h
 simp only[rX,aLq,pZ,elems,e1,h,if_true,e2,fV]
 generalize H[id]?=o
 rcases o with _ | (_ | ⟨sz',pin,ep',es⟩ | _)
 rotate_right
 · rfl
 · rfl
 · rfl
 · simp only[Bz]
   by_cases h1:ep=ep'∧n=es.length
   · rw[if_pos h1,aLq]
     by_cases h2:sz'=sz∧n+(ts.map D.t).length≤lim
     · rw[if_pos h2,if_pos ⟨h1.1,h1.2,h2⟩]
     · rw[if_neg h2,if_neg fun h=>h2 h.2.2]
   · rw[if_neg h1,if_neg fun h=>h1 ⟨h.1,h.2.1⟩];rfl
@[go_sem] theorem ago (sz id ep n : Nat) (fz : Bool) (ts : List T) : rX H sz fz (some (.ref id ep n)) (some (.t (.sl ts))) = if oI sz ts = true then Bz H sz id ep n (ts.map .t) H[id]? else none := by
 by_cases h:oI sz ts=true
 · rw[if_pos h,Qs H sz id ep n fz ts h]
 · rw[if_neg h];exact I9 H sz fz _ ts (by simpa [oI]using h)
@[go_sem] theorem agp (sz : Nat) (fz : Bool) (ts : List T) : rX H sz fz (some .nil) (some (.t (.sl ts))) =
 if oI sz ts=true then(if ts.length≤4294967296 then some (.ref H.length 0 ts.length,H++[.arr sz false 0 (ts.map .t)])else none)else none:=by
 by_cases h:oI sz ts=true
 · rw[if_pos h]
   have e1:(if fz then cK (fun d=>(frz H depth d).map D.t) (ts.map D.t)else some (ts.map D.t))=some (ts.map D.t):=by
    cases fz<;>simp[wT]
   have e2:(if fz then pins H ((ts.map D.t).flatMap (gu H depth))else H)=H:=by
    cases fz
    · rfl
    · simp only[if_true];rw[Mr];rfl
   unfold oI at h
   simp only[rX,aLq,pZ,elems,e1,h,if_true,e2,lim,List.length_map]
 · rw[if_neg h];exact I9 H sz fz _ ts (by simpa [oI]using h)
@[go_sem] theorem agq (sz : Nat) : oI sz [] = true := (rfl)
@[go_sem] theorem acz (sz : Nat) (x : T) (r : List T) : oI sz (x :: r) = rW sz x.cells := by
 rw[Bool.eq_iff_iff,iI];simp[oI,cD,D.cells]
@[go_sem] theorem agr (l : List Int) (k : IntKind) : oI 1 (l.map (.int k)) = true := by cases l <;> rfl
@[go_sem] theorem acA (l : List Bool) : oI 1 (l.map .bool) = true := by cases l <;> rfl
@[go_sem] theorem ajO (l : List (List T)) : oI 1 (l.map .sl) = true := by cases l <;> rfl
def NU(call:aU)(f raw:Nat)(keep:List Nat)(ds:List D):Option (D×af):=yL call H f raw keep ds
@[go_sem] theorem apY (f raw : Nat) (keep : List Nat) (xs : List X) : evO call get H (.ca f raw keep xs) = (cK get xs).bind (NU H call f raw keep) := (rfl)
def aow(call:aU)(raw:Nat)(keep:List Nat)(x:Option D)(xs:Option (List D)):Option (D×af):=x.bind fun
 | .fn f caps=>xs.bind fun ds=>yL call H f raw keep (ds++caps)
 | _=>none
@[go_sem] theorem apZ (x : X) (raw : Nat) (keep : List Nat) (xs : List X) : evO call get H (.cw x raw keep xs) = aow H call raw keep (get x) (cK get xs) := (rfl)
@[go_sem] theorem ama (raw : Nat) (keep : List Nat) (f : Nat) (caps ds : List D) : aow H call raw keep (some (.fn f caps)) (some ds) = NU H call f raw keep (ds ++ caps) := (rfl)
def qx(H:af):List D→Option (List T)
 | []=>some []
 | .t x::r=>oZ x (qx H r)
 | .nil::r=>oZ (.sl []) (qx H r)
 | _::_=>none
@[go_sem] theorem amb : qx H [] = some [] := (rfl)
@[go_sem] theorem amc (x : T) (r : List D) : qx H (.t x :: r) = oZ x (qx H r) := (rfl)
@[go_sem] theorem ags (r : List D) : qx H (.nil :: r) = oZ (.sl []) (qx H r) := (rfl)
@[go_sem] theorem agt (cs : List D) (r : List D) : qx H (.agg cs :: r) = none := (rfl)
@[go_sem] theorem ajP (a b : Nat) (r : List D) : qx H (.bp a b :: r) = none := (rfl)
@[go_sem] theorem agu (a b c : Nat) (r : List D) : qx H (.ref a b c :: r) = none := (rfl)
@[go_sem] theorem agv (a b c d e : Nat) (r : List D) : qx H (.sub a b c d e :: r) = none := (rfl)
@[go_sem] theorem ajQ (f : Nat) (cs : List D) (r : List D) : qx H (.fn f cs :: r) = none := (rfl)
@[go_sem] theorem ajR (a b c d e : Nat) (r : List D) : qx H (.ap a b c d e :: r) = none := (rfl)
@[go_sem] theorem ajS (cs : List T) (r : List D) : qx H (.ep cs :: r) = none := (rfl)
@[go_sem] theorem acB (r : List D) : qx H (.nilp :: r) = none := (rfl)
@[go_sem] theorem agw (r : List D) : qx H (.und :: r) = none := (rfl)
end
theorem yi(H:af):∀ {ds:List D} {ts:List T},qx H ds=some ts→∀i,tz H [] i ds=some (ts.map .t)∧dg H [] i ds=[]
 | [],ts,h,i=>by simp[qx]at h;subst h;exact⟨rfl,rfl⟩
 | d::r,ts,h,i=>by
   cases d with
   | t x=>
     simp only[qx,oZ,aLb]at h
     obtain⟨l,hl,rfl⟩:=h
     obtain⟨h1,h2⟩:=yi H hl (i+1)
     exact⟨by simp[tz,xX,h1],by simp[dg,gu,depth,h2]⟩
   | nil=>
     simp only[qx,oZ,aLb]at h
     obtain⟨l,hl,rfl⟩:=h
     obtain⟨h1,h2⟩:=yi H hl (i+1)
     exact⟨by simp[tz,xX,h1],by simp[dg,gu,depth,h2]⟩
   | _=>simp[qx]at h
theorem Qt(ts:List T)(n:Nat):(ts.map D.t).flatMap (ids n)=[]:=by
 induction ts with
 | nil=>rfl
 | cons t ts ih=>rw[List.map_cons,List.flatMap_cons,ih];simp[ids]
theorem YO(f:Nat→Option Nat)(ts:List T):cK (ren f depth) (ts.map .t)=some (ts.map .t):=by
 induction ts with
 | nil=>rfl
 | cons t ts ih=>simp[cK,ren,depth]at ih ⊢;exact ih
def Ce:D→Bool
 | .t _=>true
 | .tup ds=>ds.all fun | .t _=>true | _=>false
 | _=>false
theorem He{f:Nat→Option Nat}{d:D}(h:Ce d=true):ren f depth d=some d:=by
 cases d with
 | t x=>rfl
 | tup ds=>
   simp only[Ce]at h
   have:cK (ren f 7) ds=some ds:=by
    induction ds with
    | nil=>rfl
    | cons d ds ih=>
      simp only[List.all_cons,aLr]at h
      cases d with
      | t x=>simp[cK,ren,ih h.2]
      | _=>simp at h
   simp[ren,depth,this]
 | _=>simp[Ce]at h
def DA(H:af)(p:D×af):Option (D×af):=if Ce p.1&&p.2.isEmpty then some (p.1,H)else
 (ren (fO [] H.length) depth p.1).bind fun r'=>(cK (jB (fO [] H.length)) p.2).map fun os=>(r',H++os)
@[go_sem] theorem amd (H : af) (x : T) : DA H (.t x, []) = some (.t x, H) := (rfl)
@[go_sem] theorem ame (H : af) : DA H (.tup [], []) = some (.tup [], H) := (rfl)
@[go_sem] theorem amf (H : af) (x y : T) : DA H (.tup [.t x, .t y], []) = some (.tup [.t x, .t y], H) := (rfl)
@[go_sem] theorem amg (H : af) (x y z : T) : DA H (.tup [.t x, .t y, .t z], []) = some (.tup [.t x, .t y, .t z], H) := (rfl)
@[go_sem] theorem amh (H : af) (x y z u : T) : DA H (.tup [.t x, .t y, .t z, .t u], []) = some (.tup [.t x, .t y, .t z, .t u], H) := (rfl)
theorem Qu(H:af)(call:aU)(f raw:Nat)(ds:List D)(ts:List T)(h:qx H ds=some ts):
 NU H call f raw [] ds=(call raw f (ts.map .t) []).bind (DA H):=by
 obtain⟨h1,h2⟩:=yi H h 0
 simp only[NU,yL,h1,aLq,Qt,ir,reach,vu,List.flatMap_nil,h2,pins,YO,pick,cK]
 cases hc:call raw f (ts.map .t) []with
 | none=>rfl
 | some p=>
   obtain⟨d,os⟩:=p
   simp only[aLq,List.isEmpty_nil,Bool.true_and,DA]
   by_cases h3:os=[]
   · subst h3
     simp only[List.isEmpty_nil,Bool.true_and,Bool.and_true,cK,aLw,List.length_nil,List.take_nil,dH,List.drop_nil,List.append_nil]
     by_cases h4:Ce d=true
     · rw[if_pos h4]
       split
       · rfl
       · rw[He h4];rfl
     · rw[if_neg h4]
       split
       · rename_i h5
         exfalso
         apply h4
         cases d with
         | t x=>rfl
         | tup ds=>
           simp only[tx,aLx]at h5
           simp only[Ce,aLx]
           intro y hy
           have:=h5 y hy
           cases y<;>simp_all [oR]
         | _=>simp[tx]at h5
       · rfl
   · have:os.isEmpty=false:=by cases os<;>simp_all
     simp only[this,Bool.false_and,Bool.and_false,if_false,aLt,List.length_nil,List.take_zero,dH,List.drop_zero]
@[go_sem] theorem acC (st : St) : mG st [] = some [] := (rfl)
def aox(st:St)(r:List (Nat×Option (Nat×Bool)))(d:D):Option (List D):=oZ d (mG st r)
@[go_sem] theorem ami (vs : List D) (H : af) (r : List (Nat × Option (Nat × Bool))) (d : D) : aox ⟨vs, H⟩ r d = oZ d (mG ⟨vs, H⟩ r) := (rfl)
@[go_sem] theorem acD (vs : List D) (H : af) (j : Nat) (r : List (Nat × Option (Nat × Bool))) : mG ⟨vs, H⟩ ((j, none) :: r) = vs[j]?.bind (aox ⟨vs, H⟩ r) := (rfl)
def amj(st:St)(r:List (Nat×Option (Nat×Bool)))(p:D×af):Option (List D):=oZ p.1 (mG st r)
@[go_sem] theorem amk (vs : List D) (H : af) (r : List (Nat × Option (Nat × Bool))) (d : D) (H' : af) : amj ⟨vs, H⟩ r (d, H') = oZ d (mG ⟨vs, H⟩ r) := (rfl)
def aml(st:St)(n:Nat)(agg:Bool)(r:List (Nat×Option (Nat×Bool)))(p:D):Option (List D):=(SQ st.H n agg p).bind (amj st r)
@[go_sem] theorem amm (vs : List D) (H : af) (n : Nat) (agg : Bool) (r : List (Nat × Option (Nat × Bool))) (p : D) : aml ⟨vs, H⟩ n agg r p = (SQ H n agg p).bind (amj ⟨vs, H⟩ r) := (rfl)
@[go_sem] theorem YP (vs : List D) (H : af) (j n : Nat) (agg : Bool) (r : List (Nat × Option (Nat × Bool))) : mG ⟨vs, H⟩ ((j, some (n, agg)) :: r) = vs[j]?.bind (aml ⟨vs, H⟩ n agg r) := by
 simp only[mG]
 cases vs[j]? with
 | none=>rfl
 | some p=>
   simp only[aLq,aml,SQ]
   cases Ak H p n agg<;>rfl
@[go_sem] theorem amn (H : af) (n : Nat) (x : T) : frz H n (.t x) = some x := by cases n <;> rfl
@[go_sem] theorem amo (H : af) (n : Nat) : frz H n .nil = some (.sl []) := by cases n <;> rfl
@[go_sem] theorem amp (H : af) (n : Nat) (cs : List D) : frz H (n + 1) (.agg cs) = (cK (frz H n) cs).map .agg := (rfl)
@[go_sem] theorem NV (H : af) (n : Nat) (ts : List T) : cK (frz H n) (ts.map .t) = some ts := by
 induction ts with
 | nil=>rfl
 | cons t ts ih=>simp[cK,amn,ih]
def frA(H:af)(n ep m lo hi:Nat):Option Obj→Option T
 | some (.arr _ _ ep' es)=>if ep=ep'∧m=es.length then(cK (frz H n) ((es.drop lo).take (hi-lo))).map .sl else none
 | _=>none
def frR(H:af)(n ep m:Nat):Option Obj→Option T
 | some (.arr _ _ ep' es)=>if ep=ep'∧m=es.length then(cK (frz H n) es).map .sl else none
 | _=>none
@[go_sem] theorem amq (H : af) (n id ep m : Nat) : frz H (n + 1) (.ref id ep m) = frR H n ep m H[id]? := by
 simp only[frz,fV]
 generalize H[id]?=o
 rcases o with _ | (_ | ⟨sz',pin,ep',es⟩ | _)
 rotate_right
 · rfl
 · rfl
 · rfl
 · simp only[frR]
   by_cases h:ep=ep'∧m=es.length
   · rw[if_pos h,if_pos h];rfl
   · rw[if_neg h,if_neg h];rfl
@[go_sem] theorem amr (H : af) (n id ep m lo hi : Nat) : frz H (n + 1) (.sub id ep m lo hi) = frA H n ep m lo hi H[id]? := by
 simp only[frz,fV]
 generalize H[id]?=o
 rcases o with _ | (_ | ⟨sz',pin,ep',es⟩ | _)
 rotate_right
 · rfl
 · rfl
 · rfl
 · simp only[frA]
   by_cases h:ep=ep'∧m=es.length
   · rw[if_pos h,if_pos h];rfl
   · rw[if_neg h,if_neg h];rfl
@[go_sem] theorem ams (H : af) (n ep m sz : Nat) (pin : Bool) (es : List D) : frR H n ep m (some (.arr sz pin ep es)) = if m = es.length then (cK (frz H n) es).map .sl else none := by simp [frR]
@[go_sem] theorem amt (H : af) (n ep m lo hi sz : Nat) (pin : Bool) (es : List D) : frA H n ep m lo hi (some (.arr sz pin ep es)) = if m = es.length then (cK (frz H n) ((es.drop lo).take (hi - lo))).map .sl else none := by simp [frA]
@[go_sem] theorem agx (H : af) (x : T) : xX H (.t x) = some (.t x) := (rfl)
@[go_sem] theorem ajT (H : af) : xX H .nil = some (.t (.sl [])) := (rfl)
@[go_sem] theorem ajU (H : af) (cs : List D) : xX H (.agg cs) = (frz H 8 (.agg cs)).map .t := (rfl)
@[go_sem] theorem ajV (H : af) (id ep n : Nat) : xX H (.ref id ep n) = (frz H 8 (.ref id ep n)).map .t := (rfl)
@[go_sem] theorem ajW (H : af) (id ep n lo hi : Nat) : xX H (.sub id ep n lo hi) = (frz H 8 (.sub id ep n lo hi)).map .t := (rfl)
@[go_sem] theorem YQ (H : af) (id off : Nat) : xX H (.bp id off) = some (.bp id off) := (rfl)
@[go_sem] theorem amu (H : af) (id ep n i off : Nat) : xX H (.ap id ep n i off) = some (.ap id ep n i off) := (rfl)
@[go_sem] theorem amv (H : af) (cs : List T) : xX H (.ep cs) = some (.ep cs) := (rfl)
@[go_sem] theorem amw (H : af) (f : Nat) (cs : List D) : xX H (.fn f cs) = some (.fn f cs) := (rfl)
def ltB:Nat→Nat→Bool
 | _,0=>false
 | 0,_+1=>true
 | m+1,n+1=>ltB m n
@[go_sem] theorem ap0 (m : Nat) : ltB m 0 = false := by cases m <;> rfl
@[go_sem] theorem aoy (n : Nat) : ltB 0 (n + 1) = true := (rfl)
@[go_sem] theorem aoz (m n : Nat) : ltB (m + 1) (n + 1) = ltB m n := (rfl)
theorem qc:∀ {m n:Nat},ltB m n=decide (m<n)
 | m,0=>by cases m<;>simp[ltB]
 | 0,n+1=>by simp[ltB]
 | m+1,n+1=>by simp[ltB,qc (m:=m) (n:=n)]
def eqB:Nat→Nat→Bool
 | 0,0=>true
 | m+1,n+1=>eqB m n
 | _,_=>false
@[go_sem] theorem aoA : eqB 0 0 = true := (rfl)
@[go_sem] theorem aoB (n : Nat) : eqB 0 (n + 1) = false := (rfl)
@[go_sem] theorem aoC (n : Nat) : eqB (n + 1) 0 = false := (rfl)
@[go_sem] theorem aoD (m n : Nat) : eqB (m + 1) (n + 1) = eqB m n := (rfl)
theorem KP:∀ {m n:Nat},eqB m n=decide (m=n)
 | 0,0=>rfl
 | 0,n+1=>rfl
 | m+1,0=>rfl
 | m+1,n+1=>by simp[eqB,KP (m:=m) (n:=n)]
section
variable (k n : Nat)
@[go_sem] theorem amx (x : T) : old k n (.t x) = true := by cases n <;> rfl
@[go_sem] theorem amy : old k n .nil = true := by cases n <;> rfl
@[go_sem] theorem aoE (cs : List T) : old k n (.ep cs) = true := by cases n <;> rfl
@[go_sem] theorem ajX : old k n .nilp = true := by cases n <;> rfl
@[go_sem] theorem amz : old k n .und = true := by cases n <;> rfl
@[go_sem] theorem agy (id off : Nat) : old k n (.bp id off) = ltB id k := by cases n <;> simp [old, qc]
@[go_sem] theorem aoF (id ep m i off : Nat) : old k n (.ap id ep m i off) = ltB id k := by cases n <;> simp [old, qc]
@[go_sem] theorem amA (id ep m : Nat) : old k n (.ref id ep m) = ltB id k := by cases n <;> simp [old, qc]
@[go_sem] theorem amB (id ep m lo hi : Nat) : old k n (.sub id ep m lo hi) = ltB id k := by cases n <;> simp [old, qc]
def eW(n:Nat)(cs:List D):Bool:=cs.all (old k n)
@[go_sem] theorem acE : eW k n [] = true := (rfl)
@[go_sem] theorem KQ (d : D) (r : List D) : eW k n (d :: r) = (old k n d && eW k n r) := (rfl)
@[go_sem] theorem Ms (ts : List T) : eW k n (ts.map .t) = true := by
 induction ts with
 | nil=>rfl
 | cons t ts ih=>rw[List.map_cons,KQ,amx,ih];rfl
@[go_sem] theorem acF (m : Nat) (x : T) : eW k n (List.replicate m (.t x)) = true := by
 have:List.replicate m (D.t x)=(List.replicate m x).map .t:=by simp
 rw[this,Ms]
@[go_sem] theorem acG (a b : List D) : eW k n (a ++ b) = (eW k n a && eW k n b) := by simp [eW]
@[go_sem] theorem amC (cs : List D) : old k (n + 1) (.agg cs) = eW k n cs := (rfl)
@[go_sem] theorem amD (cs : List D) : old k (n + 1) (.tup cs) = eW k n cs := (rfl)
@[go_sem] theorem aoG (f : Nat) (cs : List D) : old k (n + 1) (.fn f cs) = eW k n cs := (rfl)
end
def cf(k:Nat):af→Bool
 | []=>true
 | .box cs::r=>eW k 8 cs&&cf k r
 | .arr _ _ _ es::r=>eW k 8 es&&cf k r
 | .own _::r=>true&&cf k r
@[go_sem] theorem YR (k : Nat) : cf k [] = true := (rfl)
@[go_sem] theorem YS (k : Nat) (cs : List D) (r : af) : cf k (.box cs :: r) = (eW k 8 cs && cf k r) := (rfl)
@[go_sem] theorem YT (k ep : Nat) (r : af) : cf k (.own ep :: r) = cf k r := by simp [cf]
@[go_sem] theorem YU (k sz ep : Nat) (pin : Bool) (es : List D) (r : af) : cf k (.arr sz pin ep es :: r) = (eW k 8 es && cf k r) := (rfl)
theorem o5(k:Nat)(H:af):H.all (fun o=>o.ds.all (old k depth))=cf k H:=by
 induction H with
 | nil=>rfl
 | cons o r ih=>rw[List.all_cons,ih];cases o<;>rfl
def YV(d:D)(b:Bool):D:=if b then d else .und
@[go_sem] theorem acH (d : D) : YV d true = d := (rfl)
@[go_sem] theorem YW (d : D) : YV d false = .und := (rfl)
@[go_sem] theorem amE (k : Nat) (d : D) : kill k d = YV d (old k 8 d) := (rfl)
def NW(k:Nat):List D→List D
 | []=>[]
 | d::r=>kill k d::NW k r
@[go_sem] theorem agz (k : Nat) : NW k [] = [] := (rfl)
@[go_sem] theorem acI (k : Nat) (d : D) (r : List D) : NW k (d :: r) = kill k d :: NW k r := (rfl)
theorem T6(k:Nat)(vs:List D):vs.map (kill k)=NW k vs:=by
 induction vs with
 | nil=>rfl
 | cons d r ih=>rw[List.map_cons,ih];rfl
@[go_sem] theorem ajY (k : Nat) (vs : List D) (H : af) : NB k ⟨vs, H⟩ = if cf k (H.take k) = true then some ⟨NW k vs, H.take k⟩ else none := by
 simp only[NB,o5,T6]
@[go_sem] theorem Qv (H : af) (n : Nat) (x : T) : gu H n (.t x) = [] := by cases n <;> rfl
@[go_sem] theorem ajZ (H : af) (n : Nat) : gu H n .nil = [] := by cases n <;> rfl
@[go_sem] theorem YX (H : af) (n id off : Nat) : gu H n (.bp id off) = [] := by cases n <;> rfl
@[go_sem] theorem amF (H : af) (n f : Nat) (cs : List D) : gu H n (.fn f cs) = [] := by cases n <;> rfl
@[go_sem] theorem amG (H : af) (n : Nat) (cs : List T) : gu H n (.ep cs) = [] := by cases n <;> rfl
@[go_sem] theorem amH (H : af) (n a b c d e : Nat) : gu H n (.ap a b c d e) = [] := by cases n <;> rfl
def ve(H:af)(n:Nat)(cs:List D):List Nat:=cs.flatMap (gu H n)
@[go_sem] theorem agA (H : af) (n : Nat) : ve H n [] = [] := (rfl)
@[go_sem] theorem NX (H : af) (n : Nat) (d : D) (r : List D) : ve H n (d :: r) = gu H n d ++ ve H n r := (rfl)
@[go_sem] theorem amI (H : af) (n : Nat) (ts : List T) : ve H n (ts.map .t) = [] := by
 induction ts with
 | nil=>rfl
 | cons t ts ih=>rw[List.map_cons,NX,ih,Qv];rfl
@[go_sem] theorem agB (H : af) (n : Nat) (a b : List D) : ve H n (a ++ b) = ve H n a ++ ve H n b := by simp [ve]
@[go_sem] theorem aj0 (H : af) (n : Nat) (cs : List D) : gu H (n + 1) (.agg cs) = ve H n cs := (rfl)
def YY(H:af)(n:Nat):Option Obj→List Nat
 | some (.arr _ _ _ es)=>ve H n es
 | _=>[]
@[go_sem] theorem agC (H : af) (n sz ep : Nat) (pin : Bool) (es : List D) : YY H n (some (.arr sz pin ep es)) = ve H n es := (rfl)
@[go_sem] theorem aj1 (H : af) (n id ep m : Nat) : gu H (n + 1) (.ref id ep m) = id :: YY H n H[id]? := (rfl)
@[go_sem] theorem aj2 (H : af) (n id ep m lo hi : Nat) : gu H (n + 1) (.sub id ep m lo hi) = id :: YY H n H[id]? := (rfl)
@[go_sem] theorem amJ : Ca [] = .tup [] := (rfl)
@[go_sem] theorem amK (d : D) : Ca [d] = d := (rfl)
@[go_sem] theorem amL (a b : D) (r : List D) : Ca (a :: b :: r) = .tup (a :: b :: r) := (rfl)
def Hf(k:Nat):List Nat→Bool
 | []=>true
 | i::r=> !ltB i k&&Hf k r
@[go_sem] theorem agD (k : Nat) : Hf k [] = true := (rfl)
@[go_sem] theorem acJ (k i : Nat) (r : List Nat) : Hf k (i :: r) = (!ltB i k && Hf k r) := (rfl)
theorem Hg(k:Nat)(l:List Nat):l.all (fun i=>decide (k≤i))=Hf k l:=by
 induction l with
 | nil=>rfl
 | cons i r ih=>
   rw[List.all_cons,ih]
   simp only[Hf,qc]
   congr 1
   rw[Bool.eq_iff_iff];simp
def aj3(k raw:Nat)(H:af)(ds rs:List D):Option (D×af):=
 (rC H (max raw 1) (List.range k) (rs.flatMap (ids depth)++vu H (List.range k))).bind fun q=>
  if(m0 H raw ds).all (fun i=> !(List.range k++q.1).contains i)then
   (cK (ren (idxOf (List.range k++q.1)) depth) rs).bind fun rs'=>
    (cK (jB (idxOf (List.range k++q.1))) (H.take k++q.2)).map fun hs'=>(Ca rs',hs')
  else none
def acK(k raw:Nat)(H:af)(ds rs:List D)(b:Bool):Option (D×af):=
 if b then(if Hf k (m0 H raw ds)=true then some (Ca rs,H.take k)else none)else aj3 k raw H ds rs
@[go_sem] theorem agE (k raw : Nat) (H : af) (ds rs : List D) : acK k raw H ds rs true = if Hf k (m0 H raw ds) = true then some (Ca rs, H.take k) else none := (rfl)
def agF(k raw:Nat)(H:af)(ds rs:List D):Option (D×af):=acK k raw H ds rs (eW k 8 rs&&cf k (H.take k))
@[go_sem] theorem amM (k raw : Nat) (H : af) (ds rs : List D) : agF k raw H ds rs = acK k raw H ds rs (eW k 8 rs && cf k (H.take k)) := (rfl)
@[go_sem] theorem agG (k : Nat) (H : af) (ds : List D) : finish k 0 H ds = (cK (xX H) ds).bind (agF k 0 H ds) := by
 simp only[finish,if_true,o5,Hg]
 cases cK (xX H) ds with
 | none=>rfl
 | some rs=>
   simp only[aLq,agF,acK]
   show(if(eW k 8 rs&&cf k (H.take k))=true then _ else _)=_
   cases (eW k 8 rs&&cf k (H.take k))<;>rfl
@[go_sem] theorem agH (H : af) (ds : List D) : m0 H 0 ds = ve H 8 ds := (rfl)
@[go_sem] theorem agI (vs : List D) : jg [] vs = vs := (rfl)
@[go_sem] theorem acL (i : Nat) (r : List Nat) (vs : List D) : jg (i :: r) vs = jg r (vs.set i .und) := (rfl)
@[go_sem] theorem amN (dead : List Nat) (k : Nat) (vs : List D) (H : af) : tidy false dead k ⟨vs, H⟩ = some ⟨jg dead vs, H⟩ := (rfl)
@[go_sem] theorem amO (dead : List Nat) (k : Nat) (vs : List D) (H : af) : tidy true dead k ⟨vs, H⟩ = NB k ⟨jg dead vs, H⟩ := (rfl)
section
variable (H : af) (call : aU) (f raw : Nat) (keep : List Nat) (ds : List D)
def Hi(H1:af)(n:Nat)(sel:List Nat)(p:D×af):Option (D×af):=
 (ren (fO sel n) depth p.1).bind fun r'=>(cK (jB (fO sel n)) p.2).map fun os=>(r',dH H1 sel (os.take sel.length)++os.drop sel.length)
def yj(H1:af)(sel:List Nat)(p:D×af):Option (D×af):=
 if sel.isEmpty&&p.2.isEmpty&&tx p.1 then some (p.1,H)else Hi H1 H.length sel p
def YZ(args:List D)(H1:af)(sel:List Nat)(hs:af):Option (D×af):=(call raw f args hs).bind (yj H H1 sel)
def Y0(args:List D)(H1:af)(sel:List Nat)(hs:af):Option (D×af):=(cK (jB (idxOf sel)) hs).bind (YZ H call f raw args H1 sel)
def Y1(H1:af)(sel:List Nat)(args:List D):Option (D×af):=(pick H1 sel).bind (Y0 H call f raw args H1 sel)
def Y2(args:List D)(sel:List Nat):Option (D×af):=(cK (ren (idxOf sel) depth) args).bind (Y1 H call f raw (pins H (dg H keep 0 ds)) sel)
def DB(n:Nat)(cs:List D):List Nat:=cs.flatMap (ids n)
def Y3(args:List D):Option (D×af):=Y2 H call f raw keep ds args (reach H 3 (ir [] (DB 8 args)))
def Qw:Option (D×af):=(tz H keep 0 ds).bind (Y3 H call f raw keep ds)
theorem T7:NU H call f raw keep ds=Qw H call f raw keep ds:=(rfl)
@[go_sem] theorem T8 : Qw H call f raw keep ds = (tz H keep 0 ds).bind (Y3 H call f raw keep ds) := (rfl)
@[go_sem] theorem T9 (args : List D) : Y3 H call f raw keep ds args = Y2 H call f raw keep ds args (reach H 3 (ir [] (DB 8 args))) := (rfl)
@[go_sem] theorem Ua (args : List D) (sel : List Nat) : Y2 H call f raw keep ds args sel = (cK (ren (idxOf sel) 8) args).bind (Y1 H call f raw (pins H (dg H keep 0 ds)) sel) := (rfl)
@[go_sem] theorem Ub (H1 : af) (sel : List Nat) (args : List D) : Y1 H call f raw H1 sel args = (pick H1 sel).bind (Y0 H call f raw args H1 sel) := (rfl)
@[go_sem] theorem Uc (args : List D) (H1 : af) (sel : List Nat) (hs : af) : Y0 H call f raw args H1 sel hs = (cK (jB (idxOf sel)) hs).bind (YZ H call f raw args H1 sel) := (rfl)
@[go_sem] theorem Ud (args : List D) (H1 : af) (sel : List Nat) (hs : af) : YZ H call f raw args H1 sel hs = (call raw f args hs).bind (yj H H1 sel) := (rfl)
def Ue(H1:af)(sel:List Nat)(r:D)(os:af):Option (D×af):=some (r,dH H1 sel (os.take sel.length)++os.drop sel.length)
@[go_sem] theorem Uf (H1 : af) (sel : List Nat) (r : D) (os : af) : Ue H1 sel r os = some (r, dH H1 sel (os.take sel.length) ++ os.drop sel.length) := (rfl)
def Y4(H1:af)(n:Nat)(sel:List Nat)(os:af)(r:D):Option (D×af):=(cK (jB (fO sel n)) os).bind (Ue H1 sel r)
@[go_sem] theorem Mt (H1 : af) (n : Nat) (sel : List Nat) (os : af) (r : D) : Y4 H1 n sel os r = (cK (jB (fO sel n)) os).bind (Ue H1 sel r) := (rfl)
@[go_sem] theorem Mu (H1 : af) (n : Nat) (sel : List Nat) (r : D) (os : af) : Hi H1 n sel (r, os) = (ren (fO sel n) 8 r).bind (Y4 H1 n sel os) := by
 simp only[Hi,depth]
 cases ren (fO sel n) 8 r with
 | none=>rfl
 | some r'=>simp only[aLq,Y4];cases cK (jB (fO sel n)) os<;>rfl
@[go_sem] theorem agJ (H1 : af) (i : Nat) (sel : List Nat) (p : D × af) : yj H H1 (i :: sel) p = Hi H1 H.length (i :: sel) p := (rfl)
@[go_sem] theorem aj4 (H1 : af) (sel : List Nat) (r : D) (o : Obj) (os : af) : yj H H1 sel (r, o :: os) = Hi H1 H.length sel (r, o :: os) := by
 simp[yj]
@[go_sem] theorem amP (H1 : af) (k : IntKind) (n : Int) : yj H H1 [] (.t (.int k n), []) = some (.t (.int k n), H) := (rfl)
@[go_sem] theorem amQ (H1 : af) (b : Bool) : yj H H1 [] (.t (.bool b), []) = some (.t (.bool b), H) := (rfl)
@[go_sem] theorem aj5 (H1 : af) (es : List T) : yj H H1 [] (.t (.sl es), []) = some (.t (.sl es), H1) := by simp [yj, Hi, tx, T.scalar, ren, depth, cK, dH]
@[go_sem] theorem agK (H1 : af) (es : List T) : yj H H1 [] (.t (.agg es), []) = some (.t (.agg es), H1) := by simp [yj, Hi, tx, T.scalar, ren, depth, cK, dH]
@[go_sem] theorem agL (H1 : af) (ds : List D) : yj H H1 [] (.tup ds, []) = if ds.all oR then some (.tup ds, H) else Hi H1 H.length [] (.tup ds, []) := by
 simp[yj,tx]
def Y5:Option (List T)→Option (D×af)
 | some ts=>(call raw f (ts.map .t) []).bind (DA H)
 | none=>Qw H call f raw [] ds
@[go_sem] theorem acM (ts : List T) : Y5 H call f raw ds (some ts) = (call raw f (ts.map .t) []).bind (DA H) := (rfl)
@[go_sem] theorem acN : Y5 H call f raw ds none = Qw H call f raw [] ds := (rfl)
@[go_sem] theorem amR : NU H call f raw [] ds = Y5 H call f raw ds (qx H ds) := by
 cases h:qx H ds with
 | none=>rfl
 | some ts=>exact Qu H call f raw ds ts h
@[go_sem] theorem aoH (k : Nat) : NU H call f raw (k :: keep) ds = Qw H call f raw (k :: keep) ds := (rfl)
end
section
variable (H : af) (keep : List Nat)
@[go_sem] theorem agM (i : Nat) : tz H keep i [] = some [] := (rfl)
def Kd(i:Nat):List Nat→Bool
 | []=>false
 | j::r=>eqB i j||Kd i r
@[go_sem] theorem aj6 (i : Nat) : Kd i [] = false := (rfl)
@[go_sem] theorem agN (i j : Nat) (r : List Nat) : Kd i (j :: r) = (eqB i j || Kd i r) := (rfl)
theorem Hj(i:Nat)(l:List Nat):l.contains i=Kd i l:=by
 induction l with
 | nil=>rfl
 | cons j r ih=>rw[List.contains_cons,ih];simp only[Kd,KP];rw[beq_eq_decide_nat]
where beq_eq_decide_nat {a b:Nat}:(a==b)=decide (a=b):=by rw[Bool.eq_iff_iff];simp
def amS(d:D):Bool→Option D
 | true=>some d
 | false=>xX H d
@[go_sem] theorem aoI (d : D) : amS H d true = some d := (rfl)
@[go_sem] theorem V5 (d : D) : amS H d false = xX H d := (rfl)
def aoJ(i:Nat)(r:List D)(x:D):Option (List D):=oZ x (tz H keep (i+1) r)
@[go_sem] theorem Qx (i : Nat) (r : List D) (x : D) : aoJ H keep i r x = oZ x (tz H keep (i + 1) r) := (rfl)
@[go_sem] theorem Gf (i : Nat) (d : D) (r : List D) : tz H keep i (d :: r) = (amS H d (Kd i keep)).bind (aoJ H keep i r) := by
 simp only[tz,Hj]
 cases Kd i keep<;>rfl
@[go_sem] theorem SR (i : Nat) : dg H keep i [] = [] := (rfl)
def frK(l:List Nat):Bool→List Nat
 | true=>[]
 | false=>l
@[go_sem] theorem ap1 (l : List Nat) : frK l true = [] := (rfl)
@[go_sem] theorem agO (l : List Nat) : frK l false = l := (rfl)
@[go_sem] theorem vG (i : Nat) (d : D) (r : List D) : dg H keep i (d :: r) = frK (gu H 8 d) (Kd i keep) ++ dg H keep (i + 1) r := by
 simp only[dg,Hj]
 cases Kd i keep<;>rfl
@[go_sem] theorem aj7 (H : af) : pins H [] = H := (rfl)
@[go_sem] theorem agP (H : af) (i : Nat) (r : List Nat) : pins H (i :: r) = pins (H.modify i Is) r := (rfl)
def KR(i:Nat):Option Obj→af
 | some (.arr sz _ ep es)=>H.set i (.arr sz true ep es)
 | _=>H
@[go_sem] theorem agQ (i : Nat) (cs : List D) : KR H i (some (.box cs)) = H := (rfl)
@[go_sem] theorem agR (i sz ep : Nat) (pin : Bool) (es : List D) : KR H i (some (.arr sz pin ep es)) = H.set i (.arr sz true ep es) := (rfl)
theorem Ug{α:Type}{l:List α}{i:Nat}{x:α}(h:l[i]?=some x):l.set i x=l:=by
 apply List.ext_getElem?
 intro j
 rw[List.getElem?_set]
 split
 · rename_i e;subst e
   split
   · exact h.symm
   · rename_i hl;rw[aLm (by omega)]at h;cases h
 · rfl
@[go_sem] theorem acO (i : Nat) : List.modify H i Is = KR H i H[i]? := by
 apply List.ext_getElem?
 intro j
 rw[List.getElem?_modify]
 cases h:H[i]? with
 | none=>
   simp only[KR]
   by_cases e:i=j
   · subst e;rw[h];simp
   · simp[e]
 | some o=>
   have hi:i<H.length:=(aLe.1 h).1
   cases o with
   | box cs=>
     simp only[KR]
     by_cases e:i=j
     · subst e;rw[h];simp[Is]
     · simp[e]
   | arr sz pin ep es=>
     simp only[KR]
     rw[List.getElem?_set]
     by_cases e:i=j
     · subst e;rw[h];simp[Is,hi]
     · simp[e]
   | own ep=>
     simp only[KR]
     by_cases e:i=j
     · subst e;rw[h];simp[Is]
     · simp[e]
section
variable (n : Nat)
@[go_sem] theorem ap2 (x : T) : ids n (.t x) = [] := by cases n <;> rfl
@[go_sem] theorem amT : ids n .nil = [] := by cases n <;> rfl
@[go_sem] theorem aj8 : ids n .nilp = [] := by cases n <;> rfl
@[go_sem] theorem amU : ids n .und = [] := by cases n <;> rfl
@[go_sem] theorem aoK (cs : List T) : ids n (.ep cs) = [] := by cases n <;> rfl
@[go_sem] theorem agS (id off : Nat) : ids n (.bp id off) = [id] := by cases n <;> rfl
@[go_sem] theorem aoL (id ep m i off : Nat) : ids n (.ap id ep m i off) = [id] := by cases n <;> rfl
@[go_sem] theorem amV (id ep m : Nat) : ids n (.ref id ep m) = [id] := by cases n <;> rfl
@[go_sem] theorem amW (id ep m lo hi : Nat) : ids n (.sub id ep m lo hi) = [id] := by cases n <;> rfl
@[go_sem] theorem amX (cs : List D) : ids (n + 1) (.agg cs) = DB n cs := (rfl)
@[go_sem] theorem amY (cs : List D) : ids (n + 1) (.tup cs) = DB n cs := (rfl)
@[go_sem] theorem agT (f : Nat) (cs : List D) : ids (n + 1) (.fn f cs) = DB n cs := (rfl)
@[go_sem] theorem Uh : DB n [] = [] := (rfl)
@[go_sem] theorem Qy (d : D) (r : List D) : DB n (d :: r) = ids n d ++ DB n r := (rfl)
@[go_sem] theorem Mv (ts : List T) : DB n (ts.map .t) = [] := Qt ts n
@[go_sem] theorem Mw (a b : List D) : DB n (a ++ b) = DB n a ++ DB n b := by simp [DB]
@[go_sem] theorem aj9 (m : Nat) (x : T) : DB n (List.replicate m (.t x)) = [] := by
 have:List.replicate m (D.t x)=(List.replicate m x).map .t:=by simp
 rw[this,Mv]
end
def Qz(sel:List Nat)(i:Nat):Bool→List Nat
 | true=>sel
 | false=>sel++[i]
@[go_sem] theorem aka (sel : List Nat) (i : Nat) : Qz sel i true = sel := (rfl)
@[go_sem] theorem akb (sel : List Nat) (i : Nat) : Qz sel i false = sel ++ [i] := (rfl)
@[go_sem] theorem acP (sel : List Nat) : ir sel [] = sel := (rfl)
@[go_sem] theorem Y6 (sel : List Nat) (i : Nat) (r : List Nat) : ir sel (i :: r) = ir (Qz sel i (Kd i sel)) r := by
 simp only[ir,Hj]
 cases Kd i sel<;>rfl
def Gg:Option Obj→List Nat
 | some (.box cs)=>DB 8 cs
 | some (.arr _ _ _ es)=>DB 8 es
 | some (.own _)=>[]
 | none=>[]
@[go_sem] theorem acQ (cs : List D) : Gg (some (.box cs)) = DB 8 cs := (rfl)
@[go_sem] theorem acR (ep : Nat) : Gg (some (.own ep)) = [] := (rfl)
@[go_sem] theorem acS (sz ep : Nat) (pin : Bool) (es : List D) : Gg (some (.arr sz pin ep es)) = DB 8 es := (rfl)
@[go_sem] theorem agU : vu H [] = [] := (rfl)
@[go_sem] theorem acT (i : Nat) (r : List Nat) : vu H (i :: r) = Gg H[i]? ++ vu H r := by
 simp only[vu,List.flatMap_cons]
 congr 1
 cases H[i]? with
 | none=>rfl
 | some o=>cases o<;>rfl
@[go_sem] theorem amZ (sel : List Nat) : reach H 0 sel = sel := (rfl)
@[go_sem] theorem am0 (n : Nat) (sel : List Nat) : reach H (n + 1) sel = reach H n (ir sel (vu H sel)) := (rfl)
@[go_sem] theorem akc : pick H [] = some [] := (rfl)
def agV(r:List Nat)(o:Obj):Option af:=oZ o (pick H r)
@[go_sem] theorem Ui (r : List Nat) (o : Obj) : agV H r o = oZ o (pick H r) := (rfl)
@[go_sem] theorem QA (i : Nat) (r : List Nat) : pick H (i :: r) = H[i]?.bind (agV H r) := (rfl)
end
section
variable (f : Nat → Option Nat) (n : Nat)
@[go_sem] theorem am1 (x : T) : ren f n (.t x) = some (.t x) := by cases n <;> rfl
@[go_sem] theorem am2 : ren f n .nil = some .nil := by cases n <;> rfl
@[go_sem] theorem akd : ren f n .nilp = some .nilp := by cases n <;> rfl
@[go_sem] theorem am3 : ren f n .und = some .und := by cases n <;> rfl
@[go_sem] theorem aoM (cs : List T) : ren f n (.ep cs) = some (.ep cs) := by cases n <;> rfl
def aoN(off:Nat)(i:Nat):D:= .bp i off
@[go_sem] theorem am4 (off i : Nat) : aoN off i = .bp i off := (rfl)
@[go_sem] theorem agW (id off : Nat) : ren f n (.bp id off) = (f id).map (aoN off) := by cases n <;> rfl
def aoO(ep m i off:Nat)(j:Nat):D:= .ap j ep m i off
@[go_sem] theorem am5 (ep m i off j : Nat) : aoO ep m i off j = .ap j ep m i off := (rfl)
@[go_sem] theorem aoP (id ep m i off : Nat) : ren f n (.ap id ep m i off) = (f id).map (aoO ep m i off) := by cases n <;> rfl
def agX(ep m:Nat)(j:Nat):D:= .ref j ep m
@[go_sem] theorem ake (ep m j : Nat) : agX ep m j = .ref j ep m := (rfl)
@[go_sem] theorem am6 (id ep m : Nat) : ren f n (.ref id ep m) = (f id).map (agX ep m) := by cases n <;> rfl
def agY(ep m lo hi:Nat)(j:Nat):D:= .sub j ep m lo hi
@[go_sem] theorem akf (ep m lo hi j : Nat) : agY ep m lo hi j = .sub j ep m lo hi := (rfl)
@[go_sem] theorem am7 (id ep m lo hi : Nat) : ren f n (.sub id ep m lo hi) = (f id).map (agY ep m lo hi) := by cases n <;> rfl
@[go_sem] theorem agZ (g : Nat) (cs : List D) : ren f (n + 1) (.fn g cs) = (cK (ren f n) cs).map (.fn g) := (rfl)
@[go_sem] theorem am8 (cs : List D) : ren f (n + 1) (.agg cs) = (cK (ren f n) cs).map .agg := (rfl)
@[go_sem] theorem am9 (cs : List D) : ren f (n + 1) (.tup cs) = (cK (ren f n) cs).map .tup := (rfl)
@[go_sem] theorem wU (ts : List T) : cK (ren f n) (ts.map .t) = some (ts.map .t) := by
 induction ts with
 | nil=>rfl
 | cons t ts ih=>rw[List.map_cons,I6,am1,aLq,Yv,ih];rfl
@[go_sem] theorem V6 (m : Nat) (x : T) : cK (ren f n) (List.replicate m (.t x)) = some (List.replicate m (.t x)) := by
 have:List.replicate m (D.t x)=(List.replicate m x).map .t:=by simp
 rw[this,wU]
@[go_sem] theorem NY (cs : List D) : jB f (.box cs) = (cK (ren f 8) cs).map .box := (rfl)
@[go_sem] theorem acU (sz ep : Nat) (pin : Bool) (es : List D) : jB f (.arr sz pin ep es) = (cK (ren f 8) es).map (.arr sz pin ep) := (rfl)
end
def acV(x:Option Nat):Bool→Option Nat
 | true=>some 0
 | false=>x.map (· +1)
@[go_sem] theorem aoQ (x : Option Nat) : acV x true = some 0 := (rfl)
@[go_sem] theorem aoR (k : Nat) : acV (some k) false = some (k + 1) := (rfl)
@[go_sem] theorem aoS : acV none false = none := (rfl)
@[go_sem] theorem idxOf_nil (i : Nat) : idxOf [] i = none := (rfl)
@[go_sem] theorem idxOf_cons (j i : Nat) (r : List Nat) : idxOf (j :: r) i = acV (idxOf r i) (eqB j i) := by
 simp only[idxOf,KP]
 by_cases h:j=i
 · simp[h,acV]
 · simp[h,acV]
@[go_sem] theorem acW (n i : Nat) : fO [] n i = some (n + i) := by simp [fO]
@[go_sem] theorem akg (j n : Nat) (r : List Nat) : fO (j :: r) n 0 = some j := by simp [fO]
@[go_sem] theorem akh (j n i : Nat) (r : List Nat) : fO (j :: r) n (i + 1) = fO r n i := by
 simp only[fO,List.length_cons,Nat.add_lt_add_iff_right,List.getElem?_cons_succ,Nat.add_sub_add_right]
@[go_sem] theorem Y7 {α : Type} (H os : List α) : dH H [] os = H := by cases os <;> rfl
@[go_sem] theorem V7 {α : Type} (H : List α) (i : Nat) (r : List Nat) (o : α) (os : List α) : dH H (i :: r) (o :: os) = dH (H.set i o) r os := (rfl)
def lbP(sz:Nat)(p:List D×af):List D×af:=(p.1,.arr sz false 0 []::p.2)
@[go_sem] theorem aoT (sz : Nat) (cs : List D) (os : af) : lbP sz (cs, os) = (cs, .arr sz false 0 [] :: os) := (rfl)
def lbC(base:Nat)(cs:List D)(off sz:Nat)(r:List (Nat×Nat)):Option D→List D×af
 | some .nil=>lbP sz (cq (base+1) (cs.set off (.ref base 0 0)) r)
 | _=>cq base cs r
@[go_sem] theorem ana (base : Nat) (cs : List D) (off sz : Nat) (r : List (Nat × Nat)) : lbC base cs off sz r (some .nil) = lbP sz (cq (base + 1) (cs.set off (.ref base 0 0)) r) := (rfl)
@[go_sem] theorem ap3 (base : Nat) (cs : List D) (off sz : Nat) (r : List (Nat × Nat)) (x : T) : lbC base cs off sz r (some (.t x)) = cq base cs r := (rfl)
@[go_sem] theorem anb (base : Nat) (cs : List D) (off sz : Nat) (r : List (Nat × Nat)) (a b c : Nat) : lbC base cs off sz r (some (.ref a b c)) = cq base cs r := (rfl)
@[go_sem] theorem V8 (base : Nat) (cs : List D) (off sz : Nat) (r : List (Nat × Nat)) : cq base cs ((off, sz) :: r) = lbC base cs off sz r cs[off]? := by
 simp only[cq,lbC]
 split<;>split<;>simp_all [lbP]
def lvP(H:af)(id:Nat)(p:List D×af):Option (D×af):=some (.tup [],H.set id (.box p.1)++p.2)
@[go_sem] theorem aoU (H : af) (id : Nat) (cs : List D) (os : af) : lvP H id (cs, os) = some (.tup [], H.set id (.box cs) ++ os) := (rfl)
def lvB(H:af)(id:Nat)(l:List (Nat×Nat)):Option Obj→Option (D×af)
 | some (.box cs)=>lvP H id (cq H.length cs l)
 | _=>none
@[go_sem] theorem aoV (H : af) (id : Nat) (l : List (Nat × Nat)) (cs : List D) : lvB H id l (some (.box cs)) = lvP H id (cq H.length cs l) := (rfl)
@[go_sem] theorem Y8 (H : af) (id : Nat) (x : Nat × Nat) (r : List (Nat × Nat)) : Gd H id (x :: r) = lvB H id (x :: r) H[id]? := by
 simp only[Gd,tA]
 generalize H[id]?=o
 rcases o with _ | (cs | _ | _)
 rotate_right
 · rfl
 · rfl
 · rfl
 · rfl
section
variable (H : af)
def klE(n:Nat)(sel new:List Nat)(os:af)(q:List Nat×af):Option (List Nat×af):=some (new++q.1,os++q.2)
@[go_sem] theorem aoW (n : Nat) (sel new : List Nat) (os : af) (a : List Nat) (b : af) : klE n sel new os (a, b) = some (new ++ a, os ++ b) := (rfl)
def klD(n:Nat)(sel new:List Nat)(os:af):Option (List Nat×af):=(rC H n (sel++new) (vu H new)).bind (klE n sel new os)
@[go_sem] theorem aoX (n : Nat) (sel new : List Nat) (os : af) : klD H n sel new os = (rC H n (sel ++ new) (vu H new)).bind (klE n sel new os) := (rfl)
def BA(sel:List Nat):List Nat→Bool
 | []=>true
 | i::r=> !Kd i sel&&BA sel r
@[go_sem] theorem acX (sel : List Nat) : BA sel [] = true := (rfl)
@[go_sem] theorem Y9 (sel : List Nat) (i : Nat) (r : List Nat) : BA sel (i :: r) = (!Kd i sel && BA sel r) := (rfl)
theorem Ja(sel l:List Nat):l.all (fun i=> !sel.contains i)=BA sel l:=by
 induction l with
 | nil=>rfl
 | cons i r ih=>rw[List.all_cons,ih,Hj];rfl
def klC(n:Nat)(sel new:List Nat)(os:af):Option (List Nat×af):=
 (if n=0 then(if(os.flatMap fun o=>o.ds.flatMap (gu H depth)).all (fun i=> !(sel++new).contains i)then cK (fA H) os else none)else some os).bind (klD H n sel new)
def uA:af→List Nat
 | []=>[]
 | .box cs::r=>ve H 8 cs++uA r
 | .arr _ _ _ es::r=>ve H 8 es++uA r
 | .own _::r=>uA r
@[go_sem] theorem acY : uA H [] = [] := (rfl)
@[go_sem] theorem acZ (cs : List D) (r : af) : uA H (.box cs :: r) = ve H 8 cs ++ uA H r := (rfl)
@[go_sem] theorem ac0 (ep : Nat) (r : af) : uA H (.own ep :: r) = uA H r := (rfl)
@[go_sem] theorem ac1 (sz ep : Nat) (pin : Bool) (es : List D) (r : af) : uA H (.arr sz pin ep es :: r) = ve H 8 es ++ uA H r := (rfl)
theorem QB(os:af):(os.flatMap fun o=>o.ds.flatMap (gu H depth))=uA H os:=by
 induction os with
 | nil=>rfl
 | cons o r ih=>rw[List.flatMap_cons,ih];cases o<;>rfl
@[go_sem] theorem ap4 (sel new : List Nat) (os : af) : klC H 0 sel new os = (if BA (sel ++ new) (uA H os) = true then cK (fA H) os else none).bind (klD H 0 sel new) := by
 simp only[klC,QB,Ja,if_true]
@[go_sem] theorem ap5 (n : Nat) (sel new : List Nat) (os : af) : klC H (n + 1) sel new os = klD H (n + 1) sel new os := by
 simp[klC]
def klN(n:Nat)(sel new:List Nat):Option (List Nat×af):=(pick H new).bind (klC H n sel new)
@[go_sem] theorem aoY (n : Nat) (sel new : List Nat) : klN H n sel new = (pick H new).bind (klC H n sel new) := (rfl)
@[go_sem] theorem aki (sel front : List Nat) : rC H 0 sel front = some ([], []) := (rfl)
@[go_sem] theorem akj (n : Nat) (sel front : List Nat) : rC H (n + 1) sel front = klN H n sel ((ir sel front).drop sel.length) := by
 simp only[rC,klN]
 generalize (ir sel front).drop sel.length=new
 cases pick H new with
 | none=>rfl
 | some os=>
   simp only[aLq,klC]
   congr 1
   funext os'
   simp only[klD]
   cases rC H n (sel++new) (vu H new)<;>rfl
@[go_sem] theorem Uj (cs : List D) : fA H (.box cs) = (cK (xX H) cs).map .box := (rfl)
@[go_sem] theorem Hk (sz ep : Nat) (pin : Bool) (ts : List T) : fA H (.arr sz pin ep (ts.map .t)) = some (.arr sz pin ep (ts.map .t)) := by
 simp only[fA,wT,aLw]
@[go_sem] theorem Uk (sz ep : Nat) (pin : Bool) : fA H (.arr sz pin ep []) = some (.arr sz pin ep []) := (rfl)
@[go_sem] theorem Ul (sz ep : Nat) (pin : Bool) (m : Nat) (x : T) : fA H (.arr sz pin ep (List.replicate m (.t x))) = some (.arr sz pin ep (List.replicate m (.t x))) := by
 have:List.replicate m (D.t x)=(List.replicate m x).map .t:=by simp
 rw[this,Hk]
def anc(k raw:Nat)(H:af)(ds rs:List D)(q:List Nat×af):Option (D×af):=
 if BA (List.range k++q.1) (m0 H raw ds)=true then
  (cK (ren (idxOf (List.range k++q.1)) depth) rs).bind fun rs'=>(cK (jB (idxOf (List.range k++q.1))) (H.take k++q.2)).map fun hs'=>(Ca rs',hs')
 else none
def QC(sel:List Nat)(H2:af)(rs':List D):Option (D×af):=(cK (jB (idxOf sel)) H2).bind (finT3 rs')
where finT3 (rs':List D) (hs:af):Option (D×af):=some (Ca rs',hs)
@[go_sem] theorem akk (rs' : List D) (hs : af) : QC.finT3 rs' hs = some (Ca rs', hs) := (rfl)
@[go_sem] theorem akl (sel : List Nat) (H2 : af) (rs' : List D) : QC sel H2 rs' = (cK (jB (idxOf sel)) H2).bind (QC.finT3 rs') := (rfl)
@[go_sem] theorem ane (k raw : Nat) (ds rs : List D) (sel : List Nat) (os : af) : anc k raw H ds rs (sel, os) =
 if BA (List.range k++sel) (m0 H raw ds)=true then(cK (ren (idxOf (List.range k++sel)) 8) rs).bind (QC (List.range k++sel) (H.take k++os))else none:=by
 simp only[anc,depth]
 split
 · cases cK (ren (idxOf (List.range k++sel)) 8) rs with
   | none=>rfl
   | some rs'=>simp only[aLq,QC];cases cK (jB (idxOf (List.range k++sel))) (H.take k++os)<;>rfl
 · rfl
@[go_sem] theorem anf (k raw : Nat) (ds rs : List D) : aj3 k raw H ds rs = (rC H (max raw 1) (List.range k) (DB 8 rs ++ vu H (List.range k))).bind (anc k raw H ds rs) := by
 simp only[aj3,Ja,DB,depth];rfl
@[go_sem] theorem ac2 (k raw : Nat) (ds rs : List D) : acK k raw H ds rs false = aj3 k raw H ds rs := (rfl)
@[go_sem] theorem ac3 (k raw : Nat) (ds : List D) : finish k (raw + 1) H ds = agF k (raw + 1) H ds ds := by
 simp only[finish,Nat.add_one_ne_zero,if_false,aLq,o5,Hg,agF,acK]
 show(if(eW k 8 ds&&cf k (H.take k))=true then _ else _)=_
 cases (eW k 8 ds&&cf k (H.take k))<;>rfl
@[go_sem] theorem Za (raw : Nat) (ds : List D) : m0 H (raw + 1) ds = [] := by simp [m0]
@[go_sem] theorem akm : max 0 1 = 1 := (rfl)
@[go_sem] theorem ang (r : Nat) : max (r + 1) 1 = r + 1 := by omega
@[go_sem] theorem ac4 : List.range 0 = [] := (rfl)
@[go_sem] theorem ac5 : List.range 1 = [0] := (rfl)
@[go_sem] theorem ac6 : List.range 2 = [0, 1] := (rfl)
@[go_sem] theorem ac7 : List.range 3 = [0, 1, 2] := (rfl)
@[go_sem] theorem ac8 : List.range 4 = [0, 1, 2, 3] := (rfl)
end
theorem Mx{α:Type}(f:α→T)(l:List α)(i:Nat)(x:α)(y:D)(h:y= .t (f x)):((l.map f).map D.t).set i y=((l.set i x).map f).map D.t:=by
 rw[h,List.map_map,List.map_map]
 exact(List.map_set (f:=D.t ∘ f)).symm
@[go_sem] theorem anh (l : List Int) (i : Nat) (k : IntKind) (x : Int) : ((l.map (T.int k)).map D.t).set i (.t (.int k x)) = ((l.set i x).map (T.int k)).map D.t := Mx _ l i x _ rfl
@[go_sem] theorem akn (l : List Bool) (i : Nat) (x : Bool) : ((l.map T.bool).map D.t).set i (.t (.bool x)) = ((l.set i x).map T.bool).map D.t := Mx _ l i x _ rfl
end Go.Ev
namespace Go.Ev
class Lib where
 fs:Nat→Option Fn
end Go.Ev
namespace Go.Ev.K
abbrev u(x:O):R:={ o:=x}
abbrev w(n:Nat)(x:O):R:={ o:=x,d:=some n}
abbrev y(n:Nat)(b:Bool)(x:O):R:={ o:=x,g:=some (n,b)}
abbrev m(x:X):R:={ o:= .mv x}
abbrev g(x:X):R:={ o:= .ld x 1 false}
abbrev h(n:Nat)(x:X):R:={ o:= .ld x n true}
abbrev f(n:Nat)(x:X):R:={ o:= .fa x n}
abbrev a(n:Nat)(x z:X):R:={ o:= .ia x z n}
abbrev l0:X:= .l 0
abbrev l1:X:= .l 1
abbrev l2:X:= .l 2
abbrev l3:X:= .l 3
abbrev l4:X:= .l 4
abbrev l5:X:= .l 5
abbrev l6:X:= .l 6
abbrev l7:X:= .l 7
abbrev l8:X:= .l 8
abbrev l9:X:= .l 9
abbrev l10:X:= .l 10
abbrev l11:X:= .l 11
abbrev v0:X:= .v 0
abbrev v1:X:= .v 1
abbrev v2:X:= .v 2
abbrev v3:X:= .v 3
abbrev v4:X:= .v 4
abbrev v5:X:= .v 5
abbrev v6:X:= .v 6
abbrev v7:X:= .v 7
abbrev v8:X:= .v 8
abbrev v9:X:= .v 9
abbrev v10:X:= .v 10
abbrev v11:X:= .v 11
abbrev v12:X:= .v 12
abbrev v13:X:= .v 13
abbrev v14:X:= .v 14
abbrev v15:X:= .v 15
abbrev v16:X:= .v 16
abbrev v17:X:= .v 17
abbrev v18:X:= .v 18
abbrev v19:X:= .v 19
abbrev v20:X:= .v 20
abbrev v21:X:= .v 21
abbrev v22:X:= .v 22
abbrev v23:X:= .v 23
end Go.Ev.K
namespace Go.Ev.K
abbrev q(a:List R)(p:List (Nat×Nat))(c:C):C:= .seq (.reg a p) c
abbrev z0:D:= .t (.int .i64 (0))
abbrev z1:D:= .t (.bool false)
abbrev x(n:Nat)(z:X):R:={ o:= .mv z,d:=some n}
abbrev e(n:Nat)(b:Bool)(z:X):R:={ o:= .mv z,g:=some (n,b)}
abbrev i(n:Nat)(b:Bool)(z:X):R:={ o:= .ld z 1 false,g:=some (n,b)}
end Go.Ev.K
namespace Go.Ev.N
def KS:Nat:=0
def ac9:Nat:=1
def Zb:Nat:=2
def ag0:Nat:=3
def SS:Nat:=4
def ada:Nat:=5
def O7:Nat:=6
def QD:Nat:=7
def O8:Nat:=8
def SU:Nat:=9
def V9:Nat:=10
def NZ:Nat:=11
def ag1:Nat:=12
def SV:Nat:=13
def QE:Nat:=14
def Um:Nat:=15
def SW:Nat:=16
def Zc:Nat:=17
def Wb:Nat:=18
def Zd:Nat:=19
def SX:Nat:=20
def ag2:Nat:=21
def Wc:Nat:=22
def ako:Nat:=23
def Wd:Nat:=24
def QF:Nat:=25
def SY:Nat:=26
def SZ:Nat:=27
def ji:Nat:=28
def Ze:Nat:=29
def ag3:Nat:=30
def Zf:Nat:=31
def adb:Nat:=32
def Zg:Nat:=33
def We:Nat:=34
def Wf:Nat:=35
def Zh:Nat:=36
def ade:Nat:=37
def Zi:Nat:=38
def QG:Nat:=39
def adf:Nat:=40
def Zj:Nat:=41
def adg:Nat:=42
def Zk:Nat:=43
def Wg:Nat:=44
def ag4:Nat:=45
def Wi:Nat:=46
def jj:Nat:=47
def S0:Nat:=48
def aA:Nat:=49
def N0:Nat:=50
def bn:Nat:=51
def O9:Nat:=52
def fk:Nat:=53
def jD:Nat:=54
def adh:Nat:=55
def Wj:Nat:=56
def Zl:Nat:=57
def Zm:Nat:=58
def adi:Nat:=59
def Zn:Nat:=60
def adk:Nat:=61
def S1:Nat:=62
def adl:Nat:=63
def Zo:Nat:=64
def Zp:Nat:=65
def bN:Nat:=66
def cO:Nat:=67
def eQ:Nat:=68
def aE:Nat:=69
def dq:Nat:=70
def bD:Nat:=71
def Zq:Nat:=72
def Zr:Nat:=73
def adm:Nat:=74
def aT:Nat:=75
def Wk:Nat:=76
def adn:Nat:=77
end Go.Ev.N
namespace Go.Ev.K
open Go.Ev
def qF:C:= (.seq (.ite [m v3,f 0 v1,g l0,u (.ln l0),u (.bin .lss l3 l0)] [] 0 .skip (.exit 0)) (.seq (.blk 1 (q [f 0 v1,g l0,m v3,a 2 l1 l0,f 0 l0,g l0,x 4 l0] [] (.ite [m v4,u (.bin .lss l0 (.i (-10000))),m l0,e 0 false v4,y 1 false (.bin .gtr l0 (.i 10000)),u (.pk l2 (.b true) l0)] [] 0 (q [x 2 (.i 1)] [] .ret) .skip))) (.reg [m v3,u (.bin .add l0 (.i 1)),x 3 l0] [])))
def xo:C:= .loop true [0,2,4,5,6] K.qF
def qG:C:= (.seq (.ite [m v5,f 1 v1,g l0,u (.ln l0),u (.bin .lss l3 l0)] [] 0 .skip (.exit 2)) (.seq (.blk 3 (q [f 1 v1,g l0,m v5,a 10 l1 l0,h 10 l0,w 6 (.al [z0,z0,z0,z0,z1,z1,z0,z0,z0,z0] []),u (.st l0 l1 10 [])] [] (.seq (.ite [f 0 v6,g l0,u (.bin .lss l0 (.i 0)),m l0,y 0 false (.fa v6 0),i 1 false l0,y 2 false (.fa v1 0),i 3 false l0,y 4 false (.ln l0),y 5 false (.bin .geq l3 l0),u (.pk l6 (.b true) l0),m l0,y 0 false (.fa v6 1),i 1 false l0,y 2 false (.bin .lss l0 (.i 0)),u (.pk l3 (.b true) l0),m l0,y 0 false (.fa v6 1),i 1 false l0,y 2 false (.fa v1 0),i 3 false l0,y 4 false (.ln l0),y 5 false (.bin .geq l3 l0),u (.pk l6 (.b true) l0),m l0,y 0 false (.fa v6 0),i 1 false l0,y 2 false (.fa v6 1),i 3 false l0,y 4 false (.bin .eql l2 l0),u (.pk l5 (.b true) l0)] [] 0 (q [x 2 (.i 4)] [] .ret) .skip) (.ite [f 2 v6,g l0,u (.bin .lss l0 (.i 1)),m l0,y 0 false (.fa v6 2),i 1 false l0,y 2 false (.bin .gtr l0 (.i 100000)),u (.pk l3 (.b true) l0),m l0,y 0 false (.fa v6 3),i 1 false l0,y 2 false (.bin .lss l0 (.i 1)),u (.pk l3 (.b true) l0),m l0,y 0 false (.fa v6 3),i 1 false l0,y 2 false (.bin .gtr l0 (.i 1000)),u (.pk l3 (.b true) l0),m l0,y 0 false (.fa v6 6),y 1 false (.ld l0 2 true),y 2 false (.ca N.jD 0 [] [.l 0,.i 1,.i 262144]),y 3 false (.un .not l0),u (.pk l4 (.b true) l0),m l0,y 0 false (.fa v6 8),y 1 false (.ld l0 2 true),y 2 false (.ca N.jD 0 [] [.l 0,.i (-2199023255552),.i 2199023255552]),y 3 false (.un .not l0),u (.pk l4 (.b true) l0)] [] 0 (q [x 2 (.i 1)] [] .ret) .skip)))) (.reg [m v5,u (.bin .add l0 (.i 1)),x 5 l0] [])))
def xp:C:= .loop true [0,2,3,4,6] K.qG
def ji:Fn:= { aq:=1,vars:=[0,1,2,3,4,5,6],body:=(q [w 1 (.bx v0 2),x 2 (.i 0)] [] (.seq (.ite [f 0 v1,g l0,u (.ln l0),u (.bin .gtr l0 (.i 64)),m l0,y 0 false (.fa v1 1),i 1 false l0,y 2 false (.ln l0),y 3 false (.bin .gtr l0 (.i 128)),u (.pk l4 (.b true) l0)] [] 0 (q [x 2 (.i 2)] [] .ret) .skip) (.seq (q [x 3 (.i 0)] [] (.blk 0 K.xo)) (.seq (q [x 5 (.i 0)] [] (.blk 2 K.xp)) (q [x 2 (.i 0)] [] .ret))))),res:=[(2,none)]}
end Go.Ev.K
namespace Go.Ev
class cr [Lib]:Prop where
 tM:Lib.fs N.ji=some K.ji
namespace K
variable [Lib] [cr]
theorem tM:Lib.fs N.ji=some K.ji:=cr.tM
end K
end Go.Ev
namespace Go.Ev.K
open Go.Ev
def DC:C:= (.its [u (.bin .lss v6 v5)] [] 0 .skip (.exit 0) (.seq (.blk 1 (q [m v6,x 4 l0] [] (.ite [m v1,m v4,u (.cw l1 0 [] [.l 0])] [] 0 (.reg [m v3,m v4,u (.bs [.l 0] 1),u (.app l2 l0 true 1),x 3 l0] []) .skip))) (.reg [u (.bin .add v6 (.i 1)),x 6 l0] [])))
def EY:C:= .loop true [0,2,4] K.DC
def jj:Fn:= { aq:=2,vars:=[0,1,4,5,6,7,8],body:=(q [w 2 (.mv (.c (.nil)))] [] (q [w 3 (.nw 1)] [] (.seq (q [x 5 v0,x 6 (.i 0)] [] (.blk 0 K.EY)) (q [m v3,x 2 l0] [] .ret)))),res:=[(2,none)]}
def aA:Fn:= { aq:=2,vars:=[0,1,4],body:=(q [x 2 (.b false)] [] (q [m v0,m v1,u (.ca N.bN 0 [] [.l 1,.l 0]),u (.bin .geq l0 (.i 0)),x 2 l0] [] .ret)),res:=[(2,none)]}
def bn:Fn:= { aq:=2,vars:=[0,1,4],body:=(q [x 2 (.b false)] [] (q [m v0,m v1,u (.ca N.cO 0 [] [.l 1,.l 0]),u (.bin .geq l0 (.i 0)),x 2 l0] [] .ret)),res:=[(2,none)]}
def fk:Fn:= { aq:=3,vars:=[0,1,2,3,4,5,6],body:=(q [w 3 (.bx v0 1),w 4 (.bx v1 1),w 5 (.bx v2 1),w 6 (.mv (.c (.nil)))] [] (q [u (.mf N.eQ [.v 3,.v 4,.v 5]),u (.ca N.jj 0 [] [.i 64,.l 0]),x 6 l0] [] .ret)),res:=[(6,none)]}
def jD:Fn:= { aq:=3,vars:=[0,1,2,3,6],body:=(q [w 3 (.bx v0 2),x 4 (.b false)] [] (q [m v1,f 0 v3,g l0,u (.bin .leq l2 l0),m l0,y 0 true (.fa v3 0),i 1 true l0,y 2 true (.fa v3 1),i 3 true l0,y 4 true (.bin .leq l2 l0),u (.pk l5 l0 (.b false)),m l0,y 0 true (.fa v3 1),i 1 true l0,e 2 true v2,y 3 true (.bin .leq l1 l0),u (.pk l4 l0 (.b false)),x 4 l0] [] .ret)),res:=[(4,none)]}
def qy:C:= (.its [u (.bin .lss v5 v4)] [] 0 .skip (.exit 0) (.seq (.blk 1 (q [m v5,x 3 l0] [] (.ite [m v1,m v0,m v3,a 1 l1 l0,g l0,u (.cw l4 0 [] [.l 0])] [] 0 (q [m v3,x 2 l0] [] .ret) .skip))) (.reg [u (.bin .add v5 (.i 1)),x 5 l0] [])))
def qH:C:= .loop true [2,3] K.qy
def bN:Fn:= { aq:=2,vars:=[0,1,4,5,7,8],body:=(q [x 2 (.i 0)] [] (.seq (q [m v0,w 4 (.ln l0),x 5 (.i 0)] [] (.blk 0 K.qH)) (q [w 2 (.mv (.i (-1)))] [] .ret))),res:=[(2,none)]}
def sI:C:= (.its [u (.bin .lss v5 v4)] [] 0 .skip (.exit 0) (.seq (.blk 1 (q [m v5,x 3 l0] [] (.ite [m v1,m v0,m v3,a 1 l1 l0,g l0,u (.bin .eql l4 l0)] [] 0 (q [m v3,x 2 l0] [] .ret) .skip))) (.reg [u (.bin .add v5 (.i 1)),x 5 l0] [])))
def tN:C:= .loop true [2,3] K.sI
def cO:Fn:= { aq:=2,vars:=[0,1,4,5,7,8],body:=(q [x 2 (.i 0)] [] (.seq (q [m v0,w 4 (.ln l0),x 5 (.i 0)] [] (.blk 0 K.tN)) (q [w 2 (.mv (.i (-1)))] [] .ret))),res:=[(2,none)]}
def eQ:Fn:= { aq:=4,vars:=[0,1,2,3,4,5],body:=(q [w 4 (.bx v0 1),x 5 (.b false)] [] (q [f 0 v1,g l0,u (.mf N.dq [.v 2,.v 4,.v 3]),u (.ca N.aE 0 [] [.l 1,.l 0]),x 5 l0] [] .ret)),res:=[(5,none)]}
def aE:Fn:= { aq:=2,vars:=[0,1,4],body:=(q [x 2 (.b false)] [] (q [m v0,m v1,u (.ca N.aT 0 [] [.l 1,.l 0]),u (.bin .geq l0 (.i 0)),x 2 l0] [] .ret)),res:=[(2,none)]}
def dq:Fn:= { aq:=4,vars:=[0,1,2,3,4,5],body:=(q [w 4 (.bx v0 2),x 5 (.b false)] [] (q [g v1,f 1 v4,g l0,u (.ln l0),u (.bin .sub l0 (.i 1)),u (.ca N.bD 0 [] [.l 4,.i 0,.l 0]),m l0,i 0 true v2,y 1 true (.fa v4 1),i 2 true l0,i 3 true v1,y 4 true (.ia l1 l0 2),y 5 true (.fa l0 1),i 6 true l0,y 7 true (.ln l0),y 8 true (.bin .lss l7 l0),u (.pk l9 l0 (.b false)),m l0,y 0 true (.fa v4 1),i 1 true l0,i 2 true v1,y 3 true (.ia l1 l0 2),y 4 true (.fa l0 1),i 5 true l0,i 6 true v2,y 7 true (.ia l1 l0 1),i 8 true l0,i 9 true v3,y 10 true (.bin .leq l1 l0),u (.pk l11 l0 (.b false)),x 5 l0] [] .ret)),res:=[(5,none)]}
def bD:Fn:= { aq:=3,vars:=[0,1,2,6],body:=(q [x 3 (.b false)] [] (q [m v0,m v1,u (.bin .geq l1 l0),m l0,e 0 true v0,e 1 true v2,y 2 true (.bin .leq l1 l0),u (.pk l3 l0 (.b false)),x 3 l0] [] .ret)),res:=[(3,none)]}
def kK:C:= (.its [u (.bin .lss v5 v4)] [] 0 .skip (.exit 0) (.seq (.blk 1 (q [m v5,x 3 l0] [] (.ite [m v1,m v0,m v3,a 2 l1 l0,h 2 l0,u (.cw l4 0 [] [.l 0])] [] 0 (q [m v3,x 2 l0] [] .ret) .skip))) (.reg [u (.bin .add v5 (.i 1)),x 5 l0] [])))
def kR:C:= .loop true [2,3] K.kK
def aT:Fn:= { aq:=2,vars:=[0,1,4,5,7,8],body:=(q [x 2 (.i 0)] [] (.seq (q [m v0,w 4 (.ln l0),x 5 (.i 0)] [] (.blk 0 K.kR)) (q [w 2 (.mv (.i (-1)))] [] .ret))),res:=[(2,none)]}
end Go.Ev.K
namespace Go.Ev
class bZ [Lib]:Prop where
 zd:Lib.fs N.jj=some K.jj
 kn:Lib.fs N.aA=some K.aA
 mK:Lib.fs N.bn=some K.bn
 uB:Lib.fs N.fk=some K.fk
 vH:Lib.fs N.jD=some K.jD
 mq:Lib.fs N.bN=some K.bN
 oN:Lib.fs N.cO=some K.cO
 rF:Lib.fs N.eQ=some K.eQ
 eX:Lib.fs N.aE=some K.aE
 qn:Lib.fs N.dq=some K.dq
 AB:Lib.fs N.bD=some K.bD
 fP:Lib.fs N.aT=some K.aT
namespace K
variable [Lib] [bZ]
theorem zd:Lib.fs N.jj=some K.jj:=bZ.zd
theorem kn:Lib.fs N.aA=some K.aA:=bZ.kn
theorem mK:Lib.fs N.bn=some K.bn:=bZ.mK
theorem uB:Lib.fs N.fk=some K.fk:=bZ.uB
theorem vH:Lib.fs N.jD=some K.jD:=bZ.vH
theorem mq:Lib.fs N.bN=some K.bN:=bZ.mq
theorem oN:Lib.fs N.cO=some K.cO:=bZ.oN
theorem rF:Lib.fs N.eQ=some K.eQ:=bZ.rF
theorem eX:Lib.fs N.aE=some K.aE:=bZ.eX
theorem qn:Lib.fs N.dq=some K.dq:=bZ.qn
theorem AB:Lib.fs N.bD=some K.bD:=bZ.AB
theorem fP:Lib.fs N.aT=some K.aT:=bZ.fP
end K
end Go.Ev
namespace Go.Ev
open Go
variable [Lib]
noncomputable def bL:aU:=rq Lib.fs
theorem aI{raw f:Nat}{args:List D}{H:af}{fn:Fn}{r:D×af}(hf:Lib.fs f=some fn)(hn:fn.aq=args.length)
 (h:(exS bL fn.body ⟨xj args fn.vars,H⟩).bind (aiW fn.res H.length raw)=some r) (h0:fn.prim=[]:=by rfl):bL raw f args H=some r:=Yj hf hn h h0
theorem cT{gc:Bool}{dead:List Nat}{c:C}{vs:List D}{H:af}(s:Nat→St)(n:Nat){e:Ex}{st:St}
 (h0:(⟨jg dead vs,H⟩:St)=s 0) (h:∀j,j<n→om gc dead (s j).H.length (exS bL c (s j))=some (s (j+1)))
 (he:exS bL c (s n)=some (e,st)) (hn:e≠ .normal):exS bL (.loop gc dead c) ⟨vs,H⟩=some (e,st):=by
 show tK gc dead (exS bL c) ⟨jg dead vs,H⟩=_
 rw[h0]
 exact Hd s n h (nC he hn)
class Dat (α:Type) where
 dflt:α
instance : Dat Int := ⟨0⟩
instance : Dat Nat := ⟨0⟩
instance : Dat Bool := ⟨false⟩
instance {α : Type} : Dat (List α) := ⟨[]⟩
def nth{α:Type} [Dat α](l:List α)(j:Nat):α:=l.getD j Dat.dflt
theorem CR{α:Type} [Dat α]{l:List α}{j:Nat}(h:j<l.length):l[j]?=some (nth l j):=by simp[nth,h]
theorem aQ{α β:Type} [Dat α](f:α→β){l:List α}{j:Nat}(h:j<l.length):(l.map f)[j]?=some (f (nth l j)):=by rw[aLn,CR h];rfl
theorem cE{α β γ:Type} [Dat α](f:β→γ)(g:α→β){l:List α}{j:Nat}(h:j<l.length):((l.map g).map f)[j]?=some (f (g (nth l j))):=by rw[aLn,aQ g h];rfl
theorem ak{α:Type} [Dat α]{l:List α}{j:Nat}(h:j<l.length):nth l j∈l:=aLd (CR h)
theorem qo{α:Type} [Dat α]{l:List α}{j:Nat}{x:α}(h:l[j]?=some x):nth l j=x:=by simp[nth,h]
theorem Un{α:Type} [Dat α]{l:List α}{j:Nat}(h:j<l.length):l.take (j+1)=l.take j++[nth l j]:=by
 rw[List.take_succ_eq_append_getElem h];simp[nth,h]
theorem ani{a b:Int}(h:a<b):(a<b)=True:=by simp[h]
theorem anj{a b:Int}(h:b≤a):(a<b)=False:=by simp[Int.not_lt.2 h]
theorem ank{a b:Int}(h:a≤b):(a≤b)=True:=by simp[h]
theorem anl{a b:Int}(h:b<a):(a≤b)=False:=by simp[Int.not_le.2 h]
theorem anm{a b:Int}(h:a=b):(a=b)=True:=by simp[h]
theorem ann{a b:Int}(h:a≠b):(a=b)=False:=by simp[h]
theorem ano{a b:Nat}(h:a<b):(a<b)=True:=by simp[h]
theorem anp{a b:Nat}(h:b≤a):(a<b)=False:=by simp[Nat.not_lt.2 h]
theorem anq{a b:Nat}(h:a≤b):(a≤b)=True:=by simp[h]
theorem anr{a b:Nat}(h:b<a):(a≤b)=False:=by simp[Nat.not_le.2 h]
theorem ans{a b:Nat}(h:a=b):(a=b)=True:=by simp[h]
theorem ant{a b:Nat}(h:a≠b):(a=b)=False:=by simp[h]
attribute [go_sem] ans ant ani anj ank anl anm ann ano anp anq anr oo aQ cE Yy
@[go_sem] theorem ado (a b : Nat) : ((a + b : Nat) : Int) = (a : Int) + (b : Int) := (rfl)
@[go_sem] theorem adp : ((1 : Nat) : Int) = 1 := (rfl)
@[go_sem] theorem Zs : ((0 : Nat) : Int) = 0 := (rfl)
@[go_sem] theorem ag5 (a b : Int) : a + b - b = a := Int.add_sub_cancel a b
@[go_sem] theorem Wl : (0 : Int).toNat = 0 := (rfl)
@[go_sem] theorem Zt (n : Nat) : (n : Int).toNat = n := (rfl)
@[go_sem] theorem Zu (n : Nat) : ((n : Int) + 1).toNat = n + 1 := (rfl)
@[go_sem] theorem Zv (a : Int) : 0 + a = a := Int.zero_add a
@[go_sem] theorem Zw (a : Int) : a + 0 = a := Int.add_zero a
@[go_sem] theorem Zx (a : Int) : a - 0 = a := Int.sub_zero a
abbrev tI(n:Int):T:= .int .i64 n
abbrev tL(l:List Int):T:= .sl (l.map (.int .i64))
@[go_sem] theorem Uo (H : af) (n : Nat) (ts : List T) (x : T) : cK (frz H n) (ts.map .t ++ [.t x]) = some (ts ++ [x]) := by
 have:ts.map D.t++[.t x]=(ts++[x]).map .t:=by simp
 rw[this,NV]
@[go_sem] theorem Wm {α β : Type} (f : α → β) (a b : List α) : (a ++ b).map f = a.map f ++ b.map f := List.map_append
end Go.Ev
namespace Go.Ev
open Go
variable [Lib] [cr] [bZ]
def Mod(n m:Int):Int:=if m<1 then 0 else if n.tmod m<0 then n.tmod m+m else n.tmod m
structure im where
 L:List Int
 at_:Nat
def im.obj(d:im):Obj:= .box [.t (tL d.L),I d.at_]
def im.next(d:im)(n:Int):Int×im:=if d.at_<d.L.length then(Mod (nth d.L d.at_) n,⟨d.L,d.at_+1⟩)else(0,d)
@[go_sem] theorem akp (d : im) : Gg (some d.obj) = [] := by simp only [im.obj, go_sem]
@[go_sem] theorem akq (f : Nat → Option Nat) (d : im) : jB f d.obj = some d.obj := by simp only [im.obj, go_sem]
@[go_sem] theorem akr (k : Nat) (d : im) (r : af) : cf k (d.obj :: r) = cf k r := by simp only [im.obj, go_sem]
def im.one(d:im)(n:Int):Bool×im:=(decide ((d.next n).1=n-1),(d.next n).2)
def im.of(d:im)(l:List Int):Int×im:=(nth l (d.next l.length).1.toNat,(d.next l.length).2)
def im.N1(d:im):Nat→List Int×im
 | 0=>([],d)
 | k+1=>(if((d.N1 k).2.next 3).1=0 then(d.N1 k).1++[(k:Int)]else(d.N1 k).1,((d.N1 k).2.next 3).2)
theorem Gi{gc:Bool}{dead:List Nat}{c:C}{vs:List D}{H:af}(s:Nat→St)(n:Nat)(p:Nat→Bool)(e:Nat→Ex×St)(eN:Ex×St)
 (h0:(⟨jg dead vs,H⟩:St)=s 0) (hs:∀j,j<n→p j=false→om gc dead (s j).H.length (exS bL c (s j))=some (s (j+1)))
 (he:∀j,j<n→p j=true→exS bL c (s j)=some (e j)∧(e j).1≠ .normal) (hN:exS bL c (s n)=some eN) (hn:eN.1≠ .normal):
 exS bL (.loop gc dead c) ⟨vs,H⟩=some (match (List.range n).find? p with | some j=>e j | none=>eN):=by
 show tK gc dead (exS bL c) ⟨jg dead vs,H⟩=_
 rw[h0]
 cases hf:(List.range n).find? p with
 | none=>
   refine Hd s n (fun j hj=>hs j hj ?_) (nC hN hn)
   have:=List.find?_eq_none.1 hf j (aLu.2 hj)
   simpa using this
 | some k=>
   obtain⟨h1,as,bs,h2,h3⟩:=List.find?_eq_some_iff_append.1 hf
   have hk:k<n:=aLu.1 (List.mem_of_find?_eq_some hf)
   have hlt:∀j,j<k→p j=false:=by
    intro j hj
    have hlen:as.length=k:=by
     have h4:(List.range n)[as.length]?=some k:=by rw[h2];simp
     have h5:as.length<n:=by
      have:=congrArg List.length h2;simp at this;omega
     rw[aLp h5]at h4
     exact Option.some.inj h4
    have:j∈as:=by
     have h6:(List.range n)[j]?=some j:=aLp (by omega)
     rw[h2,aLg (by omega)]at h6
     exact aLd h6
    simpa using h3 j this
   obtain⟨k1,k2⟩:=he k hk h1
   exact Hd s k (fun j hj=>hs j (by omega) (hlt j hj)) (nC k1 k2)
def jE{α:Type}(f:α→α×Bool):Nat→α→α
 | 0,l=>l
 | n+1,l=>if(f l).2 then jE f n (f l).1 else(f l).1
theorem N2{α:Type}{gc:Bool}{dead:List Nat}{c:C}{vs:List D}{H:af}(S:α→Bool→St)(E:α→Ex×St)(f:α→α×Bool)(inv:α→Prop)(mes:α→Nat)
 (hinv:∀l,inv l→inv (f l).1∧((f l).2=true→mes (f l).1<mes l))
 (hs:∀l,inv l→om gc dead (S l true).H.length (exS bL c (S l true))=some (S (f l).1 (f l).2))
 (he:∀l,inv l→exS bL c (S l false)=some (E l)∧(E l).1≠ .normal) (l:α) (hl:inv l) (h0:(⟨jg dead vs,H⟩:St)=S l true):
 exS bL (.loop gc dead c) ⟨vs,H⟩=some (E (jE f (mes l+1) l))∧inv (jE f (mes l+1) l):=by
 have key:∀(n:Nat) (l:α),inv l→mes l<n→tK gc dead (exS bL c) (S l true)=some (E (jE f n l))∧inv (jE f n l):=by
  intro n
  induction n with
  | zero=>intro l _ h;omega
  | succ n ih=>
    intro l hl hm
    obtain⟨h1,h2⟩:=hinv l hl
    have hr:=hs l hl
    cases hf:(f l).2 with
    | true=>
      rw[hf]at hr
      obtain⟨k1,k2⟩:=ih (f l).1 h1 (by have:=h2 hf;omega)
      simp only[jE,hf,if_true]
      exact⟨sH hr k1,k2⟩
    | false=>
      rw[hf]at hr
      obtain⟨k1,k2⟩:=he (f l).1 h1
      simp only[jE,hf,aLt,if_false]
      exact⟨sH hr (nC k1 k2),h1⟩
 have:=key (mes l+1) l hl (Nat.lt_succ_self _)
 show tK gc dead (exS bL c) ⟨jg dead vs,H⟩=_∧_
 rw[h0];exact this
theorem Up{n:Nat}{p:Nat→Bool}:((List.range n).find? p).isSome=(List.range n).any p:=by
 rw[List.isSome_find?]
def o6(m:Nat):List D:=(List.range m).map fun i=> .bp i 0
def bO(bs:List (List T)):af:=bs.map fun cs=> .box (cs.map .t)
theorem Gj{bs:List (List T)}{i:Nat}(h:i<bs.length):(bO bs)[i]?=some (.box (bs[i].map .t)):=by simp[bO,h]
theorem gI(bs:List (List T)):(bO bs).length=bs.length:=by simp[bO]
theorem AD:∀(l sel:List Nat),(sel++l).Nodup→ir sel l=sel++l
 | [],sel,_=>by simp[ir]
 | i::r,sel,h=>by
   have:sel.contains i=false:=by
    rw[← Bool.not_eq_true,List.contains_iff_mem]
    intro hm
    have:=List.nodup_append.1 h
    exact this.2.2 i hm i List.mem_cons_self rfl
   simp only[ir,this,aLt,if_false]
   rw[AD r (sel++[i]) (by simpa using h)]
   simp
theorem BB:∀(l:List Nat) (i k:Nat),l.Nodup→l[k]?=some i→idxOf l i=some k
 | [],i,k,_,h=>by simp at h
 | a::l,i,0,_,h=>by simp at h;simp[idxOf,h]
 | a::l,i,k+1,hn,h=>by
   simp at h
   have hne:a≠i:=fun e=>(List.nodup_cons.1 hn).1 (e▸aLd h)
   simp only[idxOf,if_neg hne,BB l i k (List.nodup_cons.1 hn).2 h,aLw]
theorem KT{m i:Nat}(h:i<m):idxOf (List.range m) i=some i:=BB _ _ _ List.nodup_range (aLp h)
theorem KU{α:Type}{f:α→Option α}:∀ {l:List α},(∀x∈l,f x=some x)→cK f l=some l
 | [],_=>rfl
 | a::l,h=>by
   simp only[cK,h a List.mem_cons_self,aLq,KU fun x hx=>h x (List.mem_cons_of_mem _ hx),aLw]
theorem KV(f:Nat→Option Nat)(cs:List T):jB f (.box (cs.map .t))=some (.box (cs.map .t)):=by
 simp only[NY,wU,aLw]
theorem Jb{H:af}:∀ {l:List Nat} {hs:af},l.length=hs.length→(∀(k i:Nat) (o:Obj),l[k]?=some i→hs[k]?=some o→H[i]?=some o)→pick H l=some hs
 | [],[],_,_=>rfl
 | [],_::_,h,_=>by simp at h
 | _::_,[],h,_=>by simp at h
 | i::l,o::hs,h,hg=>by
   rw[QA,hg 0 i o rfl rfl,aLq,Ui,Jb (l:=l) (hs:=hs) (by simpa using h) fun k i o hk ho=>hg (k+1) i o (by simpa using hk) (by simpa using ho)]
   rfl
theorem BD{H:af}:∀ {l:List Nat} {os:af},(∀(k i:Nat) (o:Obj),l[k]?=some i→os[k]?=some o→H[i]?=some o)→dH H l os=H
 | [],os,_=>by cases os<;>rfl
 | i::l,[],_=>rfl
 | i::l,o::os,hg=>by
   simp only[dH]
   rw[Ug (hg 0 i o rfl rfl)]
   exact BD fun k i o hk ho=>hg (k+1) i o (by simpa using hk) (by simpa using ho)
theorem Jc(call:aU)(bs:List (List T))(E:af)(f raw:Nat)(args:List D){r:D}(h:call raw f args (bO bs)=some (r,bO bs))(hr:Ce r=true)
 (ha:∀H:af,tz H [] 0 args=some args∧dg H [] 0 args=[]) (hids:ir [] (DB 8 args)=List.range bs.length)
 (hren:cK (ren (idxOf (List.range bs.length)) 8) args=some args):NU (bO bs++E) call f raw [] args=some (r,bO bs++E):=by
 generalize hH:bO bs++E=H
 have hget:∀i (hi:i<bs.length),H[i]?=some (.box (bs[i].map .t)):=fun i hi=>by
  rw[← hH,aLg (by rw[gI];exact hi),Gj hi]
 obtain⟨ha,hfz⟩:=ha H
 have hno:vu H (List.range bs.length)=[]:=by
  simp only[vu,List.flatMap_eq_nil_iff,aLu]
  intro i hi
  rw[hget i hi]
  exact Mv 8 bs[i]
 have hsel:reach H 3 (List.range bs.length)=List.range bs.length:=by
  simp only[reach,hno,ir]
 have hget2:∀(k i:Nat) (o:Obj),(List.range bs.length)[k]?=some i→(bO bs)[k]?=some o→H[i]?=some o:=by
  intro k i o hk ho
  have hkl:k<bs.length:=by have:=(aLe.1 hk).1;simpa using this
  rw[aLp hkl]at hk
  cases hk
  rw[Gj hkl]at ho
  rw[hget k hkl,←ho]
 have hpick:pick H (List.range bs.length)=some (bO bs):=Jb (by simp[gI]) hget2
 have hro:∀f:Nat→Option Nat,cK (jB f) (bO bs)=some (bO bs):=fun f=>KU fun o ho=>by
  simp only[bO,List.mem_map]at ho
  obtain⟨cs,_,rfl⟩:=ho
  exact KV f cs
 have hput:dH H (List.range bs.length) (bO bs)=H:=BD hget2
 rw[T7,T8,ha,aLq,T9,hids,hsel,Ua,hren,aLq,hfz,Ub]
 simp only[pins]
 rw[hpick,aLq,Uc,hro,aLq,Ud,h,aLq]
 cases hb:bs with
 | nil=>
   subst hb
   have hrr:=He (f:=fO [] H.length) hr
   simp only[depth]at hrr
   simp only[List.length_nil,List.range_zero,bO,List.map_nil]
   unfold yj
   split
   · rfl
   · rw[Mu,hrr,aLq,Mt]
     simp[cK,Ue,dH]
 | cons b bt=>
   rw[← hb]
   have hne:List.range bs.length=0::(List.range' 1 bt.length):=by rw[hb];simp[List.range_eq_range',List.range'_succ]
   have hrr:=He (f:=fO (List.range bs.length) H.length) hr
   simp only[depth]at hrr
   have hw:yj H H (List.range bs.length) (r,bO bs)=Hi H H.length (List.range bs.length) (r,bO bs):=by
    rw[hne];rfl
   rw[hw,Mu,hrr,aLq,Mt,hro,aLq,Uf,List.length_range,List.take_of_length_le (by rw[gI];exact aLs _),hput,
    List.drop_eq_nil_of_le (by rw[gI];exact aLs _),List.append_nil]
theorem KW(H:af)(cs:List D)(hc:∀i,tz H [] i cs=some cs∧dg H [] i cs=[]):∀(ts:List T) (i:Nat),tz H [] i (ts.map .t++cs)=some (ts.map .t++cs)∧dg H [] i (ts.map .t++cs)=[]
 | [],i=>hc i
 | t::ts,i=>by
   obtain⟨h1,h2⟩:=KW H cs hc ts (i+1)
   simp only[List.map_cons,List.cons_append,Gf,vG,Kd,V5,agx,aLq,Qx,h1,h2,agO,Qv]
   exact⟨rfl,rfl⟩
theorem Jd(H:af):∀(l:List Nat) (i:Nat),tz H [] i (l.map fun i=> .bp i 0)=some (l.map fun i=> .bp i 0)∧dg H [] i (l.map fun i=> .bp i 0)=[]
 | [],i=>⟨rfl,rfl⟩
 | a::l,i=>by
   obtain⟨h1,h2⟩:=Jd H l (i+1)
   simp only[List.map_cons,Gf,vG,Kd,V5,YQ,aLq,Qx,h1,h2,agO,YX]
   exact⟨rfl,rfl⟩
theorem Je(n m:Nat):DB n (o6 m)=List.range m:=by
 simp only[DB,o6,List.flatMap_map]
 have:∀l:List Nat,(l.flatMap fun a=>ids n (.bp a 0))=l:=by
  intro l
  induction l with
  | nil=>rfl
  | cons a l ih=>rw[List.flatMap_cons,ih,agS];rfl
 exact this _
theorem My(n m:Nat):cK (ren (idxOf (List.range m)) n) (o6 m)=some (o6 m):=KU fun d hd=>by
 simp only[o6,List.mem_map,aLu]at hd
 obtain⟨k,hk,rfl⟩:=hd
 rw[agW,KT hk];rfl
theorem Hl{α β:Type}{f:α→Option β}:∀ {a b:List α} {x y:List β},cK f a=some x→cK f b=some y→cK f (a++b)=some (x++y)
 | [],b,x,y,h1,h2=>by simp[cK]at h1;subst h1;exact h2
 | c::a,b,x,y,h1,h2=>by
   simp only[cK,aLa,aLb]at h1
   obtain⟨z,hz,r,hr,rfl⟩:=h1
   simp only[List.cons_append,cK,hz,aLq,Hl hr h2,aLw]
theorem QH(call:aU)(bs:List (List T))(E:af)(f raw:Nat)(ts:List T){r:D}(h:call raw f (ts.map .t++o6 bs.length) (bO bs)=some (r,bO bs))(hr:Ce r=true):
 NU (bO bs++E) call f raw [] (ts.map .t++o6 bs.length)=some (r,bO bs++E):=
 Jc call bs E f raw _ h hr (fun H=>KW H _ (Jd H _) ts 0)
  (by rw[Mw,Mv,List.nil_append,Je,AD _ _ (by simpa using List.nodup_range),List.nil_append])
  (Hl (wU _ _ _) (My _ _))
theorem Zy(call:aU)(bs:List (List T))(E:af)(g f raw:Nat)(ts:List T){r:D}(h:call raw f (ts.map .t++[.fn g (o6 bs.length)]) (bO bs)=some (r,bO bs))(hr:Ce r=true):
 NU (bO bs++E) call f raw [] (ts.map .t++[.fn g (o6 bs.length)])=some (r,bO bs++E):=
 Jc call bs E f raw _ h hr (fun H=>KW H _ (fun i=>⟨rfl,rfl⟩) ts 0)
  (by rw[Mw,Mv,List.nil_append,Qy,agT,Je,Uh,List.append_nil,AD _ _ (by simpa using List.nodup_range),List.nil_append])
  (Hl (wU _ _ _) (by rw[I6,agZ,My];rfl))
theorem QI{f:Nat}{bs:List (List T)}{x:T}{r:D}(E:af)(h:bL 0 f (.t x::o6 bs.length) (bO bs)=some (r,bO bs))(hr:Ce r=true):
 NU (bO bs++E) bL f 0 [] (.t x::o6 bs.length)=some (r,bO bs++E):=QH bL bs E f 0 [x] h hr
theorem Gk{f:Nat}{bs:List (List T)}{x:T}{r:D}(h:bL 0 f (.t x::o6 bs.length) (bO bs)=some (r,bO bs))(hr:Ce r=true):
 NU (bO bs) bL f 0 [] (.t x::o6 bs.length)=some (r,bO bs):=by
 have:=QI [] h hr;rwa [List.append_nil]at this
theorem N3(call:aU)(bs:List (List T))(g f raw:Nat)(x:T){r:D}(h:call raw f [.t x,.fn g (o6 bs.length)] (bO bs)=some (r,bO bs))(hr:Ce r=true):
 NU (bO bs) call f raw [] [.t x,.fn g (o6 bs.length)]=some (r,bO bs):=by
 have:=Zy call bs [] g f raw [x] h hr
 rwa [List.append_nil]at this
section
variable (bs : List (List T)) (o o' : Obj)
@[go_sem] theorem Uq : (bO bs).length = bs.length := gI bs
@[go_sem] theorem adq : (bO bs ++ [o])[bs.length]? = some o := by
 rw[aLh (by rw[gI];exact aLs _),gI];simp
@[go_sem] theorem ag6 : (bO bs ++ [o]).set bs.length o' = bO bs ++ [o'] := by
 rw[List.set_append_right _ _ (by rw[gI];exact aLs _),gI];simp
@[go_sem] theorem adr : (bO bs ++ [o]).take bs.length = bO bs := by
 rw[List.take_append_of_le_length (by rw[gI];exact aLs _),List.take_of_length_le (by rw[gI];exact aLs _)]
@[go_sem] theorem Zz : (bO bs ++ [o]).take (bs.length + 1) = bO bs ++ [o] := List.take_of_length_le (by simp [gI])
@[go_sem] theorem ZA : (bO bs).take bs.length = bO bs := List.take_of_length_le (by simp [gI])
@[go_sem] theorem KX (k : Nat) (a b : af) : cf k (a ++ b) = (cf k a && cf k b) := by
 rw[← o5,←o5,←o5,List.all_append]
@[go_sem] theorem Ur (k : Nat) : cf k (bO bs) = true := by
 induction bs with
 | nil=>rfl
 | cons b r ih=>
   show(eW k 8 (b.map .t)&&cf k (bO r))=true
   rw[Ms,ih];rfl
@[go_sem] theorem aks (n : Nat) : ltB n (n + 1) = true := by rw [qc]; simp
@[go_sem] theorem akt (n : Nat) : ltB n n = false := by rw [qc]; simp
theorem BE(k n m:Nat)(h:m≤k):eW k n (o6 m)=true:=by
 unfold eW o6
 rw[aLx]
 intro d hd
 obtain⟨i,hi,rfl⟩:=List.mem_map.1 hd
 rw[agy,qc]
 have:=aLu.1 hi
 simp;omega
@[go_sem] theorem ZB (n m : Nat) : eW m n (o6 m) = true := BE _ _ _ (aLs _)
@[go_sem] theorem Wn (n m : Nat) : eW (m + 1) n (o6 m) = true := BE _ _ _ (Nat.le_succ _)
end
end Go.Ev
namespace Go.Ev
open Go
variable [Lib] [cr] [bZ]
theorem jO{α:Type}(sz:Nat)(f:α→T)(h:∀a,rW sz (f a).cells=true):∀l:List α,cj sz (l.map f)=true
 | []=>rfl
 | a::l=>by rw[List.map_cons,zc,h,jO sz f h l];rfl
@[go_sem] theorem Wo (k : IntKind) (l : List Int) : cj 1 (l.map (.int k)) = true := jO 1 _ (fun _ => rfl) l
theorem ze(sz:Nat):∀ts:List T,(ts.all fun e=>e.cells.length==sz)=cj sz ts
 | []=>rfl
 | t::ts=>by
   rw[List.all_cons,zc,ze sz ts]
   congr 1
   rw[Bool.eq_iff_iff,iI];simp
section
variable (H : af) (sz : Nat) (ts : List T) (i j : Int)
@[go_sem] theorem anu : I8 H sz (some (.t (.sl ts))) (some none) (some (some i)) = if 0 ≤ i then (if i ≤ ts.length then (if cj sz ts = true then some (.t (.sl (ts.take i.toNat)), H) else none) else none) else none := by
 simp only[I8,aLq,rB,bound,ze,idx]
 by_cases h1:0≤i
 · rw[if_pos h1,if_pos h1,aLq]
   by_cases h2:i≤ts.length
   · rw[if_pos h2]
     by_cases h3:cj sz ts=true
     · rw[if_pos h3,if_pos ⟨by omega,by omega,h3⟩];rfl
     · rw[if_neg h3,if_neg fun h=>h3 h.2.2];rfl
   · rw[if_neg h2,if_neg fun h=>h2 (by omega)];rfl
 · rw[if_neg h1,if_neg h1];rfl
@[go_sem] theorem anv : I8 H sz (some (.t (.sl ts))) (some (some i)) (some none) = if 0 ≤ i then (if i ≤ ts.length then (if cj sz ts = true then some (.t (.sl (ts.drop i.toNat)), H) else none) else none) else none := by
 simp only[I8,aLq,rB,bound,ze,idx]
 by_cases h1:0≤i
 · rw[if_pos h1,if_pos h1,aLq]
   by_cases h2:i≤ts.length
   · rw[if_pos h2]
     by_cases h3:cj sz ts=true
     · rw[if_pos h3,if_pos ⟨by omega,by omega,h3⟩,List.take_of_length_le (by simp)];rfl
     · rw[if_neg h3,if_neg fun h=>h3 h.2.2];rfl
   · rw[if_neg h2,if_neg fun h=>h2 (by omega)];rfl
 · rw[if_neg h1,if_neg h1];rfl
@[go_sem] theorem ag7 : I8 H sz (some (.t (.sl ts))) (some (some i)) (some (some j)) = if 0 ≤ i then (if i ≤ j then (if j ≤ ts.length then (if cj sz ts = true then some (.t (.sl ((ts.drop i.toNat).take (j.toNat - i.toNat))), H) else none) else none) else none) else none := by
 simp only[I8,aLq,rB,bound,ze,idx]
 by_cases h1:0≤i
 · rw[if_pos h1,if_pos h1,aLq]
   by_cases h0:i≤j
   · rw[if_pos h0,if_pos (by omega:0≤j),aLq]
     by_cases h2:j≤ts.length
     · rw[if_pos h2]
       by_cases h3:cj sz ts=true
       · rw[if_pos h3,if_pos ⟨by omega,by omega,h3⟩];rfl
       · rw[if_neg h3,if_neg fun h=>h3 h.2.2];rfl
     · rw[if_neg h2,if_neg fun h=>h2 (by omega)];rfl
   · rw[if_neg h0]
     by_cases h2:0≤j
     · rw[if_pos h2,aLq,if_neg fun h=>h0 (by omega)];rfl
     · rw[if_neg h2];rfl
 · rw[if_neg h1,if_neg h1];rfl
end
def bsK(H:af)(l:List Nat):Option T→Option (D×af)
 | some t=>some (.t (.sl [t]),pins H l)
 | none=>none
@[go_sem] theorem aku (H : af) (l : List Nat) (t : T) : bsK H l (some t) = some (.t (.sl [t]), pins H l) := (rfl)
@[go_sem] theorem akv (H : af) (sz : Nat) (cs : List D) : Ge H sz [.agg cs] = if rW sz cs = true then bsK H (gu H 8 (.agg cs)) (frz H 8 (.agg cs)) else none := by
 simp only[Ge,List.all_cons,List.all_nil,Bool.and_true,D.cells]
 by_cases h:rW sz cs=true
 · rw[if_pos h,if_pos (by simpa using iI.1 h)]
   simp only[cK,depth,List.flatMap_cons,List.flatMap_nil,List.append_nil]
   cases frz H 8 (.agg cs)<;>rfl
 · rw[if_neg h,if_neg (by intro e;exact h (iI.2 (by simpa using e)))]
@[go_sem] theorem akw (H : af) (id ep n : Nat) : Ge H 1 [.ref id ep n] = bsK H (gu H 8 (.ref id ep n)) (frz H 8 (.ref id ep n)) := by
 simp only[Ge,List.all_cons,List.all_nil,Bool.and_true,D.cells,List.length_cons,List.length_nil,beq_self_eq_true,if_true,cK,depth,List.flatMap_cons,List.flatMap_nil,List.append_nil]
 cases frz H 8 (.ref id ep n)<;>rfl
def ZC(H:af)(r:D)(os:af):D×af:=(r,H++os)
@[go_sem] theorem akx (H : af) (r : D) (os : af) : ZC H r os = (r, H ++ os) := (rfl)
def ag8(H:af)(os:af)(r:D):Option (D×af):=(cK (jB (fO [] H.length)) os).map (ZC H r)
@[go_sem] theorem aky (H : af) (os : af) (r : D) : ag8 H os r = (cK (jB (fO [] H.length)) os).map (ZC H r) := (rfl)
@[go_sem] theorem ag9 (H : af) (r : D) (o : Obj) (os : af) : DA H (r, o :: os) = (ren (fO [] H.length) 8 r).bind (ag8 H (o :: os)) := by
 simp only[DA,List.isEmpty_cons,Bool.and_false,aLt,if_false]
 rfl
end Go.Ev
namespace Go.Ev
open Go
variable [Lib] [cr] [bZ]
structure Place where
 h:Int
 surf:Bool
instance : Dat Place := ⟨⟨0, false⟩⟩
abbrev Place.e(p:Place):T:= .agg [tI p.h,.bool p.surf]
structure Road where
 frm:Int
 to:Int
 len:Int
 area:Int
 walk:Bool
 closed:Bool
 restL:Int
 restH:Int
 liftL:Int
 liftH:Int
instance : Dat Road := ⟨⟨0, 0, 0, 0, false, false, 0, 0, 0, 0⟩⟩
abbrev Road.e(r:Road):T:= .agg [tI r.frm,tI r.to,tI r.len,tI r.area,.bool r.walk,.bool r.closed,tI r.restL,tI r.restH,tI r.liftL,tI r.liftH]
structure cC where
 aa:List Place
 roads:List Road
instance : Dat cC := ⟨⟨[], []⟩⟩
abbrev cC.e(m:cC):T:= .agg [.sl (m.aa.map Place.e),.sl (m.roads.map Road.e)]
structure Road.ok(n:Nat)(r:Road):Prop where
 f0:0≤r.frm
 f1:r.frm<n
 t0:0≤r.to
 t1:r.to<n
 ne:r.frm≠r.to
 l0:1≤r.len
 l1:r.len≤100000
 a0:1≤r.area
 a1:r.area≤1000
 r0:1≤r.restL
 r1:r.restL≤r.restH
 r2:r.restH≤262144
 i0: -2199023255552≤r.liftL
 i1:r.liftL≤r.liftH
 i2:r.liftH≤2199023255552
structure cC.ok(m:cC):Prop where
 np:m.aa.length≤64
 nr:m.roads.length≤128
 hs:∀p∈m.aa, -10000≤p.h∧p.h≤10000
 rs:∀r∈m.roads,r.ok m.aa.length
theorem Jf(a b lo hi:Int):bL 0 N.jD [.t (.agg [tI a,tI b]),I lo,I hi] []=some (B (decide (lo≤a∧a≤b∧b≤hi)),[]):=by
 refine aI K.vH rfl ?_
 by_cases h1:lo≤a<;>by_cases h2:a≤b<;>by_cases h3:b≤hi<;>simp(disch:=omega)only[go_sem,K.jD,↓reduceIte,h1,h2,h3]
theorem Us{m:cC}(h:m.ok):bL 0 N.ji [.t m.e] []=some (I 0,[]):=by
 refine aI K.tM rfl ?_
 have np:=h.np
 have nr:=h.nr
 have loop1:∀a b c d e:D,exS bL K.xo ⟨[a,.bp 0 0,b,I 0,c,d,e],[.box [.t (.sl (m.aa.map Place.e)),.t (.sl (m.roads.map Road.e))]]⟩=
  some (.exit 0,⟨[.und,.bp 0 0,.und,I m.aa.length,.und,.und,.und],[.box [.t (.sl (m.aa.map Place.e)),.t (.sl (m.roads.map Road.e))]]⟩):=by
  intro a b c d e
  refine cT (fun j=>⟨[.und,.bp 0 0,.und,I j,.und,.und,.und],[.box [.t (.sl (m.aa.map Place.e)),.t (.sl (m.roads.map Road.e))]]⟩) m.aa.length rfl ?_ ?_ (by simp)
  · intro j hj
    have hh:=h.hs _ (ak hj)
    simp(disch:=omega)only[go_sem,K.qF,↓reduceIte]
  · simp(disch:=omega)only[go_sem,K.qF,↓reduceIte]
 have loop2:∀a b c d e:D,exS bL K.xp ⟨[a,.bp 0 0,b,c,d,I 0,e],[.box [.t (.sl (m.aa.map Place.e)),.t (.sl (m.roads.map Road.e))]]⟩=
  some (.exit 2,⟨[.und,.bp 0 0,.und,.und,.und,I m.roads.length,.und],[.box [.t (.sl (m.aa.map Place.e)),.t (.sl (m.roads.map Road.e))]]⟩):=by
  intro a b c d e
  refine cT (fun j=>⟨[.und,.bp 0 0,.und,.und,.und,I j,.und],[.box [.t (.sl (m.aa.map Place.e)),.t (.sl (m.roads.map Road.e))]]⟩) m.roads.length rfl ?_ ?_ (by simp)
  · intro j hj
    obtain⟨f0,f1,t0,t1,ne,l0,l1,a0,a1,r0,r1,r2,i0,i1,i2⟩:=h.rs _ (ak hj)
    have s1:=Jf (nth m.roads j).restL (nth m.roads j).restH 1 262144
    have s2:=Jf (nth m.roads j).liftL (nth m.roads j).liftH (-2199023255552) 2199023255552
    simp(disch:=omega)only[go_sem]at s1 s2
    simp(disch:=omega)only[go_sem,K.qG,↓reduceIte,s1,s2]
  · simp(disch:=omega)only[go_sem,K.qG,↓reduceIte]
 simp(disch:=omega)only[go_sem,K.ji,↓reduceIte,loop1,loop2]
def Pa(l:List Int)(n:Int):Bool:=(List.range l.length).all fun j=>decide (0≤nth l j∧nth l j<n∧(0<j→nth l (j-1)<nth l j))
theorem anw(x lo hi:Int):bL 0 N.bD [I x,I lo,I hi] []=some (B (decide (lo≤x∧x≤hi)),[]):=by
 refine aI K.AB rfl ?_
 by_cases h1:lo≤x<;>by_cases h2:x≤hi<;>simp(disch:=omega)only[go_sem,K.bD,↓reduceIte]
def KY(m:cC)(k:Nat)(back:Bool)(up down level:Int):Int:=
 let x:=nth m.roads k
 if x.closed=true∨x.walk=false then -1 else
 let a:=if back then x.to else x.frm
 let b:=if back then x.frm else x.to
 let rise:=(nth m.aa b.toNat).h-(nth m.aa a.toNat).h
 let speed:=if -10*rise>x.len then down else if 10*rise>x.len then up else level
 (10*x.len+speed-1).tdiv speed
theorem KZ{a b:Int}(ha:0≤a)(hb:1≤b):0≤a.tdiv b∧a.tdiv b≤a:=by
 rw[Int.tdiv_eq_ediv_of_nonneg ha]
 exact⟨Int.ediv_nonneg ha (by omega),Int.ediv_le_self _ ha⟩
def bnd(l:List Int):Prop:=∀x∈l,0≤x∧x≤1099511627776
def Wp(l:List Int)(p q:Nat)(walk t:Int):Bool:=
 decide (0≤walk)&&decide (nth l p<1099511627776)&&decide (max t (nth l p+walk)≤2147483648)&&decide (max t (nth l p+walk)<nth l q)
def aha(l:List Int)(p q:Nat)(walk t:Int):List Int:=if Wp l p q walk t=true then l.set q (max t (nth l p+walk))else l
def aoZ(into:Option (List Int))(p:Int):Bool:=match into with
 | none=>true
 | some l=>decide (p∈l)
def ahb(into:Option (List Int)):D:=match into with
 | none=> .nil
 | some l=> .t (tL l)
def Road.src(r:Road)(back:Bool):Int:=if back then r.to else r.frm
def Road.dst(r:Road)(back:Bool):Int:=if back then r.frm else r.to
theorem Road.uw{n:Nat}{r:Road}(h:r.ok n)(back:Bool):0≤r.src back∧r.src back<n:=by
 unfold Road.src;have:=h.f0;have:=h.f1;have:=h.t0;have:=h.t1;cases back<;>simp<;>omega
theorem Road.xq{n:Nat}{r:Road}(h:r.ok n)(back:Bool):0≤r.dst back∧r.dst back<n:=by
 unfold Road.dst;have:=h.f0;have:=h.f1;have:=h.t0;have:=h.t1;cases back<;>simp<;>omega
def ahc(m:cC)(t:Int)(into:Option (List Int))(k:Nat)(back:Bool)(l:List Int):List Int×Bool:=
 if aoZ into ((nth m.roads k).dst back)=true then
  (aha l ((nth m.roads k).src back).toNat ((nth m.roads k).dst back).toNat (KY m k back 6 9 12) t,Wp l ((nth m.roads k).src back).toNat ((nth m.roads k).dst back).toNat (KY m k back 6 9 12) t)
 else(l,false)
def anx(m:cC)(t:Int)(into:Option (List Int))(k:Nat)(s:List Int×Bool):List Int×Bool:=
 let a:=ahc m t into k false s.1
 let b:=ahc m t into k true a.1
 (b.1,s.2||a.2||b.2)
def Wq(m:cC)(t:Int)(into:Option (List Int))(l:List Int):Nat→List Int×Bool
 | 0=>(l,false)
 | k+1=>anx m t into k (Wq m t into l k)
def ahd(m:cC)(t:Int)(into:Option (List Int))(l:List Int):List Int×Bool:=Wq m t into l m.roads.length
theorem QJ{l:List Int}(h:bnd l){q:Nat}{x:Int}(h0:0≤x)(h1:x≤1099511627776):bnd (l.set q x):=by
 intro y hy
 rcases aLk hy with hy | hy
 · exact h y hy
 · subst hy;exact⟨h0,h1⟩
section
variable {m : cC} (h : m.ok) {t : Int} {into : Option (List Int)}
include h
end
def uC(l:List Int):Nat:=(l.map Int.toNat).sum
theorem Hm:∀ {l:List Int} {q:Nat} {x:Int},q<l.length→0≤x→x<nth l q→uC (l.set q x)<uC l
 | [],q,x,h,_,_=>by simp at h
 | a::l,0,x,_,h0,h1=>by
   have h1:x<a:=by simpa [nth]using h1
   simp only[uC,List.set_cons_zero,List.map_cons,List.sum_cons];omega
 | a::l,q+1,x,h,h0,h1=>by
   have:=Hm (l:=l) (q:=q) (x:=x) (by simpa using h) h0 (by simpa [nth]using h1)
   simp only[uC,List.set_cons_succ,List.map_cons,List.sum_cons]at this ⊢;omega
section
variable {m : cC} (h : m.ok) {t : Int} {into : Option (List Int)}
include h
end
end Go.Ev
namespace Go.Ev
open Go
variable [Lib] [cr] [bZ]
abbrev aX(m:cC):List D:=[.t (.sl (m.aa.map Place.e)),.t (.sl (m.roads.map Road.e))]
@[go_sem] theorem ahe (k n : Nat) (into : Option (List Int)) : old k n (ahb into) = true := by
 cases into<;>simp only[ahb,go_sem]
structure Wh where
 time:Int
 frm:List Int
instance : Dat Wh := ⟨⟨0, []⟩⟩
abbrev Wh.e(w:Wh):T:= .agg [tI w.time,tL w.frm]
def DD(m:cC)(t:Int)(into:Option (List Int))(l:List Int):List Int:=jE (ahd m t into) (uC l+1) l
def inT(t:Int):Prop:=0≤t∧t≤2147483648
instance (t : Int) : Decidable (inT t) := by unfold inT; infer_instance
def plT(x:Int):Prop:=x=1099511627776∨inT x
instance (t : Int) : Decidable (plT t) := by unfold plT; infer_instance
def QK(w:Wh)(n:Int):Bool:=decide ((w.frm.length:Int)=n∧inT w.time)&&(List.range w.frm.length).all fun j=>decide (plT (nth w.frm j))
def Jg(m:cC)(w:Wh):Bool:=QK w m.aa.length&&decide (DD m w.time none w.frm=w.frm)
theorem K0{w:Wh}{n:Int}(h:QK w n=true):(w.frm.length:Int)=n∧inT w.time∧∀x∈w.frm,plT x:=by
 simp only[QK,aLr,decide_eq_true_eq,aLx,aLu]at h
 refine⟨h.1.1,h.1.2,fun x hx=>?_⟩
 obtain⟨j,hj⟩:=aLf.1 hx
 have:=h.2 j (aLe.1 hj).1
 rwa [qo hj]at this
def QL(n:Nat):List Int:=List.replicate n 1099511627776
@[simp] theorem ads (n : Nat) : (QL n).length = n := List.length_replicate
def QM(m:cC)(p t:Int):Wh×Int:=
 if p<0∨(m.aa.length:Int)≤p then(⟨0,[]⟩,3)else if inT t then(⟨t,DD m t none ((QL m.aa.length).set p.toNat t)⟩,0)else(⟨0,[]⟩,8)
def QN(w:Wh)(t:Int):Wh×Int:=if t<w.time∨2147483648<t then(w,8)else(⟨t,w.frm⟩,0)
def Mz(m:cC)(w:Wh)(aa:List Int)(a b:Int):Int:=
 if Jg m w=true∧aa≠[]∧Pa aa m.aa.length=true then(if inT a∧inT b∧a≤b then 0 else 8)else 6
def ZD(w:Wh)(t p:Int)(s:List Int×Bool):List Int×Bool:=if nth w.frm p.toNat≤t then(s.1.set p.toNat (nth w.frm p.toNat),true)else s
def anz(w:Wh)(l:List Int)(t:Int)(n:Nat):Nat→List Int×Bool
 | 0=>(QL n,false)
 | j+1=>ZD w t (nth l j) (anz w l t n j)
def ao0(m:cC)(w:Wh)(l:List Int)(a b:Int):Wh×Int:=
 if Mz m w l a b≠0 then(w,Mz m w l a b)else if a<w.time then(w,42)else
 if(anz w l b m.aa.length l.length).2=true then(⟨b,DD m a none (anz w l b m.aa.length l.length).1⟩,0)else(w,43)
theorem K1{m:cC}{w:Wh}(h:Jg m w=true):w.frm.length=m.aa.length∧inT w.time∧(∀x∈w.frm,plT x)∧DD m w.time none w.frm=w.frm:=by
 simp only[Jg,aLr,decide_eq_true_eq]at h
 obtain⟨h1,h2,h3⟩:=K0 h.1
 exact⟨by omega,h2,h3,h.2⟩
def ao4(l0 l:List Int):Nat→List Int
 | 0=>l0
 | j+1=>(ao4 l0 l j).set (nth l j).toNat 1099511627776
def ao5(m:cC)(w:Wh)(l:List Int)(a b bl:Int):Wh×Int:=
 if Mz m w l a b≠0 then(w,Mz m w l a b)else if ¬inT bl then(w,8)else if b<w.time then(w,42)else if b-max a w.time≤bl then(w,0)else
 (⟨b,DD m b none (DD m (b-bl) (some l) (ao4 w.frm l l.length))⟩,0)
def ao6(a b:List Int):Nat→List Int
 | 0=>[]
 | j+1=>ao6 a b j++[min (nth a j) (nth b j)]
def QO(a b:Wh):Wh×Int:=if a.frm.length=b.frm.length then(⟨max a.time b.time,ao6 a.frm b.frm a.frm.length⟩,0)else(⟨0,[]⟩,6)
structure Spn where
 low:Int
 high:Int
instance : Dat Spn := ⟨⟨0, 0⟩⟩
abbrev Spn.e(f:Spn):T:= .agg [tI f.low,tI f.high]
abbrev tS(l:List Spn):T:= .sl (l.map Spn.e)
def Spn.ok(f:Spn):Prop:= -1125899906842624≤f.low∧f.high≤1125899906842624∧f.low≤f.high
instance (f : Spn) : Decidable f.ok := by unfold Spn.ok; infer_instance
def pE(m:cC)(l:List Spn):Bool:=(List.range l.length).all (fun j=>decide (nth l j).ok)&&decide (l.length=m.roads.length)
theorem K3{m:cC}{l:List Spn}(h:pE m l=true):l.length=m.roads.length∧∀j,j<l.length→(nth l j).ok:=by
 simp only[pE,aLr,decide_eq_true_eq,aLx,aLu]at h
 exact⟨h.2,h.1⟩
def eY(x:Road)(f:Spn)(back:Bool):Int:=
 if x.closed=true then -1 else
 let g:=if back then -f.low else f.high
 let out:=if 0<g then(x.len*x.area*1000).tdiv g else -1
 if(if back then f.low<500*x.area else -500*x.area<f.high)∧(out<0∨x.len<out)then x.len else out
theorem N4{n:Nat}{x:Road}(h:x.ok n){f:Spn}(back:Bool): -1≤eY x f back∧eY x f back≤100000000000:=by
 have l0:=h.l0;have l1:=h.l1;have a0:=h.a0;have a1:=h.a1
 have hm:0≤x.len*x.area:=Int.mul_nonneg (by omega) (by omega)
 have hm2:x.len*x.area≤100000*1000:=Int.mul_le_mul l1 a1 (by omega) (by omega)
 unfold eY
 simp only
 split
 · omega
 · have key:∀g:Int, -1≤(if 0<g then(x.len*x.area*1000).tdiv g else -1)∧(if 0<g then(x.len*x.area*1000).tdiv g else -1)≤100000000000:=by
    intro g
    split
    · have:=KZ (a:=x.len*x.area*1000) (b:=g) (by omega) (by omega)
      omega
    · omega
   cases back with
   | false=>
     have k:=key f.high
     simp only[aLt,↓reduceIte]
     generalize (if 0<f.high then(x.len*x.area*1000).tdiv f.high else -1)=o at*
     split<;>omega
   | true=>
     have k:=key (-f.low)
     simp only[↓reduceIte]
     generalize (if 0< -f.low then(x.len*x.area*1000).tdiv (-f.low)else -1)=o at*
     split<;>omega
end Go.Ev
namespace Go.Ev
open Go
structure Fan where
 cL:Int
 back:Bool
 aux:Bool
 cur:List Spn
instance : Dat Fan := ⟨⟨0, false, false, []⟩⟩
abbrev Fan.e(f:Fan):T:= .agg [tI f.cL,.bool f.back,.bool f.aux,tS f.cur]
def AE(n w:Int):Int:=n / w+if 0<n % w then 1 else 0
theorem K4{n w k:Int}(hw:0<w):AE n w≤k↔n≤k*w:=by
 unfold AE
 have h1:=Int.mul_ediv_add_emod n w
 have h2:=Int.emod_nonneg n (b:=w) (by omega)
 have h3:=Int.emod_lt_of_pos n hw
 generalize n / w=d at*
 generalize n % w=r at*
 by_cases c:d≤k
 · have h4:w*d≤w*k:=Int.mul_le_mul_of_nonneg_left c (by omega)
   rw[Int.mul_comm k w]
   by_cases e:d=k
   · subst e;split<;>omega
   · have h5:w*(d+1)≤w*k:=Int.mul_le_mul_of_nonneg_left (by omega) (by omega)
     rw[Int.mul_add]at h5
     split<;>omega
 · have h4:w*(k+1)≤w*d:=Int.mul_le_mul_of_nonneg_left (by omega) (by omega)
   rw[Int.mul_add]at h4
   rw[Int.mul_comm k w]
   split<;>omega
theorem QP{n m w:Int}(hw:0<w)(h:n≤m):AE n w≤AE m w:=by
 rw[K4 hw]
 have:=(K4 (n:=m) (k:=AE m w) hw).1 (Int.le_refl _)
 omega
theorem Hn(n w:Int):n / w≤AE n w:=by unfold AE;split<;>omega
def Cf(a b:Spn)(q:Int):Spn:=⟨a.high-AE ((a.high-b.high)*(q-a.low)) (b.low-a.low),a.high-(a.high-b.high)*(q-a.low) / (b.low-a.low)⟩
theorem Ho{a b:Spn}{q:Int}(h1:a.low<b.low)(h2:b.high≤a.high)(h3:a.low≤q)(h4:q≤b.low):
 b.high≤(Cf a b q).low∧(Cf a b q).low≤(Cf a b q).high∧(Cf a b q).high≤a.high:=by
 unfold Cf
 have hn:0≤(a.high-b.high)*(q-a.low):=Int.mul_nonneg (by omega) (by omega)
 have hm:(a.high-b.high)*(q-a.low)≤(a.high-b.high)*(b.low-a.low):=Int.mul_le_mul_of_nonneg_left (by omega) (by omega)
 have c1:=(K4 (n:=(a.high-b.high)*(q-a.low)) (w:=b.low-a.low) (k:=a.high-b.high) (by omega)).2 hm
 have c2:=Hn ((a.high-b.high)*(q-a.low)) (b.low-a.low)
 have c3:=Int.ediv_nonneg hn (b:=b.low-a.low) (by omega)
 simp only
 omega
theorem QQ{a b:Spn}{q p:Int}(h1:a.low<b.low)(h2:b.high≤a.high)(h3:q≤p):
 (Cf a b p).low≤(Cf a b q).low∧(Cf a b p).high≤(Cf a b q).high:=by
 unfold Cf
 have hm:(a.high-b.high)*(q-a.low)≤(a.high-b.high)*(p-a.low):=Int.mul_le_mul_of_nonneg_left (by omega) (by omega)
 have c1:=QP (w:=b.low-a.low) (by omega) hm
 have c2:=Int.ediv_le_ediv (c:=b.low-a.low) (by omega) hm
 simp only
 omega
theorem MA{a b:Spn}(h1:a.low<b.low):Cf a b b.low=⟨b.high,b.high⟩:=by
 have e:(a.high-b.high)*(b.low-a.low) / (b.low-a.low)=a.high-b.high:=Int.mul_ediv_cancel _ (by omega)
 have e2:(a.high-b.high)*(b.low-a.low) % (b.low-a.low)=0:=Int.mul_emod_left _ _
 unfold Cf AE
 rw[e,e2,if_neg (by omega)]
 congr 1<;>omega
theorem N5(a b:Spn):Cf a b a.low=⟨a.high,a.high⟩:=by
 unfold Cf AE
 rw[Int.sub_self,Int.mul_zero,Int.zero_ediv,Int.zero_emod,if_neg (by omega)]
 congr 1<;>omega
def xd:Spn→List Spn→Prop
 | _,[]=>True
 | a,b::r=>a.low<b.low∧b.high≤a.high∧0≤b.high∧xd b r
def DE:Spn→List Spn→Int→Spn
 | a,[],_=>⟨a.high,a.high⟩
 | a,b::r,q=>if q≤b.low then Cf a b q else DE b r q
def Ut:Spn→List Spn→Int→Spn
 | a,[],_=>⟨a.high,a.high⟩
 | a,b::r,q=>if q<b.low then Cf a b q else Ut b r q
theorem K5:∀(r:List Spn) (a:Spn) (q:Int),xd a r→Ut a r q=DE a r q
 | [],_,_,_=>rfl
 | [b],a,q,h=>by
   obtain⟨h1,h2,h3,h4⟩:=h
   unfold Ut DE
   by_cases c:q<b.low
   · rw[if_pos c,if_pos (by omega)]
   · rw[if_neg c]
     by_cases d:q=b.low
     · subst d;rw[if_pos (by omega),MA h1];rfl
     · rw[if_neg (by omega)];rfl
 | b::b'::r,a,q,h=>by
   obtain⟨h1,h2,h3,h4⟩:=h
   have ih:=K5 (b'::r) b q h4
   rw[Ut,DE]
   by_cases c:q<b.low
   · rw[if_pos c,if_pos (by omega)]
   · rw[if_neg c,ih]
     by_cases d:q=b.low
     · subst d
       rw[if_pos (by omega),MA h1]
       obtain⟨g1,g2,g3,g4⟩:=h4
       rw[DE,if_pos (by omega),N5]
     · rw[if_neg (by omega)]
theorem MB:∀(r:List Spn) (a:Spn) (q:Int),xd a r→0≤a.high→a.low≤q→0≤(DE a r q).low∧(DE a r q).low≤(DE a r q).high∧(DE a r q).high≤a.high
 | [],a,q,_,h0,_=>by unfold DE;simp only;omega
 | b::r,a,q,h,h0,hq=>by
   obtain⟨h1,h2,h3,h4⟩:=h
   unfold DE
   by_cases c:q≤b.low
   · rw[if_pos c]
     have:=Ho h1 h2 hq c
     omega
   · rw[if_neg c]
     have:=MB r b q h4 h3 (by omega)
     omega
theorem MC:∀(r:List Spn) (a:Spn) (q p:Int),xd a r→0≤a.high→a.low≤q→q≤p→(DE a r p).low≤(DE a r q).low∧(DE a r p).high≤(DE a r q).high
 | [],a,q,p,_,h0,_,_=>by unfold DE;simp only;omega
 | b::r,a,q,p,h,h0,hq,hp=>by
   obtain⟨h1,h2,h3,h4⟩:=h
   unfold DE
   by_cases c:p≤b.low
   · rw[if_pos c,if_pos (by omega)]
     exact QQ h1 h2 hp
   · rw[if_neg c]
     have g1:=MB r b p h4 h3 (by omega)
     by_cases d:q≤b.low
     · rw[if_pos d]
       have:=Ho h1 h2 hq d
       omega
     · rw[if_neg d]
       exact MC r b q p h4 h3 (by omega) hp
def fQ(l:List Spn)(q:Int):Spn:=match l with
 | []=>⟨0,0⟩
 | a::r=>if q≤a.low then⟨a.high,a.high⟩else DE a r q
def o7:List Spn→Prop
 | []=>False
 | a::r=>0≤a.high∧xd a r
theorem MD{l:List Spn}(h:o7 l)(q:Int):0≤(fQ l q).low∧(fQ l q).low≤(fQ l q).high∧(fQ l q).high≤(nth l 0).high:=by
 cases l with
 | nil=>exact h.elim
 | cons a r=>
   obtain⟨h0,h1⟩:=h
   rw[show nth (a::r) 0=a from rfl]
   unfold fQ
   simp only
   split
   · simp only;omega
   · exact MB r a q h1 h0 (by omega)
theorem Gl{l:List Spn}(h:o7 l){q p:Int}(hq:q≤p):(fQ l p).low≤(fQ l q).low∧(fQ l p).high≤(fQ l q).high:=by
 cases l with
 | nil=>exact h.elim
 | cons a r=>
   obtain⟨h0,h1⟩:=h
   unfold fQ
   simp only
   by_cases c:p≤a.low
   · rw[if_pos c,if_pos (by omega)];exact⟨Int.le_refl _,Int.le_refl _⟩
   · rw[if_neg c]
     by_cases d:q≤a.low
     · rw[if_pos d]
       have:=MB r a p h1 h0 (by omega)
       simp only;omega
     · rw[if_neg d];exact MC r a q p h1 h0 (by omega) hq
def ahf(x:Spn):Spn:=⟨-x.high, -x.low⟩
def jP(f:Fan)(b:Bool)(q:Int):Spn:=if b=true then ahf (fQ f.cur (-q))else fQ f.cur q
def mz(f:Fan)(st:Int)(q:Int):Spn:=
 if st=1 then jP f f.back q else if st=2 then jP f (!f.back) q
 else if st= -1 then⟨min (min 0 (jP f false q).low) (jP f true q).low,max (max 0 (jP f false q).high) (jP f true q).high⟩else⟨0,0⟩
structure Fan.ok(n:Nat)(f:Fan):Prop where
 r0:0≤f.cL
 r1:f.cL<n
 ln:f.cur.length≤8
 cu:o7 f.cur
 fl:∀p∈f.cur, -1048576≤p.low∧p.low≤1048576
 pr:∀p∈f.cur,0≤p.high∧p.high≤1000000
theorem rG{n:Nat}{f:Fan}(h:f.ok n)(b:Bool)(q:Int): -1000000≤(jP f b q).low∧(jP f b q).low≤(jP f b q).high∧(jP f b q).high≤1000000:=by
 have hp:(nth f.cur 0).high≤1000000:=by
  have c:=h.cu
  have p:=h.pr
  cases hc:f.cur with
  | nil=>rw[hc]at c;exact c.elim
  | cons a r=>rw[hc]at p;exact(p a (by simp)).2
 unfold jP ahf
 have h1:=MD h.cu q
 have h2:=MD h.cu (-q)
 split<;>(try simp only)<;>omega
theorem wV{n:Nat}{f:Fan}(h:f.ok n)(b:Bool){q p:Int}(hq:q≤p):(jP f b p).low≤(jP f b q).low∧(jP f b p).high≤(jP f b q).high:=by
 unfold jP ahf
 have h1:=Gl h.cu hq
 have h2:=Gl h.cu (q:= -p) (p:= -q) (by omega)
 split<;>(try simp only)<;>omega
theorem Hp{n:Nat}{f:Fan}(h:f.ok n)(st q:Int): -1000000≤(mz f st q).low∧(mz f st q).low≤(mz f st q).high∧(mz f st q).high≤1000000:=by
 have a:=rG h f.back q
 have b:=rG h (!f.back) q
 have c:=rG h false q
 have d:=rG h true q
 unfold mz
 split
 · exact a
 split
 · exact b
 split<;>(try simp only)<;>omega
theorem QR{n:Nat}{f:Fan}(h:f.ok n)(st:Int){q p:Int}(hq:q≤p):(mz f st p).low≤(mz f st q).low∧(mz f st p).high≤(mz f st q).high:=by
 have a:=wV h f.back hq
 have b:=wV h (!f.back) hq
 have c:=wV h false hq
 have d:=wV h true hq
 unfold mz
 split
 · exact a
 split
 · exact b
 split<;>(try simp only)<;>omega
theorem Uu{n:Nat}{f:Fan}(h:f.ok n){st:Int}(h0:0≤st)(h2:st≤2)(q:Int):(mz f (-1) q).low≤(mz f st q).low∧(mz f st q).high≤(mz f (-1) q).high:=by
 have c:=rG h false q
 have d:=rG h true q
 unfold mz
 rw[if_neg (c:=(-1:Int)=1) (by omega),if_neg (c:=(-1:Int)=2) (by omega),if_pos rfl]
 split
 · cases f.back<;>simp only<;>omega
 split
 · cases f.back<;>simp only[Bool.not_true,Bool.not_false]<;>omega
 split<;>(try simp only)<;>omega
end Go.Ev
namespace Go.Ev
open Go
variable [Lib] [cr] [bZ]
structure wW where
 fan:Fan
 st:Int
instance : Dat wW := ⟨⟨⟨0, false, false, []⟩, 0⟩⟩
abbrev wW.e(b:wW):T:= .agg [tI b.fan.cL,.bool b.fan.back,.bool b.fan.aux,tS b.fan.cur,tI b.st]
structure kP where
 cL:Road
 num:Int
 fans:List wW
instance : Dat kP := ⟨⟨⟨0, 0, 0, 0, false, false, 0, 0, 0, 0⟩, 0, []⟩⟩
abbrev kP.e(p:kP):T:= .agg [tI p.cL.frm,tI p.cL.to,tI p.cL.len,tI p.cL.area,.bool p.cL.walk,.bool p.cL.closed,tI p.cL.restL,tI p.cL.restH,tI p.cL.liftL,tI p.cL.liftH,tI p.num,.sl (p.fans.map wW.e)]
def wX(l:List wW)(q:Int):Nat→Spn
 | 0=>⟨0,0⟩
 | j+1=>⟨(wX l q j).low+(mz (nth l j).fan (nth l j).st q).low,(wX l q j).high+(mz (nth l j).fan (nth l j).st q).high⟩
structure kP.ok(n r:Nat)(p:kP):Prop where
 f0:0≤p.cL.frm
 f1:p.cL.frm<n
 t0:0≤p.cL.to
 t1:p.cL.to<n
 ne:p.cL.frm≠p.cL.to
 n0:0≤p.num
 n1:p.num<r
 r0:1≤p.cL.restL
 r1:p.cL.restL≤p.cL.restH
 r2:p.cL.restH≤2097152
 i0: -2199023255552≤p.cL.liftL
 i1:p.cL.liftL≤p.cL.liftH
 i2:p.cL.liftH≤2199023255552
 fl:p.fans.length≤8
 fo:∀b∈p.fans,b.fan.ok r∧ -1≤b.st∧b.st≤2
theorem QS{n r:Nat}{p:kP}(h:p.ok n r){j:Nat}(hj:j<p.fans.length):(nth p.fans j).fan.ok r∧ -1≤(nth p.fans j).st∧(nth p.fans j).st≤2:=h.fo _ (ak hj)
theorem QT{n r:Nat}{p:kP}(h:p.ok n r)(q:Int):∀j,j≤p.fans.length→ -(1000000*(j:Int))≤(wX p.fans q j).low∧(wX p.fans q j).low≤(wX p.fans q j).high∧(wX p.fans q j).high≤1000000*(j:Int)
 | 0,_=>by unfold wX;simp only;omega
 | j+1,hj=>by
   have ih:=QT h q j (by omega)
   have:=Hp (QS h (j:=j) (by omega)).1 (nth p.fans j).st q
   unfold wX
   simp only
   omega
theorem Jh{n r:Nat}{p:kP}(h:p.ok n r){q q':Int}(hq:q≤q'):∀j,j≤p.fans.length→(wX p.fans q' j).low≤(wX p.fans q j).low∧(wX p.fans q' j).high≤(wX p.fans q j).high
 | 0,_=>⟨Int.le_refl _,Int.le_refl _⟩
 | j+1,hj=>by
   have ih:=Jh h hq j (by omega)
   have:=QR (QS h (j:=j) (by omega)).1 (nth p.fans j).st hq
   unfold wX
   simp only
   omega
def qI(rl rh q:Int):Spn:=if q<0 then⟨-rh*(q*q), -rl*(q*q)⟩else⟨rl*(q*q),rh*(q*q)⟩
def qz(p:kP)(q:Int):Spn:=
 ⟨(qI p.cL.restL p.cL.restH q).low-p.cL.liftH-(wX p.fans q p.fans.length).high,(qI p.cL.restL p.cL.restH q).high-p.cL.liftL-(wX p.fans q p.fans.length).low⟩
theorem ahg{a b:Int}(ha:0≤a)(h:a<b):a*a<b*b:=by
 have h1:a*a≤a*b:=Int.mul_le_mul_of_nonneg_left (by omega) ha
 have h2:a*b<b*b:=Int.mul_lt_mul_of_pos_right h (by omega)
 omega
theorem QU{rl rh q p:Int}(h1:1≤rl)(h2:rl≤rh)(h:q<p):(qI rl rh q).low<(qI rl rh p).low∧(qI rl rh q).high<(qI rl rh p).high:=by
 unfold qI
 have q0:0≤q*q:=by
  rcases Int.le_total 0 q with c | c
  · exact Int.mul_nonneg c c
  · have:=Int.mul_nonneg (a:= -q) (b:= -q) (by omega) (by omega)
    rwa [Int.neg_mul_neg]at this
 have p0:0≤p*p:=by
  rcases Int.le_total 0 p with c | c
  · exact Int.mul_nonneg c c
  · have:=Int.mul_nonneg (a:= -p) (b:= -p) (by omega) (by omega)
    rwa [Int.neg_mul_neg]at this
 have lq:=Int.mul_nonneg (a:=rl) (by omega) q0
 have hq:=Int.mul_nonneg (a:=rh) (by omega) q0
 have lp:=Int.mul_nonneg (a:=rl) (by omega) p0
 have hp:=Int.mul_nonneg (a:=rh) (by omega) p0
 by_cases c:p<0
 · rw[if_pos (by omega),if_pos c]
   have s:(-p)*(-p)<(-q)*(-q):=ahg (by omega) (by omega)
   rw[Int.neg_mul_neg,Int.neg_mul_neg]at s
   have s1:=Int.mul_lt_mul_of_pos_left s (c:=rl) (by omega)
   have s2:=Int.mul_lt_mul_of_pos_left s (c:=rh) (by omega)
   simp only[Int.neg_mul]
   omega
 · rw[if_neg c]
   by_cases d:q<0
   · rw[if_pos d]
     have s:0<(-q)*(-q):=Int.mul_pos (by omega) (by omega)
     rw[Int.neg_mul_neg]at s
     have s1:=Int.mul_pos (a:=rl) (by omega) s
     have s2:=Int.mul_pos (a:=rh) (by omega) s
     simp only[Int.neg_mul]
     omega
   · rw[if_neg d]
     have s:q*q<p*p:=ahg (by omega) (by omega)
     have s1:=Int.mul_lt_mul_of_pos_left s (c:=rl) (by omega)
     have s2:=Int.mul_lt_mul_of_pos_left s (c:=rh) (by omega)
     simp only
     omega
theorem zf{n r:Nat}{p:kP}(h:p.ok n r){q q':Int}(hq:q<q'):(qz p q).low<(qz p q').low∧(qz p q).high<(qz p q').high:=by
 have a:=QU h.r0 h.r1 hq
 have b:=Jh h (Int.le_of_lt hq) p.fans.length (aLs _)
 unfold qz
 simp only
 omega
def Uv(p:kP)(d r:Int):Prop:= -1048577≤r∧r≤1048576∧(r= -1048577∨(qz p r).high≤d)
def ME(p:kP)(d r:Int):Prop:= -1048576≤r∧r≤1048577∧(r=1048577∨d≤(qz p r).low)
def Uw(p:kP)(t q:Int):Prop:= -1048576≤q∧q≤1048576∧(qz p q).low≤t∧t≤(qz p q).high
theorem QV{n m:Nat}{p:kP}(h:p.ok n m){d r t q:Int}(hr:Uv p d r)(hq:Uw p t q):(d≤t→r≤q)∧(d<t→r<q):=by
 obtain⟨a,b,c⟩:=hr
 obtain⟨e,f,g,i⟩:=hq
 constructor
 · intro hd
   rcases c with c | c
   · omega
   · rcases (show q<r∨r≤q by omega)with x | x
     · have:=(zf h x).2;omega
     · exact x
 · intro hd
   rcases c with c | c
   · omega
   · rcases Int.lt_trichotomy q r with x | x | x
     · have:=(zf h x).2;omega
     · subst x;omega
     · exact x
theorem K6{n m:Nat}{p:kP}(h:p.ok n m){d r t q:Int}(hr:ME p d r)(hq:Uw p t q):(t≤d→q≤r)∧(t<d→q<r):=by
 obtain⟨a,b,c⟩:=hr
 obtain⟨e,f,g,i⟩:=hq
 constructor
 · intro hd
   rcases c with c | c
   · omega
   · rcases (show r<q∨q≤r by omega)with x | x
     · have:=(zf h x).1;omega
     · exact x
 · intro hd
   rcases c with c | c
   · omega
   · rcases Int.lt_trichotomy r q with x | x | x
     · have:=(zf h x).1;omega
     · subst x;omega
     · exact x
def eL(f:Nat→Int):Nat→Int
 | 0=>0
 | n+1=>eL f n+f n
theorem MF{f g:Nat→Int}:∀n,(∀j,j<n→f j≤g j)→eL f n≤eL g n
 | 0,_=>Int.le_refl _
 | n+1,h=>by
   have:=MF n fun j hj=>h j (by omega)
   have:=h n (by omega)
   simp only[eL];omega
theorem MG{f g:Nat→Int}{k:Nat}(hs:f k<g k):∀n,k<n→(∀j,j<n→f j≤g j)→eL f n<eL g n
 | 0,hk,_=>by omega
 | n+1,hk,h=>by
   simp only[eL]
   by_cases c:k=n
   · subst c
     have:=MF k fun j hj=>h j (by omega)
     omega
   · have:=MG hs n (by omega) fun j hj=>h j (by omega)
     have:=h n (by omega)
     omega
theorem o8{f g:Nat→Int}:∀n,(∀j,j<n→f j=g j)→eL f n=eL g n
 | 0,_=>rfl
 | n+1,h=>by simp only[eL];rw[o8 n fun j hj=>h j (by omega),h n (by omega)]
theorem Ws(f:Nat→Int):∀n,0<n→∃i,i<n∧∀j,j<n→f j≤f i
 | 0,h=>by omega
 | 1,_=>by
   refine⟨0,by omega,fun j hj=>?_⟩
   obtain rfl:j=0:=by omega
   exact Int.le_refl _
 | n+2,_=>by
   obtain⟨i,hi,h⟩:=Ws f (n+1) (by omega)
   by_cases c:f i≤f (n+1)
   · refine⟨n+1,by omega,fun j hj=>?_⟩
     by_cases d:j=n+1
     · subst d;exact Int.le_refl _
     · have:=h j (by omega);omega
   · refine⟨i,by omega,fun j hj=>?_⟩
     by_cases d:j=n+1
     · subst d;omega
     · exact h j (by omega)
def leaves(a:List Nat)(out:Nat→Bool)(fo fi:Nat→Int):Int:=eL (fun j=>if out (nth a j)then fo (nth a j)else -fi (nth a j)) a.length
theorem Wt{np:Nat}{at_:Nat→List Nat}{fr to:Nat→Nat}{surf:Nat→Bool}{x y:Nat→Int}{q:Nat→Int}{lo hi_:Nat→Int}
 (h1:∀i,i<np→∀k∈at_ i,(fr k=i∨to k=i)∧fr k≠to k∧fr k<np∧to k<np)
 (tl:∀i,i<np→∀k∈at_ i,(y (fr k)-y (to k)≤x (fr k)-x (to k)→lo k≤q k)∧(y (fr k)-y (to k)<x (fr k)-x (to k)→lo k<q k))
 (th:∀i,i<np→∀k∈at_ i,(x (fr k)-x (to k)≤y (fr k)-y (to k)→q k≤hi_ k)∧(x (fr k)-x (to k)<y (fr k)-y (to k)→q k<hi_ k))
 (bal:∀i,i<np→surf i=false→leaves (at_ i) (fun k=>decide (fr k=i)) q q=0)
 (low:∀i,i<np→surf i=false→0≤leaves (at_ i) (fun k=>decide (fr k=i)) lo hi_)
 (s0:∀i,i<np→surf i=true→x i=0∧y i=0)
 (adj:∀i,i<np→surf i=false→∃j,j<(at_ i).length∧surf (if fr (nth (at_ i) j)=i then to (nth (at_ i) j)else fr (nth (at_ i) j))=true):
 ∀i,i<np→x i≤y i:=by
 intro i0 hi0
 obtain⟨i,hi,hm⟩:=Ws (fun i=>x i-y i) np (by omega)
 have hm0:=hm i0 hi0
 by_cases c:x i-y i≤0
 · omega
 · exfalso
   have hs:surf i=false:=by
    cases e:surf i with
    | false=>rfl
    | true=>have:=s0 i hi e;omega
   have b:=bal i hi hs
   have l:=low i hi hs
   obtain⟨j,hj,hq⟩:=adj i hi hs
   have key:∀k∈at_ i,(if fr k=i then lo k else -hi_ k)≤(if fr k=i then q k else -q k):=by
    intro k hk
    obtain⟨a1,a2,a3,a4⟩:=h1 i hi k hk
    have u1:=(tl i hi k hk).1
    have u2:=(th i hi k hk).1
    have v1:=hm _ a3
    have v2:=hm _ a4
    by_cases d:fr k=i
    · rw[if_pos d,if_pos d];rw[d]at u1 v1;exact u1 (by omega)
    · rw[if_neg d,if_neg d]
      have e:to k=i:=by omega
      rw[e]at u2 v2
      have:=u2 (by omega)
      omega
   have str:leaves (at_ i) (fun k=>decide (fr k=i)) lo hi_<leaves (at_ i) (fun k=>decide (fr k=i)) q q:=by
    unfold leaves
    refine MG (k:=j) ?_ _ hj fun j hj=>?_
    · simp only[decide_eq_true_eq]
      have hk:nth (at_ i) j∈at_ i:=ak hj
      generalize nth (at_ i) j=k at*
      obtain⟨a1,a2,a3,a4⟩:=h1 i hi k hk
      have u1:=(tl i hi k hk).2
      have u2:=(th i hi k hk).2
      by_cases d:fr k=i
      · rw[if_pos d]at hq
        rw[if_pos d,if_pos d]
        have:=s0 _ a4 hq
        rw[d]at u1
        exact u1 (by omega)
      · rw[if_neg d]at hq
        rw[if_neg d,if_neg d]
        have:=s0 _ a3 hq
        have e:to k=i:=by omega
        rw[e]at u2
        have:=u2 (by omega)
        omega
    · simp only[decide_eq_true_eq]
      exact key _ (ak hj)
   omega
@[go_sem] theorem anA (H : af) (a b : List T) : Ge H 1 [.t (.sl a), .t (.sl b), .nil] = some (.t (.sl [.sl a, .sl b, .sl []]), H) := by
 simp only[Ge,List.all_cons,List.all_nil,D.cells,T.cells,List.map_cons,List.map_nil,List.length_cons,List.length_nil,cK,frz,depth,gu,List.flatMap_cons,List.flatMap_nil,pins]
 rfl
def Ux(c:Bool):Option Bool→Option Bool
 | some d=>some (c&&d)
 | none=>none
@[go_sem] theorem adt (c d : Bool) : Ux c (some d) = some (c && d) := (rfl)
@[go_sem] theorem adu : qm [] [] = some true := (rfl)
@[go_sem] theorem ZE (k : IntKind) (a b : Int) (xs ys : List T) : qm (.int k a :: xs) (.int k b :: ys) = Ux (decide (a = b)) (qm xs ys) := by
 simp only[qm,if_true,afv]
 cases qm xs ys<;>rfl
def Uy(H:af)(neg:Bool):Option Bool→Option (D×af)
 | some r=>some (.t (.bool (bif neg then !r else r)),H)
 | none=>none
@[go_sem] theorem adv (H : af) (r : Bool) : Uy H true (some r) = some (.t (.bool (!r)), H) := (rfl)
@[go_sem] theorem ZF (H : af) (r : Bool) : Uy H false (some r) = some (.t (.bool r), H) := (rfl)
@[go_sem] theorem ZG (H : af) (n : Nat) (neg : Bool) (xs ys : List T) : xc H (.ints n) neg (some (.t (.agg xs))) (some (.t (.agg ys))) = if xs.length = n then Uy H neg (qm xs ys) else none := by
 simp only[xc,aLq,VL,eqD]
 by_cases h:xs.length=n
 · simp only[if_pos h]
   cases qm xs ys with
   | none=>rfl
   | some r=>cases neg<;>rfl
 · simp only[if_neg h];rfl
@[go_sem] theorem adw : ((2 : Nat) : Int) = 2 := (rfl)
@[go_sem] theorem Wu : ((3 : Nat) : Int) = 3 := (rfl)
def Ji(n:Nat)(p:Nat→Bool):Nat:=((List.range n).find? p).getD 0
theorem QW{gc:Bool}{dead:List Nat}{c:C}{vs:List D}{H:af}(s:Nat→St)(n:Nat)(p:Nat→Bool)(e:Nat→Ex×St)(eN:Ex×St)
 (h0:(⟨jg dead vs,H⟩:St)=s 0)
 (hs:∀j,j<n→p j=false→om gc dead (s j).H.length (exS bL c (s j))=some (s (j+1)))
 (he:∀j,j<n→p j=true→exS bL c (s j)=some (e j)∧(e j).1≠ .normal)
 (hN:exS bL c (s n)=some eN) (hn:eN.1≠ .normal):
 exS bL (.loop gc dead c) ⟨vs,H⟩=some (if(List.range n).any p=true then e (Ji n p)else eN):=by
 rw[Gi s n p e eN h0 hs he hN hn,←Up]
 unfold Ji
 cases hf:(List.range n).find? p with
 | none=>simp
 | some k=>simp
theorem ZH{α:Type} [Dat α](l:List α)(p:α→Bool):((List.range l.length).any fun j=>p (nth l j))=l.any p:=by
 rw[Bool.eq_iff_iff,List.any_eq_true,List.any_eq_true]
 constructor
 · rintro ⟨j,hj,hp⟩
   exact⟨_,ak (aLu.1 hj),hp⟩
 · rintro ⟨x,hx,hp⟩
   obtain⟨j,hj,rfl⟩:=List.getElem_of_mem hx
   exact⟨j,aLu.2 hj,by rw[qo (aLc hj)];exact hp⟩
theorem QX(n:Nat)(p:Nat→Bool):(List.range n).all p= !((List.range n).any fun j=> !p j):=by
 rw[List.all_eq_not_any_not]
end Go.Ev
namespace Go.Ev
open Go
section
variable (H : af) (sz id ep n lo hi : Nat) (i j : Int) (fz : Bool)
def scO(r:D):Option Obj→Option (D×af)
 | some (.arr sz' _ ep' es)=>if ep=ep'∧n=es.length then(if sz'=sz then some (r,H)else none)else none
 | _=>none
@[go_sem] theorem anB (r : D) (sz' : Nat) (pin : Bool) (es : List D) : scO H sz ep n r (some (.arr sz' pin ep es)) = if n = es.length then (if sz' = sz then some (r, H) else none) else none := by simp [scO]
theorem scR{l h:Nat}:((fV H id ep n).bind fun a=>if l≤h∧h≤n∧a.1=sz then some (D.sub id ep n l h)else none).map (fun d=>(d,H))=if l≤h then(if h≤n then scO H sz ep n (.sub id ep n l h) H[id]? else none)else none:=by
 simp only[fV]
 generalize H[id]?=o
 by_cases h1:l≤h
 · by_cases h2:h≤n
   · rw[if_pos h1,if_pos h2]
     rcases o with _ | (_ | ⟨sz',pin,ep',es⟩ | _)
     rotate_right
     · first | rfl | (cases he)
     · rfl
     · rfl
     · simp only[scO]
       by_cases h3:ep=ep'∧n=es.length
       · rw[if_pos h3,if_pos h3,aLq]
         by_cases h4:sz'=sz
         · rw[if_pos h4,if_pos ⟨h1,h2,h4⟩];rfl
         · rw[if_neg h4,if_neg fun h=>h4 h.2.2];rfl
       · rw[if_neg h3,if_neg h3];rfl
   · rw[if_pos h1,if_neg h2]
     rcases o with _ | (_ | ⟨sz',pin,ep',es⟩ | _)
     rotate_right
     · first | rfl | (cases he)
     · rfl
     · rfl
     · by_cases h3:ep=ep'∧n=es.length
       · simp only[if_pos h3,aLq];rw[if_neg fun h=>h2 h.2.1];rfl
       · simp only[if_neg h3];rfl
 · rw[if_neg h1]
   rcases o with _ | (_ | ⟨sz',pin,ep',es⟩ | _)
   rotate_right
   · first | rfl | (cases he)
   · rfl
   · rfl
   · by_cases h3:ep=ep'∧n=es.length
     · simp only[if_pos h3,aLq];rw[if_neg fun h=>h1 h.1];rfl
     · simp only[if_neg h3];rfl
@[go_sem] theorem ZI : I8 H sz (some (.ref id ep n)) (some none) (some (some i)) = if 0 ≤ i then (if i ≤ n then scO H sz ep n (.sub id ep n 0 i.toNat) H[id]? else none) else none := by
 simp only[I8,aLq,rB,bound,idx]
 by_cases h1:0≤i
 · rw[if_pos h1,if_pos h1,aLq,scR,if_pos (Nat.zero_le _)]
   by_cases h2:i≤n
   · rw[if_pos h2,if_pos (by omega)]
   · rw[if_neg h2,if_neg (by omega)]
 · rw[if_neg h1,if_neg h1];rfl
@[go_sem] theorem ZJ : I8 H sz (some (.ref id ep n)) (some (some i)) (some none) = if 0 ≤ i then (if i ≤ n then scO H sz ep n (.sub id ep n i.toNat n) H[id]? else none) else none := by
 simp only[I8,aLq,rB,bound,idx]
 by_cases h1:0≤i
 · rw[if_pos h1,if_pos h1,aLq,scR]
   by_cases h2:i≤n
   · rw[if_pos h2,if_pos (by omega),if_pos (by omega)]
   · rw[if_neg h2,if_neg (by omega)]
 · rw[if_neg h1,if_neg h1];rfl
@[go_sem] theorem Uz : I8 H sz (some (.ref id ep n)) (some (some i)) (some (some j)) = if 0 ≤ i then (if i ≤ j then (if j ≤ n then scO H sz ep n (.sub id ep n i.toNat j.toNat) H[id]? else none) else none) else none := by
 simp only[I8,aLq,rB,bound,idx]
 by_cases h1:0≤i
 · rw[if_pos h1,if_pos h1,aLq]
   by_cases h0:i≤j
   · rw[if_pos h0,if_pos (by omega),aLq,scR,if_pos (by omega)]
     by_cases h2:j≤n
     · rw[if_pos h2,if_pos (by omega)]
     · rw[if_neg h2,if_neg (by omega)]
   · rw[if_neg h0]
     by_cases h2:0≤j
     · rw[if_pos h2,aLq,scR,if_neg (by omega)]
     · rw[if_neg h2];rfl
 · rw[if_neg h1,if_neg h1];rfl
@[go_sem] theorem ZK : I8 H sz (some .nil) (some none) (some (some i)) = if i = 0 then some (.nil, H) else none := by
 simp only[I8,aLq,rB,bound,idx]
 by_cases h1:0≤i
 · rw[if_pos h1,aLq]
   by_cases h2:i=0
   · rw[if_pos h2,if_pos (by omega)];rfl
   · rw[if_neg h2,if_neg (by omega)];rfl
 · rw[if_neg h1,if_neg (by omega)];rfl
@[go_sem] theorem ZL : I8 H sz (some .nil) (some (some i)) (some none) = if i = 0 then some (.nil, H) else none := by
 simp only[I8,aLq,rB,bound,idx]
 by_cases h1:0≤i
 · rw[if_pos h1,aLq]
   by_cases h2:i=0
   · rw[if_pos h2,if_pos (by omega)];rfl
   · rw[if_neg h2,if_neg (by omega)];rfl
 · rw[if_neg h1,if_neg (by omega)];rfl
def K7(x:D)(ys:List D):Option (D×af):=if cD sz ys=true then(match x with
 | .nil=>if ys.length≤4294967296 then some (.ref H.length 0 ys.length,H++[.arr sz false 0 ys])else none
 | .ref id ep n=>Bz H sz id ep n ys H[id]?
 | .cl es=>if 0<ys.length∧es.length+ys.length≤lim∧cD sz (es.map .t)=true then some (.ref H.length 0 (es.map D.t++ys).length,H++[.arr sz false 0 (es.map .t++ys)])else none
 | .q id ep es=>(match ys with
   | [.t y]=>if y.scalar=true∧sz=1∧ER H id ep=true∧es.length+1≤lim then some (.q id (ep+1) (es++[y]),H.set id (.own (ep+1)))else none
   | _=>none)
 | _=>none)else none
@[go_sem] theorem akz (ys : List D) : K7 H sz .nil ys = if cD sz ys = true then (if ys.length ≤ 4294967296 then some (.ref H.length 0 ys.length, H ++ [.arr sz false 0 ys]) else none) else none := (rfl)
@[go_sem] theorem akA (ys : List D) : K7 H sz (.ref id ep n) ys = if cD sz ys = true then Bz H sz id ep n ys H[id]? else none := (rfl)
@[go_sem] theorem anC (es : List T) (ys : List D) : K7 H sz (.cl es) ys = if cD sz ys = true then (if 0 < ys.length ∧ es.length + ys.length ≤ 4294967296 ∧ cD sz (es.map .t) = true then some (.ref H.length 0 (es.map D.t ++ ys).length, H ++ [.arr sz false 0 (es.map .t ++ ys)]) else none) else none := (rfl)
@[go_sem] theorem Wv : cD sz [] = true := (rfl)
@[go_sem] theorem UA (d : D) (r : List D) : cD sz (d :: r) = rW sz d.cells := by
 rw[Bool.eq_iff_iff,iI];simp[cD]
def ahh(x:D):Option Obj→Option (D×af)
 | some (.arr _ _ ep' es)=>if ep=ep'∧n=es.length then K7 H sz x ((es.drop lo).take (hi-lo))else none
 | _=>none
def ahi(x:D):Option Obj→Option (D×af)
 | some (.arr _ _ ep' es)=>if ep=ep'∧n=es.length then K7 H sz x es else none
 | _=>none
@[go_sem] theorem akB (x : D) (sz' : Nat) (pin : Bool) (es : List D) : ahh H sz ep n lo hi x (some (.arr sz' pin ep es)) = if n = es.length then K7 H sz x ((es.drop lo).take (hi - lo)) else none := by simp [ahh]
@[go_sem] theorem akC (x : D) (sz' : Nat) (pin : Bool) (es : List D) : ahi H sz ep n x (some (.arr sz' pin ep es)) = if n = es.length then K7 H sz x es else none := by simp [ahi]
theorem QY(x:D)(ys:List D):(if cD sz ys=true then(match x with
 | .nil=>if ys.length≤lim then some (D.ref H.length 0 ys.length,H++[.arr sz false 0 ys])else none
 | .ref id ep n=>(fV H id ep n).bind fun a=>if a.1=sz∧n+ys.length≤lim then some (.ref id ep (n+ys.length),H.set id (.arr sz a.2.1 ep (a.2.2++ys)))else none
 | .cl es=>if 0<ys.length∧es.length+ys.length≤lim∧cD sz (es.map .t)=true then some (.ref H.length 0 (es.map D.t++ys).length,H++[.arr sz false 0 (es.map .t++ys)])else none
 | .q id ep es=>(match ys with
   | [.t y]=>if y.scalar=true∧sz=1∧ER H id ep=true∧es.length+1≤lim then some (.q id (ep+1) (es++[y]),H.set id (.own (ep+1)))else none
   | _=>none)
 | _=>none)else none)=K7 H sz x ys:=by
 unfold K7
 split
 · cases x with
   | ref id ep n=>
     simp only[fV]
     generalize H[id]?=o
     rcases o with _ | (_ | ⟨sz',pin,ep',es⟩ | _)
     rotate_right
     · first | rfl | (cases he)
     · rfl
     · rfl
     · simp only[Bz]
       by_cases h1:ep=ep'∧n=es.length
       · rw[if_pos h1,aLq]
         by_cases h2:sz'=sz∧n+ys.length≤lim
         · rw[if_pos h2,if_pos ⟨h1.1,h1.2,h2⟩]
         · rw[if_neg h2,if_neg fun h=>h2 h.2.2]
       · rw[if_neg h1,if_neg fun h=>h1 ⟨h.1,h.2.1⟩];rfl
   | _=>rfl
 · rfl
theorem AF(x y:D)(ys:List D)(h:elems H y=some ys):rX H sz false (some x) (some y)=K7 H sz x ys:=by
 simp only[rX,aLq,pZ,h,aLt,if_false]
 exact QY H sz x ys
@[go_sem] theorem S2 (x : D) : rX H sz false (some x) (some .nil) = K7 H sz x [] := AF H sz x .nil [] rfl
@[go_sem] theorem S3 (x : D) : rX H sz false (some x) (some (.ref id ep n)) = ahi H sz ep n x H[id]? := by
 cases he:elems H (.ref id ep n)with
 | some ys=>
   rw[AF H sz x _ ys he]
   simp only[elems,fV]at he
   generalize H[id]?=o at he
   rcases o with _ | (_ | ⟨sz',pin,ep',es⟩ | _)
   rotate_right
   · first | rfl | (cases he)
   · cases he
   · cases he
   · simp only[ahi]
     by_cases h1:ep=ep'∧n=es.length
     · simp only[if_pos h1]at he ⊢;cases he;rfl
     · simp only[if_neg h1]at he;cases he
 | none=>
   have:rX H sz false (some x) (some (.ref id ep n))=none:=by simp only[rX,aLq,pZ,he];rfl
   rw[this]
   simp only[elems,fV]at he
   generalize H[id]?=o at he
   rcases o with _ | (_ | ⟨sz',pin,ep',es⟩ | _)
   rotate_right
   · first | rfl | (cases he)
   · rfl
   · rfl
   · simp only[ahi]
     by_cases h1:ep=ep'∧n=es.length
     · simp only[if_pos h1]at he;cases he
     · simp only[if_neg h1]
@[go_sem] theorem S4 (x : D) : rX H sz false (some x) (some (.sub id ep n lo hi)) = ahh H sz ep n lo hi x H[id]? := by
 cases he:elems H (.sub id ep n lo hi)with
 | some ys=>
   rw[AF H sz x _ ys he]
   simp only[elems,fV]at he
   generalize H[id]?=o at he
   rcases o with _ | (_ | ⟨sz',pin,ep',es⟩ | _)
   rotate_right
   · first | rfl | (cases he)
   · cases he
   · cases he
   · simp only[ahh]
     by_cases h1:ep=ep'∧n=es.length
     · simp only[if_pos h1]at he ⊢;cases he;rfl
     · simp only[if_neg h1]at he;cases he
 | none=>
   have:rX H sz false (some x) (some (.sub id ep n lo hi))=none:=by simp only[rX,aLq,pZ,he];rfl
   rw[this]
   simp only[elems,fV]at he
   generalize H[id]?=o at he
   rcases o with _ | (_ | ⟨sz',pin,ep',es⟩ | _)
   rotate_right
   · first | rfl | (cases he)
   · rfl
   · rfl
   · simp only[ahh]
     by_cases h1:ep=ep'∧n=es.length
     · simp only[if_pos h1]at he;cases he
     · simp only[if_neg h1]
def adx(ep n lo hi:Nat):Option Obj→Option (List D)
 | some (.arr _ _ ep' es)=>if ep=ep'∧n=es.length then some ((es.drop lo).take (hi-lo))else none
 | _=>none
def akD(x:D):Option (List D)→Option (D×af)
 | some ys0=>(cK (fun d=>(frz H depth d).map .t) ys0).bind fun ys=>if cD sz ys then K7 (pins H (ys0.flatMap (gu H depth))) sz x ys else none
 | none=>none
@[go_sem] theorem ao7 (x : D) (ts : List T) : akD H sz x (some (ts.map .t)) = K7 H sz x (ts.map .t) := by
 simp only[akD,wT,aLq,Mr,pins]
 by_cases h:cD sz (ts.map D.t)=true
 · rw[if_pos h]
 · rw[if_neg h];unfold K7;rw[if_neg h]
@[go_sem] theorem UB (x : D) : rX H sz true (some x) (some (.sub id ep n lo hi)) = akD H sz x (adx ep n lo hi H[id]?) := by
 have e:elems H (.sub id ep n lo hi)=adx ep n lo hi H[id]?:=by
  simp only[elems,fV]
  generalize H[id]?=o
  rcases o with _ | (_ | ⟨sz',pin,ep',es⟩ | _)
  rotate_right
  · first | rfl | (cases he)
  · rfl
  · rfl
  · simp only[adx]
    by_cases h1:ep=ep'∧n=es.length
    · simp only[if_pos h1];rfl
    · simp only[if_neg h1];rfl
 simp only[rX,aLq,pZ,e]
 cases adx ep n lo hi H[id]? with
 | none=>rfl
 | some ys0=>
   simp only[aLq,akD,if_true]
   cases hm:cK (fun d=>(frz H depth d).map D.t) ys0 with
   | none=>rfl
   | some ys=>
     simp only[aLq]
     refine(QY _ _ _ _).trans ?_
     by_cases h:cD sz ys=true
     · rw[if_pos h]
     · rw[if_neg h];unfold K7;rw[if_neg h]
@[go_sem] theorem akE (ep n lo hi sz : Nat) (pin : Bool) (ts : List T) : adx ep n lo hi (some (.arr sz pin ep (ts.map .t))) = if n = ts.length then some (((ts.drop lo).take (hi - lo)).map .t) else none := by
 simp only[adx,true_and,List.length_map,List.map_take,List.map_drop]
def K8(ds:List D):Option (D×af):=if ds.all (fun d=>d.cells.length==sz&&d.lO)then some (.ref H.length 0 ds.length,H++[.arr sz false 0 ds])else none
def ahj:D→Option (D×af)
 | .t y=>if y.scalar then some (.q H.length 0 [y],H++[.own 0])else none
 | _=>none
@[go_sem] theorem ao8 (call : aU) (get : X → Option D) (x : X) : evO call get H (.bsq x) = (get x).bind (ahj H) := by
 simp only[evO]
 congr 1
@[go_sem] theorem ahk (k : IntKind) (n : Int) : ahj H (.t (.int k n)) = some (.q H.length 0 [.int k n], H ++ [.own 0]) := (rfl)
@[go_sem] theorem ao9 (call : aU) (get : X → Option D) (xs : List X) : evO call get H (.bsr xs sz) = (cK get xs).bind (K8 H sz) := (rfl)
@[go_sem] theorem ahl : K8 H sz [] = some (.ref H.length 0 0, H ++ [.arr sz false 0 []]) := (rfl)
@[go_sem] theorem ahm (k : IntKind) (n : Int) : K8 H 1 [.t (.int k n)] = some (.ref H.length 0 1, H ++ [.arr 1 false 0 [.t (.int k n)]]) := (rfl)
@[go_sem] theorem ahn (cs : List D) : K8 H sz [.agg cs] = if rW sz cs = true then some (.ref H.length 0 1, H ++ [.arr sz false 0 [.agg cs]]) else none := by
 simp only[K8,List.all_cons,List.all_nil,Bool.and_true,D.cells,D.lO]
 by_cases h:rW sz cs=true
 · rw[if_pos h,if_pos (by simpa using iI.1 h)];rfl
 · rw[if_neg h,if_neg (by intro e;exact h (iI.2 (by simpa using e)))]
end
@[go_sem] theorem Ww : (1 : Int).toNat = 1 := (rfl)
@[go_sem] theorem ZM : (2 : Int).toNat = 2 := (rfl)
@[go_sem] theorem UC : (3 : Int).toNat = 3 := (rfl)
section
variable {H t : af} {i j k : Nat} {o o' : Obj}
theorem xr(h:i<H.length):(H++t)[i]?=H[i]?:=aLg h
theorem Gm(h:i<H.length):(H.set i o)[i]?=some o:=by simp[h]
theorem sJ(h:i≠j):(H.set i o)[j]?=H[j]?:=aLi h
theorem DF(h:H[i]?=some o):i<H.length:=(aLe.1 h).1
end
end Go.Ev
namespace Go.Ev.N
def QZ:Nat:=78
def Pb:Nat:=79
def N6:Nat:=80
def ZN:Nat:=81
def S5:Nat:=82
def ZO:Nat:=83
def ZP:Nat:=84
def ZQ:Nat:=85
def nE:Nat:=86
def jQ:Nat:=87
def kS:Nat:=88
def Wx:Nat:=89
def fC:Nat:=90
def ady:Nat:=91
def Wy:Nat:=92
def adz:Nat:=93
def aho:Nat:=94
def ahp:Nat:=95
def ZR:Nat:=96
def adA:Nat:=97
def ZS:Nat:=98
def ZT:Nat:=99
def kT:Nat:=100
def adB:Nat:=101
def ahq:Nat:=102
def bT:Nat:=103
def iJ:Nat:=104
def bX:Nat:=105
def Wz:Nat:=106
def adC:Nat:=107
def adD:Nat:=108
def ZU:Nat:=109
def gJ:Nat:=110
def lR:Nat:=111
def ZV:Nat:=112
def ZW:Nat:=113
def adE:Nat:=114
def jR:Nat:=115
def lS:Nat:=116
def lT:Nat:=117
def jS:Nat:=118
def jT:Nat:=119
def UD:Nat:=120
def UE:Nat:=121
def MH:Nat:=122
end Go.Ev.N
namespace Go.Ev.N
def Q0:Nat:=123
def Pc:Nat:=124
def S6:Nat:=125
def Q1:Nat:=126
def ZX:Nat:=127
def kU:Nat:=128
def ZY:Nat:=129
def adF:Nat:=130
def adG:Nat:=131
def ZZ:Nat:=132
def Z0:Nat:=133
def UF:Nat:=134
def UG:Nat:=135
def nF:Nat:=136
def Z1:Nat:=137
def UH:Nat:=138
def WA:Nat:=139
def S7:Nat:=140
def WB:Nat:=141
def UI:Nat:=142
def Q2:Nat:=143
def Q3:Nat:=144
def eB:Nat:=145
def jU:Nat:=146
def jV:Nat:=147
def dM:Nat:=148
end Go.Ev.N
namespace Go.Ev.N
def MI:Nat:=149
def Q4:Nat:=150
def Q5:Nat:=151
def Pd:Nat:=152
def Z2:Nat:=153
def dI:Nat:=154
def bP:Nat:=155
def WC:Nat:=156
def Z3:Nat:=157
def adH:Nat:=158
def gS:Nat:=159
def br:Nat:=160
def cF:Nat:=161
def Z4:Nat:=162
def adI:Nat:=163
def WD:Nat:=164
def adJ:Nat:=165
def WE:Nat:=166
def cN:Nat:=167
def ay:Nat:=168
def cQ:Nat:=169
def eC:Nat:=170
def bC:Nat:=171
def UJ:Nat:=172
def jF:Nat:=173
def aN:Nat:=174
def Q6:Nat:=175
def ct:Nat:=176
def gT:Nat:=177
end Go.Ev.N
namespace Go.Ev.K
open Go.Ev
def qJ:C:= (.its [u (.bin .lss v11 v10)] [] 0 .skip (.exit 1) (.seq (.blk 2 (q [a 1 v9 v11,g l0,x 8 l0] [] (.reg [m v7,m v8,m v3,a 1 l2 l1,u (.st l0 l1 1 [])] []))) (.reg [u (.bin .add v11 (.i 1)),x 11 l0] [])))
def xt:C:= .loop true [0,2,6,8] K.qJ
def dI:Fn:= { aq:=4,vars:=[0,1,2,3,4,8,9,10,12,38,39,40],body:=(q [w 4 (.bx v0 2),w 5 (.al [z0,.nil] []),x 6 (.i 0)] [] (.seq (.blk 0 (.ite [h 2 v4,m v1,u (.ca N.gS 0 [] [.l 1,.l 0]),u (.un .not l0),m l0] [] 0 (q [u (.bd [z0,.nil] []),u (.st v5 l0 2 []),x 6 (.i 6)] [] .ret) (.ite [m v2,f 0 v4,g l0,u (.ln l0),u (.bin .sub l0 (.i 1)),u (.ca N.bX 0 [] [.l 4,.i 0,.l 0]),u (.un .not l0),m l0] [] 0 (q [u (.bd [z0,.nil] []),u (.st v5 l0 2 []),x 6 (.i 3)] [] .ret) (.ite [m v3,u (.ca N.bD 0 [] [.l 0,.i 0,.i 2147483648]),u (.un .not l0),m l0] [] 0 (q [u (.bd [z0,.nil] []),u (.st v5 l0 2 []),x 6 (.i 8)] [] .ret) .skip)))) (q [u (.bs [.i 1099511627776] 1),f 0 v4,g l0,u (.ln l0),u (.ca N.br 1 [] [.l 3,.l 0]),x 7 l0] [] (.seq (q [x 9 v2,w 10 (.ln l0),x 11 (.i 0)] [] (.blk 1 K.xt)) (q [h 2 v4,m v1,m v7,u (.bd [.nil,.nil,.nil,.nil] [(0,2,.l 2),(2,1,.l 1),(3,1,.l 0)]),u (.ca N.cF 0 [0] [.l 0])] [] (q [m v3,m v7,u (.bd [z0,.nil] [(0,1,.l 1),(1,1,.l 0)]),u (.st v5 l0 2 []),x 6 (.i 0)] [] .ret)))))),res:=[(5,some (2,true)),(6,none)]}
def bP:Fn:= { aq:=4,vars:=[0,1,2,3,4,6,8,9,10,11,12],body:=(q [w 4 (.bx v0 2),w 5 (.bx v2 2),x 6 (.i 0)] [] (.seq (.ite [m v1,u (.bin .lss l0 (.i 0)),m l0,e 0 false v1,y 1 false (.fa v4 1),i 2 false l0,y 3 false (.ln l0),y 4 false (.bin .geq l3 l0),u (.pk l5 (.b true) l0),m l0,y 0 false (.fa v4 1),i 1 false l0,e 2 false v1,y 3 false (.ia l1 l0 10),y 4 false (.fa l0 5),i 5 false l0,u (.pk l6 (.b true) l0)] [] 0 (q [w 6 (.mv (.i (-1)))] [] .ret) .skip) (q [f 1 v4,g l0,m v1,a 10 l1 l0,h 10 l0,w 7 (.al [z0,z0,z0,z0,z1,z1,z0,z0,z0,z0] []),u (.st l0 l1 10 [])] [] (q [h 2 v5,w 8 (.al [z0,z0] []),u (.st l0 l1 2 [])] [] (.seq (.ite [m v3] [] 0 (.reg [f 1 v5,g l0,u (.un .neg l0),f 0 v5,g l0,u (.un .neg l0),u (.bd [z0,z0] [(0,1,.l 3),(1,1,.l 0)]),u (.st v8 l0 2 [])] []) .skip) (q [w 9 (.mv (.i (-1)))] [] (.seq (.ite [f 1 v8,g l0,f 3 v7,g l0,u (.bin .mul (.i (-500)) l0),u (.bin .gtr l3 l0)] [] 0 (.reg [f 2 v7,g l0,x 9 l0] []) .skip) (.seq (.ite [f 1 v8,g l0,u (.bin .gtr l0 (.i 0))] [] 0 (q [f 2 v7,g l0,f 3 v7,g l0,u (.bin .mul l2 l0),u (.bin .mul l0 (.i 1000)),f 1 v8,g l0,u (.bin .quo l2 l0),x 10 l0] [] (.ite [m v9,u (.bin .lss l0 (.i 0)),m l0,e 0 false v10,e 1 false v9,y 2 false (.bin .lss l1 l0),u (.pk l3 (.b true) l0)] [] 0 (.reg [m v10,x 9 l0] []) .skip)) .skip) (q [m v9,x 6 l0] [] .ret))))))))),res:=[(6,none)]}
def gS:Fn:= { aq:=2,vars:=[0,1,2,4],body:=(q [w 2 (.bx v0 2),x 3 (.b false)] [] (q [h 2 v2,u (.ca N.cN 0 [] [.l 0]),m l0,e 0 true v1,y 1 true (.ln l0),y 2 true (.fa v2 1),i 3 true l0,y 4 true (.ln l0),y 5 true (.bin .eql l3 l0),u (.pk l6 l0 (.b false)),m l0,e 0 true v1,y 1 true (.ca N.ay 0 [] [.l 0,.c (.fn N.cQ [])]),y 2 true (.un .not l0),u (.pk l3 l0 (.b false)),x 3 l0] [] .ret)),res:=[(3,none)]}
def du:C:= (.seq (.ite [m v6,m v5,u (.ln l0),u (.bin .lss l2 l0)] [] 0 .skip (.exit 0)) (.blk 1 (.reg [m v6,m v5,m v6,u (.sc l1 (some l0) none 1),m v5,m v6,u (.sc l1 none (some l0) 1),u (.cp l3 l0 1),u (.bin .add l7 l0),x 6 l0] [])))
def nG:C:= .loop true [0,1,2,3,4] K.du
def br:Fn:= { aq:=2,vars:=[0,1,4,5,6,7,8],body:=(q [w 2 (.mv (.c (.nil)))] [] (.seq (.ite [m v1,u (.bin .lss l0 (.i 0))] [] 0 .fail .skip) (q [m v0,u (.ln l0),u (.cv .u64 l0),m v1,u (.cv .u64 l0),u (.ca N.eC 0 [] [.l 2,.l 0]),m l0,u (.ex l0 0),u (.ex l1 1),x 3 l1,x 4 l1] [] (.seq (.ite [m v3,u (.bin .gtr l0 (.c (.t (.int .u64 (0))))),m l0,e 0 false v4,y 1 false (.bin .gtr l0 (.c (.t (.int .u64 (9223372036854775807))))),u (.pk l2 (.b true) l0)] [] 0 .fail .skip) (q [m v4,u (.cv .i64 l0),u (.mk l0 (z0) 1),x 5 l0] [] (q [m v5,m v0,u (.cp l1 l0 1),x 6 l0] [] (.seq (.blk 0 K.nG) (q [m v5,x 2 l0] [] .ret)))))))),res:=[(2,none)]}
def ic:C:= (.its [u (.bin .lss v9 v8)] [] 0 .skip (.exit 2) (.seq (.blk 3 (q [m v9,a 10 v7 v9,h 10 l0,w 4 (.al [z0,z0,z0,z0,z1,z1,z0,z0,z0,z0] []),x 3 l3,u (.st l1 l2 10 [])] [] (q [h 4 v1,m v3,f 0 v4,g l0,f 1 v4,g l0,u (.ca N.bC 0 [0] [.l 5,.l 4,.l 2,.l 0,.b false]),x 5 l0] [] (q [h 4 v1,m v3,f 1 v4,g l0,f 0 v4,g l0,u (.ca N.bC 0 [0] [.l 5,.l 4,.l 2,.l 0,.b true]),x 6 l0] [] (.reg [m v2,m l0,e 0 false v5,u (.pk l1 (.b true) l0),m l0,e 0 false v6,u (.pk l1 (.b true) l0),x 2 l0] []))))) (.reg [u (.bin .add v9 (.i 1)),x 9 l0] [])))
def pG:C:= .loop true [0,3,4,5,6] K.ic
def ie:C:= (.seq (.ite [m v2] [] 0 .skip (.exit 0)) (.blk 1 (q [x 2 (.b false)] [] (q [f 0 v1,f 1 l0,w 7 (.ld l0 1 false),w 8 (.ln l0),x 9 (.i 0)] [] (.blk 2 K.pG)))))
def pH:C:= .loop true [0,3,4,5,6,7,8,9] K.ie
def cF:Fn:= { aq:=1,vars:=[0,1,2,3,4,5,6,10,11,12],body:=(q [w 1 (.bx v0 4)] [] (q [x 2 (.b true)] [] (.blk 0 K.pH))),res:=[]}
def cN:Fn:= { aq:=1,vars:=[0,1,2],body:=(q [w 1 (.bx v0 2),x 2 (.b false)] [] (q [h 2 v1,u (.ca N.jF 0 [] [.l 0]),u (.bin .eql l0 (.i 0)),x 2 l0] [] .ret)),res:=[(2,none)]}
def ay:Fn:= { aq:=2,vars:=[0,1,4],body:=(q [x 2 (.b false)] [] (q [m v0,m v1,u (.ca N.aN 0 [] [.l 1,.l 0]),u (.bin .geq l0 (.i 0)),x 2 l0] [] .ret)),res:=[(2,none)]}
def cQ:Fn:= { aq:=1,vars:=[0,1,2],body:=(q [w 1 (.bx v0 2),x 2 (.b false)] [] (q [f 0 v1,g l0,u (.bin .lss l0 (.i (-1125899906842624))),m l0,y 0 false (.fa v1 1),i 1 false l0,y 2 false (.bin .gtr l0 (.i 1125899906842624)),u (.pk l3 (.b true) l0),m l0,y 0 false (.fa v1 0),i 1 false l0,y 2 false (.fa v1 1),i 3 false l0,y 4 false (.bin .gtr l2 l0),u (.pk l5 (.b true) l0),x 2 l0] [] .ret)),res:=[(2,none)]}
def eC:Fn:= { aq:=2,vars:=[0,1,4,5,8,9],body:=(q [w 2 (.mv (.c (.t (.int .u64 (0))))),w 3 (.mv (.c (.t (.int .u64 (0)))))] [] (.seq (.cnd false .skip) (q [m v0,m v1,u (.ca N.ct 0 [] [.l 1,.l 0]),m l0,u (.ex l0 0),u (.ex l1 1),x 4 l1,x 5 l1] [] (q [m v4,m v5,x 2 l1,x 3 l1] [] .ret)))),res:=[(2,none),(3,none)]}
def bC:Fn:= { aq:=5,vars:=[0,1,2,3,4,5,10,11],body:=(q [w 5 (.bx v0 4),x 6 (.b false)] [] (q [f 0 v5,h 2 l0,m v1,f 2 v5,g l0,m v1,a 2 l1 l0,h 2 l0,m v4,u (.ca N.bP 0 [] [.l 7,.l 6,.l 1,.l 0]),x 7 l0] [] (.seq (.ite [m v7,u (.bin .lss l0 (.i 0)),m l0,y 0 false (.fa v5 3),i 1 false l0,e 2 false v2,y 3 false (.ia l1 l0 1),i 4 false l0,y 5 false (.bin .gtr l0 (.i 2147483648)),u (.pk l6 (.b true) l0),m l0,y 0 false (.fa v5 3),i 1 false l0,e 2 false v2,y 3 false (.ia l1 l0 1),i 4 false l0,e 5 false v7,y 6 false (.bin .add l1 l0),y 7 false (.bin .gtr l0 (.i 2147483648)),u (.pk l8 (.b true) l0),m l0,y 0 false (.fa v5 3),i 1 false l0,e 2 false v2,y 3 false (.ia l1 l0 1),i 4 false l0,e 5 false v7,y 6 false (.bin .add l1 l0),y 7 false (.fa v5 3),i 8 false l0,e 9 false v3,y 10 false (.ia l1 l0 1),i 11 false l0,y 12 false (.bin .geq l5 l0),u (.pk (.l 13) (.b true) l0)] [] 0 (q [x 6 (.b false)] [] .ret) .skip) (q [f 3 v5,g l0,m v3,f 3 v5,g l0,m v2,a 1 l1 l0,g l0,m v7,u (.bin .add l1 l0),a 1 l8 l7,u (.st l0 l1 1 [])] [] (q [x 6 (.b true)] [] .ret))))),res:=[(6,none)]}
end Go.Ev.K
namespace Go.Ev
class dJ [Lib]:Prop where
 tO:Lib.fs N.dI=some K.dI
 rY:Lib.fs N.bP=some K.bP
 tP:Lib.fs N.gS=some K.gS
 j9:Lib.fs N.br=some K.br
 mA:Lib.fs N.cF=some K.cF
 vI:Lib.fs N.cN=some K.cN
 cV:Lib.fs N.ay=some K.ay
 qL:Lib.fs N.cQ=some K.cQ
 qM:Lib.fs N.eC=some K.eC
 m9:Lib.fs N.bC=some K.bC
namespace K
variable [Lib] [dJ]
theorem tO:Lib.fs N.dI=some K.dI:=dJ.tO
theorem rY:Lib.fs N.bP=some K.bP:=dJ.rY
theorem tP:Lib.fs N.gS=some K.gS:=dJ.tP
theorem j9:Lib.fs N.br=some K.br:=dJ.j9
theorem mA:Lib.fs N.cF=some K.cF:=dJ.mA
theorem vI:Lib.fs N.cN=some K.cN:=dJ.vI
theorem cV:Lib.fs N.ay=some K.ay:=dJ.cV
theorem qL:Lib.fs N.cQ=some K.cQ:=dJ.qL
theorem qM:Lib.fs N.eC=some K.eC:=dJ.qM
theorem m9:Lib.fs N.bC=some K.bC:=dJ.m9
end K
end Go.Ev
namespace Go.Ev.K
open Go.Ev
def rZ:C:= (.its [u (.bin .lss v8 v7)] [] 0 .skip (.exit 0) (.seq (.blk 1 (q [a 2 v6 v8,h 2 l0,w 3 (.al [z0,z1] []),u (.st l0 l1 2 [])] [] (.ite [f 0 v3,g l0,u (.bin .lss l0 (.i (-10000))),m l0,y 0 false (.fa v3 0),i 1 false l0,y 2 false (.bin .gtr l0 (.i 10000)),u (.pk l3 (.b true) l0)] [] 0 (q [x 2 (.i 1)] [] .ret) .skip))) (.reg [u (.bin .add v8 (.i 1)),x 8 l0] [])))
def zg:C:= .loop true [0,2,3,4,5,9,10,11] K.rZ
def r5:C:= (.its [u (.bin .lss v11 v10)] [] 0 .skip (.exit 2) (.seq (.blk 3 (q [a 10 v9 v11,h 10 l0,w 5 (.al [z0,z0,z0,z0,z1,z1,z0,z0,z0,z0] []),u (.st l0 l1 10 [])] [] (.seq (.ite [f 0 v5,g l0,u (.bin .lss l0 (.i 0)),m l0,y 0 false (.fa v5 0),i 1 false l0,e 2 false v4,y 3 false (.bin .geq l1 l0),u (.pk l4 (.b true) l0),m l0,y 0 false (.fa v5 1),i 1 false l0,y 2 false (.bin .lss l0 (.i 0)),u (.pk l3 (.b true) l0),m l0,y 0 false (.fa v5 1),i 1 false l0,e 2 false v4,y 3 false (.bin .geq l1 l0),u (.pk l4 (.b true) l0),m l0,y 0 false (.fa v5 0),i 1 false l0,y 2 false (.fa v5 1),i 3 false l0,y 4 false (.bin .eql l2 l0),u (.pk l5 (.b true) l0)] [] 0 (q [x 2 (.i 4)] [] .ret) .skip) (.seq (.ite [f 2 v5,g l0,u (.bin .lss l0 (.i 1)),m l0,y 0 false (.fa v5 2),i 1 false l0,y 2 false (.bin .gtr l0 (.i 100000)),u (.pk l3 (.b true) l0),m l0,y 0 false (.fa v5 3),i 1 false l0,y 2 false (.bin .lss l0 (.i 1)),u (.pk l3 (.b true) l0),m l0,y 0 false (.fa v5 3),i 1 false l0,y 2 false (.bin .gtr l0 (.i 1000)),u (.pk l3 (.b true) l0)] [] 0 (q [x 2 (.i 1)] [] .ret) .skip) (.ite [f 6 v5,h 2 l0,u (.ca N.gT 0 [] [.l 0,.i 1,.i 262144]),u (.un .not l0),m l0,y 0 false (.fa v5 8),y 1 false (.ld l0 2 true),y 2 false (.ca N.gT 0 [] [.l 0,.i (-2199023255552),.i 2199023255552]),y 3 false (.un .not l0),u (.pk l4 (.b true) l0)] [] 0 (q [x 2 (.i 1)] [] .ret) .skip))))) (.reg [u (.bin .add v11 (.i 1)),x 11 l0] [])))
def zh:C:= .loop true [0,1,2,3,5,6,7,8] K.r5
def jF:Fn:= { aq:=1,vars:=[0,1,2,4,5,7,19,20,21,38,39,40],body:=(q [w 1 (.bx v0 2),x 2 (.i 0)] [] (.seq (.ite [f 0 v1,g l0,u (.ln l0),u (.bin .gtr l0 (.i 64)),m l0,y 0 false (.fa v1 1),i 1 false l0,y 2 false (.ln l0),y 3 false (.bin .gtr l0 (.i 128)),u (.pk l4 (.b true) l0)] [] 0 (q [x 2 (.i 2)] [] .ret) .skip) (.seq (q [f 0 v1,w 6 (.ld l0 1 false),w 7 (.ln l0),x 8 (.i 0)] [] (.blk 0 K.zg)) (q [f 0 v1,g l0,u (.ln l0),x 4 l0] [] (.seq (q [f 1 v1,w 9 (.ld l0 1 false),w 10 (.ln l0),x 11 (.i 0)] [] (.blk 2 K.zh)) (q [x 2 (.i 0)] [] .ret)))))),res:=[(2,none)]}
def b9:C:= (.its [u (.bin .lss v5 v4)] [] 0 .skip (.exit 0) (.seq (.blk 1 (q [m v5,x 3 l0] [] (.ite [m v1,m v0,m v3,a 2 l1 l0,h 2 l0,u (.cw l4 0 [] [.l 0])] [] 0 (q [m v3,x 2 l0] [] .ret) .skip))) (.reg [u (.bin .add v5 (.i 1)),x 5 l0] [])))
def gj:C:= .loop true [2,3] K.b9
def aN:Fn:= { aq:=2,vars:=[0,1,4,5,7,8],body:=(q [x 2 (.i 0)] [] (.seq (q [m v0,w 4 (.ln l0),x 5 (.i 0)] [] (.blk 0 K.gj)) (q [w 2 (.mv (.i (-1)))] [] .ret))),res:=[(2,none)]}
def ct:Fn:= { aq:=2,vars:=[0,1,4,5,6,7,8,9,10,11,12,13],body:=(q [w 2 (.mv (.c (.t (.int .u64 (0))))),w 3 (.mv (.c (.t (.int .u64 (0)))))] [] (q [m v0,u (.bin .and l0 (.c (.t (.int .u64 (4294967295))))),x 4 l0] [] (q [m v0,u (.bin .shr l0 (.c (.t (.int .u64 (32))))),x 5 l0] [] (q [m v1,u (.bin .and l0 (.c (.t (.int .u64 (4294967295))))),x 6 l0] [] (q [m v1,u (.bin .shr l0 (.c (.t (.int .u64 (32))))),x 7 l0] [] (q [m v4,m v6,u (.bin .mul l1 l0),x 8 l0] [] (q [m v5,m v6,u (.bin .mul l1 l0),m v8,u (.bin .shr l0 (.c (.t (.int .u64 (32))))),u (.bin .add l2 l0),x 9 l0] [] (q [m v9,u (.bin .and l0 (.c (.t (.int .u64 (4294967295))))),x 10 l0] [] (q [m v9,u (.bin .shr l0 (.c (.t (.int .u64 (32))))),x 11 l0] [] (q [m v10,m v4,m v7,u (.bin .mul l1 l0),u (.bin .add l3 l0),x 10 l0] [] (q [m v5,m v7,u (.bin .mul l1 l0),m v11,u (.bin .add l1 l0),m v10,u (.bin .shr l0 (.c (.t (.int .u64 (32))))),u (.bin .add l2 l0),x 2 l0] [] (q [m v0,m v1,u (.bin .mul l1 l0),x 3 l0] [] .ret)))))))))))),res:=[(2,none),(3,none)]}
def gT:Fn:= { aq:=3,vars:=[0,1,2,3,6],body:=(q [w 3 (.bx v0 2),x 4 (.b false)] [] (q [m v1,f 0 v3,g l0,u (.bin .leq l2 l0),m l0,y 0 true (.fa v3 0),i 1 true l0,y 2 true (.fa v3 1),i 3 true l0,y 4 true (.bin .leq l2 l0),u (.pk l5 l0 (.b false)),m l0,y 0 true (.fa v3 1),i 1 true l0,e 2 true v2,y 3 true (.bin .leq l1 l0),u (.pk l4 l0 (.b false)),x 4 l0] [] .ret)),res:=[(4,none)]}
end Go.Ev.K
namespace Go.Ev
class dV [Lib]:Prop where
 vJ:Lib.fs N.jF=some K.jF
 dv:Lib.fs N.aN=some K.aN
 lU:Lib.fs N.ct=some K.ct
 tQ:Lib.fs N.gT=some K.gT
namespace K
variable [Lib] [dV]
theorem vJ:Lib.fs N.jF=some K.jF:=dV.vJ
theorem dv:Lib.fs N.aN=some K.aN:=dV.dv
theorem lU:Lib.fs N.ct=some K.ct:=dV.lU
theorem tQ:Lib.fs N.gT=some K.gT:=dV.tQ
end K
end Go.Ev
namespace Go.Ev
open Go
variable [Lib] [cr] [bZ] [dJ] [dV]
section
variable (H : af) (sz : Nat)
def WG(id ep n lo hi:Nat)(ys:List D):Option Obj→Option (D×af)
 | some (.arr sz' pin ep' es)=>if ep=ep'∧n=es.length then Xw H id ep (sz',pin,es) lo hi ys sz else none
 | _=>none
def cpD(x:D)(ys:List D):Option (D×af):=if cD sz ys=true then(match x with
 | .ref id ep n=>WG H sz id ep n 0 n ys H[id]?
 | .sub id ep n lo hi=>WG H sz id ep n lo hi ys H[id]?
 | _=>none)else none
def akF(x y:Option D):Option (D×af):=x.bind fun a=>y.bind fun b=>ES H a b sz
@[go_sem] theorem ap6 (call : aU) (get : X → Option D) (x y : X) : evO call get H (.cp x y sz) = akF H sz (get x) (get y) := (rfl)
theorem MJ(x y:D)(ys:List D)(h:elems H y=some ys):ES H x y sz=cpD H sz x ys:=by
 unfold ES cpD
 rw[h,aLq]
 split
 · rename_i hh
   cases x with
   | ref id ep n=>
     simp only[fV,WG]
     cases H[id]? with
     | none=>rfl
     | some o=>
       cases o with
       | box cs=>rfl
       | own ep=>rfl
       | arr sz' pin ep' es=>
         simp only
         by_cases c:ep=ep'∧n=es.length
         · rw[if_pos c,if_pos c];rfl
         · rw[if_neg c,if_neg c];rfl
   | sub id ep n lo hi=>
     simp only[fV,WG]
     cases H[id]? with
     | none=>rfl
     | some o=>
       cases o with
       | box cs=>rfl
       | own ep=>rfl
       | arr sz' pin ep' es=>
         simp only
         by_cases c:ep=ep'∧n=es.length
         · rw[if_pos c,if_pos c];rfl
         · rw[if_neg c,if_neg c];rfl
   | _=>rfl
 · rfl
@[go_sem] theorem apa (x : D) (ts : List T) : akF H sz (some x) (some (.t (.sl ts))) = cpD H sz x (ts.map .t) := MJ H sz x (.t (.sl ts)) (ts.map .t) rfl
def cpE(x:D)(ep n lo hi:Nat):Option Obj→Option (D×af)
 | some (.arr _ _ ep' es)=>if ep=ep'∧n=es.length then cpD H sz x ((es.drop lo).take (hi-lo))else none
 | _=>none
@[go_sem] theorem anD (x : D) (n lo hi sz' : Nat) (pin : Bool) (ep : Nat) (es : List D) : cpE H sz x ep n lo hi (some (.arr sz' pin ep es)) = if n = es.length then cpD H sz x ((es.drop lo).take (hi - lo)) else none := by simp [cpE]
@[go_sem] theorem akG (x : D) (id ep n lo hi : Nat) : akF H sz (some x) (some (.sub id ep n lo hi)) = cpE H sz x ep n lo hi H[id]? := by
 unfold akF
 simp only[aLq]
 cases h:H[id]? with
 | none=>simp[ES,elems,fV,h,cpE]
 | some o=>
   cases o with
   | box cs=>simp[ES,elems,fV,h,cpE]
   | own ep=>simp[ES,elems,fV,h,cpE]
   | arr sz' pin ep' es=>
     by_cases c:ep=ep'∧n=es.length
     · rw[MJ H sz x _ ((es.drop lo).take (hi-lo)) (by simp[elems,fV,h,c])]
       simp only[cpE,if_pos c]
     · simp[ES,elems,fV,h,cpE,c]
@[go_sem] theorem anE (id ep n : Nat) (ys : List D) : cpD H sz (.ref id ep n) ys = if cD sz ys = true then WG H sz id ep n 0 n ys H[id]? else none := (rfl)
@[go_sem] theorem anF (id ep n lo hi : Nat) (ys : List D) : cpD H sz (.sub id ep n lo hi) ys = if cD sz ys = true then WG H sz id ep n lo hi ys H[id]? else none := (rfl)
@[go_sem] theorem akH (id n lo hi : Nat) (ys : List D) (ep : Nat) (es : List D) : WG H sz id ep n lo hi ys (some (.arr sz false ep es)) =
 if n=es.length then(if min ys.length (hi-lo)=0 then some (.t (.int .i64 0),H)else some (.t (.int .i64 ((min ys.length (hi-lo):Nat):Int)),H.set id (.arr sz false ep (es.take lo++ys.take (min ys.length (hi-lo))++es.drop (lo+min ys.length (hi-lo))))))else none:=by
 simp[WG,Xw]
end
theorem Jj{n:Int}(h1:0≤n)(h2:n<18446744073709551616):IntKind.u64.wrap n=n:=by
 have e:IntKind.u64.wrap n=n % 18446744073709551616:=by simp[IntKind.wrap,IntKind.signed,IntKind.bits]
 rw[e];omega
theorem Z5{n:Nat}(h:n<4294967296):IntKind.u64.wrap ((BitVec.ofInt IntKind.u64.bits (n:Int) &&& BitVec.ofInt IntKind.u64.bits 4294967295).toNat:Nat)=(n:Int):=by
 have e:(BitVec.ofInt IntKind.u64.bits (n:Int) &&& BitVec.ofInt IntKind.u64.bits 4294967295).toNat=n:=by
  rw[BitVec.toNat_and]
  have a:(BitVec.ofInt IntKind.u64.bits (n:Int)).toNat=n:=by
   rw[BitVec.ofInt_natCast,BitVec.toNat_ofNat]
   exact Nat.mod_eq_of_lt (Nat.lt_of_lt_of_le h (by decide))
  have b:(BitVec.ofInt IntKind.u64.bits 4294967295).toNat=2 ^ 32-1:=by decide
  rw[a,b,Nat.and_two_pow_sub_one_eq_mod]
  exact Nat.mod_eq_of_lt h
 rw[e]
 exact Jj (by omega) (by omega)
theorem UK{n:Nat}(h:n<4294967296):(n:Int).fdiv (2 ^ min (32:Int).toNat IntKind.u64.bits)=0:=by
 have e:(2 ^ min (32:Int).toNat IntKind.u64.bits:Int)=4294967296:=by decide
 rw[e,Int.fdiv_eq_ediv_of_nonneg _ (by omega)]
 omega
theorem MK{n:Nat}(h:n<4294967296):(((BitVec.ofInt IntKind.u64.bits (n:Int) &&& BitVec.ofInt IntKind.u64.bits 4294967295).toNat:Nat):Int)=(n:Int):=by
 have e:=Z5 h
 rwa [Jj (by omega) (by
  have:(BitVec.ofInt IntKind.u64.bits (n:Int) &&& BitVec.ofInt IntKind.u64.bits 4294967295).toNat<2 ^ IntKind.u64.bits:=BitVec.isLt _
  have:2 ^ IntKind.u64.bits=18446744073709551616:=by decide
  omega)]at e
theorem UL(a b:Nat)(ha:a<4294967296)(hb:b<4294967296)(h:a*b<4294967296):bL 0 N.ct [.t (.int .u64 a),.t (.int .u64 b)] []=some (.tup [.t (.int .u64 0),.t (.int .u64 ((a*b:Nat):Int))],[]):=by
 refine aI K.lU rfl ?_
 have m:(a:Int)*(b:Int)=((a*b:Nat):Int):=(Int.natCast_mul a b).symm
 have z:=Z5 (n:=0) (by omega)
 have z2:=UK (n:=0) (by omega)
 have z3:=MK (n:=0) (by omega)
 have g3:=fun(n:Nat) (h:n<4294967296)=>MK (n:=n) h
 have g4:=fun(n:Nat) (h:n<4294967296)=>UK (n:=n) h
 simp only[Int.ofNat_zero,Int.natCast_zero]at z z2 z3
 simp only[go_sem]at z2 z3 g3 g4
 simp(disch:=omega)only[go_sem,K.ct,↓reduceIte,g3,g4,m,z2,z3,Jj,Int.zero_mul,Int.mul_zero,Int.add_zero,Int.zero_add,reduceAdd,reduceSub]
theorem ahr(a b:Nat)(ha:a<4294967296)(hb:b<4294967296)(h:a*b<4294967296):bL 0 N.eC [.t (.int .u64 a),.t (.int .u64 b)] []=some (.tup [.t (.int .u64 0),.t (.int .u64 ((a*b:Nat):Int))],[]):=by
 refine aI K.qM rfl ?_
 have m:=UL a b ha hb h
 simp(disch:=omega)only[go_sem,K.eC,↓reduceIte,m,reduceAdd,reduceSub]
def CS(v:Int)(n cur:Nat):List D:=List.replicate cur (I v)++List.replicate (n-cur) (I 0)
theorem ML(v:Int){n cur:Nat}(h:cur≤n):(CS v n cur).length=n:=by simp[CS];omega
theorem Q7(v:Int){n cur m:Nat}(h:cur+m≤n)(hm:m≤cur):(CS v n cur).take cur++((CS v n cur).take cur).take m++(CS v n cur).drop (cur+m)=CS v n (cur+m):=by
 unfold CS
 have e1:(List.replicate cur (I v)++List.replicate (n-cur) (I 0)).take cur=List.replicate cur (I v):=by
  rw[List.take_append_of_le_length (by simp),List.take_of_length_le (by simp)]
 have e2:(List.replicate cur (I v)++List.replicate (n-cur) (I 0)).drop (cur+m)=List.replicate (n-(cur+m)) (I 0):=by
  rw[List.drop_append,List.length_replicate]
  simp;omega
 rw[e1,e2,List.take_replicate,Nat.min_eq_left hm,List.replicate_append_replicate]
theorem ahs(v:Int)(n cur:Nat):∃ts:List T,CS v n cur=ts.map .t:=⟨List.replicate cur (tI v)++List.replicate (n-cur) (tI 0),by simp[CS]⟩
theorem Jk(v:Int)(n cur:Nat)(lo k:Nat):cD 1 (((CS v n cur).drop lo).take k)=true:=by
 cases h:((CS v n cur).drop lo).take k with
 | nil=>rfl
 | cons d r=>
   have hm:d∈CS v n cur:=List.mem_of_mem_drop (List.mem_of_mem_take (h▸List.mem_cons_self))
   unfold CS at hm
   simp only[List.mem_append,List.mem_replicate]at hm
   rcases hm with⟨-,rfl⟩ | ⟨-,rfl⟩<;>rfl
theorem K9(v:Int)(n:Nat)(hn:n≤1000000):∀(k cur:Nat),n-cur≤k→1≤cur→cur≤n→
 tK true [0,1,2,3,4] (exS bL K.du) ⟨[.und,.und,.und,.und,.und,.ref 0 0 n,I cur],[.arr 1 false 0 (CS v n cur)]⟩=
  some (.exit 0,⟨[.und,.und,.und,.und,.und,.ref 0 0 n,I n],[.arr 1 false 0 (CS v n n)]⟩):=by
 intro k
 induction k with
 | zero=>
   intro cur h1 h2 h3
   have:cur=n:=by omega
   subst this
   refine nC ?_ (by simp)
   have rl:=ML v (aLs cur)
   simp(disch:=omega)only[go_sem,K.du,↓reduceIte,reduceAdd,reduceSub]
 | succ k ih=>
   intro cur h1 h2 h3
   by_cases c:cur=n
   · subst c
     refine nC ?_ (by simp)
     simp(disch:=omega)only[go_sem,K.du,↓reduceIte,reduceAdd,reduceSub]
   · have rl:=ML v (n:=n) (cur:=cur) (by omega)
     have st:=Q7 v (n:=n) (cur:=cur) (m:=min cur (n-cur)) (by omega) (by omega)
     have hs:=Jk v n cur 0 cur
     rw[List.drop_zero]at hs
     have tl:((CS v n cur).take cur).length=cur:=by rw[List.length_take];omega
     refine sH (st2:=⟨[.und,.und,.und,.und,.und,.ref 0 0 n,I ((cur+min cur (n-cur):Nat):Int)],[.arr 1 false 0 (CS v n (cur+min cur (n-cur)))]⟩) ?_ (ih _ (by omega) (by omega) (by omega))
     rw[← st]
     obtain⟨ts,hts⟩:=ahs v n cur
     have ao:∀a b c:Nat,eW 1 8 ((CS v n cur).take a)=true∧eW 1 8 (((CS v n cur).take a).take b)=true∧eW 1 8 ((CS v n cur).drop c)=true:=fun a b c=>by
      rw[hts,←List.map_take,←List.map_take,←List.map_drop]
      simp only[go_sem,and_self]
     have ao1:=fun a=>(ao a 0 0).1
     have ao2:=fun a b=>(ao a b 0).2.1
     have ao3:=fun c=>(ao 0 0 c).2.2
     clear ao hts
     generalize CS v n cur=es at*
     simp(disch:=omega)only[go_sem,K.du,↓reduceIte,rl,hs,tl,ao1,ao2,ao3,and_self,List.drop_zero,Nat.sub_zero,reduceAdd,reduceSub]
theorem Q8(v:Int)(n:Nat)(h1:1≤n)(hn:n≤1000000):bL 1 N.br [.t (tL [v]),I n] []=some (.ref 0 0 n,[.arr 1 false 0 (List.replicate n (I v))]):=by
 refine aI K.j9 rfl ?_
 have m:=ahr 1 n (by omega) (by omega) (by omega)
 rw[Nat.one_mul]at m
 change bL 0 N.eC [.t (.int .u64 1),.t (.int .u64 n)] []=_ at m
 have w1:IntKind.u64.wrap 1=1:=by decide
 have w2:IntKind.u64.wrap (n:Int)=n:=Jj (by omega) (by omega)
 have w3:IntKind.i64.wrap (n:Int)=n:=oo (by omega) (by omega)
 have lp:=K9 v n hn n 1 (by omega) (by omega) h1
 have loop:∀z0 z1 z2 z3 z4:D,exS bL K.nG ⟨[z0,z1,z2,z3,z4,.ref 0 0 n,I 1],[.arr 1 false 0 (I v::List.replicate (n-1) (I 0))]⟩=some (.exit 0,⟨[.und,.und,.und,.und,.und,.ref 0 0 n,I n],[.arr 1 false 0 (List.replicate n (I v))]⟩):=by
  intro z0 z1 z2 z3 z4
  have e1:CS v n 1=I v::List.replicate (n-1) (I 0):=rfl
  have e2:CS v n n=List.replicate n (I v):=by simp[CS]
  rw[e1,e2]at lp
  exact lp
 have dr:(List.replicate n (D.t (.int .i64 0))).drop 1=List.replicate (n-1) (I 0):=List.drop_replicate ..
 have mn:min 1 n=1:=by omega
 have ar:∀H:af,ve H 8 (List.replicate n (I v))=[]:=fun H=>by
  have e:List.replicate n (I v)=(List.replicate n (tI v)).map D.t:=by simp
  rw[e]
  unfold ve
  exact Mr ..
 simp(disch:=omega)only[go_sem,K.br,↓reduceIte,tL,List.map_cons,List.map_nil,m,w1,w2,w3,loop,dr,mn,ar,List.length_replicate,Nat.sub_zero,List.take_zero,List.nil_append,List.take_succ_cons,Nat.zero_add,reduceAdd,reduceSub]
end Go.Ev
namespace Go.Ev
open Go
variable [Lib] [cr] [bZ]
def Hq(l:List Int)(p q:Nat)(t:Int):Bool:=decide (0≤t∧nth l p+t<nth l q)
def EZ(l:List Int)(p q:Nat)(t:Int):List Int:=if Hq l p q t=true then l.set q (nth l p+t)else l
def pI(m:cC)(fl:List Spn)(k:Nat)(back:Bool)(l:List Int):List Int×Bool:=
 (EZ l ((nth m.roads k).src back).toNat ((nth m.roads k).dst back).toNat (eY (nth m.roads k) (nth fl k) back),Hq l ((nth m.roads k).src back).toNat ((nth m.roads k).dst back).toNat (eY (nth m.roads k) (nth fl k) back))
def DG(m:cC)(fl:List Spn)(k:Nat)(s:List Int×Bool):List Int×Bool:=
 let a:=pI m fl k false s.1
 let b:=pI m fl k true a.1
 (b.1,s.2||a.2||b.2)
def gU(m:cC)(fl:List Spn)(l:List Int):Nat→List Int×Bool
 | 0=>(l,false)
 | k+1=>DG m fl k (gU m fl l k)
def kV(m:cC)(fl:List Spn)(l:List Int):List Int×Bool:=gU m fl l m.roads.length
theorem Q9(l:List Int)(p q:Nat)(t:Int):(EZ l p q t).length=l.length:=by unfold EZ;split<;>simp
theorem sK(m:cC)(fl:List Spn)(k:Nat)(back:Bool)(l:List Int):(pI m fl k back l).1.length=l.length:=Q9 ..
theorem jk(m:cC)(fl:List Spn)(l:List Int):∀k,(gU m fl l k).1.length=l.length
 | 0=>rfl
 | k+1=>by simp only[gU,DG,sK,jk m fl l k]
theorem Ra{l:List Int}(h:bnd l){p q:Nat}(hp:p<l.length)(hq:q<l.length){t:Int}:bnd (EZ l p q t):=by
 unfold EZ
 split
 · rename_i hc
   simp only[Hq,decide_eq_true_eq]at hc
   have h1:=h _ (ak hp)
   have h2:=h _ (ak hq)
   exact QJ h (by omega) (by omega)
 · exact h
theorem Rb{l:List Int}(hb:bnd l){p q:Nat}(hp:p<l.length)(hq:q<l.length){t:Int}:
 (Hq l p q t=true→uC (EZ l p q t)<uC l)∧(Hq l p q t=false→EZ l p q t=l):=by
 unfold EZ
 constructor
 · intro hc
   rw[if_pos hc]
   simp only[Hq,decide_eq_true_eq]at hc
   have:=hb _ (ak hp)
   exact Hm hq (by omega) hc.2
 · intro hc;rw[if_neg (by simp[hc])]
section
variable {m : cC} (h : m.ok) {fl : List Spn}
include h
theorem wY{l:List Int}(hl:l.length=m.aa.length)(hb:bnd l){k:Nat}(hk:k<m.roads.length)(back:Bool):bnd (pI m fl k back l).1:=by
 have r1:=Road.uw (h.rs _ (ak hk)) back
 have r2:=Road.xq (h.rs _ (ak hk)) back
 exact Ra hb (by omega) (by omega)
theorem qN{l:List Int}(hl:l.length=m.aa.length)(hb:bnd l):∀k,k≤m.roads.length→bnd (gU m fl l k).1
 | 0,_=>hb
 | k+1,hk=>by
   simp only[gU,DG]
   exact wY h (by rw[sK,jk,hl]) (wY h (by rw[jk,hl]) (qN hl hb k (by omega)) (by omega) _) (by omega) _
theorem AG{l:List Int}(hl:l.length=m.aa.length)(hb:bnd l){k:Nat}(hk:k<m.roads.length)(back:Bool):
 ((pI m fl k back l).2=true→uC (pI m fl k back l).1<uC l)∧((pI m fl k back l).2=false→(pI m fl k back l).1=l):=by
 have r1:=Road.uw (h.rs _ (ak hk)) back
 have r2:=Road.xq (h.rs _ (ak hk)) back
 exact Rb hb (by omega) (by omega)
theorem tR{l:List Int}(hl:l.length=m.aa.length)(hb:bnd l):∀k,k≤m.roads.length→
 ((gU m fl l k).2=true→uC (gU m fl l k).1<uC l)∧((gU m fl l k).2=false→(gU m fl l k).1=l)
 | 0,_=>⟨fun h=>by simp[gU]at h,fun _=>rfl⟩
 | k+1,hk=>by
   obtain⟨i1,i2⟩:=tR hl hb k (by omega)
   have hb1:=qN h (fl:=fl) hl hb k (by omega)
   have hl1:(gU m fl l k).1.length=m.aa.length:=by rw[jk,hl]
   obtain⟨a1,a2⟩:=AG h (fl:=fl) hl1 hb1 (k:=k) (by omega) false
   have hb2:=wY h (fl:=fl) hl1 hb1 (k:=k) (by omega) false
   obtain⟨c1,c2⟩:=AG h (fl:=fl) (by rw[sK,hl1]) hb2 (k:=k) (by omega) true
   simp only[gU,DG]
   generalize gU m fl l k=s at*
   obtain⟨sl,sb⟩:=s
   simp only at*
   generalize pI m fl k false sl=a at*
   obtain⟨al,ab⟩:=a
   simp only at*
   generalize pI m fl k true al=b at*
   obtain⟨bl,bb⟩:=b
   simp only at*
   cases sb<;>cases ab<;>cases bb<;>simp_all<;>omega
end
def UM(l:List Int):Nat→List Int
 | 0=>l
 | j+1=>if 2147483648<nth (UM l j) j then(UM l j).set j 1099511627776 else UM l j
theorem Hr(l:List Int):∀j,(UM l j).length=l.length
 | 0=>rfl
 | j+1=>by
   have:=Hr l j
   simp only[UM];split<;>simp[this]
def qO(m:cC)(fl:List Spn)(l:List Int):List Int:=UM (jE (kV m fl) (uC l+1) l) m.aa.length
end Go.Ev
namespace Go.Ev
open Go
variable [Lib] [cr] [bZ]
def plS(t x:Int):Prop:=x=1099511627776∨(t≤x∧x≤2147483648)
instance (t x : Int) : Decidable (plS t x) := by unfold plS; infer_instance
def Rc(m:cC)(s:Wh):Bool:=(List.range s.frm.length).all (fun j=>decide (plS s.time (nth s.frm j)))&&decide (s.frm.length=m.aa.length∧inT s.time)
def yk(l:List Int)(t:Int)(n:Nat):List Int:=(List.range n).map fun(p:Nat)=>if(p:Int)∈l then t else 1099511627776
@[simp] theorem qP (l : List Int) (t : Int) (n : Nat) : (yk l t n).length = n := by simp [yk]
theorem zi(l:List Int){t:Int}(ht:inT t)(n:Nat):bnd (yk l t n):=by
 intro x hx
 simp only[yk,List.mem_map]at hx
 obtain⟨p, -,rfl⟩:=hx
 unfold inT at ht
 split<;>omega
def Gn(m:cC)(fl:List Spn)(l:List Int)(t:Int):Wh×Int:=
 if pE m fl=false then(⟨0,[]⟩,6)else if Pa l m.aa.length=false then(⟨0,[]⟩,3)else if ¬inT t then(⟨0,[]⟩,8)else
 (⟨t,qO m fl (yk l t m.aa.length)⟩,0)
def WH(m:cC)(fl:List Spn)(frm:List Int)(t:Int)(k:Nat)(back:Bool)(l:List Int):List Int:=
 if nth frm ((nth m.roads k).src back).toNat≤t∧0≤eY (nth m.roads k) (nth fl k) back then l.set ((nth m.roads k).dst back).toNat (min (nth l ((nth m.roads k).dst back).toNat) t)else l
def aht(m:cC)(fl:List Spn)(frm:List Int)(t:Int)(k:Nat)(l:List Int):List Int:=WH m fl frm t k true (WH m fl frm t k false l)
def chN(m:cC)(fl:List Spn)(frm:List Int)(t:Int):Nat→List Int
 | 0=>frm
 | k+1=>aht m fl frm t k (chN m fl frm t k)
def anG(t:Int)(l:List Int):Nat→List Int
 | 0=>l
 | k+1=>(anG t l k).set k (max (nth (anG t l k) k) t)
def Z6(m:cC)(old:List Spn)(next:cC)(fl:List Spn)(s:Wh)(t:Int):Wh×Int:=
 if Rc m s=false∨pE m old=false∨pE next fl=false∨next.aa.length≠m.aa.length then(s,6)else
 if t<s.time∨2147483648<t then(s,8)else(⟨t,qO next fl (anG t (chN m old s.frm t m.roads.length) m.aa.length)⟩,0)
end Go.Ev
namespace Go.Ev
open Go
variable [Lib] [cr] [bZ] [dJ] [dV]
theorem N7{m:cC}(h:m.ok)(k:Nat)(hk:k<m.roads.length)(f:Spn)(hf:f.ok)(back:Bool):
 bL 0 N.bP [.t m.e,I k,.t f.e,B back] []=some (I (eY (nth m.roads k) f back),[]):=by
 refine aI K.rY rfl ?_
 have nr:=h.nr
 have ok:=h.rs _ (ak hk)
 obtain⟨lo,hi⟩:=f
 unfold Spn.ok at hf
 unfold eY
 have g0:(m.roads.map Road.e)[k]?=some (nth m.roads k).e:=aQ _ hk
 generalize nth m.roads k=x at*
 have l0:=ok.l0;have l1:=ok.l1;have a0:=ok.a0;have a1:=ok.a1
 obtain⟨frm,to,len,area,walk,closed,rl,rh,ll,lh⟩:=x
 simp only at l0 l1 a0 a1 hf g0 ⊢
 clear ok
 have hm:0≤len*area:=Int.mul_nonneg (by omega) (by omega)
 have hm2:len*area≤100000*1000:=Int.mul_le_mul l1 a1 (by omega) (by omega)
 have w1:IntKind.i64.wrap (-lo)= -lo:=oo (by omega) (by omega)
 have w2:IntKind.i64.wrap (-hi)= -hi:=oo (by omega) (by omega)
 obtain⟨aa,roads⟩:=m
 simp only at hk nr g0
 cases closed with
 | true=>simp(disch:=omega)only[go_sem,K.bP,↓reduceIte,g0,reduceAdd,reduceSub]
 | false=>
   cases back with
   | false=>
     by_cases c1:0<hi
     · have g1:=KZ (a:=len*area*1000) (b:=hi) (by omega) (by omega)
       by_cases c2:len<(len*area*1000).tdiv hi
       · simp(disch:=omega)only[go_sem,K.bP,↓reduceIte,g0,w1,w2,c1,c2,and_self,or_true,and_true,aLt,reduceAdd,reduceSub]
       · by_cases c3:(len*area*1000).tdiv hi<len
         · simp(disch:=omega)only[go_sem,K.bP,↓reduceIte,g0,w1,w2,c1,c2,c3,and_self,or_false,and_true,and_false,aLt,reduceAdd,reduceSub]
         · have e:(len*area*1000).tdiv hi=len:=by omega
           simp(disch:=omega)only[go_sem,K.bP,↓reduceIte,g0,w1,w2,c1,e,and_self,or_false,and_true,and_false,aLt,reduceAdd,reduceSub]
     · by_cases c2: -500*area<hi
       · simp(disch:=omega)only[go_sem,K.bP,↓reduceIte,g0,w1,w2,c1,c2,and_self,true_or,and_true,aLt,reduceAdd,reduceSub]
       · simp(disch:=omega)only[go_sem,K.bP,↓reduceIte,g0,w1,w2,c1,c2,false_and,aLt,reduceAdd,reduceSub]
   | true=>
     by_cases c1:0< -lo
     · have g1:=KZ (a:=len*area*1000) (b:= -lo) (by omega) (by omega)
       by_cases c2:len<(len*area*1000).tdiv (-lo)
       · simp(disch:=omega)only[go_sem,K.bP,↓reduceIte,g0,w1,w2,c1,c2,Int.zero_sub,and_self,or_true,and_true,aLt,reduceAdd,reduceSub]
       · by_cases c3:(len*area*1000).tdiv (-lo)<len
         · simp(disch:=omega)only[go_sem,K.bP,↓reduceIte,g0,w1,w2,c1,c2,c3,Int.zero_sub,and_self,or_false,and_true,and_false,aLt,reduceAdd,reduceSub]
         · have e:(len*area*1000).tdiv (-lo)=len:=by omega
           simp(disch:=omega)only[go_sem,K.bP,↓reduceIte,g0,w1,w2,c1,e,Int.zero_sub,and_self,or_false,and_true,and_false,aLt,reduceAdd,reduceSub]
     · by_cases c2:lo<500*area
       · simp(disch:=omega)only[go_sem,K.bP,↓reduceIte,g0,w1,w2,c1,c2,Int.zero_sub,and_self,true_or,and_true,aLt,reduceAdd,reduceSub]
       · simp(disch:=omega)only[go_sem,K.bP,↓reduceIte,g0,w1,w2,c1,c2,Int.zero_sub,false_and,aLt,reduceAdd,reduceSub]
theorem Jl(a b lo hi:Int)(h1:lo≤a)(h2:a≤b)(h3:b≤hi):bL 0 N.gT [.t (.agg [tI a,tI b]),I lo,I hi] []=some (B true,[]):=by
 refine aI K.tQ rfl ?_
 simp(disch:=omega)only[go_sem,K.gT,↓reduceIte,reduceAdd,reduceSub]
theorem BF{m:cC}(h:m.ok):bL 0 N.jF [.t m.e] []=some (I 0,[]):=by
 refine aI K.vJ rfl ?_
 have np:=h.np
 have nr:=h.nr
 have hs:=h.hs
 have rs:=h.rs
 obtain⟨aa,roads⟩:=m
 simp only at np nr hs rs
 have l1:∀z0 z2 z3 z4 z5 z9 z10 z11:D,exS bL K.zg ⟨[z0,.bp 0 0,z2,z3,z4,z5,.t (.sl (aa.map Place.e)),I aa.length,I 0,z9,z10,z11],[.box (aX ⟨aa,roads⟩)]⟩=
  some (.exit 0,⟨[.und,.bp 0 0,.und,.und,.und,.und,.t (.sl (aa.map Place.e)),I aa.length,I aa.length,.und,.und,.und],[.box (aX ⟨aa,roads⟩)]⟩):=by
  intro z0 z2 z3 z4 z5 z9 z10 z11
  refine cT (fun j=>⟨[.und,.bp 0 0,.und,.und,.und,.und,.t (.sl (aa.map Place.e)),I aa.length,I j,.und,.und,.und],[.box (aX ⟨aa,roads⟩)]⟩) aa.length rfl ?_ ?_ (by simp)
  · intro j hj
    have g:(aa.map Place.e)[j]?=some (nth aa j).e:=aQ _ hj
    have q:=hs _ (ak hj)
    generalize nth aa j=x at*
    obtain⟨hh,sf⟩:=x
    simp only[aX]at*
    simp(disch:=omega)only[go_sem,K.rZ,↓reduceIte,g,reduceAdd,reduceSub]
  · simp(disch:=omega)only[go_sem,K.rZ,↓reduceIte,aX,reduceAdd,reduceSub]
 have l2:∀z0 z1 z2 z3 z5 z6 z7 z8:D,exS bL K.zh ⟨[z0,z1,z2,z3,I aa.length,z5,z6,z7,z8,.t (.sl (roads.map Road.e)),I roads.length,I 0],[.box (aX ⟨aa,roads⟩)]⟩=
  some (.exit 2,⟨[.und,.und,.und,.und,I aa.length,.und,.und,.und,.und,.t (.sl (roads.map Road.e)),I roads.length,I roads.length],[.box (aX ⟨aa,roads⟩)]⟩):=by
  intro z0 z1 z2 z3 z5 z6 z7 z8
  refine cT (fun j=>⟨[.und,.und,.und,.und,I aa.length,.und,.und,.und,.und,.t (.sl (roads.map Road.e)),I roads.length,I j],[.box (aX ⟨aa,roads⟩)]⟩) roads.length rfl ?_ ?_ (by simp)
  · intro j hj
    have g:(roads.map Road.e)[j]?=some (nth roads j).e:=aQ _ hj
    have q:=rs _ (ak hj)
    generalize nth roads j=x at*
    have f0:=q.f0;have f1:=q.f1;have t0:=q.t0;have t1:=q.t1;have ne:=q.ne;have l0:=q.l0;have l1:=q.l1;have a0:=q.a0;have a1:=q.a1
    have r0:=q.r0;have r1:=q.r1;have r2:=q.r2;have i0:=q.i0;have i1:=q.i1;have i2:=q.i2
    clear q
    obtain⟨frm,to,len,area,walk,closed,rl,rh,ll,lh⟩:=x
    simp only[aX]at*
    have s1:=Jl rl rh 1 262144 r0 r1 r2
    have s2:=Jl ll lh (-2199023255552) 2199023255552 i0 i1 i2
    simp(disch:=omega)only[go_sem,K.r5,↓reduceIte,g,s1,s2,reduceAdd,reduceSub]
  · simp(disch:=omega)only[go_sem,K.r5,↓reduceIte,aX,reduceAdd,reduceSub]
 simp only[aX]at l1 l2
 simp(disch:=omega)only[go_sem,K.jF,↓reduceIte,l1,l2,reduceAdd,reduceSub]
theorem BG{m:cC}(h:m.ok):bL 0 N.cN [.t m.e] []=some (B true,[]):=by
 refine aI K.vI rfl ?_
 have c:=BF h
 obtain⟨aa,roads⟩:=m
 simp(disch:=omega)only[go_sem,K.cN,↓reduceIte,c,reduceAdd,reduceSub]
end Go.Ev
