/- Parts of the proof: see the text that holds the theorem. -/
import Derived.Test.YtgpjgilnofjbdaaGreatZ1
set_option linter.all false
open Nat (reduceAdd reduceSub)
namespace Go.Ev
open Go
variable [Names]
section
variable {P : Program} {ρ : Operand → Value} {F : Fz} {g : Gh} {H : af} {w : World}
def Out(P:Program)(s:Sem Value)(F:Fz)(g:Gh)(H:af)(w:World)(r:D)(H':af):Prop:=
 ∃v w' F' g',s.run P w= .ok v w'∧bF F' g' (shp H') v r∧az F' g' H' w'∧Ext F g w F' g' w'∧Aft g H g' H'
theorem IM{H:af}{sz:Nat}{ys0 ys:List D}(h:cK (fun d=>(frz H depth d).map D.t) ys0=some ys)(hs:cD sz ys=true):cD sz ys0=true:=by
 obtain⟨h1,h2⟩:=bI h
 cases ys0 with
 | nil=>rfl
 | cons e es=>
   cases ys with
   | nil=>simp at h1
   | cons y ys=>
     obtain⟨x,hx,rfl⟩:=aLb.1 (h2 0 e y rfl rfl)
     simp only[cD,beq_iff_eq]at hs ⊢
     rw[← hs]
     simp only[D.cells,List.length_map]
     exact(C1 hx).symm
theorem aeX{t u ty e e2:TypeId}{i:TypeInfo}{z:Value}(ht:P.underlying t=some (.slice e))(hu:P.underlying u=some (.slice e2))(hi:P.info? e=some i)(hz:i.zero=some z)
 (hzs:z.cells.size=i.size) (hby:i.bytes≤1024) (hH:az F g H w) {vx vy:Value} {x y r:D} {H':af} {fz:Bool} (hx:bF F g (shp H) vx x) (hy:bF F g (shp H) vy y)
 (h:pZ H x y fz i.size=some (r,H')):Out P (Builtin.append_ #[t,u] ty #[vx,vy]) F g H w r H':=by
 unfold pZ at h
 replace h:=aLa.1 h
 obtain⟨ys0,he,h⟩:=h
 replace h:=aLa.1 h
 obtain⟨ys,hys,h⟩:=h
 split at h
 · rename_i hhs
   -- the heap in which the elements are frozen,if they are
   obtain⟨F1,H1,hH1,hE1,hA1,hS1,hrow,hlen,hH1e⟩:∃F1 H1,az F1 g H1 w∧Ext F g w F1 g w∧Aft g H g H1∧shp H1=shp H∧
    (∃a c news,vy= .slice a ys.length c∧Row F1 g (shp H1) i.size news ys∧Src w a news)∧True∧H1=(if fz then pins H (ys0.flatMap (gu H depth))else H):=by
    cases fz with
    | false=>
      simp only[aLt,if_false,Option.some.injEq]at hys
      subst hys
      exact⟨F,H,hH,Ext.refl F g w,Aft.refl g H,rfl,uw hH hy he hhs,trivial,by simp⟩
    | true=>
      simp only[if_true]at hys
      obtain⟨a,c,news,h1,h2,h3⟩:=uw hH hy he (IM hys hhs)
      refine⟨_,_,hH.frz (ys0.flatMap (gu H depth)),Ext.frz _,Aft.pins g H _,tC _ _,⟨a,c,news,?_,?_,h3⟩,trivial,by simp⟩
      · rw[h1,(bI hys).1]
      · rw[tC];exact h2.frz hH hys
   rw[← hH1e]at h
   obtain⟨a,c,news,rfl,hrow,hsrc⟩:=hrow
   obtain⟨k1,k2⟩:=XI (t:=t) (u:=u) (ty:=ty) (c:=c) (z:=z) ht hu hi hz hzs hby hH1 (m:=ys.length) rfl hrow hsrc
   split at h
   · split at h
     · rename_i hlim
       cases h
       cases hx
       obtain⟨v',w',g',q1,q2,q3,q4,q5⟩:=k1 rfl hlim
       exact⟨v',w',F1,g',q1,q2,q3,hE1.trans q4,hA1.trans q5⟩
     · cases h
   · rename_i id ep n
     replace h:=aLa.1 h
     obtain⟨ar,ha,h⟩:=h
     obtain⟨hid,hn⟩:=eK ha
     split at h
     · rename_i hc
       obtain⟨c1,c2⟩:=hc
       cases h
       rw[c1]at hid
       subst hn
       obtain⟨v',w',g',q1,q2,q3,q4,q5⟩:=k2 (hx.aft hE1.sub hA1) hid c2
       exact⟨v',w',F1,g',q1,q2,q3,hE1.trans q4,hA1.trans q5⟩
     · cases h
   · -- a slice without room
     rename_i es
     split at h
     · rename_i hc
       obtain⟨c1,c2,c3⟩:=hc
       cases h
       cases hx with
       | cl a0 _ hr=>
       obtain⟨a1,cc,olds,e1,hrow0,hsrc0⟩:=uw hH1 (bF.t _ _ (hr.mono hE1.sub)) (ys:=es.map .t) rfl c3
       simp only[List.length_map]at e1
       cases e1
       have fits:∀n old,n≤lim→old<n→Builtin.nextslicecap n old*i.bytes≤281474976710656:=by
        intro n old hn ho
        refine growslice_fits ho ?_
        have:n*i.bytes≤lim*1024:=Nat.mul_le_mul hn hby
        unfold lim at this;omega
       have ol:olds.length=es.length*i.size:=by simpa using hrow0.len
       have nl:=hrow.len
       obtain⟨cap,rest,hcap,hrest,hrun⟩:=rD (P:=P) (w:=w) (ty:=ty) (c:=c) ht hu hi hz (base:=a0) (sLen:=es.length) (sCap:=es.length) (olds:=olds) hsrc0 ol hsrc nl (by omega)
        (by unfold lim at c2;omega) (fits _ _ c2 (by omega))
       obtain⟨g',h1,h2,h3,h4⟩:=Df (F:=F1) (g:=g) (H:=H1) (w:=w.drew) hH1.drew (c:=(olds++news++rest).toArray) (es:=es.map .t++ys) (sz:=i.size) (cap:=cap)
        (by simp[ol,nl,hrest hzs,←Nat.add_mul];congr 1;omega) (by simp;omega)
        (fun x hx=>by
         rcases List.mem_append.1 hx with h | h
         · exact hrow0.size x h
         · exact hrow.size x h)
        (fun k x q d hx hd=>by
         by_cases hk:k<es.length
         · rw[aLg (by simpa using hk)]at hx
           obtain⟨u,k1,k2,k3⟩:=hrow0.cell k x q d hx hd
           exact⟨u,by simpa using get_append (get_append k1),k2,k3⟩
         · rw[aLh (by simpa using hk)]at hx
           simp only[List.length_map]at hx
           obtain⟨u,k1,k2,k3⟩:=hrow.cell (k-es.length) x q d hx hd
           refine⟨u,?_,k2,k3⟩
           have hle:es.length*i.size≤k*i.size:=Nat.mul_le_mul_right _ (by omega)
           have:(olds++news)[k*i.size+q]?=some u:=by
            rw[aLh (by omega),ol,show k*i.size+q-es.length*i.size=(k-es.length)*i.size+q by rw[Nat.sub_mul];omega]
            exact k1
           simpa using get_append this) e
       refine⟨_,_,F1,g',hrun,?_,h1,hE1.trans ⟨h2.sub,h2.size,h2.keep,h2.blks,h2.newF,h2.io⟩,hA1.trans h3⟩
       simp only[aLv,List.length_map]at h4 ⊢
       exact h4
     · cases h
   · -- a queue
     rename_i id ep es
     split at h
     · rename_i y
       change (if y.scalar=true∧i.size=1∧ER H1 id ep=true∧es.length+1≤lim then some (D.q id (ep+1) (es++[y]),List.set H1 id (Obj.own (ep+1)))else none)=some (r,H')at h
       split at h
       · rename_i hc
         obtain⟨c1,c2,c3,c4⟩:=hc
         cases h
         rw[List.length_singleton]at*
         obtain⟨v',w',F',g',q1,q2,q3,q4,q5⟩:=ak5 (P:=P) (w:=w) (ty:=ty) (c:=c) ht hu hi hz hzs hby c2 hH1 (hx.aft hE1.sub hA1) c3 c1 hrow hsrc c4
         exact⟨v',w',F',g',q1,q2,q3,hE1.trans q4,hA1.trans q5⟩
       · cases h
     · cases h
   · cases h
 · cases h
theorem aeY{t e:TypeId}{sz:Nat}(ht:P.underlying t=some (.slice e))(hs:vd P e=some sz)(hH:az F g H w){vx:Value}{x r:D}{H':af}{n:Int}{k:IntKind}(hx:bF F g (shp H) vx x)
 (h:aeK H x n=some (r,H')):Out P (Instr.sliceAt t vx none (some (.int k n)) none) F g H w r H':=by
 unfold aeK at h
 split at h
 · rename_i id ep m
   replace h:=aLa.1 h
   obtain⟨q,hq,h⟩:=h
   replace h:=aLa.1 h
   obtain⟨a,ha,h⟩:=h
   obtain⟨hid,hm⟩:=eK ha
   split at h
   · rename_i hc
     obtain⟨c1,c2⟩:=hc
     cases h
     obtain⟨og,hog,hbn,rfl⟩:=hx.vv hid hm
     have hA:Aft g H (g.set id og) (H.set id (.arr a.1 false (ep+1) (a.2.2.take q))):=
      Aft.set hog hid (.inr ⟨a.1,ep,a.2.2.length,a.1,ep+1,(a.2.2.take q).length,rfl,rfl,.inl (.inl (by omega))⟩)
     have hf:=(hH.fits id _ og hid hog).old hbn
     have hup:az F (g.set id og) (H.set id (.arr a.1 false (ep+1) (a.2.2.take q))) w:=by
      refine hH.upd hog hid hA ?_ (fun b hb=> .inl hb) (fun _ _ _=>rfl) (fun b o v hv _=>hH.agree b o v hv)
      rcases hf with⟨h1,h2⟩ | ⟨b,c,ty,hb,hc,hsz,hle,hz,hcell,hfz⟩
      · exact .inl ⟨h1,by rw[h2];simp⟩
      · refine .inr ⟨b,c,ty,hb,hc,hsz,by simp;omega,fun d hd=>hz d (List.mem_of_mem_take hd),fun j d p y hd hy=>?_,fun o v hv=>?_⟩
        · have hj:=aj hd
          rw[aLo,if_pos (by simp at hj;omega)]at hd
          obtain⟨u,k1,k2,k3⟩:=hcell j d p y hd hy
          exact⟨u,k1,k2,k3.aft (mS.refl F) hA⟩
        · have:=(hfz o v hv).1;rw[c2]at this;cases this
     have hlen:(a.2.2.take q).length=q:=by simp;omega
     have hr:bF F (g.set id og) (shp (H.set id (.arr a.1 false (ep+1) (a.2.2.take q)))) (dE og q) (.ref id (ep+1) q):=by
      refine .ref id (ep+1) q a.1 og (aLj (aj hog)) ?_ (fun hb=>?_)
      · simp only[shp,aLj (aj hid),aLw,Obj.sh,hlen]
      · rcases hf with⟨_,h2⟩ | ⟨b,_,_,hb',_⟩
        · rw[h2]at hm;simp at hm;omega
        · rw[hb]at hb';cases hb'
     refine⟨dE og q,w,F,g.set id og,?_,hr,hup,Ext.upd hog (aLs _) (fun b hb=> .inl hb) (fun _ _ _=>rfl),hA⟩
     rcases hf with⟨h1,h2⟩ | ⟨b,c,ty,hb,hc,hsz,hle,_⟩
     · rw[h2]at hm
       simp at hm;subst hm
       have:q=0:=by omega
       subst this
       have:=kQ (P:=P) (w:=w) ht hs (a:=none) (len:=0) (cap:=0) (lo:=none) (hi:=some n) .none (.some k n) rfl hq (aLs _) (aLs _)
       simpa [dE,h1]using this
     · have:=kQ (P:=P) (w:=w) ht hs (a:=some ⟨b,0,none⟩) (len:=m) (cap:=og.cap) (lo:=none) (hi:=some n) .none (.some k n) rfl hq (Nat.zero_le _) (by omega)
       simpa [dE,hb,Addr.add]using this
   · cases h
 · cases h
theorem aeZ{t e:TypeId}{i:TypeInfo}{z:Value}(ht:P.underlying t=some (.slice e))(hi:P.info? e=some i)(hz:i.zero=some z)(hzs:z.cells.size=i.size)(hby:i.bytes≤1024)
 (hH:az F g H w) {zero:D} (hzr:bF F g (shp H) z zero) (hsol:zero.lO=true) {n:Int} {m:Nat} {k k':IntKind} (hm:idx n=some m) (hlim:m≤lim):
 Out P (Instr.makeSlice t (.int k n) (.int k' n)) F g H w (.ref H.length 0 m) (H++[.arr i.size false 0 (List.replicate m zero)]):=by
 have hn:=oe hm
 subst hn
 have hC:=gO hzr hsol
 have hzl:zero.cells.length=i.size:=by rw[← hC.1];simpa using hzs
 have hl:m≤4294967296:=hlim
 have hb:(i.bytes:Int)*(m:Int)≤281474976710656:=by
  have h1:i.bytes*m≤1024*4294967296:=Nat.mul_le_mul hby hl
  have h2:((i.bytes*m:Nat):Int)≤((1024*4294967296:Nat):Int):=Int.ofNat_le.2 h1
  simp only[Int.natCast_mul]at h2
  omega
 have hrun:=run_make (P:=P) w t e i z ht hi hz k k' (m:Int) (m:Int) (by omega) (Int.le_refl _) hb (by omega)
 simp only[Int.toNat_natCast]at hrun
 obtain⟨g',h1,h2,h3,h4⟩:=Df (w:=w) hH (c:=madeCells z.cells (m*i.size)) (es:=List.replicate m zero) (sz:=i.size) (cap:=m) (size_madeCells _ _) (by simp) (fun d hd=>by
  rw[List.eq_of_mem_replicate hd];exact⟨hzl,hsol⟩) (fun j d p y hd hy=>by
  have hj:=aj hd
  have hde:=List.eq_of_mem_replicate (aLd hd)
  subst hde
  have hp:=aj hy
  rw[hzl]at hp
  obtain⟨u,hu⟩:=ah hC.1.symm hy
  refine⟨u,?_,hC.2.1 u (aLd hu),hC.2.2 p u y hu hy⟩
  have hlt:j*i.size+p<m*i.size:=Bm (by simpa using hj) hp
  have hmod:(j*i.size+p) % i.size=p:=by
   rw[Nat.add_comm,Nat.add_mul_mod_self_right,Nat.mod_eq_of_lt hp]
  have hps:p<z.cells.size:=by omega
  simp only[madeCells,Array.getElem?_map,Array.getElem?_range,hlt,if_true,aLw,hzs,hmod]
  have:z.cells[p]?=some u:=by simpa using hu
  rw[getElem!_pos z.cells p hps]
  rw[Array.getElem?_eq_getElem hps]at this
  exact this) e
 refine⟨_,_,F,g',hrun,?_,h1,h2,h3⟩
 simpa using h4
theorem PU(sz:Nat)(hH:az F g H w):∀c:Nat,∃g',az F g' (H++blk sz c fun _=>[]) w∧Ext F g w F g' w∧Aft g H g' (H++blk sz c fun _=>[])∧
 ∀j,j<c→bF F g' (shp (H++blk sz c fun _=>[])) (.slice none 0 0) (.ref (j+H.length) 0 0)
 | 0=>⟨g,by simpa [blk]using hH,Ext.refl F g w,by simpa [blk]using Aft.refl g H,fun j hj=>absurd hj (Nat.not_lt_zero j)⟩
 | c+1=>by
   obtain⟨g1,a1,a2,a3,a4⟩:=PU sz hH c
   obtain⟨g2,b1,b2,b3,b4⟩:=add_nil a1 sz
   have e:(H++blk sz c fun _=>[])++[Obj.arr sz false 0 []]=H++blk sz (c+1) fun _=>[]:=by
    simp[blk,List.range_succ]
   have l:(H++blk sz c fun _=>[]).length=c+H.length:=by simp[blk];omega
   rw[e]at b1 b3 b4
   rw[l]at b4
   refine⟨g2,b1,a2.trans b2,a3.trans b3,fun j hj=>?_⟩
   by_cases h:j=c
   · subst h;exact b4
   · exact(a4 j (by omega)).aft (mS.refl F) b3
theorem ae0{t e:TypeId}{i:TypeInfo}{z:Value}(ht:P.underlying t=some (.slice e))(hi:P.info? e=some i)(hz:i.zero=some z)(hzs:z.cells.size=i.size)(hs1:i.size=1)(hby:i.bytes≤1024)
 (hH:az F g H w) (hzr:z= .slice none 0 0) {n:Int} {m c esz:Nat} {k k':IntKind} (hm:idx n=some m) (hlim:m≤c∧c≤64):
 Out P (Instr.makeSlice t (.int k n) (.int k' n)) F g H w (.ref (H.length+c) 0 m) (H++blk esz c (fun _=>[])++[.arr 1 false 0 (refs H.length m fun _=>0)]):=by
 have hn:=oe hm
 subst hn
 subst hzr
 have hb:(i.bytes:Int)*(m:Int)≤281474976710656:=by
  have h1:i.bytes*m≤1024*64:=Nat.mul_le_mul hby (by omega)
  have h2:((i.bytes*m:Nat):Int)≤((1024*64:Nat):Int):=Int.ofNat_le.2 h1
  simp only[Int.natCast_mul]at h2
  omega
 obtain⟨g1,a1,a2,a3,a4⟩:=PU esz hH c
 have hrun:=run_make (P:=P) w t e i _ ht hi hz k k' (m:Int) (m:Int) (by omega) (Int.le_refl _) hb (by omega)
 simp only[Int.toNat_natCast]at hrun
 have hl:(H++blk esz c fun _=>[]).length=H.length+c:=by simp[blk]
 obtain⟨g',h1,h2,h3,h4⟩:=Df (w:=w) a1 (c:=madeCells (Value.slice none 0 0).cells (m*i.size)) (es:=refs H.length m fun _=>0) (sz:=1) (cap:=m) (by rw[size_madeCells,hs1]) (by simp[refs]) (fun d hd=>by
  obtain⟨j,hj,rfl⟩:=List.mem_map.1 hd
  exact⟨rfl,rfl⟩) (fun j d p y hd hy=>by
  have hj:j<m:=by have:=aj hd;simpa [refs]using this
  have hde:d= .ref (j+H.length) 0 0:=by
   simp only[refs,aLn,aLp hj,aLw,Option.some.injEq]at hd
   exact hd.symm
  subst hde
  have hp:=aj hy
  have hp:p=0:=by simpa [D.cells]using hp
  subst hp
  have hye:y= .ref (j+H.length) 0 0:=by simpa [D.cells]using hy.symm
  subst hye
  refine⟨.slice none 0 0,?_,rfl,a4 j (by omega)⟩
  have hlt:j*1+0<m*i.size:=by rw[hs1];omega
  simp only[madeCells,Array.getElem?_map,Array.getElem?_range,hzs]
  rw[if_pos hlt,hs1]
  simp only[aLw,Nat.mod_one]
  rfl) e
 rw[hl]at h4
 refine⟨_,_,F,g',hrun,?_,h1,a2.trans h2,a3.trans h3⟩
 have el:(refs H.length m fun _=>0).length=m:=by simp[refs]
 rw[el]at h4
 exact h4
theorem rV{t e:TypeId}{sz n:Nat}{z:Value}(ht:P.underlying t=some (.slice e))(hs:vd P e=some sz)(hz:(zeroValue e).run P w= .ok z w){vs:List Value}(hn:n=vs.length)(hsz:∀v∈vs,v.cells.size=sz)
 (hlim:n*sz≤16777216) {ps:Array (Nat×Value)} (hps:ps.toList=GV 0 vs):∃c:Array Value,(Instr.buildSlice t n ps).run P w= .ok (.slice (some ⟨w.heap.size,0,none⟩) n n) (w.alloc (.cells c e))∧c.size=n*sz∧
  ∀(i:Nat) v (k:Nat) u,vs[i]?=some v→v.cells[k]?=some u→c[i*sz+k]?=some u:=by
 have h1:¬(16777216<n*sz):=by omega
 obtain⟨r,r1,r2,_,r4⟩:=L7 sz vs 0 ((Array.range (n*sz)).map (fun q=>(if n*sz=0 then(#[]:Array Value)else z.cells)[q % (if n*sz=0 then(#[]:Array Value)else z.cells).size]!)) hsz (by simp[hn])
 refine⟨r,?_,by simpa using r2,fun i v k u hv hu=>by simpa using r4 i v k u hv hu⟩
 simp only[Instr.buildSlice,Sem.run_bind,run_underlying ht,Result.andThen_ok,run_sizeOf hs,Sem.run_ite]
 have h2:¬(n*sz>2 ^ 24):=by simpa using h1
 simp only[h2,if_false]
 by_cases h0:n*sz=0
 · simp only[h0,if_true,Sem.run_pure,Result.andThen_ok]at r1 ⊢
   simp only[hps,r1,newRow,Sem.run_bind,Sem.run_pure,Result.andThen_ok,run_newObj_alloc]
 · simp only[h0,if_false,Sem.run_bind,hz,Sem.run_pure,Result.andThen_ok]at r1 ⊢
   simp only[hps,r1,newRow,Sem.run_bind,Sem.run_pure,Result.andThen_ok,run_newObj_alloc]
theorem ae1{t e:TypeId}{z:Value}(ht:P.underlying t=some (.slice e))(hs:vd P e=some 1)(hz:∀w:World,(zeroValue e).run P w= .ok z w)(hH:az F g H w){v:Value}{y:T}(hv:bF F g (shp H) v (.t y))
 (hy:y.scalar=true) {ps:Array (Nat×Value)} (hps:ps.toList=GV 0 [v]):Out P (Instr.buildSlice t 1 ps) F g H w (.q H.length 0 [y]) (H++[.own 0]):=by
 have hC:=gO hv rfl
 have hcl:v.cells.toList.length=1:=by rw[hC.1,D.cells,fB hy];rfl
 have hvs:∀x∈[v],x.cells.size=1:=fun x hx=>by simp at hx;subst hx;simpa using hcl
 obtain⟨c,h1,h2,h3⟩:=rV (P:=P) (w:=w) (n:=1) ht hs (hz w) rfl hvs (by decide) hps
 obtain⟨u,hu⟩:∃u,v.cells[0]?=some u:=⟨_,Array.getElem?_eq_getElem (by have:=hvs v (by simp);omega)⟩
 have hcu:c[0]?=some u:=by simpa using h3 0 v 0 u rfl hu
 have hd0:(D.t y).cells[0]?=some (.t y):=by simp[D.cells,fB hy]
 have huy:bF F g (shp H) u (.t y):=hC.2.2 0 u _ (by simpa using hu) hd0
 have hlf:fM u=true:=hC.2.1 u (aLd (by simpa using hu:v.cells.toList[0]?=some u))
 have hyT:∀F':Fz,lP F' u y:=fun F'=>by cases huy with | t _ _ h=>exact FW hy h
 have hsz:c.size=1:=by simpa using h2
 have hnew:=mI w (.cells c e)
 have hold:=gP w (.cells c e)
 have hat:(w.alloc (.cells c e)).cell? ⟨w.heap.size,0,none⟩=some u:=by
  simp only[World.cell?,hnew]
  simpa using hcu
 have k1:az F (g++[⟨some w.heap.size,room 1 1⟩]) (H++[.own 0]) (w.alloc (.cells c e)):=by
  refine(hH.grow hold).add ⟨some w.heap.size,room 1 1⟩ (.own 0) ⟨w.heap.size,c,e,1,rfl,hnew,by rw[hsz],by omega,by omega,fun o v h=>?_⟩ (fun b hb=>?_)
  · have:=hH.ltF h;omega
  · cases hb;exact yd hH
 have hg':(g++[⟨some w.heap.size,room 1 1⟩])[H.length]?=some ⟨some w.heap.size,room 1 1⟩:=by rw[← hH.len];simp
 have ho':(H++[Obj.own 0])[H.length]?=some (.own 0):=by simp
 have hsub:mS F (fun b o=>if b=w.heap.size∧o<1 then some u else F b o):=by
  intro b o x h
  have:=hH.ltF h
  show(if b=w.heap.size∧o<1 then some u else F b o)=some x
  rw[if_neg (by omega)];exact h
 have k2:az (fun b o=>if b=w.heap.size∧o<1 then some u else F b o) (g++[⟨some w.heap.size,room 1 1⟩]) (H++[.own 0]) (w.alloc (.cells c e)):=by
  refine PS k1 hg' ho' (by omega) hsub (fun b o x h hne=>?_) (fun o x h=>?_) (fun b o x h=>?_)
  · rw[if_neg (fun k=>hne k.1)]at h;exact h
  · split at h
    · rename_i k;exact k.2
    · have:=hH.ltF h;omega
  · split at h
    · rename_i k
      obtain⟨rfl,k⟩:=k
      have:o=0:=by omega
      subst this
      rw[← h];exact hat
    · exact k1.agree b o x h
 refine⟨_,_,_,_,h1,?_,k2,⟨hsub,by rw[kq];omega,fun b hb _=>hold b hb,fun b hb=>?_,fun b o x h=>?_,⟨rfl,rfl⟩⟩,Aft.append hH.len _ _⟩
 · refine .q H.length 0 w.heap.size 0 1 [y] hg' (by rw[mm ho'];rfl) (by omega) (by simp) ?_ (fun x hx=>by simp at hx;subst hx;rw[fB hy];rfl)
   have:=lP.sl (F:=fun b o=>if b=w.heap.size∧o<1 then some u else F b o) w.heap.size 0 1 1 [y] (fun _ _=>u) (by simp) (fun x hx=>by simp at hx;subst hx;rw[fB hy];rfl)
    (fun i x k d hx hd=>by
     have hi:i=0:=by have:=aj hx;simp at this;omega
     subst hi
     simp at hx;subst hx
     rw[fB hy]at hd
     have hk:k=0:=by have:=aj hd;simp at this;omega
     subst hk
     exact⟨by simp,hlf⟩)
    (fun i x k d hx hd=>by
     have hi:i=0:=by have:=aj hx;simp at this;omega
     subst hi
     simp at hx;subst hx
     rw[fB hy]at hd
     have hk:k=0:=by have:=aj hd;simp at this;omega
     subst hk
     simp at hd;subst hd
     exact hyT _)
   exact this
 · obtain⟨o,hm,hb'⟩:=hb
   rcases List.mem_append.1 hm with h | h
   · exact .inl ⟨o,h,hb'⟩
   · simp at h;subst h;cases hb';exact .inr (aLs _)
 · split at h
   · rename_i k
     obtain⟨rfl,k⟩:=k
     exact .inr (.inr (aLs _))
   · exact .inl h
theorem ae2{t e:TypeId}{sz:Nat}{z:Value}(ht:P.underlying t=some (.slice e))(hs:vd P e=some sz)(hz:∀w:World,(zeroValue e).run P w= .ok z w)(hH:az F g H w){vs:List Value}{ds:List D}(hv:qa F g (shp H) vs ds)
 (hd:ds.all (fun d=>d.cells.length==sz&&d.lO)=true) (hlim:ds.length*sz≤16777216) {ps:Array (Nat×Value)} (hps:ps.toList=GV 0 vs):
 Out P (Instr.buildSlice t ds.length ps) F g H w (.ref H.length 0 ds.length) (H++[.arr sz false 0 ds]):=by
 have hds:∀d∈ds,d.cells.length=sz∧d.lO=true:=fun d hm=>by have:=aLx.1 hd d hm;simpa using this
 have hvs:∀v∈vs,v.cells.size=sz:=by
  intro v hm
  obtain⟨i,hi⟩:=aLf.1 hm
  obtain⟨d,hd'⟩:=ah hv.1 hi
  obtain⟨k1,k2⟩:=hds d (aLd hd')
  have:=(gO (hv.2 i v d hi hd') k2).1
  rw[← k1,←this];simp
 obtain⟨c,h1,h2,h3⟩:=rV (P:=P) (w:=w) ht hs (hz w) hv.1.symm hvs hlim hps
 obtain⟨g',a1,a2,a3,a4⟩:=Df (w:=w) hH (c:=c) (es:=ds) (sz:=sz) (cap:=ds.length) h2 (aLs _) hds (fun j d p y hd' hy=>by
  obtain⟨v,hv'⟩:=ah hv.1.symm hd'
  have hC:=gO (hv.2 j v d hv' hd') (hds d (aLd hd')).2
  obtain⟨u,hu⟩:=ah hC.1.symm hy
  exact⟨u,h3 j v p u hv' (by simpa using hu),hC.2.1 u (aLd hu),hC.2.2 p u y hu hy⟩) e
 exact⟨_,_,F,g',h1,a4,a1,a2,a3⟩
theorem ak6{t e:TypeId}{sz:Nat}{z:Value}(ht:P.underlying t=some (.slice e))(hs:vd P e=some sz)(hz:∀w:World,(zeroValue e).run P w= .ok z w)(hH:az F g H w){vs:List Value}{ds:List D}(hv:qa F g (shp H) vs ds)
 (hd:ds.all (fun d=>d.cells.length==sz)=true) {ts:List T} (hts:cK (frz H depth) ds=some ts) (hlim:ds.length*sz≤16777216) {ps:Array (Nat×Value)} (hps:ps.toList=GV 0 vs):
 Out P (Instr.buildSlice t ds.length ps) F g H w (.t (.sl ts)) (pins H (ds.flatMap (gu H depth))):=by
 obtain⟨m1,m2⟩:=bI hts
 have hds:∀d∈ds,d.cells.length=sz∧d.lO=true:=fun d hm=>by
  have h1:=aLx.1 hd d hm
  refine⟨by simpa using h1,?_⟩
  obtain⟨i,hi⟩:=aLf.1 hm
  obtain⟨x,hx⟩:=ah m1 hi
  have:=m2 i d x hi hx
  cases d<;>first | rfl | (simp[frz,depth]at this)
 have hvs:∀v∈vs,v.cells.size=sz:=by
  intro v hm
  obtain⟨i,hi⟩:=aLf.1 hm
  obtain⟨d,hd'⟩:=ah hv.1 hi
  obtain⟨k1,k2⟩:=hds d (aLd hd')
  have:=(gO (hv.2 i v d hi hd') k2).1
  rw[← k1,←this];simp
 obtain⟨c,h1,h2,h3⟩:=rV (P:=P) (w:=w) ht hs (hz w) hv.1.symm hvs hlim hps
 let A:=ds.flatMap (gu H depth)
 let F2:Fz:=fun b o=>if b=w.heap.size then c[o]? else uv F g H w A b o
 have hA:=hH.frz A
 have hsub:mS (uv F g H w A) F2:=by
  intro b o v hb
  have:=hA.ltF hb
  simp only[F2];rw[if_neg (by omega)];exact hb
 have hF2:∀b o v,F2 b o=some v→b≠w.heap.size→uv F g H w A b o=some v:=fun b o v h hne=>by simpa [F2,hne]using h
 have hold:=gP w (.cells c e)
 have hG:az F2 g (pins H A) (w.alloc (.cells c e)):=by
  have hA':=hA.grow hold
  refine⟨hA'.len,fun i o og ho hog=>?_,hA'.sep,fun b o v hb=>?_⟩
  · have hf:=hA'.fits i o og ho hog
    have hid:L4 some o o:=GY hA' ho
    refine hf.later hid (Aft.refl g _) hsub (fun b hb q v hv=>hF2 b q v hv ?_) fun _ _=>rfl
    intro e;subst e
    exact yd hH ⟨og,aLd hog,hb⟩
  · by_cases hbe:b=w.heap.size
    · subst hbe
      simp only[F2,if_true]at hb
      simp only[World.cell?,mI]
      simpa using hb
    · exact hA'.agree b o v (hF2 b o v hb hbe)
 have hlen:ts.length=ds.length:=m1.symm
 refine⟨_,_,F2,g,h1,?_,hG,?_,Aft.pins g H A⟩
 · have:=lP.sl (F:=F2) w.heap.size 0 ds.length sz ts (fun i k=>(c[i*sz+k]?).getD (.bool false)) (by omega) (fun x hx=>by
    obtain⟨i,hi⟩:=aLf.1 hx
    obtain⟨d,hd'⟩:=ah m1.symm hi
    rw[C1 (m2 i d x hd' hi)];exact(hds d (aLd hd')).1) (fun i x k y hi hy=>by
    obtain⟨d,hd'⟩:=ah m1.symm hi
    obtain⟨d0,m,e1,e2,_,_⟩:=wL (m2 i d x hd' hi) hy
    obtain⟨v,hv'⟩:=ah hv.1.symm hd'
    have hC:=gO (hv.2 i v d hv' hd') (hds d (aLd hd')).2
    obtain⟨u,hu⟩:=ah hC.1.symm e1
    have hcu:=h3 i v k u hv' (by simpa using hu)
    simp only[F2,if_true,Nat.zero_add,hcu]
    exact⟨rfl,hC.2.1 u (aLd hu)⟩) (fun i x k y hi hy=>by
    obtain⟨d,hd'⟩:=ah m1.symm hi
    obtain⟨d0,m,e1,e2,_,e4⟩:=wL (m2 i d x hd' hi) hy
    obtain⟨v,hv'⟩:=ah hv.1.symm hd'
    have hC:=gO (hv.2 i v d hv' hd') (hds d (aLd hd')).2
    obtain⟨u,hu⟩:=ah hC.1.symm e1
    have hcu:=h3 i v k u hv' (by simpa using hu)
    rw[hcu]
    refine lP.mono (mS.trans (mH fun j hj=>?_) hsub) (C2 hH m (hC.2.2 k u d0 hu e1) e2)
    simp only[A,List.mem_flatMap]
    exact⟨d,aLd hd',e4 j hj⟩)
   rw[hlen]at this
   exact .t _ _ this
 · have hx:=Ext.frz (F:=F) (g:=g) (H:=H) (w:=w) A
   refine⟨hx.sub.trans hsub,by rw[kq];omega,fun b hb _=>hold b hb,fun _ h=> .inl h,fun b o v hb=>?_,hx.io⟩
   by_cases hbe:b=w.heap.size
   · subst hbe;exact .inr (.inr (aLs _))
   · exact hx.newF b o v (hF2 b o v hb hbe)
theorem PV(hH:az F g H w){F2:Fz}(hsub:mS F F2)(hn:∀b o v,F2 b o=some v→g.has b→F b o=some v)(ha:∀b o v,F2 b o=some v→w.cell? ⟨b,o,none⟩=some v):az F2 g H w:=by
 refine⟨hH.len,fun i o og ho hog=>?_,hH.sep,ha⟩
 have hf:=hH.fits i o og ho hog
 have hid:L4 some o o:=GY hH ho
 exact hf.later hid (Aft.refl g _) hsub (fun b hb q v hv=>hn b q v hv ⟨og,aLd hog,hb⟩) fun _ _=>rfl
theorem PW(hH:az F g H w)(c:Array Value)(e:TypeId):az (fun b o=>if b=w.heap.size then c[o]? else F b o) g H (w.alloc (.cells c e))∧mS F (fun b o=>if b=w.heap.size then c[o]? else F b o)∧
 Ext F g w (fun b o=>if b=w.heap.size then c[o]? else F b o) g (w.alloc (.cells c e)):=by
 have hsub:mS F (fun b o=>if b=w.heap.size then c[o]? else F b o):=by
  intro b o v hb
  have:=hH.ltF hb
  simp only;rw[if_neg (by omega)];exact hb
 have hF2:∀b o v,(if b=w.heap.size then c[o]? else F b o)=some v→b≠w.heap.size→F b o=some v:=fun b o v h hne=>by simpa [hne]using h
 have hold:=gP w (.cells c e)
 refine⟨PV (hH.grow hold) hsub (fun b o v hb hg=>hF2 b o v hb ?_) (fun b o v hb=>?_),hsub,?_⟩
 · intro e;subst e;exact yd hH hg
 · by_cases hbe:b=w.heap.size
   · subst hbe
     simp only[if_true]at hb
     simp only[World.cell?,mI]
     simpa using hb
   · exact(hH.grow hold).agree b o v (hF2 b o v hb hbe)
 · have hx:=Ext.frz (F:=F) (g:=g) (H:=H) (w:=w) []
   rw[TD]at hx
   refine⟨hsub,by rw[kq];omega,fun b hb _=>hold b hb,fun _ h=> .inl h,fun b o v hb=>?_,hx.io⟩
   by_cases hbe:b=w.heap.size
   · subst hbe;exact .inr (.inr (aLs _))
   · exact hx.newF b o v (hF2 b o v hb hbe)
theorem ae3{t e:TypeId}{i:TypeInfo}{z:Value}(ht:P.underlying t=some (.slice e))(hi:P.info? e=some i)(hz:i.zero=some z)(hzs:z.cells.size=i.size)(hby:i.bytes≤1024)
 (hH:az F g H w) {zero:T} (hzr:∀F,bF F g (shp H) z (.t zero)) {n:Int} {m:Nat} {k k':IntKind} (hm:idx n=some m) (hlim:m≤lim):
 Out P (Instr.makeSlice t (.int k n) (.int k' n)) F g H w (.t (.sl (List.replicate m zero))) H:=by
 have hn:=oe hm
 subst hn
 have hzl:zero.cells.length=i.size:=by
  have:=(gO (hzr F) rfl).1
  simp only[D.cells,List.length_map]at this
  rw[← this];simpa using hzs
 have hl:m≤4294967296:=hlim
 have hb:(i.bytes:Int)*(m:Int)≤281474976710656:=by
  have h1:i.bytes*m≤1024*4294967296:=Nat.mul_le_mul hby hl
  have h2:((i.bytes*m:Nat):Int)≤((1024*4294967296:Nat):Int):=Int.ofNat_le.2 h1
  simp only[Int.natCast_mul]at h2
  omega
 have hrun:=run_make (P:=P) w t e i z ht hi hz k k' (m:Int) (m:Int) (by omega) (Int.le_refl _) hb (by omega)
 simp only[Int.toNat_natCast]at hrun
 obtain⟨h1,h2,h3⟩:=PW hH (madeCells z.cells (m*i.size)) e
 have hcell:∀j p (y:T),j<m→zero.cells[p]?=some y→∃u,(madeCells z.cells (m*i.size))[j*i.size+p]?=some u∧fM u=true∧∀F,lP F u y:=by
  intro j p y hj hy
  have hp:=aj hy
  rw[hzl]at hp
  have hps:p<z.cells.size:=by omega
  have hu:z.cells.toList[p]?=some z.cells[p]:=by simp[hps]
  have hy':(D.t zero).cells[p]?=some (.t y):=by simp[D.cells,hy]
  refine⟨z.cells[p],?_,(gO (hzr F) rfl).2.1 _ (aLd hu),fun F=>?_⟩
  · have hlt:j*i.size+p<m*i.size:=Bm hj hp
    have hmod:(j*i.size+p) % i.size=p:=by
     rw[Nat.add_comm,Nat.add_mul_mod_self_right,Nat.mod_eq_of_lt hp]
    simp only[madeCells,Array.getElem?_map,Array.getElem?_range,hlt,if_true,aLw,hzs,hmod]
    rw[getElem!_pos z.cells p hps]
  · have:=(gO (hzr F) rfl).2.2 p _ _ hu hy'
    generalize z.cells[p]=u at this
    cases this with
    | t v x h=>exact h
 have e1:∀j (x:T),(List.replicate m zero)[j]?=some x→j<m∧x=zero:=fun j x hx=>
  ⟨by simpa using aj hx,List.eq_of_mem_replicate (aLd hx)⟩
 refine⟨_,_,_,g,hrun,?_,h1,h3,Aft.refl g _⟩
 have:=lP.sl (F:=fun b o=>if b=w.heap.size then(madeCells z.cells (m*i.size))[o]? else F b o) w.heap.size 0 m i.size (List.replicate m zero) (fun j k=>((madeCells z.cells (m*i.size))[j*i.size+k]?).getD (.bool false)) (by simp)
  (fun x hx=>by rw[List.eq_of_mem_replicate hx];exact hzl)
  (fun j x p y hx hy=>by
   obtain⟨hj,rfl⟩:=e1 j x hx
   obtain⟨u,k1,k2,_⟩:=hcell j p y hj hy
   simp only[if_true,Nat.zero_add,k1]
   exact⟨rfl,k2⟩)
  (fun j x p y hx hy=>by
   obtain⟨hj,rfl⟩:=e1 j x hx
   obtain⟨u,k1,_,k3⟩:=hcell j p y hj hy
   rw[k1];exact k3 _)
 rw[List.length_replicate]at this
 exact .t _ _ this
end
end Go.Ev
namespace Go.Ev
open Go
variable [Names]
def EU(cx:X→Operand→Bool):List X→List Operand→Bool
 | [],[]=>true
 | x::xs,y::ys=>cx x y&&EU cx xs ys
 | _,_=>false
def tF(cx:X→Operand→Bool)(place:Nat→Option (Nat×Nat)):List (Nat×Nat×X)→List (Nat×Operand)→Bool
 | [],[]=>true
 | (off,n,x)::xs,(i,y)::ys=>decide (place i=some (off,n))&&cx x y&&tF cx place xs ys
 | _,_=>false
def FX(cx:X→Operand→Bool):Nat→List X→List (Nat×Operand)→Bool
 | _,[],[]=>true
 | m,x::xs,(i,y)::ys=>decide (i=m)&&cx x y&&FX cx (m+1) xs ys
 | _,_,_=>false
def ae4(cx:X→Operand→Bool):Option X→Option Operand→Bool
 | none,none=>true
 | some x,some y=>cx x y
 | _,_=>false
def zeroOf(P:Program)(t:TypeId):Option Value:=(P.info? t).bind (·.zero)
def FY(P:Program)(t:TypeId)(sz:Nat):Bool:=match P.underlying t with
 | some (.slice e)=>decide (vd P e=some sz)
 | _=>false
def G3(P:Program)(t:TypeId)(f:Nat):Option Field:=match P.underlying t with
 | some (.struct fs)=>fs[f]?
 | _=>none
def yV(P:Program)(t:TypeId)(sz:Nat)(k:Value→Bool):Bool:=match P.underlying t with
 | some (.slice e)=>(match P.info? e with
   | some i=>decide (i.size=sz)&&decide (i.bytes≤1024)&&(match i.zero with
     | some z=>decide (z.cells.size=i.size)&&k z
     | none=>false)
   | none=>false)
 | _=>false
def yW(P:Program)(t:TypeId):Bool:=match P.underlying t with
 | some (.slice _)=>true
 | _=>false
def NG(P:Program)(cx:X→Operand→Bool)(xs:List X)(sz:Nat)(t:TypeId)(n:Nat)(ps:List (Nat×Operand)):Bool:=
 FY P t sz&&(match P.underlying t with | some (.slice e)=>(zeroOf P e).isSome | _=>false)&&decide (n=xs.length)&&decide (n*sz≤16777216)&&FX cx 0 xs ps
def XK(P:Program)(cx:X→Operand→Bool):O→Op→Bool
 | .mv x,op=>(match op with
   | .move y=>cx x y
   | .assign y=>cx x y
   | _=>false)
 | .nw _,op=>(match op with
   | .assign (.const (.slice none 0 0))=>true
   | _=>false)
 | .pk c a b,op=>(match op with
   | .pick c' a' b'=>cx c c'&&cx a a'&&cx b b'
   | _=>false)
 | .bin f x y,op=>(match op with
   | .binOp f' _ x' y' _=>decide (f=f')&&cx x x'&&cx y y'
   | _=>false)
 | .eqk q neg x y,op=>(match op with
   | .binOp f t x' y' _=>decide (f=if neg then .neq else .eql)&&Cb P t q&&cx x x'&&cx y y'
   | _=>false)
 | .un f x,op=>(match op with
   | .unOp f' _ x'=>decide (f=f')&&cx x x'
   | _=>false)
 | .cv k x,op=>(match op with
   | .convert s d x'=>(P.underlying s).isSome&&(match P.underlying d with | some (.int j)=>decide (j=k) | _=>false)&&cx x x'
   | _=>false)
 | .nc x,op=>(match op with
   | .nilCheck x'=>cx x x'
   | _=>false)
 | .fa x off,op=>(match op with
   | .fieldAddr s x' f=>(match G3 P s f with
     | some fl=>decide (fl.offset=off)&&(match vd P fl.type with | some n=>decide (n≠0) | none=>false)
     | none=>false)&&cx x x'
   | _=>false)
 | .fl x off n agg,op=>(match op with
   | .field t x' f=>(match G3 P t f with
     | some fl=>decide (fl.offset=off)&&decide (vd P fl.type=some n)&&decide (Kc P fl.type=some agg)
     | none=>false)&&cx x x'
   | _=>false)
 | .ia x i sz,op=>(match op with
   | .indexAddr t x' i'=>FY P t sz&&cx x x'&&cx i i'
   | _=>false)
 | .iaa x i len sz,op=>(match op with
   | .indexAddr t x' i'=>(match P.underlying t with | some (.array n e)=>decide (n=len)&&decide (vd P e=some sz) | _=>false)&&cx x x'&&cx i i'
   | _=>false)
 | .ix x i len sz agg,op=>(match op with
   | .index t x' i'=>(match P.underlying t with
     | some (.array n e)=>decide (n=len)&&decide (len≠0)&&decide (vd P e=some sz)&&decide (Kc P e=some agg)
     | some .string=>decide (len=0)
     | _=>false)&&cx x x'&&cx i i'
   | _=>false)
 | .bd zero parts,op=>(match op with
   | .build t ps=>(match zeroOf P t with | some z=>As.relVD z.cells.toList zero | none=>false)&&(match P.underlying t with
     | some (.struct fs)=>(match cK (placeOf P) fs.toList with | some pl=>tF cx (fun i:Nat=>pl[i]?) parts ps.toList | none=>false)
     | some (.array _ e)=>(match vd P e with | some sz=>tF cx (fun i:Nat=>some (i*sz,sz)) parts ps.toList | none=>false)
     | _=>false)
   | _=>false)
 | .bs xs sz,op=>(match op with
   | .buildSlice t n ps=>NG P cx xs sz t n ps.toList
   | _=>false)
 | .bsr xs sz,op=>(match op with
   | .buildSlice t n ps=>NG P cx xs sz t n ps.toList
   | _=>false)
 | .bsq x,op=>(match op with
   | .buildSlice t n ps=>NG P cx [x] 1 t n ps.toList
   | _=>false)
 | .ld x n agg,op=>(match op with
   | .load t a=>decide (vd P t=some n)&&decide (Kc P t=some agg)&&cx x a
   | _=>false)
 | .st a x n _,op=>(match op with
   | .store t a' x'=>decide (vd P t=some n)&&cx a a'&&cx x x'
   | _=>false)
 | .ln x,op=>(match op with
   | .call ⟨.builtin .len,⟨[y]⟩,⟨[t]⟩⟩=>yW P t&&cx x y
   | _=>false)
 | .mn xs,op=>(match op with
   | .call ⟨.builtin .min,ys,_⟩=>EU cx xs ys.toList
   | _=>false)
 | .mx xs,op=>(match op with
   | .call ⟨.builtin .max,ys,_⟩=>EU cx xs ys.toList
   | _=>false)
 | .sc x lo hi sz,op=>(match op with
   | .slice t y lo' hi' none=>FY P t sz&&cx x y&&ae4 cx lo lo'&&ae4 cx hi hi'
   | _=>false)
 | .s3 x hi mx,op=>(match op with
   | .slice t y none (some hi') (some mx')=>(match P.underlying t with | some (.slice e)=>(vd P e).isSome | _=>false)&&cx x y&&cx hi hi'&&cx mx mx'
   | _=>false)
 | .pop x hi,op=>(match op with
   | .slice t y none (some hi') none=>(match P.underlying t with | some (.slice e)=>(vd P e).isSome | _=>false)&&cx x y&&cx hi hi'
   | _=>false)
 | .ex x i,op=>(match op with
   | .extract y j=>decide (i=j)&&cx x y
   | _=>false)
 | .mf f caps,op=>(match op with
   | .makeFunc (.func j) ⟨[]⟩ captured=>decide (Names.ρ f=some j)&&EU cx caps captured.toList
   | _=>false)
 | .ca f _ _ xs,op=>(match op with
   | .call ⟨.value (.func j),ys,_⟩=>decide (Names.ρ f=some j)&&EU cx xs ys.toList
   | _=>false)
 | .cw x _ _ xs,op=>(match op with
   | .call ⟨.value y,ys,_⟩=>cx x y&&EU cx xs ys.toList
   | _=>false)
 | .app x y _ sz,op=>(match op with
   | .call ⟨.builtin .append,⟨[x',y']⟩,⟨[t,u]⟩⟩=>yV P t sz (fun _=>true)&&yW P u&&cx x x'&&cx y y'
   | _=>false)
 | .cp x y sz,op=>(match op with
   | .call ⟨.builtin .copy,⟨[x',y']⟩,⟨[t,u]⟩⟩=>FY P t sz&&yW P u&&cx x x'&&cx y y'
   | _=>false)
 | .clr x zero sz,op=>(match op with
   | .call ⟨.builtin .clear,⟨[x']⟩,⟨[t]⟩⟩=>yV P t sz (fun z=>As z (.t zero))&&cx x x'
   | _=>false)
 | .bst x,op=>(match op with
   | .convert s d x'=>(match P.underlying s with | some (.slice e)=>(match P.underlying e with | some (.int .u8)=>true | _=>false) | _=>false)&&(match P.underlying d with | some .string=>true | _=>false)&&cx x x'
   | _=>false)
 | .fnz neg x,op=>(match op with
   | .binOp f t x' (.const .nilFunc) _=>decide (f=if neg then .neq else .eql)&&(match P.underlying t with | some (.func _ _ _)=>true | _=>false)&&cx x x'
   | _=>false)
 | .mk len zero sz,op=>(match op with
   | .makeSlice t l c=>yV P t sz (fun z=>As z zero&&zero.lO)&&cx len l&&cx len c
   | _=>false)
 | .mkt len zero sz,op=>(match op with
   | .makeSlice t l c=>yV P t sz (fun z=>As z (.t zero))&&cx len l&&cx len c
   | _=>false)
 | .mkn len zero sz,op=>(match op with
   | .makeSlice t l c=>yV P t sz (fun z=>As z (.t zero))&&cx len l&&cx len c
   | _=>false)
 | .mkw len _ _,op=>(match op with
   | .makeSlice t l c=>yV P t 1 (fun z=>As z .nil)&&cx len l&&cx len c
   | _=>false)
 | .al zero _,op=>(match op with
   | .alloc t=>(match zeroOf P t with | some z=>As.relVD z.cells.toList zero | none=>false)
   | _=>false)
 | .bx x _,op=>(match op with
   | .box _ x'=>cx x x'
   | _=>false)
section
variable {P : Program} {ρ : Operand → Value} {F : Fz} {g : Gh} {H : af} {w : World} {cx : X → Operand → Bool} {get : X → Option D}
theorem As.Kp{z:Value}{zero:List D}(h:As.relVD z.cells.toList zero=true)(F:Fz)(g:Gh)(S:Nat→Option Sh):ya F g S z.cells.toList zero:=by
 obtain⟨h1,h2,h3⟩:=C6 h
 exact⟨h1,h2,h3 F g S⟩
theorem tG{t:TypeId}{z:Value}(h:zeroOf P t=some z)(w:World):(zeroValue t).run P w= .ok z w:=by
 unfold zeroOf at h
 obtain⟨i,hi,hz⟩:=aLa.1 h
 simp[zeroValue,typeInfo,hi,hz]
theorem sC(hx:∀x y d,cx x y=true→get x=some d→bF F g (shp H) (ρ y) d):∀ {xs:List X} {ys:List Operand} {ds:List D},EU cx xs ys=true→cK get xs=some ds→qa F g (shp H) (ys.map ρ) ds
 | [],[],ds,_,h=>by cases h;exact qa.nil
 | [],_::_,_,hc,_=>by simp[EU]at hc
 | _::_,[],_,hc,_=>by simp[EU]at hc
 | x::xs,y::ys,ds,hc,h=>by
   simp only[EU,aLr]at hc
   simp only[cK,aLa,aLb]at h
   obtain⟨d,hd,r,hr,rfl⟩:=h
   exact qa.cons (hx x y d hc.1 hd) (sC hx hc.2 hr)
theorem vB(hx:∀x y d,cx x y=true→get x=some d→bF F g (shp H) (ρ y) d){place:Nat→Option (Nat×Nat)}:∀ {xs:List (Nat×Nat×X)} {ys:List (Nat×Operand)} {ds:List (Nat×Nat×D)},
 tF cx place xs ys=true→qu get xs=some ds→yS F g (shp H) place (ys.map fun p=>(p.1,ρ p.2)) ds
 | [],[],ds,_,h=>by cases h;trivial
 | [],_::_,_,hc,_=>by simp[tF]at hc
 | (_,_,_)::_,[],_,hc,_=>by simp[tF]at hc
 | (off,n,x)::xs,(i,y)::ys,ds,hc,h=>by
   simp only[tF,aLr,decide_eq_true_eq]at hc
   simp only[qu,aLa,aLb]at h
   obtain⟨d,hd,r,hr,rfl⟩:=h
   exact⟨hc.1.1,hx x y d hc.1.2 hd,vB hx hc.2 hr⟩
theorem wP(hx:∀x y d,cx x y=true→get x=some d→bF F g (shp H) (ρ y) d):∀ {xs:List X} {ys:List (Nat×Operand)} {m:Nat} {ds:List D},FX cx m xs ys=true→cK get xs=some ds→
 ∃vs,qa F g (shp H) vs ds∧(ys.map fun p=>(p.1,ρ p.2))=GV m vs
 | [],[],m,ds,_,h=>by cases h;exact⟨[],qa.nil,rfl⟩
 | [],_::_,_,_,hc,_=>by simp[FX]at hc
 | _::_,[],_,_,hc,_=>by simp[FX]at hc
 | x::xs,(i,y)::ys,m,ds,hc,h=>by
   simp only[FX,aLr,decide_eq_true_eq]at hc
   simp only[cK,aLa,aLb]at h
   obtain⟨d,hd,r,hr,rfl⟩:=h
   obtain⟨vs,h1,h2⟩:=wP hx hc.2 hr
   exact⟨ρ y::vs,qa.cons (hx x y d hc.1.2 hd) h1,by simp[GV,h2,hc.1.1]⟩
theorem L8(hx:∀x y d,cx x y=true→get x=some d→bF F g (shp H) (ρ y) d){x:Option X}{y:Option Operand}{n:Option Int}(hc:ae4 cx x y=true)(h:NA get x=some n):yR (y.map ρ) n:=by
 cases x with
 | none=>cases y with
   | none=>cases h;exact .none
   | some y=>simp[ae4]at hc
 | some x=>cases y with
   | none=>simp[ae4]at hc
   | some y=>
     simp only[NA,aLb,aLa]at h
     obtain⟨m,⟨d,hd,hm⟩,rfl⟩:=h
     obtain⟨k,hk⟩:=IH (hx x y d hc hd) hm
     simp only[aLw,hk]
     exact .some k m
theorem L9(hx:∀x y d,cx x y=true→get x=some d→bF F g (shp H) (ρ y) d){x:X}{y:Operand}{n:Int}(hc:cx x y=true)(h:(get x).bind intOf=some n):∃k,ρ y= .int k n:=by
 obtain⟨d,hd,hn⟩:=aLa.1 h
 exact IH (hx x y d hc hd) hn
theorem Out.yld{o:Oper}{s:Sem Value}{r:D}{H':af}(h:Out P s F g H w r H')(he:execOp ρ o=(do pure (.value (← s)))):Yld P ρ o F g H w r H':=by
 obtain⟨v,w',F',g',h1,h2⟩:=h
 exact⟨v,w',F',g',by rw[he];simp[h1],h2⟩
theorem oU{t:TypeId}{sz:Nat}(h:FY P t sz=true):∃e,P.underlying t=some (.slice e)∧vd P e=some sz:=by
 unfold FY at h
 split at h
 · exact⟨_,by assumption,of_decide_eq_true h⟩
 · cases h
theorem yX{t:TypeId}(h:yW P t=true):∃e,P.underlying t=some (.slice e):=by
 unfold yW at h
 split at h
 · exact⟨_,by assumption⟩
 · cases h
theorem Br{t:TypeId}{f:Nat}{fl:Field}(h:G3 P t f=some fl):∃fs,P.underlying t=some (.struct fs)∧fs[f]?=some fl:=by
 unfold G3 at h
 split at h
 · exact⟨_,by assumption,h⟩
 · cases h
theorem m5{t:TypeId}{sz:Nat}{k:Value→Bool}(h:yV P t sz k=true):∃e i z,P.underlying t=some (.slice e)∧P.info? e=some i∧i.size=sz∧i.bytes≤1024∧i.zero=some z∧z.cells.size=i.size∧k z=true:=by
 unfold yV at h
 split at h
 · split at h
   · simp only[aLr,decide_eq_true_eq]at h
     obtain⟨⟨h1,h2⟩,h3⟩:=h
     split at h3
     · simp only[aLr,decide_eq_true_eq]at h3
       exact⟨_,_,_,by assumption,by assumption,h1,h2,by assumption,h3.1,h3.2⟩
     · cases h3
   · cases h
 · cases h
end
end Go.Ev
namespace Go.Ev
open Go
variable [Names]
section
variable {P : Program} {ρ : Operand → Value} {F : Fz} {g : Gh} {H : af} {w : World}
theorem Row.take{S:Nat→Option Sh}{sz:Nat}{news:List Value}{ys:List D}(h:Row F g S sz news ys)(k:Nat):Row F g S sz (news.take (k*sz)) (ys.take k):=by
 refine⟨?_,fun e he=>h.size e (List.mem_of_mem_take he),fun u hu=>h.leaf u (List.mem_of_mem_take hu),fun i e q d he hd=>?_⟩
 · rw[List.length_take,List.length_take,h.len]
   rcases Nat.le_total k ys.length with c | c
   · rw[Nat.min_eq_left c,Nat.min_eq_left (Nat.mul_le_mul_right _ c)]
   · rw[Nat.min_eq_right c,Nat.min_eq_right (Nat.mul_le_mul_right _ c)]
 · have hi:i<k:=by
    have:=(aLe.1 he).1
    rw[List.length_take]at this;omega
   rw[aLo,if_pos hi]at he
   obtain⟨u,k1,k2,k3⟩:=h.cell i e q d he hd
   refine⟨u,?_,k2,k3⟩
   have hq:q<sz:=by rw[← (h.size e (aLd he)).1];exact aj hd
   rw[aLo,if_pos (Bm hi hq)]
   exact k1
theorem Src.take{a:Option Addr}{news:List Value}(h:Src w a news)(k:Nat):Src w a (news.take k):=by
 rcases h with rfl | ⟨b,o,rfl,h⟩
 · exact .inl (by simp)
 · refine .inr ⟨b,o,rfl,fun j v hv=>h j v ?_⟩
   rw[aLo]at hv
   split at hv
   · exact hv
   · cases hv
theorem FZ{sz k m c:Nat}{a:Option Addr}{news:List Value}(hs:Src w a news)(hl:news.length=k*sz):(Builtin.firstCells sz k (.slice a m c)).run P w= .ok news.toArray w:=by
 rcases hs with rfl | ⟨b,o,rfl,h⟩
 · have h0:k*sz=0:=by simpa using hl.symm
   cases a with
   | none=>exact run_firstCells_none (P:=P) w sz k m c
   | some ad=>
     simp only[Builtin.firstCells,h0]
     simp[loadCells,loadCellsFrom]
 · exact run_firstCells_some (P:=P) w sz k _ m c news hl fun j v hv=>by rw[iH];exact h j v hv
theorem VO{sz ep lo:Nat}{id b cap:Nat}{es ys:List D}{news:List Value}(hH:az F g H w)(hg:g[id]?=some ⟨some b,cap⟩)(hid:H[id]?=some (.arr sz false ep es))
 (hrow:Row F g (shp H) sz news ys) (hfit:lo+ys.length≤es.length):
 ∃w' g',(storeCells ⟨b,lo*sz,none⟩ news).run P w= .ok () w'∧az F g' (H.set id (.arr sz false ep (es.take lo++ys++es.drop (lo+ys.length)))) w'∧Ext F g w F g' w'∧
  Aft g H g' (H.set id (.arr sz false ep (es.take lo++ys++es.drop (lo+ys.length)))):=by
 rcases hH.fits id _ _ hid hg with⟨h1,_⟩ | ⟨b',cur,bt,hb,hc,hsz,hle,hz,hcell,hfz⟩
 · cases h1
 · cases hb
   have hFno:∀o,F b o=none:=by
    intro o
    cases hv:F b o with
    | none=>rfl
    | some v=>have:=(hfz o v hv).1;cases this
   have hln:=hrow.len
   have hle:es.length≤cap:=hle
   have hsz:cur.size=cap*sz:=hsz
   have hcells:lo*sz+news.length≤cur.toList.length:=by
    rw[hln,←Nat.add_mul];simp only[Array.length_toList,hsz]
    exact Nat.mul_le_mul_right _ (by omega)
   obtain⟨r,hr⟩:∃r,bq cur.toList (lo*sz) news=some r:=by unfold bq;rw[if_pos hcells];exact⟨_,rfl⟩
   obtain⟨r1,r2,r3⟩:=ez hr
   have hst:=run_storeCells_at P b (lo*sz) bt news 0 cur w hc (by simpa using hcells) (fun v hv=>by rw[yU];exact hrow.leaf v hv)
   have hrw:(cur.toList.take (lo*sz+0)++news++cur.toList.drop (lo*sz+0+news.length))=r:=by
    unfold bq at hr
    rw[if_pos hcells]at hr
    cases hr
    simp
   rw[hrw]at hst
   have hlen:(es.take lo++ys++es.drop (lo+ys.length)).length=es.length:=by
    simp only[aLv,List.length_take,List.length_drop];omega
   have hget:∀q:Nat,(es.take lo++ys++es.drop (lo+ys.length))[q]?=if q<lo then es[q]? else if q<lo+ys.length then ys[q-lo]? else es[q]?:=by
    intro q
    have l1:(es.take lo).length=lo:=by rw[List.length_take];omega
    by_cases h1:q<lo
    · rw[if_pos h1,List.append_assoc,aLg (by omega),aLo,if_pos h1]
    · rw[if_neg h1]
      by_cases h2:q<lo+ys.length
      · rw[if_pos h2,aLg (by rw[aLv];omega),aLh (by omega),l1]
      · rw[if_neg h2,aLh (by rw[aLv];omega),aLv,l1,List.getElem?_drop]
        congr 1;omega
   have hA:Aft g H (g.set id ⟨some b,cap⟩) (H.set id (.arr sz false ep (es.take lo++ys++es.drop (lo+ys.length)))):=
    Aft.set hg hid (.inr ⟨sz,ep,es.length,sz,ep,es.length,rfl,by simp only[Obj.sh,hlen],.inr ⟨rfl,rfl,rfl,rfl⟩⟩)
   have hoth:∀b1,b1<w.heap.size→(⟨some b,cap⟩:OG).blk≠some b1→(w.setRow b r.toArray).heap[b1]?=w.heap[b1]?:=fun b1 _ hne=>setRow_other w b b1 _ (fun e=>hne (by simp[e]))
   have hall:∀x∈es.take lo++ys++es.drop (lo+ys.length),x.cells.length=sz∧x.lO=true:=by
    intro x hx
    rcases List.mem_append.1 hx with h1 | h1
    · rcases List.mem_append.1 h1 with h2 | h2
      · exact hz x (List.mem_of_mem_take h2)
      · exact hrow.size x h2
    · exact hz x (List.mem_of_mem_drop h1)
   refine⟨_,g.set id ⟨some b,cap⟩,hst,?_,?_,hA⟩
   · refine hH.upd hg hid hA (.inr ⟨b,r.toArray,bt,rfl,setRow_heap w b cur _ bt _ hc,by simpa [r2]using hsz,by rw[hlen];exact hle,hall,?_,?_⟩) (fun b hb=> .inl hb) hoth ?_
     · intro q x k d hx hd
       have hk:k<sz:=by rw[← (hall x (aLd hx)).1];exact aj hd
       rw[hget q]at hx
       have old_:es[q]?=some x→(q<lo∨lo+ys.length≤q)→∃u,r.toArray[q*sz+k]?=some u∧fM u=true∧bF F (g.set id ⟨some b,cap⟩) (shp (H.set id (.arr sz false ep (es.take lo++ys++es.drop (lo+ys.length))))) u d:=by
        intro hx hq
        obtain⟨u,k1,k2,k3⟩:=hcell q x k d hx hd
        refine⟨u,?_,k2,k3.aft (mS.refl F) hA⟩
        have hne:¬(lo*sz≤q*sz+k∧q*sz+k<lo*sz+news.length):=by
         intro hc2
         rcases hq with h5 | h5
         · have:=Bm (sz:=sz) h5 hk
           omega
         · have:(lo+ys.length)*sz≤q*sz:=Nat.mul_le_mul_right _ h5
           rw[Nat.add_mul]at this
           omega
        have:=r3 (q*sz+k)
        rw[if_neg hne]at this
        simpa [this]using k1
       by_cases h1:q<lo
       · rw[if_pos h1]at hx
         exact old_ hx (.inl h1)
       · rw[if_neg h1]at hx
         by_cases h2:q<lo+ys.length
         · rw[if_pos h2]at hx
           obtain⟨u,k1,k2,k3⟩:=hrow.cell _ x k d hx hd
           refine⟨u,?_,k2,k3.aft (mS.refl F) hA⟩
           have hkk:q*sz+k=lo*sz+((q-lo)*sz+k):=by
            rw[← Nat.add_assoc,←Nat.add_mul];congr 2;omega
           have hin:=aj k1
           have:=r3 (q*sz+k)
           rw[if_pos (by omega),hkk,Nat.add_sub_cancel_left,k1]at this
           rw[← hkk]at this
           simpa using this
         · rw[if_neg h2]at hx
           exact old_ hx (.inr (by omega))
     · intro o v hv;rw[hFno o]at hv;cases hv
     · intro b1 o v hv hb
       cases hb
       rw[hFno o]at hv;cases hv
   · exact Ext.upd hg (by rw[setRow_size];exact aLs _) (fun b hb=> .inl hb) hoth
theorem G4{t u ty e:TypeId}{sz:Nat}(ht:P.underlying t=some (.slice e))(hs:vd P e=some sz){b o dLen dCap m c k:Nat}{a:Option Addr}{news:List Value}(hk:k=min m dLen)
 (hsrc:Src w a news) (hl:news.length=k*sz) {w':World} (hst:(storeCells ⟨b,o,none⟩ news).run P w= .ok () w'):
 (Builtin.copy_ #[t,u] ty #[.slice (some ⟨b,o,none⟩) dLen dCap,.slice a m c]).run P w= .ok (.int .i64 k) w':=by
 have hf:=FZ (P:=P) (m:=m) (c:=c) hsrc hl
 have hk':Nat.min m dLen=k:=hk.symm
 simp[Builtin.copy_,run_underlying ht,run_sizeOf hs,Builtin.lenOf,hk',hf,hst,goInt]
theorem tH{t u ty e:TypeId}{sz:Nat}(ht:P.underlying t=some (.slice e))(hs:vd P e=some sz){base a:Option Addr}{dLen dCap m c:Nat}(hk:min m dLen=0):
 (Builtin.copy_ #[t,u] ty #[.slice base dLen dCap,.slice a m c]).run P w= .ok (.int .i64 0) w:=by
 have hf:=FZ (P:=P) (w:=w) (sz:=sz) (k:=0) (m:=m) (c:=c) (a:=a) (news:=[]) (.inl rfl) (by simp)
 have hk':Nat.min m dLen=0:=hk
 cases base<;>simp[Builtin.copy_,run_underlying ht,run_sizeOf hs,Builtin.lenOf,hk',hf,storeCells,goInt]
theorem ak7{t u ty e:TypeId}{sz:Nat}(ht:P.underlying t=some (.slice e))(hs:vd P e=some sz)(hH:az F g H w){vx vy:Value}{x y r:D}{H':af}(hx:bF F g (shp H) vx x)(hy:bF F g (shp H) vy y)
 (h:ES H x y sz=some (r,H')):Out P (Builtin.copy_ #[t,u] ty #[vx,vy]) F g H w r H':=by
 unfold ES at h
 obtain⟨ys,he,h⟩:=aLa.1 h
 split at h
 · rename_i hhs
   obtain⟨a,c,news,rfl,hrow,hsrc⟩:=uw hH hy he hhs
   -- the destination is this row of an array
   have main:∀ {id ep lo hi:Nat} {ar:Nat×Bool×List D},H[id]?=some (.arr ar.1 ar.2.1 ep ar.2.2)→hi≤ar.2.2.length→Xw H id ep ar lo hi ys sz=some (r,H')→
    ((∃b cap dc,g[id]?=some ⟨some b,cap⟩∧vx= .slice (some ⟨b,lo*ar.1,none⟩) (hi-lo) dc)∨(hi-lo=0∧∃a dc,vx= .slice a 0 dc))→Out P (Builtin.copy_ #[t,u] ty #[vx,.slice a ys.length c]) F g H w r H':=by
    intro id ep lo hi ar hid hn hp hv
    unfold Xw at hp
    split at hp
    · rename_i h0
      cases hp
      rcases hv with⟨b,cap,dc,hg,rfl⟩ | ⟨h1,a',dc,rfl⟩
      · exact⟨_,w,F,g,tH ht hs h0,.t _ _ (.int _ _),hH,Ext.refl _ _ _,Aft.refl _ _⟩
      · exact⟨_,w,F,g,tH ht hs (by omega),.t _ _ (.int _ _),hH,Ext.refl _ _ _,Aft.refl _ _⟩
    · rename_i h0
      split at hp
      · rename_i hcnd
        obtain⟨hpin,hsz⟩:=hcnd
        cases hp
        rcases hv with⟨b,cap,dc,hg,rfl⟩ | ⟨h1,a',dc,rfl⟩
        · subst hsz
          rw[hpin]at hid
          have hrow':=hrow.take (min ys.length (hi-lo))
          have hl:(ys.take (min ys.length (hi-lo))).length=min ys.length (hi-lo):=by rw[List.length_take];omega
          obtain⟨w',g',q1,q2,q3,q4⟩:=VO (P:=P) (lo:=lo) hH hg hid hrow' (by rw[hl];omega)
          rw[hl]at q2 q4
          refine⟨_,w',F,g',G4 ht hs rfl (hsrc.take _) ?_ q1,.t _ _ (.int _ _),q2,q3,q4⟩
          rw[hrow'.len,hl]
        · omega
      · cases hp
   split at h
   · rename_i id ep n _
     obtain⟨ar,ha,h⟩:=aLa.1 h
     obtain⟨hid,hn⟩:=eK ha
     refine main hid (by omega) h ?_
     obtain⟨og,hog,hbn,rfl⟩:=hx.vv hid hn
     rcases (hH.fits id _ og hid hog).old hbn with⟨h1,h2⟩ | ⟨b,cur,bt,hb,hc,_⟩
     · have:n=0:=by rw[hn,h2];rfl
       exact .inr ⟨by omega,none,0,by simp[dE,h1,this]⟩
     · obtain⟨blk,cap⟩:=og
       cases hb
       exact .inl ⟨b,cap,cap,hog,by simp[dE]⟩
   · rename_i id ep n lo hi _
     obtain⟨ar,ha,h⟩:=aLa.1 h
     obtain⟨hid,hn⟩:=eK ha
     rcases hx.Ao hid hn with⟨b,cc,cap',hg,hlt,hle,hcap,rfl⟩ | ⟨hle,a',cap',rfl⟩
     · exact main hid (by omega) h (.inl ⟨b,cc,cap',hg,rfl⟩)
     · unfold Xw at h
       rw[if_pos (by omega)]at h
       cases h
       exact⟨_,w,F,g,tH ht hs (by omega),.t _ _ (.int _ _),hH,Ext.refl _ _ _,Aft.refl _ _⟩
   · cases h
 · cases h
end
end Go.Ev
namespace Go.Ev
open Go
variable [Names]
section
variable {P : Program} {ρ : Operand → Value} {F : Fz} {g : Gh} {H : af} {w : World}
theorem TK{i:TypeInfo}{z:Value}(hzs:z.cells.size=i.size){zero:T}{S:Nat→Option Sh}(hzr:bF F g S z (.t zero))(n:Nat):
 Row F g S i.size (Builtin.zeroCells z.cells n).toList (List.replicate n (.t zero)):=by
 have hC:=gO hzr rfl
 have hzl:(D.t zero).cells.length=i.size:=by rw[← hC.1];simpa using hzs
 refine⟨by simp[size_zeroCells,hzs],fun d hd=>?_,fun u hu=>?_,fun j d p y hd hy=>?_⟩
 · rw[List.eq_of_mem_replicate hd];exact⟨hzl,rfl⟩
 · obtain⟨q,hq⟩:=aLf.1 hu
   have hl:=aj hq
   simp[size_zeroCells]at hl
   simp only[Builtin.zeroCells,Array.toList_map,Array.toList_range,aLn,aLp hl,aLw,Option.some.injEq]at hq
   have hp:0<z.cells.size:=by
    rcases Nat.eq_zero_or_pos z.cells.size with h | h
    · rw[h]at hl;simp at hl
    · exact h
   have hm:=Nat.mod_lt q hp
   rw[getElem!_pos z.cells _ hm]at hq
   rw[← hq]
   exact hC.2.1 _ (by simp)
 · have hj:=aj hd
   have hde:=List.eq_of_mem_replicate (aLd hd)
   subst hde
   have hp:=aj hy
   rw[hzl]at hp
   obtain⟨u,hu⟩:=ah hC.1.symm hy
   refine⟨u,?_,hC.2.1 u (aLd hu),hC.2.2 p u y hu hy⟩
   have hlt:j*i.size+p<n*i.size:=Bm (by simpa using hj) hp
   have hmod:(j*i.size+p) % i.size=p:=by
    rw[Nat.add_comm,Nat.add_mul_mod_self_right,Nat.mod_eq_of_lt hp]
   have hps:p<z.cells.size:=by omega
   simp only[Builtin.zeroCells,Array.toList_map,Array.toList_range,aLn,hzs]
   rw[aLp hlt,aLw,hmod]
   have:z.cells[p]?=some u:=by simpa using hu
   rw[getElem!_pos z.cells p hps]
   rw[Array.getElem?_eq_getElem hps]at this
   exact this
theorem ye{t ty:TypeId}{d:TypeDesc}(ht:P.underlying t=some d){a:Option Addr}{c:Nat}:(Builtin.clear_ #[t] ty #[.slice a 0 c]).run P w= .ok (.tuple #[]) w:=by
 cases a<;>cases d<;>simp[Builtin.clear_,run_underlying ht]
theorem Kq{t ty e:TypeId}(ht:P.underlying t=some (.slice e)){z:Value}(hz:(zeroValue e).run P w= .ok z w){a:Addr}{n c:Nat}(hn:n≠0){w':World}
 (hst:(storeCells a (Builtin.zeroCells z.cells n).toList).run P w= .ok () w'):(Builtin.clear_ #[t] ty #[.slice (some a) n c]).run P w= .ok (.tuple #[]) w':=by
 cases n with
 | zero=>exact(hn rfl).elim
 | succ n=>simp[Builtin.clear_,run_underlying ht,hz,hst]
theorem ae5{t ty e:TypeId}{i:TypeInfo}{z:Value}(ht:P.underlying t=some (.slice e))(hi:P.info? e=some i)(hz:i.zero=some z)(hzs:z.cells.size=i.size)(hH:az F g H w)
 {zero:T} (hzr:bF F g (shp H) z (.t zero)) {vx:Value} {x r:D} {H':af} (hx:bF F g (shp H) vx x) (h:PF H x zero i.size=some (r,H')):Out P (Builtin.clear_ #[t] ty #[vx]) F g H w r H':=by
 have hzv:(zeroValue e).run P w= .ok z w:=by simp[zeroValue,typeInfo,hi,hz]
 have rt:∀(F:Fz) (g:Gh) (S:Nat→Option Sh),bF F g S (.tuple #[]) (.tup []):=fun F g S=> .tup [] [] rfl (fun i v c h=>by simp at h)
 have main:∀ {id ep lo hi':Nat} {ar:Nat×Bool×List D},H[id]?=some (.arr ar.1 ar.2.1 ep ar.2.2)→hi'≤ar.2.2.length→aeJ H id ep ar lo hi' zero i.size=some (r,H')→
  ((∃b cap dc,g[id]?=some ⟨some b,cap⟩∧vx= .slice (some ⟨b,lo*ar.1,none⟩) (hi'-lo) dc)∨(hi'-lo=0∧∃a dc,vx= .slice a 0 dc))→Out P (Builtin.clear_ #[t] ty #[vx]) F g H w r H':=by
  intro id ep lo hi' ar hid hn hp hv
  unfold aeJ at hp
  split at hp
  · rename_i h0
    cases hp
    rcases hv with⟨b,cap,dc,hg,rfl⟩ | ⟨h1,a',dc,rfl⟩
    · rw[h0];exact⟨_,w,F,g,ye ht,rt _ _ _,hH,Ext.refl _ _ _,Aft.refl _ _⟩
    · exact⟨_,w,F,g,ye ht,rt _ _ _,hH,Ext.refl _ _ _,Aft.refl _ _⟩
  · rename_i h0
    split at hp
    · rename_i hcnd
      obtain⟨hpin,hsz⟩:=hcnd
      cases hp
      rcases hv with⟨b,cap,dc,hg,rfl⟩ | ⟨h1,a',dc,rfl⟩
      · rw[hsz,hpin]at hid
        have hrow:=TK hzs hzr (hi'-lo)
        obtain⟨w',g',q1,q2,q3,q4⟩:=VO (P:=P) (lo:=lo) hH hg hid hrow (by rw[List.length_replicate];omega)
        rw[List.length_replicate]at q2 q4
        rw[hsz]
        exact⟨_,w',F,g',Kq ht hzv h0 q1,rt _ _ _,q2,q3,q4⟩
      · omega
    · cases hp
 unfold PF at h
 split at h
 · rename_i id ep n
   obtain⟨ar,ha,h⟩:=aLa.1 h
   obtain⟨hid,hn⟩:=eK ha
   refine main hid (by omega) h ?_
   obtain⟨og,hog,hbn,rfl⟩:=hx.vv hid hn
   rcases (hH.fits id _ og hid hog).old hbn with⟨h1,h2⟩ | ⟨b,cur,bt,hb,hc,_⟩
   · have:n=0:=by rw[hn,h2];rfl
     exact .inr ⟨by omega,none,0,by simp[dE,h1,this]⟩
   · obtain⟨blk,cap⟩:=og
     cases hb
     exact .inl ⟨b,cap,cap,hog,by simp[dE]⟩
 · rename_i id ep n lo hi'
   obtain⟨ar,ha,h⟩:=aLa.1 h
   obtain⟨hid,hn⟩:=eK ha
   rcases hx.Ao hid hn with⟨b,cc,cap',hg,hlt,hle,hcap,rfl⟩ | ⟨hle,a',cap',rfl⟩
   · exact main hid (by omega) h (.inl ⟨b,cc,cap',hg,rfl⟩)
   · unfold aeJ at h
     rw[if_pos (by omega)]at h
     cases h
     exact⟨_,w,F,g,ye ht,rt _ _ _,hH,Ext.refl _ _ _,Aft.refl _ _⟩
 · cases h
theorem Kr{x:T}{b:UInt8}(h:byteOf x=some b):∃n,x= .int .u8 n∧b=UInt8.ofNat n.toNat:=by
 unfold byteOf at h
 split at h
 · cases h;exact⟨_,rfl,rfl⟩
 · cases h
theorem Ma:∀(bs:List UInt8) (s:ByteArray),bs.foldl ByteArray.push s=⟨s.data++bs.toArray⟩
 | [],s=>by simp
 | b::bs,s=>by rw[List.foldl_cons,Ma bs];cases s;simp[ByteArray.push]
theorem Dh{a:Addr}{len c:Nat}{vs:List Value}{bs:List UInt8}(hl:vs.length=len)(hb:bs.length=len)(hc:(loadCells a len).run P w= .ok vs.toArray w)
 (h:∀(j:Nat) v b,vs[j]?=some v→bs[j]?=some b→∃n,v= .int .u8 n∧b=UInt8.ofNat n.toNat):(Conv.bytesToString (.slice (some a) len c)).run P w= .ok (.string ⟨bs.toArray⟩) w:=by
 have key:∀(f:Value→ByteArray→Sem (ForInStep ByteArray)),(∀n s,(f (.int .u8 n) s).run P w= .ok (.yield (s.push (UInt8.ofNat n.toNat))) w)→∀(vs:List Value) (bs:List UInt8) (s:ByteArray),vs.length=bs.length→
  (∀(j:Nat) v b,vs[j]?=some v→bs[j]?=some b→∃n,v= .int .u8 n∧b=UInt8.ofNat n.toNat)→(forIn vs s f).run P w= .ok (bs.foldl ByteArray.push s) w:=by
  intro f hf vs
  induction vs with
  | nil=>
    intro bs s hl _
    have:bs=[]:=List.eq_nil_of_length_eq_zero (by simpa using hl.symm)
    subst this
    simp
  | cons v vs ih=>
    intro bs s hl hr
    cases bs with
    | nil=>simp at hl
    | cons b bs=>
      obtain⟨n,rfl,rfl⟩:=hr 0 v b rfl rfl
      have:=ih bs (s.push (UInt8.ofNat n.toNat)) (by simpa using hl) fun j v b h1 h2=>hr (j+1) v b (by simpa using h1) (by simpa using h2)
      simp only[List.forIn_cons,Sem.run_bind,hf,Result.andThen_ok,List.foldl_cons]
      exact this
 have e:(ByteArray.empty.data++bs.toArray)=bs.toArray:=by show #[]++_=_;simp
 simp only[Conv.bytesToString,Sem.run_bind,hc,Result.andThen_ok]
 rw[← Array.forIn_toList,key _ (fun n s=>by simp) vs bs _ (by omega) h,Ma,e]
 simp
theorem Di{t:TypeId}{ps rs:Array TypeId}{vr:Bool}(hu:P.underlying t=some (.func ps rs vr))(d:Nat)(f:Go.Fn)(bs cs:Array Value):(Op.equalIn (d+1) t (.func f bs cs) .nilFunc).run P w= .ok false w:=by
 simp[Op.equalIn,run_underlying hu]
theorem XL{neg:Bool}{f:BinOp}(hf:f=if neg then .neq else .eql){t:TypeId}{ps rs:Array TypeId}{vr:Bool}(hu:P.underlying t=some (.func ps rs vr)){a d:D}{va:Value}
 (ha:bF F g (shp H) va a) (h:ak2 neg a=some d) (x:Operand):
 ∃v,(do eqGuard f t x (.const .nilFunc) va .nilFunc;binOp f t va .nilFunc:Sem Value).run P w= .ok v w∧fM v=true∧bF F g (shp H) v d:=by
 unfold ak2 at h
 split at h
 · cases h
   cases ha with
   | fn f' j hj vs cs hl hr=>
     refine⟨.bool neg,?_,rfl,.t _ _ (.bool _)⟩
     have e:=Di (P:=P) (w:=w) hu 9999 (.func j) #[] vs.toArray
     have gd:(eqGuard f t x (.const .nilFunc) (.func (.func j) #[] vs.toArray) .nilFunc)=pure ():=by cases f<;>rfl
     simp only[Sem.run_bind,gd,Sem.run_pure,Result.andThen_ok]
     subst hf
     cases neg
     · show((do pure (.bool (← Op.equal t (.func (.func j) #[] vs.toArray) .nilFunc)):Sem Value)).run P w=_
       rw[Sem.run_bind,show(Op.equal t (.func (.func j) #[] vs.toArray) .nilFunc).run P w= .ok false w from e];rfl
     · show((do pure (.bool (!(← Op.equal t (.func (.func j) #[] vs.toArray) .nilFunc))):Sem Value)).run P w=_
       rw[Sem.run_bind,show(Op.equal t (.func (.func j) #[] vs.toArray) .nilFunc).run P w= .ok false w from e];rfl
 · cases h
theorem XM{s e d:TypeId}(hs:P.underlying s=some (.slice e))(he:P.underlying e=some (.int .u8))(hd:P.underlying d=some .string)(hH:az F g H w){vx:Value}{x r:D}(hx:bF F g (shp H) vx x)
 (h:PG x=some r):∃v,(convert s d vx).run P w= .ok v w∧bF F g (shp H) v r:=by
 have cv:∀a n c,(convert s d (.slice a n c)).run P w=(Conv.bytesToString (.slice a n c)).run P w:=by
  intro a n c
  cases a<;>simp[convert,run_underlying hs,run_underlying hd,run_underlying he]
 unfold PG at h
 split at h
 · rename_i es
   obtain⟨bs,hb,rfl⟩:=aLb.1 h
   obtain⟨l1,l2⟩:=bI hb
   cases hx with | t _ _ hx=>
   refine⟨.string ⟨bs.toArray⟩,?_,.t _ _ (.str _)⟩
   cases hx with
   | sl0 a cap=>
     have:bs=[]:=List.eq_nil_of_length_eq_zero (by simpa using l1.symm)
     subst this
     rw[cv]
     cases a with
     | none=>simp[Conv.bytesToString];rfl
     | some a=>exact Dh (vs:=[]) rfl rfl (by simp[loadCells,loadCellsFrom]) (fun j v b h=>by simp at h)
   | sl b off cap sz es cvv hcap hsz hF hr=>
     rw[cv]
     by_cases h0:es=[]
     · subst h0
       have:bs=[]:=List.eq_nil_of_length_eq_zero (by simpa using l1.symm)
       subst this
       exact Dh (vs:=[]) rfl rfl (by simp[loadCells,loadCellsFrom]) (fun j v b h=>by simp at h)
     · have one:∀(i:Nat) e',es[i]?=some e'→∃n,e'= .int .u8 n∧bs[i]?=some (UInt8.ofNat n.toNat):=by
        intro i e' hi
        have hlt:i<bs.length:=by have:=aj hi;omega
        have hbi:bs[i]?=some bs[i]:=aLc hlt
        have:=l2 i e' _ hi hbi
        obtain⟨n,rfl,hn⟩:=Kr this
        exact⟨n,rfl,by rw[hbi,hn]⟩
       have hsz1:sz=1:=by
        cases es with
        | nil=>exact(h0 rfl).elim
        | cons e' es'=>
          obtain⟨n,rfl,_⟩:=one 0 e' rfl
          exact(hsz _ List.mem_cons_self).symm
       subst hsz1
       have lc:=run_loadCells_list (P:=P) w ⟨b,off,none⟩ ((List.range es.length).map fun i=>cvv i 0) (fun j v hj=>by
        rw[aLn]at hj
        obtain⟨j',hj',rfl⟩:=aLb.1 hj
        have hlt:=aj hj'
        rw[List.length_range]at hlt
        rw[aLp hlt]at hj'
        cases hj'
        obtain⟨n,hn,_⟩:=one j _ (aLc hlt)
        have:=(hF j _ 0 (.int .u8 n) (aLc hlt) (by rw[hn];rfl)).1
        rw[iH]
        exact hH.agree b _ _ (by simpa using this))
       rw[List.length_map,List.length_range]at lc
       refine Dh (by simp) (by omega) lc (fun j v b h1 h2=>?_)
       rw[aLn]at h1
       obtain⟨j',hj',rfl⟩:=aLb.1 h1
       have hlt:=aj hj'
       rw[List.length_range]at hlt
       rw[aLp hlt]at hj'
       cases hj'
       obtain⟨n,hn,hb'⟩:=one j _ (aLc hlt)
       rw[hb']at h2
       cases h2
       have:=hr j _ 0 (.int .u8 n) (aLc hlt) (by rw[hn];rfl)
       refine⟨n,?_,rfl⟩
       generalize cvv j 0=q at this
       cases this
       rfl
 · cases h
   cases hx
   exact⟨.string ⟨#[]⟩,by rw[cv];simp[Conv.bytesToString];rfl,.t _ _ (.str _)⟩
 · cases h
end
end Go.Ev
namespace Go.Ev
open Go
variable [Names]
def ae6 : String := "runtime.NumGoroutine"
structure yY(P:Program):Prop where
 body:∀f j,Names.ρ f=some j→∃fu c,P.funcs[j]?=some fu∧fu.name≠ae6∧fu.body=some c
 chunk:∀f j,Names.ρ f=some j→Names.it f=true→GO P j
section
variable {P : Program} {call : aU} {ρ : Operand → Value} {F : Fz} {g : Gh} {H : af} {w : World} {cx : X → Operand → Bool} {get : X → Option D}
theorem Bt{f:FuncId}{fu:Func}{c:Code}(h:P.funcs[f]?=some fu)(hn:fu.name≠ae6)(hb:fu.body=some c)(args:Array Value):(callFunc f args).run P w= .ok (.enter f args) w:=by
 unfold ae6 at hn
 simp[callFunc,h,hn,hb]
theorem NH{c a b d:D}(h:TC c a b=some d):∃x,c= .t (.bool x)∧d=if x then a else b:=by
 unfold TC at h
 split at h
 · cases h;exact⟨_,rfl,rfl⟩
 · cases h
theorem XN{v:Value}{a d:D}(r1:bF F g (shp H) v a)(hd:aiB a=some d):∃p,v= .pointer (some p)∧d=a:=by
 unfold aiB at hd
 split at hd
 · cases hd;cases r1;exact⟨_,rfl,rfl⟩
 · cases hd;cases r1<;>exact⟨_,rfl,rfl⟩
 · cases hd;cases r1;exact⟨_,rfl,rfl⟩
 · cases hd
theorem PX(ht:yY P)(hcall:od P call)(hH:az F g H w){o:Oper}{vs:List Value}{ds:List D}(hrel:qa F g (shp H) vs ds){f raw:Nat}{keep:List Nat}{r:D}{H':af}
 (h:yL call H f raw keep ds=some (r,H')) {K:Value→World→Prop} (hK:abM F g H w r H' K)
 {j:Nat} (hj:Names.ρ f=some j) (he:∀fu c,P.funcs[j]?=some fu→fu.name≠ae6→fu.body=some c→(execOp ρ o).run P w= .ok (.enter j vs.toArray) w):L6 P ρ o w K:=by
 have hC:=TF hcall hH hrel h hK hj
 obtain⟨fu,c,h1,h2,h3⟩:=ht.body f j hj
 unfold L6
 rw[he fu c h1 h2 h3]
 exact hC
theorem IN{α β:Type}(ρ:α→β)(ys:Array α):ys.map ρ=(ys.toList.map ρ).toArray:=by
 cases ys;simp
theorem ae7(ht:yY P)(hcall:od P call)(hρ:∀j,ρ (.func j)= .func (.func j) #[] #[])(hρc:∀v,ρ (.const v)=v)
 (hx:∀x y d,cx x y=true→get x=some d→bF F g (shp H) (ρ y) d) (hH:az F g H w) {o:O} {op:Oper} (hc:XK P cx o op.op=true)
 {r:D} {H':af} (h:evO call get H o=some (r,H')) {K:Value→World→Prop} (hK:abM F g H w r H' K):L6 P ρ op w K:=by
 obtain⟨dst,opo,ty,pos,aft,gd⟩:=op
 simp only at hc
 -- an operation that only computes
 have pure_:∀(s:Sem Value) (v:Value),H'=H→execOp ρ ⟨dst,opo,ty,pos,aft,gd⟩=(do pure (.value (← s)))→s.run P w= .ok v w→bF F g (shp H) v r→L6 P ρ ⟨dst,opo,ty,pos,aft,gd⟩ w K:=by
  intro s v hH' he hs hr
  subst hH'
  exact(Yld.pure hH v (by rw[he];simp[hs]) hr).to hK
 cases o<;>simp only[XK]at hc<;>simp only[evO]at h
 case mv x=>
  obtain⟨d,hd,he⟩:=aLb.1 h
  cases he
  split at hc
  · rename_i y
    exact pure_ (pure (ρ y)) _ rfl rfl rfl (hx _ _ _ hc hd)
  · rename_i y
    exact pure_ (pure (ρ y)) _ rfl rfl rfl (hx _ _ _ hc hd)
  · cases hc
 case nw sz=>
  split at hc
  · cases h
    obtain⟨g',h1,h2,h3,h4⟩:=add_nil hH sz
    exact Yld.to ⟨.slice none 0 0,w,F,g',by simp[execOp,hρc],h4,h1,h2,h3⟩ hK
  · cases hc
 case pk c a b=>
  obtain⟨dc,hdc,h⟩:=aLa.1 h
  obtain⟨da,hda,h⟩:=aLa.1 h
  obtain⟨db,hdb,h⟩:=aLa.1 h
  obtain⟨d,hd,he⟩:=aLb.1 h
  cases he
  split at hc
  · rename_i c' a' b'
    simp only[aLr]at hc
    obtain⟨⟨c1,c2⟩,c3⟩:=hc
    have r1:=hx _ _ _ c1 hdc
    have r2:=hx _ _ _ c2 hda
    have r3:=hx _ _ _ c3 hdb
    obtain⟨bb,rfl,rfl⟩:=NH hd
    generalize hv:ρ c'=vc at r1
    cases r1 with | t _ _ r1=>
    cases r1
    refine pure_ (do pure (if←asBool (ρ c')then ρ a' else ρ b')) (if bb then ρ a' else ρ b') rfl (by simp[execOp]) (by simp[hv,asBool]) ?_
    cases bb
    · exact r3
    · exact r2
  · cases hc
 case bin f x y=>
  obtain⟨da,hda,h⟩:=aLa.1 h
  obtain⟨db,hdb,h⟩:=aLa.1 h
  obtain⟨d,hd,he⟩:=aLb.1 h
  cases he
  split at hc
  · rename_i f' t x' y' _
    simp only[aLr,decide_eq_true_eq]at hc
    obtain⟨⟨rfl,c1⟩,c2⟩:=hc
    obtain⟨v,hv,hr⟩:=XD (P:=P) (w:=w) (hx _ _ _ c1 hda) (hx _ _ _ c2 hdb) hd t x' y'
    exact pure_ _ v rfl rfl hv hr
  · cases hc
 case eqk q neg x y=>
  obtain⟨da,hda,h⟩:=aLa.1 h
  obtain⟨db,hdb,h⟩:=aLa.1 h
  obtain⟨d,hd,he⟩:=aLb.1 h
  cases he
  split at hc
  · rename_i f' t x' y' _
    simp only[aLr,decide_eq_true_eq]at hc
    obtain⟨⟨⟨c0,c1⟩,c2⟩,c3⟩:=hc
    obtain⟨v,hr,hl,hv⟩:=TH (P:=P) (w:=w) c0 c1 (hx _ _ _ c2 hda) (hx _ _ _ c3 hdb) hd x' y'
    exact pure_ _ v rfl rfl hr hv
  · cases hc
 case un f x=>
  obtain⟨da,hda,h⟩:=aLa.1 h
  obtain⟨d,hd,he⟩:=aLb.1 h
  cases he
  split at hc
  · rename_i f' t x'
    simp only[aLr,decide_eq_true_eq]at hc
    obtain⟨rfl,c1⟩:=hc
    obtain⟨v,hv,hr⟩:=aeP (P:=P) (w:=w) (hx _ _ _ c1 hda) hd
    exact pure_ _ v rfl rfl hv hr
  · cases hc
 case cv k x=>
  obtain⟨da,hda,h⟩:=aLa.1 h
  obtain⟨d,hd,he⟩:=aLb.1 h
  cases he
  split at hc
  · rename_i s dd x'
    simp only[aLr]at hc
    obtain⟨⟨c1,c2⟩,c3⟩:=hc
    split at c2
    · rename_i j hj
      have:=of_decide_eq_true c2
      subst this
      obtain⟨sd,hsd⟩:=Option.isSome_iff_exists.1 c1
      have r1:=hx _ _ _ c3 hda
      unfold Xy at hd
      split at hd
      · rename_i k0 n
        cases hd
        generalize hv:ρ x'=vc at r1
        cases r1 with | t _ _ r1=>
        cases r1
        refine pure_ (convert s dd (ρ x')) (.int j (j.wrap n)) rfl rfl ?_ (.t _ _ (.int _ _))
        simp[hv,convert,run_underlying hsd,run_underlying hj,Conv.intToInt]
      · cases hd
    · cases c2
  · cases hc
 case nc x=>
  obtain⟨da,hda,h⟩:=aLa.1 h
  obtain⟨d,hd,he⟩:=aLb.1 h
  cases he
  split at hc
  · rename_i x'
    have r1:=hx _ _ _ hc hda
    obtain⟨a,ha,rfl⟩:=XN r1 hd
    exact pure_ (pure (ρ x')) _ rfl (by simp[execOp,ha]) rfl r1
  · cases hc
 case fa x off=>
  obtain⟨da,hda,h⟩:=aLa.1 h
  obtain⟨d,hd,he⟩:=aLb.1 h
  cases he
  split at hc
  · rename_i s x' f
    simp only[aLr]at hc
    obtain⟨c1,c2⟩:=hc
    split at c1
    · rename_i fl hfl
      simp only[aLr,decide_eq_true_eq]at c1
      obtain⟨rfl,c1⟩:=c1
      split at c1
      · rename_i n hn
        have hn0:n≠0:=of_decide_eq_true c1
        obtain⟨fs',hu,hf⟩:=Br hfl
        obtain⟨a,ha,hr⟩:=VM (hx _ _ _ c2 hda) hd
        refine pure_ (Instr.fieldAt s (ρ x') f) _ rfl rfl ?_ hr
        simp[ha,Instr.fieldAt,Instr.sureAddr,run_underlying hu,hf,fieldPlace,run_sizeOf hn,hn0]
      · cases c1
    · cases c1
  · cases hc
 case fl x off n agg=>
  obtain⟨da,hda,h⟩:=aLa.1 h
  obtain⟨d,hd,he⟩:=aLb.1 h
  cases he
  split at hc
  · rename_i s x' f
    simp only[aLr]at hc
    obtain⟨c1,c2⟩:=hc
    split at c1
    · rename_i fl hfl
      simp only[aLr,decide_eq_true_eq]at c1
      obtain⟨⟨rfl,c1⟩,c3⟩:=c1
      obtain⟨fs',hu,hf⟩:=Br hfl
      obtain⟨cs,u,hv,hp,hr⟩:=II (P:=P) (w:=w) (hx _ _ _ c2 hda) hd c1 c3
      refine pure_ (Instr.field s (ρ x') f) u rfl rfl ?_ hr
      simp[hv,Instr.field,run_underlying hu,hf,asAgg,hp]
    · cases c1
  · cases hc
 case ia x i sz=>
  obtain⟨da,hda,h⟩:=aLa.1 h
  obtain⟨n,hn,h⟩:=aLa.1 h
  obtain⟨d,hd,he⟩:=aLb.1 h
  cases he
  split at hc
  · rename_i t x' i'
    simp only[aLr]at hc
    obtain⟨⟨c1,c2⟩,c3⟩:=hc
    obtain⟨e,he,hs⟩:=oU c1
    obtain⟨k,hk⟩:=L9 hx c3 hn
    obtain⟨u,hu,hr⟩:=aeR (P:=P) (k:=k) hH (hx _ _ _ c2 hda) hd he hs
    exact pure_ (Instr.indexAt t (ρ x') (ρ i')) u rfl rfl (by rw[hk];exact hu) hr
  · cases hc
 case iaa x i len sz=>
  obtain⟨da,hda,h⟩:=aLa.1 h
  obtain⟨n,hn,h⟩:=aLa.1 h
  obtain⟨j,hj,h⟩:=aLa.1 h
  split at h
  · rename_i hlt
    obtain⟨d,hd,he⟩:=aLb.1 h
    cases he
    split at hc
    · rename_i t x' i'
      simp only[aLr]at hc
      obtain⟨⟨c1,c2⟩,c3⟩:=hc
      split at c1
      · rename_i m e hu
        simp only[aLr,decide_eq_true_eq]at c1
        obtain⟨rfl,hs⟩:=c1
        obtain⟨k,hk⟩:=L9 hx c3 hn
        obtain⟨a,ha,hr⟩:=VM (hx _ _ _ c2 hda) hd
        have:=oe hj
        subst this
        refine pure_ (Instr.indexAt t (ρ x') (ρ i')) _ rfl rfl ?_ hr
        simp[hk,ha,Instr.indexAt,asIntOf,Instr.sureAddr,run_underlying hu,hlt,run_sizeOf hs]
      · cases c1
    · cases hc
  · cases h
 case ix x i len sz agg=>
  obtain⟨da,hda,h⟩:=aLa.1 h
  obtain⟨n,hn,h⟩:=aLa.1 h
  obtain⟨j,hj,h⟩:=aLa.1 h
  obtain⟨d,hd,he⟩:=aLb.1 h
  cases he
  split at hc
  · rename_i t x' i'
    simp only[aLr]at hc
    obtain⟨⟨c1,c2⟩,c3⟩:=hc
    obtain⟨k,hk⟩:=L9 hx c3 hn
    have hjj:=oe hj
    subst hjj
    unfold FU at hd
    split at c1
    · rename_i m e hu
      simp only[aLr,decide_eq_true_eq]at c1
      obtain⟨⟨⟨rfl,c4⟩,hs⟩,c5⟩:=c1
      rw[if_neg c4]at hd
      split at hd
      · rename_i hlt
        obtain⟨cs,u,hv,hp,hr⟩:=II (P:=P) (w:=w) (hx _ _ _ c2 hda) hd hs c5
        refine pure_ (Instr.index t (ρ x') (ρ i')) u rfl rfl ?_ hr
        simp[hk,hv,Instr.index,asIntOf,run_underlying hu,hlt,run_sizeOf hs,hp]
      · cases hd
    · rename_i hu
      simp only[decide_eq_true_eq]at c1
      rw[if_pos c1]at hd
      split at hd
      · rename_i s
        obtain⟨b,hb,he⟩:=aLb.1 hd
        subst he
        have hr:=hx _ _ _ c2 hda
        generalize hv:ρ x'=v at hr
        cases hr with
        | t _ _ hr=>
          cases hr
          refine pure_ (Instr.index t (ρ x') (ρ i')) (.int .u8 b.toNat) rfl rfl ?_ (.t _ _ (.int _ _))
          simp[hk,hv,Instr.index,asIntOf,run_underlying hu,hb]
      · cases hd
    · cases c1
  · cases hc
 case bd zero parts=>
  obtain⟨ps,hps,h⟩:=aLa.1 h
  obtain⟨cs,hcs,he⟩:=aLb.1 h
  cases he
  split at hc
  · rename_i t pa
    simp only[aLr]at hc
    obtain⟨c1,c2⟩:=hc
    split at c1
    · rename_i z hz
      have hzC:=As.Kp c1 F g (shp H)
      have hto:(pa.map fun(p:Nat×Operand)=>(p.1,ρ p.2)).toList=pa.toList.map fun p=>(p.1,ρ p.2):=by simp
      split at c2
      · rename_i fs' hu
        split at c2
        · rename_i pl hpl
          have hP:=vB (F:=F) (g:=g) (H:=H) hx c2 hps
          rw[← hto]at hP
          obtain⟨u,hu',hr⟩:=aeW hu hpl (tG hz w) hzC hP hcs
          exact pure_ _ u rfl rfl hu' hr
        · cases c2
      · rename_i n e hu
        split at c2
        · rename_i sz hsz
          have hP:=vB (F:=F) (g:=g) (H:=H) hx c2 hps
          rw[← hto]at hP
          obtain⟨u,hu',hr⟩:=XH hu hsz (tG hz w) hzC hP hcs
          exact pure_ _ u rfl rfl hu' hr
        · cases c2
      · cases c2
    · cases c1
  · cases hc
 case bs xs sz=>
  obtain⟨ds,hds,h⟩:=aLa.1 h
  split at h
  · rename_i hall
    obtain⟨ts,hts,he⟩:=aLb.1 h
    cases he
    split at hc
    · rename_i t n pa
      simp only[NG,aLr,decide_eq_true_eq]at hc
      obtain⟨⟨⟨⟨c1,c2⟩,c3⟩,c4⟩,c5⟩:=hc
      obtain⟨e,hu,hs⟩:=oU c1
      simp only[hu]at c2
      obtain⟨z,hz⟩:=Option.isSome_iff_exists.1 c2
      obtain⟨vs,hrel,hen⟩:=wP (F:=F) (g:=g) (H:=H) hx c5 hds
      have hlen:n=ds.length:=by rw[c3];exact(bI hds).1
      subst hlen
      exact((ak6 hu hs (tG hz) hH hrel hall hts c4 (ps:=pa.map fun p=>(p.1,ρ p.2)) (by simpa using hen)).yld rfl).to hK
    · cases hc
  · cases h
 case bsr xs sz=>
  obtain⟨ds,hds,h⟩:=aLa.1 h
  split at h
  · rename_i hall
    cases h
    split at hc
    · rename_i t n pa
      simp only[NG,aLr,decide_eq_true_eq]at hc
      obtain⟨⟨⟨⟨c1,c2⟩,c3⟩,c4⟩,c5⟩:=hc
      obtain⟨e,hu,hs⟩:=oU c1
      simp only[hu]at c2
      obtain⟨z,hz⟩:=Option.isSome_iff_exists.1 c2
      obtain⟨vs,hrel,hen⟩:=wP (F:=F) (g:=g) (H:=H) hx c5 hds
      have hlen:n=ds.length:=by rw[c3];exact(bI hds).1
      subst hlen
      exact((ae2 hu hs (tG hz) hH hrel hall c4 (ps:=pa.map fun p=>(p.1,ρ p.2)) (by simpa using hen)).yld rfl).to hK
    · cases hc
  · cases h
 case bsq x=>
  obtain⟨da,hda,h⟩:=aLa.1 h
  split at h
  · rename_i y
    split at h
    · rename_i hy
      cases h
      split at hc
      · rename_i t n pa
        simp only[NG,aLr,decide_eq_true_eq]at hc
        obtain⟨⟨⟨⟨c1,c2⟩,c3⟩,c4⟩,c5⟩:=hc
        obtain⟨e,hu,hs⟩:=oU c1
        simp only[hu]at c2
        obtain⟨z,hz⟩:=Option.isSome_iff_exists.1 c2
        have hds:cK get [x]=some [.t y]:=by simp[cK,hda]
        obtain⟨us,hrel,hen⟩:=wP (F:=F) (g:=g) (H:=H) hx c5 hds
        have hlen:n=1:=by simpa using c3
        subst hlen
        match us,hrel,hen with
        | [u],hrel,hen=>
          exact((ae1 hu hs (tG hz) hH (hrel.2 0 u _ rfl rfl) hy (ps:=pa.map fun p=>(p.1,ρ p.2)) (by simpa using hen)).yld rfl).to hK
        | [],hrel,hen=>exact absurd hrel.1 (by simp)
        | _::_::_,hrel,hen=>exact absurd hrel.1 (by simp)
      · cases hc
    · cases h
  · cases h
 case ld x n agg=>
  obtain⟨da,hda,h⟩:=aLa.1 h
  obtain⟨d,hd,he⟩:=aLb.1 h
  cases he
  split at hc
  · rename_i t a
    simp only[aLr,decide_eq_true_eq]at hc
    obtain⟨⟨c1,c2⟩,c3⟩:=hc
    obtain⟨u,hu,hr⟩:=aeQ (P:=P) hH (hx _ _ _ c3 hda) hd c1 c2
    exact pure_ _ u rfl rfl hu hr
  · cases hc
 case st a x n live=>
  obtain⟨dp,hdp,h⟩:=aLa.1 h
  obtain⟨dx,hdx,h⟩:=aLa.1 h
  obtain⟨H1,hH1,h⟩:=aLa.1 h
  obtain⟨H2,hH2,he⟩:=aLb.1 h
  cases he
  split at hc
  · rename_i t a' x'
    simp only[aLr,decide_eq_true_eq]at hc
    obtain⟨⟨c1,c2⟩,c3⟩:=hc
    obtain⟨w',g',k1,k2,k3,k4⟩:=TJ (P:=P) hH (hx _ _ _ c2 hdp) (hx _ _ _ c3 hdx) hH1 c1
    obtain⟨g2,l1,l2,l3⟩:=Ko k2 hH2
    unfold L6
    have:(execOp ρ ⟨dst,.store t a' x',ty,pos,aft,gd⟩).run P w= .ok .skip w':=by simp[execOp,k1]
    rw[this]
    exact hK undef w' F g2 (.tup [] [] rfl fun i v c hv=>by simp at hv) l1 (k3.trans l2) (k4.trans l3)
  · cases hc
 case ln x=>
  obtain⟨da,hda,h⟩:=aLa.1 h
  obtain⟨d,hd,he⟩:=aLb.1 h
  cases he
  split at hc
  · rename_i y t
    simp only[aLr]at hc
    obtain⟨c1,c2⟩:=hc
    obtain⟨e,hu⟩:=yX c1
    obtain⟨a,c,hv⟩:=XG (hx _ _ _ c2 hda) hd
    refine Yld.to (Yld.pure hH (.int .i64 d) ?_ (.t _ _ (.int _ _))) hK
    simp[execOp,resolve,invoke,builtin,Builtin.len_,run_underlying hu,hv,goInt]
  · cases hc
 case mn xs=>
  obtain⟨ds,hds,h⟩:=aLa.1 h
  obtain⟨d,hd,he⟩:=aLb.1 h
  cases he
  split at hc
  · rename_i ys at_
    obtain⟨u,hu,hr⟩:=aeU (P:=P) (w:=w) (sC (F:=F) (g:=g) (H:=H) hx hc hds) hd at_ ty
    refine Yld.to (Yld.pure hH u ?_ hr) hK
    have:ys.map ρ=(ys.toList.map ρ).toArray:=IN ρ ys
    simp[execOp,resolve,invoke,builtin,this,hu]
  · cases hc
 case mx xs=>
  obtain⟨ds,hds,h⟩:=aLa.1 h
  obtain⟨d,hd,he⟩:=aLb.1 h
  cases he
  split at hc
  · rename_i ys at_
    obtain⟨u,hu,hr⟩:=aeV (P:=P) (w:=w) (sC (F:=F) (g:=g) (H:=H) hx hc hds) hd at_ ty
    refine Yld.to (Yld.pure hH u ?_ hr) hK
    have:ys.map ρ=(ys.toList.map ρ).toArray:=IN ρ ys
    simp[execOp,resolve,invoke,builtin,this,hu]
  · cases hc
 case sc x lo hi sz=>
  obtain⟨da,hda,h⟩:=aLa.1 h
  obtain⟨l,hl,h⟩:=aLa.1 h
  obtain⟨hh,hhh,h⟩:=aLa.1 h
  obtain⟨d,hd,he⟩:=aLb.1 h
  cases he
  split at hc
  · rename_i t y lo' hi'
    simp only[aLr]at hc
    obtain⟨⟨⟨c1,c2⟩,c3⟩,c4⟩:=hc
    obtain⟨e,hu,hs⟩:=oU c1
    obtain⟨u,hu',hr⟩:=aeS (P:=P) hH (hx _ _ _ c2 hda) (L8 hx c3 hl) (L8 hx c4 hhh) hd hu hs
    exact pure_ _ u rfl rfl hu' hr
  · cases hc
 case s3 x hi mx=>
  obtain⟨da,hda,h⟩:=aLa.1 h
  obtain⟨n,hn,h⟩:=aLa.1 h
  obtain⟨n2,hn2,h⟩:=aLa.1 h
  obtain⟨d,hd,he⟩:=aLb.1 h
  cases he
  split at hc
  · rename_i t y hi' mx'
    simp only[aLr]at hc
    obtain⟨⟨⟨c1,c2⟩,c3⟩,c4⟩:=hc
    split at c1
    · rename_i e hu
      obtain⟨sz,hs⟩:=Option.isSome_iff_exists.1 c1
      obtain⟨u,hu',hl,hr⟩:=TI (P:=P) (w:=w) (hx _ _ _ c2 hda) (L9 hx c3 hn) (L9 hx c4 hn2) hd hu hs
      exact pure_ _ u rfl rfl hu' hr
    · cases c1
  · cases hc
 case pop x hi=>
  obtain⟨da,hda,h⟩:=aLa.1 h
  obtain⟨n,hn,h⟩:=aLa.1 h
  split at hc
  · rename_i t y hi'
    simp only[aLr]at hc
    obtain⟨⟨c1,c2⟩,c3⟩:=hc
    split at c1
    · rename_i e hu
      obtain⟨sz,hs⟩:=Option.isSome_iff_exists.1 c1
      obtain⟨k,hk⟩:=L9 hx c3 hn
      refine((aeY (P:=P) (k:=k) hu hs hH (hx _ _ _ c2 hda) h).yld ?_).to hK
      simp[execOp,hk]
    · cases c1
  · cases hc
 case ex x i=>
  obtain⟨da,hda,h⟩:=aLa.1 h
  obtain⟨d,hd,he⟩:=aLb.1 h
  cases he
  split at hc
  · rename_i y j
    simp only[aLr,decide_eq_true_eq]at hc
    obtain⟨rfl,c2⟩:=hc
    obtain⟨u,hu,hr⟩:=aeT (P:=P) (w:=w) (hx _ _ _ c2 hda) hd
    exact pure_ _ u rfl rfl hu hr
  · cases hc
 case mf f caps=>
  obtain⟨ds,hds,he⟩:=aLb.1 h
  cases he
  split at hc
  · rename_i j cap'
    simp only[aLr,decide_eq_true_eq]at hc
    obtain⟨c1,c2⟩:=hc
    have hl:=sC (F:=F) (g:=g) (H:=H) hx c2 hds
    refine Yld.to (Yld.pure hH _ (by simp[execOp,Instr.makeFunc,IN]) (.fn _ _ c1 _ _ hl.1 hl.2)) hK
  · cases hc
 case ca f raw keep xs=>
  obtain⟨ds,hds,h⟩:=aLa.1 h
  split at hc
  · rename_i j ys at_
    simp only[aLr,decide_eq_true_eq]at hc
    obtain⟨c1,c2⟩:=hc
    refine PX ht hcall hH (sC (F:=F) (g:=g) (H:=H) hx c2 hds) h hK c1 fun fu c hfu hn hb=>?_
    have:ys.map ρ=(ys.toList.map ρ).toArray:=IN ρ ys
    simp[execOp,resolve,hρ,Deferred.ofValue,invoke,this,Bt hfu hn hb]
  · cases hc
 case cw x raw keep xs=>
  obtain⟨da,hda,h⟩:=aLa.1 h
  split at hc
  · rename_i y ys at_
    simp only[aLr]at hc
    obtain⟨c1,c2⟩:=hc
    have r1:=hx _ _ _ c1 hda
    split at h
    · rename_i f caps
      obtain⟨ds,hds,h⟩:=aLa.1 h
      generalize hv:ρ y=vc at r1
      cases r1 with
      | fn _ j hj vs _ hl hr=>
      refine PX ht hcall hH ((sC (F:=F) (g:=g) (H:=H) hx c2 hds).append ⟨hl,hr⟩) h hK hj fun fu c hfu hn hb=>?_
      have:ys.map ρ=(ys.toList.map ρ).toArray:=IN ρ ys
      simp[execOp,resolve,hv,Deferred.ofValue,invoke,this,Bt hfu hn hb]
    · cases h
  · cases hc
 case app x y fz sz=>
  obtain⟨da,hda,h⟩:=aLa.1 h
  obtain⟨db,hdb,h⟩:=aLa.1 h
  split at hc
  · rename_i x' y' t u
    simp only[aLr]at hc
    obtain⟨⟨⟨c1,c2⟩,c3⟩,c4⟩:=hc
    obtain⟨e,i,z,hu,hi,rfl,hby,hz,hzs,_⟩:=m5 c1
    obtain⟨e2,hu2⟩:=yX c2
    refine((aeX (P:=P) (t:=t) (u:=u) (ty:=ty) hu hu2 hi hz hzs hby hH (hx _ _ _ c3 hda) (hx _ _ _ c4 hdb) h).yld ?_).to hK
    simp[execOp,resolve,invoke,builtin]
  · cases hc
 case cp x y sz=>
  obtain⟨da,hda,h⟩:=aLa.1 h
  obtain⟨db,hdb,h⟩:=aLa.1 h
  split at hc
  · rename_i x' y' t u
    simp only[aLr]at hc
    obtain⟨⟨⟨c1,c2⟩,c3⟩,c4⟩:=hc
    obtain⟨e,hu,hs⟩:=oU c1
    refine((ak7 (P:=P) (t:=t) (u:=u) (ty:=ty) hu hs hH (hx _ _ _ c3 hda) (hx _ _ _ c4 hdb) h).yld ?_).to hK
    simp[execOp,resolve,invoke,builtin]
  · cases hc
 case clr x zero sz=>
  obtain⟨da,hda,h⟩:=aLa.1 h
  split at hc
  · rename_i x' t
    simp only[aLr]at hc
    obtain⟨c1,c2⟩:=hc
    obtain⟨e,i,z,hu,hi,rfl,hby,hz,hzs,hk⟩:=m5 c1
    refine((ae5 (P:=P) (t:=t) (ty:=ty) hu hi hz hzs hH (wO hk F g (shp H)) (hx _ _ _ c2 hda) h).yld ?_).to hK
    simp[execOp,resolve,invoke,builtin]
  · cases hc
 case bst x=>
  obtain⟨da,hda,h⟩:=aLa.1 h
  obtain⟨d,hd,he⟩:=aLb.1 h
  cases he
  split at hc
  · rename_i s dd x'
    simp only[aLr]at hc
    obtain⟨⟨c1,c2⟩,c3⟩:=hc
    split at c1
    · rename_i e hu
      split at c1
      · rename_i hu8
        split at c2
        · rename_i hstr
          obtain⟨v,hv,hr⟩:=XM (P:=P) hu hu8 hstr hH (hx _ _ _ c3 hda) hd
          exact pure_ (convert s dd (ρ x')) v rfl rfl hv hr
        · cases c2
      · cases c1
    · cases c1
  · cases hc
 case fnz neg x=>
  obtain⟨da,hda,h⟩:=aLa.1 h
  obtain⟨d,hd,he⟩:=aLb.1 h
  cases he
  split at hc
  · rename_i f' t x' hf2
    simp only[aLr,decide_eq_true_eq]at hc
    obtain⟨⟨c0,c1⟩,c2⟩:=hc
    split at c1
    · rename_i hu
      obtain⟨v,hr,hl,hv⟩:=XL (P:=P) (w:=w) c0 hu (hx _ _ _ c2 hda) hd x'
      exact pure_ _ v rfl rfl (by rw[hρc];exact hr) hv
    · cases c1
  · cases hc
 case mk len zero sz=>
  obtain⟨n,hn,h⟩:=aLa.1 h
  obtain⟨m,hm,h⟩:=aLa.1 h
  split at h
  · rename_i hlim
    cases h
    split at hc
    · rename_i t l c
      simp only[aLr]at hc
      obtain⟨⟨c1,c2⟩,c3⟩:=hc
      obtain⟨e,i,z,hu,hi,rfl,hby,hz,hzs,hk⟩:=m5 c1
      simp only[aLr]at hk
      obtain⟨k1,hk1⟩:=L9 hx c2 hn
      obtain⟨k2,hk2⟩:=L9 hx c3 hn
      have hkk:∃k,ρ l= .int k n∧∃k',ρ c= .int k' n:=⟨k1,hk1,k2,hk2⟩
      refine((aeZ (P:=P) (t:=t) (k:=k1) (k':=k2) hu hi hz hzs hby hH (wO hk.1 F g (shp H)) hk.2 hm hlim).yld ?_).to hK
      simp[execOp,hk1,hk2]
    · cases hc
  · cases h
 case mkw len c esz=>
  obtain⟨n,hn,h⟩:=aLa.1 h
  obtain⟨m,hm,h⟩:=aLa.1 h
  split at h
  · rename_i hlim
    cases h
    split at hc
    · rename_i t l cp
      simp only[aLr]at hc
      obtain⟨⟨c1,c2⟩,c3⟩:=hc
      obtain⟨e,i,z,hu,hi,hs1,hby,hz,hzs,hk⟩:=m5 c1
      obtain⟨k1,hk1⟩:=L9 hx c2 hn
      obtain⟨k2,hk2⟩:=L9 hx c3 hn
      have hzn:z= .slice none 0 0:=by
       unfold As at hk
       split at hk<;>simp_all
      refine((ae0 (P:=P) (t:=t) (k:=k1) (k':=k2) hu hi hz hzs hs1 hby hH hzn hm hlim).yld ?_).to hK
      simp[execOp,hk1,hk2]
    · cases hc
  · cases h
 case mkn len zero sz=>
  obtain⟨n,hn,h⟩:=aLa.1 h
  obtain⟨m,hm,h⟩:=aLa.1 h
  split at h
  · rename_i hlim
    cases h
    split at hc
    · rename_i t l c
      simp only[aLr]at hc
      obtain⟨⟨c1,c2⟩,c3⟩:=hc
      obtain⟨e,i,z,hu,hi,rfl,hby,hz,hzs,hk⟩:=m5 c1
      obtain⟨k1,hk1⟩:=L9 hx c2 hn
      obtain⟨k2,hk2⟩:=L9 hx c3 hn
      refine((aeZ (P:=P) (t:=t) (k:=k1) (k':=k2) hu hi hz hzs hby hH (zero:= .t zero) (wO hk F g (shp H)) rfl hm hlim.1).yld ?_).to hK
      simp[execOp,hk1,hk2]
    · cases hc
  · cases h
 case mkt len zero sz=>
  obtain⟨n,hn,h⟩:=aLa.1 h
  obtain⟨m,hm,h⟩:=aLa.1 h
  split at h
  · rename_i hlim
    cases h
    split at hc
    · rename_i t l c
      simp only[aLr]at hc
      obtain⟨⟨c1,c2⟩,c3⟩:=hc
      obtain⟨e,i,z,hu,hi,rfl,hby,hz,hzs,hk⟩:=m5 c1
      obtain⟨k1,hk1⟩:=L9 hx c2 hn
      obtain⟨k2,hk2⟩:=L9 hx c3 hn
      refine((ae3 (P:=P) (t:=t) (k:=k1) (k':=k2) hu hi hz hzs hby hH (fun F=>wO hk F g (shp H)) hm hlim).yld ?_).to hK
      simp[execOp,hk1,hk2]
    · cases hc
  · cases h
 case al zero live=>
  cases h
  split at hc
  · rename_i t
    split at hc
    · rename_i z hz
      have hC:=As.Kp hc F g (shp H)
      obtain⟨g',h1,h2,h3,h4⟩:=PR hH (c:=z.cells) (cs:=zero) hC t
      have hid:(H++[Obj.box zero])[H.length]?=some (.box zero):=by simp
      obtain⟨g2,l1,l2,l3,_⟩:=Dg live h1 hid
      have hlen:(H++[Obj.box zero]).length=H.length+1:=by simp
      rw[hlen]at l1 l3
      have heq:(H++[Obj.box zero]).set H.length (.box (cq (H.length+1) zero live).1)++(cq (H.length+1) zero live).2=H++ .box (cq (H.length+1) zero live).1::(cq (H.length+1) zero live).2:=by
       rw[List.set_append_right _ _ (aLs _)];simp
      rw[heq]at l1 l3
      refine Yld.to ⟨_,_,F,g2,?_,h4.aft (mS.refl F) l3,l1,h2.trans l2,h3.trans l3⟩ hK
      simp[execOp,Instr.alloc,tG hz,newVar,newRow]
    · cases hc
  · cases hc
 case bx x n=>
  obtain⟨da,hda,h⟩:=aLa.1 h
  split at h
  · rename_i hcnd
    cases h
    split at hc
    · rename_i t x'
      have hC:=gO (hx _ _ _ hc hda) hcnd.2
      obtain⟨g',h1,h2,h3,h4⟩:=PR hH (c:=(ρ x').cells) (cs:=da.cells) hC t
      refine Yld.to ⟨_,_,F,g',?_,h4,h1,h2,h3⟩ hK
      simp[execOp,Instr.box,newVar,newRow]
    · cases hc
  · cases h
end
end Go.Ev
namespace Go.Ev
open Go
variable [Names]
section
variable {F : Fz} {g : Gh} {H : af} {w : World}
theorem bF.yZ{S:Nat→Option Sh}{id:Nat}{og og':OG}(hg:g[id]?=some og)(hb:og.blk=none)(hs:S id=some .box)
 {v:Value} {d:D} (h:bF F g S v d):bF F (g.set id og') S v d:=by
 have ne:∀ {i:Nat} {b c:Nat},g[i]?=some ⟨some b,c⟩→id≠i:=by
  intro i b c h e;subst e;rw[hg]at h;cases h;cases hb
 have na:∀ {i sz ep n:Nat},S i=some (.arr sz ep n)→id≠i:=by
  intro i sz ep n h e;subst e;rw[hs]at h;cases h
 induction h with
 | t v x h=>exact .t v x h
 | nil=>exact .nil
 | agg vs cs hl hv h ih=>exact .agg vs cs hl hv ih
 | bp i off b c hg' hs'=>exact .bp i off b c (by rw[aLi (ne hg')];exact hg') hs'
 | ap i ep n k off sz b c hg' hs'=>exact .ap i ep n k off sz b c (by rw[aLi (ne hg')];exact hg') hs'
 | apOld a i ep n k off sz ep' n' hs' hp=>exact .apOld a i ep n k off sz ep' n' hs' hp
 | ep cs b off cv h1 h2=>exact .ep cs b off cv h1 h2
 | ref i ep n sz og hg' hs' hn=>exact .ref i ep n sz og (by rw[aLi (na hs')];exact hg') hs' hn
 | refOld a c i ep n sz ep' n' hs' hp hn=>exact .refOld a c i ep n sz ep' n' hs' hp hn
 | sub i ep n lo hi sz b c cap' a hg' hs' hlt hn ha hcap=>exact .sub i ep n lo hi sz b c cap' a (by rw[aLi (ne hg')];exact hg') hs' hlt hn ha hcap
 | sub0 a i ep n lo hi cap' sz ep' n' hs' he=>exact .sub0 a i ep n lo hi cap' sz ep' n' hs' he
 | subOld a c i ep n lo hi sz ep' n' hs' hp=>exact .subOld a c i ep n lo hi sz ep' n' hs' hp
 | fn f j hj vs cs hl h ih=>exact .fn f j hj vs cs hl ih
 | tup vs cs hl h ih=>exact .tup vs cs hl ih
 | nilp=>exact .nilp
 | und v=>exact .und v
 | ub b=>exact .ub b
 | cl a es h=>exact .cl a es h
 | q i ep b off cap es hg' hs' h1 h2 h3 h4=>exact .q i ep b off cap es (by rw[aLi (ne hg')];exact hg') hs' h1 h2 h3 h4
 | q0 a i ep hs'=>exact .q0 a i ep hs'
 | qOld a c i ep es ep' hs' hp=>exact .qOld a c i ep es ep' hs' hp
theorem Fits.yZ{S:Nat→Option Sh}{id:Nat}{og og' og1:OG}{w':World}(hg:g[id]?=some og)(hb:og.blk=none)(hs:S id=some .box){o:Obj}(h:Fits F g S w og1 o)
 (hw:∀b,og1.blk=some b→w'.heap[b]?=w.heap[b]?):Fits F (g.set id og') S w' og1 o:=by
 cases o with
 | box cs=>
   rcases h with⟨h0,c,hs',hr⟩ | ⟨b,c,ty,hb',hc,hs',hr,hf⟩
   · exact .inl ⟨h0,c,hs',fun i v d hv hd=>⟨(hr i v d hv hd).1,(hr i v d hv hd).2.yZ hg hb hs⟩⟩
   · exact .inr ⟨b,c,ty,hb',(hw b hb').trans hc,hs',fun i v d hv hd=>⟨(hr i v d hv hd).1,(hr i v d hv hd).2.yZ hg hb hs⟩,hf⟩
 | arr sz pin ep es=>
   rcases h with h | ⟨b,c,ty,hb',hc,hs',hl,hz,hr,hf⟩
   · exact .inl h
   · exact .inr ⟨b,c,ty,hb',(hw b hb').trans hc,hs',hl,hz,fun i e k d he hd=>let⟨v,h1,h2,h3⟩:=hr i e k d he hd;⟨v,h1,h2,h3.yZ hg hb hs⟩,hf⟩
 | own ep=>
   obtain⟨b,c,ty,e,hb',hc,h1,h2,h3,h4⟩:=h
   exact⟨b,c,ty,e,hb',(hw b hb').trans hc,h1,h2,h3,h4⟩
theorem az.yZ(hH:az F g H w){id:Nat}{og:OG}(hg:g[id]?=some og)(hb:og.blk=none){c:Array Value}{cs:List D}(ho:H[id]?=some (.box cs))
 (hc:ya F g (shp H) c.toList cs) (ty:TypeId):
 az F (g.set id ⟨some w.heap.size,0⟩) H (w.alloc (.cells c ty)):=by
 have hs:shp H id=some .box:=by simp[shp,ho,Obj.sh]
 have hold:=gP w (.cells c ty)
 have hidl:=aj hg
 refine⟨by simp[hH.len],fun i o og1 hoi hgi=>?_,fun i j ogi ogj b hne hi hj hbi hbj=>?_,fun b o v hv=>?_⟩
 · by_cases e:id=i
   · subst e
     rw[aLj hidl]at hgi
     cases hgi
     rw[ho]at hoi;cases hoi
     refine .inr ⟨w.heap.size,c,ty,rfl,mI w _,by simpa using hc.1,fun i v d hv hd=>⟨hc.2.1 v (aLd (by simpa using hv)),?_⟩,ND hH⟩
     exact(hc.2.2 i v d (by simpa using hv) hd).yZ hg hb hs
   · rw[aLi e]at hgi
     have hf:=hH.fits i o og1 hoi hgi
     exact hf.yZ hg hb hs fun b hb'=>hold b (hH.lt ⟨og1,aLd hgi,hb'⟩)
 · have key:∀(j:Nat) ogj,id≠j→(g.set id ⟨some w.heap.size,0⟩)[j]?=some ogj→ogj.blk=some w.heap.size→False:=by
    intro j ogj hne hj hbj
    rw[aLi hne]at hj
    exact yd hH ⟨ogj,aLd hj,hbj⟩
   by_cases e1:id=i
   · subst e1
     rw[aLj hidl]at hi
     cases hi;cases hbi
     exact key j ogj hne hj hbj
   · by_cases e2:id=j
     · subst e2
       rw[aLj hidl]at hj
       cases hj;cases hbj
       exact key i ogi e1 hi hbi
     · rw[aLi e1]at hi
       rw[aLi e2]at hj
       exact hH.sep i j ogi ogj b hne hi hj hbi hbj
 · rw[oT (hold b (hH.ltF hv))];exact hH.agree b o v hv
theorem Ext.yZ{F0:Fz}{g0:Gh}{w0:World}(h:Ext F0 g0 w0 F g w){id:Nat}(o:Go.Obj):Ext F0 g0 w0 F (g.set id ⟨some w.heap.size,0⟩) (w.alloc o) where
 sub:=h.sub
 size:=by rw[kq];exact Nat.le_succ_of_le h.size
 keep b hb hn:=(gP w o b (Nat.lt_of_lt_of_le hb h.size)).trans (h.keep b hb hn)
 blks b hb:=by
  obtain⟨og,hm,ho⟩:=hb
  rcases aLk hm with h1 | h1
  · exact h.blks b ⟨og,h1,ho⟩
  · subst h1;cases ho;exact .inr h.size
 newF:=h.newF
 io:=h.io
theorem Aft.yZ{g0:Gh}{H0:af}(h:Aft g0 H0 g H){id:Nat}{og':OG}(hid:H0.length≤id):Aft g0 H0 (g.set id og') H where
 box i j hj hs:=by
  cases hj
  have:=gA hs
  obtain⟨h1,h2⟩:=h.box i i rfl hs
  exact⟨h1,by rw[aLi (by omega)];exact h2⟩
 arr i j sz ep n hj hs:=by
  cases hj
  have:=gA hs
  obtain⟨sz',ep',n',h1,h2⟩:=h.arr i i sz ep n rfl hs
  exact⟨sz',ep',n',h1,by rw[aLi (by omega)];exact h2⟩
 own i j ep hj hs:=by
  cases hj
  have:=gA hs
  obtain⟨ep',h1,h2⟩:=h.own i i ep rfl hs
  exact⟨ep',h1,by rw[aLi (by omega)];exact h2⟩
theorem NI(hH:az F g H w){c:List Value}{cs:List D}(hc:ya F g (shp H) c cs)(live:List (Nat×Nat)):
 ∃g',az F g' (H++ .box (cq (H.length+1) cs live).1::(cq (H.length+1) cs live).2) w∧Ext F g w F g' w∧
  Aft g H g' (H++ .box (cq (H.length+1) cs live).1::(cq (H.length+1) cs live).2)∧(∃og,g'[H.length]?=some og∧og.blk=none)∧
  ya F g' (shp (H++ .box (cq (H.length+1) cs live).1::(cq (H.length+1) cs live).2)) c (cq (H.length+1) cs live).1:=by
 have hA:Aft g H (g++[⟨none,0⟩]) (H++[.box cs]):=Aft.append hH.len _ _
 have hc':ya F (g++[⟨none,0⟩]) (shp (H++[.box cs])) c cs:=⟨hc.1,hc.2.1,fun i v d hv hd=>(hc.2.2 i v d hv hd).aft (mS.refl F) hA⟩
 have h1:az F (g++[⟨none,0⟩]) (H++[.box cs]) w:=
  hH.add ⟨none,0⟩ (.box cs) (.inl ⟨rfl,c.toArray,by simpa using hc.1,fun i v d hv hd=>⟨hc.2.1 v (aLd (by simpa using hv)),hc'.2.2 i v d (by simpa using hv) hd⟩⟩) (fun b hb=>by cases hb)
 have hid:(H++[Obj.box cs])[H.length]?=some (.box cs):=by simp
 obtain⟨g2,l1,l2,l3,l4⟩:=Dg live h1 hid
 have hlen:(H++[Obj.box cs]).length=H.length+1:=by simp
 have l4':=l4 c hc'
 rw[hlen]at l1 l3 l4'
 have heq:(H++[Obj.box cs]).set H.length (.box (cq (H.length+1) cs live).1)++(cq (H.length+1) cs live).2=H++ .box (cq (H.length+1) cs live).1::(cq (H.length+1) cs live).2:=by
  rw[List.set_append_right _ _ (aLs _)];simp
 rw[heq]at l1 l3 l4'
 have hx:Ext F g w F (g++[⟨none,0⟩]) w:=Ext.add _ (aLs _) (fun _ _=>rfl) fun b hb=>by cases hb
 refine⟨g2,l1,hx.trans l2,hA.trans l3,⟨⟨none,0⟩,?_,rfl⟩,l4'⟩
 have:=(l3.box H.length H.length rfl (by simp[shp,Obj.sh])).2
 rw[this,←hH.len];simp
theorem bF.xm{S:Nat→Option Sh}{id sz0 n0:Nat}{og og':OG}(hg:g[id]?=some og)(hb:og.blk=none)(hs:S id=some (.arr sz0 0 n0))(h0:0<n0)
 {v:Value} {d:D} (h:bF F g S v d):bF F (g.set id og') S v d:=by
 have ne:∀ {i:Nat} {b c:Nat},g[i]?=some ⟨some b,c⟩→id≠i:=by
  intro i b c h e;subst e;rw[hg]at h;cases h;cases hb
 induction h with
 | t v x h=>exact .t v x h
 | nil=>exact .nil
 | agg vs cs hl hv h ih=>exact .agg vs cs hl hv ih
 | bp i off b c hg' hs'=>exact .bp i off b c (by rw[aLi (ne hg')];exact hg') hs'
 | ap i ep n k off sz b c hg' hs'=>exact .ap i ep n k off sz b c (by rw[aLi (ne hg')];exact hg') hs'
 | apOld a i ep n k off sz ep' n' hs' hp=>exact .apOld a i ep n k off sz ep' n' hs' hp
 | ep cs b off cv h1 h2=>exact .ep cs b off cv h1 h2
 | ref i ep n sz og1 hg' hs' hn=>
   have:id≠i:=by
    intro e;subst e
    rw[hg]at hg';cases hg'
    rw[hs]at hs';cases hs'
    have:=hn hb
    omega
   exact .ref i ep n sz og1 (by rw[aLi this];exact hg') hs' hn
 | refOld a c i ep n sz ep' n' hs' hp hn=>exact .refOld a c i ep n sz ep' n' hs' hp hn
 | sub i ep n lo hi sz b c cap' a hg' hs' hlt hn ha hcap=>exact .sub i ep n lo hi sz b c cap' a (by rw[aLi (ne hg')];exact hg') hs' hlt hn ha hcap
 | sub0 a i ep n lo hi cap' sz ep' n' hs' he=>exact .sub0 a i ep n lo hi cap' sz ep' n' hs' he
 | subOld a c i ep n lo hi sz ep' n' hs' hp=>exact .subOld a c i ep n lo hi sz ep' n' hs' hp
 | fn f j hj vs cs hl h ih=>exact .fn f j hj vs cs hl ih
 | tup vs cs hl h ih=>exact .tup vs cs hl ih
 | nilp=>exact .nilp
 | und v=>exact .und v
 | ub b=>exact .ub b
 | cl a es h=>exact .cl a es h
 | q i ep b off cap es hg' hs' h1 h2 h3 h4=>exact .q i ep b off cap es (by rw[aLi (ne hg')];exact hg') hs' h1 h2 h3 h4
 | q0 a i ep hs'=>exact .q0 a i ep hs'
 | qOld a c i ep es ep' hs' hp=>exact .qOld a c i ep es ep' hs' hp
theorem Fits.xm{S:Nat→Option Sh}{id sz0 n0:Nat}{og og' og1:OG}{w':World}(hg:g[id]?=some og)(hb:og.blk=none)(hs:S id=some (.arr sz0 0 n0))(hn0:0<n0){o:Obj}(h:Fits F g S w og1 o)
 (hw:∀b,og1.blk=some b→w'.heap[b]?=w.heap[b]?):Fits F (g.set id og') S w' og1 o:=by
 cases o with
 | box cs=>
   rcases h with⟨h0,c,hs',hr⟩ | ⟨b,c,ty,hb',hc,hs',hr,hf⟩
   · exact .inl ⟨h0,c,hs',fun i v d hv hd=>⟨(hr i v d hv hd).1,(hr i v d hv hd).2.xm hg hb hs hn0⟩⟩
   · exact .inr ⟨b,c,ty,hb',(hw b hb').trans hc,hs',fun i v d hv hd=>⟨(hr i v d hv hd).1,(hr i v d hv hd).2.xm hg hb hs hn0⟩,hf⟩
 | arr sz pin ep es=>
   rcases h with h | ⟨b,c,ty,hb',hc,hs',hl,hz,hr,hf⟩
   · exact .inl h
   · exact .inr ⟨b,c,ty,hb',(hw b hb').trans hc,hs',hl,hz,fun i e k d he hd=>let⟨v,h1,h2,h3⟩:=hr i e k d he hd;⟨v,h1,h2,h3.xm hg hb hs hn0⟩,hf⟩
 | own ep=>
   obtain⟨b,c,ty,e,hb',hc,h1,h2,h3,h4⟩:=h
   exact⟨b,c,ty,e,hb',(hw b hb').trans hc,h1,h2,h3,h4⟩
theorem az.xm(hH:az F g H w){id sz n cap:Nat}{og:OG}(hg:g[id]?=some og)(hb:og.blk=none){c:Array Value}{zero:T}(h0:0<n)(ho:H[id]?=some (.arr sz false 0 (List.replicate n (.t zero))))
 (hcs:c.size=cap*sz) (hle:n≤cap) (hz:zero.cells.length=sz) (hc:∀(i k:Nat) x,i<n→zero.cells[k]?=some x→∃v,c[i*sz+k]?=some v∧fM v=true∧lP F v x) (ty:TypeId):
 az F (g.set id ⟨some w.heap.size,cap⟩) H (w.alloc (.cells c ty)):=by
 have hs:shp H id=some (.arr sz 0 n):=by simp[shp,ho,Obj.sh]
 have hold:=gP w (.cells c ty)
 have hidl:=aj hg
 refine⟨by simp[hH.len],fun i o og1 hoi hgi=>?_,fun i j ogi ogj b hne hi hj hbi hbj=>?_,fun b o v hv=>?_⟩
 · by_cases e:id=i
   · subst e
     rw[aLj hidl]at hgi
     cases hgi
     rw[ho]at hoi;cases hoi
     refine .inr ⟨w.heap.size,c,ty,rfl,mI w _,hcs,by simpa using hle,fun e he=>?_,fun i e k d he hd=>?_,fun o v hv=>?_⟩
     · rw[List.eq_of_mem_replicate he]
       exact⟨by simp only[D.cells,List.length_map];exact hz,rfl⟩
     · have hi:=aj he
       rw[List.length_replicate]at hi
       have:=List.eq_of_mem_replicate (aLd he)
       subst this
       obtain⟨x,hx,rfl⟩:=Ar zero hd
       obtain⟨v,k1,k2,k3⟩:=hc i k x hi hx
       exact⟨v,k1,k2,.t _ _ k3⟩
     · rw[ND hH]at hv;cases hv
   · rw[aLi e]at hgi
     have hf:=hH.fits i o og1 hoi hgi
     exact hf.xm hg hb hs h0 fun b hb'=>hold b (hH.lt ⟨og1,aLd hgi,hb'⟩)
 · have key:∀(j:Nat) ogj,id≠j→(g.set id ⟨some w.heap.size,cap⟩)[j]?=some ogj→ogj.blk=some w.heap.size→False:=by
    intro j ogj hne hj hbj
    rw[aLi hne]at hj
    exact yd hH ⟨ogj,aLd hj,hbj⟩
   by_cases e1:id=i
   · subst e1
     rw[aLj hidl]at hi
     cases hi;cases hbi
     exact key j ogj hne hj hbj
   · by_cases e2:id=j
     · subst e2
       rw[aLj hidl]at hj
       cases hj;cases hbj
       exact key i ogi e1 hi hbi
     · rw[aLi e1]at hi
       rw[aLi e2]at hj
       exact hH.sep i j ogi ogj b hne hi hj hbi hbj
 · rw[oT (hold b (hH.ltF hv))];exact hH.agree b o v hv
theorem Ext.xm{F0:Fz}{g0:Gh}{w0:World}(h:Ext F0 g0 w0 F g w){id cap:Nat}(o:Go.Obj):Ext F0 g0 w0 F (g.set id ⟨some w.heap.size,cap⟩) (w.alloc o) where
 sub:=h.sub
 size:=by rw[kq];exact Nat.le_succ_of_le h.size
 keep b hb hn:=(gP w o b (Nat.lt_of_lt_of_le hb h.size)).trans (h.keep b hb hn)
 blks b hb:=by
  obtain⟨og,hm,ho⟩:=hb
  rcases aLk hm with h1 | h1
  · exact h.blks b ⟨og,h1,ho⟩
  · subst h1;cases ho;exact .inr h.size
 newF:=h.newF
 io:=h.io
end
end Go.Ev
namespace Go.Ev
open Go
variable [Names]
def Ls(Ds:Nat→D):Nat→List D
 | 0=>[]
 | p+1=>Ds p::Ls Ds p
theorem PY{Ds:Nat→D}:∀ {p k:Nat} {d:D},(Ls Ds p)[k]?=some d→k<p∧d=Ds (p-1-k)
 | 0,k,d,h=>by simp[Ls]at h
 | p+1,0,d,h=>by simp[Ls]at h;exact⟨by omega,by simp[h]⟩
 | p+1,k+1,d,h=>by
   simp[Ls]at h
   obtain⟨h1,h2⟩:=PY h
   refine⟨by omega,?_⟩
   rw[h2];congr 1;omega
theorem ae8{Ds:Nat→D}:∀ {p k:Nat},k<p→(Ls Ds p)[k]?=some (Ds (p-1-k))
 | 0,k,h=>by omega
 | p+1,0,h=>by simp[Ls]
 | p+1,k+1,h=>by
   simp only[Ls,List.getElem?_cons_succ]
   rw[ae8 (by omega)];congr 2;omega
def ae9(call:aU)(r:R)(s s':List D×List D×af):Prop:=
 ∃b d H',cP s.1 r.g=some b∧s'=(d::s.1,wr s.2.1 r.d d,H')∧
  (b=true→evO call (X.get s.2.1 s.1) s.2.2 r.o=some (d,H'))∧(b=false→d= .tup []∧H'=s.2.2)
theorem G5{call:aU}:∀ {rs:List R} {L vs:List D} {H:af} {res:List D×List D×af},evR call rs L vs H=some res→
 (trace call rs L vs H).length=rs.length+1∧(trace call rs L vs H)[0]?=some (L,vs,H)∧(trace call rs L vs H)[rs.length]?=some res∧
 ∀p r s s',rs[p]?=some r→(trace call rs L vs H)[p]?=some s→(trace call rs L vs H)[p+1]?=some s'→ae9 call r s s'
 | [],L,vs,H,res,h=>by
   simp only[evR,Option.some.injEq]at h
   subst h
   simp[trace]
 | r::rs,L,vs,H,res,h=>by
   simp only[evR]at h
   obtain⟨b,hb,h⟩:=aLa.1 h
   cases b with
   | true=>
     simp only[if_true]at h
     obtain⟨q,hq,h⟩:=aLa.1 h
     obtain⟨a1,a2,a3,a4⟩:=G5 h
     have e:trace call (r::rs) L vs H=(L,vs,H)::trace call rs (q.1::L) (wr vs r.d q.1) q.2:=by simp[trace,hb,hq]
     rw[e]
     refine⟨by simp[a1],rfl,by simpa using a3,fun p r' s s' hr hs hs'=>?_⟩
     cases p with
     | zero=>
       simp at hr hs hs'
       subst hr;subst hs
       rw[a2]at hs';cases hs'
       exact⟨true,q.1,q.2,hb,rfl,(fun _=>hq),(fun h=>by cases h)⟩
     | succ p=>simp at hr hs hs';exact a4 p r' s s' hr hs hs'
   | false=>
     simp only[aLt,if_false]at h
     obtain⟨a1,a2,a3,a4⟩:=G5 h
     have e:trace call (r::rs) L vs H=(L,vs,H)::trace call rs (.tup []::L) (wr vs r.d (.tup [])) H:=by simp[trace,hb]
     rw[e]
     refine⟨by simp[a1],rfl,by simpa using a3,fun p r' s s' hr hs hs'=>?_⟩
     cases p with
     | zero=>
       simp at hr hs hs'
       subst hr;subst hs
       rw[a2]at hs';cases hs'
       exact⟨false,.tup [],H,hb,rfl,(fun h=>by cases h),(fun _=>⟨rfl,rfl⟩)⟩
     | succ p=>simp at hr hs hs';exact a4 p r' s s' hr hs hs'
structure Canon(call:aU)(rs:List R)(vs0:List D)(H0:af)(Ds:Nat→D)(V:Nat→List D)(Hs:Nat→af):Prop where
 v0:V 0=vs0
 h0:Hs 0=H0
 step:∀p r,rs[p]?=some r→∃b,cP (Ls Ds p) r.g=some b∧V (p+1)=wr (V p) r.d (Ds p)∧
  (b=true→evO call (X.get (V p) (Ls Ds p)) (Hs p) r.o=some (Ds p,Hs (p+1)))∧(b=false→Ds p= .tup []∧Hs (p+1)=Hs p)
theorem TL{call:aU}{rs:List R}{vs L vs':List D}{H H':af}(h:evR call rs [] vs H=some (L,vs',H')):
 ∃Ds V Hs,Canon call rs vs H Ds V Hs∧L=Ls Ds rs.length∧vs'=V rs.length∧H'=Hs rs.length∧
  ∀p,p≤rs.length→(trace call rs [] vs H)[p]?=some (Ls Ds p,V p,Hs p):=by
 obtain⟨h1,h2,h3,h4⟩:=G5 h
 generalize htr:trace call rs [] vs H=tr at*
 let st:Nat→List D×List D×af:=fun p=>(tr[p]?).getD ([],[],[])
 have hst:∀p,p≤rs.length→tr[p]?=some (st p):=fun p hp=>by
  have:tr[p]?=some tr[p]:=aLc (by omega)
  simp only[st,this,Option.getD_some]
 have hstep:∀p r,rs[p]?=some r→ae9 call r (st p) (st (p+1)):=fun p r hr=>by
  have:=aj hr
  exact h4 p r _ _ hr (hst p (by omega)) (hst (p+1) (by omega))
 have hL:∀p,p≤rs.length→(st p).1=Ls (fun p=>(st (p+1)).1.headD .und) p:=by
  intro p
  induction p with
  | zero=>intro _;have:=hst 0 (by omega);rw[h2]at this;simp at this;rw[← this];rfl
  | succ p ih=>
    intro hp
    have hr:rs[p]?=some rs[p]:=aLc (by omega)
    obtain⟨b,d,H',hb,hs,_⟩:=hstep p _ hr
    rw[hs];simp only[Ls,ih (by omega),hs,List.headD_cons]
 refine⟨fun p=>(st (p+1)).1.headD .und,fun p=>(st p).2.1,fun p=>(st p).2.2,⟨?_,?_,?_⟩,?_,?_,?_,?_⟩
 · have:=hst 0 (by omega);rw[h2]at this;simp at this;simp[← this]
 · have:=hst 0 (by omega);rw[h2]at this;simp at this;simp[← this]
 · intro p r hr
   have hp:=aj hr
   obtain⟨b,d,H',hb,hs,ht,hf⟩:=hstep p r hr
   have hd:(st (p+1)).1.headD .und=d:=by rw[hs];rfl
   refine⟨b,?_,?_,?_,?_⟩
   · rw[← hL p (by omega)];exact hb
   · simp only[hs,List.headD_cons]
   · intro h;rw[← hL p (by omega),hd,ht h,hs]
   · intro h;rw[hd,hs];exact hf h
 · rw[← hL _ (aLs _)];have:=hst _ (aLs _);rw[h3]at this;simp at this;rw[← this]
 · have:=hst _ (aLs _);rw[h3]at this;simp at this;show _=(st rs.length).2.1;rw[← this]
 · have:=hst _ (aLs _);rw[h3]at this;simp at this;show _=(st rs.length).2.2;rw[← this]
 · intro p hp
   rw[hst p hp,←hL p hp]
def Mb:O→Bool
 | .mv _ | .pk _ _ _ | .bin _ _ _ | .eqk _ _ _ _ | .un _ _ | .cv _ _ | .nc _ | .fa _ _ | .fl _ _ _ _ | .iaa _ _ _ _ | .ix _ _ _ _ _ | .bd _ _ | .ln _ | .mn _ | .mx _ | .ex _ _ | .mf _ _ | .bst _ | .fnz _ _ | .s3 _ _ _=>true
 | _=>false
def F3:O→Bool
 | .ld _ _ _ | .ia _ _ _ | .sc _ _ _ _ | .bs _ _ | .mkt _ _ _=>true
 | _=>false
def abO:O→Bool
 | .bs _ _=>true
 | _=>false
theorem G6{call:aU}{get:X→Option D}{H H':af}{o:O}{d:D}(hp:Mb o=true)(h:evO call get H o=some (d,H')):
 H'=H∧∀H2,evO call get H2 o=some (d,H2):=by
 cases o<;>simp only[Mb,aLt]at hp<;>simp only[evO,aLa,aLb]at h ⊢
 case mv=>obtain⟨a,ha,h⟩:=h;cases h;exact⟨rfl,fun H2=>⟨_,ha,rfl⟩⟩
 case pk=>obtain⟨a,ha,b,hb,c,hc,e,he,h⟩:=h;cases h;exact⟨rfl,fun H2=>⟨_,ha,_,hb,_,hc,_,he,rfl⟩⟩
 case bin=>obtain⟨a,ha,b,hb,c,hc,h⟩:=h;cases h;exact⟨rfl,fun H2=>⟨_,ha,_,hb,_,hc,rfl⟩⟩
 case eqk=>obtain⟨a,ha,b,hb,c,hc,h⟩:=h;cases h;exact⟨rfl,fun H2=>⟨_,ha,_,hb,_,hc,rfl⟩⟩
 case un=>obtain⟨a,ha,b,hb,h⟩:=h;cases h;exact⟨rfl,fun H2=>⟨_,ha,_,hb,rfl⟩⟩
 case s3=>obtain⟨a,ha,b,⟨b0,hb0,hb⟩,c,⟨c0,hc0,hc⟩,e,he,h⟩:=h;cases h;exact⟨rfl,fun H2=>⟨_,ha,_,⟨_,hb0,hb⟩,_,⟨_,hc0,hc⟩,_,he,rfl⟩⟩
 case bst=>obtain⟨a,ha,b,hb,h⟩:=h;cases h;exact⟨rfl,fun H2=>⟨_,ha,_,hb,rfl⟩⟩
 case fnz=>obtain⟨a,ha,b,hb,h⟩:=h;cases h;exact⟨rfl,fun H2=>⟨_,ha,_,hb,rfl⟩⟩
 case cv=>obtain⟨a,ha,b,hb,h⟩:=h;cases h;exact⟨rfl,fun H2=>⟨_,ha,_,hb,rfl⟩⟩
 case nc=>obtain⟨a,ha,b,hb,h⟩:=h;cases h;exact⟨rfl,fun H2=>⟨_,ha,_,hb,rfl⟩⟩
 case fa=>obtain⟨a,ha,b,hb,h⟩:=h;cases h;exact⟨rfl,fun H2=>⟨_,ha,_,hb,rfl⟩⟩
 case fl=>obtain⟨a,ha,b,hb,h⟩:=h;cases h;exact⟨rfl,fun H2=>⟨_,ha,_,hb,rfl⟩⟩
 case iaa=>
  obtain⟨a,ha,b,hb,c,hc,h⟩:=h
  split at h
  · rename_i hlt
    simp only[aLb]at h
    obtain⟨e,he,h⟩:=h;cases h
    exact⟨rfl,fun H2=>⟨_,ha,_,hb,_,hc,by rw[if_pos hlt,he];rfl⟩⟩
  · cases h
 case ix=>obtain⟨a,ha,b,hb,c,hc,e,he,h⟩:=h;cases h;exact⟨rfl,fun H2=>⟨_,ha,_,hb,_,hc,_,he,rfl⟩⟩
 case bd=>obtain⟨a,ha,b,hb,h⟩:=h;cases h;exact⟨rfl,fun H2=>⟨_,ha,_,hb,rfl⟩⟩
 case ln=>obtain⟨a,ha,b,hb,h⟩:=h;cases h;exact⟨rfl,fun H2=>⟨_,ha,_,hb,rfl⟩⟩
 case mn=>obtain⟨a,ha,b,hb,h⟩:=h;cases h;exact⟨rfl,fun H2=>⟨_,ha,_,hb,rfl⟩⟩
 case mx=>obtain⟨a,ha,b,hb,h⟩:=h;cases h;exact⟨rfl,fun H2=>⟨_,ha,_,hb,rfl⟩⟩
 case ex=>obtain⟨a,ha,b,hb,h⟩:=h;cases h;exact⟨rfl,fun H2=>⟨_,ha,_,hb,rfl⟩⟩
 case mf=>obtain⟨a,ha,h⟩:=h;cases h;exact⟨rfl,fun H2=>⟨_,ha,rfl⟩⟩
theorem VP{get:X→Option D}{H H':af}{len:X}{zero:T}{sz:Nat}{d:D}:
 (((get len).bind intOf).bind fun n=>(idx n).bind fun m=>if m≤lim then some (D.t (.sl (List.replicate m zero)),H)else none)=some (d,H')↔
 H'=H∧(((get len).bind intOf).bind fun n=>(idx n).bind fun m=>if m≤lim then some (D.t (.sl (List.replicate m zero)))else none)=some d:=by
 cases (get len).bind intOf with
 | none=>simp
 | some n=>
   simp only[aLq]
   cases idx n with
   | none=>simp
   | some m=>
     simp only[aLq]
     split
     · simp only[Option.some.injEq,Prod.mk.injEq]
       constructor
       · rintro ⟨a,b⟩;exact⟨b.symm,a⟩
       · rintro ⟨a,b⟩;exact⟨b,a.symm⟩
     · simp
theorem Ks{call:aU}{get:X→Option D}{H:af}{o:O}{d:D}(h:B9 get H o=some d):evO call get H o=some (d,H):=by
 cases o<;>simp only[B9,reduceCtorEq]at h<;>simp only[evO]
 case ld=>obtain⟨a,ha,h⟩:=aLa.1 h;simp[ha,h]
 case ia=>obtain⟨a,ha,h⟩:=aLa.1 h;obtain⟨b,hb,h⟩:=aLa.1 h;simp only[ha,hb,h,aLq,aLw]
 case sc=>
  obtain⟨a,ha,h⟩:=aLa.1 h;obtain⟨b,hb,h⟩:=aLa.1 h;obtain⟨c,hc,h⟩:=aLa.1 h
  simp only[ha,hb,hc,h,aLq,aLw]
 case mkt=>exact(VP (sz:=0)).2 ⟨rfl,h⟩
 case bs=>
  obtain⟨a,ha,h⟩:=aLa.1 h
  split at h
  · rename_i hc
    simp only[aLr,List.isEmpty_iff]at hc
    obtain⟨ts,hts,h⟩:=aLb.1 h
    cases h
    rw[ha,aLq,if_pos hc.1,hc.2,hts];rfl
  · cases h
theorem XO{call:aU}{get:X→Option D}{H H':af}{o:O}{d:D}(hl:F3 o=true)(hb:abO o=false)(h:evO call get H o=some (d,H')):
 H'=H∧B9 get H o=some d:=by
 cases o<;>simp only[F3,abO,aLt,reduceCtorEq]at hl hb<;>simp only[evO]at h<;>simp only[B9]
 case ld=>obtain⟨a,ha,h⟩:=aLa.1 h;obtain⟨b,hb,h⟩:=aLb.1 h;cases h;simp[ha,hb]
 case ia=>
  obtain⟨a,ha,h⟩:=aLa.1 h;obtain⟨b,hb,h⟩:=aLa.1 h;obtain⟨c,hc,h⟩:=aLb.1 h
  cases h;rw[ha,aLq,hb,aLq];exact⟨rfl,hc⟩
 case mkt=>exact(VP (sz:=0)).1 h
 case sc=>
  obtain⟨a,ha,h⟩:=aLa.1 h;obtain⟨b,hb,h⟩:=aLa.1 h;obtain⟨c,hc,h⟩:=aLa.1 h
  obtain⟨e,he,h⟩:=aLb.1 h
  cases h;rw[ha,aLq,hb,aLq,hc,aLq];exact⟨rfl,he⟩
inductive Kind where
 | pure | load | eff | alloc
 deriving DecidableEq
structure ik where
 at_:Nat→Option Oper
 prec:Nat→Nat→Bool
 kind:Nat→Kind
 nA:Nat
 cx:Nat→X→Operand→Bool
section
variable (I : ik)
def ik.Wr(q t:Nat):Prop:=(I.at_ q).bind (·.dst)=some t
def ik.Reads(p q t:Nat):Prop:=q<p∧I.prec q p=true∧I.Wr q t∧∀q',I.Wr q' t→q'≠q→q'≠p→q'<q∨(p<q'∧I.prec p q'=true)
def ik.PZ(p t:Nat):Prop:=∀q',I.Wr q' t→q'≠p→p<q'∧I.prec p q'=true
def ik.CX(vars:List Nat)(p:Nat):X→Operand→Prop
 | .l k,.tmp t=>k<p∧I.Reads p (p-1-k) t
 | .v s,.tmp t=>vars[s]?=some t∧I.PZ p t
 | .c d,.const v=>As v d=true
 | .c d,.func j=>∃f,d= .fn f []∧Names.ρ f=some j
 | .i n,.const v=>v= .int .i64 n
 | .b x,.const v=>v= .bool x
 | _,_=>False
def ik.Kt(ops:Array Oper)(p:Nat):Option (Nat×Bool)→Option (Nat×Bool)→Prop
 | none,none=>True
 | some (k,b),some (gi,b')=>b'=b∧k<p∧∃t,(ops[gi]?).bind (·.dst)=some t∧I.Reads p (p-1-k) t
 | _,_=>False
def ik.G7(m:Nat):Prop:=m=I.nA∨∃e,m=e+1∧I.kind e= .eff
def ik.F4(p m:Nat):Prop:=(∀e,I.kind e= .eff→m≤e→I.prec e p=false)∧(∀e,I.kind e= .eff→e<m→I.prec p e=false)
structure rn(P:Program)(vars:List Nat)(nt:Nat)(ops:Array Oper)(rs:List R)(ps:List (Nat×Nat)):Prop where
 op:∀p r,rs[p]?=some r→∃o,I.at_ p=some o∧XK P (I.cx p) r.o o.op=true∧(∀s,r.d=some s→∃t,o.dst=some t∧vars[s]?=some t)∧
  (∀t,o.dst=some t→t<nt∧(r.d=none→t∉vars))∧I.Kt ops p r.g o.guard
 out:∀p,rs.length≤p→I.at_ p=none
 cxs:∀p x y,I.cx p x y=true→I.CX vars p x y
 chain:∀q q' t,I.Wr q t→I.Wr q' t→q<q'→I.prec q q'=true
 lt:∀p q,I.prec p q=true→p<q
 eff:∀p q,I.kind p= .eff→I.kind q= .eff→p<q→I.prec p q=true
 effA:∀p,I.kind p= .eff→I.nA≤p∧p<rs.length
 pure:∀p r,rs[p]?=some r→I.kind p= .pure→Mb r.o=true
 load:∀p r,rs[p]?=some r→I.kind p= .load→F3 r.o=true∧(abO r.o=true→∃m,(p,m)∈ps)∧
  ∀m,I.G7 m→I.F4 p m→(p,m)∈ps∨(I.nA≤p∧∀e,I.kind e= .eff→(e<m↔e<p))
 alloc:∀p,I.kind p= .alloc→p<I.nA
 allocs:∀p r,rs[p]?=some r→I.kind p= .alloc→r.g=none∧
  (((∃zero live,r.o= .al zero live)∧∀m,I.G7 m→I.F4 p m→(p,m)∈ps∨m=I.nA)∨((∃len zero sz,r.o= .mkn len zero sz)∧∀m,I.G7 m→I.F4 p m→m=I.nA))
 nAle:I.nA≤rs.length
 nodup:vars.Nodup
end
section
variable {I : ik} {P : Program} {vars : List Nat} {nt bs : Nat} {ops : Array Oper} {rs : List R} {ps : List (Nat × Nat)} {call : aU}
variable {vs0 : List D} {H0 : af} {Ds : Nat → D} {V : Nat → List D} {Hs : Nat → af} {F0 : Fz} {g0 : Gh} {w0 : World}
def y4(P:Program)(I:ik)(Hs:Nat→af)(m:Nat)(F:Fz)(g:Gh)(p:Nat):Prop:=
 ∃o t z og cs,I.at_ p=some o∧o.op= .alloc t∧zeroOf P t=some z∧g[(Hs p).length]?=some og∧og.blk=none∧
  (Hs (p+1))[(Hs p).length]?=some (.box cs)∧shp (Hs m) (Hs p).length=some .box∧ya F g (shp (Hs m)) z.cells.toList cs
def yf(I:ik)(Hs:Nat→af)(m:Nat)(g:Gh)(p:Nat):Prop:=
 ∃o t l c,I.at_ p=some o∧o.op= .makeSlice t l c∧(m=I.nA→∃og sz n zero,g[(Hs p).length]?=some og∧og.blk=none∧0<n∧
  (Hs (p+1))[(Hs p).length]?=some (.arr sz false 0 (List.replicate n (.t zero)))∧(Hs m)[(Hs p).length]?=some (.arr sz false 0 (List.replicate n (.t zero))))
structure oV(P:Program)(I:ik)(vars:List Nat)(nt bs n:Nat)(vs0:List D)(H0:af)(Ds:Nat→D)(Hs:Nat→af)(F0:Fz)(g0:Gh)(w0:World)
 (S:Nat→Bool) (a:Act) (w:World) (m:Nat) (F:Fz) (g:Gh):Prop where
 stage:I.G7 m
 mle:m≤n
 eff:∀p,I.kind p= .eff→(S p=true↔p<m)
 heap:az F g (Hs m) w
 ext:Ext F0 g0 w0 F g w
 aft:Aft g0 H0 g (Hs m)
 size:a.tmps.size=nt
 defers:Marks bs a.defers g0 w0
 vals:∀q t,S q=true→I.Wr q t→(∀q',S q'=true→I.Wr q' t→q'≤q)→bF F g (shp (Hs m)) (a.eval (.tmp t)) (Ds q)
 inits:∀(s t:Nat) (d:D),vars[s]?=some t→vs0[s]?=some d→(∀q,S q=true→¬I.Wr q t)→bF F g (shp (Hs m)) (a.eval (.tmp t)) d
 unborn:∀p,I.kind p= .alloc→S p=false→y4 P I Hs m F g p∨yf I Hs m g p
def upd(S:Nat→Bool)(p:Nat):Nat→Bool:=fun q=>S q||q==p
def Down(I:ik)(S:Nat→Bool):Prop:=∀q q',I.prec q q'=true→S q'=true→S q=true
theorem oV.put{S:Nat→Bool}{a:Act}{w w':World}{m m':Nat}{F F':Fz}{g g':Gh}{p:Nat}{o:Oper}{r:R}{v:Value}
 (h:oV P I vars nt bs rs.length vs0 H0 Ds Hs F0 g0 w0 S a w m F g) (hR:rn I P vars nt ops rs ps) (hd:Down I S) (hr:rs[p]?=some r) (ho:I.at_ p=some o) (hS:S p=false)
 (hlift:∀v d,bF F g (shp (Hs m)) v d→bF F' g' (shp (Hs m')) v d) (hv:bF F' g' (shp (Hs m')) v (Ds p))
 (hst:I.G7 m') (hle:m'≤rs.length) (heff:∀q,I.kind q= .eff→(upd S p q=true↔q<m'))
 (hH:az F' g' (Hs m') w') (hE:Ext F0 g0 w0 F' g' w') (hA:Aft g0 H0 g' (Hs m'))
 (hub:∀q,I.kind q= .alloc→upd S p q=false→y4 P I Hs m' F' g' q∨yf I Hs m' g' q):
 oV P I vars nt bs rs.length vs0 H0 Ds Hs F0 g0 w0 (upd S p) (a.put o.dst v) w' m' F' g':=by
 obtain⟨o',ho',_,_,hdst,_⟩:=hR.op p r hr
 rw[ho]at ho';cases ho'
 have hwr:∀t,I.Wr p t↔o.dst=some t:=fun t=>by unfold ik.Wr;rw[ho];rfl
 have hput:∀t,I.Wr p t→(a.put o.dst v).eval (.tmp t)=v:=by
  intro t ht
  rw[hwr]at ht
  have:=(hdst t ht).1
  rw[ht]
  simp[Act.put,Act.eval,h.size,this]
 have hne:∀t,¬I.Wr p t→(a.put o.dst v).eval (.tmp t)=a.eval (.tmp t):=by
  intro t ht
  rw[hwr]at ht
  exact Act.eval_put fun d hd he=>by cases he;exact ht hd
 refine⟨hst,hle,heff,hH,hE,hA,?_,?_,?_,?_,hub⟩
 · cases o.dst<;>simp[Act.put,h.size]
 · cases o.dst<;>exact h.defers
 · intro q t hq hw hmax
   by_cases hp:I.Wr p t
   · by_cases e:q=p
     · subst e;rw[hput t hp];exact hv
     · have hle:=hmax p (by simp[upd]) hp
       have hSq:S q=true:=by simpa [upd,e]using hq
       have:=hd p q (hR.chain p q t hp hw (by omega)) hSq
       rw[hS]at this;cases this
   · rw[hne t hp]
     have e:q≠p:=fun e=>hp (e▸hw)
     have hSq:S q=true:=by simpa [upd,e]using hq
     exact hlift _ _ (h.vals q t hSq hw fun q' hq' hw'=>hmax q' (by simp[upd,hq']) hw')
 · intro s t d hs hd' hno
   have hp:¬I.Wr p t:=hno p (by simp[upd])
   rw[hne t hp]
   exact hlift _ _ (h.inits s t d hs hd' fun q hq=>hno q (by simp[upd,hq]))
theorem oV.reads{S:Nat→Bool}{a:Act}{w:World}{m:Nat}{F:Fz}{g:Gh}{p q t:Nat}(h:oV P I vars nt bs rs.length vs0 H0 Ds Hs F0 g0 w0 S a w m F g)
 (hd:Down I S) (hS:S p=false) (hpre:∀q,I.prec q p=true→S q=true) (hr:I.Reads p q t):bF F g (shp (Hs m)) (a.eval (.tmp t)) (Ds q):=by
 obtain⟨h1,h2,h3,h4⟩:=hr
 refine h.vals q t (hpre q h2) h3 fun q' hq' hw'=>?_
 by_cases e:q'=q
 · omega
 · by_cases e2:q'=p
   · subst e2;rw[hS]at hq';cases hq'
   · rcases h4 q' hw' e e2 with h5 | ⟨_,h5⟩
     · omega
     · have:=hd p q' h5 hq';rw[hS]at this;cases this
theorem rn.Mc(hR:rn I P vars nt ops rs ps){q s t:Nat}{r:R}(hr:rs[q]?=some r)(hs:vars[s]?=some t):I.Wr q t↔r.d=some s:=by
 obtain⟨o,ho,_,hd1,hd2,_⟩:=hR.op q r hr
 unfold ik.Wr
 rw[ho,aLq]
 constructor
 · intro ht
   cases e:r.d with
   | none=>exact((hd2 t ht).2 e (aLd hs)).elim
   | some s'=>
     obtain⟨t',ht',hv⟩:=hd1 s' e
     rw[ht]at ht';cases ht'
     rw[IA hR.nodup hs hv]
 · intro e
   obtain⟨t',ht',hv⟩:=hd1 s e
   rw[hs]at hv;cases hv;exact ht'
theorem P0(hC:Canon call rs vs0 H0 Ds V Hs){s:Nat}{d:D}:∀ {p:Nat},p≤rs.length→(V p)[s]?=some d→
 (∃q r,q<p∧rs[q]?=some r∧r.d=some s∧d=Ds q∧∀q' r',q<q'→q'<p→rs[q']?=some r'→r'.d≠some s)∨
 (vs0[s]?=some d∧∀q r,q<p→rs[q]?=some r→r.d≠some s)
 | 0,_,h=>by rw[hC.v0]at h;exact .inr ⟨h,fun q r hq=>by omega⟩
 | p+1,hp,h=>by
   have hr:rs[p]?=some rs[p]:=aLc (by omega)
   obtain⟨b,_,hv,_⟩:=hC.step p _ hr
   rw[hv]at h
   by_cases e:rs[p].d=some s
   · rw[e]at h
     simp only[wr]at h
     have hl:s<(V p).length:=by have:=aj h;simpa using this
     rw[aLj hl]at h
     cases h
     exact .inl ⟨p,_,by omega,hr,e,rfl,fun q' r' h1 h2=>by omega⟩
   · have h':(V p)[s]?=some d:=by
      unfold wr at h
      split at h
      · rename_i s' es
        rw[aLi (fun e'=>e (by rw[es,e']))]at h;exact h
      · exact h
     rcases P0 hC (by omega) h' with⟨q,r,h1,h2,h3,h4,h5⟩ | ⟨h1,h2⟩
     · refine .inl ⟨q,r,by omega,h2,h3,h4,fun q' r' k1 k2 k3=>?_⟩
       by_cases e2:q'=p
       · subst e2;rw[hr]at k3;cases k3;exact e
       · exact h5 q' r' k1 (by omega) k3
     · refine .inr ⟨h1,fun q r k1 k2=>?_⟩
       by_cases e2:q=p
       · subst e2;rw[hr]at k2;cases k2;exact e
       · exact h2 q r (by omega) k2
theorem oV.operands{S:Nat→Bool}{a:Act}{w:World}{m:Nat}{F:Fz}{g:Gh}{p:Nat}(hC:Canon call rs vs0 H0 Ds V Hs)(hR:rn I P vars nt ops rs ps)
 (h:oV P I vars nt bs rs.length vs0 H0 Ds Hs F0 g0 w0 S a w m F g)
 (hd:Down I S) (hp:p<rs.length) (hS:S p=false) (hpre:∀q,I.prec q p=true→S q=true):
 ∀x y d,I.cx p x y=true→X.get (V p) (Ls Ds p) x=some d→bF F g (shp (Hs m)) (a.eval y) d:=by
 intro x y d hxy hx
 have hc:=hR.cxs p x y hxy
 cases x<;>cases y<;>simp only[ik.CX]at hc<;>simp only[X.get]at hx
 case l.tmp k t=>
  obtain⟨h1,h2⟩:=PY hx
  rw[h2]
  exact h.reads hd hS hpre hc.2
 case v.tmp s t=>
  obtain⟨hs,hf⟩:=hc
  have hno:∀q r,q<p→rs[q]?=some r→r.d≠some s:=by
   intro q r hq hr e
   have:=(hf q ((hR.Mc hr hs).2 e) (by omega)).1
   omega
  rcases P0 hC (by omega) hx with⟨q,r,h1,h2,h3,_⟩ | ⟨h1,_⟩
  · exact(hno q r h1 h2 h3).elim
  · refine h.inits s t d hs h1 fun q hq hw=>?_
    have hqp:q≠p:=fun e=>by subst e;rw[hS]at hq;cases hq
    have:=hd p q (hf q hw hqp).2 hq
    rw[hS]at this;cases this
 case c.const=>cases hx;exact wO hc _ _ _
 case c.func=>cases hx;obtain⟨f,rfl,hf⟩:=hc;exact .fn _ _ hf [] [] rfl (fun i v c hv=>by simp at hv)
 case i.const=>cases hx;subst hc;exact .t _ _ (.int _ _)
 case b.const=>cases hx;subst hc;exact .t _ _ (.bool _)
end
end Go.Ev
namespace Go.Ev
open Go
variable [Names]
section
variable {I : ik} {P : Program} {vars : List Nat} {nt bs : Nat} {ops : Array Oper} {rs : List R} {ps : List (Nat × Nat)} {call : aU}
variable {vs0 : List D} {H0 : af} {Ds : Nat → D} {V : Nat → List D} {Hs : Nat → af} {F0 : Fz} {g0 : Gh} {w0 : World}
variable {S : Nat → Bool} {a : Act} {w : World} {m : Nat} {F : Fz} {g : Gh} {p : Nat}
theorem getD_some{t:Nat}{v:Value}(h:a.eval (.tmp t)=v)(hv:v≠undef):a.tmps[t]?=some v:=by
 simp only[Act.eval,Array.getD_eq_getD_getElem?]at h
 cases e:a.tmps[t]? with
 | none=>rw[e]at h;exact(hv h.symm).elim
 | some u=>rw[e]at h;simp at h;rw[h]
theorem oV.guard{o:Oper}{gd:Option (Nat×Bool)}{b:Bool}(h:oV P I vars nt bs rs.length vs0 H0 Ds Hs F0 g0 w0 S a w m F g)(hd:Down I S)(hS:S p=false)
 (hpre:∀q,I.prec q p=true→S q=true) (hg:I.Kt ops p gd o.guard) (hw:cP (Ls Ds p) gd=some b):Region.wanted o (yielded ops a.tmps)=b:=by
 unfold Region.wanted
 cases gd with
 | none=>
   cases e:o.guard with
   | none=>simp[cP]at hw;simp[← hw]
   | some x=>rw[e]at hg;exact hg.elim
 | some kb=>
   obtain⟨k,bb⟩:=kb
   cases e:o.guard with
   | none=>rw[e]at hg;exact hg.elim
   | some x=>
     obtain⟨gi,b'⟩:=x
     rw[e]at hg
     obtain⟨rfl,hk,t,hgi,hr⟩:=hg
     have hrel:=h.reads hd hS hpre hr
     simp only[cP,ae8 hk,aLq]at hw
     simp only[yielded,hgi,aLq]
     generalize hD:Ds (p-1-k)=d at hw hrel
     split at hw
     · generalize hv:a.eval (.tmp t)=v at hrel
       cases hrel with
       | t _ _ hrel=>
         cases hrel
         rw[getD_some hv (by simp[undef])]
         cases hw
         rename_i x
         cases x<;>cases b'<;>rfl
     · cases hw
       generalize hv:a.eval (.tmp t)=v at hrel
       cases hrel with
       | tup vs _ hl _=>
         have:vs=[]:=List.length_eq_zero_iff.1 hl
         subst this
         simp only[Act.eval,Array.getD_eq_getD_getElem?]at hv
         cases e2:a.tmps[t]? with
         | none=>rfl
         | some u=>rw[e2]at hv;simp at hv;subst hv;rfl
     · cases hw
structure rE(I:ik)(rs:List R)(ps:List (Nat×Nat))(Ds:Nat→D)(V:Nat→List D)(Hs:Nat→af):Prop where
 load:∀p m r,(p,m)∈ps→rs[p]?=some r→m≤rs.length→F3 r.o=true→cP (Ls Ds p) r.g=some false∨
  ∃d,B9 (X.get (V p) (Ls Ds p)) (Hs p) r.o=some d∧B9 (X.get (V p) (Ls Ds p)) (Hs m) r.o=some d
 al:∀p m r zero live,(p,m)∈ps→rs[p]?=some r→m≤rs.length→r.o= .al zero live→(Hs m)[(Hs p).length]?=(Hs (p+1))[(Hs p).length]?
theorem P2{vs:List D}{H:af}(htr:∀p,p≤rs.length→(trace call rs [] vs H)[p]?=some (Ls Ds p,V p,Hs p))(h:ps.all (steady (trace call rs [] vs H) rs)=true):rE I rs ps Ds V Hs where
 load p m r hm hr hle hl:=by
  have:=aLx.1 h _ hm
  have hp:=aj hr
  simp only[steady,htr p (by omega),hr,htr m hle,htr (p+1) (by omega)]at this
  split at this
  · rename_i e;rw[e]at hl;cases hl
  · simp only[Bool.or_eq_true,beq_iff_eq,aLr,decide_eq_true_eq]at this
    rcases this with h1 | ⟨h1,h2⟩
    · exact .inl h1
    · obtain⟨d,hd⟩:=Option.isSome_iff_exists.1 h2
      exact .inr ⟨d,hd,h1.trans hd⟩
 al p m r zero live hm hr hle he:=by
  have:=aLx.1 h _ hm
  have hp:=aj hr
  simp only[steady,htr p (by omega),hr,htr m hle,htr (p+1) (by omega),he,decide_eq_true_eq]at this
  exact this
theorem Canon.y5(hC:Canon call rs vs0 H0 Ds V Hs)(hR:rn I P vars nt ops rs ps)(hSt:rE I rs ps Ds V Hs)(hps:∀q m,(q,m)∈ps→m≤rs.length)
 {r:R} (hr:rs[p]?=some r) (hk:I.kind p= .load):Hs (p+1)=Hs p:=by
 obtain⟨b,hb,_,ht,hf⟩:=hC.step p r hr
 obtain⟨h1,h2,_⟩:=hR.load p r hr hk
 cases b with
 | false=>exact(hf rfl).2
 | true=>
   by_cases hbs:abO r.o=true
   · obtain⟨m,hm⟩:=h2 hbs
     rcases hSt.load p m r hm hr (hps p m hm) h1 with h3 | ⟨d,h3,_⟩
     · rw[hb]at h3;cases h3
     · have:=ht rfl
       rw[Ks h3]at this
       simp only[Option.some.injEq,Prod.mk.injEq]at this
       exact this.2.symm
   · exact(XO h1 (by simpa using hbs) (ht rfl)).1
theorem Canon.same(hC:Canon call rs vs0 H0 Ds V Hs)(hR:rn I P vars nt ops rs ps)(hSt:rE I rs ps Ds V Hs)(hps:∀q m,(q,m)∈ps→m≤rs.length){p:Nat}(hA:I.nA≤p):
 ∀ {p':Nat},p≤p'→p'≤rs.length→(∀e,I.kind e= .eff→p≤e→e<p'→False)→Hs p'=Hs p:=by
 have key:∀k,p+k≤rs.length→(∀e,I.kind e= .eff→p≤e→e<p+k→False)→Hs (p+k)=Hs p:=by
  intro k
  induction k with
  | zero=>intros;rfl
  | succ k ih=>
   intro hn hno
   generalize hqq:p+k=q at*
   have hq:p≤q:=by omega
   have e1:p+(k+1)=q+1:=by omega
   rw[e1]at hn hno ⊢
   rw[← ih (by omega) fun e he h1 h2=>hno e he h1 (by omega)]
   have hr:rs[q]?=some rs[q]:=aLc (by omega)
   cases hk:I.kind q with
   | eff=>exact(hno q hk hq (by omega)).elim
   | alloc=>have:=hR.alloc q hk;omega
   | load=>exact hC.y5 hR hSt hps hr hk
   | pure=>
     obtain⟨b,hb,_,ht,hf⟩:=hC.step q _ hr
     cases b with
     | false=>exact(hf rfl).2
     | true=>exact(G6 (hR.pure q _ hr hk) (ht rfl)).1
 intro p' hle hn hno
 obtain⟨k,rfl⟩:=Nat.exists_eq_add_of_le hle
 exact key k hn hno
end
end Go.Ev
namespace Go.Ev
open Go
variable [Names]
section
variable {I : ik} {P : Program} {vars : List Nat} {nt bs : Nat} {ops : Array Oper} {rs : List R} {ps : List (Nat × Nat)} {call : aU}
variable {vs0 : List D} {H0 : af} {Ds : Nat → D} {V : Nat → List D} {Hs : Nat → af} {F0 : Fz} {g0 : Gh} {w0 : World}
variable {S : Nat → Bool} {a : Act} {w : World} {m : Nat} {F : Fz} {g : Gh} {p : Nat}
theorem Canon.al(hC:Canon call rs vs0 H0 Ds V Hs)(hR:rn I P vars nt ops rs ps){r:R}(hr:rs[p]?=some r)(hk:I.kind p= .alloc){zero:List D}{live:List (Nat×Nat)}(hro:r.o= .al zero live):
 ∃o t z,I.at_ p=some o∧o.op= .alloc t∧zeroOf P t=some z∧As.relVD z.cells.toList zero=true∧o.guard=none∧r.g=none∧
  Ds p= .bp (Hs p).length 0∧Hs (p+1)=Hs p++ .box (cq ((Hs p).length+1) zero live).1::(cq ((Hs p).length+1) zero live).2:=by
 obtain⟨hg,_⟩:=hR.allocs p _ hr hk
 obtain⟨o,ho,hc,_,_,hgd⟩:=hR.op p _ hr
 obtain⟨b,hb,_,ht,_⟩:=hC.step p _ hr
 rw[hg]at hb
 simp only[cP,Option.some.injEq]at hb
 have he:=ht hb.symm
 rw[hro]at he hc
 simp only[evO,Option.some.injEq,Prod.mk.injEq]at he
 simp only[XK]at hc
 split at hc
 · rename_i t hop
   split at hc
   · rename_i z hz
     refine⟨o,t,z,ho,hop,hz,hc,?_,hg,he.1.symm,he.2.symm⟩
     rw[hg]at hgd
     cases e:o.guard with
     | none=>rfl
     | some x=>rw[e]at hgd;exact hgd.elim
   · cases hc
 · cases hc
theorem Canon.mkn(hC:Canon call rs vs0 H0 Ds V Hs)(hR:rn I P vars nt ops rs ps){r:R}(hr:rs[p]?=some r)(hk:I.kind p= .alloc){len:X}{zero:T}{sz:Nat}(hro:r.o= .mkn len zero sz):
 ∃o t l c n m,I.at_ p=some o∧o.op= .makeSlice t l c∧yV P t sz (fun z=>As z (.t zero))=true∧I.cx p len l=true∧I.cx p len c=true∧o.guard=none∧r.g=none∧
  (X.get (V p) (Ls Ds p) len).bind intOf=some n∧idx n=some m∧m≤lim∧0<m∧Ds p= .ref (Hs p).length 0 m∧Hs (p+1)=Hs p++[.arr sz false 0 (List.replicate m (.t zero))]:=by
 obtain⟨hg,_⟩:=hR.allocs p _ hr hk
 obtain⟨o,ho,hc,_,_,hgd⟩:=hR.op p _ hr
 obtain⟨b,hb,_,ht,_⟩:=hC.step p _ hr
 rw[hg]at hb
 simp only[cP,Option.some.injEq]at hb
 have he:=ht hb.symm
 rw[hro]at he hc
 simp only[evO]at he
 obtain⟨n,hn,he⟩:=aLa.1 he
 obtain⟨m,hm,he⟩:=aLa.1 he
 split at he
 · rename_i hlim
   simp only[Option.some.injEq,Prod.mk.injEq]at he
   simp only[XK]at hc
   split at hc
   · rename_i t l c hop
     simp only[aLr]at hc
     refine⟨o,t,l,c,n,m,ho,hop,hc.1.1,hc.1.2,hc.2,?_,hg,hn,hm,hlim.1,hlim.2,he.1.symm,he.2.symm⟩
     rw[hg]at hgd
     cases e:o.guard with
     | none=>rfl
     | some x=>rw[e]at hgd;exact hgd.elim
   · cases hc
 · cases he
theorem Canon.one(hC:Canon call rs vs0 H0 Ds V Hs)(hR:rn I P vars nt ops rs ps)(hSt:rE I rs ps Ds V Hs)(hps:∀q m,(q,m)∈ps→m≤rs.length)(hp:p<I.nA):
 (∃o K,Hs (p+1)=Hs p++o::K)∨(I.kind p≠ .alloc∧Hs (p+1)=Hs p):=by
 have hlt:p<rs.length:=Nat.lt_of_lt_of_le hp hR.nAle
 have hr:rs[p]?=some rs[p]:=aLc hlt
 cases hk:I.kind p with
 | alloc=>
   left
   obtain⟨_,⟨⟨zero,live,e⟩,_⟩ | ⟨⟨len,zero,sz,e⟩,_⟩⟩:=hR.allocs p _ hr hk
   · obtain⟨_,_,_,_,_,_,_,_,_,_,h⟩:=hC.al hR hr hk e
     exact⟨_,_,h⟩
   · obtain⟨_,_,_,_,_,_,_,_,_,_,_,_,_,_,_,_,_,_,h⟩:=hC.mkn hR hr hk e
     exact⟨_,_,h⟩
 | eff=>have:=(hR.effA p hk).1;omega
 | load=>exact .inr ⟨by simp,hC.y5 hR hSt hps hr hk⟩
 | pure=>
   refine .inr ⟨by simp,?_⟩
   obtain⟨b,hb,_,ht,hf⟩:=hC.step p _ hr
   cases b with
   | false=>exact(hf rfl).2
   | true=>exact(G6 (hR.pure p _ hr hk) (ht rfl)).1
theorem Canon.grow(hC:Canon call rs vs0 H0 Ds V Hs)(hR:rn I P vars nt ops rs ps)(hSt:rE I rs ps Ds V Hs)(hps:∀q m,(q,m)∈ps→m≤rs.length){p:Nat}:∀k,p+k≤I.nA→∃K,Hs (p+k)=Hs p++K
 | 0,_=>⟨[],by simp⟩
 | k+1,h=>by
   obtain⟨K,hK⟩:=Canon.grow hC hR hSt hps (p:=p) k (by omega)
   rw[← Nat.add_assoc]
   rcases hC.one hR hSt hps (p:=p+k) (by omega)with⟨o,K2,e⟩ | ⟨_,e⟩
   · rw[e,hK,List.append_assoc]
     exact⟨_,rfl⟩
   · rw[e];exact⟨K,hK⟩
theorem Canon.XP(hC:Canon call rs vs0 H0 Ds V Hs)(hR:rn I P vars nt ops rs ps)(hSt:rE I rs ps Ds V Hs)(hps:∀q m,(q,m)∈ps→m≤rs.length){p q:Nat}(h:p≤q)(hq:q≤I.nA):∃K,Hs q=Hs p++K:=by
 obtain⟨k,rfl⟩:=Nat.exists_eq_add_of_le h
 exact hC.grow hR hSt hps k hq
theorem Canon.VQ(hC:Canon call rs vs0 H0 Ds V Hs)(hR:rn I P vars nt ops rs ps)(hSt:rE I rs ps Ds V Hs)(hps:∀q m,(q,m)∈ps→m≤rs.length){p q:Nat}(h:p<q)(hk:I.kind p= .alloc)(hq:q<I.nA):(Hs p).length<(Hs q).length:=by
 obtain⟨K,hK⟩:=hC.XP hR hSt hps (p:=p+1) (q:=q) (by omega) (by omega)
 rcases hC.one hR hSt hps (p:=p) (by omega)with⟨o,K2,e⟩ | ⟨e,_⟩
 · rw[hK,e];simp
 · exact absurd hk e
theorem y4.aft{m m':Nat}{F F':Fz}{g g':Gh}(h:y4 P I Hs m F g p)(hF:mS F F')(hA:Aft g (Hs m) g' (Hs m')):y4 P I Hs m' F' g' p:=by
 obtain⟨o,t,z,og,cs,h1,h2,h3,h4,h5,h6,h7,h8⟩:=h
 obtain⟨k1,k2⟩:=hA.box _ _ rfl h7
 exact⟨o,t,z,og,cs,h1,h2,h3,k2.trans h4,h5,h6,k1,h8.1,h8.2.1,fun i v d hv hd=>(h8.2.2 i v d hv hd).aft hF hA⟩
theorem yf.aft{m m':Nat}{g g':Gh}(h:yf I Hs m g p)(hm:m'=m∨m'≠I.nA)(hA:Aft g (Hs m) g' (Hs m')):yf I Hs m' g' p:=by
 obtain⟨o,t,l,c,h1,h2,h3⟩:=h
 refine⟨o,t,l,c,h1,h2,fun hn=>?_⟩
 rcases hm with rfl | hm
 · obtain⟨og,sz,n,zero,k1,k2,k3,k4,k5⟩:=h3 hn
   have hs:shp (Hs m') (Hs p).length=some (.arr sz 0 n):=by simp[shp,k5,Obj.sh]
   obtain⟨sz',ep',n',l1,l2⟩:=hA.arr _ _ sz 0 n rfl hs
   rw[hs]at l1;cases l1
   rcases l2 with l2 | ⟨_,_,_,l2⟩
   · exact absurd l2 (by unfold L0;omega)
   · exact⟨og,sz,n,zero,l2.trans k1,k2,k3,k4,k5⟩
 · exact absurd hn hm
theorem Ku{F:Fz}{g:Gh}{H:af}(hH:az F g H w)(sz n:Nat)(zero:T):
 ∃g',az F g' (H++[.arr sz false 0 (List.replicate n (.t zero))]) w∧Ext F g w F g' w∧Aft g H g' (H++[.arr sz false 0 (List.replicate n (.t zero))])∧∃og,g'[H.length]?=some og∧og.blk=none:=by
 refine⟨g++[⟨none,0⟩],hH.add _ _ (.inl ⟨rfl,.inr fun e he=>⟨zero,List.eq_of_mem_replicate he⟩⟩) (by simp),Ext.add _ (aLs _) (fun _ _=>rfl) (by simp),Aft.append hH.len _ _,⟨none,0⟩,?_,rfl⟩
 rw[← hH.len];simp
theorem Canon.names(hC:Canon call rs vs0 H0 Ds V Hs)(hR:rn I P vars nt ops rs ps)(hSt:rE I rs ps Ds V Hs)(hps:∀q m,(q,m)∈ps→m≤rs.length)(hH:az F0 g0 H0 w):∀p,p≤I.nA→
 ∃g,az F0 g (Hs p) w∧Ext F0 g0 w F0 g w∧Aft g0 H0 g (Hs p)∧∀q,q<p→I.kind q= .alloc→y4 P I Hs p F0 g q∨∃o t l c,I.at_ q=some o∧o.op= .makeSlice t l c∧∃og sz n zero,g[(Hs q).length]?=some og∧og.blk=none∧0<n∧
  (Hs (q+1))[(Hs q).length]?=some (.arr sz false 0 (List.replicate n (.t zero)))∧(Hs p)[(Hs q).length]?=some (.arr sz false 0 (List.replicate n (.t zero)))
 | 0,_=>⟨g0,by rw[hC.h0];exact hH,Ext.refl _ _ _,by rw[hC.h0];exact Aft.refl _ _,fun q hq=>by omega⟩
 | p+1,hp=>by
   obtain⟨g,h1,h2,h3,h4⟩:=Canon.names hC hR hSt hps hH p (by omega)
   have hlt:p<rs.length:=Nat.lt_of_lt_of_le (by omega) hR.nAle
   have hr:rs[p]?=some rs[p]:=aLc hlt
   -- what was named stays named
   have keep:∀ {g':Gh},Aft g (Hs p) g' (Hs (p+1))→(∃K,Hs (p+1)=Hs p++K)→∀q,q<p→I.kind q= .alloc→y4 P I Hs (p+1) F0 g' q∨∃o t l c,I.at_ q=some o∧o.op= .makeSlice t l c∧∃og sz n zero,g'[(Hs q).length]?=some og∧og.blk=none∧0<n∧
    (Hs (q+1))[(Hs q).length]?=some (.arr sz false 0 (List.replicate n (.t zero)))∧(Hs (p+1))[(Hs q).length]?=some (.arr sz false 0 (List.replicate n (.t zero))):=by
    intro g' hA ⟨K,hK⟩ q hq hk
    rcases h4 q hq hk with h | ⟨o,t,l,c,k1,k2,og,sz,n,zero,k3,k4,k5,k6,k7⟩
    · exact .inl (h.aft (mS.refl _) hA)
    · right
      have k8:(Hs (p+1))[(Hs q).length]?=some (.arr sz false 0 (List.replicate n (.t zero))):=by rw[hK];exact get_append k7
      have hs:shp (Hs p) (Hs q).length=some (.arr sz 0 n):=by simp[shp,k7,Obj.sh]
      have hs2:shp (Hs (p+1)) (Hs q).length=some (.arr sz 0 n):=by simp[shp,k8,Obj.sh]
      obtain⟨sz',ep',n',l1,l2⟩:=hA.arr _ _ sz 0 n rfl hs
      rw[hs2]at l1;cases l1
      rcases l2 with l2 | ⟨_,_,_,l2⟩
      · exact absurd l2 (by unfold L0;omega)
      · exact⟨o,t,l,c,k1,k2,og,sz,n,zero,l2.trans k3,k4,k5,k6,k8⟩
   by_cases hk:I.kind p= .alloc
   · obtain⟨_,⟨⟨zero,live,e⟩,_⟩ | ⟨⟨len,zero,sz,e⟩,_⟩⟩:=hR.allocs p _ hr hk
     · obtain⟨o,t,z,k2,k4,k5,k6,_,_,_,k8⟩:=hC.al hR hr hk e
       obtain⟨g',l1,l2,l3,⟨og,l4,l5⟩,l6⟩:=NI h1 (As.Kp k6 F0 g (shp (Hs p))) live
       rw[← k8]at l1 l3 l6
       refine⟨g',l1,h2.trans l2,h3.trans l3,fun q hq hkq=>?_⟩
       by_cases e:q=p
       · subst e
         refine .inl ⟨o,t,z,og,_,k2,k4,k5,l4,l5,?_,?_,l6⟩
         · rw[k8];simp
         · rw[k8];simp[shp,Obj.sh]
       · exact keep l3 ⟨_,k8⟩ q (by omega) hkq
     · obtain⟨o,t,l,c,n,m,k1,k2,k3,k4,k5,k6,k7,k8,k9,k10,k11,k12,k13⟩:=hC.mkn hR hr hk e
       obtain⟨g',l1,l2,l3,og,l4,l5⟩:=Ku h1 sz m zero
       rw[← k13]at l1 l3
       refine⟨g',l1,h2.trans l2,h3.trans l3,fun q hq hkq=>?_⟩
       by_cases e:q=p
       · subst e
         refine .inr ⟨o,t,l,c,k1,k2,og,sz,m,zero,l4,l5,k11,?_,?_⟩
         · rw[k13];simp
         · rw[k13];simp
       · exact keep l3 ⟨_,k13⟩ q (by omega) hkq
   · rcases hC.one hR hSt hps (p:=p) (by omega)with⟨o,K,e⟩ | ⟨_,e⟩
     · have:Hs (p+1)=Hs p:=by
        rcases hC.one hR hSt hps (p:=p) (by omega)with⟨o',K',e'⟩ | ⟨_,e'⟩
        · cases hk':I.kind p with
          | alloc=>exact absurd hk' hk
          | eff=>have:=(hR.effA p hk').1;omega
          | load=>exact hC.y5 hR hSt hps hr hk'
          | pure=>
            obtain⟨b,hb,_,ht,hf⟩:=hC.step p _ hr
            cases b with
            | false=>exact(hf rfl).2
            | true=>exact(G6 (hR.pure p _ hr hk') (ht rfl)).1
        · exact e'
       rw[this]at e
       have:=congrArg List.length e
       simp at this
     · refine⟨g,by rw[e];exact h1,h2,by rw[e];exact h3,fun q hq hkq=>?_⟩
       have hqp:q≠p:=fun e=>hk (e▸hkq)
       exact keep (by rw[e];exact Aft.refl _ _) ⟨[],by rw[e];simp⟩ q (by omega) hkq
end
end Go.Ev
namespace Go.Ev
open Go
variable [Names]
section
variable {I : ik} {P : Program} {vars : List Nat} {nt bs : Nat} {ops : Array Oper} {rs : List R} {ps : List (Nat × Nat)} {call : aU}
variable {vs0 : List D} {H0 : af} {Ds : Nat → D} {V : Nat → List D} {Hs : Nat → af} {F0 : Fz} {g0 : Gh} {w0 : World}
variable {S : Nat → Bool} {a : Act} {w : World} {m : Nat} {F : Fz} {g : Gh} {p : Nat} {Q : Exit → Act → World → Prop}
theorem rn.Md(hR:rn I P vars nt ops rs ps)(h:I.G7 m):I.nA≤m:=by
 rcases h with h | ⟨e,h,he⟩
 · omega
 · have:=(hR.effA e he).1;omega
theorem oV.P3(hR:rn I P vars nt ops rs ps)(h:oV P I vars nt bs rs.length vs0 H0 Ds Hs F0 g0 w0 S a w m F g)
 (hS:S p=false) (hpre:∀q,I.prec q p=true→S q=true) (hk:I.kind p= .eff):m≤p∧∀e,I.kind e= .eff→m≤e→e<p→False:=by
 refine⟨?_,fun e he h1 h2=>?_⟩
 · rcases Nat.lt_or_ge p m with h1 | h1
   · have:=(h.eff p hk).2 h1;rw[hS]at this;cases this
   · exact h1
 · have:=(h.eff e he).1 (hpre e (hR.eff e p he hk h2));omega
theorem oV.Kv(h:oV P I vars nt bs rs.length vs0 H0 Ds Hs F0 g0 w0 S a w m F g)(hd:Down I S)(hS:S p=false)(hpre:∀q,I.prec q p=true→S q=true):I.F4 p m:=by
 refine⟨fun e he h1=>?_,fun e he h1=>?_⟩
 · cases e1:I.prec e p with
   | false=>rfl
   | true=>have:=(h.eff e he).1 (hpre e e1);omega
 · cases e1:I.prec p e with
   | false=>rfl
   | true=>have:=hd p e e1 ((h.eff e he).2 h1);rw[hS]at this;cases this
theorem oV.step(ht:yY P)(hcall:od P call)(hC:Canon call rs vs0 H0 Ds V Hs)(hR:rn I P vars nt ops rs ps)(hSt:rE I rs ps Ds V Hs)
 (hps:∀q m,(q,m)∈ps→m≤rs.length) (h:oV P I vars nt bs rs.length vs0 H0 Ds Hs F0 g0 w0 S a w m F g) (hd:Down I S) (hp:p<rs.length) (hS:S p=false)
 (hpre:∀q,I.prec q p=true→S q=true) {i:Nat} (hi:ops[i]?=I.at_ p) {K:Act→World→Prop}
 (hK:∀a' w' m' F' g',oV P I vars nt bs rs.length vs0 H0 Ds Hs F0 g0 w0 (upd S p) a' w' m' F' g'→K a' w'):wpOp P ops Q i K a w:=by
 have hr:rs[p]?=some rs[p]:=aLc hp
 generalize rs[p]=r at hr
 obtain⟨o,ho,hchk,_,_,hgd⟩:=hR.op p r hr
 obtain⟨b,hb,_,hev,hskip⟩:=hC.step p r hr
 have hw:=h.guard hd hS hpre hgd hb
 have hnA:=hR.Md h.stage
 have hops:=h.operands hC hR hd hp hS hpre
 unfold wpOp
 rw[hi,ho]
 simp only[hw]
 -- a stage that stays
 have stay:I.kind p≠ .eff→∀q,I.kind q= .eff→(upd S p q=true↔q<m):=by
  intro hk q hq
  have:q≠p:=fun e=>hk (e▸hq)
  simpa [upd,this]using h.eff q hq
 have move:I.kind p= .eff→∀q,I.kind q= .eff→(upd S p q=true↔q<p+1):=by
  intro hk q hq
  obtain⟨h1,h2⟩:=h.P3 hR hS hpre hk
  by_cases e:q=p
  · subst e;simp[upd]
  · have:upd S p q=S q:=by simp[upd,e]
    rw[this]
    constructor
    · intro hq';have:=(h.eff q hq).1 hq';omega
    · intro hlt;exact hpre q (hR.eff q p hq hk (by omega))
 have ub:∀ {m':Nat} {F':Fz} {g':Gh},mS F F'→Aft g (Hs m) g' (Hs m')→(m'=m∨m'≠I.nA)→∀q,I.kind q= .alloc→upd S p q=false→y4 P I Hs m' F' g' q∨yf I Hs m' g' q:=by
  intro m' F' g' hF hA hm q hq hu
  have:S q=false:=by
   cases e:S q with
   | false=>rfl
   | true=>simp[upd,e]at hu
  rcases h.unborn q hq this with h1 | h1
  · exact .inl (h1.aft hF hA)
  · exact .inr (h1.aft hm hA)
 cases b with
 | false=>
   simp only[aLt,if_false]
   obtain⟨hD,hHs⟩:=hskip rfl
   have hv:∀(g':Gh) (S':Nat→Option Sh),bF F g' S' undef (Ds p):=fun g' S'=>by
    rw[hD];exact .tup [] [] rfl fun i v c hv=>by simp at hv
   by_cases hk:I.kind p= .eff
   · obtain⟨h1,h2⟩:=h.P3 hR hS hpre hk
     have e1:Hs (p+1)=Hs m:=hHs.trans (hC.same hR hSt hps hnA h1 (by omega) h2)
     refine hK _ _ (p+1) F g (h.put hR hd hr ho hS (fun v d hvd=>by rw[e1];exact hvd) (hv _ _) (.inr ⟨p,rfl,hk⟩) (by omega) (move hk) (by rw[e1];exact h.heap) h.ext (by rw[e1];exact h.aft)
      (ub (mS.refl F) (by rw[e1];exact Aft.refl g _) (.inr (by omega))))
   · exact hK _ _ m F g (h.put hR hd hr ho hS (fun v d hvd=>hvd) (hv _ _) h.stage h.mle (stay hk) h.heap h.ext h.aft (ub (mS.refl F) (Aft.refl g _) (.inl rfl)))
 | true=>
   simp only[if_true]
   refine .inl (L6.wp ?_)
   have he:=hev rfl
   -- an operation of any kind but an allocation,that the evaluator does here,too
   have run:∀m':Nat,evO call (X.get (V p) (Ls Ds p)) (Hs m) r.o=some (Ds p,Hs m')→I.G7 m'→m'≤rs.length→(∀q,I.kind q= .eff→(upd S p q=true↔q<m'))→(m'=m∨m'≠I.nA)→
    L6 P a.eval o w fun v w'=>K (a.put o.dst v) w':=by
    intro m' he' hst hle heff hmm
    refine ae7 ht hcall (fun _=>rfl) (fun _=>rfl) hops h.heap hchk he' fun v w' F' g' hv hH' hE' hA'=>?_
    exact hK _ _ m' F' g' (h.put hR hd hr ho hS (fun v d hvd=>hvd.aft hE'.sub hA') hv hst hle heff hH' (h.ext.trans hE') (h.aft.trans hA') (ub hE'.sub hA' hmm))
   cases hk:I.kind p with
   | eff=>
     obtain⟨h1,h2⟩:=h.P3 hR hS hpre hk
     have e1:Hs p=Hs m:=hC.same hR hSt hps hnA h1 (by omega) h2
     exact run (p+1) (by rw[← e1];exact he) (.inr ⟨p,rfl,hk⟩) (by omega) (move hk) (.inr (by omega))
   | pure=>
     exact run m ((G6 (hR.pure p r hr hk) he).2 _) h.stage h.mle (stay (by rw[hk];simp)) (.inl rfl)
   | load=>
     refine run m ?_ h.stage h.mle (stay (by rw[hk];simp)) (.inl rfl)
     obtain⟨hl,_,hcov⟩:=hR.load p r hr hk
     rcases hcov m h.stage (h.Kv hd hS hpre)with h1 | h1
     · rcases hSt.load p m r h1 hr h.mle hl with h2 | ⟨d,h2,h3⟩
       · rw[hb]at h2;cases h2
       · rw[Ks h2]at he
         simp only[Option.some.injEq,Prod.mk.injEq]at he
         rw[← he.1]
         exact Ks h3
     · obtain⟨hpA,h1⟩:=h1
       have e1:Hs m=Hs p:=by
        rcases Nat.le_total m p with h2 | h2
        · exact(hC.same hR hSt hps hnA h2 (by omega) fun e he k1 k2=>by have:=h1 e he;omega).symm
        · exact hC.same hR hSt hps hpA h2 h.mle fun e he k1 k2=>by have:=h1 e he;omega
       rw[hC.y5 hR hSt hps hr hk]at he
       rw[e1];exact he
   | alloc=>
     have hpA:=hR.alloc p hk
     have hle:H0.length≤(Hs p).length:=by
      obtain⟨L,hL⟩:=hC.XP hR hSt hps (p:=0) (q:=p) (by omega) (by omega)
      rw[hL,hC.h0];simp
     have hlen:∀q,I.kind q= .alloc→q≠p→(Hs p).length≠(Hs q).length:=by
      intro q hkq hne
      have:=hR.alloc q hkq
      rcases Nat.lt_or_gt_of_ne hne with h1 | h1
      · have:=hC.VQ hR hSt hps h1 hkq hpA;omega
      · have:=hC.VQ hR hSt hps h1 hk this;omega
     -- what is still to come stays so
     have rest:∀ {og':OG},(∀v d,bF F g (shp (Hs m)) v d→bF F (g.set (Hs p).length og') (shp (Hs m)) v d)→∀q,I.kind q= .alloc→upd S p q=false→y4 P I Hs m F (g.set (Hs p).length og') q∨yf I Hs m (g.set (Hs p).length og') q:=by
      intro og' hlift q hq hu
      have hne:q≠p:=fun e=>by subst e;simp[upd]at hu
      have hSq:S q=false:=by
       cases e:S q with
       | false=>rfl
       | true=>simp[upd,e]at hu
      have hl:=hlen q hq hne
      rcases h.unborn q hq hSq with⟨o1,t1,z1,og1,cs1,v1,v2,v3,v4,v5,v6,v7,v8⟩ | ⟨o1,t1,l1,c1,v1,v2,v3⟩
      · exact .inl ⟨o1,t1,z1,og1,cs1,v1,v2,v3,by rw[aLi hl];exact v4,v5,v6,v7,v8.1,v8.2.1,fun i v d hv hd=>hlift v d (v8.2.2 i v d hv hd)⟩
      · refine .inr ⟨o1,t1,l1,c1,v1,v2,fun hm=>?_⟩
        obtain⟨og1,sz1,n1,z1,k1,k2,k3,k4,k5⟩:=v3 hm
        exact⟨og1,sz1,n1,z1,by rw[aLi hl];exact k1,k2,k3,k4,k5⟩
     obtain⟨_,⟨⟨zero,live,hro⟩,hcov⟩ | ⟨⟨len,zero,sz,hro⟩,hcov⟩⟩:=hR.allocs p r hr hk
     · obtain⟨o',t,z,k2,k4,k5,k6,k7,k8,k9,k10⟩:=hC.al hR hr hk hro
       rw[ho]at k2;cases k2
       rcases h.unborn p hk hS with⟨o',t',z',og,cs,u1,u2,u3,u4,u5,u6,u7,u8⟩ | ⟨o',t',l',c',u1,u2,_⟩
       · rw[ho]at u1;cases u1
         rw[k4]at u2;cases u2
         rw[k5]at u3;cases u3
         have hid:(Hs m)[(Hs p).length]?=some (.box cs):=by
          rcases hcov m h.stage (h.Kv hd hS hpre)with h1 | h1
          · rw[hSt.al p m r zero live h1 hr h.mle hro];exact u6
          · obtain⟨L,hL⟩:=hC.XP hR hSt hps (p:=p+1) (q:=m) (by omega) (by omega)
            rw[hL];exact get_append u6
         have hrun:(execOp a.eval o).run P w= .ok (.value (.pointer (some ⟨w.heap.size,0,none⟩))) (w.alloc (.cells z.cells t)):=by
          obtain⟨dst,opo,ty,pos,aft,gd⟩:=o
          simp only at k4
          subst k4
          simp[execOp,Instr.alloc,tG k5,newVar,newRow]
         unfold L6
         rw[hrun]
         have hlift:∀v d,bF F g (shp (Hs m)) v d→bF F (g.set (Hs p).length ⟨some w.heap.size,0⟩) (shp (Hs m)) v d:=fun v d hvd=>hvd.yZ u4 u5 u7
         refine hK _ _ m F _ (h.put hR hd hr ho hS hlift ?_ h.stage h.mle (stay (by rw[hk];simp)) (h.heap.yZ u4 u5 hid u8 t) (h.ext.yZ _) (h.aft.yZ hle) (rest hlift))
         rw[k9]
         exact .bp _ _ _ 0 (by rw[aLj (aj u4)]) u7
       · rw[ho]at u1;cases u1
         rw[k4]at u2;cases u2
     · obtain⟨o',t,l,c,n,k,k1,k2,k3,k4,k5,k6,k7,k8,k9,k10,k11,k12,k13⟩:=hC.mkn hR hr hk hro
       rw[ho]at k1;cases k1
       have hm:=hcov m h.stage (h.Kv hd hS hpre)
       rcases h.unborn p hk hS with⟨o',t',z',og,cs,u1,u2,u3,u4,u5,u6,u7,u8⟩ | ⟨o',t',l',c',u1,u2,u3⟩
       · rw[ho]at u1;cases u1
         rw[k2]at u2;cases u2
       · rw[ho]at u1;cases u1
         obtain⟨og,sz',n',zero',u4,u5,u6,u7,u8⟩:=u3 hm
         have e13:(Hs (p+1))[(Hs p).length]?=some (.arr sz false 0 (List.replicate k (.t zero))):=by rw[k13];simp
         rw[e13]at u7
         simp only[Option.some.injEq,Obj.arr.injEq,true_and]at u7
         obtain⟨rfl,u7⟩:=u7
         have:k=n':=by simpa using congrArg List.length u7
         subst this
         rw[← u7]at u8
         obtain⟨e,i,z,hu,hi,rfl,hby,hz,hzs,hkz⟩:=m5 k3
         obtain⟨d,hxl,hdn⟩:=aLa.1 k8
         have hrl:=hops _ _ _ k4 hxl
         have hrc:=hops _ _ _ k5 hxl
         obtain⟨kk1,hk1⟩:∃kk,a.eval l= .int kk n:=by
          generalize a.eval l=v at hrl
          cases d<;>simp only[intOf,reduceCtorEq]at hdn
          rename_i x
          cases x<;>simp only[reduceCtorEq,Option.some.injEq]at hdn
          subst hdn
          cases hrl with
          | t _ _ h=>cases h;exact⟨_,rfl⟩
         obtain⟨kk2,hk2⟩:∃kk,a.eval c= .int kk n:=by
          generalize a.eval c=v at hrc
          cases d<;>simp only[intOf,reduceCtorEq]at hdn
          rename_i x
          cases x<;>simp only[reduceCtorEq,Option.some.injEq]at hdn
          subst hdn
          cases hrc with
          | t _ _ h=>cases h;exact⟨_,rfl⟩
         have hn:=oe k9
         subst hn
         have hl:k≤4294967296:=k10
         have hb:(i.bytes:Int)*(k:Int)≤281474976710656:=by
          have h1:i.bytes*k≤1024*4294967296:=Nat.mul_le_mul hby hl
          have h2:((i.bytes*k:Nat):Int)≤((1024*4294967296:Nat):Int):=Int.ofNat_le.2 h1
          simp only[Int.natCast_mul]at h2
          omega
         have hrun0:=run_make (P:=P) w t e i z hu hi hz kk1 kk2 (k:Int) (k:Int) (by omega) (Int.le_refl _) hb (by omega)
         simp only[Int.toNat_natCast]at hrun0
         have hrun:(execOp a.eval o).run P w= .ok (.value (.slice (some ⟨w.heap.size,0,none⟩) k k)) (w.alloc (.cells (madeCells z.cells (k*i.size)) e)):=by
          obtain⟨dst,opo,ty,pos,aft,gd⟩:=o
          simp only at k2
          subst k2
          simp[execOp,hk1,hk2,hrun0]
         unfold L6
         rw[hrun]
         have hs:shp (Hs m) (Hs p).length=some (.arr i.size 0 k):=by simp[shp,u8,Obj.sh]
         have hlift:∀v d,bF F g (shp (Hs m)) v d→bF F (g.set (Hs p).length ⟨some w.heap.size,k⟩) (shp (Hs m)) v d:=fun v d hvd=>hvd.xm u4 u5 hs k11
         have hzr:bF F g (shp (Hs m)) z (.t zero):=wO hkz F g _
         have hC':=gO hzr rfl
         have hzl:zero.cells.length=i.size:=by
          have:=hC'.1
          simp only[D.cells,List.length_map]at this
          rw[← this];simpa using hzs
         refine hK _ _ m F _ (h.put hR hd hr ho hS hlift ?_ h.stage h.mle (stay (by rw[hk];simp)) (h.heap.xm u4 u5 k11 u8 (size_madeCells _ _) (aLs _) hzl (fun j q x hj hx=>?_) e) (h.ext.xm _) (h.aft.yZ hle) (rest hlift))
         · rw[k12]
           have:=bF.ref (F:=F) (g:=g.set (Hs p).length ⟨some w.heap.size,k⟩) (S:=shp (Hs m)) (Hs p).length 0 k i.size ⟨some w.heap.size,k⟩ (by rw[aLj (aj u4)]) hs (by simp)
           simpa [dE]using this
         · have hp:=aj hx
           rw[hzl]at hp
           have hy:(D.t zero).cells[q]?=some (.t x):=by simp[D.cells,hx]
           obtain⟨u,hu'⟩:=ah hC'.1.symm hy
           have hrel:=hC'.2.2 q u _ hu' hy
           refine⟨u,?_,hC'.2.1 u (aLd hu'),by cases hrel with | t _ _ h=>exact h⟩
           have hlt:j*i.size+q<k*i.size:=Bm hj hp
           have hmod:(j*i.size+q) % i.size=q:=by
            rw[Nat.add_comm,Nat.add_mul_mod_self_right,Nat.mod_eq_of_lt hp]
           have hps:q<z.cells.size:=by omega
           simp only[madeCells,Array.getElem?_map,Array.getElem?_range,hlt,if_true,aLw,hzs,hmod]
           have:z.cells[q]?=some u:=by simpa using hu'
           rw[getElem!_pos z.cells q hps]
           rw[Array.getElem?_eq_getElem hps]at this
           exact this
end
end Go.Ev
namespace Go.Ev
open Go
variable [Names]
structure Bu(vars:List Nat)(nt bs:Nat)(F:Fz)(g:Gh)(vs:List D)(H:af)(a:Act)(w:World):Prop where
 heap:az F g H w
 size:a.tmps.size=nt
 defers:Marks bs a.defers g w
 vals:∀(s t:Nat) (d:D),vars[s]?=some t→vs[s]?=some d→bF F g (shp H) (a.eval (.tmp t)) d
section
variable {I : ik} {P : Program} {vars : List Nat} {nt bs : Nat} {ops : Array Oper} {rs : List R} {ps : List (Nat × Nat)} {call : aU}
variable {vs0 : List D} {H0 : af} {Ds : Nat → D} {V : Nat → List D} {Hs : Nat → af} {F0 : Fz} {g0 : Gh} {w0 : World}
variable {S : Nat → Bool} {a : Act} {w : World} {m : Nat} {F : Fz} {g : Gh} {p : Nat} {Q : Exit → Act → World → Prop}
structure Me(I:ik)(vars:List Nat)(nt bs n:Nat)(F0:Fz)(g0:Gh)(H0:af)(w0:World)(Ds:Nat→D)(vs:List D)(H:af)(a:Act)(w:World)(F:Fz)(g:Gh):Prop where
 st:Bu vars nt bs F g vs H a w
 ext:Ext F0 g0 w0 F g w
 aft:Aft g0 H0 g H
 last:∀q t,q<n→I.Wr q t→(∀q',I.Wr q' t→q'≤q)→bF F g (shp H) (a.eval (.tmp t)) (Ds q)
theorem oV.done(hC:Canon call rs vs0 H0 Ds V Hs)(hR:rn I P vars nt ops rs ps)(hSt:rE I rs ps Ds V Hs)(hps:∀q m,(q,m)∈ps→m≤rs.length)
 (h:oV P I vars nt bs rs.length vs0 H0 Ds Hs F0 g0 w0 S a w m F g) (hall:∀q,q<rs.length→S q=true) (hlt:∀q,S q=true→q<rs.length):
 Me I vars nt bs rs.length F0 g0 H0 w0 Ds (V rs.length) (Hs rs.length) a w F g:=by
 have hnA:=hR.Md h.stage
 have e1:Hs rs.length=Hs m:=hC.same hR hSt hps hnA h.mle (aLs _) fun e he h1 h2=>by
  have:=(h.eff e he).1 (hall e h2);omega
 have hWr:∀q t,I.Wr q t→q<rs.length:=fun q t hw=>by
  rcases Nat.lt_or_ge q rs.length with h1 | h1
  · exact h1
  · unfold ik.Wr at hw;rw[hR.out q h1]at hw;cases hw
 rw[e1]
 refine⟨⟨h.heap,h.size,h.defers.ext h.ext,fun s t d hs hd=>?_⟩,h.ext,h.aft,fun q t hq hw hmax=>h.vals q t (hall q hq) hw fun q' _ hw'=>hmax q' hw'⟩
 rcases P0 hC (aLs _) hd with⟨q,r,h1,h2,h3,h4,h5⟩ | ⟨h1,h2⟩
 · rw[h4]
   refine h.vals q t (hall q h1) ((hR.Mc h2 hs).2 h3) fun q' hq' hw'=>?_
   rcases Nat.lt_or_ge q q' with k1 | k1
   · have hr':rs[q']?=some (rs.get ⟨q',hlt q' hq'⟩):=aLc (hlt q' hq')
     exact(h5 q' _ k1 (hlt q' hq') hr' ((hR.Mc hr' hs).1 hw')).elim
   · exact k1
 · refine h.inits s t d hs h1 fun q hq hw=>?_
   have hr':rs[q]?=some (rs[q]'(hlt q hq)):=aLc (hlt q hq)
   exact h2 q _ (hlt q hq) hr' ((hR.Mc hr' hs).1 hw)
theorem Bu.start(hC:Canon call rs vs0 H0 Ds V Hs)(hR:rn I P vars nt ops rs ps)(hSt:rE I rs ps Ds V Hs)(hps:∀q m,(q,m)∈ps→m≤rs.length)(h:Bu vars nt bs F0 g0 vs0 H0 a w0):
 ∃g,oV P I vars nt bs rs.length vs0 H0 Ds Hs F0 g0 w0 (fun _=>false) a w0 I.nA F0 g:=by
 obtain⟨g,h1,h2,h3,h4⟩:=hC.names hR hSt hps h.heap I.nA (aLs _)
 refine⟨g,.inl rfl,hR.nAle,fun q hq=>?_,h1,h2,h3,h.size,h.defers,(fun q t hq=>by cases hq),fun s t d hs hd _=>?_,fun q hq _=>?_⟩
 · have:=(hR.effA q hq).1
   constructor
   · intro e;cases e
   · intro e;omega
 · exact(h.vals s t d hs hd).aft (mS.refl _) h3
 · rcases h4 q (hR.alloc q hq) hq with h | ⟨o,t,l,c,k1,k2,k3⟩
   · exact .inl h
   · exact .inr ⟨o,t,l,c,k1,k2,fun _=>k3⟩
theorem oV.text(ht:yY P)(hcall:od P call)(hC:Canon call rs vs0 H0 Ds V Hs)(hR:rn I P vars nt ops rs ps)(hSt:rE I rs ps Ds V Hs)
 (hps:∀q m,(q,m)∈ps→m≤rs.length) (hn:ops.size=rs.length) (hat:∀p,p<rs.length→I.at_ p=ops[p]?)
 (hQ:∀a w F g,Me I vars nt bs rs.length F0 g0 H0 w0 Ds (V rs.length) (Hs rs.length) a w F g→Q .normal a w):
 ∀(k:Nat) (j:Nat),j+k=rs.length→∀(a:Act) (w:World) m F g,oV P I vars nt bs rs.length vs0 H0 Ds Hs F0 g0 w0 (fun q=>decide (q<j)) a w m F g→wpOps P ops Q (List.range' j k) a w
 | 0,j,hj,a,w,m,F,g,h=>by
   simp only[List.range'_zero,wpOps]
   refine hQ a w F g (h.done hC hR hSt hps (fun q hq=>by simpa using(by omega:q<j)) fun q hq=>?_)
   have:q<j:=by simpa using hq
   omega
 | k+1,j,hj,a,w,m,F,g,h=>by
   rw[List.range'_succ,wpOps_cons]
   refine h.step ht hcall hC hR hSt hps ?_ (by omega) (by simp) (fun q hq=>by have:=hR.lt q j hq;simpa using this) (hat j (by omega)).symm fun a' w' m' F' g' h'=>?_
   · intro q q' hqq hq'
     have h1:=hR.lt q q' hqq
     have h2:q'<j:=by simpa using hq'
     simpa using(by omega:q<j)
   · refine oV.text ht hcall hC hR hSt hps hn hat hQ k (j+1) (by omega) a' w' m' F' g' ?_
     have e:(upd (fun q=>decide (q<j)) j)=fun q=>decide (q<j+1):=by
      funext q
      simp only[upd]
      by_cases e:q=j
      · subst e;simp
      · have:(q==j)=false:=by simpa using e
        rw[this,Bool.or_false]
        simp only[decide_eq_decide];omega
     rw[← e];exact h'
end
end Go.Ev
namespace Go.Ev
open Go
variable [Names]
structure Kw(I:ik)(ops:Array Oper)(n:Nat)(ord:Nat→Nat):Prop where
 lt:∀p,p<n→ord p<ops.size
 at_:∀p,p<n→I.at_ p=ops[ord p]?
 inj:∀p q,p<n→q<n→ord p=ord q→p=q
 surj:∀i,i<ops.size→∃p,p<n∧ord p=i
 back:∀(i:Nat) o e,ops[i]?=some o→e∈o.after→Region.binds .any e=true→e.on<i
 step:∀q p,p<n→I.prec q p=true→q<n∧∃o e,ops[ord p]?=some o∧e∈o.after∧Region.binds .any e=true∧(e.on=ord q∨∃p',p'<n∧ord p'=e.on∧I.prec q p'=true)
 prec_lt:∀q p,I.prec q p=true→p<n
def seen(n:Nat)(ord:Nat→Nat)(cI:Array Bool)(p:Nat):Bool:=decide (p<n)&&cI.getD (ord p) false
def P4(ops:Array Oper)(cI:Array Bool):Prop:=∀(i:Nat) o e,ops[i]?=some o→cI.getD i false=true→e∈o.after→Region.binds .any e=true→cI.getD e.on false=true
section
variable {I : ik} {P : Program} {vars : List Nat} {nt bs : Nat} {ops : Array Oper} {rs : List R} {ps : List (Nat × Nat)} {call : aU}
variable {vs0 : List D} {H0 : af} {Ds : Nat → D} {V : Nat → List D} {Hs : Nat → af} {F0 : Fz} {g0 : Gh} {w0 : World}
variable {Q : Exit → Act → World → Prop} {n : Nat} {ord : Nat → Nat} {cI : Array Bool}
theorem Kw.pre(hO:Kw I ops n ord)(hc:P4 ops cI):∀(i p q:Nat),ord p=i→p<n→I.prec q p=true→
 (∀o e,ops[ord p]?=some o→e∈o.after→Region.binds .any e=true→cI.getD e.on false=true)→seen n ord cI q=true:=by
 intro i
 induction i using Nat.strongRecOn with
 | _ i ih=>
   intro p q hi hp hpq hl
   obtain⟨hq,o,e,ho,he,hb,h⟩:=hO.step q p hp hpq
   have hle:=hl o e ho he hb
   rcases h with h | ⟨p',hp',h1,h2⟩
   · simp only[seen,aLr,decide_eq_true_eq]
     exact⟨hq,h▸hle⟩
   · refine ih (ord p') ?_ p' q rfl hp' h2 fun o' e' ho' he' hb'=>?_
     · rw[h1,←hi];exact hO.back _ o e ho he hb
     · exact hc (ord p') o' e' ho' (by rw[h1];exact hle) he' hb'
theorem Kw.down(hO:Kw I ops n ord)(hc:P4 ops cI):Down I (seen n ord cI):=by
 intro q p hpq hp
 simp only[seen,aLr,decide_eq_true_eq]at hp
 exact hO.pre hc (ord p) p q rfl hp.1 hpq fun o e ho he hb=>hc _ o e ho hp.2 he hb
theorem NJ(hO:Kw I ops n ord)(h:Region.ready .any ops cI=[]):∀i,i<ops.size→cI.getD i true=true:=by
 intro i
 induction i using Nat.strongRecOn with
 | _ i ih=>
   intro hi
   cases e:cI.getD i true with
   | true=>rfl
   | false=>
     have:i∈Region.ready .any ops cI:=by
      rw[mem_ready]
      refine⟨e,ops[i],Array.getElem?_eq_getElem hi,fun x hx hb=>?_⟩
      have h1:=hO.back i _ x (Array.getElem?_eq_getElem hi) hx hb
      have h2:=ih x.on h1 (by omega)
      rcases Nat.lt_or_ge x.on cI.size with h3 | h3
      · simpa [h3]using h2
      · have h4:i<cI.size∨cI.size≤i:=Nat.lt_or_ge _ _
        rcases h4 with h4 | h4
        · omega
        · simp[Array.getElem?_eq_none h4]at e
     rw[h]at this;cases this
theorem oV.any(ht:yY P)(hcall:od P call)(hC:Canon call rs vs0 H0 Ds V Hs)(hR:rn I P vars nt ops rs ps)(hSt:rE I rs ps Ds V Hs)
 (hps:∀q m,(q,m)∈ps→m≤rs.length) (hO:Kw I ops rs.length ord)
 (hQ:∀a w F g,Me I vars nt bs rs.length F0 g0 H0 w0 Ds (V rs.length) (Hs rs.length) a w F g→Q .normal a w):
 ∀(fuel:Nat) (cI:Array Bool) (a:Act) (w:World) m F g,cI.size=ops.size→P4 ops cI→((List.range ops.size).filter fun i=> !cI.getD i true).length≤fuel→
  oV P I vars nt bs rs.length vs0 H0 Ds Hs F0 g0 w0 (seen rs.length ord cI) a w m F g→wpAny P .any ops Q fuel cI a w:=by
 have fin:∀(cI:Array Bool) (a:Act) (w:World) m F g,cI.size=ops.size→oV P I vars nt bs rs.length vs0 H0 Ds Hs F0 g0 w0 (seen rs.length ord cI) a w m F g→
  Region.ready .any ops cI=[]→Q .normal a w:=by
  intro cI a w m F g hs h hr
  refine hQ a w F g (h.done hC hR hSt hps (fun q hq=>?_) fun q hq=>?_)
  · have h1:=NJ hO hr (ord q) (hO.lt q hq)
    have h2:ord q<cI.size:=by rw[hs];exact hO.lt q hq
    simp only[seen,aLr,decide_eq_true_eq]
    exact⟨hq,by simpa [h2]using h1⟩
  · simp only[seen,aLr,decide_eq_true_eq]at hq;exact hq.1
 intro fuel
 induction fuel with
 | zero=>
   intro cI a w m F g hs hc hf h
   have hr:Region.ready .any ops cI=[]:=by
    cases e:Region.ready .any ops cI with
    | nil=>rfl
    | cons i is=>
      have hi:i∈Region.ready .any ops cI:=by rw[e];simp
      rw[mem_ready]at hi
      obtain⟨h1,o,h2,_⟩:=hi
      have h3:i<ops.size:=(Array.getElem?_eq_some_iff.1 h2).1
      have:i∈(List.range ops.size).filter fun i=> !cI.getD i true:=by simp only[List.mem_filter,aLu];exact⟨h3,by rw[h1];rfl⟩
      have:=List.length_pos_of_mem this
      omega
   exact⟨hr,fin cI a w m F g hs h hr⟩
 | succ fuel ih=>
   intro cI a w m F g hs hc hf h
   refine⟨fin cI a w m F g hs h,fun i hi=>?_⟩
   have hi':=hi
   rw[mem_ready]at hi'
   obtain⟨h1,o,h2,h3⟩:=hi'
   have hlt:i<ops.size:=(Array.getElem?_eq_some_iff.1 h2).1
   obtain⟨p,hp,rfl⟩:=hO.surj i hlt
   have hl:ord p<cI.size:=by rw[hs];exact hlt
   have hS:seen rs.length ord cI p=false:=by
    simp only[seen,Bool.and_eq_false_iff]
    right;simpa [hl]using h1
   refine h.step ht hcall hC hR hSt hps (hO.down hc) hp hS (fun q hq=>?_) (hO.at_ p hp).symm fun a' w' m' F' g' h'=>?_
   · exact hO.pre hc (ord p) p q rfl hp hq fun o' e' ho' he' hb'=>by rw[h2]at ho';cases ho';exact h3 e' he' hb'
   · refine ih (cI.setIfInBounds (ord p) true) a' w' m' F' g' (by simpa using hs) ?_ ?_ ?_
     · intro j oj e hj hlj he hb
       by_cases ej:ord p=j
       · subst ej
         rw[h2]at hj;cases hj
         exact getD_set_true (h3 e he hb)
       · rw[getD_set_ne false ej]at hlj
         exact getD_set_true (hc j oj e hj hlj he hb)
     · have hlt2:((List.range ops.size).filter fun i=> !(cI.setIfInBounds (ord p) true).getD i true).length<((List.range ops.size).filter fun i=> !cI.getD i true).length:=by
        have hsub:((List.range ops.size).filter fun i=> !(cI.setIfInBounds (ord p) true).getD i true)=(((List.range ops.size).filter fun i=> !cI.getD i true).filter fun i=> !(i==ord p)):=by
         rw[List.filter_filter]
         apply List.filter_congr
         intro j hj
         by_cases ej:ord p=j
         · subst ej;simp[hl]
         · rw[getD_set_ne true ej]
           have:(j==ord p)=false:=by simpa using fun e=>ej e.symm
           rw[this];simp
        rw[hsub]
        have hm:ord p∈(List.range ops.size).filter fun i=> !cI.getD i true:=by simp only[List.mem_filter,aLu];exact⟨hlt,by rw[h1];rfl⟩
        have:=List.length_filter_lt_length_iff_exists (p:=fun i=> !(i==ord p)) (l:=(List.range ops.size).filter fun i=> !cI.getD i true)
        exact this.2 ⟨ord p,hm,by simp⟩
       omega
     · have e:upd (seen rs.length ord cI) p=seen rs.length ord (cI.setIfInBounds (ord p) true):=by
        funext q
        simp only[upd,seen]
        by_cases eq:q=p
        · subst eq;simp[hp,hl]
        · have hb:(q==p)=false:=by simpa using eq
          rw[hb,Bool.or_false]
          by_cases hq:q<rs.length
          · rw[getD_set_ne false fun e=>eq (hO.inj p q hp hq e).symm]
          · simp[hq]
       rw[← e];exact h'
end
end Go.Ev
namespace Go.Ev
open Go
def m8(o:Oper):Bool:=match o.op with
 | .defer _=>false
 | _=>true
theorem NK{o:Oper}(h:m8 o=true)(c:Call):o.op≠ .defer c:=fun e=>by unfold m8 at h;rw[e]at h;cases h
section
variable {P : Program} {l n : Nat} {ops : Array Oper} {Q : Exit → Act → World → Prop} {md : Region.Mode}
theorem IP{row:String}{args:Array Value}{w:World}{R:Value→World→Prop}(h:Rows P row args w R):RowsIn (Fence.wide.inRound l) n P row args w R:=
 fun c cs _=>let⟨v,w',r,s⟩:=h c cs;⟨v,w',r,stepsIn_wide.2 s⟩
theorem NL{o:Oper}(hd:m8 o=true){a:Act}{w:World}{K K':Act→World→Prop}(hK:∀a w,K a w→K' a w)(h:o.wp P a w K Q):o.wpIn (Fence.wide.inRound l) n P a w K' Q:=by
 refine⟨fun _ _=>trivial,?_⟩
 rw[Oper.semAt_plain _ _ _ (NK hd)]
 unfold Oper.wp at h
 generalize (execOp a.eval o).run P w=r at*
 cases r with
 | ok x w'=>
   cases x<;>simp only[Oper.upon,Oper.uponIn]at h ⊢
   all_goals first
    | exact hK _ _ h
    | exact⟨fun e=>by simp[Fence.wide]at e,(callsIn_wide.2 (Calls.mono h fun e w'' he=>by cases e<;>first | exact hK _ _ he | exact he):CallsIn Fence.wide (n-1) P _ _ _ _)⟩
    | exact⟨fun e=>by simp[Fence.wide]at e,IP (Rows.mono h fun _ _ he=>hK _ _ he)⟩
    | exact h.elim
 | halt x w'=>cases x<;>simp only[Oper.upon,Oper.uponIn]at h ⊢ <;>exact h
theorem F5(hd:∀(i:Nat) o,ops[i]?=some o→m8 o=true)(hQ:¬LetsOut Q){i:Nat}{a:Act}{w:World}{K K':Act→World→Prop}(hK:∀a w,K a w→K' a w)(h:wpOp P ops Q i K a w):wpOpIn (Fence.wide.inRound l) n P ops Q i K' a w:=by
 unfold wpOp at h
 unfold wpOpIn
 cases ho:ops[i]? with
 | none=>simp only[ho]at h ⊢;exact hK _ _ h
 | some o=>
   simp only[ho]at h ⊢
   split
   · rename_i hw
     simp only[hw,if_true]at h
     rcases h with h | ⟨_,h⟩
     · exact NL (hd i o ho) hK h
     · exact(hQ h).elim
   · rename_i hw
     simp only[hw]at h
     exact⟨fun _ _=>trivial,hK _ _ h⟩
theorem Dj(hd:∀(i:Nat) o,ops[i]?=some o→m8 o=true)(hQ:¬LetsOut Q):∀(is:List Nat) (a:Act) (w:World),wpOps P ops Q is a w→wpOpsIn (Fence.wide.inRound l) n P ops Q is a w
 | [],a,w,h=>h
 | i::r,a,w,h=>by
   rw[wpOps_cons]at h
   rw[wpOpsIn_cons]
   exact F5 hd hQ (fun a w=>Dj hd hQ r a w) h
theorem Dk(hd:∀(i:Nat) o,ops[i]?=some o→m8 o=true)(hQ:¬LetsOut Q):∀(fuel:Nat) (cI:Array Bool) (a:Act) (w:World),wpAny P md ops Q fuel cI a w→wpAnyIn (Fence.wide.inRound l) n P md ops Q fuel cI a w
 | 0,cI,a,w,h=>h
 | fuel+1,cI,a,w,h=>⟨h.1,fun i hi=>F5 hd hQ (fun a w=>Dk hd hQ fuel _ a w) (h.2 i hi)⟩
end
end Go.Ev
namespace Go.Ev
open Go
variable [Names]
section
variable {I : ik} {P : Program} {vars : List Nat} {nt bs : Nat} {ops : Array Oper} {rs : List R} {ps : List (Nat × Nat)} {call : aU}
variable {vs vs' L : List D} {H H' : af} {F : Fz} {g : Gh} {a : Act} {w : World} {Q : Exit → Act → World → Prop}
structure ux(I:ik)(P:Program)(vars:List Nat)(nt:Nat)(ops:Array Oper)(draw:Bool)(rs:List R)(ps:List (Nat×Nat)):Prop where
 reg:rn I P vars nt ops rs ps
 size:ops.size=rs.length
 ps_le:∀q m,(q,m)∈ps→m≤rs.length
 text:draw=false→∀p,p<rs.length→I.at_ p=ops[p]?
 ord:draw=true→P.follows .mixedOrders=true∧∃ord,Kw I ops rs.length ord
theorem Bu.drawn(h:Bu vars nt bs F g vs H a w):Bu vars nt bs F g vs H a { w with drawn:=w.drawn+1}:=
 ⟨h.heap.grow fun _ _=>rfl,h.size,h.defers,h.vals⟩
theorem Dl(ht:yY P)(hcall:od P call){draw:Bool}(hA:ux I P vars nt ops draw rs ps)(h:Bu vars nt bs F g vs H a w)
 (he:xb call rs ps vs H=some (L,vs',H'))
 (hQ:∀a' w' F' g',Bu vars nt bs F' g' vs' H' a' w'→Ext F g w F' g' w'→Aft g H g' H'→
  (∀k d t,L[k]?=some d→I.Wr (rs.length-1-k) t→(∀q',I.Wr q' t→q'≤rs.length-1-k)→bF F' g' (shp H') (a'.eval (.tmp t)) d)→Q .normal a' w'):
 (draw=false→wpOps P ops Q (List.range ops.size) a w)∧(draw=true→P.follows .mixedOrders=true∧wpAny P .any ops Q ops.size (Array.replicate ops.size false) a { w with drawn:=w.drawn+1}):=by
 unfold xb at he
 split at he
 · rename_i hps
   obtain⟨Ds,V,Hs,hC,rfl,rfl,rfl,htr⟩:=TL he
   have hst:rE I rs ps Ds V Hs:=by
    refine P2 htr ?_
    simp only[Bool.or_eq_true]at hps
    rcases hps with h1 | h1
    · have:ps=[]:=by simpa using h1
      rw[this];rfl
    · exact h1
   have hfin:∀(w0:World),w0.heap=w.heap→xk w w0→∀a' w' F' g',Me I vars nt bs rs.length F g H w0 Ds (V rs.length) (Hs rs.length) a' w' F' g'→Q .normal a' w':=by
    intro w0 hw0 hio a' w' F' g' hE
    refine hQ a' w' F' g' hE.st ?_ hE.aft fun k d t hk hw hmax=>?_
    · obtain⟨e1,e2,e3,e4,e5,e6⟩:=hE.ext
      rw[hw0]at e2 e3 e4 e5
      exact⟨e1,e2,e3,e4,e5,e6.1.trans hio.1,e6.2.trans hio.2⟩
    · obtain⟨h1,h2⟩:=PY hk
      rw[h2]
      exact hE.last _ t (by omega) hw hmax
   cases draw with
   | false=>
     refine⟨fun _=>?_,fun e=>(by cases e)⟩
     obtain⟨g1,h1⟩:=h.start hC hA.reg hst hA.ps_le
     have:=h1
     rw[List.range_eq_range',hA.size]
     refine oV.text ht hcall hC hA.reg hst hA.ps_le hA.size (hA.text rfl) (hfin w rfl ⟨rfl,rfl⟩) rs.length 0 (by omega) a w I.nA F g1 ?_
     have e:(fun q=>decide (q<0))=fun _:Nat=>false:=by funext q;simp
     rw[e];exact h1
   | true=>
     obtain⟨hm,ord,hO⟩:=hA.ord rfl
     refine⟨fun e=>(by cases e),fun _=>⟨hm,?_⟩⟩
     obtain⟨g1,h1⟩:=h.drawn.start hC hA.reg hst hA.ps_le
     refine oV.any ht hcall hC hA.reg hst hA.ps_le hO (hfin { w with drawn:=w.drawn+1} rfl ⟨rfl,rfl⟩) ops.size _ a _ I.nA F g1 (by simp) ?_ ?_ ?_
     · intro i o e _ hl
       simp only[Array.getD_eq_getD_getElem?,Array.getElem?_replicate]at hl
       split at hl<;>simp at hl
     · exact Nat.le_trans (List.length_filter_le _ _) (by simp)
     · have e:seen rs.length ord (Array.replicate ops.size false)=fun _=>false:=by
        funext q
        simp only[seen,Array.getD_eq_getD_getElem?,Array.getElem?_replicate]
        split<;>simp
       rw[e];exact h1
 · cases he
theorem y6(ht:yY P)(hcall:od P call){draw:Bool}(hA:ux I P vars nt ops draw rs ps)(h:Bu vars nt bs F g vs H a w)
 (he:xb call rs ps vs H=some (L,vs',H')) {id:Nat}
 (hQ:∀a' w' F' g',Bu vars nt bs F' g' vs' H' a' w'→Ext F g w F' g' w'→Aft g H g' H'→
  (∀k d t,L[k]?=some d→I.Wr (rs.length-1-k) t→(∀q',I.Wr q' t→q'≤rs.length-1-k)→bF F' g' (shp H') (a'.eval (.tmp t)) d)→Q .normal a' w'):
 (Code.region id ops draw).wp P Q a w:=by
 obtain⟨h1,h2⟩:=Dl ht hcall hA h he hQ
 cases draw with
 | false=>exact wp_region (h1 rfl)
 | true=>exact wp_region_any (h2 rfl).1 (h2 rfl).2
theorem F6(ht:yY P)(hcall:od P call){draw:Bool}(hA:ux I P vars nt ops draw rs ps)(h:Bu vars nt bs F g vs H a w)
 (he:xb call rs ps vs H=some (L,vs',H')) {id l n:Nat} (hd:∀(i:Nat) o,ops[i]?=some o→m8 o=true) (hlo:¬LetsOut Q)
 (hQ:∀a' w' F' g',Bu vars nt bs F' g' vs' H' a' w'→Ext F g w F' g' w'→Aft g H g' H'→Q .normal a' w'):
 (Code.region id ops draw).wpIn (Fence.wide.inRound l) n P Q a w:=by
 obtain⟨h1,h2⟩:=Dl ht hcall hA h he (Q:=Q) fun a' w' F' g' k1 k2 k3 _=>hQ a' w' F' g' k1 k2 k3
 cases draw with
 | false=>exact wpIn_region (Dj hd hlo _ _ _ (h1 rfl))
 | true=>exact wpIn_region_any (h2 rfl).1 (Dk hd hlo _ _ _ _ (h2 rfl).2)
end
end Go.Ev
namespace Go.Ev
open Go
variable [Names]
section
variable (P : Program) (vars : List Nat) (nt : Nat)
def Dm(ops:Array Oper)(draw:Bool)(rs:List R)(ps:List (Nat×Nat))(k t:Nat):Prop:=
 ∃I:ik,ux I P vars nt ops draw rs ps∧I.Wr (rs.length-1-k) t∧∀q',I.Wr q' t→q'≤rs.length-1-k
def gQ:C→Code→Prop
 | .skip,.skip=>True
 | .reg rs ps,.region _ ops draw=>∃I:ik,ux I P vars nt ops draw rs ps
 | .seq a b,.seq x y=>gQ a x∧gQ b y
 | .ite rs ps k a b,.seq (.region _ ops draw) (.cond (.tmp t) x y)=>Dm P vars nt ops draw rs ps k t∧gQ a x∧gQ b y
 | .itk rs ps k a b c,.seq (.seq (.region _ ops draw) (.cond (.tmp t) x y)) z=>Dm P vars nt ops draw rs ps k t∧gQ a x∧gQ b y∧gQ c z
 | .its rs ps k a b c,.seq (.region _ ops draw) (.seq (.cond (.tmp t) x y) z)=>Dm P vars nt ops draw rs ps k t∧gQ a x∧gQ b y∧gQ c z
 | .itv j a b,.cond (.tmp t) x y=>vars[j]?=some t∧gQ a x∧gQ b y
 | .blk id c,.block id' x=>id=id'∧gQ c x
 | .loop _ _ c,.loop x=>gQ c x
 | .exit id,.exit id'=>id=id'
 | .ret,.ret=>True
 | .fail,_=>True
 | .cnd v c,.cond (.const (.bool v')) x y=>v=v'∧gQ c (if v then x else y)
 | .rng x p f r1 p1 r2 p2,.rangeFunc (.tmp t) ps (.region _ o1 d1) (.block _ (.region _ o2 d2))=>∃tp,ps= #[tp]∧vars[x]?=some t∧vars[p]?=some tp∧tp<nt∧Names.it f=true∧vars.Nodup∧
  (∃I:ik,ux I P vars nt o1 d1 r1 p1)∧(∃I:ik,ux I P vars nt o2 d2 r2 p2)∧(∀(i:Nat) o,o1[i]?=some o→m8 o=true)∧(∀(i:Nat) o,o2[i]?=some o→m8 o=true)
 | _,_=>False
end
def IQ:Ex→Exit
 | .normal=> .normal
 | .ret=> .ret
 | .exit id=> .exit id
def Kx(vars:List Nat)(nt bs:Nat)(F:Fz)(g:Gh)(H:af)(w:World)(p:Ex×St)(Q:Exit→Act→World→Prop):Prop:=
 ∀a' w' F' g',Bu vars nt bs F' g' p.2.vs p.2.H a' w'→Ext F g w F' g' w'→Aft g H g' p.2.H→Q (IQ p.1) a' w'
section
variable {P : Program} {vars : List Nat} {nt bs : Nat} {call : aU} {F : Fz} {g : Gh} {a : Act} {w : World} {Q : Exit → Act → World → Prop}
theorem TM{S:Nat→Option Sh}{v:Value}{c:Option D}{ra rb:Option (Ex×St)}{p:Ex×St}(hc:∀d,c=some d→bF F g S v d)(he:jh c ra rb=some p):
 ∃b,v= .bool b∧(if b=true then ra else rb)=some p:=by
 unfold jh at he
 split at he
 · rename_i b
   have hr:=hc _ rfl
   cases hr with
   | t _ _ hr=>
     cases hr
     exact⟨b,rfl,he⟩
 · split at he
   · rename_i e
     have hr:=hc _ rfl
     cases hr with
     | ub b=>
       refine⟨b,rfl,?_⟩
       cases b with
       | true=>exact he
       | false=>exact e▸he
   · cases he
 · cases he
theorem Ky{vs:List D}{H:af}(h:Bu vars nt bs F g vs H a w){t:Nat}{c:Option D}{x y:Code}{ra rb:Option (Ex×St)}{p:Ex×St}
 (hc:∀d,c=some d→bF F g (shp H) (a.eval (.tmp t)) d) (he:jh c ra rb=some p)
 (hx:ra=some p→x.wp P Q a w) (hy:rb=some p→y.wp P Q a w):(Code.cond (.tmp t) x y).wp P Q a w:=by
 unfold jh at he
 split at he
 · rename_i b
   have hr:=hc _ rfl
   generalize hv:a.eval (.tmp t)=v at hr
   cases hr with
   | t _ _ hr=>
     cases hr
     refine wp_cond hv ?_
     cases b with
     | true=>exact hx (by simpa using he)
     | false=>exact hy (by simpa using he)
 · split at he
   · rename_i e
     have hr:=hc _ rfl
     generalize hv:a.eval (.tmp t)=v at hr
     cases hr with
     | ub b=>
       refine wp_cond hv ?_
       cases b with
       | true=>exact hx he
       | false=>exact hy (e▸he)
   · cases he
 · cases he
theorem Kx.trans{H H1:af}{w1:World}{F1:Fz}{g1:Gh}{p:Ex×St}(h:Kx vars nt bs F g H w p Q)(hE:Ext F g w F1 g1 w1)(hA:Aft g H g1 H1):Kx vars nt bs F1 g1 H1 w1 p Q:=
 fun a' w' F' g' hs he ha=>h a' w' F' g' hs (hE.trans he) (hA.trans ha)
theorem P5{dead:List Nat}:∀ {vs:List D} {s:Nat} {d:D},(jg dead vs)[s]?=some d→d= .und∨vs[s]?=some d:=by
 induction dead with
 | nil=>intro vs s d h;exact .inr h
 | cons i r ih=>
   intro vs s d h
   rcases ih h with h | h
   · exact .inl h
   · rw[List.getElem?_set]at h
     split at h
     · split at h
       · cases h;exact .inl rfl
       · cases h
     · exact .inr h
theorem Bu.jg{vs:List D}{H:af}(h:Bu vars nt bs F g vs H a w)(dead:List Nat):Bu vars nt bs F g (Ev.jg dead vs) H a w:=
 ⟨h.heap,h.size,h.defers,fun s t d hs hd=>by
  rcases P5 hd with rfl | hd
  · exact .und _
  · exact h.vals s t d hs hd⟩
theorem TN{st st':St}(h:Bu vars nt bs F g st.vs st.H a w){n:Nat}(ht:NB n st=some st'):
 Bu vars nt bs F (g.take n) st'.vs st'.H a w∧(∀ {F0:Fz} {g0:Gh} {w0:World},Ext F0 g0 w0 F g w→Ext F0 g0 w0 F (g.take n) w)∧
  ∀ {g0:Gh} {H0:af},H0.length≤n→Aft g0 H0 g st.H→Aft g0 H0 (g.take n) st'.H:=by
 unfold NB at ht
 split at ht
 · rename_i hall
   cases ht
   refine⟨⟨h.heap.take hall,h.size,h.defers.gh fun b hb=>Gh.GQ hb,fun s t d hs hd=>?_⟩,fun hE=>⟨hE.sub,hE.size,hE.keep,fun b hb=>hE.blks b (Gh.GQ hb),hE.newF,hE.io⟩,fun hle hA=>?_⟩
   · simp only[aLn,aLb]at hd
     obtain⟨d0,hd0,rfl⟩:=hd
     have hr:=h.vals s t d0 hs hd0
     unfold kill
     split
     · rename_i hold
       exact hr.later (mS.refl F) (rm.take g st.H n) (PJ hold)
     · exact .und _
   · constructor
     · intro i j hj hs
       cases hj
       have hi:=gA hs
       obtain⟨h1,h2⟩:=hA.box i i rfl hs
       exact⟨(qv (by omega)).trans h1,by rw[aLo,if_pos (by omega)];exact h2⟩
     · intro i j sz ep k hj hs
       cases hj
       have hi:=gA hs
       obtain⟨sz',ep',k',h1,h2⟩:=hA.arr i i sz ep k rfl hs
       exact⟨sz',ep',k',(qv (by omega)).trans h1,by rw[aLo,if_pos (by omega)];exact h2⟩
     · intro i j ep hj hs
       cases hj
       have hi:=gA hs
       obtain⟨ep',h1,h2⟩:=hA.own i i ep rfl hs
       exact⟨ep',(qv (by omega)).trans h1,by rw[aLo,if_pos (by omega)];exact h2⟩
 · cases ht
end
end Go.Ev
namespace Go.Ev
open Go Go.RowKit
variable [Names]
theorem IS{f:Nat}{d:Option D}{H:af}{es:List T}(h:SM f d H=some es):
 ∃s n,d=some (.fn f [.bp s 0,.bp n 0])∧H[s]?=some (.box [.t (.sl es)])∧H[n]?=some (.box [.t (.int .i64 2)])∧es.length % 2=0∧es.length≤1000000∧es.all abL=true:=by
 unfold SM at h
 split at h
 · rename_i f' s n
   split at h
   · rename_i hf
     split at h
     · rename_i es' m h1 h2
       split at h
       · rename_i hc
         cases h
         obtain⟨rfl,k1,k2,k3⟩:=hc
         subst hf
         exact⟨s,n,rfl,h1,h2,k1,k2,k3⟩
       · cases h
     · cases h
   · cases h
 · cases h
theorem NM{e:T}(h:abL e=true):e.cells=[e]:=by
 cases e<;>simp_all [abL,T.cells]
theorem IT{F:Fz}{v:Value}{es:List T}(h:lP F v (.sl es))(hi:es.all abL=true){k:Nat}(hk:2*k+2≤es.length):
 ∃b off cap,v= .slice (some ⟨b,off,none⟩) es.length cap∧es.length≤cap∧lP F (.slice (some ⟨b,off+2*k,none⟩) 2 2) (.sl ((es.drop (2*k)).take 2)):=by
 generalize hx:T.sl es=x at h
 cases h with
 | sl0 a cap=>simp only[T.sl.injEq]at hx;subst hx;simp at hk
 | sl b off cap sz es' cv hcap hsz hF hr=>
   simp only[T.sl.injEq]at hx
   subst hx
   have hz:sz=1:=by
    have h0:0<es.length:=by omega
    have:=hsz es[0] (List.getElem_mem h0)
    rw[NM (aLx.1 hi _ (List.getElem_mem h0))]at this
    exact this.symm
   subst hz
   refine⟨b,off,cap,rfl,hcap,?_⟩
   have hl:((es.drop (2*k)).take 2).length=2:=by rw[List.length_take,List.length_drop];omega
   have get:∀i e,((es.drop (2*k)).take 2)[i]?=some e→es[2*k+i]?=some e:=by
    intro i e he
    rw[aLo]at he
    split at he
    · rw[List.getElem?_drop]at he;exact he
    · cases he
   have:=lP.sl (F:=F) b (off+2*k) 2 1 ((es.drop (2*k)).take 2) (fun i c=>cv (2*k+i) c) (by omega) (fun e he=>hsz e (List.mem_of_mem_drop (List.mem_of_mem_take he)))
    (fun i e c d he hd=>by
     have:=hF _ _ _ _ (get i e he) hd
     rwa [show off+(2*k+i)*1+c=off+2*k+i*1+c by omega]at this)
    (fun i e c d he hd=>hr _ _ _ _ (get i e he) hd)
   rw[hl]at this
   exact this
 | _=>cases hx
section
variable {P : Program} {vars : List Nat} {nt bs : Nat} {call : aU} {fuel : Nat}
theorem IU{step:T→af→Option af}{look:af→Option (List T)}{len k i:Nat}{H H':af}(h:Kj step look len k i H=some H'):∃es,look H=some es∧es.length=len:=by
 cases k with
 | zero=>
   unfold Kj at h
   obtain⟨es,he,h⟩:=aLa.1 h
   split at h
   · exact⟨es,he,‹_›⟩
   · cases h
 | succ k=>
   unfold Kj at h
   obtain⟨es,he,h⟩:=aLa.1 h
   split at h
   · exact⟨es,he,‹_›⟩
   · cases h
theorem lt_size{w:World}{l:Nat}{o:Go.Obj}(h:w.heap[l]?=some o):l<w.heap.size:=(Array.getElem?_eq_some_iff.1 h).1
theorem Ext.stays{F F':Fz}{g g':Gh}{w w':World}(h:Ext F g w F' g' w'){l:Nat}{o:Go.Obj}(hl:w.heap[l]?=some o)(hg:¬g.has l):w'.heap[l]?=some o∧¬g'.has l:=
 ⟨(h.keep l (lt_size hl) hg).trans hl,fun hx=>by
   rcases h.blks l hx with h | h
   · exact hg h
   · have:=lt_size hl;omega⟩
theorem P6(ht:yY P)(hcall:od P call){x p f t tp i1 bi i2:Nat}{r1 r2:List R}{p1 p2:List (Nat×Nat)}{o1 o2:Array Oper}{d1 d2:Bool}{I1 I2:ik}
 (hx:vars[x]?=some t) (hp:vars[p]?=some tp) (htp:tp<nt) (hit:Names.it f=true) (hnd:vars.Nodup)
 (hA1:ux I1 P vars nt o1 d1 r1 p1) (hA2:ux I2 P vars nt o2 d2 r2 p2) (hd1:∀(i:Nat) o,o1[i]?=some o→m8 o=true) (hd2:∀(i:Nat) o,o2[i]?=some o→m8 o=true)
 {st:St} {q:Ex×St} (he:((O3 (stepG (xb call) st.vs p r1 p1 r2 p2) (SM f st.vs[x]?) st.H).map fun H=>((.normal,⟨st.vs,H⟩):Ex×St))=some q)
 {F:Fz} {g:Gh} {a:Act} {w:World} {Q:Exit→Act→World→Prop} (hs:Bu vars nt bs F g st.vs st.H a w) (hQ:Kx vars nt bs F g st.H w q Q):
 (Code.rangeFunc (.tmp t) #[tp] (.region i1 o1 d1) (.block bi (.region i2 o2 d2))).wp P Q a w:=by
 obtain⟨Hend,hH,rfl⟩:=aLb.1 he
 unfold O3 at hH
 obtain⟨es,hes,hr⟩:=aLa.1 hH
 obtain⟨s,n,hfn,hHs,hHn,hev,hle,hall⟩:=IS hes
 have hv:=hs.vals x t _ hx hfn
 generalize hav:a.eval (.tmp t)=v at hv
 obtain⟨j,Bs,Bn,hj,rfl,hgs,hgn⟩:∃j Bs Bn,Names.ρ f=some j∧v= .func (.func j) #[] #[.pointer (some ⟨Bs,0,none⟩),.pointer (some ⟨Bn,0,none⟩)]∧(∃c,g[s]?=some ⟨some Bs,c⟩)∧(∃c,g[n]?=some ⟨some Bn,c⟩):=by
  cases hv with
  | fn f2 j hj vs cs hl h=>
    match vs,hl with
    | [v1,v2],_=>
      have h1:=h 0 v1 _ rfl rfl
      have h2:=h 1 v2 _ rfl rfl
      cases h1 with
      | bp _ _ b1 c1 g1 s1=>
        cases h2 with
        | bp _ _ b2 c2 g2 s2=>exact⟨j,b1,b2,hj,rfl,⟨c1,g1⟩,⟨c2,g2⟩⟩
 obtain⟨ej,hC⟩:=ht.chunk f j hj hit
 obtain⟨m,hm⟩:∃m,m=es.length / 2:=⟨_,rfl⟩
 have hlen:es.length=2*m:=by omega
 rw[← hm,hlen]at hr
 refine(wpIn_wide (n:=2)).1 (wpIn_rangeFunc ?_)
 intro fn hfnF
 obtain⟨rec,hrec⟩:∃rec:LoopState→Loop,rec=fun st=>{ state:=st,pending:=none,fn,tmps:=a.tmps,params:= #[tp],assign:= .region i1 o1 d1,body:= .block bi (.region i2 o2 d2),defers:=w.heap.size}:=⟨_,rfl⟩
 obtain⟨W1,hW1⟩:∃W1,(w.alloc (.deferred (some []))).alloc (.loop (rec .ready))=W1:=⟨_,rfl⟩
 have hL1:W1.heap[w.heap.size+1]?=some (.loop (rec .ready)):=by
  rw[← hW1];have:=World.alloc_heap_new (w.alloc (.deferred (some []))) (.loop (rec .ready));rwa [World.size_alloc]at this
 have hK1:W1.heap[w.heap.size]?=some (.deferred (some [])):=by
  rw[← hW1];exact(Below.heap_alloc _ _ _ (by simp)).trans (World.alloc_heap_new w _)
 have hB1:∀b,b<w.heap.size→W1.heap[b]?=w.heap[b]?:=fun b hb=>by
  rw[← hW1];exact(Below.heap_alloc _ _ _ (by simp;omega)).trans (Below.heap_alloc _ _ _ hb)
 have hS1:W1.heap.size=w.heap.size+2:=by rw[← hW1];simp
 have hno:∀l,w.heap.size≤l→¬g.has l:=fun l hl hx=>by have:=hs.heap.lt hx;omega
 refine⟨w.heap.size+1,[{ target:= .collected w.heap.size,args:= #[]}],W1,{ target:= .fn (.func j) #[.pointer (some ⟨Bs,0,none⟩),.pointer (some ⟨Bn,0,none⟩)],args:= #[.func (.yield (w.heap.size+1)) #[] #[]]},W1,j,
  #[.func (.yield (w.heap.size+1)) #[] #[],.pointer (some ⟨Bs,0,none⟩),.pointer (some ⟨Bn,0,none⟩)],W1,?_,?_,fun _ _=>trivial,?_,fun _=>by omega,?_⟩
 · rw[← hW1,hrec];exact run_enterLoop_outer _ _ _ _ _
 · simp only[resolve,hav]
   simp[go_sem]
 · simp[invoke,go_sem,ej]
 let J:Nat→World→Prop:=fun k W=>k≤m∧∃F' g' H',Kj (stepG (xb call) st.vs p r1 p1 r2 p2) (SM f st.vs[x]?) (2*m) (m-k) (2*k) H'=some Hend∧az F' g' H' W∧Ext F g w F' g' W∧Aft g st.H g' H'∧
  W.heap[w.heap.size+1]?=some (.loop (rec .ready))∧W.heap[w.heap.size]?=some (.deferred (some []))∧¬g'.has (w.heap.size+1)∧¬g'.has w.heap.size
 -- the list's value
 have look:∀ {F':Fz} {g':Gh} {H':af} {W:World} {es':List T},SM f st.vs[x]? H'=some es'→es'.length=2*m→az F' g' H' W→Aft g st.H g' H'→
  W.cell? ⟨Bn,0,none⟩=some (.int .i64 2)∧∃v,W.cell? ⟨Bs,0,none⟩=some v∧lP F' v (.sl es')∧es'.all abL=true:=by
  intro F' g' H' W es' h1 h2 h3 h4
  obtain⟨s',n',e1,k1,k2,_,_,k5⟩:=IS h1
  rw[hfn]at e1
  simp only[Option.some.injEq,D.fn.injEq,List.cons.injEq,D.bp.injEq,and_true,true_and]at e1
  obtain⟨rfl,rfl⟩:=e1
  obtain⟨c1,hc1⟩:=hgs
  obtain⟨c2,hc2⟩:=hgn
  have b1:g'[s]?=some ⟨some Bs,c1⟩:=(h4.box s s rfl (by simp[shp,hHs,Obj.sh])).2.trans hc1
  have b2:g'[n]?=some ⟨some Bn,c2⟩:=(h4.box n n rfl (by simp[shp,hHn,Obj.sh])).2.trans hc2
  have cell:∀ {id B c:Nat} {d:D},g'[id]?=some ⟨some B,c⟩→H'[id]?=some (.box [d])→∃v,W.cell? ⟨B,0,none⟩=some v∧bF F' g' (shp H') v d:=by
   intro id B c d hg hh
   obtain⟨b',c',ty,hb',hc,hsz,hcv,_⟩:=(h3.fits id _ _ hh hg).born
   cases hb'
   obtain⟨sv,hsv⟩:∃sv,c'[0]?=some sv:=⟨c'[0]'(by rw[hsz];exact Nat.zero_lt_one),Array.getElem?_eq_getElem _⟩
   exact⟨sv,by simp[World.cell?,hc,hsv],(hcv 0 sv _ hsv rfl).2⟩
  obtain⟨v1,k6,k7⟩:=cell b1 k1
  obtain⟨v2,k8,k9⟩:=cell b2 k2
  cases k7 with
  | t _ _ k7=>
    cases k9 with
    | t _ _ k9=>
      cases k9
      exact⟨k8,v1,k6,k7,k5⟩
 refine(hC 1 (w.heap.size+1) Bs Bn m J (by omega) (by omega) ?_ ?_ ?_ W1 ?_).mono ?_
 · rintro k W ⟨hk,F',g',H',h1,h2,h3,h4,h5,h6,h7,h8⟩
   exact⟨hk,F',g',H',h1,h2.grow fun _ _=>rfl,h3.trans (Ext.grow (aLs _) fun _ _=>rfl),h4,h5,h6,h7,h8⟩
 · rintro k W ⟨hk,F',g',H',h1,h2,h3,h4,h5,h6,h7,h8⟩
   obtain⟨es',e1,e2⟩:=IU h1
   obtain⟨c2,v,c1,hv,hi⟩:=look e1 e2 h2 h4
   refine⟨c2,?_⟩
   by_cases h0:m=0
   · subst h0
     have:es'=[]:=List.eq_nil_of_length_eq_zero (by omega)
     subst this
     generalize hxx:T.sl []=x at hv
     cases hv with
     | sl0 a cap=>exact⟨a,cap,c1,fun h=>absurd rfl h⟩
     | sl b off cap sz es cv=>
       cases hxx
       exact⟨_,cap,c1,fun h=>absurd rfl h⟩
     | _=>cases hxx
   · obtain⟨b,off,cap,rfl,hcap,_⟩:=IT hv hi (k:=0) (by omega)
     rw[e2]at c1 hcap
     exact⟨_,cap,c1,fun _=>⟨hcap,b,off,rfl⟩⟩
 · rintro k W b off cap hkm ⟨hk,F',g',H',h1,h2,h3,h4,h5,h6,h7,h8⟩ hcs
   obtain⟨es',e1,e2⟩:=IU h1
   obtain⟨_,v,c1,hv,hi⟩:=look e1 e2 h2 h4
   obtain⟨b',off',cap',rfl,hcap,hchunk⟩:=IT hv hi (k:=k) (by omega)
   rw[hcs,e2]at c1
   simp only[Option.some.injEq,Value.slice.injEq,Addr.mk.injEq,and_true,true_and]at c1
   obtain⟨⟨rfl,rfl⟩,rfl⟩:=c1
   rw[show m-k=(m-(k+1))+1 by omega]at h1
   unfold Kj at h1
   rw[e1,aLq,if_pos e2]at h1
   obtain⟨H1,hst,hrest⟩:=aLa.1 h1
   unfold stepG at hst
   obtain⟨⟨L1,vs1,Ha⟩,hq1,hst⟩:=aLa.1 hst
   obtain⟨⟨L2,vs2,Hb⟩,hq2,rfl⟩:=aLb.1 hst
   have hlt:=lt_size h5
   refine⟨fn,a.tmps.setIfInBounds tp (.slice (some ⟨b,off+2*k,none⟩) 2 2),.region i1 o1 d1,.block bi (.region i2 o2 d2),?_,roundIn_of_wpIn hfnF ?_⟩
   · have:=run_yield (P:=P) (args:= #[.slice (some ⟨b,off+2*k,none⟩) 2 2]) h5 (by rw[hrec];rfl)
     rw[hrec]at this
     simpa using this
   have hst1:Bu vars nt W.heap.size F' g' (st.vs.set p (.t (.sl ((es'.drop (2*k)).take 2)))) H' { tmps:=a.tmps.setIfInBounds tp (.slice (some ⟨b,off+2*k,none⟩) 2 2),defers:=[]} W:=by
    refine⟨h2,by simpa using hs.size,Marks.nil (aLs _),fun s' t' d hs' hd=>?_⟩
    by_cases e:s'=p
    · subst e
      rw[hp]at hs';cases hs'
      rw[List.getElem?_set]at hd
      simp only[if_true]at hd
      split at hd
      · cases hd
        have:({ tmps:=a.tmps.setIfInBounds tp (.slice (some ⟨b,off+2*k,none⟩) 2 2),defers:=[]}:Act).eval (.tmp tp)= .slice (some ⟨b,off+2*k,none⟩) 2 2:=by
         simp[Act.eval,hs.size,htp]
        rw[this];exact .t _ _ hchunk
      · cases hd
    · have e2:t'≠tp:=fun e3=>by
       subst e3
       have i1:=(aLe.1 hs').1
       have i2:=(aLe.1 hp).1
       exact e ((List.getElem?_inj i1 hnd).1 (hs'.trans hp.symm))
      rw[aLi (fun h=>e h.symm)]at hd
      have:=(hs.vals s' t' d hs' hd).aft h3.sub h4
      have e4:({ tmps:=a.tmps.setIfInBounds tp (.slice (some ⟨b,off+2*k,none⟩) 2 2),defers:=[]}:Act).eval (.tmp t')=a.eval (.tmp t'):=by
       simp[Act.eval,Array.getElem?_setIfInBounds]
       rw[if_neg fun h:tp=t'=>e2 h.symm]
      rw[e4];exact this
   refine F6 ht hcall hA1 hst1 hq1 hd1 (fun⟨_,_,h⟩=>h) fun a1 w1 F1 g1 hs1 hE1 hAf1=>?_
   obtain⟨l1,n1⟩:=hE1.stays h5 h7
   obtain⟨l2,n2⟩:=hE1.stays h6 h8
   refine⟨_,run_beginRound l1 (by rw[hrec]),?_⟩
   have lb:∀o,(w1.putObj (w.heap.size+1) o).heap[w.heap.size+1]?=some o:=fun o=>World.putObj_heap_same (lt_size l1)
   have ld:∀o,(w1.putObj (w.heap.size+1) o).heap[w.heap.size]?=some (.deferred (some [])):=fun o=>(World.putObj_heap_other (by omega)).trans l2
   have hs2:Bu vars nt W.heap.size F1 g1 vs1 Ha a1 (w1.putObj (w.heap.size+1) (.loop { rec .ready with state:= .busy})):=
    ⟨hs1.heap.putObj l1 rfl n1 _,hs1.size,hs1.defers.putObj l1 _,hs1.vals⟩
   refine wpIn_block (F6 ht hcall hA2 hs2 hq2 hd2 (fun⟨_,_,h⟩=>h) fun a2 w2 F2 g2 hs3 hE2 hAf2=>?_)
   obtain⟨l3,n3⟩:=hE2.stays (lb _) n1
   obtain⟨l4,n4⟩:=hE2.stays (ld _) n2
   refine⟨_,_,run_endRound none l3,rfl,by omega,F2,g2,Hb,?_,hs3.heap.putObj l3 rfl n3 _,?_,(h4.trans hAf1).trans hAf2,?_,?_,n3,n4⟩
   · rw[show 2*(k+1)=2*k+2 by omega];exact hrest
   · exact(((h3.trans hE1).putObj (by omega) _).trans hE2).putObj (by omega) _
   · rw[World.putObj_heap_same (lt_size l3)]
     rw[hrec];rfl
   · exact(World.putObj_heap_other (by omega)).trans l4
 · exact⟨Nat.zero_le _,F,g,st.H,by rw[Nat.sub_zero];exact hr,hs.heap.grow hB1,Ext.grow (by omega) hB1 (by rw[← hW1];exact⟨rfl,rfl⟩),Aft.refl g _,hL1,hK1,hno _ (by omega),hno _ (by omega)⟩
 · rintro e W2 ⟨⟨v0,rfl⟩,hk,F',g',H',h1,h2,h3,h4,h5,h6,h7,h8⟩
   have hend:=run_endLoop (P:=P) h5 (by rw[hrec];simp)
   refine⟨none,_,by rw[hend,hrec],?_⟩
   rw[Nat.sub_self]at h1
   unfold Kj at h1
   obtain⟨es',e1,h1⟩:=aLa.1 h1
   split at h1
   · cases h1
     refine hQ _ _ F' g' ⟨h2.putObj h5 rfl h7 _,hs.size,?_,fun s' t' d hs' hd=>(hs.vals s' t' d hs' hd).aft h3.sub h4⟩ (h3.putObj (by omega) _) h4
     have hb:=hs.defers.1
     exact((hs.defers.ext h3).putObj h5 _).cons hb ((World.putObj_heap_other (by omega)).trans h6) h8 hs.defers (aLs _)
   · cases h1
end
end Go.Ev
namespace Go.Ev
open Go
variable [Names]
section
variable {P : Program} {vars : List Nat} {nt bs : Nat} {call : aU} {fuel : Nat}
def sD(P:Program)(vars:List Nat)(nt bs:Nat)(ev:St→Option (Ex×St))(x:Code):Prop:=
 ∀(st:St) (p:Ex×St),ev st=some p→∀(F:Fz) (g:Gh) (a:Act) (w:World) (Q:Exit→Act→World→Prop),
  Bu vars nt bs F g st.vs st.H a w→Kx vars nt bs F g st.H w p Q→x.wp P Q a w
theorem P7{ev1 ev2:St→Option (Ex×St)}{x y:Code}(h1:sD P vars nt bs ev1 x)(h2:sD P vars nt bs ev2 y):
 sD P vars nt bs (fun st=>(ev1 st).bind fun p=>jC p ev2) (.seq x y):=by
 intro st p he F g a w Q hs hQ
 obtain⟨q,hq,he⟩:=aLa.1 he
 refine wp_seq (h1 st q hq F g a w _ hs fun a' w' F' g' hs' hE hA=>?_)
 unfold jC at he
 split at he
 · rename_i hn
   rw[hn]
   exact h2 q.2 p he F' g' a' w' Q hs' (hQ.trans hE hA)
 · rename_i hn
   cases he
   have:=hQ a' w' F' g' hs' hE hA
   obtain⟨e,st'⟩:=p
   cases e<;>first | exact(hn rfl).elim | exact this
theorem P8(ht:yY P)(hcall:od P call){rs:List R}{ps:List (Nat×Nat)}{k t:Nat}{ops:Array Oper}{draw:Bool}{id:Nat}
 (hc:Dm P vars nt ops draw rs ps k t) {ev1 ev2:St→Option (Ex×St)} {x y:Code} (h1:sD P vars nt bs ev1 x) (h2:sD P vars nt bs ev2 y):
 sD P vars nt bs (fun st=>(xb call rs ps st.vs st.H).bind fun q=>jh q.1[k]? (ev1 ⟨q.2.1,q.2.2⟩) (ev2 ⟨q.2.1,q.2.2⟩)) (.seq (.region id ops draw) (.cond (.tmp t) x y)):=by
 intro st p he F g a w Q hs hQ
 obtain⟨I,hA,hw,hmax⟩:=hc
 obtain⟨⟨L,vs',H'⟩,hq,he⟩:=aLa.1 he
 refine wp_seq (y6 ht hcall hA hs hq fun a' w' F' g' hs' hE hAf hL=>?_)
 refine Ky hs' (fun d hd=>hL k d t hd hw hmax) he (fun hx=>?_) (fun hy=>?_)
 · exact h1 _ p hx F' g' a' w' Q hs' (hQ.trans hE hAf)
 · exact h2 _ p hy F' g' a' w' Q hs' (hQ.trans hE hAf)
theorem P9(ht:yY P)(hcall:od P call){rs:List R}{ps:List (Nat×Nat)}{k t:Nat}{ops:Array Oper}{draw:Bool}{id:Nat}
 (hc:Dm P vars nt ops draw rs ps k t) {ev1 ev2 ev3:St→Option (Ex×St)} {x y z:Code} (h1:sD P vars nt bs ev1 x) (h2:sD P vars nt bs ev2 y) (h3:sD P vars nt bs ev3 z):
 sD P vars nt bs (fun st=>((xb call rs ps st.vs st.H).bind fun q=>jh q.1[k]? (ev1 ⟨q.2.1,q.2.2⟩) (ev2 ⟨q.2.1,q.2.2⟩)).bind fun p=>jC p ev3)
  (.seq (.region id ops draw) (.seq (.cond (.tmp t) x y) z)):=by
 intro st p he F g a w Q hs hQ
 obtain⟨I,hA,hw,hmax⟩:=hc
 obtain⟨p1,he,he3⟩:=aLa.1 he
 obtain⟨⟨L,vs',H'⟩,hq,he⟩:=aLa.1 he
 refine wp_seq (y6 ht hcall hA hs hq fun a' w' F' g' hs' hE hAf hL=>?_)
 have key:∀(Q':Exit→Act→World→Prop),Kx vars nt bs F' g' H' w' p1 Q'→(Code.cond (.tmp t) x y).wp P Q' a' w':=by
  intro Q' hQ'
  refine Ky hs' (fun d hd=>hL k d t hd hw hmax) he (fun hx=>?_) (fun hy=>?_)
  · exact h1 _ p1 hx F' g' a' w' Q' hs' hQ'
  · exact h2 _ p1 hy F' g' a' w' Q' hs' hQ'
 refine wp_seq (key _ fun a2 w2 F2 g2 hs2 hE2 hA2=>?_)
 unfold jC at he3
 split at he3
 · rename_i hn
   rw[hn]
   exact h3 p1.2 p he3 F2 g2 a2 w2 Q hs2 ((hQ.trans hE hAf).trans hE2 hA2)
 · rename_i hn
   cases he3
   have:=hQ a2 w2 F2 g2 hs2 (hE.trans hE2) (hAf.trans hA2)
   obtain⟨e,st'⟩:=p
   cases e<;>first | exact(hn rfl).elim | exact this
theorem Qa(ht:yY P)(hcall:od P call){rs:List R}{ps:List (Nat×Nat)}{k t:Nat}{ops:Array Oper}{draw:Bool}{id:Nat}
 (hc:Dm P vars nt ops draw rs ps k t) {ev1 ev2 ev3:St→Option (Ex×St)} {x y z:Code} (h1:sD P vars nt bs ev1 x) (h2:sD P vars nt bs ev2 y) (h3:sD P vars nt bs ev3 z):
 sD P vars nt bs (fun st=>(xb call rs ps st.vs st.H).bind fun q=>jh q.1[k]? ((ev1 ⟨q.2.1,q.2.2⟩).bind fun p=>jC p ev3) ((ev2 ⟨q.2.1,q.2.2⟩).bind fun p=>jC p ev3))
  (.seq (.seq (.region id ops draw) (.cond (.tmp t) x y)) z):=by
 intro st p he F g a w Q hs hQ
 obtain⟨I,hA,hw,hmax⟩:=hc
 obtain⟨⟨L,vs',H'⟩,hq,he⟩:=aLa.1 he
 refine wp_seq (wp_seq (y6 ht hcall hA hs hq fun a' w' F' g' hs' hE hAf hL=>?_))
 obtain⟨b,hv,he⟩:=TM (fun d hd=>hL k d t hd hw hmax) he
 have fin:∀ {ev:St→Option (Ex×St)} {u:Code},sD P vars nt bs ev u→((ev ⟨vs',H'⟩).bind fun p=>jC p ev3)=some p→u.wp P (Exit.then (z.wp P Q) Q) a' w':=by
  intro ev u hu he
  obtain⟨p1,he1,he3⟩:=aLa.1 he
  refine hu _ p1 he1 F' g' a' w' _ hs' fun a2 w2 F2 g2 hs2 hE2 hA2=>?_
  unfold jC at he3
  split at he3
  · rename_i hn
    rw[hn]
    exact h3 p1.2 p he3 F2 g2 a2 w2 Q hs2 ((hQ.trans hE hAf).trans hE2 hA2)
  · rename_i hn
    cases he3
    have:=hQ a2 w2 F2 g2 hs2 (hE.trans hE2) (hAf.trans hA2)
    obtain⟨e,st'⟩:=p
    cases e<;>first | exact(hn rfl).elim | exact this
 refine wp_cond hv ?_
 cases b with
 | true=>exact fin h1 he
 | false=>exact fin h2 he
theorem NN{ev:St→Option (Ex×St)}{x:Code}(h:sD P vars nt bs ev x)(gc:Bool)(dead:List Nat)(n:Nat):sD P vars nt bs (fun st=>iter gc dead ev n ⟨jg dead st.vs,st.H⟩) (.loop x):=by
 intro st p he F g a w Q hs hQ
 refine wp_loop_rounds n ?_
 have key:∀(n:Nat) (st:St) (F:Fz) (g:Gh) (a:Act) (w:World),iter gc dead ev n st=some p→Bu vars nt bs F g st.vs st.H a w→Kx vars nt bs F g st.H w p Q→Code.rounds P x Q n a w:=by
  intro n
  induction n with
  | zero=>intro st F g a w he;cases he
  | succ n ih=>
    intro st F g a w he hs hQ
    simp only[iter]at he
    obtain⟨q,hq,he⟩:=aLa.1 he
    rw[rounds_succ]
    refine h st q hq F g a w _ hs fun a' w' F' g' hs' hE hA=>?_
    split at he
    · rename_i hn
      rw[hn]
      obtain⟨st2,ht,he⟩:=aLa.1 he
      have hs2:=hs'.jg dead
      unfold tidy at ht
      split at ht
      · obtain⟨k1,k2,k3⟩:=TN (st:=⟨jg dead q.2.vs,q.2.H⟩) hs2 ht
        exact ih st2 F' _ a' w' he k1 (hQ.trans (k2 hE) (k3 (aLs _) hA))
      · cases ht
        exact ih _ F' g' a' w' he hs2 (hQ.trans hE hA)
    · rename_i hn
      cases he
      have:=hQ a' w' F' g' hs' hE hA
      obtain⟨e,st'⟩:=p
      cases e<;>first | exact(hn rfl).elim | exact this
 exact key n _ F g a w he (hs.jg dead) hQ
theorem Qb{ev:St→Option (Ex×St)}{x:Code}(h:sD P vars nt bs ev x)(id:Nat):sD P vars nt bs (fun st=>(ev st).map (leave id)) (.block id x):=by
 intro st p he F g a w Q hs hQ
 obtain⟨q,hq,rfl⟩:=aLb.1 he
 refine wp_block (h st q hq F g a w _ hs fun a' w' F' g' hs' hE hA=>?_)
 have hst:(leave id q).2=q.2:=by unfold leave;split<;>rfl
 have:=hQ a' w' F' g' (by rw[hst];exact hs') hE (by rw[hst];exact hA)
 obtain⟨e,st'⟩:=q
 cases e with
 | normal=>simpa [leave,IQ,Exit.inBlock]using this
 | ret=>simpa [leave,IQ,Exit.inBlock]using this
 | exit id'=>
   by_cases e:id'=id
   · subst e;simpa [leave,IQ,Exit.inBlock]using this
   · simpa [leave,IQ,Exit.inBlock,e]using this
theorem afa(ht:yY P)(hcall:od P call):∀(c:C) (x:Code),gQ P vars nt c x→sD P vars nt bs (evC call fuel c) x:=by
 intro c
 induction c with
 | skip=>
   intro x hx
   cases x<;>simp only[gQ]at hx
   intro st p he F g a w Q hs hQ
   simp only[evC,Option.some.injEq]at he
   subst he
   exact wp_skip (hQ a w F g hs (Ext.refl _ _ _) (Aft.refl _ _))
 | reg rs ps=>
   intro x hx
   cases x<;>simp only[gQ]at hx
   intro st p he F g a w Q hs hQ
   obtain⟨I,hA⟩:=hx
   simp only[evC]at he
   obtain⟨⟨L,vs',H'⟩,hq,rfl⟩:=aLb.1 he
   exact y6 ht hcall hA hs hq fun a' w' F' g' hs' hE hAf _=>hQ a' w' F' g' hs' hE hAf
 | seq a b iha ihb=>
   intro x hx
   cases x<;>simp only[gQ]at hx
   exact P7 (iha _ hx.1) (ihb _ hx.2)
 | ite rs ps k a b iha ihb=>
   intro x hx
   match x,hx with
   | .seq (.region _ ops draw) (.cond (.tmp t) u v),hx=>
     simp only[gQ]at hx
     exact P8 ht hcall hx.1 (iha _ hx.2.1) (ihb _ hx.2.2)
 | its rs ps k a b c iha ihb ihc=>
   intro x hx
   match x,hx with
   | .seq (.region _ ops draw) (.seq (.cond (.tmp t) u v) z),hx=>
     simp only[gQ]at hx
     exact P9 ht hcall hx.1 (iha _ hx.2.1) (ihb _ hx.2.2.1) (ihc _ hx.2.2.2)
 | itk rs ps k a b c iha ihb ihc=>
   intro x hx
   match x,hx with
   | .seq (.seq (.region _ ops draw) (.cond (.tmp t) u v)) z,hx=>
     simp only[gQ]at hx
     exact Qa ht hcall hx.1 (iha _ hx.2.1) (ihb _ hx.2.2.1) (ihc _ hx.2.2.2)
 | itv j a b iha ihb=>
   intro x hx
   match x,hx with
   | .cond (.tmp t) u v,hx=>
     simp only[gQ]at hx
     intro st p he F g a' w Q hs hQ
     simp only[evC]at he
     exact Ky hs (fun d hd=>hs.vals j t d hx.1 hd) he (fun h=>iha _ hx.2.1 st p h F g a' w Q hs hQ) (fun h=>ihb _ hx.2.2 st p h F g a' w Q hs hQ)
 | blk id c ih=>
   intro x hx
   cases x<;>simp only[gQ]at hx
   obtain⟨rfl,hx⟩:=hx
   exact Qb (ih _ hx) id
 | loop gc dead c ih=>
   intro x hx
   cases x<;>simp only[gQ]at hx
   exact NN (ih _ hx) gc dead fuel
 | exit id=>
   intro x hx
   cases x<;>simp only[gQ]at hx
   subst hx
   intro st p he F g a w Q hs hQ
   simp only[evC,Option.some.injEq]at he
   subst he
   exact wp_exit (hQ a w F g hs (Ext.refl _ _ _) (Aft.refl _ _))
 | ret=>
   intro x hx
   cases x<;>simp only[gQ]at hx
   intro st p he F g a w Q hs hQ
   simp only[evC,Option.some.injEq]at he
   subst he
   exact wp_ret (hQ a w F g hs (Ext.refl _ _ _) (Aft.refl _ _))
 | fail=>
   intro x hx st p he
   simp only[evC]at he
   cases he
 | cnd v c ih=>
   intro x hx
   match x,hx with
   | .cond (.const (.bool v')) u y,hx=>
     simp only[gQ]at hx
     obtain⟨rfl,hx⟩:=hx
     intro st p he F g a w Q hs hQ
     simp only[evC]at he
     refine wp_cond (show a.eval (.const (.bool v))= .bool v from rfl) ?_
     have:=ih _ hx st p he F g a w Q hs hQ
     cases v<;>simpa using this
 | rng x p f r1 p1 r2 p2=>
   intro y hy
   match y,hy with
   | .rangeFunc (.tmp t) ps (.region i1 o1 d1) (.block bi (.region i2 o2 d2)),hy=>
     simp only[gQ]at hy
     obtain⟨tp,rfl,h1,h2,h3,h4,h5,⟨I1,k1⟩,⟨I2,k2⟩,h6,h7⟩:=hy
     intro st q he F g a w Q hs hQ
     simp only[evC]at he
     exact P6 ht hcall h1 h2 h3 h4 h5 k1 k2 h6 h7 he hs hQ
end
end Go.Ev
namespace Go.Ev
open Go
variable [Names]
section
variable {P : Program} {vars : List Nat} {nt bs : Nat}
def EW(P:Program)(vars:List Nat):List (Nat×Option (Nat×Bool))→List ResultVar→Prop
 | [],[]=>True
 | (j,none)::r,.tmp t::s=>vars[j]?=some t∧EW P vars r s
 | (j,some (n,agg))::r,.cell a t::s=>vars[j]?=some a∧vd P t=some n∧Kc P t=some agg∧EW P vars r s
 | _,_=>False
structure aiD(P:Program)(j:Nat)(fn:Fn):Prop where
 ok:∃fu c,P.funcs[j]?=some fu∧fu.body=some c∧gQ P fn.vars fu.ntmps fn.body c∧EW P fn.vars fn.res fu.results.toList∧fn.aq≤fu.ntmps
def abP(tmps:Array Value):ResultVar→Sem Value
 | .tmp t=>pure (tmps.getD t undef)
 | .cell a t=>do loadVar t (← asAddr (tmps.getD a undef))
theorem XQ{F:Fz}{g:Gh}{H:af}{w:World}(hH:az F g H w){v:Value}{p:D}(hp:bF F g (shp H) v p){n:Nat}{agg:Bool}{d:D}(h:Ak H p n agg=some d){t:TypeId}
 (hs:vd P t=some n) (ha:Kc P t=some agg):∃a u,v= .pointer (some a)∧(loadVar t a).run P w= .ok u w∧bF F g (shp H) u d:=by
 obtain⟨b,o,vs,cs,rfl,hl,hc,hd,hcell⟩:=Db hH hp h
 subst hl
 refine⟨_,_,rfl,?_,yb hc hd⟩
 exact Da (P:=P) (w:=w) (a:=⟨b,o,none⟩) hs ha (fun h0=>by rw[hc.1];exact yc hd h0) (fun j u hu=>by rw[iH];exact hcell j u hu)
theorem Qc{F:Fz}{g:Gh}{st:St}{a:Act}{w:World}(h:Bu vars nt bs F g st.vs st.H a w):∀ {rs:List (Nat×Option (Nat×Bool))} {xs:List ResultVar} {ds:List D},
 EW P vars rs xs→mG st rs=some ds→∃vs,(xs.mapM (abP a.tmps)).run P w= .ok vs w∧qa F g (shp st.H) vs ds
 | [],[],ds,_,hg=>by simp only[mG,Option.some.injEq]at hg;subst hg;exact⟨[],by simp,qa.nil⟩
 | [],_::_,ds,hr,_=>by simp[EW]at hr
 | (j,none)::r,[],ds,hr,_=>by simp[EW]at hr
 | (j,some (n,agg))::r,[],ds,hr,_=>by simp[EW]at hr
 | (j,none)::r,.cell _ _::s,ds,hr,_=>by simp[EW]at hr
 | (j,some (n,agg))::r,.tmp _::s,ds,hr,_=>by simp[EW]at hr
 | (j,none)::r,.tmp t::s,ds,hr,hg=>by
   obtain⟨h1,h2⟩:=hr
   simp only[mG]at hg
   obtain⟨d,hd,hg⟩:=aLa.1 hg
   obtain⟨ds',hds,rfl⟩:=aLb.1 hg
   obtain⟨vs,k1,k2⟩:=Qc h h2 hds
   refine⟨a.eval (.tmp t)::vs,?_,qa.cons (h.vals j t d h1 hd) k2⟩
   simp[List.mapM_cons,abP,k1,Act.eval]
 | (j,some (n,agg))::r,.cell p t::s,ds,hr,hg=>by
   obtain⟨h1,h2,h3,h4⟩:=hr
   simp only[mG]at hg
   obtain⟨x,hx,hg⟩:=aLa.1 hg
   obtain⟨d,hd,hg⟩:=aLa.1 hg
   obtain⟨ds',hds,rfl⟩:=aLb.1 hg
   obtain⟨vs,k1,k2⟩:=Qc h h4 hds
   obtain⟨ad,u,hv,hu,hrel⟩:=XQ (P:=P) h.heap (h.vals j p x h1 hx) hd h2 h3
   refine⟨u::vs,?_,qa.cons hrel k2⟩
   simp only[Act.eval]at hv
   have hl:(abP a.tmps (.cell p t)).run P w= .ok u w:=by
    simp only[abP,hv,asAddr]
    simpa using hu
   simp[List.mapM_cons,hl,k1]
theorem Kz{fu:Func}{tmps:Array Value}{w:World}{vs:List Value}(h:(fu.results.toList.mapM (abP tmps)).run P w= .ok vs w):(results fu tmps).run P w= .ok (abN vs) w:=by
 have e:results fu tmps=(fu.results.mapM (abP tmps)) >>= fun vs=>pure (if h:vs.size=1 then vs[0]else .tuple vs):=by
  unfold results
  congr 1
 rw[e,Array.mapM_eq_mapM_toList]
 simp only[Sem.run_bind,Sem.run_map,h]
 unfold abN
 rcases vs with _ | ⟨v,_ | ⟨u,r⟩⟩<;>simp
def sE(P:Program)(j:Nat)(k:List Nat):Prop:=
 ∀args H r H',GM k args H=some (r,H')→∀F g w vargs,qa F g (shp H) vargs args→az F g H w→
  ∀K,abM F g H w r H' K→Calls P j vargs.toArray w fun e w'=>∃v,e= .returned v∧K v w'
theorem XR{fs:Nat→Option Fn}(ht:yY P)(hf:∀f j fn,Names.ρ f=some j→fs f=some fn→aiD P j fn)(hp:∀f j fn,Names.ρ f=some j→fs f=some fn→fn.prim≠[]→sE P j fn.prim):∀n,od P (eO fs n):=by
 intro n
 induction n with
 | zero=>intro raw f args H r H' h;simp[eO]at h
 | succ n ih=>
   intro raw f args H r H' h j hj
   simp only[eO]at h
   obtain⟨fn,hfn,h⟩:=aLa.1 h
   split at h
   · rename_i hpr
     exact hp f j fn hj hfn hpr args H r H' h
   split at h
   · rename_i hna
     obtain⟨p,hp,h⟩:=aLa.1 h
     have hne:∀id,p.1≠ .exit id:=by intro id he;rw[he]at h;simp at h
     have h':(mG p.2 fn.res).bind (finish H.length raw p.2.H)=some (r,H'):=by
      cases hp1:p.1 with
      | exit id=>exact(hne id hp1).elim
      | normal=>rw[hp1]at h;exact h
      | ret=>rw[hp1]at h;exact h
     clear h
     obtain⟨ds,hds,hfin⟩:=aLa.1 h'
     intro F g w vargs hrel hH K hK
     obtain⟨fu,c,k1,k2,k3,k4,k5⟩:=(hf f j fn hj hfn).ok
     have hlen:vargs.length=args.length:=hrel.1
     refine callsIn_wide.1 (callsIn_of_wp_marks (n:=0) k1 k2 trivial (wpIn_wide.2 ?_))
     refine afa (bs:=w.heap.size) ht ih fn.body c k3 _ p hp F g _ w _ ⟨hH,?_,Marks.nil (aLs _),?_⟩ ?_
     · simp;omega
     · intro s t d hs hd
       simp only[xj,aLn,hs,aLw,Option.some.injEq]at hd
       subst hd
       simp only[aLl]
       cases ha:args[t]? with
       | none=>exact .und _
       | some d=>
         obtain⟨v,hv⟩:=ah hlen.symm ha
         have:=hrel.2 t v d hv ha
         have ev:(Act.mk (vargs.toArray++Array.replicate (fu.ntmps-vargs.toArray.size) undef) []).eval (.tmp t)=v:=by
          have hlt:t<vargs.length:=(aLe.1 hv).1
          simp only[Act.eval,Array.getD_eq_getD_getElem?]
          rw[Array.getElem?_append_left (by simpa using hlt)]
          simp[hv]
         rw[ev];exact this
     · intro a' w' F' g' hs hE hA
       have fin:LeavesInM Fence.wide 0 P fu a'.tmps (fun e w'=>∃v,e= .returned v∧K v w') a'.defers .returning w':=by
        obtain⟨_,l,e1,e2,e3⟩:=hs.defers
        rw[e1]
        refine C0 l w' e2 e3 hs.heap hE fun w2 hH2 hE2=>?_
        obtain⟨vs,j1,j2⟩:=Qc (Bu.mk (bs:=0) (a:={ tmps:=a'.tmps,defers:=[]}) hH2 hs.size (Marks.nil (Nat.zero_le _)) hs.vals) k4 hds
        obtain⟨F2,g2,l1,l2,l3,l4⟩:=PO hH2 j2 hA hfin
        exact⟨abN vs,Kz j1,abN vs,rfl,hK _ _ F2 g2 l1 l2 (hE2.trans l3) l4⟩
       cases hp1:p.1 with
       | exit id=>exact(hne id hp1).elim
       | normal=>exact fin
       | ret=>exact fin
   · cases h
end
end Go.Ev
namespace Go.Ev
open Go
variable [Names]
def oW(t:Nat):List (Option Nat)→Nat→Bool
 | [],_=>false
 | d::_,0=>d==some t
 | d::r,k+1=>(d != some t)&&oW t r k
def Bv(t:Nat):List (Option Nat)→Bool
 | []=>true
 | d::r=>(d != some t)&&Bv t r
theorem oX{t:Nat}:∀ {l:List (Option Nat)} {k:Nat},oW t l k=true→l[k]?=some (some t)∧∀(j:Nat),j<k→l[j]?≠some (some t)
 | [],k,h=>by simp[oW]at h
 | d::r,0,h=>by simp[oW]at h;simp[h]
 | d::r,k+1,h=>by
   simp only[oW,aLr,bne_iff_ne]at h
   obtain⟨h1,h2⟩:=oX h.2
   refine⟨by simpa using h1,fun j hj=>?_⟩
   cases j with
   | zero=>simpa using h.1
   | succ j=>simpa using h2 j (by omega)
theorem Av{t:Nat}:∀ {l:List (Option Nat)},Bv t l=true→∀(j:Nat),l[j]?≠some (some t)
 | [],_,j=>by simp
 | d::r,h,j=>by
   simp only[Bv,aLr,bne_iff_ne]at h
   cases j with
   | zero=>simpa using h.1
   | succ j=>simpa using Av h.2 j
def cxG(vars:List Nat)(prev:List (Option Nat))(okL:Nat→Nat→Bool)(okV:Nat→Bool):X→Operand→Bool
 | .l k,y=>(match y with | .tmp t=>oW t prev k&&okL k t | _=>false)
 | .v s,y=>(match y with | .tmp t=>(vars[s]?==some t)&&Bv t prev&&okV t | _=>false)
 | .c d,y=>(match y with
   | .const v=>As v d
   | .func f=>(match d with | .fn g []=>Names.ρ g==some f | _=>false)
   | _=>false)
 | .i n,y=>(match y with | .const v=>(match v with | .int .i64 m=>decide (m=n) | _=>false) | _=>false)
 | .b x,y=>(match y with | .const v=>(match v with | .bool z=>z==x | _=>false) | _=>false)
def Mf(ops:Array Oper)(prev:List (Option Nat))(okL:Nat→Nat→Bool):Option (Nat×Bool)→Option (Nat×Bool)→Bool
 | none,none=>true
 | some (k,b),some (gi,b')=>(b'==b)&&(match (ops[gi]?).bind (·.dst)with | some t=>oW t prev k&&okL k t | none=>false)
 | _,_=>false
def Mg(vars:List Nat)(nt:Nat)(d:Option Nat):Option Nat→Bool
 | none=>d.isNone
 | some t=>decide (t<nt)&&(match d with | some s=>vars[s]?==some t | none=> !vars.contains t)
def XT(P:Program)(vars:List Nat)(nt:Nat)(ops:Array Oper)(prev:List (Option Nat))(okL:Nat→Nat→Bool)(okV:Nat→Bool)(r:R)(o:Oper):Bool:=
 XK P (cxG vars prev okL okV) r.o o.op&&Mg vars nt r.d o.dst&&Mf ops prev okL r.g o.guard
def Bw(P:Program)(vars:List Nat)(nt:Nat)(ops:Array Oper)(okL:Nat→Nat→Nat→Bool)(okV:Nat→Nat→Bool):Nat→List (Option Nat)→List R→List Oper→Bool
 | _,_,[],[]=>true
 | p,prev,r::rs,o::os=>XT P vars nt ops prev (okL p) (okV p) r o&&Bw P vars nt ops okL okV (p+1) (o.dst::prev) rs os
 | _,_,_,_=>false
def qw(os:List Oper)(p:Nat):List (Option Nat):=((os.take p).map (·.dst)).reverse
theorem NQ{os:List Oper}{p:Nat}{o:Oper}(h:os[p]?=some o):qw os (p+1)=o.dst::qw os p:=by
 unfold qw
 have hlt:p<os.length:=(aLe.1 h).1
 rw[List.take_succ_eq_append_getElem hlt]
 have:os[p]=o:=(aLe.1 h).2
 simp[this]
theorem mJ{os:List Oper}{p k:Nat}{d:Option Nat}(hp:p≤os.length):(qw os p)[k]?=some d↔k<p∧(os[p-1-k]?).map (·.dst)=some d:=by
 unfold qw
 by_cases hk:k<p
 · rw[List.getElem?_reverse (by simp;omega)]
   simp only[List.length_map,List.length_take,aLn,aLo]
   rw[Nat.min_eq_left hp,if_pos (by omega)]
   simp[hk]
 · rw[aLm (by simp;omega)]
   simp[hk]
theorem F7{P:Program}{vars:List Nat}{nt:Nat}{ops:Array Oper}{okL:Nat→Nat→Nat→Bool}{okV:Nat→Nat→Bool}{all:List Oper}:
 ∀ {rs:List R} {os:List Oper} {p:Nat},all.drop p=os→p≤all.length→Bw P vars nt ops okL okV p (qw all p) rs os=true→
  rs.length=os.length∧∀i r,rs[i]?=some r→∃o,os[i]?=some o∧XT P vars nt ops (qw all (p+i)) (okL (p+i)) (okV (p+i)) r o=true
 | [],[],p,_,_,_=>⟨rfl,fun i r h=>by simp at h⟩
 | [],_::_,p,_,_,h=>by simp[Bw]at h
 | _::_,[],p,_,_,h=>by simp[Bw]at h
 | r::rs,o::os,p,hd,hp,h=>by
   simp only[Bw,aLr]at h
   have hlt:p<all.length:=by
    rcases Nat.lt_or_ge p all.length with h1 | h1
    · exact h1
    · rw[List.drop_eq_nil_of_le h1]at hd;cases hd
   have ho:all[p]?=some o:=by
    have:=congrArg (fun l:List Oper=>l[0]?) hd
    simpa using this
   have hd':all.drop (p+1)=os:=by
    have:=congrArg List.tail hd
    simpa using this
   have h2:=h.2
   rw[← NQ ho]at h2
   obtain⟨k1,k2⟩:=F7 hd' (by omega) h2
   refine⟨by simp[k1],fun i r' hr=>?_⟩
   cases i with
   | zero=>simp at hr;subst hr;exact⟨o,rfl,by simpa using h.1⟩
   | succ i=>
     simp at hr
     obtain⟨o',ho',hc⟩:=k2 i r' hr
     exact⟨o',by simpa using ho',by rw[show p+(i+1)=p+1+i by omega];exact hc⟩
section
variable {P : Program} {vars : List Nat} {nt : Nat}
theorem afb{I:ik}{os:List Oper}{ops:Array Oper}{okL:Nat→Nat→Nat→Bool}{okV:Nat→Nat→Bool}{rs:List R}
 (hat:∀p,I.at_ p=os[p]?) (hcx:∀p,I.cx p=cxG vars (qw os p) (okL p) (okV p))
 (hokL:∀p k t,p<os.length→okL p k t=true→oW t (qw os p) k=true→I.Reads p (p-1-k) t)
 (h:Bw P vars nt ops okL okV 0 [] rs os=true):
 rs.length=os.length∧∀p r,rs[p]?=some r→∃o,I.at_ p=some o∧XK P (I.cx p) r.o o.op=true∧(∀s,r.d=some s→∃t,o.dst=some t∧vars[s]?=some t)∧
 (∀t,o.dst=some t→t<nt∧(r.d=none→t∉vars))∧I.Kt ops p r.g o.guard:=by
 obtain⟨h1,h2⟩:=F7 (all:=os) (p:=0) (by simp) (Nat.zero_le _) h
 refine⟨h1,fun p r hr=>?_⟩
 obtain⟨o,ho,hc⟩:=h2 p r hr
 have hlt:p<os.length:=(aLe.1 ho).1
 rw[Nat.zero_add]at hc
 simp only[XT,aLr]at hc
 obtain⟨⟨c1,c2⟩,c3⟩:=hc
 refine⟨o,by rw[hat];exact ho,by rw[hcx];exact c1,fun s hs=>?_,fun t ht=>?_,?_⟩
 · rw[hs]at c2
   cases hd:o.dst with
   | none=>rw[hd]at c2;simp[Mg]at c2
   | some t=>rw[hd]at c2;simp[Mg]at c2;exact⟨t,rfl,c2.2⟩
 · rw[ht]at c2
   simp only[Mg,aLr,decide_eq_true_eq]at c2
   refine⟨c2.1,fun hn=>?_⟩
   rw[hn]at c2
   simpa using c2.2
 · generalize hg:r.g=g1 at c3
   generalize hg':o.guard=g2 at c3
   rcases g1 with _ | ⟨k,b⟩<;>rcases g2 with _ | ⟨gi,b'⟩<;>simp only[Mf,aLt]at c3
   · trivial
   · simp only[aLr,beq_iff_eq]at c3
     obtain⟨rfl,c3⟩:=c3
     split at c3
     · rename_i t hgt
       simp only[aLr]at c3
       refine⟨rfl,?_,t,hgt,hokL p k t hlt c3.2 c3.1⟩
       have:=(mJ (Nat.le_of_lt hlt)).1 (oX c3.1).1
       exact this.1
     · cases c3
theorem afc{I:ik}{os:List Oper}{okL:Nat→Nat→Nat→Bool}{okV:Nat→Nat→Bool}
 (hcx:∀p,I.cx p=cxG vars (qw os p) (okL p) (okV p))
 (hokL:∀p k t,p<os.length→okL p k t=true→oW t (qw os p) k=true→I.Reads p (p-1-k) t)
 (hokV:∀p t,p<os.length→okV p t=true→Bv t (qw os p)=true→I.PZ p t) {p:Nat} (hp:p<os.length) (x:X) (y:Operand) (h:I.cx p x y=true):I.CX vars p x y:=by
 rw[hcx]at h
 cases x with
 | v s=>
   simp only[cxG]at h
   split at h
   · simp only[aLr,beq_iff_eq]at h
     exact⟨h.1.1,hokV p _ hp h.2 h.1.2⟩
   · cases h
 | l k=>
   simp only[cxG]at h
   split at h
   · simp only[aLr]at h
     exact⟨((mJ (Nat.le_of_lt hp)).1 (oX h.1).1).1,hokL p _ _ hp h.2 h.1⟩
   · cases h
 | c d=>
   simp only[cxG]at h
   split at h
   · exact h
   · split at h
     · exact⟨_,rfl,by simpa using h⟩
     · cases h
   · cases h
 | i n=>
   simp only[cxG]at h
   split at h
   · split at h
     · simp at h;subst h;rfl
     · cases h
   · cases h
 | b z=>
   simp only[cxG]at h
   split at h
   · split at h
     · simp at h;subst h;rfl
     · cases h
   · cases h
def oY(vars:List Nat)(os:List Oper):ik where
 at_ p:=os[p]?
 prec q p:=decide (q<p)&&decide (p<os.length)
 kind p:=if p<os.length then .eff else .pure
 nA:=0
 cx p:=if p<os.length then cxG vars (qw os p) (fun _ _=>true) (fun _=>true)else fun _ _=>false
theorem KA{os:List Oper}{p k t:Nat}(hp:p<os.length)(h:oW t (qw os p) k=true):(oY vars os).Reads p (p-1-k) t:=by
 obtain⟨h1,h2⟩:=oX h
 obtain⟨h3,h4⟩:=(mJ (Nat.le_of_lt hp)).1 h1
 refine⟨by omega,by simp[oY];omega,?_,fun q' hq' hne hnp=>?_⟩
 · simp only[ik.Wr,oY]
   cases hx:os[p-1-k]? with
   | none=>rw[hx]at h4;simp at h4
   | some o=>rw[hx]at h4;simpa using h4
 · simp only[ik.Wr,oY]at hq'
   obtain⟨o,ho,hd⟩:=aLa.1 hq'
   have hlt:q'<os.length:=(aLe.1 ho).1
   rcases Nat.lt_trichotomy q' p with hl | hl | hl
   · left
     rcases Nat.lt_or_ge q' (p-1-k)with h5 | h5
     · exact h5
     · exfalso
       refine h2 (p-1-q') (by omega) ((mJ (Nat.le_of_lt hp)).2 ⟨by omega,?_⟩)
       rw[show p-1-(p-1-q')=q' by omega,ho]
       simp[hd]
   · exact(hnp hl).elim
   · right;exact⟨hl,by simp[oY];omega⟩
theorem KB{os:List Oper}{p t:Nat}(hp:p<os.length)(h:Bv t (qw os p)=true):(oY vars os).PZ p t:=by
 intro q' hq' hnp
 simp only[ik.Wr,oY]at hq'
 obtain⟨o,ho,hd⟩:=aLa.1 hq'
 have hlt:q'<os.length:=(aLe.1 ho).1
 rcases Nat.lt_trichotomy q' p with hl | hl | hl
 · exfalso
   refine Av h (p-1-q') ((mJ (Nat.le_of_lt hp)).2 ⟨by omega,?_⟩)
   rw[show p-1-(p-1-q')=q' by omega,ho]
   simp[hd]
 · exact(hnp hl).elim
 · exact⟨hl,by simp[oY];omega⟩
def KC(P:Program)(vars:List Nat)(nt:Nat)(ops:Array Oper)(rs:List R)(ps:List (Nat×Nat)):Bool:=
 ps.isEmpty&&Bw P vars nt ops (fun _ _ _=>true) (fun _ _=>true) 0 [] rs ops.toList
theorem XU(hv:vars.Nodup){ops:Array Oper}{rs:List R}{ps:List (Nat×Nat)}(h:KC P vars nt ops rs ps=true):
 ux (oY vars ops.toList) P vars nt ops false rs ps:=by
 simp only[KC,aLr,List.isEmpty_iff]at h
 obtain⟨rfl,h⟩:=h
 generalize hos:ops.toList=os at h ⊢
 have hI:∀p,(oY vars os).at_ p=os[p]?:=fun _=>rfl
 -- the check as it is,for positions of the region
 let J:ik:={ oY vars os with cx:=fun p=>cxG vars (qw os p) (fun _ _=>true) (fun _=>true)}
 have hJL:∀p k t,p<os.length→true=true→oW t (qw os p) k=true→J.Reads p (p-1-k) t:=fun p k t hp _ hf=>KA (vars:=vars) hp hf
 have hJV:∀p t,p<os.length→true=true→Bv t (qw os p)=true→J.PZ p t:=fun p t hp _ hf=>KB (vars:=vars) hp hf
 obtain⟨hlen,hop⟩:=afb (I:=J) (okL:=fun _ _ _=>true) (okV:=fun _ _=>true) (fun _=>rfl) (fun _=>rfl) hJL h
 have hsz:ops.size=os.length:=by rw[← hos];simp
 refine⟨⟨?_,?_,?_,?_,?_,?_,?_,?_,?_,?_,?_,?_,hv⟩,by rw[hsz,hlen],by simp,fun _ p hp=>?_,fun hf=>by cases hf⟩
 · intro p r hr
   obtain⟨o,k1,k2,k3,k4,k5⟩:=hop p r hr
   have hp:p<os.length:=by rw[← hlen];exact(aLe.1 hr).1
   exact⟨o,k1,by simp only[oY,if_pos hp];exact k2,k3,k4,k5⟩
 · intro p hp;simp only[oY];exact aLm (by omega)
 · intro p x y hc
   by_cases hp:p<os.length
   · simp only[oY,if_pos hp]at hc
     exact afc (I:=J) (os:=os) (okL:=fun _ _ _=>true) (okV:=fun _ _=>true) (fun _=>rfl) hJL hJV hp x y hc
   · simp[oY,if_neg hp]at hc
 · intro q q' t hq hq' hlt
   simp only[ik.Wr,oY]at hq'
   obtain⟨o,ho,hd⟩:=aLa.1 hq'
   have:q'<os.length:=(aLe.1 ho).1
   simp[oY];omega
 · intro p q hpq;simp[oY]at hpq;exact hpq.1
 · intro p q hp hq hlt
   have:q<os.length:=by
    simp only[oY]at hq;split at hq
    · assumption
    · cases hq
   simp[oY];omega
 · intro p hp
   simp only[oY]at hp;split at hp
   · exact⟨Nat.zero_le _,by omega⟩
   · cases hp
 · intro p r hr hk
   have hp:p<os.length:=by rw[← hlen];exact(aLe.1 hr).1
   simp[oY,if_pos hp]at hk
 · intro p r hr hk
   simp only[oY]at hk;split at hk<;>cases hk
 · intro p hk
   simp only[oY]at hk;split at hk<;>cases hk
 · intro p r hr hk
   simp only[oY]at hk;split at hk<;>cases hk
 · simp[oY]
 · simp only[oY];rw[← hos];simp
end
end Go.Ev
namespace Go.Ev
open Go
variable [Names]
def afd(o:Oper):Bool:=match o.op with
 | .alloc _=>true
 | _=>false
def Aw(acc:List Nat):List Edge→Nat
 | []=>0
 | e::r=>if Region.binds .any e then(1 <<< e.on) ||| acc.getD e.on 0 ||| Aw acc r else Aw acc r
def y7:List Oper→List Nat→List Nat
 | [],acc=>acc
 | o::r,acc=>y7 r (acc++[Aw acc o.after.toList])
theorem IV{acc:List Nat}{j:Nat}:∀ {es:List Edge},(Aw acc es).testBit j=true↔∃e∈es,Region.binds .any e=true∧(e.on=j∨(acc.getD e.on 0).testBit j=true)
 | []=>by simp[Aw]
 | e::r=>by
   have ih:=IV (acc:=acc) (j:=j) (es:=r)
   unfold Aw
   split
   · rename_i hb
     rw[Nat.testBit_or,Nat.testBit_or,Bool.or_eq_true,Bool.or_eq_true,ih,Nat.one_shiftLeft,Nat.testBit_two_pow]
     simp[hb]
   · rename_i hb
     rw[ih];simp[hb]
theorem F8:∀ {ops:List Oper} {acc:List Nat},(y7 ops acc).take acc.length=acc∧(y7 ops acc).length=acc.length+ops.length
 | [],acc=>by simp[y7]
 | o::r,acc=>by
   obtain⟨h1,h2⟩:=F8 (ops:=r) (acc:=acc++[Aw acc o.after.toList])
   unfold y7
   refine⟨?_,by rw[h2];simp;omega⟩
   have:=congrArg (List.take acc.length) h1
   rw[List.take_take]at this
   simpa using this
theorem IW:∀ {ops:List Oper} {acc:List Nat} {i:Nat} {o:Oper},ops[i]?=some o→
 (y7 ops acc).getD (acc.length+i) 0=Aw ((y7 ops acc).take (acc.length+i)) o.after.toList
 | [],acc,i,o,h=>by simp at h
 | o'::r,acc,0,o,h=>by
   simp at h;subst h
   unfold y7
   have h1:=(F8 (ops:=r) (acc:=acc++[Aw acc o'.after.toList])).1
   rw[Nat.add_zero]
   have h2:(y7 r (acc++[Aw acc o'.after.toList])).take acc.length=acc:=by
    have:=congrArg (List.take acc.length) h1
    rw[List.take_take]at this
    simpa using this
   rw[h2]
   have h3:(y7 r (acc++[Aw acc o'.after.toList]))[acc.length]?=some (Aw acc o'.after.toList):=by
    have:=congrArg (fun l:List Nat=>l[acc.length]?) h1
    rw[aLo]at this
    simpa using this
   rw[aLl,h3];rfl
 | o'::r,acc,i+1,o,h=>by
   simp at h
   have ih:=IW (ops:=r) (acc:=acc++[Aw acc o'.after.toList]) h
   unfold y7
   simp only[aLv,List.length_singleton]at ih
   rw[show acc.length+(i+1)=acc.length+1+i by omega]
   exact ih
def G8:Nat→List Oper→Bool
 | _,[]=>true
 | i,o::r=>o.after.toList.all (fun e=> !Region.binds .any e||decide (e.on<i))&&G8 (i+1) r
theorem Dn:∀ {ops:List Oper} {k:Nat},G8 k ops=true→∀(i:Nat) o e,ops[i]?=some o→e∈o.after→Region.binds .any e=true→e.on<k+i
 | [],_,_,i,o,e,h,_,_=>by simp at h
 | o'::r,k,hc,i,o,e,h,he,hb=>by
   simp only[G8,aLr]at hc
   cases i with
   | zero=>
     simp at h;subst h
     have:=aLx.1 hc.1 e (Array.mem_toList_iff.2 he)
     simpa [hb]using this
   | succ i=>
     simp at h
     have:=Dn hc.2 i o e h he hb
     omega
structure Drw where
 ops:List Oper
 rs:List R
 ps:List (Nat×Nat)
 os:List Oper
 ord:List Nat
 pm:List Nat
 dl:List (Option Nat)
 nA:Nat
def Drw.prec(Z:Drw)(q p:Nat):Bool:=decide (q<Z.ord.length)&&(Z.pm.getD p 0).testBit (Z.ord.getD q 0)
def TO:O→Bool
 | .al _ _ | .mkn _ _ _=>true
 | _=>false
def XV:O→Bool
 | .mkn _ _ _=>true
 | _=>false
theorem TP{o:O}(h:TO o=true):(∃zero live,o= .al zero live)∨∃len zero sz,o= .mkn len zero sz:=by
 cases o<;>simp only[TO,aLt]at h
 · exact .inr ⟨_,_,_,rfl⟩
 · exact .inl ⟨_,_,rfl⟩
def Qd:List R→Nat→Nat→Nat
 | [],_,a=>a
 | r::rs,p,a=>Qd rs (p+1) (if XV r.o then p+1 else a)
def Drw.kind(Z:Drw)(p:Nat):Kind:=match Z.rs[p]? with
 | some r=>if TO r.o&&decide (p<Z.nA)then .alloc else if Mb r.o then .pure else if F3 r.o&&(!abO r.o||Z.ps.any (fun x=>x.1==p))then .load else .eff
 | none=> .pure
def Drw.NR(Z:Drw)(p:Nat):Bool:=match Z.kind p with
 | .eff=>true
 | _=>false
def Drw.oh(Z:Drw)(p t:Nat):Bool:=(List.range Z.ord.length).all fun q=>decide (q≤p)||(Z.dl.getD q none != some t)||Z.prec p q
def Drw.XW(Z:Drw):List Nat:=(List.range Z.ord.length).filter Z.NR
def Drw.canRun(Z:Drw)(p m:Nat):Bool:=Z.XW.all fun e=>if m≤e then !Z.prec e p else !Z.prec p e
def Drw.Qe(Z:Drw)(p:Nat):Bool:=match Z.kind p with
 | .alloc=>(match Z.rs[p]? with
   | some r=>r.g.isNone&&(Z.nA::Z.XW.map (· +1)).all fun m=> !Z.canRun p m||(!XV r.o&&Z.ps.contains (p,m))||m==Z.nA
   | none=>false)
 | .load=>(Z.nA::Z.XW.map (· +1)).all fun m=> !Z.canRun p m||Z.ps.contains (p,m)||(decide (Z.nA≤p)&&Z.XW.all fun e=>decide (e<m)==decide (e<p))
 | .eff=>decide (Z.nA≤p)
 | _=>true
def Drw.Dp(Z:Drw)(q p:Nat):Bool:=
 if q<p then
  Z.prec q p||((Z.dl.getD q none==none||Z.dl.getD q none != Z.dl.getD p none)&& !(Z.NR q&&Z.NR p))
 else !Z.prec q p
def KD(ops:List Oper)(rs:List R)(ps:List (Nat×Nat)):Drw:=
 let idx:=List.range ops.length
 let al:=idx.filter fun i=>afd (ops.getD i default)
 let ord:=al++idx.filter fun i=> !afd (ops.getD i default)
 let M:=y7 ops []
 let os:=ord.map fun i=>ops.getD i default
 { ops,rs,ps,os,ord,pm:=ord.map fun i=>M.getD i 0,dl:=os.map (·.dst),nA:=Qd rs 0 al.length}
def Drw.chk(Z:Drw)(P:Program)(vars:List Nat)(nt:Nat)(ops:Array Oper):Bool:=
 P.follows .mixedOrders&&G8 0 Z.ops&&decide (Z.nA≤Z.ord.length)&&Z.ps.all (fun x=>decide (x.2≤Z.ord.length))&&
 (List.range Z.ord.length).all (fun p=>Z.Qe p&&(List.range Z.ord.length).all fun q=>Z.Dp q p)&&
 Bw P vars nt ops (fun p k t=>Z.prec (p-1-k) p&&Z.oh p t) (fun p t=>Z.oh p t) 0 [] Z.rs Z.os
def Drw.info(Z:Drw)(vars:List Nat):ik where
 at_ p:=Z.os[p]?
 prec:=Z.prec
 kind p:=if p<Z.ord.length then Z.kind p else .pure
 nA:=Z.nA
 cx p:=if p<Z.ord.length then cxG vars (qw Z.os p) (fun k t=>Z.prec (p-1-k) p&&Z.oh p t) (fun t=>Z.oh p t)else fun _ _=>false
section
variable {P : Program} {vars : List Nat} {nt : Nat}
theorem afe(hv:vars.Nodup){ops:Array Oper}{rs:List R}{ps:List (Nat×Nat)}(h:(KD ops.toList rs ps).chk P vars nt ops=true):
 ∃I:ik,ux I P vars nt ops true rs ps∧∀p,I.at_ p=(KD ops.toList rs ps).os[p]?:=by
 generalize hZ:KD ops.toList rs ps=Z at h
 have e1:Z.ops=ops.toList:=by rw[← hZ];rfl
 have e2:Z.rs=rs:=by rw[← hZ];rfl
 have e3:Z.ps=ps:=by rw[← hZ];rfl
 have e4:Z.os=Z.ord.map fun i=>Z.ops.getD i default:=by rw[← hZ];rfl
 have e5:Z.pm=Z.ord.map fun i=>(y7 Z.ops []).getD i 0:=by rw[← hZ];rfl
 have e6:Z.dl=Z.os.map (·.dst):=by rw[← hZ];rfl
 have e7:Z.ord=((List.range Z.ops.length).filter fun i=>afd (Z.ops.getD i default))++(List.range Z.ops.length).filter fun i=> !afd (Z.ops.getD i default):=by rw[← hZ];rfl
 clear hZ
 -- the positions
 have hmem:∀i,i∈Z.ord↔i<Z.ops.length:=by
  intro i;rw[e7];simp only[List.mem_append,List.mem_filter,aLu]
  cases afd (Z.ops.getD i default)<;>simp
 have hnd:Z.ord.Nodup:=by
  rw[e7]
  refine List.nodup_append.2 ⟨List.nodup_range.filter _,List.nodup_range.filter _,fun a ha b hb hab=>?_⟩
  subst hab
  simp only[List.mem_filter]at ha hb
  rw[ha.2]at hb;simp at hb
 have hoslen:Z.os.length=Z.ord.length:=by rw[e4];simp
 generalize hn:Z.ord.length=n at*
 have hordget:∀p,p<n→Z.ord[p]?=some (Z.ord.getD p 0):=by
  intro p hp;rw[aLl,aLc (by omega)];rfl
 have hordlt:∀p,p<n→Z.ord.getD p 0<Z.ops.length:=fun p hp=>(hmem _).1 (aLd (hordget p hp))
 have hat:∀p,p<n→Z.os[p]?=Z.ops[Z.ord.getD p 0]?:=by
  intro p hp
  rw[e4,aLn,hordget p hp,aLw,aLl (l:=Z.ops),aLc (hordlt p hp)];rfl
 -- the check,taken apart
 simp only[Drw.chk,aLr]at h
 obtain⟨⟨⟨⟨⟨c1,c2⟩,c3⟩,c4⟩,c5⟩,c6⟩:=h
 rw[hn]at c3 c4 c5
 have hnAle:Z.nA≤n:=by simpa using c3
 have hAt:∀p,p<n→Z.Qe p=true:=fun p hp=>by
  have:=aLx.1 c5 p (aLu.2 hp)
  simp only[aLr]at this;exact this.1
 have hPair:∀p q,p<n→q<n→Z.Dp q p=true:=fun p q hp hq=>by
  have:=aLx.1 c5 p (aLu.2 hp)
  simp only[aLr]at this
  exact aLx.1 this.2 q (aLu.2 hq)
 have hback:=Dn c2
 have hprecn:∀q p,Z.prec q p=true→q<n∧p<n:=by
  intro q p hq
  simp only[Drw.prec,aLr,decide_eq_true_eq,hn]at hq
  refine⟨hq.1,?_⟩
  rcases Nat.lt_or_ge p n with hp | hp
  · exact hp
  · have:Z.pm.getD p 0=0:=by rw[aLl,aLm (by rw[e5];simp;omega)];rfl
    rw[this]at hq;simp at hq
 have hlt:∀q p,Z.prec q p=true→q<p:=by
  intro q p hq
  obtain⟨h1,h2⟩:=hprecn q p hq
  have:=hPair p q h2 h1
  unfold Drw.Dp at this
  split at this
  · assumption
  · simp[hq]at this
 have hstep:∀q p,Z.prec q p=true→∃o e,Z.ops[Z.ord.getD p 0]?=some o∧e∈o.after∧Region.binds .any e=true∧(e.on=Z.ord.getD q 0∨∃p',p'<n∧Z.ord.getD p' 0=e.on∧Z.prec q p'=true):=by
  intro q p hq
  obtain⟨h1,h2⟩:=hprecn q p hq
  have hq0:=hq
  simp only[Drw.prec,aLr,decide_eq_true_eq,hn]at hq
  have hpm:∀p',p'<n→Z.pm.getD p' 0=(y7 Z.ops []).getD (Z.ord.getD p' 0) 0:=fun p' hp'=>by
   rw[e5,aLl,aLn,hordget p' hp',aLw];rfl
  have ho:=aLc (hordlt p h2)
  have hm:=IW (acc:=[]) ho
  simp only[List.length_nil,Nat.zero_add]at hm
  rw[hpm p h2,hm,IV]at hq
  obtain⟨e,he,hb,hor⟩:=hq.2
  refine⟨_,e,ho,Array.mem_toList_iff.1 he,hb,?_⟩
  rcases hor with hor | hor
  · exact .inl hor
  · right
    have hon:=hback _ _ e ho (Array.mem_toList_iff.1 he) hb
    rw[Nat.zero_add]at hon
    have hlt2:e.on<Z.ops.length:=Nat.lt_trans hon (hordlt p h2)
    obtain⟨p',hp'⟩:=aLf.1 ((hmem e.on).2 hlt2)
    have hp'n:p'<n:=hn▸(aLe.1 hp').1
    have hop:Z.ord.getD p' 0=e.on:=by rw[aLl,hp'];rfl
    refine⟨p',hp'n,hop,?_⟩
    simp only[Drw.prec,aLr,decide_eq_true_eq,hn]
    refine⟨h1,?_⟩
    rw[hpm p' hp'n,hop]
    rw[aLl,aLo,if_pos hon]at hor
    rw[aLl];exact hor
 -- the ordering
 let J:ik:={ Z.info vars with cx:=fun p=>cxG vars (qw Z.os p) (fun k t=>Z.prec (p-1-k) p&&Z.oh p t) (fun t=>Z.oh p t)}
 have hWr:∀q t,(Z.os[q]?).bind (·.dst)=some t↔q<n∧Z.dl.getD q none=some t:=by
  intro q t
  rw[e6,aLl,aLn]
  rcases Nat.lt_or_ge q n with h1 | h1
  · rw[aLc (by omega)];simp[h1]
  · rw[aLm (by omega)];simp[Nat.not_lt.2 h1]
 have hlater:∀p t,Z.oh p t=true→∀q',(Z.os[q']?).bind (·.dst)=some t→p<q'→Z.prec p q'=true:=by
  intro p t hl q' hq' hlt'
  obtain⟨h1,h2⟩:=(hWr q' t).1 hq'
  unfold Drw.oh at hl;rw[hn]at hl
  have:=aLx.1 hl q' (aLu.2 h1)
  rw[h2]at this
  simp only[Bool.or_eq_true,decide_eq_true_eq,bne_self_eq_false,aLt,or_false]at this
  rcases this with this | this
  · omega
  · exact this
 have hJL:∀p k t,p<Z.os.length→(Z.prec (p-1-k) p&&Z.oh p t)=true→oW t (qw Z.os p) k=true→J.Reads p (p-1-k) t:=by
  intro p k t hp hok hf
  rw[aLr]at hok
  obtain⟨h1,h2⟩:=oX hf
  obtain⟨h3,h4⟩:=(mJ (Nat.le_of_lt hp)).1 h1
  refine⟨by omega,hok.1,?_,fun q' hq' hne hnp=>?_⟩
  · show(Z.os[p-1-k]?).bind (·.dst)=some t
    cases hx:Z.os[p-1-k]? with
    | none=>rw[hx]at h4;simp at h4
    | some o=>rw[hx]at h4;simpa using h4
  · rcases Nat.lt_trichotomy q' p with hl | hl | hl
    · left
      rcases Nat.lt_or_ge q' (p-1-k)with h5 | h5
      · exact h5
      · exfalso
        have hq2:(Z.os[q']?).bind (·.dst)=some t:=hq'
        obtain⟨o,ho,hd⟩:=aLa.1 hq2
        refine h2 (p-1-q') (by omega) ((mJ (Nat.le_of_lt hp)).2 ⟨by omega,?_⟩)
        rw[show p-1-(p-1-q')=q' by omega,ho]
        simp[hd]
    · exact(hnp hl).elim
    · exact .inr ⟨hl,hlater p t hok.2 q' hq' hl⟩
 have hJV:∀p t,p<Z.os.length→Z.oh p t=true→Bv t (qw Z.os p)=true→J.PZ p t:=by
  intro p t hp hok hf q' hq' hnp
  rcases Nat.lt_trichotomy q' p with hl | hl | hl
  · exfalso
    have hq2:(Z.os[q']?).bind (·.dst)=some t:=hq'
    obtain⟨o,ho,hd⟩:=aLa.1 hq2
    refine Av hf (p-1-q') ((mJ (Nat.le_of_lt hp)).2 ⟨by omega,?_⟩)
    rw[show p-1-(p-1-q')=q' by omega,ho]
    simp[hd]
  · exact(hnp hl).elim
  · exact⟨hl,hlater p t hok q' hq' hl⟩
 obtain⟨hlen,hop⟩:=afb (I:=J) (os:=Z.os) (okL:=fun p k t=>Z.prec (p-1-k) p&&Z.oh p t) (okV:=fun p t=>Z.oh p t) (fun _=>rfl) (fun _=>rfl) hJL c6
 rw[e2]at hlen
 have hlenn:rs.length=n:=by omega
 have hszn:ops.size=n:=by
  have h1:Z.ops.length=ops.size:=by rw[e1];simp
  have h2:n=Z.ops.length:=by
   rw[← hn]
   have h3:Z.ord.length=(List.range Z.ops.length).length:=by
    refine Nat.le_antisymm (hnd.length_le_of_subset fun i hi=>aLu.2 ((hmem i).1 hi)) ?_
    exact List.nodup_range.length_le_of_subset fun i hi=>(hmem i).2 (aLu.1 hi)
   simpa using h3
  omega
 have hkind:∀p,p<n→(Z.info vars).kind p=Z.kind p:=fun p hp=>by simp only[Drw.info,hn,if_pos hp]
 have heffn:∀p,(Z.info vars).kind p= .eff→p<n∧Z.kind p= .eff:=by
  intro p hp
  simp only[Drw.info,hn]at hp
  split at hp
  · exact⟨‹_›,hp⟩
  · cases hp
 have heffs:∀p,(Z.info vars).kind p= .eff↔p∈Z.XW:=by
  intro p
  unfold Drw.XW
  rw[hn,List.mem_filter,aLu]
  constructor
  · intro hp;obtain⟨h1,h2⟩:=heffn p hp;exact⟨h1,by simp[Drw.NR,h2]⟩
  · intro ⟨h1,h2⟩
    rw[hkind p h1]
    unfold Drw.NR at h2
    split at h2
    · assumption
    · cases h2
 have hcan:∀p m,(Z.info vars).F4 p m→Z.canRun p m=true:=by
  intro p m ⟨h1,h2⟩
  unfold Drw.canRun
  refine aLx.2 fun e he=>?_
  have hk:=(heffs e).2 he
  split
  · rename_i hme;have:=h1 e hk hme;simp only[Drw.info]at this;simp[this]
  · rename_i hme;have:=h2 e hk (by omega);simp only[Drw.info]at this;simp[this]
 have hstage:∀m,(Z.info vars).G7 m→m∈(Z.nA::Z.XW.map (· +1)):=by
  intro m hm
  rcases hm with hm | ⟨e,rfl,he⟩
  · rw[hm];exact List.mem_cons_self
  · exact List.mem_cons_of_mem _ (List.mem_map.2 ⟨e,(heffs e).1 he,rfl⟩)
 refine⟨Z.info vars,?_,fun _=>rfl⟩
 refine⟨⟨?_,?_,?_,?_,?_,?_,?_,?_,?_,?_,?_,?_,hv⟩,by omega,?_,(fun hf=>by cases hf),fun _=>⟨c1,fun p=>Z.ord.getD p 0,?_⟩⟩
 · intro p r hr
   obtain⟨o,k1,k2,k3,k4,k5⟩:=hop p r (by rw[e2];exact hr)
   have hp:p<n:=by rw[← hlenn];exact(aLe.1 hr).1
   exact⟨o,k1,by simp only[Drw.info,hn,if_pos hp];exact k2,k3,k4,k5⟩
 · intro p hp;simp only[Drw.info];exact aLm (by omega)
 · intro p x y hc
   by_cases hp:p<n
   · simp only[Drw.info,hn,if_pos hp]at hc
     exact afc (I:=J) (os:=Z.os) (okL:=fun p k t=>Z.prec (p-1-k) p&&Z.oh p t) (okV:=fun p t=>Z.oh p t) (fun _=>rfl) hJL hJV (by omega) x y hc
   · simp[Drw.info,hn,if_neg hp]at hc
 · intro q q' t hq hq' hlt'
   obtain⟨h1,h2⟩:=(hWr q t).1 hq
   obtain⟨h3,h4⟩:=(hWr q' t).1 hq'
   have:=hPair q' q h3 h1
   unfold Drw.Dp at this
   rw[if_pos hlt',h2,h4]at this
   show Z.prec q q'=true
   simpa using this
 · exact fun p q hpq=>hlt p q hpq
 · intro p q hp hq hlt'
   obtain⟨h1,h2⟩:=heffn p hp
   obtain⟨h3,h4⟩:=heffn q hq
   have:=hPair q p h3 h1
   unfold Drw.Dp at this
   rw[if_pos hlt']at this
   show Z.prec p q=true
   simpa [Drw.NR,h2,h4]using this
 · intro p hp
   obtain⟨h1,h2⟩:=heffn p hp
   refine⟨?_,by omega⟩
   have hc:=hAt p h1
   unfold Drw.Qe at hc
   rw[h2]at hc
   simpa [Drw.info]using hc
 · intro p r hr hk
   have hp:p<n:=by rw[← hlenn];exact(aLe.1 hr).1
   rw[hkind p hp]at hk
   unfold Drw.kind at hk
   rw[e2,hr]at hk
   simp only at hk
   split at hk
   · cases hk
   · split at hk
     · assumption
     · split at hk<;>cases hk
 · intro p r hr hk
   have hp:p<n:=by rw[← hlenn];exact(aLe.1 hr).1
   rw[hkind p hp]at hk
   have hc:=hAt p hp
   unfold Drw.Qe at hc
   rw[hk]at hc
   simp only at hc
   unfold Drw.kind at hk
   rw[e2,hr]at hk
   have hkl:F3 r.o=true∧(!abO r.o||Z.ps.any (fun x=>x.1==p))=true:=by
    simp only at hk
    split at hk
    · cases hk
    · split at hk
      · cases hk
      · split at hk
        · rename_i hh;rw[aLr]at hh;exact hh
        · cases hk
   refine⟨hkl.1,fun hb=>?_,fun m hm hcr=>?_⟩
   · have:=hkl.2
     simp only[hb,Bool.not_true,Bool.false_or,List.any_eq_true,beq_iff_eq]at this
     obtain⟨⟨a,m⟩,hx,hxa⟩:=this
     simp only at hxa
     subst hxa
     exact⟨m,by rw[← e3];exact hx⟩
   · have:=aLx.1 hc m (hstage m hm)
     simp only[hcan p m hcr,Bool.not_true,Bool.false_or,Bool.or_eq_true,List.contains_iff_mem]at this
     rcases this with this | this
     · exact .inl (by rw[← e3];exact this)
     · right
       rw[aLr]at this
       refine⟨by simpa [Drw.info]using this.1,fun e he=>?_⟩
       have:=aLx.1 this.2 e ((heffs e).1 he)
       simpa using this
 · intro p hk
   have hp:p<n:=by
    simp only[Drw.info,hn]at hk
    split at hk
    · assumption
    · cases hk
   rw[hkind p hp]at hk
   unfold Drw.kind at hk
   split at hk
   · split at hk
     · rename_i hh
       rw[aLr]at hh
       simpa [Drw.info]using hh.2
     · split at hk
       · cases hk
       · split at hk<;>cases hk
   · cases hk
 · intro p r hr hk
   have hpn:p<n:=by rw[← hlenn];exact(aLe.1 hr).1
   rw[hkind p hpn]at hk
   have hc:=hAt p hpn
   unfold Drw.Qe at hc
   rw[hk,e2,hr]at hc
   simp only[aLr,Option.isNone_iff_eq_none]at hc
   have hal:TO r.o=true:=by
    unfold Drw.kind at hk
    rw[e2,hr]at hk
    simp only at hk
    split at hk
    · rename_i hh;rw[aLr]at hh;exact hh.1
    · split at hk
      · cases hk
      · split at hk<;>cases hk
   have cov:∀m,(Z.info vars).G7 m→(Z.info vars).F4 p m→(XV r.o=false∧(p,m)∈ps)∨m=Z.nA:=fun m hm hcr=>by
    have:=aLx.1 hc.2 m (hstage m hm)
    simp only[hcan p m hcr,Bool.not_true,Bool.false_or,Bool.or_eq_true,aLr,Bool.not_eq_true',List.contains_iff_mem,beq_iff_eq]at this
    rcases this with this | this
    · exact .inl ⟨this.1,by rw[← e3];exact this.2⟩
    · exact .inr this
   refine⟨hc.1,?_⟩
   rcases TP hal with⟨z,l,e⟩ | ⟨l,z,s,e⟩
   · refine .inl ⟨⟨z,l,e⟩,fun m hm hcr=>?_⟩
     rcases cov m hm hcr with h | h
     · exact .inl h.2
     · exact .inr h
   · refine .inr ⟨⟨l,z,s,e⟩,fun m hm hcr=>?_⟩
     rcases cov m hm hcr with h | h
     · rw[e]at h;cases h.1
     · exact h
 · simp only[Drw.info];omega
 · intro q m hqm
   have:=aLx.1 c4 (q,m) (by rw[e3];exact hqm)
   simp at this;omega
 · rw[hlenn]
   refine⟨fun p hp=>?_,fun p hp=>?_,fun p q hp hq he=>?_,fun i hi=>?_,fun i o e ho he hb=>?_,fun q p hp hq=>?_,fun q p hq=>(hprecn q p hq).2⟩
   · have:=hordlt p hp;rw[e1]at this;simpa using this
   · show Z.os[p]?=_
     rw[hat p hp,e1];simp
   · have h1:=hordget p hp
     have h2:=hordget q hq
     rw[← show Z.ord.getD p 0=Z.ord.getD q 0 from he]at h2
     exact(List.getElem?_inj (i:=p) (by omega) hnd).1 (h1.trans h2.symm)
   · obtain⟨p,hp⟩:=aLf.1 ((hmem i).2 (by rw[e1];simpa using hi))
     exact⟨p,hn▸(aLe.1 hp).1,by show Z.ord.getD p 0=i;rw[aLl,hp];rfl⟩
   · have:=hback i o e (by rw[e1];simpa using ho) he hb
     omega
   · obtain⟨o,e,h1,h2,h3,h4⟩:=hstep q p hq
     exact⟨(hprecn q p hq).1,o,e,by rw[e1]at h1;simpa using h1,h2,h3,h4⟩
end
end Go.Ev
namespace Go.Ev
open Go
variable [Names]
def EX(P:Program)(vars:List Nat)(nt:Nat)(ops:Array Oper)(draw:Bool)(rs:List R)(ps:List (Nat×Nat)):Bool:=
 if draw then(KD ops.toList rs ps).chk P vars nt ops else KC P vars nt ops rs ps
def Dq(ops:Array Oper)(draw:Bool)(rs:List R)(ps:List (Nat×Nat))(k t:Nat):Bool:=
 let os:=if draw then(KD ops.toList rs ps).os else ops.toList
 decide (os.length=rs.length)&&oW t (os.map (·.dst)).reverse k
def yJ(P:Program)(vars:List Nat)(nt:Nat):C→Code→Bool
 | .skip,x=>(match x with | .skip=>true | _=>false)
 | .reg rs ps,x=>(match x with | .region _ ops draw=>EX P vars nt ops draw rs ps | _=>false)
 | .seq a b,x=>(match x with | .seq x y=>yJ P vars nt a x&&yJ P vars nt b y | _=>false)
 | .ite rs ps k a b,x=>(match x with
   | .seq (.region _ ops draw) (.cond (.tmp t) x y)=>EX P vars nt ops draw rs ps&&Dq ops draw rs ps k t&&yJ P vars nt a x&&yJ P vars nt b y
   | _=>false)
 | .its rs ps k a b c,x=>(match x with
   | .seq (.region _ ops draw) (.seq (.cond (.tmp t) x y) z)=>EX P vars nt ops draw rs ps&&Dq ops draw rs ps k t&&yJ P vars nt a x&&yJ P vars nt b y&&yJ P vars nt c z
   | _=>false)
 | .itk rs ps k a b c,x=>(match x with
   | .seq (.seq (.region _ ops draw) (.cond (.tmp t) x y)) z=>EX P vars nt ops draw rs ps&&Dq ops draw rs ps k t&&yJ P vars nt a x&&yJ P vars nt b y&&yJ P vars nt c z
   | _=>false)
 | .itv j a b,x=>(match x with | .cond (.tmp t) x y=>(vars[j]?==some t)&&yJ P vars nt a x&&yJ P vars nt b y | _=>false)
 | .blk id c,x=>(match x with | .block id' x=>decide (id=id')&&yJ P vars nt c x | _=>false)
 | .loop _ _ c,x=>(match x with | .loop x=>yJ P vars nt c x | _=>false)
 | .exit id,x=>(match x with | .exit id'=>decide (id=id') | _=>false)
 | .ret,x=>(match x with | .ret=>true | _=>false)
 | .fail,_=>true
 | .rng x p f r1 p1 r2 p2,y=>(match y with
   | .rangeFunc (.tmp t) ps (.region _ o1 d1) (.block _ (.region _ o2 d2))=>(match ps.toList with
     | [tp]=>(vars[x]?==some t)&&(vars[p]?==some tp)&&decide (tp<nt)&&Names.it f&&EX P vars nt o1 d1 r1 p1&&EX P vars nt o2 d2 r2 p2&&o1.toList.all m8&&o2.toList.all m8
     | _=>false)
   | _=>false)
 | .cnd v c,x=>(match x with | .cond (.const (.bool v')) x y=>(v==v')&&yJ P vars nt c (if v then x else y) | _=>false)
def y8(P:Program)(vars:List Nat):List (Nat×Option (Nat×Bool))→List ResultVar→Bool
 | [],[]=>true
 | (j,none)::r,x::s=>(match x with | .tmp t=>vars[j]?==some t | _=>false)&&y8 P vars r s
 | (j,some (n,agg))::r,x::s=>(match x with | .cell a t=>(vars[j]?==some a)&&decide (vd P t=some n)&&decide (Kc P t=some agg) | _=>false)&&y8 P vars r s
 | _,_=>false
def Mh:List Nat→Bool
 | []=>true
 | a::r=> !r.contains a&&Mh r
def av(P:Program)(fu:Func)(fn:Fn):Bool:=match fu.body with
 | some c=>Mh fn.vars&&yJ P fn.vars fu.ntmps fn.body c&&y8 P fn.vars fn.res fu.results.toList&&decide (fn.aq≤fu.ntmps)
 | none=>false
theorem IX:∀ {l:List Nat},Mh l=true→l.Nodup
 | [],_=>List.nodup_nil
 | a::r,h=>by
   simp only[Mh,aLr,Bool.not_eq_true',List.contains_eq_mem,decide_eq_false_iff_not]at h
   exact List.nodup_cons.2 ⟨h.1,IX h.2⟩
section
variable {P : Program} {vars : List Nat} {nt : Nat}
theorem CQ(hv:vars.Nodup){ops:Array Oper}{draw:Bool}{rs:List R}{ps:List (Nat×Nat)}(h:EX P vars nt ops draw rs ps=true):
 ∃I:ik,ux I P vars nt ops draw rs ps∧∀p,I.at_ p=(if draw then(KD ops.toList rs ps).os else ops.toList)[p]?:=by
 cases draw with
 | true=>
   obtain⟨I,hI,hat⟩:=afe hv (by simpa [EX]using h)
   exact⟨I,hI,hat⟩
 | false=>exact⟨_,XU hv (by simpa [EX]using h),fun p=>rfl⟩
theorem Ax(hv:vars.Nodup){ops:Array Oper}{draw:Bool}{rs:List R}{ps:List (Nat×Nat)}{k t:Nat}(h:EX P vars nt ops draw rs ps=true)(hc:Dq ops draw rs ps k t=true):
 Dm P vars nt ops draw rs ps k t:=by
 obtain⟨I,hI,hat⟩:=CQ hv h
 simp only[Dq,aLr,decide_eq_true_eq]at hc
 generalize (if draw then(KD ops.toList rs ps).os else ops.toList)=os at hat hc
 obtain⟨h1,h2⟩:=hc
 obtain⟨k1,k2⟩:=oX h2
 have hp:(os.map (·.dst)).reverse=qw os os.length:=by simp[qw]
 rw[hp]at k1 k2
 obtain⟨k3,k4⟩:=(mJ (aLs _)).1 k1
 refine⟨I,hI,?_,fun q' hq'=>?_⟩
 · rw[← h1]
   simp only[ik.Wr,hat]
   cases hx:os[os.length-1-k]? with
   | none=>rw[hx]at k4;simp at k4
   | some o=>rw[hx]at k4;simpa using k4
 · rw[← h1]
   simp only[ik.Wr,hat]at hq'
   obtain⟨o,ho,hd⟩:=aLa.1 hq'
   have hlt:q'<os.length:=(aLe.1 ho).1
   rcases Nat.lt_or_ge (os.length-1-k) q' with h5 | h5
   · exfalso
     refine k2 (os.length-1-q') (by omega) ((mJ (aLs _)).2 ⟨by omega,?_⟩)
     rw[show os.length-1-(os.length-1-q')=q' by omega,ho]
     simp[hd]
   · exact h5
theorem XX(hv:vars.Nodup):∀(c:C) (x:Code),yJ P vars nt c x=true→gQ P vars nt c x:=by
 intro c
 induction c with
 | skip=>intro x h;simp only[yJ]at h;split at h<;>first | trivial | cases h
 | reg rs ps=>
   intro x h;simp only[yJ]at h;split at h
   · obtain⟨I,hI,_⟩:=CQ hv h;exact⟨I,hI⟩
   · cases h
 | seq a b iha ihb=>
   intro x h;simp only[yJ]at h;split at h
   · rw[aLr]at h;exact⟨iha _ h.1,ihb _ h.2⟩
   · cases h
 | ite rs ps k a b iha ihb=>
   intro x h;simp only[yJ]at h;split at h
   · simp only[aLr]at h
     obtain⟨⟨⟨h1,h2⟩,h3⟩,h4⟩:=h
     exact⟨Ax hv h1 h2,iha _ h3,ihb _ h4⟩
   · cases h
 | its rs ps k a b c iha ihb ihc=>
   intro x h;simp only[yJ]at h;split at h
   · simp only[aLr]at h
     obtain⟨⟨⟨⟨h1,h2⟩,h3⟩,h4⟩,h5⟩:=h
     exact⟨Ax hv h1 h2,iha _ h3,ihb _ h4,ihc _ h5⟩
   · cases h
 | itk rs ps k a b c iha ihb ihc=>
   intro x h;simp only[yJ]at h;split at h
   · simp only[aLr]at h
     obtain⟨⟨⟨⟨h1,h2⟩,h3⟩,h4⟩,h5⟩:=h
     exact⟨Ax hv h1 h2,iha _ h3,ihb _ h4,ihc _ h5⟩
   · cases h
 | itv j a b iha ihb=>
   intro x h;simp only[yJ]at h;split at h
   · simp only[aLr,beq_iff_eq]at h
     exact⟨h.1.1,iha _ h.1.2,ihb _ h.2⟩
   · cases h
 | blk id c ih=>
   intro x h;simp only[yJ]at h;split at h
   · simp only[aLr,decide_eq_true_eq]at h
     exact⟨h.1,ih _ h.2⟩
   · cases h
 | loop gc dead c ih=>
   intro x h;simp only[yJ]at h;split at h
   · exact ih _ h
   · cases h
 | exit id=>
   intro x h;simp only[yJ]at h;split at h
   · rw[decide_eq_true_eq]at h;exact h
   · cases h
 | ret=>intro x h;simp only[yJ]at h;split at h<;>first | trivial | cases h
 | fail=>intro x h;cases x<;>trivial
 | cnd v c ih=>
   intro x h;simp only[yJ]at h;split at h
   · simp only[aLr,beq_iff_eq]at h
     exact⟨h.1,ih _ h.2⟩
   · cases h
 | rng x p f r1 p1 r2 p2=>
   intro y h;simp only[yJ]at h;split at h
   · split at h
     · rename_i tp e
       simp only[aLr,beq_iff_eq,decide_eq_true_eq]at h
       obtain⟨⟨⟨⟨⟨⟨⟨h1,h2⟩,h3⟩,h4⟩,h5⟩,h6⟩,h7⟩,h8⟩:=h
       obtain⟨I1,k1,_⟩:=CQ hv h5
       obtain⟨I2,k2,_⟩:=CQ hv h6
       have all:∀ {os:Array Oper},os.toList.all m8=true→∀(i:Nat) o,os[i]?=some o→m8 o=true:=fun h i o ho=>
        aLx.1 h o (aLd (i:=i) (by simpa using ho))
       exact⟨tp,Array.ext' e,h1,h2,h3,h4,hv,⟨I1,k1⟩,⟨I2,k2⟩,all h7,all h8⟩
     · cases h
   · cases h
theorem Dr:∀ {rs:List (Nat×Option (Nat×Bool))} {xs:List ResultVar},y8 P vars rs xs=true→EW P vars rs xs
 | [],[],_=>trivial
 | [],_::_,h=>by simp[y8]at h
 | (j,none)::r,[],h=>by simp[y8]at h
 | (j,some (n,agg))::r,[],h=>by simp[y8]at h
 | (j,none)::r,x::s,h=>by
   simp only[y8,aLr]at h
   obtain⟨h1,h2⟩:=h
   split at h1
   · exact⟨by simpa using h1,Dr h2⟩
   · cases h1
 | (j,some (n,agg))::r,x::s,h=>by
   simp only[y8,aLr]at h
   obtain⟨h1,h2⟩:=h
   split at h1
   · simp only[aLr,beq_iff_eq,decide_eq_true_eq]at h1
     exact⟨h1.1.1,h1.1.2,h1.2,Dr h2⟩
   · cases h1
theorem ae{j:Nat}{fu:Func}{fn:Fn}(hf:P.funcs[j]?=some fu)(h:av P fu fn=true):aiD P j fn:=by
 unfold av at h
 split at h
 · rename_i c hc
   simp only[aLr,decide_eq_true_eq]at h
   exact⟨fu,c,hf,hc,XX (IX h.1.1.1) _ _ h.1.1.2,Dr h.1.2,h.2⟩
 · cases h
end
end Go.Ev
namespace Go.Ev
open Go
variable [Names]
def Qf(P:Program)(j:Nat):Bool:=match P.funcs[j]? with
 | some fu=>decide (fu.name≠ae6)
 | none=>false
def KE(P:Program):List (Option Nat)→List (Option Fn)→Prop
 | [],_=>True
 | none::r,_::s=>True∧KE P r s
 | some j::r,some fn::s=>(Qf P j=true∧aiD P j fn)∧KE P r s
 | _,_=>False
theorem KE.get{P:Program}:∀ {rs:List (Option Nat)} {fs:List (Option Fn)},KE P rs fs→∀(i j:Nat),rs[i]?=some (some j)→
 ∃fn,fs[i]?=some (some fn)∧Qf P j=true∧aiD P j fn
 | [],_,_,i,j,h=>by simp at h
 | none::r,[],h,_,_,_=>h.elim
 | some _::r,[],h,_,_,_=>h.elim
 | some _::r,none::s,h,_,_,_=>h.elim
 | none::r,_::s,h,i,j,hi=>by
   cases i with
   | zero=>simp at hi
   | succ i=>simpa using h.2.get i j (by simpa using hi)
 | some k::r,some fn::s,h,i,j,hi=>by
   cases i with
   | zero=>simp at hi;subst hi;exact⟨fn,rfl,h.1⟩
   | succ i=>simpa using h.2.get i j (by simpa using hi)
theorem XY{P:Program}{rs:List (Option Nat)}{fs:List (Option Fn)}(hρ:∀f,Names.ρ f=(rs[f]?).join)(h:KE P rs fs)(hit:∀f j,Names.ρ f=some j→Names.it f=true→GO P j)(hp:∀f j fn,Names.ρ f=some j→(fs[f]?).join=some fn→fn.prim≠[]→sE P j fn.prim):∀n,od P (eO (fun f=>(fs[f]?).join) n):=by
 have hj:∀f j,Names.ρ f=some j→rs[f]?=some (some j):=by
  intro f j hf
  rw[hρ]at hf
  cases hr:rs[f]? with
  | none=>rw[hr]at hf;cases hf
  | some o=>rw[hr]at hf;simp at hf;rw[hf]
 refine XR ⟨fun f j hf=>?_,hit⟩ (fun f j fn hf hfn=>?_) hp
 · obtain⟨fn,_,h2,h3⟩:=h.get f j (hj f j hf)
   obtain⟨fu,c,k1,k2,_⟩:=h3.ok
   unfold Qf at h2
   rw[k1]at h2
   exact⟨fu,c,k1,by simpa using h2,k2⟩
 · obtain⟨fn',h1,_,h3⟩:=h.get f j (hj f j hf)
   rw[h1]at hfn
   simp at hfn
   subst hfn
   exact h3
def vC:Nat→List (Option Fn)→List (Nat×List Nat)
 | _,[]=>[]
 | i,none::r=>vC (i+1) r
 | i,some fn::r=>match fn.prim with
   | []=>vC (i+1) r
   | a::s=>(i,a::s)::vC (i+1) r
theorem yg:∀ {fs:List (Option Fn)} {i f:Nat} {fn:Fn},(fs[f]?).join=some fn→fn.prim≠[]→(i+f,fn.prim)∈vC i fs
 | [],i,f,fn,h,_=>by simp at h
 | none::r,i,0,fn,h,_=>by simp at h
 | none::r,i,f+1,fn,h,hp=>by
   have:=yg (fs:=r) (i:=i+1) (f:=f) (by simpa using h) hp
   rw[vC,show i+(f+1)=i+1+f by omega];exact this
 | some x::r,i,0,fn,h,hp=>by
   simp at h;subst h
   unfold vC
   split
   · rename_i e;exact absurd e hp
   · rename_i a s e;rw[e];simp
 | some x::r,i,f+1,fn,h,hp=>by
   have:=yg (fs:=r) (i:=i+1) (f:=f) (by simpa using h) hp
   rw[show i+(f+1)=i+1+f by omega]
   unfold vC
   split
   · exact this
   · exact List.mem_cons_of_mem _ this
theorem XZ{P:Program}{rs:List (Option Nat)}{fs:List (Option Fn)}(hρ:∀f,Names.ρ f=(rs[f]?).join)(h:KE P rs fs)(hit:∀f j,Names.ρ f=some j→Names.it f=true→GO P j)(l:List (Nat×List Nat))(hl:vC 0 fs=l)(hp:∀x∈l,∀j,Names.ρ x.1=some j→sE P j x.2):∀n,od P (eO (fun f=>(fs[f]?).join) n):=
 XY hρ h hit fun f j fn hf hfn hpr=>by
  have:=yg (i:=0) hfn hpr
  rw[hl,Nat.zero_add]at this
  exact hp _ this j hf
end Go.Ev
namespace Go.Ev
open Go
def Ap(call call':aU):Prop:=∀raw f args H r,call raw f args H=some r→call' raw f args H=some r
theorem F9{call call':aU}(h:Ap call call'){H:af}{f raw:Nat}{keep:List Nat}{ds:List D}{r:D×af}(hr:yL call H f raw keep ds=some r):
 yL call' H f raw keep ds=some r:=by
 simp only[yL,aLa]at hr ⊢
 obtain⟨a,ha,b,hb,c,hc,d,hd,p,hp,hr⟩:=hr
 exact⟨a,ha,b,hb,c,hc,d,hd,p,h _ _ _ _ _ hp,hr⟩
theorem Mi{call call':aU}(h:Ap call call'){get:X→Option D}{H:af}{o:O}{r:D×af}(hr:evO call get H o=some r):evO call' get H o=some r:=by
 cases o with
 | ca f raw keep xs=>
   simp only[evO,aLa]at hr ⊢
   obtain⟨ds,hds,hr⟩:=hr
   exact⟨ds,hds,F9 h hr⟩
 | cw x raw keep xs=>
   simp only[evO,aLa]at hr ⊢
   obtain⟨d,hd,hr⟩:=hr
   refine⟨d,hd,?_⟩
   cases d with
   | fn f caps=>
     simp only[aLa]at hr ⊢
     obtain⟨ds,hds,hr⟩:=hr
     exact⟨ds,hds,F9 h hr⟩
   | _=>cases hr
 | _=>exact hr
theorem tJ{call call':aU}(h:Ap call call'):∀ {rs:List R} {L vs:List D} {H:af} {r:List D×List D×af},evR call rs L vs H=some r→
 evR call' rs L vs H=some r∧trace call' rs L vs H=trace call rs L vs H
 | [],L,vs,H,r,hr=>⟨hr,rfl⟩
 | r::rs,L,vs,H,res,hr=>by
   simp only[evR]at hr ⊢
   obtain⟨w,hw,hr⟩:=aLa.1 hr
   simp only[trace,hw,aLq]
   cases w with
   | true=>
     simp only[if_true]at hr ⊢
     obtain⟨p,hp,hr⟩:=aLa.1 hr
     rw[Mi h hp,hp]
     obtain⟨h1,h2⟩:=tJ h hr
     exact⟨h1,by simp only[h2]⟩
   | false=>
     simp only[aLt,if_false]at hr ⊢
     obtain⟨h1,h2⟩:=tJ h hr
     exact⟨h1,by simp only[h2]⟩
theorem vD{call call':aU}(h:Ap call call'){rs:List R}{ps:List (Nat×Nat)}{vs:List D}{H:af}{r:List D×List D×af}(hr:xb call rs ps vs H=some r):
 xb call' rs ps vs H=some r:=by
 unfold xb at hr ⊢
 split at hr
 · rename_i hc
   obtain⟨h1,h2⟩:=tJ h hr
   rw[h2,if_pos hc,h1]
 · cases hr
open Classical in
noncomputable def aiE{α:Type}(f:Nat→Option α):Option α:=if h:∃r n,f n=some r then some h.choose else none
theorem Mj{α:Type}{f:Nat→Option α}(hm:∀n r,f n=some r→f (n+1)=some r){r:α}:aiE f=some r↔∃n,f n=some r:=by
 have up:∀k n r,f n=some r→f (n+k)=some r:=by
  intro k
  induction k with
  | zero=>intro n r h;exact h
  | succ k ih=>intro n r h;exact hm _ _ (ih n r h)
 unfold aiE
 constructor
 · intro h
   split at h
   · rename_i hx;cases h;exact hx.choose_spec
   · cases h
 · intro ⟨n,hn⟩
   have hx:∃r n,f n=some r:=⟨r,n,hn⟩
   rw[dif_pos hx]
   obtain⟨m,hm'⟩:=hx.choose_spec
   have h1:=up m n r hn
   have h2:=up n m _ hm'
   rw[Nat.add_comm]at h2
   rw[h1]at h2;exact h2.symm
theorem Dt{gc:Bool}{dead:List Nat}{body:St→Option (Ex×St)}:∀ {n:Nat} {st:St} {p:Ex×St},iter gc dead body n st=some p→iter gc dead body (n+1) st=some p
 | 0,st,p,h=>by cases h
 | n+1,st,p,h=>by
   unfold iter at h ⊢
   obtain⟨q,hq,h⟩:=aLa.1 h
   rw[hq,aLq]
   split at h
   · rename_i hn
     obtain⟨st2,ht,h⟩:=aLa.1 h
     rw[ht,aLq]
     exact Dt h
   · rename_i hn
     cases h
     rfl
theorem Qg{gc:Bool}{dead:List Nat}{body:St→Option (Ex×St)}{n m:Nat}(hnm:n≤m){st:St}{p:Ex×St}(h:iter gc dead body n st=some p):iter gc dead body m st=some p:=by
 obtain⟨k,rfl⟩:=Nat.le.dest hnm
 clear hnm
 induction k with
 | zero=>exact h
 | succ k ih=>exact Dt ih
noncomputable def tK(gc:Bool)(dead:List Nat)(body:St→Option (Ex×St))(st:St):Option (Ex×St):=aiE fun n=>iter gc dead body n st
theorem sF{gc:Bool}{dead:List Nat}{body:St→Option (Ex×St)}{st:St}{p:Ex×St}:tK gc dead body st=some p↔∃n,iter gc dead body n st=some p:=
 Mj (f:=fun n=>iter gc dead body n st) fun _ _ h=>Dt h
theorem nC{gc:Bool}{dead:List Nat}{body:St→Option (Ex×St)}{st:St}{p:Ex×St}(h:body st=some p)(hn:p.1≠ .normal):tK gc dead body st=some p:=by
 refine sF.2 ⟨1,?_⟩
 simp only[iter,h,aLq]
theorem Ga{gc:Bool}{dead:List Nat}{body:St→Option (Ex×St)}{st st1 st2:St}(h:body st=some (.normal,st1))(ht:tidy gc dead st.H.length st1=some st2)
 {p:Ex×St} (h2:tK gc dead body st2=some p):tK gc dead body st=some p:=by
 obtain⟨n,hn⟩:=sF.1 h2
 refine sF.2 ⟨n+1,?_⟩
 simp only[iter,h,aLq,ht,hn]
theorem Bx{gc:Bool}{dead:List Nat}{body:St→Option (Ex×St)}{s:Nat→St}{p:Ex×St}:∀(n k:Nat),
 (∀j,k≤j→j<k+n→∃st1,body (s j)=some (.normal,st1)∧tidy gc dead (s j).H.length st1=some (s (j+1)))→
 tK gc dead body (s (k+n))=some p→tK gc dead body (s k)=some p
 | 0,_,_,h=>h
 | n+1,k,hr,h=>by
   obtain⟨st1,h1,h2⟩:=hr k (aLs _) (by omega)
   refine Ga h1 h2 (Bx n (k+1) (fun j hj hj'=>hr j (by omega) (by omega)) ?_)
   rw[show k+1+n=k+(n+1)by omega];exact h
noncomputable def exC(call:aU):C→St→Option (Ex×St)
 | .skip,st=>some (.normal,st)
 | .reg rs ps,st=>(xb call rs ps st.vs st.H).map fun q=>(.normal,⟨q.2.1,q.2.2⟩)
 | .seq a b,st=>(exC call a st).bind fun p=>jC p (exC call b)
 | .ite rs ps k a b,st=>(xb call rs ps st.vs st.H).bind fun q=>
  jh q.1[k]? (exC call a ⟨q.2.1,q.2.2⟩) (exC call b ⟨q.2.1,q.2.2⟩)
 | .its rs ps k a b c,st=>((xb call rs ps st.vs st.H).bind fun q=>
  jh q.1[k]? (exC call a ⟨q.2.1,q.2.2⟩) (exC call b ⟨q.2.1,q.2.2⟩)).bind fun p=>jC p (exC call c)
 | .itk rs ps k a b c,st=>(xb call rs ps st.vs st.H).bind fun q=>
  jh q.1[k]? ((exC call a ⟨q.2.1,q.2.2⟩).bind fun p=>jC p (exC call c)) ((exC call b ⟨q.2.1,q.2.2⟩).bind fun p=>jC p (exC call c))
 | .itv j a b,st=>jh st.vs[j]? (exC call a st) (exC call b st)
 | .blk id c,st=>(exC call c st).map (leave id)
 | .loop gc dead c,st=>tK gc dead (exC call c) ⟨jg dead st.vs,st.H⟩
 | .exit id,st=>some (.exit id,st)
 | .ret,st=>some (.ret,st)
 | .fail,_=>none
 | .cnd _ c,st=>exC call c st
 | .rng x p f r1 p1 r2 p2,st=>(O3 (stepG (xb call) st.vs p r1 p1 r2 p2) (SM f st.vs[x]?) st.H).map fun H=>(.normal,⟨st.vs,H⟩)
def an3(fn:Fn)(k raw:Nat)(p:Ex×St):Option (D×af):=match p.1 with
 | .exit _=>none
 | _=>(mG p.2 fn.res).bind (finish k raw p.2.H)
theorem Du(fs:Nat→Option Fn)(n raw f:Nat)(args:List D)(H:af):
 eO fs (n+1) raw f args H=(fs f).bind fun fn=>if fn.prim≠[]then GM fn.prim args H else if fn.aq=args.length then(evC (eO fs n) n fn.body ⟨xj args fn.vars,H⟩).bind (an3 fn H.length raw)else none:=rfl
theorem wQ{p q:Ex×St}{k:St→Option (Ex×St)}(h:jC p k=some q):(p.1= .normal∧k p.2=some q)∨(p.1≠ .normal∧q=p):=by
 unfold jC at h
 split at h
 · exact .inl ⟨‹_›,h⟩
 · rename_i hn;cases h;exact .inr ⟨fun e=>hn e,rfl⟩
theorem iD{p q:Ex×St}{k k':St→Option (Ex×St)}(h:jC p k=some q)(hk:∀st q,k st=some q→k' st=some q):jC p k'=some q:=by
 rcases wQ h with⟨h1,h2⟩ | ⟨h1,rfl⟩
 · unfold jC;rw[h1];exact hk _ _ h2
 · unfold jC;split
   · rename_i h2;exact(h1 h2).elim
   · rfl
theorem nD{c:Option D}{a b a' b':Option (Ex×St)}{p:Ex×St}(h:jh c a b=some p)(ha:a=some p→a'=some p)(hb:b=some p→b'=some p):jh c a' b'=some p:=by
 unfold jh at h ⊢
 split at h
 · rename_i x
   cases x with
   | true=>simpa using ha (by simpa using h)
   | false=>simpa using hb (by simpa using h)
 · split at h
   · rename_i e
     rw[ha h,hb (e▸h),if_pos rfl]
   · cases h
 · cases h
theorem y9{gc:Bool}{dead:List Nat}{body body':St→Option (Ex×St)}(hb:∀st p,body st=some p→body' st=some p):∀ {n:Nat} {st:St} {p:Ex×St},
 iter gc dead body n st=some p→iter gc dead body' n st=some p
 | 0,st,p,h=>by cases h
 | n+1,st,p,h=>by
   unfold iter at h ⊢
   obtain⟨q,hq,h⟩:=aLa.1 h
   rw[hb _ _ hq,aLq]
   split at h
   · rename_i hn
     obtain⟨st2,ht,h⟩:=aLa.1 h
     rw[ht,aLq]
     exact y9 hb h
   · rename_i hn
     cases h
     rfl
theorem TQ{call call':aU}(h:Ap call call'){n m:Nat}(hnm:n≤m):∀(c:C) (st:St) (p:Ex×St),evC call n c st=some p→evC call' m c st=some p:=by
 intro c
 induction c with
 | skip=>intro st p hp;exact hp
 | reg rs ps=>
   intro st p hp
   simp only[evC]at hp ⊢
   obtain⟨q,hq,rfl⟩:=aLb.1 hp
   rw[vD h hq];rfl
 | seq a b iha ihb=>
   intro st p hp
   simp only[evC]at hp ⊢
   obtain⟨q,hq,hp⟩:=aLa.1 hp
   rw[iha _ _ hq,aLq]
   exact iD hp ihb
 | ite rs ps k a b iha ihb=>
   intro st p hp
   simp only[evC]at hp ⊢
   obtain⟨q,hq,hp⟩:=aLa.1 hp
   rw[vD h hq,aLq]
   exact nD hp (iha _ _) (ihb _ _)
 | its rs ps k a b c iha ihb ihc=>
   intro st p hp
   simp only[evC]at hp ⊢
   obtain⟨p1,hp1,hp⟩:=aLa.1 hp
   obtain⟨q,hq,hp1⟩:=aLa.1 hp1
   rw[vD h hq,aLq,nD hp1 (iha _ _) (ihb _ _),aLq]
   exact iD hp ihc
 | itk rs ps k a b c iha ihb ihc=>
   intro st p hp
   simp only[evC]at hp ⊢
   obtain⟨q,hq,hp⟩:=aLa.1 hp
   rw[vD h hq,aLq]
   refine nD hp (fun h1=>?_) (fun h1=>?_)
   · obtain⟨p1,h2,h3⟩:=aLa.1 h1
     rw[iha _ _ h2,aLq]
     exact iD h3 ihc
   · obtain⟨p1,h2,h3⟩:=aLa.1 h1
     rw[ihb _ _ h2,aLq]
     exact iD h3 ihc
 | itv j a b iha ihb=>
   intro st p hp
   simp only[evC]at hp ⊢
   exact nD hp (iha _ _) (ihb _ _)
 | blk id c ih=>
   intro st p hp
   simp only[evC]at hp ⊢
   obtain⟨q,hq,rfl⟩:=aLb.1 hp
   rw[ih _ _ hq];rfl
 | loop gc dead c ih=>
   intro st p hp
   simp only[evC]at hp ⊢
   exact Qg hnm (y9 ih hp)
 | exit id=>intro st p hp;exact hp
 | ret=>intro st p hp;exact hp
 | fail=>intro st p hp;cases hp
 | cnd v c ih=>intro st p hp;exact ih st p hp
 | rng x p f r1 p1 r2 p2=>
   intro st q hp
   simp only[evC]at hp ⊢
   obtain⟨H,hH,rfl⟩:=aLb.1 hp
   rw[CZ (Al fun _ _ _ _ _ hr=>vD h hr) hH];rfl
theorem yh{fs:Nat→Option Fn}:∀n,Ap (eO fs n) (eO fs (n+1))
 | 0=>fun raw f args H r h=>by cases h
 | n+1=>fun raw f args H r h=>by
   rw[Du]at h ⊢
   obtain⟨fn,hfn,h⟩:=aLa.1 h
   rw[hfn,aLq]
   split at h
   · rename_i hn;rw[if_pos hn];exact h
   rename_i hpr
   rw[if_neg hpr]
   split at h
   · rename_i hn
     rw[if_pos hn]
     obtain⟨p,hp,h⟩:=aLa.1 h
     rw[TQ (yh n) (Nat.le_succ n) _ _ _ hp,aLq];exact h
   · cases h
theorem Dv{fs:Nat→Option Fn}{n m:Nat}(h:n≤m):Ap (eO fs n) (eO fs m):=by
 obtain⟨k,rfl⟩:=Nat.le.dest h
 clear h
 induction k with
 | zero=>exact fun _ _ _ _ _ h=>h
 | succ k ih=>exact fun raw f args H r h=>yh (n+k) _ _ _ _ _ (ih raw f args H r h)
noncomputable def rq(fs:Nat→Option Fn):aU:=fun raw f args H=>aiE fun n=>eO fs n raw f args H
theorem za{fs:Nat→Option Fn}{raw f:Nat}{args:List D}{H:af}{r:D×af}:rq fs raw f args H=some r↔∃n,eO fs n raw f args H=some r:=
 Mj fun n _ h=>yh n _ _ _ _ _ h
section
variable {fs : Nat → Option Fn}
theorem IY{H:af}{f raw:Nat}{keep:List Nat}{ds:List D}{r:D×af}(hr:yL (rq fs) H f raw keep ds=some r):
 ∃n,yL (eO fs n) H f raw keep ds=some r:=by
 simp only[yL,aLa]at hr ⊢
 obtain⟨a,ha,b,hb,c,hc,d,hd,p,hp,hr⟩:=hr
 obtain⟨n,hn⟩:=za.1 hp
 exact⟨n,a,ha,b,hb,c,hc,d,hd,p,hn,hr⟩
theorem X0{get:X→Option D}{H:af}{o:O}{r:D×af}(hr:evO (rq fs) get H o=some r):∃n,evO (eO fs n) get H o=some r:=by
 cases o with
 | ca f raw keep xs=>
   simp only[evO,aLa]at hr ⊢
   obtain⟨ds,hds,hr⟩:=hr
   obtain⟨n,hn⟩:=IY hr
   exact⟨n,ds,hds,hn⟩
 | cw x raw keep xs=>
   simp only[evO,aLa]at hr ⊢
   obtain⟨d,hd,hr⟩:=hr
   cases d with
   | fn f caps=>
     simp only[aLa]at hr
     obtain⟨ds,hds,hr⟩:=hr
     obtain⟨n,hn⟩:=IY hr
     refine⟨n,_,hd,?_⟩
     simp only[aLa]
     exact⟨ds,hds,hn⟩
   | _=>cases hr
 | _=>exact⟨0,hr⟩
theorem KF:∀ {rs:List R} {L vs:List D} {H:af} {r:List D×List D×af},evR (rq fs) rs L vs H=some r→
 ∃n,evR (eO fs n) rs L vs H=some r
 | [],L,vs,H,r,hr=>⟨0,hr⟩
 | r::rs,L,vs,H,res,hr=>by
   simp only[evR]at hr ⊢
   obtain⟨w,hw,hr⟩:=aLa.1 hr
   simp only[hw,aLq]
   cases w with
   | true=>
     simp only[if_true]at hr ⊢
     obtain⟨p,hp,hr⟩:=aLa.1 hr
     obtain⟨n,hn⟩:=X0 hp
     obtain⟨m,hm⟩:=KF hr
     refine⟨max n m,?_⟩
     rw[Mi (Dv (Nat.le_max_left n m)) hn,aLq]
     exact(tJ (Dv (Nat.le_max_right n m)) hm).1
   | false=>
     simp only[aLt,if_false]at hr ⊢
     exact KF hr
theorem IZ(n:Nat):Ap (eO fs n) (rq fs):=fun _ _ _ _ _ h=>za.2 ⟨n,h⟩
theorem wR{rs:List R}{ps:List (Nat×Nat)}{vs:List D}{H:af}{r:List D×List D×af}(hr:xb (rq fs) rs ps vs H=some r):
 ∃n,∀m,n≤m→xb (eO fs m) rs ps vs H=some r:=by
 unfold xb at hr ⊢
 split at hr
 · rename_i hc
   obtain⟨n,hn⟩:=KF hr
   refine⟨n,fun m hm=>?_⟩
   have h1:=(tJ (Dv hm) hn).1
   rw[← (tJ (IZ m) h1).2,if_pos hc,h1]
 · cases hr
theorem Qh{vs:List D}{p:Nat}{r1:List R}{p1:List (Nat×Nat)}{r2:List R}{p2:List (Nat×Nat)}{c:T}{H H':af}(h:stepG (xb (rq fs)) vs p r1 p1 r2 p2 c H=some H'):
 ∃n,∀m,n≤m→stepG (xb (eO fs m)) vs p r1 p1 r2 p2 c H=some H':=by
 unfold stepG at h ⊢
 obtain⟨q,hq,h⟩:=aLa.1 h
 obtain⟨q',hq',rfl⟩:=aLb.1 h
 obtain⟨n1,h1⟩:=wR hq
 obtain⟨n2,h2⟩:=wR hq'
 exact⟨max n1 n2,fun m hm=>by rw[h1 m (by omega),aLq,h2 m (by omega)];rfl⟩
theorem Mk{vs:List D}{p:Nat}{r1:List R}{p1:List (Nat×Nat)}{r2:List R}{p2:List (Nat×Nat)}{look:af→Option (List T)}{len:Nat}:∀ {k i:Nat} {H H':af},
 Kj (stepG (xb (rq fs)) vs p r1 p1 r2 p2) look len k i H=some H'→∃n,∀m,n≤m→Kj (stepG (xb (eO fs m)) vs p r1 p1 r2 p2) look len k i H=some H'
 | 0,i,H,H',hr=>⟨0,fun _ _=>hr⟩
 | k+1,i,H,H',hr=>by
   unfold Kj at hr
   obtain⟨es,he,hr⟩:=aLa.1 hr
   split at hr
   · rename_i hl
     obtain⟨H1,h1,hr⟩:=aLa.1 hr
     obtain⟨n1,h1⟩:=Qh h1
     obtain⟨n2,h2⟩:=Mk hr
     refine⟨max n1 n2,fun m hm=>?_⟩
     unfold Kj
     rw[he,aLq,if_pos hl,h1 m (by omega),aLq,h2 m (by omega)]
   · cases hr
theorem X1:∀(c:C) (st:St) (p:Ex×St),exC (rq fs) c st=some p→∃n,∀m,n≤m→evC (eO fs m) m c st=some p:=by
 intro c
 induction c with
 | skip=>intro st p hp;exact⟨0,fun m _=>hp⟩
 | reg rs ps=>
   intro st p hp
   simp only[exC]at hp
   obtain⟨q,hq,rfl⟩:=aLb.1 hp
   obtain⟨n,hn⟩:=wR hq
   refine⟨n,fun m hm=>?_⟩
   simp only[evC,hn m hm,aLw]
 | seq a b iha ihb=>
   intro st p hp
   simp only[exC]at hp
   obtain⟨q,hq,hp⟩:=aLa.1 hp
   obtain⟨n,hn⟩:=iha _ _ hq
   rcases wQ hp with⟨h1,h2⟩ | ⟨h1,rfl⟩
   · obtain⟨k,hk⟩:=ihb _ _ h2
     refine⟨max n k,fun m hm=>?_⟩
     simp only[evC,hn m (by omega),aLq,jC,h1,hk m (by omega)]
   · refine⟨n,fun m hm=>?_⟩
     simp only[evC,hn m hm,aLq,jC]
 | ite rs ps k a b iha ihb=>
   intro st p hp
   simp only[exC]at hp
   obtain⟨q,hq,hp⟩:=aLa.1 hp
   obtain⟨n,hn⟩:=wR hq
   have hc:∃n,∀m,n≤m→jh q.1[k]? (evC (eO fs m) m a ⟨q.2.1,q.2.2⟩) (evC (eO fs m) m b ⟨q.2.1,q.2.2⟩)=some p:=by
    unfold jh at hp ⊢
    split at hp
    · rename_i x _
      cases x with
      | true=>simpa using iha _ _ (by simpa using hp)
      | false=>simpa using ihb _ _ (by simpa using hp)
    · split at hp
      · rename_i e
        obtain⟨n1,h1⟩:=iha _ _ hp
        obtain⟨n2,h2⟩:=ihb _ _ (e▸hp)
        exact⟨max n1 n2,fun m hm=>by simp only[h1 m (by omega),h2 m (by omega),if_true]⟩
      · cases hp
    · cases hp
   obtain⟨n2,hn2⟩:=hc
   refine⟨max n n2,fun m hm=>?_⟩
   simp only[evC,hn m (by omega),aLq,hn2 m (by omega)]
 | its rs ps k a b c iha ihb ihc=>
   intro st p hp
   simp only[exC]at hp
   obtain⟨p1,hp1,hp⟩:=aLa.1 hp
   obtain⟨q,hq,hp1⟩:=aLa.1 hp1
   obtain⟨n,hn⟩:=wR hq
   have hc:∃n,∀m,n≤m→jh q.1[k]? (evC (eO fs m) m a ⟨q.2.1,q.2.2⟩) (evC (eO fs m) m b ⟨q.2.1,q.2.2⟩)=some p1:=by
    unfold jh at hp1 ⊢
    split at hp1
    · rename_i x _
      cases x with
      | true=>simpa using iha _ _ (by simpa using hp1)
      | false=>simpa using ihb _ _ (by simpa using hp1)
    · split at hp1
      · rename_i e
        obtain⟨n1,h1⟩:=iha _ _ hp1
        obtain⟨n2,h2⟩:=ihb _ _ (e▸hp1)
        exact⟨max n1 n2,fun m hm=>by simp only[h1 m (by omega),h2 m (by omega),if_true]⟩
      · cases hp1
    · cases hp1
   obtain⟨n2,hn2⟩:=hc
   rcases wQ hp with⟨h1,h2⟩ | ⟨h1,rfl⟩
   · obtain⟨n3,hn3⟩:=ihc _ _ h2
     refine⟨max n (max n2 n3),fun m hm=>?_⟩
     simp only[evC,hn m (by omega),aLq,hn2 m (by omega),jC,h1,hn3 m (by omega)]
   · refine⟨max n n2,fun m hm=>?_⟩
     simp only[evC,hn m (by omega),aLq,hn2 m (by omega),jC]
 | itk rs ps k a b c iha ihb ihc=>
   intro st p hp
   simp only[exC]at hp
   obtain⟨q,hq,hp⟩:=aLa.1 hp
   obtain⟨n,hn⟩:=wR hq
   have two:∀(u:C),(∀st p,exC (rq fs) u st=some p→∃n,∀m,n≤m→evC (eO fs m) m u st=some p)→∀st,((exC (rq fs) u st).bind fun p=>jC p (exC (rq fs) c))=some p→
    ∃n,∀m,n≤m→((evC (eO fs m) m u st).bind fun p=>jC p (evC (eO fs m) m c))=some p:=by
    intro u hu st h1
    obtain⟨p1,h2,h3⟩:=aLa.1 h1
    obtain⟨n1,k1⟩:=hu _ _ h2
    rcases wQ h3 with⟨h4,h5⟩ | ⟨h4,rfl⟩
    · obtain⟨n2,k2⟩:=ihc _ _ h5
      exact⟨max n1 n2,fun m hm=>by simp only[k1 m (by omega),aLq,jC,h4,k2 m (by omega)]⟩
    · exact⟨n1,fun m hm=>by simp only[k1 m hm,aLq,jC]⟩
   have hc:∃n,∀m,n≤m→jh q.1[k]? ((evC (eO fs m) m a ⟨q.2.1,q.2.2⟩).bind fun p=>jC p (evC (eO fs m) m c)) ((evC (eO fs m) m b ⟨q.2.1,q.2.2⟩).bind fun p=>jC p (evC (eO fs m) m c))=some p:=by
    unfold jh at hp ⊢
    split at hp
    · rename_i x _
      cases x with
      | true=>simpa using two a iha _ (by simpa using hp)
      | false=>simpa using two b ihb _ (by simpa using hp)
    · split at hp
      · rename_i e
        obtain⟨n1,h1⟩:=two a iha _ hp
        obtain⟨n2,h2⟩:=two b ihb _ (e▸hp)
        exact⟨max n1 n2,fun m hm=>by simp only[h1 m (by omega),h2 m (by omega),if_true]⟩
      · cases hp
    · cases hp
   obtain⟨n2,hn2⟩:=hc
   refine⟨max n n2,fun m hm=>?_⟩
   simp only[evC,hn m (by omega),aLq,hn2 m (by omega)]
 | itv j a b iha ihb=>
   intro st p hp
   simp only[exC]at hp
   simp only[evC]
   unfold jh at hp ⊢
   split at hp
   · rename_i x _
     cases x with
     | true=>simpa using iha _ _ (by simpa using hp)
     | false=>simpa using ihb _ _ (by simpa using hp)
   · split at hp
     · rename_i e
       obtain⟨n1,h1⟩:=iha _ _ hp
       obtain⟨n2,h2⟩:=ihb _ _ (e▸hp)
       exact⟨max n1 n2,fun m hm=>by simp only[h1 m (by omega),h2 m (by omega),if_true]⟩
     · cases hp
   · cases hp
 | blk id c ih=>
   intro st p hp
   simp only[exC]at hp
   obtain⟨q,hq,rfl⟩:=aLb.1 hp
   obtain⟨n,hn⟩:=ih _ _ hq
   exact⟨n,fun m hm=>by simp only[evC,hn m hm,aLw]⟩
 | loop gc dead c ih=>
   intro st p hp
   simp only[exC]at hp
   obtain⟨k,hk⟩:=sF.1 hp
   have key:∀(k:Nat) (st:St),iter gc dead (exC (rq fs) c) k st=some p→∃n,∀m,n≤m→iter gc dead (evC (eO fs m) m c) k st=some p:=by
    intro k
    induction k with
    | zero=>intro st h;cases h
    | succ k ihk=>
      intro st h
      unfold iter at h
      obtain⟨q,hq,h⟩:=aLa.1 h
      obtain⟨n,hn⟩:=ih _ _ hq
      split at h
      · rename_i h1
        obtain⟨st2,ht,h⟩:=aLa.1 h
        obtain⟨n2,hn2⟩:=ihk _ h
        refine⟨max n n2,fun m hm=>?_⟩
        simp only[iter,hn m (by omega),aLq,h1,ht,hn2 m (by omega)]
      · cases h
        refine⟨n,fun m hm=>?_⟩
        simp only[iter,hn m hm,aLq]
   obtain⟨n,hn⟩:=key k _ hk
   refine⟨max n k,fun m hm=>?_⟩
   simp only[evC]
   exact Qg (by omega) (hn m (by omega))
 | exit id=>intro st p hp;exact⟨0,fun m _=>hp⟩
 | ret=>intro st p hp;exact⟨0,fun m _=>hp⟩
 | fail=>intro st p hp;cases hp
 | cnd v c ih=>intro st p hp;exact ih st p hp
 | rng x p f r1 p1 r2 p2=>
   intro st q hp
   simp only[exC]at hp
   obtain⟨H,hH,rfl⟩:=aLb.1 hp
   unfold O3 at hH
   obtain⟨es,he,hr⟩:=aLa.1 hH
   obtain⟨n,hn⟩:=Mk hr
   refine⟨n,fun m hm=>?_⟩
   simp only[evC]
   unfold O3
   rw[he,aLq,hn m hm];rfl
theorem TR{raw f:Nat}{args:List D}{H:af}{fn:Fn}{p:Ex×St}{r:D×af}(hf:fs f=some fn)(hn:fn.aq=args.length)
 (h:exC (rq fs) fn.body ⟨xj args fn.vars,H⟩=some p) (he:an3 fn H.length raw p=some r) (h0:fn.prim=[]:=by rfl):rq fs raw f args H=some r:=by
 obtain⟨n,hn'⟩:=X1 _ _ _ h
 refine za.2 ⟨n+1,?_⟩
 rw[Du,hf,aLq,if_neg (fun c=>c h0),if_pos hn,hn' n (aLs _),aLq,he]
end
end Go.Ev
