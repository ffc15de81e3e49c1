/- Parts of the proof: see the text that holds the theorem. -/
import Derived.Test.YtifghciaddehaaaGreatZ3
set_option linter.all false
set_option maxRecDepth 100000
namespace Go.Ev
open Go
variable [Lib] [cu] [bP]
theorem uO{α:Type} [Dat α](l:List α)(k:Nat)(hk:k<l.length)(x:α)(j:Nat):nth (l.set k x) j=if j=k then x else nth l j:=by
 unfold nth
 by_cases h:j=k
 · subst h;rw[if_pos rfl];simp[hk]
 · rw[if_neg h]
   have:¬k=j:=fun e=>h e.symm
   simp[List.getElem?_set,this]
theorem NW{α:Type} [Dat α]{a b:List α}(h:a.length=b.length)(e:∀j,j<a.length→nth a j=nth b j):a=b:=by
 apply List.ext_getElem h
 intro j h1 h2
 have:=e j h1
 rwa [b8 (List.getElem?_eq_getElem h1),b8 (List.getElem?_eq_getElem h2)]at this
def clW(m:aK)(t:Int)(into:Option (List Int))(y:List Int):Prop:=∀k,k<m.roads.length→∀back,Kq into ((nth m.roads k).dst back)=true→0≤gk m k back 6 9 12→
 nth y ((nth m.roads k).src back).toNat<1099511627776→max t (nth y ((nth m.roads k).src back).toNat+gk m k back 6 9 12)≤2147483648→
 nth y ((nth m.roads k).dst back).toNat≤max t (nth y ((nth m.roads k).src back).toNat+gk m k back 6 9 12)
theorem GJ{m:aK}{t t':Int}(ht:t≤t'){into:Option (List Int)}{y:List Int}(h:clW m t none y):clW m t' into y:=by
 intro k hk back _ h1 h2 h3
 have:=h k hk back rfl h1 h2 (by omega)
 omega
theorem s8{α:Type}{f:α→α×Bool}(P:α→Prop)(hP:∀l,P l→P (f l).1):∀n l,P l→P (gE f n l)
 | 0,l,h=>h
 | n+1,l,h=>by
   unfold gE
   split
   · exact s8 P hP n _ (hP l h)
   · exact hP l h
theorem yZ{α:Type}{f:α→α×Bool}(P:α→Prop)(mes:α→Nat)(hP:∀l,P l→P (f l).1∧((f l).2=true→mes (f l).1<mes l)∧((f l).2=false→(f l).1=l)):∀n l,P l→mes l<n→(f (gE f n l)).2=false∧P (gE f n l)
 | 0,l,_,h=>by omega
 | n+1,l,hp,h=>by
   obtain⟨h1,h2,h3⟩:=hP l hp
   unfold gE
   cases hf:(f l).2 with
   | true=>
     rw[if_pos rfl]
     have:=h2 hf
     exact yZ P mes hP n _ h1 (by omega)
   | false=>
     rw[if_neg (by simp),h3 hf]
     exact⟨hf,hp⟩
theorem yd{m:aK}(t:Int)(into:Option (List Int))(k:Nat)(back:Bool)(l:List Int):
 (Kq into ((nth m.roads k).dst back)=true∧0≤gk m k back 6 9 12∧nth l ((nth m.roads k).src back).toNat<1099511627776∧max t (nth l ((nth m.roads k).src back).toNat+gk m k back 6 9 12)≤2147483648∧
  max t (nth l ((nth m.roads k).src back).toNat+gk m k back 6 9 12)<nth l ((nth m.roads k).dst back).toNat∧
  eY m t into k back l=(l.set ((nth m.roads k).dst back).toNat (max t (nth l ((nth m.roads k).src back).toNat+gk m k back 6 9 12)),true))∨
 (eY m t into k back l=(l,false)∧¬(Kq into ((nth m.roads k).dst back)=true∧0≤gk m k back 6 9 12∧nth l ((nth m.roads k).src back).toNat<1099511627776∧max t (nth l ((nth m.roads k).src back).toNat+gk m k back 6 9 12)≤2147483648∧
  max t (nth l ((nth m.roads k).src back).toNat+gk m k back 6 9 12)<nth l ((nth m.roads k).dst back).toNat)):=by
 unfold eY mH lC
 cases Kq into ((nth m.roads k).dst back)with
 | false=>right;simp
 | true=>
   simp only[↓reduceIte,true_and,Bool.and_eq_true,decide_eq_true_eq]
   by_cases c:((0≤gk m k back 6 9 12∧nth l ((nth m.roads k).src back).toNat<1099511627776)∧max t (nth l ((nth m.roads k).src back).toNat+gk m k back 6 9 12)≤2147483648)∧max t (nth l ((nth m.roads k).src back).toNat+gk m k back 6 9 12)<nth l ((nth m.roads k).dst back).toNat
   · left
     refine⟨c.1.1.1,c.1.1.2,c.1.2,c.2,?_⟩
     rw[if_pos c]
     simp[c.1.1.1,c.1.1.2,c.1.2,c.2]
   · right
     refine⟨?_,fun h=>c ⟨⟨⟨h.1,h.2.1⟩,h.2.2.1⟩,h.2.2.2⟩⟩
     rw[if_neg c]
     simp only[Prod.mk.injEq,true_and]
     rw[Bool.eq_false_iff];intro h;simp only[Bool.and_eq_true,decide_eq_true_eq]at h;exact c h
section
variable {m : aK} (h : m.ok) {t : Int} {into : Option (List Int)}
include h
theorem AI(P:List Int→Prop)(hP:∀l,l.length=m.places.length→bnd l→P l→∀k,k<m.roads.length→∀back,P (eY m t into k back l).1){l:List Int}(hl:l.length=m.places.length)(hb:bnd l)(hp:P l):∀k,k≤m.roads.length→P (eI m t into l k).1
 | 0,_=>hp
 | k+1,hk=>by
   have ih:=AI P hP hl hb hp k (by omega)
   have b1:=ig h (t:=t) (into:=into) hl hb k (by omega)
   have l1:(eI m t into l k).1.length=m.places.length:=by rw[dw,hl]
   simp only[eI,s6]
   exact hP _ (by rw[oD,l1]) (qB h l1 b1 (by omega) false) (hP _ l1 b1 ih k (by omega) false) k (by omega) true
theorem we(P:List Int→Prop)(hP:∀l,l.length=m.places.length→bnd l→P l→∀k,k<m.roads.length→∀back,P (eY m t into k back l).1){l:List Int}(hl:l.length=m.places.length)(hb:bnd l)(hp:P l):P (dn m t into l):=
 (s8 (f:=dm m t into) (fun l=>(l.length=m.places.length∧bnd l)∧P l) (fun l hl=>⟨⟨by unfold dm;rw[dw];exact hl.1.1,ig h hl.1.1 hl.1.2 _ (Nat.le_refl _)⟩,AI h P hP hl.1.1 hl.1.2 hl.2 _ (Nat.le_refl _)⟩) _ l ⟨⟨hl,hb⟩,hp⟩).2
theorem y0{l:List Int}(hl:l.length=m.places.length)(hb:bnd l):(dn m t into l).length=m.places.length∧bnd (dn m t into l):=
 (s8 (f:=dm m t into) (fun l=>(l.length=m.places.length∧bnd l)) (fun l hl=>⟨by unfold dm;rw[dw];exact hl.1,ig h hl.1 hl.2 _ (Nat.le_refl _)⟩) _ l ⟨hl,hb⟩)
theorem Kt{l:List Int}(hl:l.length=m.places.length)(hb:bnd l)(j:Nat):nth (dn m t into l) j≤nth l j:=
 we h (fun l'=>nth l' j≤nth l j) (fun l' hl' hb' hp k hk back=>by
  have r2:=Road.AE (h.rs _ (ah hk)) back
  rcases yd (m:=m) t into k back l' with⟨_,_,_,_,c,e⟩ | ⟨e,_⟩
  · rw[e];simp only
    rw[uO _ _ (by omega)]
    split
    · rename_i hj;rw[hj]at hp;rw[hj];omega
    · exact hp
  · rw[e];exact hp) hl hb (Int.le_refl _)
theorem Ku{y l:List Int}(hy:clW m t into y)(hl:l.length=m.places.length)(hb:bnd l)(hle:∀j,nth y j≤nth l j):∀j,nth y j≤nth (dn m t into l) j:=
 we h (fun l'=>∀j,nth y j≤nth l' j) (fun l' hl' hb' hp k hk back=>by
  have r2:=Road.AE (h.rs _ (ah hk)) back
  rcases yd (m:=m) t into k back l' with⟨c1,c2,c3,c4,c5,e⟩ | ⟨e,_⟩
  · rw[e];simp only
    intro j
    rw[uO _ _ (by omega)]
    split
    · rename_i hj
      have:=hp ((nth m.roads k).src back).toNat
      have:=hy k hk back c1 c2 (by omega) (by omega)
      rw[hj];omega
    · exact hp j
  · rw[e];exact hp) hl hb hle
theorem C8{l:List Int}(hl:l.length=m.places.length)(hb:bnd l):∀k,k≤m.roads.length→(eI m t into l k).2=false→∀i,i<k→∀back,(eY m t into i back l).2=false
 | 0,_,_,i,hi,_=>by omega
 | k+1,hk,hf,i,hi,back=>by
   have e:=(oE h (t:=t) (into:=into) hl hb k (by omega)).2
   have ih:=C8 hl hb k (by omega)
   simp only[eI,s6,Bool.or_eq_false_iff]at hf
   obtain⟨⟨f1,f2⟩,f3⟩:=hf
   have e:=e f1
   rw[e]at f2 f3
   have e2:=(yY h (t:=t) (into:=into) hl hb (k:=k) (by omega) false).2 f2
   rw[e2]at f3
   by_cases c:i<k
   · exact ih f1 i c back
   · have:i=k:=by omega
     subst this
     cases back
     · exact f2
     · exact f3
theorem C9{l:List Int}(hl:l.length=m.places.length)(hb:bnd l):clW m t into (dn m t into l):=by
 obtain⟨h1,h2,h3⟩:=yZ (f:=dm m t into) (fun l=>l.length=m.places.length∧bnd l) ya (fun l ⟨hl,hb⟩=>⟨⟨by unfold dm;rw[dw];exact hl,ig h hl hb _ (Nat.le_refl _)⟩,oE h hl hb _ (Nat.le_refl _)⟩) (ya l+1) l ⟨hl,hb⟩ (Nat.lt_succ_self _)
 intro k hk back c1 c2 c3 c4
 have no:=C8 h (t:=t) (into:=into) h2 h3 m.roads.length (Nat.le_refl _) h1 k hk back
 change (eY m t into k back (dn m t into l)).2=false at no
 rcases yd (m:=m) t into k back (dn m t into l)with⟨_,_,_,_,_,e⟩ | ⟨_,e⟩
 · rw[e]at no;cases no
 · exact Classical.byContradiction fun hc=>e ⟨c1,c2,c3,c4,by omega⟩
theorem Kv{l:List Int}(hl:l.length=m.places.length)(hb:bnd l)(hc:clW m t into l):dn m t into l=l:=by
 apply NW (by rw[(y0 h hl hb).1,hl])
 intro j hj
 exact Int.le_antisymm (Kt h hl hb j) (Ku h hc hl hb (fun _=>Int.le_refl _) j)
theorem AJ(P:Int→Prop){l:List Int}(hl:l.length=m.places.length)(hb:bnd l)(hp:∀x∈l,P x)(ht:∀x,t≤x→x≤2147483648→P x):∀x∈dn m t into l,P x:=
 we h (fun l'=>∀x∈l',P x) (fun l' hl' hb' hp k hk back=>by
  rcases yd (m:=m) t into k back l' with⟨c1,c2,c3,c4,c5,e⟩ | ⟨e,_⟩
  · rw[e]
    intro x hx
    rcases List.mem_or_eq_of_mem_set hx with hx | hx
    · exact hp x hx
    · subst hx;exact ht _ (by omega) c4
  · rw[e];exact hp) hl hb hp
end
theorem y3{m:aK}(h:m.ok){w:Wh}(hl:w.frm.length=m.places.length)(ht:inT w.time)(hp:∀x∈w.frm,plT x)(hc:clW m w.time none w.frm):dq m w=true:=by
 have hb:bnd w.frm:=fun x hx=>nU (hp x hx)
 simp only[dq,qC,Bool.and_eq_true,decide_eq_true_eq,List.all_eq_true,List.mem_range]
 exact⟨⟨⟨by omega,ht⟩,fun j hj=>hp _ (ah hj)⟩,Kv h hl hb hc⟩
theorem y4{m:aK}(h:m.ok){w:Wh}(hv:dq m w=true):clW m w.time none w.frm:=by
 obtain⟨v1,v2,v3,v4⟩:=dH hv
 have:=C9 h (t:=w.time) (into:=none) v1 (fun x hx=>nU (v3 x hx))
 rwa [v4]at this
theorem s9{m:aK}(h:m.ok){l:List Int}(hl:l.length=m.places.length)(hp:∀x∈l,plT x){a b:Int}(ha:0≤a)(hab:a≤b)(hb:inT b):dq m ⟨b,dn m a none l⟩=true:=by
 have bn:bnd l:=fun x hx=>nU (hp x hx)
 exact y3 h (y0 h hl bn).1 hb (AJ h plT hl bn hp (fun x h1 h2=> .inr ⟨by omega,h2⟩)) (GJ hab (C9 h hl bn))
theorem Kw(n:Nat):∀x∈kR n,plT x:=fun x hx=>by rw[List.eq_of_mem_replicate hx];exact .inl rfl
theorem y5{m:aK}(h:m.ok){p t:Int}(h0:0≤p)(h1:p<m.places.length)(ht:inT t):fP m p t=(⟨t,dn m t none ((kR m.places.length).set p.toNat t)⟩,0)∧dq m (fP m p t).1=true:=by
 have e:fP m p t=(⟨t,dn m t none ((kR m.places.length).set p.toNat t)⟩,0):=by
  unfold fP;rw[if_neg (by omega),if_pos ht]
 refine⟨e,?_⟩
 rw[e]
 refine s9 h (by simp) (fun x hx=>?_) ht.1 (Int.le_refl _) ht
 rcases List.mem_or_eq_of_mem_set hx with hx | hx
 · exact Kw _ x hx
 · subst hx;exact .inr ht
theorem GK{w:Wh}{l:List Int}{b:Int}{n:Nat}(hl:∀p∈l,0≤p∧p<n):∀k,k≤l.length→∀j,j<n→nth (zC w l b n k).1 j=if(j:Int)∈l.take k∧nth w.frm j≤b then nth w.frm j else 1099511627776
 | 0,_,j,hj=>by
   rw[if_neg (by simp)]
   exact b8 (by simp[zC,kR,hj])
 | k+1,hk,j,hj=>by
   have ih:=GK (w:=w) (b:=b) hl k (by omega) j hj
   have p:=hl _ (ah (l:=l) (j:=k) (by omega))
   rw[uH (by omega)]
   simp only[zC,wc]
   by_cases e:(j:Int)=nth l k
   · have e2:j=(nth l k).toNat:=by omega
     by_cases c:nth w.frm (nth l k).toNat≤b
     · rw[if_pos c,uO _ _ (by rw[pz];omega),if_pos e2,if_pos ⟨by simp[e],by rw[e2];exact c⟩,e2]
     · rw[if_neg c,ih,if_neg (fun x=>c (by rw[← e2];exact x.2)),if_neg (fun x=>c (by rw[← e2];exact x.2))]
   · have e2:¬j=(nth l k).toNat:=by omega
     have mm:((j:Int)∈l.take k++[nth l k])↔(j:Int)∈l.take k:=by simp[e]
     simp only[mm]
     rw[← ih]
     split
     · rw[uO _ _ (by rw[pz];omega),if_neg e2]
     · rfl
end Go.Ev
namespace Go.Ev
open Go
variable [Lib] [cu] [bP]
structure OfI(m:aK)(p:Nat)(l:List Int):Prop where
 ln:l.length=m.places.length
 bd:bnd l
 z:nth l p=0
theorem OfI.set{m:aK}{p:Nat}{l:List Int}(h:OfI m p l){q:Nat}{x:Int}(hq:q<l.length)(h0:0<x)(hx:x<nth l q):OfI m p (l.set q x):=by
 have b1:=h.bd _ (ah hq)
 refine⟨by rw[List.length_set];exact h.ln,vY h.bd (by omega) (by omega),?_⟩
 rw[uO _ _ hq]
 split
 · rename_i e;subst e;have:=h.z;omega
 · exact h.z
@[go_sem] theorem af4 (H : af) (a b : List T) : Ay H 1 [.t (.sl a), .t (.sl b), .nil] = some (.t (.sl [.sl a, .sl b, .sl []]), H) := by
 simp only[Ay,List.all_cons,List.all_nil,D.cells,T.cells,List.map_cons,List.map_nil,List.length_cons,List.length_nil,bW,frz,depth,eZ,List.flatMap_cons,List.flatMap_nil,pins]
 rfl
def NX(c:Bool):Option Bool→Option Bool
 | some d=>some (c&&d)
 | none=>none
@[go_sem] theorem WM (c d : Bool) : NX c (some d) = some (c && d) := (rfl)
@[go_sem] theorem WN : lB [] [] = some true := (rfl)
@[go_sem] theorem S8 (k : IntKind) (a b : Int) (xs ys : List T) : lB (.int k a :: xs) (.int k b :: ys) = NX (decide (a = b)) (lB xs ys) := by
 simp only[lB,if_true,YF]
 cases lB xs ys<;>rfl
def NY(H:af)(neg:Bool):Option Bool→Option (D×af)
 | some r=>some (.t (.bool (bif neg then !r else r)),H)
 | none=>none
@[go_sem] theorem WO (H : af) (r : Bool) : NY H true (some r) = some (.t (.bool (!r)), H) := (rfl)
@[go_sem] theorem S9 (H : af) (r : Bool) : NY H false (some r) = some (.t (.bool r), H) := (rfl)
@[go_sem] theorem Ta (H : af) (n : Nat) (neg : Bool) (xs ys : List T) : qk H (.ints n) neg (some (.t (.agg xs))) (some (.t (.agg ys))) = if xs.length = n then NY H neg (lB xs ys) else none := by
 simp only[qk,Option.bind_some,Pz,eqD]
 by_cases h:xs.length=n
 · simp only[if_pos h]
   cases lB xs ys with
   | none=>rfl
   | some r=>cases neg<;>rfl
 · simp only[if_neg h];rfl
@[go_sem] theorem WQ : ((2 : Nat) : Int) = 2 := (rfl)
@[go_sem] theorem P8 : ((3 : Nat) : Int) = 3 := (rfl)
def Da(n:Nat)(p:Nat→Bool):Nat:=((List.range n).find? p).getD 0
theorem Kx{gc:Bool}{dead:List Nat}{c:C}{vs:List D}{H:af}(s:Nat→St)(n:Nat)(p:Nat→Bool)(e:Nat→Ex×St)(eN:Ex×St)
 (h0:(⟨jR dead vs,H⟩:St)=s 0)
 (hs:∀j,j<n→p j=false→fh gc dead (s j).H.length (exS aG c (s j))=some (s (j+1)))
 (he:∀j,j<n→p j=true→exS aG c (s j)=some (e j)∧(e j).1≠ .normal)
 (hN:exS aG c (s n)=some eN) (hn:eN.1≠ .normal):
 exS aG (.loop gc dead c) ⟨vs,H⟩=some (if(List.range n).any p=true then e (Da n p)else eN):=by
 rw[bY s n p e eN h0 hs he hN hn,←GB]
 unfold Da
 cases hf:(List.range n).find? p with
 | none=>simp
 | some k=>simp
theorem Tb{α:Type} [Dat α](l:List α)(p:α→Bool):((List.range l.length).any fun j=>p (nth l j))=l.any p:=by
 rw[Bool.eq_iff_iff,List.any_eq_true,List.any_eq_true]
 constructor
 · rintro ⟨j,hj,hp⟩
   exact⟨_,ah (List.mem_range.1 hj),hp⟩
 · rintro ⟨x,hx,hp⟩
   obtain⟨j,hj,rfl⟩:=List.getElem_of_mem hx
   exact⟨j,List.mem_range.2 hj,by rw[b8 (List.getElem?_eq_getElem hj)];exact hp⟩
theorem Ky(n:Nat)(p:Nat→Bool):(List.range n).all p= !((List.range n).any fun j=> !p j):=by
 rw[List.all_eq_not_any_not]
@[go_sem] theorem aak : jN [] [] [] = some true := (rfl)
@[go_sem] theorem aal (ks : List Bool) (k : IntKind) (a b : Int) (xs ys : List T) : jN (true :: ks) (.int k a :: xs) (.int k b :: ys) = NX (decide (a = b)) (jN ks xs ys) := by
 simp only[jN,if_true,YF]
 cases jN ks xs ys<;>rfl
@[go_sem] theorem WR (ks : List Bool) (a b : Bool) (xs ys : List T) : jN (false :: ks) (.bool a :: xs) (.bool b :: ys) = NX (decide (a = b)) (jN ks xs ys) := by
 simp only[jN,show(a==b)=decide (a=b)from rfl]
 cases jN ks xs ys<;>rfl
@[go_sem] theorem adj (H : af) (ks : List Bool) (neg : Bool) (xs ys : List T) : qk H (.sc ks) neg (some (.t (.agg xs))) (some (.t (.agg ys))) = NY H neg (jN ks xs ys) := by
 simp only[qk,Option.bind_some,Pz,eqD]
 cases jN ks xs ys with
 | none=>rfl
 | some r=>cases neg<;>rfl
end Go.Ev
namespace Go.Ev
open Go
section
variable (H : af) (sz id ep n lo hi : Nat) (i j : Int) (fz : Bool)
def scO(r:D):Option Obj→Option (D×af)
 | some (.arr sz' _ ep' es)=>if ep=ep'∧n=es.length then(if sz'=sz then some (r,H)else none)else none
 | _=>none
@[go_sem] theorem af5 (r : D) (sz' : Nat) (pin : Bool) (es : List D) : scO H sz ep n r (some (.arr sz' pin ep es)) = if n = es.length then (if sz' = sz then some (r, H) else none) else none := by simp [scO]
theorem scR{l h:Nat}:((fM H id ep n).bind fun a=>if l≤h∧h≤n∧a.1=sz then some (D.sub id ep n l h)else none).map (fun d=>(d,H))=if l≤h then(if h≤n then scO H sz ep n (.sub id ep n l h) H[id]? else none)else none:=by
 simp only[fM]
 generalize H[id]?=o
 by_cases h1:l≤h
 · by_cases h2:h≤n
   · rw[if_pos h1,if_pos h2]
     rcases o with _ | (_ | ⟨sz',pin,ep',es⟩)
     · rfl
     · rfl
     · simp only[scO]
       by_cases h3:ep=ep'∧n=es.length
       · rw[if_pos h3,if_pos h3,Option.bind_some]
         by_cases h4:sz'=sz
         · rw[if_pos h4,if_pos ⟨h1,h2,h4⟩];rfl
         · rw[if_neg h4,if_neg fun h=>h4 h.2.2];rfl
       · rw[if_neg h3,if_neg h3];rfl
   · rw[if_pos h1,if_neg h2]
     rcases o with _ | (_ | ⟨sz',pin,ep',es⟩)
     · rfl
     · rfl
     · by_cases h3:ep=ep'∧n=es.length
       · simp only[if_pos h3,Option.bind_some];rw[if_neg fun h=>h2 h.2.1];rfl
       · simp only[if_neg h3];rfl
 · rw[if_neg h1]
   rcases o with _ | (_ | ⟨sz',pin,ep',es⟩)
   · rfl
   · rfl
   · by_cases h3:ep=ep'∧n=es.length
     · simp only[if_pos h3,Option.bind_some];rw[if_neg fun h=>h1 h.1];rfl
     · simp only[if_neg h3];rfl
@[go_sem] theorem Tc : CV H sz (some (.ref id ep n)) (some none) (some (some i)) = if 0 ≤ i then (if i ≤ n then scO H sz ep n (.sub id ep n 0 i.toNat) H[id]? else none) else none := by
 simp only[CV,Option.bind_some,m7,bound,idx]
 by_cases h1:0≤i
 · rw[if_pos h1,if_pos h1,Option.bind_some,scR,if_pos (Nat.zero_le _)]
   by_cases h2:i≤n
   · rw[if_pos h2,if_pos (by omega)]
   · rw[if_neg h2,if_neg (by omega)]
 · rw[if_neg h1,if_neg h1];rfl
@[go_sem] theorem Td : CV H sz (some (.ref id ep n)) (some (some i)) (some none) = if 0 ≤ i then (if i ≤ n then scO H sz ep n (.sub id ep n i.toNat n) H[id]? else none) else none := by
 simp only[CV,Option.bind_some,m7,bound,idx]
 by_cases h1:0≤i
 · rw[if_pos h1,if_pos h1,Option.bind_some,scR]
   by_cases h2:i≤n
   · rw[if_pos h2,if_pos (by omega),if_pos (by omega)]
   · rw[if_neg h2,if_neg (by omega)]
 · rw[if_neg h1,if_neg h1];rfl
@[go_sem] theorem NZ : CV H sz (some (.ref id ep n)) (some (some i)) (some (some j)) = if 0 ≤ i then (if i ≤ j then (if j ≤ n then scO H sz ep n (.sub id ep n i.toNat j.toNat) H[id]? else none) else none) else none := by
 simp only[CV,Option.bind_some,m7,bound,idx]
 by_cases h1:0≤i
 · rw[if_pos h1,if_pos h1,Option.bind_some]
   by_cases h0:i≤j
   · rw[if_pos h0,if_pos (by omega),Option.bind_some,scR,if_pos (by omega)]
     by_cases h2:j≤n
     · rw[if_pos h2,if_pos (by omega)]
     · rw[if_neg h2,if_neg (by omega)]
   · rw[if_neg h0]
     by_cases h2:0≤j
     · rw[if_pos h2,Option.bind_some,scR,if_neg (by omega)]
     · rw[if_neg h2];rfl
 · rw[if_neg h1,if_neg h1];rfl
@[go_sem] theorem Te : CV H sz (some .nil) (some none) (some (some i)) = if i = 0 then some (.nil, H) else none := by
 simp only[CV,Option.bind_some,m7,bound,idx]
 by_cases h1:0≤i
 · rw[if_pos h1,Option.bind_some]
   by_cases h2:i=0
   · rw[if_pos h2,if_pos (by omega)];rfl
   · rw[if_neg h2,if_neg (by omega)];rfl
 · rw[if_neg h1,if_neg (by omega)];rfl
@[go_sem] theorem Tf : CV H sz (some .nil) (some (some i)) (some none) = if i = 0 then some (.nil, H) else none := by
 simp only[CV,Option.bind_some,m7,bound,idx]
 by_cases h1:0≤i
 · rw[if_pos h1,Option.bind_some]
   by_cases h2:i=0
   · rw[if_pos h2,if_pos (by omega)];rfl
   · rw[if_neg h2,if_neg (by omega)];rfl
 · rw[if_neg h1,if_neg (by omega)];rfl
def GL(x:D)(ys:List D):Option (D×af):=if cD sz ys=true then(match x with
 | .nil=>if ys.length≤4294967296 then some (.ref H.length 0 ys.length,H++[.arr sz false 0 ys])else none
 | .ref id ep n=>xf H sz id ep n ys H[id]?
 | _=>none)else none
@[go_sem] theorem adk (ys : List D) : GL H sz .nil ys = if cD sz ys = true then (if ys.length ≤ 4294967296 then some (.ref H.length 0 ys.length, H ++ [.arr sz false 0 ys]) else none) else none := (rfl)
@[go_sem] theorem adl (ys : List D) : GL H sz (.ref id ep n) ys = if cD sz ys = true then xf H sz id ep n ys H[id]? else none := (rfl)
@[go_sem] theorem P9 : cD sz [] = true := (rfl)
@[go_sem] theorem BA (d : D) (r : List D) : cD sz (d :: r) = nE sz d.cells := by
 rw[Bool.eq_iff_iff,fA];simp[cD]
def aam(x:D):Option Obj→Option (D×af)
 | some (.arr _ _ ep' es)=>if ep=ep'∧n=es.length then GL H sz x ((es.drop lo).take (hi-lo))else none
 | _=>none
def aan(x:D):Option Obj→Option (D×af)
 | some (.arr _ _ ep' es)=>if ep=ep'∧n=es.length then GL H sz x es else none
 | _=>none
@[go_sem] theorem adm (x : D) (sz' : Nat) (pin : Bool) (es : List D) : aam H sz ep n lo hi x (some (.arr sz' pin ep es)) = if n = es.length then GL H sz x ((es.drop lo).take (hi - lo)) else none := by simp [aam]
@[go_sem] theorem adn (x : D) (sz' : Nat) (pin : Bool) (es : List D) : aan H sz ep n x (some (.arr sz' pin ep es)) = if n = es.length then GL H sz x es else none := by simp [aan]
theorem Kz(x:D)(ys:List D):(if cD sz ys=true then(match x with
 | .nil=>if ys.length≤lim then some (D.ref H.length 0 ys.length,H++[.arr sz false 0 ys])else none
 | .ref id ep n=>(fM H id ep n).bind fun a=>if a.1=sz∧n+ys.length≤lim then some (.ref id ep (n+ys.length),H.set id (.arr sz a.2.1 ep (a.2.2++ys)))else none
 | _=>none)else none)=GL H sz x ys:=by
 unfold GL
 split
 · cases x with
   | ref id ep n=>
     simp only[fM]
     generalize H[id]?=o
     rcases o with _ | (_ | ⟨sz',pin,ep',es⟩)
     · rfl
     · rfl
     · simp only[xf]
       by_cases h1:ep=ep'∧n=es.length
       · rw[if_pos h1,Option.bind_some]
         by_cases h2:sz'=sz∧n+ys.length≤lim
         · rw[if_pos h2,if_pos ⟨h1.1,h1.2,h2⟩]
         · rw[if_neg h2,if_neg fun h=>h2 h.2.2]
       · rw[if_neg h1,if_neg fun h=>h1 ⟨h.1,h.2.1⟩];rfl
   | _=>rfl
 · rfl
theorem wg(x y:D)(ys:List D)(h:elems H y=some ys):oY H sz false (some x) (some y)=GL H sz x ys:=by
 simp only[oY,Option.bind_some,mr,h,Bool.false_eq_true,if_false]
 exact Kz H sz x ys
@[go_sem] theorem MF (x : D) : oY H sz false (some x) (some .nil) = GL H sz x [] := wg H sz x .nil [] rfl
@[go_sem] theorem MG (x : D) : oY H sz false (some x) (some (.ref id ep n)) = aan H sz ep n x H[id]? := by
 cases he:elems H (.ref id ep n)with
 | some ys=>
   rw[wg H sz x _ ys he]
   simp only[elems,fM]at he
   generalize H[id]?=o at he
   rcases o with _ | (_ | ⟨sz',pin,ep',es⟩)
   · cases he
   · cases he
   · simp only[aan]
     by_cases h1:ep=ep'∧n=es.length
     · simp only[if_pos h1]at he ⊢;cases he;rfl
     · simp only[if_neg h1]at he;cases he
 | none=>
   have:oY H sz false (some x) (some (.ref id ep n))=none:=by simp only[oY,Option.bind_some,mr,he];rfl
   rw[this]
   simp only[elems,fM]at he
   generalize H[id]?=o at he
   rcases o with _ | (_ | ⟨sz',pin,ep',es⟩)
   · rfl
   · rfl
   · simp only[aan]
     by_cases h1:ep=ep'∧n=es.length
     · simp only[if_pos h1]at he;cases he
     · simp only[if_neg h1]
@[go_sem] theorem MH (x : D) : oY H sz false (some x) (some (.sub id ep n lo hi)) = aam H sz ep n lo hi x H[id]? := by
 cases he:elems H (.sub id ep n lo hi)with
 | some ys=>
   rw[wg H sz x _ ys he]
   simp only[elems,fM]at he
   generalize H[id]?=o at he
   rcases o with _ | (_ | ⟨sz',pin,ep',es⟩)
   · cases he
   · cases he
   · simp only[aam]
     by_cases h1:ep=ep'∧n=es.length
     · simp only[if_pos h1]at he ⊢;cases he;rfl
     · simp only[if_neg h1]at he;cases he
 | none=>
   have:oY H sz false (some x) (some (.sub id ep n lo hi))=none:=by simp only[oY,Option.bind_some,mr,he];rfl
   rw[this]
   simp only[elems,fM]at he
   generalize H[id]?=o at he
   rcases o with _ | (_ | ⟨sz',pin,ep',es⟩)
   · rfl
   · rfl
   · simp only[aam]
     by_cases h1:ep=ep'∧n=es.length
     · simp only[if_pos h1]at he;cases he
     · simp only[if_neg h1]
def WS(ep n lo hi:Nat):Option Obj→Option (List D)
 | some (.arr _ _ ep' es)=>if ep=ep'∧n=es.length then some ((es.drop lo).take (hi-lo))else none
 | _=>none
def ado(x:D):Option (List D)→Option (D×af)
 | some ys0=>(bW (fun d=>(frz H depth d).map .t) ys0).bind fun ys=>if cD sz ys then GL (pins H (ys0.flatMap (eZ H depth))) sz x ys else none
 | none=>none
@[go_sem] theorem aho (x : D) (ts : List T) : ado H sz x (some (ts.map .t)) = GL H sz x (ts.map .t) := by
 simp only[ado,uy,Option.bind_some,J4,pins]
 by_cases h:cD sz (ts.map D.t)=true
 · rw[if_pos h]
 · rw[if_neg h];unfold GL;rw[if_neg h]
@[go_sem] theorem N0 (x : D) : oY H sz true (some x) (some (.sub id ep n lo hi)) = ado H sz x (WS ep n lo hi H[id]?) := by
 have e:elems H (.sub id ep n lo hi)=WS ep n lo hi H[id]?:=by
  simp only[elems,fM]
  generalize H[id]?=o
  rcases o with _ | (_ | ⟨sz',pin,ep',es⟩)
  · rfl
  · rfl
  · simp only[WS]
    by_cases h1:ep=ep'∧n=es.length
    · simp only[if_pos h1];rfl
    · simp only[if_neg h1];rfl
 simp only[oY,Option.bind_some,mr,e]
 cases WS ep n lo hi H[id]? with
 | none=>rfl
 | some ys0=>
   simp only[Option.bind_some,ado,if_true]
   cases hm:bW (fun d=>(frz H depth d).map D.t) ys0 with
   | none=>rfl
   | some ys=>
     simp only[Option.bind_some]
     refine(Kz _ _ _ _).trans ?_
     by_cases h:cD sz ys=true
     · rw[if_pos h]
     · rw[if_neg h];unfold GL;rw[if_neg h]
@[go_sem] theorem adp (ep n lo hi sz : Nat) (pin : Bool) (ts : List T) : WS ep n lo hi (some (.arr sz pin ep (ts.map .t))) = if n = ts.length then some (((ts.drop lo).take (hi - lo)).map .t) else none := by
 simp only[WS,true_and,List.length_map,List.map_take,List.map_drop]
def KA(ds:List D):Option (D×af):=if ds.all (fun d=>d.cells.length==sz&&d.iF)then some (.ref H.length 0 ds.length,H++[.arr sz false 0 ds])else none
@[go_sem] theorem ahp (call : aJ) (get : X → Option D) (xs : List X) : evO call get H (.bsr xs sz) = (bW get xs).bind (KA H sz) := (rfl)
@[go_sem] theorem aao : KA H sz [] = some (.ref H.length 0 0, H ++ [.arr sz false 0 []]) := (rfl)
@[go_sem] theorem aap (k : IntKind) (n : Int) : KA H 1 [.t (.int k n)] = some (.ref H.length 0 1, H ++ [.arr 1 false 0 [.t (.int k n)]]) := (rfl)
@[go_sem] theorem aaq (cs : List D) : KA H sz [.agg cs] = if nE sz cs = true then some (.ref H.length 0 1, H ++ [.arr sz false 0 [.agg cs]]) else none := by
 simp only[KA,List.all_cons,List.all_nil,Bool.and_true,D.cells,D.iF]
 by_cases h:nE sz cs=true
 · rw[if_pos h,if_pos (by simpa using fA.1 h)];rfl
 · rw[if_neg h,if_neg (by intro e;exact h (fA.2 (by simpa using e)))]
end
@[go_sem] theorem Qa : (1 : Int).toNat = 1 := (rfl)
@[go_sem] theorem Tg : (2 : Int).toNat = 2 := (rfl)
@[go_sem] theorem N1 : (3 : Int).toNat = 3 := (rfl)
section
variable {H t : af} {i j k : Nat} {o o' : Obj}
theorem lE(h:i<H.length):(H++t)[i]?=H[i]?:=List.getElem?_append_left h
theorem oF:(H++t)[H.length]?=t[0]?:=by rw[List.getElem?_append_right (Nat.le_refl _),Nat.sub_self]
theorem ky:(H++t)[H.length+k]?=t[k]?:=by rw[List.getElem?_append_right (Nat.le_add_right _ _),Nat.add_sub_cancel_left]
theorem wm:(H++t).set H.length o=H++t.set 0 o:=by rw[List.set_append_right _ _ (Nat.le_refl _),Nat.sub_self]
theorem wq(h:i<H.length):(H.set i o)[i]?=some o:=by simp[h]
theorem mI(h:i≠j):(H.set i o)[j]?=H[j]?:=List.getElem?_set_ne h
theorem wu:(H.set i o).set i o'=H.set i o':=List.set_set ..
theorem BB(a b:af):(H++a)++b=H++(a++b):=List.append_assoc ..
theorem tc(h:H[i]?=some o):i<H.length:=(List.getElem?_eq_some_iff.1 h).1
end
theorem E1(H:af)(id sz n:Nat)(es:List D)(ts:List T)(hid:H[id]?=some (.arr sz false 0 es))(hn:n=es.length)(hf:bW (frz H 8) es=some ts)(ha:∀i∈es.flatMap (eZ H 8),i≠id):
 finish 0 1 H [.ref id 0 n]=some (.ref 0 0 n,[.arr sz false 0 (ts.map .t)]):=by
 have hold:([D.ref id 0 n].all (old 0 depth)&&(H.take 0).all (fun o=>o.ds.all (old 0 depth)))=false:=by
  simp[old,depth]
 have hmap:∀ {es:List D} {ts:List T},bW (frz H 8) es=some ts→bW (fun d=>(frz H 8 d).map D.t) es=some (ts.map .t):=by
  intro es
  induction es with
  | nil=>intro ts h;simp[bW]at h;subst h;rfl
  | cons e es ih=>
    intro ts h
    simp only[bW,Option.bind_eq_some_iff,Option.map_eq_some_iff]at h
    obtain⟨y,hy,r,hr,rfl⟩:=h
    simp only[bW,hy,Option.map_some,Option.bind_some,ih hr,List.map_cons]
 have hnew:(ed [] [id]).drop 0=[id]:=by simp[ed]
 have hall:(es.flatMap (eZ H 8)).all (fun i=> !([]++[id]).contains i)=true:=by
  rw[List.all_eq_true];intro i hi;simpa using ha i hi
 unfold finish
 rw[if_neg (by omega),Option.bind_some,hold,if_neg (by simp)]
 have hk:kL H (max 1 1) (List.range 0) ([D.ref id 0 n].flatMap (ids depth)++kK H (List.range 0))=some ([id],[.arr sz false 0 (ts.map .t)]):=by
  have e1:[D.ref id 0 n].flatMap (ids depth)++kK H (List.range 0)=[id]:=by simp[ids,depth,kK]
  rw[e1]
  simp only[Nat.max_self,List.range_zero]
  unfold kL
  simp only[List.length_nil,hnew,pick,hid,Option.bind_some,Option.map_some,if_true,List.flatMap_cons,List.flatMap_nil,List.append_nil,Obj.ds,depth,hall,bW,eu,hmap hf]
  simp only[kL,Option.map_some,List.append_nil,Option.bind_some]
 rw[hk]
 simp only[Option.bind_some,List.range_zero,List.nil_append,List.take_zero,iZ,Nat.succ_ne_zero,if_false,Nat.one_ne_zero,List.all_nil,if_true,bW,ren,idxOf,Option.map_some,gN,vG,depth]
 have:=J7 (fun i=>if id=i then some 0 else Option.map (fun x=>x+1) none) ts
 simp only[depth]at this
 rw[this];rfl
end Go.Ev
namespace Go.Ev.N
def KB:Nat:=78
def Ja:Nat:=79
def HU:Nat:=80
def Th:Nat:=81
def MI:Nat:=82
def Ti:Nat:=83
def Tj:Nat:=84
def Tk:Nat:=85
def WT:Nat:=86
def Qb:Nat:=87
def Tm:Nat:=88
def Qc:Nat:=89
def Qd:Nat:=90
def WU:Nat:=91
def Qe:Nat:=92
def WW:Nat:=93
def jk:Nat:=94
def aar:Nat:=95
def Tn:Nat:=96
def WX:Nat:=97
def To:Nat:=98
def Tp:Nat:=99
def Tq:Nat:=100
def WY:Nat:=101
def aas:Nat:=102
def Eb:Nat:=103
def N2:Nat:=104
def cF:Nat:=105
def Qf:Nat:=106
def WZ:Nat:=107
def W4:Nat:=108
def Ts:Nat:=109
def W5:Nat:=110
def W6:Nat:=111
def Tt:Nat:=112
def Tu:Nat:=113
def W7:Nat:=114
def Qg:Nat:=115
def W8:Nat:=116
def W9:Nat:=117
def Qh:Nat:=118
def Qi:Nat:=119
def N3:Nat:=120
def N4:Nat:=121
def GM:Nat:=122
end Go.Ev.N
namespace Go.Ev.N
def KC:Nat:=123
def Jb:Nat:=124
def MJ:Nat:=125
def KD:Nat:=126
def Tv:Nat:=127
def Tw:Nat:=128
def Tx:Nat:=129
def Xa:Nat:=130
def Xb:Nat:=131
def Ty:Nat:=132
def Tz:Nat:=133
def N5:Nat:=134
def N6:Nat:=135
def Xc:Nat:=136
def TA:Nat:=137
def N7:Nat:=138
def Qj:Nat:=139
def MK:Nat:=140
def Qk:Nat:=141
def N8:Nat:=142
def KE:Nat:=143
def KF:Nat:=144
def KG:Nat:=145
def Ql:Nat:=146
def Qm:Nat:=147
def HV:Nat:=148
end Go.Ev.N
namespace Go.Ev.N
def GN:Nat:=149
def KH:Nat:=150
def KI:Nat:=151
def Jc:Nat:=152
def TC:Nat:=153
def TD:Nat:=154
def Qn:Nat:=155
def Qo:Nat:=156
def TE:Nat:=157
def Xd:Nat:=158
def TF:Nat:=159
def Db:Nat:=160
def GO:Nat:=161
def TG:Nat:=162
def Xe:Nat:=163
def Qp:Nat:=164
def Xf:Nat:=165
def Qq:Nat:=166
def dy:Nat:=167
def rL:Nat:=168
def N9:Nat:=169
def Oa:Nat:=170
def HW:Nat:=171
def Ob:Nat:=172
def ij:Nat:=173
def tS:Nat:=174
def KJ:Nat:=175
def KK:Nat:=176
def fD:Nat:=177
end Go.Ev.N
namespace Go.Ev.K
open Go.Ev
def dy:Fn:={ nargs:=1,vars:=[0,1,2],body:=(.seq (.reg [w 1 (.bx v0 2),w 2 (.mv (.b false))] []) (.seq (.reg [h 2 v1,u (.ca N.ij 0 [] [.l 0]),u (.bin .eql l0 (.i 0)),w 2 (.mv l0)] []) .ret)),res:=[(2,none)]}
end Go.Ev.K
namespace Go.Ev
class fW [Lib]:Prop where
 qD:Lib.fs N.dy=some K.dy
namespace K
variable [Lib] [fW]
theorem qD:Lib.fs N.dy=some K.dy:=fW.qD
end K
end Go.Ev
namespace Go.Ev.K
open Go.Ev
def nV:C:=(.its [u (.bin .lss v8 v7)] [] 0 .skip (.exit 0) (.seq (.blk 1 (.seq (.reg [a 2 v6 v8,h 2 l0,w 3 (.al [.t (.int .i64 (0)),.t (.bool false)] []),u (.st l0 l1 2 [])] []) (.ite [f 0 v3,g l0,u (.bin .lss l0 (.i (-10000))),m l0,y 0 false (.fa v3 0),y 1 false (.ld l0 1 false),y 2 false (.bin .gtr l0 (.i 10000)),u (.pk l3 (.b true) l0)] [] 0 (.seq (.reg [w 2 (.mv (.i 1))] []) .ret) .skip))) (.reg [u (.bin .add v8 (.i 1)),w 8 (.mv l0)] [])))
def uP:C:= .loop true [0,2,3,4,5,9,10,11] K.nV
def nW:C:=(.its [u (.bin .lss v11 v10)] [] 0 .skip (.exit 2) (.seq (.blk 3 (.seq (.reg [a 10 v9 v11,h 10 l0,w 5 (.al [.t (.int .i64 (0)),.t (.int .i64 (0)),.t (.int .i64 (0)),.t (.int .i64 (0)),.t (.bool false),.t (.bool false),.t (.int .i64 (0)),.t (.int .i64 (0)),.t (.int .i64 (0)),.t (.int .i64 (0))] []),u (.st l0 l1 10 [])] []) (.seq (.ite [f 0 v5,g l0,u (.bin .lss l0 (.i 0)),m l0,y 0 false (.fa v5 0),y 1 false (.ld l0 1 false),y 2 false (.mv v4),y 3 false (.bin .geq l1 l0),u (.pk l4 (.b true) l0),m l0,y 0 false (.fa v5 1),y 1 false (.ld l0 1 false),y 2 false (.bin .lss l0 (.i 0)),u (.pk l3 (.b true) l0),m l0,y 0 false (.fa v5 1),y 1 false (.ld l0 1 false),y 2 false (.mv v4),y 3 false (.bin .geq l1 l0),u (.pk l4 (.b true) l0),m l0,y 0 false (.fa v5 0),y 1 false (.ld l0 1 false),y 2 false (.fa v5 1),y 3 false (.ld l0 1 false),y 4 false (.bin .eql l2 l0),u (.pk l5 (.b true) l0)] [] 0 (.seq (.reg [w 2 (.mv (.i 4))] []) .ret) .skip) (.seq (.ite [f 2 v5,g l0,u (.bin .lss l0 (.i 1)),m l0,y 0 false (.fa v5 2),y 1 false (.ld l0 1 false),y 2 false (.bin .gtr l0 (.i 100000)),u (.pk l3 (.b true) l0),m l0,y 0 false (.fa v5 3),y 1 false (.ld l0 1 false),y 2 false (.bin .lss l0 (.i 1)),u (.pk l3 (.b true) l0),m l0,y 0 false (.fa v5 3),y 1 false (.ld l0 1 false),y 2 false (.bin .gtr l0 (.i 1000)),u (.pk l3 (.b true) l0)] [] 0 (.seq (.reg [w 2 (.mv (.i 1))] []) .ret) .skip) (.ite [f 6 v5,h 2 l0,u (.ca N.fD 0 [] [.l 0,.i 1,.i 262144]),u (.un .not l0),m l0,y 0 false (.fa v5 8),y 1 false (.ld l0 2 true),y 2 false (.ca N.fD 0 [] [.l 0,.i (-2199023255552),.i 2199023255552]),y 3 false (.un .not l0),u (.pk l4 (.b true) l0)] [] 0 (.seq (.reg [w 2 (.mv (.i 1))] []) .ret) .skip))))) (.reg [u (.bin .add v11 (.i 1)),w 11 (.mv l0)] [])))
def uQ:C:= .loop true [0,1,2,3,5,6,7,8] K.nW
def ij:Fn:={ nargs:=1,vars:=[0,1,2,4,5,7,19,20,21,38,39,40],body:=(.seq (.reg [w 1 (.bx v0 2),w 2 (.mv (.i 0))] []) (.seq (.ite [f 0 v1,g l0,u (.ln l0),u (.bin .gtr l0 (.i 64)),m l0,y 0 false (.fa v1 1),y 1 false (.ld l0 1 false),y 2 false (.ln l0),y 3 false (.bin .gtr l0 (.i 128)),u (.pk l4 (.b true) l0)] [] 0 (.seq (.reg [w 2 (.mv (.i 2))] []) .ret) .skip) (.seq (.seq (.reg [f 0 v1,w 6 (.ld l0 1 false),w 7 (.ln l0),w 8 (.mv (.i 0))] []) (.blk 0 K.uP)) (.seq (.reg [f 0 v1,g l0,u (.ln l0),w 4 (.mv l0)] []) (.seq (.seq (.reg [f 1 v1,w 9 (.ld l0 1 false),w 10 (.ln l0),w 11 (.mv (.i 0))] []) (.blk 2 K.uQ)) (.seq (.reg [w 2 (.mv (.i 0))] []) .ret)))))),res:=[(2,none)]}
def fD:Fn:={ nargs:=3,vars:=[0,1,2,3,6],body:=(.seq (.reg [w 3 (.bx v0 2),w 4 (.mv (.b false))] []) (.seq (.reg [m v1,f 0 v3,g l0,u (.bin .leq l2 l0),m l0,y 0 true (.fa v3 0),y 1 true (.ld l0 1 false),y 2 true (.fa v3 1),y 3 true (.ld l0 1 false),y 4 true (.bin .leq l2 l0),u (.pk l5 l0 (.b false)),m l0,y 0 true (.fa v3 1),y 1 true (.ld l0 1 false),y 2 true (.mv v2),y 3 true (.bin .leq l1 l0),u (.pk l4 l0 (.b false)),w 4 (.mv l0)] []) .ret)),res:=[(4,none)]}
end Go.Ev.K
namespace Go.Ev
class fS [Lib]:Prop where
 qE:Lib.fs N.ij=some K.ij
 pA:Lib.fs N.fD=some K.fD
namespace K
variable [Lib] [fS]
theorem qE:Lib.fs N.ij=some K.ij:=fS.qE
theorem pA:Lib.fs N.fD=some K.fD:=fS.pA
end K
end Go.Ev
namespace Go.Ev
open Go
variable [Lib] [cu] [bP] [fW] [fS]
section
variable (H : af) (sz : Nat)
def Qr(id ep n lo hi:Nat)(ys:List D):Option Obj→Option (D×af)
 | some (.arr sz' pin ep' es)=>if ep=ep'∧n=es.length then Q9 H id ep (sz',pin,es) lo hi ys sz else none
 | _=>none
def cpD(x:D)(ys:List D):Option (D×af):=if cD sz ys=true then(match x with
 | .ref id ep n=>Qr H sz id ep n 0 n ys H[id]?
 | .sub id ep n lo hi=>Qr H sz id ep n lo hi ys H[id]?
 | _=>none)else none
def adq(x y:Option D):Option (D×af):=x.bind fun a=>y.bind fun b=>A3 H a b sz
@[go_sem] theorem aih (call : aJ) (get : X → Option D) (x y : X) : evO call get H (.cp x y sz) = adq H sz (get x) (get y) := (rfl)
theorem GP(x y:D)(ys:List D)(h:elems H y=some ys):A3 H x y sz=cpD H sz x ys:=by
 unfold A3 cpD
 rw[h,Option.bind_some]
 split
 · rename_i hh
   cases x with
   | ref id ep n=>
     simp only[fM,Qr]
     cases H[id]? with
     | none=>rfl
     | some o=>
       cases o with
       | box cs=>rfl
       | arr sz' pin ep' es=>
         simp only
         by_cases c:ep=ep'∧n=es.length
         · rw[if_pos c,if_pos c];rfl
         · rw[if_neg c,if_neg c];rfl
   | sub id ep n lo hi=>
     simp only[fM,Qr]
     cases H[id]? with
     | none=>rfl
     | some o=>
       cases o with
       | box cs=>rfl
       | arr sz' pin ep' es=>
         simp only
         by_cases c:ep=ep'∧n=es.length
         · rw[if_pos c,if_pos c];rfl
         · rw[if_neg c,if_neg c];rfl
   | _=>rfl
 · rfl
@[go_sem] theorem ahq (x : D) (ts : List T) : adq H sz (some x) (some (.t (.sl ts))) = cpD H sz x (ts.map .t) := GP H sz x (.t (.sl ts)) (ts.map .t) rfl
def cpE(x:D)(ep n lo hi:Nat):Option Obj→Option (D×af)
 | some (.arr _ _ ep' es)=>if ep=ep'∧n=es.length then cpD H sz x ((es.drop lo).take (hi-lo))else none
 | _=>none
@[go_sem] theorem af6 (x : D) (n lo hi sz' : Nat) (pin : Bool) (ep : Nat) (es : List D) : cpE H sz x ep n lo hi (some (.arr sz' pin ep es)) = if n = es.length then cpD H sz x ((es.drop lo).take (hi - lo)) else none := by simp [cpE]
@[go_sem] theorem adr (x : D) (id ep n lo hi : Nat) : adq H sz (some x) (some (.sub id ep n lo hi)) = cpE H sz x ep n lo hi H[id]? := by
 unfold adq
 simp only[Option.bind_some]
 cases h:H[id]? with
 | none=>simp[A3,elems,fM,h,cpE]
 | some o=>
   cases o with
   | box cs=>simp[A3,elems,fM,h,cpE]
   | arr sz' pin ep' es=>
     by_cases c:ep=ep'∧n=es.length
     · rw[GP H sz x _ ((es.drop lo).take (hi-lo)) (by simp[elems,fM,h,c])]
       simp only[cpE,if_pos c]
     · simp[A3,elems,fM,h,cpE,c]
@[go_sem] theorem af7 (id ep n : Nat) (ys : List D) : cpD H sz (.ref id ep n) ys = if cD sz ys = true then Qr H sz id ep n 0 n ys H[id]? else none := (rfl)
@[go_sem] theorem af8 (id ep n lo hi : Nat) (ys : List D) : cpD H sz (.sub id ep n lo hi) ys = if cD sz ys = true then Qr H sz id ep n lo hi ys H[id]? else none := (rfl)
@[go_sem] theorem ads (id n lo hi : Nat) (ys : List D) (ep : Nat) (es : List D) : Qr H sz id ep n lo hi ys (some (.arr sz false ep es)) =
 if n=es.length then(if min ys.length (hi-lo)=0 then some (.t (.int .i64 0),H)else some (.t (.int .i64 ((min ys.length (hi-lo):Nat):Int)),H.set id (.arr sz false ep (es.take lo++ys.take (min ys.length (hi-lo))++es.drop (lo+min ys.length (hi-lo))))))else none:=by
 simp[Qr,Q9]
end
end Go.Ev
namespace Go.Ev
open Go
variable [Lib] [cu] [bP]
structure Spn where
 low:Int
 high:Int
instance : Dat Spn := ⟨⟨0, 0⟩⟩
abbrev Spn.e(f:Spn):T:= .agg [tI f.low,tI f.high]
def Spn.ok(f:Spn):Prop:= -1125899906842624≤f.low∧f.high≤1125899906842624∧f.low≤f.high
instance (f : Spn) : Decidable f.ok := by unfold Spn.ok; infer_instance
def KL(m:aK)(l:List Spn):Bool:=(List.range l.length).all (fun j=>decide (nth l j).ok)&&decide (l.length=m.roads.length)
def wy(x:Road)(f:Spn)(back:Bool):Int:=
 if x.closed=true then -1 else
 let g:=if back then -f.low else f.high
 let out:=if 0<g then(x.len*x.area*1000).tdiv g else -1
 if(if back then f.low<500*x.area else -500*x.area<f.high)∧(out<0∨x.len<out)then x.len else out
def aat(l:List Int)(p q:Nat)(t:Int):Bool:=decide (0≤t∧nth l p+t<nth l q)
def af9(l:List Int)(p q:Nat)(t:Int):List Int:=if aat l p q t=true then l.set q (nth l p+t)else l
def Qs(m:aK)(fl:List Spn)(k:Nat)(back:Bool)(l:List Int):List Int×Bool:=
 (af9 l ((nth m.roads k).src back).toNat ((nth m.roads k).dst back).toNat (wy (nth m.roads k) (nth fl k) back),aat l ((nth m.roads k).src back).toNat ((nth m.roads k).dst back).toNat (wy (nth m.roads k) (nth fl k) back))
def aau(m:aK)(fl:List Spn)(k:Nat)(s:List Int×Bool):List Int×Bool:=
 let a:=Qs m fl k false s.1
 let b:=Qs m fl k true a.1
 (b.1,s.2||a.2||b.2)
def KM(m:aK)(fl:List Spn)(l:List Int):Nat→List Int×Bool
 | 0=>(l,false)
 | k+1=>aau m fl k (KM m fl l k)
def TH(m:aK)(fl:List Spn)(l:List Int):List Int×Bool:=KM m fl l m.roads.length
section
variable {m : aK} (h : m.ok) {fl : List Spn}
include h
end
def adt(l:List Int):Nat→List Int
 | 0=>l
 | j+1=>if 2147483648<nth (adt l j) j then(adt l j).set j 1099511627776 else adt l j
def Qt(m:aK)(fl:List Spn)(l:List Int):List Int:=adt (gE (TH m fl) (ya l+1) l) m.places.length
end Go.Ev
namespace Go.Ev
open Go
variable [Lib] [cu] [bP]
def plS(t x:Int):Prop:=x=1099511627776∨(t≤x∧x≤2147483648)
instance (t x : Int) : Decidable (plS t x) := by unfold plS; infer_instance
def KN(m:aK)(s:Wh):Bool:=(List.range s.frm.length).all (fun j=>decide (plS s.time (nth s.frm j)))&&decide (s.frm.length=m.places.length∧inT s.time)
def TI(l:List Int)(t:Int)(n:Nat):List Int:=(List.range n).map fun(p:Nat)=>if(p:Int)∈l then t else 1099511627776
@[simp] theorem aav (l : List Int) (t : Int) (n : Nat) : (TI l t n).length = n := by simp [TI]
def aaw(m:aK)(fl:List Spn)(l:List Int)(t:Int):Wh×Int:=
 if KL m fl=false then(⟨0,[]⟩,6)else if zB l m.places.length=false then(⟨0,[]⟩,3)else if ¬inT t then(⟨0,[]⟩,8)else
 (⟨t,Qt m fl (TI l t m.places.length)⟩,0)
def Qu(m:aK)(fl:List Spn)(frm:List Int)(t:Int)(k:Nat)(back:Bool)(l:List Int):List Int:=
 if nth frm ((nth m.roads k).src back).toNat≤t∧0≤wy (nth m.roads k) (nth fl k) back then l.set ((nth m.roads k).dst back).toNat (min (nth l ((nth m.roads k).dst back).toNat) t)else l
def aax(m:aK)(fl:List Spn)(frm:List Int)(t:Int)(k:Nat)(l:List Int):List Int:=Qu m fl frm t k true (Qu m fl frm t k false l)
def chN(m:aK)(fl:List Spn)(frm:List Int)(t:Int):Nat→List Int
 | 0=>frm
 | k+1=>aax m fl frm t k (chN m fl frm t k)
def aga(t:Int)(l:List Int):Nat→List Int
 | 0=>l
 | k+1=>(aga t l k).set k (max (nth (aga t l k) k) t)
def TJ(m:aK)(old:List Spn)(next:aK)(fl:List Spn)(s:Wh)(t:Int):Wh×Int:=
 if KN m s=false∨KL m old=false∨KL next fl=false∨next.places.length≠m.places.length then(s,6)else
 if t<s.time∨2147483648<t then(s,8)else(⟨t,Qt next fl (aga t (chN m old s.frm t m.roads.length) m.places.length)⟩,0)
end Go.Ev
namespace Go.Ev
open Go
variable [Lib] [cu] [bP] [fW] [fS]
theorem Dc(a b lo hi:Int)(h1:lo≤a)(h2:a≤b)(h3:b≤hi):aG 0 N.fD [.t (.agg [tI a,tI b]),I lo,I hi] []=some (B true,[]):=by
 refine av K.pA rfl ?_
 simp (disch:=omega) only[go_sem,K.fD,↓reduceIte,Nat.reduceAdd,Nat.reduceSub]
theorem Dd{m:aK}(h:m.ok):aG 0 N.ij [.t m.e] []=some (I 0,[]):=by
 refine av K.qE rfl ?_
 have np:=h.np
 have nr:=h.nr
 have hs:=h.hs
 have rs:=h.rs
 obtain⟨places,roads⟩:=m
 simp only at np nr hs rs
 have l1:∀z0 z2 z3 z4 z5 z9 z10 z11:D,exS aG K.uP ⟨[z0,.bp 0 0,z2,z3,z4,z5,.t (.sl (places.map Place.e)),I places.length,I 0,z9,z10,z11],[.box (aa ⟨places,roads⟩)]⟩=
  some (.exit 0,⟨[.und,.bp 0 0,.und,.und,.und,.und,.t (.sl (places.map Place.e)),I places.length,I places.length,.und,.und,.und],[.box (aa ⟨places,roads⟩)]⟩):=by
  intro z0 z2 z3 z4 z5 z9 z10 z11
  refine b7 (fun j=>⟨[.und,.bp 0 0,.und,.und,.und,.und,.t (.sl (places.map Place.e)),I places.length,I j,.und,.und,.und],[.box (aa ⟨places,roads⟩)]⟩) places.length rfl ?_ ?_ (by simp)
  · intro j hj
    have g:(places.map Place.e)[j]?=some (nth places j).e:=eU _ hj
    have q:=hs _ (ah hj)
    generalize nth places j=x at*
    obtain⟨hh,sf⟩:=x
    simp only[aa]at*
    simp (disch:=omega) only[go_sem,K.nV,↓reduceIte,g,Nat.reduceAdd,Nat.reduceSub]
  · simp (disch:=omega) only[go_sem,K.nV,↓reduceIte,aa,Nat.reduceAdd,Nat.reduceSub]
 have l2:∀z0 z1 z2 z3 z5 z6 z7 z8:D,exS aG K.uQ ⟨[z0,z1,z2,z3,I places.length,z5,z6,z7,z8,.t (.sl (roads.map Road.e)),I roads.length,I 0],[.box (aa ⟨places,roads⟩)]⟩=
  some (.exit 2,⟨[.und,.und,.und,.und,I places.length,.und,.und,.und,.und,.t (.sl (roads.map Road.e)),I roads.length,I roads.length],[.box (aa ⟨places,roads⟩)]⟩):=by
  intro z0 z1 z2 z3 z5 z6 z7 z8
  refine b7 (fun j=>⟨[.und,.und,.und,.und,I places.length,.und,.und,.und,.und,.t (.sl (roads.map Road.e)),I roads.length,I j],[.box (aa ⟨places,roads⟩)]⟩) roads.length rfl ?_ ?_ (by simp)
  · intro j hj
    have g:(roads.map Road.e)[j]?=some (nth roads j).e:=eU _ hj
    have q:=rs _ (ah hj)
    generalize nth roads j=x at*
    have f0:=q.f0;have f1:=q.f1;have t0:=q.t0;have t1:=q.t1;have ne:=q.ne;have l0:=q.l0;have l1:=q.l1;have a0:=q.a0;have a1:=q.a1
    have r0:=q.r0;have r1:=q.r1;have r2:=q.r2;have i0:=q.i0;have i1:=q.i1;have i2:=q.i2
    clear q
    obtain⟨frm,to,len,area,walk,closed,rl,rh,ll,lh⟩:=x
    simp only[aa]at*
    have s1:=Dc rl rh 1 262144 r0 r1 r2
    have s2:=Dc ll lh (-2199023255552) 2199023255552 i0 i1 i2
    simp (disch:=omega) only[go_sem,K.nW,↓reduceIte,g,s1,s2,Nat.reduceAdd,Nat.reduceSub]
  · simp (disch:=omega) only[go_sem,K.nW,↓reduceIte,aa,Nat.reduceAdd,Nat.reduceSub]
 simp only[aa]at l1 l2
 simp (disch:=omega) only[go_sem,K.ij,↓reduceIte,l1,l2,Nat.reduceAdd,Nat.reduceSub]
theorem kS{m:aK}(h:m.ok):aG 0 N.dy [.t m.e] []=some (B true,[]):=by
 refine av K.qD rfl ?_
 have c:=Dd h
 obtain⟨places,roads⟩:=m
 simp (disch:=omega) only[go_sem,K.dy,↓reduceIte,c,Nat.reduceAdd,Nat.reduceSub]
end Go.Ev
namespace Go.Ev.N
def HX:Nat:=178
def HY:Nat:=179
def Jd:Nat:=180
def HZ:Nat:=181
def Je:Nat:=182
def KO:Nat:=183
def Jf:Nat:=184
def TK:Nat:=185
def Qv:Nat:=186
def TL:Nat:=187
def KP:Nat:=188
def TM:Nat:=189
def eC:Nat:=190
def Qw:Nat:=191
def Xg:Nat:=192
def Oc:Nat:=193
def gO:Nat:=194
def TN:Nat:=195
def Xh:Nat:=196
def aay:Nat:=197
def ML:Nat:=198
def cj:Nat:=199
def ea:Nat:=200
def cP:Nat:=201
def aV:Nat:=202
def Qx:Nat:=203
def aL:Nat:=204
def b9:Nat:=205
def TO:Nat:=206
def Qy:Nat:=207
def dg:Nat:=208
def aW:Nat:=209
def bJ:Nat:=210
def jm:Nat:=211
def jq:Nat:=212
def dS:Nat:=213
def ik:Nat:=214
end Go.Ev.N
namespace Go.Ev.K
open Go.Ev
def eC:Fn:={ nargs:=2,vars:=[0,1,2,3,4],body:=(.seq (.reg [w 2 (.bx v0 2),w 3 (.bx v1 2),w 4 (.mv (.b false))] []) (.seq (.reg [h 2 v2,u (.ca N.dy 0 [] [.l 0]),m l0,y 0 true (.ld v2 2 true),y 1 true (.ld v3 2 true),y 2 true (.ca N.cP 0 [] [.l 1,.l 0]),u (.pk l3 l0 (.b false)),m l0,y 0 true (.ld v2 2 true),y 1 true (.fa v3 1),y 2 true (.ld l0 1 false),y 3 true (.fa v3 0),y 4 true (.ld l0 1 false),y 5 true (.ca N.cj 0 [] [.l 4,.l 2,.l 0,.c (.fn N.ea [])]),y 6 true (.fa v3 1),y 7 true (.ld l0 1 false),y 8 true (.ca N.aV 0 [] [.l 2,.l 0]),u (.pk l9 l0 (.b false)),w 4 (.mv l0)] [(15,6)]) .ret)),res:=[(4,none)]}
end Go.Ev.K
namespace Go.Ev
class iR [Lib]:Prop where
 nX:Lib.fs N.eC=some K.eC
namespace K
variable [Lib] [iR]
theorem nX:Lib.fs N.eC=some K.eC:=iR.nX
end K
end Go.Ev
namespace Go.Ev.K
open Go.Ev
def gO:Fn:={ nargs:=3,vars:=[0,1,2,3,4,6,7],body:=(.seq (.reg [w 3 (.bx v0 2),w 4 (.bx v1 2),w 5 (.al [.t (.int .i64 (0)),.nil] []),w 6 (.mv (.i 0))] []) (.seq (.ite [h 2 v3,u (.ca N.dy 0 [] [.l 0]),u (.un .not l0),m l0,y 0 false (.ld v3 2 true),y 1 false (.ld v4 2 true),y 2 false (.ca N.cP 0 [] [.l 1,.l 0]),y 3 false (.un .not l0),u (.pk l4 (.b true) l0)] [] 0 (.seq (.reg [h 2 v4,u (.st v5 l0 2 []),w 6 (.mv (.i 6))] []) .ret) .skip) (.seq (.ite [m v2,f 0 v4,g l0,u (.bin .lss l2 l0),m l0,y 0 false (.mv v2),y 1 false (.bin .gtr l0 (.i 2147483648)),u (.pk l2 (.b true) l0)] [] 0 (.seq (.reg [h 2 v4,u (.st v5 l0 2 []),w 6 (.mv (.i 8))] []) .ret) .skip) (.seq (.reg [m v2,h 2 v3,f 1 v4,g l0,m v2,u (.ca N.cj 0 [] [.l 3,.l 1,.l 0,.c (.fn N.ea [])]),u (.bd [.t (.int .i64 (0)),.nil] [(0,1,.l 5),(1,1,.l 0)]),u (.st v5 l0 2 []),w 6 (.mv (.i 0))] []) .ret)))),res:=[(5,some (2,true)),(6,none)]}
def cX:C:=(.seq (.ite [g v9] [] 0 .skip (.exit 0)) (.seq (.blk 1 (.seq (.reg [u (.st v9 (.b false) 1 [])] []) (.reg [h 2 v4,g v8,u (.mf N.aW [.v 5,.v 8,.v 6,.v 9]),u (.ca N.dg 0 [1] [.l 2,.l 1,.l 0])] []))) (.seq (.reg [w 10 (.ld v9 1 false)] []) (.reg [w 9 (.al [.t (.bool false)] []),u (.st l0 v10 1 [])] []))))
def kz:C:= .loop false [0,1,2,3,7,10] K.cX
def cj:Fn:={ nargs:=4,vars:=[0,1,2,3,4,6,7,8,9,10,18],body:=(.seq (.reg [w 4 (.bx v0 2),w 5 (.bx v2 1),w 6 (.bx v3 1),w 7 (.mv (.c (.nil)))] []) (.seq (.reg [m v1,u (.ca N.aL 1 [] [.l 0]),w 8 (.al [.nil] []),u (.st l0 l1 1 [])] []) (.seq (.seq (.reg [w 9 (.al [.t (.bool false)] []),u (.st l0 (.b true) 1 [])] []) (.blk 0 K.kz)) (.seq (.reg [g v8,w 7 (.mv l0)] []) .ret)))),res:=[(7,none)]}
def ea:Fn:={ nargs:=1,vars:=[2],body:=(.seq (.reg [w 0 (.mv (.b false))] []) (.seq (.reg [w 0 (.mv (.b true))] []) .ret)),res:=[(0,none)]}
def cP:Fn:={ nargs:=2,vars:=[0,1,2,3,4],body:=(.seq (.reg [w 2 (.bx v0 2),w 3 (.bx v1 2),w 4 (.mv (.b false))] []) (.seq (.reg [f 1 v3,g l0,u (.ln l0),f 0 v2,g l0,u (.ln l0),u (.bin .eql l3 l0),m l0,y 0 true (.fa v3 0),y 1 true (.ld l0 1 false),y 2 true (.ca N.dF 0 [] [.l 0,.i 0,.i 2147483648]),u (.pk l3 l0 (.b false)),m l0,y 0 true (.fa v3 1),y 1 true (.ld l0 1 false),y 2 true (.ca N.aD 0 [] [.l 0,.c (.fn N.bJ [])]),y 3 true (.un .not l0),u (.pk l4 l0 (.b false)),w 4 (.mv l0)] []) .ret)),res:=[(4,none)]}
def eJ:C:=(.its [u (.bin .lss v5 v4)] [] 0 .skip (.exit 0) (.seq (.blk 1 (.seq (.reg [m v5,w 3 (.mv l0)] []) (.ite [m v0,m v3,a 1 l1 l0,g l0,m v1,m v3,a 1 l1 l0,g l0,u (.bin .neq l4 l0)] [] 0 (.seq (.reg [w 2 (.mv (.b false))] []) .ret) .skip))) (.reg [u (.bin .add v5 (.i 1)),w 5 (.mv l0)] [])))
def j6:C:= .loop true [2,3] K.eJ
def aV:Fn:={ nargs:=2,vars:=[0,1,4,5,12,13],body:=(.seq (.reg [w 2 (.mv (.b false))] []) (.seq (.ite [m v0,u (.ln l0),m v1,u (.ln l0),u (.bin .neq l2 l0)] [] 0 (.seq (.reg [w 2 (.mv (.b false))] []) .ret) .skip) (.seq (.seq (.reg [m v0,w 4 (.ln l0),w 5 (.mv (.i 0))] []) (.blk 0 K.j6)) (.seq (.reg [w 2 (.mv (.b true))] []) .ret)))),res:=[(2,none)]}
def aL:Fn:={ nargs:=1,vars:=[0,2],body:=(.seq (.reg [w 1 (.mv (.c (.nil)))] []) (.itk [m v0,u (.eqk (.sl) false l0 (.c (.nil)))] [] 0 (.seq (.reg [w 1 (.nw 1)] []) .ret) .skip (.seq (.reg [u (.bsr [] 1),m v0,u (.app l1 l0 false 1),w 1 (.mv l0)] []) .ret))),res:=[(1,none)]}
def b9:Fn:={ nargs:=2,vars:=[0,1,3],body:=(.seq (.reg [w 2 (.mv (.b false))] []) (.seq (.reg [g v1,m v0,u (.ca N.aE 0 [] [.l 1,.l 0]),w 2 (.mv l0)] []) .ret)),res:=[(2,none)]}
def ec:C:=(.its [u (.bin .lss v14 (.i 2))] [] 0 .skip (.exit 2) (.seq (.blk 3 (.seq (.reg [u (.ix v13 v14 2 1 false),w 6 (.mv l0)] []) (.seq (.reg [f 0 v5,g l0,f 1 v5,g l0,w 7 (.mv l2),w 8 (.mv l1)] []) (.seq (.ite [m v6] [] 0 (.reg [m v8,m v7,w 7 (.mv l1),w 8 (.mv l1)] []) .skip) (.seq (.reg [h 2 v3,m v4,m v6,u (.ca N.jm 0 [] [.l 2,.l 1,.l 0]),w 9 (.mv l0)] []) (.ite [m v9,u (.bin .geq l0 (.i 0)),m l0,y 0 true (.mv v1),y 1 true (.mv v7),y 2 true (.ia l1 l0 1),y 3 true (.ld l0 1 false),y 4 true (.bin .lss l0 (.i 1099511627776)),u (.pk l5 l0 (.b false))] [] 0 (.reg [m v2,m v7,m v8,m v1,m v7,a 1 l1 l0,g l0,m v9,u (.bin .add l1 l0),u (.cw l8 0 [] [.l 7,.l 6,.l 0])] []) .skip)))))) (.reg [u (.bin .add v14 (.i 1)),w 14 (.mv l0)] [])))
def nq:C:= .loop true [0,6,7,8,9] K.ec
def gQ:C:=(.its [u (.bin .lss v12 v11)] [] 0 .skip (.exit 0) (.seq (.blk 1 (.seq (.reg [m v12,a 10 v10 v12,h 10 l0,w 5 (.al [.t (.int .i64 (0)),.t (.int .i64 (0)),.t (.int .i64 (0)),.t (.int .i64 (0)),.t (.bool false),.t (.bool false),.t (.int .i64 (0)),.t (.int .i64 (0)),.t (.int .i64 (0)),.t (.int .i64 (0))] []),w 4 (.mv l3),u (.st l1 l2 10 [])] []) (.seq (.reg [w 13 (.bd [.t (.bool false),.t (.bool false)] [(0,1,.b false),(1,1,.b true)]),w 14 (.mv (.i 0))] []) (.blk 2 K.nq)))) (.reg [u (.bin .add v12 (.i 1)),w 12 (.mv l0)] [])))
def ns:C:= .loop true [0,4,5,6,7,8,9,13,14] K.gQ
def dg:Fn:={ nargs:=3,vars:=[0,1,2,3,6,7,9,10,11,12,14,15,16,21,22],body:=(.seq (.reg [w 3 (.bx v0 2)] []) (.seq (.reg [f 1 v3,w 10 (.ld l0 1 false),w 11 (.ln l0),w 12 (.mv (.i 0))] []) (.blk 0 K.ns))),res:=[]}
def aW:Fn:={ nargs:=7,vars:=[1,2,3,4,5,6],body:=(.seq (.reg [m v1,g v2,u (.mx [.l 1,.l 0]),w 1 (.mv l0)] []) (.ite [m v1,u (.bin .leq l0 (.i 2147483648)),m l0,y 0 true (.mv v1),y 1 true (.ld v3 1 false),y 2 true (.mv v0),y 3 true (.ia l1 l0 1),y 4 true (.ld l0 1 false),y 5 true (.bin .lss l4 l0),u (.pk l6 l0 (.b false)),m l0,y 0 true (.ld v4 1 false),y 1 true (.mv v0),y 2 true (.cw l1 0 [] [.l 0]),u (.pk l3 l0 (.b false))] [] 0 (.reg [g v3,m v0,m v1,a 1 l2 l1,u (.st l0 l1 1 []),u (.st v5 (.b true) 1 [])] []) .skip)),res:=[]}
def bJ:Fn:={ nargs:=1,vars:=[0,2],body:=(.seq (.reg [w 1 (.mv (.b false))] []) (.seq (.reg [m v0,u (.bin .neq l0 (.i 1099511627776)),m l0,y 0 true (.mv v0),y 1 true (.ca N.dF 0 [] [.l 0,.i 0,.i 2147483648]),y 2 true (.un .not l0),u (.pk l3 l0 (.b false)),w 1 (.mv l0)] []) .ret)),res:=[(1,none)]}
def jm:Fn:={ nargs:=3,vars:=[0,1,2,3,6],body:=(.seq (.reg [w 3 (.bx v0 2),w 4 (.mv (.i 0))] []) (.seq (.ite [h 2 v3,u (.ca N.dy 0 [] [.l 0]),u (.un .not l0),m l0,y 0 false (.mv v1),y 1 false (.bin .lss l0 (.i 0)),u (.pk l2 (.b true) l0),m l0,y 0 false (.mv v1),y 1 false (.fa v3 1),y 2 false (.ld l0 1 false),y 3 false (.ln l0),y 4 false (.bin .geq l3 l0),u (.pk l5 (.b true) l0)] [] 0 (.seq (.reg [w 4 (.mv (.i (-1)))] []) .ret) .skip) (.seq (.reg [h 2 v3,m v1,m v2,u (.ca N.jq 0 [] [.l 2,.l 1,.l 0]),w 4 (.mv l0)] []) .ret))),res:=[(4,none)]}
def jq:Fn:={ nargs:=3,vars:=[0,1,2,3,6],body:=(.seq (.reg [w 3 (.bx v0 2),w 4 (.mv (.i 0))] []) (.seq (.reg [h 2 v3,m v1,m v2,u (.ca N.ik 0 [] []),u (.ca N.dS 0 [] [.l 3,.l 2,.l 1,.l 0]),w 4 (.mv l0)] [(0,4)]) .ret)),res:=[(4,none)]}
def dS:Fn:={ nargs:=4,vars:=[0,1,2,3,4,7,8,9,10,11],body:=(.seq (.reg [w 4 (.bx v0 2),w 5 (.bx v3 3),w 6 (.mv (.i 0))] []) (.seq (.reg [f 1 v4,g l0,m v1,a 10 l1 l0,h 10 l0,w 7 (.al [.t (.int .i64 (0)),.t (.int .i64 (0)),.t (.int .i64 (0)),.t (.int .i64 (0)),.t (.bool false),.t (.bool false),.t (.int .i64 (0)),.t (.int .i64 (0)),.t (.int .i64 (0)),.t (.int .i64 (0))] []),u (.st l0 l1 10 [])] []) (.seq (.ite [f 5 v7,g l0,m l0,y 0 false (.fa v7 4),y 1 false (.ld l0 1 false),y 2 false (.un .not l0),u (.pk l3 (.b true) l0)] [] 0 (.seq (.reg [w 6 (.mv (.i (-1)))] []) .ret) .skip) (.seq (.reg [f 0 v4,g l0,f 1 v7,g l0,a 2 l2 l0,f 0 l0,g l0,f 0 v4,g l0,f 0 v7,g l0,a 2 l2 l0,f 0 l0,g l0,u (.bin .sub l7 l0),w 8 (.mv l0)] []) (.seq (.ite [m v2] [] 0 (.reg [m v8,u (.un .neg l0),w 8 (.mv l0)] []) .skip) (.seq (.reg [f 2 v5,g l0,w 9 (.mv l0)] []) (.seq (.blk 0 (.ite [m v8,u (.bin .mul (.i 10) l0),f 2 v7,g l0,u (.bin .gtr l2 l0),m l0] [] 0 (.reg [f 0 v5,g l0,w 9 (.mv l0)] []) (.ite [m v8,u (.bin .mul (.i (-10)) l0),f 2 v7,g l0,u (.bin .gtr l2 l0),m l0] [] 0 (.reg [f 1 v5,g l0,w 9 (.mv l0)] []) .skip))) (.seq (.reg [f 2 v7,g l0,u (.bin .mul (.i 10) l0),m v9,u (.bin .add l1 l0),u (.bin .sub l0 (.i 1)),m v9,u (.bin .quo l1 l0),w 6 (.mv l0)] []) .ret)))))))),res:=[(6,none)]}
def ik:Fn:={ nargs:=0,vars:=[0],body:=(.seq (.reg [w 0 (.al [.t (.int .i64 (0)),.t (.int .i64 (0)),.t (.int .i64 (0))] [])] []) (.seq (.reg [u (.bd [.t (.int .i64 (0)),.t (.int .i64 (0)),.t (.int .i64 (0))] [(0,1,.i 6),(1,1,.i 9),(2,1,.i 12)]),u (.st v0 l0 3 [])] []) .ret)),res:=[(0,some (3,true))]}
end Go.Ev.K
namespace Go.Ev
class gF [Lib]:Prop where
 sy:Lib.fs N.gO=some K.gO
 jy:Lib.fs N.cj=some K.cj
 qF:Lib.fs N.ea=some K.ea
 mJ:Lib.fs N.cP=some K.cP
 ir:Lib.fs N.aV=some K.aV
 iu:Lib.fs N.aL=some K.aL
 kB:Lib.fs N.b9=some K.b9
 kC:Lib.fs N.dg=some K.dg
 j7:Lib.fs N.aW=some K.aW
 kD:Lib.fs N.bJ=some K.bJ
 te:Lib.fs N.jm=some K.jm
 tn:Lib.fs N.jq=some K.jq
 tu:Lib.fs N.dS=some K.dS
 qG:Lib.fs N.ik=some K.ik
namespace K
variable [Lib] [gF]
theorem sy:Lib.fs N.gO=some K.gO:=gF.sy
theorem jy:Lib.fs N.cj=some K.cj:=gF.jy
theorem qF:Lib.fs N.ea=some K.ea:=gF.qF
theorem mJ:Lib.fs N.cP=some K.cP:=gF.mJ
theorem ir:Lib.fs N.aV=some K.aV:=gF.ir
theorem iu:Lib.fs N.aL=some K.aL:=gF.iu
theorem kB:Lib.fs N.b9=some K.b9:=gF.kB
theorem kC:Lib.fs N.dg=some K.dg:=gF.kC
theorem j7:Lib.fs N.aW=some K.aW:=gF.j7
theorem kD:Lib.fs N.bJ=some K.bJ:=gF.kD
theorem te:Lib.fs N.jm=some K.jm:=gF.te
theorem tn:Lib.fs N.jq=some K.jq:=gF.tn
theorem tu:Lib.fs N.dS=some K.dS:=gF.tu
theorem qG:Lib.fs N.ik=some K.ik:=gF.qG
end K
end Go.Ev
namespace Go.Ev
open Go
variable [Lib] [cu] [bP] [fW] [fS] [iR] [gF]
abbrev sA(l:List Int):Obj:= .arr 1 false 0 ((l.map (T.int .i64)).map .t)
theorem KQ(l:List Int)(hl:l.length≤1000000):aG 1 N.aL [.t (tL l)] []=some (.ref 0 0 l.length,[sA l]):=by
 refine av K.iu rfl ?_
 by_cases h0:l=[]
 · subst h0
   simp only[tL,List.map_nil]
   simp (disch:=omega) only[go_sem,K.aL,↓reduceIte,List.map_nil,List.length_nil,Nat.reduceAdd,Nat.reduceSub]
   rfl
 · have e:=fun H=>Gj H (l.map (T.int .i64)) (by simpa using h0)
   simp (disch:=omega) only[go_sem,K.aL,↓reduceIte,e,Nat.reduceAdd,Nat.reduceSub]
theorem GQ(a b:List Int)(hl:a.length≤4294967296)(hl2:b.length≤4294967296):aG 0 N.aV [.t (tL a),.t (tL b)] []=some (B (decide (a=b)),[]):=by
 refine av K.ir rfl ?_
 by_cases hlen:a.length=b.length
 · have loop:∀z2 z3:D,exS aG K.j6 ⟨[.t (tL a),.t (tL b),z2,z3,I a.length,I 0],[]⟩=
    some (match (List.range a.length).find? (fun j=>decide (nth a j≠nth b j))with
     | some j=>(.ret,⟨[.t (tL a),.t (tL b),B false,I j,I a.length,I j],[]⟩)
     | none=>(.exit 0,⟨[.t (tL a),.t (tL b),.und,.und,I a.length,I a.length],[]⟩)):=by
    intro z2 z3
    refine bY (fun j=>⟨[.t (tL a),.t (tL b),.und,.und,I a.length,I j],[]⟩) a.length (fun j=>decide (nth a j≠nth b j)) _ _ rfl ?_ ?_ ?_ (by simp)
    · intro j hj hp
      have hp:nth a j=nth b j:=by simpa using hp
      simp (disch:=omega) only[go_sem,K.eJ,↓reduceIte,Nat.reduceAdd,Nat.reduceSub]
    · intro j hj hp
      have hp:nth a j≠nth b j:=by simpa using hp
      simp (disch:=omega) only[go_sem,K.eJ,↓reduceIte,Nat.reduceAdd,Nat.reduceSub]
      simp
    · simp (disch:=omega) only[go_sem,K.eJ,↓reduceIte,Nat.reduceAdd,Nat.reduceSub]
   have e:(a=b)↔(List.range a.length).find? (fun j=>decide (nth a j≠nth b j))=none:=by
    rw[List.find?_eq_none]
    constructor
    · intro h j _;simp[h]
    · intro h
      apply List.ext_getElem?
      intro j
      by_cases hj:j<a.length
      · rw[ff hj,ff (by omega)]
        have:=h j (List.mem_range.2 hj)
        simpa using this
      · rw[List.getElem?_eq_none (by omega),List.getElem?_eq_none (by omega)]
   cases hf:(List.range a.length).find? (fun j=>decide (nth a j≠nth b j))with
   | some j=>
     rw[hf]at e loop
     have e:¬a=b:=fun h=>by have:=e.1 h;cases this
     simp (disch:=omega) only[go_sem,K.aV,↓reduceIte,loop,e,decide_false,Nat.reduceAdd,Nat.reduceSub]
   | none=>
     rw[hf]at e loop
     have e:a=b:=e.2 rfl
     simp (disch:=omega) only[go_sem,K.aV,↓reduceIte,loop,decide_eq_true e,Nat.reduceAdd,Nat.reduceSub]
 · have hne:a≠b:=fun h=>hlen (by rw[h])
   simp (disch:=omega) only[go_sem,K.aV,↓reduceIte,hne,decide_false,Nat.reduceAdd,Nat.reduceSub]
theorem Od:aG 0 N.ik [] []=some (.t (.agg [tI 6,tI 9,tI 12]),[]):=by
 refine av K.qG rfl ?_
 simp (disch:=omega) only[go_sem,K.ik,↓reduceIte,Nat.reduceAdd,Nat.reduceSub]
theorem KR{m:aK}(h:m.ok)(k:Nat)(hk:k<m.roads.length)(back:Bool)(up down level:Int)(hu:1≤up)(hu2:up≤100)(hd:1≤down)(hd2:down≤100)(hl:1≤level)(hl2:level≤100):
 aG 0 N.dS [.t m.e,I k,B back,.t (.agg [tI up,tI down,tI level])] []=some (I (gk m k back up down level),[]):=by
 refine av K.tu rfl ?_
 have nr:=h.nr
 have np:=h.np
 obtain⟨f0,f1,t0,t1, -,l0,l1, -, -, -, -, -, -, -, -⟩:=h.rs _ (ah hk)
 have b1:=h.hs _ (ah (l:=m.places) (j:=(nth m.roads k).frm.toNat) (by omega))
 have b2:=h.hs _ (ah (l:=m.places) (j:=(nth m.roads k).to.toNat) (by omega))
 have g:(m.roads.map Road.e)[k]?=some (nth m.roads k).e:=eU _ hk
 have p1:(m.places.map Place.e)[(nth m.roads k).frm.toNat]?=some (nth m.places (nth m.roads k).frm.toNat).e:=eU _ (by omega)
 have p2:(m.places.map Place.e)[(nth m.roads k).to.toNat]?=some (nth m.places (nth m.roads k).to.toNat).e:=eU _ (by omega)
 have key:∀h1 h2:Int, -10000≤h1→h1≤10000→ -10000≤h2→h2≤10000→IntKind.i64.wrap (h1-h2)=h1-h2∧IntKind.i64.wrap (-(h1-h2))=h2-h1:=fun h1 h2 _ _ _ _=>⟨sO (by omega) (by omega),by rw[sO (by omega) (by omega)];omega⟩
 unfold gk
 generalize nth m.roads k=x at*
 obtain⟨frm,to,len,area,walk,closed,rl,rh,ll,lh⟩:=x
 simp only at f0 f1 t0 t1 l0 l1 b1 b2 p1 p2 ⊢
 cases closed with
 | true=>
   obtain⟨places,roads⟩:=m
   simp (disch:=omega) only[go_sem,K.dS,↓reduceIte,g,Nat.reduceAdd,Nat.reduceSub]
 | false=>
   cases walk with
   | false=>
     obtain⟨places,roads⟩:=m
     simp (disch:=omega) only[go_sem,K.dS,↓reduceIte,g,Nat.reduceAdd,Nat.reduceSub]
   | true=>
     have g1:=s5 (a:=10*len+up-1) (b:=up) (by omega) hu
     have g2:=s5 (a:=10*len+down-1) (b:=down) (by omega) hd
     have g3:=s5 (a:=10*len+level-1) (b:=level) (by omega) hl
     cases back with
     | true=>
       simp only[↓reduceIte]
       generalize nth m.places frm.toNat=q1 at*
       generalize nth m.places to.toNat=q2 at*
       obtain⟨h1,s1⟩:=q1
       obtain⟨h2,s2⟩:=q2
       obtain⟨places,roads⟩:=m
       simp only at*
       obtain⟨w2,w3⟩:=key h2 h1 (by omega) (by omega) (by omega) (by omega)
       by_cases c2:len< -10*(h1-h2)
       · simp (disch:=omega) only[go_sem,K.dS,↓reduceIte,g,p1,p2,w2,w3,gt_iff_lt,Int.zero_sub,Nat.reduceAdd,Nat.reduceSub]
       · by_cases c1:len<10*(h1-h2)
         · simp (disch:=omega) only[go_sem,K.dS,↓reduceIte,g,p1,p2,w2,w3,gt_iff_lt,Int.zero_sub,Nat.reduceAdd,Nat.reduceSub]
         · simp (disch:=omega) only[go_sem,K.dS,↓reduceIte,g,p1,p2,w2,w3,gt_iff_lt,Int.zero_sub,Nat.reduceAdd,Nat.reduceSub]
     | false=>
       simp only[Bool.false_eq_true,↓reduceIte]
       generalize nth m.places frm.toNat=q1 at*
       generalize nth m.places to.toNat=q2 at*
       obtain⟨h1,s1⟩:=q1
       obtain⟨h2,s2⟩:=q2
       obtain⟨places,roads⟩:=m
       simp only at*
       obtain⟨w2,w3⟩:=key h2 h1 (by omega) (by omega) (by omega) (by omega)
       by_cases c2:len< -10*(h2-h1)
       · simp (disch:=omega) only[go_sem,K.dS,↓reduceIte,g,p1,p2,w2,gt_iff_lt,Nat.reduceAdd,Nat.reduceSub]
       · by_cases c1:len<10*(h2-h1)
         · simp (disch:=omega) only[go_sem,K.dS,↓reduceIte,g,p1,p2,w2,gt_iff_lt,Nat.reduceAdd,Nat.reduceSub]
         · simp (disch:=omega) only[go_sem,K.dS,↓reduceIte,g,p1,p2,w2,gt_iff_lt,Nat.reduceAdd,Nat.reduceSub]
theorem Oe{m:aK}(h:m.ok)(k:Nat)(hk:k<m.roads.length)(back:Bool):aG 0 N.jm [.t m.e,I k,B back] []=some (I (gk m k back 6 9 12),[]):=by
 have q:=Od
 have w:=KR h k hk back 6 9 12 (by omega) (by omega) (by omega) (by omega) (by omega) (by omega)
 have v:=kS h
 have nr:=h.nr
 have s:aG 0 N.jq [.t m.e,I k,B back] []=some (I (gk m k back 6 9 12),[]):=by
  refine av K.tn rfl ?_
  generalize gk m k back 6 9 12=r at*
  obtain⟨places,roads⟩:=m
  simp (disch:=omega) only[go_sem,K.jq,↓reduceIte,q,w,Nat.reduceAdd,Nat.reduceSub]
 refine av K.te rfl ?_
 generalize gk m k back 6 9 12=r at*
 obtain⟨places,roads⟩:=m
 simp only at*
 simp (disch:=omega) only[go_sem,K.jm,↓reduceIte,v,s,Nat.reduceAdd,Nat.reduceSub]
theorem TP(q:Int):aG 0 N.ea [I q] []=some (B true,[]):=by
 refine av K.qF rfl ?_
 simp (disch:=omega) only[go_sem,K.ea,↓reduceIte,Nat.reduceAdd,Nat.reduceSub]
theorem Of(q:Int)(l:List Int)(hl:l.length≤4294967296):aG 0 N.b9 [I q,.bp 0 0] [.box [.t (tL l)]]=some (B (decide (q∈l)),[.box [.t (tL l)]]):=by
 refine av K.kB rfl ?_
 have c:=sY l q hl
 simp (disch:=omega) only[go_sem,K.b9,↓reduceIte,c,Nat.reduceAdd,Nat.reduceSub]
def smE(into:Option (List Int)):af:=match into with
 | none=>[]
 | some s=>[.box [.t (tL s)]]
def smD(into:Option (List Int)):D:=match into with
 | none=> .fn N.ea []
 | some _=> .fn N.b9 [.bp 5 0]
def smK(into:Option (List Int)):Nat:=match into with
 | none=>5
 | some _=>6
@[go_sem] theorem ahr (H : af) (len j : Nat) (ts : List T) (h : j < len) : Y8 H len 1 false (.t (.agg ts)) j = (ts[j]?).map fun t => (.t t, H) := by
 have h0:len≠0:=by omega
 unfold Y8 Af
 rw[if_neg h0,if_pos h]
 unfold tX cut
 simp only[D.isAgg,D.cells,T.cells,if_true,Nat.mul_one,List.length_map]
 by_cases hj:j<ts.length
 · rw[if_pos (by omega),List.getElem?_eq_getElem hj]
   have e:((ts.map D.t).drop j).take 1=[D.t ts[j]]:=by
    rw[List.drop_eq_getElem_cons (by simpa using hj)];simp
   rw[e];rfl
 · rw[if_neg (by omega),List.getElem?_eq_none (by omega)];rfl
def KS(into:Option (List Int))(l:List Int)(q:Nat)(x:Int):Bool:=decide (x≤2147483648∧x<nth l q)&&Kq into q
theorem TQ(into:Option (List Int))(hi:∀s,into=some s→s.length≤64)(l:List Int)(hl:l.length≤64)(hb:bnd l)(p:Int)(q:Nat)(hq:q<l.length)(n t:Int)(ch:Bool):
 aG 0 N.aW [I p,I q,I n,.bp 0 0,.bp 1 0,.bp 2 0,.bp 3 0] (.box [I t]:: .box [.ref 4 0 l.length]:: .box [smD into]:: .box [B ch]::sA l::smE into)=
  some (.tup [],if KS into l q (max n t)=true then .box [I t]:: .box [.ref 4 0 l.length]:: .box [smD into]:: .box [B true]::sA (l.set q (max n t))::smE into
   else .box [I t]:: .box [.ref 4 0 l.length]:: .box [smD into]:: .box [B ch]::sA l::smE into):=by
 refine av K.j7 rfl ?_
 have ln:(l.set q (max n t)).length=l.length:=List.length_set ..
 have a:=TP q
 have b:=hb _ (ah hq)
 unfold KS
 cases into with
 | none=>
   simp only[smE,smD,Kq,Bool.and_true,decide_eq_true_eq]
   by_cases c1:max n t≤2147483648
   · by_cases c2:max n t<nth l q
     · simp (disch:=omega) only[go_sem,K.aW,↓reduceIte,a,c1,c2,and_self,Nat.reduceAdd,Nat.reduceSub]
     · simp (disch:=omega) only[go_sem,K.aW,↓reduceIte,c1,c2,and_false,Nat.reduceAdd,Nat.reduceSub]
   · simp (disch:=omega) only[go_sem,K.aW,↓reduceIte,c1,false_and,Nat.reduceAdd,Nat.reduceSub]
 | some s=>
   have a2:=Of q s (by have:=hi s rfl;omega)
   simp only[smE,smD,Kq]
   by_cases c1:max n t≤2147483648
   · by_cases c2:max n t<nth l q
     · by_cases c3:(q:Int)∈s
       · simp only[c3,decide_true]at a2
         simp (disch:=omega) only[go_sem,K.aW,↓reduceIte,a2,c1,c2,c3,and_self,decide_true,Bool.and_true,Nat.reduceAdd,Nat.reduceSub]
       · simp only[c3,decide_false]at a2
         simp (disch:=omega) only[go_sem,K.aW,↓reduceIte,a2,c1,c2,c3,and_self,decide_false,Bool.and_false,Nat.reduceAdd,Nat.reduceSub]
     · simp (disch:=omega) only[go_sem,K.aW,↓reduceIte,c1,c2,and_false,decide_false,Bool.false_and,Nat.reduceAdd,Nat.reduceSub]
   · simp (disch:=omega) only[go_sem,K.aW,↓reduceIte,c1,false_and,decide_false,Bool.false_and,Nat.reduceAdd,Nat.reduceSub]
theorem Og{m:aK}(h:m.ok)(t:Int)(into:Option (List Int)){k:Nat}(hk:k<m.roads.length)(back:Bool)(l:List Int):
 eY m t into k back l=if 0≤gk m k back 6 9 12∧nth l ((nth m.roads k).src back).toNat<1099511627776∧KS into l ((nth m.roads k).dst back).toNat (max (nth l ((nth m.roads k).src back).toNat+gk m k back 6 9 12) t)=true
  then(l.set ((nth m.roads k).dst back).toNat (max (nth l ((nth m.roads k).src back).toNat+gk m k back 6 9 12) t),true)else(l,false):=by
 have r2:=Road.AE (h.rs _ (ah hk)) back
 unfold eY KS mH lC
 have e:(((nth m.roads k).dst back).toNat:Int)=(nth m.roads k).dst back:=by omega
 rw[e]
 generalize (nth m.roads k).dst back=d at*
 generalize ((nth m.roads k).src back).toNat=s at*
 generalize gk m k back 6 9 12=v at*
 rw[Int.max_comm t]
 generalize max (nth l s+v) t=x at*
 cases Kq into d with
 | false=>simp
 | true=>
   simp only[↓reduceIte,Bool.and_true,Bool.and_eq_true,decide_eq_true_eq]
   by_cases c:((0≤v∧nth l s<1099511627776)∧x≤2147483648)∧x<nth l d.toNat
   · obtain⟨⟨⟨c1,c2⟩,c3⟩,c4⟩:=c
     simp[c1,c2,c3,c4]
   · have c':¬(0≤v∧nth l s<1099511627776∧x≤2147483648∧x<nth l d.toNat):=fun h=>c ⟨⟨⟨h.1,h.2.1⟩,h.2.2.1⟩,h.2.2.2⟩
     rw[if_neg c,if_neg c']
     simp only[Prod.mk.injEq,true_and]
     have:(decide (0≤v)&&decide (nth l s<1099511627776)&&decide (x≤2147483648)&&decide (x<nth l d.toNat))=false:=by
      rw[Bool.eq_false_iff];intro h;simp only[Bool.and_eq_true,decide_eq_true_eq]at h;exact c h
     exact this
abbrev KT:D:= .fn N.aW [.bp 1 0,.bp 2 0,.bp 3 0,.bp 4 0]
abbrev y6(into:Option (List Int))(t:Int)(s:List Int×Bool):af:=sA s.1:: .box [I t]:: .box [.ref 0 0 s.1.length]:: .box [smD into]:: .box [B s.2]::smE into
abbrev wz(x:Road):List D:=[I x.frm,I x.to,I x.len,I x.area,B x.walk,B x.closed,I x.restL,I x.restH,I x.liftL,I x.liftH]
theorem AK{m:aK}(h:m.ok)(t:Int)(ht:0≤t)(ht2:t≤1000000000000)(into:Option (List Int))(hi:∀s,into=some s→s.length≤64)(l:List Int)(hl:l.length=m.places.length)(hb:bnd l)(ch:Bool){k:Nat}(hk:k<m.roads.length)(back:Bool):
 fh true [0,6,7,8,9] (y6 into t (l,ch)++[Obj.box (aa m),Obj.box (wz (nth m.roads k))]).length (exS aG K.ec ⟨[.und,.ref 0 0 l.length,KT,.bp (smK into) 0,I k,.bp (smK into+1) 0,.und,.und,.und,.und,.t (.sl (m.roads.map Road.e)),I m.roads.length,I k,.t (.agg [.bool false,.bool true]),I (if back then 1 else 0:Nat)],y6 into t (l,ch)++[.box (aa m),.box (wz (nth m.roads k))]⟩)=
  some ⟨[.und,.ref 0 0 l.length,KT,.bp (smK into) 0,I k,.bp (smK into+1) 0,.und,.und,.und,.und,.t (.sl (m.roads.map Road.e)),I m.roads.length,I k,.t (.agg [.bool false,.bool true]),I ((if back then 1 else 0:Nat)+1)],y6 into t ((eY m t into k back l).1,ch||(eY m t into k back l).2)++[.box (aa m),.box (wz (nth m.roads k))]⟩:=by
 have np:=h.np
 have nr:=h.nr
 have ok:=h.rs _ (ah hk)
 have r1:=Road.wW ok back
 have r2:=Road.AE ok back
 have wt:=Oe h k hk back
 have wl:=Bu h k hk back
 have b1:=hb _ (ah (l:=l) (j:=((nth m.roads k).src back).toNat) (by omega))
 have lo:=TQ into hi l (by omega) hb ((nth m.roads k).src back) ((nth m.roads k).dst back).toNat (by omega) (nth l ((nth m.roads k).src back).toNat+gk m k back 6 9 12) t ch
 have e:(((nth m.roads k).dst back).toNat:Int)=(nth m.roads k).dst back:=by omega
 rw[e]at lo
 rw[Og h t into hk back l]
 have ls:∀x,(l.set ((nth m.roads k).dst back).toNat x).length=l.length:=fun x=>List.length_set ..
 generalize gk m k back 6 9 12=v at*
 generalize hx:nth m.roads k=x at*
 clear hx ok
 obtain⟨frm,to,len,area,walk,closed,rl,rh,ll,lh⟩:=x
 obtain⟨places,roads⟩:=m
 simp only at hl np nr hk
 have h01:(1:Int)=0+1:=rfl
 by_cases c1:0≤v
 · by_cases c2:nth l ((Road.mk frm to len area walk closed rl rh ll lh).src back).toNat<1099511627776
   · cases c3:KS into l ((Road.mk frm to len area walk closed rl rh ll lh).dst back).toNat (max (nth l ((Road.mk frm to len area walk closed rl rh ll lh).src back).toNat+v) t)<;>
     cases back<;>simp only[Road.src,Road.dst,Bool.false_eq_true,↓reduceIte]at* <;>simp only[c1,c2,c3,and_true,true_and,and_self,and_false,Bool.false_eq_true,↓reduceIte]at lo ⊢ <;>
     cases into<;>simp only[smE,smD,smK,aa,wz,y6,List.cons_append,List.nil_append]at* <;>
     simp (disch:=omega) only[go_sem,K.ec,↓reduceIte,wt,lo,c1,c2,ls,Bool.or_true,Bool.or_false,Nat.reduceAdd,Nat.reduceSub]
   · cases back<;>simp only[Road.src,Road.dst,Bool.false_eq_true,↓reduceIte]at* <;>simp only[c1,c2,false_and,and_false,↓reduceIte]<;>
     cases into<;>simp only[smE,smD,smK,aa,wz,y6,List.cons_append,List.nil_append]at* <;>
     simp (disch:=omega) only[go_sem,K.ec,↓reduceIte,wt,c1,c2,Bool.or_false,Nat.reduceAdd,Nat.reduceSub]
 · cases back<;>simp only[Road.src,Road.dst,Bool.false_eq_true,↓reduceIte]at* <;>simp only[c1,false_and,↓reduceIte]<;>
   cases into<;>simp only[smE,smD,smK,aa,wz,y6,List.cons_append,List.nil_append]at* <;>
   simp (disch:=omega) only[go_sem,K.ec,↓reduceIte,wt,c1,Bool.or_false,Nat.reduceAdd,Nat.reduceSub]
theorem Oh{m:aK}(h:m.ok)(t:Int)(ht:0≤t)(ht2:t≤1000000000000)(into:Option (List Int))(hi:∀s,into=some s→s.length≤64)(l:List Int)(hl:l.length=m.places.length)(hb:bnd l)(ch:Bool){k:Nat}(hk:k<m.roads.length):
 fh true [0,4,5,6,7,8,9,13,14] (y6 into t (l,ch)++[Obj.box (aa m)]).length (exS aG K.gQ ⟨[.und,.ref 0 0 l.length,KT,.bp (smK into) 0,.und,.und,.und,.und,.und,.und,.t (.sl (m.roads.map Road.e)),I m.roads.length,I k,.und,.und],y6 into t (l,ch)++[.box (aa m)]⟩)=
  some ⟨[.und,.ref 0 0 (s6 m t into k (l,ch)).1.length,KT,.bp (smK into) 0,.und,.und,.und,.und,.und,.und,.t (.sl (m.roads.map Road.e)),I m.roads.length,I (k+1),.und,.und],y6 into t (s6 m t into k (l,ch))++[.box (aa m)]⟩:=by
 have nr:=h.nr
 have g:(m.roads.map Road.e)[k]?=some (nth m.roads k).e:=eU _ hk
 have h1:=AK h t ht ht2 into hi l hl hb ch hk false
 have l1:(eY m t into k false l).1.length=l.length:=oD ..
 have l2:(eY m t into k true (eY m t into k false l).1).1.length=l.length:=by rw[oD,l1]
 have h2:=AK h t ht ht2 into hi (eY m t into k false l).1 (by omega) (qB h hl hb hk false) (ch||(eY m t into k false l).2) hk true
 have st:s6 m t into k (l,ch)=((eY m t into k true (eY m t into k false l).1).1,ch||(eY m t into k false l).2||(eY m t into k true (eY m t into k false l).1).2):=rfl
 rw[st]
 simp only[l1,l2,Bool.false_eq_true,↓reduceIte]at h1 h2 ⊢
 have inner:∀z0 z6 z7 z8 z9:D,exS aG K.nq ⟨[z0,.ref 0 0 l.length,KT,.bp (smK into) 0,I k,.bp (smK into+1) 0,z6,z7,z8,z9,.t (.sl (m.roads.map Road.e)),I m.roads.length,I k,.t (.agg [.bool false,.bool true]),I 0],y6 into t (l,ch)++[.box (aa m),.box (wz (nth m.roads k))]⟩=
  some (.exit 2,⟨[.und,.ref 0 0 l.length,KT,.bp (smK into) 0,I k,.bp (smK into+1) 0,.und,.und,.und,.und,.t (.sl (m.roads.map Road.e)),I m.roads.length,I k,.t (.agg [.bool false,.bool true]),I 2],
   y6 into t ((eY m t into k true (eY m t into k false l).1).1,ch||(eY m t into k false l).2||(eY m t into k true (eY m t into k false l).1).2)++[.box (aa m),.box (wz (nth m.roads k))]⟩):=by
  intro z0 z6 z7 z8 z9
  refine b7 (fun j=>⟨[.und,.ref 0 0 l.length,KT,.bp (smK into) 0,I k,.bp (smK into+1) 0,.und,.und,.und,.und,.t (.sl (m.roads.map Road.e)),I m.roads.length,I k,.t (.agg [.bool false,.bool true]),I j],
   y6 into t (match j with | 0=>(l,ch) | 1=>((eY m t into k false l).1,ch||(eY m t into k false l).2) | _=>((eY m t into k true (eY m t into k false l).1).1,ch||(eY m t into k false l).2||(eY m t into k true (eY m t into k false l).1).2))++[.box (aa m),.box (wz (nth m.roads k))]⟩) 2 rfl ?_ ?_ (by simp)
  · intro j hj
    have hj2:j=0∨j=1:=by omega
    rcases hj2 with rfl | rfl
    · exact h1
    · exact h2
  · clear h1 h2
    cases into<;>simp only[smE,smD,smK,aa,wz,y6,List.cons_append,List.nil_append]<;>
    simp (disch:=omega) only[go_sem,K.ec,↓reduceIte,Nat.reduceAdd,Nat.reduceSub]
 clear h1 h2 st
 generalize eY m t into k true (eY m t into k false l).1=b2 at*
 generalize eY m t into k false l=b1 at*
 generalize hx:nth m.roads k=x at*
 clear hx
 obtain⟨frm,to,len,area,walk,closed,rl,rh,ll,lh⟩:=x
 obtain⟨places,roads⟩:=m
 simp only at nr hk
 cases into<;>simp only[smE,smD,smK,aa,wz,y6,List.cons_append,List.nil_append]at* <;>
 simp (disch:=omega) only[go_sem,K.gQ,↓reduceIte,g,inner,l2,Nat.reduceAdd,Nat.reduceSub]
theorem E3{m:aK}(h:m.ok)(t:Int)(ht:0≤t)(ht2:t≤1000000000000)(into:Option (List Int))(hi:∀s,into=some s→s.length≤64)(l:List Int)(hl:l.length=m.places.length)(hb:bnd l)(ch:Bool):
 aG 0 N.dg [.t m.e,.ref 0 0 l.length,KT] (y6 into t (l,ch))=some (.tup [],y6 into t ((dm m t into l).1,ch||(dm m t into l).2)):=by
 refine av K.kC rfl ?_
 have nr:=h.nr
 have ls:=fun k=>dw m t into l k
 have loop:∀z0 z4 z5 z6 z7 z8 z9 z13 z14:D,exS aG K.ns ⟨[z0,.ref 0 0 l.length,KT,.bp (smK into) 0,z4,z5,z6,z7,z8,z9,.t (.sl (m.roads.map Road.e)),I m.roads.length,I 0,z13,z14],y6 into t (l,ch)++[.box (aa m)]⟩=
  some (.exit 0,⟨[.und,.ref 0 0 l.length,KT,.bp (smK into) 0,.und,.und,.und,.und,.und,.und,.t (.sl (m.roads.map Road.e)),I m.roads.length,I m.roads.length,.und,.und],y6 into t ((dm m t into l).1,ch||(dm m t into l).2)++[.box (aa m)]⟩):=by
  intro z0 z4 z5 z6 z7 z8 z9 z13 z14
  refine b7 (fun j=>⟨[.und,.ref 0 0 l.length,KT,.bp (smK into) 0,.und,.und,.und,.und,.und,.und,.t (.sl (m.roads.map Road.e)),I m.roads.length,I j,.und,.und],y6 into t ((eI m t into l j).1,ch||(eI m t into l j).2)++[.box (aa m)]⟩) m.roads.length ?_ ?_ ?_ (by simp)
  · simp only[eI,Bool.or_false];rfl
  · intro j hj
    have r:=Oh h t ht ht2 into hi (eI m t into l j).1 (by rw[ls,hl]) (ig h hl hb j (by omega)) (ch||(eI m t into l j).2) hj
    have e:s6 m t into j ((eI m t into l j).1,ch||(eI m t into l j).2)=((eI m t into l (j+1)).1,ch||(eI m t into l (j+1)).2):=by
     simp only[eI,s6,Bool.or_assoc]
    rw[e]at r
    simp only[ls]at r
    exact r
  · clear ls
    cases into<;>simp only[smE,smD,smK,aa,wz,y6,List.cons_append,List.nil_append]<;>
    simp (disch:=omega) only[go_sem,K.gQ,↓reduceIte,dm,Nat.reduceAdd,Nat.reduceSub]
 have l2:(dm m t into l).1.length=l.length:=by unfold dm;rw[ls]
 clear ls
 generalize dm m t into l=r at*
 obtain⟨r1,r2⟩:=r
 obtain⟨places,roads⟩:=m
 simp only at nr hl l2
 cases into<;>simp only[smE,smD,smK,aa,wz,y6,List.cons_append,List.nil_append]at* <;>
 simp (disch:=omega) only[go_sem,K.dg,↓reduceIte,loop,l2,Nat.reduceAdd,Nat.reduceSub]
section
variable (a0 a1 a2 a3 a4 a5 x y : Obj) (ds : af)
theorem Qz:(a0::a1::a2::a3::a4::(ds++[x]))[ds.length+5]?=some x:=by simp
theorem aaz:(a0::a1::a2::a3::a4::(ds++[x])).set (ds.length+5) y=a0::a1::a2::a3::a4::(ds++[y]):=by simp
theorem QA:(a0::a1::a2::a3::a4::a5::(ds++[x]))[ds.length+6]?=some x:=by simp
theorem aaA:(a0::a1::a2::a3::a4::a5::(ds++[x])).set (ds.length+6) y=a0::a1::a2::a3::a4::a5::(ds++[y]):=by simp
theorem QB(u:Obj):(ds++[u]++[x])[ds.length+1]?=some x:=by simp
theorem TR(u:Obj):(a0::a1::a2::a3::a4::(ds++[u]++[x])).set (ds.length+1+1+1+1+1+1) y=a0::a1::a2::a3::a4::(ds++[u]++[y]):=by simp
theorem TS(u:Obj):(a0::a1::a2::a3::a4::a5::(ds++[u]++[x])).set (ds.length+1+1+1+1+1+1+1) y=a0::a1::a2::a3::a4::a5::(ds++[u]++[y]):=by simp
theorem aaB:(ds++[x]).length=ds.length+1:=by simp
end
@[go_sem] theorem adu (n : Nat) : eqB n n = true := by
 induction n with
 | zero=>rfl
 | succ n ih=>exact ih
abbrev QC(m:aK)(into:Option (List Int))(t:Int)(l:List Int)(ds:af)(c:Bool):af:=match into with
 | none=> .box (aa m):: .box [I t]:: .box [.fn N.ea []]::sA l:: .box [.ref 3 0 l.length]::(ds++[.box [B c]])
 | some s=> .box [.t (tL s)]:: .box (aa m):: .box [I t]:: .box [.fn N.b9 [.bp 0 0]]::sA l:: .box [.ref 4 0 l.length]::(ds++[.box [B c]])
abbrev E4(m:aK)(into:Option (List Int))(t:Int)(l:List Int)(ds:af)(c:Bool):St:=match into with
 | none=>⟨[.und,.und,.und,.und,.bp 0 0,.bp 1 0,.bp 2 0,.und,.bp 4 0,.bp (ds.length+5) 0,.und],QC m none t l ds c⟩
 | some s=>⟨[.und,.und,.und,.und,.bp 1 0,.bp 2 0,.bp 3 0,.und,.bp 5 0,.bp (ds.length+6) 0,.und],QC m (some s) t l ds c⟩
theorem KU{m:aK}(h:m.ok)(t:Int)(ht:0≤t)(ht2:t≤1000000000000)(into:Option (List Int))(hi:∀s,into=some s→s.length≤64)(l:List Int)(hl:l.length=m.places.length)(hb:bnd l)(ds:af)(k:Nat):
 fh false [0,1,2,3,7,10] k (exS aG K.cX (E4 m into t l ds true))=some (E4 m into t (dm m t into l).1 (ds++[.box [B (dm m t into l).2]]) (dm m t into l).2):=by
 have nr:=h.nr
 have ar:=E3 h t ht ht2 into hi l hl hb false
 have l2:(dm m t into l).1.length=l.length:=by unfold dm;rw[dw]
 cases into with
 | none=>
   generalize dm m t none l=r at*
   obtain⟨r1,r2⟩:=r
   obtain⟨places,roads⟩:=m
   simp only[QC,E4,y6,smE,smD,aa,Bool.false_or]at*
   simp (disch:=omega) only[go_sem,K.cX,↓reduceIte,ar,Qz,aaz,aaB,l2,QB,TR,Nat.reduceAdd,Nat.reduceSub]
 | some s=>
   generalize dm m t (some s) l=r at*
   obtain⟨r1,r2⟩:=r
   obtain⟨places,roads⟩:=m
   simp only[QC,E4,y6,smE,smD,aa,Bool.false_or]at*
   simp (disch:=omega) only[go_sem,K.cX,↓reduceIte,ar,QA,aaA,aaB,l2,QB,TS,Nat.reduceAdd,Nat.reduceSub]
theorem Oi(m:aK)(into:Option (List Int))(t:Int)(l:List Int)(ds:af):exS aG K.cX (E4 m into t l ds false)=some (.exit 0,E4 m into t l ds false):=by
 obtain⟨places,roads⟩:=m
 cases into with
 | none=>
   simp only[QC,E4,aa]
   simp (disch:=omega) only[go_sem,K.cX,↓reduceIte,Qz,Nat.reduceAdd,Nat.reduceSub]
 | some s=>
   simp only[QC,E4,aa]
   simp (disch:=omega) only[go_sem,K.cX,↓reduceIte,QA,Nat.reduceAdd,Nat.reduceSub]
theorem BD{m:aK}(h:m.ok)(t:Int)(ht:0≤t)(ht2:t≤1000000000000)(into:Option (List Int))(hi:∀s,into=some s→s.length≤64):∀(n:Nat) (l:List Int) (ds:af),ya l<n→l.length=m.places.length→bnd l→
 ∃ds',mw false [0,1,2,3,7,10] (exS aG K.cX) (E4 m into t l ds true)=some (.exit 0,E4 m into t (gE (dm m t into) n l) ds' false)
 | 0,l,ds,hn,_,_=>absurd hn (by omega)
 | n+1,l,ds,hn,hl,hb=>by
   have r:=KU h t ht ht2 into hi l hl hb ds (E4 m into t l ds true).H.length
   have s:=(oE h (t:=t) (into:=into) hl hb m.roads.length (Nat.le_refl _)).1
   change (dm m t into l).2=true→ya (dm m t into l).1<ya l at s
   unfold gE
   cases hc:(dm m t into l).2 with
   | true=>
     rw[hc]at r
     obtain⟨ds',h2⟩:=BD h t ht ht2 into hi n (dm m t into l).1 _ (by have:=s hc;omega) (by unfold dm;rw[dw,hl]) (ig h hl hb _ (Nat.le_refl _))
     exact⟨ds',fo r h2⟩
   | false=>
     rw[hc]at r
     exact⟨_,fo r (eG (Oi m into t _ _) (by simp))⟩
theorem H3{m:aK}(h:m.ok)(t:Int)(ht:0≤t)(ht2:t≤1000000000000)(l:List Int)(hl:l.length=m.places.length)(hb:bnd l):
 aG 0 N.cj [.t m.e,.t (tL l),I t,.fn N.ea []] []=some (.t (tL (dn m t none l)),[])∧
 ∀s:List Int,s.length≤64→aG 1 N.cj [.t m.e,.t (tL l),I t,.fn N.b9 [.bp 0 0]] [.box [.t (tL s)]]=some (.ref 1 0 l.length,[.box [.t (tL s)],sA (dn m t (some s) l)]):=by
 have np:=h.np
 have c1:=KQ l (by omega)
 have ln:∀into,(dn m t into l).length=l.length:=by
  intro into
  have key:∀n l,(gE (dm m t into) n l).length=l.length:=by
   intro n
   induction n with
   | zero=>intro l;rfl
   | succ n ih=>
     intro l
     unfold gE
     split
     · rw[ih];unfold dm;rw[dw]
     · unfold dm;rw[dw]
  exact key _ _
 refine⟨av K.jy rfl ?_,fun s hs=>av K.jy rfl ?_⟩
 · obtain⟨ds,lp⟩:=BD h t ht ht2 none (by simp) (ya l+1) l [] (Nat.lt_succ_self _) hl hb
   have ln:=ln none
   have lp:∀z0 z1 z2 z3 z7 z10:D,exS aG K.kz ⟨[z0,z1,z2,z3,.bp 0 0,.bp 1 0,.bp 2 0,z7,.bp 4 0,.bp 5 0,z10],[.box (aa m),.box [I t],.box [.fn N.ea []],sA l,.box [.ref 3 0 l.length],.box [B true]]⟩=some (.exit 0,E4 m none t (dn m t none l) ds false):=fun z0 z1 z2 z3 z7 z10=>lp
   generalize dn m t none l=r at*
   obtain⟨places,roads⟩:=m
   simp only[QC,E4,aa]at*
   simp (disch:=omega) only[go_sem,K.cj,↓reduceIte,c1,lp,ln,Nat.reduceAdd,Nat.reduceSub]
 · obtain⟨ds,lp⟩:=BD h t ht ht2 (some s) (by intro s' h;cases h;exact hs) (ya l+1) l [] (Nat.lt_succ_self _) hl hb
   have l2:=ln (some s)
   clear ln
   have lp:∀z0 z1 z2 z3 z7 z10:D,exS aG K.kz ⟨[z0,z1,z2,z3,.bp 1 0,.bp 2 0,.bp 3 0,z7,.bp 5 0,.bp 6 0,z10],[.box [.t (tL s)],.box (aa m),.box [I t],.box [.fn N.b9 [.bp 0 0]],sA l,.box [.ref 4 0 l.length],.box [B true]]⟩=some (.exit 0,E4 m (some s) t (dn m t (some s) l) ds false):=fun z0 z1 z2 z3 z7 z10=>lp
   generalize dn m t (some s) l=r at*
   obtain⟨places,roads⟩:=m
   simp only[QC,E4,aa]at*
   simp (disch:=omega) only[go_sem,K.cj,↓reduceIte,c1,lp,l2,Nat.reduceAdd,Nat.reduceSub]
end Go.Ev
namespace Go.Ev
open Go
variable [Lib] [cu] [bP]
theorem uR{gc:Bool}{dead:List Nat}{c:C}{vs:List D}{H:af}(s:Nat→St)(n:Nat)(p:Nat→Bool)(P:Nat→Ex×St→Prop)(eN:Ex×St)
 (h0:(⟨jR dead vs,H⟩:St)=s 0) (hs:∀j,j<n→p j=false→fh gc dead (s j).H.length (exS aG c (s j))=some (s (j+1)))
 (he:∀j,j<n→p j=true→∃q,exS aG c (s j)=some q∧q.1≠ .normal∧P j q) (hN:exS aG c (s n)=some eN) (hn:eN.1≠ .normal):
 ((List.range n).find? p=none∧exS aG (.loop gc dead c) ⟨vs,H⟩=some eN)∨∃j q,(List.range n).find? p=some j∧exS aG (.loop gc dead c) ⟨vs,H⟩=some q∧P j q:=by
 classical
 let e:Nat→Ex×St:=fun j=>if h:j<n∧p j=true then Classical.choose (he j h.1 h.2)else eN
 have h2:∀j,j<n→p j=true→exS aG c (s j)=some (e j)∧(e j).1≠ .normal∧P j (e j):=by
  intro j hj hp
  have e1:e j=Classical.choose (he j hj hp):=dif_pos ⟨hj,hp⟩
  rw[e1]
  exact Classical.choose_spec (he j hj hp)
 have:=bY s n p e eN h0 hs (fun j hj hp=>⟨(h2 j hj hp).1,(h2 j hj hp).2.1⟩) hN hn
 cases hf:(List.range n).find? p with
 | none=>rw[hf]at this;exact .inl ⟨rfl,this⟩
 | some j=>
   rw[hf]at this
   obtain⟨h3,h4⟩:=yV hf
   exact .inr ⟨j,e j,rfl,this,(h2 j h3 h4).2.2⟩
def qH(a b:List Int):Bool:=match (List.range (min a.length b.length)).find? (fun j=>decide (nth a j≠nth b j))with
 | some j=>decide (nth a j<nth b j)
 | none=>decide (a.length<b.length)
theorem E5(a b:List Int)(ha:a.length≤1000000)(hb:b.length≤1000000):aG 0 N.gz [.t (tL a),.t (tL b)] []=some (B (qH a b),[]):=by
 refine av K.qw rfl ?_
 have loop:∀c:D,exS aG K.uF ⟨[.t (tL a),.t (tL b),c,I 0],[]⟩=
  some (match (List.range (min a.length b.length)).find? (fun j=>decide (nth a j≠nth b j))with
   | some j=>(.ret,⟨[.t (tL a),.t (tL b),B (decide (nth a j<nth b j)),I j],[]⟩)
   | none=>(.exit 0,⟨[.t (tL a),.t (tL b),.und,I (min a.length b.length:Nat)],[]⟩)):=by
  intro c
  refine bY (fun j=>⟨[.t (tL a),.t (tL b),.und,I j],[]⟩) (min a.length b.length) (fun j=>decide (nth a j≠nth b j)) _ _ rfl ?_ ?_ ?_ (by simp)
  · intro j hj hp
    have hp:nth a j=nth b j:=by simpa using hp
    simp (disch:=omega) only[go_sem,K.ie,↓reduceIte]
  · intro j hj hp
    have hp:nth a j≠nth b j:=by simpa using hp
    refine⟨?_,by simp⟩
    by_cases h1:nth a j<nth b j
    · simp (disch:=omega) only[go_sem,K.ie,↓reduceIte,h1,decide_true]
    · simp (disch:=omega) only[go_sem,K.ie,↓reduceIte,h1,decide_false]
  · by_cases h1:a.length≤b.length
    · have e:min a.length b.length=a.length:=by omega
      rw[e]
      simp (disch:=omega) only[go_sem,K.ie,↓reduceIte]
    · have e:min a.length b.length=b.length:=by omega
      rw[e]
      simp (disch:=omega) only[go_sem,K.ie,↓reduceIte]
 unfold qH
 simp (disch:=omega) only[go_sem,K.gz,↓reduceIte,loop]
 cases hf:(List.range (min a.length b.length)).find? (fun j=>decide (nth a j≠nth b j))with
 | some j=>simp (disch:=omega) only[go_sem,↓reduceIte]
 | none=>
   by_cases h1:a.length<b.length
   · simp (disch:=omega) only[go_sem,↓reduceIte,h1,decide_true]
   · simp (disch:=omega) only[go_sem,↓reduceIte,h1,decide_false]
def bU(l:List Int)(x:Int):Int:=match (List.range l.length).find? (fun j=>decide (nth l j=x))with
 | some j=>j
 | none=> -1
theorem mK(l:List Int)(x:Int)(hl:l.length≤1000000):aG 0 N.cV [.t (tL l),I x] []=some (I (bU l x),[]):=by
 refine av K.nN rfl ?_
 have loop:∀c:D,exS aG K.qq ⟨[.t (tL l),I x,c,I 0],[]⟩=
  some (match (List.range l.length).find? (fun j=>decide (nth l j=x))with
   | some j=>(.ret,⟨[.t (tL l),I x,I j,I j],[]⟩)
   | none=>(.exit 0,⟨[.t (tL l),I x,.und,I l.length],[]⟩)):=by
  intro c
  refine bY (fun j=>⟨[.t (tL l),I x,.und,I j],[]⟩) l.length (fun j=>decide (nth l j=x)) _ _ rfl ?_ ?_ ?_ (by simp)
  · intro j hj hp
    have hp:¬nth l j=x:=by simpa using hp
    simp (disch:=omega) only[go_sem,K.jx,↓reduceIte]
  · intro j hj hp
    have hp:nth l j=x:=by simpa using hp
    refine⟨?_,by simp⟩
    simp (disch:=omega) only[go_sem,K.jx,↓reduceIte,hp]
  · simp (disch:=omega) only[go_sem,K.jx,↓reduceIte]
 unfold bU
 simp (disch:=omega) only[go_sem,K.cV,↓reduceIte,loop]
 cases hf:(List.range l.length).find? (fun j=>decide (nth l j=x))with
 | some j=>simp (disch:=omega) only[go_sem,↓reduceIte]
 | none=>simp (disch:=omega) only[go_sem,↓reduceIte]
theorem wA{l:List Int}{x:Int}(h:0≤bU l x):bU l x<l.length∧nth l (bU l x).toNat=x:=by
 unfold bU at h ⊢
 cases hf:(List.range l.length).find? (fun j=>decide (nth l j=x))with
 | some j=>
   obtain⟨h1,h2⟩:=yV hf
   simp only[Int.toNat_natCast]
   exact⟨by omega,of_decide_eq_true h2⟩
 | none=>rw[hf]at h;simp at h
def mL(l:List Int)(j:Nat):Bool:=decide (1≤nth l j∧nth l j≤65535∧bU (l.take j) (nth l j)<0)
def fJ(l:List Int):Bool:=(List.range l.length).all (mL l)
theorem De(l:List Int)(hl:l.length≤1000000):aG 0 N.ew [.t (tL l)] []=some (B (fJ l),[]):=by
 refine av K.nI rfl ?_
 have loop:∀c:D,exS aG K.qo ⟨[.t (tL l),c,I 0],[]⟩=
  some (match (List.range l.length).find? (fun j=> !mL l j)with
   | some j=>(.ret,⟨[.t (tL l),B false,I j],[]⟩)
   | none=>(.exit 0,⟨[.t (tL l),.und,I l.length],[]⟩)):=by
  intro c
  refine bY (fun j=>⟨[.t (tL l),.und,I j],[]⟩) l.length (fun j=> !mL l j) _ _ rfl ?_ ?_ ?_ (by simp)
  · intro j hj hp
    have hp:mL l j=true:=by simpa using hp
    have b:=mK (l.take j) (nth l j) (by rw[List.length_take];omega)
    simp only[mL,decide_eq_true_eq]at hp
    simp only[tL,List.map_take]at b
    simp (disch:=omega) only[go_sem,K.fL,↓reduceIte,b]
  · intro j hj hp
    have hp:mL l j=false:=by simpa using hp
    have b:=mK (l.take j) (nth l j) (by rw[List.length_take];omega)
    simp only[mL,decide_eq_false_iff_not]at hp
    simp only[tL,List.map_take]at b
    refine⟨?_,by simp⟩
    by_cases h1:nth l j<1
    · simp (disch:=omega) only[go_sem,K.fL,↓reduceIte,b]
    · by_cases h2:65535<nth l j
      · simp (disch:=omega) only[go_sem,K.fL,↓reduceIte,b]
      · simp (disch:=omega) only[go_sem,K.fL,↓reduceIte,b]
  · simp (disch:=omega) only[go_sem,K.fL,↓reduceIte]
 unfold fJ
 rw[pw]
 simp (disch:=omega) only[go_sem,K.ew,↓reduceIte,loop]
 cases hf:(List.range l.length).find? (fun j=> !mL l j)with
 | some j=>simp (disch:=omega) only[go_sem,↓reduceIte,Option.isNone]
 | none=>simp (disch:=omega) only[go_sem,↓reduceIte,Option.isNone]
structure World where
 tags:List Int
 whr:List Wh
instance : Dat World := ⟨⟨[], []⟩⟩
abbrev World.e(x:World):T:= .agg [tL x.tags,.sl (x.whr.map Wh.e)]
structure Bel where
 worlds:List World
instance : Dat Bel := ⟨⟨[]⟩⟩
abbrev Bel.e(b:Bel):T:= .agg [.sl (b.worlds.map World.e)]
def World.sz(x:World):Prop:=x.tags.length≤1000000∧x.whr.length≤1000000∧∀w∈x.whr,w.frm.length≤1000000
def Bel.sz(b:Bel):Prop:=b.worlds.length≤1000000∧∀x∈b.worlds,x.sz
@[go_sem] theorem TT (l : List Wh) : cB 2 (l.map Wh.e) = true := ni 2 _ (fun _ => rfl) l
@[go_sem] theorem MM (l : List World) : cB 2 (l.map World.e) = true := ni 2 _ (fun _ => rfl) l
@[go_sem] theorem adv (l : List Wh) : nF 2 (l.map Wh.e) = true := by cases l <;> rfl
@[go_sem] theorem TU (l : List World) : nF 2 (l.map World.e) = true := by cases l <;> rfl
theorem sB(x:World)(h:x.sz)(a:D):exS aG K.nf ⟨[a,.bp 0 0,.bp 1 0,.bp 3 0,I 0],[.box [.t (tL x.tags),.t (.sl (x.whr.map Wh.e))],.box [.nil,.nil],.arr 1 false 0 ((x.tags.map (T.int .i64)).map .t),.box [.ref 2 0 x.tags.length,.ref 5 0 0],.arr 2 false 0 [],.arr 2 false 0 []]⟩=
 some (.exit 0,⟨[.und,.bp 0 0,.bp 1 0,.bp 3 0,I x.whr.length],[.box [.t (tL x.tags),.t (.sl (x.whr.map Wh.e))],.box [.nil,.nil],.arr 1 false 0 ((x.tags.map (T.int .i64)).map .t),.box [.ref 2 0 x.tags.length,.ref 5 0 x.whr.length],.arr 2 false 0 [],.arr 2 false 0 ((x.whr.map Wh.e).map .t)]⟩):=by
 obtain⟨tags,whr⟩:=x
 obtain⟨h1,h2,h3⟩:=h
 simp only at h1 h2 h3 ⊢
 have tk:whr.take whr.length=whr:=by simp
 refine b7 (fun j=>⟨[.und,.bp 0 0,.bp 1 0,.bp 3 0,I j],[.box [.t (tL tags),.t (.sl (whr.map Wh.e))],.box [.nil,.nil],.arr 1 false 0 ((tags.map (T.int .i64)).map .t),.box [.ref 2 0 tags.length,.ref 5 0 (whr.take j).length],.arr 2 false 0 [],.arr 2 false 0 (((whr.take j).map Wh.e).map .t)]⟩) whr.length rfl ?_ ?_ (by simp)
 · intro j hj
   have c:=Bx (nth whr j) (by have:=h3 _ (ah hj);omega)
   have lt:(whr.take j).length=j:=by rw[List.length_take];omega
   generalize hx:nth whr j=w at*
   obtain⟨time,frm⟩:=w
   have tk:whr.take (j+1)=whr.take j++[⟨time,frm⟩]:=by rw[uH hj,hx]
   generalize whr.take j=pre at*
   simp (disch:=omega) only[go_sem,K.jA,↓reduceIte,hx,c,lt,tk,Nat.reduceAdd,Nat.reduceSub]
 · simp (disch:=omega) only[go_sem,K.jA,↓reduceIte,tk]
theorem Df(x:World)(h:x.sz):aG 0 N.bj [.t x.e] []=some (.t x.e,[]):=by
 refine av K.iT rfl ?_
 have loop:=sB x h
 obtain⟨tags,whr⟩:=x
 obtain⟨h1,h2,h3⟩:=h
 simp only at h1 h2 h3 loop ⊢
 simp (disch:=omega) only[go_sem,K.bj,↓reduceIte,loop]
theorem lY(x:World)(h:x.sz):aG 1 N.bj [.t x.e] []=some (.agg [.ref 0 0 x.tags.length,.ref 1 0 x.whr.length],[.arr 1 false 0 ((x.tags.map (T.int .i64)).map .t),.arr 2 false 0 ((x.whr.map Wh.e).map .t)]):=by
 refine av K.iT rfl ?_
 have loop:=sB x h
 obtain⟨tags,whr⟩:=x
 obtain⟨h1,h2,h3⟩:=h
 simp only at h1 h2 h3 loop ⊢
 simp (disch:=omega) only[go_sem,K.bj,↓reduceIte,loop]
theorem xo(l:List World)(h1:l.length≤1000000)(h2:∀x∈l,x.sz)(a:D):exS aG K.uA ⟨[a,.bp 0 0,.bp 1 0,.bp 2 0,I 0],[.box [.t (.sl (l.map World.e))],.box [.nil],.box [.ref 3 0 0],.arr 2 false 0 []]⟩=
 some (.exit 0,⟨[.und,.bp 0 0,.bp 1 0,.bp 2 0,I l.length],[.box [.t (.sl (l.map World.e))],.box [.nil],.box [.ref 3 0 l.length],.arr 2 false 0 ((l.map World.e).map .t)]⟩):=by
 have tk:l.take l.length=l:=by simp
 refine b7 (fun j=>⟨[.und,.bp 0 0,.bp 1 0,.bp 2 0,I j],[.box [.t (.sl (l.map World.e))],.box [.nil],.box [.ref 3 0 (l.take j).length],.arr 2 false 0 (((l.take j).map World.e).map .t)]⟩) l.length rfl ?_ ?_ (by simp)
 · intro j hj
   have c:=Df (nth l j) (h2 _ (ah hj))
   have lt:(l.take j).length=j:=by rw[List.length_take];omega
   generalize hx:nth l j=w at*
   obtain⟨tags,whr⟩:=w
   have tk:l.take (j+1)=l.take j++[⟨tags,whr⟩]:=by rw[uH hj,hx]
   generalize l.take j=pre at*
   simp (disch:=omega) only[go_sem,K.nJ,↓reduceIte,hx,c,lt,tk,Nat.reduceAdd,Nat.reduceSub]
 · simp (disch:=omega) only[go_sem,K.nJ,↓reduceIte,tk]
theorem wB(b:Bel)(h:b.sz):aG 0 N.dV [.t b.e] []=some (.t b.e,[]):=by
 refine av K.ng rfl ?_
 obtain⟨h1,h2⟩:=h
 have loop:=xo b.worlds h1 h2
 obtain⟨l⟩:=b
 simp only at h1 h2 loop ⊢
 simp (disch:=omega) only[go_sem,K.dV,↓reduceIte,loop]
theorem E6(b:Bel)(h:b.sz):aG 1 N.dV [.t b.e] []=some (.agg [.ref 0 0 b.worlds.length],[.arr 2 false 0 ((b.worlds.map World.e).map .t)]):=by
 refine av K.ng rfl ?_
 obtain⟨h1,h2⟩:=h
 have loop:=xo b.worlds h1 h2
 obtain⟨l⟩:=b
 simp only at h1 h2 loop ⊢
 simp (disch:=omega) only[go_sem,K.dV,↓reduceIte,loop]
def Jg(m:aK)(first:List Int)(x:World)(k:Nat):Bool:=decide (0≤bU first (nth x.tags k))&&dq m (nth x.whr k)
def oG(m:aK)(ws:List World)(first:List Int)(i:Nat):Bool:=
 decide ((nth ws i).tags.length=first.length∧(nth ws i).whr.length=first.length)&&fJ (nth ws i).tags&&(decide (i=0)||qH (nth ws (i-1)).tags (nth ws i).tags)&&(List.range (nth ws i).tags.length).all (Jg m first (nth ws i))
def p5(m:aK)(b:Bel):Bool:=
 decide (1≤b.worlds.length∧b.worlds.length≤24)&&decide (1≤(nth b.worlds 0).tags.length∧(nth b.worlds 0).tags.length≤12)&&(List.range b.worlds.length).all (oG m b.worlds (nth b.worlds 0).tags)
theorem y7{m:aK}(h:m.ok)(ws:List World)(first:List Int)(hf:first.length≤1000000)(hs:∀x∈ws,x.sz)(i:Nat)(hi:i<ws.length)(hl:ws.length≤1000000):
 (oG m ws first i=true→fh true [0,1,4,7,8] 2 (exS aG K.bT ⟨[.und,.und,.bp 0 0,.bp 1 0,.und,.t (tL first),I i,.und,.und],[.box (aa m),.box [.t (.sl (ws.map World.e))]]⟩)=some ⟨[.und,.und,.bp 0 0,.bp 1 0,.und,.t (tL first),I (i+1),.und,.und],[.box (aa m),.box [.t (.sl (ws.map World.e))]]⟩)∧
 (oG m ws first i=false→∃q,exS aG K.bT ⟨[.und,.und,.bp 0 0,.bp 1 0,.und,.t (tL first),I i,.und,.und],[.box (aa m),.box [.t (.sl (ws.map World.e))]]⟩=some q∧q.1= .ret∧q.2.vs[4]?=some (B false)):=by
 have np:=h.np
 have sz:=hs _ (ah hi)
 have sz0:0<i→(nth ws (i-1)).sz:=fun h0=>hs _ (ah (by omega))
 unfold oG
 generalize hy:nth ws (i-1)=y at*
 generalize hx:nth ws i=x at*
 obtain⟨tags,whr⟩:=x
 obtain⟨ptags,pwhr⟩:=y
 obtain⟨s1,s2,s3⟩:=sz
 simp only at s1 s2 s3 sz0 ⊢
 have p:=De tags s1
 have inner:tags.length=first.length→whr.length=first.length→∀a b c:D,
  ((List.range tags.length).all (Jg m first ⟨tags,whr⟩)=true∧exS aG K.nK ⟨[a,b,.bp 0 0,.bp 1 0,c,.t (tL first),I i,.bp 2 0,I 0],[.box (aa m),.box [.t (.sl (ws.map World.e))],.box [.t (tL tags),.t (.sl (whr.map Wh.e))]]⟩=
    some (.exit 2,⟨[.und,.und,.bp 0 0,.bp 1 0,.und,.t (tL first),I i,.bp 2 0,I tags.length],[.box (aa m),.box [.t (.sl (ws.map World.e))],.box [.t (tL tags),.t (.sl (whr.map Wh.e))]]⟩))∨
  ((List.range tags.length).all (Jg m first ⟨tags,whr⟩)=false∧∃j,exS aG K.nK ⟨[a,b,.bp 0 0,.bp 1 0,c,.t (tL first),I i,.bp 2 0,I 0],[.box (aa m),.box [.t (.sl (ws.map World.e))],.box [.t (tL tags),.t (.sl (whr.map Wh.e))]]⟩=
    some (.ret,⟨[.und,.und,.bp 0 0,.bp 1 0,B false,.t (tL first),I i,.bp 2 0,j],[.box (aa m),.box [.t (.sl (ws.map World.e))],.box [.t (tL tags),.t (.sl (whr.map Wh.e))]]⟩)):=by
  intro l1 l2 a b c
  have:=bY (gc:=true) (dead:=[0,1,4]) (c:=K.gC) (vs:=[a,b,.bp 0 0,.bp 1 0,c,.t (tL first),I i,.bp 2 0,I 0]) (H:=[.box (aa m),.box [.t (.sl (ws.map World.e))],.box [.t (tL tags),.t (.sl (whr.map Wh.e))]])
   (fun j=>⟨[.und,.und,.bp 0 0,.bp 1 0,.und,.t (tL first),I i,.bp 2 0,I j],[.box (aa m),.box [.t (.sl (ws.map World.e))],.box [.t (tL tags),.t (.sl (whr.map Wh.e))]]⟩) tags.length (fun j=> !Jg m first ⟨tags,whr⟩ j)
   (fun j=>(.ret,⟨[.und,.und,.bp 0 0,.bp 1 0,B false,.t (tL first),I i,.bp 2 0,I j],[.box (aa m),.box [.t (.sl (ws.map World.e))],.box [.t (tL tags),.t (.sl (whr.map Wh.e))]]⟩))
   (.exit 2,⟨[.und,.und,.bp 0 0,.bp 1 0,.und,.t (tL first),I i,.bp 2 0,I tags.length],[.box (aa m),.box [.t (.sl (ws.map World.e))],.box [.t (tL tags),.t (.sl (whr.map Wh.e))]]⟩) rfl
   (by
    intro j hj hp
    have hp:Jg m first ⟨tags,whr⟩ j=true:=by simpa using hp
    have b:=mK first (nth tags j) hf
    have v:=Bw h (nth whr j) (by have:=s3 _ (ah (l:=whr) (j:=j) (by omega));omega)
    simp only[Jg,Bool.and_eq_true,decide_eq_true_eq]at hp
    rw[hp.2]at v
    have hp:=hp.1
    simp (disch:=omega) only[go_sem,K.gC,↓reduceIte,b,v])
   (by
    intro j hj hp
    have hp:Jg m first ⟨tags,whr⟩ j=false:=by simpa using hp
    have b:=mK first (nth tags j) hf
    have v:=Bw h (nth whr j) (by have:=s3 _ (ah (l:=whr) (j:=j) (by omega));omega)
    refine⟨?_,by simp⟩
    by_cases c1:bU first (nth tags j)<0
    · simp (disch:=omega) only[go_sem,K.gC,↓reduceIte,b,v]
    · have:dq m (nth whr j)=false:=by
       simp only[Jg,Bool.and_eq_false_iff,decide_eq_false_iff_not]at hp
       rcases hp with hp | hp
       · exact absurd (by omega) hp
       · exact hp
      rw[this]at v
      simp (disch:=omega) only[go_sem,K.gC,↓reduceIte,b,v])
   (by simp (disch:=omega) only[go_sem,K.gC,↓reduceIte]) (by simp)
  cases hf:(List.range tags.length).find? (fun j=> !Jg m first ⟨tags,whr⟩ j)with
  | none=>rw[hf]at this;exact .inl ⟨by rw[pw,hf];rfl,this⟩
  | some j=>rw[hf]at this;exact .inr ⟨by rw[pw,hf];rfl,⟨_,this⟩⟩
 by_cases l1:tags.length=first.length
 · by_cases l2:whr.length=first.length
   · cases hp:fJ tags with
     | false=>
       rw[hp]at p
       refine⟨fun h=>by simp[hp]at h,fun _=>?_⟩
       simp (disch:=omega) only[go_sem,K.bT,↓reduceIte,hx,p]
       refine⟨_,rfl,?_,?_⟩<;>rfl
     | true=>
       rw[hp]at p
       have inner:=inner l1 l2
       cases i with
       | zero=>
         simp only[EP]at inner
         simp only[l1,l2,and_self,decide_true,Bool.true_and,Bool.true_or]at inner ⊢
         rcases inner .und .und .und with⟨e, -⟩ | ⟨e, -⟩
         · refine⟨fun _=>?_,fun h=>by rw[e]at h;exact absurd h (by simp)⟩
           have inner:=fun a b c=>((inner a b c).resolve_right fun h=>by rw[e]at h;exact absurd h.1 (by simp)).2
           simp (disch:=omega) only[go_sem,K.bT,↓reduceIte,hx,p,inner]
         · refine⟨fun h=>by rw[e]at h;exact absurd h (by simp),fun _=>?_⟩
           have inner:∀a b c,_:=fun a b c=>((inner a b c).resolve_left fun h=>by rw[e]at h;exact absurd h.1 (by simp)).2
           obtain⟨j,inner⟩:=inner .und .und .und
           simp (disch:=omega) only[go_sem,K.bT,↓reduceIte,hx,p,inner]
           refine⟨_,rfl,?_,?_⟩<;>rfl
       | succ i=>
         simp only[HN,HO]at inner
         rw[Nat.add_sub_cancel]at hy
         have ls:=E5 ptags tags (sz0 (by omega)).1 s1
         cases hl:qH ptags tags with
         | false=>
           rw[hl]at ls
           refine⟨fun h=>by simp at h,fun _=>?_⟩
           simp (disch:=omega) only[go_sem,K.bT,↓reduceIte,hx,p,hy,ls]
           refine⟨_,rfl,?_,?_⟩<;>rfl
         | true=>
           rw[hl]at ls
           simp only[l1,l2,and_self,decide_true,Bool.true_and,Bool.or_true]at inner ⊢
           rcases inner .und .und .und with⟨e, -⟩ | ⟨e, -⟩
           · refine⟨fun _=>?_,fun h=>by rw[e]at h;exact absurd h (by simp)⟩
             have inner:=fun a b c=>((inner a b c).resolve_right fun h=>by rw[e]at h;exact absurd h.1 (by simp)).2
             simp (disch:=omega) only[go_sem,K.bT,↓reduceIte,hx,hy,ls,p,inner]
           · refine⟨fun h=>by rw[e]at h;exact absurd h (by simp),fun _=>?_⟩
             have inner:∀a b c,_:=fun a b c=>((inner a b c).resolve_left fun h=>by rw[e]at h;exact absurd h.1 (by simp)).2
             obtain⟨j,inner⟩:=inner .und .und .und
             simp (disch:=omega) only[go_sem,K.bT,↓reduceIte,hx,hy,ls,p,inner]
             refine⟨_,rfl,?_,?_⟩<;>rfl
   · refine⟨fun h=>by simp[l2]at h,fun _=>?_⟩
     simp (disch:=omega) only[go_sem,K.bT,↓reduceIte,hx,p]
     refine⟨_,rfl,?_,?_⟩<;>rfl
 · refine⟨fun h=>by simp[l1]at h,fun _=>?_⟩
   simp (disch:=omega) only[go_sem,K.bT,↓reduceIte,hx,p]
   refine⟨_,rfl,?_,?_⟩<;>rfl
theorem KV{m:aK}(h:m.ok)(b:Bel)(hs:b.sz):aG 0 N.cU [.t m.e,.t b.e] []=some (B (p5 m b),[]):=by
 refine av K.o9 rfl ?_
 obtain⟨h1,h2⟩:=hs
 have ck:=uK h
 obtain⟨ws⟩:=b
 unfold p5
 simp only at h1 h2 ⊢
 by_cases c1:ws.length<1
 · simp (disch:=omega) only[go_sem,K.cU,↓reduceIte,show ¬(1≤ws.length∧ws.length≤24)by omega,decide_false,Bool.false_and]
 · by_cases c2:24<ws.length
   · simp (disch:=omega) only[go_sem,K.cU,↓reduceIte,show ¬(1≤ws.length∧ws.length≤24)by omega,decide_false,Bool.false_and]
   · have c3:1≤ws.length∧ws.length≤24:=by omega
     have sz:=h2 _ (ah (l:=ws) (j:=0) (by omega))
     have i0:(ws.map World.e)[0]?=some (nth ws 0).e:=eU _ (by omega)
     generalize hx:nth ws 0=x at*
     obtain⟨first,whr⟩:=x
     have hf:=sz.1
     simp only at hf ⊢
     by_cases c4:first.length<1
     · simp (disch:=omega) only[go_sem,K.cU,↓reduceIte,ck,hx,c3,and_self,show ¬(1≤first.length∧first.length≤12)by omega,decide_true,decide_false,Bool.true_and,Bool.false_and]
     · by_cases c5:12<first.length
       · simp (disch:=omega) only[go_sem,K.cU,↓reduceIte,ck,hx,c3,and_self,show ¬(1≤first.length∧first.length≤12)by omega,decide_true,decide_false,Bool.true_and,Bool.false_and]
       · have loop:=fun a b c d e=>uR (gc:=true) (dead:=[0,1,4,7,8]) (c:=K.bT) (vs:=[a,b,.bp 0 0,.bp 1 0,c,.t (tL first),I 0,d,e]) (H:=[.box (aa m),.box [.t (.sl (ws.map World.e))]])
          (fun j=>⟨[.und,.und,.bp 0 0,.bp 1 0,.und,.t (tL first),I j,.und,.und],[.box (aa m),.box [.t (.sl (ws.map World.e))]]⟩) ws.length (fun j=> !oG m ws first j) (fun _ q=>q.1= .ret∧q.2.vs[4]?=some (B false))
          (.exit 0,⟨[.und,.und,.bp 0 0,.bp 1 0,.und,.t (tL first),I ws.length,.und,.und],[.box (aa m),.box [.t (.sl (ws.map World.e))]]⟩) rfl
          (fun j hj hp=>(y7 h ws first hf h2 j hj h1).1 (by simpa using hp))
          (fun j hj hp=>by
           obtain⟨q,q1,q2,q3⟩:=(y7 h ws first hf h2 j hj h1).2 (by simpa using hp)
           exact⟨q,q1,by rw[q2];simp,q2,q3⟩)
          (by simp (disch:=omega) only[go_sem,K.bT,↓reduceIte]) (by simp)
         rw[pw]
         rcases loop (.t m.e) (.t (Bel.e ⟨ws⟩)) (B false) .und .und with⟨e1,e2⟩ | ⟨j,⟨x,vs,H⟩,e1,e2,e3,e4⟩
         · have e2:exS aG K.nL ⟨[.t m.e,.t (Bel.e ⟨ws⟩),.bp 0 0,.bp 1 0,B false,.t (tL first),I 0,.und,.und],[.box (aa m),.box [.t (.sl (ws.map World.e))]]⟩=_:=e2
           simp (disch:=omega) only[go_sem,K.cU,↓reduceIte,ck,hx,c3,and_self,show(1≤first.length∧first.length≤12)by omega,decide_true,decide_false,Bool.true_and,e1,e2,Option.isNone]
         · have e2:exS aG K.nL ⟨[.t m.e,.t (Bel.e ⟨ws⟩),.bp 0 0,.bp 1 0,B false,.t (tL first),I 0,.und,.und],[.box (aa m),.box [.t (.sl (ws.map World.e))]]⟩=_:=e2
           simp only at e3 e4
           subst e3
           simp (disch:=omega) only[go_sem,K.cU,↓reduceIte,ck,hx,c3,and_self,show(1≤first.length∧first.length≤12)by omega,decide_true,decide_false,Bool.true_and,e1,e2,Option.isNone]
           simp (disch:=omega) only[go_sem,iG,e4,List.take_zero]
end Go.Ev
namespace Go.Ev.K
open Go.Ev
def pB:C:=(.seq (.ite [m v5,f 0 v1,g l0,m v4,a 2 l1 l0,f 1 l0,g l0,u (.ln l0),u (.bin .lss l7 l0)] [] 0 .skip (.exit 2)) (.seq (.blk 3 (.reg [m v3,f 0 v1,g l0,m v4,a 2 l1 l0,f 1 l0,g l0,m v5,a 2 l1 l0,f 0 l0,g l0,u (.mx [.l 10,.l 0]),w 3 (.mv l0)] [])) (.reg [m v5,u (.bin .add l0 (.i 1)),w 5 (.mv l0)] [])))
def xp:C:= .loop true [0,2] K.pB
def pC:C:=(.seq (.ite [m v4,f 0 v1,g l0,u (.ln l0),u (.bin .lss l3 l0)] [] 0 .skip (.exit 0)) (.seq (.blk 1 (.seq (.reg [w 5 (.mv (.i 0))] []) (.blk 2 K.xp))) (.reg [m v4,u (.bin .add l0 (.i 1)),w 4 (.mv l0)] [])))
def xq:C:= .loop true [0,2,5] K.pC
def jk:Fn:={ nargs:=1,vars:=[0,1,2,3,4,5],body:=(.seq (.reg [w 1 (.bx v0 1),w 2 (.mv (.i 0))] []) (.seq (.reg [w 3 (.mv (.i 0))] []) (.seq (.seq (.reg [w 4 (.mv (.i 0))] []) (.blk 0 K.xq)) (.seq (.reg [m v3,w 2 (.mv l0)] []) .ret)))),res:=[(2,none)]}
end Go.Ev.K
namespace Go.Ev
class gG [Lib]:Prop where
 tx:Lib.fs N.jk=some K.jk
namespace K
variable [Lib] [gG]
theorem tx:Lib.fs N.jk=some K.jk:=gG.tx
end K
end Go.Ev
namespace Go.Ev.K
open Go.Ev
def eV:C:=(.its [u (.bin .lss v8 v7)] [] 0 .skip (.exit 0) (.seq (.blk 1 (.seq (.reg [m v8,a 1 v6 v8,g l0,w 4 (.mv l2),w 5 (.mv l1)] []) (.ite [m v5,m v1,u (.bin .lss l1 l0),m l0,y 0 false (.mv v5),y 1 false (.mv v2),y 2 false (.bin .gtr l1 l0),u (.pk l3 (.b true) l0),m l0,y 0 false (.mv v4),y 1 false (.bin .gtr l0 (.i 0)),y 2 false (.mv l0),y 0 true (.mv v5),y 1 true (.mv v0),y 2 true (.mv v4),y 3 true (.bin .sub l0 (.i 1)),y 4 true (.ia l2 l0 1),y 5 true (.ld l0 1 false),y 6 true (.bin .leq l5 l0),y 10 false (.pk l7 l0 (.b false)),u (.pk l11 (.b true) l0)] [] 0 (.seq (.reg [w 3 (.mv (.b false))] []) .ret) .skip))) (.reg [u (.bin .add v8 (.i 1)),w 8 (.mv l0)] [])))
def qI:C:= .loop true [3,4,5] K.eV
def cF:Fn:={ nargs:=3,vars:=[0,1,2,6,7,8,9,10,11],body:=(.seq (.reg [w 3 (.mv (.b false))] []) (.seq (.seq (.reg [w 6 (.mv v0),w 7 (.ln l0),w 8 (.mv (.i 0))] []) (.blk 0 K.qI)) (.seq (.reg [w 3 (.mv (.b true))] []) .ret))),res:=[(3,none)]}
end Go.Ev.K
namespace Go.Ev
class gM [Lib]:Prop where
 nY:Lib.fs N.cF=some K.cF
namespace K
variable [Lib] [gM]
theorem nY:Lib.fs N.cF=some K.cF:=gM.nY
end K
end Go.Ev
namespace Go.Ev
open Go
variable [Lib] [cu] [bP] [gG] [gM]
def KW(l:List Int)(lo hi:Int)(j:Nat):Bool:= !decide (lo≤nth l j∧nth l j≤hi∧(0<j→nth l (j-1)<nth l j))
def QD(l:List Int)(lo hi:Int):Bool:= !((List.range l.length).any (KW l lo hi))
theorem uS(l:List Int)(lo hi:Int)(hl:l.length≤4294967296):aG 0 N.cF [.t (tL l),I lo,I hi] []=some (B (QD l lo hi),[]):=by
 refine av K.nY rfl ?_
 have loop:∀a b c:D,exS aG K.qI ⟨[.t (tL l),I lo,I hi,a,b,c,.t (tL l),I l.length,I 0],[]⟩=
  some (if(List.range l.length).any (KW l lo hi)=true
   then(.ret,⟨[.t (tL l),I lo,I hi,B false,I (Da l.length (KW l lo hi)),I (nth l (Da l.length (KW l lo hi))),.t (tL l),I l.length,I (Da l.length (KW l lo hi))],[]⟩)
   else(.exit 0,⟨[.t (tL l),I lo,I hi,.und,.und,.und,.t (tL l),I l.length,I l.length],[]⟩)):=by
  intro a b c
  refine Kx (fun j=>⟨[.t (tL l),I lo,I hi,.und,.und,.und,.t (tL l),I l.length,I j],[]⟩) l.length (KW l lo hi) (fun j=>(.ret,⟨[.t (tL l),I lo,I hi,B false,I j,I (nth l j),.t (tL l),I l.length,I j],[]⟩)) _ rfl ?_ ?_ ?_ (by simp)
  · intro j hj hp
    simp only[KW,Bool.not_eq_false',decide_eq_true_eq]at hp
    obtain⟨h1,h2,h3⟩:=hp
    cases j with
    | zero=>simp (disch:=omega) only[go_sem,K.eV,↓reduceIte]
    | succ j=>
      have h3:=h3 (by omega)
      rw[Nat.add_sub_cancel]at h3
      simp (disch:=omega) only[go_sem,K.eV,↓reduceIte]
  · intro j hj hp
    simp only[KW,Bool.not_eq_true',decide_eq_false_iff_not]at hp
    refine⟨?_,by simp⟩
    by_cases h1:lo≤nth l j
    · by_cases h2:nth l j≤hi
      · cases j with
        | zero=>exact absurd ⟨h1,h2,fun h=>absurd h (by omega)⟩ hp
        | succ j=>
          have h3:¬nth l j<nth l (j+1):=fun h=>hp ⟨h1,h2,fun _=>by simpa using h⟩
          simp (disch:=omega) only[go_sem,K.eV,↓reduceIte]
      · simp (disch:=omega) only[go_sem,K.eV,↓reduceIte]
    · simp (disch:=omega) only[go_sem,K.eV,↓reduceIte]
  · simp (disch:=omega) only[go_sem,K.eV,↓reduceIte]
 unfold QD
 simp (disch:=omega) only[go_sem,K.cF,↓reduceIte,loop]
 cases hf:(List.range l.length).any (KW l lo hi)with
 | true=>simp (disch:=omega) only[go_sem,↓reduceIte]
 | false=>simp (disch:=omega) only[go_sem,↓reduceIte,Bool.false_eq_true]
theorem E7(l:List Int)(n:Int):QD l 0 (n-1)=zB l n:=by
 unfold QD zB
 rw[Ky]
 refine congrArg (!·) (congrArg _ (funext fun j=>?_))
 unfold KW
 refine congrArg (!·) (decide_eq_decide.2 ⟨fun h=>⟨h.1,by omega,h.2.2⟩,fun h=>⟨h.1,by omega,h.2.2⟩⟩)
structure adw where
 st:Int
 fi:Int
 se:Int
 ti:Int
abbrev adw.e(s:adw):T:= .agg [tI s.st,tI s.fi,tI s.se,tI s.ti]
structure Oj where
 area:List Int
 hold:Int
 mis:Int
abbrev Oj.e(x:Oj):T:= .agg [tL x.area,tI x.hold,tI x.mis]
structure Keys where
 roads:List Int
 keys:List Int
 out:Bool
abbrev Keys.e(k:Keys):T:= .agg [tL k.roads,tL k.keys,.bool k.out]
end Go.Ev
namespace Go.Ev
open Go
variable [Lib] [cu] [bP] [gG] [gM] [fW] [fS] [iR] [gF]
theorem H4(x:Int):aG 0 N.bJ [I x] []=some (B (!decide (plT x)),[]):=by
 refine av K.kD rfl ?_
 have i:=Bt x 0 2147483648
 unfold plT inT
 by_cases c:x=1099511627776
 · subst c
   simp (disch:=omega) only[go_sem,K.bJ,↓reduceIte,Nat.reduceAdd,Nat.reduceSub]
 · by_cases c2:0≤x∧x≤2147483648
   · simp only[c2,and_self,decide_true]at i
     simp (disch:=omega) only[go_sem,K.bJ,↓reduceIte,i,c,c2,false_or,and_self,decide_true,Nat.reduceAdd,Nat.reduceSub]
   · simp only[c2,decide_false]at i
     simp (disch:=omega) only[go_sem,K.bJ,↓reduceIte,i,c,c2,false_or,decide_false,Nat.reduceAdd,Nat.reduceSub]
theorem KX(m:aK)(hm:m.places.length≤1000000)(w:Wh)(hl:w.frm.length≤1000000):aG 0 N.cP [.t m.e,.t w.e] []=some (B (qC w m.places.length),[]):=by
 refine av K.mJ rfl ?_
 have i:=Bt w.time 0 2147483648
 have cf:aG 0 N.aD [.t (tL w.frm),.fn N.bJ []] []=some (B (w.frm.any fun x=> !decide (plT x)),[]):=yX w.frm (by omega) N.bJ [] (fun x=> !decide (plT x)) (fun x _=>H4 x)
 have e:qC w m.places.length=(decide ((w.frm.length:Int)=m.places.length∧inT w.time)&& !(w.frm.any fun x=> !decide (plT x))):=by
  unfold qC
  rw[Ky,Tb w.frm (fun x=> !decide (plT x))]
 rw[e]
 unfold inT
 generalize (w.frm.any fun x=> !decide (plT x))=r at*
 obtain⟨places,roads⟩:=m
 obtain⟨time,frm⟩:=w
 simp only at*
 clear e
 by_cases c1:(frm.length:Int)=places.length
 · by_cases c2:0≤time∧time≤2147483648
   · simp only[c2,and_self,decide_true]at i
     cases r<;>simp (disch:=omega) only[go_sem,K.cP,↓reduceIte,i,cf,c1,c2,and_self,decide_true,Bool.true_and,Nat.reduceAdd,Nat.reduceSub]
   · simp only[c2,decide_false]at i
     simp (disch:=omega) only[go_sem,K.cP,↓reduceIte,i,cf,c1,c2,and_false,decide_false,Bool.false_and,Nat.reduceAdd,Nat.reduceSub]
 · simp (disch:=omega) only[go_sem,K.cP,↓reduceIte,c1,false_and,decide_false,Bool.false_and,Nat.reduceAdd,Nat.reduceSub]
theorem KY{m:aK}(h:m.ok)(w:Wh)(hl:w.frm.length≤1000000):aG 0 N.eC [.t m.e,.t w.e] []=some (B (dq m w),[]):=by
 refine av K.nX rfl ?_
 have np:=h.np
 have v:=kS h
 have s:=KX m (by omega) w hl
 unfold dq
 cases hp:qC w m.places.length with
 | false=>
   rw[hp]at s
   obtain⟨places,roads⟩:=m
   obtain⟨time,frm⟩:=w
   simp only at*
   simp (disch:=omega) only[go_sem,K.eC,↓reduceIte,v,s,Bool.false_and,Nat.reduceAdd,Nat.reduceSub]
 | true=>
   rw[hp]at s
   obtain⟨p1,p2,p3⟩:=s7 hp
   have hb:bnd w.frm:=fun x hx=>nU (p3 x hx)
   have lo:=(H3 h w.time (by unfold inT at p2;omega) (by unfold inT at p2;omega) w.frm (by omega) hb).1
   have ll:=kx h w.time p2 none (by simp) (l:=w.frm) (by omega) hb
   have eq:=GQ (dn m w.time none w.frm) w.frm (by omega) (by omega)
   generalize dn m w.time none w.frm=c at*
   obtain⟨places,roads⟩:=m
   obtain⟨time,frm⟩:=w
   simp only at*
   clear hb p3
   simp (disch:=omega) only[go_sem,K.eC,↓reduceIte,v,s,lo,eq,Bool.true_and,Nat.reduceAdd,Nat.reduceSub]
end Go.Ev
namespace Go.Ev.N
def MN:Nat:=215
def MO:Nat:=216
def MP:Nat:=217
def TV:Nat:=218
def TW:Nat:=219
def TX:Nat:=220
def Xi:Nat:=221
def Xj:Nat:=222
def Xk:Nat:=223
def aaC:Nat:=224
def TY:Nat:=225
def TZ:Nat:=226
def T0:Nat:=227
def aaD:Nat:=228
def T1:Nat:=229
def T2:Nat:=230
def Xl:Nat:=231
def QE:Nat:=232
def Xm:Nat:=233
def QF:Nat:=234
def QG:Nat:=235
def QH:Nat:=236
def Xn:Nat:=237
def QI:Nat:=238
def aaE:Nat:=239
def aaF:Nat:=240
def bA:Nat:=241
def Xo:Nat:=242
def T3:Nat:=243
def MQ:Nat:=244
end Go.Ev.N
namespace Go.Ev.N
def GR:Nat:=245
def E8:Nat:=246
def E9:Nat:=247
def T4:Nat:=248
def Ol:Nat:=249
def T5:Nat:=250
def GS:Nat:=251
def MR:Nat:=252
def KZ:Nat:=253
def T6:Nat:=254
def QJ:Nat:=255
def Xp:Nat:=256
def eW:Nat:=257
def H5:Nat:=258
def pD:Nat:=259
def bV:Nat:=260
def aX:Nat:=261
def fk:Nat:=262
def aP:Nat:=263
def aj:Nat:=264
def di:Nat:=265
def qb:Nat:=266
def aH:Nat:=267
def cg:Nat:=268
def aq:Nat:=269
def cmp_isNaN_int:Nat:=270
end Go.Ev.N
namespace Go.Ev.N
def H6:Nat:=271
def K0:Nat:=272
def K1:Nat:=273
def Jh:Nat:=274
def MS:Nat:=275
def K3:Nat:=276
def T7:Nat:=277
def T8:Nat:=278
def Xq:Nat:=279
def Xr:Nat:=280
def MT:Nat:=281
def aaG:Nat:=282
def QK:Nat:=283
def T9:Nat:=284
def Ua:Nat:=285
def Xs:Nat:=286
def vC:Nat:=287
def Xt:Nat:=288
def jB:Nat:=289
def Ub:Nat:=290
def Uc:Nat:=291
def Ud:Nat:=292
def MU:Nat:=293
def iI:Nat:=294
def Ue:Nat:=295
def QL:Nat:=296
def uT:Nat:=297
def uU:Nat:=298
def Om:Nat:=299
def AL:Nat:=300
def p6:Nat:=301
def tz:Nat:=302
def xu:Nat:=303
def rM:Nat:=304
def vD:Nat:=305
def xv:Nat:=306
def uV:Nat:=307
def fm:Nat:=308
end Go.Ev.N
namespace Go.Ev.N
def QN:Nat:=309
def K4:Nat:=310
def MV:Nat:=311
def MW:Nat:=312
def K5:Nat:=313
def Uf:Nat:=314
def agb:Nat:=315
def aaH:Nat:=316
def Ug:Nat:=317
def Uh:Nat:=318
def Ui:Nat:=319
def Uj:Nat:=320
def aaI:Nat:=321
def aaJ:Nat:=322
def Uk:Nat:=323
def On:Nat:=324
def aaK:Nat:=325
def adx:Nat:=326
def MX:Nat:=327
def QO:Nat:=328
def Oo:Nat:=329
def aR:Nat:=330
def aU:Nat:=331
def Oq:Nat:=332
def K6:Nat:=333
end Go.Ev.N
namespace Go.Ev.K
open Go.Ev
end Go.Ev.K
namespace Go.Ev
class mZ [Lib]:Prop where
namespace K
variable [Lib] [mZ]
end K
end Go.Ev
namespace Go.Ev.K
open Go.Ev
def aR:Fn:={ nargs:=1,vars:=[0,2],body:=(.seq (.reg [w 1 (.mv (.c (.nil)))] []) (.itk [m v0,u (.eqk (.sl) false l0 (.c (.nil)))] [] 0 (.seq (.reg [w 1 (.nw 2)] []) .ret) .skip (.seq (.reg [u (.bsr [] 2),m v0,u (.app l1 l0 false 2),w 1 (.mv l0)] []) .ret))),res:=[(1,none)]}
def aU:Fn:={ nargs:=1,vars:=[0,2],body:=(.seq (.reg [w 1 (.mv (.c (.nil)))] []) (.itk [m v0,u (.eqk (.sl) false l0 (.c (.nil)))] [] 0 (.seq (.reg [w 1 (.nw 10)] []) .ret) .skip (.seq (.reg [u (.bsr [] 10),m v0,u (.app l1 l0 false 10),w 1 (.mv l0)] []) .ret))),res:=[(1,none)]}
end Go.Ev.K
namespace Go.Ev
class lZ [Lib]:Prop where
 fH:Lib.fs N.aR=some K.aR
 gj:Lib.fs N.aU=some K.aU
namespace K
variable [Lib] [lZ]
theorem fH:Lib.fs N.aR=some K.aR:=lZ.fH
theorem gj:Lib.fs N.aU=some K.aU:=lZ.gj
end K
end Go.Ev
namespace Go.Ev
open Go
variable [Lib] [cu] [bP] [gG] [gM] [fW] [fS] [iR] [gF] [mZ] [lZ]
end Go.Ev
namespace Go.Ev
open Go
variable [Lib] [cu] [bP]
@[go_sem] theorem Ul (l : List Place) : nF 2 (l.map Place.e) = true := by cases l <;> rfl
@[go_sem] theorem Xu (l : List Road) : nF 10 (l.map Road.e) = true := by cases l <;> rfl
@[go_sem] theorem Xv (H : af) (d : aA) : Ny H 0 1 false (some d.obj) = some (.t (tL d.L), H) := by simp only [aA.obj, go_sem]
def aA.eD(d:aA):Nat→List Place×aA
 | 0=>([],d)
 | k+1=>if k=0 then((d.eD k).1++[⟨-10*((d.eD k).2.next 4).1,true⟩],((d.eD k).2.next 4).2)
   else((d.eD k).1++[⟨-10*((d.eD k).2.next 4).1,(((d.eD k).2.next 4).2.one 6).1⟩],(((d.eD k).2.next 4).2.one 6).2)
def aA.H7(d:aA)(i:Int):Road×aA:=
 (⟨i-1-(d.next (min i 2)).1,i,1+((d.next (min i 2)).2.of [11,59,119,4]).1,1+(((d.next (min i 2)).2.of [11,59,119,4]).2.of [9,3,19]).1,true,false,1,1,0,0⟩,
   (((d.next (min i 2)).2.of [11,59,119,4]).2.of [9,3,19]).2)
def aA.j8(d:aA):Nat→List Road×aA
 | 0=>([],d)
 | k+1=>((d.j8 k).1++[((d.j8 k).2.H7 (k+1)).1],((d.j8 k).2.H7 (k+1)).2)
def aA.pE(d:aA)(n:Int):Road×aA:=
 let a:=d.next n
 let b:=a.2.next n
 let l:=b.2.of [11,59,199]
 let r:=l.2.of [9,3]
 let w:=r.2.next 5
 let c:=w.2.one 6
 (⟨a.1,b.1,1+l.1,1+r.1,decide (0<w.1),c.1,1,1,0,0⟩,c.2)
def aA.more(n:Int)(l:List Road)(d:aA):Nat→List Road×aA
 | 0=>(l,d)
 | k+1=>if l.length<10 then aA.more n (if(d.pE n).1.frm=(d.pE n).1.to then l else l++[(d.pE n).1]) (d.pE n).2 k else(l,d)
def aA.tA(d:aA):Nat:=if d.L.length=0 then 4 else(2+(d.next 6).1).toNat
def aA.K7(d:aA):List Place×aA:=(d.next 6).2.eD d.tA
def aA.BE(d:aA):List Road×aA:=d.K7.2.j8 (d.tA-1)
def aA.Ot(d:aA):List Road×aA:=aA.more d.tA d.BE.1 (d.BE.2.next 4).2 (d.BE.2.next 4).1.toNat
def aA.QP(d:aA):aK×aA:=(⟨d.K7.1,d.Ot.1⟩,d.Ot.2)
theorem aA.j9{d:aA}(h:d.dB):∀n,(d.eD n).2.dB
 | 0=>h
 | n+1=>by
   unfold aA.eD
   split
   · exact aA.aO (aA.j9 h n) 4
   · exact aA.yT (aA.aO (aA.j9 h n) 4) 6
theorem aA.pF(d:aA):∀n,(d.eD n).1.length=n
 | 0=>rfl
 | n+1=>by
   unfold aA.eD
   split<;>simp[d.pF n]
theorem aA.Fa{d:aA}(h:d.dB)(i:Int):(d.H7 i).2.dB:=aA.nh (aA.nh (aA.aO h _) _) _
theorem aA.nu{d:aA}(h:d.dB):∀n,(d.j8 n).2.dB
 | 0=>h
 | n+1=>aA.Fa (aA.nu h n) _
theorem aA.rz(d:aA):∀n,(d.j8 n).1.length=n
 | 0=>rfl
 | n+1=>by simp[aA.j8,d.rz n]
theorem aA.y8{d:aA}(h:d.dB)(n:Int):(d.pE n).2.dB:=by
 unfold aA.pE;simp only
 exact aA.yT (aA.aO (aA.nh (aA.nh (aA.aO (aA.aO h _) _) _) _) _) _
theorem aA.AM(n:Int):∀(k:Nat) (l:List Road) {d:aA},d.dB→(aA.more n l d k).2.dB
 | 0,l,d,h=>h
 | k+1,l,d,h=>by
   unfold aA.more
   split
   · exact aA.AM n k _ (aA.y8 h n)
   · exact h
theorem aA.H8{d:aA}(h:d.dB):d.QP.2.dB:=
 aA.AM _ _ _ (aA.aO (aA.nu (aA.j9 (aA.aO h _) _) _) _)
abbrev BF:List D:=[I 0,I 0,I 12,I 10,B true,B false,I 1,I 1,I 0,I 0]
theorem H9(d:aA)(hd:d.dB)(n:Nat)(hn:n≤8)(a b c e f:D):
 exS aG K.ox ⟨[.bp 0 0,.bp 1 0,.bp 2 0,I n,I 0,a,b,c,e,f],[d.obj,.box [.nil,.nil],.box [.ref 3 0 0,.ref 4 0 0],.arr 2 false 0 [],.arr 10 false 0 []]⟩=
 some (.exit 0,⟨[.bp 0 0,.bp 1 0,.bp 2 0,I n,I n,.und,.und,.und,.und,.und],[(d.eD n).2.obj,.box [.nil,.nil],.box [.ref 3 0 (d.eD n).1.length,.ref 4 0 0],.arr 2 false 0 (((d.eD n).1.map Place.e).map .t),.arr 10 false 0 []]⟩):=by
 refine b7 (fun j=>⟨[.bp 0 0,.bp 1 0,.bp 2 0,I n,I j,.und,.und,.und,.und,.und],[(d.eD j).2.obj,.box [.nil,.nil],.box [.ref 3 0 (d.eD j).1.length,.ref 4 0 0],.arr 2 false 0 (((d.eD j).1.map Place.e).map .t),.arr 10 false 0 []]⟩) n rfl ?_ ?_ (by simp)
 · intro j hj
   have ln:=d.pF j
   have lt:=aA.j9 hd j
   simp only[aA.eD]
   generalize d.eD j=s at*
   obtain⟨l,d1⟩:=s
   simp only at ln lt ⊢
   have h1:=fV d1 4 (by omega) lt
   have b1:=d1.dO 4
   have b2:=d1.dP (n:=4) (by omega)
   have l1:=aA.aO lt 4
   generalize d1.next 4=a1 at*
   obtain⟨x,d2⟩:=a1
   simp only at h1 b1 b2 l1 ⊢
   by_cases j0:j=0
   · subst j0
     simp (disch:=omega) only[go_sem,K.iy,h1,↓reduceIte,Nat.reduceAdd,Nat.reduceSub]
   · have h2:=Kl d2 6 (by omega) (by omega) l1
     simp (disch:=omega) only[go_sem,K.iy,h1,h2,j0,↓reduceIte,Nat.reduceAdd,Nat.reduceSub]
 · simp (disch:=omega) only[go_sem,K.iy,↓reduceIte]
theorem Ia(d:aA)(hd:d.dB)(n:Nat)(hn:n≤8)(h1:1≤n)(ps:List Place)(a b c e:D):
 exS aG K.oy ⟨[.bp 0 0,.bp 1 0,.bp 2 0,I n,a,.bp 5 0,I 1,b,c,e],[d.obj,.box [.nil,.nil],.box [.ref 3 0 ps.length,.ref 4 0 0],.arr 2 false 0 ((ps.map Place.e).map .t),.arr 10 false 0 [],.box BF]⟩=
 some (.exit 2,⟨[.bp 0 0,.bp 1 0,.bp 2 0,I n,.und,.bp 5 0,I n,.und,.und,.und],[(d.j8 (n-1)).2.obj,.box [.nil,.nil],.box [.ref 3 0 ps.length,.ref 4 0 (d.j8 (n-1)).1.length],.arr 2 false 0 ((ps.map Place.e).map .t),.arr 10 false 0 (((d.j8 (n-1)).1.map Road.e).map .t),.box BF]⟩):=by
 refine b7 (fun j=>⟨[.bp 0 0,.bp 1 0,.bp 2 0,I n,.und,.bp 5 0,I (j+1),.und,.und,.und],[(d.j8 j).2.obj,.box [.nil,.nil],.box [.ref 3 0 ps.length,.ref 4 0 (d.j8 j).1.length],.arr 2 false 0 ((ps.map Place.e).map .t),.arr 10 false 0 (((d.j8 j).1.map Road.e).map .t),.box BF]⟩) (n-1) rfl ?_ ?_ (by simp)
 · intro j hj
   have ln:=d.rz j
   have lt:=aA.nu hd j
   simp only[aA.j8]
   generalize d.j8 j=s at*
   obtain⟨l,d1⟩:=s
   simp only[aA.H7]at ln lt ⊢
   have h1:=fV d1 (min ((j:Int)+1) 2) (by omega) lt
   have b1:=d1.dO (min ((j:Int)+1) 2)
   have b2:=d1.dP (n:=min ((j:Int)+1) 2) (by omega)
   have l1:=aA.aO lt (min ((j:Int)+1) 2)
   generalize d1.next (min ((j:Int)+1) 2)=a1 at*
   obtain⟨x,d2⟩:=a1
   simp only at h1 b1 b2 l1 ⊢
   have h2:=Km d2 [11,59,119,4] (by simp) (by simp) l1
   have m2:=d2.uI (l:=[11,59,119,4]) (by simp)
   have l2:=aA.nh l1 [11,59,119,4]
   generalize d2.of [11,59,119,4]=a2 at*
   obtain⟨y,d3⟩:=a2
   simp only[tL,List.map_cons,List.map_nil]at h2 m2 l2 ⊢
   have h3:=Km d3 [9,3,19] (by simp) (by simp) l2
   have m3:=d3.uI (l:=[9,3,19]) (by simp)
   generalize d3.of [9,3,19]=a3 at*
   obtain⟨z,d4⟩:=a3
   simp only[tL,List.map_cons,List.map_nil,List.mem_cons,List.not_mem_nil,or_false]at h3 m2 m3 ⊢
   simp (disch:=omega) only[go_sem,K.jV,h1,h2,h3,↓reduceIte,Nat.reduceAdd,Nat.reduceSub]
 · simp (disch:=omega) only[go_sem,K.jV,↓reduceIte]
   rw[show((n-1:Nat):Int)+1=n by omega]
abbrev Dg(d:aA)(ps:List Place)(l:List Road):af:=[d.obj,.box [.nil,.nil],.box [.ref 3 0 ps.length,.ref 4 0 l.length],.arr 2 false 0 ((ps.map Place.e).map .t),.arr 10 false 0 ((l.map Road.e).map .t),.box BF]
theorem Ib(d:aA)(hd:d.dB)(n:Int)(hn:1≤n)(hn2:n≤8)(ps:List Place)(l:List Road)(hl:l.length<10)(k:Nat)(hk:k≤10):
 fh true [4,6,7,9] 6 (exS aG K.dG ⟨[.bp 0 0,.bp 1 0,.bp 2 0,I n,.und,.bp 5 0,.und,.und,I (k+1),.und],Dg d ps l⟩)=
 some ⟨[.bp 0 0,.bp 1 0,.bp 2 0,I n,.und,.bp 5 0,.und,.und,I k,.und],Dg (d.pE n).2 ps (if(d.pE n).1.frm=(d.pE n).1.to then l else l++[(d.pE n).1])⟩:=by
 unfold aA.pE Dg
 simp only
 have h1:=fV d n (by omega) hd
 have l1:=aA.aO hd n
 generalize d.next n=a1 at*
 obtain⟨x1,d1⟩:=a1
 simp only at h1 l1 ⊢
 have h2:=fV d1 n (by omega) l1
 have l2:=aA.aO l1 n
 generalize d1.next n=a2 at*
 obtain⟨x2,d2⟩:=a2
 simp only at h2 l2 ⊢
 have h3:=Km d2 [11,59,199] (by simp) (by simp) l2
 have m3:=d2.uI (l:=[11,59,199]) (by simp)
 have l3:=aA.nh l2 [11,59,199]
 generalize d2.of [11,59,199]=a3 at*
 obtain⟨x3,d3⟩:=a3
 simp only[tL,List.map_cons,List.map_nil]at h3 m3 l3 ⊢
 have h4:=Km d3 [9,3] (by simp) (by simp) l3
 have m4:=d3.uI (l:=[9,3]) (by simp)
 have l4:=aA.nh l3 [9,3]
 generalize d3.of [9,3]=a4 at*
 obtain⟨x4,d4⟩:=a4
 simp only[tL,List.map_cons,List.map_nil]at h4 m4 l4 ⊢
 have h5:=fV d4 5 (by omega) l4
 have l5:=aA.aO l4 5
 generalize d4.next 5=a5 at*
 obtain⟨x5,d5⟩:=a5
 simp only at h5 l5 ⊢
 have h6:=Kl d5 6 (by omega) (by omega) l5
 generalize d5.one 6=a6 at*
 obtain⟨x6,d6⟩:=a6
 simp only[List.mem_cons,List.not_mem_nil,or_false]at h6 m3 m4 ⊢
 by_cases e:x1=x2
 · simp (disch:=omega) only[go_sem,K.dG,h1,h2,h3,h4,h5,h6,e,↓reduceIte,Nat.reduceAdd,Nat.reduceSub]
 · simp (disch:=omega) only[go_sem,K.dG,h1,h2,h3,h4,h5,h6,e,↓reduceIte,Nat.reduceAdd,Nat.reduceSub]
theorem AN(n:Int)(hn:1≤n)(hn2:n≤8)(ps:List Place):∀(k:Nat) (d:aA) (l:List Road),d.dB→l.length≤10→k≤10→
 ∃z:Int,mw true [4,6,7,9] (exS aG K.dG) ⟨[.bp 0 0,.bp 1 0,.bp 2 0,I n,.und,.bp 5 0,.und,.und,I k,.und],Dg d ps l⟩=
 some (.exit 4,⟨[.bp 0 0,.bp 1 0,.bp 2 0,I n,.und,.bp 5 0,.und,.und,I z,.und],Dg (aA.more n l d k).2 ps (aA.more n l d k).1⟩)
 | 0,d,l,hd,hl,hk=>by
   refine⟨0,eG ?_ (by simp)⟩
   simp (disch:=omega) only[go_sem,K.dG,aA.more,↓reduceIte,Nat.reduceAdd,Nat.reduceSub]
 | k+1,d,l,hd,hl,hk=>by
   by_cases h:l.length<10
   · have hr:=Ib d hd n hn hn2 ps l h k (by omega)
     obtain⟨z,hz⟩:=AN n hn hn2 ps k (d.pE n).2 (if(d.pE n).1.frm=(d.pE n).1.to then l else l++[(d.pE n).1]) (aA.y8 hd n) (by split<;>(try rw[List.length_append,List.length_singleton])<;>omega) (by omega)
     refine⟨z,fo hr ?_⟩
     rw[hz]
     simp only[aA.more,if_pos h]
   · refine⟨(k:Int)+1,eG ?_ (by simp)⟩
     simp (disch:=omega) only[go_sem,K.dG,aA.more,↓reduceIte,Nat.reduceAdd,Nat.reduceSub]
theorem aA.GU(n:Int):∀(k:Nat) (l:List Road) (d:aA),l.length≤10→(aA.more n l d k).1.length≤10
 | 0,l,d,h=>h
 | k+1,l,d,h=>by
   unfold aA.more
   split
   · exact aA.GU n k _ _ (by split<;>(try rw[List.length_append,List.length_singleton])<;>omega)
   · exact h
theorem aA.ye(d:aA):2≤d.tA∧d.tA≤7:=by
 unfold aA.tA
 have:=d.dO 6
 have:=d.dP (n:=6) (by omega)
 split<;>omega
theorem Um(d:aA)(hd:d.dB):aG 0 N.cL [.bp 0 0] [d.obj]=some (.t d.QP.1.e,[d.QP.2.obj]):=by
 refine av K.kY rfl ?_
 have nb:=d.ye
 unfold aA.QP
 have h0:=fV d 6 (by omega) hd
 have l0:=aA.aO hd 6
 have b1:=d.dO 6
 have b2:=d.dP (n:=6) (by omega)
 have hL:=d.P5 6
 have hN:(d.tA:Int)=if d.L.length=0 then 4 else 2+(d.next 6).1:=by unfold aA.tA;split<;>omega
 have e1:d.Ot=aA.more d.tA d.BE.1 (d.BE.2.next 4).2 (d.BE.2.next 4).1.toNat:=rfl
 have e2:d.BE=d.K7.2.j8 (d.tA-1):=rfl
 have e3:d.K7=(d.next 6).2.eD d.tA:=rfl
 generalize d.Ot=X at*
 generalize d.BE=R at*
 generalize d.K7=P at*
 generalize d.tA=n at*
 generalize d.next 6=a at*
 obtain⟨x,d1⟩:=a
 simp only at h0 l0 b1 b2 hL hN e3 ⊢
 have q1:=H9 d1 l0 n (by omega)
 have lP:=aA.j9 l0 n
 have nP:=d1.pF n
 rw[← e3]at q1 lP nP
 obtain⟨ps,d2⟩:=P
 simp only at q1 lP nP e2 ⊢
 have q2:=Ia d2 lP n (by omega) (by omega) ps
 have lR:=aA.nu lP (n-1)
 have nR:=d2.rz (n-1)
 rw[← e2]at q2 lR nR
 obtain⟨rs,d3⟩:=R
 simp only at q2 lR nR e1 ⊢
 have h4:=fV d3 4 (by omega) lR
 have l4:=aA.aO lR 4
 have b3:=d3.dO 4
 have b4:=d3.dP (n:=4) (by omega)
 generalize d3.next 4=c at*
 obtain⟨y,d4⟩:=c
 simp only at h4 l4 b3 b4 e1 ⊢
 obtain⟨z,q3⟩:=AN n (by omega) (by omega) ps y.toNat d4 rs l4 (by omega) (by omega)
 rw[← e1]at q3
 have q3:=sX (vs:=[.bp 0 0,.bp 1 0,.bp 2 0,I n,.und,.bp 5 0,I n,.und,I y.toNat,.und]) q3
 have ey:(y.toNat:Int)=y:=by omega
 rw[ey]at q3
 obtain⟨xs,d5⟩:=X
 have fin:∀k:Int,(exS aG K.oz ⟨[.bp 0 0,.bp 1 0,.bp 2 0,I n,.und,.bp 5 0,I n,.und,I y,.und],Dg d4 ps rs⟩)=
  some (.exit 4,⟨[.bp 0 0,.bp 1 0,.bp 2 0,I n,.und,.bp 5 0,.und,.und,I z,.und],Dg d5 ps xs⟩):=fun _=>q3
 clear q3
 have q3:=fin 0
 clear fin
 simp only[Dg]at q3
 by_cases c0:d.L.length=0
 · rw[if_pos c0]at hN
   obtain rfl:n=4:=by omega
   have e4:((4:Nat):Int)=4:=rfl
   simp only[e4]at q1 q2 q3
   simp (disch:=omega) only[go_sem,K.cL,↓reduceIte,h0,c0,q1,q2,q3,h4,hL,Nat.reduceAdd,Nat.reduceSub]
 · rw[if_neg c0]at hN
   simp (disch:=omega) only[go_sem,K.cL,↓reduceIte,h0,c0,q1,q2,q3,h4,hL,hN.symm,Nat.reduceAdd,Nat.reduceSub]
theorem aA.Ou(d:aA){n:Nat}{i:Int}(h1:1≤i)(h2:i<n):(d.H7 i).1.ok n:=by
 have b1:=d.dO (min i 2)
 have b2:=d.dP (n:=min i 2) (by omega)
 have m2:=(d.next (min i 2)).2.uI (l:=[11,59,119,4]) (by simp)
 have m3:=((d.next (min i 2)).2.of [11,59,119,4]).2.uI (l:=[9,3,19]) (by simp)
 simp only[List.mem_cons,List.not_mem_nil,or_false]at m2 m3
 unfold aA.H7
 constructor<;>(simp only;omega)
theorem aA.Dh(d:aA){n:Nat}:∀k,k+1≤n→∀r∈(d.j8 k).1,r.ok n
 | 0,_,r,hr=>by simp[aA.j8]at hr
 | k+1,h,r,hr=>by
   simp only[aA.j8,List.mem_append,List.mem_singleton]at hr
   rcases hr with hr | rfl
   · exact d.Dh k (by omega) r hr
   · exact aA.Ou _ (by omega) (by omega)
theorem aA.Ov(d:aA){n:Nat}(hn:1≤n)(hne:(d.pE n).1.frm≠(d.pE n).1.to):(d.pE n).1.ok n:=by
 unfold aA.pE at hne ⊢
 simp only at hne ⊢
 have b1:=d.dO n
 have b2:=d.dP (n:=(n:Int)) (by omega)
 generalize d.next n=a1 at*
 obtain⟨x1,d1⟩:=a1
 simp only at*
 have c1:=d1.dO n
 have c2:=d1.dP (n:=(n:Int)) (by omega)
 generalize d1.next n=a2 at*
 obtain⟨x2,d2⟩:=a2
 simp only at*
 have m3:=d2.uI (l:=[11,59,199]) (by simp)
 generalize d2.of [11,59,199]=a3 at*
 obtain⟨x3,d3⟩:=a3
 simp only at*
 have m4:=d3.uI (l:=[9,3]) (by simp)
 generalize d3.of [9,3]=a4 at*
 obtain⟨x4,d4⟩:=a4
 simp only[List.mem_cons,List.not_mem_nil,or_false]at m3 m4 ⊢
 constructor<;>(simp only;omega)
theorem aA.K8{n:Nat}(hn:1≤n):∀(k:Nat) (l:List Road) (d:aA),(∀r∈l,r.ok n)→∀r∈(aA.more n l d k).1,r.ok n
 | 0,l,d,h=>h
 | k+1,l,d,h=>by
   unfold aA.more
   split
   · refine aA.K8 hn k _ _ ?_
     split
     · exact h
     · rename_i hne
       intro r hr
       rcases List.mem_append.1 hr with hr | hr
       · exact h r hr
       · rw[List.mem_singleton.1 hr];exact d.Ov hn hne
   · exact h
theorem aA.Di(n:Int):∀(k:Nat) (l:List Road) (d:aA),l.length≤(aA.more n l d k).1.length
 | 0,l,d=>Nat.le_refl _
 | k+1,l,d=>by
   unfold aA.more
   split
   · refine Nat.le_trans ?_ (aA.Di n k _ _)
     split<;>(try rw[List.length_append])<;>omega
   · exact Nat.le_refl _
theorem aA.Dj(d:aA):∀k,∀p∈(d.eD k).1, -30≤p.h∧p.h≤0
 | 0,p,hp=>by simp[aA.eD]at hp
 | k+1,p,hp=>by
   have b1:=(d.eD k).2.dO 4
   have b2:=(d.eD k).2.dP (n:=4) (by omega)
   unfold aA.eD at hp
   split at hp
   all_goals
    simp only[List.mem_append,List.mem_singleton]at hp
    rcases hp with hp | rfl
    · exact d.Dj k p hp
    · simp only;omega
theorem aA.y9(d:aA):d.QP.1.places.length=d.tA:=aA.pF _ _
theorem aA.AO(d:aA):d.tA-1≤d.QP.1.roads.length∧d.QP.1.roads.length≤10:=by
 have nb:=d.ye
 have e:d.BE.1.length=d.tA-1:=aA.rz _ _
 constructor
 · rw[← e];exact aA.Di _ _ _ _
 · exact aA.GU _ _ _ _ (by omega)
theorem aA.K9(d:aA):d.QP.1.ok:=by
 have nb:=d.ye
 have h1:=d.y9
 have h2:=d.AO
 refine⟨by omega,by omega,fun p hp=>?_,?_⟩
 · have:=aA.Dj _ _ p hp;omega
 · rw[h1]
   exact aA.K8 (by omega) _ _ _ (aA.Dh _ _ (by omega))
@[go_sem] theorem aaL (l : List Spn) : nF 2 (l.map Spn.e) = true := by cases l <;> rfl
@[go_sem] theorem agc (l : List Spn) (k : Nat) (a b : Int) : (List.map D.t (List.map Spn.e l)).set k (D.t (T.agg [tI a, tI b])) = List.map D.t (List.map Spn.e (l.set k ⟨a, b⟩)) := by
 rw[List.map_set,List.map_set]
@[go_sem] theorem ahs (H : af) (sz : Nat) (a b c d e f : T) : Ay H sz [.t a, .t b, .t c, .t d, .t e, .t f] = if cB sz [a, b, c, d, e, f] = true then some (.t (.sl [a, b, c, d, e, f]), H) else none := ql H sz [a, b, c, d, e, f]
@[go_sem] theorem aht (H : af) (sz : Nat) (a b c d e f g : T) : Ay H sz [.t a, .t b, .t c, .t d, .t e, .t f, .t g] = if cB sz [a, b, c, d, e, f, g] = true then some (.t (.sl [a, b, c, d, e, f, g]), H) else none := ql H sz [a, b, c, d, e, f, g]
@[go_sem] theorem ahu (H : af) (sz : Nat) (a b c d e f g h : T) : Ay H sz [.t a, .t b, .t c, .t d, .t e, .t f, .t g, .t h] = if cB sz [a, b, c, d, e, f, g, h] = true then some (.t (.sl [a, b, c, d, e, f, g, h]), H) else none := ql H sz [a, b, c, d, e, f, g, h]
@[go_sem] theorem aaM {α β γ : Type} {l : List α} {g : α → β} {f : β → γ} {x : γ} {j : Nat} (h : j = l.length) : (List.map f (List.map g l) ++ [x])[j]? = some x := by
 rw[List.getElem?_append_right (by simp;omega)];simp[h]
@[go_sem] theorem ady {α β γ : Type} {l : List α} {g : α → β} {f : β → γ} {x y : γ} {j : Nat} (h : j = l.length) : (List.map f (List.map g l) ++ [x]).set j y = List.map f (List.map g l) ++ [y] := by
 rw[List.set_append_right _ _ (by simp;omega)];simp[h]
def aA.aaN(d:aA):Spn×aA:=
 let a:=d.of [0,1000,5000,20000, -5000, -20000,4999,100]
 let b:=a.2.of [0,1,1000,6000]
 let c:=b.2.of [0,1,500]
 let w:=c.2.one 9
 (if w.1=true then⟨-1125899906842624,1125899906842624⟩else⟨a.1-b.1,a.1+c.1⟩,w.2)
def aA.GV(d:aA):Nat→List Spn×aA
 | 0=>([],d)
 | k+1=>((d.GV k).1++[((d.GV k).2.aaN).1],((d.GV k).2.aaN).2)
def aA.agd(d:aA)(m:aK):List Spn×aA:=d.GV m.roads.length
theorem aaO(l:List Int):aG 0 N.jh [.t (tL l)] []=some (.bp 0 0,[aA.obj ⟨l,0⟩]):=by
 refine av K.sR rfl ?_
 simp (disch:=omega) only[go_sem,K.jh,↓reduceIte,aA.obj,Nat.reduceAdd,Nat.reduceSub]
theorem Dk{d:aA}(hd:d.dB)(n:Int)(h1:1≤n)(hn:n≤4611686018427387904):
 ∃(v:Int) (e:aA),aG 0 N.ax [.bp 0 0,I n] [d.obj]=some (I v,[e.obj])∧e.dB∧0≤v∧v<n:=
 ⟨_,_,fV d n hn hd,aA.aO hd n,d.dO n,d.dP h1⟩
theorem age{d:aA}(hd:d.dB)(n:Int)(h1:0≤n)(hn:n≤4611686018427387904):
 ∃(b:Bool) (e:aA),aG 0 N.bQ [.bp 0 0,I n] [d.obj]=some (B b,[e.obj])∧e.dB:=
 ⟨_,_,Kl d n h1 hn hd,aA.yT hd n⟩
theorem aii{d:aA}(hd:d.dB)(l:List Int)(hl:l≠[])(hn:l.length≤4294967296):
 ∃(v:Int) (e:aA),aG 0 N.cq [.bp 0 0,.t (tL l)] [d.obj]=some (I v,[e.obj])∧e.dB∧v∈l:=
 ⟨_,_,Km d l hl hn hd,aA.nh hd l,d.uI hl⟩
theorem aaP{d:aA}(hd:d.dB):
 ∃(m:aK) (e:aA),aG 0 N.cL [.bp 0 0] [d.obj]=some (.t m.e,[e.obj])∧e.dB∧m.ok∧2≤m.places.length∧m.places.length≤7∧1≤m.roads.length∧m.roads.length≤10:=by
 have b:=d.ye
 have p:=d.y9
 have r:=d.AO
 exact⟨_,_,Um d hd,aA.H8 hd,d.K9,by omega,by omega,by omega,by omega⟩
end Go.Ev
namespace Go.Ev
open Go
variable [Lib] [cu] [bP] [gG] [gM]
abbrev never:Int:=1099511627776
abbrev Wh.box(w:Wh):Obj:= .box [I w.time,.t (tL w.frm)]
structure Req where
 x:Oj
 s:adw
 k:Keys
 b:Bel
 t:Int
 from_:Int
abbrev Req.e(r:Req):T:= .agg [tL r.x.area,tI r.x.hold,tI r.x.mis,tI r.s.st,tI r.s.fi,tI r.s.se,tI r.s.ti,tL r.k.roads,tL r.k.keys,.bool r.k.out,.sl (r.b.worlds.map World.e),tI r.t,tI r.from_]
structure Req.sz(r:Req):Prop where
 hx:r.x.area.length≤1000000
 hk:r.k.roads.length≤1000000
 hk2:r.k.keys.length≤1000000
 hb:r.b.sz
section
variable (x : Oj) (s : adw) (k : Keys) (b : Bel) (hx : x.area.length ≤ 1000000) (hk : k.roads.length ≤ 1000000) (hk2 : k.keys.length ≤ 1000000) (hb : b.sz)
include hx hk hk2 hb
end
end Go.Ev
namespace Go.Ev
open Go
variable [Lib] [cu] [bP] [gG] [gM]
section
variable (area : List Int) (ha : area.length ≤ 1000000) (xs : List World) (hx : xs.length ≤ 1000000)
include ha hx
end
end Go.Ev
namespace Go.Ev.K
open Go.Ev
end Go.Ev.K
namespace Go.Ev
class jO [Lib]:Prop where
namespace K
variable [Lib] [jO]
end K
end Go.Ev
namespace Go.Ev.K
open Go.Ev
def bA:Fn:={ nargs:=1,vars:=[],body:= .fail,res:=[],prim:=[1]}
end Go.Ev.K
namespace Go.Ev
class eX [Lib]:Prop where
 iJ:Lib.fs N.bA=some K.bA
namespace K
variable [Lib] [eX]
theorem iJ:Lib.fs N.bA=some K.bA:=eX.iJ
end K
end Go.Ev
namespace Go.Ev
open Go
variable [Lib] [cu] [bP] [gG] [gM] [jO] [fW] [fS] [iR] [gF] [eX]
end Go.Ev
namespace Go.Ev
open Go
theorem Fb{d:D}{n:Int}(h:Ag d=some n):d= .t (.int .i64 n):=by
 unfold Ag at h
 split at h
 · cases h;rfl
 · cases h
theorem La:∀ {es:List D} {l:List Int},bW Ag es=some l→es=l.map fun x=> .t (.int .i64 x)
 | [],l,h=>by simp[bW]at h;subst h;rfl
 | e::r,l,h=>by
   simp only[bW,Option.bind_eq_some_iff,Option.map_eq_some_iff]at h
   obtain⟨x,hx,y,hy,rfl⟩:=h
   rw[Fb hx,La hy];rfl
theorem za(x:Int):∀l,(Rb x l).Perm (x::l)
 | []=> .refl _
 | y::r=>by
   unfold Rb
   split
   · exact .refl _
   · exact((za x r).cons y).trans (.swap x y r)
theorem iU:∀l,(gn l).Perm l
 | []=> .refl _
 | x::r=>(za x _).trans ((iU r).cons x)
theorem Lb{x:Int}:∀ {l:List Int},l.Pairwise (· ≤ ·)→(Rb x l).Pairwise (· ≤ ·)
 | [],_=>by simp[Rb]
 | y::r,h=>by
   unfold Rb
   split
   · rename_i hx
     refine List.pairwise_cons.2 ⟨fun z hz=>?_,h⟩
     rcases List.mem_cons.1 hz with rfl | hz
     · exact hx
     · have:=(List.pairwise_cons.1 h).1 z hz;omega
   · rename_i hx
     have h':=List.pairwise_cons.1 h
     refine List.pairwise_cons.2 ⟨fun z hz=>?_,Lb h'.2⟩
     have hz:=(za x r).mem_iff.1 hz
     rcases List.mem_cons.1 hz with rfl | hz
     · omega
     · exact h'.1 z hz
theorem rA:∀l,(gn l).Pairwise (· ≤ ·)
 | []=> .nil
 | x::r=>Lb (rA r)
theorem iK(l:List Int):(gn l).length=l.length:=(iU l).length_eq
theorem GW(l:List Int):(l.mergeSort fun x y=>decide (x≤y))=gn l:=by
 refine List.Perm.eq_of_pairwise (le:=(· ≤ ·)) (fun a b _ _ h1 h2=>by omega) ?_ (rA l) ((List.mergeSort_perm _ _).trans (iU l).symm)
 have:=List.pairwise_mergeSort (le:=fun x y:Int=>decide (x≤y)) (fun a b c=>by simp;omega) (fun a b=>by simp;omega) l
 exact this.imp (by simp)
end Go.Ev
namespace Go.Ev
open Go
variable [Lib] [cu] [bP] [gG] [gM] [jO] [fW] [fS] [iR] [gF] [eX]
section
variable (k : Keys) (hl : k.keys.length ≤ 1000000) (hr : k.roads.length ≤ 1000000)
include hl hr
end
end Go.Ev
namespace Go.Ev
open Go
variable [Lib] [cu] [bP] [gG] [gM] [jO] [fW] [fS] [iR] [gF] [eX]
theorem Dl:∀l:List Int,bW Ag ((l.map (T.int .i64)).map .t)=some l
 | []=>rfl
 | x::r=>by simp only[List.map_cons,bW,Ag,Option.bind_some,Dl r,Option.map_some]
theorem Un(raw:Nat)(l:List Int)(hl:l.length≤4294967296):aG raw N.bA [.ref 0 0 l.length] [sA l]=some (.tup [],[sA (gn l)]):=by
 refine yS K.iJ (by simp[K.bA]) ?_
 have m:=Dl l
 simp only[K.bA,xG,sA,List.getElem?_cons_zero,List.length_map,lim,hl,and_self,↓reduceIte,m,Option.map_some,List.set_cons_zero]
 rw[List.map_map]
 rfl
theorem agf{a b:List Int}(ha:a.Pairwise (· ≤ ·))(hb:b.Pairwise (· ≤ ·))(p:a.Perm b):a=b:=
 List.Perm.eq_of_pairwise (le:=(· ≤ ·)) (fun a b _ _ h1 h2=>by omega) ha hb p
section
variable (b u v y : Obj) (ds : af)
end
end Go.Ev
namespace Go.Ev.K
open Go.Ev
def bK:C:=(.its [u (.bin .lss v10 v9)] [] 0 .skip (.exit 0) (.seq (.blk 1 (.seq (.reg [m v10,a 2 v8 v10,h 2 l0,w 7 (.al [.nil,.nil] []),w 6 (.mv l3),u (.st l1 l2 2 [])] []) (.blk 2 (.ite [f 0 v7,g l0,u (.ln l0),u (.ca N.dF 0 [] [.l 0,.i 1,.i 12]),u (.un .not l0),m l0,y 0 false (.fa v7 1),y 1 false (.ld l0 1 false),y 2 false (.ln l0),y 3 false (.fa v7 0),y 4 false (.ld l0 1 false),y 5 false (.ln l0),y 6 false (.bin .neq l3 l0),u (.pk l7 (.b true) l0),m l0,y 0 false (.fa v7 0),y 1 false (.ld l0 1 false),y 2 false (.ca N.fk 0 [] [.l 0]),y 3 false (.un .not l0),u (.pk l4 (.b true) l0),m l0] [] 0 (.seq (.reg [w 4 (.mv (.b false))] []) .ret) (.ite [f 0 v7,g l0,u (.ca N.aX 0 [] [.l 0]),u (.ca N.bV 0 [] [.l 0]),m v5,u (.ca N.aV 0 [] [.l 1,.l 0]),u (.un .not l0),m l0] [] 0 (.seq (.reg [w 4 (.mv (.b false))] []) .ret) (.ite [m v6,u (.bin .gtr l0 (.i 0)),m l0,y 0 true (.fa v3 0),y 1 true (.ld l0 1 false),y 2 true (.mv v6),y 3 true (.bin .sub l0 (.i 1)),y 4 true (.ia l2 l0 2),y 5 true (.fa l0 0),y 6 true (.ld l0 1 false),y 7 true (.fa v7 0),y 8 true (.ld l0 1 false),y 9 true (.ca N.aP 0 [] [.l 2,.l 0]),y 10 true (.bin .geq l0 (.i 0)),u (.pk l11 l0 (.b false)),m l0] [] 0 (.seq (.reg [w 4 (.mv (.b false))] []) .ret) (.ite [f 1 v7,g l0,u (.mf N.di [.v 2]),u (.ca N.aj 0 [] [.l 1,.l 0]),m l0] [] 0 (.seq (.reg [w 4 (.mv (.b false))] []) .ret) .skip))))))) (.reg [u (.bin .add v10 (.i 1)),w 10 (.mv l0)] [])))
def nZ:C:= .loop true [0,1,4,6,7] K.bK
def eW:Fn:={ nargs:=2,vars:=[0,1,2,3,4,5,6,7,26,27,28],body:=(.seq (.reg [w 2 (.bx v0 2),w 3 (.bx v1 1),w 4 (.mv (.b false))] []) (.seq (.ite [h 2 v2,u (.ca N.dy 0 [] [.l 0]),u (.un .not l0),m l0,y 0 false (.fa v3 0),y 1 false (.ld l0 1 false),y 2 false (.ln l0),y 3 false (.ca N.dF 0 [] [.l 0,.i 1,.i 24]),y 4 false (.un .not l0),u (.pk l5 (.b true) l0)] [] 0 (.seq (.reg [w 4 (.mv (.b false))] []) .ret) .skip) (.seq (.reg [f 0 v3,g l0,a 2 l0 (.i 0),f 0 l0,g l0,u (.ca N.aX 0 [] [.l 0]),u (.ca N.bV 0 [] [.l 0]),w 5 (.mv l0)] []) (.seq (.seq (.reg [f 0 v3,w 8 (.ld l0 1 false),w 9 (.ln l0),w 10 (.mv (.i 0))] []) (.blk 0 K.nZ)) (.seq (.reg [w 4 (.mv (.b true))] []) .ret))))),res:=[(4,none)]}
def bV:Fn:={ nargs:=1,vars:=[2],body:= .fail,res:=[(0,none)],prim:=[2,N.aH]}
def aX:Fn:={ nargs:=1,vars:=[0,1,2],body:=(.seq (.reg [w 1 (.bx v0 1),w 2 (.mv (.c (.und)))] []) (.seq (.reg [u (.mf N.aH [.v 1]),w 2 (.mv l0)] []) .ret)),res:=[(2,none)]}
def fk:Fn:={ nargs:=1,vars:=[0,2,3],body:=(.seq (.reg [w 1 (.mv (.b false))] []) (.seq (.reg [m v0,u (.ca N.aX 0 [] [.l 0]),u (.ca N.bV 0 [] [.l 0]),w 2 (.mv l0)] []) (.seq (.reg [m v2,u (.ca N.cF 0 [] [.l 0,.i 1,.i 65535]),w 1 (.mv l0)] []) .ret))),res:=[(1,none)]}
def cT:C:=(.its [u (.bin .lss v9 v8)] [] 0 .skip (.exit 0) (.seq (.blk 1 (.seq (.reg [m v9,a 1 v7 v9,g l0,w 3 (.mv l2),w 4 (.mv l1)] []) (.seq (.ite [m v3,m v1,u (.ln l0),u (.bin .geq l2 l0)] [] 0 (.seq (.reg [w 2 (.mv (.i 1))] []) .ret) .skip) (.seq (.reg [m v1,m v3,a 1 l1 l0,g l0,w 5 (.mv l0)] []) (.seq (.reg [m v4,m v5,u (.ca N.cg 0 [] [.l 1,.l 0]),w 6 (.mv l0)] []) (.ite [m v6,u (.bin .neq l0 (.i 0))] [] 0 (.seq (.reg [m v6,w 2 (.mv l0)] []) .ret) .skip)))))) (.reg [u (.bin .add v9 (.i 1)),w 9 (.mv l0)] [])))
def jr:C:= .loop true [2,3,4,5,6] K.cT
def aP:Fn:={ nargs:=2,vars:=[0,1,4,5,6,7,8,9,10,11],body:=(.seq (.reg [w 2 (.mv (.i 0))] []) (.seq (.seq (.reg [w 7 (.mv v0),w 8 (.ln l0),w 9 (.mv (.i 0))] []) (.blk 0 K.jr)) (.seq (.ite [m v0,u (.ln l0),m v1,u (.ln l0),u (.bin .lss l2 l0)] [] 0 (.seq (.reg [w 2 (.mv (.i (-1)))] []) .ret) .skip) (.seq (.reg [w 2 (.mv (.i 0))] []) .ret)))),res:=[(2,none)]}
def aj:Fn:={ nargs:=2,vars:=[0,1,4],body:=(.seq (.reg [w 2 (.mv (.b false))] []) (.seq (.reg [m v0,m v1,u (.ca N.aq 0 [] [.l 1,.l 0]),u (.bin .geq l0 (.i 0)),w 2 (.mv l0)] []) .ret)),res:=[(2,none)]}
def di:Fn:={ nargs:=2,vars:=[0,1,2,3],body:=(.seq (.reg [w 2 (.bx v0 2),w 3 (.mv (.b false))] []) (.seq (.reg [h 2 v1,h 2 v2,u (.ca N.eC 0 [] [.l 1,.l 0]),u (.un .not l0),w 3 (.mv l0)] []) .ret)),res:=[(3,none)]}
def mM:C:=(.its [u (.bin .lss v5 v4)] [] 0 .skip (.exit 0) (.seq (.blk 1 (.seq (.reg [a 1 v3 v5,g l0,w 2 (.mv l0)] []) (.ite [m v0,m v2,u (.cw l1 0 [] [.l 0]),u (.un .not l0)] [] 0 .ret .skip))) (.reg [u (.bin .add v5 (.i 1)),w 5 (.mv l0)] [])))
def m0:C:= .loop true [1,2] K.mM
def aH:Fn:={ nargs:=2,vars:=[0,1,4,5,6,7],body:=(.seq (.reg [w 3 (.ld v1 1 false),w 4 (.ln l0),w 5 (.mv (.i 0))] []) (.blk 0 K.m0)),res:=[]}
def cg:Fn:={ nargs:=2,vars:=[0,1,4,5,6],body:=(.seq (.reg [w 2 (.mv (.i 0))] []) (.seq (.reg [m v0,u (.ca N.cmp_isNaN_int 0 [] [.l 0]),w 3 (.mv l0)] []) (.seq (.reg [m v1,u (.ca N.cmp_isNaN_int 0 [] [.l 0]),w 4 (.mv l0)] []) (.seq (.ite [m v3] [] 0 (.seq (.ite [m v4] [] 0 (.seq (.reg [w 2 (.mv (.i 0))] []) .ret) .skip) (.seq (.reg [w 2 (.mv (.i (-1)))] []) .ret)) .skip) (.seq (.ite [m v4] [] 0 (.seq (.reg [w 2 (.mv (.i 1))] []) .ret) .skip) (.seq (.ite [m v0,m v1,u (.bin .lss l1 l0)] [] 0 (.seq (.reg [w 2 (.mv (.i (-1)))] []) .ret) .skip) (.seq (.ite [m v0,m v1,u (.bin .gtr l1 l0)] [] 0 (.seq (.reg [w 2 (.mv (.i 1))] []) .ret) .skip) (.seq (.reg [w 2 (.mv (.i 0))] []) .ret)))))))),res:=[(2,none)]}
def aT:C:=(.its [u (.bin .lss v5 v4)] [] 0 .skip (.exit 0) (.seq (.blk 1 (.seq (.reg [m v5,w 3 (.mv l0)] []) (.ite [m v1,m v0,m v3,a 2 l1 l0,h 2 l0,u (.cw l4 0 [] [.l 0])] [] 0 (.seq (.reg [m v3,w 2 (.mv l0)] []) .ret) .skip))) (.reg [u (.bin .add v5 (.i 1)),w 5 (.mv l0)] [])))
def cG:C:= .loop true [2,3] K.aT
def aq:Fn:={ nargs:=2,vars:=[0,1,4,5,7,8],body:=(.seq (.reg [w 2 (.mv (.i 0))] []) (.seq (.seq (.reg [m v0,w 4 (.ln l0),w 5 (.mv (.i 0))] []) (.blk 0 K.cG)) (.seq (.reg [w 2 (.mv (.i (-1)))] []) .ret))),res:=[(2,none)]}
def cmp_isNaN_int:Fn:={ nargs:=1,vars:=[0,2],body:=(.seq (.reg [w 1 (.mv (.b false))] []) (.seq (.reg [m v0,m v0,u (.bin .neq l1 l0),w 1 (.mv l0)] []) .ret)),res:=[(1,none)]}
end Go.Ev.K
namespace Go.Ev
class dT [Lib]:Prop where
 pG:Lib.fs N.eW=some K.eW
 jC:Lib.fs N.bV=some K.bV
 gR:Lib.fs N.aX=some K.aX
 n5:Lib.fs N.fk=some K.fk
 gH:Lib.fs N.aP=some K.aP
 bu:Lib.fs N.aj=some K.aj
 mN:Lib.fs N.di=some K.di
 jt:Lib.fs N.aH=some K.aH
 kE:Lib.fs N.cg=some K.cg
 bD:Lib.fs N.aq=some K.aq
 mO:Lib.fs N.cmp_isNaN_int=some K.cmp_isNaN_int
namespace K
variable [Lib] [dT]
theorem pG:Lib.fs N.eW=some K.eW:=dT.pG
theorem jC:Lib.fs N.bV=some K.bV:=dT.jC
theorem gR:Lib.fs N.aX=some K.aX:=dT.gR
theorem n5:Lib.fs N.fk=some K.fk:=dT.n5
theorem gH:Lib.fs N.aP=some K.aP:=dT.gH
theorem bu:Lib.fs N.aj=some K.aj:=dT.bu
theorem mN:Lib.fs N.di=some K.di:=dT.mN
theorem jt:Lib.fs N.aH=some K.aH:=dT.jt
theorem kE:Lib.fs N.cg=some K.cg:=dT.kE
theorem bD:Lib.fs N.aq=some K.aq:=dT.bD
theorem mO:Lib.fs N.cmp_isNaN_int=some K.cmp_isNaN_int:=dT.mO
end K
end Go.Ev
namespace Go.Ev
open Go
variable [Lib] [cu] [bP] [gG] [gM] [jO] [fW] [fS] [iR] [gF] [eX] [dT]
theorem zb(l:List Int):aG 0 N.aX [.t (tL l)] []=some (.fn N.aH [.bp 0 0],[.box [.t (tL l)]]):=by
 refine av K.gR rfl ?_
 simp (disch:=omega) only[go_sem,K.aX,↓reduceIte,Nat.reduceAdd,Nat.reduceSub]
theorem Ic(l:List Int):yg (tL l)=some l:=by
 unfold yg
 simp only
 induction l with
 | nil=>rfl
 | cons x l ih=>
   simp only[List.map_cons,bW]at ih ⊢
   rw[ih];rfl
theorem zc(l:List Int)(hl:l.length≤1000000):aG 0 N.bV [.fn N.aH [.bp 0 0]] [.box [.t (tL l)]]=some (.t (tL (gn l)),[.box [.t (tL l)]]):=by
 refine yS K.jC (by decide) ?_
 show xG [2,N.aH] _ _=_
 simp only[xG,if_true,List.getElem?_cons_zero,sD,Option.bind_some,Ic]
 rw[if_pos (by unfold lim;omega)]
theorem GX(a:Int):aG 0 N.cmp_isNaN_int [I a] []=some (B false,[]):=by
 refine av K.mO rfl ?_
 simp (disch:=omega) only[go_sem,K.cmp_isNaN_int,↓reduceIte,decide_true,Bool.not_true,Nat.reduceAdd,Nat.reduceSub]
def Lc(a b:Int):Int:=if a<b then -1 else if b<a then 1 else 0
theorem QQ(a b:Int):aG 0 N.cg [I a,I b] []=some (I (Lc a b),[]):=by
 refine av K.kE rfl ?_
 have h1:=GX a
 have h2:=GX b
 unfold Lc
 by_cases c1:a<b
 · simp (disch:=omega) only[go_sem,K.cg,↓reduceIte,h1,h2,c1,Bool.false_eq_true,Nat.reduceAdd,Nat.reduceSub]
 · by_cases c2:b<a
   · simp (disch:=omega) only[go_sem,K.cg,↓reduceIte,h1,h2,c1,c2,Bool.false_eq_true,Nat.reduceAdd,Nat.reduceSub]
   · simp (disch:=omega) only[go_sem,K.cg,↓reduceIte,h1,h2,c1,c2,Bool.false_eq_true,Nat.reduceAdd,Nat.reduceSub]
def GY(a b:List Int)(j:Nat):Bool:=decide (b.length≤j)||decide (nth a j≠nth b j)
def Xw(a b:List Int):Int:=match (List.range a.length).find? (GY a b)with
 | some j=>if b.length≤j then 1 else Lc (nth a j) (nth b j)
 | none=>if a.length<b.length then -1 else 0
theorem Ie(a b:List Int)(ha:a.length≤1000000)(hb:b.length≤1000000):aG 0 N.aP [.t (tL a),.t (tL b)] []=some (I (Xw a b),[]):=by
 refine av K.gH rfl ?_
 have loop:∀z2 z3 z4 z5 z6:D,exS aG K.jr ⟨[.t (tL a),.t (tL b),z2,z3,z4,z5,z6,.t (tL a),I a.length,I 0],[]⟩=
  some (match (List.range a.length).find? (GY a b)with
   | some j=>(.ret,⟨[.t (tL a),.t (tL b),I (if b.length≤j then 1 else Lc (nth a j) (nth b j)),I j,I (nth a j),if b.length≤j then .und else I (nth b j),if b.length≤j then .und else I (Lc (nth a j) (nth b j)),.t (tL a),I a.length,I j],[]⟩)
   | none=>(.exit 0,⟨[.t (tL a),.t (tL b),.und,.und,.und,.und,.und,.t (tL a),I a.length,I a.length],[]⟩)):=by
  intro z2 z3 z4 z5 z6
  refine bY (fun j=>⟨[.t (tL a),.t (tL b),.und,.und,.und,.und,.und,.t (tL a),I a.length,I j],[]⟩) a.length (GY a b) _ _ rfl ?_ ?_ ?_ (by simp)
  · intro j hj hp
    simp only[GY,Bool.or_eq_false_iff,decide_eq_false_iff_not,Decidable.not_not]at hp
    obtain⟨h1,h2⟩:=hp
    have c:=QQ (nth a j) (nth b j)
    rw[h2]at c
    have e:Lc (nth b j) (nth b j)=0:=by unfold Lc;rw[if_neg (by omega),if_neg (by omega)]
    rw[e]at c
    simp (disch:=omega) only[go_sem,K.cT,↓reduceIte,h2,c,Nat.reduceAdd,Nat.reduceSub]
  · intro j hj hp
    refine⟨?_,by simp⟩
    by_cases h1:b.length≤j
    · rw[if_pos h1,if_pos h1,if_pos h1]
      simp (disch:=omega) only[go_sem,K.cT,↓reduceIte,Nat.reduceAdd,Nat.reduceSub]
    · rw[if_neg h1,if_neg h1,if_neg h1]
      have h2:nth a j≠nth b j:=by simpa [GY,h1]using hp
      have c:=QQ (nth a j) (nth b j)
      have e:Lc (nth a j) (nth b j)≠0:=by
       unfold Lc;split
       · omega
       · split<;>omega
      generalize Lc (nth a j) (nth b j)=v at*
      simp (disch:=omega) only[go_sem,K.cT,↓reduceIte,c,e,Nat.reduceAdd,Nat.reduceSub]
  · simp (disch:=omega) only[go_sem,K.cT,↓reduceIte,Nat.reduceAdd,Nat.reduceSub]
 unfold Xw
 cases hf:(List.range a.length).find? (GY a b)with
 | some j=>
   simp only[hf]at loop
   simp (disch:=omega) only[go_sem,K.aP,↓reduceIte,loop,Nat.reduceAdd,Nat.reduceSub]
 | none=>
   simp only[hf]at loop
   by_cases h:a.length<b.length
   · simp (disch:=omega) only[go_sem,K.aP,↓reduceIte,loop,h,Nat.reduceAdd,Nat.reduceSub]
   · simp (disch:=omega) only[go_sem,K.aP,↓reduceIte,loop,h,Nat.reduceAdd,Nat.reduceSub]
end Go.Ev
namespace Go.Ev
open Go
variable [Lib] [cu] [bP]
theorem pH:∀ {l l':List Int},l.Nodup→(∀x∈l,x∈l')→l.length≤l'.length
 | [],_,_,_=>by simp
 | a::l,l',hn,hs=>by
   obtain⟨h1,h2⟩:=List.nodup_cons.1 hn
   have ha:a∈l':=hs a List.mem_cons_self
   have:=pH (l:=l) (l':=l'.erase a) h2 fun x hx=>by
    have hne:x≠a:=fun e=>h1 (e▸hx)
    exact(List.mem_erase_of_ne hne).2 (hs x (List.mem_cons_of_mem _ hx))
   have h3:=List.length_erase_of_mem ha
   have h4:0<l'.length:=List.length_pos_of_mem ha
   simp only[List.length_cons]
   omega
theorem kF{l:List Int}{x:Int}:0≤bU l x↔x∈l:=by
 unfold bU
 cases hf:(List.range l.length).find? (fun j=>decide (nth l j=x))with
 | some j=>
   obtain⟨h1,h2⟩:=yV hf
   have:=ah h1
   rw[of_decide_eq_true h2]at this
   simp[this]
 | none=>
   have:=List.find?_eq_none.1 hf
   simp only[Int.reduceNeg]
   constructor
   · intro h;simp at h
   · intro h
     obtain⟨j,hj⟩:=List.mem_iff_getElem?.1 h
     have hl:=(List.getElem?_eq_some_iff.1 hj).1
     have:=this j (List.mem_range.2 hl)
     rw[b8 hj]at this
     simp at this
theorem iV{l:List Int}(h:fJ l=true):l.Nodup:=by
 simp only[fJ,List.all_eq_true,List.mem_range,mL,decide_eq_true_eq]at h
 refine List.pairwise_iff_getElem.2 fun i j hi hj hij e=>?_
 obtain⟨-, -,h3⟩:=h j hj
 have h4:¬nth l j∈l.take j:=fun hm=>by have:=kF.2 hm;omega
 apply h4
 apply List.mem_iff_getElem?.2
 refine⟨i,?_⟩
 rw[List.getElem?_take_of_lt hij,List.getElem?_eq_getElem hi,e,←List.getElem?_eq_getElem hj,ff hj]
theorem gI{m:aK}{b:Bel}(h:p5 m b=true):1≤b.worlds.length∧b.worlds.length≤24∧1≤(nth b.worlds 0).tags.length∧(nth b.worlds 0).tags.length≤12∧
 ∀i,i<b.worlds.length→oG m b.worlds (nth b.worlds 0).tags i=true:=by
 simp only[p5,Bool.and_eq_true,decide_eq_true_eq,List.all_eq_true,List.mem_range]at h
 exact⟨h.1.1.1,h.1.1.2,h.1.2.1,h.1.2.2,h.2⟩
theorem iL{m:aK}{ws:List World}{first:List Int}{i:Nat}(h:oG m ws first i=true):(nth ws i).tags.length=first.length∧(nth ws i).whr.length=first.length∧fJ (nth ws i).tags=true∧
 ∀k,k<(nth ws i).tags.length→nth (nth ws i).tags k∈first∧dq m (nth (nth ws i).whr k)=true:=by
 simp only[oG,Bool.and_eq_true,decide_eq_true_eq,List.all_eq_true,List.mem_range,Jg]at h
 exact⟨h.1.1.1.1,h.1.1.1.2,h.1.1.2,fun k hk=>⟨kF.1 (h.2 k hk).1,(h.2 k hk).2⟩⟩
theorem zd{m:aK}{b:Bel}(h:p5 m b=true){tag:Int}(ht:0≤bU (nth b.worlds 0).tags tag){i:Nat}(hi:i<b.worlds.length):
 0≤bU (nth b.worlds i).tags tag:=by
 obtain⟨h1,h2,h3,h4,h5⟩:=gI h
 obtain⟨w1,w2,w3,w4⟩:=iL (h5 i hi)
 apply kF.2
 apply Classical.byContradiction
 intro hn
 have:=pH (l:=tag::(nth b.worlds i).tags) (l':=(nth b.worlds 0).tags) (List.nodup_cons.2 ⟨hn,iV w3⟩) (by
  intro x hx
  rcases List.mem_cons.1 hx with e | hx
  · rw[e];exact kF.1 ht
  · obtain⟨j,hj⟩:=List.mem_iff_getElem?.1 hx
    have:=(w4 j (List.getElem?_eq_some_iff.1 hj).1).1
    rwa [b8 hj]at this)
 simp only[List.length_cons]at this
 omega
def mP(m:aK)(b:Bel)(tag:Int):Int:=if p5 m b=false then 6 else if bU (nth b.worlds 0).tags tag<0 then 41 else 0
theorem GZ{m:aK}(h:m.ok)(b:Bel)(hs:b.sz)(tag:Int):aG 0 N.dX [.t m.e,.t b.e,I tag] []=some (I (mP m b tag),[]):=by
 refine av K.pd rfl ?_
 have v:=KV h b hs
 unfold mP
 cases hv:p5 m b with
 | false=>
   rw[hv]at v
   obtain⟨ws⟩:=b
   simp (disch:=omega) only[go_sem,K.dX,↓reduceIte,v]
 | true=>
   rw[hv]at v
   obtain⟨h1,h2,h3,h4,h5⟩:=gI hv
   have br:=mK (nth b.worlds 0).tags tag (by omega)
   obtain⟨ws⟩:=b
   simp only at h1 br ⊢
   by_cases c:bU (nth ws 0).tags tag<0
   · simp (disch:=omega) only[go_sem,K.dX,↓reduceIte,v,br,c,Bool.true_eq_false]
   · simp (disch:=omega) only[go_sem,K.dX,↓reduceIte,v,br,c,Bool.true_eq_false]
def Ow(a b:Wh)(t:Int):Bool:=(List.range (min a.frm.length b.frm.length)).any fun p=>decide (nth a.frm p≤t∧nth b.frm p≤t)
theorem Uo(a b:Wh)(t:Int)(ha:a.frm.length≤1000000):aG 0 N.gZ [.t a.e,.t b.e,I t] []=some (B (Ow a b t),[]):=by
 refine av K.qt rfl ?_
 obtain⟨t1,l1⟩:=a
 obtain⟨t2,l2⟩:=b
 unfold Ow
 simp only at ha ⊢
 have loop:∀x y z:D,exS aG K.uC ⟨[x,y,I t,.bp 0 0,.bp 1 0,z,I 0],[.box [I t1,.t (tL l1)],.box [I t2,.t (tL l2)]]⟩=
  some (match (List.range (min l1.length l2.length)).find? (fun p=>decide (nth l1 p≤t∧nth l2 p≤t))with
   | some j=>(.ret,⟨[.und,.und,I t,.bp 0 0,.bp 1 0,B true,I j],[.box [I t1,.t (tL l1)],.box [I t2,.t (tL l2)]]⟩)
   | none=>(.exit 0,⟨[.und,.und,I t,.bp 0 0,.bp 1 0,.und,I (min l1.length l2.length:Nat)],[.box [I t1,.t (tL l1)],.box [I t2,.t (tL l2)]]⟩)):=by
  intro x y z
  refine bY (fun j=>⟨[.und,.und,I t,.bp 0 0,.bp 1 0,.und,I j],[.box [I t1,.t (tL l1)],.box [I t2,.t (tL l2)]]⟩) (min l1.length l2.length) (fun p=>decide (nth l1 p≤t∧nth l2 p≤t)) _ _ rfl ?_ ?_ ?_ (by simp)
  · intro j hj hp
    have hp:¬(nth l1 j≤t∧nth l2 j≤t):=of_decide_eq_false hp
    by_cases c:nth l1 j≤t
    · simp (disch:=omega) only[go_sem,K.ic,↓reduceIte,c]
    · simp (disch:=omega) only[go_sem,K.ic,↓reduceIte,c]
  · intro j hj hp
    have hp:nth l1 j≤t∧nth l2 j≤t:=of_decide_eq_true hp
    refine⟨?_,by simp⟩
    simp (disch:=omega) only[go_sem,K.ic,↓reduceIte]
  · by_cases h1:l1.length≤l2.length
    · have e:min l1.length l2.length=l1.length:=by omega
      rw[e]
      simp (disch:=omega) only[go_sem,K.ic,↓reduceIte]
    · have e:min l1.length l2.length=l2.length:=by omega
      rw[e]
      simp (disch:=omega) only[go_sem,K.ic,↓reduceIte]
 rw[← GB]
 simp (disch:=omega) only[go_sem,K.gZ,↓reduceIte,loop]
 cases hf:(List.range (min l1.length l2.length)).find? (fun p=>decide (nth l1 p≤t∧nth l2 p≤t))with
 | some j=>simp (disch:=omega) only[go_sem,↓reduceIte,Option.isSome]
 | none=>simp (disch:=omega) only[go_sem,↓reduceIte,Option.isSome]
def Xx(b:Bel)(person t:Int)(p:Nat):Bool:=(List.range b.worlds.length).any fun i=>decide (0≤person∧person<(nth b.worlds i).whr.length)&&decide ((p:Int)∈Kr (nth (nth b.worlds i).whr person.toNat) t)
def n9(b:Bel)(person t:Int):List Int:=kQ 64 (Xx b person t)
def gJ(m:aK)(starts:List Int)(t:Int)(j:Nat):List Wh:=(List.range j).map fun i=>(fP m (nth starts i) t).1
theorem Dm(m:aK)(starts:List Int)(t:Int)(j:Nat):gJ m starts t (j+1)=gJ m starts t j++[(fP m (nth starts j) t).1]:=by
 unfold gJ;rw[List.range_succ,List.map_append];rfl
@[simp] theorem pI (m : aK) (starts : List Int) (t : Int) (j : Nat) : (gJ m starts t j).length = j := by simp [gJ]
def rB(m:aK)(tags starts:List Int)(t:Int):Bel×Int:=
 if tags.length=starts.length∧1≤tags.length∧tags.length≤12 then
  if fJ tags=true then match (List.range tags.length).find? (fun i=> !decide ((fP m (nth starts i) t).2=0))with
   | some i=>(⟨[]⟩,(fP m (nth starts i) t).2)
   | none=>(⟨[⟨tags,gJ m starts t tags.length⟩]⟩,0)
  else(⟨[]⟩,41)
 else(⟨[]⟩,6)
abbrev stH(m:aK)(tags:List Int)(r:D)(ws:List Wh):af:=[.box (aa m),.box [r],.arr 1 false 0 ((tags.map (T.int .i64)).map .t),.box [.ref 2 0 tags.length,.ref 5 0 ws.length],.arr 2 false 0 [],.arr 2 false 0 ((ws.map Wh.e).map .t)]
theorem Fc{m:aK}(h:m.ok)(tags starts:List Int)(hl:tags.length≤1000000)(t:Int):
 aG 0 N.dt [.t m.e,.t (tL tags),.t (tL starts),I t] []=some (.tup [.t (rB m tags starts t).1.e,I (rB m tags starts t).2],[]):=by
 refine av K.o5 rfl ?_
 have ck:=uK h
 have pr:=De tags hl
 unfold rB
 by_cases c1:tags.length=starts.length
 · by_cases c2:tags.length<1
   · simp (disch:=omega) only[go_sem,K.dt,↓reduceIte,ck,show ¬(tags.length=starts.length∧1≤tags.length∧tags.length≤12)by omega]
     rfl
   · by_cases c3:12<tags.length
     · simp (disch:=omega) only[go_sem,K.dt,↓reduceIte,ck,show ¬(tags.length=starts.length∧1≤tags.length∧tags.length≤12)by omega]
       rfl
     · have c:tags.length=starts.length∧1≤tags.length∧tags.length≤12:=by omega
       rw[if_pos c]
       clear c
       cases hp:fJ tags with
       | false=>
         rw[hp]at pr
         simp (disch:=omega) only[go_sem,K.dt,↓reduceIte,ck,pr,Bool.false_eq_true]
         rfl
       | true=>
         rw[hp]at pr
         have loop:∀a b c d:D,exS aG K.sg ⟨[a,.t (tL tags),.t (tL starts),I t,.bp 0 0,.bp 1 0,b,.bp 3 0,I 0,c,d],stH m tags .nil []⟩=
          some (match (List.range tags.length).find? (fun i=> !decide ((fP m (nth starts i) t).2=0))with
           | some i=>(.ret,⟨[.und,.t (tL tags),.t (tL starts),I t,.bp 0 0,.bp 1 0,I (fP m (nth starts i) t).2,.bp 3 0,I i,.bp 6 0,I (fP m (nth starts i) t).2],stH m tags .nil (gJ m starts t i)++[.box [I (fP m (nth starts i) t).1.time,.t (tL (fP m (nth starts i) t).1.frm)]]⟩)
           | none=>(.exit 0,⟨[.und,.t (tL tags),.t (tL starts),I t,.bp 0 0,.bp 1 0,.und,.bp 3 0,I tags.length,.und,.und],stH m tags .nil (gJ m starts t tags.length)⟩)):=by
          intro a b c d
          refine bY (fun j=>⟨[.und,.t (tL tags),.t (tL starts),I t,.bp 0 0,.bp 1 0,.und,.bp 3 0,I j,.und,.und],stH m tags .nil (gJ m starts t j)⟩) tags.length _ _ _ rfl ?_ ?_ ?_ (by simp)
          · intro j hj hp
            have st:=GG h (nth starts j) t
            have ln:=pI m starts t j
            have hp:(fP m (nth starts j) t).2=0:=by simpa using hp
            rw[Dm]
            generalize gJ m starts t j=L at*
            generalize fP m (nth starts j) t=r at*
            obtain⟨⟨time,frm⟩,e⟩:=r
            simp only at st hp ⊢
            subst hp
            simp (disch:=omega) only[go_sem,K.jW,↓reduceIte,stH,st,Nat.reduceAdd,Nat.reduceSub]
            done
          · intro j hj hp
            have st:=GG h (nth starts j) t
            have ln:=pI m starts t j
            have hp:(fP m (nth starts j) t).2≠0:=by simpa using hp
            generalize gJ m starts t j=L at*
            generalize fP m (nth starts j) t=r at*
            obtain⟨⟨time,frm⟩,e⟩:=r
            simp only at st hp ⊢
            refine⟨?_,by simp⟩
            simp (disch:=omega) only[go_sem,K.jW,↓reduceIte,stH,st,Nat.reduceAdd,Nat.reduceSub]
            done
          · have ln:=pI m starts t tags.length
            generalize gJ m starts t tags.length=L at*
            simp (disch:=omega) only[go_sem,K.jW,↓reduceIte]
         simp only[stH,List.map_nil,List.length_nil]at loop
         simp (disch:=omega) only[go_sem,K.dt,↓reduceIte,ck,pr,loop]
         cases hf:(List.range tags.length).find? (fun i=> !decide ((fP m (nth starts i) t).2=0))with
         | some i=>
           simp (disch:=omega) only[go_sem,↓reduceIte]
           rfl
         | none=>
           have ln:=pI m starts t tags.length
           generalize gJ m starts t tags.length=L at*
           simp (disch:=omega) only[go_sem,↓reduceIte]
           rfl
 · simp (disch:=omega) only[go_sem,K.dt,↓reduceIte,ck,show ¬(tags.length=starts.length∧1≤tags.length∧tags.length≤12)by omega]
   rfl
@[go_sem] theorem adz : ([] : List D).all ko = true := (rfl)
@[go_sem] theorem aaQ (d : D) (r : List D) : (d :: r).all ko = (ko d && r.all ko) := (rfl)
@[go_sem] theorem Up (cs : List T) : ko (.t (.agg cs)) = false := (rfl)
@[go_sem] theorem Xy (cs : List T) : ko (.t (.sl cs)) = false := (rfl)
@[go_sem] theorem Uq (k : IntKind) (n : Int) : ko (.t (.int k n)) = true := (rfl)
@[go_sem] theorem QS (b : Bool) : ko (.t (.bool b)) = true := (rfl)
@[go_sem] theorem ahv (l : List Wh) (k : Nat) (a : Int) (b : List Int) : (List.map D.t (List.map Wh.e l)).set k (D.t (T.agg [tI a, tL b])) = List.map D.t (List.map Wh.e (l.set k ⟨a, b⟩)) := by
 rw[List.map_set,List.map_set]
def AP(m:aK)(tag:Int)(l:List Int)(a b:Int)(x:World):Wh×Int:=zI m (nth x.whr (bU x.tags tag).toNat) l a b
def Fe(tag:Int)(x:World)(w:Wh):World:=⟨x.tags,x.whr.set (bU x.tags tag).toNat w⟩
def Dn(tag:Int)(r:Wh×Int)(x:World)(out:List World):List World:=
 if r.2=43 then out else out++[if r.2=0 then Fe tag x r.1 else x]
def mQ(m:aK)(tag:Int)(l:List Int)(a b:Int)(ws:List World):Nat→List World
 | 0=>[]
 | j+1=>Dn tag (AP m tag l a b (nth ws j)) (nth ws j) (mQ m tag l a b ws j)
theorem Ld(tag:Int)(r:Wh×Int)(x:World)(out:List World):(Dn tag r x out).length≤out.length+1:=by
 unfold Dn;split<;>simp
theorem uW(m:aK)(tag:Int)(l:List Int)(a b:Int)(ws:List World):∀j,(mQ m tag l a b ws j).length≤j
 | 0=>by simp[mQ]
 | j+1=>by
   have:=uW m tag l a b ws j
   have:=Ld tag (AP m tag l a b (nth ws j)) (nth ws j) (mQ m tag l a b ws j)
   simp only[mQ];omega
abbrev wC(m:aK)(ws out:List World):af:=[.box (aa m),.box [.t (.sl (ws.map World.e))],.box [.nil],.box [.ref 4 0 out.length],.arr 2 false 0 ((out.map World.e).map .t)]
theorem Dp{m:aK}(h:m.ok)(ws:List World)(hw:ws.length≤1000000)(tag:Int)(l:List Int)(hp:l.length≤1000000)(a b:Int)(i:Nat)(hi:i<ws.length)(hs:(nth ws i).sz)
 (hb:0≤bU (nth ws i).tags tag) (hb2:bU (nth ws i).tags tag<(nth ws i).whr.length) (out:List World) (ho:out.length≤1000000):
 ((AP m tag l a b (nth ws i)).2≠6∧(AP m tag l a b (nth ws i)).2≠8→fh true [0,1,9,10,13,14,15,16,17,18] 5 (exS aG K.ef ⟨[.und,.und,I tag,.t (tL l),I a,I b,.bp 0 0,.bp 1 0,.bp 2 0,.und,.und,.bp 3 0,I i,.und,.und,.und,.und,.und,.und],wC m ws out⟩)=
   some ⟨[.und,.und,I tag,.t (tL l),I a,I b,.bp 0 0,.bp 1 0,.bp 2 0,.und,.und,.bp 3 0,I (i+1),.und,.und,.und,.und,.und,.und],wC m ws (Dn tag (AP m tag l a b (nth ws i)) (nth ws i) out)⟩)∧
 ((AP m tag l a b (nth ws i)).2=6∨(AP m tag l a b (nth ws i)).2=8→∃vs H,exS aG K.ef ⟨[.und,.und,I tag,.t (tL l),I a,I b,.bp 0 0,.bp 1 0,.bp 2 0,.und,.und,.bp 3 0,I i,.und,.und,.und,.und,.und,.und],wC m ws out⟩=
   some (.ret,⟨vs,H⟩)∧vs[8]?=some (.bp 2 0)∧vs[9]?=some (I (AP m tag l a b (nth ws i)).2)∧H[2]?=some (.box [.t (.sl (ws.map World.e))])):=by
 unfold AP Dn Fe
 have c1:=lY (nth ws i) hs
 have br:=mK (nth ws i).tags tag (by have:=hs.1;omega)
 have s3:=hs.2.2 _ (ah (l:=(nth ws i).whr) (j:=(bU (nth ws i).tags tag).toNat) (by omega))
 have se:=aai h (nth (nth ws i).whr (bU (nth ws i).tags tag).toNat) s3 l hp a b
 generalize hx:nth ws i=x at*
 obtain⟨tags,whr⟩:=x
 simp only at c1 br s3 se hb hb2 ⊢
 generalize bU tags tag=k at*
 generalize hy:nth whr k.toNat=y at*
 generalize zI m y l a b=r at*
 obtain⟨⟨time,frm⟩,e⟩:=r
 obtain⟨t0,f0⟩:=y
 obtain⟨s1,s2, -⟩:=hs
 simp only at s1 s2 s3 se ⊢
 constructor
 · rintro ⟨n6,n8⟩
   by_cases e43:e=43
   · subst e43
     simp (disch:=omega) only[go_sem,K.ef,↓reduceIte,wC,hx,hy,c1,br,se,Nat.reduceAdd,Nat.reduceSub]
   · by_cases e0:e=0
     · subst e0
       simp (disch:=omega) only[go_sem,K.ef,↓reduceIte,wC,hx,hy,c1,br,se,Nat.reduceAdd,Nat.reduceSub]
     · simp (disch:=omega) only[go_sem,K.ef,↓reduceIte,wC,hx,hy,c1,br,se,Nat.reduceAdd,Nat.reduceSub]
 · rintro (h68 | h68)<;>subst h68
   · simp (disch:=omega) only[go_sem,K.ef,↓reduceIte,wC,hx,hy,c1,br,se,Nat.reduceAdd,Nat.reduceSub]
     exact⟨_,_,rfl,rfl,rfl,rfl⟩
   · simp (disch:=omega) only[go_sem,K.ef,↓reduceIte,wC,hx,hy,c1,br,se,Nat.reduceAdd,Nat.reduceSub]
     exact⟨_,_,rfl,rfl,rfl,rfl⟩
def Dq(m:aK)(tag:Int)(l:List Int)(a b:Int)(ws:List World)(j:Nat):Bool:=decide ((AP m tag l a b (nth ws j)).2=6∨(AP m tag l a b (nth ws j)).2=8)
def qJ(m:aK)(b:Bel)(tag:Int)(l:List Int)(a c:Int):Bel×Int:=
 if mP m b tag≠0 then(b,mP m b tag)else match (List.range b.worlds.length).find? (Dq m tag l a c b.worlds)with
  | some i=>(b,(AP m tag l a c (nth b.worlds i)).2)
  | none=>if(mQ m tag l a c b.worlds b.worlds.length).length=0 then(b,43)else(⟨mQ m tag l a c b.worlds b.worlds.length⟩,0)
theorem Le{m:aK}(h:m.ok)(b:Bel)(hs:b.sz)(tag:Int)(l:List Int)(hp:l.length≤1000000)(a c:Int):
 aG 0 N.gx [.t m.e,.t b.e,I tag,.t (tL l),I a,I c] []=some (.tup [.t (qJ m b tag l a c).1.e,I (qJ m b tag l a c).2],[]):=by
 refine av K.sU rfl ?_
 have cb:=wB b hs
 have bo:=GZ h b hs tag
 unfold qJ
 by_cases e0:mP m b tag=0
 · have hb:p5 m b=true:=by
    unfold mP at e0
    by_cases hb:p5 m b=true
    · exact hb
    · rw[if_pos (by simpa using hb)]at e0;omega
   have ht:0≤bU (nth b.worlds 0).tags tag:=by
    unfold mP at e0
    rw[if_neg (by simp[hb])]at e0
    by_cases ht:bU (nth b.worlds 0).tags tag<0
    · rw[if_pos ht]at e0;omega
    · omega
   have bb:∀i,i<b.worlds.length→0≤bU (nth b.worlds i).tags tag∧bU (nth b.worlds i).tags tag<(nth b.worlds i).whr.length:=fun i hi=>by
    obtain⟨-, -, -, -,h5⟩:=gI hb
    obtain⟨w1,w2, -⟩:=iL (h5 i hi)
    have b1:=zd hb ht (i:=i) hi
    have b2:=(wA b1).1
    exact⟨b1,by omega⟩
   rw[e0]at bo
   obtain⟨ws⟩:=b
   obtain⟨s1,s2⟩:=hs
   simp only at s1 s2 bb cb bo ⊢
   have ln:=uW m tag l a c ws
   have loop:=fun x y z u v w p q r=>uR (gc:=true) (dead:=[0,1,9,10,13,14,15,16,17,18]) (c:=K.ef)
    (vs:=[x,y,I tag,.t (tL l),I a,I c,.bp 0 0,.bp 1 0,.bp 2 0,z,u,.bp 3 0,I 0,v,w,p,q,r,.und]) (H:=wC m ws [])
    (fun j=>⟨[.und,.und,I tag,.t (tL l),I a,I c,.bp 0 0,.bp 1 0,.bp 2 0,.und,.und,.bp 3 0,I j,.und,.und,.und,.und,.und,.und],wC m ws (mQ m tag l a c ws j)⟩) ws.length (Dq m tag l a c ws)
    (fun j q=>q.1= .ret∧q.2.vs[8]?=some (.bp 2 0)∧q.2.vs[9]?=some (I (AP m tag l a c (nth ws j)).2)∧q.2.H[2]?=some (.box [.t (.sl (ws.map World.e))]))
    (.exit 0,⟨[.und,.und,I tag,.t (tL l),I a,I c,.bp 0 0,.bp 1 0,.bp 2 0,.und,.und,.bp 3 0,I ws.length,.und,.und,.und,.und,.und,.und],wC m ws (mQ m tag l a c ws ws.length)⟩) rfl
    (fun j hj hq=>by
     have:=ln j
     have hq:¬((AP m tag l a c (nth ws j)).2=6∨(AP m tag l a c (nth ws j)).2=8):=by simpa [Dq]using hq
     obtain⟨b1,b2⟩:=bb j hj
     exact(Dp h ws s1 tag l hp a c j hj (s2 _ (ah hj)) b1 b2 (mQ m tag l a c ws j) (by omega)).1 (by omega))
    (fun j hj hq=>by
     have:=ln j
     have hq:(AP m tag l a c (nth ws j)).2=6∨(AP m tag l a c (nth ws j)).2=8:=by simpa [Dq]using hq
     obtain⟨b1,b2⟩:=bb j hj
     obtain⟨vs,H,q1,q2⟩:=(Dp h ws s1 tag l hp a c j hj (s2 _ (ah hj)) b1 b2 (mQ m tag l a c ws j) (by omega)).2 hq
     exact⟨_,q1,by simp,rfl,q2⟩)
    (by
     have:=ln ws.length
     generalize mQ m tag l a c ws ws.length=L at*
     simp (disch:=omega) only[go_sem,K.ef,↓reduceIte,wC,Nat.reduceAdd,Nat.reduceSub]) (by simp)
   have loop':∀x y z u v w p q r,_∨_:=loop
   clear loop
   rcases loop' (.t m.e) (.t (Bel.e ⟨ws⟩)) (I 0) (I 0) .und .und .und .und .und with⟨e1,e2⟩ | ⟨j,⟨x,vs,H⟩,e1,e2,e3,e4,e5,e6⟩
   · have e2:exS aG K.qn _=_:=e2
     simp only[wC,List.map_nil,List.length_nil]at e2
     have:=ln ws.length
     rw[e1]
     generalize mQ m tag l a c ws ws.length=L at*
     by_cases L0:L.length=0
     · simp (disch:=omega) only[go_sem,K.gx,↓reduceIte,cb,bo,e2,L0,Nat.reduceAdd,Nat.reduceSub,ne_eq,not_true_eq_false]
     · simp (disch:=omega) only[go_sem,K.gx,↓reduceIte,cb,bo,e2,L0,Nat.reduceAdd,Nat.reduceSub,ne_eq,not_true_eq_false]
   · have e2:exS aG K.qn _=_:=e2
     simp only[wC,List.map_nil,List.length_nil]at e2
     rw[e1]
     simp only at e3 e4 e5 e6
     subst e3
     simp (disch:=omega) only[go_sem,K.gx,↓reduceIte,cb,bo,e2,Nat.reduceAdd,Nat.reduceSub,ne_eq,not_true_eq_false,e4,e5,e6,List.take_zero]
 · obtain⟨ws⟩:=b
   simp (disch:=omega) only[go_sem,K.gx,↓reduceIte,cb,bo,e0,ne_eq,not_false_eq_true]
def AQ(m:aK)(tag:Int)(l:List Int)(a b bl:Int)(x:World):Wh×Int:=AH m (nth x.whr (bU x.tags tag).toNat) l a b bl
def Ff(tag:Int)(r:Wh×Int)(x:World)(out:List World):List World:=out++[if r.2=0 then Fe tag x r.1 else x]
def oH(m:aK)(tag:Int)(l:List Int)(a b bl:Int)(ws:List World):Nat→List World
 | 0=>[]
 | j+1=>Ff tag (AQ m tag l a b bl (nth ws j)) (nth ws j) (oH m tag l a b bl ws j)
theorem uX(m:aK)(tag:Int)(l:List Int)(a b bl:Int)(ws:List World):∀j,(oH m tag l a b bl ws j).length=j
 | 0=>rfl
 | j+1=>by
   simp only[oH,Ff,List.length_append,uX m tag l a b bl ws j,List.length_singleton]
theorem Dr{m:aK}(h:m.ok)(ws:List World)(hw:ws.length≤1000000)(tag:Int)(l:List Int)(hp:l.length≤1000000)(a b bl:Int)(i:Nat)(hi:i<ws.length)(hs:(nth ws i).sz)
 (hb:0≤bU (nth ws i).tags tag) (hb2:bU (nth ws i).tags tag<(nth ws i).whr.length) (out:List World) (ho:out.length≤1000000):
 ((AQ m tag l a b bl (nth ws i)).2≠6∧(AQ m tag l a b bl (nth ws i)).2≠8→fh true [0,1,10,11,14,15,16,17] 5 (exS aG K.dh ⟨[.und,.und,I tag,.t (tL l),I a,I b,I bl,.bp 0 0,.bp 1 0,.bp 2 0,.und,.und,.bp 3 0,I i,.und,.und,.und,.und],wC m ws out⟩)=
   some ⟨[.und,.und,I tag,.t (tL l),I a,I b,I bl,.bp 0 0,.bp 1 0,.bp 2 0,.und,.und,.bp 3 0,I (i+1),.und,.und,.und,.und],wC m ws (Ff tag (AQ m tag l a b bl (nth ws i)) (nth ws i) out)⟩)∧
 ((AQ m tag l a b bl (nth ws i)).2=6∨(AQ m tag l a b bl (nth ws i)).2=8→∃vs H,exS aG K.dh ⟨[.und,.und,I tag,.t (tL l),I a,I b,I bl,.bp 0 0,.bp 1 0,.bp 2 0,.und,.und,.bp 3 0,I i,.und,.und,.und,.und],wC m ws out⟩=
   some (.ret,⟨vs,H⟩)∧vs[9]?=some (.bp 2 0)∧vs[10]?=some (I (AQ m tag l a b bl (nth ws i)).2)∧H[2]?=some (.box [.t (.sl (ws.map World.e))])):=by
 unfold AQ Ff Fe
 have c1:=lY (nth ws i) hs
 have br:=mK (nth ws i).tags tag (by have:=hs.1;omega)
 have s3:=hs.2.2 _ (ah (l:=(nth ws i).whr) (j:=(bU (nth ws i).tags tag).toNat) (by omega))
 have se:=aaj h (nth (nth ws i).whr (bU (nth ws i).tags tag).toNat) s3 l hp a b bl
 generalize hx:nth ws i=x at*
 obtain⟨tags,whr⟩:=x
 simp only at c1 br s3 se hb hb2 ⊢
 generalize bU tags tag=k at*
 generalize hy:nth whr k.toNat=y at*
 generalize AH m y l a b bl=r at*
 obtain⟨⟨time,frm⟩,e⟩:=r
 obtain⟨t0,f0⟩:=y
 obtain⟨s1,s2, -⟩:=hs
 simp only at s1 s2 s3 se ⊢
 constructor
 · rintro ⟨n6,n8⟩
   by_cases e0:e=0
   · subst e0
     simp (disch:=omega) only[go_sem,K.dh,↓reduceIte,wC,hx,hy,c1,br,se,Nat.reduceAdd,Nat.reduceSub]
   · simp (disch:=omega) only[go_sem,K.dh,↓reduceIte,wC,hx,hy,c1,br,se,Nat.reduceAdd,Nat.reduceSub]
 · rintro (h68 | h68)<;>subst h68
   · simp (disch:=omega) only[go_sem,K.dh,↓reduceIte,wC,hx,hy,c1,br,se,Nat.reduceAdd,Nat.reduceSub]
     exact⟨_,_,rfl,rfl,rfl,rfl⟩
   · simp (disch:=omega) only[go_sem,K.dh,↓reduceIte,wC,hx,hy,c1,br,se,Nat.reduceAdd,Nat.reduceSub]
     exact⟨_,_,rfl,rfl,rfl,rfl⟩
def Dt(m:aK)(tag:Int)(l:List Int)(a b bl:Int)(ws:List World)(j:Nat):Bool:=decide ((AQ m tag l a b bl (nth ws j)).2=6∨(AQ m tag l a b bl (nth ws j)).2=8)
def qK(m:aK)(b:Bel)(tag:Int)(l:List Int)(a c bl:Int):Bel×Int:=
 if mP m b tag≠0 then(b,mP m b tag)else match (List.range b.worlds.length).find? (Dt m tag l a c bl b.worlds)with
  | some i=>(b,(AQ m tag l a c bl (nth b.worlds i)).2)
  | none=>(⟨oH m tag l a c bl b.worlds b.worlds.length⟩,0)
theorem Fg{m:aK}{b:Bel}{tag:Int}(e0:mP m b tag=0):p5 m b=true∧∀i,i<b.worlds.length→0≤bU (nth b.worlds i).tags tag∧bU (nth b.worlds i).tags tag<(nth b.worlds i).whr.length:=by
 have hb:p5 m b=true:=by
  unfold mP at e0
  by_cases hb:p5 m b=true
  · exact hb
  · rw[if_pos (by simpa using hb)]at e0;omega
 have ht:0≤bU (nth b.worlds 0).tags tag:=by
  unfold mP at e0
  rw[if_neg (by simp[hb])]at e0
  by_cases ht:bU (nth b.worlds 0).tags tag<0
  · rw[if_pos ht]at e0;omega
  · omega
 refine⟨hb,fun i hi=>?_⟩
 obtain⟨-, -, -, -,h5⟩:=gI hb
 obtain⟨w1,w2, -⟩:=iL (h5 i hi)
 have b1:=zd hb ht (i:=i) hi
 have b2:=(wA b1).1
 exact⟨b1,by omega⟩
theorem Lf{m:aK}(h:m.ok)(b:Bel)(hs:b.sz)(tag:Int)(l:List Int)(hp:l.length≤1000000)(a c bl:Int):
 aG 0 N.dM [.t m.e,.t b.e,I tag,.t (tL l),I a,I c,I bl] []=some (.tup [.t (qK m b tag l a c bl).1.e,I (qK m b tag l a c bl).2],[]):=by
 refine av K.nH rfl ?_
 have cb:=wB b hs
 have bo:=GZ h b hs tag
 unfold qK
 by_cases e0:mP m b tag=0
 · obtain⟨hb,bb⟩:=Fg e0
   rw[e0]at bo
   obtain⟨ws⟩:=b
   obtain⟨s1,s2⟩:=hs
   simp only at s1 s2 bb cb bo ⊢
   have ln:=uX m tag l a c bl ws
   have loop:=fun x y u v w p q r=>uR (gc:=true) (dead:=[0,1,10,11,14,15,16,17]) (c:=K.dh)
    (vs:=[x,y,I tag,.t (tL l),I a,I c,I bl,.bp 0 0,.bp 1 0,.bp 2 0,u,v,.bp 3 0,I 0,w,p,q,r]) (H:=wC m ws [])
    (fun j=>⟨[.und,.und,I tag,.t (tL l),I a,I c,I bl,.bp 0 0,.bp 1 0,.bp 2 0,.und,.und,.bp 3 0,I j,.und,.und,.und,.und],wC m ws (oH m tag l a c bl ws j)⟩) ws.length (Dt m tag l a c bl ws)
    (fun j q=>q.1= .ret∧q.2.vs[9]?=some (.bp 2 0)∧q.2.vs[10]?=some (I (AQ m tag l a c bl (nth ws j)).2)∧q.2.H[2]?=some (.box [.t (.sl (ws.map World.e))]))
    (.exit 0,⟨[.und,.und,I tag,.t (tL l),I a,I c,I bl,.bp 0 0,.bp 1 0,.bp 2 0,.und,.und,.bp 3 0,I ws.length,.und,.und,.und,.und],wC m ws (oH m tag l a c bl ws ws.length)⟩) rfl
    (fun j hj hq=>by
     have:=ln j
     have hq:¬((AQ m tag l a c bl (nth ws j)).2=6∨(AQ m tag l a c bl (nth ws j)).2=8):=by simpa [Dt]using hq
     obtain⟨b1,b2⟩:=bb j hj
     exact(Dr h ws s1 tag l hp a c bl j hj (s2 _ (ah hj)) b1 b2 (oH m tag l a c bl ws j) (by omega)).1 (by omega))
    (fun j hj hq=>by
     have:=ln j
     have hq:(AQ m tag l a c bl (nth ws j)).2=6∨(AQ m tag l a c bl (nth ws j)).2=8:=by simpa [Dt]using hq
     obtain⟨b1,b2⟩:=bb j hj
     obtain⟨vs,H,q1,q2⟩:=(Dr h ws s1 tag l hp a c bl j hj (s2 _ (ah hj)) b1 b2 (oH m tag l a c bl ws j) (by omega)).2 hq
     exact⟨_,q1,by simp,rfl,q2⟩)
    (by
     have:=ln ws.length
     generalize oH m tag l a c bl ws ws.length=L at*
     simp (disch:=omega) only[go_sem,K.dh,↓reduceIte,wC,Nat.reduceAdd,Nat.reduceSub]) (by simp)
   rcases loop (.t m.e) (.t (Bel.e ⟨ws⟩)) (I 0) (I 0) .und .und .und .und with⟨e1,e2⟩ | ⟨j,⟨x,vs,H⟩,e1,e2,e3,e4,e5,e6⟩
   · have e2:exS aG K.mB _=_:=e2
     simp only[wC,List.map_nil,List.length_nil]at e2
     have:=ln ws.length
     rw[e1]
     generalize oH m tag l a c bl ws ws.length=L at*
     simp (disch:=omega) only[go_sem,K.dM,↓reduceIte,cb,bo,e2,Nat.reduceAdd,Nat.reduceSub,ne_eq,not_true_eq_false]
   · have e2:exS aG K.mB _=_:=e2
     simp only[wC,List.map_nil,List.length_nil]at e2
     rw[e1]
     simp only at e3 e4 e5 e6
     subst e3
     simp (disch:=omega) only[go_sem,K.dM,↓reduceIte,cb,bo,e2,Nat.reduceAdd,Nat.reduceSub,ne_eq,not_true_eq_false,e4,e5,e6,List.take_zero]
 · obtain⟨ws⟩:=b
   simp (disch:=omega) only[go_sem,K.dM,↓reduceIte,cb,bo,e0,ne_eq,not_false_eq_true]
theorem G0{gc:Bool}{dead:List Nat}{c:C}{vs:List D}{H:af}(P:Nat→St→Prop)(n:Nat)(Q:Ex×St→Prop)(h0:P 0 ⟨jR dead vs,H⟩)
 (hs:∀j st,j<n→P j st→∃st',fh gc dead st.H.length (exS aG c st)=some st'∧P (j+1) st')
 (he:∀st,P n st→∃q,exS aG c st=some q∧q.1≠ .normal∧Q q):∃q,exS aG (.loop gc dead c) ⟨vs,H⟩=some q∧Q q:=by
 have key:∀(k j:Nat) (st:St),j+k=n→P j st→∃q,mw gc dead (exS aG c) st=some q∧Q q:=by
  intro k
  induction k with
  | zero=>
    intro j st hj hp
    obtain⟨q,h1,h2,h3⟩:=he st (by rw[← hj];exact hp)
    exact⟨q,eG h1 h2,h3⟩
  | succ k ih=>
    intro j st hj hp
    obtain⟨st',h1,h2⟩:=hs j st (by omega) hp
    obtain⟨q,h3,h4⟩:=ih (j+1) st' (by omega) h2
    exact⟨q,fo h1 h3,h4⟩
 exact key n 0 _ (by omega) h0
abbrev ints(l:List Int):List D:=(l.map (T.int .i64)).map .t
abbrev whs(l:List Wh):List D:=(l.map Wh.e).map .t
def gK(out:List World)(x:World):Nat:=match (List.range out.length).find? (fun k=> !qH (nth out k).tags x.tags)with
 | some k=>k
 | none=>out.length
theorem BG(out:List World)(x:World):gK out x≤out.length:=by
 unfold gK
 split
 · rename_i k h;exact Nat.le_of_lt (yV h).1
 · exact Nat.le_refl _
def lx(a b:List Wh):Nat→List Wh
 | 0=>a
 | p+1=>(lx a b p).set p (lX (nth a p) (nth b p)).1
theorem oI(a b:List Wh):∀p,(lx a b p).length=a.length
 | 0=>rfl
 | p+1=>by simp only[lx,List.length_set,oI a b p]
theorem Du(a b:List Wh):∀p q,p≤q→nth (lx a b p) q=nth a q
 | 0,q,_=>rfl
 | p+1,q,h=>by
   have e:nth ((lx a b p).set p (lX (nth a p) (nth b p)).1) q=nth (lx a b p) q:=by
    unfold nth;rw[List.getD_eq_getElem?_getD,List.getElem?_set_ne (by omega),←List.getD_eq_getElem?_getD]
   simp only[lx,e]
   exact Du a b p q (by omega)
def AR(a b:List Wh):List Wh:=lx a b (min a.length b.length)
def pJ(out:List World)(x:World):List World:=
 if gK out x<out.length∧(nth out (gK out x)).tags=x.tags then out.set (gK out x) ⟨x.tags,AR (nth out (gK out x)).whr x.whr⟩
 else out.take (gK out x)++[x]++out.drop (gK out x)
def qL(l:List World):Nat→List World
 | 0=>[]
 | j+1=>pJ (qL l j) (nth l j)
def zJ(l:List World):List World:=qL l l.length
structure Rp(H:af)(id:Nat)(es:List D)(fa fb:Nat→Nat)(out:List World):Prop where
 arr:H[id]?=some (.arr 2 false 0 es)
 len:es.length=out.length
 el:∀j,j<out.length→es[j]?=some (.agg [.ref (fa j) 0 (nth out j).tags.length,.ref (fb j) 0 (nth out j).whr.length])
 ha:∀j,j<out.length→H[fa j]?=some (.arr 1 false 0 (ints (nth out j).tags))
 hb:∀j,j<out.length→H[fb j]?=some (.arr 2 false 0 (whs (nth out j).whr))
 na:∀j,j<out.length→fa j≠id
 nb:∀j,j<out.length→fb j≠id
 nab:∀i j,i<out.length→j<out.length→fa i≠fb j
 nbb:∀i j,i<out.length→j<out.length→i≠j→fb i≠fb j
def Rep(H:af)(v:D)(out:List World):Prop:=(v= .nil∧out=[])∨∃id es fa fb,v= .ref id 0 out.length∧0<out.length∧Rp H id es fa fb out
theorem Ur(l:List World)(i:Nat)(hi:i<l.length)(out:List World)(ho:out.length≤1000000)(hso:∀x∈out,x.sz)(hsx:(nth l i).sz)(H:af)(v:D)(hr:Rep H v out)(a b:D):
 exS aG K.o8 ⟨[.t (.sl (l.map World.e)),a,v,I i,I 0,b],H⟩=some (.exit 2,⟨[.t (.sl (l.map World.e)),.und,v,I i,I (gK out (nth l i)),.und],H⟩):=by
 rcases hr with⟨rfl,rfl⟩ | ⟨id,es,fa,fb,rfl,h0,hr⟩
 · have:gK [] (nth l i)=0:=rfl
   rw[this]
   refine sX (eG ?_ (by simp))
   simp (disch:=omega) only[go_sem,K.jj,↓reduceIte,Nat.reduceAdd,Nat.reduceSub]
 · have key:exS aG K.o8 ⟨[.t (.sl (l.map World.e)),a,.ref id 0 out.length,I i,I 0,b],H⟩=some (match (List.range out.length).find? (fun k=> !qH (nth out k).tags (nth l i).tags)with
    | some k=>(.exit 2,⟨[.t (.sl (l.map World.e)),.und,.ref id 0 out.length,I i,I k,.und],H⟩)
    | none=>(.exit 2,⟨[.t (.sl (l.map World.e)),.und,.ref id 0 out.length,I i,I out.length,.und],H⟩)):=by
    refine bY (fun k=>⟨[.t (.sl (l.map World.e)),.und,.ref id 0 out.length,I i,I k,.und],H⟩) out.length _ _ _ rfl ?_ ?_ ?_ (by simp)
    · intro k hk hp
      have hp:qH (nth out k).tags (nth l i).tags=true:=by simpa using hp
      have s1:=(hso _ (ah hk)).1
      have s2:=hsx.1
      have ls:=E5 (nth out k).tags (nth l i).tags s1 s2
      have e1:=hr.arr
      have e2:=hr.len
      have e3:=hr.el k hk
      have e4:=hr.ha k hk
      generalize nth out k=y at*
      obtain⟨ta,wa⟩:=y
      generalize hx:nth l i=x at*
      obtain⟨tb,wb⟩:=x
      simp only at s1 s2 ls e3 e4 hp
      simp (disch:=omega) only[go_sem,K.jj,↓reduceIte,Nat.reduceAdd,Nat.reduceSub,e1,e2,e3,e4,hx,ls,hp]
      done
    · intro k hk hp
      have hp:qH (nth out k).tags (nth l i).tags=false:=by simpa using hp
      have s1:=(hso _ (ah hk)).1
      have s2:=hsx.1
      have ls:=E5 (nth out k).tags (nth l i).tags s1 s2
      have e1:=hr.arr
      have e2:=hr.len
      have e3:=hr.el k hk
      have e4:=hr.ha k hk
      generalize nth out k=y at*
      obtain⟨ta,wa⟩:=y
      generalize hx:nth l i=x at*
      obtain⟨tb,wb⟩:=x
      simp only at s1 s2 ls e3 e4 hp
      refine⟨?_,by simp⟩
      simp (disch:=omega) only[go_sem,K.jj,↓reduceIte,Nat.reduceAdd,Nat.reduceSub,e1,e2,e3,e4,hx,ls,hp]
      done
    · simp (disch:=omega) only[go_sem,K.jj,↓reduceIte,Nat.reduceAdd,Nat.reduceSub]
   rw[key]
   unfold gK
   cases (List.range out.length).find? (fun k=> !qH (nth out k).tags (nth l i).tags)<;>rfl
@[go_sem] theorem adA (a b : Wh) : (lX a b).1.e = .agg [tI (lX a b).1.time, tL (lX a b).1.frm] := rfl
theorem Us(l:List World)(i:Nat)(hi:i<l.length)(out:List World)(ho:out.length≤1000000)(hso:∀x∈out,x.sz)(hsx:(nth l i).sz)(H:af)(id:Nat)(es:List D)(fa fb:Nat→Nat)
 (hr:Rp H id es fa fb out) (k:Nat) (hk:k<out.length) (a:D):
 exS aG K.uD ⟨[.t (.sl (l.map World.e)),a,.ref id 0 out.length,I i,I k,I 0],H⟩=
 some (.exit 4,⟨[.t (.sl (l.map World.e)),.und,.ref id 0 out.length,I i,I k,I ((min (nth out k).whr.length (nth l i).whr.length:Nat):Int)],H.set (fb k) (.arr 2 false 0 (whs (AR (nth out k).whr (nth l i).whr)))⟩):=by
 have e1:=hr.arr
 have e2:=hr.len
 have e3:=hr.el k hk
 have e5:=hr.hb k hk
 have e6:=hr.nb k hk
 have e7:=tc e5
 obtain⟨s1,s2,s3⟩:=hso _ (ah hk)
 obtain⟨x1,x2,x3⟩:=hsx
 generalize nth out k=y at*
 obtain⟨ta,wa⟩:=y
 generalize hx:nth l i=x at*
 obtain⟨tb,wb⟩:=x
 simp only at s1 s2 s3 x1 x2 x3 e3 e5 ⊢
 have jl:=oI wa wb
 have q1:∀o,(H.set (fb k) o)[id]?=H[id]?:=fun o=>mI e6
 have q2:∀o,(H.set (fb k) o)[fb k]?=some o:=fun o=>wq e7
 refine b7 (fun p=>⟨[.t (.sl (l.map World.e)),.und,.ref id 0 out.length,I i,I k,I p],H.set (fb k) (.arr 2 false 0 (whs (lx wa wb p)))⟩) (min wa.length wb.length) ?_ ?_ ?_ (by simp)
 · show(⟨_,H⟩:St)=⟨_,H.set (fb k) (.arr 2 false 0 (whs wa))⟩
   rw[m9 e5];rfl
 · intro p hp
   have jp:=jl p
   have jn:=Du wa wb p p (Nat.le_refl _)
   have jo:=S7 (nth wa p) (nth wb p) (s3 _ (ah (by omega)))
   have hj:lx wa wb (p+1)=(lx wa wb p).set p (lX (nth wa p) (nth wb p)).1:=rfl
   rw[hj]
   generalize lx wa wb p=J at*
   generalize hu:nth wb p=u at*
   generalize nth wa p=w at*
   generalize lX w u=r at*
   obtain⟨⟨rt,rf⟩,re⟩:=r
   simp only at jo ⊢
   simp (disch:=omega) only[go_sem,K.kH,↓reduceIte,Nat.reduceAdd,Nat.reduceSub,q1,q2,e1,e2,e3,wu,hx,hu,jn,jo]
 · have jp:=jl (min wa.length wb.length)
   have hj:AR wa wb=lx wa wb (min wa.length wb.length):=rfl
   rw[hj]
   generalize lx wa wb (min wa.length wb.length)=J at*
   by_cases c:wa.length≤wb.length
   · simp (disch:=omega) only[go_sem,K.kH,↓reduceIte,Nat.reduceAdd,Nat.reduceSub,q1,q2,e1,e2,e3,wu,hx,Nat.min_eq_left c]
   · have hm:min wa.length wb.length=wb.length:=by omega
     simp (disch:=omega) only[go_sem,K.kH,↓reduceIte,Nat.reduceAdd,Nat.reduceSub,q1,q2,e1,e2,e3,wu,hx,hm]
theorem xw{sz:Nat}{l:List D}(h:∀e∈l,e.cells.length=sz):cD sz l=true:=by
 cases l with
 | nil=>rfl
 | cons d r=>rw[BA,fA];exact h d List.mem_cons_self
theorem Rp.size{H:af}{id:Nat}{es:List D}{fa fb:Nat→Nat}{out:List World}(hr:Rp H id es fa fb out):∀e∈es,e.cells.length=2:=by
 intro e he
 obtain⟨j,hj⟩:=List.mem_iff_getElem?.1 he
 have hl:=(List.getElem?_eq_some_iff.1 hj).1
 rw[hr.el j (by rw[← hr.len];exact hl)]at hj
 cases hj;rfl
theorem Lg{α:Type}(l:List α)(k:Nat)(hk:k≤l.length)(x:α)(j:Nat):(l.take k++[x]++l.drop k)[j]?=if j<k then l[j]? else if j=k then some x else l[j-1]?:=by
 have hl:(l.take k).length=k:=by rw[List.length_take];omega
 rw[List.append_assoc]
 by_cases h1:j<k
 · rw[if_pos h1,List.getElem?_append_left (by omega),List.getElem?_take_of_lt h1]
 · rw[if_neg h1,List.getElem?_append_right (by omega),hl]
   by_cases h2:j=k
   · rw[if_pos h2,h2,Nat.sub_self];rfl
   · rw[if_neg h2,List.getElem?_append_right (by simp;omega)]
     simp only[List.length_singleton,List.getElem?_drop]
     congr 1;omega
theorem Fh{α:Type} [Dat α](l:List α)(k:Nat)(hk:k≤l.length)(x:α)(j:Nat):nth (l.take k++[x]++l.drop k) j=if j<k then nth l j else if j=k then x else nth l (j-1):=by
 unfold nth
 rw[List.getD_eq_getElem?_getD,Lg l k hk]
 split
 · rw[List.getD_eq_getElem?_getD]
 · split
   · rfl
   · rw[List.getD_eq_getElem?_getD]
theorem BH{α:Type} [Dat α](l:List α)(k:Nat)(hk:k<l.length)(x:α)(j:Nat):nth (l.set k x) j=if j=k then x else nth l j:=by
 unfold nth
 rw[List.getD_eq_getElem?_getD]
 by_cases h:j=k
 · rw[if_pos h,h,List.getElem?_set_self hk];rfl
 · rw[if_neg h,List.getElem?_set_ne (fun e=>h e.symm),List.getD_eq_getElem?_getD]
theorem Rp.ins{H:af}{id:Nat}{es:List D}{fa fb:Nat→Nat}{out:List World}(hr:Rp H id es fa fb out){k:Nat}(hk:k≤out.length)(x:World)(o:Obj):
 Rp (H++[.arr 2 false 0 (es.take k++[.agg [.ref (H.length+1) 0 x.tags.length,.ref (H.length+2) 0 x.whr.length]]++es.drop k),.arr 1 false 0 (ints x.tags),.arr 2 false 0 (whs x.whr),o]) H.length
  (es.take k++[.agg [.ref (H.length+1) 0 x.tags.length,.ref (H.length+2) 0 x.whr.length]]++es.drop k)
  (fun j=>if j<k then fa j else if j=k then H.length+1 else fa (j-1)) (fun j=>if j<k then fb j else if j=k then H.length+2 else fb (j-1)) (out.take k++[x]++out.drop k):=by
 have ol:(out.take k++[x]++out.drop k).length=out.length+1:=by
  rw[List.length_append,List.length_append,List.length_take,List.length_drop,List.length_singleton];omega
 have e2:=hr.len
 have ba:∀j,j<out.length→fa j<H.length:=fun j hj=>tc (hr.ha j hj)
 have bb:∀j,j<out.length→fb j<H.length:=fun j hj=>tc (hr.hb j hj)
 refine⟨oF,?_,?_,?_,?_,?_,?_,?_,?_⟩
 · rw[ol,List.length_append,List.length_append,List.length_take,List.length_drop,List.length_singleton];omega
 · intro j hj
   rw[ol]at hj
   simp only[Lg es k (by omega),Fh out k hk]
   by_cases h1:j<k
   · simp only[if_pos h1];exact hr.el j (by omega)
   · by_cases h2:j=k
     · simp only[if_neg h1,if_pos h2]
     · simp only[if_neg h1,if_neg h2];exact hr.el (j-1) (by omega)
 · intro j hj
   rw[ol]at hj
   simp only[Fh out k hk]
   by_cases h1:j<k
   · simp only[if_pos h1];rw[lE (ba j (by omega))];exact hr.ha j (by omega)
   · by_cases h2:j=k
     · simp only[if_neg h1,if_pos h2];rw[ky];rfl
     · simp only[if_neg h1,if_neg h2];rw[lE (ba (j-1) (by omega))];exact hr.ha (j-1) (by omega)
 · intro j hj
   rw[ol]at hj
   simp only[Fh out k hk]
   by_cases h1:j<k
   · simp only[if_pos h1];rw[lE (bb j (by omega))];exact hr.hb j (by omega)
   · by_cases h2:j=k
     · simp only[if_neg h1,if_pos h2];rw[ky];rfl
     · simp only[if_neg h1,if_neg h2];rw[lE (bb (j-1) (by omega))];exact hr.hb (j-1) (by omega)
 · intro j hj
   rw[ol]at hj
   have b1:=ba j
   have b2:=ba (j-1)
   split
   · have:=b1 (by omega);omega
   · split
     · omega
     · have:=b2 (by omega);omega
 · intro j hj
   rw[ol]at hj
   have b1:=bb j
   have b2:=bb (j-1)
   split
   · have:=b1 (by omega);omega
   · split
     · omega
     · have:=b2 (by omega);omega
 · intro i j hi hj
   rw[ol]at hi hj
   have a1:=ba i
   have a2:=ba (i-1)
   have b1:=bb j
   have b2:=bb (j-1)
   by_cases h1:i<k
   · rw[if_pos h1]
     have:=a1 (by omega)
     by_cases h2:j<k
     · rw[if_pos h2];exact hr.nab i j (by omega) (by omega)
     · rw[if_neg h2]
       by_cases h3:j=k
       · rw[if_pos h3];omega
       · rw[if_neg h3];exact hr.nab i (j-1) (by omega) (by omega)
   · rw[if_neg h1]
     by_cases h4:i=k
     · rw[if_pos h4]
       split
       · have:=b1 (by omega);omega
       · split
         · omega
         · have:=b2 (by omega);omega
     · rw[if_neg h4]
       have:=a2 (by omega)
       by_cases h2:j<k
       · rw[if_pos h2];exact hr.nab (i-1) j (by omega) (by omega)
       · rw[if_neg h2]
         by_cases h3:j=k
         · rw[if_pos h3];omega
         · rw[if_neg h3];exact hr.nab (i-1) (j-1) (by omega) (by omega)
 · intro i j hi hj hne
   rw[ol]at hi hj
   have a1:=bb i
   have a2:=bb (i-1)
   have b1:=bb j
   have b2:=bb (j-1)
   by_cases h1:i<k
   · rw[if_pos h1]
     have:=a1 (by omega)
     by_cases h2:j<k
     · rw[if_pos h2];exact hr.nbb i j (by omega) (by omega) hne
     · rw[if_neg h2]
       by_cases h3:j=k
       · rw[if_pos h3];omega
       · rw[if_neg h3];exact hr.nbb i (j-1) (by omega) (by omega) (by omega)
   · rw[if_neg h1]
     by_cases h4:i=k
     · rw[if_pos h4]
       split
       · have:=b1 (by omega);omega
       · split
         · omega
         · have:=b2 (by omega);omega
     · rw[if_neg h4]
       have:=a2 (by omega)
       by_cases h2:j<k
       · rw[if_pos h2];exact hr.nbb (i-1) j (by omega) (by omega) (by omega)
       · rw[if_neg h2]
         by_cases h3:j=k
         · rw[if_pos h3];omega
         · rw[if_neg h3];exact hr.nbb (i-1) (j-1) (by omega) (by omega) (by omega)
theorem Rp.merge{H:af}{id:Nat}{es:List D}{fa fb:Nat→Nat}{out:List World}(hr:Rp H id es fa fb out){k:Nat}(hk:k<out.length)(x:World)(ht:(nth out k).tags=x.tags)(hw:x.whr.length=(nth out k).whr.length):
 Rp (H.set (fb k) (.arr 2 false 0 (whs x.whr))) id es fa fb (out.set k x):=by
 have ol:(out.set k x).length=out.length:=List.length_set
 have nk:=hr.nb k hk
 have kl:=tc (hr.hb k hk)
 refine⟨by rw[mI nk];exact hr.arr,by rw[ol];exact hr.len,?_,?_,?_,by rw[ol];exact hr.na,by rw[ol];exact hr.nb,by rw[ol];exact hr.nab,by rw[ol];exact hr.nbb⟩
 · intro j hj
   rw[ol]at hj
   rw[hr.el j hj,BH out k hk]
   by_cases h:j=k
   · rw[if_pos h,h,ht,hw]
   · rw[if_neg h]
 · intro j hj
   rw[ol]at hj
   rw[mI (fun e=>hr.nab j k hj hk e.symm),hr.ha j hj,BH out k hk]
   by_cases h:j=k
   · rw[if_pos h,h,ht]
   · rw[if_neg h]
 · intro j hj
   rw[ol]at hj
   rw[BH out k hk]
   by_cases h:j=k
   · rw[if_pos h,h,wq kl]
   · rw[if_neg h,mI (fun e=>hr.nbb j k hj hk h e.symm)];exact hr.hb j hj
theorem Ig(l:List World)(i:Nat)(hi:i<l.length)(hl:l.length≤1000000)(out:List World)(ho:out.length≤999999)(hso:∀x∈out,x.sz)(hsx:(nth l i).sz)(H:af)(v:D)(hr:Rep H v out):
 ∃v' H',fh false [1,4,5] H.length (exS aG K.eh ⟨[.t (.sl (l.map World.e)),.und,v,I i,.und,.und],H⟩)=some ⟨[.t (.sl (l.map World.e)),.und,v',I (i+1),.und,.und],H'⟩∧Rep H' v' (pJ out (nth l i)):=by
 have l2:=Ur l i hi out (by omega) hso hsx H v hr
 have kl:=BG out (nth l i)
 have cw:=lY (nth l i) hsx
 rcases hr with⟨rfl,rfl⟩ | ⟨id,es,fa,fb,rfl,h0,hr⟩
 · have k0:gK [] (nth l i)=0:=rfl
   rw[k0]at l2
   have t1:pJ [] (nth l i)=[nth l i]:=rfl
   rw[t1]
   generalize hx:nth l i=x at*
   obtain⟨tb,wb⟩:=x
   simp only at cw
   have run:fh false [1,4,5] H.length (exS aG K.eh ⟨[.t (.sl (l.map World.e)),.und,.nil,I i,.und,.und],H⟩)=
    some ⟨[.t (.sl (l.map World.e)),.und,.ref H.length 0 1,I (i+1),.und,.und],H++[.arr 2 false 0 [.agg [.ref (H.length+1) 0 tb.length,.ref (H.length+2) 0 wb.length]],.arr 1 false 0 (ints tb),.arr 2 false 0 (whs wb),.arr 2 false 0 [.agg [.ref (H.length+1) 0 tb.length,.ref (H.length+2) 0 wb.length]]]⟩:=by
    simp (disch:=omega) only[go_sem,K.eh,↓reduceIte,Nat.reduceAdd,Nat.reduceSub,l2,hx,cw,oF,ky,wm,BB,Nat.add_assoc]
   refine⟨_,_,run,.inr ⟨H.length,_,fun _=>H.length+1,fun _=>H.length+2,rfl,by simp,⟨oF,rfl,?_,?_,?_,?_,?_,?_,?_⟩⟩⟩
   all_goals skip
   · intro j hj;obtain rfl:j=0:=by simpa using hj
     rfl
   · intro j hj;obtain rfl:j=0:=by simpa using hj
     rw[ky];rfl
   · intro j hj;obtain rfl:j=0:=by simpa using hj
     rw[ky];rfl
   · intro j hj;omega
   · intro j hj;omega
   · intro i j hi hj;omega
   · intro i j hi hj hne
     have h1:i=0:=by simpa using hi
     have h2:j=0:=by simpa using hj
     omega
 · have e1:=hr.arr
   have e2:=hr.len
   have e7:=tc e1
   by_cases c:gK out (nth l i)<out.length∧(nth out (gK out (nth l i))).tags=(nth l i).tags
   · obtain⟨ck,ct⟩:=c
     have l3:=Us l i hi out (by omega) hso hsx H id es fa fb hr (gK out (nth l i)) ck
     have s1:=(hso _ (ah ck)).1
     have sm:=EX (nth out (gK out (nth l i))).tags (nth l i).tags (by omega)
     have t1:pJ out (nth l i)=out.set (gK out (nth l i)) ⟨(nth l i).tags,AR (nth out (gK out (nth l i))).whr (nth l i).whr⟩:=by unfold pJ;rw[if_pos ⟨ck,ct⟩]
     rw[t1]
     simp only[ct,decide_true]at sm
     generalize gK out (nth l i)=k at*
     have e3:=hr.el k ck
     have e4:=hr.ha k ck
     have mg:=hr.merge ck ⟨(nth l i).tags,AR (nth out k).whr (nth l i).whr⟩ ct (oI _ _ _)
     refine⟨.ref id 0 out.length,_,?_,.inr ⟨id,es,fa,fb,by rw[List.length_set],by rw[List.length_set];omega,mg⟩⟩
     generalize nth out k=y at*
     obtain⟨ta,wa⟩:=y
     simp only at ct
     subst ct
     generalize hx:nth l i=x at*
     obtain⟨tb,wb⟩:=x
     simp only at s1 sm e3 e4 cw l3 ⊢
     simp (disch:=omega) only[go_sem,K.eh,↓reduceIte,Nat.reduceAdd,Nat.reduceSub,l2,l3,hx,cw,sm,e1,e2,e3,e4]
   · have t1:pJ out (nth l i)=out.take (gK out (nth l i))++[nth l i]++out.drop (gK out (nth l i)):=by unfold pJ;rw[if_neg c]
     rw[t1]
     generalize gK out (nth l i)=k at*
     have hs1:cD 2 (es.take k)=true:=xw fun e he=>hr.size e (List.mem_of_mem_take he)
     have hs2:cD 2 (es.drop k)=true:=xw fun e he=>hr.size e (List.mem_of_mem_drop he)
     have hs3:(es.drop k).take (out.length-k)=es.drop k:=List.take_of_length_le (by simp[e2])
     have hs4:(es.take k).length=k:=by rw[List.length_take];omega
     have hs5:(es.drop k).length=out.length-k:=by rw[List.length_drop,e2]
     have hs6:k+(1+(out.length-k))=out.length+1:=by omega
     have s2:=hsx.1
     have run:fh false [1,4,5] H.length (exS aG K.eh ⟨[.t (.sl (l.map World.e)),.und,.ref id 0 out.length,I i,.und,.und],H⟩)=
      some ⟨[.t (.sl (l.map World.e)),.und,.ref H.length 0 (out.length+1),I (i+1),.und,.und],H++[.arr 2 false 0 (es.take k++[.agg [.ref (H.length+1) 0 (nth l i).tags.length,.ref (H.length+2) 0 (nth l i).whr.length]]++es.drop k),.arr 1 false 0 (ints (nth l i).tags),.arr 2 false 0 (whs (nth l i).whr),.arr 2 false 0 [.agg [.ref (H.length+1) 0 (nth l i).tags.length,.ref (H.length+2) 0 (nth l i).whr.length]]]⟩:=by
      by_cases ck:k<out.length
      · have s1:=(hso _ (ah ck)).1
        have sm:=EX (nth out k).tags (nth l i).tags (by omega)
        have ct:¬(nth out k).tags=(nth l i).tags:=fun h=>c ⟨ck,h⟩
        have e3:=hr.el k ck
        have e4:=hr.ha k ck
        generalize nth out k=y at*
        obtain⟨ta,wa⟩:=y
        generalize hx:nth l i=x at*
        obtain⟨tb,wb⟩:=x
        simp only at s1 s2 sm e3 e4 ct cw
        simp only[ct,decide_false]at sm
        simp (disch:=omega) only[go_sem,K.eh,↓reduceIte,Nat.reduceAdd,Nat.reduceSub,l2,hx,cw,sm,e1,e2,e3,e4,hs1,hs2,hs3,hs4,hs5,hs6,lE,oF,ky,wm,BB,Nat.add_assoc,Nat.sub_zero]
      · have ek:k=out.length:=by omega
        subst ek
        generalize hx:nth l i=x at*
        obtain⟨tb,wb⟩:=x
        simp only at s2 cw
        simp (disch:=omega) only[go_sem,K.eh,↓reduceIte,Nat.reduceAdd,Nat.reduceSub,l2,hx,cw,e1,e2,hs1,hs2,hs3,hs4,hs5,hs6,lE,oF,ky,wm,BB,Nat.add_assoc,Nat.sub_zero]
     exact⟨_,_,run,.inr ⟨H.length,_,_,_,by rw[List.length_append,List.length_append,List.length_take,List.length_drop,List.length_singleton,Nat.min_eq_left kl];congr 1;omega,by rw[List.length_append,List.length_append,List.length_singleton];omega,hr.ins kl (nth l i) _⟩⟩
theorem uY(out:List World)(x:World):(pJ out x).length≤out.length+1∧out.length≤(pJ out x).length∧1≤(pJ out x).length:=by
 have kl:=BG out x
 unfold pJ
 split
 · rename_i h
   rw[List.length_set];omega
 · rw[List.length_append,List.length_append,List.length_take,List.length_drop,List.length_singleton];omega
theorem Dv(l:List World):∀j,(qL l j).length≤j
 | 0=>Nat.le_refl _
 | j+1=>by
   have:=Dv l j
   have:=(uY (qL l j) (nth l j)).1
   simp only[qL];omega
theorem Lh(a b:Wh):(lX a b).1.frm.length≤a.frm.length:=by
 unfold lX
 split
 · simp only[nj];omega
 · simp
theorem G1(a b:List Wh)(n:Nat)(h:∀w∈a,w.frm.length≤n):∀p,p≤a.length→∀w∈lx a b p,w.frm.length≤n
 | 0,_,w,hw=>h w hw
 | p+1,hp,w,hw=>by
   simp only[lx]at hw
   rcases List.mem_or_eq_of_mem_set hw with hw | rfl
   · exact G1 a b n h p (by omega) w hw
   · exact Nat.le_trans (Lh _ _) (h _ (ah (by omega)))
theorem Ox{out:List World}{x:World}(ho:∀y∈out,y.sz)(hx:x.sz):∀y∈pJ out x,y.sz:=by
 intro y hy
 unfold pJ at hy
 split at hy
 · rename_i h
   rcases List.mem_or_eq_of_mem_set hy with hy | rfl
   · exact ho y hy
   · obtain⟨s1,s2,s3⟩:=ho _ (ah h.1)
     refine⟨hx.1,?_,?_⟩
     · show(lx _ _ _).length≤_
       rw[oI];exact s2
     · exact G1 _ _ _ s3 _ (Nat.min_le_left _ _)
 · rcases List.mem_append.1 hy with hy | hy
   · rcases List.mem_append.1 hy with hy | hy
     · exact ho y (List.mem_of_mem_take hy)
     · rw[List.mem_singleton.1 hy];exact hx
   · exact ho y (List.mem_of_mem_drop hy)
theorem G2{l:List World}(hl:∀x∈l,x.sz):∀j,j≤l.length→∀y∈qL l j,y.sz
 | 0,_,y,hy=>by simp[qL]at hy
 | j+1,h,y,hy=>Ox (G2 hl j (by omega)) (hl _ (ah (by omega))) y hy
theorem Rp.frz{H:af}{id:Nat}{es:List D}{fa fb:Nat→Nat}{out:List World}(hr:Rp H id es fa fb out):
 bW (frz H 8) es=some (out.map World.e)∧∀i∈es.flatMap (eZ H 8),i≠id:=by
 have hl:=hr.len
 have key:∀(j:Nat) (hj:j<out.length),Go.Ev.frz H 8 (.agg [.ref (fa j) 0 (nth out j).tags.length,.ref (fb j) 0 (nth out j).whr.length])=some (nth out j).e∧
  eZ H 8 (.agg [.ref (fa j) 0 (nth out j).tags.length,.ref (fb j) 0 (nth out j).whr.length])=[fa j,fb j]:=by
  intro j hj
  have h1:=hr.ha j hj
  have h2:=hr.hb j hj
  simp (disch:=omega) only[go_sem,h1,h2,ints,whs,↓reduceIte]
 constructor
 · have:∀(es:List D) (ts:List T),es.length=ts.length→(∀(j:Nat) e t,es[j]?=some e→ts[j]?=some t→Go.Ev.frz H 8 e=some t)→bW (Go.Ev.frz H 8) es=some ts:=by
    intro es
    induction es with
    | nil=>intro ts h _;cases ts with
      | nil=>rfl
      | cons=>simp at h
    | cons e es ih=>
      intro ts h hh
      cases ts with
      | nil=>simp at h
      | cons t ts=>
        have h1:=hh 0 e t rfl rfl
        have h2:=ih ts (by simpa using h) fun j e t he ht=>hh (j+1) e t (by simpa using he) (by simpa using ht)
        simp only[bW,h1,Option.bind_some,h2,Option.map_some]
   refine this es _ (by rw[List.length_map,hl]) fun j e t he ht=>?_
   have hj:j<out.length:=by rw[← hl];exact(List.getElem?_eq_some_iff.1 he).1
   rw[hr.el j hj]at he
   rw[eU _ hj]at ht
   cases he;cases ht
   exact(key j hj).1
 · intro i hi
   obtain⟨e,he,hi⟩:=List.mem_flatMap.1 hi
   obtain⟨j,hj⟩:=List.mem_iff_getElem?.1 he
   have hjl:j<out.length:=by rw[← hl];exact(List.getElem?_eq_some_iff.1 hj).1
   rw[hr.el j hjl]at hj
   cases hj
   rw[(key j hjl).2]at hi
   simp only[List.mem_cons,List.not_mem_nil,or_false]at hi
   rcases hi with rfl | rfl
   · exact hr.na j hjl
   · exact hr.nb j hjl
theorem Ut(l:List World)(h0:1≤l.length)(hl:l.length≤100000)(hs:∀x∈l,x.sz):
 aG 1 N.hU [.t (.sl (l.map World.e))] []=some (.ref 0 0 (zJ l).length,[.arr 2 false 0 (((zJ l).map World.e).map .t)]):=by
 refine av K.qu rfl ?_
 have loop:∀a b c:D,∃q,exS aG K.uE ⟨[.t (.sl (l.map World.e)),a,.nil,I 0,b,c],[]⟩=some q∧∃v H,q=(.exit 0,⟨[.t (.sl (l.map World.e)),.und,v,I l.length,.und,.und],H⟩)∧Rep H v (zJ l):=by
  intro a b c
  refine G0 (fun j st=>∃v H,st=⟨[.t (.sl (l.map World.e)),.und,v,I j,.und,.und],H⟩∧Rep H v (qL l j)) l.length _ ⟨.nil,[],rfl,.inl ⟨rfl,rfl⟩⟩ ?_ ?_
  · rintro j st hj ⟨v,H,rfl,hr⟩
    have ln:=Dv l j
    obtain⟨v',H',h1,h2⟩:=Ig l j hj (by omega) (qL l j) (by omega) (G2 hs j (by omega)) (hs _ (ah hj)) H v hr
    exact⟨_,h1,v',H',rfl,h2⟩
  · rintro st ⟨v,H,rfl,hr⟩
    refine⟨(.exit 0,⟨[.t (.sl (l.map World.e)),.und,v,I l.length,.und,.und],H⟩),?_,by simp,v,H,rfl,hr⟩
    simp (disch:=omega) only[go_sem,K.eh,↓reduceIte,Nat.reduceAdd,Nat.reduceSub]
 obtain⟨q,hq,v,H,rfl,hr⟩:=loop .nil .und .und
 have nz:1≤(zJ l).length:=by
  unfold zJ
  cases hn:l.length with
  | zero=>omega
  | succ n=>exact(uY _ _).2.2
 rcases hr with⟨rfl,he⟩ | ⟨id,es,fa,fb,rfl,h0,hr⟩
 · rw[he]at nz;simp at nz
 · obtain⟨f1,f2⟩:=hr.frz
   have fin:=E1 H id 2 (zJ l).length es _ hr.arr hr.len.symm f1 f2
   simp (disch:=omega) only[go_sem,K.hU,↓reduceIte,Nat.reduceAdd,Nat.reduceSub,hq,fin]
@[go_sem] theorem QT {α β γ : Type} [Dat α] (f : β → γ) (g : α → β) {l : List α} {i j : Nat} {x : α} (h : j < l.length) : (((l.set i x).map g).map f)[j]? = some (f (g (nth (l.set i x) j))) := GA f g (by rw [List.length_set]; exact h)
def Ih(l:List Int)(i j:Nat):List Int:=(l.set i (nth l j)).set j (nth l i)
def tB(i j:Nat)(t:Int)(x:World):World:=⟨Ih x.tags i j,(x.whr.set i (lD (nth x.whr i) t).1).set j (lD (nth x.whr j) t).1⟩
def ze(i j:Nat)(t:Int)(x:World)(out:List World):List World:=if Ow (nth x.whr i) (nth x.whr j) t=true then out++[tB i j t x]else out
def iC(i j:Nat)(t:Int)(ws:List World):Nat→List World
 | 0=>ws
 | k+1=>ze i j t (nth ws k) (iC i j t ws k)
def mR(m:aK)(b:Bel)(i j t:Int):Bel×Int:=
 if p5 m b=false then(b,6)else if i<0∨((nth b.worlds 0).tags.length:Int)≤i∨j<0∨((nth b.worlds 0).tags.length:Int)≤j∨i=j then(b,19)
 else if ¬inT t then(b,8)else if 24<(zJ (iC i.toNat j.toNat t b.worlds b.worlds.length)).length then(b,44)else(⟨zJ (iC i.toNat j.toNat t b.worlds b.worlds.length)⟩,0)
theorem Li(i j:Nat)(t:Int)(x:World)(out:List World):out.length≤(ze i j t x out).length∧(ze i j t x out).length≤out.length+1:=by
 unfold ze;split<;>(try rw[List.length_append,List.length_singleton])<;>omega
theorem rC(i j:Nat)(t:Int)(ws:List World):∀k,ws.length≤(iC i j t ws k).length∧(iC i j t ws k).length≤ws.length+k
 | 0=>⟨Nat.le_refl _,Nat.le_refl _⟩
 | k+1=>by
   have h1:=rC i j t ws k
   have h2:=Li i j t (nth ws k) (iC i j t ws k)
   simp only[iC];omega
abbrev exH(m:aK)(ws out:List World):af:=[.box (aa m),.box [.t (.sl (ws.map World.e))],.box [.nil],.arr 2 false 0 ((out.map World.e).map .t)]
theorem Ii(m:aK)(ws:List World)(hw:ws.length≤100000)(i j:Nat)(hij:i≠j)(t:Int)(k:Nat)(hk:k<ws.length)(hs:(nth ws k).sz)
 (i1:i<(nth ws k).tags.length) (j1:j<(nth ws k).tags.length) (hl:(nth ws k).whr.length=(nth ws k).tags.length) (out:List World) (ho:out.length≤1000000):
 fh true [0,1,5,8,9,12] 4 (exS aG K.fO ⟨[.und,.und,I i,I j,I t,.und,.bp 1 0,.bp 2 0,.und,.und,.ref 3 0 out.length,I k,.und],exH m ws out⟩)=
  some ⟨[.und,.und,I i,I j,I t,.und,.bp 1 0,.bp 2 0,.und,.und,.ref 3 0 (ze i j t (nth ws k) out).length,I (k+1),.und],exH m ws (ze i j t (nth ws k) out)⟩:=by
 have c1:=lY (nth ws k) hs
 have mt:=Uo (nth (nth ws k).whr i) (nth (nth ws k).whr j) t (hs.2.2 _ (ah (by omega)))
 have r1:=GH (nth (nth ws k).whr i) t (hs.2.2 _ (ah (by omega)))
 have r2:=GH (nth (nth ws k).whr j) t (hs.2.2 _ (ah (by omega)))
 unfold ze tB Ih
 have n1:∀w,nth ((nth ws k).whr.set i w) j=nth (nth ws k).whr j:=fun w=>by rw[BH _ _ (by omega),if_neg (fun e=>hij e.symm)]
 generalize hx:nth ws k=x at*
 obtain⟨tags,whr⟩:=x
 obtain⟨s1,s2,s3⟩:=hs
 simp only at*
 generalize hwi:nth whr i=wi at*
 generalize hwj:nth whr j=wj at*
 generalize lD wi t=ri at*
 obtain⟨⟨t1,f1⟩,e1⟩:=ri
 generalize lD wj t=rj at*
 obtain⟨⟨t2,f2⟩,e2⟩:=rj
 obtain⟨ti,fi⟩:=wi
 obtain⟨tj,fj⟩:=wj
 simp only at*
 cases hm:Ow ⟨ti,fi⟩ ⟨tj,fj⟩ t with
 | true=>
   rw[hm]at mt
   simp (disch:=omega) only[go_sem,K.fO,↓reduceIte,exH,hx,hwi,hwj,n1,c1,mt,r1,r2,Nat.reduceAdd,Nat.reduceSub]
 | false=>
   rw[hm]at mt
   simp (disch:=omega) only[go_sem,K.fO,↓reduceIte,exH,hx,hwi,hwj,n1,c1,mt,r1,r2,Nat.reduceAdd,Nat.reduceSub,Bool.false_eq_true]
theorem rD(w:Wh)(t:Int):(lD w t).1.frm=w.frm:=by unfold lD;split<;>rfl
theorem Oy{i j:Nat}{t:Int}{x:World}(h:x.sz)(hi:i<x.whr.length)(hj:j<x.whr.length):(tB i j t x).sz:=by
 obtain⟨s1,s2,s3⟩:=h
 refine⟨by simpa [tB,Ih]using s1,by simpa [tB]using s2,fun w hw=>?_⟩
 simp only[tB]at hw
 rcases List.mem_or_eq_of_mem_set hw with hw | rfl
 · rcases List.mem_or_eq_of_mem_set hw with hw | rfl
   · exact s3 w hw
   · rw[rD];exact s3 _ (ah hi)
 · rw[rD];exact s3 _ (ah hj)
theorem zf{ws:List World}(h:∀x∈ws,x.sz){i j:Nat}{t:Int}(hi:∀k,k<ws.length→i<(nth ws k).whr.length)(hj:∀k,k<ws.length→j<(nth ws k).whr.length):∀k,k≤ws.length→∀x∈iC i j t ws k,x.sz
 | 0,_,x,hx=>h x hx
 | k+1,hk,x,hx=>by
   simp only[iC,ze]at hx
   split at hx
   · rcases List.mem_append.1 hx with hx | hx
     · exact zf h hi hj k (by omega) x hx
     · rw[List.mem_singleton.1 hx];exact Oy (h _ (ah (by omega))) (hi k (by omega)) (hj k (by omega))
   · exact zf h hi hj k (by omega) x hx
theorem Ij{m:aK}(h:m.ok)(b:Bel)(hs:b.sz)(i j t:Int):
 aG 0 N.bf [.t m.e,.t b.e,I i,I j,I t] []=some (.tup [.t (mR m b i j t).1.e,I (mR m b i j t).2],[]):=by
 refine av K.lk rfl ?_
 have cb:=wB b hs
 have cb1:=E6 b hs
 have vb:=KV h b hs
 unfold mR
 cases hb:p5 m b with
 | false=>
   rw[hb]at vb
   obtain⟨ws⟩:=b
   simp (disch:=omega) only[go_sem,K.bf,↓reduceIte,cb,vb,Nat.reduceAdd,Nat.reduceSub]
 | true=>
   rw[hb]at vb
   obtain⟨w1,w2,f1,f2,w5⟩:=gI hb
   obtain⟨ws⟩:=b
   obtain⟨s1,s2⟩:=hs
   simp only at s1 s2 w1 w2 w5 f1 f2 cb cb1 vb ⊢
   have g0:(ws.map World.e)[0]?=some (nth ws 0).e:=eU _ (by omega)
   have wl:∀k,k<ws.length→(nth ws k).tags.length=(nth ws 0).tags.length∧(nth ws k).whr.length=(nth ws 0).tags.length:=fun k hk=>by
    obtain⟨q1,q2, -⟩:=iL (w5 k hk)
    exact⟨q1,q2⟩
   generalize hx:nth ws 0=x at*
   obtain⟨first,whr⟩:=x
   simp only at f1 f2 wl g0 ⊢
   rw[if_neg (by simp)]
   by_cases c1:i<0
   · rw[if_pos (by omega)]
     simp (disch:=omega) only[go_sem,K.bf,↓reduceIte,cb,vb,hx,g0,c1,Nat.reduceAdd,Nat.reduceSub]
   · by_cases c2:(first.length:Int)≤i
     · rw[if_pos (by omega)]
       simp (disch:=omega) only[go_sem,K.bf,↓reduceIte,cb,vb,hx,g0,c1,c2,Nat.reduceAdd,Nat.reduceSub]
     · by_cases c3:j<0
       · rw[if_pos (by omega)]
         simp (disch:=omega) only[go_sem,K.bf,↓reduceIte,cb,vb,hx,g0,c1,c2,c3,Nat.reduceAdd,Nat.reduceSub]
       · by_cases c4:(first.length:Int)≤j
         · rw[if_pos (by omega)]
           simp (disch:=omega) only[go_sem,K.bf,↓reduceIte,cb,vb,hx,g0,c1,c2,c3,c4,Nat.reduceAdd,Nat.reduceSub]
         · by_cases c5:i=j
           · rw[if_pos (by omega)]
             simp (disch:=omega) only[go_sem,K.bf,↓reduceIte,cb,vb,hx,g0,c1,c2,c3,c4,c5,Nat.reduceAdd,Nat.reduceSub]
           · rw[if_neg (by omega)]
             by_cases ct:inT t
             · have ct':=ct
               unfold inT at ct'
               rw[if_neg (fun h=>h ct)]
               obtain⟨i',rfl⟩:=Int.eq_ofNat_of_zero_le (show 0≤i by omega)
               obtain⟨j',rfl⟩:=Int.eq_ofNat_of_zero_le (show 0≤j by omega)
               simp only[Int.toNat_natCast]
               have ln:=rC i' j' t ws
               have loop:∀a b c d e f:D,exS aG K.oB ⟨[a,b,I i',I j',I t,c,.bp 1 0,.bp 2 0,d,e,.ref 3 0 ws.length,I 0,f],exH m ws ws⟩=
                some (.exit 0,⟨[.und,.und,I i',I j',I t,.und,.bp 1 0,.bp 2 0,.und,.und,.ref 3 0 (iC i' j' t ws ws.length).length,I ws.length,.und],exH m ws (iC i' j' t ws ws.length)⟩):=by
                intro a b c d e f
                refine b7 (fun k=>⟨[.und,.und,I i',I j',I t,.und,.bp 1 0,.bp 2 0,.und,.und,.ref 3 0 (iC i' j' t ws k).length,I k,.und],exH m ws (iC i' j' t ws k)⟩) ws.length rfl ?_ ?_ (by simp)
                · intro k hk
                  obtain⟨q1,q2⟩:=wl k hk
                  have:=ln k
                  exact Ii m ws (by omega) i' j' (by omega) t k hk (s2 _ (ah hk)) (by omega) (by omega) (by omega) _ (by omega)
                · have:=ln ws.length
                  generalize iC i' j' t ws ws.length=L at*
                  simp (disch:=omega) only[go_sem,K.fO,↓reduceIte,exH,Nat.reduceAdd,Nat.reduceSub]
               have ln:=ln ws.length
               have sz:=zf (t:=t) s2 (i:=i') (j:=j') (fun k hk=>by obtain⟨q1,q2⟩:=wl k hk;omega) (fun k hk=>by obtain⟨q1,q2⟩:=wl k hk;omega) ws.length (Nat.le_refl _)
               have ty:=Ut (iC i' j' t ws ws.length) (by omega) (by omega) sz
               generalize iC i' j' t ws ws.length=L at*
               generalize zJ L=Z at*
               simp only[exH]at loop
               by_cases c6:24<Z.length
               · simp (disch:=omega) only[go_sem,K.bf,↓reduceIte,cb,cb1,vb,hx,g0,c1,c2,c3,c4,c5,c6,loop,ty,Nat.reduceAdd,Nat.reduceSub]
               · simp (disch:=omega) only[go_sem,K.bf,↓reduceIte,cb,cb1,vb,hx,g0,c1,c2,c3,c4,c5,c6,loop,ty,Nat.reduceAdd,Nat.reduceSub]
             · rw[if_pos ct]
               unfold inT at ct
               by_cases c6:t<0
               · simp (disch:=omega) only[go_sem,K.bf,↓reduceIte,cb,vb,hx,g0,c1,c2,c3,c4,c5,c6,Nat.reduceAdd,Nat.reduceSub]
               · simp (disch:=omega) only[go_sem,K.bf,↓reduceIte,cb,vb,hx,g0,c1,c2,c3,c4,c5,c6,Nat.reduceAdd,Nat.reduceSub]
def pK:Nat→List Int
 | 0=>[]
 | k+1=>pK k++[3+(k:Int)*2]
def aA.kT(d:aA)(n:Int):Nat→List Int×aA
 | 0=>([],d)
 | k+1=>((d.kT n k).1++[((d.kT n k).2.next n).1],((d.kT n k).2.next n).2)
theorem ka:∀k,(pK k).length=k
 | 0=>rfl
 | k+1=>by simp[pK,ka k]
theorem aA.jI(d:aA)(n:Int):∀k,(d.kT n k).1.length=k
 | 0=>rfl
 | k+1=>by simp[aA.kT,d.jI n k]
theorem aA.ny{d:aA}(h:d.dB)(n:Int):∀k,(d.kT n k).2.dB
 | 0=>h
 | k+1=>aA.aO (aA.ny h n k) n
structure BSt where
 b:Bel
 t:Int
 d:aA
def aA.kc(m:aK)(n:Int)(s:BSt):BSt:=
 let a:=s.d.next 60
 let c:=a.2.next 3
 if c.1=0 then
  let i:=c.2.next n
  let j:=i.2.next n
  let r:=mR m s.b i.1 j.1 (s.t+a.1)
  ⟨if r.2=0 then r.1 else s.b,s.t+a.1,j.2⟩
 else if c.1=1 then
  let g:=c.2.next n
  let l:=g.2.lV m.places.length
  let e:=l.2.next 9
  let r:=qJ m s.b (3+2*g.1) l.1 (s.t+a.1) (s.t+a.1+e.1)
  ⟨if r.2=0 then r.1 else s.b,s.t+a.1,e.2⟩
 else
  let g:=c.2.next n
  let l:=g.2.lV m.places.length
  let e:=l.2.next 40
  let r:=qK m s.b (3+2*g.1) l.1 (s.t+a.1) (s.t+a.1+50) e.1
  ⟨if r.2=0 then r.1 else s.b,s.t+a.1,e.2⟩
def aA.wD(m:aK)(n:Int)(s:BSt):Nat→BSt
 | 0=>s
 | k+1=>aA.kc m n (aA.wD m n s k)
def aA.oa(d:aA):Nat:=(1+(d.next 3).1).toNat
def aA.lF(d:aA)(m:aK):List Int×aA:=(d.next 3).2.kT m.places.length d.oa
def aA.Ji(d:aA)(m:aK):BSt:=⟨(rB m (pK d.oa) (d.lF m).1 ((d.lF m).2.next 100).1).1,100,(((d.lF m).2.next 100).2.next 5).2⟩
def aA.Lj(d:aA)(m:aK):Nat:=(((d.lF m).2.next 100).2.next 5).1.toNat
def aA.adB(d:aA)(m:aK):BSt:=aA.wD m d.oa (d.Ji m) (d.Lj m)
def aA.qM(d:aA)(m:aK):Bel×aA:=((d.adB m).b,(d.adB m).d)
structure WOk(m:aK)(N:Nat)(x:World):Prop where
 tg:x.tags.length=N
 wh:x.whr.length=N
 fr:∀w∈x.whr,w.frm.length=m.places.length
 ti:∀w∈x.whr,inT w.time
structure BOk(m:aK)(N:Nat)(b:Bel):Prop where
 w1:1≤b.worlds.length
 w2:b.worlds.length≤24
 n1:1≤N
 n2:N≤12
 ws:∀x∈b.worlds,WOk m N x
theorem WOk.sz{m:aK}{N:Nat}{x:World}(h:WOk m N x)(hm:m.ok)(hn:N≤12):x.sz:=by
 have np:=hm.np
 obtain⟨t1,t2,t3, -⟩:=h
 exact⟨by omega,by omega,fun w hw=>by rw[t3 w hw];omega⟩
theorem BOk.sz{m:aK}{N:Nat}{b:Bel}(h:BOk m N b)(hm:m.ok):b.sz:=
 ⟨by have:=h.w2;omega,fun x hx=>(h.ws x hx).sz hm h.n2⟩
theorem BI{m:aK}{n:Int}{s:BSt}(h:s.d.dB):(aA.kc m n s).d.dB:=by
 unfold aA.kc
 simp only
 have l1:=aA.aO h 60
 generalize s.d.next 60=a at*
 obtain⟨a1,d1⟩:=a
 simp only at l1 ⊢
 have l2:=aA.aO l1 3
 generalize d1.next 3=c at*
 obtain⟨c1,d2⟩:=c
 simp only at l2 ⊢
 split
 · exact aA.aO (aA.aO l2 n) n
 · split
   · exact aA.aO (aA.mG (aA.aO l2 n) _) 9
   · exact aA.aO (aA.mG (aA.aO l2 n) _) 40
abbrev blH(m:aK)(p1 p2:Bool)(tags starts:List Int)(s:BSt):af:=[s.d.obj,.box (aa m),.box [.nil],.arr 1 p1 0 (ints tags),.arr 1 p2 0 (ints starts),.box [.t (.sl (s.b.worlds.map World.e))]]
theorem Lk{m:aK}(hm:m.ok)(n:Int)(n1:1≤n)(n2:n≤12)(tags starts:List Int)(s:BSt)(hd:s.d.dB)(hb:s.b.sz)(ht:0≤s.t)(ht2:s.t≤1000000)(k:Nat)(hk:k≤100)(p1 p2:Bool):
 fh true [1,5,6,7,11,12,13,14,15,16,17] 6 (exS aG K.bk ⟨[.bp 0 0,.und,.bp 1 0,.bp 2 0,I n,.und,.und,.und,.bp 5 0,I s.t,I (k+1),.und,.und,.und,.und,.und,.und,.und],blH m p1 p2 tags starts s⟩)=
 some ⟨[.bp 0 0,.und,.bp 1 0,.bp 2 0,I n,.und,.und,.und,.bp 5 0,I (aA.kc m n s).t,I k,.und,.und,.und,.und,.und,.und,.und],blH m p1 p2 tags starts (aA.kc m n s)⟩:=by
 obtain⟨b,t,d⟩:=s
 simp only at hd hb ht ht2
 unfold aA.kc
 simp only
 have np:=hm.np
 have h1:=fV d 60 (by omega) hd
 have l1:=aA.aO hd 60
 have a0:=d.dO 60
 have a9:=d.dP (n:=60) (by omega)
 generalize d.next 60=a at*
 obtain⟨x1,d1⟩:=a
 simp only at h1 l1 a0 a9 ⊢
 have h2:=fV d1 3 (by omega) l1
 have l2:=aA.aO l1 3
 have c0:=d1.dO 3
 have c9:=d1.dP (n:=3) (by omega)
 generalize d1.next 3=c at*
 obtain⟨x2,d2⟩:=c
 simp only at h2 l2 c0 c9 ⊢
 have h3:=fV d2 n (by omega) l2
 have l3:=aA.aO l2 n
 have g0:=d2.dO n
 have g9:=d2.dP (n:=n) n1
 generalize d2.next n=g at*
 obtain⟨x3,d3⟩:=g
 simp only at h3 l3 g0 g9 ⊢
 by_cases e0:x2=0
 · simp only[if_pos e0]
   have h4:=fV d3 n (by omega) l3
   generalize d3.next n=g at*
   obtain⟨x4,d4⟩:=g
   simp only at h4 ⊢
   have ex:=Ij hm b hb x3 x4 (t+x1)
   generalize mR m b x3 x4 (t+x1)=r at*
   obtain⟨⟨ws'⟩,er⟩:=r
   obtain⟨ws⟩:=b
   simp only at ex ⊢
   subst e0
   by_cases e:er=0
   · simp (disch:=omega) only[go_sem,K.bk,↓reduceIte,blH,h1,h2,h3,h4,ex,e,Nat.reduceAdd,Nat.reduceSub]
   · simp (disch:=omega) only[go_sem,K.bk,↓reduceIte,blH,h1,h2,h3,h4,ex,e,Nat.reduceAdd,Nat.reduceSub]
 · simp only[if_neg e0]
   have h4:=SY d3 m.places.length (by omega) l3
   have l4:=aA.mG l3 m.places.length
   have ln:=d3.yU m.places.length
   generalize d3.lV m.places.length=q at*
   obtain⟨l,d4⟩:=q
   simp only at h4 l4 ln ⊢
   by_cases e1:x2=1
   · simp only[if_pos e1]
     have h5:=fV d4 9 (by omega) l4
     have f0:=d4.dO 9
     have f9:=d4.dP (n:=9) (by omega)
     generalize d4.next 9=g at*
     obtain⟨x5,d5⟩:=g
     simp only at h5 f0 f9 ⊢
     have ex:=Le hm b hb (3+2*x3) l (by omega) (t+x1) (t+x1+x5)
     generalize qJ m b (3+2*x3) l (t+x1) (t+x1+x5)=r at*
     obtain⟨⟨ws'⟩,er⟩:=r
     obtain⟨ws⟩:=b
     simp only at ex ⊢
     subst e1
     by_cases e:er=0
     · simp (disch:=omega) only[go_sem,K.bk,↓reduceIte,blH,h1,h2,h3,h4,h5,ex,e,Nat.reduceAdd,Nat.reduceSub]
     · simp (disch:=omega) only[go_sem,K.bk,↓reduceIte,blH,h1,h2,h3,h4,h5,ex,e,Nat.reduceAdd,Nat.reduceSub]
   · simp only[if_neg e1]
     have h5:=fV d4 40 (by omega) l4
     have f0:=d4.dO 40
     have f9:=d4.dP (n:=40) (by omega)
     generalize d4.next 40=g at*
     obtain⟨x5,d5⟩:=g
     simp only at h5 f0 f9 ⊢
     have ex:=Lf hm b hb (3+2*x3) l (by omega) (t+x1) (t+x1+50) x5
     generalize qK m b (3+2*x3) l (t+x1) (t+x1+50) x5=r at*
     obtain⟨⟨ws'⟩,er⟩:=r
     obtain⟨ws⟩:=b
     simp only at ex ⊢
     by_cases e:er=0
     · simp (disch:=omega) only[go_sem,K.bk,↓reduceIte,blH,h1,h2,h3,h4,h5,ex,e,e0,e1,Nat.reduceAdd,Nat.reduceSub]
     · simp (disch:=omega) only[go_sem,K.bk,↓reduceIte,blH,h1,h2,h3,h4,h5,ex,e,e0,e1,Nat.reduceAdd,Nat.reduceSub]
theorem Dw{m:aK}(hm:m.ok){p t:Int}(p0:0≤p)(p1:p<m.places.length)(ht:inT t):(fP m p t).2=0∧(fP m p t).1.frm.length=m.places.length:=by
 unfold fP
 rw[if_neg (by omega),if_pos ht]
 refine⟨rfl,?_⟩
 exact kx hm t ht none (fun l h=>by cases h) (by simp) (vY (vZ _) ht.1 (by have:=ht.2;omega))
theorem Ll{m:aK}{p t:Int}(ht:inT t):inT (fP m p t).1.time:=by
 unfold fP
 split
 · unfold inT;simp
 · exact ht
theorem Uu{m:aK}(w:Wh)(l:List Int)(a b:Int)(hw:inT w.time):inT (zI m w l a b).1.time:=by
 unfold zI
 split
 · exact hw
 · rename_i h
   have h0:j5 m w l a b=0:=by simpa using h
   obtain⟨v1,v2,v3,v4,v5,v6⟩:=lW h0
   split
   · exact hw
   · split
     · exact v5
     · exact hw
theorem Uv{m:aK}(w:Wh)(l:List Int)(a b bl:Int)(hw:inT w.time):inT (AH m w l a b bl).1.time:=by
 unfold AH
 split
 · exact hw
 · rename_i h
   have h0:j5 m w l a b=0:=by simpa using h
   obtain⟨v1,v2,v3,v4,v5,v6⟩:=lW h0
   split
   · exact hw
   · split
     · exact hw
     · split
       · exact hw
       · exact v5
theorem Oz{a b:Wh}(ha:inT a.time)(hb:inT b.time):inT (lX a b).1.time:=by
 unfold lX
 split
 · unfold inT at *;simp only;omega
 · unfold inT;simp
theorem Dx{w:Wh}{t:Int}(h:inT w.time):inT (lD w t).1.time:=by
 unfold lD
 split
 · exact h
 · unfold inT at *;simp only;omega
theorem G3(a b:List Wh)(ha:∀w∈a,inT w.time)(hb:∀w∈b,inT w.time):∀p,p≤a.length→p≤b.length→∀w∈lx a b p,inT w.time
 | 0,_,_,w,hw=>ha w hw
 | p+1,h1,h2,w,hw=>by
   simp only[lx]at hw
   rcases List.mem_or_eq_of_mem_set hw with hw | rfl
   · exact G3 a b ha hb p (by omega) (by omega) w hw
   · exact Oz (ha _ (ah (by omega))) (hb _ (ah (by omega)))
theorem OA{m:aK}(hm:m.ok)(w:Wh)(l:List Int)(a b:Int)(hw:w.frm.length=m.places.length):(zI m w l a b).1.frm.length=m.places.length:=by
 unfold zI
 split
 · exact hw
 · rename_i h
   have h0:j5 m w l a b=0:=by simpa using h
   obtain⟨v1,v2,v3,v4,v5,v6⟩:=lW h0
   obtain⟨w1,w2,w3,w4⟩:=dH v1
   have hb:bnd w.frm:=fun x hx=>nU (w3 x hx)
   split
   · exact hw
   · split
     · refine kx hm a v4 none (fun l h=>by cases h) (pz _ _ _ _ _) (By hb _ _ ?_ _ (Nat.le_refl _))
       intro p hp
       obtain⟨j,hj⟩:=List.mem_iff_getElem?.1 hp
       have hjl:=(List.getElem?_eq_some_iff.1 hj).1
       obtain⟨q1,q2, -⟩:=px v3 hjl
       rw[b8 hj]at q1 q2
       omega
     · exact hw
theorem OB{m:aK}(hm:m.ok)(w:Wh)(l:List Int)(a b bl:Int)(hw:w.frm.length=m.places.length):(AH m w l a b bl).1.frm.length=m.places.length:=by
 unfold AH
 split
 · exact hw
 · rename_i h
   have h0:j5 m w l a b=0:=by simpa using h
   obtain⟨v1,v2,v3,v4,v5,v6⟩:=lW h0
   obtain⟨w1,w2,w3,w4⟩:=dH v1
   have hb:bnd w.frm:=fun x hx=>nU (w3 x hx)
   split
   · exact hw
   · split
     · exact hw
     · split
       · exact hw
       · rename_i h1 h2 h3
         have hlen:=rv v3
         have np:=hm.np
         have h1:inT bl:=by simpa using h1
         unfold inT at v4 v5 w2 h1
         have t1:inT (b-bl):=by unfold inT;omega
         have hi:∀s,some l=some s→s≠[]∧s.length≤64:=by
          intro s hs;cases hs;exact⟨v2,by omega⟩
         have ln:=uM w.frm l l.length
         have lb:=Bz hb l l.length
         exact kx hm b v5 none (fun l h=>by cases h) (kx hm _ t1 _ hi (by omega) lb) (AG hm _ t1 _ hi (by omega) lb)
theorem Lm{m:aK}{N:Nat}{tag:Int}{x:World}{w:Wh}(hx:WOk m N x)(hw:w.frm.length=m.places.length)(hw2:inT w.time):WOk m N (Fe tag x w):=by
 obtain⟨t1,t2,t3,t4⟩:=hx
 refine⟨t1,by simpa [Fe]using t2,fun y hy=>?_,fun y hy=>?_⟩
 · simp only[Fe]at hy
   rcases List.mem_or_eq_of_mem_set hy with hy | rfl
   · exact t3 y hy
   · exact hw
 · simp only[Fe]at hy
   rcases List.mem_or_eq_of_mem_set hy with hy | rfl
   · exact t4 y hy
   · exact hw2
theorem Fi{m:aK}(hm:m.ok){N:Nat}{b:Bel}(hb:BOk m N b)(tag:Int)(l:List Int)(a c:Int):BOk m N (if(qJ m b tag l a c).2=0 then(qJ m b tag l a c).1 else b):=by
 split
 · rename_i h0
   unfold qJ at h0 ⊢
   by_cases e0:mP m b tag=0
   · simp only[e0,ne_eq,not_true_eq_false,if_false]at h0 ⊢
     obtain⟨_,bb⟩:=Fg e0
     cases hf:(List.range b.worlds.length).find? (Dq m tag l a c b.worlds)with
     | some i=>simp only[hf];exact hb
     | none=>
       simp only[hf]at h0 ⊢
       split at h0
       · simp at h0
       · rename_i hl
         rw[if_neg hl]
         have ln:=uW m tag l a c b.worlds b.worlds.length
         refine⟨by simp only;omega,by have:=hb.w2;simp only;omega,hb.n1,hb.n2,?_⟩
         have key:∀j,j≤b.worlds.length→∀x∈mQ m tag l a c b.worlds j,WOk m N x:=by
          intro j
          induction j with
          | zero=>intro _ x hx;simp[mQ]at hx
          | succ j ih=>
            intro hj x hx
            have wj:=hb.ws _ (ah (l:=b.worlds) (j:=j) (by omega))
            obtain⟨b1,b2⟩:=bb j (by omega)
            simp only[mQ,Dn]at hx
            split at hx
            · exact ih (by omega) x hx
            · rcases List.mem_append.1 hx with hx | hx
              · exact ih (by omega) x hx
              · rw[List.mem_singleton.1 hx]
                split
                · exact Lm wj (OA hm _ l a c (wj.fr _ (ah (by omega)))) (Uu _ l a c (wj.ti _ (ah (by omega))))
                · exact wj
         exact key _ (Nat.le_refl _)
   · rw[if_pos e0]at h0 ⊢
     exact hb
 · exact hb
theorem Fj{m:aK}(hm:m.ok){N:Nat}{b:Bel}(hb:BOk m N b)(tag:Int)(l:List Int)(a c bl:Int):BOk m N (if(qK m b tag l a c bl).2=0 then(qK m b tag l a c bl).1 else b):=by
 split
 · rename_i h0
   unfold qK at h0 ⊢
   by_cases e0:mP m b tag=0
   · simp only[e0,ne_eq,not_true_eq_false,if_false]at h0 ⊢
     obtain⟨_,bb⟩:=Fg e0
     cases hf:(List.range b.worlds.length).find? (Dt m tag l a c bl b.worlds)with
     | some i=>simp only[hf];exact hb
     | none=>
       simp only[hf]
       have ln:=uX m tag l a c bl b.worlds b.worlds.length
       refine⟨by have:=hb.w1;simp only;omega,by have:=hb.w2;simp only;omega,hb.n1,hb.n2,?_⟩
       have key:∀j,j≤b.worlds.length→∀x∈oH m tag l a c bl b.worlds j,WOk m N x:=by
        intro j
        induction j with
        | zero=>intro _ x hx;simp[oH]at hx
        | succ j ih=>
          intro hj x hx
          have wj:=hb.ws _ (ah (l:=b.worlds) (j:=j) (by omega))
          obtain⟨b1,b2⟩:=bb j (by omega)
          simp only[oH,Ff]at hx
          rcases List.mem_append.1 hx with hx | hx
          · exact ih (by omega) x hx
          · rw[List.mem_singleton.1 hx]
            split
            · exact Lm wj (OB hm _ l a c bl (wj.fr _ (ah (by omega)))) (Uv _ l a c bl (wj.ti _ (ah (by omega))))
            · exact wj
       exact key _ (Nat.le_refl _)
   · rw[if_pos e0]at h0 ⊢
     exact hb
 · exact hb
theorem Ln{m:aK}{a b:Wh}(ha:a.frm.length=m.places.length)(hb:b.frm.length=m.places.length):(lX a b).1.frm.length=m.places.length:=by
 unfold lX
 rw[if_pos (by omega)]
 simp only[nj];exact ha
theorem G4{m:aK}(a b:List Wh)(ha:∀w∈a,w.frm.length=m.places.length)(hb:∀w∈b,w.frm.length=m.places.length):∀p,p≤a.length→p≤b.length→∀w∈lx a b p,w.frm.length=m.places.length
 | 0,_,_,w,hw=>ha w hw
 | p+1,h1,h2,w,hw=>by
   simp only[lx]at hw
   rcases List.mem_or_eq_of_mem_set hw with hw | rfl
   · exact G4 a b ha hb p (by omega) (by omega) w hw
   · exact Ln (ha _ (ah (by omega))) (hb _ (ah (by omega)))
theorem Ik{m:aK}{N:Nat}{out:List World}{x:World}(ho:∀y∈out,WOk m N y)(hx:WOk m N x):∀y∈pJ out x,WOk m N y:=by
 intro y hy
 unfold pJ at hy
 split at hy
 · rename_i h
   rcases List.mem_or_eq_of_mem_set hy with hy | rfl
   · exact ho y hy
   · obtain⟨s1,s2,s3,s4⟩:=ho _ (ah h.1)
     refine⟨hx.tg,?_,G4 _ _ s3 hx.fr _ (Nat.min_le_left _ _) (Nat.min_le_right _ _),G3 _ _ s4 hx.ti _ (Nat.min_le_left _ _) (Nat.min_le_right _ _)⟩
     show(lx _ _ _).length=_
     rw[oI];exact s2
 · rcases List.mem_append.1 hy with hy | hy
   · rcases List.mem_append.1 hy with hy | hy
     · exact ho y (List.mem_of_mem_take hy)
     · rw[List.mem_singleton.1 hy];exact hx
   · exact ho y (List.mem_of_mem_drop hy)
theorem AS{m:aK}{N:Nat}{l:List World}(hl:∀x∈l,WOk m N x):∀j,j≤l.length→∀y∈qL l j,WOk m N y
 | 0,_,y,hy=>by simp[qL]at hy
 | j+1,h,y,hy=>Ik (AS hl j (by omega)) (hl _ (ah (by omega))) y hy
theorem Il{m:aK}{N:Nat}{i j:Nat}{t:Int}{x:World}(h:WOk m N x)(hi:i<N)(hj:j<N):WOk m N (tB i j t x):=by
 obtain⟨s1,s2,s3,s4⟩:=h
 refine⟨by simpa [tB,Ih]using s1,by simpa [tB]using s2,fun w hw=>?_,fun w hw=>?_⟩
 · simp only[tB]at hw
   rcases List.mem_or_eq_of_mem_set hw with hw | rfl
   · rcases List.mem_or_eq_of_mem_set hw with hw | rfl
     · exact s3 w hw
     · rw[rD];exact s3 _ (ah (by omega))
   · rw[rD];exact s3 _ (ah (by omega))
 · simp only[tB]at hw
   rcases List.mem_or_eq_of_mem_set hw with hw | rfl
   · rcases List.mem_or_eq_of_mem_set hw with hw | rfl
     · exact s4 w hw
     · exact Dx (s4 _ (ah (by omega)))
   · exact Dx (s4 _ (ah (by omega)))
theorem tC{m:aK}{N:Nat}{ws:List World}(h:∀x∈ws,WOk m N x){i j:Nat}{t:Int}(hi:i<N)(hj:j<N):∀k,k≤ws.length→∀x∈iC i j t ws k,WOk m N x
 | 0,_,x,hx=>h x hx
 | k+1,hk,x,hx=>by
   simp only[iC,ze]at hx
   split at hx
   · rcases List.mem_append.1 hx with hx | hx
     · exact tC h hi hj k (by omega) x hx
     · rw[List.mem_singleton.1 hx];exact Il (h _ (ah (by omega))) hi hj
   · exact tC h hi hj k (by omega) x hx
theorem Dy{m:aK}{N:Nat}{b:Bel}(hb:BOk m N b)(i j t:Int):BOk m N (if(mR m b i j t).2=0 then(mR m b i j t).1 else b):=by
 split
 · rename_i h0
   unfold mR at h0 ⊢
   split at h0
   · simp at h0
   · rename_i c1
     rw[if_neg c1]
     split at h0
     · simp at h0
     · rename_i c2
       rw[if_neg c2]
       split at h0
       · simp at h0
       · rename_i c3
         rw[if_neg c3]
         split at h0
         · simp at h0
         · rename_i c4
           rw[if_neg c4]
           have t0:=(hb.ws _ (ah (l:=b.worlds) (j:=0) (by have:=hb.w1;omega))).tg
           have ln:=rC i.toNat j.toNat t b.worlds b.worlds.length
           have w1:=hb.w1
           refine⟨?_,by simp only;omega,hb.n1,hb.n2,?_⟩
           · simp only[zJ]
             cases hn:(iC i.toNat j.toNat t b.worlds b.worlds.length).length with
             | zero=>omega
             | succ n=>exact(uY _ _).2.2
           · exact AS (tC hb.ws (by omega) (by omega) _ (Nat.le_refl _)) _ (Nat.le_refl _)
 · exact hb
theorem Dz{m:aK}(hm:m.ok){N:Nat}{n:Int}{s:BSt}(hb:BOk m N s.b):BOk m N (aA.kc m n s).b:=by
 unfold aA.kc
 simp only
 split
 · exact Dy hb _ _ _
 · split
   · exact Fi hm hb _ _ _ _
   · exact Fj hm hb _ _ _ _ _
theorem DA{m:aK}{n:Int}{s:BSt}:s.t≤(aA.kc m n s).t∧(aA.kc m n s).t≤s.t+60:=by
 have h1:=s.d.dO 60
 have h2:=s.d.dP (n:=60) (by omega)
 unfold aA.kc
 simp only
 split
 · simp only;omega
 · split<;>(simp only;omega)
theorem zg{m:aK}(hm:m.ok){N:Nat}{n:Int}{s:BSt}(hb:BOk m N s.b)(hd:s.d.dB)(ht:s.t=100):∀k,BOk m N (aA.wD m n s k).b∧(aA.wD m n s k).d.dB∧100≤(aA.wD m n s k).t∧(aA.wD m n s k).t≤100+60*k
 | 0=>⟨hb,hd,by simp[aA.wD,ht],by simp[aA.wD,ht]⟩
 | k+1=>by
   obtain⟨h1,h2,h3,h4⟩:=zg hm hb hd ht k
   have ht:=DA (m:=m) (n:=n) (s:=aA.wD m n s k)
   exact⟨Dz hm h1,BI h2,by simp only[aA.wD];omega,by simp only[aA.wD];omega⟩
theorem xx{n:Nat}(h:n≤3):fJ (pK n)=true:=by
 match n,h with
 | 0,_=>decide
 | 1,_=>decide
 | 2,_=>decide
 | 3,_=>decide
theorem qN(d:aA){n:Int}(hn:1≤n):∀k,∀x∈(d.kT n k).1,0≤x∧x<n
 | 0,x,hx=>by simp[aA.kT]at hx
 | k+1,x,hx=>by
   simp only[aA.kT,List.mem_append,List.mem_singleton]at hx
   rcases hx with hx | rfl
   · exact qN d hn k x hx
   · exact⟨aA.dO _ _,aA.dP _ hn⟩
theorem zh(d:aA):1≤d.oa∧d.oa≤3:=by
 have h1:=d.dO 3
 have h2:=d.dP (n:=3) (by omega)
 unfold aA.oa;omega
theorem BJ{m:aK}(hm:m.ok)(h1:1≤m.places.length)(d:aA):
 (rB m (pK d.oa) (d.lF m).1 ((d.lF m).2.next 100).1)=(⟨[⟨pK d.oa,gJ m (d.lF m).1 ((d.lF m).2.next 100).1 (pK d.oa).length⟩]⟩,0):=by
 have pb:=zh d
 have tl:=ka d.oa
 have sl:(d.lF m).1.length=d.oa:=aA.jI _ _ _
 have t0:=(d.lF m).2.dO 100
 have t9:=(d.lF m).2.dP (n:=100) (by omega)
 have np:=hm.np
 unfold rB
 rw[if_pos (by omega),if_pos (xx (by omega))]
 have:(List.range (pK d.oa).length).find? (fun i=> !decide ((fP m (nth (d.lF m).1 i) ((d.lF m).2.next 100).1).2=0))=none:=by
  rw[List.find?_eq_none]
  intro i hi
  have hi:i<(d.lF m).1.length:=by rw[sl,←tl];exact List.mem_range.1 hi
  have:=qN (d.next 3).2 (n:=m.places.length) (by omega) d.oa _ (ah hi)
  have:=(Dw hm this.1 this.2 (t:=((d.lF m).2.next 100).1) ⟨by omega,by omega⟩).1
  have e:(fP m (nth (d.lF m).1 i) ((d.lF m).2.next 100).1).2=0:=this
  simp[e]
 rw[this]
theorem DB{m:aK}(hm:m.ok)(h1:1≤m.places.length)(d:aA):BOk m d.oa (d.Ji m).b:=by
 have pb:=zh d
 have tl:=ka d.oa
 have sl:(d.lF m).1.length=d.oa:=aA.jI _ _ _
 have t0:=(d.lF m).2.dO 100
 have t9:=(d.lF m).2.dP (n:=100) (by omega)
 have np:=hm.np
 unfold aA.Ji
 rw[BJ hm h1]
 refine⟨by simp,by simp,by omega,by omega,fun x hx=>?_⟩
 rw[List.mem_singleton.1 hx]
 refine⟨tl,by simp[tl],fun w hw=>?_,fun w hw=>by
  simp only[gJ,List.mem_map,List.mem_range]at hw
  obtain⟨i,hi,rfl⟩:=hw
  exact Ll ⟨by omega,by omega⟩⟩
 simp only[gJ,List.mem_map,List.mem_range]at hw
 obtain⟨i,hi,rfl⟩:=hw
 have hi:i<(d.lF m).1.length:=by rw[sl,←tl];exact hi
 have:=qN (d.next 3).2 (n:=m.places.length) (by omega) d.oa _ (ah hi)
 exact(Dw hm this.1 this.2 ⟨by omega,by omega⟩).2
theorem Lo{m:aK}(hm:m.ok)(h1:1≤m.places.length){d:aA}(hd:d.dB):BOk m d.oa (d.qM m).1∧(d.qM m).2.dB:=by
 have l0:(d.Ji m).d.dB:=aA.aO (aA.aO (aA.ny (aA.aO hd 3) _ _) _) _
 obtain⟨h1,h2, -⟩:=zg hm (DB hm h1 d) l0 rfl (n:=d.oa) (d.Lj m)
 exact⟨h1,h2⟩
theorem Lp{m:aK}(hm:m.ok)(d:aA)(hd:d.dB)(n:Nat)(hn:n≤12)(a b c e f g h i j k:D):
 exS aG K.mz ⟨[.bp 0 0,a,.bp 1 0,.bp 2 0,I n,.ref 3 0 0,.ref 4 0 0,I 0,b,c,e,f,g,h,i,j,k,.und],[d.obj,.box (aa m),.box [.nil],.arr 1 false 0 [],.arr 1 false 0 []]⟩=
 some (.exit 0,⟨[.bp 0 0,.und,.bp 1 0,.bp 2 0,I n,.ref 3 0 n,.ref 4 0 n,I n,.und,.und,.und,.und,.und,.und,.und,.und,.und,.und],[(d.kT m.places.length n).2.obj,.box (aa m),.box [.nil],.arr 1 false 0 (ints (pK n)),.arr 1 false 0 (ints (d.kT m.places.length n).1)]⟩):=by
 refine b7 (fun k=>⟨[.bp 0 0,.und,.bp 1 0,.bp 2 0,I n,.ref 3 0 k,.ref 4 0 k,I k,.und,.und,.und,.und,.und,.und,.und,.und,.und,.und],[(d.kT m.places.length k).2.obj,.box (aa m),.box [.nil],.arr 1 false 0 (ints (pK k)),.arr 1 false 0 (ints (d.kT m.places.length k).1)]⟩) n rfl ?_ ?_ (by simp)
 · intro j hj
   have np:=hm.np
   have tl:=ka j
   have sl:=d.jI m.places.length j
   have lt:=aA.ny hd m.places.length j
   simp only[pK,aA.kT]
   generalize pK j=ts at*
   generalize d.kT m.places.length j=s at*
   obtain⟨ss,d1⟩:=s
   simp only at sl lt ⊢
   have h1:=fV d1 m.places.length (by omega) lt
   generalize d1.next m.places.length=r at*
   obtain⟨x,d2⟩:=r
   simp only at h1 ⊢
   simp (disch:=omega) only[go_sem,K.i5,↓reduceIte,ints,h1,Nat.reduceAdd,Nat.reduceSub]
 · have tl:=ka n
   have sl:=d.jI m.places.length n
   simp (disch:=omega) only[go_sem,K.i5,↓reduceIte,ints,Nat.reduceAdd,Nat.reduceSub]
theorem Lq{m:aK}(hm:m.ok){N:Nat}(n:Int)(n1:1≤n)(n2:n≤12)(tags starts:List Int)(s:BSt)(hd:s.d.dB)(hb:BOk m N s.b)(ht:s.t=100)(p1 p2:Bool)(kk:Nat)(hK:kk≤100):
 mw true [1,5,6,7,11,12,13,14,15,16,17] (exS aG K.bk) ⟨[.bp 0 0,.und,.bp 1 0,.bp 2 0,I n,.und,.und,.und,.bp 5 0,I s.t,I kk,.und,.und,.und,.und,.und,.und,.und],blH m p1 p2 tags starts s⟩=
 some (.exit 2,⟨[.bp 0 0,.und,.bp 1 0,.bp 2 0,I n,.und,.und,.und,.bp 5 0,I (aA.wD m n s kk).t,I 0,.und,.und,.und,.und,.und,.und,.und],blH m p1 p2 tags starts (aA.wD m n s kk)⟩):=by
 have key:=x8 (gc:=true) (dead:=[1,5,6,7,11,12,13,14,15,16,17]) (body:=exS aG K.bk)
  (fun k=>⟨[.bp 0 0,.und,.bp 1 0,.bp 2 0,I n,.und,.und,.und,.bp 5 0,I (aA.wD m n s k).t,I ((kk-k:Nat):Int),.und,.und,.und,.und,.und,.und,.und],blH m p1 p2 tags starts (aA.wD m n s k)⟩)
  (p:=(.exit 2,⟨[.bp 0 0,.und,.bp 1 0,.bp 2 0,I n,.und,.und,.und,.bp 5 0,I (aA.wD m n s kk).t,I 0,.und,.und,.und,.und,.und,.und,.und],blH m p1 p2 tags starts (aA.wD m n s kk)⟩)) kk ?_ ?_
 · exact key
 · intro k hk
   obtain⟨g1,g2,g3,g4⟩:=zg hm (n:=n) hb hd ht k
   have:=Lk hm n n1 n2 tags starts (aA.wD m n s k) g2 (g1.sz hm) (by omega) (by omega) (kk-(k+1)) (by omega) p1 p2
   rw[show(((kk-(k+1):Nat):Int)+1)=((kk-k:Nat):Int)by omega]at this
   exact this
 · refine eG ?_ (by simp)
   simp only[Nat.sub_self]
   simp (disch:=omega) only[go_sem,K.bk,↓reduceIte,blH,Nat.reduceAdd,Nat.reduceSub]
theorem Lr{m:aK}(hm:m.ok)(h1:1≤m.places.length)(d:aA)(hd:d.dB):aG 0 N.b5 [.bp 0 0,.t m.e] [d.obj]=some (.t (d.qM m).1.e,[(d.qM m).2.obj]):=by
 refine av K.jX rfl ?_
 have np:=hm.np
 have pb:=zh d
 have eP:(d.oa:Int)=1+(d.next 3).1:=by have:=d.dO 3;unfold aA.oa;omega
 have g0:=DB hm h1 d
 have e0:=BJ hm h1 d
 have a1:=fV d 3 (by omega) hd
 have l1:=aA.aO hd 3
 have q1:=fun a b c e f g h i j k=>Lp hm (d.next 3).2 l1 d.oa (by omega) a b c e f g h i j k
 have eS:(d.next 3).2.kT m.places.length d.oa=d.lF m:=rfl
 rw[eS]at q1
 have lS:(d.lF m).2.dB:=aA.ny l1 _ _
 have a2:=fV (d.lF m).2 100 (by omega) lS
 have l2:=aA.aO lS 100
 have a3:=fV ((d.lF m).2.next 100).2 5 (by omega) l2
 have l3:=aA.aO l2 5
 have k0:=((d.lF m).2.next 100).2.dO 5
 have k9:=((d.lF m).2.next 100).2.dP (n:=5) (by omega)
 have eK:(d.Lj m:Int)=(((d.lF m).2.next 100).2.next 5).1:=by unfold aA.Lj;omega
 have st:=Fc hm (pK d.oa) (d.lF m).1 (by rw[ka];omega) ((d.lF m).2.next 100).1
 have tl:=ka d.oa
 have sl:(d.lF m).1.length=d.oa:=aA.jI _ _ _
 rw[e0]at st
 have b0:d.Ji m=⟨⟨[⟨pK d.oa,gJ m (d.lF m).1 ((d.lF m).2.next 100).1 (pK d.oa).length⟩]⟩,100,(((d.lF m).2.next 100).2.next 5).2⟩:=by unfold aA.Ji;rw[e0]
 have q2:=fun p1 p2=>Lq hm d.oa (by omega) (by omega) (pK d.oa) (d.lF m).1 (d.Ji m) (by rw[b0];exact l3) g0 rfl p1 p2 (d.Lj m) (by omega)
 have q2:=fun p1 p2 a b c e f g h i j k l=>sX (vs:=[.bp 0 0,a,.bp 1 0,.bp 2 0,I d.oa,b,c,e,.bp 5 0,I 100,I (d.Lj m),f,g,h,i,j,k,l]) (q2 p1 p2)
 have eF:aA.wD m d.oa (d.Ji m) (d.Lj m)=d.adB m:=rfl
 rw[eF]at q2
 unfold aA.qM
 rw[b0]at q2
 generalize d.adB m=F at*
 generalize (pK d.oa)=tags at*
 generalize gJ m (d.lF m).1 ((d.lF m).2.next 100).1 tags.length=sw at*
 generalize d.Lj m=kk at*
 generalize (((d.lF m).2.next 100).2.next 5)=z3 at*
 generalize ((d.lF m).2.next 100)=z2 at*
 generalize d.lF m=z1 at*
 generalize d.next 3=z0 at*
 generalize d.oa=n at*
 obtain⟨x3,d3⟩:=z3
 obtain⟨x2,d2⟩:=z2
 obtain⟨ss,d1⟩:=z1
 obtain⟨x0,d0⟩:=z0
 obtain⟨⟨wf⟩,tf,df⟩:=F
 simp only[List.map_cons,List.map_nil,blH]at*
 have q2:∀p1 p2 a b c e f g h i j k l,exS aG K.mA _=_:=q2
 simp (disch:=omega) only[go_sem,K.b5,↓reduceIte,ints,a1,eP.symm,q1,a2,a3,st,eK.symm,tl,sl,q2,Nat.reduceAdd,Nat.reduceSub]
def aA.spread(d:aA)(m:aK)(fl:List Spn):Wh×aA:=
 let p:=d.next m.places.length
 let t:=p.2.next 200
 let s:=aaw m fl [p.1] t.1
 let o:=t.2.one 2
 if o.1=true then
  let f:=o.2.agd m
  let a:=f.2.next 100
  let r:=TJ m fl m f.1 s.1 (s.1.time+a.1)
  if r.2=0 then(r.1,a.2)else(s.1,a.2)
 else(s.1,o.2)
structure Mch where
 kind:Int
 num:Int
 pl:List Int
instance : Dat Mch := ⟨⟨0, 0, []⟩⟩
abbrev Mch.e(x:Mch):T:= .agg [tI x.kind,tI x.num,tL x.pl]
@[go_sem] theorem aaR (l : List Mch) : nF 3 (l.map Mch.e) = true := by cases l <;> rfl
theorem wE{n:Nat}{p:Nat→Bool}{x:Int}:x∈kQ n p↔∃k:Nat,x=k∧k<n∧p k=true:=by
 unfold kQ
 simp only[List.mem_map,List.mem_filter,List.mem_range]
 constructor
 · rintro ⟨k,⟨h1,h2⟩,rfl⟩;exact⟨k,rfl,h1,h2⟩
 · rintro ⟨k,rfl,h1,h2⟩;exact⟨k,⟨h1,h2⟩,rfl⟩
theorem zK{n:Nat}{p:Nat→Bool}{k:Nat}:(k:Int)∈kQ n p↔k<n∧p k=true:=by
 rw[wE]
 constructor
 · rintro ⟨j,h,h1,h2⟩
   obtain rfl:k=j:=by omega
   exact⟨h1,h2⟩
 · rintro ⟨h1,h2⟩;exact⟨k,rfl,h1,h2⟩
theorem BK(l:List World)(hl:l.length≤4294967296)(f:Nat)(bs:List (List T))(p:World→Bool)(h:∀x,x∈l→aG 0 f (.t x.e::fp bs.length) (aN bs)=some (B (p x),aN bs)):
 aG 0 N.aC [.t (.sl (l.map World.e)),.fn f (fp bs.length)] (aN bs)=
 some (I (match (List.range l.length).find? (fun j=>p (nth l j))with | some j=>(j:Int) | none=> -1),aN bs):=by
 refine av K.cO rfl ?_
 have loop:∀a b:D,exS aG K.eB ⟨[.t (.sl (l.map World.e)),.fn f (fp bs.length),a,b,I l.length,I 0],aN bs⟩=
  some (match (List.range l.length).find? (fun j=>p (nth l j))with
   | some j=>(.ret,⟨[.t (.sl (l.map World.e)),.fn f (fp bs.length),I j,I j,I l.length,I j],aN bs⟩)
   | none=>(.exit 0,⟨[.t (.sl (l.map World.e)),.fn f (fp bs.length),.und,.und,I l.length,I l.length],aN bs⟩)):=by
  intro a b
  refine bY (fun j=>⟨[.t (.sl (l.map World.e)),.fn f (fp bs.length),.und,.und,I l.length,I j],aN bs⟩) l.length (fun j=>p (nth l j)) _ _ rfl ?_ ?_ ?_ (by simp)
  · intro j hj hp
    have hc:=mh (h _ (ah hj)) rfl
    simp (disch:=omega) only[go_sem,K.bG,↓reduceIte,hc,hp]
  · intro j hj hp
    have hc:=mh (h _ (ah hj)) rfl
    simp (disch:=omega) only[go_sem,K.bG,↓reduceIte,hp,hc]
    simp
  · simp (disch:=omega) only[go_sem,K.bG,↓reduceIte]
 simp (disch:=omega) only[go_sem,K.aC,↓reduceIte,loop]
 cases hf:(List.range l.length).find? (fun j=>p (nth l j))with
 | some j=>simp (disch:=omega) only[go_sem,↓reduceIte]
 | none=>simp (disch:=omega) only[go_sem,↓reduceIte]
theorem BL{α:Type} [Dat α]{l:List α}{p:α→Bool}:((List.range l.length).find? fun j=>p (nth l j)).isSome=l.any p:=by
 rw[List.isSome_find?,Bool.eq_iff_iff,List.any_eq_true,List.any_eq_true]
 constructor
 · rintro ⟨j,hj,h⟩
   exact⟨_,ah (List.mem_range.1 hj),h⟩
 · rintro ⟨x,hx,h⟩
   obtain⟨j,hj⟩:=List.mem_iff_getElem?.1 hx
   exact⟨j,List.mem_range.2 (List.getElem?_eq_some_iff.1 hj).1,by rw[b8 hj];exact h⟩
theorem Lt{α:Type} [Dat α](l:List α)(p:α→Bool):l.any p=(List.range l.length).any fun i=>p (nth l i):=by
 rw[← BL,List.isSome_find?]
theorem xM(l:List World)(hl:l.length≤4294967296)(f:Nat)(bs:List (List T))(p:World→Bool)(h:∀x,x∈l→aG 0 f (.t x.e::fp bs.length) (aN bs)=some (B (p x),aN bs)):
 aG 0 N.au [.t (.sl (l.map World.e)),.fn f (fp bs.length)] (aN bs)=some (B (l.any p),aN bs):=by
 refine av K.cA rfl ?_
 have h:=BK l hl f bs p h
 have hc:=vX aG bs f _ 0 (.sl (l.map World.e)) h rfl
 have e:=BL (l:=l) (p:=p)
 cases hf:(List.range l.length).find? (fun j=>p (nth l j))with
 | some j=>rw[hf]at e hc;simp (disch:=omega) only[go_sem,K.au,↓reduceIte,←e,hc]
 | none=>rw[hf]at e hc;simp (disch:=omega) only[go_sem,K.au,↓reduceIte,←e,hc,Option.isSome_none]
def Uw(person t:Int)(p:Nat)(x:World):Bool:=decide (0≤person∧person<x.whr.length)&&(decide (p<(nth x.whr person.toNat).frm.length)&&decide (nth (nth x.whr person.toNat).frm p≤t))
theorem Lu(x:World)(hx:x.sz)(person t:Int)(p:Nat)(hp:p≤1000000):
 aG 0 N.aZ [.t x.e,.bp 0 0,.bp 1 0,.bp 2 0] [.box [I person],.box [I p],.box [I t]]=some (B (Uw person t p x),[.box [I person],.box [I p],.box [I t]]):=by
 refine av K.i7 rfl ?_
 have li:=Bt person 0 (x.whr.length-1)
 obtain⟨h1,h2,h3⟩:=hx
 unfold Uw
 by_cases c:0≤person∧person<x.whr.length
 · obtain⟨c1,c2⟩:=c
   have e1:(x.whr.map Wh.e)[person.toNat]?=some (nth x.whr person.toNat).e:=eU _ (by omega)
   have h4:=h3 _ (ah (l:=x.whr) (j:=person.toNat) (by omega))
   have li':decide (0≤person∧person≤(x.whr.length:Int)-1)=true:=by simp;omega
   rw[li']at li
   generalize nth x.whr person.toNat=w at*
   obtain⟨tags,whr⟩:=x
   obtain⟨time,frm⟩:=w
   simp only at*
   by_cases c3:p<frm.length
   · simp (disch:=omega) only[go_sem,K.aZ,↓reduceIte,Nat.reduceAdd,Nat.reduceSub,li,e1,c1,c2,c3,and_self]
   · simp (disch:=omega) only[go_sem,K.aZ,↓reduceIte,Nat.reduceAdd,Nat.reduceSub,li,e1,c1,c2,c3,and_self]
 · have li':decide (0≤person∧person≤(x.whr.length:Int)-1)=false:=by simp;omega
   rw[li']at li
   obtain⟨tags,whr⟩:=x
   simp only at*
   simp (disch:=omega) only[go_sem,K.aZ,↓reduceIte,Nat.reduceAdd,Nat.reduceSub,li,c]
theorem OC(b:Bel)(hb:b.sz)(person t:Int)(p:Nat)(hp:p≤1000000):
 aG 0 N.bR [I p,.bp 0 0,.bp 1 0,.bp 2 0] [.box [.t (.sl (b.worlds.map World.e))],.box [I person],.box [I t]]=some (B (b.worlds.any (Uw person t p)),[.box [.t (.sl (b.worlds.map World.e))],.box [I person],.box [I t]]):=by
 refine av K.j4 rfl ?_
 have cf:=xM b.worlds (by have:=hb.1;omega) N.aZ [[tI person],[tI p],[tI t]] (Uw person t p) (fun x hx=>Lu x (hb.2 x hx) person t p hp)
 have cf:aG 0 N.au [.t (.sl (b.worlds.map World.e)),.fn N.aZ [.bp 0 0,.bp 1 0,.bp 2 0]] [.box [I person],.box [I p],.box [I t]]=some (B (b.worlds.any (Uw person t p)),[.box [I person],.box [I p],.box [I t]]):=cf
 simp (disch:=omega) only[go_sem,K.bR,↓reduceIte,Nat.reduceAdd,Nat.reduceSub,cf]
theorem Lv(b:Bel)(person t:Int)(p:Nat):b.worlds.any (Uw person t p)=Xx b person t p:=by
 unfold Xx
 rw[Lt]
 congr 1
 funext i
 unfold Uw
 congr 1
 rw[Bool.eq_iff_iff]
 simp only[Bool.and_eq_true,decide_eq_true_eq,Kr,zK]
theorem tD(b:Bel)(hb:b.sz)(person t:Int):aG 0 N.dC [.t b.e,I person,I t] []=some (.t (tL (n9 b person t)),[]):=by
 refine av K.lr rfl ?_
 have wh:=NT 64 (by omega) N.bR [[.sl (b.worlds.map World.e)],[tI person],[tI t]] (Xx b person t) (fun p hp=>by rw[← Lv];exact OC b hb person t p (by omega))
 have wh:aG 0 N.eO [I 64,.fn N.bR [.bp 0 0,.bp 1 0,.bp 2 0]] [.box [.t (.sl (b.worlds.map World.e))],.box [I person],.box [I t]]=some (.t (tL (n9 b person t)),[.box [.t (.sl (b.worlds.map World.e))],.box [I person],.box [I t]]):=wh
 obtain⟨ws⟩:=b
 simp only at wh
 generalize n9 ⟨ws⟩ person t=r at*
 simp (disch:=omega) only[go_sem,K.dC,↓reduceIte,wh,Nat.reduceAdd,Nat.reduceSub]
theorem uZ(b:Bel)(person t:Int):(n9 b person t).length≤64:=AD _ _
end Go.Ev
namespace Go.Ev
open Go
variable [Lib] [cu] [bP] [gG] [gM] [jO] [fW] [fS] [iR] [gF] [eX] [dT]
theorem BM(l:List Wh)(hl:l.length≤4294967296)(f:Nat)(bs:List (List T))(p:Wh→Bool)(h:∀x,x∈l→aG 0 f (.t x.e::fp bs.length) (aN bs)=some (B (p x),aN bs)):
 aG 0 N.aq [.t (.sl (l.map Wh.e)),.fn f (fp bs.length)] (aN bs)=
 some (I (match (List.range l.length).find? (fun j=>p (nth l j))with | some j=>(j:Int) | none=> -1),aN bs):=by
 refine av K.bD rfl ?_
 have loop:∀a b:D,exS aG K.cG ⟨[.t (.sl (l.map Wh.e)),.fn f (fp bs.length),a,b,I l.length,I 0],aN bs⟩=
  some (match (List.range l.length).find? (fun j=>p (nth l j))with
   | some j=>(.ret,⟨[.t (.sl (l.map Wh.e)),.fn f (fp bs.length),I j,I j,I l.length,I j],aN bs⟩)
   | none=>(.exit 0,⟨[.t (.sl (l.map Wh.e)),.fn f (fp bs.length),.und,.und,I l.length,I l.length],aN bs⟩)):=by
  intro a b
  refine bY (fun j=>⟨[.t (.sl (l.map Wh.e)),.fn f (fp bs.length),.und,.und,I l.length,I j],aN bs⟩) l.length (fun j=>p (nth l j)) _ _ rfl ?_ ?_ ?_ (by simp)
  · intro j hj hp
    have hc:=mh (h _ (ah hj)) rfl
    simp (disch:=omega) only[go_sem,K.aT,↓reduceIte,hc,hp]
  · intro j hj hp
    have hc:=mh (h _ (ah hj)) rfl
    simp (disch:=omega) only[go_sem,K.aT,↓reduceIte,hp,hc]
    simp
  · simp (disch:=omega) only[go_sem,K.aT,↓reduceIte]
 simp (disch:=omega) only[go_sem,K.aq,↓reduceIte,loop]
 cases hf:(List.range l.length).find? (fun j=>p (nth l j))with
 | some j=>simp (disch:=omega) only[go_sem,↓reduceIte]
 | none=>simp (disch:=omega) only[go_sem,↓reduceIte]
theorem xN(l:List Wh)(hl:l.length≤4294967296)(f:Nat)(bs:List (List T))(p:Wh→Bool)(h:∀x,x∈l→aG 0 f (.t x.e::fp bs.length) (aN bs)=some (B (p x),aN bs)):
 aG 0 N.aj [.t (.sl (l.map Wh.e)),.fn f (fp bs.length)] (aN bs)=some (B (l.any p),aN bs):=by
 refine av K.bu rfl ?_
 have h:=BM l hl f bs p h
 have hc:=vX aG bs f _ 0 (.sl (l.map Wh.e)) h rfl
 have e:=BL (l:=l) (p:=p)
 cases hf:(List.range l.length).find? (fun j=>p (nth l j))with
 | some j=>rw[hf]at e hc;simp (disch:=omega) only[go_sem,K.aj,↓reduceIte,←e,hc]
 | none=>rw[hf]at e hc;simp (disch:=omega) only[go_sem,K.aj,↓reduceIte,←e,hc,Option.isSome_none]
theorem zi{l:List Int}:fJ l=true↔l.Nodup∧∀x∈l,1≤x∧x≤65535:=by
 constructor
 · intro h
   refine⟨iV h,fun x hx=>?_⟩
   simp only[fJ,List.all_eq_true,List.mem_range,mL,decide_eq_true_eq]at h
   obtain⟨j,hj⟩:=List.mem_iff_getElem?.1 hx
   have:=h j (List.getElem?_eq_some_iff.1 hj).1
   rw[b8 hj]at this
   exact⟨this.1,this.2.1⟩
 · rintro ⟨h1,h2⟩
   simp only[fJ,List.all_eq_true,List.mem_range,mL,decide_eq_true_eq]
   intro j hj
   obtain⟨a,b⟩:=h2 _ (ah hj)
   refine⟨a,b,Decidable.byContradiction fun c=>?_⟩
   obtain⟨d,e⟩:=wA (l:=l.take j) (x:=nth l j) (by omega)
   have z:0≤bU (l.take j) (nth l j):=by omega
   generalize bU (l.take j) (nth l j)=k at*
   rw[List.length_take]at d
   have k1:k.toNat<j:=by omega
   have e1:(l.take j)[k.toNat]?=l[k.toNat]?:=List.getElem?_take_of_lt k1
   have e2:l[k.toNat]?=some l[k.toNat]:=List.getElem?_eq_getElem (by omega)
   rw[b8 (e1.trans e2),←b8 e2]at e
   have n2:=(List.getElem?_inj (by omega:k.toNat<l.length) h1).1 (show l[k.toNat]?=l[j]? by rw[ff (by omega),ff hj,e])
   omega
theorem OD{l:List Int}{lo hi:Int}:QD l lo hi=true↔l.Pairwise (· < ·)∧∀x∈l,lo≤x∧x≤hi:=by
 have e:QD l lo hi=true↔∀j,j<l.length→lo≤nth l j∧nth l j≤hi∧(0<j→nth l (j-1)<nth l j):=by
  simp only[QD,Bool.not_eq_true',List.any_eq_false,List.mem_range,KW,Bool.not_eq_true]
  constructor
  · intro h j hj
    have:=h j hj
    exact Decidable.byContradiction fun c=>this (decide_eq_false c)
  · intro h j hj c
    exact(of_decide_eq_false c) (h j hj)
 rw[e]
 constructor
 · intro h
   refine⟨?_,fun x hx=>?_⟩
   · have key:∀d i,i+d+1<l.length→nth l i<nth l (i+d+1):=by
      intro d
      induction d with
      | zero=>intro i hi;have:=(h (i+0+1) hi).2.2 (by omega);simpa using this
      | succ d ih=>
        intro i hi
        have a:=ih i (by omega)
        have b:=(h (i+(d+1)+1) hi).2.2 (by omega)
        rw[show i+(d+1)+1-1=i+d+1 by omega]at b
        omega
     rw[List.pairwise_iff_getElem]
     intro i j hi hj hij
     have:=key (j-i-1) i (by omega)
     rw[show i+(j-i-1)+1=j by omega,b8 (List.getElem?_eq_getElem hi),b8 (List.getElem?_eq_getElem hj)]at this
     exact this
   · obtain⟨j,hj⟩:=List.mem_iff_getElem?.1 hx
     have:=h j (List.getElem?_eq_some_iff.1 hj).1
     rw[b8 hj]at this
     exact⟨this.1,this.2.1⟩
 · rintro ⟨h1,h2⟩ j hj
   refine⟨(h2 _ (ah hj)).1,(h2 _ (ah hj)).2,fun h0=>?_⟩
   have:=(List.pairwise_iff_getElem.1 h1) (j-1) j (by omega) hj (by omega)
   rwa [← b8 (List.getElem?_eq_getElem (by omega:j-1<l.length)),←b8 (List.getElem?_eq_getElem hj)]at this
theorem Im(l:List Int):QD (gn l) 1 65535=fJ l:=by
 rw[Bool.eq_iff_iff,OD,zi]
 have p:=iU l
 have u:=rA l
 constructor
 · rintro ⟨h1,h2⟩
   refine⟨p.nodup_iff.1 (h1.imp fun h=>by omega),fun x hx=>h2 x (p.mem_iff.2 hx)⟩
 · rintro ⟨h1,h2⟩
   have nd:(gn l).Nodup:=p.nodup_iff.2 h1
   refine⟨?_,fun x hx=>h2 x (p.mem_iff.1 hx)⟩
   have:=List.Pairwise.and u nd
   exact this.imp fun h=>by omega
theorem Lw(l:List Int)(hl:l.length≤1000000):aG 0 N.fk [.t (tL l)] []=some (B (fJ l),[]):=by
 refine av K.n5 rfl ?_
 have v:=zb l
 have s:=zc l hl
 have r:=uS (gn l) 1 65535 (by rw[iK];omega)
 rw[Im]at r
 simp (disch:=omega) only[go_sem,K.fk,↓reduceIte,v,s,r,Nat.reduceAdd,Nat.reduceSub]
theorem qO{n j:Nat}{p:Nat→Bool}(h1:j<n)(h2:p j=true)(h3:∀k,k<j→p k=false):(List.range n).find? p=some j:=by
 cases hf:(List.range n).find? p with
 | none=>exact absurd h2 (by simpa using List.find?_eq_none.1 hf j (List.mem_range.2 h1))
 | some k=>
   obtain⟨k1,k2⟩:=yV hf
   have:k≤j:=by
    rcases Nat.lt_or_ge j k with c | c
    · rw[List.find?_range_eq_some]at hf
      exact absurd h2 (by simpa using hf.2.2 j c)
    · exact c
   rcases Nat.lt_or_ge k j with c | c
   · rw[h3 k c]at k2;cases k2
   · rw[show k=j by omega]
theorem DC{n:Nat}{p:Nat→Bool}(h:∀k,k<n→p k=false):(List.range n).find? p=none:=List.find?_eq_none.2 fun x hx=>by rw[h x (List.mem_range.1 hx)];simp
theorem Lx(a b:List Int):decide (Xw a b<0)=qH a b:=by
 unfold Xw qH
 cases hf:(List.range (min a.length b.length)).find? (fun j=>decide (nth a j≠nth b j))with
 | some j=>
   rw[List.find?_range_eq_some]at hf
   obtain⟨h2,h1,h3⟩:=hf
   have h1:=List.mem_range.1 h1
   have e:(List.range a.length).find? (GY a b)=some j:=qO (by omega) (by simp only[GY,h2,Bool.or_true]) (fun k hk=>by
    have:=h3 k hk
    simp only[GY,Bool.or_eq_false_iff,decide_eq_false_iff_not]
    exact⟨by omega,by simpa using this⟩)
   have h2:nth a j≠nth b j:=by simpa using h2
   rw[e]
   simp only[if_neg (by omega:¬b.length≤j)]
   rw[decide_eq_decide]
   unfold Lc
   split
   · omega
   · split<;>omega
 | none=>
   have h3:∀k,k<min a.length b.length→nth a k=nth b k:=fun k hk=>by
    have:=List.find?_eq_none.1 hf k (List.mem_range.2 hk)
    simpa using this
   by_cases c:a.length≤b.length
   · have e:(List.range a.length).find? (GY a b)=none:=DC fun k hk=>by
      simp only[GY,Bool.or_eq_false_iff,decide_eq_false_iff_not,Decidable.not_not]
      exact⟨by omega,h3 k (by omega)⟩
     rw[e]
     simp only[decide_eq_decide]
     split<;>omega
   · have e:(List.range a.length).find? (GY a b)=some b.length:=qO (by omega) (by simp[GY]) (fun k hk=>by
      simp only[GY,Bool.or_eq_false_iff,decide_eq_false_iff_not,Decidable.not_not]
      exact⟨by omega,h3 k (by omega)⟩)
     rw[e]
     simp only[Nat.le_refl,if_true,decide_eq_decide]
     omega
def pwB(m:aK)(ws:List World)(first:List Int)(i:Nat):Bool:=
 decide (1≤(nth ws i).tags.length∧(nth ws i).tags.length≤12)&&decide ((nth ws i).whr.length=(nth ws i).tags.length)&&fJ (nth ws i).tags&&decide (gn (nth ws i).tags=gn first)&&(decide (i=0)||qH (nth ws (i-1)).tags (nth ws i).tags)&& !((nth ws i).whr.any fun x=> !dq m x)
def OE(m:aK)(b:Bel):Bool:=decide (1≤b.worlds.length∧b.worlds.length≤24)&&(List.range b.worlds.length).all (pwB m b.worlds (nth b.worlds 0).tags)
theorem xy{a b:List Int}:gn a=gn b↔a.Perm b:=by
 constructor
 · intro h
   exact(iU a).symm.trans (h▸iU b)
 · intro h
   exact agf (rA a) (rA b) ((iU a).trans (h.trans (iU b).symm))
theorem sC{a b:List Int}(ha:a.Nodup)(hb:b.Nodup)(hl:a.length=b.length)(hs:∀x∈a,x∈b):a.Perm b:=by
 have key:∀y∈b,y∈a:=fun y hy=>Decidable.byContradiction fun hn=>by
  have:=pH ha (l':=b.erase y) (fun x hx=>(List.mem_erase_of_ne (fun e=>hn (by rw[← e];exact hx))).2 (hs x hx))
  rw[List.length_erase_of_mem hy]at this
  have:=List.length_pos_of_mem hy
  omega
 exact(List.perm_ext_iff_of_nodup ha hb).2 fun x=>⟨hs x,key x⟩
theorem OF(m:aK)(b:Bel):OE m b=p5 m b:=by
 obtain⟨ws⟩:=b
 rw[Bool.eq_iff_iff]
 constructor
 · intro h
   simp only[OE,Bool.and_eq_true,decide_eq_true_eq,List.all_eq_true,List.mem_range,pwB,Bool.or_eq_true,Bool.not_eq_true',List.any_eq_false,Bool.not_eq_false']at h
   obtain⟨⟨h1,h2⟩,h⟩:=h
   have h0:=h 0 (by omega)
   simp only[p5,Bool.and_eq_true,decide_eq_true_eq,List.all_eq_true,List.mem_range,oG,Bool.or_eq_true,Jg]
   refine⟨⟨⟨h1,h2⟩,h0.1.1.1.1.1⟩,fun i hi=>?_⟩
   obtain⟨⟨⟨⟨⟨a1,a2⟩,a3⟩,a4⟩,a5⟩,a6⟩:=h i hi
   have pm:=xy.1 a4
   refine⟨⟨⟨⟨pm.length_eq,by rw[a2,pm.length_eq]⟩,a3⟩,a5⟩,fun k hk=>⟨?_,?_⟩⟩
   · exact kF.2 (pm.mem_iff.1 (ah hk))
   · simpa using a6 _ (ah (l:=(nth ws i).whr) (j:=k) (by omega))
 · intro h
   obtain⟨h1,h2,h3,h4,h5⟩:=gI h
   simp only at h1 h2 h3 h4 h5
   have p0:=(iL (h5 0 (by omega))).2.2.1
   simp only[OE,Bool.and_eq_true,decide_eq_true_eq,List.all_eq_true,List.mem_range,pwB,Bool.or_eq_true,Bool.not_eq_true',List.any_eq_false,Bool.not_eq_false']
   refine⟨⟨h1,h2⟩,fun i hi=>?_⟩
   obtain⟨w1,w2,w3,w4⟩:=iL (h5 i hi)
   have ls:=h5 i hi
   simp only[oG,Bool.and_eq_true,Bool.or_eq_true,decide_eq_true_eq]at ls
   refine⟨⟨⟨⟨⟨by omega,by omega⟩,w3⟩,?_⟩,ls.1.2⟩,fun x hx=>?_⟩
   · refine xy.2 (sC (iV w3) (iV p0) w1 fun x hx=>?_)
     obtain⟨j,hj⟩:=List.mem_iff_getElem?.1 hx
     have:=(w4 j (List.getElem?_eq_some_iff.1 hj).1).1
     rwa [b8 hj]at this
   · obtain⟨j,hj⟩:=List.mem_iff_getElem?.1 hx
     have:=(w4 j (by rw[w1,←w2];exact(List.getElem?_eq_some_iff.1 hj).1)).2
     rw[b8 hj]at this
     simpa using this
theorem Fk{m:aK}(h:m.ok)(x:Wh)(hx:x.frm.length≤1000000):aG 0 N.di [.t x.e,.bp 0 0] [.box (aa m)]=some (B (!dq m x),[.box (aa m)]):=by
 refine av K.mN rfl ?_
 have v:=KY h x hx
 obtain⟨places,roads⟩:=m
 obtain⟨time,frm⟩:=x
 simp only at*
 simp (disch:=omega) only[go_sem,K.di,↓reduceIte,v,Nat.reduceAdd,Nat.reduceSub]
abbrev swS(m:aK)(ws:List World)(first:List Int)(i:Nat):St:=
 ⟨[.und,.und,.bp 0 0,.bp 1 0,.und,.t (tL (gn first)),.und,.und,.t (.sl (ws.map World.e)),I ws.length,I i],[.box (aa m),.box [.t (.sl (ws.map World.e))],.box [.t (tL first)]]⟩
theorem Lz{m:aK}(h:m.ok)(ws:List World)(first:List Int)(hf:first.length≤1000000)(hs:∀x∈ws,x.sz)(i:Nat)(hi:i<ws.length)(hl:ws.length≤1000000):
 (pwB m ws first i=true→fh true [0,1,4,6,7] 3 (exS aG K.bK (swS m ws first i))=some (swS m ws first (i+1)))∧
 (pwB m ws first i=false→∃q,exS aG K.bK (swS m ws first i)=some q∧q.1= .ret∧q.2.vs[4]?=some (B false)):=by
 simp only[swS]
 have sz:=hs _ (ah hi)
 have ex:(ws.map World.e)[i]?=some (nth ws i).e:=eU _ hi
 unfold pwB
 have ey:0<i→(ws.map World.e)[i-1]?=some (nth ws (i-1)).e∧(nth ws (i-1)).tags.length≤1000000:=fun h0=>⟨eU _ (by omega),(hs _ (ah (by omega))).1⟩
 generalize nth ws (i-1)=y at*
 generalize nth ws i=x at*
 obtain⟨tags,whr⟩:=x
 obtain⟨ptags,pwhr⟩:=y
 obtain⟨s1,s2,s3⟩:=sz
 simp only at s1 s2 s3 ey ⊢
 have li:=Bt tags.length 1 12
 have tg:=Lw tags s1
 have va:=zb tags
 have so:=zc tags s1
 have eq:=GQ (gn tags) (gn first) (by rw[iK];omega) (by rw[iK];omega)
 have cf:=xN whr (by omega) N.di [[.sl (m.places.map Place.e),.sl (m.roads.map Road.e)]] (fun x=> !dq m x) (fun x hx=>Fk h x (s3 x hx))
 have cf:aG 0 N.aj [.t (.sl (whr.map Wh.e)),.fn N.di [.bp 0 0]] [.box (aa m)]=some (B (whr.any fun x=> !dq m x),[.box (aa m)]):=cf
 have cp:0<i→aG 0 N.aP [.t (tL ptags),.t (tL tags)] []=some (I (Xw ptags tags),[]):=fun h0=>Ie ptags tags (ey h0).2 s1
 have cl:=Lx ptags tags
 generalize gn tags=st at*
 generalize gn first=sf at*
 generalize (whr.any fun x=> !dq m x)=an at*
 generalize fJ tags=pr at*
 generalize qH ptags tags=le at*
 generalize Xw ptags tags=cc at*
 clear hs s3
 by_cases c1:1≤tags.length∧tags.length≤12
 · have li:aG 0 N.dF [I tags.length,I 1,I 12] []=some (B true,[]):=by rw[li,decide_eq_true (by omega)]
   by_cases c2:whr.length=tags.length
   · cases pr with
     | false=>
       refine⟨fun h=>by simp at h,fun _=>?_⟩
       simp (disch:=omega) only[go_sem,K.bK,↓reduceIte,li,tg,ex,c2,Nat.reduceAdd,Nat.reduceSub]
       refine⟨_,rfl,?_,?_⟩<;>rfl
     | true=>
       by_cases c4:st=sf
       · subst c4
         simp only[decide_true]at eq
         cases i with
         | zero=>
           cases an with
           | true=>
             refine⟨fun h=>by simp at h,fun _=>?_⟩
             simp (disch:=omega) only[go_sem,K.bK,↓reduceIte,li,tg,ex,c2,va,so,eq,cf,Nat.reduceAdd,Nat.reduceSub]
             refine⟨_,rfl,?_,?_⟩<;>rfl
           | false=>
             refine⟨fun _=>?_,fun h=>by simp[c1,c2]at h⟩
             simp (disch:=omega) only[go_sem,K.bK,↓reduceIte,li,tg,ex,c2,va,so,eq,cf,Nat.reduceAdd,Nat.reduceSub]
         | succ i=>
           obtain⟨ey, -⟩:=ey (by omega)
           have cp:=cp (by omega)
           simp only[Nat.add_sub_cancel]at ey
           cases le with
           | false=>
             have cl:¬cc<0:=by simpa using cl
             refine⟨fun h=>by simp at h,fun _=>?_⟩
             simp (disch:=omega) only[go_sem,K.bK,↓reduceIte,li,tg,ex,c2,va,so,eq,ey,cp,Nat.reduceAdd,Nat.reduceSub]
             refine⟨_,rfl,?_,?_⟩<;>rfl
           | true=>
             have cl:cc<0:=by simpa using cl
             cases an with
             | true=>
               refine⟨fun h=>by simp at h,fun _=>?_⟩
               simp (disch:=omega) only[go_sem,K.bK,↓reduceIte,li,tg,ex,c2,va,so,eq,ey,cp,cf,Nat.reduceAdd,Nat.reduceSub]
               refine⟨_,rfl,?_,?_⟩<;>rfl
             | false=>
               refine⟨fun _=>?_,fun h=>by simp[c1,c2]at h⟩
               simp (disch:=omega) only[go_sem,K.bK,↓reduceIte,li,tg,ex,c2,va,so,eq,ey,cp,cf,Nat.reduceAdd,Nat.reduceSub]
       · simp only[c4,decide_false]at eq
         refine⟨fun h=>by simp[c4]at h,fun _=>?_⟩
         simp (disch:=omega) only[go_sem,K.bK,↓reduceIte,li,tg,ex,c2,va,so,eq,Nat.reduceAdd,Nat.reduceSub]
         refine⟨_,rfl,?_,?_⟩<;>rfl
   · refine⟨fun h=>by simp[c2]at h,fun _=>?_⟩
     simp (disch:=omega) only[go_sem,K.bK,↓reduceIte,li,ex,c2,Nat.reduceAdd,Nat.reduceSub]
     refine⟨_,rfl,?_,?_⟩<;>rfl
 · have li:aG 0 N.dF [I tags.length,I 1,I 12] []=some (B false,[]):=by rw[li,decide_eq_false (by omega)]
   refine⟨fun h=>by simp[c1]at h,fun _=>?_⟩
   simp (disch:=omega) only[go_sem,K.bK,↓reduceIte,li,ex,Nat.reduceAdd,Nat.reduceSub]
   refine⟨_,rfl,?_,?_⟩<;>rfl
end Go.Ev
namespace Go.Ev
open Go
variable [Lib] [cu] [bP] [iR] [gF]
theorem LA{l:List Int}{n:Int}(h:zB l n=true):∀x∈l,0≤x∧x<n:=by
 intro x hx
 simp only[zB,List.all_eq_true,List.mem_range,decide_eq_true_eq]at h
 obtain⟨j,hj⟩:=List.mem_iff_getElem?.1 hx
 have:=h j (List.getElem?_eq_some_iff.1 hj).1
 rw[b8 hj]at this
 exact⟨this.1,this.2.1⟩
theorem Ux{w:Wh}{l:List Int}{b:Int}{n:Nat}(hl:∀p∈l,0≤p∧p<n)(hw:∀x∈w.frm,plT x)(hn:w.frm.length=n):∀x∈(zC w l b n l.length).1,plT x:=by
 intro x hx
 obtain⟨j,hj⟩:=List.mem_iff_getElem?.1 hx
 have jl:=(List.getElem?_eq_some_iff.1 hj).1
 rw[pz]at jl
 have e:=GK (w:=w) (b:=b) hl _ (Nat.le_refl _) j jl
 rw[b8 hj]at e
 rw[e]
 split
 · exact hw _ (ah (by omega))
 · exact .inl rfl
theorem LB{m:aK}(h:m.ok){w:Wh}(hv:dq m w=true)(l:List Int)(a b:Int):
 (zI m w l a b=(⟨b,dn m a none (zC w l b m.places.length l.length).1⟩,0)∧j5 m w l a b=0∧w.time≤a∧(zC w l b m.places.length l.length).2=true∧dq m (zI m w l a b).1=true)∨((zI m w l a b).1=w∧(zI m w l a b).2≠0):=by
 by_cases c0:j5 m w l a b=0
 · obtain⟨-,h0,hs,ia,ib,hab⟩:=lW c0
   by_cases c1:a<w.time
   · right;unfold zI;rw[if_neg (by simpa using c0),if_pos c1];exact⟨rfl,by simp⟩
   · cases c2:(zC w l b m.places.length l.length).2 with
     | false=>right;unfold zI;rw[if_neg (by simpa using c0),if_neg c1,if_neg (by simp[c2])];exact⟨rfl,by simp⟩
     | true=>
       left
       have e:zI m w l a b=(⟨b,dn m a none (zC w l b m.places.length l.length).1⟩,0):=by
        unfold zI;rw[if_neg (by simpa using c0),if_neg c1,if_pos c2]
       obtain⟨v1,v2,v3, -⟩:=dH hv
       refine⟨e,c0,by omega,rfl,?_⟩
       rw[e]
       exact s9 h (pz ..) (Ux (LA hs) v3 v1) ia.1 hab ib
 · right;unfold zI;rw[if_pos c0];exact⟨rfl,c0⟩
theorem LC{m:aK}(h:m.ok){w:Wh}(hv:dq m w=true)(l:List Int)(a b:Int):dq m (zI m w l a b).1=true:=by
 rcases LB h hv l a b with⟨-, -, -, -,v⟩ | ⟨e, -⟩
 · exact v
 · rw[e];exact hv
end Go.Ev
namespace Go.Ev
open Go
variable [Lib] [cu] [bP] [gG] [gM] [fW] [fS] [iR] [gF]
end Go.Ev
namespace Go.Ev
open Go
variable [Lib] [cu] [bP]
theorem DD{s:Wh}{t:Int}{p:Int}:p∈Kr s t↔0≤p∧p<s.frm.length∧nth s.frm p.toNat≤t:=by
 unfold Kr
 rw[wE]
 constructor
 · rintro ⟨k,rfl,h1,h2⟩
   exact⟨by omega,by omega,by simpa using h2⟩
 · rintro ⟨h1,h2,h3⟩
   exact⟨p.toNat,by omega,by omega,by simpa using h3⟩
section
variable {m : aK} (hm : m.ok) {N : Nat} {b : Bel} (hb : BOk m N b) {s : Wh} (hs : s.frm.length = m.places.length) {l : List Mch}
variable (hl : ∀ y ∈ l, y.pl.length ≤ m.places.length ∧ 1 ≤ y.pl.length ∧ ∀ x ∈ y.pl, 0 ≤ x ∧ x < m.places.length) {t a : Int} (t0 : 0 ≤ t) (t1 : t ≤ 10000) (a0 : 0 ≤ a) (a1 : a ≤ 10000) (d : aA)
include hm hb hs hl t0 t1 a0 a1
omit hm hb t0 t1 a1 in
end
def aA.skip(d:aA)(n:Int):Nat→aA
 | 0=>d
 | k+1=>((d.skip n k).next n).2
end Go.Ev
namespace Go.Ev
open Go
variable [Lib] [cu] [bP] [jO]
end Go.Ev
namespace Go.Ev
open Go
variable [Lib] [cu] [bP] [gG] [gM] [jO] [fW] [fS] [iR] [gF]
theorem G5(a b:List Int):∀n j,j<n→nth (HT a b n) j=min (nth a j) (nth b j)
 | 0,j,h=>by omega
 | n+1,j,h=>by
   have ln:=nj a b n
   by_cases e:j=n
   · subst e
     exact b8 (by simp only[HT];rw[List.getElem?_append_right (by omega),ln];simp)
   · have ih:=G5 a b n j (by omega)
     rw[← ih]
     have:(HT a b n)[j]?=some (nth (HT a b n) j):=ff (by omega)
     exact b8 (by simp only[HT];rw[List.getElem?_append_left (by omega)];exact this)
theorem Io{m:aK}(h:m.ok){a b:Wh}(ha:dq m a=true)(hb:dq m b=true):(lX a b).2=0∧dq m (lX a b).1=true∧(lX a b).1.frm.length=m.places.length∧∀j,j<m.places.length→nth (lX a b).1.frm j=min (nth a.frm j) (nth b.frm j):=by
 obtain⟨a1,a2,a3, -⟩:=dH ha
 obtain⟨b1,b2,b3, -⟩:=dH hb
 have ca:=y4 h ha
 have cb:=y4 h hb
 have e:lX a b=(⟨max a.time b.time,HT a.frm b.frm a.frm.length⟩,0):=by unfold lX;rw[if_pos (by omega)]
 rw[e]
 have mn:=fun j (hj:j<m.places.length)=>G5 a.frm b.frm a.frm.length j (by omega)
 refine⟨rfl,y3 h (by simp only[nj];exact a1) (by unfold inT at *;simp only;omega) (fun x hx=>?_) ?_,by simp only[nj];exact a1,mn⟩
 · obtain⟨j,hj⟩:=List.mem_iff_getElem?.1 hx
   have jl:=(List.getElem?_eq_some_iff.1 hj).1
   simp only[nj]at jl
   have:=mn j (by omega)
   rw[b8 hj]at this
   have x1:=a3 _ (ah (l:=a.frm) (j:=j) jl)
   have x2:=b3 _ (ah (l:=b.frm) (j:=j) (by omega))
   unfold plT inT at*
   omega
 · intro k hk back hi h1 h2 h3
   have r1:=Road.wW (h.rs _ (ah hk)) back
   have r2:=Road.AE (h.rs _ (ah hk)) back
   simp only at h2 h3 ⊢
   rw[mn _ (by omega)]at h2 h3 ⊢
   rw[mn _ (by omega)]
   have y1:=ca k hk back rfl h1
   have y2:=cb k hk back rfl h1
   omega
end Go.Ev
